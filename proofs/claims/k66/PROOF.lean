import PyProof.Rows.All
import Wide.All
import OpenK.AllK
import Wide.FinOn
import HandS.ForMost
import HandS.Exc
import HandS.TryOnly
import HandS.ExcOwn
import HandS.WordsExc
import HandS.Evl
import HandS.HeadHook2
import HandS.Defaults
import HandS.Wide
import HandS.TupAny
import HandS.Style
import HandS.IsInst
import HandS.SortInts
import HandS.WideBits
import HandS.EndBits
import HandS.Head0
import HandS.Head1
import HandS.Head2
import HandS.HeadEnd
import KE.GoesEnum
import HandS.TryMany
import HandS.ExcIs
import HandS.Dict
import HandS.More
import HandS.Conv
import HandS.Iter
import HandS.NoneIn
import HandS.CallSlots
import HandS.HotCalls
import KE.KDictCopyH
import HandS.Text
import HandS.RaiseMore
import HandS.Flt
import KE.KeyNested
import KE.KDictKeyed
import HandS.DictTup
import HandS.SetKeys
import HandS.SetFor
import HandS.Strs
import HandS.Deep
import PySem.Challenge.RW_shortbook_k66_whole_texts_doubled
open PySem.W renaming Frag→aq
open List renaming getElem?_eq_some_iff→au,length_append→aA,length_map→aC,replicate→aD,append_assoc→aG,mem_cons→aH,append_nil→aJ,getElem?_map→aK,mem_append→aM,mem_cons_of_mem→aN,getElem?_append_left→aO,getElem?_cons_zero→aQ,mem_singleton→aR,getElem?_eq_getElem→aU,getElem?_cons_succ→aW,mem_cons_self→aX,length_cons→aY,length_take→aZ,mem_of_getElem?→bf,map_cons→bA,mem_append_left→bB,getElem?_append_right→bD,getD→bF,not_mem_nil→bG,take_add_one→bH,mem_append_right→bK,take_append_drop→bM,take_of_length_le→bO,length_singleton→bQ,length_reverse→bR,map_congr_left→bT,take_length→bV,nodup_cons→bY,reverse_append→bZ,nodup_append→cA,map_append→cC,map_map→cD,mem_map→cG,length_nil→cH,replicate_succ→cI,take_append_of_le_length→cM,pairwise_iff_getElem→cP,nodup_nil→cR,cons_append→cW,map_nil→cZ,getElem_mem→dh,range→di,flatten_cons→dw,pairwise_cons→dB,length_eq_zero_iff→dG,length_range→dJ,of_mem_zip→dM,nil_append→dN,flatten_append→dO,find?_cons→dU,any_cons→dY
open PySem.PyData renaming int→aF,str→aV,tuple→bL,list→cJ,canLay0→dH,eqv→dI
open Option renaming map_eq_some_iff→aP,map_some→cU
open Nat renaming le_refl→bJ,mul_comm→bU,le_trans→cQ,zero_le→cX,lt_of_le_of_lt→dD,pow_le_pow_right→dF,lt_of_lt_of_le→dR,lt_or_ge→dW
open Int renaming emod_lt_of_pos→bW,emod_nonneg→cO,toNat_natCast→cY
open Bool renaming and_eq_true→cV
open String renaming reduceBEq→dX
set_option Elab.async false
set_option linter.all false
set_option maxRecDepth 100000
set_option maxHeartbeats 0
namespace DL
open PySem L2 Evl
abbrev D:=PyData
inductive NK where
 |lst|ins (c:Str) (fs:List Str)
inductive Sl where
 |un|dat (d:D)|own (d:D)|bor (d:D)|nst (k:NK) (cs:List Sl)|vP (k:NK) (cs:List Sl)|Vw (ks:List Key) (ls:List (List D))
abbrev Env:=List Sl
inductive ER where
 |ok (d:D)|ex (c:Str)|bad
inductive Out where
 |nx (ρ:Env)|rt (d:D)|rx (d:D) (ρ:Env)|bk (ρ:Env)|ct (ρ:Env)|ex (c:Str) (ρ:Env)|bad
def ER.bind(r:ER)(f:D→ER):ER:=match r with
 | .ok d=>f d
 | .ex c=> .ex c
 | .bad=> .bad
abbrev EM:=Env→ER
abbrev SM:=Env→Out
def keyD:Key→D
 | .inl i=> .int i
 | .inr x=> .str x
mutual
inductive Dr(K:aq)(H:Hp):V→D→Prop
 |non:Dr K H .non .none
 |bl (b:Bool):Dr K H (.bl b) (.bool b)
 |int (i:Int):Dr K H (.int i) (.int i)
 |str (x:Str):Dr K H (.str x) (.str x)
 |lst {a:Addr} {xs:List V} {ds:List D}:SqL K H a xs→ju K H xs ds→Dr K H (.ref a) (.list ds)
 |tup {a:Addr} {xs:List V} {ds:List D}:H a=some (.tup xs)→ju K H xs ds→Dr K H (.ref a) (.tuple ds)
 |dict0 {a:Addr}:Rd H a (.dK [])→Dr K H (.ref a) (.dict [])
 |DY {a:Addr} {o:Obj} {kvs:List (Key×V)} {ds:List (D×D)}:H a=some (.frz o (.dK kvs))→Vo K H kvs ds→Dr K H (.ref a) (.dict ds)
 |JF {a:Addr} {o:Obj} {kvs:List (List Key×V)} {ds:List (D×D)}:H a=some (.frz o (.dT kvs))→Y0 K H kvs ds→Dr K H (.ref a) (.dict ((.none, .none)::ds))
inductive ju(K:aq)(H:Hp):List V→List D→Prop
 |nil:ju K H [] []
 |cons {v:V} {vs:List V} {d:D} {ds:List D}:Dr K H v d→ju K H vs ds→ju K H (v::vs) (d::ds)
inductive Vo(K:aq)(H:Hp):List (Key×V)→List (D×D)→Prop
 |nil:Vo K H [] []
 |cons {k:Key} {v:V} {kvs:List (Key×V)} {d:D} {ds:List (D×D)}:Dr K H v d→Vo K H kvs ds→Vo K H ((k,v)::kvs) ((keyD k,d)::ds)
inductive Y0(K:aq)(H:Hp):List (List Key×V)→List (D×D)→Prop
 |nil:Y0 K H [] []
 |cons {k:List Key} {v:V} {kvs:List (List Key×V)} {d:D} {ds:List (D×D)}:Dr K H v d→Y0 K H kvs ds→Y0 K H ((k,v)::kvs) ((.tuple (k.map keyD),d)::ds)
end
mutual
theorem Dr.dp{K:aq}{H:Hp}:∀{d:D} {v:V},d.canLay0=true→Dr K H v d→Dp K H v d
 |_,_,_, .non=> .non
 |_,_,_, .bl b=> .bl b
 |_,_,_, .int i=> .int i
 |_,_,_, .str x=> .str x
 |_,_,h, .lst s a=> .lst s (ju.dp (by simpa [dH] using h) a)
 |_,_,h, .tup s a=> .tup (.inl (.inl s)) (ju.dp (by simpa [dH] using h) a)
 |_,_,h, .dict0 _=>by simp [dH] at h
 |_,_,h, .DY _ _=>by simp [dH] at h
 |_,_,h, .JF _ _=>by simp [dH] at h
theorem ju.dp{K:aq}{H:Hp}:∀{ds:List D} {vs:List V},PyData.canLayAll0 ds=true→ju K H vs ds→DpAll K H vs ds
 |_,_,_, .nil=> .nil
 |d::ds,_,h, .cons a b=>by
  have h' :d.canLay0=true∧PyData.canLayAll0 ds=true:=by simpa [PyData.canLayAll0] using h
  exact .cons (Dr.dp h'.1 a) (ju.dp h'.2 b)
end
inductive Ob(K:aq)(Hb:Hp):HO→D→Prop
 |lst {xs:List V} {ds:List D}:ju K Hb xs ds→Ob K Hb (.lst xs) (.list ds)
 |dK {kvs:List (Key×V)} {ds:List (D×D)}:Paired (fun(p:Key×V) (q:D×D)=>q.1=keyD p.1∧Dr K Hb p.2 q.2) kvs ds→Ob K Hb (.dK kvs) (.dict ds)
 |dT {kvs:List (List Key×V)} {ds:List (D×D)}:Paired (fun(p:List Key×V) (q:D×D)=>q.1= .tuple (p.1.map keyD)∧Dr K Hb p.2 q.2) kvs ds→Ob K Hb (.dT kvs) (.dict ((.none, .none)::ds))
def Ow(K:aq)(Hb H:Hp)(p:Addr)(d:D):Prop:=∃o,H p=some o∧Ob K Hb o d
def RdN(H:Hp)(p:Addr)(o:HO):Prop:=H p=some o∨(∃od,H p=some (.frz od o))∧∃kvs,o= .dK kvs
theorem RdN.rd{H:Hp}{p:Addr}{o:HO}(h:RdN H p o):Rd H p o:=by
 rcases h with h|⟨h,_⟩
 ·exact .inl h
 ·exact .inr h
theorem RdN.ex{H H' :Hp}{p:Addr}{o:HO}(e:Ex H H')(h:RdN H p o):RdN H' p o:=by
 rcases h with h|⟨⟨od,h⟩,z⟩
 ·exact .inl (e _ _ h)
 ·exact .inr ⟨⟨od,e _ _ h⟩,z⟩
def Yx(K:aq)(Hb H:Hp)(p:Addr)(d:D):Prop:=∃o,RdN H p o∧Ob K Hb o d
theorem Ow.b{K:aq}{Hb H:Hp}{p:Addr}{d:D}(h:Ow K Hb H p d):Yx K Hb H p d:=let ⟨o,a,b⟩:=h;⟨o, .inl a,b⟩
def Bo(K:aq)(Hb H:Hp)(v:V)(d:D):Prop:=Dr K Hb v d∨∃p,v= .ref p∧Yx K Hb H p d
mutual
theorem mY{K:aq}{H H' :Hp}(e:Ex H H'):∀{d:D} {v:V},Dr K H v d→Dr K H' v d
 |_,_, .non=> .non
 |_,_, .bl b=> .bl b
 |_,_, .int i=> .int i
 |_,_, .str x=> .str x
 |_,_, .lst s a=> .lst (ex_l e s) (m9 e a)
 |_,_, .tup s a=> .tup (e _ _ s) (m9 e a)
 |_,_, .dict0 s=> .dict0 (ex_rd e s)
 |_,_, .DY s a=> .DY (e _ _ s) (Xo e a)
 |_,_, .JF s a=> .JF (e _ _ s) (adK e a)
theorem m9{K:aq}{H H' :Hp}(e:Ex H H'):∀{ds:List D} {vs:List V},ju K H vs ds→ju K H' vs ds
 |_,_, .nil=> .nil
 |_,_, .cons a b=> .cons (mY e a) (m9 e b)
theorem Xo{K:aq}{H H' :Hp}(e:Ex H H'):∀{ds:List (D×D)} {kvs:List (Key×V)},Vo K H kvs ds→Vo K H' kvs ds
 |_,_, .nil=> .nil
 |_,_, .cons a b=> .cons (mY e a) (Xo e b)
theorem adK{K:aq}{H H' :Hp}(e:Ex H H'):∀{ds:List (D×D)} {kvs:List (List Key×V)},Y0 K H kvs ds→Y0 K H' kvs ds
 |_,_, .nil=> .nil
 |_,_, .cons a b=> .cons (mY e a) (adK e b)
end
theorem Paired.imp{α β:Type}{F G:α→β→Prop}(f:∀a b,F a b→G a b):∀{l:List α} {m:List β},Paired F l m→Paired G l m
 |_,_, .nil=> .nil
 |_,_, .cons a b=> .cons (f _ _ a) (Paired.imp f b)
section
variable{K:aq}{H H' Hb Hb' Hf:Hp}{v:V}{d:D}{p:Addr}{o:HO}
theorem Ob.ex(e:Ex Hb Hb')(h:Ob K Hb o d):Ob K Hb' o d:=by
 cases h with
 |lst a=>exact .lst (m9 e a)
 |dK a=>exact .dK (Paired.imp (fun _ _ q=>⟨q.1,mY e q.2⟩) a)
 |dT a=>exact .dT (Paired.imp (fun _ _ q=>⟨q.1,mY e q.2⟩) a)
theorem Ow.ex(eb:Ex Hb Hb')(e:Ex H H')(h:Ow K Hb H p d):Ow K Hb' H' p d:=by
 obtain⟨o,h1,h2⟩:=h
 exact⟨o,e _ _ h1,h2.ex eb⟩
theorem Yx.ex(eb:Ex Hb Hb')(e:Ex H H')(h:Yx K Hb H p d):Yx K Hb' H' p d:=by
 obtain⟨o,h1,h2⟩:=h
 exact⟨o,h1.ex e,h2.ex eb⟩
theorem Bo.ex(eb:Ex Hb Hb')(e:Ex H H')(h:Bo K Hb H v d):Bo K Hb' H' v d:=by
 rcases h with h|⟨p,h1,h2⟩
 ·exact .inl (mY eb h)
 ·exact .inr ⟨p,h1,h2.ex eb e⟩
theorem iV:∀{ds:List D} {vs:List V},ju K H vs ds→vs.length=ds.length
 |_,_, .nil=>rfl
 |_,_, .cons _ b=>by
  have:=iV b
  simp [this]
theorem uP:∀{ds:List D} {vs:List V} {i:Nat} {v:V},ju K H vs ds→vs[i]? =some v→∃d,ds[i]? =some d∧Dr K H v d
 |_,_,_,_, .nil,e=>by simp at e
 |_,_,0,_, .cons a _,e=>by
  simp at e
  subst e
  exact⟨_,rfl,a⟩
 |_,_,i+1,_, .cons _ b,e=>by
  obtain⟨d,h1,h2⟩:=uP (i:=i) b (by simpa using e)
  exact⟨d,by simpa using h1,h2⟩
theorem Ji:∀{ds:List D} {vs:List V} {i:Nat} {d:D},ju K H vs ds→ds[i]? =some d→∃v,vs[i]? =some v∧Dr K H v d
 |_,_,_,_, .nil,e=>by simp at e
 |_,_,0,_, .cons a _,e=>by
  simp at e
  subst e
  exact⟨_,rfl,a⟩
 |_,_,i+1,_, .cons _ b,e=>by
  obtain⟨d,h1,h2⟩:=Ji (i:=i) b (by simpa using e)
  exact⟨d,by simpa using h1,h2⟩
theorem uR:∀{ds es:List D} {vs us:List V},ju K H vs ds→ju K H us es→ju K H (vs++us) (ds++es)
 |_,_,_,_, .nil,s=>s
 |_,_,_,_, .cons a b,s=> .cons a (uR b s)
theorem Q7:∀{ds:List D} {vs:List V} (n:Nat),ju K H vs ds→ju K H (vs.take n) (ds.take n)
 |_,_,0,_=> .nil
 |_,_,_+1, .nil=> .nil
 |_,_,n+1, .cons a b=> .cons a (Q7 n b)
theorem Tc:∀{ds:List D} {vs:List V} (n:Nat),ju K H vs ds→ju K H (vs.drop n) (ds.drop n)
 |_,_,0,h=>h
 |_,_,_+1, .nil=> .nil
 |_,_,n+1, .cons _ b=>Tc n b
theorem VL:∀{ds:List D} {vs:List V} (n:Nat) {v:V} {d:D},Dr K H v d→ju K H vs ds→ju K H (vs.set n v) (ds.set n d)
 |_,_,_,_,_,_, .nil=> .nil
 |_,_,0,_,_,h, .cons _ b=> .cons h b
 |_,_,n+1,_,_,h, .cons a b=> .cons a (VL n h b)
def NT:Option HO→Prop
 |none=>False
 |some (.tup _)=>False
 |some _=>True
theorem Ob.nt{K:aq}{Hb:Hp}{o:HO}{d:D}(h:Ob K Hb o d):NT (some o):=by cases h<;>exact True.intro
theorem Ow.nt{K:aq}{Hb H:Hp}{p:Addr}{d:D}(h:Ow K Hb H p d):NT (H p):=by
 obtain⟨o,q,h⟩:=h
 rw [q]
 exact h.nt
structure Gw(Hb H Hb' H' :Hp):Prop where
 h:Ex H H'
 b:Ex Hb Hb'
 bh:Ex Hb' H'
 nw:∀a,Hb a=none→NT (H a)→Hb' a=none
theorem Gw.refl(e:Ex Hb H):Gw Hb H Hb H:=⟨Ex.refl _,Ex.refl _,e,fun _ h _=>h⟩
theorem Nu{H H' :Hp}(e:Ex H H'){a:Addr}(h:NT (H a)):NT (H' a):=by
 cases q:H a with
 |none=>
  rw [q] at h
  exact h.elim
 |some o=>
  rw [e a o q]
  rw [q] at h
  exact h
theorem Gw.trans{Hb H Hb1 H1 Hb2 H2:Hp}(g:Gw Hb H Hb1 H1)(k:Gw Hb1 H1 Hb2 H2):Gw Hb H Hb2 H2:=
 ⟨g.h.trans k.h,g.b.trans k.b,k.bh,fun a h1 h2=>k.nw a (g.nw a h1 h2) (Nu g.h h2)⟩
theorem Gw.fix(e:Ex Hb H)(h:H p=none):Gw Hb H (upd Hb p o) (upd H p o) where
 h:=Ex.new h
 b:=Ex.new (fresh_back e h)
 bh:=fun a u q=>by
  by_cases z:a=p
  ·subst z
   rw [upd_same] at q⊢
   exact q
  ·rw [upd_ne z] at q⊢
   exact e a u q
 nw:=fun a h1 h2=>by
  have z:a≠p:=fun z=>by
   subst z
   rw [h] at h2
   exact h2
  rw [upd_ne z]
  exact h1
theorem Gw.new(e:Ex Hb H)(h:H p=none):Gw Hb H Hb (upd H p o):=
 ⟨Ex.new h,Ex.refl _,e.trans (Ex.new h),fun _ h1 _=>h1⟩
end
inductive yh(K:aq)(Hb H:Hp):List V→List Sl→List Addr→Prop
 |nil:yh K Hb H [] [] []
 |dat {v:V} {d:D} {vs:List V} {cs:List Sl} {fp:List Addr}:Dr K Hb v d→yh K Hb H vs cs fp→yh K Hb H (v::vs) (.dat d::cs) fp
 |own {p:Addr} {d:D} {vs:List V} {cs:List Sl} {fp:List Addr}:Ow K Hb H p d→yh K Hb H vs cs fp→yh K Hb H (.ref p::vs) (.own d::cs) (p::fp)
 |un {v:V} {vs:List V} {cs:List Sl} {fp:List Addr}:yh K Hb H vs cs fp→yh K Hb H (v::vs) (.un::cs) fp
def Y4(K:aq)(H:Hp)(p:Addr)(vs:List V):NK→List Addr→Prop
 | .lst,hp=>H p=some (.lst vs)∧hp=[p]
 | .ins c fs,hp=>∃dx,H p=some (.ins (He.ga K c) dx (fs.zip vs))∧H dx=some (.own p)∧vs.length=fs.length∧hp=[p,dx]
inductive Wo(K:aq)(Hb H:Hp):List V→List Sl→Prop
 |nil:Wo K Hb H [] []
 |dat {v:V} {d:D} {vs:List V} {cs:List Sl}:Dr K Hb v d→Wo K Hb H vs cs→Wo K Hb H (v::vs) (.dat d::cs)
 |bor {p:Addr} {d:D} {vs:List V} {cs:List Sl}:Yx K Hb H p d→Wo K Hb H vs cs→Wo K Hb H (.ref p::vs) (.bor d::cs)
 |un {v:V} {vs:List V} {cs:List Sl}:Wo K Hb H vs cs→Wo K Hb H (v::vs) (.un::cs)
def NsR(K:aq)(Hb H:Hp)(v:V)(k:NK)(cs:List Sl)(fp:List Addr):Prop:=∃p vs hp fq,v= .ref p∧Y4 K H p vs k hp∧yh K Hb H vs cs fq∧fp=hp++fq
inductive Ml(K:aq)(Hb H:Hp):List Addr→List (List D)→Prop
 |nil:Ml K Hb H [] []
 |cons {q:Addr} {xs:List V} {ds:List D} {qs:List Addr} {ls:List (List D)}:H q=some (.lst xs)→ju K Hb xs ds→Ml K Hb H qs ls→Ml K Hb H (q::qs) (ds::ls)
def SlO(K:aq)(Hf Hb H:Hp)(x:Option (Option V)):Sl→List Addr→Prop
 | .un,fp=>fp=[]
 | .dat d,fp=>fp=[]∧∃v,x=some (some v)∧Dr K Hb v d
 | .bor d,fp=>fp=[]∧∃v,x=some (some v)∧(Dr K Hb v d∨∃p,v= .ref p∧Yx K Hb Hf p d)
 | .own d,fp=>∃p,fp=[p]∧x=some (some (.ref p))∧Ow K Hb H p d
 | .nst k cs,fp=>∃v,x=some (some v)∧NsR K Hb H v k cs fp
 | .vP k cs,fp=>fp=[]∧∃p vs hp,x=some (some (.ref p))∧Y4 K Hf p vs k hp∧Wo K Hb Hf vs cs
 | .Vw ks ls,fp=>∃p qs,fp=p::qs∧x=some (some (.ref p))∧H p=some (.dK (ks.zip (qs.map V.ref)))∧qs.length=ks.length∧Ml K Hb H qs ls
section
variable{K:aq}{H H' Hb Hb' Hf:Hp}
theorem yh.frame{vs:List V}{cs:List Sl}{fp:List Addr}(h:yh K Hb H vs cs fp)(eb:Ex Hb Hb')(e:∀p∈fp,∀o,H p=some o→H' p=some o):yh K Hb' H' vs cs fp:=by
 induction h with
 |nil=>exact .nil
 |dat a _ ih=>exact .dat (mY eb a) (ih e)
 |own a _ ih=>
  obtain⟨o,a1,a2⟩:=a
  exact .own ⟨o,e _ aX o a1,a2.ex eb⟩ (ih fun p hp=>e p (aN _ hp))
 |un _ ih=>exact .un (ih e)
theorem Y4.frame{p:Addr}{vs:List V}{k:NK}{hp:List Addr}(h:Y4 K H p vs k hp)(e:∀p∈hp,∀o,H p=some o→H' p=some o):Y4 K H' p vs k hp:=by
 cases k with
 |lst=>
  obtain⟨h1,h2⟩:=h
  subst h2
  exact⟨e _ (by simp) _ h1,rfl⟩
 |ins c fs=>
  obtain⟨dx,h1,h2,h3,h4⟩:=h
  subst h4
  exact⟨dx,e _ (by simp) _ h1,e _ (by simp) _ h2,h3,rfl⟩
theorem NsR.frame{v:V}{k:NK}{cs:List Sl}{fp:List Addr}(h:NsR K Hb H v k cs fp)(eb:Ex Hb Hb')(e:∀p∈fp,∀o,H p=some o→H' p=some o):NsR K Hb' H' v k cs fp:=by
 obtain⟨p,vs,hp,fq,h1,h2,h3,rfl⟩:=h
 exact⟨p,vs,hp,fq,h1,h2.frame fun a ha=>e a (bB _ ha),h3.frame eb fun a ha=>e a (bK _ ha),rfl⟩
theorem Wo.ex{vs:List V}{cs:List Sl}(h:Wo K Hb H vs cs)(eb:Ex Hb Hb')(e:Ex H H'):Wo K Hb' H' vs cs:=by
 induction h with
 |nil=>exact .nil
 |dat a _ ih=>exact .dat (mY eb a) ih
 |bor a _ ih=>exact .bor (a.ex eb e) ih
 |un _ ih=>exact .un ih
theorem Ml.frame{qs:List Addr}{ls:List (List D)}(h:Ml K Hb H qs ls)(eb:Ex Hb Hb')(e:∀p∈qs,∀o,H p=some o→H' p=some o):Ml K Hb' H' qs ls:=by
 induction h with
 |nil=>exact .nil
 |cons a b _ ih=>exact .cons (e _ aX _ a) (m9 eb b) (ih fun p hp=>e p (aN _ hp))
theorem Ml.nt{qs:List Addr}{ls:List (List D)}(h:Ml K Hb H qs ls):∀p∈qs,NT (H p):=by
 induction h with
 |nil=>intro p hp;cases hp
 |cons a b _ ih=>
  intro p hp
  rcases aH.mp hp with rfl|hp
  ·rw [a]
   exact True.intro
  ·exact ih p hp
theorem SlO.frame{x:Option (Option V)}{s:Sl}{fp:List Addr}(h:SlO K Hf Hb H x s fp)(eb:Ex Hb Hb')(e:∀p∈fp,∀o,H p=some o→H' p=some o):SlO K Hf Hb' H' x s fp:=by
 cases s with
 |un=>exact h
 |dat d=>
  obtain⟨h0,v,h1,h2⟩:=h
  exact⟨h0,v,h1,mY eb h2⟩
 |bor d=>
  obtain⟨h0,v,h1,h2⟩:=h
  refine⟨h0,v,h1,?_⟩
  rcases h2 with h2|⟨p,h3,h4⟩
  ·exact .inl (mY eb h2)
  ·exact .inr ⟨p,h3,h4.ex eb (Ex.refl _)⟩
 |own d=>
  obtain⟨p,rfl,h1,o,h2,h3⟩:=h
  exact⟨p,rfl,h1,o,e p (by simp) o h2,h3.ex eb⟩
 |nst k cs=>
  obtain⟨v,h1,h2⟩:=h
  exact⟨v,h1,h2.frame eb e⟩
 |vP k cs=>
  obtain⟨h0,p,vs,hp,h1,h2,h3⟩:=h
  exact⟨h0,p,vs,hp,h1,h2,h3.ex eb (Ex.refl _)⟩
 |Vw ks ls=>
  obtain⟨p,qs,rfl,h1,h2,h3,h4⟩:=h
  exact⟨p,qs,rfl,h1,e p (by simp) _ h2,h3,h4.frame eb fun a ha=>e a (aN _ ha)⟩
theorem yh.nt{vs:List V}{cs:List Sl}{fp:List Addr}(h:yh K Hb H vs cs fp):∀p∈fp,NT (H p):=by
 induction h with
 |nil=>intro p hp;cases hp
 |dat _ _ ih=>exact ih
 |own a _ ih=>
  intro p hp
  rcases aH.mp hp with rfl|hp
  ·exact a.nt
  ·exact ih p hp
 |un _ ih=>exact ih
theorem NsR.nt{v:V}{k:NK}{cs:List Sl}{fp:List Addr}(h:NsR K Hb H v k cs fp):∀p∈fp,NT (H p):=by
 obtain⟨p,vs,hp,fq,h1,h2,h3,rfl⟩:=h
 intro a ha
 rcases aM.mp ha with ha|ha
 ·cases k with
  |lst=>
   obtain⟨z1,rfl⟩:=h2
   rw [aR.mp ha,z1]
   exact True.intro
  |ins c fs=>
   obtain⟨dx,z1,z2,_,rfl⟩:=h2
   rcases aH.mp ha with rfl|ha
   ·rw [z1]
    exact True.intro
   ·rw [aR.mp ha,z2]
    exact True.intro
 ·exact h3.nt a ha
theorem SlO.nt{x:Option (Option V)}{s:Sl}{fp:List Addr}(h:SlO K Hf Hb H x s fp):∀p∈fp,NT (H p):=by
 cases s with
 |un=>cases h;intro p hp;cases hp
 |dat d=>obtain⟨rfl,_⟩:=h;intro p hp;cases hp
 |bor d=>obtain⟨rfl,_⟩:=h;intro p hp;cases hp
 |own d=>
  obtain⟨p,rfl,h1,h2⟩:=h
  intro a ha
  rw [aR.mp ha]
  exact h2.nt
 |nst k cs=>
  obtain⟨v,h1,h2⟩:=h
  exact h2.nt
 |vP k cs=>obtain⟨rfl,_⟩:=h;intro p hp;cases hp
 |Vw ks ls=>
  obtain⟨p,qs,rfl,h1,h2,h3,h4⟩:=h
  intro a ha
  rcases aH.mp ha with rfl|ha
  ·rw [h2]
   exact True.intro
  ·exact h4.nt a ha
theorem wC{H:Hp}{p:Addr}(h:NT (H p)):∃o,H p=some o:=by
 cases q:H p with
 |none=>rw [q] at h;exact h.elim
 |some o=>exact⟨o,rfl⟩
end
abbrev Pn:=List (Nat×Addr)
structure Mi(K:aq)(pn:Pn)(Hf Hb H:Hp)(σ:L2.St)(ρ:Env)(F:Nat→List Addr):Prop where
 ef:Ex Hf H
 eb:Ex Hb H
 len:σ.length=ρ.length
 sl:∀(i:Nat) s,ρ[i]? =some s→SlO K Hf Hb H σ[i]? s (F i)
 nd:∀i:Nat,(F i).Nodup
 fr:∀(i:Nat) p,p∈F i→Hf p=none∧Hb p=none∧NT (H p)
 dj:∀(i j:Nat) p,i≠j→p∈F i→p∉F j
 pin:∀(i:Nat) a,(i,a)∈pn→σ[i]? =some (some (.ref a))
def gJ(K:aq)(pn:Pn)(Hf Hb H:Hp)(σ:L2.St)(ρ:Env):Prop:=∃F,Mi K pn Hf Hb H σ ρ F
abbrev yg(pn:Pn)(i:Nat):Prop:=∀a,(i,a)∉pn
section
variable{pn:Pn}{K:aq}{H H' Hb Hb' Hf H0 Hb0:Hp}{v:V}{d:D}{p:Addr}{o:HO}{σ:L2.St}{ρ:Env}{i:Nat}
theorem gJ.ef(R:gJ K pn Hf Hb H σ ρ):Ex Hf H:=let ⟨_,r⟩:=R;r.ef
theorem gJ.eb(R:gJ K pn Hf Hb H σ ρ):Ex Hb H:=let ⟨_,r⟩:=R;r.eb
theorem gJ.len(R:gJ K pn Hf Hb H σ ρ):σ.length=ρ.length:=let ⟨_,r⟩:=R;r.len
theorem gJ.pin(R:gJ K pn Hf Hb H σ ρ):∀(i:Nat) a,(i,a)∈pn→σ[i]? =some (some (.ref a)):=let ⟨_,r⟩:=R;r.pin
theorem gJ.unpin(R:gJ K pn Hf Hb H σ ρ):gJ K [] Hf Hb H σ ρ:=by
 obtain⟨F,r⟩:=R
 exact⟨F,r.ef,r.eb,r.len,r.sl,r.nd,r.fr,r.dj,fun _ _ z=>nomatch z⟩
theorem gJ.dat(R:gJ K pn Hf Hb H σ ρ)(i:Nat)(d:D)(h:ρ[i]? =some (.dat d)):∃v,σ[i]? =some (some v)∧Dr K Hb v d:=by
 obtain⟨F,r⟩:=R
 exact(r.sl i _ h).2
theorem gJ.own(R:gJ K pn Hf Hb H σ ρ)(i:Nat)(d:D)(h:ρ[i]? =some (.own d)):∃p,σ[i]? =some (some (.ref p))∧Ow K Hb H p d∧Hf p=none∧Hb p=none:=by
 obtain⟨F,r⟩:=R
 obtain⟨p,h1,h2,h3⟩:=r.sl i _ h
 have h4:=r.fr i p (by rw [h1];simp)
 exact⟨p,h2,h3,h4.1,h4.2.1⟩
theorem gJ.bor(R:gJ K pn Hf Hb H σ ρ)(i:Nat)(d:D)(h:ρ[i]? =some (.bor d)):∃v,σ[i]? =some (some v)∧(Dr K Hb v d∨∃p,v= .ref p∧Yx K Hb H p d∧Yx K Hb Hf p d):=by
 obtain⟨F,r⟩:=R
 obtain⟨_,v,h1,h2⟩:=r.sl i _ h
 refine⟨v,h1,?_⟩
 rcases h2 with h2|⟨p,h3,h4⟩
 ·exact .inl h2
 ·exact .inr ⟨p,h3,h4.ex (Ex.refl _) r.ef,h4⟩
theorem Je{ρ:Env}{i j:Nat}{s t:Sl}(h:(ρ.set i s)[j]? =some t):(j=i∧t=s)∨(j≠i∧ρ[j]? =some t):=by
 by_cases e:i=j
 ·subst e
  rw [List.getElem?_set] at h
  simp at h
  exact .inl ⟨rfl,h.2.symm⟩
 ·rw [List.getElem?_set_ne e] at h
  exact .inr ⟨fun z=>e z.symm,h⟩
theorem Y8{σ:L2.St}{i j:Nat}{x:Option V}(h:j≠i):(σ.set i x)[j]? =σ[j]? :=List.getElem?_set_ne (fun z=>h z.symm)
theorem Qh{σ:L2.St}{i:Nat}{x:Option V}(h:i<σ.length):(σ.set i x)[i]? =some x:=List.getElem?_set_self h
theorem aeA{ρ:Env}{i:Nat}{s t:Sl}(h:(ρ.set i s)[i]? =some t):i<ρ.length:=by
 have:=(au.mp h).1
 simpa using this
theorem Mi.step{F:Nat→List Addr}{s:Sl}{fp:List Addr}{σ' :L2.St}(R:Mi K pn Hf Hb H σ ρ F)(ef:Ex Hf H')(eb:Ex Hb' H')(b:Ex Hb Hb')(hl:σ'.length=σ.length)(hσ:∀j,j≠i→σ'[j]? =σ[j]?)
 (keep:∀p,p∉F i→Hf p=none→Hb p=none→NT (H p)→H' p=H p∧Hb' p=none) (hs:i<ρ.length→SlO K Hf Hb' H' σ'[i]? s fp) (nd:fp.Nodup) (fr:∀p∈fp,Hf p=none∧Hb' p=none∧NT (H' p)) (dj:∀j p,j≠i→p∈fp→p∉F j) (pin:∀a,(i,a)∈pn→σ'[i]? =some (some (.ref a))):
 Mi K pn Hf Hb' H' σ' (ρ.set i s) (fun j=>if j=i then fp else F j):=by
 have kp:∀j p,j≠i→p∈F j→H' p=H p∧Hb' p=none:=fun j p ne hp=>by
  obtain⟨f1,f2,f3⟩:=R.fr j p hp
  exact keep p (R.dj j i p ne hp) f1 f2 f3
 refine⟨ef,eb,by rw [hl,R.len];simp,fun j t q=> ?_,fun j=> ?_,fun j p hp=> ?_,fun j k p ne hp=> ?_,fun j a q=> ?_⟩
 ·rcases Je q with⟨rfl,z⟩|⟨z,q'⟩
  ·subst z
   simp only [if_true]
   exact hs (aeA q)
  ·simp only [if_neg z]
   rw [hσ j z]
   exact(R.sl j t q').frame b fun p hp o ho=>by rw [(kp j p z hp).1];exact ho
 ·by_cases z:j=i
  ·simp only [z,if_true]
   exact nd
  ·simp only [if_neg z]
   exact R.nd j
 ·by_cases z:j=i
  ·simp only [z,if_true] at hp
   exact fr p hp
  ·simp only [if_neg z] at hp
   obtain⟨f1,f2,f3⟩:=R.fr j p hp
   obtain⟨k1,k2⟩:=kp j p z hp
   exact⟨f1,k2,by rw [k1];exact f3⟩
 ·by_cases z:j=i
  ·simp only [z,if_true] at hp
   by_cases z2:k=i
   ·exact absurd (z.trans z2.symm) ne
   ·simp only [if_neg z2]
    exact dj k p z2 hp
  ·simp only [if_neg z] at hp
   by_cases z2:k=i
   ·simp only [z2,if_true]
    exact fun w=>dj j p z w hp
   ·simp only [if_neg z2]
    exact R.dj j k p ne hp
 ·by_cases z:j=i
  ·subst z
   exact pin a q
  ·rw [hσ j z]
   exact R.pin j a q
theorem gJ.gw(R:gJ K pn Hf Hb H σ ρ)(g:Gw Hb H Hb' H'):gJ K pn Hf Hb' H' σ ρ:=by
 obtain⟨F,r⟩:=R
 have kp:∀j p,p∈F j→H' p=H p∧Hb' p=none:=fun j p hp=>by
  obtain⟨f1,f2,f3⟩:=r.fr j p hp
  obtain⟨o,ho⟩:=wC f3
  exact⟨by rw [ho];exact g.h p o ho,g.nw p f2 f3⟩
 exact⟨F,r.ef.trans g.h,g.bh,r.len,fun i s q=>(r.sl i s q).frame g.b fun p hp o ho=>g.h p o ho,r.nd,fun i p hp=>⟨(r.fr i p hp).1,(kp i p hp).2,by rw [(kp i p hp).1];exact(r.fr i p hp).2.2⟩,r.dj,r.pin⟩
theorem gJ.al'{x:Option V}{s:Sl}(R:gJ K pn Hf Hb H σ ρ)(ho:yg pn i)(h:s= .un∨∃v d,x=some v∧s= .dat d∧Dr K Hb v d):gJ K pn Hf Hb H (σ.set i x) (ρ.set i s):=by
 obtain⟨F,r⟩:=R
 refine⟨_,r.step (fp:=[]) r.ef r.eb (Ex.refl _) (by simp) (fun j z=>Y8 z) (fun p _ _ h2 _=>⟨rfl,h2⟩) (fun hi=> ?_) cR (fun p hp=>by cases hp) (fun j p _ hp=>by cases hp) (fun a q=>absurd q (ho a))⟩
 rcases h with rfl|⟨v,d,rfl,rfl,h3⟩
 ·rfl
 ·exact⟨rfl,v,Qh (by rw [r.len];exact hi),h3⟩
theorem gJ.UJ(R:gJ K pn Hf Hb H σ ρ)(ho:yg pn i)(h:Dr K Hb v d):gJ K pn Hf Hb H (σ.set i (some v)) (ρ.set i (.dat d)):=R.al' ho (.inr ⟨v,d,rfl,rfl,h⟩)
theorem gJ.amf{x:Option V}(R:gJ K pn Hf Hb H σ ρ)(ho:yg pn i):gJ K pn Hf Hb H (σ.set i x) (ρ.set i .un):=R.al' ho (.inl rfl)
theorem gJ.drop(R:gJ K pn Hf Hb H σ ρ)(i:Nat):gJ K pn Hf Hb H σ (ρ.set i .un):=by
 obtain⟨F,r⟩:=R
 exact⟨_,r.step (fp:=[]) r.ef r.eb (Ex.refl _) rfl (fun j z=>rfl) (fun p _ _ h2 _=>⟨rfl,h2⟩) (fun hi=>rfl) cR (fun p hp=>by cases hp) (fun j p _ hp=>by cases hp) (fun a q=>r.pin i a q)⟩
theorem gJ.agW(R:gJ K pn Hf Hb0 H0 σ ρ)(ho:yg pn i)(g:Gw Hb0 H0 Hb H)(h0:H0 p=none)(hb:Hb p=none)(h:Ow K Hb H p d):gJ K pn Hf Hb H (σ.set i (some (.ref p))) (ρ.set i (.own d)):=by
 obtain⟨F,r⟩:=R
 refine⟨_,r.step (fp:=[p]) (r.ef.trans g.h) g.bh g.b (by simp) (fun j z=>Y8 z) (fun a _ _ h2 h3=> ?_) (fun hi=>⟨p,rfl,Qh (by rw [r.len];exact hi),h⟩) (by simp) (fun a ha=> ?_) (fun j a _ ha hj=> ?_) (fun a q=>absurd q (ho a))⟩
 ·obtain⟨o,e⟩:=wC h3
  exact⟨by rw [e];exact g.h a o e,g.nw a h2 h3⟩
 ·rw [aR.mp ha]
  exact⟨fresh_back r.ef h0,hb,h.nt⟩
 ·rw [aR.mp ha] at hj
  have z:=(r.fr j p hj).2.2
  rw [h0] at z
  exact z
theorem gJ.write(R:gJ K pn Hf Hb H σ ρ)(hi:ρ[i]? =some (.own d))(hv:σ[i]? =some (some (.ref p))){o' :HO}{d' :D}(h:Ob K Hb o' d'):gJ K pn Hf Hb (upd H p o') σ (ρ.set i (.own d')):=by
 obtain⟨F,r⟩:=R
 obtain⟨q,h1,h2,h3⟩:=r.sl i _ hi
 rw [hv] at h2
 cases h2
 obtain⟨f1,f2,f3⟩:=r.fr i p (by rw [h1];simp)
 refine⟨_,r.step (fp:=[p]) (fun a o e=>by rw [upd_ne (ne_of_none e f1)];exact r.ef a o e) (fun a o e=>by rw [upd_ne (ne_of_none e f2)];exact r.eb a o e) (Ex.refl _) rfl (fun j z=>rfl) (fun a ha _ h2 _=>⟨upd_ne (fun z=>ha (by rw [h1,z];simp)),h2⟩) (fun _=>⟨p,rfl,hv,_,upd_same,h⟩) (by simp) (fun a ha=> ?_) (fun j a z ha hj=> ?_) (fun a q=>r.pin i a q)⟩
 ·rw [aR.mp ha,upd_same]
  exact⟨f1,f2,h.nt⟩
 ·exact r.dj j i a z hj (by rw [h1];exact ha)
end
end DL
namespace DL
open PySem L2 Evl
inductive Kd where
 |dat|new|bor|io (p:Addr)|tl
def Kd.arg:Kd→Bool
 | .io _=>false
 | .tl=>false
 |_=>true
def Rs(K:aq)(kd:Kd)(H0 Hb H:Hp)(v:V)(d:D):Prop:=match kd with
 | .dat=>Dr K Hb v d
 | .new=>∃p,v= .ref p∧H0 p=none∧Hb p=none∧Ow K Hb H p d
 | .bor=>Bo K Hb H v d
 | .io p=>∃d0 c,d= .tuple [d0,c]∧Dr K Hb v d0∧H0 p=none∧Hb p=none∧Ow K Hb H p c
 | .tl=>∃(p q:Addr) (rv:V) (xs:List V) (r:D) (ps:List D),d= .tuple [r, .list ps]∧v= .ref p∧(H0 p=none∧H0 q=none)∧(Hb p=none∧Hb q=none)∧H p=some (.tup [rv, .ref q])∧H q=some (.lst xs)∧Dr K Hb rv r∧ju K Hb xs ps
structure WQ where
 w:WX
 pin:Pn
def CN(K:aq)(W:WQ)(kd:Kd)(m:EM):TE:=fun σ H Q=>∃(Hf Hb:Hp) (ρ:Env),gJ K W.pin Hf Hb H σ ρ∧
 (∀d,m ρ= .ok d→∀v Hb' H',Gw Hb H Hb' H' →Rs K kd H Hb' H' v d→Q v H')∧
 (∀c,m ρ= .ex c→∀Hb' H',Gw Hb H Hb' H' →W.w (.ref (He.ga K c)) none σ H')∧m ρ≠ .bad
abbrev DE(X:Cx)(W:WQ)(kd:Kd)(e:Expr)(m:EM):Prop:=PE X e (CN X.K W kd m)
theorem PE.imp{X:Cx}{e:Expr}{t t' :TE}(h:PE X e t)(i:∀σ H Q,t' σ H Q→t σ H Q):PE X e t' :=⟨fun pins s σ H Q I q=>h.run pins s σ H Q I (i σ H Q q)⟩
theorem PT.imp{X:Cx}{e:Expr}{t t' :TT}(h:PT X e t)(i:∀σ H Q,t' σ H Q→t σ H Q):PT X e t' :=⟨fun pins s σ H Q I q=>h.run pins s σ H Q I (i σ H Q q)⟩
theorem PW.imp{X:Cx}{e:Expr}{t t' :TT}(h:PW X e t)(i:∀σ H Q,t' σ H Q→t σ H Q):PW X e t' :=⟨fun whole pins s σ H Q I q=>h.run whole pins s σ H Q I (i σ H Q q)⟩
theorem PS.imp{X:Cx}{e:Stmt}{t t' :TS}(h:PS X e t)(i:∀D σ H,t' D σ H→t D σ H):PS X e t' :=⟨fun pins s σ H D I q=>h.run pins s σ H D I (i D σ H q)⟩
theorem PSs.imp{X:Cx}{e:List Stmt}{t t' :TS}(h:PSs X e t)(i:∀D σ H,t' D σ H→t D σ H):PSs X e t' :=⟨fun pins s σ H D I q=>h.run pins s σ H D I (i D σ H q)⟩
section
variable{K:aq}{W:WQ}{kd:Kd}{m ma mb:EM}{σ:L2.St}{H H' Hb Hb' Hf:Hp}{Q:VK}{v:V}{d:D}{ρ:Env}
theorem Rs.ad2(h:Rs K .new H Hb H' v d):Rs K .bor H Hb H' v d:=by
 obtain⟨p,h1,_,_,h4⟩:=h
 exact .inr ⟨p,h1,h4.b⟩
theorem Bo.int(h:Bo K Hb H v (.int i)):v= .int i:=by
 rcases h with h|⟨p,_,o,_,h⟩
 ·cases h
  rfl
 ·cases h
theorem Bo.str(h:Bo K Hb H v (.str i)):v= .str i:=by
 rcases h with h|⟨p,_,o,_,h⟩
 ·cases h
  rfl
 ·cases h
theorem Bo.bl(h:Bo K Hb H v (.bool i)):v= .bl i:=by
 rcases h with h|⟨p,_,o,_,h⟩
 ·cases h
  rfl
 ·cases h
theorem Bo.non(h:Bo K Hb H v .none):v= .non:=by
 rcases h with h|⟨p,_,o,_,h⟩
 ·cases h
  rfl
 ·cases h
theorem Bo.lst{ds:List D}(e:Ex Hb H)(h:Bo K Hb H v (.list ds)):∃p xs,v= .ref p∧SqL K H p xs∧ju K Hb xs ds:=by
 rcases h with h|⟨p,h1,o,h2,h3⟩
 ·cases h with
  |lst a b=>exact⟨_,_,rfl,ex_l e a,b⟩
 ·cases h3 with
  |lst a=>exact⟨p,_,h1, .inl h2.rd,a⟩
theorem Bo.tup{ds:List D}(e:Ex Hb H)(h:Bo K Hb H v (.tuple ds)):∃p xs,v= .ref p∧SqT K H p xs∧ju K Hb xs ds:=by
 rcases h with h|⟨p,h1,o,h2,h3⟩
 ·cases h with
  |tup a b=>exact⟨_,_,rfl, .inl (.inl (e _ _ a)),b⟩
 ·cases h3
theorem Bo.dp(e:Ex Hb H)(h:Bo K Hb H v d)(hd:d.canLay0=true):Dp K H v d:=by
 rcases h with h|⟨p,h1,o,h2,h3⟩
 ·exact(mY e h).dp hd
 ·cases h3 with
  |lst a=>
   subst h1
   exact .lst (.inl h2.rd) ((m9 e a).dp (by simpa [dH] using hd))
  |dK a=>simp [dH] at hd
  |dT a=>simp [dH] at hd
theorem Gw.tup{p:Addr}{xs:List V}{ds:List D}(e:Ex Hb H)(h:H p=none)(a:ju K Hb xs ds):Gw Hb H (upd Hb p (.tup xs)) (upd H p (.tup xs))∧Dr K (upd Hb p (.tup xs)) (.ref p) (.tuple ds):=
 ⟨Gw.fix e h, .tup upd_same (m9 (Ex.new (fresh_back e h)) a)⟩
theorem Gw.lst{p:Addr}{xs:List V}{ds:List D}(e:Ex Hb H)(h:H p=none)(a:ju K Hb xs ds):Gw Hb H (upd Hb p (.lst xs)) (upd H p (.lst xs))∧Dr K (upd Hb p (.lst xs)) (.ref p) (.list ds):=
 ⟨Gw.fix e h, .lst (.inl (.inl upd_same)) (m9 (Ex.new (fresh_back e h)) a)⟩
theorem Gw.ab6{p:Addr}{xs:List V}{ds:List D}(e:Ex Hb H)(h:H p=none)(a:ju K Hb xs ds):Gw Hb H Hb (upd H p (.lst xs))∧Rs K .new H Hb (upd H p (.lst xs)) (.ref p) (.list ds):=
 ⟨Gw.new e h,p,rfl,h,fresh_back e h,_,upd_same, .lst a⟩
theorem Gw.frz{p:Addr}{o:HO}(g:Gw Hb H Hb' H')(h0:H p=none)(hb:Hb' p=none)(ho:H' p=some o):Gw Hb H (upd Hb' p o) H' where
 h:=g.h
 b:=g.b.trans (Ex.new hb)
 bh:=fun a u q=>by
  by_cases z:a=p
  ·subst z
   rw [upd_same] at q
   rw [←q]
   exact ho
  ·rw [upd_ne z] at q
   exact g.bh a u q
 nw:=fun a h1 h2=>by
  have z:a≠p:=fun z=>by
   subst z
   rw [h0] at h2
   exact h2
  rw [upd_ne z]
  exact g.nw a h1 h2
theorem Rs.frz{ds:List D}(g:Gw Hb H Hb' H')(h:Rs K .new H Hb' H' v (.list ds)):∃Hb2,Gw Hb H Hb2 H' ∧Dr K Hb2 v (.list ds):=by
 obtain⟨p,rfl,h0,hb,o,ho,hc⟩:=h
 cases hc with
 |lst a=>exact⟨_,g.frz h0 hb ho, .lst (.inl (.inl upd_same)) (m9 (Ex.new hb) a)⟩
end
section
variable{X:Cx}{W:WQ}{kd:Kd}{e:Expr}{m:EM}
theorem dZ(h:DE X W .dat e m):DE X W .bor e m:=PE.imp h fun σ H Q ⟨Hf,Hb,ρ,R,h1,h2,h3⟩=>⟨Hf,Hb,ρ,R,fun d hd v Hb' H' g r=>h1 d hd v Hb' H' g (.inl r),h2,h3⟩
theorem Bv(h:DE X W .new e m):DE X W .bor e m:=PE.imp h fun σ H Q ⟨Hf,Hb,ρ,R,h1,h2,h3⟩=>⟨Hf,Hb,ρ,R,fun d hd v Hb' H' g r=>h1 d hd v Hb' H' g r.ad2,h2,h3⟩
def mG(m:EM):EM:=fun ρ=>(m ρ).bind fun d=>match d with
 | .list ds=> .ok (.list ds)
 |_=> .bad
theorem j7(h:DE X W .new e m):DE X W .dat e (mG m):=PE.imp h fun σ H Q ⟨Hf,Hb,ρ,R,h1,h2,h3⟩=>by
 refine⟨Hf,Hb,ρ,R,fun d hd v Hb' H' g r=> ?_,fun c hc=>h2 c (by simp [mG,hc,ER.bind]),fun z=>h3 (by simp [mG,z,ER.bind])⟩
 cases d with
 |list ds=>
  obtain⟨Hb2,g2,r2⟩:=Rs.frz g r
  exact h1 _ (by simp [mG,hd,ER.bind]) v Hb2 H' g2 r2
 |_=>exact absurd (by simp [mG,hd,ER.bind]) h3
def gK(i:Nat):EM:=fun ρ=>match ρ[i]? with
 |some (.dat d)=> .ok d
 |some (.own d)=> .ok d
 |some (.bor d)=> .ok d
 |_=> .bad
def d8(i:Nat):EM:=fun ρ=>match ρ[i]? with
 |some (.dat d)=> .ok d
 |_=> .bad
def eC(d:D):EM:=fun _=> .ok d
theorem jy(i:Nat){x:Str}{pos:Pos}(hN:X.N[i]? =some x:=by rfl)(hv:Vis X.env.scope x:=by first|exact Or.inl rfl|exact Or.inr (Or.inl rfl)|exact Or.inr (Or.inr rfl))(hd:(x==("__debug__":Str))=false:=by decide)
 (hcd:(x==("__classdict__":Str))=false:=by decide):DE X W .bor (.Name x pos) (gK i):=PE.imp (pe_var hN hv hd hcd) fun σ H Q ⟨Hf,Hb,ρ,R,h1,h2,h3⟩=>by
 cases e:ρ[i]? with
 |none=>exact absurd (by simp [gK,e]) h3
 |some s=>
  cases s with
  |un=>exact absurd (by simp [gK,e]) h3
  |nst k cs=>exact absurd (by simp [gK,e]) h3
  |vP k cs=>exact absurd (by simp [gK,e]) h3
  |Vw k cs=>exact absurd (by simp [gK,e]) h3
  |dat d=>
   obtain⟨v,a,b⟩:=R.dat i d e
   exact⟨v,a,h1 d (by simp [gK,e]) v Hb H (Gw.refl R.eb) (.inl b)⟩
  |bor d=>
   obtain⟨v,a,b⟩:=R.bor i d e
   refine⟨v,a,h1 d (by simp [gK,e]) v Hb H (Gw.refl R.eb) ?_⟩
   rcases b with b|⟨p,b1,b2,_⟩
   ·exact .inl b
   ·exact .inr ⟨p,b1,b2⟩
  |own d=>
   obtain⟨p,a,b,_⟩:=R.own i d e
   exact⟨_,a,h1 d (by simp [gK,e]) _ Hb H (Gw.refl R.eb) (.inr ⟨p,rfl,b.b⟩)⟩
theorem eE(i:Nat){x:Str}{pos:Pos}(hN:X.N[i]? =some x:=by rfl)(hv:Vis X.env.scope x:=by first|exact Or.inl rfl|exact Or.inr (Or.inl rfl)|exact Or.inr (Or.inr rfl))(hd:(x==("__debug__":Str))=false:=by decide)
 (hcd:(x==("__classdict__":Str))=false:=by decide):DE X W .dat (.Name x pos) (d8 i):=PE.imp (pe_var hN hv hd hcd) fun σ H Q ⟨Hf,Hb,ρ,R,h1,h2,h3⟩=>by
 cases e:ρ[i]? with
 |none=>exact absurd (by simp [d8,e]) h3
 |some s=>
  cases s with
  |un=>exact absurd (by simp [d8,e]) h3
  |nst k cs=>exact absurd (by simp [d8,e]) h3
  |vP k cs=>exact absurd (by simp [d8,e]) h3
  |Vw k cs=>exact absurd (by simp [d8,e]) h3
  |dat d=>
   obtain⟨v,a,b⟩:=R.dat i d e
   exact⟨v,a,h1 d (by simp [d8,e]) v Hb H (Gw.refl R.eb) b⟩
  |bor d=>exact absurd (by simp [d8,e]) h3
  |own d=>exact absurd (by simp [d8,e]) h3
theorem zY{v:V}{d:D}(h:PE X e (tC v))(hr:∀K H,Dr K H v d):DE X W .dat e (eC d):=PE.imp h fun σ H Q ⟨Hf,Hb,ρ,R,h1,h2,h3⟩=>h1 d rfl v Hb H (Gw.refl R.eb) (hr _ _)
theorem eV{i j pos}:DE X W .dat (.Constant (.int i) j pos) (eC (.int i)):=zY pe_int fun _ _=> .int i
theorem qG{i j pos}:DE X W .dat (.Constant (.bool i) j pos) (eC (.bool i)):=zY pe_bl fun _ _=> .bl i
theorem fO{i j pos}:DE X W .dat (.Constant (.str i) j pos) (eC (.str i)):=zY pe_str fun _ _=> .str i
theorem iW{j pos}:DE X W .dat (.Constant .none j pos) (eC .none):=zY pe_non fun _ _=> .non
theorem wA{x:Str}{i:Int}{pos:Pos}(hm:∃t,X.mg x=some (.int i t))(hg:Gl X x:=by rfl)(hd:(x==("__debug__":Str))=false:=by decide):DE X W .dat (.Name x pos) (eC (.int i)):=by
 obtain⟨t,hm⟩:=hm
 exact zY (v:= .int i) (pe_glob hg hm ⟨t,rfl⟩ hd) fun _ _=> .int i
theorem X5{x z:Str}{pos:Pos}(hm:∃t,X.mg x=some (.str z t))(hg:Gl X x:=by rfl)(hd:(x==("__debug__":Str))=false:=by decide):DE X W .dat (.Name x pos) (eC (.str z)):=by
 obtain⟨t,hm⟩:=hm
 exact zY (v:= .str z) (pe_glob hg hm ⟨t,rfl⟩ hd) fun _ _=> .str z
end
def rOf(K:aq)(kd:Kd)(g:D→D→ER):R2:=fun x y H Q=>∃Hb dx dy d,Ex Hb H∧Bo K Hb H x dx∧Bo K Hb H y dy∧g dx dy= .ok d∧∀v Hb' H',Gw Hb H Hb' H' →Rs K kd H Hb' H' v d→Q v H'
abbrev HD(X:Cx)(f:Value→Value→Sem Value)(kd:Kd)(g:D→D→ER):Prop:=OpR X f (rOf X.K kd g)
def eO(g:D→D→ER)(ma mb:EM):EM:=fun ρ=>(ma ρ).bind fun x=>(mb ρ).bind fun y=>g x y
def lJ(g:D→D→ER):Prop:=∀x y c,g x y≠ .ex c
section
variable{K:aq}{W:WQ}{kd:Kd}{ma mb:EM}{g:D→D→ER}
theorem Rs.back{H0 H1 Hb H:Hp}{v:V}{d:D}(e:Ex H0 H1)(h:Rs K kd H1 Hb H v d):Rs K kd H0 Hb H v d:=by
 cases kd with
 |dat=>exact h
 |bor=>exact h
 |new=>
  obtain⟨p,h1,h2,h3⟩:=h
  exact⟨p,h1,fresh_back e h2,h3⟩
 |io p=>
  obtain⟨d0,c,h1,h2,h3,h4⟩:=h
  exact⟨d0,c,h1,h2,fresh_back e h3,h4⟩
 |tl=>
  obtain⟨p,q,rv,xs,r,ps,h1,h2,h3,h4⟩:=h
  exact⟨p,q,rv,xs,r,ps,h1,h2,⟨fresh_back e h3.1,fresh_back e h3.2⟩,h4⟩
theorem Gi(ng:lJ g){σ:L2.St}{H:Hp}{Q:VK}(h:CN K W kd (eO g ma mb) σ H Q):tOp (rOf K kd g) (CN K W .bor ma) (CN K W .bor mb) σ H Q:=by
 obtain⟨Hf,Hb,ρ,R,h1,h2,h3⟩:=h
 refine⟨Hf,Hb,ρ,R,fun d hd v Hb1 H1 g1 r1=> ?_,fun c hc Hb1 H1 g1=>h2 c (by simp [eO,hc,ER.bind]) Hb1 H1 g1,fun z=>h3 (by simp [eO,z,ER.bind])⟩
 refine⟨Hf,Hb1,ρ,R.gw g1,fun d2 hd2 v2 Hb2 H2 g2 r2=> ?_,fun c hc Hb2 H2 g2=>h2 c (by simp [eO,hd,hc,ER.bind]) Hb2 H2 (g1.trans g2),fun z=>h3 (by simp [eO,hd,z,ER.bind])⟩
 have e:eO g ma mb ρ=g d d2:=by simp [eO,hd,hd2,ER.bind]
 rw [e] at h1 h3
 cases q:g d d2 with
 |bad=>exact absurd q h3
 |ex c=>exact absurd q (ng _ _ _)
 |ok z=>exact⟨Hb2,d,d2,z,g2.bh,Bo.ex g2.b g2.h r1,r2,q,fun v Hb3 H3 g3 r3=>h1 z q v Hb3 H3 ((g1.trans g2).trans g3) (r3.back (g1.trans g2).h)⟩
end
section
variable{X:Cx}{W:WQ}{kd:Kd}{a b c:Expr}{ma mb mc:EM}{g g' :D→D→ER}{pos:Pos}
theorem fJ{op:Operator}(ho:HD X (binaryOp op) kd g)(ng:lJ g)(ha:DE X W .bor a ma)(hb:DE X W .bor b mb):DE X W kd (.BinOp a op b pos) (eO g ma mb):=PE.imp (pe_op ho ha hb) fun _ _ _=>Gi ng
theorem Gg{op:CmpOp}(ho:HD X (compareOp op) kd g)(ng:lJ g)(ha:DE X W .bor a ma)(hb:DE X W .bor b mb)(hm:behindInMarks op b=false:=by first|exact nomark _|rfl):DE X W kd (.Compare a [op] [b] pos) (eO g ma mb):=PE.imp (pe_cmpR ho ha hb hm) fun _ _ _=>Gi ng
end
def yR:Nat:=100000000
def iH:D→D→ER
 | .int i, .int j=> .ok (.int (i+j))
 | .str i, .str j=>if i.length+j.length≤sizeLine then .ok (.str (i++j)) else .bad
 | .tuple i, .tuple j=>if i.length+j.length≤sizeLine then .ok (.tuple (i++j)) else .bad
 | .list i, .list j=>if i.length+j.length≤sizeLine then .ok (.list (i++j)) else .bad
 |_,_=> .bad
def nj:D→D→ER
 | .int i, .int j=> .ok (.int (i-j))
 |_,_=> .bad
def Ry(x:Str)(n:Int):Str:=⟨(aD n.toNat x.cps).foldl (·++·) #[]⟩
def lN:D→D→ER
 | .int i, .int j=>if i.natAbs.log2+j.natAbs.log2<yR then .ok (.int (i*j)) else .bad
 | .str x, .int n=>if-(2 ^ 62)≤n∧n<2 ^ 62∧x.length*n.toNat≤sizeLine then .ok (.str (Ry x n)) else .bad
 |_,_=> .bad
def lX:D→D→ER
 | .int i, .int j=>if 0<j∧j.natAbs.log2<9000 then .ok (.int (i/j)) else .bad
 |_,_=> .bad
def jJ:D→D→ER
 | .int i, .int j=>if 0<j then .ok (.int (i%j)) else .bad
 |_,_=> .bad
def vW:D→D→ER
 | .int i, .int j=>if 0≤j∧j≤1000000∧i.natAbs<2 ^ 64 then .ok (.int (i ^ j.toNat)) else .bad
 |_,_=> .bad
def kZ:D→D→ER
 | .str i, .str j=> .ok (.bool (decide (i=j)))
 |x,y=>if SeqAt.shaped x&&SeqAt.shaped y then .ok (.bool (dI x y)) else .bad
def xX(x y:D):ER:=(kZ x y).bind fun z=>match z with
 | .bool b=> .ok (.bool (!b))
 |_=> .bad
def Jl:D→D→ER
 | .int i, .int j=> .ok (.bool (decide (i<j)))
 | .str i, .str j=> .ok (.bool (decide (i.cps.toList<j.cps.toList)))
 |_,_=> .bad
def M6:D→D→ER
 | .int i, .int j=> .ok (.bool (decide (i≤j)))
 |_,_=> .bad
def Zd:D→D→ER
 | .int i, .int j=> .ok (.bool (decide (j<i)))
 |_,_=> .bad
def dGe:D→D→ER
 | .int i, .int j=> .ok (.bool (decide (j≤i)))
 |_,_=> .bad
def uG:D→D→ER
 | .none, .none=> .ok (.bool true)
 | .bool i, .bool j=> .ok (.bool (decide (i=j)))
 | .none, .bool _=> .ok (.bool false)
 | .int _, .bool _=> .ok (.bool false)
 | .bool _, .none=> .ok (.bool false)
 | .int _, .none=> .ok (.bool false)
 | .str _, .none=> .ok (.bool false)
 | .list _, .none=> .ok (.bool false)
 | .tuple _, .none=> .ok (.bool false)
 | .dict _, .none=> .ok (.bool false)
 |_,_=> .bad
def pB(x y:D):ER:=(uG x y).bind fun z=>match z with
 | .bool b=> .ok (.bool (!b))
 |_=> .bad
section
variable{X:Cx}
theorem u6{d:D}(h:SeqAt.shaped d=true):d.canLay0=true:=SeqAt.canLay_of_shaped h
theorem pC{K:aq}{H0 Hb H:Hp}{i:Int}:Rs K .dat H0 Hb H (.int i) (.int i):=Dr.int i
theorem mX{K:aq}{H0 Hb H:Hp}{i:Bool}:Rs K .dat H0 Hb H (.bl i) (.bool i):=Dr.bl i
theorem acL{K:aq}{H0 Hb H:Hp}{i:Str}:Rs K .dat H0 Hb H (.str i) (.str i):=Dr.str i
theorem ach{K:aq}{H0 Hb H:Hp}:Rs K .dat H0 Hb H .non .none:=Dr.non
theorem akG:OpR X (binaryOp .Add) (fun x y H Q=>∃l b xs zs,x= .ref l∧y= .ref b∧SqL X.K H l xs∧SqL X.K H b zs∧xs.length+zs.length≤sizeLine∧∀p,H p=none→Q (.ref p) (upd H p (.lst (xs++zs)))):=by
 intro pins s σ H x y v u Q I rx ry h
 obtain⟨l,b,xs,zs,rfl,rfl,hH,hB,hz,q⟩:=h
 cases rx
 cases ry
 obtain⟨its,r,pl,z⟩:=I.list hH
 obtain⟨its2,r2,pl2,z2⟩:=I.list hB
 have hl:=r.length
 have hl2:=r2.length
 obtain⟨⟨c1,d1,t1,w1⟩,o1,k1,n1,q1⟩:=pl.isList
 obtain⟨⟨c2,d2,t2,w2⟩,o2,k2,n2,q2⟩:=pl2.isList
 simp only at k1 q1 k2 q2
 subst k1 q1 k2 q2
 refine concat_meets ⟨_,o1,rfl⟩ ⟨_,o2,rfl⟩ noFill_list_add seq_list_add PySem.F.slot_list_add PySem.F.entry_list_add (PySem.F.args_list_add_2 _ _)
  (PyProof.Rows.list_addW l b its.toArray its2.toArray n1 n2 d1 d2 w1 w2 (by rw [List.size_toArray,List.size_toArray];omega)) ⟨o1,o2,?_⟩
 rw [show its.toArray++its2.toArray=(its++its2).toArray by simp]
 exact⟨.ref _,_,I.lnew (t' :=s.toks) (r.append r2) (by rw [aA];omega),rfl,q _ I.fresh⟩
theorem g8:HD X (binaryOp .Add) .dat iH:=by
 intro pins s σ H x y v u Q I rx ry h
 obtain⟨Hb,dx,dy,d,eb,bx,byy,hg,q⟩:=h
 cases dx<;>cases dy<;>simp only [iH] at hg<;>first|cases hg;done|skip
 ·cases hg
  have e1:=bx.int
  have e2:=byy.int
  exact op_add pins s σ H x y v u Q I rx ry ⟨_,_,e1,e2,q _ Hb H (Gw.refl eb) pC⟩
 ·split at hg
  ·cases hg
   exact op_add_str pins s σ H x y v u Q I rx ry ⟨_,_,bx.str,byy.str,by assumption,q _ Hb H (Gw.refl eb) acL⟩
  ·cases hg
 ·split at hg
  ·cases hg
   obtain⟨p,xs,e1,s1,a1⟩:=bx.lst eb
   obtain⟨p2,ys,e2,s2,a2⟩:=byy.lst eb
   rename_i hz
   refine akG pins s σ H x y v u Q I rx ry ⟨p,p2,xs,ys,e1,e2,s1,s2,by rw [iV a1,iV a2];exact hz,fun r hr=> ?_⟩
   have z:=Gw.lst eb hr (uR a1 a2)
   exact q _ _ _ z.1 z.2
  ·cases hg
 ·split at hg
  ·cases hg
   obtain⟨p,xs,e1,s1,a1⟩:=bx.tup eb
   obtain⟨p2,ys,e2,s2,a2⟩:=byy.tup eb
   rename_i ds es hz
   refine op_catA pins s σ H x y v u Q I rx ry ⟨p,p2,xs,ys,e1,e2,s1,s2,by rw [iV a1,iV a2];exact hz,fun hx=> ?_,fun hx hy=> ?_,fun _ _ r hr=> ?_⟩
   ·subst hx
    cases a1
    rcases byy with b2|⟨_,_,_,_,b2⟩
    ·rw [←e2]
     exact q _ Hb H (Gw.refl eb) b2
    ·cases b2
   ·subst hy
    cases a2
    rcases bx with b2|⟨_,_,_,_,b2⟩
    ·rw [←e1]
     rw [aJ] at q
     exact q _ Hb H (Gw.refl eb) b2
    ·cases b2
   ·have z:=Gw.tup eb hr (uR a1 a2)
    exact q _ _ _ z.1 z.2
  ·cases hg
theorem nu:HD X (binaryOp .Sub) .dat nj:=by
 intro pins s σ H x y v u Q I rx ry h
 obtain⟨Hb,dx,dy,d,eb,bx,byy,hg,q⟩:=h
 cases dx<;>cases dy<;>simp only [nj] at hg<;>first|cases hg;done|skip
 cases hg
 exact op_sub pins s σ H x y v u Q I rx ry ⟨_,_,bx.int,byy.int,q _ Hb H (Gw.refl eb) pC⟩
theorem akj{i j:Int}(h:i.natAbs.log2+j.natAbs.log2<yR):IntMulOk i j:=by
 have b:∀x:Int,Builtin.Int.intBits x≤x.natAbs.log2+1:=fun x=>by
  unfold Builtin.Int.intBits
  split<;>omega
 have h1:=b i
 have h2:=b j
 have e:bitsLine=134217728:=by decide
 unfold yR at h
 unfold IntMulOk
 intro z
 rw [cV] at z
 have z2:=z.2
 unfold Builtin.Int.intTooBig at z2
 have z3:=of_decide_eq_true z2
 rw [e] at z3
 omega
theorem aiK:OpR X (binaryOp .Mult) (rI (fun i j=>i.natAbs.log2+j.natAbs.log2<yR) fun i j=> .int (i*j)):=opI fun _ _ _ _ _ _ _ hc q=>PyProof.Rows.mul_int q (akj hc)
theorem Ht(x:Array Nat):∀(n:Nat) (acc:Array Nat),((aD n x).foldl (·++·) acc).size=acc.size+n*x.size
 |0,acc=>by simp
 |n+1,acc=>by
  rw [cI,List.foldl_cons,Ht x n]
  simp [Nat.succ_mul]
  omega
theorem ZK(x:Str)(n:Int):(Ry x n).length=n.toNat*x.length:=by
 show((aD n.toNat x.cps).foldl (·++·) #[]).size=_
 rw [Ht]
 simp
 rfl
theorem ah6:OpR X (binaryOp .Mult) (fun x y H Q=>∃(z:Str) (n:Int),x= .str z∧y= .int n∧-(2 ^ 62)≤n∧n<2 ^ 62∧z.length*n.toNat≤sizeLine∧Q (.str (Ry z n)) H):=by
 intro pins s σ H x y v u Q I rx ry h
 obtain⟨z,n,rfl,rfl,h1,h2,hz,q⟩:=h
 obtain⟨t,rfl⟩:=rx
 obtain⟨t',rfl⟩:=ry
 have se:sizeLine=16777216:=sizeLine_eq
 have fin:∀(y:Str) (tk:Nat) (t:Tok),y=Ry z n→EP X pins σ Q (.str y t) {s with toks:=tk}:=fun y tk t e=>⟨.str (Ry z n),H,I.tok tk,⟨t,by rw [e]⟩,q⟩
 refine PySem.P.mul_str (by rw [decide_eq_false (by omega),decide_eq_false (by omega)];rfl) (fun h3 h4=> ?_) (fun _ _=> ?_) ?_
 ·have hn:0<n:=by omega
  intro hgt
  have hgt:(2 ^ 63-1)/n<(z.length:Int):=hgt
  have hlt:=Int.lt_mul_of_ediv_lt hn hgt
  have e:((z.length*n.toNat:Nat):Int)=(z.length:Int)*n:=by
   rw [Int.natCast_mul,Int.toNat_of_nonneg (by omega)]
  omega
 ·unfold Builtin.Str.tooLong
  exact decide_eq_false (by omega)
 ·have hl:(Ry z n).length≤sizeLine:=by rw [ZK,bU];exact hz
  split
  ·rename_i hn
   refine⟨by decide,fin _ _ _ ?_⟩
   unfold Ry
   rw [show n.toNat=0 by omega]
   rfl
  ·split
   ·rename_i hn
    have e:z=Ry z n:=by
     rcases Bool.or_eq_true_iff.mp hn with h5|h5
     ·have h6:n=1:=by simpa using h5
      subst h6
      unfold Ry
      simp
     ·have h6:z.cps.size=0:=beq_iff_eq.mp h5
      have h7:z.cps= #[]:=Array.eq_empty_of_size_eq_zero h6
      have h8:(Ry z n).cps= #[]:=Array.eq_empty_of_size_eq_zero (by
       have:=ZK z n
       rw [show z.length=0 from h6,Nat.mul_zero] at this
       exact this)
      obtain⟨c⟩:=z
      show(⟨c⟩:Str)=⟨(Ry ⟨c⟩ n).cps⟩
      rw [h8]
      congr 1
    exact fin _ s.toks _ e
   ·exact⟨hl,fin _ _ _ rfl⟩
theorem nW:HD X (binaryOp .Mult) .dat lN:=by
 intro pins s σ H x y v u Q I rx ry h
 obtain⟨Hb,dx,dy,d,eb,bx,byy,hg,q⟩:=h
 cases dx<;>cases dy<;>simp only [lN] at hg<;>first|cases hg;done|skip
 ·split at hg
  ·cases hg
   exact aiK pins s σ H x y v u Q I rx ry ⟨_,_,bx.int,byy.int,by assumption,q _ Hb H (Gw.refl eb) pC⟩
  ·cases hg
 ·split at hg
  ·rename_i hz
   cases hg
   exact ah6 pins s σ H x y v u Q I rx ry ⟨_,_,bx.str,byy.int,hz.1,hz.2.1,hz.2.2,q _ Hb H (Gw.refl eb) acL⟩
  ·cases hg
theorem qj:HD X (binaryOp .FloorDiv) .dat lX:=by
 intro pins s σ H x y v u Q I rx ry h
 obtain⟨Hb,dx,dy,d,eb,bx,byy,hg,q⟩:=h
 cases dx<;>cases dy<;>simp only [lX] at hg<;>first|cases hg;done|skip
 split at hg
 ·cases hg
  exact op_fdivW pins s σ H x y v u Q I rx ry ⟨_,_,bx.int,byy.int,by assumption,q _ Hb H (Gw.refl eb) pC⟩
 ·cases hg
theorem jL:HD X (binaryOp .Mod) .dat jJ:=by
 intro pins s σ H x y v u Q I rx ry h
 obtain⟨Hb,dx,dy,d,eb,bx,byy,hg,q⟩:=h
 cases dx<;>cases dy<;>simp only [jJ] at hg<;>first|cases hg;done|skip
 split at hg
 ·cases hg
  exact op_mod pins s σ H x y v u Q I rx ry ⟨_,_,bx.int,byy.int,by assumption,q _ Hb H (Gw.refl eb) pC⟩
 ·cases hg
theorem Af:HD X (binaryOp .Pow) .dat vW:=by
 intro pins s σ H x y v u Q I rx ry h
 obtain⟨Hb,dx,dy,d,eb,bx,byy,hg,q⟩:=h
 cases dx<;>cases dy<;>simp only [vW] at hg<;>first|cases hg;done|skip
 split at hg
 ·cases hg
  exact op_pow pins s σ H x y v u Q I rx ry ⟨_,_,bx.int,byy.int,by assumption,q _ Hb H (Gw.refl eb) pC⟩
 ·cases hg
theorem uW(x y:D):(∃i j,x= .str i∧y= .str j∧kZ x y= .ok (.bool (decide (i=j))))∨kZ x y=if SeqAt.shaped x&&SeqAt.shaped y then .ok (.bool (dI x y)) else .bad:=by
 cases x<;>cases y<;>first|exact .inr rfl|exact .inl ⟨_,_,rfl,rfl,rfl⟩
theorem gW(hu:X.A.units+64<cLine):HD X (compareOp .Eq) .dat kZ:=by
 intro pins s σ H x y v u Q I rx ry h
 obtain⟨Hb,dx,dy,d,eb,bx,byy,hg,q⟩:=h
 rcases uW dx dy with⟨i,j,rfl,rfl,e⟩|e
 ·rw [e] at hg
  cases hg
  refine op_eq pins s σ H x y v u Q I rx ry ⟨by rw [bx.str,byy.str];rfl,?_⟩
  rw [bx.str,byy.str]
  have e2:decide (V.str i=V.str j)=decide (i=j):=by simp
  rw [e2]
  exact q _ Hb H (Gw.refl eb) mX
 ·rw [e] at hg
  split at hg
  ·rename_i hs
   cases hg
   rw [cV] at hs
   exact op_eqD hu pins s σ H x y v u Q I rx ry ⟨dx,dy,bx.dp eb (u6 hs.1),byy.dp eb (u6 hs.2),hs.1,hs.2,q _ Hb H (Gw.refl eb) mX⟩
  ·cases hg
theorem uJ(hu:X.A.units+64<cLine):HD X (compareOp .NotEq) .dat xX:=by
 intro pins s σ H x y v u Q I rx ry h
 obtain⟨Hb,dx,dy,d,eb,bx,byy,hg,q⟩:=h
 unfold xX at hg
 rcases uW dx dy with⟨i,j,rfl,rfl,e⟩|e
 ·rw [e] at hg
  cases hg
  refine op_ne pins s σ H x y v u Q I rx ry ⟨by rw [bx.str,byy.str];rfl,?_⟩
  rw [bx.str,byy.str]
  have e2:decide (V.str i=V.str j)=decide (i=j):=by simp
  rw [e2]
  exact q _ Hb H (Gw.refl eb) mX
 ·rw [e] at hg
  split at hg
  ·rename_i hs
   cases hg
   rw [cV] at hs
   exact op_neD hu pins s σ H x y v u Q I rx ry ⟨dx,dy,bx.dp eb (u6 hs.1),byy.dp eb (u6 hs.2),hs.1,hs.2,q _ Hb H (Gw.refl eb) mX⟩
  ·cases hg
theorem qp:HD X (compareOp .Lt) .dat Jl:=by
 intro pins s σ H x y v u Q I rx ry h
 obtain⟨Hb,dx,dy,d,eb,bx,byy,hg,q⟩:=h
 cases dx<;>cases dy<;>simp only [Jl] at hg<;>first|cases hg;done|skip
 ·cases hg
  exact op_lt pins s σ H x y v u Q I rx ry ⟨_,_,bx.int,byy.int,q _ Hb H (Gw.refl eb) mX⟩
 ·cases hg
  exact op_lt_str pins s σ H x y v u Q I rx ry ⟨_,_,bx.str,byy.str,q _ Hb H (Gw.refl eb) mX⟩
theorem rN:HD X (compareOp .LtE) .dat M6:=by
 intro pins s σ H x y v u Q I rx ry h
 obtain⟨Hb,dx,dy,d,eb,bx,byy,hg,q⟩:=h
 cases dx<;>cases dy<;>simp only [M6] at hg<;>first|cases hg;done|skip
 cases hg
 exact op_le pins s σ H x y v u Q I rx ry ⟨_,_,bx.int,byy.int,q _ Hb H (Gw.refl eb) mX⟩
theorem BZ:HD X (compareOp .Gt) .dat Zd:=by
 intro pins s σ H x y v u Q I rx ry h
 obtain⟨Hb,dx,dy,d,eb,bx,byy,hg,q⟩:=h
 cases dx<;>cases dy<;>simp only [Zd] at hg<;>first|cases hg;done|skip
 cases hg
 exact op_gt pins s σ H x y v u Q I rx ry ⟨_,_,bx.int,byy.int,q _ Hb H (Gw.refl eb) mX⟩
theorem ajU:HD X (compareOp .GtE) .dat dGe:=by
 intro pins s σ H x y v u Q I rx ry h
 obtain⟨Hb,dx,dy,d,eb,bx,byy,hg,q⟩:=h
 cases dx<;>cases dy<;>simp only [dGe] at hg<;>first|cases hg;done|skip
 cases hg
 exact op_ge pins s σ H x y v u Q I rx ry ⟨_,_,bx.int,byy.int,q _ Hb H (Gw.refl eb) mX⟩
theorem Bo.amz{K:aq}{Hb H:Hp}{v:V}{ds:List (D×D)}(h:Bo K Hb H v (.dict ds)):∃p,v= .ref p:=by
 rcases h with h|⟨p,h,_⟩
 ·cases h<;>exact⟨_,rfl⟩
 ·exact⟨p,h⟩
theorem qO:HD X (compareOp .Is) .dat uG:=by
 intro pins s σ H x y v u Q I rx ry h
 obtain⟨Hb,dx,dy,d,eb,bx,byy,hg,q⟩:=h
 have key:dy= .none→d= .bool (decide (x= .non))→wpAny (model X.prog X.w) X.A (compareOp .Is v u) (EP X pins σ Q) X.xe s:=fun e1 e2=>by
  subst e1 e2
  exact op_isN pins s σ H x y v u Q I rx ry ⟨byy.non,q _ Hb H (Gw.refl eb) mX⟩
 cases dx<;>cases dy<;>simp only [uG] at hg<;>first|cases hg;done|skip
 ·cases hg
  exact key rfl (by rw [bx.non];rfl)
 ·cases hg
  rw [bx.non] at rx
  rw [byy.bl] at ry
  cases rx
  cases ry
  exact wpAny_is_other rfl (fun z=>nomatch z) ⟨.bl false,H,I,rfl,q _ Hb H (Gw.refl eb) mX⟩
 ·cases hg
  exact key rfl (by rw [bx.bl];rfl)
 ·cases hg
  exact op_isBl pins s σ H x y v u Q I rx ry ⟨_,_,bx.bl,byy.bl,q _ Hb H (Gw.refl eb) mX⟩
 ·cases hg
  exact key rfl (by rw [bx.int];rfl)
 ·cases hg
  rw [bx.int] at rx
  rw [byy.bl] at ry
  obtain⟨t,rfl⟩:=rx
  cases ry
  exact wpAny_is_other rfl (fun z=>nomatch z) ⟨.bl false,H,I,rfl,q _ Hb H (Gw.refl eb) mX⟩
 ·cases hg
  exact key rfl (by rw [bx.str];rfl)
 ·cases hg
  obtain⟨p,xs,e1,_⟩:=bx.lst eb
  exact key rfl (by rw [e1];rfl)
 ·cases hg
  obtain⟨p,xs,e1,_⟩:=bx.tup eb
  exact key rfl (by rw [e1];rfl)
 ·cases hg
  obtain⟨p,e1⟩:=bx.amz
  exact key rfl (by rw [e1];rfl)
theorem FJ:HD X (compareOp .IsNot) .dat pB:=by
 intro pins s σ H x y v u Q I rx ry h
 obtain⟨Hb,dx,dy,d,eb,bx,byy,hg,q⟩:=h
 have key:dy= .none→d= .bool (!decide (x= .non))→wpAny (model X.prog X.w) X.A (compareOp .IsNot v u) (EP X pins σ Q) X.xe s:=fun e1 e2=>by
  subst e1 e2
  exact op_notN pins s σ H x y v u Q I rx ry ⟨byy.non,q _ Hb H (Gw.refl eb) mX⟩
 cases dx<;>cases dy<;>simp only [pB,uG,ER.bind] at hg<;>first|cases hg;done|skip
 ·cases hg
  exact key rfl (by rw [bx.non];rfl)
 ·cases hg
  rw [bx.non] at rx
  rw [byy.bl] at ry
  cases rx
  cases ry
  exact wpAny_isNot_other rfl (fun z=>nomatch z) ⟨.bl true,H,I,rfl,q _ Hb H (Gw.refl eb) mX⟩
 ·cases hg
  exact key rfl (by rw [bx.bl];rfl)
 ·cases hg
  exact op_notBl pins s σ H x y v u Q I rx ry ⟨_,_,bx.bl,byy.bl,q _ Hb H (Gw.refl eb) mX⟩
 ·cases hg
  exact key rfl (by rw [bx.int];rfl)
 ·cases hg
  rw [bx.int] at rx
  rw [byy.bl] at ry
  obtain⟨t,rfl⟩:=rx
  cases ry
  exact wpAny_isNot_other rfl (fun z=>nomatch z) ⟨.bl true,H,I,rfl,q _ Hb H (Gw.refl eb) mX⟩
 ·cases hg
  exact key rfl (by rw [bx.str];rfl)
 ·cases hg
  obtain⟨p,xs,e1,_⟩:=bx.lst eb
  exact key rfl (by rw [e1];rfl)
 ·cases hg
  obtain⟨p,xs,e1,_⟩:=bx.tup eb
  exact key rfl (by rw [e1];rfl)
 ·cases hg
  obtain⟨p,e1⟩:=bx.amz
  exact key rfl (by rw [e1];rfl)
end
theorem ir:lJ iH:=fun x y c h=>by
 cases x<;>cases y<;>simp only [iH] at h<;>first|cases h;done|(split at h<;>cases h)
theorem nq:lJ nj:=fun x y c h=>by cases x<;>cases y<;>cases h
theorem oh:lJ lN:=fun x y c h=>by
 cases x<;>cases y<;>simp only [lN] at h<;>first|cases h;done|(split at h<;>cases h)
theorem qd:lJ lX:=fun x y c h=>by
 cases x<;>cases y<;>simp only [lX] at h<;>first|cases h;done|(split at h<;>cases h)
theorem jO:lJ jJ:=fun x y c h=>by
 cases x<;>cases y<;>simp only [jJ] at h<;>first|cases h;done|(split at h<;>cases h)
theorem ne_pow:lJ vW:=fun x y c h=>by
 cases x<;>cases y<;>simp only [vW] at h<;>first|cases h;done|(split at h<;>cases h)
theorem ne_eq:lJ kZ:=fun x y c h=>by
 rcases uW x y with⟨i,j,rfl,rfl,e⟩|e
 ·rw [e] at h
  cases h
 ·rw [e] at h
  split at h<;>cases h
theorem yS:lJ xX:=fun x y c h=>by
 unfold xX at h
 rcases uW x y with⟨i,j,rfl,rfl,e⟩|e
 ·rw [e] at h
  cases h
 ·rw [e] at h
  split at h<;>cases h
theorem qD:lJ Jl:=fun x y c h=>by cases x<;>cases y<;>cases h
theorem rK:lJ M6:=fun x y c h=>by cases x<;>cases y<;>cases h
theorem BV:lJ Zd:=fun x y c h=>by cases x<;>cases y<;>cases h
theorem ajM:lJ dGe:=fun x y c h=>by cases x<;>cases y<;>cases h
theorem ne_is:lJ uG:=fun x y c h=>by cases x<;>cases y<;>cases h
theorem Dq:lJ pB:=fun x y c h=>by cases x<;>cases y<;>simp [pB,uG,ER.bind] at h
end DL
namespace DL
open PySem L2 Evl
def Xu(K:aq)(W:WQ)(m:EM):TT:=fun σ H Q=>∃(Hf Hb:Hp) (ρ:Env),gJ K W.pin Hf Hb H σ ρ∧
 (∀b,m ρ= .ok (.bool b)→∀Hb' H',Gw Hb H Hb' H' →Q b H')∧
 (∀c,m ρ= .ex c→∀Hb' H',Gw Hb H Hb' H' →W.w (.ref (He.ga K c)) none σ H')∧((∃b,m ρ= .ok (.bool b))∨∃c,m ρ= .ex c)
abbrev DT(X:Cx)(W:WQ)(e:Expr)(m:EM):Prop:=PT X e (Xu X.K W m)
abbrev DW(X:Cx)(W:WQ)(e:Expr)(m:EM):Prop:=PW X e (Xu X.K W m)
def mF(m:EM):EM:=fun ρ=>(m ρ).bind fun d=>match d with
 | .bool b=> .ok (.bool (!b))
 |_=> .bad
def oU(ma mb:EM):EM:=fun ρ=>(ma ρ).bind fun d=>match d with
 | .bool true=>mb ρ
 | .bool false=> .ok (.bool false)
 |_=> .bad
def wM(ma mb:EM):EM:=fun ρ=>(ma ρ).bind fun d=>match d with
 | .bool true=> .ok (.bool true)
 | .bool false=>mb ρ
 |_=> .bad
def eIf(mc ma mb:EM):EM:=fun ρ=>(mc ρ).bind fun d=>match d with
 | .bool true=>ma ρ
 | .bool false=>mb ρ
 |_=> .bad
section
variable{K:aq}{W:WQ}{kd:Kd}{m ma mb mc:EM}{σ:L2.St}{H:Hp}{Q:Bool→Hp→Prop}{QV:VK}
theorem Qc(h:Xu K W m σ H Q):CN K W .bor m σ H fun x H' =>∃c,x= .bl c∧Q c H' :=by
 obtain⟨Hf,Hb,ρ,R,h1,h2,h3⟩:=h
 refine⟨Hf,Hb,ρ,R,fun d hd v Hb' H' g r=> ?_,h2,fun z=> ?_⟩
 ·rcases h3 with⟨b,hb⟩|⟨c,hc⟩
  ·rw [hb] at hd
   cases hd
   exact⟨b,Bo.bl r,h1 b hb Hb' H' g⟩
  ·rw [hc] at hd
   cases hd
 ·rcases h3 with⟨b,hb⟩|⟨c,hc⟩
  ·rw [hb] at z
   cases z
  ·rw [hc] at z
   cases z
theorem aik(h:Xu K W (mF m) σ H Q):tNot (Xu K W m) σ H Q:=by
 obtain⟨Hf,Hb,ρ,R,h1,h2,h3⟩:=h
 refine⟨Hf,Hb,ρ,R,fun b hb Hb' H' g=>h1 (!b) (by simp [mF,hb,ER.bind]) Hb' H' g,fun c hc=>h2 c (by simp [mF,hc,ER.bind]),?_⟩
 cases q:m ρ with
 |bad=>simp [mF,q,ER.bind] at h3
 |ex c=>exact .inr ⟨c,rfl⟩
 |ok d=>
  cases d<;>simp [mF,q,ER.bind] at h3
  exact .inl ⟨_,rfl⟩
theorem ahX(h:Xu K W (oU ma mb) σ H Q):tAnd (Xu K W ma) (Xu K W mb) σ H Q:=by
 obtain⟨Hf,Hb,ρ,R,h1,h2,h3⟩:=h
 refine⟨Hf,Hb,ρ,R,fun b hb Hb' H' g=> ?_,fun c hc=>h2 c (by simp [oU,hc,ER.bind]),?_⟩
 ·cases b with
  |true=>
   have e:oU ma mb ρ=mb ρ:=by simp [oU,hb,ER.bind]
   rw [e] at h1 h2 h3
   show Xu K W mb σ H' Q
   exact⟨Hf,Hb',ρ,R.gw g,fun b2 hb2 Hb2 H2 g2=>h1 b2 hb2 Hb2 H2 (g.trans g2),fun c hc Hb2 H2 g2=>h2 c hc Hb2 H2 (g.trans g2),h3⟩
  |false=>
   show Q false H'
   exact h1 false (by simp [oU,hb,ER.bind]) Hb' H' g
 ·cases q:ma ρ with
  |bad=>simp [oU,q,ER.bind] at h3
  |ex c=>exact .inr ⟨c,rfl⟩
  |ok d=>
   cases d<;>simp [oU,q,ER.bind] at h3
   exact .inl ⟨_,rfl⟩
theorem aln(h:Xu K W (wM ma mb) σ H Q):tOr (Xu K W ma) (Xu K W mb) σ H Q:=by
 obtain⟨Hf,Hb,ρ,R,h1,h2,h3⟩:=h
 refine⟨Hf,Hb,ρ,R,fun b hb Hb' H' g=> ?_,fun c hc=>h2 c (by simp [wM,hc,ER.bind]),?_⟩
 ·cases b with
  |false=>
   have e:wM ma mb ρ=mb ρ:=by simp [wM,hb,ER.bind]
   rw [e] at h1 h2 h3
   show Xu K W mb σ H' Q
   exact⟨Hf,Hb',ρ,R.gw g,fun b2 hb2 Hb2 H2 g2=>h1 b2 hb2 Hb2 H2 (g.trans g2),fun c hc Hb2 H2 g2=>h2 c hc Hb2 H2 (g.trans g2),h3⟩
  |true=>
   show Q true H'
   exact h1 true (by simp [wM,hb,ER.bind]) Hb' H' g
 ·cases q:ma ρ with
  |bad=>simp [wM,q,ER.bind] at h3
  |ex c=>exact .inr ⟨c,rfl⟩
  |ok d=>
   cases d<;>simp [wM,q,ER.bind] at h3
   exact .inl ⟨_,rfl⟩
theorem aiN(h:CN K W .dat (mF m) σ H QV):tNotV (CN K W .bor m) σ H QV:=by
 obtain⟨Hf,Hb,ρ,R,h1,h2,h3⟩:=h
 refine⟨Hf,Hb,ρ,R,fun d hd v Hb' H' g r=> ?_,fun c hc=>h2 c (by simp [mF,hc,ER.bind]),fun z=>h3 (by simp [mF,z,ER.bind])⟩
 cases d<;>simp [mF,hd,ER.bind] at h3
 rename_i b
 exact⟨b,Bo.bl r,h1 (.bool (!b)) (by simp [mF,hd,ER.bind]) _ Hb' H' g mX⟩
theorem ait(h:CN K W .dat (oU ma mb) σ H QV):tAndV (CN K W .bor ma) (CN K W .dat mb) σ H QV:=by
 obtain⟨Hf,Hb,ρ,R,h1,h2,h3⟩:=h
 refine⟨Hf,Hb,ρ,R,fun d hd v Hb' H' g r=> ?_,fun c hc=>h2 c (by simp [oU,hc,ER.bind]),fun z=>h3 (by simp [oU,z,ER.bind])⟩
 cases d with
 |bool b=>
  refine⟨b,Bo.bl r,?_⟩
  cases b with
  |true=>
   have e:oU ma mb ρ=mb ρ:=by simp [oU,hd,ER.bind]
   rw [e] at h1 h2 h3
   show CN K W .dat mb σ H' QV
   exact⟨Hf,Hb',ρ,R.gw g,fun d2 hd2 v2 Hb2 H2 g2 r2=>h1 d2 hd2 v2 Hb2 H2 (g.trans g2) r2,fun c hc Hb2 H2 g2=>h2 c hc Hb2 H2 (g.trans g2),h3⟩
  |false=>
   show QV (.bl false) H'
   exact h1 (.bool false) (by simp [oU,hd,ER.bind]) _ Hb' H' g mX
 |_=>exact absurd (by simp [oU,hd,ER.bind]) h3
theorem ali(h:CN K W .dat (wM ma mb) σ H QV):tOrV (CN K W .bor ma) (CN K W .dat mb) σ H QV:=by
 obtain⟨Hf,Hb,ρ,R,h1,h2,h3⟩:=h
 refine⟨Hf,Hb,ρ,R,fun d hd v Hb' H' g r=> ?_,fun c hc=>h2 c (by simp [wM,hc,ER.bind]),fun z=>h3 (by simp [wM,z,ER.bind])⟩
 cases d with
 |bool b=>
  refine⟨b,Bo.bl r,?_⟩
  cases b with
  |false=>
   have e:wM ma mb ρ=mb ρ:=by simp [wM,hd,ER.bind]
   rw [e] at h1 h2 h3
   show CN K W .dat mb σ H' QV
   exact⟨Hf,Hb',ρ,R.gw g,fun d2 hd2 v2 Hb2 H2 g2 r2=>h1 d2 hd2 v2 Hb2 H2 (g.trans g2) r2,fun c hc Hb2 H2 g2=>h2 c hc Hb2 H2 (g.trans g2),h3⟩
  |true=>
   show QV (.bl true) H'
   exact h1 (.bool true) (by simp [wM,hd,ER.bind]) _ Hb' H' g mX
 |_=>exact absurd (by simp [wM,hd,ER.bind]) h3
end
section
variable{X:Cx}{W:WQ}{kd:Kd}{a b c:Expr}{rest:List Expr}{m ma mb mc:EM}{g g' :D→D→ER}{pos:Pos}
theorem pF(h:DE X W .bor a m)(he:∀whole,isTrue a X.env whole=(do let v←whole;standAt a.pos;holding [v] (truthy v)):=by intro _;rfl):DT X W a m:=PT.imp (pt_val h he) fun _ _ _=>Qc
theorem fM{op:CmpOp}(ho:HD X (compareOp op) .dat g)(ng:lJ g)(ha:DE X W .bor a ma)(hb:DE X W .bor b mb)(hm:behindInMarks op b=false:=by first|exact nomark _|rfl):DT X W (.Compare a [op] [b] pos) (eO g ma mb):=
 PT.imp (pt_cmpR ho ha hb hm) fun σ H Q h=>by
  obtain⟨Hf,Hb,ρ,R,h1,h2,h3⟩:=Qc h
  exact Gi ng ⟨Hf,Hb,ρ,R,fun d hd v Hb' H' g r=>h1 d hd v Hb' H' g (.inl r),h2,h3⟩
theorem mU(h:DT X W a m):DT X W (.UnaryOp .Not a pos) (mF m):=PT.imp (pt_not h) fun _ _ _=>aik
theorem yr(h:DT X W a m):DW X W (.BoolOp .And [a] pos) m:=pw_and1 h
theorem vC(h:DT X W a m):DW X W (.BoolOp .Or [a] pos) m:=pw_or1 h
theorem DQ(ha:DT X W a ma)(hb:DW X W (.BoolOp .And (b::rest) pos) mb):DW X W (.BoolOp .And (a::b::rest) pos) (oU ma mb):=PW.imp (pw_and ha hb) fun _ _ _=>ahX
theorem uK(ha:DT X W a ma)(hb:DW X W (.BoolOp .Or (b::rest) pos) mb):DW X W (.BoolOp .Or (a::b::rest) pos) (wM ma mb):=PW.imp (pw_or ha hb) fun _ _ _=>aln
theorem zN(h:DW X W a m):DT X W a m:=PW.pt h
theorem akx(h:DE X W .bor a m):DE X W .dat (.UnaryOp .Not a pos) (mF m):=PE.imp (pe_not h) fun _ _ _=>aiN
theorem Mr{op}(h:DE X W kd a m):DE X W kd (.BoolOp op [a] pos) m:=pe_one h
theorem Mf(ha:DE X W .bor a ma)(hb:DE X W .dat (.BoolOp .And (b::rest) pos) mb):DE X W .dat (.BoolOp .And (a::b::rest) pos) (oU ma mb):=PE.imp (pe_and ha hb) fun _ _ _=>ait
theorem aj7(ha:DE X W .bor a ma)(hb:DE X W .dat (.BoolOp .Or (b::rest) pos) mb):DE X W .dat (.BoolOp .Or (a::b::rest) pos) (wM ma mb):=PE.imp (pe_or ha hb) fun _ _ _=>ali
end
def ji(g g' :D→D→ER)(ma mb mc:EM):EM:=fun ρ=>(ma ρ).bind fun x=>(mb ρ).bind fun y=>(g x y).bind fun z=>match z with
 | .bool true=>(mc ρ).bind fun w=>g' y w
 | .bool false=> .ok (.bool false)
 |_=> .bad
section
variable{K:aq}{W:WQ}{ma mb mc:EM}{g g' :D→D→ER}
theorem WW(ng:lJ g)(ng' :lJ g'){σ:L2.St}{H:Hp}{Q:VK}(h:CN K W .dat (ji g g' ma mb mc) σ H Q):tChain (rOf K .dat g) (rOf K .dat g') (CN K W .bor ma) (CN K W .bor mb) (CN K W .bor mc) σ H Q:=by
 obtain⟨Hf,Hb,ρ,R,h1,h2,h3⟩:=h
 refine⟨Hf,Hb,ρ,R,fun d hd v Hb1 H1 g1 r1=> ?_,fun c hc Hb1 H1 g1=>h2 c (by simp [ji,hc,ER.bind]) Hb1 H1 g1,fun z=>h3 (by simp [ji,z,ER.bind])⟩
 refine⟨Hf,Hb1,ρ,R.gw g1,fun d2 hd2 v2 Hb2 H2 g2 r2=> ?_,fun c hc Hb2 H2 g2=>h2 c (by simp [ji,hd,hc,ER.bind]) Hb2 H2 (g1.trans g2),fun z=>h3 (by simp [ji,hd,z,ER.bind])⟩
 cases q:g d d2 with
 |bad=>exact absurd (by simp [ji,hd,hd2,q,ER.bind]) h3
 |ex c=>exact absurd q (ng _ _ _)
 |ok z=>
  refine⟨Hb2,d,d2,z,g2.bh,Bo.ex g2.b g2.h r1,r2,q,fun v3 Hb3 H3 g3 r3=> ?_⟩
  have gg:Gw Hb H Hb3 H3:=(g1.trans g2).trans g3
  cases z with
  |bool b=>
   have e1:v3= .bl b:=Bo.bl (K:=K) (Hb:=Hb3) (H:=H3) (.inl r3)
   refine⟨b,e1,?_⟩
   cases b with
   |true=>
    show CN K W .bor mc σ H3 fun w' H4=>rOf K .dat g' v2 w' H4 Q
    have e:ji g g' ma mb mc ρ=(mc ρ).bind fun w=>g' d2 w:=by simp [ji,hd,hd2,q,ER.bind]
    rw [e] at h1 h2 h3
    refine⟨Hf,Hb3,ρ,R.gw gg,fun d4 hd4 v4 Hb4 H4 g4 r4=> ?_,fun c hc Hb4 H4 g4=>h2 c (by simp [hc,ER.bind]) Hb4 H4 (gg.trans g4),fun z=>h3 (by simp [z,ER.bind])⟩
    rw [hd4] at h1 h3
    cases q4:g' d2 d4 with
    |bad=>exact absurd (by simp [q4,ER.bind]) h3
    |ex c=>exact absurd q4 (ng' _ _ _)
    |ok z4=>exact⟨Hb4,d2,d4,z4,g4.bh,Bo.ex (g3.b.trans g4.b) (g3.h.trans g4.h) r2,r4,q4,fun v Hb5 H5 g5 r5=>h1 z4 (by simp [q4,ER.bind]) v Hb5 H5 ((gg.trans g4).trans g5) r5⟩
   |false=>
    show Q (.bl false) H3
    exact h1 (.bool false) (by simp [ji,hd,hd2,q,ER.bind]) _ Hb3 H3 gg mX
  |_=>exact absurd (by simp [ji,hd,hd2,q,ER.bind]) h3
end
section
variable{X:Cx}{W:WQ}{a b c:Expr}{ma mb mc:EM}{g g' :D→D→ER}{pos:Pos}
theorem aaG{op op' :CmpOp}(ho:HD X (compareOp op) .dat g)(ho' :HD X (compareOp op') .dat g')(ng:lJ g)(ng' :lJ g')(ha:DE X W .bor a ma)(hb:DE X W .bor b mb)(hc:DE X W .bor c mc)
 (hm:lastMarks [op,op'] [b,c]=false:=by with_unfolding_all rfl):DE X W .dat (.Compare a [op,op'] [b,c] pos) (ji g g' ma mb mc):=PE.imp (pe_chain ho ho' ha hb hc hm) fun _ _ _=>WW ng ng'
theorem rH{op op' :CmpOp}(ho:HD X (compareOp op) .dat g)(ho' :HD X (compareOp op') .dat g')(ng:lJ g)(ng' :lJ g')(ha:DE X W .bor a ma)(hb:DE X W .bor b mb)(hc:DE X W .bor c mc)
 (hm:lastMarks [op,op'] [b,c]=false:=by with_unfolding_all rfl):DT X W (.Compare a [op,op'] [b,c] pos) (ji g g' ma mb mc):=PT.imp (pt_chain ho ho' ha hb hc hm) fun σ H Q h=>by
 obtain⟨Hf,Hb,ρ,R,h1,h2,h3⟩:=Qc h
 exact WW ng ng' ⟨Hf,Hb,ρ,R,fun d hd v Hb' H' g r=>h1 d hd v Hb' H' g (.inl r),h2,h3⟩
end
inductive AR where
 |ok (ds:List D)|ex (c:Str)|bad
def ou:List EM→Env→AR
 |[],_=> .ok []
 |m::r,ρ=>match m ρ with
  | .ok d=>(match ou r ρ with
    | .ok ds=> .ok (d::ds)
    | .ex c=> .ex c
    | .bad=> .bad)
  | .ex c=> .ex c
  | .bad=> .bad
def Ra(K:aq)(kd:Kd)(Hb H:Hp)(v:V)(d:D):Prop:=match kd with
 | .dat=>Dr K Hb v d
 |_=>Bo K Hb H v d
inductive oV(K:aq)(Hb H:Hp):List Kd→List V→List D→Prop
 |nil:oV K Hb H [] [] []
 |cons {kd:Kd} {ks:List Kd} {v:V} {vs:List V} {d:D} {ds:List D}:Ra K kd Hb H v d→oV K Hb H ks vs ds→oV K Hb H (kd::ks) (v::vs) (d::ds)
def aOf(K:aq)(W:WQ)(ks:List Kd)(ms:List EM):TA:=fun σ H Q=>∃(Hf Hb:Hp) (ρ:Env),gJ K W.pin Hf Hb H σ ρ∧
 (∀ds,ou ms ρ= .ok ds→∀vs Hb' H',Gw Hb H Hb' H' →oV K Hb' H' ks vs ds→Q vs H')∧
 (∀c,ou ms ρ= .ex c→∀Hb' H',Gw Hb H Hb' H' →W.w (.ref (He.ga K c)) none σ H')∧ou ms ρ≠ .bad
abbrev DA(X:Cx)(W:WQ)(ks:List Kd)(es:List Expr)(ms:List EM):Prop:=PA X es (aOf X.K W ks ms)
theorem PA.imp{X:Cx}{e:List Expr}{t t' :TA}(h:PA X e t)(i:∀σ H Q,t' σ H Q→t σ H Q):PA X e t' :=⟨fun pos pins s σ H Q I q=>h.run pos pins s σ H Q I (i σ H Q q)⟩
theorem Ra.ex{K:aq}{kd:Kd}{Hb H Hb' H' :Hp}{v:V}{d:D}(eb:Ex Hb Hb')(e:Ex H H')(h:Ra K kd Hb H v d):Ra K kd Hb' H' v d:=by
 cases kd with
 |dat=>exact mY eb h
 |new=>exact Bo.ex eb e h
 |bor=>exact Bo.ex eb e h
 |io p=>exact Bo.ex eb e h
 |tl=>exact Bo.ex eb e h
theorem Rs.ra{K:aq}{kd:Kd}{H0 Hb H:Hp}{v:V}{d:D}(h:Rs K kd H0 Hb H v d)(hk:kd.arg=true):Ra K kd Hb H v d:=by
 cases kd with
 |dat=>exact h
 |bor=>exact h
 |new=>exact h.ad2
 |io p=>cases hk
 |tl=>cases hk
section
variable{X:Cx}{W:WQ}{kd:Kd}{ks:List Kd}{e:Expr}{es:List Expr}{m:EM}{ms:List EM}
theorem eX:DA X W [] [] []:=PA.imp pa_nil fun σ H Q ⟨Hf,Hb,ρ,R,h1,_,_⟩=>h1 [] rfl [] Hb H (Gw.refl R.eb) .nil
theorem d9(h:DE X W kd e m)(hr:DA X W ks es ms)(hp:starEach (e::es) X.env=(false,eval e X.env)::starEach es X.env:=by rfl)(hk:kd.arg=true:=by rfl):DA X W (kd::ks) (e::es) (m::ms):=PA.imp (pa_cons h hr hp) fun σ H Q ⟨Hf,Hb,ρ,R,h1,h2,h3⟩=>by
 refine⟨Hf,Hb,ρ,R,fun d hd v Hb1 H1 g1 r1=> ?_,fun c hc Hb1 H1 g1=>h2 c (by simp [ou,hc]) Hb1 H1 g1,fun z=>h3 (by simp [ou,z])⟩
 refine⟨Hf,Hb1,ρ,R.gw g1,fun ds hds vs Hb2 H2 g2 r2=>h1 (d::ds) (by simp [ou,hd,hds]) _ Hb2 H2 (g1.trans g2) (.cons ((r1.ra hk).ex g2.b g2.h) r2),fun c hc Hb2 H2 g2=>h2 c (by simp [ou,hd,hc]) Hb2 H2 (g1.trans g2),fun z=>h3 (by simp [ou,hd,z])⟩
end
theorem oV.dr{K:aq}{Hb H:Hp}:∀{ks:List Kd} {vs:List V} {ds:List D},(∀k∈ks,k= .dat)→oV K Hb H ks vs ds→ju K Hb vs ds
 |_,_,_,_, .nil=> .nil
 |_,_,_,hk, .cons a b=>by
  have e:=hk _ aX
  subst e
  exact .cons a (oV.dr (fun k hm=>hk k (aN _ hm)) b)
theorem oV.len{K:aq}{Hb H:Hp}:∀{ks:List Kd} {vs:List V} {ds:List D},oV K Hb H ks vs ds→vs.length=ds.length
 |_,_,_, .nil=>rfl
 |_,_,_, .cons _ b=>by simp [oV.len b]
def jw(ms:List EM):EM:=fun ρ=>match ou ms ρ with
 | .ok ds=>if ds.length≤sizeLine then .ok (.tuple ds) else .bad
 | .ex c=> .ex c
 | .bad=> .bad
def lC(ms:List EM):EM:=fun ρ=>match ou ms ρ with
 | .ok ds=>if ds.length≤sizeLine then .ok (.list ds) else .bad
 | .ex c=> .ex c
 | .bad=> .bad
section
variable{X:Cx}{W:WQ}{ks:List Kd}{es:List Expr}{ms:List EM}{pos:Pos}
theorem iJ{x1}(h:DA X W ks es ms)(hk:∀k∈ks,k= .dat:=by simp):DE X W .dat (.Tuple es x1 pos) (jw ms):=PE.imp (pe_tup h) fun σ H Q ⟨Hf,Hb,ρ,R,h1,h2,h3⟩=>by
 refine⟨Hf,Hb,ρ,R,fun ds hds vs Hb1 H1 g1 r1=> ?_,fun c hc=>h2 c (by simp [jw,hc]),fun z=>h3 (by simp [jw,z])⟩
 have r:=r1.dr hk
 by_cases hl:ds.length≤sizeLine
 ·refine⟨by rw [r1.len];exact hl,fun p hp=> ?_⟩
  have z:=Gw.tup g1.bh hp r
  exact h1 (.tuple ds) (by simp [jw,hds,hl]) _ _ _ (g1.trans z.1) z.2
 ·exact absurd (by simp [jw,hds,hl]) h3
theorem jX(h:DA X W ks es ms)(hk:∀k∈ks,k= .dat:=by simp):DE X W .new (.List es pos) (lC ms):=PE.imp (pe_lst h) fun σ H Q ⟨Hf,Hb,ρ,R,h1,h2,h3⟩=>by
 refine⟨Hf,Hb,ρ,R,fun ds hds vs Hb1 H1 g1 r1=> ?_,fun c hc=>h2 c (by simp [lC,hc]),fun z=>h3 (by simp [lC,z])⟩
 have r:=r1.dr hk
 by_cases hl:ds.length≤sizeLine
 ·refine⟨by rw [r1.len];exact hl,fun p hp=> ?_⟩
  have z:=Gw.ab6 g1.bh hp r
  exact h1 (.list ds) (by simp [lC,hds,hl]) _ _ _ (g1.trans z.1) (z.2.back g1.h)
 ·exact absurd (by simp [lC,hds,hl]) h3
end
def fV:D→D→ER
 | .list ds, .int i=>(match atI ds i with
   |some d=> .ok d
   |none=> .bad)
 | .tuple ds, .int i=>(match atI ds i with
   |some d=> .ok d
   |none=> .bad)
 | .str s, .int i=>if s.length≤sizeLine then(match atI s.cps.toList i with
   |some c=> .ok (.str ⟨#[c]⟩)
   |none=> .bad) else .bad
 |_,_=> .bad
theorem T5:lJ fV:=fun x y c h=>by
 cases x<;>cases y<;>simp only [fV] at h<;>(repeat' split at h)<;>cases h
theorem Z9{K:aq}{H:Hp}{ds:List D}{vs:List V}{i:Int}{d:D}(a:ju K H vs ds)(h:atI ds i=some d):∃v,atI vs i=some v∧Dr K H v d:=by
 unfold atI at h⊢
 rw [iV a]
 cases q:ixN ds.length i with
 |none=>
  rw [q] at h
  cases h
 |some j=>
  rw [q] at h
  exact Ji a h
section
variable{X:Cx}{W:WQ}{a b:Expr}{ma mb:EM}{pos:Pos}
theorem ajz:IxR X (rOf X.K .dat fV):=by
 intro value slice pins s σ H x y v u Q I rx ry h hs
 obtain⟨Hb,dx,dy,d,eb,bx,byy,hg,q⟩:=h
 cases dx<;>cases dy<;>simp only [fV] at hg<;>first|cases hg;done|skip
 ·split at hg
  ·split at hg
   ·rename_i hz _ c hc
    cases hg
    exact ix_str value slice pins s σ H x y v u Q I rx ry ⟨_,_,c,bx.str,byy.int,hz,hc,q _ Hb H (Gw.refl eb) acL⟩ hs
   ·cases hg
  ·cases hg
 ·split at hg
  ·rename_i hc
   cases hg
   obtain⟨p,xs,e1,s1,a1⟩:=bx.lst eb
   obtain⟨w,w1,w2⟩:=Z9 a1 hc
   exact ix_list value slice pins s σ H x y v u Q I rx ry ⟨p,xs,_,w,e1,byy.int,s1,w1,q _ Hb H (Gw.refl eb) w2⟩ hs
  ·cases hg
 ·split at hg
  ·rename_i hc
   cases hg
   obtain⟨p,xs,e1,s1,a1⟩:=bx.tup eb
   obtain⟨w,w1,w2⟩:=Z9 a1 hc
   exact ix_tup value slice pins s σ H x y v u Q I rx ry ⟨p,xs,_,w,e1,byy.int,s1,w1,q _ Hb H (Gw.refl eb) w2⟩ hs
  ·cases hg
theorem fD(ha:DE X W .bor a ma)(hb:DE X W .bor b mb)(hs:PlainIx b:=by exact fun _ _=>rfl):DE X W .dat (.Subscript a b pos) (eO fV ma mb):=PE.imp (pe_ix ajz ha hb hs) fun _ _ _=>Gi T5
end
def cutD{α:Type}(xs:List α)(lo hi:Option Int):List α:=(xs.drop (HT.sIx xs.length 0 lo)).take (HT.sIx xs.length xs.length hi-HT.sIx xs.length 0 lo)
def dSl(x:D)(lo hi:Option Int):ER:=match x with
 | .list ds=> .ok (.list (cutD ds lo hi))
 | .tuple ds=> .ok (.tuple (cutD ds lo hi))
 | .str z=>if z.length≤sizeLine then .ok (.str (cutS z lo hi)) else .bad
 |_=> .bad
inductive OR where
 |ok (o:Option Int)|ex (c:Str)|bad
def evO:Option EM→Env→OR
 |none,_=> .ok none
 |some m,ρ=>match m ρ with
  | .ok (.int i)=> .ok (some i)
  | .ok _=> .bad
  | .ex c=> .ex c
  | .bad=> .bad
def PB(m:EM)(ml mh:Option EM):EM:=fun ρ=>(m ρ).bind fun x=>match evO ml ρ with
 | .ok lo=>(match evO mh ρ with
   | .ok hi=>dSl x lo hi
   | .ex c=> .ex c
   | .bad=> .bad)
 | .ex c=> .ex c
 | .bad=> .bad
def oOf(K:aq)(W:WQ)(m:Option EM):TO:=fun σ H Q=>∃(Hf Hb:Hp) (ρ:Env),gJ K W.pin Hf Hb H σ ρ∧
 (∀o,evO m ρ= .ok o→∀Hb' H',Gw Hb H Hb' H' →Q o H')∧
 (∀c,evO m ρ= .ex c→∀Hb' H',Gw Hb H Hb' H' →W.w (.ref (He.ga K c)) none σ H')∧evO m ρ≠ .bad
abbrev DO(X:Cx)(W:WQ)(e:Option Expr)(m:Option EM):Prop:=PO X e (oOf X.K W m)
theorem PO.imp{X:Cx}{e:Option Expr}{t t' :TO}(h:PO X e t)(i:∀σ H Q,t' σ H Q→t σ H Q):PO X e t' :=⟨fun pins s σ H Q I q=>h.run pins s σ H Q I (i σ H Q q)⟩
def amV(K:aq):V→Option Int→Option Int→Hp→VK→Prop:=fun x lo hi H Q=>∃Hb dx d,Ex Hb H∧Bo K Hb H x dx∧dSl dx lo hi= .ok d∧∀v Hb' H',Gw Hb H Hb' H' →Dr K Hb' v d→Q v H'
theorem Wy{K:aq}{H:Hp}{ds:List D}{vs:List V}(lo hi:Option Int)(a:ju K H vs ds):ju K H (cutV vs lo hi) (cutD ds lo hi):=by
 unfold cutV cutD
 rw [iV a]
 exact Q7 _ (Tc _ a)
section
variable{X:Cx}{W:WQ}{a:Expr}{lo hi:Option Expr}{e:Expr}{m:EM}{ml mh:Option EM}{pos p2:Pos}
theorem GD:DO X W none none:=PO.imp po_none fun σ H Q ⟨Hf,Hb,ρ,R,h1,_,_⟩=>h1 none rfl Hb H (Gw.refl R.eb)
theorem G3(h:DE X W .bor e m):DO X W (some e) (some m):=PO.imp (po_some h) fun σ H Q ⟨Hf,Hb,ρ,R,h1,h2,h3⟩=>by
 refine⟨Hf,Hb,ρ,R,fun d hd v Hb' H' g r=> ?_,fun c hc=>h2 c (by simp [evO,hc]),fun z=>h3 (by simp [evO,z])⟩
 cases d with
 |int i=>exact⟨i,Bo.int r,h1 (some i) (by simp [evO,hd]) Hb' H' g⟩
 |_=>exact absurd (by simp [evO,hd]) h3
theorem amb:SlR X (amV X.K):=by
 intro pins s σ H x v vl vu lo hi sl Q I rx hs pl pu h
 obtain⟨Hb,dx,d,eb,bx,hg,q⟩:=h
 cases dx<;>simp only [dSl] at hg<;>first|cases hg;done|skip
 ·split at hg
  ·rename_i hz
   cases hg
   exact sl_str pins s σ H x v vl vu lo hi sl Q I rx hs pl pu ⟨_,bx.str,hz,q _ Hb H (Gw.refl eb) (.str _)⟩
  ·cases hg
 ·cases hg
  obtain⟨p,xs,e1,s1,a1⟩:=bx.lst eb
  refine sl_list pins s σ H x v vl vu lo hi sl Q I rx hs pl pu ⟨p,xs,e1,s1,fun r hr=> ?_⟩
  have z:=Gw.lst eb hr (Wy lo hi a1)
  exact q _ _ _ z.1 z.2
 ·cases hg
  obtain⟨p,xs,e1,s1,a1⟩:=bx.tup eb
  refine sl_tupA pins s σ H x v vl vu lo hi sl Q I rx hs pl pu ⟨p,xs,e1,s1,fun hw=> ?_,fun _ r hr=> ?_⟩
  ·rename_i ds
   have e2:cutD ds lo hi=ds:=by
    unfold cutD
    rw [iV a1] at hw
    rw [hw.1,hw.2]
    simp
   rw [e2] at q
   rcases bx with b2|⟨_,_,_,_,b2⟩
   ·rw [←e1]
    exact q _ Hb H (Gw.refl eb) b2
   ·cases b2
  ·have z:=Gw.tup eb hr (Wy lo hi a1)
   exact q _ _ _ z.1 z.2
theorem W7(ha:DE X W .bor a m)(hl:DO X W lo ml)(hh:DO X W hi mh):DE X W .dat (.Subscript a (.Slice lo hi none p2) pos) (PB m ml mh):=PE.imp (pe_slice amb ha hl hh) fun σ H Q ⟨Hf,Hb,ρ,R,h1,h2,h3⟩=>by
 refine⟨Hf,Hb,ρ,R,fun d hd v Hb1 H1 g1 r1=> ?_,fun c hc=>h2 c (by simp [PB,hc,ER.bind]),fun z=>h3 (by simp [PB,z,ER.bind])⟩
 refine⟨Hf,Hb1,ρ,R.gw g1,fun o ho Hb2 H2 g2=> ?_,fun c hc Hb2 H2 g2=>h2 c (by simp [PB,hd,hc,ER.bind]) Hb2 H2 (g1.trans g2),fun z=>h3 (by simp [PB,hd,z,ER.bind])⟩
 refine⟨Hf,Hb2,ρ,R.gw (g1.trans g2),fun o2 ho2 Hb3 H3 g3=> ?_,fun c hc Hb3 H3 g3=>h2 c (by simp [PB,hd,ho,hc,ER.bind]) Hb3 H3 ((g1.trans g2).trans g3),fun z=>h3 (by simp [PB,hd,ho,z,ER.bind])⟩
 have e:PB m ml mh ρ=dSl d o o2:=by simp [PB,hd,ho,ho2,ER.bind]
 rw [e] at h1 h2 h3
 cases q:dSl d o o2 with
 |bad=>exact absurd q h3
 |ex c=>
  exfalso
  cases d<;>simp only [dSl] at q<;>first|cases q;done|(split at q<;>cases q)
 |ok z=>exact⟨Hb3,d,z,g3.bh,Bo.ex (g2.b.trans g3.b) (g2.h.trans g3.h) r1,q,fun v Hb4 H4 g4 r4=>h1 z q v Hb4 H4 (((g1.trans g2).trans g3).trans g4) r4⟩
end
end DL
namespace DL
open PySem L2 Evl
def cOf(K:aq)(kd:Kd)(g:List D→ER):List V→Hp→VK→Prop:=fun vs H Q=>∃Hb ks ds d,Ex Hb H∧oV K Hb H ks vs ds∧g ds= .ok d∧∀v Hb' H',Gw Hb H Hb' H' →Rs K kd H Hb' H' v d→Q v H'
abbrev CallD(X:Cx)(f:Value)(kd:Kd)(g:List D→ER):Prop:=CallR X f (cOf X.K kd g)
def yc(g:List D→ER):Prop:=∀ds c,g ds≠ .ex c
def fu(g:List D→ER)(ms:List EM):EM:=fun ρ=>match ou ms ρ with
 | .ok ds=>g ds
 | .ex c=> .ex c
 | .bad=> .bad
theorem Wb{K:aq}{W:WQ}{kd:Kd}{g:List D→ER}{ks:List Kd}{ms:List EM}(ng:yc g){σ:L2.St}{H:Hp}{Q:VK}(h:CN K W kd (fu g ms) σ H Q):tCB (cOf K kd g) (aOf K W ks ms) σ H Q:=by
 obtain⟨Hf,Hb,ρ,R,h1,h2,h3⟩:=h
 refine⟨Hf,Hb,ρ,R,fun ds hds vs Hb1 H1 g1 r1=> ?_,fun c hc=>h2 c (by simp [fu,hc]),fun z=>h3 (by simp [fu,z])⟩
 have e:fu g ms ρ=g ds:=by simp [fu,hds]
 rw [e] at h1 h3
 cases q:g ds with
 |bad=>exact absurd q h3
 |ex c=>exact absurd q (ng _ _)
 |ok z=>exact⟨Hb1,ks,ds,z,g1.bh,r1,q,fun v Hb2 H2 g2 r2=>h1 z q v Hb2 H2 (g1.trans g2) (r2.back g1.h)⟩
section
variable{X:Cx}{W:WQ}{kd:Kd}{ks:List Kd}{x:Str}{p pos:Pos}{e:Expr}{es:List Expr}{ms:List EM}{id T:String}{g:List D→ER}
theorem gD(hc:CallD X (.builtin id) kd g)(ng:yc g)(hm:X.mg x=none)(hv:bootBuiltins x=some (.builtin id))(ha:DA X W ks (e::es) ms)(hg:Gl X x:=by rfl)(hn:x≠"__name__":=by decide)(hdb:(x==("__debug__":Str))=false:=by decide)
 (he:starEach (e::es) X.env=(false,eval e X.env)::starEach es X.env:=by rfl) (hpl:(backTo pos (starEach es X.env)).any (·.1)=false:=by rfl):DE X W kd (.Call (.Name x p) (e::es) [] pos) (fu g ms):=
 PE.imp (pe_callB hc hg hm hv ha hn hdb he hpl) fun _ _ _=>Wb ng
theorem iY(hc:CallD X (.type T) kd g)(ng:yc g)(hm:X.mg x=none)(hv:bootBuiltins x=some (.type T))(ha:DA X W ks (e::es) ms)(hg:Gl X x:=by rfl)(hn:x≠"__name__":=by decide)(hdb:(x==("__debug__":Str))=false:=by decide)
 (he:starEach (e::es) X.env=(false,eval e X.env)::starEach es X.env:=by rfl) (hpl:(backTo pos (starEach es X.env)).any (·.1)=false:=by rfl):DE X W kd (.Call (.Name x p) (e::es) [] pos) (fu g ms):=
 PE.imp (pe_callTy hc hg hm hv ha hn hdb he hpl) fun _ _ _=>Wb ng
end
theorem Ra.bo{K:aq}{kd:Kd}{Hb H:Hp}{v:V}{d:D}(h:Ra K kd Hb H v d):Bo K Hb H v d:=by
 cases kd with
 |dat=>exact .inl h
 |new=>exact h
 |bor=>exact h
 |io p=>exact h
 |tl=>exact h
theorem ra1{K:aq}{Hb H:Hp}{ks:List Kd}{vs:List V}{d:D}(h:oV K Hb H ks vs [d]):∃v,vs=[v]∧Bo K Hb H v d:=by
 cases h with
 |cons a b=>
  cases b
  exact⟨_,rfl,a.bo⟩
theorem ra2{K:aq}{Hb H:Hp}{ks:List Kd}{vs:List V}{d e:D}(h:oV K Hb H ks vs [d,e]):∃v w,vs=[v,w]∧Bo K Hb H v d∧Bo K Hb H w e:=by
 cases h with
 |cons a b=>
  cases b with
  |cons c b=>
   cases b
   exact⟨_,_,rfl,a.bo,c.bo⟩
def je:List D→ER
 |[.list ds]=> .ok (.int ds.length)
 |[.tuple ds]=> .ok (.int ds.length)
 |[.str z]=>if z.length≤sizeLine then .ok (.int z.length) else .bad
 |_=> .bad
def Pq:List D→ER
 |[.int i, .int j]=> .ok (.int (if j<i then j else i))
 |_=> .bad
def TY:List D→ER
 |[.int i]=> .ok (.int i)
 |[.bool k]=> .ok (.int (if k then 1 else 0))
 |_=> .bad
def adH:List D→ER
 |[.int i, .int j]=>if 0<j∧j.natAbs.log2<9000 then .ok (.tuple [.int (i/j), .int (i%j)]) else .bad
 |_=> .bad
def qZ:List D→ER
 |[.list ds]=> .ok (.list ds)
 |[.tuple ds]=> .ok (.list ds)
 |_=> .bad
def lW:List D→ER
 |[.list ds]=> .ok (.tuple ds)
 |[.tuple ds]=> .ok (.tuple ds)
 |_=> .bad
def toInts:List D→Option (List Int)
 |[]=>some []
 | .int i::r=>(toInts r).map (i::·)
 |_=>none
def Jp:List D→Option (List Bool)
 |[]=>some []
 | .bool i::r=>(Jp r).map (i::·)
 |_=>none
def Yk(n:Int)(ns:List Int):Int:=ns.foldl max n
theorem adW:∀(ns:List Int) (n:Int),n≤Yk n ns∧∀y∈ns,y≤Yk n ns
 |[],n=>⟨Int.le_refl _,fun y h=>by cases h⟩
 |m::ns,n=>by
  have ih:=adW ns (max n m)
  show n≤Yk (max n m) ns∧∀y∈m::ns,y≤Yk (max n m) ns
  refine⟨by omega,fun y hy=> ?_⟩
  rcases aH.mp hy with h|h
  ·omega
  ·exact ih.2 y h
theorem Sq:∀(ns:List Int) (n:Int),Yk n ns∈n::ns
 |[],n=>aR.mpr rfl
 |m::ns,n=>by
  have ih:=Sq ns (max n m)
  show Yk (max n m) ns∈n::m::ns
  rcases aH.mp ih with h|h
  ·rcases Int.le_total n m with z|z
   ·rw [h,Int.max_eq_right z]
    exact aN _ aX
   ·rw [h,Int.max_eq_left z]
    exact aX
  ·exact aN _ (aN _ h)
def Vf:List D→ER
 |[.int i, .int j]=> .ok (.int (if j>i then j else i))
 |[.list ds]=>(match toInts ds with
  |some (n::ns)=> .ok (.int (Yk n ns))
  |_=> .bad)
 |_=> .bad
def ahj:List D→ER
 |[.list ds]=>(match Jp ds with
  |some ns=> .ok (.bool (ns.all id))
  |none=> .bad)
 |_=> .bad
theorem Fx{K:aq}{H:Hp}:∀{ds:List D} {vs:List V} {ns:List Int},toInts ds=some ns→ju K H vs ds→vs=ns.map V.int
 |[],_,_,h, .nil=>by
  cases h
  rfl
 | .int i::r,_,_,h, .cons a b=>by
   simp only [toInts] at h
   cases q:toInts r with
   |none=>
    rw [q] at h
    cases h
   |some m=>
    rw [q] at h
    cases h
    cases a
    rw [Fx q b]
    rfl
 | .none::_,_,_,h,_=>by cases h
 | .bool _::_,_,_,h,_=>by cases h
 | .str _::_,_,_,h,_=>by cases h
 | .list _::_,_,_,h,_=>by cases h
 | .tuple _::_,_,_,h,_=>by cases h
 | .dict _::_,_,_,h,_=>by cases h
theorem JR{K:aq}{H:Hp}:∀{ds:List D} {vs:List V} {ns:List Bool},Jp ds=some ns→ju K H vs ds→vs=ns.map V.bl
 |[],_,_,h, .nil=>by
  cases h
  rfl
 | .bool i::r,_,_,h, .cons a b=>by
   simp only [Jp] at h
   cases q:Jp r with
   |none=>
    rw [q] at h
    cases h
   |some m=>
    rw [q] at h
    cases h
    cases a
    rw [JR q b]
    rfl
 | .none::_,_,_,h,_=>by cases h
 | .int _::_,_,_,h,_=>by cases h
 | .str _::_,_,_,h,_=>by cases h
 | .list _::_,_,_,h,_=>by cases h
 | .tuple _::_,_,_,h,_=>by cases h
 | .dict _::_,_,_,h,_=>by cases h
theorem jd:yc je:=fun ds c h=>by
 unfold je at h
 repeat' split at h
 all_goals cases h
theorem RG:yc Pq:=fun ds c h=>by
 unfold Pq at h
 repeat' split at h
 all_goals cases h
theorem ahl:yc Vf:=fun ds c h=>by
 unfold Vf at h
 repeat' split at h
 all_goals cases h
theorem ac1:yc TY:=fun ds c h=>by
 unfold TY at h
 repeat' split at h
 all_goals cases h
theorem Aq:yc qZ:=fun ds c h=>by
 unfold qZ at h
 repeat' split at h
 all_goals cases h
theorem rO:yc lW:=fun ds c h=>by
 unfold lW at h
 repeat' split at h
 all_goals cases h
theorem ald:yc ahj:=fun ds c h=>by
 unfold ahj at h
 repeat' split at h
 all_goals cases h
section
variable{X:Cx}
theorem jc:CallD X (.builtin "len") .dat je:=by
 intro pins s σ H vs us Q I r h
 obtain⟨Hb,ks,ds,d,eb,ra,hg,q⟩:=h
 unfold je at hg
 split at hg
 ·cases hg
  obtain⟨v,rfl,b⟩:=ra1 ra
  obtain⟨p,xs,e1,s1,a1⟩:=b.lst eb
  exact call_len pins s σ H _ us Q I r ⟨v,xs.length,rfl,by rw [e1];exact .inl ⟨xs,s1,rfl⟩,by rw [iV a1];exact q _ Hb H (Gw.refl eb) pC⟩
 ·cases hg
  obtain⟨v,rfl,b⟩:=ra1 ra
  obtain⟨p,xs,e1,s1,a1⟩:=b.tup eb
  exact call_len pins s σ H _ us Q I r ⟨v,xs.length,rfl,by rw [e1];exact .inr ⟨xs,s1,rfl⟩,by rw [iV a1];exact q _ Hb H (Gw.refl eb) pC⟩
 ·split at hg
  ·rename_i hz
   cases hg
   obtain⟨v,rfl,b⟩:=ra1 ra
   exact call_len pins s σ H _ us Q I r ⟨v,_,rfl,by rw [b.str];exact⟨hz,rfl⟩,q _ Hb H (Gw.refl eb) pC⟩
  ·cases hg
 ·cases hg
theorem Rm(hc:X.calm=true):CallD X (.builtin "min") .dat Pq:=by
 intro pins s σ H vs us Q I r h
 obtain⟨Hb,ks,ds,d,eb,ra,hg,q⟩:=h
 unfold Pq at hg
 split at hg
 ·cases hg
  obtain⟨v,w,rfl,b1,b2⟩:=ra2 ra
  exact call_min2 hc pins s σ H _ us Q I r ⟨_,_,by rw [b1.int,b2.int],q _ Hb H (Gw.refl eb) pC⟩
 ·cases hg
theorem agL(hc:X.calm=true):CallD X (.builtin "max") .dat Vf:=by
 intro pins s σ H vs us Q I r h
 obtain⟨Hb,ks,ds,d,eb,ra,hg,q⟩:=h
 unfold Vf at hg
 split at hg
 ·cases hg
  obtain⟨v,w,rfl,b1,b2⟩:=ra2 ra
  exact call_max2 hc pins s σ H _ us Q I r ⟨_,_,by rw [b1.int,b2.int],q _ Hb H (Gw.refl eb) pC⟩
 ·split at hg
  ·rename_i n ns hn
   cases hg
   obtain⟨v,rfl,b1⟩:=ra1 ra
   obtain⟨p,xs,e1,s1,a1⟩:=b1.lst eb
   rw [Fx hn a1] at s1
   refine cr_max hc pins s σ H _ us Q I r ⟨p,n::ns,by rw [e1],s1,by simp,fun m h1 h2=> ?_⟩
   have e2:m=Yk n ns:=by
    have z1:=h2 _ (Sq ns n)
    have z2:=adW ns n
    rcases aH.mp h1 with z|z
    ·omega
    ·have:=z2.2 m z
     omega
   rw [e2]
   exact q _ Hb H (Gw.refl eb) pC
  ·cases hg
 ·cases hg
theorem agA:CallD X (.type "int") .dat TY:=by
 intro pins s σ H vs us Q I r h
 obtain⟨Hb,ks,ds,d,eb,ra,hg,q⟩:=h
 unfold TY at hg
 split at hg
 ·cases hg
  obtain⟨v,rfl,b1⟩:=ra1 ra
  exact call_int1 pins s σ H _ us Q I r (.inl ⟨_,by rw [b1.int],q _ Hb H (Gw.refl eb) pC⟩)
 ·cases hg
  obtain⟨v,rfl,b1⟩:=ra1 ra
  exact call_int1 pins s σ H _ us Q I r (.inr ⟨_,by rw [b1.bl],q _ Hb H (Gw.refl eb) pC⟩)
 ·cases hg
theorem Aj:CallD X (.type "list") .new qZ:=by
 intro pins s σ H vs us Q I r h
 obtain⟨Hb,ks,ds,d,eb,ra,hg,q⟩:=h
 unfold qZ at hg
 split at hg
 ·cases hg
  obtain⟨v,rfl,b1⟩:=ra1 ra
  obtain⟨p,xs,e1,s1,a1⟩:=b1.lst eb
  subst e1
  refine call_list_of pins s σ H _ us Q I r ⟨p,xs,rfl, .inl s1,fun l hl=> ?_⟩
  have z:=Gw.ab6 eb hl a1
  exact q _ _ _ z.1 z.2
 ·cases hg
  obtain⟨v,rfl,b1⟩:=ra1 ra
  obtain⟨p,xs,e1,s1,a1⟩:=b1.tup eb
  subst e1
  refine call_list_of pins s σ H _ us Q I r ⟨p,xs,rfl, .inr s1,fun l hl=> ?_⟩
  have z:=Gw.ab6 eb hl a1
  exact q _ _ _ z.1 z.2
 ·cases hg
theorem rJ:CallD X (.type "tuple") .dat lW:=by
 intro pins s σ H vs us Q I r h
 obtain⟨Hb,ks,ds,d,eb,ra,hg,q⟩:=h
 unfold lW at hg
 split at hg
 ·cases hg
  obtain⟨v,rfl,b1⟩:=ra1 ra
  obtain⟨p,xs,e1,s1,a1⟩:=b1.lst eb
  subst e1
  refine call_tuple_of pins s σ H _ us Q I r ⟨p,xs,rfl, .inl ⟨s1,fun l hl=> ?_⟩⟩
  have z:=Gw.tup eb hl a1
  exact q _ _ _ z.1 z.2
 ·cases hg
  obtain⟨v,rfl,b1⟩:=ra1 ra
  obtain⟨p,xs,e1,s1,a1⟩:=b1.tup eb
  subst e1
  refine call_tuple_of pins s σ H _ us Q I r ⟨p,xs,rfl, .inr ⟨s1,q _ Hb H (Gw.refl eb) ?_⟩⟩
  rcases b1 with b|⟨_,_,_,_,b⟩
  ·exact b
  ·cases b
 ·cases hg
theorem ala(hc:X.calm=true):CallD X (.builtin "all") .dat ahj:=by
 intro pins s σ H vs us Q I r h
 obtain⟨Hb,ks,ds,d,eb,ra,hg,q⟩:=h
 unfold ahj at hg
 split at hg
 ·split at hg
  ·rename_i ns hn
   cases hg
   obtain⟨v,rfl,b1⟩:=ra1 ra
   obtain⟨p,xs,e1,s1,a1⟩:=b1.lst eb
   rw [JR hn a1] at s1
   exact cr_all hc pins s σ H _ us Q I r ⟨p,ns,by rw [e1],s1,q _ Hb H (Gw.refl eb) mX⟩
  ·cases hg
 ·cases hg
end
def BJ:D→String
 | .none=>"NoneType"
 | .bool _=>"bool"
 | .int _=>"int"
 | .str _=>"str"
 | .list _=>"list"
 | .tuple _=>"tuple"
 | .dict _=>"dict"
def isT(T:String):D→Bool
 | .none=>T=="NoneType"
 | .bool _=>T=="bool"||T=="int"
 | .int _=>T=="int"
 | .str _=>T=="str"
 | .list _=>T=="list"
 | .tuple _=>T=="tuple"
 | .dict _=>T=="dict"
def CJ(T:String)(m:EM):EM:=fun ρ=>(m ρ).bind fun d=> .ok (.bool (isT T d))
theorem Ko(T:String)(h:(["NoneType","bool","int","str","list","tuple","dict"].map fun n=>kitB n T)=[some (T=="NoneType"),some (T=="bool"||T=="int"),some (T=="int"),some (T=="str"),some (T=="list"),some (T=="tuple"),some (T=="dict")])(d:D):kitB (BJ d) T=some (isT T d):=by
 simp only [bA,cZ,List.cons.injEq] at h
 obtain⟨h1,h2,h3,h4,h5,h6,h7,_⟩:=h
 cases d<;>assumption
theorem aiW(d:D):kitB (BJ d) "int"=some (isT "int" d):=Ko "int" (by decide+kernel) d
theorem Qn(d:D):kitB (BJ d) "str"=some (isT "str" d):=Ko "str" (by decide+kernel) d
theorem agd(d:D):kitB (BJ d) "bool"=some (isT "bool" d):=Ko "bool" (by decide+kernel) d
theorem ahe(d:D):kitB (BJ d) "list"=some (isT "list" d):=Ko "list" (by decide+kernel) d
theorem kit_tuple(d:D):kitB (BJ d) "tuple"=some (isT "tuple" d):=Ko "tuple" (by decide+kernel) d
inductive TyY(K:aq)(H:Hp):V→Value→Prop where
 |x {v:V} {t:Value} (h:TyX K H v t):TyY K H v t
 |fT {a:Addr} {o:Obj} {kvs:List (List Key×V)} (e:H a=some (.frz o (.dT kvs))):TyY K H (.ref a) (.type "dict")
def ame(K:aq):List V→Hp→VK→Prop:=fun xs H Q=>∃(x c:V) (t u:Value) (b:Bool),xs=[x,c]∧ClsV c u∧TyY K H x t∧PySem.W.kitOne K t u=some b∧Q (.bl b) H
theorem ah2{X:Cx}{pins:List (Addr×Obj)}{σ:L2.St}{H:Hp}{s:Shared}{x:V}{u t:Value}(I:Inv X pins σ H s)(rx:RelV x u)(ty:TyY X.K H x t):∃P:Heap→Prop,PySem.W.KitX X.K u t P∧P s.heap∧u≠ .builtin "__main__.__loader__#opaque":=by
 cases ty with
 |x h=>exact kit_of I rx h
 | @fT a ob kvs e=>
   cases(show u=Value.ref a from rx)
   obtain⟨_,_,_,xs,_,o,es,ep,h1,h2,_⟩:=(show ObjOk X.prog X.w H s.heap a (.frz ob (.dT kvs)) from I.hok a _ e)
   exact⟨_,PySem.W.kitx_dict,⟨o,h1,h2.1⟩,fun z=>nomatch z⟩
theorem aeC{X:Cx}:CallR X (.builtin "isinstance") (ame X.K):=by
 intro pins s σ H xs us Q I r h
 obtain⟨x,c,t,u,b,rfl,k,ty,e,q⟩:=h
 obtain⟨u1,u2,rfl,r1,r2⟩:=vals2 r
 have e2:=k.eq r2
 subst e2
 obtain⟨P,Z,p,hx⟩:=ah2 I r1 ty
 exact PySem.W.kia_one Z I.kIn p e hx fun tk=>⟨.bl b,H,I.tok tk,rfl,q⟩
theorem Bo.ty{K:aq}{Hb H:Hp}{v:V}{d:D}(eb:Ex Hb H)(h:Bo K Hb H v d):TyY K H v (.type (BJ d)):=by
 rcases h with h|⟨p,h1,o,h2,h3⟩
 ·cases h with
  |non=>exact .x (.base .non)
  |bl b=>exact .x (.base (.bl b))
  |int b=>exact .x (.base (.int b))
  |str b=>exact .x (.base (.str b))
  |lst a b=>
   rcases a with(a|⟨o,a⟩)|⟨o,_,_,a,c,_⟩
   ·exact .x (.base (.lst (eb _ _ a)))
   ·exact .x (.base (.frz (eb _ _ a)))
   ·exact .x (.kList a c)
  |tup a b=>exact .x (.base (.tup (eb _ _ a)))
  |dict0 a=>
   rcases a with a|⟨o,a⟩
   ·exact .x (.base (.dK (eb _ _ a)))
   ·exact .x (.fDict (eb _ _ a))
  |DY a b=>exact .x (.fDict (eb _ _ a))
  |JF a b=>exact .fT (eb _ _ a)
 ·subst h1
  cases h3 with
  |lst a=>
   rcases h2 with h2|⟨_,kvs,z⟩
   ·exact .x (.base (.lst h2))
   ·cases z
  |dK a=>
   rcases h2 with h2|⟨⟨od,h2⟩,_⟩
   ·exact .x (.base (.dK h2))
   ·exact .x (.fDict h2)
  |dT a=>
   rcases h2 with h2|⟨_,kvs,z⟩
   ·exact .x (.base (.dT h2))
   ·cases z
section
variable{X:Cx}{W:WQ}{a:Expr}{m:EM}{p p2 pos:Pos}
theorem xr(T:String){x:Str}(hT:bootBuiltins x=some (.type T))(hk:∀d,kitB (BJ d) T=some (isT T d))(hm:X.mg "isinstance"=none)(hmx:X.mg x=none)(ha:DE X W .bor a m)(hg:Gl X "isinstance":=by rfl)(hgx:Gl X x:=by rfl)
 (hn:x≠"__name__":=by decide) (hdb:(x==("__debug__":Str))=false:=by decide)
 (hs:starEach [a, .Name x p2] X.env=(false,eval a X.env)::starEach [.Name x p2] X.env:=by rfl) (hs2:starEach [.Name x p2] X.env=(false,eval (.Name x p2) X.env)::starEach [] X.env:=by rfl)
 (hpl:(backTo pos (starEach [.Name x p2] X.env)).any (·.1)=false:=by rfl):DE X W .dat (.Call (.Name "isinstance" p) [a, .Name x p2] [] pos) (CJ T m):=
 PE.imp (pe_callB aeC hg hm PyProof.Rows.boot_isinstance (pa_cons ha (pa_cons (pe_bltn (v:= .ty T) hgx hmx hT rfl hn hdb) pa_nil hs2) hs) (by decide) (by decide) hs hpl) fun σ H Q ⟨Hf,Hb,ρ,R,h1,h2,h3⟩=>by
  refine⟨Hf,Hb,ρ,R,fun d hd v Hb1 H1 g1 r1=> ?_,fun c hc=>h2 c (by simp [CJ,hc,ER.bind]),fun z=>h3 (by simp [CJ,z,ER.bind])⟩
  exact⟨v, .ty T, .type (BJ d), .type T,isT T d,rfl, .ty T,Bo.ty g1.bh r1,kit_ty (hk d),h1 (.bool (isT T d)) (by simp [CJ,hd,ER.bind]) _ Hb1 H1 g1 mX⟩
end
def oZ(K:aq)(ks:List Kd)(rk:Kd)(m:List D→ER):Sp:=fun vs H Q E=>∃Hb ds,Ex Hb H∧oV K Hb H ks vs ds∧
 (∀d,m ds= .ok d→∀v Hb' H',Gw Hb H Hb' H' →Rs K rk H Hb' H' v d→Q v H')∧(∀c,m ds= .ex c→∀Hb' H',Gw Hb H Hb' H' →E (.ref (He.ga K c)) none H')∧m ds≠ .bad
theorem agO{K:aq}{W:WQ}{rk:Kd}{g:List D→ER}{ks:List Kd}{ms:List EM}{σ:L2.St}{H:Hp}{Q:VK}(h:CN K W rk (fu g ms) σ H Q):tCallS (oZ K ks rk g) (WE W.w) (aOf K W ks ms) σ H Q:=by
 obtain⟨Hf,Hb,ρ,R,h1,h2,h3⟩:=h
 refine⟨Hf,Hb,ρ,R,fun ds hds vs Hb1 H1 g1 r1=> ?_,fun c hc=>h2 c (by simp [fu,hc]),fun z=>h3 (by simp [fu,z])⟩
 have e:fu g ms ρ=g ds:=by simp [fu,hds]
 rw [e] at h1 h2 h3
 exact⟨Hb1,ds,g1.bh,r1,fun d hd v Hb2 H2 g2 r2=>h1 d hd v Hb2 H2 (g1.trans g2) (r2.back g1.h),fun c hc Hb2 H2 g2=>h2 c hc Hb2 H2 (g1.trans g2),h3⟩
section
variable{X:Cx}{W:WQ}{rk:Kd}{ks:List Kd}{x:Str}{p pos:Pos}{e:Expr}{es:List Expr}{ms:List EM}{g:List D→ER}{k:Nat}{f:Addr}{fd:FuncData}{ps:List Str}
theorem aiR(F:FnOk X.prog X.w X.K X.mg X.base (L2.CX X.prog X.w) k f fd ps (oZ X.K ks rk g))(hr:Room k X.A)(hm:X.mg x=some (.ref f))(hk:PySem.W.keepIn X.K (.ref f)=true)(hb:Binds X.K fd ps [])(tk:Takes X W.w)
 (ha:DA X W ks (e::es) ms) (hg:Gl X x:=by rfl) (hdb:(x==("__debug__":Str))=false:=by decide) (he:starEach (e::es) X.env=(false,eval e X.env)::starEach es X.env:=by rfl) (hpl:(backTo pos (starEach es X.env)).any (·.1)=false:=by rfl):
 DE X W rk (.Call (.Name x p) (e::es) [] pos) (fu g ms):=
 PE.imp (pe_callS F hr hg hm hk hb (fun σ=>passAt tk σ) ha hdb he hpl) fun _ _ _=>agO
end
end DL
namespace DL
open PySem L2 Evl
structure Bw(Hf Hb Hb' H' :Hp):Prop where
 b:Ex Hb Hb'
 bh:Ex Hb' H'
 nw:∀a,Hb a=none→NT (Hf a)→Hb' a=none
theorem Bw.refl{Hf Hb H:Hp}(e:Ex Hb H):Bw Hf Hb Hb H:=⟨Ex.refl _,e,fun _ h _=>h⟩
theorem Bw.trans{Hf Hb Hb1 H1 Hb2 H2:Hp}(g:Bw Hf Hb Hb1 H1)(k:Bw Hf Hb1 Hb2 H2):Bw Hf Hb Hb2 H2:=
 ⟨g.b.trans k.b,k.bh,fun a h1 h2=>k.nw a (g.nw a h1 h2) h2⟩
theorem Gw.bw{Hf Hb H Hb' H' :Hp}(g:Gw Hb H Hb' H')(e:Ex Hf H):Bw Hf Hb Hb' H' :=⟨g.b,g.bh,fun a h1 h2=>g.nw a h1 (Nu e h2)⟩
theorem Bw.upd{Hf Hb H:Hp}{p:Addr}{o:HO}(e:Ex Hb H)(hb:Hb p=none):Bw Hf Hb Hb (L2.upd H p o):=
 ⟨Ex.refl _,fun a u q=>by rw [upd_ne (ne_of_none q hb)];exact e a u q,fun _ h _=>h⟩
def lO(K:aq)(W:WQ)(rk:Kd)(Hf Hb H:Hp)(E:Ends):Out→Prop
 | .nx ρ=>∀σ' Hb' H',gJ K W.pin Hf Hb' H' σ' ρ→Bw Hf Hb Hb' H' →E.nx σ' H'
 | .bk ρ=>∀σ' Hb' H',gJ K W.pin Hf Hb' H' σ' ρ→Bw Hf Hb Hb' H' →E.bk σ' H'
 | .ct ρ=>∀σ' Hb' H',gJ K W.pin Hf Hb' H' σ' ρ→Bw Hf Hb Hb' H' →E.ct σ' H'
 | .rt d=>∀v Hb' H',Ex Hf H' →Bw Hf Hb Hb' H' →Rs K rk Hf Hb' H' v d→E.rt v H'
 | .rx d ρ=>∀v σ' Hb' H',gJ K W.pin Hf Hb' H' σ' ρ→Bw Hf Hb Hb' H' →Dr K Hb' v d→E.rt v H'
 | .ex c ρ=>∀σ' Hb' H',gJ K W.pin Hf Hb' H' σ' ρ→Bw Hf Hb Hb' H' →W.w (.ref (He.ga K c)) none σ' H'
 | .bad=>False
def sOf(K:aq)(W:WQ)(rk:Kd)(m:SM):TS:=fun E σ H=>∃(Hf Hb:Hp) (ρ:Env),gJ K W.pin Hf Hb H σ ρ∧lO K W rk Hf Hb H E (m ρ)
abbrev DS(X:Cx)(W:WQ)(rk:Kd)(st:Stmt)(m:SM):Prop:=PS X st (sOf X.K W rk m)
abbrev Wg(X:Cx)(W:WQ)(rk:Kd)(st:List Stmt)(m:SM):Prop:=PSs X st (sOf X.K W rk m)
theorem lO.weak{K:aq}{W:WQ}{rk:Kd}{Hf Hb H Hb1 H1:Hp}{E:Ends}{r:Out}(g:Bw Hf Hb Hb1 H1)(h:lO K W rk Hf Hb H E r):lO K W rk Hf Hb1 H1 E r:=by
 cases r with
 |nx ρ=>exact fun σ' Hb' H' R b=>h σ' Hb' H' R (g.trans b)
 |bk ρ=>exact fun σ' Hb' H' R b=>h σ' Hb' H' R (g.trans b)
 |ct ρ=>exact fun σ' Hb' H' R b=>h σ' Hb' H' R (g.trans b)
 |rt d=>exact fun v Hb' H' e b r=>h v Hb' H' e (g.trans b) r
 |rx d ρ=>exact fun v σ' Hb' H' R b r=>h v σ' Hb' H' R (g.trans b) r
 |ex c ρ=>exact fun σ' Hb' H' R b=>h σ' Hb' H' R (g.trans b)
 |bad=>exact h
def fU:SM:=fun ρ=> .nx ρ
def fG(a b:SM):SM:=fun ρ=>match a ρ with
 | .nx ρ' =>b ρ'
 |r=>r
def gH(i:Nat)(m:EM):SM:=fun ρ=>match m ρ with
 | .ok d=> .nx (ρ.set i (.dat d))
 | .ex c=> .ex c ρ
 | .bad=> .bad
def jG(i:Nat)(m:EM):SM:=fun ρ=>match m ρ with
 | .ok d=> .nx (ρ.set i (.own d))
 | .ex c=> .ex c ρ
 | .bad=> .bad
def qI(m:EM):SM:=fun ρ=>match m ρ with
 | .ok _=> .nx ρ
 | .ex c=> .ex c ρ
 | .bad=> .bad
def gA(m:EM):SM:=fun ρ=>match m ρ with
 | .ok d=> .rt d
 | .ex c=> .ex c ρ
 | .bad=> .bad
def xO(i:Nat):SM:=fun ρ=>match ρ[i]? with
 |some (.own d)=> .rt d
 |_=> .bad
def ahb(i:Nat):SM:=fun ρ=>match ρ[i]? with
 |some (.own (.list ds))=> .rt (.list ds)
 |_=> .bad
def iQ(c:EM)(a b:SM):SM:=fun ρ=>match c ρ with
 | .ok (.bool true)=>a ρ
 | .ok (.bool false)=>b ρ
 | .ok _=> .bad
 | .ex c=> .ex c ρ
 | .bad=> .bad
def mW(i:Nat)(m:EM):SM:=fun ρ=>match ρ[i]? with
 |some (.own (.list ds))=>(match m ρ with
  | .ok d=>if ds.length<sizeLine then .nx (ρ.set i (.own (.list (ds++[d])))) else .bad
  | .ex c=> .ex c ρ
  | .bad=> .bad)
 |_=> .bad
def UL(i:Nat)(mk me:EM):SM:=fun ρ=>match me ρ with
 | .ok d=>(match ρ[i]? with
   |some (.own (.list ds))=>(match mk ρ with
    | .ok (.int k)=>(match ixN ds.length k with
      |some j=> .nx (ρ.set i (.own (.list (ds.set j d))))
      |none=> .bad)
    | .ok _=> .bad
    | .ex c=> .ex c ρ
    | .bad=> .bad)
   |_=> .bad)
 | .ex c=> .ex c ρ
 | .bad=> .bad
def sX(c:Str):SM:=fun ρ=> .ex c ρ
abbrev GM:=D→Env→Option Env
def gN(i:Nat):GM:=fun d ρ=>some (ρ.set i (.dat d))
def gTs:List GM→List D→Env→Option Env
 |[],[],ρ=>some ρ
 |g::gs,d::ds,ρ=>(g d ρ).bind fun ρ' =>gTs gs ds ρ'
 |_,_,_=>none
def gT(gs:List GM):GM:=fun d ρ=>match d with
 | .tuple ds=>gTs gs ds ρ
 |_=>none
def lA(g:GM)(m:EM):SM:=fun ρ=>match m ρ with
 | .ok d=>(match g d ρ with
   |some ρ' => .nx ρ'
   |none=> .bad)
 | .ex c=> .ex c ρ
 | .bad=> .bad
def wF(g:GM)(body:SM):List D→SM
 |[],ρ=> .nx ρ
 |d::r,ρ=>match g d ρ with
  |none=> .bad
  |some ρ1=>match body ρ1 with
   | .nx ρ2=>wF g body r ρ2
   | .ct ρ2=>wF g body r ρ2
   | .bk ρ2=> .nx ρ2
   |o=>o
def mV(mi:Env→AR)(g:GM)(body:SM):SM:=fun ρ=>match mi ρ with
 | .ok ds=>wF g body ds ρ
 | .ex c=> .ex c ρ
 | .bad=> .bad
@[irreducible] def FUEL:Nat:=2 ^ 100
def rE(c:EM)(body:SM):Nat→SM
 |0,_=> .bad
 |n+1,ρ=>match c ρ with
  | .ok (.bool true)=>(match body ρ with
    | .nx ρ2=>rE c body n ρ2
    | .ct ρ2=>rE c body n ρ2
    | .bk ρ2=> .nx ρ2
    |o=>o)
  | .ok (.bool false)=> .nx ρ
  | .ok _=> .bad
  | .ex c=> .ex c ρ
  | .bad=> .bad
def ug(c:EM)(body:SM):SM:=rE c body FUEL
section
variable{X:Cx}{W:WQ}{rk kd:Kd}{st:Stmt}{rest a b:List Stmt}{e c:Expr}{m1 m2 ma mb:SM}{m mc:EM}{pos:Pos}
theorem fK:Wg X W rk [] fU:=PSs.imp pss_nil fun E σ H ⟨Hf,Hb,ρ,R,h⟩=>h σ Hb H R (Bw.refl R.eb)
theorem eG(h1:DS X W rk st m1)(h2:Wg X W rk rest m2):Wg X W rk (st::rest) (fG m1 m2):=PSs.imp (pss_cons h1 h2) fun E σ H ⟨Hf,Hb,ρ,R,h⟩=>by
 refine⟨Hf,Hb,ρ,R,?_⟩
 unfold fG at h
 cases q:m1 ρ with
 |nx ρ' =>
  rw [q] at h
  exact fun σ' Hb' H' R' b=>⟨Hf,Hb',ρ',R',lO.weak b h⟩
 |rt d=>
  rw [q] at h
  exact h
 |rx d ρ' =>
  rw [q] at h
  exact h
 |bk d=>
  rw [q] at h
  exact h
 |ct d=>
  rw [q] at h
  exact h
 |ex c d=>
  rw [q] at h
  exact h
 |bad=>
  rw [q] at h
  exact h
theorem eU(h1:DS X W rk st m1):Wg X W rk [st] m1:=pss_one h1
theorem fW{i:Nat}{x:Str}{pos' :Pos}(hN:X.N.Nodup)(he:DE X W .dat e m)(hi:X.N[i]? =some x:=by rfl)(hx:Loc X.env.scope x:=by first|exact Or.inl rfl|exact Or.inr rfl)(hs:swapsWith e (some (.Name x pos')) pos.line X.env=pure false:=by rfl)
 (hf:X.fn x=true∨X.env.scope.names.lookup x=some .local:=by first|exact .inl rfl|exact .inr rfl|assumption) (ho:yg W.pin i:=by intro _ z;first|(cases z;done)|exact absurd (dM z).1 (by decide)|(simp at z;done)):DS X W rk (.Assign [.Name x pos'] e pos) (gH i m):=PS.imp (ps_set hN hi hx he hs hf) fun E σ H ⟨Hf,Hb,ρ,R,h⟩=>by
 refine⟨Hf,Hb,ρ,R,fun d hd v Hb' H' g r=> ?_,fun c hc Hb' H' g=> ?_,fun z=> ?_⟩
 ·simp only [gH,hd] at h
  exact h _ Hb' H' ((R.gw g).UJ ho r) (g.bw R.ef)
 ·simp only [gH,hc] at h
  exact h _ Hb' H' (R.gw g) (g.bw R.ef)
 ·simp only [gH,z] at h
  exact h
theorem jC{i:Nat}{x:Str}{pos' :Pos}(hN:X.N.Nodup)(he:DE X W .new e m)(hi:X.N[i]? =some x:=by rfl)(hx:Loc X.env.scope x:=by first|exact Or.inl rfl|exact Or.inr rfl)(hs:swapsWith e (some (.Name x pos')) pos.line X.env=pure false:=by rfl)
 (hf:X.fn x=true∨X.env.scope.names.lookup x=some .local:=by first|exact .inl rfl|exact .inr rfl|assumption) (ho:yg W.pin i:=by intro _ z;first|(cases z;done)|exact absurd (dM z).1 (by decide)|(simp at z;done)):DS X W rk (.Assign [.Name x pos'] e pos) (jG i m):=PS.imp (ps_set hN hi hx he hs hf) fun E σ H ⟨Hf,Hb,ρ,R,h⟩=>by
 refine⟨Hf,Hb,ρ,R,fun d hd v Hb' H' g r=> ?_,fun c hc Hb' H' g=> ?_,fun z=> ?_⟩
 ·simp only [jG,hd] at h
  obtain⟨p,rfl,h0,hb,ow⟩:=r
  exact h _ Hb' H' (R.agW ho g h0 hb ow) (g.bw R.ef)
 ·simp only [jG,hc] at h
  exact h _ Hb' H' (R.gw g) (g.bw R.ef)
 ·simp only [jG,z] at h
  exact h
theorem vg(he:DE X W kd e m)(hs:swapsWith e none pos.line X.env=pure false:=by rfl):DS X W rk (.Expr e pos) (qI m):=PS.imp (ps_expr he hs) fun E σ H ⟨Hf,Hb,ρ,R,h⟩=>by
 refine⟨Hf,Hb,ρ,R,fun d hd v Hb' H' g r=> ?_,fun c hc Hb' H' g=> ?_,fun z=> ?_⟩
 ·simp only [qI,hd] at h
  exact h _ Hb' H' (R.gw g) (g.bw R.ef)
 ·simp only [qI,hc] at h
  exact h _ Hb' H' (R.gw g) (g.bw R.ef)
 ·simp only [qI,z] at h
  exact h
theorem fQ(he:DE X W rk e m):DS X W rk (.Return (some e) pos) (gA m):=PS.imp (ps_ret he) fun E σ H ⟨Hf,Hb,ρ,R,h⟩=>by
 refine⟨Hf,Hb,ρ,R,fun d hd v Hb' H' g r=> ?_,fun c hc Hb' H' g=> ?_,fun z=> ?_⟩
 ·simp only [gA,hd] at h
  exact h v Hb' H' (R.gw g).ef (g.bw R.ef) (r.back R.ef)
 ·simp only [gA,hc] at h
  exact h _ Hb' H' (R.gw g) (g.bw R.ef)
 ·simp only [gA,z] at h
  exact h
theorem yF(i:Nat){x:Str}{p:Pos}(hN:X.N[i]? =some x:=by rfl)(hv:Vis X.env.scope x:=by first|exact Or.inl rfl|exact Or.inr (Or.inl rfl)|exact Or.inr (Or.inr rfl))(hd:(x==("__debug__":Str))=false:=by decide)
 (hcd:(x==("__classdict__":Str))=false:=by decide):DS X W .new (.Return (some (.Name x p)) pos) (xO i):=PS.imp (ps_ret (pe_var hN hv hd hcd)) fun E σ H ⟨Hf,Hb,ρ,R,h⟩=>by
 unfold xO at h
 cases q:ρ[i]? with
 |none=>
  rw [q] at h
  exact h.elim
 |some s=>
  rw [q] at h
  cases s with
  |own d=>
   obtain⟨p,h1,h2,h3,h4⟩:=R.own i d q
   exact⟨_,h1,h _ Hb H R.ef (Bw.refl R.eb) ⟨p,rfl,h3,h4,h2⟩⟩
  |un=>exact h.elim
  |dat d=>exact h.elim
  |bor d=>exact h.elim
  |nst k cs=>exact h.elim
  |vP k cs=>exact h.elim
  |Vw k cs=>exact h.elim
theorem ajt(i:Nat){x:Str}{p:Pos}(hN:X.N[i]? =some x:=by rfl)(hv:Vis X.env.scope x:=by first|exact Or.inl rfl|exact Or.inr (Or.inl rfl)|exact Or.inr (Or.inr rfl))(hd:(x==("__debug__":Str))=false:=by decide)
 (hcd:(x==("__classdict__":Str))=false:=by decide):DS X W .dat (.Return (some (.Name x p)) pos) (ahb i):=PS.imp (ps_ret (pe_var hN hv hd hcd)) fun E σ H ⟨Hf,Hb,ρ,R,h⟩=>by
 unfold ahb at h
 split at h
 ·rename_i ds q
  obtain⟨p,h1,⟨o,ho,hc⟩,h3,h4⟩:=R.own i _ q
  cases hc with
  |lst al=>
   refine⟨_,h1,h _ (L2.upd Hb p _) H R.ef ⟨Ex.new h4,fun a u qa=> ?_,fun a z1 z2=> ?_⟩ (.lst (.inl (.inl upd_same)) (m9 (Ex.new h4) al))⟩
   ·by_cases z:a=p
    ·subst z
     rw [upd_same] at qa
     rw [←qa]
     exact ho
    ·rw [upd_ne z] at qa
     exact R.eb a u qa
   ·have z:a≠p:=fun z=>by
     subst z
     rw [h3] at z2
     exact z2
    rw [upd_ne z]
    exact z1
 ·exact h.elim
theorem fX(hc:DT X W c mc)(ha:Wg X W rk a ma)(hb:Wg X W rk b mb):DS X W rk (.If c a b pos) (iQ mc ma mb):=PS.imp (ps_if hc ha hb) fun E σ H ⟨Hf,Hb,ρ,R,h⟩=>by
 refine⟨Hf,Hb,ρ,R,fun k hk Hb' H' g=> ?_,fun c hc Hb' H' g=> ?_,?_⟩
 ·cases k with
  |true=>
   simp only [iQ,hk] at h
   show sOf X.K W rk ma E σ H'
   exact⟨Hf,Hb',ρ,R.gw g,lO.weak (g.bw R.ef) h⟩
  |false=>
   simp only [iQ,hk] at h
   show sOf X.K W rk mb E σ H'
   exact⟨Hf,Hb',ρ,R.gw g,lO.weak (g.bw R.ef) h⟩
 ·simp only [iQ,hc] at h
  exact h _ Hb' H' (R.gw g) (g.bw R.ef)
 ·cases q:mc ρ with
  |bad=>
   simp only [iQ,q] at h
   exact h.elim
  |ex c=>exact .inr ⟨c,rfl⟩
  |ok d=>
   cases d with
   |bool b=>exact .inl ⟨b,rfl⟩
   |_=>
    simp only [iQ,q] at h
    exact h.elim
theorem pX{x s:Str}{j:Nat}{p p2 pos' :Pos}(tk:Takes X W.w)(q:PySem.W.excIn X.K (He.ga X.K x) He.veBase "ValueError.__new__"=true∧PySem.W.keepIn X.K (.ref (He.ga X.K x))=true∧PySem.W.subIn X.K (.ref (He.ga X.K x)) (.type "BaseException")=some true∧
 PySem.W.typeIn X.K (.ref (He.ga X.K x))=some (.type "type")) (gC:X.mg x=some (.ref (He.ga X.K x))) (hc:X.calm=true:=by rfl) (hg:Gl X x:=by rfl) (hdb:(x==("__debug__":Str))=false:=by decide):
 DS X W rk (.Raise (some (.Call (.Name x p) [.Constant (.str s) j p2] [] pos')) none pos) (sX x):=
 PS.imp (ps_raise hc tk (pmk_own PySem.F.excBase_ValueError q.1 gC q.2.1 (raises_own q.2.2.1 q.2.2.2) hg hdb)) fun E σ H ⟨Hf,Hb,ρ,R,h⟩=>h σ Hb H R (Bw.refl R.eb)
theorem mK{i:Nat}{x:Str}{p p2 p3:Pos}(he:DE X W .dat e m)(hN:X.N[i]? =some x:=by rfl)(hv:Vis X.env.scope x:=by first|exact Or.inl rfl|exact Or.inr (Or.inl rfl)|exact Or.inr (Or.inr rfl))(hd:(x==("__debug__":Str))=false:=by decide)
 (hcd:(x==("__classdict__":Str))=false:=by decide) (hst:starEach [e] X.env=(false,eval e X.env)::starEach [] X.env:=by rfl)
 (hbase:attributeBase (.Name x p) "append" X.env (eval (.Name x p) X.env)=eval (.Name x p) X.env:=by rfl)
 (hfew:((backTo p3 (starEach [e] X.env)).all (fun x=> !x.1)&&(backToKw p3 (keywordEach [] X.env)).all (fun x=>x.1.isSome)
   &&decide (([e]:List Expr).length+([]:List Keyword).length+(if([]:List Keyword).isEmpty then 0 else 1)<30))=true:=by rfl)
 (hline:(p2.endLine==p3.line)=true:=by rfl) (hpl:(backTo p3 (starEach [] X.env)).any (·.1)=false:=by rfl) (hs:swapsWith (.Call (.Attribute (.Name x p) "append" p2) [e] [] p3) none pos.line X.env=pure false:=by rfl):
 DS X W rk (.Expr (.Call (.Attribute (.Name x p) "append" p2) [e] [] p3) pos) (mW i m):=
 PS.imp (ps_expr (pe_bm PySem.F.plainAttrs_list PySem.F.slot_list_append PySem.F.type_list_append mt_append (pe_var hN hv hd hcd) (pa_cons he pa_nil hst) hbase hfew hline hst hpl) hs) fun E σ H ⟨Hf,Hb,ρ,R,h⟩=>by
  unfold mW at h
  split at h
  ·rename_i ds q
   obtain⟨p,h1,⟨o,ho,hc⟩,h3,h4⟩:=R.own i _ q
   cases hc with
   |lst al=>
    refine⟨_,h1, .inl ⟨rfl,_,sq_of ho⟩,Hf,Hb,ρ,R,fun d hd v Hb' H' g r=> ?_,fun c hc Hb' H' g=> ?_,fun z=> ?_⟩
    ·rw [hd] at h
     simp only at h
     split at h
     ·rename_i hz
      have ho' :=g.h _ _ ho
      refine⟨p,_,v,rfl,rfl,ho',by rw [iV al];exact hz,?_⟩
      have R1:=R.gw g
      have hb' :Hb' p=none:=g.nw p h4 (by rw [ho];exact True.intro)
      exact h σ Hb' _ (R1.write q h1 (.lst (uR (m9 g.b al) (.cons r .nil)))) ((g.bw R.ef).trans (Bw.upd g.bh hb'))
     ·exact h.elim
    ·rw [hc] at h
     exact h σ Hb' H' (R.gw g) (g.bw R.ef)
    ·rw [z] at h
     exact h.elim
  ·exact h.elim
end
end DL
namespace DL
open PySem L2 Evl
theorem gJ.freeze{K:aq}{pn:Pn}{Hf Hb H:Hp}{σ:L2.St}{ρ:Env}{i:Nat}{ds:List D}(R:gJ K pn Hf Hb H σ ρ)(q:ρ[i]? =some (.own (.list ds))):∃Hb',gJ K pn Hf Hb' H σ (ρ.set i (.dat (.list ds)))∧Bw Hf Hb Hb' H:=by
 obtain⟨F,r⟩:=R
 obtain⟨p,h1,h2,o,ho,hc⟩:=r.sl i _ q
 obtain⟨f1,f2,f3⟩:=r.fr i p (by rw [h1];simp)
 have e1:Ex Hb (upd Hb p o):=Ex.new f2
 have e2:Ex (upd Hb p o) H:=fun a u qa=>by
  by_cases z:a=p
  ·subst z
   rw [upd_same] at qa
   rw [←qa]
   exact ho
  ·rw [upd_ne z] at qa
   exact r.eb a u qa
 cases hc with
 |lst al=>
  refine⟨upd Hb p _,⟨_,r.step (fp:=[]) r.ef e2 e1 rfl (fun j z=>rfl) (fun a ha _ k2 _=>⟨rfl,by rw [upd_ne (fun z=>ha (by rw [h1,z];simp))];exact k2⟩) (fun _=>⟨rfl,_,h2, .lst (.inl (.inl upd_same)) (m9 e1 al)⟩) cR (fun a ha=>by cases ha) (fun j a _ ha=>by cases ha) (fun a z=>r.pin i a z)⟩,e1,e2,fun a z1 z2=> ?_⟩
  have z:a≠p:=fun z=>by
   subst z
   rw [f1] at z2
   exact z2
  rw [upd_ne z]
  exact z1
def RN(i:Nat)(m:SM):SM:=fun ρ=>match ρ[i]? with
 |some (.own (.list ds))=>m (ρ.set i (.dat (.list ds)))
 |_=> .bad
theorem MN{X:Cx}{W:WQ}{rk:Kd}{st:Stmt}{m:SM}(i:Nat)(h:DS X W rk st m):DS X W rk st (RN i m):=PS.imp h fun E σ H ⟨Hf,Hb,ρ,R,q⟩=>by
 unfold RN at q
 split at q
 ·rename_i ds z
  obtain⟨Hb',R',b⟩:=R.freeze z
  exact⟨Hf,Hb',_,R',lO.weak b q⟩
 ·exact q.elim
def gOf(K:aq)(pn:Pn)(g:GM):TG:=fun v σ H Q=>∃(Hf Hb:Hp) (ρ:Env) (d:D) (ρ' :Env),gJ K pn Hf Hb H σ ρ∧Dr K Hb v d∧g d ρ=some ρ' ∧∀σ',gJ K pn Hf Hb H σ' ρ' →Q σ' H
abbrev DG(X:Cx)(W:WQ)(tg:Expr)(g:GM):Prop:=PG X tg (gOf X.K W.pin g)
def amS(K:aq)(pn:Pn)(gs:List GM):TGs:=fun vs σ H Q=>∃(Hf Hb:Hp) (ρ:Env) (ds:List D) (ρ' :Env),gJ K pn Hf Hb H σ ρ∧ju K Hb vs ds∧gTs gs ds ρ=some ρ' ∧∀σ',gJ K pn Hf Hb H σ' ρ' →Q σ' H
abbrev DGs(X:Cx)(W:WQ)(tg:List Expr)(gs:List GM):Prop:=PGs X tg (amS X.K W.pin gs)
theorem PG.imp{X:Cx}{e:Expr}{t t' :TG}(h:PG X e t)(i:∀v σ H Q,t' v σ H Q→t v σ H Q):PG X e t' :=⟨fun pins s σ H v u Q I r q=>h.run pins s σ H v u Q I r (i v σ H Q q)⟩
theorem PGs.imp{X:Cx}{e:List Expr}{t t' :TGs}(h:PGs X e t)(i:∀v σ H Q,t' v σ H Q→t v σ H Q):PGs X e t' :=⟨fun pins s σ H v u Q I r q=>h.run pins s σ H v u Q I r (i v σ H Q q)⟩
theorem aeh{K:aq}:∀{gs:List GM} {ds:List D} {ρ ρ' :Env},gTs gs ds ρ=some ρ' →ds.length=gs.length
 |[],[],_,_,_=>rfl
 |g::gs,d::ds,ρ,ρ',h=>by
  simp only [gTs] at h
  cases q:g d ρ with
  |none=>
   rw [q] at h
   cases h
  |some ρ1=>
   rw [q] at h
   have h2:gTs gs ds ρ1=some ρ' :=h
   simp [aeh (K:=K) h2]
 |[],_::_,_,_,h=>by cases h
 |_::_,[],_,_,h=>by cases h
section
variable{X:Cx}{W:WQ}{rk kd:Kd}{e tg:Expr}{es:List Expr}{g:GM}{gs:List GM}{m:EM}{pos:Pos}
theorem jf(i:Nat){x:Str}(hN:X.N.Nodup)(hi:X.N[i]? =some x:=by rfl)(hx:Loc X.env.scope x:=by first|exact Or.inl rfl|exact Or.inr rfl)(hf:X.fn x=true∨X.env.scope.names.lookup x=some .local:=by first|exact .inl rfl|exact .inr rfl|assumption)(ho:yg W.pin i:=by intro _ z;first|(cases z;done)|exact absurd (dM z).1 (by decide)|(simp at z;done)):DG X W (.Name x pos) (gN i):=
 PG.imp (pg_name hN hi hx hf) fun v σ H Q ⟨Hf,Hb,ρ,d,ρ',R,r,h,q⟩=>by
  cases h
  exact q _ (R.UJ ho r)
theorem jU:DGs X W [] []:=PGs.imp pgs_nil fun vs σ H Q ⟨Hf,Hb,ρ,ds,ρ',R,r,h,q⟩=>by
 cases ds with
 |nil=>
  cases r
  cases h
  exact⟨rfl,q _ R⟩
 |cons _ _=>cases h
theorem fZ(h1:DG X W e g)(h2:DGs X W es gs)(hs:(assignEach (e::es) X.env).map (·.2)=assign e X.env::(assignEach es X.env).map (·.2):=by rfl):DGs X W (e::es) (g::gs):=PGs.imp (pgs_cons h1 h2 hs) fun vs σ H Q ⟨Hf,Hb,ρ,ds,ρ',R,r,h,q⟩=>by
 cases ds with
 |nil=>cases h
 |cons d ds=>
  cases r with
  |cons a b=>
   simp only [gTs] at h
   cases q1:g d ρ with
   |none=>
    rw [q1] at h
    cases h
   |some ρ1=>
    rw [q1] at h
    exact⟨_,_,rfl,Hf,Hb,ρ,d,ρ1,R,a,q1,fun σ' R' =>⟨Hf,Hb,ρ1,ds,ρ',R',b,h,q⟩⟩
theorem tK{k:Nat}(h:DGs X W es gs)(hc:X.calm=true:=by rfl)(hn:(assignEach es X.env).length=gs.length:=by rfl)(hst:(assignEach es X.env).findIdx? (·.1)=none:=by rfl):DG X W (.Tuple es k pos) (gT gs):=
 PG.imp (pg_tup hc h hn hst) fun v σ H Q ⟨Hf,Hb,ρ,d,ρ',R,r,hg,q⟩=>by
  cases d<;>simp only [gT] at hg<;>first|cases hg;done|skip
  obtain⟨p,xs,e1,s1,a1⟩:=Bo.tup R.eb (.inl r)
  exact⟨p,xs,e1,s1,by rw [iV a1];exact aeh (K:=X.K) hg,Hf,Hb,ρ,_,ρ',R,a1,hg,q⟩
theorem lu(he:DE X W .dat e m)(hg:DG X W tg g)(hs:swapsWithSole [tg] e pos.line X.env=pure false:=by rfl)(hw:swappedStores [tg] e X.env=pure none:=by rfl)(h1:(assignEach [tg] X.env).map (·.2)=[assign tg X.env]:=by rfl):
 DS X W rk (.Assign [tg] e pos) (lA g m):=PS.imp (ps_asg he hg hs hw h1) fun E σ H ⟨Hf,Hb,ρ,R,h⟩=>by
 refine⟨Hf,Hb,ρ,R,fun d hd v Hb' H' g1 r=> ?_,fun c hc Hb' H' g1=> ?_,fun z=> ?_⟩
 ·simp only [lA,hd] at h
  split at h
  ·rename_i ρ' hr
   exact⟨Hf,Hb',ρ,d,ρ',R.gw g1,r,hr,fun σ' R' =>h σ' Hb' H' R' (g1.bw R.ef)⟩
  ·exact h.elim
 ·simp only [lA,hc] at h
  exact h _ Hb' H' (R.gw g1) (g1.bw R.ef)
 ·simp only [lA,z] at h
  exact h
end
structure Yl(K:aq)(Hb1:Hp)(J:It)(ds:List D):Prop where
 go:∀(i:Nat) H,Ex Hb1 H→i<ds.length→J.go i H
 stop:∀H,Ex Hb1 H→J.stop ds.length H
 yld:∀(i:Nat) H x H' Hb,Ex Hb1 Hb→Ex Hb H→i<ds.length→J.yld i H x H' →∃Hb' d,Gw Hb H Hb' H' ∧ds[i]? =some d∧Dr K Hb' x d
def iOf(K:aq)(W:WQ)(mi:Env→AR):TI:=fun σ H R=>∃(Hf Hb:Hp) (ρ:Env),gJ K W.pin Hf Hb H σ ρ∧
 (∀ds,mi ρ= .ok ds→∀J Hb' H',Gw Hb H Hb' H' →Yl K Hb' J ds→R J H')∧
 (∀c,mi ρ= .ex c→∀Hb' H',Gw Hb H Hb' H' →W.w (.ref (He.ga K c)) none σ H')∧mi ρ≠ .bad
abbrev DI(X:Cx)(W:WQ)(tg iter:Expr)(mi:Env→AR):Prop:=PI X tg iter (iOf X.K W mi)
theorem PI.imp{X:Cx}{tg e:Expr}{t t' :TI}(h:PI X tg e t)(i:∀σ H R,t' σ H R→t σ H R):PI X tg e t' :=⟨fun pins s σ H R I q=>h.run pins s σ H R I (i σ H R q)⟩
def iL(m:EM):Env→AR:=fun ρ=>match m ρ with
 | .ok (.list ds)=> .ok ds
 | .ok _=> .bad
 | .ex c=> .ex c
 | .bad=> .bad
def iT(m:EM):Env→AR:=fun ρ=>match m ρ with
 | .ok (.tuple ds)=> .ok ds
 | .ok _=> .bad
 | .ex c=> .ex c
 | .bad=> .bad
def QS(z:Str):List D:=z.cps.toList.map fun c=> .str ⟨#[c]⟩
def iS(m:EM):Env→AR:=fun ρ=>match m ρ with
 | .ok (.str z)=> .ok (QS z)
 | .ok _=> .bad
 | .ex c=> .ex c
 | .bad=> .bad
def wY(lo hi:Int):List D:=(di (hi-lo).toNat).map fun(i:Nat)=>aF (lo+(i:Int))
def inR(n:Int):Bool:=decide (-(2 ^ 62)≤n)&&decide (n<2 ^ 62)
theorem tW{n:Int}:inR n=true↔-(2 ^ 62)≤n∧n<2 ^ 62:=by
 unfold inR
 rw [cV,decide_eq_true_iff,decide_eq_true_iff]
def Vh(m:EM):Env→AR:=fun ρ=>match m ρ with
 | .ok (.int n)=>if inR n then .ok (wY 0 n) else .bad
 | .ok _=> .bad
 | .ex c=> .ex c
 | .bad=> .bad
def Jw(hi lo:Int):List D:=(di (hi-lo).toNat).map fun(i:Nat)=>aF (hi-(i:Int))
def iR3(ma mb mc:EM):Env→AR:=fun ρ=>match ou [ma,mb,mc] ρ with
 | .ok [.int i, .int j, .int k]=>if(inR i&&inR j&&decide (k= -1))=true then .ok (Jw i j) else .bad
 | .ok _=> .bad
 | .ex c=> .ex c
 | .bad=> .bad
theorem zR(hi lo:Int):(Jw hi lo).length=(hi-lo).toNat:=by simp [Jw]
theorem WR(hi lo:Int)(i:Nat)(h:i<(hi-lo).toNat):(Jw hi lo)[i]? =some (.int (hi-(i:Int))):=by
 simp [Jw,h]
theorem aiF{K:aq}{Hb1:Hp}(hi lo:Int):Yl K Hb1 (Itc hi (-1) (hi-lo).toNat) (Jw hi lo) where
 go:=fun i H _ h=>by
  rw [zR] at h
  exact h
 stop:=fun H _=>by
  rw [zR]
  exact bJ _
 yld:=fun i H x H' Hb e1 e2 h y=>by
  obtain⟨rfl,rfl⟩:=y
  rw [zR] at h
  have e:hi+((i:Nat):Int)*(-1)=hi-(i:Int):=by omega
  rw [e]
  exact⟨Hb, .int (hi-(i:Int)),Gw.refl e2,WR hi lo i h, .int _⟩
theorem Jh(lo hi:Int):(wY lo hi).length=(hi-lo).toNat:=by simp [wY]
theorem acw(lo hi:Int)(i:Nat)(h:i<(hi-lo).toNat):(wY lo hi)[i]? =some (.int (lo+(i:Int))):=by
 simp [wY,h]
theorem ahu{K:aq}{Hb1:Hp}(lo hi:Int):Yl K Hb1 (Itr lo (hi-lo).toNat) (wY lo hi) where
 go:=fun i H _ h=>by
  rw [Jh] at h
  exact h
 stop:=fun H _=>by
  rw [Jh]
  exact bJ _
 yld:=fun i H x H' Hb e1 e2 h y=>by
  obtain⟨rfl,rfl⟩:=y
  rw [Jh] at h
  exact⟨Hb, .int (lo+(i:Int)),Gw.refl e2,acw lo hi i h, .int _⟩
theorem ah'{K:aq}{Hb1:Hp}{p:Addr}{xs:List V}{ds:List D}(h:SqL K Hb1 p xs)(a:ju K Hb1 xs ds):Yl K Hb1 (Itl K p) ds where
 go:=fun i H e hi=>by
  have hl:=iV a
  exact⟨xs,xs[i]'(by omega),ex_l e h,by simp⟩
 stop:=fun H e=>⟨xs,ex_l e h,by rw [iV a];exact bJ _⟩
 yld:=fun i H x H' Hb e1 e2 hi y=>by
  obtain⟨rfl,y⟩:=y
  have hx:=y xs (ex_l (e1.trans e2) h)
  obtain⟨d,d1,d2⟩:=uP a hx
  exact⟨Hb,d,Gw.refl e2,d1,mY e1 d2⟩
theorem akQ{K:aq}{Hb1:Hp}{p:Addr}{xs:List V}{ds:List D}(h:SqT K Hb1 p xs)(a:ju K Hb1 xs ds):Yl K Hb1 (Itt K p) ds where
 go:=fun i H e hi=>by
  have hl:=iV a
  exact⟨xs,xs[i]'(by omega),ex_t e h,by simp⟩
 stop:=fun H e=>⟨xs,ex_t e h,by rw [iV a];exact bJ _⟩
 yld:=fun i H x H' Hb e1 e2 hi y=>by
  obtain⟨rfl,y⟩:=y
  have hx:=y xs (ex_t (e1.trans e2) h)
  obtain⟨d,d1,d2⟩:=uP a hx
  exact⟨Hb,d,Gw.refl e2,d1,mY e1 d2⟩
theorem alv{K:aq}{Hb1:Hp}(z:Str):Yl K Hb1 (Its z) (QS z) where
 go:=fun i H e hi=>by simpa [QS,Its] using hi
 stop:=fun H e=>by simp [QS,Its]
 yld:=fun i H x H' Hb e1 e2 hi y=>by
  obtain⟨rfl,c,hc,rfl⟩:=y
  exact⟨Hb, .str ⟨#[c]⟩,Gw.refl e2,by
   have hc' :z.cps.toList[i]? =some c:=by simpa using hc
   simp only [QS,aK,hc']
   rfl, .str _⟩
section
variable{X:Cx}{W:WQ}{rk kd:Kd}{e tg a b:Expr}{g:GM}{m ma mb:EM}{p pos:Pos}{mi:Env→AR}
theorem M5(h:DE X W .dat e m):DI X W tg e (iL m):=PI.imp (pi_list h) fun σ H R ⟨Hf,Hb,ρ,Re,h1,h2,h3⟩=>by
 refine⟨Hf,Hb,ρ,Re,fun d hd v Hb' H' g r=> ?_,fun c hc=>h2 c (by simp [iL,hc]),fun z=>h3 (by simp [iL,z])⟩
 cases d with
 |list ds=>
  cases r with
  |lst s a=>exact⟨_,rfl,⟨_,ex_l g.bh s⟩,h1 ds (by simp [iL,hd]) _ Hb' H' g (ah' s a)⟩
 |_=>exact absurd (by simp [iL,hd]) h3
theorem aiZ(h:DE X W .dat e m):DI X W tg e (iT m):=PI.imp (pi_tup h) fun σ H R ⟨Hf,Hb,ρ,Re,h1,h2,h3⟩=>by
 refine⟨Hf,Hb,ρ,Re,fun d hd v Hb' H' g r=> ?_,fun c hc=>h2 c (by simp [iT,hc]),fun z=>h3 (by simp [iT,z])⟩
 cases d with
 |tuple ds=>
  cases r with
  |tup s a=>exact⟨_,rfl,⟨_, .inl (.inl (g.bh _ _ s))⟩,h1 ds (by simp [iT,hd]) _ Hb' H' g (akQ (.inl (.inl s)) a)⟩
 |_=>exact absurd (by simp [iT,hd]) h3
theorem afM(h:DE X W .dat e m):DI X W tg e (iS m):=PI.imp (pi_str h) fun σ H R ⟨Hf,Hb,ρ,Re,h1,h2,h3⟩=>by
 refine⟨Hf,Hb,ρ,Re,fun d hd v Hb' H' g r=> ?_,fun c hc=>h2 c (by simp [iS,hc]),fun z=>h3 (by simp [iS,z])⟩
 cases d with
 |str z=>
  cases r
  exact⟨_,rfl,h1 _ (by simp [iS,hd]) _ Hb' H' g (alv z)⟩
 |_=>exact absurd (by simp [iS,hd]) h3
theorem R8(hm:X.mg "range"=none)(h:DE X W .bor a m)(hg:Gl X "range":=by rfl)(hs:starEach [a] X.env=[(false,eval a X.env)]:=by rfl):DI X W tg (.Call (.Name "range" p) [a] [] pos) (Vh m):=
 PI.imp (pi_range1 hg hm (pa_cons h pa_nil hs) hs) fun σ H R ⟨Hf,Hb,ρ,Re,h1,h2,h3⟩=>by
  refine⟨Hf,Hb,ρ,Re,fun d hd v Hb' H' g r=> ?_,fun c hc=>h2 c (by simp [Vh,hc]),fun z=>h3 (by simp [Vh,z])⟩
  cases d with
  |int n=>
   by_cases hz:inR n=true
   ·refine⟨n,by rw [Bo.int r],(tW.mp hz).1,(tW.mp hz).2,?_⟩
    have y:=ahu (K:=X.K) (Hb1:=Hb') 0 n
    have e0:(n-0).toNat=n.toNat:=by simp
    rw [e0] at y
    exact h1 _ (by simp [Vh,hd,hz]) _ Hb' H' g y
   ·exact absurd (by simp [Vh,hd,hz]) h3
  |_=>exact absurd (by simp [Vh,hd]) h3
theorem ajS{c:Expr}{mc:EM}(hm:X.mg "range"=none)(h:DA X W [.bor, .bor, .bor] [a,b,c] [ma,mb,mc])(hg:Gl X "range":=by rfl)(hs:starEach [a,b,c] X.env=(false,eval a X.env)::starEach [b,c] X.env:=by rfl)(hpl:(backTo pos (starEach [b,c] X.env)).any (·.1)=false:=by rfl):
 DI X W tg (.Call (.Name "range" p) [a,b,c] [] pos) (iR3 ma mb mc):=PI.imp (pi_range3 hg hm h hs hpl) fun σ H R ⟨Hf,Hb,ρ,Re,h1,h2,h3⟩=>by
 refine⟨Hf,Hb,ρ,Re,fun ds hd vs Hb' H' g r=> ?_,fun c hc=>h2 c (by simp [iR3,hc]),fun z=>h3 (by simp [iR3,z])⟩
 cases r with
 |cons r1 r2=>
  cases r2 with
  |cons r2 r3=>
   cases r3 with
   |cons r3 r4=>
    cases r4
    rename_i v1 d1 v2 d2 v3 d3
    cases d1 with
    |int i=>
     cases d2 with
     |int j=>
      cases d3 with
      |int k=>
       by_cases hz:(inR i&&inR j&&decide (k= -1))=true
       ·have hz2:=Bool.and_eq_true_iff.mp hz
        have hz3:=Bool.and_eq_true_iff.mp hz2.1
        have hk:k= -1:=of_decide_eq_true hz2.2
        subst hk
        refine⟨i,j,-1,(i-j).toNat,by rw [Bo.int r1,Bo.int r2,Bo.int r3],RgC.neg (tW.mp hz3.1).1 (tW.mp hz3.1).2 (tW.mp hz3.2).1 (tW.mp hz3.2).2,h1 (Jw i j) ?_ _ Hb' H' g (aiF i j)⟩
        unfold iR3
        rw [hd]
        exact if_pos hz
       ·refine absurd ?_ h3
        unfold iR3
        rw [hd]
        exact if_neg hz
      |_=>exact absurd (by simp [iR3,hd]) h3
     |_=>exact absurd (by simp [iR3,hd]) h3
    |_=>exact absurd (by simp [iR3,hd]) h3
theorem kJ{body:List Stmt}{mb:SM}(hp:PassesOwn (model X.prog X.w) X.A X.env X.xe)(hi:DI X W tg e mi)(hg:DG X W tg g)(hb:Wg X W rk body mb)(hc:X.calm=true:=by rfl)(hs:∀x,foldedSetIterable e X.env x=pure x:=by intro _;rfl):
 DS X W rk (.For tg e body [] pos) (mV mi g mb):=PS.imp (ps_for hp hc hi hg hb hs) fun E σ H ⟨Hf,Hb,ρ,R,h⟩=>by
 refine⟨Hf,Hb,ρ,R,fun ds hds J Hb1 H1 g1 Y=> ?_,fun c hc Hb' H' g1=> ?_,fun z=> ?_⟩
 ·simp only [mV,hds] at h
  refine⟨fun i n σ' H' =>n=ds.length-i∧i≤ds.length∧∃Hb' ρ',gJ X.K W.pin Hf Hb' H' σ' ρ' ∧Ex Hb1 Hb' ∧lO X.K W rk Hf Hb' H' E (wF g mb (ds.drop i) ρ'),⟨ds.length,by simp,cX _,Hb1,ρ,R.gw g1,Ex.refl _,lO.weak (g1.bw R.ef) h⟩,?_⟩
  rintro i n σ2 H2 ⟨rfl,hi,Hb2,ρ2,R2,e2,h2⟩
  by_cases hlt:i<ds.length
  ·have ed:ds.drop i=ds[i]::ds.drop (i+1):=(List.getElem_cons_drop hlt).symm
   rw [ed] at h2
   refine .inr ⟨Y.go i H2 (e2.trans R2.eb) hlt,fun σ' H' =>∃Hb' ρ',gJ X.K W.pin Hf Hb' H' σ' ρ' ∧Ex Hb1 Hb' ∧lO X.K W rk Hf Hb' H' E (wF g mb (ds.drop (i+1)) ρ'),fun σ' H' hN=>⟨ds.length-(i+1),by omega,rfl,hlt,hN⟩,fun x H3 y=> ?_⟩
   obtain⟨Hb3,d,g3,d1,d2⟩:=Y.yld i H2 x H3 Hb2 e2 R2.eb hlt y
   have de:ds[i]=d:=by
    rw [aU hlt] at d1
    exact Option.some.inj d1
   rw [de] at h2
   simp only [wF] at h2
   cases q:g d ρ2 with
   |none=>
    rw [q] at h2
    exact h2.elim
   |some ρ3=>
    rw [q] at h2
    refine⟨Hf,Hb3,ρ2,d,ρ3,R2.gw g3,d2,q,fun σ3 R3=>⟨Hf,Hb3,ρ3,R3,?_⟩⟩
    have h3:=lO.weak (g3.bw R2.ef) h2
    simp only at h3
    cases qb:mb ρ3 with
    |nx ρ4=>
     rw [qb] at h3
     exact fun σ4 Hb4 H4 R4 b4=>⟨Hb4,ρ4,R4,(e2.trans g3.b).trans b4.b,lO.weak b4 h3⟩
    |ct ρ4=>
     rw [qb] at h3
     exact fun σ4 Hb4 H4 R4 b4=>⟨Hb4,ρ4,R4,(e2.trans g3.b).trans b4.b,lO.weak b4 h3⟩
    |bk ρ4=>
     rw [qb] at h3
     exact h3
    |rt d=>
     rw [qb] at h3
     exact h3
    |rx d ρ4=>
     rw [qb] at h3
     exact h3
    |ex c ρ4=>
     rw [qb] at h3
     exact h3
    |bad=>
     rw [qb] at h3
     exact h3
  ·have e:i=ds.length:=by omega
   subst e
   rw [List.drop_length] at h2
   exact .inl ⟨Y.stop H2 (e2.trans R2.eb),h2 σ2 Hb2 H2 R2 (Bw.refl R2.eb)⟩
 ·simp only [mV,hc] at h
  exact h _ Hb' H' (R.gw g1) (g1.bw R.ef)
 ·simp only [mV,z] at h
  exact h
theorem vA{c:Expr}{body:List Stmt}{mc:EM}{mb:SM}(hp:PassesOwn (model X.prog X.w) X.A X.env X.xe)(hc:DT X W c mc)(hb:Wg X W rk body mb):DS X W rk (.While c body [] pos) (ug mc mb):=
 PS.imp (ps_while hp hc hb) fun E σ H ⟨Hf,Hb,ρ,R,h⟩=>by
  refine⟨fun n σ' H' =>∃Hb' ρ',gJ X.K W.pin Hf Hb' H' σ' ρ' ∧lO X.K W rk Hf Hb' H' E (rE mc mb n ρ'),⟨FUEL,Hb,ρ,R,h⟩,?_⟩
  rintro n σ2 H2 ⟨Hb2,ρ2,R2,h2⟩
  cases n with
  |zero=>exact h2.elim
  |succ n=>
   simp only [rE] at h2
   refine⟨Hf,Hb2,ρ2,R2,fun k hk Hb3 H3 g3=> ?_,fun c hc Hb3 H3 g3=> ?_,?_⟩
   ·cases k with
    |true=>
     rw [hk] at h2
     simp only at h2
     show∃N:L2.St→Hp→Prop,_
     refine⟨fun σ' H' =>∃Hb' ρ',gJ X.K W.pin Hf Hb' H' σ' ρ' ∧lO X.K W rk Hf Hb' H' E (rE mc mb n ρ'),fun σ' H' hN=>⟨n,by omega,hN⟩,Hf,Hb3,ρ2,R2.gw g3,?_⟩
     have h3:=lO.weak (g3.bw R2.ef) h2
     cases qb:mb ρ2 with
     |nx ρ4=>
      rw [qb] at h3
      exact fun σ4 Hb4 H4 R4 b4=>⟨Hb4,ρ4,R4,lO.weak b4 h3⟩
     |ct ρ4=>
      rw [qb] at h3
      exact fun σ4 Hb4 H4 R4 b4=>⟨Hb4,ρ4,R4,lO.weak b4 h3⟩
     |bk ρ4=>
      rw [qb] at h3
      exact h3
     |rt d=>
      rw [qb] at h3
      exact h3
     |rx d ρ4=>
      rw [qb] at h3
      exact h3
     |ex c ρ4=>
      rw [qb] at h3
      exact h3
     |bad=>
      rw [qb] at h3
      exact h3
    |false=>
     rw [hk] at h2
     simp only at h2
     show E.nx σ2 H3
     exact h2 σ2 Hb3 H3 (R2.gw g3) (g3.bw R2.ef)
   ·rw [hc] at h2
    exact h2 _ Hb3 H3 (R2.gw g3) (g3.bw R2.ef)
   ·cases q:mc ρ2 with
    |bad=>
     rw [q] at h2
     exact h2.elim
    |ex c=>exact .inr ⟨c,rfl⟩
    |ok d=>
     cases d with
     |bool b=>exact .inl ⟨b,rfl⟩
     |_=>
      rw [q] at h2
      exact h2.elim
end
def j9:List Kd→List D→Env
 |[],_=>[]
 | .dat::ks,d::ds=> .dat d::j9 ks ds
 | .bor::ks,d::ds=> .bor d::j9 ks ds
 | .new::ks,d::ds=> .bor d::j9 ks ds
 | .io _::ks,d::ds=> .bor d::j9 ks ds
 | .tl::ks,d::ds=> .bor d::j9 ks ds
 |_::_,[]=>[]
def jh(ks:List Kd)(n:Nat)(m:SM)(ds:List D):ER:=match m (j9 ks ds++aD n .un) with
 | .nx _=> .ok .none
 | .rt d=> .ok d
 | .ex c _=> .ex c
 |_=> .bad
theorem oV.aiA{K:aq}{Hb H:Hp}:∀{ks:List Kd} {vs:List V} {ds:List D},oV K Hb H ks vs ds→vs.length=ks.length
 |_,_,_, .nil=>rfl
 |_,_,_, .cons _ b=>by simp [oV.aiA b]
theorem wL{K:aq}{Hb H:Hp}:∀{ks:List Kd} {vs:List V} {ds:List D},oV K Hb H ks vs ds→(j9 ks ds).length=vs.length
 |_,_,_, .nil=>rfl
 | .dat::_,_,_, .cons _ b=>by simp [j9,wL b]
 | .bor::_,_,_, .cons _ b=>by simp [j9,wL b]
 | .new::_,_,_, .cons _ b=>by simp [j9,wL b]
 | .io _::_,_,_, .cons _ b=>by simp [j9,wL b]
 | .tl::_,_,_, .cons _ b=>by simp [j9,wL b]
theorem wH{K:aq}{Hb H:Hp}:∀{ks:List Kd} {vs:List V} {ds:List D} (i:Nat) (s:Sl),oV K Hb H ks vs ds→(j9 ks ds)[i]? =some s→∃v d,vs[i]? =some v∧((s= .dat d∧Dr K Hb v d)∨(s= .bor d∧Bo K Hb H v d))
 |_,_,_,i,s, .nil,h=>by simp [j9] at h
 | .dat::_,v::_,d::_,0,s, .cons a b,h=>by
   simp [j9] at h
   exact⟨v,d,rfl, .inl ⟨h.symm,a⟩⟩
 | .bor::_,v::_,d::_,0,s, .cons a b,h=>by
   simp [j9] at h
   exact⟨v,d,rfl, .inr ⟨h.symm,a⟩⟩
 | .new::_,v::_,d::_,0,s, .cons a b,h=>by
   simp [j9] at h
   exact⟨v,d,rfl, .inr ⟨h.symm,a⟩⟩
 | .io _::_,v::_,d::_,0,s, .cons a b,h=>by
   simp [j9] at h
   exact⟨v,d,rfl, .inr ⟨h.symm,a⟩⟩
 | .tl::_,v::_,d::_,0,s, .cons a b,h=>by
   simp [j9] at h
   exact⟨v,d,rfl, .inr ⟨h.symm,a⟩⟩
 | .dat::_,_::_,_::_,i+1,s, .cons a b,h=>by
   simp [j9] at h
   obtain⟨v,d,h1,h2⟩:=wH i s b h
   exact⟨v,d,by simpa using h1,h2⟩
 | .bor::_,_::_,_::_,i+1,s, .cons a b,h=>by
   simp [j9] at h
   obtain⟨v,d,h1,h2⟩:=wH i s b h
   exact⟨v,d,by simpa using h1,h2⟩
 | .new::_,_::_,_::_,i+1,s, .cons a b,h=>by
   simp [j9] at h
   obtain⟨v,d,h1,h2⟩:=wH i s b h
   exact⟨v,d,by simpa using h1,h2⟩
 | .io _::_,_::_,_::_,i+1,s, .cons a b,h=>by
   simp [j9] at h
   obtain⟨v,d,h1,h2⟩:=wH i s b h
   exact⟨v,d,by simpa using h1,h2⟩
 | .tl::_,_::_,_::_,i+1,s, .cons a b,h=>by
   simp [j9] at h
   obtain⟨v,d,h1,h2⟩:=wH i s b h
   exact⟨v,d,by simpa using h1,h2⟩
theorem acA{K:aq}{Hb H:Hp}{ks:List Kd}{vs:List V}{ds:List D}{N:List Str}{n:Nat}(e:Ex Hb H)(r:oV K Hb H ks vs ds)(hn:N.length=ks.length+n):gJ K [] H Hb H (L2.start N vs) (j9 ks ds++aD n .un):=by
 have l1:=wL r
 have l2:=r.aiA
 have key:∀(i:Nat) s,(j9 ks ds++aD n .un)[i]? =some s→s= .un∨∃v d,(L2.start N vs)[i]? =some (some v)∧((s= .dat d∧Dr K Hb v d)∨(s= .bor d∧Bo K Hb H v d)):=fun i s h=>by
  rcases dW i (j9 ks ds).length with hlt|hge
  ·rw [aO hlt] at h
   obtain⟨v,d,h1,h2⟩:=wH i s r h
   refine .inr ⟨v,d,?_,h2⟩
   unfold L2.start
   rw [aO (by simpa using(by omega:i<vs.length)),aK,h1]
   rfl
  ·rw [bD hge] at h
   have:=bf h
   exact .inl (List.eq_of_mem_replicate this)
 refine⟨fun _=>[],Ex.refl _,e,?_,fun i s h=> ?_,fun i=>cR,fun i p hp=>by(cases hp),fun i j p _ hp=>by(cases hp),fun i a z=>by(cases z)⟩
 ·unfold L2.start
  simp
  omega
 ·rcases key i _ h with z|⟨v,d',h1,⟨z,h2⟩|⟨z,h2⟩⟩
  ·subst z
   rfl
  ·subst z
   exact⟨rfl,v,h1,h2⟩
  ·subst z
   exact⟨rfl,v,h1,h2⟩
section
variable{P:Program}{w:World}{K:aq}{mg:Str→Option Value}{base:Heap}{x qual:Str}{params:Arguments}{body:List Stmt}{scope:Scope}{dvs:List V}{kws:List (Str×V)}{f:Addr}{fd:FuncData}
theorem VN{Hb H Hb' H' :Hp}(e:Ex H H')(b:Bw H Hb Hb' H'):Gw Hb H Hb' H' :=⟨e,b.b,b.bh,b.nw⟩
theorem fn_ok{N ps:List Str}{k n:Nat}{ks:List Kd}{rk:Kd}{m:SM}(F:FunD K x qual params body scope dvs kws f fd)(S:FnScope N ps scope)(hps:ps.length=ks.length)(hn:N.length=ks.length+n)(hrk:rk= .dat∨∀ρ ρ',m ρ≠ .nx ρ')
 (hbody:∀(cdv:Value) (A:Around) (outer:List PySem.Env) (s:Shared) (H:Hp) (E:XK),Room k (A.deeper (PyProof.Rows.envOfC qual scope s.heap.objs.size f cdv))→Wg (cxOf (L2.CX P w) P w K mg base N qual scope f cdv A outer s H E) ⟨fun cls d _ H=>E cls d H,[]⟩ rk body m):
 FnOk P w K mg base (L2.CX P w) (k+1) f fd ps (oZ K ks rk (jh ks n m)):=by
 refine F.ok S (fun vs H Q E h=> ?_) (fun cdv A outer s H vs Q E hr h=> ?_)
 ·obtain⟨Hb,ds,e,r,_⟩:=h
  rw [r.aiA,hps]
 ·obtain⟨Hb,ds,e,r,h1,h2,h3⟩:=h
  refine⟨_,hbody cdv A outer s H E hr,H,Hb,_,acA e r hn,?_⟩
  have em:jh ks n m ds=match m (j9 ks ds++aD n .un) with
   | .nx _=> .ok .none
   | .rt d=> .ok d
   | .ex c _=> .ex c
   |_=> .bad:=rfl
  cases q:m (j9 ks ds++aD n .un) with
  |nx ρ=>
   rw [q] at em
   intro σ' Hb' H' R b
   refine h1 .none em .non Hb' H' (VN R.ef b) ?_
   rcases hrk with z|z
   ·subst z
    exact ach
   ·exact absurd q (z _ _)
  |rt d=>
   rw [q] at em
   exact fun v Hb' H' e1 b r1=>h1 d em v Hb' H' (VN e1 b) r1
  |ex c ρ=>
   rw [q] at em
   exact fun σ' Hb' H' R b=>h2 c em Hb' H' (VN R.ef b)
  |bk ρ=>
   rw [q] at em
   exact absurd em h3
  |rx d ρ=>
   rw [q] at em
   exact absurd em h3
  |ct ρ=>
   rw [q] at em
   exact absurd em h3
  |bad=>
   rw [q] at em
   exact absurd em h3
end
end DL
namespace DL
open PySem L2 Evl PyProof.Rows
end DL
namespace DL
open PySem L2 Evl
def xJ(ρ:Env):List Nat→Env
 |[]=>ρ
 |v::vs=>(xJ ρ vs).set v .un
def lcD(g:GM)(mt me:EM):List D→List D→Env→ER
 |[],acc,_=> .ok (.list acc)
 |d::r,acc,ρ=>match g d ρ with
  |none=> .bad
  |some ρ1=>match mt ρ1 with
   | .ok (.bool true)=>(match me ρ1 with
     | .ok e=>if acc.length<sizeLine then lcD g mt me r (acc++[e]) ρ else .bad
     |_=> .bad)
   | .ok (.bool false)=>lcD g mt me r acc ρ
   |_=> .bad
def X3(mi:Env→AR)(g:GM)(mt me:EM)(vs:List Nat):EM:=fun ρ=>match mi ρ with
 | .ok ds=>lcD g mt me ds [] (xJ ρ vs)
 | .ex c=> .ex c
 | .bad=> .bad
theorem Uk(g:GM)(mt me:EM):∀(ds acc:List D) (ρ:Env),lcD g mt me ds acc ρ= .bad∨∃es,lcD g mt me ds acc ρ= .ok (.list es)
 |[],acc,ρ=> .inr ⟨acc,rfl⟩
 |d::r,acc,ρ=>by
  simp only [lcD]
  split
  ·exact .inl rfl
  ·split
   ·split
    ·split
     ·exact Uk g mt me r _ ρ
     ·exact .inl rfl
    ·exact .inl rfl
   ·exact Uk g mt me r acc ρ
   ·exact .inl rfl
section
variable{K:aq}{Hf Hb H:Hp}{σ:L2.St}{ρ:Env}
theorem gJ.ajV(R:gJ K [] Hf Hb H σ ρ):∀vs,gJ K [] Hf Hb H (wipe σ vs) (xJ ρ vs)
 |[]=>R
 |v::vs=>(gJ.ajV R vs).amf (fun _ z=>nomatch z)
def GOk(K:aq)(T:TG)(g:GM)(vs:List Nat):Prop:=∀(Hf Hb H:Hp) (σ:L2.St) (ρ ρ' :Env) (v:V) (d:D) (Q:L2.St→Hp→Prop),gJ K [] Hf Hb H (wipe σ vs) ρ→Dr K Hb v d→g d ρ=some ρ' →
 (∀σ2,gJ K [] Hf Hb H σ2 ρ' →wipe σ2 vs=wipe σ vs→Q σ2 H)→T v (wipe σ vs) H Q
theorem aan(j:Nat):GOk K (gName j) (gN j) [j]:=fun Hf Hb H σ ρ ρ' v d Q R r h q=>by
 cases h
 exact q _ (R.UJ (fun _ z=>nomatch z) r) (by simp [wipe])
end
section
variable{X:Cx}{W:WQ}{elt tg iter:Expr}{ifs:List Expr}{scope:Scope}{own:List (Str×Nat)}{pos:Pos}{mi:Env→AR}{T:TG}{g:GM}{mt me:EM}
abbrev W0:WQ:=⟨fun _ _ _ _=>False,[]⟩
structure YlH(K:aq)(Hb1 H1:Hp)(J:It)(ds:List D):Prop where
 go:∀(i:Nat) H,Ex H1 H→i<ds.length→J.go i H
 stop:∀H,Ex H1 H→J.stop ds.length H
 yld:∀(i:Nat) H x H' Hb,Ex Hb1 Hb→Ex Hb H→Ex H1 H→i<ds.length→J.yld i H x H' →∃Hb' d,Gw Hb H Hb' H' ∧ds[i]? =some d∧Dr K Hb' x d
def amk(K:aq)(W:WQ)(mi:Env→AR):TI:=fun σ H R=>∃(Hf Hb:Hp) (ρ:Env),gJ K W.pin Hf Hb H σ ρ∧
 (∀ds,mi ρ= .ok ds→∀J Hb' H',Gw Hb H Hb' H' →YlH K Hb' H' J ds→R J H')∧
 (∀c,mi ρ= .ex c→∀Hb' H',Gw Hb H Hb' H' →W.w (.ref (He.ga K c)) none σ H')∧mi ρ≠ .bad
abbrev DIC(X:Cx)(W:WQ)(tg iter:Expr)(mi:Env→AR):Prop:=PI X tg iter (amk X.K W mi)
theorem Yv(h:DI X W tg iter mi):DIC X W tg iter mi:=PI.imp h fun σ H R ⟨Hf,Hb,ρ,Re,h1,h2,h3⟩=>
 ⟨Hf,Hb,ρ,Re,fun ds hds J Hb' H' g Y=>h1 ds hds J Hb' H' g ⟨fun i H e=>Y.go i H (g.bh.trans e),fun H e=>Y.stop H (g.bh.trans e),fun i H x H2 Hb2 e1 e2 _ hl y=>Y.yld i H x H2 Hb2 e1 e2 hl y⟩,h2,h3⟩
theorem alO{e:Expr}{m:EM}(h:DE X W .bor e m):DIC X W tg e (iL m):=PI.imp (pi_list h) fun σ H R ⟨Hf,Hb,ρ,Re,h1,h2,h3⟩=>by
 refine⟨Hf,Hb,ρ,Re,fun d hd v Hb' H' g r=> ?_,fun c hc=>h2 c (by simp [iL,hc]),fun z=>h3 (by simp [iL,z])⟩
 cases d with
 |list ds=>
  obtain⟨p,xs,rfl,s,a⟩:=Bo.lst g.bh r
  refine⟨_,rfl,⟨_,s⟩,h1 ds (by simp [iL,hd]) _ Hb' H' g ⟨fun i H e hi=> ?_,fun H e=>⟨xs,ex_l e s,by rw [iV a];exact bJ _⟩,fun i H x H2 Hb2 e1 e2 e3 hi y=> ?_⟩⟩
  ·have hl:=iV a
   exact⟨xs,xs[i]'(by omega),ex_l e s,by simp⟩
  ·obtain⟨rfl,y⟩:=y
   have hx:=y xs (ex_l e3 s)
   obtain⟨d,d1,d2⟩:=uP a hx
   exact⟨Hb2,d,Gw.refl e2,d1,mY e1 d2⟩
 |_=>exact absurd (by simp [iL,hd]) h3
theorem abV{K:aq}{vs:List Nat}{σ:L2.St}{H:Hp}{Q:VK}(hG:GOk K T g vs)(h:CN K W .new (X3 mi g mt me vs) σ H Q):tLc (amk K W mi) T (Xu K W0 mt) (CN K W0 .dat me) vs σ H Q:=by
 obtain⟨Hf,Hb,ρ,R,h1,h2,h3⟩:=h
 refine⟨Hf,Hb,ρ,R,fun ds hds J Hb1 H1 g1 Y=> ?_,fun c hc=>h2 c (by simp [X3,hc]),fun z=>h3 (by simp [X3,z])⟩
 have em:X3 mi g mt me vs ρ=lcD g mt me ds [] (xJ ρ vs):=by simp [X3,hds]
 rw [em] at h1 h3
 intro A hA
 have R1:=(R.gw g1).unpin.ajV vs
 have hbA:Hb1 A=none:=fresh_back g1.bh hA
 refine⟨fun i n H' =>n=ds.length-i∧i≤ds.length∧∃Hb' acc accd,Gw Hb1 H1 Hb' H' ∧Hb' A=none∧H' A=some (.lst acc)∧ju K Hb' acc accd∧lcD g mt me (ds.drop i) accd (xJ ρ vs)=lcD g mt me ds [] (xJ ρ vs),
  ⟨ds.length,by simp,cX _,Hb1,[],[],Gw.new g1.bh hA,hbA,upd_same, .nil,rfl⟩,?_⟩
 rintro i n H2 ⟨rfl,hi,Hb2,acc,accd,g2,hb2,ho2,a2,e2⟩
 by_cases hlt:i<ds.length
 ·have ed:ds.drop i=ds[i]::ds.drop (i+1):=(List.getElem_cons_drop hlt).symm
  rw [ed] at e2
  refine .inr ⟨Y.go i H2 g2.h hlt,fun H' =>∃Hb' acc accd,Gw Hb1 H1 Hb' H' ∧Hb' A=none∧H' A=some (.lst acc)∧ju K Hb' acc accd∧lcD g mt me (ds.drop (i+1)) accd (xJ ρ vs)=lcD g mt me ds [] (xJ ρ vs),
   fun H' hN=>⟨ds.length-(i+1),by omega,rfl,hlt,hN⟩,fun x H3 y=> ?_⟩
  obtain⟨Hb3,d,g3,d1,d2⟩:=Y.yld i H2 x H3 Hb2 g2.b g2.bh g2.h hlt y
  have de:ds[i]=d:=by
   rw [aU hlt] at d1
   exact Option.some.inj d1
  rw [de] at e2
  simp only [lcD] at e2
  cases q:g d (xJ ρ vs) with
  |none=>
   rw [q] at e2
   exact absurd e2.symm h3
  |some ρ3=>
   rw [q] at e2
   simp only at e2
   have g23:=g2.trans g3
   refine hG Hf Hb3 H3 σ (xJ ρ vs) ρ3 x d _ (R1.gw g23) d2 q fun σ4 R4 w4=>⟨w4,?_⟩
   have ho3:=g3.h _ _ ho2
   have hb3:Hb3 A=none:=g3.nw A hb2 (by rw [ho2];exact True.intro)
   cases qt:mt ρ3 with
   |bad=>
    rw [qt] at e2
    exact absurd e2.symm h3
   |ex c=>
    rw [qt] at e2
    exact absurd e2.symm h3
   |ok dt=>
    rw [qt] at e2
    cases dt with
    |bool b=>
     refine⟨Hf,Hb3,ρ3,R4,fun b' hb' Hb5 H5 g5=> ?_,fun c hc=>(by rw [qt] at hc;cases hc), .inl ⟨b,qt⟩⟩
     rw [qt] at hb'
     cases hb'
     cases b with
     |true=>
      simp only at e2
      cases qe:me ρ3 with
      |bad=>
       rw [qe] at e2
       exact absurd e2.symm h3
      |ex c=>
       rw [qe] at e2
       exact absurd e2.symm h3
      |ok de=>
       rw [qe] at e2
       simp only at e2
       by_cases hz:accd.length<sizeLine
       ·rw [if_pos hz] at e2
        show CN K W0 .dat me σ4 H5 _
        refine⟨Hf,Hb5,ρ3,R4.gw g5,fun d' hd' v' Hb6 H6 g6 r6=> ?_,fun c hc=>(by rw [qe] at hc;cases hc),fun z=>(by rw [qe] at z;cases z)⟩
        rw [qe] at hd'
        cases hd'
        have g36:=g3.trans (g5.trans g6)
        have ho6:=g36.h _ _ ho2
        have hb6:Hb6 A=none:=g36.nw A hb2 (by rw [ho2];exact True.intro)
        have gg:=g2.trans g36
        refine⟨acc,ho6,by rw [iV a2];exact hz,Hb6,acc++[v'],accd++[de],⟨fun a u qa=> ?_,gg.b,fun a u qa=> ?_,gg.nw⟩,hb6,upd_same,uR (m9 g36.b a2) (.cons r6 .nil),e2⟩
        ·rw [upd_ne (ne_of_none qa hA)]
         exact gg.h a u qa
        ·rw [upd_ne (ne_of_none qa hb6)]
         exact gg.bh a u qa
       ·rw [if_neg hz] at e2
        exact absurd e2.symm h3
     |false=>
      simp only at e2
      show∃Hb' acc accd,_
      have g35:=g3.trans g5
      exact⟨Hb5,acc,accd,g2.trans g35,g35.nw A hb2 (by rw [ho2];exact True.intro),g35.h _ _ ho2,m9 g35.b a2,e2⟩
    |_=>
     simp only at e2
     exact absurd e2.symm h3
 ·have e:i=ds.length:=by omega
  subst e
  rw [List.drop_length] at e2
  simp only [lcD] at e2
  refine .inl ⟨Y.stop H2 g2.h,h1 (.list accd) e2.symm _ Hb2 H2 (g1.trans g2) ⟨A,rfl,fresh_back g1.h hA,hb2,_,ho2, .lst a2⟩⟩
theorem aja{K:aq}{σ:L2.St}{H:Hp}{Q:Bool→Hp→Prop}{Wx:WQ}(h:Xu K Wx (eC (.bool true)) σ H Q):tYes σ H Q:=by
 obtain⟨Hf,Hb,ρ,R,h1,_,_⟩:=h
 exact h1 true rfl Hb H (Gw.refl R.eb)
theorem PTs.imp{X:Cx}{e:List Expr}{t t' :TT}(h:PTs X e t)(i:∀σ H Q,t' σ H Q→t σ H Q):PTs X e t' :=⟨fun pins s σ H Q I q=>h.run pins s σ H Q I (i σ H Q q)⟩
abbrev DTs(X:Cx)(W:WQ)(ifs:List Expr)(m:EM):Prop:=PTs X ifs (Xu X.K W m)
theorem Jq:DTs X W [] (eC (.bool true)):=PTs.imp pts_nil fun _ _ _=>aja
theorem agB(hN:X.N.Nodup)(hi:DIC X W tg iter mi)(ok:BlkOk X.N X.env.scope scope own)(hG:GOk X.K T g (own.map (·.2)))
 (hg:∀(s:Shared) (H:Hp) (C:Addr) (cl:List (Str×Addr)) (fp:List Addr),PG (X.blk s H scope (compEnvC scope cl C X.env) fp) tg T)
 (ht:∀(s:Shared) (H:Hp) (C:Addr) (cl:List (Str×Addr)) (fp:List Addr),DTs (X.blk s H scope (compEnvC scope cl C X.env) fp) W0 ifs mt)
 (he:∀(s:Shared) (H:Hp) (C:Addr) (cl:List (Str×Addr)) (fp:List Addr),DE (X.blk s H scope (compEnvC scope cl C X.env) fp) W0 .dat elt me) (hc:X.calm=true:=by rfl) (hs:∀x,foldedSetIterable iter X.env x=pure x:=by intro _;rfl):
 DE X W .new (.ListComp elt [⟨tg,iter,ifs,0⟩] scope pos) (X3 mi g mt me (own.map (·.2))):=PE.imp (pe_lc (tt:=Xu X.K W0 mt) (te:=CN X.K W0 .dat me) hc hN hi ok hg ht he hs) fun _ _ _=>abV hG
theorem alR{rk:Kd}{i:Nat}{y:Str}{py spos:Pos}(hN:X.N.Nodup)(hsw:swapsWith (.ListComp elt [⟨tg,iter,ifs,0⟩] scope pos) (some (.Name y py)) spos.line X.env=pure true)(hi:DIC X W tg iter mi)(ok:BlkOk X.N X.env.scope scope own)(hG:GOk X.K T g (own.map (·.2)))
 (hg:∀(s:Shared) (H:Hp) (C:Addr) (cl:List (Str×Addr)) (fp:List Addr),PG (X.blk s H scope (compEnvC scope cl C X.env) fp) tg T)
 (ht:∀(s:Shared) (H:Hp) (C:Addr) (cl:List (Str×Addr)) (fp:List Addr),DTs (X.blk s H scope (compEnvC scope cl C X.env) fp) W0 ifs mt)
 (he:∀(s:Shared) (H:Hp) (C:Addr) (cl:List (Str×Addr)) (fp:List Addr),DE (X.blk s H scope (compEnvC scope cl C X.env) fp) W0 .dat elt me) (hy:X.N[i]? =some y:=by rfl) (hyl:X.env.scope.names.lookup y=some .local:=by rfl) (hc:X.calm=true:=by rfl) (hs:∀x,foldedSetIterable iter X.env x=pure x:=by intro _;rfl) (ho:yg W.pin i:=by intro _ z;first|(cases z;done)|exact absurd (dM z).1 (by decide)|(simp at z;done)):
 DS X W rk (.Assign [.Name y py] (.ListComp elt [⟨tg,iter,ifs,0⟩] scope pos) spos) (jG i (X3 mi g mt me (own.map (·.2)))):=PS.imp (ps_setLc (tt:=Xu X.K W0 mt) (te:=CN X.K W0 .dat me) hc hN hy hyl hsw hi ok hg ht he hs) fun E σ H ⟨Hf,Hb,ρ,R,h⟩=>by
 refine abV hG ⟨Hf,Hb,ρ,R,fun d hd v Hb' H' g r=> ?_,fun c hc Hb' H' g=> ?_,fun z=> ?_⟩
 ·simp only [jG,hd] at h
  obtain⟨p,rfl,h0,hb,ow⟩:=r
  exact h _ Hb' H' (R.agW ho g h0 hb ow) (g.bw R.ef)
 ·simp only [jG,hc] at h
  exact h _ Hb' H' (R.gw g) (g.bw R.ef)
 ·simp only [jG,z] at h
  exact h
theorem ak3{rk:Kd}{i:Nat}{y:Str}{py spos:Pos}(hN:X.N.Nodup)(hsw:swapsWith (.ListComp elt [⟨tg,iter,ifs,0⟩] scope pos) (some (.Name y py)) spos.line X.env=pure true)(hi:DIC X W tg iter mi)(ok:BlkOk X.N X.env.scope scope own)(hG:GOk X.K T g (own.map (·.2)))
 (hg:∀(s:Shared) (H:Hp) (C:Addr) (cl:List (Str×Addr)) (fp:List Addr),PG (X.blk s H scope (compEnvC scope cl C X.env) fp) tg T)
 (ht:∀(s:Shared) (H:Hp) (C:Addr) (cl:List (Str×Addr)) (fp:List Addr),DTs (X.blk s H scope (compEnvC scope cl C X.env) fp) W0 ifs mt)
 (he:∀(s:Shared) (H:Hp) (C:Addr) (cl:List (Str×Addr)) (fp:List Addr),DE (X.blk s H scope (compEnvC scope cl C X.env) fp) W0 .dat elt me) (hy:X.N[i]? =some y:=by rfl) (hyl:X.env.scope.names.lookup y=some .local:=by rfl) (hc:X.calm=true:=by rfl) (hs:∀x,foldedSetIterable iter X.env x=pure x:=by intro _;rfl) (ho:yg W.pin i:=by intro _ z;first|(cases z;done)|exact absurd (dM z).1 (by decide)|(simp at z;done)):
 DS X W rk (.Assign [.Name y py] (.ListComp elt [⟨tg,iter,ifs,0⟩] scope pos) spos) (gH i (X3 mi g mt me (own.map (·.2)))):=PS.imp (ps_setLc (tt:=Xu X.K W0 mt) (te:=CN X.K W0 .dat me) hc hN hy hyl hsw hi ok hg ht he hs) fun E σ H ⟨Hf,Hb,ρ,R,h⟩=>by
 refine abV hG ⟨Hf,Hb,ρ,R,fun d hd v Hb' H' g r=> ?_,fun c hc Hb' H' g=> ?_,fun z=> ?_⟩
 ·simp only [gH,hd] at h
  have hl:∃ds,d= .list ds:=by
   unfold X3 at hd
   split at hd
   ·rename_i ds hds
    rcases Uk _ mt me ds [] (xJ ρ (own.map (·.2))) with z|⟨es,z⟩
    ·rw [z] at hd
     cases hd
    ·rw [z] at hd
     cases hd
     exact⟨es,rfl⟩
   ·cases hd
   ·cases hd
  obtain⟨ds,rfl⟩:=hl
  obtain⟨Hb2,g2,r2⟩:=Rs.frz g r
  exact h _ Hb2 H' ((R.gw g2).UJ ho r2) (g2.bw R.ef)
 ·simp only [gH,hc] at h
  exact h _ Hb' H' (R.gw g) (g.bw R.ef)
 ·simp only [gH,z] at h
  exact h
end
end DL
namespace DL
open PySem L2 Evl
def Pk:D→ER
 | .int i=> .ok (.int (-i))
 |_=> .bad
def G7(g:D→ER)(m:EM):EM:=fun ρ=>(m ρ).bind g
theorem MJ{X:Cx}{W:WQ}{a:Expr}{m:EM}{pos:Pos}(h:DE X W .bor a m):DE X W .dat (.UnaryOp .USub a pos) (G7 Pk m):=PE.imp (pe_un un_neg h) fun σ H Q ⟨Hf,Hb,ρ,R,h1,h2,h3⟩=>by
 refine⟨Hf,Hb,ρ,R,fun d hd v Hb1 H1 g1 r1=> ?_,fun c hc=>h2 c (by simp [G7,hc,ER.bind]),fun z=>h3 (by simp [G7,z,ER.bind])⟩
 cases d with
 |int i=>exact⟨i,Bo.int r1,h1 (.int (-i)) (by simp [G7,hd,ER.bind,Pk]) _ Hb1 H1 g1 pC⟩
 |_=>exact absurd (by simp [G7,hd,ER.bind,Pk]) h3
def La(neg:Bool):D→D→ER
 | .str x, .str z=>(match x.cps.toList with
   |[c]=> .ok (.bool (if neg then !decide (c∈z.cps.toList) else decide (c∈z.cps.toList)))
   |_=> .bad)
 |_,_=> .bad
theorem abH(neg:Bool):lJ (La neg):=fun x y c h=>by
 cases x<;>cases y<;>simp only [La] at h<;>first|cases h;done|(split at h<;>cases h)
theorem ac'{x:Str}{c:Nat}(h:x.cps.toList=[c]):x=⟨#[c]⟩:=by
 obtain⟨a⟩:=x
 obtain⟨l⟩:=a
 have e:l=[c]:=h
 rw [e]
section
variable{X:Cx}
theorem alr:HD X (compareOp .In) .dat (La false):=by
 intro pins s σ H x y v u Q I rx ry h
 obtain⟨Hb,dx,dy,d,eb,bx,byy,hg,q⟩:=h
 cases dx<;>cases dy<;>simp only [La] at hg<;>first|cases hg;done|skip
 split at hg
 ·rename_i c hc
  cases hg
  exact op_in_sign pins s σ H x y v u Q I rx ry ⟨c,_,by rw [bx.str,ac' hc],byy.str,q _ Hb H (Gw.refl eb) mX⟩
 ·cases hg
theorem Ww:HD X (compareOp .NotIn) .dat (La true):=by
 intro pins s σ H x y v u Q I rx ry h
 obtain⟨Hb,dx,dy,d,eb,bx,byy,hg,q⟩:=h
 cases dx<;>cases dy<;>simp only [La] at hg<;>first|cases hg;done|skip
 split at hg
 ·rename_i c hc
  cases hg
  exact op_notIn_sign pins s σ H x y v u Q I rx ry ⟨c,_,by rw [bx.str,ac' hc],byy.str,q _ Hb H (Gw.refl eb) mX⟩
 ·cases hg
end
def Kv:D→Bool
 | .none=>true
 | .bool _=>true
 | .int _=>true
 | .str _=>true
 |_=>false
def vOf:D→V
 | .bool b=> .bl b
 | .int i=> .int i
 | .str x=> .str x
 |_=> .non
def Vc(neg:Bool):D→D→ER
 |x, .tuple ds=>if Kv x&&ds.all Kv then .ok (.bool (if neg then !inV (vOf x) (ds.map vOf) else inV (vOf x) (ds.map vOf))) else .bad
 |x, .list ds=>if Kv x&&ds.all Kv then .ok (.bool (if neg then !inV (vOf x) (ds.map vOf) else inV (vOf x) (ds.map vOf))) else .bad
 |_,_=> .bad
theorem Xv(neg:Bool):lJ (Vc neg):=fun x y c h=>by
 cases y<;>simp only [Vc] at h<;>first|cases h;done|(split at h<;>cases h)
theorem afZ{K:aq}{H:Hp}{v:V}{d:D}(h:Kv d=true)(r:Dr K H v d):v=vOf d∧flatV v=true:=by
 cases r<;>simp [Kv] at h<;>exact⟨rfl,rfl⟩
theorem ad4{K:aq}{Hb H:Hp}{v:V}{d:D}(h:Kv d=true)(r:Bo K Hb H v d):v=vOf d∧flatV v=true:=by
 rcases r with r|⟨p,_,o,_,r⟩
 ·exact afZ h r
 ·cases r<;>simp [Kv] at h
theorem RB{K:aq}{H:Hp}:∀{vs:List V} {ds:List D},ds.all Kv=true→ju K H vs ds→vs=ds.map vOf∧vs.all flatV=true
 |_,_,_, .nil=>⟨rfl,rfl⟩
 |_,_,h, .cons a b=>by
  simp only [List.all_cons,cV] at h
  obtain⟨h1,h2⟩:=afZ h.1 a
  obtain⟨h3,h4⟩:=RB h.2 b
  exact⟨by rw [h1,h3];rfl,by simp only [List.all_cons,h2,h4];rfl⟩
section
variable{X:Cx}
theorem YL:HD X (compareOp .In) .dat (Vc false):=by
 intro pins s σ H x y v u Q I rx ry h
 obtain⟨Hb,dx,dy,d,eb,bx,byy,hg,q⟩:=h
 cases dy<;>simp only [Vc] at hg<;>first|cases hg;done|skip
 ·split at hg
  ·rename_i hz
   cases hg
   rw [cV] at hz
   obtain⟨p,xs,e1,s1,a1⟩:=byy.lst eb
   obtain⟨f1,f2⟩:=ad4 hz.1 bx
   obtain⟨f3,f4⟩:=RB hz.2 a1
   refine op_in_seq pins s σ H x y v u Q I rx ry ⟨p,xs,e1, .inl s1,f2,f4,?_⟩
   rw [f1,f3]
   exact q _ Hb H (Gw.refl eb) mX
  ·cases hg
 ·split at hg
  ·rename_i hz
   cases hg
   rw [cV] at hz
   obtain⟨p,xs,e1,s1,a1⟩:=byy.tup eb
   obtain⟨f1,f2⟩:=ad4 hz.1 bx
   obtain⟨f3,f4⟩:=RB hz.2 a1
   refine op_in_seq pins s σ H x y v u Q I rx ry ⟨p,xs,e1, .inr s1,f2,f4,?_⟩
   rw [f1,f3]
   exact q _ Hb H (Gw.refl eb) mX
  ·cases hg
end
def eS0(f:Str→D)(m:EM):EM:=fun ρ=>(m ρ).bind fun d=>match d with
 | .str z=> .ok (f z)
 |_=> .bad
def WY(f:Str→Str→D)(m n:EM):EM:=fun ρ=>(m ρ).bind fun d=>match d with
 | .str z=>(n ρ).bind fun e=>(match e with
   | .str y=> .ok (f z y)
   |_=> .bad)
 |_=> .bad
section
variable{X:Cx}{W:WQ}{o e:Expr}{m n:EM}{apos pos:Pos}
theorem af4{id:String}{name:Str}(f:Str→Bool)(slot:Slot "str" name id)(ty:typeOf (.builtin id)=pure (.type "method_descriptor"))(rule:MtR X id (fun x xs H Q=>∃a,x= .str a∧xs=[]∧True∧Q (.bl (f a)) H))(ho:DE X W .bor o m)
 (hbase:attributeBase o name X.env (eval o X.env)=eval o X.env:=by rfl) (hline:(apos.endLine==pos.line)=true:=by rfl):DE X W .dat (.Call (.Attribute o name apos) [] [] pos) (eS0 (fun z=> .bool (f z)) m):=
 PE.imp (pe_m0 slot ty rule ho hbase hline) fun σ H Q ⟨Hf,Hb,ρ,R,h1,h2,h3⟩=>by
  refine⟨Hf,Hb,ρ,R,fun d hd v Hb1 H1 g1 r1=> ?_,fun c hc=>h2 c (by simp [eS0,hc,ER.bind]),fun z=>h3 (by simp [eS0,z,ER.bind])⟩
  cases d with
  |str z=>
   have e1:=Bo.str r1
   exact⟨⟨z,e1⟩,z,e1,rfl,trivial,h1 (.bool (f z)) (by simp [eS0,hd,ER.bind]) _ Hb1 H1 g1 mX⟩
  |_=>exact absurd (by simp [eS0,hd,ER.bind]) h3
theorem akP{id:String}{name:Str}(f:Str→Str→Bool)(slot:Slot "str" name id)(ty:typeOf (.builtin id)=pure (.type "method_descriptor"))(rule:MtR X id (fun x xs H Q=>∃a b,x= .str a∧xs=[.str b]∧Q (.bl (f a b)) H))(ho:DE X W .bor o m)(he:DE X W .bor e n)
 (hs:starEach [e] X.env=[(false,eval e X.env)]:=by rfl) (hbase:attributeBase o name X.env (eval o X.env)=eval o X.env:=by rfl) (hline:(apos.endLine==pos.line)=true:=by rfl):DE X W .dat (.Call (.Attribute o name apos) [e] [] pos) (WY (fun z y=> .bool (f z y)) m n):=
 PE.imp (pe_m1 slot ty rule ho he hs hbase hline) fun σ H Q ⟨Hf,Hb,ρ,R,h1,h2,h3⟩=>by
  refine⟨Hf,Hb,ρ,R,fun d hd v Hb1 H1 g1 r1=> ?_,fun c hc=>h2 c (by simp [WY,hc,ER.bind]),fun z=>h3 (by simp [WY,z,ER.bind])⟩
  cases d with
  |str z=>
   have e1:=Bo.str r1
   refine⟨⟨z,e1⟩,Hf,Hb1,ρ,R.gw g1,fun d2 hd2 v2 Hb2 H2 g2 r2=> ?_,fun c hc Hb2 H2 g2=>h2 c (by simp [WY,hd,hc,ER.bind]) Hb2 H2 (g1.trans g2),fun z=>h3 (by simp [WY,hd,z,ER.bind])⟩
   cases d2 with
   |str y=>exact⟨z,y,e1,by rw [Bo.str r2],h1 (.bool (f z y)) (by simp [WY,hd,hd2,ER.bind]) _ Hb2 H2 (g1.trans g2) mX⟩
   |_=>exact absurd (by simp [WY,hd,hd2,ER.bind]) h3
  |_=>exact absurd (by simp [WY,hd,ER.bind]) h3
end
end DL
namespace DL
open PySem L2 Evl
def keyOf:D→Option Key
 | .int i=>some (.inl i)
 | .str x=>some (.inr x)
 |_=>none
theorem xT(k:Key):keyOf (keyD k)=some k:=by cases k<;>rfl
def Bf:List (D×D)→Bool
 |(.none,_)::_=>false
 |_=>true
def qH(ds:List (D×D))(k:Key):Option D:=(ds.find? fun q=>decide (keyOf q.1=some k)).map (·.2)
def qM(ds:List (D×D))(k:Key)(v:D):List (D×D):=
 if(ds.any fun q=>decide (keyOf q.1=some k))=true then ds.map (fun q=>if keyOf q.1=some k then(q.1,v) else q) else ds++[(keyD k,v)]
abbrev PK(K:aq)(Hb:Hp):List (Key×V)→List (D×D)→Prop:=Paired (fun(p:Key×V) (q:D×D)=>q.1=keyD p.1∧Dr K Hb p.2 q.2)
section
variable{K:aq}{Hb H:Hp}
theorem Gq{k:Key}:∀{kvs:List (Key×V)} {ds:List (D×D)},PK K Hb kvs ds→(valV kvs k=none∧qH ds k=none)∨∃v d,valV kvs k=some v∧qH ds k=some d∧Dr K Hb v d
 |_,_, .nil=> .inl ⟨rfl,rfl⟩
 |_,_, .cons (a:=p) (b:=q) (l₁:=kvs) (l₂:=ds) h r=>by
  have e:keyOf q.1=some p.1:=by rw [h.1,xT]
  by_cases z:p.1=k
  ·refine .inr ⟨p.2,q.2,valV_pos z,?_,h.2⟩
   have e2:keyOf q.1=some k:=by rw [e,z]
   simp [qH,dU,e2]
  ·have e2:¬keyOf q.1=some k:=by
    rw [e]
    exact fun w=>z (Option.some.inj w)
   have e3:qH (q::ds) k=qH ds k:=by simp [qH,dU,e2]
   rw [valV_neg z,e3]
   exact Gq r
theorem agn{k:Key}:∀{kvs:List (Key×V)} {ds:List (D×D)},PK K Hb kvs ds→(kvs.any fun kv=>decide (kv.1=k))=ds.any fun q=>decide (keyOf q.1=some k)
 |_,_, .nil=>rfl
 |_,_, .cons (a:=p) (b:=q) h r=>by
  have e:keyOf q.1=some p.1:=by rw [h.1,xT]
  rw [dY,dY,agn r,e]
  congr 1
  simp
theorem agZ{k:Key}{v:V}{d:D}(hv:Dr K Hb v d):∀{kvs:List (Key×V)} {ds:List (D×D)},PK K Hb kvs ds→PK K Hb (kvs.map fun kv=>if kv.1=k then(kv.1,v) else kv) (ds.map fun q=>if keyOf q.1=some k then(q.1,d) else q)
 |_,_, .nil=> .nil
 |_,_, .cons (a:=p) (b:=q) h r=>by
  have e:keyOf q.1=some p.1:=by rw [h.1,xT]
  rw [bA,bA]
  refine .cons ?_ (agZ hv r)
  by_cases z:p.1=k
  ·rw [if_pos z,if_pos (by rw [e,z])]
   exact⟨h.1,hv⟩
  ·rw [if_neg z,if_neg (by rw [e];exact fun w=>z (Option.some.inj w))]
   exact h
theorem Iu{α β:Type}{F:α→β→Prop}:∀{l l' :List α} {m m' :List β},Paired F l m→Paired F l' m' →Paired F (l++l') (m++m')
 |_,_,_,_, .nil,h=>h
 |_,_,_,_, .cons a b,h=> .cons a (Iu b h)
theorem abN{k:Key}{v:V}{d:D}(hv:Dr K Hb v d){kvs:List (Key×V)}{ds:List (D×D)}(h:PK K Hb kvs ds):PK K Hb (putK kvs k v) (qM ds k d):=by
 unfold putK qM
 rw [agn h]
 split
 ·exact agZ hv h
 ·exact Iu h (.cons ⟨rfl,hv⟩ .nil)
theorem QF{kvs:List (Key×V)}{ds:List (D×D)}(h:PK K Hb kvs ds):kvs.length=ds.length:=Paired.length h
theorem Bo.key{v:V}{d:D}{k:Key}(h:Bo K Hb H v d)(e:keyOf d=some k):v=kV k:=by
 cases d with
 |int i=>
  cases e
  exact h.int
 |str x=>
  cases e
  exact h.str
 |_=>cases e
theorem Qg{K:aq}{Hb:Hp}:∀{ds:List (D×D)} {kvs:List (Key×V)},Vo K Hb kvs ds→PK K Hb kvs ds
 |_,_, .nil=> .nil
 |_,_, .cons a b=> .cons ⟨rfl,a⟩ (Qg b)
theorem adi{K:aq}{Hb:Hp}:∀{kvs:List (Key×V)} {ds:List (D×D)},PK K Hb kvs ds→Vo K Hb kvs ds
 |_,_, .nil=> .nil
 |_,_, .cons (a:=(k,v)) (b:=(x,y)) h r=>by
  obtain⟨h1,h2⟩:=h
  have h1:x=keyD k:=h1
  subst h1
  exact .cons h2 (adi r)
theorem Bo.dict{v:V}{ds:List (D×D)}(e:Ex Hb H)(h:Bo K Hb H v (.dict ds))(hm:Bf ds=true):∃p kvs,v= .ref p∧Rd H p (.dK kvs)∧PK K Hb kvs ds:=by
 rcases h with h|⟨p,rfl,o,h2,h3⟩
 ·cases h with
  |dict0 a=>exact⟨_,[],rfl,ex_rd e a, .nil⟩
  |DY a b=>exact⟨_,_,rfl, .inr ⟨_,e _ _ a⟩,Qg b⟩
  |JF a b=>cases hm
 ·cases h3 with
  |dK a=>exact⟨p,_,rfl,h2.rd,a⟩
  |dT a=>cases hm
end
def jE:D→D→ER
 | .dict ds,k=>if Bf ds=true then(match keyOf k with
   |some k=>(match qH ds k with
    |some v=> .ok v
    |none=> .bad)
   |none=> .bad) else .bad
 |_,_=> .bad
def xV(neg:Bool):D→D→ER
 |k, .dict ds=>if Bf ds=true then(match keyOf k with
  |some k=> .ok (.bool ((qH ds k).isSome !=neg))
  |none=> .bad) else .bad
 |_,_=> .bad
theorem ahV:lJ jE:=fun x y c h=>by
 cases x<;>simp only [jE] at h<;>(repeat' split at h)<;>cases h
theorem afD(b:Bool):lJ (xV b):=fun x y c h=>by
 cases y<;>simp only [xV] at h<;>(repeat' split at h)<;>cases h
section
variable{X:Cx}{W:WQ}{a b o e f:Expr}{ma mb mc:EM}{pos apos cpos:Pos}
theorem Np{K:aq}{Hb:Hp}{k:Key}{kvs:List (Key×V)}{ds:List (D×D)}(h:PK K Hb kvs ds):(valV kvs k).isSome=(qH ds k).isSome:=by
 rcases Gq (k:=k) h with⟨h1,h2⟩|⟨v,d,h1,h2,_⟩<;>rw [h1,h2]<;>rfl
theorem aj9(hu:X.A.units+64<cLine):HD X (compareOp .In) .dat (xV false):=by
 intro pins s σ H x y v u Q I rx ry h
 obtain⟨Hb,dx,dy,d,eb,bx,byy,hg,q⟩:=h
 cases dy with
 |dict ds=>
  have hm:Bf ds=true:=by
   cases qm:Bf ds with
   |true=>rfl
   |false=>simp [xV,qm] at hg
  simp only [xV,hm,if_true] at hg
  split at hg
  ·rename_i k hk
   cases hg
   obtain⟨p,kvs,rfl,hd,pk⟩:=byy.dict eb hm
   rw [bx.key hk] at rx
   cases(show u=Value.ref p from ry)
   refine d_in (o:=valV kvs k) (by omega) I (.inl ⟨kvs,k,hd,rfl,rfl⟩) rx fun s' I' => ?_
   rw [Np pk]
   exact⟨.bl (qH ds k).isSome,H,I',rfl,by
    have:=q (.bl (qH ds k).isSome) Hb H (Gw.refl eb)
    rw [Bool.bne_false] at this
    exact this mX⟩
  ·cases hg
 |_=>cases dx<;>simp [xV] at hg
theorem aep(hu:X.A.units+64<cLine):HD X (compareOp .NotIn) .dat (xV true):=by
 intro pins s σ H x y v u Q I rx ry h
 obtain⟨Hb,dx,dy,d,eb,bx,byy,hg,q⟩:=h
 cases dy with
 |dict ds=>
  have hm:Bf ds=true:=by
   cases qm:Bf ds with
   |true=>rfl
   |false=>simp [xV,qm] at hg
  simp only [xV,hm,if_true] at hg
  split at hg
  ·rename_i k hk
   cases hg
   obtain⟨p,kvs,rfl,hd,pk⟩:=byy.dict eb hm
   rw [bx.key hk] at rx
   cases(show u=Value.ref p from ry)
   refine d_notIn (o:=valV kvs k) (by omega) I (.inl ⟨kvs,k,hd,rfl,rfl⟩) rx fun s' I' => ?_
   rw [Np pk]
   exact⟨.bl (!(qH ds k).isSome),H,I',rfl,by
    have:=q (.bl (!(qH ds k).isSome)) Hb H (Gw.refl eb)
    rw [Bool.bne_true] at this
    exact this mX⟩
  ·cases hg
 |_=>cases dx<;>simp [xV] at hg
theorem mD(hu:X.A.units+64<cLine)(ha:DE X W .bor a ma)(hb:DE X W .bor b mb)(hs:NoSl b:=by exact fun _ _=>rfl):DE X W .dat (.Subscript a b pos) (eO jE ma mb):=PE.imp (pe_dget (by omega) ha hb hs) fun σ H Q ⟨Hf,Hb,ρ,R,h1,h2,h3⟩=>by
 refine⟨Hf,Hb,ρ,R,fun d hd v Hb1 H1 g1 r1=> ?_,fun c hc Hb1 H1 g1=>h2 c (by simp [eO,hc,ER.bind]) Hb1 H1 g1,fun z=>h3 (by simp [eO,z,ER.bind])⟩
 refine⟨Hf,Hb1,ρ,R.gw g1,fun d2 hd2 v2 Hb2 H2 g2 r2=> ?_,fun c hc Hb2 H2 g2=>h2 c (by simp [eO,hd,hc,ER.bind]) Hb2 H2 (g1.trans g2),fun z=>h3 (by simp [eO,hd,z,ER.bind])⟩
 have e:eO jE ma mb ρ=jE d d2:=by simp [eO,hd,hd2,ER.bind]
 rw [e] at h1 h3
 cases d with
 |dict ds=>
  have hm:Bf ds=true:=by
   cases qm:Bf ds with
   |true=>rfl
   |false=>exact absurd (by simp [jE,qm]) h3
  cases hk:keyOf d2 with
  |none=>exact absurd (by simp only [jE,hm,if_true,hk]) h3
  |some k=>
   obtain⟨p,kvs,rfl,hd,pk⟩:=Bo.dict g2.bh (Bo.ex g2.b g2.h r1) hm
   rcases Gq (k:=k) pk with⟨z1,z2⟩|⟨v,d,z1,z2,z3⟩
   ·exact absurd (by simp only [jE,hm,if_true,hk,z2]) h3
   ·exact⟨p,v,rfl, .inl ⟨kvs,k,hd,r2.key hk,z1.symm⟩,h1 d (by simp only [jE,hm,if_true,hk,z2]) v Hb2 H2 (g1.trans g2) z3⟩
 |_=>exact absurd rfl h3
def TQ:D→D→ER
 | .dict ds,k=>if Bf ds=true then(match keyOf k with
   |some k=> .ok ((qH ds k).getD .none)
   |none=> .bad) else .bad
 |_,_=> .bad
theorem agQ{H:Hp}{p:Addr}{kvs:List (Key×V)}(h:Rd H p (.dK kvs)):IsD H p:= .inl ⟨kvs,h⟩
theorem Ar:DE X W .new (.Dict [] [] pos) (eC (.dict [])):=PE.imp pe_dnewK fun σ H Q ⟨Hf,Hb,ρ,R,h1,h2,h3⟩=>fun p hp=>
 h1 (.dict []) rfl _ _ _ (Gw.new R.eb hp) ⟨p,rfl,hp,fresh_back R.eb hp,_,upd_same, .dK .nil⟩
def eD1(mk mv:EM):EM:=fun ρ=>(mk ρ).bind fun k=>(mv ρ).bind fun v=>(match keyOf k with
 |some _=> .ok (.dict [(k,v)])
 |none=> .bad)
theorem ajT{k v:Expr}{mk mv:EM}(hk:DE X W .bor k mk)(hv:DE X W .dat v mv):DE X W .new (.Dict [some k] [v] pos) (eD1 mk mv):=
 PE.imp (pe_disp (pps_cons hk hv pps_nil) rfl rfl (by simp) (by simp)) fun σ H Q ⟨Hf,Hb,ρ,R,h1,h2,h3⟩=>by
 intro p hp
 have g0:=Gw.new (o:= .dK []) R.eb hp
 have hb0:Hb p=none:=fresh_back R.eb hp
 refine⟨Hf,Hb,ρ,R.gw g0,fun d hd x Hb1 H1 g1 r1=> ?_,fun c hc Hb1 H1 g1=>h2 c (by simp [eD1,hc,ER.bind]) Hb1 H1 (g0.trans g1),fun z=>h3 (by simp [eD1,z,ER.bind])⟩
 refine⟨Hf,Hb1,ρ,R.gw (g0.trans g1),fun d2 hd2 y Hb2 H2 g2 r2=> ?_,fun c hc Hb2 H2 g2=>h2 c (by simp [eD1,hd,hc,ER.bind]) Hb2 H2 ((g0.trans g1).trans g2),fun z=>h3 (by simp [eD1,hd,z,ER.bind])⟩
 cases hk:keyOf d with
 |none=>exact absurd (by simp [eD1,hd,hd2,hk,ER.bind]) h3
 |some k=>
  have gg:=(g0.trans g1).trans g2
  have hp2:H2 p=some (.dK []):=(g1.trans g2).h _ _ upd_same
  have hb2:Hb2 p=none:=(g1.trans g2).nw p hb0 (by rw [upd_same];exact True.intro)
  refine⟨hp2,[(k,y)],by rw [bA,cZ,r1.key hk],by simp,?_⟩
  have kd:d=keyD k:=by
   cases d with
   |int i=>cases hk;rfl
   |str i=>cases hk;rfl
   |_=>cases hk
  refine h1 (.dict [(d,d2)]) (by simp [eD1,hd,hd2,hk,ER.bind]) _ Hb2 _ ⟨fun a u q=>by rw [upd_ne (ne_of_none q hp)];exact gg.h a u q,gg.b,fun a u q=>by rw [upd_ne (ne_of_none q hb2)];exact gg.bh a u q,gg.nw⟩ ⟨p,rfl,hp,hb2,_,upd_same, .dK ?_⟩
  exact .cons ⟨kd,r2⟩ .nil
def oE(i:Nat)(mk mv:EM):SM:=fun ρ=>match mv ρ with
 | .ok d=>(match ρ[i]? with
   |some (.own (.dict ds))=>if Bf ds=true then(match mk ρ with
    | .ok k=>(match keyOf k with
      |some k=>if ds.length<sizeLine then .nx (ρ.set i (.own (.dict (qM ds k d)))) else .bad
      |none=> .bad)
    | .ex c=> .ex c ρ
    | .bad=> .bad) else .bad
   |_=> .bad)
 | .ex c=> .ex c ρ
 | .bad=> .bad
theorem qU{rk:Kd}(i:Nat){x:Str}{k v:Expr}{mk mv:EM}{p pos' :Pos}(hu:X.A.units+64<cLine)(hk:DE X W .bor k mk)(hv:DE X W .dat v mv)(hN:X.N[i]? =some x:=by rfl)(hvis:Vis X.env.scope x:=by first|exact Or.inl rfl|exact Or.inr (Or.inl rfl)|exact Or.inr (Or.inr rfl))(hd:(x==("__debug__":Str))=false:=by decide)
 (hcd:(x==("__classdict__":Str))=false:=by decide) (hs:swapsWith v (some (.Subscript (.Name x p) k pos')) pos.line X.env=pure false:=by rfl):DS X W rk (.Assign [.Subscript (.Name x p) k pos'] v pos) (oE i mk mv):=
 PS.imp (ps_dput (by omega) (pe_var hN hvis hd hcd) hk hv hs) fun E σ H ⟨Hf,Hb,ρ,R,h⟩=>by
 unfold oE at h
 refine⟨Hf,Hb,ρ,R,fun d hd v Hb1 H1 g1 r1=> ?_,fun c hc Hb1 H1 g1=> ?_,fun z=> ?_⟩
 ·rw [hd] at h
  simp only at h
  split at h
  ·rename_i ds q
   have hm:Bf ds=true:=by
    cases qm:Bf ds with
    |true=>rfl
    |false=>simp [qm,lO] at h
   simp only [hm,if_true] at h
   have R1:=R.gw g1
   obtain⟨p,h1,⟨o,ho,hc⟩,h3,h4⟩:=R1.own i _ q
   cases hc with
   |dT al=>cases hm
   |dK al=>
    refine⟨_,h1,Hf,Hb1,ρ,R1,fun d2 hd2 y Hb2 H2 g2 r2=> ?_,fun c hc Hb2 H2 g2=> ?_,fun z=> ?_⟩
    ·rw [hd2] at h
     simp only at h
     split at h
     ·rename_i kk hkk
      split at h
      ·rename_i hz
       have ho' :=g2.h _ _ ho
       have R2:=R1.gw g2
       have hb2:Hb2 p=none:=g2.nw p h4 (by rw [ho];exact True.intro)
       have al2:PK X.K Hb2 _ ds:=Paired.imp (fun _ _ q=>⟨q.1,mY g2.b q.2⟩) al
       refine⟨p,_,rfl, .inl ⟨_,kk,ho',r2.key hkk,by rw [QF al];exact hz,rfl⟩,?_⟩
       exact h σ Hb2 _ (R2.write q h1 (.dK (abN (mY g2.b r1) al2))) (((g1.trans g2).bw R.ef).trans (Bw.upd g2.bh hb2))
      ·exact h.elim
     ·exact h.elim
    ·rw [hc] at h
     exact h σ Hb2 H2 (R.gw (g1.trans g2)) ((g1.trans g2).bw R.ef)
    ·rw [z] at h
     exact h.elim
  ·exact h.elim
 ·rw [hc] at h
  exact h σ Hb1 H1 (R.gw g1) (g1.bw R.ef)
 ·rw [z] at h
  exact h.elim
end
end DL
set_option maxHeartbeats 2000000
namespace DL
open PySem L2 Evl PyProof.Rows
def ako(td:TE):TE:=fun σ H Q=>td σ H fun x H1=>∃(a:Addr) (kvs:List (Key×V)) (ks:List Int),x= .ref a∧Rd H1 a (.dK kvs)∧kvs.map (·.1)=ks.map Sum.inl∧
 ∀(ys:List Int) (p:Addr),ys.Perm ks→ys.Pairwise (·≤·)→H1 p=none→Q (.ref p) (upd H1 p (.lst (ys.map V.int)))
theorem abo{X:Cx}{e:Expr}{td:TE}{p pos apos cpos:Pos}(hc:X.calm=true)(hg:Gl X "sorted")(hm:X.mg "sorted"=none)(he:PE X e td)(hbase:attributeBase e "keys" X.env (eval e X.env)=eval e X.env:=by rfl)
 (hline:(apos.endLine==cpos.line)=true:=by rfl) (na:starEach [.Call (.Attribute e "keys" apos) [] [] cpos] X.env=(false,eval (.Call (.Attribute e "keys" apos) [] [] cpos) X.env)::starEach [] X.env:=by rfl)
 (hpl:(backTo pos (starEach [] X.env)).any (·.1)=false:=by rfl):
 PE X (.Call (.Name "sorted" p) [.Call (.Attribute e "keys" apos) [] [] cpos] [] pos) (ako td):=by
 refine⟨fun pins s σ H Q I h=> ?_⟩
 refine Call_ (ld_blt I hg hm (show bootBuiltins "sorted"=some (.builtin "sorted") by decide+kernel) (PyProof.Rows.callWith_builtin1 (args_cons ?_ na) na hpl))
 refine wpAny_Call_method (T:="dict") (id:="dict.keys") hbase rfl hline F.plainAttrs_dict F.slot_dict_keys F.type_dict_keys (thn (he.run pins s σ H _ I h) fun u s1 ⟨x,H1,I1,rx,d,kvs,ks,ex,hd,hks,q⟩=> ?_)
 subst ex
 obtain rfl:u=Value.ref d:=rx
 obtain⟨z,lo,vs,rel,dd⟩:=dk_rd I1.hok hd
 refine⟨dd.typeIs,dd.mapOf.noDict,?_⟩
 show wpAny _ _ (callWith cpos (.builtin "dict.keys") [.ref d] [] []) _ X.xe s1
 refine method_meetsIn F.slot_dict_keys F.entry_dict_keys rfl (PySem.evalArgs_none ⟨rfl,dd.typeIs,F.args_dict_keys_1 _,_,PySem.W.kdl_meets_keys (mixKind X.prog X.w) d lo,⟨vs,dd⟩,args_nil ?_⟩)
 have I2:Inv X pins σ H1 {s1 with heap:=s1.heap.push {cls:= .type "dict_keys",data:= .fields #[.ref d]}}:=I1.kept (t' :=s1.toks) fun b ob q=>Heap.get?_push_of_some _ q
 have hv:PySem.W.KdlKeysView (s1.heap.push {cls:= .type "dict_keys",data:= .fields #[.ref d]}) s1.heap.objs.size d:=⟨_,Heap.get?_push_size _ rfl,rfl,rfl⟩
 obtain⟨z2,lo2,vs2,rel2,dd2⟩:=dk_rd I2.hok hd
 obtain⟨ep,hat⟩:=dd2.dictAt
 have hkeys:vs2.map (·.1)=ks.map Sum.inl:=rel2.keys.symm.trans hks
 have hl:vs2.length=ks.length:=by
  have e:=congrArg List.length hkeys
  rw [aC,aC] at e
  exact e
 have hl2:kvs.length=vs2.length:=rel2.length
 have h16:vs2.length≤sizeLine:=by rw [←hl2];exact z2
 refine Calls.call_function_entry PyProof.Rows.kind_sorted PyProof.Rows.plain_sorted PyProof.Rows.entry_sorted (PyProof.Rows.args_sorted1 _) ?_
 unfold Builtin.«sorted»
 refine wpAny_bind (m:=checkCount "sorted" 1 1 _) (wpAny_pure ?_)
 refine wpAny_bind (PySem.W.kdu_collect (A:=X.A.in1) (PySem.W.kdl_keys (knd:=mixKind X.prog X.w) (kvs:=vs2) (ep:=ep) (r:=s1.heap.objs.size) (d:=d)) (I2.ok.hd hc) ⟨hv,hat⟩ h16 fun h' tk acc hk hacc=> ?_)
 have hal:acc.toList.length=ks.length:=by rw [Array.length_toList,hacc.1,hl]
 have hS:IntsAre acc.toList ks:=ints_each hal fun j v e=>by
  obtain⟨k,x,e1,e2⟩:=hacc.2 j v (by rw [←Array.getElem?_toList];exact e)
  have e3:(vs2.map (·.1))[j]? =some k:=by rw [aK,e1];rfl
  rw [hkeys,aK] at e3
  cases e4:ks[j]? with
  |none=>rw [e4] at e3;cases e3
  |some y=>
   rw [e4] at e3
   have e5:Sum.inl y=k:=Option.some.inj e3
   subst e5
   rcases keyIs_shape (show keyIs (Sum.inl y) v=true from e2) with⟨i,t,ek,ev⟩|⟨z,t,ek,ev⟩
   ·cases ek
    exact⟨y,t,rfl,ev⟩
   ·cases ek
 have I3:Inv X pins σ H1 {s1 with heap:=h',toks:=tk}:=I2.kept (t' :=tk) hk
 have hz:acc.toList.length≤sizeLine:=by rw [hal,←hl];exact h16
 refine wpAny_bind (wpAny_newList ?_ hz)
 have hoL:(h'.push (seqObj "list" acc.toList.toArray 0)).get? h'.objs.size=some (seqObj "list" acc.toList.toArray 0):=Heap.get?_push_size _ rfl
 show wpAny _ _ _ _ _ {s1 with heap:=h'.push (seqObj "list" acc.toList.toArray 0),toks:=tk}
 refine wpAny_bind (wpAny_holding (wpAny_call_entry PyProof.Rows.slot_list_sort ⟨_,hoL,rfl⟩ PyProof.Rows.entry_list_sort
  (SrtO.list_sort_ord (s:={s1 with heap:=h'.push (seqObj "list" acc.toList.toArray 0),toks:=tk}) SrtO.swo_int hoL hz (fun h2=>SrtO.ints_sortable hS h2) fun out h1 h2=>⟨_,rfl,?_⟩) (PyProof.Rows.args_list_sort _)))
 obtain⟨k1,k2,k3⟩:=SrtO.ints_out hS h1 h2
 obtain⟨e',he'⟩:=PyProof.Rows.sortedHeap_at (vs:=acc.toList) (out:=out.toArray) hoL
 have hlen:((out.map SrtO.iv).map V.int).length≤sizeLine:=by
  rw [aC,k2.length_eq,←hal]
  exact hz
 refine wpAny_pure ⟨_,rfl, .ref h'.objs.size,upd H1 h'.objs.size (.lst ((out.map SrtO.iv).map V.int)),I3.laid (t' :=tk) (fun b u e=> ?_) (bJ _)
  (show ObjOk X.prog X.w _ _ _ (.lst ((out.map SrtO.iv).map V.int)) from⟨hlen,out,e',vals_of_ints k1,he'⟩),rfl,q _ _ k2 k3 (I3.hok.fresh (bJ _))⟩
 have hb:b<h'.objs.size:=Heap.lt_size e
 rw [PyProof.Rows.sortedHeap_old (Nat.ne_of_lt hb) (by rw [size_push'];exact Nat.lt_succ_of_lt hb)]
 exact Heap.get?_push_of_some _ e
theorem Eh:∀{l m:List Int},l.Perm m→l.Pairwise (·≤·)→m.Pairwise (·≤·)→l=m
 |[],m,h,_,_=>(List.Perm.nil_eq h)
 |a::l,[],h,_,_=>by have:=h.length_eq;simp at this
 |a::l,b::m,h,h1,h2=>by
  obtain⟨p1,q1⟩:=dB.mp h1
  obtain⟨p2,q2⟩:=dB.mp h2
  have ab:a=b:=by
   have ha:a∈b::m:=h.mem_iff.mp aX
   have hb:b∈a::l:=h.mem_iff.mpr aX
   have x1:b≤a:=by
    rcases aH.mp ha with e|e
    ·omega
    ·exact p2 a e
   have x2:a≤b:=by
    rcases aH.mp hb with e|e
    ·omega
    ·exact p1 b e
   omega
  subst ab
  rw [Eh (List.Perm.cons_inv h) q1 q2]
def srt(ks:List Int):List Int:=ks.mergeSort (fun a b=>decide (a≤b))
theorem Z7(ks:List Int):(srt ks).Perm ks:=List.mergeSort_perm ks _
theorem UW(ks:List Int):(srt ks).Pairwise (·≤·):=by
 have h:=List.pairwise_mergeSort (le:=fun(a b:Int)=>decide (a≤b)) (fun a b c h1 h2=>by simp at*;omega) (fun a b=>by simp;omega) ks
 exact h.imp fun h=>by simpa using h
theorem ak1{ys ks:List Int}(h:ys.Perm ks)(hs:ys.Pairwise (·≤·)):ys=srt ks:=Eh (h.trans (Z7 ks).symm) hs (UW ks)
def intKeys:List (D×D)→Option (List Int)
 |[]=>some []
 |(.int i,_)::r=>(intKeys r).map (i::·)
 |_::_=>none
def Fy:D→ER
 | .dict ds=>(match intKeys ds with
   |some ks=> .ok (.list ((srt ks).map aF))
   |none=> .bad)
 |_=> .bad
theorem ad6{K:aq}{Hb:Hp}:∀{kvs:List (Key×V)} {ds:List (D×D)} {ks:List Int},PK K Hb kvs ds→intKeys ds=some ks→kvs.map (·.1)=ks.map Sum.inl
 |_,_,_, .nil,h=>by
  cases h
  rfl
 |_,_,_, .cons (a:=p) (b:=q) (l₂:=ds) h r,hk=>by
  obtain⟨qk,qv⟩:=q
  obtain⟨pk,pv⟩:=p
  cases qk with
  |int i=>
   simp only [intKeys,aP] at hk
   obtain⟨ks,hk1,rfl⟩:=hk
   have e:pk= .inl i:=by
    have:=h.1
    cases pk with
    |inl j=>
     have e2:aF i=aF j:=this
     cases e2
     rfl
    |inr x=>
     have e2:aF i=aV x:=this
     cases e2
   rw [bA,bA,ad6 r hk1,e]
  |_=>cases hk
theorem Ov{K:aq}{H:Hp}:∀ns:List Int,ju K H (ns.map V.int) (ns.map aF)
 |[]=> .nil
 |n::r=> .cons (.int n) (Ov r)
section
variable{X:Cx}{W:WQ}{e:Expr}{m:EM}{p pos apos cpos:Pos}
theorem agK(hm:X.mg "sorted"=none)(h:DE X W .bor e m)(hc:X.calm=true:=by rfl)(hg:Gl X "sorted":=by rfl)(hbase:attributeBase e "keys" X.env (eval e X.env)=eval e X.env:=by rfl)
 (hline:(apos.endLine==cpos.line)=true:=by rfl) (na:starEach [.Call (.Attribute e "keys" apos) [] [] cpos] X.env=(false,eval (.Call (.Attribute e "keys" apos) [] [] cpos) X.env)::starEach [] X.env:=by rfl)
 (hpl:(backTo pos (starEach [] X.env)).any (·.1)=false:=by rfl):DE X W .new (.Call (.Name "sorted" p) [.Call (.Attribute e "keys" apos) [] [] cpos] [] pos) (G7 Fy m):=
 PE.imp (abo hc hg hm h hbase hline na hpl) fun σ H Q ⟨Hf,Hb,ρ,R,h1,h2,h3⟩=>by
  refine⟨Hf,Hb,ρ,R,fun d hd v Hb1 H1 g1 r1=> ?_,fun c hc Hb1 H1 g1=>h2 c (by simp [G7,hc,ER.bind]) Hb1 H1 g1,fun z=>h3 (by simp [G7,z,ER.bind])⟩
  cases d with
  |dict ds=>
   cases hk:intKeys ds with
   |none=>exact absurd (by simp [G7,hd,ER.bind,Fy,hk]) h3
   |some ks=>
    have hm:Bf ds=true:=by
     cases ds with
     |nil=>rfl
     |cons q ds=>
      obtain⟨k,v⟩:=q
      cases k<;>first|rfl|simp [intKeys] at hk
    obtain⟨a,kvs,rfl,hd1,pk⟩:=Bo.dict g1.bh r1 hm
    refine⟨a,kvs,ks,rfl,hd1,ad6 pk hk,fun ys q py sy hq=> ?_⟩
    have z:=Gw.ab6 (K:=X.K) (xs:=(srt ks).map V.int) g1.bh hq (Ov (srt ks))
    rw [ak1 py sy]
    exact h1 (.list ((srt ks).map aF)) (by simp [G7,hd,ER.bind,Fy,hk]) _ _ _ (g1.trans z.1) (z.2.back g1.h)
  |_=>exact absurd (by simp [G7,hd,ER.bind,Fy]) h3
end
end DL
set_option maxHeartbeats 2000000
namespace DL
open PySem L2 Evl
theorem gJ.lock{K:aq}{pn:Pn}{Hf Hb H:Hp}{σ:L2.St}{ρ:Env}{i:Nat}{d:D}{p:Addr}{o:HO}(R:gJ K pn Hf Hb H σ ρ)(hi:ρ[i]? =some (.own d))(hv:σ[i]? =some (some (.ref p))):gJ K pn Hf Hb (upd H p o) σ (ρ.set i .un):=by
 obtain⟨F,r⟩:=R
 obtain⟨q,h1,h2,h3⟩:=r.sl i _ hi
 rw [hv] at h2
 cases h2
 obtain⟨f1,f2,f3⟩:=r.fr i p (by rw [h1];simp)
 exact⟨_,r.step (fp:=[]) (fun a o e=>by rw [upd_ne (ne_of_none e f1)];exact r.ef a o e) (fun a o e=>by rw [upd_ne (ne_of_none e f2)];exact r.eb a o e) (Ex.refl _) rfl (fun j z=>rfl) (fun a ha _ k2 _=>⟨upd_ne (fun z=>ha (by rw [h1,z];simp)),k2⟩) (fun _=>rfl) cR (fun a ha=>by cases ha) (fun j a _ ha=>by cases ha) (fun a q=>r.pin i a q)⟩
theorem akR{K:aq}{H:Hp}(k:Key):Dr K H (kV k) (keyD k):=by
 cases k with
 |inl i=>exact .int i
 |inr x=>exact .str x
section
variable{X:Cx}{W:WQ}{elt tg:Expr}{ifs:List Expr}{scope:Scope}{own:List (Str×Nat)}{pos:Pos}{T:TG}{g:GM}{mt me:EM}{x:Str}{p:Pos}
end
end DL
namespace DL
open PySem L2 Evl
structure mJ(fa:List He.Fa)(fn:List He.DefD)(K:aq)(mg:Str→Option Value):Prop where
 says:He.SaysD fa fn K
 at_:∃h:Heap,K.In h∧h.Ns mainGlobals mg
section
variable{fa:List He.Fa}{fn:List He.DefD}{K:aq}{mg:Str→Option Value}
theorem mJ.free(Z:mJ fa fn K mg)(i:Nat){x:Str}(h:fa[i]? =some (.free x):=by rfl):mg x=none:=by
 obtain⟨hp,X,G⟩:=Z.at_
 exact He.free_ok X G (Z.says.fact i h)
theorem mJ.glo(Z:mJ fa fn K mg)(i:Nat){x:Str}(h:fa[i]? =some (.glo x):=by rfl):mg x=some (.ref (He.ga K x)):=by
 obtain⟨hp,X,G⟩:=Z.at_
 exact He.glo_ok X G (Z.says.fact i h)
theorem mJ.int(Z:mJ fa fn K mg)(i:Nat){x:Str}{n:Int}(h:fa[i]? =some (.int x n):=by rfl):∃t,mg x=some (.int n t):=by
 obtain⟨hp,X,G⟩:=Z.at_
 exact He.int_ok X G (Z.says.fact i h)
theorem mJ.str(Z:mJ fa fn K mg)(i:Nat){x z:Str}(h:fa[i]? =some (.str x z):=by rfl):∃t,mg x=some (.str z t):=by
 obtain⟨hp,X,G⟩:=Z.at_
 exact He.str_ok X G (Z.says.fact i h)
theorem mJ.exc(Z:mJ fa fn K mg)(i:Nat){x:Str}(h:fa[i]? =some (.exc x):=by rfl):PySem.W.excIn K (He.ga K x) He.veBase "ValueError.__new__"=true∧PySem.W.keepIn K (.ref (He.ga K x))=true∧PySem.W.subIn K (.ref (He.ga K x)) (.type "BaseException")=some true∧
 PySem.W.typeIn K (.ref (He.ga K x))=some (.type "type"):=He.exc_ok (Z.says.fact i h)
theorem mJ.exm(Z:mJ fa fn K mg)(i:Nat){x y:Str}{b:Bool}(h:fa[i]? =some (.exm x y b):=by rfl):PySem.W.exmOne K (.ref (He.ga K x)) (.ref (He.ga K y))=some b:=He.exm_ok (Z.says.fact i h)
end
structure Has(P:Program)(w:World)(K:aq)(mg:Str→Option Value)(base:Heap)(x:Str)(k:Nat)(ps:List Str)(sp:Sp):Prop where
 ex:∃fd,FnOk P w K mg base (L2.CX P w) k (He.ga K x) fd ps sp∧Binds K fd ps []∧∃oc od osl,K.lookup (He.ga K x)=some ⟨oc,od, .func fd,osl⟩
 kp:PySem.W.keepIn K (.ref (He.ga K x))=true
 gl:mg x=some (.ref (He.ga K x))
section
variable{X:Cx}{W:WQ}{rk:Kd}{ks:List Kd}{x:Str}{p pos:Pos}{e:Expr}{es:List Expr}{ms:List EM}{g:List D→ER}{k j:Nat}{ps:List Str}
theorem gj(h:Has X.prog X.w X.K X.mg X.base x k ps (oZ X.K ks rk g))(hr:Room j X.A)(tk:Takes X W.w)(ha:DA X W ks (e::es) ms)(hj:k≤j:=by decide)(hg:Gl X x:=by rfl)(hdb:(x==("__debug__":Str))=false:=by decide)
 (he:starEach (e::es) X.env=(false,eval e X.env)::starEach es X.env:=by rfl) (hpl:(backTo pos (starEach es X.env)).any (·.1)=false:=by rfl):DE X W rk (.Call (.Name x p) (e::es) [] pos) (fu g ms):=by
 obtain⟨fd,F,B,_⟩:=h.ex
 exact aiR F (hr.mono hj) h.gl h.kp B tk ha hg hdb he hpl
end
section
variable{P:Program}{w:World}{K:aq}{mg:Str→Option Value}{base:Heap}{fa:List He.Fa}{fn:List He.DefD}
theorem gQ{x:Str}{d:He.DefD}(Z:mJ fa fn K mg)(i j:Nat){N ps:List Str}{k n:Nat}{ks:List Kd}{rk:Kd}{m:SM}(hd:fn[i]? =some d)(hx:d.at_=(x,none))(hdf:d.dfl=[])(hkw:d.kwd=[])(hg:fa[j]? =some (.glo x))(S:FnScope N ps d.scope)(hps:ps.length=ks.length)(hn:N.length=ks.length+n)(hrk:rk= .dat∨∀ρ ρ',m ρ≠ .nx ρ')
 (hb:∀(kV doc pm:Value) (an:Option Addr) (cdv ct:Value) (us:List Value),us.length=ps.length→bindArgs (PySem.W.fnOf d.name d.qual d.params d.body d.scope .none kV doc pm an cdv ct) ⟨us,[]⟩=pure (ps.zip us))
 (hbody:∀(f:Addr) (cdv:Value) (A:Around) (outer:List PySem.Env) (s:Shared) (H:Hp) (E:XK),Room k (cxOf (L2.CX P w) P w K mg base N d.qual d.scope f cdv A outer s H E).A→Takes (cxOf (L2.CX P w) P w K mg base N d.qual d.scope f cdv A outer s H E) (fun cls d _ H=>E cls d H)→
   PassesOwn (model (cxOf (L2.CX P w) P w K mg base N d.qual d.scope f cdv A outer s H E).prog (cxOf (L2.CX P w) P w K mg base N d.qual d.scope f cdv A outer s H E).w) (cxOf (L2.CX P w) P w K mg base N d.qual d.scope f cdv A outer s H E).A (cxOf (L2.CX P w) P w K mg base N d.qual d.scope f cdv A outer s H E).env (cxOf (L2.CX P w) P w K mg base N d.qual d.scope f cdv A outer s H E).xe→
   Wg (cxOf (L2.CX P w) P w K mg base N d.qual d.scope f cdv A outer s H E) ⟨fun cls d _ H=>E cls d H,[]⟩ rk d.body m):
 Has P w K mg base x (k+1) ps (oZ K ks rk (jh ks n m)):=by
 obtain⟨fd,F⟩:=Z.says.def_ i hd
 have ea:He.fAd K d.at_=He.ga K x:=by rw [hx];rfl
 rw [ea] at F
 have kp:=F.kp
 have e1:d.dvs K=[]:=by
  unfold He.DefD.dvs
  rw [hdf]
  rfl
 rw [e1] at F
 refine⟨⟨fd,fn_ok F S hps hn hrk (fun cdv A outer s H E hr=>hbody _ cdv A outer s H E hr (takes_of rfl rfl rfl rfl) PassesOwn.leaving),F.bindsN hb,?_⟩,kp,Z.glo j hg⟩
 obtain⟨oc,od,_,_,_,_,_,_,_,osl,_,l,_⟩:=F.ex
 exact⟨oc,od,osl,l⟩
theorem ak6{x:Str}{d:He.DefD}(Z:mJ fa fn K mg)(i:Nat){p:Str}{k:Nat}{sp:Sp}(hd:fn[i]? =some d)(hx:d.at_=(x,none))(hdf:d.dfl=[])(hh:∀base:Heap,Has P w K mg base x k [p] sp)
 (hb:∀(kV doc pm:Value) (an:Option Addr) (cdv ct:Value) (us:List Value),us.length=[p].length→bindArgs (PySem.W.fnOf d.name d.qual d.params d.body d.scope .none kV doc pm an cdv ct) ⟨us,[]⟩=pure ([p].zip us)):
 ∃fd:FuncData,(∀(s:Shared) (v:Value),BindsTo s fd ⟨[v],[]⟩ [(p,v)])∧∀base:Heap,FnOk P w K mg base (L2.CX P w) k (He.ga K x) fd [p] sp:=by
 obtain⟨fd,F⟩:=Z.says.def_ i hd
 have ea:He.fAd K d.at_=He.ga K x:=by rw [hx];rfl
 rw [ea] at F
 have e1:d.dvs K=[]:=by
  unfold He.DefD.dvs
  rw [hdf]
  rfl
 rw [e1] at F
 refine⟨fd,fun s v=>F.bindsA (ps:=[p]) hb s [v] rfl,fun base=> ?_⟩
 obtain⟨fd2,F2,_,oc,od,osl,l2⟩:=(hh base).ex
 obtain⟨oc1,od1,_,_,_,_,_,_,_,osl1,_,l1,_⟩:=F.ex
 rw [l1] at l2
 cases l2
 exact F2
end
theorem lE{a b:SM}(h:∀ρ ρ',b ρ≠ .nx ρ'):∀ρ ρ',fG a b ρ≠ .nx ρ' :=fun ρ ρ' z=>by
 unfold fG at z
 split at z
 ·exact h _ _ z
 ·rename_i hz
  exact hz _ z
theorem Uw{m:EM}:∀ρ ρ',gA m ρ≠ .nx ρ' :=fun ρ ρ' z=>by
 unfold gA at z
 split at z<;>cases z
theorem wQ{i:Nat}:∀ρ ρ',xO i ρ≠ .nx ρ' :=fun ρ ρ' z=>by
 unfold xO at z
 split at z<;>cases z
theorem Tj{K:aq}{H:Hp}:∀ns:List Int,ju K H (ns.map V.int) (ns.map aF)
 |[]=> .nil
 |n::r=> .cons (.int n) (Tj r)
theorem akl{K:aq}{H:Hp}{a:Addr}{ns:List Int}{m:List D→ER}(hS:SqL K H a (ns.map V.int))(hm:m [.list (ns.map aF)]= .ok (.bool true)):oZ K [.dat] .dat m [.ref a] H (fun v _=>v= .bl true) fun _ _ _=>False:=by
 refine⟨H,_,Ex.refl _, .cons (Dr.lst hS (Tj ns)) .nil,fun d hd v Hb' H' g r=> ?_,fun c hc=> ?_,fun z=> ?_⟩
 ·rw [hm] at hd
  cases hd
  exact Bo.bl (K:=K) (Hb:=Hb') (H:=H') (.inl r)
 ·rw [hm] at hc
  cases hc
 ·rw [hm] at z
  cases z
theorem ajx{l:PySem.W.OpenLaw}{n k:Nat}{q:Program}{loose:List Str}{XP:(Str→Option Value)→Heap→Prop}{YP:World→Heap→Prop}{d:DefRec}{x:Str}
 (hm:l.most=some n) (hz:n≤sizeLine) (hdf:d.params.defaults=[]) (room:Room k callerA)
 (F:∀(w:World) (mg:Str→Option Value) (f:Addr) (h:Heap),YP w h→h.Ns mainGlobals mg→mg d.name=some (.ref f)→
   ∃(K:aq) (fd:FuncData) (sp:Sp),K.In h∧(∀(s:Shared) (u:Value),BindsTo s fd ⟨[u],[]⟩ [(x,u)])∧
    (∀(H:Hp) (a:Addr) (ns:List Int),ns.length≤n→(∀z∈ns,Builtin.Int.intBits z≤1048576)→Only H→SqL K H a (ns.map V.int)→sp [.ref a] H (fun v _=>v= .bl true) fun _ _ _=>False)∧
    ∀base:Heap,K.In base→base.Ns mainGlobals mg→FnOk l.prog w K mg base (L2.CX l.prog w) k f fd [x] sp):
 PySem.W.WalkO q loose XP YP l.row.toRowW d [] (fun f vs=>PySem.call f vs):=by
 refine Att.attach_callB hm hdf fun w sA sB mg mb f o pm cd doc a vs ns G Y ho hd hcd hmg hobj hints hlen hbits hg=> ?_
 obtain⟨K,fd,sp,inK,binds,start,keeps⟩:=F w mg f _ Y G.T.g hmg
 exact law_call inK G.T.g G.T.b G.T.builtins G.T.nolimit hg hobj hints (cQ hlen hz) room keeps binds (fun H only sq=>start H a ns hlen hbits only sq)
  fun H e s' cx=>by
   obtain⟨_,_,_,_,_,_,_,_,_,_,_,_,no⟩:=cx
   exact no
end DL
namespace DL
open PySem L2 Evl
section
variable{ρ:Env}{d x y z:D}{f:D→ER}{c:Str}{g g' :D→D→ER}{m ma mb mc:EM}{s a b:SM}{i j:Nat}{ms:List EM}{G:List D→ER}
@[simp] theorem iy:(ER.ok d).bind f=f d:=Eq.trans rfl rfl
@[simp] theorem adm:(ER.ex c).bind f= .ex c:=rfl
@[simp] theorem alV:ER.bad.bind f= .bad:=rfl
@[simp] theorem aec:eC d ρ= .ok d:=rfl
@[simp] theorem jK:eO g ma mb ρ=(ma ρ).bind fun x=>(mb ρ).bind fun y=>g x y:=rfl
@[simp] theorem Jd {h:D→ER}:G7 h m ρ=(m ρ).bind h:=rfl
@[simp] theorem jM {r:Env}:d8 0 (.dat d::r)= .ok d:=rfl
@[simp] theorem jZ {r:Env} {t:Sl}:d8 (i+1) (t::r)=d8 i r:=rfl
@[simp] theorem adS {r:Env}:gK 0 (.dat d::r)= .ok d:=rfl
@[simp] theorem uY {r:Env}:gK 0 (.own d::r)= .ok d:=rfl
@[simp] theorem ac2 {r:Env}:gK 0 (.bor d::r)= .ok d:=rfl
@[simp] theorem zF {r:Env} {t:Sl}:gK (i+1) (t::r)=gK i r:=rfl
@[simp] theorem amQ:ou [] ρ= .ok []:=rfl
@[simp] theorem adQ:fu G [] ρ=G []:=rfl
@[simp] theorem K8:fu G [ma] ρ=(ma ρ).bind fun x=>G [x]:=by
 unfold fu ou
 cases ma ρ<;>rfl
@[simp] theorem Qm:fu G [ma,mb] ρ=(ma ρ).bind fun x=>(mb ρ).bind fun y=>G [x,y]:=by
 unfold fu ou ou ou
 cases ma ρ<;>cases mb ρ<;>rfl
@[simp] theorem X6:fu G [ma,mb,mc] ρ=(ma ρ).bind fun x=>(mb ρ).bind fun y=>(mc ρ).bind fun z=>G [x,y,z]:=by
 unfold fu ou ou ou ou
 cases ma ρ<;>cases mb ρ<;>cases mc ρ<;>rfl
@[simp] theorem Xw {md:EM}:fu G [ma,mb,mc,md] ρ=(ma ρ).bind fun x=>(mb ρ).bind fun y=>(mc ρ).bind fun z=>(md ρ).bind fun w=>G [x,y,z,w]:=by
 unfold fu ou ou ou ou ou
 cases ma ρ<;>cases mb ρ<;>cases mc ρ<;>cases md ρ<;>rfl
@[simp] theorem ad8 {T:String}:CJ T m ρ=(m ρ).bind fun d=> .ok (.bool (isT T d)):=rfl
@[simp] theorem am6 {h:Str→D} {u:Str}:((ER.ok (.str u)).bind fun d=>match d with| .str z=>ER.ok (h z)|_=> .bad)= .ok (h u):=rfl
@[simp] theorem alK {ds:List D} (h:m ρ= .ok (.list ds)):mG m ρ= .ok (.list ds):=by simp [mG,h]
@[simp] theorem amG {b:Bool} (h:m ρ= .ok (.bool b)):mF m ρ= .ok (.bool (!b)):=by simp [mF,h]
theorem lG{ρ' :Env}(h:a ρ= .nx ρ'):fG a b ρ=b ρ' :=by simp [fG,h]
theorem Il(h:a ρ= .rt d):fG a b ρ= .rt d:=by simp [fG,h]
theorem Dt(h:m ρ= .ok (.bool true)):iQ m a b ρ=a ρ:=by simp [iQ,h]
theorem vU(h:m ρ= .ok (.bool false)):iQ m a b ρ=b ρ:=by simp [iQ,h]
theorem lK(h:m ρ= .ok d):gH i m ρ= .nx (ρ.set i (.dat d)):=by simp [gH,h]
theorem ret_ok(h:m ρ= .ok d):gA m ρ= .rt d:=by simp [gA,h]
theorem XD(h:m ρ= .ok d):qI m ρ= .nx ρ:=by simp [qI,h]
@[simp] theorem Us:fU ρ= .nx ρ:=rfl
@[simp] theorem set_0 {r:Env} {t u:Sl}:List.set (t::r) 0 u=u::r:=rfl
@[simp] theorem kW {r:Env} {t u:Sl}:List.set (t::r) (i+1) u=t::List.set r i u:=rfl
end
@[simp] theorem adD (i j:Int):iH (.int i) (.int j)= .ok (.int (i+j)):=rfl
@[simp] theorem Xp (i j:Int):nj (.int i) (.int j)= .ok (.int (i-j)):=rfl
@[simp] theorem afo (i j:Int):Jl (.int i) (.int j)= .ok (.bool (decide (i<j))):=rfl
@[simp] theorem afq (i j:Int):M6 (.int i) (.int j)= .ok (.bool (decide (i≤j))):=rfl
@[simp] theorem afw (i j:Int):Zd (.int i) (.int j)= .ok (.bool (decide (j<i))):=rfl
@[simp] theorem ahm (i j:Int):dGe (.int i) (.int j)= .ok (.bool (decide (j≤i))):=rfl
@[simp] theorem Ae (ds:List D):je [.list ds]= .ok (.int ds.length):=rfl
@[simp] theorem af9 (ds:List D):je [.tuple ds]= .ok (.int ds.length):=rfl
theorem Tv{z:Str}(h:z.length≤sizeLine):je [.str z]= .ok (.int z.length):=by simp [je,h]
@[simp] theorem Xe (i j:Int):Pq [.int i, .int j]= .ok (.int (min i j)):=by
 have e:(if j<i then j else i)=min i j:=by
  split<;>omega
 show ER.ok (.int (if j<i then j else i))=_
 rw [e]
@[simp] theorem ac4 (i j:Int):Vf [.int i, .int j]= .ok (.int (max i j)):=by
 have e:(if j>i then j else i)=max i j:=by
  split<;>omega
 show ER.ok (.int (if j>i then j else i))=_
 rw [e]
theorem JT{i:Int}{a:Nat}(h:i.natAbs<2 ^ a):i.natAbs.log2≤a:=by
 by_cases z:i.natAbs=0
 ·rw [z]
  simp
 ·exact Nat.le_of_lt ((Nat.log2_lt z).mpr h)
theorem adh{i j:Int}(h:i.natAbs.log2+j.natAbs.log2<yR):lN (.int i) (.int j)= .ok (.int (i*j)):=by simp [lN,h]
theorem adt{i j:Int}(a b:Nat)(hi:i.natAbs<2 ^ a)(hj:j.natAbs<2 ^ b)(h:a+b<yR:=by decide):lN (.int i) (.int j)= .ok (.int (i*j)):=
 adh (dD (Nat.add_le_add (JT hi) (JT hj)) h)
theorem jo{i j:Int}(h:0<j):jJ (.int i) (.int j)= .ok (.int (i%j)):=by simp [jJ,h]
theorem wg{i j:Int}(h0:0≤j)(h1:j≤1000000)(h2:i.natAbs<2 ^ 64):vW (.int i) (.int j)= .ok (.int (i ^ j.toNat)):=by
 have e:vW (.int i) (.int j)=if 0≤j∧j≤1000000∧i.natAbs<2 ^ 64 then .ok (.int (i ^ j.toNat)) else .bad:=rfl
 rw [e,if_pos ⟨h0,h1,h2⟩]
theorem Ub{α:Type}{xs:List α}{k:Nat}(h:k<xs.length):atI xs (k:Int)=some xs[k]:=by
 unfold atI ixN
 simp [h]
theorem ahI{ds:List D}{i:Int}(h0:0≤i)(h:i<ds.length):fV (.list ds) (.int i)= .ok (ds[i.toNat]'(by omega)):=by
 have e:i=((i.toNat:Nat):Int):=by omega
 have hl:i.toNat<ds.length:=by omega
 have:=Ub hl
 rw [←e] at this
 simp [fV,this]
theorem Zo{ds:List D}{i:Int}(h0:0≤i)(h:i<ds.length):fV (.tuple ds) (.int i)= .ok (ds[i.toNat]'(by omega)):=by
 have e:i=((i.toNat:Nat):Int):=by omega
 have hl:i.toNat<ds.length:=by omega
 have:=Ub hl
 rw [←e] at this
 simp [fV,this]
theorem ajE{z:Str}{i:Int}(h0:0≤i)(h:i<z.cps.toList.length)(hz:z.length≤sizeLine):fV (.str z) (.int i)= .ok (.str ⟨#[z.cps.toList[i.toNat]'(by omega)]⟩):=by
 have e:i=((i.toNat:Nat):Int):=by omega
 have hl:i.toNat<z.cps.toList.length:=by omega
 have:=Ub hl
 rw [←e] at this
 simp only [fV,hz,if_true,this]
theorem Kw{ns:List Int}{i:Int}(h0:0≤i)(h:i<ns.length):fV (.list (ns.map aF)) (.int i)= .ok (.int (ns[i.toNat]'(by omega))):=by
 rw [ahI h0 (by simpa using h)]
 simp
@[simp] theorem ak5 (k:Int):SeqAt.shaped (.int k)=true:=rfl
@[simp] theorem ajQ (k:Bool):SeqAt.shaped (.bool k)=true:=rfl
@[simp] theorem ajW:SeqAt.shaped .none=true:=rfl
theorem ahF{x y:D}(hx:SeqAt.shaped x=true)(hy:SeqAt.shaped y=true)(hs:∀i j,x= .str i→y= .str j→False):kZ x y= .ok (.bool (dI x y)):=by
 rcases uW x y with⟨i,j,h1,h2,_⟩|e
 ·exact(hs i j h1 h2).elim
 ·rw [e,hx,hy]
  rfl
@[simp] theorem abS (i j:Int):kZ (.int i) (.int j)= .ok (.bool (decide (i=j))):=by
 rw [ahF rfl rfl (fun _ _ h=>by cases h)]
 simp only [dI]
 congr 2
@[simp] theorem af0 (i j:Bool):kZ (.bool i) (.bool j)= .ok (.bool (decide (i=j))):=by
 rw [ahF rfl rfl (fun _ _ h=>by cases h)]
 simp only [dI]
 congr 2
@[simp] theorem LC (i j:Str):kZ (.str i) (.str j)= .ok (.bool (decide (i=j))):=rfl
theorem acK{x y:D}{b:Bool}(h:kZ x y= .ok (.bool b)):xX x y= .ok (.bool (!b)):=by simp [xX,h]
@[simp] theorem af' (i j:Int):xX (.int i) (.int j)= .ok (.bool (!decide (i=j))):=acK (abS i j)
@[simp] theorem abY (i j:Str):xX (.str i) (.str j)= .ok (.bool (!decide (i=j))):=rfl
theorem Sy{g:GM}{body:SM}(P:Nat→Env→Prop):∀(ds:List D) (k:Nat) (ρ:Env),P k ρ→(∀(i:Nat) d ρ,ds[i]? =some d→P (k+i) ρ→∃ρ1 ρ2,g d ρ=some ρ1∧(body ρ1= .nx ρ2∨body ρ1= .ct ρ2)∧P (k+i+1) ρ2)→
 ∃ρ',wF g body ds ρ= .nx ρ' ∧P (k+ds.length) ρ'
 |[],k,ρ,h0,_=>⟨ρ,rfl,h0⟩
 |d::r,k,ρ,h0,hs=>by
  obtain⟨ρ1,ρ2,e1,e2,p⟩:=hs 0 d ρ rfl h0
  obtain⟨ρ',e3,p3⟩:=Sy P r (k+1) ρ2 p fun i d' ρ q p' =>by
   have:=hs (i+1) d' ρ (by simpa using q) (by rw [show k+(i+1)=k+1+i by omega];exact p')
   rw [show k+(i+1)+1=k+1+i+1 by omega] at this
   exact this
  refine⟨ρ',?_,by rw [show k+(d::r).length=k+1+r.length by simp;omega];exact p3⟩
  simp only [wF,e1]
  rcases e2 with e2|e2<;>rw [e2]<;>exact e3
theorem KJ{mi:Env→AR}{g:GM}{body:SM}{ρ:Env}{ds:List D}(P:Nat→Env→Prop)(hi:mi ρ= .ok ds)(h0:P 0 ρ)(hs:∀(i:Nat) d ρ,ds[i]? =some d→P i ρ→∃ρ1 ρ2,g d ρ=some ρ1∧(body ρ1= .nx ρ2∨body ρ1= .ct ρ2)∧P (i+1) ρ2):
 ∃ρ',mV mi g body ρ= .nx ρ' ∧P ds.length ρ' :=by
 obtain⟨ρ',e,p⟩:=Sy P ds 0 ρ h0 fun i d ρ q p=>by
  rw [Nat.zero_add] at p⊢
  exact hs i d ρ q p
 rw [Nat.zero_add] at p
 exact⟨ρ',by simp only [mV,hi];exact e,p⟩
@[simp] theorem pP {i:Nat} {d:D} {ρ:Env}:gN i d ρ=some (ρ.set i (.dat d)):=rfl
theorem app_ok{ρ:Env}{i:Nat}{m:EM}{ds:List D}{d:D}(h:ρ[i]? =some (.own (.list ds)))(hm:m ρ= .ok d)(hl:ds.length<sizeLine):mW i m ρ= .nx (ρ.set i (.own (.list (ds++[d])))):=by simp [mW,h,hm,hl]
theorem aeO{α:Type}(xs:List α)(x:α):atI (xs++[x]) (-1)=some x:=by
 unfold atI ixN
 have h1:¬(0:Int)≤-1:=by decide
 have h2: -(((xs++[x]).length:Nat):Int)≤-1:=by
  simp
  omega
 have h3:((-1:Int)+(((xs++[x]).length:Nat):Int)).toNat=xs.length:=by
  simp
  omega
 rw [if_neg h1,if_pos h2,h3]
 simp
theorem ahv(ds:List D)(d:D):fV (.list (ds++[d])) (.int (-1))= .ok d:=by
 simp only [fV,aeO]
@[simp] theorem aha (i:Int):Pk (.int i)= .ok (.int (-i)):=rfl
theorem Zw{α:Type}(xs:List α)(k:Nat):cutD xs (some (k:Int)) none=xs.drop k:=by
 unfold cutD
 rw [HT.sIx_nat,HT.sIx_none]
 rw [bO (by simp)]
 by_cases h:k≤xs.length
 ·rw [Nat.min_eq_left h]
 ·rw [Nat.min_eq_right (by omega),List.drop_of_length_le (bJ _),List.drop_of_length_le (by omega)]
theorem akF{α:Type}(xs:List α)(k:Nat):cutD xs none (some (k:Int))=xs.take k:=by
 unfold cutD
 rw [HT.sIx_nat,HT.sIx_none]
 simp only [List.drop_zero,Nat.sub_zero]
 by_cases h:k≤xs.length
 ·rw [Nat.min_eq_left h]
 ·rw [Nat.min_eq_right (by omega),bO (bJ _),bO (by omega)]
theorem ai6{x y:Str}(h:x.cps.toList=y.cps.toList):x=y:=by
 obtain⟨⟨a⟩⟩:=x
 obtain⟨⟨b⟩⟩:=y
 have e:a=b:=h
 rw [e]
@[simp] theorem amI (x y:Str):(x++y).cps.toList=x.cps.toList++y.cps.toList:=by
 show(x.cps++y.cps).toList=_
 simp
theorem str_len(x:Str):x.length=x.cps.toList.length:=by
 show x.cps.size=_
 simp
theorem aiU{x y:Str}(h:x.length+y.length≤sizeLine):iH (.str x) (.str y)= .ok (.str (x++y)):=by simp [iH,h]
theorem len0:(((([]:List D).length:Nat):Int))=0:=rfl
theorem len1(a:D):((([a]:List D).length:Nat):Int)=1:=rfl
theorem alP(a b:D):((([a,b]:List D).length:Nat):Int)=2:=rfl
theorem al6(a b c:D):((([a,b,c]:List D).length:Nat):Int)=3:=rfl
theorem amw(a b c d:D):((([a,b,c,d]:List D).length:Nat):Int)=4:=rfl
theorem aj4:uG .none .none= .ok (.bool true):=rfl
theorem ajP(i:Int):uG (.int i) .none= .ok (.bool false):=rfl
theorem ajK(i:Str):uG (.str i) .none= .ok (.bool false):=rfl
theorem ajO(i:List D):uG (.list i) .none= .ok (.bool false):=rfl
theorem ajL(i:List D):uG (.tuple i) .none= .ok (.bool false):=rfl
theorem ahp:pB .none .none= .ok (.bool false):=rfl
theorem afC(i:Int):pB (.int i) .none= .ok (.bool true):=rfl
theorem ahi(i:Str):pB (.str i) .none= .ok (.bool true):=rfl
theorem ag5(i:List D):pB (.list i) .none= .ok (.bool true):=rfl
theorem agM(i:List D):pB (.tuple i) .none= .ok (.bool true):=rfl
end DL
namespace DL
open PySem L2 Evl
section
variable{ρ:Env}{g:GM}{mt me m ma mb:EM}{mi:Env→AR}{vs:List Nat}
theorem ac7{α:Type}(h f:α→D):∀(xs:List α) (acc:List D),(∀x∈xs,∃ρ1,g (h x) ρ=some ρ1∧mt ρ1= .ok (.bool true)∧me ρ1= .ok (f x))→acc.length+xs.length≤sizeLine→
 lcD g mt me (xs.map h) acc ρ= .ok (.list (acc++xs.map f))
 |[],acc,_,_=>by simp [lcD]
 |x::xs,acc,hs,hl=>by
  obtain⟨ρ1,e1,e2,e3⟩:=hs x aX
  have hl' :acc.length<sizeLine:=by
   simp only [aY] at hl
   omega
  have ih:=ac7 h f xs (acc++[f x]) (fun y hy=>hs y (aN _ hy)) (by
   simp only [aY] at hl
   simp only [aA,aY,cH]
   omega)
  simp only [bA,lcD,e1,e2,e3,hl',if_true,ih]
  simp
theorem acN{α:Type}(h f:α→D){xs:List α}(hi:mi ρ= .ok (xs.map h))(hs:∀x∈xs,∃ρ1,g (h x) (xJ ρ vs)=some ρ1∧mt ρ1= .ok (.bool true)∧me ρ1= .ok (f x))(hl:xs.length≤sizeLine):
 X3 mi g mt me vs ρ= .ok (.list (xs.map f)):=by
 simp only [X3,hi]
 rw [ac7 h f xs [] hs (by simpa using hl)]
 simp
theorem akM{j:Int}(hb:mb ρ= .ok (.int j))(h2:inR j=true):Vh mb ρ= .ok (wY 0 j):=by
 simp only [Vh,hb,h2,if_true]
theorem acs(a b:Nat):wY (a:Int) (b:Int)=(di (b-a)).map fun(i:Nat)=>aF ((a+i:Nat):Int):=by
 unfold wY
 rw [show((b:Int)-(a:Int)).toNat=b-a by omega]
 refine bT fun i _=> ?_
 simp
theorem Dy(b:Nat):wY 0 (b:Int)=(di b).map fun(i:Nat)=>aF (i:Int):=by
 have:=acs 0 b
 simpa using this
theorem acG{n:Int}(h1: -1000000000≤n)(h2:n≤1000000000):inR n=true:=by
 rw [tW]
 omega
theorem adB{k:Nat}{ds:List D}(h:m ρ= .ok (.list ds))(ha:ma ρ= .ok (.int (k:Int))):PB m (some ma) none ρ= .ok (.list (ds.drop k)):=by
 simp only [PB,h,iy,evO,ha,dSl,Zw]
theorem alo{k:Nat}{ds:List D}(h:m ρ= .ok (.tuple ds))(ha:ma ρ= .ok (.int (k:Int))):PB m none (some ma) ρ= .ok (.tuple (ds.take k)):=by
 simp only [PB,h,iy,evO,ha,dSl,akF]
end
section
variable{ρ:Env}{ma mb mc md me mf:EM}
@[simp] theorem afy:jw [] ρ= .ok (.tuple []):=by
 have z:(0:Nat)≤sizeLine:=by decide
 simp only [jw,ou]
 simp [ER.bind,z]
@[simp] theorem YJ:jw [ma] ρ=(ma ρ).bind fun x=> .ok (.tuple [x]):=by
 have z:(1:Nat)≤sizeLine:=by decide
 simp only [jw,ou]
 cases ma ρ<;>simp [ER.bind,z]
@[simp] theorem Rf:jw [ma,mb] ρ=(ma ρ).bind fun x=>(mb ρ).bind fun y=> .ok (.tuple [x,y]):=by
 have z:(2:Nat)≤sizeLine:=by decide
 simp only [jw,ou]
 cases ma ρ<;>cases mb ρ<;>simp [ER.bind,z]
@[simp] theorem MP:jw [ma,mb,mc] ρ=(ma ρ).bind fun x=>(mb ρ).bind fun y=>(mc ρ).bind fun z=> .ok (.tuple [x,y,z]):=by
 have z:(3:Nat)≤sizeLine:=by decide
 simp only [jw,ou]
 cases ma ρ<;>cases mb ρ<;>cases mc ρ<;>simp [ER.bind,z]
@[simp] theorem ahd:jw [ma,mb,mc,md] ρ=(ma ρ).bind fun x=>(mb ρ).bind fun y=>(mc ρ).bind fun z=>(md ρ).bind fun w=> .ok (.tuple [x,y,z,w]):=by
 have z:(4:Nat)≤sizeLine:=by decide
 simp only [jw,ou]
 cases ma ρ<;>cases mb ρ<;>cases mc ρ<;>cases md ρ<;>simp [ER.bind,z]
@[simp] theorem anb:jw [ma,mb,mc,md,me] ρ=(ma ρ).bind fun x=>(mb ρ).bind fun y=>(mc ρ).bind fun z=>(md ρ).bind fun w=>(me ρ).bind fun v=> .ok (.tuple [x,y,z,w,v]):=by
 have z:(5:Nat)≤sizeLine:=by decide
 simp only [jw,ou]
 cases ma ρ<;>cases mb ρ<;>cases mc ρ<;>cases md ρ<;>cases me ρ<;>simp [ER.bind,z]
@[simp] theorem ang:jw [ma,mb,mc,md,me,mf] ρ=(ma ρ).bind fun x=>(mb ρ).bind fun y=>(mc ρ).bind fun z=>(md ρ).bind fun w=>(me ρ).bind fun v=>(mf ρ).bind fun u=> .ok (.tuple [x,y,z,w,v,u]):=by
 have z:(6:Nat)≤sizeLine:=by decide
 simp only [jw,ou]
 cases ma ρ<;>cases mb ρ<;>cases mc ρ<;>cases md ρ<;>cases me ρ<;>cases mf ρ<;>simp [ER.bind,z]
@[simp] theorem agt:lC [] ρ= .ok (.list []):=by
 have z:(0:Nat)≤sizeLine:=by decide
 simp only [lC,ou]
 simp [ER.bind,z]
@[simp] theorem Ua:lC [ma] ρ=(ma ρ).bind fun x=> .ok (.list [x]):=by
 have z:(1:Nat)≤sizeLine:=by decide
 simp only [lC,ou]
 cases ma ρ<;>simp [ER.bind,z]
@[simp] theorem YZ:lC [ma,mb] ρ=(ma ρ).bind fun x=>(mb ρ).bind fun y=> .ok (.list [x,y]):=by
 have z:(2:Nat)≤sizeLine:=by decide
 simp only [lC,ou]
 cases ma ρ<;>cases mb ρ<;>simp [ER.bind,z]
@[simp] theorem ahy:lC [ma,mb,mc] ρ=(ma ρ).bind fun x=>(mb ρ).bind fun y=>(mc ρ).bind fun z=> .ok (.list [x,y,z]):=by
 have z:(3:Nat)≤sizeLine:=by decide
 simp only [lC,ou]
 cases ma ρ<;>cases mb ρ<;>cases mc ρ<;>simp [ER.bind,z]
@[simp] theorem afV:lC [ma,mb,mc,md] ρ=(ma ρ).bind fun x=>(mb ρ).bind fun y=>(mc ρ).bind fun z=>(md ρ).bind fun w=> .ok (.list [x,y,z,w]):=by
 have z:(4:Nat)≤sizeLine:=by decide
 simp only [lC,ou]
 cases ma ρ<;>cases mb ρ<;>cases mc ρ<;>cases md ρ<;>simp [ER.bind,z]
@[simp] theorem ane:lC [ma,mb,mc,md,me] ρ=(ma ρ).bind fun x=>(mb ρ).bind fun y=>(mc ρ).bind fun z=>(md ρ).bind fun w=>(me ρ).bind fun v=> .ok (.list [x,y,z,w,v]):=by
 have z:(5:Nat)≤sizeLine:=by decide
 simp only [lC,ou]
 cases ma ρ<;>cases mb ρ<;>cases mc ρ<;>cases md ρ<;>cases me ρ<;>simp [ER.bind,z]
@[simp] theorem amY:lC [ma,mb,mc,md,me,mf] ρ=(ma ρ).bind fun x=>(mb ρ).bind fun y=>(mc ρ).bind fun z=>(md ρ).bind fun w=>(me ρ).bind fun v=>(mf ρ).bind fun u=> .ok (.list [x,y,z,w,v,u]):=by
 have z:(6:Nat)≤sizeLine:=by decide
 simp only [lC,ou]
 cases ma ρ<;>cases mb ρ<;>cases mc ρ<;>cases md ρ<;>cases me ρ<;>cases mf ρ<;>simp [ER.bind,z]
end
theorem ajB(T:String):isT T .none=(T=="NoneType"):=rfl
theorem ajI(T:String)(b:Bool):isT T (.bool b)=(T=="bool"||T=="int"):=rfl
theorem ajR(T:String)(b:Int):isT T (.int b)=(T=="int"):=rfl
theorem ajC(T:String)(b:Str):isT T (.str b)=(T=="str"):=rfl
theorem ajX(T:String)(b:List D):isT T (.list b)=(T=="list"):=rfl
theorem ajZ(T:String)(b:List D):isT T (.tuple b)=(T=="tuple"):=rfl
@[simp] theorem ZX (ds:List D):lW [.list ds]= .ok (.tuple ds):=rfl
@[simp] theorem aaF (ds:List D):lW [.tuple ds]= .ok (.tuple ds):=rfl
@[simp] theorem adF (ds:List D):qZ [.list ds]= .ok (.list ds):=rfl
@[simp] theorem ady (ds:List D):qZ [.tuple ds]= .ok (.list ds):=rfl
theorem ah4{x y:List D}(h:x.length+y.length≤sizeLine):iH (.list x) (.list y)= .ok (.list (x++y)):=by simp [iH,h]
theorem aif{x y:List D}(h:x.length+y.length≤sizeLine):iH (.tuple x) (.tuple y)= .ok (.tuple (x++y)):=by simp [iH,h]
@[simp] theorem ack {i j:Nat} {x y:D} {ρ:Env}:gT [gN i,gN j] (.tuple [x,y]) ρ=some ((ρ.set i (.dat x)).set j (.dat y)):=rfl
end DL
namespace Sb
open PySem PySem.Spec L2 Evl DL
theorem aeQ:type_of%(And.intro @Us<|And.intro @jK<|And.intro @Jd<|And.intro @jM<|And.intro @jZ<|And.intro @adS<|And.intro @uY<|And.intro @ac2<|And.intro @zF<|And.intro @adQ<|And.intro @K8<|And.intro @Qm<|And.intro @X6<|And.intro @Xw<|And.intro @Ae<|And.intro @af9<|And.intro @iy<|And.intro @Xe<|And.intro @ac4<|And.intro @adD<|And.intro @Xp<|And.intro @afo<|And.intro @afq<|And.intro @afw<|And.intro @ahm<|And.intro @abS<|And.intro @af' <|And.intro @LC<|And.intro @abY<|And.intro @af0<|And.intro @decide_true<|And.intro @decide_false<|And.intro @aec<|And.intro @set_0<|And.intro @kW<|And.intro @ad8<|And.intro @ajB<|And.intro @ajI<|And.intro @ajR<|And.intro @ajC<|And.intro @ajX<|And.intro @ajZ<|And.intro @pP<|And.intro @Bool.not_true<|And.intro @Bool.not_false<|And.intro @Bool.or_self<|And.intro @Bool.or_false<|And.intro @Bool.false_or<|And.intro @Bool.or_true<|And.intro @Bool.true_or<|And.intro @afy<|And.intro @YJ<|And.intro @Rf<|And.intro @MP<|And.intro @agt<|And.intro @Ua<|And.intro @YZ<|And.intro @ahy<|And.intro @afV<|And.intro @ZX<|And.intro @aaF<|And.intro @adF<|And.intro @ady<|And.intro @aha<|And.intro @adm<|And.intro @len0<|And.intro @len1<|And.intro @alP<|And.intro @al6<|And.intro @amw<|And.intro @aj4<|And.intro @ajP<|And.intro @ajK<|And.intro @ajO<|And.intro @ajL<|And.intro @ahp<|And.intro @afC<|And.intro @ahi<|And.intro @ag5<| @agM):=And.intro @Us<|And.intro @jK<|And.intro @Jd<|And.intro @jM<|And.intro @jZ<|And.intro @adS<|And.intro @uY<|And.intro @ac2<|And.intro @zF<|And.intro @adQ<|And.intro @K8<|And.intro @Qm<|And.intro @X6<|And.intro @Xw<|And.intro @Ae<|And.intro @af9<|And.intro @iy<|And.intro @Xe<|And.intro @ac4<|And.intro @adD<|And.intro @Xp<|And.intro @afo<|And.intro @afq<|And.intro @afw<|And.intro @ahm<|And.intro @abS<|And.intro @af' <|And.intro @LC<|And.intro @abY<|And.intro @af0<|And.intro @decide_true<|And.intro @decide_false<|And.intro @aec<|And.intro @set_0<|And.intro @kW<|And.intro @ad8<|And.intro @ajB<|And.intro @ajI<|And.intro @ajR<|And.intro @ajC<|And.intro @ajX<|And.intro @ajZ<|And.intro @pP<|And.intro @Bool.not_true<|And.intro @Bool.not_false<|And.intro @Bool.or_self<|And.intro @Bool.or_false<|And.intro @Bool.false_or<|And.intro @Bool.or_true<|And.intro @Bool.true_or<|And.intro @afy<|And.intro @YJ<|And.intro @Rf<|And.intro @MP<|And.intro @agt<|And.intro @Ua<|And.intro @YZ<|And.intro @ahy<|And.intro @afV<|And.intro @ZX<|And.intro @aaF<|And.intro @adF<|And.intro @ady<|And.intro @aha<|And.intro @adm<|And.intro @len0<|And.intro @len1<|And.intro @alP<|And.intro @al6<|And.intro @amw<|And.intro @aj4<|And.intro @ajP<|And.intro @ajK<|And.intro @ajO<|And.intro @ajL<|And.intro @ahp<|And.intro @afC<|And.intro @ahi<|And.intro @ag5<| @agM
end Sb
namespace DL
open PySem L2 Evl
def aia(x y:Str):Bool:=decide (x=y)||decide (y="BookError")
def okP(K:aq)(x y:Str):Bool:=decide (PySem.W.kitOne K (.ref (He.ga K x)) (.ref (He.ga K y))=some (aia x y))&&decide (PySem.W.exmOne K (.ref (He.ga K x)) (.ref (He.ga K y))=some (aia x y))
def okE(K:aq)(x:Str):Bool:=
 He.eqO (PySem.W.nsIn K mainGlobals x) (some (some (.ref (He.ga K x))))&&(He.eqO (PySem.W.findIn K (.ref (He.ga K x)) "__getattribute__") (some (some (.builtin "BaseException.__getattribute__")))&&
 (He.eqO (PySem.W.findIn K (.ref (He.ga K x)) "__getattr__") (some none)&&(decide (PySem.W.subIn K (.ref (He.ga K x)) (.type "BaseException")=some true)&&
 (PySem.W.hasDictIn K (He.ga K x)&&(He.eqO (PySem.W.findIn K (.ref (He.ga K x)) "__class__") (some (some (.builtin "object.__class__")))&&
 (He.eqO (PySem.W.specialIn K (.builtin "object.__class__") "__get__") (some (some (.builtin "getset_descriptor.__get__")))&&(decide (PySem.W.takesIn K (.builtin "object.__class__")=some true)&&
 (decide (PySem.W.mroIn K (He.ga K x) (.type "object")=some true)&&decide (PySem.W.kitOne K (.ref (He.ga K x)) (.type "ValueError")=some true)))))))))
def okX(xs:List Str)(K:aq):Bool:=xs.all fun x=>okE K x&&xs.all fun y=>okP K x y
structure oR(xs:List Str)(K:aq)(mg:Str→Option Value):Prop where
 gl:∀x∈xs,mg x=some (.ref (He.ga K x))
 ec:∀x∈xs,ExcC K (He.ga K x)
 ve:∀x∈xs,PySem.W.kitOne K (.ref (He.ga K x)) (.type "ValueError")=some true
 kit:∀x∈xs,∀y∈xs,PySem.W.kitOne K (.ref (He.ga K x)) (.ref (He.ga K y))=some (aia x y)
 exm:∀x∈xs,∀y∈xs,PySem.W.exmOne K (.ref (He.ga K x)) (.ref (He.ga K y))=some (aia x y)
theorem acR{K:aq}{x:Str}(h:okE K x=true):PySem.W.nsIn K mainGlobals x=some (some (.ref (He.ga K x)))∧ExcC K (He.ga K x)∧PySem.W.kitOne K (.ref (He.ga K x)) (.type "ValueError")=some true:=by
 unfold okE at h
 obtain⟨h0,h⟩:=He.ba h
 obtain⟨h1,h⟩:=He.ba h
 obtain⟨h2,h⟩:=He.ba h
 obtain⟨h3,h⟩:=He.ba h
 obtain⟨h4,h⟩:=He.ba h
 obtain⟨h5,h⟩:=He.ba h
 obtain⟨h6,h⟩:=He.ba h
 obtain⟨h7,h⟩:=He.ba h
 obtain⟨h8,h9⟩:=He.ba h
 exact⟨He.eqO_ok h0,⟨He.eqO_ok h1,He.eqO_ok h2,of_decide_eq_true h3,h4,He.eqO_ok h5,He.eqO_ok h6,of_decide_eq_true h7,of_decide_eq_true h8⟩,of_decide_eq_true h9⟩
theorem oR.of{xs:List Str}{K:aq}{mg:Str→Option Value}{h:Heap}(X:K.In h)(G:h.Ns mainGlobals mg)(c:okX xs K=true):oR xs K mg:=by
 have c1:∀x∈xs,(okE K x&&xs.all fun y=>okP K x y)=true:=fun x hx=>List.all_eq_true.mp c x hx
 have c2:∀x∈xs,∀y∈xs,okP K x y=true:=fun x hx y hy=>List.all_eq_true.mp (He.ba (c1 x hx)).2 y hy
 refine⟨fun x hx=>PySem.W.mg_of X G (acR (He.ba (c1 x hx)).1).1,fun x hx=>(acR (He.ba (c1 x hx)).1).2.1,fun x hx=>(acR (He.ba (c1 x hx)).1).2.2,fun x hx y hy=> ?_,fun x hx y hy=> ?_⟩
 ·exact of_decide_eq_true (He.ba (c2 x hx y hy)).1
 ·exact of_decide_eq_true (He.ba (c2 x hx y hy)).2
abbrev W00:WX:=fun _ _ _ _=>False
section
variable{K:aq}{pn:Pn}{Hf Hb H:Hp}{σ:L2.St}{ρ:Env}
end
inductive akv(X:Cx)(pq:Pn)(rk:Kd)(xs:List Str):List ExceptHandler→List (Str×SM)→Prop
 |nil:akv X pq rk xs [] []
 |cons {x:Str} {b₀:Stmt} {suite:List Stmt} {np pos' :Pos} {hds:List ExceptHandler} {m:SM} {l:List (Str×SM)} (hx:x∈xs) (hg:Gl X x) (hd:(x==("__debug__":Str))=false)
   (hsu:∀(a:Addr) (oe:Obj) (pn:List (Addr×Obj)),Wg (X.suite a ((a,oe)::pn)) ⟨W00,pq⟩ rk (b₀::suite) m) (r:akv X pq rk xs hds l):
   akv X pq rk xs (.ExceptHandler (some (.Name x np)) none (b₀::suite) pos' ::hds) ((x,m)::l)
section
variable{X:Cx}{w:WX}{pq:Pn}{rk:Kd}{xs:List Str}{body:List Stmt}{mb:SM}{pos:Pos}
end
section
variable{X:Cx}{xs:List Str}{c:Str}{a:Addr}{oe:Obj}{pn:List (Addr×Obj)}{pq:Pn}{i:Nat}{n:Str}{p p1 p2 pos:Pos}
inductive akZ(X:Cx)(xs:List Str):List Expr→List Str→Prop
 |nil:akZ X xs [] []
 |cons {T:Str} {p:Pos} {es:List Expr} {ts:List Str} (hT:T∈xs) (hg:Gl X T) (hd:(T==("__debug__":Str))=false) (hs:starEach (.Name T p::es) X.env=(false,eval (.Name T p) X.env)::starEach es X.env) (r:akZ X xs es ts):akZ X xs (.Name T p::es) (T::ts)
end
end DL
namespace DL
open PySem L2 Evl
section
variable{X:Cx}{W:WQ}{rk:Kd}{o e:Expr}{mo m:EM}{pos:Pos}
end
section
variable{xs:List Str}{mb:SM}{ρ ρ' :Env}{c:Str}{d:D}
end
end DL
namespace DL
open PySem L2 Evl
structure Sh(n:Nat)(d:D):Prop where
 lay:d.canLay0=true
 dep:d.depth≤n
theorem Sh.shaped{n:Nat}{d:D}(h:Sh n d)(hn:n≤64:=by decide):SeqAt.shaped d=true:=by
 unfold SeqAt.shaped
 rw [h.lay,decide_eq_true (cQ h.dep hn)]
 rfl
theorem Sh.mono{m n:Nat}{d:D}(h:Sh m d)(hn:m≤n):Sh n d:=⟨h.lay,cQ h.dep hn⟩
theorem ahH(n:Nat)(i:Int):Sh n (.int i):=⟨rfl,by simp [PyData.depth]⟩
theorem Y7(n:Nat){x:Str}(h:∀c∈x.cps.toList,c<0x110000):Sh n (.str x):=⟨by
 show PyData.strOk x=true
 unfold PyData.strOk
 rw [Array.all_eq_true']
 intro c hc
 exact decide_eq_true (h c (by simpa using hc)),by simp [PyData.depth]⟩
theorem agp{n:Nat}:∀{ds:List D},(∀d∈ds,Sh n d)→PyData.canLayAll0 ds=true∧PyData.depthAll ds≤n
 |[],_=>⟨rfl,by simp [PyData.depthAll]⟩
 |d::ds,h=>by
  obtain⟨h1,h2⟩:=agp (ds:=ds) fun e he=>h e (aN _ he)
  have h3:=h d aX
  simp only [PyData.canLayAll0,PyData.depthAll]
  rw [h1,h3.lay]
  exact⟨rfl,Nat.max_le.mpr ⟨h3.dep,h2⟩⟩
theorem S7{n:Nat}{ds:List D}(h:∀d∈ds,Sh n d):Sh (n+1) (.tuple ds):=by
 obtain⟨h1,h2⟩:=agp h
 refine⟨?_,?_⟩
 ·simp only [dH]
  exact h1
 ·simp only [PyData.depth]
  omega
mutual
def nb:D→Bool
 | .bool _| .dict _=>false
 | .list ds| .tuple ds=>nbs ds
 |_=>true
def nbs:List D→Bool
 |[]=>true
 |d::ds=>nb d&&nbs ds
end
mutual
theorem af8:∀(d e:D),nb d=true→nb e=true→dI d e=true→d=e
 | .none,e,_,_,h=>by cases e<;>simp [dI] at h⊢
 | .bool _,_,h,_,_=>by simp [nb] at h
 | .int i,e,_,hb,h=>by cases e<;>simp [dI,nb] at h hb⊢<;>exact h
 | .str x,e,_,_,h=>by cases e<;>simp [dI] at h⊢<;>exact h
 | .list xs,e,ha,hb,h=>by
   cases e with
   |list ys=>
    simp only [dI] at h
    rw [Yo xs ys (by simpa [nb] using ha) (by simpa [nb] using hb) h]
   |_=>simp [dI] at h
 | .tuple xs,e,ha,hb,h=>by
   cases e with
   |tuple ys=>
    simp only [dI] at h
    rw [Yo xs ys (by simpa [nb] using ha) (by simpa [nb] using hb) h]
   |_=>simp [dI] at h
 | .dict _,_,h,_,_=>by simp [nb] at h
theorem Yo:∀(ds es:List D),nbs ds=true→nbs es=true→PyData.eqvAll ds es=true→ds=es
 |[],[],_,_,_=>rfl
 |[],_::_,_,_,h=>by simp [PyData.eqvAll] at h
 |_::_,[],_,_,h=>by simp [PyData.eqvAll] at h
 |d::ds,e::es,ha,hb,h=>by
  simp only [nbs,cV] at ha hb
  simp only [PyData.eqvAll,cV] at h
  rw [af8 d e ha.1 hb.1 h.1,Yo ds es ha.2 hb.2 h.2]
end
theorem ahq{n:Nat}{d:D}(h:Sh n d)(hn:n≤64:=by decide):kZ d d= .ok (.bool true):=by
 rcases uW d d with⟨i,j,rfl,h2,e⟩|e
 ·cases h2
  rw [e,decide_eq_true rfl]
 ·rw [e,h.shaped hn]
  simp only [Bool.and_self,if_true]
  rw [SeqAt.eqv_refl d h.lay]
theorem ahC{m n:Nat}{d e:D}(h:Sh m d)(k:Sh n e)(hd:nb d=true)(he:nb e=true)(ne:d≠e)(hm:m≤64:=by decide)(hn:n≤64:=by decide):kZ d e= .ok (.bool false):=by
 rcases uW d e with⟨i,j,rfl,rfl,q⟩|q
 ·rw [q,decide_eq_false (fun z=>ne (by rw [z]))]
 ·rw [q,h.shaped hm,k.shaped hn]
  simp only [Bool.and_self,if_true]
  cases z:dI d e with
  |false=>rfl
  |true=>exact absurd (af8 d e hd he z) ne
theorem Jy{n:Nat}{d:D}(h:Sh n d)(hn:n≤64:=by decide):xX d d= .ok (.bool false):=acK (ahq h hn)
theorem agF{m n:Nat}{d e:D}(h:Sh m d)(k:Sh n e)(hd:nb d=true)(he:nb e=true)(ne:d≠e)(hm:m≤64:=by decide)(hn:n≤64:=by decide):xX d e= .ok (.bool true):=acK (ahC h k hd he ne hm hn)
end DL
namespace DL
open PySem L2 Evl
structure Gio(Hb H:Hp)(p:Addr)(Hb' H' :Hp):Prop where
 h:∀a o,a≠p→H a=some o→H' a=some o
 b:Ex Hb Hb'
 bh:Ex Hb' H'
 nw:∀a,Hb a=none→NT (H a)→Hb' a=none
def Vt(K:aq)(n:Nat)(m:List D→ER):Sp:=fun vs H Q _=>∃(Hb:Hp) (p:Addr) (us:List V) (c:D) (ds:List D) (d c' :D),Ex Hb H∧vs=V.ref p::us∧Hb p=none∧Ow K Hb H p c∧ju K Hb us ds∧us.length=n∧m (c::ds)= .ok (.tuple [d,c'])∧
 ∀v Hb' H',Gio Hb H p Hb' H' →Dr K Hb' v d→Ow K Hb' H' p c' →Q v H'
theorem gJ.gio{pn:Pn}{K:aq}{H H' Hb Hb' Hf:Hp}{p:Addr}{c c' :D}{σ:L2.St}{ρ:Env}{i:Nat}(R:gJ K pn Hf Hb H σ ρ)(hi:ρ[i]? =some (.own c))(hv:σ[i]? =some (some (.ref p)))(g:Gio Hb H p Hb' H')(hb:Hb' p=none)(h:Ow K Hb' H' p c'):gJ K pn Hf Hb' H' σ (ρ.set i (.own c')):=by
 obtain⟨F,r⟩:=R
 obtain⟨q,h1,h2,h3⟩:=r.sl i _ hi
 rw [hv] at h2
 cases h2
 obtain⟨f1,f2,f3⟩:=r.fr i p (by rw [h1];simp)
 refine⟨_,r.step (fp:=[p]) (fun a o e=>g.h a o (ne_of_none e f1) (r.ef a o e)) g.bh g.b rfl (fun j z=>rfl) (fun a ha _ k2 k3=> ?_) (fun _=>⟨p,rfl,hv,h⟩) (by simp) (fun a ha=> ?_) (fun j a z ha hj=> ?_) (fun a q=>r.pin i a q)⟩
 ·obtain⟨o,ho⟩:=wC k3
  exact⟨by rw [ho];exact g.h a o (fun z=>ha (by rw [h1,z];simp)) ho,g.nw a k2 k3⟩
 ·rw [aR.mp ha]
  exact⟨f1,hb,h.nt⟩
 ·exact r.dj j i a z hj (by rw [h1];exact ha)
inductive XR where
 |ok (d:D) (ρ:Env)|ex (c:Str) (ρ:Env)|bad
abbrev XM:=Env→XR
def xOf(K:aq)(W:WQ)(m:XM):TE:=fun σ H Q=>∃(Hf Hb:Hp) (ρ:Env),gJ K W.pin Hf Hb H σ ρ∧
 (∀d ρ',m ρ= .ok d ρ' →∀v Hb' H',gJ K W.pin Hf Hb' H' σ ρ' →Bw Hf Hb Hb' H' →Dr K Hb' v d→Q v H')∧
 (∀c ρ',m ρ= .ex c ρ' →∀Hb' H',gJ K W.pin Hf Hb' H' σ ρ' →Bw Hf Hb Hb' H' →W.w (.ref (He.ga K c)) none σ H')∧m ρ≠ .bad
abbrev DX(X:Cx)(W:WQ)(e:Expr)(m:XM):Prop:=PE X e (xOf X.K W m)
def jP(i:Nat)(g:List D→ER)(ms:List EM):XM:=fun ρ=>match ρ[i]? with
 |some (.own c)=>(match ou ms ρ with
  | .ok ds=>(match g (c::ds) with
    | .ok (.tuple [d,c'])=> .ok d (ρ.set i (.own c'))
    |_=> .bad)
  | .ex e=> .ex e ρ
  | .bad=> .bad)
 |_=> .bad
def zj(i:Nat)(g:List D→ER)(m:EM)(xm:XM):XM:=fun ρ=>match ρ[i]? with
 |some (.own _)=>(match m ρ with
  | .ok d0=>(match xm ρ with
    | .ok d1 ρ1=>(match ρ1[i]? with
      |some (.own c)=>(match g [c,d0,d1] with
       | .ok (.tuple [d,c'])=> .ok d (ρ1.set i (.own c'))
       |_=> .bad)
      |_=> .bad)
    | .ex e ρ1=> .ex e ρ1
    | .bad=> .bad)
  | .ex e=> .ex e ρ
  | .bad=> .bad)
 |_=> .bad
section
variable{X:Cx}{W:WQ}{ks:List Kd}{x y:Str}{p q pos:Pos}{es:List Expr}{ms:List EM}{g:List D→ER}{i j k n:Nat}{ps:List Str}
theorem vQ(i:Nat)(h:Has X.prog X.w X.K X.mg X.base x k ps (Vt X.K n g))(hr:Room j X.A)(tk:Takes X W.w)(ha:DA X W ks es ms)(hks:∀k∈ks,k= .dat:=by simp)(hn:ks.length=n:=by rfl)(hj:k≤j:=by decide)(hg:Gl X x:=by rfl)(hdb:(x==("__debug__":Str))=false:=by decide)
 (hN:X.N[i]? =some y:=by rfl) (hv:Vis X.env.scope y:=by first|exact Or.inl rfl|exact Or.inr (Or.inl rfl)|exact Or.inr (Or.inr rfl)) (hd:(y==("__debug__":Str))=false:=by decide) (hcd:(y==("__classdict__":Str))=false:=by decide)
 (he:starEach (.Name y q::es) X.env=(false,eval (.Name y q) X.env)::starEach es X.env:=by rfl) (hpl:(backTo pos (starEach es X.env)).any (·.1)=false:=by rfl):DX X W (.Call (.Name x p) (.Name y q::es) [] pos) (jP i g ms):=by
 obtain⟨fd,F,B,_⟩:=h.ex
 refine PE.imp (pe_callS F (hr.mono hj) hg h.gl h.kp B (fun σ=>passAt tk σ) (pa_cons (pe_var hN hv hd hcd) ha he) hdb he hpl) fun σ H Q ⟨Hf,Hb,ρ,R,h1,h2,h3⟩=> ?_
 have h1:=h1
 unfold jP at h1 h2 h3
 split at h1
 ·rename_i c hi
  obtain⟨p,hp,ow,hf,hbp⟩:=R.own i c hi
  have hpn:NT (H p):=ow.nt
  refine⟨_,hp,Hf,Hb,ρ,R,fun ds hds vs Hb1 H1 g1 r1=> ?_,fun e he Hb1 H1 g1=> ?_,fun z=> ?_⟩
  ·rw [hi,hds] at h3
   rw [hds] at h1
   simp only at h1 h3
   cases qg:g (c::ds) with
   |bad=>rw [qg] at h3;exact absurd rfl h3
   |ex e=>rw [qg] at h3;exact absurd rfl h3
   |ok z=>
    rw [qg] at h1 h3
    cases z with
    |tuple l=>
     match l,qg,h1,h3 with
     |[d,c'],qg,h1,h3=>
      refine⟨Hb1,p,vs,c,ds,d,c',g1.bh,rfl,g1.nw p hbp hpn,ow.ex g1.b g1.h,r1.dr hks,?_,qg,fun v Hb2 H2 gio r o2=> ?_⟩
      ·rw [r1.aiA]
       exact hn
      ·have hb2:Hb2 p=none:=gio.nw p (g1.nw p hbp hpn) (Nu g1.h hpn)
       exact h1 d _ rfl v Hb2 H2 ((R.gw g1).gio hi hp gio hb2 o2) ⟨g1.b.trans gio.b,gio.bh,fun a z1 z2=>gio.nw a (g1.nw a z1 (Nu R.ef z2)) (Nu g1.h (Nu R.ef z2))⟩ r
     |[],_,_,h3=>exact absurd rfl h3
     |[_],_,_,h3=>exact absurd rfl h3
     |_::_::_::_,_,_,h3=>exact absurd rfl h3
    |_=>exact absurd rfl h3
  ·rw [hi,he] at h2
   exact h2 e ρ rfl Hb1 H1 (R.gw g1) (g1.bw R.ef)
  ·rw [hi,z] at h3
   exact absurd rfl h3
 ·rename_i hno
  exfalso
  apply h3
  split
  ·rename_i c hi
   exact absurd hi (hno c)
  ·rfl
theorem abQ(i:Nat){e1 e2:Expr}{m:EM}{xm:XM}(h:Has X.prog X.w X.K X.mg X.base x k ps (Vt X.K 2 g))(hr:Room j X.A)(tk:Takes X W.w)(h1:DE X W .dat e1 m)(h2:DX X W e2 xm)(hj:k≤j:=by decide)(hg:Gl X x:=by rfl)(hdb:(x==("__debug__":Str))=false:=by decide)
 (hN:X.N[i]? =some y:=by rfl) (hv:Vis X.env.scope y:=by first|exact Or.inl rfl|exact Or.inr (Or.inl rfl)|exact Or.inr (Or.inr rfl)) (hd:(y==("__debug__":Str))=false:=by decide) (hcd:(y==("__classdict__":Str))=false:=by decide)
 (he:starEach [.Name y q,e1,e2] X.env=(false,eval (.Name y q) X.env)::starEach [e1,e2] X.env:=by rfl) (he1:starEach [e1,e2] X.env=(false,eval e1 X.env)::starEach [e2] X.env:=by rfl) (he2:starEach [e2] X.env=(false,eval e2 X.env)::starEach [] X.env:=by rfl)
 (hpl:(backTo pos (starEach [e1,e2] X.env)).any (·.1)=false:=by rfl):DX X W (.Call (.Name x p) [.Name y q,e1,e2] [] pos) (zj i g m xm):=by
 obtain⟨fd,F,B,_⟩:=h.ex
 refine PE.imp (pe_callS F (hr.mono hj) hg h.gl h.kp B (fun σ=>passAt tk σ) (pa_cons (pe_var hN hv hd hcd) (pa_cons h1 (pa_cons h2 pa_nil he2) he1) he) hdb he hpl) fun σ H Q ⟨Hf,Hb,ρ,R,h1,h2,h3⟩=> ?_
 unfold zj at h1 h2 h3
 cases hi:ρ[i]? with
 |none=>rw [hi] at h3;exact absurd rfl h3
 |some s=>
  cases s with
  |un=>rw [hi] at h3;exact absurd rfl h3
  |nst _ _=>rw [hi] at h3;exact absurd rfl h3
  |vP _ _=>rw [hi] at h3;exact absurd rfl h3
  |Vw _ _=>rw [hi] at h3;exact absurd rfl h3
  |dat _=>rw [hi] at h3;exact absurd rfl h3
  |bor _=>rw [hi] at h3;exact absurd rfl h3
  |own c0=>
   rw [hi] at h1 h2 h3
   simp only at h1 h2 h3
   obtain⟨p,hp,_⟩:=R.own i c0 hi
   refine⟨_,hp,Hf,Hb,ρ,R,fun d0 hd0 v0 Hb1 H1 g1 r1=> ?_,fun e he Hb1 H1 g1=> ?_,fun z=> ?_⟩
   ·rw [hd0] at h1 h2 h3
    simp only at h1 h2 h3
    refine⟨Hf,Hb1,ρ,R.gw g1,fun d1 ρ1 hd1 v1 Hb2 H2 R2 b2 r2=> ?_,fun e ρ1 hx Hb2 H2 R2 b2=> ?_,fun z=> ?_⟩
    ·rw [hd1] at h1 h2 h3
     simp only at h1 h2 h3
     cases hi1:ρ1[i]? with
     |none=>rw [hi1] at h3;exact absurd rfl h3
     |some s=>
      cases s with
      |un=>rw [hi1] at h3;exact absurd rfl h3
      |nst _ _=>rw [hi1] at h3;exact absurd rfl h3
      |vP _ _=>rw [hi1] at h3;exact absurd rfl h3
      |Vw _ _=>rw [hi1] at h3;exact absurd rfl h3
      |dat _=>rw [hi1] at h3;exact absurd rfl h3
      |bor _=>rw [hi1] at h3;exact absurd rfl h3
      |own c=>
       rw [hi1] at h1 h3
       simp only at h1 h3
       obtain⟨p1,hp1,ow,hf,hbp⟩:=R2.own i c hi1
       rw [hp] at hp1
       cases hp1
       have hpn:NT (H2 p):=ow.nt
       cases qg:g [c,d0,d1] with
       |bad=>rw [qg] at h3;exact absurd rfl h3
       |ex e=>rw [qg] at h3;exact absurd rfl h3
       |ok z=>
        rw [qg] at h1 h3
        cases z with
        |tuple l=>
         match l,qg,h1,h3 with
         |[d,c'],qg,h1,h3=>
          refine⟨Hb2,p,[v0,v1],c,[d0,d1],d,c',b2.bh,rfl,hbp,ow, .cons (mY b2.b r1) (.cons r2 .nil),rfl,qg,fun v Hb3 H3 gio r o2=> ?_⟩
          have hb3:Hb3 p=none:=gio.nw p hbp hpn
          exact h1 d _ rfl v Hb3 H3 (R2.gio hi1 hp gio hb3 o2) ⟨(g1.b.trans b2.b).trans gio.b,gio.bh,fun a z1 z2=>gio.nw a (b2.nw a (g1.nw a z1 (Nu R.ef z2)) z2) (Nu R2.ef z2)⟩ r
         |[],_,_,h3=>exact absurd rfl h3
         |[_],_,_,h3=>exact absurd rfl h3
         |_::_::_::_,_,_,h3=>exact absurd rfl h3
        |_=>exact absurd rfl h3
    ·rw [hx] at h2
     exact h2 e ρ1 rfl Hb2 H2 R2 ((g1.bw R.ef).trans b2)
    ·rw [z] at h3
     exact absurd rfl h3
   ·rw [he] at h2
    exact h2 e ρ rfl Hb1 H1 (R.gw g1) (g1.bw R.ef)
   ·rw [z] at h3
    exact absurd rfl h3
end
def oO(i:Nat)(m:XM):SM:=fun ρ=>match m ρ with
 | .ok d ρ' => .nx (ρ'.set i (.dat d))
 | .ex c ρ' => .ex c ρ'
 | .bad=> .bad
def Cu(m:EM):SM:=fun ρ=>match m ρ with
 | .ok d=>(match(ρ[(0:Nat)]? :Option Sl) with
   |some (.own c)=> .rt (.tuple [d,c])
   |_=> .bad)
 | .ex c=> .ex c ρ
 | .bad=> .bad
def vN(m:XM):SM:=fun ρ=>match m ρ with
 | .ok d ρ' =>(match(ρ'[(0:Nat)]? :Option Sl) with
   |some (.own c)=> .rt (.tuple [d,c])
   |_=> .bad)
 | .ex c ρ' => .ex c ρ'
 | .bad=> .bad
def V4(i:Nat)(m:XM):SM:=fun ρ=>match ρ[i]? with
 |some (.own (.list _))=>(match m ρ with
  | .ok d ρ' =>(match ρ'[i]? with
    |some (.own (.list ds))=>if ds.length<sizeLine then .nx (ρ'.set i (.own (.list (ds++[d])))) else .bad
    |_=> .bad)
  | .ex c ρ' => .ex c ρ'
  | .bad=> .bad)
 |_=> .bad
def Uq(i:Nat)(mk:EM)(mv:XM):SM:=fun ρ=>match mv ρ with
 | .ok d ρ=>(match ρ[i]? with
   |some (.own (.dict ds))=>if Bf ds=true then(match mk ρ with
    | .ok k=>(match keyOf k with
      |some k=>if ds.length<sizeLine then .nx (ρ.set i (.own (.dict (qM ds k d)))) else .bad
      |none=> .bad)
    | .ex c=> .ex c ρ
    | .bad=> .bad) else .bad
   |_=> .bad)
 | .ex c ρ=> .ex c ρ
 | .bad=> .bad
section
variable{X:Cx}{W:WQ}{rk:Kd}{e:Expr}{m:XM}{me:EM}{pos:Pos}
theorem BP{i:Nat}{x:Str}{pos' :Pos}(hN:X.N.Nodup)(he:DX X W e m)(hi:X.N[i]? =some x:=by rfl)(hx:Loc X.env.scope x:=by first|exact Or.inl rfl|exact Or.inr rfl)(hs:swapsWith e (some (.Name x pos')) pos.line X.env=pure false:=by rfl)
 (hf:X.fn x=true∨X.env.scope.names.lookup x=some .local:=by first|exact .inl rfl|exact .inr rfl|assumption) (ho:yg W.pin i:=by intro _ z;first|(cases z;done)|exact absurd (dM z).1 (by decide)|(simp at z;done)):DS X W rk (.Assign [.Name x pos'] e pos) (oO i m):=PS.imp (ps_set hN hi hx he hs hf) fun E σ H ⟨Hf,Hb,ρ,R,h⟩=>by
 refine⟨Hf,Hb,ρ,R,fun d ρ' hd v Hb' H' R' b r=> ?_,fun c ρ' hc Hb' H' R' b=> ?_,fun z=> ?_⟩
 ·simp only [oO,hd] at h
  exact h _ Hb' H' (R'.UJ ho r) b
 ·simp only [oO,hc] at h
  exact h _ Hb' H' R' b
 ·simp only [oO,z] at h
  exact h
theorem afK{K:aq}{Hf Hb H:Hp}{σ:L2.St}{ρ:Env}{p:Addr}{v:V}{d c:D}{pn:Pn}(R:gJ K pn Hf Hb H σ ρ)(hp:pn=[(0,p)])(q:ρ[0]? =some (.own c))(r:Dr K Hb v d):Rs K (.io p) Hf Hb H v (.tuple [d,c]):=by
 obtain⟨p1,h1,h2,h3,h4⟩:=R.own 0 c q
 have h5:=R.pin 0 p (by rw [hp];simp)
 rw [h1] at h5
 cases h5
 exact⟨d,c,rfl,r,h3,h4,h2⟩
theorem Bj{p:Addr}(he:DE X W .dat e me)(hp:W.pin=[(0,p)]:=by rfl):DS X W (.io p) (.Return (some e) pos) (Cu me):=PS.imp (ps_ret he) fun E σ H ⟨Hf,Hb,ρ,R,h⟩=>by
 refine⟨Hf,Hb,ρ,R,fun d hd v Hb' H' g r=> ?_,fun c hc Hb' H' g=> ?_,fun z=> ?_⟩
 ·simp only [Cu,hd] at h
  split at h
  ·rename_i c q
   exact h v Hb' H' (R.gw g).ef (g.bw R.ef) (afK (R.gw g) hp q r)
  ·exact h.elim
 ·simp only [Cu,hc] at h
  exact h _ Hb' H' (R.gw g) (g.bw R.ef)
 ·simp only [Cu,z] at h
  exact h
theorem Qy{p:Addr}(he:DX X W e m)(hp:W.pin=[(0,p)]:=by rfl):DS X W (.io p) (.Return (some e) pos) (vN m):=PS.imp (ps_ret he) fun E σ H ⟨Hf,Hb,ρ,R,h⟩=>by
 refine⟨Hf,Hb,ρ,R,fun d ρ' hd v Hb' H' R' b r=> ?_,fun c ρ' hc Hb' H' R' b=> ?_,fun z=> ?_⟩
 ·simp only [vN,hd] at h
  split at h
  ·rename_i c q
   exact h v Hb' H' R'.ef b (afK R' hp q r)
  ·exact h.elim
 ·simp only [vN,hc] at h
  exact h _ Hb' H' R' b
 ·simp only [vN,z] at h
  exact h
theorem adf{i:Nat}{x:Str}{p p2 p3:Pos}(he:DX X W e m)(hN:X.N[i]? =some x:=by rfl)(hv:Vis X.env.scope x:=by first|exact Or.inl rfl|exact Or.inr (Or.inl rfl)|exact Or.inr (Or.inr rfl))(hd:(x==("__debug__":Str))=false:=by decide)
 (hcd:(x==("__classdict__":Str))=false:=by decide) (hst:starEach [e] X.env=(false,eval e X.env)::starEach [] X.env:=by rfl)
 (hbase:attributeBase (.Name x p) "append" X.env (eval (.Name x p) X.env)=eval (.Name x p) X.env:=by rfl)
 (hfew:((backTo p3 (starEach [e] X.env)).all (fun x=> !x.1)&&(backToKw p3 (keywordEach [] X.env)).all (fun x=>x.1.isSome)
   &&decide (([e]:List Expr).length+([]:List Keyword).length+(if([]:List Keyword).isEmpty then 0 else 1)<30))=true:=by rfl)
 (hline:(p2.endLine==p3.line)=true:=by rfl) (hpl:(backTo p3 (starEach [] X.env)).any (·.1)=false:=by rfl) (hs:swapsWith (.Call (.Attribute (.Name x p) "append" p2) [e] [] p3) none pos.line X.env=pure false:=by rfl):
 DS X W rk (.Expr (.Call (.Attribute (.Name x p) "append" p2) [e] [] p3) pos) (V4 i m):=
 PS.imp (ps_expr (pe_bm PySem.F.plainAttrs_list PySem.F.slot_list_append PySem.F.type_list_append mt_append (pe_var hN hv hd hcd) (pa_cons he pa_nil hst) hbase hfew hline hst hpl) hs) fun E σ H ⟨Hf,Hb,ρ,R,h⟩=>by
  unfold V4 at h
  split at h
  ·rename_i ds0 q0
   obtain⟨p,h1,⟨o,ho,hc⟩,h3,h4⟩:=R.own i _ q0
   cases hc with
   |lst al=>
    refine⟨_,h1, .inl ⟨rfl,_,sq_of ho⟩,Hf,Hb,ρ,R,fun d ρ' hd v Hb' H' R' b r=> ?_,fun c ρ' hc Hb' H' R' b=> ?_,fun z=> ?_⟩
    ·rw [hd] at h
     simp only at h
     split at h
     ·rename_i ds q
      split at h
      ·rename_i hz
       obtain⟨p1,k1,⟨o1,ho1,hc1⟩,k3,k4⟩:=R'.own i _ q
       rw [h1] at k1
       cases k1
       cases hc1 with
       |lst al1=>
        refine⟨p,_,v,rfl,rfl,ho1,by rw [iV al1];exact hz,?_⟩
        exact h σ Hb' _ (R'.write q h1 (.lst (uR al1 (.cons r .nil)))) (b.trans (Bw.upd R'.eb k4))
      ·exact h.elim
     ·exact h.elim
    ·rw [hc] at h
     exact h σ Hb' H' R' b
    ·rw [z] at h
     exact h.elim
  ·exact h.elim
theorem adb(i:Nat){x:Str}{k v:Expr}{mk:EM}{mv:XM}{p pos' :Pos}(hu:X.A.units+64<cLine)(hk:DE X W .bor k mk)(hv:DX X W v mv)(hN:X.N[i]? =some x:=by rfl)(hvis:Vis X.env.scope x:=by first|exact Or.inl rfl|exact Or.inr (Or.inl rfl)|exact Or.inr (Or.inr rfl))(hd:(x==("__debug__":Str))=false:=by decide)
 (hcd:(x==("__classdict__":Str))=false:=by decide) (hs:swapsWith v (some (.Subscript (.Name x p) k pos')) pos.line X.env=pure false:=by rfl):DS X W rk (.Assign [.Subscript (.Name x p) k pos'] v pos) (Uq i mk mv):=
 PS.imp (ps_dput (by omega) (pe_var hN hvis hd hcd) hk hv hs) fun E σ H ⟨Hf,Hb,ρ,R,h⟩=>by
 unfold Uq at h
 refine⟨Hf,Hb,ρ,R,fun d ρ1 hd v Hb1 H1 R1 b1 r1=> ?_,fun c ρ1 hc Hb1 H1 R1 b1=> ?_,fun z=> ?_⟩
 ·rw [hd] at h
  simp only at h
  split at h
  ·rename_i ds q
   have hm:Bf ds=true:=by
    cases qm:Bf ds with
    |true=>rfl
    |false=>simp [qm,lO] at h
   simp only [hm,if_true] at h
   obtain⟨p,h1,⟨o,ho,hc⟩,h3,h4⟩:=R1.own i _ q
   cases hc with
   |dT al=>cases hm
   |dK al=>
    refine⟨_,h1,Hf,Hb1,ρ1,R1,fun d2 hd2 y Hb2 H2 g2 r2=> ?_,fun c hc Hb2 H2 g2=> ?_,fun z=> ?_⟩
    ·rw [hd2] at h
     simp only at h
     split at h
     ·rename_i kk hkk
      split at h
      ·rename_i hz
       have ho' :=g2.h _ _ ho
       have R2:=R1.gw g2
       have hb2:Hb2 p=none:=g2.nw p h4 (by rw [ho];exact True.intro)
       have al2:PK X.K Hb2 _ ds:=Paired.imp (fun _ _ q=>⟨q.1,mY g2.b q.2⟩) al
       refine⟨p,_,rfl, .inl ⟨_,kk,ho',r2.key hkk,by rw [QF al];exact hz,rfl⟩,?_⟩
       exact h σ Hb2 _ (R2.write q h1 (.dK (abN (mY g2.b r1) al2))) ((b1.trans (g2.bw R1.ef)).trans (Bw.upd g2.bh hb2))
      ·exact h.elim
     ·exact h.elim
    ·rw [hc] at h
     exact h σ Hb2 H2 (R1.gw g2) (b1.trans (g2.bw R1.ef))
    ·rw [z] at h
     exact h.elim
  ·exact h.elim
 ·rw [hc] at h
  exact h σ Hb1 H1 R1 b1
 ·rw [z] at h
  exact h.elim
end
def En(n:Nat)(m:SM):List D→ER
 |[]=> .bad
 |c::ds=>match m (.own c::(ds.map Sl.dat++aD n .un)) with
  | .nx ρ=>(match(ρ[(0:Nat)]? :Option Sl) with
    |some (.own c')=> .ok (.tuple [.none,c'])
    |_=> .bad)
  | .rt d=> .ok d
  |_=> .bad
theorem ajw{K:aq}{Hb H:Hp}{us:List V}{ds:List D}{c:D}{p:Addr}{N:List Str}{n:Nat}(e:Ex Hb H)(hb:Hb p=none)(ow:Ow K Hb H p c)(r:ju K Hb us ds)(hn:N.length=us.length+1+n):
 gJ K [(0,p)] (fun a=>if a=p then none else H a) Hb H (L2.start N (.ref p::us)) (.own c::(ds.map Sl.dat++aD n .un)):=by
 have l1:=iV r
 have key:∀(i:Nat) s,(.own c::(ds.map Sl.dat++aD n .un))[i]? =some s→(i=0∧s= .own c)∨s= .un∨∃v d,(L2.start N (.ref p::us))[i]? =some (some v)∧s= .dat d∧Dr K Hb v d:=fun i s h=>by
  cases i with
  |zero=>
   left
   simpa using h.symm
  |succ i=>
   right
   rw [aW] at h
   rcases dW i (ds.map Sl.dat).length with hlt|hge
   ·rw [aO hlt,aK,aP] at h
    obtain⟨d,h1,h2⟩:=h
    obtain⟨v,h3,h4⟩:=Ji r h1
    refine .inr ⟨v,d,?_,h2.symm,h4⟩
    have hlt' :i<us.length:=by simpa [l1] using hlt
    unfold L2.start
    rw [aO (by simp;omega),aK,aW,h3]
    rfl
   ·rw [bD hge] at h
    exact .inl (List.eq_of_mem_replicate (bf h))
 have at0:(L2.start N (.ref p::us))[0]? =some (some (V.ref p)):=by
  unfold L2.start
  simp
 refine⟨fun i=>if i=0 then [p] else [],fun a o h=> ?_,e,?_,fun i s h=> ?_,fun i=> ?_,fun i a ha=> ?_,fun i j a ne ha hj=> ?_,fun i a z=> ?_⟩
 ·by_cases z:a=p
  ·simp [z] at h
  ·simpa [z] using h
 ·unfold L2.start
  simp
  omega
 ·rcases key i _ h with⟨rfl,z⟩|z|⟨v,d',h1,z,h2⟩
  ·subst z
   exact⟨p,by simp,at0,ow⟩
  ·subst z
   by_cases z:i=0
   ·subst z
    simp at h
   ·simp only [if_neg z]
    rfl
  ·subst z
   by_cases z:i=0
   ·subst z
    simp at h
   ·simp only [if_neg z]
    exact⟨rfl,v,h1,h2⟩
 ·by_cases z:i=0<;>simp [z]
 ·by_cases z:i=0
  ·simp only [z,if_true] at ha
   rw [aR.mp ha]
   exact⟨by simp,hb,ow.nt⟩
  ·simp [z] at ha
 ·by_cases z:i=0
  ·by_cases z2:j=0
   ·exact ne (z.trans z2.symm)
   ·simp [z2] at hj
  ·simp [z] at ha
 ·rcases aR.mp z with z
  cases z
  exact at0
section
variable{P:Program}{w:World}{K:aq}{mg:Str→Option Value}{base:Heap}{x qual:Str}{params:Arguments}{body:List Stmt}{scope:Scope}{dvs:List V}{kws:List (Str×V)}{f:Addr}{fd:FuncData}
theorem amn{N ps:List Str}{k n u:Nat}{m:SM}(F:FunD K x qual params body scope dvs kws f fd)(S:FnScope N ps scope)(hps:ps.length=u+1)(hn:N.length=u+1+n)
 (hbody:∀(p:Addr) (cdv:Value) (A:Around) (outer:List PySem.Env) (s:Shared) (H:Hp) (E:XK),Room k (A.deeper (PyProof.Rows.envOfC qual scope s.heap.objs.size f cdv))→Wg (cxOf (L2.CX P w) P w K mg base N qual scope f cdv A outer s H E) ⟨fun cls d _ H=>E cls d H,[(0,p)]⟩ (.io p) body m):
 FnOk P w K mg base (L2.CX P w) (k+1) f fd ps (Vt K u (En n m)):=by
 refine F.ok S (fun vs H Q E h=> ?_) (fun cdv A outer s H vs Q E hr h=> ?_)
 ·obtain⟨Hb,p,us,c,ds,d,c',e,rfl,_,_,_,hu,_⟩:=h
  rw [hps,←hu]
  rfl
 ·obtain⟨Hb,p,us,c,ds,d,c',e,rfl,hb,ow,r,hu,em,hQ⟩:=h
  refine⟨_,hbody p cdv A outer s H E hr,_,Hb,_,ajw e hb ow r (n:=n) (by rw [hn,hu]),?_⟩
  have gio:∀Hb' H',Ex (fun a=>if a=p then none else H a) H' →Bw (fun a=>if a=p then none else H a) Hb Hb' H' →Hb' p=none→Gio Hb H p Hb' H' :=fun Hb' H' e1 b hp=>⟨fun a o z q=>e1 a o (by simp [z,q]),b.b,b.bh,fun a z1 z2=>by
   by_cases z:a=p
   ·rw [z]
    exact hp
   ·exact b.nw a z1 (by simpa [z] using z2)⟩
  unfold En at em
  simp only at em
  cases q:m (.own c::(ds.map Sl.dat++aD n .un)) with
  |nx ρ=>
   rw [q] at em
   simp only at em
   intro σ' Hb' H' R b
   split at em
   ·rename_i c2 q2
    cases em
    obtain⟨d0,c0,z,r0,z1,z2,z3⟩:=afK (v:= .non) (d:= .none) R rfl q2 .non
    cases z
    exact hQ .non Hb' H' (gio Hb' H' R.ef b z2) .non z3
   ·cases em
  |rt d2=>
   rw [q] at em
   cases em
   intro v Hb' H' e1 b r1
   obtain⟨d0,c0,z,r0,z1,z2,z3⟩:=r1
   cases z
   exact hQ v Hb' H' (gio Hb' H' e1 b z2) r0 z3
  |ex c ρ=>rw [q] at em;cases em
  |bk ρ=>rw [q] at em;cases em
  |rx d ρ=>rw [q] at em;cases em
  |ct ρ=>rw [q] at em;cases em
  |bad=>rw [q] at em;cases em
end
section
variable{P:Program}{w:World}{K:aq}{mg:Str→Option Value}{base:Heap}{fa:List He.Fa}{fn:List He.DefD}
theorem M4{x:Str}{d:He.DefD}(Z:mJ fa fn K mg)(i j:Nat){N ps:List Str}{k n u:Nat}{m:SM}(hd:fn[i]? =some d)(hx:d.at_=(x,none))(hdf:d.dfl=[])(hkw:d.kwd=[])(hg:fa[j]? =some (.glo x))(S:FnScope N ps d.scope)(hps:ps.length=u+1)(hn:N.length=u+1+n)
 (hb:∀(kV doc pm:Value) (an:Option Addr) (cdv ct:Value) (us:List Value),us.length=ps.length→bindArgs (PySem.W.fnOf d.name d.qual d.params d.body d.scope .none kV doc pm an cdv ct) ⟨us,[]⟩=pure (ps.zip us))
 (hbody:∀(p f:Addr) (cdv:Value) (A:Around) (outer:List PySem.Env) (s:Shared) (H:Hp) (E:XK),Room k (cxOf (L2.CX P w) P w K mg base N d.qual d.scope f cdv A outer s H E).A→Takes (cxOf (L2.CX P w) P w K mg base N d.qual d.scope f cdv A outer s H E) (fun cls d _ H=>E cls d H)→
   PassesOwn (model (cxOf (L2.CX P w) P w K mg base N d.qual d.scope f cdv A outer s H E).prog (cxOf (L2.CX P w) P w K mg base N d.qual d.scope f cdv A outer s H E).w) (cxOf (L2.CX P w) P w K mg base N d.qual d.scope f cdv A outer s H E).A (cxOf (L2.CX P w) P w K mg base N d.qual d.scope f cdv A outer s H E).env (cxOf (L2.CX P w) P w K mg base N d.qual d.scope f cdv A outer s H E).xe→
   Wg (cxOf (L2.CX P w) P w K mg base N d.qual d.scope f cdv A outer s H E) ⟨fun cls d _ H=>E cls d H,[(0,p)]⟩ (.io p) d.body m):
 Has P w K mg base x (k+1) ps (Vt K u (En n m)):=by
 obtain⟨fd,F⟩:=Z.says.def_ i hd
 have ea:He.fAd K d.at_=He.ga K x:=by rw [hx];rfl
 rw [ea] at F
 have kp:=F.kp
 have e1:d.dvs K=[]:=by
  unfold He.DefD.dvs
  rw [hdf]
  rfl
 rw [e1] at F
 refine⟨⟨fd,amn F S hps hn (fun p cdv A outer s H E hr=>hbody p _ cdv A outer s H E hr (takes_of rfl rfl rfl rfl) PassesOwn.leaving),F.bindsN hb,?_⟩,kp,Z.glo j hg⟩
 obtain⟨oc,od,_,_,_,_,_,_,_,osl,_,l,_⟩:=F.ex
 exact⟨oc,od,osl,l⟩
end
end DL
namespace DL
open PySem L2 Evl
def Rt(o:Out)(Q:D→Prop):Prop:=∃d,o= .rt d∧Q d
def Nx(o:Out)(N:Env→Prop):Prop:=∃ρ,o= .nx ρ∧N ρ
section
variable{ρ ρ' :Env}{a b c:SM}{m:EM}{d:D}{Q:D→Prop}{N:Env→Prop}{mi:Env→AR}{g:GM}{body:SM}{ds:List D}
theorem Gh{ks:List Kd}{n:Nat}{m:SM}{ds:List D}(h:Rt (m (j9 ks ds++aD n .un)) Q):∃d,jh ks n m ds= .ok d∧Q d:=by
 obtain⟨d,e,q⟩:=h
 exact⟨d,by simp [jh,e],q⟩
theorem jD{ks:List Kd}{n:Nat}{m:SM}{ds:List D}{d:D}(h:Rt (m (j9 ks ds++aD n .un)) (·=d)):jh ks n m ds= .ok d:=by
 obtain⟨d,e,rfl⟩:=h
 simp [jh,e]
theorem fP(h:a ρ= .nx ρ')(k:Rt (b ρ') Q):Rt (fG a b ρ) Q:=by
 obtain⟨d,e,q⟩:=k
 exact⟨d,by rw [lG h,e],q⟩
theorem mZ(h:Nx (a ρ) N)(k:∀ρ',N ρ' →Rt (b ρ') Q):Rt (fG a b ρ) Q:=by
 obtain⟨ρ',e,n⟩:=h
 exact fP e (k ρ' n)
theorem iD(h:a ρ= .nx ρ')(k:Nx (b ρ') N):Nx (fG a b ρ) N:=by
 obtain⟨d,e,q⟩:=k
 exact⟨d,by rw [lG h,e],q⟩
theorem al7{M:Env→Prop}(h:Nx (a ρ) M)(k:∀ρ',M ρ' →Nx (b ρ') N):Nx (fG a b ρ) N:=by
 obtain⟨ρ',e,n⟩:=h
 exact iD e (k ρ' n)
theorem oK(h:Rt (a ρ) Q):Rt (fG a b ρ) Q:=by
 obtain⟨d,e,q⟩:=h
 exact⟨d,Il e,q⟩
theorem Hg(h:m ρ= .ok (.bool true))(k:Rt (a ρ) Q):Rt (iQ m a b ρ) Q:=by rwa [Dt h]
theorem amd(h:m ρ= .ok (.bool false))(k:Rt (b ρ) Q):Rt (iQ m a b ρ) Q:=by rwa [vU h]
theorem Vk(h:m ρ= .ok (.bool true))(k:Nx (a ρ) N):Nx (iQ m a b ρ) N:=by rwa [Dt h]
theorem IK(h:m ρ= .ok (.bool false))(k:Nx (b ρ) N):Nx (iQ m a b ρ) N:=by rwa [vU h]
theorem jB(h:m ρ= .ok d)(q:Q d):Rt (gA m ρ) Q:=⟨d,ret_ok h,q⟩
theorem adR{i:Nat}(h:ρ[i]? =some (.own d))(q:Q d):Rt (xO i ρ) Q:=⟨d,by simp only [xO,h],q⟩
theorem jT(h:a ρ= .nx ρ')(n:N ρ'):Nx (a ρ) N:=⟨ρ',h,n⟩
theorem nY(P:Nat→Env→Prop)(hi:mi ρ= .ok ds)(h0:P 0 ρ)(hs:∀(i:Nat) d ρ,ds[i]? =some d→P i ρ→∃ρ1,g d ρ=some ρ1∧Nx (body ρ1) (P (i+1))):Nx (mV mi g body ρ) (P ds.length):=by
 obtain⟨ρ',h1,h2⟩:=KJ P hi h0 (fun i d ρ hd hP=>by
  obtain⟨ρ1,e1,ρ2,e2,e3⟩:=hs i d ρ hd hP
  exact⟨ρ1,ρ2,e1, .inl e2,e3⟩)
 exact⟨ρ',h1,h2⟩
end
section
variable{c:EM}{body:SM}{ρ:Env}
theorem Wv(P:Nat→Env→Prop){N:Env→Prop}:∀(n:Nat) (f:Nat) (ρ:Env),n<f→P n ρ→(∀n ρ,P n ρ→(c ρ= .ok (.bool false)∧N ρ)∨(c ρ= .ok (.bool true)∧∃n',n' <n∧Nx (body ρ) (P n')))→Nx (rE c body f ρ) N
 |n,0,ρ,hf,_,_=>by omega
 |n,f+1,ρ,hf,hP,hs=>by
  rcases hs n ρ hP with⟨h1,h2⟩|⟨h1,n',h2,ρ2,h3,h4⟩
  ·exact⟨ρ,by simp only [rE,h1],h2⟩
  ·obtain⟨ρ3,h5,h6⟩:=Wv P n' f ρ2 (by omega) h4 hs
   exact⟨ρ3,by simp only [rE,h1,h3,h5],h6⟩
theorem Ue{n:Nat}(h:n<2 ^ 100):n<FUEL:=by
 unfold FUEL
 exact h
theorem pO(P:Nat→Env→Prop){N:Env→Prop}(n:Nat)(hn:n<2 ^ 100)(h0:P n ρ)(hs:∀n ρ,P n ρ→(c ρ= .ok (.bool false)∧N ρ)∨(c ρ= .ok (.bool true)∧∃n',n' <n∧Nx (body ρ) (P n'))):Nx (ug c body ρ) N:=
 Wv P n FUEL ρ (Ue hn) h0 hs
end
theorem o9{i j:Int}(h:0<j)(h2:j<10 ^ 300):lX (.int i) (.int j)= .ok (.int (i/j)):=by
 have e:j.natAbs.log2≤1000:=JT (by
  have:(10:Int) ^ 300<2 ^ 1000:=by decide
  omega)
 have c:(0:Int)<j∧j.natAbs.log2<9000:=⟨h,by omega⟩
 simp only [lX,c,and_self,if_true]
theorem pD{i j:Int}(h1: -10 ^ 300<i)(h2:i<10 ^ 300)(h3: -10 ^ 300<j)(h4:j<10 ^ 300):lN (.int i) (.int j)= .ok (.int (i*j)):=
 adt 1000 1000 (by
  have:(10:Int) ^ 300<2 ^ 1000:=by decide
  omega) (by
  have:(10:Int) ^ 300<2 ^ 1000:=by decide
  omega)
theorem Gu{i j:Int}(h:0<j)(h2:j<10 ^ 300):adH [.int i, .int j]= .ok (.tuple [.int (i/j), .int (i%j)]):=by
 have e:j.natAbs.log2≤1000:=JT (by
  have:(10:Int) ^ 300<2 ^ 1000:=by decide
  omega)
 have c:(0:Int)<j∧j.natAbs.log2<9000:=⟨h,by omega⟩
 simp only [adH,c,and_self,if_true]
theorem pH{ds:List D}{i:Int}(h0:0≤i)(h:i<ds.length):fV (.list ds) (.int i)= .ok (ds.getD i.toNat .none):=by
 rw [ahI h0 h]
 simp [bF,show i.toNat<ds.length by omega]
theorem alm{ds:List D}{i:Int}(h0:0≤i)(h:i<ds.length):fV (.tuple ds) (.int i)= .ok (ds.getD i.toNat .none):=by
 rw [Zo h0 h]
 simp [bF,show i.toNat<ds.length by omega]
theorem aae{ρ:Env}{m:EM}{j:Int}(hb:m ρ= .ok (.int j))(h1: -1000000000≤j)(h2:j≤1000000000):Vh m ρ= .ok (wY 0 j):=akM hb (acG h1 h2)
theorem ae9{α:Type}(xs:List α)(d:α)(h:1≤xs.length):xs=xs.take (xs.length-1)++[xs.getD (xs.length-1) d]:=by
 have hl:xs.length-1<xs.length:=by omega
 have e:=bM (xs.length-1) xs
 conv=>lhs;rw [←e]
 rw [List.drop_eq_getElem_cons hl,List.drop_of_length_le (by omega)]
 simp [bF,hl]
theorem j5{G:List D→ER}{ma:EM}{ρ:Env}{x:D}{r:ER}(ha:ma ρ= .ok x)(h:G [x]=r):fu G [ma] ρ=r:=by rw [K8,ha,iy,h]
theorem kh{G:List D→ER}{ma mb:EM}{ρ:Env}{x y:D}{r:ER}(ha:ma ρ= .ok x)(hb:mb ρ= .ok y)(h:G [x,y]=r):fu G [ma,mb] ρ=r:=by rw [Qm,ha,iy,hb,iy,h]
theorem ni{G:List D→ER}{ma mb mc:EM}{ρ:Env}{x y z:D}{r:ER}(ha:ma ρ= .ok x)(hb:mb ρ= .ok y)(hc:mc ρ= .ok z)(h:G [x,y,z]=r):fu G [ma,mb,mc] ρ=r:=by rw [X6,ha,iy,hb,iy,hc,iy,h]
theorem vz{G:List D→ER}{ma mb mc md:EM}{ρ:Env}{x y z w:D}{r:ER}(ha:ma ρ= .ok x)(hb:mb ρ= .ok y)(hc:mc ρ= .ok z)(hd:md ρ= .ok w)(h:G [x,y,z,w]=r):fu G [ma,mb,mc,md] ρ=r:=by rw [Xw,ha,iy,hb,iy,hc,iy,hd,iy,h]
def Go(o:Out)(N:Env→Prop)(Q:D→Prop):Prop:=(∃ρ,o= .nx ρ∧N ρ)∨∃d,o= .rt d∧Q d
theorem abj{o:Out}{N:Env→Prop}{Q:D→Prop}(h:Nx o N):Go o N Q:= .inl h
theorem afu{o:Out}{N:Env→Prop}{Q:D→Prop}(h:Rt o Q):Go o N Q:= .inr h
theorem zE{a b:SM}{ρ ρ' :Env}{N:Env→Prop}{Q:D→Prop}(h:a ρ= .nx ρ')(k:Go (b ρ') N Q):Go (fG a b ρ) N Q:=by
 unfold Go
 rw [lG h]
 exact k
theorem ajY{a b:SM}{ρ:Env}{M:Env→Prop}{Q:D→Prop}(h:Go (a ρ) M Q)(k:∀ρ',M ρ' →Rt (b ρ') Q):Rt (fG a b ρ) Q:=by
 rcases h with⟨ρ',e,n⟩|⟨d,e,q⟩
 ·exact fP e (k ρ' n)
 ·exact⟨d,Il e,q⟩
theorem agH{m:EM}{a b:SM}{ρ:Env}{N:Env→Prop}{Q:D→Prop}(h:m ρ= .ok (.bool true))(k:Go (a ρ) N Q):Go (iQ m a b ρ) N Q:=by rwa [Dt h]
theorem aek{m:EM}{a b:SM}{ρ:Env}{N:Env→Prop}{Q:D→Prop}(h:m ρ= .ok (.bool false))(k:Go (b ρ) N Q):Go (iQ m a b ρ) N Q:=by rwa [vU h]
theorem Vx{c:EM}{body:SM}(P:Nat→Env→Prop){N:Env→Prop}{Q:D→Prop}:∀(n:Nat) (f:Nat) (ρ:Env),n<f→P n ρ→(∀n ρ,P n ρ→(c ρ= .ok (.bool false)∧N ρ)∨(c ρ= .ok (.bool true)∧Go (body ρ) (fun ρ' =>∃n',n' <n∧P n' ρ') Q))→Go (rE c body f ρ) N Q
 |n,0,ρ,hf,_,_=>by omega
 |n,f+1,ρ,hf,hP,hs=>by
  rcases hs n ρ hP with⟨h1,h2⟩|⟨h1,⟨ρ2,h3,n',h2,h4⟩|⟨d,h3,h4⟩⟩
  ·exact .inl ⟨ρ,by simp only [rE,h1],h2⟩
  ·have ih:=Vx P n' f ρ2 (by omega) h4 hs
   have e:rE c body (f+1) ρ=rE c body f ρ2:=by simp only [rE,h1,h3]
   unfold Go
   rw [e]
   exact ih
  ·exact .inr ⟨d,by simp only [rE,h1,h3],h4⟩
theorem af3{c:EM}{body:SM}{ρ:Env}(P:Nat→Env→Prop){N:Env→Prop}{Q:D→Prop}(n:Nat)(hn:n<2 ^ 100)(h0:P n ρ)(hs:∀n ρ,P n ρ→(c ρ= .ok (.bool false)∧N ρ)∨(c ρ= .ok (.bool true)∧Go (body ρ) (fun ρ' =>∃n',n' <n∧P n' ρ') Q)):Go (ug c body ρ) N Q:=
 Vx P n FUEL ρ (Ue hn) h0 hs
end DL
namespace DL
open PySem PySem.Spec L2 Evl PyProof.Rows
section
variable{X:Cx}{pins:List (Addr×Obj)}{σ:L2.St}{H:Hp}{s:Shared}{a:Addr}{kvs:List (Key×V)}{A:Around}{E:Value→Shared→Prop}
theorem aeN{Q:Value→Shared→Prop}(I:Inv X pins σ H s)(e:Rd H a (.dK kvs))(h:∀s',Inv X pins σ H s' →Q .none s'):wpAny (model X.prog X.w) A (call (.builtin "dict.get") [.ref a, .none]) Q E s:=by
 obtain⟨_,hd,vs,_,dd⟩:=dk_rd I.hok e
 obtain⟨f,hm,hf⟩:=none_map dd
 refine call_meetsIn PySem.F.slot_dict_get dd.typeIs PySem.F.entry_dict_get (PySem.F.args_dict_get_2 _ _) (meets_dict_get (noneKind X.prog X.w) a (show(noneKind X.prog X.w).is none .none=true from rfl) hd) ⟨_,hm,?_⟩
 rw [hf]
 exact h _ (I.tok _)
end
def ain(td ty:TE):TE:=fun σ H Q=>td σ H fun x H1=>∃a,x= .ref a∧IsD H1 a∧ty σ H1 fun y H2=>(∃o,DGet H2 a y o∧Q (o.getD .non) H2)∨∃kvs,y= .non∧Rd H2 a (.dK kvs)∧Q .non H2
section
variable{X:Cx}{o e f:Expr}{apos cpos:Pos}{td ty tx:TE}
theorem ae8(hu:X.A.units+1<cLine)(ho:PE X o td)(he:PE X e ty)(m:M1 X o "get" apos e cpos):PE X (.Call (.Attribute o "get" apos) [e] [] cpos) (ain td ty):=by
 refine⟨fun pins s σ H Q I h=> ?_⟩
 refine wpAny_Call_method m.base m.few m.line PySem.F.plainAttrs_dict PySem.F.slot_dict_get PySem.F.type_dict_get (thn (ho.run pins s σ H _ I h) fun u s1 ⟨x,H1,I1,rx,a,ex,d,q1⟩=> ?_)
 subst ex
 obtain rfl:u=Value.ref a:=rx
 obtain⟨t1,t2,_⟩:=isD_at I1 d
 refine⟨t1,t2,?_⟩
 rw [m.trees]
 refine Calls.callWith_builtin rfl (Calls.evalArgs_plain (Calls.spliced_cons (thn (he.run pins s1 σ H1 _ I1 q1) fun iv s2 ⟨y,H2,I2,ry,q2⟩=>Calls.spliced_nil ?_)))
 rcases q2 with⟨ov,g,q2⟩|⟨kvs,ey,g,q2⟩
 ·exact d_get1 hu I2 g ry fun w' s3 I3 rw' =>⟨_,H2,I3,rw',q2⟩
 ·subst ey
  obtain rfl:iv=Value.none:=ry
  exact aeN I2 g fun s3 I3=>⟨.non,H2,I3,rfl,q2⟩
end
def aa4:D→D→ER
 | .dict _, .none=> .ok .none
 |x,k=>TQ x k
def uL(ma mb:EM):EM:=fun ρ=>(ma ρ).bind fun x=>match x with
 | .dict ds=>if Bf ds=true then(mb ρ).bind (aa4 (.dict ds)) else .bad
 |_=> .bad
section
variable{X:Cx}{W:WQ}{o e:Expr}{ma mb:EM}{apos cpos:Pos}
theorem QH(hu:X.A.units+64<cLine)(ha:DE X W .bor o ma)(hb:DE X W .bor e mb)(hm:M1 X o "get" apos e cpos:=by exact⟨rfl,rfl,rfl,rfl⟩):DE X W .dat (.Call (.Attribute o "get" apos) [e] [] cpos) (uL ma mb):=
 PE.imp (ae8 (by omega) ha hb hm) fun σ H Q ⟨Hf,Hb,ρ,R,h1,h2,h3⟩=>by
 refine⟨Hf,Hb,ρ,R,fun d hd v Hb1 H1 g1 r1=> ?_,fun c hc Hb1 H1 g1=>h2 c (by simp [uL,hc,ER.bind]) Hb1 H1 g1,fun z=>h3 (by simp [uL,z,ER.bind])⟩
 cases d with
 |dict ds=>
  have hm:Bf ds=true:=by
   cases qm:Bf ds with
   |true=>rfl
   |false=>exact absurd (by simp [uL,hd,qm,ER.bind]) h3
  obtain⟨p,kvs,rfl,hd1,pk⟩:=Bo.dict g1.bh r1 hm
  refine⟨p,rfl,agQ hd1,Hf,Hb1,ρ,R.gw g1,fun d2 hd2 v2 Hb2 H2 g2 r2=> ?_,fun c hc Hb2 H2 g2=>h2 c (by simp [uL,hd,hm,hc,ER.bind]) Hb2 H2 (g1.trans g2),fun z=>h3 (by simp [uL,hd,hm,z,ER.bind])⟩
  have e:uL ma mb ρ=aa4 (.dict ds) d2:=by simp [uL,hd,hm,hd2,ER.bind]
  rw [e] at h1 h3
  have old:aa4 (.dict ds) d2=TQ (.dict ds) d2→∃o,DGet H2 p v2 o∧Q (o.getD .non) H2:=fun ed=>by
   rw [ed] at h1 h3
   cases hk:keyOf d2 with
   |none=>exact absurd (by simp only [TQ,hm,if_true,hk]) h3
   |some k=>
    have pk2:PK X.K Hb2 kvs ds:=Paired.imp (fun _ _ q=>⟨q.1,mY g2.b q.2⟩) pk
    rcases Gq (k:=k) pk2 with⟨z1,z2⟩|⟨v,d,z1,z2,z3⟩
    ·exact⟨none, .inl ⟨kvs,k,ex_rd g2.h hd1,r2.key hk,z1.symm⟩,h1 .none (by simp only [TQ,hm,if_true,hk,z2];rfl) .non Hb2 H2 (g1.trans g2) ach⟩
    ·exact⟨some v, .inl ⟨kvs,k,ex_rd g2.h hd1,r2.key hk,z1.symm⟩,h1 d (by simp only [TQ,hm,if_true,hk,z2];rfl) v Hb2 H2 (g1.trans g2) z3⟩
  cases d2 with
  |none=>exact .inr ⟨kvs,r2.non,ex_rd g2.h hd1,h1 .none rfl .non Hb2 H2 (g1.trans g2) ach⟩
  |bool _=>exact .inl (old rfl)
  |int _=>exact .inl (old rfl)
  |str _=>exact .inl (old rfl)
  |list _=>exact .inl (old rfl)
  |tuple _=>exact .inl (old rfl)
  |dict _=>exact .inl (old rfl)
 |_=>exact absurd (by simp [uL,hd,ER.bind]) h3
end
def adG(r r' r'' :R2)(ta tb tc td:TE):TE:=fun σ H Q=>ta σ H fun x H1=>tb σ H1 fun y H2=>r x y H2 fun z H3=>∃k,z= .bl k∧
 (if k=true then tc σ H3 fun w H4=>r' y w H4 fun z' H5=>∃k',z' = .bl k' ∧(if k' =true then td σ H5 fun u H6=>r'' w u H6 Q else Q (.bl false) H5) else Q (.bl false) H3)
section
variable{X:Cx}{a b c d:Expr}{ta tb tc td:TE}{pos:Pos}
theorem aem{op op' op'' :CmpOp}{r r' r'' :R2}(ho:OpR X (compareOp op) r)(ho' :OpR X (compareOp op') r')(ho'' :OpR X (compareOp op'') r'')(ha:PE X a ta)(hb:PE X b tb)(hc:PE X c tc)(hd:PE X d td)
 (hm:lastMarks [op,op',op''] [b,c,d]=false:=by with_unfolding_all rfl):PT X (.Compare a [op,op',op''] [b,c,d] pos) (tTest (adG r r' r'' ta tb tc td)):=by
 refine⟨fun pins s σ H Q I h=> ?_⟩
 refine isTrue_chain (thn (ha.run pins s σ H _ I h) fun v s1 ⟨x,H1,I1,r1,q1⟩=>test_link (thn (hb.run pins s1 σ H1 _ I1 q1) fun u s2 ⟨y,H2,I2,r2,q2⟩=>
  thn (ho pins s2 σ H2 x y v u _ I2 r1 r2 q2) fun dd s3 ⟨z,H3,I3,r3,k,e,q3⟩=> ?_)) hm
 subst e
 cases r3
 refine wpAny_truthy_bool ?_
 cases k with
 |false=>
  obtain⟨k',e',q'⟩:=q3
  cases e'
  exact ite_ff ⟨H3,I3,q'⟩
 |true=>
  refine ite_tt (test_link (thn (hc.run pins s3 σ H3 _ I3 q3) fun w' s4 ⟨z',H4,I4,r4,q4⟩=>thn (ho' pins s4 σ H4 y z' u w' _ I4 r2 r4 q4) fun d5 s5 ⟨z5,H5,I5,r5,k5,e5,q5⟩=> ?_))
  subst e5
  cases r5
  refine wpAny_truthy_bool ?_
  cases k5 with
  |false=>
   obtain⟨k',e',q'⟩:=q5
   cases e'
   exact ite_ff ⟨H5,I5,q'⟩
  |true=>
   refine ite_tt (test_last (thn (hd.run pins s5 σ H5 _ I5 q5) fun w6 s6 ⟨z6,H6,I6,r6,q6⟩=>thn (ho'' pins s6 σ H6 z' z6 w' w6 _ I6 r4 r6 q6) fun d7 s7 ⟨z7,H7,I7,r7,k7,e7,q7⟩=> ?_))
   subst e7
   cases r7
   exact wpAny_truthy_bool ⟨H7,I7,q7⟩
end
def oY(g g' g'' :D→D→ER)(ma mb mc md:EM):EM:=fun ρ=>(ma ρ).bind fun x=>(mb ρ).bind fun y=>(g x y).bind fun z=>match z with
 | .bool true=>(mc ρ).bind fun w=>(g' y w).bind fun z' =>(match z' with
   | .bool true=>(md ρ).bind fun u=>g'' w u
   | .bool false=> .ok (.bool false)
   |_=> .bad)
 | .bool false=> .ok (.bool false)
 |_=> .bad
section
variable{K:aq}{W:WQ}{ma mb mc md:EM}{g g' g'' :D→D→ER}
theorem ab7(ng:lJ g)(ng' :lJ g')(ng'' :lJ g''){σ:L2.St}{H:Hp}{Q:VK}(h:CN K W .dat (oY g g' g'' ma mb mc md) σ H Q):adG (rOf K .dat g) (rOf K .dat g') (rOf K .dat g'') (CN K W .bor ma) (CN K W .bor mb) (CN K W .bor mc) (CN K W .bor md) σ H Q:=by
 obtain⟨Hf,Hb,ρ,R,h1,h2,h3⟩:=h
 refine⟨Hf,Hb,ρ,R,fun d hd v Hb1 H1 g1 r1=> ?_,fun c hc Hb1 H1 g1=>h2 c (by simp [oY,hc,ER.bind]) Hb1 H1 g1,fun z=>h3 (by simp [oY,z,ER.bind])⟩
 refine⟨Hf,Hb1,ρ,R.gw g1,fun d2 hd2 v2 Hb2 H2 g2 r2=> ?_,fun c hc Hb2 H2 g2=>h2 c (by simp [oY,hd,hc,ER.bind]) Hb2 H2 (g1.trans g2),fun z=>h3 (by simp [oY,hd,z,ER.bind])⟩
 cases q:g d d2 with
 |bad=>exact absurd (by simp [oY,hd,hd2,q,ER.bind]) h3
 |ex c=>exact absurd q (ng _ _ _)
 |ok z=>
  refine⟨Hb2,d,d2,z,g2.bh,Bo.ex g2.b g2.h r1,r2,q,fun v3 Hb3 H3 g3 r3=> ?_⟩
  have gg:Gw Hb H Hb3 H3:=(g1.trans g2).trans g3
  cases z with
  |bool b=>
   have e1:v3= .bl b:=Bo.bl (K:=K) (Hb:=Hb3) (H:=H3) (.inl r3)
   refine⟨b,e1,?_⟩
   cases b with
   |false=>
    show Q (.bl false) H3
    exact h1 (.bool false) (by simp [oY,hd,hd2,q,ER.bind]) _ Hb3 H3 gg mX
   |true=>
    show CN K W .bor mc σ H3 fun w' H4=>rOf K .dat g' v2 w' H4 _
    have e:oY g g' g'' ma mb mc md ρ=(mc ρ).bind fun w=>(g' d2 w).bind fun z' =>(match z' with
     | .bool true=>(md ρ).bind fun u=>g'' w u
     | .bool false=> .ok (.bool false)
     |_=> .bad):=by simp only [oY,hd,hd2,q,ER.bind]
    rw [e] at h1 h2 h3
    refine⟨Hf,Hb3,ρ,R.gw gg,fun d4 hd4 v4 Hb4 H4 g4 r4=> ?_,fun c hc Hb4 H4 g4=>h2 c (by simp [hc,ER.bind]) Hb4 H4 (gg.trans g4),fun z=>h3 (by simp [z,ER.bind])⟩
    rw [hd4] at h1 h2 h3
    cases q4:g' d2 d4 with
    |bad=>exact absurd (by simp [q4,ER.bind]) h3
    |ex c=>exact absurd q4 (ng' _ _ _)
    |ok z4=>
     refine⟨Hb4,d2,d4,z4,g4.bh,Bo.ex (g3.b.trans g4.b) (g3.h.trans g4.h) r2,r4,q4,fun v5 Hb5 H5 g5 r5=> ?_⟩
     have gg5:Gw Hb H Hb5 H5:=(gg.trans g4).trans g5
     cases z4 with
     |bool b4=>
      have e4:v5= .bl b4:=Bo.bl (K:=K) (Hb:=Hb5) (H:=H5) (.inl r5)
      refine⟨b4,e4,?_⟩
      cases b4 with
      |false=>
       show Q (.bl false) H5
       exact h1 (.bool false) (by simp [q4,ER.bind]) _ Hb5 H5 gg5 mX
      |true=>
       show CN K W .bor md σ H5 fun w' H6=>rOf K .dat g'' v4 w' H6 Q
       have e6:((ER.ok d4).bind fun w=>(g' d2 w).bind fun z' =>(match z' with
        | .bool true=>(md ρ).bind fun u=>g'' w u
        | .bool false=> .ok (.bool false)
        |_=> .bad))=(md ρ).bind fun u=>g'' d4 u:=by simp only [q4,ER.bind]
       rw [e6] at h1 h2 h3
       refine⟨Hf,Hb5,ρ,R.gw gg5,fun d6 hd6 v6 Hb6 H6 g6 r6=> ?_,fun c hc Hb6 H6 g6=>h2 c (by simp [hc,ER.bind]) Hb6 H6 (gg5.trans g6),fun z=>h3 (by simp [z,ER.bind])⟩
       rw [hd6] at h1 h3
       cases q6:g'' d4 d6 with
       |bad=>exact absurd (by simp [q6,ER.bind]) h3
       |ex c=>exact absurd q6 (ng'' _ _ _)
       |ok z6=>exact⟨Hb6,d4,d6,z6,g6.bh,Bo.ex (g5.b.trans g6.b) (g5.h.trans g6.h) r4,r6,q6,fun v Hb7 H7 g7 r7=>h1 z6 (by simp [q6,ER.bind]) v Hb7 H7 ((gg5.trans g6).trans g7) r7⟩
     |_=>exact absurd (by simp [q4,ER.bind]) h3
  |_=>exact absurd (by simp [oY,hd,hd2,q,ER.bind]) h3
end
section
variable{X:Cx}{W:WQ}{a b c d:Expr}{ma mb mc md:EM}{g g' g'' :D→D→ER}{pos:Pos}
theorem aer{op op' op'' :CmpOp}(ho:HD X (compareOp op) .dat g)(ho' :HD X (compareOp op') .dat g')(ho'' :HD X (compareOp op'') .dat g'')(ng:lJ g)(ng' :lJ g')(ng'' :lJ g'')(ha:DE X W .bor a ma)(hb:DE X W .bor b mb)(hc:DE X W .bor c mc)(hd:DE X W .bor d md)
 (hm:lastMarks [op,op',op''] [b,c,d]=false:=by with_unfolding_all rfl):DT X W (.Compare a [op,op',op''] [b,c,d] pos) (oY g g' g'' ma mb mc md):=PT.imp (aem ho ho' ho'' ha hb hc hd hm) fun σ H Q h=>by
 obtain⟨Hf,Hb,ρ,R,h1,h2,h3⟩:=Qc h
 exact ab7 ng ng' ng'' ⟨Hf,Hb,ρ,R,fun d hd v Hb' H' g r=>h1 d hd v Hb' H' g (.inl r),h2,h3⟩
end
theorem acW{X:Cx}(hu:X.A.units+1<cLine):IxR X (fun x y H Q=>∃a v,x= .ref a∧DGet H a y (some v)∧Q v H):=by
 intro value slice pins s σ H x y v u Q I rx ry h hs
 obtain⟨a,w,rfl,g,q⟩:=h
 obtain rfl:v=Value.ref a:=rx
 have hT:=dict_typeIs I g
 unfold subscriptTail
 refine wpAny_bind ?_
 rw [getitemInPython_of_ne hT.not_modules]
 refine wpAny_bind (wpAny_specialOf hT PySem.F.slot_dict_getitem.lookup ?_)
 have fin:wpAny (model X.prog X.w) X.A (subscripted slice false (.ref a) u) (fun r s₃=>wpAny (model X.prog X.w) X.A (letTemporaryGo value (.ref a) r>>=fun _=>pure r) (EP X pins σ Q) X.xe s₃) X.xe s:=by
  rw [hs]
  exact wpAny_operating (wpAny_mono (d_getItem hu I g ry fun w' s3 I3 rw' =>(⟨w,H,I3,rw',q⟩:EP X pins σ Q w' s3)) (fun r s₃ h₃=>wpAny_bind (wpAny_letTemporaryGo (wpAny_pure h₃))) fun _ _ x=>x)
 first
  |exact wpAny_pure (wpAny_bind fin)
  |exact wpAny_bind (wpAny_pure (wpAny_bind fin))
  |exact wpAny_bind fin
def Mw:D→D→ER
 | .dict ds,k=>jE (.dict ds) k
 |x,k=>fV x k
theorem akh:lJ Mw:=fun x y c h=>by
 cases x with
 |dict ds=>exact ahV (.dict ds) y c h
 |none=>exact T5 .none y c h
 |bool b=>exact T5 (.bool b) y c h
 |int b=>exact T5 (.int b) y c h
 |str b=>exact T5 (.str b) y c h
 |list b=>exact T5 (.list b) y c h
 |tuple b=>exact T5 (.tuple b) y c h
theorem akg{X:Cx}(hu:X.A.units+64<cLine):IxR X (rOf X.K .dat Mw):=by
 intro value slice pins s σ H x y v u Q I rx ry h hs
 obtain⟨Hb,dx,dy,d,eb,bx,byy,hg,q⟩:=h
 have old:Mw dx dy=fV dx dy→wpAny (model X.prog X.w) X.A (subscriptTail value slice v u) (EP X pins σ Q) X.xe s:=fun e=>by
  rw [e] at hg
  exact ajz value slice pins s σ H x y v u Q I rx ry ⟨Hb,dx,dy,d,eb,bx,byy,hg,q⟩ hs
 cases dx with
 |dict ds=>
  have hm:Bf ds=true:=by
   cases qm:Bf ds with
   |true=>rfl
   |false=>simp [Mw,jE,qm] at hg
  obtain⟨p,kvs,rfl,hd,pk⟩:=bx.dict eb hm
  simp only [Mw,jE,hm,if_true] at hg
  split at hg
  ·rename_i k hk
   rcases Gq (k:=k) pk with⟨z1,z2⟩|⟨w,d',z1,z2,z3⟩
   ·rw [z2] at hg
    cases hg
   ·rw [z2] at hg
    cases hg
    exact acW (by omega) value slice pins s σ H _ y v u Q I rx ry ⟨p,w,rfl, .inl ⟨kvs,k,hd,byy.key hk,z1.symm⟩,q w Hb H (Gw.refl eb) z3⟩ hs
  ·cases hg
 |none=>exact old rfl
 |bool _=>exact old rfl
 |int _=>exact old rfl
 |str _=>exact old rfl
 |list _=>exact old rfl
 |tuple _=>exact old rfl
theorem acF{X:Cx}{W:WQ}{a b:Expr}{ma mb:EM}{pos:Pos}(hu:X.A.units+64<cLine)(ha:DE X W .bor a ma)(hb:DE X W .bor b mb)(hs:PlainIx b:=by exact fun _ _=>rfl):DE X W .dat (.Subscript a b pos) (eO Mw ma mb):=PE.imp (pe_ix (akg hu) ha hb hs) fun _ _ _=>Gi akh
end DL
namespace DL
open PySem PySem.Spec L2 Evl PyProof.Rows
def iRv(m:EM):Env→AR:=fun ρ=>match m ρ with
 | .ok (.list ds)=> .ok ds.reverse
 | .ok _=> .bad
 | .ex c=> .ex c
 | .bad=> .bad
theorem alA{K:aq}{Hb1:Hp}{p:Addr}{xs:List V}{ds:List D}(h:SqL K Hb1 p xs)(a:ju K Hb1 xs ds):Yl K Hb1 (Itv K p xs.length) ds.reverse where
 go:=fun i H e hi=>by
  have hl:=iV a
  rw [bR] at hi
  exact⟨by omega,xs,xs[xs.length-1-i]'(by omega),ex_l e h,by simp⟩
 stop:=fun H e=>by
  show xs.length≤ds.reverse.length
  rw [bR,iV a]
  exact bJ _
 yld:=fun i H x H' Hb e1 e2 hi y=>by
  obtain⟨rfl,y⟩:=y
  have hl:=iV a
  rw [bR] at hi
  have hx:=y xs (ex_l (e1.trans e2) h)
  obtain⟨d,d1,d2⟩:=uP a hx
  refine⟨Hb,d,Gw.refl e2,?_,mY e1 d2⟩
  rw [List.getElem?_reverse hi,←hl]
  exact d1
theorem aj5{X:Cx}{W:WQ}{tg e:Expr}{m:EM}{p pos:Pos}(hm:X.mg "reversed"=none)(h:DE X W .dat e m)(hg:Gl X "reversed":=by rfl)(hs:starEach [e] X.env=[(false,eval e X.env)]:=by rfl):DI X W tg (.Call (.Name "reversed" p) [e] [] pos) (iRv m):=
 PI.imp (pi_reversed hg hm (pa_cons h pa_nil hs) hs) fun σ H R ⟨Hf,Hb,ρ,Re,h1,h2,h3⟩=>by
 refine⟨Hf,Hb,ρ,Re,fun d hd v Hb' H' g r=> ?_,fun c hc=>h2 c (by simp [iRv,hc]),fun z=>h3 (by simp [iRv,z])⟩
 cases d with
 |list ds=>
  cases r with
  |lst s a=>exact⟨_,_,rfl,ex_l g.bh s,h1 _ (by simp [iRv,hd]) _ Hb' H' g (alA s a)⟩
 |_=>exact absurd (by simp [iRv,hd]) h3
def U7(n:Int)(ns:List Int):Int:=ns.foldl min n
theorem ad5:∀(ns:List Int) (n:Int),U7 n ns≤n∧∀y∈ns,U7 n ns≤y
 |[],n=>⟨Int.le_refl _,fun y h=>by cases h⟩
 |m::ns,n=>by
  have ih:=ad5 ns (min n m)
  show U7 (min n m) ns≤n∧∀y∈m::ns,U7 (min n m) ns≤y
  refine⟨by omega,fun y hy=> ?_⟩
  rcases aH.mp hy with h|h
  ·omega
  ·exact ih.2 y h
theorem Z4:∀(ns:List Int) (n:Int),U7 n ns∈n::ns
 |[],n=>aR.mpr rfl
 |m::ns,n=>by
  have ih:=Z4 ns (min n m)
  show U7 (min n m) ns∈n::m::ns
  rcases aH.mp ih with h|h
  ·rcases Int.le_total n m with z|z
   ·rw [h,Int.min_eq_left z]
    exact aX
   ·rw [h,Int.min_eq_right z]
    exact aN _ aX
  ·exact aN _ (aN _ h)
def Ss:List D→ER
 |[.list ds]=>(match toInts ds with
  |some (n::ns)=> .ok (.int (U7 n ns))
  |_=> .bad)
 |_=> .bad
theorem aii:yc Ss:=fun ds c h=>by
 unfold Ss at h
 repeat' split at h
 all_goals cases h
theorem ai0{X:Cx}(hc:X.calm=true):CallD X (.builtin "min") .dat Ss:=by
 intro pins s σ H vs us Q I r h
 obtain⟨Hb,ks,ds,d,eb,ra,hg,q⟩:=h
 unfold Ss at hg
 split at hg
 ·split at hg
  ·rename_i n ns hn
   cases hg
   obtain⟨v,rfl,b1⟩:=ra1 ra
   obtain⟨p,xs,e1,s1,a1⟩:=b1.lst eb
   rw [Fx hn a1] at s1
   refine cr_min hc pins s σ H _ us Q I r ⟨p,n::ns,by rw [e1],s1,by simp,fun m h1 h2=> ?_⟩
   have e2:m=U7 n ns:=by
    have z1:=h2 _ (Z4 ns n)
    have z2:=ad5 ns n
    rcases aH.mp h1 with z|z
    ·omega
    ·have:=z2.2 m z
     omega
   rw [e2]
   exact q _ Hb H (Gw.refl eb) pC
  ·cases hg
 ·cases hg
theorem acU{X:Cx}{W:WQ}{rk:Kd}{pos:Pos}(i:Nat){x:Str}{k v:Expr}{mk mv:EM}{p pos' :Pos}(hk:DE X W .bor k mk)(hv:DE X W .dat v mv)(hN:X.N[i]? =some x:=by rfl)(hvis:Vis X.env.scope x:=by first|exact Or.inl rfl|exact Or.inr (Or.inl rfl)|exact Or.inr (Or.inr rfl))(hd:(x==("__debug__":Str))=false:=by decide)
 (hcd:(x==("__classdict__":Str))=false:=by decide) (hs:swapsWithSole [.Subscript (.Name x p) k pos'] v pos.line X.env=pure false:=by rfl) (hw:swappedStores [.Subscript (.Name x p) k pos'] v X.env=pure none:=by rfl) (h1:(assignEach [.Subscript (.Name x p) k pos'] X.env).map (·.2)=[assign (.Subscript (.Name x p) k pos') X.env]:=by rfl)
 (ha:∀v,assign (.Subscript (.Name x p) k pos') X.env v=(do
   let ov←holding [v] (eval (.Name x p) X.env)
   let iv←holding [v,ov] (eval k X.env)
   standAt pos'
   holding [v,ov,iv] (setItem ov iv v)
   release [v,ov,iv] []):=by intro _;rfl):
 DS X W rk (.Assign [.Subscript (.Name x p) k pos'] v pos) (UL i mk mv):=
 PS.imp (ps_asg hv (pg_sub (pe_var hN hvis hd hcd) hk set_list ha) hs hw h1) fun E σ H ⟨Hf,Hb,ρ,R,h⟩=>by
 unfold UL at h
 refine⟨Hf,Hb,ρ,R,fun d hd v Hb1 H1 g1 r1=> ?_,fun c hc Hb1 H1 g1=> ?_,fun z=> ?_⟩
 ·rw [hd] at h
  simp only at h
  split at h
  ·rename_i ds q
   have R1:=R.gw g1
   obtain⟨p,h1,⟨o,ho,hc⟩,h3,h4⟩:=R1.own i _ q
   cases hc with
   |lst al=>
    refine⟨_,h1,Hf,Hb1,ρ,R1,fun d2 hd2 y Hb2 H2 g2 r2=> ?_,fun c hc Hb2 H2 g2=> ?_,fun z=> ?_⟩
    ·rw [hd2] at h
     cases d2 with
     |int kk=>
      simp only at h
      split at h
      ·rename_i jj hj
       have ho' :=g2.h _ _ ho
       have R2:=R1.gw g2
       have hb2:Hb2 p=none:=g2.nw p h4 (by rw [ho];exact True.intro)
       refine⟨p,_,kk,jj,rfl,r2.int,ho',by rw [iV al];exact hj,?_⟩
       exact h σ Hb2 _ (R2.write q h1 (.lst (VL jj (mY g2.b r1) (m9 g2.b al)))) (((g1.trans g2).bw R.ef).trans (Bw.upd g2.bh hb2))
      ·exact h.elim
     |_=>exact h.elim
    ·rw [hc] at h
     exact h σ Hb2 H2 (R.gw (g1.trans g2)) ((g1.trans g2).bw R.ef)
    ·rw [z] at h
     exact h.elim
  ·exact h.elim
 ·rw [hc] at h
  exact h σ Hb1 H1 (R.gw g1) (g1.bw R.ef)
 ·rw [z] at h
  exact h.elim
end DL
namespace DL
open PySem PySem.Spec L2 Evl PyProof.Rows
theorem Yn{k:Key}(h:PyData.none=keyD k):False:=by cases k<;>cases h
def keysOf:List D→Option (List Key)
 |[]=>some []
 |d::ds=>match keyOf d,keysOf ds with
  |some k,some ks=>some (k::ks)
  |_,_=>none
def zf:D→Option (List Key)
 | .tuple ds=>keysOf ds
 |_=>none
theorem Uz:∀ks:List Key,keysOf (ks.map keyD)=some ks
 |[]=>rfl
 |k::ks=>by simp [keysOf,xT,Uz ks]
theorem T6(ks:List Key):zf (.tuple (ks.map keyD))=some ks:=Uz ks
def yD(ds:List (D×D))(k:List Key):Option D:=(ds.find? fun q=>decide (zf q.1=some k)).map (·.2)
def QZ(ds:List (D×D))(k:List Key)(v:D):List (D×D):=
 if(ds.any fun q=>decide (zf q.1=some k))=true then ds.map (fun q=>if zf q.1=some k then(q.1,v) else q) else ds++[(.tuple (k.map keyD),v)]
abbrev PT(K:aq)(Hb:Hp):List (List Key×V)→List (D×D)→Prop:=Paired (fun(p:List Key×V) (q:D×D)=>q.1= .tuple (p.1.map keyD)∧Dr K Hb p.2 q.2)
abbrev tD(ds:List (D×D)):D:= .dict ((.none, .none)::ds)
section
variable{K:aq}{Hb H:Hp}
theorem Ol:∀{ds:List D} {xs:List V} {ks:List Key},ju K Hb xs ds→keysOf ds=some ks→xs=ks.map kV
 |[],_,_, .nil,e=>by
  cases e
  rfl
 |d::ds,_,ks, .cons a b,e=>by
  simp only [keysOf] at e
  cases q:keyOf d with
  |none=>rw [q] at e;cases e
  |some k=>
   cases q2:keysOf ds with
   |none=>rw [q,q2] at e;cases e
   |some ks2=>
    rw [q,q2] at e
    cases e
    rw [Ol b q2,Bo.key (.inl a) q (H:=Hb)]
    rfl
theorem Bo.akO{v:V}{d:D}{k:List Key}(eb:Ex Hb H)(h:Bo K Hb H v d)(e:zf d=some k):∃b,v= .ref b∧H b=some (.tup (k.map kV)):=by
 cases d with
 |tuple ds=>
  rcases h with h|⟨p,rfl,o,h2,h3⟩
  ·cases h with
   |tup a al=>
    rw [Ol al e] at a
    exact⟨_,rfl,eb _ _ a⟩
  ·cases h3
 |_=>cases e
theorem YC{k:List Key}:∀{kvs:List (List Key×V)} {ds:List (D×D)},PT K Hb kvs ds→(valV kvs k=none∧yD ds k=none)∨∃v d,valV kvs k=some v∧yD ds k=some d∧Dr K Hb v d
 |_,_, .nil=> .inl ⟨rfl,rfl⟩
 |_,_, .cons (a:=p) (b:=q) (l₁:=kvs) (l₂:=ds) h r=>by
  have e:zf q.1=some p.1:=by rw [h.1,T6]
  by_cases z:p.1=k
  ·refine .inr ⟨p.2,q.2,valV_pos z,?_,h.2⟩
   have e2:zf q.1=some k:=by rw [e,z]
   simp [yD,dU,e2]
  ·have e2:¬zf q.1=some k:=by
    rw [e]
    exact fun w=>z (Option.some.inj w)
   have e3:yD (q::ds) k=yD ds k:=by simp [yD,dU,e2]
   rw [valV_neg z,e3]
   exact YC r
theorem ahr{k:List Key}:∀{kvs:List (List Key×V)} {ds:List (D×D)},PT K Hb kvs ds→(kvs.any fun kv=>decide (kv.1=k))=ds.any fun q=>decide (zf q.1=some k)
 |_,_, .nil=>rfl
 |_,_, .cons (a:=p) (b:=q) h r=>by
  have e:zf q.1=some p.1:=by rw [h.1,T6]
  rw [dY,dY,ahr r,e]
  congr 1
  simp
theorem afm{k:List Key}{v:V}{d:D}(hv:Dr K Hb v d):∀{kvs:List (List Key×V)} {ds:List (D×D)},PT K Hb kvs ds→PT K Hb (kvs.map fun kv=>if kv.1=k then(kv.1,v) else kv) (ds.map fun q=>if zf q.1=some k then(q.1,d) else q)
 |_,_, .nil=> .nil
 |_,_, .cons (a:=p) (b:=q) h r=>by
  have e:zf q.1=some p.1:=by rw [h.1,T6]
  refine .cons ?_ (afm hv r)
  by_cases z:p.1=k
  ·have e2:zf q.1=some k:=by rw [e,z]
   simp only [z,e2,if_true]
   rw [←z]
   exact⟨h.1,hv⟩
  ·have e2:¬zf q.1=some k:=by
    rw [e]
    exact fun w=>z (Option.some.inj w)
   simp only [z,e2,if_false]
   exact h
theorem alD{k:List Key}{v:V}{d:D}(hv:Dr K Hb v d){kvs:List (List Key×V)}{ds:List (D×D)}(h:PT K Hb kvs ds):PT K Hb (putK kvs k v) (QZ ds k d):=by
 unfold putK QZ
 rw [ahr h]
 split
 ·exact afm hv h
 ·exact Iu h (.cons ⟨rfl,hv⟩ .nil)
theorem ade{K:aq}{Hb:Hp}:∀{ds:List (D×D)} {kvs:List (List Key×V)},Y0 K Hb kvs ds→PT K Hb kvs ds
 |_,_, .nil=> .nil
 |_,_, .cons a b=> .cons ⟨rfl,a⟩ (ade b)
theorem Bo.ag7{v:V}{ds:List (D×D)}(eb:Ex Hb H)(h:Bo K Hb H v (tD ds)):∃p kvs,v= .ref p∧Rd H p (.dT kvs)∧PT K Hb kvs ds:=by
 rcases h with h|⟨p,rfl,o,h2,h3⟩
 ·cases h with
  |DY a b=>
   cases Qg b with
   |cons q r=>exact(Yn q.1).elim
  |JF a b=>exact⟨_,_,rfl, .inr ⟨_,eb _ _ a⟩,ade b⟩
 ·cases h3 with
  |dT a=>exact⟨p,_,rfl,h2.rd,a⟩
  |dK a=>
   cases a with
   |cons q r=>
    obtain⟨q1,_⟩:=q
    exact(Yn q1).elim
end
def aax(neg:Bool):D→D→ER
 |k, .dict ((.none, .none)::ds)=>(match zf k with
  |some k=> .ok (.bool ((yD ds k).isSome !=neg))
  |none=> .bad)
 |_,_=> .bad
def FT:D→D→ER
 | .dict ((.none, .none)::ds),k=>(match zf k with
   |some k=>(match yD ds k with
    |some v=> .ok v
    |none=> .bad)
   |none=> .bad)
 |_,_=> .bad
theorem alB(b:Bool):lJ (aax b):=fun x y c h=>by
 unfold aax at h
 repeat' split at h
 all_goals cases h
theorem aiC:lJ FT:=fun x y c h=>by
 unfold FT at h
 repeat' split at h
 all_goals cases h
section
variable{X:Cx}{W:WQ}{a b o e f:Expr}{ma mb mc:EM}{pos apos cpos:Pos}
theorem Xd{K:aq}{Hb:Hp}{k:List Key}{kvs:List (List Key×V)}{ds:List (D×D)}(h:PT K Hb kvs ds):(valV kvs k).isSome=(yD ds k).isSome:=by
 rcases YC (k:=k) h with⟨h1,h2⟩|⟨v,d,h1,h2,_⟩<;>rw [h1,h2]<;>rfl
theorem aeK(hu:X.A.units+64<cLine):HD X (compareOp .NotIn) .dat (aax true):=by
 intro pins s σ H x y v u Q I rx ry h
 obtain⟨Hb,dx,dy,d,eb,bx,byy,hg,q⟩:=h
 unfold aax at hg
 split at hg
 ·rename_i ds
  split at hg
  ·rename_i k hk
   cases hg
   obtain⟨p,kvs,rfl,hd,pk⟩:=byy.ag7 eb
   obtain⟨b,rfl,hb⟩:=bx.akO eb hk
   cases(show u=Value.ref p from ry)
   refine d_notIn (o:=valV kvs k) (by omega) I (.inr ⟨kvs,k,b,hd,rfl,hb,rfl⟩) rx fun s' I' => ?_
   rw [Xd pk]
   exact⟨.bl (!(yD ds k).isSome),H,I',rfl,by
    have:=q (.bl (!(yD ds k).isSome)) Hb H (Gw.refl eb)
    rw [Bool.bne_true] at this
    exact this mX⟩
  ·cases hg
 ·cases hg
theorem aiq(hu:X.A.units+64<cLine):IxR X (rOf X.K .dat FT):=by
 intro value slice pins s σ H x y v u Q I rx ry h hs
 obtain⟨Hb,dx,dy,d,eb,bx,byy,hg,q⟩:=h
 unfold FT at hg
 split at hg
 ·rename_i ds
  split at hg
  ·rename_i k hk
   obtain⟨p,kvs,rfl,hd,pk⟩:=bx.ag7 eb
   obtain⟨b,rfl,hb⟩:=byy.akO eb hk
   rcases YC (k:=k) pk with⟨z1,z2⟩|⟨w,d',z1,z2,z3⟩
   ·rw [z2] at hg
    cases hg
   ·rw [z2] at hg
    cases hg
    exact acW (by omega) value slice pins s σ H _ _ v u Q I rx ry ⟨p,w,rfl, .inr ⟨kvs,k,b,hd,rfl,hb,z1.symm⟩,q w Hb H (Gw.refl eb) z3⟩ hs
  ·cases hg
 ·cases hg
theorem ah5(hu:X.A.units+64<cLine)(ha:DE X W .bor a ma)(hb:DE X W .bor b mb)(hs:PlainIx b:=by exact fun _ _=>rfl):DE X W .dat (.Subscript a b pos) (eO FT ma mb):=PE.imp (pe_ix (aiq hu) ha hb hs) fun _ _ _=>Gi aiC
theorem ais:DE X W .new (.Dict [] [] pos) (eC (tD [])):=PE.imp pe_dnewT fun σ H Q ⟨Hf,Hb,ρ,R,h1,h2,h3⟩=>fun p hp=>
 h1 (tD []) rfl _ _ _ (Gw.new R.eb hp) ⟨p,rfl,hp,fresh_back R.eb hp,_,upd_same, .dT .nil⟩
def Q6(i:Nat)(mk:EM)(mv:XM):SM:=fun ρ=>match mv ρ with
 | .ok d ρ=>(match ρ[i]? with
   |some (.own (.dict ((.none, .none)::ds)))=>(match mk ρ with
    | .ok k=>(match zf k with
      |some k=>if ds.length<sizeLine then .nx (ρ.set i (.own (tD (QZ ds k d)))) else .bad
      |none=> .bad)
    | .ex c=> .ex c ρ
    | .bad=> .bad)
   |_=> .bad)
 | .ex c ρ=> .ex c ρ
 | .bad=> .bad
theorem aj'{K:aq}{Hb:Hp}{kvs:List (List Key×V)}{ds:List (D×D)}(h:PT K Hb kvs ds):kvs.length=ds.length:=Paired.length h
theorem agX{rk:Kd}(i:Nat){x:Str}{k v:Expr}{mk:EM}{mv:XM}{p pos' :Pos}(hu:X.A.units+64<cLine)(hk:DE X W .bor k mk)(hv:DX X W v mv)(hN:X.N[i]? =some x:=by rfl)(hvis:Vis X.env.scope x:=by first|exact Or.inl rfl|exact Or.inr (Or.inl rfl)|exact Or.inr (Or.inr rfl))(hd:(x==("__debug__":Str))=false:=by decide)
 (hcd:(x==("__classdict__":Str))=false:=by decide) (hs:swapsWith v (some (.Subscript (.Name x p) k pos')) pos.line X.env=pure false:=by rfl):DS X W rk (.Assign [.Subscript (.Name x p) k pos'] v pos) (Q6 i mk mv):=
 PS.imp (ps_dput (by omega) (pe_var hN hvis hd hcd) hk hv hs) fun E σ H ⟨Hf,Hb,ρ,R,h⟩=>by
 unfold Q6 at h
 refine⟨Hf,Hb,ρ,R,fun d ρ1 hd v Hb1 H1 R1 b1 r1=> ?_,fun c ρ1 hc Hb1 H1 R1 b1=> ?_,fun z=> ?_⟩
 ·rw [hd] at h
  simp only at h
  split at h
  ·rename_i ds q
   obtain⟨p,h1,ow,h3,h4⟩:=R1.own i _ q
   obtain⟨p',kvs',ep,rd,al⟩:=Bo.ag7 (K:=X.K) (Hb:=Hb1) (H:=H1) R1.eb (.inr ⟨p,rfl,ow.b⟩)
   cases ep
   obtain⟨o,ho,hc⟩:=ow
   have ho2:∃kvs,o= .dT kvs∧PT X.K Hb1 kvs ds:=by
    cases hc with
    |dT a=>exact⟨_,rfl,a⟩
    |dK a=>
     cases a with
     |cons q r=>
      obtain⟨q1,_⟩:=q
      exact(Yn q1).elim
   obtain⟨kvs,rfl,al⟩:=ho2
   refine⟨_,h1,Hf,Hb1,ρ1,R1,fun d2 hd2 y Hb2 H2 g2 r2=> ?_,fun c hc Hb2 H2 g2=> ?_,fun z=> ?_⟩
   ·rw [hd2] at h
    simp only at h
    split at h
    ·rename_i kk hkk
     split at h
     ·rename_i hz
      have ho' :=g2.h _ _ ho
      have R2:=R1.gw g2
      have hb2:Hb2 p=none:=g2.nw p h4 (by rw [ho];exact True.intro)
      have al2:PT X.K Hb2 kvs ds:=Paired.imp (fun _ _ q=>⟨q.1,mY g2.b q.2⟩) al
      obtain⟨b,rfl,hb⟩:=r2.akO g2.bh hkk
      refine⟨p,_,rfl, .inr ⟨kvs,kk,b,ho',rfl,hb,by rw [aj' al];exact hz,rfl⟩,?_⟩
      exact h σ Hb2 _ (R2.write q h1 (.dT (alD (mY g2.b r1) al2))) ((b1.trans (g2.bw R1.ef)).trans (Bw.upd g2.bh hb2))
     ·exact h.elim
    ·exact h.elim
   ·rw [hc] at h
    exact h σ Hb2 H2 (R1.gw g2) (b1.trans (g2.bw R1.ef))
   ·rw [z] at h
    exact h.elim
  ·exact h.elim
 ·rw [hc] at h
  exact h σ Hb1 H1 R1 b1
 ·rw [z] at h
  exact h.elim
def xE(m:EM):XM:=fun ρ=>match m ρ with
 | .ok d=> .ok d ρ
 | .ex c=> .ex c ρ
 | .bad=> .bad
theorem acJ{m:EM}(h:DE X W .dat e m):DX X W e (xE m):=PE.imp h fun σ H Q ⟨Hf,Hb,ρ,R,h1,h2,h3⟩=>by
 refine⟨Hf,Hb,ρ,R,fun d hd v Hb' H' g r=>h1 d ρ (by simp [xE,hd]) v Hb' H' (R.gw g) (g.bw R.ef) r,fun c hc Hb' H' g=>h2 c ρ (by simp [xE,hc]) Hb' H' (R.gw g) (g.bw R.ef),fun z=>h3 (by simp [xE,z])⟩
end
end DL
namespace DL
open PySem L2 Evl
def G9(ds es:List D):List D:=ds.zipWith (fun d e=>bL [d,e]) es
theorem abe(ds es:List D):(G9 ds es).length=min ds.length es.length:=by simp [G9]
theorem afA{ds es:List D}{i:Nat}{d e:D}(h:ds[i]? =some d)(h2:es[i]? =some e):(G9 ds es)[i]? =some (.tuple [d,e]):=by
 simp [G9,List.getElem?_zipWith,h,h2]
theorem akN{K:aq}{Hb1:Hp}{p q:Addr}{xs ys:List V}{ds es:List D}(h:SqL K Hb1 p xs)(a:ju K Hb1 xs ds)(h2:SqL K Hb1 q ys)(a2:ju K Hb1 ys es):Yl K Hb1 (Itz K p q) (G9 ds es) where
 go:=fun i H e hi=>by
  rw [abe] at hi
  have hl:=iV a
  have hl2:=iV a2
  exact⟨xs,ys,xs[i]'(by omega),ys[i]'(by omega),ex_l e h,ex_l e h2,by simp,by simp⟩
 stop:=fun H e=>⟨xs,ys,ex_l e h,ex_l e h2,by
  have hl:=iV a
  have hl2:=iV a2
  rw [abe]
  omega⟩
 yld:=fun i H x H' Hb e1 e2 hi ⟨T,u,v,ev,hT,eH,hu,hv⟩=>by
  subst ev eH
  obtain⟨d,d1,d2⟩:=uP a (hu xs (ex_l (e1.trans e2) h))
  obtain⟨d',d1',d2'⟩:=uP a2 (hv ys (ex_l (e1.trans e2) h2))
  have z:=Gw.tup (K:=K) (xs:=[u,v]) e2 hT (.cons (mY e1 d2) (.cons (mY e1 d2') .nil))
  exact⟨_,_,z.1,afA d1 d1',z.2⟩
def iZ(ma mb:EM):Env→AR:=fun ρ=>match ou [ma,mb] ρ with
 | .ok [.list ds, .list es]=> .ok (G9 ds es)
 | .ok _=> .bad
 | .ex c=> .ex c
 | .bad=> .bad
theorem akz{X:Cx}{W:WQ}{a b:Expr}{ma mb:EM}{p pos tpos:Pos}{elts:List Expr}{kk:Nat}(hm:X.mg "zip"=none)(h:DA X W [.dat, .dat] [a,b] [ma,mb])(hg:Gl X "zip":=by rfl)(hs:starEach [a,b] X.env=(false,eval a X.env)::starEach [b] X.env:=by rfl)(hpl:(backTo pos (starEach [b] X.env)).any (·.1)=false:=by rfl):
 DI X W (.Tuple elts kk tpos) (.Call (.Name "zip" p) [a,b] [] pos) (iZ ma mb):=PI.imp (pi_zip hg hm h hs hpl) fun σ H R ⟨Hf,Hb,ρ,Re,h1,h2,h3⟩=>by
 refine⟨Hf,Hb,ρ,Re,fun ds hd vs Hb' H' g r=> ?_,fun c hc=>h2 c (by simp [iZ,hc]),fun z=>h3 (by simp [iZ,z])⟩
 cases r with
 |cons r1 r2=>
  cases r2 with
  |cons r2 r3=>
   cases r3
   rename_i v1 d1 v2 d2
   cases d1 with
   |list ds=>
    cases d2 with
    |list es=>
     cases r1 with
     |lst s a=>
      cases r2 with
      |lst s' a' =>exact⟨_,_,_,_,rfl,ex_l g.bh s,ex_l g.bh s',h1 _ (by simp only [iZ,hd]) _ Hb' H' g (akN s a s' a')⟩
    |_=>exact absurd (by simp [iZ,hd]) h3
   |_=>exact absurd (by simp [iZ,hd]) h3
theorem alU{ma mb:EM}{ρ:Env}{ds es:List D}(ha:ma ρ= .ok (.list ds))(hb:mb ρ= .ok (.list es)):iZ ma mb ρ= .ok (G9 ds es):=by
 simp only [iZ,ou,ha,hb]
end DL
namespace DL
open PySem L2 Evl
structure akX(P:Program)(w:World)(K:aq)(mg:Str→Option Value)(base:Heap)(x:Str)(k:Nat)(ps:List Str)(sp:Sp)(i:Int)(n:Nat)(kw:Str):Prop where
 ex:∃fd,FnOk P w K mg base (L2.CX P w) k (He.ga K x) fd ps sp∧Binds K fd ps []∧(∃ds,Vals [V.int i] ds∧Binds K fd ps ds)∧KBn K fd ps n [kw] (fun us ws=>us++ws) (fun vs zs=>vs++zs)∧∃oc od osl,K.lookup (He.ga K x)=some ⟨oc,od, .func fd,osl⟩
 kp:PySem.W.keepIn K (.ref (He.ga K x))=true
 gl:mg x=some (.ref (He.ga K x))
section
variable{P:Program}{w:World}{K:aq}{mg:Str→Option Value}{base:Heap}{fa:List He.Fa}{fn:List He.DefD}
theorem aje{x:Str}{d:He.DefD}(Z:mJ fa fn K mg)(i j:Nat){N ps:List Str}{k n:Nat}{ks:List Kd}{rk:Kd}{m:SM}{dv:Int}{kw:Str}{u:Nat}(hd:fn[i]? =some d)(hx:d.at_=(x,none))(hdf:d.dfl=[.int dv])(hkw:d.kwd=[])(hg:fa[j]? =some (.glo x))(S:FnScope N ps d.scope)(hps:ps.length=ks.length)(hn:N.length=ks.length+n)(hrk:rk= .dat∨∀ρ ρ',m ρ≠ .nx ρ')(hu:ps.length=u+1)
 (hb:∀(T:Addr) (kV doc pm:Value) (an:Option Addr) (cdv ct:Value) (us its:List Value),us.length=u+1→its.length=1→∃k,bindArgs (PySem.W.fnOf d.name d.qual d.params d.body d.scope (.ref T) kV doc pm an cdv ct) ⟨us,[]⟩=seqItems? (.ref T)>>=k∧k (some its.toArray)=pure (ps.zip (us++its.drop 1)))
 (hb2:∀(T:Addr) (kV doc pm:Value) (an:Option Addr) (cdv ct:Value) (us its:List Value),us.length=u→its.length=1→∃k,bindArgs (PySem.W.fnOf d.name d.qual d.params d.body d.scope (.ref T) kV doc pm an cdv ct) ⟨us,[]⟩=seqItems? (.ref T)>>=k∧k (some its.toArray)=pure (ps.zip (us++its.drop 0)))
 (hb3:∀(T:Addr) (kV doc pm:Value) (an:Option Addr) (cdv ct:Value) (us its ws:List Value),us.length=u→its.length=1→ws.length=1→∃k,bindArgs (PySem.W.fnOf d.name d.qual d.params d.body d.scope (.ref T) kV doc pm an cdv ct) ⟨us,[kw].zip ws⟩=seqItems? (.ref T)>>=k∧k (some its.toArray)=pure (ps.zip (us++ws)))
 (hbody:∀(f:Addr) (cdv:Value) (A:Around) (outer:List PySem.Env) (s:Shared) (H:Hp) (E:XK),Room k (cxOf (L2.CX P w) P w K mg base N d.qual d.scope f cdv A outer s H E).A→Takes (cxOf (L2.CX P w) P w K mg base N d.qual d.scope f cdv A outer s H E) (fun cls d _ H=>E cls d H)→
   PassesOwn (model (cxOf (L2.CX P w) P w K mg base N d.qual d.scope f cdv A outer s H E).prog (cxOf (L2.CX P w) P w K mg base N d.qual d.scope f cdv A outer s H E).w) (cxOf (L2.CX P w) P w K mg base N d.qual d.scope f cdv A outer s H E).A (cxOf (L2.CX P w) P w K mg base N d.qual d.scope f cdv A outer s H E).env (cxOf (L2.CX P w) P w K mg base N d.qual d.scope f cdv A outer s H E).xe→
   Wg (cxOf (L2.CX P w) P w K mg base N d.qual d.scope f cdv A outer s H E) ⟨fun cls d _ H=>E cls d H,[]⟩ rk d.body m):
 akX P w K mg base x (k+1) ps (oZ K ks rk (jh ks n m)) dv u kw:=by
 obtain⟨fd,F⟩:=Z.says.def_ i hd
 have ea:He.fAd K d.at_=He.ga K x:=by rw [hx];rfl
 rw [ea] at F
 have kp:=F.kp
 have e1:d.dvs K=[V.int dv]:=by
  unfold He.DefD.dvs
  rw [hdf]
  rfl
 rw [e1] at F
 refine⟨⟨fd,fn_ok F S hps hn hrk (fun cdv A outer s H E hr=>hbody _ cdv A outer s H E hr (takes_of rfl rfl rfl rfl) PassesOwn.leaving),?_,F.binds1 u 0 (by simp) (by simp;omega) hb2,?_,?_⟩,kp,Z.glo j hg⟩
 ·obtain⟨ds,h1,h2⟩:=F.binds1 (u+1) 1 (by simp) (by simp;omega) hb
  cases h1
  exact h2
 ·obtain⟨oc,od,dV,kV,doc,pm,an,cdv,ct,osl,rfl,lk,hcd,hD,hK⟩:=F.ex
  rcases hD with⟨e,_⟩|⟨_,T,o,its,m,rfl,lT,oT,rT⟩
  ·cases e
  ·refine⟨fun s us ws X l1 l2=> ?_,fun r1 r2=>r1.append r2⟩
   obtain⟨k,e1,e2⟩:=hb3 T kV doc pm an cdv ct us its ws l1 rT.length.symm l2
   refine BindsTo.of_looks fun M=> ?_
   rw [e1]
   exact looks_items X lT oT (.of_pure e2)
 ·obtain⟨oc,od,_,_,_,_,_,_,_,osl,_,l,_⟩:=F.ex
  exact⟨oc,od,osl,l⟩
end
theorem oV.snoc{K:aq}{Hb H:Hp}{kd:Kd}{v:V}{d:D}(h:Ra K kd Hb H v d):∀{ks:List Kd} {vs:List V} {ds:List D},oV K Hb H ks vs ds→oV K Hb H (ks++[kd]) (vs++[v]) (ds++[d])
 |_,_,_, .nil=> .cons h .nil
 |_,_,_, .cons a b=> .cons a (oV.snoc h b)
theorem oV.ex{K:aq}{Hb H Hb' H' :Hp}(eb:Ex Hb Hb')(e:Ex H H'):∀{ks:List Kd} {vs:List V} {ds:List D},oV K Hb H ks vs ds→oV K Hb' H' ks vs ds
 |_,_,_, .nil=> .nil
 |_,_,_, .cons a b=> .cons (a.ex eb e) (oV.ex eb e b)
theorem aaH(m:EM)(ρ:Env):∀ms:List EM,ou (ms++[m]) ρ=(match ou ms ρ with
 | .ok ds=>(match m ρ with
   | .ok d=> .ok (ds++[d])
   | .ex c=> .ex c
   | .bad=> .bad)
 | .ex c=> .ex c
 | .bad=> .bad)
 |[]=>by cases h:m ρ<;>simp [ou,h]
 |n::ms=>by
  simp only [cW,ou]
  cases n ρ with
  |ok d=>
   simp only [aaH m ρ ms]
   cases ou ms ρ with
   |ok ds=>cases m ρ<;>rfl
   |ex c=>rfl
   |bad=>rfl
  |ex c=>rfl
  |bad=>rfl
section
variable{X:Cx}{W:WQ}{rk:Kd}{ks:List Kd}{x:Str}{p pos:Pos}{e:Expr}{es:List Expr}{ms:List EM}{g:List D→ER}{k j n:Nat}{ps:List Str}{i:Int}{kw:Str}
theorem aky(h:akX X.prog X.w X.K X.mg X.base x k ps (oZ X.K (ks++[.dat]) rk g) i n kw)(hr:Room j X.A)(tk:Takes X W.w)(ha:DA X W ks (e::es) ms)(hj:k≤j:=by decide)(hg:Gl X x:=by rfl)(hdb:(x==("__debug__":Str))=false:=by decide)
 (he:starEach (e::es) X.env=(false,eval e X.env)::starEach es X.env:=by rfl) (hpl:(backTo pos (starEach es X.env)).any (·.1)=false:=by rfl):DE X W rk (.Call (.Name x p) (e::es) [] pos) (fu g (ms++[eC (.int i)])):=by
 obtain⟨fd,F,B,⟨dl,v1,Bd⟩,_,_⟩:=h.ex
 refine PE.imp (pe_callSD F (hr.mono hj) hg h.gl h.kp Bd v1 (fun σ=>passAt tk σ) ha hdb he hpl) fun σ H Q ⟨Hf,Hb,ρ,R,h1,h2,h3⟩=> ?_
 have ev:∀r,ou ms ρ=r→fu g (ms++[eC (.int i)]) ρ=(match r with
  | .ok ds=>g (ds++[.int i])
  | .ex c=> .ex c
  | .bad=> .bad):=fun r hr=>by
  unfold fu
  rw [aaH,hr]
  cases r<;>rfl
 refine⟨Hf,Hb,ρ,R,fun ds hds vs Hb1 H1 g1 r1=> ?_,fun c hc=>h2 c (by rw [ev _ hc]),fun z=>h3 (by rw [ev _ z])⟩
 have e:=ev _ hds
 rw [e] at h1 h2 h3
 exact⟨Hb1,ds++[.int i],g1.bh,r1.snoc (show Ra X.K .dat Hb1 H1 (V.int i) (.int i) from Dr.int i),fun d hd v Hb2 H2 g2 r2=>h1 d hd v Hb2 H2 (g1.trans g2) (r2.back g1.h),fun c hc Hb2 H2 g2=>h2 c hc Hb2 H2 (g1.trans g2),h3⟩
end
end DL
namespace DL
open PySem L2 Evl
def aeH:SM:=fun _=> .bad
theorem JC{X:Cx}{W:WQ}{rk:Kd}{b:List Stmt}:Wg X W rk b aeH:=⟨fun pins s σ H D I ⟨_,_,_,_,h⟩=>h.elim⟩
end DL
namespace DL
open PySem L2 Evl PyProof.Rows
section
variable{Y:Cx}{w0:WX}{pq:Pn}{xs:List Str}{c:Str}{a:Addr}{oe:Obj}{i:Nat}{n:Str}{p p1 p2 pos:Pos}
end
end DL
namespace DL
open PySem L2 Evl
end DL
namespace DL
open PySem PySem.Spec L2 Evl PyProof.Rows
section
variable{prog:Program}{w:World}{A:Around}{E:Value→Shared→Prop}{s:Shared}{r d:Addr}{es:Array DictEntry}{ep n:Nat}{T:String}{P:Nat→Value→Prop}{OK:Heap→Prop}
end
section
variable{X:Cx}{pins:List (Addr×Obj)}{σ:L2.St}{H:Hp}{s:Shared}{a b:Addr}{r:Value}{v:V}{k:List Key}{kvs:List (List Key×V)}{A:Around}{E:Value→Shared→Prop}
end
section
variable{X:Cx}{o e f:Expr}{td ty tx:TE}{apos cpos:Pos}
end
def J9:D→D→ER
 | .list ds, .int k=>if-(2 ^ 63)≤k∧k<2 ^ 63∧ds.length*k.toNat≤sizeLine then .ok (.list (aD k.toNat ds).flatten) else .bad
 |_,_=> .bad
theorem Wu{K:aq}{H:Hp}{xs:List V}{ds:List D}(h:ju K H xs ds):∀n:Nat,ju K H (aD n xs).flatten (aD n ds).flatten
 |0=> .nil
 |n+1=>by
  rw [cI,cI,dw,dw]
  exact uR h (Wu h n)
section
variable{X:Cx}{W:WQ}{a b o e f:Expr}{ma mb mc:EM}{pos p apos cpos:Pos}
theorem ail(ha:DE X W .new a ma)(hb:DE X W .bor b mb):DE X W .new (.BinOp a .Mult b pos) (eO J9 ma mb):=
 PE.imp (pe_op op_rep ha hb) fun σ H Q ⟨Hf,Hb,ρ,R,h1,h2,h3⟩=>by
  refine⟨Hf,Hb,ρ,R,fun d hd v Hb1 H1 g1 r1=> ?_,fun c hc Hb1 H1 g1=>h2 c (by simp [eO,hc,ER.bind]) Hb1 H1 g1,fun z=>h3 (by simp [eO,z,ER.bind])⟩
  refine⟨Hf,Hb1,ρ,R.gw g1,fun d2 hd2 v2 Hb2 H2 g2 r2=> ?_,fun c hc Hb2 H2 g2=>h2 c (by simp [eO,hd,hc,ER.bind]) Hb2 H2 (g1.trans g2),fun z=>h3 (by simp [eO,hd,z,ER.bind])⟩
  have e:eO J9 ma mb ρ=J9 d d2:=by simp [eO,hd,hd2,ER.bind]
  rw [e] at h1 h3
  cases q:J9 d d2 with
  |bad=>exact absurd q h3
  |ex c=>
   unfold J9 at q
   repeat' split at q
   all_goals cases q
  |ok y=>
   unfold J9 at q
   split at q
   ·rename_i ds k
    split at q
    case isFalse=>cases q
    rename_i hz
    cases q
    obtain⟨p,rfl,h0,hb0,o,ho,hc⟩:=r1
    cases hc with
    |lst al=>
     refine⟨p,k,_,rfl,r2.int,g2.h _ _ ho,hz.1,hz.2.1,by rw [iV al];exact hz.2.2,fun q hq=> ?_⟩
     have z:=Gw.ab6 (K:=X.K) g2.bh hq (Wu (m9 g2.b al) k.toNat)
     exact h1 _ (if_pos hz) _ _ _ ((g1.trans g2).trans z.1) (z.2.back (g1.trans g2).h)
   ·cases q
end
end DL
set_option maxHeartbeats 2000000
namespace DL
open PySem PySem.Spec L2 Evl PyProof.Rows
def Sv:List D→Option (List Str)
 |[]=>some []
 | .str x::r=>(Sv r).map (x::·)
 |_::_=>none
def Gf(a:Str):D→ER
 | .list ds=>(match Sv ds with
   |some ys=>if(ys.map (·.length)).sum+ys.length*a.length≤16777216 then .ok (.str (Txt.join a ys)) else .bad
   |none=> .bad)
 |_=> .bad
def rD(a:Str):D→ER
 | .str b=>if(b.length==0)=false∧a.length+2≤sizeLine then .ok (.list ((Txt.split a b).map aV)) else .bad
 |_=> .bad
def Ih(f:Str→D→ER)(m n:EM):EM:=fun ρ=>(m ρ).bind fun d=>match d with
 | .str z=>(n ρ).bind fun e=>f z e
 |_=> .bad
theorem TF{K:aq}{H:Hp}:∀{ds:List D} {xs:List V} {ys:List Str},Sv ds=some ys→ju K H xs ds→xs=ys.map V.str
 |[],_,_,h, .nil=>by
  cases h
  rfl
 |d::ds,_,ys,h, .cons a b=>by
  cases d with
  |str x=>
   simp only [Sv,aP] at h
   obtain⟨ys,h1,rfl⟩:=h
   cases a
   rw [bA,TF h1 b]
  |_=>cases h
theorem Im{K:aq}{H:Hp}:∀ys:List Str,ju K H (ys.map V.str) (ys.map aV)
 |[]=> .nil
 |y::r=> .cons (.str y) (Im r)
section
variable{X:Cx}{W:WQ}{o e:Expr}{ma mb:EM}{apos pos:Pos}
theorem adl(ho:DE X W .bor o ma)(he:DE X W .bor e mb)(hs:starEach [e] X.env=[(false,eval e X.env)]:=by rfl)(hbase:attributeBase o "join" X.env (eval o X.env)=eval o X.env:=by rfl)(hline:(apos.endLine==pos.line)=true:=by rfl):
 DE X W .dat (.Call (.Attribute o "join" apos) [e] [] pos) (Ih Gf ma mb):=
 PE.imp (pe_join ho he hs hbase hline) fun σ H Q ⟨Hf,Hb,ρ,R,h1,h2,h3⟩=>by
  refine⟨Hf,Hb,ρ,R,fun d hd v Hb1 H1 g1 r1=> ?_,fun c hc Hb1 H1 g1=>h2 c (by simp [Ih,hc,ER.bind]) Hb1 H1 g1,fun z=>h3 (by simp [Ih,z,ER.bind])⟩
  cases d with
  |str a=>
   have e0:=Bo.str r1
   refine⟨⟨a,e0⟩,Hf,Hb1,ρ,R.gw g1,fun d2 hd2 v2 Hb2 H2 g2 r2=> ?_,fun c hc Hb2 H2 g2=>h2 c (by simp [Ih,hd,hc,ER.bind]) Hb2 H2 (g1.trans g2),fun z=>h3 (by simp [Ih,hd,z,ER.bind])⟩
   cases d2 with
   |list ds=>
    cases hk:Sv ds with
    |none=>exact absurd (by simp [Ih,hd,hd2,Gf,hk,ER.bind]) h3
    |some ys=>
     by_cases hz:(ys.map (·.length)).sum+ys.length*a.length≤16777216
     ·obtain⟨p,xs,e1,s1,a1⟩:=Bo.lst g2.bh r2
      rw [TF hk a1] at s1
      exact⟨a,p,ys,e0,by rw [e1], .inl s1,hz,h1 _ (by simp [Ih,hd,hd2,Gf,hk,hz,ER.bind]) _ Hb2 H2 (g1.trans g2) (.str _)⟩
     ·exact absurd (by simp [Ih,hd,hd2,Gf,hk,hz,ER.bind]) h3
   |_=>exact absurd (by simp [Ih,hd,hd2,Gf,ER.bind]) h3
  |_=>exact absurd (by simp [Ih,hd,ER.bind]) h3
theorem TJ(ho:DE X W .bor o ma)(he:DE X W .bor e mb)(hs:starEach [e] X.env=[(false,eval e X.env)]:=by rfl)(hbase:attributeBase o "split" X.env (eval o X.env)=eval o X.env:=by rfl)(hline:(apos.endLine==pos.line)=true:=by rfl):
 DE X W .new (.Call (.Attribute o "split" apos) [e] [] pos) (Ih rD ma mb):=
 PE.imp (pe_split ho he hs hbase hline) fun σ H Q ⟨Hf,Hb,ρ,R,h1,h2,h3⟩=>by
  refine⟨Hf,Hb,ρ,R,fun d hd v Hb1 H1 g1 r1=> ?_,fun c hc Hb1 H1 g1=>h2 c (by simp [Ih,hc,ER.bind]) Hb1 H1 g1,fun z=>h3 (by simp [Ih,z,ER.bind])⟩
  cases d with
  |str a=>
   have e0:=Bo.str r1
   refine⟨⟨a,e0⟩,Hf,Hb1,ρ,R.gw g1,fun d2 hd2 v2 Hb2 H2 g2 r2=> ?_,fun c hc Hb2 H2 g2=>h2 c (by simp [Ih,hd,hc,ER.bind]) Hb2 H2 (g1.trans g2),fun z=>h3 (by simp [Ih,hd,z,ER.bind])⟩
   cases d2 with
   |str b=>
    by_cases hz:(b.length==0)=false∧a.length+2≤sizeLine
    ·refine⟨a,b,e0,by rw [Bo.str r2],hz.1,hz.2,fun p hp=> ?_⟩
     have z:=Gw.ab6 (K:=X.K) g2.bh hp (Im (Txt.split a b))
     have e:Ih rD ma mb ρ= .ok (.list ((Txt.split a b).map aV)):=by
      simp only [Ih,hd,hd2,rD,ER.bind]
      rw [if_pos hz]
     exact h1 _ e _ _ _ ((g1.trans g2).trans z.1) (z.2.back (g1.trans g2).h)
    ·refine absurd ?_ h3
     simp only [Ih,hd,hd2,rD,ER.bind]
     rw [if_neg hz]
   |_=>exact absurd (by simp [Ih,hd,hd2,rD,ER.bind]) h3
  |_=>exact absurd (by simp [Ih,hd,ER.bind]) h3
end
def vK:List D→ER
 |[.int i]=>if i.natAbs.log2<1920 then .ok (.str (toString i)) else .bad
 |[.str x]=> .ok (.str x)
 |_=> .bad
theorem wk:yc vK:=fun ds c h=>by
 unfold vK at h
 repeat' split at h
 all_goals cases h
def S9:List D→ER
 |[.str x]=>(match PySem.intText? x with
  |some n=>if x.length≤640 then .ok (.int n) else .bad
  |none=> .bad)
 |_=> .bad
theorem aij:yc S9:=fun ds c h=>by
 unfold S9 at h
 repeat' split at h
 all_goals cases h
section
variable{X:Cx}
theorem Am:CallD X (.type "str") .dat vK:=by
 intro pins s σ H vs us Q I r h
 obtain⟨Hb,ks,ds,d,eb,ra,hg,q⟩:=h
 unfold vK at hg
 split at hg
 ·split at hg
  ·rename_i i hz
   cases hg
   obtain⟨v,rfl,b1⟩:=ra1 ra
   exact call_str_int pins s σ H _ us Q I r ⟨_,by rw [b1.int],hz,q _ Hb H (Gw.refl eb) (.str _)⟩
  ·cases hg
 ·cases hg
  obtain⟨v,rfl,b1⟩:=ra1 ra
  exact SkE.call_str_str pins s σ H _ us Q I r ⟨_,by rw [b1.str],q _ Hb H (Gw.refl eb) (.str _)⟩
 ·cases hg
theorem aiO:CallD X (.type "int") .dat S9:=by
 intro pins s σ H vs us Q I r h
 obtain⟨Hb,ks,ds,d,eb,ra,hg,q⟩:=h
 unfold S9 at hg
 split at hg
 ·split at hg
  ·rename_i x n hn
   split at hg
   ·rename_i hz
    cases hg
    obtain⟨v,rfl,b1⟩:=ra1 ra
    exact call_int_str pins s σ H _ us Q I r ⟨_,_,by rw [b1.str],hn,hz,q _ Hb H (Gw.refl eb) pC⟩
   ·cases hg
  ·cases hg
 ·cases hg
end
def KY(lo hi c:Int):List D:=(di (if lo<hi then((hi-lo-1)/c+1).toNat else 0)).map fun(i:Nat)=>aF (lo+(i:Int)*c)
def iRc(c:Int)(ma mb mc:EM):Env→AR:=fun ρ=>match ou [ma,mb,mc] ρ with
 | .ok [.int i, .int j, .int k]=>if inR i&&inR j&&decide (k=c) then .ok (KY i j c) else .bad
 | .ok _=> .bad
 | .ex c=> .ex c
 | .bad=> .bad
theorem ajq{K:aq}{Hb1:Hp}(lo hi c:Int):Yl K Hb1 (Itc lo c (if lo<hi then((hi-lo-1)/c+1).toNat else 0)) (KY lo hi c) where
 go:=fun i H _ h=>by simpa [KY,Itc] using h
 stop:=fun H _=>by simp [KY,Itc]
 yld:=fun i H x H' Hb e1 e2 h y=>by
  obtain⟨rfl,rfl⟩:=y
  have h' :i<(if lo<hi then((hi-lo-1)/c+1).toNat else 0):=by simpa [KY] using h
  exact⟨Hb, .int (lo+((i:Nat):Int)*c),Gw.refl e2,by simp [KY,h'], .int _⟩
theorem amc{i j:Int}(ha: -(2 ^ 62)≤i)(ha' :i<2 ^ 62)(hb: -(2 ^ 62)≤j)(hb' :j<2 ^ 62):RgC i j 2 (if i<j then((j-i-1)/2+1).toNat else 0):=by
 have e:Builtin.Range.rangeSize i j 2=if i<j then(j-i-1)/2+1 else 0:=by
  unfold Builtin.Range.rangeSize
  rw [if_pos (by decide)]
 refine⟨by decide,by decide,?_,?_⟩
 ·unfold Builtin.Range.small
  rw [e]
  simp only [Builtin.Range.rangeFitsLong,cV,Bool.or_eq_true,decide_eq_true_eq,beq_iff_eq,show(2:Int)>0 by decide,if_true]
  split<;>omega
 ·rw [e]
  split<;>omega
theorem akb{X:Cx}{W:WQ}{tg a b c:Expr}{ma mb mc:EM}{p pos:Pos}(hm:X.mg "range"=none)(h:DA X W [.bor, .bor, .bor] [a,b,c] [ma,mb,mc])(hg:Gl X "range":=by rfl)
 (hs:starEach [a,b,c] X.env=(false,eval a X.env)::starEach [b,c] X.env:=by rfl) (hpl:(backTo pos (starEach [b,c] X.env)).any (·.1)=false:=by rfl):
 DI X W tg (.Call (.Name "range" p) [a,b,c] [] pos) (iRc 2 ma mb mc):=
 PI.imp (pi_range3 hg hm h hs hpl) fun σ H R ⟨Hf,Hb,ρ,Re,h1,h2,h3⟩=>by
 refine⟨Hf,Hb,ρ,Re,fun ds hd vs Hb' H' g r=> ?_,fun c hc=>h2 c (by simp only [iRc,hc]),fun z=>h3 (by simp only [iRc,z])⟩
 cases r with
 |cons r1 r2=>
  cases r2 with
  |cons r2 r3=>
   cases r3 with
   |cons r3 r4=>
    cases r4
    rename_i v1 d1 v2 d2 v3 d3
    cases d1 with
    |int i=>
     cases d2 with
     |int j=>
      cases d3 with
      |int k=>
       by_cases hz:(inR i&&inR j&&decide (k=2))=true
       ·have hz2:=Bool.and_eq_true_iff.mp hz
        have hz3:=Bool.and_eq_true_iff.mp hz2.1
        have hk:k=2:=of_decide_eq_true hz2.2
        subst hk
        refine⟨i,j,2,_,by rw [Bo.int r1,Bo.int r2,Bo.int r3],amc (tW.mp hz3.1).1 (tW.mp hz3.1).2 (tW.mp hz3.2).1 (tW.mp hz3.2).2,h1 (KY i j 2) ?_ _ Hb' H' g (ajq i j 2)⟩
        unfold iRc
        rw [hd]
        exact if_pos hz
       ·refine absurd ?_ h3
        unfold iRc
        rw [hd]
        exact if_neg hz
      |_=>exact absurd (by simp [iRc,hd]) h3
     |_=>exact absurd (by simp [iRc,hd]) h3
    |_=>exact absurd (by simp [iRc,hd]) h3
def adM(i:Nat)(m:SM):SM:=fun ρ=>match ρ[i]? with
 |some (.own (.dict ds))=>if Bf ds=true then m (ρ.set i (.dat (.dict ds))) else .bad
 |_=> .bad
theorem gJ.ajc{K:aq}{pn:Pn}{Hf Hb H:Hp}{σ:L2.St}{ρ:Env}{i:Nat}{ds:List (D×D)}{p:Addr}{kvs:List (Key×V)}{od:Obj}(R:gJ K pn Hf Hb H σ ρ)(q:ρ[i]? =some (.own (.dict ds)))(hv:σ[i]? =some (some (.ref p)))(pk:PK K Hb kvs ds):
 gJ K pn Hf (upd Hb p (.frz od (.dK kvs))) (upd H p (.frz od (.dK kvs))) σ (ρ.set i (.dat (.dict ds)))∧Bw Hf Hb (upd Hb p (.frz od (.dK kvs))) (upd H p (.frz od (.dK kvs))):=by
 obtain⟨F,r⟩:=R
 obtain⟨p1,h1,h2,h3⟩:=r.sl i _ q
 rw [hv] at h2
 cases h2
 obtain⟨f1,f2,f3⟩:=r.fr i p (by rw [h1];simp)
 have e1:Ex Hb (upd Hb p (.frz od (.dK kvs))):=Ex.new f2
 have e2:Ex (upd Hb p (.frz od (.dK kvs))) (upd H p (.frz od (.dK kvs))):=fun a u qa=>by
  by_cases z:a=p
  ·subst z
   rw [upd_same] at qa⊢
   exact qa
  ·rw [upd_ne z] at qa⊢
   exact r.eb a u qa
 refine⟨⟨_,r.step (fp:=[]) (fun a o e=>by rw [upd_ne (ne_of_none e f1)];exact r.ef a o e) e2 e1 rfl (fun j z=>rfl) (fun a ha _ k2 _=> ?_) (fun _=>⟨rfl,_,hv, .DY upd_same (Xo e1 (adi pk))⟩) cR (fun a ha=>by cases ha) (fun j a _ ha=>by cases ha) (fun a z=>r.pin i a z)⟩,e1,e2,fun a z1 z2=> ?_⟩
 ·have z:a≠p:=fun z=>ha (by rw [h1,z];simp)
  exact⟨upd_ne z,by rw [upd_ne z];exact k2⟩
 ·have z:a≠p:=fun z=>by
   subst z
   rw [f1] at z2
   exact z2
  rw [upd_ne z]
  exact z1
def akA(t:TS):TS:=fun E σ H=>∃d u,H d=some u∧Mut (some u)∧∀od,t E σ (upd H d (.frz od u))
theorem agc{X:Cx}{st:Stmt}{t:TS}(h:PS X st t):PS X st (akA t):=by
 refine⟨fun pins s σ H D I hw=> ?_⟩
 obtain⟨d,u,hd,mu,hw⟩:=hw
 obtain⟨od,I1⟩:=I.lock hd mu
 exact h.run pins s σ _ _ I1 (hw od)
theorem aiM{X:Cx}{W:WQ}{rk:Kd}{st:Stmt}{m:SM}(i:Nat)(h:DS X W rk st m):DS X W rk st (adM i m):=PS.imp (agc h) fun E σ H ⟨Hf,Hb,ρ,R,q⟩=>by
 unfold adM at q
 split at q
 ·rename_i ds z
  by_cases hm:Bf ds=true
  ·rw [if_pos hm] at q
   obtain⟨p,h1,⟨o,ho,hc⟩,h3,h4⟩:=R.own i _ z
   cases hc with
   |dT al=>cases hm
   |dK al=>
    refine⟨p,_,ho,True.intro,fun od=> ?_⟩
    obtain⟨R',b⟩:=R.ajc (od:=od) z h1 al
    exact⟨Hf,_,_,R',lO.weak b q⟩
  ·rw [if_neg hm] at q
   exact q.elim
 ·exact q.elim
def agj(i j:Nat):SM:=fun ρ=>match ρ[j]? with
 |some (.own d)=>if i=j then .bad else .nx ((ρ.set j .un).set i (.own d))
 |_=> .bad
theorem gJ.move{K:aq}{pn:Pn}{Hf Hb H:Hp}{σ:L2.St}{ρ:Env}{i j:Nat}{d:D}{p:Addr}(R:gJ K pn Hf Hb H σ ρ)(hj:ρ[j]? =some (.own d))(hv:σ[j]? =some (some (.ref p)))(ho:yg pn i):gJ K pn Hf Hb H (σ.set i (some (.ref p))) ((ρ.set j .un).set i (.own d)):=by
 obtain⟨F,r⟩:=R
 obtain⟨p1,h1,h2,h3⟩:=r.sl j _ hj
 rw [hv] at h2
 cases h2
 obtain⟨f1,f2,f3⟩:=r.fr j p (by rw [h1];simp)
 have r1:=r.step (i:=j) (s:= .un) (fp:=[]) r.ef r.eb (Ex.refl _) rfl (fun k z=>rfl) (fun a _ _ k2 _=>⟨rfl,k2⟩) (fun _=>rfl) cR (fun a ha=>by cases ha) (fun k a _ ha=>by cases ha) (fun a q=>r.pin j a q)
 refine⟨_,r1.step (i:=i) (s:= .own d) (fp:=[p]) r.ef r.eb (Ex.refl _) (by simp) (fun k z=>Y8 z) (fun a _ _ k2 _=>⟨rfl,k2⟩) (fun hi=>⟨p,rfl,Qh (by rw [r.len];simpa using hi),h3⟩) (by simp) (fun a ha=> ?_) (fun k a z ha hk=> ?_) (fun a q=>absurd q (ho a))⟩
 ·rw [aR.mp ha]
  exact⟨f1,f2,f3⟩
 ·by_cases z2:k=j
  ·simp [z2] at hk
  ·simp only [if_neg z2] at hk
   exact r.dj k j a z2 hk (by rw [h1];exact ha)
theorem ai2{X:Cx}{W:WQ}{rk:Kd}(i j:Nat){x y:Str}{pos' q pos:Pos}(hN:X.N.Nodup)(hi:X.N[i]? =some x:=by rfl)(hx:Loc X.env.scope x:=by first|exact Or.inl rfl|exact Or.inr rfl)(hs:swapsWith (.Name y q) (some (.Name x pos')) pos.line X.env=pure false:=by rfl)
 (hf:X.fn x=true∨X.env.scope.names.lookup x=some .local:=by first|exact .inl rfl|exact .inr rfl|assumption) (ho:yg W.pin i:=by intro _ z;first|(cases z;done)|exact absurd (dM z).1 (by decide)|(simp at z;done))
 (hNj:X.N[j]? =some y:=by rfl) (hv:Vis X.env.scope y:=by first|exact Or.inl rfl|exact Or.inr (Or.inl rfl)|exact Or.inr (Or.inr rfl)) (hd:(y==("__debug__":Str))=false:=by decide) (hcd:(y==("__classdict__":Str))=false:=by decide):
 DS X W rk (.Assign [.Name x pos'] (.Name y q) pos) (agj i j):=PS.imp (ps_set hN hi hx (pe_var hNj hv hd hcd) hs hf) fun E σ H ⟨Hf,Hb,ρ,R,h⟩=>by
 unfold agj at h
 split at h
 ·rename_i d hj
  by_cases hij:i=j
  ·rw [if_pos hij] at h
   exact h.elim
  ·rw [if_neg hij] at h
   obtain⟨p,h1,ow,h3,h4⟩:=R.own j d hj
   refine⟨_,h1,?_⟩
   exact h _ Hb H (R.move hj h1 ho) (Bw.refl R.eb)
 ·exact h.elim
end DL
set_option maxHeartbeats 2000000
namespace DL
open PySem PySem.Spec L2 Evl PyProof.Rows
instance:DecidableEq NK:=fun a b=>match a,b with
 | .lst, .lst=> .isTrue rfl
 | .lst, .ins _ _=> .isFalse (fun z=>nomatch z)
 | .ins _ _, .lst=> .isFalse (fun z=>nomatch z)
 | .ins c fs, .ins d gs=>if h:c=d∧fs=gs then .isTrue (by rw [h.1,h.2]) else .isFalse (fun z=>by cases z;exact h ⟨rfl,rfl⟩)
theorem Uu:∀{fs:List Str} {vs:List V} {j:Nat} {f:Str} {v:V},fs.Nodup→fs[j]? =some f→vs[j]? =some v→(fs.zip vs).lookup f=some v
 |[],_,_,_,_,_,h,_=>by simp at h
 |_::_,[],_,_,_,_,_,h=>by simp at h
 |g::fs,x::vs,0,f,v,_,h1,h2=>by
  simp at h1 h2
  subst h1 h2
  simp
 |g::fs,x::vs,j+1,f,v,nd,h1,h2=>by
  have ne:(f==g)=false:=by
   rw [beq_eq_false_iff_ne]
   intro z
   subst z
   exact(bY.mp nd).1 (bf (by simpa using h1))
  rw [List.zip_cons_cons,List.lookup_cons,ne]
  exact Uu (bY.mp nd).2 (by simpa using h1) (by simpa using h2)
theorem abb:∀{fs:List Str} {vs:List V} {f:Str} {v:V},f∉fs→vs.length=fs.length→putF f v (fs.zip vs)=(fs++[f]).zip (vs++[v])
 |[],[],_,_,_,_=>rfl
 |[],_::_,_,_,_,h=>by simp at h
 |_::_,[],_,_,_,h=>by simp at h
 |g::fs,x::vs,f,v,hn,h=>by
  have ne:¬g=f:=fun z=>hn (by rw [z];exact aX)
  rw [List.zip_cons_cons,putF,if_neg ne,abb (fun z=>hn (aN _ z)) (by simpa using h)]
  rfl
section
variable{K:aq}{Hb H:Hp}{vs:List V}{cs:List Sl}{fq:List Addr}
theorem yh.len(h:yh K Hb H vs cs fq):vs.length=cs.length:=by
 induction h with
 |nil=>rfl
 |dat _ _ ih=>simp [ih]
 |own _ _ ih=>simp [ih]
 |un _ ih=>simp [ih]
theorem yh.dat'(h:yh K Hb H vs cs fq):∀{j:Nat} {d:D},cs[j]? =some (.dat d)→∃v,vs[j]? =some v∧Dr K Hb v d:=by
 induction h with
 |nil=>intro j d e;simp at e
 |dat a _ ih=>
  intro j d e
  cases j with
  |zero=>simp at e;subst e;exact⟨_,rfl,a⟩
  |succ j=>simpa using ih (by simpa using e)
 |own a _ ih=>
  intro j d e
  cases j with
  |zero=>simp at e
  |succ j=>simpa using ih (by simpa using e)
 |un _ ih=>
  intro j d e
  cases j with
  |zero=>simp at e
  |succ j=>simpa using ih (by simpa using e)
theorem yh.own'(h:yh K Hb H vs cs fq):∀{j:Nat} {d:D},cs[j]? =some (.own d)→fq.Nodup→∃p,vs[j]? =some (.ref p)∧p∈fq∧Ow K Hb H p d∧∀(o' :HO) (d' :D),Ob K Hb o' d' →yh K Hb (upd H p o') vs (cs.set j (.own d')) fq:=by
 induction h with
 |nil=>intro j d e;simp at e
 |dat a _ ih=>
  intro j d e nd
  cases j with
  |zero=>simp at e
  |succ j=>
   obtain⟨p,h1,h2,h3,h4⟩:=ih (j:=j) (by simpa using e) nd
   exact⟨p,by simpa using h1,h2,h3,fun o' d' b=> .dat a (h4 o' d' b)⟩
 |own a r ih=>
  rename_i q d0 vs cs fp
  intro j d e nd
  obtain⟨n1,n2⟩:=bY.mp nd
  cases j with
  |zero=>
   simp at e
   subst e
   refine⟨_,rfl,aX,a,fun o' d' b=> .own ⟨o',upd_same,b⟩ (r.frame (Ex.refl _) fun p hp o ho=> ?_)⟩
   rw [upd_ne (fun z=>n1 (by rw [←z];exact hp))]
   exact ho
  |succ j=>
   obtain⟨p,h1,h2,h3,h4⟩:=ih (j:=j) (by simpa using e) n2
   refine⟨p,by simpa using h1,aN _ h2,h3,fun o' d' b=> .own ?_ (h4 o' d' b)⟩
   obtain⟨o,a1,a2⟩:=a
   exact⟨o,by rw [upd_ne (fun z=>n1 (by rw [z];exact h2))];exact a1,a2⟩
 |un _ ih=>
  intro j d e nd
  cases j with
  |zero=>simp at e
  |succ j=>
   obtain⟨p,h1,h2,h3,h4⟩:=ih (j:=j) (by simpa using e) nd
   exact⟨p,by simpa using h1,h2,h3,fun o' d' b=> .un (h4 o' d' b)⟩
inductive PtR(K:aq)(Hb H:Hp):V→Sl→List Addr→Prop
 |dat {v:V} {d:D}:Dr K Hb v d→PtR K Hb H v (.dat d) []
 |own {p:Addr} {d:D}:Ow K Hb H p d→PtR K Hb H (.ref p) (.own d) [p]
 |un {v:V}:PtR K Hb H v .un []
theorem PtR.cons{v:V}{s:Sl}{ext:List Addr}(a:PtR K Hb H v s ext)(h:yh K Hb H vs cs fq):yh K Hb H (v::vs) (s::cs) (ext++fq):=by
 cases a with
 |dat a=>exact .dat a h
 |own a=>exact .own a h
 |un=>exact .un h
theorem yh.put{v:V}{s:Sl}{ext:List Addr}(a:PtR K Hb H v s ext)(h:yh K Hb H vs cs fq):∀(j:Nat),j<cs.length→∃fq',yh K Hb H (vs.set j v) (cs.set j s) fq' ∧(∀q∈fq',q∈ext∨q∈fq)∧(fq.Nodup→(∀q∈ext,q∉fq)→fq'.Nodup):=by
 have ex1:ext.length≤1:=by cases a<;>simp
 have exn:ext.Nodup:=by cases a<;>simp
 induction h with
 |nil=>intro j e;simp at e
 |dat b r ih=>
  intro j e
  cases j with
  |zero=>
   refine⟨_,a.cons r,fun q hq=>aM.mp hq,fun n1 n2=> ?_⟩
   exact cA.mpr ⟨exn,n1,fun x hx y hy z=>n2 x hx (by rw [z];exact hy)⟩
  |succ j=>
   obtain⟨fq',h1,h2,h3⟩:=ih j (by simpa using e)
   exact⟨fq', .dat b h1,h2,h3⟩
 |own b r ih=>
  rename_i q0 d0 vs cs fp
  intro j e
  cases j with
  |zero=>
   refine⟨_,a.cons r,fun q hq=> ?_,fun n1 n2=> ?_⟩
   ·rcases aM.mp hq with z|z
    ·exact .inl z
    ·exact .inr (aN _ z)
   ·exact cA.mpr ⟨exn,(bY.mp n1).2,fun x hx y hy z=>n2 x hx (by rw [z];exact aN _ hy)⟩
  |succ j=>
   obtain⟨fq',h1,h2,h3⟩:=ih j (by simpa using e)
   refine⟨q0::fq', .own b h1,fun q hq=> ?_,fun n1 n2=> ?_⟩
   ·rcases aH.mp hq with z|z
    ·exact .inr (by rw [z];exact aX)
    ·rcases h2 q z with z|z
     ·exact .inl z
     ·exact .inr (aN _ z)
   ·obtain⟨m1,m2⟩:=bY.mp n1
    refine bY.mpr ⟨fun z=> ?_,h3 m2 fun q hq z=>n2 q hq (aN _ z)⟩
    rcases h2 q0 z with z|z
    ·exact n2 q0 z aX
    ·exact m1 z
 |un r ih=>
  intro j e
  cases j with
  |zero=>
   refine⟨_,a.cons r,fun q hq=>aM.mp hq,fun n1 n2=> ?_⟩
   exact cA.mpr ⟨exn,n1,fun x hx y hy z=>n2 x hx (by rw [z];exact hy)⟩
  |succ j=>
   obtain⟨fq',h1,h2,h3⟩:=ih j (by simpa using e)
   exact⟨fq', .un h1,h2,h3⟩
theorem yh.snoc{v:V}{s:Sl}{ext:List Addr}(a:PtR K Hb H v s ext)(h:yh K Hb H vs cs fq):yh K Hb H (vs++[v]) (cs++[s]) (fq++ext):=by
 induction h with
 |nil=>
  have z:=a.cons .nil
  rw [aJ] at z
  exact z
 |dat b r ih=>exact .dat b ih
 |own b r ih=>exact .own b ih
 |un r ih=>exact .un ih
end
section
variable{pn:Pn}{K:aq}{H H' Hb Hb' Hf:Hp}{σ:L2.St}{ρ:Env}{i j:Nat}{k:NK}{cs:List Sl}{vs:List V}{fq:List Addr}
def Pts(ρ:Env)(i:Nat)(k:NK)(cs:List Sl):Prop:=ρ[i]? =some (.nst k cs)∨ρ[i]? =some (.vP k cs)
theorem yh.am7(h:yh K Hb H vs cs fq):∀{j:Nat} {d:D},cs[j]? =some (.own d)→∃p,vs[j]? =some (.ref p)∧Ow K Hb H p d:=by
 induction h with
 |nil=>intro j d e;simp at e
 |dat _ _ ih=>
  intro j d e
  cases j with
  |zero=>simp at e
  |succ j=>simpa using ih (by simpa using e)
 |own a _ ih=>
  intro j d e
  cases j with
  |zero=>simp at e;subst e;exact⟨_,rfl,a⟩
  |succ j=>simpa using ih (by simpa using e)
 |un _ ih=>
  intro j d e
  cases j with
  |zero=>simp at e
  |succ j=>simpa using ih (by simpa using e)
theorem yh.alZ(h:yh K Hb H vs cs fq):∀{j:Nat} {d:D},cs[j]? ≠some (.bor d):=by
 induction h with
 |nil=>intro j d e;simp at e
 |dat _ _ ih=>
  intro j d e
  cases j with
  |zero=>simp at e
  |succ j=>exact ih (by simpa using e)
 |own a _ ih=>
  intro j d e
  cases j with
  |zero=>simp at e
  |succ j=>exact ih (by simpa using e)
 |un _ ih=>
  intro j d e
  cases j with
  |zero=>simp at e
  |succ j=>exact ih (by simpa using e)
theorem Wo.dat'(h:Wo K Hb H vs cs):∀{j:Nat} {d:D},cs[j]? =some (.dat d)→∃v,vs[j]? =some v∧Dr K Hb v d:=by
 induction h with
 |nil=>intro j d e;simp at e
 |dat a _ ih=>
  intro j d e
  cases j with
  |zero=>simp at e;subst e;exact⟨_,rfl,a⟩
  |succ j=>simpa using ih (by simpa using e)
 |bor a _ ih=>
  intro j d e
  cases j with
  |zero=>simp at e
  |succ j=>simpa using ih (by simpa using e)
 |un _ ih=>
  intro j d e
  cases j with
  |zero=>simp at e
  |succ j=>simpa using ih (by simpa using e)
theorem Wo.alf(h:Wo K Hb H vs cs):∀{j:Nat} {d:D},(cs[j]? =some (.own d)∨cs[j]? =some (.bor d))→∃p,vs[j]? =some (.ref p)∧Yx K Hb H p d:=by
 induction h with
 |nil=>intro j d e;simp at e
 |dat a _ ih=>
  intro j d e
  cases j with
  |zero=>simp at e
  |succ j=>simpa using ih (by simpa using e)
 |bor a _ ih=>
  intro j d e
  cases j with
  |zero=>simp at e;subst e;exact⟨_,rfl,a⟩
  |succ j=>simpa using ih (by simpa using e)
 |un _ ih=>
  intro j d e
  cases j with
  |zero=>simp at e
  |succ j=>simpa using ih (by simpa using e)
theorem gJ.parts(R:gJ K pn Hf Hb H σ ρ)(h:Pts ρ i k cs):∃p vs hp,σ[i]? =some (some (.ref p))∧Y4 K H p vs k hp∧(∀(j:Nat) (d:D),cs[j]? =some (Sl.dat d)→∃v,vs[j]? =some v∧Dr K Hb v d)∧∀(j:Nat) (d:D),(cs[j]? =some (Sl.own d)∨cs[j]? =some (Sl.bor d))→∃q,vs[j]? =some (V.ref q)∧Yx K Hb H q d:=by
 obtain⟨F,r⟩:=R
 rcases h with h|h
 ·obtain⟨v,h1,p,vs,hp,fq,h2,h3,h4,_⟩:=r.sl i _ h
  subst h2
  refine⟨p,vs,hp,h1,h3,fun j d e=>h4.dat' e,fun j d e=> ?_⟩
  rcases e with e|e
  ·obtain⟨q,q1,q2⟩:=h4.am7 e
   exact⟨q,q1,q2.b⟩
  ·exact absurd e h4.alZ
 ·obtain⟨_,p,vs,hp,h1,h2,h3⟩:=r.sl i _ h
  have h3' :=h3.ex (Ex.refl _) r.ef
  exact⟨p,vs,hp,h1,h2.frame fun a _ o z=>r.ef a o z,fun j d e=>h3'.dat' e,fun j d e=>h3'.alf e⟩
theorem Y4.len{p:Addr}{vs:List V}{hp:List Addr}{c:Str}{fs:List Str}(h:Y4 K H p vs (.ins c fs) hp):vs.length=fs.length:=let ⟨_,_,_,h,_⟩:=h;h
theorem Mi.nst{F:Nat→List Addr}(r:Mi K pn Hf Hb H σ ρ F)(h:ρ[i]? =some (.nst k cs)):∃p vs hp fq,σ[i]? =some (some (.ref p))∧Y4 K H p vs k hp∧yh K Hb H vs cs fq∧(hp++fq).Nodup∧(∀a∈hp++fq,Hf a=none∧Hb a=none∧NT (H a))∧F i=hp++fq∧
 ∀(Hb' H' :Hp) (vs' :List V) (k' :NK) (hp' :List Addr) (cs' :List Sl) (fq' :List Addr),(∀a o,a∉hp++fq→H a=some o→H' a=some o)→Ex Hb Hb' →Ex Hb' H' →(∀a,a∉hp++fq→Hb a=none→NT (H a)→Hb' a=none)→Y4 K H' p vs' k' hp' →hp' =hp→yh K Hb' H' vs' cs' fq' →fq'.Nodup→
  (∀a∈fq',a∈fq∨Hf a=none∧∀l,l≠i→a∉F l)→(∀a∈fq',a∉hp)→(∀a∈hp++fq',Hb' a=none)→gJ K pn Hf Hb' H' σ (ρ.set i (.nst k' cs')):=by
 obtain⟨v,h1,p,vs,hp,fq,h2,h3,h4,h5⟩:=r.sl i _ h
 subst h2
 refine⟨p,vs,hp,fq,h1,h3,h4,by rw [←h5];exact r.nd i,fun a ha=>r.fr i a (by rw [h5];exact ha),h5,?_⟩
 intro Hb' H' vs' k' hp' cs' fq' e1 b bh nw hd ehp c nd sub nhp hb
 subst ehp
 have hpn:hp'.Nodup:=by
  have:=r.nd i
  rw [h5] at this
  exact(cA.mp this).1
 have hfn:∀a∈hp' ++fq',Hf a=none:=fun a ha=>by
  rcases aM.mp ha with ha|ha
  ·exact(r.fr i a (by rw [h5];exact bB _ ha)).1
  ·rcases sub a ha with z|z
   ·exact(r.fr i a (by rw [h5];exact bK _ z)).1
   ·exact z.1
 have new:NsR K Hb' H' (.ref p) k' cs' (hp' ++fq'):=⟨p,vs',hp',fq',rfl,hd,c,rfl⟩
 refine⟨_,r.step (i:=i) (fp:=hp' ++fq') (fun a o e=>e1 a o (fun z=> ?_) (r.ef a o e)) bh b rfl (fun _ _=>rfl) (fun a ha _ k2 k3=> ?_) (fun _=>⟨_,h1,new⟩) (cA.mpr ⟨hpn,nd,fun x hx y hy z=>nhp y hy (by rw [←z];exact hx)⟩) (fun a ha=>⟨hfn a ha,hb a ha,new.nt a ha⟩) (fun l a hl ha hj=> ?_) (fun a q=>r.pin i a q)⟩
 ·have:=(r.fr i a (by rw [h5];exact z)).1
  rw [e] at this
  cases this
 ·rw [h5] at ha
  obtain⟨o,ho⟩:=wC k3
  exact⟨by rw [ho];exact e1 a o ha ho,nw a ha k2 k3⟩
 ·rcases aM.mp ha with ha|ha
  ·exact r.dj l i a hl hj (by rw [h5];exact bB _ ha)
  ·rcases sub a ha with z|z
   ·exact r.dj l i a hl hj (by rw [h5];exact bK _ z)
   ·exact z.2 l hl hj
theorem gJ.nst(R:gJ K pn Hf Hb H σ ρ)(h:ρ[i]? =some (.nst k cs)):∃p vs hp fq,σ[i]? =some (some (.ref p))∧Y4 K H p vs k hp∧yh K Hb H vs cs fq∧(hp++fq).Nodup∧(∀a∈hp++fq,Hf a=none∧Hb a=none∧NT (H a))∧
 ∀(Hb' H' :Hp) (vs' :List V) (k' :NK) (hp' :List Addr) (cs' :List Sl) (fq' :List Addr),(∀a o,a∉hp++fq→H a=some o→H' a=some o)→Ex Hb Hb' →Ex Hb' H' →(∀a,a∉hp++fq→Hb a=none→NT (H a)→Hb' a=none)→Y4 K H' p vs' k' hp' →hp' =hp→yh K Hb' H' vs' cs' fq' →fq'.Nodup→
  (∀a∈fq',a∈fq∨H a=none)→(∀a∈fq',a∉hp)→(∀a∈hp++fq',Hb' a=none)→gJ K pn Hf Hb' H' σ (ρ.set i (.nst k' cs')):=by
 obtain⟨F,r⟩:=R
 obtain⟨p,vs,hp,fq,h1,h2,h3,h4,h5,h6,mk⟩:=r.nst h
 refine⟨p,vs,hp,fq,h1,h2,h3,h4,h5,fun Hb' H' vs' k' hp' cs' fq' e1 b bh nw hd ehp c nd sub nhp hb=>mk Hb' H' vs' k' hp' cs' fq' e1 b bh nw hd ehp c nd (fun a ha=> ?_) nhp hb⟩
 rcases sub a ha with z|z
 ·exact .inl z
 ·refine .inr ⟨fresh_back r.ef z,fun l _ hl=> ?_⟩
  have:=(r.fr l a hl).2.2
  rw [z] at this
  exact this
theorem gJ.ahc(R:gJ K pn Hf Hb H σ ρ)(h:ρ[i]? =some (.nst k cs)){d:D}(hj:cs[j]? =some (.own d)):∃p vs hp q,σ[i]? =some (some (.ref p))∧Y4 K H p vs k hp∧vs[j]? =some (.ref q)∧Ow K Hb H q d∧Hf q=none∧Hb q=none∧
 ∀(o' :HO) (d' :D),Ob K Hb o' d' →gJ K pn Hf Hb (upd H q o') σ (ρ.set i (.nst k (cs.set j (.own d')))):=by
 obtain⟨p,vs,hp,fq,h1,h2,h3,nd,fr,mk⟩:=R.nst h
 have nd3:=cA.mp nd
 obtain⟨q,q1,q2,q3,q4⟩:=h3.own' hj nd3.2.1
 obtain⟨f1,f2,f3⟩:=fr q (bK _ q2)
 have qh:∀a∈hp,a≠q:=fun a ha z=>nd3.2.2 a ha q q2 z
 refine⟨p,vs,hp,q,h1,h2,q1,q3,f1,f2,fun o' d' b=> ?_⟩
 refine mk Hb (upd H q o') vs k hp _ fq (fun a o ha ho=>by rw [upd_ne (fun z=>ha (bK _ (by rw [z];exact q2)))];exact ho) (Ex.refl _) (fun a o e=>by rw [upd_ne (ne_of_none e f2)];exact R.eb a o e) (fun a _ k2 _=>k2) (h2.frame fun a ha o ho=>by rw [upd_ne (qh a ha)];exact ho) rfl (q4 o' d' b) nd3.2.1 (fun a ha=> .inl ha) (fun a ha z=>nd3.2.2 a z a ha rfl) (fun a ha=>(fr a ha).2.1)
theorem gJ.amy{c:Str}{fs:List Str}{f:Str}{s:Sl}{v:V}{ext:List Addr}(R:gJ K pn Hf Hb H σ ρ)(g:Gw Hb H Hb' H')(h:ρ[i]? =some (.nst (.ins c fs) cs))(hf:f∉fs)(a:PtR K Hb' H' v s ext)(he:∀q∈ext,H q=none∧Hb' q=none):
 ∃p dx vs,σ[i]? =some (some (.ref p))∧vs.length=fs.length∧H' p=some (.ins (He.ga K c) dx (fs.zip vs))∧Hf p=none∧Hb' p=none∧gJ K pn Hf Hb' (upd H' p (.ins (He.ga K c) dx (putF f v (fs.zip vs)))) σ (ρ.set i (.nst (.ins c (fs++[f])) (cs++[s]))):=by
 obtain⟨p,vs,hp,fq,h1,h2,h3,nd,fr,mk⟩:=R.nst h
 have nd3:=cA.mp nd
 obtain⟨dx,d1,d2,d3,rfl⟩:=h2
 have h3' :yh K Hb' H' vs cs fq:=h3.frame g.b fun a _ o z=>g.h a o z
 have c1:=h3'.snoc a
 have hdp:dx≠p:=fun z=>by
  have:=nd3.1
  rw [z] at this
  simp at this
 have exf:∀q∈ext,q∉[p,dx]++fq:=fun q hq z=>by
  have:=(fr q z).2.2
  rw [(he q hq).1] at this
  exact this
 have exn:ext.Nodup:=by cases a<;>simp
 have nh:∀a∈fq++ext,a∉[p,dx]:=fun a ha z=>by
  rcases aM.mp ha with w|w
  ·exact nd3.2.2 a z a w rfl
  ·exact exf a w (bB _ z)
 have hbp:∀a∈[p,dx]++fq,Hb' a=none:=fun a ha=>g.nw a (fr a ha).2.1 (fr a ha).2.2
 refine⟨p,dx,vs,h1,d3,g.h _ _ d1,(fr p (by simp)).1,hbp p (by simp),mk Hb' _ (vs++[v]) (.ins c (fs++[f])) [p,dx] (cs++[s]) (fq++ext) (fun a o ha ho=> ?_) g.b (fun a o e=> ?_) (fun a _ k2 k3=>g.nw a k2 k3) ⟨dx,by rw [upd_same,abb hf d3],by rw [upd_ne hdp];exact g.h _ _ d2,by simp [d3],rfl⟩ rfl (c1.frame (Ex.refl _) fun a ha o ho=> ?_) (cA.mpr ⟨nd3.2.1,exn,fun x hx y hy z=>exf y hy (bK _ (by rw [←z];exact hx))⟩) (fun a ha=> ?_) nh (fun a ha=> ?_)⟩
 ·rw [upd_ne (fun z=>ha (by rw [z];simp))]
  exact g.h a o ho
 ·rw [upd_ne (ne_of_none e (hbp p (by simp)))]
  exact g.bh a o e
 ·rw [upd_ne (fun z=>nh a ha (by rw [z];simp))]
  exact ho
 ·rcases aM.mp ha with z|z
  ·exact .inl z
  ·exact .inr (he a z).1
 ·rcases aM.mp ha with ha|ha
  ·exact hbp a (bB _ ha)
  ·rcases aM.mp ha with z|z
   ·exact hbp a (bK _ z)
   ·exact(he a z).2
end
end DL
set_option maxHeartbeats 2000000
namespace DL
open PySem PySem.Spec L2 Evl PyProof.Rows
def tCmp(K:aq)(nk:NK)(i j:Nat):TE:=fun σ H Q=>∃p vs hp v,σ[i]? =some (some (.ref p))∧Y4 K H p vs nk hp∧vs[j]? =some v∧Q v H
section
variable{X:Cx}{x f c:Str}{fs:List Str}{i:Nat}{p pos p2:Pos}
theorem vG(i j:Nat)(hc:Cls X.K (He.ga X.K c))(ha:NoAttr X.K (He.ga X.K c) f)(hf:fs[j]? =some f:=by rfl)(nf:fs.Nodup:=by decide+kernel)(hN:X.N[i]? =some x:=by rfl)(hv:Vis X.env.scope x:=by first|exact Or.inl rfl|exact Or.inr (Or.inl rfl)|exact Or.inr (Or.inr rfl))(hd:(x==("__debug__":Str))=false:=by decide)
 (hcd:(x==("__classdict__":Str))=false:=by decide) (hbase:attributeBase (.Name x p) f X.env (eval (.Name x p) X.env)=eval (.Name x p) X.env:=by rfl):PE X (.Attribute (.Name x p) f pos) (tCmp X.K (.ins c fs) i j):=
 PE.imp (pe_fld (pe_var hN hv hd hcd) hbase) fun σ H Q ⟨q,vs,hp,v,h1,⟨dx,h2,h3,h4,_⟩,h5,h6⟩=>⟨.ref q,h1,q,_,dx,_,v,rfl,h2,hc,ha,Uu nf hf h5,h6⟩
end
def ab1(cs:List Sl)(j:Nat):ER:=match cs[j]? with
 |some (.dat d)=> .ok d
 |some (.own d)=> .ok d
 |some (.bor d)=> .ok d
 |_=> .bad
def za(nk:NK)(i j:Nat):EM:=fun ρ=>match ρ[i]? with
 |some (.nst k cs)=>if k=nk then ab1 cs j else .bad
 |some (.vP k cs)=>if k=nk then ab1 cs j else .bad
 |_=> .bad
theorem aiL{nk:NK}{i j:Nat}{ρ:Env}{d:D}(h:za nk i j ρ= .ok d):∃cs,Pts ρ i nk cs∧(cs[j]? =some (.dat d)∨cs[j]? =some (.own d)∨cs[j]? =some (.bor d)):=by
 have key:∀k cs,(if k=nk then ab1 cs j else .bad)= .ok d→k=nk∧(cs[j]? =some (.dat d)∨cs[j]? =some (.own d)∨cs[j]? =some (.bor d)):=fun k cs h=>by
  by_cases hk:k=nk
  ·rw [if_pos hk] at h
   refine⟨hk,?_⟩
   unfold ab1 at h
   split at h
   ·rename_i e q
    cases h
    exact .inl q
   ·rename_i e q
    cases h
    exact .inr (.inl q)
   ·rename_i e q
    cases h
    exact .inr (.inr q)
   ·cases h
  ·rw [if_neg hk] at h
   cases h
 unfold za at h
 split at h
 ·rename_i k cs q
  obtain⟨rfl,h'⟩:=key k cs h
  exact⟨cs, .inl q,h'⟩
 ·rename_i k cs q
  obtain⟨rfl,h'⟩:=key k cs h
  exact⟨cs, .inr q,h'⟩
 ·cases h
theorem ai1(nk:NK)(i j:Nat)(ρ:Env)(c:Str):za nk i j ρ≠ .ex c:=fun h=>by
 unfold za ab1 at h
 repeat' split at h
 all_goals cases h
section
variable{X:Cx}{W:WQ}{rk:Kd}{b e k v:Expr}{nk:NK}{i j:Nat}{m mk:EM}{mv:XM}{pos pos' p2 p3:Pos}
theorem yd(hb:PE X b (tCmp X.K nk i j)):DE X W .bor b (za nk i j):=PE.imp hb fun σ H Q ⟨Hf,Hb,ρ,R,h1,h2,h3⟩=>by
 cases q:za nk i j ρ with
 |bad=>exact absurd q h3
 |ex c=>exact absurd q (ai1 _ _ _ _ _)
 |ok d=>
  obtain⟨cs,hp,hs⟩:=aiL q
  obtain⟨p,vs,hpp,a1,a2,a3,a4⟩:=R.parts hp
  rcases hs with hs|hs
  ·obtain⟨v,b1,b2⟩:=a3 j d hs
   exact⟨p,vs,hpp,v,a1,a2,b1,h1 d q v Hb H (Gw.refl R.eb) (.inl b2)⟩
  ·obtain⟨q',b1,b2⟩:=a4 j d hs
   exact⟨p,vs,hpp,_,a1,a2,b1,h1 d q _ Hb H (Gw.refl R.eb) (.inr ⟨q',rfl,b2⟩)⟩
end
theorem gJ.atC{pn:Pn}{K:aq}{H Hb Hf:Hp}{σ:L2.St}{ρ:Env}{i j:Nat}{k:NK}{cs:List Sl}{d:D}(R:gJ K pn Hf Hb H σ ρ)(h:ρ[i]? =some (.nst k cs))(hj:cs[j]? =some (.own d)):∃p vs hp q,σ[i]? =some (some (.ref p))∧Y4 K H p vs k hp∧vs[j]? =some (.ref q)∧Ow K Hb H q d∧
 ∀Hb' H',Gw Hb H Hb' H' →Ow K Hb' H' q d∧Hb' q=none∧Hf q=none∧∀o' d',Ob K Hb' o' d' →gJ K pn Hf Hb' (upd H' q o') σ (ρ.set i (.nst k (cs.set j (.own d')))):=by
 obtain⟨p,vs,hp,q,h1,h2,h3,h4,h5,h6,_⟩:=R.ahc h hj
 refine⟨p,vs,hp,q,h1,h2,h3,h4,fun Hb' H' g=> ?_⟩
 obtain⟨p',vs',hp',q',k1,k2,k3,k4,k5,k6,k7⟩:=(R.gw g).ahc h hj
 rw [h1] at k1
 cases k1
 have ev:vs=vs' :=by
  cases k with
  |lst=>
   obtain⟨a1,_⟩:=h2
   obtain⟨b1,_⟩:=k2
   rw [g.h _ _ a1] at b1
   cases b1
   rfl
  |ins c fs=>
   obtain⟨dx,a1,_,a3,_⟩:=h2
   obtain⟨dx',b1,_,b3,_⟩:=k2
   rw [g.h _ _ a1] at b1
   injection b1 with b1
   injection b1 with _ _ b1
   have:=congrArg (List.map Prod.snd) b1
   rw [List.map_snd_zip (by omega),List.map_snd_zip (by omega)] at this
   exact this
 subst ev
 rw [h3] at k3
 cases k3
 exact⟨k4,k6,k5,k7⟩
def aap(nk:NK)(i j:Nat)(ρ:Env)(f:List Sl→D→Out):Out:=match ρ[i]? with
 |some (.nst k cs)=>if k=nk then(match cs[j]? with
  |some (.own d)=>f cs d
  |_=> .bad) else .bad
 |_=> .bad
theorem aay{K:aq}{W:WQ}{rk:Kd}{Hf Hb H:Hp}{E:Ends}{nk:NK}{i j:Nat}{ρ:Env}{f:List Sl→D→Out}(h:lO K W rk Hf Hb H E (aap nk i j ρ f)):∃cs d,ρ[i]? =some (.nst nk cs)∧cs[j]? =some (.own d)∧lO K W rk Hf Hb H E (f cs d):=by
 unfold aap at h
 split at h
 ·rename_i k cs q
  by_cases hk:k=nk
  ·subst hk
   rw [if_pos rfl] at h
   split at h
   ·rename_i d q2
    exact⟨cs,d,q,q2,h⟩
   ·exact h.elim
  ·rw [if_neg hk] at h
   exact h.elim
 ·exact h.elim
def Q8(nk:NK)(i j:Nat)(mk:EM)(mv:XM):SM:=fun ρ=>match mv ρ with
 | .ok d ρ=>aap nk i j ρ fun cs e=>(match e with
   | .dict ds=>if Bf ds=true then(match mk ρ with
     | .ok k=>(match keyOf k with
       |some k=>if ds.length<sizeLine then .nx (ρ.set i (.nst nk (cs.set j (.own (.dict (qM ds k d)))))) else .bad
       |none=> .bad)
     | .ex c=> .ex c ρ
     | .bad=> .bad) else .bad
   |_=> .bad)
 | .ex c ρ=> .ex c ρ
 | .bad=> .bad
def af5(nk:NK)(i j:Nat)(mk:EM):SM:=fun ρ=>aap nk i j ρ fun cs e=>match e with
 | .dict ds=>if Bf ds=true then(match mk ρ with
   | .ok k=>(match keyOf k with
     |some k=>if(qH ds k).isSome=true then .nx (ρ.set i (.nst nk (cs.set j (.own (.dict (ds.filter fun q=> !decide (keyOf q.1=some k))))))) else .bad
     |none=> .bad)
   | .ex c=> .ex c ρ
   | .bad=> .bad) else .bad
 |_=> .bad
section
variable{X:Cx}{W:WQ}{rk:Kd}{b e k v:Expr}{nk:NK}{i j:Nat}{m mk:EM}{mv:XM}{pos pos' p2 p3:Pos}
theorem YW(hb:PE X b (tCmp X.K nk i j))(hu:X.A.units+64<cLine)(hk:DE X W .bor k mk)(hv:DX X W v mv)(hs:swapsWith v (some (.Subscript b k pos')) pos.line X.env=pure false:=by rfl):DS X W rk (.Assign [.Subscript b k pos'] v pos) (Q8 nk i j mk mv):=
 PS.imp (ps_dput (by omega) hb hk hv hs) fun E σ H ⟨Hf,Hb,ρ,R,h⟩=>by
 unfold Q8 at h
 refine⟨Hf,Hb,ρ,R,fun d ρ1 hd v Hb1 H1 R1 b1 r1=> ?_,fun c ρ1 hc Hb1 H1 R1 b1=> ?_,fun z=> ?_⟩
 ·rw [hd] at h
  simp only at h
  obtain⟨cs,e,hi,hj,h⟩:=aay h
  cases e with
  |dict ds=>
   simp only at h
   have hm:Bf ds=true:=by
    cases qm:Bf ds with
    |true=>rfl
    |false=>simp [qm,lO] at h
   simp only [hm,if_true] at h
   obtain⟨p,vs,hp,q,a1,a2,a3,⟨o,a4,a5⟩,a6⟩:=R1.atC hi hj
   cases a5 with
   |dT al=>cases hm
   |dK al=>
    refine⟨p,vs,hp,_,a1,a2,a3,Hf,Hb1,ρ1,R1,fun d2 hd2 y Hb2 H2 g2 r2=> ?_,fun c hc Hb2 H2 g2=> ?_,fun z=> ?_⟩
    ·rw [hd2] at h
     simp only at h
     split at h
     ·rename_i kk hkk
      split at h
      ·rename_i hz
       obtain⟨_,b2,b3,b4⟩:=a6 Hb2 H2 g2
       have al2:PK X.K Hb2 _ ds:=Paired.imp (fun _ _ q=>⟨q.1,mY g2.b q.2⟩) al
       refine⟨q,_,rfl, .inl ⟨_,kk,g2.h _ _ a4,r2.key hkk,by rw [QF al];exact hz,rfl⟩,?_⟩
       exact h σ Hb2 _ (b4 _ _ (.dK (abN (mY g2.b r1) al2))) ((b1.trans (g2.bw R1.ef)).trans (Bw.upd g2.bh b2))
      ·exact h.elim
     ·exact h.elim
    ·rw [hc] at h
     exact h σ Hb2 H2 (R1.gw g2) (b1.trans (g2.bw R1.ef))
    ·rw [z] at h
     exact h.elim
  |_=>exact h.elim
 ·rw [hc] at h
  exact h σ Hb1 H1 R1 b1
 ·rw [z] at h
  exact h.elim
end
def ahB(nk:NK)(i:Nat)(ρ:Env)(f:List Sl→Out):Out:=match ρ[i]? with
 |some (.nst k cs)=>if k=nk then f cs else .bad
 |_=> .bad
theorem afL{K:aq}{W:WQ}{rk:Kd}{Hf Hb H:Hp}{E:Ends}{nk:NK}{i:Nat}{ρ:Env}{f:List Sl→Out}(h:lO K W rk Hf Hb H E (ahB nk i ρ f)):∃cs,ρ[i]? =some (.nst nk cs)∧lO K W rk Hf Hb H E (f cs):=by
 unfold ahB at h
 split at h
 ·rename_i k cs q
  by_cases hk:k=nk
  ·subst hk
   rw [if_pos rfl] at h
   exact⟨cs,q,h⟩
  ·rw [if_neg hk] at h
   exact h.elim
 ·exact h.elim
def ab'(c:Str)(fs:List Str)(f:Str)(i:Nat)(m:EM):SM:=fun ρ=>match m ρ with
 | .ok d=>ahB (.ins c fs) i ρ fun cs=> .nx (ρ.set i (.nst (.ins c (fs++[f])) (cs++[.own d])))
 | .ex c=> .ex c ρ
 | .bad=> .bad
section
variable{X:Cx}{W:WQ}{rk:Kd}{e:Expr}{i j:Nat}{m:EM}{pos pos' p:Pos}{x f c:Str}{fs:List Str}
theorem afz(i:Nat)(hc:Cls X.K (He.ga X.K c))(ha:NoAttr X.K (He.ga X.K c) f)(he:DE X W .new e m)(hf:f∉fs:=by decide+kernel)(hlt:fs.length<1000:=by decide)(hN:X.N[i]? =some x:=by rfl)(hv:Vis X.env.scope x:=by first|exact Or.inl rfl|exact Or.inr (Or.inl rfl)|exact Or.inr (Or.inr rfl))(hd:(x==("__debug__":Str))=false:=by decide)
 (hcd:(x==("__classdict__":Str))=false:=by decide) (hs:swapsWith e (some (.Attribute (.Name x p) f pos')) pos.line X.env=pure false:=by rfl):DS X W rk (.Assign [.Attribute (.Name x p) f pos'] e pos) (ab' c fs f i m):=
 PS.imp (ps_fld (pe_var hN hv hd hcd) he hs) fun E σ H ⟨Hf,Hb,ρ,R,h⟩=>by
 unfold ab' at h
 refine⟨Hf,Hb,ρ,R,fun d hd v Hb1 H1 g1 r1=> ?_,fun c hc Hb1 H1 g1=> ?_,fun z=> ?_⟩
 ·rw [hd] at h
  obtain⟨cs,hi,h⟩:=afL h
  obtain⟨q,rfl,q1,q2,q3⟩:=r1
  obtain⟨p,dx,vs,a1,a2,a3,a4,a5,a6⟩:=R.amy g1 hi hf (PtR.own q3) (fun q' hq=>by rw [aR.mp hq];exact⟨q1,q2⟩)
  exact⟨.ref p,a1,p,_,dx,_,rfl,a3,hc,ha,by rw [List.length_zip];omega,h σ Hb1 _ a6 ((g1.bw R.ef).trans (Bw.upd g1.bh a5))⟩
 ·rw [hc] at h
  exact h σ Hb1 H1 (R.gw g1) (g1.bw R.ef)
 ·rw [z] at h
  exact h.elim
end
end DL
set_option maxHeartbeats 2000000
namespace DL
open PySem PySem.Spec L2 Evl PyProof.Rows
inductive RO where
 |ok (d:D) (outs:List Sl)|ex (c:Str) (outs:List Sl)|bad
def off(H:Hp)(FP:List Addr):Hp:=fun a=>if a∈FP then none else H a
theorem Qa(H:Hp):off H []=H:=by
 funext a
 simp [off]
theorem aaR{H:Hp}{FP:List Addr}{a:Addr}{o:HO}(h:off H FP a=some o):a∉FP∧H a=some o:=by
 unfold off at h
 split at h
 ·cases h
 ·exact⟨by assumption,h⟩
theorem qL{H:Hp}{FP:List Addr}{a:Addr}(h:a∉FP):off H FP a=H a:=by simp [off,h]
def SpG(K:aq)(n:Nat)(m:List Sl→RO):Sp:=fun vs H Q E=>vs.length=n∧∃(Hb:Hp) (FP:List Addr) (as:List Sl),gJ K [] (off H FP) Hb H (vs.map some) as∧
 match m as with
 | .ok d outs=>∀v Hb' H',gJ K [] (off H FP) Hb' H' (vs.map some) outs→Bw (off H FP) Hb Hb' H' →Dr K Hb' v d→Q v H'
 | .ex c outs=>∀Hb' H',gJ K [] (off H FP) Hb' H' (vs.map some) outs→Bw (off H FP) Hb Hb' H' →E (.ref (He.ga K c)) none H'
 | .bad=>False
def mask:List Bool→Env→List Sl
 |[],_=>[]
 |true::bs,s::ρ=>s::mask bs ρ
 |false::bs,_::ρ=> .un::mask bs ρ
 |_::bs,[]=> .un::mask bs []
def chk:List Bool→List Sl→Bool
 |[],[]=>true
 |true::bs, .own _::as=>chk bs as
 |true::bs, .nst _ _::as=>chk bs as
 |false::bs,_::as=>chk bs as
 |_,_=>false
def Iv(bs:List Bool)(n:Nat)(m:SM)(as:List Sl):RO:=if chk bs as=true then(match m (as++aD n .un) with
 | .nx ρ=> .ok .none (mask bs ρ)
 | .rx d ρ=> .ok d (mask bs ρ)
 | .ex c ρ=> .ex c (mask bs ρ)
 |_=> .bad) else .bad
theorem Ek:∀(bs:List Bool) (ρ:Env),(mask bs ρ).length=bs.length
 |[],_=>rfl
 |true::bs,s::ρ=>by simp [mask,Ek bs ρ]
 |false::bs,s::ρ=>by simp [mask,Ek bs ρ]
 |true::bs,[]=>by simp [mask,Ek bs []]
 |false::bs,[]=>by simp [mask,Ek bs []]
theorem Fl:∀(bs:List Bool) (ρ:Env) (i:Nat) (s:Sl),(mask bs ρ)[i]? =some s→s= .un∨bs[i]? =some true∧ρ[i]? =some s
 |[],_,i,s,h=>by simp [mask] at h
 |true::bs,t::ρ,0,s,h=>by
  simp [mask] at h
  exact .inr ⟨rfl,by simp [h]⟩
 |false::bs,t::ρ,0,s,h=>by
  simp [mask] at h
  exact .inl h.symm
 |true::bs,[],0,s,h=>by
  simp [mask] at h
  exact .inl h.symm
 |false::bs,[],0,s,h=>by
  simp [mask] at h
  exact .inl h.symm
 |true::bs,t::ρ,i+1,s,h=>by simpa using Fl bs ρ i s (by simpa [mask] using h)
 |false::bs,t::ρ,i+1,s,h=>by simpa using Fl bs ρ i s (by simpa [mask] using h)
 |true::bs,[],i+1,s,h=>by simpa using Fl bs [] i s (by simpa [mask] using h)
 |false::bs,[],i+1,s,h=>by simpa using Fl bs [] i s (by simpa [mask] using h)
theorem ab3:∀(bs:List Bool) (as:List Sl),chk bs as=true→as.length=bs.length∧∀i:Nat,bs[i]? =some true→(∃d,as[i]? =some (.own d))∨∃k cs,as[i]? =some (.nst k cs)
 |[],[],_=>⟨rfl,fun i h=>by simp at h⟩
 |[],_::_,h=>by simp [chk] at h
 |true::bs,[],h=>by simp [chk] at h
 |false::bs,[],h=>by simp [chk] at h
 |true::bs,s::as,h=>by
  have key:chk bs as=true∧((∃d,s= .own d)∨∃k cs,s= .nst k cs):=by
   cases s<;>simp [chk] at h⊢<;>exact h
  obtain⟨h1,h2⟩:=ab3 bs as key.1
  refine⟨by simp [h1],fun i hi=> ?_⟩
  cases i with
  |zero=>
   rcases key.2 with⟨d,z⟩|⟨k,cs,z⟩
   ·exact .inl ⟨d,by simp [z]⟩
   ·exact .inr ⟨k,cs,by simp [z]⟩
  |succ i=>simpa using h2 i (by simpa using hi)
 |false::bs,s::as,h=>by
  obtain⟨h1,h2⟩:=ab3 bs as (by simpa [chk] using h)
  refine⟨by simp [h1],fun i hi=> ?_⟩
  cases i with
  |zero=>simp at hi
  |succ i=>simpa using h2 i (by simpa using hi)
def idxs(bs:List Bool):List Nat:=(di bs.length).filter fun i=>bs[i]? ==some true
theorem Zk{bs:List Bool}{i:Nat}:i∈idxs bs↔bs[i]? =some true:=by
 unfold idxs
 rw [List.mem_filter,List.mem_range]
 constructor
 ·exact fun h=>beq_iff_eq.mp h.2
 ·exact fun h=>⟨(au.mp h).1,beq_iff_eq.mpr h⟩
theorem NQ{α β:Type}(f:α→β):∀{l:List α} {a:α} {b:β},(a,b)∈l.zip (l.map f)→b=f a∧a∈l
 |[],_,_,h=>by simp at h
 |x::l,a,b,h=>by
  rw [bA,List.zip_cons_cons] at h
  rcases aH.mp h with z|z
  ·cases z
   exact⟨rfl,aX⟩
  ·obtain⟨h1,h2⟩:=NQ f z
   exact⟨h1,aN _ h2⟩
theorem Oi{α β:Type}(f:α→β):∀{l:List α} {a:α},a∈l→(a,f a)∈l.zip (l.map f)
 |[],_,h=>by cases h
 |x::l,a,h=>by
  rw [bA,List.zip_cons_cons]
  rcases aH.mp h with z|z
  ·rw [z]
   exact aX
  ·exact aN _ (Oi f z)
def adV:Option V→Addr
 |some (.ref p)=>p
 |_=>0
section
variable{K:aq}{pn:Pn}{Hf Hb H Hb' H' :Hp}{σ:L2.St}{ρ:Env}
theorem gJ.ref(R:gJ K pn Hf Hb H σ ρ){i:Nat}(h:(∃d,ρ[i]? =some (.own d))∨∃k cs,ρ[i]? =some (.nst k cs)):∃p,σ[i]? =some (some (.ref p)):=by
 rcases h with⟨d,h⟩|⟨k,cs,h⟩
 ·obtain⟨p,h1,_⟩:=R.own i d h
  exact⟨p,h1⟩
 ·obtain⟨p,_,_,h1,_⟩:=R.parts (.inl h)
  exact⟨p,h1⟩
theorem gJ.grow{vs:List V}{as:List Sl}{N:List Str}{n:Nat}(R:gJ K [] Hf Hb H (vs.map some) as)(hn:N.length=vs.length+n)(hp:∀i a,(i,a)∈pn→vs[i]? =some (.ref a)):gJ K pn Hf Hb H (L2.start N vs) (as++aD n .un):=by
 obtain⟨F,r⟩:=R
 have hl:vs.length=as.length:=by simpa using r.len
 have st:∀i v,vs[i]? =some v→(L2.start N vs)[i]? =some (some v):=fun i v h=>by
  unfold L2.start
  rw [aO (by simpa using(au.mp h).1),aK,h]
  rfl
 refine⟨fun i=>if i<as.length then F i else [],r.ef,r.eb,?_,fun i s h=> ?_,fun i=> ?_,fun i p hpi=> ?_,fun i j p ne hpi=> ?_,fun i a h=>st i _ (hp i a h)⟩
 ·unfold L2.start
  simp
  omega
 ·rcases dW i as.length with hlt|hge
  ·rw [aO hlt] at h
   simp only [if_pos hlt]
   have:=r.sl i s h
   have e:(vs.map some)[i]? =(L2.start N vs)[i]? :=by
    unfold L2.start
    rw [aO (by simpa using(by omega:i<vs.length))]
   rw [←e]
   exact this
  ·rw [bD hge] at h
   have:=List.eq_of_mem_replicate (bf h)
   subst this
   simp only [if_neg (by omega:¬i<as.length)]
   rfl
 ·by_cases z:i<as.length
  ·simp only [if_pos z]
   exact r.nd i
  ·simp [z]
 ·by_cases z:i<as.length
  ·simp only [if_pos z] at hpi
   exact r.fr i p hpi
  ·simp [z] at hpi
 ·by_cases z:i<as.length
  ·simp only [if_pos z] at hpi
   by_cases z2:j<as.length
   ·simp only [if_pos z2]
    exact r.dj i j p ne hpi
   ·simp [z2]
  ·simp [z] at hpi
theorem gJ.masked{vs:List V}{bs:List Bool}(R:gJ K pn Hf Hb H σ ρ)(hv:vs.length=bs.length)(hp:∀i:Nat,bs[i]? =some true→∃v,vs[i]? =some v∧σ[i]? =some (some v)):gJ K [] Hf Hb H (vs.map some) (mask bs ρ):=by
 obtain⟨F,r⟩:=R
 refine⟨fun i=>if bs[i]? =some true∧i<ρ.length then F i else [],r.ef,r.eb,by rw [Ek];simpa using hv,fun i s h=> ?_,fun i=> ?_,fun i p hpi=> ?_,fun i j p ne hpi=> ?_,fun i a h=>by cases h⟩
 ·rcases Fl bs ρ i s h with z|⟨z1,z2⟩
  ·subst z
   by_cases hb:bs[i]? =some true∧i<ρ.length
   ·--the slot itself is unknown
    have e:ρ[i]? =some .un:=by
     have key:∀(bs:List Bool) (ρ:Env) (i:Nat),(mask bs ρ)[i]? =some .un→bs[i]? =some true→i<ρ.length→ρ[i]? =some .un:=by
      intro bs
      induction bs with
      |nil=>intro ρ i h;simp [mask] at h
      |cons b bs ih=>
       intro ρ i h hb hl
       cases ρ with
       |nil=>simp at hl
       |cons t ρ=>
        cases i with
        |zero=>
         simp at hb
         subst hb
         simpa [mask] using h
        |succ i=>
         have h' :(mask bs ρ)[i]? =some .un:=by cases b<;>simpa [mask] using h
         simpa using ih ρ i h' (by simpa using hb) (by simpa using hl)
     exact key bs ρ i h hb.1 hb.2
    simp only [if_pos hb]
    exact r.sl i .un e
   ·simp only [if_neg hb]
    rfl
  ·obtain⟨v,h1,h2⟩:=hp i z1
   have e:(vs.map some)[i]? =σ[i]? :=by
    rw [aK,h1,h2]
    rfl
   rw [e]
   simp only [if_pos (⟨z1,(au.mp z2).1⟩:bs[i]? =some true∧i<ρ.length)]
   exact r.sl i s z2
 ·by_cases z:bs[i]? =some true∧i<ρ.length
  ·simp only [if_pos z]
   exact r.nd i
  ·simp [z]
 ·by_cases z:bs[i]? =some true∧i<ρ.length
  ·simp only [if_pos z] at hpi
   exact r.fr i p hpi
  ·simp [z] at hpi
 ·by_cases z:bs[i]? =some true∧i<ρ.length
  ·simp only [if_pos z] at hpi
   by_cases z2:bs[j]? =some true∧j<ρ.length
   ·simp only [if_pos z2]
    exact r.dj i j p ne hpi
   ·simp [z2]
  ·simp [z] at hpi
end
section
variable{P:Program}{w:World}{K:aq}{mg:Str→Option Value}{base:Heap}{x qual:Str}{params:Arguments}{body:List Stmt}{scope:Scope}{dvs:List V}{kws:List (Str×V)}{f:Addr}{fd:FuncData}
theorem ami{N ps:List Str}{k n:Nat}{bs:List Bool}{m:SM}(F:FunD K x qual params body scope dvs kws f fd)(S:FnScope N ps scope)(hps:ps.length=bs.length)(hn:N.length=bs.length+n)
 (hbody:∀(pa:List Addr) (cdv:Value) (A:Around) (outer:List PySem.Env) (s:Shared) (H:Hp) (E:XK),Room k (A.deeper (PyProof.Rows.envOfC qual scope s.heap.objs.size f cdv))→Wg (cxOf (L2.CX P w) P w K mg base N qual scope f cdv A outer s H E) ⟨fun cls d _ H=>E cls d H,(idxs bs).zip pa⟩ .dat body m):
 FnOk P w K mg base (L2.CX P w) (k+1) f fd ps (SpG K bs.length (Iv bs n m)):=by
 refine F.ok S (fun vs H Q E h=> ?_) (fun cdv A outer s H vs Q E hr h=> ?_)
 ·rw [hps]
  exact h.1
 ·obtain⟨hl,Hb,FP,as,R,h⟩:=h
  by_cases hc:chk bs as=true
  ·obtain⟨c1,c2⟩:=ab3 bs as hc
   have pv:∀i:Nat,bs[i]? =some true→∃p,vs[i]? =some (.ref p):=fun i hi=>by
    obtain⟨p,hp⟩:=R.ref (c2 i hi)
    rw [aK] at hp
    cases q:vs[i]? with
    |none=>rw [q] at hp;cases hp
    |some v=>
     rw [q] at hp
     cases hp
     exact⟨p,rfl⟩
   have hpin:∀i a,(i,a)∈(idxs bs).zip ((idxs bs).map fun i=>adV vs[i]?)→vs[i]? =some (.ref a):=fun i a hz=>by
    obtain⟨z1,z2⟩:=NQ _ hz
    obtain⟨p,hp⟩:=pv i (Zk.mp z2)
    rw [z1,hp]
    rfl
   refine⟨_,hbody ((idxs bs).map fun i=>adV vs[i]?) cdv A outer s H E hr,off H FP,Hb,_,R.grow (n:=n) (by rw [hn,hl]) hpin,?_⟩
   have em:Iv bs n m as=match m (as++aD n .un) with
    | .nx ρ=> .ok .none (mask bs ρ)
    | .rx d ρ=> .ok d (mask bs ρ)
    | .ex c ρ=> .ex c (mask bs ρ)
    |_=> .bad:=by
    unfold Iv
    rw [if_pos hc]
   have back:∀{Hb' H' :Hp} {σ' :L2.St} {ρ:Env},gJ K ((idxs bs).zip ((idxs bs).map fun i=>adV vs[i]?)) (off H FP) Hb' H' σ' ρ→gJ K [] (off H FP) Hb' H' (vs.map some) (mask bs ρ):=fun{Hb' H' σ' ρ} R' =>
    R'.masked hl fun i hi=>by
     obtain⟨p,hp⟩:=pv i hi
     refine⟨_,hp,?_⟩
     have:=R'.pin i _ (Oi (fun i=>adV vs[i]?) (Zk.mpr hi))
     rw [hp] at this
     exact this
   rw [em] at h
   cases q:m (as++aD n .un) with
   |nx ρ=>
    rw [q] at h
    exact fun σ' Hb' H' R' b=>h .non Hb' H' (back R') b .non
   |rx d ρ=>
    rw [q] at h
    exact fun v σ' Hb' H' R' b r=>h v Hb' H' (back R') b r
   |ex c ρ=>
    rw [q] at h
    exact fun σ' Hb' H' R' b=>h Hb' H' (back R') b
   |rt d=>rw [q] at h;exact h.elim
   |bk ρ=>rw [q] at h;exact h.elim
   |ct ρ=>rw [q] at h;exact h.elim
   |bad=>rw [q] at h;exact h.elim
  ·have em:Iv bs n m as= .bad:=by
    unfold Iv
    rw [if_neg hc]
   rw [em] at h
   exact h.elim
end
def rC(m:EM):SM:=fun ρ=>match m ρ with
 | .ok d=> .rx d ρ
 | .ex c=> .ex c ρ
 | .bad=> .bad
def Ms(m:XM):SM:=fun ρ=>match m ρ with
 | .ok d ρ' => .rx d ρ'
 | .ex c ρ' => .ex c ρ'
 | .bad=> .bad
section
variable{X:Cx}{W:WQ}{rk:Kd}{e:Expr}{m:EM}{mx:XM}{pos:Pos}
theorem wj(he:DE X W .dat e m):DS X W rk (.Return (some e) pos) (rC m):=PS.imp (ps_ret he) fun E σ H ⟨Hf,Hb,ρ,R,h⟩=>by
 refine⟨Hf,Hb,ρ,R,fun d hd v Hb' H' g r=> ?_,fun c hc Hb' H' g=> ?_,fun z=> ?_⟩
 ·simp only [rC,hd] at h
  exact h v σ Hb' H' (R.gw g) (g.bw R.ef) r
 ·simp only [rC,hc] at h
  exact h _ Hb' H' (R.gw g) (g.bw R.ef)
 ·simp only [rC,z] at h
  exact h
theorem af2(he:DX X W e mx):DS X W rk (.Return (some e) pos) (Ms mx):=PS.imp (ps_ret he) fun E σ H ⟨Hf,Hb,ρ,R,h⟩=>by
 refine⟨Hf,Hb,ρ,R,fun d ρ' hd v Hb' H' R' b r=> ?_,fun c ρ' hc Hb' H' R' b=> ?_,fun z=> ?_⟩
 ·simp only [Ms,hd] at h
  exact h v σ Hb' H' R' b r
 ·simp only [Ms,hc] at h
  exact h _ Hb' H' R' b
 ·simp only [Ms,z] at h
  exact h
end
inductive AM where
 |d (m:EM)|s (i:Nat)|r (i:Nat)
inductive GR where
 |ok (as:List Sl)|ex (c:Str)|bad
def rdC:Sl→Sl
 | .own d=> .bor d
 | .dat d=> .dat d
 | .bor d=> .bor d
 |_=> .un
def rdS:Sl→Option Sl
 | .dat d=>some (.dat d)
 | .own d=>some (.bor d)
 | .bor d=>some (.bor d)
 | .nst k cs=>some (.vP k (cs.map rdC))
 | .vP k cs=>some (.vP k cs)
 | .Vw _ _=>none
 | .un=>none
def ioS:Sl→Option Sl
 | .own d=>some (.own d)
 | .nst k cs=>some (.nst k cs)
 |_=>none
def ioU(s:Sl):Sl:=(ioS s).getD .un
def Pg(ρ:Env):AM→GR
 | .d m=>(match m ρ with
   | .ok x=> .ok [.dat x]
   | .ex c=> .ex c
   | .bad=> .bad)
 | .s i=>(match ρ[i]? with
   |some x=>(match ioS x with
    |some t=> .ok [t]
    |none=> .bad)
   |none=> .bad)
 | .r i=>(match ρ[i]? with
   |some x=>(match rdS x with
    |some t=> .ok [t]
    |none=> .bad)
   |none=> .bad)
def T7(s:Sl):GR→GR
 | .ok sl=> .ok (s::sl)
 | .ex c=> .ex c
 | .bad=> .bad
def wN:List AM→Env→GR
 |[],_=> .ok []
 |a::as,ρ=>(match Pg ρ a with
  | .ok [s]=>T7 s (wN as ρ)
  | .ok _=> .bad
  | .ex c=> .ex c
  | .bad=> .bad)
def lB:List AM→List Nat
 |[]=>[]
 | .s i::as=>i::lB as
 |_::as=>lB as
def HX:List AM→List Nat
 |[]=>[]
 | .r i::as=>i::HX as
 |_::as=>HX as
def rW:List AM→List Sl→Env→Env
 | .s i::as,s::outs,ρ=>rW as outs (ρ.set i (ioU s))
 |_::as,_::outs,ρ=>rW as outs ρ
 |_,_,ρ=>ρ
inductive ArR(K:aq)(Hb:Hp)(σ:L2.St):List AM→List V→List Sl→Prop
 |nil:ArR K Hb σ [] [] []
 |d {m:EM} {as:List AM} {v:V} {vs:List V} {x:D} {sl:List Sl}:Dr K Hb v x→ArR K Hb σ as vs sl→ArR K Hb σ (.d m::as) (v::vs) (.dat x::sl)
 |s {i:Nat} {as:List AM} {v:V} {vs:List V} {t:Sl} {sl:List Sl}:σ[i]? =some (some v)→ArR K Hb σ as vs sl→ArR K Hb σ (.s i::as) (v::vs) (t::sl)
 |r {i:Nat} {as:List AM} {v:V} {vs:List V} {t:Sl} {sl:List Sl}:σ[i]? =some (some v)→ArR K Hb σ as vs sl→ArR K Hb σ (.r i::as) (v::vs) (t::sl)
theorem SQ{a:AM}{as:List AM}{ρ:Env}{sl:List Sl}(h:wN (a::as) ρ= .ok sl):∃s sl',sl=s::sl' ∧Pg ρ a= .ok [s]∧wN as ρ= .ok sl' :=by
 unfold wN at h
 cases q:Pg ρ a with
 |ok l=>
  rw [q] at h
  match l,h,q with
  |[s],h,q=>
   simp only at h
   cases q2:wN as ρ with
   |ok sl' =>
    rw [q2] at h
    cases h
    exact⟨s,sl',rfl,rfl,rfl⟩
   |ex c=>rw [q2] at h;cases h
   |bad=>rw [q2] at h;cases h
  |[],h,_=>cases h
  |_::_::_,h,_=>cases h
 |ex c=>rw [q] at h;cases h
 |bad=>rw [q] at h;cases h
inductive ArA(K:aq)(Hb:Hp)(σ:L2.St)(ρ:Env)(v:V)(t:Sl):AM→Prop
 |d {m:EM} {x:D}:t= .dat x→Dr K Hb v x→ArA K Hb σ ρ v t (.d m)
 |s {i:Nat}:ρ[i]? =some t→σ[i]? =some (some v)→((∃d,t= .own d)∨∃k cs,t= .nst k cs)→ArA K Hb σ ρ v t (.s i)
 |r {i:Nat} {s:Sl}:ρ[i]? =some s→rdS s=some t→σ[i]? =some (some v)→ArA K Hb σ ρ v t (.r i)
theorem Ou{K:aq}{Hb:Hp}{σ:L2.St}{ρ:Env}:∀{as:List AM} {vs:List V} {sl:List Sl},ArR K Hb σ as vs sl→wN as ρ= .ok sl→vs.length=as.length∧sl.length=as.length∧∀(k:Nat) t,sl[k]? =some t→∃a v,as[k]? =some a∧vs[k]? =some v∧ArA K Hb σ ρ v t a
 |_,_,_, .nil,_=>⟨rfl,rfl,fun k t h=>by simp at h⟩
 |_,_,_, .d a r,h=>by
  obtain⟨s,sl',e,h1,h2⟩:=SQ h
  cases e
  obtain⟨l1,l2,l3⟩:=Ou r h2
  refine⟨by simp [l1],by simp [l2],fun k t hk=> ?_⟩
  cases k with
  |zero=>
   simp at hk
   exact⟨_,_,rfl,rfl, .d hk.symm a⟩
  |succ k=>simpa using l3 k t (by simpa using hk)
 |_,_,_, .s a r,h=>by
  obtain⟨s,sl',e,h1,h2⟩:=SQ h
  cases e
  obtain⟨l1,l2,l3⟩:=Ou r h2
  refine⟨by simp [l1],by simp [l2],fun k t hk=> ?_⟩
  cases k with
  |zero=>
   simp at hk
   subst hk
   refine⟨_,_,rfl,rfl,?_⟩
   simp only [Pg] at h1
   split at h1
   ·rename_i t0 q
    cases t0 with
    |own d=>simp [ioS] at h1;subst h1;exact .s q a (.inl ⟨_,rfl⟩)
    |nst k cs=>simp [ioS] at h1;subst h1;exact .s q a (.inr ⟨_,_,rfl⟩)
    |_=>simp [ioS] at h1
   ·cases h1
  |succ k=>simpa using l3 k t (by simpa using hk)
 |_,_,_, .r a r,h=>by
  obtain⟨s,sl',e,h1,h2⟩:=SQ h
  cases e
  obtain⟨l1,l2,l3⟩:=Ou r h2
  refine⟨by simp [l1],by simp [l2],fun k t hk=> ?_⟩
  cases k with
  |zero=>
   simp at hk
   subst hk
   refine⟨_,_,rfl,rfl,?_⟩
   simp only [Pg] at h1
   split at h1
   ·rename_i s0 q
    split at h1
    ·rename_i t0 q2
     simp at h1
     subst h1
     exact .r q q2 a
    ·cases h1
   ·cases h1
  |succ k=>simpa using l3 k t (by simpa using hk)
theorem Gy:∀{as:List AM} {k i:Nat},as[k]? =some (.s i)→i∈lB as
 |[],_,_,h=>by simp at h
 | .s j::as,0,i,h=>by
   simp at h
   subst h
   simp [lB]
 | .d m::as,0,i,h=>by simp at h
 | .r m::as,0,i,h=>by simp at h
 | .s j::as,k+1,i,h=>by
   simp only [lB]
   exact aN _ (Gy (k:=k) (by simpa using h))
 | .d m::as,k+1,i,h=>by
   simp only [lB]
   exact Gy (k:=k) (by simpa using h)
 | .r m::as,k+1,i,h=>by
   simp only [lB]
   exact Gy (k:=k) (by simpa using h)
theorem PN:∀{as:List AM} {i:Nat},i∈lB as→∃k:Nat,as[k]? =some (.s i)
 |[],_,h=>by cases h
 | .s j::as,i,h=>by
   simp only [lB] at h
   rcases aH.mp h with z|z
   ·exact⟨0,by simp [z]⟩
   ·obtain⟨k,hk⟩:=PN z
    exact⟨k+1,by simpa using hk⟩
 | .d m::as,i,h=>by
   obtain⟨k,hk⟩:=PN (as:=as) h
   exact⟨k+1,by simpa using hk⟩
 | .r m::as,i,h=>by
   obtain⟨k,hk⟩:=PN (as:=as) h
   exact⟨k+1,by simpa using hk⟩
theorem Qv:∀{as:List AM} {k i:Nat},as[k]? =some (.r i)→i∈HX as
 |[],_,_,h=>by simp at h
 | .r j::as,0,i,h=>by
   simp at h
   subst h
   simp [HX]
 | .d m::as,0,i,h=>by simp at h
 | .s m::as,0,i,h=>by simp at h
 | .r j::as,k+1,i,h=>by
   simp only [HX]
   exact aN _ (Qv (k:=k) (by simpa using h))
 | .d m::as,k+1,i,h=>by
   simp only [HX]
   exact Qv (k:=k) (by simpa using h)
 | .s m::as,k+1,i,h=>by
   simp only [HX]
   exact Qv (k:=k) (by simpa using h)
theorem acX:∀{as:List AM} {k l i:Nat},(lB as).Nodup→as[k]? =some (.s i)→as[l]? =some (.s i)→k=l
 |[],_,_,_,_,h,_=>by simp at h
 |a::as,0,0,i,_,_,_=>rfl
 |a::as,0,l+1,i,nd,h1,h2=>by
  simp at h1
  subst h1
  simp only [lB] at nd
  exact absurd (Gy (as:=as) (k:=l) (by simpa using h2)) (bY.mp nd).1
 |a::as,k+1,0,i,nd,h1,h2=>by
  simp at h2
  subst h2
  simp only [lB] at nd
  exact absurd (Gy (as:=as) (k:=k) (by simpa using h1)) (bY.mp nd).1
 |a::as,k+1,l+1,i,nd,h1,h2=>by
  have nd' :(lB as).Nodup:=by
   cases a with
   |s j=>simp only [lB] at nd;exact(bY.mp nd).2
   |d m=>exact nd
   |r m=>exact nd
  have:=acX (as:=as) (k:=k) (l:=l) (i:=i) nd' (by simpa using h1) (by simpa using h2)
  rw [this]
theorem Fp:∀(as:List AM) (outs:List Sl) (ρ:Env),(rW as outs ρ).length=ρ.length
 |[],_,_=>by simp [rW]
 | .s i::as,[],ρ=>by simp [rW]
 | .d i::as,[],ρ=>by simp [rW]
 | .r i::as,[],ρ=>by simp [rW]
 | .s i::as,s::outs,ρ=>by simp [rW,Fp as outs]
 | .d i::as,s::outs,ρ=>by simp [rW,Fp as outs]
 | .r i::as,s::outs,ρ=>by simp [rW,Fp as outs]
theorem DN:∀{as:List AM} {outs:List Sl} {ρ:Env} {i:Nat},i∉lB as→(rW as outs ρ)[i]? =ρ[i]?
 |[],_,_,_,_=>by simp [rW]
 | .s j::as,[],ρ,i,_=>by simp [rW]
 | .d j::as,[],ρ,i,_=>by simp [rW]
 | .r j::as,[],ρ,i,_=>by simp [rW]
 | .s j::as,s::outs,ρ,i,h=>by
   simp only [lB,aH,not_or] at h
   simp only [rW]
   rw [DN h.2,List.getElem?_set_ne (fun z=>h.1 z.symm)]
 | .d j::as,s::outs,ρ,i,h=>by
   simp only [rW]
   exact DN h
 | .r j::as,s::outs,ρ,i,h=>by
   simp only [rW]
   exact DN h
theorem Qo:∀{as:List AM} {outs:List Sl} {ρ:Env} {k i:Nat} {s:Sl},(lB as).Nodup→as[k]? =some (.s i)→outs[k]? =some s→i<ρ.length→(rW as outs ρ)[i]? =some (ioU s)
 |[],_,_,_,_,_,_,h,_,_=>by simp at h
 |_::_,[],_,_,_,_,_,_,h,_=>by simp at h
 |a::as,t::outs,ρ,0,i,s,nd,h1,h2,hl=>by
  simp at h1 h2
  subst h1 h2
  simp only [lB] at nd
  simp only [rW]
  rw [DN (bY.mp nd).1,List.getElem?_set_self hl]
 |a::as,t::outs,ρ,k+1,i,s,nd,h1,h2,hl=>by
  cases a with
  |s j=>
   simp only [lB] at nd
   simp only [rW]
   exact Qo (bY.mp nd).2 (by simpa using h1) (by simpa using h2) (by simpa using hl)
  |d m=>
   simp only [rW]
   exact Qo (as:=as) nd (by simpa using h1) (by simpa using h2) hl
  |r m=>
   simp only [rW]
   exact Qo (as:=as) nd (by simpa using h1) (by simpa using h2) hl
theorem aiS{K:aq}{Hb H H' :Hp}{vs:List V}{cs:List Sl}{fq:List Addr}(h:yh K Hb H vs cs fq):(∀p∈fq,∀o,H p=some o→H' p=some o)→Wo K Hb H' vs (cs.map rdC):=by
 induction h with
 |nil=>exact fun _=> .nil
 |dat a _ ih=>exact fun e=> .dat a (ih e)
 |own a _ ih=>
  intro e
  obtain⟨o,a1,a2⟩:=a
  exact .bor ⟨o, .inl (e _ aX o a1),a2⟩ (ih fun p hp=>e p (aN _ hp))
 |un _ ih=>exact fun e=> .un (ih e)
section
variable{K:aq}{pn:Pn}{Hf Hb H Hb' H' :Hp}{σ:L2.St}{ρ:Env}{F:Nat→List Addr}{as:List AM}{vs:List V}{sl outs:List Sl}
def Fj(F:Nat→List Addr)(as:List AM):List Addr:=(lB as).flatMap F
theorem RJ{a:Addr}:a∈Fj F as↔∃i∈lB as,a∈F i:=by simp [Fj,List.mem_flatMap]
def YT(F:Nat→List Addr)(as:List AM)(k:Nat):List Addr:=match as[k]? with
 |some (.s i)=>F i
 |_=>[]
theorem Mi.lend(r:Mi K pn Hf Hb H σ ρ F)(ar:ArR K Hb σ as vs sl)(he:wN as ρ= .ok sl)(nd:(lB as).Nodup)(dj:∀i∈HX as,i∉lB as):gJ K [] (off H (Fj F as)) Hb H (vs.map some) sl:=by
 obtain⟨l1,l2,l3⟩:=Ou ar he
 have fpf:∀a∈Fj F as,Hf a=none∧Hb a=none∧NT (H a):=fun a ha=>by
  obtain⟨i,_,h2⟩:=RJ.mp ha
  exact r.fr i a h2
 refine⟨YT F as,fun a o h=>(aaR h).2,r.eb,by simp [l1,l2],fun k t hk=> ?_,fun k=> ?_,fun k p hp=> ?_,fun k l p ne hp hq=> ?_,fun _ _ z=>by cases z⟩
 ·obtain⟨a,v,h1,h2,h3⟩:=l3 k t hk
  have hv:(vs.map some)[k]? =some (some v):=by rw [aK,h2];rfl
  rw [hv]
  cases h3 with
  |d e x=>
   subst e
   exact⟨by simp [YT,h1],v,rfl,x⟩
  | @s i q1 q2 q3=>
    have fe:YT F as k=F i:=by simp [YT,h1]
    rw [fe]
    have:=r.sl i t q1
    rw [q2] at this
    rcases q3 with⟨d,rfl⟩|⟨kk,cs,rfl⟩
    ·exact this
    ·exact this
  | @r i s q1 q2 q3=>
    have fe:YT F as k=[]:=by simp [YT,h1]
    rw [fe]
    have hs:=r.sl i s q1
    rw [q3] at hs
    have hi:i∉lB as:=dj i (Qv h1)
    have nin:∀p∈F i,p∉Fj F as:=fun p hp z=>by
     obtain⟨j,j1,j2⟩:=RJ.mp z
     exact r.dj i j p (fun z=>hi (by rw [z];exact j1)) hp j2
    have keep:∀p∈F i,∀o,H p=some o→off H (Fj F as) p=some o:=fun p hp o ho=>by rw [qL (nin p hp)];exact ho
    have keepf:∀p o,Hf p=some o→off H (Fj F as) p=some o:=fun p o ho=>by
     rw [qL (fun z=>by rw [(fpf p z).1] at ho;cases ho)]
     exact r.ef p o ho
    cases s with
    |un=>cases q2
    |dat d=>
     cases q2
     obtain⟨_,v',e,x⟩:=hs
     cases e
     exact⟨rfl,_,rfl,x⟩
    |own d=>
     cases q2
     obtain⟨p,e1,e2,o,e3,e4⟩:=hs
     cases e2
     exact⟨rfl,_,rfl, .inr ⟨p,rfl,o, .inl (keep p (by rw [e1];simp) o e3),e4⟩⟩
    |bor d=>
     cases q2
     obtain⟨_,v',e,x⟩:=hs
     cases e
     refine⟨rfl,_,rfl,?_⟩
     rcases x with x|⟨p,x1,o,x2,x3⟩
     ·exact .inl x
     ·exact .inr ⟨p,x1,o,x2.ex keepf,x3⟩
    |nst kk cs=>
     cases q2
     obtain⟨v',e,p,vs',hp,fq,rfl,x1,x2,x3⟩:=hs
     cases e
     refine⟨rfl,p,vs',hp,rfl,x1.frame fun a ha o ho=>keep a (by rw [x3];exact bB _ ha) o ho,aiS x2 fun a ha o ho=>keep a (by rw [x3];exact bK _ ha) o ho⟩
    |vP kk cs=>
     cases q2
     obtain⟨_,p,vs',hp,e,x1,x2⟩:=hs
     cases e
     exact⟨rfl,p,vs',hp,rfl,x1.frame fun a _ o ho=>keepf a o ho,x2.ex (Ex.refl _) keepf⟩
    |Vw kk cs=>cases q2
 ·unfold YT
  split
  ·exact r.nd _
  ·exact cR
 ·unfold YT at hp
  split at hp
  ·rename_i i hk
   obtain⟨f1,f2,f3⟩:=r.fr i p hp
   refine⟨?_,f2,f3⟩
   unfold off
   rw [if_pos (RJ.mpr ⟨i,Gy hk,hp⟩)]
  ·cases hp
 ·unfold YT at hp hq
  split at hp
  ·rename_i i hk
   split at hq
   ·rename_i j hl
    exact r.dj i j p (fun z=>ne (acX nd hk (by rw [hl,z]))) hp hq
   ·cases hq
  ·cases hp
theorem Mi.back(r:Mi K pn Hf Hb H σ ρ F)(hv:vs.length=as.length)(hsv:∀(k i:Nat),as[k]? =some (.s i)→∃v,vs[k]? =some v∧σ[i]? =some (some v))(nd:(lB as).Nodup)(R' :gJ K [] (off H (Fj F as)) Hb' H' (vs.map some) outs)(b:Bw (off H (Fj F as)) Hb Hb' H'):
 gJ K pn Hf Hb' H' σ (rW as outs ρ)∧Bw Hf Hb Hb' H' :=by
 obtain⟨F2,r2⟩:=R'
 have hol:outs.length=as.length:=by
  have:=r2.len
  simp at this
  omega
 have fpf:∀a∈Fj F as,Hf a=none∧Hb a=none∧NT (H a):=fun a ha=>by
  obtain⟨i,_,h2⟩:=RJ.mp ha
  exact r.fr i a h2
 have hfo:∀a o,Hf a=some o→off H (Fj F as) a=some o:=fun a o ho=>by
  rw [qL (fun z=>by rw [(fpf a z).1] at ho;cases ho)]
  exact r.ef a o ho
 have oth:∀i p,i∉lB as→p∈F i→p∉Fj F as:=fun i p hi hp z=>by
  obtain⟨j,j1,j2⟩:=RJ.mp z
  exact r.dj i j p (fun z=>hi (by rw [z];exact j1)) hp j2
 have pos:∀i,i∈lB as→∃k:Nat,as[k]? =some (.s i):=fun i h=>PN h
 let ps:Nat→Nat:=fun i=>if h:i∈lB as then Classical.choose (pos i h) else 0
 have psk:∀i,i∈lB as→as[ps i]? =some (.s i):=fun i h=>by
  have:=Classical.choose_spec (pos i h)
  simp only [ps,dif_pos h]
  exact this
 have f2:∀k p,p∈F2 k→∀i,i∉lB as→p∉F i:=fun k p hp i hi hpi=>by
  have x:=(r2.fr k p hp).1
  have y:=(r.fr i p hpi).2.2
  rw [qL (oth i p hi hpi)] at x
  rw [x] at y
  exact y
 let G:Nat→List Addr:=fun k=>match outs[k]? with
  |some (.own _)=>F2 k
  |some (.nst _ _)=>F2 k
  |_=>[]
 have G2:∀k p,p∈G k→p∈F2 k:=fun k p hp=>by
  simp only [G] at hp
  split at hp
  ·exact hp
  ·exact hp
  ·cases hp
 refine⟨⟨fun i=>if i∈lB as∧i<ρ.length then G (ps i) else if i∈lB as then [] else F i,fun a o h=>r2.ef a o (hfo a o h),r2.eb,by rw [Fp];exact r.len,fun i s h=> ?_,fun i=> ?_,fun i p hp=> ?_,fun i j p ne hp hq=> ?_,r.pin⟩,b.b,b.bh,fun a z1 z2=>b.nw a z1 ?_⟩
 ·have hlt:i<ρ.length:=by
   have:=(au.mp h).1
   rwa [Fp] at this
  by_cases hi:i∈lB as
  ·simp only [if_pos (⟨hi,hlt⟩:i∈lB as∧i<ρ.length)]
   have hk:=psk i hi
   have hkl:ps i<as.length:=(au.mp hk).1
   obtain⟨s0,ho⟩:∃s0,outs[ps i]? =some s0:=⟨_,aU (by omega)⟩
   have:=Qo nd hk ho hlt
   rw [this] at h
   cases h
   obtain⟨v,v1,v2⟩:=hsv _ _ hk
   have z:=r2.sl (ps i) s0 ho
   have e:(vs.map some)[ps i]? =σ[i]? :=by rw [aK,v1,v2];rfl
   rw [e] at z
   cases s0 with
   |own d=>
    have ge:G (ps i)=F2 (ps i):=by simp only [G,ho]
    rw [ge]
    exact z
   |nst k cs=>
    have ge:G (ps i)=F2 (ps i):=by simp only [G,ho]
    rw [ge]
    exact z
   |_=>
    have ge:G (ps i)=[]:=by simp only [G,ho]
    rw [ge]
    rfl
  ·simp only [if_neg (fun z:i∈lB as∧i<ρ.length=>hi z.1),if_neg hi]
   rw [DN hi] at h
   refine(r.sl i s h).frame b.b fun p hp o ho=> ?_
   exact r2.ef p o (by rw [qL (oth i p hi hp)];exact ho)
 ·split
  ·simp only [G]
   split
   ·exact r2.nd _
   ·exact r2.nd _
   ·exact cR
  ·split
   ·exact cR
   ·exact r.nd i
 ·split at hp
  ·obtain⟨x1,x2,x3⟩:=r2.fr _ p (G2 _ p hp)
   refine⟨?_,x2,x3⟩
   cases q:Hf p with
   |none=>rfl
   |some o=>
    rw [hfo p o q] at x1
    cases x1
  ·split at hp
   ·cases hp
   ·rename_i hi
    obtain⟨x1,x2,x3⟩:=r.fr i p hp
    have no:=oth i p hi hp
    obtain⟨o,ho⟩:=wC x3
    have hh:H' p=some o:=r2.ef p o (by rw [qL no];exact ho)
    exact⟨x1,b.nw p x2 (by rw [qL no];exact x3),by rw [hh,←ho];exact x3⟩
 ·split at hp
  ·rename_i hi
   split at hq
   ·rename_i hj
    have z:ps i≠ps j:=fun z=>by
     have a1:=psk i hi.1
     have a2:=psk j hj.1
     rw [z,a2] at a1
     cases a1
     exact ne rfl
    exact r2.dj _ _ p z (G2 _ p hp) (G2 _ p hq)
   ·split at hq
    ·cases hq
    ·rename_i hj
     exact f2 _ p (G2 _ p hp) j hj hq
  ·split at hp
   ·cases hp
   ·rename_i hi
    split at hq
    ·exact f2 _ p (G2 _ p hq) i hi hp
    ·split at hq
     ·cases hq
     ·exact r.dj i j p ne hp hq
 ·have y:=wC z2
  obtain⟨o,ho⟩:=y
  rw [hfo a o ho]
  rw [ho] at z2
  exact z2
end
end DL
set_option maxHeartbeats 2000000
namespace DL
open PySem PySem.Spec L2 Evl PyProof.Rows
def amg(K:aq)(W:WQ)(as:List AM):TA:=fun σ H Q=>∃(Hf Hb:Hp) (ρ:Env),gJ K W.pin Hf Hb H σ ρ∧
 (∀sl,wN as ρ= .ok sl→∀vs Hb' H',Gw Hb H Hb' H' →ArR K Hb' σ as vs sl→Q vs H')∧
 (∀c,wN as ρ= .ex c→∀Hb' H',Gw Hb H Hb' H' →W.w (.ref (He.ga K c)) none σ H')∧wN as ρ≠ .bad
abbrev DAG(X:Cx)(W:WQ)(es:List Expr)(as:List AM):Prop:=PA X es (amg X.K W as)
theorem gJ.val{K:aq}{pn:Pn}{Hf Hb H:Hp}{σ:L2.St}{ρ:Env}{i:Nat}{s t:Sl}(R:gJ K pn Hf Hb H σ ρ)(h:ρ[i]? =some s)(q:rdS s=some t):∃v,σ[i]? =some (some v):=by
 cases s with
 |un=>cases q
 |dat d=>
  obtain⟨v,h1,_⟩:=R.dat i d h
  exact⟨v,h1⟩
 |own d=>
  obtain⟨p,h1,_⟩:=R.own i d h
  exact⟨_,h1⟩
 |bor d=>
  obtain⟨v,h1,_⟩:=R.bor i d h
  exact⟨v,h1⟩
 |nst k cs=>
  obtain⟨p,_,_,h1,_⟩:=R.parts (.inl h)
  exact⟨_,h1⟩
 |vP k cs=>
  obtain⟨p,_,_,h1,_⟩:=R.parts (.inr h)
  exact⟨_,h1⟩
 |Vw ks ls=>
  obtain⟨F,r⟩:=R
  obtain⟨p,qs,_,h1,_⟩:=r.sl i _ h
  exact⟨_,h1⟩
theorem al8{m:EM}{as:List AM}{ρ:Env}{x:D}(h:m ρ= .ok x):wN (.d m::as) ρ=T7 (.dat x) (wN as ρ):=by simp [wN,Pg,h]
theorem alq{m:EM}{as:List AM}{ρ:Env}{c:Str}(h:m ρ= .ex c):wN (.d m::as) ρ= .ex c:=by simp [wN,Pg,h]
theorem aks{m:EM}{as:List AM}{ρ:Env}(h:m ρ= .bad):wN (.d m::as) ρ= .bad:=by simp [wN,Pg,h]
theorem ams{i:Nat}{as:List AM}{ρ:Env}{s t:Sl}(h:ρ[i]? =some s)(q:ioS s=some t):wN (.s i::as) ρ=T7 t (wN as ρ):=by simp [wN,Pg,h,q]
theorem alQ{i:Nat}{as:List AM}{ρ:Env}{s t:Sl}(h:ρ[i]? =some s)(q:rdS s=some t):wN (.r i::as) ρ=T7 t (wN as ρ):=by simp [wN,Pg,h,q]
section
variable{X:Cx}{W:WQ}{e:Expr}{es:List Expr}{m:EM}{as:List AM}{x:Str}{pos:Pos}
theorem Gm:DAG X W [] []:=PA.imp pa_nil fun σ H Q ⟨Hf,Hb,ρ,R,h1,_,_⟩=>h1 [] rfl [] Hb H (Gw.refl R.eb) .nil
theorem Oa(h:DE X W .dat e m)(hr:DAG X W es as)(hp:starEach (e::es) X.env=(false,eval e X.env)::starEach es X.env:=by rfl):DAG X W (e::es) (.d m::as):=PA.imp (pa_cons h hr hp) fun σ H Q ⟨Hf,Hb,ρ,R,h1,h2,h3⟩=>by
 refine⟨Hf,Hb,ρ,R,fun d hd v Hb1 H1 g1 r1=> ?_,fun c hc=>h2 c (alq hc),fun z=>h3 (aks z)⟩
 rw [al8 hd] at h1 h2 h3
 refine⟨Hf,Hb1,ρ,R.gw g1,fun sl hsl vs Hb2 H2 g2 ar=>h1 _ (by rw [hsl];rfl) _ Hb2 H2 (g1.trans g2) (.d (mY g2.b r1) ar),fun c hc Hb2 H2 g2=>h2 c (by rw [hc];rfl) Hb2 H2 (g1.trans g2),fun z=>h3 (by rw [z];rfl)⟩
end
def Bg(g:List Sl→RO)(as:List AM):XM:=fun ρ=>match wN as ρ with
 | .ok sl=>(match g sl with
   | .ok d outs=> .ok d (rW as outs ρ)
   | .ex c outs=> .ex c (rW as outs ρ)
   | .bad=> .bad)
 | .ex c=> .ex c ρ
 | .bad=> .bad
def Dh(g:List Sl→RO)(as:List AM):EM:=fun ρ=>match wN as ρ with
 | .ok sl=>(match g sl with
   | .ok d _=> .ok d
   | .ex c _=> .ex c
   | .bad=> .bad)
 | .ex c=> .ex c
 | .bad=> .bad
section
variable{K:aq}{W:WQ}{pn:Pn}{Hf Hb H Hb1 H1:Hp}{σ:L2.St}{ρ:Env}{as:List AM}{vs:List V}{sl:List Sl}{g:List Sl→RO}{Q:VK}
theorem al9(ar:ArR K Hb σ as vs sl)(he:wN as ρ= .ok sl):∀(k i:Nat),as[k]? =some (.s i)→∃v,vs[k]? =some v∧σ[i]? =some (some v):=fun k i h=>by
 obtain⟨l1,l2,l3⟩:=Ou ar he
 have hk:=(au.mp h).1
 obtain⟨a,v,h1,h2,h3⟩:=l3 k _ (aU (by omega))
 rw [h] at h1
 cases h1
 cases h3 with
 |s q1 q2 q3=>exact⟨v,h2,q2⟩
theorem am4(R:gJ K pn Hf Hb H σ ρ)(g1:Gw Hb H Hb1 H1)(he:wN as ρ= .ok sl)(ar:ArR K Hb1 σ as vs sl)(nd:(lB as).Nodup)(dj:∀i∈HX as,i∉lB as){E:XK}(h:match g sl with
 | .ok d outs=>∀v Hb' H',gJ K pn Hf Hb' H' σ (rW as outs ρ)→Bw Hf Hb Hb' H' →Dr K Hb' v d→Q v H'
 | .ex c outs=>∀Hb' H',gJ K pn Hf Hb' H' σ (rW as outs ρ)→Bw Hf Hb Hb' H' →E (.ref (He.ga K c)) none H'
 | .bad=>False):SpG K as.length g vs H1 Q E:=by
 have b1:=g1.bw R.ef
 obtain⟨F,r⟩:=R.gw g1
 obtain⟨l1,l2,l3⟩:=Ou ar he
 have sv:=al9 ar he
 refine⟨l1,Hb1,Fj F as,sl,r.lend ar he nd dj,?_⟩
 cases q:g sl with
 |ok d outs=>
  rw [q] at h
  intro v Hb' H' R' b r'
  obtain⟨R2,b2⟩:=r.back l1 sv nd R' b
  exact h v Hb' H' R2 (b1.trans b2) r'
 |ex c outs=>
  rw [q] at h
  intro Hb' H' R' b
  obtain⟨R2,b2⟩:=r.back l1 sv nd R' b
  exact h Hb' H' R2 (b1.trans b2)
 |bad=>
  rw [q] at h
  exact h
theorem amh(R:gJ K pn Hf Hb H σ ρ)(g1:Gw Hb H Hb1 H1)(he:wN as ρ= .ok sl)(ar:ArR K Hb1 σ as vs sl)(nd:lB as=[]){E:XK}(h:match g sl with
 | .ok d _=>∀v Hb' H',Gw Hb H Hb' H' →Dr K Hb' v d→Q v H'
 | .ex c _=>∀Hb' H',Gw Hb H Hb' H' →E (.ref (He.ga K c)) none H'
 | .bad=>False):SpG K as.length g vs H1 Q E:=by
 obtain⟨F,r⟩:=R.gw g1
 obtain⟨l1,l2,l3⟩:=Ou ar he
 have e:Fj F as=[]:=by simp [Fj,nd]
 have ld:=r.lend ar he (by rw [nd];exact cR) (by rw [nd];exact fun i _ z=>by cases z)
 rw [e,Qa] at ld
 refine⟨l1,Hb1,[],sl,by rw [Qa];exact ld,?_⟩
 rw [Qa]
 cases q:g sl with
 |ok d outs=>
  rw [q] at h
  exact fun v Hb' H' R' b r' =>h v Hb' H' (g1.trans (VN R'.ef b)) r'
 |ex c outs=>
  rw [q] at h
  exact fun Hb' H' R' b=>h Hb' H' (g1.trans (VN R'.ef b))
 |bad=>
  rw [q] at h
  exact h
end
section
variable{X:Cx}{W:WQ}{x y:Str}{p pos q apos:Pos}{e:Expr}{es:List Expr}{as:List AM}{g:List Sl→RO}{j k n:Nat}{ps:List Str}
end
structure aeY(P:Program)(w:World)(K:aq)(mg:Str→Option Value)(base:Heap)(c m:Str)(k:Nat)(ps:List Str)(sp:Sp):Prop where
 ex:∃fd,FnOk P w K mg base (L2.CX P w) k (He.ma K (He.ga K c) m) fd ps sp∧Binds K fd ps []
 me:Meth K (He.ga K c) m (He.ma K (He.ga K c) m)
 cl:Cls K (He.ga K c)
section
variable{X:Cx}{CX:CXT}{k:Nat}{f C:Addr}{fd:FuncData}{ps:List Str}{sp:Sp}{E:L2.St→XK}{x m:Str}{p pos apos:Pos}{e o:Expr}{es:List Expr}{ta:TE}{t:TA}
def tMethS(C:Addr)(m:Str)(sp:Sp)(E:L2.St→XK)(ta:TE)(t:TA):TE:=fun σ H Q=>ta σ H fun x H1=>∃a dx fs,x= .ref a∧H1 a=some (.ins C dx fs)∧fs.lookup m=none∧t σ H1 fun vs H2=>sp (x::vs) H2 Q (E σ)
theorem pe_methS{pl:Sem Bool}(he:PE X o ta)(c:Cls X.K C)(hm:Meth X.K C m f)(F:FnOk X.prog X.w X.K X.mg X.base CX k f fd ps sp)(hr:Room k X.A)(hb:Binds X.K fd ps [])(hx:∀σ,PassesAt CX X σ (E σ))(ha:PA X (e::es) t)
 (hst:starEach (e::es) X.env=(false,eval e X.env)::starEach es X.env:=by rfl) (hpl:(backTo pos (starEach es X.env)).any (·.1)=false:=by rfl)
 (ht:eval (.Call (.Attribute o m apos) (e::es) [] pos) X.env=(do
   let ov←eval o X.env
   standAt apos.atName
   let (f,first)←holding [ov] (getMethod ov m pl)
   callWith pos f first (backTo pos (starEach (e::es) X.env)) (backToKw pos (keywordEach [] X.env))):=by rfl):
 PE X (.Call (.Attribute o m apos) (e::es) [] pos) (tMethS C m sp E ta t):=by
 refine⟨fun pins s σ H Q I h=> ?_⟩
 refine PySem.W.methodCall_KW (pl:=pl) (thn (he.run pins s σ H _ I h) fun u s1 ⟨x,H1,I1,rx,a,dx,fs,ex,ea,l,q⟩=> ?_) ht
 subst ex
 obtain rfl:u=Value.ref a:=rx
 refine getmeth_ok I1 ea c hm l ?_
 refine PySem.W.callWith_K (first:=[.ref a]) (h₀:=X.base) I.ok.mod.kin hm.kp (thn (ha.run pos pins s1 σ H1 _ I1 q) fun us s2 ⟨vs,H2,I2,r,q2⟩=>⟨I2.kIn,?_⟩) hst hpl
 exact run_fnS (us:= .ref a::us) (vs:= .ref a::vs) F hr hb (hx σ) I2 (.cons rfl r) q2
end
theorem lookup_none:∀{fs:List Str} {vs:List V} {m:Str},m∉fs→(fs.zip vs).lookup m=none
 |[],_,_,_=>rfl
 |_::_,[],_,_=>rfl
 |g::fs,v::vs,m,h=>by
  have ne:(m==g)=false:=by
   rw [beq_eq_false_iff_ne]
   exact fun z=>h (by rw [z];exact aX)
  rw [List.zip_cons_cons,List.lookup_cons,ne]
  exact lookup_none fun z=>h (aN _ z)
def kindAt(ρ:Env)(i:Nat):Option NK:=match ρ[i]? with
 |some (.nst k _)=>some k
 |some (.vP k _)=>some k
 |_=>none
theorem V8{ρ:Env}{i:Nat}{k:NK}(h:kindAt ρ i=some k):∃cs,Pts ρ i k cs:=by
 unfold kindAt at h
 split at h
 ·rename_i k' cs q
  cases h
  exact⟨cs, .inl q⟩
 ·rename_i k' cs q
  cases h
  exact⟨cs, .inr q⟩
 ·cases h
def vO(nk:NK)(i:Nat)(g:List Sl→RO)(as:List AM):XM:=fun ρ=>if kindAt ρ i=some nk then Bg g (.s i::as) ρ else .bad
def Rk(nk:NK)(i:Nat)(g:List Sl→RO)(as:List AM):EM:=fun ρ=>if kindAt ρ i=some nk then Dh g (.r i::as) ρ else .bad
section
variable{X:Cx}{W:WQ}{y c m:Str}{fs:List Str}{q pos apos:Pos}{e:Expr}{es:List Expr}{as:List AM}{g:List Sl→RO}{j k n:Nat}{ps:List Str}
theorem afp{K:aq}{i:Nat}{t:Sl}{σ:L2.St}{H Hf Hb:Hp}{ρ:Env}{p:Addr}{Q:List V→Hp→Prop}(R:gJ K W.pin Hf Hb H σ ρ)(hp:σ[i]? =some (some (.ref p))){a0:AM}(ha0:a0= .s i∨a0= .r i)(hev:wN (a0::as) ρ=T7 t (wN as ρ))
 (h1:∀sl,wN (a0::as) ρ= .ok sl→∀vs Hb' H',Gw Hb H Hb' H' →ArR K Hb' σ (a0::as) (.ref p::vs) sl→Q vs H') (h2:∀c,wN (a0::as) ρ= .ex c→∀Hb' H',Gw Hb H Hb' H' →W.w (.ref (He.ga K c)) none σ H') (h3:wN (a0::as) ρ≠ .bad):amg K W as σ H Q:=by
 refine⟨Hf,Hb,ρ,R,fun sl hsl vs Hb' H' gg ar=>h1 (t::sl) (by rw [hev,hsl];rfl) vs Hb' H' gg ?_,fun c hc=>h2 c (by rw [hev,hc];rfl),fun z=>h3 (by rw [hev,z];rfl)⟩
 rcases ha0 with rfl|rfl
 ·exact .s hp ar
 ·exact .r hp ar
theorem agE(i:Nat){pl:Sem Bool}(h:aeY X.prog X.w X.K X.mg X.base c m k ps (SpG X.K n g))(hr:Room j X.A)(tk:Takes X W.w)(ha:DAG X W (e::es) as)(hmf:m∉fs:=by decide+kernel)(hio:(lB (.s i::as)).Nodup:=by decide)(hrd:∀l∈HX (.s i::as),l∉lB (.s i::as):=by decide)(hn:as.length+1=n:=by rfl)(hj:k≤j:=by decide)
 (hN:X.N[i]? =some y:=by rfl) (hv:Vis X.env.scope y:=by first|exact Or.inl rfl|exact Or.inr (Or.inl rfl)|exact Or.inr (Or.inr rfl)) (hd:(y==("__debug__":Str))=false:=by decide) (hcd:(y==("__classdict__":Str))=false:=by decide)
 (hst:starEach (e::es) X.env=(false,eval e X.env)::starEach es X.env:=by rfl) (hpl:(backTo pos (starEach es X.env)).any (·.1)=false:=by rfl)
 (ht:eval (.Call (.Attribute (.Name y q) m apos) (e::es) [] pos) X.env=(do
   let ov←eval (.Name y q) X.env
   standAt apos.atName
   let (f,first)←holding [ov] (getMethod ov m pl)
   callWith pos f first (backTo pos (starEach (e::es) X.env)) (backToKw pos (keywordEach [] X.env))):=by rfl):DX X W (.Call (.Attribute (.Name y q) m apos) (e::es) [] pos) (vO (.ins c fs) i g as):=by
 obtain⟨fd,F,B⟩:=h.ex
 refine PE.imp (pe_methS (pl:=pl) (pe_var hN hv hd hcd) h.cl h.me F (hr.mono hj) B (fun σ=>passAt tk σ) ha hst hpl ht) fun σ H Q ⟨Hf,Hb,ρ,R,h1,h2,h3⟩=> ?_
 by_cases hk:kindAt ρ i=some (.ins c fs)
 ·simp only [vO,if_pos hk] at h1 h2 h3
  obtain⟨cs,hp⟩:=V8 hk
  obtain⟨p,vs0,hpp,a1,⟨dx,a2,_,_,_⟩,_,_⟩:=R.parts hp
  rcases hp with hp|hp
  ·have hev:wN (.s i::as) ρ=T7 (.nst (.ins c fs) cs) (wN as ρ):=ams hp rfl
   refine⟨_,a1,p,dx,_,rfl,a2,lookup_none hmf,afp R a1 (.inl rfl) hev (fun sl hsl vs Hb1 H1 g1 ar=> ?_) (fun c hc Hb1 H1 g1=>h2 c ρ (by simp [Bg,hc]) Hb1 H1 (R.gw g1) (g1.bw R.ef)) fun z=>h3 (by simp [Bg,z])⟩
   rw [←hn]
   refine am4 (as:= .s i::as) R g1 hsl ar hio hrd ?_
   cases qg:g sl with
   |ok d outs=>exact h1 d _ (by simp [Bg,hsl,qg])
   |ex c outs=>exact h2 c _ (by simp [Bg,hsl,qg])
   |bad=>exact absurd (by simp [Bg,hsl,qg]) h3
  ·exact absurd (by simp [Bg,wN,Pg,hp,ioS]) h3
 ·exact absurd (by simp [vO,hk]) h3
theorem aiX{ρ:Env}{i:Nat}{k:NK}{cs:List Sl}(h:Pts ρ i k cs):∃s cs',ρ[i]? =some s∧rdS s=some (.vP k cs'):=by
 rcases h with h|h
 ·exact⟨_,_,h,rfl⟩
 ·exact⟨_,_,h,rfl⟩
theorem am2(i:Nat){pl:Sem Bool}(h:aeY X.prog X.w X.K X.mg X.base c m k ps (SpG X.K n g))(hr:Room j X.A)(tk:Takes X W.w)(ha:DAG X W (e::es) as)(hmf:m∉fs:=by decide+kernel)(hio:lB as=[]:=by rfl)(hn:as.length+1=n:=by rfl)(hj:k≤j:=by decide)
 (hN:X.N[i]? =some y:=by rfl) (hv:Vis X.env.scope y:=by first|exact Or.inl rfl|exact Or.inr (Or.inl rfl)|exact Or.inr (Or.inr rfl)) (hd:(y==("__debug__":Str))=false:=by decide) (hcd:(y==("__classdict__":Str))=false:=by decide)
 (hst:starEach (e::es) X.env=(false,eval e X.env)::starEach es X.env:=by rfl) (hpl:(backTo pos (starEach es X.env)).any (·.1)=false:=by rfl)
 (ht:eval (.Call (.Attribute (.Name y q) m apos) (e::es) [] pos) X.env=(do
   let ov←eval (.Name y q) X.env
   standAt apos.atName
   let (f,first)←holding [ov] (getMethod ov m pl)
   callWith pos f first (backTo pos (starEach (e::es) X.env)) (backToKw pos (keywordEach [] X.env))):=by rfl):DE X W .dat (.Call (.Attribute (.Name y q) m apos) (e::es) [] pos) (Rk (.ins c fs) i g as):=by
 obtain⟨fd,F,B⟩:=h.ex
 refine PE.imp (pe_methS (pl:=pl) (pe_var hN hv hd hcd) h.cl h.me F (hr.mono hj) B (fun σ=>passAt tk σ) ha hst hpl ht) fun σ H Q ⟨Hf,Hb,ρ,R,h1,h2,h3⟩=> ?_
 by_cases hk:kindAt ρ i=some (.ins c fs)
 ·simp only [Rk,if_pos hk] at h1 h2 h3
  obtain⟨cs,hp⟩:=V8 hk
  obtain⟨p,vs0,hpp,a1,⟨dx,a2,_,_,_⟩,_,_⟩:=R.parts hp
  obtain⟨s,cs,q1,q2⟩:=aiX hp
  have hev:wN (.r i::as) ρ=T7 (.vP (.ins c fs) cs) (wN as ρ):=alQ q1 q2
  refine⟨_,a1,p,dx,_,rfl,a2,lookup_none hmf,afp R a1 (.inr rfl) hev (fun sl hsl vs Hb1 H1 g1 ar=> ?_) (fun c hc Hb1 H1 g1=>h2 c (by simp [Dh,hc]) Hb1 H1 g1) fun z=>h3 (by simp [Dh,z])⟩
  rw [←hn]
  refine amh (as:= .r i::as) R g1 hsl ar hio ?_
  cases qg:g sl with
  |ok d outs=>exact h1 d (by simp [Dh,hsl,qg])
  |ex c outs=>exact h2 c (by simp [Dh,hsl,qg])
  |bad=>exact absurd (by simp [Dh,hsl,qg]) h3
 ·exact absurd (by simp [Rk,hk]) h3
end
end DL
set_option maxHeartbeats 2000000
namespace DL
open PySem PySem.Spec L2 Evl PyProof.Rows
section
variable{K:aq}{pn:Pn}{Hf Hb H Hb' H' :Hp}{σ:L2.St}{ρ:Env}{i:Nat}
theorem gJ.akn{k:NK}{cs:List Sl}{v:V}{fp:List Addr}(R:gJ K pn Hf Hb H σ ρ)(ho:yg pn i)(g:Gw Hb H Hb' H')(h:NsR K Hb' H' v k cs fp)(nd:fp.Nodup)(fr:∀a∈fp,H a=none∧Hb' a=none):gJ K pn Hf Hb' H' (σ.set i (some v)) (ρ.set i (.nst k cs)):=by
 obtain⟨F,r⟩:=R
 refine⟨_,r.step (fp:=fp) (r.ef.trans g.h) g.bh g.b (by simp) (fun j z=>Y8 z) (fun a _ _ h2 h3=> ?_) (fun hi=>⟨v,Qh (by rw [r.len];exact hi),h⟩) nd (fun a ha=>⟨fresh_back r.ef (fr a ha).1,(fr a ha).2,h.nt a ha⟩) (fun j a _ ha hj=> ?_) (fun a q=>absurd q (ho a))⟩
 ·obtain⟨o,e⟩:=wC h3
  exact⟨by rw [e];exact g.h a o e,g.nw a h2 h3⟩
 ·have z:=(r.fr j a hj).2.2
  rw [(fr a ha).1] at z
  exact z
theorem gJ.ahT{vs:List V}{sl:List Sl}{x dx:Addr}{c:Str}(R:gJ K [] H Hb H (vs.map some) sl)(hx:H x=none)(hdx:H dx=none)(ne:dx≠x):
 gJ K [] H Hb (upd (upd H dx (.own x)) x (.ins (He.ga K c) dx [])) ((V.ref x::vs).map some) (.nst (.ins c []) []::sl):=by
 obtain⟨F,r⟩:=R
 have e1:∀a o,H a=some o→upd (upd H dx (.own x)) x (.ins (He.ga K c) dx []) a=some o:=fun a o h=>by
  rw [upd_ne (ne_of_none h hx),upd_ne (ne_of_none h hdx)]
  exact h
 have nov:∀a,a∈[x,dx]→H a=none:=fun a ha=>by
  rcases aH.mp ha with z|z
  ·rw [z];exact hx
  ·rw [aR.mp z];exact hdx
 refine⟨fun k=>match k with|0=>[x,dx]|k+1=>F k,fun a o h=>e1 a o h,fun a o h=>e1 a o (r.eb a o h),by simpa using r.len,fun k s h=> ?_,fun k=> ?_,fun k p hp=> ?_,fun k l p nk hp hq=> ?_,fun _ _ z=>by cases z⟩
 ·cases k with
  |zero=>
   simp at h
   subst h
   refine⟨.ref x,rfl,x,[],[x,dx],[],rfl,⟨dx,upd_same,?_,rfl,rfl⟩, .nil,by simp⟩
   rw [upd_ne ne,upd_same]
  |succ k=>
   have:=r.sl k s (by simpa using h)
   exact this.frame (Ex.refl _) fun p _ o ho=>e1 p o ho
 ·cases k with
  |zero=>simp [ne.symm]
  |succ k=>exact r.nd k
 ·cases k with
  |zero=>
   refine⟨nov p hp,fresh_back r.eb (nov p hp),?_⟩
   rcases aH.mp hp with z|z
   ·rw [z,upd_same]
    exact True.intro
   ·rw [aR.mp z,upd_ne ne,upd_same]
    exact True.intro
  |succ k=>
   obtain⟨f1,f2,f3⟩:=r.fr k p hp
   obtain⟨o,ho⟩:=wC f3
   exact⟨f1,f2,by rw [e1 p o ho,←ho];exact f3⟩
 ·cases k with
  |zero=>
   cases l with
   |zero=>exact nk rfl
   |succ l=>
    have:=(r.fr l p hq).2.2
    rw [nov p hp] at this
    exact this
  |succ k=>
   cases l with
   |zero=>
    have:=(r.fr k p hp).2.2
    rw [nov p hq] at this
    exact this
   |succ l=>exact r.dj k l p (fun z=>nk (by rw [z])) hp hq
end
def mkOf(K:aq)(W:WQ)(c:Str)(g:List Sl→RO)(as:List AM):TE:=fun σ H Q=>∃(Hf Hb:Hp) (ρ:Env),gJ K W.pin Hf Hb H σ ρ∧
 (∀sl,wN as ρ= .ok sl→∃k cs outs,g (.nst (.ins c []) []::sl)= .ok .none (.nst k cs::outs)∧∀v fp Hb' H',Gw Hb H Hb' H' →NsR K Hb' H' v k cs fp→fp.Nodup→(∀a∈fp,H a=none∧Hb' a=none)→Q v H')∧
 (∀c,wN as ρ= .ex c→∀Hb' H',Gw Hb H Hb' H' →W.w (.ref (He.ga K c)) none σ H')∧wN as ρ≠ .bad
theorem al5{X:Cx}:Passes (L2.CX X.prog X.w) X (fun _ _ _=>False):=fun pins σ H s e s' I c=>by
 obtain⟨a,B,H',cls,d,rfl,fl,hok,ub,na,os,ag,hE⟩:=c
 exact hE.elim
structure alG(P:Program)(w:World)(K:aq)(mg:Str→Option Value)(base:Heap)(c:Str)(k:Nat)(ps:List Str)(sp:Sp):Prop where
 ex:∃fd,FnOk P w K mg base (L2.CX P w) k (He.ma K (He.ga K c) "__init__") fd ps sp∧Binds K fd ps []
 mk_:Mk K (He.ga K c) (He.ma K (He.ga K c) "__init__")
 gl:mg c=some (.ref (He.ga K c))
section
variable{X:Cx}{W:WQ}{c:Str}{p pos:Pos}{e:Expr}{es:List Expr}{as:List AM}{g:List Sl→RO}{j k n:Nat}{ps:List Str}
theorem amA{σ:L2.St}{H Hf Hb Hb1 H1:Hp}{ρ:Env}{sl:List Sl}{vs:List V}{Q:VK}(R:gJ X.K W.pin Hf Hb H σ ρ)(g1:Gw Hb H Hb1 H1)(he:wN as ρ= .ok sl)(ar:ArR X.K Hb1 σ as vs sl)(nd:lB as=[])
 (h:∃k cs outs,g (.nst (.ins c []) []::sl)= .ok .none (.nst k cs::outs)∧∀v fp Hb' H',Gw Hb H Hb' H' →NsR X.K Hb' H' v k cs fp→fp.Nodup→(∀a∈fp,H a=none∧Hb' a=none)→Q v H') {x dx:Addr} (hx:H1 x=none) (hdx:H1 dx=none) (ne:dx≠x):
 SpG X.K (as.length+1) g (.ref x::vs) (upd (upd H1 dx (.own x)) x (.ins (He.ga X.K c) dx [])) (fun v H2=>v= .non∧Q (.ref x) H2) (fun _ _ _=>False):=by
 obtain⟨F,r⟩:=R.gw g1
 obtain⟨l1,l2,l3⟩:=Ou ar he
 have e:Fj F as=[]:=by simp [Fj,nd]
 have ld:=r.lend ar he (by rw [nd];exact cR) (by rw [nd];exact fun i _ z=>by cases z)
 rw [e,Qa] at ld
 obtain⟨k,cs,outs,qg,hq⟩:=h
 have eo:off (upd (upd H1 dx (.own x)) x (.ins (He.ga X.K c) dx [])) [x,dx]=H1:=by
  funext a
  by_cases z:a∈[x,dx]
  ·simp only [off,if_pos z]
   rcases aH.mp z with z|z
   ·rw [z,hx]
   ·rw [aR.mp z,hdx]
  ·rw [qL z,upd_ne (fun w=>z (by rw [w];simp)),upd_ne (fun w=>z (by rw [w];simp))]
 refine⟨by simp [l1],Hb1,[x,dx], .nst (.ins c []) []::sl,by rw [eo];exact ld.ahT hx hdx ne,?_⟩
 rw [qg,eo]
 intro v Hb' H' R' b r'
 cases r'
 refine⟨rfl,?_⟩
 have ef:=R'.ef
 obtain⟨F2,r2⟩:=R'
 obtain⟨v0,e0,ns⟩:=r2.sl 0 _ rfl
 simp at e0
 subst e0
 exact hq _ (F2 0) Hb' H' (g1.trans (VN ef b)) ns (r2.nd 0) fun a ha=>⟨fresh_back g1.h (r2.fr 0 a ha).1,(r2.fr 0 a ha).2.1⟩
theorem akt(h:alG X.prog X.w X.K X.mg X.base c k ps (SpG X.K 1 g))(hr:Room j X.A)(hj:k+1≤j:=by decide)(hg:Gl X c:=by rfl)(hdb:(c==("__debug__":Str))=false:=by decide):PE X (.Call (.Name c p) [] [] pos) (mkOf X.K W c g []):=by
 obtain⟨fd,F,B⟩:=h.ex
 refine PE.imp (pe_make0 h.mk_ F (hr.mono hj) hg h.gl B .nil al5 hdb) fun σ H Q ⟨Hf,Hb,ρ,R,h1,h2,h3⟩=> ?_
 intro x dx hx hdx ne
 exact amA (as:=[]) R (Gw.refl R.eb) rfl .nil rfl (h1 [] rfl) hx hdx ne
end
def agU(i:Nat)(c:Str)(g:List Sl→RO)(as:List AM):SM:=fun ρ=>match wN as ρ with
 | .ok sl=>(match g (.nst (.ins c []) []::sl) with
   | .ok .none (.nst k cs::_)=> .nx (ρ.set i (.nst k cs))
   |_=> .bad)
 | .ex c=> .ex c ρ
 | .bad=> .bad
theorem aib{X:Cx}{W:WQ}{rk:Kd}{e:Expr}{c:Str}{g:List Sl→RO}{as:List AM}{i:Nat}{x:Str}{pos' pos:Pos}(hN:X.N.Nodup)(he:PE X e (mkOf X.K W c g as))(hi:X.N[i]? =some x:=by rfl)(hx:Loc X.env.scope x:=by first|exact Or.inl rfl|exact Or.inr rfl)(hs:swapsWith e (some (.Name x pos')) pos.line X.env=pure false:=by rfl)
 (hf:X.fn x=true∨X.env.scope.names.lookup x=some .local:=by first|exact .inl rfl|exact .inr rfl|assumption) (ho:yg W.pin i:=by intro _ z;first|(cases z;done)|exact absurd (dM z).1 (by decide)|(simp at z;done)):DS X W rk (.Assign [.Name x pos'] e pos) (agU i c g as):=PS.imp (ps_set hN hi hx he hs hf) fun E σ H ⟨Hf,Hb,ρ,R,h⟩=>by
 unfold agU at h
 refine⟨Hf,Hb,ρ,R,fun sl hsl=> ?_,fun c hc Hb' H' g=> ?_,fun z=> ?_⟩
 ·rw [hsl] at h
  simp only at h
  split at h
  ·rename_i k cs outs q
   exact⟨k,cs,outs,q,fun v fp Hb' H' gw ns nd fr=>h _ Hb' H' (R.akn ho gw ns nd fr) (gw.bw R.ef)⟩
  ·exact h.elim
 ·rw [hc] at h
  exact h _ Hb' H' (R.gw g) (g.bw R.ef)
 ·rw [z] at h
  exact h
section
variable{P:Program}{w:World}{K:aq}{mg:Str→Option Value}{base:Heap}{fa:List He.Fa}{fn:List He.DefD}
abbrev ajG(P:Program)(w:World)(K:aq)(mg:Str→Option Value)(base:Heap)(d:He.DefD)(N:List Str)(k:Nat)(bs:List Bool)(m:SM):Prop:=
 ∀(pa:List Addr) (f:Addr) (cdv:Value) (A:Around) (outer:List PySem.Env) (s:Shared) (H:Hp) (E:XK),Room k (cxOf (L2.CX P w) P w K mg base N d.qual d.scope f cdv A outer s H E).A→Takes (cxOf (L2.CX P w) P w K mg base N d.qual d.scope f cdv A outer s H E) (fun cls d _ H=>E cls d H)→
  PassesOwn (model (cxOf (L2.CX P w) P w K mg base N d.qual d.scope f cdv A outer s H E).prog (cxOf (L2.CX P w) P w K mg base N d.qual d.scope f cdv A outer s H E).w) (cxOf (L2.CX P w) P w K mg base N d.qual d.scope f cdv A outer s H E).A (cxOf (L2.CX P w) P w K mg base N d.qual d.scope f cdv A outer s H E).env (cxOf (L2.CX P w) P w K mg base N d.qual d.scope f cdv A outer s H E).xe→
  Wg (cxOf (L2.CX P w) P w K mg base N d.qual d.scope f cdv A outer s H E) ⟨fun cls d _ H=>E cls d H,(idxs bs).zip pa⟩ .dat d.body m
abbrev ajF(d:He.DefD)(ps:List Str):Prop:=∀(kV doc pm:Value) (an:Option Addr) (cdv ct:Value) (us:List Value),us.length=ps.length→bindArgs (PySem.W.fnOf d.name d.qual d.params d.body d.scope .none kV doc pm an cdv ct) ⟨us,[]⟩=pure (ps.zip us)
theorem afP{c mm:Str}{d:He.DefD}(Z:mJ fa fn K mg)(i j l:Nat){N ps:List Str}{k n:Nat}{bs:List Bool}{m:SM}(hd:fn[i]? =some d)(hx:d.at_=(c,some mm))(hdf:d.dfl=[])(hkw:d.kwd=[])(hg:fa[j]? =some (.meth c mm))(hc:fa[l]? =some (.cls c))(S:FnScope N ps d.scope)(hps:ps.length=bs.length)(hn:N.length=bs.length+n)(hb:ajF d ps)(hbody:ajG P w K mg base d N k bs m):
 aeY P w K mg base c mm (k+1) ps (SpG K bs.length (Iv bs n m)):=by
 obtain⟨fd,F⟩:=Z.says.def_ i hd
 have ea:He.fAd K d.at_=He.ma K (He.ga K c) mm:=by rw [hx];rfl
 rw [ea] at F
 have e1:d.dvs K=[]:=by
  unfold He.DefD.dvs
  rw [hdf]
  rfl
 rw [e1] at F
 exact⟨⟨fd,ami F S hps hn (fun pa cdv A outer s H E hr=>hbody pa _ cdv A outer s H E hr (takes_of rfl rfl rfl rfl) PassesOwn.leaving),F.bindsN hb⟩,He.meth_ok (Z.says.fact j hg),He.cls_ok (Z.says.fact l hc)⟩
theorem amu{c:Str}{d:He.DefD}(Z:mJ fa fn K mg)(i j l:Nat){N ps:List Str}{k n:Nat}{bs:List Bool}{m:SM}(hd:fn[i]? =some d)(hx:d.at_=(c,some ("__init__":Str)))(hdf:d.dfl=[])(hkw:d.kwd=[])(hg:fa[j]? =some (.mkr c))(hc:fa[l]? =some (.glo c))(S:FnScope N ps d.scope)(hps:ps.length=bs.length)(hn:N.length=bs.length+n)(hb:ajF d ps)(hbody:ajG P w K mg base d N k bs m):
 alG P w K mg base c (k+1) ps (SpG K bs.length (Iv bs n m)):=by
 obtain⟨fd,F⟩:=Z.says.def_ i hd
 have ea:He.fAd K d.at_=He.ma K (He.ga K c) "__init__":=by rw [hx];rfl
 rw [ea] at F
 have e1:d.dvs K=[]:=by
  unfold He.DefD.dvs
  rw [hdf]
  rfl
 rw [e1] at F
 exact⟨⟨fd,ami F S hps hn (fun pa cdv A outer s H E hr=>hbody pa _ cdv A outer s H E hr (takes_of rfl rfl rfl rfl) PassesOwn.leaving),F.bindsN hb⟩,He.mkr_ok (Z.says.fact j hg),Z.glo l hc⟩
theorem mJ.cls(Z:mJ fa fn K mg)(i:Nat){x:Str}(h:fa[i]? =some (.cls x):=by rfl):Cls K (He.ga K x):=He.cls_ok (Z.says.fact i h)
theorem mJ.noat(Z:mJ fa fn K mg)(i:Nat){x f:Str}(h:fa[i]? =some (.noat x f):=by rfl):NoAttr K (He.ga K x) f:=He.noat_ok (Z.says.fact i h)
end
end DL
set_option maxHeartbeats 2000000
namespace DL
open PySem PySem.Spec L2 Evl PyProof.Rows
structure YlF(K:aq)(Hf Hb1:Hp)(J:It)(ds:List D):Prop where
 go:∀(i:Nat) H,Ex Hf H→Ex Hb1 H→i<ds.length→J.go i H
 stop:∀H,Ex Hf H→Ex Hb1 H→J.stop ds.length H
 yld:∀(i:Nat) H x H' Hb,Ex Hf H→Ex Hb1 Hb→Ex Hb H→i<ds.length→J.yld i H x H' →∃Hb' d,Gw Hb H Hb' H' ∧ds[i]? =some d∧Dr K Hb' x d
theorem abn{K:aq}{W:WQ}{rk:Kd}{g:GM}{mb:SM}{Hf Hb1 H1:Hp}{σ:L2.St}{ρ:Env}{E:Ends}{J:It}{ds:List D}(R:gJ K W.pin Hf Hb1 H1 σ ρ)(Y:YlF K Hf Hb1 J ds)(h:lO K W rk Hf Hb1 H1 E (wF g mb ds ρ)):
 ∃Wi:Nat→Nat→L2.St→Hp→Prop,(∃m,Wi 0 m σ H1)∧∀i m σ H,Wi i m σ H→
  (J.stop i H∧E.nx σ H)∨(J.go i H∧∃N:L2.St→Hp→Prop,(∀σ' H',N σ' H' →∃m',m' <m∧Wi (i+1) m' σ' H')∧∀x H',J.yld i H x H' →gOf K W.pin g x σ H' fun σ2 H2=>sOf K W rk mb {E with nx:=N,ct:=N,bk:=E.nx} σ2 H2):=by
 refine⟨fun i n σ' H' =>n=ds.length-i∧i≤ds.length∧∃Hb' ρ',gJ K W.pin Hf Hb' H' σ' ρ' ∧Ex Hb1 Hb' ∧lO K W rk Hf Hb' H' E (wF g mb (ds.drop i) ρ'),⟨ds.length,by simp,cX _,Hb1,ρ,R,Ex.refl _,h⟩,?_⟩
 rintro i n σ2 H2 ⟨rfl,hi,Hb2,ρ2,R2,e2,h2⟩
 by_cases hlt:i<ds.length
 ·have ed:ds.drop i=ds[i]::ds.drop (i+1):=(List.getElem_cons_drop hlt).symm
  rw [ed] at h2
  refine .inr ⟨Y.go i H2 R2.ef (e2.trans R2.eb) hlt,fun σ' H' =>∃Hb' ρ',gJ K W.pin Hf Hb' H' σ' ρ' ∧Ex Hb1 Hb' ∧lO K W rk Hf Hb' H' E (wF g mb (ds.drop (i+1)) ρ'),fun σ' H' hN=>⟨ds.length-(i+1),by omega,rfl,hlt,hN⟩,fun x H3 y=> ?_⟩
  obtain⟨Hb3,d,g3,d1,d2⟩:=Y.yld i H2 x H3 Hb2 R2.ef e2 R2.eb hlt y
  have de:ds[i]=d:=by
   rw [aU hlt] at d1
   exact Option.some.inj d1
  rw [de] at h2
  simp only [wF] at h2
  cases q:g d ρ2 with
  |none=>
   rw [q] at h2
   exact h2.elim
  |some ρ3=>
   rw [q] at h2
   refine⟨Hf,Hb3,ρ2,d,ρ3,R2.gw g3,d2,q,fun σ3 R3=>⟨Hf,Hb3,ρ3,R3,?_⟩⟩
   have h3:=lO.weak (g3.bw R2.ef) h2
   simp only at h3
   cases qb:mb ρ3 with
   |nx ρ4=>
    rw [qb] at h3
    exact fun σ4 Hb4 H4 R4 b4=>⟨Hb4,ρ4,R4,(e2.trans g3.b).trans b4.b,lO.weak b4 h3⟩
   |ct ρ4=>
    rw [qb] at h3
    exact fun σ4 Hb4 H4 R4 b4=>⟨Hb4,ρ4,R4,(e2.trans g3.b).trans b4.b,lO.weak b4 h3⟩
   |bk ρ4=>rw [qb] at h3;exact h3
   |rt d=>rw [qb] at h3;exact h3
   |rx d ρ4=>rw [qb] at h3;exact h3
   |ex c ρ4=>rw [qb] at h3;exact h3
   |bad=>rw [qb] at h3;exact h3
 ·have e:i=ds.length:=by omega
  subst e
  rw [List.drop_length] at h2
  exact .inl ⟨Y.stop H2 R2.ef (e2.trans R2.eb),h2 σ2 Hb2 H2 R2 (Bw.refl R2.eb)⟩
theorem ajA{K:aq}{Hb:Hp}:∀{kvs:List (Key×V)} {ds:List (D×D)},PK K Hb kvs ds→∀(i:Nat) (q:Key×V),kvs[i]? =some q→∃d,ds[i]? =some (keyD q.1,d)∧Dr K Hb q.2 d
 |_,_, .nil,i,q,h=>by simp at h
 |_,_, .cons (a:=p) (b:=(x,y)) h r,0,q,e=>by
  simp at e
  subst e
  have hx:x=keyD p.1:=h.1
  exact⟨y,by simp [hx],h.2⟩
 |_,_, .cons h r,i+1,q,e=>by simpa using ajA r i q (by simpa using e)
theorem ajH{Hf Hb1 H:Hp}{p:Addr}{u:HO}(hp:Hf p=some u∨Hb1 p=some u)(e:Ex Hf H)(e1:Ex Hb1 H):H p=some u:=by
 rcases hp with hp|hp
 ·exact e _ _ hp
 ·exact e1 _ _ hp
theorem afJ{K:aq}{Hf Hb1:Hp}{p:Addr}{o:Obj}{kvs:List (Key×V)}{ds:List (D×D)}(hp:Hf p=some (.frz o (.dK kvs))∨Hb1 p=some (.frz o (.dK kvs)))(pk:PK K Hb1 kvs ds):YlF K Hf Hb1 (Itk p o kvs) (ds.map (·.1)) where
 go:=fun i H e e1 hi=>⟨ajH hp e e1,by rw [aC] at hi;rw [QF pk];exact hi⟩
 stop:=fun H e e1=>⟨ajH hp e e1,by rw [aC,QF pk];exact bJ _⟩
 yld:=fun i H x H' Hb e e1 e2 hi y=>by
  obtain⟨rfl,k,v,hq,rfl⟩:=y
  obtain⟨d,h1,h2⟩:=ajA pk i _ hq
  exact⟨Hb,keyD k,Gw.refl e2,by rw [aK,h1];rfl,akR k⟩
section
variable{K:aq}{pn:Pn}{Hf Hb H:Hp}{σ:L2.St}{ρ:Env}{p:Addr}{kvs:List (Key×V)}{od:Obj}
theorem ahG(h:Hf p=some (.dK kvs)){q:Addr}{o:HO}(r:RdN Hf q o):RdN (upd Hf p (.frz od (.dK kvs))) q o:=by
 by_cases z:q=p
 ·subst z
  rcases r with r|⟨⟨od',r⟩,_⟩
  ·rw [h] at r
   cases r
   exact .inr ⟨⟨od,upd_same⟩,kvs,rfl⟩
  ·rw [h] at r
   cases r
 ·rcases r with r|⟨⟨od',r⟩,y⟩
  ·exact .inl (by rw [upd_ne z];exact r)
  ·exact .inr ⟨⟨od',by rw [upd_ne z];exact r⟩,y⟩
theorem ab2(h:Hf p=some (.dK kvs)){q:Addr}{o:HO}(hn:∀od' u,o≠ .frz od' u)(r:RdN (upd Hf p (.frz od (.dK kvs))) q o):RdN Hf q o:=by
 by_cases z:q=p
 ·subst z
  rcases r with r|⟨⟨od',r⟩,_⟩
  ·rw [upd_same] at r
   cases r
   exact absurd rfl (hn _ _)
  ·rw [upd_same] at r
   cases r
   exact .inl h
 ·rcases r with r|⟨⟨od',r⟩,y⟩
  ·exact .inl (by rw [upd_ne z] at r;exact r)
  ·exact .inr ⟨⟨od',by rw [upd_ne z] at r;exact r⟩,y⟩
theorem Ob.nofrz{o:HO}{d:D}(h:Ob K Hb o d):∀od' u,o≠ .frz od' u:=by cases h<;>exact fun _ _ z=>nomatch z
theorem adZ{f:Hp→Hp}{vs:List V}{cs:List Sl}{Hx Hy:Hp}(hf:∀q d,Yx K Hb Hx q d→Yx K Hb Hy q d)(h:Wo K Hb Hx vs cs):Wo K Hb Hy vs cs:=by
 induction h with
 |nil=>exact .nil
 |dat a _ ih=>exact .dat a ih
 |bor a _ ih=>exact .bor (hf _ _ a) ih
 |un _ ih=>exact .un ih
theorem ajg{Hx:Hp}{a:Addr}{vs:List V}{k:NK}{hp:List Addr}(h:Hx p=some (.dK kvs))(hd:Y4 K Hx a vs k hp):Y4 K (upd Hx p (.frz od (.dK kvs))) a vs k hp:=by
 refine hd.frame fun q hq o ho=> ?_
 rw [upd_ne (fun z=> ?_)]
 ·exact ho
 ·subst z
  rw [h] at ho
  cases ho
  cases k with
  |lst=>
   obtain⟨x1,rfl⟩:=hd
   rw [aR.mp hq,x1] at h
   cases h
  |ins c fs=>
   obtain⟨dx,x1,x2,_,rfl⟩:=hd
   rcases aH.mp hq with w|w
   ·rw [w,x1] at h
    cases h
   ·rw [aR.mp w,x2] at h
    cases h
theorem afd{Hx:Hp}{a:Addr}{vs:List V}{k:NK}{hp:List Addr}(hd:Y4 K (upd Hx p (.frz od (.dK kvs))) a vs k hp):Y4 K Hx a vs k hp:=by
 have key:∀q o,upd Hx p (.frz od (.dK kvs)) q=some o→(∀od' u,o≠ .frz od' u)→Hx q=some o:=fun q o ho hn=>by
  by_cases z:q=p
  ·subst z
   rw [upd_same] at ho
   cases ho
   exact absurd rfl (hn _ _)
  ·rw [upd_ne z] at ho
   exact ho
 cases k with
 |lst=>
  obtain⟨x1,x2⟩:=hd
  exact⟨key _ _ x1 (fun _ _ z=>nomatch z),x2⟩
 |ins c fs=>
  obtain⟨dx,x1,x2,x3,x4⟩:=hd
  exact⟨dx,key _ _ x1 (fun _ _ z=>nomatch z),key _ _ x2 (fun _ _ z=>nomatch z),x3,x4⟩
theorem gJ.alW(R:gJ K pn Hf Hb H σ ρ)(h:Hf p=some (.dK kvs))(hb:Hb p=none):gJ K pn (upd Hf p (.frz od (.dK kvs))) Hb (upd H p (.frz od (.dK kvs))) σ ρ:=by
 obtain⟨F,r⟩:=R
 have np:∀i q,q∈F i→q≠p:=fun i q hq z=>by
  have:=(r.fr i q hq).1
  rw [z,h] at this
  cases this
 have ob:∀q d,Yx K Hb Hf q d→Yx K Hb (upd Hf p (.frz od (.dK kvs))) q d:=fun q d ⟨o,x1,x2⟩=>⟨o,ahG h x1,x2⟩
 refine⟨F,fun a o e=> ?_,fun a o e=> ?_,r.len,fun i s hs=> ?_,r.nd,fun i q hq=> ?_,r.dj,r.pin⟩
 ·by_cases z:a=p
  ·subst z
   rw [upd_same] at e⊢
   exact e
  ·rw [upd_ne z] at e⊢
   exact r.ef a o e
 ·rw [upd_ne (ne_of_none e hb)]
  exact r.eb a o e
 ·have z:=r.sl i s hs
  cases s with
  |bor d=>
   obtain⟨z0,v,z1,z2⟩:=z
   refine⟨z0,v,z1,?_⟩
   rcases z2 with z2|⟨q,z3,z4⟩
   ·exact .inl z2
   ·exact .inr ⟨q,z3,ob q d z4⟩
  |vP k cs=>
   obtain⟨z0,q,vs,hp,z1,z2,z3⟩:=z
   exact⟨z0,q,vs,hp,z1,ajg h z2,adZ (f:=id) ob z3⟩
  |un=>exact z
  |dat d=>exact z
  |own d=>exact SlO.frame (Hf:=Hf) (s:= .own d) z (Ex.refl _) fun q hq o ho=>by rw [upd_ne (np i q hq)];exact ho
  |nst k cs=>exact SlO.frame (Hf:=Hf) (s:= .nst k cs) z (Ex.refl _) fun q hq o ho=>by rw [upd_ne (np i q hq)];exact ho
  |Vw k cs=>exact SlO.frame (Hf:=Hf) (s:= .Vw k cs) z (Ex.refl _) fun q hq o ho=>by rw [upd_ne (np i q hq)];exact ho
 ·obtain⟨f1,f2,f3⟩:=r.fr i q hq
  rw [upd_ne (np i q hq),upd_ne (np i q hq)]
  exact⟨f1,f2,f3⟩
theorem gJ.PL(R:gJ K pn (upd Hf p (.frz od (.dK kvs))) Hb H σ ρ)(h:Hf p=some (.dK kvs))(hb:Hb p=none):gJ K pn Hf Hb (upd H p (.dK kvs)) σ ρ:=by
 obtain⟨F,r⟩:=R
 have np:∀i q,q∈F i→q≠p:=fun i q hq z=>by
  have:=(r.fr i q hq).1
  rw [z,upd_same] at this
  cases this
 have ob:∀q d,Yx K Hb (upd Hf p (.frz od (.dK kvs))) q d→Yx K Hb Hf q d:=fun q d ⟨o,x1,x2⟩=>⟨o,ab2 h x2.nofrz x1,x2⟩
 refine⟨F,fun a o e=> ?_,fun a o e=> ?_,r.len,fun i s hs=> ?_,r.nd,fun i q hq=> ?_,r.dj,r.pin⟩
 ·by_cases z:a=p
  ·subst z
   rw [h] at e
   cases e
   exact upd_same
  ·rw [upd_ne z]
   exact r.ef a o (by rw [upd_ne z];exact e)
 ·rw [upd_ne (ne_of_none e hb)]
  exact r.eb a o e
 ·have z:=r.sl i s hs
  cases s with
  |bor d=>
   obtain⟨z0,v,z1,z2⟩:=z
   refine⟨z0,v,z1,?_⟩
   rcases z2 with z2|⟨q,z3,z4⟩
   ·exact .inl z2
   ·exact .inr ⟨q,z3,ob q d z4⟩
  |vP k cs=>
   obtain⟨z0,q,vs,hp,z1,z2,z3⟩:=z
   exact⟨z0,q,vs,hp,z1,afd z2,adZ (f:=id) ob z3⟩
  |un=>exact z
  |dat d=>exact z
  |own d=>exact SlO.frame (Hf:=Hf) (s:= .own d) z (Ex.refl _) fun q hq o ho=>by rw [upd_ne (np i q hq)];exact ho
  |nst k cs=>exact SlO.frame (Hf:=Hf) (s:= .nst k cs) z (Ex.refl _) fun q hq o ho=>by rw [upd_ne (np i q hq)];exact ho
  |Vw k cs=>exact SlO.frame (Hf:=Hf) (s:= .Vw k cs) z (Ex.refl _) fun q hq o ho=>by rw [upd_ne (np i q hq)];exact ho
 ·obtain⟨f1,f2,f3⟩:=r.fr i q hq
  rw [upd_ne (np i q hq)] at f1
  rw [upd_ne (np i q hq)]
  exact⟨f1,f2,f3⟩
end
inductive Vq where
 |v (i:Nat)|p (nk:NK) (i j:Nat)
def Vq.get(ρ:Env):Vq→Option (List (D×D))
 | .v i=>(match ρ[i]? with
   |some (.bor (.dict ds))=>if Bf ds=true then some ds else none
   |_=>none)
 | .p nk i j=>(match ρ[i]? with
   |some (.vP k cs)=>if k=nk then(match cs[j]? with
    |some (.bor (.dict ds))=>if Bf ds=true then some ds else none
    |_=>none) else none
   |_=>none)
def Vq.te(K:aq):Vq→TE
 | .v i=>tVar i
 | .p nk i j=>tCmp K nk i j
def adg:Out→Out
 | .ex _ _=> .bad
 |r=>r
def Wn(b:Vq)(g:GM)(body:SM):SM:=fun ρ=>match b.get ρ with
 |some (q::ds)=>adg (wF g body ((q::ds).map (·.1)) ρ)
 |some []=> .nx ρ
 |none=> .bad
theorem Vq.ak4{ρ:Env}{b:Vq}{ds:List (D×D)}(h:b.get ρ=some ds):Bf ds=true:=by
 cases b with
 |v i=>
  simp only [Vq.get] at h
  repeat' split at h
  all_goals first|(cases h;assumption)|cases h
 |p nk i j=>
  simp only [Vq.get] at h
  repeat' split at h
  all_goals first|(cases h;assumption)|cases h
theorem aml{K:aq}{pn:Pn}{Hf Hb H:Hp}{σ:L2.St}{ρ:Env}{b:Vq}{q:D×D}{ds:List (D×D)}(R:gJ K pn Hf Hb H σ ρ)(h:b.get ρ=some (q::ds)):
 ∃p kvs,(∀(H' :Hp) (Q:VK),(∀a o,H a=some o→a≠p→H' a=some o)→Q (V.ref p) H' →b.te K σ H' Q)∧PK K Hb kvs (q::ds)∧(Hf p=some (.dK kvs)∨∃o,Hf p=some (.frz o (.dK kvs))∨Hb p=some (.frz o (.dK kvs))):=by
 have hu:=Vq.ak4 h
 have ob:∀p,Yx K Hb Hf p (.dict (q::ds))→∃kvs,PK K Hb kvs (q::ds)∧(Hf p=some (.dK kvs)∨∃o,Hf p=some (.frz o (.dK kvs))∨Hb p=some (.frz o (.dK kvs))):=fun p ⟨o,x1,x2⟩=>by
  cases x2 with
  |dT a=>cases hu
  |dK a=>
   rcases x1 with x1|⟨⟨od,x1⟩,_⟩
   ·exact⟨_,a, .inl x1⟩
   ·exact⟨_,a, .inr ⟨od, .inl x1⟩⟩
 obtain⟨F,r⟩:=R
 cases b with
 |v i=>
  simp only [Vq.get] at h
  split at h
  ·rename_i ds' hs
   split at h
   ·cases h
    obtain⟨_,v,z1,z2⟩:=r.sl i _ hs
    rcases z2 with z2|⟨p,rfl,z3⟩
    ·cases z2 with
     | @DY a o kvs _ x1 x2=>exact⟨_,_,fun H' Q _ hq=>⟨_,z1,hq⟩,Qg x2, .inr ⟨_, .inr x1⟩⟩
     |JF x1 x2=>cases hu
    ·obtain⟨kvs,k1,k2⟩:=ob p z3
     exact⟨p,kvs,fun H' Q _ hq=>⟨_,z1,hq⟩,k1,k2⟩
   ·cases h
  ·cases h
 |p nk i j=>
  simp only [Vq.get] at h
  split at h
  ·rename_i k cs hs
   split at h
   ·rename_i hk
    subst hk
    split at h
    ·rename_i ds' hj
     split at h
     ·cases h
      obtain⟨_,a,vs,hp,z1,z2,z3⟩:=r.sl i _ hs
      obtain⟨p,w1,w2⟩:=z3.alf (.inr hj)
      obtain⟨kvs,k1,k2⟩:=ob p w2
      refine⟨p,kvs,fun H' Q hh hq=>⟨a,vs,hp,_,z1,?_,w1,hq⟩,k1,k2⟩
      have hn:∀c∈hp,c≠p:=fun c hc z=>by
       subst z
       have key:∀u,Hf c=some u→(∃kvs,u= .dK kvs)∨(∃o kvs,u= .frz o (.dK kvs))→False:=fun u hu2 hz=>by
        cases k with
        |lst=>
         obtain⟨y1,rfl⟩:=z2
         rw [aR.mp hc,y1] at hu2
         cases hu2
         rcases hz with⟨_,e⟩|⟨_,_,e⟩<;>cases e
        |ins c' fs=>
         obtain⟨dx,y1,y2,_,rfl⟩:=z2
         rcases aH.mp hc with e|e
         ·rw [e,y1] at hu2
          cases hu2
          rcases hz with⟨_,e⟩|⟨_,_,e⟩<;>cases e
         ·rw [aR.mp e,y2] at hu2
          cases hu2
          rcases hz with⟨_,e⟩|⟨_,_,e⟩<;>cases e
       rcases k2 with k2|⟨o,k2|k2⟩
       ·exact key _ k2 (.inl ⟨_,rfl⟩)
       ·exact key _ k2 (.inr ⟨_,_,rfl⟩)
       ·have e1:=r.eb _ _ k2
        have:∃u,Hf c=some u:=by
         cases k with
         |lst=>
          obtain⟨y1,rfl⟩:=z2
          rw [aR.mp hc]
          exact⟨_,y1⟩
         |ins c' fs=>
          obtain⟨dx,y1,y2,_,rfl⟩:=z2
          rcases aH.mp hc with e|e
          ·rw [e]
           exact⟨_,y1⟩
          ·rw [aR.mp e]
           exact⟨_,y2⟩
        obtain⟨u,hu2⟩:=this
        have e2:=r.ef _ _ hu2
        rw [e1] at e2
        cases e2
        exact key _ hu2 (.inr ⟨_,_,rfl⟩)
      exact z2.frame fun c hc o ho=>hh c o (r.ef c o ho) (hn c hc)
     ·cases h
    ·cases h
   ·cases h
  ·cases h
mutual
theorem zu{K:aq}{Hb:Hp}{p:Addr}{q:Key×V}{kvs:List (Key×V)}(hp:Hb p=some (.dK (q::kvs))):∀{d:D} {v:V},Dr K Hb v d→Dr K (off Hb [p]) v d
 |_,_, .non=> .non
 |_,_, .bl b=> .bl b
 |_,_, .int i=> .int i
 |_,_, .str x=> .str x
 |_,_, .lst (a:=a) s r=>by
  refine .lst ?_ (Ab hp r)
  rcases s with(s|⟨o,s⟩)|s
  ·exact .inl (.inl (by rw [qL (fun z=>by rw [aR.mp z,hp] at s;cases s)];exact s))
  ·exact .inl (.inr ⟨o,by rw [qL (fun z=>by rw [aR.mp z,hp] at s;cases s)];exact s⟩)
  ·exact .inr s
 |_,_, .tup s r=> .tup (by rw [qL (fun z=>by rw [aR.mp z,hp] at s;cases s)];exact s) (Ab hp r)
 |_,_, .dict0 s=>by
  refine .dict0 ?_
  rcases s with s|⟨o,s⟩
  ·exact .inl (by rw [qL (fun z=>by rw [aR.mp z,hp] at s;cases s)];exact s)
  ·exact .inr ⟨o,by rw [qL (fun z=>by rw [aR.mp z,hp] at s;cases s)];exact s⟩
 |_,_, .DY s r=> .DY (by rw [qL (fun z=>by rw [aR.mp z,hp] at s;cases s)];exact s) (aah hp r)
 |_,_, .JF s r=> .JF (by rw [qL (fun z=>by rw [aR.mp z,hp] at s;cases s)];exact s) (abh hp r)
theorem Ab{K:aq}{Hb:Hp}{p:Addr}{q:Key×V}{kvs:List (Key×V)}(hp:Hb p=some (.dK (q::kvs))):∀{ds:List D} {vs:List V},ju K Hb vs ds→ju K (off Hb [p]) vs ds
 |_,_, .nil=> .nil
 |_,_, .cons a b=> .cons (zu hp a) (Ab hp b)
theorem aah{K:aq}{Hb:Hp}{p:Addr}{q:Key×V}{kvs:List (Key×V)}(hp:Hb p=some (.dK (q::kvs))):∀{ds:List (D×D)} {ks:List (Key×V)},Vo K Hb ks ds→Vo K (off Hb [p]) ks ds
 |_,_, .nil=> .nil
 |_,_, .cons a b=> .cons (zu hp a) (aah hp b)
theorem abh{K:aq}{Hb:Hp}{p:Addr}{q:Key×V}{kvs:List (Key×V)}(hp:Hb p=some (.dK (q::kvs))):∀{ds:List (D×D)} {ks:List (List Key×V)},Y0 K Hb ks ds→Y0 K (off Hb [p]) ks ds
 |_,_, .nil=> .nil
 |_,_, .cons a b=> .cons (zu hp a) (abh hp b)
end
theorem agG{K:aq}{Hb H:Hp}{p:Addr}{q:Key×V}{kvs:List (Key×V)}(hp:Hb p=some (.dK (q::kvs))):∀{qs:List Addr} {ls:List (List D)},Ml K Hb H qs ls→Ml K (off Hb [p]) H qs ls
 |_,_, .nil=> .nil
 |_,_, .cons a b c=> .cons a (Ab hp b) (agG hp c)
section
variable{K:aq}{pn:Pn}{Hf Hb H:Hp}{σ:L2.St}{ρ:Env}{p:Addr}{q:Key×V}{kvs:List (Key×V)}
theorem Ob.off(hp:Hb p=some (.dK (q::kvs))){o:HO}{d:D}(h:Ob K Hb o d):Ob K (off Hb [p]) o d:=by
 cases h with
 |lst a=>exact .lst (Ab hp a)
 |dK a=>exact .dK (Paired.imp (fun _ _ z=>⟨z.1,zu hp z.2⟩) a)
 |dT a=>exact .dT (Paired.imp (fun _ _ z=>⟨z.1,zu hp z.2⟩) a)
theorem gJ.amB(R:gJ K pn Hf Hb H σ ρ)(hp:Hb p=some (.dK (q::kvs))):gJ K pn Hf (off Hb [p]) H σ ρ:=by
 obtain⟨F,r⟩:=R
 have cs_off:∀{vs:List V} {cs:List Sl} {fq:List Addr},yh K Hb H vs cs fq→yh K (off Hb [p]) H vs cs fq:=fun h=>by
  induction h with
  |nil=>exact .nil
  |dat a _ ih=>exact .dat (zu hp a) ih
  |own a _ ih=>exact .own (let ⟨o,x,y⟩:=a;⟨o,x,y.off hp⟩) ih
  |un _ ih=>exact .un ih
 have cb_off:∀{vs:List V} {cs:List Sl},Wo K Hb Hf vs cs→Wo K (off Hb [p]) Hf vs cs:=fun h=>by
  induction h with
  |nil=>exact .nil
  |dat a _ ih=>exact .dat (zu hp a) ih
  |bor a _ ih=>exact .bor (let ⟨o,x,y⟩:=a;⟨o,x,y.off hp⟩) ih
  |un _ ih=>exact .un ih
 refine⟨F,r.ef,fun a o e=>r.eb a o (aaR e).2,r.len,fun i s hs=> ?_,r.nd,fun i a ha=>⟨(r.fr i a ha).1,?_,(r.fr i a ha).2.2⟩,r.dj,r.pin⟩
 ·have z:=r.sl i s hs
  cases s with
  |un=>exact z
  |dat d=>
   obtain⟨z0,v,z1,z2⟩:=z
   exact⟨z0,v,z1,zu hp z2⟩
  |bor d=>
   obtain⟨z0,v,z1,z2⟩:=z
   refine⟨z0,v,z1,?_⟩
   rcases z2 with z2|⟨a,z3,o,z4,z5⟩
   ·exact .inl (zu hp z2)
   ·exact .inr ⟨a,z3,o,z4,z5.off hp⟩
  |own d=>
   obtain⟨a,z0,z1,o,z2,z3⟩:=z
   exact⟨a,z0,z1,o,z2,z3.off hp⟩
  |nst k cs=>
   obtain⟨v,z1,a,vs,hpp,fq,z2,z3,z4,z5⟩:=z
   exact⟨v,z1,a,vs,hpp,fq,z2,z3,cs_off z4,z5⟩
  |vP k cs=>
   obtain⟨z0,a,vs,hpp,z1,z2,z3⟩:=z
   exact⟨z0,a,vs,hpp,z1,z2,cb_off z3⟩
  |Vw k cs=>
   obtain⟨a,qs,z0,z1,z2,z3,z4⟩:=z
   exact⟨a,qs,z0,z1,z2,z3,agG hp z4⟩
 ·unfold off
  split
  ·rfl
  ·exact(r.fr i a ha).2.1
theorem gJ.amC(R:gJ K pn Hf Hb H σ ρ){o:HO}(hf:Hf p=some o)(hb:Hb p=none):gJ K pn Hf (upd Hb p o) H σ ρ:=by
 obtain⟨F,r⟩:=R
 have e1:Ex Hb (upd Hb p o):=Ex.new hb
 refine⟨F,r.ef,fun a u e=> ?_,r.len,fun i s hs=>(r.sl i s hs).frame e1 fun _ _ _ z=>z,r.nd,fun i a ha=>⟨(r.fr i a ha).1,?_,(r.fr i a ha).2.2⟩,r.dj,r.pin⟩
 ·by_cases z:a=p
  ·subst z
   rw [upd_same] at e
   cases e
   exact r.ef _ _ hf
  ·rw [upd_ne z] at e
   exact r.eb a u e
 ·rw [upd_ne (fun z=> ?_)]
  ·exact(r.fr i a ha).2.1
  ·have:=(r.fr i a ha).1
   rw [z,hf] at this
   cases this
end
theorem al3{X:Cx}{st:Stmt}{t t' :TS}(h:PS X st t)(h' :PS X st t'):PS X st (fun D σ H=>t D σ H∨t' D σ H):=⟨fun pins s σ H D I q=>by
 rcases q with q|q
 ·exact h.run pins s σ H D I q
 ·exact h'.run pins s σ H D I q⟩
section
variable{X:Cx}{W:WQ}{rk:Kd}{pos:Pos}{g:GM}{mb:SM}{body:List Stmt}{tg e it:Expr}
theorem afc{K:aq}{Hf Hb H:Hp}{p:Addr}{u:HO}{od:Obj}{v:V}{d:D}(hk:rk= .dat∨rk= .new)(hH:H p=some (.frz od u))(r:Rs K rk (upd Hf p (.frz od u)) Hb H v d)(hf:Hf p=some u):Rs K rk Hf Hb (upd H p u) v d:=by
 rcases hk with rfl|rfl
 ·exact r
 ·obtain⟨q,e,h1,h2,o,h3,h4⟩:=r
  have z:q≠p:=fun z=>by
   rw [z,upd_same] at h1
   cases h1
  rw [upd_ne z] at h1
  exact⟨q,e,h1,h2,o,by rw [upd_ne z];exact h3,h4⟩
theorem ag1{b:Vq}{f:D×D→D}{ti:TI}{Jf:Addr→Obj→List (Key×V)→It}(hk:rk= .dat∨rk= .new)(hti:∀σ H (R:It→Hp→Prop) p o kvs,(∀Q,Q (V.ref p) H→b.te X.K σ H Q)→H p=some (.frz o (.dK kvs))→R (Jf p o kvs) H→ti σ H R)
 (hY:∀(Hf Hb1:Hp) p o kvs ds,(Hf p=some (.frz o (.dK kvs))∨Hb1 p=some (.frz o (.dK kvs)))→PK X.K Hb1 kvs ds→YlF X.K Hf Hb1 (Jf p o kvs) (ds.map f)) {E:Ends} {σ:L2.St} {H:Hp} {q:D×D} {ds:List (D×D)} {Hf Hb:Hp} {ρ:Env} (R:gJ X.K W.pin Hf Hb H σ ρ) (hb:b.get ρ=some (q::ds)) (h:lO X.K W rk Hf Hb H E (adg (wF g mb ((q::ds).map f) ρ))):
 tLock (tFor ti (gOf X.K W.pin g) (sOf X.K W rk mb)) E σ H∨tFor ti (gOf X.K W.pin g) (sOf X.K W rk mb) E σ H:=by
 have hnx:∀c ρ',wF g mb ((q::ds).map f) ρ≠ .ex c ρ' :=fun c ρ' z=>by
  rw [z] at h
  exact h
 have hsh:adg (wF g mb ((q::ds).map f) ρ)=wF g mb ((q::ds).map f) ρ:=by
  cases q2:wF g mb ((q::ds).map f) ρ with
  |ex c ρ' =>exact absurd q2 (hnx _ _)
  |_=>rfl
 rw [hsh] at h
 obtain⟨p,kvs,t1,pk,hp⟩:=aml R hb
 rcases hp with hp|⟨o,hp⟩
 ·--it is locked
  left
  have hH:H p=some (.dK kvs):=R.ef _ _ hp
  refine⟨p, .dK kvs,hH,True.intro,fun od=> ?_⟩
  have main:∀(Hb0:Hp),Hb0 p=none→gJ X.K W.pin Hf Hb0 H σ ρ→PK X.K Hb0 kvs (q::ds)→(∀Hb' H',Bw (upd Hf p (.frz od (.dK kvs))) Hb0 Hb' H' →Hb' p=none→Ex (upd Hf p (.frz od (.dK kvs))) H' →∃Hb2,Ex Hb' Hb2∧(∀a,a≠p→Hb2 a=Hb' a)∧Bw Hf Hb Hb2 (upd H' p (.dK kvs))∧∀σ' ρ',gJ X.K W.pin Hf Hb' (upd H' p (.dK kvs)) σ' ρ' →gJ X.K W.pin Hf Hb2 (upd H' p (.dK kvs)) σ' ρ')→
   tFor ti (gOf X.K W.pin g) (sOf X.K W rk mb) ⟨fun σ' H' =>H' p=some (.frz od (.dK kvs))∧E.nx σ' (upd H' p (.dK kvs)),fun v H' =>H' p=some (.frz od (.dK kvs))∧E.rt v (upd H' p (.dK kvs)),fun σ' H' =>H' p=some (.frz od (.dK kvs))∧E.bk σ' (upd H' p (.dK kvs)),fun σ' H' =>H' p=some (.frz od (.dK kvs))∧E.ct σ' (upd H' p (.dK kvs))⟩ σ (upd H p (.frz od (.dK kvs))):=by
   intro Hb0 hb0 R0 pk0 back
   have R1:=R0.alW (od:=od) hp hb0
   refine hti σ _ _ p od kvs (fun Q hQ=>t1 _ Q (fun a o ho z=>by rw [upd_ne z];exact ho) hQ) upd_same ?_
   refine abn R1 (hY _ _ p od kvs _ (.inl upd_same) pk0) ?_
   have hbn:∀Hb' H',Bw (upd Hf p (.frz od (.dK kvs))) Hb0 Hb' H' →Hb' p=none:=fun Hb' H' b=>b.nw p hb0 (by rw [upd_same];exact True.intro)
   cases qf:wF g mb ((q::ds).map f) ρ with
   |nx ρ' =>
    rw [qf] at h
    intro σ' Hb' H' R' b'
    obtain⟨Hb2,x1,x0,x2,x3⟩:=back Hb' H' b' (hbn _ _ b') R'.ef
    exact⟨R'.ef _ _ upd_same,h σ' Hb2 _ (x3 σ' ρ' (R'.PL hp (hbn _ _ b'))) x2⟩
   |bk ρ' =>
    rw [qf] at h
    intro σ' Hb' H' R' b'
    obtain⟨Hb2,x1,x0,x2,x3⟩:=back Hb' H' b' (hbn _ _ b') R'.ef
    exact⟨R'.ef _ _ upd_same,h σ' Hb2 _ (x3 σ' ρ' (R'.PL hp (hbn _ _ b'))) x2⟩
   |ct ρ' =>
    rw [qf] at h
    intro σ' Hb' H' R' b'
    obtain⟨Hb2,x1,x0,x2,x3⟩:=back Hb' H' b' (hbn _ _ b') R'.ef
    exact⟨R'.ef _ _ upd_same,h σ' Hb2 _ (x3 σ' ρ' (R'.PL hp (hbn _ _ b'))) x2⟩
   |rx d ρ' =>
    rw [qf] at h
    intro v σ' Hb' H' R' b' r'
    obtain⟨Hb2,x1,x0,x2,x3⟩:=back Hb' H' b' (hbn _ _ b') R'.ef
    exact⟨R'.ef _ _ upd_same,h v σ' Hb2 _ (x3 σ' ρ' (R'.PL hp (hbn _ _ b'))) x2 (mY x1 r')⟩
   |rt d=>
    rw [qf] at h
    intro v Hb' H' e' b' r'
    obtain⟨Hb2,x1,x0,x2,x3⟩:=back Hb' H' b' (hbn _ _ b') e'
    refine⟨e' _ _ upd_same,h v Hb2 _ (fun a o ho=> ?_) x2 ?_⟩
    ·by_cases z:a=p
     ·subst z
      rw [hp] at ho
      cases ho
      exact upd_same
     ·rw [upd_ne z]
      exact e' a o (by rw [upd_ne z];exact ho)
    ·have r2:=afc hk (e' _ _ upd_same) r' hp
     rcases hk with rfl|rfl
     ·exact mY x1 r2
     ·obtain⟨a,e1,k1,k2,k3⟩:=r2
      have ap:a≠p:=fun z=>by
       rw [z,hp] at k1
       cases k1
      exact⟨a,e1,k1,by rw [x0 a ap];exact k2,k3.ex x1 (Ex.refl _)⟩
   |ex c ρ' =>exact absurd qf (hnx _ _)
   |bad=>
    rw [qf] at h
    exact h
  cases qb:Hb p with
  |none=>
   refine main Hb qb R pk fun Hb' H' b' hn e' =>⟨Hb',Ex.refl _,fun _ _=>rfl,⟨b'.b,fun a o ho=> ?_,fun a z1 z2=>b'.nw a z1 ?_⟩,fun σ' ρ' r=>r⟩
   ·rw [upd_ne (ne_of_none ho hn)]
    exact b'.bh a o ho
   ·by_cases z:a=p
    ·rw [z,upd_same]
     exact True.intro
    ·rw [upd_ne z]
     exact z2
  |some o=>
   have eo:=R.eb _ _ qb
   rw [hH] at eo
   cases eo
   cases pk with
   | @cons q0 _ kvs' _ pa pb=>
     have qb' :=qb
     have pk:PK X.K Hb (q0::kvs') (q::ds):= .cons pa pb
     refine main (off Hb [p]) (by simp [off]) (R.amB qb') (Paired.imp (fun _ _ z=>⟨z.1,zu qb' z.2⟩) pk) fun Hb' H' b' hn e' =>⟨upd Hb' p (.dK (q0::kvs')),Ex.new hn,fun a z=>upd_ne z,⟨fun a o ho=> ?_,fun a o ho=> ?_,fun a z1 z2=> ?_⟩,fun σ' ρ' r=>r.amC hp hn⟩
     ·by_cases z:a=p
      ·subst z
       rw [qb'] at ho
       cases ho
       exact upd_same
      ·rw [upd_ne z]
       exact b'.b a o (by rw [qL (fun w=>z (aR.mp w))];exact ho)
     ·by_cases z:a=p
      ·subst z
       rw [upd_same] at ho⊢
       exact ho
      ·rw [upd_ne z] at ho⊢
       exact b'.bh a o ho
     ·have z:a≠p:=fun z=>by
       rw [z,qb'] at z1
       cases z1
      rw [upd_ne z]
      exact b'.nw a (by rw [qL (fun w=>z (aR.mp w))];exact z1) (by rw [upd_ne z];exact z2)
 ·right
  have hH:H p=some (.frz o (.dK kvs)):=by
   rcases hp with hp|hp
   ·exact R.ef _ _ hp
   ·exact R.eb _ _ hp
  refine hti σ H _ p o kvs (fun Q hQ=>t1 H Q (fun a o ho _=>ho) hQ) hH ?_
  exact abn R (hY _ _ p o kvs _ hp pk) h
theorem akI{K:aq}{pn:Pn}{Hf Hb H:Hp}{σ:L2.St}{ρ:Env}{b:Vq}(R:gJ K pn Hf Hb H σ ρ)(h:b.get ρ=some []):
 ∃p,(∀(H' :Hp) (Q:VK),(∀a o,H a=some o→a≠p→H' a=some o)→Q (V.ref p) H' →b.te K σ H' Q)∧Rd H p (.dK []):=by
 have ob:∀p,Yx K Hb Hf p (.dict [])→Rd Hf p (.dK []):=fun p ⟨o,x1,x2⟩=>by
  cases x2 with
  |dK a=>
   cases a
   exact x1.rd
 obtain⟨F,r⟩:=R
 cases b with
 |v i=>
  simp only [Vq.get] at h
  split at h
  ·rename_i ds' hs
   split at h
   ·cases h
    obtain⟨_,v,z1,z2⟩:=r.sl i _ hs
    rcases z2 with z2|⟨p,rfl,z3⟩
    ·cases z2 with
     |dict0 x=>exact⟨_,fun H' Q _ hq=>⟨_,z1,hq⟩,ex_rd r.eb x⟩
     |DY x1 x2=>
      cases x2
      exact⟨_,fun H' Q _ hq=>⟨_,z1,hq⟩, .inr ⟨_,r.eb _ _ x1⟩⟩
    ·exact⟨p,fun H' Q _ hq=>⟨_,z1,hq⟩,ex_rd r.ef (ob p z3)⟩
   ·cases h
  ·cases h
 |p nk i j=>
  simp only [Vq.get] at h
  split at h
  ·rename_i k cs hs
   split at h
   ·rename_i hk
    subst hk
    split at h
    ·rename_i ds' hj
     split at h
     ·cases h
      obtain⟨_,a,vs,hp,z1,z2,z3⟩:=r.sl i _ hs
      obtain⟨p,w1,w2⟩:=z3.alf (.inr hj)
      have hr:=ob p w2
      refine⟨p,fun H' Q hh hq=>⟨a,vs,hp,_,z1,?_,w1,hq⟩,ex_rd r.ef hr⟩
      have hn:∀c∈hp,c≠p:=fun c hc z=>by
       subst z
       cases k with
       |lst=>
        obtain⟨y1,rfl⟩:=z2
        rw [aR.mp hc] at hr
        rcases hr with hr|⟨o,hr⟩<;>(rw [y1] at hr;cases hr)
       |ins c' fs=>
        obtain⟨dx,y1,y2,_,rfl⟩:=z2
        rcases aH.mp hc with e|e
        ·rw [e] at hr
         rcases hr with hr|⟨o,hr⟩<;>(rw [y1] at hr;cases hr)
        ·rw [aR.mp e] at hr
         rcases hr with hr|⟨o,hr⟩<;>(rw [y2] at hr;cases hr)
      exact z2.frame fun c hc o ho=>hh c o (r.ef c o ho) (hn c hc)
     ·cases h
    ·cases h
   ·cases h
  ·cases h
theorem aeV{b:Vq}{ti:TI}{Jf:Addr→Obj→List (Key×V)→It}(hti:∀σ H (R:It→Hp→Prop) p o kvs,(∀Q,Q (V.ref p) H→b.te X.K σ H Q)→H p=some (.frz o (.dK kvs))→R (Jf p o kvs) H→ti σ H R)
 (hst:∀p o (H:Hp),H p=some (.frz o (.dK []))→(Jf p o []).stop 0 H) {E:Ends} {σ:L2.St} {H:Hp} {Hf Hb:Hp} {ρ:Env} (R:gJ X.K W.pin Hf Hb H σ ρ) (hb:b.get ρ=some []) (h:E.nx σ H) {gt:TG} {bt:TS}:
 tLock (tFor ti gt bt) E σ H∨tFor ti gt bt E σ H:=by
 obtain⟨p,t1,hp⟩:=akI R hb
 rcases hp with hp|⟨o,hp⟩
 ·left
  refine⟨p, .dK [],hp,True.intro,fun od=>hti σ _ _ p od [] (fun Q hQ=>t1 _ Q (fun a o ho z=>by rw [upd_ne z];exact ho) hQ) upd_same ?_⟩
  have e:upd (upd H p (.frz od (.dK []))) p (.dK [])=H:=by
   funext a
   by_cases z:a=p
   ·rw [z,upd_same,hp]
   ·rw [upd_ne z,upd_ne z]
  refine⟨fun i m σ' H' =>i=0∧σ' =σ∧H' =upd H p (.frz od (.dK [])),⟨0,rfl,rfl,rfl⟩,?_⟩
  rintro i m σ' H' ⟨rfl,rfl,rfl⟩
  exact .inl ⟨hst p od _ upd_same,upd_same,by rw [e];exact h⟩
 ·right
  refine hti σ _ _ p o [] (fun Q hQ=>t1 _ Q (fun a o ho z=>ho) hQ) hp ?_
  refine⟨fun i m σ' H' =>i=0∧σ' =σ∧H' =H,⟨0,rfl,rfl,rfl⟩,?_⟩
  rintro i m σ' H' ⟨rfl,rfl,rfl⟩
  exact .inl ⟨hst p o _ hp,h⟩
theorem aio(b:Vq)(hp:PassesOwn (model X.prog X.w) X.A X.env X.xe)(hb:PE X e (b.te X.K))(hg:DG X W tg g)(hbd:Wg X W rk body mb)(hk:rk= .dat∨rk= .new:=by first|exact .inl rfl|exact .inr rfl)(hc:X.calm=true:=by rfl)(hs:∀x,foldedSetIterable e X.env x=pure x:=by intro _;rfl):DS X W rk (.For tg e body [] pos) (Wn b g mb):=by
 have h1:=ps_for (pos:=pos) hp hc (pi_keys (tg:=tg) hb) hg hbd hs
 refine PS.imp (al3 (ps_lock h1) h1) fun E σ H ⟨Hf,Hb,ρ,R,h⟩=> ?_
 have hti:∀σ H (R:It→Hp→Prop) p o kvs,(∀Q,Q (V.ref p) H→b.te X.K σ H Q)→H p=some (.frz o (.dK kvs))→R (Itk p o kvs) H→iKeys (b.te X.K) σ H R:=fun σ H R p o kvs t hp hR=>t _ ⟨p,o,rfl, .inl ⟨kvs,hp,hR⟩⟩
 unfold Wn at h
 cases q:b.get ρ with
 |none=>
  rw [q] at h
  exact h.elim
 |some ds=>
  rw [q] at h
  cases ds with
  |nil=>exact aeV hti (fun p o H hH=>⟨hH,bJ _⟩) R q (h σ Hb H R (Bw.refl R.eb))
  |cons a ds=>exact ag1 (f:=(·.1)) hk hti (fun _ _ _ _ _ _ hp pk=>afJ hp pk) R q h
end
end DL
set_option maxHeartbeats 2000000
namespace DL
open PySem PySem.Spec L2 Evl PyProof.Rows
def aiQ(td:TE):TE:=fun σ H Q=>td σ H fun x H1=>∃(a:Addr) (kvs:List (Key×V)) (ks:List Str),x= .ref a∧Rd H1 a (.dK kvs)∧kvs.map (·.1)=ks.map Sum.inr∧ks.length<64∧
 ∀(ys:List Str) (p:Addr),ys.Perm ks→sortedS ys=true→H1 p=none→Q (.ref p) (upd H1 p (.lst (ys.map V.str)))
theorem YH{X:Cx}{e:Expr}{td:TE}{p pos apos cpos:Pos}(hc:X.calm=true)(hg:Gl X "sorted")(hm:X.mg "sorted"=none)(he:PE X e td)(hbase:attributeBase e "keys" X.env (eval e X.env)=eval e X.env:=by rfl)
 (hline:(apos.endLine==cpos.line)=true:=by rfl) (na:starEach [.Call (.Attribute e "keys" apos) [] [] cpos] X.env=(false,eval (.Call (.Attribute e "keys" apos) [] [] cpos) X.env)::starEach [] X.env:=by rfl)
 (hpl:(backTo pos (starEach [] X.env)).any (·.1)=false:=by rfl):
 PE X (.Call (.Name "sorted" p) [.Call (.Attribute e "keys" apos) [] [] cpos] [] pos) (aiQ td):=by
 refine⟨fun pins s σ H Q I h=> ?_⟩
 refine Call_ (ld_blt I hg hm (show bootBuiltins "sorted"=some (.builtin "sorted") by decide+kernel) (PyProof.Rows.callWith_builtin1 (args_cons ?_ na) na hpl))
 refine wpAny_Call_method (T:="dict") (id:="dict.keys") hbase rfl hline F.plainAttrs_dict F.slot_dict_keys F.type_dict_keys (thn (he.run pins s σ H _ I h) fun u s1 ⟨x,H1,I1,rx,d,kvs,ks,ex,hd,hks,h64,q⟩=> ?_)
 subst ex
 obtain rfl:u=Value.ref d:=rx
 obtain⟨z,lo,vs,rel,dd⟩:=dk_rd I1.hok hd
 refine⟨dd.typeIs,dd.mapOf.noDict,?_⟩
 show wpAny _ _ (callWith cpos (.builtin "dict.keys") [.ref d] [] []) _ X.xe s1
 refine method_meetsIn F.slot_dict_keys F.entry_dict_keys rfl (PySem.evalArgs_none ⟨rfl,dd.typeIs,F.args_dict_keys_1 _,_,PySem.W.kdl_meets_keys (mixKind X.prog X.w) d lo,⟨vs,dd⟩,args_nil ?_⟩)
 have I2:Inv X pins σ H1 {s1 with heap:=s1.heap.push {cls:= .type "dict_keys",data:= .fields #[.ref d]}}:=I1.kept (t' :=s1.toks) fun b ob q=>Heap.get?_push_of_some _ q
 have hv:PySem.W.KdlKeysView (s1.heap.push {cls:= .type "dict_keys",data:= .fields #[.ref d]}) s1.heap.objs.size d:=⟨_,Heap.get?_push_size _ rfl,rfl,rfl⟩
 obtain⟨z2,lo2,vs2,rel2,dd2⟩:=dk_rd I2.hok hd
 obtain⟨ep,hat⟩:=dd2.dictAt
 have hkeys:vs2.map (·.1)=ks.map Sum.inr:=rel2.keys.symm.trans hks
 have hl:vs2.length=ks.length:=by
  have e:=congrArg List.length hkeys
  rw [aC,aC] at e
  exact e
 have hl2:kvs.length=vs2.length:=rel2.length
 have h16:vs2.length≤sizeLine:=by rw [←hl2];exact z2
 refine Calls.call_function_entry PyProof.Rows.kind_sorted PyProof.Rows.plain_sorted PyProof.Rows.entry_sorted (PyProof.Rows.args_sorted1 _) ?_
 unfold Builtin.«sorted»
 refine wpAny_bind (m:=checkCount "sorted" 1 1 _) (wpAny_pure ?_)
 refine wpAny_bind (PySem.W.kdu_collect (A:=X.A.in1) (PySem.W.kdl_keys (knd:=mixKind X.prog X.w) (kvs:=vs2) (ep:=ep) (r:=s1.heap.objs.size) (d:=d)) (I2.ok.hd hc) ⟨hv,hat⟩ h16 fun h' tk acc hk hacc=> ?_)
 have hal:acc.toList.length=ks.length:=by rw [Array.length_toList,hacc.1,hl]
 have hS:StrsAre acc.toList ks:=strs_at hal fun j v e=>by
  obtain⟨k,x,e1,e2⟩:=hacc.2 j v (by rw [←Array.getElem?_toList];exact e)
  have e3:(vs2.map (·.1))[j]? =some k:=by rw [aK,e1];all_goals rfl
  rw [hkeys,aK] at e3
  cases e4:ks[j]? with
  |none=>rw [e4] at e3;cases e3
  |some y=>
   rw [e4] at e3
   have e5:Sum.inr y=k:=Option.some.inj e3
   subst e5
   obtain⟨t,ev⟩:=Value.isStrOf_shape (x:=y) (v:=v) e2
   exact⟨y,t,rfl,ev⟩
 have I3:Inv X pins σ H1 {s1 with heap:=h',toks:=tk}:=I2.kept (t' :=tk) hk
 refine wpAny_bind (wpAny_newList ?_ (by rw [hal,sizeLine_eq];omega))
 have hoL:(h'.push (seqObj "list" acc.toList.toArray 0)).get? h'.objs.size=some (seqObj "list" acc.toList.toArray 0):=Heap.get?_push_size _ rfl
 show wpAny _ _ _ _ _ {s1 with heap:=h'.push (seqObj "list" acc.toList.toArray 0),toks:=tk}
 refine wpAny_bind (wpAny_holding (wpAny_call_entry PyProof.Rows.slot_list_sort ⟨_,hoL,rfl⟩ PyProof.Rows.entry_list_sort
  (list_sort_treeK strKind_oneLt (s:={s1 with heap:=h'.push (seqObj "list" acc.toList.toArray 0),toks:=tk}) hoL hS.keysOf (fun v₁ v₂ rest e=>keyKind_strs (by rw [←e];exact hS)) (by rw [hal];exact h64) fun st' hp hs=>⟨_,rfl,?_⟩)
  (PyProof.Rows.args_list_sort _)))
 obtain⟨ys,g1,g2,g3⟩:=sorted_out_str hS hp hs
 obtain⟨e',he'⟩:=PyProof.Rows.sortedHeap_at (vs:=acc.toList) (out:=(arrOf st').map (·.2)) hoL
 have hlen:(ys.map V.str).length≤sizeLine:=by
  rw [aC,g2.length_eq]
  exact cQ (Nat.le_of_lt h64) (by decide)
 refine wpAny_pure ⟨_,rfl, .ref h'.objs.size,upd H1 h'.objs.size (.lst (ys.map V.str)),I3.laid (t' :=tk) (fun b u e=> ?_) (bJ _)
  (show ObjOk X.prog X.w _ _ _ (.lst (ys.map V.str)) from⟨hlen,((arrOf st').map (·.2)).toList,e',vals_of_strs g1,by rw [Array.toArray_toList];exact he'⟩),rfl,q ys _ g2 g3 (I3.hok.fresh (bJ _))⟩
 have hb:b<h'.objs.size:=Heap.lt_size e
 rw [PyProof.Rows.sortedHeap_old (Nat.ne_of_lt hb) (by rw [size_push'];exact Nat.lt_succ_of_lt hb)]
 exact Heap.get?_push_of_some _ e
def Ys(a b:Str):Bool:= !ltCps b.cps.toList a.cps.toList
theorem Ai{a b:Str}:Ys a b=true↔a.cps.toList≤b.cps.toList:=by
 unfold Ys
 rw [ltCps_eq,Bool.not_eq_true',decide_eq_false_iff_not]
 exact List.not_lt
theorem W3{a b c:Str}(h1:Ys a b=true)(h2:Ys b c=true):Ys a c=true:=Ai.mpr (List.le_trans (Ai.mp h1) (Ai.mp h2))
theorem WD(a b:Str):Ys a b=true∨Ys b a=true:=by
 rcases List.le_total a.cps.toList b.cps.toList with h|h
 ·exact .inl (Ai.mpr h)
 ·exact .inr (Ai.mpr h)
theorem agy{a b:Str}(h1:Ys a b=true)(h2:Ys b a=true):a=b:=Str.ext' (Array.toList_inj.mp (List.le_antisymm (Ai.mp h1) (Ai.mp h2)))
theorem Oz:∀(l:List Str) (p:Str),risingS p l=true→(p::l).Pairwise fun a b=>Ys a b=true
 |[],p,_=>List.pairwise_singleton _ _
 |x::r,p,h=>by
  have h:(!ltCps x.cps.toList p.cps.toList&&risingS x r)=true:=h
  obtain⟨h1,h2⟩:=Bool.and_eq_true_iff.mp h
  have ih:=Oz r x h2
  refine dB.mpr ⟨fun y hy=> ?_,ih⟩
  rcases aH.mp hy with rfl|hy
  ·exact h1
  ·exact W3 (b:=x) h1 ((dB.mp ih).1 y hy)
theorem Z6{l:List Str}(h:sortedS l=true):l.Pairwise fun a b=>Ys a b=true:=by
 cases l with
 |nil=>exact .nil
 |cons x r=>exact Oz r x h
theorem Zm:∀{l m:List Str},l.Perm m→(l.Pairwise fun a b=>Ys a b=true)→(m.Pairwise fun a b=>Ys a b=true)→l=m
 |[],m,h,_,_=>(List.Perm.nil_eq h)
 |a::l,[],h,_,_=>by have:=h.length_eq;simp at this
 |a::l,b::m,h,h1,h2=>by
  obtain⟨p1,q1⟩:=dB.mp h1
  obtain⟨p2,q2⟩:=dB.mp h2
  have rf:∀x:Str,Ys x x=true:=fun x=>(WD x x).elim id id
  have ab:a=b:=by
   have ha:a∈b::m:=h.mem_iff.mp aX
   have hb:b∈a::l:=h.mem_iff.mpr aX
   have x1:Ys b a=true:=by
    rcases aH.mp ha with e|e
    ·rw [e]
     exact rf b
    ·exact p2 a e
   have x2:Ys a b=true:=by
    rcases aH.mp hb with e|e
    ·rw [e]
     exact rf a
    ·exact p1 b e
   exact agy x2 x1
  subst ab
  rw [Zm (List.Perm.cons_inv h) q1 q2]
def Yp(ks:List Str):List Str:=ks.mergeSort Ys
theorem WM(ks:List Str):(Yp ks).Perm ks:=List.mergeSort_perm ks Ys
theorem aad(ks:List Str):(Yp ks).Pairwise fun a b=>Ys a b=true:=List.pairwise_mergeSort (fun a b c=>W3 (a:=a) (b:=b) (c:=c)) (fun a b=>Bool.or_eq_true_iff.mpr (WD a b)) ks
theorem ai7{ys ks:List Str}(h:ys.Perm ks)(hs:sortedS ys=true):ys=Yp ks:=Zm (h.trans (WM ks).symm) (Z6 hs) (aad ks)
def strKeys:List (D×D)→Option (List Str)
 |[]=>some []
 |(.str x,_)::r=>(strKeys r).map (x::·)
 |_::_=>none
def qu:D→ER
 | .dict ds=>(match strKeys ds with
   |some ks=>if ks.length<64 then .ok (.list ((Yp ks).map aV)) else .bad
   |none=> .bad)
 |_=> .bad
theorem ZP{K:aq}{Hb:Hp}:∀{kvs:List (Key×V)} {ds:List (D×D)} {ks:List Str},PK K Hb kvs ds→strKeys ds=some ks→kvs.map (·.1)=ks.map Sum.inr
 |_,_,_, .nil,h=>by
  cases h
  rfl
 |_,_,_, .cons (a:=(k,v)) (b:=(x,y)) h r,hk=>by
  obtain⟨h1,h2⟩:=h
  have h1:x=keyD k:=h1
  cases x with
  |str z=>
   simp only [strKeys,aP] at hk
   obtain⟨ks,hk1,rfl⟩:=hk
   cases k with
   |inl i=>cases h1
   |inr w=>
    cases h1
    rw [bA,bA,ZP r hk1]
  |_=>cases hk
section
variable{X:Cx}{W:WQ}{e:Expr}{m:EM}{p pos apos cpos:Pos}
theorem Gk(hm:X.mg "sorted"=none)(h:DE X W .bor e m)(hc:X.calm=true:=by rfl)(hg:Gl X "sorted":=by rfl)(hbase:attributeBase e "keys" X.env (eval e X.env)=eval e X.env:=by rfl)
 (hline:(apos.endLine==cpos.line)=true:=by rfl) (na:starEach [.Call (.Attribute e "keys" apos) [] [] cpos] X.env=(false,eval (.Call (.Attribute e "keys" apos) [] [] cpos) X.env)::starEach [] X.env:=by rfl)
 (hpl:(backTo pos (starEach [] X.env)).any (·.1)=false:=by rfl):DE X W .new (.Call (.Name "sorted" p) [.Call (.Attribute e "keys" apos) [] [] cpos] [] pos) (G7 qu m):=
 PE.imp (YH hc hg hm h hbase hline na hpl) fun σ H Q ⟨Hf,Hb,ρ,R,h1,h2,h3⟩=>by
  refine⟨Hf,Hb,ρ,R,fun d hd v Hb1 H1 g1 r1=> ?_,fun c hc Hb1 H1 g1=>h2 c (by simp [G7,hc,ER.bind]) Hb1 H1 g1,fun z=>h3 (by simp [G7,z,ER.bind])⟩
  cases d with
  |dict ds=>
   cases hk:strKeys ds with
   |none=>exact absurd (by simp [G7,hd,ER.bind,qu,hk]) h3
   |some ks=>
    by_cases h64:ks.length<64
    ·have hm:Bf ds=true:=by
      cases ds with
      |nil=>rfl
      |cons q ds=>
       obtain⟨k,v⟩:=q
       cases k<;>first|rfl|simp [strKeys] at hk
     obtain⟨a,kvs,rfl,hd1,pk⟩:=Bo.dict g1.bh r1 hm
     refine⟨a,kvs,ks,rfl,hd1,ZP pk hk,h64,fun ys q py sy hq=> ?_⟩
     have z:=Gw.ab6 (K:=X.K) (xs:=(Yp ks).map V.str) g1.bh hq (Im (Yp ks))
     rw [ai7 py sy]
     exact h1 (.list ((Yp ks).map aV)) (by simp [G7,hd,ER.bind,qu,hk,h64]) _ _ _ (g1.trans z.1) (z.2.back g1.h)
    ·exact absurd (by simp [G7,hd,ER.bind,qu,hk,h64]) h3
  |_=>exact absurd (by simp [G7,hd,ER.bind,qu]) h3
end
end DL
set_option maxHeartbeats 2000000
namespace DL
open PySem PySem.Spec L2 Evl PyProof.Rows
section
variable{X:Cx}{W:WQ}{rk:Kd}{e:Expr}{es:List Expr}{m:EM}{ms:List EM}{pos pos' lpos:Pos}
end
theorem adx{K:aq}{Hb:Hp}{k:Key}:∀{kvs:List (Key×V)} {ds:List (D×D)},PK K Hb kvs ds→PK K Hb (dropK kvs k) (ds.filter fun q=> !decide (keyOf q.1=some k))
 |_,_, .nil=> .nil
 |_,_, .cons (a:=(k',v)) (b:=(x,y)) h r=>by
  obtain⟨h1,h2⟩:=h
  have h1:x=keyD k' :=h1
  have e:keyOf x=some k' :=by rw [h1,xT]
  unfold dropK
  rw [List.filter_cons,List.filter_cons]
  have ih:=adx (k:=k) r
  unfold dropK at ih
  by_cases z:k' =k
  ·subst z
   have e1:(decide ((k',v).1≠k'))=false:=by simp
   have e2:(!decide (keyOf (x,y).1=some k'))=false:=by simp [e]
   rw [e1,e2]
   exact ih
  ·have e1:(decide ((k',v).1≠k))=true:=by simp [z]
   have e2:(!decide (keyOf (x,y).1=some k))=true:=by simp [e,z]
   rw [e1,e2]
   exact .cons ⟨h1,h2⟩ ih
section
variable{X:Cx}{W:WQ}{rk:Kd}{b k:Expr}{nk:NK}{i j:Nat}{mk:EM}{pos p2 p3:Pos}{x:Str}{p:Pos}
theorem ajn(hb:PE X b (tCmp X.K nk i j))(hk:DE X W .bor k mk)(hm:M1 X b "pop" p2 k p3:=by exact⟨rfl,rfl,rfl,rfl⟩)(hs:swapsWith (.Call (.Attribute b "pop" p2) [k] [] p3) none pos.line X.env=pure false:=by rfl):DS X W rk (.Expr (.Call (.Attribute b "pop" p2) [k] [] p3) pos) (af5 nk i j mk):=
 PS.imp (ps_expr (pe_dpop1 hb hk hm) hs) fun E σ H ⟨Hf,Hb,ρ,R,h⟩=>by
  obtain⟨cs,d,hi,hj,h⟩:=aay h
  cases d with
  |dict ds=>
   simp only at h
   have hmm:Bf ds=true:=by
    cases qm:Bf ds with
    |true=>rfl
    |false=>simp [qm,lO] at h
   simp only [hmm,if_true] at h
   obtain⟨p,vs,hp,q,a1,a2,a3,⟨o,a4,a5⟩,a6⟩:=R.atC hi hj
   cases a5 with
   |dT al=>cases hmm
   |dK al=>
    refine⟨p,vs,hp,_,a1,a2,a3,q,rfl,agQ (.inl a4),Hf,Hb,ρ,R,fun d hd v Hb' H' g r=> ?_,fun c hc Hb' H' g=> ?_,fun z=> ?_⟩
    ·rw [hd] at h
     simp only at h
     split at h
     ·rename_i kk hkk
      split at h
      ·rename_i hf
       have al2:PK X.K Hb' _ ds:=Paired.imp (fun _ _ q=>⟨q.1,mY g.b q.2⟩) al
       obtain⟨_,b2,b3,b4⟩:=a6 Hb' H' g
       rcases Gq (k:=kk) al2 with⟨z1,z2⟩|⟨v',d',z1,z2,z3⟩
       ·rw [z2] at hf
        cases hf
       ·exact⟨_,kk,v',g.h _ _ a4,r.key hkk,z1,h σ Hb' _ (b4 _ _ (.dK (adx al2))) ((g.bw R.ef).trans (Bw.upd g.bh b2))⟩
      ·exact h.elim
     ·exact h.elim
    ·rw [hc] at h
     exact h σ Hb' H' (R.gw g) (g.bw R.ef)
    ·rw [z] at h
     exact h.elim
  |_=>exact h.elim
end
theorem Gw.bw2{Hf Hb H Hb' H' :Hp}(g:Gw Hb H Hb' H')(e:Ex Hf H):Bw Hf Hb Hb' H' :=g.bw e
section
variable{X:Cx}{W:WQ}{rk:Kd}{e e2 tg:Expr}{es:List Expr}{m:EM}{mx:XM}{ms:List EM}{pos p:Pos}{x:Str}{ks:List Kd}{g:List D→ER}{j k:Nat}{ps:List Str}{gm:GM}
end
end DL
set_option maxHeartbeats 2000000
namespace DL
open PySem PySem.Spec L2 Evl PyProof.Rows
section
variable{prog:Program}{w:World}{A:Around}{E:Value→Shared→Prop}{s:Shared}
end
section
variable{X:Cx}{pins:List (Addr×Obj)}{σ:L2.St}{H:Hp}{s:Shared}{a:Addr}{y:V}{u:Value}{A:Around}{E:Value→Shared→Prop}
end
section
variable{X:Cx}{pins:List (Addr×Obj)}{σ:L2.St}{H:Hp}{s:Shared}{a:Addr}{y:V}{u:Value}{A:Around}{E:Value→Shared→Prop}
end
section
variable{X:Cx}{o e f:Expr}{apos cpos:Pos}{td ty tx:TE}
end
section
variable{X:Cx}{W:WQ}{o e f:Expr}{ma mb mc:EM}{apos cpos:Pos}
end
end DL
set_option maxHeartbeats 2000000
namespace DL
open PySem PySem.Spec L2 Evl PyProof.Rows
end DL
set_option maxHeartbeats 2000000
namespace DL
open PySem PySem.Spec L2 Evl PyProof.Rows
section
variable{pn:Pn}{K:aq}{H H' Hb Hb' Hf:Hp}{σ:L2.St}{ρ:Env}{i:Nat}{ks:List Key}{ls:List (List D)}
theorem gJ.Vw(R:gJ K pn Hf Hb H σ ρ)(h:ρ[i]? =some (.Vw ks ls)):∃p qs,σ[i]? =some (some (.ref p))∧H p=some (.dK (ks.zip (qs.map V.ref)))∧qs.length=ks.length∧Ml K Hb H qs ls∧(p::qs).Nodup∧(∀a∈p::qs,Hf a=none∧Hb a=none)∧
 ∀(Hb' H' :Hp) (ks' :List Key) (ls' :List (List D)) (qs' :List Addr),(∀a o,a∉p::qs→H a=some o→H' a=some o)→Ex Hb Hb' →Ex Hb' H' →(∀a,a∉p::qs→Hb a=none→NT (H a)→Hb' a=none)→H' p=some (.dK (ks'.zip (qs'.map V.ref)))→qs'.length=ks'.length→Ml K Hb' H' qs' ls' →(p::qs').Nodup→
  (∀a∈qs',a∈qs∨H a=none)→(∀a∈p::qs',Hb' a=none)→gJ K pn Hf Hb' H' σ (ρ.set i (.Vw ks' ls')):=by
 obtain⟨F,r⟩:=R
 obtain⟨p,qs,h1,h2,h3,h4,h5⟩:=r.sl i _ h
 refine⟨p,qs,h2,h3,h4,h5,by rw [←h1];exact r.nd i,fun a ha=> ?_,?_⟩
 ·have:=r.fr i a (by rw [h1];exact ha)
  exact⟨this.1,this.2.1⟩
 intro Hb' H' ks' ls' qs' e1 b bh nw hp hl c nd sub hb
 have new:SlO K Hf Hb' H' σ[i]? (.Vw ks' ls') (p::qs'):=⟨p,qs',rfl,h2,hp,hl,c⟩
 have hfn:∀a∈p::qs',Hf a=none:=fun a ha=>by
  rcases aH.mp ha with z|z
  ·rw [z];exact(r.fr i p (by rw [h1];simp)).1
  ·rcases sub a z with w|w
   ·exact(r.fr i a (by rw [h1];exact aN _ w)).1
   ·exact fresh_back r.ef w
 refine⟨_,r.step (i:=i) (s:= .Vw ks' ls') (fp:=p::qs') (fun a o e=>e1 a o (fun z=> ?_) (r.ef a o e)) bh b rfl (fun _ _=>rfl) (fun a ha _ k2 k3=> ?_) (fun _=>new) nd (fun a ha=>⟨hfn a ha,hb a ha,new.nt a ha⟩) (fun l a hl ha hj=> ?_) (fun a q=>r.pin i a q)⟩
 ·have:=(r.fr i a (by rw [h1];exact z)).1
  rw [e] at this
  cases this
 ·rw [h1] at ha
  obtain⟨o,ho⟩:=wC k3
  exact⟨by rw [ho];exact e1 a o ha ho,nw a ha k2 k3⟩
 ·rcases aH.mp ha with z|z
  ·exact r.dj l i a hl hj (by rw [h1,z];simp)
  ·rcases sub a z with w|w
   ·exact r.dj l i a hl hj (by rw [h1];exact aN _ w)
   ·have:=(r.fr l a hj).2.2
    rw [w] at this
    exact this
end
section
variable{K:aq}{Hb H:Hp}
theorem Ml.len{qs:List Addr}{ls:List (List D)}(h:Ml K Hb H qs ls):qs.length=ls.length:=by
 induction h with
 |nil=>rfl
 |cons _ _ _ ih=>simp [ih]
theorem Ml.get:∀{qs:List Addr} {ls:List (List D)} {j:Nat} {q:Addr},Ml K Hb H qs ls→qs[j]? =some q→∃xs,H q=some (.lst xs)∧ju K Hb xs (ls.getD j [])
 |_,_,j,q, .nil,h=>by simp at h
 |_,_,0,q, .cons a b c,h=>by
  simp at h
  subst h
  exact⟨_,a,by simpa using b⟩
 |_,_,j+1,q, .cons a b c,h=>by
  obtain⟨xs,h1,h2⟩:=Ml.get c (by simpa using h)
  exact⟨xs,h1,by simpa [bF] using h2⟩
theorem Ml.app:∀{qs rs:List Addr} {ls ms:List (List D)},Ml K Hb H qs ls→Ml K Hb H rs ms→Ml K Hb H (qs++rs) (ls++ms)
 |_,_,_,_, .nil,h=>h
 |_,_,_,_, .cons a b c,h=> .cons a b (Ml.app c h)
theorem Ml.put{H' :Hp}{xs:List V}{ds:List D}:∀{qs:List Addr} {ls:List (List D)} {j:Nat} {q:Addr},Ml K Hb H qs ls→qs[j]? =some q→qs.Nodup→H' q=some (.lst xs)→ju K Hb xs ds→(∀a∈qs,a≠q→H' a=H a)→Ml K Hb H' qs (ls.set j ds)
 |_,_,j,q, .nil,h,_,_,_,_=>by simp at h
 |_,_,0,q, .cons a b c,h,nd,h1,h2,hk=>by
  simp at h
  subst h
  obtain⟨n1,n2⟩:=bY.mp nd
  refine .cons h1 h2 (c.frame (Ex.refl _) fun p hp o ho=> ?_)
  rw [hk p (aN _ hp) (fun z=>n1 (by rw [←z];exact hp))]
  exact ho
 |_,_,j+1,q, .cons (q:=q0) a b c,h,nd,h1,h2,hk=>by
  obtain⟨n1,n2⟩:=bY.mp nd
  have hq:q∈_:=bf (by simpa using h)
  refine .cons ?_ b (Ml.put c (by simpa using h) n2 h1 h2 fun a ha ne=>hk a (aN _ ha) ne)
  rw [hk q0 aX (fun z=>n1 (by rw [z];exact hq))]
  exact a
end
section
variable{pn:Pn}{K:aq}{H H' Hb Hb' Hf:Hp}{σ:L2.St}{ρ:Env}{i:Nat}{ks:List Key}{ls:List (List D)}
end
section
variable{X:Cx}{W:WQ}{rk:Kd}{o k v:Expr}{i:Nat}{mk mv:EM}{x:Str}{p p2 p3 p4 p5 p6 pos:Pos}
end
section
variable{X:Cx}{W:WQ}{k:Expr}{mk:EM}{x:Str}{p p2 pos apos cpos:Pos}
end
end DL
set_option maxHeartbeats 2000000
namespace DL
open PySem PySem.Spec L2 Evl PyProof.Rows
section
variable{X:Cx}
end
end DL
set_option maxHeartbeats 2000000
namespace DL
open PySem PySem.Spec L2 Evl PyProof.Rows
section
variable{X:Cx}{W:WQ}{rk:Kd}{tg:Expr}{g:GM}{body:List Stmt}{mb:SM}{pos q:Pos}{y:Str}
end
section
variable{X:Cx}{W:WQ}{a:Expr}{lo hi:Option Expr}{m:EM}{ml mh:Option EM}{pos p2:Pos}
end
theorem yh.off{K:aq}{Hb H:Hp}{vs:List V}{cs:List Sl}{fq:List Addr}(h:yh K Hb H vs cs fq):∀{j:Nat} {d:D} {q:Addr},cs[j]? =some (.own d)→vs[j]? =some (.ref q)→fq.Nodup→∃fq',yh K Hb H vs (cs.set j .un) fq' ∧q∉fq' ∧(∀a∈fq',a∈fq)∧fq'.Nodup∧q∈fq:=by
 induction h with
 |nil=>intro j d q e;simp at e
 |dat a r ih=>
  intro j d q e ev nd
  cases j with
  |zero=>simp at e
  |succ j=>
   obtain⟨fq',h1,h2,h3,h4,h5⟩:=ih (j:=j) (by simpa using e) (by simpa using ev) nd
   exact⟨fq', .dat a h1,h2,h3,h4,h5⟩
 |un r ih=>
  intro j d q e ev nd
  cases j with
  |zero=>simp at e
  |succ j=>
   obtain⟨fq',h1,h2,h3,h4,h5⟩:=ih (j:=j) (by simpa using e) (by simpa using ev) nd
   exact⟨fq', .un h1,h2,h3,h4,h5⟩
 |own a r ih=>
  rename_i q0 d0 vs cs fp
  intro j d q e ev nd
  obtain⟨n1,n2⟩:=bY.mp nd
  cases j with
  |zero=>
   simp at ev
   subst ev
   exact⟨fp, .un r,n1,fun a ha=>aN _ ha,n2,aX⟩
  |succ j=>
   obtain⟨fq',h1,h2,h3,h4,h5⟩:=ih (j:=j) (by simpa using e) (by simpa using ev) n2
   refine⟨q0::fq', .own a h1,fun z=> ?_,fun a ha=> ?_,bY.mpr ⟨fun z=>n1 (h3 _ z),h4⟩,aN _ h5⟩
   ·rcases aH.mp z with z|z
    ·rw [z] at h5
     exact n1 h5
    ·exact h2 z
   ·rcases aH.mp ha with z|z
    ·rw [z];exact aX
    ·exact aN _ (h3 a z)
section
variable{X:Cx}{W:WQ}{rk:Kd}{b b' k k' e x:Expr}{rest:List Stmt}{mr:SM}{mk me mx:EM}{nk:NK}{i j jj kn:Nat}{g:List D→ER}{f:Str}{ps:List Str}{pos pos' p p2 p3 p4:Pos}
end
end DL
set_option maxHeartbeats 4000000
namespace DL
open PySem PySem.Spec L2 Evl PyProof.Rows
section
variable{P:Program}{w:World}{A:Around}{E:Value→Shared→Prop}{s:Shared}
end
section
variable{X:Cx}
end
section
variable{X:Cx}{W:WQ}{e:Expr}{m:EM}{p p2 pos pos2:Pos}
end
section
variable{X:Cx}
end
section
variable{X:Cx}{W:WQ}{o e:Expr}{ma mb:EM}{apos pos:Pos}
end
end DL
set_option maxHeartbeats 4000000
namespace DL
open PySem PySem.Spec L2 Evl
section
variable{pn:Pn}{K:aq}{H Hb Hf Hf' :Hp}{σ:L2.St}{ρ:Env}{F:Nat→List Addr}{A:Addr}{o:HO}
theorem SlO.hf{x:Option (Option V)}{s:Sl}{fp:List Addr}(h:SlO K Hf Hb H x s fp)(e:Ex Hf Hf'):SlO K Hf' Hb H x s fp:=by
 cases s with
 |bor d=>
  obtain⟨h0,v,h1,h2⟩:=h
  refine⟨h0,v,h1,?_⟩
  rcases h2 with h2|⟨p,h3,h4⟩
  ·exact .inl h2
  ·exact .inr ⟨p,h3,h4.ex (Ex.refl _) e⟩
 |vP k cs=>
  obtain⟨h0,p,vs,hp,h1,h2,h3⟩:=h
  exact⟨h0,p,vs,hp,h1,h2.frame fun p hp o ho=>e _ _ ho,h3.ex (Ex.refl _) e⟩
 |_=>exact h
end
section
variable{X:Cx}{W:WQ}{elt tg iter:Expr}{scope:Scope}{own:List (Str×Nat)}{pos:Pos}{mi:Env→AR}{T:TG}{g:GM}{mx:XM}
end
section
variable{pn:Pn}{K:aq}{H Hb Hf:Hp}{σ:L2.St}{ρ:Env}{i:Nat}{p:Addr}{od:Obj}{kvs:List (Key×V)}{ds:List (D×D)}
end
section
variable{X:Cx}{W:WQ}{rk:Kd}{pos:Pos}{g:GM}{mb:SM}{body:List Stmt}{tg:Expr}
end
section
variable{X:Cx}{W:WQ}{o e:Expr}{m n:EM}{apos pos:Pos}
theorem agr(ho:DE X W .bor o m)(he:DE X W .bor e n)
 (hs:starEach [e] X.env=[(false,eval e X.env)]:=by rfl) (hbase:attributeBase o "count" X.env (eval o X.env)=eval o X.env:=by rfl) (hline:(apos.endLine==pos.line)=true:=by rfl):DE X W .dat (.Call (.Attribute o "count" apos) [e] [] pos) (WY (fun z y=> .int (Txt.count z y)) m n):=
 PE.imp (pe_m1 F.slot_str_count F.type_str_count mt_count ho he hs hbase hline) fun σ H Q ⟨Hf,Hb,ρ,R,h1,h2,h3⟩=>by
  refine⟨Hf,Hb,ρ,R,fun d hd v Hb1 H1 g1 r1=> ?_,fun c hc=>h2 c (by simp [WY,hc,ER.bind]),fun z=>h3 (by simp [WY,z,ER.bind])⟩
  cases d with
  |str z=>
   have e1:=Bo.str r1
   refine⟨⟨z,e1⟩,Hf,Hb1,ρ,R.gw g1,fun d2 hd2 v2 Hb2 H2 g2 r2=> ?_,fun c hc Hb2 H2 g2=>h2 c (by simp [WY,hd,hc,ER.bind]) Hb2 H2 (g1.trans g2),fun z=>h3 (by simp [WY,hd,z,ER.bind])⟩
   cases d2 with
   |str y=>exact⟨z,y,e1,by rw [Bo.str r2],h1 (.int (Txt.count z y)) (by simp [WY,hd,hd2,ER.bind]) _ Hb2 H2 (g1.trans g2) pC⟩
   |_=>exact absurd (by simp [WY,hd,hd2,ER.bind]) h3
  |_=>exact absurd (by simp [WY,hd,ER.bind]) h3
end
end DL
set_option maxHeartbeats 4000000
namespace DL
open PySem PySem.Spec L2 Evl
section
variable{K:aq}{W:WQ}{T:TG}{g:GM}{me:EM}{vs:List Nat}{σ:L2.St}{H1 Hf Hb1:Hp}{ρ:Env}{Q:VK}{ds:List D}{J:It}{pn:Pn}
end
section
variable{X:Cx}{W:WQ}{rk:Kd}{elt tg iter:Expr}{scope:Scope}{own:List (Str×Nat)}{pos:Pos}{T:TG}{g:GM}{mx my:XM}{me:EM}
def Bt(f:D→D→ER)(mx my:XM):XM:=fun ρ=>match mx ρ with
 | .ok d ρ1=>(match my ρ1 with
   | .ok e ρ2=>(match f d e with
     | .ok r=> .ok r ρ2
     |_=> .bad)
   | .ex c ρ2=> .ex c ρ2
   | .bad=> .bad)
 | .ex c ρ1=> .ex c ρ1
 | .bad=> .bad
theorem ahZ{K:aq}{f:D→D→ER}{σ:L2.St}{H:Hp}{Q:VK}(h:xOf K W (Bt f mx my) σ H Q):tOp (rOf K .dat f) (xOf K W mx) (xOf K W my) σ H Q:=by
 obtain⟨Hf,Hb,ρ,R,h1,h2,h3⟩:=h
 refine⟨Hf,Hb,ρ,R,fun d ρ1 hd v Hb1 H1 R1 b1 r1=> ?_,fun c ρ' hc Hb1 H1 R1 b1=>h2 c ρ' (by simp [Bt,hc]) Hb1 H1 R1 b1,fun z=>h3 (by simp [Bt,z])⟩
 refine⟨Hf,Hb1,ρ1,R1,fun d2 ρ2 hd2 v2 Hb2 H2 R2 b2 r2=> ?_,fun c ρ' hc Hb2 H2 R2 b2=>h2 c ρ' (by simp [Bt,hd,hc]) Hb2 H2 R2 (b1.trans b2),fun z=>h3 (by simp [Bt,hd,z])⟩
 have e:Bt f mx my ρ=(match f d d2 with
  | .ok r=> .ok r ρ2
  |_=> .bad):=by simp [Bt,hd,hd2]
 cases q:f d d2 with
 |bad=>exact absurd (by rw [e,q]) h3
 |ex c=>exact absurd (by rw [e,q]) h3
 |ok z=>
  rw [q] at e
  exact⟨Hb2,d,d2,z,R2.eb, .inl (mY b2.b r1), .inl r2,q,fun v Hb3 H3 g3 r3=>h1 z ρ2 e v Hb3 H3 (R2.gw g3) ((b1.trans b2).trans (g3.bw R2.ef)) r3⟩
end
section
variable{X:Cx}{pins:List (Addr×Obj)}{σ:L2.St}{H:Hp}{s:Shared}{A:Around}{E:Value→Shared→Prop}
end
end DL
set_option maxHeartbeats 4000000
namespace DL
open PySem PySem.Spec L2 Evl
def akH(i j:Nat):SM:=fun ρ=>match ρ[i]?,ρ[j]? with
 |some (.dat r),some (.own (.list ps))=> .rt (.tuple [r, .list ps])
 |_,_=> .bad
section
variable{X:Cx}{W:WQ}{kd:Kd}{e:Expr}{m:EM}
end
section
variable{X:Cx}{W:WQ}
end
section
variable{X:Cx}
end
theorem PS.ex2{α β:Type}{X:Cx}{st:Stmt}{t:α→β→TS}(h:∀a b,PS X st (t a b)):PS X st (fun E σ H=>∃a b,t a b E σ H):=⟨fun pins s σ H D I ⟨a,b,q⟩=>(h a b).run pins s σ H D I q⟩
section
variable{P:Program}{w:World}{K:aq}{mg:Str→Option Value}{base:Heap}{fa:List He.Fa}{fn:List He.DefD}
end
end DL
set_option maxHeartbeats 4000000
namespace DL
open PySem PySem.Spec L2 Evl
section
variable{K:aq}{H Hb Hf Hf' :Hp}{pn pn' :Pn}{σ:L2.St}{ρ:Env}{i j k:Nat}{cs:List Sl}{vs:List V}{fq:List Addr}{p q:Addr}{d:D}
theorem Mi.two{F:Nat→List Addr}(R:Mi K pn Hf Hb H σ ρ F){si sj:Sl}{fi fj:List Addr}{σ' :L2.St}(ij:i≠j)(hl:σ'.length=σ.length)(hσ:∀a,a≠i→a≠j→σ'[a]? =σ[a]?)
 (hi:i<ρ.length→SlO K Hf Hb H σ'[i]? si fi) (hj:j<ρ.length→SlO K Hf Hb H σ'[j]? sj fj) (hs:(fi++fj).Nodup) (hm:∀a,a∈fi++fj→a∈F i∨a∈F j) (hp:∀b a,(b,a)∈pn→(b=i∨b=j)→σ'[b]? =some (some (.ref a))):
 Mi K pn Hf Hb H σ' ((ρ.set i si).set j sj) (fun a=>if a=j then fj else if a=i then fi else F a):=by
 have nd:=cA.mp hs
 refine⟨R.ef,R.eb,by rw [hl,R.len];simp,fun a t q=> ?_,fun a=> ?_,fun a x hx=> ?_,fun a b x ab hx=> ?_,fun b a hb=> ?_⟩
 ·by_cases aj:a=j
  ·subst aj
   simp only [if_true]
   have hlt:a<ρ.length:=by
    have:=(au.mp q).1
    simpa using this
   rw [List.getElem?_set_self (by simpa using hlt)] at q
   cases q
   exact hj hlt
  ·rw [List.getElem?_set_ne (Ne.symm aj)] at q
   by_cases ai:a=i
   ·subst ai
    simp only [if_neg aj,if_true]
    have hlt:a<ρ.length:=by
     have:=(au.mp q).1
     simpa using this
    rw [List.getElem?_set_self hlt] at q
    cases q
    exact hi hlt
   ·rw [List.getElem?_set_ne (Ne.symm ai)] at q
    simp only [if_neg aj,if_neg ai]
    rw [hσ a ai aj]
    exact R.sl a t q
 ·by_cases aj:a=j
  ·simp only [aj,if_true]
   exact nd.2.1
  ·by_cases ai:a=i
   ·simp only [if_neg aj,ai,if_true]
    rw [if_neg ij]
    exact nd.1
   ·simp only [if_neg aj,if_neg ai]
    exact R.nd a
 ·have hx' :∃b,x∈F b:=by
   by_cases aj:a=j
   ·simp only [aj,if_true] at hx
    rcases hm x (bK _ hx) with z|z
    ·exact⟨i,z⟩
    ·exact⟨j,z⟩
   ·by_cases ai:a=i
    ·simp only [if_neg aj,if_pos ai] at hx
     rcases hm x (bB _ hx) with z|z
     ·exact⟨i,z⟩
     ·exact⟨j,z⟩
    ·simp only [if_neg aj,if_neg ai] at hx
     exact⟨a,hx⟩
  obtain⟨b,hb⟩:=hx'
  exact R.fr b x hb
 ·--no two own the same
  have cls:∀c,(fun a=>if a=j then fj else if a=i then fi else F a) c=(if c=j then fj else if c=i then fi else F c):=fun _=>rfl
  have low:∀c,c≠i→c≠j→x∈F c→x∉F i∧x∉F j:=fun c c1 c2 hc=>⟨R.dj c i x c1 hc,R.dj c j x c2 hc⟩
  have out:∀c,c≠i→c≠j→x∈F c→x∉fi∧x∉fj:=fun c c1 c2 hc=>by
   obtain⟨n1,n2⟩:=low c c1 c2 hc
   exact⟨fun z=>(hm x (bB _ z)).elim n1 n2,fun z=>(hm x (bK _ z)).elim n1 n2⟩
  by_cases aj:a=j
  ·subst aj
   simp only [if_true] at hx
   by_cases bi:b=i
   ·simp only [if_neg (Ne.symm ab),if_pos bi]
    exact fun z=>nd.2.2 x z x hx rfl
   ·simp only [if_neg (Ne.symm ab),if_neg bi]
    exact fun z=>(out b bi (Ne.symm ab) z).2 hx
  ·by_cases ai:a=i
   ·subst ai
    simp only [if_neg aj,if_true] at hx
    by_cases bj:b=j
    ·simp only [if_pos bj]
     exact fun z=>nd.2.2 x hx x z rfl
    ·simp only [if_neg bj,if_neg (Ne.symm ab)]
     exact fun z=>(out b (Ne.symm ab) bj z).1 hx
   ·simp only [if_neg aj,if_neg ai] at hx
    obtain⟨o1,o2⟩:=out a ai aj hx
    by_cases bj:b=j
    ·simp only [if_pos bj]
     exact o2
    ·by_cases bi:b=i
     ·simp only [if_neg bj,if_pos bi]
      exact o1
     ·simp only [if_neg bj,if_neg bi]
      exact R.dj a b x ab hx
 ·by_cases bi:b=i
  ·exact hp b a hb (.inl bi)
  ·by_cases bj:b=j
   ·exact hp b a hb (.inr bj)
   ·rw [hσ b bi bj]
    exact R.pin b a hb
theorem gJ.lend(R:gJ K pn Hf Hb H σ ρ)(h:ρ[i]? =some (.nst .lst cs))(hu:∀s∈cs,s= .un):∃p vs,σ[i]? =some (some (.ref p))∧H p=some (.lst vs)∧Hf p=none∧Hb p=none∧vs.length=cs.length∧gJ K pn (upd Hf p (.lst vs)) Hb H σ (ρ.set i .un):=by
 obtain⟨F,r⟩:=R
 obtain⟨v,h1,p,vs,hp,fq,rfl,⟨h2,rfl⟩,h3,h4⟩:=r.sl i _ h
 have e0:∀{vs cs fq},yh K Hb H vs cs fq→(∀s∈cs,s=Sl.un)→fq=[]∧vs.length=cs.length:=by
  intro vs cs fq c
  induction c with
  |nil=>intro _;exact⟨rfl,rfl⟩
  |dat _ _ _=>intro z;exact nomatch z _ aX
  |own _ _ _=>intro z;exact nomatch z _ aX
  |un _ ih=>
   intro z
   obtain⟨a,b⟩:=ih fun s hs=>z s (by simp [hs])
   exact⟨a,by simp [b]⟩
 obtain⟨rfl,vl⟩:=e0 h3 hu
 obtain⟨z1,z2,z3⟩:=r.fr i p (by rw [h4];simp)
 have ee:Ex Hf (upd Hf p (.lst vs)):=Ex.new z1
 refine⟨p,vs,h1,h2,z1,z2,vl,fun a=>if a=i then [] else F a,⟨fun a o ha=> ?_,r.eb,by rw [r.len];simp,fun a s hs=> ?_,fun a=> ?_,fun a x hx=> ?_,fun a b x ab hx=> ?_,r.pin⟩⟩
 ·by_cases ap:a=p
  ·subst ap
   rw [upd_same] at ha
   cases ha
   exact h2
  ·rw [upd_ne ap] at ha
   exact r.ef a o ha
 ·rcases Je hs with⟨rfl,rfl⟩|⟨z,hs'⟩
  ·simp only [if_true]
   exact rfl
  ·simp only [if_neg z]
   exact(r.sl a s hs').hf ee
 ·split
  ·exact cR
  ·exact r.nd a
 ·split at hx
  ·cases hx
  ·rename_i ai
   have xp:x≠p:=fun z=>by
    subst z
    exact r.dj a i x ai hx (by rw [h4];simp)
   exact⟨by rw [upd_ne xp];exact(r.fr a x hx).1,(r.fr a x hx).2⟩
 ·split at hx
  ·cases hx
  ·split
   ·exact bG
   ·exact r.dj a b x ab hx
end
theorem PSs.ex1{α:Type}{X:Cx}{st:List Stmt}{t:α→TS}(h:∀a,PSs X st (t a)):PSs X st (fun E σ H=>∃a,t a E σ H):=⟨fun pins s σ H D I ⟨a,q⟩=>(h a).run pins s σ H D I q⟩
section
variable{K:aq}{H Hb Hf:Hp}{pn:Pn}{σ:L2.St}{ρ:Env}{i j0 j1 j2 j3:Nat}{p:Addr}
end
section
variable{X:Cx}{W:WQ}{rk:Kd}
end
def am'(K:aq)(W:WQ)(m:XM):TT:=fun σ H Q=>∃(Hf Hb:Hp) (ρ:Env),gJ K W.pin Hf Hb H σ ρ∧
 (∀b ρ',m ρ= .ok (.bool b) ρ' →∀Hb' H',gJ K W.pin Hf Hb' H' σ ρ' →Bw Hf Hb Hb' H' →Q b H')∧
 (∀c ρ',m ρ= .ex c ρ' →∀Hb' H',gJ K W.pin Hf Hb' H' σ ρ' →Bw Hf Hb Hb' H' →W.w (.ref (He.ga K c)) none σ H')∧((∃b ρ',m ρ= .ok (.bool b) ρ')∨∃c ρ',m ρ= .ex c ρ')
abbrev DTX(X:Cx)(W:WQ)(e:Expr)(m:XM):Prop:=L2.PT X e (am' X.K W m)
def G8(m:XM)(a b:SM):SM:=fun ρ=>match m ρ with
 | .ok (.bool true) ρ' =>a ρ'
 | .ok (.bool false) ρ' =>b ρ'
 | .ex c ρ' => .ex c ρ'
 |_=> .bad
section
variable{X:Cx}{W:WQ}{rk:Kd}{mx my:XM}{pos:Pos}
theorem Qx{op:CmpOp}{a b:Expr}{f:D→D→ER}(ho:HD X (compareOp op) .dat f)(ha:DX X W a mx)(hb:DX X W b my)(hm:behindInMarks op b=false:=by first|exact nomark _|rfl):DTX X W (.Compare a [op] [b] pos) (Bt f mx my):=
 PT.imp (pt_cmpR ho ha hb hm) fun σ H Q ⟨Hf,Hb,ρ,R,h1,h2,h3⟩=>by
  refine ahZ (Q:=fun x H' =>∃c,x= .bl c∧Q c H') ⟨Hf,Hb,ρ,R,fun d ρ' hd v Hb' H' R' b r=> ?_,h2,fun z=> ?_⟩
  ·rcases h3 with⟨b0,ρ0,e0⟩|⟨c,ρ0,e0⟩
   ·rw [e0] at hd
    cases hd
    cases r
    exact⟨_,rfl,h1 _ _ e0 Hb' H' R' b⟩
   ·rw [e0] at hd
    cases hd
  ·rcases h3 with⟨b0,ρ0,e0⟩|⟨c,ρ0,e0⟩
   ·rw [e0] at z
    cases z
   ·rw [e0] at z
    cases z
theorem Xl{c:Expr}{a b:List Stmt}{ma mb:SM}(hc:DTX X W c mx)(ha:Wg X W rk a ma)(hb:Wg X W rk b mb):DS X W rk (.If c a b pos) (G8 mx ma mb):=PS.imp (ps_if hc ha hb) fun E σ H ⟨Hf,Hb,ρ,R,h⟩=>by
 refine⟨Hf,Hb,ρ,R,fun k ρ' hk Hb' H' R' g=> ?_,fun c ρ' hc Hb' H' R' g=> ?_,?_⟩
 ·cases k with
  |true=>
   simp only [G8,hk] at h
   exact⟨Hf,Hb',ρ',R',lO.weak g h⟩
  |false=>
   simp only [G8,hk] at h
   exact⟨Hf,Hb',ρ',R',lO.weak g h⟩
 ·simp only [G8,hc] at h
  exact h _ Hb' H' R' g
 ·unfold G8 at h
  split at h
  ·rename_i ρ' q
   exact .inl ⟨_,_,q⟩
  ·rename_i ρ' q
   exact .inl ⟨_,_,q⟩
  ·rename_i c ρ' q
   exact .inr ⟨_,_,q⟩
  ·exact h.elim
end
def aaE:List D→ER
 |[.dict ds]=>if Bf ds=true then .ok (.int ds.length) else .bad
 |_=> .bad
theorem ajm:yc aaE:=fun ds c h=>by
 unfold aaE at h
 repeat' split at h
 all_goals cases h
section
variable{X:Cx}
theorem aiE:CallD X (.builtin "len") .dat aaE:=by
 intro pins s σ H vs us Q I r h
 obtain⟨Hb,ks,ds,d,eb,ra,hg,q⟩:=h
 unfold aaE at hg
 split at hg
 ·split at hg
  ·rename_i hm
   cases hg
   obtain⟨v,rfl,b⟩:=ra1 ra
   obtain⟨p,kvs,rfl,hd,pk⟩:=b.dict eb hm
   obtain⟨u,rfl,rx⟩:=r.one
   cases rx
   refine d_len I hd fun t s' I' =>⟨.int kvs.length,H,I',⟨t,rfl⟩,?_⟩
   rw [Paired.length pk]
   exact q _ Hb H (Gw.refl eb) pC
  ·cases hg
 ·cases hg
end
end DL
namespace DL
open PySem PySem.Spec L2 Evl
def amE(g:Addr→Option Obj)(as:List Addr):List Addr:=as.flatMap fun a=>match g a with
 |some o=>He.refsD o
 |none=>[]
def asY(g:Addr→Option Obj):Nat→List Addr→List Addr
 |0,as=>as
 |n+1,as=>as++asY g n (amE g as)
def ak7(n:Nat)(fa:List He.Fa)(fn:List He.DefD)(xs:List Str)(g:Addr→Option Obj):He.AlD×Bool:=(He.obsD fa fn (He.frG g (asY g n [mainGlobals])),okX xs (He.frG g (asY g n [mainGlobals])))
def ajD(n:Nat)(fa:List He.Fa)(fn:List He.DefD)(xs:List Str):PySem.W.Hook where
 α:=He.AlD×Bool
 obs:=fun s=>ak7 n fa fn xs s.heap.get?
 val:=fun _=>(He.valD fn,true)
 says:=fun _ h=>∃K:aq,K.In h∧He.SaysD fa fn K∧okX xs K=true
 of:=fun _ _ e=>⟨_,He.frG_in,congrArg (fun z:He.AlD×Bool=>z.1) e,congrArg (fun z:He.AlD×Bool=>z.2) e⟩
 keeps:=fun _ _ _ ⟨K,hK,c⟩ k=>⟨K,PySem.W.Frag.In.keeps hK k,c⟩
theorem ah1{n:Nat}{fa:List He.Fa}{fn:List He.DefD}{xs:List Str}{g:Addr→Option Obj}{s:Shared}(h:∀a,g a=s.heap.get? a):ak7 n fa fn xs g=(ajD n fa fn xs).obs s:=by
 have e:g=s.heap.get? :=funext h
 rw [e]<;>rfl
theorem anf{α β γ δ ε:Type}{o:Option α}{f:α→β}{g:α→γ}{h:α→δ×ε}{b:β}{c:γ}{d:δ}{e:ε}(h1:o.map (fun s=>(f s,g s))=some (b,c))(h2:o.map (fun s=>(h s).1)=some d)(h3:o.map (fun s=>(h s).2)=some e):o.map (fun s=>(f s,g s,h s))=some (b,c,(d,e)):=by
 cases o with
 |none=>cases h1
 |some s=>
  simp only [cU,Option.some.injEq,Prod.mk.injEq] at h1 h2 h3⊢
  exact⟨h1.1,h1.2,Prod.ext h2 h3⟩
end DL
namespace DL
open PySem PySem.Spec L2 Evl PyProof.Rows
def ajr(i:Nat)(m:SM):SM:=fun ρ=>match ρ[i]? with
 |some (.dat d)=>m (ρ.set i (.bor d))
 |_=> .bad
theorem gJ.asB{pn:Pn}{K:aq}{Hf Hb H:Hp}{σ:L2.St}{ρ:Env}{i:Nat}{d:D}(R:gJ K pn Hf Hb H σ ρ)(h:ρ[i]? =some (.dat d)):gJ K pn Hf Hb H σ (ρ.set i (.bor d)):=by
 obtain⟨F,r⟩:=R
 refine⟨F,{r with len:=by rw [r.len];simp,sl:=fun j s hs=> ?_}⟩
 rcases Je hs with⟨rfl,rfl⟩|⟨_,hs'⟩
 ·obtain⟨f0,v,h1,h2⟩:=r.sl j _ h
  exact⟨f0,v,h1, .inl h2⟩
 ·exact r.sl j s hs'
theorem aki{X:Cx}{W:WQ}{rk:Kd}{st:Stmt}{m:SM}(i:Nat)(h:DS X W rk st m):DS X W rk st (ajr i m):=PS.imp h fun E σ H ⟨Hf,Hb,ρ,R,hp⟩=>by
 unfold ajr at hp
 split at hp
 ·rename_i d q
  exact⟨Hf,Hb,_,R.asB q,hp⟩
 ·exact hp.elim
def Vu:D→D→ER
 | .int i, .int j=>if 0≤j∧j≤1000000∧i.natAbs<2 ^ 64 then .ok (.int (i*2 ^ j.toNat)) else .bad
 |_,_=> .bad
theorem alx{X:Cx}:HD X (binaryOp .LShift) .dat Vu:=by
 intro pins s σ H x y v u Q I rx ry h
 obtain⟨Hb,dx,dy,d,eb,bx,byy,hg,q⟩:=h
 cases dx<;>cases dy<;>simp only [Vu] at hg<;>first|cases hg;done|skip
 split at hg
 ·cases hg
  exact op_shl pins s σ H x y v u Q I rx ry ⟨_,_,bx.int,byy.int,by assumption,q _ Hb H (Gw.refl eb) pC⟩
 ·cases hg
theorem akB:lJ Vu:=fun x y c h=>by
 cases x<;>cases y<;>simp only [Vu] at h<;>first|cases h;done|(split at h<;>cases h)
end DL
open DL
local macro_rules
 | `(tactic|simp! only [$a,*]$[$l:location]?)=> `(tactic|simp only [jh,j9,aD,fG,iQ,gA,gH,jG,qI,mF,oU,wM,eIf,dX,Int.reduceLT,Int.reduceLE,Int.reduceEq,cW,dN,aC,beq_self_eq_true,Sb.aeQ,$a,*]$[$l]?)
 | `(tactic|simp! [$a,*]$[$l:location]?)=> `(tactic|simp(disch:=omega) only [jh,j9,aD,fG,iQ,gA,gH,jG,qI,mF,oU,wM,eIf,dX,Int.reduceLT,Int.reduceLE,Int.reduceEq,cW,dN,aC,beq_self_eq_true,Sb.aeQ,o9,pD,jo,wg,Gu,Int.reducePow,Int.reduceToNat,Int.reduceNeg,Int.reduceAdd,Int.reduceSub,Int.reduceMul,Int.reduceDiv,Int.reduceMod,$a,*]$[$l]?)
local macro_rules
 | `(tactic|dsimp! only [$a,*]$[$l:location]?)=> `(tactic|simp(disch:=omega) only [jh,j9,aD,fG,iQ,gA,gH,jG,qI,mF,oU,wM,eIf,dX,Int.reduceLT,Int.reduceLE,Int.reduceEq,cW,dN,aC,beq_self_eq_true,Sb.aeQ,$a,*]$[$l]?)
namespace Sb
open PySem PySem.Spec L2 Evl DL
abbrev gM:NK:= .ins "Book" ["texts"]
def xs:List Str:=[]
def tV:SM:=(fG (iQ (eO Jl (d8 1) (fu je [(d8 0)])) (gA (eO jJ (eO lN (eO jJ (eO fV (d8 0) (d8 1)) (eO vW (eC (.int 10)) (eC (.int 40)))) (eC (.int 2718281828459045235360287471352662497757))) (eO vW (eC (.int 10)) (eC (.int 40))))) fU)
 (fG (gH 2 (eO iH (eO lN (eO lN (d8 1) (d8 1)) (eC (.int 7919))) (eC (.int 5))))
 (fG (iQ (eO Zd (fu je [(d8 0)]) (eC (.int 0))) (gH 2 (eO iH (d8 2) (eO lN (eO jJ (eO fV (d8 0) (eO jJ (eO lN (d8 1) (eC (.int 7))) (fu je [(d8 0)]))) (eO vW (eC (.int 10)) (eC (.int 40)))) (eO iH (eC (.int 48271)) (eO lN (eC (.int 2)) (d8 1)))))) fU)
 (fG (gH 2 (eO jJ (eO lN (d8 2) (d8 2)) (eC (.int 2147483629))))
 (fG (gH 2 (eO jJ (eO lN (eO iH (eO iH (d8 2) (eO lN (eO lN (d8 1) (d8 1)) (d8 1))) (eC (.int 16807))) (eO iH (d8 2) (eC (.int 69621)))) (eC (.int 4611686018427387847))))
 (gA (eO jJ (eO lN (d8 2) (eC (.int 2718281828459045235360287471352662497757))) (eO vW (eC (.int 10)) (eC (.int 40))))))))))
def oM:List D→ER:=jh [.dat, .dat] 1 tV
def vR:SM:=(fG (jG 3 (fu qZ [(d8 0)]))
 (fG (iQ (eO Zd (fu je [(gK 3)]) (eC (.int 0))) (fG (gH 4 (eO iH (d8 1) (eO jJ (eO fV (gK 3) (eC (.int 0))) (eO iH (eO nj (d8 2) (d8 1)) (eC (.int 1))))))
 (fG (UL 3 (eC (.int 0)) (eO lX (eO fV (gK 3) (eC (.int 0))) (eO iH (eO nj (d8 2) (d8 1)) (eC (.int 1)))))
 (fG (jG 5 (lC []))
 (fG (mV (Vh (d8 4)) (gN 6) (fG (mW 5 (eO jJ (eO fV (gK 3) (eO jJ (d8 6) (fu je [(gK 3)]))) (eO vW (eC (.int 10)) (eC (.int 40)))))
 (UL 3 (eO jJ (d8 6) (fu je [(gK 3)])) (eO lX (eO fV (gK 3) (eO jJ (d8 6) (fu je [(gK 3)]))) (eO vW (eC (.int 10)) (eC (.int 40)))))))
 (iQ (eO Zd (fu Ss [(gK 3)]) (eC (.int 0))) (xO 5) fU))))) fU)
 (gA (X3 (Vh (fu Vf [(d8 1),(fu Pq [(d8 2),(fu je [(d8 0)])])])) (gN 6) (eC (.bool true)) (fu oM [(d8 0),(d8 6)]) [6]))))
def vY:List D→ER:=jh [.dat, .dat, .dat] 4 vR
def yj:SM:=(fG (gH 5 (eO jE (gK 3) (d8 1)))
 (fG (gH 6 (eO jE (gK 3) (d8 2)))
 (fG (gH 7 (eO iH (eO fV (gK 4) (d8 5)) (eO fV (gK 4) (d8 6))))
 (fG (iQ (eO kZ (eO jJ (d8 0) (eC (.int 8))) (eC (.int 0))) (gA (jw [(eO iH (eO iH (d8 1) (eC (.str " turn "))) (d8 1)),(jw [(eC (.str "turn")),(d8 5)]),(eO fV (gK 4) (d8 5))])) fU)
 (fG (iQ (oU (eO Jl (eO jJ (d8 0) (eC (.int 8))) (eC (.int 4))) (eO kZ (eO jJ (eO lX (d8 0) (eC (.int 64))) (eC (.int 2))) (eC (.int 0)))) (gA (jw [(eO iH (eO iH (eO iH (eO iH (d8 1) (eC (.str " join "))) (d8 1)) (eC (.str " "))) (d8 2)),(jw [(eC (.str "join")),(d8 5),(d8 6)]),(d8 7)])) fU)
 (fG (iQ (eO Jl (eO jJ (d8 0) (eC (.int 8))) (eC (.int 4))) (gA (jw [(eO iH (eO iH (eO iH (eO iH (d8 1) (eC (.str " join "))) (d8 2)) (eC (.str " "))) (d8 1)),(jw [(eC (.str "join")),(d8 6),(d8 5)]),(d8 7)])) fU)
 (fG (iQ (eO Jl (eO jJ (d8 0) (eC (.int 8))) (eC (.int 6))) (gA (jw [(eO iH (eO iH (eO iH (d8 1) (eC (.str " times "))) (d8 1)) (eC (.str " 2"))),(jw [(eC (.str "join")),(d8 5),(d8 5)]),(eO lN (eC (.int 2)) (eO fV (gK 4) (d8 5)))])) fU)
 (fG (gH 8 (eO fV (lC [(eC (.int 0)),(eO fV (gK 4) (d8 5))]) (eO jJ (eO lX (d8 0) (eC (.int 8))) (eC (.int 2)))))
 (gA (jw [(eO iH (eO iH (eO iH (eO iH (eO iH (eO iH (d8 1) (eC (.str " insert "))) (d8 1)) (eC (.str " "))) (fu vK [(d8 8)])) (eC (.str " "))) (d8 2)),(jw [(eC (.str "insert")),(d8 5),(d8 6),(d8 8)]),(d8 7)]))))))))))
def vp:List D→ER:=jh [.dat, .dat, .dat, .bor, .bor] 4 yj
def Ds:SM:=(gA (eO fV (eC (.str "0123456789ABCDEFGHIJKLMNOPQRSTUVWXYZabcdefghijklmnopqrstuvwxyz")) (eO jJ (d8 0) (eC (.int 62)))))
def nU:List D→ER:=jh [.dat] 0 Ds
def wz:SM:=(fG (gH 1 (eC (.str "")))
 (fG (mV (Vh (eO iH (eC (.int 1)) (eO jJ (d8 0) (eC (.int 4))))) (gN 2) (gH 1 (eO iH (d8 1) (fu nU [(eO lX (d8 0) (eO fV (lC [(eC (.int 4)),(eC (.int 248)),(eC (.int 15376)),(eC (.int 953312))]) (d8 2)))]))))
 (gA (d8 1))))
def qR:List D→ER:=jh [.dat] 2 wz
def yC:SM:=(fG (jG 1 (lC [(jw [(eC (.str "signs")),(fu qR [(eO fV (d8 0) (eC (.int 0)))])])]))
 (fG (jG 2 (lC [(eO iH (eC (.str "x is ")) (eO fV (eO fV (gK 1) (eC (.int 0))) (eC (.int 1))))]))
 (fG (jG 3 (eD1 (eC (.str "x")) (eC (.int 0))))
 (fG (iQ (eO kZ (eO jJ (eO lX (eO fV (d8 0) (eC (.int 3))) (eC (.int 12))) (eC (.int 2))) (eC (.int 1))) (fG (mW 1 (jw [(eC (.str "signs")),(fu qR [(eO lX (eO fV (d8 0) (eC (.int 1))) (eC (.int 124)))])]))
 (fG (mW 2 (eO iH (eC (.str "y is ")) (eO fV (eO fV (gK 1) (eC (.int 1))) (eC (.int 1)))))
 (oE 3 (eC (.str "y")) (eC (.int 1))))) fU)
 (fG (jG 4 (X3 (iL (gK 1)) (gN 10) (eC (.bool true)) (fu je [(eO fV (d8 10) (eC (.int 1)))]) [10]))
 (fG (gH 5 (mG (G7 qu (gK 3))))
 (fG (mV (iL (PB (d8 0) (some (eC (.int 4))) none)) (gN 6) (fG (gH 7 (eO fV (d8 5) (eO jJ (eO lX (d8 6) (eC (.int 16))) (fu je [(d8 5)]))))
 (fG (gH 8 (eO fV (d8 5) (eO jJ (eO iH (eO lX (d8 6) (eC (.int 16))) (fu Pq [(eC (.int 1)),(eO jJ (eO lX (d8 6) (eC (.int 128))) (eC (.int 4)))])) (fu je [(d8 5)]))))
 (fG (lA (gT [(gN 9),(gN 10),(gN 11)]) (fu vp [(d8 6),(d8 7),(d8 8),(gK 3),(gK 4)]))
 (fG (mW 2 (d8 9))
 (fG (mW 1 (d8 10))
 (fG (mW 4 (d8 11))
 (oE 3 (d8 7) (eO nj (fu je [(gK 1)]) (eC (.int 1)))))))))))
 (adM 3 (RN 2 (RN 1 (RN 4 (gA (jw [(d8 2),(d8 1),(d8 4),(d8 3)])))))))))))))
def CZ:List D→ER:=jh [.dat] 11 yC
def Pb:SM:=(ab' "Book" [] "texts" 0 (eC (.dict [])))
def Ce:List Sl→RO:=Iv [true] 0 Pb
def zq:SM:=(fG (jG 2 (lC []))
 (fG (mV (iL (d8 0)) (gN 3) (iQ (eO kZ (eO fV (d8 3) (eC (.int 0))) (eC (.str "signs"))) (mW 2 (WY (fun z y=> .int (Txt.count z y)) (eO fV (d8 3) (eC (.int 1))) (d8 1))) (iQ (eO kZ (eO fV (d8 3) (eC (.int 0))) (eC (.str "turn"))) (mW 2 (eO fV (gK 2) (eO fV (d8 3) (eC (.int 1))))) (mW 2 (eO iH (eO fV (gK 2) (eO fV (d8 3) (eC (.int 1)))) (eO fV (gK 2) (eO fV (d8 3) (eC (.int 2)))))))))
 (xO 2)))
def zp:List D→ER:=jh [.dat, .dat] 2 zq
def wD:SM:=(fG (iQ (eO kZ (eO jJ (d8 0) (eC (.int 4))) (eC (.int 0))) (gA (eO jJ (eO lX (d8 0) (eC (.int 4))) (fu Pq [(d8 1),(eC (.int 3))]))) fU)
 (fG (iQ (eO kZ (eO jJ (d8 0) (eC (.int 4))) (eC (.int 1))) (gA (eO nj (eO nj (d8 1) (eC (.int 1))) (eO jJ (eO lX (d8 0) (eC (.int 4))) (fu Pq [(d8 1),(eC (.int 3))])))) fU)
 (gA (eO jJ (eO lN (eO lX (d8 0) (eC (.int 4))) (eC (.int 1152921504606846883))) (d8 1)))))
def nJ:List D→ER:=jh [.dat, .dat] 0 wD
def Ja:SM:=(fG (iQ (eO kZ (d8 0) (eC (.str "is"))) (gA (mG (lC [(eC (.str "signs"))]))) fU)
 (fG (iQ (eO kZ (d8 0) (eC (.str "join"))) (gA (mG (lC [(eC (.str "word")),(eC (.str "word"))]))) fU)
 (fG (iQ (eO kZ (d8 0) (eC (.str "times"))) (gA (mG (lC [(eC (.str "word")),(eC (.str "many"))]))) fU)
 (fG (iQ (eO kZ (d8 0) (eC (.str "turn"))) (gA (mG (lC [(eC (.str "word"))]))) fU)
 (fG (iQ (eO kZ (d8 0) (eC (.str "put"))) (gA (mG (lC [(eC (.str "word")),(eC (.str "sign")),(eC (.str "sign"))]))) fU)
 (fG (iQ (eO kZ (d8 0) (eC (.str "insert"))) (gA (mG (lC [(eC (.str "word")),(eC (.str "place")),(eC (.str "word"))]))) fU)
 (fG (iQ (wM (eO kZ (d8 0) (eC (.str "cut"))) (eO kZ (d8 0) (eC (.str "remove")))) (gA (mG (lC [(eC (.str "word")),(eC (.str "place")),(eC (.str "place"))]))) fU)
 (gA (eC .none)))))))))
def sV:List D→ER:=jh [.dat] 0 Ja
def GP:SM:=(gA (oU (CJ "str" (d8 0)) (oU (eO kZ (fu je [(d8 0)]) (eC (.int 1))) (eO (La false) (d8 0) (eC (.str "0123456789ABCDEFGHIJKLMNOPQRSTUVWXYZabcdefghijklmnopqrstuvwxyz"))))))
def tE:List D→ER:=jh [.dat] 0 GP
def Jj:SM:=(fG (iQ (mF (ji M6 M6 (eC (.int 1)) (fu je [(d8 0)]) (d8 1))) (gA (eC .none)) fU)
 (fG (mV (iS (d8 0)) (gN 2) (iQ (mF (fu tE [(d8 2)])) (gA (eC .none)) fU))
 (gA (d8 0))))
def uN:List D→ER:=jh [.dat, .dat] 1 Jj
def M8:SM:=(fG (iQ (mF (ji M6 M6 (eC (.int 1)) (fu je [(d8 0)]) (eC (.int 8)))) (gA (eC (.bool false))) fU)
 (fG (mV (iS (d8 0)) (gN 1) (iQ (eO (La true) (d8 1) (eC (.str "abcdefghijklmnopqrstuvwxyz"))) (gA (eC (.bool false))) fU))
 (gA (eC (.bool true)))))
def zW:List D→ER:=jh [.dat] 1 M8
def Ge:SM:=(fG (iQ (wM (mF (ji M6 M6 (eC (.int 1)) (fu je [(d8 0)]) (eC (.int 19)))) (oU (eO Zd (fu je [(d8 0)]) (eC (.int 1))) (eO kZ (eO fV (d8 0) (eC (.int 0))) (eC (.str "0"))))) (gA (eC .none)) fU)
 (fG (mV (iS (d8 0)) (gN 2) (iQ (eO (La true) (d8 2) (eC (.str "0123456789"))) (gA (eC .none)) fU))
 (fG (gH 3 (fu S9 [(d8 0)]))
 (fG (iQ (eO Zd (d8 3) (d8 1)) (gA (eC .none)) fU)
 (gA (d8 3))))))
def yE:List D→ER:=jh [.dat, .dat] 2 Ge
def sW:SM:=(fG (iQ (eO kZ (d8 0) (eC (.str "word"))) (fG (iQ (fu zW [(d8 1)]) (gA (d8 1)) fU)
 (gA (eC .none))) fU)
 (fG (iQ (eO kZ (d8 0) (eC (.str "place"))) (gA (fu yE [(d8 1),(eO vW (eC (.int 10)) (eC (.int 19)))])) fU)
 (fG (iQ (eO kZ (d8 0) (eC (.str "many"))) (gA (fu yE [(d8 1),(eC (.int 1152921504606846976))])) fU)
 (fG (iQ (eO kZ (d8 0) (eC (.str "sign"))) (gA (fu uN [(d8 1),(eC (.int 1))])) fU)
 (fG (iQ (eO kZ (d8 0) (eC (.str "pattern"))) (gA (fu uN [(d8 1),(eC (.int 12))])) fU)
 (gA (fu uN [(d8 1),(eC (.int 40))])))))))
def jm:List D→ER:=jh [.dat, .dat] 0 sW
def DR:SM:=(fG (iQ (eO xX (fu je [(d8 0)]) (fu je [(d8 1)])) (gA (eC .none)) fU)
 (fG (jG 2 (lC []))
 (fG (mV (iZ (d8 0) (d8 1)) (gT [(gN 3),(gN 4)]) (fG (gH 5 (fu jm [(d8 3),(d8 4)]))
 (fG (iQ (eO uG (d8 5) (eC .none)) (gA (eC .none)) fU)
 (mW 2 (d8 5)))))
 (ahb 2))))
def yG:List D→ER:=jh [.dat, .dat] 4 DR
def qP:SM:=(fG (gH 1 (mG (Ih rD (d8 0) (eC (.str " ")))))
 (fG (iQ (wM (eO Jl (fu je [(d8 1)]) (eC (.int 3))) (mF (fu zW [(eO fV (d8 1) (eC (.int 0)))]))) (gA (eC .none)) fU)
 (fG (gH 2 (fu sV [(eO fV (d8 1) (eC (.int 1)))]))
 (fG (iQ (eO uG (d8 2) (eC .none)) (gA (eC .none)) fU)
 (fG (gH 3 (fu yG [(d8 2),(PB (d8 1) (some (eC (.int 2))) none)]))
 (fG (iQ (eO uG (d8 3) (eC .none)) (gA (eC .none)) fU)
 (gA (jw [(eO fV (d8 1) (eC (.int 1))),(eO fV (d8 1) (eC (.int 0))),(d8 3)]))))))))
def mO:List D→ER:=jh [.dat] 3 qP
def Va:SM:=(fG (iQ (eO kZ (d8 0) (eC (.str "words"))) (gA (mG (lC []))) fU)
 (fG (iQ (eO (Vc false) (d8 0) (jw [(eC (.str "drop")),(eC (.str "length")),(eC (.str "show")),(eC (.str "piece")),(eC (.str "form"))])) (gA (mG (lC [(eC (.str "word"))]))) fU)
 (fG (iQ (eO (Vc false) (d8 0) (jw [(eC (.str "swap")),(eC (.str "parts")),(eC (.str "order")),(eC (.str "ring"))])) (gA (mG (lC [(eC (.str "word")),(eC (.str "word"))]))) fU)
 (fG (iQ (eO (Vc false) (d8 0) (jw [(eC (.str "stands")),(eC (.str "first"))])) (gA (mG (lC [(eC (.str "word")),(eC (.str "pattern"))]))) fU)
 (fG (iQ (eO kZ (d8 0) (eC (.str "count"))) (gA (mG (lC [(eC (.str "word")),(eC (.str "sign"))]))) fU)
 (fG (iQ (eO kZ (d8 0) (eC (.str "sign"))) (gA (mG (lC [(eC (.str "word")),(eC (.str "place"))]))) fU)
 (gA (eC .none))))))))
def iU:List D→ER:=jh [.dat] 0 Va
def CQ:SM:=(fG (gH 1 (mG (Ih rD (d8 0) (eC (.str " ")))))
 (fG (gH 2 (fu iU [(eO fV (d8 1) (eC (.int 0)))]))
 (fG (iQ (eO uG (d8 2) (eC .none)) (gA (eC .none)) fU)
 (fG (gH 3 (fu yG [(d8 2),(PB (d8 1) (some (eC (.int 1))) none)]))
 (fG (iQ (eO uG (d8 3) (eC .none)) (gA (eC .none)) fU)
 (gA (jw [(eO fV (d8 1) (eC (.int 0))),(d8 3)])))))))
def yP:List D→ER:=jh [.dat] 3 CQ
def mH:SM:=(mV (iZ (d8 1) (d8 2)) (gT [(gN 3),(gN 4)]) (iQ (oU (eO kZ (d8 3) (eC (.str "word"))) (eO (xV true) (d8 4) (gK 0))) (sX "NoWord") fU))
def j8:List D→ER:=jh [.bor, .dat, .dat] 2 mH
def Z0:SM:=(fG (iQ (eO uG (d8 0) (eC .none)) (gA (eC (.str "nowhere"))) fU)
 (gA (fu vK [(d8 0)])))
def yQ:List D→ER:=jh [.dat] 0 Z0
def Yw:SM:=(iQ (oU (eO pB (d8 1) (eC .none)) (mF (ji M6 Jl (eC (.int 0)) (d8 1) (fu je [(d8 0)])))) (sX "NoName") fU)
def qY:List D→ER:=jh [.dat, .dat] 0 Yw
def G5:SM:=(fG (iQ (eO kZ (eO fV (d8 0) (eC (.int 0))) (eC (.str "sign"))) (gA (eC (.int 1))) fU)
 (fG (iQ (eO kZ (eO fV (d8 0) (eC (.int 0))) (eC (.str "join"))) (gA (eO iH (eO fV (gK 1) (eO fV (d8 0) (eC (.int 1)))) (eO fV (gK 1) (eO fV (d8 0) (eC (.int 2)))))) fU)
 (gA (eO lN (eO fV (gK 1) (eO fV (d8 0) (eC (.int 1)))) (eO fV (d8 0) (eC (.int 2)))))))
def uQ:List D→ER:=jh [.dat, .bor] 0 G5
def afb:SM:=(fG (jG 1 (lC []))
 (fG (mV (iT (d8 0)) (gN 2) (mW 1 (fu uQ [(d8 2),(gK 1)])))
 (xO 1)))
def wU:List D→ER:=jh [.dat] 2 afb
def SJ:SM:=(fG (qI (fu qY [(d8 0),(d8 1)]))
 (fG (iQ (eO uG (d8 1) (eC .none)) (gA (eC (.int 0))) fU)
 (gA (eO fV (fu wU [(d8 0)]) (d8 1)))))
def lQ:List D→ER:=jh [.dat, .dat] 0 SJ
def Mu:SM:=(fG (gH 3 (fu lQ [(d8 0),(d8 1)]))
 (fG (iQ (wM (eO Jl (d8 2) (eC (.int 0))) (eO dGe (d8 2) (d8 3))) (sX "NoPlace") fU)
 (fG (gH 4 (mG (fu wU [(d8 0)])))
 (fG (gH 5 (eO fV (d8 0) (d8 1)))
 (fG (ug (eO xX (eO fV (d8 5) (eC (.int 0))) (eC (.str "sign"))) (fG (gH 3 (eO fV (d8 4) (eO fV (d8 5) (eC (.int 1)))))
 (iQ (eO kZ (eO fV (d8 5) (eC (.int 0))) (eC (.str "times"))) (fG (gH 2 (eO jJ (d8 2) (d8 3)))
 (gH 5 (eO fV (d8 0) (eO fV (d8 5) (eC (.int 1)))))) (iQ (eO Jl (d8 2) (d8 3)) (gH 5 (eO fV (d8 0) (eO fV (d8 5) (eC (.int 1))))) (fG (gH 2 (eO nj (d8 2) (d8 3)))
 (gH 5 (eO fV (d8 0) (eO fV (d8 5) (eC (.int 2))))))))))
 (gA (eO fV (d8 5) (eC (.int 1)))))))))
def wI:List D→ER:=jh [.dat, .dat, .dat] 3 Mu
def Ak:SM:=(fG (mW 0 (d8 1))
 (Cu (eO nj (fu je [(gK 0)]) (eC (.int 1)))))
def j6:List D→ER:=En 0 Ak
def QJ:SM:=(fG (iQ (eO uG (d8 1) (eC .none)) (Cu (d8 2)) fU)
 (fG (iQ (eO uG (d8 2) (eC .none)) (Cu (d8 1)) fU)
 (vN (jP 0 j6 [(jw [(eC (.str "join")),(d8 1),(d8 2)])]))))
def jY:List D→ER:=En 0 QJ
def acr:SM:=(fG (iQ (wM (eO uG (d8 1) (eC .none)) (eO kZ (d8 2) (eC (.int 0)))) (Cu (eC .none)) fU)
 (fG (iQ (eO kZ (d8 2) (eC (.int 1))) (Cu (d8 1)) fU)
 (vN (jP 0 j6 [(jw [(eC (.str "times")),(d8 1),(d8 2)])]))))
def vJ:List D→ER:=En 0 acr
def xR:SM:=(fG (jG 4 (lC []))
 (fG (ug (ji Jl Jl (eC (.int 0)) (d8 3) (eO fV (d8 1) (d8 2))) (fG (gH 7 (eO fV (gK 0) (d8 2)))
 (iQ (eO kZ (eO fV (d8 7) (eC (.int 0))) (eC (.str "times"))) (fG (V4 4 (jP 0 vJ [(eO fV (d8 7) (eC (.int 1))),(eO lX (d8 3) (eO fV (d8 1) (eO fV (d8 7) (eC (.int 1)))))]))
 (fG (gH 3 (eO jJ (d8 3) (eO fV (d8 1) (eO fV (d8 7) (eC (.int 1))))))
 (gH 2 (eO fV (d8 7) (eC (.int 1)))))) (iQ (eO Jl (d8 3) (eO fV (d8 1) (eO fV (d8 7) (eC (.int 2))))) (gH 2 (eO fV (d8 7) (eC (.int 2)))) (fG (mW 4 (eO fV (d8 7) (eC (.int 2))))
 (fG (gH 3 (eO nj (d8 3) (eO fV (d8 1) (eO fV (d8 7) (eC (.int 2))))))
 (gH 2 (eO fV (d8 7) (eC (.int 1))))))))))
 (fG (gH 5 (eC .none))
 (fG (iQ (eO Zd (d8 3) (eC (.int 0))) (gH 5 (d8 2)) fU)
 (fG (RN 4 (mV (iRv (d8 4)) (gN 6) (oO 5 (jP 0 jY [(d8 5),(d8 6)]))))
 (Cu (d8 5)))))))
def t8:List D→ER:=En 4 xR
def oH:SM:=(fG (jG 4 (lC []))
 (fG (ug (ji Jl Jl (eC (.int 0)) (d8 3) (eO fV (d8 1) (d8 2))) (fG (gH 7 (eO fV (gK 0) (d8 2)))
 (fG (gH 8 (eO fV (d8 1) (eO fV (d8 7) (eC (.int 1)))))
 (iQ (eO kZ (eO fV (d8 7) (eC (.int 0))) (eC (.str "times"))) (fG (V4 4 (jP 0 vJ [(eO fV (d8 7) (eC (.int 1))),(eO lX (d8 3) (d8 8))]))
 (fG (gH 3 (eO jJ (d8 3) (d8 8)))
 (gH 2 (eO fV (d8 7) (eC (.int 1)))))) (iQ (eO Jl (d8 3) (d8 8)) (gH 2 (eO fV (d8 7) (eC (.int 1)))) (fG (mW 4 (eO fV (d8 7) (eC (.int 1))))
 (fG (gH 3 (eO nj (d8 3) (d8 8)))
 (gH 2 (eO fV (d8 7) (eC (.int 2)))))))))))
 (fG (gH 5 (eC .none))
 (fG (iQ (eO Zd (d8 3) (eC (.int 0))) (gH 5 (d8 2)) fU)
 (fG (RN 4 (mV (iRv (d8 4)) (gN 6) (oO 5 (jP 0 jY [(d8 6),(d8 5)]))))
 (Cu (d8 5)))))))
def kY:List D→ER:=En 5 oH
def wV:SM:=(fG (gH 5 (eO fV (d8 2) (eC (.int 1))))
 (fG (gH 6 (eO fV (d8 1) (d8 5)))
 (fG (oO 7 (jP 0 t8 [(d8 1),(d8 5),(eO nj (d8 6) (d8 3))]))
 (fG (iQ (eO kZ (eO fV (d8 2) (eC (.int 0))) (eC (.str "join"))) (vN (zj 0 jY (d8 7) (jP 0 kY [(d8 1),(eO fV (d8 2) (eC (.int 2))),(eO nj (d8 4) (d8 6))]))) fU)
 (fG (oO 7 (zj 0 jY (d8 7) (jP 0 vJ [(d8 5),(eO lX (eO nj (d8 4) (d8 6)) (d8 6))])))
 (vN (zj 0 jY (d8 7) (jP 0 kY [(d8 1),(d8 5),(eO jJ (eO nj (d8 4) (d8 6)) (d8 6))]))))))))
def rQ:List D→ER:=En 3 wV
def Ij:SM:=(fG (gH 4 (fu lQ [(d8 0),(d8 1)]))
 (fG (iQ (mF (oY M6 M6 M6 (eC (.int 0)) (d8 2) (d8 3) (d8 4))) (sX "NoPlace") fU)
 (fG (iQ (eO kZ (d8 2) (d8 3)) (gA (jw [(fu lW [(d8 0)]),(eC .none)])) fU)
 (fG (gH 5 (mG (fu wU [(d8 0)])))
 (fG (ug (eO xX (eO fV (eO fV (d8 0) (d8 1)) (eC (.int 0))) (eC (.str "sign"))) (fG (gH 6 (eO fV (d8 0) (d8 1)))
 (fG (gH 4 (eO fV (d8 5) (eO fV (d8 6) (eC (.int 1)))))
 (fG (iQ (eO kZ (eO fV (d8 6) (eC (.int 0))) (eC (.str "times"))) (fG (gH 3 (eO nj (d8 3) (eO lN (eO lX (d8 2) (d8 4)) (d8 4))))
 (gH 2 (eO jJ (d8 2) (d8 4)))) fU)
 (iQ (eO dGe (d8 2) (d8 4)) (fG (gH 2 (eO nj (d8 2) (d8 4)))
 (fG (gH 3 (eO nj (d8 3) (d8 4)))
 (gH 1 (eO fV (d8 6) (eC (.int 2)))))) (iQ (eO M6 (d8 3) (d8 4)) (gH 1 (eO fV (d8 6) (eC (.int 1)))) (fG (jG 7 (fu qZ [(d8 0)]))
 (fG (oO 8 (jP 7 rQ [(d8 5),(d8 6),(d8 2),(d8 3)]))
 (gA (jw [(fu lW [(gK 7)]),(d8 8)]))))))))))
 (gA (jw [(fu lW [(d8 0)]),(d8 1)])))))))
def vq:List D→ER:=jh [.dat, .dat, .dat, .dat] 5 Ij
def YF:SM:=(fG (iQ (mF (ji M6 M6 (eC (.int 1)) (fu je [(d8 0)]) (eC (.int 12)))) (gA (eC (.bool false))) fU)
 (gA (fu ahj [(X3 (iS (d8 0)) (gN 1) (eC (.bool true)) (fu tE [(d8 1)]) [1])])))
def Az:List D→ER:=jh [.dat] 1 YF
def Bq:SM:=(fG (iQ (eO kZ (eO fV (d8 0) (eC (.int 0))) (eC (.str "sign"))) (gA (lC [])) fU)
 (fG (iQ (eO kZ (eO fV (d8 0) (eC (.int 0))) (eC (.str "join"))) (gA (lC [(eO fV (d8 0) (eC (.int 1))),(eO fV (d8 0) (eC (.int 2)))])) fU)
 (gA (lC [(eO fV (d8 0) (eC (.int 1)))]))))
def pN:List D→ER:=jh [.dat] 0 Bq
def Jr:SM:=(fG (iQ (eO uG (d8 1) (eC .none)) (gA (lC [])) fU)
 (fG (jG 2 (eD1 (d8 1) (eC (.bool true))))
 (fG (mV (iR3 (d8 1) (G7 Pk (eC (.int 1))) (G7 Pk (eC (.int 1)))) (gN 3) (iQ (eO (xV false) (d8 3) (gK 2)) (mV (iL (mG (fu pN [(eO fV (d8 0) (d8 3))]))) (gN 4) (oE 2 (d8 4) (eC (.bool true)))) fU))
 (gA (G7 Fy (gK 2))))))
def pA:List D→ER:=jh [.dat, .dat] 3 Jr
def ag8:SM:=(fG (gH 3 (eO iH (PB (d8 0) none (some (d8 1))) (d8 2)))
 (fG (mV (iR3 (fu Pq [(fu je [(d8 3)]),(fu je [(d8 0)])]) (eC (.int 0)) (G7 Pk (eC (.int 1)))) (gN 4) (iQ (WY (fun z y=> .bool (Txt.endswith z y)) (d8 3) (PB (d8 0) none (some (d8 4)))) (gA (d8 4)) fU))
 (gA (eC (.int 0)))))
def abf:List D→ER:=jh [.dat, .dat, .dat] 2 ag8
def Vj:SM:=(fG (jG 2 (lC []))
 (fG (mV (Vh (eO iH (fu je [(d8 0)]) (eC (.int 1)))) (gN 3) (fG (gH 4 (fu abf [(d8 0),(d8 3),(d8 1)]))
 (iQ (eO kZ (d8 4) (fu je [(d8 0)])) (mW 2 (jw [(d8 4),(eC (.int 1)),(eC (.int 1))])) (mW 2 (jw [(d8 4),(eC (.int 0)),(eC .none)])))))
 (xO 2)))
def HJ:List D→ER:=jh [.dat, .dat] 3 Vj
def U0:SM:=(fG (jG 3 (lC []))
 (fG (mV (iL (d8 0)) (gT [(gN 4),(gN 5),(gN 6)]) (fG (lA (gT [(gN 7),(gN 8),(gN 9)]) (eO fV (d8 1) (d8 4)))
 (fG (iQ (oU (eO uG (d8 6) (eC .none)) (eO pB (d8 9) (eC .none))) (gH 6 (eO iH (d8 2) (d8 9))) fU)
 (mW 3 (jw [(d8 7),(eO iH (d8 5) (d8 8)),(d8 6)])))))
 (xO 3)))
def Hl:List D→ER:=jh [.dat, .dat, .dat] 7 U0
def QC:SM:=(fG (gH 4 (eC (.int 0)))
 (fG (gH 5 (eC (.int 0)))
 (fG (gH 6 (eC .none))
 (fG (ug (eO Jl (d8 5) (d8 2)) (fG (lA (gT [(gN 7),(gN 8),(gN 9)]) (eO fV (d8 0) (d8 3)))
 (fG (iQ (oU (eO uG (d8 6) (eC .none)) (eO pB (d8 9) (eC .none))) (gH 6 (eO iH (eO lN (d8 5) (d8 1)) (d8 9))) fU)
 (fG (iQ (eO kZ (d8 7) (d8 3)) (gA (jw [(d8 3),(eO iH (d8 4) (eO lN (d8 8) (eO nj (d8 2) (d8 5)))),(d8 6)])) fU)
 (fG (gH 4 (eO iH (d8 4) (d8 8)))
 (fG (gH 5 (eO iH (d8 5) (eC (.int 1))))
 (gH 3 (d8 7))))))))
 (gA (jw [(d8 3),(d8 4),(d8 6)]))))))
def CT:List D→ER:=jh [.dat, .dat, .dat, .dat] 6 QC
def aht:SM:=(fG (gH 3 (mG (fu wU [(d8 0)])))
 (fG (jG 4 (eC (.dict [])))
 (fG (mV (iL (mG (fu pA [(d8 0),(d8 1)]))) (gN 5) (fG (gH 6 (eO fV (d8 0) (d8 5)))
 (iQ (eO kZ (eO fV (d8 6) (eC (.int 0))) (eC (.str "sign"))) (oE 4 (d8 5) (mG (fu HJ [(d8 2),(eO fV (d8 6) (eC (.int 1)))]))) (iQ (eO kZ (eO fV (d8 6) (eC (.int 0))) (eC (.str "join"))) (oE 4 (d8 5) (mG (fu Hl [(eO jE (gK 4) (eO fV (d8 6) (eC (.int 1)))),(eO jE (gK 4) (eO fV (d8 6) (eC (.int 2)))),(eO fV (d8 3) (eO fV (d8 6) (eC (.int 1))))]))) (fG (gH 7 (eO jE (gK 4) (eO fV (d8 6) (eC (.int 1)))))
 (fG (gH 8 (eO fV (d8 3) (eO fV (d8 6) (eC (.int 1)))))
 (oE 4 (d8 5) (mG (X3 (Vh (eO iH (fu je [(d8 2)]) (eC (.int 1)))) (gN 9) (eC (.bool true)) (fu CT [(d8 7),(d8 8),(eO fV (d8 6) (eC (.int 2))),(d8 9)]) [9])))))))))
 (gA (eO fV (eO jE (gK 4) (d8 1)) (eC (.int 0)))))))
def Ru:List D→ER:=jh [.dat, .dat, .dat] 7 aht
def ai5:SM:=(fG (gH 4 (fu lQ [(d8 0),(d8 1)]))
 (fG (iQ (mF (fu Az [(d8 2)])) (sX "NoPattern") fU)
 (fG (iQ (mF (ji M6 M6 (eC (.int 0)) (d8 3) (d8 4))) (sX "NoPlace") fU)
 (fG (lA (gT [(gN 0),(gN 1)]) (fu vq [(d8 0),(d8 1),(d8 3),(d8 4)]))
 (fG (iQ (eO uG (d8 1) (eC .none)) (gA (eC .none)) fU)
 (fG (gH 5 (eO fV (fu Ru [(d8 0),(d8 1),(d8 2)]) (eC (.int 2))))
 (fG (iQ (eO uG (d8 5) (eC .none)) (gA (eC .none)) fU)
 (gA (eO nj (eO iH (d8 3) (d8 5)) (fu je [(d8 2)]))))))))))
def ac6:List D→ER:=jh [.dat, .dat, .dat, .dat] 2 ai5
def Qs:SM:=(fG (qI (fu qY [(d8 0),(d8 1)]))
 (fG (iQ (eO uG (d8 1) (eC .none)) (gA (eC (.int 0))) fU)
 (fG (jG 3 (lC []))
 (fG (mV (iT (PB (d8 0) none (some (eO iH (d8 1) (eC (.int 1)))))) (gN 4) (iQ (eO kZ (eO fV (d8 4) (eC (.int 0))) (eC (.str "sign"))) (mW 3 (fu TY [(eO kZ (eO fV (d8 4) (eC (.int 1))) (d8 2))])) (iQ (eO kZ (eO fV (d8 4) (eC (.int 0))) (eC (.str "join"))) (mW 3 (eO iH (eO fV (gK 3) (eO fV (d8 4) (eC (.int 1)))) (eO fV (gK 3) (eO fV (d8 4) (eC (.int 2)))))) (mW 3 (eO lN (eO fV (gK 3) (eO fV (d8 4) (eC (.int 1)))) (eO fV (d8 4) (eC (.int 2))))))))
 (gA (eO fV (gK 3) (d8 1)))))))
def Bs:List D→ER:=jh [.dat, .dat, .dat] 2 Qs
def afY:SM:=(fG (qI (fu qY [(d8 0),(d8 1)]))
 (fG (iQ (mF (fu Az [(d8 2)])) (sX "NoPattern") fU)
 (fG (iQ (eO uG (d8 1) (eC .none)) (gA (eC (.int 0))) fU)
 (gA (eO fV (fu Ru [(d8 0),(d8 1),(d8 2)]) (eC (.int 1)))))))
def aaf:List D→ER:=jh [.dat, .dat, .dat] 0 afY
def Ax:SM:=(fG (iQ (eO kZ (d8 0) (eC (.str "count"))) (gA (fu vK [(fu Bs [(d8 1),(d8 2),(d8 3)])])) fU)
 (fG (iQ (eO kZ (d8 0) (eC (.str "sign"))) (gA (fu wI [(d8 1),(d8 2),(d8 3)])) fU)
 (fG (iQ (eO kZ (d8 0) (eC (.str "stands"))) (gA (fu vK [(fu aaf [(d8 1),(d8 2),(d8 3)])])) fU)
 (gA (fu yQ [(fu ac6 ([(d8 1),(d8 2),(d8 3)]++[eC (.int 0)]))])))))
def mj:List D→ER:=jh [.dat, .dat, .dat, .dat] 0 Ax
def GJ:SM:=(fG (iQ (eO kZ (eO fV (d8 0) (eC (.int 0))) (eC (.str "sign"))) (gA (d8 0)) fU)
 (fG (iQ (eO kZ (eO fV (d8 0) (eC (.int 0))) (eC (.str "join"))) (gA (jw [(eC (.str "join")),(eO Mw (gK 1) (eO fV (d8 0) (eC (.int 1)))),(eO Mw (gK 1) (eO fV (d8 0) (eC (.int 2))))])) fU)
 (gA (jw [(eC (.str "times")),(eO Mw (gK 1) (eO fV (d8 0) (eC (.int 1)))),(eO fV (d8 0) (eC (.int 2)))]))))
def nR:List D→ER:=jh [.dat, .bor] 0 GJ
def Mh:SM:=(fG (qI (fu qY [(d8 1),(d8 2)]))
 (fG (gH 3 (fu je [(d8 0)]))
 (fG (gH 4 (X3 (Vh (fu je [(d8 1)])) (gN 7) (eC (.bool true)) (eO iH (d8 3) (d8 7)) [7]))
 (fG (jG 5 (fu qZ [(d8 0)]))
 (fG (mV (iT (d8 1)) (gN 6) (mW 5 (fu nR [(d8 6),(d8 4)])))
 (fG (iQ (eO uG (d8 2) (eC .none)) (gA (jw [(fu lW [(gK 5)]),(eC .none)])) fU)
 (gA (jw [(fu lW [(gK 5)]),(eO iH (d8 3) (d8 2))]))))))))
def Aa:List D→ER:=jh [.dat, .dat, .dat] 5 Mh
def wZ:SM:=(fG (lA (gT [(gN 2),(gN 3)]) (fu Aa [(eO fV (d8 0) (eC (.int 0))),(eO fV (d8 1) (eC (.int 0))),(eO fV (d8 1) (eC (.int 1)))]))
 (gA (jw [(d8 2),(eO fV (d8 0) (eC (.int 1))),(d8 3)])))
def qJ:List D→ER:=jh [.dat, .dat] 2 wZ
def afR:SM:=aeH
def Ul:List D→ER:=jh [.dat, .dat, .dat] 4 afR
def ah8:SM:=(fG (gH 3 (fu Ul [(d8 0),(d8 1),(d8 2)]))
 (fG (iQ (eO uG (d8 3) (eC .none)) (gA (eC (.int 0))) fU)
 (fG (iQ (eO kZ (d8 3) (fu lQ [(d8 0),(d8 1)])) (gA (G7 Pk (eC (.int 1)))) fU)
 (fG (iQ (eO kZ (d8 3) (fu lQ [(d8 0),(d8 2)])) (gA (eC (.int 1))) fU)
 (fG (iQ (eO Jl (fu wI [(d8 0),(d8 1),(d8 3)]) (fu wI [(d8 0),(d8 2),(d8 3)])) (gA (G7 Pk (eC (.int 1)))) fU)
 (gA (eC (.int 1))))))))
def ad3:List D→ER:=jh [.dat, .dat, .dat] 1 ah8
def aiB:SM:=aeH
def aea:List D→ER:=jh [.dat, .dat, .dat] 3 aiB
def aa8:SM:=(fG (lA (gT [(gN 3),(gN 4),(gN 5)]) (fu qJ [(d8 1),(d8 2)]))
 (fG (iQ (eO kZ (d8 0) (eC (.str "parts"))) (gA (fu yQ [(fu Ul [(d8 3),(d8 4),(d8 5)])])) fU)
 (fG (iQ (eO kZ (d8 0) (eC (.str "ring"))) (gA (fu yQ [(fu aea [(d8 3),(d8 4),(d8 5)])])) fU)
 (fG (gH 6 (fu ad3 [(d8 3),(d8 4),(d8 5)]))
 (fG (iQ (eO Jl (d8 6) (eC (.int 0))) (gA (eC (.str "less"))) fU)
 (fG (iQ (eO Zd (d8 6) (eC (.int 0))) (gA (eC (.str "more"))) fU)
 (gA (eC (.str "same")))))))))
def Od:List D→ER:=jh [.dat, .dat, .dat] 4 aa8
def ajd:SM:=aeH
def adN:List D→ER:=jh [.dat, .dat] 1 ajd
def acQ:SM:=(fG (iQ (eO Zd (fu lQ [(d8 0),(d8 1)]) (eC (.int 2000))) (sX "TooLong") fU)
 (fG (iQ (eO uG (d8 1) (eC .none)) (gA (eC (.str ""))) fU)
 (fG (jG 2 (eC (.dict [])))
 (fG (mV (iL (mG (fu pA [(d8 0),(d8 1)]))) (gN 3) (fG (gH 4 (eO fV (d8 0) (d8 3)))
 (iQ (eO kZ (eO fV (d8 4) (eC (.int 0))) (eC (.str "sign"))) (oE 2 (d8 3) (eO fV (d8 4) (eC (.int 1)))) (iQ (eO kZ (eO fV (d8 4) (eC (.int 0))) (eC (.str "join"))) (oE 2 (d8 3) (eO iH (eO jE (gK 2) (eO fV (d8 4) (eC (.int 1)))) (eO jE (gK 2) (eO fV (d8 4) (eC (.int 2)))))) (oE 2 (d8 3) (eO lN (eO jE (gK 2) (eO fV (d8 4) (eC (.int 1)))) (eO fV (d8 4) (eC (.int 2)))))))))
 (gA (eO jE (gK 2) (d8 1)))))))
def Ri:List D→ER:=jh [.dat, .dat] 3 acQ
def ake:SM:=aeH
def ahD:List D→ER:=jh [.dat, .dat] 0 ake
def OD:SM:=(fG (iQ (eO kZ (d8 0) (eC (.str "length"))) (gA (fu vK [(fu lQ [(d8 1),(d8 2)])])) fU)
 (fG (iQ (eO kZ (d8 0) (eC (.str "show"))) (gA (fu Ri [(d8 1),(d8 2)])) fU)
 (fG (iQ (eO kZ (d8 0) (eC (.str "form"))) (gA (fu vK [(fu je [(fu ahD [(d8 1),(d8 2)])])])) fU)
 (fG (lA (gT [(gN 3),(gN 4)]) (fu adN [(d8 1),(d8 2)]))
 aeH))))
def qN:List D→ER:=jh [.dat, .dat, .dat] 2 OD
def jW:SM:=(fG (iQ (eO kZ (d8 1) (eC (.str "words"))) (fG (iQ (eO kZ (fu aaE [(za gM 0 0)]) (eC (.int 0))) (rC (eC (.str "none"))) fU)
 (rC (Ih Gf (eC (.str " ")) (G7 qu (za gM 0 0))))) fU)
 (fG (lA (gT [(gN 3),(gN 4)]) (eO jE (za gM 0 0) (eO fV (d8 2) (eC (.int 0)))))
 (fG (iQ (eO (Vc false) (d8 1) (jw [(eC (.str "parts")),(eC (.str "order")),(eC (.str "ring"))])) (rC (fu Od [(d8 1),(jw [(d8 3),(d8 4)]),(eO jE (za gM 0 0) (eO fV (d8 2) (eC (.int 1))))])) fU)
 (fG (iQ (eO kZ (fu je [(d8 2)]) (eC (.int 1))) (rC (fu qN [(d8 1),(d8 3),(d8 4)])) fU)
 (rC (fu mj [(d8 1),(d8 3),(d8 4),(eO fV (d8 2) (eC (.int 1)))]))))))
def pY:List Sl→RO:=Iv [false,false,false] 2 jW
def aco:SM:=(fG (qI (fu qY [(d8 0),(d8 1)]))
 (fG (jG 2 (lC []))
 (fG (jG 3 (eC (tD [])))
 (fG (jG 4 (eC (.dict [])))
 (fG (mV (iL (mG (fu pA [(d8 0),(d8 1)]))) (gN 5) (fG (gH 6 (fu nR [(eO fV (d8 0) (d8 5)),(gK 4)]))
 (fG (iQ (eO (aax true) (d8 6) (gK 3)) (Q6 3 (d8 6) (jP 2 j6 [(d8 6)])) fU)
 (oE 4 (d8 5) (eO FT (gK 3) (d8 6))))))
 (gA (jw [(fu lW [(gK 2)]),(uL (gK 4) (d8 1))])))))))
def Mj:List D→ER:=jh [.dat, .dat] 5 aco
def rZ:SM:=(fG (gH 1 (jw []))
 (fG (jG 2 (lC []))
 (fG (mV (iS (d8 0)) (gN 3) (fG (mW 2 (fu je [(d8 1)]))
 (gH 1 (eO iH (d8 1) (jw [(jw [(eC (.str "sign")),(d8 3)])])))))
 (fG (ug (eO Zd (fu je [(gK 2)]) (eC (.int 1))) (fG (jG 4 (lC []))
 (fG (mV (iRc 2 (eC (.int 0)) (eO nj (fu je [(gK 2)]) (eC (.int 1))) (eC (.int 2))) (gN 5) (fG (mW 4 (fu je [(d8 1)]))
 (gH 1 (eO iH (d8 1) (jw [(jw [(eC (.str "join")),(eO fV (gK 2) (d8 5)),(eO fV (gK 2) (eO iH (d8 5) (eC (.int 1))))])])))))
 (fG (iQ (eO kZ (eO jJ (fu je [(gK 2)]) (eC (.int 2))) (eC (.int 1))) (mW 4 (eO fV (gK 2) (G7 Pk (eC (.int 1))))) fU)
 (agj 2 4)))))
 (gA (jw [(d8 1),(eO fV (gK 2) (eC (.int 0)))]))))))
def pQ:List D→ER:=jh [.dat] 5 rZ
def Tw:SM:=(fG (iQ (eO Zd (eO iH (fu lQ [(d8 0),(d8 1)]) (fu lQ [(d8 0),(d8 2)])) (eC (.int 1152921504606846976))) (sX "TooLong") fU)
 (fG (jG 3 (fu qZ [(d8 0)]))
 (fG (oO 4 (jP 3 jY [(d8 1),(d8 2)]))
 (gA (jw [(fu lW [(gK 3)]),(d8 4)])))))
def wX:List D→ER:=jh [.dat, .dat, .dat] 2 Tw
def Rv:SM:=(fG (lA (gT [(gN 3),(gN 4),(gN 5)]) (fu qJ [(d8 0),(d8 2)]))
 (fG (gH 6 (fu lQ [(d8 3),(d8 4)]))
 (fG (lA (gT [(gN 3),(gN 7)]) (fu vq [(d8 3),(d8 4),(eC (.int 0)),(d8 1)]))
 (fG (lA (gT [(gN 3),(gN 8)]) (fu vq [(d8 3),(d8 4),(d8 1),(d8 6)]))
 (fG (lA (gT [(gN 3),(gN 9)]) (fu wX [(d8 3),(d8 7),(d8 5)]))
 (gA (fu wX [(d8 3),(d8 9),(d8 8)])))))))
def Tn:List D→ER:=jh [.dat, .dat, .dat] 7 Rv
def FQ:SM:=(fG (iQ (eO kZ (d8 0) (eC (.str "insert"))) (gA (fu Tn [(d8 1),(eO fV (d8 2) (eC (.int 1))),(eO jE (gK 3) (eO fV (d8 2) (eC (.int 2))))])) fU)
 (fG (lA (gT [(gN 4),(gN 5),(gN 6)]) (fu qJ [(d8 1),(eO jE (gK 3) (eO fV (d8 2) (eC (.int 1))))]))
 (gA (fu wX [(d8 4),(d8 5),(d8 6)]))))
def Kf:List D→ER:=jh [.dat, .dat, .dat, .bor] 3 FQ
def ZR:SM:=(fG (qI (fu vq [(eO fV (d8 0) (eC (.int 0))),(eO fV (d8 0) (eC (.int 1))),(d8 1),(d8 2)]))
 (fG (gH 3 (fu lQ [(eO fV (d8 0) (eC (.int 0))),(eO fV (d8 0) (eC (.int 1)))]))
 (fG (lA (gT [(gN 4),(gN 5)]) (fu vq [(eO fV (d8 0) (eC (.int 0))),(eO fV (d8 0) (eC (.int 1))),(eC (.int 0)),(d8 1)]))
 (fG (lA (gT [(gN 4),(gN 6)]) (fu vq [(d8 4),(eO fV (d8 0) (eC (.int 1))),(d8 2),(d8 3)]))
 (gA (fu wX [(d8 4),(d8 5),(d8 6)]))))))
def N5:List D→ER:=jh [.dat, .dat, .dat] 4 ZR
def Ir:SM:=(fG (iQ (eO Zd (eO lN (fu lQ [(d8 0),(d8 1)]) (d8 2)) (eC (.int 1152921504606846976))) (sX "TooLong") fU)
 (fG (jG 3 (fu qZ [(d8 0)]))
 (fG (oO 4 (jP 3 vJ [(d8 1),(d8 2)]))
 (gA (jw [(fu lW [(gK 3)]),(d8 4)])))))
def Jb:List D→ER:=jh [.dat, .dat, .dat] 2 Ir
def Uj:SM:=(fG (qI (fu qY [(d8 0),(d8 1)]))
 (fG (jG 2 (fu qZ [(d8 0)]))
 (fG (jG 3 (eC (.dict [])))
 (fG (mV (iL (mG (fu pA [(d8 0),(d8 1)]))) (gN 4) (fG (gH 5 (fu nR [(eO fV (d8 0) (d8 4)),(gK 3)]))
 (fG (iQ (eO kZ (eO fV (d8 5) (eC (.int 0))) (eC (.str "join"))) (gH 5 (jw [(eC (.str "join")),(eO fV (d8 5) (eC (.int 2))),(eO fV (d8 5) (eC (.int 1)))])) fU)
 (fG (oE 3 (d8 4) (d8 4))
 (iQ (eO xX (d8 5) (eO fV (d8 0) (d8 4))) (Uq 3 (d8 4) (jP 2 j6 [(d8 5)])) fU)))))
 (gA (jw [(fu lW [(gK 2)]),(uL (gK 3) (d8 1))]))))))
def Le:List D→ER:=jh [.dat, .dat] 4 Uj
def Zf:SM:=(fG (qI (fu qY [(d8 0),(d8 1)]))
 (fG (jG 4 (fu qZ [(d8 0)]))
 (fG (jG 5 (eC (.dict [])))
 (fG (mV (iL (mG (fu pA [(d8 0),(d8 1)]))) (gN 6) (fG (gH 7 (fu nR [(eO fV (d8 0) (d8 6)),(gK 5)]))
 (fG (iQ (eO kZ (d8 7) (jw [(eC (.str "sign")),(d8 2)])) (gH 7 (jw [(eC (.str "sign")),(d8 3)])) fU)
 (fG (oE 5 (d8 6) (d8 6))
 (iQ (eO xX (d8 7) (eO fV (d8 0) (d8 6))) (Uq 5 (d8 6) (jP 4 j6 [(d8 7)])) fU)))))
 (gA (jw [(fu lW [(gK 4)]),(uL (gK 5) (d8 1))]))))))
def Oc:List D→ER:=jh [.dat, .dat, .dat, .dat] 4 Zf
def Em:SM:=(fG (iQ (eO kZ (d8 0) (eC (.str "times"))) (gA (fu Jb [(eO fV (d8 1) (eC (.int 0))),(eO fV (d8 1) (eC (.int 1))),(eO fV (d8 2) (eC (.int 1)))])) fU)
 (fG (iQ (eO kZ (d8 0) (eC (.str "turn"))) (gA (fu Le [(eO fV (d8 1) (eC (.int 0))),(eO fV (d8 1) (eC (.int 1)))])) fU)
 (fG (iQ (eO kZ (d8 0) (eC (.str "put"))) (gA (fu Oc [(eO fV (d8 1) (eC (.int 0))),(eO fV (d8 1) (eC (.int 1))),(eO fV (d8 2) (eC (.int 1))),(eO fV (d8 2) (eC (.int 2)))])) fU)
 (fG (iQ (eO kZ (d8 0) (eC (.str "cut"))) (gA (fu vq [(eO fV (d8 1) (eC (.int 0))),(eO fV (d8 1) (eC (.int 1))),(eO fV (d8 2) (eC (.int 1))),(eO fV (d8 2) (eC (.int 2)))])) fU)
 (gA (fu N5 [(d8 1),(eO fV (d8 2) (eC (.int 1))),(eO fV (d8 2) (eC (.int 2)))]))))))
def Ln:List D→ER:=jh [.dat, .dat, .dat] 0 Em
def Dg:SM:=(fG (lA (gT [(gN 2),(gN 3),(gN 4)]) (d8 1))
 (fG (qI (fu j8 [(gK 0),(fu sV [(d8 2)]),(d8 4)]))
 (fG (iQ (eO kZ (d8 2) (eC (.str "is"))) (lA (gT [(gN 5),(gN 6)]) (fu pQ [(eO fV (d8 4) (eC (.int 0)))])) (iQ (wM (eO kZ (d8 2) (eC (.str "join"))) (eO kZ (d8 2) (eC (.str "insert")))) (lA (gT [(gN 5),(gN 6)]) (fu Kf [(d8 2),(eO jE (gK 0) (eO fV (d8 4) (eC (.int 0)))),(d8 4),(gK 0)])) (lA (gT [(gN 5),(gN 6)]) (fu Ln [(d8 2),(eO jE (gK 0) (eO fV (d8 4) (eC (.int 0)))),(d8 4)]))))
 (gA (fu Mj [(d8 5),(d8 6)])))))
def nQ:List D→ER:=jh [.bor, .dat] 5 Dg
def Px:SM:=(fG (gH 3 (eO jE (za gM 0 0) (d8 1)))
 (fG (Q8 gM 0 0 (d8 1) (xE (eO jE (za gM 0 0) (d8 2))))
 (fG (Q8 gM 0 0 (d8 2) (xE (d8 3)))
 (rC (eC (.str "ok"))))))
def vH:List Sl→RO:=Iv [true,false,false] 1 Px
def pJ:SM:=(fG (gH 2 (fu mO [(d8 1)]))
 (fG (iQ (eO pB (d8 2) (eC .none)) (fG (Q8 gM 0 0 (eO fV (d8 2) (eC (.int 1))) (xE (fu nQ [(za gM 0 0),(d8 2)])))
 (rC (eC (.str "ok")))) fU)
 (fG (gH 3 (fu yP [(d8 1)]))
 (fG (iQ (eO uG (d8 3) (eC .none)) (sX "NoRow") fU)
 (fG (lA (gT [(gN 4),(gN 5)]) (d8 3))
 (fG (qI (fu j8 [(za gM 0 0),(fu iU [(d8 4)]),(d8 5)]))
 (fG (iQ (eO kZ (d8 4) (eC (.str "drop"))) (fG (af5 gM 0 0 (eO fV (d8 5) (eC (.int 0))))
 (rC (eC (.str "ok")))) fU)
 (fG (iQ (eO kZ (d8 4) (eC (.str "swap"))) (Ms (vO gM 0 vH [.d (eO fV (d8 5) (eC (.int 0))), .d (eO fV (d8 5) (eC (.int 1)))])) fU)
 (rC (Rk gM 0 pY [.d (d8 4), .d (d8 5)]))))))))))
def jN:List Sl→RO:=Iv [true,false] 4 pJ
def tG:SM:=(fG (gH 3 (eO fV (d8 1) (eO fV (d8 0) (eC (.int 1)))))
 (fG (iQ (eO kZ (eO fV (d8 0) (eC (.int 0))) (eC (.str "insert"))) (gH 3 (eO fV (d8 0) (eC (.int 3)))) fU)
 (fG (iQ (eO Jl (d8 2) (d8 3)) (gA (jw [(eO fV (d8 0) (eC (.int 1))),(d8 2)])) fU)
 (fG (iQ (eO Jl (d8 2) (eO iH (d8 3) (eO fV (d8 1) (eO fV (d8 0) (eC (.int 2)))))) (gA (jw [(eO fV (d8 0) (eC (.int 2))),(eO nj (d8 2) (d8 3))])) fU)
 (gA (jw [(eO fV (d8 0) (eC (.int 1))),(eO nj (d8 2) (eO fV (d8 1) (eO fV (d8 0) (eC (.int 2)))))]))))))
def nM:List D→ER:=jh [.dat, .dat, .dat] 1 tG
def xG:SM:=(fG (ug (eO xX (eO fV (eO fV (d8 0) (d8 2)) (eC (.int 0))) (eC (.str "signs"))) (fG (gH 4 (eO fV (d8 0) (d8 2)))
 (iQ (eO kZ (eO fV (d8 4) (eC (.int 0))) (eC (.str "turn"))) (fG (gH 3 (eO nj (eO nj (eO fV (d8 1) (d8 2)) (eC (.int 1))) (d8 3)))
 (gH 2 (eO fV (d8 4) (eC (.int 1))))) (lA (gT [(gN 2),(gN 3)]) (fu nM [(d8 4),(d8 1),(d8 3)])))))
 (gA (eO fV (eO fV (eO fV (d8 0) (d8 2)) (eC (.int 1))) (d8 3))))
def o8:List D→ER:=jh [.dat, .dat, .dat, .dat] 1 xG
def t7:SM:=(fG (lA (gT [(gN 3),(gN 4),(gN 5),(gN 6)]) (d8 0))
 (fG (agU 7 "Book" Ce [])
 (fG (gH 8 (mG (eO J9 (lC [(eC (.str "x join x x"))]) (eO jJ (eO fV (d8 1) (eC (.int 3))) (eC (.int 12))))))
 (fG (mV (iL (eO iH (d8 3) (d8 8))) (gN 9) (G8 (Bt xX (vO gM 7 jN [.d (d8 9)]) (xE (eC (.str "ok")))) (gA (eC (.bool false))) fU))
 (fG (gH 10 (mG (fu zp [(d8 4),(d8 2)])))
 (fG (ajr 6 (Wn (.v 6) (gN 11) (fG (gH 12 (eO jE (gK 6) (d8 11)))
 (fG (gH 13 (eO fV (lC [(eC (.int 1)),(eO Vu (eC (.int 1)) (fu je [(d8 8)]))]) (fu TY [(eO kZ (d8 11) (eC (.str "x")))])))
 (fG (gH 14 (fu nJ [(eO fV (d8 1) (eC (.int 2))),(eO fV (d8 5) (d8 12))]))
 (fG (G8 (Bt xX (vO gM 7 jN [.d (eO iH (eC (.str "length ")) (d8 11))]) (xE (fu vK [(eO lN (eO fV (d8 5) (d8 12)) (d8 13))]))) (gA (eC (.bool false))) fU)
 (fG (G8 (Bt xX (vO gM 7 jN [.d (eO iH (eO iH (eO iH (eC (.str "sign ")) (d8 11)) (eC (.str " "))) (fu vK [(d8 14)]))]) (xE (fu o8 [(d8 4),(d8 5),(d8 12),(d8 14)]))) (gA (eC (.bool false))) fU)
 (G8 (Bt xX (vO gM 7 jN [.d (eO iH (eO iH (eO iH (eC (.str "count ")) (d8 11)) (eC (.str " "))) (d8 2))]) (xE (fu vK [(eO lN (eO fV (d8 10) (d8 12)) (d8 13))]))) (gA (eC (.bool false))) fU))))))))
 (gA (eC (.bool true)))))))))
def tX:List D→ER:=jh [.dat, .dat, .dat] 12 t7
def xH:SM:=(fG (jG 1 (lC []))
 (fG (mV (iT (d8 0)) (gN 2) (fG (gH 3 (eC (.int 1)))
 (fG (iQ (eO kZ (eO fV (d8 2) (eC (.int 0))) (eC (.str "join"))) (gH 3 (eO iH (eO fV (gK 1) (eO fV (d8 2) (eC (.int 1)))) (eO fV (gK 1) (eO fV (d8 2) (eC (.int 2)))))) (iQ (eO kZ (eO fV (d8 2) (eC (.int 0))) (eC (.str "times"))) (gH 3 (eO lN (eO fV (gK 1) (eO fV (d8 2) (eC (.int 1)))) (eO fV (d8 2) (eC (.int 2))))) fU))
 (mW 1 (d8 3)))))
 (xO 1)))
def uF:List D→ER:=jh [.dat] 3 xH
def K9:SM:=(gA (oU (CJ "int" (d8 0)) (mF (CJ "bool" (d8 0)))))
def pK:List D→ER:=jh [.dat] 0 K9
def qT:SM:=(fG (iQ (wM (mF (CJ "tuple" (d8 0))) (wM (eO Jl (fu je [(d8 0)]) (eC (.int 2))) (mF (CJ "str" (eO fV (d8 0) (eC (.int 0))))))) (gA (eC (.bool false))) fU)
 (fG (iQ (oU (eO kZ (eO fV (d8 0) (eC (.int 0))) (eC (.str "sign"))) (eO kZ (fu je [(d8 0)]) (eC (.int 2)))) (gA (oU (CJ "str" (eO fV (d8 0) (eC (.int 1)))) (oU (eO kZ (fu je [(eO fV (d8 0) (eC (.int 1)))]) (eC (.int 1))) (wM (eS0 (fun z=> .bool (Txt.isalpha z)) (eO fV (d8 0) (eC (.int 1)))) (eS0 (fun z=> .bool (Txt.isdigit z)) (eO fV (d8 0) (eC (.int 1)))))))) fU)
 (fG (iQ (wM (eO xX (fu je [(d8 0)]) (eC (.int 3))) (wM (mF (fu pK [(eO fV (d8 0) (eC (.int 1)))])) (wM (mF (ji M6 Jl (eC (.int 0)) (eO fV (d8 0) (eC (.int 1))) (d8 1))) (mF (fu pK [(eO fV (d8 0) (eC (.int 2)))]))))) (gA (eC (.bool false))) fU)
 (fG (iQ (eO kZ (eO fV (d8 0) (eC (.int 0))) (eC (.str "join"))) (gA (ji M6 Jl (eC (.int 0)) (eO fV (d8 0) (eC (.int 2))) (d8 1))) fU)
 (gA (oU (eO kZ (eO fV (d8 0) (eC (.int 0))) (eC (.str "times"))) (ji M6 M6 (eC (.int 1)) (eO fV (d8 0) (eC (.int 2))) (eO vW (eC (.int 2)) (eC (.int 60))))))))))
def lY:List D→ER:=jh [.dat, .dat] 0 qT
def FZ:SM:=(fG (iQ (wM (mF (CJ "tuple" (d8 0))) (wM (eO xX (fu je [(d8 0)]) (eC (.int 2))) (mF (CJ "tuple" (eO fV (d8 0) (eC (.int 0))))))) (gA (eC (.bool false))) fU)
 (fG (iQ (wM (mF (CJ "list" (eO fV (d8 0) (eC (.int 1))))) (eO xX (fu je [(eO fV (d8 0) (eC (.int 1)))]) (fu je [(d8 1)]))) (gA (eC (.bool false))) fU)
 (fG (mV (Vh (fu je [(eO fV (d8 0) (eC (.int 0)))])) (gN 2) (iQ (mF (fu lY [(eO fV (eO fV (d8 0) (eC (.int 0))) (d8 2)),(d8 2)])) (gA (eC (.bool false))) fU))
 (fG (mV (iZ (eO fV (d8 0) (eC (.int 1))) (d8 1)) (gT [(gN 3),(gN 4)]) (fG (iQ (wM (mF (CJ "tuple" (d8 3))) (wM (eO xX (fu je [(d8 3)]) (eC (.int 2))) (wM (mF (CJ "str" (eO fV (d8 3) (eC (.int 0))))) (eO xX (eO fV (d8 3) (eC (.int 0))) (d8 4))))) (gA (eC (.bool false))) fU)
 (iQ (oU (eO pB (eO fV (d8 3) (eC (.int 1))) (eC .none)) (wM (mF (fu pK [(eO fV (d8 3) (eC (.int 1)))])) (mF (ji M6 Jl (eC (.int 0)) (eO fV (d8 3) (eC (.int 1))) (fu je [(eO fV (d8 0) (eC (.int 0)))]))))) (gA (eC (.bool false))) fU)))
 (gA (wM (eO kZ (fu je [(eO fV (d8 0) (eC (.int 0)))]) (eC (.int 0))) (eO M6 (fu Vf [(fu uF [(eO fV (d8 0) (eC (.int 0)))])]) (eO vW (eC (.int 2)) (eC (.int 60))))))))))
def Ei:List D→ER:=jh [.dat, .dat] 3 FZ
def zm:SM:=(fG (iQ (eO uG (d8 1) (eC .none)) (gA (eC (.int 0))) fU)
 (gA (eO fV (d8 0) (d8 1))))
def pZ:List D→ER:=jh [.dat, .dat] 0 zm
def xK:SM:=(fG (ug (eO xX (eO fV (eO fV (d8 0) (d8 2)) (eC (.int 0))) (eC (.str "sign"))) (fG (gH 4 (eO fV (eO fV (d8 0) (d8 2)) (eC (.int 1))))
 (iQ (eO kZ (eO fV (eO fV (d8 0) (d8 2)) (eC (.int 0))) (eC (.str "times"))) (fG (gH 3 (eO jJ (d8 3) (eO fV (d8 1) (d8 4))))
 (gH 2 (d8 4))) (iQ (eO Jl (d8 3) (eO fV (d8 1) (d8 4))) (gH 2 (d8 4)) (fG (gH 3 (eO nj (d8 3) (eO fV (d8 1) (d8 4))))
 (gH 2 (eO fV (eO fV (d8 0) (d8 2)) (eC (.int 2)))))))))
 (gA (eO fV (eO fV (d8 0) (d8 2)) (eC (.int 1)))))
def qK:List D→ER:=jh [.dat, .dat, .dat, .dat] 1 xK
def vL:SM:=(fG (lA (gT [(gN 3),(gN 4),(gN 5),(gN 6)]) (d8 1))
 (fG (iQ (mF (fu Ei [(d8 0),(mG (G7 qu (d8 6)))])) (gA (eC (.bool false))) fU)
 (fG (gH 7 (mG (fu uF [(eO fV (d8 0) (eC (.int 0)))])))
 (fG (mV (iL (eO fV (d8 0) (eC (.int 1)))) (gT [(gN 8),(gN 9)]) (fG (gH 10 (eO jE (d8 6) (d8 8)))
 (fG (gH 11 (fu nJ [(d8 2),(eO fV (d8 5) (d8 10))]))
 (fG (iQ (eO xX (fu pZ [(d8 7),(d8 9)]) (eO fV (d8 5) (d8 10))) (gA (eC (.bool false))) fU)
 (iQ (eO xX (fu qK [(eO fV (d8 0) (eC (.int 0))),(d8 7),(d8 9),(d8 11)]) (fu o8 [(d8 4),(d8 5),(d8 10),(d8 11)])) (gA (eC (.bool false))) fU)))))
 (gA (eC (.bool true)))))))
def vD:List D→ER:=jh [.dat, .dat, .dat] 9 vL
def Bx:SM:=(fG (jG 1 (eC (.dict [])))
 (fG (iQ (eO kZ (d8 0) (eC (.str ""))) (xO 1) fU)
 (fG (mV (iL (mG (Ih rD (d8 0) (eC (.str "; "))))) (gN 2) (fG (gH 3 (fu mO [(d8 2)]))
 (fG (iQ (eO uG (d8 3) (eC .none)) (sX "NoText") fU)
 (oE 1 (eO fV (d8 3) (eC (.int 1))) (fu nQ [(gK 1),(d8 3)])))))
 (xO 1))))
def Bh:List D→ER:=jh [.dat] 3 Bx
def XF:SM:=(fG (jG 1 (fu Bh [(d8 0)]))
 (fG (gH 2 (jw []))
 (fG (jG 3 (lC []))
 (fG (mV (iL (mG (G7 qu (gK 1)))) (gN 4) (fG (lA (gT [(gN 5),(gN 6)]) (eO jE (gK 1) (d8 4)))
 (fG (lA (gT [(gN 2),(gN 6)]) (fu Aa [(d8 2),(d8 5),(d8 6)]))
 (mW 3 (jw [(d8 4),(d8 6)])))))
 (RN 3 (gA (jw [(d8 2),(d8 3)])))))))
def Sw:List D→ER:=jh [.dat] 6 XF
def afH:SM:=(fG (gH 1 (mG (fu vY [(d8 0),(eC (.int 4)),(eC (.int 42))])))
 (fG (gH 2 (fu CZ [(d8 1)]))
 (fG (gH 3 (fu nU [(eO fV (d8 1) (eC (.int 1)))]))
 (fG (iQ (eO kZ (eO jJ (eO fV (d8 1) (eC (.int 1))) (eC (.int 2))) (eC (.int 0))) (gH 3 (eO fV (eO fV (eO fV (eO fV (d8 2) (eC (.int 1))) (eC (.int 0))) (eC (.int 1))) (eO jJ (eO lX (eO fV (d8 1) (eC (.int 1))) (eC (.int 2))) (fu je [(eO fV (eO fV (eO fV (d8 2) (eC (.int 1))) (eC (.int 0))) (eC (.int 1)))])))) fU)
 (fG (iQ (mF (fu vD [(fu Sw [(Ih Gf (eC (.str "; ")) (eO fV (d8 2) (eC (.int 0))))]),(d8 2),(eO fV (d8 1) (eC (.int 2)))])) (gA (eC (.bool false))) fU)
 (gA (fu tX [(d8 2),(d8 1),(d8 3)])))))))
def aa1:List D→ER:=jh [.dat] 3 afH
end Sb
namespace Sb
open PySem PySem.Spec L2 Evl DL
def top(i:Nat):Stmt:=PySem.Challenge.pw_shortbook_k66_whole_texts_doubled.main.body.getD i (.Pass ⟨0,0,0,0⟩)
abbrev v9:Stmt:=top 112
def Ky:He.DefD:=⟨("_law_mixed",none),"_law_mixed","_law_mixed",defArgs v9,defBody v9,defScope v9,[],[]⟩
theorem Ib:FnScope ["_law_cells","_law_k","_law_number"] ["_law_cells","_law_k"] (defScope v9):=⟨rfl,rfl,rfl,by decide+kernel,rfl,by decide+kernel,by decide+kernel⟩
abbrev tQ:Stmt:=top 113
def Lg:He.DefD:=⟨("_law_draws",none),"_law_draws","_law_draws",defArgs tQ,defBody tQ,defScope tQ,[],[]⟩
theorem Hw:FnScope ["_law_script","_law_ahead_of","_law_most","_law_cells","_law_many","_law_draws_here","_law_k"] ["_law_script","_law_ahead_of","_law_most"] (defScope tQ):=⟨rfl,rfl,rfl,by decide+kernel,rfl,by decide+kernel,by decide+kernel⟩
abbrev yL:Stmt:=top 123
def OJ:He.DefD:=⟨("_law_step",none),"_law_step","_law_step",defArgs yL,defBody yL,defScope yL,[],[]⟩
theorem Lf:FnScope ["_law_cell","_law_word","_law_other","_law_names","_law_sizes","_law_one","_law_two","_law_both","_law_at"] ["_law_cell","_law_word","_law_other","_law_names","_law_sizes"] (defScope yL):=⟨rfl,rfl,rfl,by decide+kernel,rfl,by decide+kernel,by decide+kernel⟩
abbrev uz:Stmt:=top 114
def Ep:He.DefD:=⟨("_law_sign_by",none),"_law_sign_by","_law_sign_by",defArgs uz,defBody uz,defScope uz,[],[]⟩
theorem CG:FnScope ["_law_cell"] ["_law_cell"] (defScope uz):=⟨rfl,rfl,rfl,by decide+kernel,rfl,by decide+kernel,by decide+kernel⟩
abbrev wB:Stmt:=top 122
def JW:He.DefD:=⟨("_law_signs",none),"_law_signs","_law_signs",defArgs wB,defBody wB,defScope wB,[],[]⟩
theorem Ig:FnScope ["_law_cell","_law_signs_here","_law_k"] ["_law_cell"] (defScope wB):=⟨rfl,rfl,rfl,by decide+kernel,rfl,by decide+kernel,by decide+kernel⟩
abbrev vB:Stmt:=top 124
def Oj:He.DefD:=⟨("_law_made",none),"_law_made","_law_made",defArgs vB,defBody vB,defScope vB,[],[]⟩
theorem JH:FnScope ["_law_draws_here","_law_kinds","_law_rows","_law_names","_law_sizes","_law_some","_law_cell","_law_word","_law_other","_law_row","_law_kind","_law_size"] ["_law_draws_here"] (defScope vB):=⟨rfl,rfl,rfl,by decide+kernel,rfl,by decide+kernel,by decide+kernel⟩
abbrev sH:Stmt:=inClass (top 110) 0
def Ck:He.DefD:=⟨("Book",some "__init__"),"__init__","Book.__init__",defArgs sH,defBody sH,defScope sH,[],[]⟩
theorem Ac:FnScope ["self"] ["self"] (defScope sH):=⟨rfl,rfl,rfl,by decide+kernel,rfl,by decide+kernel,by decide+kernel⟩
abbrev u9:Stmt:=top 127
def Hh:He.DefD:=⟨("_law_counts",none),"_law_counts","_law_counts",defArgs u9,defBody u9,defScope u9,[],[]⟩
theorem Ft:FnScope ["_law_kinds","_law_sign","_law_counts_here","_law_kind"] ["_law_kinds","_law_sign"] (defScope u9):=⟨rfl,rfl,rfl,by decide+kernel,rfl,by decide+kernel,by decide+kernel⟩
abbrev wG:Stmt:=top 115
def Jz:He.DefD:=⟨("_law_place",none),"_law_place","_law_place",defArgs wG,defBody wG,defScope wG,[],[]⟩
theorem Hu:FnScope ["_law_cell","_law_size"] ["_law_cell","_law_size"] (defScope wG):=⟨rfl,rfl,rfl,by decide+kernel,rfl,by decide+kernel,by decide+kernel⟩
abbrev BL:Stmt:=top 56
def QW:He.DefD:=⟨("kinds_of",none),"kinds_of","kinds_of",defArgs BL,defBody BL,defScope BL,[],[]⟩
theorem O4:FnScope ["verb"] ["verb"] (defScope BL):=⟨rfl,rfl,rfl,by decide+kernel,rfl,by decide+kernel,by decide+kernel⟩
abbrev Gv:Stmt:=top 11
def WN:He.DefD:=⟨("is_sign",none),"is_sign","is_sign",defArgs Gv,defBody Gv,defScope Gv,[],[]⟩
theorem Rq:FnScope ["thing"] ["thing"] (defScope Gv):=⟨rfl,rfl,rfl,by decide+kernel,rfl,by decide+kernel,by decide+kernel⟩
abbrev Bb:Stmt:=top 52
def S8:He.DefD:=⟨("signs_of",none),"signs_of","signs_of",defArgs Bb,defBody Bb,defScope Bb,[],[]⟩
theorem O3:FnScope ["text","most","sign"] ["text","most"] (defScope Bb):=⟨rfl,rfl,rfl,by decide+kernel,rfl,by decide+kernel,by decide+kernel⟩
abbrev Gn:Stmt:=top 50
def VF:He.DefD:=⟨("is_word",none),"is_word","is_word",defArgs Gn,defBody Gn,defScope Gn,[],[]⟩
theorem Rc:FnScope ["text","sign"] ["text"] (defScope Gn):=⟨rfl,rfl,rfl,by decide+kernel,rfl,by decide+kernel,by decide+kernel⟩
abbrev yu:Stmt:=top 51
def N6:He.DefD:=⟨("number_of",none),"number_of","number_of",defArgs yu,defBody yu,defScope yu,[],[]⟩
theorem JN:FnScope ["text","most","sign","number"] ["text","most"] (defScope yu):=⟨rfl,rfl,rfl,by decide+kernel,rfl,by decide+kernel,by decide+kernel⟩
abbrev Br:Stmt:=top 53
def T8:He.DefD:=⟨("value_of",none),"value_of","value_of",defArgs Br,defBody Br,defScope Br,[],[]⟩
theorem Oo:FnScope ["kind","word"] ["kind","word"] (defScope Br):=⟨rfl,rfl,rfl,by decide+kernel,rfl,by decide+kernel,by decide+kernel⟩
abbrev yK:Stmt:=top 54
def Nv:He.DefD:=⟨("values_of",none),"values_of","values_of",defArgs yK,defBody yK,defScope yK,[],[]⟩
theorem Jo:FnScope ["kinds","words","values","kind","word","value"] ["kinds","words"] (defScope yK):=⟨rfl,rfl,rfl,by decide+kernel,rfl,by decide+kernel,by decide+kernel⟩
abbrev tU:Stmt:=top 57
def Fb:He.DefD:=⟨("statement_of",none),"statement_of","statement_of",defArgs tU,defBody tU,defScope tU,[],[]⟩
theorem Ci:FnScope ["row","words","kinds","values"] ["row"] (defScope tU):=⟨rfl,rfl,rfl,by decide+kernel,rfl,by decide+kernel,by decide+kernel⟩
abbrev uZ:Stmt:=top 103
def HY:He.DefD:=⟨("asked_kinds",none),"asked_kinds","asked_kinds",defArgs uZ,defBody uZ,defScope uZ,[],[]⟩
theorem Fg:FnScope ["verb"] ["verb"] (defScope uZ):=⟨rfl,rfl,rfl,by decide+kernel,rfl,by decide+kernel,by decide+kernel⟩
abbrev yZ:Stmt:=top 104
def Ot:He.DefD:=⟨("asking_of",none),"asking_of","asking_of",defArgs yZ,defBody yZ,defScope yZ,[],[]⟩
theorem KH:FnScope ["row","words","kinds","values"] ["row"] (defScope yZ):=⟨rfl,rfl,rfl,by decide+kernel,rfl,by decide+kernel,by decide+kernel⟩
abbrev uD:Stmt:=top 58
def Ef:He.DefD:=⟨("ask_standing",none),"ask_standing","ask_standing",defArgs uD,defBody uD,defScope uD,[],[]⟩
theorem Cg:FnScope ["texts","kinds","values","kind","value"] ["texts","kinds","values"] (defScope uD):=⟨rfl,rfl,rfl,by decide+kernel,rfl,by decide+kernel,by decide+kernel⟩
abbrev yH:Stmt:=top 105
def Oh:He.DefD:=⟨("as_answer",none),"as_answer","as_answer",defArgs yH,defBody yH,defScope yH,[],[]⟩
theorem Kr:FnScope ["number"] ["number"] (defScope yH):=⟨rfl,rfl,rfl,by decide+kernel,rfl,by decide+kernel,by decide+kernel⟩
abbrev Qe:Stmt:=top 19
def acY:He.DefD:=⟨("named",none),"named","named",defArgs Qe,defBody Qe,defScope Qe,[],[]⟩
theorem abx:FnScope ["rules","name"] ["rules","name"] (defScope Qe):=⟨rfl,rfl,rfl,by decide+kernel,rfl,by decide+kernel,by decide+kernel⟩
abbrev Gp:Stmt:=top 14
def Wz:He.DefD:=⟨("size_of",none),"size_of","size_of",defArgs Gp,defBody Gp,defScope Gp,[],[]⟩
theorem Rr:FnScope ["rule","sizes"] ["rule","sizes"] (defScope Gp):=⟨rfl,rfl,rfl,by decide+kernel,rfl,by decide+kernel,by decide+kernel⟩
abbrev G6:Stmt:=top 20
def W8:He.DefD:=⟨("lengths",none),"lengths","lengths",defArgs G6,defBody G6,defScope G6,[],[]⟩
theorem Ui:FnScope ["rules","sizes","rule"] ["rules"] (defScope G6):=⟨rfl,rfl,rfl,by decide+kernel,rfl,by decide+kernel,by decide+kernel⟩
abbrev JV:Stmt:=top 21
def Zi:He.DefD:=⟨("length",none),"length","length",defArgs JV,defBody JV,defScope JV,[],[]⟩
theorem Wl:FnScope ["rules","name"] ["rules","name"] (defScope JV):=⟨rfl,rfl,rfl,by decide+kernel,rfl,by decide+kernel,by decide+kernel⟩
abbrev GX:Stmt:=top 23
def Wm:He.DefD:=⟨("sign_at",none),"sign_at","sign_at",defArgs GX,defBody GX,defScope GX,[],[]⟩
theorem R5:FnScope ["rules","name","place","size","sizes","rule"] ["rules","name","place"] (defScope GX):=⟨rfl,rfl,rfl,by decide+kernel,rfl,by decide+kernel,by decide+kernel⟩
abbrev v7:Stmt:=top 26
def JL:He.DefD:=⟨("put_making",none),"put","put",defArgs v7,defBody v7,defScope v7,[],[]⟩
theorem Hr:FnScope ["rows","rule"] ["rows","rule"] (defScope v7):=⟨rfl,rfl,rfl,by decide+kernel,rfl,by decide+kernel,by decide+kernel⟩
abbrev Km:Stmt:=top 28
def Zg:He.DefD:=⟨("linked",none),"linked","linked",defArgs Km,defBody Km,defScope Km,[],[]⟩
theorem Vz:FnScope ["rows","one","other"] ["rows","one","other"] (defScope Km):=⟨rfl,rfl,rfl,by decide+kernel,rfl,by decide+kernel,by decide+kernel⟩
abbrev Xz:Stmt:=top 29
def af7:He.DefD:=⟨("over",none),"over","over",defArgs Xz,defBody Xz,defScope Xz,[],[]⟩
theorem adz:FnScope ["rows","one","many"] ["rows","one","many"] (defScope Xz):=⟨rfl,rfl,rfl,by decide+kernel,rfl,by decide+kernel,by decide+kernel⟩
abbrev KR:Stmt:=top 35
def aaw:He.DefD:=⟨("ending",none),"ending","ending",defArgs KR,defBody KR,defScope KR,[],[]⟩
theorem W9:FnScope ["rows","sizes","name","many","parts","found","part","rule"] ["rows","sizes","name","many"] (defScope KR):=⟨rfl,rfl,rfl,by decide+kernel,rfl,by decide+kernel,by decide+kernel⟩
abbrev yJ:Stmt:=top 34
def Nk:He.DefD:=⟨("beginning",none),"beginning","beginning",defArgs yJ,defBody yJ,defScope yJ,[],[]⟩
theorem Ke:FnScope ["rows","sizes","name","many","parts","found","part","rule","size"] ["rows","sizes","name","many"] (defScope yJ):=⟨rfl,rfl,rfl,by decide+kernel,rfl,by decide+kernel,by decide+kernel⟩
abbrev JD:Stmt:=top 36
def aaM:He.DefD:=⟨("across",none),"across","across",defArgs JD,defBody JD,defScope JD,[],[]⟩
theorem V5:FnScope ["rows","sizes","rule","start","end","one","size","found"] ["rows","sizes","rule","start","end"] (defScope JD):=⟨rfl,rfl,rfl,by decide+kernel,rfl,by decide+kernel,by decide+kernel⟩
abbrev ad7:Stmt:=top 37
def ajN:He.DefD:=⟨("cut",none),"cut","cut",defArgs ad7,defBody ad7,defScope ad7,[],[]⟩
theorem afv:FnScope ["rules","name","start","end","size","sizes","rule","rows","found"] ["rules","name","start","end"] (defScope ad7):=⟨rfl,rfl,rfl,by decide+kernel,rfl,by decide+kernel,by decide+kernel⟩
abbrev uh:Stmt:=top 91
def Ku:He.DefD:=⟨("is_pattern",none),"is_pattern","is_pattern",defArgs uh,defBody uh,defScope uh,[],[]⟩
theorem HS:FnScope ["pattern","sign"] ["pattern"] (defScope uh):=⟨rfl,rfl,rfl,by decide+kernel,rfl,by decide+kernel,by decide+kernel⟩
abbrev Ao:Stmt:=top 15
def Rj:He.DefD:=⟨("parts_of",none),"parts_of","parts_of",defArgs Ao,defBody Ao,defScope Ao,[],[]⟩
theorem NZ:FnScope ["rule"] ["rule"] (defScope Ao):=⟨rfl,rfl,rfl,by decide+kernel,rfl,by decide+kernel,by decide+kernel⟩
abbrev KZ:Stmt:=top 16
def aav:He.DefD:=⟨("needed",none),"needed","needed",defArgs KZ,defBody KZ,defScope KZ,[],[]⟩
theorem V9:FnScope ["rules","name","seen","number","part"] ["rules","name"] (defScope KZ):=⟨rfl,rfl,rfl,by decide+kernel,rfl,by decide+kernel,by decide+kernel⟩
abbrev Kg:Stmt:=top 92
def aaB:He.DefD:=⟨("agreed",none),"agreed","agreed",defArgs Kg,defBody Kg,defScope Kg,[],[]⟩
theorem WK:FnScope ["pattern","state","sign","end","size"] ["pattern","state","sign"] (defScope Kg):=⟨rfl,rfl,rfl,by decide+kernel,rfl,by decide+kernel,by decide+kernel⟩
abbrev uX:Stmt:=top 93
def Ie:He.DefD:=⟨("behind_sign",none),"behind_sign","behind_sign",defArgs uX,defBody uX,defScope uX,[],[]⟩
theorem Ey:FnScope ["pattern","sign","rows","state","found"] ["pattern","sign"] (defScope uX):=⟨rfl,rfl,rfl,by decide+kernel,rfl,by decide+kernel,by decide+kernel⟩
abbrev u5:Stmt:=top 94
def HF:He.DefD:=⟨("behind_join",none),"behind_join","behind_join",defArgs u5,defBody u5,defScope u5,[],[]⟩
theorem Et:FnScope ["here","there","size","rows","state","many","end","last","more","far"] ["here","there","size"] (defScope u5):=⟨rfl,rfl,rfl,by decide+kernel,rfl,by decide+kernel,by decide+kernel⟩
abbrev tM:Stmt:=top 95
def CV:He.DefD:=⟨("behind_times",none),"behind_times","behind_times",defArgs tM,defBody tM,defScope tM,[],[]⟩
theorem Cr:FnScope ["here","size","many","state","total","done","end","last","more","far"] ["here","size","many","state"] (defScope tM):=⟨rfl,rfl,rfl,by decide+kernel,rfl,by decide+kernel,by decide+kernel⟩
abbrev Fe:Stmt:=top 96
def Zz:He.DefD:=⟨("behind",none),"behind","behind",defArgs Fe,defBody Fe,defScope Fe,[],[]⟩
theorem VH:FnScope ["rules","name","pattern","sizes","tables","number","rule","here","size","state"] ["rules","name","pattern"] (defScope Fe):=⟨rfl,rfl,rfl,by decide+kernel,rfl,by decide+kernel,by decide+kernel⟩
abbrev Qu:Stmt:=top 98
def adw:He.DefD:=⟨("first",none),"first","first",defArgs Qu,defBody Qu,defScope Qu,[.int 0],[]⟩
theorem aaq:FnScope ["rules","name","pattern","start","size","end"] ["rules","name","pattern","start"] (defScope Qu):=⟨rfl,rfl,rfl,by decide+kernel,rfl,by decide+kernel,by decide+kernel⟩
abbrev Qq:Stmt:=top 22
def ac9:He.DefD:=⟨("count",none),"count","count",defArgs Qq,defBody Qq,defScope Qq,[],[]⟩
theorem aat:FnScope ["rules","name","sign","many","rule"] ["rules","name","sign"] (defScope Qq):=⟨rfl,rfl,rfl,by decide+kernel,rfl,by decide+kernel,by decide+kernel⟩
abbrev Jx:Stmt:=top 97
def aaX:He.DefD:=⟨("stands",none),"stands","stands",defArgs Jx,defBody Jx,defScope Jx,[],[]⟩
theorem Wj:FnScope ["rules","name","pattern"] ["rules","name","pattern"] (defScope Jx):=⟨rfl,rfl,rfl,by decide+kernel,rfl,by decide+kernel,by decide+kernel⟩
abbrev wu:Stmt:=top 108
def Lr:He.DefD:=⟨("about_more",none),"about_more","about_more",defArgs wu,defBody wu,defScope wu,[],[]⟩
theorem Hv:FnScope ["verb","rules","name","thing"] ["verb","rules","name","thing"] (defScope wu):=⟨rfl,rfl,rfl,by decide+kernel,rfl,by decide+kernel,by decide+kernel⟩
abbrev Gz:Stmt:=top 30
def Wq:He.DefD:=⟨("renamed",none),"renamed","renamed",defArgs Gz,defBody Gz,defScope Gz,[],[]⟩
theorem Rw:FnScope ["rule","numbers"] ["rule","numbers"] (defScope Gz):=⟨rfl,rfl,rfl,by decide+kernel,rfl,by decide+kernel,by decide+kernel⟩
abbrev z9:Stmt:=top 33
def W6:He.DefD:=⟨("brought",none),"brought","brought",defArgs z9,defBody z9,defScope z9,[],[]⟩
theorem Ug:FnScope ["rules","others","name","far","numbers","rows","rule","number"] ["rules","others","name"] (defScope z9):=⟨rfl,rfl,rfl,by decide+kernel,rfl,by decide+kernel,by decide+kernel⟩
abbrev tR:Stmt:=top 60
def Ed:He.DefD:=⟨("side_by_side",none),"side_by_side","side_by_side",defArgs tR,defBody tR,defScope tR,[],[]⟩
theorem Cj:FnScope ["one","other","rules","name"] ["one","other"] (defScope tR):=⟨rfl,rfl,rfl,by decide+kernel,rfl,by decide+kernel,by decide+kernel⟩
abbrev KN:Stmt:=top 87
def abp:He.DefD:=⟨("parted",none),"parted","parted",defArgs KN,defBody KN,defScope KN,[],[]⟩
theorem Wh:FnScope ["rules","one","other","here","there","letters","ends"] ["rules","one","other"] (defScope KN):=⟨rfl,rfl,rfl,by decide+kernel,rfl,by decide+kernel,by decide+kernel⟩
abbrev Qz:Stmt:=top 88
def adJ:He.DefD:=⟨("ahead",none),"ahead","ahead",defArgs Qz,defBody Qz,defScope Qz,[],[]⟩
theorem Zh:FnScope ["rules","one","other","place"] ["rules","one","other"] (defScope Qz):=⟨rfl,rfl,rfl,by decide+kernel,rfl,by decide+kernel,by decide+kernel⟩
abbrev Qi:Stmt:=top 101
def ac5:He.DefD:=⟨("shift",none),"shift","shift",defArgs Qi,defBody Qi,defScope Qi,[],[]⟩
theorem aaD:FnScope ["rules","one","other","size","work","ends"] ["rules","one","other"] (defScope Qi):=⟨rfl,rfl,rfl,by decide+kernel,rfl,by decide+kernel,by decide+kernel⟩
abbrev yV:Stmt:=top 106
def Nh:He.DefD:=⟨("about_two",none),"about_two","about_two",defArgs yV,defBody yV,defScope yV,[],[]⟩
theorem Ks:FnScope ["verb","one","other","rules","name","second","way"] ["verb","one","other"] (defScope yV):=⟨rfl,rfl,rfl,by decide+kernel,rfl,by decide+kernel,by decide+kernel⟩
abbrev Qw:Stmt:=top 100
def adP:He.DefD:=⟨("piece",none),"piece","piece",defArgs Qw,defBody Qw,defScope Qw,[],[]⟩
theorem Z8:FnScope ["rules","name","many"] ["rules","name"] (defScope Qw):=⟨rfl,rfl,rfl,by decide+kernel,rfl,by decide+kernel,by decide+kernel⟩
abbrev Be:Stmt:=top 24
def Uy:He.DefD:=⟨("unfolded",none),"unfolded","unfolded",defArgs Be,defBody Be,defScope Be,[],[]⟩
theorem Ny:FnScope ["rules","name","texts","number","rule"] ["rules","name"] (defScope Be):=⟨rfl,rfl,rfl,by decide+kernel,rfl,by decide+kernel,by decide+kernel⟩
abbrev Ye:Stmt:=top 82
def ahs:He.DefD:=⟨("form",none),"form","form",defArgs Ye,defBody Ye,defScope Ye,[],[]⟩
theorem adI:FnScope ["rules","name"] ["rules","name"] (defScope Ye):=⟨rfl,rfl,rfl,by decide+kernel,rfl,by decide+kernel,by decide+kernel⟩
abbrev yx:Stmt:=top 107
def Og:He.DefD:=⟨("about_one",none),"about_one","about_one",defArgs yx,defBody yx,defScope yx,[],[]⟩
theorem KC:FnScope ["verb","rules","name","size","many"] ["verb","rules","name"] (defScope yx):=⟨rfl,rfl,rfl,by decide+kernel,rfl,by decide+kernel,by decide+kernel⟩
abbrev vf:Stmt:=inClass (top 110) 3
def Hj:He.DefD:=⟨("Book",some "answer"),"answer","Book.answer",defArgs vf,defBody vf,defScope vf,[],[]⟩
theorem Fv:FnScope ["self","verb","values","rules","name"] ["self","verb","values"] (defScope vf):=⟨rfl,rfl,rfl,by decide+kernel,rfl,by decide+kernel,by decide+kernel⟩
abbrev Yr:Stmt:=top 39
def agu:He.DefD:=⟨("tidy",none),"tidy","tidy",defArgs Yr,defBody Yr,defScope Yr,[],[]⟩
theorem ad1:FnScope ["rules","name","rows","kept","numbers","number","rule"] ["rules","name"] (defScope Yr):=⟨rfl,rfl,rfl,by decide+kernel,rfl,by decide+kernel,by decide+kernel⟩
abbrev sG:Stmt:=top 59
def BX:He.DefD:=⟨("spelled_rules",none),"spelled_rules","spelled_rules",defArgs sG,defBody sG,defScope sG,[],[]⟩
theorem zK:FnScope ["signs","rules","names","sign","above","at"] ["signs"] (defScope sG):=⟨rfl,rfl,rfl,by decide+kernel,rfl,by decide+kernel,by decide+kernel⟩
abbrev J8:Stmt:=top 31
def aaQ:He.DefD:=⟨("joined",none),"joined","joined",defArgs J8,defBody J8,defScope J8,[],[]⟩
theorem Xb:FnScope ["rules","one","other","rows","name"] ["rules","one","other"] (defScope J8):=⟨rfl,rfl,rfl,by decide+kernel,rfl,by decide+kernel,by decide+kernel⟩
abbrev JK:Stmt:=top 61
def aa3:He.DefD:=⟨("put_in",none),"put_in","put_in",defArgs JK,defBody JK,defScope JK,[],[]⟩
theorem VB:FnScope ["one","place","other","rules","name","middle","size","head","tail","front"] ["one","place","other"] (defScope JK):=⟨rfl,rfl,rfl,by decide+kernel,rfl,by decide+kernel,by decide+kernel⟩
abbrev JG:Stmt:=top 63
def aal:He.DefD:=⟨("of_two",none),"of_two","of_two",defArgs JG,defBody JG,defScope JG,[],[]⟩
theorem VJ:FnScope ["verb","one","values","texts","rules","name","other"] ["verb","one","values","texts"] (defScope JG):=⟨rfl,rfl,rfl,by decide+kernel,rfl,by decide+kernel,by decide+kernel⟩
abbrev yq:Stmt:=top 62
def Oq:He.DefD:=⟨("taken_out",none),"taken_out","taken_out",defArgs yq,defBody yq,defScope yq,[],[]⟩
theorem JS:FnScope ["one","start","end","size","rules","head","tail"] ["one","start","end"] (defScope yq):=⟨rfl,rfl,rfl,by decide+kernel,rfl,by decide+kernel,by decide+kernel⟩
abbrev Bl:Stmt:=top 32
def Ro:He.DefD:=⟨("repeated",none),"repeated","repeated",defArgs Bl,defBody Bl,defScope Bl,[],[]⟩
theorem N8:FnScope ["rules","name","many","rows","found"] ["rules","name","many"] (defScope Bl):=⟨rfl,rfl,rfl,by decide+kernel,rfl,by decide+kernel,by decide+kernel⟩
abbrev Jv:Stmt:=top 41
def aa2:He.DefD:=⟨("turned",none),"turned","turned",defArgs Jv,defBody Jv,defScope Jv,[],[]⟩
theorem Wk:FnScope ["rules","name","rows","numbers","number","rule"] ["rules","name"] (defScope Jv):=⟨rfl,rfl,rfl,by decide+kernel,rfl,by decide+kernel,by decide+kernel⟩
abbrev yN:Stmt:=top 42
def NP:He.DefD:=⟨("otherwise",none),"otherwise","otherwise",defArgs yN,defBody yN,defScope yN,[],[]⟩
theorem J5:FnScope ["rules","name","sign","other","rows","numbers","number","rule"] ["rules","name","sign","other"] (defScope yN):=⟨rfl,rfl,rfl,by decide+kernel,rfl,by decide+kernel,by decide+kernel⟩
abbrev KQ:Stmt:=top 64
def aaY:He.DefD:=⟨("of_one",none),"of_one","of_one",defArgs KQ,defBody KQ,defScope KQ,[],[]⟩
theorem WL:FnScope ["verb","one","values"] ["verb","one","values"] (defScope KQ):=⟨rfl,rfl,rfl,by decide+kernel,rfl,by decide+kernel,by decide+kernel⟩
abbrev xY:Stmt:=top 65
def Nt:He.DefD:=⟨("made_text",none),"made_text","made_text",defArgs xY,defBody xY,defScope xY,[],[]⟩
theorem JZ:FnScope ["texts","deed","verb","new","values","rules","name"] ["texts","deed"] (defScope xY):=⟨rfl,rfl,rfl,by decide+kernel,rfl,by decide+kernel,by decide+kernel⟩
abbrev sE:Stmt:=inClass (top 110) 2
def Ca:He.DefD:=⟨("Book",some "exchange"),"exchange","Book.exchange",defArgs sE,defBody sE,defScope sE,[],[]⟩
theorem Ad:FnScope ["self","one","other","kept"] ["self","one","other"] (defScope sE):=⟨rfl,rfl,rfl,by decide+kernel,rfl,by decide+kernel,by decide+kernel⟩
abbrev Ah:Stmt:=inClass (top 110) 1
def TX:He.DefD:=⟨("Book",some "say"),"say","Book.say",defArgs Ah,defBody Ah,defScope Ah,[],[]⟩
theorem Om:FnScope ["self","row","deed","asked","verb","values"] ["self","row"] (defScope Ah):=⟨rfl,rfl,rfl,by decide+kernel,rfl,by decide+kernel,by decide+kernel⟩
abbrev yI:Stmt:=top 125
def Nr:He.DefD:=⟨("_law_back",none),"_law_back","_law_back",defArgs yI,defBody yI,defScope yI,[],[]⟩
theorem JX:FnScope ["_law_kind","_law_sizes","_law_place_here","_law_gap"] ["_law_kind","_law_sizes","_law_place_here"] (defScope yI):=⟨rfl,rfl,rfl,by decide+kernel,rfl,by decide+kernel,by decide+kernel⟩
abbrev uw:Stmt:=top 126
def Dc:He.DefD:=⟨("_law_sign_of",none),"_law_sign_of","_law_sign_of",defArgs uw,defBody uw,defScope uw,[],[]⟩
theorem Cm:FnScope ["_law_kinds","_law_sizes","_law_at","_law_place_here","_law_kind"] ["_law_kinds","_law_sizes","_law_at","_law_place_here"] (defScope uw):=⟨rfl,rfl,rfl,by decide+kernel,rfl,by decide+kernel,by decide+kernel⟩
abbrev qC:Stmt:=top 129
def yX:He.DefD:=⟨("_law_book_keeps",none),"_law_book_keeps","_law_book_keeps",defArgs qC,defBody qC,defScope qC,[],[]⟩
theorem xq:FnScope ["_law_made_here","_law_draws_here","_law_sign","_law_rows","_law_kinds","_law_sizes","_law_names","_law_book","_law_more","_law_row","_law_counts_here","_law_word","_law_at","_law_often","_law_place_here"] ["_law_made_here","_law_draws_here","_law_sign"] (defScope qC):=⟨rfl,rfl,rfl,by decide+kernel,rfl,by decide+kernel,by decide+kernel⟩
abbrev uE:Stmt:=top 118
def CW:He.DefD:=⟨("_law_lengths",none),"_law_lengths","_law_lengths",defArgs uE,defBody uE,defScope uE,[],[]⟩
theorem Cz:FnScope ["_law_rules","_law_sizes","_law_rule","_law_size"] ["_law_rules"] (defScope uE):=⟨rfl,rfl,rfl,by decide+kernel,rfl,by decide+kernel,by decide+kernel⟩
abbrev vZ:Stmt:=top 116
def Lw:He.DefD:=⟨("_law_whole",none),"_law_whole","_law_whole",defArgs vZ,defBody vZ,defScope vZ,[],[]⟩
theorem Hz:FnScope ["_law_found"] ["_law_found"] (defScope vZ):=⟨rfl,rfl,rfl,by decide+kernel,rfl,by decide+kernel,by decide+kernel⟩
abbrev qW:Stmt:=top 117
def zP:He.DefD:=⟨("_law_good_rule",none),"_law_good_rule","_law_good_rule",defArgs qW,defBody qW,defScope qW,[],[]⟩
theorem yw:FnScope ["_law_rule","_law_k"] ["_law_rule","_law_k"] (defScope qW):=⟨rfl,rfl,rfl,by decide+kernel,rfl,by decide+kernel,by decide+kernel⟩
abbrev yU:Stmt:=top 119
def Nz:He.DefD:=⟨("_law_told",none),"_law_told","_law_told",defArgs yU,defBody yU,defScope yU,[],[]⟩
theorem Ju:FnScope ["_law_found","_law_words","_law_k","_law_pair","_law_word"] ["_law_found","_law_words"] (defScope yU):=⟨rfl,rfl,rfl,by decide+kernel,rfl,by decide+kernel,by decide+kernel⟩
abbrev vh:Stmt:=top 120
def Hq:He.DefD:=⟨("_law_length",none),"_law_length","_law_length",defArgs vh,defBody vh,defScope vh,[],[]⟩
theorem Du:FnScope ["_law_sizes","_law_name"] ["_law_sizes","_law_name"] (defScope vh):=⟨rfl,rfl,rfl,by decide+kernel,rfl,by decide+kernel,by decide+kernel⟩
abbrev uo:Stmt:=top 121
def Eb:He.DefD:=⟨("_law_sign_at",none),"_law_sign_at","_law_sign_at",defArgs uo,defBody uo,defScope uo,[],[]⟩
theorem Cp:FnScope ["_law_rules","_law_sizes","_law_name","_law_place_here","_law_one"] ["_law_rules","_law_sizes","_law_name","_law_place_here"] (defScope uo):=⟨rfl,rfl,rfl,by decide+kernel,rfl,by decide+kernel,by decide+kernel⟩
abbrev sJ:Stmt:=top 128
def Cq:He.DefD:=⟨("_law_is_right",none),"_law_is_right","_law_is_right",defArgs sJ,defBody sJ,defScope sJ,[],[]⟩
theorem zL:FnScope ["_law_found","_law_made_here","_law_cell","_law_rows","_law_kinds","_law_sizes","_law_names","_law_longs","_law_word","_law_name","_law_at","_law_place_here"] ["_law_found","_law_made_here","_law_cell"] (defScope sJ):=⟨rfl,rfl,rfl,by decide+kernel,rfl,by decide+kernel,by decide+kernel⟩
abbrev Bu:Stmt:=top 67
def RQ:He.DefD:=⟨("texts_of",none),"texts_of","texts_of",defArgs Bu,defBody Bu,defScope Bu,[],[]⟩
theorem Oe:FnScope ["text","texts","row","deed"] ["text"] (defScope Bu):=⟨rfl,rfl,rfl,by decide+kernel,rfl,by decide+kernel,by decide+kernel⟩
abbrev Yg:Stmt:=top 68
def ag9:He.DefD:=⟨("read",none),"read","read",defArgs Yg,defBody Yg,defScope Yg,[],[]⟩
theorem aeb:FnScope ["text","texts","rules","names","word","some","name"] ["text"] (defScope Yg):=⟨rfl,rfl,rfl,by decide+kernel,rfl,by decide+kernel,by decide+kernel⟩
abbrev adE:Stmt:=top 130
def afB:He.DefD:=⟨("law",none),"law","law",defArgs adE,defBody adE,defScope adE,[],[]⟩
theorem afI:FnScope ["_law_script","_law_draws_here","_law_made_here","_law_sign"] ["_law_script"] (defScope adE):=⟨rfl,rfl,rfl,by decide+kernel,rfl,by decide+kernel,by decide+kernel⟩
def fa:List He.Fa:=[.free "len", .glo "_law_mixed", .free "list", .free "range", .free "min", .free "max", .glo "_law_draws", .free "str", .glo "_law_step", .glo "_law_sign_by", .glo "_law_signs", .free "sorted", .glo "_law_made", .cls "Book", .noat "Book" "texts", .mkr "Book", .glo "Book", .glo "_law_counts", .glo "_law_place", .glo "kinds_of", .str "SIGNS" "0123456789ABCDEFGHIJKLMNOPQRSTUVWXYZabcdefghijklmnopqrstuvwxyz", .free "isinstance", .glo "is_sign", .glo "signs_of", .int "WORD" 8, .str "LETTERS" "abcdefghijklmnopqrstuvwxyz", .glo "is_word", .int "NUMBER" 19, .str "FIGURES" "0123456789", .free "int", .glo "number_of", .int "MOST" 1152921504606846976, .int "PATTERN_words" 12, .int "WRITTEN_words" 40, .glo "value_of", .free "zip", .glo "values_of", .glo "statement_of", .glo "asked_kinds", .glo "asking_of", .exc "NoWord", .glo "NoWord", .glo "ask_standing", .glo "as_answer", .exc "NoName", .glo "NoName", .glo "named", .glo "size_of", .glo "lengths", .glo "length", .exc "NoPlace", .glo "NoPlace", .glo "sign_at", .glo "put_making", .glo "linked", .glo "over", .free "reversed", .glo "ending", .glo "beginning", .glo "across", .free "tuple", .glo "cut", .int "PATTERN_patterns" 12, .free "all", .glo "is_pattern", .glo "parts_of", .glo "needed", .glo "agreed", .glo "behind_sign", .glo "behind_join", .glo "behind_times", .glo "behind", .exc "NoPattern", .glo "NoPattern", .glo "first", .glo "count", .glo "stands", .glo "about_more", .glo "renamed", .glo "brought", .glo "side_by_side", .glo "parted", .glo "ahead", .glo "shift", .glo "about_two", .glo "piece", .int "WRITTEN_measure" 2000, .exc "TooLong", .glo "TooLong", .glo "unfolded", .glo "form", .glo "about_one", .meth "Book" "answer", .glo "tidy", .glo "spelled_rules", .glo "joined", .glo "put_in", .glo "of_two", .glo "taken_out", .glo "repeated", .glo "turned", .glo "otherwise", .glo "of_one", .glo "made_text", .meth "Book" "exchange", .exc "NoRow", .glo "NoRow", .meth "Book" "say", .glo "_law_back", .glo "_law_sign_of", .glo "_law_book_keeps", .glo "_law_lengths", .free "bool", .glo "_law_whole", .glo "_law_good_rule", .glo "_law_told", .glo "_law_length", .glo "_law_sign_at", .glo "_law_is_right", .exc "NoText", .glo "NoText", .glo "texts_of", .glo "read", .glo "law"]
def fn:List He.DefD:=[Ky,Lg,OJ,Ep,JW,Oj,Ck,Hh,Jz,QW,WN,S8,VF,N6,T8,Nv,Fb,HY,Ot,Ef,Oh,acY,Wz,W8,Zi,Wm,JL,Zg,af7,aaw,Nk,aaM,ajN,Ku,Rj,aav,aaB,Ie,HF,CV,Zz,adw,ac9,aaX,Lr,Wq,W6,Ed,abp,adJ,ac5,Nh,adP,Uy,ahs,Og,Hj,agu,BX,aaQ,aa3,aal,Oq,Ro,aa2,NP,aaY,Nt,Ca,TX,Nr,Dc,yX,CW,Lw,zP,Nz,Hq,Eb,Cq,RQ,ag9,afB]
theorem YM{P:Program}{w:World}{K:aq}{mg:Str→Option Value}{base:Heap}(Z:mJ fa fn K mg)(Zx:oR xs K mg):Has P w K mg base "_law_mixed" 1 ["_law_cells","_law_k"] (oZ K [.dat, .dat] .dat oM):=by
 have nd:(["_law_cells","_law_k","_law_number"]:List Str).Nodup:=Ib.nd
 refine gQ (d:=Ky) (N:=["_law_cells","_law_k","_law_number"]) (n:=1) (k:=0) Z 0 1 rfl rfl rfl rfl rfl Ib rfl rfl (.inl rfl) (fun _ _ _ _ _ _ us hl=>match us,hl with|[_,_],_=>rfl) (fun f cdv A outer s H E hr tk hp=> ?_)
 exact(eG (fX (fM qp qD (dZ (eE 1)) (dZ (gD jc jd (Z.free 0) PySem.boot_len (d9 (dZ (eE 0)) eX)))) (eU (fQ (fJ jL jO (dZ (fJ nW oh (dZ (fJ jL jO (dZ (fD (dZ (eE 0)) (dZ (eE 1)))) (dZ (fJ Af ne_pow (dZ eV) (dZ eV))))) (dZ eV))) (dZ (fJ Af ne_pow (dZ eV) (dZ eV)))))) fK)
 (eG (fW (i:=2) nd (fJ g8 ir (dZ (fJ nW oh (dZ (fJ nW oh (dZ (eE 1)) (dZ (eE 1)))) (dZ eV))) (dZ eV)))
 (eG (fX (fM BZ BV (dZ (gD jc jd (Z.free 0) PySem.boot_len (d9 (dZ (eE 0)) eX))) (dZ eV)) (eU (fW (i:=2) nd (fJ g8 ir (dZ (eE 2)) (dZ (fJ nW oh (dZ (fJ jL jO (dZ (fD (dZ (eE 0)) (dZ (fJ jL jO (dZ (fJ nW oh (dZ (eE 1)) (dZ eV))) (dZ (gD jc jd (Z.free 0) PySem.boot_len (d9 (dZ (eE 0)) eX))))))) (dZ (fJ Af ne_pow (dZ eV) (dZ eV))))) (dZ (fJ g8 ir (dZ eV) (dZ (fJ nW oh (dZ eV) (dZ (eE 1))))))))))) fK)
 (eG (fW (i:=2) nd (fJ jL jO (dZ (fJ nW oh (dZ (eE 2)) (dZ (eE 2)))) (dZ eV)))
 (eG (fW (i:=2) nd (fJ jL jO (dZ (fJ nW oh (dZ (fJ g8 ir (dZ (fJ g8 ir (dZ (eE 2)) (dZ (fJ nW oh (dZ (fJ nW oh (dZ (eE 1)) (dZ (eE 1)))) (dZ (eE 1)))))) (dZ eV))) (dZ (fJ g8 ir (dZ (eE 2)) (dZ eV))))) (dZ eV)))
 (eU (fQ (fJ jL jO (dZ (fJ nW oh (dZ (eE 2)) (dZ eV))) (dZ (fJ Af ne_pow (dZ eV) (dZ eV)))))))))))
theorem XC{P:Program}{w:World}{K:aq}{mg:Str→Option Value}{base:Heap}(Z:mJ fa fn K mg)(Zx:oR xs K mg):Has P w K mg base "_law_draws" 2 ["_law_script","_law_ahead_of","_law_most"] (oZ K [.dat, .dat, .dat] .new vY):=by
 have nd:(["_law_script","_law_ahead_of","_law_most","_law_cells","_law_many","_law_draws_here","_law_k"]:List Str).Nodup:=Hw.nd
 refine gQ (d:=Lg) (N:=["_law_script","_law_ahead_of","_law_most","_law_cells","_law_many","_law_draws_here","_law_k"]) (n:=4) (k:=1) Z 1 6 rfl rfl rfl rfl rfl Hw rfl rfl (.inr (lE (lE Uw))) (fun _ _ _ _ _ _ us hl=>match us,hl with|[_,_,_],_=>rfl) (fun f cdv A outer s H E hr tk hp=> ?_)
 exact(eG (jC (i:=3) nd (iY Aj Aq (Z.free 2) (by decide+kernel) (d9 (dZ (eE 0)) eX)))
 (eG (fX (fM BZ BV (dZ (gD jc jd (Z.free 0) PySem.boot_len (d9 (jy 3) eX))) (dZ eV)) (eG (fW (i:=4) nd (fJ g8 ir (dZ (eE 1)) (dZ (fJ jL jO (dZ (fD (jy 3) (dZ eV))) (dZ (fJ g8 ir (dZ (fJ nu nq (dZ (eE 2)) (dZ (eE 1)))) (dZ eV)))))))
 (eG (acU 3 (dZ eV) (fJ qj qd (dZ (fD (jy 3) (dZ eV))) (dZ (fJ g8 ir (dZ (fJ nu nq (dZ (eE 2)) (dZ (eE 1)))) (dZ eV)))))
 (eG (jC (i:=5) nd (jX eX))
 (eG (kJ hp (R8 (Z.free 3) (dZ (eE 4))) (jf 6 nd) (eG (mK (i:=5) (fJ jL jO (dZ (fD (jy 3) (dZ (fJ jL jO (dZ (eE 6)) (dZ (gD jc jd (Z.free 0) PySem.boot_len (d9 (jy 3) eX))))))) (dZ (fJ Af ne_pow (dZ eV) (dZ eV)))))
 (eU (acU 3 (dZ (fJ jL jO (dZ (eE 6)) (dZ (gD jc jd (Z.free 0) PySem.boot_len (d9 (jy 3) eX))))) (fJ qj qd (dZ (fD (jy 3) (dZ (fJ jL jO (dZ (eE 6)) (dZ (gD jc jd (Z.free 0) PySem.boot_len (d9 (jy 3) eX))))))) (dZ (fJ Af ne_pow (dZ eV) (dZ eV))))))))
 (eU (fX (fM BZ BV (dZ (gD (ai0 rfl) aii (Z.free 4) (by decide+kernel) (d9 (jy 3) eX))) (dZ eV)) (eU (yF 5)) fK)))))) fK)
 (eU (fQ (agB (own:=[("_law_k",6)]) nd (Yv (R8 (Z.free 3) (dZ (gD (agL rfl) ahl (Z.free 5) (by decide+kernel) (d9 (dZ (eE 1)) (d9 (dZ (gD (Rm rfl) RG (Z.free 4) (by decide+kernel) (d9 (dZ (eE 2)) (d9 (dZ (gD jc jd (Z.free 0) PySem.boot_len (d9 (dZ (eE 0)) eX))) eX)))) eX)))))) (blkOk_by (own:=[("_law_k",6)]) (N:=["_law_script","_law_ahead_of","_law_most","_law_cells","_law_many","_law_draws_here","_law_k"]) (sc:=defScope tQ) (by decide+kernel)) (aan 6) (fun _ _ _ _ _=>pg_name (i:=6) nd rfl (Or.inl rfl)) (fun _ _ _ _ _=>Jq) (fun _ _ _ _ _=>(gj (YM Z Zx) hr takes0 (d9 (eE 0) (d9 (eE 6) eX)))))))))
theorem abq{P:Program}{w:World}{K:aq}{mg:Str→Option Value}{base:Heap}(Z:mJ fa fn K mg)(Zx:oR xs K mg):Has P w K mg base "_law_step" 1 ["_law_cell","_law_word","_law_other","_law_names","_law_sizes"] (oZ K [.dat, .dat, .dat, .bor, .bor] .dat vp):=by
 have nd:(["_law_cell","_law_word","_law_other","_law_names","_law_sizes","_law_one","_law_two","_law_both","_law_at"]:List Str).Nodup:=Lf.nd
 refine gQ (d:=OJ) (N:=["_law_cell","_law_word","_law_other","_law_names","_law_sizes","_law_one","_law_two","_law_both","_law_at"]) (n:=4) (k:=0) Z 2 8 rfl rfl rfl rfl rfl Lf rfl rfl (.inl rfl) (fun _ _ _ _ _ _ us hl=>match us,hl with|[_,_,_,_,_],_=>rfl) (fun f cdv A outer s H E hr tk hp=> ?_)
 exact(eG (fW (i:=5) nd (mD hr.units (jy 3) (dZ (eE 1))))
 (eG (fW (i:=6) nd (mD hr.units (jy 3) (dZ (eE 2))))
 (eG (fW (i:=7) nd (fJ g8 ir (dZ (fD (jy 4) (dZ (eE 5)))) (dZ (fD (jy 4) (dZ (eE 6))))))
 (eG (fX (fM (gW hr.units) ne_eq (dZ (fJ jL jO (dZ (eE 0)) (dZ eV))) (dZ eV)) (eU (fQ (iJ (d9 (fJ g8 ir (dZ (fJ g8 ir (dZ (eE 1)) (dZ fO))) (dZ (eE 1))) (d9 (iJ (d9 fO (d9 (eE 5) eX))) (d9 (fD (jy 4) (dZ (eE 5))) eX)))))) fK)
 (eG (fX (zN (DQ (fM qp qD (dZ (fJ jL jO (dZ (eE 0)) (dZ eV))) (dZ eV)) (yr (fM (gW hr.units) ne_eq (dZ (fJ jL jO (dZ (fJ qj qd (dZ (eE 0)) (dZ eV))) (dZ eV))) (dZ eV))))) (eU (fQ (iJ (d9 (fJ g8 ir (dZ (fJ g8 ir (dZ (fJ g8 ir (dZ (fJ g8 ir (dZ (eE 1)) (dZ fO))) (dZ (eE 1)))) (dZ fO))) (dZ (eE 2))) (d9 (iJ (d9 fO (d9 (eE 5) (d9 (eE 6) eX)))) (d9 (eE 7) eX)))))) fK)
 (eG (fX (fM qp qD (dZ (fJ jL jO (dZ (eE 0)) (dZ eV))) (dZ eV)) (eU (fQ (iJ (d9 (fJ g8 ir (dZ (fJ g8 ir (dZ (fJ g8 ir (dZ (fJ g8 ir (dZ (eE 1)) (dZ fO))) (dZ (eE 2)))) (dZ fO))) (dZ (eE 1))) (d9 (iJ (d9 fO (d9 (eE 6) (d9 (eE 5) eX)))) (d9 (eE 7) eX)))))) fK)
 (eG (fX (fM qp qD (dZ (fJ jL jO (dZ (eE 0)) (dZ eV))) (dZ eV)) (eU (fQ (iJ (d9 (fJ g8 ir (dZ (fJ g8 ir (dZ (fJ g8 ir (dZ (eE 1)) (dZ fO))) (dZ (eE 1)))) (dZ fO)) (d9 (iJ (d9 fO (d9 (eE 5) (d9 (eE 5) eX)))) (d9 (fJ nW oh (dZ eV) (dZ (fD (jy 4) (dZ (eE 5))))) eX)))))) fK)
 (eG (fW (i:=8) nd (fD (Bv (jX (d9 eV (d9 (fD (jy 4) (dZ (eE 5))) eX)))) (dZ (fJ jL jO (dZ (fJ qj qd (dZ (eE 0)) (dZ eV))) (dZ eV)))))
 (eU (fQ (iJ (d9 (fJ g8 ir (dZ (fJ g8 ir (dZ (fJ g8 ir (dZ (fJ g8 ir (dZ (fJ g8 ir (dZ (fJ g8 ir (dZ (eE 1)) (dZ fO))) (dZ (eE 1)))) (dZ fO))) (dZ (iY Am wk (Z.free 7) (by decide+kernel) (d9 (dZ (eE 8)) eX))))) (dZ fO))) (dZ (eE 2))) (d9 (iJ (d9 fO (d9 (eE 5) (d9 (eE 6) (d9 (eE 8) eX))))) (d9 (eE 7) eX))))))))))))))
theorem Df{P:Program}{w:World}{K:aq}{mg:Str→Option Value}{base:Heap}(Z:mJ fa fn K mg)(Zx:oR xs K mg):Has P w K mg base "_law_sign_by" 1 ["_law_cell"] (oZ K [.dat] .dat nU):=by
 have nd:(["_law_cell"]:List Str).Nodup:=CG.nd
 refine gQ (d:=Ep) (N:=["_law_cell"]) (n:=0) (k:=0) Z 3 9 rfl rfl rfl rfl rfl CG rfl rfl (.inl rfl) (fun _ _ _ _ _ _ us hl=>match us,hl with|[_],_=>rfl) (fun f cdv A outer s H E hr tk hp=> ?_)
 exact(eU (fQ (fD (dZ fO) (dZ (fJ jL jO (dZ (eE 0)) (dZ eV))))))
theorem Kc{P:Program}{w:World}{K:aq}{mg:Str→Option Value}{base:Heap}(Z:mJ fa fn K mg)(Zx:oR xs K mg):Has P w K mg base "_law_signs" 2 ["_law_cell"] (oZ K [.dat] .dat qR):=by
 have nd:(["_law_cell","_law_signs_here","_law_k"]:List Str).Nodup:=Ig.nd
 refine gQ (d:=JW) (N:=["_law_cell","_law_signs_here","_law_k"]) (n:=2) (k:=1) Z 4 10 rfl rfl rfl rfl rfl Ig rfl rfl (.inl rfl) (fun _ _ _ _ _ _ us hl=>match us,hl with|[_],_=>rfl) (fun f cdv A outer s H E hr tk hp=> ?_)
 exact(eG (fW (i:=1) nd fO)
 (eG (kJ hp (R8 (Z.free 3) (dZ (fJ g8 ir (dZ eV) (dZ (fJ jL jO (dZ (eE 0)) (dZ eV)))))) (jf 2 nd) (eU (fW (i:=1) nd (fJ g8 ir (dZ (eE 1)) (dZ (gj (Df Z Zx) hr tk (d9 (fJ qj qd (dZ (eE 0)) (dZ (fD (Bv (jX (d9 eV (d9 eV (d9 eV (d9 eV eX)))))) (dZ (eE 2))))) eX)))))))
 (eU (fQ (eE 1)))))
theorem abt{P:Program}{w:World}{K:aq}{mg:Str→Option Value}{base:Heap}(Z:mJ fa fn K mg)(Zx:oR xs K mg):Has P w K mg base "_law_made" 3 ["_law_draws_here"] (oZ K [.dat] .dat CZ):=by
 have nd:(["_law_draws_here","_law_kinds","_law_rows","_law_names","_law_sizes","_law_some","_law_cell","_law_word","_law_other","_law_row","_law_kind","_law_size"]:List Str).Nodup:=JH.nd
 refine gQ (d:=Oj) (N:=["_law_draws_here","_law_kinds","_law_rows","_law_names","_law_sizes","_law_some","_law_cell","_law_word","_law_other","_law_row","_law_kind","_law_size"]) (n:=11) (k:=2) Z 5 12 rfl rfl rfl rfl rfl JH rfl rfl (.inl rfl) (fun _ _ _ _ _ _ us hl=>match us,hl with|[_],_=>rfl) (fun f cdv A outer s H E hr tk hp=> ?_)
 exact(eG (jC (i:=1) nd (jX (d9 (iJ (d9 fO (d9 (gj (Kc Z Zx) hr tk (d9 (fD (dZ (eE 0)) (dZ eV)) eX)) eX))) eX)))
 (eG (jC (i:=2) nd (jX (d9 (fJ g8 ir (dZ fO) (dZ (fD (dZ (fD (jy 1) (dZ eV))) (dZ eV)))) eX)))
 (eG (jC (i:=3) nd (ajT (dZ fO) eV))
 (eG (fX (fM (gW hr.units) ne_eq (dZ (fJ jL jO (dZ (fJ qj qd (dZ (fD (dZ (eE 0)) (dZ eV))) (dZ eV))) (dZ eV))) (dZ eV)) (eG (mK (i:=1) (iJ (d9 fO (d9 (gj (Kc Z Zx) hr tk (d9 (fJ qj qd (dZ (fD (dZ (eE 0)) (dZ eV))) (dZ eV)) eX)) eX))))
 (eG (mK (i:=2) (fJ g8 ir (dZ fO) (dZ (fD (dZ (fD (jy 1) (dZ eV))) (dZ eV)))))
 (eU (qU 3 hr.units (dZ fO) eV)))) fK)
 (eG (alR (i:=4) (own:=[("_law_kind",10)]) nd (sw_true rfl rfl rfl (by decide+kernel)) (alO (jy 1)) (blkOk_by (own:=[("_law_kind",10)]) (N:=["_law_draws_here","_law_kinds","_law_rows","_law_names","_law_sizes","_law_some","_law_cell","_law_word","_law_other","_law_row","_law_kind","_law_size"]) (sc:=defScope vB) (by decide+kernel)) (aan 10) (fun _ _ _ _ _=>pg_name (i:=10) nd rfl (Or.inl rfl)) (fun _ _ _ _ _=>Jq) (fun _ _ _ _ _=>(gD jc jd (Z.free 0) PySem.boot_len (d9 (dZ (fD (dZ (eE 10)) (dZ eV))) eX))))
 (eG (fW (i:=5) nd (j7 (Gk (Z.free 11) (jy 3))))
 (eG (kJ hp (M5 (W7 (dZ (eE 0)) (G3 (dZ eV)) GD)) (jf 6 nd) (eG (fW (i:=7) nd (fD (dZ (eE 5)) (dZ (fJ jL jO (dZ (fJ qj qd (dZ (eE 6)) (dZ eV))) (dZ (gD jc jd (Z.free 0) PySem.boot_len (d9 (dZ (eE 5)) eX)))))))
 (eG (fW (i:=8) nd (fD (dZ (eE 5)) (dZ (fJ jL jO (dZ (fJ g8 ir (dZ (fJ qj qd (dZ (eE 6)) (dZ eV))) (dZ (gD (Rm rfl) RG (Z.free 4) (by decide+kernel) (d9 (dZ eV) (d9 (dZ (fJ jL jO (dZ (fJ qj qd (dZ (eE 6)) (dZ eV))) (dZ eV))) eX)))))) (dZ (gD jc jd (Z.free 0) PySem.boot_len (d9 (dZ (eE 5)) eX)))))))
 (eG (lu (gj (abq Z Zx) hr tk (d9 (eE 6) (d9 (eE 7) (d9 (eE 8) (d9 (jy 3) (d9 (jy 4) eX)))))) (tK (fZ (jf 9 nd) (fZ (jf 10 nd) (fZ (jf 11 nd) jU)))))
 (eG (mK (i:=2) (eE 9))
 (eG (mK (i:=1) (eE 10))
 (eG (mK (i:=4) (eE 11))
 (eU (qU 3 hr.units (dZ (eE 7)) (fJ nu nq (dZ (gD jc jd (Z.free 0) PySem.boot_len (d9 (jy 1) eX))) (dZ eV)))))))))))
 (eU (aiM 3 (MN 2 (MN 1 (MN 4 (fQ (iJ (d9 (eE 2) (d9 (eE 1) (d9 (eE 4) (d9 (eE 3) eX))))))))))))))))))
theorem Pr{P:Program}{w:World}{K:aq}{mg:Str→Option Value}{base:Heap}(Z:mJ fa fn K mg)(Zx:oR xs K mg):alG P w K mg base "Book" 1 ["self"] (SpG K 1 Ce):=by
 have nd:(["self"]:List Str).Nodup:=Ac.nd
 refine amu (d:=Ck) (N:=["self"]) (n:=0) (k:=0) (bs:=[true]) Z 6 15 16 rfl rfl rfl rfl rfl rfl Ac rfl rfl (fun _ _ _ _ _ _ us hl=>match us,hl with|[_],_=>rfl) (fun pa f cdv A outer s H E hr tk hp=> ?_)
 exact(eU (afz 0 (Z.cls 13) (Z.noat 14) Ar))
theorem Vl{P:Program}{w:World}{K:aq}{mg:Str→Option Value}{base:Heap}(Z:mJ fa fn K mg)(Zx:oR xs K mg):Has P w K mg base "_law_counts" 1 ["_law_kinds","_law_sign"] (oZ K [.dat, .dat] .new zp):=by
 have nd:(["_law_kinds","_law_sign","_law_counts_here","_law_kind"]:List Str).Nodup:=Ft.nd
 refine gQ (d:=Hh) (N:=["_law_kinds","_law_sign","_law_counts_here","_law_kind"]) (n:=2) (k:=0) Z 7 17 rfl rfl rfl rfl rfl Ft rfl rfl (.inr (lE (lE wQ))) (fun _ _ _ _ _ _ us hl=>match us,hl with|[_,_],_=>rfl) (fun f cdv A outer s H E hr tk hp=> ?_)
 exact(eG (jC (i:=2) nd (jX eX))
 (eG (kJ hp (M5 (eE 0)) (jf 3 nd) (eU (fX (fM (gW hr.units) ne_eq (dZ (fD (dZ (eE 3)) (dZ eV))) (dZ fO)) (eU (mK (i:=2) (agr (dZ (fD (dZ (eE 3)) (dZ eV))) (dZ (eE 1))))) (eU (fX (fM (gW hr.units) ne_eq (dZ (fD (dZ (eE 3)) (dZ eV))) (dZ fO)) (eU (mK (i:=2) (fD (jy 2) (dZ (fD (dZ (eE 3)) (dZ eV)))))) (eU (mK (i:=2) (fJ g8 ir (dZ (fD (jy 2) (dZ (fD (dZ (eE 3)) (dZ eV))))) (dZ (fD (jy 2) (dZ (fD (dZ (eE 3)) (dZ eV)))))))))))))
 (eU (yF 2))))
theorem Kl{P:Program}{w:World}{K:aq}{mg:Str→Option Value}{base:Heap}(Z:mJ fa fn K mg)(Zx:oR xs K mg):Has P w K mg base "_law_place" 1 ["_law_cell","_law_size"] (oZ K [.dat, .dat] .dat nJ):=by
 have nd:(["_law_cell","_law_size"]:List Str).Nodup:=Hu.nd
 refine gQ (d:=Jz) (N:=["_law_cell","_law_size"]) (n:=0) (k:=0) Z 8 18 rfl rfl rfl rfl rfl Hu rfl rfl (.inl rfl) (fun _ _ _ _ _ _ us hl=>match us,hl with|[_,_],_=>rfl) (fun f cdv A outer s H E hr tk hp=> ?_)
 exact(eG (fX (fM (gW hr.units) ne_eq (dZ (fJ jL jO (dZ (eE 0)) (dZ eV))) (dZ eV)) (eU (fQ (fJ jL jO (dZ (fJ qj qd (dZ (eE 0)) (dZ eV))) (dZ (gD (Rm rfl) RG (Z.free 4) (by decide+kernel) (d9 (dZ (eE 1)) (d9 (dZ eV) eX))))))) fK)
 (eG (fX (fM (gW hr.units) ne_eq (dZ (fJ jL jO (dZ (eE 0)) (dZ eV))) (dZ eV)) (eU (fQ (fJ nu nq (dZ (fJ nu nq (dZ (eE 1)) (dZ eV))) (dZ (fJ jL jO (dZ (fJ qj qd (dZ (eE 0)) (dZ eV))) (dZ (gD (Rm rfl) RG (Z.free 4) (by decide+kernel) (d9 (dZ (eE 1)) (d9 (dZ eV) eX))))))))) fK)
 (eU (fQ (fJ jL jO (dZ (fJ nW oh (dZ (fJ qj qd (dZ (eE 0)) (dZ eV))) (dZ eV))) (dZ (eE 1)))))))
theorem RP{P:Program}{w:World}{K:aq}{mg:Str→Option Value}{base:Heap}(Z:mJ fa fn K mg)(Zx:oR xs K mg):Has P w K mg base "kinds_of" 1 ["verb"] (oZ K [.dat] .dat sV):=by
 have nd:(["verb"]:List Str).Nodup:=O4.nd
 refine gQ (d:=QW) (N:=["verb"]) (n:=0) (k:=0) Z 9 19 rfl rfl rfl rfl rfl O4 rfl rfl (.inl rfl) (fun _ _ _ _ _ _ us hl=>match us,hl with|[_],_=>rfl) (fun f cdv A outer s H E hr tk hp=> ?_)
 exact(eG (fX (fM (gW hr.units) ne_eq (dZ (eE 0)) (dZ fO)) (eU (fQ (j7 (jX (d9 fO eX))))) fK)
 (eG (fX (fM (gW hr.units) ne_eq (dZ (eE 0)) (dZ fO)) (eU (fQ (j7 (jX (d9 fO (d9 fO eX)))))) fK)
 (eG (fX (fM (gW hr.units) ne_eq (dZ (eE 0)) (dZ fO)) (eU (fQ (j7 (jX (d9 fO (d9 fO eX)))))) fK)
 (eG (fX (fM (gW hr.units) ne_eq (dZ (eE 0)) (dZ fO)) (eU (fQ (j7 (jX (d9 fO eX))))) fK)
 (eG (fX (fM (gW hr.units) ne_eq (dZ (eE 0)) (dZ fO)) (eU (fQ (j7 (jX (d9 fO (d9 fO (d9 fO eX))))))) fK)
 (eG (fX (fM (gW hr.units) ne_eq (dZ (eE 0)) (dZ fO)) (eU (fQ (j7 (jX (d9 fO (d9 fO (d9 fO eX))))))) fK)
 (eG (fX (zN (uK (fM (gW hr.units) ne_eq (dZ (eE 0)) (dZ fO)) (vC (fM (gW hr.units) ne_eq (dZ (eE 0)) (dZ fO))))) (eU (fQ (j7 (jX (d9 fO (d9 fO (d9 fO eX))))))) fK)
 (eU (fQ iW)))))))))
theorem VR{P:Program}{w:World}{K:aq}{mg:Str→Option Value}{base:Heap}(Z:mJ fa fn K mg)(Zx:oR xs K mg):Has P w K mg base "is_sign" 1 ["thing"] (oZ K [.dat] .dat tE):=by
 have nd:(["thing"]:List Str).Nodup:=Rq.nd
 refine gQ (d:=WN) (N:=["thing"]) (n:=0) (k:=0) Z 10 22 rfl rfl rfl rfl rfl Rq rfl rfl (.inl rfl) (fun _ _ _ _ _ _ us hl=>match us,hl with|[_],_=>rfl) (fun f cdv A outer s H E hr tk hp=> ?_)
 exact(eU (fQ (Mf (dZ (xr "str" PyProof.Rows.boot_str Qn (Z.free 21) (Z.free 7) (dZ (eE 0)))) (Mf (dZ (Gg (gW hr.units) ne_eq (dZ (gD jc jd (Z.free 0) PySem.boot_len (d9 (dZ (eE 0)) eX))) (dZ eV))) (Mr (Gg alr (abH _) (dZ (eE 0)) (dZ (X5 (Z.str 20)))))))))
theorem Ik{P:Program}{w:World}{K:aq}{mg:Str→Option Value}{base:Heap}(Z:mJ fa fn K mg)(Zx:oR xs K mg):Has P w K mg base "signs_of" 2 ["text","most"] (oZ K [.dat, .dat] .dat uN):=by
 have nd:(["text","most","sign"]:List Str).Nodup:=O3.nd
 refine gQ (d:=S8) (N:=["text","most","sign"]) (n:=1) (k:=1) Z 11 23 rfl rfl rfl rfl rfl O3 rfl rfl (.inl rfl) (fun _ _ _ _ _ _ us hl=>match us,hl with|[_,_],_=>rfl) (fun f cdv A outer s H E hr tk hp=> ?_)
 exact(eG (fX (mU (rH rN rN rK rK (dZ eV) (dZ (gD jc jd (Z.free 0) PySem.boot_len (d9 (dZ (eE 0)) eX))) (dZ (eE 1)))) (eU (fQ iW)) fK)
 (eG (kJ hp (afM (eE 0)) (jf 2 nd) (eU (fX (mU (pF (dZ (gj (VR Z Zx) hr tk (d9 (eE 2) eX))))) (eU (fQ iW)) fK)))
 (eU (fQ (eE 0)))))
theorem V7{P:Program}{w:World}{K:aq}{mg:Str→Option Value}{base:Heap}(Z:mJ fa fn K mg)(Zx:oR xs K mg):Has P w K mg base "is_word" 1 ["text"] (oZ K [.dat] .dat zW):=by
 have nd:(["text","sign"]:List Str).Nodup:=Rc.nd
 refine gQ (d:=VF) (N:=["text","sign"]) (n:=1) (k:=0) Z 12 26 rfl rfl rfl rfl rfl Rc rfl rfl (.inl rfl) (fun _ _ _ _ _ _ us hl=>match us,hl with|[_],_=>rfl) (fun f cdv A outer s H E hr tk hp=> ?_)
 exact(eG (fX (mU (rH rN rN rK rK (dZ eV) (dZ (gD jc jd (Z.free 0) PySem.boot_len (d9 (dZ (eE 0)) eX))) (dZ (wA (Z.int 24))))) (eU (fQ qG)) fK)
 (eG (kJ hp (afM (eE 0)) (jf 1 nd) (eU (fX (fM Ww (abH _) (dZ (eE 1)) (dZ (X5 (Z.str 25)))) (eU (fQ qG)) fK)))
 (eU (fQ qG))))
theorem Nm{P:Program}{w:World}{K:aq}{mg:Str→Option Value}{base:Heap}(Z:mJ fa fn K mg)(Zx:oR xs K mg):Has P w K mg base "number_of" 1 ["text","most"] (oZ K [.dat, .dat] .dat yE):=by
 have nd:(["text","most","sign","number"]:List Str).Nodup:=JN.nd
 refine gQ (d:=N6) (N:=["text","most","sign","number"]) (n:=2) (k:=0) Z 13 30 rfl rfl rfl rfl rfl JN rfl rfl (.inl rfl) (fun _ _ _ _ _ _ us hl=>match us,hl with|[_,_],_=>rfl) (fun f cdv A outer s H E hr tk hp=> ?_)
 exact(eG (fX (zN (uK (mU (rH rN rN rK rK (dZ eV) (dZ (gD jc jd (Z.free 0) PySem.boot_len (d9 (dZ (eE 0)) eX))) (dZ (wA (Z.int 27))))) (vC (zN (DQ (fM BZ BV (dZ (gD jc jd (Z.free 0) PySem.boot_len (d9 (dZ (eE 0)) eX))) (dZ eV)) (yr (fM (gW hr.units) ne_eq (dZ (fD (dZ (eE 0)) (dZ eV))) (dZ fO)))))))) (eU (fQ iW)) fK)
 (eG (kJ hp (afM (eE 0)) (jf 2 nd) (eU (fX (fM Ww (abH _) (dZ (eE 2)) (dZ (X5 (Z.str 28)))) (eU (fQ iW)) fK)))
 (eG (fW (i:=3) nd (iY aiO aij (Z.free 29) (by decide+kernel) (d9 (dZ (eE 0)) eX)))
 (eG (fX (fM BZ BV (dZ (eE 3)) (dZ (eE 1))) (eU (fQ iW)) fK)
 (eU (fQ (eE 3)))))))
theorem abT{P:Program}{w:World}{K:aq}{mg:Str→Option Value}{base:Heap}(Z:mJ fa fn K mg)(Zx:oR xs K mg):Has P w K mg base "value_of" 3 ["kind","word"] (oZ K [.dat, .dat] .dat jm):=by
 have nd:(["kind","word"]:List Str).Nodup:=Oo.nd
 refine gQ (d:=T8) (N:=["kind","word"]) (n:=0) (k:=2) Z 14 34 rfl rfl rfl rfl rfl Oo rfl rfl (.inl rfl) (fun _ _ _ _ _ _ us hl=>match us,hl with|[_,_],_=>rfl) (fun f cdv A outer s H E hr tk hp=> ?_)
 exact(eG (fX (fM (gW hr.units) ne_eq (dZ (eE 0)) (dZ fO)) (eG (fX (pF (dZ (gj (V7 Z Zx) hr tk (d9 (eE 1) eX)))) (eU (fQ (eE 1))) fK)
 (eU (fQ iW))) fK)
 (eG (fX (fM (gW hr.units) ne_eq (dZ (eE 0)) (dZ fO)) (eU (fQ (gj (Nm Z Zx) hr tk (d9 (eE 1) (d9 (fJ Af ne_pow (dZ eV) (dZ eV)) eX))))) fK)
 (eG (fX (fM (gW hr.units) ne_eq (dZ (eE 0)) (dZ fO)) (eU (fQ (gj (Nm Z Zx) hr tk (d9 (eE 1) (d9 (wA (Z.int 31)) eX))))) fK)
 (eG (fX (fM (gW hr.units) ne_eq (dZ (eE 0)) (dZ fO)) (eU (fQ (gj (Ik Z Zx) hr tk (d9 (eE 1) (d9 eV eX))))) fK)
 (eG (fX (fM (gW hr.units) ne_eq (dZ (eE 0)) (dZ fO)) (eU (fQ (gj (Ik Z Zx) hr tk (d9 (eE 1) (d9 (wA (Z.int 32)) eX))))) fK)
 (eU (fQ (gj (Ik Z Zx) hr tk (d9 (eE 1) (d9 (wA (Z.int 33)) eX))))))))))
theorem Nq{P:Program}{w:World}{K:aq}{mg:Str→Option Value}{base:Heap}(Z:mJ fa fn K mg)(Zx:oR xs K mg):Has P w K mg base "values_of" 4 ["kinds","words"] (oZ K [.dat, .dat] .dat yG):=by
 have nd:(["kinds","words","values","kind","word","value"]:List Str).Nodup:=Jo.nd
 refine gQ (d:=Nv) (N:=["kinds","words","values","kind","word","value"]) (n:=4) (k:=3) Z 15 36 rfl rfl rfl rfl rfl Jo rfl rfl (.inl rfl) (fun _ _ _ _ _ _ us hl=>match us,hl with|[_,_],_=>rfl) (fun f cdv A outer s H E hr tk hp=> ?_)
 exact(eG (fX (fM (uJ hr.units) yS (dZ (gD jc jd (Z.free 0) PySem.boot_len (d9 (dZ (eE 0)) eX))) (dZ (gD jc jd (Z.free 0) PySem.boot_len (d9 (dZ (eE 1)) eX)))) (eU (fQ iW)) fK)
 (eG (jC (i:=2) nd (jX eX))
 (eG (kJ hp (akz (Z.free 35) (d9 (eE 0) (d9 (eE 1) eX))) (tK (fZ (jf 3 nd) (fZ (jf 4 nd) jU))) (eG (fW (i:=5) nd (gj (abT Z Zx) hr tk (d9 (eE 3) (d9 (eE 4) eX))))
 (eG (fX (fM qO ne_is (dZ (eE 5)) (dZ iW)) (eU (fQ iW)) fK)
 (eU (mK (i:=2) (eE 5))))))
 (eU (ajt 2)))))
theorem Dz{P:Program}{w:World}{K:aq}{mg:Str→Option Value}{base:Heap}(Z:mJ fa fn K mg)(Zx:oR xs K mg):Has P w K mg base "statement_of" 5 ["row"] (oZ K [.dat] .dat mO):=by
 have nd:(["row","words","kinds","values"]:List Str).Nodup:=Ci.nd
 refine gQ (d:=Fb) (N:=["row","words","kinds","values"]) (n:=3) (k:=4) Z 16 37 rfl rfl rfl rfl rfl Ci rfl rfl (.inl rfl) (fun _ _ _ _ _ _ us hl=>match us,hl with|[_],_=>rfl) (fun f cdv A outer s H E hr tk hp=> ?_)
 exact(eG (fW (i:=1) nd (j7 (TJ (dZ (eE 0)) (dZ fO))))
 (eG (fX (zN (uK (fM qp qD (dZ (gD jc jd (Z.free 0) PySem.boot_len (d9 (dZ (eE 1)) eX))) (dZ eV)) (vC (mU (pF (dZ (gj (V7 Z Zx) hr tk (d9 (fD (dZ (eE 1)) (dZ eV)) eX)))))))) (eU (fQ iW)) fK)
 (eG (fW (i:=2) nd (gj (RP Z Zx) hr tk (d9 (fD (dZ (eE 1)) (dZ eV)) eX)))
 (eG (fX (fM qO ne_is (dZ (eE 2)) (dZ iW)) (eU (fQ iW)) fK)
 (eG (fW (i:=3) nd (gj (Nq Z Zx) hr tk (d9 (eE 2) (d9 (W7 (dZ (eE 1)) (G3 (dZ eV)) GD) eX))))
 (eG (fX (fM qO ne_is (dZ (eE 3)) (dZ iW)) (eU (fQ iW)) fK)
 (eU (fQ (iJ (d9 (fD (dZ (eE 1)) (dZ eV)) (d9 (fD (dZ (eE 1)) (dZ eV)) (d9 (eE 3) eX))))))))))))
theorem HW{P:Program}{w:World}{K:aq}{mg:Str→Option Value}{base:Heap}(Z:mJ fa fn K mg)(Zx:oR xs K mg):Has P w K mg base "asked_kinds" 1 ["verb"] (oZ K [.dat] .dat iU):=by
 have nd:(["verb"]:List Str).Nodup:=Fg.nd
 refine gQ (d:=HY) (N:=["verb"]) (n:=0) (k:=0) Z 17 38 rfl rfl rfl rfl rfl Fg rfl rfl (.inl rfl) (fun _ _ _ _ _ _ us hl=>match us,hl with|[_],_=>rfl) (fun f cdv A outer s H E hr tk hp=> ?_)
 exact(eG (fX (fM (gW hr.units) ne_eq (dZ (eE 0)) (dZ fO)) (eU (fQ (j7 (jX eX)))) fK)
 (eG (fX (fM YL (Xv _) (dZ (eE 0)) (dZ (iJ (d9 fO (d9 fO (d9 fO (d9 fO (d9 fO eX)))))))) (eU (fQ (j7 (jX (d9 fO eX))))) fK)
 (eG (fX (fM YL (Xv _) (dZ (eE 0)) (dZ (iJ (d9 fO (d9 fO (d9 fO (d9 fO eX))))))) (eU (fQ (j7 (jX (d9 fO (d9 fO eX)))))) fK)
 (eG (fX (fM YL (Xv _) (dZ (eE 0)) (dZ (iJ (d9 fO (d9 fO eX))))) (eU (fQ (j7 (jX (d9 fO (d9 fO eX)))))) fK)
 (eG (fX (fM (gW hr.units) ne_eq (dZ (eE 0)) (dZ fO)) (eU (fQ (j7 (jX (d9 fO (d9 fO eX)))))) fK)
 (eG (fX (fM (gW hr.units) ne_eq (dZ (eE 0)) (dZ fO)) (eU (fQ (j7 (jX (d9 fO (d9 fO eX)))))) fK)
 (eU (fQ iW))))))))
theorem Zr{P:Program}{w:World}{K:aq}{mg:Str→Option Value}{base:Heap}(Z:mJ fa fn K mg)(Zx:oR xs K mg):Has P w K mg base "asking_of" 5 ["row"] (oZ K [.dat] .dat yP):=by
 have nd:(["row","words","kinds","values"]:List Str).Nodup:=KH.nd
 refine gQ (d:=Ot) (N:=["row","words","kinds","values"]) (n:=3) (k:=4) Z 18 39 rfl rfl rfl rfl rfl KH rfl rfl (.inl rfl) (fun _ _ _ _ _ _ us hl=>match us,hl with|[_],_=>rfl) (fun f cdv A outer s H E hr tk hp=> ?_)
 exact(eG (fW (i:=1) nd (j7 (TJ (dZ (eE 0)) (dZ fO))))
 (eG (fW (i:=2) nd (gj (HW Z Zx) hr tk (d9 (fD (dZ (eE 1)) (dZ eV)) eX)))
 (eG (fX (fM qO ne_is (dZ (eE 2)) (dZ iW)) (eU (fQ iW)) fK)
 (eG (fW (i:=3) nd (gj (Nq Z Zx) hr tk (d9 (eE 2) (d9 (W7 (dZ (eE 1)) (G3 (dZ eV)) GD) eX))))
 (eG (fX (fM qO ne_is (dZ (eE 3)) (dZ iW)) (eU (fQ iW)) fK)
 (eU (fQ (iJ (d9 (fD (dZ (eE 1)) (dZ eV)) (d9 (eE 3) eX))))))))))
theorem Eo{P:Program}{w:World}{K:aq}{mg:Str→Option Value}{base:Heap}(Z:mJ fa fn K mg)(Zx:oR xs K mg):Has P w K mg base "ask_standing" 1 ["texts","kinds","values"] (oZ K [.bor, .dat, .dat] .dat j8):=by
 have nd:(["texts","kinds","values","kind","value"]:List Str).Nodup:=Cg.nd
 refine gQ (d:=Ef) (N:=["texts","kinds","values","kind","value"]) (n:=2) (k:=0) Z 19 42 rfl rfl rfl rfl rfl Cg rfl rfl (.inl rfl) (fun _ _ _ _ _ _ us hl=>match us,hl with|[_,_,_],_=>rfl) (fun f cdv A outer s H E hr tk hp=> ?_)
 exact(eU (kJ hp (akz (Z.free 35) (d9 (eE 1) (d9 (eE 2) eX))) (tK (fZ (jf 3 nd) (fZ (jf 4 nd) jU))) (eU (fX (zN (DQ (fM (gW hr.units) ne_eq (dZ (eE 3)) (dZ fO)) (yr (fM (aep hr.units) (afD _) (dZ (eE 4)) (jy 0))))) (eU (pX tk (Z.exc 40) (Z.glo 41))) fK))))
theorem DP{P:Program}{w:World}{K:aq}{mg:Str→Option Value}{base:Heap}(Z:mJ fa fn K mg)(Zx:oR xs K mg):Has P w K mg base "as_answer" 1 ["number"] (oZ K [.dat] .dat yQ):=by
 have nd:(["number"]:List Str).Nodup:=Kr.nd
 refine gQ (d:=Oh) (N:=["number"]) (n:=0) (k:=0) Z 20 43 rfl rfl rfl rfl rfl Kr rfl rfl (.inl rfl) (fun _ _ _ _ _ _ us hl=>match us,hl with|[_],_=>rfl) (fun f cdv A outer s H E hr tk hp=> ?_)
 exact(eG (fX (fM qO ne_is (dZ (eE 0)) (dZ iW)) (eU (fQ fO)) fK)
 (eU (fQ (iY Am wk (Z.free 7) (by decide+kernel) (d9 (dZ (eE 0)) eX)))))
theorem Bp{P:Program}{w:World}{K:aq}{mg:Str→Option Value}{base:Heap}(Z:mJ fa fn K mg)(Zx:oR xs K mg):Has P w K mg base "named" 1 ["rules","name"] (oZ K [.dat, .dat] .dat qY):=by
 have nd:(["rules","name"]:List Str).Nodup:=abx.nd
 refine gQ (d:=acY) (N:=["rules","name"]) (n:=0) (k:=0) Z 21 46 rfl rfl rfl rfl rfl abx rfl rfl (.inl rfl) (fun _ _ _ _ _ _ us hl=>match us,hl with|[_,_],_=>rfl) (fun f cdv A outer s H E hr tk hp=> ?_)
 exact(eU (fX (zN (DQ (fM FJ Dq (dZ (eE 1)) (dZ iW)) (yr (mU (rH rN qp rK qD (dZ eV) (dZ (eE 1)) (dZ (gD jc jd (Z.free 0) PySem.boot_len (d9 (dZ (eE 0)) eX)))))))) (eU (pX tk (Z.exc 44) (Z.glo 45))) fK))
theorem afe{P:Program}{w:World}{K:aq}{mg:Str→Option Value}{base:Heap}(Z:mJ fa fn K mg)(Zx:oR xs K mg):Has P w K mg base "size_of" 1 ["rule","sizes"] (oZ K [.dat, .bor] .dat uQ):=by
 have nd:(["rule","sizes"]:List Str).Nodup:=Rr.nd
 refine gQ (d:=Wz) (N:=["rule","sizes"]) (n:=0) (k:=0) Z 22 47 rfl rfl rfl rfl rfl Rr rfl rfl (.inl rfl) (fun _ _ _ _ _ _ us hl=>match us,hl with|[_,_],_=>rfl) (fun f cdv A outer s H E hr tk hp=> ?_)
 exact(eG (fX (fM (gW hr.units) ne_eq (dZ (fD (dZ (eE 0)) (dZ eV))) (dZ fO)) (eU (fQ eV)) fK)
 (eG (fX (fM (gW hr.units) ne_eq (dZ (fD (dZ (eE 0)) (dZ eV))) (dZ fO)) (eU (fQ (fJ g8 ir (dZ (fD (jy 1) (dZ (fD (dZ (eE 0)) (dZ eV))))) (dZ (fD (jy 1) (dZ (fD (dZ (eE 0)) (dZ eV)))))))) fK)
 (eU (fQ (fJ nW oh (dZ (fD (jy 1) (dZ (fD (dZ (eE 0)) (dZ eV))))) (dZ (fD (dZ (eE 0)) (dZ eV))))))))
theorem G4{P:Program}{w:World}{K:aq}{mg:Str→Option Value}{base:Heap}(Z:mJ fa fn K mg)(Zx:oR xs K mg):Has P w K mg base "lengths" 2 ["rules"] (oZ K [.dat] .new wU):=by
 have nd:(["rules","sizes","rule"]:List Str).Nodup:=Ui.nd
 refine gQ (d:=W8) (N:=["rules","sizes","rule"]) (n:=2) (k:=1) Z 23 48 rfl rfl rfl rfl rfl Ui rfl rfl (.inr (lE (lE wQ))) (fun _ _ _ _ _ _ us hl=>match us,hl with|[_],_=>rfl) (fun f cdv A outer s H E hr tk hp=> ?_)
 exact(eG (jC (i:=1) nd (jX eX))
 (eG (kJ hp (aiZ (eE 0)) (jf 2 nd) (eU (mK (i:=1) (gj (afe Z Zx) hr tk (d9 (eE 2) (d9 (jy 1) eX))))))
 (eU (yF 1))))
theorem pU{P:Program}{w:World}{K:aq}{mg:Str→Option Value}{base:Heap}(Z:mJ fa fn K mg)(Zx:oR xs K mg):Has P w K mg base "length" 3 ["rules","name"] (oZ K [.dat, .dat] .dat lQ):=by
 have nd:(["rules","name"]:List Str).Nodup:=Wl.nd
 refine gQ (d:=Zi) (N:=["rules","name"]) (n:=0) (k:=2) Z 24 49 rfl rfl rfl rfl rfl Wl rfl rfl (.inl rfl) (fun _ _ _ _ _ _ us hl=>match us,hl with|[_,_],_=>rfl) (fun f cdv A outer s H E hr tk hp=> ?_)
 exact(eG (vg (gj (Bp Z Zx) hr tk (d9 (eE 0) (d9 (eE 1) eX))))
 (eG (fX (fM qO ne_is (dZ (eE 1)) (dZ iW)) (eU (fQ eV)) fK)
 (eU (fQ (fD (Bv (gj (G4 Z Zx) hr tk (d9 (eE 0) eX))) (dZ (eE 1)))))))
theorem Mg{P:Program}{w:World}{K:aq}{mg:Str→Option Value}{base:Heap}(Z:mJ fa fn K mg)(Zx:oR xs K mg):Has P w K mg base "sign_at" 4 ["rules","name","place"] (oZ K [.dat, .dat, .dat] .dat wI):=by
 have nd:(["rules","name","place","size","sizes","rule"]:List Str).Nodup:=R5.nd
 refine gQ (d:=Wm) (N:=["rules","name","place","size","sizes","rule"]) (n:=3) (k:=3) Z 25 52 rfl rfl rfl rfl rfl R5 rfl rfl (.inl rfl) (fun _ _ _ _ _ _ us hl=>match us,hl with|[_,_,_],_=>rfl) (fun f cdv A outer s H E hr tk hp=> ?_)
 exact(eG (fW (i:=3) nd (gj (pU Z Zx) hr tk (d9 (eE 0) (d9 (eE 1) eX))))
 (eG (fX (zN (uK (fM qp qD (dZ (eE 2)) (dZ eV)) (vC (fM ajU ajM (dZ (eE 2)) (dZ (eE 3)))))) (eU (pX tk (Z.exc 50) (Z.glo 51))) fK)
 (eG (fW (i:=4) nd (j7 (gj (G4 Z Zx) hr tk (d9 (eE 0) eX))))
 (eG (fW (i:=5) nd (fD (dZ (eE 0)) (dZ (eE 1))))
 (eG (vA hp (fM (uJ hr.units) yS (dZ (fD (dZ (eE 5)) (dZ eV))) (dZ fO)) (eG (fW (i:=3) nd (fD (dZ (eE 4)) (dZ (fD (dZ (eE 5)) (dZ eV)))))
 (eU (fX (fM (gW hr.units) ne_eq (dZ (fD (dZ (eE 5)) (dZ eV))) (dZ fO)) (eG (fW (i:=2) nd (fJ jL jO (dZ (eE 2)) (dZ (eE 3))))
 (eU (fW (i:=5) nd (fD (dZ (eE 0)) (dZ (fD (dZ (eE 5)) (dZ eV))))))) (eU (fX (fM qp qD (dZ (eE 2)) (dZ (eE 3))) (eU (fW (i:=5) nd (fD (dZ (eE 0)) (dZ (fD (dZ (eE 5)) (dZ eV)))))) (eG (fW (i:=2) nd (fJ nu nq (dZ (eE 2)) (dZ (eE 3))))
 (eU (fW (i:=5) nd (fD (dZ (eE 0)) (dZ (fD (dZ (eE 5)) (dZ eV)))))))))))))
 (eU (fQ (fD (dZ (eE 5)) (dZ eV)))))))))
theorem tY{P:Program}{w:World}{K:aq}{mg:Str→Option Value}{base:Heap}(Z:mJ fa fn K mg)(Zx:oR xs K mg):Has P w K mg base "put_making" 1 ["rows","rule"] (Vt K 1 j6):=by
 have nd:(["rows","rule"]:List Str).Nodup:=Hr.nd
 refine M4 (d:=JL) (N:=["rows","rule"]) (n:=0) (k:=0) Z 26 53 rfl rfl rfl rfl rfl Hr rfl rfl (fun _ _ _ _ _ _ us hl=>match us,hl with|[_,_],_=>rfl) (fun pp f cdv A outer s H E hr tk hp=> ?_)
 exact(eG (mK (i:=0) (eE 1))
 (eU (Bj (fJ nu nq (dZ (gD jc jd (Z.free 0) PySem.boot_len (d9 (jy 0) eX))) (dZ eV)))))
theorem zX{P:Program}{w:World}{K:aq}{mg:Str→Option Value}{base:Heap}(Z:mJ fa fn K mg)(Zx:oR xs K mg):Has P w K mg base "linked" 2 ["rows","one","other"] (Vt K 2 jY):=by
 have nd:(["rows","one","other"]:List Str).Nodup:=Vz.nd
 refine M4 (d:=Zg) (N:=["rows","one","other"]) (n:=0) (k:=1) Z 27 54 rfl rfl rfl rfl rfl Vz rfl rfl (fun _ _ _ _ _ _ us hl=>match us,hl with|[_,_,_],_=>rfl) (fun pp f cdv A outer s H E hr tk hp=> ?_)
 exact(eG (fX (fM qO ne_is (dZ (eE 1)) (dZ iW)) (eU (Bj (eE 2))) fK)
 (eG (fX (fM qO ne_is (dZ (eE 2)) (dZ iW)) (eU (Bj (eE 1))) fK)
 (eU (Qy (vQ 0 (tY Z Zx) hr tk (d9 (iJ (d9 fO (d9 (eE 1) (d9 (eE 2) eX)))) eX))))))
theorem Xh{P:Program}{w:World}{K:aq}{mg:Str→Option Value}{base:Heap}(Z:mJ fa fn K mg)(Zx:oR xs K mg):Has P w K mg base "over" 2 ["rows","one","many"] (Vt K 2 vJ):=by
 have nd:(["rows","one","many"]:List Str).Nodup:=adz.nd
 refine M4 (d:=af7) (N:=["rows","one","many"]) (n:=0) (k:=1) Z 28 55 rfl rfl rfl rfl rfl adz rfl rfl (fun _ _ _ _ _ _ us hl=>match us,hl with|[_,_,_],_=>rfl) (fun pp f cdv A outer s H E hr tk hp=> ?_)
 exact(eG (fX (zN (uK (fM qO ne_is (dZ (eE 1)) (dZ iW)) (vC (fM (gW hr.units) ne_eq (dZ (eE 2)) (dZ eV))))) (eU (Bj iW)) fK)
 (eG (fX (fM (gW hr.units) ne_eq (dZ (eE 2)) (dZ eV)) (eU (Bj (eE 1))) fK)
 (eU (Qy (vQ 0 (tY Z Zx) hr tk (d9 (iJ (d9 fO (d9 (eE 1) (d9 (eE 2) eX)))) eX))))))
theorem afr{P:Program}{w:World}{K:aq}{mg:Str→Option Value}{base:Heap}(Z:mJ fa fn K mg)(Zx:oR xs K mg):Has P w K mg base "ending" 3 ["rows","sizes","name","many"] (Vt K 3 t8):=by
 have nd:(["rows","sizes","name","many","parts","found","part","rule"]:List Str).Nodup:=W9.nd
 refine M4 (d:=aaw) (N:=["rows","sizes","name","many","parts","found","part","rule"]) (n:=4) (k:=2) Z 29 57 rfl rfl rfl rfl rfl W9 rfl rfl (fun _ _ _ _ _ _ us hl=>match us,hl with|[_,_,_,_],_=>rfl) (fun pp f cdv A outer s H E hr tk hp=> ?_)
 exact(eG (jC (i:=4) nd (jX eX))
 (eG (vA hp (rH qp qp qD qD (dZ eV) (dZ (eE 3)) (dZ (fD (dZ (eE 1)) (dZ (eE 2))))) (eG (fW (i:=7) nd (fD (jy 0) (dZ (eE 2))))
 (eU (fX (fM (gW hr.units) ne_eq (dZ (fD (dZ (eE 7)) (dZ eV))) (dZ fO)) (eG (adf (i:=4) (vQ 0 (Xh Z Zx) hr tk (d9 (fD (dZ (eE 7)) (dZ eV)) (d9 (fJ qj qd (dZ (eE 3)) (dZ (fD (dZ (eE 1)) (dZ (fD (dZ (eE 7)) (dZ eV)))))) eX))))
 (eG (fW (i:=3) nd (fJ jL jO (dZ (eE 3)) (dZ (fD (dZ (eE 1)) (dZ (fD (dZ (eE 7)) (dZ eV)))))))
 (eU (fW (i:=2) nd (fD (dZ (eE 7)) (dZ eV)))))) (eU (fX (fM qp qD (dZ (eE 3)) (dZ (fD (dZ (eE 1)) (dZ (fD (dZ (eE 7)) (dZ eV)))))) (eU (fW (i:=2) nd (fD (dZ (eE 7)) (dZ eV)))) (eG (mK (i:=4) (fD (dZ (eE 7)) (dZ eV)))
 (eG (fW (i:=3) nd (fJ nu nq (dZ (eE 3)) (dZ (fD (dZ (eE 1)) (dZ (fD (dZ (eE 7)) (dZ eV)))))))
 (eU (fW (i:=2) nd (fD (dZ (eE 7)) (dZ eV))))))))))))
 (eG (fW (i:=5) nd iW)
 (eG (fX (fM BZ BV (dZ (eE 3)) (dZ eV)) (eU (fW (i:=5) nd (eE 2))) fK)
 (eG (MN 4 (kJ hp (aj5 (Z.free 56) (eE 4)) (jf 6 nd) (eU (BP (i:=5) nd (vQ 0 (zX Z Zx) hr tk (d9 (eE 5) (d9 (eE 6) eX)))))))
 (eU (Bj (eE 5))))))))
theorem Ox{P:Program}{w:World}{K:aq}{mg:Str→Option Value}{base:Heap}(Z:mJ fa fn K mg)(Zx:oR xs K mg):Has P w K mg base "beginning" 3 ["rows","sizes","name","many"] (Vt K 3 kY):=by
 have nd:(["rows","sizes","name","many","parts","found","part","rule","size"]:List Str).Nodup:=Ke.nd
 refine M4 (d:=Nk) (N:=["rows","sizes","name","many","parts","found","part","rule","size"]) (n:=5) (k:=2) Z 30 58 rfl rfl rfl rfl rfl Ke rfl rfl (fun _ _ _ _ _ _ us hl=>match us,hl with|[_,_,_,_],_=>rfl) (fun pp f cdv A outer s H E hr tk hp=> ?_)
 exact(eG (jC (i:=4) nd (jX eX))
 (eG (vA hp (rH qp qp qD qD (dZ eV) (dZ (eE 3)) (dZ (fD (dZ (eE 1)) (dZ (eE 2))))) (eG (fW (i:=7) nd (fD (jy 0) (dZ (eE 2))))
 (eG (fW (i:=8) nd (fD (dZ (eE 1)) (dZ (fD (dZ (eE 7)) (dZ eV)))))
 (eU (fX (fM (gW hr.units) ne_eq (dZ (fD (dZ (eE 7)) (dZ eV))) (dZ fO)) (eG (adf (i:=4) (vQ 0 (Xh Z Zx) hr tk (d9 (fD (dZ (eE 7)) (dZ eV)) (d9 (fJ qj qd (dZ (eE 3)) (dZ (eE 8))) eX))))
 (eG (fW (i:=3) nd (fJ jL jO (dZ (eE 3)) (dZ (eE 8))))
 (eU (fW (i:=2) nd (fD (dZ (eE 7)) (dZ eV)))))) (eU (fX (fM qp qD (dZ (eE 3)) (dZ (eE 8))) (eU (fW (i:=2) nd (fD (dZ (eE 7)) (dZ eV)))) (eG (mK (i:=4) (fD (dZ (eE 7)) (dZ eV)))
 (eG (fW (i:=3) nd (fJ nu nq (dZ (eE 3)) (dZ (eE 8))))
 (eU (fW (i:=2) nd (fD (dZ (eE 7)) (dZ eV)))))))))))))
 (eG (fW (i:=5) nd iW)
 (eG (fX (fM BZ BV (dZ (eE 3)) (dZ eV)) (eU (fW (i:=5) nd (eE 2))) fK)
 (eG (MN 4 (kJ hp (aj5 (Z.free 56) (eE 4)) (jf 6 nd) (eU (BP (i:=5) nd (vQ 0 (zX Z Zx) hr tk (d9 (eE 6) (d9 (eE 5) eX)))))))
 (eU (Bj (eE 5))))))))
theorem agg{P:Program}{w:World}{K:aq}{mg:Str→Option Value}{base:Heap}(Z:mJ fa fn K mg)(Zx:oR xs K mg):Has P w K mg base "across" 4 ["rows","sizes","rule","start","end"] (Vt K 4 rQ):=by
 have nd:(["rows","sizes","rule","start","end","one","size","found"]:List Str).Nodup:=V5.nd
 refine M4 (d:=aaM) (N:=["rows","sizes","rule","start","end","one","size","found"]) (n:=3) (k:=3) Z 31 59 rfl rfl rfl rfl rfl V5 rfl rfl (fun _ _ _ _ _ _ us hl=>match us,hl with|[_,_,_,_,_],_=>rfl) (fun pp f cdv A outer s H E hr tk hp=> ?_)
 exact(eG (fW (i:=5) nd (fD (dZ (eE 2)) (dZ eV)))
 (eG (fW (i:=6) nd (fD (dZ (eE 1)) (dZ (eE 5))))
 (eG (BP (i:=7) nd (vQ 0 (afr Z Zx) hr tk (d9 (eE 1) (d9 (eE 5) (d9 (fJ nu nq (dZ (eE 6)) (dZ (eE 3))) eX)))))
 (eG (fX (fM (gW hr.units) ne_eq (dZ (fD (dZ (eE 2)) (dZ eV))) (dZ fO)) (eU (Qy (abQ 0 (zX Z Zx) hr tk (eE 7) (vQ 0 (Ox Z Zx) hr tk (d9 (eE 1) (d9 (fD (dZ (eE 2)) (dZ eV)) (d9 (fJ nu nq (dZ (eE 4)) (dZ (eE 6))) eX))))))) fK)
 (eG (BP (i:=7) nd (abQ 0 (zX Z Zx) hr tk (eE 7) (vQ 0 (Xh Z Zx) hr tk (d9 (eE 5) (d9 (fJ qj qd (dZ (fJ nu nq (dZ (eE 4)) (dZ (eE 6)))) (dZ (eE 6))) eX)))))
 (eU (Qy (abQ 0 (zX Z Zx) hr tk (eE 7) (vQ 0 (Ox Z Zx) hr tk (d9 (eE 1) (d9 (eE 5) (d9 (fJ jL jO (dZ (fJ nu nq (dZ (eE 4)) (dZ (eE 6)))) (dZ (eE 6))) eX))))))))))))
theorem R7{P:Program}{w:World}{K:aq}{mg:Str→Option Value}{base:Heap}(Z:mJ fa fn K mg)(Zx:oR xs K mg):Has P w K mg base "cut" 5 ["rules","name","start","end"] (oZ K [.dat, .dat, .dat, .dat] .dat vq):=by
 have nd:(["rules","name","start","end","size","sizes","rule","rows","found"]:List Str).Nodup:=afv.nd
 refine gQ (d:=ajN) (N:=["rules","name","start","end","size","sizes","rule","rows","found"]) (n:=5) (k:=4) Z 32 61 rfl rfl rfl rfl rfl afv rfl rfl (.inl rfl) (fun _ _ _ _ _ _ us hl=>match us,hl with|[_,_,_,_],_=>rfl) (fun f cdv A outer s H E hr tk hp=> ?_)
 exact(eG (fW (i:=4) nd (gj (pU Z Zx) hr tk (d9 (eE 0) (d9 (eE 1) eX))))
 (eG (fX (mU (aer rN rN rN rK rK rK (dZ eV) (dZ (eE 2)) (dZ (eE 3)) (dZ (eE 4)))) (eU (pX tk (Z.exc 50) (Z.glo 51))) fK)
 (eG (fX (fM (gW hr.units) ne_eq (dZ (eE 2)) (dZ (eE 3))) (eU (fQ (iJ (d9 (iY rJ rO (Z.free 60) (by decide+kernel) (d9 (dZ (eE 0)) eX)) (d9 iW eX))))) fK)
 (eG (fW (i:=5) nd (j7 (gj (G4 Z Zx) hr tk (d9 (eE 0) eX))))
 (eG (vA hp (fM (uJ hr.units) yS (dZ (fD (dZ (fD (dZ (eE 0)) (dZ (eE 1)))) (dZ eV))) (dZ fO)) (eG (fW (i:=6) nd (fD (dZ (eE 0)) (dZ (eE 1))))
 (eG (fW (i:=4) nd (fD (dZ (eE 5)) (dZ (fD (dZ (eE 6)) (dZ eV)))))
 (eG (fX (fM (gW hr.units) ne_eq (dZ (fD (dZ (eE 6)) (dZ eV))) (dZ fO)) (eG (fW (i:=3) nd (fJ nu nq (dZ (eE 3)) (dZ (fJ nW oh (dZ (fJ qj qd (dZ (eE 2)) (dZ (eE 4)))) (dZ (eE 4))))))
 (eU (fW (i:=2) nd (fJ jL jO (dZ (eE 2)) (dZ (eE 4)))))) fK)
 (eU (fX (fM ajU ajM (dZ (eE 2)) (dZ (eE 4))) (eG (fW (i:=2) nd (fJ nu nq (dZ (eE 2)) (dZ (eE 4))))
 (eG (fW (i:=3) nd (fJ nu nq (dZ (eE 3)) (dZ (eE 4))))
 (eU (fW (i:=1) nd (fD (dZ (eE 6)) (dZ eV)))))) (eU (fX (fM rN rK (dZ (eE 3)) (dZ (eE 4))) (eU (fW (i:=1) nd (fD (dZ (eE 6)) (dZ eV)))) (eG (jC (i:=7) nd (iY Aj Aq (Z.free 2) (by decide+kernel) (d9 (dZ (eE 0)) eX)))
 (eG (BP (i:=8) nd (vQ 7 (agg Z Zx) hr tk (d9 (eE 5) (d9 (eE 6) (d9 (eE 2) (d9 (eE 3) eX))))))
 (eU (fQ (iJ (d9 (iY rJ rO (Z.free 60) (by decide+kernel) (d9 (jy 7) eX)) (d9 (eE 8) eX)))))))))))))))
 (eU (fQ (iJ (d9 (iY rJ rO (Z.free 60) (by decide+kernel) (d9 (dZ (eE 0)) eX)) (d9 (eE 1) eX))))))))))
theorem Lj{P:Program}{w:World}{K:aq}{mg:Str→Option Value}{base:Heap}(Z:mJ fa fn K mg)(Zx:oR xs K mg):Has P w K mg base "is_pattern" 2 ["pattern"] (oZ K [.dat] .dat Az):=by
 have nd:(["pattern","sign"]:List Str).Nodup:=HS.nd
 refine gQ (d:=Ku) (N:=["pattern","sign"]) (n:=1) (k:=1) Z 33 64 rfl rfl rfl rfl rfl HS rfl rfl (.inl rfl) (fun _ _ _ _ _ _ us hl=>match us,hl with|[_],_=>rfl) (fun f cdv A outer s H E hr tk hp=> ?_)
 exact(eG (fX (mU (rH rN rN rK rK (dZ eV) (dZ (gD jc jd (Z.free 0) PySem.boot_len (d9 (dZ (eE 0)) eX))) (dZ (wA (Z.int 62))))) (eU (fQ qG)) fK)
 (eU (fQ (gD (ala rfl) ald (Z.free 63) (by decide+kernel) (d9 (Bv (agB (own:=[("sign",1)]) nd (Yv (afM (eE 0))) (blkOk_by (own:=[("sign",1)]) (N:=["pattern","sign"]) (sc:=defScope uh) (by decide+kernel)) (aan 1) (fun _ _ _ _ _=>pg_name (i:=1) nd rfl (Or.inl rfl)) (fun _ _ _ _ _=>Jq) (fun _ _ _ _ _=>(gj (VR Z Zx) hr takes0 (d9 (eE 1) eX))))) eX)))))
theorem abC{P:Program}{w:World}{K:aq}{mg:Str→Option Value}{base:Heap}(Z:mJ fa fn K mg)(Zx:oR xs K mg):Has P w K mg base "parts_of" 1 ["rule"] (oZ K [.dat] .new pN):=by
 have nd:(["rule"]:List Str).Nodup:=NZ.nd
 refine gQ (d:=Rj) (N:=["rule"]) (n:=0) (k:=0) Z 34 65 rfl rfl rfl rfl rfl NZ rfl rfl (.inr (lE (lE Uw))) (fun _ _ _ _ _ _ us hl=>match us,hl with|[_],_=>rfl) (fun f cdv A outer s H E hr tk hp=> ?_)
 exact(eG (fX (fM (gW hr.units) ne_eq (dZ (fD (dZ (eE 0)) (dZ eV))) (dZ fO)) (eU (fQ (jX eX))) fK)
 (eG (fX (fM (gW hr.units) ne_eq (dZ (fD (dZ (eE 0)) (dZ eV))) (dZ fO)) (eU (fQ (jX (d9 (fD (dZ (eE 0)) (dZ eV)) (d9 (fD (dZ (eE 0)) (dZ eV)) eX))))) fK)
 (eU (fQ (jX (d9 (fD (dZ (eE 0)) (dZ eV)) eX))))))
theorem Ec{P:Program}{w:World}{K:aq}{mg:Str→Option Value}{base:Heap}(Z:mJ fa fn K mg)(Zx:oR xs K mg):Has P w K mg base "needed" 2 ["rules","name"] (oZ K [.dat, .dat] .new pA):=by
 have nd:(["rules","name","seen","number","part"]:List Str).Nodup:=V9.nd
 refine gQ (d:=aav) (N:=["rules","name","seen","number","part"]) (n:=3) (k:=1) Z 35 66 rfl rfl rfl rfl rfl V9 rfl rfl (.inr (lE (lE (lE Uw)))) (fun _ _ _ _ _ _ us hl=>match us,hl with|[_,_],_=>rfl) (fun f cdv A outer s H E hr tk hp=> ?_)
 exact(eG (fX (fM qO ne_is (dZ (eE 1)) (dZ iW)) (eU (fQ (jX eX))) fK)
 (eG (jC (i:=2) nd (ajT (dZ (eE 1)) qG))
 (eG (kJ hp (ajS (Z.free 3) (d9 (dZ (eE 1)) (d9 (dZ (MJ (dZ eV))) (d9 (dZ (MJ (dZ eV))) eX)))) (jf 3 nd) (eU (fX (fM (aj9 hr.units) (afD _) (dZ (eE 3)) (jy 2)) (eU (kJ hp (M5 (j7 (gj (abC Z Zx) hr tk (d9 (fD (dZ (eE 0)) (dZ (eE 3))) eX)))) (jf 4 nd) (eU (qU 2 hr.units (dZ (eE 4)) qG)))) fK)))
 (eU (fQ (agK (Z.free 11) (jy 2)))))))
theorem agf{P:Program}{w:World}{K:aq}{mg:Str→Option Value}{base:Heap}(Z:mJ fa fn K mg)(Zx:oR xs K mg):Has P w K mg base "agreed" 1 ["pattern","state","sign"] (oZ K [.dat, .dat, .dat] .dat abf):=by
 have nd:(["pattern","state","sign","end","size"]:List Str).Nodup:=WK.nd
 refine gQ (d:=aaB) (N:=["pattern","state","sign","end","size"]) (n:=2) (k:=0) Z 36 67 rfl rfl rfl rfl rfl WK rfl rfl (.inl rfl) (fun _ _ _ _ _ _ us hl=>match us,hl with|[_,_,_],_=>rfl) (fun f cdv A outer s H E hr tk hp=> ?_)
 exact(eG (fW (i:=3) nd (fJ g8 ir (dZ (W7 (dZ (eE 0)) GD (G3 (dZ (eE 1))))) (dZ (eE 2))))
 (eG (kJ hp (ajS (Z.free 3) (d9 (dZ (gD (Rm rfl) RG (Z.free 4) (by decide+kernel) (d9 (dZ (gD jc jd (Z.free 0) PySem.boot_len (d9 (dZ (eE 3)) eX))) (d9 (dZ (gD jc jd (Z.free 0) PySem.boot_len (d9 (dZ (eE 0)) eX))) eX)))) (d9 (dZ eV) (d9 (dZ (MJ (dZ eV))) eX)))) (jf 4 nd) (eU (fX (pF (dZ (akP Txt.endswith F.slot_str_endswith F.type_str_endswith mt_endswith (dZ (eE 3)) (dZ (W7 (dZ (eE 0)) GD (G3 (dZ (eE 4)))))))) (eU (fQ (eE 4))) fK)))
 (eU (fQ eV))))
theorem Vi{P:Program}{w:World}{K:aq}{mg:Str→Option Value}{base:Heap}(Z:mJ fa fn K mg)(Zx:oR xs K mg):Has P w K mg base "behind_sign" 2 ["pattern","sign"] (oZ K [.dat, .dat] .new HJ):=by
 have nd:(["pattern","sign","rows","state","found"]:List Str).Nodup:=Ey.nd
 refine gQ (d:=Ie) (N:=["pattern","sign","rows","state","found"]) (n:=3) (k:=1) Z 37 68 rfl rfl rfl rfl rfl Ey rfl rfl (.inr (lE (lE wQ))) (fun _ _ _ _ _ _ us hl=>match us,hl with|[_,_],_=>rfl) (fun f cdv A outer s H E hr tk hp=> ?_)
 exact(eG (jC (i:=2) nd (jX eX))
 (eG (kJ hp (R8 (Z.free 3) (dZ (fJ g8 ir (dZ (gD jc jd (Z.free 0) PySem.boot_len (d9 (dZ (eE 0)) eX))) (dZ eV)))) (jf 3 nd) (eG (fW (i:=4) nd (gj (agf Z Zx) hr tk (d9 (eE 0) (d9 (eE 3) (d9 (eE 1) eX)))))
 (eU (fX (fM (gW hr.units) ne_eq (dZ (eE 4)) (dZ (gD jc jd (Z.free 0) PySem.boot_len (d9 (dZ (eE 0)) eX)))) (eU (mK (i:=2) (iJ (d9 (eE 4) (d9 eV (d9 eV eX)))))) (eU (mK (i:=2) (iJ (d9 (eE 4) (d9 eV (d9 iW eX))))))))))
 (eU (yF 2))))
theorem Vv{P:Program}{w:World}{K:aq}{mg:Str→Option Value}{base:Heap}(Z:mJ fa fn K mg)(Zx:oR xs K mg):Has P w K mg base "behind_join" 1 ["here","there","size"] (oZ K [.dat, .dat, .dat] .new Hl):=by
 have nd:(["here","there","size","rows","state","many","end","last","more","far"]:List Str).Nodup:=Et.nd
 refine gQ (d:=HF) (N:=["here","there","size","rows","state","many","end","last","more","far"]) (n:=7) (k:=0) Z 38 69 rfl rfl rfl rfl rfl Et rfl rfl (.inr (lE (lE wQ))) (fun _ _ _ _ _ _ us hl=>match us,hl with|[_,_,_],_=>rfl) (fun f cdv A outer s H E hr tk hp=> ?_)
 exact(eG (jC (i:=3) nd (jX eX))
 (eG (kJ hp (M5 (eE 0)) (tK (fZ (jf 4 nd) (fZ (jf 5 nd) (fZ (jf 6 nd) jU)))) (eG (lu (fD (dZ (eE 1)) (dZ (eE 4))) (tK (fZ (jf 7 nd) (fZ (jf 8 nd) (fZ (jf 9 nd) jU)))))
 (eG (fX (zN (DQ (fM qO ne_is (dZ (eE 6)) (dZ iW)) (yr (fM FJ Dq (dZ (eE 9)) (dZ iW))))) (eU (fW (i:=6) nd (fJ g8 ir (dZ (eE 2)) (dZ (eE 9))))) fK)
 (eU (mK (i:=3) (iJ (d9 (eE 7) (d9 (fJ g8 ir (dZ (eE 5)) (dZ (eE 8))) (d9 (eE 6) eX)))))))))
 (eU (yF 3))))
theorem Uo{P:Program}{w:World}{K:aq}{mg:Str→Option Value}{base:Heap}(Z:mJ fa fn K mg)(Zx:oR xs K mg):Has P w K mg base "behind_times" 1 ["here","size","many","state"] (oZ K [.dat, .dat, .dat, .dat] .dat CT):=by
 have nd:(["here","size","many","state","total","done","end","last","more","far"]:List Str).Nodup:=Cr.nd
 refine gQ (d:=CV) (N:=["here","size","many","state","total","done","end","last","more","far"]) (n:=6) (k:=0) Z 39 70 rfl rfl rfl rfl rfl Cr rfl rfl (.inl rfl) (fun _ _ _ _ _ _ us hl=>match us,hl with|[_,_,_,_],_=>rfl) (fun f cdv A outer s H E hr tk hp=> ?_)
 exact(eG (fW (i:=4) nd eV)
 (eG (fW (i:=5) nd eV)
 (eG (fW (i:=6) nd iW)
 (eG (vA hp (fM qp qD (dZ (eE 5)) (dZ (eE 2))) (eG (lu (fD (dZ (eE 0)) (dZ (eE 3))) (tK (fZ (jf 7 nd) (fZ (jf 8 nd) (fZ (jf 9 nd) jU)))))
 (eG (fX (zN (DQ (fM qO ne_is (dZ (eE 6)) (dZ iW)) (yr (fM FJ Dq (dZ (eE 9)) (dZ iW))))) (eU (fW (i:=6) nd (fJ g8 ir (dZ (fJ nW oh (dZ (eE 5)) (dZ (eE 1)))) (dZ (eE 9))))) fK)
 (eG (fX (fM (gW hr.units) ne_eq (dZ (eE 7)) (dZ (eE 3))) (eU (fQ (iJ (d9 (eE 3) (d9 (fJ g8 ir (dZ (eE 4)) (dZ (fJ nW oh (dZ (eE 8)) (dZ (fJ nu nq (dZ (eE 2)) (dZ (eE 5))))))) (d9 (eE 6) eX)))))) fK)
 (eG (fW (i:=4) nd (fJ g8 ir (dZ (eE 4)) (dZ (eE 8))))
 (eG (fW (i:=5) nd (fJ g8 ir (dZ (eE 5)) (dZ eV)))
 (eU (fW (i:=3) nd (eE 7)))))))))
 (eU (fQ (iJ (d9 (eE 3) (d9 (eE 4) (d9 (eE 6) eX))))))))))
theorem ZD{P:Program}{w:World}{K:aq}{mg:Str→Option Value}{base:Heap}(Z:mJ fa fn K mg)(Zx:oR xs K mg):Has P w K mg base "behind" 3 ["rules","name","pattern"] (oZ K [.dat, .dat, .dat] .dat Ru):=by
 have nd:(["rules","name","pattern","sizes","tables","number","rule","here","size","state"]:List Str).Nodup:=VH.nd
 refine gQ (d:=Zz) (N:=["rules","name","pattern","sizes","tables","number","rule","here","size","state"]) (n:=7) (k:=2) Z 40 71 rfl rfl rfl rfl rfl VH rfl rfl (.inl rfl) (fun _ _ _ _ _ _ us hl=>match us,hl with|[_,_,_],_=>rfl) (fun f cdv A outer s H E hr tk hp=> ?_)
 exact(eG (fW (i:=3) nd (j7 (gj (G4 Z Zx) hr tk (d9 (eE 0) eX))))
 (eG (jC (i:=4) nd Ar)
 (eG (kJ hp (M5 (j7 (gj (Ec Z Zx) hr tk (d9 (eE 0) (d9 (eE 1) eX))))) (jf 5 nd) (eG (fW (i:=6) nd (fD (dZ (eE 0)) (dZ (eE 5))))
 (eU (fX (fM (gW hr.units) ne_eq (dZ (fD (dZ (eE 6)) (dZ eV))) (dZ fO)) (eU (qU 4 hr.units (dZ (eE 5)) (j7 (gj (Vi Z Zx) hr tk (d9 (eE 2) (d9 (fD (dZ (eE 6)) (dZ eV)) eX)))))) (eU (fX (fM (gW hr.units) ne_eq (dZ (fD (dZ (eE 6)) (dZ eV))) (dZ fO)) (eU (qU 4 hr.units (dZ (eE 5)) (j7 (gj (Vv Z Zx) hr tk (d9 (mD hr.units (jy 4) (dZ (fD (dZ (eE 6)) (dZ eV)))) (d9 (mD hr.units (jy 4) (dZ (fD (dZ (eE 6)) (dZ eV)))) (d9 (fD (dZ (eE 3)) (dZ (fD (dZ (eE 6)) (dZ eV)))) eX))))))) (eG (fW (i:=7) nd (mD hr.units (jy 4) (dZ (fD (dZ (eE 6)) (dZ eV)))))
 (eG (fW (i:=8) nd (fD (dZ (eE 3)) (dZ (fD (dZ (eE 6)) (dZ eV)))))
 (eU (qU 4 hr.units (dZ (eE 5)) (j7 (agB (own:=[("state",9)]) nd (Yv (R8 (Z.free 3) (dZ (fJ g8 ir (dZ (gD jc jd (Z.free 0) PySem.boot_len (d9 (dZ (eE 2)) eX))) (dZ eV))))) (blkOk_by (own:=[("state",9)]) (N:=["rules","name","pattern","sizes","tables","number","rule","here","size","state"]) (sc:=defScope Fe) (by decide+kernel)) (aan 9) (fun _ _ _ _ _=>pg_name (i:=9) nd rfl (Or.inl rfl)) (fun _ _ _ _ _=>Jq) (fun _ _ _ _ _=>(gj (Uo Z Zx) hr takes0 (d9 (eE 7) (d9 (eE 8) (d9 (fD (dZ (eE 6)) (dZ eV)) (d9 (eE 9) eX))))))))))))))))))
 (eU (fQ (fD (dZ (mD hr.units (jy 4) (dZ (eE 1)))) (dZ eV)))))))
theorem ahY{P:Program}{w:World}{K:aq}{mg:Str→Option Value}{base:Heap}(Z:mJ fa fn K mg)(Zx:oR xs K mg):akX P w K mg base "first" 6 ["rules","name","pattern","start"] (oZ K [.dat, .dat, .dat, .dat] .dat ac6) 0 3 "start":=by
 have nd:(["rules","name","pattern","start","size","end"]:List Str).Nodup:=aaq.nd
 refine aje (d:=adw) (N:=["rules","name","pattern","start","size","end"]) (n:=2) (k:=5) Z 41 74 rfl rfl rfl rfl rfl aaq rfl rfl (.inl rfl) rfl (fun _ _ _ _ _ _ _ us its hl hl2=>match us,its,hl,hl2 with|[_,_,_,_],[_],_,_=>⟨_,rfl,rfl⟩) (fun _ _ _ _ _ _ _ us its hl hl2=>match us,its,hl,hl2 with|[_,_,_],[_],_,_=>⟨_,rfl,rfl⟩) (fun _ _ _ _ _ _ _ us its ws hl hl2 hl3=>match us,its,ws,hl,hl2,hl3 with|[_,_,_],[_],[_],_,_,_=>⟨_,rfl,rfl⟩) (fun f cdv A outer s H E hr tk hp=> ?_)
 exact(eG (fW (i:=4) nd (gj (pU Z Zx) hr tk (d9 (eE 0) (d9 (eE 1) eX))))
 (eG (fX (mU (pF (dZ (gj (Lj Z Zx) hr tk (d9 (eE 2) eX))))) (eU (pX tk (Z.exc 72) (Z.glo 73))) fK)
 (eG (fX (mU (rH rN rN rK rK (dZ eV) (dZ (eE 3)) (dZ (eE 4)))) (eU (pX tk (Z.exc 50) (Z.glo 51))) fK)
 (eG (lu (gj (R7 Z Zx) hr tk (d9 (eE 0) (d9 (eE 1) (d9 (eE 3) (d9 (eE 4) eX))))) (tK (fZ (jf 0 nd) (fZ (jf 1 nd) jU))))
 (eG (fX (fM qO ne_is (dZ (eE 1)) (dZ iW)) (eU (fQ iW)) fK)
 (eG (fW (i:=5) nd (fD (dZ (gj (ZD Z Zx) hr tk (d9 (eE 0) (d9 (eE 1) (d9 (eE 2) eX))))) (dZ eV)))
 (eG (fX (fM qO ne_is (dZ (eE 5)) (dZ iW)) (eU (fQ iW)) fK)
 (eU (fQ (fJ nu nq (dZ (fJ g8 ir (dZ (eE 3)) (dZ (eE 5)))) (dZ (gD jc jd (Z.free 0) PySem.boot_len (d9 (dZ (eE 2)) eX)))))))))))))
theorem ai'{P:Program}{w:World}{K:aq}{mg:Str→Option Value}{base:Heap}(Z:mJ fa fn K mg)(Zx:oR xs K mg):Has P w K mg base "count" 2 ["rules","name","sign"] (oZ K [.dat, .dat, .dat] .dat Bs):=by
 have nd:(["rules","name","sign","many","rule"]:List Str).Nodup:=aat.nd
 refine gQ (d:=ac9) (N:=["rules","name","sign","many","rule"]) (n:=2) (k:=1) Z 42 75 rfl rfl rfl rfl rfl aat rfl rfl (.inl rfl) (fun _ _ _ _ _ _ us hl=>match us,hl with|[_,_,_],_=>rfl) (fun f cdv A outer s H E hr tk hp=> ?_)
 exact(eG (vg (gj (Bp Z Zx) hr tk (d9 (eE 0) (d9 (eE 1) eX))))
 (eG (fX (fM qO ne_is (dZ (eE 1)) (dZ iW)) (eU (fQ eV)) fK)
 (eG (jC (i:=3) nd (jX eX))
 (eG (kJ hp (aiZ (W7 (dZ (eE 0)) GD (G3 (dZ (fJ g8 ir (dZ (eE 1)) (dZ eV)))))) (jf 4 nd) (eU (fX (fM (gW hr.units) ne_eq (dZ (fD (dZ (eE 4)) (dZ eV))) (dZ fO)) (eU (mK (i:=3) (iY agA ac1 (Z.free 29) (by decide+kernel) (d9 (dZ (Gg (gW hr.units) ne_eq (dZ (fD (dZ (eE 4)) (dZ eV))) (dZ (eE 2)))) eX)))) (eU (fX (fM (gW hr.units) ne_eq (dZ (fD (dZ (eE 4)) (dZ eV))) (dZ fO)) (eU (mK (i:=3) (fJ g8 ir (dZ (fD (jy 3) (dZ (fD (dZ (eE 4)) (dZ eV))))) (dZ (fD (jy 3) (dZ (fD (dZ (eE 4)) (dZ eV)))))))) (eU (mK (i:=3) (fJ nW oh (dZ (fD (jy 3) (dZ (fD (dZ (eE 4)) (dZ eV))))) (dZ (fD (dZ (eE 4)) (dZ eV)))))))))))
 (eU (fQ (fD (jy 3) (dZ (eE 1)))))))))
theorem afn{P:Program}{w:World}{K:aq}{mg:Str→Option Value}{base:Heap}(Z:mJ fa fn K mg)(Zx:oR xs K mg):Has P w K mg base "stands" 4 ["rules","name","pattern"] (oZ K [.dat, .dat, .dat] .dat aaf):=by
 have nd:(["rules","name","pattern"]:List Str).Nodup:=Wj.nd
 refine gQ (d:=aaX) (N:=["rules","name","pattern"]) (n:=0) (k:=3) Z 43 76 rfl rfl rfl rfl rfl Wj rfl rfl (.inl rfl) (fun _ _ _ _ _ _ us hl=>match us,hl with|[_,_,_],_=>rfl) (fun f cdv A outer s H E hr tk hp=> ?_)
 exact(eG (vg (gj (Bp Z Zx) hr tk (d9 (eE 0) (d9 (eE 1) eX))))
 (eG (fX (mU (pF (dZ (gj (Lj Z Zx) hr tk (d9 (eE 2) eX))))) (eU (pX tk (Z.exc 72) (Z.glo 73))) fK)
 (eG (fX (fM qO ne_is (dZ (eE 1)) (dZ iW)) (eU (fQ eV)) fK)
 (eU (fQ (fD (dZ (gj (ZD Z Zx) hr tk (d9 (eE 0) (d9 (eE 1) (d9 (eE 2) eX))))) (dZ eV)))))))
theorem XS{P:Program}{w:World}{K:aq}{mg:Str→Option Value}{base:Heap}(Z:mJ fa fn K mg)(Zx:oR xs K mg):Has P w K mg base "about_more" 7 ["verb","rules","name","thing"] (oZ K [.dat, .dat, .dat, .dat] .dat mj):=by
 have nd:(["verb","rules","name","thing"]:List Str).Nodup:=Hv.nd
 refine gQ (d:=Lr) (N:=["verb","rules","name","thing"]) (n:=0) (k:=6) Z 44 77 rfl rfl rfl rfl rfl Hv rfl rfl (.inl rfl) (fun _ _ _ _ _ _ us hl=>match us,hl with|[_,_,_,_],_=>rfl) (fun f cdv A outer s H E hr tk hp=> ?_)
 exact(eG (fX (fM (gW hr.units) ne_eq (dZ (eE 0)) (dZ fO)) (eU (fQ (iY Am wk (Z.free 7) (by decide+kernel) (d9 (dZ (gj (ai' Z Zx) hr tk (d9 (eE 1) (d9 (eE 2) (d9 (eE 3) eX))))) eX)))) fK)
 (eG (fX (fM (gW hr.units) ne_eq (dZ (eE 0)) (dZ fO)) (eU (fQ (gj (Mg Z Zx) hr tk (d9 (eE 1) (d9 (eE 2) (d9 (eE 3) eX)))))) fK)
 (eG (fX (fM (gW hr.units) ne_eq (dZ (eE 0)) (dZ fO)) (eU (fQ (iY Am wk (Z.free 7) (by decide+kernel) (d9 (dZ (gj (afn Z Zx) hr tk (d9 (eE 1) (d9 (eE 2) (d9 (eE 3) eX))))) eX)))) fK)
 (eU (fQ (gj (DP Z Zx) hr tk (d9 (aky (ks:=[.dat, .dat, .dat]) (ahY Z Zx) hr tk (d9 (eE 1) (d9 (eE 2) (d9 (eE 3) eX)))) eX)))))))
theorem Gj{P:Program}{w:World}{K:aq}{mg:Str→Option Value}{base:Heap}(Z:mJ fa fn K mg)(Zx:oR xs K mg):Has P w K mg base "renamed" 1 ["rule","numbers"] (oZ K [.dat, .bor] .dat nR):=by
 have nd:(["rule","numbers"]:List Str).Nodup:=Rw.nd
 refine gQ (d:=Wq) (N:=["rule","numbers"]) (n:=0) (k:=0) Z 45 78 rfl rfl rfl rfl rfl Rw rfl rfl (.inl rfl) (fun _ _ _ _ _ _ us hl=>match us,hl with|[_,_],_=>rfl) (fun f cdv A outer s H E hr tk hp=> ?_)
 exact(eG (fX (fM (gW hr.units) ne_eq (dZ (fD (dZ (eE 0)) (dZ eV))) (dZ fO)) (eU (fQ (eE 0))) fK)
 (eG (fX (fM (gW hr.units) ne_eq (dZ (fD (dZ (eE 0)) (dZ eV))) (dZ fO)) (eU (fQ (iJ (d9 fO (d9 (acF hr.units (jy 1) (dZ (fD (dZ (eE 0)) (dZ eV)))) (d9 (acF hr.units (jy 1) (dZ (fD (dZ (eE 0)) (dZ eV)))) eX)))))) fK)
 (eU (fQ (iJ (d9 fO (d9 (acF hr.units (jy 1) (dZ (fD (dZ (eE 0)) (dZ eV)))) (d9 (fD (dZ (eE 0)) (dZ eV)) eX))))))))
theorem VD{P:Program}{w:World}{K:aq}{mg:Str→Option Value}{base:Heap}(Z:mJ fa fn K mg)(Zx:oR xs K mg):Has P w K mg base "brought" 2 ["rules","others","name"] (oZ K [.dat, .dat, .dat] .dat Aa):=by
 have nd:(["rules","others","name","far","numbers","rows","rule","number"]:List Str).Nodup:=Ug.nd
 refine gQ (d:=W6) (N:=["rules","others","name","far","numbers","rows","rule","number"]) (n:=5) (k:=1) Z 46 79 rfl rfl rfl rfl rfl Ug rfl rfl (.inl rfl) (fun _ _ _ _ _ _ us hl=>match us,hl with|[_,_,_],_=>rfl) (fun f cdv A outer s H E hr tk hp=> ?_)
 exact(eG (vg (gj (Bp Z Zx) hr tk (d9 (eE 1) (d9 (eE 2) eX))))
 (eG (fW (i:=3) nd (gD jc jd (Z.free 0) PySem.boot_len (d9 (dZ (eE 0)) eX)))
 (eG (ak3 (i:=4) (own:=[("number",7)]) nd (sw_true rfl rfl rfl (by decide+kernel)) (Yv (R8 (Z.free 3) (dZ (gD jc jd (Z.free 0) PySem.boot_len (d9 (dZ (eE 1)) eX))))) (blkOk_by (own:=[("number",7)]) (N:=["rules","others","name","far","numbers","rows","rule","number"]) (sc:=defScope z9) (by decide+kernel)) (aan 7) (fun _ _ _ _ _=>pg_name (i:=7) nd rfl (Or.inl rfl)) (fun _ _ _ _ _=>Jq) (fun _ _ _ _ _=>(fJ g8 ir (dZ (eE 3)) (dZ (eE 7)))))
 (eG (jC (i:=5) nd (iY Aj Aq (Z.free 2) (by decide+kernel) (d9 (dZ (eE 0)) eX)))
 (eG (kJ hp (aiZ (eE 1)) (jf 6 nd) (eU (mK (i:=5) (gj (Gj Z Zx) hr tk (d9 (eE 6) (d9 (dZ (eE 4)) eX))))))
 (eG (fX (fM qO ne_is (dZ (eE 2)) (dZ iW)) (eU (fQ (iJ (d9 (iY rJ rO (Z.free 60) (by decide+kernel) (d9 (jy 5) eX)) (d9 iW eX))))) fK)
 (eU (fQ (iJ (d9 (iY rJ rO (Z.free 60) (by decide+kernel) (d9 (jy 5) eX)) (d9 (fJ g8 ir (dZ (eE 3)) (dZ (eE 2))) eX)))))))))))
theorem xg{P:Program}{w:World}{K:aq}{mg:Str→Option Value}{base:Heap}(Z:mJ fa fn K mg)(Zx:oR xs K mg):Has P w K mg base "side_by_side" 3 ["one","other"] (oZ K [.dat, .dat] .dat qJ):=by
 have nd:(["one","other","rules","name"]:List Str).Nodup:=Cj.nd
 refine gQ (d:=Ed) (N:=["one","other","rules","name"]) (n:=2) (k:=2) Z 47 80 rfl rfl rfl rfl rfl Cj rfl rfl (.inl rfl) (fun _ _ _ _ _ _ us hl=>match us,hl with|[_,_],_=>rfl) (fun f cdv A outer s H E hr tk hp=> ?_)
 exact(eG (lu (gj (VD Z Zx) hr tk (d9 (fD (dZ (eE 0)) (dZ eV)) (d9 (fD (dZ (eE 1)) (dZ eV)) (d9 (fD (dZ (eE 1)) (dZ eV)) eX)))) (tK (fZ (jf 2 nd) (fZ (jf 3 nd) jU))))
 (eU (fQ (iJ (d9 (eE 2) (d9 (fD (dZ (eE 0)) (dZ eV)) (d9 (eE 3) eX)))))))
theorem ZM{P:Program}{w:World}{K:aq}{mg:Str→Option Value}{base:Heap}(Z:mJ fa fn K mg)(Zx:oR xs K mg):Has P w K mg base "parted" 5 ["rules","one","other"] (oZ K [.dat, .dat, .dat] .dat Ul):=by
 have nd:(["rules","one","other","here","there","letters","ends"]:List Str).Nodup:=Wh.nd
 refine gQ (d:=abp) (N:=["rules","one","other","here","there","letters","ends"]) (n:=4) (k:=4) Z 48 81 rfl rfl rfl rfl rfl Wh rfl rfl (.inl rfl) (fun _ _ _ _ _ _ us hl=>match us,hl with|[_,_,_],_=>rfl) (fun f cdv A outer s H E hr tk hp=> ?_)
 exact JC
theorem ahW{P:Program}{w:World}{K:aq}{mg:Str→Option Value}{base:Heap}(Z:mJ fa fn K mg)(Zx:oR xs K mg):Has P w K mg base "ahead" 6 ["rules","one","other"] (oZ K [.dat, .dat, .dat] .dat ad3):=by
 have nd:(["rules","one","other","place"]:List Str).Nodup:=Zh.nd
 refine gQ (d:=adJ) (N:=["rules","one","other","place"]) (n:=1) (k:=5) Z 49 82 rfl rfl rfl rfl rfl Zh rfl rfl (.inl rfl) (fun _ _ _ _ _ _ us hl=>match us,hl with|[_,_,_],_=>rfl) (fun f cdv A outer s H E hr tk hp=> ?_)
 exact(eG (fW (i:=3) nd (gj (ZM Z Zx) hr tk (d9 (eE 0) (d9 (eE 1) (d9 (eE 2) eX)))))
 (eG (fX (fM qO ne_is (dZ (eE 3)) (dZ iW)) (eU (fQ eV)) fK)
 (eG (fX (fM (gW hr.units) ne_eq (dZ (eE 3)) (dZ (gj (pU Z Zx) hr tk (d9 (eE 0) (d9 (eE 1) eX))))) (eU (fQ (MJ (dZ eV)))) fK)
 (eG (fX (fM (gW hr.units) ne_eq (dZ (eE 3)) (dZ (gj (pU Z Zx) hr tk (d9 (eE 0) (d9 (eE 2) eX))))) (eU (fQ eV)) fK)
 (eG (fX (fM qp qD (dZ (gj (Mg Z Zx) hr tk (d9 (eE 0) (d9 (eE 1) (d9 (eE 3) eX))))) (dZ (gj (Mg Z Zx) hr tk (d9 (eE 0) (d9 (eE 2) (d9 (eE 3) eX)))))) (eU (fQ (MJ (dZ eV)))) fK)
 (eU (fQ eV)))))))
theorem ah0{P:Program}{w:World}{K:aq}{mg:Str→Option Value}{base:Heap}(Z:mJ fa fn K mg)(Zx:oR xs K mg):Has P w K mg base "shift" 8 ["rules","one","other"] (oZ K [.dat, .dat, .dat] .dat aea):=by
 have nd:(["rules","one","other","size","work","ends"]:List Str).Nodup:=aaD.nd
 refine gQ (d:=ac5) (N:=["rules","one","other","size","work","ends"]) (n:=3) (k:=7) Z 50 83 rfl rfl rfl rfl rfl aaD rfl rfl (.inl rfl) (fun _ _ _ _ _ _ us hl=>match us,hl with|[_,_,_],_=>rfl) (fun f cdv A outer s H E hr tk hp=> ?_)
 exact JC
theorem Zu{P:Program}{w:World}{K:aq}{mg:Str→Option Value}{base:Heap}(Z:mJ fa fn K mg)(Zx:oR xs K mg):Has P w K mg base "about_two" 9 ["verb","one","other"] (oZ K [.dat, .dat, .dat] .dat Od):=by
 have nd:(["verb","one","other","rules","name","second","way"]:List Str).Nodup:=Ks.nd
 refine gQ (d:=Nh) (N:=["verb","one","other","rules","name","second","way"]) (n:=4) (k:=8) Z 51 84 rfl rfl rfl rfl rfl Ks rfl rfl (.inl rfl) (fun _ _ _ _ _ _ us hl=>match us,hl with|[_,_,_],_=>rfl) (fun f cdv A outer s H E hr tk hp=> ?_)
 exact(eG (lu (gj (xg Z Zx) hr tk (d9 (eE 1) (d9 (eE 2) eX))) (tK (fZ (jf 3 nd) (fZ (jf 4 nd) (fZ (jf 5 nd) jU)))))
 (eG (fX (fM (gW hr.units) ne_eq (dZ (eE 0)) (dZ fO)) (eU (fQ (gj (DP Z Zx) hr tk (d9 (gj (ZM Z Zx) hr tk (d9 (eE 3) (d9 (eE 4) (d9 (eE 5) eX)))) eX)))) fK)
 (eG (fX (fM (gW hr.units) ne_eq (dZ (eE 0)) (dZ fO)) (eU (fQ (gj (DP Z Zx) hr tk (d9 (gj (ah0 Z Zx) hr tk (d9 (eE 3) (d9 (eE 4) (d9 (eE 5) eX)))) eX)))) fK)
 (eG (fW (i:=6) nd (gj (ahW Z Zx) hr tk (d9 (eE 3) (d9 (eE 4) (d9 (eE 5) eX)))))
 (eG (fX (fM qp qD (dZ (eE 6)) (dZ eV)) (eU (fQ fO)) fK)
 (eG (fX (fM BZ BV (dZ (eE 6)) (dZ eV)) (eU (fQ fO)) fK)
 (eU (fQ fO))))))))
theorem ai4{P:Program}{w:World}{K:aq}{mg:Str→Option Value}{base:Heap}(Z:mJ fa fn K mg)(Zx:oR xs K mg):Has P w K mg base "piece" 5 ["rules","name"] (oZ K [.dat, .dat] .dat adN):=by
 have nd:(["rules","name","many"]:List Str).Nodup:=Z8.nd
 refine gQ (d:=adP) (N:=["rules","name","many"]) (n:=1) (k:=4) Z 52 85 rfl rfl rfl rfl rfl Z8 rfl rfl (.inl rfl) (fun _ _ _ _ _ _ us hl=>match us,hl with|[_,_],_=>rfl) (fun f cdv A outer s H E hr tk hp=> ?_)
 exact JC
theorem abJ{P:Program}{w:World}{K:aq}{mg:Str→Option Value}{base:Heap}(Z:mJ fa fn K mg)(Zx:oR xs K mg):Has P w K mg base "unfolded" 4 ["rules","name"] (oZ K [.dat, .dat] .dat Ri):=by
 have nd:(["rules","name","texts","number","rule"]:List Str).Nodup:=Ny.nd
 refine gQ (d:=Uy) (N:=["rules","name","texts","number","rule"]) (n:=3) (k:=3) Z 53 89 rfl rfl rfl rfl rfl Ny rfl rfl (.inl rfl) (fun _ _ _ _ _ _ us hl=>match us,hl with|[_,_],_=>rfl) (fun f cdv A outer s H E hr tk hp=> ?_)
 exact(eG (fX (fM BZ BV (dZ (gj (pU Z Zx) hr tk (d9 (eE 0) (d9 (eE 1) eX)))) (dZ (wA (Z.int 86)))) (eU (pX tk (Z.exc 87) (Z.glo 88))) fK)
 (eG (fX (fM qO ne_is (dZ (eE 1)) (dZ iW)) (eU (fQ fO)) fK)
 (eG (jC (i:=2) nd Ar)
 (eG (kJ hp (M5 (j7 (gj (Ec Z Zx) hr tk (d9 (eE 0) (d9 (eE 1) eX))))) (jf 3 nd) (eG (fW (i:=4) nd (fD (dZ (eE 0)) (dZ (eE 3))))
 (eU (fX (fM (gW hr.units) ne_eq (dZ (fD (dZ (eE 4)) (dZ eV))) (dZ fO)) (eU (qU 2 hr.units (dZ (eE 3)) (fD (dZ (eE 4)) (dZ eV)))) (eU (fX (fM (gW hr.units) ne_eq (dZ (fD (dZ (eE 4)) (dZ eV))) (dZ fO)) (eU (qU 2 hr.units (dZ (eE 3)) (fJ g8 ir (dZ (mD hr.units (jy 2) (dZ (fD (dZ (eE 4)) (dZ eV))))) (dZ (mD hr.units (jy 2) (dZ (fD (dZ (eE 4)) (dZ eV)))))))) (eU (qU 2 hr.units (dZ (eE 3)) (fJ nW oh (dZ (mD hr.units (jy 2) (dZ (fD (dZ (eE 4)) (dZ eV))))) (dZ (fD (dZ (eE 4)) (dZ eV))))))))))))
 (eU (fQ (mD hr.units (jy 2) (dZ (eE 1)))))))))
theorem ak'{P:Program}{w:World}{K:aq}{mg:Str→Option Value}{base:Heap}(Z:mJ fa fn K mg)(Zx:oR xs K mg):Has P w K mg base "form" 5 ["rules","name"] (oZ K [.dat, .dat] .dat ahD):=by
 have nd:(["rules","name"]:List Str).Nodup:=adI.nd
 refine gQ (d:=ahs) (N:=["rules","name"]) (n:=0) (k:=4) Z 54 90 rfl rfl rfl rfl rfl adI rfl rfl (.inl rfl) (fun _ _ _ _ _ _ us hl=>match us,hl with|[_,_],_=>rfl) (fun f cdv A outer s H E hr tk hp=> ?_)
 exact JC
theorem Za{P:Program}{w:World}{K:aq}{mg:Str→Option Value}{base:Heap}(Z:mJ fa fn K mg)(Zx:oR xs K mg):Has P w K mg base "about_one" 6 ["verb","rules","name"] (oZ K [.dat, .dat, .dat] .dat qN):=by
 have nd:(["verb","rules","name","size","many"]:List Str).Nodup:=KC.nd
 refine gQ (d:=Og) (N:=["verb","rules","name","size","many"]) (n:=2) (k:=5) Z 55 91 rfl rfl rfl rfl rfl KC rfl rfl (.inl rfl) (fun _ _ _ _ _ _ us hl=>match us,hl with|[_,_,_],_=>rfl) (fun f cdv A outer s H E hr tk hp=> ?_)
 exact(eG (fX (fM (gW hr.units) ne_eq (dZ (eE 0)) (dZ fO)) (eU (fQ (iY Am wk (Z.free 7) (by decide+kernel) (d9 (dZ (gj (pU Z Zx) hr tk (d9 (eE 1) (d9 (eE 2) eX)))) eX)))) fK)
 (eG (fX (fM (gW hr.units) ne_eq (dZ (eE 0)) (dZ fO)) (eU (fQ (gj (abJ Z Zx) hr tk (d9 (eE 1) (d9 (eE 2) eX))))) fK)
 (eG (fX (fM (gW hr.units) ne_eq (dZ (eE 0)) (dZ fO)) (eU (fQ (iY Am wk (Z.free 7) (by decide+kernel) (d9 (dZ (gD jc jd (Z.free 0) PySem.boot_len (d9 (dZ (gj (ak' Z Zx) hr tk (d9 (eE 1) (d9 (eE 2) eX)))) eX))) eX)))) fK)
 (eG (lu (gj (ai4 Z Zx) hr tk (d9 (eE 1) (d9 (eE 2) eX))) (tK (fZ (jf 3 nd) (fZ (jf 4 nd) jU))))
 JC))))
theorem U6{P:Program}{w:World}{K:aq}{mg:Str→Option Value}{base:Heap}(Z:mJ fa fn K mg)(Zx:oR xs K mg):aeY P w K mg base "Book" "answer" 10 ["self","verb","values"] (SpG K 3 pY):=by
 have nd:(["self","verb","values","rules","name"]:List Str).Nodup:=Fv.nd
 refine afP (d:=Hj) (N:=["self","verb","values","rules","name"]) (n:=2) (k:=9) (bs:=[false,false,false]) Z 56 92 13 rfl rfl rfl rfl rfl rfl Fv rfl rfl (fun _ _ _ _ _ _ us hl=>match us,hl with|[_,_,_],_=>rfl) (fun pa f cdv A outer s H E hr tk hp=> ?_)
 exact(eG (fX (fM (gW hr.units) ne_eq (dZ (eE 1)) (dZ fO)) (eG (fX (fM (gW hr.units) ne_eq (dZ (gD aiE ajm (Z.free 0) PySem.boot_len (d9 (yd (vG 0 0 (Z.cls 13) (Z.noat 14))) eX))) (dZ eV)) (eU (wj fO)) fK)
 (eU (wj (adl (dZ fO) (Bv (Gk (Z.free 11) (yd (vG 0 0 (Z.cls 13) (Z.noat 14))))))))) fK)
 (eG (lu (mD hr.units (yd (vG 0 0 (Z.cls 13) (Z.noat 14))) (dZ (fD (dZ (eE 2)) (dZ eV)))) (tK (fZ (jf 3 nd) (fZ (jf 4 nd) jU))))
 (eG (fX (fM YL (Xv _) (dZ (eE 1)) (dZ (iJ (d9 fO (d9 fO (d9 fO eX)))))) (eU (wj (gj (Zu Z Zx) hr tk (d9 (eE 1) (d9 (iJ (d9 (eE 3) (d9 (eE 4) eX))) (d9 (mD hr.units (yd (vG 0 0 (Z.cls 13) (Z.noat 14))) (dZ (fD (dZ (eE 2)) (dZ eV)))) eX)))))) fK)
 (eG (fX (fM (gW hr.units) ne_eq (dZ (gD jc jd (Z.free 0) PySem.boot_len (d9 (dZ (eE 2)) eX))) (dZ eV)) (eU (wj (gj (Za Z Zx) hr tk (d9 (eE 1) (d9 (eE 3) (d9 (eE 4) eX)))))) fK)
 (eU (wj (gj (XS Z Zx) hr tk (d9 (eE 1) (d9 (eE 3) (d9 (eE 4) (d9 (fD (dZ (eE 2)) (dZ eV)) eX)))))))))))
theorem alw{P:Program}{w:World}{K:aq}{mg:Str→Option Value}{base:Heap}(Z:mJ fa fn K mg)(Zx:oR xs K mg):Has P w K mg base "tidy" 3 ["rules","name"] (oZ K [.dat, .dat] .dat Mj):=by
 have nd:(["rules","name","rows","kept","numbers","number","rule"]:List Str).Nodup:=ad1.nd
 refine gQ (d:=agu) (N:=["rules","name","rows","kept","numbers","number","rule"]) (n:=5) (k:=2) Z 57 93 rfl rfl rfl rfl rfl ad1 rfl rfl (.inl rfl) (fun _ _ _ _ _ _ us hl=>match us,hl with|[_,_],_=>rfl) (fun f cdv A outer s H E hr tk hp=> ?_)
 exact(eG (vg (gj (Bp Z Zx) hr tk (d9 (eE 0) (d9 (eE 1) eX))))
 (eG (jC (i:=2) nd (jX eX))
 (eG (jC (i:=3) nd ais)
 (eG (jC (i:=4) nd Ar)
 (eG (kJ hp (M5 (j7 (gj (Ec Z Zx) hr tk (d9 (eE 0) (d9 (eE 1) eX))))) (jf 5 nd) (eG (fW (i:=6) nd (gj (Gj Z Zx) hr tk (d9 (fD (dZ (eE 0)) (dZ (eE 5))) (d9 (jy 4) eX))))
 (eG (fX (fM (aeK hr.units) (alB _) (dZ (eE 6)) (jy 3)) (eU (agX 3 hr.units (dZ (eE 6)) (vQ 2 (tY Z Zx) hr tk (d9 (eE 6) eX)))) fK)
 (eU (qU 4 hr.units (dZ (eE 5)) (ah5 hr.units (jy 3) (dZ (eE 6))))))))
 (eU (fQ (iJ (d9 (iY rJ rO (Z.free 60) (by decide+kernel) (d9 (jy 2) eX)) (d9 (QH hr.units (jy 4) (dZ (eE 1))) eX))))))))))
theorem O8{P:Program}{w:World}{K:aq}{mg:Str→Option Value}{base:Heap}(Z:mJ fa fn K mg)(Zx:oR xs K mg):Has P w K mg base "spelled_rules" 1 ["signs"] (oZ K [.dat] .dat pQ):=by
 have nd:(["signs","rules","names","sign","above","at"]:List Str).Nodup:=zK.nd
 refine gQ (d:=BX) (N:=["signs","rules","names","sign","above","at"]) (n:=5) (k:=0) Z 58 94 rfl rfl rfl rfl rfl zK rfl rfl (.inl rfl) (fun _ _ _ _ _ _ us hl=>match us,hl with|[_],_=>rfl) (fun f cdv A outer s H E hr tk hp=> ?_)
 exact(eG (fW (i:=1) nd (iJ eX))
 (eG (jC (i:=2) nd (jX eX))
 (eG (kJ hp (afM (eE 0)) (jf 3 nd) (eG (mK (i:=2) (gD jc jd (Z.free 0) PySem.boot_len (d9 (dZ (eE 1)) eX)))
 (eU (fW (i:=1) nd (fJ g8 ir (dZ (eE 1)) (dZ (iJ (d9 (iJ (d9 fO (d9 (eE 3) eX))) eX))))))))
 (eG (vA hp (fM BZ BV (dZ (gD jc jd (Z.free 0) PySem.boot_len (d9 (jy 2) eX))) (dZ eV)) (eG (jC (i:=4) nd (jX eX))
 (eG (kJ hp (akb (Z.free 3) (d9 (dZ eV) (d9 (dZ (fJ nu nq (dZ (gD jc jd (Z.free 0) PySem.boot_len (d9 (jy 2) eX))) (dZ eV))) (d9 (dZ eV) eX)))) (jf 5 nd) (eG (mK (i:=4) (gD jc jd (Z.free 0) PySem.boot_len (d9 (dZ (eE 1)) eX)))
 (eU (fW (i:=1) nd (fJ g8 ir (dZ (eE 1)) (dZ (iJ (d9 (iJ (d9 fO (d9 (fD (jy 2) (dZ (eE 5))) (d9 (fD (jy 2) (dZ (fJ g8 ir (dZ (eE 5)) (dZ eV)))) eX)))) eX))))))))
 (eG (fX (fM (gW hr.units) ne_eq (dZ (fJ jL jO (dZ (gD jc jd (Z.free 0) PySem.boot_len (d9 (jy 2) eX))) (dZ eV))) (dZ eV)) (eU (mK (i:=4) (fD (jy 2) (dZ (MJ (dZ eV)))))) fK)
 (eU (ai2 2 4 nd))))))
 (eU (fQ (iJ (d9 (eE 1) (d9 (fD (jy 2) (dZ eV)) eX)))))))))
theorem Lp{P:Program}{w:World}{K:aq}{mg:Str→Option Value}{base:Heap}(Z:mJ fa fn K mg)(Zx:oR xs K mg):Has P w K mg base "joined" 4 ["rules","one","other"] (oZ K [.dat, .dat, .dat] .dat wX):=by
 have nd:(["rules","one","other","rows","name"]:List Str).Nodup:=Xb.nd
 refine gQ (d:=aaQ) (N:=["rules","one","other","rows","name"]) (n:=2) (k:=3) Z 59 95 rfl rfl rfl rfl rfl Xb rfl rfl (.inl rfl) (fun _ _ _ _ _ _ us hl=>match us,hl with|[_,_,_],_=>rfl) (fun f cdv A outer s H E hr tk hp=> ?_)
 exact(eG (fX (fM BZ BV (dZ (fJ g8 ir (dZ (gj (pU Z Zx) hr tk (d9 (eE 0) (d9 (eE 1) eX)))) (dZ (gj (pU Z Zx) hr tk (d9 (eE 0) (d9 (eE 2) eX)))))) (dZ (wA (Z.int 31)))) (eU (pX tk (Z.exc 87) (Z.glo 88))) fK)
 (eG (jC (i:=3) nd (iY Aj Aq (Z.free 2) (by decide+kernel) (d9 (dZ (eE 0)) eX)))
 (eG (BP (i:=4) nd (vQ 3 (zX Z Zx) hr tk (d9 (eE 1) (d9 (eE 2) eX))))
 (eU (fQ (iJ (d9 (iY rJ rO (Z.free 60) (by decide+kernel) (d9 (jy 3) eX)) (d9 (eE 4) eX))))))))
theorem agT{P:Program}{w:World}{K:aq}{mg:Str→Option Value}{base:Heap}(Z:mJ fa fn K mg)(Zx:oR xs K mg):Has P w K mg base "put_in" 6 ["one","place","other"] (oZ K [.dat, .dat, .dat] .dat Tn):=by
 have nd:(["one","place","other","rules","name","middle","size","head","tail","front"]:List Str).Nodup:=VB.nd
 refine gQ (d:=aa3) (N:=["one","place","other","rules","name","middle","size","head","tail","front"]) (n:=7) (k:=5) Z 60 96 rfl rfl rfl rfl rfl VB rfl rfl (.inl rfl) (fun _ _ _ _ _ _ us hl=>match us,hl with|[_,_,_],_=>rfl) (fun f cdv A outer s H E hr tk hp=> ?_)
 exact(eG (lu (gj (xg Z Zx) hr tk (d9 (eE 0) (d9 (eE 2) eX))) (tK (fZ (jf 3 nd) (fZ (jf 4 nd) (fZ (jf 5 nd) jU)))))
 (eG (fW (i:=6) nd (gj (pU Z Zx) hr tk (d9 (eE 3) (d9 (eE 4) eX))))
 (eG (lu (gj (R7 Z Zx) hr tk (d9 (eE 3) (d9 (eE 4) (d9 eV (d9 (eE 1) eX))))) (tK (fZ (jf 3 nd) (fZ (jf 7 nd) jU))))
 (eG (lu (gj (R7 Z Zx) hr tk (d9 (eE 3) (d9 (eE 4) (d9 (eE 1) (d9 (eE 6) eX))))) (tK (fZ (jf 3 nd) (fZ (jf 8 nd) jU))))
 (eG (lu (gj (Lp Z Zx) hr tk (d9 (eE 3) (d9 (eE 7) (d9 (eE 5) eX)))) (tK (fZ (jf 3 nd) (fZ (jf 9 nd) jU))))
 (eU (fQ (gj (Lp Z Zx) hr tk (d9 (eE 3) (d9 (eE 9) (d9 (eE 8) eX)))))))))))
theorem agJ{P:Program}{w:World}{K:aq}{mg:Str→Option Value}{base:Heap}(Z:mJ fa fn K mg)(Zx:oR xs K mg):Has P w K mg base "of_two" 7 ["verb","one","values","texts"] (oZ K [.dat, .dat, .dat, .bor] .dat Kf):=by
 have nd:(["verb","one","values","texts","rules","name","other"]:List Str).Nodup:=VJ.nd
 refine gQ (d:=aal) (N:=["verb","one","values","texts","rules","name","other"]) (n:=3) (k:=6) Z 61 97 rfl rfl rfl rfl rfl VJ rfl rfl (.inl rfl) (fun _ _ _ _ _ _ us hl=>match us,hl with|[_,_,_,_],_=>rfl) (fun f cdv A outer s H E hr tk hp=> ?_)
 exact(eG (fX (fM (gW hr.units) ne_eq (dZ (eE 0)) (dZ fO)) (eU (fQ (gj (agT Z Zx) hr tk (d9 (eE 1) (d9 (fD (dZ (eE 2)) (dZ eV)) (d9 (mD hr.units (jy 3) (dZ (fD (dZ (eE 2)) (dZ eV)))) eX)))))) fK)
 (eG (lu (gj (xg Z Zx) hr tk (d9 (eE 1) (d9 (mD hr.units (jy 3) (dZ (fD (dZ (eE 2)) (dZ eV)))) eX))) (tK (fZ (jf 4 nd) (fZ (jf 5 nd) (fZ (jf 6 nd) jU)))))
 (eU (fQ (gj (Lp Z Zx) hr tk (d9 (eE 4) (d9 (eE 5) (d9 (eE 6) eX))))))))
theorem aaP{P:Program}{w:World}{K:aq}{mg:Str→Option Value}{base:Heap}(Z:mJ fa fn K mg)(Zx:oR xs K mg):Has P w K mg base "taken_out" 6 ["one","start","end"] (oZ K [.dat, .dat, .dat] .dat N5):=by
 have nd:(["one","start","end","size","rules","head","tail"]:List Str).Nodup:=JS.nd
 refine gQ (d:=Oq) (N:=["one","start","end","size","rules","head","tail"]) (n:=4) (k:=5) Z 62 98 rfl rfl rfl rfl rfl JS rfl rfl (.inl rfl) (fun _ _ _ _ _ _ us hl=>match us,hl with|[_,_,_],_=>rfl) (fun f cdv A outer s H E hr tk hp=> ?_)
 exact(eG (vg (gj (R7 Z Zx) hr tk (d9 (fD (dZ (eE 0)) (dZ eV)) (d9 (fD (dZ (eE 0)) (dZ eV)) (d9 (eE 1) (d9 (eE 2) eX))))))
 (eG (fW (i:=3) nd (gj (pU Z Zx) hr tk (d9 (fD (dZ (eE 0)) (dZ eV)) (d9 (fD (dZ (eE 0)) (dZ eV)) eX))))
 (eG (lu (gj (R7 Z Zx) hr tk (d9 (fD (dZ (eE 0)) (dZ eV)) (d9 (fD (dZ (eE 0)) (dZ eV)) (d9 eV (d9 (eE 1) eX))))) (tK (fZ (jf 4 nd) (fZ (jf 5 nd) jU))))
 (eG (lu (gj (R7 Z Zx) hr tk (d9 (eE 4) (d9 (fD (dZ (eE 0)) (dZ eV)) (d9 (eE 2) (d9 (eE 3) eX))))) (tK (fZ (jf 4 nd) (fZ (jf 6 nd) jU))))
 (eU (fQ (gj (Lp Z Zx) hr tk (d9 (eE 4) (d9 (eE 5) (d9 (eE 6) eX))))))))))
theorem abB{P:Program}{w:World}{K:aq}{mg:Str→Option Value}{base:Heap}(Z:mJ fa fn K mg)(Zx:oR xs K mg):Has P w K mg base "repeated" 4 ["rules","name","many"] (oZ K [.dat, .dat, .dat] .dat Jb):=by
 have nd:(["rules","name","many","rows","found"]:List Str).Nodup:=N8.nd
 refine gQ (d:=Ro) (N:=["rules","name","many","rows","found"]) (n:=2) (k:=3) Z 63 99 rfl rfl rfl rfl rfl N8 rfl rfl (.inl rfl) (fun _ _ _ _ _ _ us hl=>match us,hl with|[_,_,_],_=>rfl) (fun f cdv A outer s H E hr tk hp=> ?_)
 exact(eG (fX (fM BZ BV (dZ (fJ nW oh (dZ (gj (pU Z Zx) hr tk (d9 (eE 0) (d9 (eE 1) eX)))) (dZ (eE 2)))) (dZ (wA (Z.int 31)))) (eU (pX tk (Z.exc 87) (Z.glo 88))) fK)
 (eG (jC (i:=3) nd (iY Aj Aq (Z.free 2) (by decide+kernel) (d9 (dZ (eE 0)) eX)))
 (eG (BP (i:=4) nd (vQ 3 (Xh Z Zx) hr tk (d9 (eE 1) (d9 (eE 2) eX))))
 (eU (fQ (iJ (d9 (iY rJ rO (Z.free 60) (by decide+kernel) (d9 (jy 3) eX)) (d9 (eE 4) eX))))))))
theorem agY{P:Program}{w:World}{K:aq}{mg:Str→Option Value}{base:Heap}(Z:mJ fa fn K mg)(Zx:oR xs K mg):Has P w K mg base "turned" 3 ["rules","name"] (oZ K [.dat, .dat] .dat Le):=by
 have nd:(["rules","name","rows","numbers","number","rule"]:List Str).Nodup:=Wk.nd
 refine gQ (d:=aa2) (N:=["rules","name","rows","numbers","number","rule"]) (n:=4) (k:=2) Z 64 100 rfl rfl rfl rfl rfl Wk rfl rfl (.inl rfl) (fun _ _ _ _ _ _ us hl=>match us,hl with|[_,_],_=>rfl) (fun f cdv A outer s H E hr tk hp=> ?_)
 exact(eG (vg (gj (Bp Z Zx) hr tk (d9 (eE 0) (d9 (eE 1) eX))))
 (eG (jC (i:=2) nd (iY Aj Aq (Z.free 2) (by decide+kernel) (d9 (dZ (eE 0)) eX)))
 (eG (jC (i:=3) nd Ar)
 (eG (kJ hp (M5 (j7 (gj (Ec Z Zx) hr tk (d9 (eE 0) (d9 (eE 1) eX))))) (jf 4 nd) (eG (fW (i:=5) nd (gj (Gj Z Zx) hr tk (d9 (fD (dZ (eE 0)) (dZ (eE 4))) (d9 (jy 3) eX))))
 (eG (fX (fM (gW hr.units) ne_eq (dZ (fD (dZ (eE 5)) (dZ eV))) (dZ fO)) (eU (fW (i:=5) nd (iJ (d9 fO (d9 (fD (dZ (eE 5)) (dZ eV)) (d9 (fD (dZ (eE 5)) (dZ eV)) eX)))))) fK)
 (eG (qU 3 hr.units (dZ (eE 4)) (eE 4))
 (eU (fX (fM (uJ hr.units) yS (dZ (eE 5)) (dZ (fD (dZ (eE 0)) (dZ (eE 4))))) (eU (adb 3 hr.units (dZ (eE 4)) (vQ 2 (tY Z Zx) hr tk (d9 (eE 5) eX)))) fK))))))
 (eU (fQ (iJ (d9 (iY rJ rO (Z.free 60) (by decide+kernel) (d9 (jy 2) eX)) (d9 (QH hr.units (jy 3) (dZ (eE 1))) eX)))))))))
theorem aaA{P:Program}{w:World}{K:aq}{mg:Str→Option Value}{base:Heap}(Z:mJ fa fn K mg)(Zx:oR xs K mg):Has P w K mg base "otherwise" 3 ["rules","name","sign","other"] (oZ K [.dat, .dat, .dat, .dat] .dat Oc):=by
 have nd:(["rules","name","sign","other","rows","numbers","number","rule"]:List Str).Nodup:=J5.nd
 refine gQ (d:=NP) (N:=["rules","name","sign","other","rows","numbers","number","rule"]) (n:=4) (k:=2) Z 65 101 rfl rfl rfl rfl rfl J5 rfl rfl (.inl rfl) (fun _ _ _ _ _ _ us hl=>match us,hl with|[_,_,_,_],_=>rfl) (fun f cdv A outer s H E hr tk hp=> ?_)
 exact(eG (vg (gj (Bp Z Zx) hr tk (d9 (eE 0) (d9 (eE 1) eX))))
 (eG (jC (i:=4) nd (iY Aj Aq (Z.free 2) (by decide+kernel) (d9 (dZ (eE 0)) eX)))
 (eG (jC (i:=5) nd Ar)
 (eG (kJ hp (M5 (j7 (gj (Ec Z Zx) hr tk (d9 (eE 0) (d9 (eE 1) eX))))) (jf 6 nd) (eG (fW (i:=7) nd (gj (Gj Z Zx) hr tk (d9 (fD (dZ (eE 0)) (dZ (eE 6))) (d9 (jy 5) eX))))
 (eG (fX (fM (gW hr.units) ne_eq (dZ (eE 7)) (dZ (iJ (d9 fO (d9 (eE 2) eX))))) (eU (fW (i:=7) nd (iJ (d9 fO (d9 (eE 3) eX))))) fK)
 (eG (qU 5 hr.units (dZ (eE 6)) (eE 6))
 (eU (fX (fM (uJ hr.units) yS (dZ (eE 7)) (dZ (fD (dZ (eE 0)) (dZ (eE 6))))) (eU (adb 5 hr.units (dZ (eE 6)) (vQ 4 (tY Z Zx) hr tk (d9 (eE 7) eX)))) fK))))))
 (eU (fQ (iJ (d9 (iY rJ rO (Z.free 60) (by decide+kernel) (d9 (jy 4) eX)) (d9 (QH hr.units (jy 5) (dZ (eE 1))) eX)))))))))
theorem afT{P:Program}{w:World}{K:aq}{mg:Str→Option Value}{base:Heap}(Z:mJ fa fn K mg)(Zx:oR xs K mg):Has P w K mg base "of_one" 7 ["verb","one","values"] (oZ K [.dat, .dat, .dat] .dat Ln):=by
 have nd:(["verb","one","values"]:List Str).Nodup:=WL.nd
 refine gQ (d:=aaY) (N:=["verb","one","values"]) (n:=0) (k:=6) Z 66 102 rfl rfl rfl rfl rfl WL rfl rfl (.inl rfl) (fun _ _ _ _ _ _ us hl=>match us,hl with|[_,_,_],_=>rfl) (fun f cdv A outer s H E hr tk hp=> ?_)
 exact(eG (fX (fM (gW hr.units) ne_eq (dZ (eE 0)) (dZ fO)) (eU (fQ (gj (abB Z Zx) hr tk (d9 (fD (dZ (eE 1)) (dZ eV)) (d9 (fD (dZ (eE 1)) (dZ eV)) (d9 (fD (dZ (eE 2)) (dZ eV)) eX)))))) fK)
 (eG (fX (fM (gW hr.units) ne_eq (dZ (eE 0)) (dZ fO)) (eU (fQ (gj (agY Z Zx) hr tk (d9 (fD (dZ (eE 1)) (dZ eV)) (d9 (fD (dZ (eE 1)) (dZ eV)) eX))))) fK)
 (eG (fX (fM (gW hr.units) ne_eq (dZ (eE 0)) (dZ fO)) (eU (fQ (gj (aaA Z Zx) hr tk (d9 (fD (dZ (eE 1)) (dZ eV)) (d9 (fD (dZ (eE 1)) (dZ eV)) (d9 (fD (dZ (eE 2)) (dZ eV)) (d9 (fD (dZ (eE 2)) (dZ eV)) eX))))))) fK)
 (eG (fX (fM (gW hr.units) ne_eq (dZ (eE 0)) (dZ fO)) (eU (fQ (gj (R7 Z Zx) hr tk (d9 (fD (dZ (eE 1)) (dZ eV)) (d9 (fD (dZ (eE 1)) (dZ eV)) (d9 (fD (dZ (eE 2)) (dZ eV)) (d9 (fD (dZ (eE 2)) (dZ eV)) eX))))))) fK)
 (eU (fQ (gj (aaP Z Zx) hr tk (d9 (eE 1) (d9 (fD (dZ (eE 2)) (dZ eV)) (d9 (fD (dZ (eE 2)) (dZ eV)) eX))))))))))
theorem O5{P:Program}{w:World}{K:aq}{mg:Str→Option Value}{base:Heap}(Z:mJ fa fn K mg)(Zx:oR xs K mg):Has P w K mg base "made_text" 8 ["texts","deed"] (oZ K [.bor, .dat] .dat nQ):=by
 have nd:(["texts","deed","verb","new","values","rules","name"]:List Str).Nodup:=JZ.nd
 refine gQ (d:=Nt) (N:=["texts","deed","verb","new","values","rules","name"]) (n:=5) (k:=7) Z 67 103 rfl rfl rfl rfl rfl JZ rfl rfl (.inl rfl) (fun _ _ _ _ _ _ us hl=>match us,hl with|[_,_],_=>rfl) (fun f cdv A outer s H E hr tk hp=> ?_)
 exact(eG (lu (eE 1) (tK (fZ (jf 2 nd) (fZ (jf 3 nd) (fZ (jf 4 nd) jU)))))
 (eG (vg (gj (Eo Z Zx) hr tk (d9 (jy 0) (d9 (gj (RP Z Zx) hr tk (d9 (eE 2) eX)) (d9 (eE 4) eX)))))
 (eG (fX (fM (gW hr.units) ne_eq (dZ (eE 2)) (dZ fO)) (eU (lu (gj (O8 Z Zx) hr tk (d9 (fD (dZ (eE 4)) (dZ eV)) eX)) (tK (fZ (jf 5 nd) (fZ (jf 6 nd) jU))))) (eU (fX (zN (uK (fM (gW hr.units) ne_eq (dZ (eE 2)) (dZ fO)) (vC (fM (gW hr.units) ne_eq (dZ (eE 2)) (dZ fO))))) (eU (lu (gj (agJ Z Zx) hr tk (d9 (eE 2) (d9 (mD hr.units (jy 0) (dZ (fD (dZ (eE 4)) (dZ eV)))) (d9 (eE 4) (d9 (jy 0) eX))))) (tK (fZ (jf 5 nd) (fZ (jf 6 nd) jU))))) (eU (lu (gj (afT Z Zx) hr tk (d9 (eE 2) (d9 (mD hr.units (jy 0) (dZ (fD (dZ (eE 4)) (dZ eV)))) (d9 (eE 4) eX)))) (tK (fZ (jf 5 nd) (fZ (jf 6 nd) jU))))))))
 (eU (fQ (gj (alw Z Zx) hr tk (d9 (eE 5) (d9 (eE 6) eX))))))))
theorem Pu{P:Program}{w:World}{K:aq}{mg:Str→Option Value}{base:Heap}(Z:mJ fa fn K mg)(Zx:oR xs K mg):aeY P w K mg base "Book" "exchange" 1 ["self","one","other"] (SpG K 3 vH):=by
 have nd:(["self","one","other","kept"]:List Str).Nodup:=Ad.nd
 refine afP (d:=Ca) (N:=["self","one","other","kept"]) (n:=1) (k:=0) (bs:=[true,false,false]) Z 68 104 13 rfl rfl rfl rfl rfl rfl Ad rfl rfl (fun _ _ _ _ _ _ us hl=>match us,hl with|[_,_,_],_=>rfl) (fun pa f cdv A outer s H E hr tk hp=> ?_)
 exact(eG (fW (i:=3) nd (mD hr.units (yd (vG 0 0 (Z.cls 13) (Z.noat 14))) (dZ (eE 1))))
 (eG (YW (vG 0 0 (Z.cls 13) (Z.noat 14)) hr.units (dZ (eE 1)) (acJ (mD hr.units (yd (vG 0 0 (Z.cls 13) (Z.noat 14))) (dZ (eE 2)))))
 (eG (YW (vG 0 0 (Z.cls 13) (Z.noat 14)) hr.units (dZ (eE 2)) (acJ (eE 3)))
 (eU (wj fO)))))
theorem Bc{P:Program}{w:World}{K:aq}{mg:Str→Option Value}{base:Heap}(Z:mJ fa fn K mg)(Zx:oR xs K mg):aeY P w K mg base "Book" "say" 11 ["self","row"] (SpG K 2 jN):=by
 have nd:(["self","row","deed","asked","verb","values"]:List Str).Nodup:=Om.nd
 refine afP (d:=TX) (N:=["self","row","deed","asked","verb","values"]) (n:=4) (k:=10) (bs:=[true,false]) Z 69 107 13 rfl rfl rfl rfl rfl rfl Om rfl rfl (fun _ _ _ _ _ _ us hl=>match us,hl with|[_,_],_=>rfl) (fun pa f cdv A outer s H E hr tk hp=> ?_)
 exact(eG (fW (i:=2) nd (gj (Dz Z Zx) hr tk (d9 (eE 1) eX)))
 (eG (fX (fM FJ Dq (dZ (eE 2)) (dZ iW)) (eG (YW (vG 0 0 (Z.cls 13) (Z.noat 14)) hr.units (dZ (fD (dZ (eE 2)) (dZ eV))) (acJ (gj (O5 Z Zx) hr tk (d9 (yd (vG 0 0 (Z.cls 13) (Z.noat 14))) (d9 (eE 2) eX)))))
 (eU (wj fO))) fK)
 (eG (fW (i:=3) nd (gj (Zr Z Zx) hr tk (d9 (eE 1) eX)))
 (eG (fX (fM qO ne_is (dZ (eE 3)) (dZ iW)) (eU (pX tk (Z.exc 105) (Z.glo 106))) fK)
 (eG (lu (eE 3) (tK (fZ (jf 4 nd) (fZ (jf 5 nd) jU))))
 (eG (vg (gj (Eo Z Zx) hr tk (d9 (yd (vG 0 0 (Z.cls 13) (Z.noat 14))) (d9 (gj (HW Z Zx) hr tk (d9 (eE 4) eX)) (d9 (eE 5) eX)))))
 (eG (fX (fM (gW hr.units) ne_eq (dZ (eE 4)) (dZ fO)) (eG (ajn (vG 0 0 (Z.cls 13) (Z.noat 14)) (dZ (fD (dZ (eE 5)) (dZ eV))))
 (eU (wj fO))) fK)
 (eG (fX (fM (gW hr.units) ne_eq (dZ (eE 4)) (dZ fO)) (eU (af2 (agE 0 (Pu Z Zx) hr tk (Oa (fD (dZ (eE 5)) (dZ eV)) (Oa (fD (dZ (eE 5)) (dZ eV)) Gm))))) fK)
 (eU (wj (am2 0 (U6 Z Zx) hr tk (Oa (eE 4) (Oa (eE 5) Gm)))))))))))))
theorem abd{P:Program}{w:World}{K:aq}{mg:Str→Option Value}{base:Heap}(Z:mJ fa fn K mg)(Zx:oR xs K mg):Has P w K mg base "_law_back" 1 ["_law_kind","_law_sizes","_law_place_here"] (oZ K [.dat, .dat, .dat] .dat nM):=by
 have nd:(["_law_kind","_law_sizes","_law_place_here","_law_gap"]:List Str).Nodup:=JX.nd
 refine gQ (d:=Nr) (N:=["_law_kind","_law_sizes","_law_place_here","_law_gap"]) (n:=1) (k:=0) Z 70 108 rfl rfl rfl rfl rfl JX rfl rfl (.inl rfl) (fun _ _ _ _ _ _ us hl=>match us,hl with|[_,_,_],_=>rfl) (fun f cdv A outer s H E hr tk hp=> ?_)
 exact(eG (fW (i:=3) nd (fD (dZ (eE 1)) (dZ (fD (dZ (eE 0)) (dZ eV)))))
 (eG (fX (fM (gW hr.units) ne_eq (dZ (fD (dZ (eE 0)) (dZ eV))) (dZ fO)) (eU (fW (i:=3) nd (fD (dZ (eE 0)) (dZ eV)))) fK)
 (eG (fX (fM qp qD (dZ (eE 2)) (dZ (eE 3))) (eU (fQ (iJ (d9 (fD (dZ (eE 0)) (dZ eV)) (d9 (eE 2) eX))))) fK)
 (eG (fX (fM qp qD (dZ (eE 2)) (dZ (fJ g8 ir (dZ (eE 3)) (dZ (fD (dZ (eE 1)) (dZ (fD (dZ (eE 0)) (dZ eV)))))))) (eU (fQ (iJ (d9 (fD (dZ (eE 0)) (dZ eV)) (d9 (fJ nu nq (dZ (eE 2)) (dZ (eE 3))) eX))))) fK)
 (eU (fQ (iJ (d9 (fD (dZ (eE 0)) (dZ eV)) (d9 (fJ nu nq (dZ (eE 2)) (dZ (fD (dZ (eE 1)) (dZ (fD (dZ (eE 0)) (dZ eV)))))) eX)))))))))
theorem El{P:Program}{w:World}{K:aq}{mg:Str→Option Value}{base:Heap}(Z:mJ fa fn K mg)(Zx:oR xs K mg):Has P w K mg base "_law_sign_of" 2 ["_law_kinds","_law_sizes","_law_at","_law_place_here"] (oZ K [.dat, .dat, .dat, .dat] .dat o8):=by
 have nd:(["_law_kinds","_law_sizes","_law_at","_law_place_here","_law_kind"]:List Str).Nodup:=Cm.nd
 refine gQ (d:=Dc) (N:=["_law_kinds","_law_sizes","_law_at","_law_place_here","_law_kind"]) (n:=1) (k:=1) Z 71 109 rfl rfl rfl rfl rfl Cm rfl rfl (.inl rfl) (fun _ _ _ _ _ _ us hl=>match us,hl with|[_,_,_,_],_=>rfl) (fun f cdv A outer s H E hr tk hp=> ?_)
 exact(eG (vA hp (fM (uJ hr.units) yS (dZ (fD (dZ (fD (dZ (eE 0)) (dZ (eE 2)))) (dZ eV))) (dZ fO)) (eG (fW (i:=4) nd (fD (dZ (eE 0)) (dZ (eE 2))))
 (eU (fX (fM (gW hr.units) ne_eq (dZ (fD (dZ (eE 4)) (dZ eV))) (dZ fO)) (eG (fW (i:=3) nd (fJ nu nq (dZ (fJ nu nq (dZ (fD (dZ (eE 1)) (dZ (eE 2)))) (dZ eV))) (dZ (eE 3))))
 (eU (fW (i:=2) nd (fD (dZ (eE 4)) (dZ eV))))) (eU (lu (gj (abd Z Zx) hr tk (d9 (eE 4) (d9 (eE 1) (d9 (eE 3) eX)))) (tK (fZ (jf 2 nd) (fZ (jf 3 nd) jU)))))))))
 (eU (fQ (fD (dZ (fD (dZ (fD (dZ (eE 0)) (dZ (eE 2)))) (dZ eV))) (dZ (eE 3))))))
theorem K6{P:Program}{w:World}{K:aq}{mg:Str→Option Value}{base:Heap}(Z:mJ fa fn K mg)(Zx:oR xs K mg):Has P w K mg base "_law_book_keeps" 12 ["_law_made_here","_law_draws_here","_law_sign"] (oZ K [.dat, .dat, .dat] .dat tX):=by
 have nd:(["_law_made_here","_law_draws_here","_law_sign","_law_rows","_law_kinds","_law_sizes","_law_names","_law_book","_law_more","_law_row","_law_counts_here","_law_word","_law_at","_law_often","_law_place_here"]:List Str).Nodup:=xq.nd
 refine gQ (d:=yX) (N:=["_law_made_here","_law_draws_here","_law_sign","_law_rows","_law_kinds","_law_sizes","_law_names","_law_book","_law_more","_law_row","_law_counts_here","_law_word","_law_at","_law_often","_law_place_here"]) (n:=12) (k:=11) Z 72 110 rfl rfl rfl rfl rfl xq rfl rfl (.inl rfl) (fun _ _ _ _ _ _ us hl=>match us,hl with|[_,_,_],_=>rfl) (fun f cdv A outer s H E hr tk hp=> ?_)
 exact(eG (lu (eE 0) (tK (fZ (jf 3 nd) (fZ (jf 4 nd) (fZ (jf 5 nd) (fZ (jf 6 nd) jU))))))
 (eG (aib (i:=7) nd (akt (Pr Z Zx) hr))
 (eG (fW (i:=8) nd (j7 (ail (jX (d9 fO eX)) (dZ (fJ jL jO (dZ (fD (dZ (eE 1)) (dZ eV))) (dZ eV))))))
 (eG (kJ hp (M5 (fJ g8 ir (dZ (eE 3)) (dZ (eE 8)))) (jf 9 nd) (eU (Xl (Qx (uJ hr.units) (agE 7 (Bc Z Zx) hr tk (Oa (eE 9) Gm)) (acJ fO)) (eU (fQ qG)) fK)))
 (eG (fW (i:=10) nd (j7 (gj (Vl Z Zx) hr tk (d9 (eE 4) (d9 (eE 2) eX)))))
 (eG (aki 6 (aio (.v 6) hp (pe_var (i:=6) rfl (by first|exact Or.inl rfl|exact Or.inr (Or.inl rfl)|exact Or.inr (Or.inr rfl))) (jf 11 nd) (eG (fW (i:=12) nd (mD hr.units (jy 6) (dZ (eE 11))))
 (eG (fW (i:=13) nd (fD (Bv (jX (d9 eV (d9 (fJ alx akB (dZ eV) (dZ (gD jc jd (Z.free 0) PySem.boot_len (d9 (dZ (eE 8)) eX)))) eX)))) (dZ (iY agA ac1 (Z.free 29) (by decide+kernel) (d9 (dZ (Gg (gW hr.units) ne_eq (dZ (eE 11)) (dZ fO))) eX)))))
 (eG (fW (i:=14) nd (gj (Kl Z Zx) hr tk (d9 (fD (dZ (eE 1)) (dZ eV)) (d9 (fD (dZ (eE 5)) (dZ (eE 12))) eX))))
 (eG (Xl (Qx (uJ hr.units) (agE 7 (Bc Z Zx) hr tk (Oa (fJ g8 ir (dZ fO) (dZ (eE 11))) Gm)) (acJ (iY Am wk (Z.free 7) (by decide+kernel) (d9 (dZ (fJ nW oh (dZ (fD (dZ (eE 5)) (dZ (eE 12)))) (dZ (eE 13)))) eX)))) (eU (fQ qG)) fK)
 (eG (Xl (Qx (uJ hr.units) (agE 7 (Bc Z Zx) hr tk (Oa (fJ g8 ir (dZ (fJ g8 ir (dZ (fJ g8 ir (dZ fO) (dZ (eE 11)))) (dZ fO))) (dZ (iY Am wk (Z.free 7) (by decide+kernel) (d9 (dZ (eE 14)) eX)))) Gm)) (acJ (gj (El Z Zx) hr tk (d9 (eE 4) (d9 (eE 5) (d9 (eE 12) (d9 (eE 14) eX))))))) (eU (fQ qG)) fK)
 (eU (Xl (Qx (uJ hr.units) (agE 7 (Bc Z Zx) hr tk (Oa (fJ g8 ir (dZ (fJ g8 ir (dZ (fJ g8 ir (dZ fO) (dZ (eE 11)))) (dZ fO))) (dZ (eE 2))) Gm)) (acJ (iY Am wk (Z.free 7) (by decide+kernel) (d9 (dZ (fJ nW oh (dZ (fD (dZ (eE 10)) (dZ (eE 12)))) (dZ (eE 13)))) eX)))) (eU (fQ qG)) fK)))))))))
 (eU (fQ qG))))))))
theorem Fd{P:Program}{w:World}{K:aq}{mg:Str→Option Value}{base:Heap}(Z:mJ fa fn K mg)(Zx:oR xs K mg):Has P w K mg base "_law_lengths" 1 ["_law_rules"] (oZ K [.dat] .new uF):=by
 have nd:(["_law_rules","_law_sizes","_law_rule","_law_size"]:List Str).Nodup:=Cz.nd
 refine gQ (d:=CW) (N:=["_law_rules","_law_sizes","_law_rule","_law_size"]) (n:=3) (k:=0) Z 73 111 rfl rfl rfl rfl rfl Cz rfl rfl (.inr (lE (lE wQ))) (fun _ _ _ _ _ _ us hl=>match us,hl with|[_],_=>rfl) (fun f cdv A outer s H E hr tk hp=> ?_)
 exact(eG (jC (i:=1) nd (jX eX))
 (eG (kJ hp (aiZ (eE 0)) (jf 2 nd) (eG (fW (i:=3) nd eV)
 (eG (fX (fM (gW hr.units) ne_eq (dZ (fD (dZ (eE 2)) (dZ eV))) (dZ fO)) (eU (fW (i:=3) nd (fJ g8 ir (dZ (fD (jy 1) (dZ (fD (dZ (eE 2)) (dZ eV))))) (dZ (fD (jy 1) (dZ (fD (dZ (eE 2)) (dZ eV)))))))) (eU (fX (fM (gW hr.units) ne_eq (dZ (fD (dZ (eE 2)) (dZ eV))) (dZ fO)) (eU (fW (i:=3) nd (fJ nW oh (dZ (fD (jy 1) (dZ (fD (dZ (eE 2)) (dZ eV))))) (dZ (fD (dZ (eE 2)) (dZ eV)))))) fK)))
 (eU (mK (i:=1) (eE 3))))))
 (eU (yF 1))))
theorem Ay{P:Program}{w:World}{K:aq}{mg:Str→Option Value}{base:Heap}(Z:mJ fa fn K mg)(Zx:oR xs K mg):Has P w K mg base "_law_whole" 1 ["_law_found"] (oZ K [.dat] .dat pK):=by
 have nd:(["_law_found"]:List Str).Nodup:=Hz.nd
 refine gQ (d:=Lw) (N:=["_law_found"]) (n:=0) (k:=0) Z 74 113 rfl rfl rfl rfl rfl Hz rfl rfl (.inl rfl) (fun _ _ _ _ _ _ us hl=>match us,hl with|[_],_=>rfl) (fun f cdv A outer s H E hr tk hp=> ?_)
 exact(eU (fQ (Mf (dZ (xr "int" PyProof.Rows.boot_int aiW (Z.free 21) (Z.free 29) (dZ (eE 0)))) (Mr (akx (dZ (xr "bool" PyProof.Rows.boot_bool agd (Z.free 21) (Z.free 112) (dZ (eE 0)))))))))
theorem MK{P:Program}{w:World}{K:aq}{mg:Str→Option Value}{base:Heap}(Z:mJ fa fn K mg)(Zx:oR xs K mg):Has P w K mg base "_law_good_rule" 2 ["_law_rule","_law_k"] (oZ K [.dat, .dat] .dat lY):=by
 have nd:(["_law_rule","_law_k"]:List Str).Nodup:=yw.nd
 refine gQ (d:=zP) (N:=["_law_rule","_law_k"]) (n:=0) (k:=1) Z 75 114 rfl rfl rfl rfl rfl yw rfl rfl (.inl rfl) (fun _ _ _ _ _ _ us hl=>match us,hl with|[_,_],_=>rfl) (fun f cdv A outer s H E hr tk hp=> ?_)
 exact(eG (fX (zN (uK (mU (pF (dZ (xr "tuple" PyProof.Rows.boot_tuple kit_tuple (Z.free 21) (Z.free 60) (dZ (eE 0)))))) (uK (fM qp qD (dZ (gD jc jd (Z.free 0) PySem.boot_len (d9 (dZ (eE 0)) eX))) (dZ eV)) (vC (mU (pF (dZ (xr "str" PyProof.Rows.boot_str Qn (Z.free 21) (Z.free 7) (dZ (fD (dZ (eE 0)) (dZ eV))))))))))) (eU (fQ qG)) fK)
 (eG (fX (zN (DQ (fM (gW hr.units) ne_eq (dZ (fD (dZ (eE 0)) (dZ eV))) (dZ fO)) (yr (fM (gW hr.units) ne_eq (dZ (gD jc jd (Z.free 0) PySem.boot_len (d9 (dZ (eE 0)) eX))) (dZ eV))))) (eU (fQ (Mf (dZ (xr "str" PyProof.Rows.boot_str Qn (Z.free 21) (Z.free 7) (dZ (fD (dZ (eE 0)) (dZ eV))))) (Mf (dZ (Gg (gW hr.units) ne_eq (dZ (gD jc jd (Z.free 0) PySem.boot_len (d9 (dZ (fD (dZ (eE 0)) (dZ eV))) eX))) (dZ eV))) (Mr (aj7 (dZ (af4 Txt.isalpha F.slot_str_isalpha F.type_str_isalpha mt_isalpha (dZ (fD (dZ (eE 0)) (dZ eV))))) (Mr (af4 Txt.isdigit F.slot_str_isdigit F.type_str_isdigit mt_isdigit (dZ (fD (dZ (eE 0)) (dZ eV))))))))))) fK)
 (eG (fX (zN (uK (fM (uJ hr.units) yS (dZ (gD jc jd (Z.free 0) PySem.boot_len (d9 (dZ (eE 0)) eX))) (dZ eV)) (uK (mU (pF (dZ (gj (Ay Z Zx) hr tk (d9 (fD (dZ (eE 0)) (dZ eV)) eX))))) (uK (mU (rH rN qp rK qD (dZ eV) (dZ (fD (dZ (eE 0)) (dZ eV))) (dZ (eE 1)))) (vC (mU (pF (dZ (gj (Ay Z Zx) hr tk (d9 (fD (dZ (eE 0)) (dZ eV)) eX)))))))))) (eU (fQ qG)) fK)
 (eG (fX (fM (gW hr.units) ne_eq (dZ (fD (dZ (eE 0)) (dZ eV))) (dZ fO)) (eU (fQ (aaG rN qp rK qD (dZ eV) (dZ (fD (dZ (eE 0)) (dZ eV))) (dZ (eE 1))))) fK)
 (eU (fQ (Mf (dZ (Gg (gW hr.units) ne_eq (dZ (fD (dZ (eE 0)) (dZ eV))) (dZ fO))) (Mr (aaG rN rN rK rK (dZ eV) (dZ (fD (dZ (eE 0)) (dZ eV))) (dZ (fJ Af ne_pow (dZ eV) (dZ eV))))))))))))
theorem aam{P:Program}{w:World}{K:aq}{mg:Str→Option Value}{base:Heap}(Z:mJ fa fn K mg)(Zx:oR xs K mg):Has P w K mg base "_law_told" 3 ["_law_found","_law_words"] (oZ K [.dat, .dat] .dat Ei):=by
 have nd:(["_law_found","_law_words","_law_k","_law_pair","_law_word"]:List Str).Nodup:=Ju.nd
 refine gQ (d:=Nz) (N:=["_law_found","_law_words","_law_k","_law_pair","_law_word"]) (n:=3) (k:=2) Z 76 115 rfl rfl rfl rfl rfl Ju rfl rfl (.inl rfl) (fun _ _ _ _ _ _ us hl=>match us,hl with|[_,_],_=>rfl) (fun f cdv A outer s H E hr tk hp=> ?_)
 exact(eG (fX (zN (uK (mU (pF (dZ (xr "tuple" PyProof.Rows.boot_tuple kit_tuple (Z.free 21) (Z.free 60) (dZ (eE 0)))))) (uK (fM (uJ hr.units) yS (dZ (gD jc jd (Z.free 0) PySem.boot_len (d9 (dZ (eE 0)) eX))) (dZ eV)) (vC (mU (pF (dZ (xr "tuple" PyProof.Rows.boot_tuple kit_tuple (Z.free 21) (Z.free 60) (dZ (fD (dZ (eE 0)) (dZ eV))))))))))) (eU (fQ qG)) fK)
 (eG (fX (zN (uK (mU (pF (dZ (xr "list" PyProof.Rows.boot_list ahe (Z.free 21) (Z.free 2) (dZ (fD (dZ (eE 0)) (dZ eV))))))) (vC (fM (uJ hr.units) yS (dZ (gD jc jd (Z.free 0) PySem.boot_len (d9 (dZ (fD (dZ (eE 0)) (dZ eV))) eX))) (dZ (gD jc jd (Z.free 0) PySem.boot_len (d9 (dZ (eE 1)) eX))))))) (eU (fQ qG)) fK)
 (eG (kJ hp (R8 (Z.free 3) (dZ (gD jc jd (Z.free 0) PySem.boot_len (d9 (dZ (fD (dZ (eE 0)) (dZ eV))) eX)))) (jf 2 nd) (eU (fX (mU (pF (dZ (gj (MK Z Zx) hr tk (d9 (fD (dZ (fD (dZ (eE 0)) (dZ eV))) (dZ (eE 2))) (d9 (eE 2) eX)))))) (eU (fQ qG)) fK)))
 (eG (kJ hp (akz (Z.free 35) (d9 (fD (dZ (eE 0)) (dZ eV)) (d9 (eE 1) eX))) (tK (fZ (jf 3 nd) (fZ (jf 4 nd) jU))) (eG (fX (zN (uK (mU (pF (dZ (xr "tuple" PyProof.Rows.boot_tuple kit_tuple (Z.free 21) (Z.free 60) (dZ (eE 3)))))) (uK (fM (uJ hr.units) yS (dZ (gD jc jd (Z.free 0) PySem.boot_len (d9 (dZ (eE 3)) eX))) (dZ eV)) (uK (mU (pF (dZ (xr "str" PyProof.Rows.boot_str Qn (Z.free 21) (Z.free 7) (dZ (fD (dZ (eE 3)) (dZ eV))))))) (vC (fM (uJ hr.units) yS (dZ (fD (dZ (eE 3)) (dZ eV))) (dZ (eE 4)))))))) (eU (fQ qG)) fK)
 (eU (fX (zN (DQ (fM FJ Dq (dZ (fD (dZ (eE 3)) (dZ eV))) (dZ iW)) (yr (zN (uK (mU (pF (dZ (gj (Ay Z Zx) hr tk (d9 (fD (dZ (eE 3)) (dZ eV)) eX))))) (vC (mU (rH rN qp rK qD (dZ eV) (dZ (fD (dZ (eE 3)) (dZ eV))) (dZ (gD jc jd (Z.free 0) PySem.boot_len (d9 (dZ (fD (dZ (eE 0)) (dZ eV))) eX))))))))))) (eU (fQ qG)) fK))))
 (eU (fQ (aj7 (dZ (Gg (gW hr.units) ne_eq (dZ (gD jc jd (Z.free 0) PySem.boot_len (d9 (dZ (fD (dZ (eE 0)) (dZ eV))) eX))) (dZ eV))) (Mr (Gg rN rK (dZ (gD (agL rfl) ahl (Z.free 5) (by decide+kernel) (d9 (Bv (gj (Fd Z Zx) hr tk (d9 (fD (dZ (eE 0)) (dZ eV)) eX))) eX))) (dZ (fJ Af ne_pow (dZ eV) (dZ eV))))))))))))
theorem Vm{P:Program}{w:World}{K:aq}{mg:Str→Option Value}{base:Heap}(Z:mJ fa fn K mg)(Zx:oR xs K mg):Has P w K mg base "_law_length" 1 ["_law_sizes","_law_name"] (oZ K [.dat, .dat] .dat pZ):=by
 have nd:(["_law_sizes","_law_name"]:List Str).Nodup:=Du.nd
 refine gQ (d:=Hq) (N:=["_law_sizes","_law_name"]) (n:=0) (k:=0) Z 77 116 rfl rfl rfl rfl rfl Du rfl rfl (.inl rfl) (fun _ _ _ _ _ _ us hl=>match us,hl with|[_,_],_=>rfl) (fun f cdv A outer s H E hr tk hp=> ?_)
 exact(eG (fX (fM qO ne_is (dZ (eE 1)) (dZ iW)) (eU (fQ eV)) fK)
 (eU (fQ (fD (dZ (eE 0)) (dZ (eE 1))))))
theorem Rz{P:Program}{w:World}{K:aq}{mg:Str→Option Value}{base:Heap}(Z:mJ fa fn K mg)(Zx:oR xs K mg):Has P w K mg base "_law_sign_at" 1 ["_law_rules","_law_sizes","_law_name","_law_place_here"] (oZ K [.dat, .dat, .dat, .dat] .dat qK):=by
 have nd:(["_law_rules","_law_sizes","_law_name","_law_place_here","_law_one"]:List Str).Nodup:=Cp.nd
 refine gQ (d:=Eb) (N:=["_law_rules","_law_sizes","_law_name","_law_place_here","_law_one"]) (n:=1) (k:=0) Z 78 117 rfl rfl rfl rfl rfl Cp rfl rfl (.inl rfl) (fun _ _ _ _ _ _ us hl=>match us,hl with|[_,_,_,_],_=>rfl) (fun f cdv A outer s H E hr tk hp=> ?_)
 exact(eG (vA hp (fM (uJ hr.units) yS (dZ (fD (dZ (fD (dZ (eE 0)) (dZ (eE 2)))) (dZ eV))) (dZ fO)) (eG (fW (i:=4) nd (fD (dZ (fD (dZ (eE 0)) (dZ (eE 2)))) (dZ eV)))
 (eU (fX (fM (gW hr.units) ne_eq (dZ (fD (dZ (fD (dZ (eE 0)) (dZ (eE 2)))) (dZ eV))) (dZ fO)) (eG (fW (i:=3) nd (fJ jL jO (dZ (eE 3)) (dZ (fD (dZ (eE 1)) (dZ (eE 4))))))
 (eU (fW (i:=2) nd (eE 4)))) (eU (fX (fM qp qD (dZ (eE 3)) (dZ (fD (dZ (eE 1)) (dZ (eE 4))))) (eU (fW (i:=2) nd (eE 4))) (eG (fW (i:=3) nd (fJ nu nq (dZ (eE 3)) (dZ (fD (dZ (eE 1)) (dZ (eE 4))))))
 (eU (fW (i:=2) nd (fD (dZ (fD (dZ (eE 0)) (dZ (eE 2)))) (dZ eV)))))))))))
 (eU (fQ (fD (dZ (fD (dZ (eE 0)) (dZ (eE 2)))) (dZ eV)))))
theorem Py{P:Program}{w:World}{K:aq}{mg:Str→Option Value}{base:Heap}(Z:mJ fa fn K mg)(Zx:oR xs K mg):Has P w K mg base "_law_is_right" 4 ["_law_found","_law_made_here","_law_cell"] (oZ K [.dat, .dat, .dat] .dat vD):=by
 have nd:(["_law_found","_law_made_here","_law_cell","_law_rows","_law_kinds","_law_sizes","_law_names","_law_longs","_law_word","_law_name","_law_at","_law_place_here"]:List Str).Nodup:=zL.nd
 refine gQ (d:=Cq) (N:=["_law_found","_law_made_here","_law_cell","_law_rows","_law_kinds","_law_sizes","_law_names","_law_longs","_law_word","_law_name","_law_at","_law_place_here"]) (n:=9) (k:=3) Z 79 118 rfl rfl rfl rfl rfl zL rfl rfl (.inl rfl) (fun _ _ _ _ _ _ us hl=>match us,hl with|[_,_,_],_=>rfl) (fun f cdv A outer s H E hr tk hp=> ?_)
 exact(eG (lu (eE 1) (tK (fZ (jf 3 nd) (fZ (jf 4 nd) (fZ (jf 5 nd) (fZ (jf 6 nd) jU))))))
 (eG (fX (mU (pF (dZ (gj (aam Z Zx) hr tk (d9 (eE 0) (d9 (j7 (Gk (Z.free 11) (dZ (eE 6)))) eX)))))) (eU (fQ qG)) fK)
 (eG (fW (i:=7) nd (j7 (gj (Fd Z Zx) hr tk (d9 (fD (dZ (eE 0)) (dZ eV)) eX))))
 (eG (kJ hp (M5 (fD (dZ (eE 0)) (dZ eV))) (tK (fZ (jf 8 nd) (fZ (jf 9 nd) jU))) (eG (fW (i:=10) nd (mD hr.units (dZ (eE 6)) (dZ (eE 8))))
 (eG (fW (i:=11) nd (gj (Kl Z Zx) hr tk (d9 (eE 2) (d9 (fD (dZ (eE 5)) (dZ (eE 10))) eX))))
 (eG (fX (fM (uJ hr.units) yS (dZ (gj (Vm Z Zx) hr tk (d9 (eE 7) (d9 (eE 9) eX)))) (dZ (fD (dZ (eE 5)) (dZ (eE 10))))) (eU (fQ qG)) fK)
 (eU (fX (fM (uJ hr.units) yS (dZ (gj (Rz Z Zx) hr tk (d9 (fD (dZ (eE 0)) (dZ eV)) (d9 (eE 7) (d9 (eE 9) (d9 (eE 11) eX)))))) (dZ (gj (El Z Zx) hr tk (d9 (eE 4) (d9 (eE 5) (d9 (eE 10) (d9 (eE 11) eX))))))) (eU (fQ qG)) fK))))))
 (eU (fQ qG))))))
theorem acd{P:Program}{w:World}{K:aq}{mg:Str→Option Value}{base:Heap}(Z:mJ fa fn K mg)(Zx:oR xs K mg):Has P w K mg base "texts_of" 9 ["text"] (oZ K [.dat] .new Bh):=by
 have nd:(["text","texts","row","deed"]:List Str).Nodup:=Oe.nd
 refine gQ (d:=RQ) (N:=["text","texts","row","deed"]) (n:=3) (k:=8) Z 80 121 rfl rfl rfl rfl rfl Oe rfl rfl (.inr (lE (lE (lE wQ)))) (fun _ _ _ _ _ _ us hl=>match us,hl with|[_],_=>rfl) (fun f cdv A outer s H E hr tk hp=> ?_)
 exact(eG (jC (i:=1) nd Ar)
 (eG (fX (fM (gW hr.units) ne_eq (dZ (eE 0)) (dZ fO)) (eU (yF 1)) fK)
 (eG (kJ hp (M5 (j7 (TJ (dZ (eE 0)) (dZ fO)))) (jf 2 nd) (eG (fW (i:=3) nd (gj (Dz Z Zx) hr tk (d9 (eE 2) eX)))
 (eG (fX (fM qO ne_is (dZ (eE 3)) (dZ iW)) (eU (pX tk (Z.exc 119) (Z.glo 120))) fK)
 (eU (qU 1 hr.units (dZ (fD (dZ (eE 3)) (dZ eV))) (gj (O5 Z Zx) hr tk (d9 (jy 1) (d9 (eE 3) eX))))))))
 (eU (yF 1)))))
theorem alF{P:Program}{w:World}{K:aq}{mg:Str→Option Value}{base:Heap}(Z:mJ fa fn K mg)(Zx:oR xs K mg):Has P w K mg base "read" 10 ["text"] (oZ K [.dat] .dat Sw):=by
 have nd:(["text","texts","rules","names","word","some","name"]:List Str).Nodup:=aeb.nd
 refine gQ (d:=ag9) (N:=["text","texts","rules","names","word","some","name"]) (n:=6) (k:=9) Z 81 122 rfl rfl rfl rfl rfl aeb rfl rfl (.inl rfl) (fun _ _ _ _ _ _ us hl=>match us,hl with|[_],_=>rfl) (fun f cdv A outer s H E hr tk hp=> ?_)
 exact(eG (jC (i:=1) nd (gj (acd Z Zx) hr tk (d9 (eE 0) eX)))
 (eG (fW (i:=2) nd (iJ eX))
 (eG (jC (i:=3) nd (jX eX))
 (eG (kJ hp (M5 (j7 (Gk (Z.free 11) (jy 1)))) (jf 4 nd) (eG (lu (mD hr.units (jy 1) (dZ (eE 4))) (tK (fZ (jf 5 nd) (fZ (jf 6 nd) jU))))
 (eG (lu (gj (VD Z Zx) hr tk (d9 (eE 2) (d9 (eE 5) (d9 (eE 6) eX)))) (tK (fZ (jf 2 nd) (fZ (jf 6 nd) jU))))
 (eU (mK (i:=3) (iJ (d9 (eE 4) (d9 (eE 6) eX))))))))
 (eU (MN 3 (fQ (iJ (d9 (eE 2) (d9 (eE 3) eX))))))))))
theorem amF{P:Program}{w:World}{K:aq}{mg:Str→Option Value}{base:Heap}(Z:mJ fa fn K mg)(Zx:oR xs K mg):Has P w K mg base "law" 13 ["_law_script"] (oZ K [.dat] .dat aa1):=by
 have nd:(["_law_script","_law_draws_here","_law_made_here","_law_sign"]:List Str).Nodup:=afI.nd
 refine gQ (d:=afB) (N:=["_law_script","_law_draws_here","_law_made_here","_law_sign"]) (n:=3) (k:=12) Z 82 123 rfl rfl rfl rfl rfl afI rfl rfl (.inl rfl) (fun _ _ _ _ _ _ us hl=>match us,hl with|[_],_=>rfl) (fun f cdv A outer s H E hr tk hp=> ?_)
 exact(eG (fW (i:=1) nd (j7 (gj (XC Z Zx) hr tk (d9 (eE 0) (d9 eV (d9 eV eX))))))
 (eG (fW (i:=2) nd (gj (abt Z Zx) hr tk (d9 (eE 1) eX)))
 (eG (fW (i:=3) nd (gj (Df Z Zx) hr tk (d9 (fD (dZ (eE 1)) (dZ eV)) eX)))
 (eG (fX (fM (gW hr.units) ne_eq (dZ (fJ jL jO (dZ (fD (dZ (eE 1)) (dZ eV))) (dZ eV))) (dZ eV)) (eU (fW (i:=3) nd (fD (dZ (fD (dZ (fD (dZ (fD (dZ (eE 2)) (dZ eV))) (dZ eV))) (dZ eV))) (dZ (fJ jL jO (dZ (fJ qj qd (dZ (fD (dZ (eE 1)) (dZ eV))) (dZ eV))) (dZ (gD jc jd (Z.free 0) PySem.boot_len (d9 (dZ (fD (dZ (fD (dZ (fD (dZ (eE 2)) (dZ eV))) (dZ eV))) (dZ eV))) eX)))))))) fK)
 (eG (fX (mU (pF (dZ (gj (Py Z Zx) hr tk (d9 (gj (alF Z Zx) hr tk (d9 (adl (dZ fO) (dZ (fD (dZ (eE 2)) (dZ eV)))) eX)) (d9 (eE 2) (d9 (fD (dZ (eE 1)) (dZ eV)) eX))))))) (eU (fQ qG)) fK)
 (eU (fQ (gj (K6 Z Zx) hr tk (d9 (eE 2) (d9 (eE 1) (d9 (eE 3) eX)))))))))))
abbrev R:PySem.W.OpenRow:=PySem.W.OpenLaw.row PySem.Challenge.rw_shortbook_k66_whole_texts_doubled
abbrev hk:PySem.W.Hook:=ajD 4 fa fn xs
def ob(s:PySem.W.SharedT):He.AlD×Bool:=ak7 4 fa fn xs (HandSHeadRun.getT s)
theorem amD(s:PySem.W.SharedT):ob s=hk.obs s.abs:=ah1 (HandSHeadRun.getT_eq s)
def loose:List Str:=(["BookError","TooLong","NoName","NoPlace","NoPattern","NoText","NoWord","NoRow","SIGNS","is_sign","MOST","size_of","parts_of","needed","WRITTEN_measure","named","lengths","length","count","sign_at","unfolded","put","put_making","linked","over"]:List Str)++(["renamed","joined","repeated","brought","beginning","ending","across","cut","tidy","turned","otherwise","FIGURES","LETTERS","WORD","NUMBER","WRITTEN_words","PATTERN_words","is_word","number_of","signs_of","value_of","values_of","kinds_of","statement_of","ask_standing"]:List Str)++(["spelled_rules","side_by_side","put_in","taken_out","of_two","of_one","made_text","texts_of","read","first_items","standing","put_rounds","gift","with_runs","with_pairs","add_weights","add_pairs","dealt","Rounds","form","lowered","opened","parted_rows","parted","ahead"]:List Str)++(["PATTERN_patterns","is_pattern","agreed","behind_sign","behind_join","behind_times","behind","stands","first","piece","shift","asked_kinds","asking_of","as_answer","about_two","about_one","about_more","Book","_law_mixed","_law_draws","_law_sign_by","_law_place","_law_whole","_law_good_rule","_law_lengths"]:List Str)++(["_law_told","_law_length","_law_sign_at","_law_signs","_law_step","_law_made","_law_back","_law_sign_of","_law_counts","_law_is_right","_law_book_keeps"]:List Str)
open HandSHeadRun PySem.W PySem.Calls PyProof.Rows in
theorem amo(w:World)(os:OsState):(HandSHeadRun.endF (HandSHeadRun.stepQ (HandSHeadRun.denQ HandSHeadRun.tabQ) R.prog w) 6000 R.prog w os).map (fun s=>(looksF R.prog (boot_heap w.params) s.abs,seenQ (PySem.W.view R.prog [130]) loose (importedModules R.prog.main.body) (fun s=>xlAt (PySem.W.view R.prog [130]) [] s&&recOk R.toRowW.records s) s.abs))=some (true,openGood (PySem.W.view R.prog [130]) loose):=by kernel_rfl
theorem amr(w:World)(os:OsState):(HandSHeadRun.endF (HandSHeadRun.stepQ (HandSHeadRun.denQ HandSHeadRun.tabQ) R.prog w) 6000 R.prog w os).map (fun s=>(ob s).1)=some (He.valD fn):=by kernel_rfl
theorem alS(w:World)(os:OsState):(HandSHeadRun.endF (HandSHeadRun.stepQ (HandSHeadRun.denQ HandSHeadRun.tabQ) R.prog w) 6000 R.prog w os).map (fun s=>(ob s).2)=some true:=by kernel_rfl
theorem runs(w:World):HandSHeadRun.RunEq R (PySem.W.view R.prog [130]) hk ob 6000 loose w:=fun os=>anf (amo w os) (amr w os) (alS w os)
theorem ajb{P:Program}{w:World}{K:aq}{mg:Str→Option Value}(Z:mJ fa fn K mg)(Zx:oR xs K mg):∃fd:FuncData,(∀(s:Shared) (v:Value),BindsTo s fd ⟨[v],[]⟩ [("_law_script",v)])∧∀base:Heap,FnOk P w K mg base (L2.CX P w) 13 (He.ga K "law") fd ["_law_script"] (oZ K [.dat] .dat aa1):=
 ak6 Z 82 (d:=afB) rfl rfl rfl (fun base=>amF (P:=P) (w:=w) (base:=base) Z Zx) (fun _ _ _ _ _ _ us hl=>match us,hl with|[_],_=>rfl)
theorem holds_of(hm:∀ns:List Int,ns.length≤63→(∀z∈ns,Builtin.Int.intBits z≤1048576)→aa1 [.list (ns.map aF)]= .ok (.bool true)):PySem.Challenge.rw_shortbook_k66_whole_texts_doubled.Holds:=by
 w_on;o_law
 refine HandSHeadRun.head_any (r:=PySem.W.OpenLaw.row PySem.Challenge.rw_shortbook_k66_whole_texts_doubled) (q:=PySem.W.view (PySem.W.OpenLaw.row PySem.Challenge.rw_shortbook_k66_whole_texts_doubled).prog [130]) (H:=hk) (ob:=ob) (M:=6000) (loose:=loose) (d:=HandSHeadRun.topDef (PySem.W.OpenLaw.row PySem.Challenge.rw_shortbook_k66_whole_texts_doubled).prog 130) (kwd:=[]) amD
  (by kernel_rfl) (fun s=>by kernel_rfl) runs (by kernel_rfl) (by kernel_rfl) (by kernel_rfl) (by rfl) (by first|assumption|decide+kernel) (by decide+kernel) ⟨rfl,rfl,rfl,rfl,rfl,by decide+kernel⟩ ?hw ?hc
 case hw=>w_witness2
 case hc=>
  refine ajx (l:=PySem.Challenge.rw_shortbook_k66_whole_texts_doubled) (n:=63) (k:=13) (x:="_law_script") rfl (by decide) (by kernel_rfl) ⟨rfl,by decide,by decide⟩ ?F
  intro w mg f h Y G hmg0
  obtain⟨K,KX,c,cx⟩:=Y
  have Z:mJ fa fn K mg:=⟨c,h,KX,G⟩
  have Zx:oR xs K mg:=oR.of KX G cx
  have hmg:mg ("law":PySem.Str)=some (.ref f):=by
   have e:(HandSHeadRun.topDef (PySem.W.OpenLaw.row PySem.Challenge.rw_shortbook_k66_whole_texts_doubled).prog 130).name=("law":PySem.Str):=by kernel_rfl
   rw [←e]
   exact hmg0
  have e2:f=He.ga K "law":=by
   have z:=hmg.symm.trans (Z.glo 123 (x:="law"))
   cases z
   rfl
  subst e2
  obtain⟨fd,hb,hF⟩:=ajb (P:=(PySem.Challenge.rw_shortbook_k66_whole_texts_doubled).prog) (w:=w) Z Zx
  exact⟨K,fd,oZ K [.dat] .dat aa1,KX,hb,fun H a ns hl hbits _ hS=>akl hS (hm ns hl hbits),fun base _ _=>hF base⟩
end Sb
set_option maxRecDepth 10000000
namespace Sb
open PySem PySem.Spec L2 Evl DL
theorem afQ{z:Int}{n:Nat}(h:Builtin.Int.intBits z≤n):z.natAbs.log2≤n:=by
 unfold Builtin.Int.intBits at h
 split at h
 ·rename_i e
  have:z=0:=by simpa using e
  subst this
  simp
 ·omega
theorem aeE{i j:Int}(a:Nat)(hi:Builtin.Int.intBits i≤1048576)(hj:j.natAbs<2 ^ a)(ha:a≤1000:=by decide):lN (.int i) (.int j)= .ok (.int (i*j)):=
 adh (by
  have h1:=afQ hi
  have h2:=JT hj
  unfold yR
  omega)
theorem Cv{n:Nat}(h:n≤16777000):n≤sizeLine:=cQ h (by decide)
theorem lM{n:Nat}(h:n<16777000):n<sizeLine:=dR h (by decide)
abbrev SG:Str:="0123456789ABCDEFGHIJKLMNOPQRSTUVWXYZabcdefghijklmnopqrstuvwxyz"
def Lz:List Nat:=SG.cps.toList
theorem ahU:Lz.length=62:=by decide+kernel
theorem akd:SG.length≤sizeLine:=by decide+kernel
abbrev s1(c:Nat):Str:=⟨#[c]⟩
abbrev SIGN:Str:="sign"
abbrev JOIN:Str:="join"
abbrev TIMES:Str:="times"
theorem js:¬(JOIN=SIGN):=by decide+kernel
theorem ts:¬(TIMES=SIGN):=by decide+kernel
theorem tj:¬(TIMES=JOIN):=by decide+kernel
theorem sj:¬(SIGN=JOIN):=by decide+kernel
theorem st:¬(SIGN=TIMES):=by decide+kernel
theorem jt:¬(JOIN=TIMES):=by decide+kernel
inductive Rule where
 |sign (c:Nat)|join (a b:Nat)|times (a n:Nat)
 deriving DecidableEq
def fH:Rule→D
 | .sign c=> .tuple [.str SIGN, .str (s1 c)]
 | .join a b=> .tuple [.str JOIN, .int (a:Int), .int (b:Int)]
 | .times a n=> .tuple [.str TIMES, .int (a:Int), .int (n:Int)]
def eY(rs:List Rule):D:= .tuple (rs.map fH)
def fB(ns:List Nat):D:= .list (ns.map fun(n:Nat)=>aF (n:Int))
def MOST:Nat:=1152921504606846976
def Rule.ok(i:Nat):Rule→Prop
 | .sign c=>c∈Lz
 | .join a b=>a<i∧b<i
 | .times a n=>a<i∧1≤n∧n≤MOST
def Rule.size(sz:List Nat):Rule→Nat
 | .sign _=>1
 | .join a b=>sz.getD a 0+sz.getD b 0
 | .times a n=>sz.getD a 0*n
def Ag(acc:List Nat)(rs:List Rule):List Nat:=rs.foldl (fun acc r=>acc++[r.size acc]) acc
def sizes(rs:List Rule):List Nat:=Ag [] rs
theorem acT(rs:List Rule):∀acc,(Ag acc rs).length=acc.length+rs.length:=by
 induction rs with
 |nil=>intro acc;simp [Ag]
 |cons r rs ih=>
  intro acc
  have:=ih (acc++[r.size acc])
  simp [Ag] at this⊢
  omega
theorem jA(rs:List Rule):(sizes rs).length=rs.length:=by simp [sizes,acT]
theorem sU(rs:List Rule)(r:Rule):sizes (rs++[r])=sizes rs++[r.size (sizes rs)]:=by simp [sizes,Ag]
def Good(rs:List Rule):Prop:=∀(i:Nat) r,rs[i]? =some r→r.ok i
theorem Good.snoc{rs:List Rule}{r:Rule}(h:Good rs)(hr:r.ok rs.length):Good (rs++[r]):=fun i q e=>by
 rcases dW i rs.length with hl|hg
 ·rw [aO hl] at e
  exact h i q e
 ·rw [bD hg] at e
  have e0:i-rs.length=0:=by
   cases z:i-rs.length with
   |zero=>rfl
   |succ n=>
    rw [z] at e
    simp at e
  rw [e0] at e
  have ei:i=rs.length:=by omega
  subst ei
  have:q=r:=by simpa using e.symm
  rw [this]
  exact hr
theorem Good.nil:Good []:=fun i r e=>by simp at e
theorem Good.init{rs:List Rule}{r:Rule}(h:Good (rs++[r])):Good rs∧r.ok rs.length:=by
 refine⟨fun i q e=>h i q ?_,h rs.length r (by simp)⟩
 rw [aO (au.mp e).1]
 exact e
def Fits(m:Nat)(rs:List Rule):Prop:=∀n∈sizes rs,n≤m
theorem snocInd{α:Type}{P:List α→Prop}(h0:P [])(hs:∀l a,P l→P (l++[a])):∀l,P l:=by
 have key:∀l:List α,P l.reverse:=by
  intro l
  induction l with
  |nil=>exact h0
  |cons a l ih=>
   rw [List.reverse_cons]
   exact hs _ _ ih
 intro l
 have:=key l.reverse
 rw [List.reverse_reverse] at this
 exact this
theorem V6(rs qs:List Rule):∃zs,sizes (rs++qs)=sizes rs++zs:=by
 refine snocInd (P:=fun qs=>∃zs,sizes (rs++qs)=sizes rs++zs) ⟨[],by simp⟩ ?_ qs
 rintro l a ⟨zs,h⟩
 refine⟨zs++[a.size (sizes (rs++l))],?_⟩
 rw [←aG,sU,h,aG]
theorem Fits.pre{m:Nat}{rs qs:List Rule}(h:Fits m (rs++qs)):Fits m rs:=fun n hn=>by
 obtain⟨zs,e⟩:=V6 rs qs
 exact h n (by rw [e];exact bB _ hn)
theorem Fits.take{m:Nat}{rs:List Rule}(h:Fits m rs)(i:Nat):Fits m (rs.take i):=Fits.pre (qs:=rs.drop i) (by rw [bM];exact h)
def Pos(rs:List Rule):Prop:=∀n∈sizes rs,1≤n
theorem size_pos{sz:List Nat}{r:Rule}(h:∀n∈sz,1≤n)(hr:r.ok sz.length):1≤r.size sz:=by
 have g:∀a,a<sz.length→1≤sz.getD a 0:=fun a ha=>by
  have e:sz.getD a 0=sz[a]:=by simp [bF,ha]
  rw [e]
  exact h _ (dh ha)
 cases r with
 |sign c=>exact bJ _
 |join a b=>
  have:=g a hr.1
  show 1≤sz.getD a 0+sz.getD b 0
  omega
 |times a n=>
  have h1:=g a hr.1
  have h2:=hr.2.1
  exact Nat.mul_pos h1 h2
theorem aaZ:∀(rs:List Rule),Good rs→Pos rs:=by
 refine snocInd ?_ ?_
 ·intro _ n hn
  simp [sizes,Ag] at hn
 ·intro rs r ih h n hn
  obtain⟨h1,h2⟩:=h.init
  rw [sU,aM] at hn
  rcases hn with hn|hn
  ·exact ih h1 n hn
  ·have:n=r.size (sizes rs):=by simpa using hn
   rw [this]
   exact size_pos (ih h1) (by rw [jA];exact h2)
theorem gY{ns:List Nat}{a:Nat}(h:a<ns.length):fV (fB ns) (.int (a:Int))= .ok (.int (ns.getD a 0:Nat)):=by
 unfold fB
 rw [ahI (by omega) (by simpa using h)]
 simp [bF,h]
@[simp] theorem gG (a:D) (r:List D):fV (.tuple (a::r)) (.int 0)= .ok a:=by
 rw [Zo (by decide) (by simp)]
 rfl
@[simp] theorem gR (a b:D) (r:List D):fV (.tuple (a::b::r)) (.int 1)= .ok b:=by
 rw [Zo (by decide) (by simp;omega)]
 rfl
@[simp] theorem lH (a b c:D) (r:List D):fV (.tuple (a::b::c::r)) (.int 2)= .ok c:=by
 rw [Zo (by decide) (by simp;omega)]
 rfl
theorem Wd{n a:Nat}(h:n<2 ^ a):((n:Int)).natAbs<2 ^ a:=by simpa using h
theorem Rg{m n:Nat}(a b:Nat)(hm:m<2 ^ a)(hn:n<2 ^ b)(h:a+b<yR:=by decide):lN (.int (m:Int)) (.int (n:Int))= .ok (.int ((m*n:Nat):Int)):=by
 rw [adt a b (Wd hm) (Wd hn) h]
 simp
theorem Yh{sz:List Nat}{m a:Nat}(h:∀n∈sz,n≤m):sz.getD a 0≤m:=by
 by_cases ha:a<sz.length
 ·have e:sz.getD a 0=sz[a]:=by simp [bF,ha]
  rw [e]
  exact h _ (dh ha)
 ·have e:sz.getD a 0=0:=by simp [bF,Nat.le_of_not_lt ha]
  omega
theorem akp{ks:List Kd}{n:Nat}{m:SM}{ds:List D}{d:D}(h:m (j9 ks ds++aD n .un)= .rt d):jh ks n m ds= .ok d:=by simp [jh,h]
theorem alh{ks:List Kd}{n:Nat}{m:SM}{ds:List D}{ρ:DL.Env}(h:m (j9 ks ds++aD n .un)= .nx ρ):jh ks n m ds= .ok .none:=by simp [jh,h]
end Sb
namespace Sb
open PySem PySem.Spec L2 Evl DL
theorem uM{rs:List Rule}{i:Nat}(h:i<rs.length)(qs:List Rule):(sizes (rs++qs)).getD i 0=(sizes rs).getD i 0:=by
 obtain⟨zs,e⟩:=V6 rs qs
 have hl:i<(sizes rs).length:=by rw [jA];exact h
 rw [e]
 simp [bF,aO hl]
theorem xQ(rs:List Rule)(r:Rule):(sizes (rs++[r])).getD rs.length 0=r.size (sizes rs):=by
 rw [sU]
 have hl:=jA rs
 simp [bF,←hl]
theorem Good.pre{rs qs:List Rule}(h:Good (rs++qs)):Good rs:=fun i r e=>h i r (by rw [aO (au.mp e).1];exact e)
theorem Good.take{rs:List Rule}(h:Good rs)(i:Nat):Good (rs.take i):=Good.pre (qs:=rs.drop i) (by rw [bM];exact h)
theorem Fits.snoc{m:Nat}{rs:List Rule}{r:Rule}(h:Fits m rs)(hr:r.size (sizes rs)≤m):Fits m (rs++[r]):=fun n hn=>by
 rw [sU,aM] at hn
 rcases hn with hn|hn
 ·exact h n hn
 ·have:n=r.size (sizes rs):=by simpa using hn
  omega
theorem Fits.get{m:Nat}{rs:List Rule}(h:Fits m rs)(i:Nat):(sizes rs).getD i 0≤m:=Yh h
theorem Pos.get{rs:List Rule}(g:Good rs){i:Nat}(h:i<rs.length):1≤(sizes rs).getD i 0:=by
 have hl:i<(sizes rs).length:=by rw [jA];exact h
 have e:(sizes rs).getD i 0=(sizes rs)[i]:=by simp [bF,hl]
 rw [e]
 exact aaZ rs g _ (dh hl)
def Start(rs:List Rule):Prop:=∃s t tl,rs= .sign s:: .sign t::tl
theorem Start.app{rs:List Rule}(h:Start rs)(qs:List Rule):Start (rs++qs):=by
 obtain⟨s,t,tl,rfl⟩:=h
 exact⟨s,t,tl++qs,rfl⟩
theorem Start.size{rs:List Rule}(h:Start rs):(sizes rs).getD 0 0=1:=by
 obtain⟨s,t,tl,rfl⟩:=h
 exact uM (rs:=[.sign s]) (i:=0) (Nat.zero_lt_one) (.sign t::tl)
theorem uV(rs:List Rule):je [eY rs]= .ok (.int ((rs.length:Nat):Int)):=by simp [eY]
theorem abO(rs qs:List Rule)(h:rs.length+qs.length≤16700000):iH (eY rs) (.tuple (qs.map fH))= .ok (eY (rs++qs)):=by
 rw [eY,aif (by simp only [aC];exact Cv (by omega)),←cC]
 rfl
theorem sY{rs:List Rule}{a:Nat}{r:Rule}(h:rs[a]? =some r):fV (eY rs) (.int (a:Int))= .ok (fH r):=by
 have hl:=(au.mp h).1
 have e:rs[a]=r:=(au.mp h).2
 unfold eY
 rw [Zo (by omega) (by simpa using hl)]
 simp [e]
theorem abR{ns:List Nat}(h:1≤ns.length):fV (fB ns) (.int (-1))= .ok (.int ((ns.getD (ns.length-1) 0:Nat):Int)):=by
 obtain⟨l,a,rfl⟩:∃l a,ns=l++[a]:=⟨ns.dropLast,ns.getLast (fun z=>by rw [z] at h;simp at h),(List.dropLast_concat_getLast _).symm⟩
 unfold fB
 rw [cC]
 show fV (.list (l.map _++[_])) _=_
 rw [ahv]
 simp [bF]
theorem acM(ns:List Nat):je [fB ns]= .ok (.int ((ns.length:Nat):Int)):=by simp [fB]
def acn:D→ER
 | .list ds=> .ok (.list ds)
 |_=> .bad
theorem oN(m:EM)(ρ:DL.Env):mG m ρ=(m ρ).bind acn:=by
 unfold mG ER.bind acn
 cases m ρ with
 |ok d=>cases d<;>rfl
 |_=>rfl
theorem Ma(ds:List D):acn (.list ds)= .ok (.list ds):=rfl
theorem Eu(ns:List Nat):acn (fB ns)= .ok (fB ns):=rfl
theorem Nf{m:EM}{ρ:DL.Env}{ds:List D}(h:m ρ= .ok (.list ds)):iL m ρ= .ok ds:=by simp only [iL,h]
theorem al0{m:EM}{ρ:DL.Env}{ds:List D}(h:m ρ= .ok (.tuple ds)):iT m ρ= .ok ds:=by simp only [iT,h]
theorem ad0{m:EM}{ρ:DL.Env}{ns:List Nat}(h:m ρ= .ok (fB ns)):iL (mG m) ρ= .ok (ns.map fun(n:Nat)=>aF (n:Int)):=by
 refine Nf ?_
 rw [oN,h,iy,Eu,fB]
def ak9(m:List D→ER):SM:=fG (jG 1 (lC [])) (fG (mV (iT (d8 0)) (gN 2) (mW 1 (fu m [(d8 2),(gK 1)]))) (xO 1))
theorem aie{m:List D→ER}(hm:∀(r:Rule) (sz:List Nat),r.ok sz.length→(∀n∈sz,n≤MOST)→m [fH r,fB sz]= .ok (.int ((r.size sz:Nat):Int)))(rs:List Rule)(g:Good rs)(f:Fits MOST rs)(hl:rs.length≤16700000):
 jh [.dat] 2 (ak9 m) [eY rs]= .ok (fB (sizes rs)):=by
 obtain⟨L,hL⟩:∃L,L=eY rs:=⟨_,rfl⟩
 have key:ak9 m [.dat L, .un, .un]= .rt (fB (sizes rs)):=by
  unfold ak9
  have z0:(0:Nat)≤sizeLine:=by decide
  rw [lG (ρ' :=[.dat L, .own (fB (sizes [])), .un]) (by simp! only [lC,ou,cH,z0,if_true];rfl)]
  obtain⟨ρ',hf,k2,rfl⟩:=KJ (mi:=iT (d8 0)) (g:=gN 2) (body:=mW 1 (fu m [(d8 2),(gK 1)]))
   (ρ:=[.dat L, .own (fB (sizes [])), .un]) (ds:=rs.map fH)
   (fun i ρ=>∃(k2:Sl),ρ=[.dat L, .own (fB (sizes (rs.take i))),k2])
   (by simp only [iT,jM,hL,eY])
   ⟨_,rfl⟩
   (by
     rintro i d ρ hd ⟨k2,rfl⟩
     rw [aK,aP] at hd
     obtain⟨r,h1,rfl⟩:=hd
     have hi:=(au.mp h1).1
     have et:rs.take (i+1)=rs.take i++[r]:=by
      rw [bH,h1]
      rfl
     have li:(sizes (rs.take i)).length=i:=by rw [jA,aZ];omega
     have e:=hm r (sizes (rs.take i)) (by rw [li];exact g i r h1) (f.take i)
     refine⟨_,[.dat L, .own (fB (sizes (rs.take (i+1)))), .dat (fH r)],pP, .inl ?_,_,rfl⟩
     simp only [set_0,kW]
     rw [app_ok (ds:=(sizes (rs.take i)).map fun(n:Nat)=>aF (n:Int)) (d:= .int (r.size (sizes (rs.take i)):Nat)) rfl (by simp only [Qm,jM,jZ,uY,zF,iy,e]) (by
      rw [aC,li]
      exact lM (by omega)),et,sU]
     simp [fB])
  rw [lG hf]
  have et:rs.take (rs.map fH).length=rs:=by rw [aC,bV]
  rw [et]
  rfl
 simp only [jh,j9,aD,cW,dN,←hL,key]
end Sb
namespace Sb
open PySem PySem.Spec L2 Evl DL
def Rule.wt(w:Nat→Nat)(sz:List Nat):Rule→Nat
 | .sign c=>w c
 | .join a b=>sz.getD a 0+sz.getD b 0
 | .times a n=>sz.getD a 0*n
def wts(w:Nat→Nat)(rs:List Rule):List Nat:=rs.foldl (fun acc r=>acc++[r.wt w acc]) []
theorem Ew(w:Nat→Nat)(rs:List Rule)(r:Rule):wts w (rs++[r])=wts w rs++[r.wt w (wts w rs)]:=by simp [wts]
theorem Qt(w:Nat→Nat):∀rs:List Rule,(wts w rs).length=rs.length:=by
 refine snocInd rfl fun l a ih=> ?_
 rw [Ew]
 simp [ih]
theorem getD_snoc(l:List Nat)(a i:Nat):(l++[a]).getD i 0=if i<l.length then l.getD i 0 else if i=l.length then a else 0:=by
 by_cases h:i<l.length
 ·rw [if_pos h]
  simp [bF,aO h]
 ·rw [if_neg h]
  by_cases h2:i=l.length
  ·rw [if_pos h2]
   subst h2
   simp [bF]
  ·rw [if_neg h2]
   have:l.length+1≤i:=by omega
   simp [bF,this]
theorem ale(w:Nat→Nat)(hw:∀c,w c≤1):∀(rs:List Rule) (i:Nat),(wts w rs).getD i 0≤(sizes rs).getD i 0:=by
 refine snocInd (fun i=>by simp [wts,sizes,Ag]) fun l a ih i=> ?_
 rw [Ew,sU,getD_snoc,getD_snoc,Qt,jA]
 by_cases h:i<l.length
 ·rw [if_pos h,if_pos h]
  exact ih i
 ·rw [if_neg h,if_neg h]
  by_cases h2:i=l.length
  ·rw [if_pos h2,if_pos h2]
   cases a with
   |sign c=>exact hw c
   |join a b=>exact Nat.add_le_add (ih a) (ih b)
   |times a n=>exact Nat.mul_le_mul_right n (ih a)
  ·rw [if_neg h2,if_neg h2]
   exact bJ _
def one(s:Nat):Nat→Nat:=fun c=>if c=s then 1 else 0
abbrev counts(s:Nat)(rs:List Rule):List Nat:=wts (one s) rs
theorem aaN(s:Nat)(rs:List Rule)(r:Rule):counts s (rs++[r])=counts s rs++[r.wt (one s) (counts s rs)]:=Ew _ _ _
theorem Tt(s:Nat)(rs:List Rule):(counts s rs).length=rs.length:=Qt _ _
theorem one_le(s c:Nat):one s c≤1:=by
 unfold one
 split<;>omega
theorem ah3(w:Nat→Nat)(rs:List Rule):∀qs:List Rule,∃zs,wts w (rs++qs)=wts w rs++zs:=by
 refine snocInd ⟨[],by simp⟩ ?_
 rintro l a ⟨zs,h⟩
 exact⟨zs++[a.wt w (wts w (rs++l))],by rw [←aG,Ew,h,aG]⟩
theorem ajl(w:Nat→Nat){rs:List Rule}{i:Nat}(h:i<rs.length)(qs:List Rule):(wts w (rs++qs)).getD i 0=(wts w rs).getD i 0:=by
 obtain⟨zs,e⟩:=ah3 w rs qs
 have hl:i<(wts w rs).length:=by rw [Qt];exact h
 rw [e]
 simp [bF,aO hl]
theorem akq(a b:Nat):decide (s1 a=s1 b)=decide (a=b):=by
 by_cases h:a=b
 ·subst h
  simp
 ·rw [decide_eq_false h,decide_eq_false (fun z=>by
   have:=congrArg (fun z:Str=>z.cps.toList) z
   simp at this
   exact h this)]
theorem abF(b:Bool):TY [.bool b]= .ok (.int (if b then 1 else 0)):=rfl
theorem ago(c s:Nat):TY [.bool (decide (s1 c=s1 s))]= .ok (.int ((one s c:Nat):Int)):=by
 rw [akq,abF]
 unfold one
 by_cases h:c=s<;>simp [h]
end Sb
namespace Sb
open PySem PySem.Spec L2 Evl DL
def Rule.tx(ts:List (List Nat)):Rule→List Nat
 | .sign c=>[c]
 | .join a b=>ts.getD a []++ts.getD b []
 | .times a n=>(aD n (ts.getD a [])).flatten
def texts(rs:List Rule):List (List Nat):=rs.foldl (fun acc r=>acc++[r.tx acc]) []
theorem IW(rs:List Rule)(r:Rule):texts (rs++[r])=texts rs++[r.tx (texts rs)]:=by simp [texts]
theorem MF:∀rs:List Rule,(texts rs).length=rs.length:=by
 refine snocInd rfl fun l a ih=> ?_
 rw [IW]
 simp [ih]
theorem ae3(rs:List Rule):∀qs:List Rule,∃zs,texts (rs++qs)=texts rs++zs:=by
 refine snocInd ⟨[],by simp⟩ ?_
 rintro l a ⟨zs,h⟩
 exact⟨zs++[a.tx (texts (rs++l))],by rw [←aG,IW,h,aG]⟩
theorem jg{rs:List Rule}{i:Nat}(h:i<rs.length)(qs:List Rule):(texts (rs++qs)).getD i []=(texts rs).getD i []:=by
 obtain⟨zs,e⟩:=ae3 rs qs
 have hl:i<(texts rs).length:=by rw [MF];exact h
 rw [e]
 simp [bF,aO hl]
theorem lV(rs:List Rule)(r:Rule):(texts (rs++[r])).getD rs.length []=r.tx (texts rs):=by
 rw [IW]
 have hl:=MF rs
 simp [bF,←hl]
theorem rY{rs:List Rule}{i:Nat}{r:Rule}(g:Good rs)(h:rs[i]? =some r):(texts rs).getD i []=r.tx (texts rs):=by
 have hi:=(au.mp h).1
 have et:rs.take (i+1)=rs.take i++[r]:=by
  rw [bH,h]
  rfl
 have li:(rs.take i).length=i:=by rw [aZ];omega
 have e1:(texts rs).getD i []=(texts (rs.take i++[r])).getD i []:=by
  have:=jg (rs:=rs.take (i+1)) (i:=i) (by rw [aZ];omega) (rs.drop (i+1))
  rw [bM,et] at this
  exact this
 have e2:∀a,a<i→(texts rs).getD a []=(texts (rs.take i)).getD a []:=fun a ha=>by
  have:=jg (rs:=rs.take i) (i:=a) (by omega) (rs.drop i)
  rw [bM] at this
  exact this
 have e3:(texts (rs.take i++[r])).getD i []=r.tx (texts (rs.take i)):=by
  have:=lV (rs.take i) r
  rw [li] at this
  exact this
 rw [e1,e3]
 have ok:=g i r h
 cases r with
 |sign c=>rfl
 |join a b=>simp only [Rule.tx,e2 a ok.1,e2 b ok.2]
 |times a n=>simp only [Rule.tx,e2 a ok.1]
theorem rG{rs:List Rule}{i:Nat}{r:Rule}(g:Good rs)(h:rs[i]? =some r):(sizes rs).getD i 0=r.size (sizes rs):=by
 have hi:=(au.mp h).1
 have et:rs.take (i+1)=rs.take i++[r]:=by
  rw [bH,h]
  rfl
 have li:(rs.take i).length=i:=by rw [aZ];omega
 have e1:(sizes rs).getD i 0=(sizes (rs.take i++[r])).getD i 0:=by
  have:=uM (rs:=rs.take (i+1)) (i:=i) (by rw [aZ];omega) (rs.drop (i+1))
  rw [bM,et] at this
  exact this
 have e2:∀a,a<i→(sizes rs).getD a 0=(sizes (rs.take i)).getD a 0:=fun a ha=>by
  have:=uM (rs:=rs.take i) (i:=a) (by omega) (rs.drop i)
  rw [bM] at this
  exact this
 have e3:(sizes (rs.take i++[r])).getD i 0=r.size (sizes (rs.take i)):=by
  have:=xQ (rs.take i) r
  rw [li] at this
  exact this
 rw [e1,e3]
 have ok:=g i r h
 cases r with
 |sign c=>rfl
 |join a b=>simp only [Rule.size,e2 a ok.1,e2 b ok.2]
 |times a n=>simp only [Rule.size,e2 a ok.1]
theorem rR(n:Nat)(l:List Nat):(aD n l).flatten.length=n*l.length:=by simp
theorem gU:∀(rs:List Rule) (i:Nat),((texts rs).getD i []).length=(sizes rs).getD i 0:=by
 refine snocInd (fun i=>by simp [texts,sizes,Ag]) fun l a ih i=> ?_
 by_cases h:i<l.length
 ·rw [jg h,uM h]
  exact ih i
 ·by_cases h2:i=l.length
  ·subst h2
   rw [lV,xQ]
   cases a with
   |sign c=>rfl
   |join a b=>simp only [Rule.tx,Rule.size,aA,ih]
   |times a n=>simp only [Rule.tx,Rule.size,rR,ih,bU]
  ·have h3:l.length+1≤i:=by omega
   have t1:=MF (l++[a])
   have t2:=jA (l++[a])
   have e1:(texts (l++[a])).getD i []=[]:=by
    simp [bF,List.getElem?_eq_none (show(texts (l++[a])).length≤i by rw [t1];simpa using h3)]
   have e2:(sizes (l++[a])).getD i 0=0:=by
    simp [bF,List.getElem?_eq_none (show(sizes (l++[a])).length≤i by rw [t2];simpa using h3)]
   rw [e1,e2]
   rfl
abbrev fY(l:List Nat):Str:=⟨l.toArray⟩
theorem rP(l:List Nat):(fY l).length=l.length:=by
 show l.toArray.size=_
 simp
theorem agb(a b:List Nat):fY a++fY b=fY (a++b):=ai6 (by simp)
theorem ZQ{a b:List Nat}(h:fY a=fY b):a=b:=by
 have:=congrArg (fun z:Str=>z.cps.toList) h
 simpa using this
theorem xU{a b:List Nat}(h:a.length+b.length≤16777000):iH (.str (fY a)) (.str (fY b))= .ok (.str (fY (a++b))):=by
 rw [aiU (by rw [rP,rP];exact Cv h),agb]
theorem RX{a:List Nat}(h:a.length≤16777000):je [.str (fY a)]= .ok (.int ((a.length:Nat):Int)):=by
 rw [Tv (by rw [rP];exact Cv h),rP]
def Rule.parts:Rule→List Nat
 | .sign _=>[]
 | .join a b=>[a,b]
 | .times a _=>[a]
theorem uf{r:Rule}{i:Nat}(h:r.ok i):∀p∈r.parts,p<i:=by
 intro p hp
 cases r with
 |sign c=>cases hp
 |join a b=>
  have:p=a∨p=b:=by simpa [Rule.parts] using hp
  rcases this with rfl|rfl
  ·exact h.1
  ·exact h.2
 |times a n=>
  have:p=a:=by simpa [Rule.parts] using hp
  rw [this]
  exact h.1
theorem agN{rs:List Rule}{i:Nat}{r:Rule}(g:Good rs)(h:rs[i]? =some r):∀p∈r.parts,(sizes rs).getD p 0≤(sizes rs).getD i 0:=by
 intro p hp
 rw [rG g h]
 have ok:=g i r h
 cases r with
 |sign c=>cases hp
 |join a b=>
  have:p=a∨p=b:=by simpa [Rule.parts] using hp
  simp only [Rule.size]
  rcases this with rfl|rfl<;>omega
 |times a n=>
  have:p=a:=by simpa [Rule.parts] using hp
  rw [this]
  exact Nat.le_mul_of_pos_right _ ok.2.1
structure Need(rs:List Rule)(k:Nat)(ks:List Nat):Prop where
 rise:ks.Pairwise (·<·)
 top:k∈ks
 le:∀i∈ks,i≤k
 clo:∀i∈ks,∀r,rs[i]? =some r→∀p∈r.parts,p∈ks
 by_:∀i∈ks,i=k∨∃j∈ks,∃r,rs[j]? =some r∧i∈r.parts
theorem aai:∀(ks:List Nat) (a k:Nat),ks.Pairwise (·<·)→(∀i∈ks,a≤i∧i≤k)→ks.length+a≤k+1∨ks=[]
 |[],_,_,_,_=> .inr rfl
 |x::xs,a,k,h,hk=>by
  have hx:=hk x aX
  rw [dB] at h
  rcases aai xs (x+1) k h.2 (fun i hi=>⟨h.1 i hi,(hk i (aN _ hi)).2⟩) with z|z
  ·left
   rw [aY]
   omega
  ·left
   subst z
   show 1+a≤k+1
   omega
theorem Need.len{rs:List Rule}{k:Nat}{ks:List Nat}(n:Need rs k ks):ks.length≤k+1:=by
 rcases aai ks 0 k n.rise (fun i hi=>⟨cX _,n.le i hi⟩) with h|h
 ·omega
 ·rw [h]
  simp
theorem Need.size{rs:List Rule}{k:Nat}{ks:List Nat}(g:Good rs)(n:Need rs k ks):∀d i,i∈ks→k-i≤d→(sizes rs).getD i 0≤(sizes rs).getD k 0
 |d,i,hi,hd=>by
  rcases n.by_ i hi with h|⟨j,hj,r,hr,hp⟩
  ·rw [h]
   exact bJ _
  ·have h1:=uf (g j r hr) i hp
   have h2:=n.le j hj
   have h3:=agN g hr i hp
   match d with
   |0=>omega
   |d+1=>exact cQ h3 (Need.size g n d j hj (by omega))
def qw(S:List Nat):List (D×D):=S.map fun i=>(aF ((i:Nat):Int),PyData.bool true)
theorem JB(s c:Nat):(DL.keyOf (aF ((s:Nat):Int))=some (.inl ((c:Nat):Int)))↔s=c:=by
 simp only [DL.keyOf,Option.some.injEq,Sum.inl.injEq]
 omega
theorem ZJ(S:List Nat)(c:Nat):(qw S).any (fun q=>decide (DL.keyOf q.1=some (.inl ((c:Nat):Int))))=decide (c∈S):=by
 unfold qw
 rw [List.any_map]
 induction S with
 |nil=>rfl
 |cons s ss ih=>
  rw [dY,ih]
  by_cases e:s=c
  ·subst e
   simp [Function.comp,DL.keyOf]
  ·have h1:¬c=s:=fun z=>e z.symm
   have k0:¬(DL.keyOf (aF ((s:Nat):Int))=some (.inl ((c:Nat):Int))):=fun z=>e ((JB s c).mp z)
   simp [Function.comp,k0,h1]
theorem acu(S:List Nat)(c:Nat):qM (qw S) (.inl ((c:Nat):Int)) (.bool true)=qw (if c∈S then S else S++[c]):=by
 unfold qM
 rw [ZJ]
 by_cases hc:c∈S
 ·rw [if_pos (decide_eq_true hc),if_pos hc]
  unfold qw
  rw [cD]
  refine bT fun s _=> ?_
  simp only [Function.comp]
  split<;>rfl
 ·rw [if_neg (by simp [hc]),if_neg hc]
  unfold qw
  rw [cC]
  rfl
theorem Z5(S:List Nat):Bf (qw S)=true:=by cases S<;>rfl
theorem find_some{ds:List (D×D)}{k:Key}:(qH ds k).isSome=ds.any fun q=>decide (DL.keyOf q.1=some k):=by
 unfold qH
 rw [Option.isSome_map,Bool.eq_iff_iff,List.find?_isSome,List.any_eq_true]
theorem acV(S:List Nat)(c:Nat):xV false (.int ((c:Nat):Int)) (.dict (qw S))= .ok (.bool (decide (c∈S))):=by
 simp only [xV,Z5,if_true,DL.keyOf]
 rw [find_some,ZJ,Bool.bne_false]
theorem VP:∀S:List Nat,intKeys (qw S)=some (S.map fun(i:Nat)=>(i:Int))
 |[]=>rfl
 |s::S=>by
  have:=VP S
  unfold qw at this⊢
  rw [bA]
  simp only [intKeys,this]
  rfl
theorem Rule.ok.mono{r:Rule}{i j:Nat}(h:r.ok i)(hij:i≤j):r.ok j:=by
 cases r with
 |sign c=>exact h
 |join a b=>exact⟨dR h.1 hij,dR h.2 hij⟩
 |times a n=>exact⟨dR h.1 hij,h.2⟩
theorem akK{qs:List Rule}{r:Rule}(h:r.ok qs.length)(ps:List Rule):r.tx (texts (qs++ps))=r.tx (texts qs):=by
 cases r with
 |sign c=>rfl
 |join a b=>simp only [Rule.tx,jg h.1,jg h.2]
 |times a n=>simp only [Rule.tx,jg h.1]
end Sb
namespace Sb
open PySem PySem.Spec L2 Evl DL
def eZ:Option Nat→D
 |none=> .none
 |some k=> .int (k:Int)
def gh(rs:List Rule)(n:Option Nat):Prop:=∀k,n=some k→k<rs.length
theorem gh.none{rs:List Rule}:gh rs none:=fun k e=>nomatch e
theorem gh.some{rs:List Rule}{k:Nat}(h:k<rs.length):gh rs (some k):=fun j e=>by
 cases e
 exact h
def lD(rs:List Rule)(n:Option Nat):Nat:=match n with
 |none=>0
 |some k=>(sizes rs).getD k 0
def iG(rs:List Rule)(n:Option Nat):List Nat:=match n with
 |none=>[]
 |some k=>(texts rs).getD k []
theorem oF(rs:List Rule)(n:Option Nat):(iG rs n).length=lD rs n:=by
 cases n with
 |none=>rfl
 |some k=>exact gU rs k
theorem ado{rs:List Rule}{m:Nat}(f:Fits m rs)(n:Option Nat):lD rs n≤m:=by
 cases n with
 |none=>exact cX _
 |some k=>exact f.get k
theorem gh.app{rs:List Rule}{n:Option Nat}(h:gh rs n)(qs:List Rule):gh (rs++qs) n:=fun k e=>by
 have:=h k e
 simp
 omega
theorem tH{rs:List Rule}{n:Option Nat}(h:gh rs n)(qs:List Rule):iG (rs++qs) n=iG rs n:=by
 cases n with
 |none=>rfl
 |some k=>exact jg (h k rfl) qs
theorem afX{rs:List Rule}(g:Good rs){n:Option Nat}(h:gh rs n):0<lD rs n↔n≠none:=by
 cases n with
 |none=>simp [lD]
 |some k=>
  have:=Pos.get g (h k rfl)
  exact⟨fun _=>Option.some_ne_none k,fun _=>this⟩
theorem aeU:∀c∈Lz,c<0x110000:=by decide+kernel
theorem Xx{r:Rule}{i:Nat}(h:r.ok i):Sh 1 (fH r):=by
 cases r with
 |sign c=>
  refine S7 (n:=0) fun d hd=> ?_
  rcases aH.mp hd with rfl|hd
  ·exact Y7 0 (by decide+kernel)
  ·have:d= .str (s1 c):=by simpa using hd
   rw [this]
   exact Y7 0 (fun x hx=>by
    have:x=c:=by simpa using hx
    rw [this]
    exact aeU c h)
 |join a b=>
  refine S7 (n:=0) fun d hd=> ?_
  rcases aH.mp hd with rfl|hd
  ·exact Y7 0 (by decide+kernel)
  ·have:d= .int (a:Int)∨d= .int (b:Int):=by simpa using hd
   rcases this with rfl|rfl<;>exact ahH _ _
 |times a b=>
  refine S7 (n:=0) fun d hd=> ?_
  rcases aH.mp hd with rfl|hd
  ·exact Y7 0 (by decide+kernel)
  ·have:d= .int (a:Int)∨d= .int (b:Int):=by simpa using hd
   rcases this with rfl|rfl<;>exact ahH _ _
theorem Qp(A:List Nat)(d:Nat):∀(m p:Nat),p<m*A.length→(aD m A).flatten.getD p d=A.getD (p%A.length) d
 |0,p,h=>by simp at h
 |m+1,p,h=>by
  rw [cI,dw]
  rcases dW p A.length with hp|hp
  ·rw [Nat.mod_eq_of_lt hp]
   simp [bF,aO hp]
  ·have hp' :p-A.length<m*A.length:=by
    rw [Nat.succ_mul] at h
    omega
   have ih:=Qp A d m (p-A.length) hp'
   have e:p%A.length=(p-A.length)%A.length:=by rw [Nat.mod_eq_sub_mod hp]
   rw [e,←ih]
   simp [bF,bD hp]
theorem FW{A B:List Nat}{p d:Nat}(h:p<A.length):(A++B).getD p d=A.getD p d:=by simp [bF,aO h]
theorem Fq{A B:List Nat}{p d:Nat}(h:A.length≤p):(A++B).getD p d=B.getD (p-A.length) d:=by simp [bF,bD h]
theorem Iw:∀ns:List Int,toInts (ns.map aF)=some ns
 |[]=>rfl
 |n::ns=>by
  simp only [bA,toInts,Iw ns]
  rfl
theorem aa9(ns:List Nat):toInts (ns.map fun(n:Nat)=>aF (n:Int))=some (ns.map fun(n:Nat)=>(n:Int)):=by
 have:=Iw (ns.map fun(n:Nat)=>(n:Int))
 rwa [cD] at this
def oW(rs:List Rule):Option Nat→Option Nat→List Rule×Option Nat
 |none,b=>(rs,b)
 |some a,none=>(rs,some a)
 |some a,some b=>(rs++[.join a b],some rs.length)
theorem zQ{rs:List Rule}(g:Good rs)(f:Fits MOST rs){a b:Option Nat}(ha:gh rs a)(hb:gh rs b)(hl:lD rs a+lD rs b≤MOST):∃qs,qs.length≤1∧(oW rs a b).1=rs++qs∧Good (rs++qs)∧Fits MOST (rs++qs)∧gh (rs++qs) (oW rs a b).2∧iG (rs++qs) (oW rs a b).2=iG rs a++iG rs b:=by
 cases a with
 |none=>exact⟨[],by simp,by simp [oW],by simpa using g,by simpa using f,by simpa [oW] using hb,by simp [oW,iG]⟩
 |some a=>
  cases b with
  |none=>exact⟨[],by simp,by simp [oW],by simpa using g,by simpa using f,by simpa [oW] using ha,by simp [oW,iG]⟩
  |some b=>
   refine⟨[.join a b],by simp,rfl,g.snoc ⟨ha a rfl,hb b rfl⟩,f.snoc hl,gh.some (by simp),?_⟩
   show(texts (rs++[.join a b])).getD rs.length []=_
   rw [lV]
   rfl
def overF(rs:List Rule):Option Nat→Nat→List Rule×Option Nat
 |none,_=>(rs,none)
 |some a,m=>if m=0 then(rs,none) else if m=1 then(rs,some a) else(rs++[.times a m],some rs.length)
theorem Kz{rs:List Rule}(g:Good rs)(f:Fits MOST rs){n:Option Nat}(hn:gh rs n){m:Nat}(hm:m≤MOST)(hl:lD rs n*m≤MOST):∃qs,qs.length≤1∧(overF rs n m).1=rs++qs∧Good (rs++qs)∧Fits MOST (rs++qs)∧gh (rs++qs) (overF rs n m).2∧iG (rs++qs) (overF rs n m).2=(aD m (iG rs n)).flatten:=by
 cases n with
 |none=>exact⟨[],by simp,by simp [overF],by simpa using g,by simpa using f,gh.none,by simp [overF,iG]⟩
 |some a=>
  by_cases h0:m=0
  ·exact⟨[],by simp,by simp [overF,h0],by simpa using g,by simpa using f,by simp only [overF,h0,if_true];exact gh.none,by simp [overF,iG,h0]⟩
  ·by_cases h1:m=1
   ·exact⟨[],by simp,by simp [overF,h1],by simpa using g,by simpa using f,by simpa [overF,h1] using hn,by simp [overF,iG,h1]⟩
   ·have e:overF rs (some a) m=(rs++[.times a m],some rs.length):=by simp [overF,h0,h1]
    rw [e]
    refine⟨[.times a m],by simp,rfl,g.snoc ⟨hn a rfl,by omega,hm⟩,f.snoc hl,gh.some (by simp),?_⟩
    show(texts (rs++[.times a m])).getD rs.length []=_
    rw [lV]
    rfl
def Rule.isT:Rule→Bool
 | .times _ _=>true
 |_=>false
def tN(rs:List Rule):Nat:=rs.countP Rule.isT
theorem Io(a b:List Rule):tN (a++b)=tN a+tN b:=by simp [tN,List.countP_append]
theorem Jc(rs:List Rule):tN rs≤rs.length:=List.countP_le_length
def zH:List Rule→Nat
 |[]=>1
 | .times _ n::rs=>n*zH rs
 |_::rs=>zH rs
theorem nH:∀a b:List Rule,zH (a++b)=zH a*zH b
 |[],b=>by simp [zH]
 | .sign c::a,b=>by have:=nH a b;simpa [zH] using this
 | .join x y::a,b=>by have:=nH a b;simpa [zH] using this
 | .times x n::a,b=>by
   have:=nH a b
   simp only [cW,zH,this]
   rw [Nat.mul_assoc]
theorem Yd:∀(xs:List Rule),tN xs=0→zH xs=1
 |[],_=>rfl
 | .sign c::xs,h=>by
   have e:tN (.sign c::xs)=tN xs:=by unfold tN;rw [List.countP_cons_of_neg (by simp [Rule.isT])]
   exact Yd xs (by rw [←e];exact h)
 | .join a b::xs,h=>by
   have e:tN (.join a b::xs)=tN xs:=by unfold tN;rw [List.countP_cons_of_neg (by simp [Rule.isT])]
   exact Yd xs (by rw [←e];exact h)
 | .times a n::xs,h=>by
   have e:tN (.times a n::xs)=tN xs+1:=by unfold tN;rw [List.countP_cons_of_pos (by simp [Rule.isT])]
   omega
theorem Fw{xs:List Rule}(h:tN xs=0):zH xs=1:=Yd xs h
theorem Mz{rs qs:List Rule}{n:Option Nat}{m:Nat}(h:(overF rs n m).1=rs++qs):zH qs≤max 1 m:=by
 have z:∀ps:List Rule,rs++ps=rs++qs→zH ps≤max 1 m→zH qs≤max 1 m:=fun ps e h=>by rw [←List.append_cancel_left e];exact h
 have nil:rs=rs++qs→zH qs≤max 1 m:=fun e=>z [] (by rw [aJ];exact e) (by simp only [zH];omega)
 cases n with
 |none=>exact nil h
 |some a=>
  by_cases h0:m=0
  ·have e:overF rs (some a) m=(rs,none):=by simp [overF,h0]
   rw [e] at h
   exact nil h
  ·by_cases h1:m=1
   ·have e:overF rs (some a) m=(rs,some a):=by simp [overF,h1]
    rw [e] at h
    exact nil h
   ·have e:overF rs (some a) m=(rs++[.times a m],some rs.length):=by simp [overF,h0,h1]
    rw [e] at h
    exact z [.times a m] h (by simp only [zH];omega)
theorem abl{p o c z k:Nat}(h:p*(z*c)≤k)(ho:o≤c):p*o*z≤k:=by
 have h1:p*o*z≤p*c*z:=Nat.mul_le_mul_right _ (Nat.mul_le_mul_left _ ho)
 have h2:p*c*z=p*(z*c):=by rw [Nat.mul_assoc,bU c z]
 omega
theorem Ea{rs qs:List Rule}{a b:Option Nat}(h:(oW rs a b).1=rs++qs):tN qs=0:=by
 have z:∀ps:List Rule,rs++ps=rs++qs→tN ps=0→tN qs=0:=fun ps e h=>by rw [←List.append_cancel_left e];exact h
 cases a with
 |none=>exact z [] (by simpa [oW] using h) rfl
 |some a=>
  cases b with
  |none=>exact z [] (by simpa [oW] using h) rfl
  |some b=>exact z [.join a b] h rfl
theorem aen(A:List Nat)(a b:Nat):(aD a A).flatten++(aD b A).flatten=(aD (a+b) A).flatten:=by rw [←dO,List.replicate_append_replicate]
end Sb
namespace Sb
open PySem PySem.Spec L2 Evl DL
def Rule.isJ:Rule→Bool
 | .join _ _=>true
 |_=>false
theorem join_eq(r:Rule):kZ (.str (match r with| .sign _=>SIGN| .join _ _=>JOIN| .times _ _=>TIMES)) (.str "join")= .ok (.bool r.isJ):=by
 cases r with
 |sign c=>exact(LC _ _).trans (by rw [decide_eq_false sj];rfl)
 |join a b=>exact(LC _ _).trans (by rw [decide_eq_true rfl];rfl)
 |times a n=>exact(LC _ _).trans (by rw [decide_eq_false tj];rfl)
end Sb
namespace Sb
open PySem PySem.Spec L2 Evl DL
def Rule.qF(f:Nat→Nat):Rule→Rule
 | .sign c=> .sign c
 | .join a b=> .join (f a) (f b)
 | .times a n=> .times (f a) n
theorem ahL{f:Nat→Nat}{r:Rule}{i:Nat}(h:r.ok i){sz sz' :List Nat}(e:∀a,a<i→sz'.getD (f a) 0=sz.getD a 0):(r.qF f).size sz' =r.size sz:=by
 cases r with
 |sign c=>rfl
 |join a b=>simp only [Rule.qF,Rule.size,e a h.1,e b h.2]
 |times a n=>simp only [Rule.qF,Rule.size,e a h.1]
theorem akC{f:Nat→Nat}{r:Rule}{i:Nat}(h:r.ok i){sz sz' :List (List Nat)}(e:∀a,a<i→sz'.getD (f a) []=sz.getD a []):(r.qF f).tx sz' =r.tx sz:=by
 cases r with
 |sign c=>rfl
 |join a b=>simp only [Rule.qF,Rule.tx,e a h.1,e b h.2]
 |times a n=>simp only [Rule.qF,Rule.tx,e a h.1]
theorem alj{f:Nat→Nat}{r:Rule}{i j:Nat}(h:r.ok i)(e:∀a,a<i→f a<j):(r.qF f).ok j:=by
 cases r with
 |sign c=>exact h
 |join a b=>exact⟨e a h.1,e b h.2⟩
 |times a n=>exact⟨e a h.1,h.2⟩
abbrev bring(rs os:List Rule):List Rule:=os.map fun r=>r.qF (rs.length+·)
theorem QL{rs:List Rule}(g:Good rs)(f:Fits MOST rs):∀(os:List Rule),Good os→Fits MOST os→Good (rs++bring rs os)∧Fits MOST (rs++bring rs os)∧(∀i,i<os.length→(texts (rs++bring rs os)).getD (rs.length+i) []=(texts os).getD i []):=by
 refine snocInd (fun _ _=>⟨by simpa [bring] using g,by simpa [bring] using f,fun i h=>by simp at h⟩) fun os r ih go fo=> ?_
 obtain⟨g1,r1⟩:=go.init
 obtain⟨ih1,ih2,ih3⟩:=ih g1 fo.pre
 obtain⟨qs,hq⟩:∃qs,qs=rs++bring rs os:=⟨_,rfl⟩
 have ql:qs.length=rs.length+os.length:=by rw [hq];simp [bring]
 have eb:rs++bring rs (os++[r])=qs++[r.qF (rs.length+·)]:=by
  rw [hq]
  simp [bring]
 rw [←hq] at ih1 ih2 ih3
 rw [eb]
 have sz:∀a,a<os.length→(sizes qs).getD (rs.length+a) 0=(sizes os).getD a 0:=fun a ha=>by rw [←gU,ih3 a ha,gU]
 refine⟨ih1.snoc (alj r1 fun a ha=>by rw [ql];omega),ih2.snoc ?_,fun i hi=> ?_⟩
 ·rw [ahL r1 sz]
  have:=fo.get os.length
  rwa [xQ] at this
 ·rcases dW i os.length with h|h
  ·rw [jg (by omega),ih3 i h,jg h]
  ·have e:i=os.length:=by
    simp at hi
    omega
   subst e
   rw [←ql,lV,lV]
   exact akC r1 ih3
def pG(rs:List Rule):Option Nat→Option Nat
 |none=>none
 |some k=>some (rs.length+k)
theorem WT{rs os:List Rule}(g:Good rs)(f:Fits MOST rs)(go:Good os)(fo:Fits MOST os){n:Option Nat}(h:gh os n):gh (rs++bring rs os) (pG rs n)∧iG (rs++bring rs os) (pG rs n)=iG os n:=by
 cases n with
 |none=>exact⟨gh.none,rfl⟩
 |some k=>
  have hk:=h k rfl
  refine⟨gh.some (by simp [bring];omega),?_⟩
  exact(QL g f os go fo).2.2 k hk
end Sb
namespace Sb
open PySem PySem.Spec L2 Evl DL
def uI(F:Nat→D)(ks:List Nat):List (D×D):=ks.map fun i=>(aF ((i:Nat):Int),F i)
def Y9(F:Nat→D)(p:Nat)(v:D):Nat→D:=fun x=>if x=p then v else F x
theorem Kh(F:Nat→D)(p:Nat):∀ks:List Nat,p∈ks→qH (uI F ks) (.inl ((p:Nat):Int))=some (F p)
 |[],h=>by cases h
 |k::ks,h=>by
  by_cases e:k=p
  ·subst e
   simp [uI,qH,DL.keyOf]
  ·have h2:p∈ks:=by
    rcases aH.mp h with z|z
    ·exact absurd z.symm e
    ·exact z
   have k0:¬(DL.keyOf (aF ((k:Nat):Int))=some (.inl ((p:Nat):Int))):=fun z=>e ((JB k p).mp z)
   have ih:=Kh F p ks h2
   unfold uI qH at ih⊢
   rw [bA,dU]
   simp only [k0,decide_false]
   exact ih
theorem agz(F:Nat→D)(p:Nat)(ks:List Nat):(uI F ks).any (fun q=>decide (DL.keyOf q.1=some (.inl ((p:Nat):Int))))=decide (p∈ks):=by
 unfold uI
 rw [List.any_map]
 induction ks with
 |nil=>rfl
 |cons s ss ih=>
  rw [dY,ih]
  by_cases e:s=p
  ·subst e
   simp [Function.comp,DL.keyOf]
  ·have h1:¬p=s:=fun z=>e z.symm
   have k0:¬(DL.keyOf (aF ((s:Nat):Int))=some (.inl ((p:Nat):Int))):=fun z=>e ((JB s p).mp z)
   simp [Function.comp,k0,h1]
theorem acy(F:Nat→D)(p:Nat)(v:D)(ks:List Nat)(h:¬p∈ks):qM (uI F ks) (.inl ((p:Nat):Int)) v=uI (Y9 F p v) (ks++[p]):=by
 unfold qM
 rw [agz,if_neg (by simp [h])]
 unfold uI
 rw [cC]
 congr 1
 ·refine bT fun i hi=> ?_
  have:¬i=p:=fun z=>h (by rw [←z];exact hi)
  simp [Y9,this]
 ·simp [Y9,keyD]
theorem alC(F:Nat→D)(p:Nat)(v:D)(ks:List Nat)(h:p∈ks):qM (uI F ks) (.inl ((p:Nat):Int)) v=uI (Y9 F p v) ks:=by
 unfold qM
 rw [agz,if_pos (by simp [h])]
 unfold uI
 rw [cD]
 refine bT fun i hi=> ?_
 simp only [Function.comp]
 by_cases e:i=p
 ·subst e
  simp [Y9,DL.keyOf]
 ·have k0:¬(DL.keyOf (aF ((i:Nat):Int))=some (.inl ((p:Nat):Int))):=fun z=>e ((JB i p).mp z)
  simp [Y9,k0,e]
theorem zA(F:Nat→D)(ks:List Nat):Bf (uI F ks)=true:=by cases ks<;>rfl
theorem ab0(F:Nat→D)(ks:List Nat):(uI F ks).length=ks.length:=by simp [uI]
theorem Q5{F G:Nat→D}{ks:List Nat}(h:∀i∈ks,F i=G i):uI F ks=uI G ks:=by
 unfold uI
 exact bT fun i hi=>by rw [h i hi]
theorem adq{a b:Nat}(h:s1 a=s1 b):a=b:=by
 have:=congrArg (fun z:Str=>z.cps.toList) h
 simpa using this
theorem Mv{r q:Rule}(h:fH r=fH q):r=q:=by
 cases r<;>cases q<;>simp only [fH,PyData.tuple.injEq,List.cons.injEq,PyData.str.injEq,PyData.int.injEq,and_true] at h
 ·rw [adq h.2]
 ·exact absurd h.1 (fun z=>js z.symm)
 ·exact absurd h.1 (fun z=>ts z.symm)
 ·exact absurd h.1 js
 ·obtain⟨_,h1,h2⟩:=h
  congr 1<;>omega
 ·exact absurd h.1 jt
 ·exact absurd h.1 ts
 ·exact absurd h.1 tj
 ·obtain⟨_,h1,h2⟩:=h
  congr 1<;>omega
theorem adU(r:Rule):nb (fH r)=true:=by cases r<;>rfl
theorem ag0{r q:Rule}{i j:Nat}(hr:r.ok i)(hq:q.ok j):xX (fH r) (fH q)= .ok (.bool (!decide (r=q))):=by
 by_cases e:r=q
 ·subst e
  rw [Jy (Xx hr)]
  simp
 ·rw [agF (Xx hr) (Xx hq) (adU r) (adU q) (fun z=>e (Mv z))]
  simp [e]
def Ff(rs:List Rule)(n:Option Nat)(ks:List Nat):Prop:=match n with
 |none=>ks=[]
 |some k=>k<rs.length∧Need rs k ks
theorem Ff.rise{rs:List Rule}{n:Option Nat}{ks:List Nat}(h:Ff rs n ks):ks.Pairwise (·<·):=by
 cases n with
 |none=>rw [show ks=[] from h];exact .nil
 |some k=>exact h.2.rise
theorem Ff.lt{rs:List Rule}{n:Option Nat}{ks:List Nat}(h:Ff rs n ks):∀i∈ks,i<rs.length:=by
 cases n with
 |none=>rw [show ks=[] from h];intro i hi;cases hi
 |some k=>
  intro i hi
  have:=h.2.le i hi
  have:=h.1
  omega
theorem Ff.clo{rs:List Rule}{n:Option Nat}{ks:List Nat}(h:Ff rs n ks):∀i∈ks,∀r,rs[i]? =some r→∀p∈r.parts,p∈ks:=by
 cases n with
 |none=>rw [show ks=[] from h];intro i hi;cases hi
 |some k=>exact h.2.clo
theorem Ff.len{rs:List Rule}{n:Option Nat}{ks:List Nat}(h:Ff rs n ks):ks.length≤rs.length:=by
 cases n with
 |none=>rw [show ks=[] from h];exact cX _
 |some k=>
  have:=h.2.len
  have:=h.1
  omega
theorem Vy{ks:List Nat}(rise:ks.Pairwise (·<·)){j i:Nat}(h1:ks[j]? =some i):(∀p∈ks,p<i→p∈ks.take j)∧¬i∈ks.take j:=by
 have hj:=(au.mp h1).1
 have hij:ks[j]=i:=(au.mp h1).2
 constructor
 ·intro p hp hlt
  obtain⟨q,hq,rfl⟩:=List.getElem_of_mem hp
  have hqj:q<j:=by
   rcases dW q j with z|z
   ·exact z
   ·exfalso
    rcases Nat.lt_or_eq_of_le z with z|z
    ·have:=cP.mp rise j q hj hq z
     omega
    ·subst z
     omega
  rw [List.mem_take_iff_getElem]
  exact⟨q,by omega,rfl⟩
 ·intro z
  obtain⟨q,hq,e⟩:=List.mem_take_iff_getElem.mp z
  have:=cP.mp rise q j (by omega) hj (by omega)
  omega
structure Way(T:List Nat→List Nat)(tr:Rule→Rule):Prop where
 len:∀t,(T t).length=t.length
 ok:∀r i,r.ok i→(tr r).ok i
 tx:∀(r:Rule) (i:Nat) (f:Nat→Nat) (ts ts' :List (List Nat)),r.ok i→(∀a∈r.parts,ts'.getD (f a) []=T (ts.getD a []))→(tr (r.qF f)).tx ts' =T (r.tx ts)
 pt:∀(r:Rule) (p:Nat),p∈(tr r).parts→p∈r.parts
structure Done(rs:List Rule)(T:List Nat→List Nat)(ks:List Nat)(qs:List Rule)(f:Nat→Nat):Prop where
 g:Good (rs++qs)
 fits:Fits MOST (rs++qs)
 len:qs.length≤ks.length
 lt:∀i∈ks,f i<(rs++qs).length
 tx:∀i∈ks,(texts (rs++qs)).getD (f i) []=T ((texts rs).getD i [])
 cl:∀i∈ks,∀q,(rs++qs)[f i]? =some q→∀p∈q.parts,∃a∈ks,p=f a
theorem acf{r:Rule}{f:Nat→Nat}:(r.qF f).parts=r.parts.map f:=by cases r<;>rfl
theorem Done.step{rs:List Rule}{T:List Nat→List Nat}{tr:Rule→Rule}(W:Way T tr)(g:Good rs)(fr:Fits MOST rs){ks:List Nat}{qs:List Rule}{f:Nat→Nat}(h:Done rs T ks qs f){i:Nat}{r:Rule}(hr:rs[i]? =some r)(hp:∀a∈r.parts,a∈ks)(hi:¬i∈ks):
 (tr (r.qF f)).ok (rs++qs).length∧(tr (r.qF f)=r→Done rs T (ks++[i]) qs (fun x=>if x=i then i else f x))∧Done rs T (ks++[i]) (qs++[tr (r.qF f)]) (fun x=>if x=i then(rs++qs).length else f x):=by
 have ok:=g i r hr
 have hil:=(au.mp hr).1
 have ok1:(r.qF f).ok (rs++qs).length:=by
  cases r with
  |sign c=>exact ok
  |join a b=>exact⟨h.lt a (hp a (by simp [Rule.parts])),h.lt b (hp b (by simp [Rule.parts]))⟩
  |times a n=>exact⟨h.lt a (hp a (by simp [Rule.parts])),ok.2⟩
 have ok2:=W.ok _ _ ok1
 have tx2:(tr (r.qF f)).tx (texts (rs++qs))=T (r.tx (texts rs)):=W.tx r i f (texts rs) (texts (rs++qs)) ok fun a ha=>h.tx a (hp a ha)
 have ti:(texts rs).getD i []=r.tx (texts rs):=rY g hr
 have old:∀x∈ks,¬x=i:=fun x hx z=>hi (by rw [←z];exact hx)
 have img:∀v p,p∈(tr (r.qF f)).parts→∃a∈ks++[i],p=if a=i then v else f a:=fun v p hpp=>by
  have h1:=W.pt _ _ hpp
  rw [acf,cG] at h1
  obtain⟨a,ha,rfl⟩:=h1
  have hk:=hp a ha
  exact⟨a,bB _ hk,by simp only [old a hk,if_false]⟩
 have imo:∀v p,(∃a∈ks,p=f a)→∃a∈ks++[i],p=if a=i then v else f a:=fun v p ⟨a,ha,e⟩=>
  ⟨a,bB _ ha,by simp only [old a ha,if_false];exact e⟩
 refine⟨ok2,fun e=>⟨h.g,h.fits,by rw [aA];have:=h.len;omega,fun x hx=> ?_,fun x hx=> ?_,fun x hx q hq p hpp=> ?_⟩,⟨?_,?_,?_,fun x hx=> ?_,fun x hx=> ?_,fun x hx q hq p hpp=> ?_⟩⟩
 ·rcases aM.mp hx with hx|hx
  ·simp only [old x hx,if_false]
   exact h.lt x hx
  ·have:x=i:=by simpa using hx
   simp only [this,if_true]
   rw [aA]
   omega
 ·rcases aM.mp hx with hx|hx
  ·simp only [old x hx,if_false]
   exact h.tx x hx
  ·have:x=i:=by simpa using hx
   simp only [this,if_true]
   rw [ti,←tx2,e,jg hil,ti,akK (ok.mono (by omega))]
 ·rcases aM.mp hx with hx|hx
  ·simp only [old x hx,if_false] at hq
   exact imo _ p (h.cl x hx q hq p hpp)
  ·have z:x=i:=by simpa using hx
   simp only [z,if_true] at hq
   rw [aO hil,hr] at hq
   cases hq
   rw [←e] at hpp
   exact img _ p hpp
 ·rw [←aG]
  exact h.g.snoc ok2
 ·rw [←aG]
  refine h.fits.snoc ?_
  have e:(tr (r.qF f)).size (sizes (rs++qs))=((tr (r.qF f)).tx (texts (rs++qs))).length:=by
   rw [←lV,gU,xQ]
  rw [e,tx2,W.len,←ti,gU]
  exact fr.get i
 ·simp only [aA,aY,cH]
  have:=h.len
  omega
 ·rcases aM.mp hx with hx|hx
  ·simp only [old x hx,if_false]
   have:=h.lt x hx
   simp only [aA,aY,cH] at this⊢
   omega
  ·have:x=i:=by simpa using hx
   simp only [this,if_true]
   simp
 ·rw [←aG]
  rcases aM.mp hx with hx|hx
  ·simp only [old x hx,if_false]
   rw [jg (h.lt x hx)]
   exact h.tx x hx
  ·have:x=i:=by simpa using hx
   simp only [this,if_true]
   rw [lV,tx2,ti]
 ·rcases aM.mp hx with hx|hx
  ·simp only [old x hx,if_false] at hq
   rw [←aG,aO (h.lt x hx)] at hq
   exact imo _ p (h.cl x hx q hq p hpp)
  ·have z:x=i:=by simpa using hx
   simp only [z,if_true] at hq
   rw [←aG,bD (bJ _),Nat.sub_self] at hq
   have hq' :tr (r.qF f)=q:=by simpa using hq
   rw [←hq'] at hpp
   exact img _ p hpp
def xM:Rule→Rule
 | .join a b=> .join b a
 |r=>r
theorem aee(A:List Nat):∀n:Nat,(aD n A).flatten.reverse=(aD n A.reverse).flatten
 |0=>rfl
 |n+1=>by
  rw [List.replicate_succ',dO,bZ,aee A n,cI]
  simp
theorem aiG:Way List.reverse xM where
 len:=fun t=>bR
 ok:=fun r i h=>by
  cases r with
  |sign c=>exact h
  |join a b=>exact⟨h.2,h.1⟩
  |times a n=>exact h
 tx:=fun r i f ts ts' ok h=>by
  cases r with
  |sign c=>rfl
  |join a b=>
   show ts'.getD (f b) []++ts'.getD (f a) []=(ts.getD a []++ts.getD b []).reverse
   rw [h a (by simp [Rule.parts]),h b (by simp [Rule.parts]),bZ]
  |times a n=>
   show(aD n (ts'.getD (f a) [])).flatten=(aD n (ts.getD a [])).flatten.reverse
   rw [h a (by simp [Rule.parts]),aee]
 pt:=fun r p h=>by
  cases r with
  |sign c=>exact h
  |join a b=>
   simp only [xM,Rule.parts,aH,bG,or_false] at h⊢
   exact h.symm
  |times a n=>exact h
def amU(s o:Nat)(c:Nat):Nat:=if c=s then o else c
theorem aiV(A:List Nat)(p:Nat)(h:p<A.length):A.reverse.getD p 0=A.getD (A.length-1-p) 0:=by
 simp only [bF]
 rw [List.getElem?_reverse h]
end Sb
namespace Sb
open PySem PySem.Spec L2 Evl DL
def cat(rs:List Rule)(ps:List (Option Nat)):List Nat:=(ps.map (iG rs)).flatten
theorem QK(rs:List Rule)(ps:List (Option Nat))(p:Option Nat):cat rs (ps++[p])=cat rs ps++iG rs p:=by simp [cat]
theorem Tp(rs:List Rule)(p:Option Nat)(ps:List (Option Nat)):cat rs (p::ps)=iG rs p++cat rs ps:=by simp [cat]
theorem ad9{rs:List Rule}{ps:List (Option Nat)}(h:∀p∈ps,gh rs p)(qs:List Rule):cat (rs++qs) ps=cat rs ps:=by
 unfold cat
 congr 1
 exact bT fun p hp=>tH (h p hp) qs
theorem Jm(A:List Nat)(m n:Nat):(aD (m+n) A).flatten=(aD m A).flatten++(aD n A).flatten:=by
 rw [←List.replicate_append_replicate,dO]
theorem RL(A:List Nat)(hA:0<A.length)(c p:Nat)(hp:p<c*A.length):(aD c A).flatten.take p=(aD (p/A.length) A).flatten++A.take (p%A.length):=by
 have hd:=Nat.div_add_mod p A.length
 have hm:p%A.length<A.length:=Nat.mod_lt _ hA
 have hc:p/A.length<c:=(Nat.div_lt_iff_lt_mul hA).mpr hp
 obtain⟨e,he⟩:∃e,c=p/A.length+(1+e):=⟨c-p/A.length-1,by omega⟩
 have hl:((aD (p/A.length) A).flatten).length=p/A.length*A.length:=rR _ _
 conv=>lhs;rw [he,Jm]
 rw [List.take_append,hl]
 have e1:(aD (p/A.length) A).flatten.take p=(aD (p/A.length) A).flatten:=bO (by rw [hl,bU];omega)
 have e2:p-p/A.length*A.length=p%A.length:=by rw [bU];omega
 rw [e1,e2,Jm]
 have e3:(aD 1 A).flatten=A:=by simp
 rw [e3,cM (by omega)]
theorem QX(A:List Nat):∀n:Nat,(aD n A).flatten.reverse=(aD n A.reverse).flatten
 |0=>rfl
 |n+1=>by
  rw [List.replicate_succ',dO,bZ,QX A n,cI]
  simp
def oX(n:Nat)(A:List Nat):List Nat:=(A.reverse.take n).reverse
theorem VG(A:List Nat):oX A.length A=A:=by
 unfold oX
 rw [bO (by simp)]
 simp
theorem ahS(A:List Nat):oX 0 A=[]:=by simp [oX]
theorem zJ{n:Nat}{A:List Nat}(h:n≤A.length):(oX n A).length=n:=by
 unfold oX
 simp
 omega
theorem aeX(A:List Nat)(hA:0<A.length)(c p:Nat)(hp:p<c*A.length):oX p (aD c A).flatten=oX (p%A.length) A++(aD (p/A.length) A).flatten:=by
 unfold oX
 have h:=RL A.reverse (by simpa using hA) c p (by simpa using hp)
 rw [bR] at h
 rw [QX,h,bZ,QX]
 simp
theorem aaW{A B:List Nat}{n:Nat}(h:n≤B.length):oX n (A++B)=oX n B:=by
 unfold oX
 rw [bZ,cM (by simpa using h)]
theorem ab4{A B:List Nat}{n:Nat}(h:B.length≤n):oX n (A++B)=oX (n-B.length) A++B:=by
 unfold oX
 have e:B.reverse.take n=B.reverse:=bO (by simpa using h)
 rw [bZ,List.take_append,bZ,bR,e,List.reverse_reverse]
theorem abK{A:List Nat}{n:Nat}(h:n≤A.length):oX n A=A.drop (A.length-n):=by
 unfold oX
 rw [List.take_reverse]
 simp
def stretch(A:List Nat)(s e:Nat):List Nat:=(A.take e).drop s
theorem Bm{A B:List Nat}{s e:Nat}(h:e≤A.length):stretch (A++B) s e=stretch A s e:=by
 unfold stretch
 rw [cM h]
theorem Ho{A B:List Nat}{s e:Nat}(h:A.length≤s)(hse:s≤e):stretch (A++B) s e=stretch B (s-A.length) (e-A.length):=by
 unfold stretch
 rw [List.take_append,List.drop_append,bO (by omega),List.drop_eq_nil_of_le (by omega)]
 simp
theorem Lh{A B:List Nat}{s e:Nat}(h:s≤A.length)(he:A.length≤e):stretch (A++B) s e=oX (A.length-s) A++B.take (e-A.length):=by
 unfold stretch
 rw [List.take_append,bO (by omega),List.drop_append_of_le_length h,abK (by omega)]
 congr 2
 omega
theorem Zq(A:List Nat)(c q:Nat)(h:q≤c):(aD c A).flatten=(aD q A).flatten++(aD (c-q) A).flatten:=by
 rw [←Jm]
 congr 2
 omega
theorem abi(A:List Nat)(c s e:Nat)(hs:s<c*A.length)(hA:0<A.length)(hse:s≤e):stretch (aD c A).flatten s e=stretch (aD (c-s/A.length) A).flatten (s%A.length) (e-s/A.length*A.length):=by
 have hd:=Nat.div_add_mod s A.length
 have hc:s/A.length<c:=(Nat.div_lt_iff_lt_mul hA).mpr hs
 have hl:((aD (s/A.length) A).flatten).length=s/A.length*A.length:=rR _ _
 have hm:s/A.length*A.length≤s:=Nat.div_mul_le_self _ _
 rw [Zq A c (s/A.length) (by omega),Ho (by rw [hl];exact hm) hse,hl]
 congr 1
 rw [bU] at hd
 omega
theorem aeD(A:List Nat)(hA:0<A.length)(c p:Nat)(hp:p≤c*A.length):(aD c A).flatten.take p=(aD (p/A.length) A).flatten++A.take (p%A.length):=by
 rcases Nat.lt_or_eq_of_le hp with h|h
 ·exact RL A hA c p h
 ·subst h
  rw [Nat.mul_div_cancel _ hA,Nat.mul_mod_left,List.take_zero,aJ,bO (by rw [rR];exact bJ _)]
end Sb
namespace Sb
open PySem PySem.Spec L2 Evl DL
def Ws(rs:List Rule)(s:List Rule×(Nat→Nat))(i:Nat):List Rule×(Nat→Nat):=match rs[i]? with
 |none=>s
 |some r=>if r.qF s.2∈s.1 then(s.1,fun y=>if y=i then s.1.idxOf (r.qF s.2) else s.2 y) else(s.1++[r.qF s.2],fun y=>if y=i then s.1.length else s.2 y)
def O2(rs:List Rule)(ks:List Nat):List Rule×(Nat→Nat):=ks.foldl (Ws rs) ([],fun _=>0)
theorem SN(rs:List Rule)(ks:List Nat)(i:Nat):O2 rs (ks++[i])=Ws rs (O2 rs ks) i:=by simp [O2]
theorem aeI{qs:List Rule}(nd:qs.Nodup){x:Nat}{q:Rule}(h:qs[x]? =some q):qs.idxOf q=x:=by
 obtain⟨hx,e⟩:=au.mp h
 rw [←e]
 exact nd.idxOf_getElem x hx
theorem ag4{rs:List Rule}{qs:List Rule}{f:Nat→Nat}{i:Nat}{r:Rule}(hr:rs[i]? =some r)(nd:qs.Nodup){x:Nat}(hx:qs[x]? =some (r.qF f)):Ws rs (qs,f) i=(qs,fun y=>if y=i then x else f y):=by
 have hm:r.qF f∈qs:=bf hx
 simp only [Ws,hr,hm,if_true,aeI nd hx]
theorem aew{rs:List Rule}{qs:List Rule}{f:Nat→Nat}{i:Nat}{r:Rule}(hr:rs[i]? =some r)(hm:¬r.qF f∈qs):Ws rs (qs,f) i=(qs++[r.qF f],fun y=>if y=i then qs.length else f y):=by
 simp only [Ws,hr,hm,if_false]
end Sb
namespace Sb
open PySem PySem.Spec L2 Evl DL
theorem RM(c:Int):∃s:Nat,s∈Lz∧nU [.int c]= .ok (.str (s1 s)):=by
 have h0:=cO c (show(62:Int)≠0 by decide)
 have h1:=bW c (show(0:Int)<62 by decide)
 have hl:SG.cps.toList.length=62:=ahU
 have hx:=ajE (z:=SG) h0 (by rw [hl];exact h1) akd
 refine⟨SG.cps.toList[(c%62).toNat]'(by omega),dh _,?_⟩
 simp! only [nU,Ds,jo (show(0:Int)<62 by decide),hx]
end Sb
namespace Sb
open PySem PySem.Spec L2 Evl DL
theorem aiT(r:Rule)(sz:List Nat)(hr:r.ok sz.length)(hs:∀n∈sz,n≤MOST):uQ [fH r,fB sz]= .ok (.int (r.size sz:Nat)):=by
 cases r with
 |sign c=>simp! only [uQ,G5,fH,gG,Rule.size];rfl
 |join a b=>
  simp! only [uQ,G5,fH,gG,gR,lH,js,gY hr.1,gY hr.2,Rule.size]
  rfl
 |times a n=>
  have m:=Rg (m:=sz.getD a 0) (n:=n) 61 61 (dD (Yh hs) (by decide)) (dD hr.2.2 (by decide))
  simp! only [uQ,G5,fH,gG,gR,lH,ts,tj,gY hr.1,m,Rule.size]
end Sb
namespace Sb
open PySem PySem.Spec L2 Evl DL
theorem uO(rs:List Rule)(g:Good rs)(f:Fits MOST rs)(hl:rs.length≤16700000):wU [eY rs]= .ok (fB (sizes rs)):=aie (m:=uQ) aiT rs g f hl
end Sb
namespace Sb
open PySem PySem.Spec L2 Evl DL
theorem Ip(rs:List Rule):qY [eY rs, .none]= .ok .none:=by
 simp! only [qY,Yw,pB,uG]
theorem Um(rs:List Rule)(k:Nat)(h:k<rs.length):qY [eY rs, .int (k:Int)]= .ok .none:=by
 simp! only [qY,Yw,pB,uG,ji,uV,show(0:Int)≤(k:Int) by omega,show(k:Int)<(rs.length:Int) by omega]
end Sb
namespace Sb
open PySem PySem.Spec L2 Evl DL
theorem Xg(rs:List Rule)(n:Option Nat)(h:gh rs n):qY [eY rs,eZ n]= .ok .none:=by
 cases n with
 |none=>exact Ip rs
 |some k=>exact Um rs k (h k rfl)
end Sb
namespace Sb
open PySem PySem.Spec L2 Evl DL
theorem ahA(r:Rule):pN [fH r]= .ok (fB r.parts):=by
 cases r with
 |sign c=>simp! only [pN,Bq,fH,gG];rfl
 |join a b=>simp! only [pN,Bq,fH,gG,gR,lH,js];rfl
 |times a n=>simp! only [pN,Bq,fH,gG,gR,ts,tj];rfl
theorem aas(rs:List Rule):pA [eY rs, .none]= .ok (fB []):=by
 simp! only [pA,Jr,uG]
 rfl
def sS(S:List Nat)(ps:List Nat):List Nat:=ps.foldl (fun S p=>if p∈S then S else S++[p]) S
theorem yO(S ps:List Nat)(p:Nat):sS S (ps++[p])=if p∈sS S ps then sS S ps else sS S ps++[p]:=by
 unfold sS
 rw [List.foldl_append]
 rfl
theorem qQ(S:List Nat):∀(ps:List Nat) (x:Nat),x∈sS S ps↔x∈S∨x∈ps:=by
 refine snocInd (fun x=>by simp [sS]) fun l a ih x=> ?_
 rw [yO]
 split
 ·rename_i h
  rw [ih,aM,aR]
  have ha:=(ih a).mp h
  constructor
  ·rintro(h|h)
   ·exact .inl h
   ·exact .inr (.inl h)
  ·rintro(h|h|h)
   ·exact .inl h
   ·exact .inr h
   ·rw [h]
    exact ha
 ·rw [aM,ih,aM,or_assoc]
theorem aeW(S:List Nat)(hn:S.Nodup):∀ps:List Nat,(sS S ps).Nodup:=by
 refine snocInd hn fun l a ih=> ?_
 rw [yO]
 split
 ·exact ih
 ·rename_i h
  exact cA.mpr ⟨ih,by simp,fun x hx b hb=>by
   have:b=a:=by simpa using hb
   rw [this]
   intro z
   rw [z] at hx
   exact h hx⟩
theorem TV(S:List Nat):∀ps:List Nat,(sS S ps).length≤S.length+ps.length:=by
 refine snocInd (by simp [sS]) fun l a ih=> ?_
 rw [yO]
 split
 ·simp
  omega
 ·simp
  omega
theorem abg(S:List Nat)(s1:S.Nodup):∃ks,Fy (.dict (qw S))= .ok (fB ks)∧ks.Pairwise (·<·)∧∀i,i∈ks↔i∈S:=by
 have pm:=Z7 (S.map fun(i:Nat)=>(i:Int))
 have so:=UW (S.map fun(i:Nat)=>(i:Int))
 have e0:Fy (.dict (qw S))= .ok (.list ((srt (S.map fun(i:Nat)=>(i:Int))).map aF)):=by
  simp only [Fy,VP]
 obtain⟨T,hT⟩:∃T,T=srt (S.map fun(i:Nat)=>(i:Int)):=⟨_,rfl⟩
 rw [←hT] at pm so e0
 have mem:∀z,z∈T↔∃i∈S,(i:Int)=z:=fun z=>by rw [pm.mem_iff,cG]
 have nd:T.Nodup:=pm.nodup_iff.mpr (by
  rw [List.Nodup,List.pairwise_map]
  exact s1.imp fun h z=>h (by omega))
 have ek:fB (T.map Int.toNat)= .list (T.map aF):=by
  unfold fB
  rw [cD]
  refine congrArg cJ (bT fun z hz=> ?_)
  obtain⟨i,_,rfl⟩:=(mem z).mp hz
  show aF (((i:Int).toNat:Nat):Int)=aF (i:Int)
  rw [cY]
 refine⟨T.map Int.toNat,by rw [ek];exact e0,?_,fun i=> ?_⟩
 ·rw [List.pairwise_map]
  have both:=so.and nd
  refine List.Pairwise.imp_of_mem ?_ both
  intro a b ha hb h
  obtain⟨i,_,rfl⟩:=(mem a).mp ha
  obtain⟨j,_,rfl⟩:=(mem b).mp hb
  have h1:=h.1
  have h2:(i:Int)≠(j:Int):=h.2
  simp only [cY]
  omega
 ·rw [cG]
  constructor
  ·rintro⟨z,hz,rfl⟩
   obtain⟨i,hi,rfl⟩:=(mem z).mp hz
   simpa using hi
  ·intro hi
   exact⟨(i:Int),(mem _).mpr ⟨i,hi,rfl⟩,by simp⟩
theorem ag6(rs:List Rule)(S:List Nat)(k m:Nat)(r:Rule)(hr:rs[m]? =some r)(hS:S.length≤8000000)(k4:Sl):∃k4' :Sl,mV (iL (mG (fu pN [(eO fV (d8 0) (d8 3))]))) (gN 4) (oE 2 (d8 4) (eC (.bool true))) [.dat (eY rs), .dat (.int (k:Int)), .own (.dict (qw S)), .dat (.int (m:Int)),k4]
 = .nx [.dat (eY rs), .dat (.int (k:Int)), .own (.dict (qw (sS S r.parts))), .dat (.int (m:Int)),k4']:=by
 have pl:r.parts.length≤2:=by cases r<;>simp [Rule.parts]
 obtain⟨ρ2,hf2,k4',rfl⟩:=KJ (mi:=iL (mG (fu pN [(eO fV (d8 0) (d8 3))]))) (g:=gN 4) (body:=oE 2 (d8 4) (eC (.bool true)))
  (ρ:=[.dat (eY rs), .dat (.int (k:Int)), .own (.dict (qw S)), .dat (.int (m:Int)),k4]) (ds:=r.parts.map fun(n:Nat)=>aF (n:Int))
  (fun i ρ=>∃k4:Sl,ρ=[.dat (eY rs), .dat (.int (k:Int)), .own (.dict (qw (sS S (r.parts.take i)))), .dat (.int (m:Int)),k4])
  (by
    simp! only [iL,oN,sY hr,ahA,Eu]
    rfl)
  ⟨_,rfl⟩
  (by
    rintro i d ρ hd ⟨k4,rfl⟩
    rw [aK,aP] at hd
    obtain⟨p,h1,rfl⟩:=hd
    have hi:=(au.mp h1).1
    have et:r.parts.take (i+1)=r.parts.take i++[p]:=by
     rw [bH,h1]
     rfl
    have hz2:(qw (sS S (r.parts.take i))).length<sizeLine:=by
     unfold qw
     rw [aC]
     have:=TV S (r.parts.take i)
     rw [aZ] at this
     exact lM (by omega)
    refine⟨_,[.dat (eY rs), .dat (.int (k:Int)), .own (.dict (qw (sS S (r.parts.take (i+1))))), .dat (.int (m:Int)), .dat (.int (p:Int))],pP, .inl ?_,_,rfl⟩
    simp only [set_0,kW,oE,aec,jM,jZ,aW,aQ,DL.keyOf,hz2,if_true,Z5,acu]
    rw [et,yO])
 rw [aC,bV] at hf2
 exact⟨k4',hf2⟩
theorem aej(rs:List Rule)(g:Good rs)(hl:rs.length≤3000000)(k:Nat)(hk:k<rs.length):∃ks,pA [eY rs, .int (k:Int)]= .ok (fB ks)∧Need rs k ks:=by
 obtain⟨L,hL⟩:∃L,L=eY rs:=⟨_,rfl⟩
 have key:∃ks,Jr [.dat L, .dat (.int (k:Int)), .un, .un, .un]= .rt (fB ks)∧Need rs k ks:=by
  unfold Jr
  rw [lG (ρ' :=[.dat L, .dat (.int (k:Int)), .un, .un, .un]) (by simp! only [uG])]
  rw [lG (ρ' :=[.dat L, .dat (.int (k:Int)), .own (.dict (qw [k])), .un, .un]) (by
   simp! only [eD1,DL.keyOf]
   rfl)]
  obtain⟨ρ',hf,S,k3,k4,rfl,s1,s2,s3,s4,s5,s6⟩:=KJ (mi:=iR3 (d8 1) (G7 Pk (eC (.int 1))) (G7 Pk (eC (.int 1)))) (g:=gN 3)
   (body:=iQ (eO (xV false) (d8 3) (gK 2)) (mV (iL (mG (fu pN [(eO fV (d8 0) (d8 3))]))) (gN 4) (oE 2 (d8 4) (eC (.bool true)))) fU)
   (ρ:=[.dat L, .dat (.int (k:Int)), .own (.dict (qw [k])), .un, .un]) (ds:=Jw (k:Int) (-1))
   (fun j ρ=>∃(S:List Nat) (k3 k4:Sl),ρ=[.dat L, .dat (.int (k:Int)), .own (.dict (qw S)),k3,k4]∧S.Nodup∧k∈S∧(∀i∈S,i≤k)∧(∀i∈S,k<i+j→∀r,rs[i]? =some r→∀p∈r.parts,p∈S)∧S.length≤1+2*j∧∀i∈S,i=k∨∃j∈S,∃r,rs[j]? =some r∧i∈r.parts)
   (by
     have c1:inR (k:Int)=true:=acG (by omega) (by omega)
     have c2:inR (-1)=true:=by decide
     simp! only [iR3,ou,Jd,c1,c2,Bool.and_self,if_true])
   ⟨[k],_,_,rfl,by simp,by simp,by simp,fun i hi hki=>by
     have:i=k:=by simpa using hi
     omega,by simp,fun i hi=> .inl (by simpa using hi)⟩
   (by
     rintro j d ρ hd ⟨S,k3,k4,rfl,s1,s2,s3,s4,s5,s6⟩
     have hj:=(au.mp hd).1
     rw [zR] at hj
     rw [WR _ _ _ hj] at hd
     cases hd
     have hjk:j≤k:=by omega
     obtain⟨m,hm⟩:∃m:Nat,m+j=k:=⟨k-j,by omega⟩
     have em:(k:Int)-(j:Int)=(m:Int):=by omega
     rw [em]
     have hmr:m<rs.length:=by omega
     have hr:rs[m]? =some rs[m]:=by simp [hmr]
     obtain⟨r,er⟩:∃r,r=rs[m]:=⟨_,rfl⟩
     rw [←er] at hr
     by_cases hin:m∈S
     ·obtain⟨k4',hf2⟩:=ag6 rs S k m r hr (by omega) k4
      rw [←hL] at hf2
      have pl:r.parts.length≤2:=by cases r<;>simp [Rule.parts]
      refine⟨_,[.dat L, .dat (.int (k:Int)), .own (.dict (qw (sS S r.parts))), .dat (.int (m:Int)),k4'],pP, .inl ?_,_,_,_,rfl,aeW S s1 _,(qQ _ _ _).mpr (.inl s2),?_,?_,?_,?_⟩
      ·simp only [set_0,kW]
       rw [Dt (by simp! only [acV,hin])]
       exact hf2
      ·intro i hi
       rcases(qQ _ _ _).mp hi with h|h
       ·exact s3 i h
       ·have:=uf (g m r hr) i h
        omega
      ·intro i hi hki q hq p hp
       rcases(qQ _ _ _).mp hi with h|h
       ·by_cases e:i=m
        ·rw [e,hr] at hq
         cases hq
         exact(qQ _ _ _).mpr (.inr hp)
        ·exact(qQ _ _ _).mpr (.inl (s4 i h (by omega) q hq p hp))
       ·have:=uf (g m r hr) i h
        omega
      ·have:=TV S r.parts
       omega
      ·intro i hi
       rcases(qQ _ _ _).mp hi with h|h
       ·rcases s6 i h with h2|⟨j2,h2,q,h3,h4⟩
        ·exact .inl h2
        ·exact .inr ⟨j2,(qQ _ _ _).mpr (.inl h2),q,h3,h4⟩
       ·exact .inr ⟨m,(qQ _ _ _).mpr (.inl hin),r,hr,h⟩
     ·refine⟨_,[.dat L, .dat (.int (k:Int)), .own (.dict (qw S)), .dat (.int (m:Int)),k4],pP, .inl ?_,S,_,_,rfl,s1,s2,s3,?_,by omega,s6⟩
      ·simp only [set_0,kW]
       rw [vU (by simp! only [acV,hin])]
       rfl
      ·intro i hi hki
       refine s4 i hi ?_
       have:i≠m:=fun z=>hin (by rw [←z];exact hi)
       omega)
  rw [lG hf]
  have dl:(Jw (k:Int) (-1)).length=k+1:=by rw [zR];omega
  rw [dl] at s4
  obtain⟨ks,e1,e2,e3⟩:=abg S s1
  refine⟨ks,?_,⟨e2,(e3 k).mpr s2,fun i hi=>s3 i ((e3 i).mp hi),fun i hi r hr p hp=>(e3 p).mpr (s4 i ((e3 i).mp hi) (by omega) r hr p hp),fun i hi=> ?_⟩⟩
  ·simp! only [Jd,e1]
  ·rcases s6 i ((e3 i).mp hi) with h2|⟨j2,h2,q,h3,h4⟩
   ·exact .inl h2
   ·exact .inr ⟨j2,(e3 j2).mpr h2,q,h3,h4⟩
 obtain⟨ks,e,n⟩:=key
 rw [hL] at e
 exact⟨ks,akp e,n⟩
end Sb
namespace Sb
open PySem PySem.Spec L2 Evl DL
theorem aak(rs:List Rule)(g:Good rs)(hl:rs.length≤3000000)(n:Option Nat)(hn:gh rs n):∃ks,pA [eY rs,eZ n]= .ok (fB ks)∧Ff rs n ks:=by
 cases n with
 |none=>exact⟨[],aas rs,rfl⟩
 |some k=>
  obtain⟨ks,e,nd⟩:=aej rs g hl k (hn k rfl)
  exact⟨ks,e,hn k rfl,nd⟩
end Sb
namespace Sb
open PySem PySem.Spec L2 Evl DL
theorem aby(rs:List Rule):lQ [eY rs, .none]= .ok (.int 0):=by
 simp! only [lQ,SJ,Ip,uG]
theorem Xa(rs:List Rule)(g:Good rs)(f:Fits MOST rs)(hl:rs.length≤16700000)(k:Nat)(h:k<rs.length):lQ [eY rs, .int (k:Int)]= .ok (.int (((sizes rs).getD k 0:Nat):Int)):=by
 have e:=uO rs g f hl
 have e2:=gY (ns:=sizes rs) (a:=k) (by rw [jA];exact h)
 simp! only [lQ,SJ,Um rs k h,uG,e,e2]
end Sb
namespace Sb
open PySem PySem.Spec L2 Evl DL
theorem tO(rs:List Rule)(g:Good rs)(f:Fits MOST rs)(hl:rs.length≤16700000)(n:Option Nat)(h:gh rs n):lQ [eY rs,eZ n]= .ok (.int ((lD rs n:Nat):Int)):=by
 cases n with
 |none=>exact aby rs
 |some k=>exact Xa rs g f hl k (h k rfl)
end Sb
namespace Sb
open PySem PySem.Spec L2 Evl DL
theorem acI(rs:List Rule)(g:Good rs)(f:Fits MOST rs)(hl:rs.length≤90000)(k:Nat)(hk:k<rs.length)(p:Nat)(hp:p<(sizes rs).getD k 0):wI [eY rs, .int (k:Int), .int (p:Int)]= .ok (.str (s1 (((texts rs).getD k []).getD p 0))):=by
 have ln:=Xa rs g f (by omega) k hk
 have le:=uO rs g f (by omega)
 obtain⟨L,hL⟩:∃L,L=eY rs:=⟨_,rfl⟩
 obtain⟨S,hS⟩:∃S,S=fB (sizes rs):=⟨_,rfl⟩
 obtain⟨c,hc⟩:∃c,c=((texts rs).getD k []).getD p 0:=⟨_,rfl⟩
 obtain⟨z,hz⟩:∃z,z=(sizes rs).getD k 0:=⟨_,rfl⟩
 rw [←hL] at ln le⊢
 rw [←hS] at le
 rw [←hc]
 rw [←hz] at ln
 have ixr:∀(a:Nat) r,rs[a]? =some r→fV L (.int (a:Int))= .ok (fH r):=fun a r h=>by rw [hL];exact sY h
 have ixs:∀a:Nat,a<rs.length→fV S (.int (a:Int))= .ok (.int (((sizes rs).getD a 0:Nat):Int)):=fun a h=>by rw [hS];exact gY (by rw [jA];exact h)
 have hr0:rs[k]? =some rs[k]:=by simp [hk]
 have ix0:=ixr k _ hr0
 refine jD ?_
 show Rt (Mu [.dat (L), .dat (.int (k:Int)), .dat (.int (p:Int)), .un, .un, .un]) _
 unfold Mu
 refine fP (ρ' :=[.dat (L), .dat (.int (k:Int)), .dat (.int (p:Int)), .dat (.int (z:Int)), .un, .un]) (by rw [lK (kh rfl rfl ln)];rfl) ?_
 refine fP (ρ' :=[.dat (L), .dat (.int (k:Int)), .dat (.int (p:Int)), .dat (.int (z:Int)), .un, .un]) (by
  have h1:decide ((p:Int)<0)=false:=decide_eq_false (by omega)
  have h2:decide ((p:Int)≥(z:Int))=false:=decide_eq_false (by omega)
  simp! only [h1,h2]) ?_
 refine fP (ρ' :=[.dat (L), .dat (.int (k:Int)), .dat (.int (p:Int)), .dat (.int (z:Int)), .dat (S), .un]) (by
  rw [lK (d:=S) (by rw [oN,j5 rfl le,iy,hS,Eu])]
  rfl) ?_
 refine fP (ρ' :=[.dat (L), .dat (.int (k:Int)), .dat (.int (p:Int)), .dat (.int (z:Int)), .dat (S), .dat (fH rs[k])]) (by simp! only [ix0]) ?_
 refine mZ (pO (N:=fun ρ=>∃(d2 d3:Sl),ρ=[.dat (L), .dat (.int (k:Int)),d2,d3, .dat (S), .dat (fH (.sign c))]) (fun n ρ=>∃(q:Nat) (r:Rule) (d3:Sl),ρ=[.dat (L), .dat (.int (k:Int)), .dat (.int (q:Int)),d3, .dat (S), .dat (fH r)]∧rs[n]? =some r∧q<(sizes rs).getD n 0∧((texts rs).getD n []).getD q 0=c) k (by omega) ⟨p,_,_,rfl,hr0,hp,hc.symm⟩ ?_) ?_
 ·rintro n ρ ⟨q,r,d3,rfl,hr,hq,ht⟩
  have hn:=(au.mp hr).1
  have ok:=g n r hr
  have tx:=rY g hr
  have sz:=rG g hr
  rw [tx] at ht
  cases r with
  |sign s=>
   left
   have q0:q=0:=by
    rw [sz] at hq
    simp only [Rule.size] at hq
    omega
   rw [q0] at ht
   have e:s=c:=ht
   rw [e]
   exact⟨by simp! only [fH,gG],_,_,rfl⟩
  |times a m=>
   right
   have ha:a<rs.length:=by have:=ok.1;omega
   have ixa:=ixs a ha
   have hra:rs[a]? =some rs[a]:=by simp [ha]
   have ira:=ixr a _ hra
   obtain⟨Ra,hRa⟩:∃Ra,Ra=fH rs[a]:=⟨_,rfl⟩
   rw [←hRa] at ira
   have ap:=Pos.get g ha
   refine⟨by simp! only [fH,gG,ts],a,ok.1,jT (ρ' :=[.dat (L), .dat (.int (k:Int)), .dat (.int ((q%(sizes rs).getD a 0:Nat):Int)), .dat (.int (((sizes rs).getD a 0:Nat):Int)), .dat (S), .dat (Ra)]) ?_ ⟨_,_,_,by rw [hRa],hra,Nat.mod_lt _ ap,?_⟩⟩
   ·dsimp! only [fH,gG,gR,ixa,jo,ira]
    simp
   ·have hq' :q<m*((texts rs).getD a []).length:=by
     rw [gU,bU]
     rw [sz] at hq
     exact hq
    simp only [Rule.tx] at ht
    rw [Qp _ _ _ _ hq',gU] at ht
    exact ht
  |join a b=>
   right
   have ha:a<rs.length:=by have:=ok.1;omega
   have hb:b<rs.length:=by have:=ok.2;omega
   have ixa:=ixs a ha
   have hra:rs[a]? =some rs[a]:=by simp [ha]
   have hrb:rs[b]? =some rs[b]:=by simp [hb]
   have ira:=ixr a _ hra
   have irb:=ixr b _ hrb
   obtain⟨Ra,hRa⟩:∃Ra,Ra=fH rs[a]:=⟨_,rfl⟩
   obtain⟨Rb,hRb⟩:∃Rb,Rb=fH rs[b]:=⟨_,rfl⟩
   rw [←hRa] at ira
   rw [←hRb] at irb
   by_cases h:q<(sizes rs).getD a 0
   ·have h' :(q:Int)<(((sizes rs).getD a 0:Nat):Int):=by omega
    refine⟨by simp! only [fH,gG,js],a,ok.1,jT (ρ' :=[.dat (L), .dat (.int (k:Int)), .dat (.int (q:Int)), .dat (.int (((sizes rs).getD a 0:Nat):Int)), .dat (S), .dat (Ra)]) ?_ ⟨_,_,_,by rw [hRa],hra,h,?_⟩⟩
    ·simp! only [fH,gG,gR,ixa,jt,h',ira]
    ·simp only [Rule.tx] at ht
     rwa [FW (by rw [gU];exact h)] at ht
   ·have h' :¬(q:Int)<(((sizes rs).getD a 0:Nat):Int):=by omega
    refine⟨by simp! only [fH,gG,js],b,ok.2,jT (ρ' :=[.dat (L), .dat (.int (k:Int)), .dat (.int ((q-(sizes rs).getD a 0:Nat):Int)), .dat (.int (((sizes rs).getD a 0:Nat):Int)), .dat (S), .dat (Rb)]) ?_ ⟨_,_,_,by rw [hRb],hrb,?_,?_⟩⟩
    ·simp! only [fH,gG,gR,lH,ixa,jt,h',irb]
     rw [show(q:Int)-(((sizes rs).getD a 0:Nat):Int)=((q-(sizes rs).getD a 0:Nat):Int) by omega]
    ·rw [sz] at hq
     simp only [Rule.size] at hq
     omega
    ·simp only [Rule.tx] at ht
     rwa [Fq (by rw [gU];omega),gU] at ht
 ·rintro ρ ⟨d2,d3,rfl⟩
  exact jB (d:= .str (s1 c)) (by simp! only [fH,gR]) rfl
end Sb
namespace Sb
open PySem PySem.Spec L2 Evl DL
theorem Wc(ds:List (D×D))(k:D):Mw (.dict ds) k=jE (.dict ds) k:=rfl
theorem ae2(ns:List Nat)(k:D):Mw (fB ns) k=fV (fB ns) k:=rfl
theorem IV(r:Rule)(i:Nat)(h:r.ok i)(f:Nat→Nat)(N:D)(hN:∀a∈r.parts,Mw N (.int (a:Int))= .ok (.int ((f a:Nat):Int))):nR [fH r,N]= .ok (fH (r.qF f)):=by
 cases r with
 |sign c=>simp! only [nR,GJ,fH,gG,Rule.qF]
 |join a b=>simp! only [nR,GJ,fH,gG,gR,lH,js,hN a (by simp [Rule.parts]),hN b (by simp [Rule.parts]),Rule.qF]
 |times a n=>simp! only [nR,GJ,fH,gG,gR,lH,ts,tj,hN a (by simp [Rule.parts]),Rule.qF]
end Sb
namespace Sb
open PySem PySem.Spec L2 Evl DL
def fL(rs:List Rule):D:= .list (rs.map fH)
theorem Cd{n:Nat}{m:SM}{c d:D}{ds:List D}(h:m (.own c::(ds.map Sl.dat++aD n .un))= .rt d):En n m (c::ds)= .ok d:=by simp only [En,h]
theorem Yz(rs:List Rule)(r:Rule)(hl:rs.length<16700000):j6 [fL rs,fH r]= .ok (.tuple [.int ((rs.length:Nat):Int),fL (rs++[r])]):=by
 have ap:mW 0 (d8 1) [.own (fL rs), .dat (fH r)]= .nx [.own (fL (rs++[r])), .dat (fH r)]:=by
  rw [app_ok (ds:=rs.map fH) (d:=fH r) rfl rfl (by rw [aC];exact lM (by omega))]
  simp [fL]
 refine Cd (n:=0) ?_
 show Ak [.own (fL (rs)), .dat (fH r)]=_
 unfold Ak
 rw [lG ap]
 have e:eO nj (fu je [(gK 0)]) (eC (.int 1)) [.own (fL (rs++[r])), .dat (fH r)]= .ok (.int ((rs.length:Nat):Int)):=by
  simp! only [fL,aA,aY,cH]
  congr 2
  omega
 simp only [Cu,e]
 rfl
end Sb
namespace Sb
open PySem PySem.Spec L2 Evl DL
theorem qX(rs:List Rule)(a b:Option Nat)(hl:rs.length<16700000):jY [fL rs,eZ a,eZ b]= .ok (.tuple [eZ (oW rs a b).2,fL (oW rs a b).1]):=by
 refine Cd (n:=0) ?_
 show QJ [.own (fL rs), .dat (eZ a), .dat (eZ b)]=_
 unfold QJ
 cases a with
 |none=>
  rw [Il (d:= .tuple [eZ b,fL rs])]
  ·rfl
  ·rw [Dt rfl]
   rfl
 |some a=>
  rw [lG (ρ' :=[.own (fL rs), .dat (eZ (some a)), .dat (eZ b)]) (by rw [vU rfl];rfl)]
  cases b with
  |none=>
   rw [Il (d:= .tuple [eZ (some a),fL rs])]
   ·rfl
   ·rw [Dt rfl]
    rfl
  |some b=>
   rw [lG (ρ' :=[.own (fL rs), .dat (eZ (some a)), .dat (eZ (some b))]) (by rw [vU rfl];rfl)]
   have pu:=Yz rs (.join a b) hl
   have ex:jP 0 j6 [(jw [(eC (.str "join")),(d8 1),(d8 2)])] [.own (fL rs), .dat (eZ (some a)), .dat (eZ (some b))]= .ok (.int ((rs.length:Nat):Int)) [.own (fL (rs++[.join a b])), .dat (eZ (some a)), .dat (eZ (some b))]:=by
    have ev:ou [(jw [(eC (.str "join")),(d8 1),(d8 2)])] [.own (fL rs), .dat (eZ (some a)), .dat (eZ (some b))]= .ok [fH (.join a b)]:=by
     simp! only [ou]
     rfl
    simp only [jP,aQ,ev,pu]
    rfl
   simp only [vN,ex]
   rfl
end Sb
namespace Sb
open PySem PySem.Spec L2 Evl DL
theorem Jt(rs:List Rule)(n:Option Nat)(m:Nat)(hl:rs.length<16700000):vJ [fL rs,eZ n, .int (m:Int)]= .ok (.tuple [eZ (overF rs n m).2,fL (overF rs n m).1]):=by
 refine Cd (n:=0) ?_
 show acr [.own (fL rs), .dat (eZ n), .dat (.int (m:Int))]=_
 unfold acr
 cases n with
 |none=>
  rw [Il (d:= .tuple [.none,fL rs])]
  ·rfl
  ·rw [Dt rfl]
   rfl
 |some a=>
  by_cases h0:m=0
  ·subst h0
   rw [Il (d:= .tuple [.none,fL rs])]
   ·rfl
   ·rw [Dt (by simp! only [eZ,uG];rfl)]
    rfl
  ·have h0' :¬(m:Int)=0:=by omega
   rw [lG (ρ' :=[.own (fL rs), .dat (eZ (some a)), .dat (.int (m:Int))]) (by rw [vU (by simp! only [eZ,uG,h0'])];rfl)]
   by_cases h1:m=1
   ·subst h1
    rw [Il (d:= .tuple [eZ (some a),fL rs])]
    ·rfl
    ·rw [Dt (by simp! only [];rfl)]
     rfl
   ·have h1' :¬(m:Int)=1:=by omega
    rw [lG (ρ' :=[.own (fL rs), .dat (eZ (some a)), .dat (.int (m:Int))]) (by rw [vU (by simp! only [h1'])];rfl)]
    have pu:=Yz rs (.times a m) hl
    have ex:jP 0 j6 [(jw [(eC (.str "times")),(d8 1),(d8 2)])] [.own (fL rs), .dat (eZ (some a)), .dat (.int (m:Int))]= .ok (.int ((rs.length:Nat):Int)) [.own (fL (rs++[.times a m])), .dat (eZ (some a)), .dat (.int (m:Int))]:=by
     have ev:ou [(jw [(eC (.str "times")),(d8 1),(d8 2)])] [.own (fL rs), .dat (eZ (some a)), .dat (.int (m:Int))]= .ok [fH (.times a m)]:=by
      simp! only [ou]
      rfl
     simp only [jP,aQ,ev,pu]
     rfl
    simp only [vN,ex]
    simp only [overF,h0,h1,if_false]
    rfl
end Sb
namespace Sb
open PySem PySem.Spec L2 Evl DL
theorem ae5(rs:List Rule)(g:Good rs)(f:Fits MOST rs)(hl:rs.length<16700000)(a b:Option Nat)(ha:gh rs a)(hb:gh rs b)(h:lD rs a+lD rs b≤MOST):wX [eY rs,eZ a,eZ b]= .ok (.tuple [eY (oW rs a b).1,eZ (oW rs a b).2]):=by
 have la:=tO rs g f (by omega) a ha
 have lb:=tO rs g f (by omega) b hb
 have hn:¬(1152921504606846976:Int)<((lD rs a:Nat):Int)+((lD rs b:Nat):Int):=by
  unfold MOST at h
  omega
 have ls:qZ [eY rs]= .ok (fL rs):=rfl
 have li:=qX rs a b hl
 refine jD ?_
 show Rt (Tw [.dat (eY rs), .dat (eZ a), .dat (eZ b), .un, .un]) _
 unfold Tw
 refine fP (ρ' :=[.dat (eY rs), .dat (eZ a), .dat (eZ b), .un, .un]) (by simp! only [la,lb,hn]) ?_
 refine fP (ρ' :=[.dat (eY rs), .dat (eZ a), .dat (eZ b), .own (fL rs), .un]) (by simp! only [ls]) ?_
 have ex:jP 3 jY [(d8 1),(d8 2)] [.dat (eY rs), .dat (eZ a), .dat (eZ b), .own (fL rs), .un]= .ok (eZ (oW rs a b).2) [.dat (eY rs), .dat (eZ a), .dat (eZ b), .own (fL (oW rs a b).1), .un]:=by
  have ev:ou [(d8 1),(d8 2)] [.dat (eY rs), .dat (eZ a), .dat (eZ b), .own (fL rs), .un]= .ok [eZ a,eZ b]:=by simp! only [ou]
  simp only [jP,aQ,aW,ev,li]
  rfl
 refine fP (ρ' :=[.dat (eY rs), .dat (eZ a), .dat (eZ b), .own (fL (oW rs a b).1), .dat (eZ (oW rs a b).2)]) (by
  simp only [oO,ex]
  rfl) ?_
 exact jB (by simp! only [fL];rfl) rfl
end Sb
namespace Sb
open PySem PySem.Spec L2 Evl DL
theorem ajv(rs:List Rule)(f:Fits MOST rs)(n:Option Nat)(m:Nat)(hm:m≤MOST):lN (.int ((lD rs n:Nat):Int)) (.int (m:Int))= .ok (.int ((lD rs n*m:Nat):Int)):=by
 have h1:=ado f n
 have mm:MOST<10 ^ 300:=by decide
 rw [pD (by omega) (by omega) (by omega) (by omega)]
 simp
theorem aaI(rs:List Rule)(g:Good rs)(f:Fits MOST rs)(hl:rs.length<16700000)(n:Option Nat)(hn:gh rs n)(m:Nat)(hm:m≤MOST)(h:lD rs n*m≤MOST):Jb [eY rs,eZ n, .int (m:Int)]= .ok (.tuple [eY (overF rs n m).1,eZ (overF rs n m).2]):=by
 have la:=tO rs g f (by omega) n hn
 have mu:=ajv rs f n m hm
 have hx:¬(1152921504606846976:Int)<((lD rs n*m:Nat):Int):=by
  unfold MOST at h
  omega
 have ls:qZ [eY rs]= .ok (fL rs):=rfl
 have li:=Jt rs n m hl
 refine jD ?_
 show Rt (Ir [.dat (eY rs), .dat (eZ n), .dat (.int (m:Int)), .un, .un]) _
 unfold Ir
 refine fP (ρ' :=[.dat (eY rs), .dat (eZ n), .dat (.int (m:Int)), .un, .un]) (by simp! only [la,mu,hx]) ?_
 refine fP (ρ' :=[.dat (eY rs), .dat (eZ n), .dat (.int (m:Int)), .own (fL rs), .un]) (by simp! only [ls]) ?_
 have ex:jP 3 vJ [(d8 1),(d8 2)] [.dat (eY rs), .dat (eZ n), .dat (.int (m:Int)), .own (fL rs), .un]= .ok (eZ (overF rs n m).2) [.dat (eY rs), .dat (eZ n), .dat (.int (m:Int)), .own (fL (overF rs n m).1), .un]:=by
  have ev:ou [(d8 1),(d8 2)] [.dat (eY rs), .dat (eZ n), .dat (.int (m:Int)), .own (fL rs), .un]= .ok [eZ n, .int (m:Int)]:=by simp! only [ou]
  simp only [jP,aQ,aW,ev,li]
  rfl
 refine fP (ρ' :=[.dat (eY rs), .dat (eZ n), .dat (.int (m:Int)), .own (fL (overF rs n m).1), .dat (eZ (overF rs n m).2)]) (by
  simp only [oO,ex]
  rfl) ?_
 exact jB (by simp! only [fL];rfl) rfl
end Sb
namespace Sb
open PySem PySem.Spec L2 Evl DL
end Sb
namespace Sb
open PySem PySem.Spec L2 Evl DL
end Sb
namespace Sb
open PySem PySem.Spec L2 Evl DL
theorem R9(rs os:List Rule)(go:Good os)(hl:rs.length+os.length≤16700000)(n:Option Nat)(hn:gh os n):Aa [eY rs,eY os,eZ n]= .ok (.tuple [eY (rs++bring rs os),eZ (pG rs n)]):=by
 obtain⟨O,hO⟩:∃O,O=eY os:=⟨_,rfl⟩
 have lo:je [O]= .ok (.int ((os.length:Nat):Int)):=by rw [hO];exact uV os
 have nm:=Xg os n hn
 rw [←hO] at nm⊢
 obtain⟨N,hN⟩:∃N,N=fB ((di os.length).map fun i=>rs.length+i):=⟨_,rfl⟩
 have ixN:∀a,a<os.length→Mw N (.int (a:Int))= .ok (.int ((rs.length+a:Nat):Int)):=fun a ha=>by
  rw [hN,ae2,gY (by simpa using ha)]
  simp [bF,ha]
 have lc:X3 (Vh (fu je [(d8 1)])) (gN 7) (eC (.bool true)) (eO iH (d8 3) (d8 7)) [7] [.dat (eY rs), .dat (O), .dat (eZ n), .dat (.int ((rs.length:Nat):Int)), .un, .un, .un, .un]= .ok N:=by
  rw [hN]
  unfold fB
  rw [cD]
  refine acN (fun(i:Nat)=> .int (i:Int)) _ ?_ ?_ (by simp only [dJ];exact Cv (by omega))
  ·rw [←Dy]
   exact aae (by simp! only [lo]) (by omega) (by omega)
  ·intro k hk
   refine⟨_,rfl,rfl,?_⟩
   simp! only [xJ]
   rfl
 have ls:qZ [eY rs]= .ok (.list ((rs++bring rs (os.take 0)).map fH)):=by simp [bring,eY]
 refine jD ?_
 show Rt (Mh [.dat (eY rs), .dat (O), .dat (eZ n), .un, .un, .un, .un, .un]) _
 unfold Mh
 refine fP (ρ' :=[.dat (eY rs), .dat (O), .dat (eZ n), .un, .un, .un, .un, .un]) (by simp! only [nm]) ?_
 refine fP (ρ' :=[.dat (eY rs), .dat (O), .dat (eZ n), .dat (.int ((rs.length:Nat):Int)), .un, .un, .un, .un]) (by simp! only [uV]) ?_
 refine fP (ρ' :=[.dat (eY rs), .dat (O), .dat (eZ n), .dat (.int ((rs.length:Nat):Int)), .dat (N), .un, .un, .un]) (by simp! only [lc]) ?_
 refine fP (ρ' :=[.dat (eY rs), .dat (O), .dat (eZ n), .dat (.int ((rs.length:Nat):Int)), .dat (N), .own (.list ((rs++bring rs (os.take 0)).map fH)), .un, .un]) (by simp! only [ls]) ?_
 refine mZ (N:=fun ρ=>∃k6:Sl,ρ=[.dat (eY rs), .dat (O), .dat (eZ n), .dat (.int ((rs.length:Nat):Int)), .dat (N), .own (.list ((rs++bring rs os).map fH)),k6, .un]) ?_ ?_
 ·have h:=nY (mi:=iT (d8 1)) (g:=gN 6) (body:=mW 5 (fu nR [(d8 6),(d8 4)])) (ρ:=[.dat (eY rs), .dat (O), .dat (eZ n), .dat (.int ((rs.length:Nat):Int)), .dat (N), .own (.list ((rs++bring rs (os.take 0)).map fH)), .un, .un]) (ds:=os.map fH)
   (fun i ρ=>∃k6:Sl,ρ=[.dat (eY rs), .dat (O), .dat (eZ n), .dat (.int ((rs.length:Nat):Int)), .dat (N), .own (.list ((rs++bring rs (os.take i)).map fH)),k6, .un])
   (al0 (by simp only [jM,jZ,hO,eY])) ⟨_,rfl⟩ (by
    rintro i d ρ hd ⟨k6,rfl⟩
    rw [aK,aP] at hd
    obtain⟨r,h1,rfl⟩:=hd
    have hi:=(au.mp h1).1
    have et:os.take (i+1)=os.take i++[r]:=by
     rw [bH,h1]
     rfl
    have ok:=go i r h1
    have re:=IV r i ok (rs.length+·) N fun a ha=>ixN a (by have:=uf ok a ha;omega)
    refine⟨_,pP,jT (ρ' :=[.dat (eY rs), .dat (O), .dat (eZ n), .dat (.int ((rs.length:Nat):Int)), .dat (N), .own (.list ((rs++bring rs (os.take (i+1))).map fH)), .dat (fH r), .un]) ?_ ⟨_,rfl⟩⟩
    rw [app_ok (ds:=(rs++bring rs (os.take i)).map fH) (d:=fH (r.qF (rs.length+·))) rfl (by simp! only [re]) (by
     simp only [aC,aA,bring,aZ]
     exact lM (by omega)),et]
    simp [bring])
  rw [aC,bV] at h
  exact h
 ·rintro ρ ⟨k6,rfl⟩
  cases n with
  |none=>exact oK (Hg (by simp! only [eZ]) (jB (by simp! only [];rfl) rfl))
  |some k=>
   refine fP (ρ' :=[.dat (eY rs), .dat (O), .dat (eZ (some k)), .dat (.int ((rs.length:Nat):Int)), .dat (N), .own (.list ((rs++bring rs os).map fH)),k6, .un]) (by simp! only [eZ]) ?_
   refine jB (by simp! only [eZ];rfl) ?_
   simp [pG,eZ,eY]
end Sb
namespace Sb
open PySem PySem.Spec L2 Evl DL
theorem Y5(rs q0:List Rule)(gr:Good rs)(fr:Fits MOST rs)(g:Good (rs++q0))(f:Fits MOST (rs++q0))(hl:rs.length+q0.length≤2000000)(hl0:rs.length≤200000)(k0:Nat)(hk0:k0<rs.length)(m0:Nat)(hm0:m0≤(sizes rs).getD k0 0):
 ∃qs n,kY [fL (rs++q0),fB (sizes rs), .int (k0:Int), .int (m0:Int)]= .ok (.tuple [eZ n,fL (rs++qs)])∧Good (rs++qs)∧Fits MOST (rs++qs)∧(∃xs,qs=q0++xs∧xs.length≤2*k0∧tN xs≤k0∧zH xs≤(sizes rs).getD k0 0)∧gh (rs++qs) n∧iG (rs++qs) n=((texts rs).getD k0 []).take m0:=by
 obtain⟨T,hT⟩:∃T,T=((texts rs).getD k0 []).take m0:=⟨_,rfl⟩
 rw [←hT]
 have mo:=fr.get k0
 have Tl:T.length=m0:=by
  rw [hT]
  rw [aZ,gU]
  omega
 have mm:MOST<10 ^ 300:=by decide
 have ixs:∀a:Nat,a<rs.length→fV (fB (sizes rs)) (.int (a:Int))= .ok (.int (((sizes rs).getD a 0:Nat):Int)):=fun a h=>gY (by rw [jA];exact h)
 have ixr:∀(qs:List Rule) (a:Nat) (r:Rule),rs[a]? =some r→fV (fL (rs++qs)) (.int (a:Int))= .ok (fH r):=fun qs a r h=>by
  have ha:=(au.mp h).1
  have e:((rs++qs).map fH)[a]? =some (fH r):=by rw [aK,aO ha,h];rfl
  unfold fL
  rw [pH (by omega) (by simp;omega),cY,bF,e]
  rfl
 have body:Rt (oH [.own (fL (rs++q0)), .dat (fB (sizes rs)), .dat (.int (k0:Int)), .dat (.int (m0:Int)), .un, .un, .un, .un, .un]) (fun d=>∃qs n,d= .tuple [eZ n,fL (rs++qs)]∧Good (rs++qs)∧Fits MOST (rs++qs)∧(∃xs,qs=q0++xs∧xs.length≤2*k0∧tN xs≤k0∧zH xs≤(sizes rs).getD k0 0)∧gh (rs++qs) n∧iG (rs++qs) n=T):=by
  unfold oH
  refine fP (ρ' :=[.own (fL (rs++q0)), .dat (fB (sizes rs)), .dat (.int (k0:Int)), .dat (.int (m0:Int)), .own (.list (([]:List (Option Nat)).map eZ)), .un, .un, .un, .un]) (by simp! only [];rfl) ?_
  refine mZ (pO (N:=fun ρ=>∃(k m:Nat) (xs:List Rule) (ps:List (Option Nat)) (k7 k8:Sl),ρ=[.own (fL (rs++(q0++xs))), .dat (fB (sizes rs)), .dat (.int (k:Int)), .dat (.int (m:Int)), .own (.list (ps.map eZ)), .un, .un,k7,k8]∧Good (rs++(q0++xs))∧Fits MOST (rs++(q0++xs))∧k<rs.length∧(m=0∨m=(sizes rs).getD k 0)∧(∀p∈ps,gh (rs++(q0++xs)) p)∧cat (rs++(q0++xs)) ps++((texts rs).getD k []).take m=T∧xs.length+k≤k0∧ps.length+k≤k0∧zH xs*(sizes rs).getD k 0≤(sizes rs).getD k0 0)
   (fun k ρ=>∃(m:Nat) (xs:List Rule) (ps:List (Option Nat)) (k7 k8:Sl),ρ=[.own (fL (rs++(q0++xs))), .dat (fB (sizes rs)), .dat (.int (k:Int)), .dat (.int (m:Int)), .own (.list (ps.map eZ)), .un, .un,k7,k8]∧Good (rs++(q0++xs))∧Fits MOST (rs++(q0++xs))∧k<rs.length∧m≤(sizes rs).getD k 0∧(∀p∈ps,gh (rs++(q0++xs)) p)∧cat (rs++(q0++xs)) ps++((texts rs).getD k []).take m=T∧xs.length+k≤k0∧ps.length+k≤k0∧zH xs*(sizes rs).getD k 0≤(sizes rs).getD k0 0) k0 (by omega)
   ⟨m0,[],[], .un, .un,by simp only [aJ],by rw [aJ];exact g,by rw [aJ];exact f,hk0,hm0,(fun p hp=>absurd hp bG),(by simp [cat,hT]),(by simp),(by simp),(by simp [zH])⟩ ?_) ?_
  ·rintro k ρ ⟨m,xs,ps,k7,k8,rfl,g1,f1,hk,hm,hps,inv,c1,c2,c3⟩
   have ixk:=ixs k hk
   by_cases hc:0<m∧m<(sizes rs).getD k 0
   ·right
    have hr:rs[k]? =some rs[k]:=by simp [hk]
    obtain⟨r,er⟩:∃r,r=rs[k]:=⟨_,rfl⟩
    rw [←er] at hr
    have ix:=ixr (q0++xs) k r hr
    have ok:=gr k r hr
    have tx:=rY gr hr
    have sz:=rG gr hr
    have kb:=fr.get k
    have ql:(rs++(q0++xs)).length<16700000:=by simp;omega
    refine⟨by simp! only [ji,ixk,show(0:Int)<(m:Int) by omega,show(m:Int)<(((sizes rs).getD k 0:Nat):Int) by omega],?_⟩
    cases r with
    |sign s=>
     exfalso
     rw [sz] at hc
     simp only [Rule.size] at hc
     omega
    |times a c=>
     have ha:a<rs.length:=by have:=ok.1;omega
     have ixa:=ixs a ha
     have ap:=Pos.get gr ha
     have az:=fr.get a
     simp only [Rule.size] at sz
     simp only [Rule.tx] at tx
     have tl:((texts rs).getD a []).length=(sizes rs).getD a 0:=gU rs a
     obtain⟨z,hz⟩:∃z,z=(sizes rs).getD a 0:=⟨_,rfl⟩
     rw [←hz] at ixa ap az sz tl
     obtain⟨w,hw⟩:∃w,w=m/z:=⟨_,rfl⟩
     obtain⟨y,hy⟩:∃y,y=m%z:=⟨_,rfl⟩
     have dv:=Nat.div_add_mod m z
     have y2:m%z<z:=Nat.mod_lt _ ap
     have w2:m/z≤m:=Nat.div_le_self _ _
     rw [←hw,←hy] at dv
     rw [←hy] at y2
     rw [←hw] at w2
     have dd:lX (.int (m:Int)) (.int (z:Int))= .ok (.int (w:Int)):=by
      rw [o9 (by omega) (by omega),hw]
      simp
     have dm:jJ (.int (m:Int)) (.int (z:Int))= .ok (.int (y:Int)):=by
      rw [jo (by omega),hy]
      simp
     have na:gh (rs++(q0++xs)) (some a):=gh.some (by simp;omega)
     have la:lD (rs++(q0++xs)) (some a)=z:=by
      show(sizes (rs++(q0++xs))).getD a 0=z
      rw [uM ha,hz]
     have ta:iG (rs++(q0++xs)) (some a)=(texts rs).getD a []:=jg ha _
     have ov:=Jt (rs++(q0++xs)) (some a) w ql
     obtain⟨o1,o2,o3,o4,o5,o6,o7⟩:=Kz (m:=w) g1 f1 na (by omega) (by rw [la];omega)
     obtain⟨N,hN⟩:∃N,N=(overF (rs++(q0++xs)) (some a) w).2:=⟨_,rfl⟩
     rw [o3] at ov
     rw [←hN] at ov o6 o7
     rw [ta] at o7
     have eo:rs++(q0++xs)++o1=rs++(q0++(xs++o1)):=by simp
     rw [eo] at ov o4 o5 o6 o7
     have ex:jP 0 vJ [(eO fV (d8 7) (eC (.int 1))),(eO lX (d8 3) (d8 8))] [.own (fL (rs++(q0++xs))), .dat (fB (sizes rs)), .dat (.int (k:Int)), .dat (.int (m:Int)), .own (.list (ps.map eZ)), .un, .un, .dat (fH (.times a c)), .dat (.int (z:Int))]= .ok (eZ N) [.own (fL (rs++(q0++(xs++o1)))), .dat (fB (sizes rs)), .dat (.int (k:Int)), .dat (.int (m:Int)), .own (.list (ps.map eZ)), .un, .un, .dat (fH (.times a c)), .dat (.int (z:Int))]:=by
      have ev:ou [(eO fV (d8 7) (eC (.int 1))),(eO lX (d8 3) (d8 8))] [.own (fL (rs++(q0++xs))), .dat (fB (sizes rs)), .dat (.int (k:Int)), .dat (.int (m:Int)), .own (.list (ps.map eZ)), .un, .un, .dat (fH (.times a c)), .dat (.int (z:Int))]= .ok [eZ (some a), .int (w:Int)]:=by
       simp! only [ou,fH,gR,dd]
       rfl
      simp only [jP,aQ,ev,ov]
      rfl
     refine⟨a,ok.1,?_⟩
     refine iD (ρ' :=[.own (fL (rs++(q0++xs))), .dat (fB (sizes rs)), .dat (.int (k:Int)), .dat (.int (m:Int)), .own (.list (ps.map eZ)), .un, .un, .dat (fH (.times a c)),k8]) (by simp! only [ix]) ?_
     refine iD (ρ' :=[.own (fL (rs++(q0++xs))), .dat (fB (sizes rs)), .dat (.int (k:Int)), .dat (.int (m:Int)), .own (.list (ps.map eZ)), .un, .un, .dat (fH (.times a c)), .dat (.int (z:Int))]) (by simp! only [fH,gR,ixa]) ?_
     refine Vk (by simp! only [fH,gG]) ?_
     refine iD (ρ' :=[.own (fL (rs++(q0++(xs++o1)))), .dat (fB (sizes rs)), .dat (.int (k:Int)), .dat (.int (m:Int)), .own (.list ((ps++[N]).map eZ)), .un, .un, .dat (fH (.times a c)), .dat (.int (z:Int))]) (by
      simp only [V4,aW,aQ,ex,aC,show ps.length<sizeLine from lM (by omega),if_true,set_0,kW]
      simp) ?_
     refine iD (ρ' :=[.own (fL (rs++(q0++(xs++o1)))), .dat (fB (sizes rs)), .dat (.int (k:Int)), .dat (.int (y:Int)), .own (.list ((ps++[N]).map eZ)), .un, .un, .dat (fH (.times a c)), .dat (.int (z:Int))]) (by simp! only [fH,gR,dm]) ?_
     refine jT (ρ' :=[.own (fL (rs++(q0++(xs++o1)))), .dat (fB (sizes rs)), .dat (.int (a:Int)), .dat (.int (y:Int)), .own (.list ((ps++[N]).map eZ)), .un, .un, .dat (fH (.times a c)), .dat (.int (z:Int))]) (by simp! only [fH,gR]) ⟨y,xs++o1,ps++[N],_,_,rfl,o4,o5,ha,by omega,fun p hp=> ?_,?_,by simp;have:=ok.1;omega,by simp;have:=ok.1;omega,(by
      rw [←hz,nH]
      have w3:w≤c:=by rw [hw];exact Nat.div_le_of_le_mul (by have:=hc.2;omega)
      have w4:=Mz o3
      have w5:=ok.2.1
      exact abl (c:=c) (by rw [←sz];exact c3) (by omega))⟩
     ·rcases aM.mp hp with h|h
      ·rw [←eo]
       exact(hps p h).app _
      ·have:p=N:=by simpa using h
       rw [this]
       exact o6
     ·have e1:=RL ((texts rs).getD a []) (by rw [tl];exact ap) c m (by rw [tl,bU,←sz];exact hc.2)
      rw [tl,←hw,←hy] at e1
      rw [←inv,tx,e1,QK,o7,←eo,ad9 hps,aG]
    |join a b=>
     have ha:a<rs.length:=by have:=ok.1;omega
     have hb:b<rs.length:=by have:=ok.2;omega
     have ixa:=ixs a ha
     simp only [Rule.size] at sz
     simp only [Rule.tx] at tx
     have ta:((texts rs).getD a []).length=(sizes rs).getD a 0:=gU rs a
     by_cases h:m<(sizes rs).getD a 0
     ·refine⟨a,ok.1,?_⟩
      refine iD (ρ' :=[.own (fL (rs++(q0++xs))), .dat (fB (sizes rs)), .dat (.int (k:Int)), .dat (.int (m:Int)), .own (.list (ps.map eZ)), .un, .un, .dat (fH (.join a b)),k8]) (by simp! only [ix]) ?_
      refine iD (ρ' :=[.own (fL (rs++(q0++xs))), .dat (fB (sizes rs)), .dat (.int (k:Int)), .dat (.int (m:Int)), .own (.list (ps.map eZ)), .un, .un, .dat (fH (.join a b)), .dat (.int (((sizes rs).getD a 0:Nat):Int))]) (by simp! only [fH,gR,ixa]) ?_
      refine IK (by simp! only [fH,gG,jt]) (Vk (by simp! only [show(m:Int)<(((sizes rs).getD a 0:Nat):Int) by omega]) ?_)
      refine jT (ρ' :=[.own (fL (rs++(q0++xs))), .dat (fB (sizes rs)), .dat (.int (a:Int)), .dat (.int (m:Int)), .own (.list (ps.map eZ)), .un, .un, .dat (fH (.join a b)), .dat (.int (((sizes rs).getD a 0:Nat):Int))]) (by simp! only [fH,gR]) ⟨m,xs,ps,_,_,rfl,g1,f1,ha,by omega,hps,?_,by have:=ok.1;omega,by have:=ok.1;omega,cQ (Nat.mul_le_mul_left _ (by omega)) c3⟩
      rw [←inv,tx,cM (by omega)]
     ·refine⟨b,ok.2,?_⟩
      have es:(m:Int)-(((sizes rs).getD a 0:Nat):Int)=((m-(sizes rs).getD a 0:Nat):Int):=by omega
      refine iD (ρ' :=[.own (fL (rs++(q0++xs))), .dat (fB (sizes rs)), .dat (.int (k:Int)), .dat (.int (m:Int)), .own (.list (ps.map eZ)), .un, .un, .dat (fH (.join a b)),k8]) (by simp! only [ix]) ?_
      refine iD (ρ' :=[.own (fL (rs++(q0++xs))), .dat (fB (sizes rs)), .dat (.int (k:Int)), .dat (.int (m:Int)), .own (.list (ps.map eZ)), .un, .un, .dat (fH (.join a b)), .dat (.int (((sizes rs).getD a 0:Nat):Int))]) (by simp! only [fH,gR,ixa]) ?_
      refine IK (by simp! only [fH,gG,jt]) (IK (by simp! only [show¬(m:Int)<(((sizes rs).getD a 0:Nat):Int) by omega]) ?_)
      refine iD (ρ' :=[.own (fL (rs++(q0++xs))), .dat (fB (sizes rs)), .dat (.int (k:Int)), .dat (.int (m:Int)), .own (.list ((ps++[some a]).map eZ)), .un, .un, .dat (fH (.join a b)), .dat (.int (((sizes rs).getD a 0:Nat):Int))]) (by
       rw [app_ok (ds:=ps.map eZ) (d:=eZ (some a)) rfl (by simp! only [fH,gR,eZ]) (by rw [aC];exact lM (by omega))]
       simp) ?_
      refine iD (ρ' :=[.own (fL (rs++(q0++xs))), .dat (fB (sizes rs)), .dat (.int (k:Int)), .dat (.int ((m-(sizes rs).getD a 0:Nat):Int)), .own (.list ((ps++[some a]).map eZ)), .un, .un, .dat (fH (.join a b)), .dat (.int (((sizes rs).getD a 0:Nat):Int))]) (by simp! only [es]) ?_
      refine jT (ρ' :=[.own (fL (rs++(q0++xs))), .dat (fB (sizes rs)), .dat (.int (b:Int)), .dat (.int ((m-(sizes rs).getD a 0:Nat):Int)), .own (.list ((ps++[some a]).map eZ)), .un, .un, .dat (fH (.join a b)), .dat (.int (((sizes rs).getD a 0:Nat):Int))]) (by simp! only [fH,lH]) ⟨m-(sizes rs).getD a 0,xs,ps++[some a],_,_,rfl,g1,f1,hb,by omega,fun p hp=> ?_,?_,by have:=ok.2;omega,by simp;have:=ok.2;omega,cQ (Nat.mul_le_mul_left _ (by omega)) c3⟩
      ·rcases aM.mp hp with h2|h2
       ·exact hps p h2
       ·have:p=some a:=by simpa using h2
        rw [this]
        exact gh.some (by simp;omega)
      ·have e2:iG (rs++(q0++xs)) (some a)=(texts rs).getD a []:=jg ha _
       have e3:((texts rs).getD a []).take m=(texts rs).getD a []:=bO (by omega)
       rw [←inv,tx,List.take_append,e3,ta,QK,e2,aG]
   ·left
    refine⟨?_,k,m,xs,ps,k7,k8,rfl,g1,f1,hk,by omega,hps,inv,c1,c2,c3⟩
    by_cases h0:0<m
    ·simp! only [ji,ixk,show(0:Int)<(m:Int) by omega,show¬(m:Int)<(((sizes rs).getD k 0:Nat):Int) by omega]
    ·simp! only [ji,show¬(0:Int)<(m:Int) by omega]
  rintro ρ ⟨k,m,xs,ps,k7,k8,rfl,g1,f1,hk,hm,hps,inv,c1,c2,c3⟩
  refine fP (ρ' :=[.own (fL (rs++(q0++xs))), .dat (fB (sizes rs)), .dat (.int (k:Int)), .dat (.int (m:Int)), .own (.list (ps.map eZ)), .dat (.none), .un,k7,k8]) (by simp! only []) ?_
  obtain⟨F,hF⟩:∃F:Option Nat,F=if 0<m then some k else none:=⟨_,rfl⟩
  refine fP (ρ' :=[.own (fL (rs++(q0++xs))), .dat (fB (sizes rs)), .dat (.int (k:Int)), .dat (.int (m:Int)), .own (.list (ps.map eZ)), .dat (eZ F), .un,k7,k8]) (by
   by_cases h0:0<m
   ·simp! only [show(0:Int)<(m:Int) by omega,hF,h0,if_true]
    rfl
   ·simp! only [show¬(0:Int)<(m:Int) by omega,hF,h0,if_false]
    rfl) ?_
  have nF:gh (rs++(q0++xs)) F:=by
   rw [hF]
   split
   ·exact gh.some (by simp;omega)
   ·exact gh.none
  have tF:iG (rs++(q0++xs)) F=((texts rs).getD k []).take m:=by
   rw [hF]
   rcases hm with h|h
   ·subst h
    simp [iG]
   ·have kp:=Pos.get gr hk
    simp only [show 0<m by omega,if_true]
    show(texts (rs++(q0++xs))).getD k []=_
    rw [jg hk,h,←gU]
    exact(bV).symm
  rw [←tF] at inv
  refine mZ (N:=fun ρ=>∃(ys:List Rule) (Z:Option Nat) (k6:Sl),ρ=[.own (fL (rs++(q0++xs++ys))), .dat (fB (sizes rs)), .dat (.int (k:Int)), .dat (.int (m:Int)), .dat (.list (ps.map eZ)), .dat (eZ Z),k6,k7,k8]∧Good (rs++(q0++xs++ys))∧Fits MOST (rs++(q0++xs++ys))∧(ys.length≤ps.length∧tN ys=0)∧gh (rs++(q0++xs++ys)) Z∧iG (rs++(q0++xs++ys)) Z=T) ?_ ?_
  ·show Nx (mV (iRv (d8 4)) (gN 6) (oO 5 (jP 0 jY [(d8 6),(d8 5)])) [.own (fL (rs++(q0++xs))), .dat (fB (sizes rs)), .dat (.int (k:Int)), .dat (.int (m:Int)), .dat (.list (ps.map eZ)), .dat (eZ F), .un,k7,k8]) _
   have h:=nY (mi:=iRv (d8 4)) (g:=gN 6) (body:=oO 5 (jP 0 jY [(d8 6),(d8 5)])) (ρ:=[.own (fL (rs++(q0++xs))), .dat (fB (sizes rs)), .dat (.int (k:Int)), .dat (.int (m:Int)), .dat (.list (ps.map eZ)), .dat (eZ F), .un,k7,k8]) (ds:=(ps.map eZ).reverse)
    (fun i ρ=>∃(ys:List Rule) (Z:Option Nat) (k6:Sl),ρ=[.own (fL (rs++(q0++xs++ys))), .dat (fB (sizes rs)), .dat (.int (k:Int)), .dat (.int (m:Int)), .dat (.list (ps.map eZ)), .dat (eZ Z),k6,k7,k8]∧Good (rs++(q0++xs++ys))∧Fits MOST (rs++(q0++xs++ys))∧(ys.length≤i∧tN ys=0)∧gh (rs++(q0++xs++ys)) Z∧iG (rs++(q0++xs++ys)) Z=cat (rs++(q0++xs)) (ps.reverse.take i).reverse++iG (rs++(q0++xs)) F)
    (by simp! only [iRv]) ⟨[],F,_,by rw [aJ],by rw [aJ];exact g1,by rw [aJ];exact f1,⟨by simp,rfl⟩,by rw [aJ];exact nF,by rw [aJ];simp [cat]⟩ (by
     rintro i d ρ hd ⟨ys,Z,k6,rfl,g2,f2,⟨yl,yt⟩,nZ,tZ⟩
     rw [←List.map_reverse,aK,aP] at hd
     obtain⟨p,h1,rfl⟩:=hd
     have hi:=(au.mp h1).1
     rw [bR] at hi
     have pm:p∈ps:=by
      have:=bf h1
      simpa using this
     have np:gh (rs++(q0++xs)) p:=hps p pm
     have np2:gh (rs++(q0++xs++ys)) p:=by
      rw [←aG]
      exact np.app _
     have tp:iG (rs++(q0++xs++ys)) p=iG (rs++(q0++xs)) p:=by
      rw [←aG]
      exact tH np _
     have hstep:(ps.reverse.take (i+1))=ps.reverse.take i++[p]:=by
      rw [bH,h1]
      rfl
     have ql:(rs++(q0++xs++ys)).length<16700000:=by simp;omega
     have big:(iG (rs++(q0++xs)) p).length+(iG (rs++(q0++xs++ys)) Z).length≤MOST:=by
      rw [tZ]
      have e:ps.reverse=ps.reverse.take (i+1)++ps.reverse.drop (i+1):=(bM _ _).symm
      have e2:ps=(ps.reverse.drop (i+1)).reverse++(ps.reverse.take (i+1)).reverse:=by rw [←bZ,←e,List.reverse_reverse]
      have el:T.length=(cat (rs++(q0++xs)) ((ps.reverse.drop (i+1)).reverse++(ps.reverse.take (i+1)).reverse)++iG (rs++(q0++xs)) F).length:=by rw [←e2,inv]
      rw [hstep,bZ,List.reverse_singleton] at el
      simp only [cat,cC,dO,aA,bA,cZ,dw,List.flatten_nil,cH] at el⊢
      omega
     have lk:=qX (rs++(q0++xs++ys)) p Z ql
     obtain⟨o1,o2,o3,o4,o5,o6,o7⟩:=zQ (rs:=rs++(q0++xs++ys)) g2 f2 (a:=p) (b:=Z) np2 nZ (by rw [←oF,←oF,tp];omega)
     rw [o3] at lk
     have eo:rs++(q0++xs++ys)++o1=rs++(q0++xs++(ys++o1)):=by simp
     rw [eo] at lk o4 o5 o6 o7
     obtain⟨N,hN⟩:∃N,N=(oW (rs++(q0++xs++ys)) p Z).2:=⟨_,rfl⟩
     rw [←hN] at lk o6 o7
     refine⟨_,pP,jT (ρ' :=[.own (fL (rs++(q0++xs++(ys++o1)))), .dat (fB (sizes rs)), .dat (.int (k:Int)), .dat (.int (m:Int)), .dat (.list (ps.map eZ)), .dat (eZ N), .dat (eZ p),k7,k8]) ?_ ⟨ys++o1,N,_,rfl,o4,o5,⟨by simp;omega,by rw [Io,yt,Ea o3]⟩,o6,?_⟩⟩
     ·have ex:jP 0 jY [(d8 6),(d8 5)] [.own (fL (rs++(q0++xs++ys))), .dat (fB (sizes rs)), .dat (.int (k:Int)), .dat (.int (m:Int)), .dat (.list (ps.map eZ)), .dat (eZ Z), .dat (eZ p),k7,k8]= .ok (eZ N) [.own (fL (rs++(q0++xs++(ys++o1)))), .dat (fB (sizes rs)), .dat (.int (k:Int)), .dat (.int (m:Int)), .dat (.list (ps.map eZ)), .dat (eZ Z), .dat (eZ p),k7,k8]:=by
       have ev:ou [(d8 6),(d8 5)] [.own (fL (rs++(q0++xs++ys))), .dat (fB (sizes rs)), .dat (.int (k:Int)), .dat (.int (m:Int)), .dat (.list (ps.map eZ)), .dat (eZ Z), .dat (eZ p),k7,k8]= .ok [eZ p,eZ Z]:=by simp! only [ou]
       simp only [jP,aQ,ev,lk,set_0]
      simp only [set_0,kW,oO,ex]
     ·rw [o7,tp,tZ,hstep]
      rw [bZ,List.reverse_singleton,List.singleton_append,Tp,aG])
   rw [bR,aC] at h
   have fin:cat (rs++(q0++xs)) (ps.reverse.take ps.length).reverse++iG (rs++(q0++xs)) F=T:=by
    rw [←inv,bO (by simp)]
    rw [List.reverse_reverse]
   rw [fin] at h
   exact h
  rintro ρ ⟨ys,Z,k6,rfl,g2,f2,⟨yl,yt⟩,nZ,tZ⟩
  refine⟨.tuple [eZ Z,fL (rs++(q0++xs++ys))],rfl,q0++xs++ys,Z,rfl,g2,f2,⟨xs++ys,by simp,by simp;omega,by rw [Io,yt];have:=Jc xs;omega,by rw [nH,Fw yt,Nat.mul_one];exact cQ (Nat.le_mul_of_pos_right _ (Pos.get gr hk)) c3⟩,nZ,tZ⟩
 obtain⟨d,e,qs,n,rfl,h⟩:=body
 exact⟨qs,n,Cd (n:=5) e,h⟩
theorem Sd(R:D)(sz:List Nat)(k0:Nat)(hk0:k0<sz.length)(m0:Nat)(hm:m0=0∨m0=sz.getD k0 0):
 kY [R,fB sz, .int (k0:Int), .int (m0:Int)]= .ok (.tuple [eZ (if m0=0 then none else some k0),R]):=by
 have ix:=gY (ns:=sz) (a:=k0) hk0
 have run:Rt (oH [.own (R), .dat (fB sz), .dat (.int (k0:Int)), .dat (.int (m0:Int)), .un, .un, .un, .un, .un]) (·= .tuple [eZ (if m0=0 then none else some k0),R]):=by
  unfold oH
  refine fP (ρ' :=[.own (R), .dat (fB sz), .dat (.int (k0:Int)), .dat (.int (m0:Int)), .own (.list []), .un, .un, .un, .un]) (by simp! only []) ?_
  refine mZ (pO (N:=fun ρ=>ρ=[.own (R), .dat (fB sz), .dat (.int (k0:Int)), .dat (.int (m0:Int)), .own (.list []), .un, .un, .un, .un]) (fun k ρ=>ρ=[.own (R), .dat (fB sz), .dat (.int (k0:Int)), .dat (.int (m0:Int)), .own (.list []), .un, .un, .un, .un]) 0 (by omega) rfl ?_) ?_
  ·rintro k ρ rfl
   left
   refine⟨?_,rfl⟩
   rcases hm with rfl|hm
   ·simp! only [ji,ix,show¬(0:Int)<((0:Nat):Int) by omega]
   ·by_cases z:(0:Int)<(m0:Int)
    ·simp! only [ji,ix,z,show¬(m0:Int)<((sz.getD k0 0:Nat):Int) by omega]
    ·simp! only [ji,ix,z]
  rintro ρ rfl
  refine fP (ρ' :=[.own (R), .dat (fB sz), .dat (.int (k0:Int)), .dat (.int (m0:Int)), .own (.list []), .dat (.none), .un, .un, .un]) (by simp! only []) ?_
  by_cases z:m0=0
  ·subst z
   refine fP (ρ' :=[.own (R), .dat (fB sz), .dat (.int (k0:Int)), .dat (.int ((0:Nat):Int)), .own (.list []), .dat (.none), .un, .un, .un]) (by simp! only [show¬((0:Nat):Int)>0 by omega]) ?_
   refine fP (ρ' :=[.own (R), .dat (fB sz), .dat (.int (k0:Int)), .dat (.int ((0:Nat):Int)), .dat (.list []), .dat (.none), .un, .un, .un]) rfl ?_
   exact⟨_,rfl,rfl⟩
  ·refine fP (ρ' :=[.own (R), .dat (fB sz), .dat (.int (k0:Int)), .dat (.int (m0:Int)), .own (.list []), .dat (.int (k0:Int)), .un, .un, .un]) (by simp! only [show(m0:Int)>0 by omega]) ?_
   refine fP (ρ' :=[.own (R), .dat (fB sz), .dat (.int (k0:Int)), .dat (.int (m0:Int)), .dat (.list []), .dat (.int (k0:Int)), .un, .un, .un]) rfl ?_
   exact⟨_,rfl,by rw [if_neg z];rfl⟩
 obtain⟨d,h1,rfl⟩:=run
 exact Cd (n:=5) h1
theorem Hi(rs q0:List Rule)(gr:Good rs)(fr:Fits MOST rs)(g:Good (rs++q0))(f:Fits MOST (rs++q0))(hl:rs.length+q0.length≤2000000)(hl0:rs.length≤200000)(k0:Nat)(hk0:k0<rs.length)(m0:Nat)(hm0:m0≤(sizes rs).getD k0 0):
 ∃qs n,kY [fL (rs++q0),fB (sizes rs), .int (k0:Int), .int (m0:Int)]= .ok (.tuple [eZ n,fL (rs++qs)])∧Good (rs++qs)∧Fits MOST (rs++qs)∧(∃xs,qs=q0++xs∧xs.length≤2*k0∧(m0=0∨m0=(sizes rs).getD k0 0→xs.length=0)∧tN xs≤k0∧zH xs≤(sizes rs).getD k0 0)∧gh (rs++qs) n∧iG (rs++qs) n=((texts rs).getD k0 []).take m0:=by
 by_cases hz:m0=0∨m0=(sizes rs).getD k0 0
 ·refine⟨q0,if m0=0 then none else some k0,Sd _ _ k0 (by rw [jA];exact hk0) m0 hz,g,f,⟨[],by simp,by simp,fun _=>rfl,cX _,Pos.get gr hk0⟩,?_,?_⟩
  ·by_cases z:m0=0
   ·rw [if_pos z];exact gh.none
   ·rw [if_neg z];exact gh.some (by rw [aA];omega)
  ·have tl:((texts rs).getD k0 []).length=(sizes rs).getD k0 0:=gU rs k0
   by_cases z:m0=0
   ·rw [if_pos z]
    subst z
    simp [iG]
   ·rw [if_neg z]
    have e:m0=((texts rs).getD k0 []).length:=by omega
    have:iG (rs++q0) (some k0)=(texts rs).getD k0 []:=jg hk0 _
    rw [this,e]
    simp
 ·obtain⟨qs,n,h1,h2,h3,⟨xs,h4,h5,h8⟩,h6,h7⟩:=Y5 rs q0 gr fr g f hl hl0 k0 hk0 m0 hm0
  exact⟨qs,n,h1,h2,h3,⟨xs,h4,h5,fun z=>absurd z hz,h8⟩,h6,h7⟩
end Sb
namespace Sb
open PySem PySem.Spec L2 Evl DL
theorem aev(rs q0:List Rule)(gr:Good rs)(fr:Fits MOST rs)(g:Good (rs++q0))(f:Fits MOST (rs++q0))(hl:rs.length+q0.length≤2000000)(hl0:rs.length≤200000)(k0:Nat)(hk0:k0<rs.length)(m0:Nat)(hm0:m0≤(sizes rs).getD k0 0):
 ∃qs n,t8 [fL (rs++q0),fB (sizes rs), .int (k0:Int), .int (m0:Int)]= .ok (.tuple [eZ n,fL (rs++qs)])∧Good (rs++qs)∧Fits MOST (rs++qs)∧(∃xs,qs=q0++xs∧xs.length≤2*k0∧tN xs≤k0∧zH xs≤(sizes rs).getD k0 0)∧gh (rs++qs) n∧iG (rs++qs) n=oX m0 ((texts rs).getD k0 []):=by
 obtain⟨T,hT⟩:∃T,T=oX m0 ((texts rs).getD k0 []):=⟨_,rfl⟩
 rw [←hT]
 have mo:=fr.get k0
 have Tl:T.length=m0:=by
  rw [hT]
  exact zJ (by rw [gU];exact hm0)
 have mm:MOST<10 ^ 300:=by decide
 have ixs:∀a:Nat,a<rs.length→fV (fB (sizes rs)) (.int (a:Int))= .ok (.int (((sizes rs).getD a 0:Nat):Int)):=fun a h=>gY (by rw [jA];exact h)
 have ixr:∀(qs:List Rule) (a:Nat) (r:Rule),rs[a]? =some r→fV (fL (rs++qs)) (.int (a:Int))= .ok (fH r):=fun qs a r h=>by
  have ha:=(au.mp h).1
  have e:((rs++qs).map fH)[a]? =some (fH r):=by rw [aK,aO ha,h];rfl
  unfold fL
  rw [pH (by omega) (by simp;omega),cY,bF,e]
  rfl
 have body:Rt (xR [.own (fL (rs++q0)), .dat (fB (sizes rs)), .dat (.int (k0:Int)), .dat (.int (m0:Int)), .un, .un, .un, .un]) (fun d=>∃qs n,d= .tuple [eZ n,fL (rs++qs)]∧Good (rs++qs)∧Fits MOST (rs++qs)∧(∃xs,qs=q0++xs∧xs.length≤2*k0∧tN xs≤k0∧zH xs≤(sizes rs).getD k0 0)∧gh (rs++qs) n∧iG (rs++qs) n=T):=by
  unfold xR
  refine fP (ρ' :=[.own (fL (rs++q0)), .dat (fB (sizes rs)), .dat (.int (k0:Int)), .dat (.int (m0:Int)), .own (.list (([]:List (Option Nat)).map eZ)), .un, .un, .un]) (by simp! only [];rfl) ?_
  refine mZ (pO (N:=fun ρ=>∃(k m:Nat) (xs:List Rule) (ps:List (Option Nat)) (k7:Sl),ρ=[.own (fL (rs++(q0++xs))), .dat (fB (sizes rs)), .dat (.int (k:Int)), .dat (.int (m:Int)), .own (.list (ps.map eZ)), .un, .un,k7]∧Good (rs++(q0++xs))∧Fits MOST (rs++(q0++xs))∧k<rs.length∧(m=0∨m=(sizes rs).getD k 0)∧(∀p∈ps,gh (rs++(q0++xs)) p)∧oX m ((texts rs).getD k [])++cat (rs++(q0++xs)) ps.reverse=T∧xs.length+k≤k0∧ps.length+k≤k0∧zH xs*(sizes rs).getD k 0≤(sizes rs).getD k0 0)
   (fun k ρ=>∃(m:Nat) (xs:List Rule) (ps:List (Option Nat)) (k7:Sl),ρ=[.own (fL (rs++(q0++xs))), .dat (fB (sizes rs)), .dat (.int (k:Int)), .dat (.int (m:Int)), .own (.list (ps.map eZ)), .un, .un,k7]∧Good (rs++(q0++xs))∧Fits MOST (rs++(q0++xs))∧k<rs.length∧m≤(sizes rs).getD k 0∧(∀p∈ps,gh (rs++(q0++xs)) p)∧oX m ((texts rs).getD k [])++cat (rs++(q0++xs)) ps.reverse=T∧xs.length+k≤k0∧ps.length+k≤k0∧zH xs*(sizes rs).getD k 0≤(sizes rs).getD k0 0) k0 (by omega)
   ⟨m0,[],[], .un,by simp only [aJ],by rw [aJ];exact g,by rw [aJ];exact f,hk0,hm0,(fun p hp=>absurd hp bG),(by simp [cat,hT]),(by simp),(by simp),(by simp [zH])⟩ ?_) ?_
  ·rintro k ρ ⟨m,xs,ps,k7,rfl,g1,f1,hk,hm,hps,inv,c1,c2,c3⟩
   have ixk:=ixs k hk
   by_cases hc:0<m∧m<(sizes rs).getD k 0
   ·right
    have hr:rs[k]? =some rs[k]:=by simp [hk]
    obtain⟨r,er⟩:∃r,r=rs[k]:=⟨_,rfl⟩
    rw [←er] at hr
    have ix:=ixr (q0++xs) k r hr
    have ok:=gr k r hr
    have tx:=rY gr hr
    have sz:=rG gr hr
    have kb:=fr.get k
    have ql:(rs++(q0++xs)).length<16700000:=by simp;omega
    refine⟨by simp! only [ji,ixk,show(0:Int)<(m:Int) by omega,show(m:Int)<(((sizes rs).getD k 0:Nat):Int) by omega],?_⟩
    cases r with
    |sign s=>
     exfalso
     rw [sz] at hc
     simp only [Rule.size] at hc
     omega
    |times a c=>
     have ha:a<rs.length:=by have:=ok.1;omega
     have ixa:=ixs a ha
     have ap:=Pos.get gr ha
     have az:=fr.get a
     simp only [Rule.size] at sz
     simp only [Rule.tx] at tx
     have tl:((texts rs).getD a []).length=(sizes rs).getD a 0:=gU rs a
     obtain⟨z,hz⟩:∃z,z=(sizes rs).getD a 0:=⟨_,rfl⟩
     rw [←hz] at ixa ap az sz tl
     obtain⟨w,hw⟩:∃w,w=m/z:=⟨_,rfl⟩
     obtain⟨y,hy⟩:∃y,y=m%z:=⟨_,rfl⟩
     have dv:=Nat.div_add_mod m z
     have y2:m%z<z:=Nat.mod_lt _ ap
     have w2:m/z≤m:=Nat.div_le_self _ _
     rw [←hw,←hy] at dv
     rw [←hy] at y2
     rw [←hw] at w2
     have dd:lX (.int (m:Int)) (.int (z:Int))= .ok (.int (w:Int)):=by
      rw [o9 (by omega) (by omega),hw]
      simp
     have dm:jJ (.int (m:Int)) (.int (z:Int))= .ok (.int (y:Int)):=by
      rw [jo (by omega),hy]
      simp
     have na:gh (rs++(q0++xs)) (some a):=gh.some (by simp;omega)
     have la:lD (rs++(q0++xs)) (some a)=z:=by
      show(sizes (rs++(q0++xs))).getD a 0=z
      rw [uM ha,hz]
     have ta:iG (rs++(q0++xs)) (some a)=(texts rs).getD a []:=jg ha _
     have ov:=Jt (rs++(q0++xs)) (some a) w ql
     obtain⟨o1,o2,o3,o4,o5,o6,o7⟩:=Kz (m:=w) g1 f1 na (by omega) (by rw [la];omega)
     obtain⟨N,hN⟩:∃N,N=(overF (rs++(q0++xs)) (some a) w).2:=⟨_,rfl⟩
     rw [o3] at ov
     rw [←hN] at ov o6 o7
     rw [ta] at o7
     have eo:rs++(q0++xs)++o1=rs++(q0++(xs++o1)):=by simp
     rw [eo] at ov o4 o5 o6 o7
     have ex:jP 0 vJ [(eO fV (d8 7) (eC (.int 1))),(eO lX (d8 3) (eO fV (d8 1) (eO fV (d8 7) (eC (.int 1)))))] [.own (fL (rs++(q0++xs))), .dat (fB (sizes rs)), .dat (.int (k:Int)), .dat (.int (m:Int)), .own (.list (ps.map eZ)), .un, .un, .dat (fH (.times a c))]= .ok (eZ N) [.own (fL (rs++(q0++(xs++o1)))), .dat (fB (sizes rs)), .dat (.int (k:Int)), .dat (.int (m:Int)), .own (.list (ps.map eZ)), .un, .un, .dat (fH (.times a c))]:=by
      have ev:ou [(eO fV (d8 7) (eC (.int 1))),(eO lX (d8 3) (eO fV (d8 1) (eO fV (d8 7) (eC (.int 1)))))] [.own (fL (rs++(q0++xs))), .dat (fB (sizes rs)), .dat (.int (k:Int)), .dat (.int (m:Int)), .own (.list (ps.map eZ)), .un, .un, .dat (fH (.times a c))]= .ok [eZ (some a), .int (w:Int)]:=by
       simp! only [ou,fH,gR,ixa,dd]
       rfl
      simp only [jP,aQ,ev,ov]
      rfl
     refine⟨a,ok.1,?_⟩
     refine iD (ρ' :=[.own (fL (rs++(q0++xs))), .dat (fB (sizes rs)), .dat (.int (k:Int)), .dat (.int (m:Int)), .own (.list (ps.map eZ)), .un, .un, .dat (fH (.times a c))]) (by simp! only [ix]) ?_
     refine Vk (by simp! only [fH,gG]) ?_
     refine iD (ρ' :=[.own (fL (rs++(q0++(xs++o1)))), .dat (fB (sizes rs)), .dat (.int (k:Int)), .dat (.int (m:Int)), .own (.list ((ps++[N]).map eZ)), .un, .un, .dat (fH (.times a c))]) (by
      simp only [V4,aW,aQ,ex,aC,show ps.length<sizeLine from lM (by omega),if_true,set_0,kW]
      simp) ?_
     refine iD (ρ' :=[.own (fL (rs++(q0++(xs++o1)))), .dat (fB (sizes rs)), .dat (.int (k:Int)), .dat (.int (y:Int)), .own (.list ((ps++[N]).map eZ)), .un, .un, .dat (fH (.times a c))]) (by simp! only [fH,gR,ixa,dm]) ?_
     refine jT (ρ' :=[.own (fL (rs++(q0++(xs++o1)))), .dat (fB (sizes rs)), .dat (.int (a:Int)), .dat (.int (y:Int)), .own (.list ((ps++[N]).map eZ)), .un, .un, .dat (fH (.times a c))]) (by simp! only [fH,gR]) ⟨y,xs++o1,ps++[N],_,rfl,o4,o5,ha,by omega,fun p hp=> ?_,?_,by simp;have:=ok.1;omega,by simp;have:=ok.1;omega,(by
      rw [←hz,nH]
      have w3:w≤c:=by rw [hw];exact Nat.div_le_of_le_mul (by have:=hc.2;omega)
      have w4:=Mz o3
      have w5:=ok.2.1
      exact abl (c:=c) (by rw [←sz];exact c3) (by omega))⟩
     ·rcases aM.mp hp with h|h
      ·rw [←eo]
       exact(hps p h).app _
      ·have:p=N:=by simpa using h
       rw [this]
       exact o6
     ·have e1:=aeX ((texts rs).getD a []) (by rw [tl];exact ap) c m (by rw [tl,bU,←sz];exact hc.2)
      rw [tl,←hw,←hy] at e1
      rw [←inv,tx,e1,bZ,List.reverse_singleton,List.singleton_append,Tp,o7,←eo,ad9 (fun p hp=>hps p (by simpa using hp)),aG]
    |join a b=>
     have ha:a<rs.length:=by have:=ok.1;omega
     have hb:b<rs.length:=by have:=ok.2;omega
     have ixb:=ixs b hb
     simp only [Rule.size] at sz
     simp only [Rule.tx] at tx
     have tb:((texts rs).getD b []).length=(sizes rs).getD b 0:=gU rs b
     by_cases h:m<(sizes rs).getD b 0
     ·refine⟨b,ok.2,?_⟩
      refine iD (ρ' :=[.own (fL (rs++(q0++xs))), .dat (fB (sizes rs)), .dat (.int (k:Int)), .dat (.int (m:Int)), .own (.list (ps.map eZ)), .un, .un, .dat (fH (.join a b))]) (by simp! only [ix]) ?_
      refine IK (by simp! only [fH,gG,jt]) (Vk (by simp! only [fH,lH,ixb,show(m:Int)<(((sizes rs).getD b 0:Nat):Int) by omega]) ?_)
      refine jT (ρ' :=[.own (fL (rs++(q0++xs))), .dat (fB (sizes rs)), .dat (.int (b:Int)), .dat (.int (m:Int)), .own (.list (ps.map eZ)), .un, .un, .dat (fH (.join a b))]) (by simp! only [fH,lH]) ⟨m,xs,ps,_,rfl,g1,f1,hb,by omega,hps,?_,by have:=ok.2;omega,by have:=ok.2;omega,cQ (Nat.mul_le_mul_left _ (by omega)) c3⟩
      rw [←inv,tx,aaW (by omega)]
     ·refine⟨a,ok.1,?_⟩
      have es:(m:Int)-(((sizes rs).getD b 0:Nat):Int)=((m-(sizes rs).getD b 0:Nat):Int):=by omega
      refine iD (ρ' :=[.own (fL (rs++(q0++xs))), .dat (fB (sizes rs)), .dat (.int (k:Int)), .dat (.int (m:Int)), .own (.list (ps.map eZ)), .un, .un, .dat (fH (.join a b))]) (by simp! only [ix]) ?_
      refine IK (by simp! only [fH,gG,jt]) (IK (by simp! only [fH,lH,ixb,show¬(m:Int)<(((sizes rs).getD b 0:Nat):Int) by omega]) ?_)
      refine iD (ρ' :=[.own (fL (rs++(q0++xs))), .dat (fB (sizes rs)), .dat (.int (k:Int)), .dat (.int (m:Int)), .own (.list ((ps++[some b]).map eZ)), .un, .un, .dat (fH (.join a b))]) (by
       rw [app_ok (ds:=ps.map eZ) (d:=eZ (some b)) rfl (by simp! only [fH,lH,eZ]) (by rw [aC];exact lM (by omega))]
       simp) ?_
      refine iD (ρ' :=[.own (fL (rs++(q0++xs))), .dat (fB (sizes rs)), .dat (.int (k:Int)), .dat (.int ((m-(sizes rs).getD b 0:Nat):Int)), .own (.list ((ps++[some b]).map eZ)), .un, .un, .dat (fH (.join a b))]) (by simp! only [fH,lH,ixb,es]) ?_
      refine jT (ρ' :=[.own (fL (rs++(q0++xs))), .dat (fB (sizes rs)), .dat (.int (a:Int)), .dat (.int ((m-(sizes rs).getD b 0:Nat):Int)), .own (.list ((ps++[some b]).map eZ)), .un, .un, .dat (fH (.join a b))]) (by simp! only [fH,gR]) ⟨m-(sizes rs).getD b 0,xs,ps++[some b],_,rfl,g1,f1,ha,by omega,fun p hp=> ?_,?_,by have:=ok.1;omega,by simp;have:=ok.1;omega,cQ (Nat.mul_le_mul_left _ (by omega)) c3⟩
      ·rcases aM.mp hp with h2|h2
       ·exact hps p h2
       ·have:p=some b:=by simpa using h2
        rw [this]
        exact gh.some (by simp;omega)
      ·have e2:iG (rs++(q0++xs)) (some b)=(texts rs).getD b []:=jg hb _
       rw [←inv,tx,ab4 (by omega),tb,bZ,List.reverse_singleton,List.singleton_append,Tp,e2,aG]
   ·left
    refine⟨?_,k,m,xs,ps,k7,rfl,g1,f1,hk,by omega,hps,inv,c1,c2,c3⟩
    by_cases h0:0<m
    ·simp! only [ji,ixk,show(0:Int)<(m:Int) by omega,show¬(m:Int)<(((sizes rs).getD k 0:Nat):Int) by omega]
    ·simp! only [ji,show¬(0:Int)<(m:Int) by omega]
  rintro ρ ⟨k,m,xs,ps,k7,rfl,g1,f1,hk,hm,hps,inv,c1,c2,c3⟩
  refine fP (ρ' :=[.own (fL (rs++(q0++xs))), .dat (fB (sizes rs)), .dat (.int (k:Int)), .dat (.int (m:Int)), .own (.list (ps.map eZ)), .dat (.none), .un,k7]) (by simp! only []) ?_
  obtain⟨F,hF⟩:∃F:Option Nat,F=if 0<m then some k else none:=⟨_,rfl⟩
  refine fP (ρ' :=[.own (fL (rs++(q0++xs))), .dat (fB (sizes rs)), .dat (.int (k:Int)), .dat (.int (m:Int)), .own (.list (ps.map eZ)), .dat (eZ F), .un,k7]) (by
   by_cases h0:0<m
   ·simp! only [show(0:Int)<(m:Int) by omega,hF,h0,if_true]
    rfl
   ·simp! only [show¬(0:Int)<(m:Int) by omega,hF,h0,if_false]
    rfl) ?_
  have nF:gh (rs++(q0++xs)) F:=by
   rw [hF]
   split
   ·exact gh.some (by simp;omega)
   ·exact gh.none
  have tF:iG (rs++(q0++xs)) F=oX m ((texts rs).getD k []):=by
   rw [hF]
   rcases hm with h|h
   ·subst h
    simp [iG,ahS]
   ·have kp:=Pos.get gr hk
    simp only [show 0<m by omega,if_true]
    show(texts (rs++(q0++xs))).getD k []=_
    rw [jg hk,h,←gU]
    exact(VG _).symm
  rw [←tF] at inv
  refine mZ (N:=fun ρ=>∃(ys:List Rule) (Z:Option Nat) (k6:Sl),ρ=[.own (fL (rs++(q0++xs++ys))), .dat (fB (sizes rs)), .dat (.int (k:Int)), .dat (.int (m:Int)), .dat (.list (ps.map eZ)), .dat (eZ Z),k6,k7]∧Good (rs++(q0++xs++ys))∧Fits MOST (rs++(q0++xs++ys))∧(ys.length≤ps.length∧tN ys=0)∧gh (rs++(q0++xs++ys)) Z∧iG (rs++(q0++xs++ys)) Z=T) ?_ ?_
  ·show Nx (mV (iRv (d8 4)) (gN 6) (oO 5 (jP 0 jY [(d8 5),(d8 6)])) [.own (fL (rs++(q0++xs))), .dat (fB (sizes rs)), .dat (.int (k:Int)), .dat (.int (m:Int)), .dat (.list (ps.map eZ)), .dat (eZ F), .un,k7]) _
   have h:=nY (mi:=iRv (d8 4)) (g:=gN 6) (body:=oO 5 (jP 0 jY [(d8 5),(d8 6)])) (ρ:=[.own (fL (rs++(q0++xs))), .dat (fB (sizes rs)), .dat (.int (k:Int)), .dat (.int (m:Int)), .dat (.list (ps.map eZ)), .dat (eZ F), .un,k7]) (ds:=(ps.map eZ).reverse)
    (fun i ρ=>∃(ys:List Rule) (Z:Option Nat) (k6:Sl),ρ=[.own (fL (rs++(q0++xs++ys))), .dat (fB (sizes rs)), .dat (.int (k:Int)), .dat (.int (m:Int)), .dat (.list (ps.map eZ)), .dat (eZ Z),k6,k7]∧Good (rs++(q0++xs++ys))∧Fits MOST (rs++(q0++xs++ys))∧(ys.length≤i∧tN ys=0)∧gh (rs++(q0++xs++ys)) Z∧iG (rs++(q0++xs++ys)) Z=iG (rs++(q0++xs)) F++cat (rs++(q0++xs)) (ps.reverse.take i))
    (by simp! only [iRv]) ⟨[],F,_,by rw [aJ],by rw [aJ];exact g1,by rw [aJ];exact f1,⟨by simp,rfl⟩,by rw [aJ];exact nF,by rw [aJ];simp [cat]⟩ (by
     rintro i d ρ hd ⟨ys,Z,k6,rfl,g2,f2,⟨yl,yt⟩,nZ,tZ⟩
     rw [←List.map_reverse,aK,aP] at hd
     obtain⟨p,h1,rfl⟩:=hd
     have hi:=(au.mp h1).1
     rw [bR] at hi
     have pm:p∈ps:=by
      have:=bf h1
      simpa using this
     have np:gh (rs++(q0++xs)) p:=hps p pm
     have np2:gh (rs++(q0++xs++ys)) p:=by
      rw [←aG]
      exact np.app _
     have tp:iG (rs++(q0++xs++ys)) p=iG (rs++(q0++xs)) p:=by
      rw [←aG]
      exact tH np _
     have hstep:(ps.reverse.take (i+1))=ps.reverse.take i++[p]:=by
      rw [bH,h1]
      rfl
     have ql:(rs++(q0++xs++ys)).length<16700000:=by simp;omega
     have big:(iG (rs++(q0++xs)) p).length+(iG (rs++(q0++xs++ys)) Z).length≤MOST:=by
      rw [tZ]
      have e:ps.reverse=ps.reverse.take (i+1)++ps.reverse.drop (i+1):=(bM _ _).symm
      have el:T.length=(iG (rs++(q0++xs)) F++cat (rs++(q0++xs)) (ps.reverse.take (i+1)++ps.reverse.drop (i+1))).length:=by rw [←e,inv]
      rw [hstep] at el
      simp only [cat,cC,dO,aA,bA,cZ,dw,List.flatten_nil,cH] at el⊢
      omega
     have lk:=qX (rs++(q0++xs++ys)) Z p ql
     obtain⟨o1,o2,o3,o4,o5,o6,o7⟩:=zQ (rs:=rs++(q0++xs++ys)) g2 f2 (a:=Z) (b:=p) nZ np2 (by rw [←oF,←oF,tp];omega)
     rw [o3] at lk
     have eo:rs++(q0++xs++ys)++o1=rs++(q0++xs++(ys++o1)):=by simp
     rw [eo] at lk o4 o5 o6 o7
     obtain⟨N,hN⟩:∃N,N=(oW (rs++(q0++xs++ys)) Z p).2:=⟨_,rfl⟩
     rw [←hN] at lk o6 o7
     refine⟨_,pP,jT (ρ' :=[.own (fL (rs++(q0++xs++(ys++o1)))), .dat (fB (sizes rs)), .dat (.int (k:Int)), .dat (.int (m:Int)), .dat (.list (ps.map eZ)), .dat (eZ N), .dat (eZ p),k7]) ?_ ⟨ys++o1,N,_,rfl,o4,o5,⟨by simp;omega,by rw [Io,yt,Ea o3]⟩,o6,?_⟩⟩
     ·have ex:jP 0 jY [(d8 5),(d8 6)] [.own (fL (rs++(q0++xs++ys))), .dat (fB (sizes rs)), .dat (.int (k:Int)), .dat (.int (m:Int)), .dat (.list (ps.map eZ)), .dat (eZ Z), .dat (eZ p),k7]= .ok (eZ N) [.own (fL (rs++(q0++xs++(ys++o1)))), .dat (fB (sizes rs)), .dat (.int (k:Int)), .dat (.int (m:Int)), .dat (.list (ps.map eZ)), .dat (eZ Z), .dat (eZ p),k7]:=by
       have ev:ou [(d8 5),(d8 6)] [.own (fL (rs++(q0++xs++ys))), .dat (fB (sizes rs)), .dat (.int (k:Int)), .dat (.int (m:Int)), .dat (.list (ps.map eZ)), .dat (eZ Z), .dat (eZ p),k7]= .ok [eZ Z,eZ p]:=by simp! only [ou]
       simp only [jP,aQ,ev,lk,set_0]
      simp only [set_0,kW,oO,ex]
     ·rw [o7,tp,tZ,hstep]
      rw [QK,aG])
   rw [bR,aC] at h
   have fin:iG (rs++(q0++xs)) F++cat (rs++(q0++xs)) (ps.reverse.take ps.length)=T:=by
    rw [←inv,bO (by simp)]
    try rfl
   rw [fin] at h
   exact h
  rintro ρ ⟨ys,Z,k6,rfl,g2,f2,⟨yl,yt⟩,nZ,tZ⟩
  refine⟨.tuple [eZ Z,fL (rs++(q0++xs++ys))],rfl,q0++xs++ys,Z,rfl,g2,f2,⟨xs++ys,by simp,by simp;omega,by rw [Io,yt];have:=Jc xs;omega,by rw [nH,Fw yt,Nat.mul_one];exact cQ (Nat.le_mul_of_pos_right _ (Pos.get gr hk)) c3⟩,nZ,tZ⟩
 obtain⟨d,e,qs,n,rfl,h⟩:=body
 exact⟨qs,n,Cd (n:=4) e,h⟩
theorem ZC(R:D)(sz:List Nat)(k0:Nat)(hk0:k0<sz.length)(m0:Nat)(hm:m0=0∨m0=sz.getD k0 0):
 t8 [R,fB sz, .int (k0:Int), .int (m0:Int)]= .ok (.tuple [eZ (if m0=0 then none else some k0),R]):=by
 have ix:=gY (ns:=sz) (a:=k0) hk0
 have run:Rt (xR [.own (R), .dat (fB sz), .dat (.int (k0:Int)), .dat (.int (m0:Int)), .un, .un, .un, .un]) (·= .tuple [eZ (if m0=0 then none else some k0),R]):=by
  unfold xR
  refine fP (ρ' :=[.own (R), .dat (fB sz), .dat (.int (k0:Int)), .dat (.int (m0:Int)), .own (.list []), .un, .un, .un]) (by simp! only []) ?_
  refine mZ (pO (N:=fun ρ=>ρ=[.own (R), .dat (fB sz), .dat (.int (k0:Int)), .dat (.int (m0:Int)), .own (.list []), .un, .un, .un]) (fun k ρ=>ρ=[.own (R), .dat (fB sz), .dat (.int (k0:Int)), .dat (.int (m0:Int)), .own (.list []), .un, .un, .un]) 0 (by omega) rfl ?_) ?_
  ·rintro k ρ rfl
   left
   refine⟨?_,rfl⟩
   rcases hm with rfl|hm
   ·simp! only [ji,ix,show¬(0:Int)<((0:Nat):Int) by omega]
   ·by_cases z:(0:Int)<(m0:Int)
    ·simp! only [ji,ix,z,show¬(m0:Int)<((sz.getD k0 0:Nat):Int) by omega]
    ·simp! only [ji,ix,z]
  rintro ρ rfl
  refine fP (ρ' :=[.own (R), .dat (fB sz), .dat (.int (k0:Int)), .dat (.int (m0:Int)), .own (.list []), .dat (.none), .un, .un]) (by simp! only []) ?_
  by_cases z:m0=0
  ·subst z
   refine fP (ρ' :=[.own (R), .dat (fB sz), .dat (.int (k0:Int)), .dat (.int ((0:Nat):Int)), .own (.list []), .dat (.none), .un, .un]) (by simp! only [show¬((0:Nat):Int)>0 by omega]) ?_
   refine fP (ρ' :=[.own (R), .dat (fB sz), .dat (.int (k0:Int)), .dat (.int ((0:Nat):Int)), .dat (.list []), .dat (.none), .un, .un]) rfl ?_
   exact⟨_,rfl,rfl⟩
  ·refine fP (ρ' :=[.own (R), .dat (fB sz), .dat (.int (k0:Int)), .dat (.int (m0:Int)), .own (.list []), .dat (.int (k0:Int)), .un, .un]) (by simp! only [show(m0:Int)>0 by omega]) ?_
   refine fP (ρ' :=[.own (R), .dat (fB sz), .dat (.int (k0:Int)), .dat (.int (m0:Int)), .dat (.list []), .dat (.int (k0:Int)), .un, .un]) rfl ?_
   exact⟨_,rfl,by rw [if_neg z];rfl⟩
 obtain⟨d,h1,rfl⟩:=run
 exact Cd (n:=4) h1
theorem abP(rs q0:List Rule)(gr:Good rs)(fr:Fits MOST rs)(g:Good (rs++q0))(f:Fits MOST (rs++q0))(hl:rs.length+q0.length≤2000000)(hl0:rs.length≤200000)(k0:Nat)(hk0:k0<rs.length)(m0:Nat)(hm0:m0≤(sizes rs).getD k0 0):
 ∃qs n,t8 [fL (rs++q0),fB (sizes rs), .int (k0:Int), .int (m0:Int)]= .ok (.tuple [eZ n,fL (rs++qs)])∧Good (rs++qs)∧Fits MOST (rs++qs)∧(∃xs,qs=q0++xs∧xs.length≤2*k0∧(m0=0∨m0=(sizes rs).getD k0 0→xs.length=0)∧tN xs≤k0∧zH xs≤(sizes rs).getD k0 0)∧gh (rs++qs) n∧iG (rs++qs) n=oX m0 ((texts rs).getD k0 []):=by
 by_cases hz:m0=0∨m0=(sizes rs).getD k0 0
 ·refine⟨q0,if m0=0 then none else some k0,ZC _ _ k0 (by rw [jA];exact hk0) m0 hz,g,f,⟨[],by simp,by simp,fun _=>rfl,cX _,Pos.get gr hk0⟩,?_,?_⟩
  ·by_cases z:m0=0
   ·rw [if_pos z];exact gh.none
   ·rw [if_neg z];exact gh.some (by rw [aA];omega)
  ·have tl:((texts rs).getD k0 []).length=(sizes rs).getD k0 0:=gU rs k0
   by_cases z:m0=0
   ·rw [if_pos z]
    subst z
    simp [iG,oX]
   ·rw [if_neg z]
    have e:m0=((texts rs).getD k0 []).length:=by omega
    have:iG (rs++q0) (some k0)=(texts rs).getD k0 []:=jg hk0 _
    rw [this,e]
    rw [VG]
 ·obtain⟨qs,n,h1,h2,h3,⟨xs,h4,h5,h8⟩,h6,h7⟩:=aev rs q0 gr fr g f hl hl0 k0 hk0 m0 hm0
  exact⟨qs,n,h1,h2,h3,⟨xs,h4,h5,fun z=>absurd z hz,h8⟩,h6,h7⟩
end Sb
namespace Sb
open PySem PySem.Spec L2 Evl DL
theorem Xc{i:Nat}{g:List D→ER}{m:EM}{xm:XM}{ρ ρ1 ρ2:DL.Env}{c0 c d0 d1 d c' :D}(h0:ρ[i]? =some (.own c0))(h1:m ρ= .ok d0)(h2:xm ρ= .ok d1 ρ1)(h3:ρ1[i]? =some (.own c))(h4:g [c,d0,d1]= .ok (.tuple [d,c']))(h5:ρ1.set i (.own c')=ρ2):zj i g m xm ρ= .ok d ρ2:=by
 simp only [zj,h0,h1,h2,h3,h4,h5]
theorem Ur{i:Nat}{g:List D→ER}{ms:List EM}{ρ ρ2:DL.Env}{c d c' :D}{ds:List D}(h0:ρ[i]? =some (.own c))(h1:ou ms ρ= .ok ds)(h2:g (c::ds)= .ok (.tuple [d,c']))(h3:ρ.set i (.own c')=ρ2):jP i g ms ρ= .ok d ρ2:=by
 simp only [jP,h0,h1,h2,h3]
theorem aeP(rs:List Rule)(g:Good rs)(f:Fits MOST rs)(hl:rs.length≤200000)(k:Nat)(r:Rule)(hr:rs[k]? =some r)(a:Nat)(hra:(∃b,r= .join a b)∨∃c,r= .times a c)(s e:Nat)(hs:s<(sizes rs).getD a 0)(he:(sizes rs).getD a 0<e)(hek:e≤(sizes rs).getD k 0):
 ∃qs n,rQ [fL rs,fB (sizes rs),fH r, .int (s:Int), .int (e:Int)]= .ok (.tuple [eZ n,fL (rs++qs)])∧Good (rs++qs)∧Fits MOST (rs++qs)∧(qs.length≤4*k+4∧(s=0∨e=(sizes rs).getD k 0∨(∃c m,r= .times a c∧e=m*(sizes rs).getD a 0)→qs.length≤2*k+4∧tN qs≤k∧zH qs≤(sizes rs).getD k 0))∧gh (rs++qs) n∧iG (rs++qs) n=stretch ((texts rs).getD k []) s e:=by
 have hk:=(au.mp hr).1
 have ok:=g k r hr
 have ak:a<k:=by
  rcases hra with⟨b,rfl⟩|⟨c,rfl⟩<;>exact ok.1
 have mm:MOST<10 ^ 300:=by decide
 have kb:=f.get k
 obtain⟨z,hz⟩:∃z,z=(sizes rs).getD a 0:=⟨_,rfl⟩
 have ixa:=gY (ns:=sizes rs) (a:=a) (by rw [jA];omega)
 rw [←hz] at hs he ixa
 have tl:((texts rs).getD a []).length=z:=by rw [gU,hz]
 have r1:fV (fH r) (.int 1)= .ok (.int (a:Int)):=by rcases hra with⟨b,rfl⟩|⟨c,rfl⟩<;>exact gR _ _ _
 obtain⟨q1,n1,e1,g1,f1,⟨x1,hx1,l1,z1,w1,pr1⟩,nn1,t1⟩:=abP rs [] g f (by simpa using g) (by simpa using f) (by simp;omega) hl a (by omega) (z-s) (by omega)
 rw [aJ] at e1
 have e1' :(z:Int)-(s:Int)=((z-s:Nat):Int):=by omega
 have q1l:q1.length≤2*a:=by rw [hx1];simpa using l1
 have q1t:tN q1≤a:=by rw [hx1];simpa using w1
 have q1p:zH q1≤z:=by rw [hx1,hz];simpa using pr1
 have q1z:s=0→q1.length=0:=fun z=>by rw [hx1];simpa using z1 (.inr (by omega))
 have ln1:lD (rs++q1) n1=z-s:=by rw [←oF,t1,zJ (by omega)]
 have sub:(e:Int)-(z:Int)=((e-z:Nat):Int):=by omega
 have run:∀d,Rt (wV [.own (fL rs), .dat (fB (sizes rs)), .dat (fH r), .dat (.int (s:Int)), .dat (.int (e:Int)), .un, .un, .un]) (·=d)→rQ [fL rs,fB (sizes rs),fH r, .int (s:Int), .int (e:Int)]= .ok d:=fun d ⟨d',h1,h2⟩=>by
  subst h2
  exact Cd (n:=3) h1
 have pre:∀Q:D→Prop,Rt (fG (iQ (eO kZ (eO fV (d8 2) (eC (.int 0))) (eC (.str "join"))) (vN (zj 0 jY (d8 7) (jP 0 kY [(d8 1),(eO fV (d8 2) (eC (.int 2))),(eO nj (d8 4) (d8 6))]))) fU)
 (fG (oO 7 (zj 0 jY (d8 7) (jP 0 vJ [(d8 5),(eO lX (eO nj (d8 4) (d8 6)) (d8 6))])))
 (vN (zj 0 jY (d8 7) (jP 0 kY [(d8 1),(d8 5),(eO jJ (eO nj (d8 4) (d8 6)) (d8 6))])))) [.own (fL (rs++q1)), .dat (fB (sizes rs)), .dat (fH r), .dat (.int (s:Int)), .dat (.int (e:Int)), .dat (.int (a:Int)), .dat (.int (z:Int)), .dat (eZ n1)]) Q→Rt (wV [.own (fL rs), .dat (fB (sizes rs)), .dat (fH r), .dat (.int (s:Int)), .dat (.int (e:Int)), .un, .un, .un]) Q:=fun Q h=>by
  unfold wV
  refine fP (ρ' :=[.own (fL rs), .dat (fB (sizes rs)), .dat (fH r), .dat (.int (s:Int)), .dat (.int (e:Int)), .dat (.int (a:Int)), .un, .un]) (by simp! only [r1]) ?_
  refine fP (ρ' :=[.own (fL rs), .dat (fB (sizes rs)), .dat (fH r), .dat (.int (s:Int)), .dat (.int (e:Int)), .dat (.int (a:Int)), .dat (.int (z:Int)), .un]) (by simp! only [ixa]) ?_
  refine fP (ρ' :=[.own (fL (rs++q1)), .dat (fB (sizes rs)), .dat (fH r), .dat (.int (s:Int)), .dat (.int (e:Int)), .dat (.int (a:Int)), .dat (.int (z:Int)), .dat (eZ n1)]) ?_ h
  have ex:=Ur (i:=0) (g:=t8) (ms:=[(d8 1),(d8 5),(eO nj (d8 6) (d8 3))]) (ρ:=[.own (fL rs), .dat (fB (sizes rs)), .dat (fH r), .dat (.int (s:Int)), .dat (.int (e:Int)), .dat (.int (a:Int)), .dat (.int (z:Int)), .un]) rfl (by simp! only [ou,e1']) e1 rfl
  simp only [oO,ex]
  rfl
 rcases hra with⟨b,rfl⟩|⟨c,rfl⟩
 ·have sz:=rG g hr
  have tx:=rY g hr
  simp only [Rule.size] at sz
  simp only [Rule.tx] at tx
  have hb:b<rs.length:=by have:=ok.2;omega
  have tb:((texts rs).getD b []).length=(sizes rs).getD b 0:=gU rs b
  obtain⟨q2,n2,e2,g2,f2,⟨x2,hx2,l2,z2,wx2,pr2⟩,nn2,t2⟩:=Hi rs q1 g f g1 f1 (by omega) hl b hb (e-z) (by omega)
  subst hx2
  have nn1' :gh (rs++(q1++x2)) n1:=by rw [←aG];exact nn1.app _
  have t1' :iG (rs++(q1++x2)) n1=oX (z-s) ((texts rs).getD a []):=by rw [←aG,tH nn1,t1]
  have ll1:lD (rs++(q1++x2)) n1=z-s:=by rw [←oF,t1',zJ (by omega)]
  have ll2:lD (rs++(q1++x2)) n2=e-z:=by rw [←oF,t2,aZ,tb];omega
  obtain⟨q3,l3,e3,g3,f3,nn3,t3⟩:=zQ g2 f2 nn1' nn2 (by omega)
  have lk:=qX (rs++(q1++x2)) n1 n2 (by simp;have:=ok.2;omega)
  rw [e3] at lk
  have bk:=ok.2
  refine⟨q1++x2++q3,(oW (rs++(q1++x2)) n1 n2).2,run _ (pre _ ?_),by rw [←aG];exact g3,by rw [←aG];exact f3,⟨by simp;omega,fun hz2=>by
   have:e=(sizes rs).getD k 0→x2.length=0:=fun z=>z2 (.inr (by omega))
   have t3:=Ea e3
   have t1:=Jc q1
   have t2:=Jc x2
   simp only [aA,Io]
   rcases hz2 with z|z|⟨c,m,z,_⟩
   ·have e0:=q1z z
    have e1:q1=[]:=dG.mp e0
    exact⟨by omega,by omega,by rw [nH,nH,Fw t3,e1];simp only [zH];omega⟩
   ·have e0:=this z
    have e1:x2=[]:=dG.mp e0
    exact⟨by omega,by omega,by rw [nH,nH,Fw t3,e1];simp only [zH];omega⟩
   ·cases z⟩,by rw [←aG];exact nn3,?_⟩
  ·refine oK (Hg (by simp! only [fH,gG]) ?_)
   have ex1:=Ur (i:=0) (g:=kY) (ms:=[(d8 1),(eO fV (d8 2) (eC (.int 2))),(eO nj (d8 4) (d8 6))]) (ρ:=[.own (fL (rs++q1)), .dat (fB (sizes rs)), .dat (fH (.join a b)), .dat (.int (s:Int)), .dat (.int (e:Int)), .dat (.int (a:Int)), .dat (.int (z:Int)), .dat (eZ n1)]) rfl (by simp! only [ou,fH,lH,sub]) e2 rfl
   have ex2:=Xc (i:=0) (g:=jY) (m:=d8 7) (ρ:=[.own (fL (rs++q1)), .dat (fB (sizes rs)), .dat (fH (.join a b)), .dat (.int (s:Int)), .dat (.int (e:Int)), .dat (.int (a:Int)), .dat (.int (z:Int)), .dat (eZ n1)]) rfl rfl ex1 rfl lk rfl
   refine⟨_,by simp only [vN,ex2];rfl,?_⟩
   show bL _=bL _
   simp only [aG]
  ·rw [←aG,t3,t1',t2,tx,Lh (by omega) (by omega),tl]
 ·have sz:=rG g hr
  have tx:=rY g hr
  simp only [Rule.size] at sz
  simp only [Rule.tx] at tx
  rw [←hz] at sz
  obtain⟨w,hw⟩:∃w,w=(e-z)/z:=⟨_,rfl⟩
  obtain⟨y,hy⟩:∃y,y=(e-z)%z:=⟨_,rfl⟩
  have dv:=Nat.div_add_mod (e-z) z
  have y2:(e-z)%z<z:=Nat.mod_lt _ (by omega)
  have w2:(e-z)/z≤e-z:=Nat.div_le_self _ _
  rw [←hw,←hy] at dv
  rw [←hy] at y2
  rw [←hw] at w2
  have dd:lX (.int ((e-z:Nat):Int)) (.int (z:Int))= .ok (.int (w:Int)):=by
   rw [o9 (by omega) (by omega),hw]
   simp
  have dm:jJ (.int ((e-z:Nat):Int)) (.int (z:Int))= .ok (.int (y:Int)):=by
   rw [jo (by omega),hy]
   simp
  have ha:a<rs.length:=by omega
  have na:gh (rs++q1) (some a):=gh.some (by simp;omega)
  have la:lD (rs++q1) (some a)=z:=by
   show(sizes (rs++q1)).getD a 0=z
   rw [uM ha,hz]
  have ta:iG (rs++q1) (some a)=(texts rs).getD a []:=jg ha _
  obtain⟨q2,l2,e2,g2,f2,nn2,t2⟩:=Kz (m:=w) g1 f1 na (by omega) (by rw [la];omega)
  have ov:=Jt (rs++q1) (some a) w (by simp;omega)
  rw [e2] at ov
  rw [ta] at t2
  obtain⟨n2,hn2⟩:∃n2,n2=(overF (rs++q1) (some a) w).2:=⟨_,rfl⟩
  rw [←hn2] at ov nn2 t2
  have nn1' :gh (rs++q1++q2) n1:=nn1.app _
  have t1' :iG (rs++q1++q2) n1=oX (z-s) ((texts rs).getD a []):=by rw [tH nn1,t1]
  have ll1:lD (rs++q1++q2) n1=z-s:=by rw [←oF,t1',zJ (by omega)]
  have ll2:lD (rs++q1++q2) n2=w*z:=by rw [←oF,t2,rR,tl]
  rw [bU] at dv
  obtain⟨q3,l3,e3,g3,f3,nn3,t3⟩:=zQ g2 f2 nn1' nn2 (by omega)
  have lk:=qX (rs++q1++q2) n1 n2 (by simp;omega)
  rw [e3] at lk
  obtain⟨n3,hn3⟩:∃n3,n3=(oW (rs++q1++q2) n1 n2).2:=⟨_,rfl⟩
  rw [←hn3] at lk nn3 t3
  have e4:rs++q1++q2++q3=rs++(q1++q2++q3):=by simp
  rw [e4] at lk g3 f3 nn3 t3
  obtain⟨q4,n4,e5,g4,f4,⟨x4,hx4,l4,z4,wx4,pr4⟩,nn4,t4⟩:=Hi rs (q1++q2++q3) g f g3 f3 (by simp;omega) hl a ha y (by omega)
  subst hx4
  have nn3' :gh (rs++(q1++q2++q3++x4)) n3:=by rw [←aG];exact nn3.app _
  have t3' :iG (rs++(q1++q2++q3++x4)) n3=oX (z-s) ((texts rs).getD a [])++(aD w ((texts rs).getD a [])).flatten:=by rw [←aG,tH nn3,t3,t1',t2]
  have ll3:lD (rs++(q1++q2++q3++x4)) n3=(z-s)+w*z:=by rw [←oF,t3',aA,zJ (by omega),rR,tl]
  have ll4:lD (rs++(q1++q2++q3++x4)) n4=y:=by rw [←oF,t4,aZ,tl];omega
  obtain⟨q5,l5,e6,g5,f5,nn5,t5⟩:=zQ g4 f4 nn3' nn4 (by omega)
  have lk2:=qX (rs++(q1++q2++q3++x4)) n3 n4 (by simp;omega)
  rw [e6] at lk2
  refine⟨q1++q2++q3++x4++q5,(oW (rs++(q1++q2++q3++x4)) n3 n4).2,run _ (pre _ ?_),by rw [←aG];exact g5,by rw [←aG];exact f5,⟨by simp;omega,fun hz2=>by
   have dz:∀m,e=m*z→x4.length=0:=fun m zz=>z4 (.inl (by
    have e9:e-z=z*(m-1):=by
     rw [zz,Nat.mul_sub,Nat.mul_one,bU]
    rw [hy,e9]
    exact Nat.mul_mod_right _ _))
   have t3:=Ea e3
   have t5:=Ea e6
   have t1:=Jc q1
   have t2:=Jc q2
   have t4:=Jc x4
   simp only [aA,Io]
   have w3:w≤c:=by rw [hw];exact Nat.div_le_of_le_mul (by omega)
   have w4:=Mz e2
   have w5:=ok.2.1
   have p2:zH q2≤c:=by omega
   rw [←hz] at pr4
   have noX:x4.length=0→zH (q1++q2++q3++x4++q5)≤(sizes rs).getD k 0:=fun e0=>by
    have e1:x4=[]:=dG.mp e0
    have h:=Nat.mul_le_mul q1p p2
    rw [nH,nH,nH,nH,Fw t3,Fw t5,e1,sz]
    simp only [zH,Nat.mul_one]
    exact h
   rcases hz2 with q|q|⟨c',m,_,q⟩
   ·have e0:=q1z q
    have e1:q1=[]:=dG.mp e0
    have h:=Nat.mul_le_mul p2 pr4
    refine⟨by omega,by omega,?_⟩
    rw [nH,nH,nH,nH,Fw t3,Fw t5,e1,sz,bU z c]
    simp only [zH,Nat.mul_one,Nat.one_mul]
    exact h
   ·have e0:=dz c (by rw [q,sz,bU])
    exact⟨by omega,by omega,noX e0⟩
   ·have e0:=dz m (by rw [q,hz])
    exact⟨by omega,by omega,noX e0⟩⟩,by rw [←aG];exact nn5,?_⟩
  ·refine fP (ρ' :=[.own (fL (rs++q1)), .dat (fB (sizes rs)), .dat (fH (.times a c)), .dat (.int (s:Int)), .dat (.int (e:Int)), .dat (.int (a:Int)), .dat (.int (z:Int)), .dat (eZ n1)]) (by simp! only [fH,gG,tj]) ?_
   have ex1:=Ur (i:=0) (g:=vJ) (ms:=[(d8 5),(eO lX (eO nj (d8 4) (d8 6)) (d8 6))]) (ds:=[eZ (some a), .int (w:Int)]) (ρ:=[.own (fL (rs++q1)), .dat (fB (sizes rs)), .dat (fH (.times a c)), .dat (.int (s:Int)), .dat (.int (e:Int)), .dat (.int (a:Int)), .dat (.int (z:Int)), .dat (eZ n1)]) rfl (by simp! only [ou,sub,dd,eZ]) ov rfl
   have ex2:=Xc (i:=0) (g:=jY) (m:=d8 7) (ρ:=[.own (fL (rs++q1)), .dat (fB (sizes rs)), .dat (fH (.times a c)), .dat (.int (s:Int)), .dat (.int (e:Int)), .dat (.int (a:Int)), .dat (.int (z:Int)), .dat (eZ n1)]) rfl rfl ex1 rfl lk rfl
   refine fP (ρ' :=[.own (fL (rs++(q1++q2++q3))), .dat (fB (sizes rs)), .dat (fH (.times a c)), .dat (.int (s:Int)), .dat (.int (e:Int)), .dat (.int (a:Int)), .dat (.int (z:Int)), .dat (eZ n3)]) (by simp only [oO,ex2];rfl) ?_
   have ex3:=Ur (i:=0) (g:=kY) (ms:=[(d8 1),(d8 5),(eO jJ (eO nj (d8 4) (d8 6)) (d8 6))]) (ρ:=[.own (fL (rs++(q1++q2++q3))), .dat (fB (sizes rs)), .dat (fH (.times a c)), .dat (.int (s:Int)), .dat (.int (e:Int)), .dat (.int (a:Int)), .dat (.int (z:Int)), .dat (eZ n3)]) rfl (by simp! only [ou,sub,dm]) e5 rfl
   have ex4:=Xc (i:=0) (g:=jY) (m:=d8 7) (ρ:=[.own (fL (rs++(q1++q2++q3))), .dat (fB (sizes rs)), .dat (fH (.times a c)), .dat (.int (s:Int)), .dat (.int (e:Int)), .dat (.int (a:Int)), .dat (.int (z:Int)), .dat (eZ n3)]) rfl rfl ex3 rfl lk2 rfl
   refine⟨_,by simp only [vN,ex4];rfl,?_⟩
   show bL _=bL _
   simp only [aG]
  ·have c1:=ok.2.1
   have ec:c=1+(c-1):=by omega
   have hcz:z*c=z+(c-1)*z:=by
    conv=>lhs;rw [ec]
    rw [Nat.mul_add,Nat.mul_one,bU z (c-1)]
   rw [←aG,t5,t3',t4,tx]
   conv=>rhs;rw [ec,Jm]
   have e7:(aD 1 ((texts rs).getD a [])).flatten=(texts rs).getD a []:=by simp
   rw [e7,Lh (by omega) (by omega),tl,aeD _ (by omega) _ _ (by rw [tl];omega),tl,←hw,←hy,aG]
end Sb
namespace Sb
open PySem PySem.Spec L2 Evl DL
theorem ajj(rs:List Rule)(g:Good rs)(f:Fits MOST rs)(hl:rs.length≤200000)(n:Option Nat)(hn:gh rs n)(s e:Nat)(hse:s≤e)(he:e≤lD rs n):
 ∃qs n',vq [eY rs,eZ n, .int (s:Int), .int (e:Int)]= .ok (.tuple [eY (rs++qs),eZ n'])∧Good (rs++qs)∧Fits MOST (rs++qs)∧qs.length≤4*rs.length+4∧gh (rs++qs) n' ∧iG (rs++qs) n' =stretch (iG rs n) s e∧∀k,n=some k→qs.length≤4*k+4∧(s=0∨e=lD rs n→qs.length≤2*k+4∧tN qs≤k∧zH qs≤lD rs n):=by
 have ln:=tO rs g f (by omega) n hn
 have mm:MOST<10 ^ 300:=by decide
 have nb:=ado f n
 have c1:(0:Int)≤(s:Int):=by omega
 have c2:(s:Int)≤(e:Int):=by omega
 have c3:(e:Int)≤((lD rs n:Nat):Int):=by omega
 have bt:lW [eY rs]= .ok (eY rs):=rfl
 have le:=uO rs g f (by omega)
 have run:Rt (Ij [.dat (eY rs), .dat (eZ n), .dat (.int (s:Int)), .dat (.int (e:Int)), .un, .un, .un, .un, .un]) (fun d=>∃qs n',d= .tuple [eY (rs++qs),eZ n']∧Good (rs++qs)∧Fits MOST (rs++qs)∧qs.length≤4*rs.length+4∧gh (rs++qs) n' ∧iG (rs++qs) n' =stretch (iG rs n) s e∧∀k,n=some k→qs.length≤4*k+4∧(s=0∨e=lD rs n→qs.length≤2*k+4∧tN qs≤k∧zH qs≤lD rs n)):=by
  unfold Ij
  refine fP (ρ' :=[.dat (eY rs), .dat (eZ n), .dat (.int (s:Int)), .dat (.int (e:Int)), .dat (.int ((lD rs n:Nat):Int)), .un, .un, .un, .un]) (by simp! only [ln]) ?_
  refine fP (ρ' :=[.dat (eY rs), .dat (eZ n), .dat (.int (s:Int)), .dat (.int (e:Int)), .dat (.int ((lD rs n:Nat):Int)), .un, .un, .un, .un]) (by simp! only [oY,c1,c2,c3]) ?_
  by_cases hz:s=e
  ·have hz' :decide ((s:Int)=(e:Int))=true:=decide_eq_true (by omega)
   refine oK (Hg (by simp! only [hz']) (jB (d:= .tuple [eY rs, .none]) (by simp! only [bt]) ⟨[],none,by rw [aJ];rfl,by rw [aJ];exact g,by rw [aJ];exact f,by simp,gh.none,?_⟩))
   subst hz
   exact⟨by simp [iG,stretch],fun k hk=>⟨by simp,fun _=>⟨by simp,cX _,by subst hk;exact Pos.get g (hn k rfl)⟩⟩⟩
  have hz' :¬(s:Int)=(e:Int):=by omega
  refine fP (ρ' :=[.dat (eY rs), .dat (eZ n), .dat (.int (s:Int)), .dat (.int (e:Int)), .dat (.int ((lD rs n:Nat):Int)), .un, .un, .un, .un]) (by simp! only [hz']) ?_
  refine fP (ρ' :=[.dat (eY rs), .dat (eZ n), .dat (.int (s:Int)), .dat (.int (e:Int)), .dat (.int ((lD rs n:Nat):Int)), .dat (fB (sizes rs)), .un, .un, .un]) (by simp! only [oN,le,Eu]) ?_
  cases n with
  |none=>
   exfalso
   simp only [lD] at he
   omega
  |some k0=>
   have hk0:=hn k0 rfl
   obtain⟨T,hT⟩:∃T,T=stretch (iG rs (some k0)) s e:=⟨_,rfl⟩
   rw [←hT]
   obtain⟨s0,hs0⟩:∃s0,s0=s:=⟨_,rfl⟩
   obtain⟨e0,he0⟩:∃e0,e0=e:=⟨_,rfl⟩
   have goalE:(fun d=>∃qs n',d=bL [eY (rs++qs),eZ n']∧Good (rs++qs)∧Fits MOST (rs++qs)∧qs.length≤4*rs.length+4∧gh (rs++qs) n' ∧iG (rs++qs) n' =T∧∀k,some k0=some k→qs.length≤4*k+4∧(s=0∨e=lD rs (some k0)→qs.length≤2*k+4∧tN qs≤k∧zH qs≤lD rs (some k0)))=(fun d=>∃qs n',d=bL [eY (rs++qs),eZ n']∧Good (rs++qs)∧Fits MOST (rs++qs)∧qs.length≤4*rs.length+4∧gh (rs++qs) n' ∧iG (rs++qs) n' =T∧qs.length≤4*k0+4∧(s0=0∨e0=lD rs (some k0)→qs.length≤2*k0+4∧tN qs≤k0∧zH qs≤lD rs (some k0))):=by
    funext d
    simp only [hs0,he0,Option.some.injEq,forall_eq']
   rw [goalE]
   have ixs:∀a:Nat,a<rs.length→fV (fB (sizes rs)) (.int (a:Int))= .ok (.int (((sizes rs).getD a 0:Nat):Int)):=fun a h=>gY (by rw [jA];exact h)
   refine ajY (af3 (N:=fun ρ=>∃(k:Nat) (d2 d3 k4 k6:Sl),ρ=[.dat (eY rs), .dat (.int (k:Int)),d2,d3,k4, .dat (fB (sizes rs)),k6, .un, .un]∧k<rs.length∧(texts rs).getD k []=T)
    (fun k ρ=>∃(s e:Nat) (k4 k6:Sl),ρ=[.dat (eY rs), .dat (.int (k:Int)), .dat (.int (s:Int)), .dat (.int (e:Int)),k4, .dat (fB (sizes rs)),k6, .un, .un]∧k<rs.length∧s<e∧e≤(sizes rs).getD k 0∧stretch ((texts rs).getD k []) s e=T∧k≤k0∧(s0=0→s=0)∧(e0=lD rs (some k0)→e=(sizes rs).getD k 0)∧(sizes rs).getD k 0≤(sizes rs).getD k0 0) k0 (by omega) ⟨s,e,_,_,rfl,hk0,by omega,he,hT.symm,bJ _,fun z=>by omega,fun z=>by rw [←he0,z];rfl,bJ _⟩ ?_) ?_
   ·rintro k ρ ⟨s,e,k4,k6,rfl,hk,h1,h2,ht,kk,iS,iE,iZ⟩
    have hr:rs[k]? =some rs[k]:=by simp [hk]
    obtain⟨r,er⟩:∃r,r=rs[k]:=⟨_,rfl⟩
    rw [←er] at hr
    have ix:=sY hr
    have ok:=g k r hr
    have tx:=rY g hr
    have sz:=rG g hr
    have kb:=f.get k
    have over:∀(a s1 e1:Nat),((∃b,r= .join a b)∨∃c,r= .times a c)→s1<(sizes rs).getD a 0→(sizes rs).getD a 0<e1→e1≤(sizes rs).getD k 0→stretch ((texts rs).getD k []) s1 e1=T→(s0=0→s1=0)→(e0=lD rs (some k0)→e1=(sizes rs).getD k 0∨∃c m,r= .times a c∧e1=m*(sizes rs).getD a 0)→∀k4:Sl,
     Rt (fG (jG 7 (fu qZ [(d8 0)])) (fG (oO 8 (jP 7 rQ [(d8 5),(d8 6),(d8 2),(d8 3)])) (gA (jw [(fu lW [(gK 7)]),(d8 8)]))) [.dat (eY rs), .dat (.int (k:Int)), .dat (.int (s1:Int)), .dat (.int (e1:Int)),k4, .dat (fB (sizes rs)), .dat (fH r), .un, .un]) (fun d=>∃qs n',d= .tuple [eY (rs++qs),eZ n']∧Good (rs++qs)∧Fits MOST (rs++qs)∧qs.length≤4*rs.length+4∧gh (rs++qs) n' ∧iG (rs++qs) n' =T∧qs.length≤4*k0+4∧(s0=0∨e0=lD rs (some k0)→qs.length≤2*k0+4∧tN qs≤k0∧zH qs≤lD rs (some k0))):=fun a s1 e1 hra p1 p2 p3 p4 p5 p6 k4=>by
     obtain⟨qs,n',ac,g2,f2,⟨l2,l2z⟩,n2,t2⟩:=aeP rs g f hl k r hr a hra s1 e1 p1 p2 p3
     have ls:qZ [eY rs]= .ok (fL rs):=rfl
     have bt2:lW [fL (rs++qs)]= .ok (eY (rs++qs)):=rfl
     refine fP (ρ' :=[.dat (eY rs), .dat (.int (k:Int)), .dat (.int (s1:Int)), .dat (.int (e1:Int)),k4, .dat (fB (sizes rs)), .dat (fH r), .own (fL rs), .un]) (by simp! only [ls]) ?_
     have ex:=Ur (i:=7) (g:=rQ) (ms:=[(d8 5),(d8 6),(d8 2),(d8 3)]) (ρ:=[.dat (eY rs), .dat (.int (k:Int)), .dat (.int (s1:Int)), .dat (.int (e1:Int)),k4, .dat (fB (sizes rs)), .dat (fH r), .own (fL rs), .un]) rfl (by simp! only [ou]) ac rfl
     refine fP (ρ' :=[.dat (eY rs), .dat (.int (k:Int)), .dat (.int (s1:Int)), .dat (.int (e1:Int)),k4, .dat (fB (sizes rs)), .dat (fH r), .own (fL (rs++qs)), .dat (eZ n')]) (by simp only [oO,ex];rfl) ?_
     exact jB (by simp! only [bt2]) ⟨qs,n',rfl,g2,f2,by omega,n2,by rw [t2,p4],by omega,fun hz=>by
      have:=l2z (hz.elim (fun z=> .inl (p5 z)) fun z=> .inr (p6 z))
      exact⟨by omega,by omega,cQ this.2.2 iZ⟩⟩
    cases r with
    |sign c=>
     left
     refine⟨by simp! only [ix,fH,gG],k,_,_,_,_,rfl,hk,?_⟩
     simp only [Rule.size] at sz
     have e0:s=0:=by omega
     have e1:e=1:=by omega
     subst e0 e1
     rw [←ht,tx]
     rfl
    |join a b=>
     right
     have ha:a<rs.length:=by have:=ok.1;omega
     have hb:b<rs.length:=by have:=ok.2;omega
     have ixa:=ixs a ha
     have tl:((texts rs).getD a []).length=(sizes rs).getD a 0:=gU rs a
     simp only [Rule.size] at sz
     simp only [Rule.tx] at tx
     obtain⟨z,hzz⟩:∃z,z=(sizes rs).getD a 0:=⟨_,rfl⟩
     refine⟨by simp! only [ix,fH,gG,js],?_⟩
     refine zE (ρ' :=[.dat (eY rs), .dat (.int (k:Int)), .dat (.int (s:Int)), .dat (.int (e:Int)),k4, .dat (fB (sizes rs)), .dat (fH (.join a b)), .un, .un]) (by simp! only [ix]) ?_
     rw [←hzz] at ixa sz tl
     refine zE (ρ' :=[.dat (eY rs), .dat (.int (k:Int)), .dat (.int (s:Int)), .dat (.int (e:Int)), .dat (.int (z:Int)), .dat (fB (sizes rs)), .dat (fH (.join a b)), .un, .un]) (by simp! only [fH,gR,ixa]) ?_
     refine zE (ρ' :=[.dat (eY rs), .dat (.int (k:Int)), .dat (.int (s:Int)), .dat (.int (e:Int)), .dat (.int (z:Int)), .dat (fB (sizes rs)), .dat (fH (.join a b)), .un, .un]) (by simp! only [fH,gG,jt]) ?_
     by_cases h3:z≤s
     ·refine agH (by simp! only [show(z:Int)≤(s:Int) by omega]) (abj ?_)
      refine iD (ρ' :=[.dat (eY rs), .dat (.int (k:Int)), .dat (.int ((s-z:Nat):Int)), .dat (.int (e:Int)), .dat (.int (z:Int)), .dat (fB (sizes rs)), .dat (fH (.join a b)), .un, .un]) (by simp! only [show(s:Int)-(z:Int)=((s-z:Nat):Int) by omega]) ?_
      refine iD (ρ' :=[.dat (eY rs), .dat (.int (k:Int)), .dat (.int ((s-z:Nat):Int)), .dat (.int ((e-z:Nat):Int)), .dat (.int (z:Int)), .dat (fB (sizes rs)), .dat (fH (.join a b)), .un, .un]) (by simp! only [show(e:Int)-(z:Int)=((e-z:Nat):Int) by omega]) ?_
      refine jT (ρ' :=[.dat (eY rs), .dat (.int (b:Int)), .dat (.int ((s-z:Nat):Int)), .dat (.int ((e-z:Nat):Int)), .dat (.int (z:Int)), .dat (fB (sizes rs)), .dat (fH (.join a b)), .un, .un]) (by simp! only [fH,lH]) ⟨b,ok.2,s-z,e-z,_,_,rfl,hb,by omega,by omega,?_,by have:=ok.2;omega,fun q=>by have:=iS q;omega,fun q=>by have:=iE q;omega,by omega⟩
      rw [←ht,tx,Ho (by omega) (by omega),tl]
     ·refine aek (by simp! only [show¬(z:Int)≤(s:Int) by omega]) ?_
      by_cases h4:e≤z
      ·refine agH (by simp! only [show(e:Int)≤(z:Int) by omega]) (abj (jT (ρ' :=[.dat (eY rs), .dat (.int (a:Int)), .dat (.int (s:Int)), .dat (.int (e:Int)), .dat (.int (z:Int)), .dat (fB (sizes rs)), .dat (fH (.join a b)), .un, .un]) (by simp! only [fH,gR]) ⟨a,ok.1,s,e,_,_,rfl,ha,h1,by omega,?_,by have:=ok.1;omega,iS,fun q=>by have:=iE q;have:=Pos.get g hb;omega,by omega⟩))
       rw [←ht,tx,Bm (by omega)]
      ·exact aek (by simp! only [show¬(e:Int)≤(z:Int) by omega]) (afu (over a s e (.inl ⟨b,rfl⟩) (by omega) (by omega) h2 ht iS (fun q=> .inl (iE q)) _))
    |times a c=>
     right
     have ha:a<rs.length:=by have:=ok.1;omega
     have ixa:=ixs a ha
     have ap:=Pos.get g ha
     have tl:((texts rs).getD a []).length=(sizes rs).getD a 0:=gU rs a
     simp only [Rule.size] at sz
     simp only [Rule.tx] at tx
     obtain⟨z,hzz⟩:∃z,z=(sizes rs).getD a 0:=⟨_,rfl⟩
     have zb:=f.get a
     rw [←hzz] at ixa sz tl ap zb
     refine⟨by simp! only [ix,fH,gG,ts],?_⟩
     refine zE (ρ' :=[.dat (eY rs), .dat (.int (k:Int)), .dat (.int (s:Int)), .dat (.int (e:Int)),k4, .dat (fB (sizes rs)), .dat (fH (.times a c)), .un, .un]) (by simp! only [ix]) ?_
     refine zE (ρ' :=[.dat (eY rs), .dat (.int (k:Int)), .dat (.int (s:Int)), .dat (.int (e:Int)), .dat (.int (z:Int)), .dat (fB (sizes rs)), .dat (fH (.times a c)), .un, .un]) (by simp! only [fH,gR,ixa]) ?_
     obtain⟨w,hw⟩:∃w,w=s/z:=⟨_,rfl⟩
     obtain⟨y,hy⟩:∃y,y=s%z:=⟨_,rfl⟩
     have dv:=Nat.div_add_mod s z
     have y2:s%z<z:=Nat.mod_lt _ ap
     have w2:s/z≤s:=Nat.div_le_self _ _
     have wc:s/z<c:=(Nat.div_lt_iff_lt_mul ap).mpr (by rw [bU,←sz];omega)
     rw [←hw,←hy] at dv
     rw [←hy] at y2
     rw [←hw] at w2 wc
     have dd:lX (.int (s:Int)) (.int (z:Int))= .ok (.int (w:Int)):=by
      rw [o9 (by omega) (by omega),hw]
      simp
     have dm:jJ (.int (s:Int)) (.int (z:Int))= .ok (.int (y:Int)):=by
      rw [jo (by omega),hy]
      simp
     have mu:lN (.int (w:Int)) (.int (z:Int))= .ok (.int ((w*z:Nat):Int)):=by
      rw [pD (by omega) (by omega) (by omega) (by omega)]
      simp
     rw [bU] at dv
     have su:(e:Int)-((w*z:Nat):Int)=((e-w*z:Nat):Int):=by omega
     refine zE (ρ' :=[.dat (eY rs), .dat (.int (k:Int)), .dat (.int (y:Int)), .dat (.int ((e-w*z:Nat):Int)), .dat (.int (z:Int)), .dat (fB (sizes rs)), .dat (fH (.times a c)), .un, .un]) (by simp! only [fH,gG,dd,mu,su,dm]) ?_
     have hT1:stretch (aD (c-w) ((texts rs).getD a [])).flatten y (e-w*z)=T:=by
      rw [←ht,tx,abi _ c s e (by rw [tl,bU,←sz];omega) (by omega) (by omega),tl,←hw,←hy]
     have cz:z*c=w*z+(c-w)*z:=by
      rw [←Nat.add_mul,bU]
      congr 1
      omega
     have iS' :s0=0→y=0:=fun q=>by rw [hy,iS q];exact Nat.zero_mod _
     have iE' :e0=lD rs (some k0)→e-w*z=(c-w)*z:=fun q=>by have:=iE q;omega
     refine aek (by simp! only [show¬(z:Int)≤(y:Int) by omega]) ?_
     by_cases h4:e-w*z≤z
     ·refine agH (by simp! only [show((e-w*z:Nat):Int)≤(z:Int) by omega]) (abj (jT (ρ' :=[.dat (eY rs), .dat (.int (a:Int)), .dat (.int (y:Int)), .dat (.int ((e-w*z:Nat):Int)), .dat (.int (z:Int)), .dat (fB (sizes rs)), .dat (fH (.times a c)), .un, .un]) (by simp! only [fH,gR]) ⟨a,ok.1,y,e-w*z,_,_,rfl,ha,by omega,by omega,?_,by have:=ok.1;omega,iS',fun q=>by
       have h5:=iE' q
       have h6:1*z≤(c-w)*z:=Nat.mul_le_mul_right z (by omega)
       rw [Nat.one_mul] at h6
       omega,by
       have h7:z≤z*c:=Nat.le_mul_of_pos_right z (by have:=ok.2.1;omega)
       omega⟩))
      rw [←hT1,show c-w=1+(c-w-1) by omega,Jm]
      have e7:(aD 1 ((texts rs).getD a [])).flatten=(texts rs).getD a []:=by simp
      rw [e7,Bm (by omega)]
     ·refine aek (by simp! only [show¬((e-w*z:Nat):Int)≤(z:Int) by omega]) (afu (over a y (e-w*z) (.inr ⟨c,rfl⟩) (by omega) (by omega) (by omega) ?_ iS' (fun q=> .inr ⟨c,c-w,rfl,by rw [iE' q,hzz]⟩) _))
      rw [←hT1,tx,Zq _ c (c-w) (by omega),Bm (by rw [rR,tl];omega)]
   ·rintro ρ ⟨k,d2,d3,k4,k6,rfl,hk,ht⟩
    exact jB (d:= .tuple [eY rs, .int (k:Int)]) (by simp! only [bt]) ⟨[],some k,by rw [aJ];rfl,by rw [aJ];exact g,by rw [aJ];exact f,by simp,gh.some (by simp;omega),by rw [aJ];exact ht,by simp,fun _=>⟨by simp,cX _,Pos.get g hk0⟩⟩
 obtain⟨d,hd,qs,n',rfl,h⟩:=Gh (ks:=[.dat, .dat, .dat, .dat]) (n:=5) (m:=Ij) (ds:=[eY rs,eZ n, .int (s:Int), .int (e:Int)]) run
 exact⟨qs,n',hd,h⟩
theorem aic(rs:List Rule)(g:Good rs)(f:Fits MOST rs)(hl:rs.length≤200000)(n:Option Nat)(hn:gh rs n)(s e:Nat)(hse:s≤e)(he:e≤lD rs n):
 ∃qs n',vq [eY rs,eZ n, .int (s:Int), .int (e:Int)]= .ok (.tuple [eY (rs++qs),eZ n'])∧Good (rs++qs)∧Fits MOST (rs++qs)∧qs.length≤4*rs.length+4∧gh (rs++qs) n' ∧iG (rs++qs) n' =stretch (iG rs n) s e∧∀k,n=some k→qs.length≤4*k+4∧(s=0∨e=lD rs n→qs.length≤2*k+4):=by
 obtain⟨qs,n',h1,h2,h3,h4,h5,h6,h7⟩:=ajj rs g f hl n hn s e hse he
 exact⟨qs,n',h1,h2,h3,h4,h5,h6,fun k hk=>⟨(h7 k hk).1,fun q=>((h7 k hk).2 q).1⟩⟩
end Sb
namespace Sb
open PySem PySem.Spec L2 Evl DL
def Vn:Rule→List Key
 | .sign c=>[.inr SIGN, .inr (s1 c)]
 | .join a b=>[.inr JOIN, .inl (a:Int), .inl (b:Int)]
 | .times a n=>[.inr TIMES, .inl (a:Int), .inl (n:Int)]
theorem abM(r:Rule):bL ((Vn r).map keyD)=fH r:=by cases r<;>rfl
theorem uU(r:Rule):zf (fH r)=some (Vn r):=by cases r<;>rfl
theorem aaT{r q:Rule}(h:Vn r=Vn q):r=q:=Mv (by rw [←abM,←abM,h])
def oA(qs:List Rule):List (D×D):=qs.zipIdx.map fun p=>(fH p.1,aF ((p.2:Nat):Int))
theorem Mx(qs:List Rule)(r:Rule):oA (qs++[r])=oA qs++[(fH r,aF ((qs.length:Nat):Int))]:=by
 unfold oA
 rw [List.zipIdx_append,cC]
 simp
theorem afE(qs:List Rule):(oA qs).length=qs.length:=by simp [oA]
theorem ahn(r:Rule):∀qs:List Rule,(oA qs).any (fun q=>decide (zf q.1=some (Vn r)))=decide (r∈qs):=by
 refine snocInd (by simp [oA]) fun qs q ih=> ?_
 rw [Mx,List.any_append,ih]
 by_cases e:q=r
 ·subst e
  simp [uU]
 ·have k0:¬(zf (fH q)=some (Vn r)):=fun z=>e (aaT (by rw [uU] at z;exact Option.some.inj z))
  have e' :¬r=q:=fun z=>e z.symm
  simp [k0,e']
theorem Mp(r:Rule):∀qs:List Rule,(∀x:Nat,¬r∈qs→yD (oA qs) (Vn r)=none)∧(∀x:Nat,qs.Nodup→qs[x]? =some r→yD (oA qs) (Vn r)=some (.int ((x:Nat):Int))):=by
 refine snocInd ⟨fun _ _=>rfl,fun x _ h=>by simp at h⟩ fun qs q ih=> ?_
 unfold yD at ih⊢
 rw [Mx,List.find?_append]
 constructor
 ·intro x h
  have h1:¬r∈qs:=fun z=>h (by simp [z])
  have e:¬q=r:=fun z=>h (by simp [z])
  have k0:¬(zf (fH q)=some (Vn r)):=fun z=>e (aaT (by rw [uU] at z;exact Option.some.inj z))
  have:=ih.1 0 h1
  rw [Option.map_eq_none_iff] at this
  rw [this]
  simp [k0]
 ·intro x nd h
  rw [cA] at nd
  by_cases hx:x<qs.length
  ·rw [aO hx] at h
   have:=ih.2 x nd.1 h
   rw [aP] at this
   obtain⟨p,hp,e⟩:=this
   rw [hp]
   simp [e]
  ·have hl:=(au.mp h).1
   have ex:x=qs.length:=by simp at hl;omega
   subst ex
   have eq:q=r:=by simpa using h
   subst eq
   have h1:¬q∈qs:=fun z=>nd.2.2 q z q (by simp) rfl
   have:=ih.1 0 h1
   rw [Option.map_eq_none_iff] at this
   rw [this]
   simp [uU]
theorem aiv(qs:List Rule)(r:Rule)(nd:qs.Nodup):aax true (fH r) (tD (oA qs))= .ok (.bool (decide (¬r∈qs))):=by
 simp only [aax,uU]
 congr 2
 by_cases h:r∈qs
 ·obtain⟨x,hx,e⟩:=List.getElem_of_mem h
  rw [(Mp r qs).2 x nd (by simp [hx,e])]
  simp [h]
 ·rw [(Mp r qs).1 0 h]
  simp [h]
theorem ZF(qs:List Rule)(r:Rule)(nd:qs.Nodup)(x:Nat)(hx:qs[x]? =some r):FT (tD (oA qs)) (fH r)= .ok (.int ((x:Nat):Int)):=by
 simp only [FT,uU,(Mp r qs).2 x nd hx]
theorem ab8(qs:List Rule)(r:Rule)(h:¬r∈qs):QZ (oA qs) (Vn r) (.int ((qs.length:Nat):Int))=oA (qs++[r]):=by
 unfold QZ
 rw [ahn,if_neg (by simp [h]),abM,Mx]
theorem acS{r:Rule}{f f' :Nat→Nat}(h:∀a∈r.parts,f a=f' a):r.qF f=r.qF f' :=by
 cases r with
 |sign c=>rfl
 |join a b=>rw [Rule.qF,Rule.qF,h a (by simp [Rule.parts]),h b (by simp [Rule.parts])]
 |times a n=>rw [Rule.qF,Rule.qF,h a (by simp [Rule.parts])]
theorem aiD{r:Rule}{f:Nat→Nat}{ts ts' :List (List Nat)}(h:∀a∈r.parts,ts'.getD (f a) []=ts.getD a []):(r.qF f).tx ts' =r.tx ts:=by
 cases r with
 |sign c=>rfl
 |join a b=>simp only [Rule.qF,Rule.tx,h a (by simp [Rule.parts]),h b (by simp [Rule.parts])]
 |times a n=>simp only [Rule.qF,Rule.tx,h a (by simp [Rule.parts])]
theorem ajs{r:Rule}{f:Nat→Nat}{i n:Nat}(ok:r.ok i)(h:∀a∈r.parts,f a<n):(r.qF f).ok n:=by
 cases r with
 |sign c=>exact ok
 |join a b=>exact⟨h a (by simp [Rule.parts]),h b (by simp [Rule.parts])⟩
 |times a m=>exact⟨h a (by simp [Rule.parts]),ok.2⟩
structure Td(rs:List Rule)(ks:List Nat)(qs:List Rule)(f:Nat→Nat):Prop where
 g:Good qs
 fits:Fits MOST qs
 nd:qs.Nodup
 len:qs.length≤ks.length
 lt:∀i∈ks,f i<qs.length
 tx:∀i∈ks,(texts qs).getD (f i) []=(texts rs).getD i []
 row:∀i∈ks,∀r,rs[i]? =some r→qs[f i]? =some (r.qF f)
 hit:∀x,x<qs.length→∃i∈ks,f i=x
theorem Td.step{rs:List Rule}(g:Good rs)(fr:Fits MOST rs){ks:List Nat}{qs:List Rule}{f:Nat→Nat}(h:Td rs ks qs f){i:Nat}{r:Rule}(hr:rs[i]? =some r)(hp:∀a∈r.parts,a∈ks)(hc:∀j∈ks,∀q,rs[j]? =some q→∀a∈q.parts,a∈ks)(hi:¬i∈ks):
 (∀x,qs[x]? =some (r.qF f)→Td rs (ks++[i]) qs (fun y=>if y=i then x else f y))∧(¬r.qF f∈qs→Td rs (ks++[i]) (qs++[r.qF f]) (fun y=>if y=i then qs.length else f y)):=by
 have ok:=g i r hr
 have okr:(r.qF f).ok qs.length:=ajs ok fun a ha=>h.lt a (hp a ha)
 have txr:(r.qF f).tx (texts qs)=(texts rs).getD i []:=by
  rw [rY g hr]
  exact aiD fun a ha=>h.tx a (hp a ha)
 have ne:∀a∈ks,¬a=i:=fun a ha z=>hi (by rw [←z];exact ha)
 have agree:∀(x:Nat) (q:Rule),(∀a∈q.parts,a∈ks)→q.qF (fun y=>if y=i then x else f y)=q.qF f:=fun x q hq=>acS fun a ha=>by
  show(if a=i then x else f a)=f a
  rw [if_neg (ne a (hq a ha))]
 constructor
 ·intro x hx
  have hxl:=(au.mp hx).1
  refine⟨h.g,h.fits,h.nd,by have:=h.len;simp;omega,fun j hj=> ?_,fun j hj=> ?_,fun j hj q hq=> ?_,fun y hy=> ?_⟩
  ·rcases aM.mp hj with hj|hj
   ·show(if j=i then x else f j)<_
    rw [if_neg (ne j hj)]
    exact h.lt j hj
   ·rw [aR.mp hj]
    show(if i=i then x else f i)<_
    rw [if_pos rfl]
    exact hxl
  ·rcases aM.mp hj with hj|hj
   ·show(texts qs).getD (if j=i then x else f j) []=_
    rw [if_neg (ne j hj)]
    exact h.tx j hj
   ·rw [aR.mp hj]
    show(texts qs).getD (if i=i then x else f i) []=_
    rw [if_pos rfl,rY h.g hx,txr]
  ·rcases aM.mp hj with hj|hj
   ·show qs[(if j=i then x else f j)]? =_
    rw [if_neg (ne j hj),agree x q (hc j hj q hq)]
    exact h.row j hj q hq
   ·have ej:=aR.mp hj
    subst ej
    rw [hr] at hq
    cases hq
    show qs[(if j=j then x else f j)]? =_
    rw [if_pos rfl,agree x r hp]
    exact hx
  ·obtain⟨j,hj,e⟩:=h.hit y hy
   exact⟨j,bB _ hj,by show(if j=i then x else f j)=y;rw [if_neg (ne j hj)];exact e⟩
 ·intro hn
  have gq:Good (qs++[r.qF f]):=h.g.snoc okr
  have sz:(r.qF f).size (sizes qs)≤MOST:=by
   have:=xQ qs (r.qF f)
   rw [←this,←gU,lV,txr,gU]
   exact fr.get i
  refine⟨gq,h.fits.snoc sz,?_,by have:=h.len;simp;omega,fun j hj=> ?_,fun j hj=> ?_,fun j hj q hq=> ?_,fun y hy=> ?_⟩
  ·rw [cA]
   exact⟨h.nd,by simp,fun a ha b hb=>by
    rw [aR.mp hb]
    intro z
    rw [z] at ha
    exact hn ha⟩
  ·rcases aM.mp hj with hj|hj
   ·show(if j=i then qs.length else f j)<_
    rw [if_neg (ne j hj)]
    have:=h.lt j hj
    simp
    omega
   ·rw [aR.mp hj]
    show(if i=i then qs.length else f i)<_
    rw [if_pos rfl]
    simp
  ·rcases aM.mp hj with hj|hj
   ·show(texts (qs++[r.qF f])).getD (if j=i then qs.length else f j) []=_
    rw [if_neg (ne j hj),jg (h.lt j hj)]
    exact h.tx j hj
   ·rw [aR.mp hj]
    show(texts (qs++[r.qF f])).getD (if i=i then qs.length else f i) []=_
    rw [if_pos rfl,lV,txr]
  ·rcases aM.mp hj with hj|hj
   ·show(qs++[r.qF f])[(if j=i then qs.length else f j)]? =_
    rw [if_neg (ne j hj),agree qs.length q (hc j hj q hq),aO (h.lt j hj)]
    exact h.row j hj q hq
   ·have ej:=aR.mp hj
    subst ej
    rw [hr] at hq
    cases hq
    show(qs++[r.qF f])[(if j=j then qs.length else f j)]? =_
    rw [if_pos rfl,agree qs.length r hp]
    simp
  ·rw [aA,bQ] at hy
   by_cases e:y=qs.length
   ·exact⟨i,by simp,by show(if i=i then qs.length else f i)=y;rw [if_pos rfl,e]⟩
   ·obtain⟨j,hj,e2⟩:=h.hit y (by omega)
    exact⟨j,bB _ hj,by show(if j=i then qs.length else f j)=y;rw [if_neg (ne j hj)];exact e2⟩
theorem af6(f:Nat→Nat)(i x:Nat)(ks:List Nat):uI (Y9 (fun y=> .int ((f y:Nat):Int)) i (.int ((x:Nat):Int))) ks=uI (fun y=> .int (((if y=i then x else f y:Nat):Nat):Int)) ks:=Q5 fun j _=>by
 unfold Y9
 split
 ·rfl
 ·rfl
theorem aeJ(rs:List Rule)(g:Good rs)(f:Fits MOST rs)(hl:rs.length≤3000000)(n:Option Nat)(hn:gh rs n):∃ks qs fn,Ff rs n ks∧Td rs ks qs fn∧O2 rs ks=(qs,fn)∧Mj [eY rs,eZ n]= .ok (.tuple [eY qs,eZ (n.map fn)]):=by
 obtain⟨ks,ek,nk⟩:=aak rs g hl n hn
 have nm:=Xg rs n hn
 have kl:=nk.len
 obtain⟨L,hL⟩:∃L,L=eY rs:=⟨_,rfl⟩
 obtain⟨N,hN⟩:∃N,N=eZ n:=⟨_,rfl⟩
 have ixr:∀(a:Nat) r,rs[a]? =some r→fV L (.int (a:Int))= .ok (fH r):=fun a r h=>by rw [hL];exact sY h
 rw [←hL,←hN] at ek nm
 have loop:Nx (mV (iL (mG (fu pA [(d8 0),(d8 1)]))) (gN 5) (fG (gH 6 (fu nR [(eO fV (d8 0) (d8 5)),(gK 4)]))
 (fG (iQ (eO (aax true) (d8 6) (gK 3)) (Q6 3 (d8 6) (jP 2 j6 [(d8 6)])) fU)
 (oE 4 (d8 5) (eO FT (gK 3) (d8 6))))) [.dat (L), .dat (N), .own (fL []), .own (tD (oA [])), .own (.dict (uI (fun y=> .int (((fun _=>0) y:Nat):Int)) (ks.take 0))), .un, .un]) fun ρ=>∃(qs:List Rule) (fn:Nat→Nat) (k5 k6:Sl),ρ=[.dat (L), .dat (N), .own (fL qs), .own (tD (oA qs)), .own (.dict (uI (fun y=> .int ((fn y:Nat):Int)) (ks.take (ks.map fun(i:Nat)=>aF (i:Int)).length))),k5,k6]∧Td rs (ks.take (ks.map fun(i:Nat)=>aF (i:Int)).length) qs fn∧O2 rs (ks.take (ks.map fun(i:Nat)=>aF (i:Int)).length)=(qs,fn):=by
  refine nY (ds:=ks.map fun(i:Nat)=>aF (i:Int)) (fun j ρ=>∃(qs:List Rule) (fn:Nat→Nat) (k5 k6:Sl),ρ=[.dat (L), .dat (N), .own (fL qs), .own (tD (oA qs)), .own (.dict (uI (fun y=> .int ((fn y:Nat):Int)) (ks.take j))),k5,k6]∧Td rs (ks.take j) qs fn∧O2 rs (ks.take j)=(qs,fn)) (ad0 (kh rfl rfl ek)) ⟨[],fun _=>0,_,_,rfl,⟨Good.nil,fun n hn=>by simp [sizes,Ag] at hn, .nil,by simp,fun i hi=>by simp at hi,fun i hi=>by simp at hi,fun i hi=>by simp at hi,fun x hx=>by simp at hx⟩,rfl⟩ ?_
  rintro j d ρ hd ⟨qs,fn,k5,k6,rfl,td,tf⟩
  rw [aK,aP] at hd
  obtain⟨i,h1,rfl⟩:=hd
  have him:i∈ks:=bf h1
  have hir:i<rs.length:=nk.lt i him
  have et:ks.take (j+1)=ks.take j++[i]:=by
   rw [bH,h1]
   rfl
  obtain⟨ahead,notin⟩:=Vy nk.rise h1
  have hr:rs[i]? =some rs[i]:=by simp [hir]
  obtain⟨r,er⟩:∃r,r=rs[i]:=⟨_,rfl⟩
  rw [←er] at hr
  have ok:=g i r hr
  have hp:∀a∈r.parts,a∈ks.take j:=fun a ha=>ahead a (nk.clo i him r hr a ha) (uf ok a ha)
  have hc:∀q∈ks.take j,∀p,rs[q]? =some p→∀a∈p.parts,a∈ks.take j:=fun q hq p hpq a ha=>by
   have hqk:q∈ks:=List.mem_of_mem_take hq
   have hqi:q<i:=by
    obtain⟨y,hy,e⟩:=List.mem_take_iff_getElem.mp hq
    have hj:=(au.mp h1).1
    have hij:ks[j]=i:=(au.mp h1).2
    have:=cP.mp nk.rise y j (by omega) hj (by omega)
    omega
   have:=uf (g q p hpq) a ha
   exact ahead a (nk.clo q hqk p hpq a ha) (by omega)
  obtain⟨st1,st2⟩:=td.step g f hr hp hc notin
  have tf1:∀x,qs[x]? =some (r.qF fn)→O2 rs (ks.take j++[i])=(qs,fun y=>if y=i then x else fn y):=fun x hx=>by
   rw [SN,tf]
   exact ag4 hr td.nd hx
  have tf2:¬r.qF fn∈qs→O2 rs (ks.take j++[i])=(qs++[r.qF fn],fun y=>if y=i then qs.length else fn y):=fun hm=>by
   rw [SN,tf]
   exact aew hr hm
  have tl:=td.len
  have tkl:(ks.take j).length≤3000000:=by rw [aZ];omega
  have rn:=IV r i ok fn (.dict (uI (fun y=> .int ((fn y:Nat):Int)) (ks.take j))) (fun a ha=>by
   rw [Wc]
   simp only [jE,zA,if_true,DL.keyOf,Kh _ a _ (hp a ha)])
  obtain⟨q,hq⟩:∃q,q=r.qF fn:=⟨_,rfl⟩
  rw [←hq] at st1 st2 rn tf1 tf2
  have hz:∀F:Nat→D,(uI F (ks.take j)).length<sizeLine:=fun F=>by rw [ab0];exact lM (by omega)
  refine⟨_,pP,?_⟩
  simp only [set_0,kW]
  refine iD (ρ' :=[.dat (L), .dat (N), .own (fL qs), .own (tD (oA qs)), .own (.dict (uI (fun y=> .int ((fn y:Nat):Int)) (ks.take j))), .dat (.int (i:Int)), .dat (fH q)]) (by simp! only [ixr i r hr,rn]) ?_
  have ki:=aiv qs q td.nd
  rw [et]
  by_cases hin:q∈qs
  ·obtain⟨x,hx,ex⟩:=List.getElem_of_mem hin
   have hx2:qs[x]? =some q:=by simp [hx,ex]
   have kg:=ZF qs q td.nd x hx2
   rw [decide_eq_false (fun z=>z hin)] at ki
   refine iD (ρ' :=[.dat (L), .dat (N), .own (fL qs), .own (tD (oA qs)), .own (.dict (uI (fun y=> .int ((fn y:Nat):Int)) (ks.take j))), .dat (.int (i:Int)), .dat (fH q)]) (by
    rw [vU (by simp only [jK,jM,jZ,uY,zF,iy];exact ki)]
    rfl) ?_
   refine jT (ρ' :=[.dat (L), .dat (N), .own (fL qs), .own (tD (oA qs)), .own (.dict (uI (fun y=> .int (((if y=i then x else fn y:Nat):Nat):Int)) (ks.take j++[i]))), .dat (.int (i:Int)), .dat (fH q)]) ?_ ⟨qs,_,_,_,rfl,st1 x hx2,tf1 x hx2⟩
   have ev:eO FT (gK 3) (d8 6) [.dat (L), .dat (N), .own (fL qs), .own (tD (oA qs)), .own (.dict (uI (fun y=> .int ((fn y:Nat):Int)) (ks.take j))), .dat (.int (i:Int)), .dat (fH q)]= .ok (.int ((x:Nat):Int)):=by
    simp only [jK,jM,jZ,uY,zF,iy]
    exact kg
   simp only [oE,ev,jM,jZ,aW,aQ,DL.keyOf,hz,if_true,zA,acy _ i _ _ notin,set_0,kW]
   rw [af6]
  ·rw [decide_eq_true hin] at ki
   have pu:=Yz qs q (by omega)
   have nd2:=(st2 hin).nd
   have kg:=ZF (qs++[q]) q nd2 qs.length (by simp)
   have kz:(oA qs).length<sizeLine:=by rw [afE];exact lM (by omega)
   have ex:jP 2 j6 [(d8 6)] [.dat (L), .dat (N), .own (fL qs), .own (tD (oA qs)), .own (.dict (uI (fun y=> .int ((fn y:Nat):Int)) (ks.take j))), .dat (.int (i:Int)), .dat (fH q)]= .ok (.int ((qs.length:Nat):Int)) [.dat (L), .dat (N), .own (fL (qs++[q])), .own (tD (oA qs)), .own (.dict (uI (fun y=> .int ((fn y:Nat):Int)) (ks.take j))), .dat (.int (i:Int)), .dat (fH q)]:=by
    have ev:ou [(d8 6)] [.dat (L), .dat (N), .own (fL qs), .own (tD (oA qs)), .own (.dict (uI (fun y=> .int ((fn y:Nat):Int)) (ks.take j))), .dat (.int (i:Int)), .dat (fH q)]= .ok [fH q]:=by simp! only [ou]
    simp only [jP,aQ,aW,ev,pu]
    rfl
   refine iD (ρ' :=[.dat (L), .dat (N), .own (fL (qs++[q])), .own (tD (oA (qs++[q]))), .own (.dict (uI (fun y=> .int ((fn y:Nat):Int)) (ks.take j))), .dat (.int (i:Int)), .dat (fH q)]) (by
    rw [Dt (by simp only [jK,jM,jZ,uY,zF,iy];exact ki)]
    simp only [Q6,ex,jM,jZ,aW,aQ,uU,kz,if_true,ab8 qs q hin,set_0,kW]) ?_
   refine jT (ρ' :=[.dat (L), .dat (N), .own (fL (qs++[q])), .own (tD (oA (qs++[q]))), .own (.dict (uI (fun y=> .int (((if y=i then qs.length else fn y:Nat):Nat):Int)) (ks.take j++[i]))), .dat (.int (i:Int)), .dat (fH q)]) ?_ ⟨qs++[q],_,_,_,rfl,st2 hin,tf2 hin⟩
   have ev:eO FT (gK 3) (d8 6) [.dat (L), .dat (N), .own (fL (qs++[q])), .own (tD (oA (qs++[q]))), .own (.dict (uI (fun y=> .int ((fn y:Nat):Int)) (ks.take j))), .dat (.int (i:Int)), .dat (fH q)]= .ok (.int ((qs.length:Nat):Int)):=by
    simp only [jK,jM,jZ,uY,zF,iy]
    exact kg
   simp only [oE,ev,jM,jZ,aW,aQ,DL.keyOf,hz,if_true,zA,acy _ i _ _ notin,set_0,kW]
   rw [af6]
 rw [aC,bV] at loop
 obtain⟨ρ1,lo,qs,fn,k5,k6,rfl,td,tf⟩:=loop
 refine⟨ks,qs,fn,nk,td,tf,?_⟩
 have key:∀d,uL (gK 4) (d8 1) [.dat (L), .dat (N), .own (fL qs), .own (tD (oA qs)), .own (.dict (uI (fun y=> .int ((fn y:Nat):Int)) ks)),k5,k6]= .ok d→Mj [L,N]= .ok (.tuple [eY qs,d]):=fun d hd=>by
  refine jD ?_
  show Rt (aco [.dat (L), .dat (N), .un, .un, .un, .un, .un]) _
  unfold aco
  refine fP (ρ' :=[.dat (L), .dat (N), .un, .un, .un, .un, .un]) (XD (kh rfl rfl nm)) ?_
  refine fP (ρ' :=[.dat (L), .dat (N), .own (fL []), .un, .un, .un, .un]) (by simp! only [];rfl) ?_
  refine fP (ρ' :=[.dat (L), .dat (N), .own (fL []), .own (tD (oA [])), .un, .un, .un]) rfl ?_
  refine fP (ρ' :=[.dat (L), .dat (N), .own (fL []), .own (tD (oA [])), .own (.dict (uI (fun y=> .int (((fun _=>0) y:Nat):Int)) (ks.take 0))), .un, .un]) rfl ?_
  refine fP lo ?_
  have bt:lW [fL qs]= .ok (eY qs):=rfl
  exact jB (by simp! only [hd,bt]) rfl
 rw [←hL,←hN]
 cases n with
 |none=>
  refine key .none ?_
  rw [hN]
  simp! only [uL,eZ,zA,if_true]
  rfl
 |some k=>
  have hk:=nk.2.top
  refine key _ ?_
  rw [hN]
  simp! only [uL,eZ,aa4,TQ,zA,if_true,DL.keyOf,Kh _ k _ hk]
  rfl
theorem aiP(rs:List Rule)(g:Good rs)(f:Fits MOST rs)(hl:rs.length≤3000000)(n:Option Nat)(hn:gh rs n):∃ks qs fn,Ff rs n ks∧Td rs ks qs fn∧Mj [eY rs,eZ n]= .ok (.tuple [eY qs,eZ (n.map fn)]):=by
 obtain⟨ks,qs,fn,a,b,_,c⟩:=aeJ rs g f hl n hn
 exact⟨ks,qs,fn,a,b,c⟩
end Sb
namespace Sb
open PySem PySem.Spec L2 Evl DL
theorem aaU(c:Int)(h0:0≤c)(h1:c<10 ^ 100)(n:Nat)(hn:1≤n)(hm:n≤2 ^ 100):∃p:Nat,p<n∧nJ [.int c, .int (n:Int)]= .ok (.int (p:Int)):=by
 by_cases e0:c%4=0
 ·have a0:=cO (c/4) (show min (n:Int) 3≠0 by omega)
  have a1:=bW (c/4) (show(0:Int)<min (n:Int) 3 by omega)
  refine⟨(c/4%min (n:Int) 3).toNat,by omega,?_⟩
  rw [Int.toNat_of_nonneg a0]
  simp(disch:=omega) only [nJ,wD,jh,j9,aD,fG,iQ,gA,gH,jG,qI,mF,oU,wM,eIf,dX,Int.reduceLT,Int.reduceLE,Int.reduceEq,cW,dN,aC,beq_self_eq_true,aeQ,o9,pD,jo,wg,Gu,Int.reducePow,Int.reduceToNat,Int.reduceNeg,Int.reduceAdd,Int.reduceSub,Int.reduceMul,Int.reduceDiv,Int.reduceMod,e0]
 ·by_cases e1:c%4=1
  ·have a0:=cO (c/4) (show min (n:Int) 3≠0 by omega)
   have a1:=bW (c/4) (show(0:Int)<min (n:Int) 3 by omega)
   refine⟨((n:Int)-1-c/4%min (n:Int) 3).toNat,by omega,?_⟩
   rw [Int.toNat_of_nonneg (by omega)]
   simp(disch:=omega) only [nJ,wD,jh,j9,aD,fG,iQ,gA,gH,jG,qI,mF,oU,wM,eIf,dX,Int.reduceLT,Int.reduceLE,Int.reduceEq,cW,dN,aC,beq_self_eq_true,aeQ,o9,pD,jo,wg,Gu,Int.reducePow,Int.reduceToNat,Int.reduceNeg,Int.reduceAdd,Int.reduceSub,Int.reduceMul,Int.reduceDiv,Int.reduceMod,e0,e1]
  ·have a0:=cO (c/4*1152921504606846883) (show(n:Int)≠0 by omega)
   have a1:=bW (c/4*1152921504606846883) (show(0:Int)<(n:Int) by omega)
   refine⟨(c/4*1152921504606846883%(n:Int)).toNat,by omega,?_⟩
   rw [Int.toNat_of_nonneg a0]
   simp(disch:=omega) only [nJ,wD,jh,j9,aD,fG,iQ,gA,gH,jG,qI,mF,oU,wM,eIf,dX,Int.reduceLT,Int.reduceLE,Int.reduceEq,cW,dN,aC,beq_self_eq_true,aeQ,o9,pD,jo,wg,Gu,Int.reducePow,Int.reduceToNat,Int.reduceNeg,Int.reduceAdd,Int.reduceSub,Int.reduceMul,Int.reduceDiv,Int.reduceMod,e0,e1]
end Sb
namespace Sb
open PySem PySem.Spec L2 Evl DL
theorem agq{ns:List Int}(hb:∀z∈ns,Builtin.Int.intBits z≤1048576)(k:Nat)(hk:k≤1000):∃c:Int,oM [.list (ns.map aF), .int (k:Int)]= .ok (.int c)∧0≤c∧c<10 ^ 40:=by
 have hp:vW (.int 10) (.int 40)= .ok (.int (10 ^ 40)):=wg (by decide) (by decide) (by decide)
 have hM:(0:Int)<10 ^ 40:=by decide
 have e0:∀z:Int,0≤z%10 ^ 40∧z%10 ^ 40<10 ^ 40:=fun z=>⟨cO _ (by decide),bW _ hM⟩
 by_cases h:k<ns.length
 ·have hi:=Kw (ns:=ns) (i:=(k:Int)) (by omega) (by omega)
  have hm:=aeE (i:=ns[k]) (j:=2718281828459045235360287471352662497757) 132 (hb _ (dh h)) (by decide)
  simp only [cY] at hi
  have hlt:(k:Int)<(ns.length:Int):=by omega
  have mw:=pD (i:=ns[k]%10 ^ 40) (j:=2718281828459045235360287471352662497757) (by have:=(e0 ns[k]).1;omega) (by have:=(e0 ns[k]).2;omega) (by decide) (by decide)
  first
  |(refine⟨ns[k]*2718281828459045235360287471352662497757%10 ^ 40,?_,(e0 _).1,(e0 _).2⟩
    simp! only [oM,tV,hlt,hi,hm,hp,jo hM]
    done)
  |(refine⟨ns[k]%10 ^ 40*2718281828459045235360287471352662497757%10 ^ 40,?_,(e0 _).1,(e0 _).2⟩
    simp! only [oM,tV,hlt,hi,mw,hp,jo hM]
    done)
 ·have hge:¬(k:Int)<(ns.length:Int):=by omega
  obtain⟨L,hL⟩:∃L,L=cJ (ns.map aF):=⟨_,rfl⟩
  have lenL:je [L]= .ok (.int ns.length):=by rw [hL];simp
  have kk0:(0:Int)≤(k:Int)*k:=Int.mul_nonneg (by omega) (by omega)
  have kk1:(k:Int)*k≤1000*1000:=Int.mul_le_mul (by omega) (by omega) (by omega) (by omega)
  have kkk0:(0:Int)≤(k:Int)*k*k:=Int.mul_nonneg kk0 (by omega)
  have kkk1:(k:Int)*k*k≤1000*1000*1000:=Int.mul_le_mul (by omega) (by omega) (by omega) (by omega)
  obtain⟨N,hN0,hN1,hN⟩:∃N:Int,0≤N∧N<10 ^ 60∧iQ (eO Zd (fu je [(d8 0)]) (eC (.int 0))) (gH 2 (eO iH (d8 2) (eO lN (eO jJ (eO fV (d8 0) (eO jJ (eO lN (d8 1) (eC (.int 7))) (fu je [(d8 0)]))) (eO vW (eC (.int 10)) (eC (.int 40)))) (eO iH (eC (.int 48271)) (eO lN (eC (.int 2)) (d8 1)))))) fU [.dat (L), .dat (.int (k:Int)), .dat (.int ((k:Int)*k*7919+5))]= .nx [.dat (L), .dat (.int (k:Int)), .dat (.int N)]:=by
   by_cases hl:ns.length=0
   ·exact⟨(k:Int)*k*7919+5,by omega,by omega,by simp! only [lenL,show¬(0:Int)<(ns.length:Int) by omega]⟩
   ·have hpos:(0:Int)<(ns.length:Int):=by omega
    have i0:0≤(k:Int)*7%(ns.length:Int):=cO _ (by omega)
    have i1:(k:Int)*7%(ns.length:Int)<(ns.length:Int):=bW _ hpos
    have hi:=Kw (ns:=ns) i0 i1
    rw [←hL] at hi
    obtain⟨v,hv⟩:∃v,v=ns[((k:Int)*7%(ns.length:Int)).toNat]'(by omega):=⟨_,rfl⟩
    rw [←hv] at hi
    have r:=e0 v
    obtain⟨u,hu⟩:∃u,u=v%10 ^ 40:=⟨_,rfl⟩
    have mv:jJ (.int v) (.int (10 ^ 40))= .ok (.int u):=by rw [jo hM,hu]
    rw [←hu] at r
    have um:(0:Int)≤u*(48271+2*(k:Int)):=Int.mul_nonneg r.1 (by omega)
    have um2:u*(48271+2*(k:Int))≤10 ^ 40*(48271+2000):=Int.mul_le_mul (by omega) (by omega) (by omega) (by omega)
    refine⟨(k:Int)*k*7919+5+u*(48271+2*(k:Int)),by omega,by omega,?_⟩
    have m3:lN (.int (k:Int)) (.int 7)= .ok (.int ((k:Int)*7)):=pD (by omega) (by omega) (by omega) (by omega)
    have m4:lN (.int 2) (.int (k:Int))= .ok (.int (2*(k:Int))):=pD (by omega) (by omega) (by omega) (by omega)
    have m5:lN (.int u) (.int (48271+2*(k:Int)))= .ok (.int (u*(48271+2*(k:Int)))):=pD (by omega) (by omega) (by omega) (by omega)
    simp! only [lenL,hpos,m3,jo hpos,hi,hp,mv,m4,m5]
  have m1:lN (.int (k:Int)) (.int (k:Int))= .ok (.int ((k:Int)*k)):=pD (by omega) (by omega) (by omega) (by omega)
  have m2:lN (.int ((k:Int)*k)) (.int 7919)= .ok (.int ((k:Int)*k*7919)):=pD (by omega) (by omega) (by omega) (by omega)
  have m3:lN (.int ((k:Int)*k)) (.int (k:Int))= .ok (.int ((k:Int)*k*k)):=pD (by omega) (by omega) (by omega) (by omega)
  have mN:lN (.int N) (.int N)= .ok (.int (N*N)):=pD (by omega) (by omega) (by omega) (by omega)
  have P0:=cO (N*N) (show(2147483629:Int)≠0 by decide)
  have P1:=bW (N*N) (show(0:Int)<2147483629 by decide)
  have mP:jJ (.int (N*N)) (.int 2147483629)= .ok (.int (N*N%2147483629)):=jo (by decide)
  obtain⟨M,hMM⟩:∃M,M=N*N%2147483629:=⟨_,rfl⟩
  rw [←hMM] at P0 P1 mP
  have m6:lN (.int (M+(k:Int)*k*k+16807)) (.int (M+69621))= .ok (.int ((M+(k:Int)*k*k+16807)*(M+69621))):=pD (by omega) (by omega) (by omega) (by omega)
  obtain⟨U,hU⟩:∃U,U=(M+(k:Int)*k*k+16807)*(M+69621):=⟨_,rfl⟩
  rw [←hU] at m6
  have Q0:=cO U (show(4611686018427387847:Int)≠0 by decide)
  have Q1:=bW U (show(0:Int)<4611686018427387847 by decide)
  have mQ:jJ (.int U) (.int 4611686018427387847)= .ok (.int (U%4611686018427387847)):=jo (by decide)
  have m7:lN (.int (U%4611686018427387847)) (.int 2718281828459045235360287471352662497757)= .ok (.int (U%4611686018427387847*2718281828459045235360287471352662497757)):=pD (by omega) (by omega) (by omega) (by omega)
  refine⟨U%4611686018427387847*2718281828459045235360287471352662497757%10 ^ 40,?_,(e0 _).1,(e0 _).2⟩
  rw [←hL]
  refine jD ?_
  show Rt (tV [.dat (L), .dat (.int (k:Int)), .un]) _
  unfold tV
  refine fP (ρ' :=[.dat (L), .dat (.int (k:Int)), .un]) (by simp! only [lenL,hge]) ?_
  refine fP (ρ' :=[.dat (L), .dat (.int (k:Int)), .dat (.int ((k:Int)*k*7919+5))]) (by simp! only [m1,m2]) ?_
  refine fP hN ?_
  refine fP (ρ' :=[.dat (L), .dat (.int (k:Int)), .dat (.int M)]) (by simp! only [mN,mP]) ?_
  refine fP (ρ' :=[.dat (L), .dat (.int (k:Int)), .dat (.int (U%4611686018427387847))]) (by simp! only [m1,m3,m6,mQ]) ?_
  exact jB (by simp! only [m7,hp,jo hM]) rfl
theorem agk{ns:List Int}(hlen:ns.length≤63)(hb:∀z∈ns,Builtin.Int.intBits z≤1048576)(a most:Nat)(ham:a≤most)(hm:most≤900):
 ∃ds:List Int,vY [.list (ns.map aF), .int (a:Int), .int (most:Int)]= .ok (.list (ds.map aF))∧a≤ds.length∧ds.length≤most∧∀c∈ds,0≤c∧c<10 ^ 40:=by
 have hp:vW (.int 10) (.int 40)= .ok (.int (10 ^ 40)):=wg (by decide) (by decide) (by decide)
 obtain⟨L,hL⟩:∃L,L=cJ (ns.map aF):=⟨_,rfl⟩
 have lenL:je [L]= .ok (.int ns.length):=by rw [hL];simp
 have ls:qZ [L]= .ok (.list (ns.map aF)):=by rw [hL];rfl
 have mx:∀k:Nat,k≤1000→∃c:Int,oM [L, .int (k:Int)]= .ok (.int c)∧0≤c∧c<10 ^ 40:=fun k hk=>by rw [hL];exact agq hb k hk
 have run:Rt (vR [.dat (L), .dat (.int (a:Int)), .dat (.int (most:Int)), .un, .un, .un, .un]) (fun d=>∃ds:List Int,d= .list (ds.map aF)∧a≤ds.length∧ds.length≤most∧∀c∈ds,0≤c∧c<10 ^ 40):=by
  unfold vR
  refine fP (ρ' :=[.dat (L), .dat (.int (a:Int)), .dat (.int (most:Int)), .own (.list (ns.map aF)), .un, .un, .un]) (by simp! only [ls]) ?_
  refine ajY (M:=fun ρ=>∃k3 k4 k5 k6:Sl,ρ=[.dat (L), .dat (.int (a:Int)), .dat (.int (most:Int)),k3,k4,k5,k6]) ?_ ?_
  ·by_cases h0:ns.length=0
   ·exact aek (by simp! only [show¬(0:Int)<(ns.length:Int) by omega]) (abj (jT rfl ⟨_,_,_,_,rfl⟩))
   refine agH (by simp! only [show(0:Int)<(ns.length:Int) by omega]) ?_
   have x0:=Kw (ns:=ns) (i:=0) (by decide) (by omega)
   obtain⟨v,hv⟩:∃v,v=ns[(0:Int).toNat]'(by simp;omega):=⟨_,rfl⟩
   rw [←hv] at x0
   have d0:=cO v (show((most:Int)-(a:Int)+1)≠0 by omega)
   have d1:=bW v (show(0:Int)<(most:Int)-(a:Int)+1 by omega)
   obtain⟨many,hmany⟩:∃many:Nat,(many:Int)=(a:Int)+v%((most:Int)-(a:Int)+1):=⟨((a:Int)+v%((most:Int)-(a:Int)+1)).toNat,by omega⟩
   refine zE (ρ' :=[.dat (L), .dat (.int (a:Int)), .dat (.int (most:Int)), .own (.list (ns.map aF)), .dat (.int (many:Int)), .un, .un]) (by dsimp! only [x0,jo,hmany]) ?_
   obtain⟨cs,hcs⟩:∃cs:List Int,cs=ns.set 0 (v/((most:Int)-(a:Int)+1)):=⟨_,rfl⟩
   have csl:cs.length=ns.length:=by rw [hcs];simp
   refine zE (ρ' :=[.dat (L), .dat (.int (a:Int)), .dat (.int (most:Int)), .own (.list (cs.map aF)), .dat (.int (many:Int)), .un, .un]) (by
    have ev:eO lX (eO fV (gK 3) (eC (.int 0))) (eO iH (eO nj (d8 2) (d8 1)) (eC (.int 1))) [.dat (L), .dat (.int (a:Int)), .dat (.int (most:Int)), .own (.list (ns.map aF)), .dat (.int (many:Int)), .un, .un]= .ok (.int (v/((most:Int)-(a:Int)+1))):=by dsimp! only [x0,o9]
    have ix:ixN (ns.map aF).length 0=some 0:=by
     unfold ixN
     rw [aC,if_pos (by decide),if_pos (by omega)]
     rfl
    simp only [UL,ev,aec,aW,aQ,ix,set_0,kW,hcs]
    rw [List.map_set]) ?_
   refine zE (ρ' :=[.dat (L), .dat (.int (a:Int)), .dat (.int (most:Int)), .own (.list (cs.map aF)), .dat (.int (many:Int)), .own (.list (([]:List Int).map aF)), .un]) (by simp! only [];rfl) ?_
   have loop:=nY (mi:=Vh (d8 4)) (g:=gN 6) (body:=fG (mW 5 (eO jJ (eO fV (gK 3) (eO jJ (d8 6) (fu je [(gK 3)]))) (eO vW (eC (.int 10)) (eC (.int 40)))))
 (UL 3 (eO jJ (d8 6) (fu je [(gK 3)])) (eO lX (eO fV (gK 3) (eO jJ (d8 6) (fu je [(gK 3)]))) (eO vW (eC (.int 10)) (eC (.int 40))))))
    (ρ:=[.dat (L), .dat (.int (a:Int)), .dat (.int (most:Int)), .own (.list (cs.map aF)), .dat (.int (many:Int)), .own (.list (([]:List Int).map aF)), .un]) (ds:=(di many).map fun(i:Nat)=>aF (i:Int))
    (fun i ρ=>∃(cs ds:List Int) (k6:Sl),ρ=[.dat (L), .dat (.int (a:Int)), .dat (.int (most:Int)), .own (.list (cs.map aF)), .dat (.int (many:Int)), .own (.list (ds.map aF)),k6]∧cs.length=ns.length∧ds.length=i∧∀c∈ds,0≤c∧c<10 ^ 40)
    (by rw [←Dy];exact aae rfl (by omega) (by omega)) ⟨cs,[],_,rfl,csl,rfl,fun c hc=>absurd hc bG⟩ (by
     rintro i d ρ hd ⟨cs,ds,k6,rfl,csl,dsl,hds⟩
     rw [aK,aP] at hd
     obtain⟨j,h1,rfl⟩:=hd
     have hi:=(au.mp h1).1
     have hij:j=i:=by
      have:=(au.mp h1).2
      simpa using this.symm
     subst hij
     have hj:j<many:=by simpa using hi
     have p0:(0:Int)<(cs.length:Int):=by omega
     have y0:=cO (j:Int) (show(cs.length:Int)≠0 by omega)
     have y1:=bW (j:Int) p0
     have hx:=Kw (ns:=cs) y0 y1
     obtain⟨u,hu⟩:∃u,u=cs[((j:Int)%(cs.length:Int)).toNat]'(by omega):=⟨_,rfl⟩
     rw [←hu] at hx
     have r0:=cO u (show(10 ^ 40:Int)≠0 by decide)
     have r1:=bW u (show(0:Int)<10 ^ 40 by decide)
     refine⟨_,pP,?_⟩
     refine iD (ρ' :=[.dat (L), .dat (.int (a:Int)), .dat (.int (most:Int)), .own (.list (cs.map aF)), .dat (.int (many:Int)), .own (.list ((ds++[u%10 ^ 40]).map aF)), .dat (.int (j:Int))]) (by
      rw [app_ok (ds:=ds.map aF) (d:= .int (u%10 ^ 40)) rfl (by simp! only [jo p0,hx,hp,jo (show(0:Int)<10 ^ 40 by decide)]) (by rw [aC];exact lM (by omega))]
      simp) ?_
     refine jT (ρ' :=[.dat (L), .dat (.int (a:Int)), .dat (.int (most:Int)), .own (.list ((cs.set ((j:Int)%(cs.length:Int)).toNat (u/10 ^ 40)).map aF)), .dat (.int (many:Int)), .own (.list ((ds++[u%10 ^ 40]).map aF)), .dat (.int (j:Int))]) ?_ ⟨_,_,_,rfl,by simp [csl],by simp [dsl],fun c hc=> ?_⟩
     ·have ev:eO lX (eO fV (gK 3) (eO jJ (d8 6) (fu je [(gK 3)]))) (eO vW (eC (.int 10)) (eC (.int 40))) [.dat (L), .dat (.int (a:Int)), .dat (.int (most:Int)), .own (.list (cs.map aF)), .dat (.int (many:Int)), .own (.list ((ds++[u%10 ^ 40]).map aF)), .dat (.int (j:Int))]= .ok (.int (u/10 ^ 40)):=by simp! only [jo p0,hx,hp,o9 (i:=u) (show(0:Int)<10 ^ 40 by decide) (by decide)]
      have ek:eO jJ (d8 6) (fu je [(gK 3)]) [.dat (L), .dat (.int (a:Int)), .dat (.int (most:Int)), .own (.list (cs.map aF)), .dat (.int (many:Int)), .own (.list ((ds++[u%10 ^ 40]).map aF)), .dat (.int (j:Int))]= .ok (.int ((j:Int)%(cs.length:Int))):=by simp! only [jo p0]
      have ix:ixN (cs.map aF).length ((j:Int)%(cs.length:Int))=some ((j:Int)%(cs.length:Int)).toNat:=by
       unfold ixN
       rw [aC,if_pos y0,if_pos y1]
      simp only [UL,ev,ek,aW,aQ,ix,set_0,kW]
      rw [List.map_set]
     ·rcases aM.mp hc with h|h
      ·exact hds c h
      ·have:c=u%10 ^ 40:=by simpa using h
       rw [this]
       exact⟨r0,r1⟩)
   obtain⟨ρ1,lo,cs2,ds,k6,rfl,c2l,dsl,hds⟩:=loop
   rw [aC,dJ] at dsl
   refine zE lo ?_
   obtain⟨c0,ct,hct⟩:∃c0 ct,cs2=c0::ct:=by
    cases cs2 with
    |nil=>
     simp at c2l
     omega
    |cons x y=>exact⟨x,y,rfl⟩
   have mi:Ss [.list (cs2.map aF)]= .ok (.int (U7 c0 ct)):=by
    simp only [Ss,Iw,hct]
   by_cases hmi:0<U7 c0 ct
   ·exact agH (by simp! only [mi,hmi]) (afu (adR rfl ⟨ds,rfl,by omega,by omega,hds⟩))
   ·exact aek (by simp! only [mi,hmi]) (abj (jT rfl ⟨_,_,_,_,rfl⟩))
  ·rintro ρ ⟨k3,k4,k5,k6,rfl⟩
   obtain⟨fm,hfm⟩:∃fm:Nat→Int,∀k:Nat,k≤1000→oM [L, .int (k:Int)]= .ok (.int (fm k))∧0≤fm k∧fm k<10 ^ 40:=by
    refine⟨fun k=>if h:k≤1000 then Classical.choose (mx k h) else 0,fun k hk=> ?_⟩
    simp only [hk,dif_pos]
    exact Classical.choose_spec (mx k hk)
   have lc:X3 (Vh (fu Vf [(d8 1),(fu Pq [(d8 2),(fu je [(d8 0)])])])) (gN 6) (eC (.bool true)) (fu oM [(d8 0),(d8 6)]) [6] [.dat (L), .dat (.int (a:Int)), .dat (.int (most:Int)),k3,k4,k5,k6]= .ok (.list (((di (max a (min most ns.length))).map fm).map aF)):=by
    rw [cD]
    refine acN (fun(i:Nat)=> .int (i:Int)) _ ?_ ?_ (by simp only [dJ];exact Cv (by omega))
    ·rw [←Dy]
     refine aae ?_ (by omega) (by omega)
     simp! only [lenL]
     congr 2
     omega
    ·intro k hk
     rw [List.mem_range] at hk
     refine⟨_,rfl,rfl,?_⟩
     refine kh (x:=L) (y:= .int (k:Int)) rfl ?_ (hfm k (by omega)).1
     simp! only [xJ]
   refine⟨_,ret_ok lc,(di (max a (min most ns.length))).map fm,rfl,by simp;omega,by simp;omega,fun c hc=> ?_⟩
   obtain⟨k,hk,rfl⟩:=cG.mp hc
   rw [List.mem_range] at hk
   exact(hfm k (by omega)).2
 obtain⟨d,hd,ds,rfl,h⟩:=Gh (ks:=[.dat, .dat, .dat]) (n:=4) (m:=vR) (ds:=[L, .int (a:Int), .int (most:Int)]) run
 exact⟨ds,by rw [←hL];exact hd,h⟩
end Sb
namespace Sb
open PySem PySem.Spec L2 Evl DL
abbrev tL:Str:="is"
abbrev jQ:Str:="join"
abbrev jH:Str:="times"
abbrev oJ:Str:="cut"
abbrev jR:Str:="turn"
abbrev oG:Str:="put"
abbrev iK:Str:="insert"
abbrev jx:Str:="remove"
theorem aeT:¬(tL=jQ):=by decide+kernel
theorem ab5:¬(tL=jH):=by decide+kernel
theorem aga:¬(tL=oJ):=by decide+kernel
theorem aeS:¬(tL=jR):=by decide+kernel
theorem agw:¬(tL=oG):=by decide+kernel
theorem aag:¬(tL=iK):=by decide+kernel
theorem aau:¬(tL=jx):=by decide+kernel
theorem aeR:¬(jQ=tL):=by decide+kernel
theorem Yu:¬(jQ=jH):=by decide+kernel
theorem acj:¬(jQ=oJ):=by decide+kernel
theorem Ze:¬(jQ=jR):=by decide+kernel
theorem acp:¬(jQ=oG):=by decide+kernel
theorem U3:¬(jQ=iK):=by decide+kernel
theorem U5:¬(jQ=jx):=by decide+kernel
theorem acg:¬(jH=tL):=by decide+kernel
theorem YB:¬(jH=jQ):=by decide+kernel
theorem abu:¬(jH=oJ):=by decide+kernel
theorem Ym:¬(jH=jR):=by decide+kernel
theorem Zj:¬(jH=oG):=by decide+kernel
theorem R6:¬(jH=iK):=by decide+kernel
theorem Uc:¬(jH=jx):=by decide+kernel
theorem agi:¬(oJ=tL):=by decide+kernel
theorem abE:¬(oJ=jQ):=by decide+kernel
theorem aaJ:¬(oJ=jH):=by decide+kernel
theorem abX:¬(oJ=jR):=by decide+kernel
theorem aez:¬(oJ=oG):=by decide+kernel
theorem XJ:¬(oJ=iK):=by decide+kernel
theorem Xq:¬(oJ=jx):=by decide+kernel
theorem aeG:¬(jR=tL):=by decide+kernel
theorem aaL:¬(jR=jQ):=by decide+kernel
theorem X7:¬(jR=jH):=by decide+kernel
theorem acz:¬(jR=oJ):=by decide+kernel
theorem acq:¬(jR=oG):=by decide+kernel
theorem Vg:¬(jR=iK):=by decide+kernel
theorem Vd:¬(jR=jx):=by decide+kernel
theorem agv:¬(oG=tL):=by decide+kernel
theorem acC:¬(oG=jQ):=by decide+kernel
theorem Zb:¬(oG=jH):=by decide+kernel
theorem ae4:¬(oG=oJ):=by decide+kernel
theorem acO:¬(oG=jR):=by decide+kernel
theorem Yy:¬(oG=iK):=by decide+kernel
theorem Y6:¬(oG=jx):=by decide+kernel
theorem abv:¬(iK=tL):=by decide+kernel
theorem Vb:¬(iK=jQ):=by decide+kernel
theorem QM:¬(iK=jH):=by decide+kernel
theorem YQ:¬(iK=oJ):=by decide+kernel
theorem U8:¬(iK=jR):=by decide+kernel
theorem Xy:¬(iK=oG):=by decide+kernel
theorem Pj:¬(iK=jx):=by decide+kernel
theorem aa6:¬(jx=tL):=by decide+kernel
theorem Vp:¬(jx=jQ):=by decide+kernel
theorem Uh:¬(jx=jH):=by decide+kernel
theorem Xi:¬(jx=oJ):=by decide+kernel
theorem Vr:¬(jx=jR):=by decide+kernel
theorem Yb:¬(jx=oG):=by decide+kernel
theorem O6:¬(jx=iK):=by decide+kernel
theorem v_all:(¬tL=jQ)∧(¬tL=jH)∧(¬tL=oJ)∧(¬tL=jR)∧(¬tL=oG)∧(¬tL=iK)∧(¬tL=jx)∧(¬jQ=tL)∧(¬jQ=jH)∧(¬jQ=oJ)∧(¬jQ=jR)∧(¬jQ=oG)∧(¬jQ=iK)∧(¬jQ=jx)∧(¬jH=tL)∧(¬jH=jQ)∧(¬jH=oJ)∧(¬jH=jR)∧(¬jH=oG)∧(¬jH=iK)∧(¬jH=jx)∧(¬oJ=tL)∧(¬oJ=jQ)∧(¬oJ=jH)∧(¬oJ=jR)∧(¬oJ=oG)∧(¬oJ=iK)∧(¬oJ=jx)∧(¬jR=tL)∧(¬jR=jQ)∧(¬jR=jH)∧(¬jR=oJ)∧(¬jR=oG)∧(¬jR=iK)∧(¬jR=jx)∧(¬oG=tL)∧(¬oG=jQ)∧(¬oG=jH)∧(¬oG=oJ)∧(¬oG=jR)∧(¬oG=iK)∧(¬oG=jx)∧(¬iK=tL)∧(¬iK=jQ)∧(¬iK=jH)∧(¬iK=oJ)∧(¬iK=jR)∧(¬iK=oG)∧(¬iK=jx)∧(¬jx=tL)∧(¬jx=jQ)∧(¬jx=jH)∧(¬jx=oJ)∧(¬jx=jR)∧(¬jx=oG)∧(¬jx=iK):=⟨aeT,ab5,aga,aeS,agw,aag,aau,aeR,Yu,acj,Ze,acp,U3,U5,acg,YB,abu,Ym,Zj,R6,Uc,agi,abE,aaJ,abX,aez,XJ,Xq,aeG,aaL,X7,acz,acq,Vg,Vd,agv,acC,Zb,ae4,acO,Yy,Y6,abv,Vb,QM,YQ,U8,Xy,Pj,aa6,Vp,Uh,Xi,Vr,Yb,O6⟩
def uH(F:List Nat→D)(ws:List (List Nat)):List (D×D):=ws.map fun w=>(aV (fY w),F w)
def upW(F:List Nat→D)(w:List Nat)(v:D):List Nat→D:=fun x=>if x=w then v else F x
theorem ab9(x w:List Nat):(DL.keyOf (aV (fY x))=some (.inr (fY w)))↔x=w:=by
 constructor
 ·intro h
  have h2:fY x=fY w:=by
   have h3:some (Sum.inr (fY x):Key)=some (.inr (fY w)):=h
   injection h3 with h3
   injection h3
  exact ZQ h2
 ·rintro rfl
  rfl
theorem adL(F:List Nat→D)(w:List Nat):∀ws:List (List Nat),w∈ws→qH (uH F ws) (.inr (fY w))=some (F w)
 |[],h=>by cases h
 |x::ws,h=>by
  by_cases e:x=w
  ·subst e
   simp only [qH,uH,bA,dU,DL.keyOf,decide_true,cU]
  ·have hk:¬(DL.keyOf (aV (fY x))=some (.inr (fY w))):=fun z=>e ((ab9 x w).mp z)
   have h' :w∈ws:=by
    rcases aH.mp h with z|z
    ·exact absurd z.symm e
    ·exact z
   have:=adL F w ws h'
   simp only [qH,uH,bA,dU,hk,decide_false]
   exact this
theorem aci(F:List Nat→D)(w:List Nat)(ws:List (List Nat)):(uH F ws).any (fun q=>decide (DL.keyOf q.1=some (.inr (fY w))))=decide (w∈ws):=by
 induction ws with
 |nil=>rfl
 |cons x ws ih=>
  simp only [uH,bA,dY] at ih⊢
  rw [ih]
  by_cases e:x=w
  ·subst e
   simp [DL.keyOf]
  ·have hk:¬(DL.keyOf (aV (fY x))=some (.inr (fY w))):=fun z=>e ((ab9 x w).mp z)
   have e' :¬w=x:=fun z=>e z.symm
   simp [hk,e']
theorem akJ(F:List Nat→D)(w:List Nat)(v:D)(ws:List (List Nat))(h:¬w∈ws):qM (uH F ws) (.inr (fY w)) v=uH (upW F w v) (ws++[w]):=by
 unfold qM
 rw [aci]
 simp only [h,decide_false,Bool.false_eq_true,if_false]
 simp only [uH,cC,bA,cZ,upW,if_true]
 congr 1
 refine bT fun x hx=> ?_
 have:¬x=w:=fun z=>h (by rw [←z];exact hx)
 simp only [this,if_false]
theorem alg(F:List Nat→D)(w:List Nat)(v:D)(ws:List (List Nat))(h:w∈ws):qM (uH F ws) (.inr (fY w)) v=uH (upW F w v) ws:=by
 unfold qM
 rw [aci]
 simp only [h,decide_true,if_true]
 simp only [uH,cD]
 refine bT fun x hx=> ?_
 simp only [Function.comp,ab9,upW]
 by_cases e:x=w
 ·simp [e]
 ·simp [e]
def addW(ws:List (List Nat))(w:List Nat):List (List Nat):=if w∈ws then ws else ws++[w]
theorem Lk(F:List Nat→D)(w:List Nat)(v:D)(ws:List (List Nat)):qM (uH F ws) (.inr (fY w)) v=uH (upW F w v) (addW ws w):=by
 unfold addW
 by_cases h:w∈ws
 ·rw [if_pos h,alg _ _ _ _ h]
 ·rw [if_neg h,akJ _ _ _ _ h]
theorem Dj{ws:List (List Nat)}{w x:List Nat}:x∈addW ws w↔x∈ws∨x=w:=by
 unfold addW
 by_cases h:w∈ws
 ·rw [if_pos h]
  constructor
  ·exact .inl
  ·rintro(z|rfl)
   ·exact z
   ·exact h
 ·rw [if_neg h]
  simp
theorem aiJ{ws:List (List Nat)}{w:List Nat}(h:ws.Nodup):(addW ws w).Nodup:=by
 unfold addW
 by_cases m:w∈ws
 ·rwa [if_pos m]
 ·rw [if_neg m,cA]
  exact⟨h,by simp,fun a ha b hb=>by
   have:b=w:=by simpa using hb
   subst this
   exact fun e=>m (by rw [←e];exact ha)⟩
theorem aac{ws:List (List Nat)}{w:List Nat}:(addW ws w).length≤ws.length+1:=by
 unfold addW
 split
 ·omega
 ·simp
theorem Es(F:List Nat→D)(ws:List (List Nat)):Bf (uH F ws)=true:=by cases ws<;>rfl
theorem Xr(F:List Nat→D)(ws:List (List Nat)):(uH F ws).length=ws.length:=by simp [uH]
theorem abk{F G:List Nat→D}{ws:List (List Nat)}(h:∀w∈ws,F w=G w):uH F ws=uH G ws:=by
 unfold uH
 exact bT fun x hx=>by rw [h x hx]
theorem Fo(F:List Nat→D){w:List Nat}{ws:List (List Nat)}(h:w∈ws):jE (.dict (uH F ws)) (.str (fY w))= .ok (F w):=by
 simp only [jE,Es,if_true,DL.keyOf,adL F w ws h]
theorem ajJ(F:List Nat→D)(w:List Nat)(ws:List (List Nat))(b:Bool):xV b (.str (fY w)) (.dict (uH F ws))= .ok (.bool (decide (w∈ws) !=b)):=by
 have e:DL.keyOf (aV (fY w))=some (.inr (fY w)):=rfl
 simp only [xV,Es,if_true,e,find_some,aci]
theorem adp(F:List Nat→D):∀ws:List (List Nat),strKeys (uH F ws)=some (ws.map fY)
 |[]=>rfl
 |w::ws=>by
  show(strKeys (uH F ws)).map _=_
  rw [adp F ws]
  rfl
inductive Dd(α:Type) where
 |is (w:List Nat)|join (a b:α)|times (a:α) (m:Nat)|cut (a:α) (s e:Nat)|turn (a:α)|put (a:α) (s o:Nat)|insert (a:α) (p:Nat) (b:α)|remove (a:α) (s e:Nat)
namespace Dd
variable{α β:Type}
def verb:Dd α→Str
 | .is _=>tL| .join _ _=>jQ| .times _ _=>jH| .cut _ _ _=>oJ| .turn _=>jR| .put _ _ _=>oG| .insert _ _ _=>iK| .remove _ _ _=>jx
def rest(F:α→PyData):Dd α→List PyData
 | .is w=>[.str (fY w)]
 | .join a b=>[F a,F b]
 | .times a m=>[F a, .int (m:Int)]
 | .cut a s e=>[F a, .int (s:Int), .int (e:Int)]
 | .turn a=>[F a]
 | .put a s o=>[F a, .str (s1 s), .str (s1 o)]
 | .insert a p b=>[F a, .int (p:Int),F b]
 | .remove a s e=>[F a, .int (s:Int), .int (e:Int)]
def tx(t:α→List Nat):Dd α→List Nat
 | .is w=>w
 | .join a b=>t a++t b
 | .times a m=>(aD m (t a)).flatten
 | .cut a s e=>stretch (t a) s e
 | .turn a=>(t a).reverse
 | .put a s o=>(t a).map (amU s o)
 | .insert a p b=>(t a).take p++t b++(t a).drop p
 | .remove a s e=>(t a).take s++(t a).drop e
def ok(t:α→List Nat):Dd α→Prop
 | .is w=>1≤w.length∧w.length≤40∧∀c∈w,c∈Lz
 | .join a b=>(t a).length+(t b).length≤MOST
 | .times a m=>m≤MOST∧(t a).length*m≤MOST
 | .cut a s e=>s≤e∧e≤(t a).length
 | .turn _=>True
 | .put _ s o=>s∈Lz∧o∈Lz
 | .insert a p b=>p≤(t a).length∧(t a).length+(t b).length≤MOST
 | .remove a s e=>s≤e∧e≤(t a).length
def refs:Dd α→List α
 | .is _=>[]| .join a b=>[a,b]| .times a _=>[a]| .cut a _ _=>[a]| .turn a=>[a]| .put a _ _=>[a]| .insert a _ b=>[a,b]| .remove a _ _=>[a]
def map(f:α→β):Dd α→Dd β
 | .is w=> .is w| .join a b=> .join (f a) (f b)| .times a m=> .times (f a) m| .cut a s e=> .cut (f a) s e| .turn a=> .turn (f a)| .put a s o=> .put (f a) s o| .insert a p b=> .insert (f a) p (f b)| .remove a s e=> .remove (f a) s e
theorem ZS{t t' :α→List Nat}{d:Dd α}(h:∀a∈d.refs,t a=t' a):d.tx t=d.tx t' :=by
 cases d<;>simp only [refs,aH,bG,or_false,forall_eq_or_imp,forall_eq] at h<;>simp only [tx,h]
theorem aaO{t t' :α→List Nat}{d:Dd α}(h:∀a∈d.refs,t a=t' a)(o:d.ok t):d.ok t' :=by
 cases d<;>simp only [refs,aH,bG,or_false,forall_eq_or_imp,forall_eq] at h<;>simp only [ok,h] at o⊢<;>exact o
theorem alE{t:α→List Nat}{d:Dd α}(o:d.ok t)(h:∀a∈d.refs,(t a).length≤MOST):(d.tx t).length≤MOST:=by
 cases d with
 |is w=>exact cQ o.2.1 (by decide)
 |join a b=>
  show(t a++t b).length≤MOST
  rw [aA]
  exact o
 |times a m=>simp only [tx,rR];rw [bU];exact o.2
 |cut a s e=>
  have:=h a (by simp [refs])
  simp only [tx,stretch,List.length_drop,aZ]
  omega
 |turn a=>simpa [tx] using h a (by simp [refs])
 |put a s o=>simpa [tx] using h a (by simp [refs])
 |insert a p b=>
  have:=o.2
  simp only [tx,aA,aZ,List.length_drop]
  omega
 |remove a s e=>
  have:=h a (by simp [refs])
  have:=o.1
  simp only [tx,aA,aZ,List.length_drop]
  omega
end Dd
def rF(ns:List (Dd Nat)):List (List Nat):=ns.foldl (fun acc d=>acc++[d.tx fun i=>acc.getD i []]) []
theorem DK(ns:List (Dd Nat))(d:Dd Nat):rF (ns++[d])=rF ns++[d.tx fun i=>(rF ns).getD i []]:=by simp [rF]
theorem GZ:∀ns:List (Dd Nat),(rF ns).length=ns.length:=by
 refine snocInd rfl fun ns d ih=> ?_
 rw [DK]
 simp [ih]
theorem Ql{ns:List (Dd Nat)}{i:Nat}(h:i<ns.length)(d:Dd Nat):(rF (ns++[d])).getD i []=(rF ns).getD i []:=by
 rw [DK]
 simp only [bF]
 rw [aO (by rw [GZ];exact h)]
theorem T9(ns:List (Dd Nat))(d:Dd Nat):(rF (ns++[d])).getD ns.length []=d.tx fun i=>(rF ns).getD i []:=by
 rw [DK]
 simp only [bF]
 rw [bD (by rw [GZ];exact bJ _),GZ]
 simp
structure NG(ns:List (Dd Nat)):Prop where
 lt:∀(i:Nat) d,ns[i]? =some d→∀a∈d.refs,a<i
 ok:∀(i:Nat) d,ns[i]? =some d→d.ok fun a=>(rF ns).getD a []
 tx:∀(i:Nat) d,ns[i]? =some d→(rF ns).getD i []=d.tx fun a=>(rF ns).getD a []
 le:∀i,((rF ns).getD i []).length≤MOST
theorem NG.nil:NG [] where
 lt:=fun i d h=>by simp at h
 ok:=fun i d h=>by simp at h
 tx:=fun i d h=>by simp at h
 le:=fun i=>by simp [rF]
theorem NG.snoc{ns:List (Dd Nat)}(g:NG ns){d:Dd Nat}(hr:∀a∈d.refs,a<ns.length)(ho:d.ok fun a=>(rF ns).getD a []):NG (ns++[d]):=by
 have old:∀{e:Dd Nat} {n:Nat},n≤ns.length→(∀a∈e.refs,a<n)→∀a∈e.refs,(fun a=>(rF ns).getD a []) a=(fun a=>(rF (ns++[d])).getD a []) a:=fun hn he a ha=>(Ql (by have:=he a ha;omega) d).symm
 have at_:∀(i:Nat) e,(ns++[d])[i]? =some e→(i<ns.length∧ns[i]? =some e)∨(i=ns.length∧e=d):=fun i e h=>by
  have hi:=(au.mp h).1
  rw [aA,bQ] at hi
  by_cases z:i<ns.length
  ·rw [aO z] at h
   exact .inl ⟨z,h⟩
  ·have e1:i=ns.length:=by omega
   subst e1
   rw [bD (bJ _)] at h
   simp only [Nat.sub_self,aQ,Option.some.injEq] at h
   exact .inr ⟨rfl,h.symm⟩
 refine⟨fun i e h=> ?_,fun i e h=> ?_,fun i e h=> ?_,fun i=> ?_⟩
 ·rcases at_ i e h with⟨_,h⟩|⟨rfl,rfl⟩
  ·exact g.lt i e h
  ·exact hr
 ·rcases at_ i e h with⟨z,h⟩|⟨rfl,rfl⟩
  ·exact Dd.aaO (old (Nat.le_of_lt z) (g.lt i e h)) (g.ok i e h)
  ·exact Dd.aaO (old (bJ _) hr) ho
 ·rcases at_ i e h with⟨z,h⟩|⟨rfl,rfl⟩
  ·rw [Ql z,g.tx i e h]
   exact Dd.ZS (old (Nat.le_of_lt z) (g.lt i e h))
  ·rw [T9]
   exact Dd.ZS (old (bJ _) hr)
 ·by_cases z:i<ns.length
  ·rw [Ql z]
   exact g.le i
  ·by_cases z2:i=ns.length
   ·subst z2
    rw [T9]
    exact Dd.alE ho fun a _=>g.le a
   ·simp only [bF]
    rw [List.getElem?_eq_none (by rw [GZ,aA,bQ];omega)]
    exact cX _
def zG(ns:List (Dd Nat)):List Nat:=(rF ns).map List.length
theorem Ba(ns:List (Dd Nat)):(zG ns).length=ns.length:=by simp [zG,GZ]
theorem GF(ns:List (Dd Nat))(i:Nat):(zG ns).getD i 0=((rF ns).getD i []).length:=by
 simp only [zG,bF,aK]
 cases(rF ns)[i]? <;>rfl
theorem agC(ns:List (Dd Nat))(d:Dd Nat):zG (ns++[d])=zG ns++[(d.tx fun i=>(rF ns).getD i []).length]:=by simp [zG,DK]
def iI(w:List Nat):D:= .str (fY w)
def BR(w:List Nat):Prop:=1≤w.length∧w.length≤8∧∀c∈w,97≤c∧c≤122
end Sb
namespace Sb
open PySem PySem.Spec L2 Evl DL
theorem ah9{nk:NK}{i j:Nat}{mk:EM}{mv:XM}{ρ:DL.Env}{d kd:D}{k:Key}{ds:List (D×D)}{cs:List Sl}(hv:mv ρ= .ok d ρ)(hρ:ρ[i]? =some (.nst nk cs))(hc:cs[j]? =some (.own (.dict ds)))(hu:Bf ds=true)(hk:mk ρ= .ok kd)(hkk:DL.keyOf kd=some k)(hl:ds.length<sizeLine):
 Q8 nk i j mk mv ρ= .nx (ρ.set i (.nst nk (cs.set j (.own (.dict (qM ds k d)))))):=by
 simp only [Q8,hv,aap,hρ,if_true,hc,hu,hk,hkk,hl]
theorem alT{m:EM}{ρ:DL.Env}{d:D}(h:m ρ= .ok d):xE m ρ= .ok d ρ:=by simp only [xE,h]
theorem aed{nk:NK}{i j:Nat}{ρ:DL.Env}{cs:List Sl}{d:D}(h:ρ[i]? =some (.nst nk cs))(hc:cs[j]? =some (.own d)):za nk i j ρ= .ok d:=by
 simp only [za,h,if_true,ab1,hc]
theorem aeg{nk:NK}{i j:Nat}{ρ:DL.Env}{cs:List Sl}{d:D}(h:ρ[i]? =some (.vP nk cs))(hc:cs[j]? =some (.bor d)):za nk i j ρ= .ok d:=by
 simp only [za,h,if_true,ab1,hc]
theorem ai8{b:Vq}{g:GM}{body:SM}{ρ:DL.Env}{ds:List (D×D)}(P:Nat→DL.Env→Prop)(hb:b.get ρ=some ds)(h0:P 0 ρ)(hs:∀(i:Nat) q ρ,ds[i]? =some q→P i ρ→∃ρ1,g q.1 ρ=some ρ1∧Nx (body ρ1) (P (i+1))):Nx (Wn b g body ρ) (P ds.length):=by
 cases ds with
 |nil=>exact⟨ρ,by simp only [Wn,hb],h0⟩
 |cons q ds=>
  obtain⟨ρ',e,p⟩:=Sy (g:=g) (body:=body) P ((q::ds).map (·.1)) 0 ρ h0 (fun i d ρ hd hP=>by
   rw [aK,aP] at hd
   obtain⟨x,hx,rfl⟩:=hd
   rw [Nat.zero_add] at hP⊢
   obtain⟨ρ1,e1,ρ2,e2,e3⟩:=hs i x ρ hx hP
   exact⟨ρ1,ρ2,e1, .inl e2,e3⟩)
  rw [aC,Nat.zero_add] at p
  exact⟨ρ',by simp only [Wn,hb,e,adg],p⟩
def Rx(o:Out)(Q:D→DL.Env→Prop):Prop:=∃d ρ,o= .rx d ρ∧Q d ρ
theorem Xf{a b:SM}{ρ ρ' :DL.Env}{Q:D→DL.Env→Prop}(h:a ρ= .nx ρ')(k:Rx (b ρ') Q):Rx (fG a b ρ) Q:=by
 simp only [fG,h]
 exact k
theorem adn{a b:SM}{ρ:DL.Env}{Q:D→DL.Env→Prop}(h:Rx (a ρ) Q):Rx (fG a b ρ) Q:=by
 obtain⟨d,ρ',e,q⟩:=h
 exact⟨d,ρ',by simp only [fG,e],q⟩
theorem am1{m:EM}{a b:SM}{ρ:DL.Env}{Q:D→DL.Env→Prop}(h:m ρ= .ok (.bool true))(k:Rx (a ρ) Q):Rx (iQ m a b ρ) Q:=by rwa [Dt h]
theorem Xj{m:EM}{ρ:DL.Env}{d:D}{Q:D→DL.Env→Prop}(h:m ρ= .ok d)(q:Q d ρ):Rx (rC m ρ) Q:=⟨d,ρ,by simp only [rC,h],q⟩
theorem Xm{bs:List Bool}{n:Nat}{m:SM}{as:List Sl}{Q:D→DL.Env→Prop}(hc:chk bs as=true)(h:Rx (m (as++aD n .un)) Q):∃d ρ,Iv bs n m as= .ok d (mask bs ρ)∧Q d ρ:=by
 obtain⟨d,ρ,e,q⟩:=h
 exact⟨d,ρ,by simp only [Iv,hc,if_true,e],q⟩
theorem aiy{g:List Sl→RO}{as:List AM}{ρ:DL.Env}{sl outs:List Sl}{d:D}(h:wN as ρ= .ok sl)(hg:g sl= .ok d outs):Bg g as ρ= .ok d (rW as outs ρ):=by simp only [Bg,h,hg]
theorem aiz{g:List Sl→RO}{as:List AM}{ρ:DL.Env}{sl outs:List Sl}{d:D}(h:wN as ρ= .ok sl)(hg:g sl= .ok d outs):Dh g as ρ= .ok d:=by simp only [Dh,h,hg]
end Sb
namespace Sb
open PySem PySem.Spec L2 Evl DL
inductive Tr where
 |sg (c:Nat)|jn (a b:Tr)|tm (a:Tr) (n:Nat)
 deriving DecidableEq
def Cy:Tr:= .sg 0
def Rule.tr(ts:List Tr):Rule→Tr
 | .sign c=> .sg c
 | .join a b=> .jn (ts.getD a Cy) (ts.getD b Cy)
 | .times a n=> .tm (ts.getD a Cy) n
def trs(rs:List Rule):List Tr:=rs.foldl (fun acc r=>acc++[r.tr acc]) []
theorem K7(rs:List Rule)(r:Rule):trs (rs++[r])=trs rs++[r.tr (trs rs)]:=by simp [trs]
theorem sO:∀rs:List Rule,(trs rs).length=rs.length:=by
 refine snocInd rfl fun l a ih=> ?_
 rw [K7]
 simp [ih]
theorem aji(rs:List Rule):∀qs:List Rule,∃zs,trs (rs++qs)=trs rs++zs:=by
 refine snocInd ⟨[],by simp⟩ fun l a ih=> ?_
 obtain⟨zs,e⟩:=ih
 refine⟨zs++[a.tr (trs (rs++l))],?_⟩
 rw [←aG,K7,e,aG]
theorem ye{rs:List Rule}{i:Nat}(h:i<rs.length)(qs:List Rule):(trs (rs++qs)).getD i Cy=(trs rs).getD i Cy:=by
 obtain⟨zs,e⟩:=aji rs qs
 have hl:i<(trs rs).length:=by rw [sO];exact h
 rw [e]
 simp [bF,aO hl]
theorem ZV{r:Rule}{i:Nat}(ok:r.ok i){ts ts' :List Tr}(h:∀a,a<i→ts'.getD a Cy=ts.getD a Cy):r.tr ts' =r.tr ts:=by
 cases r with
 |sign c=>rfl
 |join a b=>simp only [Rule.tr,h a ok.1,h b ok.2]
 |times a n=>simp only [Rule.tr,h a ok.1]
theorem vI{rs:List Rule}(g:Good rs){i:Nat}{r:Rule}(h:rs[i]? =some r):(trs rs).getD i Cy=r.tr (trs rs):=by
 have hi:=(au.mp h).1
 have e:rs=rs.take i++r::rs.drop (i+1):=by
  have e1:rs.drop i=r::rs.drop (i+1):=by
   rw [←(au.mp h).2]
   exact(List.getElem_cons_drop hi).symm
  rw [←e1]
  exact(bM i rs).symm
 have lt:(rs.take i).length=i:=by rw [aZ];omega
 have e2:rs=(rs.take i++[r])++rs.drop (i+1):=by
  rw [aG]
  exact e
 have a1:(trs rs).getD i Cy=r.tr (trs (rs.take i)):=by
  rw [e2,ye (by rw [aA,lt];simp),K7]
  rw [←e2]
  rw [bF,bD (by rw [sO,lt];exact bJ _),sO,lt]
  simp
 rw [a1]
 refine(ZV (g i r h) fun a ha=> ?_).symm
 have:(trs rs).getD a Cy=(trs (rs.take i++r::rs.drop (i+1))).getD a Cy:=by rw [←e]
 rw [this,ye (by rw [lt];exact ha)]
theorem aiH{rs:List Rule}(g:Good rs)(nd:rs.Nodup):∀j i,i<j→j<rs.length→(trs rs).getD i Cy≠(trs rs).getD j Cy:=by
 have look:∀i,i<rs.length→∃r,rs[i]? =some r:=fun i h=>⟨rs[i],aU h⟩
 have same:∀i j,i<rs.length→rs[i]? =rs[j]? →i=j:=fun i j hi e=>by
  rcases Nat.lt_trichotomy i j with h|h|h
  ·have hj:j<rs.length:=by
    rcases dW j rs.length with q|q
    ·exact q
    ·rw [List.getElem?_eq_none q,aU hi] at e
     cases e
   have:=(cP.mp nd) i j hi hj h
   rw [aU hi,aU hj] at e
   exact absurd (Option.some.inj e) this
  ·exact h
  ·have hj:j<rs.length:=by omega
   have:=(cP.mp nd) j i hj hi h
   rw [aU hi,aU hj] at e
   exact absurd (Option.some.inj e).symm this
 intro j
 induction j using Nat.strongRecOn with
 |ind j ih=>
  intro i hij hj e
  obtain⟨r,hr⟩:=look i (by omega)
  obtain⟨q,hq⟩:=look j hj
  rw [vI g hr,vI g hq] at e
  have ok:=g i r hr
  have ok' :=g j q hq
  have one:∀a b,a<j→b<j→(trs rs).getD a Cy=(trs rs).getD b Cy→a=b:=fun a b ha hb z=>by
   rcases Nat.lt_trichotomy a b with h|h|h
   ·exact absurd z (ih b hb a h (by omega))
   ·exact h
   ·exact absurd z.symm (ih a ha b h (by omega))
  have rq:r=q:=by
   cases r with
   |sign c=>
    cases q with
    |sign c' =>simp only [Rule.tr,Tr.sg.injEq] at e;rw [e]
    |join a b=>cases e
    |times a n=>cases e
   |join a b=>
    cases q with
    |sign c' =>cases e
    |join a' b' =>
     simp only [Rule.tr,Tr.jn.injEq] at e
     have h1:=one a a' (by have:=ok.1;omega) ok'.1 e.1
     have h2:=one b b' (by have:=ok.2;omega) ok'.2 e.2
     rw [h1,h2]
    |times a' n=>cases e
   |times a n=>
    cases q with
    |sign c' =>cases e
    |join a' b' =>cases e
    |times a' n' =>
     simp only [Rule.tr,Tr.tm.injEq] at e
     have h1:=one a a' (by have:=ok.1;omega) ok'.1 e.1
     rw [h1,e.2]
  subst rq
  have:=same i j (by omega) (hr.trans hq.symm)
  omega
theorem aeM{rs:List Rule}(g:Good rs)(nd:rs.Nodup):(trs rs).Nodup:=by
 refine cP.mpr fun i j hi hj hij=> ?_
 have h:=aiH g nd j i hij (by rw [←sO rs];exact hj)
 rw [bF,bF,aU hi,aU hj] at h
 exact h
theorem Q9{α:Type} [DecidableEq α]:∀(l m:List α),l.Nodup→(∀x∈l,x∈m)→l.length≤m.length
 |[],m,_,_=>cX _
 |x::l,m,nd,h=>by
  obtain⟨n1,n2⟩:=bY.mp nd
  have hx:=h x (by simp)
  have ih:=Q9 l (m.erase x) n2 fun y hy=>by
   have hyx:y≠x:=fun z=>n1 (by rw [←z];exact hy)
   exact(List.mem_erase_of_ne hyx).mpr (h y (by simp [hy]))
  have:=List.length_erase_of_mem hx
  have hp:0<m.length:=List.length_pos_of_mem hx
  simp only [aY]
  omega
theorem agm{rs:List Rule}(g:Good rs)(nd:rs.Nodup)(U:List Tr)(h:∀i,i<rs.length→(trs rs).getD i Cy∈U):rs.length≤U.length:=by
 rw [←sO rs]
 refine Q9 _ _ (aeM g nd) fun x hx=> ?_
 obtain⟨i,hi⟩:=List.mem_iff_getElem?.mp hx
 have hl:=(au.mp hi).1
 have:=h i (by rw [←sO rs];exact hl)
 rw [bF,hi] at this
 exact this
def Tr.CK:Tr→Tr
 | .sg c=> .sg c
 | .jn a b=> .jn b.CK a.CK
 | .tm a n=> .tm a.CK n
theorem ux:∀t:Tr,t.CK.CK=t
 | .sg c=>rfl
 | .jn a b=>by simp only [Tr.CK,ux a,ux b]
 | .tm a n=>by simp only [Tr.CK,ux a]
end Sb
namespace Sb
open PySem PySem.Spec L2 Evl DL
theorem zV(rs:List Rule)(r:Rule):(trs (rs++[r])).getD rs.length Cy=r.tr (trs rs):=by
 rw [K7,bF,bD (by rw [sO];exact bJ _),sO]
 simp
theorem aei(rs:List Rule):∀(os:List Rule),Good os→∀i,i<os.length→(trs (rs++bring rs os)).getD (rs.length+i) Cy=(trs os).getD i Cy:=by
 refine snocInd (fun _ i h=>by simp at h) fun os r ih go i h=> ?_
 obtain⟨g1,r1⟩:=go.init
 have ih' :=ih g1
 have e:rs++bring rs (os++[r])=(rs++bring rs os)++[r.qF fun x=>rs.length+x]:=by
  simp [bring]
 have bl:(rs++bring rs os).length=rs.length+os.length:=by simp [bring]
 rw [e]
 rcases dW i os.length with hlt|hge
 ·rw [ye (by rw [bl];omega),ye hlt]
  exact ih' i hlt
 ·have hi:i=os.length:=by simp at h;omega
  subst hi
  rw [←bl,zV,zV]
  cases r with
  |sign c=>rfl
  |join a b=>simp only [Rule.qF,Rule.tr,ih' a r1.1,ih' b r1.2]
  |times a n=>simp only [Rule.qF,Rule.tr,ih' a r1.1]
def zU(rs:List Rule)(n:Option Nat):Option Tr:=n.map fun k=>(trs rs).getD k Cy
theorem Gx{rs:List Rule}{n:Option Nat}(h:gh rs n)(qs:List Rule):zU (rs++qs) n=zU rs n:=by
 cases n with
 |none=>rfl
 |some k=>simp only [zU,cU,ye (h k rfl)]
def jnN:Option Tr→Option Tr→Option Tr
 |none,b=>b
 |some a,none=>some a
 |some a,some b=>some (.jn a b)
theorem ag'{rs:List Rule}{a b:Option Nat}:zU (oW rs a b).1 (oW rs a b).2=jnN (zU rs a) (zU rs b):=by
 cases a with
 |none=>rfl
 |some a=>
  cases b with
  |none=>rfl
  |some b=>
   simp only [oW,zU,cU,zV,Rule.tr,jnN]
def tmN:Option Tr→Nat→Option Tr
 |none,_=>none
 |some a,m=>if m=0 then none else if m=1 then some a else some (.tm a m)
theorem afs{rs:List Rule}{n:Option Nat}{m:Nat}:zU (overF rs n m).1 (overF rs n m).2=tmN (zU rs n) m:=by
 cases n with
 |none=>rfl
 |some a=>
  by_cases h0:m=0
  ·simp only [overF,h0,if_true,zU,cU,Option.map_none,tmN]
  ·by_cases h1:m=1
   ·subst h1
    simp [overF,zU,tmN]
   ·simp only [overF,h0,h1,if_false,zU,cU,zV,Rule.tr,tmN]
theorem Wr{rs os:List Rule}(go:Good os){n:Option Nat}(h:gh os n):zU (rs++bring rs os) (pG rs n)=zU os n:=by
 cases n with
 |none=>rfl
 |some k=>simp only [zU,pG,cU,aei rs os go k (h k rfl)]
def Tr.subs:Tr→List Tr
 | .sg c=>[.sg c]
 | .jn a b=> .jn a b::(a.subs++b.subs)
 | .tm a n=> .tm a n::a.subs
theorem wR:∀t:Tr,t∈t.subs
 | .sg c=>by simp [Tr.subs]
 | .jn a b=>by simp [Tr.subs]
 | .tm a n=>by simp [Tr.subs]
theorem ae7{rs:List Rule}(g:Good rs):∀(d k i:Nat) (ks:List Nat),Need rs k ks→k<rs.length→i∈ks→k-i≤d→(trs rs).getD i Cy∈((trs rs).getD k Cy).subs:=by
 intro d
 induction d with
 |zero=>
  intro k i ks nd hk hi hd
  have:=nd.le i hi
  have e:i=k:=by omega
  rw [e]
  exact wR _
 |succ d ih=>
  intro k i ks nd hk hi hd
  rcases nd.by_ i hi with e|⟨j,hj,r,hr,hp⟩
  ·rw [e]
   exact wR _
  ·have lt:=uf (g j r hr) i hp
   have jk:=nd.le j hj
   have h1:=ih k j ks nd hk hj (by omega)
   have tr:∀{a b c:Tr},a∈b.subs→b∈c.subs→a∈c.subs:=by
    intro a b c ha
    induction c with
    |sg x=>
     intro hb
     simp [Tr.subs] at hb
     subst hb
     exact ha
    |jn x y ihx ihy=>
     intro hb
     simp only [Tr.subs,aH,aM] at hb⊢
     rcases hb with rfl|hb|hb
     ·simpa [Tr.subs] using ha
     ·exact .inr (.inl (ihx hb))
     ·exact .inr (.inr (ihy hb))
    |tm x n ihx=>
     intro hb
     simp only [Tr.subs,aH] at hb⊢
     rcases hb with rfl|hb
     ·simpa [Tr.subs] using ha
     ·exact .inr (ihx hb)
   refine tr ?_ h1
   rw [vI g hr]
   cases r with
   |sign c=>simp [Rule.parts] at hp
   |join a b=>
    simp only [Rule.parts,aH,bG,or_false] at hp
    simp only [Rule.tr,Tr.subs,aH,aM]
    rcases hp with rfl|rfl
    ·exact .inr (.inl (wR _))
    ·exact .inr (.inr (wR _))
   |times a n=>
    simp only [Rule.parts,aH,bG,or_false] at hp
    subst hp
    simp only [Rule.tr,Tr.subs,aH]
    exact .inr (wR _)
end Sb
namespace Sb
open PySem PySem.Spec L2 Evl DL
def abU(rs:List Rule)(ks:List Nat)(qs:List Rule)(f:Nat→Nat):Prop:=∀i∈ks,(trs (rs++qs)).getD (f i) Cy=((trs rs).getD i Cy).CK
theorem abU.step{rs:List Rule}(g:Good rs){ks:List Nat}{qs:List Rule}{f:Nat→Nat}(h:abU rs ks qs f)(lt:∀i∈ks,f i<(rs++qs).length){i:Nat}{r:Rule}(hr:rs[i]? =some r)(hp:∀a∈r.parts,a∈ks)(hi:¬i∈ks):
 (xM (r.qF f)=r→abU rs (ks++[i]) qs (fun x=>if x=i then i else f x))∧abU rs (ks++[i]) (qs++[xM (r.qF f)]) (fun x=>if x=i then(rs++qs).length else f x):=by
 have ok:=g i r hr
 have hil:=(au.mp hr).1
 have old:∀x∈ks,¬x=i:=fun x hx z=>hi (by rw [←z];exact hx)
 have ti:=vI g hr
 have key:(xM (r.qF f)).tr (trs (rs++qs))=(r.tr (trs rs)).CK:=by
  cases r with
  |sign c=>rfl
  |join a b=>
   have h1:=h a (hp a (by simp [Rule.parts]))
   have h2:=h b (hp b (by simp [Rule.parts]))
   simp only [Rule.qF,xM,Rule.tr,Tr.CK,h1,h2]
  |times a n=>
   have h1:=h a (hp a (by simp [Rule.parts]))
   simp only [Rule.qF,xM,Rule.tr,Tr.CK,h1]
 refine⟨fun e x hx=> ?_,fun x hx=> ?_⟩
 ·rcases aM.mp hx with hx|hx
  ·simp only [old x hx,if_false]
   exact h x hx
  ·have z:x=i:=by simpa using hx
   simp only [z,if_true]
   rw [ye hil,ti,←key,e]
   exact(ZV ok fun a ha=>ye (by omega) qs).symm
 ·rw [←aG]
  rcases aM.mp hx with hx|hx
  ·simp only [old x hx,if_false]
   rw [ye (lt x hx)]
   exact h x hx
  ·have z:x=i:=by simpa using hx
   simp only [z,if_true]
   rw [zV,key,ti]
end Sb
namespace Sb
open PySem PySem.Spec L2 Evl DL
theorem Ez:∀{t s:Tr},s∈t.CK.subs→s.CK∈t.subs
 | .sg c,s,h=>by
   simp [Tr.CK,Tr.subs] at h
   subst h
   simp [Tr.CK,Tr.subs]
 | .jn a b,s,h=>by
   simp only [Tr.CK,Tr.subs,aH,aM] at h⊢
   rcases h with rfl|h|h
   ·left
    simp only [Tr.CK,ux]
   ·exact .inr (.inr (Ez h))
   ·exact .inr (.inl (Ez h))
 | .tm a n,s,h=>by
   simp only [Tr.CK,Tr.subs,aH] at h⊢
   rcases h with rfl|h
   ·left
    simp only [Tr.CK,ux]
   ·exact .inr (Ez h)
structure Un(U:List Tr):Prop where
 sub:∀t∈U,∀s∈t.subs,s∈U
 CK:∀t∈U,t.CK∈U
 two:∀a n,Tr.tm a n∈U→n=2
theorem Un.nil:Un []:=⟨(fun t h=>by cases h),(fun t h=>by cases h),(fun a n h=>by cases h)⟩
theorem Un.app{U V:List Tr}(hU:Un U)(hV:Un V):Un (U++V):=
 ⟨fun t ht s hs=>by
   rcases aM.mp ht with h|h
   ·exact bB _ (hU.sub t h s hs)
   ·exact bK _ (hV.sub t h s hs),
  fun t ht=>by
   rcases aM.mp ht with h|h
   ·exact bB _ (hU.CK t h)
   ·exact bK _ (hV.CK t h),
  fun a n ht=>by
   rcases aM.mp ht with h|h
   ·exact hU.two a n h
   ·exact hV.two a n h⟩
theorem Un.add{U:List Tr}(hU:Un U){t:Tr}(h:∀s∈t.subs,s=t∨s∈U)(h2:∀a n,t= .tm a n→n=2):Un (U++[t,t.CK]):=by
 refine⟨fun x hx s hs=> ?_,fun x hx=> ?_,fun a n hx=> ?_⟩
 ·simp only [aM,aH,bG,or_false] at hx⊢
  rcases hx with hx|rfl|rfl
  ·exact .inl (hU.sub x hx s hs)
  ·rcases h s hs with rfl|h
   ·exact .inr (.inl rfl)
   ·exact .inl h
  ·have:=Ez hs
   rcases h _ this with e|e
   ·exact .inr (.inr (by rw [←e,ux]))
   ·left
    have:=hU.CK _ e
    rwa [ux] at this
 ·simp only [aM,aH,bG,or_false] at hx⊢
  rcases hx with hx|rfl|rfl
  ·exact .inl (hU.CK x hx)
  ·exact .inr (.inr rfl)
  ·exact .inr (.inl (ux _))
 ·simp only [aM,aH,bG,or_false] at hx
  rcases hx with hx|hx|hx
  ·exact hU.two a n hx
  ·exact h2 a n hx.symm
  ·have:t=(Tr.tm a n).CK:=by rw [hx,ux]
   exact h2 _ _ this
theorem Un.jn{U:List Tr}(hU:Un U){a b:Tr}(ha:a∈U)(hb:b∈U):Un (U++[.jn a b,(Tr.jn a b).CK]):=
 hU.add (fun s hs=>by
  simp only [Tr.subs,aH,aM] at hs
  rcases hs with h|h|h
  ·exact .inl h
  ·exact .inr (hU.sub a ha s h)
  ·exact .inr (hU.sub b hb s h)) fun a n e=>by cases e
theorem Un.tm{U:List Tr}(hU:Un U){a:Tr}(ha:a∈U):Un (U++[.tm a 2,(Tr.tm a 2).CK]):=
 hU.add (fun s hs=>by
  simp only [Tr.subs,aH] at hs
  rcases hs with h|h
  ·exact .inl h
  ·exact .inr (hU.sub a ha s h)) fun a n e=>by cases e;rfl
theorem ZL{rs:List Rule}(g:Good rs):∀k,k<rs.length→∀s∈((trs rs).getD k Cy).subs,∃i,i<rs.length∧s=(trs rs).getD i Cy:=by
 intro k
 induction k using Nat.strongRecOn with
 |ind k ih=>
  intro hk s hs
  obtain⟨r,hr⟩:∃r,rs[k]? =some r:=⟨rs[k]'hk,aU _⟩
  have ok:=g k r hr
  by_cases e:s=(trs rs).getD k Cy
  ·exact⟨k,hk,e⟩
  rw [vI g hr] at hs e
  cases r with
  |sign c=>
   simp [Rule.tr,Tr.subs] at hs e
   exact absurd hs e
  |join a b=>
   simp only [Rule.tr,Tr.subs,aH,aM] at hs
   rcases hs with h|h|h
   ·exact absurd h e
   ·exact ih a ok.1 (by have:=ok.1;omega) s h
   ·exact ih b ok.2 (by have:=ok.2;omega) s h
  |times a n=>
   simp only [Rule.tr,Tr.subs,aH] at hs
   rcases hs with h|h
   ·exact absurd h e
   ·exact ih a ok.1 (by have:=ok.1;omega) s h
theorem alk{rs:List Rule}(h:tN rs=0){i a n:Nat}:rs[i]? ≠some (.times a n):=fun e=>by
 have hm:=bf e
 have:0<tN rs:=List.countP_pos_iff.mpr ⟨_,hm,rfl⟩
 omega
theorem Un.base{rs:List Rule}(g:Good rs)(h:tN rs=0):Un (trs rs++(trs rs).map Tr.CK):=by
 have at_:∀t,t∈trs rs↔∃i,i<rs.length∧t=(trs rs).getD i Cy:=fun t=>by
  constructor
  ·intro ht
   obtain⟨i,hi⟩:=List.mem_iff_getElem?.mp ht
   have hl:=(au.mp hi).1
   rw [sO] at hl
   exact⟨i,hl,by rw [bF,hi];rfl⟩
  ·rintro⟨i,hi,rfl⟩
   rw [bF,aU (by rw [sO];exact hi)]
   exact dh _
 have no:∀a n,Tr.tm a n∉trs rs:=fun a n hm=>by
  obtain⟨i,hi,e⟩:=(at_ _).mp hm
  obtain⟨r,hr⟩:∃r,rs[i]? =some r:=⟨rs[i]'hi,aU _⟩
  rw [vI g hr] at e
  cases r with
  |sign c=>cases e
  |join x y=>cases e
  |times x y=>exact alk h hr
 refine⟨fun t ht s hs=> ?_,fun t ht=> ?_,fun a n ht=> ?_⟩
 ·rcases aM.mp ht with ht|ht
  ·obtain⟨i,hi,rfl⟩:=(at_ t).mp ht
   exact bB _ ((at_ s).mpr (ZL g i hi s hs))
  ·obtain⟨u,hu,rfl⟩:=cG.mp ht
   obtain⟨i,hi,rfl⟩:=(at_ u).mp hu
   have:=(at_ _).mpr (ZL g i hi _ (Ez hs))
   exact bK _ (cG.mpr ⟨_,this,ux _⟩)
 ·rcases aM.mp ht with ht|ht
  ·exact bK _ (cG.mpr ⟨_,ht,rfl⟩)
  ·obtain⟨u,hu,rfl⟩:=cG.mp ht
   rw [ux]
   exact bB _ hu
 ·rcases aM.mp ht with ht|ht
  ·exact absurd ht (no a n)
  ·obtain⟨u,hu,e⟩:=cG.mp ht
   cases u with
   |sg c=>cases e
   |jn x y=>cases e
   |tm x y=>exact absurd hu (no x y)
def whT:Tr→Tr
 | .tm a _=> .jn a a
 |t=>t
theorem Un.wh{U:List Tr}(hU:Un U){t:Tr}(ht:t∈U):∃V,Un (U++V)∧V.length≤2∧whT t∈U++V:=by
 cases t with
 |sg c=>exact⟨[],by rw [aJ];exact hU,by simp,by rw [aJ];exact ht⟩
 |jn a b=>exact⟨[],by rw [aJ];exact hU,by simp,by rw [aJ];exact ht⟩
 |tm a n=>
  have ha:a∈U:=hU.sub _ ht a (by simp [Tr.subs,wR])
  exact⟨_,hU.jn ha ha,by simp,by simp [whT]⟩
end Sb
namespace Sb
open PySem PySem.Spec L2 Evl DL
theorem Td.tree{rs:List Rule}(g:Good rs){ks:List Nat}{qs:List Rule}{f:Nat→Nat}(h:Td rs ks qs f)(hc:∀j∈ks,∀q,rs[j]? =some q→∀a∈q.parts,a∈ks)(hk:∀i∈ks,i<rs.length):∀i,i∈ks→(trs qs).getD (f i) Cy=(trs rs).getD i Cy:=by
 intro i
 induction i using Nat.strongRecOn with
 |ind i ih=>
  intro hi
  obtain⟨r,hr⟩:∃r,rs[i]? =some r:=⟨rs[i]'(hk i hi),aU _⟩
  have row:=h.row i hi r hr
  rw [vI h.g row,vI g hr]
  have ok:=g i r hr
  have cl:=hc i hi r hr
  have lt:=uf ok
  cases r with
  |sign c=>rfl
  |join a b=>
   have h1:=ih a (lt a (by simp [Rule.parts])) (cl a (by simp [Rule.parts]))
   have h2:=ih b (lt b (by simp [Rule.parts])) (cl b (by simp [Rule.parts]))
   simp only [Rule.qF,Rule.tr,h1,h2]
  |times a n=>
   have h1:=ih a (lt a (by simp [Rule.parts])) (cl a (by simp [Rule.parts]))
   simp only [Rule.qF,Rule.tr,h1]
theorem Td.le{rs:List Rule}(g:Good rs){ks:List Nat}{qs:List Rule}{f:Nat→Nat}(h:Td rs ks qs f)(hc:∀j∈ks,∀q,rs[j]? =some q→∀a∈q.parts,a∈ks)(hk:∀i∈ks,i<rs.length)(U:List Tr)(hU:∀i∈ks,(trs rs).getD i Cy∈U):qs.length≤U.length:=by
 refine agm h.g h.nd U fun x hx=> ?_
 obtain⟨i,hi,rfl⟩:=h.hit x hx
 rw [h.tree g hc hk i hi]
 exact hU i hi
end Sb
namespace Sb
open PySem PySem.Spec L2 Evl DL
theorem aa'(rs:List Rule)(g:Good rs)(f:Fits MOST rs)(hl:rs.length≤3000000)(n:Option Nat)(hn:gh rs n):∃qs n',Le [eY rs,eZ n]= .ok (.tuple [eY (rs++qs),eZ n'])∧Good (rs++qs)∧Fits MOST (rs++qs)∧qs.length≤rs.length∧gh (rs++qs) n' ∧iG (rs++qs) n' =List.reverse (iG rs n)∧zU (rs++qs) n' =(zU rs n).map Tr.CK:=by
 obtain⟨ks,ek,nk⟩:=aak rs g hl n hn
 have nm:=Xg rs n hn
 have kl:=nk.len
 have ls:qZ [eY rs]= .ok (fL (rs++[])):=by rw [aJ];rfl
 have loop:Nx (mV (iL (mG (fu pA [(d8 0),(d8 1)]))) (gN 4) (fG (gH 5 (fu nR [(eO fV (d8 0) (d8 4)),(gK 3)]))
 (fG (iQ (eO kZ (eO fV (d8 5) (eC (.int 0))) (eC (.str "join"))) (gH 5 (jw [(eC (.str "join")),(eO fV (d8 5) (eC (.int 2))),(eO fV (d8 5) (eC (.int 1)))])) fU)
 (fG (oE 3 (d8 4) (d8 4))
 (iQ (eO xX (d8 5) (eO fV (d8 0) (d8 4))) (Uq 3 (d8 4) (jP 2 j6 [(d8 5)])) fU)))) [.dat (eY rs), .dat (eZ n), .own (fL (rs++[])), .own (.dict (uI (fun x=> .int (((fun _=>0) x:Nat):Int)) (ks.take 0))), .un, .un]) (fun ρ=>∃(qs:List Rule) (fn:Nat→Nat) (k4 k5:Sl),ρ=[.dat (eY rs), .dat (eZ n), .own (fL (rs++qs)), .own (.dict (uI (fun x=> .int ((fn x:Nat):Int)) ks)),k4,k5]∧(Done rs List.reverse ks qs fn∧abU rs ks qs fn)):=by
  have h:=nY (mi:=iL (mG (fu pA [(d8 0),(d8 1)]))) (g:=gN 4) (body:=(fG (gH 5 (fu nR [(eO fV (d8 0) (d8 4)),(gK 3)]))
 (fG (iQ (eO kZ (eO fV (d8 5) (eC (.int 0))) (eC (.str "join"))) (gH 5 (jw [(eC (.str "join")),(eO fV (d8 5) (eC (.int 2))),(eO fV (d8 5) (eC (.int 1)))])) fU)
 (fG (oE 3 (d8 4) (d8 4))
 (iQ (eO xX (d8 5) (eO fV (d8 0) (d8 4))) (Uq 3 (d8 4) (jP 2 j6 [(d8 5)])) fU))))) (ρ:=[.dat (eY rs), .dat (eZ n), .own (fL (rs++[])), .own (.dict (uI (fun x=> .int (((fun _=>0) x:Nat):Int)) (ks.take 0))), .un, .un]) (ds:=ks.map fun(i:Nat)=>aF (i:Int))
   (fun j ρ=>∃(qs:List Rule) (fn:Nat→Nat) (k4 k5:Sl),ρ=[.dat (eY rs), .dat (eZ n), .own (fL (rs++qs)), .own (.dict (uI (fun x=> .int ((fn x:Nat):Int)) (ks.take j))),k4,k5]∧(Done rs List.reverse (ks.take j) qs fn∧abU rs (ks.take j) qs fn))
   (ad0 (kh rfl rfl ek)) ⟨[],fun _=>0,_,_,rfl,⟨by simpa using g,by simpa using f,cX _,fun i hi=>by simp at hi,fun i hi=>by simp at hi,fun i hi=>by simp at hi⟩,fun i hi=>by simp at hi⟩ (by
    rintro j d ρ hd ⟨qs,fn,k4,k5,rfl,dn,mt⟩
    rw [aK,aP] at hd
    obtain⟨i,h1,rfl⟩:=hd
    have hj:=(au.mp h1).1
    have him:i∈ks:=bf h1
    have hir:=nk.lt i him
    have et:ks.take (j+1)=ks.take j++[i]:=by
     rw [bH,h1]
     rfl
    obtain⟨behind,notin⟩:=Vy nk.rise h1
    have hr:rs[i]? =some rs[i]:=by simp [hir]
    obtain⟨r,er⟩:∃r,r=rs[i]:=⟨_,rfl⟩
    rw [←er] at hr
    have hx:=sY hr
    have ok:=g i r hr
    have hp:∀a∈r.parts,a∈ks.take j:=fun a ha=>behind a (nk.clo i him r hr a ha) (uf ok a ha)
    obtain⟨ok2,same,new⟩:=dn.step aiG g f hr hp notin
    obtain⟨msame,mnew⟩:=abU.step g mt dn.lt hr hp notin
    have ql:=dn.len
    have tl:(ks.take j).length≤3000000:=by rw [aZ];omega
    have re:=IV r i ok fn (.dict (uI (fun x=> .int ((fn x:Nat):Int)) (ks.take j))) fun a ha=>by
     simp only [Wc,jE,zA,if_true,DL.keyOf,Kh _ a _ (hp a ha)]
    obtain⟨r1,hr1⟩:∃r1,r1=r.qF fn:=⟨_,rfl⟩
    have ok1:r1.ok (rs++qs).length:=by
     rw [hr1]
     cases r with
     |sign c=>exact ok
     |join a b=>exact⟨dn.lt a (hp a (by simp [Rule.parts])),dn.lt b (hp b (by simp [Rule.parts]))⟩
     |times a m=>exact⟨dn.lt a (hp a (by simp [Rule.parts])),ok.2⟩
    rw [←hr1] at re ok2 same new msame mnew
    obtain⟨r2,hr2⟩:∃r2,r2=xM r1:=⟨_,rfl⟩
    rw [←hr2] at ok2 same new msame mnew
    refine⟨_,pP,?_⟩
    refine iD (ρ' :=[.dat (eY rs), .dat (eZ n), .own (fL (rs++qs)), .own (.dict (uI (fun x=> .int ((fn x:Nat):Int)) (ks.take j))), .dat (.int (i:Int)), .dat (fH r1)]) (by
     refine(lK (d:=fH r1) (kh (x:=fH r) ?_ rfl re)).trans rfl
     simp! only [hx]) ?_
    refine iD (ρ' :=[.dat (eY rs), .dat (eZ n), .own (fL (rs++qs)), .own (.dict (uI (fun x=> .int ((fn x:Nat):Int)) (ks.take j))), .dat (.int (i:Int)), .dat (fH r2)]) ?_ ?_
    ·rw [hr2]
     cases r1 with
     |sign c=>simp! only [fH,gG,sj,xM]
     |join a b=>simp! only [fH,gG,gR,lH,xM]
     |times a m=>simp! only [fH,gG,tj,xM]
    have hz:(uI (fun x=>aF ((fn x:Nat):Int)) (ks.take j)).length<sizeLine:=by rw [ab0];exact lM (by omega)
    refine iD (ρ' :=[.dat (eY rs), .dat (eZ n), .own (fL (rs++qs)), .own (.dict (uI (Y9 (fun x=> .int ((fn x:Nat):Int)) i (.int (i:Int))) (ks.take (j+1)))), .dat (.int (i:Int)), .dat (fH r2)]) (by
     simp only [oE,jM,jZ,aW,aQ,DL.keyOf,hz,if_true,zA,acy _ i _ _ notin,set_0,kW]
     rw [et]) ?_
    have nr:=ag0 ok2 ok
    by_cases es:r2=r
    ·have es' :decide (r2=r)=true:=decide_eq_true es
     have em:uI (Y9 (fun x=>aF ((fn x:Nat):Int)) i (.int (i:Int))) (ks.take (j+1))=uI (fun x=> .int (((if x=i then i else fn x:Nat):Nat):Int)) (ks.take (j+1)):=Q5 fun x _=>by
      simp only [Y9]
      split<;>rfl
     refine IK (by simp! only [hx,nr,es']) (jT (ρ' :=[.dat (eY rs), .dat (eZ n), .own (fL (rs++qs)), .own (.dict (uI (fun x=> .int (((if x=i then i else fn x:Nat):Nat):Int)) (ks.take (j+1)))), .dat (.int (i:Int)), .dat (fH r2)]) ?_ ⟨qs,_,_,_,rfl,by rw [et];exact same es,by rw [et];exact msame es⟩)
     rw [Us,em]
    ·have em:uI (Y9 (Y9 (fun x=>aF ((fn x:Nat):Int)) i (.int (i:Int))) i (.int (((rs++qs).length:Nat):Int))) (ks.take (j+1))=uI (fun x=> .int (((if x=i then(rs++qs).length else fn x:Nat):Nat):Int)) (ks.take (j+1)):=Q5 fun x _=>by
      simp only [Y9]
      split<;>rfl
     have pu:=Yz (rs++qs) r2 (by rw [aA];omega)
     have hz2:(uI (Y9 (fun x=>aF ((fn x:Nat):Int)) i (.int (i:Int))) (ks.take (j+1))).length<sizeLine:=by
      rw [ab0,aZ]
      exact lM (by omega)
     have hin:i∈ks.take (j+1):=by rw [et];simp
     have ex:jP 2 j6 [(d8 5)] [.dat (eY rs), .dat (eZ n), .own (fL (rs++qs)), .own (.dict (uI (Y9 (fun x=> .int ((fn x:Nat):Int)) i (.int (i:Int))) (ks.take (j+1)))), .dat (.int (i:Int)), .dat (fH r2)]= .ok (.int (((rs++qs).length:Nat):Int)) [.dat (eY rs), .dat (eZ n), .own (fL (rs++qs++[r2])), .own (.dict (uI (Y9 (fun x=> .int ((fn x:Nat):Int)) i (.int (i:Int))) (ks.take (j+1)))), .dat (.int (i:Int)), .dat (fH r2)]:=by
      have ev:ou [(d8 5)] [.dat (eY rs), .dat (eZ n), .own (fL (rs++qs)), .own (.dict (uI (Y9 (fun x=> .int ((fn x:Nat):Int)) i (.int (i:Int))) (ks.take (j+1)))), .dat (.int (i:Int)), .dat (fH r2)]= .ok [fH r2]:=by simp! only [ou]
      simp only [jP,aQ,aW,ev,pu]
      rfl
     refine Vk (by simp! only [hx,nr,es]) (jT (ρ' :=[.dat (eY rs), .dat (eZ n), .own (fL (rs++(qs++[r2]))), .own (.dict (uI (fun x=> .int (((if x=i then(rs++qs).length else fn x:Nat):Nat):Int)) (ks.take (j+1)))), .dat (.int (i:Int)), .dat (fH r2)]) ?_ ⟨qs++[r2],_,_,_,rfl,by rw [et];exact new,by rw [et];exact mnew⟩)
     simp only [Uq,ex,jM,jZ,aW,aQ,DL.keyOf,hz2,if_true,zA,alC _ i _ _ hin,set_0,kW]
     rw [em,aG])
  rw [aC,bV] at h
  exact h
 obtain⟨ρ1,lo,qs,fn,k4,k5,rfl,dn,mt⟩:=loop
 have key:∀d,uL (gK 3) (d8 1) [.dat (eY rs), .dat (eZ n), .own (fL (rs++qs)), .own (.dict (uI (fun x=> .int ((fn x:Nat):Int)) ks)),k4,k5]= .ok d→Le [eY rs,eZ n]= .ok (.tuple [eY (rs++qs),d]):=fun d hd=>by
  refine jD ?_
  show Rt (Uj [.dat (eY rs), .dat (eZ n), .un, .un, .un, .un]) _
  unfold Uj
  refine fP (ρ' :=[.dat (eY rs), .dat (eZ n), .un, .un, .un, .un]) (by simp! only [nm]) ?_
  refine fP (ρ' :=[.dat (eY rs), .dat (eZ n), .own (fL (rs++[])), .un, .un, .un]) (by simp! only [ls]) ?_
  refine fP (ρ' :=[.dat (eY rs), .dat (eZ n), .own (fL (rs++[])), .own (.dict (uI (fun x=> .int (((fun _=>0) x:Nat):Int)) (ks.take 0))), .un, .un]) (by simp! only [];rfl) ?_
  refine fP lo ?_
  have bt:lW [fL (rs++qs)]= .ok (eY (rs++qs)):=rfl
  exact jB (by simp! only [hd,bt]) rfl
 have ql:=dn.len
 cases n with
 |none=>exact⟨qs,none,key .none (by simp! only [uL,eZ,zA,if_true];rfl),dn.g,dn.fits,by omega,gh.none,rfl,rfl⟩
 |some k=>
  have hk:=nk.2.top
  refine⟨qs,some (fn k),key _ ?_,dn.g,dn.fits,by omega,gh.some (dn.lt k hk),dn.tx k hk,?_⟩
  ·simp! only [uL,eZ,aa4,TQ,zA,if_true,DL.keyOf,Kh _ k _ hk]
   rfl
  ·simp only [zU,cU,mt k hk]
end Sb
namespace Sb
open PySem PySem.Spec L2 Evl DL
theorem abL(a b c e:D)(r:List D):fV (.tuple (a::b::c::e::r)) (.int 3)= .ok e:=by
 rw [alm (by omega) (by simp;omega)]
 rfl
theorem ins_get{A B:List Nat}{p q:Nat}(hp:p≤A.length):(A.take p++B++A.drop p).getD q 0=if p+B.length≤q then A.getD (q-B.length) 0 else if p≤q then B.getD (q-p) 0 else A.getD q 0:=by
 have lt:(A.take p).length=p:=by rw [aZ];omega
 by_cases h1:p+B.length≤q
 ·rw [if_pos h1,Fq (by rw [aA,lt];omega),aA,lt]
  simp only [bF,List.getElem?_drop]
  rw [show p+(q-(p+B.length))=q-B.length by omega]
 ·rw [if_neg h1,FW (by rw [aA,lt];omega)]
  by_cases h2:p≤q
  ·rw [if_pos h2,Fq (by rw [lt];exact h2),lt]
  ·rw [if_neg h2,FW (by rw [lt];omega)]
   simp only [bF,List.getElem?_take]
   rw [if_pos (by omega)]
end Sb
namespace Sb
open PySem PySem.Spec L2 Evl DL
theorem agS{w:List Nat}{p:Nat}(h:p<w.length)(hl:w.length≤16777000):fV (.str (fY w)) (.int (p:Int))= .ok (.str (s1 (w.getD p 0))):=by
 have:=ajE (z:=fY w) (i:=(p:Int)) (by omega) (by show(p:Int)<(w.length:Int);omega) (by rw [rP];exact Cv hl)
 rw [this]
 simp [bF,h]
theorem amx(a b:Nat):kZ (.str (s1 a)) (.str (s1 b))= .ok (.bool (decide (a=b))):=by
 rw [LC]
 congr 2
 by_cases h:a=b
 ·subst h
  simp
 ·have:¬s1 a=s1 b:=fun z=>h (adq z)
  simp [h,this]
end Sb
namespace Sb
open PySem PySem.Spec L2 Evl DL
def sgB:List Nat→Bool
 |[c]=>decide (c∈Lz)
 |_=>false
theorem afN(x:Str)(h:x.length≤sizeLine):tE [.str x]= .ok (.bool (sgB x.cps.toList)):=by
 have e1:x.length=x.cps.toList.length:=str_len x
 match hx:x.cps.toList with
 |[c]=>
  have hl:(x.length:Int)=1:=by rw [e1,hx];rfl
  simp! only [tE,GP,Tv h,hl,La,hx]
  rfl
 |[]=>
  have hl:¬(x.length:Int)=1:=by rw [e1,hx];decide
  simp! only [tE,GP,Tv h,hl]
  rfl
 |a::b::r=>
  have hl:¬(x.length:Int)=1:=by rw [e1,hx];simp;omega
  simp! only [tE,GP,Tv h,hl]
  rfl
end Sb
namespace Sb
open PySem PySem.Spec L2 Evl DL
abbrev iz:Str:="word"
abbrev jV:Str:="place"
abbrev nD:Str:="many"
abbrev lU:Str:="sign"
abbrev jF:Str:="pattern"
abbrev lF:Str:="signs"
theorem YX:¬(iz=jV):=by decide+kernel
theorem aa0:¬(iz=nD):=by decide+kernel
theorem aao:¬(iz=lU):=by decide+kernel
theorem Tq:¬(iz=jF):=by decide+kernel
theorem Yc:¬(iz=lF):=by decide+kernel
theorem Av:¬(jV=iz):=by decide+kernel
theorem XH:¬(jV=nD):=by decide+kernel
theorem Yq:¬(jV=lU):=by decide+kernel
theorem O7:¬(jV=jF):=by decide+kernel
theorem Ve:¬(jV=lF):=by decide+kernel
theorem M9:¬(nD=iz):=by decide+kernel
theorem YD:¬(nD=jV):=by decide+kernel
theorem aa7:¬(nD=lU):=by decide+kernel
theorem Tg:¬(nD=jF):=by decide+kernel
theorem YS:¬(nD=lF):=by decide+kernel
theorem EY:¬(lU=iz):=by decide+kernel
theorem X4:¬(lU=jV):=by decide+kernel
theorem aar:¬(lU=nD):=by decide+kernel
theorem Uv:¬(lU=jF):=by decide+kernel
theorem Yt:¬(lU=lF):=by decide+kernel
theorem CP:¬(jF=iz):=by decide+kernel
theorem Ph:¬(jF=jV):=by decide+kernel
theorem RK:¬(jF=nD):=by decide+kernel
theorem QD:¬(jF=lU):=by decide+kernel
theorem O9:¬(jF=lF):=by decide+kernel
theorem Ld:¬(lF=iz):=by decide+kernel
theorem Vs:¬(lF=jV):=by decide+kernel
theorem Xk:¬(lF=nD):=by decide+kernel
theorem YG:¬(lF=lU):=by decide+kernel
theorem Pa:¬(lF=jF):=by decide+kernel
theorem k_all:(¬iz=jV)∧(¬iz=nD)∧(¬iz=lU)∧(¬iz=jF)∧(¬iz=lF)∧(¬jV=iz)∧(¬jV=nD)∧(¬jV=lU)∧(¬jV=jF)∧(¬jV=lF)∧(¬nD=iz)∧(¬nD=jV)∧(¬nD=lU)∧(¬nD=jF)∧(¬nD=lF)∧(¬lU=iz)∧(¬lU=jV)∧(¬lU=nD)∧(¬lU=jF)∧(¬lU=lF)∧(¬jF=iz)∧(¬jF=jV)∧(¬jF=nD)∧(¬jF=lU)∧(¬jF=lF)∧(¬lF=iz)∧(¬lF=jV)∧(¬lF=nD)∧(¬lF=lU)∧(¬lF=jF):=⟨YX,aa0,aao,Tq,Yc,Av,XH,Yq,O7,Ve,M9,YD,aa7,Tg,YS,EY,X4,aar,Uv,Yt,CP,Ph,RK,QD,O9,Ld,Vs,Xk,YG,Pa⟩
theorem ama{c:Nat}(h:97≤c∧c≤122):c∈("abcdefghijklmnopqrstuvwxyz":Str).cps.toList:=by
 have e:("abcdefghijklmnopqrstuvwxyz":Str).cps.toList=(di 26).map (97+·):=by decide+kernel
 rw [e]
 exact cG.mpr ⟨c-97,by simp;omega,by omega⟩
theorem alM{c:Nat}(h:48≤c∧c≤57):c∈("0123456789":Str).cps.toList:=by
 have e:("0123456789":Str).cps.toList=(di 10).map (48+·):=by decide+kernel
 rw [e]
 exact cG.mpr ⟨c-48,by simp;omega,by omega⟩
theorem Iz(w:List Nat)(h:BR w):zW [.str (fY w)]= .ok (.bool true):=by
 have bl:=RX (a:=w) (by have:=h.2.1;omega)
 have h1:=h.1
 have h2:=h.2.1
 refine jD ?_
 show Rt (M8 [.dat (.str (fY w)), .un]) _
 unfold M8
 refine fP (ρ' :=[.dat (.str (fY w)), .un]) (by simp! only [ji,bl,show(1:Int)≤((w.length:Nat):Int) by omega,show((w.length:Nat):Int)≤8 by omega]) ?_
 refine mZ (N:=fun ρ=>∃k:Sl,ρ=[.dat (.str (fY w)),k]) (nY (ds:=w.map fun c=>aV (s1 c)) (fun _ ρ=>∃k:Sl,ρ=[.dat (.str (fY w)),k]) rfl ⟨_,rfl⟩ ?_) ?_
 ·rintro i d ρ hd ⟨k,rfl⟩
  rw [aK,aP] at hd
  obtain⟨c,hc,rfl⟩:=hd
  have hm:=ama (h.2.2 c (bf hc))
  refine⟨_,pP,jT (ρ' :=[.dat (.str (fY w)), .dat (.str (s1 c))]) ?_ ⟨_,rfl⟩⟩
  have e:La true (.str (s1 c)) (.str "abcdefghijklmnopqrstuvwxyz")= .ok (.bool false):=by
   simp only [La,s1,if_true]
   rw [decide_eq_true hm]
   rfl
  simp only [set_0,kW]
  simp! only [e]
 ·rintro ρ ⟨k,rfl⟩
  exact jB rfl rfl
theorem Di(w:List Nat)(m:Nat)(h1:1≤w.length)(h2:w.length≤m)(h3:m≤1000)(h:∀c∈w,c∈Lz):uN [.str (fY w), .int (m:Int)]= .ok (.str (fY w)):=by
 have bl:=RX (a:=w) (by omega)
 refine jD ?_
 show Rt (Jj [.dat (.str (fY w)), .dat (.int (m:Int)), .un]) _
 unfold Jj
 refine fP (ρ' :=[.dat (.str (fY w)), .dat (.int (m:Int)), .un]) (by simp! only [ji,bl,show(1:Int)≤((w.length:Nat):Int) by omega,show((w.length:Nat):Int)≤(m:Int) by omega]) ?_
 refine mZ (N:=fun ρ=>∃k:Sl,ρ=[.dat (.str (fY w)), .dat (.int (m:Int)),k]) (nY (ds:=w.map fun c=>aV (s1 c)) (fun _ ρ=>∃k:Sl,ρ=[.dat (.str (fY w)), .dat (.int (m:Int)),k]) rfl ⟨_,rfl⟩ ?_) ?_
 ·rintro i d ρ hd ⟨k,rfl⟩
  rw [aK,aP] at hd
  obtain⟨c,hc,rfl⟩:=hd
  have hm:=h c (bf hc)
  refine⟨_,pP,jT (ρ' :=[.dat (.str (fY w)), .dat (.int (m:Int)), .dat (.str (s1 c))]) ?_ ⟨_,rfl⟩⟩
  have e:tE [.str (s1 c)]= .ok (.bool true):=by
   rw [afN (s1 c) (show(1:Nat)≤sizeLine by decide)]
   show ER.ok (PyData.bool (decide (c∈Lz)))=_
   rw [decide_eq_true hm]
  simp only [set_0,kW]
  simp! only [e]
 ·rintro ρ ⟨k,rfl⟩
  exact jB rfl rfl
theorem adk(n:Nat):Str.ofString (toString ((n:Nat):Int))=fY (TL.numL n):=TL.ext_tl (TL.tl_num n)
theorem afO{n:Nat}(h:1≤n):∃c r,TL.numL n=c::r∧c≠48:=by
 induction n using Nat.strongRecOn with
 |_ n ih=>
  by_cases z:n<10
  ·exact⟨48+n,[],TL.numL_lt z,by omega⟩
  ·obtain⟨c,r,e,hc⟩:=ih (n/10) (by omega) (by omega)
   exact⟨c,r++[48+n%10],by rw [TL.numL_step (by omega),e];rfl,hc⟩
theorem Ka(n m:Nat)(h:n≤m)(hn:n<10 ^ 19):yE [.str (fY (TL.numL n)), .int (m:Int)]= .ok (.int (n:Int)):=by
 obtain⟨w,hw⟩:∃w,w=TL.numL n:=⟨_,rfl⟩
 have l1:w.length≤19:=by rw [hw];exact TL.numL_len (by omega) hn
 have l0:1≤w.length:=by
  rw [hw]
  have:=List.length_pos_iff.mpr (TL.numL_ne n)
  omega
 have bl:=RX (a:=w) (by omega)
 have dg:∀c∈w,48≤c∧c≤57:=by rw [hw];exact TL.numL_digits n
 have hd:∀c r,w=c::r→r≠[]→c≠48:=fun c r e hr=>by
  by_cases z:n<10
  ·rw [hw,TL.numL_lt z] at e
   injection e with _ e
   exact absurd e.symm hr
  ·obtain⟨c',r',e',hc⟩:=afO (n:=n) (by omega)
   rw [hw,e'] at e
   injection e with e _
   rw [←e]
   exact hc
 have it:S9 [.str (fY w)]= .ok (.int (n:Int)):=by
  have e1:=TL.int_num (n:=n) (by rw [←hw];omega)
  rw [adk,←hw] at e1
  have e2:(fY w).length≤640:=by rw [rP];omega
  simp only [S9,e1,e2,if_true]
 rw [←hw]
 refine jD ?_
 show Rt (Ge [.dat (.str (fY w)), .dat (.int (m:Int)), .un, .un]) _
 unfold Ge
 refine fP (ρ' :=[.dat (.str (fY w)), .dat (.int (m:Int)), .un, .un]) ?_ ?_
 ·by_cases g:((w.length:Nat):Int)>1
  ·obtain⟨c,r,e⟩:∃c r,w=c::r:=by
    cases w with
    |nil=>simp at l0
    |cons c r=>exact⟨c,r,rfl⟩
   have hr:r≠[]:=by
    intro z
    rw [e,z] at g
    simp at g
   have ne:=hd c r e hr
   have ix:fV (.str (fY w)) (.int 0)= .ok (.str (s1 c)):=by
    have:=agS (w:=w) (p:=0) (by omega) (by omega)
    rw [e] at this⊢
    exact this
   have eq:kZ (.str (s1 c)) (.str "0")= .ok (.bool false):=by
    have e0:("0":Str)=s1 48:=by decide+kernel
    rw [e0,amx,decide_eq_false ne]
   simp! only [ji,bl,show(1:Int)≤((w.length:Nat):Int) by omega,show((w.length:Nat):Int)≤19 by omega,g,ix,eq]
  ·simp! only [ji,bl,show(1:Int)≤((w.length:Nat):Int) by omega,show((w.length:Nat):Int)≤19 by omega,g]
 refine mZ (N:=fun ρ=>∃k:Sl,ρ=[.dat (.str (fY w)), .dat (.int (m:Int)),k, .un]) (nY (ds:=w.map fun c=>aV (s1 c)) (fun _ ρ=>∃k:Sl,ρ=[.dat (.str (fY w)), .dat (.int (m:Int)),k, .un]) rfl ⟨_,rfl⟩ ?_) ?_
 ·rintro i d ρ hd ⟨k,rfl⟩
  rw [aK,aP] at hd
  obtain⟨c,hc,rfl⟩:=hd
  have hm:=alM (dg c (bf hc))
  refine⟨_,pP,jT (ρ' :=[.dat (.str (fY w)), .dat (.int (m:Int)), .dat (.str (s1 c)), .un]) ?_ ⟨_,rfl⟩⟩
  have e:La true (.str (s1 c)) (.str "0123456789")= .ok (.bool false):=by
   simp only [La,s1,if_true]
   rw [decide_eq_true hm]
   rfl
  simp only [set_0,kW]
  simp! only [e]
 ·rintro ρ ⟨k,rfl⟩
  refine fP (ρ' :=[.dat (.str (fY w)), .dat (.int (m:Int)),k, .dat (.int (n:Int))]) (by simp! only [it]) ?_
  refine fP (ρ' :=[.dat (.str (fY w)), .dat (.int (m:Int)),k, .dat (.int (n:Int))]) (by simp! only [show¬(n:Int)>(m:Int) by omega]) ?_
  exact jB rfl rfl
theorem UG(w:List Nat)(h:BR w):jm [.str iz, .str (fY w)]= .ok (.str (fY w)):=by
 simp! only [jm,sW,Iz w h]
theorem Nb(n:Nat)(h:n<10 ^ 19):jm [.str jV, .str (fY (TL.numL n))]= .ok (.int (n:Int)):=by
 have e:=Ka n (10 ^ 19) (by omega) h
 have e2:vW (.int 10) (.int 19)= .ok (.int (((10 ^ 19:Nat)):Int)):=by
  rw [wg (by decide) (by decide) (by decide)]
  rfl
 simp! only [jm,sW,k_all,e2,e]
theorem ace(n:Nat)(h:n≤MOST):jm [.str nD, .str (fY (TL.numL n))]= .ok (.int (n:Int)):=by
 have hm:MOST<10 ^ 19:=by decide
 have e:=Ka n MOST h (by omega)
 have e2:((MOST:Nat):Int)=1152921504606846976:=by decide
 rw [e2] at e
 simp! only [jm,sW,k_all,e]
theorem Tz(c:Nat)(h:c∈Lz):jm [.str lU, .str (s1 c)]= .ok (.str (s1 c)):=by
 have e:uN [.str (s1 c), .int 1]= .ok (.str (s1 c)):=Di [c] 1 (by simp) (by simp) (by omega) (by simpa using h)
 simp! only [jm,sW,k_all,e]
theorem abm(w:List Nat)(h1:1≤w.length)(h2:w.length≤40)(h:∀c∈w,c∈Lz):jm [.str lF, .str (fY w)]= .ok (.str (fY w)):=by
 have e:=Di w 40 h1 h2 (by omega) h
 have e2:(((40:Nat)):Int)=40:=rfl
 rw [e2] at e
 simp! only [jm,sW,k_all,e]
end Sb
namespace Sb
open PySem PySem.Spec L2 Evl DL
def Dd.args:Dd (List Nat)→List (Str×List Nat×D)
 | .is w=>[(lF,w, .str (fY w))]
 | .join a b=>[(iz,a,iI a),(iz,b,iI b)]
 | .times a m=>[(iz,a,iI a),(nD,TL.numL m, .int (m:Int))]
 | .cut a s e=>[(iz,a,iI a),(jV,TL.numL s, .int (s:Int)),(jV,TL.numL e, .int (e:Int))]
 | .turn a=>[(iz,a,iI a)]
 | .put a s o=>[(iz,a,iI a),(lU,[s], .str (s1 s)),(lU,[o], .str (s1 o))]
 | .insert a p b=>[(iz,a,iI a),(jV,TL.numL p, .int (p:Int)),(iz,b,iI b)]
 | .remove a s e=>[(iz,a,iI a),(jV,TL.numL s, .int (s:Int)),(jV,TL.numL e, .int (e:Int))]
theorem Dd.Wt(d:Dd (List Nat)):d.args.map (fun q=>q.2.2)=d.rest iI:=by cases d<;>rfl
def Dd.row(w:List Nat)(d:Dd (List Nat)):List (List Nat):=w::d.verb.cps.toList::d.args.map (fun q=>q.2.1)
structure xP(w:List Nat)(d:Dd (List Nat)):Prop where
 w:BR w
 r:∀a∈d.refs,BR a
 v:∀q∈d.args,jm [.str q.1, .str (fY q.2.1)]= .ok q.2.2∧uG q.2.2 .none= .ok (.bool false)∧(vK [q.2.2]= .ok (.str (fY q.2.1)))∧q.2.1.length≤40∧∀c∈q.2.1,48≤c∧c≠59
theorem ac0:∀c∈Lz,48≤c∧c≠59:=by decide+kernel
theorem yM(n:Nat)(h:n<10 ^ 19):vK [.int (n:Int)]= .ok (.str (fY (TL.numL n))):=by
 have e:((n:Int)).natAbs.log2<1920:=by
  have h2:n<2 ^ 100:=Nat.lt_trans h (by decide)
  have:((n:Int)).natAbs=n:=rfl
  rw [this]
  by_cases z:n=0
  ·subst z
   decide
  ·have:=(Nat.log2_lt z).mpr h2
   omega
 simp only [vK,e,if_true]
 exact congrArg (fun x=>ER.ok (aV x)) (adk n)
theorem adX{w:List Nat}(h:BR w):∀c∈w,48≤c∧c≠59:=fun c hc=>by
 have:=h.2.2 c hc
 omega
theorem abD(n:Nat):∀c∈TL.numL n,48≤c∧c≠59:=fun c hc=>by
 have:48≤c∧c≤57:=TL.numL_digits n c hc
 omega
theorem Yi(w:List Nat)(hw:BR w)(d:Dd (List Nat))(hr:∀a∈d.refs,BR a)(t:List Nat→List Nat)(ok:d.ok t)(hm:∀a∈d.refs,(t a).length≤MOST):xP w d where
 w:=hw
 r:=hr
 v:=by
  have hM:MOST<10 ^ 19:=by decide
  have wd:∀a,BR a→jm [.str iz, .str (fY a)]= .ok (iI a)∧uG (iI a) .none= .ok (.bool false)∧(vK [iI a]= .ok (.str (fY a)))∧a.length≤40∧∀c∈a,48≤c∧c≠59:=fun a h=>⟨UG a h,rfl,rfl,by have:=h.2.1;omega,adX h⟩
  have pl:∀n:Nat,n<10 ^ 19→jm [.str jV, .str (fY (TL.numL n))]= .ok (.int (n:Int))∧uG (aF (n:Int)) .none= .ok (.bool false)∧(vK [.int (n:Int)]= .ok (.str (fY (TL.numL n))))∧(TL.numL n).length≤40∧∀c∈TL.numL n,48≤c∧c≠59:=fun n h=>⟨Nb n h,rfl,yM n h,by have:=TL.numL_len (n:=n) (k:=19) (by omega) h;omega,abD n⟩
  have my:∀n:Nat,n≤MOST→jm [.str nD, .str (fY (TL.numL n))]= .ok (.int (n:Int))∧uG (aF (n:Int)) .none= .ok (.bool false)∧(vK [.int (n:Int)]= .ok (.str (fY (TL.numL n))))∧(TL.numL n).length≤40∧∀c∈TL.numL n,48≤c∧c≠59:=fun n h=>⟨ace n h,rfl,yM n (by omega),by have:=TL.numL_len (n:=n) (k:=19) (by omega) (by omega);omega,abD n⟩
  have sg:∀c:Nat,c∈Lz→jm [.str lU, .str (fY [c])]= .ok (.str (s1 c))∧uG (aV (s1 c)) .none= .ok (.bool false)∧(vK [.str (s1 c)]= .ok (.str (fY [c])))∧[c].length≤40∧∀x∈[c],48≤x∧x≠59:=fun c h=>by
   refine⟨Tz c h,rfl,rfl,by simp,fun x hx=> ?_⟩
   have:x=c:=by simpa using hx
   rw [this]
   exact ac0 c h
  have len:∀a∈d.refs,∀n:Nat,n≤(t a).length→n<10 ^ 19:=fun a ha n h=>by
   have:=hm a ha
   omega
  cases d with
  |is w=>
   intro q hq
   have:q=(lF,w, .str (fY w)):=by simpa [Dd.args] using hq
   subst this
   exact⟨abm w ok.1 ok.2.1 ok.2.2,rfl,rfl,ok.2.1,fun c hc=>ac0 c (ok.2.2 c hc)⟩
  |join a b=>
   intro q hq
   simp only [Dd.args,aH,bG,or_false] at hq
   rcases hq with rfl|rfl
   ·exact wd a (hr a (by simp [Dd.refs]))
   ·exact wd b (hr b (by simp [Dd.refs]))
  |times a m=>
   intro q hq
   simp only [Dd.args,aH,bG,or_false] at hq
   rcases hq with rfl|rfl
   ·exact wd a (hr a (by simp [Dd.refs]))
   ·exact my m ok.1
  |cut a s e=>
   intro q hq
   simp only [Dd.args,aH,bG,or_false] at hq
   rcases hq with rfl|rfl|rfl
   ·exact wd a (hr a (by simp [Dd.refs]))
   ·exact pl s (len a (by simp [Dd.refs]) s (cQ ok.1 ok.2))
   ·exact pl e (len a (by simp [Dd.refs]) e ok.2)
  |turn a=>
   intro q hq
   simp only [Dd.args,aH,bG,or_false] at hq
   subst hq
   exact wd a (hr a (by simp [Dd.refs]))
  |put a s o=>
   intro q hq
   simp only [Dd.args,aH,bG,or_false] at hq
   rcases hq with rfl|rfl|rfl
   ·exact wd a (hr a (by simp [Dd.refs]))
   ·exact sg s ok.1
   ·exact sg o ok.2
  |insert a p b=>
   intro q hq
   simp only [Dd.args,aH,bG,or_false] at hq
   rcases hq with rfl|rfl|rfl
   ·exact wd a (hr a (by simp [Dd.refs]))
   ·exact pl p (len a (by simp [Dd.refs]) p ok.1)
   ·exact wd b (hr b (by simp [Dd.refs]))
  |remove a s e=>
   intro q hq
   simp only [Dd.args,aH,bG,or_false] at hq
   rcases hq with rfl|rfl|rfl
   ·exact wd a (hr a (by simp [Dd.refs]))
   ·exact pl s (len a (by simp [Dd.refs]) s (cQ ok.1 ok.2))
   ·exact pl e (len a (by simp [Dd.refs]) e ok.2)
theorem Zy(d:Dd (List Nat)):1≤d.args.length∧d.args.length≤3:=by cases d<;>simp [Dd.args]
theorem akW(d:Dd (List Nat)):fY d.verb.cps.toList=d.verb:=TL.ext_tl rfl
theorem ahR(d:Dd (List Nat)):d.verb.cps.toList.length≤10∧∀c∈d.verb.cps.toList,48≤c∧c≠59:=by cases d<;>simp only [Dd.verb]<;>decide+kernel
theorem LK{w:List Nat}{d:Dd (List Nat)}(h:xP w d):∀p∈d.row w,p.length≤40∧∀c∈p,48≤c∧c≠59:=fun p hp=>by
 unfold Dd.row at hp
 rcases aH.mp hp with rfl|hp
 ·exact⟨by have:=h.w.2.1;omega,adX h.w⟩
 ·rcases aH.mp hp with rfl|hp
  ·have:=ahR d
   exact⟨by omega,this.2⟩
  ·obtain⟨q,hq,rfl⟩:=cG.mp hp
   exact(h.v q hq).2.2.2
theorem W4:∀xs:List Str,Sv (xs.map aV)=some xs
 |[]=>rfl
 |x::xs=>by
  show(Sv (xs.map aV)).map (x::·)=_
  rw [W4 xs]
  rfl
theorem sum_le{ls:List (List Nat)}{m:Nat}(h:∀l∈ls,l.length≤m):((ls.map fY).map (·.length)).sum≤ls.length*m:=by
 induction ls with
 |nil=>simp
 |cons l ls ih=>
  have h1:=h l (by simp)
  have h2:=ih fun x hx=>h x (aN _ hx)
  simp only [bA,List.sum_cons,rP,aY,Nat.add_mul,Nat.one_mul]
  omega
theorem Xn(a:Str)(ls:List (List Nat)):Txt.join a (ls.map fY)=fY (TL.joinL a.cps.toList ls):=by
 rw [TL.join_eq]
 refine TL.ext_tl ?_
 rw [TL.tl_join]
 have e:(ls.map fY).map TL.tl=ls:=by
  rw [cD]
  exact List.map_id' ls
 rw [e]
theorem ai9(a:Str)(ls:List (List Nat))(m:Nat)(h:∀l∈ls,l.length≤m)(hb:ls.length*m+ls.length*a.length≤16777216):Gf a (.list (ls.map fun l=>aV (fY l)))= .ok (.str (fY (TL.joinL a.cps.toList ls))):=by
 have e:(ls.map fun l=>aV (fY l))=(ls.map fY).map aV:=by rw [cD];rfl
 have h2:=sum_le h
 have h3:((ls.map fY).map (·.length)).sum+(ls.map fY).length*a.length≤16777216:=by
  rw [aC]
  omega
 rw [e]
 simp only [Gf,W4,h3,if_true,Xn]
theorem Lq(ts:List (Str×List Nat×D))(hl:ts.length≤100)(h:∀q∈ts,jm [.str q.1, .str (fY q.2.1)]= .ok q.2.2∧uG q.2.2 .none= .ok (.bool false)):yG [.list (ts.map fun q=>aV q.1), .list (ts.map fun q=>aV (fY q.2.1))]= .ok (.list (ts.map fun q=>q.2.2)):=by
 obtain⟨K,hK⟩:∃K,K=cJ (ts.map fun q=>aV q.1):=⟨_,rfl⟩
 obtain⟨W,hW⟩:∃W,W=cJ (ts.map fun q=>aV (fY q.2.1)):=⟨_,rfl⟩
 have bk:je [K]= .ok (.int ((ts.length:Nat):Int)):=by rw [hK];simp
 have bw:je [W]= .ok (.int ((ts.length:Nat):Int)):=by rw [hW];simp
 rw [←hK,←hW]
 refine jD ?_
 show Rt (DR [.dat K, .dat W, .un, .un, .un, .un]) _
 unfold DR
 refine fP (ρ' :=[.dat K, .dat W, .un, .un, .un, .un]) (by simp! only [bk,bw]) ?_
 refine fP (ρ' :=[.dat K, .dat W, .own (.list []), .un, .un, .un]) (by simp! only []) ?_
 refine mZ (N:=fun ρ=>∃k3 k4 k5:Sl,ρ=[.dat K, .dat W, .own (.list (ts.map fun q=>q.2.2)),k3,k4,k5]) ?_ ?_
 ·have loop:=nY (mi:=iZ (d8 0) (d8 1)) (g:=gT [(gN 3),(gN 4)]) (body:=(fG (gH 5 (fu jm [(d8 3),(d8 4)]))
 (fG (iQ (eO uG (d8 5) (eC .none)) (gA (eC .none)) fU)
 (mW 2 (d8 5))))) (ρ:=[.dat K, .dat W, .own (.list []), .un, .un, .un]) (ds:=ts.map fun q=>bL [.str q.1, .str (fY q.2.1)])
   (fun i ρ=>∃k3 k4 k5:Sl,ρ=[.dat K, .dat W, .own (.list ((ts.take i).map fun q=>q.2.2)),k3,k4,k5])
   (by
     rw [hK,hW]
     simp! only [iZ,ou,G9]
     rw [List.zipWith_map_left,List.zipWith_map_right,List.zipWith_self]) ⟨_,_,_,rfl⟩ (by
    rintro i d ρ hd ⟨k3,k4,k5,rfl⟩
    rw [aK,aP] at hd
    obtain⟨q,hq,rfl⟩:=hd
    obtain⟨hv,hn⟩:=h q (bf hq)
    have hi:=(au.mp hq).1
    refine⟨_,ack,?_⟩
    simp only [set_0,kW]
    refine iD (ρ' :=[.dat K, .dat W, .own (.list ((ts.take i).map fun q=>q.2.2)), .dat (.str q.1), .dat (.str (fY q.2.1)), .dat q.2.2]) (lK (kh rfl rfl hv)) ?_
    refine iD (ρ' :=[.dat K, .dat W, .own (.list ((ts.take i).map fun q=>q.2.2)), .dat (.str q.1), .dat (.str (fY q.2.1)), .dat q.2.2]) (by
     simp! only [hn]) ?_
    refine jT ?_ ⟨.dat (.str q.1), .dat (.str (fY q.2.1)), .dat q.2.2,rfl⟩
    have cl:((ts.take i).map fun q=>q.2.2).length<sizeLine:=by
     rw [aC,aZ]
     exact lM (by omega)
    simp only [mW,jM,jZ,set_0,kW,aW,aQ,cl,if_true]
    rw [bH,hq]
    simp)
  rw [aC,bV] at loop
  exact loop
 ·rintro ρ ⟨k3,k4,k5,rfl⟩
  exact⟨_,rfl,rfl⟩
theorem N7(d:Dd (List Nat)):sV [.str d.verb]= .ok (.list (d.args.map fun q=>aV q.1)):=by
 cases d<;>simp! only [sV,Ja,Dd.verb,Dd.args,bA,cZ,oN,Ma,v_all]
theorem BW{w:List Nat}{d:Dd (List Nat)}(h:xP w d):mO [.str (fY (TL.joinL [32] (d.row w)))]= .ok (.tuple [.str d.verb,iI w, .list (d.rest iI)]):=by
 have al:=Zy d
 obtain⟨R,hR⟩:∃R,R=fY (TL.joinL [32] (d.row w)):=⟨_,rfl⟩
 obtain⟨L,hL⟩:∃L,L=cJ ((d.row w).map fun l=>aV (fY l)):=⟨_,rfl⟩
 have e5:(" ":Str).cps.toList=[32]:=by decide+kernel
 have sp:rD R (.str " ")= .ok L:=by
  have e1:(((" ":Str).length==0)=false):=by decide+kernel
  have e2:R.length+2≤sizeLine:=by
   have:∀ls:List (List Nat),(∀l∈ls,l.length≤40)→(TL.joinL [32] ls).length≤ls.length*41:=by
    intro ls
    induction ls with
    |nil=>intro _;simp [TL.joinL]
    |cons l ls ih=>
     intro hh
     have h1:=hh l (by simp)
     have h2:=ih fun x hx=>hh x (aN _ hx)
     cases ls with
     |nil=>simp only [TL.joinL,aY,cH];omega
     |cons x r=>
      simp only [TL.joinL,aA,aY,cH] at h2⊢
      omega
   have h3:=this (d.row w) fun l hl=>(LK h l hl).1
   rw [hR,rP]
   have:(d.row w).length≤5:=by simp only [Dd.row,aY,aC];omega
   exact Cv (by omega)
  have e3:Txt.split R " "=(d.row w).map fY:=by
   have j:=Xn " " (d.row w)
   rw [e5] at j
   rw [hR,←j]
   refine TL.split_join (s:=32) (S:=[]) e5 (by decide+kernel) (by simp [Dd.row]) fun p hp=> ?_
   obtain⟨l,hl,rfl⟩:=cG.mp hp
   intro z
   have:=(LK h l hl).2 32 z
   omega
  rw [hL]
  simp only [rD,e1,e2,and_self,if_true,e3,cD]
  rfl
 have ln:je [L]= .ok (.int ((2+d.args.length:Nat):Int)):=by
  rw [hL,Ae,aC]
  simp only [Dd.row,aY,aC]
  congr 3
  omega
 have x0:fV L (.int 0)= .ok (iI w):=by
  rw [hL,pH (by omega) (by simp only [aC,Dd.row,aY];omega)]
  rfl
 have x1:fV L (.int 1)= .ok (.str d.verb):=by
  rw [hL,pH (by omega) (by simp only [aC,Dd.row,aY];omega)]
  show ER.ok (aV (fY d.verb.cps.toList))=_
  rw [akW]
 have sl:∀ρ:DL.Env,d8 1 ρ= .ok L→PB (d8 1) (some (eC (.int 2))) none ρ= .ok (.list (d.args.map fun q=>aV (fY q.2.1))):=fun ρ hv=>by
  rw [hL] at hv
  have:=adB (m:=d8 1) (ma:=eC (.int 2)) (k:=2) hv rfl
  rw [this]
  simp only [Dd.row,bA,List.drop_succ_cons,List.drop_zero,cD]
  rfl
 have vo:=Lq d.args (by omega) fun q hq=>⟨(h.v q hq).1,(h.v q hq).2.1⟩
 rw [d.Wt] at vo
 rw [←hR]
 refine jD ?_
 show Rt (qP [.dat (.str R), .un, .un, .un]) _
 unfold qP
 have fl:acn L= .ok L:=by rw [hL];rfl
 refine fP (ρ' :=[.dat (.str R), .dat L, .un, .un]) (by simp! only [oN,Ih,sp,fl]) ?_
 refine fP (ρ' :=[.dat (.str R), .dat L, .un, .un]) (by simp! only [ln,x0,iI,Iz w h.w,show¬(((2+d.args.length:Nat):Int)<3) by omega]) ?_
 refine fP (ρ' :=[.dat (.str R), .dat L, .dat (.list (d.args.map fun q=>aV q.1)), .un]) (by simp! only [x1,N7]) ?_
 refine fP (ρ' :=[.dat (.str R), .dat L, .dat (.list (d.args.map fun q=>aV q.1)), .un]) rfl ?_
 refine fP (ρ' :=[.dat (.str R), .dat L, .dat (.list (d.args.map fun q=>aV q.1)), .dat (.list (d.rest iI))]) (lK (kh rfl (sl _ rfl) vo)) ?_
 refine fP (ρ' :=[.dat (.str R), .dat L, .dat (.list (d.args.map fun q=>aV q.1)), .dat (.list (d.rest iI))]) rfl ?_
 exact jB (by simp! only [x0,x1]) rfl
end Sb
namespace Sb
open PySem PySem.Spec L2 Evl DL
def zM(rs:List Rule)(ns:List Nat):List Nat:=(ns.map fun i=>(texts rs).getD i []).flatten
theorem Zv{rs:List Rule}{ns:List Nat}(h:∀n∈ns,n<rs.length)(qs:List Rule):zM (rs++qs) ns=zM rs ns:=by
 unfold zM
 congr 1
 exact bT fun n hn=>jg (h n hn) qs
theorem wJ(rs:List Rule)(ns:List Nat)(n:Nat):zM rs (ns++[n])=zM rs ns++(texts rs).getD n []:=by simp [zM]
theorem ae1(ns:List Nat)(n:Nat):cJ ((ns.map fun(n:Nat)=>aF (n:Int))++[.int (n:Int)])=fB (ns++[n]):=by simp [fB]
theorem Ux(rs:List Rule)(r:Rule)(hl:rs.length<1000):iH (eY rs) (.tuple [fH r])= .ok (eY (rs++[r])):=by
 have:=abO rs [r] (by simp;omega)
 exact this
theorem Rp{i:Nat}{m:EM}{ρ:DL.Env}{ns:List Nat}{n:Nat}(h:ρ[i]? =some (.own (fB ns)))(hm:m ρ= .ok (.int (n:Int)))(hl:ns.length<1000):mW i m ρ= .nx (ρ.set i (.own (fB (ns++[n])))):=by
 rw [app_ok (ds:=ns.map fun(n:Nat)=>aF (n:Int)) (d:= .int (n:Int)) h hm (by rw [aC];exact lM (by omega)),ae1]
theorem ahx{rs:List Rule}{ns:List Nat}{i:Nat}(h:i+1<ns.length):((texts rs).getD (ns.getD i 0) []).length+((texts rs).getD (ns.getD (i+1) 0) []).length≤(zM rs ns).length:=by
 have e:ns=ns.take i++(ns.getD i 0::ns.getD (i+1) 0::ns.drop (i+2)):=by
  have e1:ns.drop i=ns.getD i 0::ns.drop (i+1):=by
   rw [List.drop_eq_getElem_cons (by omega)]
   simp [bF,show i<ns.length by omega]
  have e2:ns.drop (i+1)=ns.getD (i+1) 0::ns.drop (i+2):=by
   rw [List.drop_eq_getElem_cons (by omega)]
   simp [bF,show i+1<ns.length by omega]
  rw [←e2,←e1,bM]
 have:zM rs ns=zM rs (ns.take i)++((texts rs).getD (ns.getD i 0) []++((texts rs).getD (ns.getD (i+1) 0) []++zM rs (ns.drop (i+2)))):=by
  conv=>lhs;rw [e]
  simp [zM]
 rw [this]
 simp only [aA]
 omega
theorem getD_mem{ns:List Nat}{i:Nat}(h:i<ns.length):ns.getD i 0∈ns:=by
 rw [bF,aU h]
 exact dh h
structure Gs(rs:List Rule):Prop where
 g:Good rs
 t:tN rs=0
theorem Gs.nil:Gs []:=⟨Good.nil,rfl⟩
theorem Gs.snoc{rs:List Rule}{r:Rule}(h:Gs rs)(ok:r.ok rs.length)(nt:tN [r]=0:=by rfl):Gs (rs++[r]):=⟨h.g.snoc ok,by rw [Io,h.t,nt]⟩
theorem Zt(w:List Nat)(h1:1≤w.length)(h2:w.length≤40)(hs:∀c∈w,c∈Lz):∃rs k,pQ [.str (fY w)]= .ok (.tuple [eY rs, .int ((k:Nat):Int)])∧Gs rs∧Fits MOST rs∧k<rs.length∧(texts rs).getD k []=w∧rs.length+1≤2*w.length:=by
 have hM:40≤MOST:=by decide
 obtain⟨X,hX⟩:∃X,X=aV (fY w):=⟨_,rfl⟩
 rw [←hX]
 have run:Rt (rZ [.dat X, .un, .un, .un, .un, .un]) (fun d=>∃rs k,d= .tuple [eY rs, .int ((k:Nat):Int)]∧Gs rs∧Fits MOST rs∧k<rs.length∧(texts rs).getD k []=w∧rs.length+1≤2*w.length):=by
  unfold rZ
  refine fP (ρ' :=[.dat X, .dat (eY []), .un, .un, .un, .un]) (by simp! only [];rfl) ?_
  refine fP (ρ' :=[.dat X, .dat (eY []), .own (fB []), .un, .un, .un]) (by simp! only [];rfl) ?_
  refine mZ (N:=fun ρ=>∃(rs:List Rule) (ns:List Nat) (k3:Sl),ρ=[.dat X, .dat (eY rs), .own (fB ns),k3, .un, .un]∧Gs rs∧Fits MOST rs∧rs.length=w.length∧ns.length=w.length∧(∀n∈ns,n<rs.length)∧zM rs ns=w) ?_ ?_
  ·have loop:=nY (mi:=iS (d8 0)) (g:=gN 3) (body:=(fG (mW 2 (fu je [(d8 1)]))
 (gH 1 (eO iH (d8 1) (jw [(jw [(eC (.str "sign")),(d8 3)])]))))) (ρ:=[.dat X, .dat (eY []), .own (fB []), .un, .un, .un]) (ds:=w.map fun c=>aV (s1 c))
    (fun i ρ=>∃(rs:List Rule) (ns:List Nat) (k3:Sl),ρ=[.dat X, .dat (eY rs), .own (fB ns),k3, .un, .un]∧Gs rs∧Fits MOST rs∧rs.length=i∧ns.length=i∧(∀n∈ns,n<rs.length)∧zM rs ns=w.take i)
    (by rw [hX];rfl) ⟨[],[],_,rfl,Gs.nil,(fun n hn=>by cases hn),rfl,rfl,(fun n hn=>by cases hn),rfl⟩ (by
     rintro i d ρ hd ⟨rs,ns,k3,rfl,g,f,l1,l2,lt,ct⟩
     rw [aK,aP] at hd
     obtain⟨c,hc,rfl⟩:=hd
     have hi:=(au.mp hc).1
     refine⟨_,pP,?_⟩
     simp only [set_0,kW]
     refine iD (ρ' :=[.dat X, .dat (eY rs), .own (fB (ns++[rs.length])), .dat (.str (s1 c)), .un, .un]) (Rp (ns:=ns) (n:=rs.length) rfl (by simp! only [uV]) (by omega)) ?_
     have ad:=Ux rs (.sign c) (by omega)
     refine jT (ρ' :=[.dat X, .dat (eY (rs++[.sign c])), .own (fB (ns++[rs.length])), .dat (.str (s1 c)), .un, .un]) (by simp only [fH] at ad;simp! only [YJ,ad]) ⟨rs++[.sign c],ns++[rs.length],_,rfl,?_,?_,by simp [l1],by simp [l2],fun n hn=> ?_,?_⟩
     ·exact g.snoc (hs c (bf hc))
     ·exact f.snoc (by show 1≤MOST;decide)
     ·rcases aM.mp hn with hn|hn
      ·have:=lt n hn
       rw [aA]
       omega
      ·have:n=rs.length:=by simpa using hn
       rw [aA,bQ]
       omega
     ·rw [wJ,Zv lt,ct,lV,bH,hc]
      rfl)
   rw [aC,bV] at loop
   exact loop
  ·rintro ρ ⟨rs,ns,k3,rfl,g,f,l1,l2,lt,ct⟩
   refine mZ (N:=fun ρ=>∃(rs:List Rule) (n:Nat) (k3 k4 k5:Sl),ρ=[.dat X, .dat (eY rs), .own (fB [n]),k3,k4,k5]∧Gs rs∧Fits MOST rs∧n<rs.length∧(texts rs).getD n []=w∧rs.length+1≤2*w.length) (pO (fun j ρ=>∃(rs:List Rule) (ns:List Nat) (k3 k4 k5:Sl),ρ=[.dat X, .dat (eY rs), .own (fB ns),k3,k4,k5]∧Gs rs∧Fits MOST rs∧ns.length=j∧1≤j∧rs.length+j≤2*w.length∧(∀n∈ns,n<rs.length)∧zM rs ns=w) w.length (by omega) ⟨rs,ns,_,_,_,rfl,g,f,l2,h1,by omega,lt,ct⟩ ?_) ?_
   ·clear l1 l2 lt ct f g rs ns k3
    rintro j ρ ⟨rs,ns,k3,k4,k5,rfl,g,f,lj,j1,bd,lt,ct⟩
    have bl:je [fB ns]= .ok (.int ((j:Nat):Int)):=by rw [acM,lj]
    by_cases hj:j=1
    ·left
     refine⟨by simp! only [bl,show¬((j:Nat):Int)>1 by omega],?_⟩
     obtain⟨n,rfl⟩:∃n,ns=[n]:=List.length_eq_one_iff.mp (by omega)
     refine⟨rs,n,_,_,_,rfl,g,f,lt n (by simp),?_,by omega⟩
     rw [←ct]
     simp [zM]
    ·right
     refine⟨by simp! only [bl,show((j:Nat):Int)>1 by omega],j/2+j%2,by omega,?_⟩
     refine iD (ρ' :=[.dat X, .dat (eY rs), .own (fB ns),k3, .own (fB []),k5]) (by simp! only [];rfl) ?_
     refine al7 (M:=fun ρ=>∃(qs:List Rule) (ms:List Nat) (k5:Sl),ρ=[.dat X, .dat (eY (rs++qs)), .own (fB ns),k3, .own (fB ms),k5]∧Gs (rs++qs)∧Fits MOST (rs++qs)∧qs.length=j/2∧ms.length=j/2∧(∀n∈ms,n<(rs++qs).length)∧zM (rs++qs) ms=zM rs (ns.take (2*(j/2)))) ?_ ?_
     ·have sd:KY 0 ((j:Int)-1) 2=(di (j/2)).map fun(i:Nat)=>aF ((2*i:Nat):Int):=by
       unfold KY
       rw [if_pos (by omega),show(((j:Int)-1-0-1)/2+1).toNat=j/2 by omega]
       refine bT fun i _=> ?_
       congr 1
       omega
      have loop:=nY (mi:=iRc 2 (eC (.int 0)) (eO nj (fu je [(gK 2)]) (eC (.int 1))) (eC (.int 2))) (g:=gN 5) (body:=(fG (mW 4 (fu je [(d8 1)]))
 (gH 1 (eO iH (d8 1) (jw [(jw [(eC (.str "join")),(eO fV (gK 2) (d8 5)),(eO fV (gK 2) (eO iH (d8 5) (eC (.int 1))))])]))))) (ρ:=[.dat X, .dat (eY rs), .own (fB ns),k3, .own (fB []),k5]) (ds:=(di (j/2)).map fun(i:Nat)=>aF ((2*i:Nat):Int))
       (fun i ρ=>∃(qs:List Rule) (ms:List Nat) (k5:Sl),ρ=[.dat X, .dat (eY (rs++qs)), .own (fB ns),k3, .own (fB ms),k5]∧Gs (rs++qs)∧Fits MOST (rs++qs)∧qs.length=i∧ms.length=i∧(∀n∈ms,n<(rs++qs).length)∧zM (rs++qs) ms=zM rs (ns.take (2*i)))
       (by
         rw [←sd]
         have c1:inR ((j:Int)-1)=true:=acG (by omega) (by omega)
         have c0:inR 0=true:=by decide
         simp! only [iRc,ou,bl,c0,c1,Bool.and_self,decide_true,if_true]) ⟨[],[],_,by rw [aJ],by rw [aJ];exact g,by rw [aJ];exact f,rfl,rfl,(fun n hn=>by cases hn),rfl⟩ (by
        rintro i d ρ hd ⟨qs,ms,k5,rfl,g1,f1,q1,q2,lt1,ct1⟩
        rw [aK,aP] at hd
        obtain⟨i',hi,rfl⟩:=hd
        have hij:=(au.mp hi).1
        rw [dJ] at hij
        rw [List.getElem?_range hij] at hi
        cases hi
        have ha:2*i<ns.length:=by omega
        have hb:2*i+1<ns.length:=by omega
        have ixa:=gY ha
        have ixb:=gY hb
        rw [show(((2*i+1:Nat)):Int)=((2*i:Nat):Int)+1 by omega] at ixb
        have la:=lt _ (getD_mem ha)
        have lb:=lt _ (getD_mem hb)
        have two:=ahx (rs:=rs) hb
        rw [ct] at two
        refine⟨_,pP,?_⟩
        simp only [set_0,kW]
        refine iD (ρ' :=[.dat X, .dat (eY (rs++qs)), .own (fB ns),k3, .own (fB (ms++[(rs++qs).length])), .dat (.int ((2*i:Nat):Int))]) (Rp (ns:=ms) (n:=(rs++qs).length) rfl (by simp! only [uV]) (by omega)) ?_
        have ad:=Ux (rs++qs) (.join (ns.getD (2*i) 0) (ns.getD (2*i+1) 0)) (by rw [aA];omega)
        simp only [fH] at ad
        rw [aG] at ad
        refine jT (ρ' :=[.dat X, .dat (eY (rs++(qs++[.join (ns.getD (2*i) 0) (ns.getD (2*i+1) 0)]))), .own (fB ns),k3, .own (fB (ms++[(rs++qs).length])), .dat (.int ((2*i:Nat):Int))]) (by simp! only [YJ,ixa,ixb,ad]) ⟨qs++[.join (ns.getD (2*i) 0) (ns.getD (2*i+1) 0)],ms++[(rs++qs).length],_,rfl,?_,?_,by simp [q1],by simp [q2],fun n hn=> ?_,?_⟩
        ·rw [←aG]
         exact g1.snoc ⟨by rw [aA];omega,by rw [aA];omega⟩
        ·rw [←aG]
         refine f1.snoc ?_
         show(sizes (rs++qs)).getD _ 0+(sizes (rs++qs)).getD _ 0≤MOST
         rw [←gU,←gU,jg la,jg lb]
         omega
        ·rw [←aG,aA,bQ]
         rcases aM.mp hn with hn|hn
         ·have:=lt1 n hn
          omega
         ·have:n=(rs++qs).length:=by simpa using hn
          omega
        ·rw [←aG,wJ,Zv lt1,ct1,lV,show 2*(i+1)=2*i+1+1 by omega,bH,bH,aU ha,aU hb]
         show _=zM rs (ns.take (2*i)++[ns[2*i]]++[ns[2*i+1]])
         rw [wJ,wJ,aG]
         show _++((texts (rs++qs)).getD (ns.getD (2*i) 0) []++(texts (rs++qs)).getD (ns.getD (2*i+1) 0) [])=_
         rw [jg la,jg lb]
         simp [bF,ha,hb])
      rw [aC,dJ] at loop
      exact loop
     ·rintro ρ ⟨qs,ms,k5,rfl,g1,f1,q1,q2,lt1,ct1⟩
      by_cases odd:j%2=1
      ·have md:jJ (.int (j:Int)) (.int 2)= .ok (.int 1):=by
        rw [jo (by omega)]
        congr 2
        omega
       have la:=abR (ns:=ns) (by omega)
       refine iD (ρ' :=[.dat X, .dat (eY (rs++qs)), .own (fB ns),k3, .own (fB (ms++[ns.getD (ns.length-1) 0])),k5]) (by
        rw [Dt (by simp! only [bl,md])]
        exact Rp (ns:=ms) (n:=ns.getD (ns.length-1) 0) rfl (by simp! only [la]) (by omega)) ?_
       refine jT (ρ' :=[.dat X, .dat (eY (rs++qs)), .own (fB (ms++[ns.getD (ns.length-1) 0])),k3, .un,k5]) rfl ⟨rs++qs,ms++[ns.getD (ns.length-1) 0],_,_,_,rfl,g1,f1,by simp [q2];omega,by omega,by rw [aA];omega,fun n hn=> ?_,?_⟩
       ·rcases aM.mp hn with hn|hn
        ·exact lt1 n hn
        ·have e:n=ns.getD (ns.length-1) 0:=by simpa using hn
         have:=lt _ (getD_mem (ns:=ns) (i:=ns.length-1) (by omega))
         rw [aA,e]
         omega
       ·have lx:=lt _ (getD_mem (ns:=ns) (i:=ns.length-1) (by omega))
        rw [wJ,ct1,jg lx,←wJ,←ct]
        congr 1
        rw [show 2*(j/2)=ns.length-1 by omega]
        exact(ae9 ns 0 (by omega)).symm
      ·have md:jJ (.int (j:Int)) (.int 2)= .ok (.int 0):=by
        rw [jo (by omega)]
        congr 2
        omega
       refine iD (ρ' :=[.dat X, .dat (eY (rs++qs)), .own (fB ns),k3, .own (fB ms),k5]) (by simp! only [bl,md]) ?_
       refine jT (ρ' :=[.dat X, .dat (eY (rs++qs)), .own (fB ms),k3, .un,k5]) rfl ⟨rs++qs,ms,_,_,_,rfl,g1,f1,by omega,by omega,by rw [aA];omega,lt1,?_⟩
       rw [ct1,show 2*(j/2)=ns.length by omega,bV,ct]
   ·rintro ρ ⟨rs,n,k3,k4,k5,rfl,g,f,hn,ht,bd⟩
    exact jB (by simp! only [];rfl) ⟨rs,n,rfl,g,f,hn,ht,bd⟩
 obtain⟨d,hd,rs,k,rfl,h⟩:=Gh (ks:=[.dat]) (n:=5) (m:=rZ) (ds:=[X]) run
 exact⟨rs,k,hd,h⟩
end Sb
namespace Sb
open PySem PySem.Spec L2 Evl DL
abbrev pairD(rs:List Rule)(n:Option Nat):D:= .tuple [eY rs,eZ n]
structure Jk(rs:List Rule)(n:Option Nat)(w:List Nat):Prop where
 g:Good rs
 f:Fits MOST rs
 nm:gh rs n
 t:iG rs n=w
theorem Jk.len{rs:List Rule}{n:Option Nat}{w:List Nat}(h:Jk rs n w):lD rs n=w.length:=by rw [←oF,h.t]
theorem Jk.app{rs:List Rule}{n:Option Nat}{w:List Nat}(h:Jk rs n w){qs:List Rule}(g:Good (rs++qs))(f:Fits MOST (rs++qs)):Jk (rs++qs) n w:=⟨g,f,h.nm.app qs,by rw [tH h.nm,h.t]⟩
theorem Dk(a:D)(r:List D):fV (.list (a::r)) (.int 0)= .ok a:=by
 rw [pH (by omega) (by simp only [aY];omega)]
 rfl
theorem LR(a b:D)(r:List D):fV (.list (a::b::r)) (.int 1)= .ok b:=by
 rw [pH (by omega) (by simp only [aY];omega)]
 rfl
theorem akD(a b c:D)(r:List D):fV (.list (a::b::c::r)) (.int 2)= .ok c:=by
 rw [pH (by omega) (by simp only [aY];omega)]
 rfl
theorem nA{g:GM}{m:EM}{ρ ρ' :DL.Env}{d:D}(h:m ρ= .ok d)(hg:g d ρ=some ρ'):lA g m ρ= .nx ρ' :=by simp only [lA,h,hg]
theorem amt{rs:List Rule}{n:Option Nat}{w:List Nat}(h:Jk rs n w)(hl:rs.length≤200000)(B:Nat)(hB:∀k,n=some k→k<B)(s e:Nat)(hse:s≤e)(he:e≤w.length):
 ∃qs n',vq [eY rs,eZ n, .int (s:Int), .int (e:Int)]= .ok (.tuple [eY (rs++qs),eZ n'])∧Jk (rs++qs) n' (stretch w s e)∧Good (rs++qs)∧Fits MOST (rs++qs)∧qs.length≤4*B∧(s=0∨e=w.length→qs.length≤2*B+2):=by
 have ln:=h.len
 by_cases hz:s=e
 ·subst hz
  have l1:=tO rs h.g h.f (by omega) n h.nm
  have c1:(0:Int)≤(s:Int):=by omega
  have c3:(s:Int)≤((lD rs n:Nat):Int):=by omega
  have bt:lW [eY rs]= .ok (eY rs):=rfl
  have lx:uO rs h.g h.f (by omega)=uO rs h.g h.f (by omega):=rfl
  refine⟨[],none,?_,⟨by rw [aJ];exact h.g,by rw [aJ];exact h.f,gh.none,?_⟩,by rw [aJ];exact h.g,by rw [aJ];exact h.f,by simp,fun _=>by simp⟩
  ·refine jD ?_
   show Rt (Ij [.dat (eY rs), .dat (eZ n), .dat (.int (s:Int)), .dat (.int (s:Int)), .un, .un, .un, .un, .un]) _
   unfold Ij
   refine fP (ρ' :=[.dat (eY rs), .dat (eZ n), .dat (.int (s:Int)), .dat (.int (s:Int)), .dat (.int ((lD rs n:Nat):Int)), .un, .un, .un, .un]) (by simp! only [l1]) ?_
   refine fP (ρ' :=[.dat (eY rs), .dat (eZ n), .dat (.int (s:Int)), .dat (.int (s:Int)), .dat (.int ((lD rs n:Nat):Int)), .un, .un, .un, .un]) (by simp! only [oY,c1,c3,Int.le_refl]) ?_
   exact oK (Hg (by simp! only []) (jB (d:= .tuple [eY rs, .none]) (by simp! only [bt]) (by rw [aJ];rfl)))
  ·simp [iG,stretch]
 ·obtain⟨qs,n',h1,h2,h3,_,h5,h6,h7⟩:=aic rs h.g h.f hl n h.nm s e hse (by omega)
  rw [h.t] at h6
  cases n with
  |none=>
   exfalso
   simp only [lD] at ln
   omega
  |some k=>
   obtain⟨b1,b2⟩:=h7 k rfl
   have hk:=hB k rfl
   exact⟨qs,n',h1,⟨h2,h3,h5,h6⟩,h2,h3,by omega,fun z=>by
    have:=b2 (by rw [ln];exact z)
    omega⟩
theorem adA{rs os:List Rule}{n m:Option Nat}{v w:List Nat}(h:Jk rs n v)(ho:Jk os m w)(hl:rs.length+os.length≤2000000):qJ [pairD rs n,pairD os m]= .ok (.tuple [eY (rs++bring rs os),eZ n,eZ (pG rs m)])∧Jk (rs++bring rs os) n v∧Jk (rs++bring rs os) (pG rs m) w∧(bring rs os).length=os.length:=by
 have br:=R9 rs os ho.g (by omega) m ho.nm
 obtain⟨g,f,_⟩:=QL h.g h.f os ho.g ho.f
 obtain⟨bn,bt⟩:=WT h.g h.f ho.g ho.f ho.nm
 refine⟨?_,h.app g f,⟨g,f,bn,by rw [bt,ho.t]⟩,by simp [bring]⟩
 refine jD ?_
 show Rt (wZ [.dat (pairD rs n), .dat (pairD os m), .un, .un]) _
 unfold wZ
 refine fP (ρ' :=[.dat (pairD rs n), .dat (pairD os m), .dat (eY (rs++bring rs os)), .dat (eZ (pG rs m))]) (nA (d:= .tuple [eY (rs++bring rs os),eZ (pG rs m)]) (ni (x:=eY rs) (y:=eY os) (z:=eZ m) (by simp! only [gG]) (by simp! only [gG]) (by simp! only [gR]) br) rfl) ?_
 exact jB (by simp! only [gR]) rfl
def Dd.bd{α:Type}(b:α→Nat):Dd α→Nat
 | .is w=>2*w.length
 | .join x y=>b x+b y+1
 | .times x _=>b x+1
 | .cut x _ _=>5*b x
 | .turn x=>b x
 | .put x _ _=>b x
 | .insert x _ y=>5*b x+b y+6
 | .remove x _ _=>5*b x+5
theorem ae0(d:Dd (List Nat)):∀q∈d.args,q.1=iz→∃a∈d.refs,q.2.2=iI a:=by
 intro q hq hk
 have n1:¬(lF=iz):=Ld
 have n2:¬(nD=iz):=M9
 have n3:¬(jV=iz):=Av
 have n4:¬(lU=iz):=EY
 cases d<;>simp only [Dd.args,aH,bG,or_false] at hq<;>simp only [Dd.refs,aH,bG,or_false]
 case is=>subst hq;exact absurd hk n1
 case join a b=>
  rcases hq with rfl|rfl
  ·exact⟨a, .inl rfl,rfl⟩
  ·exact⟨b, .inr rfl,rfl⟩
 case times a m=>
  rcases hq with rfl|rfl
  ·exact⟨a,rfl,rfl⟩
  ·exact absurd hk n2
 case cut a s e=>
  rcases hq with rfl|rfl|rfl
  ·exact⟨a,rfl,rfl⟩
  ·exact absurd hk n3
  ·exact absurd hk n3
 case turn a=>subst hq;exact⟨a,rfl,rfl⟩
 case put a s o=>
  rcases hq with rfl|rfl|rfl
  ·exact⟨a,rfl,rfl⟩
  ·exact absurd hk n4
  ·exact absurd hk n4
 case insert a p b=>
  rcases hq with rfl|rfl|rfl
  ·exact⟨a, .inl rfl,rfl⟩
  ·exact absurd hk n3
  ·exact⟨b, .inr rfl,rfl⟩
 case remove a s e=>
  rcases hq with rfl|rfl|rfl
  ·exact⟨a,rfl,rfl⟩
  ·exact absurd hk n3
  ·exact absurd hk n3
theorem aly(F:List Nat→D)(ws:List (List Nat))(d:Dd (List Nat))(hr:∀a∈d.refs,a∈ws):j8 [.dict (uH F ws), .list (d.args.map fun q=>aV q.1), .list (d.rest iI)]= .ok .none:=by
 obtain⟨K,hK⟩:∃K,K=cJ (d.args.map fun q=>aV q.1):=⟨_,rfl⟩
 obtain⟨V,hV⟩:∃V,V=cJ (d.rest iI):=⟨_,rfl⟩
 obtain⟨T,hT⟩:∃T,T=PyData.dict (uH F ws):=⟨_,rfl⟩
 rw [←hK,←hV,←hT]
 have loop:Nx (mH [.bor T, .dat K, .dat V, .un, .un]) (fun _=>True):=by
  unfold mH
  obtain⟨ρ,e,_⟩:=nY (mi:=iZ (d8 1) (d8 2)) (g:=gT [(gN 3),(gN 4)]) (body:=(iQ (oU (eO kZ (d8 3) (eC (.str "word"))) (eO (xV true) (d8 4) (gK 0))) (sX "NoWord") fU)) (ρ:=[.bor T, .dat K, .dat V, .un, .un]) (ds:=d.args.map fun q=>bL [.str q.1,q.2.2])
   (fun _ ρ=>∃k3 k4:Sl,ρ=[.bor T, .dat K, .dat V,k3,k4]) (by
    rw [hK,hV,←d.Wt]
    simp! only [iZ,ou,G9]
    rw [List.zipWith_map_left,List.zipWith_map_right,List.zipWith_self]) ⟨_,_,rfl⟩ (by
    rintro i x ρ hd ⟨k3,k4,rfl⟩
    rw [aK,aP] at hd
    obtain⟨q,hq,rfl⟩:=hd
    refine⟨_,ack,?_⟩
    simp only [set_0,kW]
    refine jT (ρ' :=[.bor T, .dat K, .dat V, .dat (.str q.1), .dat q.2.2]) ?_ ⟨_,_,rfl⟩
    by_cases z:q.1=iz
    ·obtain⟨a,ha,e⟩:=ae0 d q (bf hq) z
     have hi:xV true (iI a) T= .ok (.bool false):=by
      rw [hT]
      show xV true (.str (fY a)) _=_
      rw [ajJ,decide_eq_true (hr a ha)]
      rfl
     rw [e,z]
     simp! only [hi]
    ·simp! only [z])
  exact⟨ρ,e,trivial⟩
 obtain⟨ρ,e,_⟩:=loop
 exact alh e
end Sb
namespace Sb
open PySem PySem.Spec L2 Evl DL
abbrev St:Type:=List Nat×Dd (List Nat)
def upT(T:List Nat→List Nat)(w v:List Nat):List Nat→List Nat:=fun x=>if x=w then v else T x
def upB(b:List Nat→Nat)(w:List Nat)(v:Nat):List Nat→Nat:=fun x=>if x=w then v else b x
def lZ(es:List St):List (List Nat):=es.foldl (fun ws e=>addW ws e.1) []
def xj(es:List St):List Nat→List Nat:=es.foldl (fun T e=>upT T e.1 (e.2.tx T)) fun _=>[]
def stB(es:List St):List Nat→Nat:=es.foldl (fun b e=>upB b e.1 (e.2.bd b)) fun _=>0
theorem pW(es:List St)(e:St):lZ (es++[e])=addW (lZ es) e.1:=by simp [lZ]
theorem Ls(es:List St)(e:St):xj (es++[e])=upT (xj es) e.1 (e.2.tx (xj es)):=by simp [xj]
theorem akY:∀es:List St,(lZ es).Nodup:=by
 refine snocInd (by simp [lZ]) fun es e ih=> ?_
 rw [pW]
 exact aiJ ih
def rowOf(e:St):List Nat:=TL.joinL [32] (e.2.row e.1)
structure ags(es:List St):Prop where
 rf:∀(i:Nat) e,es[i]? =some e→∀a∈e.2.refs,a∈lZ (es.take i)
 ok:∀(i:Nat) e,es[i]? =some e→e.2.ok (xj (es.take i))
 rw_:∀(i:Nat) e,es[i]? =some e→xP e.1 e.2
 bd:∀(i:Nat) e,es[i]? =some e→e.2.bd (stB (es.take i))≤200000
theorem ags.nil:ags []:=⟨fun i e h=>by simp at h,fun i e h=>by simp at h,fun i e h=>by simp at h,fun i e h=>by simp at h⟩
theorem ags.snoc{es:List St}(h:ags es){e:St}(h1:∀a∈e.2.refs,a∈lZ es)(h2:e.2.ok (xj es))(h3:xP e.1 e.2)(h4:e.2.bd (stB es)≤200000):ags (es++[e]):=by
 have at_:∀(i:Nat) x,(es++[e])[i]? =some x→(es[i]? =some x∧(es++[e]).take i=es.take i)∨(x=e∧(es++[e]).take i=es):=fun i x hx=>by
  have hi:=(au.mp hx).1
  rw [aA,bQ] at hi
  by_cases z:i<es.length
  ·rw [aO z] at hx
   exact .inl ⟨hx,cM (by omega)⟩
  ·have e1:i=es.length:=by omega
   subst e1
   rw [bD (bJ _)] at hx
   simp only [Nat.sub_self,aQ,Option.some.injEq] at hx
   exact .inr ⟨hx.symm,by simp⟩
 refine⟨fun i x hx=> ?_,fun i x hx=> ?_,fun i x hx=> ?_,fun i x hx=> ?_⟩<;>rcases at_ i x hx with⟨a,b⟩|⟨rfl,b⟩
 ·rw [b];exact h.rf i x a
 ·rw [b];exact h1
 ·rw [b];exact h.ok i x a
 ·rw [b];exact h2
 ·exact h.rw_ i x a
 ·exact h3
 ·rw [b];exact h.bd i x a
 ·rw [b];exact h4
theorem abz{x:Nat}{S:List Nat}:∀{ls:List (List Nat)},x∈TL.joinL S ls→x∈S∨∃l∈ls,x∈l
 |[],h=>by simp [TL.joinL] at h
 |[l],h=> .inr ⟨l,by simp,by simpa [TL.joinL] using h⟩
 |l::m::ls,h=>by
  simp only [TL.joinL,aM] at h
  rcases h with h|h|h
  ·exact .inr ⟨l,by simp,h⟩
  ·exact .inl h
  ·rcases abz h with h|⟨k,hk,hx⟩
   ·exact .inl h
   ·exact .inr ⟨k,aN _ hk,hx⟩
theorem QT{S:List Nat}{m:Nat}:∀{ls:List (List Nat)},(∀l∈ls,l.length≤m)→(TL.joinL S ls).length≤ls.length*(m+S.length)
 |[],_=>by simp [TL.joinL]
 |[l],h=>by
  have:=h l (by simp)
  simp only [TL.joinL,aY,cH]
  omega
 |l::k::ls,h=>by
  have h1:=h l (by simp)
  have h2:=QT (S:=S) (m:=m) (ls:=k::ls) fun x hx=>h x (aN _ hx)
  simp only [TL.joinL,aA,aY,Nat.add_mul,Nat.one_mul] at h2⊢
  omega
theorem row_free{e:St}(h:xP e.1 e.2):59∉rowOf e∧(rowOf e).length≤250∧rowOf e≠[]:=by
 have hp:=LK h
 refine⟨fun z=> ?_,?_,fun z=> ?_⟩
 ·rcases abz z with z|⟨l,hl,hx⟩
  ·simp at z
  ·exact(hp l hl).2 59 hx|>.2 rfl
 ·have:=QT (S:=[32]) (m:=40) (ls:=e.2.row e.1) fun l hl=>(hp l hl).1
  have al:=Zy e.2
  have:(e.2.row e.1).length≤5:=by simp only [Dd.row,aY,aC];omega
  simp only [aY,cH] at*
  unfold rowOf
  omega
 ·have h1:=h.w.1
  have:(rowOf e).length=0:=by rw [z];rfl
  unfold rowOf Dd.row at this
  simp only [TL.joinL,aA] at this
  omega
def MT(ws:List (List Nat)):List (List Nat):=(Yp (ws.map fY)).map fun x=>x.cps.toList
theorem als(ws:List (List Nat)):(MT ws).map fY=Yp (ws.map fY):=by
 unfold MT
 rw [cD]
 exact List.map_id' _
theorem Mq(ws:List (List Nat)):(MT ws).Perm ws:=by
 have:=(WM (ws.map fY)).map fun x:Str=>x.cps.toList
 rw [cD] at this
 have e:ws.map ((fun x:Str=>x.cps.toList)∘fY)=ws:=List.map_id' ws
 rw [e] at this
 exact this
theorem Yj(F:List Nat→D)(ws:List (List Nat))(hl:ws.length<64):qu (.dict (uH F ws))= .ok (.list ((MT ws).map iI)):=by
 have h2:(ws.map fY).length<64:=by rw [aC];exact hl
 simp only [qu,adp,h2,if_true,←als,cD]
 rfl
abbrev namesW(ws:List (List Nat))(M:List Nat→Option Nat):D:= .list (ws.map fun a=>bL [iI a,eZ (M a)])
end Sb
namespace Sb
open PySem PySem.Spec L2 Evl DL
def z8(es:List St):List Nat:=TL.joinL [59,32] (es.map rowOf)
theorem abW(es:List St)(hrow:∀(i:Nat) e,es[i]? =some e→xP e.1 e.2)(hl:es.length≤1000)(Inv:Nat→(List Nat→List Rule)→(List Nat→Option Nat)→Prop)(hi0:Inv 0 (fun _=>[]) fun _=>none)
 (hs:∀(i:Nat) e R N,es[i]? =some e→Inv i R N→∃qs k,nQ [.dict (uH (fun a=>pairD (R a) (N a)) (lZ (es.take i))), .tuple [.str e.2.verb,iI e.1, .list (e.2.rest iI)]]= .ok (pairD qs k)∧Inv (i+1) (fun a=>if a=e.1 then qs else R a) fun a=>if a=e.1 then k else N a):
 ∃(R:List Nat→List Rule) (N:List Nat→Option Nat),Bh [.str (fY (z8 es))]= .ok (.dict (uH (fun a=>pairD (R a) (N a)) (lZ es)))∧Inv es.length R N:=by
 obtain⟨X,hX⟩:∃X,X=fY (z8 es):=⟨_,rfl⟩
 rw [←hX]
 have run:Rt (Bx [.dat (.str X), .un, .un, .un]) (fun d=>∃(R:List Nat→List Rule) (N:List Nat→Option Nat),d= .dict (uH (fun a=>pairD (R a) (N a)) (lZ es))∧Inv es.length R N):=by
  unfold Bx
  refine fP (ρ' :=[.dat (.str X), .own (.dict []), .un, .un]) (by simp! only []) ?_
  by_cases h0:es=[]
  ·subst h0
   have e0:X=("":Str):=by rw [hX];rfl
   refine oK (Hg (by simp! only [e0]) ⟨_,rfl,fun _=>[],fun _=>none,rfl,hi0⟩)
  have ne:¬X=("":Str):=fun z=>by
   have z2:fY (z8 es)=fY []:=by rw [←hX,z];rfl
   have z3:=ZQ z2
   cases es with
   |nil=>exact h0 rfl
   |cons e es=>
    have hr:=row_free (hrow 0 e rfl)
    have:(z8 (e::es)).length=0:=by rw [z3];rfl
    unfold z8 at this
    have h4:(rowOf e).length≠0:=fun q=>hr.2.2 (dG.mp q)
    cases es with
    |nil=>simp only [bA,cZ,TL.joinL] at this;omega
    |cons f es=>
     simp only [bA,TL.joinL,aA] at this
     omega
  refine fP (ρ' :=[.dat (.str X), .own (.dict []), .un, .un]) (by simp! only [ne]) ?_
  have e5:("; ":Str).cps.toList=[59,32]:=by decide+kernel
  have rl:∀r∈es.map rowOf,59∉r∧r.length≤250:=fun r hr=>by
   obtain⟨e,he,rfl⟩:=cG.mp hr
   obtain⟨i,hi⟩:=List.mem_iff_getElem?.mp he
   have:=row_free (hrow i e hi)
   exact⟨this.1,this.2.1⟩
  have sp:rD X (.str "; ")= .ok (.list (es.map fun e=>aV (fY (rowOf e)))):=by
   have e1:(((("; ":Str).length)==0)=false):=by decide+kernel
   have e2:X.length+2≤sizeLine:=by
    have:=QT (S:=[59,32]) (m:=250) (ls:=es.map rowOf) fun l hl=>(rl l hl).2
    rw [aC] at this
    simp only [aY,cH] at this
    rw [hX,rP]
    unfold z8
    exact Cv (by omega)
   have e3:Txt.split X "; "=(es.map rowOf).map fY:=by
    have j:=Xn "; " (es.map rowOf)
    rw [e5] at j
    rw [hX]
    unfold z8
    rw [←j]
    refine TL.split_join (s:=59) (S:=[32]) e5 (by decide+kernel) (by simpa using h0) fun p hp=> ?_
    obtain⟨l,hl,rfl⟩:=cG.mp hp
    exact(rl l hl).1
   simp only [rD,e1,e2,and_self,if_true,e3,cD]
   rfl
  refine mZ (N:=fun ρ=>∃(R:List Nat→List Rule) (N:List Nat→Option Nat) (k2 k3:Sl),ρ=[.dat (.str X), .own (.dict (uH (fun a=>pairD (R a) (N a)) (lZ es))),k2,k3]∧Inv es.length R N) ?_ ?_
  ·have loop:=nY (mi:=iL (mG (Ih rD (d8 0) (eC (.str "; "))))) (g:=gN 2) (body:=(fG (gH 3 (fu mO [(d8 2)]))
 (fG (iQ (eO uG (d8 3) (eC .none)) (sX "NoText") fU)
 (oE 1 (eO fV (d8 3) (eC (.int 1))) (fu nQ [(gK 1),(d8 3)]))))) (ρ:=[.dat (.str X), .own (.dict []), .un, .un]) (ds:=es.map fun e=>aV (fY (rowOf e)))
    (fun i ρ=>∃(R:List Nat→List Rule) (N:List Nat→Option Nat) (k2 k3:Sl),ρ=[.dat (.str X), .own (.dict (uH (fun a=>pairD (R a) (N a)) (lZ (es.take i)))),k2,k3]∧Inv i R N)
    (Nf (by simp! only [oN,Ih,sp];rfl)) ⟨fun _=>[],fun _=>none,_,_,rfl,hi0⟩ (by
     rintro i d ρ hd ⟨R,N,k2,k3,rfl,inv⟩
     rw [aK,aP] at hd
     obtain⟨e,he,rfl⟩:=hd
     have et:es.take (i+1)=es.take i++[e]:=by
      rw [bH,he]
      rfl
     have so:=BW (hrow i e he)
     obtain⟨qs,k,mt,iv⟩:=hs i e R N he inv
     have hwl:(uH (fun a=>pairD (R a) (N a)) (lZ (es.take i))).length<sizeLine:=by
      rw [Xr]
      have:∀es:List St,(lZ es).length≤es.length:=by
       refine snocInd (by simp [lZ]) fun es e ih=> ?_
       rw [pW,aA,bQ]
       have:=aac (ws:=lZ es) (w:=e.1)
       omega
      have:=this (es.take i)
      rw [aZ] at this
      exact lM (by omega)
     refine⟨_,pP,?_⟩
     simp only [set_0,kW]
     refine iD (ρ' :=[.dat (.str X), .own (.dict (uH (fun a=>pairD (R a) (N a)) (lZ (es.take i)))), .dat (.str (fY (rowOf e))), .dat (.tuple [.str e.2.verb,iI e.1, .list (e.2.rest iI)])]) (lK (j5 rfl so)) ?_
     refine iD (ρ' :=[.dat (.str X), .own (.dict (uH (fun a=>pairD (R a) (N a)) (lZ (es.take i)))), .dat (.str (fY (rowOf e))), .dat (.tuple [.str e.2.verb,iI e.1, .list (e.2.rest iI)])]) rfl ?_
     have ec:fu nQ [(gK 1),(d8 3)] [.dat (.str X), .own (.dict (uH (fun a=>pairD (R a) (N a)) (lZ (es.take i)))), .dat (.str (fY (rowOf e))), .dat (.tuple [.str e.2.verb,iI e.1, .list (e.2.rest iI)])]= .ok (pairD qs k):=kh rfl rfl mt
     have ek:DL.keyOf (iI e.1)=some (.inr (fY e.1)):=rfl
     refine jT (ρ' :=[.dat (.str X), .own (.dict (uH (fun a=>pairD (if a=e.1 then qs else R a) (if a=e.1 then k else N a)) (lZ (es.take (i+1))))), .dat (.str (fY (rowOf e))), .dat (.tuple [.str e.2.verb,iI e.1, .list (e.2.rest iI)])]) ?_ ⟨fun a=>if a=e.1 then qs else R a,fun a=>if a=e.1 then k else N a,_,_,rfl,iv⟩
     ·simp only [oE,ec,aW,aQ,Es,if_true,jK,jZ,jM,eC,iy,gR,ek,hwl,Lk,set_0,kW]
      rw [et,pW]
      congr 6
      funext x
      unfold upW
      by_cases z:x=e.1
      ·simp only [z,if_true]
      ·simp only [z,if_false])
   rw [aC] at loop
   simp only [bV] at loop
   exact loop
  ·rintro ρ ⟨R,N,k2,k3,rfl,inv⟩
   exact⟨_,rfl,R,N,rfl,inv⟩
 obtain⟨d,hd,R,N,rfl,hh⟩:=Gh (ks:=[.dat]) (n:=3) (m:=Bx) (ds:=[.str X]) run
 exact⟨R,N,hd,hh⟩
theorem akc(es:List St)(R:List Nat→List Rule)(N:List Nat→Option Nat)(te:Bh [.str (fY (z8 es))]= .ok (.dict (uH (fun a=>pairD (R a) (N a)) (lZ es))))(inv:∀a∈lZ es,Jk (R a) (N a) (xj es a)∧(R a).length≤200000)(hw:(lZ es).length≤40):∃(rs:List Rule) (M:List Nat→Option Nat),Sw [.str (fY (z8 es))]= .ok (.tuple [eY rs,namesW (MT (lZ es)) M])∧Good rs∧Fits MOST rs∧rs.length≤8000000∧∀a∈lZ es,Jk rs (M a) (xj es a):=by
 obtain⟨X,hX⟩:∃X,X=aV (fY (z8 es)):=⟨_,rfl⟩
 obtain⟨sw,hsw⟩:∃sw,sw=MT (lZ es):=⟨_,rfl⟩
 obtain⟨E,hE⟩:∃E,E=PyData.dict (uH (fun a=>pairD (R a) (N a)) (lZ es)):=⟨_,rfl⟩
 have pm:=Mq (lZ es)
 have nd:sw.Nodup:=by rw [hsw];exact pm.nodup_iff.mpr (akY es)
 have mem:∀a,a∈sw↔a∈lZ es:=fun a=>by rw [hsw];exact pm.mem_iff
 have sl:sw.length≤40:=by rw [hsw,pm.length_eq];exact hw
 have so:=Yj (fun a=>pairD (R a) (N a)) (lZ es) (by omega)
 have gt:∀a∈sw,jE E (iI a)= .ok (pairD (R a) (N a)):=fun a ha=>by rw [hE];exact Fo _ ((mem a).mp ha)
 rw [←hE,←hsw] at so
 rw [←hX,←hE] at te
 rw [←hX,←hsw]
 have run:Rt (XF [.dat X, .un, .un, .un, .un, .un, .un]) (fun d=>∃(rs:List Rule) (M:List Nat→Option Nat),d= .tuple [eY rs,namesW sw M]∧Good rs∧Fits MOST rs∧rs.length≤8000000∧∀a∈sw,gh rs (M a)∧iG rs (M a)=xj es a):=by
  unfold XF
  refine fP (ρ' :=[.dat X, .own E, .un, .un, .un, .un, .un]) (by simp only [jG,j5 (ma:=d8 0) (ρ:=[.dat X, .un, .un, .un, .un, .un, .un]) rfl te];rfl) ?_
  refine fP (ρ' :=[.dat X, .own E, .dat (eY []), .un, .un, .un, .un]) (by simp! only [];rfl) ?_
  refine fP (ρ' :=[.dat X, .own E, .dat (eY []), .own (.list []), .un, .un, .un]) (by simp! only []) ?_
  refine mZ (N:=fun ρ=>∃(rs:List Rule) (M:List Nat→Option Nat) (k4 k5 k6:Sl),ρ=[.dat X, .own E, .dat (eY rs), .own (namesW sw M),k4,k5,k6]∧Good rs∧Fits MOST rs∧rs.length≤sw.length*200000∧∀a∈sw,gh rs (M a)∧iG rs (M a)=xj es a) ?_ ?_
  ·have loop:=nY (mi:=iL (mG (G7 qu (gK 1)))) (g:=gN 4) (body:=(fG (lA (gT [(gN 5),(gN 6)]) (eO jE (gK 1) (d8 4)))
 (fG (lA (gT [(gN 2),(gN 6)]) (fu Aa [(d8 2),(d8 5),(d8 6)]))
 (mW 3 (jw [(d8 4),(d8 6)]))))) (ρ:=[.dat X, .own E, .dat (eY []), .own (.list []), .un, .un, .un]) (ds:=sw.map iI)
    (fun i ρ=>∃(rs:List Rule) (M:List Nat→Option Nat) (k4 k5 k6:Sl),ρ=[.dat X, .own E, .dat (eY rs), .own (namesW (sw.take i) M),k4,k5,k6]∧Good rs∧Fits MOST rs∧rs.length≤i*200000∧∀a∈sw.take i,gh rs (M a)∧iG rs (M a)=xj es a)
    (Nf (by rw [oN,Jd];simp only [uY,zF,iy,so];rfl)) ⟨[],fun _=>none,_,_,_,rfl,Good.nil,(fun n hn=>by cases hn),by simp,fun a ha=>by simp at ha⟩ (by
     rintro i d ρ hd ⟨rs,M,k4,k5,k6,rfl,g,f,rl,im⟩
     rw [aK,aP] at hd
     obtain⟨a,ha,rfl⟩:=hd
     have hi:=(au.mp ha).1
     have et:sw.take (i+1)=sw.take i++[a]:=by
      rw [bH,ha]
      rfl
     have ham:a∈sw:=bf ha
     have nin:a∉sw.take i:=fun z=>by
      obtain⟨j,hj⟩:=List.mem_iff_getElem?.mp z
      rw [List.getElem?_take] at hj
      split at hj
      ·have hj2:=(au.mp hj).1
       have h6:=(cP.mp nd) j i hj2 hi (by omega)
       exact h6 (by rw [(au.mp hj).2,(au.mp ha).2])
      ·cases hj
     obtain⟨ta,la⟩:=inv a ((mem a).mp ham)
     have br:=R9 rs (R a) ta.g (by omega) (N a) ta.nm
     obtain⟨g2,f2,_⟩:=QL g f (R a) ta.g ta.f
     obtain⟨bn,bt⟩:=WT g f ta.g ta.f ta.nm
     have bl:(bring rs (R a)).length=(R a).length:=by simp [bring]
     refine⟨_,pP,?_⟩
     simp only [set_0,kW]
     refine iD (ρ' :=[.dat X, .own E, .dat (eY rs), .own (namesW (sw.take i) M), .dat (iI a), .dat (eY (R a)), .dat (eZ (N a))]) (nA (d:=pairD (R a) (N a)) (by simp! only [gt a ham]) rfl) ?_
     refine iD (ρ' :=[.dat X, .own E, .dat (eY (rs++bring rs (R a))), .own (namesW (sw.take i) M), .dat (iI a), .dat (eY (R a)), .dat (eZ (pG rs (N a)))]) (nA (ni rfl rfl rfl br) rfl) ?_
     refine jT (ρ' :=[.dat X, .own E, .dat (eY (rs++bring rs (R a))), .own (namesW (sw.take (i+1)) fun x=>if x=a then pG rs (N a) else M x), .dat (iI a), .dat (eY (R a)), .dat (eZ (pG rs (N a)))]) ?_ ⟨rs++bring rs (R a),fun x=>if x=a then pG rs (N a) else M x,_,_,_,rfl,g2,f2,by rw [aA,bl];omega,fun x hx=> ?_⟩
     ·rw [app_ok (ds:=(sw.take i).map fun a=>bL [iI a,eZ (M a)]) (d:= .tuple [iI a,eZ (pG rs (N a))]) rfl (by simp! only []) (by rw [aC,aZ];exact lM (by omega)),et]
      have e9:((sw.take i).map fun x=>bL [iI x,eZ (if x=a then pG rs (N a) else M x)])=(sw.take i).map fun x=>bL [iI x,eZ (M x)]:=bT fun x hx=>by
       have:¬x=a:=fun z=>nin (by rw [←z];exact hx)
       simp only [this,if_false]
      simp only [namesW,cC,bA,cZ,if_true,set_0,kW,e9]
     ·rw [et] at hx
      by_cases z:x=a
      ·simp only [z,if_true]
       exact⟨bn,by rw [bt,ta.t]⟩
      ·simp only [z,if_false]
       have hx' :x∈sw.take i:=by
        rcases aM.mp hx with q|q
        ·exact q
        ·exact absurd (by simpa using q) z
       obtain⟨i1,i2⟩:=im x hx'
       exact⟨i1.app _,by rw [tH i1,i2]⟩)
   rw [aC,bV] at loop
   exact loop
  ·rintro ρ ⟨rs,M,k4,k5,k6,rfl,g,f,rl,im⟩
   refine⟨.tuple [eY rs,namesW sw M],?_,rs,M,rfl,g,f,by omega,im⟩
   first
   |exact(show akH 2 3 _=_ from rfl)
   |(show RN 3 _ _=_
     unfold RN
     simp only [aW,aQ]
     show gA _ _=_
     exact ret_ok (by simp! only []))
 obtain⟨d,hd,rs,M,rfl,g,f,rl,im⟩:=Gh (ks:=[.dat]) (n:=6) (m:=XF) (ds:=[X]) run
 exact⟨rs,M,hd,g,f,rl,fun a ha=>⟨g,f,(im a ((mem a).mpr ha)).1,(im a ((mem a).mpr ha)).2⟩⟩
end Sb
namespace Sb
open PySem PySem.Spec L2 Evl DL
theorem aaC{c:EM}{body:SM}{ρ:DL.Env}{Q:D→Prop}(h:c ρ= .ok (.bool true))(k:Rt (body ρ) Q):Rt (ug c body ρ) Q:=by
 obtain⟨n,hn⟩:∃n,FUEL=n+1:=⟨FUEL-1,by have:=Ue (n:=0) (by decide);omega⟩
 obtain⟨d,e,q⟩:=k
 exact⟨d,by unfold ug;rw [hn];simp only [rE,h,e],q⟩
theorem QG(rs:List Rule)(g:Good rs)(k:Nat)(hk:k<rs.length):t8 [fL rs,fB (sizes rs), .int (k:Int), .int (((sizes rs).getD k 0:Nat):Int)]= .ok (.tuple [eZ (some k),fL rs]):=by
 have ix:=gY (ns:=sizes rs) (a:=k) (by rw [jA];exact hk)
 have p:=Pos.get g hk
 obtain⟨z,hz⟩:∃z,z=(sizes rs).getD k 0:=⟨_,rfl⟩
 rw [←hz] at ix p⊢
 have run:Rt (xR [.own (fL rs), .dat (fB (sizes rs)), .dat (.int (k:Int)), .dat (.int (z:Int)), .un, .un, .un, .un]) (·= .tuple [eZ (some k),fL rs]):=by
  unfold xR
  refine fP (ρ' :=[.own (fL rs), .dat (fB (sizes rs)), .dat (.int (k:Int)), .dat (.int (z:Int)), .own (.list []), .un, .un, .un]) (by simp! only []) ?_
  refine mZ (N:=fun ρ=>ρ=[.own (fL rs), .dat (fB (sizes rs)), .dat (.int (k:Int)), .dat (.int (z:Int)), .own (.list []), .un, .un, .un]) (pO (fun _ ρ=>ρ=[.own (fL rs), .dat (fB (sizes rs)), .dat (.int (k:Int)), .dat (.int (z:Int)), .own (.list []), .un, .un, .un]) 0 (by decide) rfl ?_) ?_
  ·rintro n ρ rfl
   left
   exact⟨by simp! only [ji,ix,show(0:Int)<(z:Int) by omega,Int.lt_irrefl,decide_false],rfl⟩
  ·rintro ρ rfl
   refine fP (ρ' :=[.own (fL rs), .dat (fB (sizes rs)), .dat (.int (k:Int)), .dat (.int (z:Int)), .own (.list []), .dat (.none), .un, .un]) (by simp! only []) ?_
   refine fP (ρ' :=[.own (fL rs), .dat (fB (sizes rs)), .dat (.int (k:Int)), .dat (.int (z:Int)), .own (.list []), .dat (.int (k:Int)), .un, .un]) (by simp! only [show(0:Int)<(z:Int) by omega]) ?_
   exact⟨_,rfl,rfl⟩
 obtain⟨d,h1,h2⟩:=run
 subst h2
 exact Cd (n:=4) h1
theorem U9(rs:List Rule)(g:Good rs)(qs:List Rule)(k:Nat)(hk:k<rs.length):kY [fL qs,fB (sizes rs), .int (k:Int), .int (((sizes rs).getD k 0:Nat):Int)]= .ok (.tuple [eZ (some k),fL qs]):=by
 have ix:=gY (ns:=sizes rs) (a:=k) (by rw [jA];exact hk)
 have p:=Pos.get g hk
 obtain⟨z,hz⟩:∃z,z=(sizes rs).getD k 0:=⟨_,rfl⟩
 rw [←hz] at ix p⊢
 have run:Rt (oH [.own (fL qs), .dat (fB (sizes rs)), .dat (.int (k:Int)), .dat (.int (z:Int)), .un, .un, .un, .un, .un]) (·= .tuple [eZ (some k),fL qs]):=by
  unfold oH
  refine fP (ρ' :=[.own (fL qs), .dat (fB (sizes rs)), .dat (.int (k:Int)), .dat (.int (z:Int)), .own (.list []), .un, .un, .un, .un]) (by simp! only []) ?_
  refine mZ (N:=fun ρ=>ρ=[.own (fL qs), .dat (fB (sizes rs)), .dat (.int (k:Int)), .dat (.int (z:Int)), .own (.list []), .un, .un, .un, .un]) (pO (fun _ ρ=>ρ=[.own (fL qs), .dat (fB (sizes rs)), .dat (.int (k:Int)), .dat (.int (z:Int)), .own (.list []), .un, .un, .un, .un]) 0 (by decide) rfl ?_) ?_
  ·rintro n ρ rfl
   left
   exact⟨by simp! only [ji,ix,show(0:Int)<(z:Int) by omega,Int.lt_irrefl,decide_false],rfl⟩
  ·rintro ρ rfl
   refine fP (ρ' :=[.own (fL qs), .dat (fB (sizes rs)), .dat (.int (k:Int)), .dat (.int (z:Int)), .own (.list []), .dat (.none), .un, .un, .un]) (by simp! only []) ?_
   refine fP (ρ' :=[.own (fL qs), .dat (fB (sizes rs)), .dat (.int (k:Int)), .dat (.int (z:Int)), .own (.list []), .dat (.int (k:Int)), .un, .un, .un]) (by simp! only [show(0:Int)<(z:Int) by omega]) ?_
   exact⟨_,rfl,rfl⟩
 obtain⟨d,h1,h2⟩:=run
 subst h2
 exact Cd (n:=5) h1
theorem aaS(rs qs:List Rule)(k:Nat):kY [fL qs,fB (sizes rs), .int (k:Int), .int 0]= .ok (.tuple [eZ none,fL qs]):=by
 have run:Rt (oH [.own (fL qs), .dat (fB (sizes rs)), .dat (.int (k:Int)), .dat (.int 0), .un, .un, .un, .un, .un]) (·= .tuple [eZ none,fL qs]):=by
  unfold oH
  refine fP (ρ' :=[.own (fL qs), .dat (fB (sizes rs)), .dat (.int (k:Int)), .dat (.int 0), .own (.list []), .un, .un, .un, .un]) (by simp! only []) ?_
  refine mZ (N:=fun ρ=>ρ=[.own (fL qs), .dat (fB (sizes rs)), .dat (.int (k:Int)), .dat (.int 0), .own (.list []), .un, .un, .un, .un]) (pO (fun _ ρ=>ρ=[.own (fL qs), .dat (fB (sizes rs)), .dat (.int (k:Int)), .dat (.int 0), .own (.list []), .un, .un, .un, .un]) 0 (by decide) rfl ?_) ?_
  ·rintro n ρ rfl
   left
   exact⟨by simp! only [ji,Int.lt_irrefl,decide_false],rfl⟩
  ·rintro ρ rfl
   refine fP (ρ' :=[.own (fL qs), .dat (fB (sizes rs)), .dat (.int (k:Int)), .dat (.int 0), .own (.list []), .dat (.none), .un, .un, .un]) (by simp! only []) ?_
   refine fP (ρ' :=[.own (fL qs), .dat (fB (sizes rs)), .dat (.int (k:Int)), .dat (.int 0), .own (.list []), .dat (.none), .un, .un, .un]) (by simp! only []) ?_
   exact⟨_,rfl,rfl⟩
 obtain⟨d,h1,h2⟩:=run
 subst h2
 exact Cd (n:=5) h1
theorem aey(rs:List Rule)(g:Good rs)(f:Fits MOST rs)(hl:rs.length≤200000)(k:Nat)(r:Rule)(hr:rs[k]? =some r)(hn:(∃a b,r= .join a b)∨∃a,r= .times a 2):
 ∃q,rQ [fL rs,fB (sizes rs),fH r, .int 0, .int (((sizes rs).getD k 0:Nat):Int)]= .ok (.tuple [eZ (some rs.length),fL (rs++[q])])∧q.tr (trs rs)=whT (r.tr (trs rs)):=by
 have hk:=(au.mp hr).1
 have ok:=g k r hr
 have sz:=rG g hr
 have kb:=f.get k
 have mm:MOST<10 ^ 300:=by decide
 have run:∀d,Rt (wV [.own (fL rs), .dat (fB (sizes rs)), .dat (fH r), .dat (.int 0), .dat (.int (((sizes rs).getD k 0:Nat):Int)), .un, .un, .un]) (·=d)→rQ [fL rs,fB (sizes rs),fH r, .int 0, .int (((sizes rs).getD k 0:Nat):Int)]= .ok d:=fun d ⟨d',h1,h2⟩=>by
  subst h2
  exact Cd (n:=3) h1
 rcases hn with⟨a,b,rfl⟩|⟨a,rfl⟩
 ·have ha:a<rs.length:=by have:=ok.1;omega
  have hb:b<rs.length:=by have:=ok.2;omega
  have ixa:=gY (ns:=sizes rs) (a:=a) (by rw [jA];exact ha)
  have en:=QG rs g a ha
  have bg:=U9 rs g rs b hb
  simp only [Rule.size] at sz
  obtain⟨x,hx⟩:∃x,x=(sizes rs).getD a 0:=⟨_,rfl⟩
  obtain⟨y,hy⟩:∃y,y=(sizes rs).getD b 0:=⟨_,rfl⟩
  rw [←hx] at ixa en sz
  rw [←hy] at bg sz
  refine⟨.join a b,run _ ?_,rfl⟩
  rw [sz]
  have e1:((x:Int)-0)=(x:Int):=by omega
  have e2:(((x+y:Nat):Int)-(x:Int))=(y:Int):=by omega
  have lk:=qX rs (some a) (some b) (by omega)
  unfold wV
  refine fP (ρ' :=[.own (fL rs), .dat (fB (sizes rs)), .dat (fH (.join a b)), .dat (.int 0), .dat (.int ((x+y:Nat):Int)), .dat (.int (a:Int)), .un, .un]) (by simp! only [fH,gR]) ?_
  refine fP (ρ' :=[.own (fL rs), .dat (fB (sizes rs)), .dat (fH (.join a b)), .dat (.int 0), .dat (.int ((x+y:Nat):Int)), .dat (.int (a:Int)), .dat (.int (x:Int)), .un]) (by simp! only [ixa]) ?_
  refine fP (ρ' :=[.own (fL rs), .dat (fB (sizes rs)), .dat (fH (.join a b)), .dat (.int 0), .dat (.int ((x+y:Nat):Int)), .dat (.int (a:Int)), .dat (.int (x:Int)), .dat (eZ (some a))]) ?_ ?_
  ·have ex:=Ur (i:=0) (g:=t8) (ms:=[(d8 1),(d8 5),(eO nj (d8 6) (d8 3))]) (ρ:=[.own (fL rs), .dat (fB (sizes rs)), .dat (fH (.join a b)), .dat (.int 0), .dat (.int ((x+y:Nat):Int)), .dat (.int (a:Int)), .dat (.int (x:Int)), .un]) rfl (by simp! only [ou,e1]) en rfl
   simp only [oO,ex]
   rfl
  refine oK (Hg (by simp! only [fH,gG]) ?_)
  have ex1:=Ur (i:=0) (g:=kY) (ms:=[(d8 1),(eO fV (d8 2) (eC (.int 2))),(eO nj (d8 4) (d8 6))]) (ρ:=[.own (fL rs), .dat (fB (sizes rs)), .dat (fH (.join a b)), .dat (.int 0), .dat (.int ((x+y:Nat):Int)), .dat (.int (a:Int)), .dat (.int (x:Int)), .dat (eZ (some a))]) rfl (by simp! only [ou,fH,lH,e2]) bg rfl
  have ex2:=Xc (i:=0) (g:=jY) (m:=d8 7) (ρ:=[.own (fL rs), .dat (fB (sizes rs)), .dat (fH (.join a b)), .dat (.int 0), .dat (.int ((x+y:Nat):Int)), .dat (.int (a:Int)), .dat (.int (x:Int)), .dat (eZ (some a))]) rfl rfl ex1 rfl lk rfl
  exact⟨_,by simp only [vN,ex2];rfl,rfl⟩
 ·have ha:a<rs.length:=by have:=ok.1;omega
  have ixa:=gY (ns:=sizes rs) (a:=a) (by rw [jA];exact ha)
  have ap:=Pos.get g ha
  have en:=QG rs g a ha
  simp only [Rule.size] at sz
  obtain⟨x,hx⟩:∃x,x=(sizes rs).getD a 0:=⟨_,rfl⟩
  rw [←hx] at ixa en sz ap
  refine⟨.join a a,run _ ?_,rfl⟩
  rw [sz] at kb⊢
  have e1:((x:Int)-0)=(x:Int):=by omega
  have e2:(((x*2:Nat):Int)-(x:Int))=(x:Int):=by omega
  have dd:lX (.int (x:Int)) (.int (x:Int))= .ok (.int 1):=by
   rw [o9 (by omega) (by omega),Int.ediv_self (by omega)]
  have dm:jJ (.int (x:Int)) (.int (x:Int))= .ok (.int 0):=by
   rw [jo (by omega),Int.emod_self]
  have ov:=Jt rs (some a) 1 (by omega)
  have lk:=qX rs (some a) (some a) (by omega)
  have bg:=aaS rs (rs++[.join a a]) a
  have lk2:=qX (rs++[.join a a]) (some rs.length) none (by simp;omega)
  unfold wV
  refine fP (ρ' :=[.own (fL rs), .dat (fB (sizes rs)), .dat (fH (.times a 2)), .dat (.int 0), .dat (.int ((x*2:Nat):Int)), .dat (.int (a:Int)), .un, .un]) (by simp! only [fH,gR]) ?_
  refine fP (ρ' :=[.own (fL rs), .dat (fB (sizes rs)), .dat (fH (.times a 2)), .dat (.int 0), .dat (.int ((x*2:Nat):Int)), .dat (.int (a:Int)), .dat (.int (x:Int)), .un]) (by simp! only [ixa]) ?_
  refine fP (ρ' :=[.own (fL rs), .dat (fB (sizes rs)), .dat (fH (.times a 2)), .dat (.int 0), .dat (.int ((x*2:Nat):Int)), .dat (.int (a:Int)), .dat (.int (x:Int)), .dat (eZ (some a))]) ?_ ?_
  ·have ex:=Ur (i:=0) (g:=t8) (ms:=[(d8 1),(d8 5),(eO nj (d8 6) (d8 3))]) (ρ:=[.own (fL rs), .dat (fB (sizes rs)), .dat (fH (.times a 2)), .dat (.int 0), .dat (.int ((x*2:Nat):Int)), .dat (.int (a:Int)), .dat (.int (x:Int)), .un]) rfl (by simp! only [ou,e1]) en rfl
   simp only [oO,ex]
   rfl
  refine fP (ρ' :=[.own (fL rs), .dat (fB (sizes rs)), .dat (fH (.times a 2)), .dat (.int 0), .dat (.int ((x*2:Nat):Int)), .dat (.int (a:Int)), .dat (.int (x:Int)), .dat (eZ (some a))]) (by simp! only [fH,gG,tj]) ?_
  refine fP (ρ' :=[.own (fL (rs++[.join a a])), .dat (fB (sizes rs)), .dat (fH (.times a 2)), .dat (.int 0), .dat (.int ((x*2:Nat):Int)), .dat (.int (a:Int)), .dat (.int (x:Int)), .dat (eZ (some rs.length))]) ?_ ?_
  ·have ex1:=Ur (i:=0) (g:=vJ) (ms:=[(d8 5),(eO lX (eO nj (d8 4) (d8 6)) (d8 6))]) (ρ:=[.own (fL rs), .dat (fB (sizes rs)), .dat (fH (.times a 2)), .dat (.int 0), .dat (.int ((x*2:Nat):Int)), .dat (.int (a:Int)), .dat (.int (x:Int)), .dat (eZ (some a))]) rfl (by simp! only [ou,e2,dd];rfl) ov rfl
   have ex2:=Xc (i:=0) (g:=jY) (m:=d8 7) (ρ:=[.own (fL rs), .dat (fB (sizes rs)), .dat (fH (.times a 2)), .dat (.int 0), .dat (.int ((x*2:Nat):Int)), .dat (.int (a:Int)), .dat (.int (x:Int)), .dat (eZ (some a))]) rfl rfl ex1 rfl lk rfl
   simp only [oO,ex2]
   rfl
  have ex1:=Ur (i:=0) (g:=kY) (ms:=[(d8 1),(d8 5),(eO jJ (eO nj (d8 4) (d8 6)) (d8 6))]) (ρ:=[.own (fL (rs++[.join a a])), .dat (fB (sizes rs)), .dat (fH (.times a 2)), .dat (.int 0), .dat (.int ((x*2:Nat):Int)), .dat (.int (a:Int)), .dat (.int (x:Int)), .dat (eZ (some rs.length))]) rfl (by simp! only [ou,e2,dm]) bg rfl
  have ex2:=Xc (i:=0) (g:=jY) (m:=d8 7) (ρ:=[.own (fL (rs++[.join a a])), .dat (fB (sizes rs)), .dat (fH (.times a 2)), .dat (.int 0), .dat (.int ((x*2:Nat):Int)), .dat (.int (a:Int)), .dat (.int (x:Int)), .dat (eZ (some rs.length))]) rfl rfl ex1 rfl lk2 rfl
  exact⟨_,by simp only [vN,ex2];rfl,rfl⟩
theorem alu(rs:List Rule)(g:Good rs)(f:Fits MOST rs)(hl:rs.length≤200000)(k:Nat)(hk:k<rs.length)(h2:∀a n,rs[k]? =some (.times a n)→n=2):
 ∃qs n',vq [eY rs, .int (k:Int), .int 0, .int (((sizes rs).getD k 0:Nat):Int)]= .ok (.tuple [eY (rs++qs),eZ n'])∧qs.length≤1∧zU (rs++qs) n' =some (whT ((trs rs).getD k Cy)):=by
 have ln:=tO rs g f (by omega) (some k) (gh.some hk)
 have kp:=Pos.get g hk
 have mm:MOST<10 ^ 300:=by decide
 have kb:=f.get k
 obtain⟨z,hz⟩:∃z,z=(sizes rs).getD k 0:=⟨_,rfl⟩
 have lz:lD rs (some k)=z:=by rw [hz];rfl
 rw [lz] at ln
 rw [←hz] at kp kb⊢
 obtain⟨r,hr⟩:∃r,rs[k]? =some r:=⟨rs[k]'hk,aU _⟩
 have ix:=sY hr
 have ok:=g k r hr
 have le:=uO rs g f (by omega)
 have bt:∀qs,lW [eY qs]= .ok (eY qs):=fun _=>rfl
 have bt2:∀qs,lW [fL qs]= .ok (eY qs):=fun _=>rfl
 have ls:qZ [eY rs]= .ok (fL rs):=rfl
 have c1:(0:Int)≤0:=by omega
 have c2:(0:Int)≤(z:Int):=by omega
 have hz' :¬(0:Int)=(z:Int):=by omega
 have pre:∀Q:D→Prop,Rt (fG (ug (eO xX (eO fV (eO fV (d8 0) (d8 1)) (eC (.int 0))) (eC (.str "sign"))) (fG (gH 6 (eO fV (d8 0) (d8 1)))
 (fG (gH 4 (eO fV (d8 5) (eO fV (d8 6) (eC (.int 1)))))
 (fG (iQ (eO kZ (eO fV (d8 6) (eC (.int 0))) (eC (.str "times"))) (fG (gH 3 (eO nj (d8 3) (eO lN (eO lX (d8 2) (d8 4)) (d8 4))))
 (gH 2 (eO jJ (d8 2) (d8 4)))) fU)
 (iQ (eO dGe (d8 2) (d8 4)) (fG (gH 2 (eO nj (d8 2) (d8 4)))
 (fG (gH 3 (eO nj (d8 3) (d8 4)))
 (gH 1 (eO fV (d8 6) (eC (.int 2)))))) (iQ (eO M6 (d8 3) (d8 4)) (gH 1 (eO fV (d8 6) (eC (.int 1)))) (fG (jG 7 (fu qZ [(d8 0)]))
 (fG (oO 8 (jP 7 rQ [(d8 5),(d8 6),(d8 2),(d8 3)]))
 (gA (jw [(fu lW [(gK 7)]),(d8 8)]))))))))))
 (gA (jw [(fu lW [(d8 0)]),(d8 1)])) [.dat (eY rs), .dat (.int (k:Int)), .dat (.int 0), .dat (.int (z:Int)), .dat (.int (z:Int)), .dat (fB (sizes rs)), .un, .un, .un]) Q→Rt (Ij [.dat (eY rs), .dat (.int (k:Int)), .dat (.int 0), .dat (.int (z:Int)), .un, .un, .un, .un, .un]) Q:=fun Q h=>by
  unfold Ij
  refine fP (ρ' :=[.dat (eY rs), .dat (.int (k:Int)), .dat (.int 0), .dat (.int (z:Int)), .dat (.int (z:Int)), .un, .un, .un, .un]) (lK (kh (x:=eY rs) (y:=eZ (some k)) rfl rfl ln)) ?_
  refine fP (ρ' :=[.dat (eY rs), .dat (.int (k:Int)), .dat (.int 0), .dat (.int (z:Int)), .dat (.int (z:Int)), .un, .un, .un, .un]) (by simp! only [oY,c1,c2,Int.le_refl]) ?_
  refine fP (ρ' :=[.dat (eY rs), .dat (.int (k:Int)), .dat (.int 0), .dat (.int (z:Int)), .dat (.int (z:Int)), .un, .un, .un, .un]) (by simp! only [hz']) ?_
  refine fP (ρ' :=[.dat (eY rs), .dat (.int (k:Int)), .dat (.int 0), .dat (.int (z:Int)), .dat (.int (z:Int)), .dat (fB (sizes rs)), .un, .un, .un]) (by simp! only [oN,le,Eu]) ?_
  exact h
 by_cases hs:∃c,r= .sign c
 ·obtain⟨c,rfl⟩:=hs
  refine⟨[],some k,jD (pre _ ?_),by simp,by rw [aJ,vI g hr];simp only [zU,cU,vI g hr];rfl⟩
  refine mZ (N:=fun ρ=>ρ=[.dat (eY rs), .dat (.int (k:Int)), .dat (.int 0), .dat (.int (z:Int)), .dat (.int (z:Int)), .dat (fB (sizes rs)), .un, .un, .un]) (pO (fun _ ρ=>ρ=[.dat (eY rs), .dat (.int (k:Int)), .dat (.int 0), .dat (.int (z:Int)), .dat (.int (z:Int)), .dat (fB (sizes rs)), .un, .un, .un]) 0 (by decide) rfl ?_) ?_
  ·rintro n ρ rfl
   left
   exact⟨by simp! only [ix,fH,gG],rfl⟩
  ·rintro ρ rfl
   exact jB (d:= .tuple [eY rs, .int (k:Int)]) (by simp! only [bt]) (by rw [aJ];rfl)
 ·have hn:(∃a b,r= .join a b)∨∃a,r= .times a 2:=by
   cases r with
   |sign c=>exact absurd ⟨c,rfl⟩ hs
   |join a b=>exact .inl ⟨a,b,rfl⟩
   |times a n=>
    have:=h2 a n hr
    subst this
    exact .inr ⟨a,rfl⟩
  obtain⟨q,ac,qt⟩:=aey rs g f hl k r hr hn
  rw [←hz] at ac
  refine⟨[q],some rs.length,jD (pre _ ?_),by simp,by simp only [zU,cU,zV,qt,vI g hr]⟩
  obtain⟨a,x,ak,xz,r1,r0⟩:∃a x:Nat,a<rs.length∧(sizes rs).getD a 0=x∧fV (fH r) (.int 1)= .ok (.int (a:Int))∧x<z∧0<x:=by
   have sz:=rG g hr
   rw [←hz] at sz
   rcases hn with⟨a,b,rfl⟩|⟨a,rfl⟩
   ·have p1:=Pos.get g (show a<rs.length by have:=ok.1;omega)
    have p2:=Pos.get g (show b<rs.length by have:=ok.2;omega)
    simp only [Rule.size] at sz
    exact⟨a,_,by have:=ok.1;omega,rfl,gR _ _ _,by omega,by omega⟩
   ·have p1:=Pos.get g (show a<rs.length by have:=ok.1;omega)
    simp only [Rule.size] at sz
    exact⟨a,_,by have:=ok.1;omega,rfl,gR _ _ _,by omega,by omega⟩
  obtain⟨xl,x0⟩:=r0
  have ixa:=gY (ns:=sizes rs) (a:=a) (by rw [jA];exact ak)
  rw [xz] at ixa
  have dv:lX (.int 0) (.int (x:Int))= .ok (.int 0):=by rw [o9 (by omega) (by omega)];simp
  have dm:jJ (.int 0) (.int (x:Int))= .ok (.int 0):=by rw [jo (by omega)];simp
  have mu:lN (.int 0) (.int (x:Int))= .ok (.int 0):=by rw [pD (by omega) (by omega) (by omega) (by omega)];simp
  refine oK ?_
  refine aaC ?_ ?_
  ·rcases hn with⟨a,b,rfl⟩|⟨a,rfl⟩
   ·simp! only [ix,fH,gG,js]
   ·simp! only [ix,fH,gG,ts]
  refine fP (ρ' :=[.dat (eY rs), .dat (.int (k:Int)), .dat (.int 0), .dat (.int (z:Int)), .dat (.int (z:Int)), .dat (fB (sizes rs)), .dat (fH r), .un, .un]) (by simp! only [ix]) ?_
  refine fP (ρ' :=[.dat (eY rs), .dat (.int (k:Int)), .dat (.int 0), .dat (.int (z:Int)), .dat (.int (x:Int)), .dat (fB (sizes rs)), .dat (fH r), .un, .un]) (by simp! only [r1,ixa]) ?_
  refine fP (ρ' :=[.dat (eY rs), .dat (.int (k:Int)), .dat (.int 0), .dat (.int (z:Int)), .dat (.int (x:Int)), .dat (fB (sizes rs)), .dat (fH r), .un, .un]) (by
   rcases hn with⟨a,b,rfl⟩|⟨a,rfl⟩
   ·simp! only [fH,gG,jt]
   ·simp! only [fH,gG,dv,mu,dm,Int.sub_zero]) ?_
  refine amd (by simp! only [show¬(0:Int)≥(x:Int) by omega]) (amd (by simp! only [show¬(z:Int)≤(x:Int) by omega]) ?_)
  refine fP (ρ' :=[.dat (eY rs), .dat (.int (k:Int)), .dat (.int 0), .dat (.int (z:Int)), .dat (.int (x:Int)), .dat (fB (sizes rs)), .dat (fH r), .own (fL rs), .un]) (by simp! only [ls]) ?_
  have ex:=Ur (i:=7) (g:=rQ) (ms:=[(d8 5),(d8 6),(d8 2),(d8 3)]) (ρ:=[.dat (eY rs), .dat (.int (k:Int)), .dat (.int 0), .dat (.int (z:Int)), .dat (.int (x:Int)), .dat (fB (sizes rs)), .dat (fH r), .own (fL rs), .un]) rfl (by simp! only [ou]) ac rfl
  refine fP (ρ' :=[.dat (eY rs), .dat (.int (k:Int)), .dat (.int 0), .dat (.int (z:Int)), .dat (.int (x:Int)), .dat (fB (sizes rs)), .dat (fH r), .own (fL (rs++[q])), .dat (.int ((rs.length:Nat):Int))]) (by simp only [oO,ex];rfl) ?_
  exact jB (by simp! only [bt2];rfl) rfl
end Sb
namespace Sb
open PySem PySem.Spec L2 Evl DL
theorem acv{a b:List Rule}(h:eY a=eY b):a=b:=by
 have h1:a.map fH=b.map fH:=PyData.tuple.inj h
 revert b
 induction a with
 |nil=>
  intro b _ h1
  cases b with
  |nil=>rfl
  |cons y b=>cases h1
 |cons x a ih=>
  intro b _ h1
  cases b with
  |nil=>cases h1
  |cons y b=>
   simp only [bA,List.cons.injEq] at h1
   rw [Mv h1.1,ih (b:=b) (by show bL _=bL _;rw [h1.2]) h1.2]
theorem afa{a b:Option Nat}(h:eZ a=eZ b):a=b:=by
 cases a with
 |none=>
  cases b with
  |none=>rfl
  |some j=>cases h
 |some i=>
  cases b with
  |none=>cases h
  |some j=>
   have:=PyData.int.inj h
   congr 1
   omega
theorem ahz{a b:List Rule}{n m:Option Nat}(h:(ER.ok (.tuple [eY a,eZ n]):ER)= .ok (.tuple [eY b,eZ m])):a=b∧n=m:=by
 have h1:=ER.ok.inj h
 have h2:=PyData.tuple.inj h1
 simp only [List.cons.injEq,and_true] at h2
 exact⟨acv h2.1,afa h2.2⟩
structure TT(U:List Tr)(rs:List Rule)(n:Option Nat)(w:List Nat)(t:Tr):Prop where
 x:Jk rs n w
 tr:zU rs n=some t
 m:t∈U
 l:rs.length≤900
theorem TT.mono{U V:List Tr}{rs:List Rule}{n:Option Nat}{w:List Nat}{t:Tr}(h:TT U rs n w t):TT (U++V) rs n w t:=⟨h.x,h.tr,bB _ h.m,h.l⟩
theorem akT{U:List Tr}{rs:List Rule}{n:Option Nat}{w:List Nat}{t:Tr}(x:Jk rs n w)(ht:zU rs n=some t)(hU:Un U)(hm:t∈U)(hl:rs.length≤3000000)(hu:U.length≤900):∃qs k,Mj [eY rs,eZ n]= .ok (pairD qs k)∧TT U qs k w t:=by
 obtain⟨ks,qs,fn,nd,td,e⟩:=aiP rs x.g x.f hl n x.nm
 cases n with
 |none=>cases ht
 |some k=>
  have top:=nd.2.top
  have hc:=nd.clo
  have hk:=nd.lt
  have t1:(trs rs).getD k Cy=t:=Option.some.inj ht
  have inU:∀i∈ks,(trs rs).getD i Cy∈U:=fun i hi=>hU.sub t hm _ (by
   rw [←t1]
   exact ae7 x.g (k-i) k i ks nd.2 nd.1 hi (bJ _))
  have le:=td.le x.g hc hk U inU
  refine⟨qs,some (fn k),e,⟨td.g,td.fits,gh.some (td.lt k top),?_⟩,?_,hm,by omega⟩
  ·rw [←x.t]
   exact td.tx k top
  ·simp only [zU,cU,td.tree x.g hc hk k top,t1]
theorem Rh{rs:List Rule}{a b:Option Nat}{v w:List Nat}(ha:Jk rs a v)(hb:Jk rs b w)(hl:rs.length≤2000000)(hm:v.length+w.length≤MOST):∃qs n',wX [eY rs,eZ a,eZ b]= .ok (.tuple [eY (rs++qs),eZ n'])∧Jk (rs++qs) n' (v++w)∧Good (rs++qs)∧Fits MOST (rs++qs)∧qs.length≤1∧zU (rs++qs) n' =jnN (zU rs a) (zU rs b):=by
 have h:=ae5 rs ha.g ha.f (by omega) a b ha.nm hb.nm (by rw [ha.len,hb.len];exact hm)
 obtain⟨qs,l,e,g,f,n,t⟩:=zQ ha.g ha.f ha.nm hb.nm (by rw [ha.len,hb.len];exact hm)
 have tr:=ag' (rs:=rs) (a:=a) (b:=b)
 rw [e] at h tr
 exact⟨qs,_,h,⟨g,f,n,by rw [t,ha.t,hb.t]⟩,g,f,l,tr⟩
theorem aj3{rs:List Rule}{n:Option Nat}{w:List Nat}(h:Jk rs n w)(hl:rs.length≤200000)(s:Nat)(hs:s≤w.length):vq [eY rs,eZ n, .int (s:Int), .int (s:Int)]= .ok (.tuple [eY rs,eZ none]):=by
 have ln:=h.len
 have l1:=tO rs h.g h.f (by omega) n h.nm
 have c1:(0:Int)≤(s:Int):=by omega
 have c3:(s:Int)≤((lD rs n:Nat):Int):=by omega
 have bt:lW [eY rs]= .ok (eY rs):=rfl
 refine jD ?_
 show Rt (Ij [.dat (eY rs), .dat (eZ n), .dat (.int (s:Int)), .dat (.int (s:Int)), .un, .un, .un, .un, .un]) _
 unfold Ij
 refine fP (ρ' :=[.dat (eY rs), .dat (eZ n), .dat (.int (s:Int)), .dat (.int (s:Int)), .dat (.int ((lD rs n:Nat):Int)), .un, .un, .un, .un]) (by simp! only [l1]) ?_
 refine fP (ρ' :=[.dat (eY rs), .dat (eZ n), .dat (.int (s:Int)), .dat (.int (s:Int)), .dat (.int ((lD rs n:Nat):Int)), .un, .un, .un, .un]) (by simp! only [oY,c1,c3,Int.le_refl]) ?_
 exact oK (Hg (by simp! only []) (jB (d:= .tuple [eY rs, .none]) (by simp! only [bt]) rfl))
theorem ahE{rs:List Rule}{n:Option Nat}{w:List Nat}{t:Tr}(h:Jk rs n w)(ht:zU rs n=some t)(h2:∀a c,t= .tm a c→c=2)(hl:rs.length≤200000):
 ∃qs n',vq [eY rs,eZ n, .int ((0:Nat):Int), .int ((w.length:Nat):Int)]= .ok (.tuple [eY (rs++qs),eZ n'])∧Jk (rs++qs) n' w∧Good (rs++qs)∧Fits MOST (rs++qs)∧qs.length≤1∧zU (rs++qs) n' =some (whT t):=by
 cases n with
 |none=>cases ht
 |some k=>
  have hk:=h.nm k rfl
  have t1:(trs rs).getD k Cy=t:=Option.some.inj ht
  have e1:(sizes rs).getD k 0=w.length:=h.len
  obtain⟨q1,n1,c1,tx1,g1,f1,_⟩:=amt h hl rs.length (fun k z=>h.nm k z) 0 w.length (cX _) (bJ _)
  obtain⟨q2,n2,c2,l2,tr2⟩:=alu rs h.g h.f hl k hk (fun a c hr=>by
   refine h2 ((trs rs).getD a Cy) c ?_
   rw [←t1,vI h.g hr]
   rfl)
  rw [e1] at c2
  have c1' :vq [eY rs, .int (k:Int), .int 0, .int ((w.length:Nat):Int)]= .ok (.tuple [eY (rs++q1),eZ n1]):=c1
  obtain⟨e2,e3⟩:=ahz (c1'.symm.trans c2)
  have e4:stretch w 0 w.length=w:=by simp [stretch]
  rw [e4] at tx1
  rw [t1] at tr2
  refine⟨q2,n2,c2,?_,?_,?_,l2,tr2⟩
  ·rw [←e2,←e3];exact tx1
  ·rw [←e2];exact g1
  ·rw [←e2];exact f1
theorem afl{rs os:List Rule}{n m:Option Nat}{v w:List Nat}{t s:Tr}(h:Jk rs n v)(ho:Jk os m w)(ht:zU rs n=some t)(hs:zU os m=some s)(h2:∀a c,t= .tm a c→c=2)(p:Nat)(hp:p=0∨p=v.length)(hm:v.length+w.length≤MOST)(hl:rs.length+os.length+6≤200000):
 ∃qs k,Tn [pairD rs n, .int (p:Int),pairD os m]= .ok (pairD qs k)∧Jk qs k (v.take p++w++v.drop p)∧qs.length≤rs.length+os.length+6∧(zU qs k=some (.jn s (whT t))∨zU qs k=some (.jn (whT t) s)):=by
 obtain⟨s1,t1,t2,bl⟩:=adA h ho (by omega)
 have tr1:zU (rs++bring rs os) n=some t:=by rw [Gx h.nm,ht]
 have tr2:zU (rs++bring rs os) (pG rs m)=some s:=by rw [Wr ho.g ho.nm,hs]
 obtain⟨R,hR⟩:∃R,R=rs++bring rs os:=⟨_,rfl⟩
 have Rl:R.length=rs.length+os.length:=by rw [hR,aA,bl]
 rw [←hR] at s1 t1 t2 tr1 tr2
 obtain⟨mid,hmid⟩:∃mid,mid=pG rs m:=⟨_,rfl⟩
 rw [←hmid] at s1 t2 tr2
 have ln:=tO R t1.g t1.f (by omega) n t1.nm
 rw [t1.len] at ln
 obtain⟨q1,a,A,c1,ta,g1,f1,l1,ra,q2,b,B,c2,tb,g2,f2,l2,rb,AB⟩:∃q1 a A,vq [eY R,eZ n, .int ((0:Nat):Int), .int (p:Int)]= .ok (.tuple [eY (R++q1),eZ a])∧Jk (R++q1) a (v.take p)∧Good (R++q1)∧Fits MOST (R++q1)∧q1.length≤1∧zU (R++q1) a=A∧
  ∃q2 b B,vq [eY (R++q1),eZ n, .int (p:Int), .int ((v.length:Nat):Int)]= .ok (.tuple [eY (R++q1++q2),eZ b])∧Jk (R++q1++q2) b (v.drop p)∧Good (R++q1++q2)∧Fits MOST (R++q1++q2)∧q2.length≤1∧zU (R++q1++q2) b=B∧((A=none∧B=some (whT t))∨(A=some (whT t)∧B=none)):=by
  rcases hp with rfl|rfl
  ·have ce:=aj3 t1 (by omega) 0 (cX _)
   obtain⟨q,b,cw,tw,gw,fw,lw,rw_⟩:=ahE t1 tr1 h2 (by omega)
   refine⟨[],none,none,by rw [aJ];exact ce,⟨by rw [aJ];exact t1.g,by rw [aJ];exact t1.f,gh.none,by simp [iG]⟩,by rw [aJ];exact t1.g,by rw [aJ];exact t1.f,by simp,rfl,q,b,some (whT t),?_⟩
   rw [aJ]
   exact⟨cw,by simpa using tw,gw,fw,lw,rw_, .inl ⟨rfl,rfl⟩⟩
  ·obtain⟨q,b,cw,tw,gw,fw,lw,rw_⟩:=ahE t1 tr1 h2 (by omega)
   have t1' :=t1.app gw fw
   have ce:=aj3 t1' (by rw [aA];omega) v.length (bJ _)
   refine⟨q,b,some (whT t),cw,by simpa using tw,gw,fw,lw,rw_,[],none,none,by rw [aJ];exact ce,⟨by rw [aJ];exact gw,by rw [aJ];exact fw,gh.none,by simp [iG]⟩,by rw [aJ];exact gw,by rw [aJ];exact fw,by simp,rfl, .inr ⟨rfl,rfl⟩⟩
 have z1:(v.take p).length+(v.drop p).length=v.length:=by rw [←aA,bM]
 have m2:=((t2.app g1 f1).app g2 f2)
 obtain⟨q3,c,c3,tc,g3,f3,l3,r3⟩:=Rh (ta.app g2 f2) m2 (by simp only [aA];omega) (by omega)
 obtain⟨q4,d,c4,td,g4,f4,l4,r4⟩:=Rh tc (tb.app g3 f3) (by simp only [aA];omega) (by rw [aA];omega)
 have rA:zU (R++q1++q2) a=A:=by rw [Gx ta.nm,ra]
 have rM:zU (R++q1++q2) mid=some s:=by rw [Gx (t2.nm.app _),Gx t2.nm,tr2]
 have rB:zU (R++q1++q2++q3) b=B:=by rw [Gx tb.nm,rb]
 rw [rA,rM] at r3
 rw [r3,rB] at r4
 refine⟨R++q1++q2++q3++q4,d,?_,td,by simp only [aA];omega,?_⟩
 ·refine jD ?_
  show Rt (Rv [.dat (pairD rs n), .dat (.int (p:Int)), .dat (pairD os m), .un, .un, .un, .un, .un, .un, .un]) _
  unfold Rv
  refine fP (ρ' :=[.dat (pairD rs n), .dat (.int (p:Int)), .dat (pairD os m), .dat (eY R), .dat (eZ n), .dat (eZ mid), .un, .un, .un, .un]) (nA (kh rfl rfl s1) rfl) ?_
  refine fP (ρ' :=[.dat (pairD rs n), .dat (.int (p:Int)), .dat (pairD os m), .dat (eY R), .dat (eZ n), .dat (eZ mid), .dat (.int ((v.length:Nat):Int)), .un, .un, .un]) (lK (kh rfl rfl ln)) ?_
  refine fP (ρ' :=[.dat (pairD rs n), .dat (.int (p:Int)), .dat (pairD os m), .dat (eY (R++q1)), .dat (eZ n), .dat (eZ mid), .dat (.int ((v.length:Nat):Int)), .dat (eZ a), .un, .un]) (nA (vz rfl rfl rfl rfl c1) rfl) ?_
  refine fP (ρ' :=[.dat (pairD rs n), .dat (.int (p:Int)), .dat (pairD os m), .dat (eY (R++q1++q2)), .dat (eZ n), .dat (eZ mid), .dat (.int ((v.length:Nat):Int)), .dat (eZ a), .dat (eZ b), .un]) (nA (vz rfl rfl rfl rfl c2) rfl) ?_
  refine fP (ρ' :=[.dat (pairD rs n), .dat (.int (p:Int)), .dat (pairD os m), .dat (eY (R++q1++q2++q3)), .dat (eZ n), .dat (eZ mid), .dat (.int ((v.length:Nat):Int)), .dat (eZ a), .dat (eZ b), .dat (eZ c)]) (nA (ni rfl rfl rfl c3) rfl) ?_
  exact jB (ni rfl rfl rfl c4) rfl
 ·rcases AB with⟨rfl,rfl⟩|⟨rfl,rfl⟩
  ·exact .inl r4
  ·exact .inr r4
def Dd.kd{α:Type}(t:α→List Nat):Dd α→Prop
 | .is w=>w.length≤4
 | .turn _=>True
 | .join _ _=>True
 | .times _ m=>m=2
 | .insert a p _=>p=0∨p=(t a).length
 |_=>False
theorem akV{U:List Tr}(hU:Un U)(hu:U.length≤800){R:List Nat→List Rule}{N:List Nat→Option Nat}{T:List Nat→List Nat}{τ:List Nat→Tr}{ws:List (List Nat)}(hT:∀a∈ws,TT U (R a) (N a) (T a) (τ a))(d:Dd (List Nat))(hr:∀a∈d.refs,a∈ws)(ok:d.ok T)(kd:d.kd T)(w:List Nat):
 ∃V qs k t,Un (U++V)∧V.length≤14∧nQ [.dict (uH (fun a=>pairD (R a) (N a)) ws), .tuple [.str d.verb,iI w, .list (d.rest iI)]]= .ok (pairD qs k)∧TT (U++V) qs k (d.tx T) t:=by
 obtain⟨X,hX⟩:∃X,X=PyData.dict (uH (fun a=>pairD (R a) (N a)) ws):=⟨_,rfl⟩
 have gt:∀a∈ws,jE X (iI a)= .ok (pairD (R a) (N a)):=fun a ha=>by rw [hX];exact Fo _ ha
 have ask:=aly (fun a=>pairD (R a) (N a)) ws d hr
 rw [←hX] at ask⊢
 have kdd:=N7 d
 have fin:∀(V:List Tr) (rs:List Rule) (n:Option Nat) (t:Tr),Un (U++V)→V.length≤14→Jk rs n (d.tx T)→zU rs n=some t→t∈U++V→rs.length≤3000000→
  iQ (eO kZ (d8 2) (eC (.str "is"))) (lA (gT [(gN 5),(gN 6)]) (fu pQ [(eO fV (d8 4) (eC (.int 0)))])) (iQ (wM (eO kZ (d8 2) (eC (.str "join"))) (eO kZ (d8 2) (eC (.str "insert")))) (lA (gT [(gN 5),(gN 6)]) (fu Kf [(d8 2),(eO jE (gK 0) (eO fV (d8 4) (eC (.int 0)))),(d8 4),(gK 0)])) (lA (gT [(gN 5),(gN 6)]) (fu Ln [(d8 2),(eO jE (gK 0) (eO fV (d8 4) (eC (.int 0)))),(d8 4)]))) [.bor X, .dat (.tuple [.str d.verb,iI w, .list (d.rest iI)]), .dat (.str d.verb), .dat (iI w), .dat (.list (d.rest iI)), .un, .un]= .nx [.bor X, .dat (.tuple [.str d.verb,iI w, .list (d.rest iI)]), .dat (.str d.verb), .dat (iI w), .dat (.list (d.rest iI)), .dat (eY rs), .dat (eZ n)]→
  ∃V qs k t,Un (U++V)∧V.length≤14∧nQ [X, .tuple [.str d.verb,iI w, .list (d.rest iI)]]= .ok (pairD qs k)∧TT (U++V) qs k (d.tx T) t:=fun V rs n t hV hv x ht hm hl step=>by
  obtain⟨qs,k,e,tq⟩:=akT x ht hV hm hl (by rw [aA];omega)
  refine⟨V,qs,k,t,hV,hv,?_,tq⟩
  refine jD ?_
  show Rt (Dg [.bor X, .dat (.tuple [.str d.verb,iI w, .list (d.rest iI)]), .un, .un, .un, .un, .un]) _
  unfold Dg
  refine fP (ρ' :=[.bor X, .dat (.tuple [.str d.verb,iI w, .list (d.rest iI)]), .dat (.str d.verb), .dat (iI w), .dat (.list (d.rest iI)), .un, .un]) rfl ?_
  refine fP (ρ' :=[.bor X, .dat (.tuple [.str d.verb,iI w, .list (d.rest iI)]), .dat (.str d.verb), .dat (iI w), .dat (.list (d.rest iI)), .un, .un]) (XD (ni rfl (j5 rfl kdd) rfl ask)) ?_
  refine fP step ?_
  exact jB (kh rfl rfl e) rfl
 cases d with
 |is u=>
  obtain⟨rs,k,e,g,f,hk,ht,hl⟩:=Zt u ok.1 ok.2.1 ok.2.2
  have ul:u.length≤4:=kd
  refine fin (trs rs++(trs rs).map Tr.CK) rs (some k) ((trs rs).getD k Cy) (hU.app (Un.base g.g g.t)) (by simp only [aA,aC,sO];omega) ⟨g.g,f,gh.some hk,ht⟩ rfl ?_ (by omega) ?_
  ·refine bK _ (bB _ ?_)
   rw [bF,aU (by rw [sO];exact hk)]
   exact dh _
  rw [Dt (by simp! only [Dd.verb])]
  exact nA (j5 (x:= .str (fY u)) (by simp! only [Dd.rest,Dk]) e) rfl
 |join a b=>
  have ha:=hT a (hr a (by simp [Dd.refs]))
  have hb' :=hT b (hr b (by simp [Dd.refs]))
  have la:=ha.l
  have lb:=hb'.l
  obtain⟨s1,t1,t2,bl⟩:=adA ha.x hb'.x (by omega)
  obtain⟨q,c,c3,tc,g3,f3,l3,r3⟩:=Rh t1 t2 (by rw [aA,bl];omega) ok
  rw [Gx ha.x.nm,Wr hb'.x.g hb'.x.nm,ha.tr,hb'.tr] at r3
  have ql:(R a++bring (R a) (R b)++q).length≤(R a).length+(R b).length+1:=by simp only [aA,bl];omega
  refine fin _ _ c (.jn (τ a) (τ b)) (hU.jn ha.m hb'.m) (by simp) tc r3 (by simp) (by omega) ?_
  rw [vU (by simp! only [Dd.verb,v_all]),Dt (by simp! only [Dd.verb,v_all])]
  refine nA (d:= .tuple [eY (R a++bring (R a) (R b)++q),eZ c]) (vz (x:= .str jQ) (y:=pairD (R a) (N a)) (z:= .list [iI a,iI b]) (w:=X) rfl (by simp! only [Dd.rest,Dk,gt a (hr a (by simp [Dd.refs]))]) rfl rfl ?_) rfl
  refine jD ?_
  show Rt (FQ [.dat (.str jQ), .dat (pairD (R a) (N a)), .dat (.list [iI a,iI b]), .bor X, .un, .un, .un]) _
  unfold FQ
  refine fP (ρ' :=[.dat (.str jQ), .dat (pairD (R a) (N a)), .dat (.list [iI a,iI b]), .bor X, .un, .un, .un]) (by simp! only [v_all]) ?_
  refine fP (ρ' :=[.dat (.str jQ), .dat (pairD (R a) (N a)), .dat (.list [iI a,iI b]), .bor X, .dat (eY (R a++bring (R a) (R b))), .dat (eZ (N a)), .dat (eZ (pG (R a) (N b)))]) (nA (kh (y:=pairD (R b) (N b)) rfl (by simp! only [LR,gt b (hr b (by simp [Dd.refs]))]) s1) rfl) ?_
  exact jB (ni rfl rfl rfl c3) rfl
 |insert a p b=>
  have ha:=hT a (hr a (by simp [Dd.refs]))
  have hb' :=hT b (hr b (by simp [Dd.refs]))
  have la:=ha.l
  have lb:=hb'.l
  obtain⟨rs,c,e,tc,lc,tr⟩:=afl ha.x hb'.x ha.tr hb'.tr (fun x n e=>hU.two x n (by rw [←e];exact ha.m)) p kd ok.2 (by omega)
  obtain⟨V,hV,hv,hw⟩:=hU.wh ha.m
  have sb:τ b∈U++V:=bB _ hb'.m
  have step:iQ (eO kZ (d8 2) (eC (.str "is"))) (lA (gT [(gN 5),(gN 6)]) (fu pQ [(eO fV (d8 4) (eC (.int 0)))])) (iQ (wM (eO kZ (d8 2) (eC (.str "join"))) (eO kZ (d8 2) (eC (.str "insert")))) (lA (gT [(gN 5),(gN 6)]) (fu Kf [(d8 2),(eO jE (gK 0) (eO fV (d8 4) (eC (.int 0)))),(d8 4),(gK 0)])) (lA (gT [(gN 5),(gN 6)]) (fu Ln [(d8 2),(eO jE (gK 0) (eO fV (d8 4) (eC (.int 0)))),(d8 4)]))) [.bor X, .dat (.tuple [.str (Dd.insert a p b).verb,iI w, .list ((Dd.insert a p b).rest iI)]), .dat (.str (Dd.insert a p b).verb), .dat (iI w), .dat (.list ((Dd.insert a p b).rest iI)), .un, .un]= .nx [.bor X, .dat (.tuple [.str (Dd.insert a p b).verb,iI w, .list ((Dd.insert a p b).rest iI)]), .dat (.str (Dd.insert a p b).verb), .dat (iI w), .dat (.list ((Dd.insert a p b).rest iI)), .dat (eY rs), .dat (eZ c)]:=by
   rw [vU (by simp! only [Dd.verb,v_all]),Dt (by simp! only [Dd.verb,v_all])]
   refine nA (d:= .tuple [eY rs,eZ c]) (vz (x:= .str iK) (y:=pairD (R a) (N a)) (z:= .list [iI a, .int (p:Int),iI b]) (w:=X) rfl (by simp! only [Dd.rest,Dk,gt a (hr a (by simp [Dd.refs]))]) rfl rfl ?_) rfl
   refine jD ?_
   show Rt (FQ [.dat (.str iK), .dat (pairD (R a) (N a)), .dat (.list [iI a, .int (p:Int),iI b]), .bor X, .un, .un, .un]) _
   unfold FQ
   exact oK (Hg (by simp! only []) (jB (ni (y:= .int (p:Int)) (z:=pairD (R b) (N b)) rfl (by simp! only [LR]) (by simp! only [akD,gt b (hr b (by simp [Dd.refs]))]) e) rfl))
  rcases tr with tr|tr
  ·exact fin (V++[.jn (τ b) (whT (τ a)),(Tr.jn (τ b) (whT (τ a))).CK]) rs c _ (by rw [←aG];exact hV.jn sb hw) (by simp;omega) tc tr (by simp) (by omega) step
  ·exact fin (V++[.jn (whT (τ a)) (τ b),(Tr.jn (whT (τ a)) (τ b)).CK]) rs c _ (by rw [←aG];exact hV.jn hw sb) (by simp;omega) tc tr (by simp) (by omega) step
 |times a m=>
  have ha:=hT a (hr a (by simp [Dd.refs]))
  have la:=ha.l
  have m2:m=2:=kd
  subst m2
  have re:=aaI (R a) ha.x.g ha.x.f (by omega) (N a) ha.x.nm 2 ok.1 (by rw [ha.x.len];exact ok.2)
  obtain⟨q,l,e0,g,f,n,t⟩:=Kz (m:=2) ha.x.g ha.x.f ha.x.nm ok.1 (by rw [ha.x.len];exact ok.2)
  have tr:=afs (rs:=R a) (n:=N a) (m:=2)
  rw [e0,ha.tr] at tr
  rw [e0] at re
  obtain⟨c,hc⟩:∃c,c=(overF (R a) (N a) 2).2:=⟨_,rfl⟩
  obtain⟨rs,hrs⟩:∃rs,rs=R a++q:=⟨_,rfl⟩
  have rl:rs.length≤(R a).length+1:=by rw [hrs,aA];omega
  rw [←hc,←hrs] at re tr
  rw [←hc,←hrs] at n t
  refine fin _ rs c (.tm (τ a) 2) (hU.tm ha.m) (by simp) ⟨by rw [hrs];exact g,by rw [hrs];exact f,n,by rw [t,ha.x.t];rfl⟩ (by rw [tr];rfl) (by simp) (by omega) ?_
  rw [vU (by simp! only [Dd.verb,v_all]),vU (by simp! only [Dd.verb,v_all])]
  refine nA (d:= .tuple [eY rs,eZ c]) (ni (x:= .str jH) (y:=pairD (R a) (N a)) (z:= .list [iI a, .int ((2:Nat):Int)]) rfl (by simp! only [Dd.rest,Dk,gt a (hr a (by simp [Dd.refs]))]) rfl ?_) rfl
  refine jD ?_
  show Rt (Em [.dat (.str jH), .dat (pairD (R a) (N a)), .dat (.list [iI a, .int ((2:Nat):Int)])]) _
  unfold Em
  exact oK (Hg (by simp! only []) (jB (ni (x:=eY (R a)) (y:=eZ (N a)) (z:= .int ((2:Nat):Int)) (by simp! only [gG]) (by simp! only [gR]) (by simp! only [LR]) re) rfl))
 |turn a=>
  have ha:=hT a (hr a (by simp [Dd.refs]))
  have la:=ha.l
  obtain⟨q,c,re,g,f,l,n,t,tr⟩:=aa' (R a) ha.x.g ha.x.f (by omega) (N a) ha.x.nm
  rw [ha.tr] at tr
  obtain⟨rs,hrs⟩:∃rs,rs=R a++q:=⟨_,rfl⟩
  have rl:rs.length≤2*(R a).length:=by rw [hrs,aA];omega
  rw [←hrs] at re g f n t tr
  refine fin [] rs c (τ a).CK (by rw [aJ];exact hU) (by simp) ⟨g,f,n,by rw [t,ha.x.t];rfl⟩ (by rw [tr];rfl) (by rw [aJ];exact hU.CK _ ha.m) (by omega) ?_
  rw [vU (by simp! only [Dd.verb,v_all]),vU (by simp! only [Dd.verb,v_all])]
  refine nA (d:= .tuple [eY rs,eZ c]) (ni (x:= .str jR) (y:=pairD (R a) (N a)) (z:= .list [iI a]) rfl (by simp! only [Dd.rest,Dk,gt a (hr a (by simp [Dd.refs]))]) rfl ?_) rfl
  refine jD ?_
  show Rt (Em [.dat (.str jR), .dat (pairD (R a) (N a)), .dat (.list [iI a])]) _
  unfold Em
  refine fP (ρ' :=[.dat (.str jR), .dat (pairD (R a) (N a)), .dat (.list [iI a])]) (by simp! only [v_all]) ?_
  exact oK (Hg (by simp! only []) (jB (kh (x:=eY (R a)) (y:=eZ (N a)) (by simp! only [gG]) (by simp! only [gR]) re) rfl))
 |put a s o=>exact absurd kd id
 |cut a s e=>exact absurd kd id
 |remove a s e=>exact absurd kd id
end Sb
namespace Sb
open PySem PySem.Spec L2 Evl DL
def XQ:List Str:=["is","join","times","turn","put","insert","cut","remove"]
def Dm(w:List Nat):Prop:=∀v∈XQ,¬fY w=v
theorem numL_len(n:Nat)(h:n<10 ^ 19):(TL.numL n).length≤40:=by
 have:=TL.numL_len (n:=n) (k:=19) (by omega) h
 omega
theorem ae6{ps:List (List Nat)}(h:∀p∈ps,p.length≤40∧∀c∈p,48≤c∧c≠59)(hne:ps≠[])(hl:ps.length≤10):rD (fY (TL.joinL [32] ps)) (.str " ")= .ok (.list (ps.map fun l=>aV (fY l))):=by
 have e5:(" ":Str).cps.toList=[32]:=by decide+kernel
 have e1:(((" ":Str).length==0)=false):=by decide+kernel
 have e2:(fY (TL.joinL [32] ps)).length+2≤sizeLine:=by
  have:∀ls:List (List Nat),(∀l∈ls,l.length≤40)→(TL.joinL [32] ls).length≤ls.length*41:=by
   intro ls
   induction ls with
   |nil=>intro _;simp [TL.joinL]
   |cons l ls ih=>
    intro hh
    have h1:=hh l (by simp)
    have h2:=ih fun x hx=>hh x (aN _ hx)
    cases ls with
    |nil=>simp only [TL.joinL,aY,cH];omega
    |cons x r=>
     simp only [TL.joinL,aA,aY,cH] at h2⊢
     omega
  have h3:=this ps fun l hl=>(h l hl).1
  rw [rP]
  exact Cv (by omega)
 have e3:Txt.split (fY (TL.joinL [32] ps)) " "=ps.map fY:=by
  have j:=Xn " " ps
  rw [e5] at j
  rw [←j]
  refine TL.split_join (s:=32) (S:=[]) e5 (by decide+kernel) (by simpa using hne) fun p hp=> ?_
  obtain⟨l,hl,rfl⟩:=cG.mp hp
  intro z
  have:=(h l hl).2 32 z
  omega
 simp only [rD,e1,e2,and_self,if_true,e3,cD]
 rfl
theorem abI{w:List Nat}(h:Dm w):sV [iI w]= .ok .none:=by
 have n:∀v∈XQ,¬fY w=v:=h
 simp only [XQ,aH,bG,or_false,forall_eq_or_imp,forall_eq] at n
 obtain⟨n1,n2,n3,n4,n5,n6,n7,n8⟩:=n
 simp! only [sV,Ja,iI,n1,n2,n3,n4,n5,n6,n7,n8]
end Sb
namespace Sb
open PySem PySem.Spec L2 Evl DL
inductive V1 where
 |length|aj8|piece|form|drop
inductive V2 where
 |parts|order|ring|swap
inductive V3 where
 |stands|first
def V1.s:V1→Str
 | .length=>"length"| .aj8=>"show"| .piece=>"piece"| .form=>"form"| .drop=>"drop"
def V2.s:V2→Str
 | .parts=>"parts"| .order=>"order"| .ring=>"ring"| .swap=>"swap"
def V3.s:V3→Str
 | .stands=>"stands"| .first=>"first"
inductive As where
 |words|one (v:V1) (a:List Nat)|two (v:V2) (a b:List Nat)|count (a:List Nat) (s:Nat)|sign (a:List Nat) (n:Nat)|pat (v:V3) (a p:List Nat)
namespace As
def verb:As→Str
 | .words=>"words"| .one v _=>v.s| .two v _ _=>v.s| .count _ _=>"count"| .sign _ _=>"sign"| .pat v _ _=>v.s
def args:As→List (Str×List Nat×D)
 | .words=>[]
 | .one _ a=>[(iz,a,iI a)]
 | .two _ a b=>[(iz,a,iI a),(iz,b,iI b)]
 | .count a s=>[(iz,a,iI a),(lU,[s], .str (s1 s))]
 | .sign a n=>[(iz,a,iI a),(jV,TL.numL n, .int (n:Int))]
 | .pat _ a p=>[(iz,a,iI a),(jF,p, .str (fY p))]
def refs:As→List (List Nat)
 | .words=>[]| .one _ a=>[a]| .two _ a b=>[a,b]| .count a _=>[a]| .sign a _=>[a]| .pat _ a _=>[a]
def num:As→Nat
 | .sign _ n=>n
 |_=>0
def sgs:As→List (List Nat)
 | .count _ s=>[[s]]
 | .pat _ _ p=>[p]
 |_=>[]
def row(q:As):List (List Nat):=q.verb.cps.toList::q.args.map (fun z=>z.2.1)
end As
structure As.ok(q:As):Prop where
 w:∀a∈q.refs,BR a
 v:∀a∈q.refs,Dm a
 n:q.num<10 ^ 19
 s:∀p∈q.sgs,1≤p.length∧p.length≤12∧∀c∈p,c∈Lz
theorem LQ(q:As):fY q.verb.cps.toList=q.verb:=TL.ext_tl rfl
theorem Jg(q:As):BR q.verb.cps.toList:=by
 unfold BR
 cases q with
 |words=>simp only [As.verb];decide+kernel
 |one v a=>cases v<;>simp only [As.verb,V1.s]<;>decide+kernel
 |two v a b=>cases v<;>simp only [As.verb,V2.s]<;>decide+kernel
 |count a s=>simp only [As.verb];decide+kernel
 |sign a n=>simp only [As.verb];decide+kernel
 |pat v a p=>cases v<;>simp only [As.verb,V3.s]<;>decide+kernel
theorem Tf(q:As):q.verb.cps.toList.length≤10∧∀c∈q.verb.cps.toList,48≤c∧c≠59:=⟨by have:=(Jg q).2.1;omega,adX (Jg q)⟩
theorem ahh{q:As}(h:q.ok):∀z∈q.args,(z.2.1.length≤40∧∀c∈z.2.1,48≤c∧c≠59)∧jm [.str z.1, .str (fY z.2.1)]= .ok z.2.2∧uG z.2.2 .none= .ok (.bool false):=fun z hz=>by
 have wd:∀a∈q.refs,(a.length≤40∧∀c∈a,48≤c∧c≠59)∧jm [.str iz, .str (fY a)]= .ok (iI a)∧uG (iI a) .none= .ok (.bool false):=fun a ha=>⟨⟨by have:=(h.w a ha).2.1;omega,adX (h.w a ha)⟩,UG a (h.w a ha),rfl⟩
 cases q with
 |words=>simp [As.args] at hz
 |one v a=>simp [As.args] at hz;subst hz;exact wd _ (by simp [As.refs])
 |two v a b=>
  simp [As.args] at hz
  rcases hz with rfl|rfl
  ·exact wd _ (by simp [As.refs])
  ·exact wd _ (by simp [As.refs])
 |count a s=>
  simp [As.args] at hz
  have hs:=(h.s [s] (by simp [As.sgs])).2.2 s (by simp)
  rcases hz with rfl|rfl
  ·exact wd _ (by simp [As.refs])
  ·exact⟨⟨by simp,fun c hc=>by
    have:c=s:=by simpa using hc
    rw [this]
    exact ac0 s hs⟩,Tz s hs,rfl⟩
 |sign a n=>
  simp [As.args] at hz
  rcases hz with rfl|rfl
  ·exact wd _ (by simp [As.refs])
  ·exact⟨⟨numL_len n h.n,abD n⟩,Nb n h.n,rfl⟩
 |pat v a p=>
  simp [As.args] at hz
  have hs:=h.s p (by simp [As.sgs])
  rcases hz with rfl|rfl
  ·exact wd _ (by simp [As.refs])
  ·refine⟨⟨by have:=hs.2.1;show p.length≤40;omega,fun c hc=>ac0 c (hs.2.2 c hc)⟩,?_,rfl⟩
   have e:=Di p 12 hs.1 hs.2.1 (by omega) hs.2.2
   have e2:(((12:Nat)):Int)=12:=rfl
   rw [e2] at e
   simp! only [jm,sW,k_all,e]
theorem agR{q:As}(h:q.ok):∀p∈q.row,p.length≤40∧∀c∈p,48≤c∧c≠59:=fun p hp=>by
 rcases aH.mp hp with rfl|hp
 ·exact⟨by have:=(Tf q).1;omega,(Tf q).2⟩
 ·obtain⟨z,hz,rfl⟩:=cG.mp hp
  exact(ahh h z hz).1
theorem aaK(q:As):iU [.str q.verb]= .ok (.list (q.args.map fun z=>aV z.1)):=by
 cases q with
 |words=>exact(show iU [.str "words"]= .ok (.list []) by kernel_rfl)
 |one v a=>cases v with
  |length=>exact(show iU [.str "length"]= .ok (.list [.str iz]) by kernel_rfl)
  |aj8=>exact(show iU [.str "show"]= .ok (.list [.str iz]) by kernel_rfl)
  |piece=>exact(show iU [.str "piece"]= .ok (.list [.str iz]) by kernel_rfl)
  |form=>exact(show iU [.str "form"]= .ok (.list [.str iz]) by kernel_rfl)
  |drop=>exact(show iU [.str "drop"]= .ok (.list [.str iz]) by kernel_rfl)
 |two v a b=>cases v with
  |parts=>exact(show iU [.str "parts"]= .ok (.list [.str iz, .str iz]) by kernel_rfl)
  |order=>exact(show iU [.str "order"]= .ok (.list [.str iz, .str iz]) by kernel_rfl)
  |ring=>exact(show iU [.str "ring"]= .ok (.list [.str iz, .str iz]) by kernel_rfl)
  |swap=>exact(show iU [.str "swap"]= .ok (.list [.str iz, .str iz]) by kernel_rfl)
 |count a s=>exact(show iU [.str "count"]= .ok (.list [.str iz, .str lU]) by kernel_rfl)
 |sign a n=>exact(show iU [.str "sign"]= .ok (.list [.str iz, .str jV]) by kernel_rfl)
 |pat v a p=>cases v with
  |stands=>exact(show iU [.str "stands"]= .ok (.list [.str iz, .str jF]) by kernel_rfl)
  |first=>exact(show iU [.str "first"]= .ok (.list [.str iz, .str jF]) by kernel_rfl)
theorem ajp{q:As}(h:q.ok):∀z∈q.args,jm [.str z.1, .str (fY z.2.1)]= .ok z.2.2∧uG z.2.2 .none= .ok (.bool false):=fun z hz=>(ahh h z hz).2
theorem abZ(q:As):q.args.length≤2:=by cases q<;>simp [As.args]
theorem X8(q:As):zW [.str q.verb]= .ok (.bool true):=by
 have:=Iz q.verb.cps.toList (Jg q)
 rwa [LQ] at this
section
variable{q:As}
theorem aaj(h:q.ok):rD (fY (TL.joinL [32] q.row)) (.str " ")= .ok (.list (q.row.map fun l=>aV (fY l))):=ae6 (agR h) (by simp [As.row]) (by have:=abZ q;simp only [As.row,aY,aC];omega)
theorem ag3(h:q.ok):mO [.str (fY (TL.joinL [32] q.row))]= .ok .none:=by
 have al:=abZ q
 have sp:=aaj h
 obtain⟨R,hR⟩:∃R,R=fY (TL.joinL [32] q.row):=⟨_,rfl⟩
 obtain⟨L,hL⟩:∃L,L=cJ (q.row.map fun l=>aV (fY l)):=⟨_,rfl⟩
 rw [←hR,←hL] at sp
 rw [←hR]
 have ln:je [L]= .ok (.int ((1+q.args.length:Nat):Int)):=by
  rw [hL,Ae,aC]
  simp only [As.row,aY,aC]
  congr 3
  omega
 have fl:acn L= .ok L:=by rw [hL];rfl
 have x0:fV L (.int 0)= .ok (.str q.verb):=by
  rw [hL,pH (by omega) (by simp only [aC,As.row,aY];omega)]
  show ER.ok (aV (fY q.verb.cps.toList))=_
  rw [LQ]
 refine jD ?_
 show Rt (qP [.dat (.str R), .un, .un, .un]) _
 unfold qP
 refine fP (ρ' :=[.dat (.str R), .dat L, .un, .un]) (by simp! only [oN,Ih,sp,fl]) ?_
 by_cases h3:q.args.length<2
 ·refine oK (Hg (by simp! only [ln,show((1+q.args.length:Nat):Int)<3 by omega]) (jB rfl rfl))
 ·refine fP (ρ' :=[.dat (.str R), .dat L, .un, .un]) (by simp! only [ln,x0,X8,show¬((1+q.args.length:Nat):Int)<3 by omega]) ?_
  obtain⟨a,ha,r,er⟩:∃a,a∈q.refs∧∃r,q.row=q.verb.cps.toList::a::r:=by
   cases q with
   |words=>simp [As.args] at h3
   |one v a=>simp [As.args] at h3
   |two v a b=>exact⟨a,by simp [As.refs],_,rfl⟩
   |count a s=>exact⟨a,by simp [As.refs],_,rfl⟩
   |sign a n=>exact⟨a,by simp [As.refs],_,rfl⟩
   |pat v a p=>exact⟨a,by simp [As.refs],_,rfl⟩
  have x1:fV L (.int 1)= .ok (iI a):=by
   rw [hL,er,pH (by omega) (by simp only [aC,aY];omega)]
   rfl
  refine fP (ρ' :=[.dat (.str R), .dat L, .dat .none, .un]) (lK (j5 (x:=iI a) (by simp! only [x1]) (abI (h.v a ha)))) ?_
  exact oK (Hg rfl (jB rfl rfl))
theorem aex(h:q.ok):yP [.str (fY (TL.joinL [32] q.row))]= .ok (.tuple [.str q.verb, .list (q.args.map fun z=>z.2.2)]):=by
 have al:=abZ q
 have sp:=aaj h
 obtain⟨R,hR⟩:∃R,R=fY (TL.joinL [32] q.row):=⟨_,rfl⟩
 obtain⟨L,hL⟩:∃L,L=cJ (q.row.map fun l=>aV (fY l)):=⟨_,rfl⟩
 rw [←hR,←hL] at sp
 rw [←hR]
 have fl:acn L= .ok L:=by rw [hL];rfl
 have x0:fV L (.int 0)= .ok (.str q.verb):=by
  rw [hL,pH (by omega) (by simp only [aC,As.row,aY];omega)]
  show ER.ok (aV (fY q.verb.cps.toList))=_
  rw [LQ]
 have sl:∀ρ:DL.Env,d8 1 ρ= .ok L→PB (d8 1) (some (eC (.int 1))) none ρ= .ok (.list (q.args.map fun z=>aV (fY z.2.1))):=fun ρ hv=>by
  rw [hL] at hv
  have:=adB (m:=d8 1) (ma:=eC (.int 1)) (k:=1) hv rfl
  rw [this]
  simp only [As.row,bA,List.drop_succ_cons,List.drop_zero,cD]
  rfl
 have vo:=Lq q.args (by omega) (ajp h)
 refine jD ?_
 show Rt (CQ [.dat (.str R), .un, .un, .un]) _
 unfold CQ
 refine fP (ρ' :=[.dat (.str R), .dat L, .un, .un]) (by simp! only [oN,Ih,sp,fl]) ?_
 refine fP (ρ' :=[.dat (.str R), .dat L, .dat (.list (q.args.map fun z=>aV z.1)), .un]) (lK (j5 (x:= .str q.verb) (by simp! only [x0]) (aaK q))) ?_
 refine fP (ρ' :=[.dat (.str R), .dat L, .dat (.list (q.args.map fun z=>aV z.1)), .un]) rfl ?_
 refine fP (ρ' :=[.dat (.str R), .dat L, .dat (.list (q.args.map fun z=>aV z.1)), .dat (.list (q.args.map fun z=>z.2.2))]) (lK (kh rfl (sl _ rfl) vo)) ?_
 refine fP (ρ' :=[.dat (.str R), .dat L, .dat (.list (q.args.map fun z=>aV z.1)), .dat (.list (q.args.map fun z=>z.2.2))]) rfl ?_
 exact jB (by simp! only [x0]) rfl
end
theorem ahf(F:List Nat→D)(ws:List (List Nat))(q:As)(hr:∀a∈q.refs,a∈ws):j8 [.dict (uH F ws), .list (q.args.map fun z=>aV z.1), .list (q.args.map fun z=>z.2.2)]= .ok .none:=by
 obtain⟨T,hT⟩:∃T,T=PyData.dict (uH F ws):=⟨_,rfl⟩
 have hi:∀a∈ws,xV true (iI a) T= .ok (.bool false):=fun a ha=>by
  rw [hT]
  show xV true (.str (fY a)) _=_
  rw [ajJ,decide_eq_true ha]
  rfl
 rw [←hT]
 cases q with
 |words=>rfl
 |one v a=>simp [j8,mH,jh,j9,As.args,mV,iZ,ou,G9,wF,gT,gTs,gN,d8,gK,eC,eO,ER.bind,oU,iQ,fU,hi a (hr a (by simp [As.refs]))]
 |two v a b=>simp [j8,mH,jh,j9,As.args,mV,iZ,ou,G9,wF,gT,gTs,gN,d8,gK,eC,eO,ER.bind,oU,iQ,fU,hi a (hr a (by simp [As.refs])),hi b (hr b (by simp [As.refs]))]
 |count a s=>simp [j8,mH,jh,j9,As.args,mV,iZ,ou,G9,wF,gT,gTs,gN,d8,gK,eC,eO,ER.bind,oU,iQ,fU,hi a (hr a (by simp [As.refs])),EY]
 |sign a n=>simp [j8,mH,jh,j9,As.args,mV,iZ,ou,G9,wF,gT,gTs,gN,d8,gK,eC,eO,ER.bind,oU,iQ,fU,hi a (hr a (by simp [As.refs])),Av]
 |pat v a p=>simp [j8,mH,jh,j9,As.args,mV,iZ,ou,G9,wF,gT,gTs,gN,d8,gK,eC,eO,ER.bind,oU,iQ,fU,hi a (hr a (by simp [As.refs])),CP]
end Sb
namespace Sb
open PySem PySem.Spec L2 Evl DL
theorem adu{bs:List Bool}{n:Nat}{m:SM}{as:List Sl}{ρ:DL.Env}{c:Str}(hc:chk bs as=true)(h:m (as++aD n .un)= .ex c ρ):Iv bs n m as= .ex c (mask bs ρ):=by
 simp only [Iv,hc,if_true,h]
theorem adT{nk:NK}{i:Nat}{g:List Sl→RO}{as:List AM}{ρ:DL.Env}{sl outs:List Sl}{d:D}(hk:kindAt ρ i=some nk)(h:wN (.s i::as) ρ= .ok sl)(hg:g sl= .ok d outs):vO nk i g as ρ= .ok d (rW (.s i::as) outs ρ):=by
 simp only [vO,hk,if_true,aiy h hg]
theorem ajf{nk:NK}{i:Nat}{g:List Sl→RO}{as:List AM}{ρ:DL.Env}{sl outs:List Sl}{d:D}(hk:kindAt ρ i=some nk)(h:wN (.r i::as) ρ= .ok sl)(hg:g sl= .ok d outs):Rk nk i g as ρ= .ok d:=by
 simp only [Rk,hk,if_true,aiz h hg]
abbrev bkD(R:List Nat→List Rule)(N:List Nat→Option Nat)(ws:List (List Nat)):D:= .dict (uH (fun a=>pairD (R a) (N a)) ws)
abbrev zB(R:List Nat→List Rule)(N:List Nat→Option Nat)(ws:List (List Nat)):Sl:= .nst gM [.own (bkD R N ws)]
end Sb
namespace Sb
open PySem PySem.Spec L2 Evl DL
def sw{α:Type}(f:List Nat→α)(a b:List Nat):List Nat→α:=fun x=>if x=b then f a else if x=a then f b else f x
theorem akE{R:List Nat→List Rule}{N:List Nat→Option Nat}{ws:List (List Nat)}(d:Dd (List Nat))(w:List Nat)(ro:xP w d)(hl:ws.length≤900){qs:List Rule}{k:Option Nat}(mt:nQ [.dict (uH (fun a=>pairD (R a) (N a)) ws), .tuple [.str d.verb,iI w, .list (d.rest iI)]]= .ok (pairD qs k)):
 jN [zB R N ws, .dat (.str (fY (rowOf (w,d))))]= .ok (.str "ok") [zB (fun a=>if a=w then qs else R a) (fun a=>if a=w then k else N a) (addW ws w), .un]:=by
 have so:=BW ro
 obtain⟨RW,hRW⟩:∃RW,RW=aV (fY (rowOf (w,d))):=⟨_,rfl⟩
 have so' :mO [RW]= .ok (.tuple [.str d.verb,iI w, .list (d.rest iI)]):=by rw [hRW];exact so
 obtain⟨Q,hQ⟩:∃Q,Q=bL [.str d.verb,iI w, .list (d.rest iI)]:=⟨_,rfl⟩
 have q1:fV Q (.int 1)= .ok (iI w):=by rw [hQ];exact gR _ _ _
 have qn:pB Q .none= .ok (.bool true):=by rw [hQ];rfl
 rw [←hQ] at so' mt
 rw [←hRW]
 have hwl:(uH (fun a=>pairD (R a) (N a)) ws).length<sizeLine:=by
  rw [Xr]
  exact lM (by omega)
 have f1:uH (upW (fun a=>pairD (R a) (N a)) w (pairD qs k)) (addW ws w)=uH (fun a=>pairD (if a=w then qs else R a) (if a=w then k else N a)) (addW ws w):=by
  congr 1
  funext x
  unfold upW
  by_cases z:x=w
  ·simp only [z,if_true]
  ·simp only [z,if_false]
 have run:Rx (pJ [zB R N ws, .dat RW, .un, .un, .un, .un]) (fun r ρ=>r= .str "ok"∧ρ=[zB (fun a=>if a=w then qs else R a) (fun a=>if a=w then k else N a) (addW ws w), .dat RW, .dat Q, .un, .un, .un]):=by
  unfold pJ
  refine Xf (ρ' :=[zB R N ws, .dat RW, .dat Q, .un, .un, .un]) (lK (j5 (x:=RW) rfl so')) ?_
  refine adn (am1 (by simp! only [qn]) ?_)
  refine Xf (ρ' :=[zB (fun a=>if a=w then qs else R a) (fun a=>if a=w then k else N a) (addW ws w), .dat RW, .dat Q, .un, .un, .un]) ?_ (Xj rfl ⟨rfl,rfl⟩)
  rw [ah9 (nk:=gM) (cs:=[.own (bkD R N ws)]) (d:=pairD qs k) (ds:=uH (fun a=>pairD (R a) (N a)) ws) (kd:=iI w) (k:= .inr (fY w)) (alT (kh (x:=bkD R N ws) (y:=Q) (aed (cs:=[.own (bkD R N ws)]) rfl rfl) rfl mt)) rfl rfl (Es _ _) (by simp! only [q1]) rfl hwl,Lk,f1]
  rfl
 obtain⟨r,ρ,e,rfl,rfl⟩:=Xm (bs:=[true,false]) (n:=4) (m:=pJ) (as:=[zB R N ws, .dat RW]) rfl run
 exact e
def YK:SM:=(fG (iQ (eO kZ (d8 4) (eC (.str "drop"))) (fG (af5 gM 0 0 (eO fV (d8 5) (eC (.int 0))))
 (rC (eC (.str "ok")))) fU)
 (fG (iQ (eO kZ (d8 4) (eC (.str "swap"))) (Ms (vO gM 0 vH [.d (eO fV (d8 5) (eC (.int 0))), .d (eO fV (d8 5) (eC (.int 1)))])) fU)
 (rC (Rk gM 0 pY [.d (d8 4), .d (d8 5)]))))
end Sb
namespace Sb
open PySem PySem.Spec L2 Evl DL
def amv(r:ER)(o:List Sl):RO:=match r with
 | .ok d=> .ok d o
 | .ex c=> .ex c o
 | .bad=> .bad
theorem aiu:(¬("count":Str)="words")∧(¬("sign":Str)="words")∧(¬("stands":Str)="words")∧(¬("first":Str)="words")∧(¬("sign":Str)="count")∧(¬("stands":Str)="count")∧(¬("stands":Str)="sign")∧(¬("first":Str)="count")∧(¬("first":Str)="sign")∧(¬("first":Str)="stands"):=by decide+kernel
def al4(v:Str):Prop:=v="length"∨v="show"∨v="piece"∨v="form"
def aj1(v:Str):Prop:=v="count"∨v="sign"∨v="stands"∨v="first"
theorem aeZ{v:Str}(h:al4 v):(¬v="words")∧Vc false (.str v) (.tuple [.str "parts", .str "order", .str "ring"])= .ok (.bool false):=by
 rcases h with rfl|rfl|rfl|rfl<;>exact⟨by decide+kernel,by kernel_rfl⟩
theorem acH{v:Str}(h:aj1 v):(¬v="words")∧Vc false (.str v) (.tuple [.str "parts", .str "order", .str "ring"])= .ok (.bool false):=by
 rcases h with rfl|rfl|rfl|rfl<;>exact⟨by decide+kernel,by kernel_rfl⟩
section
variable(R:List Nat→List Rule)(N:List Nat→Option Nat)(ws:List (List Nat))(a:List Nat)(ha:a∈ws)
include ha
theorem aiI{v:Str}(hv:al4 v){r:ER}(hr:qN [.str v,eY (R a),eZ (N a)]=r)(nb:r≠ .bad):∃o,pY [.vP gM [.bor (bkD R N ws)], .dat (.str v), .dat (.list [iI a])]=amv r o:=by
 obtain⟨T,hT⟩:∃T,T=bkD R N ws:=⟨_,rfl⟩
 have gt:jE T (iI a)= .ok (pairD (R a) (N a)):=by rw [hT];exact Fo _ ha
 obtain⟨RD,hRD⟩:∃RD,RD=eY (R a):=⟨_,rfl⟩
 obtain⟨ND,hND⟩:∃ND,ND=eZ (N a):=⟨_,rfl⟩
 have gt' :jE T (iI a)= .ok (.tuple [RD,ND]):=by rw [hRD,hND];exact gt
 rw [←hT]
 rw [←hRD,←hND] at hr
 obtain⟨v1,v2⟩:=aeZ hv
 obtain⟨VS,hVS⟩:∃VS,VS=cJ [iI a]:=⟨_,rfl⟩
 have v0:fV VS (.int 0)= .ok (iI a):=by rw [hVS];exact Dk _ _
 have vl:je [VS]= .ok (.int 1):=by rw [hVS];rfl
 rw [←hVS]
 have c0:za gM 0 0 [.vP gM [.bor T], .dat (.str v), .dat VS, .un, .un]= .ok T:=aeg (cs:=[.bor T]) rfl rfl
 have pre:jW [.vP gM [.bor T], .dat (.str v), .dat VS, .un, .un]=fG (rC (fu qN [(d8 1),(d8 3),(d8 4)])) (rC (fu mj [(d8 1),(d8 3),(d8 4),(eO fV (d8 2) (eC (.int 1)))])) [.vP gM [.bor T], .dat (.str v), .dat VS, .dat RD, .dat ND]:=by
  unfold jW
  rw [lG (ρ' :=[.vP gM [.bor T], .dat (.str v), .dat VS, .un, .un]) (by simp! only [v1])]
  rw [lG (ρ' :=[.vP gM [.bor T], .dat (.str v), .dat VS, .dat RD, .dat ND]) (nA (d:= .tuple [RD,ND]) (by rw [jK,c0];simp! only [v0,gt']) rfl)]
  rw [lG (ρ' :=[.vP gM [.bor T], .dat (.str v), .dat VS, .dat RD, .dat ND]) (by
   rw [vU]
   ·rfl
   ·exact v2)]
  simp! only [vl]
 have ca:fu qN [(d8 1),(d8 3),(d8 4)] [.vP gM [.bor T], .dat (.str v), .dat VS, .dat RD, .dat ND]=r:=ni rfl rfl rfl hr
 cases r with
 |bad=>exact absurd rfl nb
 |ok d=>
  obtain⟨d',ρ,e,rfl⟩:=Xm (Q:=fun d' _=>d' =d) (bs:=[false,false,false]) (n:=2) (m:=jW) (as:=[.vP gM [.bor T], .dat (.str v), .dat VS]) rfl (by
   show Rx (jW [.vP gM [.bor T], .dat (.str v), .dat VS, .un, .un]) _
   rw [pre]
   exact adn (Xj ca rfl))
  exact⟨_,e⟩
 |ex c=>
  exact⟨_,adu (bs:=[false,false,false]) (n:=2) (m:=jW) (as:=[.vP gM [.bor T], .dat (.str v), .dat VS]) rfl (by
   show jW [.vP gM [.bor T], .dat (.str v), .dat VS, .un, .un]=_
   rw [pre]
   simp only [fG,rC,ca]
   rfl)⟩
theorem aaz{v:Str}(hv:aj1 v){x:D}{r:ER}(hr:mj [.str v,eY (R a),eZ (N a),x]=r)(nb:r≠ .bad):∃o,pY [.vP gM [.bor (bkD R N ws)], .dat (.str v), .dat (.list [iI a,x])]=amv r o:=by
 obtain⟨T,hT⟩:∃T,T=bkD R N ws:=⟨_,rfl⟩
 have gt:jE T (iI a)= .ok (pairD (R a) (N a)):=by rw [hT];exact Fo _ ha
 obtain⟨RD,hRD⟩:∃RD,RD=eY (R a):=⟨_,rfl⟩
 obtain⟨ND,hND⟩:∃ND,ND=eZ (N a):=⟨_,rfl⟩
 have gt' :jE T (iI a)= .ok (.tuple [RD,ND]):=by rw [hRD,hND];exact gt
 rw [←hT]
 rw [←hRD,←hND] at hr
 obtain⟨v1,v2⟩:=acH hv
 obtain⟨VS,hVS⟩:∃VS,VS=cJ [iI a,x]:=⟨_,rfl⟩
 have v0:fV VS (.int 0)= .ok (iI a):=by rw [hVS];exact Dk _ _
 have vx:fV VS (.int 1)= .ok x:=by rw [hVS];exact LR _ _ _
 have vl:je [VS]= .ok (.int 2):=by rw [hVS];rfl
 rw [←hVS]
 have c0:za gM 0 0 [.vP gM [.bor T], .dat (.str v), .dat VS, .un, .un]= .ok T:=aeg (cs:=[.bor T]) rfl rfl
 have pre:jW [.vP gM [.bor T], .dat (.str v), .dat VS, .un, .un]=rC (fu mj [(d8 1),(d8 3),(d8 4),(eO fV (d8 2) (eC (.int 1)))]) [.vP gM [.bor T], .dat (.str v), .dat VS, .dat RD, .dat ND]:=by
  unfold jW
  rw [lG (ρ' :=[.vP gM [.bor T], .dat (.str v), .dat VS, .un, .un]) (by simp! only [v1])]
  rw [lG (ρ' :=[.vP gM [.bor T], .dat (.str v), .dat VS, .dat RD, .dat ND]) (nA (d:= .tuple [RD,ND]) (by rw [jK,c0];simp! only [v0,gt']) rfl)]
  rw [lG (ρ' :=[.vP gM [.bor T], .dat (.str v), .dat VS, .dat RD, .dat ND]) (by
   rw [vU]
   ·rfl
   ·exact v2)]
  rw [lG (ρ' :=[.vP gM [.bor T], .dat (.str v), .dat VS, .dat RD, .dat ND]) (by simp! only [vl])]
 have ca:fu mj [(d8 1),(d8 3),(d8 4),(eO fV (d8 2) (eC (.int 1)))] [.vP gM [.bor T], .dat (.str v), .dat VS, .dat RD, .dat ND]=r:=vz rfl rfl rfl (by simp! only [vx]) hr
 cases r with
 |bad=>exact absurd rfl nb
 |ok d=>
  obtain⟨d',ρ,e,rfl⟩:=Xm (Q:=fun d' _=>d' =d) (bs:=[false,false,false]) (n:=2) (m:=jW) (as:=[.vP gM [.bor T], .dat (.str v), .dat VS]) rfl (by
   show Rx (jW [.vP gM [.bor T], .dat (.str v), .dat VS, .un, .un]) _
   rw [pre]
   exact Xj ca rfl)
  exact⟨_,e⟩
 |ex c=>
  exact⟨_,adu (bs:=[false,false,false]) (n:=2) (m:=jW) (as:=[.vP gM [.bor T], .dat (.str v), .dat VS]) rfl (by
   show jW [.vP gM [.bor T], .dat (.str v), .dat VS, .un, .un]=_
   rw [pre]
   simp only [rC,ca]
   rfl)⟩
end
end Sb
namespace Sb
open PySem PySem.Spec L2 Evl DL
def U4(q:As):Str:=fY (TL.joinL [32] q.row)
theorem agI{q:As}(h:q.ok)(S:Sl):pJ [S, .dat (.str (U4 q)), .un, .un, .un, .un]=fG (qI (fu j8 [(za gM 0 0),(fu iU [(d8 4)]),(d8 5)])) YK
 [S, .dat (.str (U4 q)), .dat .none, .dat (.tuple [.str q.verb, .list (q.args.map fun z=>z.2.2)]), .dat (.str q.verb), .dat (.list (q.args.map fun z=>z.2.2))]:=by
 have ns:=ag3 h
 have ao:=aex h
 obtain⟨X,hX⟩:∃X,X=aV (U4 q):=⟨_,rfl⟩
 obtain⟨A,hA⟩:∃A,A=bL [.str q.verb, .list (q.args.map fun z=>z.2.2)]:=⟨_,rfl⟩
 have ns' :mO [X]= .ok .none:=by rw [hX];exact ns
 have ao' :yP [X]= .ok A:=by rw [hX,hA];exact ao
 have an:uG A .none= .ok (.bool false):=by rw [hA];rfl
 rw [←hX,←hA]
 unfold pJ
 rw [lG (ρ' :=[S, .dat X, .dat .none, .un, .un, .un]) (lK (j5 (x:=X) rfl ns'))]
 rw [lG (ρ' :=[S, .dat X, .dat .none, .un, .un, .un]) (by rfl)]
 rw [lG (ρ' :=[S, .dat X, .dat .none, .dat A, .un, .un]) (lK (j5 (x:=X) rfl ao'))]
 rw [lG (ρ' :=[S, .dat X, .dat .none, .dat A, .un, .un]) (by simp! only [an])]
 rw [lG (ρ' :=[S, .dat X, .dat .none, .dat A, .dat (.str q.verb), .dat (.list (q.args.map fun z=>z.2.2))]) (nA (d:=A) rfl (by rw [hA];rfl))]
 rfl
section
variable{R:List Nat→List Rule}{N:List Nat→Option Nat}{ws:List (List Nat)}{q:As}
theorem ajh(h:q.ok)(hr:∀a∈q.refs,a∈ws):pJ [zB R N ws, .dat (.str (U4 q)), .un, .un, .un, .un]=YK
 [zB R N ws, .dat (.str (U4 q)), .dat .none, .dat (.tuple [.str q.verb, .list (q.args.map fun z=>z.2.2)]), .dat (.str q.verb), .dat (.list (q.args.map fun z=>z.2.2))]:=by
 have se:=ahf (fun a=>pairD (R a) (N a)) ws q hr
 rw [agI h]
 rw [lG (XD (ni (x:=bkD R N ws) (y:= .list (q.args.map fun z=>aV z.1)) (aed (cs:=[.own (bkD R N ws)]) rfl rfl) (j5 (x:= .str q.verb) rfl (aaK q)) rfl se))]
theorem Ut(h:q.ok)(hr:∀a∈q.refs,a∈ws)(v1:¬q.verb="drop")(v2:¬q.verb="swap"){d:D}{o:List Sl}(ha:pY [.vP gM [.bor (bkD R N ws)], .dat (.str q.verb), .dat (.list (q.args.map fun z=>z.2.2))]= .ok d o):
 jN [zB R N ws, .dat (.str (U4 q))]= .ok d [zB R N ws, .un]:=by
 obtain⟨r,ρ,e,rfl,rfl⟩:=Xm (bs:=[true,false]) (n:=4) (m:=pJ) (as:=[zB R N ws, .dat (.str (U4 q))]) (Q:=fun r ρ=>r=d∧ρ=[zB R N ws, .dat (.str (U4 q)), .dat .none, .dat (.tuple [.str q.verb, .list (q.args.map fun z=>z.2.2)]), .dat (.str q.verb), .dat (.list (q.args.map fun z=>z.2.2))]) rfl (by
  show Rx (pJ [zB R N ws, .dat (.str (U4 q)), .un, .un, .un, .un]) _
  rw [ajh h hr]
  unfold YK
  refine Xf (ρ' :=[zB R N ws, .dat (.str (U4 q)), .dat .none, .dat (.tuple [.str q.verb, .list (q.args.map fun z=>z.2.2)]), .dat (.str q.verb), .dat (.list (q.args.map fun z=>z.2.2))]) (by simp! only [v1]) ?_
  refine Xf (ρ' :=[zB R N ws, .dat (.str (U4 q)), .dat .none, .dat (.tuple [.str q.verb, .list (q.args.map fun z=>z.2.2)]), .dat (.str q.verb), .dat (.list (q.args.map fun z=>z.2.2))]) (by simp! only [v2]) ?_
  exact Xj (ajf (nk:=gM) (i:=0) (as:=[.d (d8 4), .d (d8 5)]) (ρ:=[zB R N ws, .dat (.str (U4 q)), .dat .none, .dat (.tuple [.str q.verb, .list (q.args.map fun z=>z.2.2)]), .dat (.str q.verb), .dat (.list (q.args.map fun z=>z.2.2))]) rfl rfl ha) ⟨rfl,rfl⟩)
 exact e
end
end Sb
namespace Sb
open PySem PySem.Spec L2 Evl DL
abbrev vX:Str:="signs"
theorem alc:¬(jR=vX):=by decide+kernel
theorem alb:¬(jQ=vX):=by decide+kernel
theorem afk:¬(iK=vX):=by decide+kernel
theorem amR:¬(vX=jR):=by decide+kernel
theorem Wf:(¬jR=vX)∧(¬jQ=vX)∧(¬iK=vX)∧(¬vX=jR):=⟨alc,alb,afk,amR⟩
def Dd.kD:Dd Nat→D
 | .is w=> .tuple [.str vX, .str (fY w)]
 | .turn a=> .tuple [.str jR, .int (a:Int)]
 | .join a b=> .tuple [.str jQ, .int (a:Int), .int (b:Int)]
 | .insert a p b=> .tuple [.str iK, .int (a:Int), .int (b:Int), .int (p:Int)]
 |_=> .none
def Dd.kn:Dd Nat→Prop
 | .is w=>w.length≤4
 | .turn _=>True
 | .join _ _=>True
 | .insert _ _ _=>True
 |_=>False
def jr(ns:List (Dd Nat)):D:= .list (ns.map Dd.kD)
theorem JM{ns:List (Dd Nat)}{i:Nat}{d:Dd Nat}(h:ns[i]? =some d):fV (jr ns) (.int (i:Int))= .ok d.kD:=by
 have hi:=(au.mp h).1
 unfold jr
 rw [pH (by omega) (by simp;omega),cY,bF,aK,h]
 rfl
theorem alp(d:Dd Nat)(hd:(∃a b,d= .join a b)∨∃a p b,d= .insert a p b)(sz:List Nat)(t:Nat→List Nat)(hs:∀a∈d.refs,a<sz.length∧sz.getD a 0=(t a).length)(ok:d.ok t)(q:Nat)(hq:q<(d.tx t).length):
 ∃a∈d.refs,∃q',q' <(t a).length∧(t a).getD q' 0=(d.tx t).getD q 0∧nM [d.kD,fB sz, .int (q:Int)]= .ok (.tuple [.int (a:Int), .int (q' :Int)]):=by
 rcases hd with⟨a,b,rfl⟩|⟨a,p,b,rfl⟩
 ·obtain⟨a1,a2⟩:=hs a (by simp [Dd.refs])
  obtain⟨b1,b2⟩:=hs b (by simp [Dd.refs])
  have ia:=gY a1
  have ib:=gY b1
  rw [a2] at ia
  rw [b2] at ib
  simp only [Dd.tx,aA] at hq
  obtain⟨x,hx⟩:∃x,x=(t a).length:=⟨_,rfl⟩
  obtain⟨y,hy⟩:∃y,y=(t b).length:=⟨_,rfl⟩
  rw [←hx] at ia hq
  rw [←hy] at ib hq
  by_cases h:q<x
  ·refine⟨a,by simp [Dd.refs],q,by omega,by simp only [Dd.tx];rw [FW (by omega)],?_⟩
   simp! only [nM,tG,Dd.kD,gG,gR,lH,ia,ib,v_all,show(q:Int)<(x:Int) by omega]
  ·refine⟨b,by simp [Dd.refs],q-x,by omega,by simp only [Dd.tx];rw [Fq (by omega),←hx],?_⟩
   have e1:(q:Int)-(x:Int)=((q-x:Nat):Int):=by omega
   simp! only [nM,tG,Dd.kD,gG,gR,lH,ia,ib,v_all,show¬(q:Int)<(x:Int) by omega,show(q:Int)<(x:Int)+(y:Int) by omega,e1]
 ·obtain⟨a1,a2⟩:=hs a (by simp [Dd.refs])
  obtain⟨b1,b2⟩:=hs b (by simp [Dd.refs])
  have ia:=gY a1
  have ib:=gY b1
  rw [a2] at ia
  rw [b2] at ib
  have hp:=ok.1
  simp only [Dd.tx,aA,aZ,List.length_drop] at hq
  have ig:=ins_get (A:=t a) (B:=t b) (p:=p) (q:=q) hp
  obtain⟨x,hx⟩:∃x,x=(t a).length:=⟨_,rfl⟩
  obtain⟨y,hy⟩:∃y,y=(t b).length:=⟨_,rfl⟩
  rw [←hx] at ia hq hp
  rw [←hy] at ib hq ig
  by_cases h:q<p
  ·refine⟨a,by simp [Dd.refs],q,by omega,by simp only [Dd.tx];rw [ig,if_neg (by omega),if_neg (by omega)],?_⟩
   simp! only [nM,tG,Dd.kD,gG,gR,lH,abL,ia,ib,v_all,show(q:Int)<(p:Int) by omega]
  ·by_cases h2:q<p+y
   ·refine⟨b,by simp [Dd.refs],q-p,by omega,by simp only [Dd.tx];rw [ig,if_neg (by omega),if_pos (by omega)],?_⟩
    have e1:(q:Int)-(p:Int)=((q-p:Nat):Int):=by omega
    simp! only [nM,tG,Dd.kD,gG,gR,lH,abL,ia,ib,v_all,show¬(q:Int)<(p:Int) by omega,show(q:Int)<(p:Int)+(y:Int) by omega,e1]
   ·refine⟨a,by simp [Dd.refs],q-y,by omega,by simp only [Dd.tx];rw [ig,if_pos (by omega)],?_⟩
    have e1:(q:Int)-(y:Int)=((q-y:Nat):Int):=by omega
    simp! only [nM,tG,Dd.kD,gG,gR,lH,abL,ia,ib,v_all,show¬(q:Int)<(p:Int) by omega,show¬(q:Int)<(p:Int)+(y:Int) by omega,e1]
theorem ac3(ns:List (Dd Nat))(g:NG ns)(kn:∀(i:Nat) d,ns[i]? =some d→d.kn)(hl:ns.length≤1000)(k:Nat)(hk:k<ns.length)(p:Nat)(hp:p<((rF ns).getD k []).length):o8 [jr ns,fB (zG ns), .int (k:Int), .int (p:Int)]= .ok (.str (s1 (((rF ns).getD k []).getD p 0))):=by
 obtain⟨T,hT⟩:∃T,T=jr ns:=⟨_,rfl⟩
 obtain⟨S,hS⟩:∃S,S=fB (zG ns):=⟨_,rfl⟩
 obtain⟨c,hc⟩:∃c,c=((rF ns).getD k []).getD p 0:=⟨_,rfl⟩
 have ix:∀(a:Nat) t,ns[a]? =some t→fV T (.int (a:Int))= .ok t.kD:=fun a t h=>by rw [hT];exact JM h
 have sz:∀a:Nat,a<ns.length→fV S (.int (a:Int))= .ok (.int ((((rF ns).getD a []).length:Nat):Int)):=fun a h=>by
  rw [hS,gY (by rw [Ba];exact h),GF]
 rw [←hT,←hS,←hc]
 refine jD ?_
 show Rt (xG [.dat T, .dat S, .dat (.int (k:Int)), .dat (.int (p:Int)), .un]) _
 unfold xG
 refine mZ (N:=fun ρ=>∃(n q:Nat) (w:List Nat) (k4:Sl),ρ=[.dat T, .dat S, .dat (.int (n:Int)), .dat (.int (q:Int)),k4]∧ns[n]? =some (.is w)∧q<w.length∧w.length≤40∧w.getD q 0=c) (pO (fun n ρ=>∃(q:Nat) (k4:Sl),ρ=[.dat T, .dat S, .dat (.int (n:Int)), .dat (.int (q:Int)),k4]∧n<ns.length∧q<((rF ns).getD n []).length∧((rF ns).getD n []).getD q 0=c) k (by omega) ⟨p,_,rfl,hk,hp,hc.symm⟩ ?_) ?_
 ·rintro n ρ ⟨q,k4,rfl,hn,hq,ha⟩
  obtain⟨t,et⟩:∃t,t=ns[n]:=⟨_,rfl⟩
  have ht:ns[n]? =some t:=by rw [et];simp [hn]
  have ixn:=ix n t ht
  have ok:=g.ok n t ht
  have tx:=g.tx n t ht
  have lt:=g.lt n t ht
  have szn:=sz n hn
  have kk:=kn n t ht
  rw [tx] at hq ha szn
  have hs:∀a∈t.refs,a<(zG ns).length∧(zG ns).getD a 0=((rF ns).getD a []).length:=fun a h=>⟨by rw [Ba];have:=lt a h;omega,GF ns a⟩
  have two:(∃a b,t= .join a b)∨(∃a p b,t= .insert a p b)→¬t.kD= .none→xX (match t with| .join _ _=>aV jQ|_=> .str iK) (.str "signs")= .ok (.bool true)→(eO xX (eO fV (eO fV (d8 0) (d8 2)) (eC (.int 0))) (eC (.str "signs"))) [.dat T, .dat S, .dat (.int (n:Int)), .dat (.int (q:Int)),k4]= .ok (.bool true)→(eO kZ (eO fV (d8 4) (eC (.int 0))) (eC (.str "turn"))) [.dat T, .dat S, .dat (.int (n:Int)), .dat (.int (q:Int)), .dat t.kD]= .ok (.bool false)→(eO xX (eO fV (eO fV (d8 0) (d8 2)) (eC (.int 0))) (eC (.str "signs"))) [.dat T, .dat S, .dat (.int (n:Int)), .dat (.int (q:Int)),k4]= .ok (.bool true)∧∃n',n' <n∧Nx ((fG (gH 4 (eO fV (d8 0) (d8 2)))
 (iQ (eO kZ (eO fV (d8 4) (eC (.int 0))) (eC (.str "turn"))) (fG (gH 3 (eO nj (eO nj (eO fV (d8 1) (d8 2)) (eC (.int 1))) (d8 3)))
 (gH 2 (eO fV (d8 4) (eC (.int 1))))) (lA (gT [(gN 2),(gN 3)]) (fu nM [(d8 4),(d8 1),(d8 3)])))) [.dat T, .dat S, .dat (.int (n:Int)), .dat (.int (q:Int)),k4]) (fun ρ=>∃(q:Nat) (k4:Sl),ρ=[.dat T, .dat S, .dat (.int (n' :Int)), .dat (.int (q:Int)),k4]∧n' <ns.length∧q<((rF ns).getD n' []).length∧((rF ns).getD n' []).getD q 0=c):=fun hd _ _ hc1 hc2=>by
   obtain⟨a,har,q',hq',hg,hb⟩:=alp t hd (zG ns) (fun a=>(rF ns).getD a []) hs ok q hq
   have an:=lt a har
   rw [←hS] at hb
   rw [←hg] at ha
   refine⟨hc1,a,an,?_⟩
   refine iD (ρ' :=[.dat T, .dat S, .dat (.int (n:Int)), .dat (.int (q:Int)), .dat t.kD]) (by simp! only [ixn]) ?_
   refine IK hc2 ?_
   have ec:fu nM [(d8 4),(d8 1),(d8 3)] [.dat T, .dat S, .dat (.int (n:Int)), .dat (.int (q:Int)), .dat t.kD]= .ok (.tuple [.int (a:Int), .int (q' :Int)]):=ni rfl rfl rfl hb
   refine jT (ρ' :=[.dat T, .dat S, .dat (.int (a:Int)), .dat (.int (q' :Int)), .dat t.kD]) (by simp only [lA,ec];rfl) ⟨q',_,rfl,by omega,hq',ha⟩
  cases t with
  |is w=>
   left
   exact⟨by simp! only [ixn,Dd.kD,gG],n,q,w,_,rfl,ht,hq,ok.2.1,ha⟩
  |turn a=>
   right
   have an:=lt a (by simp [Dd.refs])
   simp only [Dd.tx,bR] at hq ha szn
   have e1:((((rF ns).getD a []).length:Nat):Int)-1-(q:Int)=((((rF ns).getD a []).length-1-q:Nat):Int):=by omega
   refine⟨by simp! only [ixn,Dd.kD,gG,Wf],a,an,?_⟩
   refine iD (ρ' :=[.dat T, .dat S, .dat (.int (n:Int)), .dat (.int (q:Int)), .dat (Dd.kD (.turn a))]) (by simp! only [ixn]) ?_
   refine Vk (by simp! only [Dd.kD,gG]) ?_
   refine iD (ρ' :=[.dat T, .dat S, .dat (.int (n:Int)), .dat (.int ((((rF ns).getD a []).length-1-q:Nat):Int)), .dat (Dd.kD (.turn a))]) (by simp! only [szn,e1]) ?_
   refine jT (ρ' :=[.dat T, .dat S, .dat (.int (a:Int)), .dat (.int ((((rF ns).getD a []).length-1-q:Nat):Int)), .dat (Dd.kD (.turn a))]) (by simp! only [Dd.kD,gR]) ⟨_,_,rfl,by omega,by omega,?_⟩
   rw [←ha,aiV _ _ hq]
  |join a b=>
   right
   exact two (.inl ⟨a,b,rfl⟩) (fun z=>by cases z) (by kernel_rfl) (by simp! only [ixn,Dd.kD,gG,Wf]) (by simp! only [Dd.kD,gG,v_all])
  |insert a x b=>
   right
   exact two (.inr ⟨a,x,b,rfl⟩) (fun z=>by cases z) (by kernel_rfl) (by simp! only [ixn,Dd.kD,gG,Wf]) (by simp! only [Dd.kD,gG,v_all])
  |times a m=>exact absurd kk id
  |cut a s e=>exact absurd kk id
  |put a s e=>exact absurd kk id
  |remove a s e=>exact absurd kk id
 ·rintro ρ ⟨n,q,w,k4,rfl,hx,hq,hw,ha⟩
  have ixn:=ix n _ hx
  have iw:=agS hq (by omega)
  rw [ha] at iw
  exact jB (d:= .str (s1 c)) (by simp! only [ixn,Dd.kD,gR,iw]) rfl
def ncs(ns:List (Dd Nat))(c:Nat):List Nat:=(rF ns).map (List.count c)
theorem adY(ns:List (Dd Nat))(c:Nat):(ncs ns c).length=ns.length:=by simp [ncs,GZ]
theorem ada(ns:List (Dd Nat))(c i:Nat):(ncs ns c).getD i 0=((rF ns).getD i []).count c:=by
 simp only [ncs,bF,aK]
 cases(rF ns)[i]? <;>rfl
theorem acZ(c:Nat):∀l:List Nat,PyProof.Rows.cnt c l=((l.count c:Nat):Int)
 |[]=>rfl
 |n::l=>by
  rw [PyProof.Rows.cnt_cons,acZ c l,List.count_cons]
  by_cases h:n=c
  ·simp [h]
   omega
  ·have:(n==c)=false:=by simpa using h
   simp [h,this]
theorem aiY(w:List Nat)(c:Nat):Txt.count (fY w) (s1 c)=((w.count c:Nat):Int):=by
 rw [show Txt.count (fY w) (s1 c)=PyProof.Rows.cnt c (fY w).cps.toList from PyProof.Rows.count_cnt _ _,acZ]
theorem aes(ns:List (Dd Nat))(g:NG ns)(kn:∀(i:Nat) d,ns[i]? =some d→d.kn)(hl:ns.length≤1000)(c:Nat):zp [jr ns, .str (s1 c)]= .ok (fB (ncs ns c)):=by
 obtain⟨T,hT⟩:∃T,T=jr ns:=⟨_,rfl⟩
 obtain⟨C,hC⟩:∃C,C=aV (s1 c):=⟨_,rfl⟩
 rw [←hT,←hC]
 have gl:∀i,i<ns.length→(ncs ns c).getD i 0=((rF ns).getD i []).count c:=fun i _=>ada ns c i
 obtain⟨L,hL⟩:∃L,L=ncs ns c:=⟨_,rfl⟩
 have Ll:L.length=ns.length:=by rw [hL,adY]
 rw [←hL] at gl⊢
 refine jD ?_
 show Rt (zq [.dat T, .dat C, .un, .un]) _
 unfold zq
 refine fP (ρ' :=[.dat T, .dat C, .own (fB (L.take 0)), .un]) (by simp! only [];rfl) ?_
 refine mZ (N:=fun ρ=>∃k3:Sl,ρ=[.dat T, .dat C, .own (fB L),k3]) ?_ ?_
 ·have h:=nY (mi:=iL (d8 0)) (g:=gN 3) (body:=(iQ (eO kZ (eO fV (d8 3) (eC (.int 0))) (eC (.str "signs"))) (mW 2 (WY (fun z y=> .int (Txt.count z y)) (eO fV (d8 3) (eC (.int 1))) (d8 1))) (iQ (eO kZ (eO fV (d8 3) (eC (.int 0))) (eC (.str "turn"))) (mW 2 (eO fV (gK 2) (eO fV (d8 3) (eC (.int 1))))) (mW 2 (eO iH (eO fV (gK 2) (eO fV (d8 3) (eC (.int 1)))) (eO fV (gK 2) (eO fV (d8 3) (eC (.int 2)))))))))
   (ρ:=[.dat T, .dat C, .own (fB (L.take 0)), .un]) (ds:=ns.map Dd.kD)
   (fun i ρ=>∃k3:Sl,ρ=[.dat T, .dat C, .own (fB (L.take i)),k3])
   (Nf (by rw [hT];rfl)) ⟨_,rfl⟩ (by
    rintro i d ρ hd ⟨k3,rfl⟩
    rw [aK,aP] at hd
    obtain⟨t,ht,rfl⟩:=hd
    have hi:=(au.mp ht).1
    have lt:=g.lt i t ht
    have tx:=g.tx i t ht
    have kk:=kn i t ht
    have et:L.take (i+1)=L.take i++[L.getD i 0]:=by
     rw [bH,bF,aU (by omega)]
     rfl
    have tl:(L.take i).length=i:=by rw [aZ];omega
    have gi:∀a,a<i→(L.take i).getD a 0=((rF ns).getD a []).count c:=fun a ha=>by
     rw [←gl a (by omega)]
     simp only [bF,List.getElem?_take,ha,if_true]
    refine⟨_,pP,?_⟩
    simp only [set_0,kW]
    have fin:∀m:EM,m [.dat T, .dat C, .own (fB (L.take i)), .dat t.kD]= .ok (.int ((L.getD i 0:Nat):Int))→Nx (mW 2 m [.dat T, .dat C, .own (fB (L.take i)), .dat t.kD]) (fun ρ=>∃k3:Sl,ρ=[.dat T, .dat C, .own (fB (L.take (i+1))),k3]):=fun m hm=>by
     refine jT (ρ' :=[.dat T, .dat C, .own (fB (L.take (i+1))), .dat t.kD]) ?_ ⟨_,rfl⟩
     rw [app_ok (ds:=(L.take i).map fun(n:Nat)=>aF (n:Int)) (d:= .int ((L.getD i 0:Nat):Int)) rfl hm (by rw [aC,tl];exact lM (by omega)),et]
     simp only [fB,cC,bA,cZ,set_0,kW]
    cases t with
    |is w=>
     refine Vk (by simp! only [Dd.kD,gG]) (fin _ ?_)
     rw [gl i hi,tx]
     simp! only [WY,Dd.kD,gR,hC,aiY,Dd.tx]
    |turn a=>
     have an:=lt a (by simp [Dd.refs])
     have ia:=gY (ns:=L.take i) (a:=a) (by omega)
     rw [gi a an] at ia
     refine IK (by simp! only [Dd.kD,gG,Wf]) (Vk (by simp! only [Dd.kD,gG]) (fin _ ?_))
     rw [gl i hi,tx]
     simp! only [Dd.kD,gR,ia,Dd.tx,List.count_reverse]
    |join a b=>
     have an:=lt a (by simp [Dd.refs])
     have bn:=lt b (by simp [Dd.refs])
     have ia:=gY (ns:=L.take i) (a:=a) (by omega)
     have ib:=gY (ns:=L.take i) (a:=b) (by omega)
     rw [gi a an] at ia
     rw [gi b bn] at ib
     refine IK (by simp! only [Dd.kD,gG,Wf]) (IK (by simp! only [Dd.kD,gG,v_all]) (fin _ ?_))
     rw [gl i hi,tx]
     simp! only [Dd.kD,gR,lH,ia,ib,Dd.tx,List.count_append]
     rfl
    |insert a p b=>
     have an:=lt a (by simp [Dd.refs])
     have bn:=lt b (by simp [Dd.refs])
     have ia:=gY (ns:=L.take i) (a:=a) (by omega)
     have ib:=gY (ns:=L.take i) (a:=b) (by omega)
     rw [gi a an] at ia
     rw [gi b bn] at ib
     refine IK (by simp! only [Dd.kD,gG,Wf]) (IK (by simp! only [Dd.kD,gG,v_all]) (fin _ ?_))
     have e2:(((rF ns).getD a []).take p++(rF ns).getD b []++((rF ns).getD a []).drop p).count c=((rF ns).getD a []).count c+((rF ns).getD b []).count c:=by
      have e3:((rF ns).getD a []).count c=(((rF ns).getD a []).take p++((rF ns).getD a []).drop p).count c:=by rw [bM]
      rw [e3]
      simp only [List.count_append]
      omega
     rw [gl i hi,tx]
     simp! only [Dd.kD,gR,lH,ia,ib,Dd.tx,e2]
     rfl
    |times a m=>exact absurd kk id
    |cut a s e=>exact absurd kk id
    |put a s e=>exact absurd kk id
    |remove a s e=>exact absurd kk id)
  rw [aC] at h
  have e:L.take ns.length=L:=bO (by omega)
  rw [e] at h
  exact h
 ·rintro ρ ⟨k3,rfl⟩
  exact adR rfl rfl
end Sb
namespace Sb
open PySem PySem.Spec L2 Evl DL
structure StK(es:List St):Prop where
 rf:∀(i:Nat) e,es[i]? =some e→∀a∈e.2.refs,a∈lZ (es.take i)
 ok:∀(i:Nat) e,es[i]? =some e→e.2.ok (xj (es.take i))
 rw_:∀(i:Nat) e,es[i]? =some e→xP e.1 e.2
 kd:∀(i:Nat) e,es[i]? =some e→e.2.kd (xj (es.take i))
theorem StK.nil:StK []:=⟨fun i e h=>by simp at h,fun i e h=>by simp at h,fun i e h=>by simp at h,fun i e h=>by simp at h⟩
theorem StK.snoc{es:List St}(h:StK es){e:St}(h1:∀a∈e.2.refs,a∈lZ es)(h2:e.2.ok (xj es))(h3:xP e.1 e.2)(h4:e.2.kd (xj es)):StK (es++[e]):=by
 have at_:∀(i:Nat) x,(es++[e])[i]? =some x→(es[i]? =some x∧(es++[e]).take i=es.take i)∨(x=e∧(es++[e]).take i=es):=fun i x hx=>by
  have hi:=(au.mp hx).1
  rw [aA,bQ] at hi
  by_cases z:i<es.length
  ·rw [aO z] at hx
   exact .inl ⟨hx,cM (by omega)⟩
  ·have e1:i=es.length:=by omega
   subst e1
   rw [bD (bJ _)] at hx
   simp only [Nat.sub_self,aQ,Option.some.injEq] at hx
   exact .inr ⟨hx.symm,by simp⟩
 refine⟨fun i x hx=> ?_,fun i x hx=> ?_,fun i x hx=> ?_,fun i x hx=> ?_⟩<;>rcases at_ i x hx with⟨a,b⟩|⟨rfl,b⟩
 ·rw [b];exact h.rf i x a
 ·rw [b];exact h1
 ·rw [b];exact h.ok i x a
 ·rw [b];exact h2
 ·exact h.rw_ i x a
 ·exact h3
 ·rw [b];exact h.kd i x a
 ·rw [b];exact h4
theorem ZG(c:Int)(h0:0≤c)(h1:c<10 ^ 90):∃w:List Nat,1≤w.length∧w.length≤4∧(∀x∈w,x∈Lz)∧qR [.int c]= .ok (.str (fY w)):=by
 obtain⟨n,hn⟩:∃n:Nat,(n:Int)=c%4:=⟨(c%4).toNat,by omega⟩
 have n4:n<4:=by omega
 have m4:jJ (.int c) (.int 4)= .ok (.int (n:Int)):=by rw [jo (by omega),hn]
 have run:Rt (wz [.dat (.int c), .un, .un]) (fun d=>∃w:List Nat,1≤w.length∧w.length≤4∧(∀x∈w,x∈Lz)∧d= .str (fY w)):=by
  unfold wz
  refine fP (ρ' :=[.dat (.int c), .dat (.str (fY [])), .un]) (by simp! only [];rfl) ?_
  refine mZ (N:=fun ρ=>∃(w:List Nat) (k:Sl),ρ=[.dat (.int c), .dat (.str (fY w)),k]∧w.length=n+1∧∀x∈w,x∈Lz) ?_ ?_
  ·have h:=nY (mi:=Vh (eO iH (eC (.int 1)) (eO jJ (d8 0) (eC (.int 4))))) (g:=gN 2) (body:=(gH 1 (eO iH (d8 1) (fu nU [(eO lX (d8 0) (eO fV (lC [(eC (.int 4)),(eC (.int 248)),(eC (.int 15376)),(eC (.int 953312))]) (d8 2)))]))))
    (ρ:=[.dat (.int c), .dat (.str (fY [])), .un]) (ds:=(di (n+1)).map fun(i:Nat)=>aF (i:Int))
    (fun i ρ=>∃(w:List Nat) (k:Sl),ρ=[.dat (.int c), .dat (.str (fY w)),k]∧w.length=i∧∀x∈w,x∈Lz)
    (by rw [←Dy];exact aae (by simp! only [m4];congr 2;omega) (by omega) (by omega)) ⟨[],_,rfl,rfl,fun x hx=>by cases hx⟩ (by
     rintro i d ρ hd ⟨w,k,rfl,wl,hw⟩
     rw [aK,aP] at hd
     obtain⟨j,hj,rfl⟩:=hd
     have hi:=(au.mp hj).1
     rw [dJ] at hi
     rw [List.getElem?_range hi] at hj
     cases hj
     obtain⟨m,m1,m2,hm⟩:∃m:Int,0<m∧m<10 ^ 9∧fV (.list [.int 4, .int 248, .int 15376, .int 953312]) (.int (i:Int))= .ok (.int m):=by
      match i,(show i<4 by omega) with
      |0,_=>exact⟨4,by decide,by decide,rfl⟩
      |1,_=>exact⟨248,by decide,by decide,rfl⟩
      |2,_=>exact⟨15376,by decide,by decide,rfl⟩
      |3,_=>exact⟨953312,by decide,by decide,rfl⟩
     have dv:lX (.int c) (.int m)= .ok (.int (c/m)):=o9 (by omega) (by omega)
     obtain⟨s,hs,es⟩:=RM (c/m)
     refine⟨_,pP,?_⟩
     simp only [set_0,kW]
     have ad:=xU (a:=w) (b:=[s]) (by simp;omega)
     have ad' :iH (.str (fY w)) (.str (s1 s))= .ok (.str (fY (w++[s]))):=ad
     have ll:lC [(eC (.int 4)),(eC (.int 248)),(eC (.int 15376)),(eC (.int 953312))] [.dat (.int c), .dat (.str (fY w)), .dat (.int (i:Int))]= .ok (.list [.int 4, .int 248, .int 15376, .int 953312]):=rfl
     have ca:fu nU [(eO lX (d8 0) (eO fV (lC [(eC (.int 4)),(eC (.int 248)),(eC (.int 15376)),(eC (.int 953312))]) (d8 2)))] [.dat (.int c), .dat (.str (fY w)), .dat (.int (i:Int))]= .ok (.str (s1 s)):=j5 (x:= .int (c/m)) (by
      rw [jK,jK,ll]
      simp only [jM,jZ,iy,hm,dv]) es
     refine jT (ρ' :=[.dat (.int c), .dat (.str (fY (w++[s]))), .dat (.int (i:Int))]) (lK (by rw [jK,ca];simp only [jM,jZ,iy,ad'])) ⟨w++[s],_,rfl,by simp [wl],fun x hx=> ?_⟩
     rcases aM.mp hx with h|h
     ·exact hw x h
     ·have:x=s:=by simpa using h
      rw [this]
      exact hs)
   rw [aC,dJ] at h
   exact h
  ·rintro ρ ⟨w,k,rfl,wl,hw⟩
   exact jB rfl ⟨w,by omega,by omega,hw,rfl⟩
 obtain⟨d,e,w,a,b,c',rfl⟩:=Gh (ks:=[.dat]) (n:=2) (m:=wz) (ds:=[.int c]) run
 exact⟨w,a,b,c',e⟩
abbrev Ii(ix:List Nat→Nat)(ws:List (List Nat)):D:= .dict (uH (fun a=> .int ((ix a:Nat):Int)) ws)
theorem ah7:(" turn ":Str)=fY [32,116,117,114,110,32]:=by decide+kernel
theorem aix:(" join ":Str)=fY [32,106,111,105,110,32]:=by decide+kernel
theorem agP:(" times ":Str)=fY [32,116,105,109,101,115,32]:=by decide+kernel
theorem amX:(" 2":Str)=fY [32,50]:=by decide+kernel
theorem aeB:(" insert ":Str)=fY [32,105,110,115,101,114,116,32]:=by decide+kernel
theorem sp_:(" ":Str)=fY [32]:=by decide+kernel
theorem ai3:jR.cps.toList=[116,117,114,110]:=by decide+kernel
theorem ajo:jQ.cps.toList=[106,111,105,110]:=by decide+kernel
theorem aho:jH.cps.toList=[116,105,109,101,115]:=by decide+kernel
theorem ael:iK.cps.toList=[105,110,115,101,114,116]:=by decide+kernel
theorem alX:tL.cps.toList=[105,115]:=by decide+kernel
theorem agl(w:List Nat):w++[32,116,117,114,110,32]++w=rowOf (w, .turn w):=by simp [rowOf,Dd.row,Dd.args,Dd.verb,TL.joinL,ai3]
theorem aaV(w a b:List Nat):w++[32,106,111,105,110,32]++a++[32]++b=rowOf (w, .join a b):=by simp [rowOf,Dd.row,Dd.args,Dd.verb,TL.joinL,ajo]
theorem ae'(w:List Nat):w++[32,116,105,109,101,115,32]++w++[32,50]=rowOf (w, .times w 2):=by
 have:TL.numL 2=[50]:=by decide+kernel
 simp [rowOf,Dd.row,Dd.args,Dd.verb,TL.joinL,aho,this]
theorem acE(w o:List Nat)(p:Nat):w++[32,105,110,115,101,114,116,32]++w++[32]++TL.numL p++[32]++o=rowOf (w, .insert w p o):=by simp [rowOf,Dd.row,Dd.args,Dd.verb,TL.joinL,ael]
theorem ahg(c:Int)(h0:0≤c)(h1:c<10 ^ 40){ws:List (List Nat)}{w o:List Nat}(hw:w∈ws)(ho:o∈ws)(hws:∀a∈ws,BR a)(ns:List (Dd Nat))(g:NG ns)(ix:List Nat→Nat)(T:List Nat→List Nat)(hix:∀a∈ws,ix a<ns.length∧(rF ns).getD (ix a) []=T a)(B:Nat)(hB:2*B≤2 ^ 52)(hT:∀a∈ws,1≤(T a).length∧(T a).length≤B):
 ∃(d:Dd (List Nat)) (e:Dd Nat),vp [.int c,iI w,iI o,Ii ix ws,fB (zG ns)]= .ok (.tuple [.str (fY (rowOf (w,d))),e.kD, .int (((d.tx T).length:Nat):Int)])∧(∀a∈d.refs,a∈ws)∧d.kd T∧d.ok T∧xP w d∧e.kn∧(∀a∈e.refs,a<ns.length)∧(e.ok fun a=>(rF ns).getD a [])∧d.tx T=(e.tx fun a=>(rF ns).getD a [])∧1≤(d.tx T).length∧(d.tx T).length≤2*B:=by
 have big:MOST=2 ^ 60:=by decide
 have gw:=Fo (fun a=>aF ((ix a:Nat):Int)) hw
 have go:=Fo (fun a=>aF ((ix a:Nat):Int)) ho
 obtain⟨NM,hNM⟩:∃NM,NM=Ii ix ws:=⟨_,rfl⟩
 have gw' :jE NM (iI w)= .ok (.int ((ix w:Nat):Int)):=by rw [hNM];exact gw
 have go' :jE NM (iI o)= .ok (.int ((ix o:Nat):Int)):=by rw [hNM];exact go
 obtain⟨iw,tw⟩:=hix w hw
 obtain⟨io,to⟩:=hix o ho
 obtain⟨bw1,bw2⟩:=hT w hw
 obtain⟨bo1,bo2⟩:=hT o ho
 have xw:=gY (ns:=zG ns) (a:=ix w) (by rw [Ba];exact iw)
 have xo:=gY (ns:=zG ns) (a:=ix o) (by rw [Ba];exact io)
 rw [GF,tw] at xw
 rw [GF,to] at xo
 obtain⟨S,hS⟩:∃S,S=fB (zG ns):=⟨_,rfl⟩
 obtain⟨y,hy⟩:∃y,y=(T w).length:=⟨_,rfl⟩
 obtain⟨z,hz⟩:∃z,z=(T o).length:=⟨_,rfl⟩
 rw [←hS,←hy] at xw
 rw [←hS,←hz] at xo
 rw [←hy] at bw1 bw2
 rw [←hz] at bo1 bo2
 have wW:=hws w hw
 have wO:=hws o ho
 have wl:=wW.2.1
 have ol:=wO.2.1
 have wdl:∀a b:List Nat,a.length+b.length≤1000→iH (.str (fY a)) (.str (fY b))= .ok (.str (fY (a++b))):=fun a b h=>xU (by omega)
 have m8:jJ (.int c) (.int 8)= .ok (.int (c%8)):=jo (by omega)
 have v64:lX (.int c) (.int 64)= .ok (.int (c/64)):=o9 (by omega) (by omega)
 have v8:lX (.int c) (.int 8)= .ok (.int (c/8)):=o9 (by omega) (by omega)
 have m2:∀x:Int,jJ (.int x) (.int 2)= .ok (.int (x%2)):=fun x=>jo (by omega)
 have ro:∀d:Dd (List Nat),(∀a∈d.refs,a∈ws)→d.ok T→xP w d:=fun d hr ok=>Yi w wW d (fun a ha=>hws a (hr a ha)) T ok (fun a ha=>by have:=(hT a (hr a ha)).2;omega)
 have nw:=numL_len
 rw [←hNM,←hS]
 obtain⟨m,hm⟩:∃m,m=c%8:=⟨_,rfl⟩
 have mb:0≤m∧m<8:=by omega
 rw [←hm] at m8
 have sum:((y:Nat):Int)+((z:Nat):Int)=((y+z:Nat):Int):=by omega
 have fin:∀(r:D) (P:D→Prop),Rt (yj [.dat (.int c), .dat (iI w), .dat (iI o), .bor NM, .bor S, .un, .un, .un, .un]) P→∃d,vp [.int c,iI w,iI o,NM,S]= .ok d∧P d:=fun r P h=>Gh (ks:=[.dat, .dat, .dat, .bor, .bor]) (n:=4) (m:=yj) (ds:=[.int c,iI w,iI o,NM,S]) h
 obtain⟨D_,e1,d,e,rfl,e2⟩:=fin .none (fun r=>∃(d:Dd (List Nat)) (e:Dd Nat),r= .tuple [.str (fY (rowOf (w,d))),e.kD, .int (((d.tx T).length:Nat):Int)]∧((∀a∈d.refs,a∈ws)∧d.kd T∧d.ok T∧xP w d∧e.kn∧(∀a∈e.refs,a<ns.length)∧(e.ok fun a=>(rF ns).getD a [])∧d.tx T=(e.tx fun a=>(rF ns).getD a [])∧1≤(d.tx T).length∧(d.tx T).length≤2*B)) (by
  unfold yj
  refine fP (ρ' :=[.dat (.int c), .dat (iI w), .dat (iI o), .bor NM, .bor S, .dat (.int ((ix w:Nat):Int)), .un, .un, .un]) (by simp! only [gw']) ?_
  refine fP (ρ' :=[.dat (.int c), .dat (iI w), .dat (iI o), .bor NM, .bor S, .dat (.int ((ix w:Nat):Int)), .dat (.int ((ix o:Nat):Int)), .un, .un]) (by simp! only [go']) ?_
  refine fP (ρ' :=[.dat (.int c), .dat (iI w), .dat (iI o), .bor NM, .bor S, .dat (.int ((ix w:Nat):Int)), .dat (.int ((ix o:Nat):Int)), .dat (.int ((y+z:Nat):Int)), .un]) (by simp! only [xw,xo,sum]) ?_
  by_cases c0:m=0
  ·have hr:∀a∈(Dd.turn w).refs,a∈ws:=fun a ha=>by simp [Dd.refs] at ha;rw [ha];exact hw
   refine oK (Hg (by simp! only [m8,c0]) (jB (d:= .tuple [.str (fY (rowOf (w, .turn w))),Dd.kD (.turn (ix w)), .int (y:Int)]) ?_ ⟨.turn w, .turn (ix w),by simp only [Dd.tx,bR,←hy],hr,trivial,trivial,ro _ hr trivial,trivial,fun a ha=>by simp [Dd.refs] at ha;rw [ha];exact iw,trivial,by simp only [Dd.tx,tw],by simp only [Dd.tx,bR];omega,by simp only [Dd.tx,bR];omega⟩))
   rw [←agl]
   simp! only [MP,Rf,xw,ah7,iI,wdl w [32,116,117,114,110,32] (by simp;omega),wdl (w++[32,116,117,114,110,32]) w (by simp;omega),Dd.kD]
  refine fP (ρ' :=[.dat (.int c), .dat (iI w), .dat (iI o), .bor NM, .bor S, .dat (.int ((ix w:Nat):Int)), .dat (.int ((ix o:Nat):Int)), .dat (.int ((y+z:Nat):Int)), .un]) (by simp! only [m8,c0]) ?_
  have jn:∀a b:List Nat,a∈ws→b∈ws→a.length≤8→b.length≤8→(T a).length+(T b).length=y+z→∀k8:Sl,Rt (gA (jw [(eO iH (eO iH (eO iH (eO iH (d8 1) (eC (.str " join "))) (eC (iI a))) (eC (.str " "))) (eC (iI b))),(jw [(eC (.str "join")),(eC (.int ((ix a:Nat):Int))),(eC (.int ((ix b:Nat):Int)))]),(d8 7)]) [.dat (.int c), .dat (iI w), .dat (iI o), .bor NM, .bor S, .dat (.int ((ix w:Nat):Int)), .dat (.int ((ix o:Nat):Int)), .dat (.int ((y+z:Nat):Int)),k8]) (fun r=>∃(d:Dd (List Nat)) (e:Dd Nat),r= .tuple [.str (fY (rowOf (w,d))),e.kD, .int (((d.tx T).length:Nat):Int)]∧((∀a∈d.refs,a∈ws)∧d.kd T∧d.ok T∧xP w d∧e.kn∧(∀a∈e.refs,a<ns.length)∧(e.ok fun a=>(rF ns).getD a [])∧d.tx T=(e.tx fun a=>(rF ns).getD a [])∧1≤(d.tx T).length∧(d.tx T).length≤2*B)):=fun a b ha hb la lb lab k8=>by
   obtain⟨ia,ta⟩:=hix a ha
   obtain⟨ib,tb⟩:=hix b hb
   have hr:∀x∈(Dd.join a b).refs,x∈ws:=fun x hx=>by
    simp [Dd.refs] at hx
    rcases hx with rfl|rfl
    ·exact ha
    ·exact hb
   have ok:(Dd.join a b).ok T:=by show(T a).length+(T b).length≤MOST;omega
   refine jB (d:= .tuple [.str (fY (rowOf (w, .join a b))),Dd.kD (.join (ix a) (ix b)), .int ((y+z:Nat):Int)]) ?_ ⟨.join a b, .join (ix a) (ix b),by simp only [Dd.tx,aA,lab],hr,trivial,ok,ro _ hr ok,trivial,fun x hx=>by
    simp [Dd.refs] at hx
    rcases hx with rfl|rfl
    ·exact ia
    ·exact ib,by show((rF ns).getD (ix a) []).length+((rF ns).getD (ix b) []).length≤MOST;rw [ta,tb];omega,by simp only [Dd.tx,ta,tb],by simp only [Dd.tx,aA];omega,by simp only [Dd.tx,aA];omega⟩
   rw [←aaV]
   simp! only [MP,aix,sp_,iI,wdl w [32,106,111,105,110,32] (by simp;omega),wdl (w++[32,106,111,105,110,32]) a (by simp;omega),wdl (w++[32,106,111,105,110,32]++a) [32] (by simp;omega),wdl (w++[32,106,111,105,110,32]++a++[32]) b (by simp;omega),Dd.kD]
  by_cases c4:m<4
  ·by_cases c64:c/64%2=0
   ·exact oK (Hg (by simp! only [m8,v64,m2,c4,c64]) (jn w o hw ho wl ol (by omega) _))
   ·refine fP (ρ' :=[.dat (.int c), .dat (iI w), .dat (iI o), .bor NM, .bor S, .dat (.int ((ix w:Nat):Int)), .dat (.int ((ix o:Nat):Int)), .dat (.int ((y+z:Nat):Int)), .un]) (by simp! only [m8,v64,m2,c4,c64]) ?_
    exact oK (Hg (by simp! only [m8,c4]) (jn o w ho hw ol wl (by omega) _))
  refine fP (ρ' :=[.dat (.int c), .dat (iI w), .dat (iI o), .bor NM, .bor S, .dat (.int ((ix w:Nat):Int)), .dat (.int ((ix o:Nat):Int)), .dat (.int ((y+z:Nat):Int)), .un]) (by simp! only [m8,c4]) ?_
  refine fP (ρ' :=[.dat (.int c), .dat (iI w), .dat (iI o), .bor NM, .bor S, .dat (.int ((ix w:Nat):Int)), .dat (.int ((ix o:Nat):Int)), .dat (.int ((y+z:Nat):Int)), .un]) (by simp! only [m8,c4]) ?_
  by_cases c6:m<6
  ·have hr:∀a∈(Dd.times w 2).refs,a∈ws:=fun a ha=>by simp [Dd.refs] at ha;rw [ha];exact hw
   have ok:(Dd.times w 2).ok T:=⟨by decide,by rw [←hy];omega⟩
   have tx2:(aD 2 (T w)).flatten=T w++T w:=by simp [aD]
   have mu:lN (.int 2) (.int (y:Int))= .ok (.int ((y+y:Nat):Int)):=by
    rw [pD (by omega) (by omega) (by omega) (by omega)]
    congr 2
    omega
   refine oK (Hg (by simp! only [m8,c6]) (jB (d:= .tuple [.str (fY (rowOf (w, .times w 2))),Dd.kD (.join (ix w) (ix w)), .int ((y+y:Nat):Int)]) ?_ ⟨.times w 2, .join (ix w) (ix w),by simp only [Dd.tx,tx2,aA,←hy],hr,rfl,ok,ro _ hr ok,trivial,fun a ha=>by simp [Dd.refs] at ha;rw [ha];exact iw,by show((rF ns).getD (ix w) []).length+((rF ns).getD (ix w) []).length≤MOST;rw [tw];omega,by simp only [Dd.tx,tw,tx2],by simp only [Dd.tx,tx2,aA];omega,by simp only [Dd.tx,tx2,aA];omega⟩))
   rw [←ae']
   simp! only [MP,xw,mu,agP,amX,iI,wdl w [32,116,105,109,101,115,32] (by simp;omega),wdl (w++[32,116,105,109,101,115,32]) w (by simp;omega),wdl (w++[32,116,105,109,101,115,32]++w) [32,50] (by simp;omega),Dd.kD]
  refine fP (ρ' :=[.dat (.int c), .dat (iI w), .dat (iI o), .bor NM, .bor S, .dat (.int ((ix w:Nat):Int)), .dat (.int ((ix o:Nat):Int)), .dat (.int ((y+z:Nat):Int)), .un]) (by simp! only [m8,c6]) ?_
  obtain⟨p,hp,pe,ep⟩:∃p:Nat,(p=0∨p=y)∧p≤y∧fV (.list [.int 0, .int (y:Int)]) (.int (c/8%2))= .ok (.int (p:Int)):=by
   by_cases q:c/8%2=0
   ·exact⟨0, .inl rfl,cX _,by rw [q];rfl⟩
   ·have q1:c/8%2=1:=by omega
    exact⟨y, .inr rfl,bJ _,by rw [q1];exact LR _ _ _⟩
  refine fP (ρ' :=[.dat (.int c), .dat (iI w), .dat (iI o), .bor NM, .bor S, .dat (.int ((ix w:Nat):Int)), .dat (.int ((ix o:Nat):Int)), .dat (.int ((y+z:Nat):Int)), .dat (.int (p:Int))]) (by simp! only [xw,v8,m2,ep]) ?_
  have hr:∀a∈(Dd.insert w p o).refs,a∈ws:=fun a ha=>by
   simp [Dd.refs] at ha
   rcases ha with rfl|rfl
   ·exact hw
   ·exact ho
  have ok:(Dd.insert w p o).ok T:=⟨by rw [←hy];exact pe,by omega⟩
  have ln:((T w).take p++T o++(T w).drop p).length=y+z:=by
   simp only [aA,aZ,List.length_drop]
   omega
  have nl:=numL_len p (by omega)
  refine jB (d:= .tuple [.str (fY (rowOf (w, .insert w p o))),Dd.kD (.insert (ix w) p (ix o)), .int ((y+z:Nat):Int)]) ?_ ⟨.insert w p o, .insert (ix w) p (ix o),by simp only [Dd.tx,ln],hr,by show p=0∨p=(T w).length;rw [←hy];exact hp,ok,ro _ hr ok,trivial,fun a ha=>by
   simp [Dd.refs] at ha
   rcases ha with rfl|rfl
   ·exact iw
   ·exact io,⟨by show p≤((rF ns).getD (ix w) []).length;rw [tw,←hy];exact pe,by show((rF ns).getD (ix w) []).length+((rF ns).getD (ix o) []).length≤MOST;rw [tw,to];omega⟩,by simp only [Dd.tx,tw,to],by simp only [Dd.tx,ln];omega,by simp only [Dd.tx,ln];omega⟩
  rw [←acE]
  have sn:=yM p (by omega)
  have cs:fu vK [(d8 8)] [.dat (.int c), .dat (iI w), .dat (iI o), .bor NM, .bor S, .dat (.int ((ix w:Nat):Int)), .dat (.int ((ix o:Nat):Int)), .dat (.int ((y+z:Nat):Int)), .dat (.int (p:Int))]= .ok (.str (fY (TL.numL p))):=j5 rfl sn
  simp only [iI] at cs
  simp only [MP,ahd,jK,cs,jM,jZ,eC,iy,aeB,sp_,iI,wdl w [32,105,110,115,101,114,116,32] (by simp;omega),wdl (w++[32,105,110,115,101,114,116,32]) w (by simp;omega),wdl (w++[32,105,110,115,101,114,116,32]++w) [32] (by simp;omega),wdl (w++[32,105,110,115,101,114,116,32]++w++[32]) (TL.numL p) (by simp;omega),wdl (w++[32,105,110,115,101,114,116,32]++w++[32]++TL.numL p) [32] (by simp;omega),wdl (w++[32,105,110,115,101,114,116,32]++w++[32]++TL.numL p++[32]) o (by simp;omega),Dd.kD])
 exact⟨d,e,e1,e2⟩
end Sb
namespace Sb
open PySem PySem.Spec L2 Evl DL
abbrev xW:List Nat:=[120]
abbrev yW:List Nat:=[121]
theorem ahk:BR xW:=by unfold BR;decide+kernel
theorem ak0:BR yW:=by unfold BR;decide+kernel
abbrev nO(es:List St):D:= .list (es.map fun e=>aV (fY (rowOf e)))
structure KI(es:List St)(ns:List (Dd Nat))(ix:List Nat→Nat):Prop where
 st:StK es
 g:NG ns
 kn:∀(i:Nat) d,ns[i]? =some d→d.kn
 l:es.length=ns.length
 ix:∀a∈lZ es,ix a<ns.length∧(rF ns).getD (ix a) []=xj es a
 wd:∀a∈lZ es,a=xW∨a=yW
 x:xW∈lZ es
 le:∀a∈lZ es,1≤(xj es a).length∧(xj es a).length≤4*2 ^ es.length
 w0:∃w,ns[0]? =some (.is w)∧1≤w.length∧w.length≤4
theorem KI.wok{es:List St}{ns:List (Dd Nat)}{ix:List Nat→Nat}(h:KI es ns ix):∀a∈lZ es,BR a:=fun a ha=>by
 rcases h.wd a ha with rfl|rfl
 ·exact ahk
 ·exact ak0
theorem KI.snoc{es:List St}{ns:List (Dd Nat)}{ix:List Nat→Nat}(h:KI es ns ix){w:List Nat}(hw:w=xW∨w=yW){d:Dd (List Nat)}{e:Dd Nat}(h1:∀a∈d.refs,a∈lZ es)(h2:d.kd (xj es))(h3:d.ok (xj es))(h4:xP w d)(h5:e.kn)(h6:∀a∈e.refs,a<ns.length)(h7:e.ok fun a=>(rF ns).getD a [])(h8:d.tx (xj es)=e.tx fun a=>(rF ns).getD a [])(h9:1≤(d.tx (xj es)).length)(h10:(d.tx (xj es)).length≤2*(4*2 ^ es.length)):
 KI (es++[(w,d)]) (ns++[e]) (fun x=>if x=w then ns.length else ix x) where
 st:=h.st.snoc h1 h3 h4 h2
 g:=h.g.snoc h6 h7
 kn:=fun i t ht=>by
  by_cases z:i<ns.length
  ·rw [aO z] at ht
   exact h.kn i t ht
  ·have hi:=(au.mp ht).1
   rw [aA,bQ] at hi
   have e1:i=ns.length:=by omega
   subst e1
   rw [bD (bJ _)] at ht
   simp only [Nat.sub_self,aQ,Option.some.injEq] at ht
   rw [←ht]
   exact h5
 l:=by simp [h.l]
 ix:=fun a ha=>by
  rw [pW,Dj] at ha
  rw [Ls,aA,bQ]
  unfold upT
  by_cases z:a=w
  ·simp only [z,if_true]
   exact⟨by omega,by rw [T9];exact h8.symm⟩
  ·simp only [z,if_false]
   obtain⟨i1,i2⟩:=h.ix a (ha.resolve_right z)
   exact⟨by omega,by rw [Ql i1,i2]⟩
 wd:=fun a ha=>by
  rw [pW,Dj] at ha
  rcases ha with ha|rfl
  ·exact h.wd a ha
  ·exact hw
 x:=by
  rw [pW,Dj]
  exact .inl h.x
 le:=fun a ha=>by
  rw [pW,Dj] at ha
  rw [Ls,aA,bQ,Nat.pow_succ]
  unfold upT
  by_cases z:a=w
  ·simp only [z,if_true]
   omega
  ·simp only [z,if_false]
   have:=h.le a (ha.resolve_right z)
   omega
 w0:=by
  obtain⟨w,a,b⟩:=h.w0
  exact⟨w,by rw [aO (au.mp a).1];exact a,b⟩
theorem Ly(w:List Nat)(d:Dd (List Nat)):lZ [(w,d)]=[w]:=rfl
theorem KI.base{u:List Nat}(h1:1≤u.length)(h2:u.length≤4)(h3:∀c∈u,c∈Lz):KI [(xW, .is u)] [.is u] (fun _=>0):=by
 have ok:∀T:List Nat→List Nat,(Dd.is u:Dd (List Nat)).ok T:=fun T=>⟨h1,by omega,h3⟩
 have e:=StK.nil.snoc (e:=(xW, .is u)) (fun a ha=>by simp [Dd.refs] at ha) (ok _) (Yi xW ahk _ (fun a ha=>by simp [Dd.refs] at ha) (fun _=>[]) (ok _) (fun a ha=>by simp [Dd.refs] at ha)) h2
 have g:=NG.nil.snoc (d:= .is u) (fun a ha=>by simp [Dd.refs] at ha) ⟨h1,by omega,h3⟩
 refine⟨e,g,fun i t ht=> ?_,rfl,fun a ha=> ?_,fun a ha=> ?_,by simp [Ly],fun a ha=> ?_,⟨u,rfl,h1,h2⟩⟩
 ·cases i with
  |zero=>cases ht;exact h2
  |succ i=>simp at ht
 ·rw [Ly] at ha
  have:a=xW:=by simpa using ha
  subst this
  exact⟨by simp,rfl⟩
 ·rw [Ly] at ha
  exact .inl (by simpa using ha)
 ·rw [Ly] at ha
  have:a=xW:=by simpa using ha
  subst this
  show 1≤u.length∧u.length≤4*2 ^ 1
  omega
theorem KI.second{u v:List Nat}(h1:1≤u.length)(h2:u.length≤4)(h3:∀c∈u,c∈Lz)(h1' :1≤v.length)(h2' :v.length≤4)(h3' :∀c∈v,c∈Lz):KI [(xW, .is u),(yW, .is v)] [.is u, .is v] (fun x=>if x=yW then 1 else 0):=by
 have ok:∀T:List Nat→List Nat,(Dd.is v:Dd (List Nat)).ok T:=fun T=>⟨h1',by omega,h3'⟩
 exact(KI.base h1 h2 h3).snoc (w:=yW) (.inr rfl) (d:= .is v) (e:= .is v) (fun a ha=>by simp [Dd.refs] at ha) h2' (ok _) (Yi yW ak0 _ (fun a ha=>by simp [Dd.refs] at ha) (fun _=>[]) (ok _) (fun a ha=>by simp [Dd.refs] at ha)) h2' (fun a ha=>by simp [Dd.refs] at ha) ⟨h1',by omega,h3'⟩ rfl h1' (by show v.length≤2*(4*2 ^ 1);omega)
theorem afx(w u:List Nat):w++[32,105,115,32]++u=rowOf (w, .is u):=by simp [rowOf,Dd.row,Dd.args,Dd.verb,TL.joinL,alX]
theorem akS:("x is ":Str)=fY (xW++[32,105,115,32]):=by decide+kernel
theorem akr:("y is ":Str)=fY (yW++[32,105,115,32]):=by decide+kernel
theorem akm:∀us:List (List Nat),rF (us.map Dd.is)=us:=by
 refine snocInd rfl fun us u ih=> ?_
 rw [cC,bA,cZ,DK,ih]
 rfl
theorem aku(us:List (List Nat)):fB (zG (us.map Dd.is))= .list (us.map fun w=>aF ((w.length:Nat):Int)):=by
 simp only [zG,akm,fB,cD]
 rfl
theorem JQ:∀es:List St,(lZ es).length≤es.length:=by
 refine snocInd (by simp [lZ]) fun es e ih=> ?_
 rw [pW,aA,bQ]
 have:=aac (ws:=lZ es) (w:=e.1)
 omega
theorem aiw{G:List D→ER}{ma mb mc md me:EM}{ρ:DL.Env}{x y z w v:D}{r:ER}(ha:ma ρ= .ok x)(hb:mb ρ= .ok y)(hc:mc ρ= .ok z)(hd:md ρ= .ok w)(he:me ρ= .ok v)(h:G [x,y,z,w,v]=r):fu G [ma,mb,mc,md,me] ρ=r:=by
 simp only [fu,ou,ha,hb,hc,hd,he,h]
theorem sl4{a b c d:Int}{dt:List Int}:dSl (.list ((a::b::c::d::dt).map aF)) (some 4) none= .ok (.list (dt.map aF)):=by
 have:=Zw ((a::b::c::d::dt).map aF) 4
 simp only [dSl]
 rw [show(some 4:Option Int)=some ((4:Nat):Int) from rfl,this]
 rfl
theorem agD(d0 d1 d2 d3:Int)(dt:List Int)(hb:∀c∈d0::d1::d2::d3::dt,0≤c∧c<10 ^ 40)(hl:dt.length≤38):
 ∃es ns ix,CZ [.list ((d0::d1::d2::d3::dt).map aF)]= .ok (.tuple [nO es,jr ns,fB (zG ns),Ii ix (lZ es)])∧KI es ns ix∧es.length≤40:=by
 obtain⟨DS,hDS⟩:∃DS,DS=cJ ((d0::d1::d2::d3::dt).map aF):=⟨_,rfl⟩
 have x0:fV DS (.int 0)= .ok (.int d0):=by rw [hDS,pH (by decide) (by simp;omega)];rfl
 have x1:fV DS (.int 1)= .ok (.int d1):=by rw [hDS,pH (by decide) (by simp;omega)];rfl
 have x3:fV DS (.int 3)= .ok (.int d3):=by rw [hDS,pH (by decide) (by simp;omega)];rfl
 have sl:dSl DS (some 4) none= .ok (.list (dt.map aF)):=by rw [hDS];exact sl4
 have b0:=hb d0 (by simp)
 have b1:=hb d1 (by simp)
 have b3:=hb d3 (by simp)
 have bt:∀c∈dt,0≤c∧c<10 ^ 40:=fun c hc=>hb c (by simp [hc])
 obtain⟨u,u1,u2,u3,eu⟩:=ZG d0 b0.1 (by omega)
 obtain⟨v,v1,v2,v3,ev⟩:=ZG (d1/124) (by omega) (by omega)
 rw [←hDS]
 have dv:lX (.int d1) (.int 124)= .ok (.int (d1/124)):=o9 (by omega) (by omega)
 have d12:lX (.int d3) (.int 12)= .ok (.int (d3/12)):=o9 (by omega) (by omega)
 have m2:jJ (.int (d3/12)) (.int 2)= .ok (.int (d3/12%2)):=jo (by omega)
 have ax:iH (.str "x is ") (.str (fY u))= .ok (.str (fY (rowOf (xW, .is u)))):=by rw [akS,xU (by simp;omega),afx]
 have ay:iH (.str "y is ") (.str (fY v))= .ok (.str (fY (rowOf (yW, .is v)))):=by rw [akr,xU (by simp;omega),afx]
 have run:Rt (yC [.dat DS, .un, .un, .un, .un, .un, .un, .un, .un, .un, .un, .un]) (fun d=>∃es ns ix,d= .tuple [nO es,jr ns,fB (zG ns),Ii ix (lZ es)]∧KI es ns ix∧es.length≤40):=by
  unfold yC
  refine fP (ρ' :=[.dat DS, .own (jr [.is u]), .un, .un, .un, .un, .un, .un, .un, .un, .un, .un]) (by
   have ca:fu qR [(eO fV (d8 0) (eC (.int 0)))] [.dat DS, .un, .un, .un, .un, .un, .un, .un, .un, .un, .un, .un]= .ok (.str (fY u)):=j5 (x:= .int d0) (by simp! only [x0]) eu
   simp only [jG,Ua,Rf,ca,eC,iy]
   rfl) ?_
  refine fP (ρ' :=[.dat DS, .own (jr [.is u]), .own (nO [(xW, .is u)]), .un, .un, .un, .un, .un, .un, .un, .un, .un]) (by
   have k0:fV (jr [.is u]) (.int 0)= .ok (Dd.kD (.is u)):=JM (i:=0) rfl
   simp! only [Ua,k0,Dd.kD,gR,ax]
   rfl) ?_
  refine fP (ρ' :=[.dat DS, .own (jr [.is u]), .own (nO [(xW, .is u)]), .own (Ii (fun _=>0) [xW]), .un, .un, .un, .un, .un, .un, .un, .un]) (by rfl) ?_
  refine mZ (N:=fun ρ=>∃(es:List St) (us:List (List Nat)) (ix:List Nat→Nat),ρ=[.dat DS, .own (jr (us.map Dd.is)), .own (nO es), .own (Ii ix (lZ es)), .un, .un, .un, .un, .un, .un, .un, .un]∧KI es (us.map Dd.is) ix∧es.length≤2∧∀u∈us,u.length≤4) ?_ ?_
  ·by_cases h2:d3/12%2=1
   ·refine Vk (by simp! only [x3,d12,m2,h2]) ?_
    refine iD (ρ' :=[.dat DS, .own (jr [.is u, .is v]), .own (nO [(xW, .is u)]), .own (Ii (fun _=>0) [xW]), .un, .un, .un, .un, .un, .un, .un, .un]) (by
     have ca:fu qR [(eO lX (eO fV (d8 0) (eC (.int 1))) (eC (.int 124)))] [.dat DS, .own (jr [.is u]), .own (nO [(xW, .is u)]), .own (Ii (fun _=>0) [xW]), .un, .un, .un, .un, .un, .un, .un, .un]= .ok (.str (fY v)):=j5 (x:= .int (d1/124)) (by simp! only [x1,dv]) ev
     rw [app_ok (ds:=[Dd.kD (.is u)]) (d:=Dd.kD (.is v)) rfl (by simp only [Rf,ca,eC,iy];rfl) (by exact lM (by simp))]
     rfl) ?_
    refine iD (ρ' :=[.dat DS, .own (jr [.is u, .is v]), .own (nO [(xW, .is u),(yW, .is v)]), .own (Ii (fun _=>0) [xW]), .un, .un, .un, .un, .un, .un, .un, .un]) (by
     have k1:fV (jr [.is u, .is v]) (.int 1)= .ok (Dd.kD (.is v)):=JM (i:=1) rfl
     rw [app_ok (ds:=[aV (fY (rowOf (xW, .is u)))]) (d:= .str (fY (rowOf (yW, .is v)))) rfl (by simp! only [k1,Dd.kD,gR,ay]) (by exact lM (by simp))]
     rfl) ?_
    refine jT (ρ' :=[.dat DS, .own (jr [.is u, .is v]), .own (nO [(xW, .is u),(yW, .is v)]), .own (Ii (fun x=>if x=yW then 1 else 0) [xW,yW]), .un, .un, .un, .un, .un, .un, .un, .un]) ?_ ⟨[(xW, .is u),(yW, .is v)],[u,v],_,rfl,KI.second u1 u2 u3 v1 v2 v3,by simp,fun z hz=>by
     simp at hz
     rcases hz with rfl|rfl<;>assumption⟩
    have ek:DL.keyOf (aV ("y":Str))=some (.inr (fY yW)):=by
     have:("y":Str)=fY yW:=by decide+kernel
     rw [this]
     rfl
    have hz:(uH (fun a=>aF (((fun _=>0) a:Nat):Int)) [xW]).length<sizeLine:=by rw [Xr];exact lM (by simp)
    simp only [oE,eC,aW,aQ,Es,if_true,ek,hz,Lk,set_0,kW]
    have ad:addW [xW] yW=[xW,yW]:=by decide+kernel
    have f1:uH (upW (fun a=>aF (((fun _=>0) a:Nat):Int)) yW (.int 1)) [xW,yW]=uH (fun a=>aF (((if a=yW then 1 else 0:Nat):Nat):Int)) [xW,yW]:=abk fun x _=>by
     unfold upW
     by_cases z:x=yW
     ·simp only [z,if_true]
      rfl
     ·simp only [z,if_false]
    rw [ad,f1]
   ·refine IK (by simp! only [x3,d12,m2,h2]) (jT (by rfl) ⟨[(xW, .is u)],[u],_,rfl,KI.base u1 u2 u3,by simp,fun z hz=>by
     simp at hz
     rw [hz]
     exact u2⟩)
  ·rintro ρ ⟨es0,us,ix0,rfl,ki0,el0,hus⟩
   obtain⟨ws,hws⟩:∃ws,ws=lZ es0:=⟨_,rfl⟩
   refine fP (ρ' :=[.dat DS, .own (jr (us.map Dd.is)), .own (nO es0), .own (Ii ix0 (lZ es0)), .own (fB (zG (us.map Dd.is))), .un, .un, .un, .un, .un, .un, .un]) ?_ ?_
   ·have lc:X3 (iL (gK 1)) (gN 10) (eC (.bool true)) (fu je [(eO fV (d8 10) (eC (.int 1)))]) [10] [.dat DS, .own (jr (us.map Dd.is)), .own (nO es0), .own (Ii ix0 (lZ es0)), .un, .un, .un, .un, .un, .un, .un, .un]= .ok (.list (us.map fun w=>aF ((w.length:Nat):Int))):=by
     refine acN (fun w:List Nat=>Dd.kD (.is w)) _ (xs:=us) (Nf (by simp only [zF,uY,jr,cD];rfl)) (fun w hw=>⟨_,rfl,rfl,?_⟩) (by have:=ki0.l;rw [aC] at this;exact Cv (by omega))
     exact j5 (x:= .str (fY w)) (by simp only [xJ,List.foldl_cons,List.foldl_nil,set_0,kW,jK,jM,jZ,eC,iy,Dd.kD,gR]) (RX (by have:=hus w hw;omega))
    simp only [jG,lc]
    rw [aku]
    rfl
   have swp:=Mq ws
   have wd0:∀a∈ws,a=xW∨a=yW:=by rw [hws];exact ki0.wd
   have wl:ws.length≤2:=by
    have:=JQ es0
    rw [hws]
    omega
   have wp:1≤ws.length:=by
    have:=ki0.x
    rw [hws]
    exact List.length_pos_of_mem this
   obtain⟨SW,hSW⟩:∃SW,SW=cJ ((MT ws).map iI):=⟨_,rfl⟩
   have so:=Yj (fun a=>aF ((ix0 a:Nat):Int)) ws (by omega)
   refine fP (ρ' :=[.dat DS, .own (jr (us.map Dd.is)), .own (nO es0), .own (Ii ix0 (lZ es0)), .own (fB (zG (us.map Dd.is))), .dat SW, .un, .un, .un, .un, .un, .un]) (lK (by
    rw [oN,Jd]
    simp only [zF,uY,iy,←hws,so]
    rw [hSW]
    exact Ma _)) ?_
   have lS:je [SW]= .ok (.int ((ws.length:Nat):Int)):=by rw [hSW,Ae,aC,swp.length_eq]
   have ixS:∀k:Nat,k<ws.length→∃w∈ws,fV SW (.int (k:Int))= .ok (iI w):=fun k hk=>by
    have hk2:k<(MT ws).length:=by rw [swp.length_eq];exact hk
    refine⟨(MT ws)[k],swp.mem_iff.mp (dh hk2),?_⟩
    rw [hSW,pH (by omega) (by simp;omega),cY,bF,aK,aU hk2]
    rfl
   have ixM:∀z:Int,∃w∈ws,(jJ (.int z) (.int ((ws.length:Nat):Int))).bind (fun y=>fV SW y)= .ok (iI w):=fun z=>by
    obtain⟨k,hk⟩:∃k:Nat,(k:Int)=z%((ws.length:Nat):Int):=⟨(z%((ws.length:Nat):Int)).toNat,by have:=cO z (show((ws.length:Nat):Int)≠0 by omega);omega⟩
    have kl:k<ws.length:=by have:=bW z (show 0<((ws.length:Nat):Int) by omega);omega
    obtain⟨w,a,b⟩:=ixS k kl
    exact⟨w,a,by rw [jo (by omega),iy,←hk,b]⟩
   refine mZ (N:=fun ρ=>∃(es:List St) (ns:List (Dd Nat)) (ix:List Nat→Nat) (k6 k7 k8 k9 k10 k11:Sl),ρ=[.dat DS, .own (jr ns), .own (nO es), .own (Ii ix (lZ es)), .own (fB (zG ns)), .dat SW,k6,k7,k8,k9,k10,k11]∧KI es ns ix∧es.length≤40) ?_ ?_
   ·have loop:=nY (mi:=iL (PB (d8 0) (some (eC (.int 4))) none)) (g:=gN 6) (body:=(fG (gH 7 (eO fV (d8 5) (eO jJ (eO lX (d8 6) (eC (.int 16))) (fu je [(d8 5)]))))
 (fG (gH 8 (eO fV (d8 5) (eO jJ (eO iH (eO lX (d8 6) (eC (.int 16))) (fu Pq [(eC (.int 1)),(eO jJ (eO lX (d8 6) (eC (.int 128))) (eC (.int 4)))])) (fu je [(d8 5)]))))
 (fG (lA (gT [(gN 9),(gN 10),(gN 11)]) (fu vp [(d8 6),(d8 7),(d8 8),(gK 3),(gK 4)]))
 (fG (mW 2 (d8 9))
 (fG (mW 1 (d8 10))
 (fG (mW 4 (d8 11))
 (oE 3 (d8 7) (eO nj (fu je [(gK 1)]) (eC (.int 1))))))))))) (ρ:=[.dat DS, .own (jr (us.map Dd.is)), .own (nO es0), .own (Ii ix0 (lZ es0)), .own (fB (zG (us.map Dd.is))), .dat SW, .un, .un, .un, .un, .un, .un]) (ds:=dt.map aF)
     (fun i ρ=>∃(es:List St) (ns:List (Dd Nat)) (ix:List Nat→Nat) (k6 k7 k8 k9 k10 k11:Sl),ρ=[.dat DS, .own (jr ns), .own (nO es), .own (Ii ix (lZ es)), .own (fB (zG ns)), .dat SW,k6,k7,k8,k9,k10,k11]∧KI es ns ix∧es.length≤2+i∧lZ es=ws)
     (Nf (by simp! only [PB,evO,sl])) ⟨es0,us.map Dd.is,ix0,_,_,_,_,_,_,rfl,ki0,by omega,hws.symm⟩ (by
      rintro i d ρ hd ⟨es,ns,ix,k6,k7,k8,k9,k10,k11,rfl,ki,el,hw⟩
      rw [aK,aP] at hd
      obtain⟨c,hc,rfl⟩:=hd
      have hi:=(au.mp hc).1
      have bc:=bt c (bf hc)
      have nl:=ki.l
      refine⟨_,pP,?_⟩
      simp only [set_0,kW]
      have v16:lX (.int c) (.int 16)= .ok (.int (c/16)):=o9 (by omega) (by omega)
      have v128:lX (.int c) (.int 128)= .ok (.int (c/128)):=o9 (by omega) (by omega)
      have m4:jJ (.int (c/128)) (.int 4)= .ok (.int (c/128%4)):=jo (by omega)
      obtain⟨w,hwm,ew⟩:=ixM (c/16)
      obtain⟨o,hom,eo⟩:=ixM (c/16+min 1 (c/128%4))
      refine iD (ρ' :=[.dat DS, .own (jr ns), .own (nO es), .own (Ii ix (lZ es)), .own (fB (zG ns)), .dat SW, .dat (.int c), .dat (iI w),k8,k9,k10,k11]) (lK (by
       simp! only [v16,lS]
       exact ew)) ?_
      refine iD (ρ' :=[.dat DS, .own (jr ns), .own (nO es), .own (Ii ix (lZ es)), .own (fB (zG ns)), .dat SW, .dat (.int c), .dat (iI w), .dat (iI o),k9,k10,k11]) (lK (by
       simp! only [v16,v128,m4,Xe,lS]
       exact eo)) ?_
      have bnd:2*(4*2 ^ es.length)≤2 ^ 52:=by
       have:(2:Nat) ^ es.length≤2 ^ 40:=dF (by omega) (by omega)
       omega
      obtain⟨dd,e,es1,s1,s2,s3,s4,s5,s6,s7,s8,s9,s10⟩:=ahg c bc.1 bc.2 (ws:=lZ es) (w:=w) (o:=o) (by rw [hw];exact hwm) (by rw [hw];exact hom) ki.wok ns ki.g ix (xj es) ki.ix (4*2 ^ es.length) bnd ki.le
      have ki' :=ki.snoc (wd0 w hwm) s1 s2 s3 s4 s5 s6 s7 s8 s9 s10
      obtain⟨RW,hRW⟩:∃RW,RW=fY (rowOf (w,dd)):=⟨_,rfl⟩
      rw [←hRW] at es1
      refine iD (ρ' :=[.dat DS, .own (jr ns), .own (nO es), .own (Ii ix (lZ es)), .own (fB (zG ns)), .dat SW, .dat (.int c), .dat (iI w), .dat (iI o), .dat (.str RW), .dat e.kD, .dat (.int (((dd.tx (xj es)).length:Nat):Int))]) (nA (aiw rfl rfl rfl rfl rfl es1) rfl) ?_
      refine iD (ρ' :=[.dat DS, .own (jr ns), .own (nO (es++[(w,dd)])), .own (Ii ix (lZ es)), .own (fB (zG ns)), .dat SW, .dat (.int c), .dat (iI w), .dat (iI o), .dat (.str RW), .dat e.kD, .dat (.int (((dd.tx (xj es)).length:Nat):Int))]) (by
       rw [app_ok (ds:=es.map fun e=>aV (fY (rowOf e))) (d:= .str RW) rfl rfl (by rw [aC];exact lM (by omega))]
       simp only [nO,cC,bA,cZ,←hRW,set_0,kW]) ?_
      refine iD (ρ' :=[.dat DS, .own (jr (ns++[e])), .own (nO (es++[(w,dd)])), .own (Ii ix (lZ es)), .own (fB (zG ns)), .dat SW, .dat (.int c), .dat (iI w), .dat (iI o), .dat (.str RW), .dat e.kD, .dat (.int (((dd.tx (xj es)).length:Nat):Int))]) (by
       rw [app_ok (ds:=ns.map Dd.kD) (d:=e.kD) rfl rfl (by rw [aC];exact lM (by omega))]
       simp only [jr,cC,bA,cZ,set_0,kW]) ?_
      refine iD (ρ' :=[.dat DS, .own (jr (ns++[e])), .own (nO (es++[(w,dd)])), .own (Ii ix (lZ es)), .own (fB (zG (ns++[e]))), .dat SW, .dat (.int c), .dat (iI w), .dat (iI o), .dat (.str RW), .dat e.kD, .dat (.int (((dd.tx (xj es)).length:Nat):Int))]) (by
       rw [app_ok (ds:=(zG ns).map fun(n:Nat)=>aF (n:Int)) (d:= .int (((dd.tx (xj es)).length:Nat):Int)) rfl rfl (by rw [aC,Ba];exact lM (by omega)),agC,←s8]
       simp only [fB,cC,bA,cZ,set_0,kW]) ?_
      have sw2:lZ (es++[(w,dd)])=ws:=by
       rw [pW,hw]
       exact if_pos hwm
      refine jT (ρ' :=[.dat DS, .own (jr (ns++[e])), .own (nO (es++[(w,dd)])), .own (Ii (fun x=>if x=w then ns.length else ix x) (lZ (es++[(w,dd)]))), .own (fB (zG (ns++[e]))), .dat SW, .dat (.int c), .dat (iI w), .dat (iI o), .dat (.str RW), .dat e.kD, .dat (.int (((dd.tx (xj es)).length:Nat):Int))]) ?_ ⟨es++[(w,dd)],ns++[e],_,_,_,_,_,_,_,rfl,ki',by simp;omega,sw2⟩
      have bl:je [jr (ns++[e])]= .ok (.int ((ns.length+1:Nat):Int)):=by
       unfold jr
       rw [Ae,aC,aA,bQ]
      have e1:((ns.length+1:Nat):Int)-1=((ns.length:Nat):Int):=by omega
      have ek:DL.keyOf (iI w)=some (.inr (fY w)):=rfl
      have hz:(uH (fun a=>aF ((ix a:Nat):Int)) (lZ es)).length<sizeLine:=by rw [Xr,hw];exact lM (by omega)
      obtain⟨KD,hKD⟩:∃KD,KD=jr (ns++[e]):=⟨_,rfl⟩
      rw [←hKD] at bl⊢
      have ev:eO nj (fu je [(gK 1)]) (eC (.int 1)) [.dat DS, .own KD, .own (nO (es++[(w,dd)])), .own (Ii ix (lZ es)), .own (fB (zG (ns++[e]))), .dat SW, .dat (.int c), .dat (iI w), .dat (iI o), .dat (.str RW), .dat e.kD, .dat (.int (((dd.tx (xj es)).length:Nat):Int))]= .ok (.int ((ns.length:Nat):Int)):=by
       rw [jK,j5 (x:=KD) rfl bl]
       simp only [eC,iy,Xp,e1]
      simp only [oE,ev,jM,jZ,aW,aQ,Es,if_true,ek,hz,Lk,set_0,kW]
      rw [sw2,hw,show addW ws w=ws from if_pos hwm]
      have f1:uH (upW (fun a=>aF ((ix a:Nat):Int)) w (.int ((ns.length:Nat):Int))) ws=uH (fun a=>aF (((if a=w then ns.length else ix a:Nat):Nat):Int)) ws:=abk fun x _=>by
       unfold upW
       by_cases z:x=w
       ·simp only [z,if_true]
       ·simp only [z,if_false]
      rw [f1])
    rw [aC] at loop
    obtain⟨ρ,e,es,ns,ix,k6,k7,k8,k9,k10,k11,rfl,ki,el,_⟩:=loop
    exact⟨_,e,es,ns,ix,k6,k7,k8,k9,k10,k11,rfl,ki,by omega⟩
   ·rintro ρ ⟨es,ns,ix,k6,k7,k8,k9,k10,k11,rfl,ki,el⟩
    refine⟨.tuple [nO es,jr ns,fB (zG ns),Ii ix (lZ es)],?_,es,ns,ix,rfl,ki,el⟩
    simp only [adM,RN,aW,aQ,Es,if_true,set_0,kW,jr,fB]
    exact ret_ok (by simp only [ahd,jM,jZ,iy])
 obtain⟨d,e,es,ns,ix,rfl,a,b⟩:=Gh (ks:=[.dat]) (n:=11) (m:=yC) (ds:=[DS]) run
 exact⟨es,ns,ix,e,a,b⟩
end Sb
namespace Sb
open PySem PySem.Spec L2 Evl DL
def KU(es:List St)(i:Nat)(R:List Nat→List Rule)(N:List Nat→Option Nat):Prop:=∃(U:List Tr) (τ:List Nat→Tr),Un U∧U.length≤14*i∧∀a∈lZ (es.take i),TT U (R a) (N a) (xj (es.take i) a) (τ a)
theorem KU.zero(es:List St):KU es 0 (fun _=>[]) fun _=>none:=⟨[],fun _=>Cy,Un.nil,by simp,fun a ha=>by simp [lZ] at ha⟩
theorem KU.step{es:List St}(st:StK es){i:Nat}(hi:i≤55){e:St}(he:es[i]? =some e){R:List Nat→List Rule}{N:List Nat→Option Nat}(h:KU es i R N):
 ∃qs k,nQ [.dict (uH (fun a=>pairD (R a) (N a)) (lZ (es.take i))), .tuple [.str e.2.verb,iI e.1, .list (e.2.rest iI)]]= .ok (pairD qs k)∧KU es (i+1) (fun a=>if a=e.1 then qs else R a) fun a=>if a=e.1 then k else N a:=by
 obtain⟨U,τ,hU,hu,hT⟩:=h
 obtain⟨V,qs,k,t,hV,hv,mt,tt⟩:=akV hU (by omega) hT e.2 (st.rf i e he) (st.ok i e he) (st.kd i e he) e.1
 have et:es.take (i+1)=es.take i++[e]:=by
  rw [bH,he]
  rfl
 refine⟨qs,k,mt,U++V,fun a=>if a=e.1 then t else τ a,hV,by rw [aA];omega,fun a ha=> ?_⟩
 rw [et,pW,Dj] at ha
 rw [et,Ls]
 unfold upT
 by_cases z:a=e.1
 ·simp only [z,if_true]
  exact tt
 ·simp only [z,if_false]
  exact(hT a (ha.resolve_right z)).mono
theorem afU(es:List St)(st:StK es)(hl:es.length≤55)(hw:(lZ es).length≤40):∃(rs:List Rule) (M:List Nat→Option Nat),Sw [.str (fY (z8 es))]= .ok (.tuple [eY rs,namesW (MT (lZ es)) M])∧Good rs∧Fits MOST rs∧rs.length≤8000000∧∀a∈lZ es,Jk rs (M a) (xj es a):=by
 obtain⟨R,N,te,U,τ,_,_,hT⟩:=abW es st.rw_ (by omega) (KU es) (KU.zero es) fun i e R N he h=>KU.step st (by have:=(au.mp he).1;omega) he h
 rw [bV] at hT
 exact akc es R N te (fun a ha=>⟨(hT a ha).x,by have:=(hT a ha).l;omega⟩) hw
abbrev xZ(m:Nat):List St:=aD m (xW, .join xW xW)
theorem aef{es:List St}{ns:List (Dd Nat)}{ix:List Nat→Nat}(ki:KI es ns ix)(hl:es.length≤40):∀m,m≤11→StK (es++xZ m)∧lZ (es++xZ m)=lZ es∧∀a,xj (es++xZ m) a=if a=xW then(aD (2 ^ m) (xj es xW)).flatten else xj es a
 |0,_=>⟨by simpa using ki.st,by simp,fun a=>by
   by_cases z:a=xW
   ·simp [z]
   ·simp [z]⟩
 |m+1,h=>by
  obtain⟨s1,s2,s3⟩:=aef ki hl m (by omega)
  have e1:es++xZ (m+1)=(es++xZ m)++[(xW, .join xW xW)]:=by
   unfold xZ
   rw [List.replicate_succ',aG]
  have hx:=ki.le xW ki.x
  have b1:(2:Nat) ^ es.length≤2 ^ 40:=dF (by omega) (by omega)
  have b2:(2:Nat) ^ m≤2 ^ 10:=dF (by omega) (by omega)
  have hxl:(xj (es++xZ m) xW).length≤2 ^ 53:=by
   rw [s3,if_pos rfl,rR]
   calc 2 ^ m*(xj es xW).length≤2 ^ 10*(4*2 ^ 40):=Nat.mul_le_mul b2 (by omega)
    _≤2 ^ 53:=by decide
  have big:MOST=2 ^ 60:=by decide
  have ok:(Dd.join xW xW).ok (xj (es++xZ m)):=by
   show(xj (es++xZ m) xW).length+(xj (es++xZ m) xW).length≤MOST
   omega
  have hr:∀a∈(Dd.join xW xW).refs,a=xW:=fun a ha=>by simpa [Dd.refs] using ha
  refine⟨?_,?_,fun a=> ?_⟩
  ·rw [e1]
   exact s1.snoc (e:=(xW, .join xW xW)) (fun a ha=>by rw [hr a ha,s2];exact ki.x) ok (Yi xW ahk _ (fun a ha=>by rw [hr a ha];exact ahk) _ ok (fun a ha=>by rw [hr a ha];omega)) trivial
  ·rw [e1,pW,s2]
   exact if_pos ki.x
  ·rw [e1,Ls]
   unfold upT
   by_cases z:a=xW
   ·subst z
    simp only [if_true]
    show xj (es++xZ m) xW++xj (es++xZ m) xW=_
    rw [s3,if_pos rfl,aen]
    congr 2
    rw [Nat.pow_succ]
    omega
   ·simp only [z,if_false]
    rw [s3,if_neg z]
theorem agx:fY (rowOf (xW, .join xW xW))="x join x x":=by
 rw [←aaV]
 decide+kernel
theorem acB(es:List St)(m:Nat):(es++xZ m).map (fun e=>aV (fY (rowOf e)))=es.map (fun e=>aV (fY (rowOf e)))++aD m (.str "x join x x"):=by
 rw [cC,List.map_replicate,agx]
theorem aju{es:List St}(st:StK es){i:Nat}(hi:i≤55){e:St}(he:es[i]? =some e){R:List Nat→List Rule}{N:List Nat→Option Nat}(h:KU es i R N)(hw:(lZ (es.take i)).length≤900):
 ∃qs k,jN [zB R N (lZ (es.take i)), .dat (.str (fY (rowOf e)))]= .ok (.str "ok") [zB (fun a=>if a=e.1 then qs else R a) (fun a=>if a=e.1 then k else N a) (lZ (es.take (i+1))), .un]∧KU es (i+1) (fun a=>if a=e.1 then qs else R a) fun a=>if a=e.1 then k else N a:=by
 obtain⟨qs,k,mt,ku⟩:=KU.step st hi he h
 have et:es.take (i+1)=es.take i++[e]:=by
  rw [bH,he]
  rfl
 refine⟨qs,k,?_,ku⟩
 have:=akE e.2 e.1 (st.rw_ i e he) hw mt
 rw [et,pW]
 exact this
end Sb
namespace Sb
open PySem PySem.Spec L2 Evl DL
theorem acP(rs:List Rule)(d:D):Bs [eY rs, .none,d]= .ok (.int 0):=by
 simp! only [Bs,Qs,Ip,uG]
theorem ahK(rs:List Rule)(g:Good rs)(f:Fits MOST rs)(hl:rs.length≤90000)(k:Nat)(h:k<rs.length)(s:Nat):Bs [eY rs, .int (k:Int), .str (s1 s)]= .ok (.int (((counts s rs).getD k 0:Nat):Int)):=by
 obtain⟨L,hL⟩:∃L,L=eY rs:=⟨_,rfl⟩
 have hnm:=Um rs k h
 have key:Qs [.dat L, .dat (.int (k:Int)), .dat (.str (s1 s)), .un, .un]= .rt (.int (((counts s rs).getD k 0:Nat):Int)):=by
  unfold Qs
  rw [lG (ρ' :=[.dat L, .dat (.int (k:Int)), .dat (.str (s1 s)), .un, .un]) (by simp! only [hL,hnm])]
  rw [lG (ρ' :=[.dat L, .dat (.int (k:Int)), .dat (.str (s1 s)), .un, .un]) (by simp! only [uG])]
  rw [lG (ρ' :=[.dat L, .dat (.int (k:Int)), .dat (.str (s1 s)), .own (fB (counts s [])), .un]) (by simp! only [];rfl)]
  obtain⟨ρ',hf,k4,rfl⟩:=KJ (mi:=iT (PB (d8 0) none (some (eO iH (d8 1) (eC (.int 1)))))) (g:=gN 4)
   (body:=iQ (eO kZ (eO fV (d8 4) (eC (.int 0))) (eC (.str "sign"))) (mW 3 (fu TY [(eO kZ (eO fV (d8 4) (eC (.int 1))) (d8 2))])) (iQ (eO kZ (eO fV (d8 4) (eC (.int 0))) (eC (.str "join"))) (mW 3 (eO iH (eO fV (gK 3) (eO fV (d8 4) (eC (.int 1)))) (eO fV (gK 3) (eO fV (d8 4) (eC (.int 2)))))) (mW 3 (eO lN (eO fV (gK 3) (eO fV (d8 4) (eC (.int 1)))) (eO fV (d8 4) (eC (.int 2)))))))
   (ρ:=[.dat L, .dat (.int (k:Int)), .dat (.str (s1 s)), .own (fB (counts s [])), .un]) (ds:=(rs.take (k+1)).map fH)
   (fun i ρ=>∃k4:Sl,ρ=[.dat L, .dat (.int (k:Int)), .dat (.str (s1 s)), .own (fB (counts s (rs.take i))),k4])
   (by
     have:=alo (ρ:=[.dat L, .dat (.int (k:Int)), .dat (.str (s1 s)), .own (fB (counts s [])), .un]) (m:=d8 0) (ma:=eO iH (d8 1) (eC (.int 1))) (k:=k+1) (ds:=rs.map fH) (by rw [hL];rfl) (by simp! only [];rfl)
     simp only [iT,this,List.map_take])
   ⟨_,rfl⟩
   (by
     rintro i d ρ hd ⟨k4,rfl⟩
     rw [aK,aP] at hd
     obtain⟨r,h1,rfl⟩:=hd
     have hi:=(au.mp h1).1
     rw [aZ] at hi
     rw [List.getElem?_take] at h1
     split at h1
     ·have et:rs.take (i+1)=rs.take i++[r]:=by
       rw [bH,h1]
       rfl
      have li:(counts s (rs.take i)).length=i:=by rw [Tt,aZ];omega
      have ok:r.ok i:=g i r h1
      have cle:∀a,(counts s (rs.take i)).getD a 0≤MOST:=fun a=>cQ (ale _ (one_le s) _ _) ((f.take i).get a)
      have hz:((counts s (rs.take i)).map fun(n:Nat)=>aF (n:Int)).length<sizeLine:=by
       rw [aC,li]
       exact lM (by omega)
      have fin:∀v:Nat,v=r.wt (one s) (counts s (rs.take i))→([.dat L, .dat (.int (k:Int)), .dat (.str (s1 s)), .own (.list (((counts s (rs.take i)).map fun(n:Nat)=>aF (n:Int))++[.int (v:Int)])), .dat (fH r)]:DL.Env)=[.dat L, .dat (.int (k:Int)), .dat (.str (s1 s)), .own (fB (counts s (rs.take (i+1)))), .dat (fH r)]:=fun v hv=>by
       rw [et,aaN,hv]
       simp [fB]
      refine⟨_,[.dat L, .dat (.int (k:Int)), .dat (.str (s1 s)), .own (fB (counts s (rs.take (i+1)))), .dat (fH r)],pP, .inl ?_,_,rfl⟩
      simp only [set_0,kW]
      cases r with
      |sign c=>
       rw [Dt (by simp! only [fH,gG])]
       rw [app_ok (ds:=(counts s (rs.take i)).map fun(n:Nat)=>aF (n:Int)) (d:= .int ((one s c:Nat):Int)) rfl (by simp! only [fH,gR,ago]) hz]
       exact congrArg Out.nx (fin _ rfl)
      |join a b=>
       rw [vU (by simp! only [fH,gG,js]),Dt (by simp! only [fH,gG])]
       rw [app_ok (ds:=(counts s (rs.take i)).map fun(n:Nat)=>aF (n:Int)) (d:= .int (((counts s (rs.take i)).getD a 0+(counts s (rs.take i)).getD b 0:Nat):Int)) rfl (by
        simp! only [fH,gR,lH,gY (show a<(counts s (rs.take i)).length by rw [li];exact ok.1),gY (show b<(counts s (rs.take i)).length by rw [li];exact ok.2)]
        rfl) hz]
       exact congrArg Out.nx (fin _ rfl)
      |times a n=>
       have m:=Rg (m:=(counts s (rs.take i)).getD a 0) (n:=n) 61 61 (dD (cle a) (by decide)) (dD ok.2.2 (by decide))
       rw [vU (by simp! only [fH,gG,ts]),vU (by simp! only [fH,gG,tj])]
       rw [app_ok (ds:=(counts s (rs.take i)).map fun(n:Nat)=>aF (n:Int)) (d:= .int (((counts s (rs.take i)).getD a 0*n:Nat):Int)) rfl (by
        simp! only [fH,gR,lH,gY (show a<(counts s (rs.take i)).length by rw [li];exact ok.1),m]) hz]
       exact congrArg Out.nx (fin _ rfl)
     ·cases h1)
  rw [lG hf]
  have el:(rs.take (k+1)).length=k+1:=by rw [aZ];omega
  rw [aC,el]
  have e2:=gY (ns:=counts s (rs.take (k+1))) (a:=k) (by rw [Tt,el];omega)
  have e3:(counts s rs).getD k 0=(counts s (rs.take (k+1))).getD k 0:=by
   have:=ajl (one s) (rs:=rs.take (k+1)) (i:=k) (by omega) (rs.drop (k+1))
   rw [bM] at this
   exact this
  rw [e3]
  simp! only [e2]
 simp only [Bs,jh,j9,aD,cW,dN,←hL,key]
end Sb
namespace Sb
open PySem PySem.Spec L2 Evl DL
theorem M7(i:Int):pK [.int i]= .ok (.bool true):=by
 simp! only [pK,K9,Bool.or_self]
end Sb
namespace Sb
open PySem PySem.Spec L2 Evl DL
theorem aa5(rs:List Rule)(g:Good rs)(f:Fits MOST rs)(hl:rs.length≤16700000)(k:Nat)(hk:k<rs.length)(p:Nat)(hp:p<(sizes rs).getD k 0):qK [eY rs,fB (sizes rs), .int (k:Int), .int (p:Int)]= .ok (.str (s1 (((texts rs).getD k []).getD p 0))):=by
 obtain⟨L,hL⟩:∃L,L=eY rs:=⟨_,rfl⟩
 obtain⟨S,hS⟩:∃S,S=fB (sizes rs):=⟨_,rfl⟩
 obtain⟨c,hc⟩:∃c,c=((texts rs).getD k []).getD p 0:=⟨_,rfl⟩
 rw [←hL,←hS,←hc]
 have ixr:∀(a:Nat) r,rs[a]? =some r→fV L (.int (a:Int))= .ok (fH r):=fun a r h=>by rw [hL];exact sY h
 have ixs:∀a:Nat,a<rs.length→fV S (.int (a:Int))= .ok (.int (((sizes rs).getD a 0:Nat):Int)):=fun a h=>by rw [hS];exact gY (by rw [jA];exact h)
 refine jD ?_
 show Rt (xK [.dat L, .dat S, .dat (.int (k:Int)), .dat (.int (p:Int)), .un]) _
 unfold xK
 refine mZ (pO (N:=fun ρ=>∃(a:Nat) (d3 k4:Sl),ρ=[.dat L, .dat S, .dat (.int (a:Int)),d3,k4]∧rs[a]? =some (.sign c)) (fun n ρ=>∃(q:Nat) (k4:Sl),ρ=[.dat L, .dat S, .dat (.int (n:Int)), .dat (.int (q:Int)),k4]∧n<rs.length∧q<(sizes rs).getD n 0∧((texts rs).getD n []).getD q 0=c) k (by omega) ⟨p,_,rfl,hk,hp,hc.symm⟩ ?_) ?_
 ·rintro n ρ ⟨q,k4,rfl,hn,hq,ht⟩
  have hr:rs[n]? =some rs[n]:=by simp [hn]
  obtain⟨r,er⟩:∃r,r=rs[n]:=⟨_,rfl⟩
  rw [←er] at hr
  have ix:=ixr n r hr
  have ok:=g n r hr
  have tx:=rY g hr
  have sz:=rG g hr
  rw [tx] at ht
  cases r with
  |sign s=>
   left
   refine⟨by simp! only [ix,fH,gG],n,_,_,rfl,?_⟩
   rw [hr]
   have q0:q=0:=by
    rw [sz] at hq
    simp only [Rule.size] at hq
    omega
   rw [q0] at ht
   have:s=c:=ht
   rw [this]
  |times a m=>
   right
   have ixa:=ixs a (by have:=ok.1;omega)
   have ap:=Pos.get g (show a<rs.length by have:=ok.1;omega)
   refine⟨by simp! only [ix,fH,gG,ts],a,ok.1,jT (ρ' :=[.dat L, .dat S, .dat (.int (a:Int)), .dat (.int ((q%(sizes rs).getD a 0:Nat):Int)), .dat (.int (a:Int))]) ?_ ⟨_,_,rfl,by have:=ok.1;omega,Nat.mod_lt _ ap,?_⟩⟩
   ·dsimp! only [ix,fH,gG,gR,ixa,jo]
    simp
   ·have hq' :q<m*((texts rs).getD a []).length:=by
     rw [gU,bU]
     rw [sz] at hq
     exact hq
    simp only [Rule.tx] at ht
    rw [Qp _ _ _ _ hq',gU] at ht
    exact ht
  |join a b=>
   right
   have ixa:=ixs a (by have:=ok.1;omega)
   by_cases h:q<(sizes rs).getD a 0
   ·have h' :(q:Int)<(((sizes rs).getD a 0:Nat):Int):=by omega
    refine⟨by simp! only [ix,fH,gG,js],a,ok.1,jT (ρ' :=[.dat L, .dat S, .dat (.int (a:Int)), .dat (.int (q:Int)), .dat (.int (a:Int))]) ?_ ⟨_,_,rfl,by have:=ok.1;omega,h,?_⟩⟩
    ·simp! only [ix,fH,gG,gR,ixa,jt,h']
    ·simp only [Rule.tx] at ht
     rwa [FW (by rw [gU];exact h)] at ht
   ·have h' :¬(q:Int)<(((sizes rs).getD a 0:Nat):Int):=by omega
    refine⟨by simp! only [ix,fH,gG,js],b,ok.2,jT (ρ' :=[.dat L, .dat S, .dat (.int (b:Int)), .dat (.int ((q-(sizes rs).getD a 0:Nat):Int)), .dat (.int (a:Int))]) ?_ ⟨_,_,rfl,by have:=ok.2;omega,?_,?_⟩⟩
    ·simp! only [ix,fH,gG,gR,lH,ixa,jt,h']
     rw [show(q:Int)-(((sizes rs).getD a 0:Nat):Int)=((q-(sizes rs).getD a 0:Nat):Int) by omega]
    ·rw [sz] at hq
     simp only [Rule.size] at hq
     omega
    ·simp only [Rule.tx] at ht
     rwa [Fq (by rw [gU];omega),gU] at ht
 ·rintro ρ ⟨a,d3,k4,rfl,ha⟩
  exact jB (d:= .str (s1 c)) (by simp! only [ixr a _ ha,fH,gR]) rfl
theorem afG(rs:List Rule)(g:Good rs)(f:Fits MOST rs)(hl:rs.length≤16700000)(n:Option Nat)(hn:gh rs n)(p:Nat)(hp:p<lD rs n):qK [eY rs,fB (sizes rs),eZ n, .int (p:Int)]= .ok (.str (s1 ((iG rs n).getD p 0))):=by
 cases n with
 |none=>exact absurd hp (Nat.not_lt_zero _)
 |some k=>exact aa5 rs g f hl k (hn k rfl) p hp
end Sb
namespace Sb
open PySem PySem.Spec L2 Evl DL
theorem aeF(rs:List Rule)(n:Option Nat)(hn:gh rs n):pZ [fB (sizes rs),eZ n]= .ok (.int ((lD rs n:Nat):Int)):=by
 cases n with
 |none=>simp! only [pZ,zm,eZ,lD];rfl
 |some k=>
  simp! only [pZ,zm,eZ,lD,gY (show k<(sizes rs).length by rw [jA];exact hn k rfl)]
end Sb
namespace Sb
open PySem PySem.Spec L2 Evl DL
theorem alY:∀c∈Lz,(Txt.isalpha (s1 c)||Txt.isdigit (s1 c))=true:=by decide+kernel
theorem ZW(r:Rule)(i:Nat)(h:r.ok i):lY [fH r, .int (i:Int)]= .ok (.bool true):=by
 have hp:vW (.int 2) (.int 60)= .ok (.int ((MOST:Nat):Int)):=wg (by decide) (by decide) (by decide)
 cases r with
 |sign c=>
  have z:(s1 c).length≤sizeLine:=show 1≤sizeLine by decide
  have l1:je [.str (s1 c)]= .ok (.int 1):=Tv z
  have ad:=alY c h
  simp! only [lY,qT,fH,gG,gR,l1,eS0]
  cases ha:Txt.isalpha (s1 c)
  ·rw [ha,Bool.false_or] at ad
   simp only [ad]
  ·rfl
 |join a b=>
  simp! only [lY,qT,fH,gG,gR,lH,M7,ji,js,show(0:Int)≤(a:Int) by omega,show(a:Int)<(i:Int) by have:=h.1;omega,show(0:Int)≤(b:Int) by omega,show(b:Int)<(i:Int) by have:=h.2;omega]
 |times a n=>
  simp! only [lY,qT,fH,gG,gR,lH,M7,ji,ts,tj,hp,show(0:Int)≤(a:Int) by omega,show(a:Int)<(i:Int) by have:=h.1;omega,show(1:Int)≤(n:Int) by have:=h.2.1;omega,show(n:Int)≤((MOST:Nat):Int) by have:=h.2.2;omega]
theorem Ud(rs:List Rule)(g:Good rs)(f:Fits MOST rs)(hl:rs.length≤16700000):uF [eY rs]= .ok (fB (sizes rs)):=by
 obtain⟨L,hL⟩:∃L,L=eY rs:=⟨_,rfl⟩
 rw [←hL]
 refine jD ?_
 show Rt (xH [.dat L, .un, .un, .un]) _
 unfold xH
 refine fP (ρ' :=[.dat L, .own (fB (sizes (rs.take 0))), .un, .un]) (by simp! only [];rfl) ?_
 refine mZ (N:=fun ρ=>∃k2 k3:Sl,ρ=[.dat L, .own (fB (sizes rs)),k2,k3]) ?_ ?_
 ·have h:=nY (mi:=iT (d8 0)) (g:=gN 2) (body:=(fG (gH 3 (eC (.int 1)))
 (fG (iQ (eO kZ (eO fV (d8 2) (eC (.int 0))) (eC (.str "join"))) (gH 3 (eO iH (eO fV (gK 1) (eO fV (d8 2) (eC (.int 1)))) (eO fV (gK 1) (eO fV (d8 2) (eC (.int 2)))))) (iQ (eO kZ (eO fV (d8 2) (eC (.int 0))) (eC (.str "times"))) (gH 3 (eO lN (eO fV (gK 1) (eO fV (d8 2) (eC (.int 1)))) (eO fV (d8 2) (eC (.int 2))))) fU))
 (mW 1 (d8 3))))) (ρ:=[.dat L, .own (fB (sizes (rs.take 0))), .un, .un]) (ds:=rs.map fH)
   (fun i ρ=>∃k2 k3:Sl,ρ=[.dat L, .own (fB (sizes (rs.take i))),k2,k3])
   (by simp only [iT,jM,hL,eY]) ⟨_,_,rfl⟩ (by
    rintro i d ρ hd ⟨k2,k3,rfl⟩
    rw [aK,aP] at hd
    obtain⟨r,h1,rfl⟩:=hd
    have hi:=(au.mp h1).1
    have et:rs.take (i+1)=rs.take i++[r]:=by
     rw [bH,h1]
     rfl
    obtain⟨sz,hsz⟩:∃sz,sz=sizes (rs.take i):=⟨_,rfl⟩
    have li:sz.length=i:=by rw [hsz,jA,aZ];omega
    have ok:=g i r h1
    have fm:∀n∈sz,n≤MOST:=by rw [hsz];exact f.take i
    rw [←hsz]
    refine⟨_,pP,?_⟩
    simp only [set_0,kW]
    refine iD (ρ' :=[.dat L, .own (fB sz), .dat (fH r), .dat (.int 1)]) (by simp! only []) ?_
    refine iD (ρ' :=[.dat L, .own (fB sz), .dat (fH r), .dat (.int ((r.size sz:Nat):Int))]) ?_ ?_
    ·cases r with
     |sign c=>simp! only [fH,gG,Rule.size];rfl
     |join a b=>
      simp! only [fH,gG,gR,lH,js,gY (show a<sz.length by rw [li];exact ok.1),gY (show b<sz.length by rw [li];exact ok.2),Rule.size]
      rfl
     |times a n=>
      have m:=Rg (m:=sz.getD a 0) (n:=n) 61 61 (dD (Yh fm) (by decide)) (dD ok.2.2 (by decide))
      simp! only [fH,gG,gR,lH,ts,tj,gY (show a<sz.length by rw [li];exact ok.1),m,Rule.size]
    ·refine jT (ρ' :=[.dat L, .own (fB (sizes (rs.take (i+1)))), .dat (fH r), .dat (.int ((r.size sz:Nat):Int))]) ?_ ⟨_,_,rfl⟩
     rw [app_ok (ds:=sz.map fun(n:Nat)=>aF (n:Int)) (d:= .int ((r.size sz:Nat):Int)) rfl rfl (by rw [aC,li];exact lM (by omega)),et,sU,←hsz]
     simp [fB])
  rw [aC,bV] at h
  exact h
 ·rintro ρ ⟨k2,k3,rfl⟩
  exact⟨_,rfl,rfl⟩
theorem ak2(ns:List Nat)(m:Nat)(h0:1≤ns.length)(h:∀n∈ns,n≤m):∃z:Int,Vf [fB ns]= .ok (.int z)∧z≤(m:Int):=by
 cases ns with
 |nil=>simp at h0
 |cons n ns=>
  refine⟨Yk (n:Int) (ns.map fun(n:Nat)=>(n:Int)),by simp only [fB,bA,Vf,toInts,aa9];rfl,?_⟩
  have:=Sq (ns.map fun(n:Nat)=>(n:Int)) (n:Int)
  rcases aH.mp this with e|e
  ·rw [e]
   have:=h n (by simp)
   omega
  ·obtain⟨y,hy,ey⟩:=cG.mp e
   have:=h y (aN _ hy)
   omega
theorem akL(ws:List (List Nat))(M:List Nat→Option Nat):G9 (ws.map fun a=>bL [iI a,eZ (M a)]) (ws.map iI)=ws.map fun a=>bL [.tuple [iI a,eZ (M a)],iI a]:=by
 unfold G9
 induction ws with
 |nil=>rfl
 |cons a ws ih=>simp only [bA,List.zipWith_cons_cons,ih]
theorem akf(rs:List Rule)(g:Good rs)(f:Fits MOST rs)(hl:rs.length≤16700000)(ws:List (List Nat))(hw:ws.length≤1000)(hwl:∀a∈ws,a.length≤1000)(M:List Nat→Option Nat)(hM:∀a∈ws,gh rs (M a)):
 Ei [.tuple [eY rs,namesW ws M], .list (ws.map iI)]= .ok (.bool true):=by
 obtain⟨L,hL⟩:∃L,L=eY rs:=⟨_,rfl⟩
 have lenL:je [L]= .ok (.int ((rs.length:Nat):Int)):=by rw [hL];exact uV rs
 have isL:isT "tuple" L=true:=by rw [hL];rfl
 obtain⟨N,hN⟩:∃N,N=namesW ws M:=⟨_,rfl⟩
 obtain⟨S,hS⟩:∃S,S=cJ (ws.map iI):=⟨_,rfl⟩
 have lenN_:je [N]= .ok (.int ((ws.length:Nat):Int)):=by rw [hN,Ae,aC]
 have lenS:je [S]= .ok (.int ((ws.length:Nat):Int)):=by rw [hS,Ae,aC]
 have isN:isT "list" N=true:=by rw [hN];rfl
 have hp:vW (.int 2) (.int 60)= .ok (.int ((MOST:Nat):Int)):=wg (by decide) (by decide) (by decide)
 have ll:=Ud rs g f hl
 rw [←hL] at ll⊢
 rw [←hN,←hS]
 refine jD ?_
 show Rt (FZ [.dat (.tuple [L,N]), .dat S, .un, .un, .un]) _
 unfold FZ
 refine fP (ρ' :=[.dat (.tuple [L,N]), .dat S, .un, .un, .un]) (by simp! only [gG,isL]) ?_
 refine fP (ρ' :=[.dat (.tuple [L,N]), .dat S, .un, .un, .un]) (by simp! only [gR,isN,lenN_,lenS]) ?_
 refine mZ (N:=fun ρ=>∃k2:Sl,ρ=[.dat (.tuple [L,N]), .dat S,k2, .un, .un]) ?_ ?_
 ·have h:=nY (mi:=Vh (fu je [(eO fV (d8 0) (eC (.int 0)))])) (g:=gN 2) (body:=(iQ (mF (fu lY [(eO fV (eO fV (d8 0) (eC (.int 0))) (d8 2)),(d8 2)])) (gA (eC (.bool false))) fU))
   (ρ:=[.dat (.tuple [L,N]), .dat S, .un, .un, .un]) (ds:=(di rs.length).map fun(i:Nat)=>aF (i:Int))
   (fun i ρ=>∃k2:Sl,ρ=[.dat (.tuple [L,N]), .dat S,k2, .un, .un])
   (by rw [←Dy];exact aae (by simp! only [gG,lenL]) (by omega) (by omega)) ⟨_,rfl⟩ (by
    rintro i d ρ hd ⟨k2,rfl⟩
    rw [aK,aP] at hd
    obtain⟨j,h1,rfl⟩:=hd
    have hi:=(au.mp h1).1
    have hij:j=i:=by
     have:=(au.mp h1).2
     simpa using this.symm
    subst hij
    have hj:j<rs.length:=by simpa using hi
    have hr:rs[j]? =some rs[j]:=by simp [hj]
    obtain⟨r,er⟩:∃r,r=rs[j]:=⟨_,rfl⟩
    rw [←er] at hr
    have ix:fV L (.int (j:Int))= .ok (fH r):=by rw [hL];exact sY hr
    exact⟨_,pP,jT (ρ' :=[.dat (.tuple [L,N]), .dat S, .dat (.int (j:Int)), .un, .un]) (by simp! only [gG,ix,ZW r j (g j r hr)]) ⟨_,rfl⟩⟩)
  obtain⟨ρ,e,k2,rfl⟩:=h
  exact⟨_,e,k2,rfl⟩
 rintro ρ ⟨k2,rfl⟩
 refine mZ (N:=fun ρ=>∃k3 k4:Sl,ρ=[.dat (.tuple [L,N]), .dat S,k2,k3,k4]) ?_ ?_
 ·have zl:=akL ws M
  have h:=nY (mi:=iZ (eO fV (d8 0) (eC (.int 1))) (d8 1)) (g:=gT [(gN 3),(gN 4)]) (body:=(fG (iQ (wM (mF (CJ "tuple" (d8 3))) (wM (eO xX (fu je [(d8 3)]) (eC (.int 2))) (wM (mF (CJ "str" (eO fV (d8 3) (eC (.int 0))))) (eO xX (eO fV (d8 3) (eC (.int 0))) (d8 4))))) (gA (eC (.bool false))) fU)
 (iQ (oU (eO pB (eO fV (d8 3) (eC (.int 1))) (eC .none)) (wM (mF (fu pK [(eO fV (d8 3) (eC (.int 1)))])) (mF (ji M6 Jl (eC (.int 0)) (eO fV (d8 3) (eC (.int 1))) (fu je [(eO fV (d8 0) (eC (.int 0)))]))))) (gA (eC (.bool false))) fU)))
   (ρ:=[.dat (.tuple [L,N]), .dat S,k2, .un, .un]) (ds:=ws.map fun a=>bL [.tuple [iI a,eZ (M a)],iI a])
   (fun i ρ=>∃k3 k4:Sl,ρ=[.dat (.tuple [L,N]), .dat S,k2,k3,k4])
   (by rw [←zl];exact alU (by simp! only [gR,hN]) (by simp! only [hS])) ⟨_,_,rfl⟩ (by
    rintro i d ρ hd ⟨k3,k4,rfl⟩
    rw [aK,aP] at hd
    obtain⟨a,h1,rfl⟩:=hd
    have ha:a∈ws:=bf h1
    have hn:=hM a ha
    refine⟨[.dat (.tuple [L,N]), .dat S,k2, .dat (.tuple [iI a,eZ (M a)]), .dat (iI a)],rfl,?_⟩
    refine iD (ρ' :=[.dat (.tuple [L,N]), .dat S,k2, .dat (.tuple [iI a,eZ (M a)]), .dat (iI a)]) (by
     simp! only [gG,iI]) ?_
    refine jT (ρ' :=[.dat (.tuple [L,N]), .dat S,k2, .dat (.tuple [iI a,eZ (M a)]), .dat (iI a)]) ?_ ⟨_,_,rfl⟩
    cases hm:M a with
    |none=>simp! only [eZ,gR,pB,uG]
    |some k=>simp! only [eZ,gG,gR,pB,uG,M7,ji,lenL,show(0:Int)≤(k:Int) by omega,show(k:Int)<(rs.length:Int) by have:=hn k hm;omega])
  obtain⟨ρ,e,k3,k4,rfl⟩:=h
  exact⟨_,e,k3,k4,rfl⟩
 rintro ρ ⟨k3,k4,rfl⟩
 by_cases h0:rs.length=0
 ·have h0' :((rs.length:Nat):Int)=0:=by omega
  exact jB (d:= .bool true) (by simp! only [gG,lenL,h0']) rfl
 ·have h0' :¬((rs.length:Nat):Int)=0:=by omega
  obtain⟨z,hz,hz2⟩:=ak2 (sizes rs) MOST (by rw [jA];omega) f
  exact jB (d:= .bool true) (by simp! only [gG,lenL,h0',ll,hz,hp,hz2]) rfl
end Sb
namespace Sb
open PySem PySem.Spec L2 Evl DL
theorem aeu(s:Nat){rs:List Rule}(g:Good rs):∀k,k<rs.length→(counts s rs).getD k 0=((texts rs).getD k []).count s:=by
 revert g
 refine snocInd (P:=fun rs=>Good rs→∀k,k<rs.length→(counts s rs).getD k 0=((texts rs).getD k []).count s) (fun _ k h=>by simp at h) (fun rs r ih go k h=> ?_) rs
 obtain⟨g1,r1⟩:=go.init
 have ih' :=ih g1
 have e:counts s (rs++[r])=counts s rs++[r.wt (fun c=>if c=s then 1 else 0) (counts s rs)]:=Ew _ _ _
 have ln:(counts s rs).length=rs.length:=Qt _ _
 rw [e]
 by_cases z:k<rs.length
 ·rw [getD_snoc,if_pos (by omega),jg z]
  exact ih' k z
 ·have e1:k=rs.length:=by simp at h;omega
  subst e1
  rw [getD_snoc,if_neg (by omega),if_pos ln.symm,lV]
  cases r with
  |sign c=>
   simp only [Rule.wt,Rule.tx,List.count_cons,List.count_nil]
   by_cases q:c=s
   ·simp [q]
   ·simp [q]
  |join a b=>simp only [Rule.wt,Rule.tx,List.count_append,ih' a r1.1,ih' b r1.2]
  |times a n=>
   simp only [Rule.wt,Rule.tx,ih' a r1.1]
   have:∀(n:Nat) (A:List Nat),(aD n A).flatten.count s=n*A.count s:=by
    intro n A
    induction n with
    |zero=>simp
    |succ n ihn=>
     rw [cI,dw,List.count_append,ihn,Nat.succ_mul]
     omega
   rw [this,bU]
theorem aeL(s n:Nat)(A:List Nat):(aD n A).flatten.count s=n*A.count s:=by
 induction n with
 |zero=>simp
 |succ n ihn=>
  rw [cI,dw,List.count_append,ihn,Nat.succ_mul]
  omega
theorem am3:Dm xW:=by unfold Dm;decide+kernel
theorem am9:Dm yW:=by unfold Dm;decide+kernel
theorem alz(rs:List Rule)(M:List Nat→Option Nat)(g:Good rs)(f:Fits MOST rs)(rl:rs.length≤8000000){es:List St}{ns:List (Dd Nat)}{ix:List Nat→Nat}(ki:KI es ns ix)(hl:es.length≤40)(tx:∀a∈lZ es,Jk rs (M a) (xj es a))(c:Int)(h0:0≤c)(h1:c<10 ^ 40):
 vD [.tuple [eY rs,namesW (MT (lZ es)) M], .tuple [nO es,jr ns,fB (zG ns),Ii ix (lZ es)], .int c]= .ok (.bool true):=by
 have nl:=ki.l
 have wl:=JQ es
 have pm:=Mq (lZ es)
 obtain⟨sw,hsw⟩:∃sw,sw=MT (lZ es):=⟨_,rfl⟩
 have so:=Yj (fun a=>aF ((ix a:Nat):Int)) (lZ es) (by omega)
 rw [←hsw] at pm so⊢
 have swl:sw.length≤40:=by rw [pm.length_eq];omega
 have mem:∀a∈sw,a∈lZ es:=fun a ha=>pm.mem_iff.mp ha
 have td:=akf rs g f (by omega) sw (by omega) (fun a ha=>by have:=(ki.wok a (mem a ha)).2.1;omega) M (fun a ha=>(tx a (mem a ha)).nm)
 obtain⟨FD,hFD⟩:∃FD,FD=bL [eY rs,namesW sw M]:=⟨_,rfl⟩
 obtain⟨RW,hRW⟩:∃RW,RW=nO es:=⟨_,rfl⟩
 obtain⟨KD,hKD⟩:∃KD,KD=jr ns:=⟨_,rfl⟩
 obtain⟨SD,hSD⟩:∃SD,SD=fB (zG ns):=⟨_,rfl⟩
 obtain⟨NM,hNM⟩:∃NM,NM=Ii ix (lZ es):=⟨_,rfl⟩
 obtain⟨MD,hMD⟩:∃MD,MD=bL [RW,KD,SD,NM]:=⟨_,rfl⟩
 have gN:∀a∈lZ es,jE NM (iI a)= .ok (.int ((ix a:Nat):Int)):=fun a ha=>by rw [hNM];exact Fo _ ha
 rw [←hFD] at td⊢
 have so:qu NM= .ok (.list (sw.map iI)):=by rw [hNM];exact so
 rw [show bL [nO es,jr ns,fB (zG ns),Ii ix (lZ es)]=MD by rw [hMD,hRW,hKD,hSD,hNM]]
 have f0:fV FD (.int 0)= .ok (eY rs):=by rw [hFD];exact gG _ _
 have f1:fV FD (.int 1)= .ok (namesW sw M):=by rw [hFD];exact gR _ _ _
 obtain⟨SZ,hSZ⟩:∃SZ,SZ=fB (sizes rs):=⟨_,rfl⟩
 obtain⟨RD,hRD⟩:∃RD,RD=eY rs:=⟨_,rfl⟩
 have lg:=Ud rs g f (by omega)
 rw [←hSZ,←hRD] at lg
 rw [←hRD] at f0
 refine jD ?_
 show Rt (vL [.dat (FD), .dat (MD), .dat (.int c), .un, .un, .un, .un, .un, .un, .un, .un, .un]) _
 unfold vL
 refine fP (ρ' :=[.dat (FD), .dat (MD), .dat (.int c), .dat (RW), .dat (KD), .dat (SD), .dat (NM), .un, .un, .un, .un, .un]) (nA (d:=MD) rfl (by rw [hMD];rfl)) ?_
 refine fP (ρ' :=[.dat (FD), .dat (MD), .dat (.int c), .dat (RW), .dat (KD), .dat (SD), .dat (NM), .un, .un, .un, .un, .un]) (by
  have e2:mG (G7 qu (d8 6)) [.dat (FD), .dat (MD), .dat (.int c), .dat (RW), .dat (KD), .dat (SD), .dat (NM), .un, .un, .un, .un, .un]= .ok (.list (sw.map iI)):=by
   rw [oN,Jd]
   simp only [jZ,jM,iy,so]
   rfl
  rw [vU]
  ·rfl
  ·rw [mF,kh (x:=FD) rfl e2 td]
   rfl) ?_
 refine fP (ρ' :=[.dat (FD), .dat (MD), .dat (.int c), .dat (RW), .dat (KD), .dat (SD), .dat (NM), .dat (SZ), .un, .un, .un, .un]) (lK (by
  rw [oN,j5 (x:=RD) (by simp! only [f0]) lg,iy,hSZ]
  exact Ma _)) ?_
 refine mZ (N:=fun _=>True) ?_ (fun ρ _=>jB rfl rfl)
 obtain⟨ρ,e,_⟩:=nY (mi:=iL (eO fV (d8 0) (eC (.int 1)))) (g:=gT [(DL.gN 8),(DL.gN 9)]) (body:=(fG (gH 10 (eO jE (d8 6) (d8 8)))
 (fG (gH 11 (fu nJ [(d8 2),(eO fV (d8 5) (d8 10))]))
 (fG (iQ (eO xX (fu pZ [(d8 7),(d8 9)]) (eO fV (d8 5) (d8 10))) (gA (eC (.bool false))) fU)
 (iQ (eO xX (fu qK [(eO fV (d8 0) (eC (.int 0))),(d8 7),(d8 9),(d8 11)]) (fu o8 [(d8 4),(d8 5),(d8 10),(d8 11)])) (gA (eC (.bool false))) fU)))))
  (ρ:=[.dat (FD), .dat (MD), .dat (.int c), .dat (RW), .dat (KD), .dat (SD), .dat (NM), .dat (SZ), .un, .un, .un, .un]) (ds:=sw.map fun a=>bL [iI a,eZ (M a)])
  (fun i ρ=>∃k8 k9 k10 k11:Sl,ρ=[.dat (FD), .dat (MD), .dat (.int c), .dat (RW), .dat (KD), .dat (SD), .dat (NM), .dat (SZ),k8,k9,k10,k11])
  (Nf (by simp! only [f1])) ⟨_,_,_,_,rfl⟩ (by
   rintro i d ρ hd ⟨k8,k9,k10,k11,rfl⟩
   rw [aK,aP] at hd
   obtain⟨a,ha,rfl⟩:=hd
   have am:a∈lZ es:=mem a (bf ha)
   obtain⟨i1,i2⟩:=ki.ix a am
   have tr:=tx a am
   obtain⟨l1,l2⟩:=ki.le a am
   have b1:(2:Nat) ^ es.length≤2 ^ 40:=dF (by omega) (by omega)
   obtain⟨w,hw⟩:∃w,w=xj es a:=⟨_,rfl⟩
   rw [←hw] at i2 tr l1 l2
   have ln:=tr.len
   obtain⟨N,hN⟩:∃N,N=M a:=⟨_,rfl⟩
   rw [←hN] at tr ln⊢
   refine⟨_,ack,?_⟩
   simp only [set_0,kW]
   refine iD (ρ' :=[.dat (FD), .dat (MD), .dat (.int c), .dat (RW), .dat (KD), .dat (SD), .dat (NM), .dat (SZ), .dat (iI a), .dat (eZ N), .dat (.int ((ix a:Nat):Int)),k11]) (lK (by simp! only [gN a am])) ?_
   have ixs:fV SD (.int ((ix a:Nat):Int))= .ok (.int ((w.length:Nat):Int)):=by
    rw [hSD,gY (by rw [Ba];exact i1),GF,i2]
   obtain⟨p,hp,ep⟩:=aaU c h0 (by omega) w.length l1 (by omega)
   refine iD (ρ' :=[.dat (FD), .dat (MD), .dat (.int c), .dat (RW), .dat (KD), .dat (SD), .dat (NM), .dat (SZ), .dat (iI a), .dat (eZ N), .dat (.int ((ix a:Nat):Int)), .dat (.int (p:Int))]) (lK (kh (x:= .int c) (y:= .int ((w.length:Nat):Int)) rfl (by simp! only [ixs]) ep)) ?_
   have le:=aeF rs N tr.nm
   rw [←hSZ,ln] at le
   refine iD (ρ' :=[.dat (FD), .dat (MD), .dat (.int c), .dat (RW), .dat (KD), .dat (SD), .dat (NM), .dat (SZ), .dat (iI a), .dat (eZ N), .dat (.int ((ix a:Nat):Int)), .dat (.int (p:Int))]) (by
    rw [vU]
    ·rfl
    ·rw [jK,kh (x:=SZ) (y:=eZ N) rfl rfl le]
     simp! only [ixs]) ?_
   have sa:=afG rs g f (by omega) N tr.nm p (by rw [ln];exact hp)
   rw [tr.t,←hSZ,←hRD] at sa
   have so2:=ac3 ns ki.g ki.kn (by omega) (ix a) i1 p (by rw [i2];exact hp)
   rw [i2,←hKD,←hSD] at so2
   refine jT (ρ' :=[.dat (FD), .dat (MD), .dat (.int c), .dat (RW), .dat (KD), .dat (SD), .dat (NM), .dat (SZ), .dat (iI a), .dat (eZ N), .dat (.int ((ix a:Nat):Int)), .dat (.int (p:Int))]) ?_ ⟨_,_,_,_,rfl⟩
   rw [vU]
   ·rfl
   ·rw [jK,vz (x:=RD) (y:=SZ) (z:=eZ N) (w:= .int (p:Int)) (by simp! only [f0]) rfl rfl rfl sa,iy,vz (x:=KD) (y:=SD) (z:= .int ((ix a:Nat):Int)) (w:= .int (p:Int)) rfl rfl rfl rfl so2]
    simp! only [])
 exact⟨ρ,e,trivial⟩
theorem amW{R:List Nat→List Rule}{N:List Nat→Option Nat}{ws:List (List Nat)}{a v:List Nat}(ha:a∈ws)(hw:a=xW∨a=yW)(t:Jk (R a) (N a) v)(hl:(R a).length≤900)(hv:v.length≤MOST):
 jN [zB R N ws, .dat (.str (U4 (.one .length a)))]= .ok (.str (fY (TL.numL v.length))) [zB R N ws, .un]∧
 (∀p,p<v.length→jN [zB R N ws, .dat (.str (U4 (.sign a p)))]= .ok (.str (s1 (v.getD p 0))) [zB R N ws, .un])∧
 (∀s∈Lz,jN [zB R N ws, .dat (.str (U4 (.count a s)))]= .ok (.str (fY (TL.numL (v.count s)))) [zB R N ws, .un]):=by
 have wa:BR a∧Dm a:=by
  rcases hw with rfl|rfl
  ·exact⟨ahk,am3⟩
  ·exact⟨ak0,am9⟩
 have big:MOST<10 ^ 19:=by decide
 have one:∀x∈[a],x∈ws:=fun x hx=>by
  have:x=a:=by simpa using hx
  rw [this]
  exact ha
 have okw:∀x∈[a],BR x:=fun x hx=>by
  have:x=a:=by simpa using hx
  rw [this]
  exact wa.1
 have okv:∀x∈[a],Dm x:=fun x hx=>by
  have:x=a:=by simpa using hx
  rw [this]
  exact wa.2
 refine⟨?_,fun p hp=> ?_,fun s hs=> ?_⟩
 ·have ln:=tO (R a) t.g t.f (by omega) (N a) t.nm
  rw [t.len] at ln
  have sn:=yM v.length (by omega)
  have ab:qN [.str "length",eY (R a),eZ (N a)]= .ok (.str (fY (TL.numL v.length))):=by
   obtain⟨RD,hRD⟩:∃RD,RD=eY (R a):=⟨_,rfl⟩
   obtain⟨ND,hND⟩:∃ND,ND=eZ (N a):=⟨_,rfl⟩
   rw [←hRD,←hND] at ln⊢
   simp! only [qN,OD,ln,sn]
  obtain⟨o,e⟩:=aiI R N ws a ha (v:="length") (.inl rfl) ab (by simp)
  exact Ut (q:= .one .length a) ⟨okw,okv,by show(0:Nat)<10 ^ 19;decide,fun p hp=>by simp [As.sgs] at hp⟩ one (by show¬("length":Str)="drop";decide+kernel) (by show¬("length":Str)="swap";decide+kernel) e
 ·have sa:wI [eY (R a),eZ (N a), .int (p:Int)]= .ok (.str (s1 (v.getD p 0))):=by
   have tt:=t.t
   have tl:=t.len
   have nm:=t.nm
   cases hN:N a with
   |none=>
    rw [hN] at tl
    simp only [lD] at tl
    omega
   |some k=>
    rw [hN] at tl tt nm
    have hk:=nm k rfl
    have:=acI (R a) t.g t.f (by omega) k hk p (by
     have e:(sizes (R a)).getD k 0=v.length:=tl
     omega)
    have e2:(texts (R a)).getD k []=v:=tt
    rw [e2] at this
    exact this
  have ab:mj [.str "sign",eY (R a),eZ (N a), .int (p:Int)]= .ok (.str (s1 (v.getD p 0))):=by
   obtain⟨RD,hRD⟩:∃RD,RD=eY (R a):=⟨_,rfl⟩
   obtain⟨ND,hND⟩:∃ND,ND=eZ (N a):=⟨_,rfl⟩
   rw [←hRD,←hND] at sa⊢
   simp! only [mj,Ax,aiu,sa]
  obtain⟨o,e⟩:=aaz R N ws a ha (v:="sign") (.inr (.inl rfl)) ab (by simp)
  exact Ut (q:= .sign a p) ⟨okw,okv,by show p<10 ^ 19;omega,fun p hp=>by simp [As.sgs] at hp⟩ one (by show¬("sign":Str)="drop";decide+kernel) (by show¬("sign":Str)="swap";decide+kernel) e
 ·have cn:Bs [eY (R a),eZ (N a), .str (s1 s)]= .ok (.int ((v.count s:Nat):Int)):=by
   have tt:=t.t
   have nm:=t.nm
   cases hN:N a with
   |none=>
    rw [hN] at tt
    rw [←tt]
    exact acP (R a) _
   |some k=>
    rw [hN] at tt nm
    have hk:=nm k rfl
    have:=ahK (R a) t.g t.f (by omega) k hk s
    rw [aeu s t.g k hk] at this
    have e2:(texts (R a)).getD k []=v:=tt
    rw [e2] at this
    exact this
  have sn:=yM (v.count s) (by have:=List.count_le_length (a:=s) (l:=v);omega)
  have ab:mj [.str "count",eY (R a),eZ (N a), .str (s1 s)]= .ok (.str (fY (TL.numL (v.count s)))):=by
   obtain⟨RD,hRD⟩:∃RD,RD=eY (R a):=⟨_,rfl⟩
   obtain⟨ND,hND⟩:∃ND,ND=eZ (N a):=⟨_,rfl⟩
   rw [←hRD,←hND] at cn⊢
   simp! only [mj,Ax,cn,sn]
  obtain⟨o,e⟩:=aaz R N ws a ha (v:="count") (.inl rfl) ab (by simp)
  exact Ut (q:= .count a s) ⟨okw,okv,by show(0:Nat)<10 ^ 19;decide,fun p hp=>by
   have:p=[s]:=by simpa [As.sgs] using hp
   rw [this]
   exact⟨by simp,by simp,fun c hc=>by
    have:c=s:=by simpa using hc
    rw [this]
    exact hs⟩⟩ one (by show¬("count":Str)="drop";decide+kernel) (by show¬("count":Str)="swap";decide+kernel) e
end Sb
namespace Sb
open PySem PySem.Spec L2 Evl DL
theorem akU(a:List Nat)(h:a.length≤1000):iH (.str "length ") (iI a)= .ok (.str (U4 (.one .length a))):=by
 have e:("length ":Str)=fY [108,101,110,103,116,104,32]:=by decide+kernel
 have e2:("length":Str).cps.toList=[108,101,110,103,116,104]:=by decide+kernel
 unfold iI
 rw [e,xU (by simp;omega)]
 simp [U4,As.row,As.verb,As.args,V1.s,TL.joinL,e2]
theorem aip(a n:List Nat)(p:Nat)(hn:n=TL.numL p)(h:a.length≤1000)(hl:n.length≤1000):((iH (.str "sign ") (iI a)).bind fun x=>(iH x (.str " ")).bind fun x=>iH x (.str (fY n)))= .ok (.str (U4 (.sign a p))):=by
 have e:("sign ":Str)=fY [115,105,103,110,32]:=by decide+kernel
 have e2:("sign":Str).cps.toList=[115,105,103,110]:=by decide+kernel
 unfold iI
 rw [e,xU (by simp;omega),iy,sp_,xU (by simp;omega),iy,xU (by simp;omega)]
 simp [U4,As.row,As.verb,As.args,TL.joinL,e2,hn]
theorem agh(a:List Nat)(s:Nat)(h:a.length≤1000):((iH (.str "count ") (iI a)).bind fun x=>(iH x (.str " ")).bind fun x=>iH x (.str (s1 s)))= .ok (.str (U4 (.count a s))):=by
 have e:("count ":Str)=fY [99,111,117,110,116,32]:=by decide+kernel
 have e2:("count":Str).cps.toList=[99,111,117,110,116]:=by decide+kernel
 have e3:s1 s=fY [s]:=rfl
 unfold iI
 rw [e,xU (by simp;omega),iy,sp_,xU (by simp;omega),iy,e3,xU (by simp;omega)]
 simp [U4,As.row,As.verb,As.args,TL.joinL,e2]
theorem abr{α:Type}(x:α):∀m:Nat,(aD m [x]).flatten=aD m x
 |0=>rfl
 |m+1=>by rw [cI,cI,dw,abr x m];rfl
theorem Jy(x:Str):xX (.str x) (.str x)= .ok (.bool false):=by rw [abY];simp
theorem ajy(d0 d1 d2 d3:Int)(dt:List Int)(hb:∀c∈d0::d1::d2::d3::dt,0≤c∧c<10 ^ 40){es:List St}{ns:List (Dd Nat)}{ix:List Nat→Nat}(ki:KI es ns ix)(hl:es.length≤40)(s:Nat)(hs:s∈Lz):
 tX [.tuple [nO es,jr ns,fB (zG ns),Ii ix (lZ es)], .list ((d0::d1::d2::d3::dt).map aF), .str (s1 s)]= .ok (.bool true):=by
 have nl:=ki.l
 have wl:=JQ es
 have big:MOST=2 ^ 60:=by decide
 obtain⟨DS,hDS⟩:∃DS,DS=cJ ((d0::d1::d2::d3::dt).map aF):=⟨_,rfl⟩
 have x2:fV DS (.int 2)= .ok (.int d2):=by rw [hDS,pH (by decide) (by simp;omega)];rfl
 have x3:fV DS (.int 3)= .ok (.int d3):=by rw [hDS,pH (by decide) (by simp;omega)];rfl
 have b2:=hb d2 (by simp)
 obtain⟨RW,hRW⟩:∃RW,RW=nO es:=⟨_,rfl⟩
 obtain⟨KD,hKD⟩:∃KD,KD=jr ns:=⟨_,rfl⟩
 obtain⟨SD,hSD⟩:∃SD,SD=fB (zG ns):=⟨_,rfl⟩
 obtain⟨NM,hNM⟩:∃NM,NM=Ii ix (lZ es):=⟨_,rfl⟩
 obtain⟨MD,hMD⟩:∃MD,MD=bL [RW,KD,SD,NM]:=⟨_,rfl⟩
 obtain⟨SG,hSG⟩:∃SG,SG=aV (s1 s):=⟨_,rfl⟩
 have gNm:∀a∈lZ es,jE NM (iI a)= .ok (.int ((ix a:Nat):Int)):=fun a ha=>by rw [hNM];exact Fo _ ha
 rw [show bL [nO es,jr ns,fB (zG ns),Ii ix (lZ es)]=MD by rw [hMD,hRW,hKD,hSD,hNM],←hDS,←hSG]
 obtain⟨m,hm⟩:∃m:Nat,(m:Int)=d3%12:=⟨(d3%12).toNat,by omega⟩
 have m11:m≤11:=by omega
 have md:jJ (.int d3) (.int 12)= .ok (.int (m:Int)):=by rw [jo (by omega),hm]
 obtain⟨st2,sw2,sT2⟩:=aef ki hl m m11
 obtain⟨es2,hes2⟩:∃es2,es2=es++xZ m:=⟨_,rfl⟩
 have el2:es2.length=es.length+m:=by rw [hes2];simp
 have rw2:=acB es m
 rw [←hes2] at st2 sw2 sT2 rw2
 obtain⟨MO,hMO⟩:∃MO,MO=cJ (aD m (.str "x join x x")):=⟨_,rfl⟩
 have rp:J9 (.list [.str "x join x x"]) (.int (m:Int))= .ok MO:=by
  have c: -(2 ^ 63)≤(m:Int)∧(m:Int)<2 ^ 63∧[aV "x join x x"].length*(m:Int).toNat≤sizeLine:=⟨by omega,by omega,by simp;exact Cv (by omega)⟩
  simp only [J9]
  rw [if_pos c,cY,abr,hMO]
 have ad:iH RW MO= .ok (.list (es2.map fun e=>aV (fY (rowOf e)))):=by
  rw [hRW,hMO,ah4 (by simp only [aC,List.length_replicate];exact Cv (by omega)),rw2]
 have lMO:je [MO]= .ok (.int (m:Int)):=by rw [hMO,Ae,List.length_replicate]
 have lc:=aes ns ki.g ki.kn (by omega) s
 rw [←hKD,←hSG] at lc
 obtain⟨CD,hCD⟩:∃CD,CD=fB (ncs ns s):=⟨_,rfl⟩
 rw [←hCD] at lc
 refine jD ?_
 show Rt (t7 [.dat (MD), .dat (DS), .dat (SG), .un, .un, .un, .un, .un, .un, .un, .un, .un, .un, .un, .un]) _
 unfold t7
 refine fP (ρ' :=[.dat (MD), .dat (DS), .dat (SG), .dat (RW), .dat (KD), .dat (SD), .dat (NM), .un, .un, .un, .un, .un, .un, .un, .un]) (nA (d:=MD) rfl (by rw [hMD];rfl)) ?_
 refine fP (ρ' :=[.dat (MD), .dat (DS), .dat (SG), .dat (RW), .dat (KD), .dat (SD), .dat (NM),zB (fun _=>[]) (fun _=>none) [], .un, .un, .un, .un, .un, .un, .un]) rfl ?_
 refine fP (ρ' :=[.dat (MD), .dat (DS), .dat (SG), .dat (RW), .dat (KD), .dat (SD), .dat (NM),zB (fun _=>[]) (fun _=>none) [], .dat (MO), .un, .un, .un, .un, .un, .un]) (lK (by
  rw [oN,jK,Ua]
  simp! only [x3,md,rp]
  rw [hMO]
  exact Ma _)) ?_
 refine mZ (N:=fun ρ=>∃(R:List Nat→List Rule) (N:List Nat→Option Nat) (k9:Sl),ρ=[.dat (MD), .dat (DS), .dat (SG), .dat (RW), .dat (KD), .dat (SD), .dat (NM),zB R N (lZ es), .dat (MO),k9, .un, .un, .un, .un, .un]∧KU es2 es2.length R N) ?_ ?_
 ·have loop:=nY (mi:=iL (eO iH (d8 3) (d8 8))) (g:=DL.gN 9) (body:=(G8 (Bt xX (vO gM 7 jN [.d (d8 9)]) (xE (eC (.str "ok")))) (gA (eC (.bool false))) fU)) (ρ:=[.dat (MD), .dat (DS), .dat (SG), .dat (RW), .dat (KD), .dat (SD), .dat (NM),zB (fun _=>[]) (fun _=>none) [], .dat (MO), .un, .un, .un, .un, .un, .un]) (ds:=es2.map fun e=>aV (fY (rowOf e)))
   (fun i ρ=>∃(R:List Nat→List Rule) (N:List Nat→Option Nat) (k9:Sl),ρ=[.dat (MD), .dat (DS), .dat (SG), .dat (RW), .dat (KD), .dat (SD), .dat (NM),zB R N (lZ (es2.take i)), .dat (MO),k9, .un, .un, .un, .un, .un]∧KU es2 i R N)
   (Nf (by simp only [jK,jM,jZ,iy,ad])) ⟨_,_,_,rfl,KU.zero es2⟩ (by
    rintro i d ρ hd ⟨R,N,k9,rfl,ku⟩
    rw [aK,aP] at hd
    obtain⟨e,he,rfl⟩:=hd
    have hi:=(au.mp he).1
    obtain⟨qs,k,say,ku'⟩:=aju st2 (by omega) he ku (by have:=JQ (es2.take i);rw [aZ] at this;omega)
    refine⟨[.dat (MD), .dat (DS), .dat (SG), .dat (RW), .dat (KD), .dat (SD), .dat (NM),zB R N (lZ (es2.take i)), .dat (MO), .dat (.str (fY (rowOf e))), .un, .un, .un, .un, .un],rfl,?_⟩
    have mx:=adT (nk:=gM) (i:=7) (g:=jN) (as:=[.d (d8 9)]) (ρ:=[.dat (MD), .dat (DS), .dat (SG), .dat (RW), .dat (KD), .dat (SD), .dat (NM),zB R N (lZ (es2.take i)), .dat (MO), .dat (.str (fY (rowOf e))), .un, .un, .un, .un, .un]) rfl rfl say
    refine jT (ρ' :=[.dat (MD), .dat (DS), .dat (SG), .dat (RW), .dat (KD), .dat (SD), .dat (NM),zB (fun a=>if a=e.1 then qs else R a) (fun a=>if a=e.1 then k else N a) (lZ (es2.take (i+1))), .dat (MO), .dat (.str (fY (rowOf e))), .un, .un, .un, .un, .un]) ?_ ⟨_,_,_,rfl,ku'⟩
    have pg:rW [.s 7, .d (d8 9)] [zB (fun a=>if a=e.1 then qs else R a) (fun a=>if a=e.1 then k else N a) (lZ (es2.take (i+1))), .un] [.dat (MD), .dat (DS), .dat (SG), .dat (RW), .dat (KD), .dat (SD), .dat (NM),zB R N (lZ (es2.take i)), .dat (MO), .dat (.str (fY (rowOf e))), .un, .un, .un, .un, .un]=[.dat (MD), .dat (DS), .dat (SG), .dat (RW), .dat (KD), .dat (SD), .dat (NM),zB (fun a=>if a=e.1 then qs else R a) (fun a=>if a=e.1 then k else N a) (lZ (es2.take (i+1))), .dat (MO), .dat (.str (fY (rowOf e))), .un, .un, .un, .un, .un]:=rfl
    rw [pg] at mx
    simp only [G8,Bt,mx,xE,eC,Jy]
    rfl)
  rw [aC] at loop
  obtain⟨ρ,e,R,N,k9,rfl,ku⟩:=loop
  rw [bV,sw2] at e
  exact⟨_,e,R,N,k9,rfl,ku⟩
 rintro ρ ⟨R,N,k9,rfl,U,τ,_,_,hT⟩
 rw [bV,sw2] at hT
 obtain⟨BK,hBK⟩:∃BK,BK=zB R N (lZ es):=⟨_,rfl⟩
 refine fP (ρ' :=[.dat (MD), .dat (DS), .dat (SG), .dat (RW), .dat (KD), .dat (SD), .dat (NM),zB R N (lZ es), .dat (MO),k9, .dat (CD), .un, .un, .un, .un]) (lK (by
  rw [oN,kh (x:=KD) (y:=SG) rfl rfl lc,iy,hCD]
  exact Ma _)) ?_
 refine mZ (N:=fun _=>True) ?_ (fun ρ _=>jB rfl rfl)
 have asb:∀mm:SM,ajr 6 mm [.dat (MD), .dat (DS), .dat (SG), .dat (RW), .dat (KD), .dat (SD), .dat (NM),zB R N (lZ es), .dat (MO),k9, .dat (CD), .un, .un, .un, .un]=mm [.dat (MD), .dat (DS), .dat (SG), .dat (RW), .dat (KD), .dat (SD), .bor NM,zB R N (lZ es), .dat (MO),k9, .dat (CD), .un, .un, .un, .un]:=fun mm=>rfl
 rw [asb]
 obtain⟨ρ,e,_⟩:=ai8 (b:= .v 6) (g:=DL.gN 11) (body:=(fG (gH 12 (eO jE (gK 6) (d8 11)))
 (fG (gH 13 (eO fV (lC [(eC (.int 1)),(eO Vu (eC (.int 1)) (fu je [(d8 8)]))]) (fu TY [(eO kZ (d8 11) (eC (.str "x")))])))
 (fG (gH 14 (fu nJ [(eO fV (d8 1) (eC (.int 2))),(eO fV (d8 5) (d8 12))]))
 (fG (G8 (Bt xX (vO gM 7 jN [.d (eO iH (eC (.str "length ")) (d8 11))]) (xE (fu vK [(eO lN (eO fV (d8 5) (d8 12)) (d8 13))]))) (gA (eC (.bool false))) fU)
 (fG (G8 (Bt xX (vO gM 7 jN [.d (eO iH (eO iH (eO iH (eC (.str "sign ")) (d8 11)) (eC (.str " "))) (fu vK [(d8 14)]))]) (xE (fu o8 [(d8 4),(d8 5),(d8 12),(d8 14)]))) (gA (eC (.bool false))) fU)
 (G8 (Bt xX (vO gM 7 jN [.d (eO iH (eO iH (eO iH (eC (.str "count ")) (d8 11)) (eC (.str " "))) (d8 2))]) (xE (fu vK [(eO lN (eO fV (d8 10) (d8 12)) (d8 13))]))) (gA (eC (.bool false))) fU)))))))
  (ρ:=[.dat (MD), .dat (DS), .dat (SG), .dat (RW), .dat (KD), .dat (SD), .bor NM,zB R N (lZ es), .dat (MO),k9, .dat (CD), .un, .un, .un, .un]) (ds:=uH (fun a=>aF ((ix a:Nat):Int)) (lZ es))
  (fun i ρ=>∃k11 k12 k13 k14:Sl,ρ=[.dat (MD), .dat (DS), .dat (SG), .dat (RW), .dat (KD), .dat (SD), .bor NM,zB R N (lZ es), .dat (MO),k9, .dat (CD),k11,k12,k13,k14])
  (by rw [hNM];simp only [Vq.get,aW,aQ,Es,if_true]) ⟨_,_,_,_,rfl⟩ (by
   rintro i q ρ hq ⟨k11,k12,k13,k14,rfl⟩
   unfold uH at hq
   rw [aK,aP] at hq
   obtain⟨a,ha,rfl⟩:=hq
   have am:a∈lZ es:=bf ha
   have axy:=ki.wd a am
   obtain⟨i1,i2⟩:=ki.ix a am
   obtain⟨l1,l2⟩:=ki.le a am
   have b1:(2:Nat) ^ es.length≤2 ^ 40:=dF (by omega) (by omega)
   have tt:=hT a am
   obtain⟨w,hw⟩:∃w,w=xj es a:=⟨_,rfl⟩
   obtain⟨v,hv⟩:∃v,v=xj es2 a:=⟨_,rfl⟩
   rw [←hw] at i2 l1 l2
   rw [←hv] at tt
   obtain⟨f,hf,hvw,hof⟩:∃f:Nat,f≤2 ^ 11∧v=(aD f w).flatten∧(eO fV (lC [(eC (.int 1)),(eO Vu (eC (.int 1)) (fu je [(d8 8)]))]) (fu TY [(eO kZ (d8 11) (eC (.str "x")))])) [.dat (MD), .dat (DS), .dat (SG), .dat (RW), .dat (KD), .dat (SD), .bor NM,BK, .dat (MO),k9, .dat (CD), .dat (iI a), .dat (.int ((ix a:Nat):Int)),k13,k14]= .ok (.int (f:Int)):=by
    have sh:Vu (.int 1) (.int (m:Int))= .ok (.int ((2 ^ m:Nat):Int)):=by
     have e1:Vu (.int 1) (.int (m:Int))= .ok (.int (1*2 ^ (m:Int).toNat)):=by
      simp only [Vu]
      rw [if_pos ⟨by omega,by omega,by decide⟩]
     have e2:(1:Int)*2 ^ (m:Int).toNat=((2 ^ m:Nat):Int):=by
      rw [cY,Int.one_mul]
      exact(Int.natCast_pow 2 m).symm
     rw [e1,e2]
    rcases axy with rfl|rfl
    ·refine⟨2 ^ m,dF (by omega) m11,by rw [hv,sT2,if_pos rfl,hw],?_⟩
     have eq:kZ (iI xW) (.str "x")= .ok (.bool true):=by kernel_rfl
     simp only [YZ,jK,K8,eC,jM,jZ,iy,lMO,sh,eq,abF]
     exact LR _ _ _
    ·refine⟨1,by decide,by rw [hv,sT2,if_neg (by decide+kernel),hw];simp,?_⟩
     have eq:kZ (iI yW) (.str "x")= .ok (.bool false):=by kernel_rfl
     simp only [YZ,jK,K8,eC,jM,jZ,iy,lMO,sh,eq,abF]
     exact Dk _ _
   have vl:v.length=f*w.length:=by rw [hvw,rR]
   have f1:1≤f:=by
    have:=tt.x.len
    by_cases z:f=0
    ·exfalso
     subst z
     have h9:=tt.tr
     have h8:v.length=0:=by omega
     have n0:N a=none:=by
      by_cases q:N a=none
      ·exact q
      ·have:=(afX tt.x.g tt.x.nm).mpr q
       omega
     rw [n0] at h9
     cases h9
    ·omega
   have vm:f*w.length≤2 ^ 11*(4*2 ^ 40):=Nat.mul_le_mul hf (by omega)
   have vM:v.length≤MOST:=by rw [vl,big];omega
   obtain⟨a1,a2,a3⟩:=amW am axy tt.x tt.l vM
   obtain⟨p,hp,ep⟩:=aaU d2 b2.1 (by omega) w.length l1 (by omega)
   have wa:a.length≤8:=(ki.wok a am).2.1
   have ixs:fV SD (.int ((ix a:Nat):Int))= .ok (.int ((w.length:Nat):Int)):=by
    rw [hSD,gY (by rw [Ba];exact i1),GF,i2]
   have ixc:fV CD (.int ((ix a:Nat):Int))= .ok (.int ((w.count s:Nat):Int)):=by
    rw [hCD,gY (by rw [adY];exact i1),ada,i2]
   have wc:w.count s≤w.length:=List.count_le_length
   refine⟨[.dat (MD), .dat (DS), .dat (SG), .dat (RW), .dat (KD), .dat (SD), .bor NM,zB R N (lZ es), .dat (MO),k9, .dat (CD), .dat (iI a),k12,k13,k14],rfl,?_⟩
   rw [←hBK] at a1 a2 a3⊢
   refine iD (ρ' :=[.dat (MD), .dat (DS), .dat (SG), .dat (RW), .dat (KD), .dat (SD), .bor NM,BK, .dat (MO),k9, .dat (CD), .dat (iI a), .dat (.int ((ix a:Nat):Int)),k13,k14]) (lK (by
    have:gK 6 [.dat (MD), .dat (DS), .dat (SG), .dat (RW), .dat (KD), .dat (SD), .bor NM,BK, .dat (MO),k9, .dat (CD), .dat (iI a),k12,k13,k14]= .ok NM:=rfl
    rw [jK,this]
    simp only [iy,jM,jZ,gNm a am])) ?_
   refine iD (ρ' :=[.dat (MD), .dat (DS), .dat (SG), .dat (RW), .dat (KD), .dat (SD), .bor NM,BK, .dat (MO),k9, .dat (CD), .dat (iI a), .dat (.int ((ix a:Nat):Int)), .dat (.int (f:Int)),k14]) (lK hof) ?_
   refine iD (ρ' :=[.dat (MD), .dat (DS), .dat (SG), .dat (RW), .dat (KD), .dat (SD), .bor NM,BK, .dat (MO),k9, .dat (CD), .dat (iI a), .dat (.int ((ix a:Nat):Int)), .dat (.int (f:Int)), .dat (.int (p:Int))]) (lK (kh (x:= .int d2) (y:= .int ((w.length:Nat):Int)) (by simp! only [x2]) (by simp! only [ixs]) ep)) ?_
   obtain⟨E,hE⟩:∃E:DL.Env,E=[.dat (MD), .dat (DS), .dat (SG), .dat (RW), .dat (KD), .dat (SD), .bor NM,BK, .dat (MO),k9, .dat (CD), .dat (iI a), .dat (.int ((ix a:Nat):Int)), .dat (.int (f:Int)), .dat (.int (p:Int))]:=⟨_,rfl⟩
   have kE:kindAt E 7=some gM:=by rw [hE,hBK];rfl
   have one:∀(mr md_:EM) (row ans:Str),mr E= .ok (.str row)→md_ E= .ok (.str ans)→jN [BK, .dat (.str row)]= .ok (.str ans) [BK, .un]→G8 (Bt xX (vO gM 7 jN [.d mr]) (xE md_)) (gA (eC (.bool false))) fU E= .nx E:=fun mr md_ row ans h1 h2 h3=>by
    have mx:=adT (nk:=gM) (i:=7) (g:=jN) (as:=[.d mr]) (ρ:=E) kE (sl:=[BK, .dat (.str row)]) (by
     simp only [wN,Pg,h1]
     rw [hE,hBK]
     rfl) h3
    have pg:rW [.s 7, .d mr] [BK, .un] E=E:=by rw [hE,hBK];rfl
    rw [pg] at mx
    simp only [G8,Bt,mx,xE,h2,Jy]
    rfl
   rw [←hE]
   refine iD (ρ' :=E) (one _ _ _ _ ?_ ?_ a1) ?_
   ·rw [jK]
    have:d8 11 E= .ok (iI a):=by rw [hE];rfl
    rw [this]
    exact akU a (by omega)
   ·have mu:lN (.int ((w.length:Nat):Int)) (.int (f:Int))= .ok (.int ((v.length:Nat):Int)):=by
     rw [pD (by omega) (by omega) (by omega) (by omega),vl,bU f,Int.natCast_mul]
    refine j5 (x:= .int ((v.length:Nat):Int)) ?_ (yM _ (by omega))
    rw [hE]
    simp only [jK,jM,jZ,iy,ixs,mu]
   refine iD (ρ' :=E) (one _ _ _ _ ?_ ?_ (a2 p (by rw [vl];exact dR hp (Nat.le_mul_of_pos_left _ f1)))) ?_
   ·have sn:=yM p (by omega)
    have cs:fu vK [(d8 14)] E= .ok (.str (fY (TL.numL p))):=j5 (x:= .int (p:Int)) (by rw [hE];rfl) sn
    have v11:d8 11 E= .ok (iI a):=by rw [hE];rfl
    have:=aip a (TL.numL p) p rfl (by omega) (by have:=numL_len p (by omega);omega)
    rw [jK,jK,jK,v11,cs]
    simp only [eC,iy]
    revert this
    cases iH (.str "sign ") (iI a) with
    |ok x=>exact fun h=>h
    |ex c=>exact fun h=>by cases h
    |bad=>exact fun h=>by cases h
   ·have so2:=ac3 ns ki.g ki.kn (by omega) (ix a) i1 p (by rw [i2];exact hp)
    rw [i2,←hKD,←hSD] at so2
    have e7:v.getD p 0=w.getD p 0:=by
     rw [hvw,Qp _ _ _ _ (by exact dR hp (Nat.le_mul_of_pos_left _ f1)),Nat.mod_eq_of_lt hp]
    rw [e7]
    exact vz (x:=KD) (y:=SD) (z:= .int ((ix a:Nat):Int)) (w:= .int (p:Int)) (by rw [hE];rfl) (by rw [hE];rfl) (by rw [hE];rfl) (by rw [hE];rfl) so2
   refine jT (ρ' :=E) (one _ _ _ _ ?_ ?_ (a3 s hs)) ⟨_,_,_,_,hE.trans (by rw [hBK])⟩
   ·have v11:d8 11 E= .ok (iI a):=by rw [hE];rfl
    have v2:d8 2 E= .ok (.str (s1 s)):=by rw [hE,hSG];rfl
    have:=agh a s (by omega)
    rw [jK,jK,jK,v11,v2]
    simp only [eC,iy]
    revert this
    cases iH (.str "count ") (iI a) with
    |ok x=>exact fun h=>h
    |ex c=>exact fun h=>by cases h
    |bad=>exact fun h=>by cases h
   ·have mu:lN (.int ((w.count s:Nat):Int)) (.int (f:Int))= .ok (.int ((v.count s:Nat):Int)):=by
     rw [pD (by omega) (by omega) (by omega) (by omega),hvw,aeL,bU f,Int.natCast_mul]
    refine j5 (x:= .int ((v.count s:Nat):Int)) ?_ (yM _ (by have:=List.count_le_length (a:=s) (l:=v);omega))
    rw [hE]
    simp only [jK,jM,jZ,iy,ixc,mu])
 exact⟨ρ,e,trivial⟩
theorem agV(nums:List Int)(hlen:nums.length≤63)(hb:∀z∈nums,Builtin.Int.intBits z≤1048576):aa1 [.list (nums.map aF)]= .ok (.bool true):=by
 obtain⟨ds,ed,dl1,dl2,hds⟩:=agk hlen hb 4 42 (by decide) (by decide)
 obtain⟨L,hL⟩:∃L,L=cJ (nums.map aF):=⟨_,rfl⟩
 rw [←hL] at ed⊢
 have ed' :vY [L, .int 4, .int 42]= .ok (.list (ds.map aF)):=ed
 obtain⟨d0,d1,d2,d3,dt,hdt⟩:∃d0 d1 d2 d3 dt,ds=d0::d1::d2::d3::dt:=by
  match ds,dl1 with
  |d0::d1::d2::d3::dt,_=>exact⟨d0,d1,d2,d3,dt,rfl⟩
 rw [hdt] at hds ed' dl2
 have dtl:dt.length≤38:=by simp at dl2;omega
 obtain⟨es,ns,ix,em,ki,hl⟩:=agD d0 d1 d2 d3 dt hds dtl
 have nl:=ki.l
 have wl:=JQ es
 obtain⟨rs,M,er,g,f,rl,tx⟩:=afU es ki.st (by omega) (by omega)
 have b1:=hds d1 (by simp)
 have b2:=hds d2 (by simp)
 have isr:=alz rs M g f rl ki hl tx d2 b2.1 b2.2
 have keeps:=fun s hs=>ajy d0 d1 d2 d3 dt hds ki hl s hs
 obtain⟨DS,hDS⟩:∃DS,DS=cJ ((d0::d1::d2::d3::dt).map aF):=⟨_,rfl⟩
 have x1:fV DS (.int 1)= .ok (.int d1):=by rw [hDS,pH (by decide) (by simp;omega)];rfl
 have x2:fV DS (.int 2)= .ok (.int d2):=by rw [hDS,pH (by decide) (by simp;omega)];rfl
 obtain⟨w0,hw0,w1,w4⟩:=ki.w0
 have w0s:∀c∈w0,c∈Lz:=(ki.g.ok 0 _ hw0).2.2
 have k0:=JM hw0
 obtain⟨KD,hKD⟩:∃KD,KD=jr ns:=⟨_,rfl⟩
 obtain⟨RW,hRW⟩:∃RW,RW=nO es:=⟨_,rfl⟩
 obtain⟨MD,hMD⟩:∃MD,MD=bL [RW,KD,fB (zG ns),Ii ix (lZ es)]:=⟨_,rfl⟩
 obtain⟨FD,hFD⟩:∃FD,FD=bL [eY rs,namesW (MT (lZ es)) M]:=⟨_,rfl⟩
 rw [←hKD] at k0
 rw [←hDS,←hRW,←hKD,←hMD] at em
 rw [←hFD] at er
 rw [←hFD,←hRW,←hKD,←hMD] at isr
 rw [←hDS,←hRW,←hKD,←hMD] at keeps
 have mD0:fV MD (.int 0)= .ok RW:=by rw [hMD];exact gG _ _
 have mD1:fV MD (.int 1)= .ok KD:=by rw [hMD];exact gR _ _ _
 have rw2:∀r∈es.map rowOf,r.length≤250:=fun r hr=>by
  obtain⟨e,he,rfl⟩:=cG.mp hr
  obtain⟨i,hi⟩:=List.mem_iff_getElem?.mp he
  exact(row_free (ki.st.rw_ i e hi)).2.1
 have dj:=ai9 "; " (es.map rowOf) 250 rw2 (by
  have:("; ":Str).length=2:=by decide+kernel
  rw [this,aC]
  omega)
 have e0:("; ":Str).cps.toList=[59,32]:=by decide+kernel
 rw [e0,cD] at dj
 have dj' :Gf "; " RW= .ok (.str (fY (z8 es))):=by rw [hRW];exact dj
 obtain⟨s0,hs0,es0⟩:=RM d1
 refine jD ?_
 show Rt (afH [.dat (L), .un, .un, .un]) _
 unfold afH
 refine fP (ρ' :=[.dat (L), .dat (DS), .un, .un]) (lK (by rw [oN,ni rfl rfl rfl ed',iy,hDS];exact Ma _)) ?_
 refine fP (ρ' :=[.dat (L), .dat (DS), .dat (MD), .un]) (lK (j5 rfl em)) ?_
 refine fP (ρ' :=[.dat (L), .dat (DS), .dat (MD), .dat (.str (s1 s0))]) (lK (j5 (x:= .int d1) (by simp! only [x1]) es0)) ?_
 refine mZ (N:=fun ρ=>∃s,s∈Lz∧ρ=[.dat (L), .dat (DS), .dat (MD), .dat (.str (s1 s))]) ?_ ?_
 ·have m2:jJ (.int d1) (.int 2)= .ok (.int (d1%2)):=jo (by omega)
  by_cases z:d1%2=0
  ·obtain⟨p,hp⟩:∃p:Nat,(p:Int)=d1/2%((w0.length:Nat):Int):=⟨(d1/2%((w0.length:Nat):Int)).toNat,by have:=cO (d1/2) (show((w0.length:Nat):Int)≠0 by omega);omega⟩
   have pl:p<w0.length:=by have:=bW (d1/2) (show 0<((w0.length:Nat):Int) by omega);omega
   have v2:lX (.int d1) (.int 2)= .ok (.int (d1/2)):=o9 (by omega) (by omega)
   have ml:jJ (.int (d1/2)) (.int ((w0.length:Nat):Int))= .ok (.int (p:Int)):=by rw [jo (by omega),hp]
   have ixw:=agS (w:=w0) pl (by omega)
   have bl:=RX (a:=w0) (by omega)
   have k0' :fV KD (.int 0)= .ok (Dd.kD (.is w0)):=k0
   refine Vk (by simp! only [x1,m2,z]) (jT (ρ' :=[.dat (L), .dat (DS), .dat (MD), .dat (.str (s1 (w0.getD p 0)))]) ?_ ⟨_,w0s _ (getD_mem pl),rfl⟩)
   simp! only [mD1,k0',Dd.kD,gR,x1,v2,bl,ml,ixw]
  ·exact IK (by simp! only [x1,m2,z]) (jT (by rfl) ⟨s0,hs0,rfl⟩)
 ·rintro ρ ⟨s,hs,rfl⟩
  refine fP (ρ' :=[.dat (L), .dat (DS), .dat (MD), .dat (.str (s1 s))]) (by
   rw [vU]
   ·rfl
   ·have er' :fu Sw [(Ih Gf (eC (.str "; ")) (eO fV (d8 2) (eC (.int 0))))] [.dat (L), .dat (DS), .dat (MD), .dat (.str (s1 s))]= .ok FD:=j5 (x:= .str (fY (z8 es))) (by simp! only [Ih,mD0,dj']) er
    rw [mF,ni (x:=FD) (y:=MD) (z:= .int d2) er' rfl (by simp! only [x2]) isr]
    rfl) ?_
  exact jB (ni (x:=MD) (y:=DS) (z:= .str (s1 s)) rfl rfl rfl (keeps s hs)) rfl
end Sb
set_option maxRecDepth 100000 in
theorem PySem.Challenge.cw_shortbook_k66_whole_texts_doubled_holds : PySem.Challenge.rw_shortbook_k66_whole_texts_doubled.Holds :=
 Sb.holds_of Sb.agV
