import PyProof.Rows.All
import Wide.All
import OpenK.AllK
import Wide.FinOn
import HandS.ForMost
import HandS.Exc
import HandS.TryOnly
import HandS.ExcOwn
import HandS.WordsExc
import HandS.Evl
import HandS.HeadHook2
import HandS.Defaults
import HandS.Wide
import HandS.TupAny
import HandS.Style
import HandS.IsInst
import HandS.SortInts
import HandS.WideBits
import HandS.EndBits
import HandS.Head0
import HandS.Head1
import HandS.Head2
import HandS.HeadEnd
import KE.GoesEnum
import HandS.TryMany
import HandS.ExcIs
import HandS.Dict
import HandS.More
import HandS.Conv
import HandS.Iter
import HandS.NoneIn
import HandS.CallSlots
import HandS.HotCalls
import KE.KDictCopyH
import HandS.Text
import HandS.RaiseMore
import HandS.Flt
import KE.KeyNested
import KE.KDictKeyed
import HandS.DictTup
import HandS.SetKeys
import HandS.SetFor
import HandS.Strs
import HandS.Deep
import HandS.Rev
import HandS.JoinGen
import PyProof.StrReplace2
import HandS.Replace
import HandS.ReplaceList
import PySem.Challenge.RW_shortbook_k62_whole_telling_written_out
open PySem.W renaming Frag→ao,nsIn→dX
open List renaming getElem?_eq_some_iff→aq,length_append→au,length_map→aA,replicate→aC,append_assoc→aF,getElem?_cons_zero→aG,getElem?_map→aH,mem_cons→aJ,mem_cons_of_mem→aM,getElem?_append_left→aO,getElem?_eq_getElem→aP,getElem?_cons_succ→aQ,mem_append→aR,append_nil→aU,mem_singleton→aV,length_cons→aW,mem_of_getElem?→aX,length_take→aY,map_cons→aZ,mem_cons_self→bB,not_mem_nil→bD,take_of_length_le→bF,getElem?_append_right→bG,take_add_one→bH,getD→bJ,length_reverse→bL,take_append_drop→bO,map_congr_left→bQ,reverse_append→bR,range→bU,take_length→bV,length_nil→bW,map_map→bY,mem_append_left→cA,mem_map→cC,length_singleton→cD,cons_append→cH,take_append_of_le_length→cI,pairwise_iff_getElem→cJ,length_range→cM,getElem?_eq_none→cO,nil_append→cP,nodup_append→cQ,length_eq_zero_iff→cR,nodup_cons→cU,map_append→cV,length_drop→cX,pairwise_cons→dB,getElem_mem→dG,flatten_cons→dI,replicate_succ→dJ,of_mem_zip→dN,find?_cons→dO,map_nil→dR,nodup_nil→dW,any_cons→dY
open PySem.PyData renaming int→aD,str→aN,tuple→bZ,list→di,canLay0→dw,eqv→dH
open Option renaming map_eq_some_iff→aK
open Nat renaming le_trans→bf,le_refl→bA,mul_comm→bT,zero_le→cG,mul_le_mul_left→dh,lt_of_le_of_lt→dD,lt_of_lt_of_le→dF,mul_le_mul→dM,mul_one→dZ
open Int renaming emod_lt_of_pos→bK,emod_nonneg→bM,toNat_natCast→cZ
open Bool renaming and_eq_true→cW
open Array renaming length_toList→cY
open String renaming reduceBEq→dU
set_option Elab.async false
set_option linter.all false
set_option maxRecDepth 100000
set_option maxHeartbeats 0
namespace DL
open PySem L2 Evl
abbrev D:=PyData
inductive NK where
 |lst|ins (c:Str) (fs:List Str)
inductive Sl where
 |un|dat (d:D)|own (d:D)|bor (d:D)|nst (k:NK) (cs:List Sl)|Yd (k:NK) (cs:List Sl)|Yg (ks:List Key) (ls:List (List D))
abbrev Env:=List Sl
inductive ER where
 |ok (d:D)|ex (c:Str)|bad
inductive Out where
 |nx (ρ:Env)|rt (d:D)|rx (d:D) (ρ:Env)|bk (ρ:Env)|ct (ρ:Env)|ex (c:Str) (ρ:Env)|bad
def ER.bind(r:ER)(f:D→ER):ER:=match r with
 | .ok d=>f d
 | .ex c=> .ex c
 | .bad=> .bad
abbrev EM:=Env→ER
abbrev SM:=Env→Out
def keyD:Key→D
 | .inl i=> .int i
 | .inr x=> .str x
def GdT(o:Obj):Prop:=o.cls= .type "tuple"∧∃(v0 v1:Value) (y z:Str) (t u:Tok) (n:Nat),o.data= .seq #[v0,v1, .str y t, .str z u] n∧t≠0∧u≠0∧t≠u
mutual
inductive Dr(K:ao)(H:Hp):V→D→Prop
 |non:Dr K H .non .none
 |bl (b:Bool):Dr K H (.bl b) (.bool b)
 |int (i:Int):Dr K H (.int i) (.int i)
 |str (x:Str):Dr K H (.str x) (.str x)
 |lst {a:Addr} {xs:List V} {ds:List D}:SqL K H a xs→iV K H xs ds→Dr K H (.ref a) (.list ds)
 |tup {a:Addr} {xs:List V} {ds:List D}:H a=some (.tup xs)→iV K H xs ds→Dr K H (.ref a) (.tuple ds)
 |dict0 {a:Addr}:Rd H a (.dK [])→Dr K H (.ref a) (.dict [])
 |FW {a:Addr} {o:Obj} {kvs:List (Key×V)} {ds:List (D×D)}:H a=some (.frz o (.dK kvs))→Oh K H kvs ds→Dr K H (.ref a) (.dict ds)
 |IV {a:Addr} {o:Obj} {kvs:List (List Key×V)} {ds:List (D×D)}:H a=some (.frz o (.dT kvs))→R7 K H kvs ds→Dr K H (.ref a) (.dict ((.none, .none)::ds))
 |G5 {a:Addr} {o:Obj} {xs:List V} {ds:List D}:H a=some (.frz o (.tup xs))→GdT o→iV K H xs ds→Dr K H (.ref a) (.dict [(.bool true, .tuple ds)])
inductive iV(K:ao)(H:Hp):List V→List D→Prop
 |nil:iV K H [] []
 |cons {v:V} {vs:List V} {d:D} {ds:List D}:Dr K H v d→iV K H vs ds→iV K H (v::vs) (d::ds)
inductive Oh(K:ao)(H:Hp):List (Key×V)→List (D×D)→Prop
 |nil:Oh K H [] []
 |cons {k:Key} {v:V} {kvs:List (Key×V)} {d:D} {ds:List (D×D)}:Dr K H v d→Oh K H kvs ds→Oh K H ((k,v)::kvs) ((keyD k,d)::ds)
inductive R7(K:ao)(H:Hp):List (List Key×V)→List (D×D)→Prop
 |nil:R7 K H [] []
 |cons {k:List Key} {v:V} {kvs:List (List Key×V)} {d:D} {ds:List (D×D)}:Dr K H v d→R7 K H kvs ds→R7 K H ((k,v)::kvs) ((.tuple (k.map keyD),d)::ds)
end
mutual
theorem Dr.dp{K:ao}{H:Hp}:∀{d:D} {v:V},d.canLay0=true→Dr K H v d→Dp K H v d
 |_,_,_, .non=> .non
 |_,_,_, .bl b=> .bl b
 |_,_,_, .int i=> .int i
 |_,_,_, .str x=> .str x
 |_,_,h, .lst s a=> .lst s (iV.dp (by simpa [dw] using h) a)
 |_,_,h, .tup s a=> .tup (.inl (.inl s)) (iV.dp (by simpa [dw] using h) a)
 |_,_,h, .dict0 _=>by simp [dw] at h
 |_,_,h, .FW _ _=>by simp [dw] at h
 |_,_,h, .IV _ _=>by simp [dw] at h
 |_,_,h, .G5 _ _ _=>by simp [dw] at h
theorem iV.dp{K:ao}{H:Hp}:∀{ds:List D} {vs:List V},PyData.canLayAll0 ds=true→iV K H vs ds→DpAll K H vs ds
 |_,_,_, .nil=> .nil
 |d::ds,_,h, .cons a b=>by
  have h' :d.canLay0=true∧PyData.canLayAll0 ds=true:=by simpa [PyData.canLayAll0] using h
  exact .cons (Dr.dp h'.1 a) (iV.dp h'.2 b)
end
inductive Ob(K:ao)(Hb:Hp):HO→D→Prop
 |lst {xs:List V} {ds:List D}:iV K Hb xs ds→Ob K Hb (.lst xs) (.list ds)
 |dK {kvs:List (Key×V)} {ds:List (D×D)}:Paired (fun(p:Key×V) (q:D×D)=>q.1=keyD p.1∧Dr K Hb p.2 q.2) kvs ds→Ob K Hb (.dK kvs) (.dict ds)
 |dT {kvs:List (List Key×V)} {ds:List (D×D)}:Paired (fun(p:List Key×V) (q:D×D)=>q.1= .tuple (p.1.map keyD)∧Dr K Hb p.2 q.2) kvs ds→Ob K Hb (.dT kvs) (.dict ((.none, .none)::ds))
def Ow(K:ao)(Hb H:Hp)(p:Addr)(d:D):Prop:=∃o,H p=some o∧Ob K Hb o d
def RdN(H:Hp)(p:Addr)(o:HO):Prop:=H p=some o∨(∃od,H p=some (.frz od o))∧∃kvs,o= .dK kvs
theorem RdN.rd{H:Hp}{p:Addr}{o:HO}(h:RdN H p o):Rd H p o:=by
 rcases h with h|⟨h,_⟩
 ·exact .inl h
 ·exact .inr h
theorem RdN.ex{H H' :Hp}{p:Addr}{o:HO}(e:Ex H H')(h:RdN H p o):RdN H' p o:=by
 rcases h with h|⟨⟨od,h⟩,z⟩
 ·exact .inl (e _ _ h)
 ·exact .inr ⟨⟨od,e _ _ h⟩,z⟩
def OwB(K:ao)(Hb H:Hp)(p:Addr)(d:D):Prop:=∃o,RdN H p o∧Ob K Hb o d
theorem Ow.b{K:ao}{Hb H:Hp}{p:Addr}{d:D}(h:Ow K Hb H p d):OwB K Hb H p d:=let ⟨o,a,b⟩:=h;⟨o, .inl a,b⟩
def Bo(K:ao)(Hb H:Hp)(v:V)(d:D):Prop:=Dr K Hb v d∨∃p,v= .ref p∧OwB K Hb H p d
mutual
theorem nq{K:ao}{H H' :Hp}(e:Ex H H'):∀{d:D} {v:V},Dr K H v d→Dr K H' v d
 |_,_, .non=> .non
 |_,_, .bl b=> .bl b
 |_,_, .int i=> .int i
 |_,_, .str x=> .str x
 |_,_, .lst s a=> .lst (ex_l e s) (lJ e a)
 |_,_, .tup s a=> .tup (e _ _ s) (lJ e a)
 |_,_, .dict0 s=> .dict0 (ex_rd e s)
 |_,_, .FW s a=> .FW (e _ _ s) (Y0 e a)
 |_,_, .IV s a=> .IV (e _ _ s) (Zu e a)
 |_,_, .G5 s g a=> .G5 (e _ _ s) g (lJ e a)
theorem lJ{K:ao}{H H' :Hp}(e:Ex H H'):∀{ds:List D} {vs:List V},iV K H vs ds→iV K H' vs ds
 |_,_, .nil=> .nil
 |_,_, .cons a b=> .cons (nq e a) (lJ e b)
theorem Y0{K:ao}{H H' :Hp}(e:Ex H H'):∀{ds:List (D×D)} {kvs:List (Key×V)},Oh K H kvs ds→Oh K H' kvs ds
 |_,_, .nil=> .nil
 |_,_, .cons a b=> .cons (nq e a) (Y0 e b)
theorem Zu{K:ao}{H H' :Hp}(e:Ex H H'):∀{ds:List (D×D)} {kvs:List (List Key×V)},R7 K H kvs ds→R7 K H' kvs ds
 |_,_, .nil=> .nil
 |_,_, .cons a b=> .cons (nq e a) (Zu e b)
end
theorem Paired.imp{α β:Type}{F G:α→β→Prop}(f:∀a b,F a b→G a b):∀{l:List α} {m:List β},Paired F l m→Paired G l m
 |_,_, .nil=> .nil
 |_,_, .cons a b=> .cons (f _ _ a) (Paired.imp f b)
section
variable{K:ao}{H H' Hb Hb' Hf:Hp}{v:V}{d:D}{p:Addr}{o:HO}
theorem Ob.ex(e:Ex Hb Hb')(h:Ob K Hb o d):Ob K Hb' o d:=by
 cases h with
 |lst a=>exact .lst (lJ e a)
 |dK a=>exact .dK (Paired.imp (fun _ _ q=>⟨q.1,nq e q.2⟩) a)
 |dT a=>exact .dT (Paired.imp (fun _ _ q=>⟨q.1,nq e q.2⟩) a)
theorem Ow.ex(eb:Ex Hb Hb')(e:Ex H H')(h:Ow K Hb H p d):Ow K Hb' H' p d:=by
 obtain⟨o,h1,h2⟩:=h
 exact⟨o,e _ _ h1,h2.ex eb⟩
theorem OwB.ex(eb:Ex Hb Hb')(e:Ex H H')(h:OwB K Hb H p d):OwB K Hb' H' p d:=by
 obtain⟨o,h1,h2⟩:=h
 exact⟨o,h1.ex e,h2.ex eb⟩
theorem Bo.ex(eb:Ex Hb Hb')(e:Ex H H')(h:Bo K Hb H v d):Bo K Hb' H' v d:=by
 rcases h with h|⟨p,h1,h2⟩
 ·exact .inl (nq eb h)
 ·exact .inr ⟨p,h1,h2.ex eb e⟩
theorem iJ:∀{ds:List D} {vs:List V},iV K H vs ds→vs.length=ds.length
 |_,_, .nil=>rfl
 |_,_, .cons _ b=>by
  have:=iJ b
  simp [this]
theorem uM:∀{ds:List D} {vs:List V} {i:Nat} {v:V},iV K H vs ds→vs[i]? =some v→∃d,ds[i]? =some d∧Dr K H v d
 |_,_,_,_, .nil,e=>by simp at e
 |_,_,0,_, .cons a _,e=>by
  simp at e
  subst e
  exact⟨_,rfl,a⟩
 |_,_,i+1,_, .cons _ b,e=>by
  obtain⟨d,h1,h2⟩:=uM (i:=i) b (by simpa using e)
  exact⟨d,by simpa using h1,h2⟩
theorem Dj:∀{ds:List D} {vs:List V} {i:Nat} {d:D},iV K H vs ds→ds[i]? =some d→∃v,vs[i]? =some v∧Dr K H v d
 |_,_,_,_, .nil,e=>by simp at e
 |_,_,0,_, .cons a _,e=>by
  simp at e
  subst e
  exact⟨_,rfl,a⟩
 |_,_,i+1,_, .cons _ b,e=>by
  obtain⟨d,h1,h2⟩:=Dj (i:=i) b (by simpa using e)
  exact⟨d,by simpa using h1,h2⟩
theorem uK:∀{ds es:List D} {vs us:List V},iV K H vs ds→iV K H us es→iV K H (vs++us) (ds++es)
 |_,_,_,_, .nil,s=>s
 |_,_,_,_, .cons a b,s=> .cons a (uK b s)
theorem Mg:∀{ds:List D} {vs:List V} (n:Nat),iV K H vs ds→iV K H (vs.take n) (ds.take n)
 |_,_,0,_=> .nil
 |_,_,_+1, .nil=> .nil
 |_,_,n+1, .cons a b=> .cons a (Mg n b)
theorem Kg:∀{ds:List D} {vs:List V} (n:Nat),iV K H vs ds→iV K H (vs.drop n) (ds.drop n)
 |_,_,0,h=>h
 |_,_,_+1, .nil=> .nil
 |_,_,n+1, .cons _ b=>Kg n b
theorem Qc:∀{ds:List D} {vs:List V} (n:Nat) {v:V} {d:D},Dr K H v d→iV K H vs ds→iV K H (vs.set n v) (ds.set n d)
 |_,_,_,_,_,_, .nil=> .nil
 |_,_,0,_,_,h, .cons _ b=> .cons h b
 |_,_,n+1,_,_,h, .cons a b=> .cons a (Qc n h b)
def NT:Option HO→Prop
 |none=>False
 |some (.tup _)=>False
 |some _=>True
theorem Ob.nt{K:ao}{Hb:Hp}{o:HO}{d:D}(h:Ob K Hb o d):NT (some o):=by cases h<;>exact True.intro
theorem Ow.nt{K:ao}{Hb H:Hp}{p:Addr}{d:D}(h:Ow K Hb H p d):NT (H p):=by
 obtain⟨o,q,h⟩:=h
 rw [q]
 exact h.nt
structure Gw(Hb H Hb' H' :Hp):Prop where
 h:Ex H H'
 b:Ex Hb Hb'
 bh:Ex Hb' H'
 nw:∀a,Hb a=none→NT (H a)→Hb' a=none
theorem Gw.refl(e:Ex Hb H):Gw Hb H Hb H:=⟨Ex.refl _,Ex.refl _,e,fun _ h _=>h⟩
theorem Jd{H H' :Hp}(e:Ex H H'){a:Addr}(h:NT (H a)):NT (H' a):=by
 cases q:H a with
 |none=>
  rw [q] at h
  exact h.elim
 |some o=>
  rw [e a o q]
  rw [q] at h
  exact h
theorem Gw.trans{Hb H Hb1 H1 Hb2 H2:Hp}(g:Gw Hb H Hb1 H1)(k:Gw Hb1 H1 Hb2 H2):Gw Hb H Hb2 H2:=
 ⟨g.h.trans k.h,g.b.trans k.b,k.bh,fun a h1 h2=>k.nw a (g.nw a h1 h2) (Jd g.h h2)⟩
theorem Gw.fix(e:Ex Hb H)(h:H p=none):Gw Hb H (upd Hb p o) (upd H p o) where
 h:=Ex.new h
 b:=Ex.new (fresh_back e h)
 bh:=fun a u q=>by
  by_cases z:a=p
  ·subst z
   rw [upd_same] at q⊢
   exact q
  ·rw [upd_ne z] at q⊢
   exact e a u q
 nw:=fun a h1 h2=>by
  have z:a≠p:=fun z=>by
   subst z
   rw [h] at h2
   exact h2
  rw [upd_ne z]
  exact h1
theorem Gw.new(e:Ex Hb H)(h:H p=none):Gw Hb H Hb (upd H p o):=
 ⟨Ex.new h,Ex.refl _,e.trans (Ex.new h),fun _ h1 _=>h1⟩
end
inductive zF(K:ao)(Hb H:Hp):List V→List Sl→List Addr→Prop
 |nil:zF K Hb H [] [] []
 |dat {v:V} {d:D} {vs:List V} {cs:List Sl} {fp:List Addr}:Dr K Hb v d→zF K Hb H vs cs fp→zF K Hb H (v::vs) (.dat d::cs) fp
 |own {p:Addr} {d:D} {vs:List V} {cs:List Sl} {fp:List Addr}:Ow K Hb H p d→zF K Hb H vs cs fp→zF K Hb H (.ref p::vs) (.own d::cs) (p::fp)
 |un {v:V} {vs:List V} {cs:List Sl} {fp:List Addr}:zF K Hb H vs cs fp→zF K Hb H (v::vs) (.un::cs) fp
def HdR(K:ao)(H:Hp)(p:Addr)(vs:List V):NK→List Addr→Prop
 | .lst,hp=>H p=some (.lst vs)∧hp=[p]
 | .ins c fs,hp=>∃dx,H p=some (.ins (He.ga K c) dx (fs.zip vs))∧H dx=some (.own p)∧vs.length=fs.length∧hp=[p,dx]
inductive Xd(K:ao)(Hb H:Hp):List V→List Sl→Prop
 |nil:Xd K Hb H [] []
 |dat {v:V} {d:D} {vs:List V} {cs:List Sl}:Dr K Hb v d→Xd K Hb H vs cs→Xd K Hb H (v::vs) (.dat d::cs)
 |bor {p:Addr} {d:D} {vs:List V} {cs:List Sl}:OwB K Hb H p d→Xd K Hb H vs cs→Xd K Hb H (.ref p::vs) (.bor d::cs)
 |un {v:V} {vs:List V} {cs:List Sl}:Xd K Hb H vs cs→Xd K Hb H (v::vs) (.un::cs)
def NsR(K:ao)(Hb H:Hp)(v:V)(k:NK)(cs:List Sl)(fp:List Addr):Prop:=∃p vs hp fq,v= .ref p∧HdR K H p vs k hp∧zF K Hb H vs cs fq∧fp=hp++fq
inductive Jv(K:ao)(Hb H:Hp):List Addr→List (List D)→Prop
 |nil:Jv K Hb H [] []
 |cons {q:Addr} {xs:List V} {ds:List D} {qs:List Addr} {ls:List (List D)}:H q=some (.lst xs)→iV K Hb xs ds→Jv K Hb H qs ls→Jv K Hb H (q::qs) (ds::ls)
def SlO(K:ao)(Hf Hb H:Hp)(x:Option (Option V)):Sl→List Addr→Prop
 | .un,fp=>fp=[]
 | .dat d,fp=>fp=[]∧∃v,x=some (some v)∧Dr K Hb v d
 | .bor d,fp=>fp=[]∧∃v,x=some (some v)∧(Dr K Hb v d∨∃p,v= .ref p∧OwB K Hb Hf p d)
 | .own d,fp=>∃p,fp=[p]∧x=some (some (.ref p))∧Ow K Hb H p d
 | .nst k cs,fp=>∃v,x=some (some v)∧NsR K Hb H v k cs fp
 | .Yd k cs,fp=>fp=[]∧∃p vs hp,x=some (some (.ref p))∧HdR K Hf p vs k hp∧Xd K Hb Hf vs cs
 | .Yg ks ls,fp=>∃p qs,fp=p::qs∧x=some (some (.ref p))∧H p=some (.dK (ks.zip (qs.map V.ref)))∧qs.length=ks.length∧Jv K Hb H qs ls
section
variable{K:ao}{H H' Hb Hb' Hf:Hp}
theorem zF.frame{vs:List V}{cs:List Sl}{fp:List Addr}(h:zF K Hb H vs cs fp)(eb:Ex Hb Hb')(e:∀p∈fp,∀o,H p=some o→H' p=some o):zF K Hb' H' vs cs fp:=by
 induction h with
 |nil=>exact .nil
 |dat a _ ih=>exact .dat (nq eb a) (ih e)
 |own a _ ih=>
  obtain⟨o,a1,a2⟩:=a
  exact .own ⟨o,e _ bB o a1,a2.ex eb⟩ (ih fun p hp=>e p (aM _ hp))
 |un _ ih=>exact .un (ih e)
theorem HdR.frame{p:Addr}{vs:List V}{k:NK}{hp:List Addr}(h:HdR K H p vs k hp)(e:∀p∈hp,∀o,H p=some o→H' p=some o):HdR K H' p vs k hp:=by
 cases k with
 |lst=>
  obtain⟨h1,h2⟩:=h
  subst h2
  exact⟨e _ (by simp) _ h1,rfl⟩
 |ins c fs=>
  obtain⟨dx,h1,h2,h3,h4⟩:=h
  subst h4
  exact⟨dx,e _ (by simp) _ h1,e _ (by simp) _ h2,h3,rfl⟩
theorem NsR.frame{v:V}{k:NK}{cs:List Sl}{fp:List Addr}(h:NsR K Hb H v k cs fp)(eb:Ex Hb Hb')(e:∀p∈fp,∀o,H p=some o→H' p=some o):NsR K Hb' H' v k cs fp:=by
 obtain⟨p,vs,hp,fq,h1,h2,h3,rfl⟩:=h
 exact⟨p,vs,hp,fq,h1,h2.frame fun a ha=>e a (cA _ ha),h3.frame eb fun a ha=>e a (List.mem_append_right _ ha),rfl⟩
theorem Xd.ex{vs:List V}{cs:List Sl}(h:Xd K Hb H vs cs)(eb:Ex Hb Hb')(e:Ex H H'):Xd K Hb' H' vs cs:=by
 induction h with
 |nil=>exact .nil
 |dat a _ ih=>exact .dat (nq eb a) ih
 |bor a _ ih=>exact .bor (a.ex eb e) ih
 |un _ ih=>exact .un ih
theorem Jv.frame{qs:List Addr}{ls:List (List D)}(h:Jv K Hb H qs ls)(eb:Ex Hb Hb')(e:∀p∈qs,∀o,H p=some o→H' p=some o):Jv K Hb' H' qs ls:=by
 induction h with
 |nil=>exact .nil
 |cons a b _ ih=>exact .cons (e _ bB _ a) (lJ eb b) (ih fun p hp=>e p (aM _ hp))
theorem Jv.nt{qs:List Addr}{ls:List (List D)}(h:Jv K Hb H qs ls):∀p∈qs,NT (H p):=by
 induction h with
 |nil=>intro p hp;cases hp
 |cons a b _ ih=>
  intro p hp
  rcases aJ.mp hp with rfl|hp
  ·rw [a]
   exact True.intro
  ·exact ih p hp
theorem SlO.frame{x:Option (Option V)}{s:Sl}{fp:List Addr}(h:SlO K Hf Hb H x s fp)(eb:Ex Hb Hb')(e:∀p∈fp,∀o,H p=some o→H' p=some o):SlO K Hf Hb' H' x s fp:=by
 cases s with
 |un=>exact h
 |dat d=>
  obtain⟨h0,v,h1,h2⟩:=h
  exact⟨h0,v,h1,nq eb h2⟩
 |bor d=>
  obtain⟨h0,v,h1,h2⟩:=h
  refine⟨h0,v,h1,?_⟩
  rcases h2 with h2|⟨p,h3,h4⟩
  ·exact .inl (nq eb h2)
  ·exact .inr ⟨p,h3,h4.ex eb (Ex.refl _)⟩
 |own d=>
  obtain⟨p,rfl,h1,o,h2,h3⟩:=h
  exact⟨p,rfl,h1,o,e p (by simp) o h2,h3.ex eb⟩
 |nst k cs=>
  obtain⟨v,h1,h2⟩:=h
  exact⟨v,h1,h2.frame eb e⟩
 |Yd k cs=>
  obtain⟨h0,p,vs,hp,h1,h2,h3⟩:=h
  exact⟨h0,p,vs,hp,h1,h2,h3.ex eb (Ex.refl _)⟩
 |Yg ks ls=>
  obtain⟨p,qs,rfl,h1,h2,h3,h4⟩:=h
  exact⟨p,qs,rfl,h1,e p (by simp) _ h2,h3,h4.frame eb fun a ha=>e a (aM _ ha)⟩
theorem zF.nt{vs:List V}{cs:List Sl}{fp:List Addr}(h:zF K Hb H vs cs fp):∀p∈fp,NT (H p):=by
 induction h with
 |nil=>intro p hp;cases hp
 |dat _ _ ih=>exact ih
 |own a _ ih=>
  intro p hp
  rcases aJ.mp hp with rfl|hp
  ·exact a.nt
  ·exact ih p hp
 |un _ ih=>exact ih
theorem NsR.nt{v:V}{k:NK}{cs:List Sl}{fp:List Addr}(h:NsR K Hb H v k cs fp):∀p∈fp,NT (H p):=by
 obtain⟨p,vs,hp,fq,h1,h2,h3,rfl⟩:=h
 intro a ha
 rcases aR.mp ha with ha|ha
 ·cases k with
  |lst=>
   obtain⟨z1,rfl⟩:=h2
   rw [aV.mp ha,z1]
   exact True.intro
  |ins c fs=>
   obtain⟨dx,z1,z2,_,rfl⟩:=h2
   rcases aJ.mp ha with rfl|ha
   ·rw [z1]
    exact True.intro
   ·rw [aV.mp ha,z2]
    exact True.intro
 ·exact h3.nt a ha
theorem SlO.nt{x:Option (Option V)}{s:Sl}{fp:List Addr}(h:SlO K Hf Hb H x s fp):∀p∈fp,NT (H p):=by
 cases s with
 |un=>cases h;intro p hp;cases hp
 |dat d=>obtain⟨rfl,_⟩:=h;intro p hp;cases hp
 |bor d=>obtain⟨rfl,_⟩:=h;intro p hp;cases hp
 |own d=>
  obtain⟨p,rfl,h1,h2⟩:=h
  intro a ha
  rw [aV.mp ha]
  exact h2.nt
 |nst k cs=>
  obtain⟨v,h1,h2⟩:=h
  exact h2.nt
 |Yd k cs=>obtain⟨rfl,_⟩:=h;intro p hp;cases hp
 |Yg ks ls=>
  obtain⟨p,qs,rfl,h1,h2,h3,h4⟩:=h
  intro a ha
  rcases aJ.mp ha with rfl|ha
  ·rw [h2]
   exact True.intro
  ·exact h4.nt a ha
theorem yJ{H:Hp}{p:Addr}(h:NT (H p)):∃o,H p=some o:=by
 cases q:H p with
 |none=>rw [q] at h;exact h.elim
 |some o=>exact⟨o,rfl⟩
end
abbrev Pn:=List (Nat×Addr)
structure N5(K:ao)(pn:Pn)(Hf Hb H:Hp)(σ:L2.St)(ρ:Env)(F:Nat→List Addr):Prop where
 ef:Ex Hf H
 eb:Ex Hb H
 len:σ.length=ρ.length
 sl:∀(i:Nat) s,ρ[i]? =some s→SlO K Hf Hb H σ[i]? s (F i)
 nd:∀i:Nat,(F i).Nodup
 fr:∀(i:Nat) p,p∈F i→Hf p=none∧Hb p=none∧NT (H p)
 dj:∀(i j:Nat) p,i≠j→p∈F i→p∉F j
 pin:∀(i:Nat) a,(i,a)∈pn→σ[i]? =some (some (.ref a))
def iG(K:ao)(pn:Pn)(Hf Hb H:Hp)(σ:L2.St)(ρ:Env):Prop:=∃F,N5 K pn Hf Hb H σ ρ F
abbrev Ac(pn:Pn)(i:Nat):Prop:=∀a,(i,a)∉pn
section
variable{pn:Pn}{K:ao}{H H' Hb Hb' Hf H0 Hb0:Hp}{v:V}{d:D}{p:Addr}{o:HO}{σ:L2.St}{ρ:Env}{i:Nat}
theorem iG.ef(R:iG K pn Hf Hb H σ ρ):Ex Hf H:=let ⟨_,r⟩:=R;r.ef
theorem iG.eb(R:iG K pn Hf Hb H σ ρ):Ex Hb H:=let ⟨_,r⟩:=R;r.eb
theorem iG.len(R:iG K pn Hf Hb H σ ρ):σ.length=ρ.length:=let ⟨_,r⟩:=R;r.len
theorem iG.pin(R:iG K pn Hf Hb H σ ρ):∀(i:Nat) a,(i,a)∈pn→σ[i]? =some (some (.ref a)):=let ⟨_,r⟩:=R;r.pin
theorem iG.unpin(R:iG K pn Hf Hb H σ ρ):iG K [] Hf Hb H σ ρ:=by
 obtain⟨F,r⟩:=R
 exact⟨F,r.ef,r.eb,r.len,r.sl,r.nd,r.fr,r.dj,fun _ _ z=>nomatch z⟩
theorem iG.dat(R:iG K pn Hf Hb H σ ρ)(i:Nat)(d:D)(h:ρ[i]? =some (.dat d)):∃v,σ[i]? =some (some v)∧Dr K Hb v d:=by
 obtain⟨F,r⟩:=R
 exact(r.sl i _ h).2
theorem iG.own(R:iG K pn Hf Hb H σ ρ)(i:Nat)(d:D)(h:ρ[i]? =some (.own d)):∃p,σ[i]? =some (some (.ref p))∧Ow K Hb H p d∧Hf p=none∧Hb p=none:=by
 obtain⟨F,r⟩:=R
 obtain⟨p,h1,h2,h3⟩:=r.sl i _ h
 have h4:=r.fr i p (by rw [h1];simp)
 exact⟨p,h2,h3,h4.1,h4.2.1⟩
theorem iG.bor(R:iG K pn Hf Hb H σ ρ)(i:Nat)(d:D)(h:ρ[i]? =some (.bor d)):∃v,σ[i]? =some (some v)∧(Dr K Hb v d∨∃p,v= .ref p∧OwB K Hb H p d∧OwB K Hb Hf p d):=by
 obtain⟨F,r⟩:=R
 obtain⟨_,v,h1,h2⟩:=r.sl i _ h
 refine⟨v,h1,?_⟩
 rcases h2 with h2|⟨p,h3,h4⟩
 ·exact .inl h2
 ·exact .inr ⟨p,h3,h4.ex (Ex.refl _) r.ef,h4⟩
theorem iG.sep(R:iG K pn Hf Hb H σ ρ)(i j:Nat)(d e:D)(h:ρ[i]? =some (.own d))(ne:i≠j)(h2:ρ[j]? =some (.own e)):σ[i]? ≠σ[j]? :=by
 obtain⟨F,r⟩:=R
 obtain⟨p,a1,a2,_⟩:=r.sl i _ h
 obtain⟨q,b1,b2,_⟩:=r.sl j _ h2
 intro z
 rw [a2,b2] at z
 cases z
 exact r.dj i j p ne (by rw [a1];simp) (by rw [b1];simp)
theorem WL{ρ:Env}{i j:Nat}{s t:Sl}(h:(ρ.set i s)[j]? =some t):(j=i∧t=s)∨(j≠i∧ρ[j]? =some t):=by
 by_cases e:i=j
 ·subst e
  rw [List.getElem?_set] at h
  simp at h
  exact .inl ⟨rfl,h.2.symm⟩
 ·rw [List.getElem?_set_ne e] at h
  exact .inr ⟨fun z=>e z.symm,h⟩
theorem WR{σ:L2.St}{i j:Nat}{x:Option V}(h:j≠i):(σ.set i x)[j]? =σ[j]? :=List.getElem?_set_ne (fun z=>h z.symm)
theorem Rg{σ:L2.St}{i:Nat}{x:Option V}(h:i<σ.length):(σ.set i x)[i]? =some x:=List.getElem?_set_self h
theorem aaD{ρ:Env}{i:Nat}{s t:Sl}(h:(ρ.set i s)[i]? =some t):i<ρ.length:=by
 have:=(aq.mp h).1
 simpa using this
theorem N5.step{F:Nat→List Addr}{s:Sl}{fp:List Addr}{σ' :L2.St}(R:N5 K pn Hf Hb H σ ρ F)(ef:Ex Hf H')(eb:Ex Hb' H')(b:Ex Hb Hb')(hl:σ'.length=σ.length)(hσ:∀j,j≠i→σ'[j]? =σ[j]?)
 (keep:∀p,p∉F i→Hf p=none→Hb p=none→NT (H p)→H' p=H p∧Hb' p=none) (hs:i<ρ.length→SlO K Hf Hb' H' σ'[i]? s fp) (nd:fp.Nodup) (fr:∀p∈fp,Hf p=none∧Hb' p=none∧NT (H' p)) (dj:∀j p,j≠i→p∈fp→p∉F j) (pin:∀a,(i,a)∈pn→σ'[i]? =some (some (.ref a))):
 N5 K pn Hf Hb' H' σ' (ρ.set i s) (fun j=>if j=i then fp else F j):=by
 have kp:∀j p,j≠i→p∈F j→H' p=H p∧Hb' p=none:=fun j p ne hp=>by
  obtain⟨f1,f2,f3⟩:=R.fr j p hp
  exact keep p (R.dj j i p ne hp) f1 f2 f3
 refine⟨ef,eb,by rw [hl,R.len];simp,fun j t q=> ?_,fun j=> ?_,fun j p hp=> ?_,fun j k p ne hp=> ?_,fun j a q=> ?_⟩
 ·rcases WL q with⟨rfl,z⟩|⟨z,q'⟩
  ·subst z
   simp only [if_true]
   exact hs (aaD q)
  ·simp only [if_neg z]
   rw [hσ j z]
   exact(R.sl j t q').frame b fun p hp o ho=>by rw [(kp j p z hp).1];exact ho
 ·by_cases z:j=i
  ·simp only [z,if_true]
   exact nd
  ·simp only [if_neg z]
   exact R.nd j
 ·by_cases z:j=i
  ·simp only [z,if_true] at hp
   exact fr p hp
  ·simp only [if_neg z] at hp
   obtain⟨f1,f2,f3⟩:=R.fr j p hp
   obtain⟨k1,k2⟩:=kp j p z hp
   exact⟨f1,k2,by rw [k1];exact f3⟩
 ·by_cases z:j=i
  ·simp only [z,if_true] at hp
   by_cases z2:k=i
   ·exact absurd (z.trans z2.symm) ne
   ·simp only [if_neg z2]
    exact dj k p z2 hp
  ·simp only [if_neg z] at hp
   by_cases z2:k=i
   ·simp only [z2,if_true]
    exact fun w=>dj j p z w hp
   ·simp only [if_neg z2]
    exact R.dj j k p ne hp
 ·by_cases z:j=i
  ·subst z
   exact pin a q
  ·rw [hσ j z]
   exact R.pin j a q
theorem iG.gw(R:iG K pn Hf Hb H σ ρ)(g:Gw Hb H Hb' H'):iG K pn Hf Hb' H' σ ρ:=by
 obtain⟨F,r⟩:=R
 have kp:∀j p,p∈F j→H' p=H p∧Hb' p=none:=fun j p hp=>by
  obtain⟨f1,f2,f3⟩:=r.fr j p hp
  obtain⟨o,ho⟩:=yJ f3
  exact⟨by rw [ho];exact g.h p o ho,g.nw p f2 f3⟩
 exact⟨F,r.ef.trans g.h,g.bh,r.len,fun i s q=>(r.sl i s q).frame g.b fun p hp o ho=>g.h p o ho,r.nd,fun i p hp=>⟨(r.fr i p hp).1,(kp i p hp).2,by rw [(kp i p hp).1];exact(r.fr i p hp).2.2⟩,r.dj,r.pin⟩
theorem iG.af7{x:Option V}{s:Sl}(R:iG K pn Hf Hb H σ ρ)(ho:Ac pn i)(h:s= .un∨∃v d,x=some v∧s= .dat d∧Dr K Hb v d):iG K pn Hf Hb H (σ.set i x) (ρ.set i s):=by
 obtain⟨F,r⟩:=R
 refine⟨_,r.step (fp:=[]) r.ef r.eb (Ex.refl _) (by simp) (fun j z=>WR z) (fun p _ _ h2 _=>⟨rfl,h2⟩) (fun hi=> ?_) dW (fun p hp=>by cases hp) (fun j p _ hp=>by cases hp) (fun a q=>absurd q (ho a))⟩
 rcases h with rfl|⟨v,d,rfl,rfl,h3⟩
 ·rfl
 ·exact⟨rfl,v,Rg (by rw [r.len];exact hi),h3⟩
theorem iG.MJ(R:iG K pn Hf Hb H σ ρ)(ho:Ac pn i)(h:Dr K Hb v d):iG K pn Hf Hb H (σ.set i (some v)) (ρ.set i (.dat d)):=R.af7 ho (.inr ⟨v,d,rfl,rfl,h⟩)
theorem iG.af'{x:Option V}(R:iG K pn Hf Hb H σ ρ)(ho:Ac pn i):iG K pn Hf Hb H (σ.set i x) (ρ.set i .un):=R.af7 ho (.inl rfl)
theorem iG.drop(R:iG K pn Hf Hb H σ ρ)(i:Nat):iG K pn Hf Hb H σ (ρ.set i .un):=by
 obtain⟨F,r⟩:=R
 exact⟨_,r.step (fp:=[]) r.ef r.eb (Ex.refl _) rfl (fun j z=>rfl) (fun p _ _ h2 _=>⟨rfl,h2⟩) (fun hi=>rfl) dW (fun p hp=>by cases hp) (fun j p _ hp=>by cases hp) (fun a q=>r.pin i a q)⟩
theorem iG.afw(R:iG K pn Hf Hb0 H0 σ ρ)(ho:Ac pn i)(g:Gw Hb0 H0 Hb H)(h0:H0 p=none)(hb:Hb p=none)(h:Ow K Hb H p d):iG K pn Hf Hb H (σ.set i (some (.ref p))) (ρ.set i (.own d)):=by
 obtain⟨F,r⟩:=R
 refine⟨_,r.step (fp:=[p]) (r.ef.trans g.h) g.bh g.b (by simp) (fun j z=>WR z) (fun a _ _ h2 h3=> ?_) (fun hi=>⟨p,rfl,Rg (by rw [r.len];exact hi),h⟩) (by simp) (fun a ha=> ?_) (fun j a _ ha hj=> ?_) (fun a q=>absurd q (ho a))⟩
 ·obtain⟨o,e⟩:=yJ h3
  exact⟨by rw [e];exact g.h a o e,g.nw a h2 h3⟩
 ·rw [aV.mp ha]
  exact⟨fresh_back r.ef h0,hb,h.nt⟩
 ·rw [aV.mp ha] at hj
  have z:=(r.fr j p hj).2.2
  rw [h0] at z
  exact z
theorem iG.write(R:iG K pn Hf Hb H σ ρ)(hi:ρ[i]? =some (.own d))(hv:σ[i]? =some (some (.ref p))){o' :HO}{d' :D}(h:Ob K Hb o' d'):iG K pn Hf Hb (upd H p o') σ (ρ.set i (.own d')):=by
 obtain⟨F,r⟩:=R
 obtain⟨q,h1,h2,h3⟩:=r.sl i _ hi
 rw [hv] at h2
 cases h2
 obtain⟨f1,f2,f3⟩:=r.fr i p (by rw [h1];simp)
 refine⟨_,r.step (fp:=[p]) (fun a o e=>by rw [upd_ne (ne_of_none e f1)];exact r.ef a o e) (fun a o e=>by rw [upd_ne (ne_of_none e f2)];exact r.eb a o e) (Ex.refl _) rfl (fun j z=>rfl) (fun a ha _ h2 _=>⟨upd_ne (fun z=>ha (by rw [h1,z];simp)),h2⟩) (fun _=>⟨p,rfl,hv,_,upd_same,h⟩) (by simp) (fun a ha=> ?_) (fun j a z ha hj=> ?_) (fun a q=>r.pin i a q)⟩
 ·rw [aV.mp ha,upd_same]
  exact⟨f1,f2,h.nt⟩
 ·exact r.dj j i a z hj (by rw [h1];exact ha)
end
end DL
namespace DL
open PySem L2 Evl
inductive Kd where
 |dat|new|bor|io (p:Addr)|tl
def Kd.arg:Kd→Bool
 | .io _=>false
 | .tl=>false
 |_=>true
def Rs(K:ao)(kd:Kd)(H0 Hb H:Hp)(v:V)(d:D):Prop:=match kd with
 | .dat=>Dr K Hb v d
 | .new=>∃p,v= .ref p∧H0 p=none∧Hb p=none∧Ow K Hb H p d
 | .bor=>Bo K Hb H v d
 | .io p=>∃d0 c,d= .tuple [d0,c]∧Dr K Hb v d0∧H0 p=none∧Hb p=none∧Ow K Hb H p c
 | .tl=>∃(p q:Addr) (rv:V) (xs:List V) (r:D) (ps:List D),d= .tuple [r, .list ps]∧v= .ref p∧(H0 p=none∧H0 q=none)∧(Hb p=none∧Hb q=none)∧H p=some (.tup [rv, .ref q])∧H q=some (.lst xs)∧Dr K Hb rv r∧iV K Hb xs ps
structure WQ where
 w:WX
 pin:Pn
def Bp(K:ao)(W:WQ)(kd:Kd)(m:EM):TE:=fun σ H Q=>∃(Hf Hb:Hp) (ρ:Env),iG K W.pin Hf Hb H σ ρ∧
 (∀d,m ρ= .ok d→∀v Hb' H',Gw Hb H Hb' H' →Rs K kd H Hb' H' v d→Q v H')∧
 (∀c,m ρ= .ex c→∀Hb' H',Gw Hb H Hb' H' →W.w (.ref (He.ga K c)) none σ H')∧m ρ≠ .bad
abbrev DE(X:Cx)(W:WQ)(kd:Kd)(e:Expr)(m:EM):Prop:=PE X e (Bp X.K W kd m)
theorem PE.imp{X:Cx}{e:Expr}{t t' :TE}(h:PE X e t)(i:∀σ H Q,t' σ H Q→t σ H Q):PE X e t' :=⟨fun pins s σ H Q I q=>h.run pins s σ H Q I (i σ H Q q)⟩
theorem PT.imp{X:Cx}{e:Expr}{t t' :TT}(h:PT X e t)(i:∀σ H Q,t' σ H Q→t σ H Q):PT X e t' :=⟨fun pins s σ H Q I q=>h.run pins s σ H Q I (i σ H Q q)⟩
theorem PW.imp{X:Cx}{e:Expr}{t t' :TT}(h:PW X e t)(i:∀σ H Q,t' σ H Q→t σ H Q):PW X e t' :=⟨fun whole pins s σ H Q I q=>h.run whole pins s σ H Q I (i σ H Q q)⟩
theorem PS.imp{X:Cx}{e:Stmt}{t t' :TS}(h:PS X e t)(i:∀D σ H,t' D σ H→t D σ H):PS X e t' :=⟨fun pins s σ H D I q=>h.run pins s σ H D I (i D σ H q)⟩
theorem PSs.imp{X:Cx}{e:List Stmt}{t t' :TS}(h:PSs X e t)(i:∀D σ H,t' D σ H→t D σ H):PSs X e t' :=⟨fun pins s σ H D I q=>h.run pins s σ H D I (i D σ H q)⟩
section
variable{K:ao}{W:WQ}{kd:Kd}{m ma mb:EM}{σ:L2.St}{H H' Hb Hb' Hf:Hp}{Q:VK}{v:V}{d:D}{ρ:Env}
theorem Rs.Y7(h:Rs K .new H Hb H' v d):Rs K .bor H Hb H' v d:=by
 obtain⟨p,h1,_,_,h4⟩:=h
 exact .inr ⟨p,h1,h4.b⟩
theorem Bo.int(h:Bo K Hb H v (.int i)):v= .int i:=by
 rcases h with h|⟨p,_,o,_,h⟩
 ·cases h
  rfl
 ·cases h
theorem Bo.str(h:Bo K Hb H v (.str i)):v= .str i:=by
 rcases h with h|⟨p,_,o,_,h⟩
 ·cases h
  rfl
 ·cases h
theorem Bo.bl(h:Bo K Hb H v (.bool i)):v= .bl i:=by
 rcases h with h|⟨p,_,o,_,h⟩
 ·cases h
  rfl
 ·cases h
theorem Bo.non(h:Bo K Hb H v .none):v= .non:=by
 rcases h with h|⟨p,_,o,_,h⟩
 ·cases h
  rfl
 ·cases h
theorem Bo.lst{ds:List D}(e:Ex Hb H)(h:Bo K Hb H v (.list ds)):∃p xs,v= .ref p∧SqL K H p xs∧iV K Hb xs ds:=by
 rcases h with h|⟨p,h1,o,h2,h3⟩
 ·cases h with
  |lst a b=>exact⟨_,_,rfl,ex_l e a,b⟩
 ·cases h3 with
  |lst a=>exact⟨p,_,h1, .inl h2.rd,a⟩
theorem Bo.tup{ds:List D}(e:Ex Hb H)(h:Bo K Hb H v (.tuple ds)):∃p xs,v= .ref p∧SqT K H p xs∧iV K Hb xs ds:=by
 rcases h with h|⟨p,h1,o,h2,h3⟩
 ·cases h with
  |tup a b=>exact⟨_,_,rfl, .inl (.inl (e _ _ a)),b⟩
 ·cases h3
theorem Bo.dp(e:Ex Hb H)(h:Bo K Hb H v d)(hd:d.canLay0=true):Dp K H v d:=by
 rcases h with h|⟨p,h1,o,h2,h3⟩
 ·exact(nq e h).dp hd
 ·cases h3 with
  |lst a=>
   subst h1
   exact .lst (.inl h2.rd) ((lJ e a).dp (by simpa [dw] using hd))
  |dK a=>simp [dw] at hd
  |dT a=>simp [dw] at hd
theorem Gw.tup{p:Addr}{xs:List V}{ds:List D}(e:Ex Hb H)(h:H p=none)(a:iV K Hb xs ds):Gw Hb H (upd Hb p (.tup xs)) (upd H p (.tup xs))∧Dr K (upd Hb p (.tup xs)) (.ref p) (.tuple ds):=
 ⟨Gw.fix e h, .tup upd_same (lJ (Ex.new (fresh_back e h)) a)⟩
theorem Gw.lst{p:Addr}{xs:List V}{ds:List D}(e:Ex Hb H)(h:H p=none)(a:iV K Hb xs ds):Gw Hb H (upd Hb p (.lst xs)) (upd H p (.lst xs))∧Dr K (upd Hb p (.lst xs)) (.ref p) (.list ds):=
 ⟨Gw.fix e h, .lst (.inl (.inl upd_same)) (lJ (Ex.new (fresh_back e h)) a)⟩
theorem Gw.Z6{p:Addr}{xs:List V}{ds:List D}(e:Ex Hb H)(h:H p=none)(a:iV K Hb xs ds):Gw Hb H Hb (upd H p (.lst xs))∧Rs K .new H Hb (upd H p (.lst xs)) (.ref p) (.list ds):=
 ⟨Gw.new e h,p,rfl,h,fresh_back e h,_,upd_same, .lst a⟩
theorem Gw.frz{p:Addr}{o:HO}(g:Gw Hb H Hb' H')(h0:H p=none)(hb:Hb' p=none)(ho:H' p=some o):Gw Hb H (upd Hb' p o) H' where
 h:=g.h
 b:=g.b.trans (Ex.new hb)
 bh:=fun a u q=>by
  by_cases z:a=p
  ·subst z
   rw [upd_same] at q
   rw [←q]
   exact ho
  ·rw [upd_ne z] at q
   exact g.bh a u q
 nw:=fun a h1 h2=>by
  have z:a≠p:=fun z=>by
   subst z
   rw [h0] at h2
   exact h2
  rw [upd_ne z]
  exact g.nw a h1 h2
theorem Rs.frz{ds:List D}(g:Gw Hb H Hb' H')(h:Rs K .new H Hb' H' v (.list ds)):∃Hb2,Gw Hb H Hb2 H' ∧Dr K Hb2 v (.list ds):=by
 obtain⟨p,rfl,h0,hb,o,ho,hc⟩:=h
 cases hc with
 |lst a=>exact⟨_,g.frz h0 hb ho, .lst (.inl (.inl upd_same)) (lJ (Ex.new hb) a)⟩
end
section
variable{X:Cx}{W:WQ}{kd:Kd}{e:Expr}{m:EM}
theorem d8(h:DE X W .dat e m):DE X W .bor e m:=PE.imp h fun σ H Q ⟨Hf,Hb,ρ,R,h1,h2,h3⟩=>⟨Hf,Hb,ρ,R,fun d hd v Hb' H' g r=>h1 d hd v Hb' H' g (.inl r),h2,h3⟩
theorem qp(h:DE X W .new e m):DE X W .bor e m:=PE.imp h fun σ H Q ⟨Hf,Hb,ρ,R,h1,h2,h3⟩=>⟨Hf,Hb,ρ,R,fun d hd v Hb' H' g r=>h1 d hd v Hb' H' g r.Y7,h2,h3⟩
def ni(m:EM):EM:=fun ρ=>(m ρ).bind fun d=>match d with
 | .list ds=> .ok (.list ds)
 |_=> .bad
theorem m9(h:DE X W .new e m):DE X W .dat e (ni m):=PE.imp h fun σ H Q ⟨Hf,Hb,ρ,R,h1,h2,h3⟩=>by
 refine⟨Hf,Hb,ρ,R,fun d hd v Hb' H' g r=> ?_,fun c hc=>h2 c (by simp [ni,hc,ER.bind]),fun z=>h3 (by simp [ni,z,ER.bind])⟩
 cases d with
 |list ds=>
  obtain⟨Hb2,g2,r2⟩:=Rs.frz g r
  exact h1 _ (by simp [ni,hd,ER.bind]) v Hb2 H' g2 r2
 |_=>exact absurd (by simp [ni,hd,ER.bind]) h3
def gD(i:Nat):EM:=fun ρ=>match ρ[i]? with
 |some (.dat d)=> .ok d
 |some (.own d)=> .ok d
 |some (.bor d)=> .ok d
 |_=> .bad
def eE(i:Nat):EM:=fun ρ=>match ρ[i]? with
 |some (.dat d)=> .ok d
 |_=> .bad
def eC(d:D):EM:=fun _=> .ok d
theorem jB(i:Nat){x:Str}{pos:Pos}(hN:X.N[i]? =some x:=by rfl)(hv:Vis X.env.scope x:=by first|exact Or.inl rfl|exact Or.inr (Or.inl rfl)|exact Or.inr (Or.inr rfl))(hd:(x==("__debug__":Str))=false:=by decide)
 (hcd:(x==("__classdict__":Str))=false:=by decide):DE X W .bor (.Name x pos) (gD i):=PE.imp (pe_var hN hv hd hcd) fun σ H Q ⟨Hf,Hb,ρ,R,h1,h2,h3⟩=>by
 cases e:ρ[i]? with
 |none=>exact absurd (by simp [gD,e]) h3
 |some s=>
  cases s with
  |un=>exact absurd (by simp [gD,e]) h3
  |nst k cs=>exact absurd (by simp [gD,e]) h3
  |Yd k cs=>exact absurd (by simp [gD,e]) h3
  |Yg k cs=>exact absurd (by simp [gD,e]) h3
  |dat d=>
   obtain⟨v,a,b⟩:=R.dat i d e
   exact⟨v,a,h1 d (by simp [gD,e]) v Hb H (Gw.refl R.eb) (.inl b)⟩
  |bor d=>
   obtain⟨v,a,b⟩:=R.bor i d e
   refine⟨v,a,h1 d (by simp [gD,e]) v Hb H (Gw.refl R.eb) ?_⟩
   rcases b with b|⟨p,b1,b2,_⟩
   ·exact .inl b
   ·exact .inr ⟨p,b1,b2⟩
  |own d=>
   obtain⟨p,a,b,_⟩:=R.own i d e
   exact⟨_,a,h1 d (by simp [gD,e]) _ Hb H (Gw.refl R.eb) (.inr ⟨p,rfl,b.b⟩)⟩
theorem eO(i:Nat){x:Str}{pos:Pos}(hN:X.N[i]? =some x:=by rfl)(hv:Vis X.env.scope x:=by first|exact Or.inl rfl|exact Or.inr (Or.inl rfl)|exact Or.inr (Or.inr rfl))(hd:(x==("__debug__":Str))=false:=by decide)
 (hcd:(x==("__classdict__":Str))=false:=by decide):DE X W .dat (.Name x pos) (eE i):=PE.imp (pe_var hN hv hd hcd) fun σ H Q ⟨Hf,Hb,ρ,R,h1,h2,h3⟩=>by
 cases e:ρ[i]? with
 |none=>exact absurd (by simp [eE,e]) h3
 |some s=>
  cases s with
  |un=>exact absurd (by simp [eE,e]) h3
  |nst k cs=>exact absurd (by simp [eE,e]) h3
  |Yd k cs=>exact absurd (by simp [eE,e]) h3
  |Yg k cs=>exact absurd (by simp [eE,e]) h3
  |dat d=>
   obtain⟨v,a,b⟩:=R.dat i d e
   exact⟨v,a,h1 d (by simp [eE,e]) v Hb H (Gw.refl R.eb) b⟩
  |bor d=>exact absurd (by simp [eE,e]) h3
  |own d=>exact absurd (by simp [eE,e]) h3
theorem xJ{v:V}{d:D}(h:PE X e (tC v))(hr:∀K H,Dr K H v d):DE X W .dat e (eC d):=PE.imp h fun σ H Q ⟨Hf,Hb,ρ,R,h1,h2,h3⟩=>h1 d rfl v Hb H (Gw.refl R.eb) (hr _ _)
theorem eX{i j pos}:DE X W .dat (.Constant (.int i) j pos) (eC (.int i)):=xJ pe_int fun _ _=> .int i
theorem wu{i j pos}:DE X W .dat (.Constant (.bool i) j pos) (eC (.bool i)):=xJ pe_bl fun _ _=> .bl i
theorem fV{i j pos}:DE X W .dat (.Constant (.str i) j pos) (eC (.str i)):=xJ pe_str fun _ _=> .str i
theorem jY{j pos}:DE X W .dat (.Constant .none j pos) (eC .none):=xJ pe_non fun _ _=> .non
theorem yd{x:Str}{i:Int}{pos:Pos}(hm:∃t,X.mg x=some (.int i t))(hg:Gl X x:=by rfl)(hd:(x==("__debug__":Str))=false:=by decide):DE X W .dat (.Name x pos) (eC (.int i)):=by
 obtain⟨t,hm⟩:=hm
 exact xJ (v:= .int i) (pe_glob hg hm ⟨t,rfl⟩ hd) fun _ _=> .int i
theorem QG{x z:Str}{pos:Pos}(hm:∃t,X.mg x=some (.str z t))(hg:Gl X x:=by rfl)(hd:(x==("__debug__":Str))=false:=by decide):DE X W .dat (.Name x pos) (eC (.str z)):=by
 obtain⟨t,hm⟩:=hm
 exact xJ (v:= .str z) (pe_glob hg hm ⟨t,rfl⟩ hd) fun _ _=> .str z
end
def Y4(K:ao)(kd:Kd)(g:D→D→ER):R2:=fun x y H Q=>∃Hb dx dy d,Ex Hb H∧Bo K Hb H x dx∧Bo K Hb H y dy∧g dx dy= .ok d∧∀v Hb' H',Gw Hb H Hb' H' →Rs K kd H Hb' H' v d→Q v H'
abbrev Ds(X:Cx)(f:Value→Value→Sem Value)(kd:Kd)(g:D→D→ER):Prop:=OpR X f (Y4 X.K kd g)
def eV(g:D→D→ER)(ma mb:EM):EM:=fun ρ=>(ma ρ).bind fun x=>(mb ρ).bind fun y=>g x y
def kh(g:D→D→ER):Prop:=∀x y c,g x y≠ .ex c
section
variable{K:ao}{W:WQ}{kd:Kd}{ma mb:EM}{g:D→D→ER}
theorem Rs.back{H0 H1 Hb H:Hp}{v:V}{d:D}(e:Ex H0 H1)(h:Rs K kd H1 Hb H v d):Rs K kd H0 Hb H v d:=by
 cases kd with
 |dat=>exact h
 |bor=>exact h
 |new=>
  obtain⟨p,h1,h2,h3⟩:=h
  exact⟨p,h1,fresh_back e h2,h3⟩
 |io p=>
  obtain⟨d0,c,h1,h2,h3,h4⟩:=h
  exact⟨d0,c,h1,h2,fresh_back e h3,h4⟩
 |tl=>
  obtain⟨p,q,rv,xs,r,ps,h1,h2,h3,h4⟩:=h
  exact⟨p,q,rv,xs,r,ps,h1,h2,⟨fresh_back e h3.1,fresh_back e h3.2⟩,h4⟩
theorem ye(ng:kh g){σ:L2.St}{H:Hp}{Q:VK}(h:Bp K W kd (eV g ma mb) σ H Q):tOp (Y4 K kd g) (Bp K W .bor ma) (Bp K W .bor mb) σ H Q:=by
 obtain⟨Hf,Hb,ρ,R,h1,h2,h3⟩:=h
 refine⟨Hf,Hb,ρ,R,fun d hd v Hb1 H1 g1 r1=> ?_,fun c hc Hb1 H1 g1=>h2 c (by simp [eV,hc,ER.bind]) Hb1 H1 g1,fun z=>h3 (by simp [eV,z,ER.bind])⟩
 refine⟨Hf,Hb1,ρ,R.gw g1,fun d2 hd2 v2 Hb2 H2 g2 r2=> ?_,fun c hc Hb2 H2 g2=>h2 c (by simp [eV,hd,hc,ER.bind]) Hb2 H2 (g1.trans g2),fun z=>h3 (by simp [eV,hd,z,ER.bind])⟩
 have e:eV g ma mb ρ=g d d2:=by simp [eV,hd,hd2,ER.bind]
 rw [e] at h1 h3
 cases q:g d d2 with
 |bad=>exact absurd q h3
 |ex c=>exact absurd q (ng _ _ _)
 |ok z=>exact⟨Hb2,d,d2,z,g2.bh,Bo.ex g2.b g2.h r1,r2,q,fun v Hb3 H3 g3 r3=>h1 z q v Hb3 H3 ((g1.trans g2).trans g3) (r3.back (g1.trans g2).h)⟩
end
section
variable{X:Cx}{W:WQ}{kd:Kd}{a b c:Expr}{ma mb mc:EM}{g g' :D→D→ER}{pos:Pos}
theorem fH{op:Operator}(ho:Ds X (binaryOp op) kd g)(ng:kh g)(ha:DE X W .bor a ma)(hb:DE X W .bor b mb):DE X W kd (.BinOp a op b pos) (eV g ma mb):=PE.imp (pe_op ho ha hb) fun _ _ _=>ye ng
theorem yg{op:CmpOp}(ho:Ds X (compareOp op) kd g)(ng:kh g)(ha:DE X W .bor a ma)(hb:DE X W .bor b mb)(hm:behindInMarks op b=false:=by first|exact nomark _|rfl):DE X W kd (.Compare a [op] [b] pos) (eV g ma mb):=PE.imp (pe_cmpR ho ha hb hm) fun _ _ _=>ye ng
end
def wD:Nat:=100000000
def jw:D→D→ER
 | .int i, .int j=> .ok (.int (i+j))
 | .str i, .str j=>if i.length+j.length≤sizeLine then .ok (.str (i++j)) else .bad
 | .tuple i, .tuple j=>if i.length+j.length≤sizeLine then .ok (.tuple (i++j)) else .bad
 | .list i, .list j=>if i.length+j.length≤sizeLine then .ok (.list (i++j)) else .bad
 |_,_=> .bad
def pH:D→D→ER
 | .int i, .int j=> .ok (.int (i-j))
 |_,_=> .bad
def Ju(x:Str)(n:Int):Str:=⟨(aC n.toNat x.cps).foldl (·++·) #[]⟩
def jZ:D→D→ER
 | .int i, .int j=>if i.natAbs.log2+j.natAbs.log2<wD then .ok (.int (i*j)) else .bad
 | .str x, .int n=>if-(2 ^ 62)≤n∧n<2 ^ 62∧x.length*n.toNat≤sizeLine then .ok (.str (Ju x n)) else .bad
 |_,_=> .bad
def jy:D→D→ER
 | .int i, .int j=>if 0<j∧j.natAbs.log2<9000 then .ok (.int (i/j)) else .bad
 |_,_=> .bad
def iz:D→D→ER
 | .int i, .int j=>if 0<j then .ok (.int (i%j)) else .bad
 |_,_=> .bad
def rK:D→D→ER
 | .int i, .int j=>if 0≤j∧j≤1000000∧i.natAbs<2 ^ 64 then .ok (.int (i ^ j.toNat)) else .bad
 |_,_=> .bad
def lB:D→D→ER
 | .str i, .str j=> .ok (.bool (decide (i=j)))
 |x,y=>if SeqAt.shaped x&&SeqAt.shaped y then .ok (.bool (dH x y)) else .bad
def BX(x y:D):ER:=(lB x y).bind fun z=>match z with
 | .bool b=> .ok (.bool (!b))
 |_=> .bad
def Lj:D→D→ER
 | .int i, .int j=> .ok (.bool (decide (i<j)))
 | .str i, .str j=> .ok (.bool (decide (i.cps.toList<j.cps.toList)))
 |_,_=> .bad
def Oa:D→D→ER
 | .int i, .int j=> .ok (.bool (decide (i≤j)))
 |_,_=> .bad
def TY:D→D→ER
 | .int i, .int j=> .ok (.bool (decide (j<i)))
 |_,_=> .bad
def dGe:D→D→ER
 | .int i, .int j=> .ok (.bool (decide (j≤i)))
 |_,_=> .bad
def v7:D→D→ER
 | .none, .none=> .ok (.bool true)
 | .bool i, .bool j=> .ok (.bool (decide (i=j)))
 | .none, .bool _=> .ok (.bool false)
 | .int _, .bool _=> .ok (.bool false)
 | .bool _, .none=> .ok (.bool false)
 | .int _, .none=> .ok (.bool false)
 | .str _, .none=> .ok (.bool false)
 | .list _, .none=> .ok (.bool false)
 | .tuple _, .none=> .ok (.bool false)
 | .dict _, .none=> .ok (.bool false)
 |_,_=> .bad
def pF(x y:D):ER:=(v7 x y).bind fun z=>match z with
 | .bool b=> .ok (.bool (!b))
 |_=> .bad
section
variable{X:Cx}
theorem sV{d:D}(h:SeqAt.shaped d=true):d.canLay0=true:=SeqAt.canLay_of_shaped h
theorem pN{K:ao}{H0 Hb H:Hp}{i:Int}:Rs K .dat H0 Hb H (.int i) (.int i):=Dr.int i
theorem lQ{K:ao}{H0 Hb H:Hp}{i:Bool}:Rs K .dat H0 Hb H (.bl i) (.bool i):=Dr.bl i
theorem KC{K:ao}{H0 Hb H:Hp}{i:Str}:Rs K .dat H0 Hb H (.str i) (.str i):=Dr.str i
theorem Xk{K:ao}{H0 Hb H:Hp}:Rs K .dat H0 Hb H .non .none:=Dr.non
theorem aeR:OpR X (binaryOp .Add) (fun x y H Q=>∃l b xs zs,x= .ref l∧y= .ref b∧SqL X.K H l xs∧SqL X.K H b zs∧xs.length+zs.length≤sizeLine∧∀p,H p=none→Q (.ref p) (upd H p (.lst (xs++zs)))):=by
 intro pins s σ H x y v u Q I rx ry h
 obtain⟨l,b,xs,zs,rfl,rfl,hH,hB,hz,q⟩:=h
 cases rx
 cases ry
 obtain⟨its,r,pl,z⟩:=I.list hH
 obtain⟨its2,r2,pl2,z2⟩:=I.list hB
 have hl:=r.length
 have hl2:=r2.length
 obtain⟨⟨c1,d1,t1,w1⟩,o1,k1,n1,q1⟩:=pl.isList
 obtain⟨⟨c2,d2,t2,w2⟩,o2,k2,n2,q2⟩:=pl2.isList
 simp only at k1 q1 k2 q2
 subst k1 q1 k2 q2
 refine concat_meets ⟨_,o1,rfl⟩ ⟨_,o2,rfl⟩ noFill_list_add seq_list_add PySem.F.slot_list_add PySem.F.entry_list_add (PySem.F.args_list_add_2 _ _)
  (PyProof.Rows.list_addW l b its.toArray its2.toArray n1 n2 d1 d2 w1 w2 (by rw [List.size_toArray,List.size_toArray];omega)) ⟨o1,o2,?_⟩
 rw [show its.toArray++its2.toArray=(its++its2).toArray by simp]
 exact⟨.ref _,_,I.lnew (t' :=s.toks) (r.append r2) (by rw [au];omega),rfl,q _ I.fresh⟩
theorem iY:Ds X (binaryOp .Add) .dat jw:=by
 intro pins s σ H x y v u Q I rx ry h
 obtain⟨Hb,dx,dy,d,eb,bx,byy,hg,q⟩:=h
 cases dx<;>cases dy<;>simp only [jw] at hg<;>first|cases hg;done|skip
 ·cases hg
  have e1:=bx.int
  have e2:=byy.int
  exact op_add pins s σ H x y v u Q I rx ry ⟨_,_,e1,e2,q _ Hb H (Gw.refl eb) pN⟩
 ·split at hg
  ·cases hg
   exact op_add_str pins s σ H x y v u Q I rx ry ⟨_,_,bx.str,byy.str,by assumption,q _ Hb H (Gw.refl eb) KC⟩
  ·cases hg
 ·split at hg
  ·cases hg
   obtain⟨p,xs,e1,s1,a1⟩:=bx.lst eb
   obtain⟨p2,ys,e2,s2,a2⟩:=byy.lst eb
   rename_i hz
   refine aeR pins s σ H x y v u Q I rx ry ⟨p,p2,xs,ys,e1,e2,s1,s2,by rw [iJ a1,iJ a2];exact hz,fun r hr=> ?_⟩
   have z:=Gw.lst eb hr (uK a1 a2)
   exact q _ _ _ z.1 z.2
  ·cases hg
 ·split at hg
  ·cases hg
   obtain⟨p,xs,e1,s1,a1⟩:=bx.tup eb
   obtain⟨p2,ys,e2,s2,a2⟩:=byy.tup eb
   rename_i ds es hz
   refine op_catA pins s σ H x y v u Q I rx ry ⟨p,p2,xs,ys,e1,e2,s1,s2,by rw [iJ a1,iJ a2];exact hz,fun hx=> ?_,fun hx hy=> ?_,fun _ _ r hr=> ?_⟩
   ·subst hx
    cases a1
    rcases byy with b2|⟨_,_,_,_,b2⟩
    ·rw [←e2]
     exact q _ Hb H (Gw.refl eb) b2
    ·cases b2
   ·subst hy
    cases a2
    rcases bx with b2|⟨_,_,_,_,b2⟩
    ·rw [←e1]
     rw [aU] at q
     exact q _ Hb H (Gw.refl eb) b2
    ·cases b2
   ·have z:=Gw.tup eb hr (uK a1 a2)
    exact q _ _ _ z.1 z.2
  ·cases hg
theorem oH:Ds X (binaryOp .Sub) .dat pH:=by
 intro pins s σ H x y v u Q I rx ry h
 obtain⟨Hb,dx,dy,d,eb,bx,byy,hg,q⟩:=h
 cases dx<;>cases dy<;>simp only [pH] at hg<;>first|cases hg;done|skip
 cases hg
 exact op_sub pins s σ H x y v u Q I rx ry ⟨_,_,bx.int,byy.int,q _ Hb H (Gw.refl eb) pN⟩
theorem afD{i j:Int}(h:i.natAbs.log2+j.natAbs.log2<wD):IntMulOk i j:=by
 have b:∀x:Int,Builtin.Int.intBits x≤x.natAbs.log2+1:=fun x=>by
  unfold Builtin.Int.intBits
  split<;>omega
 have h1:=b i
 have h2:=b j
 have e:bitsLine=134217728:=by decide
 unfold wD at h
 unfold IntMulOk
 intro z
 rw [cW] at z
 have z2:=z.2
 unfold Builtin.Int.intTooBig at z2
 have z3:=of_decide_eq_true z2
 rw [e] at z3
 omega
theorem adk:OpR X (binaryOp .Mult) (rI (fun i j=>i.natAbs.log2+j.natAbs.log2<wD) fun i j=> .int (i*j)):=opI fun _ _ _ _ _ _ _ hc q=>PyProof.Rows.mul_int q (afD hc)
theorem Cr(x:Array Nat):∀(n:Nat) (acc:Array Nat),((aC n x).foldl (·++·) acc).size=acc.size+n*x.size
 |0,acc=>by simp
 |n+1,acc=>by
  rw [dJ,List.foldl_cons,Cr x n]
  simp [Nat.succ_mul]
  omega
theorem Uq(x:Str)(n:Int):(Ju x n).length=n.toNat*x.length:=by
 show((aC n.toNat x.cps).foldl (·++·) #[]).size=_
 rw [Cr]
 simp
 rfl
theorem adW:OpR X (binaryOp .Mult) (fun x y H Q=>∃(z:Str) (n:Int),x= .str z∧y= .int n∧-(2 ^ 62)≤n∧n<2 ^ 62∧z.length*n.toNat≤sizeLine∧Q (.str (Ju z n)) H):=by
 intro pins s σ H x y v u Q I rx ry h
 obtain⟨z,n,rfl,rfl,h1,h2,hz,q⟩:=h
 obtain⟨t,rfl⟩:=rx
 obtain⟨t',rfl⟩:=ry
 have se:sizeLine=16777216:=sizeLine_eq
 have fin:∀(y:Str) (tk:Nat) (t:Tok),y=Ju z n→EP X pins σ Q (.str y t) {s with toks:=tk}:=fun y tk t e=>⟨.str (Ju z n),H,I.tok tk,⟨t,by rw [e]⟩,q⟩
 refine PySem.P.mul_str (by rw [decide_eq_false (by omega),decide_eq_false (by omega)];rfl) (fun h3 h4=> ?_) (fun _ _=> ?_) ?_
 ·have hn:0<n:=by omega
  intro hgt
  have hgt:(2 ^ 63-1)/n<(z.length:Int):=hgt
  have hlt:=Int.lt_mul_of_ediv_lt hn hgt
  have e:((z.length*n.toNat:Nat):Int)=(z.length:Int)*n:=by
   rw [Int.natCast_mul,Int.toNat_of_nonneg (by omega)]
  omega
 ·unfold Builtin.Str.tooLong
  exact decide_eq_false (by omega)
 ·have hl:(Ju z n).length≤sizeLine:=by rw [Uq,bT];exact hz
  split
  ·rename_i hn
   refine⟨by decide,fin _ _ _ ?_⟩
   unfold Ju
   rw [show n.toNat=0 by omega]
   rfl
  ·split
   ·rename_i hn
    have e:z=Ju z n:=by
     rcases Bool.or_eq_true_iff.mp hn with h5|h5
     ·have h6:n=1:=by simpa using h5
      subst h6
      unfold Ju
      simp
     ·have h6:z.cps.size=0:=beq_iff_eq.mp h5
      have h7:z.cps= #[]:=Array.eq_empty_of_size_eq_zero h6
      have h8:(Ju z n).cps= #[]:=Array.eq_empty_of_size_eq_zero (by
       have:=Uq z n
       rw [show z.length=0 from h6,Nat.mul_zero] at this
       exact this)
      obtain⟨c⟩:=z
      show(⟨c⟩:Str)=⟨(Ju ⟨c⟩ n).cps⟩
      rw [h8]
      congr 1
    exact fin _ s.toks _ e
   ·exact⟨hl,fin _ _ _ rfl⟩
theorem lX:Ds X (binaryOp .Mult) .dat jZ:=by
 intro pins s σ H x y v u Q I rx ry h
 obtain⟨Hb,dx,dy,d,eb,bx,byy,hg,q⟩:=h
 cases dx<;>cases dy<;>simp only [jZ] at hg<;>first|cases hg;done|skip
 ·split at hg
  ·cases hg
   exact adk pins s σ H x y v u Q I rx ry ⟨_,_,bx.int,byy.int,by assumption,q _ Hb H (Gw.refl eb) pN⟩
  ·cases hg
 ·split at hg
  ·rename_i hz
   cases hg
   exact adW pins s σ H x y v u Q I rx ry ⟨_,_,bx.str,byy.int,hz.1,hz.2.1,hz.2.2,q _ Hb H (Gw.refl eb) KC⟩
  ·cases hg
theorem jW:Ds X (binaryOp .FloorDiv) .dat jy:=by
 intro pins s σ H x y v u Q I rx ry h
 obtain⟨Hb,dx,dy,d,eb,bx,byy,hg,q⟩:=h
 cases dx<;>cases dy<;>simp only [jy] at hg<;>first|cases hg;done|skip
 split at hg
 ·cases hg
  exact op_fdivW pins s σ H x y v u Q I rx ry ⟨_,_,bx.int,byy.int,by assumption,q _ Hb H (Gw.refl eb) pN⟩
 ·cases hg
theorem iK:Ds X (binaryOp .Mod) .dat iz:=by
 intro pins s σ H x y v u Q I rx ry h
 obtain⟨Hb,dx,dy,d,eb,bx,byy,hg,q⟩:=h
 cases dx<;>cases dy<;>simp only [iz] at hg<;>first|cases hg;done|skip
 split at hg
 ·cases hg
  exact op_mod pins s σ H x y v u Q I rx ry ⟨_,_,bx.int,byy.int,by assumption,q _ Hb H (Gw.refl eb) pN⟩
 ·cases hg
theorem vB:Ds X (binaryOp .Pow) .dat rK:=by
 intro pins s σ H x y v u Q I rx ry h
 obtain⟨Hb,dx,dy,d,eb,bx,byy,hg,q⟩:=h
 cases dx<;>cases dy<;>simp only [rK] at hg<;>first|cases hg;done|skip
 split at hg
 ·cases hg
  exact op_pow pins s σ H x y v u Q I rx ry ⟨_,_,bx.int,byy.int,by assumption,q _ Hb H (Gw.refl eb) pN⟩
 ·cases hg
theorem sO(x y:D):(∃i j,x= .str i∧y= .str j∧lB x y= .ok (.bool (decide (i=j))))∨lB x y=if SeqAt.shaped x&&SeqAt.shaped y then .ok (.bool (dH x y)) else .bad:=by
 cases x<;>cases y<;>first|exact .inr rfl|exact .inl ⟨_,_,rfl,rfl,rfl⟩
theorem g8(hu:X.A.units+64<cLine):Ds X (compareOp .Eq) .dat lB:=by
 intro pins s σ H x y v u Q I rx ry h
 obtain⟨Hb,dx,dy,d,eb,bx,byy,hg,q⟩:=h
 rcases sO dx dy with⟨i,j,rfl,rfl,e⟩|e
 ·rw [e] at hg
  cases hg
  refine op_eq pins s σ H x y v u Q I rx ry ⟨by rw [bx.str,byy.str];rfl,?_⟩
  rw [bx.str,byy.str]
  have e2:decide (V.str i=V.str j)=decide (i=j):=by simp
  rw [e2]
  exact q _ Hb H (Gw.refl eb) lQ
 ·rw [e] at hg
  split at hg
  ·rename_i hs
   cases hg
   rw [cW] at hs
   exact op_eqD hu pins s σ H x y v u Q I rx ry ⟨dx,dy,bx.dp eb (sV hs.1),byy.dp eb (sV hs.2),hs.1,hs.2,q _ Hb H (Gw.refl eb) lQ⟩
  ·cases hg
theorem yO(hu:X.A.units+64<cLine):Ds X (compareOp .NotEq) .dat BX:=by
 intro pins s σ H x y v u Q I rx ry h
 obtain⟨Hb,dx,dy,d,eb,bx,byy,hg,q⟩:=h
 unfold BX at hg
 rcases sO dx dy with⟨i,j,rfl,rfl,e⟩|e
 ·rw [e] at hg
  cases hg
  refine op_ne pins s σ H x y v u Q I rx ry ⟨by rw [bx.str,byy.str];rfl,?_⟩
  rw [bx.str,byy.str]
  have e2:decide (V.str i=V.str j)=decide (i=j):=by simp
  rw [e2]
  exact q _ Hb H (Gw.refl eb) lQ
 ·rw [e] at hg
  split at hg
  ·rename_i hs
   cases hg
   rw [cW] at hs
   exact op_neD hu pins s σ H x y v u Q I rx ry ⟨dx,dy,bx.dp eb (sV hs.1),byy.dp eb (sV hs.2),hs.1,hs.2,q _ Hb H (Gw.refl eb) lQ⟩
  ·cases hg
theorem tL:Ds X (compareOp .Lt) .dat Lj:=by
 intro pins s σ H x y v u Q I rx ry h
 obtain⟨Hb,dx,dy,d,eb,bx,byy,hg,q⟩:=h
 cases dx<;>cases dy<;>simp only [Lj] at hg<;>first|cases hg;done|skip
 ·cases hg
  exact op_lt pins s σ H x y v u Q I rx ry ⟨_,_,bx.int,byy.int,q _ Hb H (Gw.refl eb) lQ⟩
 ·cases hg
  exact op_lt_str pins s σ H x y v u Q I rx ry ⟨_,_,bx.str,byy.str,q _ Hb H (Gw.refl eb) lQ⟩
theorem tO:Ds X (compareOp .LtE) .dat Oa:=by
 intro pins s σ H x y v u Q I rx ry h
 obtain⟨Hb,dx,dy,d,eb,bx,byy,hg,q⟩:=h
 cases dx<;>cases dy<;>simp only [Oa] at hg<;>first|cases hg;done|skip
 cases hg
 exact op_le pins s σ H x y v u Q I rx ry ⟨_,_,bx.int,byy.int,q _ Hb H (Gw.refl eb) lQ⟩
theorem yV:Ds X (compareOp .Gt) .dat TY:=by
 intro pins s σ H x y v u Q I rx ry h
 obtain⟨Hb,dx,dy,d,eb,bx,byy,hg,q⟩:=h
 cases dx<;>cases dy<;>simp only [TY] at hg<;>first|cases hg;done|skip
 cases hg
 exact op_gt pins s σ H x y v u Q I rx ry ⟨_,_,bx.int,byy.int,q _ Hb H (Gw.refl eb) lQ⟩
theorem agj:Ds X (compareOp .GtE) .dat dGe:=by
 intro pins s σ H x y v u Q I rx ry h
 obtain⟨Hb,dx,dy,d,eb,bx,byy,hg,q⟩:=h
 cases dx<;>cases dy<;>simp only [dGe] at hg<;>first|cases hg;done|skip
 cases hg
 exact op_ge pins s σ H x y v u Q I rx ry ⟨_,_,bx.int,byy.int,q _ Hb H (Gw.refl eb) lQ⟩
theorem Bo.agq{K:ao}{Hb H:Hp}{v:V}{ds:List (D×D)}(h:Bo K Hb H v (.dict ds)):∃p,v= .ref p:=by
 rcases h with h|⟨p,h,_⟩
 ·cases h<;>exact⟨_,rfl⟩
 ·exact⟨p,h⟩
theorem yU:Ds X (compareOp .Is) .dat v7:=by
 intro pins s σ H x y v u Q I rx ry h
 obtain⟨Hb,dx,dy,d,eb,bx,byy,hg,q⟩:=h
 have key:dy= .none→d= .bool (decide (x= .non))→wpAny (model X.prog X.w) X.A (compareOp .Is v u) (EP X pins σ Q) X.xe s:=fun e1 e2=>by
  subst e1 e2
  exact op_isN pins s σ H x y v u Q I rx ry ⟨byy.non,q _ Hb H (Gw.refl eb) lQ⟩
 cases dx<;>cases dy<;>simp only [v7] at hg<;>first|cases hg;done|skip
 ·cases hg
  exact key rfl (by rw [bx.non];rfl)
 ·cases hg
  rw [bx.non] at rx
  rw [byy.bl] at ry
  cases rx
  cases ry
  exact wpAny_is_other rfl (fun z=>nomatch z) ⟨.bl false,H,I,rfl,q _ Hb H (Gw.refl eb) lQ⟩
 ·cases hg
  exact key rfl (by rw [bx.bl];rfl)
 ·cases hg
  exact op_isBl pins s σ H x y v u Q I rx ry ⟨_,_,bx.bl,byy.bl,q _ Hb H (Gw.refl eb) lQ⟩
 ·cases hg
  exact key rfl (by rw [bx.int];rfl)
 ·cases hg
  rw [bx.int] at rx
  rw [byy.bl] at ry
  obtain⟨t,rfl⟩:=rx
  cases ry
  exact wpAny_is_other rfl (fun z=>nomatch z) ⟨.bl false,H,I,rfl,q _ Hb H (Gw.refl eb) lQ⟩
 ·cases hg
  exact key rfl (by rw [bx.str];rfl)
 ·cases hg
  obtain⟨p,xs,e1,_⟩:=bx.lst eb
  exact key rfl (by rw [e1];rfl)
 ·cases hg
  obtain⟨p,xs,e1,_⟩:=bx.tup eb
  exact key rfl (by rw [e1];rfl)
 ·cases hg
  obtain⟨p,e1⟩:=bx.agq
  exact key rfl (by rw [e1];rfl)
theorem Ut:Ds X (compareOp .IsNot) .dat pF:=by
 intro pins s σ H x y v u Q I rx ry h
 obtain⟨Hb,dx,dy,d,eb,bx,byy,hg,q⟩:=h
 have key:dy= .none→d= .bool (!decide (x= .non))→wpAny (model X.prog X.w) X.A (compareOp .IsNot v u) (EP X pins σ Q) X.xe s:=fun e1 e2=>by
  subst e1 e2
  exact op_notN pins s σ H x y v u Q I rx ry ⟨byy.non,q _ Hb H (Gw.refl eb) lQ⟩
 cases dx<;>cases dy<;>simp only [pF,v7,ER.bind] at hg<;>first|cases hg;done|skip
 ·cases hg
  exact key rfl (by rw [bx.non];rfl)
 ·cases hg
  rw [bx.non] at rx
  rw [byy.bl] at ry
  cases rx
  cases ry
  exact wpAny_isNot_other rfl (fun z=>nomatch z) ⟨.bl true,H,I,rfl,q _ Hb H (Gw.refl eb) lQ⟩
 ·cases hg
  exact key rfl (by rw [bx.bl];rfl)
 ·cases hg
  exact op_notBl pins s σ H x y v u Q I rx ry ⟨_,_,bx.bl,byy.bl,q _ Hb H (Gw.refl eb) lQ⟩
 ·cases hg
  exact key rfl (by rw [bx.int];rfl)
 ·cases hg
  rw [bx.int] at rx
  rw [byy.bl] at ry
  obtain⟨t,rfl⟩:=rx
  cases ry
  exact wpAny_isNot_other rfl (fun z=>nomatch z) ⟨.bl true,H,I,rfl,q _ Hb H (Gw.refl eb) lQ⟩
 ·cases hg
  exact key rfl (by rw [bx.str];rfl)
 ·cases hg
  obtain⟨p,xs,e1,_⟩:=bx.lst eb
  exact key rfl (by rw [e1];rfl)
 ·cases hg
  obtain⟨p,xs,e1,_⟩:=bx.tup eb
  exact key rfl (by rw [e1];rfl)
 ·cases hg
  obtain⟨p,e1⟩:=bx.agq
  exact key rfl (by rw [e1];rfl)
end
theorem jd:kh jw:=fun x y c h=>by
 cases x<;>cases y<;>simp only [jw] at h<;>first|cases h;done|(split at h<;>cases h)
theorem oG:kh pH:=fun x y c h=>by cases x<;>cases y<;>cases h
theorem lW:kh jZ:=fun x y c h=>by
 cases x<;>cases y<;>simp only [jZ] at h<;>first|cases h;done|(split at h<;>cases h)
theorem jX:kh jy:=fun x y c h=>by
 cases x<;>cases y<;>simp only [jy] at h<;>first|cases h;done|(split at h<;>cases h)
theorem iQ:kh iz:=fun x y c h=>by
 cases x<;>cases y<;>simp only [iz] at h<;>first|cases h;done|(split at h<;>cases h)
theorem ne_pow:kh rK:=fun x y c h=>by
 cases x<;>cases y<;>simp only [rK] at h<;>first|cases h;done|(split at h<;>cases h)
theorem ne_eq:kh lB:=fun x y c h=>by
 rcases sO x y with⟨i,j,rfl,rfl,e⟩|e
 ·rw [e] at h
  cases h
 ·rw [e] at h
  split at h<;>cases h
theorem yP:kh BX:=fun x y c h=>by
 unfold BX at h
 rcases sO x y with⟨i,j,rfl,rfl,e⟩|e
 ·rw [e] at h
  cases h
 ·rw [e] at h
  split at h<;>cases h
theorem tM:kh Lj:=fun x y c h=>by cases x<;>cases y<;>cases h
theorem sW:kh Oa:=fun x y c h=>by cases x<;>cases y<;>cases h
theorem zu:kh TY:=fun x y c h=>by cases x<;>cases y<;>cases h
theorem af8:kh dGe:=fun x y c h=>by cases x<;>cases y<;>cases h
theorem ne_is:kh v7:=fun x y c h=>by cases x<;>cases y<;>cases h
theorem VH:kh pF:=fun x y c h=>by cases x<;>cases y<;>simp [pF,v7,ER.bind] at h
end DL
namespace DL
open PySem L2 Evl
def Tz(K:ao)(W:WQ)(m:EM):TT:=fun σ H Q=>∃(Hf Hb:Hp) (ρ:Env),iG K W.pin Hf Hb H σ ρ∧
 (∀b,m ρ= .ok (.bool b)→∀Hb' H',Gw Hb H Hb' H' →Q b H')∧
 (∀c,m ρ= .ex c→∀Hb' H',Gw Hb H Hb' H' →W.w (.ref (He.ga K c)) none σ H')∧((∃b,m ρ= .ok (.bool b))∨∃c,m ρ= .ex c)
abbrev DT(X:Cx)(W:WQ)(e:Expr)(m:EM):Prop:=PT X e (Tz X.K W m)
abbrev DW(X:Cx)(W:WQ)(e:Expr)(m:EM):Prop:=PW X e (Tz X.K W m)
def lV(m:EM):EM:=fun ρ=>(m ρ).bind fun d=>match d with
 | .bool b=> .ok (.bool (!b))
 |_=> .bad
def oE(ma mb:EM):EM:=fun ρ=>(ma ρ).bind fun d=>match d with
 | .bool true=>mb ρ
 | .bool false=> .ok (.bool false)
 |_=> .bad
def sS(ma mb:EM):EM:=fun ρ=>(ma ρ).bind fun d=>match d with
 | .bool true=> .ok (.bool true)
 | .bool false=>mb ρ
 |_=> .bad
def eIf(mc ma mb:EM):EM:=fun ρ=>(mc ρ).bind fun d=>match d with
 | .bool true=>ma ρ
 | .bool false=>mb ρ
 |_=> .bad
section
variable{K:ao}{W:WQ}{kd:Kd}{m ma mb mc:EM}{σ:L2.St}{H:Hp}{Q:Bool→Hp→Prop}{QV:VK}
theorem JB(h:Tz K W m σ H Q):Bp K W .bor m σ H fun x H' =>∃c,x= .bl c∧Q c H' :=by
 obtain⟨Hf,Hb,ρ,R,h1,h2,h3⟩:=h
 refine⟨Hf,Hb,ρ,R,fun d hd v Hb' H' g r=> ?_,h2,fun z=> ?_⟩
 ·rcases h3 with⟨b,hb⟩|⟨c,hc⟩
  ·rw [hb] at hd
   cases hd
   exact⟨b,Bo.bl r,h1 b hb Hb' H' g⟩
  ·rw [hc] at hd
   cases hd
 ·rcases h3 with⟨b,hb⟩|⟨c,hc⟩
  ·rw [hb] at z
   cases z
  ·rw [hc] at z
   cases z
theorem ad3(h:Tz K W (lV m) σ H Q):tNot (Tz K W m) σ H Q:=by
 obtain⟨Hf,Hb,ρ,R,h1,h2,h3⟩:=h
 refine⟨Hf,Hb,ρ,R,fun b hb Hb' H' g=>h1 (!b) (by simp [lV,hb,ER.bind]) Hb' H' g,fun c hc=>h2 c (by simp [lV,hc,ER.bind]),?_⟩
 cases q:m ρ with
 |bad=>simp [lV,q,ER.bind] at h3
 |ex c=>exact .inr ⟨c,rfl⟩
 |ok d=>
  cases d<;>simp [lV,q,ER.bind] at h3
  exact .inl ⟨_,rfl⟩
theorem aei(h:Tz K W (oE ma mb) σ H Q):tAnd (Tz K W ma) (Tz K W mb) σ H Q:=by
 obtain⟨Hf,Hb,ρ,R,h1,h2,h3⟩:=h
 refine⟨Hf,Hb,ρ,R,fun b hb Hb' H' g=> ?_,fun c hc=>h2 c (by simp [oE,hc,ER.bind]),?_⟩
 ·cases b with
  |true=>
   have e:oE ma mb ρ=mb ρ:=by simp [oE,hb,ER.bind]
   rw [e] at h1 h2 h3
   show Tz K W mb σ H' Q
   exact⟨Hf,Hb',ρ,R.gw g,fun b2 hb2 Hb2 H2 g2=>h1 b2 hb2 Hb2 H2 (g.trans g2),fun c hc Hb2 H2 g2=>h2 c hc Hb2 H2 (g.trans g2),h3⟩
  |false=>
   show Q false H'
   exact h1 false (by simp [oE,hb,ER.bind]) Hb' H' g
 ·cases q:ma ρ with
  |bad=>simp [oE,q,ER.bind] at h3
  |ex c=>exact .inr ⟨c,rfl⟩
  |ok d=>
   cases d<;>simp [oE,q,ER.bind] at h3
   exact .inl ⟨_,rfl⟩
theorem afi(h:Tz K W (sS ma mb) σ H Q):tOr (Tz K W ma) (Tz K W mb) σ H Q:=by
 obtain⟨Hf,Hb,ρ,R,h1,h2,h3⟩:=h
 refine⟨Hf,Hb,ρ,R,fun b hb Hb' H' g=> ?_,fun c hc=>h2 c (by simp [sS,hc,ER.bind]),?_⟩
 ·cases b with
  |false=>
   have e:sS ma mb ρ=mb ρ:=by simp [sS,hb,ER.bind]
   rw [e] at h1 h2 h3
   show Tz K W mb σ H' Q
   exact⟨Hf,Hb',ρ,R.gw g,fun b2 hb2 Hb2 H2 g2=>h1 b2 hb2 Hb2 H2 (g.trans g2),fun c hc Hb2 H2 g2=>h2 c hc Hb2 H2 (g.trans g2),h3⟩
  |true=>
   show Q true H'
   exact h1 true (by simp [sS,hb,ER.bind]) Hb' H' g
 ·cases q:ma ρ with
  |bad=>simp [sS,q,ER.bind] at h3
  |ex c=>exact .inr ⟨c,rfl⟩
  |ok d=>
   cases d<;>simp [sS,q,ER.bind] at h3
   exact .inl ⟨_,rfl⟩
theorem ad8(h:Bp K W .dat (lV m) σ H QV):tNotV (Bp K W .bor m) σ H QV:=by
 obtain⟨Hf,Hb,ρ,R,h1,h2,h3⟩:=h
 refine⟨Hf,Hb,ρ,R,fun d hd v Hb' H' g r=> ?_,fun c hc=>h2 c (by simp [lV,hc,ER.bind]),fun z=>h3 (by simp [lV,z,ER.bind])⟩
 cases d<;>simp [lV,hd,ER.bind] at h3
 rename_i b
 exact⟨b,Bo.bl r,h1 (.bool (!b)) (by simp [lV,hd,ER.bind]) _ Hb' H' g lQ⟩
theorem adn(h:Bp K W .dat (oE ma mb) σ H QV):tAndV (Bp K W .bor ma) (Bp K W .dat mb) σ H QV:=by
 obtain⟨Hf,Hb,ρ,R,h1,h2,h3⟩:=h
 refine⟨Hf,Hb,ρ,R,fun d hd v Hb' H' g r=> ?_,fun c hc=>h2 c (by simp [oE,hc,ER.bind]),fun z=>h3 (by simp [oE,z,ER.bind])⟩
 cases d with
 |bool b=>
  refine⟨b,Bo.bl r,?_⟩
  cases b with
  |true=>
   have e:oE ma mb ρ=mb ρ:=by simp [oE,hd,ER.bind]
   rw [e] at h1 h2 h3
   show Bp K W .dat mb σ H' QV
   exact⟨Hf,Hb',ρ,R.gw g,fun d2 hd2 v2 Hb2 H2 g2 r2=>h1 d2 hd2 v2 Hb2 H2 (g.trans g2) r2,fun c hc Hb2 H2 g2=>h2 c hc Hb2 H2 (g.trans g2),h3⟩
  |false=>
   show QV (.bl false) H'
   exact h1 (.bool false) (by simp [oE,hd,ER.bind]) _ Hb' H' g lQ
 |_=>exact absurd (by simp [oE,hd,ER.bind]) h3
theorem afb(h:Bp K W .dat (sS ma mb) σ H QV):tOrV (Bp K W .bor ma) (Bp K W .dat mb) σ H QV:=by
 obtain⟨Hf,Hb,ρ,R,h1,h2,h3⟩:=h
 refine⟨Hf,Hb,ρ,R,fun d hd v Hb' H' g r=> ?_,fun c hc=>h2 c (by simp [sS,hc,ER.bind]),fun z=>h3 (by simp [sS,z,ER.bind])⟩
 cases d with
 |bool b=>
  refine⟨b,Bo.bl r,?_⟩
  cases b with
  |false=>
   have e:sS ma mb ρ=mb ρ:=by simp [sS,hd,ER.bind]
   rw [e] at h1 h2 h3
   show Bp K W .dat mb σ H' QV
   exact⟨Hf,Hb',ρ,R.gw g,fun d2 hd2 v2 Hb2 H2 g2 r2=>h1 d2 hd2 v2 Hb2 H2 (g.trans g2) r2,fun c hc Hb2 H2 g2=>h2 c hc Hb2 H2 (g.trans g2),h3⟩
  |true=>
   show QV (.bl true) H'
   exact h1 (.bool true) (by simp [sS,hd,ER.bind]) _ Hb' H' g lQ
 |_=>exact absurd (by simp [sS,hd,ER.bind]) h3
end
section
variable{X:Cx}{W:WQ}{kd:Kd}{a b c:Expr}{rest:List Expr}{m ma mb mc:EM}{g g' :D→D→ER}{pos:Pos}
theorem qD(h:DE X W .bor a m)(he:∀whole,isTrue a X.env whole=(do let v←whole;standAt a.pos;holding [v] (truthy v)):=by intro _;rfl):DT X W a m:=PT.imp (pt_val h he) fun _ _ _=>JB
theorem fU{op:CmpOp}(ho:Ds X (compareOp op) .dat g)(ng:kh g)(ha:DE X W .bor a ma)(hb:DE X W .bor b mb)(hm:behindInMarks op b=false:=by first|exact nomark _|rfl):DT X W (.Compare a [op] [b] pos) (eV g ma mb):=
 PT.imp (pt_cmpR ho ha hb hm) fun σ H Q h=>by
  obtain⟨Hf,Hb,ρ,R,h1,h2,h3⟩:=JB h
  exact ye ng ⟨Hf,Hb,ρ,R,fun d hd v Hb' H' g r=>h1 d hd v Hb' H' g (.inl r),h2,h3⟩
theorem mW(h:DT X W a m):DT X W (.UnaryOp .Not a pos) (lV m):=PT.imp (pt_not h) fun _ _ _=>ad3
theorem yq(h:DT X W a m):DW X W (.BoolOp .And [a] pos) m:=pw_and1 h
theorem rB(h:DT X W a m):DW X W (.BoolOp .Or [a] pos) m:=pw_or1 h
theorem CQ(ha:DT X W a ma)(hb:DW X W (.BoolOp .And (b::rest) pos) mb):DW X W (.BoolOp .And (a::b::rest) pos) (oE ma mb):=PW.imp (pw_and ha hb) fun _ _ _=>aei
theorem qd(ha:DT X W a ma)(hb:DW X W (.BoolOp .Or (b::rest) pos) mb):DW X W (.BoolOp .Or (a::b::rest) pos) (sS ma mb):=PW.imp (pw_or ha hb) fun _ _ _=>afi
theorem wI(h:DW X W a m):DT X W a m:=PW.pt h
theorem aft(h:DE X W .bor a m):DE X W .dat (.UnaryOp .Not a pos) (lV m):=PE.imp (pe_not h) fun _ _ _=>ad8
theorem G3{op}(h:DE X W kd a m):DE X W kd (.BoolOp op [a] pos) m:=pe_one h
theorem GD(ha:DE X W .bor a ma)(hb:DE X W .dat (.BoolOp .And (b::rest) pos) mb):DE X W .dat (.BoolOp .And (a::b::rest) pos) (oE ma mb):=PE.imp (pe_and ha hb) fun _ _ _=>adn
theorem aeu(ha:DE X W .bor a ma)(hb:DE X W .dat (.BoolOp .Or (b::rest) pos) mb):DE X W .dat (.BoolOp .Or (a::b::rest) pos) (sS ma mb):=PE.imp (pe_or ha hb) fun _ _ _=>afb
end
def iW(g g' :D→D→ER)(ma mb mc:EM):EM:=fun ρ=>(ma ρ).bind fun x=>(mb ρ).bind fun y=>(g x y).bind fun z=>match z with
 | .bool true=>(mc ρ).bind fun w=>g' y w
 | .bool false=> .ok (.bool false)
 |_=> .bad
section
variable{K:ao}{W:WQ}{ma mb mc:EM}{g g' :D→D→ER}
theorem Qz(ng:kh g)(ng' :kh g'){σ:L2.St}{H:Hp}{Q:VK}(h:Bp K W .dat (iW g g' ma mb mc) σ H Q):tChain (Y4 K .dat g) (Y4 K .dat g') (Bp K W .bor ma) (Bp K W .bor mb) (Bp K W .bor mc) σ H Q:=by
 obtain⟨Hf,Hb,ρ,R,h1,h2,h3⟩:=h
 refine⟨Hf,Hb,ρ,R,fun d hd v Hb1 H1 g1 r1=> ?_,fun c hc Hb1 H1 g1=>h2 c (by simp [iW,hc,ER.bind]) Hb1 H1 g1,fun z=>h3 (by simp [iW,z,ER.bind])⟩
 refine⟨Hf,Hb1,ρ,R.gw g1,fun d2 hd2 v2 Hb2 H2 g2 r2=> ?_,fun c hc Hb2 H2 g2=>h2 c (by simp [iW,hd,hc,ER.bind]) Hb2 H2 (g1.trans g2),fun z=>h3 (by simp [iW,hd,z,ER.bind])⟩
 cases q:g d d2 with
 |bad=>exact absurd (by simp [iW,hd,hd2,q,ER.bind]) h3
 |ex c=>exact absurd q (ng _ _ _)
 |ok z=>
  refine⟨Hb2,d,d2,z,g2.bh,Bo.ex g2.b g2.h r1,r2,q,fun v3 Hb3 H3 g3 r3=> ?_⟩
  have gg:Gw Hb H Hb3 H3:=(g1.trans g2).trans g3
  cases z with
  |bool b=>
   have e1:v3= .bl b:=Bo.bl (K:=K) (Hb:=Hb3) (H:=H3) (.inl r3)
   refine⟨b,e1,?_⟩
   cases b with
   |true=>
    show Bp K W .bor mc σ H3 fun w' H4=>Y4 K .dat g' v2 w' H4 Q
    have e:iW g g' ma mb mc ρ=(mc ρ).bind fun w=>g' d2 w:=by simp [iW,hd,hd2,q,ER.bind]
    rw [e] at h1 h2 h3
    refine⟨Hf,Hb3,ρ,R.gw gg,fun d4 hd4 v4 Hb4 H4 g4 r4=> ?_,fun c hc Hb4 H4 g4=>h2 c (by simp [hc,ER.bind]) Hb4 H4 (gg.trans g4),fun z=>h3 (by simp [z,ER.bind])⟩
    rw [hd4] at h1 h3
    cases q4:g' d2 d4 with
    |bad=>exact absurd (by simp [q4,ER.bind]) h3
    |ex c=>exact absurd q4 (ng' _ _ _)
    |ok z4=>exact⟨Hb4,d2,d4,z4,g4.bh,Bo.ex (g3.b.trans g4.b) (g3.h.trans g4.h) r2,r4,q4,fun v Hb5 H5 g5 r5=>h1 z4 (by simp [q4,ER.bind]) v Hb5 H5 ((gg.trans g4).trans g5) r5⟩
   |false=>
    show Q (.bl false) H3
    exact h1 (.bool false) (by simp [iW,hd,hd2,q,ER.bind]) _ Hb3 H3 gg lQ
  |_=>exact absurd (by simp [iW,hd,hd2,q,ER.bind]) h3
end
section
variable{X:Cx}{W:WQ}{a b c:Expr}{ma mb mc:EM}{g g' :D→D→ER}{pos:Pos}
theorem V6{op op' :CmpOp}(ho:Ds X (compareOp op) .dat g)(ho' :Ds X (compareOp op') .dat g')(ng:kh g)(ng' :kh g')(ha:DE X W .bor a ma)(hb:DE X W .bor b mb)(hc:DE X W .bor c mc)
 (hm:lastMarks [op,op'] [b,c]=false:=by with_unfolding_all rfl):DE X W .dat (.Compare a [op,op'] [b,c] pos) (iW g g' ma mb mc):=PE.imp (pe_chain ho ho' ha hb hc hm) fun _ _ _=>Qz ng ng'
theorem tH{op op' :CmpOp}(ho:Ds X (compareOp op) .dat g)(ho' :Ds X (compareOp op') .dat g')(ng:kh g)(ng' :kh g')(ha:DE X W .bor a ma)(hb:DE X W .bor b mb)(hc:DE X W .bor c mc)
 (hm:lastMarks [op,op'] [b,c]=false:=by with_unfolding_all rfl):DT X W (.Compare a [op,op'] [b,c] pos) (iW g g' ma mb mc):=PT.imp (pt_chain ho ho' ha hb hc hm) fun σ H Q h=>by
 obtain⟨Hf,Hb,ρ,R,h1,h2,h3⟩:=JB h
 exact Qz ng ng' ⟨Hf,Hb,ρ,R,fun d hd v Hb' H' g r=>h1 d hd v Hb' H' g (.inl r),h2,h3⟩
end
inductive AR where
 |ok (ds:List D)|ex (c:Str)|bad
def nM:List EM→Env→AR
 |[],_=> .ok []
 |m::r,ρ=>match m ρ with
  | .ok d=>(match nM r ρ with
    | .ok ds=> .ok (d::ds)
    | .ex c=> .ex c
    | .bad=> .bad)
  | .ex c=> .ex c
  | .bad=> .bad
def Ra(K:ao)(kd:Kd)(Hb H:Hp)(v:V)(d:D):Prop:=match kd with
 | .dat=>Dr K Hb v d
 |_=>Bo K Hb H v d
inductive mU(K:ao)(Hb H:Hp):List Kd→List V→List D→Prop
 |nil:mU K Hb H [] [] []
 |cons {kd:Kd} {ks:List Kd} {v:V} {vs:List V} {d:D} {ds:List D}:Ra K kd Hb H v d→mU K Hb H ks vs ds→mU K Hb H (kd::ks) (v::vs) (d::ds)
def aOf(K:ao)(W:WQ)(ks:List Kd)(ms:List EM):TA:=fun σ H Q=>∃(Hf Hb:Hp) (ρ:Env),iG K W.pin Hf Hb H σ ρ∧
 (∀ds,nM ms ρ= .ok ds→∀vs Hb' H',Gw Hb H Hb' H' →mU K Hb' H' ks vs ds→Q vs H')∧
 (∀c,nM ms ρ= .ex c→∀Hb' H',Gw Hb H Hb' H' →W.w (.ref (He.ga K c)) none σ H')∧nM ms ρ≠ .bad
abbrev DA(X:Cx)(W:WQ)(ks:List Kd)(es:List Expr)(ms:List EM):Prop:=PA X es (aOf X.K W ks ms)
theorem PA.imp{X:Cx}{e:List Expr}{t t' :TA}(h:PA X e t)(i:∀σ H Q,t' σ H Q→t σ H Q):PA X e t' :=⟨fun pos pins s σ H Q I q=>h.run pos pins s σ H Q I (i σ H Q q)⟩
theorem Ra.ex{K:ao}{kd:Kd}{Hb H Hb' H' :Hp}{v:V}{d:D}(eb:Ex Hb Hb')(e:Ex H H')(h:Ra K kd Hb H v d):Ra K kd Hb' H' v d:=by
 cases kd with
 |dat=>exact nq eb h
 |new=>exact Bo.ex eb e h
 |bor=>exact Bo.ex eb e h
 |io p=>exact Bo.ex eb e h
 |tl=>exact Bo.ex eb e h
theorem Rs.ra{K:ao}{kd:Kd}{H0 Hb H:Hp}{v:V}{d:D}(h:Rs K kd H0 Hb H v d)(hk:kd.arg=true):Ra K kd Hb H v d:=by
 cases kd with
 |dat=>exact h
 |bor=>exact h
 |new=>exact h.Y7
 |io p=>cases hk
 |tl=>cases hk
section
variable{X:Cx}{W:WQ}{kd:Kd}{ks:List Kd}{e:Expr}{es:List Expr}{m:EM}{ms:List EM}
theorem fB:DA X W [] [] []:=PA.imp pa_nil fun σ H Q ⟨Hf,Hb,ρ,R,h1,_,_⟩=>h1 [] rfl [] Hb H (Gw.refl R.eb) .nil
theorem eG(h:DE X W kd e m)(hr:DA X W ks es ms)(hp:starEach (e::es) X.env=(false,eval e X.env)::starEach es X.env:=by rfl)(hk:kd.arg=true:=by rfl):DA X W (kd::ks) (e::es) (m::ms):=PA.imp (pa_cons h hr hp) fun σ H Q ⟨Hf,Hb,ρ,R,h1,h2,h3⟩=>by
 refine⟨Hf,Hb,ρ,R,fun d hd v Hb1 H1 g1 r1=> ?_,fun c hc Hb1 H1 g1=>h2 c (by simp [nM,hc]) Hb1 H1 g1,fun z=>h3 (by simp [nM,z])⟩
 refine⟨Hf,Hb1,ρ,R.gw g1,fun ds hds vs Hb2 H2 g2 r2=>h1 (d::ds) (by simp [nM,hd,hds]) _ Hb2 H2 (g1.trans g2) (.cons ((r1.ra hk).ex g2.b g2.h) r2),fun c hc Hb2 H2 g2=>h2 c (by simp [nM,hd,hc]) Hb2 H2 (g1.trans g2),fun z=>h3 (by simp [nM,hd,z])⟩
end
theorem mU.dr{K:ao}{Hb H:Hp}:∀{ks:List Kd} {vs:List V} {ds:List D},(∀k∈ks,k= .dat)→mU K Hb H ks vs ds→iV K Hb vs ds
 |_,_,_,_, .nil=> .nil
 |_,_,_,hk, .cons a b=>by
  have e:=hk _ bB
  subst e
  exact .cons a (mU.dr (fun k hm=>hk k (aM _ hm)) b)
theorem mU.len{K:ao}{Hb H:Hp}:∀{ks:List Kd} {vs:List V} {ds:List D},mU K Hb H ks vs ds→vs.length=ds.length
 |_,_,_, .nil=>rfl
 |_,_,_, .cons _ b=>by simp [mU.len b]
def jG(ms:List EM):EM:=fun ρ=>match nM ms ρ with
 | .ok ds=>if ds.length≤sizeLine then .ok (.tuple ds) else .bad
 | .ex c=> .ex c
 | .bad=> .bad
def lC(ms:List EM):EM:=fun ρ=>match nM ms ρ with
 | .ok ds=>if ds.length≤sizeLine then .ok (.list ds) else .bad
 | .ex c=> .ex c
 | .bad=> .bad
section
variable{X:Cx}{W:WQ}{ks:List Kd}{es:List Expr}{ms:List EM}{pos:Pos}
theorem jH{x1}(h:DA X W ks es ms)(hk:∀k∈ks,k= .dat:=by simp):DE X W .dat (.Tuple es x1 pos) (jG ms):=PE.imp (pe_tup h) fun σ H Q ⟨Hf,Hb,ρ,R,h1,h2,h3⟩=>by
 refine⟨Hf,Hb,ρ,R,fun ds hds vs Hb1 H1 g1 r1=> ?_,fun c hc=>h2 c (by simp [jG,hc]),fun z=>h3 (by simp [jG,z])⟩
 have r:=r1.dr hk
 by_cases hl:ds.length≤sizeLine
 ·refine⟨by rw [r1.len];exact hl,fun p hp=> ?_⟩
  have z:=Gw.tup g1.bh hp r
  exact h1 (.tuple ds) (by simp [jG,hds,hl]) _ _ _ (g1.trans z.1) z.2
 ·exact absurd (by simp [jG,hds,hl]) h3
theorem j7(h:DA X W ks es ms)(hk:∀k∈ks,k= .dat:=by simp):DE X W .new (.List es pos) (lC ms):=PE.imp (pe_lst h) fun σ H Q ⟨Hf,Hb,ρ,R,h1,h2,h3⟩=>by
 refine⟨Hf,Hb,ρ,R,fun ds hds vs Hb1 H1 g1 r1=> ?_,fun c hc=>h2 c (by simp [lC,hc]),fun z=>h3 (by simp [lC,z])⟩
 have r:=r1.dr hk
 by_cases hl:ds.length≤sizeLine
 ·refine⟨by rw [r1.len];exact hl,fun p hp=> ?_⟩
  have z:=Gw.Z6 g1.bh hp r
  exact h1 (.list ds) (by simp [lC,hds,hl]) _ _ _ (g1.trans z.1) (z.2.back g1.h)
 ·exact absurd (by simp [lC,hds,hl]) h3
end
def gj:D→D→ER
 | .list ds, .int i=>(match atI ds i with
   |some d=> .ok d
   |none=> .bad)
 | .tuple ds, .int i=>(match atI ds i with
   |some d=> .ok d
   |none=> .bad)
 | .str s, .int i=>if s.length≤sizeLine then(match atI s.cps.toList i with
   |some c=> .ok (.str ⟨#[c]⟩)
   |none=> .bad) else .bad
 |_,_=> .bad
theorem HJ:kh gj:=fun x y c h=>by
 cases x<;>cases y<;>simp only [gj] at h<;>(repeat' split at h)<;>cases h
theorem Np{K:ao}{H:Hp}{ds:List D}{vs:List V}{i:Int}{d:D}(a:iV K H vs ds)(h:atI ds i=some d):∃v,atI vs i=some v∧Dr K H v d:=by
 unfold atI at h⊢
 rw [iJ a]
 cases q:ixN ds.length i with
 |none=>
  rw [q] at h
  cases h
 |some j=>
  rw [q] at h
  exact Dj a h
section
variable{X:Cx}{W:WQ}{a b:Expr}{ma mb:EM}{pos:Pos}
theorem aa3:IxR X (Y4 X.K .dat gj):=by
 intro value slice pins s σ H x y v u Q I rx ry h hs
 obtain⟨Hb,dx,dy,d,eb,bx,byy,hg,q⟩:=h
 cases dx<;>cases dy<;>simp only [gj] at hg<;>first|cases hg;done|skip
 ·split at hg
  ·split at hg
   ·rename_i hz _ c hc
    cases hg
    exact ix_str value slice pins s σ H x y v u Q I rx ry ⟨_,_,c,bx.str,byy.int,hz,hc,q _ Hb H (Gw.refl eb) KC⟩ hs
   ·cases hg
  ·cases hg
 ·split at hg
  ·rename_i hc
   cases hg
   obtain⟨p,xs,e1,s1,a1⟩:=bx.lst eb
   obtain⟨w,w1,w2⟩:=Np a1 hc
   exact ix_list value slice pins s σ H x y v u Q I rx ry ⟨p,xs,_,w,e1,byy.int,s1,w1,q _ Hb H (Gw.refl eb) w2⟩ hs
  ·cases hg
 ·split at hg
  ·rename_i hc
   cases hg
   obtain⟨p,xs,e1,s1,a1⟩:=bx.tup eb
   obtain⟨w,w1,w2⟩:=Np a1 hc
   exact ix_tup value slice pins s σ H x y v u Q I rx ry ⟨p,xs,_,w,e1,byy.int,s1,w1,q _ Hb H (Gw.refl eb) w2⟩ hs
  ·cases hg
theorem fO(ha:DE X W .bor a ma)(hb:DE X W .bor b mb)(hs:PlainIx b:=by exact fun _ _=>rfl):DE X W .dat (.Subscript a b pos) (eV gj ma mb):=PE.imp (pe_ix aa3 ha hb hs) fun _ _ _=>ye HJ
end
def cutD{α:Type}(xs:List α)(lo hi:Option Int):List α:=(xs.drop (HT.sIx xs.length 0 lo)).take (HT.sIx xs.length xs.length hi-HT.sIx xs.length 0 lo)
def dSl(x:D)(lo hi:Option Int):ER:=match x with
 | .list ds=> .ok (.list (cutD ds lo hi))
 | .tuple ds=> .ok (.tuple (cutD ds lo hi))
 | .str z=>if z.length≤sizeLine then .ok (.str (cutS z lo hi)) else .bad
 |_=> .bad
inductive OR where
 |ok (o:Option Int)|ex (c:Str)|bad
def Y8:Option EM→Env→OR
 |none,_=> .ok none
 |some m,ρ=>match m ρ with
  | .ok (.int i)=> .ok (some i)
  | .ok _=> .bad
  | .ex c=> .ex c
  | .bad=> .bad
def Cp(m:EM)(ml mh:Option EM):EM:=fun ρ=>(m ρ).bind fun x=>match Y8 ml ρ with
 | .ok lo=>(match Y8 mh ρ with
   | .ok hi=>dSl x lo hi
   | .ex c=> .ex c
   | .bad=> .bad)
 | .ex c=> .ex c
 | .bad=> .bad
def oOf(K:ao)(W:WQ)(m:Option EM):TO:=fun σ H Q=>∃(Hf Hb:Hp) (ρ:Env),iG K W.pin Hf Hb H σ ρ∧
 (∀o,Y8 m ρ= .ok o→∀Hb' H',Gw Hb H Hb' H' →Q o H')∧
 (∀c,Y8 m ρ= .ex c→∀Hb' H',Gw Hb H Hb' H' →W.w (.ref (He.ga K c)) none σ H')∧Y8 m ρ≠ .bad
abbrev DO(X:Cx)(W:WQ)(e:Option Expr)(m:Option EM):Prop:=PO X e (oOf X.K W m)
theorem PO.imp{X:Cx}{e:Option Expr}{t t' :TO}(h:PO X e t)(i:∀σ H Q,t' σ H Q→t σ H Q):PO X e t' :=⟨fun pins s σ H Q I q=>h.run pins s σ H Q I (i σ H Q q)⟩
def agT(K:ao):V→Option Int→Option Int→Hp→VK→Prop:=fun x lo hi H Q=>∃Hb dx d,Ex Hb H∧Bo K Hb H x dx∧dSl dx lo hi= .ok d∧∀v Hb' H',Gw Hb H Hb' H' →Dr K Hb' v d→Q v H'
theorem Qn{K:ao}{H:Hp}{ds:List D}{vs:List V}(lo hi:Option Int)(a:iV K H vs ds):iV K H (cutV vs lo hi) (cutD ds lo hi):=by
 unfold cutV cutD
 rw [iJ a]
 exact Mg _ (Kg _ a)
section
variable{X:Cx}{W:WQ}{a:Expr}{lo hi:Option Expr}{e:Expr}{m:EM}{ml mh:Option EM}{pos p2:Pos}
theorem BP:DO X W none none:=PO.imp po_none fun σ H Q ⟨Hf,Hb,ρ,R,h1,_,_⟩=>h1 none rfl Hb H (Gw.refl R.eb)
theorem vK(h:DE X W .bor e m):DO X W (some e) (some m):=PO.imp (po_some h) fun σ H Q ⟨Hf,Hb,ρ,R,h1,h2,h3⟩=>by
 refine⟨Hf,Hb,ρ,R,fun d hd v Hb' H' g r=> ?_,fun c hc=>h2 c (by simp [Y8,hc]),fun z=>h3 (by simp [Y8,z])⟩
 cases d with
 |int i=>exact⟨i,Bo.int r,h1 (some i) (by simp [Y8,hd]) Hb' H' g⟩
 |_=>exact absurd (by simp [Y8,hd]) h3
theorem agm:SlR X (agT X.K):=by
 intro pins s σ H x v vl vu lo hi sl Q I rx hs pl pu h
 obtain⟨Hb,dx,d,eb,bx,hg,q⟩:=h
 cases dx<;>simp only [dSl] at hg<;>first|cases hg;done|skip
 ·split at hg
  ·rename_i hz
   cases hg
   exact sl_str pins s σ H x v vl vu lo hi sl Q I rx hs pl pu ⟨_,bx.str,hz,q _ Hb H (Gw.refl eb) (.str _)⟩
  ·cases hg
 ·cases hg
  obtain⟨p,xs,e1,s1,a1⟩:=bx.lst eb
  refine sl_list pins s σ H x v vl vu lo hi sl Q I rx hs pl pu ⟨p,xs,e1,s1,fun r hr=> ?_⟩
  have z:=Gw.lst eb hr (Qn lo hi a1)
  exact q _ _ _ z.1 z.2
 ·cases hg
  obtain⟨p,xs,e1,s1,a1⟩:=bx.tup eb
  refine sl_tupA pins s σ H x v vl vu lo hi sl Q I rx hs pl pu ⟨p,xs,e1,s1,fun hw=> ?_,fun _ r hr=> ?_⟩
  ·rename_i ds
   have e2:cutD ds lo hi=ds:=by
    unfold cutD
    rw [iJ a1] at hw
    rw [hw.1,hw.2]
    simp
   rw [e2] at q
   rcases bx with b2|⟨_,_,_,_,b2⟩
   ·rw [←e1]
    exact q _ Hb H (Gw.refl eb) b2
   ·cases b2
  ·have z:=Gw.tup eb hr (Qn lo hi a1)
   exact q _ _ _ z.1 z.2
theorem N7(ha:DE X W .bor a m)(hl:DO X W lo ml)(hh:DO X W hi mh):DE X W .dat (.Subscript a (.Slice lo hi none p2) pos) (Cp m ml mh):=PE.imp (pe_slice agm ha hl hh) fun σ H Q ⟨Hf,Hb,ρ,R,h1,h2,h3⟩=>by
 refine⟨Hf,Hb,ρ,R,fun d hd v Hb1 H1 g1 r1=> ?_,fun c hc=>h2 c (by simp [Cp,hc,ER.bind]),fun z=>h3 (by simp [Cp,z,ER.bind])⟩
 refine⟨Hf,Hb1,ρ,R.gw g1,fun o ho Hb2 H2 g2=> ?_,fun c hc Hb2 H2 g2=>h2 c (by simp [Cp,hd,hc,ER.bind]) Hb2 H2 (g1.trans g2),fun z=>h3 (by simp [Cp,hd,z,ER.bind])⟩
 refine⟨Hf,Hb2,ρ,R.gw (g1.trans g2),fun o2 ho2 Hb3 H3 g3=> ?_,fun c hc Hb3 H3 g3=>h2 c (by simp [Cp,hd,ho,hc,ER.bind]) Hb3 H3 ((g1.trans g2).trans g3),fun z=>h3 (by simp [Cp,hd,ho,z,ER.bind])⟩
 have e:Cp m ml mh ρ=dSl d o o2:=by simp [Cp,hd,ho,ho2,ER.bind]
 rw [e] at h1 h2 h3
 cases q:dSl d o o2 with
 |bad=>exact absurd q h3
 |ex c=>
  exfalso
  cases d<;>simp only [dSl] at q<;>first|cases q;done|(split at q<;>cases q)
 |ok z=>exact⟨Hb3,d,z,g3.bh,Bo.ex (g2.b.trans g3.b) (g2.h.trans g3.h) r1,q,fun v Hb4 H4 g4 r4=>h1 z q v Hb4 H4 (((g1.trans g2).trans g3).trans g4) r4⟩
end
end DL
namespace DL
open PySem L2 Evl
def cOf(K:ao)(kd:Kd)(g:List D→ER):List V→Hp→VK→Prop:=fun vs H Q=>∃Hb ks ds d,Ex Hb H∧mU K Hb H ks vs ds∧g ds= .ok d∧∀v Hb' H',Gw Hb H Hb' H' →Rs K kd H Hb' H' v d→Q v H'
abbrev CallD(X:Cx)(f:Value)(kd:Kd)(g:List D→ER):Prop:=CallR X f (cOf X.K kd g)
def zp(g:List D→ER):Prop:=∀ds c,g ds≠ .ex c
def fG(g:List D→ER)(ms:List EM):EM:=fun ρ=>match nM ms ρ with
 | .ok ds=>g ds
 | .ex c=> .ex c
 | .bad=> .bad
theorem Pk{K:ao}{W:WQ}{kd:Kd}{g:List D→ER}{ks:List Kd}{ms:List EM}(ng:zp g){σ:L2.St}{H:Hp}{Q:VK}(h:Bp K W kd (fG g ms) σ H Q):tCB (cOf K kd g) (aOf K W ks ms) σ H Q:=by
 obtain⟨Hf,Hb,ρ,R,h1,h2,h3⟩:=h
 refine⟨Hf,Hb,ρ,R,fun ds hds vs Hb1 H1 g1 r1=> ?_,fun c hc=>h2 c (by simp [fG,hc]),fun z=>h3 (by simp [fG,z])⟩
 have e:fG g ms ρ=g ds:=by simp [fG,hds]
 rw [e] at h1 h3
 cases q:g ds with
 |bad=>exact absurd q h3
 |ex c=>exact absurd q (ng _ _)
 |ok z=>exact⟨Hb1,ks,ds,z,g1.bh,r1,q,fun v Hb2 H2 g2 r2=>h1 z q v Hb2 H2 (g1.trans g2) (r2.back g1.h)⟩
section
variable{X:Cx}{W:WQ}{kd:Kd}{ks:List Kd}{x:Str}{p pos:Pos}{e:Expr}{es:List Expr}{ms:List EM}{id T:String}{g:List D→ER}
theorem gA(hc:CallD X (.builtin id) kd g)(ng:zp g)(hm:X.mg x=none)(hv:bootBuiltins x=some (.builtin id))(ha:DA X W ks (e::es) ms)(hg:Gl X x:=by rfl)(hn:x≠"__name__":=by decide)(hdb:(x==("__debug__":Str))=false:=by decide)
 (he:starEach (e::es) X.env=(false,eval e X.env)::starEach es X.env:=by rfl) (hpl:(backTo pos (starEach es X.env)).any (·.1)=false:=by rfl):DE X W kd (.Call (.Name x p) (e::es) [] pos) (fG g ms):=
 PE.imp (pe_callB hc hg hm hv ha hn hdb he hpl) fun _ _ _=>Pk ng
theorem jK(hc:CallD X (.type T) kd g)(ng:zp g)(hm:X.mg x=none)(hv:bootBuiltins x=some (.type T))(ha:DA X W ks (e::es) ms)(hg:Gl X x:=by rfl)(hn:x≠"__name__":=by decide)(hdb:(x==("__debug__":Str))=false:=by decide)
 (he:starEach (e::es) X.env=(false,eval e X.env)::starEach es X.env:=by rfl) (hpl:(backTo pos (starEach es X.env)).any (·.1)=false:=by rfl):DE X W kd (.Call (.Name x p) (e::es) [] pos) (fG g ms):=
 PE.imp (pe_callTy hc hg hm hv ha hn hdb he hpl) fun _ _ _=>Pk ng
end
theorem Ra.bo{K:ao}{kd:Kd}{Hb H:Hp}{v:V}{d:D}(h:Ra K kd Hb H v d):Bo K Hb H v d:=by
 cases kd with
 |dat=>exact .inl h
 |new=>exact h
 |bor=>exact h
 |io p=>exact h
 |tl=>exact h
theorem ra1{K:ao}{Hb H:Hp}{ks:List Kd}{vs:List V}{d:D}(h:mU K Hb H ks vs [d]):∃v,vs=[v]∧Bo K Hb H v d:=by
 cases h with
 |cons a b=>
  cases b
  exact⟨_,rfl,a.bo⟩
theorem ra2{K:ao}{Hb H:Hp}{ks:List Kd}{vs:List V}{d e:D}(h:mU K Hb H ks vs [d,e]):∃v w,vs=[v,w]∧Bo K Hb H v d∧Bo K Hb H w e:=by
 cases h with
 |cons a b=>
  cases b with
  |cons c b=>
   cases b
   exact⟨_,_,rfl,a.bo,c.bo⟩
def je:List D→ER
 |[.list ds]=> .ok (.int ds.length)
 |[.tuple ds]=> .ok (.int ds.length)
 |[.str z]=>if z.length≤sizeLine then .ok (.int z.length) else .bad
 |_=> .bad
def Kl:List D→ER
 |[.int i, .int j]=> .ok (.int (if j<i then j else i))
 |_=> .bad
def Y5:List D→ER
 |[.int i, .int j]=>if 0<j∧j.natAbs.log2<9000 then .ok (.tuple [.int (i/j), .int (i%j)]) else .bad
 |_=> .bad
def pP:List D→ER
 |[.list ds]=> .ok (.list ds)
 |[.tuple ds]=> .ok (.list ds)
 |_=> .bad
def mj:List D→ER
 |[.list ds]=> .ok (.tuple ds)
 |[.tuple ds]=> .ok (.tuple ds)
 |_=> .bad
def toInts:List D→Option (List Int)
 |[]=>some []
 | .int i::r=>(toInts r).map (i::·)
 |_=>none
def Rb(n:Int)(ns:List Int):Int:=ns.foldl max n
theorem YM:∀(ns:List Int) (n:Int),n≤Rb n ns∧∀y∈ns,y≤Rb n ns
 |[],n=>⟨Int.le_refl _,fun y h=>by cases h⟩
 |m::ns,n=>by
  have ih:=YM ns (max n m)
  show n≤Rb (max n m) ns∧∀y∈m::ns,y≤Rb (max n m) ns
  refine⟨by omega,fun y hy=> ?_⟩
  rcases aJ.mp hy with h|h
  ·omega
  ·exact ih.2 y h
theorem Mz:∀(ns:List Int) (n:Int),Rb n ns∈n::ns
 |[],n=>aV.mpr rfl
 |m::ns,n=>by
  have ih:=Mz ns (max n m)
  show Rb (max n m) ns∈n::m::ns
  rcases aJ.mp ih with h|h
  ·rcases Int.le_total n m with z|z
   ·rw [h,Int.max_eq_right z]
    exact aM _ bB
   ·rw [h,Int.max_eq_left z]
    exact bB
  ·exact aM _ (aM _ h)
def Jw:List D→ER
 |[.int i, .int j]=> .ok (.int (if j>i then j else i))
 |[.list ds]=>(match toInts ds with
  |some (n::ns)=> .ok (.int (Rb n ns))
  |_=> .bad)
 |_=> .bad
theorem z9{K:ao}{H:Hp}:∀{ds:List D} {vs:List V} {ns:List Int},toInts ds=some ns→iV K H vs ds→vs=ns.map V.int
 |[],_,_,h, .nil=>by
  cases h
  rfl
 | .int i::r,_,_,h, .cons a b=>by
   simp only [toInts] at h
   cases q:toInts r with
   |none=>
    rw [q] at h
    cases h
   |some m=>
    rw [q] at h
    cases h
    cases a
    rw [z9 q b]
    rfl
 | .none::_,_,_,h,_=>by cases h
 | .bool _::_,_,_,h,_=>by cases h
 | .str _::_,_,_,h,_=>by cases h
 | .list _::_,_,_,h,_=>by cases h
 | .tuple _::_,_,_,h,_=>by cases h
 | .dict _::_,_,_,h,_=>by cases h
theorem jc:zp je:=fun ds c h=>by
 unfold je at h
 repeat' split at h
 all_goals cases h
theorem Sw:zp Kl:=fun ds c h=>by
 unfold Kl at h
 repeat' split at h
 all_goals cases h
theorem XF:zp Jw:=fun ds c h=>by
 unfold Jw at h
 repeat' split at h
 all_goals cases h
theorem yK:zp pP:=fun ds c h=>by
 unfold pP at h
 repeat' split at h
 all_goals cases h
theorem pZ:zp mj:=fun ds c h=>by
 unfold mj at h
 repeat' split at h
 all_goals cases h
section
variable{X:Cx}
theorem jf:CallD X (.builtin "len") .dat je:=by
 intro pins s σ H vs us Q I r h
 obtain⟨Hb,ks,ds,d,eb,ra,hg,q⟩:=h
 unfold je at hg
 split at hg
 ·cases hg
  obtain⟨v,rfl,b⟩:=ra1 ra
  obtain⟨p,xs,e1,s1,a1⟩:=b.lst eb
  exact call_len pins s σ H _ us Q I r ⟨v,xs.length,rfl,by rw [e1];exact .inl ⟨xs,s1,rfl⟩,by rw [iJ a1];exact q _ Hb H (Gw.refl eb) pN⟩
 ·cases hg
  obtain⟨v,rfl,b⟩:=ra1 ra
  obtain⟨p,xs,e1,s1,a1⟩:=b.tup eb
  exact call_len pins s σ H _ us Q I r ⟨v,xs.length,rfl,by rw [e1];exact .inr ⟨xs,s1,rfl⟩,by rw [iJ a1];exact q _ Hb H (Gw.refl eb) pN⟩
 ·split at hg
  ·rename_i hz
   cases hg
   obtain⟨v,rfl,b⟩:=ra1 ra
   exact call_len pins s σ H _ us Q I r ⟨v,_,rfl,by rw [b.str];exact⟨hz,rfl⟩,q _ Hb H (Gw.refl eb) pN⟩
  ·cases hg
 ·cases hg
theorem QM(hc:X.calm=true):CallD X (.builtin "min") .dat Kl:=by
 intro pins s σ H vs us Q I r h
 obtain⟨Hb,ks,ds,d,eb,ra,hg,q⟩:=h
 unfold Kl at hg
 split at hg
 ·cases hg
  obtain⟨v,w,rfl,b1,b2⟩:=ra2 ra
  exact call_min2 hc pins s σ H _ us Q I r ⟨_,_,by rw [b1.int,b2.int],q _ Hb H (Gw.refl eb) pN⟩
 ·cases hg
theorem W3(hc:X.calm=true):CallD X (.builtin "max") .dat Jw:=by
 intro pins s σ H vs us Q I r h
 obtain⟨Hb,ks,ds,d,eb,ra,hg,q⟩:=h
 unfold Jw at hg
 split at hg
 ·cases hg
  obtain⟨v,w,rfl,b1,b2⟩:=ra2 ra
  exact call_max2 hc pins s σ H _ us Q I r ⟨_,_,by rw [b1.int,b2.int],q _ Hb H (Gw.refl eb) pN⟩
 ·split at hg
  ·rename_i n ns hn
   cases hg
   obtain⟨v,rfl,b1⟩:=ra1 ra
   obtain⟨p,xs,e1,s1,a1⟩:=b1.lst eb
   rw [z9 hn a1] at s1
   refine cr_max hc pins s σ H _ us Q I r ⟨p,n::ns,by rw [e1],s1,by simp,fun m h1 h2=> ?_⟩
   have e2:m=Rb n ns:=by
    have z1:=h2 _ (Mz ns n)
    have z2:=YM ns n
    rcases aJ.mp h1 with z|z
    ·omega
    ·have:=z2.2 m z
     omega
   rw [e2]
   exact q _ Hb H (Gw.refl eb) pN
  ·cases hg
 ·cases hg
theorem yD:CallD X (.type "list") .new pP:=by
 intro pins s σ H vs us Q I r h
 obtain⟨Hb,ks,ds,d,eb,ra,hg,q⟩:=h
 unfold pP at hg
 split at hg
 ·cases hg
  obtain⟨v,rfl,b1⟩:=ra1 ra
  obtain⟨p,xs,e1,s1,a1⟩:=b1.lst eb
  subst e1
  refine call_list_of pins s σ H _ us Q I r ⟨p,xs,rfl, .inl s1,fun l hl=> ?_⟩
  have z:=Gw.Z6 eb hl a1
  exact q _ _ _ z.1 z.2
 ·cases hg
  obtain⟨v,rfl,b1⟩:=ra1 ra
  obtain⟨p,xs,e1,s1,a1⟩:=b1.tup eb
  subst e1
  refine call_list_of pins s σ H _ us Q I r ⟨p,xs,rfl, .inr s1,fun l hl=> ?_⟩
  have z:=Gw.Z6 eb hl a1
  exact q _ _ _ z.1 z.2
 ·cases hg
theorem pO:CallD X (.type "tuple") .dat mj:=by
 intro pins s σ H vs us Q I r h
 obtain⟨Hb,ks,ds,d,eb,ra,hg,q⟩:=h
 unfold mj at hg
 split at hg
 ·cases hg
  obtain⟨v,rfl,b1⟩:=ra1 ra
  obtain⟨p,xs,e1,s1,a1⟩:=b1.lst eb
  subst e1
  refine call_tuple_of pins s σ H _ us Q I r ⟨p,xs,rfl, .inl ⟨s1,fun l hl=> ?_⟩⟩
  have z:=Gw.tup eb hl a1
  exact q _ _ _ z.1 z.2
 ·cases hg
  obtain⟨v,rfl,b1⟩:=ra1 ra
  obtain⟨p,xs,e1,s1,a1⟩:=b1.tup eb
  subst e1
  refine call_tuple_of pins s σ H _ us Q I r ⟨p,xs,rfl, .inr ⟨s1,q _ Hb H (Gw.refl eb) ?_⟩⟩
  rcases b1 with b|⟨_,_,_,_,b⟩
  ·exact b
  ·cases b
 ·cases hg
end
def tY:D→String
 | .none=>"NoneType"
 | .bool _=>"bool"
 | .int _=>"int"
 | .str _=>"str"
 | .list _=>"list"
 | .tuple _=>"tuple"
 | .dict ((.bool _,_)::_)=>"tuple"
 | .dict _=>"dict"
def isT(T:String):D→Bool
 | .none=>T=="NoneType"
 | .bool _=>T=="bool"||T=="int"
 | .int _=>T=="int"
 | .str _=>T=="str"
 | .list _=>T=="list"
 | .tuple _=>T=="tuple"
 | .dict ((.bool _,_)::_)=>T=="tuple"
 | .dict _=>T=="dict"
def zA(T:String)(m:EM):EM:=fun ρ=>(m ρ).bind fun d=> .ok (.bool (isT T d))
theorem Ei(T:String)(h:(["NoneType","bool","int","str","list","tuple","dict"].map fun n=>kitB n T)=[some (T=="NoneType"),some (T=="bool"||T=="int"),some (T=="int"),some (T=="str"),some (T=="list"),some (T=="tuple"),some (T=="dict")])(d:D):kitB (tY d) T=some (isT T d):=by
 simp only [aZ,dR,List.cons.injEq] at h
 obtain⟨h1,h2,h3,h4,h5,h6,h7,_⟩:=h
 cases d with
 |dict ds=>
  cases ds with
  |nil=>assumption
  |cons q r=>
   obtain⟨k,v⟩:=q
   cases k<;>assumption
 |_=>assumption
theorem adt(d:D):kitB (tY d) "int"=some (isT "int" d):=Ei "int" (by decide+kernel) d
theorem JD(d:D):kitB (tY d) "str"=some (isT "str" d):=Ei "str" (by decide+kernel) d
theorem ab5(d:D):kitB (tY d) "bool"=some (isT "bool" d):=Ei "bool" (by decide+kernel) d
theorem aaY(d:D):kitB (tY d) "list"=some (isT "list" d):=Ei "list" (by decide+kernel) d
theorem kit_tuple(d:D):kitB (tY d) "tuple"=some (isT "tuple" d):=Ei "tuple" (by decide+kernel) d
inductive TyY(K:ao)(H:Hp):V→Value→Prop where
 |x {v:V} {t:Value} (h:TyX K H v t):TyY K H v t
 |fT {a:Addr} {o:Obj} {kvs:List (List Key×V)} (e:H a=some (.frz o (.dT kvs))):TyY K H (.ref a) (.type "dict")
def agA(K:ao):List V→Hp→VK→Prop:=fun xs H Q=>∃(x c:V) (t u:Value) (b:Bool),xs=[x,c]∧ClsV c u∧TyY K H x t∧PySem.W.kitOne K t u=some b∧Q (.bl b) H
theorem ady{X:Cx}{pins:List (Addr×Obj)}{σ:L2.St}{H:Hp}{s:Shared}{x:V}{u t:Value}(I:Inv X pins σ H s)(rx:RelV x u)(ty:TyY X.K H x t):∃P:Heap→Prop,PySem.W.KitX X.K u t P∧P s.heap∧u≠ .builtin "__main__.__loader__#opaque":=by
 cases ty with
 |x h=>exact kit_of I rx h
 | @fT a ob kvs e=>
   cases(show u=Value.ref a from rx)
   obtain⟨_,_,_,xs,_,o,es,ep,h1,h2,_⟩:=(show ObjOk X.prog X.w H s.heap a (.frz ob (.dT kvs)) from I.hok a _ e)
   exact⟨_,PySem.W.kitx_dict,⟨o,h1,h2.1⟩,fun z=>nomatch z⟩
theorem Z0{X:Cx}:CallR X (.builtin "isinstance") (agA X.K):=by
 intro pins s σ H xs us Q I r h
 obtain⟨x,c,t,u,b,rfl,k,ty,e,q⟩:=h
 obtain⟨u1,u2,rfl,r1,r2⟩:=vals2 r
 have e2:=k.eq r2
 subst e2
 obtain⟨P,Z,p,hx⟩:=ady I r1 ty
 exact PySem.W.kia_one Z I.kIn p e hx fun tk=>⟨.bl b,H,I.tok tk,rfl,q⟩
theorem YL(k:Key)(v:D)(ds:List (D×D)):tY (.dict ((keyD k,v)::ds))="dict":=by
 cases k<;>rfl
theorem agh{K:ao}{H:Hp}:∀{ds:List (D×D)} {kvs:List (Key×V)},Oh K H kvs ds→tY (.dict ds)="dict"
 |_,_, .nil=>rfl
 |_,_, .cons _ _=>YL _ _ _
theorem agc{K:ao}{H:Hp}:∀{ds:List (D×D)} {kvs:List (Key×V)},Paired (fun(p:Key×V) (q:D×D)=>q.1=keyD p.1∧Dr K H p.2 q.2) kvs ds→tY (.dict ds)="dict"
 |_,_, .nil=>rfl
 |(q,v)::ds,(k,_)::_, .cons h _=>by
  have e:q=keyD k:=h.1
  rw [e]
  exact YL _ _ _
theorem Bo.ty{K:ao}{Hb H:Hp}{v:V}{d:D}(eb:Ex Hb H)(h:Bo K Hb H v d):TyY K H v (.type (tY d)):=by
 rcases h with h|⟨p,h1,o,h2,h3⟩
 ·cases h with
  |non=>exact .x (.base .non)
  |bl b=>exact .x (.base (.bl b))
  |int b=>exact .x (.base (.int b))
  |str b=>exact .x (.base (.str b))
  |lst a b=>
   rcases a with(a|⟨o,a⟩)|⟨o,_,_,a,c,_⟩
   ·exact .x (.base (.lst (eb _ _ a)))
   ·exact .x (.base (.frz (eb _ _ a)))
   ·exact .x (.kList a c)
  |tup a b=>exact .x (.base (.tup (eb _ _ a)))
  |dict0 a=>
   rcases a with a|⟨o,a⟩
   ·exact .x (.base (.dK (eb _ _ a)))
   ·exact .x (.fDict (eb _ _ a))
  |FW a b=>rw [agh b];exact .x (.fDict (eb _ _ a))
  |IV a b=>exact .fT (eb _ _ a)
  |G5 a g b=>exact .x (.fTuple (eb _ _ a))
 ·subst h1
  cases h3 with
  |lst a=>
   rcases h2 with h2|⟨_,kvs,z⟩
   ·exact .x (.base (.lst h2))
   ·cases z
  |dK a=>
   rw [agc a]
   rcases h2 with h2|⟨⟨od,h2⟩,_⟩
   ·exact .x (.base (.dK h2))
   ·exact .x (.fDict h2)
  |dT a=>
   rcases h2 with h2|⟨_,kvs,z⟩
   ·exact .x (.base (.dT h2))
   ·cases z
section
variable{X:Cx}{W:WQ}{a:Expr}{m:EM}{p p2 pos:Pos}
theorem vD(T:String){x:Str}(hT:bootBuiltins x=some (.type T))(hk:∀d,kitB (tY d) T=some (isT T d))(hm:X.mg "isinstance"=none)(hmx:X.mg x=none)(ha:DE X W .bor a m)(hg:Gl X "isinstance":=by rfl)(hgx:Gl X x:=by rfl)
 (hn:x≠"__name__":=by decide) (hdb:(x==("__debug__":Str))=false:=by decide)
 (hs:starEach [a, .Name x p2] X.env=(false,eval a X.env)::starEach [.Name x p2] X.env:=by rfl) (hs2:starEach [.Name x p2] X.env=(false,eval (.Name x p2) X.env)::starEach [] X.env:=by rfl)
 (hpl:(backTo pos (starEach [.Name x p2] X.env)).any (·.1)=false:=by rfl):DE X W .dat (.Call (.Name "isinstance" p) [a, .Name x p2] [] pos) (zA T m):=
 PE.imp (pe_callB Z0 hg hm PyProof.Rows.boot_isinstance (pa_cons ha (pa_cons (pe_bltn (v:= .ty T) hgx hmx hT rfl hn hdb) pa_nil hs2) hs) (by decide) (by decide) hs hpl) fun σ H Q ⟨Hf,Hb,ρ,R,h1,h2,h3⟩=>by
  refine⟨Hf,Hb,ρ,R,fun d hd v Hb1 H1 g1 r1=> ?_,fun c hc=>h2 c (by simp [zA,hc,ER.bind]),fun z=>h3 (by simp [zA,z,ER.bind])⟩
  exact⟨v, .ty T, .type (tY d), .type T,isT T d,rfl, .ty T,Bo.ty g1.bh r1,kit_ty (hk d),h1 (.bool (isT T d)) (by simp [zA,hd,ER.bind]) _ Hb1 H1 g1 lQ⟩
end
def qL(K:ao)(ks:List Kd)(rk:Kd)(m:List D→ER):Sp:=fun vs H Q E=>∃Hb ds,Ex Hb H∧mU K Hb H ks vs ds∧
 (∀d,m ds= .ok d→∀v Hb' H',Gw Hb H Hb' H' →Rs K rk H Hb' H' v d→Q v H')∧(∀c,m ds= .ex c→∀Hb' H',Gw Hb H Hb' H' →E (.ref (He.ga K c)) none H')∧m ds≠ .bad
theorem acV{K:ao}{W:WQ}{rk:Kd}{g:List D→ER}{ks:List Kd}{ms:List EM}{σ:L2.St}{H:Hp}{Q:VK}(h:Bp K W rk (fG g ms) σ H Q):tCallS (qL K ks rk g) (WE W.w) (aOf K W ks ms) σ H Q:=by
 obtain⟨Hf,Hb,ρ,R,h1,h2,h3⟩:=h
 refine⟨Hf,Hb,ρ,R,fun ds hds vs Hb1 H1 g1 r1=> ?_,fun c hc=>h2 c (by simp [fG,hc]),fun z=>h3 (by simp [fG,z])⟩
 have e:fG g ms ρ=g ds:=by simp [fG,hds]
 rw [e] at h1 h2 h3
 exact⟨Hb1,ds,g1.bh,r1,fun d hd v Hb2 H2 g2 r2=>h1 d hd v Hb2 H2 (g1.trans g2) (r2.back g1.h),fun c hc Hb2 H2 g2=>h2 c hc Hb2 H2 (g1.trans g2),h3⟩
section
variable{X:Cx}{W:WQ}{rk:Kd}{ks:List Kd}{x:Str}{p pos:Pos}{e:Expr}{es:List Expr}{ms:List EM}{g:List D→ER}{k:Nat}{f:Addr}{fd:FuncData}{ps:List Str}
theorem aek(F:FnOk X.prog X.w X.K X.mg X.base (L2.CX X.prog X.w) k f fd ps (qL X.K ks rk g))(hr:Room k X.A)(hm:X.mg x=some (.ref f))(hk:PySem.W.keepIn X.K (.ref f)=true)(hb:Binds X.K fd ps [])(tk:Takes X W.w)
 (ha:DA X W ks (e::es) ms) (hg:Gl X x:=by rfl) (hdb:(x==("__debug__":Str))=false:=by decide) (he:starEach (e::es) X.env=(false,eval e X.env)::starEach es X.env:=by rfl) (hpl:(backTo pos (starEach es X.env)).any (·.1)=false:=by rfl):
 DE X W rk (.Call (.Name x p) (e::es) [] pos) (fG g ms):=
 PE.imp (pe_callS F hr hg hm hk hb (fun σ=>passAt tk σ) ha hdb he hpl) fun _ _ _=>acV
end
end DL
namespace DL
open PySem L2 Evl
structure Bw(Hf Hb Hb' H' :Hp):Prop where
 b:Ex Hb Hb'
 bh:Ex Hb' H'
 nw:∀a,Hb a=none→NT (Hf a)→Hb' a=none
theorem Bw.refl{Hf Hb H:Hp}(e:Ex Hb H):Bw Hf Hb Hb H:=⟨Ex.refl _,e,fun _ h _=>h⟩
theorem Bw.trans{Hf Hb Hb1 H1 Hb2 H2:Hp}(g:Bw Hf Hb Hb1 H1)(k:Bw Hf Hb1 Hb2 H2):Bw Hf Hb Hb2 H2:=
 ⟨g.b.trans k.b,k.bh,fun a h1 h2=>k.nw a (g.nw a h1 h2) h2⟩
theorem Gw.bw{Hf Hb H Hb' H' :Hp}(g:Gw Hb H Hb' H')(e:Ex Hf H):Bw Hf Hb Hb' H' :=⟨g.b,g.bh,fun a h1 h2=>g.nw a h1 (Jd e h2)⟩
theorem Bw.upd{Hf Hb H:Hp}{p:Addr}{o:HO}(e:Ex Hb H)(hb:Hb p=none):Bw Hf Hb Hb (L2.upd H p o):=
 ⟨Ex.refl _,fun a u q=>by rw [upd_ne (ne_of_none q hb)];exact e a u q,fun _ h _=>h⟩
def pU(K:ao)(W:WQ)(rk:Kd)(Hf Hb H:Hp)(E:Ends):Out→Prop
 | .nx ρ=>∀σ' Hb' H',iG K W.pin Hf Hb' H' σ' ρ→Bw Hf Hb Hb' H' →E.nx σ' H'
 | .bk ρ=>∀σ' Hb' H',iG K W.pin Hf Hb' H' σ' ρ→Bw Hf Hb Hb' H' →E.bk σ' H'
 | .ct ρ=>∀σ' Hb' H',iG K W.pin Hf Hb' H' σ' ρ→Bw Hf Hb Hb' H' →E.ct σ' H'
 | .rt d=>∀v Hb' H',Ex Hf H' →Bw Hf Hb Hb' H' →Rs K rk Hf Hb' H' v d→E.rt v H'
 | .rx d ρ=>∀v σ' Hb' H',iG K W.pin Hf Hb' H' σ' ρ→Bw Hf Hb Hb' H' →Dr K Hb' v d→E.rt v H'
 | .ex c ρ=>∀σ' Hb' H',iG K W.pin Hf Hb' H' σ' ρ→Bw Hf Hb Hb' H' →W.w (.ref (He.ga K c)) none σ' H'
 | .bad=>False
def sOf(K:ao)(W:WQ)(rk:Kd)(m:SM):TS:=fun E σ H=>∃(Hf Hb:Hp) (ρ:Env),iG K W.pin Hf Hb H σ ρ∧pU K W rk Hf Hb H E (m ρ)
abbrev DS(X:Cx)(W:WQ)(rk:Kd)(st:Stmt)(m:SM):Prop:=PS X st (sOf X.K W rk m)
abbrev DSs(X:Cx)(W:WQ)(rk:Kd)(st:List Stmt)(m:SM):Prop:=PSs X st (sOf X.K W rk m)
theorem pU.weak{K:ao}{W:WQ}{rk:Kd}{Hf Hb H Hb1 H1:Hp}{E:Ends}{r:Out}(g:Bw Hf Hb Hb1 H1)(h:pU K W rk Hf Hb H E r):pU K W rk Hf Hb1 H1 E r:=by
 cases r with
 |nx ρ=>exact fun σ' Hb' H' R b=>h σ' Hb' H' R (g.trans b)
 |bk ρ=>exact fun σ' Hb' H' R b=>h σ' Hb' H' R (g.trans b)
 |ct ρ=>exact fun σ' Hb' H' R b=>h σ' Hb' H' R (g.trans b)
 |rt d=>exact fun v Hb' H' e b r=>h v Hb' H' e (g.trans b) r
 |rx d ρ=>exact fun v σ' Hb' H' R b r=>h v σ' Hb' H' R (g.trans b) r
 |ex c ρ=>exact fun σ' Hb' H' R b=>h σ' Hb' H' R (g.trans b)
 |bad=>exact h
def fZ:SM:=fun ρ=> .nx ρ
def fK(a b:SM):SM:=fun ρ=>match a ρ with
 | .nx ρ' =>b ρ'
 |r=>r
def gG(i:Nat)(m:EM):SM:=fun ρ=>match m ρ with
 | .ok d=> .nx (ρ.set i (.dat d))
 | .ex c=> .ex c ρ
 | .bad=> .bad
def j9(i:Nat)(m:EM):SM:=fun ρ=>match m ρ with
 | .ok d=> .nx (ρ.set i (.own d))
 | .ex c=> .ex c ρ
 | .bad=> .bad
def qW(m:EM):SM:=fun ρ=>match m ρ with
 | .ok _=> .nx ρ
 | .ex c=> .ex c ρ
 | .bad=> .bad
def gH(m:EM):SM:=fun ρ=>match m ρ with
 | .ok d=> .rt d
 | .ex c=> .ex c ρ
 | .bad=> .bad
def zf(i:Nat):SM:=fun ρ=>match ρ[i]? with
 |some (.own d)=> .rt d
 |_=> .bad
def abW(i:Nat):SM:=fun ρ=>match ρ[i]? with
 |some (.own (.list ds))=> .rt (.list ds)
 |_=> .bad
def ju(c:EM)(a b:SM):SM:=fun ρ=>match c ρ with
 | .ok (.bool true)=>a ρ
 | .ok (.bool false)=>b ρ
 | .ok _=> .bad
 | .ex c=> .ex c ρ
 | .bad=> .bad
def qK(i:Nat)(m:EM):SM:=fun ρ=>match ρ[i]? with
 |some (.own (.list ds))=>(match m ρ with
  | .ok d=>if ds.length<sizeLine then .nx (ρ.set i (.own (.list (ds++[d])))) else .bad
  | .ex c=> .ex c ρ
  | .bad=> .bad)
 |_=> .bad
def Ko(i:Nat)(mk me:EM):SM:=fun ρ=>match me ρ with
 | .ok d=>(match ρ[i]? with
   |some (.own (.list ds))=>(match mk ρ with
    | .ok (.int k)=>(match ixN ds.length k with
      |some j=> .nx (ρ.set i (.own (.list (ds.set j d))))
      |none=> .bad)
    | .ok _=> .bad
    | .ex c=> .ex c ρ
    | .bad=> .bad)
   |_=> .bad)
 | .ex c=> .ex c ρ
 | .bad=> .bad
def yx(c:Str):SM:=fun ρ=> .ex c ρ
abbrev GM:=D→Env→Option Env
def gN(i:Nat):GM:=fun d ρ=>some (ρ.set i (.dat d))
def gTs:List GM→List D→Env→Option Env
 |[],[],ρ=>some ρ
 |g::gs,d::ds,ρ=>(g d ρ).bind fun ρ' =>gTs gs ds ρ'
 |_,_,_=>none
def gT(gs:List GM):GM:=fun d ρ=>match d with
 | .tuple ds=>gTs gs ds ρ
 |_=>none
def ou(g:GM)(m:EM):SM:=fun ρ=>match m ρ with
 | .ok d=>(match g d ρ with
   |some ρ' => .nx ρ'
   |none=> .bad)
 | .ex c=> .ex c ρ
 | .bad=> .bad
def Uc(g:GM)(body:SM):List D→SM
 |[],ρ=> .nx ρ
 |d::r,ρ=>match g d ρ with
  |none=> .bad
  |some ρ1=>match body ρ1 with
   | .nx ρ2=>Uc g body r ρ2
   | .ct ρ2=>Uc g body r ρ2
   | .bk ρ2=> .nx ρ2
   |o=>o
def mZ(mi:Env→AR)(g:GM)(body:SM):SM:=fun ρ=>match mi ρ with
 | .ok ds=>Uc g body ds ρ
 | .ex c=> .ex c ρ
 | .bad=> .bad
@[irreducible] def FUEL:Nat:=2 ^ 100
def qC(c:EM)(body:SM):Nat→SM
 |0,_=> .bad
 |n+1,ρ=>match c ρ with
  | .ok (.bool true)=>(match body ρ with
    | .nx ρ2=>qC c body n ρ2
    | .ct ρ2=>qC c body n ρ2
    | .bk ρ2=> .nx ρ2
    |o=>o)
  | .ok (.bool false)=> .nx ρ
  | .ok _=> .bad
  | .ex c=> .ex c ρ
  | .bad=> .bad
def Ai(c:EM)(body:SM):SM:=qC c body FUEL
section
variable{X:Cx}{W:WQ}{rk kd:Kd}{st:Stmt}{rest a b:List Stmt}{e c:Expr}{m1 m2 ma mb:SM}{m mc:EM}{pos:Pos}
theorem fQ:DSs X W rk [] fZ:=PSs.imp pss_nil fun E σ H ⟨Hf,Hb,ρ,R,h⟩=>h σ Hb H R (Bw.refl R.eb)
theorem eU(h1:DS X W rk st m1)(h2:DSs X W rk rest m2):DSs X W rk (st::rest) (fK m1 m2):=PSs.imp (pss_cons h1 h2) fun E σ H ⟨Hf,Hb,ρ,R,h⟩=>by
 refine⟨Hf,Hb,ρ,R,?_⟩
 unfold fK at h
 cases q:m1 ρ with
 |nx ρ' =>
  rw [q] at h
  exact fun σ' Hb' H' R' b=>⟨Hf,Hb',ρ',R',pU.weak b h⟩
 |rt d=>
  rw [q] at h
  exact h
 |rx d ρ' =>
  rw [q] at h
  exact h
 |bk d=>
  rw [q] at h
  exact h
 |ct d=>
  rw [q] at h
  exact h
 |ex c d=>
  rw [q] at h
  exact h
 |bad=>
  rw [q] at h
  exact h
theorem eY(h1:DS X W rk st m1):DSs X W rk [st] m1:=pss_one h1
theorem fY{i:Nat}{x:Str}{pos' :Pos}(hN:X.N.Nodup)(he:DE X W .dat e m)(hi:X.N[i]? =some x:=by rfl)(hx:Loc X.env.scope x:=by first|exact Or.inl rfl|exact Or.inr rfl)(hs:swapsWith e (some (.Name x pos')) pos.line X.env=pure false:=by rfl)
 (hf:X.fn x=true∨X.env.scope.names.lookup x=some .local:=by first|exact .inl rfl|exact .inr rfl|assumption) (ho:Ac W.pin i:=by intro _ z;first|(cases z;done)|exact absurd (dN z).1 (by decide)|(simp at z;done)):DS X W rk (.Assign [.Name x pos'] e pos) (gG i m):=PS.imp (ps_set hN hi hx he hs hf) fun E σ H ⟨Hf,Hb,ρ,R,h⟩=>by
 refine⟨Hf,Hb,ρ,R,fun d hd v Hb' H' g r=> ?_,fun c hc Hb' H' g=> ?_,fun z=> ?_⟩
 ·simp only [gG,hd] at h
  exact h _ Hb' H' ((R.gw g).MJ ho r) (g.bw R.ef)
 ·simp only [gG,hc] at h
  exact h _ Hb' H' (R.gw g) (g.bw R.ef)
 ·simp only [gG,z] at h
  exact h
theorem jL{i:Nat}{x:Str}{pos' :Pos}(hN:X.N.Nodup)(he:DE X W .new e m)(hi:X.N[i]? =some x:=by rfl)(hx:Loc X.env.scope x:=by first|exact Or.inl rfl|exact Or.inr rfl)(hs:swapsWith e (some (.Name x pos')) pos.line X.env=pure false:=by rfl)
 (hf:X.fn x=true∨X.env.scope.names.lookup x=some .local:=by first|exact .inl rfl|exact .inr rfl|assumption) (ho:Ac W.pin i:=by intro _ z;first|(cases z;done)|exact absurd (dN z).1 (by decide)|(simp at z;done)):DS X W rk (.Assign [.Name x pos'] e pos) (j9 i m):=PS.imp (ps_set hN hi hx he hs hf) fun E σ H ⟨Hf,Hb,ρ,R,h⟩=>by
 refine⟨Hf,Hb,ρ,R,fun d hd v Hb' H' g r=> ?_,fun c hc Hb' H' g=> ?_,fun z=> ?_⟩
 ·simp only [j9,hd] at h
  obtain⟨p,rfl,h0,hb,ow⟩:=r
  exact h _ Hb' H' (R.afw ho g h0 hb ow) (g.bw R.ef)
 ·simp only [j9,hc] at h
  exact h _ Hb' H' (R.gw g) (g.bw R.ef)
 ·simp only [j9,z] at h
  exact h
theorem xW(he:DE X W kd e m)(hs:swapsWith e none pos.line X.env=pure false:=by rfl):DS X W rk (.Expr e pos) (qW m):=PS.imp (ps_expr he hs) fun E σ H ⟨Hf,Hb,ρ,R,h⟩=>by
 refine⟨Hf,Hb,ρ,R,fun d hd v Hb' H' g r=> ?_,fun c hc Hb' H' g=> ?_,fun z=> ?_⟩
 ·simp only [qW,hd] at h
  exact h _ Hb' H' (R.gw g) (g.bw R.ef)
 ·simp only [qW,hc] at h
  exact h _ Hb' H' (R.gw g) (g.bw R.ef)
 ·simp only [qW,z] at h
  exact h
theorem fW(he:DE X W rk e m):DS X W rk (.Return (some e) pos) (gH m):=PS.imp (ps_ret he) fun E σ H ⟨Hf,Hb,ρ,R,h⟩=>by
 refine⟨Hf,Hb,ρ,R,fun d hd v Hb' H' g r=> ?_,fun c hc Hb' H' g=> ?_,fun z=> ?_⟩
 ·simp only [gH,hd] at h
  exact h v Hb' H' (R.gw g).ef (g.bw R.ef) (r.back R.ef)
 ·simp only [gH,hc] at h
  exact h _ Hb' H' (R.gw g) (g.bw R.ef)
 ·simp only [gH,z] at h
  exact h
theorem Dz(i:Nat){x:Str}{p:Pos}(hN:X.N[i]? =some x:=by rfl)(hv:Vis X.env.scope x:=by first|exact Or.inl rfl|exact Or.inr (Or.inl rfl)|exact Or.inr (Or.inr rfl))(hd:(x==("__debug__":Str))=false:=by decide)
 (hcd:(x==("__classdict__":Str))=false:=by decide):DS X W .new (.Return (some (.Name x p)) pos) (zf i):=PS.imp (ps_ret (pe_var hN hv hd hcd)) fun E σ H ⟨Hf,Hb,ρ,R,h⟩=>by
 unfold zf at h
 cases q:ρ[i]? with
 |none=>
  rw [q] at h
  exact h.elim
 |some s=>
  rw [q] at h
  cases s with
  |own d=>
   obtain⟨p,h1,h2,h3,h4⟩:=R.own i d q
   exact⟨_,h1,h _ Hb H R.ef (Bw.refl R.eb) ⟨p,rfl,h3,h4,h2⟩⟩
  |un=>exact h.elim
  |dat d=>exact h.elim
  |bor d=>exact h.elim
  |nst k cs=>exact h.elim
  |Yd k cs=>exact h.elim
  |Yg k cs=>exact h.elim
theorem adq(i:Nat){x:Str}{p:Pos}(hN:X.N[i]? =some x:=by rfl)(hv:Vis X.env.scope x:=by first|exact Or.inl rfl|exact Or.inr (Or.inl rfl)|exact Or.inr (Or.inr rfl))(hd:(x==("__debug__":Str))=false:=by decide)
 (hcd:(x==("__classdict__":Str))=false:=by decide):DS X W .dat (.Return (some (.Name x p)) pos) (abW i):=PS.imp (ps_ret (pe_var hN hv hd hcd)) fun E σ H ⟨Hf,Hb,ρ,R,h⟩=>by
 unfold abW at h
 split at h
 ·rename_i ds q
  obtain⟨p,h1,⟨o,ho,hc⟩,h3,h4⟩:=R.own i _ q
  cases hc with
  |lst al=>
   refine⟨_,h1,h _ (L2.upd Hb p _) H R.ef ⟨Ex.new h4,fun a u qa=> ?_,fun a z1 z2=> ?_⟩ (.lst (.inl (.inl upd_same)) (lJ (Ex.new h4) al))⟩
   ·by_cases z:a=p
    ·subst z
     rw [upd_same] at qa
     rw [←qa]
     exact ho
    ·rw [upd_ne z] at qa
     exact R.eb a u qa
   ·have z:a≠p:=fun z=>by
     subst z
     rw [h3] at z2
     exact z2
    rw [upd_ne z]
    exact z1
 ·exact h.elim
theorem gh(hc:DT X W c mc)(ha:DSs X W rk a ma)(hb:DSs X W rk b mb):DS X W rk (.If c a b pos) (ju mc ma mb):=PS.imp (ps_if hc ha hb) fun E σ H ⟨Hf,Hb,ρ,R,h⟩=>by
 refine⟨Hf,Hb,ρ,R,fun k hk Hb' H' g=> ?_,fun c hc Hb' H' g=> ?_,?_⟩
 ·cases k with
  |true=>
   simp only [ju,hk] at h
   show sOf X.K W rk ma E σ H'
   exact⟨Hf,Hb',ρ,R.gw g,pU.weak (g.bw R.ef) h⟩
  |false=>
   simp only [ju,hk] at h
   show sOf X.K W rk mb E σ H'
   exact⟨Hf,Hb',ρ,R.gw g,pU.weak (g.bw R.ef) h⟩
 ·simp only [ju,hc] at h
  exact h _ Hb' H' (R.gw g) (g.bw R.ef)
 ·cases q:mc ρ with
  |bad=>
   simp only [ju,q] at h
   exact h.elim
  |ex c=>exact .inr ⟨c,rfl⟩
  |ok d=>
   cases d with
   |bool b=>exact .inl ⟨b,rfl⟩
   |_=>
    simp only [ju,q] at h
    exact h.elim
theorem xM{x s:Str}{j:Nat}{p p2 pos' :Pos}(tk:Takes X W.w)(q:PySem.W.excIn X.K (He.ga X.K x) He.veBase "ValueError.__new__"=true∧PySem.W.keepIn X.K (.ref (He.ga X.K x))=true∧PySem.W.subIn X.K (.ref (He.ga X.K x)) (.type "BaseException")=some true∧
 PySem.W.typeIn X.K (.ref (He.ga X.K x))=some (.type "type")) (gC:X.mg x=some (.ref (He.ga X.K x))) (hc:X.calm=true:=by rfl) (hg:Gl X x:=by rfl) (hdb:(x==("__debug__":Str))=false:=by decide):
 DS X W rk (.Raise (some (.Call (.Name x p) [.Constant (.str s) j p2] [] pos')) none pos) (yx x):=
 PS.imp (ps_raise hc tk (pmk_own PySem.F.excBase_ValueError q.1 gC q.2.1 (raises_own q.2.2.1 q.2.2.2) hg hdb)) fun E σ H ⟨Hf,Hb,ρ,R,h⟩=>h σ Hb H R (Bw.refl R.eb)
theorem rP{i:Nat}{x:Str}{p p2 p3:Pos}(he:DE X W .dat e m)(hN:X.N[i]? =some x:=by rfl)(hv:Vis X.env.scope x:=by first|exact Or.inl rfl|exact Or.inr (Or.inl rfl)|exact Or.inr (Or.inr rfl))(hd:(x==("__debug__":Str))=false:=by decide)
 (hcd:(x==("__classdict__":Str))=false:=by decide) (hst:starEach [e] X.env=(false,eval e X.env)::starEach [] X.env:=by rfl)
 (hbase:attributeBase (.Name x p) "append" X.env (eval (.Name x p) X.env)=eval (.Name x p) X.env:=by rfl)
 (hfew:((backTo p3 (starEach [e] X.env)).all (fun x=> !x.1)&&(backToKw p3 (keywordEach [] X.env)).all (fun x=>x.1.isSome)
   &&decide (([e]:List Expr).length+([]:List Keyword).length+(if([]:List Keyword).isEmpty then 0 else 1)<30))=true:=by rfl)
 (hline:(p2.endLine==p3.line)=true:=by rfl) (hpl:(backTo p3 (starEach [] X.env)).any (·.1)=false:=by rfl) (hs:swapsWith (.Call (.Attribute (.Name x p) "append" p2) [e] [] p3) none pos.line X.env=pure false:=by rfl):
 DS X W rk (.Expr (.Call (.Attribute (.Name x p) "append" p2) [e] [] p3) pos) (qK i m):=
 PS.imp (ps_expr (pe_bm PySem.F.plainAttrs_list PySem.F.slot_list_append PySem.F.type_list_append mt_append (pe_var hN hv hd hcd) (pa_cons he pa_nil hst) hbase hfew hline hst hpl) hs) fun E σ H ⟨Hf,Hb,ρ,R,h⟩=>by
  unfold qK at h
  split at h
  ·rename_i ds q
   obtain⟨p,h1,⟨o,ho,hc⟩,h3,h4⟩:=R.own i _ q
   cases hc with
   |lst al=>
    refine⟨_,h1, .inl ⟨rfl,_,sq_of ho⟩,Hf,Hb,ρ,R,fun d hd v Hb' H' g r=> ?_,fun c hc Hb' H' g=> ?_,fun z=> ?_⟩
    ·rw [hd] at h
     simp only at h
     split at h
     ·rename_i hz
      have ho' :=g.h _ _ ho
      refine⟨p,_,v,rfl,rfl,ho',by rw [iJ al];exact hz,?_⟩
      have R1:=R.gw g
      have hb' :Hb' p=none:=g.nw p h4 (by rw [ho];exact True.intro)
      exact h σ Hb' _ (R1.write q h1 (.lst (uK (lJ g.b al) (.cons r .nil)))) ((g.bw R.ef).trans (Bw.upd g.bh hb'))
     ·exact h.elim
    ·rw [hc] at h
     exact h σ Hb' H' (R.gw g) (g.bw R.ef)
    ·rw [z] at h
     exact h.elim
  ·exact h.elim
end
end DL
namespace DL
open PySem L2 Evl
theorem iG.freeze{K:ao}{pn:Pn}{Hf Hb H:Hp}{σ:L2.St}{ρ:Env}{i:Nat}{ds:List D}(R:iG K pn Hf Hb H σ ρ)(q:ρ[i]? =some (.own (.list ds))):∃Hb',iG K pn Hf Hb' H σ (ρ.set i (.dat (.list ds)))∧Bw Hf Hb Hb' H:=by
 obtain⟨F,r⟩:=R
 obtain⟨p,h1,h2,o,ho,hc⟩:=r.sl i _ q
 obtain⟨f1,f2,f3⟩:=r.fr i p (by rw [h1];simp)
 have e1:Ex Hb (upd Hb p o):=Ex.new f2
 have e2:Ex (upd Hb p o) H:=fun a u qa=>by
  by_cases z:a=p
  ·subst z
   rw [upd_same] at qa
   rw [←qa]
   exact ho
  ·rw [upd_ne z] at qa
   exact r.eb a u qa
 cases hc with
 |lst al=>
  refine⟨upd Hb p _,⟨_,r.step (fp:=[]) r.ef e2 e1 rfl (fun j z=>rfl) (fun a ha _ k2 _=>⟨rfl,by rw [upd_ne (fun z=>ha (by rw [h1,z];simp))];exact k2⟩) (fun _=>⟨rfl,_,h2, .lst (.inl (.inl upd_same)) (lJ e1 al)⟩) dW (fun a ha=>by cases ha) (fun j a _ ha=>by cases ha) (fun a z=>r.pin i a z)⟩,e1,e2,fun a z1 z2=> ?_⟩
  have z:a≠p:=fun z=>by
   subst z
   rw [f1] at z2
   exact z2
  rw [upd_ne z]
  exact z1
def Yi(i:Nat)(m:SM):SM:=fun ρ=>match ρ[i]? with
 |some (.own (.list ds))=>m (ρ.set i (.dat (.list ds)))
 |_=> .bad
theorem Xz{X:Cx}{W:WQ}{rk:Kd}{st:Stmt}{m:SM}(i:Nat)(h:DS X W rk st m):DS X W rk st (Yi i m):=PS.imp h fun E σ H ⟨Hf,Hb,ρ,R,q⟩=>by
 unfold Yi at q
 split at q
 ·rename_i ds z
  obtain⟨Hb',R',b⟩:=R.freeze z
  exact⟨Hf,Hb',_,R',pU.weak b q⟩
 ·exact q.elim
def gOf(K:ao)(pn:Pn)(g:GM):TG:=fun v σ H Q=>∃(Hf Hb:Hp) (ρ:Env) (d:D) (ρ' :Env),iG K pn Hf Hb H σ ρ∧Dr K Hb v d∧g d ρ=some ρ' ∧∀σ',iG K pn Hf Hb H σ' ρ' →Q σ' H
abbrev DG(X:Cx)(W:WQ)(tg:Expr)(g:GM):Prop:=PG X tg (gOf X.K W.pin g)
def ag4(K:ao)(pn:Pn)(gs:List GM):TGs:=fun vs σ H Q=>∃(Hf Hb:Hp) (ρ:Env) (ds:List D) (ρ' :Env),iG K pn Hf Hb H σ ρ∧iV K Hb vs ds∧gTs gs ds ρ=some ρ' ∧∀σ',iG K pn Hf Hb H σ' ρ' →Q σ' H
abbrev DGs(X:Cx)(W:WQ)(tg:List Expr)(gs:List GM):Prop:=PGs X tg (ag4 X.K W.pin gs)
theorem PG.imp{X:Cx}{e:Expr}{t t' :TG}(h:PG X e t)(i:∀v σ H Q,t' v σ H Q→t v σ H Q):PG X e t' :=⟨fun pins s σ H v u Q I r q=>h.run pins s σ H v u Q I r (i v σ H Q q)⟩
theorem PGs.imp{X:Cx}{e:List Expr}{t t' :TGs}(h:PGs X e t)(i:∀v σ H Q,t' v σ H Q→t v σ H Q):PGs X e t' :=⟨fun pins s σ H v u Q I r q=>h.run pins s σ H v u Q I r (i v σ H Q q)⟩
theorem ZJ{K:ao}:∀{gs:List GM} {ds:List D} {ρ ρ' :Env},gTs gs ds ρ=some ρ' →ds.length=gs.length
 |[],[],_,_,_=>rfl
 |g::gs,d::ds,ρ,ρ',h=>by
  simp only [gTs] at h
  cases q:g d ρ with
  |none=>
   rw [q] at h
   cases h
  |some ρ1=>
   rw [q] at h
   have h2:gTs gs ds ρ1=some ρ' :=h
   simp [ZJ (K:=K) h2]
 |[],_::_,_,_,h=>by cases h
 |_::_,[],_,_,h=>by cases h
section
variable{X:Cx}{W:WQ}{rk kd:Kd}{e tg:Expr}{es:List Expr}{g:GM}{gs:List GM}{m:EM}{pos:Pos}
theorem j8(i:Nat){x:Str}(hN:X.N.Nodup)(hi:X.N[i]? =some x:=by rfl)(hx:Loc X.env.scope x:=by first|exact Or.inl rfl|exact Or.inr rfl)(hf:X.fn x=true∨X.env.scope.names.lookup x=some .local:=by first|exact .inl rfl|exact .inr rfl|assumption)(ho:Ac W.pin i:=by intro _ z;first|(cases z;done)|exact absurd (dN z).1 (by decide)|(simp at z;done)):DG X W (.Name x pos) (gN i):=
 PG.imp (pg_name hN hi hx hf) fun v σ H Q ⟨Hf,Hb,ρ,d,ρ',R,r,h,q⟩=>by
  cases h
  exact q _ (R.MJ ho r)
theorem mF:DGs X W [] []:=PGs.imp pgs_nil fun vs σ H Q ⟨Hf,Hb,ρ,ds,ρ',R,r,h,q⟩=>by
 cases ds with
 |nil=>
  cases r
  cases h
  exact⟨rfl,q _ R⟩
 |cons _ _=>cases h
theorem gQ(h1:DG X W e g)(h2:DGs X W es gs)(hs:(assignEach (e::es) X.env).map (·.2)=assign e X.env::(assignEach es X.env).map (·.2):=by rfl):DGs X W (e::es) (g::gs):=PGs.imp (pgs_cons h1 h2 hs) fun vs σ H Q ⟨Hf,Hb,ρ,ds,ρ',R,r,h,q⟩=>by
 cases ds with
 |nil=>cases h
 |cons d ds=>
  cases r with
  |cons a b=>
   simp only [gTs] at h
   cases q1:g d ρ with
   |none=>
    rw [q1] at h
    cases h
   |some ρ1=>
    rw [q1] at h
    exact⟨_,_,rfl,Hf,Hb,ρ,d,ρ1,R,a,q1,fun σ' R' =>⟨Hf,Hb,ρ1,ds,ρ',R',b,h,q⟩⟩
theorem zE{k:Nat}(h:DGs X W es gs)(hc:X.calm=true:=by rfl)(hn:(assignEach es X.env).length=gs.length:=by rfl)(hst:(assignEach es X.env).findIdx? (·.1)=none:=by rfl):DG X W (.Tuple es k pos) (gT gs):=
 PG.imp (pg_tup hc h hn hst) fun v σ H Q ⟨Hf,Hb,ρ,d,ρ',R,r,hg,q⟩=>by
  cases d<;>simp only [gT] at hg<;>first|cases hg;done|skip
  obtain⟨p,xs,e1,s1,a1⟩:=Bo.tup R.eb (.inl r)
  exact⟨p,xs,e1,s1,by rw [iJ a1];exact ZJ (K:=X.K) hg,Hf,Hb,ρ,_,ρ',R,a1,hg,q⟩
theorem oM(he:DE X W .dat e m)(hg:DG X W tg g)(hs:swapsWithSole [tg] e pos.line X.env=pure false:=by rfl)(hw:swappedStores [tg] e X.env=pure none:=by rfl)(h1:(assignEach [tg] X.env).map (·.2)=[assign tg X.env]:=by rfl):
 DS X W rk (.Assign [tg] e pos) (ou g m):=PS.imp (ps_asg he hg hs hw h1) fun E σ H ⟨Hf,Hb,ρ,R,h⟩=>by
 refine⟨Hf,Hb,ρ,R,fun d hd v Hb' H' g1 r=> ?_,fun c hc Hb' H' g1=> ?_,fun z=> ?_⟩
 ·simp only [ou,hd] at h
  split at h
  ·rename_i ρ' hr
   exact⟨Hf,Hb',ρ,d,ρ',R.gw g1,r,hr,fun σ' R' =>h σ' Hb' H' R' (g1.bw R.ef)⟩
  ·exact h.elim
 ·simp only [ou,hc] at h
  exact h _ Hb' H' (R.gw g1) (g1.bw R.ef)
 ·simp only [ou,z] at h
  exact h
end
structure Yl(K:ao)(Hb1:Hp)(J:It)(ds:List D):Prop where
 go:∀(i:Nat) H,Ex Hb1 H→i<ds.length→J.go i H
 stop:∀H,Ex Hb1 H→J.stop ds.length H
 yld:∀(i:Nat) H x H' Hb,Ex Hb1 Hb→Ex Hb H→i<ds.length→J.yld i H x H' →∃Hb' d,Gw Hb H Hb' H' ∧ds[i]? =some d∧Dr K Hb' x d
def iOf(K:ao)(W:WQ)(mi:Env→AR):TI:=fun σ H R=>∃(Hf Hb:Hp) (ρ:Env),iG K W.pin Hf Hb H σ ρ∧
 (∀ds,mi ρ= .ok ds→∀J Hb' H',Gw Hb H Hb' H' →Yl K Hb' J ds→R J H')∧
 (∀c,mi ρ= .ex c→∀Hb' H',Gw Hb H Hb' H' →W.w (.ref (He.ga K c)) none σ H')∧mi ρ≠ .bad
abbrev DI(X:Cx)(W:WQ)(tg iter:Expr)(mi:Env→AR):Prop:=PI X tg iter (iOf X.K W mi)
theorem PI.imp{X:Cx}{tg e:Expr}{t t' :TI}(h:PI X tg e t)(i:∀σ H R,t' σ H R→t σ H R):PI X tg e t' :=⟨fun pins s σ H R I q=>h.run pins s σ H R I (i σ H R q)⟩
def iL(m:EM):Env→AR:=fun ρ=>match m ρ with
 | .ok (.list ds)=> .ok ds
 | .ok _=> .bad
 | .ex c=> .ex c
 | .bad=> .bad
def iT(m:EM):Env→AR:=fun ρ=>match m ρ with
 | .ok (.tuple ds)=> .ok ds
 | .ok _=> .bad
 | .ex c=> .ex c
 | .bad=> .bad
def JX(z:Str):List D:=z.cps.toList.map fun c=> .str ⟨#[c]⟩
def iS(m:EM):Env→AR:=fun ρ=>match m ρ with
 | .ok (.str z)=> .ok (JX z)
 | .ok _=> .bad
 | .ex c=> .ex c
 | .bad=> .bad
def nJ(lo hi:Int):List D:=(bU (hi-lo).toNat).map fun(i:Nat)=>aD (lo+(i:Int))
def inR(n:Int):Bool:=decide (-(2 ^ 62)≤n)&&decide (n<2 ^ 62)
theorem rJ{n:Int}:inR n=true↔-(2 ^ 62)≤n∧n<2 ^ 62:=by
 unfold inR
 rw [cW,decide_eq_true_iff,decide_eq_true_iff]
def HD(m:EM):Env→AR:=fun ρ=>match m ρ with
 | .ok (.int n)=>if inR n then .ok (nJ 0 n) else .bad
 | .ok _=> .bad
 | .ex c=> .ex c
 | .bad=> .bad
def DK(hi lo:Int):List D:=(bU (hi-lo).toNat).map fun(i:Nat)=>aD (hi-(i:Int))
def iR3(ma mb mc:EM):Env→AR:=fun ρ=>match nM [ma,mb,mc] ρ with
 | .ok [.int i, .int j, .int k]=>if(inR i&&inR j&&decide (k= -1))=true then .ok (DK i j) else .bad
 | .ok _=> .bad
 | .ex c=> .ex c
 | .bad=> .bad
theorem xH(hi lo:Int):(DK hi lo).length=(hi-lo).toNat:=by simp [DK]
theorem Pq(hi lo:Int)(i:Nat)(h:i<(hi-lo).toNat):(DK hi lo)[i]? =some (.int (hi-(i:Int))):=by
 simp [DK,h]
theorem adx{K:ao}{Hb1:Hp}(hi lo:Int):Yl K Hb1 (Itc hi (-1) (hi-lo).toNat) (DK hi lo) where
 go:=fun i H _ h=>by
  rw [xH] at h
  exact h
 stop:=fun H _=>by
  rw [xH]
  exact bA _
 yld:=fun i H x H' Hb e1 e2 h y=>by
  obtain⟨rfl,rfl⟩:=y
  rw [xH] at h
  have e:hi+((i:Nat):Int)*(-1)=hi-(i:Int):=by omega
  rw [e]
  exact⟨Hb, .int (hi-(i:Int)),Gw.refl e2,Pq hi lo i h, .int _⟩
theorem Dc(lo hi:Int):(nJ lo hi).length=(hi-lo).toNat:=by simp [nJ]
theorem Xx(lo hi:Int)(i:Nat)(h:i<(hi-lo).toNat):(nJ lo hi)[i]? =some (.int (lo+(i:Int))):=by
 simp [nJ,h]
theorem ac4{K:ao}{Hb1:Hp}(lo hi:Int):Yl K Hb1 (Itr lo (hi-lo).toNat) (nJ lo hi) where
 go:=fun i H _ h=>by
  rw [Dc] at h
  exact h
 stop:=fun H _=>by
  rw [Dc]
  exact bA _
 yld:=fun i H x H' Hb e1 e2 h y=>by
  obtain⟨rfl,rfl⟩:=y
  rw [Dc] at h
  exact⟨Hb, .int (lo+(i:Int)),Gw.refl e2,Xx lo hi i h, .int _⟩
theorem adb{K:ao}{Hb1:Hp}{p:Addr}{xs:List V}{ds:List D}(h:SqL K Hb1 p xs)(a:iV K Hb1 xs ds):Yl K Hb1 (Itl K p) ds where
 go:=fun i H e hi=>by
  have hl:=iJ a
  exact⟨xs,xs[i]'(by omega),ex_l e h,by simp⟩
 stop:=fun H e=>⟨xs,ex_l e h,by rw [iJ a];exact bA _⟩
 yld:=fun i H x H' Hb e1 e2 hi y=>by
  obtain⟨rfl,y⟩:=y
  have hx:=y xs (ex_l (e1.trans e2) h)
  obtain⟨d,d1,d2⟩:=uM a hx
  exact⟨Hb,d,Gw.refl e2,d1,nq e1 d2⟩
theorem Ys{K:ao}{Hb1:Hp}{p:Addr}{xs:List V}{ds:List D}(h:SqT K Hb1 p xs)(a:iV K Hb1 xs ds):Yl K Hb1 (Itt K p) ds where
 go:=fun i H e hi=>by
  have hl:=iJ a
  exact⟨xs,xs[i]'(by omega),ex_t e h,by simp⟩
 stop:=fun H e=>⟨xs,ex_t e h,by rw [iJ a];exact bA _⟩
 yld:=fun i H x H' Hb e1 e2 hi y=>by
  obtain⟨rfl,y⟩:=y
  have hx:=y xs (ex_t (e1.trans e2) h)
  obtain⟨d,d1,d2⟩:=uM a hx
  exact⟨Hb,d,Gw.refl e2,d1,nq e1 d2⟩
theorem afe{K:ao}{Hb1:Hp}(z:Str):Yl K Hb1 (Its z) (JX z) where
 go:=fun i H e hi=>by simpa [JX,Its] using hi
 stop:=fun H e=>by simp [JX,Its]
 yld:=fun i H x H' Hb e1 e2 hi y=>by
  obtain⟨rfl,c,hc,rfl⟩:=y
  exact⟨Hb, .str ⟨#[c]⟩,Gw.refl e2,by
   have hc' :z.cps.toList[i]? =some c:=by simpa using hc
   simp only [JX,aH,hc']
   rfl, .str _⟩
section
variable{X:Cx}{W:WQ}{rk kd:Kd}{e tg a b:Expr}{g:GM}{m ma mb:EM}{p pos:Pos}{mi:Env→AR}
theorem U5(h:DE X W .dat e m):DI X W tg e (iL m):=PI.imp (pi_list h) fun σ H R ⟨Hf,Hb,ρ,Re,h1,h2,h3⟩=>by
 refine⟨Hf,Hb,ρ,Re,fun d hd v Hb' H' g r=> ?_,fun c hc=>h2 c (by simp [iL,hc]),fun z=>h3 (by simp [iL,z])⟩
 cases d with
 |list ds=>
  cases r with
  |lst s a=>exact⟨_,rfl,⟨_,ex_l g.bh s⟩,h1 ds (by simp [iL,hd]) _ Hb' H' g (adb s a)⟩
 |_=>exact absurd (by simp [iL,hd]) h3
theorem ae8(h:DE X W .dat e m):DI X W tg e (iT m):=PI.imp (pi_tup h) fun σ H R ⟨Hf,Hb,ρ,Re,h1,h2,h3⟩=>by
 refine⟨Hf,Hb,ρ,Re,fun d hd v Hb' H' g r=> ?_,fun c hc=>h2 c (by simp [iT,hc]),fun z=>h3 (by simp [iT,z])⟩
 cases d with
 |tuple ds=>
  cases r with
  |tup s a=>exact⟨_,rfl,⟨_, .inl (.inl (g.bh _ _ s))⟩,h1 ds (by simp [iT,hd]) _ Hb' H' g (Ys (.inl (.inl s)) a)⟩
 |_=>exact absurd (by simp [iT,hd]) h3
theorem ael(h:DE X W .dat e m):DI X W tg e (iS m):=PI.imp (pi_str h) fun σ H R ⟨Hf,Hb,ρ,Re,h1,h2,h3⟩=>by
 refine⟨Hf,Hb,ρ,Re,fun d hd v Hb' H' g r=> ?_,fun c hc=>h2 c (by simp [iS,hc]),fun z=>h3 (by simp [iS,z])⟩
 cases d with
 |str z=>
  cases r
  exact⟨_,rfl,h1 _ (by simp [iS,hd]) _ Hb' H' g (afe z)⟩
 |_=>exact absurd (by simp [iS,hd]) h3
theorem Fx(hm:X.mg "range"=none)(h:DE X W .bor a m)(hg:Gl X "range":=by rfl)(hs:starEach [a] X.env=[(false,eval a X.env)]:=by rfl):DI X W tg (.Call (.Name "range" p) [a] [] pos) (HD m):=
 PI.imp (pi_range1 hg hm (pa_cons h pa_nil hs) hs) fun σ H R ⟨Hf,Hb,ρ,Re,h1,h2,h3⟩=>by
  refine⟨Hf,Hb,ρ,Re,fun d hd v Hb' H' g r=> ?_,fun c hc=>h2 c (by simp [HD,hc]),fun z=>h3 (by simp [HD,z])⟩
  cases d with
  |int n=>
   by_cases hz:inR n=true
   ·refine⟨n,by rw [Bo.int r],(rJ.mp hz).1,(rJ.mp hz).2,?_⟩
    have y:=ac4 (K:=X.K) (Hb1:=Hb') 0 n
    have e0:(n-0).toNat=n.toNat:=by simp
    rw [e0] at y
    exact h1 _ (by simp [HD,hd,hz]) _ Hb' H' g y
   ·exact absurd (by simp [HD,hd,hz]) h3
  |_=>exact absurd (by simp [HD,hd]) h3
theorem agd{c:Expr}{mc:EM}(hm:X.mg "range"=none)(h:DA X W [.bor, .bor, .bor] [a,b,c] [ma,mb,mc])(hg:Gl X "range":=by rfl)(hs:starEach [a,b,c] X.env=(false,eval a X.env)::starEach [b,c] X.env:=by rfl)(hpl:(backTo pos (starEach [b,c] X.env)).any (·.1)=false:=by rfl):
 DI X W tg (.Call (.Name "range" p) [a,b,c] [] pos) (iR3 ma mb mc):=PI.imp (pi_range3 hg hm h hs hpl) fun σ H R ⟨Hf,Hb,ρ,Re,h1,h2,h3⟩=>by
 refine⟨Hf,Hb,ρ,Re,fun ds hd vs Hb' H' g r=> ?_,fun c hc=>h2 c (by simp [iR3,hc]),fun z=>h3 (by simp [iR3,z])⟩
 cases r with
 |cons r1 r2=>
  cases r2 with
  |cons r2 r3=>
   cases r3 with
   |cons r3 r4=>
    cases r4
    rename_i v1 d1 v2 d2 v3 d3
    cases d1 with
    |int i=>
     cases d2 with
     |int j=>
      cases d3 with
      |int k=>
       by_cases hz:(inR i&&inR j&&decide (k= -1))=true
       ·have hz2:=Bool.and_eq_true_iff.mp hz
        have hz3:=Bool.and_eq_true_iff.mp hz2.1
        have hk:k= -1:=of_decide_eq_true hz2.2
        subst hk
        refine⟨i,j,-1,(i-j).toNat,by rw [Bo.int r1,Bo.int r2,Bo.int r3],RgC.neg (rJ.mp hz3.1).1 (rJ.mp hz3.1).2 (rJ.mp hz3.2).1 (rJ.mp hz3.2).2,h1 (DK i j) ?_ _ Hb' H' g (adx i j)⟩
        unfold iR3
        rw [hd]
        exact if_pos hz
       ·refine absurd ?_ h3
        unfold iR3
        rw [hd]
        exact if_neg hz
      |_=>exact absurd (by simp [iR3,hd]) h3
     |_=>exact absurd (by simp [iR3,hd]) h3
    |_=>exact absurd (by simp [iR3,hd]) h3
theorem lE{body:List Stmt}{mb:SM}(hp:PassesOwn (model X.prog X.w) X.A X.env X.xe)(hi:DI X W tg e mi)(hg:DG X W tg g)(hb:DSs X W rk body mb)(hc:X.calm=true:=by rfl)(hs:∀x,foldedSetIterable e X.env x=pure x:=by intro _;rfl):
 DS X W rk (.For tg e body [] pos) (mZ mi g mb):=PS.imp (ps_for hp hc hi hg hb hs) fun E σ H ⟨Hf,Hb,ρ,R,h⟩=>by
 refine⟨Hf,Hb,ρ,R,fun ds hds J Hb1 H1 g1 Y=> ?_,fun c hc Hb' H' g1=> ?_,fun z=> ?_⟩
 ·simp only [mZ,hds] at h
  refine⟨fun i n σ' H' =>n=ds.length-i∧i≤ds.length∧∃Hb' ρ',iG X.K W.pin Hf Hb' H' σ' ρ' ∧Ex Hb1 Hb' ∧pU X.K W rk Hf Hb' H' E (Uc g mb (ds.drop i) ρ'),⟨ds.length,by simp,cG _,Hb1,ρ,R.gw g1,Ex.refl _,pU.weak (g1.bw R.ef) h⟩,?_⟩
  rintro i n σ2 H2 ⟨rfl,hi,Hb2,ρ2,R2,e2,h2⟩
  by_cases hlt:i<ds.length
  ·have ed:ds.drop i=ds[i]::ds.drop (i+1):=(List.getElem_cons_drop hlt).symm
   rw [ed] at h2
   refine .inr ⟨Y.go i H2 (e2.trans R2.eb) hlt,fun σ' H' =>∃Hb' ρ',iG X.K W.pin Hf Hb' H' σ' ρ' ∧Ex Hb1 Hb' ∧pU X.K W rk Hf Hb' H' E (Uc g mb (ds.drop (i+1)) ρ'),fun σ' H' hN=>⟨ds.length-(i+1),by omega,rfl,hlt,hN⟩,fun x H3 y=> ?_⟩
   obtain⟨Hb3,d,g3,d1,d2⟩:=Y.yld i H2 x H3 Hb2 e2 R2.eb hlt y
   have de:ds[i]=d:=by
    rw [aP hlt] at d1
    exact Option.some.inj d1
   rw [de] at h2
   simp only [Uc] at h2
   cases q:g d ρ2 with
   |none=>
    rw [q] at h2
    exact h2.elim
   |some ρ3=>
    rw [q] at h2
    refine⟨Hf,Hb3,ρ2,d,ρ3,R2.gw g3,d2,q,fun σ3 R3=>⟨Hf,Hb3,ρ3,R3,?_⟩⟩
    have h3:=pU.weak (g3.bw R2.ef) h2
    simp only at h3
    cases qb:mb ρ3 with
    |nx ρ4=>
     rw [qb] at h3
     exact fun σ4 Hb4 H4 R4 b4=>⟨Hb4,ρ4,R4,(e2.trans g3.b).trans b4.b,pU.weak b4 h3⟩
    |ct ρ4=>
     rw [qb] at h3
     exact fun σ4 Hb4 H4 R4 b4=>⟨Hb4,ρ4,R4,(e2.trans g3.b).trans b4.b,pU.weak b4 h3⟩
    |bk ρ4=>
     rw [qb] at h3
     exact h3
    |rt d=>
     rw [qb] at h3
     exact h3
    |rx d ρ4=>
     rw [qb] at h3
     exact h3
    |ex c ρ4=>
     rw [qb] at h3
     exact h3
    |bad=>
     rw [qb] at h3
     exact h3
  ·have e:i=ds.length:=by omega
   subst e
   rw [List.drop_length] at h2
   exact .inl ⟨Y.stop H2 (e2.trans R2.eb),h2 σ2 Hb2 H2 R2 (Bw.refl R2.eb)⟩
 ·simp only [mZ,hc] at h
  exact h _ Hb' H' (R.gw g1) (g1.bw R.ef)
 ·simp only [mZ,z] at h
  exact h
theorem zM{c:Expr}{body:List Stmt}{mc:EM}{mb:SM}(hp:PassesOwn (model X.prog X.w) X.A X.env X.xe)(hc:DT X W c mc)(hb:DSs X W rk body mb):DS X W rk (.While c body [] pos) (Ai mc mb):=
 PS.imp (ps_while hp hc hb) fun E σ H ⟨Hf,Hb,ρ,R,h⟩=>by
  refine⟨fun n σ' H' =>∃Hb' ρ',iG X.K W.pin Hf Hb' H' σ' ρ' ∧pU X.K W rk Hf Hb' H' E (qC mc mb n ρ'),⟨FUEL,Hb,ρ,R,h⟩,?_⟩
  rintro n σ2 H2 ⟨Hb2,ρ2,R2,h2⟩
  cases n with
  |zero=>exact h2.elim
  |succ n=>
   simp only [qC] at h2
   refine⟨Hf,Hb2,ρ2,R2,fun k hk Hb3 H3 g3=> ?_,fun c hc Hb3 H3 g3=> ?_,?_⟩
   ·cases k with
    |true=>
     rw [hk] at h2
     simp only at h2
     show∃N:L2.St→Hp→Prop,_
     refine⟨fun σ' H' =>∃Hb' ρ',iG X.K W.pin Hf Hb' H' σ' ρ' ∧pU X.K W rk Hf Hb' H' E (qC mc mb n ρ'),fun σ' H' hN=>⟨n,by omega,hN⟩,Hf,Hb3,ρ2,R2.gw g3,?_⟩
     have h3:=pU.weak (g3.bw R2.ef) h2
     cases qb:mb ρ2 with
     |nx ρ4=>
      rw [qb] at h3
      exact fun σ4 Hb4 H4 R4 b4=>⟨Hb4,ρ4,R4,pU.weak b4 h3⟩
     |ct ρ4=>
      rw [qb] at h3
      exact fun σ4 Hb4 H4 R4 b4=>⟨Hb4,ρ4,R4,pU.weak b4 h3⟩
     |bk ρ4=>
      rw [qb] at h3
      exact h3
     |rt d=>
      rw [qb] at h3
      exact h3
     |rx d ρ4=>
      rw [qb] at h3
      exact h3
     |ex c ρ4=>
      rw [qb] at h3
      exact h3
     |bad=>
      rw [qb] at h3
      exact h3
    |false=>
     rw [hk] at h2
     simp only at h2
     show E.nx σ2 H3
     exact h2 σ2 Hb3 H3 (R2.gw g3) (g3.bw R2.ef)
   ·rw [hc] at h2
    exact h2 _ Hb3 H3 (R2.gw g3) (g3.bw R2.ef)
   ·cases q:mc ρ2 with
    |bad=>
     rw [q] at h2
     exact h2.elim
    |ex c=>exact .inr ⟨c,rfl⟩
    |ok d=>
     cases d with
     |bool b=>exact .inl ⟨b,rfl⟩
     |_=>
      rw [q] at h2
      exact h2.elim
end
def jV:List Kd→List D→Env
 |[],_=>[]
 | .dat::ks,d::ds=> .dat d::jV ks ds
 | .bor::ks,d::ds=> .bor d::jV ks ds
 | .new::ks,d::ds=> .bor d::jV ks ds
 | .io _::ks,d::ds=> .bor d::jV ks ds
 | .tl::ks,d::ds=> .bor d::jV ks ds
 |_::_,[]=>[]
def jF(ks:List Kd)(n:Nat)(m:SM)(ds:List D):ER:=match m (jV ks ds++aC n .un) with
 | .nx _=> .ok .none
 | .rt d=> .ok d
 | .ex c _=> .ex c
 |_=> .bad
theorem mU.adX{K:ao}{Hb H:Hp}:∀{ks:List Kd} {vs:List V} {ds:List D},mU K Hb H ks vs ds→vs.length=ks.length
 |_,_,_, .nil=>rfl
 |_,_,_, .cons _ b=>by simp [mU.adX b]
theorem uI{K:ao}{Hb H:Hp}:∀{ks:List Kd} {vs:List V} {ds:List D},mU K Hb H ks vs ds→(jV ks ds).length=vs.length
 |_,_,_, .nil=>rfl
 | .dat::_,_,_, .cons _ b=>by simp [jV,uI b]
 | .bor::_,_,_, .cons _ b=>by simp [jV,uI b]
 | .new::_,_,_, .cons _ b=>by simp [jV,uI b]
 | .io _::_,_,_, .cons _ b=>by simp [jV,uI b]
 | .tl::_,_,_, .cons _ b=>by simp [jV,uI b]
theorem uJ{K:ao}{Hb H:Hp}:∀{ks:List Kd} {vs:List V} {ds:List D} (i:Nat) (s:Sl),mU K Hb H ks vs ds→(jV ks ds)[i]? =some s→∃v d,vs[i]? =some v∧((s= .dat d∧Dr K Hb v d)∨(s= .bor d∧Bo K Hb H v d))
 |_,_,_,i,s, .nil,h=>by simp [jV] at h
 | .dat::_,v::_,d::_,0,s, .cons a b,h=>by
   simp [jV] at h
   exact⟨v,d,rfl, .inl ⟨h.symm,a⟩⟩
 | .bor::_,v::_,d::_,0,s, .cons a b,h=>by
   simp [jV] at h
   exact⟨v,d,rfl, .inr ⟨h.symm,a⟩⟩
 | .new::_,v::_,d::_,0,s, .cons a b,h=>by
   simp [jV] at h
   exact⟨v,d,rfl, .inr ⟨h.symm,a⟩⟩
 | .io _::_,v::_,d::_,0,s, .cons a b,h=>by
   simp [jV] at h
   exact⟨v,d,rfl, .inr ⟨h.symm,a⟩⟩
 | .tl::_,v::_,d::_,0,s, .cons a b,h=>by
   simp [jV] at h
   exact⟨v,d,rfl, .inr ⟨h.symm,a⟩⟩
 | .dat::_,_::_,_::_,i+1,s, .cons a b,h=>by
   simp [jV] at h
   obtain⟨v,d,h1,h2⟩:=uJ i s b h
   exact⟨v,d,by simpa using h1,h2⟩
 | .bor::_,_::_,_::_,i+1,s, .cons a b,h=>by
   simp [jV] at h
   obtain⟨v,d,h1,h2⟩:=uJ i s b h
   exact⟨v,d,by simpa using h1,h2⟩
 | .new::_,_::_,_::_,i+1,s, .cons a b,h=>by
   simp [jV] at h
   obtain⟨v,d,h1,h2⟩:=uJ i s b h
   exact⟨v,d,by simpa using h1,h2⟩
 | .io _::_,_::_,_::_,i+1,s, .cons a b,h=>by
   simp [jV] at h
   obtain⟨v,d,h1,h2⟩:=uJ i s b h
   exact⟨v,d,by simpa using h1,h2⟩
 | .tl::_,_::_,_::_,i+1,s, .cons a b,h=>by
   simp [jV] at h
   obtain⟨v,d,h1,h2⟩:=uJ i s b h
   exact⟨v,d,by simpa using h1,h2⟩
theorem XQ{K:ao}{Hb H:Hp}{ks:List Kd}{vs:List V}{ds:List D}{N:List Str}{n:Nat}(e:Ex Hb H)(r:mU K Hb H ks vs ds)(hn:N.length=ks.length+n):iG K [] H Hb H (L2.start N vs) (jV ks ds++aC n .un):=by
 have l1:=uI r
 have l2:=r.adX
 have key:∀(i:Nat) s,(jV ks ds++aC n .un)[i]? =some s→s= .un∨∃v d,(L2.start N vs)[i]? =some (some v)∧((s= .dat d∧Dr K Hb v d)∨(s= .bor d∧Bo K Hb H v d)):=fun i s h=>by
  rcases Nat.lt_or_ge i (jV ks ds).length with hlt|hge
  ·rw [aO hlt] at h
   obtain⟨v,d,h1,h2⟩:=uJ i s r h
   refine .inr ⟨v,d,?_,h2⟩
   unfold L2.start
   rw [aO (by simpa using(by omega:i<vs.length)),aH,h1]
   rfl
  ·rw [bG hge] at h
   have:=aX h
   exact .inl (List.eq_of_mem_replicate this)
 refine⟨fun _=>[],Ex.refl _,e,?_,fun i s h=> ?_,fun i=>dW,fun i p hp=>by(cases hp),fun i j p _ hp=>by(cases hp),fun i a z=>by(cases z)⟩
 ·unfold L2.start
  simp
  omega
 ·rcases key i _ h with z|⟨v,d',h1,⟨z,h2⟩|⟨z,h2⟩⟩
  ·subst z
   rfl
  ·subst z
   exact⟨rfl,v,h1,h2⟩
  ·subst z
   exact⟨rfl,v,h1,h2⟩
section
variable{P:Program}{w:World}{K:ao}{mg:Str→Option Value}{base:Heap}{x qual:Str}{params:Arguments}{body:List Stmt}{scope:Scope}{dvs:List V}{kws:List (Str×V)}{f:Addr}{fd:FuncData}
theorem ab1{Hb H Hb' H' :Hp}(e:Ex H H')(b:Bw H Hb Hb' H'):Gw Hb H Hb' H' :=⟨e,b.b,b.bh,b.nw⟩
theorem fn_ok{N ps:List Str}{k n:Nat}{ks:List Kd}{rk:Kd}{m:SM}(F:FunD K x qual params body scope dvs kws f fd)(S:FnScope N ps scope)(hps:ps.length=ks.length)(hn:N.length=ks.length+n)(hrk:rk= .dat∨∀ρ ρ',m ρ≠ .nx ρ')
 (hbody:∀(cdv:Value) (A:Around) (outer:List PySem.Env) (s:Shared) (H:Hp) (E:XK),Room k (A.deeper (PyProof.Rows.envOfC qual scope s.heap.objs.size f cdv))→DSs (cxOf (L2.CX P w) P w K mg base N qual scope f cdv A outer s H E) ⟨fun cls d _ H=>E cls d H,[]⟩ rk body m):
 FnOk P w K mg base (L2.CX P w) (k+1) f fd ps (qL K ks rk (jF ks n m)):=by
 refine F.ok S (fun vs H Q E h=> ?_) (fun cdv A outer s H vs Q E hr h=> ?_)
 ·obtain⟨Hb,ds,e,r,_⟩:=h
  rw [r.adX,hps]
 ·obtain⟨Hb,ds,e,r,h1,h2,h3⟩:=h
  refine⟨_,hbody cdv A outer s H E hr,H,Hb,_,XQ e r hn,?_⟩
  have em:jF ks n m ds=match m (jV ks ds++aC n .un) with
   | .nx _=> .ok .none
   | .rt d=> .ok d
   | .ex c _=> .ex c
   |_=> .bad:=rfl
  cases q:m (jV ks ds++aC n .un) with
  |nx ρ=>
   rw [q] at em
   intro σ' Hb' H' R b
   refine h1 .none em .non Hb' H' (ab1 R.ef b) ?_
   rcases hrk with z|z
   ·subst z
    exact Xk
   ·exact absurd q (z _ _)
  |rt d=>
   rw [q] at em
   exact fun v Hb' H' e1 b r1=>h1 d em v Hb' H' (ab1 e1 b) r1
  |ex c ρ=>
   rw [q] at em
   exact fun σ' Hb' H' R b=>h2 c em Hb' H' (ab1 R.ef b)
  |bk ρ=>
   rw [q] at em
   exact absurd em h3
  |rx d ρ=>
   rw [q] at em
   exact absurd em h3
  |ct ρ=>
   rw [q] at em
   exact absurd em h3
  |bad=>
   rw [q] at em
   exact absurd em h3
end
end DL
namespace DL
open PySem L2 Evl PyProof.Rows
end DL
namespace DL
open PySem L2 Evl
def rM(ρ:Env):List Nat→Env
 |[]=>ρ
 |v::vs=>(rM ρ vs).set v .un
def Wq(g:GM)(mt me:EM):List D→List D→Env→ER
 |[],acc,_=> .ok (.list acc)
 |d::r,acc,ρ=>match g d ρ with
  |none=> .bad
  |some ρ1=>match mt ρ1 with
   | .ok (.bool true)=>(match me ρ1 with
     | .ok e=>if acc.length<sizeLine then Wq g mt me r (acc++[e]) ρ else .bad
     |_=> .bad)
   | .ok (.bool false)=>Wq g mt me r acc ρ
   |_=> .bad
def Oc(mi:Env→AR)(g:GM)(mt me:EM)(vs:List Nat):EM:=fun ρ=>match mi ρ with
 | .ok ds=>Wq g mt me ds [] (rM ρ vs)
 | .ex c=> .ex c
 | .bad=> .bad
theorem Mp(g:GM)(mt me:EM):∀(ds acc:List D) (ρ:Env),Wq g mt me ds acc ρ= .bad∨∃es,Wq g mt me ds acc ρ= .ok (.list es)
 |[],acc,ρ=> .inr ⟨acc,rfl⟩
 |d::r,acc,ρ=>by
  simp only [Wq]
  split
  ·exact .inl rfl
  ·split
   ·split
    ·split
     ·exact Mp g mt me r _ ρ
     ·exact .inl rfl
    ·exact .inl rfl
   ·exact Mp g mt me r acc ρ
   ·exact .inl rfl
section
variable{K:ao}{Hf Hb H:Hp}{σ:L2.St}{ρ:Env}
theorem iG.aev(R:iG K [] Hf Hb H σ ρ):∀vs,iG K [] Hf Hb H (wipe σ vs) (rM ρ vs)
 |[]=>R
 |v::vs=>(iG.aev R vs).af' (fun _ z=>nomatch z)
def GOk(K:ao)(T:TG)(g:GM)(vs:List Nat):Prop:=∀(Hf Hb H:Hp) (σ:L2.St) (ρ ρ' :Env) (v:V) (d:D) (Q:L2.St→Hp→Prop),iG K [] Hf Hb H (wipe σ vs) ρ→Dr K Hb v d→g d ρ=some ρ' →
 (∀σ2,iG K [] Hf Hb H σ2 ρ' →wipe σ2 vs=wipe σ vs→Q σ2 H)→T v (wipe σ vs) H Q
theorem Pg(j:Nat):GOk K (gName j) (gN j) [j]:=fun Hf Hb H σ ρ ρ' v d Q R r h q=>by
 cases h
 exact q _ (R.MJ (fun _ z=>nomatch z) r) (by simp [wipe])
end
section
variable{X:Cx}{W:WQ}{elt tg iter:Expr}{ifs:List Expr}{scope:Scope}{own:List (Str×Nat)}{pos:Pos}{mi:Env→AR}{T:TG}{g:GM}{mt me:EM}
abbrev W0:WQ:=⟨fun _ _ _ _=>False,[]⟩
structure YlH(K:ao)(Hb1 H1:Hp)(J:It)(ds:List D):Prop where
 go:∀(i:Nat) H,Ex H1 H→i<ds.length→J.go i H
 stop:∀H,Ex H1 H→J.stop ds.length H
 yld:∀(i:Nat) H x H' Hb,Ex Hb1 Hb→Ex Hb H→Ex H1 H→i<ds.length→J.yld i H x H' →∃Hb' d,Gw Hb H Hb' H' ∧ds[i]? =some d∧Dr K Hb' x d
def ags(K:ao)(W:WQ)(mi:Env→AR):TI:=fun σ H R=>∃(Hf Hb:Hp) (ρ:Env),iG K W.pin Hf Hb H σ ρ∧
 (∀ds,mi ρ= .ok ds→∀J Hb' H',Gw Hb H Hb' H' →YlH K Hb' H' J ds→R J H')∧
 (∀c,mi ρ= .ex c→∀Hb' H',Gw Hb H Hb' H' →W.w (.ref (He.ga K c)) none σ H')∧mi ρ≠ .bad
abbrev DIC(X:Cx)(W:WQ)(tg iter:Expr)(mi:Env→AR):Prop:=PI X tg iter (ags X.K W mi)
theorem Gx(h:DI X W tg iter mi):DIC X W tg iter mi:=PI.imp h fun σ H R ⟨Hf,Hb,ρ,Re,h1,h2,h3⟩=>
 ⟨Hf,Hb,ρ,Re,fun ds hds J Hb' H' g Y=>h1 ds hds J Hb' H' g ⟨fun i H e=>Y.go i H (g.bh.trans e),fun H e=>Y.stop H (g.bh.trans e),fun i H x H2 Hb2 e1 e2 _ hl y=>Y.yld i H x H2 Hb2 e1 e2 hl y⟩,h2,h3⟩
theorem abP{K:ao}{vs:List Nat}{σ:L2.St}{H:Hp}{Q:VK}(hG:GOk K T g vs)(h:Bp K W .new (Oc mi g mt me vs) σ H Q):tLc (ags K W mi) T (Tz K W0 mt) (Bp K W0 .dat me) vs σ H Q:=by
 obtain⟨Hf,Hb,ρ,R,h1,h2,h3⟩:=h
 refine⟨Hf,Hb,ρ,R,fun ds hds J Hb1 H1 g1 Y=> ?_,fun c hc=>h2 c (by simp [Oc,hc]),fun z=>h3 (by simp [Oc,z])⟩
 have em:Oc mi g mt me vs ρ=Wq g mt me ds [] (rM ρ vs):=by simp [Oc,hds]
 rw [em] at h1 h3
 intro A hA
 have R1:=(R.gw g1).unpin.aev vs
 have hbA:Hb1 A=none:=fresh_back g1.bh hA
 refine⟨fun i n H' =>n=ds.length-i∧i≤ds.length∧∃Hb' acc accd,Gw Hb1 H1 Hb' H' ∧Hb' A=none∧H' A=some (.lst acc)∧iV K Hb' acc accd∧Wq g mt me (ds.drop i) accd (rM ρ vs)=Wq g mt me ds [] (rM ρ vs),
  ⟨ds.length,by simp,cG _,Hb1,[],[],Gw.new g1.bh hA,hbA,upd_same, .nil,rfl⟩,?_⟩
 rintro i n H2 ⟨rfl,hi,Hb2,acc,accd,g2,hb2,ho2,a2,e2⟩
 by_cases hlt:i<ds.length
 ·have ed:ds.drop i=ds[i]::ds.drop (i+1):=(List.getElem_cons_drop hlt).symm
  rw [ed] at e2
  refine .inr ⟨Y.go i H2 g2.h hlt,fun H' =>∃Hb' acc accd,Gw Hb1 H1 Hb' H' ∧Hb' A=none∧H' A=some (.lst acc)∧iV K Hb' acc accd∧Wq g mt me (ds.drop (i+1)) accd (rM ρ vs)=Wq g mt me ds [] (rM ρ vs),
   fun H' hN=>⟨ds.length-(i+1),by omega,rfl,hlt,hN⟩,fun x H3 y=> ?_⟩
  obtain⟨Hb3,d,g3,d1,d2⟩:=Y.yld i H2 x H3 Hb2 g2.b g2.bh g2.h hlt y
  have de:ds[i]=d:=by
   rw [aP hlt] at d1
   exact Option.some.inj d1
  rw [de] at e2
  simp only [Wq] at e2
  cases q:g d (rM ρ vs) with
  |none=>
   rw [q] at e2
   exact absurd e2.symm h3
  |some ρ3=>
   rw [q] at e2
   simp only at e2
   have g23:=g2.trans g3
   refine hG Hf Hb3 H3 σ (rM ρ vs) ρ3 x d _ (R1.gw g23) d2 q fun σ4 R4 w4=>⟨w4,?_⟩
   have ho3:=g3.h _ _ ho2
   have hb3:Hb3 A=none:=g3.nw A hb2 (by rw [ho2];exact True.intro)
   cases qt:mt ρ3 with
   |bad=>
    rw [qt] at e2
    exact absurd e2.symm h3
   |ex c=>
    rw [qt] at e2
    exact absurd e2.symm h3
   |ok dt=>
    rw [qt] at e2
    cases dt with
    |bool b=>
     refine⟨Hf,Hb3,ρ3,R4,fun b' hb' Hb5 H5 g5=> ?_,fun c hc=>(by rw [qt] at hc;cases hc), .inl ⟨b,qt⟩⟩
     rw [qt] at hb'
     cases hb'
     cases b with
     |true=>
      simp only at e2
      cases qe:me ρ3 with
      |bad=>
       rw [qe] at e2
       exact absurd e2.symm h3
      |ex c=>
       rw [qe] at e2
       exact absurd e2.symm h3
      |ok de=>
       rw [qe] at e2
       simp only at e2
       by_cases hz:accd.length<sizeLine
       ·rw [if_pos hz] at e2
        show Bp K W0 .dat me σ4 H5 _
        refine⟨Hf,Hb5,ρ3,R4.gw g5,fun d' hd' v' Hb6 H6 g6 r6=> ?_,fun c hc=>(by rw [qe] at hc;cases hc),fun z=>(by rw [qe] at z;cases z)⟩
        rw [qe] at hd'
        cases hd'
        have g36:=g3.trans (g5.trans g6)
        have ho6:=g36.h _ _ ho2
        have hb6:Hb6 A=none:=g36.nw A hb2 (by rw [ho2];exact True.intro)
        have gg:=g2.trans g36
        refine⟨acc,ho6,by rw [iJ a2];exact hz,Hb6,acc++[v'],accd++[de],⟨fun a u qa=> ?_,gg.b,fun a u qa=> ?_,gg.nw⟩,hb6,upd_same,uK (lJ g36.b a2) (.cons r6 .nil),e2⟩
        ·rw [upd_ne (ne_of_none qa hA)]
         exact gg.h a u qa
        ·rw [upd_ne (ne_of_none qa hb6)]
         exact gg.bh a u qa
       ·rw [if_neg hz] at e2
        exact absurd e2.symm h3
     |false=>
      simp only at e2
      show∃Hb' acc accd,_
      have g35:=g3.trans g5
      exact⟨Hb5,acc,accd,g2.trans g35,g35.nw A hb2 (by rw [ho2];exact True.intro),g35.h _ _ ho2,lJ g35.b a2,e2⟩
    |_=>
     simp only at e2
     exact absurd e2.symm h3
 ·have e:i=ds.length:=by omega
  subst e
  rw [List.drop_length] at e2
  simp only [Wq] at e2
  refine .inl ⟨Y.stop H2 g2.h,h1 (.list accd) e2.symm _ Hb2 H2 (g1.trans g2) ⟨A,rfl,fresh_back g1.h hA,hb2,_,ho2, .lst a2⟩⟩
theorem adu{K:ao}{σ:L2.St}{H:Hp}{Q:Bool→Hp→Prop}{Wx:WQ}(h:Tz K Wx (eC (.bool true)) σ H Q):tYes σ H Q:=by
 obtain⟨Hf,Hb,ρ,R,h1,_,_⟩:=h
 exact h1 true rfl Hb H (Gw.refl R.eb)
theorem PTs.imp{X:Cx}{e:List Expr}{t t' :TT}(h:PTs X e t)(i:∀σ H Q,t' σ H Q→t σ H Q):PTs X e t' :=⟨fun pins s σ H Q I q=>h.run pins s σ H Q I (i σ H Q q)⟩
abbrev DTs(X:Cx)(W:WQ)(ifs:List Expr)(m:EM):Prop:=PTs X ifs (Tz X.K W m)
theorem BV:DTs X W [] (eC (.bool true)):=PTs.imp pts_nil fun _ _ _=>adu
theorem Y6(hN:X.N.Nodup)(hi:DIC X W tg iter mi)(ok:BlkOk X.N X.env.scope scope own)(hG:GOk X.K T g (own.map (·.2)))
 (hg:∀(s:Shared) (H:Hp) (C:Addr) (cl:List (Str×Addr)) (fp:List Addr),PG (X.blk s H scope (compEnvC scope cl C X.env) fp) tg T)
 (ht:∀(s:Shared) (H:Hp) (C:Addr) (cl:List (Str×Addr)) (fp:List Addr),DTs (X.blk s H scope (compEnvC scope cl C X.env) fp) W0 ifs mt)
 (he:∀(s:Shared) (H:Hp) (C:Addr) (cl:List (Str×Addr)) (fp:List Addr),DE (X.blk s H scope (compEnvC scope cl C X.env) fp) W0 .dat elt me) (hc:X.calm=true:=by rfl) (hs:∀x,foldedSetIterable iter X.env x=pure x:=by intro _;rfl):
 DE X W .new (.ListComp elt [⟨tg,iter,ifs,0⟩] scope pos) (Oc mi g mt me (own.map (·.2))):=PE.imp (pe_lc (tt:=Tz X.K W0 mt) (te:=Bp X.K W0 .dat me) hc hN hi ok hg ht he hs) fun _ _ _=>abP hG
theorem acA{rk:Kd}{i:Nat}{y:Str}{py spos:Pos}(hN:X.N.Nodup)(hsw:swapsWith (.ListComp elt [⟨tg,iter,ifs,0⟩] scope pos) (some (.Name y py)) spos.line X.env=pure true)(hi:DIC X W tg iter mi)(ok:BlkOk X.N X.env.scope scope own)(hG:GOk X.K T g (own.map (·.2)))
 (hg:∀(s:Shared) (H:Hp) (C:Addr) (cl:List (Str×Addr)) (fp:List Addr),PG (X.blk s H scope (compEnvC scope cl C X.env) fp) tg T)
 (ht:∀(s:Shared) (H:Hp) (C:Addr) (cl:List (Str×Addr)) (fp:List Addr),DTs (X.blk s H scope (compEnvC scope cl C X.env) fp) W0 ifs mt)
 (he:∀(s:Shared) (H:Hp) (C:Addr) (cl:List (Str×Addr)) (fp:List Addr),DE (X.blk s H scope (compEnvC scope cl C X.env) fp) W0 .dat elt me) (hy:X.N[i]? =some y:=by rfl) (hyl:X.env.scope.names.lookup y=some .local:=by rfl) (hc:X.calm=true:=by rfl) (hs:∀x,foldedSetIterable iter X.env x=pure x:=by intro _;rfl) (ho:Ac W.pin i:=by intro _ z;first|(cases z;done)|exact absurd (dN z).1 (by decide)|(simp at z;done)):
 DS X W rk (.Assign [.Name y py] (.ListComp elt [⟨tg,iter,ifs,0⟩] scope pos) spos) (gG i (Oc mi g mt me (own.map (·.2)))):=PS.imp (ps_setLc (tt:=Tz X.K W0 mt) (te:=Bp X.K W0 .dat me) hc hN hy hyl hsw hi ok hg ht he hs) fun E σ H ⟨Hf,Hb,ρ,R,h⟩=>by
 refine abP hG ⟨Hf,Hb,ρ,R,fun d hd v Hb' H' g r=> ?_,fun c hc Hb' H' g=> ?_,fun z=> ?_⟩
 ·simp only [gG,hd] at h
  have hl:∃ds,d= .list ds:=by
   unfold Oc at hd
   split at hd
   ·rename_i ds hds
    rcases Mp _ mt me ds [] (rM ρ (own.map (·.2))) with z|⟨es,z⟩
    ·rw [z] at hd
     cases hd
    ·rw [z] at hd
     cases hd
     exact⟨es,rfl⟩
   ·cases hd
   ·cases hd
  obtain⟨ds,rfl⟩:=hl
  obtain⟨Hb2,g2,r2⟩:=Rs.frz g r
  exact h _ Hb2 H' ((R.gw g2).MJ ho r2) (g2.bw R.ef)
 ·simp only [gG,hc] at h
  exact h _ Hb' H' (R.gw g) (g.bw R.ef)
 ·simp only [gG,z] at h
  exact h
end
end DL
namespace DL
open PySem L2 Evl
def S8:D→ER
 | .int i=> .ok (.int (-i))
 |_=> .bad
def Dq(g:D→ER)(m:EM):EM:=fun ρ=>(m ρ).bind g
theorem Xa{X:Cx}{W:WQ}{a:Expr}{m:EM}{pos:Pos}(h:DE X W .bor a m):DE X W .dat (.UnaryOp .USub a pos) (Dq S8 m):=PE.imp (pe_un un_neg h) fun σ H Q ⟨Hf,Hb,ρ,R,h1,h2,h3⟩=>by
 refine⟨Hf,Hb,ρ,R,fun d hd v Hb1 H1 g1 r1=> ?_,fun c hc=>h2 c (by simp [Dq,hc,ER.bind]),fun z=>h3 (by simp [Dq,z,ER.bind])⟩
 cases d with
 |int i=>exact⟨i,Bo.int r1,h1 (.int (-i)) (by simp [Dq,hd,ER.bind,S8]) _ Hb1 H1 g1 pN⟩
 |_=>exact absurd (by simp [Dq,hd,ER.bind,S8]) h3
def Ez(neg:Bool):D→D→ER
 | .str x, .str z=>(match x.cps.toList with
   |[c]=> .ok (.bool (if neg then !decide (c∈z.cps.toList) else decide (c∈z.cps.toList)))
   |_=> .bad)
 |_,_=> .bad
theorem Yp(neg:Bool):kh (Ez neg):=fun x y c h=>by
 cases x<;>cases y<;>simp only [Ez] at h<;>first|cases h;done|(split at h<;>cases h)
theorem ZV{x:Str}{c:Nat}(h:x.cps.toList=[c]):x=⟨#[c]⟩:=by
 obtain⟨a⟩:=x
 obtain⟨l⟩:=a
 have e:l=[c]:=h
 rw [e]
section
variable{X:Cx}
theorem afv:Ds X (compareOp .In) .dat (Ez false):=by
 intro pins s σ H x y v u Q I rx ry h
 obtain⟨Hb,dx,dy,d,eb,bx,byy,hg,q⟩:=h
 cases dx<;>cases dy<;>simp only [Ez] at hg<;>first|cases hg;done|skip
 split at hg
 ·rename_i c hc
  cases hg
  exact op_in_sign pins s σ H x y v u Q I rx ry ⟨c,_,by rw [bx.str,ZV hc],byy.str,q _ Hb H (Gw.refl eb) lQ⟩
 ·cases hg
theorem PN:Ds X (compareOp .NotIn) .dat (Ez true):=by
 intro pins s σ H x y v u Q I rx ry h
 obtain⟨Hb,dx,dy,d,eb,bx,byy,hg,q⟩:=h
 cases dx<;>cases dy<;>simp only [Ez] at hg<;>first|cases hg;done|skip
 split at hg
 ·rename_i c hc
  cases hg
  exact op_notIn_sign pins s σ H x y v u Q I rx ry ⟨c,_,by rw [bx.str,ZV hc],byy.str,q _ Hb H (Gw.refl eb) lQ⟩
 ·cases hg
end
def Cu:D→Bool
 | .none=>true
 | .bool _=>true
 | .int _=>true
 | .str _=>true
 |_=>false
def vOf:D→V
 | .bool b=> .bl b
 | .int i=> .int i
 | .str x=> .str x
 |_=> .non
def WT(neg:Bool):D→D→ER
 |x, .tuple ds=>if Cu x&&ds.all Cu then .ok (.bool (if neg then !inV (vOf x) (ds.map vOf) else inV (vOf x) (ds.map vOf))) else .bad
 |x, .list ds=>if Cu x&&ds.all Cu then .ok (.bool (if neg then !inV (vOf x) (ds.map vOf) else inV (vOf x) (ds.map vOf))) else .bad
 |_,_=> .bad
theorem afM(neg:Bool):kh (WT neg):=fun x y c h=>by
 cases y<;>simp only [WT] at h<;>first|cases h;done|(split at h<;>cases h)
theorem acR{K:ao}{H:Hp}{v:V}{d:D}(h:Cu d=true)(r:Dr K H v d):v=vOf d∧flatV v=true:=by
 cases r<;>simp [Cu] at h<;>exact⟨rfl,rfl⟩
theorem Zt{K:ao}{Hb H:Hp}{v:V}{d:D}(h:Cu d=true)(r:Bo K Hb H v d):v=vOf d∧flatV v=true:=by
 rcases r with r|⟨p,_,o,_,r⟩
 ·exact acR h r
 ·cases r<;>simp [Cu] at h
theorem Kr{K:ao}{H:Hp}:∀{vs:List V} {ds:List D},ds.all Cu=true→iV K H vs ds→vs=ds.map vOf∧vs.all flatV=true
 |_,_,_, .nil=>⟨rfl,rfl⟩
 |_,_,h, .cons a b=>by
  simp only [List.all_cons,cW] at h
  obtain⟨h1,h2⟩:=acR h.1 a
  obtain⟨h3,h4⟩:=Kr h.2 b
  exact⟨by rw [h1,h3];rfl,by simp only [List.all_cons,h2,h4];rfl⟩
section
variable{X:Cx}
theorem afJ:Ds X (compareOp .In) .dat (WT false):=by
 intro pins s σ H x y v u Q I rx ry h
 obtain⟨Hb,dx,dy,d,eb,bx,byy,hg,q⟩:=h
 cases dy<;>simp only [WT] at hg<;>first|cases hg;done|skip
 ·split at hg
  ·rename_i hz
   cases hg
   rw [cW] at hz
   obtain⟨p,xs,e1,s1,a1⟩:=byy.lst eb
   obtain⟨f1,f2⟩:=Zt hz.1 bx
   obtain⟨f3,f4⟩:=Kr hz.2 a1
   refine op_in_seq pins s σ H x y v u Q I rx ry ⟨p,xs,e1, .inl s1,f2,f4,?_⟩
   rw [f1,f3]
   exact q _ Hb H (Gw.refl eb) lQ
  ·cases hg
 ·split at hg
  ·rename_i hz
   cases hg
   rw [cW] at hz
   obtain⟨p,xs,e1,s1,a1⟩:=byy.tup eb
   obtain⟨f1,f2⟩:=Zt hz.1 bx
   obtain⟨f3,f4⟩:=Kr hz.2 a1
   refine op_in_seq pins s σ H x y v u Q I rx ry ⟨p,xs,e1, .inr s1,f2,f4,?_⟩
   rw [f1,f3]
   exact q _ Hb H (Gw.refl eb) lQ
  ·cases hg
end
def eS0(f:Str→D)(m:EM):EM:=fun ρ=>(m ρ).bind fun d=>match d with
 | .str z=> .ok (f z)
 |_=> .bad
section
variable{X:Cx}{W:WQ}{o e:Expr}{m n:EM}{apos pos:Pos}
theorem aci{id:String}{name:Str}(f:Str→Bool)(slot:Slot "str" name id)(ty:typeOf (.builtin id)=pure (.type "method_descriptor"))(rule:MtR X id (fun x xs H Q=>∃a,x= .str a∧xs=[]∧True∧Q (.bl (f a)) H))(ho:DE X W .bor o m)
 (hbase:attributeBase o name X.env (eval o X.env)=eval o X.env:=by rfl) (hline:(apos.endLine==pos.line)=true:=by rfl):DE X W .dat (.Call (.Attribute o name apos) [] [] pos) (eS0 (fun z=> .bool (f z)) m):=
 PE.imp (pe_m0 slot ty rule ho hbase hline) fun σ H Q ⟨Hf,Hb,ρ,R,h1,h2,h3⟩=>by
  refine⟨Hf,Hb,ρ,R,fun d hd v Hb1 H1 g1 r1=> ?_,fun c hc=>h2 c (by simp [eS0,hc,ER.bind]),fun z=>h3 (by simp [eS0,z,ER.bind])⟩
  cases d with
  |str z=>
   have e1:=Bo.str r1
   exact⟨⟨z,e1⟩,z,e1,rfl,trivial,h1 (.bool (f z)) (by simp [eS0,hd,ER.bind]) _ Hb1 H1 g1 lQ⟩
  |_=>exact absurd (by simp [eS0,hd,ER.bind]) h3
end
end DL
namespace DL
open PySem L2 Evl
def keyOf:D→Option Key
 | .int i=>some (.inl i)
 | .str x=>some (.inr x)
 |_=>none
theorem yN(k:Key):keyOf (keyD k)=some k:=by cases k<;>rfl
def Gu:List (D×D)→Bool
 |(.none,_)::_=>false
 |(.bool _,_)::_=>false
 |_=>true
def pC(ds:List (D×D))(k:Key):Option D:=(ds.find? fun q=>decide (keyOf q.1=some k)).map (·.2)
def oX(ds:List (D×D))(k:Key)(v:D):List (D×D):=
 if(ds.any fun q=>decide (keyOf q.1=some k))=true then ds.map (fun q=>if keyOf q.1=some k then(q.1,v) else q) else ds++[(keyD k,v)]
abbrev PK(K:ao)(Hb:Hp):List (Key×V)→List (D×D)→Prop:=Paired (fun(p:Key×V) (q:D×D)=>q.1=keyD p.1∧Dr K Hb p.2 q.2)
section
variable{K:ao}{Hb H:Hp}
theorem FJ{k:Key}:∀{kvs:List (Key×V)} {ds:List (D×D)},PK K Hb kvs ds→(valV kvs k=none∧pC ds k=none)∨∃v d,valV kvs k=some v∧pC ds k=some d∧Dr K Hb v d
 |_,_, .nil=> .inl ⟨rfl,rfl⟩
 |_,_, .cons (a:=p) (b:=q) (l₁:=kvs) (l₂:=ds) h r=>by
  have e:keyOf q.1=some p.1:=by rw [h.1,yN]
  by_cases z:p.1=k
  ·refine .inr ⟨p.2,q.2,valV_pos z,?_,h.2⟩
   have e2:keyOf q.1=some k:=by rw [e,z]
   simp [pC,dO,e2]
  ·have e2:¬keyOf q.1=some k:=by
    rw [e]
    exact fun w=>z (Option.some.inj w)
   have e3:pC (q::ds) k=pC ds k:=by simp [pC,dO,e2]
   rw [valV_neg z,e3]
   exact FJ r
theorem ac3{k:Key}:∀{kvs:List (Key×V)} {ds:List (D×D)},PK K Hb kvs ds→(kvs.any fun kv=>decide (kv.1=k))=ds.any fun q=>decide (keyOf q.1=some k)
 |_,_, .nil=>rfl
 |_,_, .cons (a:=p) (b:=q) h r=>by
  have e:keyOf q.1=some p.1:=by rw [h.1,yN]
  rw [dY,dY,ac3 r,e]
  congr 1
  simp
theorem acE{k:Key}{v:V}{d:D}(hv:Dr K Hb v d):∀{kvs:List (Key×V)} {ds:List (D×D)},PK K Hb kvs ds→PK K Hb (kvs.map fun kv=>if kv.1=k then(kv.1,v) else kv) (ds.map fun q=>if keyOf q.1=some k then(q.1,d) else q)
 |_,_, .nil=> .nil
 |_,_, .cons (a:=p) (b:=q) h r=>by
  have e:keyOf q.1=some p.1:=by rw [h.1,yN]
  rw [aZ,aZ]
  refine .cons ?_ (acE hv r)
  by_cases z:p.1=k
  ·rw [if_pos z,if_pos (by rw [e,z])]
   exact⟨h.1,hv⟩
  ·rw [if_neg z,if_neg (by rw [e];exact fun w=>z (Option.some.inj w))]
   exact h
theorem CK{α β:Type}{F:α→β→Prop}:∀{l l' :List α} {m m' :List β},Paired F l m→Paired F l' m' →Paired F (l++l') (m++m')
 |_,_,_,_, .nil,h=>h
 |_,_,_,_, .cons a b,h=> .cons a (CK b h)
theorem ab4{k:Key}{v:V}{d:D}(hv:Dr K Hb v d){kvs:List (Key×V)}{ds:List (D×D)}(h:PK K Hb kvs ds):PK K Hb (putK kvs k v) (oX ds k d):=by
 unfold putK oX
 rw [ac3 h]
 split
 ·exact acE hv h
 ·exact CK h (.cons ⟨rfl,hv⟩ .nil)
theorem aby{kvs:List (Key×V)}{ds:List (D×D)}(h:PK K Hb kvs ds):kvs.length=ds.length:=Paired.length h
theorem Bo.key{v:V}{d:D}{k:Key}(h:Bo K Hb H v d)(e:keyOf d=some k):v=kV k:=by
 cases d with
 |int i=>
  cases e
  exact h.int
 |str x=>
  cases e
  exact h.str
 |_=>cases e
theorem QZ{K:ao}{Hb:Hp}:∀{ds:List (D×D)} {kvs:List (Key×V)},Oh K Hb kvs ds→PK K Hb kvs ds
 |_,_, .nil=> .nil
 |_,_, .cons a b=> .cons ⟨rfl,a⟩ (QZ b)
theorem Bo.dict{v:V}{ds:List (D×D)}(e:Ex Hb H)(h:Bo K Hb H v (.dict ds))(hm:Gu ds=true):∃p kvs,v= .ref p∧Rd H p (.dK kvs)∧PK K Hb kvs ds:=by
 rcases h with h|⟨p,rfl,o,h2,h3⟩
 ·cases h with
  |dict0 a=>exact⟨_,[],rfl,ex_rd e a, .nil⟩
  |FW a b=>exact⟨_,_,rfl, .inr ⟨_,e _ _ a⟩,QZ b⟩
  |IV a b=>cases hm
  |G5 a g b=>cases hm
 ·cases h3 with
  |dK a=>exact⟨p,_,rfl,h2.rd,a⟩
  |dT a=>cases hm
end
def jr:D→D→ER
 | .dict ds,k=>if Gu ds=true then(match keyOf k with
   |some k=>(match pC ds k with
    |some v=> .ok v
    |none=> .bad)
   |none=> .bad) else .bad
 |_,_=> .bad
def wU(neg:Bool):D→D→ER
 |k, .dict ds=>if Gu ds=true then(match keyOf k with
  |some k=> .ok (.bool ((pC ds k).isSome !=neg))
  |none=> .bad) else .bad
 |_,_=> .bad
theorem adI:kh jr:=fun x y c h=>by
 cases x<;>simp only [jr] at h<;>(repeat' split at h)<;>cases h
theorem abf(b:Bool):kh (wU b):=fun x y c h=>by
 cases y<;>simp only [wU] at h<;>(repeat' split at h)<;>cases h
section
variable{X:Cx}{W:WQ}{a b o e f:Expr}{ma mb mc:EM}{pos apos cpos:Pos}
theorem Iu{K:ao}{Hb:Hp}{k:Key}{kvs:List (Key×V)}{ds:List (D×D)}(h:PK K Hb kvs ds):(valV kvs k).isSome=(pC ds k).isSome:=by
 rcases FJ (k:=k) h with⟨h1,h2⟩|⟨v,d,h1,h2,_⟩<;>rw [h1,h2]<;>rfl
theorem afr(hu:X.A.units+64<cLine):Ds X (compareOp .In) .dat (wU false):=by
 intro pins s σ H x y v u Q I rx ry h
 obtain⟨Hb,dx,dy,d,eb,bx,byy,hg,q⟩:=h
 cases dy with
 |dict ds=>
  have hm:Gu ds=true:=by
   cases qm:Gu ds with
   |true=>rfl
   |false=>simp [wU,qm] at hg
  simp only [wU,hm,if_true] at hg
  split at hg
  ·rename_i k hk
   cases hg
   obtain⟨p,kvs,rfl,hd,pk⟩:=byy.dict eb hm
   rw [bx.key hk] at rx
   cases(show u=Value.ref p from ry)
   refine d_in (o:=valV kvs k) (by omega) I (.inl ⟨kvs,k,hd,rfl,rfl⟩) rx fun s' I' => ?_
   rw [Iu pk]
   exact⟨.bl (pC ds k).isSome,H,I',rfl,by
    have:=q (.bl (pC ds k).isSome) Hb H (Gw.refl eb)
    rw [Bool.bne_false] at this
    exact this lQ⟩
  ·cases hg
 |_=>cases dx<;>simp [wU] at hg
theorem aan(hu:X.A.units+64<cLine):Ds X (compareOp .NotIn) .dat (wU true):=by
 intro pins s σ H x y v u Q I rx ry h
 obtain⟨Hb,dx,dy,d,eb,bx,byy,hg,q⟩:=h
 cases dy with
 |dict ds=>
  have hm:Gu ds=true:=by
   cases qm:Gu ds with
   |true=>rfl
   |false=>simp [wU,qm] at hg
  simp only [wU,hm,if_true] at hg
  split at hg
  ·rename_i k hk
   cases hg
   obtain⟨p,kvs,rfl,hd,pk⟩:=byy.dict eb hm
   rw [bx.key hk] at rx
   cases(show u=Value.ref p from ry)
   refine d_notIn (o:=valV kvs k) (by omega) I (.inl ⟨kvs,k,hd,rfl,rfl⟩) rx fun s' I' => ?_
   rw [Iu pk]
   exact⟨.bl (!(pC ds k).isSome),H,I',rfl,by
    have:=q (.bl (!(pC ds k).isSome)) Hb H (Gw.refl eb)
    rw [Bool.bne_true] at this
    exact this lQ⟩
  ·cases hg
 |_=>cases dx<;>simp [wU] at hg
theorem nD(hu:X.A.units+64<cLine)(ha:DE X W .bor a ma)(hb:DE X W .bor b mb)(hs:NoSl b:=by exact fun _ _=>rfl):DE X W .dat (.Subscript a b pos) (eV jr ma mb):=PE.imp (pe_dget (by omega) ha hb hs) fun σ H Q ⟨Hf,Hb,ρ,R,h1,h2,h3⟩=>by
 refine⟨Hf,Hb,ρ,R,fun d hd v Hb1 H1 g1 r1=> ?_,fun c hc Hb1 H1 g1=>h2 c (by simp [eV,hc,ER.bind]) Hb1 H1 g1,fun z=>h3 (by simp [eV,z,ER.bind])⟩
 refine⟨Hf,Hb1,ρ,R.gw g1,fun d2 hd2 v2 Hb2 H2 g2 r2=> ?_,fun c hc Hb2 H2 g2=>h2 c (by simp [eV,hd,hc,ER.bind]) Hb2 H2 (g1.trans g2),fun z=>h3 (by simp [eV,hd,z,ER.bind])⟩
 have e:eV jr ma mb ρ=jr d d2:=by simp [eV,hd,hd2,ER.bind]
 rw [e] at h1 h3
 cases d with
 |dict ds=>
  have hm:Gu ds=true:=by
   cases qm:Gu ds with
   |true=>rfl
   |false=>exact absurd (by simp [jr,qm]) h3
  cases hk:keyOf d2 with
  |none=>exact absurd (by simp only [jr,hm,if_true,hk]) h3
  |some k=>
   obtain⟨p,kvs,rfl,hd,pk⟩:=Bo.dict g2.bh (Bo.ex g2.b g2.h r1) hm
   rcases FJ (k:=k) pk with⟨z1,z2⟩|⟨v,d,z1,z2,z3⟩
   ·exact absurd (by simp only [jr,hm,if_true,hk,z2]) h3
   ·exact⟨p,v,rfl, .inl ⟨kvs,k,hd,r2.key hk,z1.symm⟩,h1 d (by simp only [jr,hm,if_true,hk,z2]) v Hb2 H2 (g1.trans g2) z3⟩
 |_=>exact absurd rfl h3
def Ja:D→D→ER
 | .dict ds,k=>if Gu ds=true then(match keyOf k with
   |some k=> .ok ((pC ds k).getD .none)
   |none=> .bad) else .bad
 |_,_=> .bad
theorem aeW{H:Hp}{p:Addr}{kvs:List (Key×V)}(h:Rd H p (.dK kvs)):IsD H p:= .inl ⟨kvs,h⟩
theorem Bs:DE X W .new (.Dict [] [] pos) (eC (.dict [])):=PE.imp pe_dnewK fun σ H Q ⟨Hf,Hb,ρ,R,h1,h2,h3⟩=>fun p hp=>
 h1 (.dict []) rfl _ _ _ (Gw.new R.eb hp) ⟨p,rfl,hp,fresh_back R.eb hp,_,upd_same, .dK .nil⟩
def eD1(mk mv:EM):EM:=fun ρ=>(mk ρ).bind fun k=>(mv ρ).bind fun v=>(match keyOf k with
 |some _=> .ok (.dict [(k,v)])
 |none=> .bad)
theorem agb{k v:Expr}{mk mv:EM}(hk:DE X W .bor k mk)(hv:DE X W .dat v mv):DE X W .new (.Dict [some k] [v] pos) (eD1 mk mv):=
 PE.imp (pe_disp (pps_cons hk hv pps_nil) rfl rfl (by simp) (by simp)) fun σ H Q ⟨Hf,Hb,ρ,R,h1,h2,h3⟩=>by
 intro p hp
 have g0:=Gw.new (o:= .dK []) R.eb hp
 have hb0:Hb p=none:=fresh_back R.eb hp
 refine⟨Hf,Hb,ρ,R.gw g0,fun d hd x Hb1 H1 g1 r1=> ?_,fun c hc Hb1 H1 g1=>h2 c (by simp [eD1,hc,ER.bind]) Hb1 H1 (g0.trans g1),fun z=>h3 (by simp [eD1,z,ER.bind])⟩
 refine⟨Hf,Hb1,ρ,R.gw (g0.trans g1),fun d2 hd2 y Hb2 H2 g2 r2=> ?_,fun c hc Hb2 H2 g2=>h2 c (by simp [eD1,hd,hc,ER.bind]) Hb2 H2 ((g0.trans g1).trans g2),fun z=>h3 (by simp [eD1,hd,z,ER.bind])⟩
 cases hk:keyOf d with
 |none=>exact absurd (by simp [eD1,hd,hd2,hk,ER.bind]) h3
 |some k=>
  have gg:=(g0.trans g1).trans g2
  have hp2:H2 p=some (.dK []):=(g1.trans g2).h _ _ upd_same
  have hb2:Hb2 p=none:=(g1.trans g2).nw p hb0 (by rw [upd_same];exact True.intro)
  refine⟨hp2,[(k,y)],by rw [aZ,dR,r1.key hk],by simp,?_⟩
  have kd:d=keyD k:=by
   cases d with
   |int i=>cases hk;rfl
   |str i=>cases hk;rfl
   |_=>cases hk
  refine h1 (.dict [(d,d2)]) (by simp [eD1,hd,hd2,hk,ER.bind]) _ Hb2 _ ⟨fun a u q=>by rw [upd_ne (ne_of_none q hp)];exact gg.h a u q,gg.b,fun a u q=>by rw [upd_ne (ne_of_none q hb2)];exact gg.bh a u q,gg.nw⟩ ⟨p,rfl,hp,hb2,_,upd_same, .dK ?_⟩
  exact .cons ⟨kd,r2⟩ .nil
def mX(i:Nat)(mk mv:EM):SM:=fun ρ=>match mv ρ with
 | .ok d=>(match ρ[i]? with
   |some (.own (.dict ds))=>if Gu ds=true then(match mk ρ with
    | .ok k=>(match keyOf k with
      |some k=>if ds.length<sizeLine then .nx (ρ.set i (.own (.dict (oX ds k d)))) else .bad
      |none=> .bad)
    | .ex c=> .ex c ρ
    | .bad=> .bad) else .bad
   |_=> .bad)
 | .ex c=> .ex c ρ
 | .bad=> .bad
theorem xU{rk:Kd}(i:Nat){x:Str}{k v:Expr}{mk mv:EM}{p pos' :Pos}(hu:X.A.units+64<cLine)(hk:DE X W .bor k mk)(hv:DE X W .dat v mv)(hN:X.N[i]? =some x:=by rfl)(hvis:Vis X.env.scope x:=by first|exact Or.inl rfl|exact Or.inr (Or.inl rfl)|exact Or.inr (Or.inr rfl))(hd:(x==("__debug__":Str))=false:=by decide)
 (hcd:(x==("__classdict__":Str))=false:=by decide) (hs:swapsWith v (some (.Subscript (.Name x p) k pos')) pos.line X.env=pure false:=by rfl):DS X W rk (.Assign [.Subscript (.Name x p) k pos'] v pos) (mX i mk mv):=
 PS.imp (ps_dput (by omega) (pe_var hN hvis hd hcd) hk hv hs) fun E σ H ⟨Hf,Hb,ρ,R,h⟩=>by
 unfold mX at h
 refine⟨Hf,Hb,ρ,R,fun d hd v Hb1 H1 g1 r1=> ?_,fun c hc Hb1 H1 g1=> ?_,fun z=> ?_⟩
 ·rw [hd] at h
  simp only at h
  split at h
  ·rename_i ds q
   have hm:Gu ds=true:=by
    cases qm:Gu ds with
    |true=>rfl
    |false=>simp [qm,pU] at h
   simp only [hm,if_true] at h
   have R1:=R.gw g1
   obtain⟨p,h1,⟨o,ho,hc⟩,h3,h4⟩:=R1.own i _ q
   cases hc with
   |dT al=>cases hm
   |dK al=>
    refine⟨_,h1,Hf,Hb1,ρ,R1,fun d2 hd2 y Hb2 H2 g2 r2=> ?_,fun c hc Hb2 H2 g2=> ?_,fun z=> ?_⟩
    ·rw [hd2] at h
     simp only at h
     split at h
     ·rename_i kk hkk
      split at h
      ·rename_i hz
       have ho' :=g2.h _ _ ho
       have R2:=R1.gw g2
       have hb2:Hb2 p=none:=g2.nw p h4 (by rw [ho];exact True.intro)
       have al2:PK X.K Hb2 _ ds:=Paired.imp (fun _ _ q=>⟨q.1,nq g2.b q.2⟩) al
       refine⟨p,_,rfl, .inl ⟨_,kk,ho',r2.key hkk,by rw [aby al];exact hz,rfl⟩,?_⟩
       exact h σ Hb2 _ (R2.write q h1 (.dK (ab4 (nq g2.b r1) al2))) (((g1.trans g2).bw R.ef).trans (Bw.upd g2.bh hb2))
      ·exact h.elim
     ·exact h.elim
    ·rw [hc] at h
     exact h σ Hb2 H2 (R.gw (g1.trans g2)) ((g1.trans g2).bw R.ef)
    ·rw [z] at h
     exact h.elim
  ·exact h.elim
 ·rw [hc] at h
  exact h σ Hb1 H1 (R.gw g1) (g1.bw R.ef)
 ·rw [z] at h
  exact h.elim
end
end DL
set_option maxHeartbeats 2000000
namespace DL
open PySem L2 Evl PyProof.Rows
def afp(td:TE):TE:=fun σ H Q=>td σ H fun x H1=>∃(a:Addr) (kvs:List (Key×V)) (ks:List Int),x= .ref a∧Rd H1 a (.dK kvs)∧kvs.map (·.1)=ks.map Sum.inl∧
 ∀(ys:List Int) (p:Addr),ys.Perm ks→ys.Pairwise (·≤·)→H1 p=none→Q (.ref p) (upd H1 p (.lst (ys.map V.int)))
theorem Uh{X:Cx}{e:Expr}{td:TE}{p pos apos cpos:Pos}(hc:X.calm=true)(hg:Gl X "sorted")(hm:X.mg "sorted"=none)(he:PE X e td)(hbase:attributeBase e "keys" X.env (eval e X.env)=eval e X.env:=by rfl)
 (hline:(apos.endLine==cpos.line)=true:=by rfl) (na:starEach [.Call (.Attribute e "keys" apos) [] [] cpos] X.env=(false,eval (.Call (.Attribute e "keys" apos) [] [] cpos) X.env)::starEach [] X.env:=by rfl)
 (hpl:(backTo pos (starEach [] X.env)).any (·.1)=false:=by rfl):
 PE X (.Call (.Name "sorted" p) [.Call (.Attribute e "keys" apos) [] [] cpos] [] pos) (afp td):=by
 refine⟨fun pins s σ H Q I h=> ?_⟩
 refine Call_ (ld_blt I hg hm (show bootBuiltins "sorted"=some (.builtin "sorted") by decide+kernel) (PyProof.Rows.callWith_builtin1 (args_cons ?_ na) na hpl))
 refine wpAny_Call_method (T:="dict") (id:="dict.keys") hbase rfl hline F.plainAttrs_dict F.slot_dict_keys F.type_dict_keys (thn (he.run pins s σ H _ I h) fun u s1 ⟨x,H1,I1,rx,d,kvs,ks,ex,hd,hks,q⟩=> ?_)
 subst ex
 obtain rfl:u=Value.ref d:=rx
 obtain⟨z,lo,vs,rel,dd⟩:=dk_rd I1.hok hd
 refine⟨dd.typeIs,dd.mapOf.noDict,?_⟩
 show wpAny _ _ (callWith cpos (.builtin "dict.keys") [.ref d] [] []) _ X.xe s1
 refine method_meetsIn F.slot_dict_keys F.entry_dict_keys rfl (PySem.evalArgs_none ⟨rfl,dd.typeIs,F.args_dict_keys_1 _,_,PySem.W.kdl_meets_keys (mixKind X.prog X.w) d lo,⟨vs,dd⟩,args_nil ?_⟩)
 have I2:Inv X pins σ H1 {s1 with heap:=s1.heap.push {cls:= .type "dict_keys",data:= .fields #[.ref d]}}:=I1.kept (t' :=s1.toks) fun b ob q=>Heap.get?_push_of_some _ q
 have hv:PySem.W.KdlKeysView (s1.heap.push {cls:= .type "dict_keys",data:= .fields #[.ref d]}) s1.heap.objs.size d:=⟨_,Heap.get?_push_size _ rfl,rfl,rfl⟩
 obtain⟨z2,lo2,vs2,rel2,dd2⟩:=dk_rd I2.hok hd
 obtain⟨ep,hat⟩:=dd2.dictAt
 have hkeys:vs2.map (·.1)=ks.map Sum.inl:=rel2.keys.symm.trans hks
 have hl:vs2.length=ks.length:=by
  have e:=congrArg List.length hkeys
  rw [aA,aA] at e
  exact e
 have hl2:kvs.length=vs2.length:=rel2.length
 have h16:vs2.length≤sizeLine:=by rw [←hl2];exact z2
 refine Calls.call_function_entry PyProof.Rows.kind_sorted PyProof.Rows.plain_sorted PyProof.Rows.entry_sorted (PyProof.Rows.args_sorted1 _) ?_
 unfold Builtin.«sorted»
 refine wpAny_bind (m:=checkCount "sorted" 1 1 _) (wpAny_pure ?_)
 refine wpAny_bind (PySem.W.kdu_collect (A:=X.A.in1) (PySem.W.kdl_keys (knd:=mixKind X.prog X.w) (kvs:=vs2) (ep:=ep) (r:=s1.heap.objs.size) (d:=d)) (I2.ok.hd hc) ⟨hv,hat⟩ h16 fun h' tk acc hk hacc=> ?_)
 have hal:acc.toList.length=ks.length:=by rw [cY,hacc.1,hl]
 have hS:IntsAre acc.toList ks:=ints_each hal fun j v e=>by
  obtain⟨k,x,e1,e2⟩:=hacc.2 j v (by rw [←Array.getElem?_toList];exact e)
  have e3:(vs2.map (·.1))[j]? =some k:=by rw [aH,e1];rfl
  rw [hkeys,aH] at e3
  cases e4:ks[j]? with
  |none=>rw [e4] at e3;cases e3
  |some y=>
   rw [e4] at e3
   have e5:Sum.inl y=k:=Option.some.inj e3
   subst e5
   rcases keyIs_shape (show keyIs (Sum.inl y) v=true from e2) with⟨i,t,ek,ev⟩|⟨z,t,ek,ev⟩
   ·cases ek
    exact⟨y,t,rfl,ev⟩
   ·cases ek
 have I3:Inv X pins σ H1 {s1 with heap:=h',toks:=tk}:=I2.kept (t' :=tk) hk
 have hz:acc.toList.length≤sizeLine:=by rw [hal,←hl];exact h16
 refine wpAny_bind (wpAny_newList ?_ hz)
 have hoL:(h'.push (seqObj "list" acc.toList.toArray 0)).get? h'.objs.size=some (seqObj "list" acc.toList.toArray 0):=Heap.get?_push_size _ rfl
 show wpAny _ _ _ _ _ {s1 with heap:=h'.push (seqObj "list" acc.toList.toArray 0),toks:=tk}
 refine wpAny_bind (wpAny_holding (wpAny_call_entry PyProof.Rows.slot_list_sort ⟨_,hoL,rfl⟩ PyProof.Rows.entry_list_sort
  (SrtO.list_sort_ord (s:={s1 with heap:=h'.push (seqObj "list" acc.toList.toArray 0),toks:=tk}) SrtO.swo_int hoL hz (fun h2=>SrtO.ints_sortable hS h2) fun out h1 h2=>⟨_,rfl,?_⟩) (PyProof.Rows.args_list_sort _)))
 obtain⟨k1,k2,k3⟩:=SrtO.ints_out hS h1 h2
 obtain⟨e',he'⟩:=PyProof.Rows.sortedHeap_at (vs:=acc.toList) (out:=out.toArray) hoL
 have hlen:((out.map SrtO.iv).map V.int).length≤sizeLine:=by
  rw [aA,k2.length_eq,←hal]
  exact hz
 refine wpAny_pure ⟨_,rfl, .ref h'.objs.size,upd H1 h'.objs.size (.lst ((out.map SrtO.iv).map V.int)),I3.laid (t' :=tk) (fun b u e=> ?_) (bA _)
  (show ObjOk X.prog X.w _ _ _ (.lst ((out.map SrtO.iv).map V.int)) from⟨hlen,out,e',vals_of_ints k1,he'⟩),rfl,q _ _ k2 k3 (I3.hok.fresh (bA _))⟩
 have hb:b<h'.objs.size:=Heap.lt_size e
 rw [PyProof.Rows.sortedHeap_old (Nat.ne_of_lt hb) (by rw [size_push'];exact Nat.lt_succ_of_lt hb)]
 exact Heap.get?_push_of_some _ e
theorem Aj:∀{l m:List Int},l.Perm m→l.Pairwise (·≤·)→m.Pairwise (·≤·)→l=m
 |[],m,h,_,_=>(List.Perm.nil_eq h)
 |a::l,[],h,_,_=>by have:=h.length_eq;simp at this
 |a::l,b::m,h,h1,h2=>by
  obtain⟨p1,q1⟩:=dB.mp h1
  obtain⟨p2,q2⟩:=dB.mp h2
  have ab:a=b:=by
   have ha:a∈b::m:=h.mem_iff.mp bB
   have hb:b∈a::l:=h.mem_iff.mpr bB
   have x1:b≤a:=by
    rcases aJ.mp ha with e|e
    ·omega
    ·exact p2 a e
   have x2:a≤b:=by
    rcases aJ.mp hb with e|e
    ·omega
    ·exact p1 b e
   omega
  subst ab
  rw [Aj (List.Perm.cons_inv h) q1 q2]
def srt(ks:List Int):List Int:=ks.mergeSort (fun a b=>decide (a≤b))
theorem Wf(ks:List Int):(srt ks).Perm ks:=List.mergeSort_perm ks _
theorem MF(ks:List Int):(srt ks).Pairwise (·≤·):=by
 have h:=List.pairwise_mergeSort (le:=fun(a b:Int)=>decide (a≤b)) (fun a b c h1 h2=>by simp at*;omega) (fun a b=>by simp;omega) ks
 exact h.imp fun h=>by simpa using h
theorem ae4{ys ks:List Int}(h:ys.Perm ks)(hs:ys.Pairwise (·≤·)):ys=srt ks:=Aj (h.trans (Wf ks).symm) hs (MF ks)
def intKeys:List (D×D)→Option (List Int)
 |[]=>some []
 |(.int i,_)::r=>(intKeys r).map (i::·)
 |_::_=>none
def Ah:D→ER
 | .dict ds=>(match intKeys ds with
   |some ks=> .ok (.list ((srt ks).map aD))
   |none=> .bad)
 |_=> .bad
theorem Yy{K:ao}{Hb:Hp}:∀{kvs:List (Key×V)} {ds:List (D×D)} {ks:List Int},PK K Hb kvs ds→intKeys ds=some ks→kvs.map (·.1)=ks.map Sum.inl
 |_,_,_, .nil,h=>by
  cases h
  rfl
 |_,_,_, .cons (a:=p) (b:=q) (l₂:=ds) h r,hk=>by
  obtain⟨qk,qv⟩:=q
  obtain⟨pk,pv⟩:=p
  cases qk with
  |int i=>
   simp only [intKeys,aK] at hk
   obtain⟨ks,hk1,rfl⟩:=hk
   have e:pk= .inl i:=by
    have:=h.1
    cases pk with
    |inl j=>
     have e2:aD i=aD j:=this
     cases e2
     rfl
    |inr x=>
     have e2:aD i=aN x:=this
     cases e2
   rw [aZ,aZ,Yy r hk1,e]
  |_=>cases hk
theorem IW{K:ao}{H:Hp}:∀ns:List Int,iV K H (ns.map V.int) (ns.map aD)
 |[]=> .nil
 |n::r=> .cons (.int n) (IW r)
section
variable{X:Cx}{W:WQ}{e:Expr}{m:EM}{p pos apos cpos:Pos}
theorem abM(hm:X.mg "sorted"=none)(h:DE X W .bor e m)(hc:X.calm=true:=by rfl)(hg:Gl X "sorted":=by rfl)(hbase:attributeBase e "keys" X.env (eval e X.env)=eval e X.env:=by rfl)
 (hline:(apos.endLine==cpos.line)=true:=by rfl) (na:starEach [.Call (.Attribute e "keys" apos) [] [] cpos] X.env=(false,eval (.Call (.Attribute e "keys" apos) [] [] cpos) X.env)::starEach [] X.env:=by rfl)
 (hpl:(backTo pos (starEach [] X.env)).any (·.1)=false:=by rfl):DE X W .new (.Call (.Name "sorted" p) [.Call (.Attribute e "keys" apos) [] [] cpos] [] pos) (Dq Ah m):=
 PE.imp (Uh hc hg hm h hbase hline na hpl) fun σ H Q ⟨Hf,Hb,ρ,R,h1,h2,h3⟩=>by
  refine⟨Hf,Hb,ρ,R,fun d hd v Hb1 H1 g1 r1=> ?_,fun c hc Hb1 H1 g1=>h2 c (by simp [Dq,hc,ER.bind]) Hb1 H1 g1,fun z=>h3 (by simp [Dq,z,ER.bind])⟩
  cases d with
  |dict ds=>
   cases hk:intKeys ds with
   |none=>exact absurd (by simp [Dq,hd,ER.bind,Ah,hk]) h3
   |some ks=>
    have hm:Gu ds=true:=by
     cases ds with
     |nil=>rfl
     |cons q ds=>
      obtain⟨k,v⟩:=q
      cases k<;>first|rfl|simp [intKeys] at hk
    obtain⟨a,kvs,rfl,hd1,pk⟩:=Bo.dict g1.bh r1 hm
    refine⟨a,kvs,ks,rfl,hd1,Yy pk hk,fun ys q py sy hq=> ?_⟩
    have z:=Gw.Z6 (K:=X.K) (xs:=(srt ks).map V.int) g1.bh hq (IW (srt ks))
    rw [ae4 py sy]
    exact h1 (.list ((srt ks).map aD)) (by simp [Dq,hd,ER.bind,Ah,hk]) _ _ _ (g1.trans z.1) (z.2.back g1.h)
  |_=>exact absurd (by simp [Dq,hd,ER.bind,Ah]) h3
end
end DL
set_option maxHeartbeats 2000000
namespace DL
open PySem L2 Evl
section
variable{X:Cx}{W:WQ}{elt tg:Expr}{ifs:List Expr}{scope:Scope}{own:List (Str×Nat)}{pos:Pos}{T:TG}{g:GM}{mt me:EM}{x:Str}{p:Pos}
end
end DL
namespace DL
open PySem L2 Evl
structure nR(fa:List He.Fa)(fn:List He.DefD)(K:ao)(mg:Str→Option Value):Prop where
 says:He.SaysD fa fn K
 at_:∃h:Heap,K.In h∧h.Ns mainGlobals mg
section
variable{fa:List He.Fa}{fn:List He.DefD}{K:ao}{mg:Str→Option Value}
theorem nR.free(Z:nR fa fn K mg)(i:Nat){x:Str}(h:fa[i]? =some (.free x):=by rfl):mg x=none:=by
 obtain⟨hp,X,G⟩:=Z.at_
 exact He.free_ok X G (Z.says.fact i h)
theorem nR.glo(Z:nR fa fn K mg)(i:Nat){x:Str}(h:fa[i]? =some (.glo x):=by rfl):mg x=some (.ref (He.ga K x)):=by
 obtain⟨hp,X,G⟩:=Z.at_
 exact He.glo_ok X G (Z.says.fact i h)
theorem nR.int(Z:nR fa fn K mg)(i:Nat){x:Str}{n:Int}(h:fa[i]? =some (.int x n):=by rfl):∃t,mg x=some (.int n t):=by
 obtain⟨hp,X,G⟩:=Z.at_
 exact He.int_ok X G (Z.says.fact i h)
theorem nR.str(Z:nR fa fn K mg)(i:Nat){x z:Str}(h:fa[i]? =some (.str x z):=by rfl):∃t,mg x=some (.str z t):=by
 obtain⟨hp,X,G⟩:=Z.at_
 exact He.str_ok X G (Z.says.fact i h)
theorem nR.exc(Z:nR fa fn K mg)(i:Nat){x:Str}(h:fa[i]? =some (.exc x):=by rfl):PySem.W.excIn K (He.ga K x) He.veBase "ValueError.__new__"=true∧PySem.W.keepIn K (.ref (He.ga K x))=true∧PySem.W.subIn K (.ref (He.ga K x)) (.type "BaseException")=some true∧
 PySem.W.typeIn K (.ref (He.ga K x))=some (.type "type"):=He.exc_ok (Z.says.fact i h)
theorem nR.exm(Z:nR fa fn K mg)(i:Nat){x y:Str}{b:Bool}(h:fa[i]? =some (.exm x y b):=by rfl):PySem.W.exmOne K (.ref (He.ga K x)) (.ref (He.ga K y))=some b:=He.exm_ok (Z.says.fact i h)
end
structure Has(P:Program)(w:World)(K:ao)(mg:Str→Option Value)(base:Heap)(x:Str)(k:Nat)(ps:List Str)(sp:Sp):Prop where
 ex:∃fd,FnOk P w K mg base (L2.CX P w) k (He.ga K x) fd ps sp∧Binds K fd ps []∧∃oc od osl,K.lookup (He.ga K x)=some ⟨oc,od, .func fd,osl⟩
 kp:PySem.W.keepIn K (.ref (He.ga K x))=true
 gl:mg x=some (.ref (He.ga K x))
section
variable{X:Cx}{W:WQ}{rk:Kd}{ks:List Kd}{x:Str}{p pos:Pos}{e:Expr}{es:List Expr}{ms:List EM}{g:List D→ER}{k j:Nat}{ps:List Str}
theorem gJ(h:Has X.prog X.w X.K X.mg X.base x k ps (qL X.K ks rk g))(hr:Room j X.A)(tk:Takes X W.w)(ha:DA X W ks (e::es) ms)(hj:k≤j:=by decide)(hg:Gl X x:=by rfl)(hdb:(x==("__debug__":Str))=false:=by decide)
 (he:starEach (e::es) X.env=(false,eval e X.env)::starEach es X.env:=by rfl) (hpl:(backTo pos (starEach es X.env)).any (·.1)=false:=by rfl):DE X W rk (.Call (.Name x p) (e::es) [] pos) (fG g ms):=by
 obtain⟨fd,F,B,_⟩:=h.ex
 exact aek F (hr.mono hj) h.gl h.kp B tk ha hg hdb he hpl
end
section
variable{P:Program}{w:World}{K:ao}{mg:Str→Option Value}{base:Heap}{fa:List He.Fa}{fn:List He.DefD}
theorem iw{x:Str}{d:He.DefD}(Z:nR fa fn K mg)(i j:Nat){N ps:List Str}{k n:Nat}{ks:List Kd}{rk:Kd}{m:SM}(hd:fn[i]? =some d)(hx:d.at_=(x,none))(hdf:d.dfl=[])(hkw:d.kwd=[])(hg:fa[j]? =some (.glo x))(S:FnScope N ps d.scope)(hps:ps.length=ks.length)(hn:N.length=ks.length+n)(hrk:rk= .dat∨∀ρ ρ',m ρ≠ .nx ρ')
 (hb:∀(kV doc pm:Value) (an:Option Addr) (cdv ct:Value) (us:List Value),us.length=ps.length→bindArgs (PySem.W.fnOf d.name d.qual d.params d.body d.scope .none kV doc pm an cdv ct) ⟨us,[]⟩=pure (ps.zip us))
 (hbody:∀(f:Addr) (cdv:Value) (A:Around) (outer:List PySem.Env) (s:Shared) (H:Hp) (E:XK),Room k (cxOf (L2.CX P w) P w K mg base N d.qual d.scope f cdv A outer s H E).A→Takes (cxOf (L2.CX P w) P w K mg base N d.qual d.scope f cdv A outer s H E) (fun cls d _ H=>E cls d H)→
   PassesOwn (model (cxOf (L2.CX P w) P w K mg base N d.qual d.scope f cdv A outer s H E).prog (cxOf (L2.CX P w) P w K mg base N d.qual d.scope f cdv A outer s H E).w) (cxOf (L2.CX P w) P w K mg base N d.qual d.scope f cdv A outer s H E).A (cxOf (L2.CX P w) P w K mg base N d.qual d.scope f cdv A outer s H E).env (cxOf (L2.CX P w) P w K mg base N d.qual d.scope f cdv A outer s H E).xe→
   DSs (cxOf (L2.CX P w) P w K mg base N d.qual d.scope f cdv A outer s H E) ⟨fun cls d _ H=>E cls d H,[]⟩ rk d.body m):
 Has P w K mg base x (k+1) ps (qL K ks rk (jF ks n m)):=by
 obtain⟨fd,F⟩:=Z.says.def_ i hd
 have ea:He.fAd K d.at_=He.ga K x:=by rw [hx];rfl
 rw [ea] at F
 have kp:=F.kp
 have e1:d.dvs K=[]:=by
  unfold He.DefD.dvs
  rw [hdf]
  rfl
 rw [e1] at F
 refine⟨⟨fd,fn_ok F S hps hn hrk (fun cdv A outer s H E hr=>hbody _ cdv A outer s H E hr (takes_of rfl rfl rfl rfl) PassesOwn.leaving),F.bindsN hb,?_⟩,kp,Z.glo j hg⟩
 obtain⟨oc,od,_,_,_,_,_,_,_,osl,_,l,_⟩:=F.ex
 exact⟨oc,od,osl,l⟩
theorem afC{x:Str}{d:He.DefD}(Z:nR fa fn K mg)(i:Nat){p:Str}{k:Nat}{sp:Sp}(hd:fn[i]? =some d)(hx:d.at_=(x,none))(hdf:d.dfl=[])(hh:∀base:Heap,Has P w K mg base x k [p] sp)
 (hb:∀(kV doc pm:Value) (an:Option Addr) (cdv ct:Value) (us:List Value),us.length=[p].length→bindArgs (PySem.W.fnOf d.name d.qual d.params d.body d.scope .none kV doc pm an cdv ct) ⟨us,[]⟩=pure ([p].zip us)):
 ∃fd:FuncData,(∀(s:Shared) (v:Value),BindsTo s fd ⟨[v],[]⟩ [(p,v)])∧∀base:Heap,FnOk P w K mg base (L2.CX P w) k (He.ga K x) fd [p] sp:=by
 obtain⟨fd,F⟩:=Z.says.def_ i hd
 have ea:He.fAd K d.at_=He.ga K x:=by rw [hx];rfl
 rw [ea] at F
 have e1:d.dvs K=[]:=by
  unfold He.DefD.dvs
  rw [hdf]
  rfl
 rw [e1] at F
 refine⟨fd,fun s v=>F.bindsA (ps:=[p]) hb s [v] rfl,fun base=> ?_⟩
 obtain⟨fd2,F2,_,oc,od,osl,l2⟩:=(hh base).ex
 obtain⟨oc1,od1,_,_,_,_,_,_,_,osl1,_,l1,_⟩:=F.ex
 rw [l1] at l2
 cases l2
 exact F2
end
theorem mV{a b:SM}(h:∀ρ ρ',b ρ≠ .nx ρ'):∀ρ ρ',fK a b ρ≠ .nx ρ' :=fun ρ ρ' z=>by
 unfold fK at z
 split at z
 ·exact h _ _ z
 ·rename_i hz
  exact hz _ z
theorem Ma{m:EM}:∀ρ ρ',gH m ρ≠ .nx ρ' :=fun ρ ρ' z=>by
 unfold gH at z
 split at z<;>cases z
theorem Gz{i:Nat}:∀ρ ρ',zf i ρ≠ .nx ρ' :=fun ρ ρ' z=>by
 unfold zf at z
 split at z<;>cases z
theorem MN{K:ao}{H:Hp}:∀ns:List Int,iV K H (ns.map V.int) (ns.map aD)
 |[]=> .nil
 |n::r=> .cons (.int n) (MN r)
theorem afx{K:ao}{H:Hp}{a:Addr}{ns:List Int}{m:List D→ER}(hS:SqL K H a (ns.map V.int))(hm:m [.list (ns.map aD)]= .ok (.bool true)):qL K [.dat] .dat m [.ref a] H (fun v _=>v= .bl true) fun _ _ _=>False:=by
 refine⟨H,_,Ex.refl _, .cons (Dr.lst hS (MN ns)) .nil,fun d hd v Hb' H' g r=> ?_,fun c hc=> ?_,fun z=> ?_⟩
 ·rw [hm] at hd
  cases hd
  exact Bo.bl (K:=K) (Hb:=Hb') (H:=H') (.inl r)
 ·rw [hm] at hc
  cases hc
 ·rw [hm] at z
  cases z
theorem adG{l:PySem.W.OpenLaw}{n k:Nat}{q:Program}{loose:List Str}{XP:(Str→Option Value)→Heap→Prop}{YP:World→Heap→Prop}{d:DefRec}{x:Str}
 (hm:l.most=some n) (hz:n≤sizeLine) (hdf:d.params.defaults=[]) (room:Room k callerA)
 (F:∀(w:World) (mg:Str→Option Value) (f:Addr) (h:Heap),YP w h→h.Ns mainGlobals mg→mg d.name=some (.ref f)→
   ∃(K:ao) (fd:FuncData) (sp:Sp),K.In h∧(∀(s:Shared) (u:Value),BindsTo s fd ⟨[u],[]⟩ [(x,u)])∧
    (∀(H:Hp) (a:Addr) (ns:List Int),ns.length≤n→(∀z∈ns,Builtin.Int.intBits z≤1048576)→Only H→SqL K H a (ns.map V.int)→sp [.ref a] H (fun v _=>v= .bl true) fun _ _ _=>False)∧
    ∀base:Heap,K.In base→base.Ns mainGlobals mg→FnOk l.prog w K mg base (L2.CX l.prog w) k f fd [x] sp):
 PySem.W.WalkO q loose XP YP l.row.toRowW d [] (fun f vs=>PySem.call f vs):=by
 refine Att.attach_callB hm hdf fun w sA sB mg mb f o pm cd doc a vs ns G Y ho hd hcd hmg hobj hints hlen hbits hg=> ?_
 obtain⟨K,fd,sp,inK,binds,start,keeps⟩:=F w mg f _ Y G.T.g hmg
 exact law_call inK G.T.g G.T.b G.T.builtins G.T.nolimit hg hobj hints (bf hlen hz) room keeps binds (fun H only sq=>start H a ns hlen hbits only sq)
  fun H e s' cx=>by
   obtain⟨_,_,_,_,_,_,_,_,_,_,_,_,no⟩:=cx
   exact no
end DL
namespace DL
open PySem L2 Evl
section
variable{ρ:Env}{d x y z:D}{f:D→ER}{c:Str}{g g' :D→D→ER}{m ma mb mc:EM}{s a b:SM}{i j:Nat}{ms:List EM}{G:List D→ER}
@[simp] theorem gY:(ER.ok d).bind f=f d:=Eq.trans rfl rfl
@[simp] theorem Zf:(ER.ex c).bind f= .ex c:=rfl
@[simp] theorem agC:ER.bad.bind f= .bad:=rfl
@[simp] theorem Ze:eC d ρ= .ok d:=rfl
@[simp] theorem lM:eV g ma mb ρ=(ma ρ).bind fun x=>(mb ρ).bind fun y=>g x y:=rfl
@[simp] theorem Cy {h:D→ER}:Dq h m ρ=(m ρ).bind h:=rfl
@[simp] theorem jO {r:Env}:eE 0 (.dat d::r)= .ok d:=rfl
@[simp] theorem kJ {r:Env} {t:Sl}:eE (i+1) (t::r)=eE i r:=rfl
@[simp] theorem ZS {r:Env}:gD 0 (.dat d::r)= .ok d:=rfl
@[simp] theorem vQ {r:Env}:gD 0 (.own d::r)= .ok d:=rfl
@[simp] theorem Yx {r:Env}:gD 0 (.bor d::r)= .ok d:=rfl
@[simp] theorem zJ {r:Env} {t:Sl}:gD (i+1) (t::r)=gD i r:=rfl
@[simp] theorem agL:nM [] ρ= .ok []:=rfl
@[simp] theorem Zv:fG G [] ρ=G []:=rfl
@[simp] theorem QH:fG G [ma] ρ=(ma ρ).bind fun x=>G [x]:=by
 unfold fG nM
 cases ma ρ<;>rfl
@[simp] theorem JG:fG G [ma,mb] ρ=(ma ρ).bind fun x=>(mb ρ).bind fun y=>G [x,y]:=by
 unfold fG nM nM nM
 cases ma ρ<;>cases mb ρ<;>rfl
@[simp] theorem JS:fG G [ma,mb,mc] ρ=(ma ρ).bind fun x=>(mb ρ).bind fun y=>(mc ρ).bind fun z=>G [x,y,z]:=by
 unfold fG nM nM nM nM
 cases ma ρ<;>cases mb ρ<;>cases mc ρ<;>rfl
@[simp] theorem Rj {md:EM}:fG G [ma,mb,mc,md] ρ=(ma ρ).bind fun x=>(mb ρ).bind fun y=>(mc ρ).bind fun z=>(md ρ).bind fun w=>G [x,y,z,w]:=by
 unfold fG nM nM nM nM nM
 cases ma ρ<;>cases mb ρ<;>cases mc ρ<;>cases md ρ<;>rfl
@[simp] theorem Zd {T:String}:zA T m ρ=(m ρ).bind fun d=> .ok (.bool (isT T d)):=rfl
@[simp] theorem agP {h:Str→D} {u:Str}:((ER.ok (.str u)).bind fun d=>match d with| .str z=>ER.ok (h z)|_=> .bad)= .ok (h u):=rfl
@[simp] theorem af0 {ds:List D} (h:m ρ= .ok (.list ds)):ni m ρ= .ok (.list ds):=by simp [ni,h]
@[simp] theorem agM {b:Bool} (h:m ρ= .ok (.bool b)):lV m ρ= .ok (.bool (!b)):=by simp [lV,h]
theorem rW{ρ' :Env}(h:a ρ= .nx ρ'):fK a b ρ=b ρ' :=by simp [fK,h]
theorem CZ(h:a ρ= .rt d):fK a b ρ= .rt d:=by simp [fK,h]
theorem CP(h:m ρ= .ok (.bool true)):ju m a b ρ=a ρ:=by simp [ju,h]
theorem vC(h:m ρ= .ok (.bool false)):ju m a b ρ=b ρ:=by simp [ju,h]
theorem pG(h:m ρ= .ok d):gG i m ρ= .nx (ρ.set i (.dat d)):=by simp [gG,h]
theorem ret_ok(h:m ρ= .ok d):gH m ρ= .rt d:=by simp [gH,h]
theorem Ro(h:m ρ= .ok d):qW m ρ= .nx ρ:=by simp [qW,h]
@[simp] theorem Dy:fZ ρ= .nx ρ:=rfl
@[simp] theorem set_0 {r:Env} {t u:Sl}:List.set (t::r) 0 u=u::r:=rfl
@[simp] theorem jU {r:Env} {t u:Sl}:List.set (t::r) (i+1) u=t::List.set r i u:=rfl
end
@[simp] theorem Yz (i j:Int):jw (.int i) (.int j)= .ok (.int (i+j)):=rfl
@[simp] theorem Zk (i j:Int):pH (.int i) (.int j)= .ok (.int (i-j)):=rfl
@[simp] theorem abD (i j:Int):Lj (.int i) (.int j)= .ok (.bool (decide (i<j))):=rfl
@[simp] theorem aaX (i j:Int):Oa (.int i) (.int j)= .ok (.bool (decide (i≤j))):=rfl
@[simp] theorem acS (i j:Int):TY (.int i) (.int j)= .ok (.bool (decide (j<i))):=rfl
@[simp] theorem ac8 (i j:Int):dGe (.int i) (.int j)= .ok (.bool (decide (j≤i))):=rfl
@[simp] theorem Hl (ds:List D):je [.list ds]= .ok (.int ds.length):=rfl
@[simp] theorem abH (ds:List D):je [.tuple ds]= .ok (.int ds.length):=rfl
theorem M8{z:Str}(h:z.length≤sizeLine):je [.str z]= .ok (.int z.length):=by simp [je,h]
@[simp] theorem Zq (i j:Int):Kl [.int i, .int j]= .ok (.int (min i j)):=by
 have e:(if j<i then j else i)=min i j:=by
  split<;>omega
 show ER.ok (.int (if j<i then j else i))=_
 rw [e]
@[simp] theorem YC (i j:Int):Jw [.int i, .int j]= .ok (.int (max i j)):=by
 have e:(if j>i then j else i)=max i j:=by
  split<;>omega
 show ER.ok (.int (if j>i then j else i))=_
 rw [e]
theorem FZ{i:Int}{a:Nat}(h:i.natAbs<2 ^ a):i.natAbs.log2≤a:=by
 by_cases z:i.natAbs=0
 ·rw [z]
  simp
 ·exact Nat.le_of_lt ((Nat.log2_lt z).mpr h)
theorem Zh{i j:Int}(h:i.natAbs.log2+j.natAbs.log2<wD):jZ (.int i) (.int j)= .ok (.int (i*j)):=by simp [jZ,h]
theorem Zw{i j:Int}(a b:Nat)(hi:i.natAbs<2 ^ a)(hj:j.natAbs<2 ^ b)(h:a+b<wD:=by decide):jZ (.int i) (.int j)= .ok (.int (i*j)):=
 Zh (dD (Nat.add_le_add (FZ hi) (FZ hj)) h)
theorem gR{i j:Int}(h:0<j):iz (.int i) (.int j)= .ok (.int (i%j)):=by simp [iz,h]
theorem sU{i j:Int}(h0:0≤j)(h1:j≤1000000)(h2:i.natAbs<2 ^ 64):rK (.int i) (.int j)= .ok (.int (i ^ j.toNat)):=by
 have e:rK (.int i) (.int j)=if 0≤j∧j≤1000000∧i.natAbs<2 ^ 64 then .ok (.int (i ^ j.toNat)) else .bad:=rfl
 rw [e,if_pos ⟨h0,h1,h2⟩]
theorem LC{α:Type}{xs:List α}{k:Nat}(h:k<xs.length):atI xs (k:Int)=some xs[k]:=by
 unfold atI ixN
 simp [h]
theorem abr{ds:List D}{i:Int}(h0:0≤i)(h:i<ds.length):gj (.list ds) (.int i)= .ok (ds[i.toNat]'(by omega)):=by
 have e:i=((i.toNat:Nat):Int):=by omega
 have hl:i.toNat<ds.length:=by omega
 have:=LC hl
 rw [←e] at this
 simp [gj,this]
theorem ZK{ds:List D}{i:Int}(h0:0≤i)(h:i<ds.length):gj (.tuple ds) (.int i)= .ok (ds[i.toNat]'(by omega)):=by
 have e:i=((i.toNat:Nat):Int):=by omega
 have hl:i.toNat<ds.length:=by omega
 have:=LC hl
 rw [←e] at this
 simp [gj,this]
theorem acv{z:Str}{i:Int}(h0:0≤i)(h:i<z.cps.toList.length)(hz:z.length≤sizeLine):gj (.str z) (.int i)= .ok (.str ⟨#[z.cps.toList[i.toNat]'(by omega)]⟩):=by
 have e:i=((i.toNat:Nat):Int):=by omega
 have hl:i.toNat<z.cps.toList.length:=by omega
 have:=LC hl
 rw [←e] at this
 simp only [gj,hz,if_true,this]
theorem Gm{ns:List Int}{i:Int}(h0:0≤i)(h:i<ns.length):gj (.list (ns.map aD)) (.int i)= .ok (.int (ns[i.toNat]'(by omega))):=by
 rw [abr h0 (by simpa using h)]
 simp
@[simp] theorem aeY (k:Int):SeqAt.shaped (.int k)=true:=rfl
@[simp] theorem aep (k:Bool):SeqAt.shaped (.bool k)=true:=rfl
@[simp] theorem aez:SeqAt.shaped .none=true:=rfl
theorem aaZ{x y:D}(hx:SeqAt.shaped x=true)(hy:SeqAt.shaped y=true)(hs:∀i j,x= .str i→y= .str j→False):lB x y= .ok (.bool (dH x y)):=by
 rcases sO x y with⟨i,j,h1,h2,_⟩|e
 ·exact(hs i j h1 h2).elim
 ·rw [e,hx,hy]
  rfl
@[simp] theorem Yh (i j:Int):lB (.int i) (.int j)= .ok (.bool (decide (i=j))):=by
 rw [aaZ rfl rfl (fun _ _ h=>by cases h)]
 simp only [dH]
 congr 2
@[simp] theorem Yb (i j:Bool):lB (.bool i) (.bool j)= .ok (.bool (decide (i=j))):=by
 rw [aaZ rfl rfl (fun _ _ h=>by cases h)]
 simp only [dH]
 congr 2
@[simp] theorem XC (i j:Str):lB (.str i) (.str j)= .ok (.bool (decide (i=j))):=rfl
theorem Tf{x y:D}{b:Bool}(h:lB x y= .ok (.bool b)):BX x y= .ok (.bool (!b)):=by simp [BX,h]
@[simp] theorem acP (i j:Int):BX (.int i) (.int j)= .ok (.bool (!decide (i=j))):=Tf (Yh i j)
@[simp] theorem Yn (i j:Str):BX (.str i) (.str j)= .ok (.bool (!decide (i=j))):=rfl
theorem Vw{g:GM}{body:SM}(P:Nat→Env→Prop):∀(ds:List D) (k:Nat) (ρ:Env),P k ρ→(∀(i:Nat) d ρ,ds[i]? =some d→P (k+i) ρ→∃ρ1 ρ2,g d ρ=some ρ1∧(body ρ1= .nx ρ2∨body ρ1= .ct ρ2)∧P (k+i+1) ρ2)→
 ∃ρ',Uc g body ds ρ= .nx ρ' ∧P (k+ds.length) ρ'
 |[],k,ρ,h0,_=>⟨ρ,rfl,h0⟩
 |d::r,k,ρ,h0,hs=>by
  obtain⟨ρ1,ρ2,e1,e2,p⟩:=hs 0 d ρ rfl h0
  obtain⟨ρ',e3,p3⟩:=Vw P r (k+1) ρ2 p fun i d' ρ q p' =>by
   have:=hs (i+1) d' ρ (by simpa using q) (by rw [show k+(i+1)=k+1+i by omega];exact p')
   rw [show k+(i+1)+1=k+1+i+1 by omega] at this
   exact this
  refine⟨ρ',?_,by rw [show k+(d::r).length=k+1+r.length by simp;omega];exact p3⟩
  simp only [Uc,e1]
  rcases e2 with e2|e2<;>rw [e2]<;>exact e3
theorem JK{mi:Env→AR}{g:GM}{body:SM}{ρ:Env}{ds:List D}(P:Nat→Env→Prop)(hi:mi ρ= .ok ds)(h0:P 0 ρ)(hs:∀(i:Nat) d ρ,ds[i]? =some d→P i ρ→∃ρ1 ρ2,g d ρ=some ρ1∧(body ρ1= .nx ρ2∨body ρ1= .ct ρ2)∧P (i+1) ρ2):
 ∃ρ',mZ mi g body ρ= .nx ρ' ∧P ds.length ρ' :=by
 obtain⟨ρ',e,p⟩:=Vw P ds 0 ρ h0 fun i d ρ q p=>by
  rw [Nat.zero_add] at p⊢
  exact hs i d ρ q p
 rw [Nat.zero_add] at p
 exact⟨ρ',by simp only [mZ,hi];exact e,p⟩
@[simp] theorem nu {i:Nat} {d:D} {ρ:Env}:gN i d ρ=some (ρ.set i (.dat d)):=rfl
theorem app_ok{ρ:Env}{i:Nat}{m:EM}{ds:List D}{d:D}(h:ρ[i]? =some (.own (.list ds)))(hm:m ρ= .ok d)(hl:ds.length<sizeLine):qK i m ρ= .nx (ρ.set i (.own (.list (ds++[d])))):=by simp [qK,h,hm,hl]
theorem aaq{α:Type}(xs:List α)(x:α):atI (xs++[x]) (-1)=some x:=by
 unfold atI ixN
 have h1:¬(0:Int)≤-1:=by decide
 have h2: -(((xs++[x]).length:Nat):Int)≤-1:=by
  simp
  omega
 have h3:((-1:Int)+(((xs++[x]).length:Nat):Int)).toNat=xs.length:=by
  simp
  omega
 rw [if_neg h1,if_pos h2,h3]
 simp
theorem acj(ds:List D)(d:D):gj (.list (ds++[d])) (.int (-1))= .ok d:=by
 simp only [gj,aaq]
@[simp] theorem ac9 (i:Int):S8 (.int i)= .ok (.int (-i)):=rfl
theorem Nv{α:Type}(xs:List α)(k:Nat):cutD xs (some (k:Int)) none=xs.drop k:=by
 unfold cutD
 rw [HT.sIx_nat,HT.sIx_none]
 rw [bF (by simp)]
 by_cases h:k≤xs.length
 ·rw [Nat.min_eq_left h]
 ·rw [Nat.min_eq_right (by omega),List.drop_of_length_le (bA _),List.drop_of_length_le (by omega)]
theorem ae3{α:Type}(xs:List α)(k:Nat):cutD xs none (some (k:Int))=xs.take k:=by
 unfold cutD
 rw [HT.sIx_nat,HT.sIx_none]
 simp only [List.drop_zero,Nat.sub_zero]
 by_cases h:k≤xs.length
 ·rw [Nat.min_eq_left h]
 ·rw [Nat.min_eq_right (by omega),bF (bA _),bF (by omega)]
theorem Yu{x y:Str}(h:x.cps.toList=y.cps.toList):x=y:=by
 obtain⟨⟨a⟩⟩:=x
 obtain⟨⟨b⟩⟩:=y
 have e:a=b:=h
 rw [e]
@[simp] theorem agK (x y:Str):(x++y).cps.toList=x.cps.toList++y.cps.toList:=by
 show(x.cps++y.cps).toList=_
 simp
theorem str_len(x:Str):x.length=x.cps.toList.length:=by
 show x.cps.size=_
 simp
theorem ad9{x y:Str}(h:x.length+y.length≤sizeLine):jw (.str x) (.str y)= .ok (.str (x++y)):=by simp [jw,h]
theorem len0:(((([]:List D).length:Nat):Int))=0:=rfl
theorem len1(a:D):((([a]:List D).length:Nat):Int)=1:=rfl
theorem af4(a b:D):((([a,b]:List D).length:Nat):Int)=2:=rfl
theorem agB(a b c:D):((([a,b,c]:List D).length:Nat):Int)=3:=rfl
theorem agv(a b c d:D):((([a,b,c,d]:List D).length:Nat):Int)=4:=rfl
theorem aeC:v7 .none .none= .ok (.bool true):=rfl
theorem aer(i:Int):v7 (.int i) .none= .ok (.bool false):=rfl
theorem aew(i:Str):v7 (.str i) .none= .ok (.bool false):=rfl
theorem aeL(i:List D):v7 (.list i) .none= .ok (.bool false):=rfl
theorem aeH(i:List D):v7 (.tuple i) .none= .ok (.bool false):=rfl
theorem abu:pF .none .none= .ok (.bool false):=rfl
theorem aa1(i:Int):pF (.int i) .none= .ok (.bool true):=rfl
theorem acX(i:Str):pF (.str i) .none= .ok (.bool true):=rfl
theorem acT(i:List D):pF (.list i) .none= .ok (.bool true):=rfl
theorem aa6(i:List D):pF (.tuple i) .none= .ok (.bool true):=rfl
end DL
namespace DL
open PySem L2 Evl
section
variable{ρ:Env}{g:GM}{mt me m ma mb:EM}{mi:Env→AR}{vs:List Nat}
theorem Zz{α:Type}(h f:α→D):∀(xs:List α) (acc:List D),(∀x∈xs,∃ρ1,g (h x) ρ=some ρ1∧mt ρ1= .ok (.bool true)∧me ρ1= .ok (f x))→acc.length+xs.length≤sizeLine→
 Wq g mt me (xs.map h) acc ρ= .ok (.list (acc++xs.map f))
 |[],acc,_,_=>by simp [Wq]
 |x::xs,acc,hs,hl=>by
  obtain⟨ρ1,e1,e2,e3⟩:=hs x bB
  have hl' :acc.length<sizeLine:=by
   simp only [aW] at hl
   omega
  have ih:=Zz h f xs (acc++[f x]) (fun y hy=>hs y (aM _ hy)) (by
   simp only [aW] at hl
   simp only [au,aW,bW]
   omega)
  simp only [aZ,Wq,e1,e2,e3,hl',if_true,ih]
  simp
theorem GZ{α:Type}(h f:α→D){xs:List α}(hi:mi ρ= .ok (xs.map h))(hs:∀x∈xs,∃ρ1,g (h x) (rM ρ vs)=some ρ1∧mt ρ1= .ok (.bool true)∧me ρ1= .ok (f x))(hl:xs.length≤sizeLine):
 Oc mi g mt me vs ρ= .ok (.list (xs.map f)):=by
 simp only [Oc,hi]
 rw [Zz h f xs [] hs (by simpa using hl)]
 simp
theorem afh{j:Int}(hb:mb ρ= .ok (.int j))(h2:inR j=true):HD mb ρ= .ok (nJ 0 j):=by
 simp only [HD,hb,h2,if_true]
theorem Xi(a b:Nat):nJ (a:Int) (b:Int)=(bU (b-a)).map fun(i:Nat)=>aD ((a+i:Nat):Int):=by
 unfold nJ
 rw [show((b:Int)-(a:Int)).toNat=b-a by omega]
 refine bQ fun i _=> ?_
 simp
theorem vz(b:Nat):nJ 0 (b:Int)=(bU b).map fun(i:Nat)=>aD (i:Int):=by
 have:=Xi 0 b
 simpa using this
theorem Xb{n:Int}(h1: -1000000000≤n)(h2:n≤1000000000):inR n=true:=by
 rw [rJ]
 omega
theorem aec{k:Nat}{ds:List D}(h:m ρ= .ok (.list ds))(ha:ma ρ= .ok (.int (k:Int))):Cp m (some ma) none ρ= .ok (.list (ds.drop k)):=by
 simp only [Cp,h,gY,Y8,ha,dSl,Nv]
end
section
variable{ρ:Env}{ma mb mc md me mf:EM}
@[simp] theorem abd:jG [] ρ= .ok (.tuple []):=by
 have z:(0:Nat)≤sizeLine:=by decide
 simp only [jG,nM]
 simp [ER.bind,z]
@[simp] theorem Q7:jG [ma] ρ=(ma ρ).bind fun x=> .ok (.tuple [x]):=by
 have z:(1:Nat)≤sizeLine:=by decide
 simp only [jG,nM]
 cases ma ρ<;>simp [ER.bind,z]
@[simp] theorem WD:jG [ma,mb] ρ=(ma ρ).bind fun x=>(mb ρ).bind fun y=> .ok (.tuple [x,y]):=by
 have z:(2:Nat)≤sizeLine:=by decide
 simp only [jG,nM]
 cases ma ρ<;>cases mb ρ<;>simp [ER.bind,z]
@[simp] theorem Wu:jG [ma,mb,mc] ρ=(ma ρ).bind fun x=>(mb ρ).bind fun y=>(mc ρ).bind fun z=> .ok (.tuple [x,y,z]):=by
 have z:(3:Nat)≤sizeLine:=by decide
 simp only [jG,nM]
 cases ma ρ<;>cases mb ρ<;>cases mc ρ<;>simp [ER.bind,z]
@[simp] theorem W6:jG [ma,mb,mc,md] ρ=(ma ρ).bind fun x=>(mb ρ).bind fun y=>(mc ρ).bind fun z=>(md ρ).bind fun w=> .ok (.tuple [x,y,z,w]):=by
 have z:(4:Nat)≤sizeLine:=by decide
 simp only [jG,nM]
 cases ma ρ<;>cases mb ρ<;>cases mc ρ<;>cases md ρ<;>simp [ER.bind,z]
@[simp] theorem agX:jG [ma,mb,mc,md,me] ρ=(ma ρ).bind fun x=>(mb ρ).bind fun y=>(mc ρ).bind fun z=>(md ρ).bind fun w=>(me ρ).bind fun v=> .ok (.tuple [x,y,z,w,v]):=by
 have z:(5:Nat)≤sizeLine:=by decide
 simp only [jG,nM]
 cases ma ρ<;>cases mb ρ<;>cases mc ρ<;>cases md ρ<;>cases me ρ<;>simp [ER.bind,z]
@[simp] theorem agV:jG [ma,mb,mc,md,me,mf] ρ=(ma ρ).bind fun x=>(mb ρ).bind fun y=>(mc ρ).bind fun z=>(md ρ).bind fun w=>(me ρ).bind fun v=>(mf ρ).bind fun u=> .ok (.tuple [x,y,z,w,v,u]):=by
 have z:(6:Nat)≤sizeLine:=by decide
 simp only [jG,nM]
 cases ma ρ<;>cases mb ρ<;>cases mc ρ<;>cases md ρ<;>cases me ρ<;>cases mf ρ<;>simp [ER.bind,z]
@[simp] theorem abk:lC [] ρ= .ok (.list []):=by
 have z:(0:Nat)≤sizeLine:=by decide
 simp only [lC,nM]
 simp [ER.bind,z]
@[simp] theorem WK:lC [ma] ρ=(ma ρ).bind fun x=> .ok (.list [x]):=by
 have z:(1:Nat)≤sizeLine:=by decide
 simp only [lC,nM]
 cases ma ρ<;>simp [ER.bind,z]
@[simp] theorem acy:lC [ma,mb] ρ=(ma ρ).bind fun x=>(mb ρ).bind fun y=> .ok (.list [x,y]):=by
 have z:(2:Nat)≤sizeLine:=by decide
 simp only [lC,nM]
 cases ma ρ<;>cases mb ρ<;>simp [ER.bind,z]
@[simp] theorem ach:lC [ma,mb,mc] ρ=(ma ρ).bind fun x=>(mb ρ).bind fun y=>(mc ρ).bind fun z=> .ok (.list [x,y,z]):=by
 have z:(3:Nat)≤sizeLine:=by decide
 simp only [lC,nM]
 cases ma ρ<;>cases mb ρ<;>cases mc ρ<;>simp [ER.bind,z]
@[simp] theorem acK:lC [ma,mb,mc,md] ρ=(ma ρ).bind fun x=>(mb ρ).bind fun y=>(mc ρ).bind fun z=>(md ρ).bind fun w=> .ok (.list [x,y,z,w]):=by
 have z:(4:Nat)≤sizeLine:=by decide
 simp only [lC,nM]
 cases ma ρ<;>cases mb ρ<;>cases mc ρ<;>cases md ρ<;>simp [ER.bind,z]
@[simp] theorem agQ:lC [ma,mb,mc,md,me] ρ=(ma ρ).bind fun x=>(mb ρ).bind fun y=>(mc ρ).bind fun z=>(md ρ).bind fun w=>(me ρ).bind fun v=> .ok (.list [x,y,z,w,v]):=by
 have z:(5:Nat)≤sizeLine:=by decide
 simp only [lC,nM]
 cases ma ρ<;>cases mb ρ<;>cases mc ρ<;>cases md ρ<;>cases me ρ<;>simp [ER.bind,z]
@[simp] theorem agW:lC [ma,mb,mc,md,me,mf] ρ=(ma ρ).bind fun x=>(mb ρ).bind fun y=>(mc ρ).bind fun z=>(md ρ).bind fun w=>(me ρ).bind fun v=>(mf ρ).bind fun u=> .ok (.list [x,y,z,w,v,u]):=by
 have z:(6:Nat)≤sizeLine:=by decide
 simp only [lC,nM]
 cases ma ρ<;>cases mb ρ<;>cases mc ρ<;>cases md ρ<;>cases me ρ<;>cases mf ρ<;>simp [ER.bind,z]
end
theorem aeD(T:String):isT T .none=(T=="NoneType"):=rfl
theorem aeN(T:String)(b:Bool):isT T (.bool b)=(T=="bool"||T=="int"):=rfl
theorem aey(T:String)(b:Int):isT T (.int b)=(T=="int"):=rfl
theorem aen(T:String)(b:Str):isT T (.str b)=(T=="str"):=rfl
theorem aeO(T:String)(b:List D):isT T (.list b)=(T=="list"):=rfl
theorem aeJ(T:String)(b:List D):isT T (.tuple b)=(T=="tuple"):=rfl
@[simp] theorem TV (ds:List D):mj [.list ds]= .ok (.tuple ds):=rfl
@[simp] theorem Uy (ds:List D):mj [.tuple ds]= .ok (.tuple ds):=rfl
@[simp] theorem YT (ds:List D):pP [.list ds]= .ok (.list ds):=rfl
@[simp] theorem Za (ds:List D):pP [.tuple ds]= .ok (.list ds):=rfl
theorem aea{x y:List D}(h:x.length+y.length≤sizeLine):jw (.list x) (.list y)= .ok (.list (x++y)):=by simp [jw,h]
theorem adZ{x y:List D}(h:x.length+y.length≤sizeLine):jw (.tuple x) (.tuple y)= .ok (.tuple (x++y)):=by simp [jw,h]
@[simp] theorem Yk {i j:Nat} {x y:D} {ρ:Env}:gT [gN i,gN j] (.tuple [x,y]) ρ=some ((ρ.set i (.dat x)).set j (.dat y)):=rfl
end DL
namespace Sb
open PySem PySem.Spec L2 Evl DL
theorem Z4:type_of%(And.intro @Dy<|And.intro @lM<|And.intro @Cy<|And.intro @jO<|And.intro @kJ<|And.intro @ZS<|And.intro @vQ<|And.intro @Yx<|And.intro @zJ<|And.intro @Zv<|And.intro @QH<|And.intro @JG<|And.intro @JS<|And.intro @Rj<|And.intro @Hl<|And.intro @abH<|And.intro @gY<|And.intro @Zq<|And.intro @YC<|And.intro @Yz<|And.intro @Zk<|And.intro @abD<|And.intro @aaX<|And.intro @acS<|And.intro @ac8<|And.intro @Yh<|And.intro @acP<|And.intro @XC<|And.intro @Yn<|And.intro @Yb<|And.intro @decide_true<|And.intro @decide_false<|And.intro @Ze<|And.intro @set_0<|And.intro @jU<|And.intro @Zd<|And.intro @aeD<|And.intro @aeN<|And.intro @aey<|And.intro @aen<|And.intro @aeO<|And.intro @aeJ<|And.intro @nu<|And.intro @Bool.not_true<|And.intro @Bool.not_false<|And.intro @Bool.or_self<|And.intro @Bool.or_false<|And.intro @Bool.false_or<|And.intro @Bool.or_true<|And.intro @Bool.true_or<|And.intro @abd<|And.intro @Q7<|And.intro @WD<|And.intro @Wu<|And.intro @abk<|And.intro @WK<|And.intro @acy<|And.intro @ach<|And.intro @acK<|And.intro @TV<|And.intro @Uy<|And.intro @YT<|And.intro @Za<|And.intro @ac9<|And.intro @Zf<|And.intro @len0<|And.intro @len1<|And.intro @af4<|And.intro @agB<|And.intro @agv<|And.intro @aeC<|And.intro @aer<|And.intro @aew<|And.intro @aeL<|And.intro @aeH<|And.intro @abu<|And.intro @aa1<|And.intro @acX<|And.intro @acT<| @aa6):=And.intro @Dy<|And.intro @lM<|And.intro @Cy<|And.intro @jO<|And.intro @kJ<|And.intro @ZS<|And.intro @vQ<|And.intro @Yx<|And.intro @zJ<|And.intro @Zv<|And.intro @QH<|And.intro @JG<|And.intro @JS<|And.intro @Rj<|And.intro @Hl<|And.intro @abH<|And.intro @gY<|And.intro @Zq<|And.intro @YC<|And.intro @Yz<|And.intro @Zk<|And.intro @abD<|And.intro @aaX<|And.intro @acS<|And.intro @ac8<|And.intro @Yh<|And.intro @acP<|And.intro @XC<|And.intro @Yn<|And.intro @Yb<|And.intro @decide_true<|And.intro @decide_false<|And.intro @Ze<|And.intro @set_0<|And.intro @jU<|And.intro @Zd<|And.intro @aeD<|And.intro @aeN<|And.intro @aey<|And.intro @aen<|And.intro @aeO<|And.intro @aeJ<|And.intro @nu<|And.intro @Bool.not_true<|And.intro @Bool.not_false<|And.intro @Bool.or_self<|And.intro @Bool.or_false<|And.intro @Bool.false_or<|And.intro @Bool.or_true<|And.intro @Bool.true_or<|And.intro @abd<|And.intro @Q7<|And.intro @WD<|And.intro @Wu<|And.intro @abk<|And.intro @WK<|And.intro @acy<|And.intro @ach<|And.intro @acK<|And.intro @TV<|And.intro @Uy<|And.intro @YT<|And.intro @Za<|And.intro @ac9<|And.intro @Zf<|And.intro @len0<|And.intro @len1<|And.intro @af4<|And.intro @agB<|And.intro @agv<|And.intro @aeC<|And.intro @aer<|And.intro @aew<|And.intro @aeL<|And.intro @aeH<|And.intro @abu<|And.intro @aa1<|And.intro @acX<|And.intro @acT<| @aa6
end Sb
namespace DL
open PySem L2 Evl
def aee(x y:Str):Bool:=decide (x=y)||decide (y="BookError")
def okP(K:ao)(x y:Str):Bool:=decide (PySem.W.kitOne K (.ref (He.ga K x)) (.ref (He.ga K y))=some (aee x y))&&decide (PySem.W.exmOne K (.ref (He.ga K x)) (.ref (He.ga K y))=some (aee x y))
def okE(K:ao)(x:Str):Bool:=
 He.eqO (dX K mainGlobals x) (some (some (.ref (He.ga K x))))&&(He.eqO (PySem.W.findIn K (.ref (He.ga K x)) "__getattribute__") (some (some (.builtin "BaseException.__getattribute__")))&&
 (He.eqO (PySem.W.findIn K (.ref (He.ga K x)) "__getattr__") (some none)&&(decide (PySem.W.subIn K (.ref (He.ga K x)) (.type "BaseException")=some true)&&
 (PySem.W.hasDictIn K (He.ga K x)&&(He.eqO (PySem.W.findIn K (.ref (He.ga K x)) "__class__") (some (some (.builtin "object.__class__")))&&
 (He.eqO (PySem.W.specialIn K (.builtin "object.__class__") "__get__") (some (some (.builtin "getset_descriptor.__get__")))&&(decide (PySem.W.takesIn K (.builtin "object.__class__")=some true)&&
 (decide (PySem.W.mroIn K (He.ga K x) (.type "object")=some true)&&decide (PySem.W.kitOne K (.ref (He.ga K x)) (.type "ValueError")=some true)))))))))
def okN(K:ao):Bool:=He.eqO (dX K cStatics sharingNotToldKey) (some none)
def okX(xs:List Str)(K:ao):Bool:=okN K&&xs.all fun x=>okE K x&&xs.all fun y=>okP K x y
structure qH(xs:List Str)(K:ao)(mg:Str→Option Value):Prop where
 nb:dX K cStatics sharingNotToldKey=some none
 gl:∀x∈xs,mg x=some (.ref (He.ga K x))
 ec:∀x∈xs,ExcC K (He.ga K x)
 ve:∀x∈xs,PySem.W.kitOne K (.ref (He.ga K x)) (.type "ValueError")=some true
 kit:∀x∈xs,∀y∈xs,PySem.W.kitOne K (.ref (He.ga K x)) (.ref (He.ga K y))=some (aee x y)
 exm:∀x∈xs,∀y∈xs,PySem.W.exmOne K (.ref (He.ga K x)) (.ref (He.ga K y))=some (aee x y)
theorem Ww{K:ao}{x:Str}(h:okE K x=true):dX K mainGlobals x=some (some (.ref (He.ga K x)))∧ExcC K (He.ga K x)∧PySem.W.kitOne K (.ref (He.ga K x)) (.type "ValueError")=some true:=by
 unfold okE at h
 obtain⟨h0,h⟩:=He.ba h
 obtain⟨h1,h⟩:=He.ba h
 obtain⟨h2,h⟩:=He.ba h
 obtain⟨h3,h⟩:=He.ba h
 obtain⟨h4,h⟩:=He.ba h
 obtain⟨h5,h⟩:=He.ba h
 obtain⟨h6,h⟩:=He.ba h
 obtain⟨h7,h⟩:=He.ba h
 obtain⟨h8,h9⟩:=He.ba h
 exact⟨He.eqO_ok h0,⟨He.eqO_ok h1,He.eqO_ok h2,of_decide_eq_true h3,h4,He.eqO_ok h5,He.eqO_ok h6,of_decide_eq_true h7,of_decide_eq_true h8⟩,of_decide_eq_true h9⟩
theorem qH.of{xs:List Str}{K:ao}{mg:Str→Option Value}{h:Heap}(X:K.In h)(G:h.Ns mainGlobals mg)(c:okX xs K=true):qH xs K mg:=by
 obtain⟨c0,c⟩:=He.ba c
 have c1:∀x∈xs,(okE K x&&xs.all fun y=>okP K x y)=true:=fun x hx=>List.all_eq_true.mp c x hx
 have c2:∀x∈xs,∀y∈xs,okP K x y=true:=fun x hx y hy=>List.all_eq_true.mp (He.ba (c1 x hx)).2 y hy
 refine⟨He.eqO_ok c0,fun x hx=>PySem.W.mg_of X G (Ww (He.ba (c1 x hx)).1).1,fun x hx=>(Ww (He.ba (c1 x hx)).1).2.1,fun x hx=>(Ww (He.ba (c1 x hx)).1).2.2,fun x hx y hy=> ?_,fun x hx y hy=> ?_⟩
 ·exact of_decide_eq_true (He.ba (c2 x hx y hy)).1
 ·exact of_decide_eq_true (He.ba (c2 x hx y hy)).2
def obsX(n:Nat)(fa:List He.Fa)(fn:List He.DefD)(xs:List Str)(g:Addr→Option Obj):He.AlD×Bool:=(He.obsD fa fn (He.frG g (cStatics::He.asD g n)),okX xs (He.frG g (cStatics::He.asD g n)))
def hookX(n:Nat)(fa:List He.Fa)(fn:List He.DefD)(xs:List Str):PySem.W.Hook where
 α:=He.AlD×Bool
 obs:=fun s=>obsX n fa fn xs s.heap.get?
 val:=fun _=>(He.valD fn,true)
 says:=fun _ h=>∃K:ao,K.In h∧He.SaysD fa fn K∧okX xs K=true
 of:=fun _ _ e=>⟨_,He.frG_in,congrArg (fun z:He.AlD×Bool=>z.1) e,congrArg (fun z:He.AlD×Bool=>z.2) e⟩
 keeps:=fun _ _ _ ⟨K,hK,c⟩ k=>⟨K,PySem.W.Frag.In.keeps hK k,c⟩
theorem obsX_eq{n:Nat}{fa:List He.Fa}{fn:List He.DefD}{xs:List Str}{g:Addr→Option Obj}{s:Shared}(h:∀a,g a=s.heap.get? a):obsX n fa fn xs g=(hookX n fa fn xs).obs s:=by
 have e:g=s.heap.get? :=funext h
 rw [e]<;>rfl
abbrev W00:WX:=fun _ _ _ _=>False
section
variable{K:ao}{pn:Pn}{Hf Hb H:Hp}{σ:L2.St}{ρ:Env}
end
inductive afk(X:Cx)(pq:Pn)(rk:Kd)(xs:List Str):List ExceptHandler→List (Str×SM)→Prop
 |nil:afk X pq rk xs [] []
 |cons {x:Str} {b₀:Stmt} {suite:List Stmt} {np pos' :Pos} {hds:List ExceptHandler} {m:SM} {l:List (Str×SM)} (hx:x∈xs) (hg:Gl X x) (hd:(x==("__debug__":Str))=false)
   (hsu:∀(a:Addr) (oe:Obj) (pn:List (Addr×Obj)),DSs (X.suite a ((a,oe)::pn)) ⟨W00,pq⟩ rk (b₀::suite) m) (r:afk X pq rk xs hds l):
   afk X pq rk xs (.ExceptHandler (some (.Name x np)) none (b₀::suite) pos' ::hds) ((x,m)::l)
section
variable{X:Cx}{w:WX}{pq:Pn}{rk:Kd}{xs:List Str}{body:List Stmt}{mb:SM}{pos:Pos}
end
section
variable{X:Cx}{xs:List Str}{c:Str}{a:Addr}{oe:Obj}{pn:List (Addr×Obj)}{pq:Pn}{i:Nat}{n:Str}{p p1 p2 pos:Pos}
inductive afs(X:Cx)(xs:List Str):List Expr→List Str→Prop
 |nil:afs X xs [] []
 |cons {T:Str} {p:Pos} {es:List Expr} {ts:List Str} (hT:T∈xs) (hg:Gl X T) (hd:(T==("__debug__":Str))=false) (hs:starEach (.Name T p::es) X.env=(false,eval (.Name T p) X.env)::starEach es X.env) (r:afs X xs es ts):afs X xs (.Name T p::es) (T::ts)
end
end DL
namespace DL
open PySem L2 Evl
section
variable{X:Cx}{W:WQ}{rk:Kd}{o e:Expr}{mo m:EM}{pos:Pos}
end
section
variable{xs:List Str}{mb:SM}{ρ ρ' :Env}{c:Str}{d:D}
end
end DL
namespace DL
open PySem L2 Evl
structure Sh(n:Nat)(d:D):Prop where
 lay:d.canLay0=true
 dep:d.depth≤n
theorem Sh.shaped{n:Nat}{d:D}(h:Sh n d)(hn:n≤64:=by decide):SeqAt.shaped d=true:=by
 unfold SeqAt.shaped
 rw [h.lay,decide_eq_true (bf h.dep hn)]
 rfl
theorem Sh.mono{m n:Nat}{d:D}(h:Sh m d)(hn:m≤n):Sh n d:=⟨h.lay,bf h.dep hn⟩
theorem abN(n:Nat)(i:Int):Sh n (.int i):=⟨rfl,by simp [PyData.depth]⟩
theorem Tv(n:Nat){x:Str}(h:∀c∈x.cps.toList,c<0x110000):Sh n (.str x):=⟨by
 show PyData.strOk x=true
 unfold PyData.strOk
 rw [Array.all_eq_true']
 intro c hc
 exact decide_eq_true (h c (by simpa using hc)),by simp [PyData.depth]⟩
theorem acg{n:Nat}:∀{ds:List D},(∀d∈ds,Sh n d)→PyData.canLayAll0 ds=true∧PyData.depthAll ds≤n
 |[],_=>⟨rfl,by simp [PyData.depthAll]⟩
 |d::ds,h=>by
  obtain⟨h1,h2⟩:=acg (ds:=ds) fun e he=>h e (aM _ he)
  have h3:=h d bB
  simp only [PyData.canLayAll0,PyData.depthAll]
  rw [h1,h3.lay]
  exact⟨rfl,Nat.max_le.mpr ⟨h3.dep,h2⟩⟩
theorem Mi{n:Nat}{ds:List D}(h:∀d∈ds,Sh n d):Sh (n+1) (.tuple ds):=by
 obtain⟨h1,h2⟩:=acg h
 refine⟨?_,?_⟩
 ·simp only [dw]
  exact h1
 ·simp only [PyData.depth]
  omega
mutual
def nb:D→Bool
 | .bool _| .dict _=>false
 | .list ds| .tuple ds=>nbs ds
 |_=>true
def nbs:List D→Bool
 |[]=>true
 |d::ds=>nb d&&nbs ds
end
mutual
theorem abe:∀(d e:D),nb d=true→nb e=true→dH d e=true→d=e
 | .none,e,_,_,h=>by cases e<;>simp [dH] at h⊢
 | .bool _,_,h,_,_=>by simp [nb] at h
 | .int i,e,_,hb,h=>by cases e<;>simp [dH,nb] at h hb⊢<;>exact h
 | .str x,e,_,_,h=>by cases e<;>simp [dH] at h⊢<;>exact h
 | .list xs,e,ha,hb,h=>by
   cases e with
   |list ys=>
    simp only [dH] at h
    rw [Sd xs ys (by simpa [nb] using ha) (by simpa [nb] using hb) h]
   |_=>simp [dH] at h
 | .tuple xs,e,ha,hb,h=>by
   cases e with
   |tuple ys=>
    simp only [dH] at h
    rw [Sd xs ys (by simpa [nb] using ha) (by simpa [nb] using hb) h]
   |_=>simp [dH] at h
 | .dict _,_,h,_,_=>by simp [nb] at h
theorem Sd:∀(ds es:List D),nbs ds=true→nbs es=true→PyData.eqvAll ds es=true→ds=es
 |[],[],_,_,_=>rfl
 |[],_::_,_,_,h=>by simp [PyData.eqvAll] at h
 |_::_,[],_,_,h=>by simp [PyData.eqvAll] at h
 |d::ds,e::es,ha,hb,h=>by
  simp only [nbs,cW] at ha hb
  simp only [PyData.eqvAll,cW] at h
  rw [abe d e ha.1 hb.1 h.1,Sd ds es ha.2 hb.2 h.2]
end
theorem Vd{n:Nat}{d:D}(h:Sh n d)(hn:n≤64:=by decide):lB d d= .ok (.bool true):=by
 rcases sO d d with⟨i,j,rfl,h2,e⟩|e
 ·cases h2
  rw [e,decide_eq_true rfl]
 ·rw [e,h.shaped hn]
  simp only [Bool.and_self,if_true]
  rw [SeqAt.eqv_refl d h.lay]
theorem Ub{m n:Nat}{d e:D}(h:Sh m d)(k:Sh n e)(hd:nb d=true)(he:nb e=true)(ne:d≠e)(hm:m≤64:=by decide)(hn:n≤64:=by decide):lB d e= .ok (.bool false):=by
 rcases sO d e with⟨i,j,rfl,rfl,q⟩|q
 ·rw [q,decide_eq_false (fun z=>ne (by rw [z]))]
 ·rw [q,h.shaped hm,k.shaped hn]
  simp only [Bool.and_self,if_true]
  cases z:dH d e with
  |false=>rfl
  |true=>exact absurd (abe d e hd he z) ne
theorem ac1{n:Nat}{d:D}(h:Sh n d)(hn:n≤64:=by decide):BX d d= .ok (.bool false):=Tf (Vd h hn)
theorem abv{m n:Nat}{d e:D}(h:Sh m d)(k:Sh n e)(hd:nb d=true)(he:nb e=true)(ne:d≠e)(hm:m≤64:=by decide)(hn:n≤64:=by decide):BX d e= .ok (.bool true):=Tf (Ub h k hd he ne hm hn)
end DL
namespace DL
open PySem L2 Evl
structure Gio(Hb H:Hp)(p:Addr)(Hb' H' :Hp):Prop where
 h:∀a o,a≠p→H a=some o→H' a=some o
 b:Ex Hb Hb'
 bh:Ex Hb' H'
 nw:∀a,Hb a=none→NT (H a)→Hb' a=none
def O2(K:ao)(n:Nat)(m:List D→ER):Sp:=fun vs H Q _=>∃(Hb:Hp) (p:Addr) (us:List V) (c:D) (ds:List D) (d c' :D),Ex Hb H∧vs=V.ref p::us∧Hb p=none∧Ow K Hb H p c∧iV K Hb us ds∧us.length=n∧m (c::ds)= .ok (.tuple [d,c'])∧
 ∀v Hb' H',Gio Hb H p Hb' H' →Dr K Hb' v d→Ow K Hb' H' p c' →Q v H'
theorem iG.Wj{pn:Pn}{K:ao}{H H' Hb Hb' Hf:Hp}{p:Addr}{c c' :D}{σ:L2.St}{ρ:Env}{i:Nat}(R:iG K pn Hf Hb H σ ρ)(hi:ρ[i]? =some (.own c))(hv:σ[i]? =some (some (.ref p)))(g:Gio Hb H p Hb' H')(hb:Hb' p=none)(h:Ow K Hb' H' p c'):iG K pn Hf Hb' H' σ (ρ.set i (.own c')):=by
 obtain⟨F,r⟩:=R
 obtain⟨q,h1,h2,h3⟩:=r.sl i _ hi
 rw [hv] at h2
 cases h2
 obtain⟨f1,f2,f3⟩:=r.fr i p (by rw [h1];simp)
 refine⟨_,r.step (fp:=[p]) (fun a o e=>g.h a o (ne_of_none e f1) (r.ef a o e)) g.bh g.b rfl (fun j z=>rfl) (fun a ha _ k2 k3=> ?_) (fun _=>⟨p,rfl,hv,h⟩) (by simp) (fun a ha=> ?_) (fun j a z ha hj=> ?_) (fun a q=>r.pin i a q)⟩
 ·obtain⟨o,ho⟩:=yJ k3
  exact⟨by rw [ho];exact g.h a o (fun z=>ha (by rw [h1,z];simp)) ho,g.nw a k2 k3⟩
 ·rw [aV.mp ha]
  exact⟨f1,hb,h.nt⟩
 ·exact r.dj j i a z hj (by rw [h1];exact ha)
inductive XR where
 |ok (d:D) (ρ:Env)|ex (c:Str) (ρ:Env)|bad
abbrev XM:=Env→XR
def xOf(K:ao)(W:WQ)(m:XM):TE:=fun σ H Q=>∃(Hf Hb:Hp) (ρ:Env),iG K W.pin Hf Hb H σ ρ∧
 (∀d ρ',m ρ= .ok d ρ' →∀v Hb' H',iG K W.pin Hf Hb' H' σ ρ' →Bw Hf Hb Hb' H' →Dr K Hb' v d→Q v H')∧
 (∀c ρ',m ρ= .ex c ρ' →∀Hb' H',iG K W.pin Hf Hb' H' σ ρ' →Bw Hf Hb Hb' H' →W.w (.ref (He.ga K c)) none σ H')∧m ρ≠ .bad
abbrev DX(X:Cx)(W:WQ)(e:Expr)(m:XM):Prop:=PE X e (xOf X.K W m)
def jh(i:Nat)(g:List D→ER)(ms:List EM):XM:=fun ρ=>match ρ[i]? with
 |some (.own c)=>(match nM ms ρ with
  | .ok ds=>(match g (c::ds) with
    | .ok (.tuple [d,c'])=> .ok d (ρ.set i (.own c'))
    |_=> .bad)
  | .ex e=> .ex e ρ
  | .bad=> .bad)
 |_=> .bad
def wM(i:Nat)(g:List D→ER)(m:EM)(xm:XM):XM:=fun ρ=>match ρ[i]? with
 |some (.own _)=>(match m ρ with
  | .ok d0=>(match xm ρ with
    | .ok d1 ρ1=>(match ρ1[i]? with
      |some (.own c)=>(match g [c,d0,d1] with
       | .ok (.tuple [d,c'])=> .ok d (ρ1.set i (.own c'))
       |_=> .bad)
      |_=> .bad)
    | .ex e ρ1=> .ex e ρ1
    | .bad=> .bad)
  | .ex e=> .ex e ρ
  | .bad=> .bad)
 |_=> .bad
section
variable{X:Cx}{W:WQ}{ks:List Kd}{x y:Str}{p q pos:Pos}{es:List Expr}{ms:List EM}{g:List D→ER}{i j k n:Nat}{ps:List Str}
theorem t7(i:Nat)(h:Has X.prog X.w X.K X.mg X.base x k ps (O2 X.K n g))(hr:Room j X.A)(tk:Takes X W.w)(ha:DA X W ks es ms)(hks:∀k∈ks,k= .dat:=by simp)(hn:ks.length=n:=by rfl)(hj:k≤j:=by decide)(hg:Gl X x:=by rfl)(hdb:(x==("__debug__":Str))=false:=by decide)
 (hN:X.N[i]? =some y:=by rfl) (hv:Vis X.env.scope y:=by first|exact Or.inl rfl|exact Or.inr (Or.inl rfl)|exact Or.inr (Or.inr rfl)) (hd:(y==("__debug__":Str))=false:=by decide) (hcd:(y==("__classdict__":Str))=false:=by decide)
 (he:starEach (.Name y q::es) X.env=(false,eval (.Name y q) X.env)::starEach es X.env:=by rfl) (hpl:(backTo pos (starEach es X.env)).any (·.1)=false:=by rfl):DX X W (.Call (.Name x p) (.Name y q::es) [] pos) (jh i g ms):=by
 obtain⟨fd,F,B,_⟩:=h.ex
 refine PE.imp (pe_callS F (hr.mono hj) hg h.gl h.kp B (fun σ=>passAt tk σ) (pa_cons (pe_var hN hv hd hcd) ha he) hdb he hpl) fun σ H Q ⟨Hf,Hb,ρ,R,h1,h2,h3⟩=> ?_
 have h1:=h1
 unfold jh at h1 h2 h3
 split at h1
 ·rename_i c hi
  obtain⟨p,hp,ow,hf,hbp⟩:=R.own i c hi
  have hpn:NT (H p):=ow.nt
  refine⟨_,hp,Hf,Hb,ρ,R,fun ds hds vs Hb1 H1 g1 r1=> ?_,fun e he Hb1 H1 g1=> ?_,fun z=> ?_⟩
  ·rw [hi,hds] at h3
   rw [hds] at h1
   simp only at h1 h3
   cases qg:g (c::ds) with
   |bad=>rw [qg] at h3;exact absurd rfl h3
   |ex e=>rw [qg] at h3;exact absurd rfl h3
   |ok z=>
    rw [qg] at h1 h3
    cases z with
    |tuple l=>
     match l,qg,h1,h3 with
     |[d,c'],qg,h1,h3=>
      refine⟨Hb1,p,vs,c,ds,d,c',g1.bh,rfl,g1.nw p hbp hpn,ow.ex g1.b g1.h,r1.dr hks,?_,qg,fun v Hb2 H2 Wj r o2=> ?_⟩
      ·rw [r1.adX]
       exact hn
      ·have hb2:Hb2 p=none:=Wj.nw p (g1.nw p hbp hpn) (Jd g1.h hpn)
       exact h1 d _ rfl v Hb2 H2 ((R.gw g1).Wj hi hp Wj hb2 o2) ⟨g1.b.trans Wj.b,Wj.bh,fun a z1 z2=>Wj.nw a (g1.nw a z1 (Jd R.ef z2)) (Jd g1.h (Jd R.ef z2))⟩ r
     |[],_,_,h3=>exact absurd rfl h3
     |[_],_,_,h3=>exact absurd rfl h3
     |_::_::_::_,_,_,h3=>exact absurd rfl h3
    |_=>exact absurd rfl h3
  ·rw [hi,he] at h2
   exact h2 e ρ rfl Hb1 H1 (R.gw g1) (g1.bw R.ef)
  ·rw [hi,z] at h3
   exact absurd rfl h3
 ·rename_i hno
  exfalso
  apply h3
  split
  ·rename_i c hi
   exact absurd hi (hno c)
  ·rfl
theorem Xu(i:Nat){e1 e2:Expr}{m:EM}{xm:XM}(h:Has X.prog X.w X.K X.mg X.base x k ps (O2 X.K 2 g))(hr:Room j X.A)(tk:Takes X W.w)(h1:DE X W .dat e1 m)(h2:DX X W e2 xm)(hj:k≤j:=by decide)(hg:Gl X x:=by rfl)(hdb:(x==("__debug__":Str))=false:=by decide)
 (hN:X.N[i]? =some y:=by rfl) (hv:Vis X.env.scope y:=by first|exact Or.inl rfl|exact Or.inr (Or.inl rfl)|exact Or.inr (Or.inr rfl)) (hd:(y==("__debug__":Str))=false:=by decide) (hcd:(y==("__classdict__":Str))=false:=by decide)
 (he:starEach [.Name y q,e1,e2] X.env=(false,eval (.Name y q) X.env)::starEach [e1,e2] X.env:=by rfl) (he1:starEach [e1,e2] X.env=(false,eval e1 X.env)::starEach [e2] X.env:=by rfl) (he2:starEach [e2] X.env=(false,eval e2 X.env)::starEach [] X.env:=by rfl)
 (hpl:(backTo pos (starEach [e1,e2] X.env)).any (·.1)=false:=by rfl):DX X W (.Call (.Name x p) [.Name y q,e1,e2] [] pos) (wM i g m xm):=by
 obtain⟨fd,F,B,_⟩:=h.ex
 refine PE.imp (pe_callS F (hr.mono hj) hg h.gl h.kp B (fun σ=>passAt tk σ) (pa_cons (pe_var hN hv hd hcd) (pa_cons h1 (pa_cons h2 pa_nil he2) he1) he) hdb he hpl) fun σ H Q ⟨Hf,Hb,ρ,R,h1,h2,h3⟩=> ?_
 unfold wM at h1 h2 h3
 cases hi:ρ[i]? with
 |none=>rw [hi] at h3;exact absurd rfl h3
 |some s=>
  cases s with
  |un=>rw [hi] at h3;exact absurd rfl h3
  |nst _ _=>rw [hi] at h3;exact absurd rfl h3
  |Yd _ _=>rw [hi] at h3;exact absurd rfl h3
  |Yg _ _=>rw [hi] at h3;exact absurd rfl h3
  |dat _=>rw [hi] at h3;exact absurd rfl h3
  |bor _=>rw [hi] at h3;exact absurd rfl h3
  |own c0=>
   rw [hi] at h1 h2 h3
   simp only at h1 h2 h3
   obtain⟨p,hp,_⟩:=R.own i c0 hi
   refine⟨_,hp,Hf,Hb,ρ,R,fun d0 hd0 v0 Hb1 H1 g1 r1=> ?_,fun e he Hb1 H1 g1=> ?_,fun z=> ?_⟩
   ·rw [hd0] at h1 h2 h3
    simp only at h1 h2 h3
    refine⟨Hf,Hb1,ρ,R.gw g1,fun d1 ρ1 hd1 v1 Hb2 H2 R2 b2 r2=> ?_,fun e ρ1 hx Hb2 H2 R2 b2=> ?_,fun z=> ?_⟩
    ·rw [hd1] at h1 h2 h3
     simp only at h1 h2 h3
     cases hi1:ρ1[i]? with
     |none=>rw [hi1] at h3;exact absurd rfl h3
     |some s=>
      cases s with
      |un=>rw [hi1] at h3;exact absurd rfl h3
      |nst _ _=>rw [hi1] at h3;exact absurd rfl h3
      |Yd _ _=>rw [hi1] at h3;exact absurd rfl h3
      |Yg _ _=>rw [hi1] at h3;exact absurd rfl h3
      |dat _=>rw [hi1] at h3;exact absurd rfl h3
      |bor _=>rw [hi1] at h3;exact absurd rfl h3
      |own c=>
       rw [hi1] at h1 h3
       simp only at h1 h3
       obtain⟨p1,hp1,ow,hf,hbp⟩:=R2.own i c hi1
       rw [hp] at hp1
       cases hp1
       have hpn:NT (H2 p):=ow.nt
       cases qg:g [c,d0,d1] with
       |bad=>rw [qg] at h3;exact absurd rfl h3
       |ex e=>rw [qg] at h3;exact absurd rfl h3
       |ok z=>
        rw [qg] at h1 h3
        cases z with
        |tuple l=>
         match l,qg,h1,h3 with
         |[d,c'],qg,h1,h3=>
          refine⟨Hb2,p,[v0,v1],c,[d0,d1],d,c',b2.bh,rfl,hbp,ow, .cons (nq b2.b r1) (.cons r2 .nil),rfl,qg,fun v Hb3 H3 Wj r o2=> ?_⟩
          have hb3:Hb3 p=none:=Wj.nw p hbp hpn
          exact h1 d _ rfl v Hb3 H3 (R2.Wj hi1 hp Wj hb3 o2) ⟨(g1.b.trans b2.b).trans Wj.b,Wj.bh,fun a z1 z2=>Wj.nw a (b2.nw a (g1.nw a z1 (Jd R.ef z2)) z2) (Jd R2.ef z2)⟩ r
         |[],_,_,h3=>exact absurd rfl h3
         |[_],_,_,h3=>exact absurd rfl h3
         |_::_::_::_,_,_,h3=>exact absurd rfl h3
        |_=>exact absurd rfl h3
    ·rw [hx] at h2
     exact h2 e ρ1 rfl Hb2 H2 R2 ((g1.bw R.ef).trans b2)
    ·rw [z] at h3
     exact absurd rfl h3
   ·rw [he] at h2
    exact h2 e ρ rfl Hb1 H1 (R.gw g1) (g1.bw R.ef)
   ·rw [z] at h3
    exact absurd rfl h3
end
def oN(i:Nat)(m:XM):SM:=fun ρ=>match m ρ with
 | .ok d ρ' => .nx (ρ'.set i (.dat d))
 | .ex c ρ' => .ex c ρ'
 | .bad=> .bad
def yX(m:EM):SM:=fun ρ=>match m ρ with
 | .ok d=>(match(ρ[(0:Nat)]? :Option Sl) with
   |some (.own c)=> .rt (.tuple [d,c])
   |_=> .bad)
 | .ex c=> .ex c ρ
 | .bad=> .bad
def wF(m:XM):SM:=fun ρ=>match m ρ with
 | .ok d ρ' =>(match(ρ'[(0:Nat)]? :Option Sl) with
   |some (.own c)=> .rt (.tuple [d,c])
   |_=> .bad)
 | .ex c ρ' => .ex c ρ'
 | .bad=> .bad
def Ph(i:Nat)(m:XM):SM:=fun ρ=>match ρ[i]? with
 |some (.own (.list _))=>(match m ρ with
  | .ok d ρ' =>(match ρ'[i]? with
    |some (.own (.list ds))=>if ds.length<sizeLine then .nx (ρ'.set i (.own (.list (ds++[d])))) else .bad
    |_=> .bad)
  | .ex c ρ' => .ex c ρ'
  | .bad=> .bad)
 |_=> .bad
def Cj(i:Nat)(mk:EM)(mv:XM):SM:=fun ρ=>match mv ρ with
 | .ok d ρ=>(match ρ[i]? with
   |some (.own (.dict ds))=>if Gu ds=true then(match mk ρ with
    | .ok k=>(match keyOf k with
      |some k=>if ds.length<sizeLine then .nx (ρ.set i (.own (.dict (oX ds k d)))) else .bad
      |none=> .bad)
    | .ex c=> .ex c ρ
    | .bad=> .bad) else .bad
   |_=> .bad)
 | .ex c ρ=> .ex c ρ
 | .bad=> .bad
section
variable{X:Cx}{W:WQ}{rk:Kd}{e:Expr}{m:XM}{me:EM}{pos:Pos}
theorem yG{i:Nat}{x:Str}{pos' :Pos}(hN:X.N.Nodup)(he:DX X W e m)(hi:X.N[i]? =some x:=by rfl)(hx:Loc X.env.scope x:=by first|exact Or.inl rfl|exact Or.inr rfl)(hs:swapsWith e (some (.Name x pos')) pos.line X.env=pure false:=by rfl)
 (hf:X.fn x=true∨X.env.scope.names.lookup x=some .local:=by first|exact .inl rfl|exact .inr rfl|assumption) (ho:Ac W.pin i:=by intro _ z;first|(cases z;done)|exact absurd (dN z).1 (by decide)|(simp at z;done)):DS X W rk (.Assign [.Name x pos'] e pos) (oN i m):=PS.imp (ps_set hN hi hx he hs hf) fun E σ H ⟨Hf,Hb,ρ,R,h⟩=>by
 refine⟨Hf,Hb,ρ,R,fun d ρ' hd v Hb' H' R' b r=> ?_,fun c ρ' hc Hb' H' R' b=> ?_,fun z=> ?_⟩
 ·simp only [oN,hd] at h
  exact h _ Hb' H' (R'.MJ ho r) b
 ·simp only [oN,hc] at h
  exact h _ Hb' H' R' b
 ·simp only [oN,z] at h
  exact h
theorem abL{K:ao}{Hf Hb H:Hp}{σ:L2.St}{ρ:Env}{p:Addr}{v:V}{d c:D}{pn:Pn}(R:iG K pn Hf Hb H σ ρ)(hp:pn=[(0,p)])(q:ρ[0]? =some (.own c))(r:Dr K Hb v d):Rs K (.io p) Hf Hb H v (.tuple [d,c]):=by
 obtain⟨p1,h1,h2,h3,h4⟩:=R.own 0 c q
 have h5:=R.pin 0 p (by rw [hp];simp)
 rw [h1] at h5
 cases h5
 exact⟨d,c,rfl,r,h3,h4,h2⟩
theorem xY{p:Addr}(he:DE X W .dat e me)(hp:W.pin=[(0,p)]:=by rfl):DS X W (.io p) (.Return (some e) pos) (yX me):=PS.imp (ps_ret he) fun E σ H ⟨Hf,Hb,ρ,R,h⟩=>by
 refine⟨Hf,Hb,ρ,R,fun d hd v Hb' H' g r=> ?_,fun c hc Hb' H' g=> ?_,fun z=> ?_⟩
 ·simp only [yX,hd] at h
  split at h
  ·rename_i c q
   exact h v Hb' H' (R.gw g).ef (g.bw R.ef) (abL (R.gw g) hp q r)
  ·exact h.elim
 ·simp only [yX,hc] at h
  exact h _ Hb' H' (R.gw g) (g.bw R.ef)
 ·simp only [yX,z] at h
  exact h
theorem Jy{p:Addr}(he:DX X W e m)(hp:W.pin=[(0,p)]:=by rfl):DS X W (.io p) (.Return (some e) pos) (wF m):=PS.imp (ps_ret he) fun E σ H ⟨Hf,Hb,ρ,R,h⟩=>by
 refine⟨Hf,Hb,ρ,R,fun d ρ' hd v Hb' H' R' b r=> ?_,fun c ρ' hc Hb' H' R' b=> ?_,fun z=> ?_⟩
 ·simp only [wF,hd] at h
  split at h
  ·rename_i c q
   exact h v Hb' H' R'.ef b (abL R' hp q r)
  ·exact h.elim
 ·simp only [wF,hc] at h
  exact h _ Hb' H' R' b
 ·simp only [wF,z] at h
  exact h
theorem Zb{i:Nat}{x:Str}{p p2 p3:Pos}(he:DX X W e m)(hN:X.N[i]? =some x:=by rfl)(hv:Vis X.env.scope x:=by first|exact Or.inl rfl|exact Or.inr (Or.inl rfl)|exact Or.inr (Or.inr rfl))(hd:(x==("__debug__":Str))=false:=by decide)
 (hcd:(x==("__classdict__":Str))=false:=by decide) (hst:starEach [e] X.env=(false,eval e X.env)::starEach [] X.env:=by rfl)
 (hbase:attributeBase (.Name x p) "append" X.env (eval (.Name x p) X.env)=eval (.Name x p) X.env:=by rfl)
 (hfew:((backTo p3 (starEach [e] X.env)).all (fun x=> !x.1)&&(backToKw p3 (keywordEach [] X.env)).all (fun x=>x.1.isSome)
   &&decide (([e]:List Expr).length+([]:List Keyword).length+(if([]:List Keyword).isEmpty then 0 else 1)<30))=true:=by rfl)
 (hline:(p2.endLine==p3.line)=true:=by rfl) (hpl:(backTo p3 (starEach [] X.env)).any (·.1)=false:=by rfl) (hs:swapsWith (.Call (.Attribute (.Name x p) "append" p2) [e] [] p3) none pos.line X.env=pure false:=by rfl):
 DS X W rk (.Expr (.Call (.Attribute (.Name x p) "append" p2) [e] [] p3) pos) (Ph i m):=
 PS.imp (ps_expr (pe_bm PySem.F.plainAttrs_list PySem.F.slot_list_append PySem.F.type_list_append mt_append (pe_var hN hv hd hcd) (pa_cons he pa_nil hst) hbase hfew hline hst hpl) hs) fun E σ H ⟨Hf,Hb,ρ,R,h⟩=>by
  unfold Ph at h
  split at h
  ·rename_i ds0 q0
   obtain⟨p,h1,⟨o,ho,hc⟩,h3,h4⟩:=R.own i _ q0
   cases hc with
   |lst al=>
    refine⟨_,h1, .inl ⟨rfl,_,sq_of ho⟩,Hf,Hb,ρ,R,fun d ρ' hd v Hb' H' R' b r=> ?_,fun c ρ' hc Hb' H' R' b=> ?_,fun z=> ?_⟩
    ·rw [hd] at h
     simp only at h
     split at h
     ·rename_i ds q
      split at h
      ·rename_i hz
       obtain⟨p1,k1,⟨o1,ho1,hc1⟩,k3,k4⟩:=R'.own i _ q
       rw [h1] at k1
       cases k1
       cases hc1 with
       |lst al1=>
        refine⟨p,_,v,rfl,rfl,ho1,by rw [iJ al1];exact hz,?_⟩
        exact h σ Hb' _ (R'.write q h1 (.lst (uK al1 (.cons r .nil)))) (b.trans (Bw.upd R'.eb k4))
      ·exact h.elim
     ·exact h.elim
    ·rw [hc] at h
     exact h σ Hb' H' R' b
    ·rw [z] at h
     exact h.elim
  ·exact h.elim
theorem ZC(i:Nat){x:Str}{k v:Expr}{mk:EM}{mv:XM}{p pos' :Pos}(hu:X.A.units+64<cLine)(hk:DE X W .bor k mk)(hv:DX X W v mv)(hN:X.N[i]? =some x:=by rfl)(hvis:Vis X.env.scope x:=by first|exact Or.inl rfl|exact Or.inr (Or.inl rfl)|exact Or.inr (Or.inr rfl))(hd:(x==("__debug__":Str))=false:=by decide)
 (hcd:(x==("__classdict__":Str))=false:=by decide) (hs:swapsWith v (some (.Subscript (.Name x p) k pos')) pos.line X.env=pure false:=by rfl):DS X W rk (.Assign [.Subscript (.Name x p) k pos'] v pos) (Cj i mk mv):=
 PS.imp (ps_dput (by omega) (pe_var hN hvis hd hcd) hk hv hs) fun E σ H ⟨Hf,Hb,ρ,R,h⟩=>by
 unfold Cj at h
 refine⟨Hf,Hb,ρ,R,fun d ρ1 hd v Hb1 H1 R1 b1 r1=> ?_,fun c ρ1 hc Hb1 H1 R1 b1=> ?_,fun z=> ?_⟩
 ·rw [hd] at h
  simp only at h
  split at h
  ·rename_i ds q
   have hm:Gu ds=true:=by
    cases qm:Gu ds with
    |true=>rfl
    |false=>simp [qm,pU] at h
   simp only [hm,if_true] at h
   obtain⟨p,h1,⟨o,ho,hc⟩,h3,h4⟩:=R1.own i _ q
   cases hc with
   |dT al=>cases hm
   |dK al=>
    refine⟨_,h1,Hf,Hb1,ρ1,R1,fun d2 hd2 y Hb2 H2 g2 r2=> ?_,fun c hc Hb2 H2 g2=> ?_,fun z=> ?_⟩
    ·rw [hd2] at h
     simp only at h
     split at h
     ·rename_i kk hkk
      split at h
      ·rename_i hz
       have ho' :=g2.h _ _ ho
       have R2:=R1.gw g2
       have hb2:Hb2 p=none:=g2.nw p h4 (by rw [ho];exact True.intro)
       have al2:PK X.K Hb2 _ ds:=Paired.imp (fun _ _ q=>⟨q.1,nq g2.b q.2⟩) al
       refine⟨p,_,rfl, .inl ⟨_,kk,ho',r2.key hkk,by rw [aby al];exact hz,rfl⟩,?_⟩
       exact h σ Hb2 _ (R2.write q h1 (.dK (ab4 (nq g2.b r1) al2))) ((b1.trans (g2.bw R1.ef)).trans (Bw.upd g2.bh hb2))
      ·exact h.elim
     ·exact h.elim
    ·rw [hc] at h
     exact h σ Hb2 H2 (R1.gw g2) (b1.trans (g2.bw R1.ef))
    ·rw [z] at h
     exact h.elim
  ·exact h.elim
 ·rw [hc] at h
  exact h σ Hb1 H1 R1 b1
 ·rw [z] at h
  exact h.elim
end
def z8(n:Nat)(m:SM):List D→ER
 |[]=> .bad
 |c::ds=>match m (.own c::(ds.map Sl.dat++aC n .un)) with
  | .nx ρ=>(match(ρ[(0:Nat)]? :Option Sl) with
    |some (.own c')=> .ok (.tuple [.none,c'])
    |_=> .bad)
  | .rt d=> .ok d
  |_=> .bad
theorem ad'{K:ao}{Hb H:Hp}{us:List V}{ds:List D}{c:D}{p:Addr}{N:List Str}{n:Nat}(e:Ex Hb H)(hb:Hb p=none)(ow:Ow K Hb H p c)(r:iV K Hb us ds)(hn:N.length=us.length+1+n):
 iG K [(0,p)] (fun a=>if a=p then none else H a) Hb H (L2.start N (.ref p::us)) (.own c::(ds.map Sl.dat++aC n .un)):=by
 have l1:=iJ r
 have key:∀(i:Nat) s,(.own c::(ds.map Sl.dat++aC n .un))[i]? =some s→(i=0∧s= .own c)∨s= .un∨∃v d,(L2.start N (.ref p::us))[i]? =some (some v)∧s= .dat d∧Dr K Hb v d:=fun i s h=>by
  cases i with
  |zero=>
   left
   simpa using h.symm
  |succ i=>
   right
   rw [aQ] at h
   rcases Nat.lt_or_ge i (ds.map Sl.dat).length with hlt|hge
   ·rw [aO hlt,aH,aK] at h
    obtain⟨d,h1,h2⟩:=h
    obtain⟨v,h3,h4⟩:=Dj r h1
    refine .inr ⟨v,d,?_,h2.symm,h4⟩
    have hlt' :i<us.length:=by simpa [l1] using hlt
    unfold L2.start
    rw [aO (by simp;omega),aH,aQ,h3]
    rfl
   ·rw [bG hge] at h
    exact .inl (List.eq_of_mem_replicate (aX h))
 have at0:(L2.start N (.ref p::us))[0]? =some (some (V.ref p)):=by
  unfold L2.start
  simp
 refine⟨fun i=>if i=0 then [p] else [],fun a o h=> ?_,e,?_,fun i s h=> ?_,fun i=> ?_,fun i a ha=> ?_,fun i j a ne ha hj=> ?_,fun i a z=> ?_⟩
 ·by_cases z:a=p
  ·simp [z] at h
  ·simpa [z] using h
 ·unfold L2.start
  simp
  omega
 ·rcases key i _ h with⟨rfl,z⟩|z|⟨v,d',h1,z,h2⟩
  ·subst z
   exact⟨p,by simp,at0,ow⟩
  ·subst z
   by_cases z:i=0
   ·subst z
    simp at h
   ·simp only [if_neg z]
    rfl
  ·subst z
   by_cases z:i=0
   ·subst z
    simp at h
   ·simp only [if_neg z]
    exact⟨rfl,v,h1,h2⟩
 ·by_cases z:i=0<;>simp [z]
 ·by_cases z:i=0
  ·simp only [z,if_true] at ha
   rw [aV.mp ha]
   exact⟨by simp,hb,ow.nt⟩
  ·simp [z] at ha
 ·by_cases z:i=0
  ·by_cases z2:j=0
   ·exact ne (z.trans z2.symm)
   ·simp [z2] at hj
  ·simp [z] at ha
 ·rcases aV.mp z with z
  cases z
  exact at0
section
variable{P:Program}{w:World}{K:ao}{mg:Str→Option Value}{base:Heap}{x qual:Str}{params:Arguments}{body:List Stmt}{scope:Scope}{dvs:List V}{kws:List (Str×V)}{f:Addr}{fd:FuncData}
theorem agy{N ps:List Str}{k n u:Nat}{m:SM}(F:FunD K x qual params body scope dvs kws f fd)(S:FnScope N ps scope)(hps:ps.length=u+1)(hn:N.length=u+1+n)
 (hbody:∀(p:Addr) (cdv:Value) (A:Around) (outer:List PySem.Env) (s:Shared) (H:Hp) (E:XK),Room k (A.deeper (PyProof.Rows.envOfC qual scope s.heap.objs.size f cdv))→DSs (cxOf (L2.CX P w) P w K mg base N qual scope f cdv A outer s H E) ⟨fun cls d _ H=>E cls d H,[(0,p)]⟩ (.io p) body m):
 FnOk P w K mg base (L2.CX P w) (k+1) f fd ps (O2 K u (z8 n m)):=by
 refine F.ok S (fun vs H Q E h=> ?_) (fun cdv A outer s H vs Q E hr h=> ?_)
 ·obtain⟨Hb,p,us,c,ds,d,c',e,rfl,_,_,_,hu,_⟩:=h
  rw [hps,←hu]
  rfl
 ·obtain⟨Hb,p,us,c,ds,d,c',e,rfl,hb,ow,r,hu,em,hQ⟩:=h
  refine⟨_,hbody p cdv A outer s H E hr,_,Hb,_,ad' e hb ow r (n:=n) (by rw [hn,hu]),?_⟩
  have Wj:∀Hb' H',Ex (fun a=>if a=p then none else H a) H' →Bw (fun a=>if a=p then none else H a) Hb Hb' H' →Hb' p=none→Gio Hb H p Hb' H' :=fun Hb' H' e1 b hp=>⟨fun a o z q=>e1 a o (by simp [z,q]),b.b,b.bh,fun a z1 z2=>by
   by_cases z:a=p
   ·rw [z]
    exact hp
   ·exact b.nw a z1 (by simpa [z] using z2)⟩
  unfold z8 at em
  simp only at em
  cases q:m (.own c::(ds.map Sl.dat++aC n .un)) with
  |nx ρ=>
   rw [q] at em
   simp only at em
   intro σ' Hb' H' R b
   split at em
   ·rename_i c2 q2
    cases em
    obtain⟨d0,c0,z,r0,z1,z2,z3⟩:=abL (v:= .non) (d:= .none) R rfl q2 .non
    cases z
    exact hQ .non Hb' H' (Wj Hb' H' R.ef b z2) .non z3
   ·cases em
  |rt d2=>
   rw [q] at em
   cases em
   intro v Hb' H' e1 b r1
   obtain⟨d0,c0,z,r0,z1,z2,z3⟩:=r1
   cases z
   exact hQ v Hb' H' (Wj Hb' H' e1 b z2) r0 z3
  |ex c ρ=>rw [q] at em;cases em
  |bk ρ=>rw [q] at em;cases em
  |rx d ρ=>rw [q] at em;cases em
  |ct ρ=>rw [q] at em;cases em
  |bad=>rw [q] at em;cases em
end
section
variable{P:Program}{w:World}{K:ao}{mg:Str→Option Value}{base:Heap}{fa:List He.Fa}{fn:List He.DefD}
theorem Hv{x:Str}{d:He.DefD}(Z:nR fa fn K mg)(i j:Nat){N ps:List Str}{k n u:Nat}{m:SM}(hd:fn[i]? =some d)(hx:d.at_=(x,none))(hdf:d.dfl=[])(hkw:d.kwd=[])(hg:fa[j]? =some (.glo x))(S:FnScope N ps d.scope)(hps:ps.length=u+1)(hn:N.length=u+1+n)
 (hb:∀(kV doc pm:Value) (an:Option Addr) (cdv ct:Value) (us:List Value),us.length=ps.length→bindArgs (PySem.W.fnOf d.name d.qual d.params d.body d.scope .none kV doc pm an cdv ct) ⟨us,[]⟩=pure (ps.zip us))
 (hbody:∀(p f:Addr) (cdv:Value) (A:Around) (outer:List PySem.Env) (s:Shared) (H:Hp) (E:XK),Room k (cxOf (L2.CX P w) P w K mg base N d.qual d.scope f cdv A outer s H E).A→Takes (cxOf (L2.CX P w) P w K mg base N d.qual d.scope f cdv A outer s H E) (fun cls d _ H=>E cls d H)→
   PassesOwn (model (cxOf (L2.CX P w) P w K mg base N d.qual d.scope f cdv A outer s H E).prog (cxOf (L2.CX P w) P w K mg base N d.qual d.scope f cdv A outer s H E).w) (cxOf (L2.CX P w) P w K mg base N d.qual d.scope f cdv A outer s H E).A (cxOf (L2.CX P w) P w K mg base N d.qual d.scope f cdv A outer s H E).env (cxOf (L2.CX P w) P w K mg base N d.qual d.scope f cdv A outer s H E).xe→
   DSs (cxOf (L2.CX P w) P w K mg base N d.qual d.scope f cdv A outer s H E) ⟨fun cls d _ H=>E cls d H,[(0,p)]⟩ (.io p) d.body m):
 Has P w K mg base x (k+1) ps (O2 K u (z8 n m)):=by
 obtain⟨fd,F⟩:=Z.says.def_ i hd
 have ea:He.fAd K d.at_=He.ga K x:=by rw [hx];rfl
 rw [ea] at F
 have kp:=F.kp
 have e1:d.dvs K=[]:=by
  unfold He.DefD.dvs
  rw [hdf]
  rfl
 rw [e1] at F
 refine⟨⟨fd,agy F S hps hn (fun p cdv A outer s H E hr=>hbody p _ cdv A outer s H E hr (takes_of rfl rfl rfl rfl) PassesOwn.leaving),F.bindsN hb,?_⟩,kp,Z.glo j hg⟩
 obtain⟨oc,od,_,_,_,_,_,_,_,osl,_,l,_⟩:=F.ex
 exact⟨oc,od,osl,l⟩
end
end DL
namespace DL
open PySem L2 Evl
def Rt(o:Out)(Q:D→Prop):Prop:=∃d,o= .rt d∧Q d
def Nx(o:Out)(N:Env→Prop):Prop:=∃ρ,o= .nx ρ∧N ρ
section
variable{ρ ρ' :Env}{a b c:SM}{m:EM}{d:D}{Q:D→Prop}{N:Env→Prop}{mi:Env→AR}{g:GM}{body:SM}{ds:List D}
theorem wJ{ks:List Kd}{n:Nat}{m:SM}{ds:List D}(h:Rt (m (jV ks ds++aC n .un)) Q):∃d,jF ks n m ds= .ok d∧Q d:=by
 obtain⟨d,e,q⟩:=h
 exact⟨d,by simp [jF,e],q⟩
theorem jg{ks:List Kd}{n:Nat}{m:SM}{ds:List D}{d:D}(h:Rt (m (jV ks ds++aC n .un)) (·=d)):jF ks n m ds= .ok d:=by
 obtain⟨d,e,rfl⟩:=h
 simp [jF,e]
theorem fD(h:a ρ= .nx ρ')(k:Rt (b ρ') Q):Rt (fK a b ρ) Q:=by
 obtain⟨d,e,q⟩:=k
 exact⟨d,by rw [rW h,e],q⟩
theorem oK(h:Nx (a ρ) N)(k:∀ρ',N ρ' →Rt (b ρ') Q):Rt (fK a b ρ) Q:=by
 obtain⟨ρ',e,n⟩:=h
 exact fD e (k ρ' n)
theorem iy(h:a ρ= .nx ρ')(k:Nx (b ρ') N):Nx (fK a b ρ) N:=by
 obtain⟨d,e,q⟩:=k
 exact⟨d,by rw [rW h,e],q⟩
theorem aes{M:Env→Prop}(h:Nx (a ρ) M)(k:∀ρ',M ρ' →Nx (b ρ') N):Nx (fK a b ρ) N:=by
 obtain⟨ρ',e,n⟩:=h
 exact iy e (k ρ' n)
theorem jP(h:Rt (a ρ) Q):Rt (fK a b ρ) Q:=by
 obtain⟨d,e,q⟩:=h
 exact⟨d,CZ e,q⟩
theorem sX(h:m ρ= .ok (.bool true))(k:Rt (a ρ) Q):Rt (ju m a b ρ) Q:=by rwa [CP h]
theorem Rq(h:m ρ= .ok (.bool true))(k:Nx (a ρ) N):Nx (ju m a b ρ) N:=by rwa [CP h]
theorem Ox(h:m ρ= .ok (.bool false))(k:Nx (b ρ) N):Nx (ju m a b ρ) N:=by rwa [vC h]
theorem gU(h:m ρ= .ok d)(q:Q d):Rt (gH m ρ) Q:=⟨d,ret_ok h,q⟩
theorem adm{i:Nat}(h:ρ[i]? =some (.own d))(q:Q d):Rt (zf i ρ) Q:=⟨d,by simp only [zf,h],q⟩
theorem jE(h:a ρ= .nx ρ')(n:N ρ'):Nx (a ρ) N:=⟨ρ',h,n⟩
theorem lZ(P:Nat→Env→Prop)(hi:mi ρ= .ok ds)(h0:P 0 ρ)(hs:∀(i:Nat) d ρ,ds[i]? =some d→P i ρ→∃ρ1,g d ρ=some ρ1∧Nx (body ρ1) (P (i+1))):Nx (mZ mi g body ρ) (P ds.length):=by
 obtain⟨ρ',h1,h2⟩:=JK P hi h0 (fun i d ρ hd hP=>by
  obtain⟨ρ1,e1,ρ2,e2,e3⟩:=hs i d ρ hd hP
  exact⟨ρ1,ρ2,e1, .inl e2,e3⟩)
 exact⟨ρ',h1,h2⟩
end
section
variable{c:EM}{body:SM}{ρ:Env}
theorem Qv(P:Nat→Env→Prop){N:Env→Prop}:∀(n:Nat) (f:Nat) (ρ:Env),n<f→P n ρ→(∀n ρ,P n ρ→(c ρ= .ok (.bool false)∧N ρ)∨(c ρ= .ok (.bool true)∧∃n',n' <n∧Nx (body ρ) (P n')))→Nx (qC c body f ρ) N
 |n,0,ρ,hf,_,_=>by omega
 |n,f+1,ρ,hf,hP,hs=>by
  rcases hs n ρ hP with⟨h1,h2⟩|⟨h1,n',h2,ρ2,h3,h4⟩
  ·exact⟨ρ,by simp only [qC,h1],h2⟩
  ·obtain⟨ρ3,h5,h6⟩:=Qv P n' f ρ2 (by omega) h4 hs
   exact⟨ρ3,by simp only [qC,h1,h3,h5],h6⟩
theorem Wh{n:Nat}(h:n<2 ^ 100):n<FUEL:=by
 unfold FUEL
 exact h
theorem xK(P:Nat→Env→Prop){N:Env→Prop}(n:Nat)(hn:n<2 ^ 100)(h0:P n ρ)(hs:∀n ρ,P n ρ→(c ρ= .ok (.bool false)∧N ρ)∨(c ρ= .ok (.bool true)∧∃n',n' <n∧Nx (body ρ) (P n'))):Nx (Ai c body ρ) N:=
 Qv P n FUEL ρ (Wh hn) h0 hs
end
theorem lu{i j:Int}(h:0<j)(h2:j<10 ^ 300):jy (.int i) (.int j)= .ok (.int (i/j)):=by
 have e:j.natAbs.log2≤1000:=FZ (by
  have:(10:Int) ^ 300<2 ^ 1000:=by decide
  omega)
 have c:(0:Int)<j∧j.natAbs.log2<9000:=⟨h,by omega⟩
 simp only [jy,c,and_self,if_true]
theorem mJ{i j:Int}(h1: -10 ^ 300<i)(h2:i<10 ^ 300)(h3: -10 ^ 300<j)(h4:j<10 ^ 300):jZ (.int i) (.int j)= .ok (.int (i*j)):=
 Zw 1000 1000 (by
  have:(10:Int) ^ 300<2 ^ 1000:=by decide
  omega) (by
  have:(10:Int) ^ 300<2 ^ 1000:=by decide
  omega)
theorem BW{i j:Int}(h:0<j)(h2:j<10 ^ 300):Y5 [.int i, .int j]= .ok (.tuple [.int (i/j), .int (i%j)]):=by
 have e:j.natAbs.log2≤1000:=FZ (by
  have:(10:Int) ^ 300<2 ^ 1000:=by decide
  omega)
 have c:(0:Int)<j∧j.natAbs.log2<9000:=⟨h,by omega⟩
 simp only [Y5,c,and_self,if_true]
theorem tW{ds:List D}{i:Int}(h0:0≤i)(h:i<ds.length):gj (.list ds) (.int i)= .ok (ds.getD i.toNat .none):=by
 rw [abr h0 h]
 simp [bJ,show i.toNat<ds.length by omega]
theorem Gi{ρ:Env}{m:EM}{j:Int}(hb:m ρ= .ok (.int j))(h1: -1000000000≤j)(h2:j≤1000000000):HD m ρ= .ok (nJ 0 j):=afh hb (Xb h1 h2)
theorem aaL{α:Type}(xs:List α)(d:α)(h:1≤xs.length):xs=xs.take (xs.length-1)++[xs.getD (xs.length-1) d]:=by
 have hl:xs.length-1<xs.length:=by omega
 have e:=bO (xs.length-1) xs
 conv=>lhs;rw [←e]
 rw [List.drop_eq_getElem_cons hl,List.drop_of_length_le (by omega)]
 simp [bJ,hl]
theorem oA{G:List D→ER}{ma:EM}{ρ:Env}{x:D}{r:ER}(ha:ma ρ= .ok x)(h:G [x]=r):fG G [ma] ρ=r:=by rw [QH,ha,gY,h]
theorem jM{G:List D→ER}{ma mb:EM}{ρ:Env}{x y:D}{r:ER}(ha:ma ρ= .ok x)(hb:mb ρ= .ok y)(h:G [x,y]=r):fG G [ma,mb] ρ=r:=by rw [JG,ha,gY,hb,gY,h]
theorem kE{G:List D→ER}{ma mb mc:EM}{ρ:Env}{x y z:D}{r:ER}(ha:ma ρ= .ok x)(hb:mb ρ= .ok y)(hc:mc ρ= .ok z)(h:G [x,y,z]=r):fG G [ma,mb,mc] ρ=r:=by rw [JS,ha,gY,hb,gY,hc,gY,h]
theorem oW{G:List D→ER}{ma mb mc md:EM}{ρ:Env}{x y z w:D}{r:ER}(ha:ma ρ= .ok x)(hb:mb ρ= .ok y)(hc:mc ρ= .ok z)(hd:md ρ= .ok w)(h:G [x,y,z,w]=r):fG G [ma,mb,mc,md] ρ=r:=by rw [Rj,ha,gY,hb,gY,hc,gY,hd,gY,h]
def Go(o:Out)(N:Env→Prop)(Q:D→Prop):Prop:=(∃ρ,o= .nx ρ∧N ρ)∨∃d,o= .rt d∧Q d
theorem Ue{o:Out}{N:Env→Prop}{Q:D→Prop}(h:Nx o N):Go o N Q:= .inl h
theorem aa'{o:Out}{N:Env→Prop}{Q:D→Prop}(h:Rt o Q):Go o N Q:= .inr h
theorem wH{a b:SM}{ρ ρ' :Env}{N:Env→Prop}{Q:D→Prop}(h:a ρ= .nx ρ')(k:Go (b ρ') N Q):Go (fK a b ρ) N Q:=by
 unfold Go
 rw [rW h]
 exact k
theorem aeE{a b:SM}{ρ:Env}{M:Env→Prop}{Q:D→Prop}(h:Go (a ρ) M Q)(k:∀ρ',M ρ' →Rt (b ρ') Q):Rt (fK a b ρ) Q:=by
 rcases h with⟨ρ',e,n⟩|⟨d,e,q⟩
 ·exact fD e (k ρ' n)
 ·exact⟨d,CZ e,q⟩
theorem aa8{m:EM}{a b:SM}{ρ:Env}{N:Env→Prop}{Q:D→Prop}(h:m ρ= .ok (.bool true))(k:Go (a ρ) N Q):Go (ju m a b ρ) N Q:=by rwa [CP h]
theorem aaC{m:EM}{a b:SM}{ρ:Env}{N:Env→Prop}{Q:D→Prop}(h:m ρ= .ok (.bool false))(k:Go (b ρ) N Q):Go (ju m a b ρ) N Q:=by rwa [vC h]
theorem O6{c:EM}{body:SM}(P:Nat→Env→Prop){N:Env→Prop}{Q:D→Prop}:∀(n:Nat) (f:Nat) (ρ:Env),n<f→P n ρ→(∀n ρ,P n ρ→(c ρ= .ok (.bool false)∧N ρ)∨(c ρ= .ok (.bool true)∧Go (body ρ) (fun ρ' =>∃n',n' <n∧P n' ρ') Q))→Go (qC c body f ρ) N Q
 |n,0,ρ,hf,_,_=>by omega
 |n,f+1,ρ,hf,hP,hs=>by
  rcases hs n ρ hP with⟨h1,h2⟩|⟨h1,⟨ρ2,h3,n',h2,h4⟩|⟨d,h3,h4⟩⟩
  ·exact .inl ⟨ρ,by simp only [qC,h1],h2⟩
  ·have ih:=O6 P n' f ρ2 (by omega) h4 hs
   have e:qC c body (f+1) ρ=qC c body f ρ2:=by simp only [qC,h1,h3]
   unfold Go
   rw [e]
   exact ih
  ·exact .inr ⟨d,by simp only [qC,h1,h3],h4⟩
theorem abK{c:EM}{body:SM}{ρ:Env}(P:Nat→Env→Prop){N:Env→Prop}{Q:D→Prop}(n:Nat)(hn:n<2 ^ 100)(h0:P n ρ)(hs:∀n ρ,P n ρ→(c ρ= .ok (.bool false)∧N ρ)∨(c ρ= .ok (.bool true)∧Go (body ρ) (fun ρ' =>∃n',n' <n∧P n' ρ') Q)):Go (Ai c body ρ) N Q:=
 O6 P n FUEL ρ (Wh hn) h0 hs
end DL
namespace DL
open PySem PySem.Spec L2 Evl PyProof.Rows
section
variable{X:Cx}{pins:List (Addr×Obj)}{σ:L2.St}{H:Hp}{s:Shared}{a:Addr}{kvs:List (Key×V)}{A:Around}{E:Value→Shared→Prop}
theorem aaE{Q:Value→Shared→Prop}(I:Inv X pins σ H s)(e:Rd H a (.dK kvs))(h:∀s',Inv X pins σ H s' →Q .none s'):wpAny (model X.prog X.w) A (call (.builtin "dict.get") [.ref a, .none]) Q E s:=by
 obtain⟨_,hd,vs,_,dd⟩:=dk_rd I.hok e
 obtain⟨f,hm,hf⟩:=none_map dd
 refine call_meetsIn PySem.F.slot_dict_get dd.typeIs PySem.F.entry_dict_get (PySem.F.args_dict_get_2 _ _) (meets_dict_get (noneKind X.prog X.w) a (show(noneKind X.prog X.w).is none .none=true from rfl) hd) ⟨_,hm,?_⟩
 rw [hf]
 exact h _ (I.tok _)
end
def aem(td ty:TE):TE:=fun σ H Q=>td σ H fun x H1=>∃a,x= .ref a∧IsD H1 a∧ty σ H1 fun y H2=>(∃o,DGet H2 a y o∧Q (o.getD .non) H2)∨∃kvs,y= .non∧Rd H2 a (.dK kvs)∧Q .non H2
section
variable{X:Cx}{o e f:Expr}{apos cpos:Pos}{td ty tx:TE}
theorem aag(hu:X.A.units+1<cLine)(ho:PE X o td)(he:PE X e ty)(m:M1 X o "get" apos e cpos):PE X (.Call (.Attribute o "get" apos) [e] [] cpos) (aem td ty):=by
 refine⟨fun pins s σ H Q I h=> ?_⟩
 refine wpAny_Call_method m.base m.few m.line PySem.F.plainAttrs_dict PySem.F.slot_dict_get PySem.F.type_dict_get (thn (ho.run pins s σ H _ I h) fun u s1 ⟨x,H1,I1,rx,a,ex,d,q1⟩=> ?_)
 subst ex
 obtain rfl:u=Value.ref a:=rx
 obtain⟨t1,t2,_⟩:=isD_at I1 d
 refine⟨t1,t2,?_⟩
 rw [m.trees]
 refine Calls.callWith_builtin rfl (Calls.evalArgs_plain (Calls.spliced_cons (thn (he.run pins s1 σ H1 _ I1 q1) fun iv s2 ⟨y,H2,I2,ry,q2⟩=>Calls.spliced_nil ?_)))
 rcases q2 with⟨ov,g,q2⟩|⟨kvs,ey,g,q2⟩
 ·exact d_get1 hu I2 g ry fun w' s3 I3 rw' =>⟨_,H2,I3,rw',q2⟩
 ·subst ey
  obtain rfl:iv=Value.none:=ry
  exact aaE I2 g fun s3 I3=>⟨.non,H2,I3,rfl,q2⟩
end
def QF:D→D→ER
 | .dict _, .none=> .ok .none
 |x,k=>Ja x k
def pW(ma mb:EM):EM:=fun ρ=>(ma ρ).bind fun x=>match x with
 | .dict ds=>if Gu ds=true then(mb ρ).bind (QF (.dict ds)) else .bad
 |_=> .bad
section
variable{X:Cx}{W:WQ}{o e:Expr}{ma mb:EM}{apos cpos:Pos}
theorem Ls(hu:X.A.units+64<cLine)(ha:DE X W .bor o ma)(hb:DE X W .bor e mb)(hm:M1 X o "get" apos e cpos:=by exact⟨rfl,rfl,rfl,rfl⟩):DE X W .dat (.Call (.Attribute o "get" apos) [e] [] cpos) (pW ma mb):=
 PE.imp (aag (by omega) ha hb hm) fun σ H Q ⟨Hf,Hb,ρ,R,h1,h2,h3⟩=>by
 refine⟨Hf,Hb,ρ,R,fun d hd v Hb1 H1 g1 r1=> ?_,fun c hc Hb1 H1 g1=>h2 c (by simp [pW,hc,ER.bind]) Hb1 H1 g1,fun z=>h3 (by simp [pW,z,ER.bind])⟩
 cases d with
 |dict ds=>
  have hm:Gu ds=true:=by
   cases qm:Gu ds with
   |true=>rfl
   |false=>exact absurd (by simp [pW,hd,qm,ER.bind]) h3
  obtain⟨p,kvs,rfl,hd1,pk⟩:=Bo.dict g1.bh r1 hm
  refine⟨p,rfl,aeW hd1,Hf,Hb1,ρ,R.gw g1,fun d2 hd2 v2 Hb2 H2 g2 r2=> ?_,fun c hc Hb2 H2 g2=>h2 c (by simp [pW,hd,hm,hc,ER.bind]) Hb2 H2 (g1.trans g2),fun z=>h3 (by simp [pW,hd,hm,z,ER.bind])⟩
  have e:pW ma mb ρ=QF (.dict ds) d2:=by simp [pW,hd,hm,hd2,ER.bind]
  rw [e] at h1 h3
  have old:QF (.dict ds) d2=Ja (.dict ds) d2→∃o,DGet H2 p v2 o∧Q (o.getD .non) H2:=fun ed=>by
   rw [ed] at h1 h3
   cases hk:keyOf d2 with
   |none=>exact absurd (by simp only [Ja,hm,if_true,hk]) h3
   |some k=>
    have pk2:PK X.K Hb2 kvs ds:=Paired.imp (fun _ _ q=>⟨q.1,nq g2.b q.2⟩) pk
    rcases FJ (k:=k) pk2 with⟨z1,z2⟩|⟨v,d,z1,z2,z3⟩
    ·exact⟨none, .inl ⟨kvs,k,ex_rd g2.h hd1,r2.key hk,z1.symm⟩,h1 .none (by simp only [Ja,hm,if_true,hk,z2];rfl) .non Hb2 H2 (g1.trans g2) Xk⟩
    ·exact⟨some v, .inl ⟨kvs,k,ex_rd g2.h hd1,r2.key hk,z1.symm⟩,h1 d (by simp only [Ja,hm,if_true,hk,z2];rfl) v Hb2 H2 (g1.trans g2) z3⟩
  cases d2 with
  |none=>exact .inr ⟨kvs,r2.non,ex_rd g2.h hd1,h1 .none rfl .non Hb2 H2 (g1.trans g2) Xk⟩
  |bool _=>exact .inl (old rfl)
  |int _=>exact .inl (old rfl)
  |str _=>exact .inl (old rfl)
  |list _=>exact .inl (old rfl)
  |tuple _=>exact .inl (old rfl)
  |dict _=>exact .inl (old rfl)
 |_=>exact absurd (by simp [pW,hd,ER.bind]) h3
end
def YB(r r' r'' :R2)(ta tb tc td:TE):TE:=fun σ H Q=>ta σ H fun x H1=>tb σ H1 fun y H2=>r x y H2 fun z H3=>∃k,z= .bl k∧
 (if k=true then tc σ H3 fun w H4=>r' y w H4 fun z' H5=>∃k',z' = .bl k' ∧(if k' =true then td σ H5 fun u H6=>r'' w u H6 Q else Q (.bl false) H5) else Q (.bl false) H3)
section
variable{X:Cx}{a b c d:Expr}{ta tb tc td:TE}{pos:Pos}
theorem aam{op op' op'' :CmpOp}{r r' r'' :R2}(ho:OpR X (compareOp op) r)(ho' :OpR X (compareOp op') r')(ho'' :OpR X (compareOp op'') r'')(ha:PE X a ta)(hb:PE X b tb)(hc:PE X c tc)(hd:PE X d td)
 (hm:lastMarks [op,op',op''] [b,c,d]=false:=by with_unfolding_all rfl):PT X (.Compare a [op,op',op''] [b,c,d] pos) (tTest (YB r r' r'' ta tb tc td)):=by
 refine⟨fun pins s σ H Q I h=> ?_⟩
 refine isTrue_chain (thn (ha.run pins s σ H _ I h) fun v s1 ⟨x,H1,I1,r1,q1⟩=>test_link (thn (hb.run pins s1 σ H1 _ I1 q1) fun u s2 ⟨y,H2,I2,r2,q2⟩=>
  thn (ho pins s2 σ H2 x y v u _ I2 r1 r2 q2) fun dd s3 ⟨z,H3,I3,r3,k,e,q3⟩=> ?_)) hm
 subst e
 cases r3
 refine wpAny_truthy_bool ?_
 cases k with
 |false=>
  obtain⟨k',e',q'⟩:=q3
  cases e'
  exact ite_ff ⟨H3,I3,q'⟩
 |true=>
  refine ite_tt (test_link (thn (hc.run pins s3 σ H3 _ I3 q3) fun w' s4 ⟨z',H4,I4,r4,q4⟩=>thn (ho' pins s4 σ H4 y z' u w' _ I4 r2 r4 q4) fun d5 s5 ⟨z5,H5,I5,r5,k5,e5,q5⟩=> ?_))
  subst e5
  cases r5
  refine wpAny_truthy_bool ?_
  cases k5 with
  |false=>
   obtain⟨k',e',q'⟩:=q5
   cases e'
   exact ite_ff ⟨H5,I5,q'⟩
  |true=>
   refine ite_tt (test_last (thn (hd.run pins s5 σ H5 _ I5 q5) fun w6 s6 ⟨z6,H6,I6,r6,q6⟩=>thn (ho'' pins s6 σ H6 z' z6 w' w6 _ I6 r4 r6 q6) fun d7 s7 ⟨z7,H7,I7,r7,k7,e7,q7⟩=> ?_))
   subst e7
   cases r7
   exact wpAny_truthy_bool ⟨H7,I7,q7⟩
end
def oO(g g' g'' :D→D→ER)(ma mb mc md:EM):EM:=fun ρ=>(ma ρ).bind fun x=>(mb ρ).bind fun y=>(g x y).bind fun z=>match z with
 | .bool true=>(mc ρ).bind fun w=>(g' y w).bind fun z' =>(match z' with
   | .bool true=>(md ρ).bind fun u=>g'' w u
   | .bool false=> .ok (.bool false)
   |_=> .bad)
 | .bool false=> .ok (.bool false)
 |_=> .bad
section
variable{K:ao}{W:WQ}{ma mb mc md:EM}{g g' g'' :D→D→ER}
theorem Xr(ng:kh g)(ng' :kh g')(ng'' :kh g''){σ:L2.St}{H:Hp}{Q:VK}(h:Bp K W .dat (oO g g' g'' ma mb mc md) σ H Q):YB (Y4 K .dat g) (Y4 K .dat g') (Y4 K .dat g'') (Bp K W .bor ma) (Bp K W .bor mb) (Bp K W .bor mc) (Bp K W .bor md) σ H Q:=by
 obtain⟨Hf,Hb,ρ,R,h1,h2,h3⟩:=h
 refine⟨Hf,Hb,ρ,R,fun d hd v Hb1 H1 g1 r1=> ?_,fun c hc Hb1 H1 g1=>h2 c (by simp [oO,hc,ER.bind]) Hb1 H1 g1,fun z=>h3 (by simp [oO,z,ER.bind])⟩
 refine⟨Hf,Hb1,ρ,R.gw g1,fun d2 hd2 v2 Hb2 H2 g2 r2=> ?_,fun c hc Hb2 H2 g2=>h2 c (by simp [oO,hd,hc,ER.bind]) Hb2 H2 (g1.trans g2),fun z=>h3 (by simp [oO,hd,z,ER.bind])⟩
 cases q:g d d2 with
 |bad=>exact absurd (by simp [oO,hd,hd2,q,ER.bind]) h3
 |ex c=>exact absurd q (ng _ _ _)
 |ok z=>
  refine⟨Hb2,d,d2,z,g2.bh,Bo.ex g2.b g2.h r1,r2,q,fun v3 Hb3 H3 g3 r3=> ?_⟩
  have gg:Gw Hb H Hb3 H3:=(g1.trans g2).trans g3
  cases z with
  |bool b=>
   have e1:v3= .bl b:=Bo.bl (K:=K) (Hb:=Hb3) (H:=H3) (.inl r3)
   refine⟨b,e1,?_⟩
   cases b with
   |false=>
    show Q (.bl false) H3
    exact h1 (.bool false) (by simp [oO,hd,hd2,q,ER.bind]) _ Hb3 H3 gg lQ
   |true=>
    show Bp K W .bor mc σ H3 fun w' H4=>Y4 K .dat g' v2 w' H4 _
    have e:oO g g' g'' ma mb mc md ρ=(mc ρ).bind fun w=>(g' d2 w).bind fun z' =>(match z' with
     | .bool true=>(md ρ).bind fun u=>g'' w u
     | .bool false=> .ok (.bool false)
     |_=> .bad):=by simp only [oO,hd,hd2,q,ER.bind]
    rw [e] at h1 h2 h3
    refine⟨Hf,Hb3,ρ,R.gw gg,fun d4 hd4 v4 Hb4 H4 g4 r4=> ?_,fun c hc Hb4 H4 g4=>h2 c (by simp [hc,ER.bind]) Hb4 H4 (gg.trans g4),fun z=>h3 (by simp [z,ER.bind])⟩
    rw [hd4] at h1 h2 h3
    cases q4:g' d2 d4 with
    |bad=>exact absurd (by simp [q4,ER.bind]) h3
    |ex c=>exact absurd q4 (ng' _ _ _)
    |ok z4=>
     refine⟨Hb4,d2,d4,z4,g4.bh,Bo.ex (g3.b.trans g4.b) (g3.h.trans g4.h) r2,r4,q4,fun v5 Hb5 H5 g5 r5=> ?_⟩
     have gg5:Gw Hb H Hb5 H5:=(gg.trans g4).trans g5
     cases z4 with
     |bool b4=>
      have e4:v5= .bl b4:=Bo.bl (K:=K) (Hb:=Hb5) (H:=H5) (.inl r5)
      refine⟨b4,e4,?_⟩
      cases b4 with
      |false=>
       show Q (.bl false) H5
       exact h1 (.bool false) (by simp [q4,ER.bind]) _ Hb5 H5 gg5 lQ
      |true=>
       show Bp K W .bor md σ H5 fun w' H6=>Y4 K .dat g'' v4 w' H6 Q
       have e6:((ER.ok d4).bind fun w=>(g' d2 w).bind fun z' =>(match z' with
        | .bool true=>(md ρ).bind fun u=>g'' w u
        | .bool false=> .ok (.bool false)
        |_=> .bad))=(md ρ).bind fun u=>g'' d4 u:=by simp only [q4,ER.bind]
       rw [e6] at h1 h2 h3
       refine⟨Hf,Hb5,ρ,R.gw gg5,fun d6 hd6 v6 Hb6 H6 g6 r6=> ?_,fun c hc Hb6 H6 g6=>h2 c (by simp [hc,ER.bind]) Hb6 H6 (gg5.trans g6),fun z=>h3 (by simp [z,ER.bind])⟩
       rw [hd6] at h1 h3
       cases q6:g'' d4 d6 with
       |bad=>exact absurd (by simp [q6,ER.bind]) h3
       |ex c=>exact absurd q6 (ng'' _ _ _)
       |ok z6=>exact⟨Hb6,d4,d6,z6,g6.bh,Bo.ex (g5.b.trans g6.b) (g5.h.trans g6.h) r4,r6,q6,fun v Hb7 H7 g7 r7=>h1 z6 (by simp [q6,ER.bind]) v Hb7 H7 ((gg5.trans g6).trans g7) r7⟩
     |_=>exact absurd (by simp [q4,ER.bind]) h3
  |_=>exact absurd (by simp [oO,hd,hd2,q,ER.bind]) h3
end
section
variable{X:Cx}{W:WQ}{a b c d:Expr}{ma mb mc md:EM}{g g' g'' :D→D→ER}{pos:Pos}
theorem aad{op op' op'' :CmpOp}(ho:Ds X (compareOp op) .dat g)(ho' :Ds X (compareOp op') .dat g')(ho'' :Ds X (compareOp op'') .dat g'')(ng:kh g)(ng' :kh g')(ng'' :kh g'')(ha:DE X W .bor a ma)(hb:DE X W .bor b mb)(hc:DE X W .bor c mc)(hd:DE X W .bor d md)
 (hm:lastMarks [op,op',op''] [b,c,d]=false:=by with_unfolding_all rfl):DT X W (.Compare a [op,op',op''] [b,c,d] pos) (oO g g' g'' ma mb mc md):=PT.imp (aam ho ho' ho'' ha hb hc hd hm) fun σ H Q h=>by
 obtain⟨Hf,Hb,ρ,R,h1,h2,h3⟩:=JB h
 exact Xr ng ng' ng'' ⟨Hf,Hb,ρ,R,fun d hd v Hb' H' g r=>h1 d hd v Hb' H' g (.inl r),h2,h3⟩
end
theorem YD{X:Cx}(hu:X.A.units+1<cLine):IxR X (fun x y H Q=>∃a v,x= .ref a∧DGet H a y (some v)∧Q v H):=by
 intro value slice pins s σ H x y v u Q I rx ry h hs
 obtain⟨a,w,rfl,g,q⟩:=h
 obtain rfl:v=Value.ref a:=rx
 have hT:=dict_typeIs I g
 unfold subscriptTail
 refine wpAny_bind ?_
 rw [getitemInPython_of_ne hT.not_modules]
 refine wpAny_bind (wpAny_specialOf hT PySem.F.slot_dict_getitem.lookup ?_)
 have fin:wpAny (model X.prog X.w) X.A (subscripted slice false (.ref a) u) (fun r s₃=>wpAny (model X.prog X.w) X.A (letTemporaryGo value (.ref a) r>>=fun _=>pure r) (EP X pins σ Q) X.xe s₃) X.xe s:=by
  rw [hs]
  exact wpAny_operating (wpAny_mono (d_getItem hu I g ry fun w' s3 I3 rw' =>(⟨w,H,I3,rw',q⟩:EP X pins σ Q w' s3)) (fun r s₃ h₃=>wpAny_bind (wpAny_letTemporaryGo (wpAny_pure h₃))) fun _ _ x=>x)
 first
  |exact wpAny_pure (wpAny_bind fin)
  |exact wpAny_bind (wpAny_pure (wpAny_bind fin))
  |exact wpAny_bind fin
def GF:D→D→ER
 | .dict ds,k=>jr (.dict ds) k
 |x,k=>gj x k
theorem aeP:kh GF:=fun x y c h=>by
 cases x with
 |dict ds=>exact adI (.dict ds) y c h
 |none=>exact HJ .none y c h
 |bool b=>exact HJ (.bool b) y c h
 |int b=>exact HJ (.int b) y c h
 |str b=>exact HJ (.str b) y c h
 |list b=>exact HJ (.list b) y c h
 |tuple b=>exact HJ (.tuple b) y c h
theorem afP{X:Cx}(hu:X.A.units+64<cLine):IxR X (Y4 X.K .dat GF):=by
 intro value slice pins s σ H x y v u Q I rx ry h hs
 obtain⟨Hb,dx,dy,d,eb,bx,byy,hg,q⟩:=h
 have old:GF dx dy=gj dx dy→wpAny (model X.prog X.w) X.A (subscriptTail value slice v u) (EP X pins σ Q) X.xe s:=fun e=>by
  rw [e] at hg
  exact aa3 value slice pins s σ H x y v u Q I rx ry ⟨Hb,dx,dy,d,eb,bx,byy,hg,q⟩ hs
 cases dx with
 |dict ds=>
  have hm:Gu ds=true:=by
   cases qm:Gu ds with
   |true=>rfl
   |false=>simp [GF,jr,qm] at hg
  obtain⟨p,kvs,rfl,hd,pk⟩:=bx.dict eb hm
  simp only [GF,jr,hm,if_true] at hg
  split at hg
  ·rename_i k hk
   rcases FJ (k:=k) pk with⟨z1,z2⟩|⟨w,d',z1,z2,z3⟩
   ·rw [z2] at hg
    cases hg
   ·rw [z2] at hg
    cases hg
    exact YD (by omega) value slice pins s σ H _ y v u Q I rx ry ⟨p,w,rfl, .inl ⟨kvs,k,hd,byy.key hk,z1.symm⟩,q w Hb H (Gw.refl eb) z3⟩ hs
  ·cases hg
 |none=>exact old rfl
 |bool _=>exact old rfl
 |int _=>exact old rfl
 |str _=>exact old rfl
 |list _=>exact old rfl
 |tuple _=>exact old rfl
theorem Wt{X:Cx}{W:WQ}{a b:Expr}{ma mb:EM}{pos:Pos}(hu:X.A.units+64<cLine)(ha:DE X W .bor a ma)(hb:DE X W .bor b mb)(hs:PlainIx b:=by exact fun _ _=>rfl):DE X W .dat (.Subscript a b pos) (eV GF ma mb):=PE.imp (pe_ix (afP hu) ha hb hs) fun _ _ _=>ye aeP
end DL
namespace DL
open PySem PySem.Spec L2 Evl PyProof.Rows
def iRv(m:EM):Env→AR:=fun ρ=>match m ρ with
 | .ok (.list ds)=> .ok ds.reverse
 | .ok _=> .bad
 | .ex c=> .ex c
 | .bad=> .bad
theorem aeQ{K:ao}{Hb1:Hp}{p:Addr}{xs:List V}{ds:List D}(h:SqL K Hb1 p xs)(a:iV K Hb1 xs ds):Yl K Hb1 (Itv K p xs.length) ds.reverse where
 go:=fun i H e hi=>by
  have hl:=iJ a
  rw [bL] at hi
  exact⟨by omega,xs,xs[xs.length-1-i]'(by omega),ex_l e h,by simp⟩
 stop:=fun H e=>by
  show xs.length≤ds.reverse.length
  rw [bL,iJ a]
  exact bA _
 yld:=fun i H x H' Hb e1 e2 hi y=>by
  obtain⟨rfl,y⟩:=y
  have hl:=iJ a
  rw [bL] at hi
  have hx:=y xs (ex_l (e1.trans e2) h)
  obtain⟨d,d1,d2⟩:=uM a hx
  refine⟨Hb,d,Gw.refl e2,?_,nq e1 d2⟩
  rw [List.getElem?_reverse hi,←hl]
  exact d1
theorem aeG{X:Cx}{W:WQ}{tg e:Expr}{m:EM}{p pos:Pos}(hm:X.mg "reversed"=none)(h:DE X W .dat e m)(hg:Gl X "reversed":=by rfl)(hs:starEach [e] X.env=[(false,eval e X.env)]:=by rfl):DI X W tg (.Call (.Name "reversed" p) [e] [] pos) (iRv m):=
 PI.imp (pi_reversed hg hm (pa_cons h pa_nil hs) hs) fun σ H R ⟨Hf,Hb,ρ,Re,h1,h2,h3⟩=>by
 refine⟨Hf,Hb,ρ,Re,fun d hd v Hb' H' g r=> ?_,fun c hc=>h2 c (by simp [iRv,hc]),fun z=>h3 (by simp [iRv,z])⟩
 cases d with
 |list ds=>
  cases r with
  |lst s a=>exact⟨_,_,rfl,ex_l g.bh s,h1 _ (by simp [iRv,hd]) _ Hb' H' g (aeQ s a)⟩
 |_=>exact absurd (by simp [iRv,hd]) h3
def Oz(n:Int)(ns:List Int):Int:=ns.foldl min n
theorem Zr:∀(ns:List Int) (n:Int),Oz n ns≤n∧∀y∈ns,Oz n ns≤y
 |[],n=>⟨Int.le_refl _,fun y h=>by cases h⟩
 |m::ns,n=>by
  have ih:=Zr ns (min n m)
  show Oz (min n m) ns≤n∧∀y∈m::ns,Oz (min n m) ns≤y
  refine⟨by omega,fun y hy=> ?_⟩
  rcases aJ.mp hy with h|h
  ·omega
  ·exact ih.2 y h
theorem V2:∀(ns:List Int) (n:Int),Oz n ns∈n::ns
 |[],n=>aV.mpr rfl
 |m::ns,n=>by
  have ih:=V2 ns (min n m)
  show Oz (min n m) ns∈n::m::ns
  rcases aJ.mp ih with h|h
  ·rcases Int.le_total n m with z|z
   ·rw [h,Int.min_eq_left z]
    exact bB
   ·rw [h,Int.min_eq_right z]
    exact aM _ bB
  ·exact aM _ (aM _ h)
def Nq:List D→ER
 |[.list ds]=>(match toInts ds with
  |some (n::ns)=> .ok (.int (Oz n ns))
  |_=> .bad)
 |_=> .bad
theorem aef:zp Nq:=fun ds c h=>by
 unfold Nq at h
 repeat' split at h
 all_goals cases h
theorem adg{X:Cx}(hc:X.calm=true):CallD X (.builtin "min") .dat Nq:=by
 intro pins s σ H vs us Q I r h
 obtain⟨Hb,ks,ds,d,eb,ra,hg,q⟩:=h
 unfold Nq at hg
 split at hg
 ·split at hg
  ·rename_i n ns hn
   cases hg
   obtain⟨v,rfl,b1⟩:=ra1 ra
   obtain⟨p,xs,e1,s1,a1⟩:=b1.lst eb
   rw [z9 hn a1] at s1
   refine cr_min hc pins s σ H _ us Q I r ⟨p,n::ns,by rw [e1],s1,by simp,fun m h1 h2=> ?_⟩
   have e2:m=Oz n ns:=by
    have z1:=h2 _ (V2 ns n)
    have z2:=Zr ns n
    rcases aJ.mp h1 with z|z
    ·omega
    ·have:=z2.2 m z
     omega
   rw [e2]
   exact q _ Hb H (Gw.refl eb) pN
  ·cases hg
 ·cases hg
theorem Zg{X:Cx}{W:WQ}{rk:Kd}{pos:Pos}(i:Nat){x:Str}{k v:Expr}{mk mv:EM}{p pos' :Pos}(hk:DE X W .bor k mk)(hv:DE X W .dat v mv)(hN:X.N[i]? =some x:=by rfl)(hvis:Vis X.env.scope x:=by first|exact Or.inl rfl|exact Or.inr (Or.inl rfl)|exact Or.inr (Or.inr rfl))(hd:(x==("__debug__":Str))=false:=by decide)
 (hcd:(x==("__classdict__":Str))=false:=by decide) (hs:swapsWithSole [.Subscript (.Name x p) k pos'] v pos.line X.env=pure false:=by rfl) (hw:swappedStores [.Subscript (.Name x p) k pos'] v X.env=pure none:=by rfl) (h1:(assignEach [.Subscript (.Name x p) k pos'] X.env).map (·.2)=[assign (.Subscript (.Name x p) k pos') X.env]:=by rfl)
 (ha:∀v,assign (.Subscript (.Name x p) k pos') X.env v=(do
   let ov←holding [v] (eval (.Name x p) X.env)
   let iv←holding [v,ov] (eval k X.env)
   standAt pos'
   holding [v,ov,iv] (setItem ov iv v)
   release [v,ov,iv] []):=by intro _;rfl):
 DS X W rk (.Assign [.Subscript (.Name x p) k pos'] v pos) (Ko i mk mv):=
 PS.imp (ps_asg hv (pg_sub (pe_var hN hvis hd hcd) hk set_list ha) hs hw h1) fun E σ H ⟨Hf,Hb,ρ,R,h⟩=>by
 unfold Ko at h
 refine⟨Hf,Hb,ρ,R,fun d hd v Hb1 H1 g1 r1=> ?_,fun c hc Hb1 H1 g1=> ?_,fun z=> ?_⟩
 ·rw [hd] at h
  simp only at h
  split at h
  ·rename_i ds q
   have R1:=R.gw g1
   obtain⟨p,h1,⟨o,ho,hc⟩,h3,h4⟩:=R1.own i _ q
   cases hc with
   |lst al=>
    refine⟨_,h1,Hf,Hb1,ρ,R1,fun d2 hd2 y Hb2 H2 g2 r2=> ?_,fun c hc Hb2 H2 g2=> ?_,fun z=> ?_⟩
    ·rw [hd2] at h
     cases d2 with
     |int kk=>
      simp only at h
      split at h
      ·rename_i jj hj
       have ho' :=g2.h _ _ ho
       have R2:=R1.gw g2
       have hb2:Hb2 p=none:=g2.nw p h4 (by rw [ho];exact True.intro)
       refine⟨p,_,kk,jj,rfl,r2.int,ho',by rw [iJ al];exact hj,?_⟩
       exact h σ Hb2 _ (R2.write q h1 (.lst (Qc jj (nq g2.b r1) (lJ g2.b al)))) (((g1.trans g2).bw R.ef).trans (Bw.upd g2.bh hb2))
      ·exact h.elim
     |_=>exact h.elim
    ·rw [hc] at h
     exact h σ Hb2 H2 (R.gw (g1.trans g2)) ((g1.trans g2).bw R.ef)
    ·rw [z] at h
     exact h.elim
  ·exact h.elim
 ·rw [hc] at h
  exact h σ Hb1 H1 (R.gw g1) (g1.bw R.ef)
 ·rw [z] at h
  exact h.elim
end DL
namespace DL
open PySem PySem.Spec L2 Evl PyProof.Rows
theorem QW{k:Key}(h:PyData.none=keyD k):False:=by cases k<;>cases h
def keysOf:List D→Option (List Key)
 |[]=>some []
 |d::ds=>match keyOf d,keysOf ds with
  |some k,some ks=>some (k::ks)
  |_,_=>none
def wL:D→Option (List Key)
 | .tuple ds=>keysOf ds
 |_=>none
theorem Ln:∀ks:List Key,keysOf (ks.map keyD)=some ks
 |[]=>rfl
 |k::ks=>by simp [keysOf,yN,Ln ks]
theorem KJ(ks:List Key):wL (.tuple (ks.map keyD))=some ks:=Ln ks
def vN(ds:List (D×D))(k:List Key):Option D:=(ds.find? fun q=>decide (wL q.1=some k)).map (·.2)
def LK(ds:List (D×D))(k:List Key)(v:D):List (D×D):=
 if(ds.any fun q=>decide (wL q.1=some k))=true then ds.map (fun q=>if wL q.1=some k then(q.1,v) else q) else ds++[(.tuple (k.map keyD),v)]
abbrev PT(K:ao)(Hb:Hp):List (List Key×V)→List (D×D)→Prop:=Paired (fun(p:List Key×V) (q:D×D)=>q.1= .tuple (p.1.map keyD)∧Dr K Hb p.2 q.2)
abbrev tD(ds:List (D×D)):D:= .dict ((.none, .none)::ds)
section
variable{K:ao}{Hb H:Hp}
theorem HF:∀{ds:List D} {xs:List V} {ks:List Key},iV K Hb xs ds→keysOf ds=some ks→xs=ks.map kV
 |[],_,_, .nil,e=>by
  cases e
  rfl
 |d::ds,_,ks, .cons a b,e=>by
  simp only [keysOf] at e
  cases q:keyOf d with
  |none=>rw [q] at e;cases e
  |some k=>
   cases q2:keysOf ds with
   |none=>rw [q,q2] at e;cases e
   |some ks2=>
    rw [q,q2] at e
    cases e
    rw [HF b q2,Bo.key (.inl a) q (H:=Hb)]
    rfl
theorem Bo.afR{v:V}{d:D}{k:List Key}(eb:Ex Hb H)(h:Bo K Hb H v d)(e:wL d=some k):∃b,v= .ref b∧H b=some (.tup (k.map kV)):=by
 cases d with
 |tuple ds=>
  rcases h with h|⟨p,rfl,o,h2,h3⟩
  ·cases h with
   |tup a al=>
    rw [HF al e] at a
    exact⟨_,rfl,eb _ _ a⟩
  ·cases h3
 |_=>cases e
theorem Ru{k:List Key}:∀{kvs:List (List Key×V)} {ds:List (D×D)},PT K Hb kvs ds→(valV kvs k=none∧vN ds k=none)∨∃v d,valV kvs k=some v∧vN ds k=some d∧Dr K Hb v d
 |_,_, .nil=> .inl ⟨rfl,rfl⟩
 |_,_, .cons (a:=p) (b:=q) (l₁:=kvs) (l₂:=ds) h r=>by
  have e:wL q.1=some p.1:=by rw [h.1,KJ]
  by_cases z:p.1=k
  ·refine .inr ⟨p.2,q.2,valV_pos z,?_,h.2⟩
   have e2:wL q.1=some k:=by rw [e,z]
   simp [vN,dO,e2]
  ·have e2:¬wL q.1=some k:=by
    rw [e]
    exact fun w=>z (Option.some.inj w)
   have e3:vN (q::ds) k=vN ds k:=by simp [vN,dO,e2]
   rw [valV_neg z,e3]
   exact Ru r
theorem acw{k:List Key}:∀{kvs:List (List Key×V)} {ds:List (D×D)},PT K Hb kvs ds→(kvs.any fun kv=>decide (kv.1=k))=ds.any fun q=>decide (wL q.1=some k)
 |_,_, .nil=>rfl
 |_,_, .cons (a:=p) (b:=q) h r=>by
  have e:wL q.1=some p.1:=by rw [h.1,KJ]
  rw [dY,dY,acw r,e]
  congr 1
  simp
theorem ack{k:List Key}{v:V}{d:D}(hv:Dr K Hb v d):∀{kvs:List (List Key×V)} {ds:List (D×D)},PT K Hb kvs ds→PT K Hb (kvs.map fun kv=>if kv.1=k then(kv.1,v) else kv) (ds.map fun q=>if wL q.1=some k then(q.1,d) else q)
 |_,_, .nil=> .nil
 |_,_, .cons (a:=p) (b:=q) h r=>by
  have e:wL q.1=some p.1:=by rw [h.1,KJ]
  refine .cons ?_ (ack hv r)
  by_cases z:p.1=k
  ·have e2:wL q.1=some k:=by rw [e,z]
   simp only [z,e2,if_true]
   rw [←z]
   exact⟨h.1,hv⟩
  ·have e2:¬wL q.1=some k:=by
    rw [e]
    exact fun w=>z (Option.some.inj w)
   simp only [z,e2,if_false]
   exact h
theorem afS{k:List Key}{v:V}{d:D}(hv:Dr K Hb v d){kvs:List (List Key×V)}{ds:List (D×D)}(h:PT K Hb kvs ds):PT K Hb (putK kvs k v) (LK ds k d):=by
 unfold putK LK
 rw [acw h]
 split
 ·exact ack hv h
 ·exact CK h (.cons ⟨rfl,hv⟩ .nil)
theorem ZM{K:ao}{Hb:Hp}:∀{ds:List (D×D)} {kvs:List (List Key×V)},R7 K Hb kvs ds→PT K Hb kvs ds
 |_,_, .nil=> .nil
 |_,_, .cons a b=> .cons ⟨rfl,a⟩ (ZM b)
theorem Bo.aa0{v:V}{ds:List (D×D)}(eb:Ex Hb H)(h:Bo K Hb H v (tD ds)):∃p kvs,v= .ref p∧Rd H p (.dT kvs)∧PT K Hb kvs ds:=by
 rcases h with h|⟨p,rfl,o,h2,h3⟩
 ·cases h with
  |FW a b=>
   cases QZ b with
   |cons q r=>exact(QW q.1).elim
  |IV a b=>exact⟨_,_,rfl, .inr ⟨_,eb _ _ a⟩,ZM b⟩
 ·cases h3 with
  |dT a=>exact⟨p,_,rfl,h2.rd,a⟩
  |dK a=>
   cases a with
   |cons q r=>
    obtain⟨q1,_⟩:=q
    exact(QW q1).elim
end
def TQ(neg:Bool):D→D→ER
 |k, .dict ((.none, .none)::ds)=>(match wL k with
  |some k=> .ok (.bool ((vN ds k).isSome !=neg))
  |none=> .bad)
 |_,_=> .bad
def Ag:D→D→ER
 | .dict ((.none, .none)::ds),k=>(match wL k with
   |some k=>(match vN ds k with
    |some v=> .ok v
    |none=> .bad)
   |none=> .bad)
 |_,_=> .bad
theorem afT(b:Bool):kh (TQ b):=fun x y c h=>by
 unfold TQ at h
 repeat' split at h
 all_goals cases h
theorem adS:kh Ag:=fun x y c h=>by
 unfold Ag at h
 repeat' split at h
 all_goals cases h
section
variable{X:Cx}{W:WQ}{a b o e f:Expr}{ma mb mc:EM}{pos apos cpos:Pos}
theorem Rp{K:ao}{Hb:Hp}{k:List Key}{kvs:List (List Key×V)}{ds:List (D×D)}(h:PT K Hb kvs ds):(valV kvs k).isSome=(vN ds k).isSome:=by
 rcases Ru (k:=k) h with⟨h1,h2⟩|⟨v,d,h1,h2,_⟩<;>rw [h1,h2]<;>rfl
theorem aaQ(hu:X.A.units+64<cLine):Ds X (compareOp .NotIn) .dat (TQ true):=by
 intro pins s σ H x y v u Q I rx ry h
 obtain⟨Hb,dx,dy,d,eb,bx,byy,hg,q⟩:=h
 unfold TQ at hg
 split at hg
 ·rename_i ds
  split at hg
  ·rename_i k hk
   cases hg
   obtain⟨p,kvs,rfl,hd,pk⟩:=byy.aa0 eb
   obtain⟨b,rfl,hb⟩:=bx.afR eb hk
   cases(show u=Value.ref p from ry)
   refine d_notIn (o:=valV kvs k) (by omega) I (.inr ⟨kvs,k,b,hd,rfl,hb,rfl⟩) rx fun s' I' => ?_
   rw [Rp pk]
   exact⟨.bl (!(vN ds k).isSome),H,I',rfl,by
    have:=q (.bl (!(vN ds k).isSome)) Hb H (Gw.refl eb)
    rw [Bool.bne_true] at this
    exact this lQ⟩
  ·cases hg
 ·cases hg
theorem aeb(hu:X.A.units+64<cLine):IxR X (Y4 X.K .dat Ag):=by
 intro value slice pins s σ H x y v u Q I rx ry h hs
 obtain⟨Hb,dx,dy,d,eb,bx,byy,hg,q⟩:=h
 unfold Ag at hg
 split at hg
 ·rename_i ds
  split at hg
  ·rename_i k hk
   obtain⟨p,kvs,rfl,hd,pk⟩:=bx.aa0 eb
   obtain⟨b,rfl,hb⟩:=byy.afR eb hk
   rcases Ru (k:=k) pk with⟨z1,z2⟩|⟨w,d',z1,z2,z3⟩
   ·rw [z2] at hg
    cases hg
   ·rw [z2] at hg
    cases hg
    exact YD (by omega) value slice pins s σ H _ _ v u Q I rx ry ⟨p,w,rfl, .inr ⟨kvs,k,b,hd,rfl,hb,z1.symm⟩,q w Hb H (Gw.refl eb) z3⟩ hs
  ·cases hg
 ·cases hg
theorem ad1(hu:X.A.units+64<cLine)(ha:DE X W .bor a ma)(hb:DE X W .bor b mb)(hs:PlainIx b:=by exact fun _ _=>rfl):DE X W .dat (.Subscript a b pos) (eV Ag ma mb):=PE.imp (pe_ix (aeb hu) ha hb hs) fun _ _ _=>ye adS
theorem adL:DE X W .new (.Dict [] [] pos) (eC (tD [])):=PE.imp pe_dnewT fun σ H Q ⟨Hf,Hb,ρ,R,h1,h2,h3⟩=>fun p hp=>
 h1 (tD []) rfl _ _ _ (Gw.new R.eb hp) ⟨p,rfl,hp,fresh_back R.eb hp,_,upd_same, .dT .nil⟩
def J9(i:Nat)(mk:EM)(mv:XM):SM:=fun ρ=>match mv ρ with
 | .ok d ρ=>(match ρ[i]? with
   |some (.own (.dict ((.none, .none)::ds)))=>(match mk ρ with
    | .ok k=>(match wL k with
      |some k=>if ds.length<sizeLine then .nx (ρ.set i (.own (tD (LK ds k d)))) else .bad
      |none=> .bad)
    | .ex c=> .ex c ρ
    | .bad=> .bad)
   |_=> .bad)
 | .ex c ρ=> .ex c ρ
 | .bad=> .bad
theorem afN{K:ao}{Hb:Hp}{kvs:List (List Key×V)}{ds:List (D×D)}(h:PT K Hb kvs ds):kvs.length=ds.length:=Paired.length h
theorem abx{rk:Kd}(i:Nat){x:Str}{k v:Expr}{mk:EM}{mv:XM}{p pos' :Pos}(hu:X.A.units+64<cLine)(hk:DE X W .bor k mk)(hv:DX X W v mv)(hN:X.N[i]? =some x:=by rfl)(hvis:Vis X.env.scope x:=by first|exact Or.inl rfl|exact Or.inr (Or.inl rfl)|exact Or.inr (Or.inr rfl))(hd:(x==("__debug__":Str))=false:=by decide)
 (hcd:(x==("__classdict__":Str))=false:=by decide) (hs:swapsWith v (some (.Subscript (.Name x p) k pos')) pos.line X.env=pure false:=by rfl):DS X W rk (.Assign [.Subscript (.Name x p) k pos'] v pos) (J9 i mk mv):=
 PS.imp (ps_dput (by omega) (pe_var hN hvis hd hcd) hk hv hs) fun E σ H ⟨Hf,Hb,ρ,R,h⟩=>by
 unfold J9 at h
 refine⟨Hf,Hb,ρ,R,fun d ρ1 hd v Hb1 H1 R1 b1 r1=> ?_,fun c ρ1 hc Hb1 H1 R1 b1=> ?_,fun z=> ?_⟩
 ·rw [hd] at h
  simp only at h
  split at h
  ·rename_i ds q
   obtain⟨p,h1,ow,h3,h4⟩:=R1.own i _ q
   obtain⟨p',kvs',ep,rd,al⟩:=Bo.aa0 (K:=X.K) (Hb:=Hb1) (H:=H1) R1.eb (.inr ⟨p,rfl,ow.b⟩)
   cases ep
   obtain⟨o,ho,hc⟩:=ow
   have ho2:∃kvs,o= .dT kvs∧PT X.K Hb1 kvs ds:=by
    cases hc with
    |dT a=>exact⟨_,rfl,a⟩
    |dK a=>
     cases a with
     |cons q r=>
      obtain⟨q1,_⟩:=q
      exact(QW q1).elim
   obtain⟨kvs,rfl,al⟩:=ho2
   refine⟨_,h1,Hf,Hb1,ρ1,R1,fun d2 hd2 y Hb2 H2 g2 r2=> ?_,fun c hc Hb2 H2 g2=> ?_,fun z=> ?_⟩
   ·rw [hd2] at h
    simp only at h
    split at h
    ·rename_i kk hkk
     split at h
     ·rename_i hz
      have ho' :=g2.h _ _ ho
      have R2:=R1.gw g2
      have hb2:Hb2 p=none:=g2.nw p h4 (by rw [ho];exact True.intro)
      have al2:PT X.K Hb2 kvs ds:=Paired.imp (fun _ _ q=>⟨q.1,nq g2.b q.2⟩) al
      obtain⟨b,rfl,hb⟩:=r2.afR g2.bh hkk
      refine⟨p,_,rfl, .inr ⟨kvs,kk,b,ho',rfl,hb,by rw [afN al];exact hz,rfl⟩,?_⟩
      exact h σ Hb2 _ (R2.write q h1 (.dT (afS (nq g2.b r1) al2))) ((b1.trans (g2.bw R1.ef)).trans (Bw.upd g2.bh hb2))
     ·exact h.elim
    ·exact h.elim
   ·rw [hc] at h
    exact h σ Hb2 H2 (R1.gw g2) (b1.trans (g2.bw R1.ef))
   ·rw [z] at h
    exact h.elim
  ·exact h.elim
 ·rw [hc] at h
  exact h σ Hb1 H1 R1 b1
 ·rw [z] at h
  exact h.elim
end
end DL
namespace DL
open PySem L2 Evl
def Mu(ds es:List D):List D:=ds.zipWith (fun d e=>bZ [d,e]) es
theorem Vn(ds es:List D):(Mu ds es).length=min ds.length es.length:=by simp [Mu]
theorem abE{ds es:List D}{i:Nat}{d e:D}(h:ds[i]? =some d)(h2:es[i]? =some e):(Mu ds es)[i]? =some (.tuple [d,e]):=by
 simp [Mu,List.getElem?_zipWith,h,h2]
theorem afo{K:ao}{Hb1:Hp}{p q:Addr}{xs ys:List V}{ds es:List D}(h:SqL K Hb1 p xs)(a:iV K Hb1 xs ds)(h2:SqL K Hb1 q ys)(a2:iV K Hb1 ys es):Yl K Hb1 (Itz K p q) (Mu ds es) where
 go:=fun i H e hi=>by
  rw [Vn] at hi
  have hl:=iJ a
  have hl2:=iJ a2
  exact⟨xs,ys,xs[i]'(by omega),ys[i]'(by omega),ex_l e h,ex_l e h2,by simp,by simp⟩
 stop:=fun H e=>⟨xs,ys,ex_l e h,ex_l e h2,by
  have hl:=iJ a
  have hl2:=iJ a2
  rw [Vn]
  omega⟩
 yld:=fun i H x H' Hb e1 e2 hi ⟨T,u,v,ev,hT,eH,hu,hv⟩=>by
  subst ev eH
  obtain⟨d,d1,d2⟩:=uM a (hu xs (ex_l (e1.trans e2) h))
  obtain⟨d',d1',d2'⟩:=uM a2 (hv ys (ex_l (e1.trans e2) h2))
  have z:=Gw.tup (K:=K) (xs:=[u,v]) e2 hT (.cons (nq e1 d2) (.cons (nq e1 d2') .nil))
  exact⟨_,_,z.1,abE d1 d1',z.2⟩
def iZ(ma mb:EM):Env→AR:=fun ρ=>match nM [ma,mb] ρ with
 | .ok [.list ds, .list es]=> .ok (Mu ds es)
 | .ok _=> .bad
 | .ex c=> .ex c
 | .bad=> .bad
theorem afE{X:Cx}{W:WQ}{a b:Expr}{ma mb:EM}{p pos tpos:Pos}{elts:List Expr}{kk:Nat}(hm:X.mg "zip"=none)(h:DA X W [.dat, .dat] [a,b] [ma,mb])(hg:Gl X "zip":=by rfl)(hs:starEach [a,b] X.env=(false,eval a X.env)::starEach [b] X.env:=by rfl)(hpl:(backTo pos (starEach [b] X.env)).any (·.1)=false:=by rfl):
 DI X W (.Tuple elts kk tpos) (.Call (.Name "zip" p) [a,b] [] pos) (iZ ma mb):=PI.imp (pi_zip hg hm h hs hpl) fun σ H R ⟨Hf,Hb,ρ,Re,h1,h2,h3⟩=>by
 refine⟨Hf,Hb,ρ,Re,fun ds hd vs Hb' H' g r=> ?_,fun c hc=>h2 c (by simp [iZ,hc]),fun z=>h3 (by simp [iZ,z])⟩
 cases r with
 |cons r1 r2=>
  cases r2 with
  |cons r2 r3=>
   cases r3
   rename_i v1 d1 v2 d2
   cases d1 with
   |list ds=>
    cases d2 with
    |list es=>
     cases r1 with
     |lst s a=>
      cases r2 with
      |lst s' a' =>exact⟨_,_,_,_,rfl,ex_l g.bh s,ex_l g.bh s',h1 _ (by simp only [iZ,hd]) _ Hb' H' g (afo s a s' a')⟩
    |_=>exact absurd (by simp [iZ,hd]) h3
   |_=>exact absurd (by simp [iZ,hd]) h3
theorem agi{ma mb:EM}{ρ:Env}{ds es:List D}(ha:ma ρ= .ok (.list ds))(hb:mb ρ= .ok (.list es)):iZ ma mb ρ= .ok (Mu ds es):=by
 simp only [iZ,nM,ha,hb]
end DL
namespace DL
open PySem L2 Evl
structure ahh(P:Program)(w:World)(K:ao)(mg:Str→Option Value)(base:Heap)(x:Str)(k:Nat)(ps:List Str)(sp:Sp)(i:Int)(n:Nat)(kw:Str):Prop where
 ex:∃fd,FnOk P w K mg base (L2.CX P w) k (He.ga K x) fd ps sp∧Binds K fd ps []∧(∃ds,Vals [V.int i] ds∧Binds K fd ps ds)∧KBn K fd ps n [kw] (fun us ws=>us++ws) (fun vs zs=>vs++zs)∧∃oc od osl,K.lookup (He.ga K x)=some ⟨oc,od, .func fd,osl⟩
 kp:PySem.W.keepIn K (.ref (He.ga K x))=true
 gl:mg x=some (.ref (He.ga K x))
section
variable{P:Program}{w:World}{K:ao}{mg:Str→Option Value}{base:Heap}{fa:List He.Fa}{fn:List He.DefD}
end
theorem mU.snoc{K:ao}{Hb H:Hp}{kd:Kd}{v:V}{d:D}(h:Ra K kd Hb H v d):∀{ks:List Kd} {vs:List V} {ds:List D},mU K Hb H ks vs ds→mU K Hb H (ks++[kd]) (vs++[v]) (ds++[d])
 |_,_,_, .nil=> .cons h .nil
 |_,_,_, .cons a b=> .cons a (mU.snoc h b)
theorem mU.ex{K:ao}{Hb H Hb' H' :Hp}(eb:Ex Hb Hb')(e:Ex H H'):∀{ks:List Kd} {vs:List V} {ds:List D},mU K Hb H ks vs ds→mU K Hb' H' ks vs ds
 |_,_,_, .nil=> .nil
 |_,_,_, .cons a b=> .cons (a.ex eb e) (mU.ex eb e b)
section
variable{X:Cx}{W:WQ}{rk:Kd}{ks:List Kd}{x:Str}{p pos:Pos}{e:Expr}{es:List Expr}{ms:List EM}{g:List D→ER}{k j n:Nat}{ps:List Str}{i:Int}{kw:Str}
end
end DL
namespace DL
open PySem L2 Evl
end DL
namespace DL
open PySem L2 Evl PyProof.Rows
section
variable{Y:Cx}{w0:WX}{pq:Pn}{xs:List Str}{c:Str}{a:Addr}{oe:Obj}{i:Nat}{n:Str}{p p1 p2 pos:Pos}
end
end DL
namespace DL
open PySem L2 Evl
end DL
namespace DL
open PySem PySem.Spec L2 Evl PyProof.Rows
section
variable{prog:Program}{w:World}{A:Around}{E:Value→Shared→Prop}{s:Shared}{r d:Addr}{es:Array DictEntry}{ep n:Nat}{T:String}{P:Nat→Value→Prop}{OK:Heap→Prop}
end
section
variable{X:Cx}{pins:List (Addr×Obj)}{σ:L2.St}{H:Hp}{s:Shared}{a b:Addr}{r:Value}{v:V}{k:List Key}{kvs:List (List Key×V)}{A:Around}{E:Value→Shared→Prop}
end
section
variable{X:Cx}{o e f:Expr}{td ty tx:TE}{apos cpos:Pos}
end
section
variable{X:Cx}{W:WQ}{a b o e f:Expr}{ma mb mc:EM}{pos p apos cpos:Pos}
end
end DL
set_option maxHeartbeats 2000000
namespace DL
open PySem PySem.Spec L2 Evl PyProof.Rows
def MT:List D→Option (List Str)
 |[]=>some []
 | .str x::r=>(MT r).map (x::·)
 |_::_=>none
def wO(a:Str):D→ER
 | .list ds=>(match MT ds with
   |some ys=>if(ys.map (·.length)).sum+ys.length*a.length≤16777216 then .ok (.str (Txt.join a ys)) else .bad
   |none=> .bad)
 |_=> .bad
def tU(a:Str):D→ER
 | .str b=>if(b.length==0)=false∧a.length+2≤sizeLine then .ok (.list ((Txt.split a b).map aN)) else .bad
 |_=> .bad
def Bg(f:Str→D→ER)(m n:EM):EM:=fun ρ=>(m ρ).bind fun d=>match d with
 | .str z=>(n ρ).bind fun e=>f z e
 |_=> .bad
theorem Lz{K:ao}{H:Hp}:∀{ds:List D} {xs:List V} {ys:List Str},MT ds=some ys→iV K H xs ds→xs=ys.map V.str
 |[],_,_,h, .nil=>by
  cases h
  rfl
 |d::ds,_,ys,h, .cons a b=>by
  cases d with
  |str x=>
   simp only [MT,aK] at h
   obtain⟨ys,h1,rfl⟩:=h
   cases a
   rw [aZ,Lz h1 b]
  |_=>cases h
theorem CN{K:ao}{H:Hp}:∀ys:List Str,iV K H (ys.map V.str) (ys.map aN)
 |[]=> .nil
 |y::r=> .cons (.str y) (CN r)
section
variable{X:Cx}{W:WQ}{o e:Expr}{ma mb:EM}{apos pos:Pos}
theorem JH(ho:DE X W .bor o ma)(he:DE X W .bor e mb)(hs:starEach [e] X.env=[(false,eval e X.env)]:=by rfl)(hbase:attributeBase o "join" X.env (eval o X.env)=eval o X.env:=by rfl)(hline:(apos.endLine==pos.line)=true:=by rfl):
 DE X W .dat (.Call (.Attribute o "join" apos) [e] [] pos) (Bg wO ma mb):=
 PE.imp (pe_join ho he hs hbase hline) fun σ H Q ⟨Hf,Hb,ρ,R,h1,h2,h3⟩=>by
  refine⟨Hf,Hb,ρ,R,fun d hd v Hb1 H1 g1 r1=> ?_,fun c hc Hb1 H1 g1=>h2 c (by simp [Bg,hc,ER.bind]) Hb1 H1 g1,fun z=>h3 (by simp [Bg,z,ER.bind])⟩
  cases d with
  |str a=>
   have e0:=Bo.str r1
   refine⟨⟨a,e0⟩,Hf,Hb1,ρ,R.gw g1,fun d2 hd2 v2 Hb2 H2 g2 r2=> ?_,fun c hc Hb2 H2 g2=>h2 c (by simp [Bg,hd,hc,ER.bind]) Hb2 H2 (g1.trans g2),fun z=>h3 (by simp [Bg,hd,z,ER.bind])⟩
   cases d2 with
   |list ds=>
    cases hk:MT ds with
    |none=>exact absurd (by simp [Bg,hd,hd2,wO,hk,ER.bind]) h3
    |some ys=>
     by_cases hz:(ys.map (·.length)).sum+ys.length*a.length≤16777216
     ·obtain⟨p,xs,e1,s1,a1⟩:=Bo.lst g2.bh r2
      rw [Lz hk a1] at s1
      exact⟨a,p,ys,e0,by rw [e1], .inl s1,hz,h1 _ (by simp [Bg,hd,hd2,wO,hk,hz,ER.bind]) _ Hb2 H2 (g1.trans g2) (.str _)⟩
     ·exact absurd (by simp [Bg,hd,hd2,wO,hk,hz,ER.bind]) h3
   |_=>exact absurd (by simp [Bg,hd,hd2,wO,ER.bind]) h3
  |_=>exact absurd (by simp [Bg,hd,ER.bind]) h3
theorem V1(ho:DE X W .bor o ma)(he:DE X W .bor e mb)(hs:starEach [e] X.env=[(false,eval e X.env)]:=by rfl)(hbase:attributeBase o "split" X.env (eval o X.env)=eval o X.env:=by rfl)(hline:(apos.endLine==pos.line)=true:=by rfl):
 DE X W .new (.Call (.Attribute o "split" apos) [e] [] pos) (Bg tU ma mb):=
 PE.imp (pe_split ho he hs hbase hline) fun σ H Q ⟨Hf,Hb,ρ,R,h1,h2,h3⟩=>by
  refine⟨Hf,Hb,ρ,R,fun d hd v Hb1 H1 g1 r1=> ?_,fun c hc Hb1 H1 g1=>h2 c (by simp [Bg,hc,ER.bind]) Hb1 H1 g1,fun z=>h3 (by simp [Bg,z,ER.bind])⟩
  cases d with
  |str a=>
   have e0:=Bo.str r1
   refine⟨⟨a,e0⟩,Hf,Hb1,ρ,R.gw g1,fun d2 hd2 v2 Hb2 H2 g2 r2=> ?_,fun c hc Hb2 H2 g2=>h2 c (by simp [Bg,hd,hc,ER.bind]) Hb2 H2 (g1.trans g2),fun z=>h3 (by simp [Bg,hd,z,ER.bind])⟩
   cases d2 with
   |str b=>
    by_cases hz:(b.length==0)=false∧a.length+2≤sizeLine
    ·refine⟨a,b,e0,by rw [Bo.str r2],hz.1,hz.2,fun p hp=> ?_⟩
     have z:=Gw.Z6 (K:=X.K) g2.bh hp (CN (Txt.split a b))
     have e:Bg tU ma mb ρ= .ok (.list ((Txt.split a b).map aN)):=by
      simp only [Bg,hd,hd2,tU,ER.bind]
      rw [if_pos hz]
     exact h1 _ e _ _ _ ((g1.trans g2).trans z.1) (z.2.back (g1.trans g2).h)
    ·refine absurd ?_ h3
     simp only [Bg,hd,hd2,tU,ER.bind]
     rw [if_neg hz]
   |_=>exact absurd (by simp [Bg,hd,hd2,tU,ER.bind]) h3
  |_=>exact absurd (by simp [Bg,hd,ER.bind]) h3
end
def Cz:List D→ER
 |[.int i]=>if i.natAbs.log2<1920 then .ok (.str (toString i)) else .bad
 |[.str x]=> .ok (.str x)
 |_=> .bad
theorem adF:zp Cz:=fun ds c h=>by
 unfold Cz at h
 repeat' split at h
 all_goals cases h
def Mw:List D→ER
 |[.str x]=>(match PySem.intText? x with
  |some n=>if x.length≤640 then .ok (.int n) else .bad
  |none=> .bad)
 |_=> .bad
theorem ad4:zp Mw:=fun ds c h=>by
 unfold Mw at h
 repeat' split at h
 all_goals cases h
section
variable{X:Cx}
theorem afK:CallD X (.type "str") .dat Cz:=by
 intro pins s σ H vs us Q I r h
 obtain⟨Hb,ks,ds,d,eb,ra,hg,q⟩:=h
 unfold Cz at hg
 split at hg
 ·split at hg
  ·rename_i i hz
   cases hg
   obtain⟨v,rfl,b1⟩:=ra1 ra
   exact call_str_int pins s σ H _ us Q I r ⟨_,by rw [b1.int],hz,q _ Hb H (Gw.refl eb) (.str _)⟩
  ·cases hg
 ·cases hg
  obtain⟨v,rfl,b1⟩:=ra1 ra
  exact SkE.call_str_str pins s σ H _ us Q I r ⟨_,by rw [b1.str],q _ Hb H (Gw.refl eb) (.str _)⟩
 ·cases hg
theorem adK:CallD X (.type "int") .dat Mw:=by
 intro pins s σ H vs us Q I r h
 obtain⟨Hb,ks,ds,d,eb,ra,hg,q⟩:=h
 unfold Mw at hg
 split at hg
 ·split at hg
  ·rename_i x n hn
   split at hg
   ·rename_i hz
    cases hg
    obtain⟨v,rfl,b1⟩:=ra1 ra
    exact call_int_str pins s σ H _ us Q I r ⟨_,_,by rw [b1.str],hn,hz,q _ Hb H (Gw.refl eb) pN⟩
   ·cases hg
  ·cases hg
 ·cases hg
end
def Fq(lo hi c:Int):List D:=(bU (if lo<hi then((hi-lo-1)/c+1).toNat else 0)).map fun(i:Nat)=>aD (lo+(i:Int)*c)
def iRc(c:Int)(ma mb mc:EM):Env→AR:=fun ρ=>match nM [ma,mb,mc] ρ with
 | .ok [.int i, .int j, .int k]=>if inR i&&inR j&&decide (k=c) then .ok (Fq i j c) else .bad
 | .ok _=> .bad
 | .ex c=> .ex c
 | .bad=> .bad
theorem adR{K:ao}{Hb1:Hp}(lo hi c:Int):Yl K Hb1 (Itc lo c (if lo<hi then((hi-lo-1)/c+1).toNat else 0)) (Fq lo hi c) where
 go:=fun i H _ h=>by simpa [Fq,Itc] using h
 stop:=fun H _=>by simp [Fq,Itc]
 yld:=fun i H x H' Hb e1 e2 h y=>by
  obtain⟨rfl,rfl⟩:=y
  have h' :i<(if lo<hi then((hi-lo-1)/c+1).toNat else 0):=by simpa [Fq] using h
  exact⟨Hb, .int (lo+((i:Nat):Int)*c),Gw.refl e2,by simp [Fq,h'], .int _⟩
theorem af6{i j:Int}(ha: -(2 ^ 62)≤i)(ha' :i<2 ^ 62)(hb: -(2 ^ 62)≤j)(hb' :j<2 ^ 62):RgC i j 2 (if i<j then((j-i-1)/2+1).toNat else 0):=by
 have e:Builtin.Range.rangeSize i j 2=if i<j then(j-i-1)/2+1 else 0:=by
  unfold Builtin.Range.rangeSize
  rw [if_pos (by decide)]
 refine⟨by decide,by decide,?_,?_⟩
 ·unfold Builtin.Range.small
  rw [e]
  simp only [Builtin.Range.rangeFitsLong,cW,Bool.or_eq_true,decide_eq_true_eq,beq_iff_eq,show(2:Int)>0 by decide,if_true]
  split<;>omega
 ·rw [e]
  split<;>omega
theorem afq{X:Cx}{W:WQ}{tg a b c:Expr}{ma mb mc:EM}{p pos:Pos}(hm:X.mg "range"=none)(h:DA X W [.bor, .bor, .bor] [a,b,c] [ma,mb,mc])(hg:Gl X "range":=by rfl)
 (hs:starEach [a,b,c] X.env=(false,eval a X.env)::starEach [b,c] X.env:=by rfl) (hpl:(backTo pos (starEach [b,c] X.env)).any (·.1)=false:=by rfl):
 DI X W tg (.Call (.Name "range" p) [a,b,c] [] pos) (iRc 2 ma mb mc):=
 PI.imp (pi_range3 hg hm h hs hpl) fun σ H R ⟨Hf,Hb,ρ,Re,h1,h2,h3⟩=>by
 refine⟨Hf,Hb,ρ,Re,fun ds hd vs Hb' H' g r=> ?_,fun c hc=>h2 c (by simp only [iRc,hc]),fun z=>h3 (by simp only [iRc,z])⟩
 cases r with
 |cons r1 r2=>
  cases r2 with
  |cons r2 r3=>
   cases r3 with
   |cons r3 r4=>
    cases r4
    rename_i v1 d1 v2 d2 v3 d3
    cases d1 with
    |int i=>
     cases d2 with
     |int j=>
      cases d3 with
      |int k=>
       by_cases hz:(inR i&&inR j&&decide (k=2))=true
       ·have hz2:=Bool.and_eq_true_iff.mp hz
        have hz3:=Bool.and_eq_true_iff.mp hz2.1
        have hk:k=2:=of_decide_eq_true hz2.2
        subst hk
        refine⟨i,j,2,_,by rw [Bo.int r1,Bo.int r2,Bo.int r3],af6 (rJ.mp hz3.1).1 (rJ.mp hz3.1).2 (rJ.mp hz3.2).1 (rJ.mp hz3.2).2,h1 (Fq i j 2) ?_ _ Hb' H' g (adR i j 2)⟩
        unfold iRc
        rw [hd]
        exact if_pos hz
       ·refine absurd ?_ h3
        unfold iRc
        rw [hd]
        exact if_neg hz
      |_=>exact absurd (by simp [iRc,hd]) h3
     |_=>exact absurd (by simp [iRc,hd]) h3
    |_=>exact absurd (by simp [iRc,hd]) h3
def aa9(i j:Nat):SM:=fun ρ=>match ρ[j]? with
 |some (.own d)=>if i=j then .bad else .nx ((ρ.set j .un).set i (.own d))
 |_=> .bad
theorem iG.move{K:ao}{pn:Pn}{Hf Hb H:Hp}{σ:L2.St}{ρ:Env}{i j:Nat}{d:D}{p:Addr}(R:iG K pn Hf Hb H σ ρ)(hj:ρ[j]? =some (.own d))(hv:σ[j]? =some (some (.ref p)))(ho:Ac pn i):iG K pn Hf Hb H (σ.set i (some (.ref p))) ((ρ.set j .un).set i (.own d)):=by
 obtain⟨F,r⟩:=R
 obtain⟨p1,h1,h2,h3⟩:=r.sl j _ hj
 rw [hv] at h2
 cases h2
 obtain⟨f1,f2,f3⟩:=r.fr j p (by rw [h1];simp)
 have r1:=r.step (i:=j) (s:= .un) (fp:=[]) r.ef r.eb (Ex.refl _) rfl (fun k z=>rfl) (fun a _ _ k2 _=>⟨rfl,k2⟩) (fun _=>rfl) dW (fun a ha=>by cases ha) (fun k a _ ha=>by cases ha) (fun a q=>r.pin j a q)
 refine⟨_,r1.step (i:=i) (s:= .own d) (fp:=[p]) r.ef r.eb (Ex.refl _) (by simp) (fun k z=>WR z) (fun a _ _ k2 _=>⟨rfl,k2⟩) (fun hi=>⟨p,rfl,Rg (by rw [r.len];simpa using hi),h3⟩) (by simp) (fun a ha=> ?_) (fun k a z ha hk=> ?_) (fun a q=>absurd q (ho a))⟩
 ·rw [aV.mp ha]
  exact⟨f1,f2,f3⟩
 ·by_cases z2:k=j
  ·simp [z2] at hk
  ·simp only [if_neg z2] at hk
   exact r.dj k j a z2 hk (by rw [h1];exact ha)
theorem ad2{X:Cx}{W:WQ}{rk:Kd}(i j:Nat){x y:Str}{pos' q pos:Pos}(hN:X.N.Nodup)(hi:X.N[i]? =some x:=by rfl)(hx:Loc X.env.scope x:=by first|exact Or.inl rfl|exact Or.inr rfl)(hs:swapsWith (.Name y q) (some (.Name x pos')) pos.line X.env=pure false:=by rfl)
 (hf:X.fn x=true∨X.env.scope.names.lookup x=some .local:=by first|exact .inl rfl|exact .inr rfl|assumption) (ho:Ac W.pin i:=by intro _ z;first|(cases z;done)|exact absurd (dN z).1 (by decide)|(simp at z;done))
 (hNj:X.N[j]? =some y:=by rfl) (hv:Vis X.env.scope y:=by first|exact Or.inl rfl|exact Or.inr (Or.inl rfl)|exact Or.inr (Or.inr rfl)) (hd:(y==("__debug__":Str))=false:=by decide) (hcd:(y==("__classdict__":Str))=false:=by decide):
 DS X W rk (.Assign [.Name x pos'] (.Name y q) pos) (aa9 i j):=PS.imp (ps_set hN hi hx (pe_var hNj hv hd hcd) hs hf) fun E σ H ⟨Hf,Hb,ρ,R,h⟩=>by
 unfold aa9 at h
 split at h
 ·rename_i d hj
  by_cases hij:i=j
  ·rw [if_pos hij] at h
   exact h.elim
  ·rw [if_neg hij] at h
   obtain⟨p,h1,ow,h3,h4⟩:=R.own j d hj
   refine⟨_,h1,?_⟩
   exact h _ Hb H (R.move hj h1 ho) (Bw.refl R.eb)
 ·exact h.elim
end DL
set_option maxHeartbeats 2000000
namespace DL
open PySem PySem.Spec L2 Evl PyProof.Rows
instance:DecidableEq NK:=fun a b=>match a,b with
 | .lst, .lst=> .isTrue rfl
 | .lst, .ins _ _=> .isFalse (fun z=>nomatch z)
 | .ins _ _, .lst=> .isFalse (fun z=>nomatch z)
 | .ins c fs, .ins d gs=>if h:c=d∧fs=gs then .isTrue (by rw [h.1,h.2]) else .isFalse (fun z=>by cases z;exact h ⟨rfl,rfl⟩)
section
variable{K:ao}{Hb H:Hp}{vs:List V}{cs:List Sl}{fq:List Addr}
theorem zF.len(h:zF K Hb H vs cs fq):vs.length=cs.length:=by
 induction h with
 |nil=>rfl
 |dat _ _ ih=>simp [ih]
 |own _ _ ih=>simp [ih]
 |un _ ih=>simp [ih]
theorem zF.dat'(h:zF K Hb H vs cs fq):∀{j:Nat} {d:D},cs[j]? =some (.dat d)→∃v,vs[j]? =some v∧Dr K Hb v d:=by
 induction h with
 |nil=>intro j d e;simp at e
 |dat a _ ih=>
  intro j d e
  cases j with
  |zero=>simp at e;subst e;exact⟨_,rfl,a⟩
  |succ j=>simpa using ih (by simpa using e)
 |own a _ ih=>
  intro j d e
  cases j with
  |zero=>simp at e
  |succ j=>simpa using ih (by simpa using e)
 |un _ ih=>
  intro j d e
  cases j with
  |zero=>simp at e
  |succ j=>simpa using ih (by simpa using e)
inductive PtR(K:ao)(Hb H:Hp):V→Sl→List Addr→Prop
 |dat {v:V} {d:D}:Dr K Hb v d→PtR K Hb H v (.dat d) []
 |own {p:Addr} {d:D}:Ow K Hb H p d→PtR K Hb H (.ref p) (.own d) [p]
 |un {v:V}:PtR K Hb H v .un []
theorem PtR.cons{v:V}{s:Sl}{ext:List Addr}(a:PtR K Hb H v s ext)(h:zF K Hb H vs cs fq):zF K Hb H (v::vs) (s::cs) (ext++fq):=by
 cases a with
 |dat a=>exact .dat a h
 |own a=>exact .own a h
 |un=>exact .un h
theorem zF.put{v:V}{s:Sl}{ext:List Addr}(a:PtR K Hb H v s ext)(h:zF K Hb H vs cs fq):∀(j:Nat),j<cs.length→∃fq',zF K Hb H (vs.set j v) (cs.set j s) fq' ∧(∀q∈fq',q∈ext∨q∈fq)∧(fq.Nodup→(∀q∈ext,q∉fq)→fq'.Nodup):=by
 have ex1:ext.length≤1:=by cases a<;>simp
 have exn:ext.Nodup:=by cases a<;>simp
 induction h with
 |nil=>intro j e;simp at e
 |dat b r ih=>
  intro j e
  cases j with
  |zero=>
   refine⟨_,a.cons r,fun q hq=>aR.mp hq,fun n1 n2=> ?_⟩
   exact cQ.mpr ⟨exn,n1,fun x hx y hy z=>n2 x hx (by rw [z];exact hy)⟩
  |succ j=>
   obtain⟨fq',h1,h2,h3⟩:=ih j (by simpa using e)
   exact⟨fq', .dat b h1,h2,h3⟩
 |own b r ih=>
  rename_i q0 d0 vs cs fp
  intro j e
  cases j with
  |zero=>
   refine⟨_,a.cons r,fun q hq=> ?_,fun n1 n2=> ?_⟩
   ·rcases aR.mp hq with z|z
    ·exact .inl z
    ·exact .inr (aM _ z)
   ·exact cQ.mpr ⟨exn,(cU.mp n1).2,fun x hx y hy z=>n2 x hx (by rw [z];exact aM _ hy)⟩
  |succ j=>
   obtain⟨fq',h1,h2,h3⟩:=ih j (by simpa using e)
   refine⟨q0::fq', .own b h1,fun q hq=> ?_,fun n1 n2=> ?_⟩
   ·rcases aJ.mp hq with z|z
    ·exact .inr (by rw [z];exact bB)
    ·rcases h2 q z with z|z
     ·exact .inl z
     ·exact .inr (aM _ z)
   ·obtain⟨m1,m2⟩:=cU.mp n1
    refine cU.mpr ⟨fun z=> ?_,h3 m2 fun q hq z=>n2 q hq (aM _ z)⟩
    rcases h2 q0 z with z|z
    ·exact n2 q0 z bB
    ·exact m1 z
 |un r ih=>
  intro j e
  cases j with
  |zero=>
   refine⟨_,a.cons r,fun q hq=>aR.mp hq,fun n1 n2=> ?_⟩
   exact cQ.mpr ⟨exn,n1,fun x hx y hy z=>n2 x hx (by rw [z];exact hy)⟩
  |succ j=>
   obtain⟨fq',h1,h2,h3⟩:=ih j (by simpa using e)
   exact⟨fq', .un h1,h2,h3⟩
theorem zF.snoc{v:V}{s:Sl}{ext:List Addr}(a:PtR K Hb H v s ext)(h:zF K Hb H vs cs fq):zF K Hb H (vs++[v]) (cs++[s]) (fq++ext):=by
 induction h with
 |nil=>
  have z:=a.cons .nil
  rw [aU] at z
  exact z
 |dat b r ih=>exact .dat b ih
 |own b r ih=>exact .own b ih
 |un r ih=>exact .un ih
end
section
variable{pn:Pn}{K:ao}{H H' Hb Hb' Hf:Hp}{σ:L2.St}{ρ:Env}{i j:Nat}{k:NK}{cs:List Sl}{vs:List V}{fq:List Addr}
def Pts(ρ:Env)(i:Nat)(k:NK)(cs:List Sl):Prop:=ρ[i]? =some (.nst k cs)∨ρ[i]? =some (.Yd k cs)
theorem zF.agO(h:zF K Hb H vs cs fq):∀{j:Nat} {d:D},cs[j]? =some (.own d)→∃p,vs[j]? =some (.ref p)∧Ow K Hb H p d:=by
 induction h with
 |nil=>intro j d e;simp at e
 |dat _ _ ih=>
  intro j d e
  cases j with
  |zero=>simp at e
  |succ j=>simpa using ih (by simpa using e)
 |own a _ ih=>
  intro j d e
  cases j with
  |zero=>simp at e;subst e;exact⟨_,rfl,a⟩
  |succ j=>simpa using ih (by simpa using e)
 |un _ ih=>
  intro j d e
  cases j with
  |zero=>simp at e
  |succ j=>simpa using ih (by simpa using e)
theorem zF.af3(h:zF K Hb H vs cs fq):∀{j:Nat} {d:D},cs[j]? ≠some (.bor d):=by
 induction h with
 |nil=>intro j d e;simp at e
 |dat _ _ ih=>
  intro j d e
  cases j with
  |zero=>simp at e
  |succ j=>exact ih (by simpa using e)
 |own a _ ih=>
  intro j d e
  cases j with
  |zero=>simp at e
  |succ j=>exact ih (by simpa using e)
 |un _ ih=>
  intro j d e
  cases j with
  |zero=>simp at e
  |succ j=>exact ih (by simpa using e)
theorem Xd.dat'(h:Xd K Hb H vs cs):∀{j:Nat} {d:D},cs[j]? =some (.dat d)→∃v,vs[j]? =some v∧Dr K Hb v d:=by
 induction h with
 |nil=>intro j d e;simp at e
 |dat a _ ih=>
  intro j d e
  cases j with
  |zero=>simp at e;subst e;exact⟨_,rfl,a⟩
  |succ j=>simpa using ih (by simpa using e)
 |bor a _ ih=>
  intro j d e
  cases j with
  |zero=>simp at e
  |succ j=>simpa using ih (by simpa using e)
 |un _ ih=>
  intro j d e
  cases j with
  |zero=>simp at e
  |succ j=>simpa using ih (by simpa using e)
theorem Xd.agR(h:Xd K Hb H vs cs):∀{j:Nat} {d:D},(cs[j]? =some (.own d)∨cs[j]? =some (.bor d))→∃p,vs[j]? =some (.ref p)∧OwB K Hb H p d:=by
 induction h with
 |nil=>intro j d e;simp at e
 |dat a _ ih=>
  intro j d e
  cases j with
  |zero=>simp at e
  |succ j=>simpa using ih (by simpa using e)
 |bor a _ ih=>
  intro j d e
  cases j with
  |zero=>simp at e;subst e;exact⟨_,rfl,a⟩
  |succ j=>simpa using ih (by simpa using e)
 |un _ ih=>
  intro j d e
  cases j with
  |zero=>simp at e
  |succ j=>simpa using ih (by simpa using e)
theorem iG.parts(R:iG K pn Hf Hb H σ ρ)(h:Pts ρ i k cs):∃p vs hp,σ[i]? =some (some (.ref p))∧HdR K H p vs k hp∧(∀(j:Nat) (d:D),cs[j]? =some (Sl.dat d)→∃v,vs[j]? =some v∧Dr K Hb v d)∧∀(j:Nat) (d:D),(cs[j]? =some (Sl.own d)∨cs[j]? =some (Sl.bor d))→∃q,vs[j]? =some (V.ref q)∧OwB K Hb H q d:=by
 obtain⟨F,r⟩:=R
 rcases h with h|h
 ·obtain⟨v,h1,p,vs,hp,fq,h2,h3,h4,_⟩:=r.sl i _ h
  subst h2
  refine⟨p,vs,hp,h1,h3,fun j d e=>h4.dat' e,fun j d e=> ?_⟩
  rcases e with e|e
  ·obtain⟨q,q1,q2⟩:=h4.agO e
   exact⟨q,q1,q2.b⟩
  ·exact absurd e h4.af3
 ·obtain⟨_,p,vs,hp,h1,h2,h3⟩:=r.sl i _ h
  have h3' :=h3.ex (Ex.refl _) r.ef
  exact⟨p,vs,hp,h1,h2.frame fun a _ o z=>r.ef a o z,fun j d e=>h3'.dat' e,fun j d e=>h3'.agR e⟩
theorem HdR.len{p:Addr}{vs:List V}{hp:List Addr}{c:Str}{fs:List Str}(h:HdR K H p vs (.ins c fs) hp):vs.length=fs.length:=let ⟨_,_,_,h,_⟩:=h;h
theorem N5.nst{F:Nat→List Addr}(r:N5 K pn Hf Hb H σ ρ F)(h:ρ[i]? =some (.nst k cs)):∃p vs hp fq,σ[i]? =some (some (.ref p))∧HdR K H p vs k hp∧zF K Hb H vs cs fq∧(hp++fq).Nodup∧(∀a∈hp++fq,Hf a=none∧Hb a=none∧NT (H a))∧F i=hp++fq∧
 ∀(Hb' H' :Hp) (vs' :List V) (k' :NK) (hp' :List Addr) (cs' :List Sl) (fq' :List Addr),(∀a o,a∉hp++fq→H a=some o→H' a=some o)→Ex Hb Hb' →Ex Hb' H' →(∀a,a∉hp++fq→Hb a=none→NT (H a)→Hb' a=none)→HdR K H' p vs' k' hp' →hp' =hp→zF K Hb' H' vs' cs' fq' →fq'.Nodup→
  (∀a∈fq',a∈fq∨Hf a=none∧∀l,l≠i→a∉F l)→(∀a∈fq',a∉hp)→(∀a∈hp++fq',Hb' a=none)→iG K pn Hf Hb' H' σ (ρ.set i (.nst k' cs')):=by
 obtain⟨v,h1,p,vs,hp,fq,h2,h3,h4,h5⟩:=r.sl i _ h
 subst h2
 refine⟨p,vs,hp,fq,h1,h3,h4,by rw [←h5];exact r.nd i,fun a ha=>r.fr i a (by rw [h5];exact ha),h5,?_⟩
 intro Hb' H' vs' k' hp' cs' fq' e1 b bh nw hd ehp c nd sub nhp hb
 subst ehp
 have hpn:hp'.Nodup:=by
  have:=r.nd i
  rw [h5] at this
  exact(cQ.mp this).1
 have hfn:∀a∈hp' ++fq',Hf a=none:=fun a ha=>by
  rcases aR.mp ha with ha|ha
  ·exact(r.fr i a (by rw [h5];exact cA _ ha)).1
  ·rcases sub a ha with z|z
   ·exact(r.fr i a (by rw [h5];exact List.mem_append_right _ z)).1
   ·exact z.1
 have new:NsR K Hb' H' (.ref p) k' cs' (hp' ++fq'):=⟨p,vs',hp',fq',rfl,hd,c,rfl⟩
 refine⟨_,r.step (i:=i) (fp:=hp' ++fq') (fun a o e=>e1 a o (fun z=> ?_) (r.ef a o e)) bh b rfl (fun _ _=>rfl) (fun a ha _ k2 k3=> ?_) (fun _=>⟨_,h1,new⟩) (cQ.mpr ⟨hpn,nd,fun x hx y hy z=>nhp y hy (by rw [←z];exact hx)⟩) (fun a ha=>⟨hfn a ha,hb a ha,new.nt a ha⟩) (fun l a hl ha hj=> ?_) (fun a q=>r.pin i a q)⟩
 ·have:=(r.fr i a (by rw [h5];exact z)).1
  rw [e] at this
  cases this
 ·rw [h5] at ha
  obtain⟨o,ho⟩:=yJ k3
  exact⟨by rw [ho];exact e1 a o ha ho,nw a ha k2 k3⟩
 ·rcases aR.mp ha with ha|ha
  ·exact r.dj l i a hl hj (by rw [h5];exact cA _ ha)
  ·rcases sub a ha with z|z
   ·exact r.dj l i a hl hj (by rw [h5];exact List.mem_append_right _ z)
   ·exact z.2 l hl hj
theorem iG.nst(R:iG K pn Hf Hb H σ ρ)(h:ρ[i]? =some (.nst k cs)):∃p vs hp fq,σ[i]? =some (some (.ref p))∧HdR K H p vs k hp∧zF K Hb H vs cs fq∧(hp++fq).Nodup∧(∀a∈hp++fq,Hf a=none∧Hb a=none∧NT (H a))∧
 ∀(Hb' H' :Hp) (vs' :List V) (k' :NK) (hp' :List Addr) (cs' :List Sl) (fq' :List Addr),(∀a o,a∉hp++fq→H a=some o→H' a=some o)→Ex Hb Hb' →Ex Hb' H' →(∀a,a∉hp++fq→Hb a=none→NT (H a)→Hb' a=none)→HdR K H' p vs' k' hp' →hp' =hp→zF K Hb' H' vs' cs' fq' →fq'.Nodup→
  (∀a∈fq',a∈fq∨H a=none)→(∀a∈fq',a∉hp)→(∀a∈hp++fq',Hb' a=none)→iG K pn Hf Hb' H' σ (ρ.set i (.nst k' cs')):=by
 obtain⟨F,r⟩:=R
 obtain⟨p,vs,hp,fq,h1,h2,h3,h4,h5,h6,mk⟩:=r.nst h
 refine⟨p,vs,hp,fq,h1,h2,h3,h4,h5,fun Hb' H' vs' k' hp' cs' fq' e1 b bh nw hd ehp c nd sub nhp hb=>mk Hb' H' vs' k' hp' cs' fq' e1 b bh nw hd ehp c nd (fun a ha=> ?_) nhp hb⟩
 rcases sub a ha with z|z
 ·exact .inl z
 ·refine .inr ⟨fresh_back r.ef z,fun l _ hl=> ?_⟩
  have:=(r.fr l a hl).2.2
  rw [z] at this
  exact this
end
end DL
set_option maxHeartbeats 2000000
namespace DL
open PySem PySem.Spec L2 Evl PyProof.Rows
def tCmp(K:ao)(nk:NK)(i j:Nat):TE:=fun σ H Q=>∃p vs hp v,σ[i]? =some (some (.ref p))∧HdR K H p vs nk hp∧vs[j]? =some v∧Q v H
section
variable{X:Cx}{x f c:Str}{fs:List Str}{i:Nat}{p pos p2:Pos}
end
section
variable{X:Cx}{W:WQ}{rk:Kd}{b e k v:Expr}{nk:NK}{i j:Nat}{m mk:EM}{mv:XM}{pos pos' p2 p3:Pos}
end
section
variable{X:Cx}{W:WQ}{rk:Kd}{b e k v:Expr}{nk:NK}{i j:Nat}{m mk:EM}{mv:XM}{pos pos' p2 p3:Pos}
end
section
variable{X:Cx}{W:WQ}{rk:Kd}{e:Expr}{i j:Nat}{m:EM}{pos pos' p:Pos}{x f c:Str}{fs:List Str}
end
end DL
set_option maxHeartbeats 2000000
namespace DL
open PySem PySem.Spec L2 Evl PyProof.Rows
inductive RO where
 |ok (d:D) (outs:List Sl)|ex (c:Str) (outs:List Sl)|bad
def off(H:Hp)(FP:List Addr):Hp:=fun a=>if a∈FP then none else H a
theorem rR{H:Hp}{FP:List Addr}{a:Addr}(h:a∉FP):off H FP a=H a:=by simp [off,h]
section
variable{K:ao}{pn:Pn}{Hf Hb H Hb' H' :Hp}{σ:L2.St}{ρ:Env}
theorem iG.ref(R:iG K pn Hf Hb H σ ρ){i:Nat}(h:(∃d,ρ[i]? =some (.own d))∨∃k cs,ρ[i]? =some (.nst k cs)):∃p,σ[i]? =some (some (.ref p)):=by
 rcases h with⟨d,h⟩|⟨k,cs,h⟩
 ·obtain⟨p,h1,_⟩:=R.own i d h
  exact⟨p,h1⟩
 ·obtain⟨p,_,_,h1,_⟩:=R.parts (.inl h)
  exact⟨p,h1⟩
end
section
variable{P:Program}{w:World}{K:ao}{mg:Str→Option Value}{base:Heap}{x qual:Str}{params:Arguments}{body:List Stmt}{scope:Scope}{dvs:List V}{kws:List (Str×V)}{f:Addr}{fd:FuncData}
end
section
variable{X:Cx}{W:WQ}{rk:Kd}{e:Expr}{m:EM}{mx:XM}{pos:Pos}
end
inductive AM where
 |d (m:EM)|s (i:Nat)|r (i:Nat)
inductive GR where
 |ok (as:List Sl)|ex (c:Str)|bad
def rdC:Sl→Sl
 | .own d=> .bor d
 | .dat d=> .dat d
 | .bor d=> .bor d
 |_=> .un
def rdS:Sl→Option Sl
 | .dat d=>some (.dat d)
 | .own d=>some (.bor d)
 | .bor d=>some (.bor d)
 | .nst k cs=>some (.Yd k (cs.map rdC))
 | .Yd k cs=>some (.Yd k cs)
 | .Yg _ _=>none
 | .un=>none
def ioS:Sl→Option Sl
 | .own d=>some (.own d)
 | .nst k cs=>some (.nst k cs)
 |_=>none
def ioU(s:Sl):Sl:=(ioS s).getD .un
def pD:List AM→List Nat
 |[]=>[]
 | .s i::as=>i::pD as
 |_::as=>pD as
def uH:List AM→List Sl→Env→Env
 | .s i::as,s::outs,ρ=>uH as outs (ρ.set i (ioU s))
 |_::as,_::outs,ρ=>uH as outs ρ
 |_,_,ρ=>ρ
inductive ArR(K:ao)(Hb:Hp)(σ:L2.St):List AM→List V→List Sl→Prop
 |nil:ArR K Hb σ [] [] []
 |d {m:EM} {as:List AM} {v:V} {vs:List V} {x:D} {sl:List Sl}:Dr K Hb v x→ArR K Hb σ as vs sl→ArR K Hb σ (.d m::as) (v::vs) (.dat x::sl)
 |s {i:Nat} {as:List AM} {v:V} {vs:List V} {t:Sl} {sl:List Sl}:σ[i]? =some (some v)→ArR K Hb σ as vs sl→ArR K Hb σ (.s i::as) (v::vs) (t::sl)
 |r {i:Nat} {as:List AM} {v:V} {vs:List V} {t:Sl} {sl:List Sl}:σ[i]? =some (some v)→ArR K Hb σ as vs sl→ArR K Hb σ (.r i::as) (v::vs) (t::sl)
inductive ArA(K:ao)(Hb:Hp)(σ:L2.St)(ρ:Env)(v:V)(t:Sl):AM→Prop
 |d {m:EM} {x:D}:t= .dat x→Dr K Hb v x→ArA K Hb σ ρ v t (.d m)
 |s {i:Nat}:ρ[i]? =some t→σ[i]? =some (some v)→((∃d,t= .own d)∨∃k cs,t= .nst k cs)→ArA K Hb σ ρ v t (.s i)
 |r {i:Nat} {s:Sl}:ρ[i]? =some s→rdS s=some t→σ[i]? =some (some v)→ArA K Hb σ ρ v t (.r i)
theorem JR:∀{as:List AM} {i:Nat},i∈pD as→∃k:Nat,as[k]? =some (.s i)
 |[],_,h=>by cases h
 | .s j::as,i,h=>by
   simp only [pD] at h
   rcases aJ.mp h with z|z
   ·exact⟨0,by simp [z]⟩
   ·obtain⟨k,hk⟩:=JR z
    exact⟨k+1,by simpa using hk⟩
 | .d m::as,i,h=>by
   obtain⟨k,hk⟩:=JR (as:=as) h
   exact⟨k+1,by simpa using hk⟩
 | .r m::as,i,h=>by
   obtain⟨k,hk⟩:=JR (as:=as) h
   exact⟨k+1,by simpa using hk⟩
theorem zH:∀(as:List AM) (outs:List Sl) (ρ:Env),(uH as outs ρ).length=ρ.length
 |[],_,_=>by simp [uH]
 | .s i::as,[],ρ=>by simp [uH]
 | .d i::as,[],ρ=>by simp [uH]
 | .r i::as,[],ρ=>by simp [uH]
 | .s i::as,s::outs,ρ=>by simp [uH,zH as outs]
 | .d i::as,s::outs,ρ=>by simp [uH,zH as outs]
 | .r i::as,s::outs,ρ=>by simp [uH,zH as outs]
theorem zN:∀{as:List AM} {outs:List Sl} {ρ:Env} {i:Nat},i∉pD as→(uH as outs ρ)[i]? =ρ[i]?
 |[],_,_,_,_=>by simp [uH]
 | .s j::as,[],ρ,i,_=>by simp [uH]
 | .d j::as,[],ρ,i,_=>by simp [uH]
 | .r j::as,[],ρ,i,_=>by simp [uH]
 | .s j::as,s::outs,ρ,i,h=>by
   simp only [pD,aJ,not_or] at h
   simp only [uH]
   rw [zN h.2,List.getElem?_set_ne (fun z=>h.1 z.symm)]
 | .d j::as,s::outs,ρ,i,h=>by
   simp only [uH]
   exact zN h
 | .r j::as,s::outs,ρ,i,h=>by
   simp only [uH]
   exact zN h
theorem Jx:∀{as:List AM} {outs:List Sl} {ρ:Env} {k i:Nat} {s:Sl},(pD as).Nodup→as[k]? =some (.s i)→outs[k]? =some s→i<ρ.length→(uH as outs ρ)[i]? =some (ioU s)
 |[],_,_,_,_,_,_,h,_,_=>by simp at h
 |_::_,[],_,_,_,_,_,_,h,_=>by simp at h
 |a::as,t::outs,ρ,0,i,s,nd,h1,h2,hl=>by
  simp at h1 h2
  subst h1 h2
  simp only [pD] at nd
  simp only [uH]
  rw [zN (cU.mp nd).1,List.getElem?_set_self hl]
 |a::as,t::outs,ρ,k+1,i,s,nd,h1,h2,hl=>by
  cases a with
  |s j=>
   simp only [pD] at nd
   simp only [uH]
   exact Jx (cU.mp nd).2 (by simpa using h1) (by simpa using h2) (by simpa using hl)
  |d m=>
   simp only [uH]
   exact Jx (as:=as) nd (by simpa using h1) (by simpa using h2) hl
  |r m=>
   simp only [uH]
   exact Jx (as:=as) nd (by simpa using h1) (by simpa using h2) hl
section
variable{K:ao}{pn:Pn}{Hf Hb H Hb' H' :Hp}{σ:L2.St}{ρ:Env}{F:Nat→List Addr}{as:List AM}{vs:List V}{sl outs:List Sl}
def Xo(F:Nat→List Addr)(as:List AM):List Addr:=(pD as).flatMap F
theorem acL{a:Addr}:a∈Xo F as↔∃i∈pD as,a∈F i:=by simp [Xo,List.mem_flatMap]
theorem N5.back(r:N5 K pn Hf Hb H σ ρ F)(hv:vs.length=as.length)(hsv:∀(k i:Nat),as[k]? =some (.s i)→∃v,vs[k]? =some v∧σ[i]? =some (some v))(nd:(pD as).Nodup)(R' :iG K [] (off H (Xo F as)) Hb' H' (vs.map some) outs)(b:Bw (off H (Xo F as)) Hb Hb' H'):
 iG K pn Hf Hb' H' σ (uH as outs ρ)∧Bw Hf Hb Hb' H' :=by
 obtain⟨F2,r2⟩:=R'
 have hol:outs.length=as.length:=by
  have:=r2.len
  simp at this
  omega
 have fpf:∀a∈Xo F as,Hf a=none∧Hb a=none∧NT (H a):=fun a ha=>by
  obtain⟨i,_,h2⟩:=acL.mp ha
  exact r.fr i a h2
 have hfo:∀a o,Hf a=some o→off H (Xo F as) a=some o:=fun a o ho=>by
  rw [rR (fun z=>by rw [(fpf a z).1] at ho;cases ho)]
  exact r.ef a o ho
 have oth:∀i p,i∉pD as→p∈F i→p∉Xo F as:=fun i p hi hp z=>by
  obtain⟨j,j1,j2⟩:=acL.mp z
  exact r.dj i j p (fun z=>hi (by rw [z];exact j1)) hp j2
 have pos:∀i,i∈pD as→∃k:Nat,as[k]? =some (.s i):=fun i h=>JR h
 let ps:Nat→Nat:=fun i=>if h:i∈pD as then Classical.choose (pos i h) else 0
 have psk:∀i,i∈pD as→as[ps i]? =some (.s i):=fun i h=>by
  have:=Classical.choose_spec (pos i h)
  simp only [ps,dif_pos h]
  exact this
 have f2:∀k p,p∈F2 k→∀i,i∉pD as→p∉F i:=fun k p hp i hi hpi=>by
  have x:=(r2.fr k p hp).1
  have y:=(r.fr i p hpi).2.2
  rw [rR (oth i p hi hpi)] at x
  rw [x] at y
  exact y
 let G:Nat→List Addr:=fun k=>match outs[k]? with
  |some (.own _)=>F2 k
  |some (.nst _ _)=>F2 k
  |_=>[]
 have G2:∀k p,p∈G k→p∈F2 k:=fun k p hp=>by
  simp only [G] at hp
  split at hp
  ·exact hp
  ·exact hp
  ·cases hp
 refine⟨⟨fun i=>if i∈pD as∧i<ρ.length then G (ps i) else if i∈pD as then [] else F i,fun a o h=>r2.ef a o (hfo a o h),r2.eb,by rw [zH];exact r.len,fun i s h=> ?_,fun i=> ?_,fun i p hp=> ?_,fun i j p ne hp hq=> ?_,r.pin⟩,b.b,b.bh,fun a z1 z2=>b.nw a z1 ?_⟩
 ·have hlt:i<ρ.length:=by
   have:=(aq.mp h).1
   rwa [zH] at this
  by_cases hi:i∈pD as
  ·simp only [if_pos (⟨hi,hlt⟩:i∈pD as∧i<ρ.length)]
   have hk:=psk i hi
   have hkl:ps i<as.length:=(aq.mp hk).1
   obtain⟨s0,ho⟩:∃s0,outs[ps i]? =some s0:=⟨_,aP (by omega)⟩
   have:=Jx nd hk ho hlt
   rw [this] at h
   cases h
   obtain⟨v,v1,v2⟩:=hsv _ _ hk
   have z:=r2.sl (ps i) s0 ho
   have e:(vs.map some)[ps i]? =σ[i]? :=by rw [aH,v1,v2];rfl
   rw [e] at z
   cases s0 with
   |own d=>
    have ge:G (ps i)=F2 (ps i):=by simp only [G,ho]
    rw [ge]
    exact z
   |nst k cs=>
    have ge:G (ps i)=F2 (ps i):=by simp only [G,ho]
    rw [ge]
    exact z
   |_=>
    have ge:G (ps i)=[]:=by simp only [G,ho]
    rw [ge]
    rfl
  ·simp only [if_neg (fun z:i∈pD as∧i<ρ.length=>hi z.1),if_neg hi]
   rw [zN hi] at h
   refine(r.sl i s h).frame b.b fun p hp o ho=> ?_
   exact r2.ef p o (by rw [rR (oth i p hi hp)];exact ho)
 ·split
  ·simp only [G]
   split
   ·exact r2.nd _
   ·exact r2.nd _
   ·exact dW
  ·split
   ·exact dW
   ·exact r.nd i
 ·split at hp
  ·obtain⟨x1,x2,x3⟩:=r2.fr _ p (G2 _ p hp)
   refine⟨?_,x2,x3⟩
   cases q:Hf p with
   |none=>rfl
   |some o=>
    rw [hfo p o q] at x1
    cases x1
  ·split at hp
   ·cases hp
   ·rename_i hi
    obtain⟨x1,x2,x3⟩:=r.fr i p hp
    have no:=oth i p hi hp
    obtain⟨o,ho⟩:=yJ x3
    have hh:H' p=some o:=r2.ef p o (by rw [rR no];exact ho)
    exact⟨x1,b.nw p x2 (by rw [rR no];exact x3),by rw [hh,←ho];exact x3⟩
 ·split at hp
  ·rename_i hi
   split at hq
   ·rename_i hj
    have z:ps i≠ps j:=fun z=>by
     have a1:=psk i hi.1
     have a2:=psk j hj.1
     rw [z,a2] at a1
     cases a1
     exact ne rfl
    exact r2.dj _ _ p z (G2 _ p hp) (G2 _ p hq)
   ·split at hq
    ·cases hq
    ·rename_i hj
     exact f2 _ p (G2 _ p hp) j hj hq
  ·split at hp
   ·cases hp
   ·rename_i hi
    split at hq
    ·exact f2 _ p (G2 _ p hq) i hi hp
    ·split at hq
     ·cases hq
     ·exact r.dj i j p ne hp hq
 ·have y:=yJ z2
  obtain⟨o,ho⟩:=y
  rw [hfo a o ho]
  rw [ho] at z2
  exact z2
end
end DL
set_option maxHeartbeats 2000000
namespace DL
open PySem PySem.Spec L2 Evl PyProof.Rows
theorem iG.val{K:ao}{pn:Pn}{Hf Hb H:Hp}{σ:L2.St}{ρ:Env}{i:Nat}{s t:Sl}(R:iG K pn Hf Hb H σ ρ)(h:ρ[i]? =some s)(q:rdS s=some t):∃v,σ[i]? =some (some v):=by
 cases s with
 |un=>cases q
 |dat d=>
  obtain⟨v,h1,_⟩:=R.dat i d h
  exact⟨v,h1⟩
 |own d=>
  obtain⟨p,h1,_⟩:=R.own i d h
  exact⟨_,h1⟩
 |bor d=>
  obtain⟨v,h1,_⟩:=R.bor i d h
  exact⟨v,h1⟩
 |nst k cs=>
  obtain⟨p,_,_,h1,_⟩:=R.parts (.inl h)
  exact⟨_,h1⟩
 |Yd k cs=>
  obtain⟨p,_,_,h1,_⟩:=R.parts (.inr h)
  exact⟨_,h1⟩
 |Yg ks ls=>
  obtain⟨F,r⟩:=R
  obtain⟨p,qs,_,h1,_⟩:=r.sl i _ h
  exact⟨_,h1⟩
section
variable{X:Cx}{W:WQ}{e:Expr}{es:List Expr}{m:EM}{as:List AM}{x:Str}{pos:Pos}
end
section
variable{K:ao}{W:WQ}{pn:Pn}{Hf Hb H Hb1 H1:Hp}{σ:L2.St}{ρ:Env}{as:List AM}{vs:List V}{sl:List Sl}{g:List Sl→RO}{Q:VK}
end
section
variable{X:Cx}{W:WQ}{x y:Str}{p pos q apos:Pos}{e:Expr}{es:List Expr}{as:List AM}{g:List Sl→RO}{j k n:Nat}{ps:List Str}
end
structure ahi(P:Program)(w:World)(K:ao)(mg:Str→Option Value)(base:Heap)(c m:Str)(k:Nat)(ps:List Str)(sp:Sp):Prop where
 ex:∃fd,FnOk P w K mg base (L2.CX P w) k (He.ma K (He.ga K c) m) fd ps sp∧Binds K fd ps []
 me:Meth K (He.ga K c) m (He.ma K (He.ga K c) m)
 cl:Cls K (He.ga K c)
section
variable{X:Cx}{CX:CXT}{k:Nat}{f C:Addr}{fd:FuncData}{ps:List Str}{sp:Sp}{E:L2.St→XK}{x m:Str}{p pos apos:Pos}{e o:Expr}{es:List Expr}{ta:TE}{t:TA}
end
section
variable{X:Cx}{W:WQ}{y c m:Str}{fs:List Str}{q pos apos:Pos}{e:Expr}{es:List Expr}{as:List AM}{g:List Sl→RO}{j k n:Nat}{ps:List Str}
end
end DL
set_option maxHeartbeats 2000000
namespace DL
open PySem PySem.Spec L2 Evl PyProof.Rows
section
variable{K:ao}{pn:Pn}{Hf Hb H Hb' H' :Hp}{σ:L2.St}{ρ:Env}{i:Nat}
end
structure ahj(P:Program)(w:World)(K:ao)(mg:Str→Option Value)(base:Heap)(c:Str)(k:Nat)(ps:List Str)(sp:Sp):Prop where
 ex:∃fd,FnOk P w K mg base (L2.CX P w) k (He.ma K (He.ga K c) "__init__") fd ps sp∧Binds K fd ps []
 mk_:Mk K (He.ga K c) (He.ma K (He.ga K c) "__init__")
 gl:mg c=some (.ref (He.ga K c))
section
variable{X:Cx}{W:WQ}{c:Str}{p pos:Pos}{e:Expr}{es:List Expr}{as:List AM}{g:List Sl→RO}{j k n:Nat}{ps:List Str}
end
section
variable{P:Program}{w:World}{K:ao}{mg:Str→Option Value}{base:Heap}{fa:List He.Fa}{fn:List He.DefD}
theorem nR.cls(Z:nR fa fn K mg)(i:Nat){x:Str}(h:fa[i]? =some (.cls x):=by rfl):Cls K (He.ga K x):=He.cls_ok (Z.says.fact i h)
end
end DL
set_option maxHeartbeats 2000000
namespace DL
open PySem PySem.Spec L2 Evl PyProof.Rows
structure YlF(K:ao)(Hf Hb1:Hp)(J:It)(ds:List D):Prop where
 go:∀(i:Nat) H,Ex Hf H→Ex Hb1 H→i<ds.length→J.go i H
 stop:∀H,Ex Hf H→Ex Hb1 H→J.stop ds.length H
 yld:∀(i:Nat) H x H' Hb,Ex Hf H→Ex Hb1 Hb→Ex Hb H→i<ds.length→J.yld i H x H' →∃Hb' d,Gw Hb H Hb' H' ∧ds[i]? =some d∧Dr K Hb' x d
section
variable{K:ao}{pn:Pn}{Hf Hb H:Hp}{σ:L2.St}{ρ:Env}{p:Addr}{kvs:List (Key×V)}{od:Obj}
end
inductive BdM where
 |v (i:Nat)|p (nk:NK) (i j:Nat)
def BdM.get(ρ:Env):BdM→Option (List (D×D))
 | .v i=>(match ρ[i]? with
   |some (.bor (.dict ds))=>if Gu ds=true then some ds else none
   |_=>none)
 | .p nk i j=>(match ρ[i]? with
   |some (.Yd k cs)=>if k=nk then(match cs[j]? with
    |some (.bor (.dict ds))=>if Gu ds=true then some ds else none
    |_=>none) else none
   |_=>none)
def BdM.te(K:ao):BdM→TE
 | .v i=>tVar i
 | .p nk i j=>tCmp K nk i j
mutual
theorem Kv{K:ao}{Hb:Hp}{p:Addr}{q:Key×V}{kvs:List (Key×V)}(hp:Hb p=some (.dK (q::kvs))):∀{d:D} {v:V},Dr K Hb v d→Dr K (off Hb [p]) v d
 |_,_, .non=> .non
 |_,_, .bl b=> .bl b
 |_,_, .int i=> .int i
 |_,_, .str x=> .str x
 |_,_, .lst (a:=a) s r=>by
  refine .lst ?_ (xq hp r)
  rcases s with(s|⟨o,s⟩)|s
  ·exact .inl (.inl (by rw [rR (fun z=>by rw [aV.mp z,hp] at s;cases s)];exact s))
  ·exact .inl (.inr ⟨o,by rw [rR (fun z=>by rw [aV.mp z,hp] at s;cases s)];exact s⟩)
  ·exact .inr s
 |_,_, .tup s r=> .tup (by rw [rR (fun z=>by rw [aV.mp z,hp] at s;cases s)];exact s) (xq hp r)
 |_,_, .dict0 s=>by
  refine .dict0 ?_
  rcases s with s|⟨o,s⟩
  ·exact .inl (by rw [rR (fun z=>by rw [aV.mp z,hp] at s;cases s)];exact s)
  ·exact .inr ⟨o,by rw [rR (fun z=>by rw [aV.mp z,hp] at s;cases s)];exact s⟩
 |_,_, .FW s r=> .FW (by rw [rR (fun z=>by rw [aV.mp z,hp] at s;cases s)];exact s) (Ug hp r)
 |_,_, .IV s r=> .IV (by rw [rR (fun z=>by rw [aV.mp z,hp] at s;cases s)];exact s) (Wg hp r)
 |_,_, .G5 s g r=> .G5 (by rw [rR (fun z=>by rw [aV.mp z,hp] at s;cases s)];exact s) g (xq hp r)
theorem xq{K:ao}{Hb:Hp}{p:Addr}{q:Key×V}{kvs:List (Key×V)}(hp:Hb p=some (.dK (q::kvs))):∀{ds:List D} {vs:List V},iV K Hb vs ds→iV K (off Hb [p]) vs ds
 |_,_, .nil=> .nil
 |_,_, .cons a b=> .cons (Kv hp a) (xq hp b)
theorem Ug{K:ao}{Hb:Hp}{p:Addr}{q:Key×V}{kvs:List (Key×V)}(hp:Hb p=some (.dK (q::kvs))):∀{ds:List (D×D)} {ks:List (Key×V)},Oh K Hb ks ds→Oh K (off Hb [p]) ks ds
 |_,_, .nil=> .nil
 |_,_, .cons a b=> .cons (Kv hp a) (Ug hp b)
theorem Wg{K:ao}{Hb:Hp}{p:Addr}{q:Key×V}{kvs:List (Key×V)}(hp:Hb p=some (.dK (q::kvs))):∀{ds:List (D×D)} {ks:List (List Key×V)},R7 K Hb ks ds→R7 K (off Hb [p]) ks ds
 |_,_, .nil=> .nil
 |_,_, .cons a b=> .cons (Kv hp a) (Wg hp b)
end
section
variable{K:ao}{pn:Pn}{Hf Hb H:Hp}{σ:L2.St}{ρ:Env}{p:Addr}{q:Key×V}{kvs:List (Key×V)}
theorem Ob.off(hp:Hb p=some (.dK (q::kvs))){o:HO}{d:D}(h:Ob K Hb o d):Ob K (off Hb [p]) o d:=by
 cases h with
 |lst a=>exact .lst (xq hp a)
 |dK a=>exact .dK (Paired.imp (fun _ _ z=>⟨z.1,Kv hp z.2⟩) a)
 |dT a=>exact .dT (Paired.imp (fun _ _ z=>⟨z.1,Kv hp z.2⟩) a)
end
section
variable{X:Cx}{W:WQ}{rk:Kd}{pos:Pos}{g:GM}{mb:SM}{body:List Stmt}{tg e it:Expr}
end
end DL
set_option maxHeartbeats 2000000
namespace DL
open PySem PySem.Spec L2 Evl PyProof.Rows
def adw(td:TE):TE:=fun σ H Q=>td σ H fun x H1=>∃(a:Addr) (kvs:List (Key×V)) (ks:List Str),x= .ref a∧Rd H1 a (.dK kvs)∧kvs.map (·.1)=ks.map Sum.inr∧ks.length<64∧
 ∀(ys:List Str) (p:Addr),ys.Perm ks→sortedS ys=true→H1 p=none→Q (.ref p) (upd H1 p (.lst (ys.map V.str)))
theorem Ry{X:Cx}{e:Expr}{td:TE}{p pos apos cpos:Pos}(hc:X.calm=true)(hg:Gl X "sorted")(hm:X.mg "sorted"=none)(he:PE X e td)(hbase:attributeBase e "keys" X.env (eval e X.env)=eval e X.env:=by rfl)
 (hline:(apos.endLine==cpos.line)=true:=by rfl) (na:starEach [.Call (.Attribute e "keys" apos) [] [] cpos] X.env=(false,eval (.Call (.Attribute e "keys" apos) [] [] cpos) X.env)::starEach [] X.env:=by rfl)
 (hpl:(backTo pos (starEach [] X.env)).any (·.1)=false:=by rfl):
 PE X (.Call (.Name "sorted" p) [.Call (.Attribute e "keys" apos) [] [] cpos] [] pos) (adw td):=by
 refine⟨fun pins s σ H Q I h=> ?_⟩
 refine Call_ (ld_blt I hg hm (show bootBuiltins "sorted"=some (.builtin "sorted") by decide+kernel) (PyProof.Rows.callWith_builtin1 (args_cons ?_ na) na hpl))
 refine wpAny_Call_method (T:="dict") (id:="dict.keys") hbase rfl hline F.plainAttrs_dict F.slot_dict_keys F.type_dict_keys (thn (he.run pins s σ H _ I h) fun u s1 ⟨x,H1,I1,rx,d,kvs,ks,ex,hd,hks,h64,q⟩=> ?_)
 subst ex
 obtain rfl:u=Value.ref d:=rx
 obtain⟨z,lo,vs,rel,dd⟩:=dk_rd I1.hok hd
 refine⟨dd.typeIs,dd.mapOf.noDict,?_⟩
 show wpAny _ _ (callWith cpos (.builtin "dict.keys") [.ref d] [] []) _ X.xe s1
 refine method_meetsIn F.slot_dict_keys F.entry_dict_keys rfl (PySem.evalArgs_none ⟨rfl,dd.typeIs,F.args_dict_keys_1 _,_,PySem.W.kdl_meets_keys (mixKind X.prog X.w) d lo,⟨vs,dd⟩,args_nil ?_⟩)
 have I2:Inv X pins σ H1 {s1 with heap:=s1.heap.push {cls:= .type "dict_keys",data:= .fields #[.ref d]}}:=I1.kept (t' :=s1.toks) fun b ob q=>Heap.get?_push_of_some _ q
 have hv:PySem.W.KdlKeysView (s1.heap.push {cls:= .type "dict_keys",data:= .fields #[.ref d]}) s1.heap.objs.size d:=⟨_,Heap.get?_push_size _ rfl,rfl,rfl⟩
 obtain⟨z2,lo2,vs2,rel2,dd2⟩:=dk_rd I2.hok hd
 obtain⟨ep,hat⟩:=dd2.dictAt
 have hkeys:vs2.map (·.1)=ks.map Sum.inr:=rel2.keys.symm.trans hks
 have hl:vs2.length=ks.length:=by
  have e:=congrArg List.length hkeys
  rw [aA,aA] at e
  exact e
 have hl2:kvs.length=vs2.length:=rel2.length
 have h16:vs2.length≤sizeLine:=by rw [←hl2];exact z2
 refine Calls.call_function_entry PyProof.Rows.kind_sorted PyProof.Rows.plain_sorted PyProof.Rows.entry_sorted (PyProof.Rows.args_sorted1 _) ?_
 unfold Builtin.«sorted»
 refine wpAny_bind (m:=checkCount "sorted" 1 1 _) (wpAny_pure ?_)
 refine wpAny_bind (PySem.W.kdu_collect (A:=X.A.in1) (PySem.W.kdl_keys (knd:=mixKind X.prog X.w) (kvs:=vs2) (ep:=ep) (r:=s1.heap.objs.size) (d:=d)) (I2.ok.hd hc) ⟨hv,hat⟩ h16 fun h' tk acc hk hacc=> ?_)
 have hal:acc.toList.length=ks.length:=by rw [cY,hacc.1,hl]
 have hS:StrsAre acc.toList ks:=strs_at hal fun j v e=>by
  obtain⟨k,x,e1,e2⟩:=hacc.2 j v (by rw [←Array.getElem?_toList];exact e)
  have e3:(vs2.map (·.1))[j]? =some k:=by rw [aH,e1];all_goals rfl
  rw [hkeys,aH] at e3
  cases e4:ks[j]? with
  |none=>rw [e4] at e3;cases e3
  |some y=>
   rw [e4] at e3
   have e5:Sum.inr y=k:=Option.some.inj e3
   subst e5
   obtain⟨t,ev⟩:=Value.isStrOf_shape (x:=y) (v:=v) e2
   exact⟨y,t,rfl,ev⟩
 have I3:Inv X pins σ H1 {s1 with heap:=h',toks:=tk}:=I2.kept (t' :=tk) hk
 refine wpAny_bind (wpAny_newList ?_ (by rw [hal,sizeLine_eq];omega))
 have hoL:(h'.push (seqObj "list" acc.toList.toArray 0)).get? h'.objs.size=some (seqObj "list" acc.toList.toArray 0):=Heap.get?_push_size _ rfl
 show wpAny _ _ _ _ _ {s1 with heap:=h'.push (seqObj "list" acc.toList.toArray 0),toks:=tk}
 refine wpAny_bind (wpAny_holding (wpAny_call_entry PyProof.Rows.slot_list_sort ⟨_,hoL,rfl⟩ PyProof.Rows.entry_list_sort
  (list_sort_treeK strKind_oneLt (s:={s1 with heap:=h'.push (seqObj "list" acc.toList.toArray 0),toks:=tk}) hoL hS.keysOf (fun v₁ v₂ rest e=>keyKind_strs (by rw [←e];exact hS)) (by rw [hal];exact h64) fun st' hp hs=>⟨_,rfl,?_⟩)
  (PyProof.Rows.args_list_sort _)))
 obtain⟨ys,g1,g2,g3⟩:=sorted_out_str hS hp hs
 obtain⟨e',he'⟩:=PyProof.Rows.sortedHeap_at (vs:=acc.toList) (out:=(arrOf st').map (·.2)) hoL
 have hlen:(ys.map V.str).length≤sizeLine:=by
  rw [aA,g2.length_eq]
  exact bf (Nat.le_of_lt h64) (by decide)
 refine wpAny_pure ⟨_,rfl, .ref h'.objs.size,upd H1 h'.objs.size (.lst (ys.map V.str)),I3.laid (t' :=tk) (fun b u e=> ?_) (bA _)
  (show ObjOk X.prog X.w _ _ _ (.lst (ys.map V.str)) from⟨hlen,((arrOf st').map (·.2)).toList,e',vals_of_strs g1,by rw [Array.toArray_toList];exact he'⟩),rfl,q ys _ g2 g3 (I3.hok.fresh (bA _))⟩
 have hb:b<h'.objs.size:=Heap.lt_size e
 rw [PyProof.Rows.sortedHeap_old (Nat.ne_of_lt hb) (by rw [size_push'];exact Nat.lt_succ_of_lt hb)]
 exact Heap.get?_push_of_some _ e
def Sy(a b:Str):Bool:= !ltCps b.cps.toList a.cps.toList
theorem yw{a b:Str}:Sy a b=true↔a.cps.toList≤b.cps.toList:=by
 unfold Sy
 rw [ltCps_eq,Bool.not_eq_true',decide_eq_false_iff_not]
 exact List.not_lt
theorem Ql{a b c:Str}(h1:Sy a b=true)(h2:Sy b c=true):Sy a c=true:=yw.mpr (List.le_trans (yw.mp h1) (yw.mp h2))
theorem Pu(a b:Str):Sy a b=true∨Sy b a=true:=by
 rcases List.le_total a.cps.toList b.cps.toList with h|h
 ·exact .inl (yw.mpr h)
 ·exact .inr (yw.mpr h)
theorem abl{a b:Str}(h1:Sy a b=true)(h2:Sy b a=true):a=b:=Str.ext' (Array.toList_inj.mp (List.le_antisymm (yw.mp h1) (yw.mp h2)))
theorem Ip:∀(l:List Str) (p:Str),risingS p l=true→(p::l).Pairwise fun a b=>Sy a b=true
 |[],p,_=>List.pairwise_singleton _ _
 |x::r,p,h=>by
  have h:(!ltCps x.cps.toList p.cps.toList&&risingS x r)=true:=h
  obtain⟨h1,h2⟩:=Bool.and_eq_true_iff.mp h
  have ih:=Ip r x h2
  refine dB.mpr ⟨fun y hy=> ?_,ih⟩
  rcases aJ.mp hy with rfl|hy
  ·exact h1
  ·exact Ql (b:=x) h1 ((dB.mp ih).1 y hy)
theorem Wl{l:List Str}(h:sortedS l=true):l.Pairwise fun a b=>Sy a b=true:=by
 cases l with
 |nil=>exact .nil
 |cons x r=>exact Ip r x h
theorem T9:∀{l m:List Str},l.Perm m→(l.Pairwise fun a b=>Sy a b=true)→(m.Pairwise fun a b=>Sy a b=true)→l=m
 |[],m,h,_,_=>(List.Perm.nil_eq h)
 |a::l,[],h,_,_=>by have:=h.length_eq;simp at this
 |a::l,b::m,h,h1,h2=>by
  obtain⟨p1,q1⟩:=dB.mp h1
  obtain⟨p2,q2⟩:=dB.mp h2
  have rf:∀x:Str,Sy x x=true:=fun x=>(Pu x x).elim id id
  have ab:a=b:=by
   have ha:a∈b::m:=h.mem_iff.mp bB
   have hb:b∈a::l:=h.mem_iff.mpr bB
   have x1:Sy b a=true:=by
    rcases aJ.mp ha with e|e
    ·rw [e]
     exact rf b
    ·exact p2 a e
   have x2:Sy a b=true:=by
    rcases aJ.mp hb with e|e
    ·rw [e]
     exact rf a
    ·exact p1 b e
   exact abl x2 x1
  subst ab
  rw [T9 (List.Perm.cons_inv h) q1 q2]
def S7(ks:List Str):List Str:=ks.mergeSort Sy
theorem Qs(ks:List Str):(S7 ks).Perm ks:=List.mergeSort_perm ks Sy
theorem Vg(ks:List Str):(S7 ks).Pairwise fun a b=>Sy a b=true:=List.pairwise_mergeSort (fun a b c=>Ql (a:=a) (b:=b) (c:=c)) (fun a b=>Bool.or_eq_true_iff.mpr (Pu a b)) ks
theorem ado{ys ks:List Str}(h:ys.Perm ks)(hs:sortedS ys=true):ys=S7 ks:=T9 (h.trans (Qs ks).symm) (Wl hs) (Vg ks)
def strKeys:List (D×D)→Option (List Str)
 |[]=>some []
 |(.str x,_)::r=>(strKeys r).map (x::·)
 |_::_=>none
def nU:D→ER
 | .dict ds=>(match strKeys ds with
   |some ks=>if ks.length<64 then .ok (.list ((S7 ks).map aN)) else .bad
   |none=> .bad)
 |_=> .bad
theorem VF{K:ao}{Hb:Hp}:∀{kvs:List (Key×V)} {ds:List (D×D)} {ks:List Str},PK K Hb kvs ds→strKeys ds=some ks→kvs.map (·.1)=ks.map Sum.inr
 |_,_,_, .nil,h=>by
  cases h
  rfl
 |_,_,_, .cons (a:=(k,v)) (b:=(x,y)) h r,hk=>by
  obtain⟨h1,h2⟩:=h
  have h1:x=keyD k:=h1
  cases x with
  |str z=>
   simp only [strKeys,aK] at hk
   obtain⟨ks,hk1,rfl⟩:=hk
   cases k with
   |inl i=>cases h1
   |inr w=>
    cases h1
    rw [aZ,aZ,VF r hk1]
  |_=>cases hk
section
variable{X:Cx}{W:WQ}{e:Expr}{m:EM}{p pos apos cpos:Pos}
theorem Hg(hm:X.mg "sorted"=none)(h:DE X W .bor e m)(hc:X.calm=true:=by rfl)(hg:Gl X "sorted":=by rfl)(hbase:attributeBase e "keys" X.env (eval e X.env)=eval e X.env:=by rfl)
 (hline:(apos.endLine==cpos.line)=true:=by rfl) (na:starEach [.Call (.Attribute e "keys" apos) [] [] cpos] X.env=(false,eval (.Call (.Attribute e "keys" apos) [] [] cpos) X.env)::starEach [] X.env:=by rfl)
 (hpl:(backTo pos (starEach [] X.env)).any (·.1)=false:=by rfl):DE X W .new (.Call (.Name "sorted" p) [.Call (.Attribute e "keys" apos) [] [] cpos] [] pos) (Dq nU m):=
 PE.imp (Ry hc hg hm h hbase hline na hpl) fun σ H Q ⟨Hf,Hb,ρ,R,h1,h2,h3⟩=>by
  refine⟨Hf,Hb,ρ,R,fun d hd v Hb1 H1 g1 r1=> ?_,fun c hc Hb1 H1 g1=>h2 c (by simp [Dq,hc,ER.bind]) Hb1 H1 g1,fun z=>h3 (by simp [Dq,z,ER.bind])⟩
  cases d with
  |dict ds=>
   cases hk:strKeys ds with
   |none=>exact absurd (by simp [Dq,hd,ER.bind,nU,hk]) h3
   |some ks=>
    by_cases h64:ks.length<64
    ·have hm:Gu ds=true:=by
      cases ds with
      |nil=>rfl
      |cons q ds=>
       obtain⟨k,v⟩:=q
       cases k<;>first|rfl|simp [strKeys] at hk
     obtain⟨a,kvs,rfl,hd1,pk⟩:=Bo.dict g1.bh r1 hm
     refine⟨a,kvs,ks,rfl,hd1,VF pk hk,h64,fun ys q py sy hq=> ?_⟩
     have z:=Gw.Z6 (K:=X.K) (xs:=(S7 ks).map V.str) g1.bh hq (CN (S7 ks))
     rw [ado py sy]
     exact h1 (.list ((S7 ks).map aN)) (by simp [Dq,hd,ER.bind,nU,hk,h64]) _ _ _ (g1.trans z.1) (z.2.back g1.h)
    ·exact absurd (by simp [Dq,hd,ER.bind,nU,hk,h64]) h3
  |_=>exact absurd (by simp [Dq,hd,ER.bind,nU]) h3
end
end DL
set_option maxHeartbeats 2000000
namespace DL
open PySem PySem.Spec L2 Evl PyProof.Rows
section
variable{X:Cx}{W:WQ}{rk:Kd}{e:Expr}{es:List Expr}{m:EM}{ms:List EM}{pos pos' lpos:Pos}
end
section
variable{X:Cx}{W:WQ}{rk:Kd}{b k:Expr}{nk:NK}{i j:Nat}{mk:EM}{pos p2 p3:Pos}{x:Str}{p:Pos}
end
section
variable{X:Cx}{W:WQ}{rk:Kd}{e e2 tg:Expr}{es:List Expr}{m:EM}{mx:XM}{ms:List EM}{pos p:Pos}{x:Str}{ks:List Kd}{g:List D→ER}{j k:Nat}{ps:List Str}{gm:GM}
end
def JT:List D→ER
 |[.int i, .int j, .int k]=> .ok (.int (min (min i j) k))
 |_=> .bad
theorem adD:zp JT:=fun ds c h=>by
 unfold JT at h
 repeat' split at h
 all_goals cases h
theorem ra3{K:ao}{Hb H:Hp}{ks:List Kd}{vs:List V}{d e f:D}(h:mU K Hb H ks vs [d,e,f]):∃v w u,vs=[v,w,u]∧Bo K Hb H v d∧Bo K Hb H w e∧Bo K Hb H u f:=by
 cases h with
 |cons a b=>
  cases b with
  |cons c b=>
   cases b with
   |cons x b=>
    cases b
    exact⟨_,_,_,rfl,a.bo,c.bo,x.bo⟩
theorem ad6{X:Cx}(hc:X.calm=true):CallD X (.builtin "min") .dat JT:=by
 intro pins s σ H vs us Q I r h
 obtain⟨Hb,ks,ds,d,eb,ra,hg,q⟩:=h
 unfold JT at hg
 split at hg
 ·rename_i i j k
  cases hg
  obtain⟨v,w,u,rfl,b1,b2,b3⟩:=ra3 ra
  have nm:∀a b:Int,nuMin2 (.int a) (.int b)=some (.int (min a b)):=fun a b=>by
   show some (if decide (b<a)=true then V.int b else V.int a)=_
   by_cases z:b<a
   ·rw [decide_eq_true z,if_pos rfl,Int.min_eq_right (by omega)]
   ·rw [decide_eq_false z,if_neg (by simp),Int.min_eq_left (by omega)]
  refine call_min3Nu hc pins s σ H _ us Q I r ⟨.int i, .int j, .int k, .int (min (min i j) k),by rw [b1.int,b2.int,b3.int],?_,q _ Hb H (Gw.refl eb) pN⟩
  show(nuMin2 (.int i) (.int j)).bind _=_
  rw [nm]
  exact nm _ _
 ·cases hg
end DL
set_option maxHeartbeats 2000000
namespace DL
open PySem PySem.Spec L2 Evl PyProof.Rows
section
variable{prog:Program}{w:World}{A:Around}{E:Value→Shared→Prop}{s:Shared}
end
section
variable{X:Cx}{pins:List (Addr×Obj)}{σ:L2.St}{H:Hp}{s:Shared}{a:Addr}{y:V}{u:Value}{A:Around}{E:Value→Shared→Prop}
end
section
variable{X:Cx}{pins:List (Addr×Obj)}{σ:L2.St}{H:Hp}{s:Shared}{a:Addr}{y:V}{u:Value}{A:Around}{E:Value→Shared→Prop}
end
section
variable{X:Cx}{o e f:Expr}{apos cpos:Pos}{td ty tx:TE}
end
section
variable{X:Cx}{W:WQ}{o e f:Expr}{ma mb mc:EM}{apos cpos:Pos}
end
end DL
set_option maxHeartbeats 2000000
namespace DL
open PySem PySem.Spec L2 Evl PyProof.Rows
end DL
set_option maxHeartbeats 2000000
namespace DL
open PySem PySem.Spec L2 Evl PyProof.Rows
section
variable{pn:Pn}{K:ao}{H H' Hb Hb' Hf:Hp}{σ:L2.St}{ρ:Env}{i:Nat}{ks:List Key}{ls:List (List D)}
theorem iG.Yg(R:iG K pn Hf Hb H σ ρ)(h:ρ[i]? =some (.Yg ks ls)):∃p qs,σ[i]? =some (some (.ref p))∧H p=some (.dK (ks.zip (qs.map V.ref)))∧qs.length=ks.length∧Jv K Hb H qs ls∧(p::qs).Nodup∧(∀a∈p::qs,Hf a=none∧Hb a=none)∧
 ∀(Hb' H' :Hp) (ks' :List Key) (ls' :List (List D)) (qs' :List Addr),(∀a o,a∉p::qs→H a=some o→H' a=some o)→Ex Hb Hb' →Ex Hb' H' →(∀a,a∉p::qs→Hb a=none→NT (H a)→Hb' a=none)→H' p=some (.dK (ks'.zip (qs'.map V.ref)))→qs'.length=ks'.length→Jv K Hb' H' qs' ls' →(p::qs').Nodup→
  (∀a∈qs',a∈qs∨H a=none)→(∀a∈p::qs',Hb' a=none)→iG K pn Hf Hb' H' σ (ρ.set i (.Yg ks' ls')):=by
 obtain⟨F,r⟩:=R
 obtain⟨p,qs,h1,h2,h3,h4,h5⟩:=r.sl i _ h
 refine⟨p,qs,h2,h3,h4,h5,by rw [←h1];exact r.nd i,fun a ha=> ?_,?_⟩
 ·have:=r.fr i a (by rw [h1];exact ha)
  exact⟨this.1,this.2.1⟩
 intro Hb' H' ks' ls' qs' e1 b bh nw hp hl c nd sub hb
 have new:SlO K Hf Hb' H' σ[i]? (.Yg ks' ls') (p::qs'):=⟨p,qs',rfl,h2,hp,hl,c⟩
 have hfn:∀a∈p::qs',Hf a=none:=fun a ha=>by
  rcases aJ.mp ha with z|z
  ·rw [z];exact(r.fr i p (by rw [h1];simp)).1
  ·rcases sub a z with w|w
   ·exact(r.fr i a (by rw [h1];exact aM _ w)).1
   ·exact fresh_back r.ef w
 refine⟨_,r.step (i:=i) (s:= .Yg ks' ls') (fp:=p::qs') (fun a o e=>e1 a o (fun z=> ?_) (r.ef a o e)) bh b rfl (fun _ _=>rfl) (fun a ha _ k2 k3=> ?_) (fun _=>new) nd (fun a ha=>⟨hfn a ha,hb a ha,new.nt a ha⟩) (fun l a hl ha hj=> ?_) (fun a q=>r.pin i a q)⟩
 ·have:=(r.fr i a (by rw [h1];exact z)).1
  rw [e] at this
  cases this
 ·rw [h1] at ha
  obtain⟨o,ho⟩:=yJ k3
  exact⟨by rw [ho];exact e1 a o ha ho,nw a ha k2 k3⟩
 ·rcases aJ.mp ha with z|z
  ·exact r.dj l i a hl hj (by rw [h1,z];simp)
  ·rcases sub a z with w|w
   ·exact r.dj l i a hl hj (by rw [h1];exact aM _ w)
   ·have:=(r.fr l a hj).2.2
    rw [w] at this
    exact this
end
section
variable{K:ao}{Hb H:Hp}
theorem Jv.len{qs:List Addr}{ls:List (List D)}(h:Jv K Hb H qs ls):qs.length=ls.length:=by
 induction h with
 |nil=>rfl
 |cons _ _ _ ih=>simp [ih]
theorem Jv.get:∀{qs:List Addr} {ls:List (List D)} {j:Nat} {q:Addr},Jv K Hb H qs ls→qs[j]? =some q→∃xs,H q=some (.lst xs)∧iV K Hb xs (ls.getD j [])
 |_,_,j,q, .nil,h=>by simp at h
 |_,_,0,q, .cons a b c,h=>by
  simp at h
  subst h
  exact⟨_,a,by simpa using b⟩
 |_,_,j+1,q, .cons a b c,h=>by
  obtain⟨xs,h1,h2⟩:=Jv.get c (by simpa using h)
  exact⟨xs,h1,by simpa [bJ] using h2⟩
theorem Jv.app:∀{qs rs:List Addr} {ls ms:List (List D)},Jv K Hb H qs ls→Jv K Hb H rs ms→Jv K Hb H (qs++rs) (ls++ms)
 |_,_,_,_, .nil,h=>h
 |_,_,_,_, .cons a b c,h=> .cons a b (Jv.app c h)
theorem Jv.put{H' :Hp}{xs:List V}{ds:List D}:∀{qs:List Addr} {ls:List (List D)} {j:Nat} {q:Addr},Jv K Hb H qs ls→qs[j]? =some q→qs.Nodup→H' q=some (.lst xs)→iV K Hb xs ds→(∀a∈qs,a≠q→H' a=H a)→Jv K Hb H' qs (ls.set j ds)
 |_,_,j,q, .nil,h,_,_,_,_=>by simp at h
 |_,_,0,q, .cons a b c,h,nd,h1,h2,hk=>by
  simp at h
  subst h
  obtain⟨n1,n2⟩:=cU.mp nd
  refine .cons h1 h2 (c.frame (Ex.refl _) fun p hp o ho=> ?_)
  rw [hk p (aM _ hp) (fun z=>n1 (by rw [←z];exact hp))]
  exact ho
 |_,_,j+1,q, .cons (q:=q0) a b c,h,nd,h1,h2,hk=>by
  obtain⟨n1,n2⟩:=cU.mp nd
  have hq:q∈_:=aX (by simpa using h)
  refine .cons ?_ b (Jv.put c (by simpa using h) n2 h1 h2 fun a ha ne=>hk a (aM _ ha) ne)
  rw [hk q0 bB (fun z=>n1 (by rw [z];exact hq))]
  exact a
end
section
variable{pn:Pn}{K:ao}{H H' Hb Hb' Hf:Hp}{σ:L2.St}{ρ:Env}{i:Nat}{ks:List Key}{ls:List (List D)}
end
section
variable{X:Cx}{W:WQ}{rk:Kd}{o k v:Expr}{i:Nat}{mk mv:EM}{x:Str}{p p2 p3 p4 p5 p6 pos:Pos}
end
section
variable{X:Cx}{W:WQ}{k:Expr}{mk:EM}{x:Str}{p p2 pos apos cpos:Pos}
end
end DL
set_option maxHeartbeats 2000000
namespace DL
open PySem PySem.Spec L2 Evl PyProof.Rows
section
variable{X:Cx}
end
end DL
set_option maxHeartbeats 2000000
namespace DL
open PySem PySem.Spec L2 Evl PyProof.Rows
section
variable{X:Cx}{W:WQ}{rk:Kd}{tg:Expr}{g:GM}{body:List Stmt}{mb:SM}{pos q:Pos}{y:Str}
end
section
variable{X:Cx}{W:WQ}{a:Expr}{lo hi:Option Expr}{m:EM}{ml mh:Option EM}{pos p2:Pos}
end
theorem zF.off{K:ao}{Hb H:Hp}{vs:List V}{cs:List Sl}{fq:List Addr}(h:zF K Hb H vs cs fq):∀{j:Nat} {d:D} {q:Addr},cs[j]? =some (.own d)→vs[j]? =some (.ref q)→fq.Nodup→∃fq',zF K Hb H vs (cs.set j .un) fq' ∧q∉fq' ∧(∀a∈fq',a∈fq)∧fq'.Nodup∧q∈fq:=by
 induction h with
 |nil=>intro j d q e;simp at e
 |dat a r ih=>
  intro j d q e ev nd
  cases j with
  |zero=>simp at e
  |succ j=>
   obtain⟨fq',h1,h2,h3,h4,h5⟩:=ih (j:=j) (by simpa using e) (by simpa using ev) nd
   exact⟨fq', .dat a h1,h2,h3,h4,h5⟩
 |un r ih=>
  intro j d q e ev nd
  cases j with
  |zero=>simp at e
  |succ j=>
   obtain⟨fq',h1,h2,h3,h4,h5⟩:=ih (j:=j) (by simpa using e) (by simpa using ev) nd
   exact⟨fq', .un h1,h2,h3,h4,h5⟩
 |own a r ih=>
  rename_i q0 d0 vs cs fp
  intro j d q e ev nd
  obtain⟨n1,n2⟩:=cU.mp nd
  cases j with
  |zero=>
   simp at ev
   subst ev
   exact⟨fp, .un r,n1,fun a ha=>aM _ ha,n2,bB⟩
  |succ j=>
   obtain⟨fq',h1,h2,h3,h4,h5⟩:=ih (j:=j) (by simpa using e) (by simpa using ev) n2
   refine⟨q0::fq', .own a h1,fun z=> ?_,fun a ha=> ?_,cU.mpr ⟨fun z=>n1 (h3 _ z),h4⟩,aM _ h5⟩
   ·rcases aJ.mp z with z|z
    ·rw [z] at h5
     exact n1 h5
    ·exact h2 z
   ·rcases aJ.mp ha with z|z
    ·rw [z];exact bB
    ·exact aM _ (h3 a z)
section
variable{X:Cx}{W:WQ}{rk:Kd}{b b' k k' e x:Expr}{rest:List Stmt}{mr:SM}{mk me mx:EM}{nk:NK}{i j jj kn:Nat}{g:List D→ER}{f:Str}{ps:List Str}{pos pos' p p2 p3 p4:Pos}
end
end DL
set_option maxHeartbeats 4000000
namespace DL
open PySem PySem.Spec L2 Evl PyProof.Rows
section
variable{P:Program}{w:World}{A:Around}{E:Value→Shared→Prop}{s:Shared}
end
section
variable{X:Cx}
end
section
variable{X:Cx}{W:WQ}{e:Expr}{m:EM}{p p2 pos pos2:Pos}
end
section
variable{X:Cx}
end
section
variable{X:Cx}{W:WQ}{o e:Expr}{ma mb:EM}{apos pos:Pos}
end
end DL
set_option maxHeartbeats 4000000
namespace DL
open PySem PySem.Spec L2 Evl
section
variable{pn:Pn}{K:ao}{H Hb Hf Hf' :Hp}{σ:L2.St}{ρ:Env}{F:Nat→List Addr}{A:Addr}{o:HO}
theorem SlO.hf{x:Option (Option V)}{s:Sl}{fp:List Addr}(h:SlO K Hf Hb H x s fp)(e:Ex Hf Hf'):SlO K Hf' Hb H x s fp:=by
 cases s with
 |bor d=>
  obtain⟨h0,v,h1,h2⟩:=h
  refine⟨h0,v,h1,?_⟩
  rcases h2 with h2|⟨p,h3,h4⟩
  ·exact .inl h2
  ·exact .inr ⟨p,h3,h4.ex (Ex.refl _) e⟩
 |Yd k cs=>
  obtain⟨h0,p,vs,hp,h1,h2,h3⟩:=h
  exact⟨h0,p,vs,hp,h1,h2.frame fun p hp o ho=>e _ _ ho,h3.ex (Ex.refl _) e⟩
 |_=>exact h
end
section
variable{X:Cx}{W:WQ}{elt tg iter:Expr}{scope:Scope}{own:List (Str×Nat)}{pos:Pos}{mi:Env→AR}{T:TG}{g:GM}{mx:XM}
end
section
variable{pn:Pn}{K:ao}{H Hb Hf:Hp}{σ:L2.St}{ρ:Env}{i:Nat}{p:Addr}{od:Obj}{kvs:List (Key×V)}{ds:List (D×D)}
end
section
variable{X:Cx}{W:WQ}{rk:Kd}{pos:Pos}{g:GM}{mb:SM}{body:List Stmt}{tg:Expr}
end
section
variable{X:Cx}{W:WQ}{o e:Expr}{m n:EM}{apos pos:Pos}
end
end DL
set_option maxHeartbeats 4000000
namespace DL
open PySem PySem.Spec L2 Evl
section
variable{K:ao}{W:WQ}{T:TG}{g:GM}{me:EM}{vs:List Nat}{σ:L2.St}{H1 Hf Hb1:Hp}{ρ:Env}{Q:VK}{ds:List D}{J:It}{pn:Pn}
end
section
variable{X:Cx}{W:WQ}{rk:Kd}{elt tg iter:Expr}{scope:Scope}{own:List (Str×Nat)}{pos:Pos}{T:TG}{g:GM}{mx my:XM}{me:EM}
end
section
variable{X:Cx}{pins:List (Addr×Obj)}{σ:L2.St}{H:Hp}{s:Shared}{A:Around}{E:Value→Shared→Prop}
end
end DL
set_option maxHeartbeats 4000000
namespace DL
open PySem PySem.Spec L2 Evl
def afF(i j:Nat):SM:=fun ρ=>match ρ[i]?,ρ[j]? with
 |some (.dat r),some (.own (.list ps))=> .rt (.tuple [r, .list ps])
 |_,_=> .bad
section
variable{X:Cx}{W:WQ}{kd:Kd}{e:Expr}{m:EM}
end
section
variable{X:Cx}{W:WQ}
end
section
variable{X:Cx}
end
theorem PS.ex2{α β:Type}{X:Cx}{st:Stmt}{t:α→β→TS}(h:∀a b,PS X st (t a b)):PS X st (fun E σ H=>∃a b,t a b E σ H):=⟨fun pins s σ H D I ⟨a,b,q⟩=>(h a b).run pins s σ H D I q⟩
section
variable{P:Program}{w:World}{K:ao}{mg:Str→Option Value}{base:Heap}{fa:List He.Fa}{fn:List He.DefD}
end
end DL
set_option maxHeartbeats 4000000
namespace DL
open PySem PySem.Spec L2 Evl
section
variable{K:ao}{H Hb Hf Hf' :Hp}{pn pn' :Pn}{σ:L2.St}{ρ:Env}{i j k:Nat}{cs:List Sl}{vs:List V}{fq:List Addr}{p q:Addr}{d:D}
theorem N5.two{F:Nat→List Addr}(R:N5 K pn Hf Hb H σ ρ F){si sj:Sl}{fi fj:List Addr}{σ' :L2.St}(ij:i≠j)(hl:σ'.length=σ.length)(hσ:∀a,a≠i→a≠j→σ'[a]? =σ[a]?)
 (hi:i<ρ.length→SlO K Hf Hb H σ'[i]? si fi) (hj:j<ρ.length→SlO K Hf Hb H σ'[j]? sj fj) (hs:(fi++fj).Nodup) (hm:∀a,a∈fi++fj→a∈F i∨a∈F j) (hp:∀b a,(b,a)∈pn→(b=i∨b=j)→σ'[b]? =some (some (.ref a))):
 N5 K pn Hf Hb H σ' ((ρ.set i si).set j sj) (fun a=>if a=j then fj else if a=i then fi else F a):=by
 have nd:=cQ.mp hs
 refine⟨R.ef,R.eb,by rw [hl,R.len];simp,fun a t q=> ?_,fun a=> ?_,fun a x hx=> ?_,fun a b x ab hx=> ?_,fun b a hb=> ?_⟩
 ·by_cases aj:a=j
  ·subst aj
   simp only [if_true]
   have hlt:a<ρ.length:=by
    have:=(aq.mp q).1
    simpa using this
   rw [List.getElem?_set_self (by simpa using hlt)] at q
   cases q
   exact hj hlt
  ·rw [List.getElem?_set_ne (Ne.symm aj)] at q
   by_cases ai:a=i
   ·subst ai
    simp only [if_neg aj,if_true]
    have hlt:a<ρ.length:=by
     have:=(aq.mp q).1
     simpa using this
    rw [List.getElem?_set_self hlt] at q
    cases q
    exact hi hlt
   ·rw [List.getElem?_set_ne (Ne.symm ai)] at q
    simp only [if_neg aj,if_neg ai]
    rw [hσ a ai aj]
    exact R.sl a t q
 ·by_cases aj:a=j
  ·simp only [aj,if_true]
   exact nd.2.1
  ·by_cases ai:a=i
   ·simp only [if_neg aj,ai,if_true]
    rw [if_neg ij]
    exact nd.1
   ·simp only [if_neg aj,if_neg ai]
    exact R.nd a
 ·have hx' :∃b,x∈F b:=by
   by_cases aj:a=j
   ·simp only [aj,if_true] at hx
    rcases hm x (List.mem_append_right _ hx) with z|z
    ·exact⟨i,z⟩
    ·exact⟨j,z⟩
   ·by_cases ai:a=i
    ·simp only [if_neg aj,if_pos ai] at hx
     rcases hm x (cA _ hx) with z|z
     ·exact⟨i,z⟩
     ·exact⟨j,z⟩
    ·simp only [if_neg aj,if_neg ai] at hx
     exact⟨a,hx⟩
  obtain⟨b,hb⟩:=hx'
  exact R.fr b x hb
 ·--no two own the same
  have cls:∀c,(fun a=>if a=j then fj else if a=i then fi else F a) c=(if c=j then fj else if c=i then fi else F c):=fun _=>rfl
  have low:∀c,c≠i→c≠j→x∈F c→x∉F i∧x∉F j:=fun c c1 c2 hc=>⟨R.dj c i x c1 hc,R.dj c j x c2 hc⟩
  have out:∀c,c≠i→c≠j→x∈F c→x∉fi∧x∉fj:=fun c c1 c2 hc=>by
   obtain⟨n1,n2⟩:=low c c1 c2 hc
   exact⟨fun z=>(hm x (cA _ z)).elim n1 n2,fun z=>(hm x (List.mem_append_right _ z)).elim n1 n2⟩
  by_cases aj:a=j
  ·subst aj
   simp only [if_true] at hx
   by_cases bi:b=i
   ·simp only [if_neg (Ne.symm ab),if_pos bi]
    exact fun z=>nd.2.2 x z x hx rfl
   ·simp only [if_neg (Ne.symm ab),if_neg bi]
    exact fun z=>(out b bi (Ne.symm ab) z).2 hx
  ·by_cases ai:a=i
   ·subst ai
    simp only [if_neg aj,if_true] at hx
    by_cases bj:b=j
    ·simp only [if_pos bj]
     exact fun z=>nd.2.2 x hx x z rfl
    ·simp only [if_neg bj,if_neg (Ne.symm ab)]
     exact fun z=>(out b (Ne.symm ab) bj z).1 hx
   ·simp only [if_neg aj,if_neg ai] at hx
    obtain⟨o1,o2⟩:=out a ai aj hx
    by_cases bj:b=j
    ·simp only [if_pos bj]
     exact o2
    ·by_cases bi:b=i
     ·simp only [if_neg bj,if_pos bi]
      exact o1
     ·simp only [if_neg bj,if_neg bi]
      exact R.dj a b x ab hx
 ·by_cases bi:b=i
  ·exact hp b a hb (.inl bi)
  ·by_cases bj:b=j
   ·exact hp b a hb (.inr bj)
   ·rw [hσ b bi bj]
    exact R.pin b a hb
end
theorem PSs.ex1{α:Type}{X:Cx}{st:List Stmt}{t:α→TS}(h:∀a,PSs X st (t a)):PSs X st (fun E σ H=>∃a,t a E σ H):=⟨fun pins s σ H D I ⟨a,q⟩=>(h a).run pins s σ H D I q⟩
section
variable{K:ao}{H Hb Hf:Hp}{pn:Pn}{σ:L2.St}{ρ:Env}{i j0 j1 j2 j3:Nat}{p:Addr}
end
section
variable{X:Cx}{W:WQ}{rk:Kd}
end
section
variable{X:Cx}{W:WQ}{rk:Kd}{mx my:XM}{pos:Pos}
end
section
variable{X:Cx}
end
end DL
namespace DL
open PySem PySem.Spec L2 Evl
end DL
namespace DL
open PySem PySem.Spec L2 Evl PyProof.Rows
end DL
set_option maxHeartbeats 2000000
namespace DL
open PySem PySem.Spec PyProof.Rows L2 Evl RT
theorem Yt:typeLookup (.type "str") "__reversed__"=pure none:=by rw [typeLookup_type,builtinLookup_eq_fast];kernel_rfl
theorem TX:typeLookup (.type "str") "__getitem__"=pure (some (.builtin "str.__getitem__")):=by rw [typeLookup_type,builtinLookup_eq_fast];kernel_rfl
theorem ab2:typeLookup (.type "reversed") "__len__"=pure none:=by rw [typeLookup_type,builtinLookup_eq_fast];kernel_rfl
theorem adT:typeLookup (.type "reversed") "__length_hint__"=pure (some (.builtin "reversed.__length_hint__")):=by rw [typeLookup_type,builtinLookup_eq_fast];kernel_rfl
def U7(x:Str)(t:Tok)(i:Int):Obj:={cls:= .type "reversed",data:= .fields #[.str x t,rawInt i]}
def Ba(h:Heap)(a:Addr)(x:Str)(t:Tok)(i:Int):Prop:=∃o,h.get? a=some o∧o.cls= .type "reversed"∧o.data= .fields #[.str x t,rawInt i]
theorem Ba.at{h h' :Heap}{a:Addr}{x:Str}{t:Tok}{i:Int}(r:Ba h a x t i)(e:∀o,h.get? a=some o→h'.get? a=some o):Ba h' a x t i:=let ⟨o,ho,r⟩:=r;⟨o,e _ ho,r⟩
section
variable{prog:Program}{w:World}{A:Around}{E:Value→Shared→Prop}{s:Shared}
theorem Ba.typeIs{a:Addr}{x:Str}{t:Tok}{i:Int}(r:Ba s.heap a x t i):s.TypeIs (.ref a) "reversed":=let ⟨o,ho,hc,_⟩:=r;⟨o,ho,hc⟩
theorem FQ{x:Str}{t:Tok}{Q₁:Value→Shared→Prop}(hfit:¬(x.length:Int)≥2 ^ 63)
 (h:Q₁ (.ref s.heap.objs.size) {s with heap:=s.heap.push (U7 x t ((x.length:Int)-1)),toks:=s.toks+1+1}):
 codeAny (model prog w) A (.call (.builtin "reversed.__new__") ⟨[.type "reversed", .str x t],[]⟩) (wants Q₁ E) s:=by
 have hT:s.TypeIs (.str x t) "str":=typeIs_str s x t
 refine codeAny_of_tree ?_
 show wpAny _ A.in1 (do checkBuiltinCall "reversed.__new__" ⟨[.type "reversed", .str x t],[]⟩;again (.builtin "reversed.__new__" ⟨[.type "reversed", .str x t],[]⟩)) _ _ s
 refine wpAny_bind (wpAny_of_eq (PySem.F.newCall_reversed_1 _) (wpAny_pure ⟨plainId_quiet PySem.F.plain_reversed_new _,codeAny_builtin PySem.F.entry_reversed_new ?_⟩))
 rw [Around.under_plainId PySem.F.plain_reversed_new _]
 unfold Builtin.«reversed.__new__»
 refine wpAny_bind (wpAny_of_eq (newClass_reversed _) ?_)
 try dsimp only
 refine wpAny_bind (wpAny_of_eq (a:=()) (by first|rfl|kernel_rfl) ?_)
 try dsimp only
 refine wpAny_bind (wpAny_of_eq (a:=()) (by first|rfl|kernel_rfl) ?_)
 try dsimp only
 refine wpAny_bind (wpAny_specialOf hT Yt ?_)
 try dsimp only
 refine wpAny_bind ?_
 wp_delta
 refine wpAny_bind (wpAny_isInstance (T:="str") (U:="dict") (b:=false) hT (by rw [isSubtype_type];kernel_rfl) ?_)
 try dsimp only
 try rw [if_neg Bool.false_ne_true]
 try dsimp only
 refine wpAny_bind (wpAny_specialOf hT TX ?_)
 try dsimp only
 try rw [if_pos (by decide+kernel)]
 refine wpAny_pure ?_
 try dsimp only
 try rw [if_neg (by decide)]
 try dsimp only
 refine wpAny_bind (PySem.P.len_str hfit ?_)
 refine wpAny_bind (wpAny_of_eq (a:=some ((x.length:Nat):Int)) rfl ?_)
 try dsimp only
 refine wpAny_bind ?_
 show wpAny _ _ (newObj (.type "reversed") (.fields #[.str x t,rawInt ((x.length:Int)-1)])) _ _ _
 refine wpAny_newObj_type ?_
 exact wpAny_pure h
theorem Gh{x:Str}{t:Tok}{Q:Value→Shared→Prop}(hfit:¬(x.length:Int)≥2 ^ 63)
 (h:Q (.ref s.heap.objs.size) {s with heap:=s.heap.push (U7 x t ((x.length:Int)-1)),toks:=s.toks+1+1}):wpAny (model prog w) A (call (.type "reversed") [.str x t]) Q E s:=by
 refine callType_codes (Q₁:=fun obj s₁=>s₁.TypeIs obj "reversed"∧Q obj s₁) called_rt (PySem.F.typeCall_reversed_1 _) PySem.F.entry_object_init
  (FQ (A:=A.in1) hfit ⟨⟨_,Heap.get?_push_size _ rfl,rfl⟩,h⟩) fun obj s₁ h₁=> ?_
 exact⟨h₁.1,PySem.F.args_object_init_2 obj _,object_init_meets called_rt.init.lookup called_rt.made (by decide) prog w A.in1 _ s₁ ⟨h₁.1,rfl,h₁.2⟩⟩
theorem SQ{it:Addr}{x:Str}{t:Tok}{i c:Nat}{Q:Option Value→Shared→Prop}(hit:Ba s.heap it x t (i:Int))(hc:x.cps[i]? =some c)(hsz:x.length≤sizeLine)
 (hQ:∀h' u tk,Ba h' it x t ((i:Int)-1)→Heap.SameBut it s.heap h' →Q (some (.str ⟨#[c]⟩ u)) {s with heap:=h',toks:=tk}):wpAny (model prog w) A (pyNext (.ref it)) Q E s:=by
 obtain⟨o,ho,hcl,hd⟩:=id hit
 have hi:i<x.length:=(Array.getElem?_eq_some_iff.mp hc).1
 have hT:s.TypeIs (.str x t) "str":=typeIs_str s x t
 rw [sizeLine_eq] at hsz
 unfold pyNext
 refine wpAny_bind (wpAny_attempt (wpAny_callSpecial?_slot (name:=Str.ofString "__next__") hit.typeIs slot_rt_next
  (wpAny_call_entry slot_rt_next hit.typeIs entry_rt_next ?_ (args_rt_next _))))
 unfold Builtin.«reversed.__next__»
 refine wpAny_bind (wpAny_of_eq (a:=(Value.ref it,[])) rfl ?_)
 try dsimp only
 refine wpAny_bind (wpAny_field ho hd (x:= .str x t) rfl ?_)
 try dsimp only
 refine wpAny_bind (wpAny_field ho hd (x:=rawInt (i:Int)) rfl ?_)
 show wpAny _ _ (if(i:Int)<0 then _ else _) _ _ s
 rw [if_neg (by omega)]
 try dsimp only
 refine wpAny_bind (wpAny_specialOf hT TX ?_)
 try dsimp only
 try rw [if_neg (by decide)]
 try dsimp only
 refine wpAny_bind (wpAny_mkInt ?_)
 refine wpAny_bind (wpAny_attempt ?_)
 have fin:seqIndex? (i:Int) x.length=some i:=seqIndex_of (by omega) (by omega)
 refine PyProof.Rows.getItem_str (s:={s with toks:=s.toks+1}) (c:=c) (by
  have e1:decide ((i:Int)< -(2 ^ 63:Int))=false:=decide_eq_false (by omega)
  have e2:decide ((i:Int)≥2 ^ 63)=false:=decide_eq_false (by omega)
  rw [e1,e2]<;>rfl) (by rw [fin];exact hc) ?_
 try dsimp only
 refine wpAny_bind (wpAny_field (s:={s with toks:=s.toks+1+1}) ho hd (x:=rawInt (i:Int)) rfl ?_)
 try dsimp only
 refine wpAny_bind (wpAny_setField (s:={s with toks:=s.toks+1+1}) ho hd (by simp) ?_)
 first
 |refine wpAny_pure ⟨_,rfl,wpAny_pure (hQ _ _ _ ?_ (Heap.SameBut.update ..))⟩
 |refine wpAny_bind (wpAny_pure (wpAny_pure ⟨_,rfl,wpAny_pure (hQ _ _ _ ?_ (Heap.SameBut.update ..))⟩))
 exact⟨_,Heap.get?_update_self _ ho (Obj.isFreed_of_fields (Obj.data_mapFields hd _)),(Obj.cls_mapFields ..).trans hcl,by
  rw [Obj.data_mapFields hd];simp⟩
theorem U8{it:Addr}{x:Str}{t:Tok}{Q:Option Value→Shared→Prop}(hh:A.handled=none)(hit:Ba s.heap it x t (-1))
 (hQ:∀h',Heap.ExtBut it s.heap h' →Q none {s with heap:=h' }):wpAny (model prog w) A (pyNext (.ref it)) Q E s:=by
 obtain⟨o,ho,hc,hd⟩:=id hit
 unfold pyNext
 refine wpAny_bind (wpAny_attempt (wpAny_callSpecial?_slot (name:=Str.ofString "__next__") hit.typeIs slot_rt_next
  (wpAny_call_entry slot_rt_next hit.typeIs entry_rt_next ?_ (args_rt_next _))))
 unfold Builtin.«reversed.__next__»
 refine wpAny_bind (wpAny_of_eq (a:=(Value.ref it,[])) rfl ?_)
 try dsimp only
 refine wpAny_bind (wpAny_field ho hd (x:= .str x t) rfl ?_)
 try dsimp only
 refine wpAny_bind (wpAny_field ho hd (x:=rawInt (-1)) rfl ?_)
 show wpAny _ _ (if(-1:Int)<0 then _ else _) _ _ s
 rw [if_pos (by decide)]
 try dsimp only
 refine wpAny_bind (wpAny_rule ?_)
 refine wpAny_bind ?_
 wp_delta
 refine wpAny_bind (wpAny_setField ho hd (by simp) ?_)
 have ho2:=Heap.get?_update_self (Obj.mapFields (·.setIfInBounds 1 (rawInt (-1)))) ho (Obj.isFreed_of_fields (Obj.data_mapFields hd _))
 refine wpAny_setField (s:={s with heap:=s.heap.update it (Obj.mapFields (·.setIfInBounds 1 (rawInt (-1))))}) ho2 (Obj.data_mapFields hd _) (by simp) ?_
 try dsimp only
 first
 |show wpAny _ _ (newExc (.type "StopIteration") []>>=_) _ _ _
 |(refine wpAny_bind ?_;show wpAny _ _ (newExc (.type "StopIteration") []>>=_) _ _ _)
 |(refine wpAny_bind ?_;wp_delta;show wpAny _ _ (newExc (.type "StopIteration") []>>=_) _ _ _)
 refine wpAny_bind ?_
 simp only [newExc,newTuple]
 refine wpAny_bind (wpAny_newObj_type ?_ (by size_fits))
 refine wpAny_bind (m:=firstArgMember _ _) (wpAny_of_eq (a:=Value.none) (by first|rfl|(simp only [firstArgMember];rfl)) ?_)
 refine wpAny_newObj_type ?_ (by size_fits)
 simp only [raiseNew]
 refine wpAny_bind (wpAny_handled ?_)
 first|rw [show A.in1.handled=none from hh]|rw [hh]
 refine wpAny_bind (wpAny_pure (wpAny_throw ?_))
 refine wpAny_bind (wpAny_isInstance (T:="StopIteration") (b:=true) ⟨_,Heap.get?_push_size _ rfl,rfl⟩ isSubtype_stop ?_)
 refine wpAny_pure (hQ _ ?_)
 refine((?_:Heap.ExtBut it s.heap _).push _).push _
 exact fun b ob hb e=>(Heap.get?_update_other _ _ (Ne.symm hb)).trans ((Heap.get?_update_other _ _ (Ne.symm hb)).trans e)
theorem Rz{it:Addr}{x:Str}{t:Tok}{i:Int}{Q:Value→Shared→Prop}(hit:Ba s.heap it x t i)(h:Q (.ref it) s):wpAny (model prog w) A (pyIter (.ref it)) Q E s:=by
 refine wpAny_pyIter_slot hit.typeIs slot_rt_iter (wpAny_call_entry slot_rt_iter hit.typeIs entry_rt_iter ?_ (args_rt_iter _))
 show wpAny _ _ (ret (.ref it)) _ _ s
 exact wpAny_pure ⟨_,rfl,"reversed",_,hit.typeIs,slot_rt_next.lookup,h⟩
end
theorem acn{prog:Program}{w:World}{A:Around}(hh:A.handled=none)(I:Addr)(x:Str)(t:Tok)(hsz:x.length≤sizeLine):
 Walks prog w A I [I] [I] x.length (fun i v=>∃c u,x.cps[x.length-1-i]? =some c∧v= .str ⟨#[c]⟩ u) (fun i h=>i≤x.length∧Ba h I x t ((x.length:Int)-1-(i:Int))) where
 sub:=fun b hb=>hb
 frame:=fun _ _ _ r hk=>⟨r.1,r.2.at fun o e=>hk I (by simp) o e⟩
 item:=fun i s Q E hi r hQ=>by
  have e:(x.length:Int)-1-(i:Int)=((x.length-1-i:Nat):Int):=by omega
  have hit:=r.2
  rw [e] at hit
  have hl:x.length-1-i<x.cps.size:=by show x.length-1-i<x.length;omega
  have hx:x.cps[x.length-1-i]? =some (x.cps[x.length-1-i]'hl):=Array.getElem?_eq_getElem hl
  refine SQ hit hx hsz fun h' u tk hit' hs' => ?_
  have e2:((x.length-1-i:Nat):Int)-1=(x.length:Int)-1-((i+1:Nat):Int):=by omega
  rw [e2] at hit'
  exact hQ _ h' tk ⟨_,u,hx,rfl⟩ ⟨by omega,hit'⟩ fun b o hb eo=>hs'.extBut b o (fun h=>hb (by simp [h])) eo
 done:=fun s Q E r hQ=>by
  have e:(x.length:Int)-1-(x.length:Int)= -1:=by omega
  have hit:=r.2
  rw [e] at hit
  exact U8 hh hit fun h' he' =>hQ h' s.toks fun b o hb eo=>he' b o (fun h=>hb (by simp [h])) eo
 self:=fun _ _ _ _ r hQ=>Rz r.2 hQ
section
variable{prog:Program}{w:World}{A:Around}{E:Value→Shared→Prop}{s:Shared}
theorem R9:Slot "reversed" "__length_hint__" "reversed.__length_hint__":=
 .of (owner:="reversed") (n:="__length_hint__") (by rw [typeLookup_type,builtinLookup_eq_fast];kernel_rfl) (by decide+kernel) (by decide+kernel) (by decide+kernel)
  (by first|exact .inl (by decide+kernel)|exact .inr (by decide+kernel)) (by rw [isSubtype_type];kernel_rfl)
theorem Oj:entryFor table "reversed.__length_hint__"=some Builtin.«reversed.__length_hint__»:=entryFor_of_tree (by kernel_rfl)
theorem Tq(a:Value):argsOk "reversed.__length_hint__" ⟨[a],[]⟩:=by
 unfold argsOk;rw [signature?_of (id:="reversed.__length_hint__") (n:="__length_hint__".toList.reverse) (o:=['d', 'e', 's', 'r', 'e', 'v', 'e', 'r']) (by kernel_rfl) owner_rt];kernel_rfl
theorem RG(self:Value):bindSpecial (.builtin "reversed.__length_hint__") self=pure (.builtin "reversed.__length_hint__",[self]):=by
 unfold bindSpecial
 rw [show typeOf (.builtin "reversed.__length_hint__")=pure (.type "method_descriptor") from by show builtinType _=_;kernel_rfl]
 rfl
theorem aar{it:Addr}{x:Str}{t:Tok}{Q:Value→Shared→Prop}(hit:Ba s.heap it x t ((x.length:Int)-1))(hn:x.length≤sizeLine)
 (h:∀u tk,Q (.int ((x.length:Nat):Int) u) {s with toks:=tk}):wpAny (model prog w) A (call (.builtin "reversed.__length_hint__") [.ref it]) Q E s:=by
 obtain⟨o,ho,hc,hd⟩:=id hit
 rw [sizeLine_eq] at hn
 refine wpAny_call_entry R9 hit.typeIs Oj ?_ (Tq _)
 unfold Builtin.«reversed.__length_hint__»
 refine wpAny_bind (wpAny_of_eq (a:=Value.ref it) rfl ?_)
 try dsimp only
 refine wpAny_bind (wpAny_field ho hd (x:= .str x t) rfl ?_)
 try dsimp only
 rw [if_neg (show¬(Value.str x t==Value.none)=true from by intro z;exact absurd z (by show¬false=true;exact Bool.false_ne_true))]
 refine wpAny_bind (PySem.P.len_str (by omega) ?_)
 refine wpAny_bind (wpAny_of_eq (a:=some ((x.length:Nat):Int)) rfl ?_)
 try dsimp only
 refine wpAny_bind (wpAny_field (s:={s with toks:=s.toks+1+1}) ho hd (x:=rawInt ((x.length:Int)-1)) rfl ?_)
 show wpAny _ _ (if((x.length:Nat):Int)<((x.length:Int)-1)+1 then _ else _) _ _ _
 rw [if_neg (by omega),show((x.length:Int)-1)+1=((x.length:Nat):Int) from by omega]
 exact wpAny_bind (wpAny_mkInt (wpAny_pure ⟨_,rfl,h _ _⟩))
theorem adh{it:Addr}{x:Str}{t:Tok}{Q:Bool→Shared→Prop}(hit:Ba s.heap it x t ((x.length:Int)-1))(hn:x.length≤sizeLine)
 (h:∀tk,Q (((x.length:Nat):Int) !=0) {s with toks:=tk}):wpAny (model prog w) A (Builtin.List.listLengthHint (.ref it)) Q E s:=by
 have hT:=hit.typeIs
 have hn2:=hn
 rw [sizeLine_eq] at hn2
 unfold Builtin.List.listLengthHint
 refine wpAny_bind (wpAny_specialOf hT ab2 ?_)
 show wpAny _ A (specialOf (Value.ref it) (Str.ofString "__length_hint__")>>=_) _ _ _
 refine wpAny_bind (wpAny_specialOf hT adT ?_)
 generalize hid:("reversed.__length_hint__":String)=id0
 wp_delta
 rw [show splitId id0=some ("reversed","__length_hint__") from by subst hid;decide+kernel]
 subst hid
 refine wpAny_bind (wpAny_isInstance (b:=true) hT (by rw [isSubtype_type];kernel_rfl) ?_)
 rw [if_neg (by decide)]
 refine wpAny_ite ?_
 split
 ·rename_i z
  exact absurd z (by decide+kernel)
 refine wpAny_bind (wpAny_rule ?_)
 refine wpAny_bind (wpAny_of_eq (RG _) ?_)
 try dsimp only
 refine wpAny_bind (wpAny_attempt (aar hit hn fun u tk=> ?_))
 try dsimp only
 generalize hz:((x.length:Nat):Int)=z at h⊢
 have z0:0≤z:=by omega
 have z1:z≤16777216:=by omega
 refine wpAny_bind (m:=asInt? (.int z u)) (wpAny_pure ?_)
 show wpAny _ A (if(!Builtin.List.listFitsIndex z)=true then _ else _) _ _ _
 rw [if_neg (by unfold Builtin.List.listFitsIndex;rw [Bool.not_eq_true',Bool.and_eq_false_iff,decide_eq_false_iff_not,decide_eq_false_iff_not];omega)]
 rw [if_neg (by omega)]
 rw [if_neg (by unfold Builtin.List.listTooLong;rw [decide_eq_true_eq,sizeLine_eq];omega)]
 exact wpAny_pure (h _)
theorem aaF{b:Bool}{S:Addr}{cd:Code}{Q:Fin→Shared→Prop}(hS:s.heap.get? S=some {cls:= .type "list",data:= .seq ([]:List Value).toArray})
 (h:∀(h2:Heap) (c:Nat),h2.get? S=some {cls:= .type "list",dict:=none,data:= .seq #[] c,slots:= #[]}→(∀b o,b≠S→s.heap.get? b=some o→h2.get? b=some o)→Q (.again cd) {s with heap:=h2}):
 wpAny (model prog w) A (if b=true then(rule "list.extend.makes-room">>=fun _=>Builtin.List.listTouch (.ref S)>>=fun _=>again cd) else again cd) Q E s:=by
 cases b with
 |false=>
  rw [if_neg (by decide)]
  exact wpAny_pure (h s.heap _ hS fun _ _ _ e=>e)
 |true=>
  rw [if_pos rfl]
  refine wpAny_bind (wpAny_rule ?_)
  refine wpAny_bind ?_
  show wpAny _ A (updateSeq S (·.push .none)>>=fun _=>updateSeq S (·.pop)) _ _ _
  refine wpAny_bind (wpAny_updateSeq hS rfl ?_)
  have hS₂:=Heap.get?_update_self (Obj.mapSeq (·.push Value.none)) hS rfl
  refine wpAny_updateSeq hS₂ rfl ?_
  have hS₃:=Heap.get?_update_self (Obj.mapSeq (·.pop)) hS₂ rfl
  refine wpAny_pure (h ((s.heap.update S (Obj.mapSeq (·.push Value.none))).update S (Obj.mapSeq (·.pop))) _ hS₃ fun b o hb e=> ?_)
  exact(Heap.get?_update_other _ _ (Ne.symm hb)).trans ((Heap.get?_update_other _ _ (Ne.symm hb)).trans e)
theorem Ws{it:Addr}{x:Str}{t:Tok}{Q:List Value→Shared→Prop}(hh:A.handled=none)(hit:Ba s.heap it x t ((x.length:Int)-1))(hn:x.length≤sizeLine)
 (hQ:∀(h' :Heap) (tk:Nat) (acc:Array Value),(∀b o,b≠it→s.heap.get? b=some o→h'.get? b=some o)→ItemsOf (fun i v=>∃c u,x.cps[x.length-1-i]? =some c∧v= .str ⟨#[c]⟩ u) acc x.length→Q acc.toList {s with heap:=h',toks:=tk}):
 wpAny (model prog w) A (collect (.ref it)) Q E s:=by
 have W:=(acn (prog:=prog) (w:=w) (A:=A.in1) hh it x t hn).toS
 obtain⟨oi,hoi,_⟩:=id hit
 have hSi:s.heap.objs.size≠it:=Nat.ne_of_gt (Heap.lt_size hoi)
 have hSf:s.heap.objs.size∉[it]:=by simp only [aJ,bD,or_false];exact hSi
 unfold collect
 refine wpAny_bind (wpAny_runValue (codeAny_builtin PySem.F.entry_proto_collect ?_))
 rw [Around.under_plainId PySem.F.plain_proto_collect _]
 show wpAny _ A.in1 (newList []>>=fun l' =>again (.builtin "list.__iadd__" ⟨[l', .ref it],[]⟩)) _ _ s
 refine wpAny_bind (wpAny_newObj_type ?_)
 refine wpAny_pure ⟨plainId_quiet PySem.F.plain_list_iadd _,codeAny_builtin PySem.F.entry_list_iadd ?_⟩
 rw [Around.under_plainId PySem.F.plain_list_iadd _]
 have hS₁:(s.heap.push {cls:= .type "list",data:= .seq ([]:List Value).toArray}).get? s.heap.objs.size=some {cls:= .type "list",data:= .seq ([]:List Value).toArray}:=Heap.get?_push_size _ rfl
 have hit1:Ba (s.heap.push {cls:= .type "list",data:= .seq ([]:List Value).toArray}) it x t ((x.length:Int)-1):=hit.at fun o e=>Heap.get?_push_of_some _ e
 have hT:({s with heap:=s.heap.push {cls:= .type "list",data:= .seq ([]:List Value).toArray}}:Shared).TypeIs (.ref it) "reversed":=Ba.typeIs (s:={s with heap:=s.heap.push {cls:= .type "list",data:= .seq ([]:List Value).toArray}}) hit1
 have h1:Builtin.List.listSameRef (.ref s.heap.objs.size) (.ref it)=false:=by simp [Builtin.List.listSameRef,hSi]
 show wpAny _ A.in1 (Builtin.List.listExtendWith (.ref s.heap.objs.size) (.ref it) (.ref s.heap.objs.size)) _ _ _
 unfold Builtin.List.listExtendWith
 refine wpAny_bind (wpAny_typeOf hT ?_)
 rw [if_neg (by rw [h1];decide)]
 refine wpAny_bind (Rz (s:={s with heap:=s.heap.push {cls:= .type "list",data:= .seq ([]:List Value).toArray}}) hit1 ?_)
 refine wpAny_bind (wpAny_holding ?_)
 refine adh hit1 hn fun tk0=> ?_
 have e0:((x.length:Nat):Int)-1-((0:Nat):Int)=(x.length:Int)-1:=by omega
 refine aaF hS₁ fun h2 c2 hS₂ h2k=> ?_
 have hit2:Ba h2 it x t ((x.length:Int)-1):=hit1.at fun o e=>h2k _ _ (Ne.symm hSi) e
 refine⟨plainId_quiet PySem.F.plain_extend_loop _,codeAny_extend_loopS W hn _ hSf _ x.length 0 _ _ _ rfl (cG _) ⟨cG _,by rw [e0];exact hit2⟩ hS₂ (ItemsOf.nil _) fun s' acc' c' hm hS' hacc=> ?_⟩
 show wpAny _ A (load s.heap.objs.size>>=_) _ _ s'
 refine wpAny_bind (wpAny_load hS' ?_)
 refine wpAny_pure ?_
 rw [Moved.eq_with hm]
 refine hQ s'.heap s'.toks acc' (fun b o hb e=>hm.heap b o (fun hmem=> ?_) (h2k _ _ (Nat.ne_of_lt (Heap.lt_size e)) (Heap.get?_push_of_some _ e))) hacc
 rcases aJ.mp hmem with e' |hmem
 ·exact absurd (Heap.lt_size e) (by rw [e'];exact Nat.lt_irrefl _)
 ·exact hb (aV.mp hmem)
open Builtin Builtin.Str in
theorem adP{it:Addr}{sep x:Str}{t u:Tok}{Q:Value→Shared→Prop}(hh:A.handled=none)(hit:Ba s.heap it x t ((x.length:Int)-1))(hn:x.length≤sizeLine)
 (hok:∀l:List Str,l.length=x.length→(∀y∈l,y.length=1)→JoinOk sep l=true)
 (hq:∀(h' :Heap) (t' :Tok) (k:Nat),(∀b o,b≠it→s.heap.get? b=some o→h'.get? b=some o)→Q (.str (Txt.join sep (x.cps.toList.reverse.map fun c=>⟨#[c]⟩)) t') {s with heap:=h',toks:=k}):
 wpAny (model prog w) A (call (.builtin "str.join") [.str sep u, .ref it]) Q E s:=by
 refine wpAny_call (codeAny_call_builtin PySem.F.slot_str_join.plain PySem.F.entry_str_join (PySem.F.slot_str_join.check _ _ _ _ _ _ _ _ (typeIs_str _ _ _) (PySem.F.args_str_join_2 _ _) ?_))
 rw [join_tree_other]
 refine wpAny_bind (wpAny_typeOf hit.typeIs ?_)
 show wpAny _ A.in1 ((pyIter (.ref it)).tryCatch _>>=fun it=>collect it>>=fun items=>joinTail sep items) _ _ s
 refine wpAny_bind (wpAny_tryCatch (Rz hit ?_))
 refine wpAny_bind (Ws (A:=A.in1) hh hit hn fun h' tk acc hk hacc=> ?_)
 obtain⟨l,hl⟩:=exists_strValues acc.toList fun v hv=>by
  obtain⟨j,hj,rfl⟩:=Array.mem_iff_getElem.mp (Array.mem_toList_iff.mp hv)
  obtain⟨c,u,_,e⟩:=hacc.2 j _ (Array.getElem?_eq_getElem hj)
  exact⟨_,_,e⟩
 rw [←hl]
 have e:l.map (·.1)=x.cps.toList.reverse.map fun c=>(⟨#[c]⟩:Str):=by
  have hs:l.length=x.length:=by
   have h0:=hacc.1
   rw [←cY,←hl] at h0
   unfold strValues at h0
   rwa [aA] at h0
  refine List.ext_getElem? fun j=> ?_
  rw [aH,aH]
  by_cases hj:j<x.length
  ·have hjl:l[j]? =some l[j]:=aP (by omega)
   have h2:acc[j]? =some (.str l[j].1 l[j].2):=by
    rw [←Array.getElem?_toList,←hl]
    unfold strValues
    rw [aH,hjl]<;>rfl
   obtain⟨c,u,hc,ev⟩:=hacc.2 j _ h2
   have hr:x.cps.toList.reverse[j]? =some c:=by
    rw [List.getElem?_reverse (by show j<x.cps.toList.length;rw [cY];exact hj)]
    rw [cY,Array.getElem?_toList]
    exact hc
   rw [hjl,hr]
   show some l[j].1=some ⟨#[c]⟩
   injection ev with e1 e2
   rw [e1]
  ·rw [cO (by omega),cO (by rw [bL,cY];exact Nat.le_of_not_lt hj)]
   rfl
 have lj:JoinOk sep (l.map (·.1))=true:=by
  rw [e]
  refine hok _ (by rw [aA,bL,cY];rfl) fun y hy=> ?_
  obtain⟨c,_,rfl⟩:=cC.mp hy
  rfl
 have hok' :=lj
 unfold JoinOk at hok'
 rw [Bool.not_eq_true'] at hok'
 have g:Gives (joinTail sep (strValues l)) (joinMade sep l):=by
  have g0:=gives_joinTail sep l hok'
  cases l with
  |nil=>exact g0
  |cons p r=>cases r with
   |nil=>exact g0
   |cons q r' =>exact g0
 refine g prog w A (wants Q E) _ (post_join l ⟨joinFit_length hok',fun t' k=> ?_⟩)
 rw [e]
 exact hq h' t' k hk
end
end DL
set_option maxHeartbeats 2000000
namespace DL
open PySem PySem.Spec PyProof.Rows L2 Evl RT
theorem J8{X:Cx}{W:WQ}{kd:Kd}{e:Expr}{m:EM}{pins:List (Addr×Obj)}{s:Shared}{σ:L2.St}{H Hf Hb:Hp}{ρ:Env}{d:D}(h:DE X W kd e m)(I:Inv X pins σ H s)(R:iG X.K W.pin Hf Hb H σ ρ)(hm:m ρ= .ok d):
 wpAny (model X.prog X.w) X.A (eval e X.env) (fun u s1=>s.toks≤s1.toks∧∃v H1 Hb1,Inv X pins σ H1 s1∧RelV v u∧Gw Hb H Hb1 H1∧Rs X.K kd H Hb1 H1 v d) X.xe s:=by
 have h1:=h.run pins s σ H (fun v H1=>∃Hb1,Gw Hb H Hb1 H1∧Rs X.K kd H Hb1 H1 v d) I ⟨Hf,Hb,ρ,R,fun d' hd' v Hb' H' g r=>by
  rw [hm] at hd'
  cases hd'
  exact⟨Hb',g,r⟩,fun c hc=>absurd (hm.symm.trans hc) (by intro z;cases z),fun z=>absurd (hm.symm.trans z) (by intro z;cases z)⟩
 refine wpAny_mono (PySem.wpAny_toks h1) (fun u s1 q=> ?_) fun _ _ z=>z.2
 obtain⟨q0,v,H1,I1,r1,Hb1,g,rs⟩:=q
 exact⟨q0,v,H1,Hb1,I1,r1,g,rs⟩
def ab'(x:Str):Str:=⟨x.cps.toList.reverse.toArray⟩
theorem Nh:∀cs:List Nat,TL.joinL [] (cs.map fun c=>[c])=cs
 |[]=>rfl
 |[c]=>rfl
 |c::d::r=>by
  have h:=Nh (d::r)
  show [c]++[]++TL.joinL [] ((d::r).map fun c=>[c])=_
  rw [h]
  rfl
theorem aaA(x:Str):Txt.join ("":Str) (x.cps.toList.reverse.map fun c=>(⟨#[c]⟩:Str))=ab' x:=by
 rw [TL.join_eq]
 refine TL.ext_tl ?_
 rw [TL.tl_join,bY]
 show TL.joinL [] (x.cps.toList.reverse.map fun c=>[c])=x.cps.toList.reverse
 exact Nh _
def El(m:EM):EM:=fun ρ=>match m ρ with
 | .ok (.str x)=>if x.length≤1000000 then .ok (.str (ab' x)) else .bad
 |_=> .bad
section
variable{X:Cx}{W:WQ}
theorem Xg{e:Expr}{m:EM}{j:Nat}{c0 p2 pos2 apos pos:Pos}(hm2:X.mg "reversed"=none)(he:DE X W .bor e m)(hc:X.calm=true:=by rfl)(hg2:Gl X "reversed":=by rfl)
 (hs:starEach [e] X.env=(false,eval e X.env)::starEach [] X.env:=by rfl)
 (hs2:starEach [.Call (.Name "reversed" p2) [e] [] pos2] X.env=[(false,eval (.Call (.Name "reversed" p2) [e] [] pos2) X.env)]:=by rfl)
 (hbase:attributeBase (.Constant (.str "") j c0) "join" X.env (eval (.Constant (.str "") j c0) X.env)=eval (.Constant (.str "") j c0) X.env:=by rfl) (hline:(apos.endLine==pos.line)=true:=by rfl):
 DE X W .dat (.Call (.Attribute (.Constant (.str "") j c0) "join" apos) [.Call (.Name "reversed" p2) [e] [] pos2] [] pos) (El m):=by
 refine⟨fun pins s σ H Q I h=> ?_⟩
 obtain⟨Hf,Hb,ρ,R,h1,h2,h3⟩:=h
 cases hx:m ρ with
 |ex c=>exact absurd (by simp only [El,hx]) h3
 |bad=>exact absurd (by simp only [El,hx]) h3
 |ok d=>
  cases d with
  |str x=>
   by_cases hl:x.length≤1000000
   ·have hr:El m ρ= .ok (.str (ab' x)):=by
     simp only [El,hx]
     rw [if_pos hl]
    refine PySem.Call_method1 hbase hs2 hline (Calls.Constant_str ?_)
    refine⟨"str",_,PySem.F.plainAttrs_str,PySem.F.slot_str_join,PySem.F.type_str_join,typeIs_str _ _ _,(fun _ e=>nomatch e),Calls.callWith_builtin rfl (Calls.evalArgs_plain (Calls.spliced_cons ?_))⟩
    refine Call_ (ld_blt (I.tok _) hg2 hm2 PyProof.Rows.boot_reversed (PyProof.Rows.callWith_type1 (args_cons (thn (J8 he (I.tok _) R hx) fun u s1 q=>args_nil ?_) hs) hs rfl))
    obtain⟨_,v,H1,Hb1,I1,r1,g,rs⟩:=q
    have rv:=Bo.str rs
    subst rv
    obtain⟨t,rfl⟩:=r1
    have l63:=line63
    have lsz:=sizeLine_eq
    refine Gh (by omega) (Calls.spliced_nil ?_)
    have k0:∀b o,s1.heap.get? b=some o→(s1.heap.push (U7 x t ((x.length:Int)-1))).get? b=some o:=fun b o e=>Heap.get?_push_of_some _ e
    have I2:Inv X pins σ H1 {s1 with heap:=s1.heap.push (U7 x t ((x.length:Int)-1)),toks:=s1.toks+1+1}:=I1.kept (t' :=s1.toks+1+1) k0
    obtain⟨f0,f1,f2,f3,f4,f5⟩:=I1.fpOk (H' :=H1) (b:=s1.heap.objs.size) (bA _) (I1.hok.fresh (bA _))
    refine adP (s:={s1 with heap:=s1.heap.push (U7 x t ((x.length:Int)-1)),toks:=s1.toks+1+1}) (I1.ok.hd hc) ⟨_,Heap.get?_push_size _ rfl,rfl,rfl⟩ (by omega) (fun l hl hy=> ?_) fun h' t' k hk=> ?_
    ·refine joinOk_of ?_
     have e1:(l.map (·.length)).sum=l.length:=by
      clear hl
      induction l with
      |nil=>rfl
      |cons a l ih=>
       simp only [aZ,List.sum_cons,aW]
       rw [ih fun y hm=>hy y (aM _ hm),hy a bB]
       omega
     rw [e1,hl]
     have e2:(("":Str)).length=0:=rfl
     rw [e2]
     omega
    ·rw [aaA]
     have I3:Inv X pins σ H1 {s1 with heap:=h',toks:=k}:=I2.turned (t' :=k) (fun b o hb e=>hk b o hb e) f0 f1 f3 f4 f5
     exact⟨.str (ab' x),H1,I3,⟨t',rfl⟩,h1 _ hr _ Hb1 H1 g KC⟩
   ·exact absurd (by simp only [El,hx];rw [if_neg hl]) h3
  |_=>exact absurd (by simp only [El,hx]) h3
end
theorem Bo.G5{K:ao}{Hb H:Hp}{v:V}{ds:List D}(e:Ex Hb H)(h:Bo K Hb H v (.dict [(.bool true, .tuple ds)])):∃p o xs,v= .ref p∧H p=some (.frz o (.tup xs))∧GdT o∧iV K Hb xs ds:=by
 rcases h with h|⟨p,h1,o,h2,h3⟩
 ·generalize hz:(PyData.dict [(.bool true, .tuple ds)])=z at h
  cases h with
  |G5 a g b=>
   cases hz
   exact⟨_,_,_,rfl,e _ _ a,g,b⟩
  | @FW a o kvs ks x1 x2=>
    cases x2 with
    |nil=>cases hz
    | @cons k v kvs d ds' y1 y2=>cases k<;>simp [keyD] at hz
  |_=>cases hz
 ·generalize hz:(PyData.dict [(.bool true, .tuple ds)])=z at h3
  cases h3 with
  |lst _=>cases hz
  |dT _=>cases hz
  | @dK kvs ks x2=>
    cases x2 with
    |nil=>cases hz
    | @cons a b l m y1 y2=>
      obtain⟨k,v'⟩:=a
      obtain⟨b1,b2⟩:=b
      have y0:b1=keyD k:=y1.1
      subst y0
      cases k<;>simp [keyD] at hz
def kZ:D→D→ER
 | .dict [(.bool true, .tuple ds)],i=>gj (.tuple ds) i
 |x,i=>gj x i
theorem aeV:kh kZ:=fun x y c h=>by
 unfold kZ at h
 split at h<;>exact HJ _ _ _ h
section
variable{X:Cx}{W:WQ}{a b:Expr}{ma mb:EM}{pos:Pos}
theorem afd:IxR X (Y4 X.K .dat kZ):=by
 intro value slice pins s σ H x y v u Q I rx ry h hs
 obtain⟨Hb,dx,dy,d,eb,bx,byy,hg,q⟩:=h
 unfold kZ at hg
 split at hg
 ·rename_i ds
  cases dy<;>simp only [gj] at hg<;>first|cases hg;done|skip
  split at hg
  ·rename_i hc
   cases hg
   obtain⟨p,o,xs,e1,s1,_,a1⟩:=bx.G5 eb
   obtain⟨w,w1,w2⟩:=Np a1 hc
   exact ix_tup value slice pins s σ H x y v u Q I rx ry ⟨p,xs,_,w,e1,byy.int, .inl (.inr ⟨o,s1⟩),w1,q _ Hb H (Gw.refl eb) w2⟩ hs
  ·cases hg
 ·exact aa3 value slice pins s σ H x y v u Q I rx ry ⟨Hb,_,_,d,eb,bx,byy,hg,q⟩ hs
theorem oF(ha:DE X W .bor a ma)(hb:DE X W .bor b mb)(hs:PlainIx b:=by exact fun _ _=>rfl):DE X W .dat (.Subscript a b pos) (eV kZ ma mb):=PE.imp (pe_ix afd ha hb hs) fun _ _ _=>ye aeV
end
def iTM(m:EM):Env→AR:=fun ρ=>match m ρ with
 | .ok (.tuple ds)=> .ok ds
 | .ok (.dict [(.bool true, .tuple ds)])=> .ok ds
 | .ok _=> .bad
 | .ex c=> .ex c
 | .bad=> .bad
section
variable{X:Cx}{W:WQ}{e tg:Expr}{m:EM}
theorem agt(h:DE X W .dat e m):DI X W tg e (iTM m):=PI.imp (pi_tup h) fun σ H R ⟨Hf,Hb,ρ,Re,h1,h2,h3⟩=>by
 refine⟨Hf,Hb,ρ,Re,fun d hd v Hb' H' g r=> ?_,fun c hc=>h2 c (by simp [iTM,hc]),fun z=>h3 (by simp [iTM,z])⟩
 have key:(∃ds,d= .tuple ds)∨(∃ds,d= .dict [(.bool true, .tuple ds)])∨iTM m ρ= .bad:=by
  unfold iTM
  rw [hd]
  split
  ·rename_i ds z
   cases z
   exact .inl ⟨_,rfl⟩
  ·rename_i ds z
   cases z
   exact .inr (.inl ⟨_,rfl⟩)
  ·exact .inr (.inr rfl)
  ·exact .inr (.inr (by rename_i z;cases z))
  ·exact .inr (.inr rfl)
 rcases key with⟨ds,rfl⟩|⟨ds,rfl⟩|z
 ·cases r with
  |tup s a=>exact⟨_,rfl,⟨_, .inl (.inl (g.bh _ _ s))⟩,h1 ds (by simp [iTM,hd]) _ Hb' H' g (Ys (.inl (.inl s)) a)⟩
 ·obtain⟨p,o,xs,rfl,s0,_,a⟩:=Bo.G5 (Ex.refl _) (.inl r)
  exact⟨_,rfl,⟨_, .inl (.inr ⟨o,g.bh _ _ s0⟩)⟩,h1 ds (by simp [iTM,hd]) _ Hb' H' g (Ys (.inl (.inr ⟨o,s0⟩)) a)⟩
 ·exact absurd z h3
end
theorem none_booked{K:ao}{h:Heap}(X:K.In h)(G:∃mc,h.Ns cStatics mc)(e:dX K cStatics sharingNotToldKey=some none):NoneBooked h:=by
 obtain⟨mc,o,es,ep,ho,hd,h3,hf⟩:=G
 refine⟨mc,⟨o,es,ep,ho,hd,h3,hf⟩,?_⟩
 unfold dX at e
 split at e
 ·rename_i c d es' n' sl q
  have:=X _ _ q
  rw [ho] at this
  cases this
  cases hd
  split at e
  ·cases e
  ·rename_i he
   rw [←hf]
   unfold nsFind findBy
   rw [←Array.find?_toList,he]
   rfl
 ·cases e
theorem af9{X:Cx}{pins:List (Addr×Obj)}{σ:L2.St}{H:Hp}{s:Shared}(I:Inv X pins σ H s)(e:dX X.K cStatics sharingNotToldKey=some none):NoneBooked s.heap:=
 none_booked I.kIn (let ⟨mc,h,_⟩:=I.nolimit;⟨mc,h⟩) e
def sgM(lit:Str)(n:Int)(d:D):ER:=(iz d (.int n)).bind fun r=>gj (.str lit) r
def ZL(P:Program)(w:World)(K:ao)(mg:Str→Option Value)(base:Heap)(k:Nat)(f:Addr)(lit:Str)(n:Int):Prop:=
 ∀(A:Around) (outer:List PySem.Env) (s:Shared) (H:Hp) (i:Int) (ti:Tok) (d:D),Room k A→Env0 P w K mg base A outer s H→sgM lit n (.int i)= .ok d→
  codeAny (model P w) A (.call (.ref f) ⟨[.int i ti],[]⟩) (fun r s' =>∃c t,d= .str ⟨#[c]⟩∧r= .ok (.ret (.str ⟨#[c]⟩ t))∧s.toks≤t∧t<s'.toks∧CE outer P w H s (fun v H' =>v= .str ⟨#[c]⟩∧H' =H) (.str ⟨#[c]⟩ t) s') s
theorem ZD{x:Str}{i:Int}{c:Nat}(h:atI x.cps.toList i=some c)(hz:x.length≤sizeLine):(decide (i< -(2 ^ 63:Int))||decide (i≥2 ^ 63))=false∧(seqIndex? i x.length).bind (x.cps[·]?)=some c:=by
 unfold atI at h
 have hl:x.cps.toList.length=x.length:=cY
 rw [hl] at h
 have lsz:=sizeLine_eq
 cases hj:ixN x.length i with
 |none=>
  rw [hj] at h
  cases h
 |some j=>
  rw [hj] at h
  obtain⟨h1,h2,h3,h4⟩:=ixN_seq hj
  refine⟨?_,?_⟩
  ·rw [Bool.or_eq_false_iff]
   exact⟨decide_eq_false (by omega),decide_eq_false (by omega)⟩
  ·rw [h1]
   show x.cps[j]? =some c
   rw [←Array.getElem?_toList]
   exact h
theorem aeU{P:Program}{w:World}{K:ao}{mg:Str→Option Value}{base:Heap}{k:Nat}{f:Addr}{fd:FuncData}{name qual:Str}{params:Arguments}{scope:Scope}{body:List Stmt}{dvs:List V}{kws:List (Str×V)}
 (F:FunD K name qual params body scope dvs kws f fd) {N:List Str} {p1 p2 p3 p4 p5 p6:Pos} {j j2:Nat} {a0 lit:Str} {n:Int} (hbd:body=[.Return (some (.Subscript (.Constant (.str lit) j p1) (.BinOp (.Name a0 p2) .Mod (.Constant (.int n) j2 p3) p4) p5)) p6])
 (S:FnScope N [a0] scope) (hN:N=[a0]) (hB:Binds K fd [a0] [])
 (h0:scope.names.lookup a0=some .local) (d0:(a0==("__debug__":Str))=false) (dc:(a0==("__classdict__":Str))=false):ZL P w K mg base (k+1) f lit n:=by
 intro A outer s H i ti d hr e0 hd
 subst hbd
 subst hN
 obtain⟨oc,od,dV,kV,doc,pm,an,cdv,ct,osl,rfl,lk,hcd,_,_⟩:=F.ex
 have KX:K.In s.heap:=e0.mod.kin.keeps fun b o e=>(e0.bs b o e).1
 have lim:s.heap.NoLimit:=e0.mod.nolimit.keeps fun b o e=>(e0.bs b o e).1
 have hkind:∀v∈[a0].zip [Value.int i ti],scope.names.lookup v.1=some .local∨(scope.names.lookup v.1=some .cell∧((cellsFrom (s.heap.objs.size+1) scope.names []).lookup v.1).isSome=true):=fun⟨n,v⟩ hy=>by
  rcases S.par n (dN hy).1 with q|q
  ·exact .inl q
  ·exact .inr ⟨q,PySem.W.cellsFrom_some _ _ _ (.inl q)⟩
 refine codeAny_call_function hr.depth (KX _ _ lk) rfl S.co S.gen rfl (PySem.W.codeRec_of KX hcd) ((hB s [.int i ti] KX rfl) _ _ _ _ ?_)
 refine wpAny_mono (PySem.wpAny_toks (wpAny_newFunctionEnv_cells S.kind hkind fun env he s1 xx=>And.intro he xx)) (fun env s1 q=> ?_) fun _ _ z=>z.2
 obtain⟨tk,he,xx⟩:=q
 subst he
 refine⟨lim.keeps xx.toInCall.keep,codeAny_func ?_⟩
 have rv:Vals [V.int i] [Value.int i ti]:= .cons ⟨ti,rfl⟩ .nil
 have I:Inv (cxOf (L2.CX P w) P w K mg base [a0] qual scope f cdv A outer s H (fun _ _ _=>False)) [] (start [a0] [.int i]) H s1:=inv_start S hr.hd e0 rfl rv xx
 simp only [sgM,iz] at hd
 by_cases hn:0<n
 ·rw [if_pos hn] at hd
  have hd2:gj (.str lit) (.int (i%n))= .ok d:=hd
  simp only [gj] at hd2
  split at hd2
  ·rename_i hz
   split at hd2
   ·rename_i c hc
    cases hd2
    obtain⟨r1,r2⟩:=ZD hc hz
    refine wpAny_execs_cons (wpAny_Return_some (Subscript_ (Calls.Constant_str (wpAny_BinOp (raw_name (x:=a0) (i:=0) rfl (.inl h0) (I.tok (s1.toks+1)) (v:= .int i) rfl (fun u ru=>wpAny_Constant_int ?_) d0 dc)))))
    obtain⟨tu,rfl⟩:=ru
    refine mod_int' (by omega) ?_
    rw [Int.fmod_eq_emod_of_nonneg i (by omega)]
    refine tail_any (typeIs_str _ _ _) slot_str_getitem.lookup (getItem_str (c:=c) r1 r2 ?_) (hs:=rfl)
    exact⟨c,s1.toks+1+1+1,rfl,rfl,by omega,Nat.lt_succ_self _, .str ⟨#[c]⟩,H,(I.tok _).os,(I.tok _).bare,(I.tok (s1.toks+1+1+1+1)).base,(I.tok _).hok,⟨_,rfl⟩,rfl,rfl⟩
   ·cases hd2
  ·cases hd2
 ·rw [if_neg hn] at hd
  cases hd
def aaI(w lit:Str)(n:Int)(m1 ma mb m3:EM):EM:=fun ρ=>match m1 ρ with
 | .ok d1=>(match ma ρ with
   | .ok (.str z)=>(match mb ρ with
     | .ok i=>(match gj (.str z) i with
       | .ok y=>(match m3 ρ with
         | .ok x=>(match sgM lit n x with
           | .ok y' => .ok (.dict [(.bool true, .tuple [.str w,d1,y,y'])])
           |_=> .bad)
         |_=> .bad)
       |_=> .bad)
     |_=> .bad)
   |_=> .bad)
 |_=> .bad
theorem adl{w lit:Str}{n:Int}{m1 ma mb m3:EM}{ρ:Env}(h:aaI w lit n m1 ma mb m3 ρ≠ .bad):∃d1 z i y x y',m1 ρ= .ok d1∧ma ρ= .ok (.str z)∧mb ρ= .ok i∧gj (.str z) i= .ok y∧m3 ρ= .ok x∧sgM lit n x= .ok y' ∧
 aaI w lit n m1 ma mb m3 ρ= .ok (.dict [(.bool true, .tuple [.str w,d1,y,y'])]):=by
 unfold aaI at h⊢
 cases q1:m1 ρ with
 |bad=>rw [q1] at h;exact absurd rfl h
 |ex c=>rw [q1] at h;exact absurd rfl h
 |ok d1=>
  rw [q1] at h
  cases q2:ma ρ with
  |bad=>rw [q2] at h;exact absurd rfl h
  |ex c=>rw [q2] at h;exact absurd rfl h
  |ok d2=>
   rw [q2] at h
   cases d2 with
   |str z=>
    cases q3:mb ρ with
    |bad=>rw [q3] at h;exact absurd rfl h
    |ex c=>rw [q3] at h;exact absurd rfl h
    |ok i=>
     rw [q3] at h
     cases q4:gj (.str z) i with
     |bad=>simp only [q4] at h;exact absurd rfl h
     |ex c=>simp only [q4] at h;exact absurd rfl h
     |ok y=>
      simp only [q4] at h⊢
      cases q5:m3 ρ with
      |bad=>rw [q5] at h;exact absurd rfl h
      |ex c=>rw [q5] at h;exact absurd rfl h
      |ok x=>
       rw [q5] at h
       cases q6:sgM lit n x with
       |bad=>simp only [q6] at h;exact absurd rfl h
       |ex c=>simp only [q6] at h;exact absurd rfl h
       |ok y' =>
        exact⟨d1,z,i,y,x,y',rfl,rfl,rfl,q4,rfl,q6,by simp only [q6]⟩
   |_=>exact absurd rfl h
section
variable{X:Cx}{W:WQ}{k:Nat}{lit:Str}{n:Int}
theorem adM{z:Str}{i y:D}(h:gj (.str z) i= .ok y):∃j c,i= .int j∧y= .str ⟨#[c]⟩∧z.length≤sizeLine∧atI z.cps.toList j=some c:=by
 cases i<;>simp only [gj] at h<;>first|cases h;done|skip
 split at h
 ·rename_i hz
  split at h
  ·rename_i c hc
   cases h
   exact⟨_,c,rfl,rfl,hz,hc⟩
  ·cases h
 ·cases h
theorem aed{x y:D}(h:sgM lit n x= .ok y):∃j,x= .int j:=by
 cases x<;>simp only [sgM,iz] at h<;>first|exact⟨_,rfl⟩|cases h
theorem ae1{w fx:Str}{e1 a b e3:Expr}{m1 ma mb m3:EM}{j0:Nat}{c0 p2 pf pc pos:Pos}{x1}{kk j:Nat}{ps:List Str}{sp:Sp}(hF:Has X.prog X.w X.K X.mg X.base fx kk ps sp)(G:ZL X.prog X.w X.K X.mg X.base k (He.ga X.K fx) lit n)(hr:Room j X.A)
 (h1:DE X W .dat e1 m1) (ha:DE X W .bor a ma) (hb:DE X W .bor b mb) (h3:DE X W .bor e3 m3) (hj:k≤j:=by decide) (hg:Gl X fx:=by rfl) (hdb:(fx==("__debug__":Str))=false:=by decide) (hs:PlainIxT b:=by exact fun _ _=>rfl)
 (q0:starEach [.Constant (.str w) j0 c0,e1, .Subscript a b p2, .Call (.Name fx pf) [e3] [] pc] X.env=(false,eval (.Constant (.str w) j0 c0) X.env)::starEach [e1, .Subscript a b p2, .Call (.Name fx pf) [e3] [] pc] X.env:=by rfl)
 (q1:starEach [e1, .Subscript a b p2, .Call (.Name fx pf) [e3] [] pc] X.env=(false,eval e1 X.env)::starEach [.Subscript a b p2, .Call (.Name fx pf) [e3] [] pc] X.env:=by rfl)
 (q2:starEach [.Subscript a b p2, .Call (.Name fx pf) [e3] [] pc] X.env=(false,eval (.Subscript a b p2) X.env)::starEach [.Call (.Name fx pf) [e3] [] pc] X.env:=by rfl)
 (q3:starEach [.Call (.Name fx pf) [e3] [] pc] X.env=(false,eval (.Call (.Name fx pf) [e3] [] pc) X.env)::starEach [] X.env:=by rfl)
 (he:starEach [e3] X.env=(false,eval e3 X.env)::starEach [] X.env:=by rfl):
 DE X W .dat (.Tuple [.Constant (.str w) j0 c0,e1, .Subscript a b p2, .Call (.Name fx pf) [e3] [] pc] x1 pos) (aaI w lit n m1 ma mb m3):=by
 refine⟨fun pins s σ H Q I h=> ?_⟩
 obtain⟨Hf,Hb,ρ,R,k1,k2,k3⟩:=h
 obtain⟨d1,z,i,y,x,y',e1',e2',e3',e4',e5',e6',ev⟩:=adl k3
 obtain⟨ji,c,rfl,rfl,hz,hc⟩:=adM e4'
 obtain⟨r1,r2⟩:=ZD hc hz
 obtain⟨jx,rfl⟩:=aed e6'
 refine wpAny_Tuple_spliced (args_cons (Calls.Constant_str ?_) q0)
 refine args_cons (thn (J8 h1 (I.tok (s.toks+1)) R e1') fun u1 s1 q=> ?_) q1
 obtain⟨t1,v1,H1,Hb1,I1,rv1,g1,rs1⟩:=q
 refine args_cons (Subscript_ (thn (J8 ha I1 (R.gw g1) e2') fun ua s2 q=> ?_)) q2
 obtain⟨t2,va,H2,Hb2,I2,rv2,g2,rs2⟩:=q
 refine thn (J8 hb I2 ((R.gw g1).gw g2) e3') fun ub s3 q=> ?_
 obtain⟨t3,vb,H3,Hb3,I3,rv3,g3,rs3⟩:=q
 obtain rfl:=Bo.str rs2
 obtain rfl:=Bo.int rs3
 obtain⟨ta,rfl⟩:=rv2
 obtain⟨tb,rfl⟩:=rv3
 refine tail_any (typeIs_str _ _ _) slot_str_getitem.lookup (getItem_str (c:=c) r1 r2 ?_) (hs _ _)
 have I4:Inv X pins σ H3 {s3 with toks:=s3.toks+1}:=I3.tok _
 refine args_cons (wpAny_Call_Name_kw (ld_glob I4 hg hF.gl ?_ hdb)) q3
 refine PySem.W.callWith_K (h₀:=X.base) I.ok.mod.kin hF.kp (args_cons (thn (J8 h3 I4 (((R.gw g1).gw g2).gw g3) e5') fun u5 s5 q=>args_nil ?_) he) he rfl
 obtain⟨t5,v5,H5,Hb5,I5,rv5,g5,rs5⟩:=q
 obtain rfl:=Bo.int rs5
 obtain⟨tx,rfl⟩:=rv5
 refine⟨I5.kIn,wpAny_call (codeAny_mono (G X.A X.stack s5 H5 jx tx y' (hr.mono hj) I5.env0 e6') fun r s' hq=> ?_)⟩
 obtain⟨c',t,rfl,rfl,l1,l2,ce⟩:=hq
 obtain⟨v6,H6,I6,rv6,e6,e7⟩:=I5.after ce
 subst e6 e7
 have l0:(4:Nat)≤sizeLine:=by rw [sizeLine_eq];omega
 have l3:s3.toks+1≤s5.toks:=t5
 have l4:s.toks+1≤s1.toks:=t1
 refine args_nil ⟨l0, .ref s'.heap.objs.size,upd H6 s'.heap.objs.size (.frz {cls:= .type "tuple",data:= .seq #[.str w s.toks,u1, .str ⟨#[c]⟩ s3.toks, .str ⟨#[c']⟩ t] 0} (.tup [.str w,v1, .str ⟨#[c]⟩, .str ⟨#[c']⟩])),?_,rfl,?_⟩
 ·refine I6.laid (t' :=s'.toks) (fun b u e=>Heap.get?_push_of_some _ e) (bA _) ⟨Heap.get?_push_size _ rfl,l0,[.str w s.toks,u1, .str ⟨#[c]⟩ s3.toks, .str ⟨#[c']⟩ t],?_,⟨_,Heap.get?_push_size _ rfl,rfl,0,rfl⟩⟩
  exact .cons ⟨_,rfl⟩ (.cons rv1 (.cons ⟨_,rfl⟩ (.cons ⟨_,rfl⟩ .nil)))
 ·have gg:=((g1.trans g2).trans g3).trans g5
  have hf:H6 s'.heap.objs.size=none:=I6.hok.fresh (bA _)
  have gz:=Gw.fix (o:= .frz {cls:= .type "tuple",data:= .seq #[.str w s.toks,u1, .str ⟨#[c]⟩ s3.toks, .str ⟨#[c']⟩ t] 0} (.tup [.str w,v1, .str ⟨#[c]⟩, .str ⟨#[c']⟩])) gg.bh hf
  refine k1 _ ev _ _ _ (gg.trans gz) (Dr.G5 upd_same ⟨rfl,_,_,_,_,_,_,_,rfl,?_,?_,?_⟩ ?_)
  ·exact Nat.ne_of_gt (show 0<s3.toks from dF (Nat.succ_pos _) (bf l4 (bf t2 t3)))
  ·exact Nat.ne_of_gt (show 0<t from dF (Nat.succ_pos _) (bf l3 l1))
  ·exact Nat.ne_of_lt (show s3.toks<t from dF (Nat.lt_succ_self _) (bf l3 l1))
  ·exact .cons (.str w) (.cons (nq (((g2.trans g3).trans g5).trans gz).b rs1) (.cons (.str _) (.cons (.str _) .nil)))
end
theorem YF{K:ao}{pn:Pn}{Hf Hb H:Hp}{σ:L2.St}{ρ:Env}{i:Nat}{d:D}(R:iG K pn Hf Hb H σ ρ)(h:gD i ρ= .ok d):∃v,σ[i]? =some (some v)∧Bo K Hb H v d:=by
 unfold gD at h
 split at h
 ·rename_i d' e
  cases h
  obtain⟨v,a,b⟩:=R.dat i d e
  exact⟨v,a, .inl b⟩
 ·rename_i d' e
  cases h
  obtain⟨p,a,b,_⟩:=R.own i d e
  exact⟨_,a, .inr ⟨p,rfl,b.b⟩⟩
 ·rename_i d' e
  cases h
  obtain⟨v,a,b⟩:=R.bor i d e
  refine⟨v,a,?_⟩
  rcases b with b|⟨p,b1,b2,_⟩
  ·exact .inl b
  ·exact .inr ⟨p,b1,b2⟩
 ·cases h
def aac(ik ip:Nat):EM:=fun ρ=>match gD ik ρ with
 | .ok (.str x)=>(match gD ip ρ with
   | .ok (.dict [(.bool true, .tuple [_,_, .str y, .str z])])=>if x.length+(x.length+1)*z.length≤16777216 then .ok (.str (Txt.replace x y z)) else .bad
   |_=> .bad)
 |_=> .bad
theorem adV{ik ip:Nat}{ρ:Env}(h:aac ik ip ρ≠ .bad):∃x a b y z,gD ik ρ= .ok (.str x)∧gD ip ρ= .ok (.dict [(.bool true, .tuple [a,b, .str y, .str z])])∧x.length+(x.length+1)*z.length≤16777216∧aac ik ip ρ= .ok (.str (Txt.replace x y z)):=by
 unfold aac at h⊢
 split at h
 ·rename_i x hx
  split at h
  ·rename_i a b y z hp
   split at h
   ·rename_i hl
    exact⟨x,a,b,y,z,hx,hp,hl,by rw [if_pos hl]⟩
   ·exact absurd rfl h
  ·exact absurd rfl h
 ·exact absurd rfl h
section
variable{X:Cx}{W:WQ}
theorem Zi{pins:List (Addr×Obj)}{σ:L2.St}{H:Hp}{s:Shared}{i:Nat}{x:Str}{p:Addr}{its:Array Value}{k j:Nat}{w:Value}{p1 cp pos:Pos}{Q E:Value→Shared→Prop}(hN:X.N[i]? =some x)(hv:Vis X.env.scope x)(I:Inv X pins σ H s)
 (hσ:σ[i]? =some (some (.ref p))) (pl:IsTup s.heap p its) (hk:its.size≤100) (hx:its[k]? =some w) (fin:Q w {s with toks:=s.toks+1}) (hs:PlainIx (.Constant (.int (k:Int)) j cp))
 (hd:(x==("__debug__":Str))=false) (hcd:(x==("__classdict__":Str))=false):
 wpAny (model X.prog X.w) X.A (eval (.Subscript (.Name x p1) (.Constant (.int (k:Int)) j cp) pos) X.env) Q E s:=by
 refine Subscript_ (raw_name hN hv I hσ (fun v r=> ?_) hd hcd)
 have e:v=Value.ref p:=r
 subst e
 refine wpAny_Constant_int ?_
 have hlt:k<its.size:=(Array.getElem?_eq_some_iff.mp hx).1
 have h1:seqIndex? (k:Int) its.size=some k:=by
  have h2:=PySem.StrLaws.seqIndex_nonneg (i:=(k:Int)) (n:=its.size) (by omega) (by omega)
  rw [h2]
  rfl
 exact subscriptTail_builtinR (x:=w) (s:={s with toks:=s.toks+1}) (IsTup.typeIs (s:={s with toks:=s.toks+1}) pl) slot_tuple_getitem.lookup
  (getItem_tuple (j:=k) (s:={s with toks:=s.toks+1}) (Q:=fun r s' =>r=w∧Q r s') pl (by omega) (by omega) h1 hx ⟨rfl,fin⟩) (hs _ _)
theorem afn{ik ip:Nat}{kx px:Str}{j0 j1:Nat}{p1 p2 p3 c0 c1 q0 q1 apos pos:Pos}(nb:dX X.K cStatics sharingNotToldKey=some none)(hNk:X.N[ik]? =some kx:=by rfl)(hNp:X.N[ip]? =some px:=by rfl)
 (hvk:Vis X.env.scope kx:=by first|exact Or.inl rfl|exact Or.inr (Or.inl rfl)|exact Or.inr (Or.inr rfl)) (hvp:Vis X.env.scope px:=by first|exact Or.inl rfl|exact Or.inr (Or.inl rfl)|exact Or.inr (Or.inr rfl))
 (hdk:(kx==("__debug__":Str))=false:=by decide) (hck:(kx==("__classdict__":Str))=false:=by decide) (hdp:(px==("__debug__":Str))=false:=by decide) (hcp:(px==("__classdict__":Str))=false:=by decide)
 (hst:starEach [.Subscript (.Name px p2) (.Constant (.int 2) j0 c0) q0, .Subscript (.Name px p3) (.Constant (.int 3) j1 c1) q1] X.env=
   [(false,eval (.Subscript (.Name px p2) (.Constant (.int 2) j0 c0) q0) X.env),(false,eval (.Subscript (.Name px p3) (.Constant (.int 3) j1 c1) q1) X.env)]:=by rfl)
 (hbase:attributeBase (.Name kx p1) "replace" X.env (eval (.Name kx p1) X.env)=eval (.Name kx p1) X.env:=by rfl) (hline:(apos.endLine==pos.line)=true:=by rfl):
 DE X W .dat (.Call (.Attribute (.Name kx p1) "replace" apos) [.Subscript (.Name px p2) (.Constant (.int 2) j0 c0) q0, .Subscript (.Name px p3) (.Constant (.int 3) j1 c1) q1] [] pos) (aac ik ip):=by
 refine⟨fun pins s σ H Q I h=> ?_⟩
 obtain⟨Hf,Hb,ρ,R,k1,k2,k3⟩:=h
 obtain⟨x,a,b,y,z,e1,e2,hl,ev⟩:=adV k3
 obtain⟨vx,hx,bx⟩:=YF R e1
 obtain⟨vp,hp,bp⟩:=YF R e2
 obtain rfl:=Bo.str bx
 obtain⟨p,o,xs,rfl,hH,⟨gc,v0,v1,y',z',t,u,n,gd,ht,hu,htu⟩,al⟩:=bp.G5 R.eb
 obtain⟨ho,_,its,rv,o2,ho2,hc2,n2,hd2⟩:=(show ObjOk X.prog X.w H s.heap p (.frz o (.tup xs)) from I.hok p _ hH)
 rw [ho] at ho2
 cases ho2
 rw [gd] at hd2
 have hits:its.toArray= #[v0,v1, .str y' t, .str z' u]:=by
  injection hd2 with z1 z2
  exact z1.symm
 have hits2:its=[v0,v1, .str y' t, .str z' u]:=by
  have:=congrArg Array.toList hits
  simpa using this
 subst hits2
 have yy:y' =y∧z' =z:=by
  cases al with
  |cons a1 al=>cases al with
   |cons a2 al=>cases al with
    |cons a3 al=>cases al with
     |cons a4 al=>
      cases a3
      cases a4
      cases rv with
      |cons r1 rv=>cases rv with
       |cons r2 rv=>cases rv with
        |cons r3 rv=>cases rv with
         |cons r4 rv=>
          obtain⟨_,e3⟩:=r3
          obtain⟨_,e4⟩:=r4
          cases e3
          cases e4
          exact⟨rfl,rfl⟩
 obtain⟨rfl,rfl⟩:=yy
 have pl:IsTup s.heap p #[v0,v1, .str y' t, .str z' u]:=⟨o,ho,gc,n,gd⟩
 refine PySem.Call_method2 hbase hst hline (raw_name hNk hvk I hx (fun v r=> ?_) hdk hck)
 obtain⟨tx,e⟩:=r
 subst e
 refine⟨"str",_,PySem.F.plainAttrs_str,PySem.F.slot_str_replace,PySem.F.type_str_replace,typeIs_str _ _ _,(fun _ e=>nomatch e),Calls.callWith_builtin rfl (Calls.evalArgs_plain (Calls.spliced_cons ?_))⟩
 refine Zi (k:=2) hNp hvp I hp pl (by show(4:Nat)≤100;omega) rfl ?_ (fun _ _=>rfl) hdp hcp
 refine Calls.spliced_cons (Zi (k:=3) hNp hvp (I.tok _) hp pl (by show(4:Nat)≤100;omega) rfl ?_ (fun _ _=>rfl) hdp hcp)
 refine Calls.spliced_nil ?_
 exact PySem.SC.replaceA ht hu htu hl (fun t' k=>⟨.str (Txt.replace x y' z'),H,I.tok k,⟨t',rfl⟩,k1 _ ev _ Hb H (Gw.refl R.eb) KC⟩) (af9 (I.tok _) nb)
end
section
variable{P:Program}{w:World}{K:ao}{mg:Str→Option Value}{base:Heap}{fa:List He.Fa}{fn:List He.DefD}
theorem afA{x:Str}{d:He.DefD}(Z:nR fa fn K mg)(i:Nat){k:Nat}{a0 lit:Str}{n:Int}{p1 p2 p3 p4 p5 p6:Pos}{j j2:Nat}(hd:fn[i]? =some d)(hx:d.at_=(x,none))(hdf:d.dfl=[])
 (hbd:d.body=[.Return (some (.Subscript (.Constant (.str lit) j p1) (.BinOp (.Name a0 p2) .Mod (.Constant (.int n) j2 p3) p4) p5)) p6]) (S:FnScope [a0] [a0] d.scope)
 (hb:∀(kV doc pm:Value) (an:Option Addr) (cdv ct:Value) (us:List Value),us.length=[a0].length→bindArgs (PySem.W.fnOf d.name d.qual d.params d.body d.scope .none kV doc pm an cdv ct) ⟨us,[]⟩=pure ([a0].zip us))
 (h0:d.scope.names.lookup a0=some .local) (d0:(a0==("__debug__":Str))=false:=by decide) (dc:(a0==("__classdict__":Str))=false:=by decide):ZL P w K mg base (k+1) (He.ga K x) lit n:=by
 obtain⟨fd,F⟩:=Z.says.def_ i hd
 have ea:He.fAd K d.at_=He.ga K x:=by rw [hx];rfl
 rw [ea] at F
 have e1:d.dvs K=[]:=by
  unfold He.DefD.dvs
  rw [hdf]
  rfl
 rw [e1] at F
 exact aeU F hbd S rfl (F.bindsN hb) h0 d0 dc
end
end DL
open DL
local macro_rules
 | `(tactic|simp! only [$a,*]$[$l:location]?)=> `(tactic|simp only [jF,jV,aC,fK,ju,gH,gG,j9,qW,lV,oE,sS,eIf,dU,Int.reduceLT,Int.reduceLE,Int.reduceEq,cH,cP,aA,beq_self_eq_true,Sb.Z4,$a,*]$[$l]?)
 | `(tactic|simp! [$a,*]$[$l:location]?)=> `(tactic|simp(disch:=omega) only [jF,jV,aC,fK,ju,gH,gG,j9,qW,lV,oE,sS,eIf,dU,Int.reduceLT,Int.reduceLE,Int.reduceEq,cH,cP,aA,beq_self_eq_true,Sb.Z4,lu,mJ,gR,sU,BW,Int.reducePow,Int.reduceToNat,Int.reduceNeg,Int.reduceAdd,Int.reduceSub,Int.reduceMul,Int.reduceDiv,Int.reduceMod,$a,*]$[$l]?)
local macro_rules
 | `(tactic|dsimp! only [$a,*]$[$l:location]?)=> `(tactic|simp(disch:=omega) only [jF,jV,aC,fK,ju,gH,gG,j9,qW,lV,oE,sS,eIf,dU,Int.reduceLT,Int.reduceLE,Int.reduceEq,cH,cP,aA,beq_self_eq_true,Sb.Z4,$a,*]$[$l]?)
namespace Sb
open PySem PySem.Spec L2 Evl DL
def xs:List Str:=[]
def qU:SM:=(fK (ju (eV Lj (eE 1) (fG je [(eE 0)])) (gH (eV iz (eV jZ (eV gj (eE 0) (eE 1)) (eC (.int 2718281828459045235360287471352662497757))) (eV rK (eC (.int 10)) (eC (.int 40))))) fZ)
 (fK (gG 2 (eV jw (eV jZ (eV jZ (eE 1) (eE 1)) (eC (.int 7919))) (eC (.int 5))))
 (fK (ju (eV TY (fG je [(eE 0)]) (eC (.int 0))) (gG 2 (eV jw (eE 2) (eV jZ (eV iz (eV gj (eE 0) (eV iz (eV jZ (eE 1) (eC (.int 7))) (fG je [(eE 0)]))) (eV rK (eC (.int 10)) (eC (.int 40)))) (eV jw (eC (.int 48271)) (eV jZ (eC (.int 2)) (eE 1)))))) fZ)
 (fK (gG 2 (eV iz (eV jZ (eE 2) (eE 2)) (eC (.int 2147483629))))
 (fK (gG 2 (eV iz (eV jZ (eV jw (eV jw (eE 2) (eV jZ (eV jZ (eE 1) (eE 1)) (eE 1))) (eC (.int 16807))) (eV jw (eE 2) (eC (.int 69621)))) (eC (.int 4611686018427387847))))
 (gH (eV iz (eV jZ (eE 2) (eC (.int 2718281828459045235360287471352662497757))) (eV rK (eC (.int 10)) (eC (.int 40))))))))))
def mK:List D→ER:=jF [.dat, .dat] 1 qU
def uF:SM:=(fK (j9 3 (fG pP [(eE 0)]))
 (fK (ju (eV TY (fG je [(gD 3)]) (eC (.int 0))) (fK (gG 4 (eV jw (eE 1) (eV iz (eV gj (gD 3) (eC (.int 0))) (eV jw (eV pH (eE 2) (eE 1)) (eC (.int 1))))))
 (fK (Ko 3 (eC (.int 0)) (eV jy (eV gj (gD 3) (eC (.int 0))) (eV jw (eV pH (eE 2) (eE 1)) (eC (.int 1)))))
 (fK (j9 5 (lC []))
 (fK (mZ (HD (eE 4)) (gN 6) (fK (qK 5 (eV iz (eV gj (gD 3) (eV iz (eE 6) (fG je [(gD 3)]))) (eV rK (eC (.int 10)) (eC (.int 40)))))
 (Ko 3 (eV iz (eE 6) (fG je [(gD 3)])) (eV jy (eV gj (gD 3) (eV iz (eE 6) (fG je [(gD 3)]))) (eV rK (eC (.int 10)) (eC (.int 40)))))))
 (ju (eV TY (fG Nq [(gD 3)]) (eC (.int 0))) (zf 5) fZ))))) fZ)
 (gH (Oc (HD (fG Jw [(eE 1),(fG Kl [(eE 2),(fG je [(eE 0)])])])) (gN 6) (eC (.bool true)) (fG mK [(eE 0),(eE 6)]) [6]))))
def ug:List D→ER:=jF [.dat, .dat, .dat] 4 uF
def u6:SM:=(gH (eV gj (eC (.str "0123456789ABCDEFGHIJKLMNOPQRSTUVWXYZabcdefghijklmnopqrstuvwxyz")) (eV iz (eE 0) (eC (.int 62)))))
def jQ:List D→ER:=jF [.dat] 0 u6
def uP:SM:=(fK (gG 1 (eV gj (lC [(eC (.int 1)),(eC (.int 2)),(eC (.int 2)),(eC (.int 3)),(eC (.int 62))]) (eV iz (eE 0) (eC (.int 5)))))
 (fK (gG 2 (eV jw (eC (.int 1)) (eV iz (eV jy (eE 0) (eC (.int 310))) (eC (.int 20)))))
 (gH (Bg wO (eC (.str "")) (Oc (HD (eE 1)) (gN 3) (eC (.bool true)) (fG jQ [(eV jw (eV jy (eE 0) (eC (.int 5))) (eV jZ (eE 2) (eE 3)))]) [3])))))
def vH:List D→ER:=jF [.dat] 3 uP
def NP:SM:=(fK (ju (eV lB (eE 0) (eC (.str "is"))) (gH (ni (lC [(eC (.str "signs"))]))) fZ)
 (fK (ju (eV lB (eE 0) (eC (.str "join"))) (gH (ni (lC [(eC (.str "word")),(eC (.str "word"))]))) fZ)
 (fK (ju (eV lB (eE 0) (eC (.str "times"))) (gH (ni (lC [(eC (.str "word")),(eC (.str "many"))]))) fZ)
 (fK (ju (eV lB (eE 0) (eC (.str "turn"))) (gH (ni (lC [(eC (.str "word"))]))) fZ)
 (fK (ju (eV lB (eE 0) (eC (.str "put"))) (gH (ni (lC [(eC (.str "word")),(eC (.str "sign")),(eC (.str "sign"))]))) fZ)
 (fK (ju (eV lB (eE 0) (eC (.str "insert"))) (gH (ni (lC [(eC (.str "word")),(eC (.str "place")),(eC (.str "word"))]))) fZ)
 (fK (ju (sS (eV lB (eE 0) (eC (.str "cut"))) (eV lB (eE 0) (eC (.str "remove")))) (gH (ni (lC [(eC (.str "word")),(eC (.str "place")),(eC (.str "place"))]))) fZ)
 (gH (eC .none)))))))))
def uQ:List D→ER:=jF [.dat] 0 NP
def BL:SM:=(gH (oE (zA "str" (eE 0)) (oE (eV lB (fG je [(eE 0)]) (eC (.int 1))) (eV (Ez false) (eE 0) (eC (.str "0123456789ABCDEFGHIJKLMNOPQRSTUVWXYZabcdefghijklmnopqrstuvwxyz"))))))
def rY:List D→ER:=jF [.dat] 0 BL
def Dg:SM:=(fK (ju (lV (iW Oa Oa (eC (.int 1)) (fG je [(eE 0)]) (eE 1))) (gH (eC .none)) fZ)
 (fK (mZ (iS (eE 0)) (gN 2) (ju (lV (fG rY [(eE 2)])) (gH (eC .none)) fZ))
 (gH (eE 0))))
def rZ:List D→ER:=jF [.dat, .dat] 1 Dg
def Hh:SM:=(fK (ju (lV (iW Oa Oa (eC (.int 1)) (fG je [(eE 0)]) (eC (.int 8)))) (gH (eC (.bool false))) fZ)
 (fK (mZ (iS (eE 0)) (gN 1) (ju (eV (Ez true) (eE 1) (eC (.str "abcdefghijklmnopqrstuvwxyz"))) (gH (eC (.bool false))) fZ))
 (gH (eC (.bool true)))))
def Be:List D→ER:=jF [.dat] 1 Hh
def zV:SM:=(fK (ju (sS (lV (iW Oa Oa (eC (.int 1)) (fG je [(eE 0)]) (eC (.int 19)))) (oE (eV TY (fG je [(eE 0)]) (eC (.int 1))) (eV lB (eV gj (eE 0) (eC (.int 0))) (eC (.str "0"))))) (gH (eC .none)) fZ)
 (fK (mZ (iS (eE 0)) (gN 2) (ju (eV (Ez true) (eE 2) (eC (.str "0123456789"))) (gH (eC .none)) fZ))
 (fK (gG 3 (fG Mw [(eE 0)]))
 (fK (ju (eV TY (eE 3) (eE 1)) (gH (eC .none)) fZ)
 (gH (eE 3))))))
def wj:List D→ER:=jF [.dat, .dat] 2 zV
def sE:SM:=(fK (ju (eV lB (eE 0) (eC (.str "word"))) (fK (ju (fG Be [(eE 1)]) (gH (eE 1)) fZ)
 (gH (eC .none))) fZ)
 (fK (ju (eV lB (eE 0) (eC (.str "place"))) (gH (fG wj [(eE 1),(eV rK (eC (.int 10)) (eC (.int 19)))])) fZ)
 (fK (ju (eV lB (eE 0) (eC (.str "many"))) (gH (fG wj [(eE 1),(eC (.int 1152921504606846976))])) fZ)
 (fK (ju (eV lB (eE 0) (eC (.str "sign"))) (gH (fG rZ [(eE 1),(eC (.int 1))])) fZ)
 (fK (ju (eV lB (eE 0) (eC (.str "pattern"))) (gH (fG rZ [(eE 1),(eC (.int 12))])) fZ)
 (gH (fG rZ [(eE 1),(eC (.int 40))])))))))
def jo:List D→ER:=jF [.dat, .dat] 0 sE
def zU:SM:=(fK (ju (eV BX (fG je [(eE 0)]) (fG je [(eE 1)])) (gH (eC .none)) fZ)
 (fK (j9 2 (lC []))
 (fK (mZ (iZ (eE 0) (eE 1)) (gT [(gN 3),(gN 4)]) (fK (gG 5 (fG jo [(eE 3),(eE 4)]))
 (fK (ju (eV v7 (eE 5) (eC .none)) (gH (eC .none)) fZ)
 (qK 2 (eE 5)))))
 (abW 2))))
def Ax:List D→ER:=jF [.dat, .dat] 4 zU
def uX:SM:=(fK (gG 1 (ni (Bg tU (eE 0) (eC (.str " ")))))
 (fK (ju (sS (eV Lj (fG je [(eE 1)]) (eC (.int 3))) (lV (fG Be [(eV gj (eE 1) (eC (.int 0)))]))) (gH (eC .none)) fZ)
 (fK (gG 2 (fG uQ [(eV gj (eE 1) (eC (.int 1)))]))
 (fK (ju (eV v7 (eE 2) (eC .none)) (gH (eC .none)) fZ)
 (fK (gG 3 (fG Ax [(eE 2),(Cp (eE 1) (some (eC (.int 2))) none)]))
 (fK (ju (eV v7 (eE 3) (eC .none)) (gH (eC .none)) fZ)
 (gH (jG [(eV gj (eE 1) (eC (.int 1))),(eV gj (eE 1) (eC (.int 0))),(eE 3)]))))))))
def rH:List D→ER:=jF [.dat] 3 uX
def vf:SM:=(mZ (iZ (eE 1) (eE 2)) (gT [(gN 3),(gN 4)]) (ju (oE (eV lB (eE 3) (eC (.str "word"))) (eV (wU true) (eE 4) (gD 0))) (yx "NoWord") fZ))
def vG:List D→ER:=jF [.bor, .dat, .dat] 2 vf
def RD:SM:=(ju (oE (eV pF (eE 1) (eC .none)) (lV (iW Oa Lj (eC (.int 0)) (eE 1) (fG je [(eE 0)])))) (yx "NoName") fZ)
def qQ:List D→ER:=jF [.dat, .dat] 0 RD
def yE:SM:=(fK (ju (eV lB (eV gj (eE 0) (eC (.int 0))) (eC (.str "sign"))) (gH (lC [])) fZ)
 (fK (ju (eV lB (eV gj (eE 0) (eC (.int 0))) (eC (.str "join"))) (gH (lC [(eV gj (eE 0) (eC (.int 1))),(eV gj (eE 0) (eC (.int 2)))])) fZ)
 (gH (lC [(eV gj (eE 0) (eC (.int 1)))]))))
def nQ:List D→ER:=jF [.dat] 0 yE
def Eh:SM:=(fK (ju (eV v7 (eE 1) (eC .none)) (gH (lC [])) fZ)
 (fK (j9 2 (eD1 (eE 1) (eC (.bool true))))
 (fK (mZ (iR3 (eE 1) (Dq S8 (eC (.int 1))) (Dq S8 (eC (.int 1)))) (gN 3) (ju (eV (wU false) (eE 3) (gD 2)) (mZ (iL (ni (fG nQ [(eV gj (eE 0) (eE 3))]))) (gN 4) (mX 2 (eE 4) (eC (.bool true)))) fZ))
 (gH (Dq Ah (gD 2))))))
def nj:List D→ER:=jF [.dat, .dat] 3 Eh
def Bf:SM:=(fK (ju (eV lB (eV gj (eE 0) (eC (.int 0))) (eC (.str "sign"))) (gH (eE 0)) fZ)
 (fK (ju (eV lB (eV gj (eE 0) (eC (.int 0))) (eC (.str "join"))) (gH (jG [(eC (.str "join")),(eV GF (gD 1) (eV gj (eE 0) (eC (.int 1)))),(eV GF (gD 1) (eV gj (eE 0) (eC (.int 2))))])) fZ)
 (gH (jG [(eC (.str "times")),(eV GF (gD 1) (eV gj (eE 0) (eC (.int 1)))),(eV gj (eE 0) (eC (.int 2)))]))))
def lA:List D→ER:=jF [.dat, .bor] 0 Bf
def abI:SM:=(fK (qK 0 (eE 1))
 (yX (eV pH (fG je [(gD 0)]) (eC (.int 1)))))
def tQ:List D→ER:=z8 0 abI
def W8:SM:=(fK (qW (fG qQ [(eE 0),(eE 1)]))
 (fK (j9 2 (lC []))
 (fK (j9 3 (eC (tD [])))
 (fK (j9 4 (eC (.dict [])))
 (fK (mZ (iL (ni (fG nj [(eE 0),(eE 1)]))) (gN 5) (fK (gG 6 (fG lA [(eV gj (eE 0) (eE 5)),(gD 4)]))
 (fK (ju (eV (TQ true) (eE 6) (gD 3)) (J9 3 (eE 6) (jh 2 tQ [(eE 6)])) fZ)
 (mX 4 (eE 5) (eV Ag (gD 3) (eE 6))))))
 (gH (jG [(fG mj [(gD 2)]),(pW (gD 4) (eE 1))])))))))
def Ht:List D→ER:=jF [.dat, .dat] 5 W8
def qj:SM:=(fK (gG 1 (jG []))
 (fK (j9 2 (lC []))
 (fK (mZ (iS (eE 0)) (gN 3) (fK (qK 2 (fG je [(eE 1)]))
 (gG 1 (eV jw (eE 1) (jG [(jG [(eC (.str "sign")),(eE 3)])])))))
 (fK (Ai (eV TY (fG je [(gD 2)]) (eC (.int 1))) (fK (j9 4 (lC []))
 (fK (mZ (iRc 2 (eC (.int 0)) (eV pH (fG je [(gD 2)]) (eC (.int 1))) (eC (.int 2))) (gN 5) (fK (qK 4 (fG je [(eE 1)]))
 (gG 1 (eV jw (eE 1) (jG [(jG [(eC (.str "join")),(eV gj (gD 2) (eE 5)),(eV gj (gD 2) (eV jw (eE 5) (eC (.int 1))))])])))))
 (fK (ju (eV lB (eV iz (fG je [(gD 2)]) (eC (.int 2))) (eC (.int 1))) (qK 4 (eV gj (gD 2) (Dq S8 (eC (.int 1))))) fZ)
 (aa9 2 4)))))
 (gH (jG [(eE 1),(eV gj (gD 2) (eC (.int 0)))]))))))
def qw:List D→ER:=jF [.dat] 5 qj
def G8:SM:=(fK (qW (fG qQ [(eE 1),(eE 2)]))
 (fK (gG 3 (fG je [(eE 0)]))
 (fK (gG 4 (Oc (HD (fG je [(eE 1)])) (gN 7) (eC (.bool true)) (eV jw (eE 3) (eE 7)) [7]))
 (fK (j9 5 (fG pP [(eE 0)]))
 (fK (mZ (iT (eE 1)) (gN 6) (qK 5 (fG lA [(eE 6),(eE 4)])))
 (fK (ju (eV v7 (eE 2) (eC .none)) (gH (jG [(fG mj [(gD 5)]),(eC .none)])) fZ)
 (gH (jG [(fG mj [(gD 5)]),(eV jw (eE 3) (eE 2))]))))))))
def wZ:List D→ER:=jF [.dat, .dat, .dat] 5 G8
def vA:SM:=(fK (ou (gT [(gN 2),(gN 3)]) (fG wZ [(eV gj (eE 0) (eC (.int 0))),(eV gj (eE 1) (eC (.int 0))),(eV gj (eE 1) (eC (.int 1)))]))
 (gH (jG [(eE 2),(eV gj (eE 0) (eC (.int 1))),(eE 3)])))
def rG:List D→ER:=jF [.dat, .dat] 2 vA
def Mf:SM:=(fK (ju (eV v7 (eE 1) (eC .none)) (yX (eE 2)) fZ)
 (fK (ju (eV v7 (eE 2) (eC .none)) (yX (eE 1)) fZ)
 (wF (jh 0 tQ [(jG [(eC (.str "join")),(eE 1),(eE 2)])]))))
def jR:List D→ER:=z8 0 Mf
def Bt:SM:=(fK (ju (eV lB (eV gj (eE 0) (eC (.int 0))) (eC (.str "sign"))) (gH (eC (.int 1))) fZ)
 (fK (ju (eV lB (eV gj (eE 0) (eC (.int 0))) (eC (.str "join"))) (gH (eV jw (eV gj (gD 1) (eV gj (eE 0) (eC (.int 1)))) (eV gj (gD 1) (eV gj (eE 0) (eC (.int 2)))))) fZ)
 (gH (eV jZ (eV gj (gD 1) (eV gj (eE 0) (eC (.int 1)))) (eV gj (eE 0) (eC (.int 2)))))))
def sJ:List D→ER:=jF [.dat, .bor] 0 Bt
def aaN:SM:=(fK (j9 1 (lC []))
 (fK (mZ (iT (eE 0)) (gN 2) (qK 1 (fG sJ [(eE 2),(gD 1)])))
 (zf 1)))
def Bx:List D→ER:=jF [.dat] 2 aaN
def Mh:SM:=(fK (qW (fG qQ [(eE 0),(eE 1)]))
 (fK (ju (eV v7 (eE 1) (eC .none)) (gH (eC (.int 0))) fZ)
 (gH (eV gj (fG Bx [(eE 0)]) (eE 1)))))
def nY:List D→ER:=jF [.dat, .dat] 0 Mh
def Le:SM:=(fK (ju (eV TY (eV jw (fG nY [(eE 0),(eE 1)]) (fG nY [(eE 0),(eE 2)])) (eC (.int 1152921504606846976))) (yx "TooLong") fZ)
 (fK (j9 3 (fG pP [(eE 0)]))
 (fK (oN 4 (jh 3 jR [(eE 1),(eE 2)]))
 (gH (jG [(fG mj [(gD 3)]),(eE 4)])))))
def uV:List D→ER:=jF [.dat, .dat, .dat] 2 Le
def Wz:SM:=(fK (ju (sS (eV v7 (eE 1) (eC .none)) (eV lB (eE 2) (eC (.int 0)))) (yX (eC .none)) fZ)
 (fK (ju (eV lB (eE 2) (eC (.int 1))) (yX (eE 1)) fZ)
 (wF (jh 0 tQ [(jG [(eC (.str "times")),(eE 1),(eE 2)])]))))
def uY:List D→ER:=z8 0 Wz
def Bb:SM:=(fK (j9 4 (lC []))
 (fK (Ai (iW Lj Lj (eC (.int 0)) (eE 3) (eV gj (eE 1) (eE 2))) (fK (gG 7 (eV gj (gD 0) (eE 2)))
 (ju (eV lB (eV gj (eE 7) (eC (.int 0))) (eC (.str "times"))) (fK (Ph 4 (jh 0 uY [(eV gj (eE 7) (eC (.int 1))),(eV jy (eE 3) (eV gj (eE 1) (eV gj (eE 7) (eC (.int 1)))))]))
 (fK (gG 3 (eV iz (eE 3) (eV gj (eE 1) (eV gj (eE 7) (eC (.int 1))))))
 (gG 2 (eV gj (eE 7) (eC (.int 1)))))) (ju (eV Lj (eE 3) (eV gj (eE 1) (eV gj (eE 7) (eC (.int 2))))) (gG 2 (eV gj (eE 7) (eC (.int 2)))) (fK (qK 4 (eV gj (eE 7) (eC (.int 2))))
 (fK (gG 3 (eV pH (eE 3) (eV gj (eE 1) (eV gj (eE 7) (eC (.int 2))))))
 (gG 2 (eV gj (eE 7) (eC (.int 1))))))))))
 (fK (gG 5 (eC .none))
 (fK (ju (eV TY (eE 3) (eC (.int 0))) (gG 5 (eE 2)) fZ)
 (fK (Yi 4 (mZ (iRv (eE 4)) (gN 6) (oN 5 (jh 0 jR [(eE 5),(eE 6)]))))
 (yX (eE 5)))))))
def wQ:List D→ER:=z8 4 Bb
def tR:SM:=(fK (j9 4 (lC []))
 (fK (Ai (iW Lj Lj (eC (.int 0)) (eE 3) (eV gj (eE 1) (eE 2))) (fK (gG 7 (eV gj (gD 0) (eE 2)))
 (fK (gG 8 (eV gj (eE 1) (eV gj (eE 7) (eC (.int 1)))))
 (ju (eV lB (eV gj (eE 7) (eC (.int 0))) (eC (.str "times"))) (fK (Ph 4 (jh 0 uY [(eV gj (eE 7) (eC (.int 1))),(eV jy (eE 3) (eE 8))]))
 (fK (gG 3 (eV iz (eE 3) (eE 8)))
 (gG 2 (eV gj (eE 7) (eC (.int 1)))))) (ju (eV Lj (eE 3) (eE 8)) (gG 2 (eV gj (eE 7) (eC (.int 1)))) (fK (qK 4 (eV gj (eE 7) (eC (.int 1))))
 (fK (gG 3 (eV pH (eE 3) (eE 8)))
 (gG 2 (eV gj (eE 7) (eC (.int 2)))))))))))
 (fK (gG 5 (eC .none))
 (fK (ju (eV TY (eE 3) (eC (.int 0))) (gG 5 (eE 2)) fZ)
 (fK (Yi 4 (mZ (iRv (eE 4)) (gN 6) (oN 5 (jh 0 jR [(eE 6),(eE 5)]))))
 (yX (eE 5)))))))
def lO:List D→ER:=z8 5 tR
def Fy:SM:=(fK (gG 5 (eV gj (eE 2) (eC (.int 1))))
 (fK (gG 6 (eV gj (eE 1) (eE 5)))
 (fK (oN 7 (jh 0 wQ [(eE 1),(eE 5),(eV pH (eE 6) (eE 3))]))
 (fK (ju (eV lB (eV gj (eE 2) (eC (.int 0))) (eC (.str "join"))) (wF (wM 0 jR (eE 7) (jh 0 lO [(eE 1),(eV gj (eE 2) (eC (.int 2))),(eV pH (eE 4) (eE 6))]))) fZ)
 (fK (oN 7 (wM 0 jR (eE 7) (jh 0 uY [(eE 5),(eV jy (eV pH (eE 4) (eE 6)) (eE 6))])))
 (wF (wM 0 jR (eE 7) (jh 0 lO [(eE 1),(eE 5),(eV iz (eV pH (eE 4) (eE 6)) (eE 6))]))))))))
def wV:List D→ER:=z8 3 Fy
def QC:SM:=(fK (gG 4 (fG nY [(eE 0),(eE 1)]))
 (fK (ju (lV (oO Oa Oa Oa (eC (.int 0)) (eE 2) (eE 3) (eE 4))) (yx "NoPlace") fZ)
 (fK (ju (eV lB (eE 2) (eE 3)) (gH (jG [(fG mj [(eE 0)]),(eC .none)])) fZ)
 (fK (gG 5 (ni (fG Bx [(eE 0)])))
 (fK (Ai (eV BX (eV gj (eV gj (eE 0) (eE 1)) (eC (.int 0))) (eC (.str "sign"))) (fK (gG 6 (eV gj (eE 0) (eE 1)))
 (fK (gG 4 (eV gj (eE 5) (eV gj (eE 6) (eC (.int 1)))))
 (fK (ju (eV lB (eV gj (eE 6) (eC (.int 0))) (eC (.str "times"))) (fK (gG 3 (eV pH (eE 3) (eV jZ (eV jy (eE 2) (eE 4)) (eE 4))))
 (gG 2 (eV iz (eE 2) (eE 4)))) fZ)
 (ju (eV dGe (eE 2) (eE 4)) (fK (gG 2 (eV pH (eE 2) (eE 4)))
 (fK (gG 3 (eV pH (eE 3) (eE 4)))
 (gG 1 (eV gj (eE 6) (eC (.int 2)))))) (ju (eV Oa (eE 3) (eE 4)) (gG 1 (eV gj (eE 6) (eC (.int 1)))) (fK (j9 7 (fG pP [(eE 0)]))
 (fK (oN 8 (jh 7 wV [(eE 5),(eE 6),(eE 2),(eE 3)]))
 (gH (jG [(fG mj [(gD 7)]),(eE 8)]))))))))))
 (gH (jG [(fG mj [(eE 0)]),(eE 1)])))))))
def Fg:List D→ER:=jF [.dat, .dat, .dat, .dat] 5 QC
def Lr:SM:=(fK (ou (gT [(gN 3),(gN 4),(gN 5)]) (fG rG [(eE 0),(eE 2)]))
 (fK (gG 6 (fG nY [(eE 3),(eE 4)]))
 (fK (ou (gT [(gN 3),(gN 7)]) (fG Fg [(eE 3),(eE 4),(eC (.int 0)),(eE 1)]))
 (fK (ou (gT [(gN 3),(gN 8)]) (fG Fg [(eE 3),(eE 4),(eE 1),(eE 6)]))
 (fK (ou (gT [(gN 3),(gN 9)]) (fG uV [(eE 3),(eE 7),(eE 5)]))
 (gH (fG uV [(eE 3),(eE 9),(eE 8)])))))))
def M4:List D→ER:=jF [.dat, .dat, .dat] 7 Lr
def zL:SM:=(fK (ju (eV lB (eE 0) (eC (.str "insert"))) (gH (fG M4 [(eE 1),(eV gj (eE 2) (eC (.int 1))),(eV jr (gD 3) (eV gj (eE 2) (eC (.int 2))))])) fZ)
 (fK (ou (gT [(gN 4),(gN 5),(gN 6)]) (fG rG [(eE 1),(eV jr (gD 3) (eV gj (eE 2) (eC (.int 1))))]))
 (gH (fG uV [(eE 4),(eE 5),(eE 6)]))))
def Kh:List D→ER:=jF [.dat, .dat, .dat, .bor] 3 zL
def zR:SM:=(fK (qW (fG Fg [(eV gj (eE 0) (eC (.int 0))),(eV gj (eE 0) (eC (.int 1))),(eE 1),(eE 2)]))
 (fK (gG 3 (fG nY [(eV gj (eE 0) (eC (.int 0))),(eV gj (eE 0) (eC (.int 1)))]))
 (fK (ou (gT [(gN 4),(gN 5)]) (fG Fg [(eV gj (eE 0) (eC (.int 0))),(eV gj (eE 0) (eC (.int 1))),(eC (.int 0)),(eE 1)]))
 (fK (ou (gT [(gN 4),(gN 6)]) (fG Fg [(eE 4),(eV gj (eE 0) (eC (.int 1))),(eE 2),(eE 3)]))
 (gH (fG uV [(eE 4),(eE 5),(eE 6)]))))))
def Av:List D→ER:=jF [.dat, .dat, .dat] 4 zR
def Df:SM:=(fK (ju (eV TY (eV jZ (fG nY [(eE 0),(eE 1)]) (eE 2)) (eC (.int 1152921504606846976))) (yx "TooLong") fZ)
 (fK (j9 3 (fG pP [(eE 0)]))
 (fK (oN 4 (jh 3 uY [(eE 1),(eE 2)]))
 (gH (jG [(fG mj [(gD 3)]),(eE 4)])))))
def CT:List D→ER:=jF [.dat, .dat, .dat] 2 Df
def Mx:SM:=(fK (qW (fG qQ [(eE 0),(eE 1)]))
 (fK (j9 2 (fG pP [(eE 0)]))
 (fK (j9 3 (eC (.dict [])))
 (fK (mZ (iL (ni (fG nj [(eE 0),(eE 1)]))) (gN 4) (fK (gG 5 (fG lA [(eV gj (eE 0) (eE 4)),(gD 3)]))
 (fK (ju (eV lB (eV gj (eE 5) (eC (.int 0))) (eC (.str "join"))) (gG 5 (jG [(eC (.str "join")),(eV gj (eE 5) (eC (.int 2))),(eV gj (eE 5) (eC (.int 1)))])) fZ)
 (fK (mX 3 (eE 4) (eE 4))
 (ju (eV BX (eE 5) (eV gj (eE 0) (eE 4))) (Cj 3 (eE 4) (jh 2 tQ [(eE 5)])) fZ)))))
 (gH (jG [(fG mj [(gD 2)]),(pW (gD 3) (eE 1))]))))))
def DQ:List D→ER:=jF [.dat, .dat] 4 Mx
def zP:SM:=(fK (qW (fG qQ [(eE 0),(eE 1)]))
 (fK (j9 4 (fG pP [(eE 0)]))
 (fK (j9 5 (eC (.dict [])))
 (fK (mZ (iL (ni (fG nj [(eE 0),(eE 1)]))) (gN 6) (fK (gG 7 (fG lA [(eV gj (eE 0) (eE 6)),(gD 5)]))
 (fK (ju (eV lB (eE 7) (jG [(eC (.str "sign")),(eE 2)])) (gG 7 (jG [(eC (.str "sign")),(eE 3)])) fZ)
 (fK (mX 5 (eE 6) (eE 6))
 (ju (eV BX (eE 7) (eV gj (eE 0) (eE 6))) (Cj 5 (eE 6) (jh 4 tQ [(eE 7)])) fZ)))))
 (gH (jG [(fG mj [(gD 4)]),(pW (gD 5) (eE 1))]))))))
def vW:List D→ER:=jF [.dat, .dat, .dat, .dat] 4 zP
def oY:SM:=(fK (ju (eV lB (eE 0) (eC (.str "times"))) (gH (fG CT [(eV gj (eE 1) (eC (.int 0))),(eV gj (eE 1) (eC (.int 1))),(eV gj (eE 2) (eC (.int 1)))])) fZ)
 (fK (ju (eV lB (eE 0) (eC (.str "turn"))) (gH (fG DQ [(eV gj (eE 1) (eC (.int 0))),(eV gj (eE 1) (eC (.int 1)))])) fZ)
 (fK (ju (eV lB (eE 0) (eC (.str "put"))) (gH (fG vW [(eV gj (eE 1) (eC (.int 0))),(eV gj (eE 1) (eC (.int 1))),(eV gj (eE 2) (eC (.int 1))),(eV gj (eE 2) (eC (.int 2)))])) fZ)
 (fK (ju (eV lB (eE 0) (eC (.str "cut"))) (gH (fG Fg [(eV gj (eE 1) (eC (.int 0))),(eV gj (eE 1) (eC (.int 1))),(eV gj (eE 2) (eC (.int 1))),(eV gj (eE 2) (eC (.int 2)))])) fZ)
 (gH (fG Av [(eE 1),(eV gj (eE 2) (eC (.int 1))),(eV gj (eE 2) (eC (.int 2)))]))))))
def Lq:List D→ER:=jF [.dat, .dat, .dat] 0 oY
def Ae:SM:=(fK (ou (gT [(gN 2),(gN 3),(gN 4)]) (eE 1))
 (fK (qW (fG vG [(gD 0),(fG uQ [(eE 2)]),(eE 4)]))
 (fK (ju (eV lB (eE 2) (eC (.str "is"))) (ou (gT [(gN 5),(gN 6)]) (fG qw [(eV gj (eE 4) (eC (.int 0)))])) (ju (sS (eV lB (eE 2) (eC (.str "join"))) (eV lB (eE 2) (eC (.str "insert")))) (ou (gT [(gN 5),(gN 6)]) (fG Kh [(eE 2),(eV jr (gD 0) (eV gj (eE 4) (eC (.int 0)))),(eE 4),(gD 0)])) (ou (gT [(gN 5),(gN 6)]) (fG Lq [(eE 2),(eV jr (gD 0) (eV gj (eE 4) (eC (.int 0)))),(eE 4)]))))
 (gH (fG Ht [(eE 5),(eE 6)])))))
def nA:List D→ER:=jF [.bor, .dat] 5 Ae
def yC:SM:=(fK (j9 1 (eC (.dict [])))
 (fK (ju (eV lB (eE 0) (eC (.str ""))) (zf 1) fZ)
 (fK (mZ (iL (ni (Bg tU (eE 0) (eC (.str "; "))))) (gN 2) (fK (gG 3 (fG rH [(eE 2)]))
 (fK (ju (eV v7 (eE 3) (eC .none)) (yx "NoText") fZ)
 (mX 1 (eV gj (eE 3) (eC (.int 1))) (fG nA [(gD 1),(eE 3)])))))
 (zf 1))))
def yI:List D→ER:=jF [.dat] 3 yC
def S9:SM:=(fK (j9 1 (fG yI [(eE 0)]))
 (fK (gG 2 (jG []))
 (fK (j9 3 (lC []))
 (fK (mZ (iL (ni (Dq nU (gD 1)))) (gN 4) (fK (ou (gT [(gN 5),(gN 6)]) (eV jr (gD 1) (eE 4)))
 (fK (ou (gT [(gN 2),(gN 6)]) (fG wZ [(eE 2),(eE 5),(eE 6)]))
 (qK 3 (jG [(eE 4),(eE 6)])))))
 (Yi 3 (gH (jG [(eE 2),(eE 3)])))))))
def Cv:List D→ER:=jF [.dat] 6 S9
def vq:SM:=(fK (j9 1 (lC []))
 (fK (mZ (iT (eE 0)) (gN 2) (fK (gG 3 (eC (.int 1)))
 (fK (ju (eV lB (eV gj (eE 2) (eC (.int 0))) (eC (.str "join"))) (gG 3 (eV jw (eV gj (gD 1) (eV gj (eE 2) (eC (.int 1)))) (eV gj (gD 1) (eV gj (eE 2) (eC (.int 2)))))) (ju (eV lB (eV gj (eE 2) (eC (.int 0))) (eC (.str "times"))) (gG 3 (eV jZ (eV gj (gD 1) (eV gj (eE 2) (eC (.int 1)))) (eV gj (eE 2) (eC (.int 2))))) fZ))
 (qK 1 (eE 3)))))
 (zf 1)))
def rE:List D→ER:=jF [.dat] 3 vq
def yr:SM:=(fK (gG 1 (ni (lC [(eC (.str "is")),(eC (.str "join")),(eC (.str "times")),(eC (.str "cut")),(eC (.str "turn")),(eC (.str "put")),(eC (.str "insert")),(eC (.str "remove"))])))
 (fK (gG 1 (eV jw (eE 1) (lC [(eC (.str "drop")),(eC (.str "swap")),(eC (.str "length")),(eC (.str "count")),(eC (.str "sign")),(eC (.str "show")),(eC (.str "stands"))])))
 (fK (gG 1 (eV jw (eE 1) (lC [(eC (.str "first")),(eC (.str "parts")),(eC (.str "order")),(eC (.str "piece")),(eC (.str "ring")),(eC (.str "form")),(eC (.str "words")),(eC (.str "none"))])))
 (gH (eV gj (eE 1) (eV iz (eE 0) (eC (.int 23))))))))
def xZ:List D→ER:=jF [.dat] 1 yr
def vI:SM:=(fK (gG 2 (eV iz (eE 0) (eC (.int 6))))
 (fK (gG 3 (eV jw (eC (.int 1)) (eV iz (eV jy (eE 0) (eC (.int 6))) (eC (.int 8)))))
 (fK (ju (eV lB (eE 2) (eC (.int 4))) (gG 3 (eV jw (eC (.int 1)) (eE 1))) fZ)
 (fK (ju (eV lB (eE 2) (eC (.int 5))) (gH (fG xZ [(eV jw (eV jy (eE 0) (eC (.int 6))) (eE 1))])) fZ)
 (fK (gG 4 (eC (.str "")))
 (fK (mZ (HD (eE 3)) (gN 5) (fK (gG 6 (eC (.int 0)))
 (fK (ju (sS (eV lB (eE 2) (eC (.int 2))) (sS (eV lB (eE 2) (eC (.int 3))) (oE (eV Lj (eE 2) (eC (.int 2))) (eV lB (eE 5) (eV iz (eV jy (eE 0) (eC (.int 48))) (eE 3)))))) (gG 6 (eV jZ (eC (.int 7)) (eE 1))) fZ)
 (fK (gG 7 (eV jw (eV jw (eV jy (eE 0) (eC (.int 384))) (eV jZ (eC (.int 11)) (eE 5))) (eE 6)))
 (gG 4 (eV jw (eE 4) (eV gj (eC (.str "abcdefghijklmnopqrstuvwxyz")) (eV iz (eE 7) (eC (.int 26))))))))))
 (gH (eE 4))))))))
def tE:List D→ER:=jF [.dat, .dat] 6 vI
def uo:SM:=(fK (ju (eV lB (eV iz (eE 0) (eC (.int 4))) (eC (.int 0))) (gH (eV iz (eV jy (eE 0) (eC (.int 4))) (fG Kl [(eE 1),(eC (.int 3))]))) fZ)
 (fK (ju (eV lB (eV iz (eE 0) (eC (.int 4))) (eC (.int 1))) (gH (eV pH (eV pH (eE 1) (eC (.int 1))) (eV iz (eV jy (eE 0) (eC (.int 4))) (fG Kl [(eE 1),(eC (.int 3))])))) fZ)
 (gH (eV iz (eV jZ (eV jy (eE 0) (eC (.int 4))) (eC (.int 1152921504606846883))) (eE 1)))))
def mO:List D→ER:=jF [.dat, .dat] 0 uo
def uD:SM:=(fK (gG 6 (eV jr (gD 4) (eE 1)))
 (fK (ju (eV lB (eE 0) (eC (.int 7))) (gH (aaI "put" "0123456789ABCDEFGHIJKLMNOPQRSTUVWXYZabcdefghijklmnopqrstuvwxyz" 62 (eE 1) (eE 5) (eV iz (eE 3) (fG je [(eE 5)])) (eV jy (eE 3) (eC (.int 62))))) fZ)
 (fK (gG 7 (fG mO [(eE 3),(eV jw (eE 6) (eC (.int 1)))]))
 (fK (ju (eV lB (eE 0) (eC (.int 8))) (gH (jG [(eC (.str "insert")),(eE 1),(eE 7),(eE 2)])) fZ)
 (fK (gG 8 (eV jw (eE 7) (fG mO [(eV jy (eE 3) (eC (.int 1000003))),(eV pH (eV jw (eE 6) (eC (.int 1))) (eE 7))])))
 (gH (jG [(eV gj (lC [(eC (.str "cut")),(eC (.str "remove"))]) (eV jy (eE 0) (eC (.int 9)))),(eE 1),(eE 7),(eE 8)])))))))
def xQ:List D→ER:=jF [.dat, .dat, .dat, .dat, .bor, .dat] 3 uD
def ux:SM:=(fK (gG 3 (eV jw (eC (.int 1)) (eV iz (eE 0) (eV gj (lC [(eC (.int 6)),(eC (.int 6)),(eC (.int 40))]) (eV iz (eV jy (eE 0) (eC (.int 240))) (eC (.int 3)))))))
 (fK (gG 4 (eC (.str "")))
 (fK (mZ (HD (fG Kl [(eE 3),(eE 2)])) (gN 5) (fK (gG 0 (eV iz (eV jw (eV jw (eV jZ (eE 0) (eC (.int 48271))) (eE 5)) (eC (.int 11))) (eC (.int 2147483647))))
 (gG 4 (eV jw (eE 4) (eV gj (eE 1) (eV iz (eV jy (eE 0) (eC (.int 16))) (fG je [(eE 1)])))))))
 (gH (eE 4)))))
def rF:List D→ER:=jF [.dat, .dat, .dat] 3 ux
def wC:SM:=(fK (gG 3 (eV iz (eV jy (eE 0) (eC (.int 6))) (eC (.int 6))))
 (fK (ju (eV lB (eV iz (eE 0) (eC (.int 6))) (eC (.int 3))) (gG 3 (eV iz (eV jy (eE 0) (eC (.int 6))) (eC (.int 10007)))) fZ)
 (fK (ju (eV lB (eV iz (eE 0) (eC (.int 6))) (eC (.int 4))) (gG 3 (eV iz (eV jZ (eV jy (eE 0) (eC (.int 6))) (eC (.int 1152921504606846883))) (eV jw (eV rK (eC (.int 2)) (eC (.int 60))) (eC (.int 1))))) fZ)
 (fK (ju (eV lB (eV iz (eE 0) (eC (.int 6))) (eC (.int 5))) (gG 3 (eV pH (eV rK (eC (.int 2)) (eC (.int 60))) (eV iz (eV jy (eE 0) (eC (.int 6))) (eC (.int 3))))) fZ)
 (gH (fG JT [(eE 3),(eV jy (eE 2) (fG Jw [(eC (.int 1)),(eE 1)])),(eV rK (eC (.int 2)) (eC (.int 60)))]))))))
def vP:List D→ER:=jF [.dat, .dat, .dat] 1 wC
def wg:SM:=(fK (gG 0 (eV jw (eV jZ (eE 0) (eC (.int 1566083941))) (eC (.int 97))))
 (fK (gG 4 (ni (Dq nU (gD 1))))
 (fK (gG 5 (eV iz (eE 0) (eC (.int 10))))
 (fK (ju (sS (eV lB (eE 5) (eC (.int 0))) (eV lB (fG je [(eE 4)]) (eC (.int 0)))) (gH (jG [(eC (.str "is")),(fG rF [(eV jy (eE 0) (eC (.int 40960))),(eE 2),(eE 3)])])) fZ)
 (fK (gG 6 (eV gj (eE 4) (eV iz (eV iz (eV jy (eE 0) (eC (.int 10))) (eC (.int 64))) (fG je [(eE 4)]))))
 (fK (gG 7 (eV gj (eE 4) (eV iz (eV iz (eV jy (eE 0) (eC (.int 640))) (eC (.int 64))) (fG je [(eE 4)]))))
 (fK (ju (oE (eV (WT false) (eE 5) (jG [(eC (.int 1)),(eC (.int 2)),(eC (.int 8))])) (eV TY (eV jw (eV jr (gD 1) (eE 6)) (eV jr (gD 1) (eE 7))) (eE 3))) (gG 5 (eC (.int 6))) fZ)
 (fK (ju (eV Lj (eE 5) (eC (.int 3))) (gH (jG [(eC (.str "join")),(eE 6),(eE 7)])) fZ)
 (fK (ju (eV Lj (eE 5) (eC (.int 5))) (gH (jG [(eC (.str "times")),(eE 6),(fG vP [(eV jy (eE 0) (eC (.int 40960))),(eV jr (gD 1) (eE 6)),(eE 3)])])) fZ)
 (fK (ju (eV lB (eE 5) (eC (.int 6))) (gH (jG [(eC (.str "turn")),(eE 6)])) fZ)
 (gH (fG xQ [(eE 5),(eE 6),(eE 7),(eV jy (eE 0) (eC (.int 40960))),(gD 1),(eE 2)]))))))))))))
def vO:List D→ER:=jF [.dat, .bor, .dat, .dat] 4 wg
def uW:SM:=(fK (ju (eV lB (eV kZ (eE 0) (eC (.int 0))) (eC (.str "is"))) (gH (eV kZ (eE 0) (eC (.int 1)))) fZ)
 (fK (gG 2 (eV jr (gD 1) (eV kZ (eE 0) (eC (.int 1)))))
 (fK (ju (eV lB (eV kZ (eE 0) (eC (.int 0))) (eC (.str "join"))) (gH (eV jw (eE 2) (eV jr (gD 1) (eV kZ (eE 0) (eC (.int 2)))))) fZ)
 (fK (ju (eV lB (eV kZ (eE 0) (eC (.int 0))) (eC (.str "times"))) (gH (eV jZ (eE 2) (eV kZ (eE 0) (eC (.int 2))))) fZ)
 (fK (ju (eV lB (eV kZ (eE 0) (eC (.int 0))) (eC (.str "turn"))) (gH (El (eE 2))) fZ)
 (fK (ju (eV lB (eV kZ (eE 0) (eC (.int 0))) (eC (.str "put"))) (gH (aac 2 0)) fZ)
 (fK (ju (eV lB (eV kZ (eE 0) (eC (.int 0))) (eC (.str "insert"))) (gH (eV jw (eV jw (Cp (eE 2) none (some (eV kZ (eE 0) (eC (.int 2))))) (eV jr (gD 1) (eV kZ (eE 0) (eC (.int 3))))) (Cp (eE 2) (some (eV kZ (eE 0) (eC (.int 2)))) none))) fZ)
 (fK (ju (eV lB (eV kZ (eE 0) (eC (.int 0))) (eC (.str "cut"))) (gH (Cp (eE 2) (some (eV kZ (eE 0) (eC (.int 2)))) (some (eV kZ (eE 0) (eC (.int 3)))))) fZ)
 (gH (eV jw (Cp (eE 2) none (some (eV kZ (eE 0) (eC (.int 2))))) (Cp (eE 2) (some (eV kZ (eE 0) (eC (.int 3)))) none)))))))))))
def oZ:List D→ER:=jF [.dat, .bor] 1 uW
def Fv:SM:=(gH (oE (zA "int" (eE 0)) (lV (zA "bool" (eE 0)))))
def nO:List D→ER:=jF [.dat] 0 Fv
def pB:SM:=(fK (ju (sS (lV (zA "tuple" (eE 0))) (sS (eV Lj (fG je [(eE 0)]) (eC (.int 2))) (lV (zA "str" (eV gj (eE 0) (eC (.int 0))))))) (gH (eC (.bool false))) fZ)
 (fK (ju (oE (eV lB (eV gj (eE 0) (eC (.int 0))) (eC (.str "sign"))) (eV lB (fG je [(eE 0)]) (eC (.int 2)))) (gH (oE (zA "str" (eV gj (eE 0) (eC (.int 1)))) (oE (eV lB (fG je [(eV gj (eE 0) (eC (.int 1)))]) (eC (.int 1))) (sS (eS0 (fun z=> .bool (Txt.isalpha z)) (eV gj (eE 0) (eC (.int 1)))) (eS0 (fun z=> .bool (Txt.isdigit z)) (eV gj (eE 0) (eC (.int 1)))))))) fZ)
 (fK (ju (sS (eV BX (fG je [(eE 0)]) (eC (.int 3))) (sS (lV (fG nO [(eV gj (eE 0) (eC (.int 1)))])) (sS (lV (iW Oa Lj (eC (.int 0)) (eV gj (eE 0) (eC (.int 1))) (eE 1))) (lV (fG nO [(eV gj (eE 0) (eC (.int 2)))]))))) (gH (eC (.bool false))) fZ)
 (fK (ju (eV lB (eV gj (eE 0) (eC (.int 0))) (eC (.str "join"))) (gH (iW Oa Lj (eC (.int 0)) (eV gj (eE 0) (eC (.int 2))) (eE 1))) fZ)
 (gH (oE (eV lB (eV gj (eE 0) (eC (.int 0))) (eC (.str "times"))) (iW Oa Oa (eC (.int 1)) (eV gj (eE 0) (eC (.int 2))) (eV rK (eC (.int 2)) (eC (.int 60))))))))))
def lg:List D→ER:=jF [.dat, .dat] 0 pB
def zG:SM:=(fK (ju (sS (lV (zA "tuple" (eE 0))) (sS (eV BX (fG je [(eE 0)]) (eC (.int 2))) (lV (zA "tuple" (eV gj (eE 0) (eC (.int 0))))))) (gH (eC (.bool false))) fZ)
 (fK (ju (sS (lV (zA "list" (eV gj (eE 0) (eC (.int 1))))) (eV BX (fG je [(eV gj (eE 0) (eC (.int 1)))]) (fG je [(eE 1)]))) (gH (eC (.bool false))) fZ)
 (fK (mZ (HD (fG je [(eV gj (eE 0) (eC (.int 0)))])) (gN 2) (ju (lV (fG lg [(eV gj (eV gj (eE 0) (eC (.int 0))) (eE 2)),(eE 2)])) (gH (eC (.bool false))) fZ))
 (fK (mZ (iZ (eV gj (eE 0) (eC (.int 1))) (eE 1)) (gT [(gN 3),(gN 4)]) (fK (ju (sS (lV (zA "tuple" (eE 3))) (sS (eV BX (fG je [(eE 3)]) (eC (.int 2))) (sS (lV (zA "str" (eV gj (eE 3) (eC (.int 0))))) (eV BX (eV gj (eE 3) (eC (.int 0))) (eE 4))))) (gH (eC (.bool false))) fZ)
 (ju (oE (eV pF (eV gj (eE 3) (eC (.int 1))) (eC .none)) (sS (lV (fG nO [(eV gj (eE 3) (eC (.int 1)))])) (lV (iW Oa Lj (eC (.int 0)) (eV gj (eE 3) (eC (.int 1))) (fG je [(eV gj (eE 0) (eC (.int 0)))]))))) (gH (eC (.bool false))) fZ)))
 (gH (sS (eV lB (fG je [(eV gj (eE 0) (eC (.int 0)))]) (eC (.int 0))) (eV Oa (fG Jw [(fG rE [(eV gj (eE 0) (eC (.int 0)))])]) (eV rK (eC (.int 2)) (eC (.int 60))))))))))
def Aq:List D→ER:=jF [.dat, .dat] 3 zG
def CJ:SM:=(gH (Bg wO (eC (.str " ")) (eV jw (lC [(eE 0)]) (Oc (iTM (eE 1)) (gN 2) (eC (.bool true)) (fG Cz [(eE 2)]) [2]))))
def vg:List D→ER:=jF [.dat, .dat] 1 CJ
def vh:SM:=(fK (Ai (eV BX (eV gj (eV gj (eE 0) (eE 2)) (eC (.int 0))) (eC (.str "sign"))) (fK (gG 4 (eV gj (eV gj (eE 0) (eE 2)) (eC (.int 1))))
 (ju (eV lB (eV gj (eV gj (eE 0) (eE 2)) (eC (.int 0))) (eC (.str "times"))) (fK (gG 3 (eV iz (eE 3) (eV gj (eE 1) (eE 4))))
 (gG 2 (eE 4))) (ju (eV Lj (eE 3) (eV gj (eE 1) (eE 4))) (gG 2 (eE 4)) (fK (gG 3 (eV pH (eE 3) (eV gj (eE 1) (eE 4))))
 (gG 2 (eV gj (eV gj (eE 0) (eE 2)) (eC (.int 2)))))))))
 (gH (eV gj (eV gj (eE 0) (eE 2)) (eC (.int 1)))))
def oR:List D→ER:=jF [.dat, .dat, .dat, .dat] 1 vh
def Az:SM:=(fK (ju (eV v7 (eE 2) (eC .none)) (gH (eC (.str ""))) fZ)
 (fK (ju (eV TY (eV gj (eE 1) (eE 2)) (eC (.int 60))) (gH (eC (.str "too long"))) fZ)
 (gH (Bg wO (eC (.str "")) (Oc (HD (eV gj (eE 1) (eE 2))) (gN 3) (eC (.bool true)) (fG oR [(eE 0),(eE 1),(eE 2),(eE 3)]) [3])))))
def qJ:List D→ER:=jF [.dat, .dat, .dat] 1 Az
def abU:SM:=(fK (gG 1 (ni (fG ug [(eE 0),(eC (.int 2)),(eC (.int 26))])))
 (fK (gG 2 (Oc (HD (eC (.int 5))) (gN 14) (eC (.bool true)) (fG tE [(eV gj (eE 1) (eC (.int 0))),(eE 14)]) [14]))
 (fK (gG 3 (fG vH [(eV gj (eE 1) (eC (.int 1)))]))
 (fK (j9 4 (eC (.dict [])))
 (fK (j9 5 (eC (.dict [])))
 (fK (j9 6 (lC []))
 (fK (mZ (iL (Cp (eE 1) (some (eC (.int 2))) none)) (gN 7) (fK (gG 12 (eV gj (eE 2) (eV iz (eE 7) (eC (.int 5)))))
 (fK (gG 13 (fG vO [(eV jy (eE 7) (eC (.int 5))),(gD 5),(eE 3),(eC (.int 60))]))
 (fK (mX 4 (eE 12) (fG oZ [(eE 13),(gD 4)]))
 (fK (mX 5 (eE 12) (fG je [(eV jr (gD 4) (eE 12))]))
 (qK 6 (fG vg [(eE 12),(eE 13)])))))))
 (fK (gG 8 (fG Cv [(Bg wO (eC (.str "; ")) (gD 6))]))
 (fK (ju (lV (fG Aq [(eE 8),(ni (Dq nU (gD 4)))])) (gH (eC (.bool false))) fZ)
 (fK (gG 9 (ni (fG rE [(eV gj (eE 8) (eC (.int 0)))])))
 (fK (mZ (iL (eV gj (eE 8) (eC (.int 1)))) (gT [(gN 10),(gN 11)]) (ju (sS (eV BX (fG qJ [(eV gj (eE 8) (eC (.int 0))),(eE 9),(eE 11)]) (eV jr (gD 4) (eE 10))) (eV BX (eV v7 (eE 11) (eC .none)) (eV lB (eV jr (gD 4) (eE 10)) (eC (.str ""))))) (gH (eC (.bool false))) fZ))
 (gH (eV lB (eV gj (fG Cv [(eC (.str ""))]) (eC (.int 1))) (lC []))))))))))))))
def V4:List D→ER:=jF [.dat] 14 abU
end Sb
namespace Sb
open PySem PySem.Spec L2 Evl DL
def top(i:Nat):Stmt:=PySem.Challenge.pw_shortbook_k62_whole_telling_written_out.main.body.getD i (.Pass ⟨0,0,0,0⟩)
abbrev uf:Stmt:=top 63
def Fb:He.DefD:=⟨("_law_mixed",none),"_law_mixed","_law_mixed",defArgs uf,defBody uf,defScope uf,[],[]⟩
theorem Ca:FnScope ["_law_cells","_law_k","_law_number"] ["_law_cells","_law_k"] (defScope uf):=⟨rfl,rfl,rfl,by decide+kernel,rfl,by decide+kernel,by decide+kernel⟩
abbrev rD:Stmt:=top 64
def Es:He.DefD:=⟨("_law_draws",none),"_law_draws","_law_draws",defArgs rD,defBody rD,defScope rD,[],[]⟩
theorem Ci:FnScope ["_law_script","_law_ahead_of","_law_most","_law_cells","_law_many_here","_law_draws_here","_law_k"] ["_law_script","_law_ahead_of","_law_most"] (defScope rD):=⟨rfl,rfl,rfl,by decide+kernel,rfl,by decide+kernel,by decide+kernel⟩
abbrev qZ:Stmt:=top 65
def uU:He.DefD:=⟨("_law_sign_by",none),"_law_sign_by","_law_sign_by",defArgs qZ,defBody qZ,defScope qZ,[],[]⟩
theorem tV:FnScope ["_law_cell"] ["_law_cell"] (defScope qZ):=⟨rfl,rfl,rfl,by decide+kernel,rfl,by decide+kernel,by decide+kernel⟩
abbrev o8:Stmt:=top 69
def zK:He.DefD:=⟨("_law_letters",none),"_law_letters","_law_letters",defArgs o8,defBody o8,defScope o8,[],[]⟩
theorem yW:FnScope ["_law_cell","_law_many_here","_law_step","_law_k"] ["_law_cell"] (defScope o8):=⟨rfl,rfl,rfl,by decide+kernel,rfl,by decide+kernel,by decide+kernel⟩
abbrev yF:Stmt:=top 49
def JZ:He.DefD:=⟨("kinds_of",none),"kinds_of","kinds_of",defArgs yF,defBody yF,defScope yF,[],[]⟩
theorem IK:FnScope ["verb"] ["verb"] (defScope yF):=⟨rfl,rfl,rfl,by decide+kernel,rfl,by decide+kernel,by decide+kernel⟩
abbrev Bu:Stmt:=top 9
def Qw:He.DefD:=⟨("is_sign",none),"is_sign","is_sign",defArgs Bu,defBody Bu,defScope Bu,[],[]⟩
theorem KZ:FnScope ["thing"] ["thing"] (defScope Bu):=⟨rfl,rfl,rfl,by decide+kernel,rfl,by decide+kernel,by decide+kernel⟩
abbrev yL:Stmt:=top 45
def Ka:He.DefD:=⟨("signs_of",none),"signs_of","signs_of",defArgs yL,defBody yL,defScope yL,[],[]⟩
theorem Io:FnScope ["text","most","sign"] ["text","most"] (defScope yL):=⟨rfl,rfl,rfl,by decide+kernel,rfl,by decide+kernel,by decide+kernel⟩
abbrev Bj:Stmt:=top 43
def Qy:He.DefD:=⟨("is_word",none),"is_word","is_word",defArgs Bj,defBody Bj,defScope Bj,[],[]⟩
theorem Kc:FnScope ["text","sign"] ["text"] (defScope Bj):=⟨rfl,rfl,rfl,by decide+kernel,rfl,by decide+kernel,by decide+kernel⟩
abbrev vU:Stmt:=top 44
def Jc:He.DefD:=⟨("number_of",none),"number_of","number_of",defArgs vU,defBody vU,defScope vU,[],[]⟩
theorem Fj:FnScope ["text","most","sign","number"] ["text","most"] (defScope vU):=⟨rfl,rfl,rfl,by decide+kernel,rfl,by decide+kernel,by decide+kernel⟩
abbrev yu:Stmt:=top 46
def La:He.DefD:=⟨("value_of",none),"value_of","value_of",defArgs yu,defBody yu,defScope yu,[],[]⟩
theorem Ij:FnScope ["kind","word"] ["kind","word"] (defScope yu):=⟨rfl,rfl,rfl,by decide+kernel,rfl,by decide+kernel,by decide+kernel⟩
abbrev vJ:Stmt:=top 47
def Jh:He.DefD:=⟨("values_of",none),"values_of","values_of",defArgs vJ,defBody vJ,defScope vJ,[],[]⟩
theorem Gq:FnScope ["kinds","words","values","kind","word","value"] ["kinds","words"] (defScope vJ):=⟨rfl,rfl,rfl,by decide+kernel,rfl,by decide+kernel,by decide+kernel⟩
abbrev qY:Stmt:=top 50
def Ab:He.DefD:=⟨("statement_of",none),"statement_of","statement_of",defArgs qY,defBody qY,defScope qY,[],[]⟩
theorem zj:FnScope ["row","words","kinds","values"] ["row"] (defScope qY):=⟨rfl,rfl,rfl,by decide+kernel,rfl,by decide+kernel,by decide+kernel⟩
abbrev rC:Stmt:=top 51
def Am:He.DefD:=⟨("ask_standing",none),"ask_standing","ask_standing",defArgs rC,defBody rC,defScope rC,[],[]⟩
theorem yZ:FnScope ["texts","kinds","values","kind","value"] ["texts","kinds","values"] (defScope rC):=⟨rfl,rfl,rfl,by decide+kernel,rfl,by decide+kernel,by decide+kernel⟩
abbrev JM:Stmt:=top 16
def ZQ:He.DefD:=⟨("named",none),"named","named",defArgs JM,defBody JM,defScope JM,[],[]⟩
theorem Wd:FnScope ["rules","name"] ["rules","name"] (defScope JM):=⟨rfl,rfl,rfl,by decide+kernel,rfl,by decide+kernel,by decide+kernel⟩
abbrev xV:Stmt:=top 13
def Nu:He.DefD:=⟨("parts_of",none),"parts_of","parts_of",defArgs xV,defBody xV,defScope xV,[],[]⟩
theorem Ir:FnScope ["rule"] ["rule"] (defScope xV):=⟨rfl,rfl,rfl,by decide+kernel,rfl,by decide+kernel,by decide+kernel⟩
abbrev Gn:Stmt:=top 14
def Vp:He.DefD:=⟨("needed",none),"needed","needed",defArgs Gn,defBody Gn,defScope Gn,[],[]⟩
theorem Pr:FnScope ["rules","name","seen","number","part"] ["rules","name"] (defScope Gn):=⟨rfl,rfl,rfl,by decide+kernel,rfl,by decide+kernel,by decide+kernel⟩
abbrev BR:Stmt:=top 23
def PB:He.DefD:=⟨("renamed",none),"renamed","renamed",defArgs BR,defBody BR,defScope BR,[],[]⟩
theorem Nf:FnScope ["rule","numbers"] ["rule","numbers"] (defScope BR):=⟨rfl,rfl,rfl,by decide+kernel,rfl,by decide+kernel,by decide+kernel⟩
abbrev YQ:Stmt:=top 20
def aeK:He.DefD:=⟨("put",none),"put","put",defArgs YQ,defBody YQ,defScope YQ,[],[]⟩
theorem acI:FnScope ["rows","rule"] ["rows","rule"] (defScope YQ):=⟨rfl,rfl,rfl,by decide+kernel,rfl,by decide+kernel,by decide+kernel⟩
abbrev RP:Stmt:=top 32
def abn:He.DefD:=⟨("tidy",none),"tidy","tidy",defArgs RP,defBody RP,defScope RP,[],[]⟩
theorem Yw:FnScope ["rules","name","rows","kept","numbers","number","rule"] ["rules","name"] (defScope RP):=⟨rfl,rfl,rfl,by decide+kernel,rfl,by decide+kernel,by decide+kernel⟩
abbrev qu:Stmt:=top 52
def zq:He.DefD:=⟨("spelled_rules",none),"spelled_rules","spelled_rules",defArgs qu,defBody qu,defScope qu,[],[]⟩
theorem wX:FnScope ["signs","rules","names","sign","above","at"] ["signs"] (defScope qu):=⟨rfl,rfl,rfl,by decide+kernel,rfl,by decide+kernel,by decide+kernel⟩
abbrev wN:Stmt:=top 26
def Pj:He.DefD:=⟨("brought",none),"brought","brought",defArgs wN,defBody wN,defScope wN,[],[]⟩
theorem NZ:FnScope ["rules","others","name","far","numbers","rows","rule","number"] ["rules","others","name"] (defScope wN):=⟨rfl,rfl,rfl,by decide+kernel,rfl,by decide+kernel,by decide+kernel⟩
abbrev qO:Stmt:=top 53
def Ar:He.DefD:=⟨("side_by_side",none),"side_by_side","side_by_side",defArgs qO,defBody qO,defScope qO,[],[]⟩
theorem zm:FnScope ["one","other","rules","name"] ["one","other"] (defScope qO):=⟨rfl,rfl,rfl,by decide+kernel,rfl,by decide+kernel,by decide+kernel⟩
abbrev Fd:Stmt:=top 21
def Vi:He.DefD:=⟨("linked",none),"linked","linked",defArgs Fd,defBody Fd,defScope Fd,[],[]⟩
theorem Qt:FnScope ["rows","one","other"] ["rows","one","other"] (defScope Fd):=⟨rfl,rfl,rfl,by decide+kernel,rfl,by decide+kernel,by decide+kernel⟩
abbrev BK:Stmt:=top 12
def Qq:He.DefD:=⟨("size_of",none),"size_of","size_of",defArgs BK,defBody BK,defScope BK,[],[]⟩
theorem M6:FnScope ["rule","sizes"] ["rule","sizes"] (defScope BK):=⟨rfl,rfl,rfl,by decide+kernel,rfl,by decide+kernel,by decide+kernel⟩
abbrev Br:Stmt:=top 17
def O5:He.DefD:=⟨("lengths",none),"lengths","lengths",defArgs Br,defBody Br,defScope Br,[],[]⟩
theorem Kz:FnScope ["rules","sizes","rule"] ["rules"] (defScope Br):=⟨rfl,rfl,rfl,by decide+kernel,rfl,by decide+kernel,by decide+kernel⟩
abbrev Dt:Stmt:=top 18
def TF:He.DefD:=⟨("length",none),"length","length",defArgs Dt,defBody Dt,defScope Dt,[],[]⟩
theorem PL:FnScope ["rules","name"] ["rules","name"] (defScope Dt):=⟨rfl,rfl,rfl,by decide+kernel,rfl,by decide+kernel,by decide+kernel⟩
abbrev Ge:Stmt:=top 24
def Uj:He.DefD:=⟨("joined",none),"joined","joined",defArgs Ge,defBody Ge,defScope Ge,[],[]⟩
theorem O3:FnScope ["rules","one","other","rows","name"] ["rules","one","other"] (defScope Ge):=⟨rfl,rfl,rfl,by decide+kernel,rfl,by decide+kernel,by decide+kernel⟩
abbrev QS:Stmt:=top 22
def ac0:He.DefD:=⟨("over",none),"over","over",defArgs QS,defBody QS,defScope QS,[],[]⟩
theorem YS:FnScope ["rows","one","many"] ["rows","one","many"] (defScope QS):=⟨rfl,rfl,rfl,by decide+kernel,rfl,by decide+kernel,by decide+kernel⟩
abbrev Eo:Stmt:=top 28
def Uo:He.DefD:=⟨("ending",none),"ending","ending",defArgs Eo,defBody Eo,defScope Eo,[],[]⟩
theorem Qa:FnScope ["rows","sizes","name","many","parts","found","part","rule"] ["rows","sizes","name","many"] (defScope Eo):=⟨rfl,rfl,rfl,by decide+kernel,rfl,by decide+kernel,by decide+kernel⟩
abbrev wz:Stmt:=top 27
def Ib:He.DefD:=⟨("beginning",none),"beginning","beginning",defArgs wz,defBody wz,defScope wz,[],[]⟩
theorem Gk:FnScope ["rows","sizes","name","many","parts","found","part","rule","size"] ["rows","sizes","name","many"] (defScope wz):=⟨rfl,rfl,rfl,by decide+kernel,rfl,by decide+kernel,by decide+kernel⟩
abbrev DP:Stmt:=top 29
def V3:He.DefD:=⟨("across",none),"across","across",defArgs DP,defBody DP,defScope DP,[],[]⟩
theorem O7:FnScope ["rows","sizes","rule","start","end","one","size","found"] ["rows","sizes","rule","start","end"] (defScope DP):=⟨rfl,rfl,rfl,by decide+kernel,rfl,by decide+kernel,by decide+kernel⟩
abbrev Y9:Stmt:=top 30
def aeM:He.DefD:=⟨("cut",none),"cut","cut",defArgs Y9,defBody Y9,defScope Y9,[],[]⟩
theorem acU:FnScope ["rules","name","start","end","size","sizes","rule","rows","found"] ["rules","name","start","end"] (defScope Y9):=⟨rfl,rfl,rfl,by decide+kernel,rfl,by decide+kernel,by decide+kernel⟩
abbrev Ff:Stmt:=top 54
def Uw:He.DefD:=⟨("put_in",none),"put_in","put_in",defArgs Ff,defBody Ff,defScope Ff,[],[]⟩
theorem O8:FnScope ["one","place","other","rules","name","middle","size","head","tail","front"] ["one","place","other"] (defScope Ff):=⟨rfl,rfl,rfl,by decide+kernel,rfl,by decide+kernel,by decide+kernel⟩
abbrev Ea:Stmt:=top 56
def VP:He.DefD:=⟨("of_two",none),"of_two","of_two",defArgs Ea,defBody Ea,defScope Ea,[],[]⟩
theorem Pa:FnScope ["verb","one","values","texts","rules","name","other"] ["verb","one","values","texts"] (defScope Ea):=⟨rfl,rfl,rfl,by decide+kernel,rfl,by decide+kernel,by decide+kernel⟩
abbrev vZ:Stmt:=top 55
def Jg:He.DefD:=⟨("taken_out",none),"taken_out","taken_out",defArgs vZ,defBody vZ,defScope vZ,[],[]⟩
theorem DN:FnScope ["one","start","end","size","rules","head","tail"] ["one","start","end"] (defScope vZ):=⟨rfl,rfl,rfl,by decide+kernel,rfl,by decide+kernel,by decide+kernel⟩
abbrev yj:Stmt:=top 25
def Nb:He.DefD:=⟨("repeated",none),"repeated","repeated",defArgs yj,defBody yj,defScope yj,[],[]⟩
theorem HS:FnScope ["rules","name","many","rows","found"] ["rules","name","many"] (defScope yj):=⟨rfl,rfl,rfl,by decide+kernel,rfl,by decide+kernel,by decide+kernel⟩
abbrev Ek:Stmt:=top 34
def Ua:He.DefD:=⟨("turned",none),"turned","turned",defArgs Ek,defBody Ek,defScope Ek,[],[]⟩
theorem Qe:FnScope ["rules","name","rows","numbers","number","rule"] ["rules","name"] (defScope Ek):=⟨rfl,rfl,rfl,by decide+kernel,rfl,by decide+kernel,by decide+kernel⟩
abbrev wA:Stmt:=top 35
def HY:He.DefD:=⟨("otherwise",none),"otherwise","otherwise",defArgs wA,defBody wA,defScope wA,[],[]⟩
theorem Et:FnScope ["rules","name","sign","other","rows","numbers","number","rule"] ["rules","name","sign","other"] (defScope wA):=⟨rfl,rfl,rfl,by decide+kernel,rfl,by decide+kernel,by decide+kernel⟩
abbrev Gf:Stmt:=top 57
def TJ:He.DefD:=⟨("of_one",none),"of_one","of_one",defArgs Gf,defBody Gf,defScope Gf,[],[]⟩
theorem Qh:FnScope ["verb","one","values"] ["verb","one","values"] (defScope Gf):=⟨rfl,rfl,rfl,by decide+kernel,rfl,by decide+kernel,by decide+kernel⟩
abbrev wG:Stmt:=top 58
def HX:He.DefD:=⟨("made_text",none),"made_text","made_text",defArgs wG,defBody wG,defScope wG,[],[]⟩
theorem Fe:FnScope ["texts","deed","verb","new","values","rules","name"] ["texts","deed"] (defScope wG):=⟨rfl,rfl,rfl,by decide+kernel,rfl,by decide+kernel,by decide+kernel⟩
abbrev xR:Stmt:=top 60
def Mr:He.DefD:=⟨("texts_of",none),"texts_of","texts_of",defArgs xR,defBody xR,defScope xR,[],[]⟩
theorem Ig:FnScope ["text","texts","row","deed"] ["text"] (defScope xR):=⟨rfl,rfl,rfl,by decide+kernel,rfl,by decide+kernel,by decide+kernel⟩
abbrev Sq:Stmt:=top 61
def ace:He.DefD:=⟨("read",none),"read","read",defArgs Sq,defBody Sq,defScope Sq,[],[]⟩
theorem Zy:FnScope ["text","texts","rules","names","word","some","name"] ["text"] (defScope Sq):=⟨rfl,rfl,rfl,by decide+kernel,rfl,by decide+kernel,by decide+kernel⟩
abbrev qN:Stmt:=top 77
def zW:He.DefD:=⟨("_law_lengths",none),"_law_lengths","_law_lengths",defArgs qN,defBody qN,defScope qN,[],[]⟩
theorem yQ:FnScope ["_law_rules","_law_sizes","_law_rule","_law_size"] ["_law_rules"] (defScope qN):=⟨rfl,rfl,rfl,by decide+kernel,rfl,by decide+kernel,by decide+kernel⟩
abbrev uG:Stmt:=top 67
def Fw:He.DefD:=⟨("_law_verbs",none),"_law_verbs","_law_verbs",defArgs uG,defBody uG,defScope uG,[],[]⟩
theorem Cm:FnScope ["_law_cell","_law_some"] ["_law_cell"] (defScope uG):=⟨rfl,rfl,rfl,by decide+kernel,rfl,by decide+kernel,by decide+kernel⟩
abbrev vX:Stmt:=top 68
def Iz:He.DefD:=⟨("_law_word",none),"_law_word","_law_word",defArgs vX,defBody vX,defScope vX,[],[]⟩
theorem Gg:FnScope ["_law_cell","_law_k","_law_kind","_law_size","_law_word_here","_law_j","_law_step","_law_at"] ["_law_cell","_law_k"] (defScope vX):=⟨rfl,rfl,rfl,by decide+kernel,rfl,by decide+kernel,by decide+kernel⟩
abbrev uh:Stmt:=top 66
def Ew:He.DefD:=⟨("_law_place",none),"_law_place","_law_place",defArgs uh,defBody uh,defScope uh,[],[]⟩
theorem Cd:FnScope ["_law_cell","_law_size"] ["_law_cell","_law_size"] (defScope uh):=⟨rfl,rfl,rfl,by decide+kernel,rfl,by decide+kernel,by decide+kernel⟩
abbrev uE:Stmt:=top 72
def DR:He.DefD:=⟨("_law_inner",none),"_law_inner","_law_inner",defArgs uE,defBody uE,defScope uE,[],[]⟩
theorem Cg:FnScope ["_law_way","_law_one","_law_other","_law_cell","_law_sizes","_law_letters_here","_law_size","_law_start","_law_end"] ["_law_way","_law_one","_law_other","_law_cell","_law_sizes","_law_letters_here"] (defScope uE):=⟨rfl,rfl,rfl,by decide+kernel,rfl,by decide+kernel,by decide+kernel⟩
abbrev uz:Stmt:=top 70
def Eb:He.DefD:=⟨("_law_signs",none),"_law_signs","_law_signs",defArgs uz,defBody uz,defScope uz,[],[]⟩
theorem Cq:FnScope ["_law_cell","_law_letters_here","_law_most","_law_size","_law_signs_here","_law_k"] ["_law_cell","_law_letters_here","_law_most"] (defScope uz):=⟨rfl,rfl,rfl,by decide+kernel,rfl,by decide+kernel,by decide+kernel⟩
abbrev vY:Stmt:=top 71
def Ie:He.DefD:=⟨("_law_many",none),"_law_many","_law_many",defArgs vY,defBody vY,defScope vY,[],[]⟩
theorem DY:FnScope ["_law_cell","_law_size","_law_most","_law_many_here"] ["_law_cell","_law_size","_law_most"] (defScope vY):=⟨rfl,rfl,rfl,by decide+kernel,rfl,by decide+kernel,by decide+kernel⟩
abbrev vL:Stmt:=top 73
def Iv:He.DefD:=⟨("_law_deed",none),"_law_deed","_law_deed",defArgs vL,defBody vL,defScope vL,[],[]⟩
theorem Fl:FnScope ["_law_cell","_law_sizes","_law_letters_here","_law_most","_law_words","_law_way","_law_one","_law_other"] ["_law_cell","_law_sizes","_law_letters_here","_law_most"] (defScope vL):=⟨rfl,rfl,rfl,by decide+kernel,rfl,by decide+kernel,by decide+kernel⟩
abbrev qR:Stmt:=top 81
def zY:He.DefD:=⟨("_law_written",none),"_law_written","_law_written",defArgs qR,defBody qR,defScope qR,[],[]⟩
theorem yR:FnScope ["_law_deed_here","_law_texts","_law_one"] ["_law_deed_here","_law_texts"] (defScope qR):=⟨rfl,rfl,rfl,by decide+kernel,rfl,by decide+kernel,by decide+kernel⟩
abbrev uw:Stmt:=top 75
def Em:He.DefD:=⟨("_law_whole",none),"_law_whole","_law_whole",defArgs uw,defBody uw,defScope uw,[],[]⟩
theorem BZ:FnScope ["_law_found"] ["_law_found"] (defScope uw):=⟨rfl,rfl,rfl,by decide+kernel,rfl,by decide+kernel,by decide+kernel⟩
abbrev pA:Stmt:=top 76
def xO:He.DefD:=⟨("_law_good_rule",none),"_law_good_rule","_law_good_rule",defArgs pA,defBody pA,defScope pA,[],[]⟩
theorem vR:FnScope ["_law_rule","_law_k"] ["_law_rule","_law_k"] (defScope pA):=⟨rfl,rfl,rfl,by decide+kernel,rfl,by decide+kernel,by decide+kernel⟩
abbrev wB:Stmt:=top 78
def Ik:He.DefD:=⟨("_law_told",none),"_law_told","_law_told",defArgs wB,defBody wB,defScope wB,[],[]⟩
theorem Ed:FnScope ["_law_found","_law_words","_law_k","_law_pair","_law_word_here"] ["_law_found","_law_words"] (defScope wB):=⟨rfl,rfl,rfl,by decide+kernel,rfl,by decide+kernel,by decide+kernel⟩
abbrev uZ:Stmt:=top 74
def Ks:He.DefD:=⟨("_law_row",none),"_law_row","_law_row",defArgs uZ,defBody uZ,defScope uZ,[],[]⟩
theorem Im:FnScope ["_law_new","_law_deed_here","_law_part"] ["_law_new","_law_deed_here"] (defScope uZ):=⟨rfl,rfl,rfl,by decide+kernel,rfl,by decide+kernel,by decide+kernel⟩
abbrev rA:Stmt:=top 80
def Ao:He.DefD:=⟨("_law_sign_at",none),"_law_sign_at","_law_sign_at",defArgs rA,defBody rA,defScope rA,[],[]⟩
theorem yS:FnScope ["_law_rules","_law_sizes","_law_name","_law_place_here","_law_one"] ["_law_rules","_law_sizes","_law_name","_law_place_here"] (defScope rA):=⟨rfl,rfl,rfl,by decide+kernel,rfl,by decide+kernel,by decide+kernel⟩
abbrev tK:Stmt:=top 82
def Je:He.DefD:=⟨("_law_text",none),"_law_text","_law_text",defArgs tK,defBody tK,defScope tK,[],[]⟩
theorem FT:FnScope ["_law_rules","_law_sizes","_law_name","_law_place_here"] ["_law_rules","_law_sizes","_law_name"] (defScope tK):=⟨rfl,rfl,rfl,by decide+kernel,rfl,by decide+kernel,by decide+kernel⟩
abbrev Wn:Stmt:=top 83
def abZ:He.DefD:=⟨("law",none),"law","law",defArgs Wn,defBody Wn,defScope Wn,[],[]⟩
theorem acO:FnScope ["_law_script","_law_draws_here","_law_words","_law_letters_here","_law_texts","_law_sizes","_law_rows","_law_cell","_law_found","_law_longs","_law_word_here","_law_name","_law_new","_law_deed_here","_law_k"] ["_law_script"] (defScope Wn):=⟨rfl,rfl,rfl,by decide+kernel,rfl,by decide+kernel,by decide+kernel⟩
def fa:List He.Fa:=[.free "len", .glo "_law_mixed", .free "list", .free "range", .free "min", .free "max", .glo "_law_draws", .glo "_law_sign_by", .glo "_law_letters", .glo "kinds_of", .str "SIGNS" "0123456789ABCDEFGHIJKLMNOPQRSTUVWXYZabcdefghijklmnopqrstuvwxyz", .free "isinstance", .free "str", .glo "is_sign", .glo "signs_of", .int "WORD" 8, .str "LETTERS" "abcdefghijklmnopqrstuvwxyz", .glo "is_word", .int "NUMBER" 19, .str "FIGURES" "0123456789", .free "int", .glo "number_of", .int "MOST" 1152921504606846976, .int "PATTERN" 12, .int "WRITTEN" 40, .glo "value_of", .free "zip", .glo "values_of", .glo "statement_of", .exc "NoWord", .glo "NoWord", .glo "ask_standing", .exc "NoName", .glo "NoName", .glo "named", .glo "parts_of", .free "sorted", .glo "needed", .glo "renamed", .glo "put", .free "tuple", .glo "tidy", .glo "spelled_rules", .glo "brought", .glo "side_by_side", .glo "linked", .glo "size_of", .glo "lengths", .glo "length", .exc "TooLong", .glo "TooLong", .glo "joined", .glo "over", .free "reversed", .glo "ending", .glo "beginning", .glo "across", .exc "NoPlace", .glo "NoPlace", .glo "cut", .glo "put_in", .glo "of_two", .glo "taken_out", .glo "repeated", .glo "turned", .glo "otherwise", .glo "of_one", .glo "made_text", .exc "NoText", .glo "NoText", .glo "texts_of", .glo "read", .glo "_law_lengths", .glo "_law_verbs", .glo "_law_word", .glo "_law_place", .glo "_law_inner", .glo "_law_signs", .glo "_law_many", .glo "_law_deed", .glo "_law_written", .free "bool", .glo "_law_whole", .glo "_law_good_rule", .glo "_law_told", .glo "_law_row", .glo "_law_sign_at", .glo "_law_text", .glo "law"]
def fn:List He.DefD:=[Fb,Es,uU,zK,JZ,Qw,Ka,Qy,Jc,La,Jh,Ab,Am,ZQ,Nu,Vp,PB,aeK,abn,zq,Pj,Ar,Vi,Qq,O5,TF,Uj,ac0,Uo,Ib,V3,aeM,Uw,VP,Jg,Nb,Ua,HY,TJ,HX,Mr,ace,zW,Fw,Iz,Ew,DR,Eb,Ie,Iv,zY,Em,xO,Ik,Ks,Ao,Je,abZ]
theorem R6{P:Program}{w:World}{K:ao}{mg:Str→Option Value}{base:Heap}(Z:nR fa fn K mg)(Zx:qH xs K mg):Has P w K mg base "_law_mixed" 1 ["_law_cells","_law_k"] (qL K [.dat, .dat] .dat mK):=by
 have nd:(["_law_cells","_law_k","_law_number"]:List Str).Nodup:=Ca.nd
 refine iw (d:=Fb) (N:=["_law_cells","_law_k","_law_number"]) (n:=1) (k:=0) Z 0 1 rfl rfl rfl rfl rfl Ca rfl rfl (.inl rfl) (fun _ _ _ _ _ _ us hl=>match us,hl with|[_,_],_=>rfl) (fun f cdv A outer s H E hr tk hp=> ?_)
 exact(eU (gh (fU tL tM (d8 (eO 1)) (d8 (gA jf jc (Z.free 0) PySem.boot_len (eG (d8 (eO 0)) fB)))) (eY (fW (fH iK iQ (d8 (fH lX lW (d8 (fO (d8 (eO 0)) (d8 (eO 1)))) (d8 eX))) (d8 (fH vB ne_pow (d8 eX) (d8 eX)))))) fQ)
 (eU (fY (i:=2) nd (fH iY jd (d8 (fH lX lW (d8 (fH lX lW (d8 (eO 1)) (d8 (eO 1)))) (d8 eX))) (d8 eX)))
 (eU (gh (fU yV zu (d8 (gA jf jc (Z.free 0) PySem.boot_len (eG (d8 (eO 0)) fB))) (d8 eX)) (eY (fY (i:=2) nd (fH iY jd (d8 (eO 2)) (d8 (fH lX lW (d8 (fH iK iQ (d8 (fO (d8 (eO 0)) (d8 (fH iK iQ (d8 (fH lX lW (d8 (eO 1)) (d8 eX))) (d8 (gA jf jc (Z.free 0) PySem.boot_len (eG (d8 (eO 0)) fB))))))) (d8 (fH vB ne_pow (d8 eX) (d8 eX))))) (d8 (fH iY jd (d8 eX) (d8 (fH lX lW (d8 eX) (d8 (eO 1))))))))))) fQ)
 (eU (fY (i:=2) nd (fH iK iQ (d8 (fH lX lW (d8 (eO 2)) (d8 (eO 2)))) (d8 eX)))
 (eU (fY (i:=2) nd (fH iK iQ (d8 (fH lX lW (d8 (fH iY jd (d8 (fH iY jd (d8 (eO 2)) (d8 (fH lX lW (d8 (fH lX lW (d8 (eO 1)) (d8 (eO 1)))) (d8 (eO 1)))))) (d8 eX))) (d8 (fH iY jd (d8 (eO 2)) (d8 eX))))) (d8 eX)))
 (eY (fW (fH iK iQ (d8 (fH lX lW (d8 (eO 2)) (d8 eX))) (d8 (fH vB ne_pow (d8 eX) (d8 eX)))))))))))
theorem RM{P:Program}{w:World}{K:ao}{mg:Str→Option Value}{base:Heap}(Z:nR fa fn K mg)(Zx:qH xs K mg):Has P w K mg base "_law_draws" 2 ["_law_script","_law_ahead_of","_law_most"] (qL K [.dat, .dat, .dat] .new ug):=by
 have nd:(["_law_script","_law_ahead_of","_law_most","_law_cells","_law_many_here","_law_draws_here","_law_k"]:List Str).Nodup:=Ci.nd
 refine iw (d:=Es) (N:=["_law_script","_law_ahead_of","_law_most","_law_cells","_law_many_here","_law_draws_here","_law_k"]) (n:=4) (k:=1) Z 1 6 rfl rfl rfl rfl rfl Ci rfl rfl (.inr (mV (mV Ma))) (fun _ _ _ _ _ _ us hl=>match us,hl with|[_,_,_],_=>rfl) (fun f cdv A outer s H E hr tk hp=> ?_)
 exact(eU (jL (i:=3) nd (jK yD yK (Z.free 2) (by decide+kernel) (eG (d8 (eO 0)) fB)))
 (eU (gh (fU yV zu (d8 (gA jf jc (Z.free 0) PySem.boot_len (eG (jB 3) fB))) (d8 eX)) (eU (fY (i:=4) nd (fH iY jd (d8 (eO 1)) (d8 (fH iK iQ (d8 (fO (jB 3) (d8 eX))) (d8 (fH iY jd (d8 (fH oH oG (d8 (eO 2)) (d8 (eO 1)))) (d8 eX)))))))
 (eU (Zg 3 (d8 eX) (fH jW jX (d8 (fO (jB 3) (d8 eX))) (d8 (fH iY jd (d8 (fH oH oG (d8 (eO 2)) (d8 (eO 1)))) (d8 eX)))))
 (eU (jL (i:=5) nd (j7 fB))
 (eU (lE hp (Fx (Z.free 3) (d8 (eO 4))) (j8 6 nd) (eU (rP (i:=5) (fH iK iQ (d8 (fO (jB 3) (d8 (fH iK iQ (d8 (eO 6)) (d8 (gA jf jc (Z.free 0) PySem.boot_len (eG (jB 3) fB))))))) (d8 (fH vB ne_pow (d8 eX) (d8 eX)))))
 (eY (Zg 3 (d8 (fH iK iQ (d8 (eO 6)) (d8 (gA jf jc (Z.free 0) PySem.boot_len (eG (jB 3) fB))))) (fH jW jX (d8 (fO (jB 3) (d8 (fH iK iQ (d8 (eO 6)) (d8 (gA jf jc (Z.free 0) PySem.boot_len (eG (jB 3) fB))))))) (d8 (fH vB ne_pow (d8 eX) (d8 eX))))))))
 (eY (gh (fU yV zu (d8 (gA (adg rfl) aef (Z.free 4) (by decide+kernel) (eG (jB 3) fB))) (d8 eX)) (eY (Dz 5)) fQ)))))) fQ)
 (eY (fW (Y6 (own:=[("_law_k",6)]) nd (Gx (Fx (Z.free 3) (d8 (gA (W3 rfl) XF (Z.free 5) (by decide+kernel) (eG (d8 (eO 1)) (eG (d8 (gA (QM rfl) Sw (Z.free 4) (by decide+kernel) (eG (d8 (eO 2)) (eG (d8 (gA jf jc (Z.free 0) PySem.boot_len (eG (d8 (eO 0)) fB))) fB)))) fB)))))) (blkOk_by (own:=[("_law_k",6)]) (N:=["_law_script","_law_ahead_of","_law_most","_law_cells","_law_many_here","_law_draws_here","_law_k"]) (sc:=defScope rD) (by decide+kernel)) (Pg 6) (fun _ _ _ _ _=>pg_name (i:=6) nd rfl (Or.inl rfl)) (fun _ _ _ _ _=>BV) (fun _ _ _ _ _=>(gJ (R6 Z Zx) hr takes0 (eG (eO 0) (eG (eO 6) fB)))))))))
theorem Ad{P:Program}{w:World}{K:ao}{mg:Str→Option Value}{base:Heap}(Z:nR fa fn K mg)(Zx:qH xs K mg):Has P w K mg base "_law_sign_by" 1 ["_law_cell"] (qL K [.dat] .dat jQ):=by
 have nd:(["_law_cell"]:List Str).Nodup:=tV.nd
 refine iw (d:=uU) (N:=["_law_cell"]) (n:=0) (k:=0) Z 2 7 rfl rfl rfl rfl rfl tV rfl rfl (.inl rfl) (fun _ _ _ _ _ _ us hl=>match us,hl with|[_],_=>rfl) (fun f cdv A outer s H E hr tk hp=> ?_)
 exact(eY (fW (fO (d8 fV) (d8 (fH iK iQ (d8 (eO 0)) (d8 eX))))))
theorem Jt{P:Program}{w:World}{K:ao}{mg:Str→Option Value}{base:Heap}(Z:nR fa fn K mg):ZL P w K mg base 1 (He.ga K "_law_sign_by") "0123456789ABCDEFGHIJKLMNOPQRSTUVWXYZabcdefghijklmnopqrstuvwxyz" 62:=afA (d:=uU) Z 2 rfl rfl rfl rfl tV (fun _ _ _ _ _ _ us hl=>match us,hl with|[_],_=>rfl) rfl
theorem K9{P:Program}{w:World}{K:ao}{mg:Str→Option Value}{base:Heap}(Z:nR fa fn K mg)(Zx:qH xs K mg):Has P w K mg base "_law_letters" 2 ["_law_cell"] (qL K [.dat] .dat vH):=by
 have nd:(["_law_cell","_law_many_here","_law_step","_law_k"]:List Str).Nodup:=yW.nd
 refine iw (d:=zK) (N:=["_law_cell","_law_many_here","_law_step","_law_k"]) (n:=3) (k:=1) Z 3 8 rfl rfl rfl rfl rfl yW rfl rfl (.inl rfl) (fun _ _ _ _ _ _ us hl=>match us,hl with|[_],_=>rfl) (fun f cdv A outer s H E hr tk hp=> ?_)
 exact(eU (fY (i:=1) nd (fO (qp (j7 (eG eX (eG eX (eG eX (eG eX (eG eX fB))))))) (d8 (fH iK iQ (d8 (eO 0)) (d8 eX)))))
 (eU (fY (i:=2) nd (fH iY jd (d8 eX) (d8 (fH iK iQ (d8 (fH jW jX (d8 (eO 0)) (d8 eX))) (d8 eX)))))
 (eY (fW (JH (d8 fV) (qp (Y6 (own:=[("_law_k",3)]) nd (Gx (Fx (Z.free 3) (d8 (eO 1)))) (blkOk_by (own:=[("_law_k",3)]) (N:=["_law_cell","_law_many_here","_law_step","_law_k"]) (sc:=defScope o8) (by decide+kernel)) (Pg 3) (fun _ _ _ _ _=>pg_name (i:=3) nd rfl (Or.inl rfl)) (fun _ _ _ _ _=>BV) (fun _ _ _ _ _=>(gJ (Ad Z Zx) hr takes0 (eG (fH iY jd (d8 (fH jW jX (d8 (eO 0)) (d8 eX))) (d8 (fH lX lW (d8 (eO 2)) (d8 (eO 3))))) fB))))))))))
theorem Nr{P:Program}{w:World}{K:ao}{mg:Str→Option Value}{base:Heap}(Z:nR fa fn K mg)(Zx:qH xs K mg):Has P w K mg base "kinds_of" 1 ["verb"] (qL K [.dat] .dat uQ):=by
 have nd:(["verb"]:List Str).Nodup:=IK.nd
 refine iw (d:=JZ) (N:=["verb"]) (n:=0) (k:=0) Z 4 9 rfl rfl rfl rfl rfl IK rfl rfl (.inl rfl) (fun _ _ _ _ _ _ us hl=>match us,hl with|[_],_=>rfl) (fun f cdv A outer s H E hr tk hp=> ?_)
 exact(eU (gh (fU (g8 hr.units) ne_eq (d8 (eO 0)) (d8 fV)) (eY (fW (m9 (j7 (eG fV fB))))) fQ)
 (eU (gh (fU (g8 hr.units) ne_eq (d8 (eO 0)) (d8 fV)) (eY (fW (m9 (j7 (eG fV (eG fV fB)))))) fQ)
 (eU (gh (fU (g8 hr.units) ne_eq (d8 (eO 0)) (d8 fV)) (eY (fW (m9 (j7 (eG fV (eG fV fB)))))) fQ)
 (eU (gh (fU (g8 hr.units) ne_eq (d8 (eO 0)) (d8 fV)) (eY (fW (m9 (j7 (eG fV fB))))) fQ)
 (eU (gh (fU (g8 hr.units) ne_eq (d8 (eO 0)) (d8 fV)) (eY (fW (m9 (j7 (eG fV (eG fV (eG fV fB))))))) fQ)
 (eU (gh (fU (g8 hr.units) ne_eq (d8 (eO 0)) (d8 fV)) (eY (fW (m9 (j7 (eG fV (eG fV (eG fV fB))))))) fQ)
 (eU (gh (wI (qd (fU (g8 hr.units) ne_eq (d8 (eO 0)) (d8 fV)) (rB (fU (g8 hr.units) ne_eq (d8 (eO 0)) (d8 fV))))) (eY (fW (m9 (j7 (eG fV (eG fV (eG fV fB))))))) fQ)
 (eY (fW jY)))))))))
theorem aal{P:Program}{w:World}{K:ao}{mg:Str→Option Value}{base:Heap}(Z:nR fa fn K mg)(Zx:qH xs K mg):Has P w K mg base "is_sign" 1 ["thing"] (qL K [.dat] .dat rY):=by
 have nd:(["thing"]:List Str).Nodup:=KZ.nd
 refine iw (d:=Qw) (N:=["thing"]) (n:=0) (k:=0) Z 5 13 rfl rfl rfl rfl rfl KZ rfl rfl (.inl rfl) (fun _ _ _ _ _ _ us hl=>match us,hl with|[_],_=>rfl) (fun f cdv A outer s H E hr tk hp=> ?_)
 exact(eY (fW (GD (d8 (vD "str" PyProof.Rows.boot_str JD (Z.free 11) (Z.free 12) (d8 (eO 0)))) (GD (d8 (yg (g8 hr.units) ne_eq (d8 (gA jf jc (Z.free 0) PySem.boot_len (eG (d8 (eO 0)) fB))) (d8 eX))) (G3 (yg afv (Yp _) (d8 (eO 0)) (d8 (QG (Z.str 10)))))))))
theorem CW{P:Program}{w:World}{K:ao}{mg:Str→Option Value}{base:Heap}(Z:nR fa fn K mg)(Zx:qH xs K mg):Has P w K mg base "signs_of" 2 ["text","most"] (qL K [.dat, .dat] .dat rZ):=by
 have nd:(["text","most","sign"]:List Str).Nodup:=Io.nd
 refine iw (d:=Ka) (N:=["text","most","sign"]) (n:=1) (k:=1) Z 6 14 rfl rfl rfl rfl rfl Io rfl rfl (.inl rfl) (fun _ _ _ _ _ _ us hl=>match us,hl with|[_,_],_=>rfl) (fun f cdv A outer s H E hr tk hp=> ?_)
 exact(eU (gh (mW (tH tO tO sW sW (d8 eX) (d8 (gA jf jc (Z.free 0) PySem.boot_len (eG (d8 (eO 0)) fB))) (d8 (eO 1)))) (eY (fW jY)) fQ)
 (eU (lE hp (ael (eO 0)) (j8 2 nd) (eY (gh (mW (qD (d8 (gJ (aal Z Zx) hr tk (eG (eO 2) fB))))) (eY (fW jY)) fQ)))
 (eY (fW (eO 0)))))
theorem Qi{P:Program}{w:World}{K:ao}{mg:Str→Option Value}{base:Heap}(Z:nR fa fn K mg)(Zx:qH xs K mg):Has P w K mg base "is_word" 1 ["text"] (qL K [.dat] .dat Be):=by
 have nd:(["text","sign"]:List Str).Nodup:=Kc.nd
 refine iw (d:=Qy) (N:=["text","sign"]) (n:=1) (k:=0) Z 7 17 rfl rfl rfl rfl rfl Kc rfl rfl (.inl rfl) (fun _ _ _ _ _ _ us hl=>match us,hl with|[_],_=>rfl) (fun f cdv A outer s H E hr tk hp=> ?_)
 exact(eU (gh (mW (tH tO tO sW sW (d8 eX) (d8 (gA jf jc (Z.free 0) PySem.boot_len (eG (d8 (eO 0)) fB))) (d8 (yd (Z.int 15))))) (eY (fW wu)) fQ)
 (eU (lE hp (ael (eO 0)) (j8 1 nd) (eY (gh (fU PN (Yp _) (d8 (eO 1)) (d8 (QG (Z.str 16)))) (eY (fW wu)) fQ)))
 (eY (fW wu))))
theorem Ih{P:Program}{w:World}{K:ao}{mg:Str→Option Value}{base:Heap}(Z:nR fa fn K mg)(Zx:qH xs K mg):Has P w K mg base "number_of" 1 ["text","most"] (qL K [.dat, .dat] .dat wj):=by
 have nd:(["text","most","sign","number"]:List Str).Nodup:=Fj.nd
 refine iw (d:=Jc) (N:=["text","most","sign","number"]) (n:=2) (k:=0) Z 8 21 rfl rfl rfl rfl rfl Fj rfl rfl (.inl rfl) (fun _ _ _ _ _ _ us hl=>match us,hl with|[_,_],_=>rfl) (fun f cdv A outer s H E hr tk hp=> ?_)
 exact(eU (gh (wI (qd (mW (tH tO tO sW sW (d8 eX) (d8 (gA jf jc (Z.free 0) PySem.boot_len (eG (d8 (eO 0)) fB))) (d8 (yd (Z.int 18))))) (rB (wI (CQ (fU yV zu (d8 (gA jf jc (Z.free 0) PySem.boot_len (eG (d8 (eO 0)) fB))) (d8 eX)) (yq (fU (g8 hr.units) ne_eq (d8 (fO (d8 (eO 0)) (d8 eX))) (d8 fV)))))))) (eY (fW jY)) fQ)
 (eU (lE hp (ael (eO 0)) (j8 2 nd) (eY (gh (fU PN (Yp _) (d8 (eO 2)) (d8 (QG (Z.str 19)))) (eY (fW jY)) fQ)))
 (eU (fY (i:=3) nd (jK adK ad4 (Z.free 20) (by decide+kernel) (eG (d8 (eO 0)) fB)))
 (eU (gh (fU yV zu (d8 (eO 3)) (d8 (eO 1))) (eY (fW jY)) fQ)
 (eY (fW (eO 3)))))))
theorem Yj{P:Program}{w:World}{K:ao}{mg:Str→Option Value}{base:Heap}(Z:nR fa fn K mg)(Zx:qH xs K mg):Has P w K mg base "value_of" 3 ["kind","word"] (qL K [.dat, .dat] .dat jo):=by
 have nd:(["kind","word"]:List Str).Nodup:=Ij.nd
 refine iw (d:=La) (N:=["kind","word"]) (n:=0) (k:=2) Z 9 25 rfl rfl rfl rfl rfl Ij rfl rfl (.inl rfl) (fun _ _ _ _ _ _ us hl=>match us,hl with|[_,_],_=>rfl) (fun f cdv A outer s H E hr tk hp=> ?_)
 exact(eU (gh (fU (g8 hr.units) ne_eq (d8 (eO 0)) (d8 fV)) (eU (gh (qD (d8 (gJ (Qi Z Zx) hr tk (eG (eO 1) fB)))) (eY (fW (eO 1))) fQ)
 (eY (fW jY))) fQ)
 (eU (gh (fU (g8 hr.units) ne_eq (d8 (eO 0)) (d8 fV)) (eY (fW (gJ (Ih Z Zx) hr tk (eG (eO 1) (eG (fH vB ne_pow (d8 eX) (d8 eX)) fB))))) fQ)
 (eU (gh (fU (g8 hr.units) ne_eq (d8 (eO 0)) (d8 fV)) (eY (fW (gJ (Ih Z Zx) hr tk (eG (eO 1) (eG (yd (Z.int 22)) fB))))) fQ)
 (eU (gh (fU (g8 hr.units) ne_eq (d8 (eO 0)) (d8 fV)) (eY (fW (gJ (CW Z Zx) hr tk (eG (eO 1) (eG eX fB))))) fQ)
 (eU (gh (fU (g8 hr.units) ne_eq (d8 (eO 0)) (d8 fV)) (eY (fW (gJ (CW Z Zx) hr tk (eG (eO 1) (eG (yd (Z.int 23)) fB))))) fQ)
 (eY (fW (gJ (CW Z Zx) hr tk (eG (eO 1) (eG (yd (Z.int 24)) fB))))))))))
theorem Vl{P:Program}{w:World}{K:ao}{mg:Str→Option Value}{base:Heap}(Z:nR fa fn K mg)(Zx:qH xs K mg):Has P w K mg base "values_of" 4 ["kinds","words"] (qL K [.dat, .dat] .dat Ax):=by
 have nd:(["kinds","words","values","kind","word","value"]:List Str).Nodup:=Gq.nd
 refine iw (d:=Jh) (N:=["kinds","words","values","kind","word","value"]) (n:=4) (k:=3) Z 10 27 rfl rfl rfl rfl rfl Gq rfl rfl (.inl rfl) (fun _ _ _ _ _ _ us hl=>match us,hl with|[_,_],_=>rfl) (fun f cdv A outer s H E hr tk hp=> ?_)
 exact(eU (gh (fU (yO hr.units) yP (d8 (gA jf jc (Z.free 0) PySem.boot_len (eG (d8 (eO 0)) fB))) (d8 (gA jf jc (Z.free 0) PySem.boot_len (eG (d8 (eO 1)) fB)))) (eY (fW jY)) fQ)
 (eU (jL (i:=2) nd (j7 fB))
 (eU (lE hp (afE (Z.free 26) (eG (eO 0) (eG (eO 1) fB))) (zE (gQ (j8 3 nd) (gQ (j8 4 nd) mF))) (eU (fY (i:=5) nd (gJ (Yj Z Zx) hr tk (eG (eO 3) (eG (eO 4) fB))))
 (eU (gh (fU yU ne_is (d8 (eO 5)) (d8 jY)) (eY (fW jY)) fQ)
 (eY (rP (i:=2) (eO 5))))))
 (eY (adq 2)))))
theorem Lw{P:Program}{w:World}{K:ao}{mg:Str→Option Value}{base:Heap}(Z:nR fa fn K mg)(Zx:qH xs K mg):Has P w K mg base "statement_of" 5 ["row"] (qL K [.dat] .dat rH):=by
 have nd:(["row","words","kinds","values"]:List Str).Nodup:=zj.nd
 refine iw (d:=Ab) (N:=["row","words","kinds","values"]) (n:=3) (k:=4) Z 11 28 rfl rfl rfl rfl rfl zj rfl rfl (.inl rfl) (fun _ _ _ _ _ _ us hl=>match us,hl with|[_],_=>rfl) (fun f cdv A outer s H E hr tk hp=> ?_)
 exact(eU (fY (i:=1) nd (m9 (V1 (d8 (eO 0)) (d8 fV))))
 (eU (gh (wI (qd (fU tL tM (d8 (gA jf jc (Z.free 0) PySem.boot_len (eG (d8 (eO 1)) fB))) (d8 eX)) (rB (mW (qD (d8 (gJ (Qi Z Zx) hr tk (eG (fO (d8 (eO 1)) (d8 eX)) fB)))))))) (eY (fW jY)) fQ)
 (eU (fY (i:=2) nd (gJ (Nr Z Zx) hr tk (eG (fO (d8 (eO 1)) (d8 eX)) fB)))
 (eU (gh (fU yU ne_is (d8 (eO 2)) (d8 jY)) (eY (fW jY)) fQ)
 (eU (fY (i:=3) nd (gJ (Vl Z Zx) hr tk (eG (eO 2) (eG (N7 (d8 (eO 1)) (vK (d8 eX)) BP) fB))))
 (eU (gh (fU yU ne_is (d8 (eO 3)) (d8 jY)) (eY (fW jY)) fQ)
 (eY (fW (jH (eG (fO (d8 (eO 1)) (d8 eX)) (eG (fO (d8 (eO 1)) (d8 eX)) (eG (eO 3) fB))))))))))))
theorem J5{P:Program}{w:World}{K:ao}{mg:Str→Option Value}{base:Heap}(Z:nR fa fn K mg)(Zx:qH xs K mg):Has P w K mg base "ask_standing" 1 ["texts","kinds","values"] (qL K [.bor, .dat, .dat] .dat vG):=by
 have nd:(["texts","kinds","values","kind","value"]:List Str).Nodup:=yZ.nd
 refine iw (d:=Am) (N:=["texts","kinds","values","kind","value"]) (n:=2) (k:=0) Z 12 31 rfl rfl rfl rfl rfl yZ rfl rfl (.inl rfl) (fun _ _ _ _ _ _ us hl=>match us,hl with|[_,_,_],_=>rfl) (fun f cdv A outer s H E hr tk hp=> ?_)
 exact(eY (lE hp (afE (Z.free 26) (eG (eO 1) (eG (eO 2) fB))) (zE (gQ (j8 3 nd) (gQ (j8 4 nd) mF))) (eY (gh (wI (CQ (fU (g8 hr.units) ne_eq (d8 (eO 3)) (d8 fV)) (yq (fU (aan hr.units) (abf _) (d8 (eO 4)) (jB 0))))) (eY (xM tk (Z.exc 29) (Z.glo 30))) fQ))))
theorem Gj{P:Program}{w:World}{K:ao}{mg:Str→Option Value}{base:Heap}(Z:nR fa fn K mg)(Zx:qH xs K mg):Has P w K mg base "named" 1 ["rules","name"] (qL K [.dat, .dat] .dat qQ):=by
 have nd:(["rules","name"]:List Str).Nodup:=Wd.nd
 refine iw (d:=ZQ) (N:=["rules","name"]) (n:=0) (k:=0) Z 13 34 rfl rfl rfl rfl rfl Wd rfl rfl (.inl rfl) (fun _ _ _ _ _ _ us hl=>match us,hl with|[_,_],_=>rfl) (fun f cdv A outer s H E hr tk hp=> ?_)
 exact(eY (gh (wI (CQ (fU Ut VH (d8 (eO 1)) (d8 jY)) (yq (mW (tH tO tL sW tM (d8 eX) (d8 (eO 1)) (d8 (gA jf jc (Z.free 0) PySem.boot_len (eG (d8 (eO 0)) fB)))))))) (eY (xM tk (Z.exc 32) (Z.glo 33))) fQ))
theorem XD{P:Program}{w:World}{K:ao}{mg:Str→Option Value}{base:Heap}(Z:nR fa fn K mg)(Zx:qH xs K mg):Has P w K mg base "parts_of" 1 ["rule"] (qL K [.dat] .new nQ):=by
 have nd:(["rule"]:List Str).Nodup:=Ir.nd
 refine iw (d:=Nu) (N:=["rule"]) (n:=0) (k:=0) Z 14 35 rfl rfl rfl rfl rfl Ir rfl rfl (.inr (mV (mV Ma))) (fun _ _ _ _ _ _ us hl=>match us,hl with|[_],_=>rfl) (fun f cdv A outer s H E hr tk hp=> ?_)
 exact(eU (gh (fU (g8 hr.units) ne_eq (d8 (fO (d8 (eO 0)) (d8 eX))) (d8 fV)) (eY (fW (j7 fB))) fQ)
 (eU (gh (fU (g8 hr.units) ne_eq (d8 (fO (d8 (eO 0)) (d8 eX))) (d8 fV)) (eY (fW (j7 (eG (fO (d8 (eO 0)) (d8 eX)) (eG (fO (d8 (eO 0)) (d8 eX)) fB))))) fQ)
 (eY (fW (j7 (eG (fO (d8 (eO 0)) (d8 eX)) fB))))))
theorem NQ{P:Program}{w:World}{K:ao}{mg:Str→Option Value}{base:Heap}(Z:nR fa fn K mg)(Zx:qH xs K mg):Has P w K mg base "needed" 2 ["rules","name"] (qL K [.dat, .dat] .new nj):=by
 have nd:(["rules","name","seen","number","part"]:List Str).Nodup:=Pr.nd
 refine iw (d:=Vp) (N:=["rules","name","seen","number","part"]) (n:=3) (k:=1) Z 15 37 rfl rfl rfl rfl rfl Pr rfl rfl (.inr (mV (mV (mV Ma)))) (fun _ _ _ _ _ _ us hl=>match us,hl with|[_,_],_=>rfl) (fun f cdv A outer s H E hr tk hp=> ?_)
 exact(eU (gh (fU yU ne_is (d8 (eO 1)) (d8 jY)) (eY (fW (j7 fB))) fQ)
 (eU (jL (i:=2) nd (agb (d8 (eO 1)) wu))
 (eU (lE hp (agd (Z.free 3) (eG (d8 (eO 1)) (eG (d8 (Xa (d8 eX))) (eG (d8 (Xa (d8 eX))) fB)))) (j8 3 nd) (eY (gh (fU (afr hr.units) (abf _) (d8 (eO 3)) (jB 2)) (eY (lE hp (U5 (m9 (gJ (XD Z Zx) hr tk (eG (fO (d8 (eO 0)) (d8 (eO 3))) fB)))) (j8 4 nd) (eY (xU 2 hr.units (d8 (eO 4)) wu)))) fQ)))
 (eY (fW (abM (Z.free 36) (jB 2)))))))
theorem Bv{P:Program}{w:World}{K:ao}{mg:Str→Option Value}{base:Heap}(Z:nR fa fn K mg)(Zx:qH xs K mg):Has P w K mg base "renamed" 1 ["rule","numbers"] (qL K [.dat, .bor] .dat lA):=by
 have nd:(["rule","numbers"]:List Str).Nodup:=Nf.nd
 refine iw (d:=PB) (N:=["rule","numbers"]) (n:=0) (k:=0) Z 16 38 rfl rfl rfl rfl rfl Nf rfl rfl (.inl rfl) (fun _ _ _ _ _ _ us hl=>match us,hl with|[_,_],_=>rfl) (fun f cdv A outer s H E hr tk hp=> ?_)
 exact(eU (gh (fU (g8 hr.units) ne_eq (d8 (fO (d8 (eO 0)) (d8 eX))) (d8 fV)) (eY (fW (eO 0))) fQ)
 (eU (gh (fU (g8 hr.units) ne_eq (d8 (fO (d8 (eO 0)) (d8 eX))) (d8 fV)) (eY (fW (jH (eG fV (eG (Wt hr.units (jB 1) (d8 (fO (d8 (eO 0)) (d8 eX)))) (eG (Wt hr.units (jB 1) (d8 (fO (d8 (eO 0)) (d8 eX)))) fB)))))) fQ)
 (eY (fW (jH (eG fV (eG (Wt hr.units (jB 1) (d8 (fO (d8 (eO 0)) (d8 eX)))) (eG (fO (d8 (eO 0)) (d8 eX)) fB))))))))
theorem Vy{P:Program}{w:World}{K:ao}{mg:Str→Option Value}{base:Heap}(Z:nR fa fn K mg)(Zx:qH xs K mg):Has P w K mg base "put" 1 ["rows","rule"] (O2 K 1 tQ):=by
 have nd:(["rows","rule"]:List Str).Nodup:=acI.nd
 refine Hv (d:=aeK) (N:=["rows","rule"]) (n:=0) (k:=0) Z 17 39 rfl rfl rfl rfl rfl acI rfl rfl (fun _ _ _ _ _ _ us hl=>match us,hl with|[_,_],_=>rfl) (fun pp f cdv A outer s H E hr tk hp=> ?_)
 exact(eU (rP (i:=0) (eO 1))
 (eY (xY (fH oH oG (d8 (gA jf jc (Z.free 0) PySem.boot_len (eG (jB 0) fB))) (d8 eX)))))
theorem ae6{P:Program}{w:World}{K:ao}{mg:Str→Option Value}{base:Heap}(Z:nR fa fn K mg)(Zx:qH xs K mg):Has P w K mg base "tidy" 3 ["rules","name"] (qL K [.dat, .dat] .dat Ht):=by
 have nd:(["rules","name","rows","kept","numbers","number","rule"]:List Str).Nodup:=Yw.nd
 refine iw (d:=abn) (N:=["rules","name","rows","kept","numbers","number","rule"]) (n:=5) (k:=2) Z 18 41 rfl rfl rfl rfl rfl Yw rfl rfl (.inl rfl) (fun _ _ _ _ _ _ us hl=>match us,hl with|[_,_],_=>rfl) (fun f cdv A outer s H E hr tk hp=> ?_)
 exact(eU (xW (gJ (Gj Z Zx) hr tk (eG (eO 0) (eG (eO 1) fB))))
 (eU (jL (i:=2) nd (j7 fB))
 (eU (jL (i:=3) nd adL)
 (eU (jL (i:=4) nd Bs)
 (eU (lE hp (U5 (m9 (gJ (NQ Z Zx) hr tk (eG (eO 0) (eG (eO 1) fB))))) (j8 5 nd) (eU (fY (i:=6) nd (gJ (Bv Z Zx) hr tk (eG (fO (d8 (eO 0)) (d8 (eO 5))) (eG (jB 4) fB))))
 (eU (gh (fU (aaQ hr.units) (afT _) (d8 (eO 6)) (jB 3)) (eY (abx 3 hr.units (d8 (eO 6)) (t7 2 (Vy Z Zx) hr tk (eG (eO 6) fB)))) fQ)
 (eY (xU 4 hr.units (d8 (eO 5)) (ad1 hr.units (jB 3) (d8 (eO 6))))))))
 (eY (fW (jH (eG (jK pO pZ (Z.free 40) (by decide+kernel) (eG (jB 2) fB)) (eG (Ls hr.units (jB 4) (d8 (eO 1))) fB))))))))))
theorem Jp{P:Program}{w:World}{K:ao}{mg:Str→Option Value}{base:Heap}(Z:nR fa fn K mg)(Zx:qH xs K mg):Has P w K mg base "spelled_rules" 1 ["signs"] (qL K [.dat] .dat qw):=by
 have nd:(["signs","rules","names","sign","above","at"]:List Str).Nodup:=wX.nd
 refine iw (d:=zq) (N:=["signs","rules","names","sign","above","at"]) (n:=5) (k:=0) Z 19 42 rfl rfl rfl rfl rfl wX rfl rfl (.inl rfl) (fun _ _ _ _ _ _ us hl=>match us,hl with|[_],_=>rfl) (fun f cdv A outer s H E hr tk hp=> ?_)
 exact(eU (fY (i:=1) nd (jH fB))
 (eU (jL (i:=2) nd (j7 fB))
 (eU (lE hp (ael (eO 0)) (j8 3 nd) (eU (rP (i:=2) (gA jf jc (Z.free 0) PySem.boot_len (eG (d8 (eO 1)) fB)))
 (eY (fY (i:=1) nd (fH iY jd (d8 (eO 1)) (d8 (jH (eG (jH (eG fV (eG (eO 3) fB))) fB))))))))
 (eU (zM hp (fU yV zu (d8 (gA jf jc (Z.free 0) PySem.boot_len (eG (jB 2) fB))) (d8 eX)) (eU (jL (i:=4) nd (j7 fB))
 (eU (lE hp (afq (Z.free 3) (eG (d8 eX) (eG (d8 (fH oH oG (d8 (gA jf jc (Z.free 0) PySem.boot_len (eG (jB 2) fB))) (d8 eX))) (eG (d8 eX) fB)))) (j8 5 nd) (eU (rP (i:=4) (gA jf jc (Z.free 0) PySem.boot_len (eG (d8 (eO 1)) fB)))
 (eY (fY (i:=1) nd (fH iY jd (d8 (eO 1)) (d8 (jH (eG (jH (eG fV (eG (fO (jB 2) (d8 (eO 5))) (eG (fO (jB 2) (d8 (fH iY jd (d8 (eO 5)) (d8 eX)))) fB)))) fB))))))))
 (eU (gh (fU (g8 hr.units) ne_eq (d8 (fH iK iQ (d8 (gA jf jc (Z.free 0) PySem.boot_len (eG (jB 2) fB))) (d8 eX))) (d8 eX)) (eY (rP (i:=4) (fO (jB 2) (d8 (Xa (d8 eX)))))) fQ)
 (eY (ad2 2 4 nd))))))
 (eY (fW (jH (eG (eO 1) (eG (fO (jB 2) (d8 eX)) fB)))))))))
theorem Qu{P:Program}{w:World}{K:ao}{mg:Str→Option Value}{base:Heap}(Z:nR fa fn K mg)(Zx:qH xs K mg):Has P w K mg base "brought" 2 ["rules","others","name"] (qL K [.dat, .dat, .dat] .dat wZ):=by
 have nd:(["rules","others","name","far","numbers","rows","rule","number"]:List Str).Nodup:=NZ.nd
 refine iw (d:=Pj) (N:=["rules","others","name","far","numbers","rows","rule","number"]) (n:=5) (k:=1) Z 20 43 rfl rfl rfl rfl rfl NZ rfl rfl (.inl rfl) (fun _ _ _ _ _ _ us hl=>match us,hl with|[_,_,_],_=>rfl) (fun f cdv A outer s H E hr tk hp=> ?_)
 exact(eU (xW (gJ (Gj Z Zx) hr tk (eG (eO 1) (eG (eO 2) fB))))
 (eU (fY (i:=3) nd (gA jf jc (Z.free 0) PySem.boot_len (eG (d8 (eO 0)) fB)))
 (eU (acA (i:=4) (own:=[("number",7)]) nd (sw_true rfl rfl rfl (by decide+kernel)) (Gx (Fx (Z.free 3) (d8 (gA jf jc (Z.free 0) PySem.boot_len (eG (d8 (eO 1)) fB))))) (blkOk_by (own:=[("number",7)]) (N:=["rules","others","name","far","numbers","rows","rule","number"]) (sc:=defScope wN) (by decide+kernel)) (Pg 7) (fun _ _ _ _ _=>pg_name (i:=7) nd rfl (Or.inl rfl)) (fun _ _ _ _ _=>BV) (fun _ _ _ _ _=>(fH iY jd (d8 (eO 3)) (d8 (eO 7)))))
 (eU (jL (i:=5) nd (jK yD yK (Z.free 2) (by decide+kernel) (eG (d8 (eO 0)) fB)))
 (eU (lE hp (ae8 (eO 1)) (j8 6 nd) (eY (rP (i:=5) (gJ (Bv Z Zx) hr tk (eG (eO 6) (eG (d8 (eO 4)) fB))))))
 (eU (gh (fU yU ne_is (d8 (eO 2)) (d8 jY)) (eY (fW (jH (eG (jK pO pZ (Z.free 40) (by decide+kernel) (eG (jB 5) fB)) (eG jY fB))))) fQ)
 (eY (fW (jH (eG (jK pO pZ (Z.free 40) (by decide+kernel) (eG (jB 5) fB)) (eG (fH iY jd (d8 (eO 3)) (d8 (eO 2))) fB)))))))))))
theorem zQ{P:Program}{w:World}{K:ao}{mg:Str→Option Value}{base:Heap}(Z:nR fa fn K mg)(Zx:qH xs K mg):Has P w K mg base "side_by_side" 3 ["one","other"] (qL K [.dat, .dat] .dat rG):=by
 have nd:(["one","other","rules","name"]:List Str).Nodup:=zm.nd
 refine iw (d:=Ar) (N:=["one","other","rules","name"]) (n:=2) (k:=2) Z 21 44 rfl rfl rfl rfl rfl zm rfl rfl (.inl rfl) (fun _ _ _ _ _ _ us hl=>match us,hl with|[_,_],_=>rfl) (fun f cdv A outer s H E hr tk hp=> ?_)
 exact(eU (oM (gJ (Qu Z Zx) hr tk (eG (fO (d8 (eO 0)) (d8 eX)) (eG (fO (d8 (eO 1)) (d8 eX)) (eG (fO (d8 (eO 1)) (d8 eX)) fB)))) (zE (gQ (j8 2 nd) (gQ (j8 3 nd) mF))))
 (eY (fW (jH (eG (eO 2) (eG (fO (d8 (eO 0)) (d8 eX)) (eG (eO 3) fB)))))))
theorem wW{P:Program}{w:World}{K:ao}{mg:Str→Option Value}{base:Heap}(Z:nR fa fn K mg)(Zx:qH xs K mg):Has P w K mg base "linked" 2 ["rows","one","other"] (O2 K 2 jR):=by
 have nd:(["rows","one","other"]:List Str).Nodup:=Qt.nd
 refine Hv (d:=Vi) (N:=["rows","one","other"]) (n:=0) (k:=1) Z 22 45 rfl rfl rfl rfl rfl Qt rfl rfl (fun _ _ _ _ _ _ us hl=>match us,hl with|[_,_,_],_=>rfl) (fun pp f cdv A outer s H E hr tk hp=> ?_)
 exact(eU (gh (fU yU ne_is (d8 (eO 1)) (d8 jY)) (eY (xY (eO 2))) fQ)
 (eU (gh (fU yU ne_is (d8 (eO 2)) (d8 jY)) (eY (xY (eO 1))) fQ)
 (eY (Jy (t7 0 (Vy Z Zx) hr tk (eG (jH (eG fV (eG (eO 1) (eG (eO 2) fB)))) fB))))))
theorem ZW{P:Program}{w:World}{K:ao}{mg:Str→Option Value}{base:Heap}(Z:nR fa fn K mg)(Zx:qH xs K mg):Has P w K mg base "size_of" 1 ["rule","sizes"] (qL K [.dat, .bor] .dat sJ):=by
 have nd:(["rule","sizes"]:List Str).Nodup:=M6.nd
 refine iw (d:=Qq) (N:=["rule","sizes"]) (n:=0) (k:=0) Z 23 46 rfl rfl rfl rfl rfl M6 rfl rfl (.inl rfl) (fun _ _ _ _ _ _ us hl=>match us,hl with|[_,_],_=>rfl) (fun f cdv A outer s H E hr tk hp=> ?_)
 exact(eU (gh (fU (g8 hr.units) ne_eq (d8 (fO (d8 (eO 0)) (d8 eX))) (d8 fV)) (eY (fW eX)) fQ)
 (eU (gh (fU (g8 hr.units) ne_eq (d8 (fO (d8 (eO 0)) (d8 eX))) (d8 fV)) (eY (fW (fH iY jd (d8 (fO (jB 1) (d8 (fO (d8 (eO 0)) (d8 eX))))) (d8 (fO (jB 1) (d8 (fO (d8 (eO 0)) (d8 eX)))))))) fQ)
 (eY (fW (fH lX lW (d8 (fO (jB 1) (d8 (fO (d8 (eO 0)) (d8 eX))))) (d8 (fO (d8 (eO 0)) (d8 eX))))))))
theorem Qx{P:Program}{w:World}{K:ao}{mg:Str→Option Value}{base:Heap}(Z:nR fa fn K mg)(Zx:qH xs K mg):Has P w K mg base "lengths" 2 ["rules"] (qL K [.dat] .new Bx):=by
 have nd:(["rules","sizes","rule"]:List Str).Nodup:=Kz.nd
 refine iw (d:=O5) (N:=["rules","sizes","rule"]) (n:=2) (k:=1) Z 24 47 rfl rfl rfl rfl rfl Kz rfl rfl (.inr (mV (mV Gz))) (fun _ _ _ _ _ _ us hl=>match us,hl with|[_],_=>rfl) (fun f cdv A outer s H E hr tk hp=> ?_)
 exact(eU (jL (i:=1) nd (j7 fB))
 (eU (lE hp (ae8 (eO 0)) (j8 2 nd) (eY (rP (i:=1) (gJ (ZW Z Zx) hr tk (eG (eO 2) (eG (jB 1) fB))))))
 (eY (Dz 1))))
theorem wY{P:Program}{w:World}{K:ao}{mg:Str→Option Value}{base:Heap}(Z:nR fa fn K mg)(Zx:qH xs K mg):Has P w K mg base "length" 3 ["rules","name"] (qL K [.dat, .dat] .dat nY):=by
 have nd:(["rules","name"]:List Str).Nodup:=PL.nd
 refine iw (d:=TF) (N:=["rules","name"]) (n:=0) (k:=2) Z 25 48 rfl rfl rfl rfl rfl PL rfl rfl (.inl rfl) (fun _ _ _ _ _ _ us hl=>match us,hl with|[_,_],_=>rfl) (fun f cdv A outer s H E hr tk hp=> ?_)
 exact(eU (xW (gJ (Gj Z Zx) hr tk (eG (eO 0) (eG (eO 1) fB))))
 (eU (gh (fU yU ne_is (d8 (eO 1)) (d8 jY)) (eY (fW eX)) fQ)
 (eY (fW (fO (qp (gJ (Qx Z Zx) hr tk (eG (eO 0) fB))) (d8 (eO 1)))))))
theorem Du{P:Program}{w:World}{K:ao}{mg:Str→Option Value}{base:Heap}(Z:nR fa fn K mg)(Zx:qH xs K mg):Has P w K mg base "joined" 4 ["rules","one","other"] (qL K [.dat, .dat, .dat] .dat uV):=by
 have nd:(["rules","one","other","rows","name"]:List Str).Nodup:=O3.nd
 refine iw (d:=Uj) (N:=["rules","one","other","rows","name"]) (n:=2) (k:=3) Z 26 51 rfl rfl rfl rfl rfl O3 rfl rfl (.inl rfl) (fun _ _ _ _ _ _ us hl=>match us,hl with|[_,_,_],_=>rfl) (fun f cdv A outer s H E hr tk hp=> ?_)
 exact(eU (gh (fU yV zu (d8 (fH iY jd (d8 (gJ (wY Z Zx) hr tk (eG (eO 0) (eG (eO 1) fB)))) (d8 (gJ (wY Z Zx) hr tk (eG (eO 0) (eG (eO 2) fB)))))) (d8 (yd (Z.int 22)))) (eY (xM tk (Z.exc 49) (Z.glo 50))) fQ)
 (eU (jL (i:=3) nd (jK yD yK (Z.free 2) (by decide+kernel) (eG (d8 (eO 0)) fB)))
 (eU (yG (i:=4) nd (t7 3 (wW Z Zx) hr tk (eG (eO 1) (eG (eO 2) fB))))
 (eY (fW (jH (eG (jK pO pZ (Z.free 40) (by decide+kernel) (eG (jB 3) fB)) (eG (eO 4) fB))))))))
theorem Rk{P:Program}{w:World}{K:ao}{mg:Str→Option Value}{base:Heap}(Z:nR fa fn K mg)(Zx:qH xs K mg):Has P w K mg base "over" 2 ["rows","one","many"] (O2 K 2 uY):=by
 have nd:(["rows","one","many"]:List Str).Nodup:=YS.nd
 refine Hv (d:=ac0) (N:=["rows","one","many"]) (n:=0) (k:=1) Z 27 52 rfl rfl rfl rfl rfl YS rfl rfl (fun _ _ _ _ _ _ us hl=>match us,hl with|[_,_,_],_=>rfl) (fun pp f cdv A outer s H E hr tk hp=> ?_)
 exact(eU (gh (wI (qd (fU yU ne_is (d8 (eO 1)) (d8 jY)) (rB (fU (g8 hr.units) ne_eq (d8 (eO 2)) (d8 eX))))) (eY (xY jY)) fQ)
 (eU (gh (fU (g8 hr.units) ne_eq (d8 (eO 2)) (d8 eX)) (eY (xY (eO 1))) fQ)
 (eY (Jy (t7 0 (Vy Z Zx) hr tk (eG (jH (eG fV (eG (eO 1) (eG (eO 2) fB)))) fB))))))
theorem acB{P:Program}{w:World}{K:ao}{mg:Str→Option Value}{base:Heap}(Z:nR fa fn K mg)(Zx:qH xs K mg):Has P w K mg base "ending" 3 ["rows","sizes","name","many"] (O2 K 3 wQ):=by
 have nd:(["rows","sizes","name","many","parts","found","part","rule"]:List Str).Nodup:=Qa.nd
 refine Hv (d:=Uo) (N:=["rows","sizes","name","many","parts","found","part","rule"]) (n:=4) (k:=2) Z 28 54 rfl rfl rfl rfl rfl Qa rfl rfl (fun _ _ _ _ _ _ us hl=>match us,hl with|[_,_,_,_],_=>rfl) (fun pp f cdv A outer s H E hr tk hp=> ?_)
 exact(eU (jL (i:=4) nd (j7 fB))
 (eU (zM hp (tH tL tL tM tM (d8 eX) (d8 (eO 3)) (d8 (fO (d8 (eO 1)) (d8 (eO 2))))) (eU (fY (i:=7) nd (fO (jB 0) (d8 (eO 2))))
 (eY (gh (fU (g8 hr.units) ne_eq (d8 (fO (d8 (eO 7)) (d8 eX))) (d8 fV)) (eU (Zb (i:=4) (t7 0 (Rk Z Zx) hr tk (eG (fO (d8 (eO 7)) (d8 eX)) (eG (fH jW jX (d8 (eO 3)) (d8 (fO (d8 (eO 1)) (d8 (fO (d8 (eO 7)) (d8 eX)))))) fB))))
 (eU (fY (i:=3) nd (fH iK iQ (d8 (eO 3)) (d8 (fO (d8 (eO 1)) (d8 (fO (d8 (eO 7)) (d8 eX)))))))
 (eY (fY (i:=2) nd (fO (d8 (eO 7)) (d8 eX)))))) (eY (gh (fU tL tM (d8 (eO 3)) (d8 (fO (d8 (eO 1)) (d8 (fO (d8 (eO 7)) (d8 eX)))))) (eY (fY (i:=2) nd (fO (d8 (eO 7)) (d8 eX)))) (eU (rP (i:=4) (fO (d8 (eO 7)) (d8 eX)))
 (eU (fY (i:=3) nd (fH oH oG (d8 (eO 3)) (d8 (fO (d8 (eO 1)) (d8 (fO (d8 (eO 7)) (d8 eX)))))))
 (eY (fY (i:=2) nd (fO (d8 (eO 7)) (d8 eX))))))))))))
 (eU (fY (i:=5) nd jY)
 (eU (gh (fU yV zu (d8 (eO 3)) (d8 eX)) (eY (fY (i:=5) nd (eO 2))) fQ)
 (eU (Xz 4 (lE hp (aeG (Z.free 53) (eO 4)) (j8 6 nd) (eY (yG (i:=5) nd (t7 0 (wW Z Zx) hr tk (eG (eO 5) (eG (eO 6) fB)))))))
 (eY (xY (eO 5))))))))
theorem Jf{P:Program}{w:World}{K:ao}{mg:Str→Option Value}{base:Heap}(Z:nR fa fn K mg)(Zx:qH xs K mg):Has P w K mg base "beginning" 3 ["rows","sizes","name","many"] (O2 K 3 lO):=by
 have nd:(["rows","sizes","name","many","parts","found","part","rule","size"]:List Str).Nodup:=Gk.nd
 refine Hv (d:=Ib) (N:=["rows","sizes","name","many","parts","found","part","rule","size"]) (n:=5) (k:=2) Z 29 55 rfl rfl rfl rfl rfl Gk rfl rfl (fun _ _ _ _ _ _ us hl=>match us,hl with|[_,_,_,_],_=>rfl) (fun pp f cdv A outer s H E hr tk hp=> ?_)
 exact(eU (jL (i:=4) nd (j7 fB))
 (eU (zM hp (tH tL tL tM tM (d8 eX) (d8 (eO 3)) (d8 (fO (d8 (eO 1)) (d8 (eO 2))))) (eU (fY (i:=7) nd (fO (jB 0) (d8 (eO 2))))
 (eU (fY (i:=8) nd (fO (d8 (eO 1)) (d8 (fO (d8 (eO 7)) (d8 eX)))))
 (eY (gh (fU (g8 hr.units) ne_eq (d8 (fO (d8 (eO 7)) (d8 eX))) (d8 fV)) (eU (Zb (i:=4) (t7 0 (Rk Z Zx) hr tk (eG (fO (d8 (eO 7)) (d8 eX)) (eG (fH jW jX (d8 (eO 3)) (d8 (eO 8))) fB))))
 (eU (fY (i:=3) nd (fH iK iQ (d8 (eO 3)) (d8 (eO 8))))
 (eY (fY (i:=2) nd (fO (d8 (eO 7)) (d8 eX)))))) (eY (gh (fU tL tM (d8 (eO 3)) (d8 (eO 8))) (eY (fY (i:=2) nd (fO (d8 (eO 7)) (d8 eX)))) (eU (rP (i:=4) (fO (d8 (eO 7)) (d8 eX)))
 (eU (fY (i:=3) nd (fH oH oG (d8 (eO 3)) (d8 (eO 8))))
 (eY (fY (i:=2) nd (fO (d8 (eO 7)) (d8 eX)))))))))))))
 (eU (fY (i:=5) nd jY)
 (eU (gh (fU yV zu (d8 (eO 3)) (d8 eX)) (eY (fY (i:=5) nd (eO 2))) fQ)
 (eU (Xz 4 (lE hp (aeG (Z.free 53) (eO 4)) (j8 6 nd) (eY (yG (i:=5) nd (t7 0 (wW Z Zx) hr tk (eG (eO 6) (eG (eO 5) fB)))))))
 (eY (xY (eO 5))))))))
theorem abg{P:Program}{w:World}{K:ao}{mg:Str→Option Value}{base:Heap}(Z:nR fa fn K mg)(Zx:qH xs K mg):Has P w K mg base "across" 4 ["rows","sizes","rule","start","end"] (O2 K 4 wV):=by
 have nd:(["rows","sizes","rule","start","end","one","size","found"]:List Str).Nodup:=O7.nd
 refine Hv (d:=V3) (N:=["rows","sizes","rule","start","end","one","size","found"]) (n:=3) (k:=3) Z 30 56 rfl rfl rfl rfl rfl O7 rfl rfl (fun _ _ _ _ _ _ us hl=>match us,hl with|[_,_,_,_,_],_=>rfl) (fun pp f cdv A outer s H E hr tk hp=> ?_)
 exact(eU (fY (i:=5) nd (fO (d8 (eO 2)) (d8 eX)))
 (eU (fY (i:=6) nd (fO (d8 (eO 1)) (d8 (eO 5))))
 (eU (yG (i:=7) nd (t7 0 (acB Z Zx) hr tk (eG (eO 1) (eG (eO 5) (eG (fH oH oG (d8 (eO 6)) (d8 (eO 3))) fB)))))
 (eU (gh (fU (g8 hr.units) ne_eq (d8 (fO (d8 (eO 2)) (d8 eX))) (d8 fV)) (eY (Jy (Xu 0 (wW Z Zx) hr tk (eO 7) (t7 0 (Jf Z Zx) hr tk (eG (eO 1) (eG (fO (d8 (eO 2)) (d8 eX)) (eG (fH oH oG (d8 (eO 4)) (d8 (eO 6))) fB))))))) fQ)
 (eU (yG (i:=7) nd (Xu 0 (wW Z Zx) hr tk (eO 7) (t7 0 (Rk Z Zx) hr tk (eG (eO 5) (eG (fH jW jX (d8 (fH oH oG (d8 (eO 4)) (d8 (eO 6)))) (d8 (eO 6))) fB)))))
 (eY (Jy (Xu 0 (wW Z Zx) hr tk (eO 7) (t7 0 (Jf Z Zx) hr tk (eG (eO 1) (eG (eO 5) (eG (fH iK iQ (d8 (fH oH oG (d8 (eO 4)) (d8 (eO 6)))) (d8 (eO 6))) fB))))))))))))
theorem Qg{P:Program}{w:World}{K:ao}{mg:Str→Option Value}{base:Heap}(Z:nR fa fn K mg)(Zx:qH xs K mg):Has P w K mg base "cut" 5 ["rules","name","start","end"] (qL K [.dat, .dat, .dat, .dat] .dat Fg):=by
 have nd:(["rules","name","start","end","size","sizes","rule","rows","found"]:List Str).Nodup:=acU.nd
 refine iw (d:=aeM) (N:=["rules","name","start","end","size","sizes","rule","rows","found"]) (n:=5) (k:=4) Z 31 59 rfl rfl rfl rfl rfl acU rfl rfl (.inl rfl) (fun _ _ _ _ _ _ us hl=>match us,hl with|[_,_,_,_],_=>rfl) (fun f cdv A outer s H E hr tk hp=> ?_)
 exact(eU (fY (i:=4) nd (gJ (wY Z Zx) hr tk (eG (eO 0) (eG (eO 1) fB))))
 (eU (gh (mW (aad tO tO tO sW sW sW (d8 eX) (d8 (eO 2)) (d8 (eO 3)) (d8 (eO 4)))) (eY (xM tk (Z.exc 57) (Z.glo 58))) fQ)
 (eU (gh (fU (g8 hr.units) ne_eq (d8 (eO 2)) (d8 (eO 3))) (eY (fW (jH (eG (jK pO pZ (Z.free 40) (by decide+kernel) (eG (d8 (eO 0)) fB)) (eG jY fB))))) fQ)
 (eU (fY (i:=5) nd (m9 (gJ (Qx Z Zx) hr tk (eG (eO 0) fB))))
 (eU (zM hp (fU (yO hr.units) yP (d8 (fO (d8 (fO (d8 (eO 0)) (d8 (eO 1)))) (d8 eX))) (d8 fV)) (eU (fY (i:=6) nd (fO (d8 (eO 0)) (d8 (eO 1))))
 (eU (fY (i:=4) nd (fO (d8 (eO 5)) (d8 (fO (d8 (eO 6)) (d8 eX)))))
 (eU (gh (fU (g8 hr.units) ne_eq (d8 (fO (d8 (eO 6)) (d8 eX))) (d8 fV)) (eU (fY (i:=3) nd (fH oH oG (d8 (eO 3)) (d8 (fH lX lW (d8 (fH jW jX (d8 (eO 2)) (d8 (eO 4)))) (d8 (eO 4))))))
 (eY (fY (i:=2) nd (fH iK iQ (d8 (eO 2)) (d8 (eO 4)))))) fQ)
 (eY (gh (fU agj af8 (d8 (eO 2)) (d8 (eO 4))) (eU (fY (i:=2) nd (fH oH oG (d8 (eO 2)) (d8 (eO 4))))
 (eU (fY (i:=3) nd (fH oH oG (d8 (eO 3)) (d8 (eO 4))))
 (eY (fY (i:=1) nd (fO (d8 (eO 6)) (d8 eX)))))) (eY (gh (fU tO sW (d8 (eO 3)) (d8 (eO 4))) (eY (fY (i:=1) nd (fO (d8 (eO 6)) (d8 eX)))) (eU (jL (i:=7) nd (jK yD yK (Z.free 2) (by decide+kernel) (eG (d8 (eO 0)) fB)))
 (eU (yG (i:=8) nd (t7 7 (abg Z Zx) hr tk (eG (eO 5) (eG (eO 6) (eG (eO 2) (eG (eO 3) fB))))))
 (eY (fW (jH (eG (jK pO pZ (Z.free 40) (by decide+kernel) (eG (jB 7) fB)) (eG (eO 8) fB)))))))))))))))
 (eY (fW (jH (eG (jK pO pZ (Z.free 40) (by decide+kernel) (eG (d8 (eO 0)) fB)) (eG (eO 1) fB))))))))))
theorem acG{P:Program}{w:World}{K:ao}{mg:Str→Option Value}{base:Heap}(Z:nR fa fn K mg)(Zx:qH xs K mg):Has P w K mg base "put_in" 6 ["one","place","other"] (qL K [.dat, .dat, .dat] .dat M4):=by
 have nd:(["one","place","other","rules","name","middle","size","head","tail","front"]:List Str).Nodup:=O8.nd
 refine iw (d:=Uw) (N:=["one","place","other","rules","name","middle","size","head","tail","front"]) (n:=7) (k:=5) Z 32 60 rfl rfl rfl rfl rfl O8 rfl rfl (.inl rfl) (fun _ _ _ _ _ _ us hl=>match us,hl with|[_,_,_],_=>rfl) (fun f cdv A outer s H E hr tk hp=> ?_)
 exact(eU (oM (gJ (zQ Z Zx) hr tk (eG (eO 0) (eG (eO 2) fB))) (zE (gQ (j8 3 nd) (gQ (j8 4 nd) (gQ (j8 5 nd) mF)))))
 (eU (fY (i:=6) nd (gJ (wY Z Zx) hr tk (eG (eO 3) (eG (eO 4) fB))))
 (eU (oM (gJ (Qg Z Zx) hr tk (eG (eO 3) (eG (eO 4) (eG eX (eG (eO 1) fB))))) (zE (gQ (j8 3 nd) (gQ (j8 7 nd) mF))))
 (eU (oM (gJ (Qg Z Zx) hr tk (eG (eO 3) (eG (eO 4) (eG (eO 1) (eG (eO 6) fB))))) (zE (gQ (j8 3 nd) (gQ (j8 8 nd) mF))))
 (eU (oM (gJ (Du Z Zx) hr tk (eG (eO 3) (eG (eO 7) (eG (eO 5) fB)))) (zE (gQ (j8 3 nd) (gQ (j8 9 nd) mF))))
 (eY (fW (gJ (Du Z Zx) hr tk (eG (eO 3) (eG (eO 9) (eG (eO 8) fB)))))))))))
theorem acq{P:Program}{w:World}{K:ao}{mg:Str→Option Value}{base:Heap}(Z:nR fa fn K mg)(Zx:qH xs K mg):Has P w K mg base "of_two" 7 ["verb","one","values","texts"] (qL K [.dat, .dat, .dat, .bor] .dat Kh):=by
 have nd:(["verb","one","values","texts","rules","name","other"]:List Str).Nodup:=Pa.nd
 refine iw (d:=VP) (N:=["verb","one","values","texts","rules","name","other"]) (n:=3) (k:=6) Z 33 61 rfl rfl rfl rfl rfl Pa rfl rfl (.inl rfl) (fun _ _ _ _ _ _ us hl=>match us,hl with|[_,_,_,_],_=>rfl) (fun f cdv A outer s H E hr tk hp=> ?_)
 exact(eU (gh (fU (g8 hr.units) ne_eq (d8 (eO 0)) (d8 fV)) (eY (fW (gJ (acG Z Zx) hr tk (eG (eO 1) (eG (fO (d8 (eO 2)) (d8 eX)) (eG (nD hr.units (jB 3) (d8 (fO (d8 (eO 2)) (d8 eX)))) fB)))))) fQ)
 (eU (oM (gJ (zQ Z Zx) hr tk (eG (eO 1) (eG (nD hr.units (jB 3) (d8 (fO (d8 (eO 2)) (d8 eX)))) fB))) (zE (gQ (j8 4 nd) (gQ (j8 5 nd) (gQ (j8 6 nd) mF)))))
 (eY (fW (gJ (Du Z Zx) hr tk (eG (eO 4) (eG (eO 5) (eG (eO 6) fB))))))))
theorem Vs{P:Program}{w:World}{K:ao}{mg:Str→Option Value}{base:Heap}(Z:nR fa fn K mg)(Zx:qH xs K mg):Has P w K mg base "taken_out" 6 ["one","start","end"] (qL K [.dat, .dat, .dat] .dat Av):=by
 have nd:(["one","start","end","size","rules","head","tail"]:List Str).Nodup:=DN.nd
 refine iw (d:=Jg) (N:=["one","start","end","size","rules","head","tail"]) (n:=4) (k:=5) Z 34 62 rfl rfl rfl rfl rfl DN rfl rfl (.inl rfl) (fun _ _ _ _ _ _ us hl=>match us,hl with|[_,_,_],_=>rfl) (fun f cdv A outer s H E hr tk hp=> ?_)
 exact(eU (xW (gJ (Qg Z Zx) hr tk (eG (fO (d8 (eO 0)) (d8 eX)) (eG (fO (d8 (eO 0)) (d8 eX)) (eG (eO 1) (eG (eO 2) fB))))))
 (eU (fY (i:=3) nd (gJ (wY Z Zx) hr tk (eG (fO (d8 (eO 0)) (d8 eX)) (eG (fO (d8 (eO 0)) (d8 eX)) fB))))
 (eU (oM (gJ (Qg Z Zx) hr tk (eG (fO (d8 (eO 0)) (d8 eX)) (eG (fO (d8 (eO 0)) (d8 eX)) (eG eX (eG (eO 1) fB))))) (zE (gQ (j8 4 nd) (gQ (j8 5 nd) mF))))
 (eU (oM (gJ (Qg Z Zx) hr tk (eG (eO 4) (eG (fO (d8 (eO 0)) (d8 eX)) (eG (eO 2) (eG (eO 3) fB))))) (zE (gQ (j8 4 nd) (gQ (j8 6 nd) mF))))
 (eY (fW (gJ (Du Z Zx) hr tk (eG (eO 4) (eG (eO 5) (eG (eO 6) fB))))))))))
theorem Xl{P:Program}{w:World}{K:ao}{mg:Str→Option Value}{base:Heap}(Z:nR fa fn K mg)(Zx:qH xs K mg):Has P w K mg base "repeated" 4 ["rules","name","many"] (qL K [.dat, .dat, .dat] .dat CT):=by
 have nd:(["rules","name","many","rows","found"]:List Str).Nodup:=HS.nd
 refine iw (d:=Nb) (N:=["rules","name","many","rows","found"]) (n:=2) (k:=3) Z 35 63 rfl rfl rfl rfl rfl HS rfl rfl (.inl rfl) (fun _ _ _ _ _ _ us hl=>match us,hl with|[_,_,_],_=>rfl) (fun f cdv A outer s H E hr tk hp=> ?_)
 exact(eU (gh (fU yV zu (d8 (fH lX lW (d8 (gJ (wY Z Zx) hr tk (eG (eO 0) (eG (eO 1) fB)))) (d8 (eO 2)))) (d8 (yd (Z.int 22)))) (eY (xM tk (Z.exc 49) (Z.glo 50))) fQ)
 (eU (jL (i:=3) nd (jK yD yK (Z.free 2) (by decide+kernel) (eG (d8 (eO 0)) fB)))
 (eU (yG (i:=4) nd (t7 3 (Rk Z Zx) hr tk (eG (eO 1) (eG (eO 2) fB))))
 (eY (fW (jH (eG (jK pO pZ (Z.free 40) (by decide+kernel) (eG (jB 3) fB)) (eG (eO 4) fB))))))))
theorem abY{P:Program}{w:World}{K:ao}{mg:Str→Option Value}{base:Heap}(Z:nR fa fn K mg)(Zx:qH xs K mg):Has P w K mg base "turned" 3 ["rules","name"] (qL K [.dat, .dat] .dat DQ):=by
 have nd:(["rules","name","rows","numbers","number","rule"]:List Str).Nodup:=Qe.nd
 refine iw (d:=Ua) (N:=["rules","name","rows","numbers","number","rule"]) (n:=4) (k:=2) Z 36 64 rfl rfl rfl rfl rfl Qe rfl rfl (.inl rfl) (fun _ _ _ _ _ _ us hl=>match us,hl with|[_,_],_=>rfl) (fun f cdv A outer s H E hr tk hp=> ?_)
 exact(eU (xW (gJ (Gj Z Zx) hr tk (eG (eO 0) (eG (eO 1) fB))))
 (eU (jL (i:=2) nd (jK yD yK (Z.free 2) (by decide+kernel) (eG (d8 (eO 0)) fB)))
 (eU (jL (i:=3) nd Bs)
 (eU (lE hp (U5 (m9 (gJ (NQ Z Zx) hr tk (eG (eO 0) (eG (eO 1) fB))))) (j8 4 nd) (eU (fY (i:=5) nd (gJ (Bv Z Zx) hr tk (eG (fO (d8 (eO 0)) (d8 (eO 4))) (eG (jB 3) fB))))
 (eU (gh (fU (g8 hr.units) ne_eq (d8 (fO (d8 (eO 5)) (d8 eX))) (d8 fV)) (eY (fY (i:=5) nd (jH (eG fV (eG (fO (d8 (eO 5)) (d8 eX)) (eG (fO (d8 (eO 5)) (d8 eX)) fB)))))) fQ)
 (eU (xU 3 hr.units (d8 (eO 4)) (eO 4))
 (eY (gh (fU (yO hr.units) yP (d8 (eO 5)) (d8 (fO (d8 (eO 0)) (d8 (eO 4))))) (eY (ZC 3 hr.units (d8 (eO 4)) (t7 2 (Vy Z Zx) hr tk (eG (eO 5) fB)))) fQ))))))
 (eY (fW (jH (eG (jK pO pZ (Z.free 40) (by decide+kernel) (eG (jB 2) fB)) (eG (Ls hr.units (jB 3) (d8 (eO 1))) fB)))))))))
theorem T7{P:Program}{w:World}{K:ao}{mg:Str→Option Value}{base:Heap}(Z:nR fa fn K mg)(Zx:qH xs K mg):Has P w K mg base "otherwise" 3 ["rules","name","sign","other"] (qL K [.dat, .dat, .dat, .dat] .dat vW):=by
 have nd:(["rules","name","sign","other","rows","numbers","number","rule"]:List Str).Nodup:=Et.nd
 refine iw (d:=HY) (N:=["rules","name","sign","other","rows","numbers","number","rule"]) (n:=4) (k:=2) Z 37 65 rfl rfl rfl rfl rfl Et rfl rfl (.inl rfl) (fun _ _ _ _ _ _ us hl=>match us,hl with|[_,_,_,_],_=>rfl) (fun f cdv A outer s H E hr tk hp=> ?_)
 exact(eU (xW (gJ (Gj Z Zx) hr tk (eG (eO 0) (eG (eO 1) fB))))
 (eU (jL (i:=4) nd (jK yD yK (Z.free 2) (by decide+kernel) (eG (d8 (eO 0)) fB)))
 (eU (jL (i:=5) nd Bs)
 (eU (lE hp (U5 (m9 (gJ (NQ Z Zx) hr tk (eG (eO 0) (eG (eO 1) fB))))) (j8 6 nd) (eU (fY (i:=7) nd (gJ (Bv Z Zx) hr tk (eG (fO (d8 (eO 0)) (d8 (eO 6))) (eG (jB 5) fB))))
 (eU (gh (fU (g8 hr.units) ne_eq (d8 (eO 7)) (d8 (jH (eG fV (eG (eO 2) fB))))) (eY (fY (i:=7) nd (jH (eG fV (eG (eO 3) fB))))) fQ)
 (eU (xU 5 hr.units (d8 (eO 6)) (eO 6))
 (eY (gh (fU (yO hr.units) yP (d8 (eO 7)) (d8 (fO (d8 (eO 0)) (d8 (eO 6))))) (eY (ZC 5 hr.units (d8 (eO 6)) (t7 4 (Vy Z Zx) hr tk (eG (eO 7) fB)))) fQ))))))
 (eY (fW (jH (eG (jK pO pZ (Z.free 40) (by decide+kernel) (eG (jB 4) fB)) (eG (Ls hr.units (jB 5) (d8 (eO 1))) fB)))))))))
theorem ac6{P:Program}{w:World}{K:ao}{mg:Str→Option Value}{base:Heap}(Z:nR fa fn K mg)(Zx:qH xs K mg):Has P w K mg base "of_one" 7 ["verb","one","values"] (qL K [.dat, .dat, .dat] .dat Lq):=by
 have nd:(["verb","one","values"]:List Str).Nodup:=Qh.nd
 refine iw (d:=TJ) (N:=["verb","one","values"]) (n:=0) (k:=6) Z 38 66 rfl rfl rfl rfl rfl Qh rfl rfl (.inl rfl) (fun _ _ _ _ _ _ us hl=>match us,hl with|[_,_,_],_=>rfl) (fun f cdv A outer s H E hr tk hp=> ?_)
 exact(eU (gh (fU (g8 hr.units) ne_eq (d8 (eO 0)) (d8 fV)) (eY (fW (gJ (Xl Z Zx) hr tk (eG (fO (d8 (eO 1)) (d8 eX)) (eG (fO (d8 (eO 1)) (d8 eX)) (eG (fO (d8 (eO 2)) (d8 eX)) fB)))))) fQ)
 (eU (gh (fU (g8 hr.units) ne_eq (d8 (eO 0)) (d8 fV)) (eY (fW (gJ (abY Z Zx) hr tk (eG (fO (d8 (eO 1)) (d8 eX)) (eG (fO (d8 (eO 1)) (d8 eX)) fB))))) fQ)
 (eU (gh (fU (g8 hr.units) ne_eq (d8 (eO 0)) (d8 fV)) (eY (fW (gJ (T7 Z Zx) hr tk (eG (fO (d8 (eO 1)) (d8 eX)) (eG (fO (d8 (eO 1)) (d8 eX)) (eG (fO (d8 (eO 2)) (d8 eX)) (eG (fO (d8 (eO 2)) (d8 eX)) fB))))))) fQ)
 (eU (gh (fU (g8 hr.units) ne_eq (d8 (eO 0)) (d8 fV)) (eY (fW (gJ (Qg Z Zx) hr tk (eG (fO (d8 (eO 1)) (d8 eX)) (eG (fO (d8 (eO 1)) (d8 eX)) (eG (fO (d8 (eO 2)) (d8 eX)) (eG (fO (d8 (eO 2)) (d8 eX)) fB))))))) fQ)
 (eY (fW (gJ (Vs Z Zx) hr tk (eG (eO 1) (eG (fO (d8 (eO 2)) (d8 eX)) (eG (fO (d8 (eO 2)) (d8 eX)) fB))))))))))
theorem V9{P:Program}{w:World}{K:ao}{mg:Str→Option Value}{base:Heap}(Z:nR fa fn K mg)(Zx:qH xs K mg):Has P w K mg base "made_text" 8 ["texts","deed"] (qL K [.bor, .dat] .dat nA):=by
 have nd:(["texts","deed","verb","new","values","rules","name"]:List Str).Nodup:=Fe.nd
 refine iw (d:=HX) (N:=["texts","deed","verb","new","values","rules","name"]) (n:=5) (k:=7) Z 39 67 rfl rfl rfl rfl rfl Fe rfl rfl (.inl rfl) (fun _ _ _ _ _ _ us hl=>match us,hl with|[_,_],_=>rfl) (fun f cdv A outer s H E hr tk hp=> ?_)
 exact(eU (oM (eO 1) (zE (gQ (j8 2 nd) (gQ (j8 3 nd) (gQ (j8 4 nd) mF)))))
 (eU (xW (gJ (J5 Z Zx) hr tk (eG (jB 0) (eG (gJ (Nr Z Zx) hr tk (eG (eO 2) fB)) (eG (eO 4) fB)))))
 (eU (gh (fU (g8 hr.units) ne_eq (d8 (eO 2)) (d8 fV)) (eY (oM (gJ (Jp Z Zx) hr tk (eG (fO (d8 (eO 4)) (d8 eX)) fB)) (zE (gQ (j8 5 nd) (gQ (j8 6 nd) mF))))) (eY (gh (wI (qd (fU (g8 hr.units) ne_eq (d8 (eO 2)) (d8 fV)) (rB (fU (g8 hr.units) ne_eq (d8 (eO 2)) (d8 fV))))) (eY (oM (gJ (acq Z Zx) hr tk (eG (eO 2) (eG (nD hr.units (jB 0) (d8 (fO (d8 (eO 4)) (d8 eX)))) (eG (eO 4) (eG (jB 0) fB))))) (zE (gQ (j8 5 nd) (gQ (j8 6 nd) mF))))) (eY (oM (gJ (ac6 Z Zx) hr tk (eG (eO 2) (eG (nD hr.units (jB 0) (d8 (fO (d8 (eO 4)) (d8 eX)))) (eG (eO 4) fB)))) (zE (gQ (j8 5 nd) (gQ (j8 6 nd) mF))))))))
 (eY (fW (gJ (ae6 Z Zx) hr tk (eG (eO 5) (eG (eO 6) fB))))))))
theorem XH{P:Program}{w:World}{K:ao}{mg:Str→Option Value}{base:Heap}(Z:nR fa fn K mg)(Zx:qH xs K mg):Has P w K mg base "texts_of" 9 ["text"] (qL K [.dat] .new yI):=by
 have nd:(["text","texts","row","deed"]:List Str).Nodup:=Ig.nd
 refine iw (d:=Mr) (N:=["text","texts","row","deed"]) (n:=3) (k:=8) Z 40 70 rfl rfl rfl rfl rfl Ig rfl rfl (.inr (mV (mV (mV Gz)))) (fun _ _ _ _ _ _ us hl=>match us,hl with|[_],_=>rfl) (fun f cdv A outer s H E hr tk hp=> ?_)
 exact(eU (jL (i:=1) nd Bs)
 (eU (gh (fU (g8 hr.units) ne_eq (d8 (eO 0)) (d8 fV)) (eY (Dz 1)) fQ)
 (eU (lE hp (U5 (m9 (V1 (d8 (eO 0)) (d8 fV)))) (j8 2 nd) (eU (fY (i:=3) nd (gJ (Lw Z Zx) hr tk (eG (eO 2) fB)))
 (eU (gh (fU yU ne_is (d8 (eO 3)) (d8 jY)) (eY (xM tk (Z.exc 68) (Z.glo 69))) fQ)
 (eY (xU 1 hr.units (d8 (fO (d8 (eO 3)) (d8 eX))) (gJ (V9 Z Zx) hr tk (eG (jB 1) (eG (eO 3) fB))))))))
 (eY (Dz 1)))))
theorem ab3{P:Program}{w:World}{K:ao}{mg:Str→Option Value}{base:Heap}(Z:nR fa fn K mg)(Zx:qH xs K mg):Has P w K mg base "read" 10 ["text"] (qL K [.dat] .dat Cv):=by
 have nd:(["text","texts","rules","names","word","some","name"]:List Str).Nodup:=Zy.nd
 refine iw (d:=ace) (N:=["text","texts","rules","names","word","some","name"]) (n:=6) (k:=9) Z 41 71 rfl rfl rfl rfl rfl Zy rfl rfl (.inl rfl) (fun _ _ _ _ _ _ us hl=>match us,hl with|[_],_=>rfl) (fun f cdv A outer s H E hr tk hp=> ?_)
 exact(eU (jL (i:=1) nd (gJ (XH Z Zx) hr tk (eG (eO 0) fB)))
 (eU (fY (i:=2) nd (jH fB))
 (eU (jL (i:=3) nd (j7 fB))
 (eU (lE hp (U5 (m9 (Hg (Z.free 36) (jB 1)))) (j8 4 nd) (eU (oM (nD hr.units (jB 1) (d8 (eO 4))) (zE (gQ (j8 5 nd) (gQ (j8 6 nd) mF))))
 (eU (oM (gJ (Qu Z Zx) hr tk (eG (eO 2) (eG (eO 5) (eG (eO 6) fB)))) (zE (gQ (j8 2 nd) (gQ (j8 6 nd) mF))))
 (eY (rP (i:=3) (jH (eG (eO 4) (eG (eO 6) fB))))))))
 (eY (Xz 3 (fW (jH (eG (eO 2) (eG (eO 3) fB))))))))))
theorem Ak{P:Program}{w:World}{K:ao}{mg:Str→Option Value}{base:Heap}(Z:nR fa fn K mg)(Zx:qH xs K mg):Has P w K mg base "_law_lengths" 1 ["_law_rules"] (qL K [.dat] .new rE):=by
 have nd:(["_law_rules","_law_sizes","_law_rule","_law_size"]:List Str).Nodup:=yQ.nd
 refine iw (d:=zW) (N:=["_law_rules","_law_sizes","_law_rule","_law_size"]) (n:=3) (k:=0) Z 42 72 rfl rfl rfl rfl rfl yQ rfl rfl (.inr (mV (mV Gz))) (fun _ _ _ _ _ _ us hl=>match us,hl with|[_],_=>rfl) (fun f cdv A outer s H E hr tk hp=> ?_)
 exact(eU (jL (i:=1) nd (j7 fB))
 (eU (lE hp (ae8 (eO 0)) (j8 2 nd) (eU (fY (i:=3) nd eX)
 (eU (gh (fU (g8 hr.units) ne_eq (d8 (fO (d8 (eO 2)) (d8 eX))) (d8 fV)) (eY (fY (i:=3) nd (fH iY jd (d8 (fO (jB 1) (d8 (fO (d8 (eO 2)) (d8 eX))))) (d8 (fO (jB 1) (d8 (fO (d8 (eO 2)) (d8 eX)))))))) (eY (gh (fU (g8 hr.units) ne_eq (d8 (fO (d8 (eO 2)) (d8 eX))) (d8 fV)) (eY (fY (i:=3) nd (fH lX lW (d8 (fO (jB 1) (d8 (fO (d8 (eO 2)) (d8 eX))))) (d8 (fO (d8 (eO 2)) (d8 eX)))))) fQ)))
 (eY (rP (i:=1) (eO 3))))))
 (eY (Dz 1))))
theorem R8{P:Program}{w:World}{K:ao}{mg:Str→Option Value}{base:Heap}(Z:nR fa fn K mg)(Zx:qH xs K mg):Has P w K mg base "_law_verbs" 1 ["_law_cell"] (qL K [.dat] .dat xZ):=by
 have nd:(["_law_cell","_law_some"]:List Str).Nodup:=Cm.nd
 refine iw (d:=Fw) (N:=["_law_cell","_law_some"]) (n:=1) (k:=0) Z 43 73 rfl rfl rfl rfl rfl Cm rfl rfl (.inl rfl) (fun _ _ _ _ _ _ us hl=>match us,hl with|[_],_=>rfl) (fun f cdv A outer s H E hr tk hp=> ?_)
 exact(eU (fY (i:=1) nd (m9 (j7 (eG fV (eG fV (eG fV (eG fV (eG fV (eG fV (eG fV (eG fV fB)))))))))))
 (eU (fY (i:=1) nd (fH iY jd (d8 (eO 1)) (qp (j7 (eG fV (eG fV (eG fV (eG fV (eG fV (eG fV (eG fV fB)))))))))))
 (eU (fY (i:=1) nd (fH iY jd (d8 (eO 1)) (qp (j7 (eG fV (eG fV (eG fV (eG fV (eG fV (eG fV (eG fV (eG fV fB))))))))))))
 (eY (fW (fO (d8 (eO 1)) (d8 (fH iK iQ (d8 (eO 0)) (d8 eX)))))))))
theorem VJ{P:Program}{w:World}{K:ao}{mg:Str→Option Value}{base:Heap}(Z:nR fa fn K mg)(Zx:qH xs K mg):Has P w K mg base "_law_word" 2 ["_law_cell","_law_k"] (qL K [.dat, .dat] .dat tE):=by
 have nd:(["_law_cell","_law_k","_law_kind","_law_size","_law_word_here","_law_j","_law_step","_law_at"]:List Str).Nodup:=Gg.nd
 refine iw (d:=Iz) (N:=["_law_cell","_law_k","_law_kind","_law_size","_law_word_here","_law_j","_law_step","_law_at"]) (n:=6) (k:=1) Z 44 74 rfl rfl rfl rfl rfl Gg rfl rfl (.inl rfl) (fun _ _ _ _ _ _ us hl=>match us,hl with|[_,_],_=>rfl) (fun f cdv A outer s H E hr tk hp=> ?_)
 exact(eU (fY (i:=2) nd (fH iK iQ (d8 (eO 0)) (d8 eX)))
 (eU (fY (i:=3) nd (fH iY jd (d8 eX) (d8 (fH iK iQ (d8 (fH jW jX (d8 (eO 0)) (d8 eX))) (d8 eX)))))
 (eU (gh (fU (g8 hr.units) ne_eq (d8 (eO 2)) (d8 eX)) (eY (fY (i:=3) nd (fH iY jd (d8 eX) (d8 (eO 1))))) fQ)
 (eU (gh (fU (g8 hr.units) ne_eq (d8 (eO 2)) (d8 eX)) (eY (fW (gJ (R8 Z Zx) hr tk (eG (fH iY jd (d8 (fH jW jX (d8 (eO 0)) (d8 eX))) (d8 (eO 1))) fB)))) fQ)
 (eU (fY (i:=4) nd fV)
 (eU (lE hp (Fx (Z.free 3) (d8 (eO 3))) (j8 5 nd) (eU (fY (i:=6) nd eX)
 (eU (gh (wI (qd (fU (g8 hr.units) ne_eq (d8 (eO 2)) (d8 eX)) (qd (fU (g8 hr.units) ne_eq (d8 (eO 2)) (d8 eX)) (rB (wI (CQ (fU tL tM (d8 (eO 2)) (d8 eX)) (yq (fU (g8 hr.units) ne_eq (d8 (eO 5)) (d8 (fH iK iQ (d8 (fH jW jX (d8 (eO 0)) (d8 eX))) (d8 (eO 3)))))))))))) (eY (fY (i:=6) nd (fH lX lW (d8 eX) (d8 (eO 1))))) fQ)
 (eU (fY (i:=7) nd (fH iY jd (d8 (fH iY jd (d8 (fH jW jX (d8 (eO 0)) (d8 eX))) (d8 (fH lX lW (d8 eX) (d8 (eO 5)))))) (d8 (eO 6))))
 (eY (fY (i:=4) nd (fH iY jd (d8 (eO 4)) (d8 (fO (d8 fV) (d8 (fH iK iQ (d8 (eO 7)) (d8 eX))))))))))))
 (eY (fW (eO 4)))))))))
theorem Ft{P:Program}{w:World}{K:ao}{mg:Str→Option Value}{base:Heap}(Z:nR fa fn K mg)(Zx:qH xs K mg):Has P w K mg base "_law_place" 1 ["_law_cell","_law_size"] (qL K [.dat, .dat] .dat mO):=by
 have nd:(["_law_cell","_law_size"]:List Str).Nodup:=Cd.nd
 refine iw (d:=Ew) (N:=["_law_cell","_law_size"]) (n:=0) (k:=0) Z 45 75 rfl rfl rfl rfl rfl Cd rfl rfl (.inl rfl) (fun _ _ _ _ _ _ us hl=>match us,hl with|[_,_],_=>rfl) (fun f cdv A outer s H E hr tk hp=> ?_)
 exact(eU (gh (fU (g8 hr.units) ne_eq (d8 (fH iK iQ (d8 (eO 0)) (d8 eX))) (d8 eX)) (eY (fW (fH iK iQ (d8 (fH jW jX (d8 (eO 0)) (d8 eX))) (d8 (gA (QM rfl) Sw (Z.free 4) (by decide+kernel) (eG (d8 (eO 1)) (eG (d8 eX) fB))))))) fQ)
 (eU (gh (fU (g8 hr.units) ne_eq (d8 (fH iK iQ (d8 (eO 0)) (d8 eX))) (d8 eX)) (eY (fW (fH oH oG (d8 (fH oH oG (d8 (eO 1)) (d8 eX))) (d8 (fH iK iQ (d8 (fH jW jX (d8 (eO 0)) (d8 eX))) (d8 (gA (QM rfl) Sw (Z.free 4) (by decide+kernel) (eG (d8 (eO 1)) (eG (d8 eX) fB))))))))) fQ)
 (eY (fW (fH iK iQ (d8 (fH lX lW (d8 (fH jW jX (d8 (eO 0)) (d8 eX))) (d8 eX))) (d8 (eO 1)))))))
theorem Rc{P:Program}{w:World}{K:ao}{mg:Str→Option Value}{base:Heap}(Z:nR fa fn K mg)(Zx:qH xs K mg):Has P w K mg base "_law_inner" 2 ["_law_way","_law_one","_law_other","_law_cell","_law_sizes","_law_letters_here"] (qL K [.dat, .dat, .dat, .dat, .bor, .dat] .dat xQ):=by
 have nd:(["_law_way","_law_one","_law_other","_law_cell","_law_sizes","_law_letters_here","_law_size","_law_start","_law_end"]:List Str).Nodup:=Cg.nd
 refine iw (d:=DR) (N:=["_law_way","_law_one","_law_other","_law_cell","_law_sizes","_law_letters_here","_law_size","_law_start","_law_end"]) (n:=3) (k:=1) Z 46 76 rfl rfl rfl rfl rfl Cg rfl rfl (.inl rfl) (fun _ _ _ _ _ _ us hl=>match us,hl with|[_,_,_,_,_,_],_=>rfl) (fun f cdv A outer s H E hr tk hp=> ?_)
 exact(eU (fY (i:=6) nd (nD hr.units (jB 4) (d8 (eO 1))))
 (eU (gh (fU (g8 hr.units) ne_eq (d8 (eO 0)) (d8 eX)) (eY (fW (ae1 (Ad Z Zx) (Jt Z) hr (eO 1) (d8 (eO 5)) (d8 (fH iK iQ (d8 (eO 3)) (d8 (gA jf jc (Z.free 0) PySem.boot_len (eG (d8 (eO 5)) fB))))) (d8 (fH jW jX (d8 (eO 3)) (d8 eX)))))) fQ)
 (eU (fY (i:=7) nd (gJ (Ft Z Zx) hr tk (eG (eO 3) (eG (fH iY jd (d8 (eO 6)) (d8 eX)) fB))))
 (eU (gh (fU (g8 hr.units) ne_eq (d8 (eO 0)) (d8 eX)) (eY (fW (jH (eG fV (eG (eO 1) (eG (eO 7) (eG (eO 2) fB))))))) fQ)
 (eU (fY (i:=8) nd (fH iY jd (d8 (eO 7)) (d8 (gJ (Ft Z Zx) hr tk (eG (fH jW jX (d8 (eO 3)) (d8 eX)) (eG (fH oH oG (d8 (fH iY jd (d8 (eO 6)) (d8 eX))) (d8 (eO 7))) fB))))))
 (eY (fW (jH (eG (fO (qp (j7 (eG fV (eG fV fB)))) (d8 (fH jW jX (d8 (eO 0)) (d8 eX)))) (eG (eO 1) (eG (eO 7) (eG (eO 8) fB))))))))))))
theorem QT{P:Program}{w:World}{K:ao}{mg:Str→Option Value}{base:Heap}(Z:nR fa fn K mg)(Zx:qH xs K mg):Has P w K mg base "_law_signs" 1 ["_law_cell","_law_letters_here","_law_most"] (qL K [.dat, .dat, .dat] .dat rF):=by
 have nd:(["_law_cell","_law_letters_here","_law_most","_law_size","_law_signs_here","_law_k"]:List Str).Nodup:=Cq.nd
 refine iw (d:=Eb) (N:=["_law_cell","_law_letters_here","_law_most","_law_size","_law_signs_here","_law_k"]) (n:=3) (k:=0) Z 47 77 rfl rfl rfl rfl rfl Cq rfl rfl (.inl rfl) (fun _ _ _ _ _ _ us hl=>match us,hl with|[_,_,_],_=>rfl) (fun f cdv A outer s H E hr tk hp=> ?_)
 exact(eU (fY (i:=3) nd (fH iY jd (d8 eX) (d8 (fH iK iQ (d8 (eO 0)) (d8 (fO (qp (j7 (eG eX (eG eX (eG eX fB))))) (d8 (fH iK iQ (d8 (fH jW jX (d8 (eO 0)) (d8 eX))) (d8 eX)))))))))
 (eU (fY (i:=4) nd fV)
 (eU (lE hp (Fx (Z.free 3) (d8 (gA (QM rfl) Sw (Z.free 4) (by decide+kernel) (eG (d8 (eO 3)) (eG (d8 (eO 2)) fB))))) (j8 5 nd) (eU (fY (i:=0) nd (fH iK iQ (d8 (fH iY jd (d8 (fH iY jd (d8 (fH lX lW (d8 (eO 0)) (d8 eX))) (d8 (eO 5)))) (d8 eX))) (d8 eX)))
 (eY (fY (i:=4) nd (fH iY jd (d8 (eO 4)) (d8 (fO (d8 (eO 1)) (d8 (fH iK iQ (d8 (fH jW jX (d8 (eO 0)) (d8 eX))) (d8 (gA jf jc (Z.free 0) PySem.boot_len (eG (d8 (eO 1)) fB))))))))))))
 (eY (fW (eO 4))))))
theorem Vo{P:Program}{w:World}{K:ao}{mg:Str→Option Value}{base:Heap}(Z:nR fa fn K mg)(Zx:qH xs K mg):Has P w K mg base "_law_many" 1 ["_law_cell","_law_size","_law_most"] (qL K [.dat, .dat, .dat] .dat vP):=by
 have nd:(["_law_cell","_law_size","_law_most","_law_many_here"]:List Str).Nodup:=DY.nd
 refine iw (d:=Ie) (N:=["_law_cell","_law_size","_law_most","_law_many_here"]) (n:=1) (k:=0) Z 48 78 rfl rfl rfl rfl rfl DY rfl rfl (.inl rfl) (fun _ _ _ _ _ _ us hl=>match us,hl with|[_,_,_],_=>rfl) (fun f cdv A outer s H E hr tk hp=> ?_)
 exact(eU (fY (i:=3) nd (fH iK iQ (d8 (fH jW jX (d8 (eO 0)) (d8 eX))) (d8 eX)))
 (eU (gh (fU (g8 hr.units) ne_eq (d8 (fH iK iQ (d8 (eO 0)) (d8 eX))) (d8 eX)) (eY (fY (i:=3) nd (fH iK iQ (d8 (fH jW jX (d8 (eO 0)) (d8 eX))) (d8 eX)))) fQ)
 (eU (gh (fU (g8 hr.units) ne_eq (d8 (fH iK iQ (d8 (eO 0)) (d8 eX))) (d8 eX)) (eY (fY (i:=3) nd (fH iK iQ (d8 (fH lX lW (d8 (fH jW jX (d8 (eO 0)) (d8 eX))) (d8 eX))) (d8 (fH iY jd (d8 (fH vB ne_pow (d8 eX) (d8 eX))) (d8 eX)))))) fQ)
 (eU (gh (fU (g8 hr.units) ne_eq (d8 (fH iK iQ (d8 (eO 0)) (d8 eX))) (d8 eX)) (eY (fY (i:=3) nd (fH oH oG (d8 (fH vB ne_pow (d8 eX) (d8 eX))) (d8 (fH iK iQ (d8 (fH jW jX (d8 (eO 0)) (d8 eX))) (d8 eX)))))) fQ)
 (eY (fW (gA (ad6 rfl) adD (Z.free 4) (by decide+kernel) (eG (d8 (eO 3)) (eG (d8 (fH jW jX (d8 (eO 2)) (d8 (gA (W3 rfl) XF (Z.free 5) (by decide+kernel) (eG (d8 eX) (eG (d8 (eO 1)) fB)))))) (eG (d8 (fH vB ne_pow (d8 eX) (d8 eX))) fB))))))))))
theorem Vj{P:Program}{w:World}{K:ao}{mg:Str→Option Value}{base:Heap}(Z:nR fa fn K mg)(Zx:qH xs K mg):Has P w K mg base "_law_deed" 3 ["_law_cell","_law_sizes","_law_letters_here","_law_most"] (qL K [.dat, .bor, .dat, .dat] .dat vO):=by
 have nd:(["_law_cell","_law_sizes","_law_letters_here","_law_most","_law_words","_law_way","_law_one","_law_other"]:List Str).Nodup:=Fl.nd
 refine iw (d:=Iv) (N:=["_law_cell","_law_sizes","_law_letters_here","_law_most","_law_words","_law_way","_law_one","_law_other"]) (n:=4) (k:=2) Z 49 79 rfl rfl rfl rfl rfl Fl rfl rfl (.inl rfl) (fun _ _ _ _ _ _ us hl=>match us,hl with|[_,_,_,_],_=>rfl) (fun f cdv A outer s H E hr tk hp=> ?_)
 exact(eU (fY (i:=0) nd (fH iY jd (d8 (fH lX lW (d8 (eO 0)) (d8 eX))) (d8 eX)))
 (eU (fY (i:=4) nd (m9 (Hg (Z.free 36) (jB 1))))
 (eU (fY (i:=5) nd (fH iK iQ (d8 (eO 0)) (d8 eX)))
 (eU (gh (wI (qd (fU (g8 hr.units) ne_eq (d8 (eO 5)) (d8 eX)) (rB (fU (g8 hr.units) ne_eq (d8 (gA jf jc (Z.free 0) PySem.boot_len (eG (d8 (eO 4)) fB))) (d8 eX))))) (eY (fW (jH (eG fV (eG (gJ (QT Z Zx) hr tk (eG (fH jW jX (d8 (eO 0)) (d8 eX)) (eG (eO 2) (eG (eO 3) fB)))) fB))))) fQ)
 (eU (fY (i:=6) nd (fO (d8 (eO 4)) (d8 (fH iK iQ (d8 (fH iK iQ (d8 (fH jW jX (d8 (eO 0)) (d8 eX))) (d8 eX))) (d8 (gA jf jc (Z.free 0) PySem.boot_len (eG (d8 (eO 4)) fB)))))))
 (eU (fY (i:=7) nd (fO (d8 (eO 4)) (d8 (fH iK iQ (d8 (fH iK iQ (d8 (fH jW jX (d8 (eO 0)) (d8 eX))) (d8 eX))) (d8 (gA jf jc (Z.free 0) PySem.boot_len (eG (d8 (eO 4)) fB)))))))
 (eU (gh (wI (CQ (fU afJ (afM _) (d8 (eO 5)) (d8 (jH (eG eX (eG eX (eG eX fB)))))) (yq (fU yV zu (d8 (fH iY jd (d8 (nD hr.units (jB 1) (d8 (eO 6)))) (d8 (nD hr.units (jB 1) (d8 (eO 7)))))) (d8 (eO 3)))))) (eY (fY (i:=5) nd eX)) fQ)
 (eU (gh (fU tL tM (d8 (eO 5)) (d8 eX)) (eY (fW (jH (eG fV (eG (eO 6) (eG (eO 7) fB)))))) fQ)
 (eU (gh (fU tL tM (d8 (eO 5)) (d8 eX)) (eY (fW (jH (eG fV (eG (eO 6) (eG (gJ (Vo Z Zx) hr tk (eG (fH jW jX (d8 (eO 0)) (d8 eX)) (eG (nD hr.units (jB 1) (d8 (eO 6))) (eG (eO 3) fB)))) fB)))))) fQ)
 (eU (gh (fU (g8 hr.units) ne_eq (d8 (eO 5)) (d8 eX)) (eY (fW (jH (eG fV (eG (eO 6) fB))))) fQ)
 (eY (fW (gJ (Rc Z Zx) hr tk (eG (eO 5) (eG (eO 6) (eG (eO 7) (eG (fH jW jX (d8 (eO 0)) (d8 eX)) (eG (jB 1) (eG (eO 2) fB)))))))))))))))))))
theorem Lf{P:Program}{w:World}{K:ao}{mg:Str→Option Value}{base:Heap}(Z:nR fa fn K mg)(Zx:qH xs K mg):Has P w K mg base "_law_written" 1 ["_law_deed_here","_law_texts"] (qL K [.dat, .bor] .dat oZ):=by
 have nd:(["_law_deed_here","_law_texts","_law_one"]:List Str).Nodup:=yR.nd
 refine iw (d:=zY) (N:=["_law_deed_here","_law_texts","_law_one"]) (n:=1) (k:=0) Z 50 80 rfl rfl rfl rfl rfl yR rfl rfl (.inl rfl) (fun _ _ _ _ _ _ us hl=>match us,hl with|[_,_],_=>rfl) (fun f cdv A outer s H E hr tk hp=> ?_)
 exact(eU (gh (fU (g8 hr.units) ne_eq (d8 (oF (d8 (eO 0)) (d8 eX))) (d8 fV)) (eY (fW (oF (d8 (eO 0)) (d8 eX)))) fQ)
 (eU (fY (i:=2) nd (nD hr.units (jB 1) (d8 (oF (d8 (eO 0)) (d8 eX)))))
 (eU (gh (fU (g8 hr.units) ne_eq (d8 (oF (d8 (eO 0)) (d8 eX))) (d8 fV)) (eY (fW (fH iY jd (d8 (eO 2)) (d8 (nD hr.units (jB 1) (d8 (oF (d8 (eO 0)) (d8 eX)))))))) fQ)
 (eU (gh (fU (g8 hr.units) ne_eq (d8 (oF (d8 (eO 0)) (d8 eX))) (d8 fV)) (eY (fW (fH lX lW (d8 (eO 2)) (d8 (oF (d8 (eO 0)) (d8 eX)))))) fQ)
 (eU (gh (fU (g8 hr.units) ne_eq (d8 (oF (d8 (eO 0)) (d8 eX))) (d8 fV)) (eY (fW (Xg (Z.free 53) (d8 (eO 2))))) fQ)
 (eU (gh (fU (g8 hr.units) ne_eq (d8 (oF (d8 (eO 0)) (d8 eX))) (d8 fV)) (eY (fW (afn (ik:=2) (ip:=0) Zx.nb))) fQ)
 (eU (gh (fU (g8 hr.units) ne_eq (d8 (oF (d8 (eO 0)) (d8 eX))) (d8 fV)) (eY (fW (fH iY jd (d8 (fH iY jd (d8 (N7 (d8 (eO 2)) BP (vK (d8 (oF (d8 (eO 0)) (d8 eX)))))) (d8 (nD hr.units (jB 1) (d8 (oF (d8 (eO 0)) (d8 eX))))))) (d8 (N7 (d8 (eO 2)) (vK (d8 (oF (d8 (eO 0)) (d8 eX)))) BP))))) fQ)
 (eU (gh (fU (g8 hr.units) ne_eq (d8 (oF (d8 (eO 0)) (d8 eX))) (d8 fV)) (eY (fW (N7 (d8 (eO 2)) (vK (d8 (oF (d8 (eO 0)) (d8 eX)))) (vK (d8 (oF (d8 (eO 0)) (d8 eX))))))) fQ)
 (eY (fW (fH iY jd (d8 (N7 (d8 (eO 2)) BP (vK (d8 (oF (d8 (eO 0)) (d8 eX)))))) (d8 (N7 (d8 (eO 2)) (vK (d8 (oF (d8 (eO 0)) (d8 eX)))) BP)))))))))))))
theorem xX{P:Program}{w:World}{K:ao}{mg:Str→Option Value}{base:Heap}(Z:nR fa fn K mg)(Zx:qH xs K mg):Has P w K mg base "_law_whole" 1 ["_law_found"] (qL K [.dat] .dat nO):=by
 have nd:(["_law_found"]:List Str).Nodup:=BZ.nd
 refine iw (d:=Em) (N:=["_law_found"]) (n:=0) (k:=0) Z 51 82 rfl rfl rfl rfl rfl BZ rfl rfl (.inl rfl) (fun _ _ _ _ _ _ us hl=>match us,hl with|[_],_=>rfl) (fun f cdv A outer s H E hr tk hp=> ?_)
 exact(eY (fW (GD (d8 (vD "int" PyProof.Rows.boot_int adt (Z.free 11) (Z.free 20) (d8 (eO 0)))) (G3 (aft (d8 (vD "bool" PyProof.Rows.boot_bool ab5 (Z.free 11) (Z.free 81) (d8 (eO 0)))))))))
theorem G6{P:Program}{w:World}{K:ao}{mg:Str→Option Value}{base:Heap}(Z:nR fa fn K mg)(Zx:qH xs K mg):Has P w K mg base "_law_good_rule" 2 ["_law_rule","_law_k"] (qL K [.dat, .dat] .dat lg):=by
 have nd:(["_law_rule","_law_k"]:List Str).Nodup:=vR.nd
 refine iw (d:=xO) (N:=["_law_rule","_law_k"]) (n:=0) (k:=1) Z 52 83 rfl rfl rfl rfl rfl vR rfl rfl (.inl rfl) (fun _ _ _ _ _ _ us hl=>match us,hl with|[_,_],_=>rfl) (fun f cdv A outer s H E hr tk hp=> ?_)
 exact(eU (gh (wI (qd (mW (qD (d8 (vD "tuple" PyProof.Rows.boot_tuple kit_tuple (Z.free 11) (Z.free 40) (d8 (eO 0)))))) (qd (fU tL tM (d8 (gA jf jc (Z.free 0) PySem.boot_len (eG (d8 (eO 0)) fB))) (d8 eX)) (rB (mW (qD (d8 (vD "str" PyProof.Rows.boot_str JD (Z.free 11) (Z.free 12) (d8 (fO (d8 (eO 0)) (d8 eX))))))))))) (eY (fW wu)) fQ)
 (eU (gh (wI (CQ (fU (g8 hr.units) ne_eq (d8 (fO (d8 (eO 0)) (d8 eX))) (d8 fV)) (yq (fU (g8 hr.units) ne_eq (d8 (gA jf jc (Z.free 0) PySem.boot_len (eG (d8 (eO 0)) fB))) (d8 eX))))) (eY (fW (GD (d8 (vD "str" PyProof.Rows.boot_str JD (Z.free 11) (Z.free 12) (d8 (fO (d8 (eO 0)) (d8 eX))))) (GD (d8 (yg (g8 hr.units) ne_eq (d8 (gA jf jc (Z.free 0) PySem.boot_len (eG (d8 (fO (d8 (eO 0)) (d8 eX))) fB))) (d8 eX))) (G3 (aeu (d8 (aci Txt.isalpha F.slot_str_isalpha F.type_str_isalpha mt_isalpha (d8 (fO (d8 (eO 0)) (d8 eX))))) (G3 (aci Txt.isdigit F.slot_str_isdigit F.type_str_isdigit mt_isdigit (d8 (fO (d8 (eO 0)) (d8 eX))))))))))) fQ)
 (eU (gh (wI (qd (fU (yO hr.units) yP (d8 (gA jf jc (Z.free 0) PySem.boot_len (eG (d8 (eO 0)) fB))) (d8 eX)) (qd (mW (qD (d8 (gJ (xX Z Zx) hr tk (eG (fO (d8 (eO 0)) (d8 eX)) fB))))) (qd (mW (tH tO tL sW tM (d8 eX) (d8 (fO (d8 (eO 0)) (d8 eX))) (d8 (eO 1)))) (rB (mW (qD (d8 (gJ (xX Z Zx) hr tk (eG (fO (d8 (eO 0)) (d8 eX)) fB)))))))))) (eY (fW wu)) fQ)
 (eU (gh (fU (g8 hr.units) ne_eq (d8 (fO (d8 (eO 0)) (d8 eX))) (d8 fV)) (eY (fW (V6 tO tL sW tM (d8 eX) (d8 (fO (d8 (eO 0)) (d8 eX))) (d8 (eO 1))))) fQ)
 (eY (fW (GD (d8 (yg (g8 hr.units) ne_eq (d8 (fO (d8 (eO 0)) (d8 eX))) (d8 fV))) (G3 (V6 tO tO sW sW (d8 eX) (d8 (fO (d8 (eO 0)) (d8 eX))) (d8 (fH vB ne_pow (d8 eX) (d8 eX))))))))))))
theorem Vt{P:Program}{w:World}{K:ao}{mg:Str→Option Value}{base:Heap}(Z:nR fa fn K mg)(Zx:qH xs K mg):Has P w K mg base "_law_told" 3 ["_law_found","_law_words"] (qL K [.dat, .dat] .dat Aq):=by
 have nd:(["_law_found","_law_words","_law_k","_law_pair","_law_word_here"]:List Str).Nodup:=Ed.nd
 refine iw (d:=Ik) (N:=["_law_found","_law_words","_law_k","_law_pair","_law_word_here"]) (n:=3) (k:=2) Z 53 84 rfl rfl rfl rfl rfl Ed rfl rfl (.inl rfl) (fun _ _ _ _ _ _ us hl=>match us,hl with|[_,_],_=>rfl) (fun f cdv A outer s H E hr tk hp=> ?_)
 exact(eU (gh (wI (qd (mW (qD (d8 (vD "tuple" PyProof.Rows.boot_tuple kit_tuple (Z.free 11) (Z.free 40) (d8 (eO 0)))))) (qd (fU (yO hr.units) yP (d8 (gA jf jc (Z.free 0) PySem.boot_len (eG (d8 (eO 0)) fB))) (d8 eX)) (rB (mW (qD (d8 (vD "tuple" PyProof.Rows.boot_tuple kit_tuple (Z.free 11) (Z.free 40) (d8 (fO (d8 (eO 0)) (d8 eX))))))))))) (eY (fW wu)) fQ)
 (eU (gh (wI (qd (mW (qD (d8 (vD "list" PyProof.Rows.boot_list aaY (Z.free 11) (Z.free 2) (d8 (fO (d8 (eO 0)) (d8 eX))))))) (rB (fU (yO hr.units) yP (d8 (gA jf jc (Z.free 0) PySem.boot_len (eG (d8 (fO (d8 (eO 0)) (d8 eX))) fB))) (d8 (gA jf jc (Z.free 0) PySem.boot_len (eG (d8 (eO 1)) fB))))))) (eY (fW wu)) fQ)
 (eU (lE hp (Fx (Z.free 3) (d8 (gA jf jc (Z.free 0) PySem.boot_len (eG (d8 (fO (d8 (eO 0)) (d8 eX))) fB)))) (j8 2 nd) (eY (gh (mW (qD (d8 (gJ (G6 Z Zx) hr tk (eG (fO (d8 (fO (d8 (eO 0)) (d8 eX))) (d8 (eO 2))) (eG (eO 2) fB)))))) (eY (fW wu)) fQ)))
 (eU (lE hp (afE (Z.free 26) (eG (fO (d8 (eO 0)) (d8 eX)) (eG (eO 1) fB))) (zE (gQ (j8 3 nd) (gQ (j8 4 nd) mF))) (eU (gh (wI (qd (mW (qD (d8 (vD "tuple" PyProof.Rows.boot_tuple kit_tuple (Z.free 11) (Z.free 40) (d8 (eO 3)))))) (qd (fU (yO hr.units) yP (d8 (gA jf jc (Z.free 0) PySem.boot_len (eG (d8 (eO 3)) fB))) (d8 eX)) (qd (mW (qD (d8 (vD "str" PyProof.Rows.boot_str JD (Z.free 11) (Z.free 12) (d8 (fO (d8 (eO 3)) (d8 eX))))))) (rB (fU (yO hr.units) yP (d8 (fO (d8 (eO 3)) (d8 eX))) (d8 (eO 4)))))))) (eY (fW wu)) fQ)
 (eY (gh (wI (CQ (fU Ut VH (d8 (fO (d8 (eO 3)) (d8 eX))) (d8 jY)) (yq (wI (qd (mW (qD (d8 (gJ (xX Z Zx) hr tk (eG (fO (d8 (eO 3)) (d8 eX)) fB))))) (rB (mW (tH tO tL sW tM (d8 eX) (d8 (fO (d8 (eO 3)) (d8 eX))) (d8 (gA jf jc (Z.free 0) PySem.boot_len (eG (d8 (fO (d8 (eO 0)) (d8 eX))) fB))))))))))) (eY (fW wu)) fQ))))
 (eY (fW (aeu (d8 (yg (g8 hr.units) ne_eq (d8 (gA jf jc (Z.free 0) PySem.boot_len (eG (d8 (fO (d8 (eO 0)) (d8 eX))) fB))) (d8 eX))) (G3 (yg tO sW (d8 (gA (W3 rfl) XF (Z.free 5) (by decide+kernel) (eG (qp (gJ (Ak Z Zx) hr tk (eG (fO (d8 (eO 0)) (d8 eX)) fB))) fB))) (d8 (fH vB ne_pow (d8 eX) (d8 eX))))))))))))
theorem Xf{P:Program}{w:World}{K:ao}{mg:Str→Option Value}{base:Heap}(Z:nR fa fn K mg)(Zx:qH xs K mg):Has P w K mg base "_law_row" 1 ["_law_new","_law_deed_here"] (qL K [.dat, .dat] .dat vg):=by
 have nd:(["_law_new","_law_deed_here","_law_part"]:List Str).Nodup:=Im.nd
 refine iw (d:=Ks) (N:=["_law_new","_law_deed_here","_law_part"]) (n:=1) (k:=0) Z 54 85 rfl rfl rfl rfl rfl Im rfl rfl (.inl rfl) (fun _ _ _ _ _ _ us hl=>match us,hl with|[_,_],_=>rfl) (fun f cdv A outer s H E hr tk hp=> ?_)
 exact(eY (fW (JH (d8 fV) (d8 (fH iY jd (qp (j7 (eG (eO 0) fB))) (qp (Y6 (own:=[("_law_part",2)]) nd (Gx (agt (eO 1))) (blkOk_by (own:=[("_law_part",2)]) (N:=["_law_new","_law_deed_here","_law_part"]) (sc:=defScope uZ) (by decide+kernel)) (Pg 2) (fun _ _ _ _ _=>pg_name (i:=2) nd rfl (Or.inl rfl)) (fun _ _ _ _ _=>BV) (fun _ _ _ _ _=>(jK afK adF (Z.free 12) (by decide+kernel) (eG (d8 (eO 2)) fB))))))))))
theorem KD{P:Program}{w:World}{K:ao}{mg:Str→Option Value}{base:Heap}(Z:nR fa fn K mg)(Zx:qH xs K mg):Has P w K mg base "_law_sign_at" 1 ["_law_rules","_law_sizes","_law_name","_law_place_here"] (qL K [.dat, .dat, .dat, .dat] .dat oR):=by
 have nd:(["_law_rules","_law_sizes","_law_name","_law_place_here","_law_one"]:List Str).Nodup:=yS.nd
 refine iw (d:=Ao) (N:=["_law_rules","_law_sizes","_law_name","_law_place_here","_law_one"]) (n:=1) (k:=0) Z 55 86 rfl rfl rfl rfl rfl yS rfl rfl (.inl rfl) (fun _ _ _ _ _ _ us hl=>match us,hl with|[_,_,_,_],_=>rfl) (fun f cdv A outer s H E hr tk hp=> ?_)
 exact(eU (zM hp (fU (yO hr.units) yP (d8 (fO (d8 (fO (d8 (eO 0)) (d8 (eO 2)))) (d8 eX))) (d8 fV)) (eU (fY (i:=4) nd (fO (d8 (fO (d8 (eO 0)) (d8 (eO 2)))) (d8 eX)))
 (eY (gh (fU (g8 hr.units) ne_eq (d8 (fO (d8 (fO (d8 (eO 0)) (d8 (eO 2)))) (d8 eX))) (d8 fV)) (eU (fY (i:=3) nd (fH iK iQ (d8 (eO 3)) (d8 (fO (d8 (eO 1)) (d8 (eO 4))))))
 (eY (fY (i:=2) nd (eO 4)))) (eY (gh (fU tL tM (d8 (eO 3)) (d8 (fO (d8 (eO 1)) (d8 (eO 4))))) (eY (fY (i:=2) nd (eO 4))) (eU (fY (i:=3) nd (fH oH oG (d8 (eO 3)) (d8 (fO (d8 (eO 1)) (d8 (eO 4))))))
 (eY (fY (i:=2) nd (fO (d8 (fO (d8 (eO 0)) (d8 (eO 2)))) (d8 eX)))))))))))
 (eY (fW (fO (d8 (fO (d8 (eO 0)) (d8 (eO 2)))) (d8 eX)))))
theorem Vk{P:Program}{w:World}{K:ao}{mg:Str→Option Value}{base:Heap}(Z:nR fa fn K mg)(Zx:qH xs K mg):Has P w K mg base "_law_text" 2 ["_law_rules","_law_sizes","_law_name"] (qL K [.dat, .dat, .dat] .dat qJ):=by
 have nd:(["_law_rules","_law_sizes","_law_name","_law_place_here"]:List Str).Nodup:=FT.nd
 refine iw (d:=Je) (N:=["_law_rules","_law_sizes","_law_name","_law_place_here"]) (n:=1) (k:=1) Z 56 87 rfl rfl rfl rfl rfl FT rfl rfl (.inl rfl) (fun _ _ _ _ _ _ us hl=>match us,hl with|[_,_,_],_=>rfl) (fun f cdv A outer s H E hr tk hp=> ?_)
 exact(eU (gh (fU yU ne_is (d8 (eO 2)) (d8 jY)) (eY (fW fV)) fQ)
 (eU (gh (fU yV zu (d8 (fO (d8 (eO 1)) (d8 (eO 2)))) (d8 eX)) (eY (fW fV)) fQ)
 (eY (fW (JH (d8 fV) (qp (Y6 (own:=[("_law_place_here",3)]) nd (Gx (Fx (Z.free 3) (d8 (fO (d8 (eO 1)) (d8 (eO 2)))))) (blkOk_by (own:=[("_law_place_here",3)]) (N:=["_law_rules","_law_sizes","_law_name","_law_place_here"]) (sc:=defScope tK) (by decide+kernel)) (Pg 3) (fun _ _ _ _ _=>pg_name (i:=3) nd rfl (Or.inl rfl)) (fun _ _ _ _ _=>BV) (fun _ _ _ _ _=>(gJ (KD Z Zx) hr takes0 (eG (eO 0) (eG (eO 1) (eG (eO 2) (eG (eO 3) fB)))))))))))))
theorem agD{P:Program}{w:World}{K:ao}{mg:Str→Option Value}{base:Heap}(Z:nR fa fn K mg)(Zx:qH xs K mg):Has P w K mg base "law" 11 ["_law_script"] (qL K [.dat] .dat V4):=by
 have nd:(["_law_script","_law_draws_here","_law_words","_law_letters_here","_law_texts","_law_sizes","_law_rows","_law_cell","_law_found","_law_longs","_law_word_here","_law_name","_law_new","_law_deed_here","_law_k"]:List Str).Nodup:=acO.nd
 refine iw (d:=abZ) (N:=["_law_script","_law_draws_here","_law_words","_law_letters_here","_law_texts","_law_sizes","_law_rows","_law_cell","_law_found","_law_longs","_law_word_here","_law_name","_law_new","_law_deed_here","_law_k"]) (n:=14) (k:=10) Z 57 88 rfl rfl rfl rfl rfl acO rfl rfl (.inl rfl) (fun _ _ _ _ _ _ us hl=>match us,hl with|[_],_=>rfl) (fun f cdv A outer s H E hr tk hp=> ?_)
 exact(eU (fY (i:=1) nd (m9 (gJ (RM Z Zx) hr tk (eG (eO 0) (eG eX (eG eX fB))))))
 (eU (acA (i:=2) (own:=[("_law_k",14)]) nd (sw_true rfl rfl rfl (by decide+kernel)) (Gx (Fx (Z.free 3) (d8 eX))) (blkOk_by (own:=[("_law_k",14)]) (N:=["_law_script","_law_draws_here","_law_words","_law_letters_here","_law_texts","_law_sizes","_law_rows","_law_cell","_law_found","_law_longs","_law_word_here","_law_name","_law_new","_law_deed_here","_law_k"]) (sc:=defScope Wn) (by decide+kernel)) (Pg 14) (fun _ _ _ _ _=>pg_name (i:=14) nd rfl (Or.inl rfl)) (fun _ _ _ _ _=>BV) (fun _ _ _ _ _=>(gJ (VJ Z Zx) hr takes0 (eG (fO (d8 (eO 1)) (d8 eX)) (eG (eO 14) fB)))))
 (eU (fY (i:=3) nd (gJ (K9 Z Zx) hr tk (eG (fO (d8 (eO 1)) (d8 eX)) fB)))
 (eU (jL (i:=4) nd Bs)
 (eU (jL (i:=5) nd Bs)
 (eU (jL (i:=6) nd (j7 fB))
 (eU (lE hp (U5 (N7 (d8 (eO 1)) (vK (d8 eX)) BP)) (j8 7 nd) (eU (fY (i:=12) nd (fO (d8 (eO 2)) (d8 (fH iK iQ (d8 (eO 7)) (d8 eX)))))
 (eU (fY (i:=13) nd (gJ (Vj Z Zx) hr tk (eG (fH jW jX (d8 (eO 7)) (d8 eX)) (eG (jB 5) (eG (eO 3) (eG eX fB))))))
 (eU (xU 4 hr.units (d8 (eO 12)) (gJ (Lf Z Zx) hr tk (eG (eO 13) (eG (jB 4) fB))))
 (eU (xU 5 hr.units (d8 (eO 12)) (gA jf jc (Z.free 0) PySem.boot_len (eG (d8 (nD hr.units (jB 4) (d8 (eO 12)))) fB)))
 (eY (rP (i:=6) (gJ (Xf Z Zx) hr tk (eG (eO 12) (eG (eO 13) fB))))))))))
 (eU (fY (i:=8) nd (gJ (ab3 Z Zx) hr tk (eG (JH (d8 fV) (jB 6)) fB)))
 (eU (gh (mW (qD (d8 (gJ (Vt Z Zx) hr tk (eG (eO 8) (eG (m9 (Hg (Z.free 36) (jB 4))) fB)))))) (eY (fW wu)) fQ)
 (eU (fY (i:=9) nd (m9 (gJ (Ak Z Zx) hr tk (eG (fO (d8 (eO 8)) (d8 eX)) fB))))
 (eU (lE hp (U5 (fO (d8 (eO 8)) (d8 eX))) (zE (gQ (j8 10 nd) (gQ (j8 11 nd) mF))) (eY (gh (wI (qd (fU (yO hr.units) yP (d8 (gJ (Vk Z Zx) hr tk (eG (fO (d8 (eO 8)) (d8 eX)) (eG (eO 9) (eG (eO 11) fB))))) (d8 (nD hr.units (jB 4) (d8 (eO 10))))) (rB (fU (yO hr.units) yP (d8 (yg yU ne_is (d8 (eO 11)) (d8 jY))) (d8 (yg (g8 hr.units) ne_eq (d8 (nD hr.units (jB 4) (d8 (eO 10)))) (d8 fV))))))) (eY (fW wu)) fQ)))
 (eY (fW (yg (g8 hr.units) ne_eq (d8 (fO (d8 (gJ (ab3 Z Zx) hr tk (eG fV fB))) (d8 eX))) (qp (j7 fB))))))))))))))))
abbrev R:PySem.W.OpenRow:=PySem.W.OpenLaw.row PySem.Challenge.rw_shortbook_k62_whole_telling_written_out
abbrev hk:PySem.W.Hook:=hookX 5 fa fn xs
def ob(s:PySem.W.SharedT):He.AlD×Bool:=obsX 5 fa fn xs (HandSHeadRun.getT s)
theorem agu(s:PySem.W.SharedT):ob s=hk.obs s.abs:=obsX_eq (HandSHeadRun.getT_eq s)
def loose:List Str:=(["BookError","TooLong","NoName","NoPlace","NoText","NoWord","SIGNS","is_sign","MOST","size_of","parts_of","needed","named","lengths","length","put","linked","over","renamed","joined","repeated","brought","beginning","ending","across"]:List Str)++(["cut","tidy","turned","otherwise","FIGURES","LETTERS","WORD","NUMBER","WRITTEN","PATTERN","is_word","number_of","signs_of","value_of","values_of","kinds_of","statement_of","ask_standing","spelled_rules","side_by_side","put_in","taken_out","of_two","of_one","made_text"]:List Str)++(["texts_of","read","_law_mixed","_law_draws","_law_sign_by","_law_place","_law_verbs","_law_word","_law_letters","_law_signs","_law_many","_law_inner","_law_deed","_law_row","_law_whole","_law_good_rule","_law_lengths","_law_told","_law_length","_law_sign_at","_law_written","_law_text"]:List Str)
theorem runs(w:World):HandSHeadRun.RunEq R (PySem.W.view R.prog [83]) hk ob 4000 loose w:=by
 intro os
 kernel_rfl
theorem ad0{P:Program}{w:World}{K:ao}{mg:Str→Option Value}(Z:nR fa fn K mg)(Zx:qH xs K mg):∃fd:FuncData,(∀(s:Shared) (v:Value),BindsTo s fd ⟨[v],[]⟩ [("_law_script",v)])∧∀base:Heap,FnOk P w K mg base (L2.CX P w) 11 (He.ga K "law") fd ["_law_script"] (qL K [.dat] .dat V4):=
 afC Z 57 (d:=abZ) rfl rfl rfl (fun base=>agD (P:=P) (w:=w) (base:=base) Z Zx) (fun _ _ _ _ _ _ us hl=>match us,hl with|[_],_=>rfl)
theorem holds_of(hm:∀ns:List Int,ns.length≤63→(∀z∈ns,Builtin.Int.intBits z≤1048576)→V4 [.list (ns.map aD)]= .ok (.bool true)):PySem.Challenge.rw_shortbook_k62_whole_telling_written_out.Holds:=by
 w_on;o_law
 refine HandSHeadRun.head_any (r:=PySem.W.OpenLaw.row PySem.Challenge.rw_shortbook_k62_whole_telling_written_out) (q:=PySem.W.view (PySem.W.OpenLaw.row PySem.Challenge.rw_shortbook_k62_whole_telling_written_out).prog [83]) (H:=hk) (ob:=ob) (M:=4000) (loose:=loose) (d:=HandSHeadRun.topDef (PySem.W.OpenLaw.row PySem.Challenge.rw_shortbook_k62_whole_telling_written_out).prog 83) (kwd:=[]) agu
  (by kernel_rfl) (fun s=>by kernel_rfl) runs (by kernel_rfl) (by kernel_rfl) (by kernel_rfl) (by rfl) (by first|assumption|decide+kernel) (by decide+kernel) ⟨rfl,rfl,rfl,rfl,rfl,by decide+kernel⟩ ?hw ?hc
 case hw=>w_witness2
 case hc=>
  refine adG (l:=PySem.Challenge.rw_shortbook_k62_whole_telling_written_out) (n:=63) (k:=11) (x:="_law_script") rfl (by decide) (by kernel_rfl) ⟨rfl,by decide,by decide⟩ ?F
  intro w mg f h Y G hmg0
  obtain⟨K,KX,c,cx⟩:=Y
  have Z:nR fa fn K mg:=⟨c,h,KX,G⟩
  have Zx:qH xs K mg:=qH.of KX G cx
  have hmg:mg ("law":PySem.Str)=some (.ref f):=by
   have e:(HandSHeadRun.topDef (PySem.W.OpenLaw.row PySem.Challenge.rw_shortbook_k62_whole_telling_written_out).prog 83).name=("law":PySem.Str):=by kernel_rfl
   rw [←e]
   exact hmg0
  have e2:f=He.ga K "law":=by
   have z:=hmg.symm.trans (Z.glo 88 (x:="law"))
   cases z
   rfl
  subst e2
  obtain⟨fd,hb,hF⟩:=ad0 (P:=(PySem.Challenge.rw_shortbook_k62_whole_telling_written_out).prog) (w:=w) Z Zx
  exact⟨K,fd,qL K [.dat] .dat V4,KX,hb,fun H a ns hl hbits _ hS=>afx hS (hm ns hl hbits),fun base _ _=>hF base⟩
end Sb
set_option maxRecDepth 10000000
namespace Sb
open PySem PySem.Spec L2 Evl DL
theorem ac7{z:Int}{n:Nat}(h:Builtin.Int.intBits z≤n):z.natAbs.log2≤n:=by
 unfold Builtin.Int.intBits at h
 split at h
 ·rename_i e
  have:z=0:=by simpa using e
  subst this
  simp
 ·omega
theorem aat{i j:Int}(a:Nat)(hi:Builtin.Int.intBits i≤1048576)(hj:j.natAbs<2 ^ a)(ha:a≤1000:=by decide):jZ (.int i) (.int j)= .ok (.int (i*j)):=
 Zh (by
  have h1:=ac7 hi
  have h2:=FZ hj
  unfold wD
  omega)
theorem tG{n:Nat}(h:n≤16777000):n≤sizeLine:=bf h (by decide)
theorem lY{n:Nat}(h:n<16777000):n<sizeLine:=dF h (by decide)
abbrev SG:Str:="0123456789ABCDEFGHIJKLMNOPQRSTUVWXYZabcdefghijklmnopqrstuvwxyz"
def Hi:List Nat:=SG.cps.toList
theorem Zm:Hi.length=62:=by decide+kernel
theorem ab9:SG.length≤sizeLine:=by decide+kernel
abbrev s1(c:Nat):Str:=⟨#[c]⟩
abbrev SIGN:Str:="sign"
abbrev JOIN:Str:="join"
abbrev TIMES:Str:="times"
theorem js:¬(JOIN=SIGN):=by decide+kernel
theorem ts:¬(TIMES=SIGN):=by decide+kernel
theorem tj:¬(TIMES=JOIN):=by decide+kernel
theorem sj:¬(SIGN=JOIN):=by decide+kernel
theorem st:¬(SIGN=TIMES):=by decide+kernel
theorem jt:¬(JOIN=TIMES):=by decide+kernel
inductive Rule where
 |sign (c:Nat)|join (a b:Nat)|times (a n:Nat)
 deriving DecidableEq
def fJ:Rule→D
 | .sign c=> .tuple [.str SIGN, .str (s1 c)]
 | .join a b=> .tuple [.str JOIN, .int (a:Int), .int (b:Int)]
 | .times a n=> .tuple [.str TIMES, .int (a:Int), .int (n:Int)]
def fu(rs:List Rule):D:= .tuple (rs.map fJ)
def fL(ns:List Nat):D:= .list (ns.map fun(n:Nat)=>aD (n:Int))
def MOST:Nat:=1152921504606846976
def Rule.ok(i:Nat):Rule→Prop
 | .sign c=>c∈Hi
 | .join a b=>a<i∧b<i
 | .times a n=>a<i∧1≤n∧n≤MOST
def Rule.size(sz:List Nat):Rule→Nat
 | .sign _=>1
 | .join a b=>sz.getD a 0+sz.getD b 0
 | .times a n=>sz.getD a 0*n
def Bc(acc:List Nat)(rs:List Rule):List Nat:=rs.foldl (fun acc r=>acc++[r.size acc]) acc
def sizes(rs:List Rule):List Nat:=Bc [] rs
theorem Yq(rs:List Rule):∀acc,(Bc acc rs).length=acc.length+rs.length:=by
 induction rs with
 |nil=>intro acc;simp [Bc]
 |cons r rs ih=>
  intro acc
  have:=ih (acc++[r.size acc])
  simp [Bc] at this⊢
  omega
theorem j5(rs:List Rule):(sizes rs).length=rs.length:=by simp [sizes,Yq]
theorem rQ(rs:List Rule)(r:Rule):sizes (rs++[r])=sizes rs++[r.size (sizes rs)]:=by simp [sizes,Bc]
def Good(rs:List Rule):Prop:=∀(i:Nat) r,rs[i]? =some r→r.ok i
theorem Good.snoc{rs:List Rule}{r:Rule}(h:Good rs)(hr:r.ok rs.length):Good (rs++[r]):=fun i q e=>by
 rcases Nat.lt_or_ge i rs.length with hl|hg
 ·rw [aO hl] at e
  exact h i q e
 ·rw [bG hg] at e
  have e0:i-rs.length=0:=by
   cases z:i-rs.length with
   |zero=>rfl
   |succ n=>
    rw [z] at e
    simp at e
  rw [e0] at e
  have ei:i=rs.length:=by omega
  subst ei
  have:q=r:=by simpa using e.symm
  rw [this]
  exact hr
theorem Good.nil:Good []:=fun i r e=>by simp at e
theorem Good.init{rs:List Rule}{r:Rule}(h:Good (rs++[r])):Good rs∧r.ok rs.length:=by
 refine⟨fun i q e=>h i q ?_,h rs.length r (by simp)⟩
 rw [aO (aq.mp e).1]
 exact e
def Fits(m:Nat)(rs:List Rule):Prop:=∀n∈sizes rs,n≤m
theorem snocInd{α:Type}{P:List α→Prop}(h0:P [])(hs:∀l a,P l→P (l++[a])):∀l,P l:=by
 have key:∀l:List α,P l.reverse:=by
  intro l
  induction l with
  |nil=>exact h0
  |cons a l ih=>
   rw [List.reverse_cons]
   exact hs _ _ ih
 intro l
 have:=key l.reverse
 rw [List.reverse_reverse] at this
 exact this
theorem Px(rs qs:List Rule):∃zs,sizes (rs++qs)=sizes rs++zs:=by
 refine snocInd (P:=fun qs=>∃zs,sizes (rs++qs)=sizes rs++zs) ⟨[],by simp⟩ ?_ qs
 rintro l a ⟨zs,h⟩
 refine⟨zs++[a.size (sizes (rs++l))],?_⟩
 rw [←aF,rQ,h,aF]
theorem Fits.pre{m:Nat}{rs qs:List Rule}(h:Fits m (rs++qs)):Fits m rs:=fun n hn=>by
 obtain⟨zs,e⟩:=Px rs qs
 exact h n (by rw [e];exact cA _ hn)
theorem Fits.take{m:Nat}{rs:List Rule}(h:Fits m rs)(i:Nat):Fits m (rs.take i):=Fits.pre (qs:=rs.drop i) (by rw [bO];exact h)
def Pos(rs:List Rule):Prop:=∀n∈sizes rs,1≤n
theorem size_pos{sz:List Nat}{r:Rule}(h:∀n∈sz,1≤n)(hr:r.ok sz.length):1≤r.size sz:=by
 have g:∀a,a<sz.length→1≤sz.getD a 0:=fun a ha=>by
  have e:sz.getD a 0=sz[a]:=by simp [bJ,ha]
  rw [e]
  exact h _ (dG ha)
 cases r with
 |sign c=>exact bA _
 |join a b=>
  have:=g a hr.1
  show 1≤sz.getD a 0+sz.getD b 0
  omega
 |times a n=>
  have h1:=g a hr.1
  have h2:=hr.2.1
  exact Nat.mul_pos h1 h2
theorem Va:∀(rs:List Rule),Good rs→Pos rs:=by
 refine snocInd ?_ ?_
 ·intro _ n hn
  simp [sizes,Bc] at hn
 ·intro rs r ih h n hn
  obtain⟨h1,h2⟩:=h.init
  rw [rQ,aR] at hn
  rcases hn with hn|hn
  ·exact ih h1 n hn
  ·have:n=r.size (sizes rs):=by simpa using hn
   rw [this]
   exact size_pos (ih h1) (by rw [j5];exact h2)
theorem kY{ns:List Nat}{a:Nat}(h:a<ns.length):gj (fL ns) (.int (a:Int))= .ok (.int (ns.getD a 0:Nat)):=by
 unfold fL
 rw [abr (by omega) (by simpa using h)]
 simp [bJ,h]
@[simp] theorem ig (a:D) (r:List D):gj (.tuple (a::r)) (.int 0)= .ok a:=by
 rw [ZK (by decide) (by simp)]
 rfl
@[simp] theorem iD (a b:D) (r:List D):gj (.tuple (a::b::r)) (.int 1)= .ok b:=by
 rw [ZK (by decide) (by simp;omega)]
 rfl
@[simp] theorem nH (a b c:D) (r:List D):gj (.tuple (a::b::c::r)) (.int 2)= .ok c:=by
 rw [ZK (by decide) (by simp;omega)]
 rfl
theorem QD{n a:Nat}(h:n<2 ^ a):((n:Int)).natAbs<2 ^ a:=by simpa using h
theorem T6{m n:Nat}(a b:Nat)(hm:m<2 ^ a)(hn:n<2 ^ b)(h:a+b<wD:=by decide):jZ (.int (m:Int)) (.int (n:Int))= .ok (.int ((m*n:Nat):Int)):=by
 rw [Zw a b (QD hm) (QD hn) h]
 simp
theorem RL{sz:List Nat}{m a:Nat}(h:∀n∈sz,n≤m):sz.getD a 0≤m:=by
 by_cases ha:a<sz.length
 ·have e:sz.getD a 0=sz[a]:=by simp [bJ,ha]
  rw [e]
  exact h _ (dG ha)
 ·have e:sz.getD a 0=0:=by simp [bJ,Nat.le_of_not_lt ha]
  omega
theorem aeX{ks:List Kd}{n:Nat}{m:SM}{ds:List D}{d:D}(h:m (jV ks ds++aC n .un)= .rt d):jF ks n m ds= .ok d:=by simp [jF,h]
theorem afy{ks:List Kd}{n:Nat}{m:SM}{ds:List D}{ρ:DL.Env}(h:m (jV ks ds++aC n .un)= .nx ρ):jF ks n m ds= .ok .none:=by simp [jF,h]
end Sb
namespace Sb
open PySem PySem.Spec L2 Evl DL
theorem sH{rs:List Rule}{i:Nat}(h:i<rs.length)(qs:List Rule):(sizes (rs++qs)).getD i 0=(sizes rs).getD i 0:=by
 obtain⟨zs,e⟩:=Px rs qs
 have hl:i<(sizes rs).length:=by rw [j5];exact h
 rw [e]
 simp [bJ,aO hl]
theorem uR(rs:List Rule)(r:Rule):(sizes (rs++[r])).getD rs.length 0=r.size (sizes rs):=by
 rw [rQ]
 have hl:=j5 rs
 simp [bJ,←hl]
theorem Good.pre{rs qs:List Rule}(h:Good (rs++qs)):Good rs:=fun i r e=>h i r (by rw [aO (aq.mp e).1];exact e)
theorem Good.take{rs:List Rule}(h:Good rs)(i:Nat):Good (rs.take i):=Good.pre (qs:=rs.drop i) (by rw [bO];exact h)
theorem Fits.snoc{m:Nat}{rs:List Rule}{r:Rule}(h:Fits m rs)(hr:r.size (sizes rs)≤m):Fits m (rs++[r]):=fun n hn=>by
 rw [rQ,aR] at hn
 rcases hn with hn|hn
 ·exact h n hn
 ·have:n=r.size (sizes rs):=by simpa using hn
  omega
theorem Fits.get{m:Nat}{rs:List Rule}(h:Fits m rs)(i:Nat):(sizes rs).getD i 0≤m:=RL h
theorem Pos.get{rs:List Rule}(g:Good rs){i:Nat}(h:i<rs.length):1≤(sizes rs).getD i 0:=by
 have hl:i<(sizes rs).length:=by rw [j5];exact h
 have e:(sizes rs).getD i 0=(sizes rs)[i]:=by simp [bJ,hl]
 rw [e]
 exact Va rs g _ (dG hl)
def Start(rs:List Rule):Prop:=∃s t tl,rs= .sign s:: .sign t::tl
theorem Start.app{rs:List Rule}(h:Start rs)(qs:List Rule):Start (rs++qs):=by
 obtain⟨s,t,tl,rfl⟩:=h
 exact⟨s,t,tl++qs,rfl⟩
theorem Start.size{rs:List Rule}(h:Start rs):(sizes rs).getD 0 0=1:=by
 obtain⟨s,t,tl,rfl⟩:=h
 exact sH (rs:=[.sign s]) (i:=0) (Nat.zero_lt_one) (.sign t::tl)
theorem sG(rs:List Rule):je [fu rs]= .ok (.int ((rs.length:Nat):Int)):=by simp [fu]
theorem W7(rs qs:List Rule)(h:rs.length+qs.length≤16700000):jw (fu rs) (.tuple (qs.map fJ))= .ok (fu (rs++qs)):=by
 rw [fu,adZ (by simp only [aA];exact tG (by omega)),←cV]
 rfl
theorem rN{rs:List Rule}{a:Nat}{r:Rule}(h:rs[a]? =some r):gj (fu rs) (.int (a:Int))= .ok (fJ r):=by
 have hl:=(aq.mp h).1
 have e:rs[a]=r:=(aq.mp h).2
 unfold fu
 rw [ZK (by omega) (by simpa using hl)]
 simp [e]
theorem XS{ns:List Nat}(h:1≤ns.length):gj (fL ns) (.int (-1))= .ok (.int ((ns.getD (ns.length-1) 0:Nat):Int)):=by
 obtain⟨l,a,rfl⟩:∃l a,ns=l++[a]:=⟨ns.dropLast,ns.getLast (fun z=>by rw [z] at h;simp at h),(List.dropLast_concat_getLast _).symm⟩
 unfold fL
 rw [cV]
 show gj (.list (l.map _++[_])) _=_
 rw [acj]
 simp [bJ]
theorem Xq(ns:List Nat):je [fL ns]= .ok (.int ((ns.length:Nat):Int)):=by simp [fL]
def acM:D→ER
 | .list ds=> .ok (.list ds)
 |_=> .bad
theorem qM(m:EM)(ρ:DL.Env):ni m ρ=(m ρ).bind acM:=by
 unfold ni ER.bind acM
 cases m ρ with
 |ok d=>cases d<;>rfl
 |_=>rfl
theorem Xw(ds:List D):acM (.list ds)= .ok (.list ds):=rfl
theorem K8(ns:List Nat):acM (fL ns)= .ok (fL ns):=rfl
theorem Vm{m:EM}{ρ:DL.Env}{ds:List D}(h:m ρ= .ok (.list ds)):iL m ρ= .ok ds:=by simp only [iL,h]
theorem af2{m:EM}{ρ:DL.Env}{ds:List D}(h:m ρ= .ok (.tuple ds)):iT m ρ= .ok ds:=by simp only [iT,h]
theorem Rf{m:EM}{ρ:DL.Env}{ns:List Nat}(h:m ρ= .ok (fL ns)):iL (ni m) ρ= .ok (ns.map fun(n:Nat)=>aD (n:Int)):=by
 refine Vm ?_
 rw [qM,h,gY,K8,fL]
def aeS(m:List D→ER):SM:=fK (j9 1 (lC [])) (fK (mZ (iT (eE 0)) (gN 2) (qK 1 (fG m [(eE 2),(gD 1)]))) (zf 1))
theorem adJ{m:List D→ER}(hm:∀(r:Rule) (sz:List Nat),r.ok sz.length→(∀n∈sz,n≤MOST)→m [fJ r,fL sz]= .ok (.int ((r.size sz:Nat):Int)))(rs:List Rule)(g:Good rs)(f:Fits MOST rs)(hl:rs.length≤16700000):
 jF [.dat] 2 (aeS m) [fu rs]= .ok (fL (sizes rs)):=by
 obtain⟨L,hL⟩:∃L,L=fu rs:=⟨_,rfl⟩
 have key:aeS m [.dat L, .un, .un]= .rt (fL (sizes rs)):=by
  unfold aeS
  have z0:(0:Nat)≤sizeLine:=by decide
  rw [rW (ρ' :=[.dat L, .own (fL (sizes [])), .un]) (by simp! only [lC,nM,bW,z0,if_true];rfl)]
  obtain⟨ρ',hf,k2,rfl⟩:=JK (mi:=iT (eE 0)) (g:=gN 2) (body:=qK 1 (fG m [(eE 2),(gD 1)]))
   (ρ:=[.dat L, .own (fL (sizes [])), .un]) (ds:=rs.map fJ)
   (fun i ρ=>∃(k2:Sl),ρ=[.dat L, .own (fL (sizes (rs.take i))),k2])
   (by simp only [iT,jO,hL,fu])
   ⟨_,rfl⟩
   (by
     rintro i d ρ hd ⟨k2,rfl⟩
     rw [aH,aK] at hd
     obtain⟨r,h1,rfl⟩:=hd
     have hi:=(aq.mp h1).1
     have et:rs.take (i+1)=rs.take i++[r]:=by
      rw [bH,h1]
      rfl
     have li:(sizes (rs.take i)).length=i:=by rw [j5,aY];omega
     have e:=hm r (sizes (rs.take i)) (by rw [li];exact g i r h1) (f.take i)
     refine⟨_,[.dat L, .own (fL (sizes (rs.take (i+1)))), .dat (fJ r)],nu, .inl ?_,_,rfl⟩
     simp only [set_0,jU]
     rw [app_ok (ds:=(sizes (rs.take i)).map fun(n:Nat)=>aD (n:Int)) (d:= .int (r.size (sizes (rs.take i)):Nat)) rfl (by simp only [JG,jO,kJ,vQ,zJ,gY,e]) (by
      rw [aA,li]
      exact lY (by omega)),et,rQ]
     simp [fL])
  rw [rW hf]
  have et:rs.take (rs.map fJ).length=rs:=by rw [aA,bV]
  rw [et]
  rfl
 simp only [jF,jV,aC,cH,cP,←hL,key]
end Sb
namespace Sb
open PySem PySem.Spec L2 Evl DL
def Rule.tx(ts:List (List Nat)):Rule→List Nat
 | .sign c=>[c]
 | .join a b=>ts.getD a []++ts.getD b []
 | .times a n=>(aC n (ts.getD a [])).flatten
def texts(rs:List Rule):List (List Nat):=rs.foldl (fun acc r=>acc++[r.tx acc]) []
theorem Dm(rs:List Rule)(r:Rule):texts (rs++[r])=texts rs++[r.tx (texts rs)]:=by simp [texts]
theorem Hz:∀rs:List Rule,(texts rs).length=rs.length:=by
 refine snocInd rfl fun l a ih=> ?_
 rw [Dm]
 simp [ih]
theorem aap(rs:List Rule):∀qs:List Rule,∃zs,texts (rs++qs)=texts rs++zs:=by
 refine snocInd ⟨[],by simp⟩ ?_
 rintro l a ⟨zs,h⟩
 exact⟨zs++[a.tx (texts (rs++l))],by rw [←aF,Dm,h,aF]⟩
theorem iI{rs:List Rule}{i:Nat}(h:i<rs.length)(qs:List Rule):(texts (rs++qs)).getD i []=(texts rs).getD i []:=by
 obtain⟨zs,e⟩:=aap rs qs
 have hl:i<(texts rs).length:=by rw [Hz];exact h
 rw [e]
 simp [bJ,aO hl]
theorem lH(rs:List Rule)(r:Rule):(texts (rs++[r])).getD rs.length []=r.tx (texts rs):=by
 rw [Dm]
 have hl:=Hz rs
 simp [bJ,←hl]
theorem qP{rs:List Rule}{i:Nat}{r:Rule}(g:Good rs)(h:rs[i]? =some r):(texts rs).getD i []=r.tx (texts rs):=by
 have hi:=(aq.mp h).1
 have et:rs.take (i+1)=rs.take i++[r]:=by
  rw [bH,h]
  rfl
 have li:(rs.take i).length=i:=by rw [aY];omega
 have e1:(texts rs).getD i []=(texts (rs.take i++[r])).getD i []:=by
  have:=iI (rs:=rs.take (i+1)) (i:=i) (by rw [aY];omega) (rs.drop (i+1))
  rw [bO,et] at this
  exact this
 have e2:∀a,a<i→(texts rs).getD a []=(texts (rs.take i)).getD a []:=fun a ha=>by
  have:=iI (rs:=rs.take i) (i:=a) (by omega) (rs.drop i)
  rw [bO] at this
  exact this
 have e3:(texts (rs.take i++[r])).getD i []=r.tx (texts (rs.take i)):=by
  have:=lH (rs.take i) r
  rw [li] at this
  exact this
 rw [e1,e3]
 have ok:=g i r h
 cases r with
 |sign c=>rfl
 |join a b=>simp only [Rule.tx,e2 a ok.1,e2 b ok.2]
 |times a n=>simp only [Rule.tx,e2 a ok.1]
theorem sY{rs:List Rule}{i:Nat}{r:Rule}(g:Good rs)(h:rs[i]? =some r):(sizes rs).getD i 0=r.size (sizes rs):=by
 have hi:=(aq.mp h).1
 have et:rs.take (i+1)=rs.take i++[r]:=by
  rw [bH,h]
  rfl
 have li:(rs.take i).length=i:=by rw [aY];omega
 have e1:(sizes rs).getD i 0=(sizes (rs.take i++[r])).getD i 0:=by
  have:=sH (rs:=rs.take (i+1)) (i:=i) (by rw [aY];omega) (rs.drop (i+1))
  rw [bO,et] at this
  exact this
 have e2:∀a,a<i→(sizes rs).getD a 0=(sizes (rs.take i)).getD a 0:=fun a ha=>by
  have:=sH (rs:=rs.take i) (i:=a) (by omega) (rs.drop i)
  rw [bO] at this
  exact this
 have e3:(sizes (rs.take i++[r])).getD i 0=r.size (sizes (rs.take i)):=by
  have:=uR (rs.take i) r
  rw [li] at this
  exact this
 rw [e1,e3]
 have ok:=g i r h
 cases r with
 |sign c=>rfl
 |join a b=>simp only [Rule.size,e2 a ok.1,e2 b ok.2]
 |times a n=>simp only [Rule.size,e2 a ok.1]
theorem pQ(n:Nat)(l:List Nat):(aC n l).flatten.length=n*l.length:=by simp
theorem gW:∀(rs:List Rule) (i:Nat),((texts rs).getD i []).length=(sizes rs).getD i 0:=by
 refine snocInd (fun i=>by simp [texts,sizes,Bc]) fun l a ih i=> ?_
 by_cases h:i<l.length
 ·rw [iI h,sH h]
  exact ih i
 ·by_cases h2:i=l.length
  ·subst h2
   rw [lH,uR]
   cases a with
   |sign c=>rfl
   |join a b=>simp only [Rule.tx,Rule.size,au,ih]
   |times a n=>simp only [Rule.tx,Rule.size,pQ,ih,bT]
  ·have h3:l.length+1≤i:=by omega
   have t1:=Hz (l++[a])
   have t2:=j5 (l++[a])
   have e1:(texts (l++[a])).getD i []=[]:=by
    simp [bJ,cO (show(texts (l++[a])).length≤i by rw [t1];simpa using h3)]
   have e2:(sizes (l++[a])).getD i 0=0:=by
    simp [bJ,cO (show(sizes (l++[a])).length≤i by rw [t2];simpa using h3)]
   rw [e1,e2]
   rfl
abbrev fP(l:List Nat):Str:=⟨l.toArray⟩
theorem lK(l:List Nat):(fP l).length=l.length:=by
 show l.toArray.size=_
 simp
theorem abX(a b:List Nat):fP a++fP b=fP (a++b):=Yu (by simp)
theorem Lp{a b:List Nat}(h:fP a=fP b):a=b:=by
 have:=congrArg (fun z:Str=>z.cps.toList) h
 simpa using this
theorem KH(x:Array Nat):∀(n:Nat) (acc:Array Nat),((aC n x).foldl (·++·) acc).toList=acc.toList++(aC n x.toList).flatten
 |0,acc=>by simp
 |n+1,acc=>by
  rw [dJ,List.foldl_cons,KH x n,dJ,dI]
  simp
theorem afO(a:List Nat)(n:Nat):Ju (fP a) (n:Int)=fP (aC n a).flatten:=by
 refine Yu ?_
 show((aC (n:Int).toNat a.toArray).foldl (·++·) #[]).toList=_
 rw [KH]
 simp
theorem Hu{a b:List Nat}(h:a.length+b.length≤16777000):jw (.str (fP a)) (.str (fP b))= .ok (.str (fP (a++b))):=by
 rw [ad9 (by rw [lK,lK];exact tG h),abX]
theorem afQ{a:List Nat}{n:Nat}(h:a.length*n≤16777000)(hn:n<2 ^ 62):jZ (.str (fP a)) (.int (n:Int))= .ok (.str (fP (aC n a).flatten)):=by
 have c: -(2 ^ 62)≤(n:Int)∧(n:Int)<2 ^ 62∧(fP a).length*(n:Int).toNat≤sizeLine:=⟨by omega,by omega,by
  rw [lK]
  simp only [cZ]
  exact tG h⟩
 simp only [jZ]
 rw [if_pos c,afO]
theorem G4{a:List Nat}(h:a.length≤16777000):je [.str (fP a)]= .ok (.int ((a.length:Nat):Int)):=by
 rw [M8 (by rw [lK];exact tG h),lK]
def Rule.parts:Rule→List Nat
 | .sign _=>[]
 | .join a b=>[a,b]
 | .times a _=>[a]
theorem oU{r:Rule}{i:Nat}(h:r.ok i):∀p∈r.parts,p<i:=by
 intro p hp
 cases r with
 |sign c=>cases hp
 |join a b=>
  have:p=a∨p=b:=by simpa [Rule.parts] using hp
  rcases this with rfl|rfl
  ·exact h.1
  ·exact h.2
 |times a n=>
  have:p=a:=by simpa [Rule.parts] using hp
  rw [this]
  exact h.1
theorem ab7{rs:List Rule}{i:Nat}{r:Rule}(g:Good rs)(h:rs[i]? =some r):∀p∈r.parts,(sizes rs).getD p 0≤(sizes rs).getD i 0:=by
 intro p hp
 rw [sY g h]
 have ok:=g i r h
 cases r with
 |sign c=>cases hp
 |join a b=>
  have:p=a∨p=b:=by simpa [Rule.parts] using hp
  simp only [Rule.size]
  rcases this with rfl|rfl<;>omega
 |times a n=>
  have:p=a:=by simpa [Rule.parts] using hp
  rw [this]
  exact Nat.le_mul_of_pos_right _ ok.2.1
structure Need(rs:List Rule)(k:Nat)(ks:List Nat):Prop where
 rise:ks.Pairwise (·<·)
 top:k∈ks
 le:∀i∈ks,i≤k
 clo:∀i∈ks,∀r,rs[i]? =some r→∀p∈r.parts,p∈ks
 by_:∀i∈ks,i=k∨∃j∈ks,∃r,rs[j]? =some r∧i∈r.parts
theorem UJ:∀(ks:List Nat) (a k:Nat),ks.Pairwise (·<·)→(∀i∈ks,a≤i∧i≤k)→ks.length+a≤k+1∨ks=[]
 |[],_,_,_,_=> .inr rfl
 |x::xs,a,k,h,hk=>by
  have hx:=hk x bB
  rw [dB] at h
  rcases UJ xs (x+1) k h.2 (fun i hi=>⟨h.1 i hi,(hk i (aM _ hi)).2⟩) with z|z
  ·left
   rw [aW]
   omega
  ·left
   subst z
   show 1+a≤k+1
   omega
theorem Need.len{rs:List Rule}{k:Nat}{ks:List Nat}(n:Need rs k ks):ks.length≤k+1:=by
 rcases UJ ks 0 k n.rise (fun i hi=>⟨cG _,n.le i hi⟩) with h|h
 ·omega
 ·rw [h]
  simp
theorem Need.size{rs:List Rule}{k:Nat}{ks:List Nat}(g:Good rs)(n:Need rs k ks):∀d i,i∈ks→k-i≤d→(sizes rs).getD i 0≤(sizes rs).getD k 0
 |d,i,hi,hd=>by
  rcases n.by_ i hi with h|⟨j,hj,r,hr,hp⟩
  ·rw [h]
   exact bA _
  ·have h1:=oU (g j r hr) i hp
   have h2:=n.le j hj
   have h3:=ab7 g hr i hp
   match d with
   |0=>omega
   |d+1=>exact bf h3 (Need.size g n d j hj (by omega))
def oJ(S:List Nat):List (D×D):=S.map fun i=>(aD ((i:Nat):Int),PyData.bool true)
theorem Gp(s c:Nat):(DL.keyOf (aD ((s:Nat):Int))=some (.inl ((c:Nat):Int)))↔s=c:=by
 simp only [DL.keyOf,Option.some.injEq,Sum.inl.injEq]
 omega
theorem Wb(S:List Nat)(c:Nat):(oJ S).any (fun q=>decide (DL.keyOf q.1=some (.inl ((c:Nat):Int))))=decide (c∈S):=by
 unfold oJ
 rw [List.any_map]
 induction S with
 |nil=>rfl
 |cons s ss ih=>
  rw [dY,ih]
  by_cases e:s=c
  ·subst e
   simp [Function.comp,DL.keyOf]
  ·have h1:¬c=s:=fun z=>e z.symm
   have k0:¬(DL.keyOf (aD ((s:Nat):Int))=some (.inl ((c:Nat):Int))):=fun z=>e ((Gp s c).mp z)
   simp [Function.comp,k0,h1]
theorem Ym(S:List Nat)(c:Nat):oX (oJ S) (.inl ((c:Nat):Int)) (.bool true)=oJ (if c∈S then S else S++[c]):=by
 unfold oX
 rw [Wb]
 by_cases hc:c∈S
 ·rw [if_pos (decide_eq_true hc),if_pos hc]
  unfold oJ
  rw [bY]
  refine bQ fun s _=> ?_
  simp only [Function.comp]
  split<;>rfl
 ·rw [if_neg (by simp [hc]),if_neg hc]
  unfold oJ
  rw [cV]
  rfl
theorem Um(S:List Nat):Gu (oJ S)=true:=by cases S<;>rfl
theorem find_some{ds:List (D×D)}{k:Key}:(pC ds k).isSome=ds.any fun q=>decide (DL.keyOf q.1=some k):=by
 unfold pC
 rw [Option.isSome_map,Bool.eq_iff_iff,List.find?_isSome,List.any_eq_true]
theorem YK(S:List Nat)(c:Nat):wU false (.int ((c:Nat):Int)) (.dict (oJ S))= .ok (.bool (decide (c∈S))):=by
 simp only [wU,Um,if_true,DL.keyOf]
 rw [find_some,Wb,Bool.bne_false]
theorem Qo:∀S:List Nat,intKeys (oJ S)=some (S.map fun(i:Nat)=>(i:Int))
 |[]=>rfl
 |s::S=>by
  have:=Qo S
  unfold oJ at this⊢
  rw [aZ]
  simp only [intKeys,this]
  rfl
theorem Rule.ok.mono{r:Rule}{i j:Nat}(h:r.ok i)(hij:i≤j):r.ok j:=by
 cases r with
 |sign c=>exact h
 |join a b=>exact⟨dF h.1 hij,dF h.2 hij⟩
 |times a n=>exact⟨dF h.1 hij,h.2⟩
theorem ae'{qs:List Rule}{r:Rule}(h:r.ok qs.length)(ps:List Rule):r.tx (texts (qs++ps))=r.tx (texts qs):=by
 cases r with
 |sign c=>rfl
 |join a b=>simp only [Rule.tx,iI h.1,iI h.2]
 |times a n=>simp only [Rule.tx,iI h.1]
end Sb
namespace Sb
open PySem PySem.Spec L2 Evl DL
def eZ:Option Nat→D
 |none=> .none
 |some k=> .int (k:Int)
def fX(rs:List Rule)(n:Option Nat):Prop:=∀k,n=some k→k<rs.length
theorem fX.none{rs:List Rule}:fX rs none:=fun k e=>nomatch e
theorem fX.some{rs:List Rule}{k:Nat}(h:k<rs.length):fX rs (some k):=fun j e=>by
 cases e
 exact h
def kW(rs:List Rule)(n:Option Nat):Nat:=match n with
 |none=>0
 |some k=>(sizes rs).getD k 0
def gK(rs:List Rule)(n:Option Nat):List Nat:=match n with
 |none=>[]
 |some k=>(texts rs).getD k []
theorem lU(rs:List Rule)(n:Option Nat):(gK rs n).length=kW rs n:=by
 cases n with
 |none=>rfl
 |some k=>exact gW rs k
theorem Rr{rs:List Rule}{m:Nat}(f:Fits m rs)(n:Option Nat):kW rs n≤m:=by
 cases n with
 |none=>exact cG _
 |some k=>exact f.get k
theorem fX.app{rs:List Rule}{n:Option Nat}(h:fX rs n)(qs:List Rule):fX (rs++qs) n:=fun k e=>by
 have:=h k e
 simp
 omega
theorem qI{rs:List Rule}{n:Option Nat}(h:fX rs n)(qs:List Rule):gK (rs++qs) n=gK rs n:=by
 cases n with
 |none=>rfl
 |some k=>exact iI (h k rfl) qs
theorem acu{rs:List Rule}(g:Good rs){n:Option Nat}(h:fX rs n):0<kW rs n↔n≠none:=by
 cases n with
 |none=>simp [kW]
 |some k=>
  have:=Pos.get g (h k rfl)
  exact⟨fun _=>Option.some_ne_none k,fun _=>this⟩
theorem aaB:∀c∈Hi,c<0x110000:=by decide+kernel
theorem Bm{r:Rule}{i:Nat}(h:r.ok i):Sh 1 (fJ r):=by
 cases r with
 |sign c=>
  refine Mi (n:=0) fun d hd=> ?_
  rcases aJ.mp hd with rfl|hd
  ·exact Tv 0 (by decide+kernel)
  ·have:d= .str (s1 c):=by simpa using hd
   rw [this]
   exact Tv 0 (fun x hx=>by
    have:x=c:=by simpa using hx
    rw [this]
    exact aaB c h)
 |join a b=>
  refine Mi (n:=0) fun d hd=> ?_
  rcases aJ.mp hd with rfl|hd
  ·exact Tv 0 (by decide+kernel)
  ·have:d= .int (a:Int)∨d= .int (b:Int):=by simpa using hd
   rcases this with rfl|rfl<;>exact abN _ _
 |times a b=>
  refine Mi (n:=0) fun d hd=> ?_
  rcases aJ.mp hd with rfl|hd
  ·exact Tv 0 (by decide+kernel)
  ·have:d= .int (a:Int)∨d= .int (b:Int):=by simpa using hd
   rcases this with rfl|rfl<;>exact abN _ _
theorem ZG(A:List Nat)(d:Nat):∀(m p:Nat),p<m*A.length→(aC m A).flatten.getD p d=A.getD (p%A.length) d
 |0,p,h=>by simp at h
 |m+1,p,h=>by
  rw [dJ,dI]
  rcases Nat.lt_or_ge p A.length with hp|hp
  ·rw [Nat.mod_eq_of_lt hp]
   simp [bJ,aO hp]
  ·have hp' :p-A.length<m*A.length:=by
    rw [Nat.succ_mul] at h
    omega
   have ih:=ZG A d m (p-A.length) hp'
   have e:p%A.length=(p-A.length)%A.length:=by rw [Nat.mod_eq_sub_mod hp]
   rw [e,←ih]
   simp [bJ,bG hp]
theorem aa7{A B:List Nat}{p d:Nat}(h:p<A.length):(A++B).getD p d=A.getD p d:=by simp [bJ,aO h]
theorem acp{A B:List Nat}{p d:Nat}(h:A.length≤p):(A++B).getD p d=B.getD (p-A.length) d:=by simp [bJ,bG h]
theorem Dk:∀ns:List Int,toInts (ns.map aD)=some ns
 |[]=>rfl
 |n::ns=>by
  simp only [aZ,toInts,Dk ns]
  rfl
theorem Wm(ns:List Nat):toInts (ns.map fun(n:Nat)=>aD (n:Int))=some (ns.map fun(n:Nat)=>(n:Int)):=by
 have:=Dk (ns.map fun(n:Nat)=>(n:Int))
 rwa [bY] at this
def oh(rs:List Rule):Option Nat→Option Nat→List Rule×Option Nat
 |none,b=>(rs,b)
 |some a,none=>(rs,some a)
 |some a,some b=>(rs++[.join a b],some rs.length)
theorem xr{rs:List Rule}(g:Good rs)(f:Fits MOST rs){a b:Option Nat}(ha:fX rs a)(hb:fX rs b)(hl:kW rs a+kW rs b≤MOST):∃qs,qs.length≤1∧(oh rs a b).1=rs++qs∧Good (rs++qs)∧Fits MOST (rs++qs)∧fX (rs++qs) (oh rs a b).2∧gK (rs++qs) (oh rs a b).2=gK rs a++gK rs b:=by
 cases a with
 |none=>exact⟨[],by simp,by simp [oh],by simpa using g,by simpa using f,by simpa [oh] using hb,by simp [oh,gK]⟩
 |some a=>
  cases b with
  |none=>exact⟨[],by simp,by simp [oh],by simpa using g,by simpa using f,by simpa [oh] using ha,by simp [oh,gK]⟩
  |some b=>
   refine⟨[.join a b],by simp,rfl,g.snoc ⟨ha a rfl,hb b rfl⟩,f.snoc hl,fX.some (by simp),?_⟩
   show(texts (rs++[.join a b])).getD rs.length []=_
   rw [lH]
   rfl
def overF(rs:List Rule):Option Nat→Nat→List Rule×Option Nat
 |none,_=>(rs,none)
 |some a,m=>if m=0 then(rs,none) else if m=1 then(rs,some a) else(rs++[.times a m],some rs.length)
theorem EY{rs:List Rule}(g:Good rs)(f:Fits MOST rs){n:Option Nat}(hn:fX rs n){m:Nat}(hm:m≤MOST)(hl:kW rs n*m≤MOST):∃qs,qs.length≤1∧(overF rs n m).1=rs++qs∧Good (rs++qs)∧Fits MOST (rs++qs)∧fX (rs++qs) (overF rs n m).2∧gK (rs++qs) (overF rs n m).2=(aC m (gK rs n)).flatten:=by
 cases n with
 |none=>exact⟨[],by simp,by simp [overF],by simpa using g,by simpa using f,fX.none,by simp [overF,gK]⟩
 |some a=>
  by_cases h0:m=0
  ·exact⟨[],by simp,by simp [overF,h0],by simpa using g,by simpa using f,by simp only [overF,h0,if_true];exact fX.none,by simp [overF,gK,h0]⟩
  ·by_cases h1:m=1
   ·exact⟨[],by simp,by simp [overF,h1],by simpa using g,by simpa using f,by simpa [overF,h1] using hn,by simp [overF,gK,h1]⟩
   ·have e:overF rs (some a) m=(rs++[.times a m],some rs.length):=by simp [overF,h0,h1]
    rw [e]
    refine⟨[.times a m],by simp,rfl,g.snoc ⟨hn a rfl,by omega,hm⟩,f.snoc hl,fX.some (by simp),?_⟩
    show(texts (rs++[.times a m])).getD rs.length []=_
    rw [lH]
    rfl
def Rule.isT:Rule→Bool
 | .times _ _=>true
 |_=>false
def tN(rs:List Rule):Nat:=rs.countP Rule.isT
theorem CG(a b:List Rule):tN (a++b)=tN a+tN b:=by simp [tN,List.countP_append]
theorem CV(rs:List Rule):tN rs≤rs.length:=List.countP_le_length
def fT(n:Nat):Nat:=if n≤1 then 2 ^ 200 else n
def qT:List Rule→Nat
 |[]=>1
 | .times _ n::rs=>fT n*qT rs
 |_::rs=>qT rs
theorem jT:∀a b:List Rule,qT (a++b)=qT a*qT b
 |[],b=>by simp [qT]
 | .sign c::a,b=>by have:=jT a b;simpa [qT] using this
 | .join x y::a,b=>by have:=jT a b;simpa [qT] using this
 | .times x n::a,b=>by
   have:=jT a b
   simp only [cH,qT,this]
   rw [Nat.mul_assoc]
theorem QX:∀(xs:List Rule),tN xs=0→qT xs=1
 |[],_=>rfl
 | .sign c::xs,h=>by
   have e:tN (.sign c::xs)=tN xs:=by unfold tN;rw [List.countP_cons_of_neg (by simp [Rule.isT])]
   exact QX xs (by rw [←e];exact h)
 | .join a b::xs,h=>by
   have e:tN (.join a b::xs)=tN xs:=by unfold tN;rw [List.countP_cons_of_neg (by simp [Rule.isT])]
   exact QX xs (by rw [←e];exact h)
 | .times a n::xs,h=>by
   have e:tN (.times a n::xs)=tN xs+1:=by unfold tN;rw [List.countP_cons_of_pos (by simp [Rule.isT])]
   omega
theorem tX{xs:List Rule}(h:tN xs=0):qT xs=1:=QX xs h
theorem xg{rs qs:List Rule}{n:Option Nat}{m:Nat}(h:(overF rs n m).1=rs++qs):qT qs≤max 1 m:=by
 have z:∀ps:List Rule,rs++ps=rs++qs→qT ps≤max 1 m→qT qs≤max 1 m:=fun ps e h=>by rw [←List.append_cancel_left e];exact h
 have nil:rs=rs++qs→qT qs≤max 1 m:=fun e=>z [] (by rw [aU];exact e) (by simp only [qT];omega)
 cases n with
 |none=>exact nil h
 |some a=>
  by_cases h0:m=0
  ·have e:overF rs (some a) m=(rs,none):=by simp [overF,h0]
   rw [e] at h
   exact nil h
  ·by_cases h1:m=1
   ·have e:overF rs (some a) m=(rs,some a):=by simp [overF,h1]
    rw [e] at h
    exact nil h
   ·have e:overF rs (some a) m=(rs++[.times a m],some rs.length):=by simp [overF,h0,h1]
    rw [e] at h
    exact z [.times a m] h (by
     have:¬m≤1:=by omega
     simp only [qT,fT,this,if_false]
     omega)
def T2(rs:List Rule):Prop:=∀r∈rs,∀a n,r= .times a n→2≤n
theorem JN:∀rs:List Rule,1≤qT rs
 |[]=>bA _
 | .sign _::rs=>JN rs
 | .join _ _::rs=>JN rs
 | .times _ n::rs=>by
   have h:=JN rs
   have h2:1≤fT n:=by
    unfold fT
    split
    ·exact Nat.one_le_two_pow
    ·omega
   exact dM h2 h
theorem Bl:∀{rs:List Rule},qT rs<2 ^ 200→T2 rs
 |[],_=>fun r hr=>absurd hr bD
 | .sign c::rs,h=>fun r hr a n e=>by
   rcases aJ.mp hr with z|z
   ·rw [z] at e
    cases e
   ·exact Bl (rs:=rs) h r z a n e
 | .join x y::rs,h=>fun r hr a n e=>by
   rcases aJ.mp hr with z|z
   ·rw [z] at e
    cases e
   ·exact Bl (rs:=rs) h r z a n e
 | .times x m::rs,h=>fun r hr a n e=>by
   have h1:=JN rs
   have h2:fT m*qT rs<2 ^ 200:=h
   have h3:fT m*1≤fT m*qT rs:=dh _ h1
   rcases aJ.mp hr with z|z
   ·rw [z] at e
    cases e
    by_cases q:m≤1
    ·have:fT m=2 ^ 200:=by unfold fT;rw [if_pos q]
     omega
    ·omega
   ·refine Bl (rs:=rs) ?_ r z a n e
    have h4:1≤fT m:=by
     unfold fT
     split
     ·exact Nat.one_le_two_pow
     ·omega
    have h5:1*qT rs≤fT m*qT rs:=Nat.mul_le_mul_right _ h4
    omega
theorem T2.app{a b:List Rule}(h:T2 a)(k:T2 b):T2 (a++b):=fun r hr=>by
 rcases aR.mp hr with z|z
 ·exact h r z
 ·exact k r z
theorem T2.nil:T2 []:=fun r hr=>absurd hr bD
theorem T2.no{rs:List Rule}(h:tN rs=0):T2 rs:=Bl (by rw [tX h];decide)
theorem ago:MOST*MOST*MOST<2 ^ 200:=by decide
theorem V7{p o c z k:Nat}(h:p*(z*c)≤k)(ho:o≤c):p*o*z≤k:=by
 have h1:p*o*z≤p*c*z:=Nat.mul_le_mul_right _ (dh _ ho)
 have h2:p*c*z=p*(z*c):=by rw [Nat.mul_assoc,bT c z]
 omega
theorem qX{rs qs:List Rule}{a b:Option Nat}(h:(oh rs a b).1=rs++qs):tN qs=0:=by
 have z:∀ps:List Rule,rs++ps=rs++qs→tN ps=0→tN qs=0:=fun ps e h=>by rw [←List.append_cancel_left e];exact h
 cases a with
 |none=>exact z [] (by simpa [oh] using h) rfl
 |some a=>
  cases b with
  |none=>exact z [] (by simpa [oh] using h) rfl
  |some b=>exact z [.join a b] h rfl
end Sb
namespace Sb
open PySem PySem.Spec L2 Evl DL
def Rule.o9(f:Nat→Nat):Rule→Rule
 | .sign c=> .sign c
 | .join a b=> .join (f a) (f b)
 | .times a n=> .times (f a) n
theorem abQ{f:Nat→Nat}{r:Rule}{i:Nat}(h:r.ok i){sz sz' :List Nat}(e:∀a,a<i→sz'.getD (f a) 0=sz.getD a 0):(r.o9 f).size sz' =r.size sz:=by
 cases r with
 |sign c=>rfl
 |join a b=>simp only [Rule.o9,Rule.size,e a h.1,e b h.2]
 |times a n=>simp only [Rule.o9,Rule.size,e a h.1]
theorem afg{f:Nat→Nat}{r:Rule}{i:Nat}(h:r.ok i){sz sz' :List (List Nat)}(e:∀a,a<i→sz'.getD (f a) []=sz.getD a []):(r.o9 f).tx sz' =r.tx sz:=by
 cases r with
 |sign c=>rfl
 |join a b=>simp only [Rule.o9,Rule.tx,e a h.1,e b h.2]
 |times a n=>simp only [Rule.o9,Rule.tx,e a h.1]
theorem afI{f:Nat→Nat}{r:Rule}{i j:Nat}(h:r.ok i)(e:∀a,a<i→f a<j):(r.o9 f).ok j:=by
 cases r with
 |sign c=>exact h
 |join a b=>exact⟨e a h.1,e b h.2⟩
 |times a n=>exact⟨e a h.1,h.2⟩
abbrev bring(rs os:List Rule):List Rule:=os.map fun r=>r.o9 (rs.length+·)
theorem LQ{rs:List Rule}(g:Good rs)(f:Fits MOST rs):∀(os:List Rule),Good os→Fits MOST os→Good (rs++bring rs os)∧Fits MOST (rs++bring rs os)∧(∀i,i<os.length→(texts (rs++bring rs os)).getD (rs.length+i) []=(texts os).getD i []):=by
 refine snocInd (fun _ _=>⟨by simpa [bring] using g,by simpa [bring] using f,fun i h=>by simp at h⟩) fun os r ih go fo=> ?_
 obtain⟨g1,r1⟩:=go.init
 obtain⟨ih1,ih2,ih3⟩:=ih g1 fo.pre
 obtain⟨qs,hq⟩:∃qs,qs=rs++bring rs os:=⟨_,rfl⟩
 have ql:qs.length=rs.length+os.length:=by rw [hq];simp [bring]
 have eb:rs++bring rs (os++[r])=qs++[r.o9 (rs.length+·)]:=by
  rw [hq]
  simp [bring]
 rw [←hq] at ih1 ih2 ih3
 rw [eb]
 have sz:∀a,a<os.length→(sizes qs).getD (rs.length+a) 0=(sizes os).getD a 0:=fun a ha=>by rw [←gW,ih3 a ha,gW]
 refine⟨ih1.snoc (afI r1 fun a ha=>by rw [ql];omega),ih2.snoc ?_,fun i hi=> ?_⟩
 ·rw [abQ r1 sz]
  have:=fo.get os.length
  rwa [uR] at this
 ·rcases Nat.lt_or_ge i os.length with h|h
  ·rw [iI (by omega),ih3 i h,iI h]
  ·have e:i=os.length:=by
    simp at hi
    omega
   subst e
   rw [←ql,lH,lH]
   exact afg r1 ih3
def pK(rs:List Rule):Option Nat→Option Nat
 |none=>none
 |some k=>some (rs.length+k)
theorem Pb{rs os:List Rule}(g:Good rs)(f:Fits MOST rs)(go:Good os)(fo:Fits MOST os){n:Option Nat}(h:fX os n):fX (rs++bring rs os) (pK rs n)∧gK (rs++bring rs os) (pK rs n)=gK os n:=by
 cases n with
 |none=>exact⟨fX.none,rfl⟩
 |some k=>
  have hk:=h k rfl
  refine⟨fX.some (by simp [bring];omega),?_⟩
  exact(LQ g f os go fo).2.2 k hk
end Sb
namespace Sb
open PySem PySem.Spec L2 Evl DL
def nW(F:Nat→D)(ks:List Nat):List (D×D):=ks.map fun i=>(aD ((i:Nat):Int),F i)
def Gv(F:Nat→D)(p:Nat)(v:D):Nat→D:=fun x=>if x=p then v else F x
theorem xT(F:Nat→D)(p:Nat):∀ks:List Nat,p∈ks→pC (nW F ks) (.inl ((p:Nat):Int))=some (F p)
 |[],h=>by cases h
 |k::ks,h=>by
  by_cases e:k=p
  ·subst e
   simp [nW,pC,DL.keyOf]
  ·have h2:p∈ks:=by
    rcases aJ.mp h with z|z
    ·exact absurd z.symm e
    ·exact z
   have k0:¬(DL.keyOf (aD ((k:Nat):Int))=some (.inl ((p:Nat):Int))):=fun z=>e ((Gp k p).mp z)
   have ih:=xT F p ks h2
   unfold nW pC at ih⊢
   rw [aZ,dO]
   simp only [k0,decide_false]
   exact ih
theorem acJ(F:Nat→D)(p:Nat)(ks:List Nat):(nW F ks).any (fun q=>decide (DL.keyOf q.1=some (.inl ((p:Nat):Int))))=decide (p∈ks):=by
 unfold nW
 rw [List.any_map]
 induction ks with
 |nil=>rfl
 |cons s ss ih=>
  rw [dY,ih]
  by_cases e:s=p
  ·subst e
   simp [Function.comp,DL.keyOf]
  ·have h1:¬p=s:=fun z=>e z.symm
   have k0:¬(DL.keyOf (aD ((s:Nat):Int))=some (.inl ((p:Nat):Int))):=fun z=>e ((Gp s p).mp z)
   simp [Function.comp,k0,h1]
theorem Tw(F:Nat→D)(p:Nat)(v:D)(ks:List Nat)(h:¬p∈ks):oX (nW F ks) (.inl ((p:Nat):Int)) v=nW (Gv F p v) (ks++[p]):=by
 unfold oX
 rw [acJ,if_neg (by simp [h])]
 unfold nW
 rw [cV]
 congr 1
 ·refine bQ fun i hi=> ?_
  have:¬i=p:=fun z=>h (by rw [←z];exact hi)
  simp [Gv,this]
 ·simp [Gv,keyD]
theorem abo(F:Nat→D)(p:Nat)(v:D)(ks:List Nat)(h:p∈ks):oX (nW F ks) (.inl ((p:Nat):Int)) v=nW (Gv F p v) ks:=by
 unfold oX
 rw [acJ,if_pos (by simp [h])]
 unfold nW
 rw [bY]
 refine bQ fun i hi=> ?_
 simp only [Function.comp]
 by_cases e:i=p
 ·subst e
  simp [Gv,DL.keyOf]
 ·have k0:¬(DL.keyOf (aD ((i:Nat):Int))=some (.inl ((p:Nat):Int))):=fun z=>e ((Gp i p).mp z)
  simp [Gv,k0,e]
theorem qF(F:Nat→D)(ks:List Nat):Gu (nW F ks)=true:=by cases ks<;>rfl
theorem Ke(F:Nat→D)(ks:List Nat):(nW F ks).length=ks.length:=by simp [nW]
theorem Ay{F G:Nat→D}{ks:List Nat}(h:∀i∈ks,F i=G i):nW F ks=nW G ks:=by
 unfold nW
 exact bQ fun i hi=>by rw [h i hi]
theorem YW{a b:Nat}(h:s1 a=s1 b):a=b:=by
 have:=congrArg (fun z:Str=>z.cps.toList) h
 simpa using this
theorem Hq{r q:Rule}(h:fJ r=fJ q):r=q:=by
 cases r<;>cases q<;>simp only [fJ,PyData.tuple.injEq,List.cons.injEq,PyData.str.injEq,PyData.int.injEq,and_true] at h
 ·rw [YW h.2]
 ·exact absurd h.1 (fun z=>js z.symm)
 ·exact absurd h.1 (fun z=>ts z.symm)
 ·exact absurd h.1 js
 ·obtain⟨_,h1,h2⟩:=h
  congr 1<;>omega
 ·exact absurd h.1 jt
 ·exact absurd h.1 ts
 ·exact absurd h.1 tj
 ·obtain⟨_,h1,h2⟩:=h
  congr 1<;>omega
theorem JQ(r:Rule):nb (fJ r)=true:=by cases r<;>rfl
theorem Wo{r q:Rule}{i j:Nat}(hr:r.ok i)(hq:q.ok j):BX (fJ r) (fJ q)= .ok (.bool (!decide (r=q))):=by
 by_cases e:r=q
 ·subst e
  rw [ac1 (Bm hr)]
  simp
 ·rw [abv (Bm hr) (Bm hq) (JQ r) (JQ q) (fun z=>e (Hq z))]
  simp [e]
theorem acZ{r q:Rule}{i j:Nat}(hr:r.ok i)(hq:q.ok j):lB (fJ r) (fJ q)= .ok (.bool (decide (r=q))):=by
 by_cases e:r=q
 ·subst e
  rw [Vd (Bm hr)]
  simp
 ·rw [Ub (Bm hr) (Bm hq) (JQ r) (JQ q) (fun z=>e (Hq z))]
  simp [e]
def t8(rs:List Rule)(n:Option Nat)(ks:List Nat):Prop:=match n with
 |none=>ks=[]
 |some k=>k<rs.length∧Need rs k ks
theorem t8.rise{rs:List Rule}{n:Option Nat}{ks:List Nat}(h:t8 rs n ks):ks.Pairwise (·<·):=by
 cases n with
 |none=>rw [show ks=[] from h];exact .nil
 |some k=>exact h.2.rise
theorem t8.lt{rs:List Rule}{n:Option Nat}{ks:List Nat}(h:t8 rs n ks):∀i∈ks,i<rs.length:=by
 cases n with
 |none=>rw [show ks=[] from h];intro i hi;cases hi
 |some k=>
  intro i hi
  have:=h.2.le i hi
  have:=h.1
  omega
theorem t8.clo{rs:List Rule}{n:Option Nat}{ks:List Nat}(h:t8 rs n ks):∀i∈ks,∀r,rs[i]? =some r→∀p∈r.parts,p∈ks:=by
 cases n with
 |none=>rw [show ks=[] from h];intro i hi;cases hi
 |some k=>exact h.2.clo
theorem t8.len{rs:List Rule}{n:Option Nat}{ks:List Nat}(h:t8 rs n ks):ks.length≤rs.length:=by
 cases n with
 |none=>rw [show ks=[] from h];exact cG _
 |some k=>
  have:=h.2.len
  have:=h.1
  omega
theorem Hj{ks:List Nat}(rise:ks.Pairwise (·<·)){j i:Nat}(h1:ks[j]? =some i):(∀p∈ks,p<i→p∈ks.take j)∧¬i∈ks.take j:=by
 have hj:=(aq.mp h1).1
 have hij:ks[j]=i:=(aq.mp h1).2
 constructor
 ·intro p hp hlt
  obtain⟨q,hq,rfl⟩:=List.getElem_of_mem hp
  have hqj:q<j:=by
   rcases Nat.lt_or_ge q j with z|z
   ·exact z
   ·exfalso
    rcases Nat.lt_or_eq_of_le z with z|z
    ·have:=cJ.mp rise j q hj hq z
     omega
    ·subst z
     omega
  rw [List.mem_take_iff_getElem]
  exact⟨q,by omega,rfl⟩
 ·intro z
  obtain⟨q,hq,e⟩:=List.mem_take_iff_getElem.mp z
  have:=cJ.mp rise q j (by omega) hj (by omega)
  omega
structure Way(T:List Nat→List Nat)(tr:Rule→Rule):Prop where
 len:∀t,(T t).length=t.length
 ok:∀r i,r.ok i→(tr r).ok i
 tx:∀(r:Rule) (i:Nat) (f:Nat→Nat) (ts ts' :List (List Nat)),r.ok i→(∀a∈r.parts,ts'.getD (f a) []=T (ts.getD a []))→(tr (r.o9 f)).tx ts' =T (r.tx ts)
 pt:∀(r:Rule) (p:Nat),p∈(tr r).parts→p∈r.parts
 tm:∀(r:Rule) (a n:Nat),tr r= .times a n→∃b,r= .times b n
structure Done(rs:List Rule)(T:List Nat→List Nat)(ks:List Nat)(qs:List Rule)(f:Nat→Nat):Prop where
 g:Good (rs++qs)
 fits:Fits MOST (rs++qs)
 len:qs.length≤ks.length
 lt:∀i∈ks,f i<(rs++qs).length
 tx:∀i∈ks,(texts (rs++qs)).getD (f i) []=T ((texts rs).getD i [])
 cl:∀i∈ks,∀q,(rs++qs)[f i]? =some q→∀p∈q.parts,∃a∈ks,p=f a
 t2:T2 rs→T2 qs
theorem X3{r:Rule}{f:Nat→Nat}:(r.o9 f).parts=r.parts.map f:=by cases r<;>rfl
theorem Done.step{rs:List Rule}{T:List Nat→List Nat}{tr:Rule→Rule}(W:Way T tr)(g:Good rs)(fr:Fits MOST rs){ks:List Nat}{qs:List Rule}{f:Nat→Nat}(h:Done rs T ks qs f){i:Nat}{r:Rule}(hr:rs[i]? =some r)(hp:∀a∈r.parts,a∈ks)(hi:¬i∈ks):
 (tr (r.o9 f)).ok (rs++qs).length∧(tr (r.o9 f)=r→Done rs T (ks++[i]) qs (fun x=>if x=i then i else f x))∧Done rs T (ks++[i]) (qs++[tr (r.o9 f)]) (fun x=>if x=i then(rs++qs).length else f x):=by
 have ok:=g i r hr
 have hil:=(aq.mp hr).1
 have ok1:(r.o9 f).ok (rs++qs).length:=by
  cases r with
  |sign c=>exact ok
  |join a b=>exact⟨h.lt a (hp a (by simp [Rule.parts])),h.lt b (hp b (by simp [Rule.parts]))⟩
  |times a n=>exact⟨h.lt a (hp a (by simp [Rule.parts])),ok.2⟩
 have ok2:=W.ok _ _ ok1
 have tx2:(tr (r.o9 f)).tx (texts (rs++qs))=T (r.tx (texts rs)):=W.tx r i f (texts rs) (texts (rs++qs)) ok fun a ha=>h.tx a (hp a ha)
 have ti:(texts rs).getD i []=r.tx (texts rs):=qP g hr
 have old:∀x∈ks,¬x=i:=fun x hx z=>hi (by rw [←z];exact hx)
 have img:∀v p,p∈(tr (r.o9 f)).parts→∃a∈ks++[i],p=if a=i then v else f a:=fun v p hpp=>by
  have h1:=W.pt _ _ hpp
  rw [X3,cC] at h1
  obtain⟨a,ha,rfl⟩:=h1
  have hk:=hp a ha
  exact⟨a,cA _ hk,by simp only [old a hk,if_false]⟩
 have imo:∀v p,(∃a∈ks,p=f a)→∃a∈ks++[i],p=if a=i then v else f a:=fun v p ⟨a,ha,e⟩=>
  ⟨a,cA _ ha,by simp only [old a ha,if_false];exact e⟩
 have new2:T2 rs→T2 [tr (r.o9 f)]:=fun z x hx a n e=>by
  have hx' :x=tr (r.o9 f):=by simpa using hx
  obtain⟨b,hb⟩:=W.tm _ _ _ (hx'.symm.trans e)
  cases r with
  |sign c=>cases hb
  |join u v=>cases hb
  |times u m=>
   cases hb
   exact z _ (aX hr) u n rfl
 refine⟨ok2,fun e=>⟨h.g,h.fits,by rw [au];have:=h.len;omega,fun x hx=> ?_,fun x hx=> ?_,fun x hx q hq p hpp=> ?_,h.t2⟩,⟨?_,?_,?_,fun x hx=> ?_,fun x hx=> ?_,fun x hx q hq p hpp=> ?_,fun z=>(h.t2 z).app (new2 z)⟩⟩
 ·rcases aR.mp hx with hx|hx
  ·simp only [old x hx,if_false]
   exact h.lt x hx
  ·have:x=i:=by simpa using hx
   simp only [this,if_true]
   rw [au]
   omega
 ·rcases aR.mp hx with hx|hx
  ·simp only [old x hx,if_false]
   exact h.tx x hx
  ·have:x=i:=by simpa using hx
   simp only [this,if_true]
   rw [ti,←tx2,e,iI hil,ti,ae' (ok.mono (by omega))]
 ·rcases aR.mp hx with hx|hx
  ·simp only [old x hx,if_false] at hq
   exact imo _ p (h.cl x hx q hq p hpp)
  ·have z:x=i:=by simpa using hx
   simp only [z,if_true] at hq
   rw [aO hil,hr] at hq
   cases hq
   rw [←e] at hpp
   exact img _ p hpp
 ·rw [←aF]
  exact h.g.snoc ok2
 ·rw [←aF]
  refine h.fits.snoc ?_
  have e:(tr (r.o9 f)).size (sizes (rs++qs))=((tr (r.o9 f)).tx (texts (rs++qs))).length:=by
   rw [←lH,gW,uR]
  rw [e,tx2,W.len,←ti,gW]
  exact fr.get i
 ·simp only [au,aW,bW]
  have:=h.len
  omega
 ·rcases aR.mp hx with hx|hx
  ·simp only [old x hx,if_false]
   have:=h.lt x hx
   simp only [au,aW,bW] at this⊢
   omega
  ·have:x=i:=by simpa using hx
   simp only [this,if_true]
   simp
 ·rw [←aF]
  rcases aR.mp hx with hx|hx
  ·simp only [old x hx,if_false]
   rw [iI (h.lt x hx)]
   exact h.tx x hx
  ·have:x=i:=by simpa using hx
   simp only [this,if_true]
   rw [lH,tx2,ti]
 ·rcases aR.mp hx with hx|hx
  ·simp only [old x hx,if_false] at hq
   rw [←aF,aO (h.lt x hx)] at hq
   exact imo _ p (h.cl x hx q hq p hpp)
  ·have z:x=i:=by simpa using hx
   simp only [z,if_true] at hq
   rw [←aF,bG (bA _),Nat.sub_self] at hq
   have hq' :tr (r.o9 f)=q:=by simpa using hq
   rw [←hq'] at hpp
   exact img _ p hpp
theorem Vf{l m:List Nat}(nd:l.Nodup)(h:∀x∈l,x∈m):l.length≤m.length:=by
 induction l generalizing m with
 |nil=>exact cG _
 |cons a l ih=>
  have ha:a∈m:=h a (by simp)
  have nd' :=cU.mp nd
  have:=ih (m:=m.erase a) nd'.2 fun x hx=>(List.mem_erase_of_ne (fun e=>nd'.1 (by rw [←e];exact hx))).mpr (h x (aM _ hx))
  rw [List.length_erase_of_mem ha] at this
  have:0<m.length:=List.length_pos_of_mem ha
  simp only [aW]
  omega
theorem YH{rs:List Rule}{k:Nat}{ks:List Nat}(h:Need rs k ks):ks.length≤k+1:=by
 have:=Vf (l:=ks) (m:=bU (k+1)) (h.rise.imp fun h=>Nat.ne_of_lt h) fun x hx=>List.mem_range.mpr (by have:=h.le x hx;omega)
 rwa [cM] at this
theorem Done.need{rs:List Rule}{T:List Nat→List Nat}{ks:List Nat}{qs:List Rule}{f:Nat→Nat}(h:Done rs T ks qs f){k:Nat}(hk:k∈ks){zs:List Nat}(n:Need (rs++qs) (f k) zs):zs.length≤ks.length:=by
 have key:∀d i,f k-i≤d→i∈zs→∃a∈ks,i=f a:=by
  intro d
  induction d with
  |zero=>
   intro i hd hi
   have:=n.le i hi
   exact⟨k,hk,by omega⟩
  |succ d ih=>
   intro i hd hi
   rcases n.by_ i hi with e|⟨j,hj,r,hr,hp⟩
   ·exact⟨k,hk,e⟩
   ·have lt:=oU (h.g j r hr) i hp
    have:=n.le j hj
    obtain⟨a,ha,rfl⟩:=ih j (by omega) hj
    exact h.cl a ha r hr i hp
 have nd:zs.Nodup:=n.rise.imp fun h=>by omega
 have:=Vf nd (m:=ks.map f) fun x hx=>by
  obtain⟨a,ha,e⟩:=key _ x (bA _) hx
  exact cC.mpr ⟨a,ha,e.symm⟩
 simpa using this
def GJ:Rule→Rule
 | .join a b=> .join b a
 |r=>r
theorem YZ(A:List Nat):∀n:Nat,(aC n A).flatten.reverse=(aC n A.reverse).flatten
 |0=>rfl
 |n+1=>by
  rw [List.replicate_succ',List.flatten_append,bR,YZ A n,dJ]
  simp
theorem ade:Way List.reverse GJ where
 len:=fun t=>bL
 ok:=fun r i h=>by
  cases r with
  |sign c=>exact h
  |join a b=>exact⟨h.2,h.1⟩
  |times a n=>exact h
 tx:=fun r i f ts ts' ok h=>by
  cases r with
  |sign c=>rfl
  |join a b=>
   show ts'.getD (f b) []++ts'.getD (f a) []=(ts.getD a []++ts.getD b []).reverse
   rw [h a (by simp [Rule.parts]),h b (by simp [Rule.parts]),bR]
  |times a n=>
   show(aC n (ts'.getD (f a) [])).flatten=(aC n (ts.getD a [])).flatten.reverse
   rw [h a (by simp [Rule.parts]),YZ]
 pt:=fun r p h=>by
  cases r with
  |sign c=>exact h
  |join a b=>
   simp only [GJ,Rule.parts,aJ,bD,or_false] at h⊢
   exact h.symm
  |times a n=>exact h
 tm:=fun r a n h=>by
  cases r with
  |sign c=>cases h
  |join u v=>cases h
  |times u m=>exact⟨u,by cases h;rfl⟩
def Aa(s o:Nat)(c:Nat):Nat:=if c=s then o else c
def O9(s o:Nat):Rule→Rule
 | .sign c=> .sign (Aa s o c)
 |r=>r
theorem afu{s o:Nat}(ho:o∈Hi):Way (List.map (Aa s o)) (O9 s o) where
 len:=fun t=>aA _
 ok:=fun r i h=>by
  cases r with
  |sign c=>
   show Aa s o c∈Hi
   unfold Aa
   split
   ·exact ho
   ·exact h
  |join a b=>exact h
  |times a n=>exact h
 tx:=fun r i f ts ts' ok h=>by
  cases r with
  |sign c=>rfl
  |join a b=>
   show ts'.getD (f a) []++ts'.getD (f b) []=(ts.getD a []++ts.getD b []).map (Aa s o)
   rw [h a (by simp [Rule.parts]),h b (by simp [Rule.parts]),cV]
  |times a n=>
   show(aC n (ts'.getD (f a) [])).flatten=(aC n (ts.getD a [])).flatten.map (Aa s o)
   rw [h a (by simp [Rule.parts]),List.map_flatten,List.map_replicate]
 pt:=fun r p h=>by
  cases r with
  |sign c=>exact h
  |join a b=>exact h
  |times a n=>exact h
 tm:=fun r a n h=>by
  cases r with
  |sign c=>cases h
  |join u v=>cases h
  |times u m=>exact⟨u,by cases h;rfl⟩
end Sb
namespace Sb
open PySem PySem.Spec L2 Evl DL
def cat(rs:List Rule)(ps:List (Option Nat)):List Nat:=(ps.map (gK rs)).flatten
theorem KY(rs:List Rule)(ps:List (Option Nat))(p:Option Nat):cat rs (ps++[p])=cat rs ps++gK rs p:=by simp [cat]
theorem M9(rs:List Rule)(p:Option Nat)(ps:List (Option Nat)):cat rs (p::ps)=gK rs p++cat rs ps:=by simp [cat]
theorem Zo{rs:List Rule}{ps:List (Option Nat)}(h:∀p∈ps,fX rs p)(qs:List Rule):cat (rs++qs) ps=cat rs ps:=by
 unfold cat
 congr 1
 exact bQ fun p hp=>qI (h p hp) qs
theorem Fo(A:List Nat)(m n:Nat):(aC (m+n) A).flatten=(aC m A).flatten++(aC n A).flatten:=by
 rw [←List.replicate_append_replicate,List.flatten_append]
theorem K7(A:List Nat)(hA:0<A.length)(c p:Nat)(hp:p<c*A.length):(aC c A).flatten.take p=(aC (p/A.length) A).flatten++A.take (p%A.length):=by
 have hd:=Nat.div_add_mod p A.length
 have hm:p%A.length<A.length:=Nat.mod_lt _ hA
 have hc:p/A.length<c:=(Nat.div_lt_iff_lt_mul hA).mpr hp
 obtain⟨e,he⟩:∃e,c=p/A.length+(1+e):=⟨c-p/A.length-1,by omega⟩
 have hl:((aC (p/A.length) A).flatten).length=p/A.length*A.length:=pQ _ _
 conv=>lhs;rw [he,Fo]
 rw [List.take_append,hl]
 have e1:(aC (p/A.length) A).flatten.take p=(aC (p/A.length) A).flatten:=bF (by rw [hl,bT];omega)
 have e2:p-p/A.length*A.length=p%A.length:=by rw [bT];omega
 rw [e1,e2,Fo]
 have e3:(aC 1 A).flatten=A:=by simp
 rw [e3,cI (by omega)]
theorem Ky(A:List Nat):∀n:Nat,(aC n A).flatten.reverse=(aC n A.reverse).flatten
 |0=>rfl
 |n+1=>by
  rw [List.replicate_succ',List.flatten_append,bR,Ky A n,dJ]
  simp
def mY(n:Nat)(A:List Nat):List Nat:=(A.reverse.take n).reverse
theorem Qp(A:List Nat):mY A.length A=A:=by
 unfold mY
 rw [bF (by simp)]
 simp
theorem aej(A:List Nat):mY 0 A=[]:=by simp [mY]
theorem wR{n:Nat}{A:List Nat}(h:n≤A.length):(mY n A).length=n:=by
 unfold mY
 simp
 omega
theorem aak(A:List Nat)(hA:0<A.length)(c p:Nat)(hp:p<c*A.length):mY p (aC c A).flatten=mY (p%A.length) A++(aC (p/A.length) A).flatten:=by
 unfold mY
 have h:=K7 A.reverse (by simpa using hA) c p (by simpa using hp)
 rw [bL] at h
 rw [Ky,h,bR,Ky]
 simp
theorem VL{A B:List Nat}{n:Nat}(h:n≤B.length):mY n (A++B)=mY n B:=by
 unfold mY
 rw [bR,cI (by simpa using h)]
theorem Wy{A B:List Nat}{n:Nat}(h:B.length≤n):mY n (A++B)=mY (n-B.length) A++B:=by
 unfold mY
 have e:B.reverse.take n=B.reverse:=bF (by simpa using h)
 rw [bR,List.take_append,bR,bL,e,List.reverse_reverse]
theorem X7{A:List Nat}{n:Nat}(h:n≤A.length):mY n A=A.drop (A.length-n):=by
 unfold mY
 rw [List.take_reverse]
 simp
def stretch(A:List Nat)(s e:Nat):List Nat:=(A.take e).drop s
theorem vM{A:List Nat}{s e:Nat}(h:e≤A.length):(stretch A s e).length=e-s:=by
 unfold stretch
 simp
 omega
theorem yh{A B:List Nat}{s e:Nat}(h:e≤A.length):stretch (A++B) s e=stretch A s e:=by
 unfold stretch
 rw [cI h]
theorem Ce{A B:List Nat}{s e:Nat}(h:A.length≤s)(hse:s≤e):stretch (A++B) s e=stretch B (s-A.length) (e-A.length):=by
 unfold stretch
 rw [List.take_append,List.drop_append,bF (by omega),List.drop_eq_nil_of_le (by omega)]
 simp
theorem Ey{A B:List Nat}{s e:Nat}(h:s≤A.length)(he:A.length≤e):stretch (A++B) s e=mY (A.length-s) A++B.take (e-A.length):=by
 unfold stretch
 rw [List.take_append,bF (by omega),List.drop_append_of_le_length h,X7 (by omega)]
 congr 2
 omega
theorem VN(A:List Nat)(c q:Nat)(h:q≤c):(aC c A).flatten=(aC q A).flatten++(aC (c-q) A).flatten:=by
 rw [←Fo]
 congr 2
 omega
theorem Ui(A:List Nat)(c s e:Nat)(hs:s<c*A.length)(hA:0<A.length)(hse:s≤e):stretch (aC c A).flatten s e=stretch (aC (c-s/A.length) A).flatten (s%A.length) (e-s/A.length*A.length):=by
 have hd:=Nat.div_add_mod s A.length
 have hc:s/A.length<c:=(Nat.div_lt_iff_lt_mul hA).mpr hs
 have hl:((aC (s/A.length) A).flatten).length=s/A.length*A.length:=pQ _ _
 have hm:s/A.length*A.length≤s:=Nat.div_mul_le_self _ _
 rw [VN A c (s/A.length) (by omega),Ce (by rw [hl];exact hm) hse,hl]
 congr 1
 rw [bT] at hd
 omega
theorem aah(A:List Nat)(hA:0<A.length)(c p:Nat)(hp:p≤c*A.length):(aC c A).flatten.take p=(aC (p/A.length) A).flatten++A.take (p%A.length):=by
 rcases Nat.lt_or_eq_of_le hp with h|h
 ·exact K7 A hA c p h
 ·subst h
  rw [Nat.mul_div_cancel _ hA,Nat.mul_mod_left,List.take_zero,aU,bF (by rw [pQ];exact bA _)]
end Sb
namespace Sb
open PySem PySem.Spec L2 Evl DL
def Qm(rs:List Rule)(s:List Rule×(Nat→Nat))(i:Nat):List Rule×(Nat→Nat):=match rs[i]? with
 |none=>s
 |some r=>if r.o9 s.2∈s.1 then(s.1,fun y=>if y=i then s.1.idxOf (r.o9 s.2) else s.2 y) else(s.1++[r.o9 s.2],fun y=>if y=i then s.1.length else s.2 y)
def Iw(rs:List Rule)(ks:List Nat):List Rule×(Nat→Nat):=ks.foldl (Qm rs) ([],fun _=>0)
theorem Ly(rs:List Rule)(ks:List Nat)(i:Nat):Iw rs (ks++[i])=Qm rs (Iw rs ks) i:=by simp [Iw]
theorem aaT{qs:List Rule}(nd:qs.Nodup){x:Nat}{q:Rule}(h:qs[x]? =some q):qs.idxOf q=x:=by
 obtain⟨hx,e⟩:=aq.mp h
 rw [←e]
 exact nd.idxOf_getElem x hx
theorem abT{rs:List Rule}{qs:List Rule}{f:Nat→Nat}{i:Nat}{r:Rule}(hr:rs[i]? =some r)(nd:qs.Nodup){x:Nat}(hx:qs[x]? =some (r.o9 f)):Qm rs (qs,f) i=(qs,fun y=>if y=i then x else f y):=by
 have hm:r.o9 f∈qs:=aX hx
 simp only [Qm,hr,hm,if_true,aaT nd hx]
theorem Z5{rs:List Rule}{qs:List Rule}{f:Nat→Nat}{i:Nat}{r:Rule}(hr:rs[i]? =some r)(hm:¬r.o9 f∈qs):Qm rs (qs,f) i=(qs++[r.o9 f],fun y=>if y=i then qs.length else f y):=by
 simp only [Qm,hr,hm,if_false]
end Sb
namespace Sb
open PySem PySem.Spec L2 Evl DL
theorem KQ(c:Int):∃s:Nat,s∈Hi∧jQ [.int c]= .ok (.str (s1 s)):=by
 have h0:=bM c (show(62:Int)≠0 by decide)
 have h1:=bK c (show(0:Int)<62 by decide)
 have hl:SG.cps.toList.length=62:=Zm
 have hx:=acv (z:=SG) h0 (by rw [hl];exact h1) ab9
 refine⟨SG.cps.toList[(c%62).toNat]'(by omega),dG _,?_⟩
 simp! only [jQ,u6,gR (show(0:Int)<62 by decide),hx]
end Sb
namespace Sb
open PySem PySem.Spec L2 Evl DL
theorem adB(r:Rule)(sz:List Nat)(hr:r.ok sz.length)(hs:∀n∈sz,n≤MOST):sJ [fJ r,fL sz]= .ok (.int (r.size sz:Nat)):=by
 cases r with
 |sign c=>simp! only [sJ,Bt,fJ,ig,Rule.size];rfl
 |join a b=>
  simp! only [sJ,Bt,fJ,ig,iD,nH,js,kY hr.1,kY hr.2,Rule.size]
  rfl
 |times a n=>
  have m:=T6 (m:=sz.getD a 0) (n:=n) 61 61 (dD (RL hs) (by decide)) (dD hr.2.2 (by decide))
  simp! only [sJ,Bt,fJ,ig,iD,nH,ts,tj,kY hr.1,m,Rule.size]
end Sb
namespace Sb
open PySem PySem.Spec L2 Evl DL
theorem yH(rs:List Rule)(g:Good rs)(f:Fits MOST rs)(hl:rs.length≤16700000):Bx [fu rs]= .ok (fL (sizes rs)):=adJ (m:=sJ) adB rs g f hl
end Sb
namespace Sb
open PySem PySem.Spec L2 Evl DL
theorem JV(rs:List Rule):qQ [fu rs, .none]= .ok .none:=by
 simp! only [qQ,RD,pF,v7]
theorem Vx(rs:List Rule)(k:Nat)(h:k<rs.length):qQ [fu rs, .int (k:Int)]= .ok .none:=by
 simp! only [qQ,RD,pF,v7,iW,sG,show(0:Int)≤(k:Int) by omega,show(k:Int)<(rs.length:Int) by omega]
end Sb
namespace Sb
open PySem PySem.Spec L2 Evl DL
theorem JF(rs:List Rule)(n:Option Nat)(h:fX rs n):qQ [fu rs,eZ n]= .ok .none:=by
 cases n with
 |none=>exact JV rs
 |some k=>exact Vx rs k (h k rfl)
end Sb
namespace Sb
open PySem PySem.Spec L2 Evl DL
theorem aa2(r:Rule):nQ [fJ r]= .ok (fL r.parts):=by
 cases r with
 |sign c=>simp! only [nQ,yE,fJ,ig];rfl
 |join a b=>simp! only [nQ,yE,fJ,ig,iD,nH,js];rfl
 |times a n=>simp! only [nQ,yE,fJ,ig,iD,ts,tj];rfl
theorem Ux(rs:List Rule):nj [fu rs, .none]= .ok (fL []):=by
 simp! only [nj,Eh,v7]
 rfl
def qG(S:List Nat)(ps:List Nat):List Nat:=ps.foldl (fun S p=>if p∈S then S else S++[p]) S
theorem v8(S ps:List Nat)(p:Nat):qG S (ps++[p])=if p∈qG S ps then qG S ps else qG S ps++[p]:=by
 unfold qG
 rw [List.foldl_append]
 rfl
theorem oV(S:List Nat):∀(ps:List Nat) (x:Nat),x∈qG S ps↔x∈S∨x∈ps:=by
 refine snocInd (fun x=>by simp [qG]) fun l a ih x=> ?_
 rw [v8]
 split
 ·rename_i h
  rw [ih,aR,aV]
  have ha:=(ih a).mp h
  constructor
  ·rintro(h|h)
   ·exact .inl h
   ·exact .inr (.inl h)
  ·rintro(h|h|h)
   ·exact .inl h
   ·exact .inr h
   ·rw [h]
    exact ha
 ·rw [aR,ih,aR,or_assoc]
theorem aas(S:List Nat)(hn:S.Nodup):∀ps:List Nat,(qG S ps).Nodup:=by
 refine snocInd hn fun l a ih=> ?_
 rw [v8]
 split
 ·exact ih
 ·rename_i h
  exact cQ.mpr ⟨ih,by simp,fun x hx b hb=>by
   have:b=a:=by simpa using hb
   rw [this]
   intro z
   rw [z] at hx
   exact h hx⟩
theorem Lg(S:List Nat):∀ps:List Nat,(qG S ps).length≤S.length+ps.length:=by
 refine snocInd (by simp [qG]) fun l a ih=> ?_
 rw [v8]
 split
 ·simp
  omega
 ·simp
  omega
theorem V8(S:List Nat)(s1:S.Nodup):∃ks,Ah (.dict (oJ S))= .ok (fL ks)∧ks.Pairwise (·<·)∧∀i,i∈ks↔i∈S:=by
 have pm:=Wf (S.map fun(i:Nat)=>(i:Int))
 have so:=MF (S.map fun(i:Nat)=>(i:Int))
 have e0:Ah (.dict (oJ S))= .ok (.list ((srt (S.map fun(i:Nat)=>(i:Int))).map aD)):=by
  simp only [Ah,Qo]
 obtain⟨T,hT⟩:∃T,T=srt (S.map fun(i:Nat)=>(i:Int)):=⟨_,rfl⟩
 rw [←hT] at pm so e0
 have mem:∀z,z∈T↔∃i∈S,(i:Int)=z:=fun z=>by rw [pm.mem_iff,cC]
 have nd:T.Nodup:=pm.nodup_iff.mpr (by
  rw [List.Nodup,List.pairwise_map]
  exact s1.imp fun h z=>h (by omega))
 have ek:fL (T.map Int.toNat)= .list (T.map aD):=by
  unfold fL
  rw [bY]
  refine congrArg di (bQ fun z hz=> ?_)
  obtain⟨i,_,rfl⟩:=(mem z).mp hz
  show aD (((i:Int).toNat:Nat):Int)=aD (i:Int)
  rw [cZ]
 refine⟨T.map Int.toNat,by rw [ek];exact e0,?_,fun i=> ?_⟩
 ·rw [List.pairwise_map]
  have both:=so.and nd
  refine List.Pairwise.imp_of_mem ?_ both
  intro a b ha hb h
  obtain⟨i,_,rfl⟩:=(mem a).mp ha
  obtain⟨j,_,rfl⟩:=(mem b).mp hb
  have h1:=h.1
  have h2:(i:Int)≠(j:Int):=h.2
  simp only [cZ]
  omega
 ·rw [cC]
  constructor
  ·rintro⟨z,hz,rfl⟩
   obtain⟨i,hi,rfl⟩:=(mem z).mp hz
   simpa using hi
  ·intro hi
   exact⟨(i:Int),(mem _).mpr ⟨i,hi,rfl⟩,by simp⟩
theorem acN(rs:List Rule)(S:List Nat)(k m:Nat)(r:Rule)(hr:rs[m]? =some r)(hS:S.length≤8000000)(k4:Sl):∃k4' :Sl,mZ (iL (ni (fG nQ [(eV gj (eE 0) (eE 3))]))) (gN 4) (mX 2 (eE 4) (eC (.bool true))) [.dat (fu rs), .dat (.int (k:Int)), .own (.dict (oJ S)), .dat (.int (m:Int)),k4]
 = .nx [.dat (fu rs), .dat (.int (k:Int)), .own (.dict (oJ (qG S r.parts))), .dat (.int (m:Int)),k4']:=by
 have pl:r.parts.length≤2:=by cases r<;>simp [Rule.parts]
 obtain⟨ρ2,hf2,k4',rfl⟩:=JK (mi:=iL (ni (fG nQ [(eV gj (eE 0) (eE 3))]))) (g:=gN 4) (body:=mX 2 (eE 4) (eC (.bool true)))
  (ρ:=[.dat (fu rs), .dat (.int (k:Int)), .own (.dict (oJ S)), .dat (.int (m:Int)),k4]) (ds:=r.parts.map fun(n:Nat)=>aD (n:Int))
  (fun i ρ=>∃k4:Sl,ρ=[.dat (fu rs), .dat (.int (k:Int)), .own (.dict (oJ (qG S (r.parts.take i)))), .dat (.int (m:Int)),k4])
  (by
    simp! only [iL,qM,rN hr,aa2,K8]
    rfl)
  ⟨_,rfl⟩
  (by
    rintro i d ρ hd ⟨k4,rfl⟩
    rw [aH,aK] at hd
    obtain⟨p,h1,rfl⟩:=hd
    have hi:=(aq.mp h1).1
    have et:r.parts.take (i+1)=r.parts.take i++[p]:=by
     rw [bH,h1]
     rfl
    have hz2:(oJ (qG S (r.parts.take i))).length<sizeLine:=by
     unfold oJ
     rw [aA]
     have:=Lg S (r.parts.take i)
     rw [aY] at this
     exact lY (by omega)
    refine⟨_,[.dat (fu rs), .dat (.int (k:Int)), .own (.dict (oJ (qG S (r.parts.take (i+1))))), .dat (.int (m:Int)), .dat (.int (p:Int))],nu, .inl ?_,_,rfl⟩
    simp only [set_0,jU,mX,Ze,jO,kJ,aQ,aG,DL.keyOf,hz2,if_true,Um,Ym]
    rw [et,v8])
 rw [aA,bV] at hf2
 exact⟨k4',hf2⟩
theorem aaf(rs:List Rule)(g:Good rs)(hl:rs.length≤3000000)(k:Nat)(hk:k<rs.length):∃ks,nj [fu rs, .int (k:Int)]= .ok (fL ks)∧Need rs k ks:=by
 obtain⟨L,hL⟩:∃L,L=fu rs:=⟨_,rfl⟩
 have key:∃ks,Eh [.dat L, .dat (.int (k:Int)), .un, .un, .un]= .rt (fL ks)∧Need rs k ks:=by
  unfold Eh
  rw [rW (ρ' :=[.dat L, .dat (.int (k:Int)), .un, .un, .un]) (by simp! only [v7])]
  rw [rW (ρ' :=[.dat L, .dat (.int (k:Int)), .own (.dict (oJ [k])), .un, .un]) (by
   simp! only [eD1,DL.keyOf]
   rfl)]
  obtain⟨ρ',hf,S,k3,k4,rfl,s1,s2,s3,s4,s5,s6⟩:=JK (mi:=iR3 (eE 1) (Dq S8 (eC (.int 1))) (Dq S8 (eC (.int 1)))) (g:=gN 3)
   (body:=ju (eV (wU false) (eE 3) (gD 2)) (mZ (iL (ni (fG nQ [(eV gj (eE 0) (eE 3))]))) (gN 4) (mX 2 (eE 4) (eC (.bool true)))) fZ)
   (ρ:=[.dat L, .dat (.int (k:Int)), .own (.dict (oJ [k])), .un, .un]) (ds:=DK (k:Int) (-1))
   (fun j ρ=>∃(S:List Nat) (k3 k4:Sl),ρ=[.dat L, .dat (.int (k:Int)), .own (.dict (oJ S)),k3,k4]∧S.Nodup∧k∈S∧(∀i∈S,i≤k)∧(∀i∈S,k<i+j→∀r,rs[i]? =some r→∀p∈r.parts,p∈S)∧S.length≤1+2*j∧∀i∈S,i=k∨∃j∈S,∃r,rs[j]? =some r∧i∈r.parts)
   (by
     have c1:inR (k:Int)=true:=Xb (by omega) (by omega)
     have c2:inR (-1)=true:=by decide
     simp! only [iR3,nM,Cy,c1,c2,Bool.and_self,if_true])
   ⟨[k],_,_,rfl,by simp,by simp,by simp,fun i hi hki=>by
     have:i=k:=by simpa using hi
     omega,by simp,fun i hi=> .inl (by simpa using hi)⟩
   (by
     rintro j d ρ hd ⟨S,k3,k4,rfl,s1,s2,s3,s4,s5,s6⟩
     have hj:=(aq.mp hd).1
     rw [xH] at hj
     rw [Pq _ _ _ hj] at hd
     cases hd
     have hjk:j≤k:=by omega
     obtain⟨m,hm⟩:∃m:Nat,m+j=k:=⟨k-j,by omega⟩
     have em:(k:Int)-(j:Int)=(m:Int):=by omega
     rw [em]
     have hmr:m<rs.length:=by omega
     have hr:rs[m]? =some rs[m]:=by simp [hmr]
     obtain⟨r,er⟩:∃r,r=rs[m]:=⟨_,rfl⟩
     rw [←er] at hr
     by_cases hin:m∈S
     ·obtain⟨k4',hf2⟩:=acN rs S k m r hr (by omega) k4
      rw [←hL] at hf2
      have pl:r.parts.length≤2:=by cases r<;>simp [Rule.parts]
      refine⟨_,[.dat L, .dat (.int (k:Int)), .own (.dict (oJ (qG S r.parts))), .dat (.int (m:Int)),k4'],nu, .inl ?_,_,_,_,rfl,aas S s1 _,(oV _ _ _).mpr (.inl s2),?_,?_,?_,?_⟩
      ·simp only [set_0,jU]
       rw [CP (by simp! only [YK,hin])]
       exact hf2
      ·intro i hi
       rcases(oV _ _ _).mp hi with h|h
       ·exact s3 i h
       ·have:=oU (g m r hr) i h
        omega
      ·intro i hi hki q hq p hp
       rcases(oV _ _ _).mp hi with h|h
       ·by_cases e:i=m
        ·rw [e,hr] at hq
         cases hq
         exact(oV _ _ _).mpr (.inr hp)
        ·exact(oV _ _ _).mpr (.inl (s4 i h (by omega) q hq p hp))
       ·have:=oU (g m r hr) i h
        omega
      ·have:=Lg S r.parts
       omega
      ·intro i hi
       rcases(oV _ _ _).mp hi with h|h
       ·rcases s6 i h with h2|⟨j2,h2,q,h3,h4⟩
        ·exact .inl h2
        ·exact .inr ⟨j2,(oV _ _ _).mpr (.inl h2),q,h3,h4⟩
       ·exact .inr ⟨m,(oV _ _ _).mpr (.inl hin),r,hr,h⟩
     ·refine⟨_,[.dat L, .dat (.int (k:Int)), .own (.dict (oJ S)), .dat (.int (m:Int)),k4],nu, .inl ?_,S,_,_,rfl,s1,s2,s3,?_,by omega,s6⟩
      ·simp only [set_0,jU]
       rw [vC (by simp! only [YK,hin])]
       rfl
      ·intro i hi hki
       refine s4 i hi ?_
       have:i≠m:=fun z=>hin (by rw [←z];exact hi)
       omega)
  rw [rW hf]
  have dl:(DK (k:Int) (-1)).length=k+1:=by rw [xH];omega
  rw [dl] at s4
  obtain⟨ks,e1,e2,e3⟩:=V8 S s1
  refine⟨ks,?_,⟨e2,(e3 k).mpr s2,fun i hi=>s3 i ((e3 i).mp hi),fun i hi r hr p hp=>(e3 p).mpr (s4 i ((e3 i).mp hi) (by omega) r hr p hp),fun i hi=> ?_⟩⟩
  ·simp! only [Cy,e1]
  ·rcases s6 i ((e3 i).mp hi) with h2|⟨j2,h2,q,h3,h4⟩
   ·exact .inl h2
   ·exact .inr ⟨j2,(e3 j2).mpr h2,q,h3,h4⟩
 obtain⟨ks,e,n⟩:=key
 rw [hL] at e
 exact⟨ks,aeX e,n⟩
end Sb
namespace Sb
open PySem PySem.Spec L2 Evl DL
theorem Nt(rs:List Rule)(g:Good rs)(hl:rs.length≤3000000)(n:Option Nat)(hn:fX rs n):∃ks,nj [fu rs,eZ n]= .ok (fL ks)∧t8 rs n ks:=by
 cases n with
 |none=>exact⟨[],Ux rs,rfl⟩
 |some k=>
  obtain⟨ks,e,nd⟩:=aaf rs g hl k (hn k rfl)
  exact⟨ks,e,hn k rfl,nd⟩
end Sb
namespace Sb
open PySem PySem.Spec L2 Evl DL
theorem Vq(rs:List Rule):nY [fu rs, .none]= .ok (.int 0):=by
 simp! only [nY,Mh,JV,v7]
theorem aaR(rs:List Rule)(g:Good rs)(f:Fits MOST rs)(hl:rs.length≤16700000)(k:Nat)(h:k<rs.length):nY [fu rs, .int (k:Int)]= .ok (.int (((sizes rs).getD k 0:Nat):Int)):=by
 have e:=yH rs g f hl
 have e2:=kY (ns:=sizes rs) (a:=k) (by rw [j5];exact h)
 simp! only [nY,Mh,Vx rs k h,v7,e,e2]
end Sb
namespace Sb
open PySem PySem.Spec L2 Evl DL
theorem u9(rs:List Rule)(g:Good rs)(f:Fits MOST rs)(hl:rs.length≤16700000)(n:Option Nat)(h:fX rs n):nY [fu rs,eZ n]= .ok (.int ((kW rs n:Nat):Int)):=by
 cases n with
 |none=>exact Vq rs
 |some k=>exact aaR rs g f hl k (h k rfl)
end Sb
namespace Sb
open PySem PySem.Spec L2 Evl DL
theorem Ho(ds:List (D×D))(k:D):GF (.dict ds) k=jr (.dict ds) k:=rfl
theorem aaU(ns:List Nat)(k:D):GF (fL ns) k=gj (fL ns) k:=rfl
theorem yM(r:Rule)(i:Nat)(h:r.ok i)(f:Nat→Nat)(N:D)(hN:∀a∈r.parts,GF N (.int (a:Int))= .ok (.int ((f a:Nat):Int))):lA [fJ r,N]= .ok (fJ (r.o9 f)):=by
 cases r with
 |sign c=>simp! only [lA,Bf,fJ,ig,Rule.o9]
 |join a b=>simp! only [lA,Bf,fJ,ig,iD,nH,js,hN a (by simp [Rule.parts]),hN b (by simp [Rule.parts]),Rule.o9]
 |times a n=>simp! only [lA,Bf,fJ,ig,iD,nH,ts,tj,hN a (by simp [Rule.parts]),Rule.o9]
end Sb
namespace Sb
open PySem PySem.Spec L2 Evl DL
def fM(rs:List Rule):D:= .list (rs.map fJ)
theorem Jb{n:Nat}{m:SM}{c d:D}{ds:List D}(h:m (.own c::(ds.map Sl.dat++aC n .un))= .rt d):z8 n m (c::ds)= .ok d:=by simp only [z8,h]
theorem K6(rs:List Rule)(r:Rule)(hl:rs.length<16700000):tQ [fM rs,fJ r]= .ok (.tuple [.int ((rs.length:Nat):Int),fM (rs++[r])]):=by
 have ap:qK 0 (eE 1) [.own (fM rs), .dat (fJ r)]= .nx [.own (fM (rs++[r])), .dat (fJ r)]:=by
  rw [app_ok (ds:=rs.map fJ) (d:=fJ r) rfl rfl (by rw [aA];exact lY (by omega))]
  simp [fM]
 refine Jb (n:=0) ?_
 show abI [.own (fM (rs)), .dat (fJ r)]=_
 unfold abI
 rw [rW ap]
 have e:eV pH (fG je [(gD 0)]) (eC (.int 1)) [.own (fM (rs++[r])), .dat (fJ r)]= .ok (.int ((rs.length:Nat):Int)):=by
  simp! only [fM,au,aW,bW]
  congr 2
  omega
 simp only [yX,e]
 rfl
end Sb
namespace Sb
open PySem PySem.Spec L2 Evl DL
theorem uN(rs:List Rule)(a b:Option Nat)(hl:rs.length<16700000):jR [fM rs,eZ a,eZ b]= .ok (.tuple [eZ (oh rs a b).2,fM (oh rs a b).1]):=by
 refine Jb (n:=0) ?_
 show Mf [.own (fM rs), .dat (eZ a), .dat (eZ b)]=_
 unfold Mf
 cases a with
 |none=>
  rw [CZ (d:= .tuple [eZ b,fM rs])]
  ·rfl
  ·rw [CP rfl]
   rfl
 |some a=>
  rw [rW (ρ' :=[.own (fM rs), .dat (eZ (some a)), .dat (eZ b)]) (by rw [vC rfl];rfl)]
  cases b with
  |none=>
   rw [CZ (d:= .tuple [eZ (some a),fM rs])]
   ·rfl
   ·rw [CP rfl]
    rfl
  |some b=>
   rw [rW (ρ' :=[.own (fM rs), .dat (eZ (some a)), .dat (eZ (some b))]) (by rw [vC rfl];rfl)]
   have pu:=K6 rs (.join a b) hl
   have ex:jh 0 tQ [(jG [(eC (.str "join")),(eE 1),(eE 2)])] [.own (fM rs), .dat (eZ (some a)), .dat (eZ (some b))]= .ok (.int ((rs.length:Nat):Int)) [.own (fM (rs++[.join a b])), .dat (eZ (some a)), .dat (eZ (some b))]:=by
    have ev:nM [(jG [(eC (.str "join")),(eE 1),(eE 2)])] [.own (fM rs), .dat (eZ (some a)), .dat (eZ (some b))]= .ok [fJ (.join a b)]:=by
     simp! only [nM]
     rfl
    simp only [jh,aG,ev,pu]
    rfl
   simp only [wF,ex]
   rfl
end Sb
namespace Sb
open PySem PySem.Spec L2 Evl DL
theorem JL(rs:List Rule)(n:Option Nat)(m:Nat)(hl:rs.length<16700000):uY [fM rs,eZ n, .int (m:Int)]= .ok (.tuple [eZ (overF rs n m).2,fM (overF rs n m).1]):=by
 refine Jb (n:=0) ?_
 show Wz [.own (fM rs), .dat (eZ n), .dat (.int (m:Int))]=_
 unfold Wz
 cases n with
 |none=>
  rw [CZ (d:= .tuple [.none,fM rs])]
  ·rfl
  ·rw [CP rfl]
   rfl
 |some a=>
  by_cases h0:m=0
  ·subst h0
   rw [CZ (d:= .tuple [.none,fM rs])]
   ·rfl
   ·rw [CP (by simp! only [eZ,v7];rfl)]
    rfl
  ·have h0' :¬(m:Int)=0:=by omega
   rw [rW (ρ' :=[.own (fM rs), .dat (eZ (some a)), .dat (.int (m:Int))]) (by rw [vC (by simp! only [eZ,v7,h0'])];rfl)]
   by_cases h1:m=1
   ·subst h1
    rw [CZ (d:= .tuple [eZ (some a),fM rs])]
    ·rfl
    ·rw [CP (by simp! only [];rfl)]
     rfl
   ·have h1' :¬(m:Int)=1:=by omega
    rw [rW (ρ' :=[.own (fM rs), .dat (eZ (some a)), .dat (.int (m:Int))]) (by rw [vC (by simp! only [h1'])];rfl)]
    have pu:=K6 rs (.times a m) hl
    have ex:jh 0 tQ [(jG [(eC (.str "times")),(eE 1),(eE 2)])] [.own (fM rs), .dat (eZ (some a)), .dat (.int (m:Int))]= .ok (.int ((rs.length:Nat):Int)) [.own (fM (rs++[.times a m])), .dat (eZ (some a)), .dat (.int (m:Int))]:=by
     have ev:nM [(jG [(eC (.str "times")),(eE 1),(eE 2)])] [.own (fM rs), .dat (eZ (some a)), .dat (.int (m:Int))]= .ok [fJ (.times a m)]:=by
      simp! only [nM]
      rfl
     simp only [jh,aG,ev,pu]
     rfl
    simp only [wF,ex]
    simp only [overF,h0,h1,if_false]
    rfl
end Sb
namespace Sb
open PySem PySem.Spec L2 Evl DL
theorem aav(rs:List Rule)(g:Good rs)(f:Fits MOST rs)(hl:rs.length<16700000)(a b:Option Nat)(ha:fX rs a)(hb:fX rs b)(h:kW rs a+kW rs b≤MOST):uV [fu rs,eZ a,eZ b]= .ok (.tuple [fu (oh rs a b).1,eZ (oh rs a b).2]):=by
 have la:=u9 rs g f (by omega) a ha
 have lb:=u9 rs g f (by omega) b hb
 have hn:¬(1152921504606846976:Int)<((kW rs a:Nat):Int)+((kW rs b:Nat):Int):=by
  unfold MOST at h
  omega
 have ls:pP [fu rs]= .ok (fM rs):=rfl
 have li:=uN rs a b hl
 refine jg ?_
 show Rt (Le [.dat (fu rs), .dat (eZ a), .dat (eZ b), .un, .un]) _
 unfold Le
 refine fD (ρ' :=[.dat (fu rs), .dat (eZ a), .dat (eZ b), .un, .un]) (by simp! only [la,lb,hn]) ?_
 refine fD (ρ' :=[.dat (fu rs), .dat (eZ a), .dat (eZ b), .own (fM rs), .un]) (by simp! only [ls]) ?_
 have ex:jh 3 jR [(eE 1),(eE 2)] [.dat (fu rs), .dat (eZ a), .dat (eZ b), .own (fM rs), .un]= .ok (eZ (oh rs a b).2) [.dat (fu rs), .dat (eZ a), .dat (eZ b), .own (fM (oh rs a b).1), .un]:=by
  have ev:nM [(eE 1),(eE 2)] [.dat (fu rs), .dat (eZ a), .dat (eZ b), .own (fM rs), .un]= .ok [eZ a,eZ b]:=by simp! only [nM]
  simp only [jh,aG,aQ,ev,li]
  rfl
 refine fD (ρ' :=[.dat (fu rs), .dat (eZ a), .dat (eZ b), .own (fM (oh rs a b).1), .dat (eZ (oh rs a b).2)]) (by
  simp only [oN,ex]
  rfl) ?_
 exact gU (by simp! only [fM];rfl) rfl
end Sb
namespace Sb
open PySem PySem.Spec L2 Evl DL
theorem adE(rs:List Rule)(f:Fits MOST rs)(n:Option Nat)(m:Nat)(hm:m≤MOST):jZ (.int ((kW rs n:Nat):Int)) (.int (m:Int))= .ok (.int ((kW rs n*m:Nat):Int)):=by
 have h1:=Rr f n
 have mm:MOST<10 ^ 300:=by decide
 rw [mJ (by omega) (by omega) (by omega) (by omega)]
 simp
theorem T5(rs:List Rule)(g:Good rs)(f:Fits MOST rs)(hl:rs.length<16700000)(n:Option Nat)(hn:fX rs n)(m:Nat)(hm:m≤MOST)(h:kW rs n*m≤MOST):CT [fu rs,eZ n, .int (m:Int)]= .ok (.tuple [fu (overF rs n m).1,eZ (overF rs n m).2]):=by
 have la:=u9 rs g f (by omega) n hn
 have mu:=adE rs f n m hm
 have hx:¬(1152921504606846976:Int)<((kW rs n*m:Nat):Int):=by
  unfold MOST at h
  omega
 have ls:pP [fu rs]= .ok (fM rs):=rfl
 have li:=JL rs n m hl
 refine jg ?_
 show Rt (Df [.dat (fu rs), .dat (eZ n), .dat (.int (m:Int)), .un, .un]) _
 unfold Df
 refine fD (ρ' :=[.dat (fu rs), .dat (eZ n), .dat (.int (m:Int)), .un, .un]) (by simp! only [la,mu,hx]) ?_
 refine fD (ρ' :=[.dat (fu rs), .dat (eZ n), .dat (.int (m:Int)), .own (fM rs), .un]) (by simp! only [ls]) ?_
 have ex:jh 3 uY [(eE 1),(eE 2)] [.dat (fu rs), .dat (eZ n), .dat (.int (m:Int)), .own (fM rs), .un]= .ok (eZ (overF rs n m).2) [.dat (fu rs), .dat (eZ n), .dat (.int (m:Int)), .own (fM (overF rs n m).1), .un]:=by
  have ev:nM [(eE 1),(eE 2)] [.dat (fu rs), .dat (eZ n), .dat (.int (m:Int)), .own (fM rs), .un]= .ok [eZ n, .int (m:Int)]:=by simp! only [nM]
  simp only [jh,aG,aQ,ev,li]
  rfl
 refine fD (ρ' :=[.dat (fu rs), .dat (eZ n), .dat (.int (m:Int)), .own (fM (overF rs n m).1), .dat (eZ (overF rs n m).2)]) (by
  simp only [oN,ex]
  rfl) ?_
 exact gU (by simp! only [fM];rfl) rfl
end Sb
namespace Sb
open PySem PySem.Spec L2 Evl DL
theorem Xn(rs:List Rule)(g:Good rs)(f:Fits MOST rs)(hl:rs.length≤3000000)(n:Option Nat)(hn:fX rs n):∃qs n',DQ [fu rs,eZ n]= .ok (.tuple [fu (rs++qs),eZ n'])∧Good (rs++qs)∧Fits MOST (rs++qs)∧qs.length≤rs.length∧fX (rs++qs) n' ∧gK (rs++qs) n' =List.reverse (gK rs n)∧(∀zs,t8 (rs++qs) n' zs→zs.length≤rs.length)∧(∀k,n=some k→qs.length≤k+1)∧(T2 rs→T2 qs):=by
 obtain⟨ks,ek,nk⟩:=Nt rs g hl n hn
 have nm:=JF rs n hn
 have kl:=nk.len
 have ls:pP [fu rs]= .ok (fM (rs++[])):=by rw [aU];rfl
 have loop:Nx (mZ (iL (ni (fG nj [(eE 0),(eE 1)]))) (gN 4) (fK (gG 5 (fG lA [(eV gj (eE 0) (eE 4)),(gD 3)]))
 (fK (ju (eV lB (eV gj (eE 5) (eC (.int 0))) (eC (.str "join"))) (gG 5 (jG [(eC (.str "join")),(eV gj (eE 5) (eC (.int 2))),(eV gj (eE 5) (eC (.int 1)))])) fZ)
 (fK (mX 3 (eE 4) (eE 4))
 (ju (eV BX (eE 5) (eV gj (eE 0) (eE 4))) (Cj 3 (eE 4) (jh 2 tQ [(eE 5)])) fZ)))) [.dat (fu rs), .dat (eZ n), .own (fM (rs++[])), .own (.dict (nW (fun x=> .int (((fun _=>0) x:Nat):Int)) (ks.take 0))), .un, .un]) (fun ρ=>∃(qs:List Rule) (fn:Nat→Nat) (k4 k5:Sl),ρ=[.dat (fu rs), .dat (eZ n), .own (fM (rs++qs)), .own (.dict (nW (fun x=> .int ((fn x:Nat):Int)) ks)),k4,k5]∧Done rs List.reverse ks qs fn):=by
  have h:=lZ (mi:=iL (ni (fG nj [(eE 0),(eE 1)]))) (g:=gN 4) (body:=(fK (gG 5 (fG lA [(eV gj (eE 0) (eE 4)),(gD 3)]))
 (fK (ju (eV lB (eV gj (eE 5) (eC (.int 0))) (eC (.str "join"))) (gG 5 (jG [(eC (.str "join")),(eV gj (eE 5) (eC (.int 2))),(eV gj (eE 5) (eC (.int 1)))])) fZ)
 (fK (mX 3 (eE 4) (eE 4))
 (ju (eV BX (eE 5) (eV gj (eE 0) (eE 4))) (Cj 3 (eE 4) (jh 2 tQ [(eE 5)])) fZ))))) (ρ:=[.dat (fu rs), .dat (eZ n), .own (fM (rs++[])), .own (.dict (nW (fun x=> .int (((fun _=>0) x:Nat):Int)) (ks.take 0))), .un, .un]) (ds:=ks.map fun(i:Nat)=>aD (i:Int))
   (fun j ρ=>∃(qs:List Rule) (fn:Nat→Nat) (k4 k5:Sl),ρ=[.dat (fu rs), .dat (eZ n), .own (fM (rs++qs)), .own (.dict (nW (fun x=> .int ((fn x:Nat):Int)) (ks.take j))),k4,k5]∧Done rs List.reverse (ks.take j) qs fn)
   (Rf (jM rfl rfl ek)) ⟨[],fun _=>0,_,_,rfl,⟨by simpa using g,by simpa using f,cG _,fun i hi=>by simp at hi,fun i hi=>by simp at hi,fun i hi=>by simp at hi,fun _=>T2.nil⟩⟩ (by
    rintro j d ρ hd ⟨qs,fn,k4,k5,rfl,dn⟩
    rw [aH,aK] at hd
    obtain⟨i,h1,rfl⟩:=hd
    have hj:=(aq.mp h1).1
    have him:i∈ks:=aX h1
    have hir:=nk.lt i him
    have et:ks.take (j+1)=ks.take j++[i]:=by
     rw [bH,h1]
     rfl
    obtain⟨behind,notin⟩:=Hj nk.rise h1
    have hr:rs[i]? =some rs[i]:=by simp [hir]
    obtain⟨r,er⟩:∃r,r=rs[i]:=⟨_,rfl⟩
    rw [←er] at hr
    have hx:=rN hr
    have ok:=g i r hr
    have hp:∀a∈r.parts,a∈ks.take j:=fun a ha=>behind a (nk.clo i him r hr a ha) (oU ok a ha)
    obtain⟨ok2,same,new⟩:=dn.step ade g f hr hp notin
    have ql:=dn.len
    have tl:(ks.take j).length≤3000000:=by rw [aY];omega
    have re:=yM r i ok fn (.dict (nW (fun x=> .int ((fn x:Nat):Int)) (ks.take j))) fun a ha=>by
     simp only [Ho,jr,qF,if_true,DL.keyOf,xT _ a _ (hp a ha)]
    obtain⟨r1,hr1⟩:∃r1,r1=r.o9 fn:=⟨_,rfl⟩
    have ok1:r1.ok (rs++qs).length:=by
     rw [hr1]
     cases r with
     |sign c=>exact ok
     |join a b=>exact⟨dn.lt a (hp a (by simp [Rule.parts])),dn.lt b (hp b (by simp [Rule.parts]))⟩
     |times a m=>exact⟨dn.lt a (hp a (by simp [Rule.parts])),ok.2⟩
    rw [←hr1] at re ok2 same new
    obtain⟨r2,hr2⟩:∃r2,r2=GJ r1:=⟨_,rfl⟩
    rw [←hr2] at ok2 same new
    refine⟨_,nu,?_⟩
    refine iy (ρ' :=[.dat (fu rs), .dat (eZ n), .own (fM (rs++qs)), .own (.dict (nW (fun x=> .int ((fn x:Nat):Int)) (ks.take j))), .dat (.int (i:Int)), .dat (fJ r1)]) (by
     refine(pG (d:=fJ r1) (jM (x:=fJ r) ?_ rfl re)).trans rfl
     simp! only [hx]) ?_
    refine iy (ρ' :=[.dat (fu rs), .dat (eZ n), .own (fM (rs++qs)), .own (.dict (nW (fun x=> .int ((fn x:Nat):Int)) (ks.take j))), .dat (.int (i:Int)), .dat (fJ r2)]) ?_ ?_
    ·rw [hr2]
     cases r1 with
     |sign c=>simp! only [fJ,ig,sj,GJ]
     |join a b=>simp! only [fJ,ig,iD,nH,GJ]
     |times a m=>simp! only [fJ,ig,tj,GJ]
    have hz:(nW (fun x=>aD ((fn x:Nat):Int)) (ks.take j)).length<sizeLine:=by rw [Ke];exact lY (by omega)
    refine iy (ρ' :=[.dat (fu rs), .dat (eZ n), .own (fM (rs++qs)), .own (.dict (nW (Gv (fun x=> .int ((fn x:Nat):Int)) i (.int (i:Int))) (ks.take (j+1)))), .dat (.int (i:Int)), .dat (fJ r2)]) (by
     simp only [mX,jO,kJ,aQ,aG,DL.keyOf,hz,if_true,qF,Tw _ i _ _ notin,set_0,jU]
     rw [et]) ?_
    have nr:=Wo ok2 ok
    by_cases es:r2=r
    ·have es' :decide (r2=r)=true:=decide_eq_true es
     have em:nW (Gv (fun x=>aD ((fn x:Nat):Int)) i (.int (i:Int))) (ks.take (j+1))=nW (fun x=> .int (((if x=i then i else fn x:Nat):Nat):Int)) (ks.take (j+1)):=Ay fun x _=>by
      simp only [Gv]
      split<;>rfl
     refine Ox (by simp! only [hx,nr,es']) (jE (ρ' :=[.dat (fu rs), .dat (eZ n), .own (fM (rs++qs)), .own (.dict (nW (fun x=> .int (((if x=i then i else fn x:Nat):Nat):Int)) (ks.take (j+1)))), .dat (.int (i:Int)), .dat (fJ r2)]) ?_ ⟨qs,_,_,_,rfl,by rw [et];exact same es⟩)
     rw [Dy,em]
    ·have em:nW (Gv (Gv (fun x=>aD ((fn x:Nat):Int)) i (.int (i:Int))) i (.int (((rs++qs).length:Nat):Int))) (ks.take (j+1))=nW (fun x=> .int (((if x=i then(rs++qs).length else fn x:Nat):Nat):Int)) (ks.take (j+1)):=Ay fun x _=>by
      simp only [Gv]
      split<;>rfl
     have pu:=K6 (rs++qs) r2 (by rw [au];omega)
     have hz2:(nW (Gv (fun x=>aD ((fn x:Nat):Int)) i (.int (i:Int))) (ks.take (j+1))).length<sizeLine:=by
      rw [Ke,aY]
      exact lY (by omega)
     have hin:i∈ks.take (j+1):=by rw [et];simp
     have ex:jh 2 tQ [(eE 5)] [.dat (fu rs), .dat (eZ n), .own (fM (rs++qs)), .own (.dict (nW (Gv (fun x=> .int ((fn x:Nat):Int)) i (.int (i:Int))) (ks.take (j+1)))), .dat (.int (i:Int)), .dat (fJ r2)]= .ok (.int (((rs++qs).length:Nat):Int)) [.dat (fu rs), .dat (eZ n), .own (fM (rs++qs++[r2])), .own (.dict (nW (Gv (fun x=> .int ((fn x:Nat):Int)) i (.int (i:Int))) (ks.take (j+1)))), .dat (.int (i:Int)), .dat (fJ r2)]:=by
      have ev:nM [(eE 5)] [.dat (fu rs), .dat (eZ n), .own (fM (rs++qs)), .own (.dict (nW (Gv (fun x=> .int ((fn x:Nat):Int)) i (.int (i:Int))) (ks.take (j+1)))), .dat (.int (i:Int)), .dat (fJ r2)]= .ok [fJ r2]:=by simp! only [nM]
      simp only [jh,aG,aQ,ev,pu]
      rfl
     refine Rq (by simp! only [hx,nr,es]) (jE (ρ' :=[.dat (fu rs), .dat (eZ n), .own (fM (rs++(qs++[r2]))), .own (.dict (nW (fun x=> .int (((if x=i then(rs++qs).length else fn x:Nat):Nat):Int)) (ks.take (j+1)))), .dat (.int (i:Int)), .dat (fJ r2)]) ?_ ⟨qs++[r2],_,_,_,rfl,by rw [et];exact new⟩)
     simp only [Cj,ex,jO,kJ,aQ,aG,DL.keyOf,hz2,if_true,qF,abo _ i _ _ hin,set_0,jU]
     rw [em,aF])
  rw [aA,bV] at h
  exact h
 obtain⟨ρ1,lo,qs,fn,k4,k5,rfl,dn⟩:=loop
 have key:∀d,pW (gD 3) (eE 1) [.dat (fu rs), .dat (eZ n), .own (fM (rs++qs)), .own (.dict (nW (fun x=> .int ((fn x:Nat):Int)) ks)),k4,k5]= .ok d→DQ [fu rs,eZ n]= .ok (.tuple [fu (rs++qs),d]):=fun d hd=>by
  refine jg ?_
  show Rt (Mx [.dat (fu rs), .dat (eZ n), .un, .un, .un, .un]) _
  unfold Mx
  refine fD (ρ' :=[.dat (fu rs), .dat (eZ n), .un, .un, .un, .un]) (by simp! only [nm]) ?_
  refine fD (ρ' :=[.dat (fu rs), .dat (eZ n), .own (fM (rs++[])), .un, .un, .un]) (by simp! only [ls]) ?_
  refine fD (ρ' :=[.dat (fu rs), .dat (eZ n), .own (fM (rs++[])), .own (.dict (nW (fun x=> .int (((fun _=>0) x:Nat):Int)) (ks.take 0))), .un, .un]) (by simp! only [];rfl) ?_
  refine fD lo ?_
  have bt:mj [fM (rs++qs)]= .ok (fu (rs++qs)):=rfl
  exact gU (by simp! only [hd,bt]) rfl
 have ql:=dn.len
 cases n with
 |none=>exact⟨qs,none,key .none (by simp! only [pW,eZ,qF,if_true];rfl),dn.g,dn.fits,by omega,fX.none,rfl,fun zs hz=>by rw [show zs=[] from hz];exact cG _,(fun k z=>nomatch z),dn.t2⟩
 |some k=>
  have hk:=nk.2.top
  refine⟨qs,some (fn k),key _ ?_,dn.g,dn.fits,by omega,fX.some (dn.lt k hk),dn.tx k hk,fun zs hz=>bf (dn.need hk hz.2) kl,(fun k2 z=>by
   cases z
   exact bf ql (YH nk.2)),dn.t2⟩
  simp! only [pW,eZ,QF,Ja,qF,if_true,DL.keyOf,xT _ k _ hk]
  rfl
end Sb
namespace Sb
open PySem PySem.Spec L2 Evl DL
theorem OJ(rs:List Rule)(g:Good rs)(f:Fits MOST rs)(hl:rs.length≤3000000)(n:Option Nat)(hn:fX rs n)(s o:Nat)(hs:s∈Hi)(ho:o∈Hi):∃qs n',vW [fu rs,eZ n, .str (s1 s), .str (s1 o)]= .ok (.tuple [fu (rs++qs),eZ n'])∧Good (rs++qs)∧Fits MOST (rs++qs)∧qs.length≤rs.length∧fX (rs++qs) n' ∧gK (rs++qs) n' =(List.map (Aa s o)) (gK rs n)∧(∀zs,t8 (rs++qs) n' zs→zs.length≤rs.length)∧(∀k,n=some k→qs.length≤k+1)∧(T2 rs→T2 qs):=by
 obtain⟨ks,ek,nk⟩:=Nt rs g hl n hn
 have nm:=JF rs n hn
 have kl:=nk.len
 have ls:pP [fu rs]= .ok (fM (rs++[])):=by rw [aU];rfl
 have loop:Nx (mZ (iL (ni (fG nj [(eE 0),(eE 1)]))) (gN 6) (fK (gG 7 (fG lA [(eV gj (eE 0) (eE 6)),(gD 5)]))
 (fK (ju (eV lB (eE 7) (jG [(eC (.str "sign")),(eE 2)])) (gG 7 (jG [(eC (.str "sign")),(eE 3)])) fZ)
 (fK (mX 5 (eE 6) (eE 6))
 (ju (eV BX (eE 7) (eV gj (eE 0) (eE 6))) (Cj 5 (eE 6) (jh 4 tQ [(eE 7)])) fZ)))) [.dat (fu rs), .dat (eZ n), .dat (.str (s1 s)), .dat (.str (s1 o)), .own (fM (rs++[])), .own (.dict (nW (fun x=> .int (((fun _=>0) x:Nat):Int)) (ks.take 0))), .un, .un]) (fun ρ=>∃(qs:List Rule) (fn:Nat→Nat) (k4 k5:Sl),ρ=[.dat (fu rs), .dat (eZ n), .dat (.str (s1 s)), .dat (.str (s1 o)), .own (fM (rs++qs)), .own (.dict (nW (fun x=> .int ((fn x:Nat):Int)) ks)),k4,k5]∧Done rs (List.map (Aa s o)) ks qs fn):=by
  have h:=lZ (mi:=iL (ni (fG nj [(eE 0),(eE 1)]))) (g:=gN 6) (body:=(fK (gG 7 (fG lA [(eV gj (eE 0) (eE 6)),(gD 5)]))
 (fK (ju (eV lB (eE 7) (jG [(eC (.str "sign")),(eE 2)])) (gG 7 (jG [(eC (.str "sign")),(eE 3)])) fZ)
 (fK (mX 5 (eE 6) (eE 6))
 (ju (eV BX (eE 7) (eV gj (eE 0) (eE 6))) (Cj 5 (eE 6) (jh 4 tQ [(eE 7)])) fZ))))) (ρ:=[.dat (fu rs), .dat (eZ n), .dat (.str (s1 s)), .dat (.str (s1 o)), .own (fM (rs++[])), .own (.dict (nW (fun x=> .int (((fun _=>0) x:Nat):Int)) (ks.take 0))), .un, .un]) (ds:=ks.map fun(i:Nat)=>aD (i:Int))
   (fun j ρ=>∃(qs:List Rule) (fn:Nat→Nat) (k4 k5:Sl),ρ=[.dat (fu rs), .dat (eZ n), .dat (.str (s1 s)), .dat (.str (s1 o)), .own (fM (rs++qs)), .own (.dict (nW (fun x=> .int ((fn x:Nat):Int)) (ks.take j))),k4,k5]∧Done rs (List.map (Aa s o)) (ks.take j) qs fn)
   (Rf (jM rfl rfl ek)) ⟨[],fun _=>0,_,_,rfl,⟨by simpa using g,by simpa using f,cG _,fun i hi=>by simp at hi,fun i hi=>by simp at hi,fun i hi=>by simp at hi,fun _=>T2.nil⟩⟩ (by
    rintro j d ρ hd ⟨qs,fn,k4,k5,rfl,dn⟩
    rw [aH,aK] at hd
    obtain⟨i,h1,rfl⟩:=hd
    have hj:=(aq.mp h1).1
    have him:i∈ks:=aX h1
    have hir:=nk.lt i him
    have et:ks.take (j+1)=ks.take j++[i]:=by
     rw [bH,h1]
     rfl
    obtain⟨behind,notin⟩:=Hj nk.rise h1
    have hr:rs[i]? =some rs[i]:=by simp [hir]
    obtain⟨r,er⟩:∃r,r=rs[i]:=⟨_,rfl⟩
    rw [←er] at hr
    have hx:=rN hr
    have ok:=g i r hr
    have hp:∀a∈r.parts,a∈ks.take j:=fun a ha=>behind a (nk.clo i him r hr a ha) (oU ok a ha)
    obtain⟨ok2,same,new⟩:=dn.step (afu ho) g f hr hp notin
    have ql:=dn.len
    have tl:(ks.take j).length≤3000000:=by rw [aY];omega
    have re:=yM r i ok fn (.dict (nW (fun x=> .int ((fn x:Nat):Int)) (ks.take j))) fun a ha=>by
     simp only [Ho,jr,qF,if_true,DL.keyOf,xT _ a _ (hp a ha)]
    obtain⟨r1,hr1⟩:∃r1,r1=r.o9 fn:=⟨_,rfl⟩
    have ok1:r1.ok (rs++qs).length:=by
     rw [hr1]
     cases r with
     |sign c=>exact ok
     |join a b=>exact⟨dn.lt a (hp a (by simp [Rule.parts])),dn.lt b (hp b (by simp [Rule.parts]))⟩
     |times a m=>exact⟨dn.lt a (hp a (by simp [Rule.parts])),ok.2⟩
    rw [←hr1] at re ok2 same new
    obtain⟨r2,hr2⟩:∃r2,r2=(O9 s o) r1:=⟨_,rfl⟩
    rw [←hr2] at ok2 same new
    refine⟨_,nu,?_⟩
    refine iy (ρ' :=[.dat (fu rs), .dat (eZ n), .dat (.str (s1 s)), .dat (.str (s1 o)), .own (fM (rs++qs)), .own (.dict (nW (fun x=> .int ((fn x:Nat):Int)) (ks.take j))), .dat (.int (i:Int)), .dat (fJ r1)]) (by
     refine(pG (d:=fJ r1) (jM (x:=fJ r) ?_ rfl re)).trans rfl
     simp! only [hx]) ?_
    refine iy (ρ' :=[.dat (fu rs), .dat (eZ n), .dat (.str (s1 s)), .dat (.str (s1 o)), .own (fM (rs++qs)), .own (.dict (nW (fun x=> .int ((fn x:Nat):Int)) (ks.take j))), .dat (.int (i:Int)), .dat (fJ r2)]) ?_ ?_
    ·rw [hr2]
     have eqr:=acZ (q:= .sign s) (j:=0) ok1 hs
     have eqr' :lB (fJ r1) (.tuple [.str "sign", .str (s1 s)])= .ok (.bool (decide (r1= .sign s))):=eqr
     by_cases e:r1= .sign s
     ·have e' :decide (r1= .sign s)=true:=decide_eq_true e
      have et:O9 s o r1= .sign o:=by rw [e];simp [O9,Aa]
      rw [CP (by simp! only [eqr',e']),et]
      simp! only []
      rfl
     ·have e' :decide (r1= .sign s)=false:=decide_eq_false e
      have et:O9 s o r1=r1:=by
       cases r1 with
       |sign c=>
        have:¬c=s:=fun z=>e (by rw [z])
        simp [O9,Aa,this]
       |join a b=>rfl
       |times a m=>rfl
      rw [vC (by simp! only [eqr',e']),et]
      rfl
    have hz:(nW (fun x=>aD ((fn x:Nat):Int)) (ks.take j)).length<sizeLine:=by rw [Ke];exact lY (by omega)
    refine iy (ρ' :=[.dat (fu rs), .dat (eZ n), .dat (.str (s1 s)), .dat (.str (s1 o)), .own (fM (rs++qs)), .own (.dict (nW (Gv (fun x=> .int ((fn x:Nat):Int)) i (.int (i:Int))) (ks.take (j+1)))), .dat (.int (i:Int)), .dat (fJ r2)]) (by
     simp only [mX,jO,kJ,aQ,aG,DL.keyOf,hz,if_true,qF,Tw _ i _ _ notin,set_0,jU]
     rw [et]) ?_
    have nr:=Wo ok2 ok
    by_cases es:r2=r
    ·have es' :decide (r2=r)=true:=decide_eq_true es
     have em:nW (Gv (fun x=>aD ((fn x:Nat):Int)) i (.int (i:Int))) (ks.take (j+1))=nW (fun x=> .int (((if x=i then i else fn x:Nat):Nat):Int)) (ks.take (j+1)):=Ay fun x _=>by
      simp only [Gv]
      split<;>rfl
     refine Ox (by simp! only [hx,nr,es']) (jE (ρ' :=[.dat (fu rs), .dat (eZ n), .dat (.str (s1 s)), .dat (.str (s1 o)), .own (fM (rs++qs)), .own (.dict (nW (fun x=> .int (((if x=i then i else fn x:Nat):Nat):Int)) (ks.take (j+1)))), .dat (.int (i:Int)), .dat (fJ r2)]) ?_ ⟨qs,_,_,_,rfl,by rw [et];exact same es⟩)
     rw [Dy,em]
    ·have em:nW (Gv (Gv (fun x=>aD ((fn x:Nat):Int)) i (.int (i:Int))) i (.int (((rs++qs).length:Nat):Int))) (ks.take (j+1))=nW (fun x=> .int (((if x=i then(rs++qs).length else fn x:Nat):Nat):Int)) (ks.take (j+1)):=Ay fun x _=>by
      simp only [Gv]
      split<;>rfl
     have pu:=K6 (rs++qs) r2 (by rw [au];omega)
     have hz2:(nW (Gv (fun x=>aD ((fn x:Nat):Int)) i (.int (i:Int))) (ks.take (j+1))).length<sizeLine:=by
      rw [Ke,aY]
      exact lY (by omega)
     have hin:i∈ks.take (j+1):=by rw [et];simp
     have ex:jh 4 tQ [(eE 7)] [.dat (fu rs), .dat (eZ n), .dat (.str (s1 s)), .dat (.str (s1 o)), .own (fM (rs++qs)), .own (.dict (nW (Gv (fun x=> .int ((fn x:Nat):Int)) i (.int (i:Int))) (ks.take (j+1)))), .dat (.int (i:Int)), .dat (fJ r2)]= .ok (.int (((rs++qs).length:Nat):Int)) [.dat (fu rs), .dat (eZ n), .dat (.str (s1 s)), .dat (.str (s1 o)), .own (fM (rs++qs++[r2])), .own (.dict (nW (Gv (fun x=> .int ((fn x:Nat):Int)) i (.int (i:Int))) (ks.take (j+1)))), .dat (.int (i:Int)), .dat (fJ r2)]:=by
      have ev:nM [(eE 7)] [.dat (fu rs), .dat (eZ n), .dat (.str (s1 s)), .dat (.str (s1 o)), .own (fM (rs++qs)), .own (.dict (nW (Gv (fun x=> .int ((fn x:Nat):Int)) i (.int (i:Int))) (ks.take (j+1)))), .dat (.int (i:Int)), .dat (fJ r2)]= .ok [fJ r2]:=by simp! only [nM]
      simp only [jh,aG,aQ,ev,pu]
      rfl
     refine Rq (by simp! only [hx,nr,es]) (jE (ρ' :=[.dat (fu rs), .dat (eZ n), .dat (.str (s1 s)), .dat (.str (s1 o)), .own (fM (rs++(qs++[r2]))), .own (.dict (nW (fun x=> .int (((if x=i then(rs++qs).length else fn x:Nat):Nat):Int)) (ks.take (j+1)))), .dat (.int (i:Int)), .dat (fJ r2)]) ?_ ⟨qs++[r2],_,_,_,rfl,by rw [et];exact new⟩)
     simp only [Cj,ex,jO,kJ,aQ,aG,DL.keyOf,hz2,if_true,qF,abo _ i _ _ hin,set_0,jU]
     rw [em,aF])
  rw [aA,bV] at h
  exact h
 obtain⟨ρ1,lo,qs,fn,k4,k5,rfl,dn⟩:=loop
 have key:∀d,pW (gD 5) (eE 1) [.dat (fu rs), .dat (eZ n), .dat (.str (s1 s)), .dat (.str (s1 o)), .own (fM (rs++qs)), .own (.dict (nW (fun x=> .int ((fn x:Nat):Int)) ks)),k4,k5]= .ok d→vW [fu rs,eZ n, .str (s1 s), .str (s1 o)]= .ok (.tuple [fu (rs++qs),d]):=fun d hd=>by
  refine jg ?_
  show Rt (zP [.dat (fu rs), .dat (eZ n), .dat (.str (s1 s)), .dat (.str (s1 o)), .un, .un, .un, .un]) _
  unfold zP
  refine fD (ρ' :=[.dat (fu rs), .dat (eZ n), .dat (.str (s1 s)), .dat (.str (s1 o)), .un, .un, .un, .un]) (by simp! only [nm]) ?_
  refine fD (ρ' :=[.dat (fu rs), .dat (eZ n), .dat (.str (s1 s)), .dat (.str (s1 o)), .own (fM (rs++[])), .un, .un, .un]) (by simp! only [ls]) ?_
  refine fD (ρ' :=[.dat (fu rs), .dat (eZ n), .dat (.str (s1 s)), .dat (.str (s1 o)), .own (fM (rs++[])), .own (.dict (nW (fun x=> .int (((fun _=>0) x:Nat):Int)) (ks.take 0))), .un, .un]) (by simp! only [];rfl) ?_
  refine fD lo ?_
  have bt:mj [fM (rs++qs)]= .ok (fu (rs++qs)):=rfl
  exact gU (by simp! only [hd,bt]) rfl
 have ql:=dn.len
 cases n with
 |none=>exact⟨qs,none,key .none (by simp! only [pW,eZ,qF,if_true];rfl),dn.g,dn.fits,by omega,fX.none,rfl,fun zs hz=>by rw [show zs=[] from hz];exact cG _,(fun k z=>nomatch z),dn.t2⟩
 |some k=>
  have hk:=nk.2.top
  refine⟨qs,some (fn k),key _ ?_,dn.g,dn.fits,by omega,fX.some (dn.lt k hk),dn.tx k hk,fun zs hz=>bf (dn.need hk hz.2) kl,(fun k2 z=>by
   cases z
   exact bf ql (YH nk.2)),dn.t2⟩
  simp! only [pW,eZ,QF,Ja,qF,if_true,DL.keyOf,xT _ k _ hk]
  rfl
end Sb
namespace Sb
open PySem PySem.Spec L2 Evl DL
theorem Kw(rs os:List Rule)(go:Good os)(hl:rs.length+os.length≤16700000)(n:Option Nat)(hn:fX os n):wZ [fu rs,fu os,eZ n]= .ok (.tuple [fu (rs++bring rs os),eZ (pK rs n)]):=by
 obtain⟨O,hO⟩:∃O,O=fu os:=⟨_,rfl⟩
 have lo:je [O]= .ok (.int ((os.length:Nat):Int)):=by rw [hO];exact sG os
 have nm:=JF os n hn
 rw [←hO] at nm⊢
 obtain⟨N,hN⟩:∃N,N=fL ((bU os.length).map fun i=>rs.length+i):=⟨_,rfl⟩
 have ixN:∀a,a<os.length→GF N (.int (a:Int))= .ok (.int ((rs.length+a:Nat):Int)):=fun a ha=>by
  rw [hN,aaU,kY (by simpa using ha)]
  simp [bJ,ha]
 have lc:Oc (HD (fG je [(eE 1)])) (gN 7) (eC (.bool true)) (eV jw (eE 3) (eE 7)) [7] [.dat (fu rs), .dat (O), .dat (eZ n), .dat (.int ((rs.length:Nat):Int)), .un, .un, .un, .un]= .ok N:=by
  rw [hN]
  unfold fL
  rw [bY]
  refine GZ (fun(i:Nat)=> .int (i:Int)) _ ?_ ?_ (by simp only [cM];exact tG (by omega))
  ·rw [←vz]
   exact Gi (by simp! only [lo]) (by omega) (by omega)
  ·intro k hk
   refine⟨_,rfl,rfl,?_⟩
   simp! only [rM]
   rfl
 have ls:pP [fu rs]= .ok (.list ((rs++bring rs (os.take 0)).map fJ)):=by simp [bring,fu]
 refine jg ?_
 show Rt (G8 [.dat (fu rs), .dat (O), .dat (eZ n), .un, .un, .un, .un, .un]) _
 unfold G8
 refine fD (ρ' :=[.dat (fu rs), .dat (O), .dat (eZ n), .un, .un, .un, .un, .un]) (by simp! only [nm]) ?_
 refine fD (ρ' :=[.dat (fu rs), .dat (O), .dat (eZ n), .dat (.int ((rs.length:Nat):Int)), .un, .un, .un, .un]) (by simp! only [sG]) ?_
 refine fD (ρ' :=[.dat (fu rs), .dat (O), .dat (eZ n), .dat (.int ((rs.length:Nat):Int)), .dat (N), .un, .un, .un]) (by simp! only [lc]) ?_
 refine fD (ρ' :=[.dat (fu rs), .dat (O), .dat (eZ n), .dat (.int ((rs.length:Nat):Int)), .dat (N), .own (.list ((rs++bring rs (os.take 0)).map fJ)), .un, .un]) (by simp! only [ls]) ?_
 refine oK (N:=fun ρ=>∃k6:Sl,ρ=[.dat (fu rs), .dat (O), .dat (eZ n), .dat (.int ((rs.length:Nat):Int)), .dat (N), .own (.list ((rs++bring rs os).map fJ)),k6, .un]) ?_ ?_
 ·have h:=lZ (mi:=iT (eE 1)) (g:=gN 6) (body:=qK 5 (fG lA [(eE 6),(eE 4)])) (ρ:=[.dat (fu rs), .dat (O), .dat (eZ n), .dat (.int ((rs.length:Nat):Int)), .dat (N), .own (.list ((rs++bring rs (os.take 0)).map fJ)), .un, .un]) (ds:=os.map fJ)
   (fun i ρ=>∃k6:Sl,ρ=[.dat (fu rs), .dat (O), .dat (eZ n), .dat (.int ((rs.length:Nat):Int)), .dat (N), .own (.list ((rs++bring rs (os.take i)).map fJ)),k6, .un])
   (af2 (by simp only [jO,kJ,hO,fu])) ⟨_,rfl⟩ (by
    rintro i d ρ hd ⟨k6,rfl⟩
    rw [aH,aK] at hd
    obtain⟨r,h1,rfl⟩:=hd
    have hi:=(aq.mp h1).1
    have et:os.take (i+1)=os.take i++[r]:=by
     rw [bH,h1]
     rfl
    have ok:=go i r h1
    have re:=yM r i ok (rs.length+·) N fun a ha=>ixN a (by have:=oU ok a ha;omega)
    refine⟨_,nu,jE (ρ' :=[.dat (fu rs), .dat (O), .dat (eZ n), .dat (.int ((rs.length:Nat):Int)), .dat (N), .own (.list ((rs++bring rs (os.take (i+1))).map fJ)), .dat (fJ r), .un]) ?_ ⟨_,rfl⟩⟩
    rw [app_ok (ds:=(rs++bring rs (os.take i)).map fJ) (d:=fJ (r.o9 (rs.length+·))) rfl (by simp! only [re]) (by
     simp only [aA,au,bring,aY]
     exact lY (by omega)),et]
    simp [bring])
  rw [aA,bV] at h
  exact h
 ·rintro ρ ⟨k6,rfl⟩
  cases n with
  |none=>exact jP (sX (by simp! only [eZ]) (gU (by simp! only [];rfl) rfl))
  |some k=>
   refine fD (ρ' :=[.dat (fu rs), .dat (O), .dat (eZ (some k)), .dat (.int ((rs.length:Nat):Int)), .dat (N), .own (.list ((rs++bring rs os).map fJ)),k6, .un]) (by simp! only [eZ]) ?_
   refine gU (by simp! only [eZ];rfl) ?_
   simp [pK,eZ,fu]
end Sb
namespace Sb
open PySem PySem.Spec L2 Evl DL
theorem Tc(rs q0:List Rule)(gr:Good rs)(fr:Fits MOST rs)(g:Good (rs++q0))(f:Fits MOST (rs++q0))(hl:rs.length+q0.length≤2000000)(hl0:rs.length≤200000)(k0:Nat)(hk0:k0<rs.length)(m0:Nat)(hm0:m0≤(sizes rs).getD k0 0):
 ∃qs n,lO [fM (rs++q0),fL (sizes rs), .int (k0:Int), .int (m0:Int)]= .ok (.tuple [eZ n,fM (rs++qs)])∧Good (rs++qs)∧Fits MOST (rs++qs)∧(∃xs,qs=q0++xs∧xs.length≤2*k0∧tN xs≤k0∧qT xs≤(sizes rs).getD k0 0)∧fX (rs++qs) n∧gK (rs++qs) n=((texts rs).getD k0 []).take m0:=by
 obtain⟨T,hT⟩:∃T,T=((texts rs).getD k0 []).take m0:=⟨_,rfl⟩
 rw [←hT]
 have mo:=fr.get k0
 have Tl:T.length=m0:=by
  rw [hT]
  rw [aY,gW]
  omega
 have mm:MOST<10 ^ 300:=by decide
 have ixs:∀a:Nat,a<rs.length→gj (fL (sizes rs)) (.int (a:Int))= .ok (.int (((sizes rs).getD a 0:Nat):Int)):=fun a h=>kY (by rw [j5];exact h)
 have ixr:∀(qs:List Rule) (a:Nat) (r:Rule),rs[a]? =some r→gj (fM (rs++qs)) (.int (a:Int))= .ok (fJ r):=fun qs a r h=>by
  have ha:=(aq.mp h).1
  have e:((rs++qs).map fJ)[a]? =some (fJ r):=by rw [aH,aO ha,h];rfl
  unfold fM
  rw [tW (by omega) (by simp;omega),cZ,bJ,e]
  rfl
 have body:Rt (tR [.own (fM (rs++q0)), .dat (fL (sizes rs)), .dat (.int (k0:Int)), .dat (.int (m0:Int)), .un, .un, .un, .un, .un]) (fun d=>∃qs n,d= .tuple [eZ n,fM (rs++qs)]∧Good (rs++qs)∧Fits MOST (rs++qs)∧(∃xs,qs=q0++xs∧xs.length≤2*k0∧tN xs≤k0∧qT xs≤(sizes rs).getD k0 0)∧fX (rs++qs) n∧gK (rs++qs) n=T):=by
  unfold tR
  refine fD (ρ' :=[.own (fM (rs++q0)), .dat (fL (sizes rs)), .dat (.int (k0:Int)), .dat (.int (m0:Int)), .own (.list (([]:List (Option Nat)).map eZ)), .un, .un, .un, .un]) (by simp! only [];rfl) ?_
  refine oK (xK (N:=fun ρ=>∃(k m:Nat) (xs:List Rule) (ps:List (Option Nat)) (k7 k8:Sl),ρ=[.own (fM (rs++(q0++xs))), .dat (fL (sizes rs)), .dat (.int (k:Int)), .dat (.int (m:Int)), .own (.list (ps.map eZ)), .un, .un,k7,k8]∧Good (rs++(q0++xs))∧Fits MOST (rs++(q0++xs))∧k<rs.length∧(m=0∨m=(sizes rs).getD k 0)∧(∀p∈ps,fX (rs++(q0++xs)) p)∧cat (rs++(q0++xs)) ps++((texts rs).getD k []).take m=T∧xs.length+k≤k0∧ps.length+k≤k0∧qT xs*(sizes rs).getD k 0≤(sizes rs).getD k0 0)
   (fun k ρ=>∃(m:Nat) (xs:List Rule) (ps:List (Option Nat)) (k7 k8:Sl),ρ=[.own (fM (rs++(q0++xs))), .dat (fL (sizes rs)), .dat (.int (k:Int)), .dat (.int (m:Int)), .own (.list (ps.map eZ)), .un, .un,k7,k8]∧Good (rs++(q0++xs))∧Fits MOST (rs++(q0++xs))∧k<rs.length∧m≤(sizes rs).getD k 0∧(∀p∈ps,fX (rs++(q0++xs)) p)∧cat (rs++(q0++xs)) ps++((texts rs).getD k []).take m=T∧xs.length+k≤k0∧ps.length+k≤k0∧qT xs*(sizes rs).getD k 0≤(sizes rs).getD k0 0) k0 (by omega)
   ⟨m0,[],[], .un, .un,by simp only [aU],by rw [aU];exact g,by rw [aU];exact f,hk0,hm0,(fun p hp=>absurd hp bD),(by simp [cat,hT]),(by simp),(by simp),(by simp [qT])⟩ ?_) ?_
  ·rintro k ρ ⟨m,xs,ps,k7,k8,rfl,g1,f1,hk,hm,hps,inv,c1,c2,c3⟩
   have ixk:=ixs k hk
   by_cases hc:0<m∧m<(sizes rs).getD k 0
   ·right
    have hr:rs[k]? =some rs[k]:=by simp [hk]
    obtain⟨r,er⟩:∃r,r=rs[k]:=⟨_,rfl⟩
    rw [←er] at hr
    have ix:=ixr (q0++xs) k r hr
    have ok:=gr k r hr
    have tx:=qP gr hr
    have sz:=sY gr hr
    have kb:=fr.get k
    have ql:(rs++(q0++xs)).length<16700000:=by simp;omega
    refine⟨by simp! only [iW,ixk,show(0:Int)<(m:Int) by omega,show(m:Int)<(((sizes rs).getD k 0:Nat):Int) by omega],?_⟩
    cases r with
    |sign s=>
     exfalso
     rw [sz] at hc
     simp only [Rule.size] at hc
     omega
    |times a c=>
     have ha:a<rs.length:=by have:=ok.1;omega
     have ixa:=ixs a ha
     have ap:=Pos.get gr ha
     have az:=fr.get a
     simp only [Rule.size] at sz
     simp only [Rule.tx] at tx
     have tl:((texts rs).getD a []).length=(sizes rs).getD a 0:=gW rs a
     obtain⟨z,hz⟩:∃z,z=(sizes rs).getD a 0:=⟨_,rfl⟩
     rw [←hz] at ixa ap az sz tl
     obtain⟨w,hw⟩:∃w,w=m/z:=⟨_,rfl⟩
     obtain⟨y,hy⟩:∃y,y=m%z:=⟨_,rfl⟩
     have dv:=Nat.div_add_mod m z
     have y2:m%z<z:=Nat.mod_lt _ ap
     have w2:m/z≤m:=Nat.div_le_self _ _
     rw [←hw,←hy] at dv
     rw [←hy] at y2
     rw [←hw] at w2
     have dd:jy (.int (m:Int)) (.int (z:Int))= .ok (.int (w:Int)):=by
      rw [lu (by omega) (by omega),hw]
      simp
     have dm:iz (.int (m:Int)) (.int (z:Int))= .ok (.int (y:Int)):=by
      rw [gR (by omega),hy]
      simp
     have na:fX (rs++(q0++xs)) (some a):=fX.some (by simp;omega)
     have la:kW (rs++(q0++xs)) (some a)=z:=by
      show(sizes (rs++(q0++xs))).getD a 0=z
      rw [sH ha,hz]
     have ta:gK (rs++(q0++xs)) (some a)=(texts rs).getD a []:=iI ha _
     have ov:=JL (rs++(q0++xs)) (some a) w ql
     obtain⟨o1,o2,o3,o4,o5,o6,o7⟩:=EY (m:=w) g1 f1 na (by omega) (by rw [la];omega)
     obtain⟨N,hN⟩:∃N,N=(overF (rs++(q0++xs)) (some a) w).2:=⟨_,rfl⟩
     rw [o3] at ov
     rw [←hN] at ov o6 o7
     rw [ta] at o7
     have eo:rs++(q0++xs)++o1=rs++(q0++(xs++o1)):=by simp
     rw [eo] at ov o4 o5 o6 o7
     have ex:jh 0 uY [(eV gj (eE 7) (eC (.int 1))),(eV jy (eE 3) (eE 8))] [.own (fM (rs++(q0++xs))), .dat (fL (sizes rs)), .dat (.int (k:Int)), .dat (.int (m:Int)), .own (.list (ps.map eZ)), .un, .un, .dat (fJ (.times a c)), .dat (.int (z:Int))]= .ok (eZ N) [.own (fM (rs++(q0++(xs++o1)))), .dat (fL (sizes rs)), .dat (.int (k:Int)), .dat (.int (m:Int)), .own (.list (ps.map eZ)), .un, .un, .dat (fJ (.times a c)), .dat (.int (z:Int))]:=by
      have ev:nM [(eV gj (eE 7) (eC (.int 1))),(eV jy (eE 3) (eE 8))] [.own (fM (rs++(q0++xs))), .dat (fL (sizes rs)), .dat (.int (k:Int)), .dat (.int (m:Int)), .own (.list (ps.map eZ)), .un, .un, .dat (fJ (.times a c)), .dat (.int (z:Int))]= .ok [eZ (some a), .int (w:Int)]:=by
       simp! only [nM,fJ,iD,dd]
       rfl
      simp only [jh,aG,ev,ov]
      rfl
     refine⟨a,ok.1,?_⟩
     refine iy (ρ' :=[.own (fM (rs++(q0++xs))), .dat (fL (sizes rs)), .dat (.int (k:Int)), .dat (.int (m:Int)), .own (.list (ps.map eZ)), .un, .un, .dat (fJ (.times a c)),k8]) (by simp! only [ix]) ?_
     refine iy (ρ' :=[.own (fM (rs++(q0++xs))), .dat (fL (sizes rs)), .dat (.int (k:Int)), .dat (.int (m:Int)), .own (.list (ps.map eZ)), .un, .un, .dat (fJ (.times a c)), .dat (.int (z:Int))]) (by simp! only [fJ,iD,ixa]) ?_
     refine Rq (by simp! only [fJ,ig]) ?_
     refine iy (ρ' :=[.own (fM (rs++(q0++(xs++o1)))), .dat (fL (sizes rs)), .dat (.int (k:Int)), .dat (.int (m:Int)), .own (.list ((ps++[N]).map eZ)), .un, .un, .dat (fJ (.times a c)), .dat (.int (z:Int))]) (by
      simp only [Ph,aQ,aG,ex,aA,show ps.length<sizeLine from lY (by omega),if_true,set_0,jU]
      simp) ?_
     refine iy (ρ' :=[.own (fM (rs++(q0++(xs++o1)))), .dat (fL (sizes rs)), .dat (.int (k:Int)), .dat (.int (y:Int)), .own (.list ((ps++[N]).map eZ)), .un, .un, .dat (fJ (.times a c)), .dat (.int (z:Int))]) (by simp! only [fJ,iD,dm]) ?_
     refine jE (ρ' :=[.own (fM (rs++(q0++(xs++o1)))), .dat (fL (sizes rs)), .dat (.int (a:Int)), .dat (.int (y:Int)), .own (.list ((ps++[N]).map eZ)), .un, .un, .dat (fJ (.times a c)), .dat (.int (z:Int))]) (by simp! only [fJ,iD]) ⟨y,xs++o1,ps++[N],_,_,rfl,o4,o5,ha,by omega,fun p hp=> ?_,?_,by simp;have:=ok.1;omega,by simp;have:=ok.1;omega,(by
      rw [←hz,jT]
      have w3:w≤c:=by rw [hw];exact Nat.div_le_of_le_mul (by have:=hc.2;omega)
      have w4:=xg o3
      have w5:=ok.2.1
      exact V7 (c:=c) (by rw [←sz];exact c3) (by omega))⟩
     ·rcases aR.mp hp with h|h
      ·rw [←eo]
       exact(hps p h).app _
      ·have:p=N:=by simpa using h
       rw [this]
       exact o6
     ·have e1:=K7 ((texts rs).getD a []) (by rw [tl];exact ap) c m (by rw [tl,bT,←sz];exact hc.2)
      rw [tl,←hw,←hy] at e1
      rw [←inv,tx,e1,KY,o7,←eo,Zo hps,aF]
    |join a b=>
     have ha:a<rs.length:=by have:=ok.1;omega
     have hb:b<rs.length:=by have:=ok.2;omega
     have ixa:=ixs a ha
     simp only [Rule.size] at sz
     simp only [Rule.tx] at tx
     have ta:((texts rs).getD a []).length=(sizes rs).getD a 0:=gW rs a
     by_cases h:m<(sizes rs).getD a 0
     ·refine⟨a,ok.1,?_⟩
      refine iy (ρ' :=[.own (fM (rs++(q0++xs))), .dat (fL (sizes rs)), .dat (.int (k:Int)), .dat (.int (m:Int)), .own (.list (ps.map eZ)), .un, .un, .dat (fJ (.join a b)),k8]) (by simp! only [ix]) ?_
      refine iy (ρ' :=[.own (fM (rs++(q0++xs))), .dat (fL (sizes rs)), .dat (.int (k:Int)), .dat (.int (m:Int)), .own (.list (ps.map eZ)), .un, .un, .dat (fJ (.join a b)), .dat (.int (((sizes rs).getD a 0:Nat):Int))]) (by simp! only [fJ,iD,ixa]) ?_
      refine Ox (by simp! only [fJ,ig,jt]) (Rq (by simp! only [show(m:Int)<(((sizes rs).getD a 0:Nat):Int) by omega]) ?_)
      refine jE (ρ' :=[.own (fM (rs++(q0++xs))), .dat (fL (sizes rs)), .dat (.int (a:Int)), .dat (.int (m:Int)), .own (.list (ps.map eZ)), .un, .un, .dat (fJ (.join a b)), .dat (.int (((sizes rs).getD a 0:Nat):Int))]) (by simp! only [fJ,iD]) ⟨m,xs,ps,_,_,rfl,g1,f1,ha,by omega,hps,?_,by have:=ok.1;omega,by have:=ok.1;omega,bf (dh _ (by omega)) c3⟩
      rw [←inv,tx,cI (by omega)]
     ·refine⟨b,ok.2,?_⟩
      have es:(m:Int)-(((sizes rs).getD a 0:Nat):Int)=((m-(sizes rs).getD a 0:Nat):Int):=by omega
      refine iy (ρ' :=[.own (fM (rs++(q0++xs))), .dat (fL (sizes rs)), .dat (.int (k:Int)), .dat (.int (m:Int)), .own (.list (ps.map eZ)), .un, .un, .dat (fJ (.join a b)),k8]) (by simp! only [ix]) ?_
      refine iy (ρ' :=[.own (fM (rs++(q0++xs))), .dat (fL (sizes rs)), .dat (.int (k:Int)), .dat (.int (m:Int)), .own (.list (ps.map eZ)), .un, .un, .dat (fJ (.join a b)), .dat (.int (((sizes rs).getD a 0:Nat):Int))]) (by simp! only [fJ,iD,ixa]) ?_
      refine Ox (by simp! only [fJ,ig,jt]) (Ox (by simp! only [show¬(m:Int)<(((sizes rs).getD a 0:Nat):Int) by omega]) ?_)
      refine iy (ρ' :=[.own (fM (rs++(q0++xs))), .dat (fL (sizes rs)), .dat (.int (k:Int)), .dat (.int (m:Int)), .own (.list ((ps++[some a]).map eZ)), .un, .un, .dat (fJ (.join a b)), .dat (.int (((sizes rs).getD a 0:Nat):Int))]) (by
       rw [app_ok (ds:=ps.map eZ) (d:=eZ (some a)) rfl (by simp! only [fJ,iD,eZ]) (by rw [aA];exact lY (by omega))]
       simp) ?_
      refine iy (ρ' :=[.own (fM (rs++(q0++xs))), .dat (fL (sizes rs)), .dat (.int (k:Int)), .dat (.int ((m-(sizes rs).getD a 0:Nat):Int)), .own (.list ((ps++[some a]).map eZ)), .un, .un, .dat (fJ (.join a b)), .dat (.int (((sizes rs).getD a 0:Nat):Int))]) (by simp! only [es]) ?_
      refine jE (ρ' :=[.own (fM (rs++(q0++xs))), .dat (fL (sizes rs)), .dat (.int (b:Int)), .dat (.int ((m-(sizes rs).getD a 0:Nat):Int)), .own (.list ((ps++[some a]).map eZ)), .un, .un, .dat (fJ (.join a b)), .dat (.int (((sizes rs).getD a 0:Nat):Int))]) (by simp! only [fJ,nH]) ⟨m-(sizes rs).getD a 0,xs,ps++[some a],_,_,rfl,g1,f1,hb,by omega,fun p hp=> ?_,?_,by have:=ok.2;omega,by simp;have:=ok.2;omega,bf (dh _ (by omega)) c3⟩
      ·rcases aR.mp hp with h2|h2
       ·exact hps p h2
       ·have:p=some a:=by simpa using h2
        rw [this]
        exact fX.some (by simp;omega)
      ·have e2:gK (rs++(q0++xs)) (some a)=(texts rs).getD a []:=iI ha _
       have e3:((texts rs).getD a []).take m=(texts rs).getD a []:=bF (by omega)
       rw [←inv,tx,List.take_append,e3,ta,KY,e2,aF]
   ·left
    refine⟨?_,k,m,xs,ps,k7,k8,rfl,g1,f1,hk,by omega,hps,inv,c1,c2,c3⟩
    by_cases h0:0<m
    ·simp! only [iW,ixk,show(0:Int)<(m:Int) by omega,show¬(m:Int)<(((sizes rs).getD k 0:Nat):Int) by omega]
    ·simp! only [iW,show¬(0:Int)<(m:Int) by omega]
  rintro ρ ⟨k,m,xs,ps,k7,k8,rfl,g1,f1,hk,hm,hps,inv,c1,c2,c3⟩
  refine fD (ρ' :=[.own (fM (rs++(q0++xs))), .dat (fL (sizes rs)), .dat (.int (k:Int)), .dat (.int (m:Int)), .own (.list (ps.map eZ)), .dat (.none), .un,k7,k8]) (by simp! only []) ?_
  obtain⟨F,hF⟩:∃F:Option Nat,F=if 0<m then some k else none:=⟨_,rfl⟩
  refine fD (ρ' :=[.own (fM (rs++(q0++xs))), .dat (fL (sizes rs)), .dat (.int (k:Int)), .dat (.int (m:Int)), .own (.list (ps.map eZ)), .dat (eZ F), .un,k7,k8]) (by
   by_cases h0:0<m
   ·simp! only [show(0:Int)<(m:Int) by omega,hF,h0,if_true]
    rfl
   ·simp! only [show¬(0:Int)<(m:Int) by omega,hF,h0,if_false]
    rfl) ?_
  have nF:fX (rs++(q0++xs)) F:=by
   rw [hF]
   split
   ·exact fX.some (by simp;omega)
   ·exact fX.none
  have tF:gK (rs++(q0++xs)) F=((texts rs).getD k []).take m:=by
   rw [hF]
   rcases hm with h|h
   ·subst h
    simp [gK]
   ·have kp:=Pos.get gr hk
    simp only [show 0<m by omega,if_true]
    show(texts (rs++(q0++xs))).getD k []=_
    rw [iI hk,h,←gW]
    exact(bV).symm
  rw [←tF] at inv
  refine oK (N:=fun ρ=>∃(ys:List Rule) (Z:Option Nat) (k6:Sl),ρ=[.own (fM (rs++(q0++xs++ys))), .dat (fL (sizes rs)), .dat (.int (k:Int)), .dat (.int (m:Int)), .dat (.list (ps.map eZ)), .dat (eZ Z),k6,k7,k8]∧Good (rs++(q0++xs++ys))∧Fits MOST (rs++(q0++xs++ys))∧(ys.length≤ps.length∧tN ys=0)∧fX (rs++(q0++xs++ys)) Z∧gK (rs++(q0++xs++ys)) Z=T) ?_ ?_
  ·show Nx (mZ (iRv (eE 4)) (gN 6) (oN 5 (jh 0 jR [(eE 6),(eE 5)])) [.own (fM (rs++(q0++xs))), .dat (fL (sizes rs)), .dat (.int (k:Int)), .dat (.int (m:Int)), .dat (.list (ps.map eZ)), .dat (eZ F), .un,k7,k8]) _
   have h:=lZ (mi:=iRv (eE 4)) (g:=gN 6) (body:=oN 5 (jh 0 jR [(eE 6),(eE 5)])) (ρ:=[.own (fM (rs++(q0++xs))), .dat (fL (sizes rs)), .dat (.int (k:Int)), .dat (.int (m:Int)), .dat (.list (ps.map eZ)), .dat (eZ F), .un,k7,k8]) (ds:=(ps.map eZ).reverse)
    (fun i ρ=>∃(ys:List Rule) (Z:Option Nat) (k6:Sl),ρ=[.own (fM (rs++(q0++xs++ys))), .dat (fL (sizes rs)), .dat (.int (k:Int)), .dat (.int (m:Int)), .dat (.list (ps.map eZ)), .dat (eZ Z),k6,k7,k8]∧Good (rs++(q0++xs++ys))∧Fits MOST (rs++(q0++xs++ys))∧(ys.length≤i∧tN ys=0)∧fX (rs++(q0++xs++ys)) Z∧gK (rs++(q0++xs++ys)) Z=cat (rs++(q0++xs)) (ps.reverse.take i).reverse++gK (rs++(q0++xs)) F)
    (by simp! only [iRv]) ⟨[],F,_,by rw [aU],by rw [aU];exact g1,by rw [aU];exact f1,⟨by simp,rfl⟩,by rw [aU];exact nF,by rw [aU];simp [cat]⟩ (by
     rintro i d ρ hd ⟨ys,Z,k6,rfl,g2,f2,⟨yl,yt⟩,nZ,tZ⟩
     rw [←List.map_reverse,aH,aK] at hd
     obtain⟨p,h1,rfl⟩:=hd
     have hi:=(aq.mp h1).1
     rw [bL] at hi
     have pm:p∈ps:=by
      have:=aX h1
      simpa using this
     have np:fX (rs++(q0++xs)) p:=hps p pm
     have np2:fX (rs++(q0++xs++ys)) p:=by
      rw [←aF]
      exact np.app _
     have tp:gK (rs++(q0++xs++ys)) p=gK (rs++(q0++xs)) p:=by
      rw [←aF]
      exact qI np _
     have hstep:(ps.reverse.take (i+1))=ps.reverse.take i++[p]:=by
      rw [bH,h1]
      rfl
     have ql:(rs++(q0++xs++ys)).length<16700000:=by simp;omega
     have big:(gK (rs++(q0++xs)) p).length+(gK (rs++(q0++xs++ys)) Z).length≤MOST:=by
      rw [tZ]
      have e:ps.reverse=ps.reverse.take (i+1)++ps.reverse.drop (i+1):=(bO _ _).symm
      have e2:ps=(ps.reverse.drop (i+1)).reverse++(ps.reverse.take (i+1)).reverse:=by rw [←bR,←e,List.reverse_reverse]
      have el:T.length=(cat (rs++(q0++xs)) ((ps.reverse.drop (i+1)).reverse++(ps.reverse.take (i+1)).reverse)++gK (rs++(q0++xs)) F).length:=by rw [←e2,inv]
      rw [hstep,bR,List.reverse_singleton] at el
      simp only [cat,cV,List.flatten_append,au,aZ,dR,dI,List.flatten_nil,bW] at el⊢
      omega
     have lk:=uN (rs++(q0++xs++ys)) p Z ql
     obtain⟨o1,o2,o3,o4,o5,o6,o7⟩:=xr (rs:=rs++(q0++xs++ys)) g2 f2 (a:=p) (b:=Z) np2 nZ (by rw [←lU,←lU,tp];omega)
     rw [o3] at lk
     have eo:rs++(q0++xs++ys)++o1=rs++(q0++xs++(ys++o1)):=by simp
     rw [eo] at lk o4 o5 o6 o7
     obtain⟨N,hN⟩:∃N,N=(oh (rs++(q0++xs++ys)) p Z).2:=⟨_,rfl⟩
     rw [←hN] at lk o6 o7
     refine⟨_,nu,jE (ρ' :=[.own (fM (rs++(q0++xs++(ys++o1)))), .dat (fL (sizes rs)), .dat (.int (k:Int)), .dat (.int (m:Int)), .dat (.list (ps.map eZ)), .dat (eZ N), .dat (eZ p),k7,k8]) ?_ ⟨ys++o1,N,_,rfl,o4,o5,⟨by simp;omega,by rw [CG,yt,qX o3]⟩,o6,?_⟩⟩
     ·have ex:jh 0 jR [(eE 6),(eE 5)] [.own (fM (rs++(q0++xs++ys))), .dat (fL (sizes rs)), .dat (.int (k:Int)), .dat (.int (m:Int)), .dat (.list (ps.map eZ)), .dat (eZ Z), .dat (eZ p),k7,k8]= .ok (eZ N) [.own (fM (rs++(q0++xs++(ys++o1)))), .dat (fL (sizes rs)), .dat (.int (k:Int)), .dat (.int (m:Int)), .dat (.list (ps.map eZ)), .dat (eZ Z), .dat (eZ p),k7,k8]:=by
       have ev:nM [(eE 6),(eE 5)] [.own (fM (rs++(q0++xs++ys))), .dat (fL (sizes rs)), .dat (.int (k:Int)), .dat (.int (m:Int)), .dat (.list (ps.map eZ)), .dat (eZ Z), .dat (eZ p),k7,k8]= .ok [eZ p,eZ Z]:=by simp! only [nM]
       simp only [jh,aG,ev,lk,set_0]
      simp only [set_0,jU,oN,ex]
     ·rw [o7,tp,tZ,hstep]
      rw [bR,List.reverse_singleton,List.singleton_append,M9,aF])
   rw [bL,aA] at h
   have fin:cat (rs++(q0++xs)) (ps.reverse.take ps.length).reverse++gK (rs++(q0++xs)) F=T:=by
    rw [←inv,bF (by simp)]
    rw [List.reverse_reverse]
   rw [fin] at h
   exact h
  rintro ρ ⟨ys,Z,k6,rfl,g2,f2,⟨yl,yt⟩,nZ,tZ⟩
  refine⟨.tuple [eZ Z,fM (rs++(q0++xs++ys))],rfl,q0++xs++ys,Z,rfl,g2,f2,⟨xs++ys,by simp,by simp;omega,by rw [CG,yt];have:=CV xs;omega,by rw [jT,tX yt,dZ];exact bf (Nat.le_mul_of_pos_right _ (Pos.get gr hk)) c3⟩,nZ,tZ⟩
 obtain⟨d,e,qs,n,rfl,h⟩:=body
 exact⟨qs,n,Jb (n:=5) e,h⟩
theorem Ms(R:D)(sz:List Nat)(k0:Nat)(hk0:k0<sz.length)(m0:Nat)(hm:m0=0∨m0=sz.getD k0 0):
 lO [R,fL sz, .int (k0:Int), .int (m0:Int)]= .ok (.tuple [eZ (if m0=0 then none else some k0),R]):=by
 have ix:=kY (ns:=sz) (a:=k0) hk0
 have run:Rt (tR [.own (R), .dat (fL sz), .dat (.int (k0:Int)), .dat (.int (m0:Int)), .un, .un, .un, .un, .un]) (·= .tuple [eZ (if m0=0 then none else some k0),R]):=by
  unfold tR
  refine fD (ρ' :=[.own (R), .dat (fL sz), .dat (.int (k0:Int)), .dat (.int (m0:Int)), .own (.list []), .un, .un, .un, .un]) (by simp! only []) ?_
  refine oK (xK (N:=fun ρ=>ρ=[.own (R), .dat (fL sz), .dat (.int (k0:Int)), .dat (.int (m0:Int)), .own (.list []), .un, .un, .un, .un]) (fun k ρ=>ρ=[.own (R), .dat (fL sz), .dat (.int (k0:Int)), .dat (.int (m0:Int)), .own (.list []), .un, .un, .un, .un]) 0 (by omega) rfl ?_) ?_
  ·rintro k ρ rfl
   left
   refine⟨?_,rfl⟩
   rcases hm with rfl|hm
   ·simp! only [iW,ix,show¬(0:Int)<((0:Nat):Int) by omega]
   ·by_cases z:(0:Int)<(m0:Int)
    ·simp! only [iW,ix,z,show¬(m0:Int)<((sz.getD k0 0:Nat):Int) by omega]
    ·simp! only [iW,ix,z]
  rintro ρ rfl
  refine fD (ρ' :=[.own (R), .dat (fL sz), .dat (.int (k0:Int)), .dat (.int (m0:Int)), .own (.list []), .dat (.none), .un, .un, .un]) (by simp! only []) ?_
  by_cases z:m0=0
  ·subst z
   refine fD (ρ' :=[.own (R), .dat (fL sz), .dat (.int (k0:Int)), .dat (.int ((0:Nat):Int)), .own (.list []), .dat (.none), .un, .un, .un]) (by simp! only [show¬((0:Nat):Int)>0 by omega]) ?_
   refine fD (ρ' :=[.own (R), .dat (fL sz), .dat (.int (k0:Int)), .dat (.int ((0:Nat):Int)), .dat (.list []), .dat (.none), .un, .un, .un]) rfl ?_
   exact⟨_,rfl,rfl⟩
  ·refine fD (ρ' :=[.own (R), .dat (fL sz), .dat (.int (k0:Int)), .dat (.int (m0:Int)), .own (.list []), .dat (.int (k0:Int)), .un, .un, .un]) (by simp! only [show(m0:Int)>0 by omega]) ?_
   refine fD (ρ' :=[.own (R), .dat (fL sz), .dat (.int (k0:Int)), .dat (.int (m0:Int)), .dat (.list []), .dat (.int (k0:Int)), .un, .un, .un]) rfl ?_
   exact⟨_,rfl,by rw [if_neg z];rfl⟩
 obtain⟨d,h1,rfl⟩:=run
 exact Jb (n:=5) h1
theorem Ck(rs q0:List Rule)(gr:Good rs)(fr:Fits MOST rs)(g:Good (rs++q0))(f:Fits MOST (rs++q0))(hl:rs.length+q0.length≤2000000)(hl0:rs.length≤200000)(k0:Nat)(hk0:k0<rs.length)(m0:Nat)(hm0:m0≤(sizes rs).getD k0 0):
 ∃qs n,lO [fM (rs++q0),fL (sizes rs), .int (k0:Int), .int (m0:Int)]= .ok (.tuple [eZ n,fM (rs++qs)])∧Good (rs++qs)∧Fits MOST (rs++qs)∧(∃xs,qs=q0++xs∧xs.length≤2*k0∧(m0=0∨m0=(sizes rs).getD k0 0→xs.length=0)∧tN xs≤k0∧qT xs≤(sizes rs).getD k0 0)∧fX (rs++qs) n∧gK (rs++qs) n=((texts rs).getD k0 []).take m0:=by
 by_cases hz:m0=0∨m0=(sizes rs).getD k0 0
 ·refine⟨q0,if m0=0 then none else some k0,Ms _ _ k0 (by rw [j5];exact hk0) m0 hz,g,f,⟨[],by simp,by simp,fun _=>rfl,cG _,Pos.get gr hk0⟩,?_,?_⟩
  ·by_cases z:m0=0
   ·rw [if_pos z];exact fX.none
   ·rw [if_neg z];exact fX.some (by rw [au];omega)
  ·have tl:((texts rs).getD k0 []).length=(sizes rs).getD k0 0:=gW rs k0
   by_cases z:m0=0
   ·rw [if_pos z]
    subst z
    simp [gK]
   ·rw [if_neg z]
    have e:m0=((texts rs).getD k0 []).length:=by omega
    have:gK (rs++q0) (some k0)=(texts rs).getD k0 []:=iI hk0 _
    rw [this,e]
    simp
 ·obtain⟨qs,n,h1,h2,h3,⟨xs,h4,h5,h8⟩,h6,h7⟩:=Tc rs q0 gr fr g f hl hl0 k0 hk0 m0 hm0
  exact⟨qs,n,h1,h2,h3,⟨xs,h4,h5,fun z=>absurd z hz,h8⟩,h6,h7⟩
end Sb
namespace Sb
open PySem PySem.Spec L2 Evl DL
theorem aai(rs q0:List Rule)(gr:Good rs)(fr:Fits MOST rs)(g:Good (rs++q0))(f:Fits MOST (rs++q0))(hl:rs.length+q0.length≤2000000)(hl0:rs.length≤200000)(k0:Nat)(hk0:k0<rs.length)(m0:Nat)(hm0:m0≤(sizes rs).getD k0 0):
 ∃qs n,wQ [fM (rs++q0),fL (sizes rs), .int (k0:Int), .int (m0:Int)]= .ok (.tuple [eZ n,fM (rs++qs)])∧Good (rs++qs)∧Fits MOST (rs++qs)∧(∃xs,qs=q0++xs∧xs.length≤2*k0∧tN xs≤k0∧qT xs≤(sizes rs).getD k0 0)∧fX (rs++qs) n∧gK (rs++qs) n=mY m0 ((texts rs).getD k0 []):=by
 obtain⟨T,hT⟩:∃T,T=mY m0 ((texts rs).getD k0 []):=⟨_,rfl⟩
 rw [←hT]
 have mo:=fr.get k0
 have Tl:T.length=m0:=by
  rw [hT]
  exact wR (by rw [gW];exact hm0)
 have mm:MOST<10 ^ 300:=by decide
 have ixs:∀a:Nat,a<rs.length→gj (fL (sizes rs)) (.int (a:Int))= .ok (.int (((sizes rs).getD a 0:Nat):Int)):=fun a h=>kY (by rw [j5];exact h)
 have ixr:∀(qs:List Rule) (a:Nat) (r:Rule),rs[a]? =some r→gj (fM (rs++qs)) (.int (a:Int))= .ok (fJ r):=fun qs a r h=>by
  have ha:=(aq.mp h).1
  have e:((rs++qs).map fJ)[a]? =some (fJ r):=by rw [aH,aO ha,h];rfl
  unfold fM
  rw [tW (by omega) (by simp;omega),cZ,bJ,e]
  rfl
 have body:Rt (Bb [.own (fM (rs++q0)), .dat (fL (sizes rs)), .dat (.int (k0:Int)), .dat (.int (m0:Int)), .un, .un, .un, .un]) (fun d=>∃qs n,d= .tuple [eZ n,fM (rs++qs)]∧Good (rs++qs)∧Fits MOST (rs++qs)∧(∃xs,qs=q0++xs∧xs.length≤2*k0∧tN xs≤k0∧qT xs≤(sizes rs).getD k0 0)∧fX (rs++qs) n∧gK (rs++qs) n=T):=by
  unfold Bb
  refine fD (ρ' :=[.own (fM (rs++q0)), .dat (fL (sizes rs)), .dat (.int (k0:Int)), .dat (.int (m0:Int)), .own (.list (([]:List (Option Nat)).map eZ)), .un, .un, .un]) (by simp! only [];rfl) ?_
  refine oK (xK (N:=fun ρ=>∃(k m:Nat) (xs:List Rule) (ps:List (Option Nat)) (k7:Sl),ρ=[.own (fM (rs++(q0++xs))), .dat (fL (sizes rs)), .dat (.int (k:Int)), .dat (.int (m:Int)), .own (.list (ps.map eZ)), .un, .un,k7]∧Good (rs++(q0++xs))∧Fits MOST (rs++(q0++xs))∧k<rs.length∧(m=0∨m=(sizes rs).getD k 0)∧(∀p∈ps,fX (rs++(q0++xs)) p)∧mY m ((texts rs).getD k [])++cat (rs++(q0++xs)) ps.reverse=T∧xs.length+k≤k0∧ps.length+k≤k0∧qT xs*(sizes rs).getD k 0≤(sizes rs).getD k0 0)
   (fun k ρ=>∃(m:Nat) (xs:List Rule) (ps:List (Option Nat)) (k7:Sl),ρ=[.own (fM (rs++(q0++xs))), .dat (fL (sizes rs)), .dat (.int (k:Int)), .dat (.int (m:Int)), .own (.list (ps.map eZ)), .un, .un,k7]∧Good (rs++(q0++xs))∧Fits MOST (rs++(q0++xs))∧k<rs.length∧m≤(sizes rs).getD k 0∧(∀p∈ps,fX (rs++(q0++xs)) p)∧mY m ((texts rs).getD k [])++cat (rs++(q0++xs)) ps.reverse=T∧xs.length+k≤k0∧ps.length+k≤k0∧qT xs*(sizes rs).getD k 0≤(sizes rs).getD k0 0) k0 (by omega)
   ⟨m0,[],[], .un,by simp only [aU],by rw [aU];exact g,by rw [aU];exact f,hk0,hm0,(fun p hp=>absurd hp bD),(by simp [cat,hT]),(by simp),(by simp),(by simp [qT])⟩ ?_) ?_
  ·rintro k ρ ⟨m,xs,ps,k7,rfl,g1,f1,hk,hm,hps,inv,c1,c2,c3⟩
   have ixk:=ixs k hk
   by_cases hc:0<m∧m<(sizes rs).getD k 0
   ·right
    have hr:rs[k]? =some rs[k]:=by simp [hk]
    obtain⟨r,er⟩:∃r,r=rs[k]:=⟨_,rfl⟩
    rw [←er] at hr
    have ix:=ixr (q0++xs) k r hr
    have ok:=gr k r hr
    have tx:=qP gr hr
    have sz:=sY gr hr
    have kb:=fr.get k
    have ql:(rs++(q0++xs)).length<16700000:=by simp;omega
    refine⟨by simp! only [iW,ixk,show(0:Int)<(m:Int) by omega,show(m:Int)<(((sizes rs).getD k 0:Nat):Int) by omega],?_⟩
    cases r with
    |sign s=>
     exfalso
     rw [sz] at hc
     simp only [Rule.size] at hc
     omega
    |times a c=>
     have ha:a<rs.length:=by have:=ok.1;omega
     have ixa:=ixs a ha
     have ap:=Pos.get gr ha
     have az:=fr.get a
     simp only [Rule.size] at sz
     simp only [Rule.tx] at tx
     have tl:((texts rs).getD a []).length=(sizes rs).getD a 0:=gW rs a
     obtain⟨z,hz⟩:∃z,z=(sizes rs).getD a 0:=⟨_,rfl⟩
     rw [←hz] at ixa ap az sz tl
     obtain⟨w,hw⟩:∃w,w=m/z:=⟨_,rfl⟩
     obtain⟨y,hy⟩:∃y,y=m%z:=⟨_,rfl⟩
     have dv:=Nat.div_add_mod m z
     have y2:m%z<z:=Nat.mod_lt _ ap
     have w2:m/z≤m:=Nat.div_le_self _ _
     rw [←hw,←hy] at dv
     rw [←hy] at y2
     rw [←hw] at w2
     have dd:jy (.int (m:Int)) (.int (z:Int))= .ok (.int (w:Int)):=by
      rw [lu (by omega) (by omega),hw]
      simp
     have dm:iz (.int (m:Int)) (.int (z:Int))= .ok (.int (y:Int)):=by
      rw [gR (by omega),hy]
      simp
     have na:fX (rs++(q0++xs)) (some a):=fX.some (by simp;omega)
     have la:kW (rs++(q0++xs)) (some a)=z:=by
      show(sizes (rs++(q0++xs))).getD a 0=z
      rw [sH ha,hz]
     have ta:gK (rs++(q0++xs)) (some a)=(texts rs).getD a []:=iI ha _
     have ov:=JL (rs++(q0++xs)) (some a) w ql
     obtain⟨o1,o2,o3,o4,o5,o6,o7⟩:=EY (m:=w) g1 f1 na (by omega) (by rw [la];omega)
     obtain⟨N,hN⟩:∃N,N=(overF (rs++(q0++xs)) (some a) w).2:=⟨_,rfl⟩
     rw [o3] at ov
     rw [←hN] at ov o6 o7
     rw [ta] at o7
     have eo:rs++(q0++xs)++o1=rs++(q0++(xs++o1)):=by simp
     rw [eo] at ov o4 o5 o6 o7
     have ex:jh 0 uY [(eV gj (eE 7) (eC (.int 1))),(eV jy (eE 3) (eV gj (eE 1) (eV gj (eE 7) (eC (.int 1)))))] [.own (fM (rs++(q0++xs))), .dat (fL (sizes rs)), .dat (.int (k:Int)), .dat (.int (m:Int)), .own (.list (ps.map eZ)), .un, .un, .dat (fJ (.times a c))]= .ok (eZ N) [.own (fM (rs++(q0++(xs++o1)))), .dat (fL (sizes rs)), .dat (.int (k:Int)), .dat (.int (m:Int)), .own (.list (ps.map eZ)), .un, .un, .dat (fJ (.times a c))]:=by
      have ev:nM [(eV gj (eE 7) (eC (.int 1))),(eV jy (eE 3) (eV gj (eE 1) (eV gj (eE 7) (eC (.int 1)))))] [.own (fM (rs++(q0++xs))), .dat (fL (sizes rs)), .dat (.int (k:Int)), .dat (.int (m:Int)), .own (.list (ps.map eZ)), .un, .un, .dat (fJ (.times a c))]= .ok [eZ (some a), .int (w:Int)]:=by
       simp! only [nM,fJ,iD,ixa,dd]
       rfl
      simp only [jh,aG,ev,ov]
      rfl
     refine⟨a,ok.1,?_⟩
     refine iy (ρ' :=[.own (fM (rs++(q0++xs))), .dat (fL (sizes rs)), .dat (.int (k:Int)), .dat (.int (m:Int)), .own (.list (ps.map eZ)), .un, .un, .dat (fJ (.times a c))]) (by simp! only [ix]) ?_
     refine Rq (by simp! only [fJ,ig]) ?_
     refine iy (ρ' :=[.own (fM (rs++(q0++(xs++o1)))), .dat (fL (sizes rs)), .dat (.int (k:Int)), .dat (.int (m:Int)), .own (.list ((ps++[N]).map eZ)), .un, .un, .dat (fJ (.times a c))]) (by
      simp only [Ph,aQ,aG,ex,aA,show ps.length<sizeLine from lY (by omega),if_true,set_0,jU]
      simp) ?_
     refine iy (ρ' :=[.own (fM (rs++(q0++(xs++o1)))), .dat (fL (sizes rs)), .dat (.int (k:Int)), .dat (.int (y:Int)), .own (.list ((ps++[N]).map eZ)), .un, .un, .dat (fJ (.times a c))]) (by simp! only [fJ,iD,ixa,dm]) ?_
     refine jE (ρ' :=[.own (fM (rs++(q0++(xs++o1)))), .dat (fL (sizes rs)), .dat (.int (a:Int)), .dat (.int (y:Int)), .own (.list ((ps++[N]).map eZ)), .un, .un, .dat (fJ (.times a c))]) (by simp! only [fJ,iD]) ⟨y,xs++o1,ps++[N],_,rfl,o4,o5,ha,by omega,fun p hp=> ?_,?_,by simp;have:=ok.1;omega,by simp;have:=ok.1;omega,(by
      rw [←hz,jT]
      have w3:w≤c:=by rw [hw];exact Nat.div_le_of_le_mul (by have:=hc.2;omega)
      have w4:=xg o3
      have w5:=ok.2.1
      exact V7 (c:=c) (by rw [←sz];exact c3) (by omega))⟩
     ·rcases aR.mp hp with h|h
      ·rw [←eo]
       exact(hps p h).app _
      ·have:p=N:=by simpa using h
       rw [this]
       exact o6
     ·have e1:=aak ((texts rs).getD a []) (by rw [tl];exact ap) c m (by rw [tl,bT,←sz];exact hc.2)
      rw [tl,←hw,←hy] at e1
      rw [←inv,tx,e1,bR,List.reverse_singleton,List.singleton_append,M9,o7,←eo,Zo (fun p hp=>hps p (by simpa using hp)),aF]
    |join a b=>
     have ha:a<rs.length:=by have:=ok.1;omega
     have hb:b<rs.length:=by have:=ok.2;omega
     have ixb:=ixs b hb
     simp only [Rule.size] at sz
     simp only [Rule.tx] at tx
     have tb:((texts rs).getD b []).length=(sizes rs).getD b 0:=gW rs b
     by_cases h:m<(sizes rs).getD b 0
     ·refine⟨b,ok.2,?_⟩
      refine iy (ρ' :=[.own (fM (rs++(q0++xs))), .dat (fL (sizes rs)), .dat (.int (k:Int)), .dat (.int (m:Int)), .own (.list (ps.map eZ)), .un, .un, .dat (fJ (.join a b))]) (by simp! only [ix]) ?_
      refine Ox (by simp! only [fJ,ig,jt]) (Rq (by simp! only [fJ,nH,ixb,show(m:Int)<(((sizes rs).getD b 0:Nat):Int) by omega]) ?_)
      refine jE (ρ' :=[.own (fM (rs++(q0++xs))), .dat (fL (sizes rs)), .dat (.int (b:Int)), .dat (.int (m:Int)), .own (.list (ps.map eZ)), .un, .un, .dat (fJ (.join a b))]) (by simp! only [fJ,nH]) ⟨m,xs,ps,_,rfl,g1,f1,hb,by omega,hps,?_,by have:=ok.2;omega,by have:=ok.2;omega,bf (dh _ (by omega)) c3⟩
      rw [←inv,tx,VL (by omega)]
     ·refine⟨a,ok.1,?_⟩
      have es:(m:Int)-(((sizes rs).getD b 0:Nat):Int)=((m-(sizes rs).getD b 0:Nat):Int):=by omega
      refine iy (ρ' :=[.own (fM (rs++(q0++xs))), .dat (fL (sizes rs)), .dat (.int (k:Int)), .dat (.int (m:Int)), .own (.list (ps.map eZ)), .un, .un, .dat (fJ (.join a b))]) (by simp! only [ix]) ?_
      refine Ox (by simp! only [fJ,ig,jt]) (Ox (by simp! only [fJ,nH,ixb,show¬(m:Int)<(((sizes rs).getD b 0:Nat):Int) by omega]) ?_)
      refine iy (ρ' :=[.own (fM (rs++(q0++xs))), .dat (fL (sizes rs)), .dat (.int (k:Int)), .dat (.int (m:Int)), .own (.list ((ps++[some b]).map eZ)), .un, .un, .dat (fJ (.join a b))]) (by
       rw [app_ok (ds:=ps.map eZ) (d:=eZ (some b)) rfl (by simp! only [fJ,nH,eZ]) (by rw [aA];exact lY (by omega))]
       simp) ?_
      refine iy (ρ' :=[.own (fM (rs++(q0++xs))), .dat (fL (sizes rs)), .dat (.int (k:Int)), .dat (.int ((m-(sizes rs).getD b 0:Nat):Int)), .own (.list ((ps++[some b]).map eZ)), .un, .un, .dat (fJ (.join a b))]) (by simp! only [fJ,nH,ixb,es]) ?_
      refine jE (ρ' :=[.own (fM (rs++(q0++xs))), .dat (fL (sizes rs)), .dat (.int (a:Int)), .dat (.int ((m-(sizes rs).getD b 0:Nat):Int)), .own (.list ((ps++[some b]).map eZ)), .un, .un, .dat (fJ (.join a b))]) (by simp! only [fJ,iD]) ⟨m-(sizes rs).getD b 0,xs,ps++[some b],_,rfl,g1,f1,ha,by omega,fun p hp=> ?_,?_,by have:=ok.1;omega,by simp;have:=ok.1;omega,bf (dh _ (by omega)) c3⟩
      ·rcases aR.mp hp with h2|h2
       ·exact hps p h2
       ·have:p=some b:=by simpa using h2
        rw [this]
        exact fX.some (by simp;omega)
      ·have e2:gK (rs++(q0++xs)) (some b)=(texts rs).getD b []:=iI hb _
       rw [←inv,tx,Wy (by omega),tb,bR,List.reverse_singleton,List.singleton_append,M9,e2,aF]
   ·left
    refine⟨?_,k,m,xs,ps,k7,rfl,g1,f1,hk,by omega,hps,inv,c1,c2,c3⟩
    by_cases h0:0<m
    ·simp! only [iW,ixk,show(0:Int)<(m:Int) by omega,show¬(m:Int)<(((sizes rs).getD k 0:Nat):Int) by omega]
    ·simp! only [iW,show¬(0:Int)<(m:Int) by omega]
  rintro ρ ⟨k,m,xs,ps,k7,rfl,g1,f1,hk,hm,hps,inv,c1,c2,c3⟩
  refine fD (ρ' :=[.own (fM (rs++(q0++xs))), .dat (fL (sizes rs)), .dat (.int (k:Int)), .dat (.int (m:Int)), .own (.list (ps.map eZ)), .dat (.none), .un,k7]) (by simp! only []) ?_
  obtain⟨F,hF⟩:∃F:Option Nat,F=if 0<m then some k else none:=⟨_,rfl⟩
  refine fD (ρ' :=[.own (fM (rs++(q0++xs))), .dat (fL (sizes rs)), .dat (.int (k:Int)), .dat (.int (m:Int)), .own (.list (ps.map eZ)), .dat (eZ F), .un,k7]) (by
   by_cases h0:0<m
   ·simp! only [show(0:Int)<(m:Int) by omega,hF,h0,if_true]
    rfl
   ·simp! only [show¬(0:Int)<(m:Int) by omega,hF,h0,if_false]
    rfl) ?_
  have nF:fX (rs++(q0++xs)) F:=by
   rw [hF]
   split
   ·exact fX.some (by simp;omega)
   ·exact fX.none
  have tF:gK (rs++(q0++xs)) F=mY m ((texts rs).getD k []):=by
   rw [hF]
   rcases hm with h|h
   ·subst h
    simp [gK,aej]
   ·have kp:=Pos.get gr hk
    simp only [show 0<m by omega,if_true]
    show(texts (rs++(q0++xs))).getD k []=_
    rw [iI hk,h,←gW]
    exact(Qp _).symm
  rw [←tF] at inv
  refine oK (N:=fun ρ=>∃(ys:List Rule) (Z:Option Nat) (k6:Sl),ρ=[.own (fM (rs++(q0++xs++ys))), .dat (fL (sizes rs)), .dat (.int (k:Int)), .dat (.int (m:Int)), .dat (.list (ps.map eZ)), .dat (eZ Z),k6,k7]∧Good (rs++(q0++xs++ys))∧Fits MOST (rs++(q0++xs++ys))∧(ys.length≤ps.length∧tN ys=0)∧fX (rs++(q0++xs++ys)) Z∧gK (rs++(q0++xs++ys)) Z=T) ?_ ?_
  ·show Nx (mZ (iRv (eE 4)) (gN 6) (oN 5 (jh 0 jR [(eE 5),(eE 6)])) [.own (fM (rs++(q0++xs))), .dat (fL (sizes rs)), .dat (.int (k:Int)), .dat (.int (m:Int)), .dat (.list (ps.map eZ)), .dat (eZ F), .un,k7]) _
   have h:=lZ (mi:=iRv (eE 4)) (g:=gN 6) (body:=oN 5 (jh 0 jR [(eE 5),(eE 6)])) (ρ:=[.own (fM (rs++(q0++xs))), .dat (fL (sizes rs)), .dat (.int (k:Int)), .dat (.int (m:Int)), .dat (.list (ps.map eZ)), .dat (eZ F), .un,k7]) (ds:=(ps.map eZ).reverse)
    (fun i ρ=>∃(ys:List Rule) (Z:Option Nat) (k6:Sl),ρ=[.own (fM (rs++(q0++xs++ys))), .dat (fL (sizes rs)), .dat (.int (k:Int)), .dat (.int (m:Int)), .dat (.list (ps.map eZ)), .dat (eZ Z),k6,k7]∧Good (rs++(q0++xs++ys))∧Fits MOST (rs++(q0++xs++ys))∧(ys.length≤i∧tN ys=0)∧fX (rs++(q0++xs++ys)) Z∧gK (rs++(q0++xs++ys)) Z=gK (rs++(q0++xs)) F++cat (rs++(q0++xs)) (ps.reverse.take i))
    (by simp! only [iRv]) ⟨[],F,_,by rw [aU],by rw [aU];exact g1,by rw [aU];exact f1,⟨by simp,rfl⟩,by rw [aU];exact nF,by rw [aU];simp [cat]⟩ (by
     rintro i d ρ hd ⟨ys,Z,k6,rfl,g2,f2,⟨yl,yt⟩,nZ,tZ⟩
     rw [←List.map_reverse,aH,aK] at hd
     obtain⟨p,h1,rfl⟩:=hd
     have hi:=(aq.mp h1).1
     rw [bL] at hi
     have pm:p∈ps:=by
      have:=aX h1
      simpa using this
     have np:fX (rs++(q0++xs)) p:=hps p pm
     have np2:fX (rs++(q0++xs++ys)) p:=by
      rw [←aF]
      exact np.app _
     have tp:gK (rs++(q0++xs++ys)) p=gK (rs++(q0++xs)) p:=by
      rw [←aF]
      exact qI np _
     have hstep:(ps.reverse.take (i+1))=ps.reverse.take i++[p]:=by
      rw [bH,h1]
      rfl
     have ql:(rs++(q0++xs++ys)).length<16700000:=by simp;omega
     have big:(gK (rs++(q0++xs)) p).length+(gK (rs++(q0++xs++ys)) Z).length≤MOST:=by
      rw [tZ]
      have e:ps.reverse=ps.reverse.take (i+1)++ps.reverse.drop (i+1):=(bO _ _).symm
      have el:T.length=(gK (rs++(q0++xs)) F++cat (rs++(q0++xs)) (ps.reverse.take (i+1)++ps.reverse.drop (i+1))).length:=by rw [←e,inv]
      rw [hstep] at el
      simp only [cat,cV,List.flatten_append,au,aZ,dR,dI,List.flatten_nil,bW] at el⊢
      omega
     have lk:=uN (rs++(q0++xs++ys)) Z p ql
     obtain⟨o1,o2,o3,o4,o5,o6,o7⟩:=xr (rs:=rs++(q0++xs++ys)) g2 f2 (a:=Z) (b:=p) nZ np2 (by rw [←lU,←lU,tp];omega)
     rw [o3] at lk
     have eo:rs++(q0++xs++ys)++o1=rs++(q0++xs++(ys++o1)):=by simp
     rw [eo] at lk o4 o5 o6 o7
     obtain⟨N,hN⟩:∃N,N=(oh (rs++(q0++xs++ys)) Z p).2:=⟨_,rfl⟩
     rw [←hN] at lk o6 o7
     refine⟨_,nu,jE (ρ' :=[.own (fM (rs++(q0++xs++(ys++o1)))), .dat (fL (sizes rs)), .dat (.int (k:Int)), .dat (.int (m:Int)), .dat (.list (ps.map eZ)), .dat (eZ N), .dat (eZ p),k7]) ?_ ⟨ys++o1,N,_,rfl,o4,o5,⟨by simp;omega,by rw [CG,yt,qX o3]⟩,o6,?_⟩⟩
     ·have ex:jh 0 jR [(eE 5),(eE 6)] [.own (fM (rs++(q0++xs++ys))), .dat (fL (sizes rs)), .dat (.int (k:Int)), .dat (.int (m:Int)), .dat (.list (ps.map eZ)), .dat (eZ Z), .dat (eZ p),k7]= .ok (eZ N) [.own (fM (rs++(q0++xs++(ys++o1)))), .dat (fL (sizes rs)), .dat (.int (k:Int)), .dat (.int (m:Int)), .dat (.list (ps.map eZ)), .dat (eZ Z), .dat (eZ p),k7]:=by
       have ev:nM [(eE 5),(eE 6)] [.own (fM (rs++(q0++xs++ys))), .dat (fL (sizes rs)), .dat (.int (k:Int)), .dat (.int (m:Int)), .dat (.list (ps.map eZ)), .dat (eZ Z), .dat (eZ p),k7]= .ok [eZ Z,eZ p]:=by simp! only [nM]
       simp only [jh,aG,ev,lk,set_0]
      simp only [set_0,jU,oN,ex]
     ·rw [o7,tp,tZ,hstep]
      rw [KY,aF])
   rw [bL,aA] at h
   have fin:gK (rs++(q0++xs)) F++cat (rs++(q0++xs)) (ps.reverse.take ps.length)=T:=by
    rw [←inv,bF (by simp)]
    try rfl
   rw [fin] at h
   exact h
  rintro ρ ⟨ys,Z,k6,rfl,g2,f2,⟨yl,yt⟩,nZ,tZ⟩
  refine⟨.tuple [eZ Z,fM (rs++(q0++xs++ys))],rfl,q0++xs++ys,Z,rfl,g2,f2,⟨xs++ys,by simp,by simp;omega,by rw [CG,yt];have:=CV xs;omega,by rw [jT,tX yt,dZ];exact bf (Nat.le_mul_of_pos_right _ (Pos.get gr hk)) c3⟩,nZ,tZ⟩
 obtain⟨d,e,qs,n,rfl,h⟩:=body
 exact⟨qs,n,Jb (n:=4) e,h⟩
theorem UW(R:D)(sz:List Nat)(k0:Nat)(hk0:k0<sz.length)(m0:Nat)(hm:m0=0∨m0=sz.getD k0 0):
 wQ [R,fL sz, .int (k0:Int), .int (m0:Int)]= .ok (.tuple [eZ (if m0=0 then none else some k0),R]):=by
 have ix:=kY (ns:=sz) (a:=k0) hk0
 have run:Rt (Bb [.own (R), .dat (fL sz), .dat (.int (k0:Int)), .dat (.int (m0:Int)), .un, .un, .un, .un]) (·= .tuple [eZ (if m0=0 then none else some k0),R]):=by
  unfold Bb
  refine fD (ρ' :=[.own (R), .dat (fL sz), .dat (.int (k0:Int)), .dat (.int (m0:Int)), .own (.list []), .un, .un, .un]) (by simp! only []) ?_
  refine oK (xK (N:=fun ρ=>ρ=[.own (R), .dat (fL sz), .dat (.int (k0:Int)), .dat (.int (m0:Int)), .own (.list []), .un, .un, .un]) (fun k ρ=>ρ=[.own (R), .dat (fL sz), .dat (.int (k0:Int)), .dat (.int (m0:Int)), .own (.list []), .un, .un, .un]) 0 (by omega) rfl ?_) ?_
  ·rintro k ρ rfl
   left
   refine⟨?_,rfl⟩
   rcases hm with rfl|hm
   ·simp! only [iW,ix,show¬(0:Int)<((0:Nat):Int) by omega]
   ·by_cases z:(0:Int)<(m0:Int)
    ·simp! only [iW,ix,z,show¬(m0:Int)<((sz.getD k0 0:Nat):Int) by omega]
    ·simp! only [iW,ix,z]
  rintro ρ rfl
  refine fD (ρ' :=[.own (R), .dat (fL sz), .dat (.int (k0:Int)), .dat (.int (m0:Int)), .own (.list []), .dat (.none), .un, .un]) (by simp! only []) ?_
  by_cases z:m0=0
  ·subst z
   refine fD (ρ' :=[.own (R), .dat (fL sz), .dat (.int (k0:Int)), .dat (.int ((0:Nat):Int)), .own (.list []), .dat (.none), .un, .un]) (by simp! only [show¬((0:Nat):Int)>0 by omega]) ?_
   refine fD (ρ' :=[.own (R), .dat (fL sz), .dat (.int (k0:Int)), .dat (.int ((0:Nat):Int)), .dat (.list []), .dat (.none), .un, .un]) rfl ?_
   exact⟨_,rfl,rfl⟩
  ·refine fD (ρ' :=[.own (R), .dat (fL sz), .dat (.int (k0:Int)), .dat (.int (m0:Int)), .own (.list []), .dat (.int (k0:Int)), .un, .un]) (by simp! only [show(m0:Int)>0 by omega]) ?_
   refine fD (ρ' :=[.own (R), .dat (fL sz), .dat (.int (k0:Int)), .dat (.int (m0:Int)), .dat (.list []), .dat (.int (k0:Int)), .un, .un]) rfl ?_
   exact⟨_,rfl,by rw [if_neg z];rfl⟩
 obtain⟨d,h1,rfl⟩:=run
 exact Jb (n:=4) h1
theorem X4(rs q0:List Rule)(gr:Good rs)(fr:Fits MOST rs)(g:Good (rs++q0))(f:Fits MOST (rs++q0))(hl:rs.length+q0.length≤2000000)(hl0:rs.length≤200000)(k0:Nat)(hk0:k0<rs.length)(m0:Nat)(hm0:m0≤(sizes rs).getD k0 0):
 ∃qs n,wQ [fM (rs++q0),fL (sizes rs), .int (k0:Int), .int (m0:Int)]= .ok (.tuple [eZ n,fM (rs++qs)])∧Good (rs++qs)∧Fits MOST (rs++qs)∧(∃xs,qs=q0++xs∧xs.length≤2*k0∧(m0=0∨m0=(sizes rs).getD k0 0→xs.length=0)∧tN xs≤k0∧qT xs≤(sizes rs).getD k0 0)∧fX (rs++qs) n∧gK (rs++qs) n=mY m0 ((texts rs).getD k0 []):=by
 by_cases hz:m0=0∨m0=(sizes rs).getD k0 0
 ·refine⟨q0,if m0=0 then none else some k0,UW _ _ k0 (by rw [j5];exact hk0) m0 hz,g,f,⟨[],by simp,by simp,fun _=>rfl,cG _,Pos.get gr hk0⟩,?_,?_⟩
  ·by_cases z:m0=0
   ·rw [if_pos z];exact fX.none
   ·rw [if_neg z];exact fX.some (by rw [au];omega)
  ·have tl:((texts rs).getD k0 []).length=(sizes rs).getD k0 0:=gW rs k0
   by_cases z:m0=0
   ·rw [if_pos z]
    subst z
    simp [gK,mY]
   ·rw [if_neg z]
    have e:m0=((texts rs).getD k0 []).length:=by omega
    have:gK (rs++q0) (some k0)=(texts rs).getD k0 []:=iI hk0 _
    rw [this,e]
    rw [Qp]
 ·obtain⟨qs,n,h1,h2,h3,⟨xs,h4,h5,h8⟩,h6,h7⟩:=aai rs q0 gr fr g f hl hl0 k0 hk0 m0 hm0
  exact⟨qs,n,h1,h2,h3,⟨xs,h4,h5,fun z=>absurd z hz,h8⟩,h6,h7⟩
end Sb
namespace Sb
open PySem PySem.Spec L2 Evl DL
theorem ab0{i:Nat}{g:List D→ER}{m:EM}{xm:XM}{ρ ρ1 ρ2:DL.Env}{c0 c d0 d1 d c' :D}(h0:ρ[i]? =some (.own c0))(h1:m ρ= .ok d0)(h2:xm ρ= .ok d1 ρ1)(h3:ρ1[i]? =some (.own c))(h4:g [c,d0,d1]= .ok (.tuple [d,c']))(h5:ρ1.set i (.own c')=ρ2):wM i g m xm ρ= .ok d ρ2:=by
 simp only [wM,h0,h1,h2,h3,h4,h5]
theorem abj{i:Nat}{g:List D→ER}{ms:List EM}{ρ ρ2:DL.Env}{c d c' :D}{ds:List D}(h0:ρ[i]? =some (.own c))(h1:nM ms ρ= .ok ds)(h2:g (c::ds)= .ok (.tuple [d,c']))(h3:ρ.set i (.own c')=ρ2):jh i g ms ρ= .ok d ρ2:=by
 simp only [jh,h0,h1,h2,h3]
theorem Z8(rs:List Rule)(g:Good rs)(f:Fits MOST rs)(hl:rs.length≤200000)(k:Nat)(r:Rule)(hr:rs[k]? =some r)(a:Nat)(hra:(∃b,r= .join a b)∨∃c,r= .times a c)(s e:Nat)(hs:s<(sizes rs).getD a 0)(he:(sizes rs).getD a 0<e)(hek:e≤(sizes rs).getD k 0):
 ∃qs n,wV [fM rs,fL (sizes rs),fJ r, .int (s:Int), .int (e:Int)]= .ok (.tuple [eZ n,fM (rs++qs)])∧Good (rs++qs)∧Fits MOST (rs++qs)∧(qs.length≤4*k+4∧qT qs≤MOST*MOST*MOST∧(s=0∨e=(sizes rs).getD k 0∨(∃c m,r= .times a c∧e=m*(sizes rs).getD a 0)→qs.length≤2*k+4∧tN qs≤k∧qT qs≤(sizes rs).getD k 0))∧fX (rs++qs) n∧gK (rs++qs) n=stretch ((texts rs).getD k []) s e:=by
 have hk:=(aq.mp hr).1
 have ok:=g k r hr
 have ak:a<k:=by
  rcases hra with⟨b,rfl⟩|⟨c,rfl⟩<;>exact ok.1
 have mm:MOST<10 ^ 300:=by decide
 have kb:=f.get k
 obtain⟨z,hz⟩:∃z,z=(sizes rs).getD a 0:=⟨_,rfl⟩
 have ixa:=kY (ns:=sizes rs) (a:=a) (by rw [j5];omega)
 rw [←hz] at hs he ixa
 have tl:((texts rs).getD a []).length=z:=by rw [gW,hz]
 have r1:gj (fJ r) (.int 1)= .ok (.int (a:Int)):=by rcases hra with⟨b,rfl⟩|⟨c,rfl⟩<;>exact iD _ _ _
 obtain⟨q1,n1,e1,g1,f1,⟨x1,hx1,l1,z1,w1,pr1⟩,nn1,t1⟩:=X4 rs [] g f (by simpa using g) (by simpa using f) (by simp;omega) hl a (by omega) (z-s) (by omega)
 rw [aU] at e1
 have e1' :(z:Int)-(s:Int)=((z-s:Nat):Int):=by omega
 have q1l:q1.length≤2*a:=by rw [hx1];simpa using l1
 have q1t:tN q1≤a:=by rw [hx1];simpa using w1
 have q1p:qT q1≤z:=by rw [hx1,hz];simpa using pr1
 have q1z:s=0→q1.length=0:=fun z=>by rw [hx1];simpa using z1 (.inr (by omega))
 have ln1:kW (rs++q1) n1=z-s:=by rw [←lU,t1,wR (by omega)]
 have sub:(e:Int)-(z:Int)=((e-z:Nat):Int):=by omega
 have run:∀d,Rt (Fy [.own (fM rs), .dat (fL (sizes rs)), .dat (fJ r), .dat (.int (s:Int)), .dat (.int (e:Int)), .un, .un, .un]) (·=d)→wV [fM rs,fL (sizes rs),fJ r, .int (s:Int), .int (e:Int)]= .ok d:=fun d ⟨d',h1,h2⟩=>by
  subst h2
  exact Jb (n:=3) h1
 have pre:∀Q:D→Prop,Rt (fK (ju (eV lB (eV gj (eE 2) (eC (.int 0))) (eC (.str "join"))) (wF (wM 0 jR (eE 7) (jh 0 lO [(eE 1),(eV gj (eE 2) (eC (.int 2))),(eV pH (eE 4) (eE 6))]))) fZ)
 (fK (oN 7 (wM 0 jR (eE 7) (jh 0 uY [(eE 5),(eV jy (eV pH (eE 4) (eE 6)) (eE 6))])))
 (wF (wM 0 jR (eE 7) (jh 0 lO [(eE 1),(eE 5),(eV iz (eV pH (eE 4) (eE 6)) (eE 6))])))) [.own (fM (rs++q1)), .dat (fL (sizes rs)), .dat (fJ r), .dat (.int (s:Int)), .dat (.int (e:Int)), .dat (.int (a:Int)), .dat (.int (z:Int)), .dat (eZ n1)]) Q→Rt (Fy [.own (fM rs), .dat (fL (sizes rs)), .dat (fJ r), .dat (.int (s:Int)), .dat (.int (e:Int)), .un, .un, .un]) Q:=fun Q h=>by
  unfold Fy
  refine fD (ρ' :=[.own (fM rs), .dat (fL (sizes rs)), .dat (fJ r), .dat (.int (s:Int)), .dat (.int (e:Int)), .dat (.int (a:Int)), .un, .un]) (by simp! only [r1]) ?_
  refine fD (ρ' :=[.own (fM rs), .dat (fL (sizes rs)), .dat (fJ r), .dat (.int (s:Int)), .dat (.int (e:Int)), .dat (.int (a:Int)), .dat (.int (z:Int)), .un]) (by simp! only [ixa]) ?_
  refine fD (ρ' :=[.own (fM (rs++q1)), .dat (fL (sizes rs)), .dat (fJ r), .dat (.int (s:Int)), .dat (.int (e:Int)), .dat (.int (a:Int)), .dat (.int (z:Int)), .dat (eZ n1)]) ?_ h
  have ex:=abj (i:=0) (g:=wQ) (ms:=[(eE 1),(eE 5),(eV pH (eE 6) (eE 3))]) (ρ:=[.own (fM rs), .dat (fL (sizes rs)), .dat (fJ r), .dat (.int (s:Int)), .dat (.int (e:Int)), .dat (.int (a:Int)), .dat (.int (z:Int)), .un]) rfl (by simp! only [nM,e1']) e1 rfl
  simp only [oN,ex]
  rfl
 rcases hra with⟨b,rfl⟩|⟨c,rfl⟩
 ·have sz:=sY g hr
  have tx:=qP g hr
  simp only [Rule.size] at sz
  simp only [Rule.tx] at tx
  have hb:b<rs.length:=by have:=ok.2;omega
  have tb:((texts rs).getD b []).length=(sizes rs).getD b 0:=gW rs b
  obtain⟨q2,n2,e2,g2,f2,⟨x2,hx2,l2,z2,wx2,pr2⟩,nn2,t2⟩:=Ck rs q1 g f g1 f1 (by omega) hl b hb (e-z) (by omega)
  subst hx2
  have nn1' :fX (rs++(q1++x2)) n1:=by rw [←aF];exact nn1.app _
  have t1' :gK (rs++(q1++x2)) n1=mY (z-s) ((texts rs).getD a []):=by rw [←aF,qI nn1,t1]
  have ll1:kW (rs++(q1++x2)) n1=z-s:=by rw [←lU,t1',wR (by omega)]
  have ll2:kW (rs++(q1++x2)) n2=e-z:=by rw [←lU,t2,aY,tb];omega
  obtain⟨q3,l3,e3,g3,f3,nn3,t3⟩:=xr g2 f2 nn1' nn2 (by omega)
  have lk:=uN (rs++(q1++x2)) n1 n2 (by simp;have:=ok.2;omega)
  rw [e3] at lk
  have bk:=ok.2
  refine⟨q1++x2++q3,(oh (rs++(q1++x2)) n1 n2).2,run _ (pre _ ?_),by rw [←aF];exact g3,by rw [←aF];exact f3,⟨by simp;omega,by
   have m1:=f.get a
   have m2:=f.get b
   have h1:=dM (dM (show qT q1≤MOST by omega) (show qT x2≤MOST by omega)) (show 1≤MOST by decide)
   rw [jT,jT,tX (qX e3)]
   exact h1,fun hz2=>by
   have:e=(sizes rs).getD k 0→x2.length=0:=fun z=>z2 (.inr (by omega))
   have t3:=qX e3
   have t1:=CV q1
   have t2:=CV x2
   simp only [au,CG]
   rcases hz2 with z|z|⟨c,m,z,_⟩
   ·have e0:=q1z z
    have e1:q1=[]:=cR.mp e0
    exact⟨by omega,by omega,by rw [jT,jT,tX t3,e1];simp only [qT];omega⟩
   ·have e0:=this z
    have e1:x2=[]:=cR.mp e0
    exact⟨by omega,by omega,by rw [jT,jT,tX t3,e1];simp only [qT];omega⟩
   ·cases z⟩,by rw [←aF];exact nn3,?_⟩
  ·refine jP (sX (by simp! only [fJ,ig]) ?_)
   have ex1:=abj (i:=0) (g:=lO) (ms:=[(eE 1),(eV gj (eE 2) (eC (.int 2))),(eV pH (eE 4) (eE 6))]) (ρ:=[.own (fM (rs++q1)), .dat (fL (sizes rs)), .dat (fJ (.join a b)), .dat (.int (s:Int)), .dat (.int (e:Int)), .dat (.int (a:Int)), .dat (.int (z:Int)), .dat (eZ n1)]) rfl (by simp! only [nM,fJ,nH,sub]) e2 rfl
   have ex2:=ab0 (i:=0) (g:=jR) (m:=eE 7) (ρ:=[.own (fM (rs++q1)), .dat (fL (sizes rs)), .dat (fJ (.join a b)), .dat (.int (s:Int)), .dat (.int (e:Int)), .dat (.int (a:Int)), .dat (.int (z:Int)), .dat (eZ n1)]) rfl rfl ex1 rfl lk rfl
   refine⟨_,by simp only [wF,ex2];rfl,?_⟩
   show bZ _=bZ _
   simp only [aF]
  ·rw [←aF,t3,t1',t2,tx,Ey (by omega) (by omega),tl]
 ·have sz:=sY g hr
  have tx:=qP g hr
  simp only [Rule.size] at sz
  simp only [Rule.tx] at tx
  rw [←hz] at sz
  obtain⟨w,hw⟩:∃w,w=(e-z)/z:=⟨_,rfl⟩
  obtain⟨y,hy⟩:∃y,y=(e-z)%z:=⟨_,rfl⟩
  have dv:=Nat.div_add_mod (e-z) z
  have y2:(e-z)%z<z:=Nat.mod_lt _ (by omega)
  have w2:(e-z)/z≤e-z:=Nat.div_le_self _ _
  rw [←hw,←hy] at dv
  rw [←hy] at y2
  rw [←hw] at w2
  have dd:jy (.int ((e-z:Nat):Int)) (.int (z:Int))= .ok (.int (w:Int)):=by
   rw [lu (by omega) (by omega),hw]
   simp
  have dm:iz (.int ((e-z:Nat):Int)) (.int (z:Int))= .ok (.int (y:Int)):=by
   rw [gR (by omega),hy]
   simp
  have ha:a<rs.length:=by omega
  have na:fX (rs++q1) (some a):=fX.some (by simp;omega)
  have la:kW (rs++q1) (some a)=z:=by
   show(sizes (rs++q1)).getD a 0=z
   rw [sH ha,hz]
  have ta:gK (rs++q1) (some a)=(texts rs).getD a []:=iI ha _
  obtain⟨q2,l2,e2,g2,f2,nn2,t2⟩:=EY (m:=w) g1 f1 na (by omega) (by rw [la];omega)
  have ov:=JL (rs++q1) (some a) w (by simp;omega)
  rw [e2] at ov
  rw [ta] at t2
  obtain⟨n2,hn2⟩:∃n2,n2=(overF (rs++q1) (some a) w).2:=⟨_,rfl⟩
  rw [←hn2] at ov nn2 t2
  have nn1' :fX (rs++q1++q2) n1:=nn1.app _
  have t1' :gK (rs++q1++q2) n1=mY (z-s) ((texts rs).getD a []):=by rw [qI nn1,t1]
  have ll1:kW (rs++q1++q2) n1=z-s:=by rw [←lU,t1',wR (by omega)]
  have ll2:kW (rs++q1++q2) n2=w*z:=by rw [←lU,t2,pQ,tl]
  rw [bT] at dv
  obtain⟨q3,l3,e3,g3,f3,nn3,t3⟩:=xr g2 f2 nn1' nn2 (by omega)
  have lk:=uN (rs++q1++q2) n1 n2 (by simp;omega)
  rw [e3] at lk
  obtain⟨n3,hn3⟩:∃n3,n3=(oh (rs++q1++q2) n1 n2).2:=⟨_,rfl⟩
  rw [←hn3] at lk nn3 t3
  have e4:rs++q1++q2++q3=rs++(q1++q2++q3):=by simp
  rw [e4] at lk g3 f3 nn3 t3
  obtain⟨q4,n4,e5,g4,f4,⟨x4,hx4,l4,z4,wx4,pr4⟩,nn4,t4⟩:=Ck rs (q1++q2++q3) g f g3 f3 (by simp;omega) hl a ha y (by omega)
  subst hx4
  have nn3' :fX (rs++(q1++q2++q3++x4)) n3:=by rw [←aF];exact nn3.app _
  have t3' :gK (rs++(q1++q2++q3++x4)) n3=mY (z-s) ((texts rs).getD a [])++(aC w ((texts rs).getD a [])).flatten:=by rw [←aF,qI nn3,t3,t1',t2]
  have ll3:kW (rs++(q1++q2++q3++x4)) n3=(z-s)+w*z:=by rw [←lU,t3',au,wR (by omega),pQ,tl]
  have ll4:kW (rs++(q1++q2++q3++x4)) n4=y:=by rw [←lU,t4,aY,tl];omega
  obtain⟨q5,l5,e6,g5,f5,nn5,t5⟩:=xr g4 f4 nn3' nn4 (by omega)
  have lk2:=uN (rs++(q1++q2++q3++x4)) n3 n4 (by simp;omega)
  rw [e6] at lk2
  refine⟨q1++q2++q3++x4++q5,(oh (rs++(q1++q2++q3++x4)) n3 n4).2,run _ (pre _ ?_),by rw [←aF];exact g5,by rw [←aF];exact f5,⟨by simp;omega,by
   have m1:=f.get a
   have w3:w≤c:=by rw [hw];exact Nat.div_le_of_le_mul (by omega)
   have w4:=xg e2
   have w5:=ok.2.1
   have h1:=dM (dM (show qT q1≤MOST by omega) (show qT q2≤MOST by omega)) (show qT x4≤MOST by omega)
   rw [jT,jT,jT,jT,tX (qX e3),tX (qX e6),dZ,dZ]
   exact h1,fun hz2=>by
   have dz:∀m,e=m*z→x4.length=0:=fun m zz=>z4 (.inl (by
    have e9:e-z=z*(m-1):=by
     rw [zz,Nat.mul_sub,dZ,bT]
    rw [hy,e9]
    exact Nat.mul_mod_right _ _))
   have t3:=qX e3
   have t5:=qX e6
   have t1:=CV q1
   have t2:=CV q2
   have t4:=CV x4
   simp only [au,CG]
   have w3:w≤c:=by rw [hw];exact Nat.div_le_of_le_mul (by omega)
   have w4:=xg e2
   have w5:=ok.2.1
   have p2:qT q2≤c:=by omega
   rw [←hz] at pr4
   have noX:x4.length=0→qT (q1++q2++q3++x4++q5)≤(sizes rs).getD k 0:=fun e0=>by
    have e1:x4=[]:=cR.mp e0
    have h:=dM q1p p2
    rw [jT,jT,jT,jT,tX t3,tX t5,e1,sz]
    simp only [qT,dZ]
    exact h
   rcases hz2 with q|q|⟨c',m,_,q⟩
   ·have e0:=q1z q
    have e1:q1=[]:=cR.mp e0
    have h:=dM p2 pr4
    refine⟨by omega,by omega,?_⟩
    rw [jT,jT,jT,jT,tX t3,tX t5,e1,sz,bT z c]
    simp only [qT,dZ,Nat.one_mul]
    exact h
   ·have e0:=dz c (by rw [q,sz,bT])
    exact⟨by omega,by omega,noX e0⟩
   ·have e0:=dz m (by rw [q,hz])
    exact⟨by omega,by omega,noX e0⟩⟩,by rw [←aF];exact nn5,?_⟩
  ·refine fD (ρ' :=[.own (fM (rs++q1)), .dat (fL (sizes rs)), .dat (fJ (.times a c)), .dat (.int (s:Int)), .dat (.int (e:Int)), .dat (.int (a:Int)), .dat (.int (z:Int)), .dat (eZ n1)]) (by simp! only [fJ,ig,tj]) ?_
   have ex1:=abj (i:=0) (g:=uY) (ms:=[(eE 5),(eV jy (eV pH (eE 4) (eE 6)) (eE 6))]) (ds:=[eZ (some a), .int (w:Int)]) (ρ:=[.own (fM (rs++q1)), .dat (fL (sizes rs)), .dat (fJ (.times a c)), .dat (.int (s:Int)), .dat (.int (e:Int)), .dat (.int (a:Int)), .dat (.int (z:Int)), .dat (eZ n1)]) rfl (by simp! only [nM,sub,dd,eZ]) ov rfl
   have ex2:=ab0 (i:=0) (g:=jR) (m:=eE 7) (ρ:=[.own (fM (rs++q1)), .dat (fL (sizes rs)), .dat (fJ (.times a c)), .dat (.int (s:Int)), .dat (.int (e:Int)), .dat (.int (a:Int)), .dat (.int (z:Int)), .dat (eZ n1)]) rfl rfl ex1 rfl lk rfl
   refine fD (ρ' :=[.own (fM (rs++(q1++q2++q3))), .dat (fL (sizes rs)), .dat (fJ (.times a c)), .dat (.int (s:Int)), .dat (.int (e:Int)), .dat (.int (a:Int)), .dat (.int (z:Int)), .dat (eZ n3)]) (by simp only [oN,ex2];rfl) ?_
   have ex3:=abj (i:=0) (g:=lO) (ms:=[(eE 1),(eE 5),(eV iz (eV pH (eE 4) (eE 6)) (eE 6))]) (ρ:=[.own (fM (rs++(q1++q2++q3))), .dat (fL (sizes rs)), .dat (fJ (.times a c)), .dat (.int (s:Int)), .dat (.int (e:Int)), .dat (.int (a:Int)), .dat (.int (z:Int)), .dat (eZ n3)]) rfl (by simp! only [nM,sub,dm]) e5 rfl
   have ex4:=ab0 (i:=0) (g:=jR) (m:=eE 7) (ρ:=[.own (fM (rs++(q1++q2++q3))), .dat (fL (sizes rs)), .dat (fJ (.times a c)), .dat (.int (s:Int)), .dat (.int (e:Int)), .dat (.int (a:Int)), .dat (.int (z:Int)), .dat (eZ n3)]) rfl rfl ex3 rfl lk2 rfl
   refine⟨_,by simp only [wF,ex4];rfl,?_⟩
   show bZ _=bZ _
   simp only [aF]
  ·have c1:=ok.2.1
   have ec:c=1+(c-1):=by omega
   have hcz:z*c=z+(c-1)*z:=by
    conv=>lhs;rw [ec]
    rw [Nat.mul_add,dZ,bT z (c-1)]
   rw [←aF,t5,t3',t4,tx]
   conv=>rhs;rw [ec,Fo]
   have e7:(aC 1 ((texts rs).getD a [])).flatten=(texts rs).getD a []:=by simp
   rw [e7,Ey (by omega) (by omega),tl,aah _ (by omega) _ _ (by rw [tl];omega),tl,←hw,←hy,aF]
end Sb
namespace Sb
open PySem PySem.Spec L2 Evl DL
theorem ad5(rs:List Rule)(g:Good rs)(f:Fits MOST rs)(hl:rs.length≤200000)(n:Option Nat)(hn:fX rs n)(s e:Nat)(hse:s≤e)(he:e≤kW rs n):
 ∃qs n',Fg [fu rs,eZ n, .int (s:Int), .int (e:Int)]= .ok (.tuple [fu (rs++qs),eZ n'])∧Good (rs++qs)∧Fits MOST (rs++qs)∧(qs.length≤4*rs.length+4∧qT qs≤MOST*MOST*MOST)∧fX (rs++qs) n' ∧gK (rs++qs) n' =stretch (gK rs n) s e∧∀k,n=some k→qs.length≤4*k+4∧(s=0∨e=kW rs n→qs.length≤2*k+4∧tN qs≤k∧qT qs≤kW rs n):=by
 have ln:=u9 rs g f (by omega) n hn
 have mm:MOST<10 ^ 300:=by decide
 have nb:=Rr f n
 have c1:(0:Int)≤(s:Int):=by omega
 have c2:(s:Int)≤(e:Int):=by omega
 have c3:(e:Int)≤((kW rs n:Nat):Int):=by omega
 have bt:mj [fu rs]= .ok (fu rs):=rfl
 have le:=yH rs g f (by omega)
 have run:Rt (QC [.dat (fu rs), .dat (eZ n), .dat (.int (s:Int)), .dat (.int (e:Int)), .un, .un, .un, .un, .un]) (fun d=>∃qs n',d= .tuple [fu (rs++qs),eZ n']∧Good (rs++qs)∧Fits MOST (rs++qs)∧(qs.length≤4*rs.length+4∧qT qs≤MOST*MOST*MOST)∧fX (rs++qs) n' ∧gK (rs++qs) n' =stretch (gK rs n) s e∧∀k,n=some k→qs.length≤4*k+4∧(s=0∨e=kW rs n→qs.length≤2*k+4∧tN qs≤k∧qT qs≤kW rs n)):=by
  unfold QC
  refine fD (ρ' :=[.dat (fu rs), .dat (eZ n), .dat (.int (s:Int)), .dat (.int (e:Int)), .dat (.int ((kW rs n:Nat):Int)), .un, .un, .un, .un]) (by simp! only [ln]) ?_
  refine fD (ρ' :=[.dat (fu rs), .dat (eZ n), .dat (.int (s:Int)), .dat (.int (e:Int)), .dat (.int ((kW rs n:Nat):Int)), .un, .un, .un, .un]) (by simp! only [oO,c1,c2,c3]) ?_
  by_cases hz:s=e
  ·have hz' :decide ((s:Int)=(e:Int))=true:=decide_eq_true (by omega)
   refine jP (sX (by simp! only [hz']) (gU (d:= .tuple [fu rs, .none]) (by simp! only [bt]) ⟨[],none,by rw [aU];rfl,by rw [aU];exact g,by rw [aU];exact f,⟨by simp,by decide⟩,fX.none,?_⟩))
   subst hz
   exact⟨by simp [gK,stretch],fun k hk=>⟨by simp,fun _=>⟨by simp,cG _,by subst hk;exact Pos.get g (hn k rfl)⟩⟩⟩
  have hz' :¬(s:Int)=(e:Int):=by omega
  refine fD (ρ' :=[.dat (fu rs), .dat (eZ n), .dat (.int (s:Int)), .dat (.int (e:Int)), .dat (.int ((kW rs n:Nat):Int)), .un, .un, .un, .un]) (by simp! only [hz']) ?_
  refine fD (ρ' :=[.dat (fu rs), .dat (eZ n), .dat (.int (s:Int)), .dat (.int (e:Int)), .dat (.int ((kW rs n:Nat):Int)), .dat (fL (sizes rs)), .un, .un, .un]) (by simp! only [qM,le,K8]) ?_
  cases n with
  |none=>
   exfalso
   simp only [kW] at he
   omega
  |some k0=>
   have hk0:=hn k0 rfl
   obtain⟨T,hT⟩:∃T,T=stretch (gK rs (some k0)) s e:=⟨_,rfl⟩
   rw [←hT]
   obtain⟨s0,hs0⟩:∃s0,s0=s:=⟨_,rfl⟩
   obtain⟨e0,he0⟩:∃e0,e0=e:=⟨_,rfl⟩
   have goalE:(fun d=>∃qs n',d=bZ [fu (rs++qs),eZ n']∧Good (rs++qs)∧Fits MOST (rs++qs)∧(qs.length≤4*rs.length+4∧qT qs≤MOST*MOST*MOST)∧fX (rs++qs) n' ∧gK (rs++qs) n' =T∧∀k,some k0=some k→qs.length≤4*k+4∧(s=0∨e=kW rs (some k0)→qs.length≤2*k+4∧tN qs≤k∧qT qs≤kW rs (some k0)))=(fun d=>∃qs n',d=bZ [fu (rs++qs),eZ n']∧Good (rs++qs)∧Fits MOST (rs++qs)∧(qs.length≤4*rs.length+4∧qT qs≤MOST*MOST*MOST)∧fX (rs++qs) n' ∧gK (rs++qs) n' =T∧qs.length≤4*k0+4∧(s0=0∨e0=kW rs (some k0)→qs.length≤2*k0+4∧tN qs≤k0∧qT qs≤kW rs (some k0))):=by
    funext d
    simp only [hs0,he0,Option.some.injEq,forall_eq']
   rw [goalE]
   have ixs:∀a:Nat,a<rs.length→gj (fL (sizes rs)) (.int (a:Int))= .ok (.int (((sizes rs).getD a 0:Nat):Int)):=fun a h=>kY (by rw [j5];exact h)
   refine aeE (abK (N:=fun ρ=>∃(k:Nat) (d2 d3 k4 k6:Sl),ρ=[.dat (fu rs), .dat (.int (k:Int)),d2,d3,k4, .dat (fL (sizes rs)),k6, .un, .un]∧k<rs.length∧(texts rs).getD k []=T)
    (fun k ρ=>∃(s e:Nat) (k4 k6:Sl),ρ=[.dat (fu rs), .dat (.int (k:Int)), .dat (.int (s:Int)), .dat (.int (e:Int)),k4, .dat (fL (sizes rs)),k6, .un, .un]∧k<rs.length∧s<e∧e≤(sizes rs).getD k 0∧stretch ((texts rs).getD k []) s e=T∧k≤k0∧(s0=0→s=0)∧(e0=kW rs (some k0)→e=(sizes rs).getD k 0)∧(sizes rs).getD k 0≤(sizes rs).getD k0 0) k0 (by omega) ⟨s,e,_,_,rfl,hk0,by omega,he,hT.symm,bA _,fun z=>by omega,fun z=>by rw [←he0,z];rfl,bA _⟩ ?_) ?_
   ·rintro k ρ ⟨s,e,k4,k6,rfl,hk,h1,h2,ht,kk,iS,iE,iZ⟩
    have hr:rs[k]? =some rs[k]:=by simp [hk]
    obtain⟨r,er⟩:∃r,r=rs[k]:=⟨_,rfl⟩
    rw [←er] at hr
    have ix:=rN hr
    have ok:=g k r hr
    have tx:=qP g hr
    have sz:=sY g hr
    have kb:=f.get k
    have over:∀(a s1 e1:Nat),((∃b,r= .join a b)∨∃c,r= .times a c)→s1<(sizes rs).getD a 0→(sizes rs).getD a 0<e1→e1≤(sizes rs).getD k 0→stretch ((texts rs).getD k []) s1 e1=T→(s0=0→s1=0)→(e0=kW rs (some k0)→e1=(sizes rs).getD k 0∨∃c m,r= .times a c∧e1=m*(sizes rs).getD a 0)→∀k4:Sl,
     Rt (fK (j9 7 (fG pP [(eE 0)])) (fK (oN 8 (jh 7 wV [(eE 5),(eE 6),(eE 2),(eE 3)])) (gH (jG [(fG mj [(gD 7)]),(eE 8)]))) [.dat (fu rs), .dat (.int (k:Int)), .dat (.int (s1:Int)), .dat (.int (e1:Int)),k4, .dat (fL (sizes rs)), .dat (fJ r), .un, .un]) (fun d=>∃qs n',d= .tuple [fu (rs++qs),eZ n']∧Good (rs++qs)∧Fits MOST (rs++qs)∧(qs.length≤4*rs.length+4∧qT qs≤MOST*MOST*MOST)∧fX (rs++qs) n' ∧gK (rs++qs) n' =T∧qs.length≤4*k0+4∧(s0=0∨e0=kW rs (some k0)→qs.length≤2*k0+4∧tN qs≤k0∧qT qs≤kW rs (some k0))):=fun a s1 e1 hra p1 p2 p3 p4 p5 p6 k4=>by
     obtain⟨qs,n',ac,g2,f2,⟨l2,l2p,l2z⟩,n2,t2⟩:=Z8 rs g f hl k r hr a hra s1 e1 p1 p2 p3
     have ls:pP [fu rs]= .ok (fM rs):=rfl
     have bt2:mj [fM (rs++qs)]= .ok (fu (rs++qs)):=rfl
     refine fD (ρ' :=[.dat (fu rs), .dat (.int (k:Int)), .dat (.int (s1:Int)), .dat (.int (e1:Int)),k4, .dat (fL (sizes rs)), .dat (fJ r), .own (fM rs), .un]) (by simp! only [ls]) ?_
     have ex:=abj (i:=7) (g:=wV) (ms:=[(eE 5),(eE 6),(eE 2),(eE 3)]) (ρ:=[.dat (fu rs), .dat (.int (k:Int)), .dat (.int (s1:Int)), .dat (.int (e1:Int)),k4, .dat (fL (sizes rs)), .dat (fJ r), .own (fM rs), .un]) rfl (by simp! only [nM]) ac rfl
     refine fD (ρ' :=[.dat (fu rs), .dat (.int (k:Int)), .dat (.int (s1:Int)), .dat (.int (e1:Int)),k4, .dat (fL (sizes rs)), .dat (fJ r), .own (fM (rs++qs)), .dat (eZ n')]) (by simp only [oN,ex];rfl) ?_
     exact gU (by simp! only [bt2]) ⟨qs,n',rfl,g2,f2,⟨by omega,l2p⟩,n2,by rw [t2,p4],by omega,fun hz=>by
      have:=l2z (hz.elim (fun z=> .inl (p5 z)) fun z=> .inr (p6 z))
      exact⟨by omega,by omega,bf this.2.2 iZ⟩⟩
    cases r with
    |sign c=>
     left
     refine⟨by simp! only [ix,fJ,ig],k,_,_,_,_,rfl,hk,?_⟩
     simp only [Rule.size] at sz
     have e0:s=0:=by omega
     have e1:e=1:=by omega
     subst e0 e1
     rw [←ht,tx]
     rfl
    |join a b=>
     right
     have ha:a<rs.length:=by have:=ok.1;omega
     have hb:b<rs.length:=by have:=ok.2;omega
     have ixa:=ixs a ha
     have tl:((texts rs).getD a []).length=(sizes rs).getD a 0:=gW rs a
     simp only [Rule.size] at sz
     simp only [Rule.tx] at tx
     obtain⟨z,hzz⟩:∃z,z=(sizes rs).getD a 0:=⟨_,rfl⟩
     refine⟨by simp! only [ix,fJ,ig,js],?_⟩
     refine wH (ρ' :=[.dat (fu rs), .dat (.int (k:Int)), .dat (.int (s:Int)), .dat (.int (e:Int)),k4, .dat (fL (sizes rs)), .dat (fJ (.join a b)), .un, .un]) (by simp! only [ix]) ?_
     rw [←hzz] at ixa sz tl
     refine wH (ρ' :=[.dat (fu rs), .dat (.int (k:Int)), .dat (.int (s:Int)), .dat (.int (e:Int)), .dat (.int (z:Int)), .dat (fL (sizes rs)), .dat (fJ (.join a b)), .un, .un]) (by simp! only [fJ,iD,ixa]) ?_
     refine wH (ρ' :=[.dat (fu rs), .dat (.int (k:Int)), .dat (.int (s:Int)), .dat (.int (e:Int)), .dat (.int (z:Int)), .dat (fL (sizes rs)), .dat (fJ (.join a b)), .un, .un]) (by simp! only [fJ,ig,jt]) ?_
     by_cases h3:z≤s
     ·refine aa8 (by simp! only [show(z:Int)≤(s:Int) by omega]) (Ue ?_)
      refine iy (ρ' :=[.dat (fu rs), .dat (.int (k:Int)), .dat (.int ((s-z:Nat):Int)), .dat (.int (e:Int)), .dat (.int (z:Int)), .dat (fL (sizes rs)), .dat (fJ (.join a b)), .un, .un]) (by simp! only [show(s:Int)-(z:Int)=((s-z:Nat):Int) by omega]) ?_
      refine iy (ρ' :=[.dat (fu rs), .dat (.int (k:Int)), .dat (.int ((s-z:Nat):Int)), .dat (.int ((e-z:Nat):Int)), .dat (.int (z:Int)), .dat (fL (sizes rs)), .dat (fJ (.join a b)), .un, .un]) (by simp! only [show(e:Int)-(z:Int)=((e-z:Nat):Int) by omega]) ?_
      refine jE (ρ' :=[.dat (fu rs), .dat (.int (b:Int)), .dat (.int ((s-z:Nat):Int)), .dat (.int ((e-z:Nat):Int)), .dat (.int (z:Int)), .dat (fL (sizes rs)), .dat (fJ (.join a b)), .un, .un]) (by simp! only [fJ,nH]) ⟨b,ok.2,s-z,e-z,_,_,rfl,hb,by omega,by omega,?_,by have:=ok.2;omega,fun q=>by have:=iS q;omega,fun q=>by have:=iE q;omega,by omega⟩
      rw [←ht,tx,Ce (by omega) (by omega),tl]
     ·refine aaC (by simp! only [show¬(z:Int)≤(s:Int) by omega]) ?_
      by_cases h4:e≤z
      ·refine aa8 (by simp! only [show(e:Int)≤(z:Int) by omega]) (Ue (jE (ρ' :=[.dat (fu rs), .dat (.int (a:Int)), .dat (.int (s:Int)), .dat (.int (e:Int)), .dat (.int (z:Int)), .dat (fL (sizes rs)), .dat (fJ (.join a b)), .un, .un]) (by simp! only [fJ,iD]) ⟨a,ok.1,s,e,_,_,rfl,ha,h1,by omega,?_,by have:=ok.1;omega,iS,fun q=>by have:=iE q;have:=Pos.get g hb;omega,by omega⟩))
       rw [←ht,tx,yh (by omega)]
      ·exact aaC (by simp! only [show¬(e:Int)≤(z:Int) by omega]) (aa' (over a s e (.inl ⟨b,rfl⟩) (by omega) (by omega) h2 ht iS (fun q=> .inl (iE q)) _))
    |times a c=>
     right
     have ha:a<rs.length:=by have:=ok.1;omega
     have ixa:=ixs a ha
     have ap:=Pos.get g ha
     have tl:((texts rs).getD a []).length=(sizes rs).getD a 0:=gW rs a
     simp only [Rule.size] at sz
     simp only [Rule.tx] at tx
     obtain⟨z,hzz⟩:∃z,z=(sizes rs).getD a 0:=⟨_,rfl⟩
     have zb:=f.get a
     rw [←hzz] at ixa sz tl ap zb
     refine⟨by simp! only [ix,fJ,ig,ts],?_⟩
     refine wH (ρ' :=[.dat (fu rs), .dat (.int (k:Int)), .dat (.int (s:Int)), .dat (.int (e:Int)),k4, .dat (fL (sizes rs)), .dat (fJ (.times a c)), .un, .un]) (by simp! only [ix]) ?_
     refine wH (ρ' :=[.dat (fu rs), .dat (.int (k:Int)), .dat (.int (s:Int)), .dat (.int (e:Int)), .dat (.int (z:Int)), .dat (fL (sizes rs)), .dat (fJ (.times a c)), .un, .un]) (by simp! only [fJ,iD,ixa]) ?_
     obtain⟨w,hw⟩:∃w,w=s/z:=⟨_,rfl⟩
     obtain⟨y,hy⟩:∃y,y=s%z:=⟨_,rfl⟩
     have dv:=Nat.div_add_mod s z
     have y2:s%z<z:=Nat.mod_lt _ ap
     have w2:s/z≤s:=Nat.div_le_self _ _
     have wc:s/z<c:=(Nat.div_lt_iff_lt_mul ap).mpr (by rw [bT,←sz];omega)
     rw [←hw,←hy] at dv
     rw [←hy] at y2
     rw [←hw] at w2 wc
     have dd:jy (.int (s:Int)) (.int (z:Int))= .ok (.int (w:Int)):=by
      rw [lu (by omega) (by omega),hw]
      simp
     have dm:iz (.int (s:Int)) (.int (z:Int))= .ok (.int (y:Int)):=by
      rw [gR (by omega),hy]
      simp
     have mu:jZ (.int (w:Int)) (.int (z:Int))= .ok (.int ((w*z:Nat):Int)):=by
      rw [mJ (by omega) (by omega) (by omega) (by omega)]
      simp
     rw [bT] at dv
     have su:(e:Int)-((w*z:Nat):Int)=((e-w*z:Nat):Int):=by omega
     refine wH (ρ' :=[.dat (fu rs), .dat (.int (k:Int)), .dat (.int (y:Int)), .dat (.int ((e-w*z:Nat):Int)), .dat (.int (z:Int)), .dat (fL (sizes rs)), .dat (fJ (.times a c)), .un, .un]) (by simp! only [fJ,ig,dd,mu,su,dm]) ?_
     have hT1:stretch (aC (c-w) ((texts rs).getD a [])).flatten y (e-w*z)=T:=by
      rw [←ht,tx,Ui _ c s e (by rw [tl,bT,←sz];omega) (by omega) (by omega),tl,←hw,←hy]
     have cz:z*c=w*z+(c-w)*z:=by
      rw [←Nat.add_mul,bT]
      congr 1
      omega
     have iS' :s0=0→y=0:=fun q=>by rw [hy,iS q];exact Nat.zero_mod _
     have iE' :e0=kW rs (some k0)→e-w*z=(c-w)*z:=fun q=>by have:=iE q;omega
     refine aaC (by simp! only [show¬(z:Int)≤(y:Int) by omega]) ?_
     by_cases h4:e-w*z≤z
     ·refine aa8 (by simp! only [show((e-w*z:Nat):Int)≤(z:Int) by omega]) (Ue (jE (ρ' :=[.dat (fu rs), .dat (.int (a:Int)), .dat (.int (y:Int)), .dat (.int ((e-w*z:Nat):Int)), .dat (.int (z:Int)), .dat (fL (sizes rs)), .dat (fJ (.times a c)), .un, .un]) (by simp! only [fJ,iD]) ⟨a,ok.1,y,e-w*z,_,_,rfl,ha,by omega,by omega,?_,by have:=ok.1;omega,iS',fun q=>by
       have h5:=iE' q
       have h6:1*z≤(c-w)*z:=Nat.mul_le_mul_right z (by omega)
       rw [Nat.one_mul] at h6
       omega,by
       have h7:z≤z*c:=Nat.le_mul_of_pos_right z (by have:=ok.2.1;omega)
       omega⟩))
      rw [←hT1,show c-w=1+(c-w-1) by omega,Fo]
      have e7:(aC 1 ((texts rs).getD a [])).flatten=(texts rs).getD a []:=by simp
      rw [e7,yh (by omega)]
     ·refine aaC (by simp! only [show¬((e-w*z:Nat):Int)≤(z:Int) by omega]) (aa' (over a y (e-w*z) (.inr ⟨c,rfl⟩) (by omega) (by omega) (by omega) ?_ iS' (fun q=> .inr ⟨c,c-w,rfl,by rw [iE' q,hzz]⟩) _))
      rw [←hT1,tx,VN _ c (c-w) (by omega),yh (by rw [pQ,tl];omega)]
   ·rintro ρ ⟨k,d2,d3,k4,k6,rfl,hk,ht⟩
    exact gU (d:= .tuple [fu rs, .int (k:Int)]) (by simp! only [bt]) ⟨[],some k,by rw [aU];rfl,by rw [aU];exact g,by rw [aU];exact f,⟨by simp,by decide⟩,fX.some (by simp;omega),by rw [aU];exact ht,by simp,fun _=>⟨by simp,cG _,Pos.get g hk0⟩⟩
 obtain⟨d,hd,qs,n',rfl,h⟩:=wJ (ks:=[.dat, .dat, .dat, .dat]) (n:=5) (m:=QC) (ds:=[fu rs,eZ n, .int (s:Int), .int (e:Int)]) run
 exact⟨qs,n',hd,h⟩
end Sb
namespace Sb
open PySem PySem.Spec L2 Evl DL
def Ov:Rule→List Key
 | .sign c=>[.inr SIGN, .inr (s1 c)]
 | .join a b=>[.inr JOIN, .inl (a:Int), .inl (b:Int)]
 | .times a n=>[.inr TIMES, .inl (a:Int), .inl (n:Int)]
theorem Xv(r:Rule):bZ ((Ov r).map keyD)=fJ r:=by cases r<;>rfl
theorem rO(r:Rule):wL (fJ r)=some (Ov r):=by cases r<;>rfl
theorem Vz{r q:Rule}(h:Ov r=Ov q):r=q:=Hq (by rw [←Xv,←Xv,h])
def mH(qs:List Rule):List (D×D):=qs.zipIdx.map fun p=>(fJ p.1,aD ((p.2:Nat):Int))
theorem Gy(qs:List Rule)(r:Rule):mH (qs++[r])=mH qs++[(fJ r,aD ((qs.length:Nat):Int))]:=by
 unfold mH
 rw [List.zipIdx_append,cV]
 simp
theorem abz(qs:List Rule):(mH qs).length=qs.length:=by simp [mH]
theorem abi(r:Rule):∀qs:List Rule,(mH qs).any (fun q=>decide (wL q.1=some (Ov r)))=decide (r∈qs):=by
 refine snocInd (by simp [mH]) fun qs q ih=> ?_
 rw [Gy,List.any_append,ih]
 by_cases e:q=r
 ·subst e
  simp [rO]
 ·have k0:¬(wL (fJ q)=some (Ov r)):=fun z=>e (Vz (by rw [rO] at z;exact Option.some.inj z))
  have e' :¬r=q:=fun z=>e z.symm
  simp [k0,e']
theorem G7(r:Rule):∀qs:List Rule,(∀x:Nat,¬r∈qs→vN (mH qs) (Ov r)=none)∧(∀x:Nat,qs.Nodup→qs[x]? =some r→vN (mH qs) (Ov r)=some (.int ((x:Nat):Int))):=by
 refine snocInd ⟨fun _ _=>rfl,fun x _ h=>by simp at h⟩ fun qs q ih=> ?_
 unfold vN at ih⊢
 rw [Gy,List.find?_append]
 constructor
 ·intro x h
  have h1:¬r∈qs:=fun z=>h (by simp [z])
  have e:¬q=r:=fun z=>h (by simp [z])
  have k0:¬(wL (fJ q)=some (Ov r)):=fun z=>e (Vz (by rw [rO] at z;exact Option.some.inj z))
  have:=ih.1 0 h1
  rw [Option.map_eq_none_iff] at this
  rw [this]
  simp [k0]
 ·intro x nd h
  rw [cQ] at nd
  by_cases hx:x<qs.length
  ·rw [aO hx] at h
   have:=ih.2 x nd.1 h
   rw [aK] at this
   obtain⟨p,hp,e⟩:=this
   rw [hp]
   simp [e]
  ·have hl:=(aq.mp h).1
   have ex:x=qs.length:=by simp at hl;omega
   subst ex
   have eq:q=r:=by simpa using h
   subst eq
   have h1:¬q∈qs:=fun z=>nd.2.2 q z q (by simp) rfl
   have:=ih.1 0 h1
   rw [Option.map_eq_none_iff] at this
   rw [this]
   simp [rO]
theorem adA(qs:List Rule)(r:Rule)(nd:qs.Nodup):TQ true (fJ r) (tD (mH qs))= .ok (.bool (decide (¬r∈qs))):=by
 simp only [TQ,rO]
 congr 2
 by_cases h:r∈qs
 ·obtain⟨x,hx,e⟩:=List.getElem_of_mem h
  rw [(G7 r qs).2 x nd (by simp [hx,e])]
  simp [h]
 ·rw [(G7 r qs).1 0 h]
  simp [h]
theorem Ve(qs:List Rule)(r:Rule)(nd:qs.Nodup)(x:Nat)(hx:qs[x]? =some r):Ag (tD (mH qs)) (fJ r)= .ok (.int ((x:Nat):Int)):=by
 simp only [Ag,rO,(G7 r qs).2 x nd hx]
theorem Wr(qs:List Rule)(r:Rule)(h:¬r∈qs):LK (mH qs) (Ov r) (.int ((qs.length:Nat):Int))=mH (qs++[r]):=by
 unfold LK
 rw [abi,if_neg (by simp [h]),Xv,Gy]
theorem Yo{r:Rule}{f f' :Nat→Nat}(h:∀a∈r.parts,f a=f' a):r.o9 f=r.o9 f' :=by
 cases r with
 |sign c=>rfl
 |join a b=>rw [Rule.o9,Rule.o9,h a (by simp [Rule.parts]),h b (by simp [Rule.parts])]
 |times a n=>rw [Rule.o9,Rule.o9,h a (by simp [Rule.parts])]
theorem adN{r:Rule}{f:Nat→Nat}{ts ts' :List (List Nat)}(h:∀a∈r.parts,ts'.getD (f a) []=ts.getD a []):(r.o9 f).tx ts' =r.tx ts:=by
 cases r with
 |sign c=>rfl
 |join a b=>simp only [Rule.o9,Rule.tx,h a (by simp [Rule.parts]),h b (by simp [Rule.parts])]
 |times a n=>simp only [Rule.o9,Rule.tx,h a (by simp [Rule.parts])]
theorem aeh{r:Rule}{f:Nat→Nat}{i n:Nat}(ok:r.ok i)(h:∀a∈r.parts,f a<n):(r.o9 f).ok n:=by
 cases r with
 |sign c=>exact ok
 |join a b=>exact⟨h a (by simp [Rule.parts]),h b (by simp [Rule.parts])⟩
 |times a m=>exact⟨h a (by simp [Rule.parts]),ok.2⟩
structure Td(rs:List Rule)(ks:List Nat)(qs:List Rule)(f:Nat→Nat):Prop where
 g:Good qs
 fits:Fits MOST qs
 nd:qs.Nodup
 len:qs.length≤ks.length
 lt:∀i∈ks,f i<qs.length
 tx:∀i∈ks,(texts qs).getD (f i) []=(texts rs).getD i []
 row:∀i∈ks,∀r,rs[i]? =some r→qs[f i]? =some (r.o9 f)
 hit:∀x,x<qs.length→∃i∈ks,f i=x
theorem Td.step{rs:List Rule}(g:Good rs)(fr:Fits MOST rs){ks:List Nat}{qs:List Rule}{f:Nat→Nat}(h:Td rs ks qs f){i:Nat}{r:Rule}(hr:rs[i]? =some r)(hp:∀a∈r.parts,a∈ks)(hc:∀j∈ks,∀q,rs[j]? =some q→∀a∈q.parts,a∈ks)(hi:¬i∈ks):
 (∀x,qs[x]? =some (r.o9 f)→Td rs (ks++[i]) qs (fun y=>if y=i then x else f y))∧(¬r.o9 f∈qs→Td rs (ks++[i]) (qs++[r.o9 f]) (fun y=>if y=i then qs.length else f y)):=by
 have ok:=g i r hr
 have okr:(r.o9 f).ok qs.length:=aeh ok fun a ha=>h.lt a (hp a ha)
 have txr:(r.o9 f).tx (texts qs)=(texts rs).getD i []:=by
  rw [qP g hr]
  exact adN fun a ha=>h.tx a (hp a ha)
 have ne:∀a∈ks,¬a=i:=fun a ha z=>hi (by rw [←z];exact ha)
 have agree:∀(x:Nat) (q:Rule),(∀a∈q.parts,a∈ks)→q.o9 (fun y=>if y=i then x else f y)=q.o9 f:=fun x q hq=>Yo fun a ha=>by
  show(if a=i then x else f a)=f a
  rw [if_neg (ne a (hq a ha))]
 constructor
 ·intro x hx
  have hxl:=(aq.mp hx).1
  refine⟨h.g,h.fits,h.nd,by have:=h.len;simp;omega,fun j hj=> ?_,fun j hj=> ?_,fun j hj q hq=> ?_,fun y hy=> ?_⟩
  ·rcases aR.mp hj with hj|hj
   ·show(if j=i then x else f j)<_
    rw [if_neg (ne j hj)]
    exact h.lt j hj
   ·rw [aV.mp hj]
    show(if i=i then x else f i)<_
    rw [if_pos rfl]
    exact hxl
  ·rcases aR.mp hj with hj|hj
   ·show(texts qs).getD (if j=i then x else f j) []=_
    rw [if_neg (ne j hj)]
    exact h.tx j hj
   ·rw [aV.mp hj]
    show(texts qs).getD (if i=i then x else f i) []=_
    rw [if_pos rfl,qP h.g hx,txr]
  ·rcases aR.mp hj with hj|hj
   ·show qs[(if j=i then x else f j)]? =_
    rw [if_neg (ne j hj),agree x q (hc j hj q hq)]
    exact h.row j hj q hq
   ·have ej:=aV.mp hj
    subst ej
    rw [hr] at hq
    cases hq
    show qs[(if j=j then x else f j)]? =_
    rw [if_pos rfl,agree x r hp]
    exact hx
  ·obtain⟨j,hj,e⟩:=h.hit y hy
   exact⟨j,cA _ hj,by show(if j=i then x else f j)=y;rw [if_neg (ne j hj)];exact e⟩
 ·intro hn
  have gq:Good (qs++[r.o9 f]):=h.g.snoc okr
  have sz:(r.o9 f).size (sizes qs)≤MOST:=by
   have:=uR qs (r.o9 f)
   rw [←this,←gW,lH,txr,gW]
   exact fr.get i
  refine⟨gq,h.fits.snoc sz,?_,by have:=h.len;simp;omega,fun j hj=> ?_,fun j hj=> ?_,fun j hj q hq=> ?_,fun y hy=> ?_⟩
  ·rw [cQ]
   exact⟨h.nd,by simp,fun a ha b hb=>by
    rw [aV.mp hb]
    intro z
    rw [z] at ha
    exact hn ha⟩
  ·rcases aR.mp hj with hj|hj
   ·show(if j=i then qs.length else f j)<_
    rw [if_neg (ne j hj)]
    have:=h.lt j hj
    simp
    omega
   ·rw [aV.mp hj]
    show(if i=i then qs.length else f i)<_
    rw [if_pos rfl]
    simp
  ·rcases aR.mp hj with hj|hj
   ·show(texts (qs++[r.o9 f])).getD (if j=i then qs.length else f j) []=_
    rw [if_neg (ne j hj),iI (h.lt j hj)]
    exact h.tx j hj
   ·rw [aV.mp hj]
    show(texts (qs++[r.o9 f])).getD (if i=i then qs.length else f i) []=_
    rw [if_pos rfl,lH,txr]
  ·rcases aR.mp hj with hj|hj
   ·show(qs++[r.o9 f])[(if j=i then qs.length else f j)]? =_
    rw [if_neg (ne j hj),agree qs.length q (hc j hj q hq),aO (h.lt j hj)]
    exact h.row j hj q hq
   ·have ej:=aV.mp hj
    subst ej
    rw [hr] at hq
    cases hq
    show(qs++[r.o9 f])[(if j=j then qs.length else f j)]? =_
    rw [if_pos rfl,agree qs.length r hp]
    simp
  ·rw [au,cD] at hy
   by_cases e:y=qs.length
   ·exact⟨i,by simp,by show(if i=i then qs.length else f i)=y;rw [if_pos rfl,e]⟩
   ·obtain⟨j,hj,e2⟩:=h.hit y (by omega)
    exact⟨j,cA _ hj,by show(if j=i then qs.length else f j)=y;rw [if_neg (ne j hj)];exact e2⟩
theorem acQ(f:Nat→Nat)(i x:Nat)(ks:List Nat):nW (Gv (fun y=> .int ((f y:Nat):Int)) i (.int ((x:Nat):Int))) ks=nW (fun y=> .int (((if y=i then x else f y:Nat):Nat):Int)) ks:=Ay fun j _=>by
 unfold Gv
 split
 ·rfl
 ·rfl
theorem aaS(rs:List Rule)(g:Good rs)(f:Fits MOST rs)(hl:rs.length≤3000000)(n:Option Nat)(hn:fX rs n):∃ks qs fn,t8 rs n ks∧Td rs ks qs fn∧Iw rs ks=(qs,fn)∧Ht [fu rs,eZ n]= .ok (.tuple [fu qs,eZ (n.map fn)]):=by
 obtain⟨ks,ek,nk⟩:=Nt rs g hl n hn
 have nm:=JF rs n hn
 have kl:=nk.len
 obtain⟨L,hL⟩:∃L,L=fu rs:=⟨_,rfl⟩
 obtain⟨N,hN⟩:∃N,N=eZ n:=⟨_,rfl⟩
 have ixr:∀(a:Nat) r,rs[a]? =some r→gj L (.int (a:Int))= .ok (fJ r):=fun a r h=>by rw [hL];exact rN h
 rw [←hL,←hN] at ek nm
 have loop:Nx (mZ (iL (ni (fG nj [(eE 0),(eE 1)]))) (gN 5) (fK (gG 6 (fG lA [(eV gj (eE 0) (eE 5)),(gD 4)]))
 (fK (ju (eV (TQ true) (eE 6) (gD 3)) (J9 3 (eE 6) (jh 2 tQ [(eE 6)])) fZ)
 (mX 4 (eE 5) (eV Ag (gD 3) (eE 6))))) [.dat (L), .dat (N), .own (fM []), .own (tD (mH [])), .own (.dict (nW (fun y=> .int (((fun _=>0) y:Nat):Int)) (ks.take 0))), .un, .un]) fun ρ=>∃(qs:List Rule) (fn:Nat→Nat) (k5 k6:Sl),ρ=[.dat (L), .dat (N), .own (fM qs), .own (tD (mH qs)), .own (.dict (nW (fun y=> .int ((fn y:Nat):Int)) (ks.take (ks.map fun(i:Nat)=>aD (i:Int)).length))),k5,k6]∧Td rs (ks.take (ks.map fun(i:Nat)=>aD (i:Int)).length) qs fn∧Iw rs (ks.take (ks.map fun(i:Nat)=>aD (i:Int)).length)=(qs,fn):=by
  refine lZ (ds:=ks.map fun(i:Nat)=>aD (i:Int)) (fun j ρ=>∃(qs:List Rule) (fn:Nat→Nat) (k5 k6:Sl),ρ=[.dat (L), .dat (N), .own (fM qs), .own (tD (mH qs)), .own (.dict (nW (fun y=> .int ((fn y:Nat):Int)) (ks.take j))),k5,k6]∧Td rs (ks.take j) qs fn∧Iw rs (ks.take j)=(qs,fn)) (Rf (jM rfl rfl ek)) ⟨[],fun _=>0,_,_,rfl,⟨Good.nil,fun n hn=>by simp [sizes,Bc] at hn, .nil,by simp,fun i hi=>by simp at hi,fun i hi=>by simp at hi,fun i hi=>by simp at hi,fun x hx=>by simp at hx⟩,rfl⟩ ?_
  rintro j d ρ hd ⟨qs,fn,k5,k6,rfl,td,tf⟩
  rw [aH,aK] at hd
  obtain⟨i,h1,rfl⟩:=hd
  have him:i∈ks:=aX h1
  have hir:i<rs.length:=nk.lt i him
  have et:ks.take (j+1)=ks.take j++[i]:=by
   rw [bH,h1]
   rfl
  obtain⟨ahead,notin⟩:=Hj nk.rise h1
  have hr:rs[i]? =some rs[i]:=by simp [hir]
  obtain⟨r,er⟩:∃r,r=rs[i]:=⟨_,rfl⟩
  rw [←er] at hr
  have ok:=g i r hr
  have hp:∀a∈r.parts,a∈ks.take j:=fun a ha=>ahead a (nk.clo i him r hr a ha) (oU ok a ha)
  have hc:∀q∈ks.take j,∀p,rs[q]? =some p→∀a∈p.parts,a∈ks.take j:=fun q hq p hpq a ha=>by
   have hqk:q∈ks:=List.mem_of_mem_take hq
   have hqi:q<i:=by
    obtain⟨y,hy,e⟩:=List.mem_take_iff_getElem.mp hq
    have hj:=(aq.mp h1).1
    have hij:ks[j]=i:=(aq.mp h1).2
    have:=cJ.mp nk.rise y j (by omega) hj (by omega)
    omega
   have:=oU (g q p hpq) a ha
   exact ahead a (nk.clo q hqk p hpq a ha) (by omega)
  obtain⟨st1,st2⟩:=td.step g f hr hp hc notin
  have tf1:∀x,qs[x]? =some (r.o9 fn)→Iw rs (ks.take j++[i])=(qs,fun y=>if y=i then x else fn y):=fun x hx=>by
   rw [Ly,tf]
   exact abT hr td.nd hx
  have tf2:¬r.o9 fn∈qs→Iw rs (ks.take j++[i])=(qs++[r.o9 fn],fun y=>if y=i then qs.length else fn y):=fun hm=>by
   rw [Ly,tf]
   exact Z5 hr hm
  have tl:=td.len
  have tkl:(ks.take j).length≤3000000:=by rw [aY];omega
  have rn:=yM r i ok fn (.dict (nW (fun y=> .int ((fn y:Nat):Int)) (ks.take j))) (fun a ha=>by
   rw [Ho]
   simp only [jr,qF,if_true,DL.keyOf,xT _ a _ (hp a ha)])
  obtain⟨q,hq⟩:∃q,q=r.o9 fn:=⟨_,rfl⟩
  rw [←hq] at st1 st2 rn tf1 tf2
  have hz:∀F:Nat→D,(nW F (ks.take j)).length<sizeLine:=fun F=>by rw [Ke];exact lY (by omega)
  refine⟨_,nu,?_⟩
  simp only [set_0,jU]
  refine iy (ρ' :=[.dat (L), .dat (N), .own (fM qs), .own (tD (mH qs)), .own (.dict (nW (fun y=> .int ((fn y:Nat):Int)) (ks.take j))), .dat (.int (i:Int)), .dat (fJ q)]) (by simp! only [ixr i r hr,rn]) ?_
  have ki:=adA qs q td.nd
  rw [et]
  by_cases hin:q∈qs
  ·obtain⟨x,hx,ex⟩:=List.getElem_of_mem hin
   have hx2:qs[x]? =some q:=by simp [hx,ex]
   have kg:=Ve qs q td.nd x hx2
   rw [decide_eq_false (fun z=>z hin)] at ki
   refine iy (ρ' :=[.dat (L), .dat (N), .own (fM qs), .own (tD (mH qs)), .own (.dict (nW (fun y=> .int ((fn y:Nat):Int)) (ks.take j))), .dat (.int (i:Int)), .dat (fJ q)]) (by
    rw [vC (by simp only [lM,jO,kJ,vQ,zJ,gY];exact ki)]
    rfl) ?_
   refine jE (ρ' :=[.dat (L), .dat (N), .own (fM qs), .own (tD (mH qs)), .own (.dict (nW (fun y=> .int (((if y=i then x else fn y:Nat):Nat):Int)) (ks.take j++[i]))), .dat (.int (i:Int)), .dat (fJ q)]) ?_ ⟨qs,_,_,_,rfl,st1 x hx2,tf1 x hx2⟩
   have ev:eV Ag (gD 3) (eE 6) [.dat (L), .dat (N), .own (fM qs), .own (tD (mH qs)), .own (.dict (nW (fun y=> .int ((fn y:Nat):Int)) (ks.take j))), .dat (.int (i:Int)), .dat (fJ q)]= .ok (.int ((x:Nat):Int)):=by
    simp only [lM,jO,kJ,vQ,zJ,gY]
    exact kg
   simp only [mX,ev,jO,kJ,aQ,aG,DL.keyOf,hz,if_true,qF,Tw _ i _ _ notin,set_0,jU]
   rw [acQ]
  ·rw [decide_eq_true hin] at ki
   have pu:=K6 qs q (by omega)
   have nd2:=(st2 hin).nd
   have kg:=Ve (qs++[q]) q nd2 qs.length (by simp)
   have kz:(mH qs).length<sizeLine:=by rw [abz];exact lY (by omega)
   have ex:jh 2 tQ [(eE 6)] [.dat (L), .dat (N), .own (fM qs), .own (tD (mH qs)), .own (.dict (nW (fun y=> .int ((fn y:Nat):Int)) (ks.take j))), .dat (.int (i:Int)), .dat (fJ q)]= .ok (.int ((qs.length:Nat):Int)) [.dat (L), .dat (N), .own (fM (qs++[q])), .own (tD (mH qs)), .own (.dict (nW (fun y=> .int ((fn y:Nat):Int)) (ks.take j))), .dat (.int (i:Int)), .dat (fJ q)]:=by
    have ev:nM [(eE 6)] [.dat (L), .dat (N), .own (fM qs), .own (tD (mH qs)), .own (.dict (nW (fun y=> .int ((fn y:Nat):Int)) (ks.take j))), .dat (.int (i:Int)), .dat (fJ q)]= .ok [fJ q]:=by simp! only [nM]
    simp only [jh,aG,aQ,ev,pu]
    rfl
   refine iy (ρ' :=[.dat (L), .dat (N), .own (fM (qs++[q])), .own (tD (mH (qs++[q]))), .own (.dict (nW (fun y=> .int ((fn y:Nat):Int)) (ks.take j))), .dat (.int (i:Int)), .dat (fJ q)]) (by
    rw [CP (by simp only [lM,jO,kJ,vQ,zJ,gY];exact ki)]
    simp only [J9,ex,jO,kJ,aQ,aG,rO,kz,if_true,Wr qs q hin,set_0,jU]) ?_
   refine jE (ρ' :=[.dat (L), .dat (N), .own (fM (qs++[q])), .own (tD (mH (qs++[q]))), .own (.dict (nW (fun y=> .int (((if y=i then qs.length else fn y:Nat):Nat):Int)) (ks.take j++[i]))), .dat (.int (i:Int)), .dat (fJ q)]) ?_ ⟨qs++[q],_,_,_,rfl,st2 hin,tf2 hin⟩
   have ev:eV Ag (gD 3) (eE 6) [.dat (L), .dat (N), .own (fM (qs++[q])), .own (tD (mH (qs++[q]))), .own (.dict (nW (fun y=> .int ((fn y:Nat):Int)) (ks.take j))), .dat (.int (i:Int)), .dat (fJ q)]= .ok (.int ((qs.length:Nat):Int)):=by
    simp only [lM,jO,kJ,vQ,zJ,gY]
    exact kg
   simp only [mX,ev,jO,kJ,aQ,aG,DL.keyOf,hz,if_true,qF,Tw _ i _ _ notin,set_0,jU]
   rw [acQ]
 rw [aA,bV] at loop
 obtain⟨ρ1,lo,qs,fn,k5,k6,rfl,td,tf⟩:=loop
 refine⟨ks,qs,fn,nk,td,tf,?_⟩
 have key:∀d,pW (gD 4) (eE 1) [.dat (L), .dat (N), .own (fM qs), .own (tD (mH qs)), .own (.dict (nW (fun y=> .int ((fn y:Nat):Int)) ks)),k5,k6]= .ok d→Ht [L,N]= .ok (.tuple [fu qs,d]):=fun d hd=>by
  refine jg ?_
  show Rt (W8 [.dat (L), .dat (N), .un, .un, .un, .un, .un]) _
  unfold W8
  refine fD (ρ' :=[.dat (L), .dat (N), .un, .un, .un, .un, .un]) (Ro (jM rfl rfl nm)) ?_
  refine fD (ρ' :=[.dat (L), .dat (N), .own (fM []), .un, .un, .un, .un]) (by simp! only [];rfl) ?_
  refine fD (ρ' :=[.dat (L), .dat (N), .own (fM []), .own (tD (mH [])), .un, .un, .un]) rfl ?_
  refine fD (ρ' :=[.dat (L), .dat (N), .own (fM []), .own (tD (mH [])), .own (.dict (nW (fun y=> .int (((fun _=>0) y:Nat):Int)) (ks.take 0))), .un, .un]) rfl ?_
  refine fD lo ?_
  have bt:mj [fM qs]= .ok (fu qs):=rfl
  exact gU (by simp! only [hd,bt]) rfl
 rw [←hL,←hN]
 cases n with
 |none=>
  refine key .none ?_
  rw [hN]
  simp! only [pW,eZ,qF,if_true]
  rfl
 |some k=>
  have hk:=nk.2.top
  refine key _ ?_
  rw [hN]
  simp! only [pW,eZ,QF,Ja,qF,if_true,DL.keyOf,xT _ k _ hk]
  rfl
theorem adC(rs:List Rule)(g:Good rs)(f:Fits MOST rs)(hl:rs.length≤3000000)(n:Option Nat)(hn:fX rs n):∃ks qs fn,t8 rs n ks∧Td rs ks qs fn∧Ht [fu rs,eZ n]= .ok (.tuple [fu qs,eZ (n.map fn)]):=by
 obtain⟨ks,qs,fn,a,b,_,c⟩:=aaS rs g f hl n hn
 exact⟨ks,qs,fn,a,b,c⟩
end Sb
namespace Sb
open PySem PySem.Spec L2 Evl DL
theorem Uv(c:Int)(h0:0≤c)(h1:c<10 ^ 100)(n:Nat)(hn:1≤n)(hm:n≤2 ^ 100):∃p:Nat,p<n∧mO [.int c, .int (n:Int)]= .ok (.int (p:Int)):=by
 by_cases e0:c%4=0
 ·have a0:=bM (c/4) (show min (n:Int) 3≠0 by omega)
  have a1:=bK (c/4) (show(0:Int)<min (n:Int) 3 by omega)
  refine⟨(c/4%min (n:Int) 3).toNat,by omega,?_⟩
  rw [Int.toNat_of_nonneg a0]
  simp(disch:=omega) only [mO,uo,jF,jV,aC,fK,ju,gH,gG,j9,qW,lV,oE,sS,eIf,dU,Int.reduceLT,Int.reduceLE,Int.reduceEq,cH,cP,aA,beq_self_eq_true,Z4,lu,mJ,gR,sU,BW,Int.reducePow,Int.reduceToNat,Int.reduceNeg,Int.reduceAdd,Int.reduceSub,Int.reduceMul,Int.reduceDiv,Int.reduceMod,e0]
 ·by_cases e1:c%4=1
  ·have a0:=bM (c/4) (show min (n:Int) 3≠0 by omega)
   have a1:=bK (c/4) (show(0:Int)<min (n:Int) 3 by omega)
   refine⟨((n:Int)-1-c/4%min (n:Int) 3).toNat,by omega,?_⟩
   rw [Int.toNat_of_nonneg (by omega)]
   simp(disch:=omega) only [mO,uo,jF,jV,aC,fK,ju,gH,gG,j9,qW,lV,oE,sS,eIf,dU,Int.reduceLT,Int.reduceLE,Int.reduceEq,cH,cP,aA,beq_self_eq_true,Z4,lu,mJ,gR,sU,BW,Int.reducePow,Int.reduceToNat,Int.reduceNeg,Int.reduceAdd,Int.reduceSub,Int.reduceMul,Int.reduceDiv,Int.reduceMod,e0,e1]
  ·have a0:=bM (c/4*1152921504606846883) (show(n:Int)≠0 by omega)
   have a1:=bK (c/4*1152921504606846883) (show(0:Int)<(n:Int) by omega)
   refine⟨(c/4*1152921504606846883%(n:Int)).toNat,by omega,?_⟩
   rw [Int.toNat_of_nonneg a0]
   simp(disch:=omega) only [mO,uo,jF,jV,aC,fK,ju,gH,gG,j9,qW,lV,oE,sS,eIf,dU,Int.reduceLT,Int.reduceLE,Int.reduceEq,cH,cP,aA,beq_self_eq_true,Z4,lu,mJ,gR,sU,BW,Int.reducePow,Int.reduceToNat,Int.reduceNeg,Int.reduceAdd,Int.reduceSub,Int.reduceMul,Int.reduceDiv,Int.reduceMod,e0,e1]
end Sb
namespace Sb
open PySem PySem.Spec L2 Evl DL
theorem abC{ns:List Int}(hb:∀z∈ns,Builtin.Int.intBits z≤1048576)(k:Nat)(hk:k≤1000):∃c:Int,mK [.list (ns.map aD), .int (k:Int)]= .ok (.int c)∧0≤c∧c<10 ^ 40:=by
 have hp:rK (.int 10) (.int 40)= .ok (.int (10 ^ 40)):=sU (by decide) (by decide) (by decide)
 have hM:(0:Int)<10 ^ 40:=by decide
 have e0:∀z:Int,0≤z%10 ^ 40∧z%10 ^ 40<10 ^ 40:=fun z=>⟨bM _ (by decide),bK _ hM⟩
 by_cases h:k<ns.length
 ·have hi:=Gm (ns:=ns) (i:=(k:Int)) (by omega) (by omega)
  have hm:=aat (i:=ns[k]) (j:=2718281828459045235360287471352662497757) 132 (hb _ (dG h)) (by decide)
  simp only [cZ] at hi
  have hlt:(k:Int)<(ns.length:Int):=by omega
  have mw:=mJ (i:=ns[k]%10 ^ 40) (j:=2718281828459045235360287471352662497757) (by have:=(e0 ns[k]).1;omega) (by have:=(e0 ns[k]).2;omega) (by decide) (by decide)
  first
  |(refine⟨ns[k]*2718281828459045235360287471352662497757%10 ^ 40,?_,(e0 _).1,(e0 _).2⟩
    simp! only [mK,qU,hlt,hi,hm,hp,gR hM]
    done)
  |(refine⟨ns[k]%10 ^ 40*2718281828459045235360287471352662497757%10 ^ 40,?_,(e0 _).1,(e0 _).2⟩
    simp! only [mK,qU,hlt,hi,mw,hp,gR hM]
    done)
 ·have hge:¬(k:Int)<(ns.length:Int):=by omega
  obtain⟨L,hL⟩:∃L,L=di (ns.map aD):=⟨_,rfl⟩
  have lenL:je [L]= .ok (.int ns.length):=by rw [hL];simp
  have kk0:(0:Int)≤(k:Int)*k:=Int.mul_nonneg (by omega) (by omega)
  have kk1:(k:Int)*k≤1000*1000:=Int.mul_le_mul (by omega) (by omega) (by omega) (by omega)
  have kkk0:(0:Int)≤(k:Int)*k*k:=Int.mul_nonneg kk0 (by omega)
  have kkk1:(k:Int)*k*k≤1000*1000*1000:=Int.mul_le_mul (by omega) (by omega) (by omega) (by omega)
  obtain⟨N,hN0,hN1,hN⟩:∃N:Int,0≤N∧N<10 ^ 60∧ju (eV TY (fG je [(eE 0)]) (eC (.int 0))) (gG 2 (eV jw (eE 2) (eV jZ (eV iz (eV gj (eE 0) (eV iz (eV jZ (eE 1) (eC (.int 7))) (fG je [(eE 0)]))) (eV rK (eC (.int 10)) (eC (.int 40)))) (eV jw (eC (.int 48271)) (eV jZ (eC (.int 2)) (eE 1)))))) fZ [.dat (L), .dat (.int (k:Int)), .dat (.int ((k:Int)*k*7919+5))]= .nx [.dat (L), .dat (.int (k:Int)), .dat (.int N)]:=by
   by_cases hl:ns.length=0
   ·exact⟨(k:Int)*k*7919+5,by omega,by omega,by simp! only [lenL,show¬(0:Int)<(ns.length:Int) by omega]⟩
   ·have hpos:(0:Int)<(ns.length:Int):=by omega
    have i0:0≤(k:Int)*7%(ns.length:Int):=bM _ (by omega)
    have i1:(k:Int)*7%(ns.length:Int)<(ns.length:Int):=bK _ hpos
    have hi:=Gm (ns:=ns) i0 i1
    rw [←hL] at hi
    obtain⟨v,hv⟩:∃v,v=ns[((k:Int)*7%(ns.length:Int)).toNat]'(by omega):=⟨_,rfl⟩
    rw [←hv] at hi
    have r:=e0 v
    obtain⟨u,hu⟩:∃u,u=v%10 ^ 40:=⟨_,rfl⟩
    have mv:iz (.int v) (.int (10 ^ 40))= .ok (.int u):=by rw [gR hM,hu]
    rw [←hu] at r
    have um:(0:Int)≤u*(48271+2*(k:Int)):=Int.mul_nonneg r.1 (by omega)
    have um2:u*(48271+2*(k:Int))≤10 ^ 40*(48271+2000):=Int.mul_le_mul (by omega) (by omega) (by omega) (by omega)
    refine⟨(k:Int)*k*7919+5+u*(48271+2*(k:Int)),by omega,by omega,?_⟩
    have m3:jZ (.int (k:Int)) (.int 7)= .ok (.int ((k:Int)*7)):=mJ (by omega) (by omega) (by omega) (by omega)
    have m4:jZ (.int 2) (.int (k:Int))= .ok (.int (2*(k:Int))):=mJ (by omega) (by omega) (by omega) (by omega)
    have m5:jZ (.int u) (.int (48271+2*(k:Int)))= .ok (.int (u*(48271+2*(k:Int)))):=mJ (by omega) (by omega) (by omega) (by omega)
    simp! only [lenL,hpos,m3,gR hpos,hi,hp,mv,m4,m5]
  have m1:jZ (.int (k:Int)) (.int (k:Int))= .ok (.int ((k:Int)*k)):=mJ (by omega) (by omega) (by omega) (by omega)
  have m2:jZ (.int ((k:Int)*k)) (.int 7919)= .ok (.int ((k:Int)*k*7919)):=mJ (by omega) (by omega) (by omega) (by omega)
  have m3:jZ (.int ((k:Int)*k)) (.int (k:Int))= .ok (.int ((k:Int)*k*k)):=mJ (by omega) (by omega) (by omega) (by omega)
  have mN:jZ (.int N) (.int N)= .ok (.int (N*N)):=mJ (by omega) (by omega) (by omega) (by omega)
  have P0:=bM (N*N) (show(2147483629:Int)≠0 by decide)
  have P1:=bK (N*N) (show(0:Int)<2147483629 by decide)
  have mP:iz (.int (N*N)) (.int 2147483629)= .ok (.int (N*N%2147483629)):=gR (by decide)
  obtain⟨M,hMM⟩:∃M,M=N*N%2147483629:=⟨_,rfl⟩
  rw [←hMM] at P0 P1 mP
  have m6:jZ (.int (M+(k:Int)*k*k+16807)) (.int (M+69621))= .ok (.int ((M+(k:Int)*k*k+16807)*(M+69621))):=mJ (by omega) (by omega) (by omega) (by omega)
  obtain⟨U,hU⟩:∃U,U=(M+(k:Int)*k*k+16807)*(M+69621):=⟨_,rfl⟩
  rw [←hU] at m6
  have Q0:=bM U (show(4611686018427387847:Int)≠0 by decide)
  have Q1:=bK U (show(0:Int)<4611686018427387847 by decide)
  have mQ:iz (.int U) (.int 4611686018427387847)= .ok (.int (U%4611686018427387847)):=gR (by decide)
  have m7:jZ (.int (U%4611686018427387847)) (.int 2718281828459045235360287471352662497757)= .ok (.int (U%4611686018427387847*2718281828459045235360287471352662497757)):=mJ (by omega) (by omega) (by omega) (by omega)
  refine⟨U%4611686018427387847*2718281828459045235360287471352662497757%10 ^ 40,?_,(e0 _).1,(e0 _).2⟩
  rw [←hL]
  refine jg ?_
  show Rt (qU [.dat (L), .dat (.int (k:Int)), .un]) _
  unfold qU
  refine fD (ρ' :=[.dat (L), .dat (.int (k:Int)), .un]) (by simp! only [lenL,hge]) ?_
  refine fD (ρ' :=[.dat (L), .dat (.int (k:Int)), .dat (.int ((k:Int)*k*7919+5))]) (by simp! only [m1,m2]) ?_
  refine fD hN ?_
  refine fD (ρ' :=[.dat (L), .dat (.int (k:Int)), .dat (.int M)]) (by simp! only [mN,mP]) ?_
  refine fD (ρ' :=[.dat (L), .dat (.int (k:Int)), .dat (.int (U%4611686018427387847))]) (by simp! only [m1,m3,m6,mQ]) ?_
  exact gU (by simp! only [m7,hp,gR hM]) rfl
theorem abJ{ns:List Int}(hlen:ns.length≤63)(hb:∀z∈ns,Builtin.Int.intBits z≤1048576)(a most:Nat)(ham:a≤most)(hm:most≤900):
 ∃ds:List Int,ug [.list (ns.map aD), .int (a:Int), .int (most:Int)]= .ok (.list (ds.map aD))∧a≤ds.length∧ds.length≤most∧∀c∈ds,0≤c∧c<10 ^ 40:=by
 have hp:rK (.int 10) (.int 40)= .ok (.int (10 ^ 40)):=sU (by decide) (by decide) (by decide)
 obtain⟨L,hL⟩:∃L,L=di (ns.map aD):=⟨_,rfl⟩
 have lenL:je [L]= .ok (.int ns.length):=by rw [hL];simp
 have ls:pP [L]= .ok (.list (ns.map aD)):=by rw [hL];rfl
 have mx:∀k:Nat,k≤1000→∃c:Int,mK [L, .int (k:Int)]= .ok (.int c)∧0≤c∧c<10 ^ 40:=fun k hk=>by rw [hL];exact abC hb k hk
 have run:Rt (uF [.dat (L), .dat (.int (a:Int)), .dat (.int (most:Int)), .un, .un, .un, .un]) (fun d=>∃ds:List Int,d= .list (ds.map aD)∧a≤ds.length∧ds.length≤most∧∀c∈ds,0≤c∧c<10 ^ 40):=by
  unfold uF
  refine fD (ρ' :=[.dat (L), .dat (.int (a:Int)), .dat (.int (most:Int)), .own (.list (ns.map aD)), .un, .un, .un]) (by simp! only [ls]) ?_
  refine aeE (M:=fun ρ=>∃k3 k4 k5 k6:Sl,ρ=[.dat (L), .dat (.int (a:Int)), .dat (.int (most:Int)),k3,k4,k5,k6]) ?_ ?_
  ·by_cases h0:ns.length=0
   ·exact aaC (by simp! only [show¬(0:Int)<(ns.length:Int) by omega]) (Ue (jE rfl ⟨_,_,_,_,rfl⟩))
   refine aa8 (by simp! only [show(0:Int)<(ns.length:Int) by omega]) ?_
   have x0:=Gm (ns:=ns) (i:=0) (by decide) (by omega)
   obtain⟨v,hv⟩:∃v,v=ns[(0:Int).toNat]'(by simp;omega):=⟨_,rfl⟩
   rw [←hv] at x0
   have d0:=bM v (show((most:Int)-(a:Int)+1)≠0 by omega)
   have d1:=bK v (show(0:Int)<(most:Int)-(a:Int)+1 by omega)
   obtain⟨many,hmany⟩:∃many:Nat,(many:Int)=(a:Int)+v%((most:Int)-(a:Int)+1):=⟨((a:Int)+v%((most:Int)-(a:Int)+1)).toNat,by omega⟩
   refine wH (ρ' :=[.dat (L), .dat (.int (a:Int)), .dat (.int (most:Int)), .own (.list (ns.map aD)), .dat (.int (many:Int)), .un, .un]) (by dsimp! only [x0,gR,hmany]) ?_
   obtain⟨cs,hcs⟩:∃cs:List Int,cs=ns.set 0 (v/((most:Int)-(a:Int)+1)):=⟨_,rfl⟩
   have csl:cs.length=ns.length:=by rw [hcs];simp
   refine wH (ρ' :=[.dat (L), .dat (.int (a:Int)), .dat (.int (most:Int)), .own (.list (cs.map aD)), .dat (.int (many:Int)), .un, .un]) (by
    have ev:eV jy (eV gj (gD 3) (eC (.int 0))) (eV jw (eV pH (eE 2) (eE 1)) (eC (.int 1))) [.dat (L), .dat (.int (a:Int)), .dat (.int (most:Int)), .own (.list (ns.map aD)), .dat (.int (many:Int)), .un, .un]= .ok (.int (v/((most:Int)-(a:Int)+1))):=by dsimp! only [x0,lu]
    have ix:ixN (ns.map aD).length 0=some 0:=by
     unfold ixN
     rw [aA,if_pos (by decide),if_pos (by omega)]
     rfl
    simp only [Ko,ev,Ze,aQ,aG,ix,set_0,jU,hcs]
    rw [List.map_set]) ?_
   refine wH (ρ' :=[.dat (L), .dat (.int (a:Int)), .dat (.int (most:Int)), .own (.list (cs.map aD)), .dat (.int (many:Int)), .own (.list (([]:List Int).map aD)), .un]) (by simp! only [];rfl) ?_
   have loop:=lZ (mi:=HD (eE 4)) (g:=gN 6) (body:=fK (qK 5 (eV iz (eV gj (gD 3) (eV iz (eE 6) (fG je [(gD 3)]))) (eV rK (eC (.int 10)) (eC (.int 40)))))
 (Ko 3 (eV iz (eE 6) (fG je [(gD 3)])) (eV jy (eV gj (gD 3) (eV iz (eE 6) (fG je [(gD 3)]))) (eV rK (eC (.int 10)) (eC (.int 40))))))
    (ρ:=[.dat (L), .dat (.int (a:Int)), .dat (.int (most:Int)), .own (.list (cs.map aD)), .dat (.int (many:Int)), .own (.list (([]:List Int).map aD)), .un]) (ds:=(bU many).map fun(i:Nat)=>aD (i:Int))
    (fun i ρ=>∃(cs ds:List Int) (k6:Sl),ρ=[.dat (L), .dat (.int (a:Int)), .dat (.int (most:Int)), .own (.list (cs.map aD)), .dat (.int (many:Int)), .own (.list (ds.map aD)),k6]∧cs.length=ns.length∧ds.length=i∧∀c∈ds,0≤c∧c<10 ^ 40)
    (by rw [←vz];exact Gi rfl (by omega) (by omega)) ⟨cs,[],_,rfl,csl,rfl,fun c hc=>absurd hc bD⟩ (by
     rintro i d ρ hd ⟨cs,ds,k6,rfl,csl,dsl,hds⟩
     rw [aH,aK] at hd
     obtain⟨j,h1,rfl⟩:=hd
     have hi:=(aq.mp h1).1
     have hij:j=i:=by
      have:=(aq.mp h1).2
      simpa using this.symm
     subst hij
     have hj:j<many:=by simpa using hi
     have p0:(0:Int)<(cs.length:Int):=by omega
     have y0:=bM (j:Int) (show(cs.length:Int)≠0 by omega)
     have y1:=bK (j:Int) p0
     have hx:=Gm (ns:=cs) y0 y1
     obtain⟨u,hu⟩:∃u,u=cs[((j:Int)%(cs.length:Int)).toNat]'(by omega):=⟨_,rfl⟩
     rw [←hu] at hx
     have r0:=bM u (show(10 ^ 40:Int)≠0 by decide)
     have r1:=bK u (show(0:Int)<10 ^ 40 by decide)
     refine⟨_,nu,?_⟩
     refine iy (ρ' :=[.dat (L), .dat (.int (a:Int)), .dat (.int (most:Int)), .own (.list (cs.map aD)), .dat (.int (many:Int)), .own (.list ((ds++[u%10 ^ 40]).map aD)), .dat (.int (j:Int))]) (by
      rw [app_ok (ds:=ds.map aD) (d:= .int (u%10 ^ 40)) rfl (by simp! only [gR p0,hx,hp,gR (show(0:Int)<10 ^ 40 by decide)]) (by rw [aA];exact lY (by omega))]
      simp) ?_
     refine jE (ρ' :=[.dat (L), .dat (.int (a:Int)), .dat (.int (most:Int)), .own (.list ((cs.set ((j:Int)%(cs.length:Int)).toNat (u/10 ^ 40)).map aD)), .dat (.int (many:Int)), .own (.list ((ds++[u%10 ^ 40]).map aD)), .dat (.int (j:Int))]) ?_ ⟨_,_,_,rfl,by simp [csl],by simp [dsl],fun c hc=> ?_⟩
     ·have ev:eV jy (eV gj (gD 3) (eV iz (eE 6) (fG je [(gD 3)]))) (eV rK (eC (.int 10)) (eC (.int 40))) [.dat (L), .dat (.int (a:Int)), .dat (.int (most:Int)), .own (.list (cs.map aD)), .dat (.int (many:Int)), .own (.list ((ds++[u%10 ^ 40]).map aD)), .dat (.int (j:Int))]= .ok (.int (u/10 ^ 40)):=by simp! only [gR p0,hx,hp,lu (i:=u) (show(0:Int)<10 ^ 40 by decide) (by decide)]
      have ek:eV iz (eE 6) (fG je [(gD 3)]) [.dat (L), .dat (.int (a:Int)), .dat (.int (most:Int)), .own (.list (cs.map aD)), .dat (.int (many:Int)), .own (.list ((ds++[u%10 ^ 40]).map aD)), .dat (.int (j:Int))]= .ok (.int ((j:Int)%(cs.length:Int))):=by simp! only [gR p0]
      have ix:ixN (cs.map aD).length ((j:Int)%(cs.length:Int))=some ((j:Int)%(cs.length:Int)).toNat:=by
       unfold ixN
       rw [aA,if_pos y0,if_pos y1]
      simp only [Ko,ev,ek,aQ,aG,ix,set_0,jU]
      rw [List.map_set]
     ·rcases aR.mp hc with h|h
      ·exact hds c h
      ·have:c=u%10 ^ 40:=by simpa using h
       rw [this]
       exact⟨r0,r1⟩)
   obtain⟨ρ1,lo,cs2,ds,k6,rfl,c2l,dsl,hds⟩:=loop
   rw [aA,cM] at dsl
   refine wH lo ?_
   obtain⟨c0,ct,hct⟩:∃c0 ct,cs2=c0::ct:=by
    cases cs2 with
    |nil=>
     simp at c2l
     omega
    |cons x y=>exact⟨x,y,rfl⟩
   have mi:Nq [.list (cs2.map aD)]= .ok (.int (Oz c0 ct)):=by
    simp only [Nq,Dk,hct]
   by_cases hmi:0<Oz c0 ct
   ·exact aa8 (by simp! only [mi,hmi]) (aa' (adm rfl ⟨ds,rfl,by omega,by omega,hds⟩))
   ·exact aaC (by simp! only [mi,hmi]) (Ue (jE rfl ⟨_,_,_,_,rfl⟩))
  ·rintro ρ ⟨k3,k4,k5,k6,rfl⟩
   obtain⟨fm,hfm⟩:∃fm:Nat→Int,∀k:Nat,k≤1000→mK [L, .int (k:Int)]= .ok (.int (fm k))∧0≤fm k∧fm k<10 ^ 40:=by
    refine⟨fun k=>if h:k≤1000 then Classical.choose (mx k h) else 0,fun k hk=> ?_⟩
    simp only [hk,dif_pos]
    exact Classical.choose_spec (mx k hk)
   have lc:Oc (HD (fG Jw [(eE 1),(fG Kl [(eE 2),(fG je [(eE 0)])])])) (gN 6) (eC (.bool true)) (fG mK [(eE 0),(eE 6)]) [6] [.dat (L), .dat (.int (a:Int)), .dat (.int (most:Int)),k3,k4,k5,k6]= .ok (.list (((bU (max a (min most ns.length))).map fm).map aD)):=by
    rw [bY]
    refine GZ (fun(i:Nat)=> .int (i:Int)) _ ?_ ?_ (by simp only [cM];exact tG (by omega))
    ·rw [←vz]
     refine Gi ?_ (by omega) (by omega)
     simp! only [lenL]
     congr 2
     omega
    ·intro k hk
     rw [List.mem_range] at hk
     refine⟨_,rfl,rfl,?_⟩
     refine jM (x:=L) (y:= .int (k:Int)) rfl ?_ (hfm k (by omega)).1
     simp! only [rM]
   refine⟨_,ret_ok lc,(bU (max a (min most ns.length))).map fm,rfl,by simp;omega,by simp;omega,fun c hc=> ?_⟩
   obtain⟨k,hk,rfl⟩:=cC.mp hc
   rw [List.mem_range] at hk
   exact(hfm k (by omega)).2
 obtain⟨d,hd,ds,rfl,h⟩:=wJ (ks:=[.dat, .dat, .dat]) (n:=4) (m:=uF) (ds:=[L, .int (a:Int), .int (most:Int)]) run
 exact⟨ds,by rw [←hL];exact hd,h⟩
end Sb
namespace Sb
open PySem PySem.Spec L2 Evl DL
abbrev pJ:Str:="is"
abbrev jJ:Str:="join"
abbrev jm:Str:="times"
abbrev lD:Str:="cut"
abbrev jN:Str:="turn"
abbrev lF:Str:="put"
abbrev iH:Str:="insert"
abbrev ir:Str:="remove"
theorem aaJ:¬(pJ=jJ):=by decide+kernel
theorem WW:¬(pJ=jm):=by decide+kernel
theorem abO:¬(pJ=lD):=by decide+kernel
theorem ZX:¬(pJ=jN):=by decide+kernel
theorem ac2:¬(pJ=lF):=by decide+kernel
theorem U3:¬(pJ=iH):=by decide+kernel
theorem Uz:¬(pJ=ir):=by decide+kernel
theorem Z9:¬(jJ=pJ):=by decide+kernel
theorem SN:¬(jJ=jm):=by decide+kernel
theorem Ye:¬(jJ=lD):=by decide+kernel
theorem U6:¬(jJ=jN):=by decide+kernel
theorem W4:¬(jJ=lF):=by decide+kernel
theorem OD:¬(jJ=iH):=by decide+kernel
theorem Oo:¬(jJ=ir):=by decide+kernel
theorem X5:¬(jm=pJ):=by decide+kernel
theorem Rw:¬(jm=jJ):=by decide+kernel
theorem VD:¬(jm=lD):=by decide+kernel
theorem RK:¬(jm=jN):=by decide+kernel
theorem T8:¬(jm=lF):=by decide+kernel
theorem Km:¬(jm=iH):=by decide+kernel
theorem Ku:¬(jm=ir):=by decide+kernel
theorem abG:¬(lD=pJ):=by decide+kernel
theorem XJ:¬(lD=jJ):=by decide+kernel
theorem Ur:¬(lD=jm):=by decide+kernel
theorem Xm:¬(lD=jN):=by decide+kernel
theorem aaM:¬(lD=lF):=by decide+kernel
theorem Q9:¬(lD=iH):=by decide+kernel
theorem RN:¬(lD=ir):=by decide+kernel
theorem aao:¬(jN=pJ):=by decide+kernel
theorem Wc:¬(jN=jJ):=by decide+kernel
theorem RJ:¬(jN=jm):=by decide+kernel
theorem Xy:¬(jN=lD):=by decide+kernel
theorem WY:¬(jN=lF):=by decide+kernel
theorem Og:¬(jN=iH):=by decide+kernel
theorem Ou:¬(jN=ir):=by decide+kernel
theorem abA:¬(lF=pJ):=by decide+kernel
theorem Xc:¬(lF=jJ):=by decide+kernel
theorem U0:¬(lF=jm):=by decide+kernel
theorem aau:¬(lF=lD):=by decide+kernel
theorem WN:¬(lF=jN):=by decide+kernel
theorem Rx:¬(lF=iH):=by decide+kernel
theorem Ri:¬(lF=ir):=by decide+kernel
theorem Ul:¬(iH=pJ):=by decide+kernel
theorem Ol:¬(iH=jJ):=by decide+kernel
theorem JW:¬(iH=jm):=by decide+kernel
theorem QJ:¬(iH=lD):=by decide+kernel
theorem Om:¬(iH=jN):=by decide+kernel
theorem RX:¬(iH=lF):=by decide+kernel
theorem Jj:¬(iH=ir):=by decide+kernel
theorem Vb:¬(ir=pJ):=by decide+kernel
theorem Oe:¬(ir=jJ):=by decide+kernel
theorem M7:¬(ir=jm):=by decide+kernel
theorem Rm:¬(ir=lD):=by decide+kernel
theorem Oi:¬(ir=jN):=by decide+kernel
theorem Tn:¬(ir=lF):=by decide+kernel
theorem Jq:¬(ir=iH):=by decide+kernel
theorem v_all:(¬pJ=jJ)∧(¬pJ=jm)∧(¬pJ=lD)∧(¬pJ=jN)∧(¬pJ=lF)∧(¬pJ=iH)∧(¬pJ=ir)∧(¬jJ=pJ)∧(¬jJ=jm)∧(¬jJ=lD)∧(¬jJ=jN)∧(¬jJ=lF)∧(¬jJ=iH)∧(¬jJ=ir)∧(¬jm=pJ)∧(¬jm=jJ)∧(¬jm=lD)∧(¬jm=jN)∧(¬jm=lF)∧(¬jm=iH)∧(¬jm=ir)∧(¬lD=pJ)∧(¬lD=jJ)∧(¬lD=jm)∧(¬lD=jN)∧(¬lD=lF)∧(¬lD=iH)∧(¬lD=ir)∧(¬jN=pJ)∧(¬jN=jJ)∧(¬jN=jm)∧(¬jN=lD)∧(¬jN=lF)∧(¬jN=iH)∧(¬jN=ir)∧(¬lF=pJ)∧(¬lF=jJ)∧(¬lF=jm)∧(¬lF=lD)∧(¬lF=jN)∧(¬lF=iH)∧(¬lF=ir)∧(¬iH=pJ)∧(¬iH=jJ)∧(¬iH=jm)∧(¬iH=lD)∧(¬iH=jN)∧(¬iH=lF)∧(¬iH=ir)∧(¬ir=pJ)∧(¬ir=jJ)∧(¬ir=jm)∧(¬ir=lD)∧(¬ir=jN)∧(¬ir=lF)∧(¬ir=iH):=⟨aaJ,WW,abO,ZX,ac2,U3,Uz,Z9,SN,Ye,U6,W4,OD,Oo,X5,Rw,VD,RK,T8,Km,Ku,abG,XJ,Ur,Xm,aaM,Q9,RN,aao,Wc,RJ,Xy,WY,Og,Ou,abA,Xc,U0,aau,WN,Rx,Ri,Ul,Ol,JW,QJ,Om,RX,Jj,Vb,Oe,M7,Rm,Oi,Tn,Jq⟩
def uL(F:List Nat→D)(ws:List (List Nat)):List (D×D):=ws.map fun w=>(aN (fP w),F w)
def upW(F:List Nat→D)(w:List Nat)(v:D):List Nat→D:=fun x=>if x=w then v else F x
theorem Yr(x w:List Nat):(DL.keyOf (aN (fP x))=some (.inr (fP w)))↔x=w:=by
 constructor
 ·intro h
  have h2:fP x=fP w:=by
   have h3:some (Sum.inr (fP x):Key)=some (.inr (fP w)):=h
   injection h3 with h3
   injection h3
  exact Lp h2
 ·rintro rfl
  rfl
theorem ZF(F:List Nat→D)(w:List Nat):∀ws:List (List Nat),w∈ws→pC (uL F ws) (.inr (fP w))=some (F w)
 |[],h=>by cases h
 |x::ws,h=>by
  by_cases e:x=w
  ·subst e
   simp only [pC,uL,aZ,dO,DL.keyOf,decide_true,Option.map_some]
  ·have hk:¬(DL.keyOf (aN (fP x))=some (.inr (fP w))):=fun z=>e ((Yr x w).mp z)
   have h' :w∈ws:=by
    rcases aJ.mp h with z|z
    ·exact absurd z.symm e
    ·exact z
   have:=ZF F w ws h'
   simp only [pC,uL,aZ,dO,hk,decide_false]
   exact this
theorem Xj(F:List Nat→D)(w:List Nat)(ws:List (List Nat)):(uL F ws).any (fun q=>decide (DL.keyOf q.1=some (.inr (fP w))))=decide (w∈ws):=by
 induction ws with
 |nil=>rfl
 |cons x ws ih=>
  simp only [uL,aZ,dY] at ih⊢
  rw [ih]
  by_cases e:x=w
  ·subst e
   simp [DL.keyOf]
  ·have hk:¬(DL.keyOf (aN (fP x))=some (.inr (fP w))):=fun z=>e ((Yr x w).mp z)
   have e' :¬w=x:=fun z=>e z.symm
   simp [hk,e']
theorem aeT(F:List Nat→D)(w:List Nat)(v:D)(ws:List (List Nat))(h:¬w∈ws):oX (uL F ws) (.inr (fP w)) v=uL (upW F w v) (ws++[w]):=by
 unfold oX
 rw [Xj]
 simp only [h,decide_false,Bool.false_eq_true,if_false]
 simp only [uL,cV,aZ,dR,upW,if_true]
 congr 1
 refine bQ fun x hx=> ?_
 have:¬x=w:=fun z=>h (by rw [←z];exact hx)
 simp only [this,if_false]
theorem ae2(F:List Nat→D)(w:List Nat)(v:D)(ws:List (List Nat))(h:w∈ws):oX (uL F ws) (.inr (fP w)) v=uL (upW F w v) ws:=by
 unfold oX
 rw [Xj]
 simp only [h,decide_true,if_true]
 simp only [uL,bY]
 refine bQ fun x hx=> ?_
 simp only [Function.comp,Yr,upW]
 by_cases e:x=w
 ·simp [e]
 ·simp [e]
def addW(ws:List (List Nat))(w:List Nat):List (List Nat):=if w∈ws then ws else ws++[w]
theorem Lh(F:List Nat→D)(w:List Nat)(v:D)(ws:List (List Nat)):oX (uL F ws) (.inr (fP w)) v=uL (upW F w v) (addW ws w):=by
 unfold addW
 by_cases h:w∈ws
 ·rw [if_pos h,ae2 _ _ _ _ h]
 ·rw [if_neg h,aeT _ _ _ _ h]
theorem Ep{ws:List (List Nat)}{w x:List Nat}:x∈addW ws w↔x∈ws∨x=w:=by
 unfold addW
 by_cases h:w∈ws
 ·rw [if_pos h]
  constructor
  ·exact .inl
  ·rintro(z|rfl)
   ·exact z
   ·exact h
 ·rw [if_neg h]
  simp
theorem ad7{ws:List (List Nat)}{w:List Nat}(h:ws.Nodup):(addW ws w).Nodup:=by
 unfold addW
 by_cases m:w∈ws
 ·rwa [if_pos m]
 ·rw [if_neg m,cQ]
  exact⟨h,by simp,fun a ha b hb=>by
   have:b=w:=by simpa using hb
   subst this
   exact fun e=>m (by rw [←e];exact ha)⟩
theorem VB{ws:List (List Nat)}{w:List Nat}:(addW ws w).length≤ws.length+1:=by
 unfold addW
 split
 ·omega
 ·simp
theorem Kf(F:List Nat→D)(ws:List (List Nat)):Gu (uL F ws)=true:=by cases ws<;>rfl
theorem WM(F:List Nat→D)(ws:List (List Nat)):(uL F ws).length=ws.length:=by simp [uL]
theorem Dh(F:List Nat→D){w:List Nat}{ws:List (List Nat)}(h:w∈ws):jr (.dict (uL F ws)) (.str (fP w))= .ok (F w):=by
 simp only [jr,Kf,if_true,DL.keyOf,ZF F w ws h]
theorem agp(F:List Nat→D)(w:List Nat)(ws:List (List Nat))(b:Bool):wU b (.str (fP w)) (.dict (uL F ws))= .ok (.bool (decide (w∈ws) !=b)):=by
 have e:DL.keyOf (aN (fP w))=some (.inr (fP w)):=rfl
 simp only [wU,Kf,if_true,e,find_some,Xj]
theorem ZP(F:List Nat→D):∀ws:List (List Nat),strKeys (uL F ws)=some (ws.map fP)
 |[]=>rfl
 |w::ws=>by
  show(strKeys (uL F ws)).map _=_
  rw [ZP F ws]
  rfl
inductive Dd(α:Type) where
 |is (w:List Nat)|join (a b:α)|times (a:α) (m:Nat)|cut (a:α) (s e:Nat)|turn (a:α)|put (a:α) (s o:Nat)|insert (a:α) (p:Nat) (b:α)|remove (a:α) (s e:Nat)
namespace Dd
variable{α β:Type}
def verb:Dd α→Str
 | .is _=>pJ| .join _ _=>jJ| .times _ _=>jm| .cut _ _ _=>lD| .turn _=>jN| .put _ _ _=>lF| .insert _ _ _=>iH| .remove _ _ _=>ir
def rest(F:α→PyData):Dd α→List PyData
 | .is w=>[.str (fP w)]
 | .join a b=>[F a,F b]
 | .times a m=>[F a, .int (m:Int)]
 | .cut a s e=>[F a, .int (s:Int), .int (e:Int)]
 | .turn a=>[F a]
 | .put a s o=>[F a, .str (s1 s), .str (s1 o)]
 | .insert a p b=>[F a, .int (p:Int),F b]
 | .remove a s e=>[F a, .int (s:Int), .int (e:Int)]
def toD(F:α→PyData)(d:Dd α):PyData:= .tuple (.str d.verb::d.rest F)
def tx(t:α→List Nat):Dd α→List Nat
 | .is w=>w
 | .join a b=>t a++t b
 | .times a m=>(aC m (t a)).flatten
 | .cut a s e=>stretch (t a) s e
 | .turn a=>(t a).reverse
 | .put a s o=>(t a).map (Aa s o)
 | .insert a p b=>(t a).take p++t b++(t a).drop p
 | .remove a s e=>(t a).take s++(t a).drop e
def ok(t:α→List Nat):Dd α→Prop
 | .is w=>1≤w.length∧w.length≤40∧∀c∈w,c∈Hi
 | .join a b=>(t a).length+(t b).length≤MOST
 | .times a m=>m≤MOST∧(t a).length*m≤MOST
 | .cut a s e=>s≤e∧e≤(t a).length
 | .turn _=>True
 | .put _ s o=>s∈Hi∧o∈Hi
 | .insert a p b=>p≤(t a).length∧(t a).length+(t b).length≤MOST
 | .remove a s e=>s≤e∧e≤(t a).length
def refs:Dd α→List α
 | .is _=>[]| .join a b=>[a,b]| .times a _=>[a]| .cut a _ _=>[a]| .turn a=>[a]| .put a _ _=>[a]| .insert a _ b=>[a,b]| .remove a _ _=>[a]
def map(f:α→β):Dd α→Dd β
 | .is w=> .is w| .join a b=> .join (f a) (f b)| .times a m=> .times (f a) m| .cut a s e=> .cut (f a) s e| .turn a=> .turn (f a)| .put a s o=> .put (f a) s o| .insert a p b=> .insert (f a) p (f b)| .remove a s e=> .remove (f a) s e
theorem Us{t t' :α→List Nat}{d:Dd α}(h:∀a∈d.refs,t a=t' a):d.tx t=d.tx t' :=by
 cases d<;>simp only [refs,aJ,bD,or_false,forall_eq_or_imp,forall_eq] at h<;>simp only [tx,h]
theorem UL{t t' :α→List Nat}{d:Dd α}(h:∀a∈d.refs,t a=t' a)(o:d.ok t):d.ok t' :=by
 cases d<;>simp only [refs,aJ,bD,or_false,forall_eq_or_imp,forall_eq] at h<;>simp only [ok,h] at o⊢<;>exact o
theorem afl{t:α→List Nat}{d:Dd α}(o:d.ok t)(h:∀a∈d.refs,(t a).length≤MOST):(d.tx t).length≤MOST:=by
 cases d with
 |is w=>exact bf o.2.1 (by decide)
 |join a b=>
  show(t a++t b).length≤MOST
  rw [au]
  exact o
 |times a m=>simp only [tx,pQ];rw [bT];exact o.2
 |cut a s e=>
  have:=h a (by simp [refs])
  simp only [tx,stretch,cX,aY]
  omega
 |turn a=>simpa [tx] using h a (by simp [refs])
 |put a s o=>simpa [tx] using h a (by simp [refs])
 |insert a p b=>
  have:=o.2
  simp only [tx,au,aY,cX]
  omega
 |remove a s e=>
  have:=h a (by simp [refs])
  have:=o.1
  simp only [tx,au,aY,cX]
  omega
end Dd
def Ud(ns:List (Dd Nat)):List (List Nat):=ns.foldl (fun acc d=>acc++[d.tx fun i=>acc.getD i []]) []
theorem KR(ns:List (Dd Nat))(d:Dd Nat):Ud (ns++[d])=Ud ns++[d.tx fun i=>(Ud ns).getD i []]:=by simp [Ud]
theorem Jz:∀ns:List (Dd Nat),(Ud ns).length=ns.length:=by
 refine snocInd rfl fun ns d ih=> ?_
 rw [KR]
 simp [ih]
theorem Tg{ns:List (Dd Nat)}{i:Nat}(h:i<ns.length)(d:Dd Nat):(Ud (ns++[d])).getD i []=(Ud ns).getD i []:=by
 rw [KR]
 simp only [bJ]
 rw [aO (by rw [Jz];exact h)]
theorem Vu(ns:List (Dd Nat))(d:Dd Nat):(Ud (ns++[d])).getD ns.length []=d.tx fun i=>(Ud ns).getD i []:=by
 rw [KR]
 simp only [bJ]
 rw [bG (by rw [Jz];exact bA _),Jz]
 simp
structure NG(ns:List (Dd Nat)):Prop where
 lt:∀(i:Nat) d,ns[i]? =some d→∀a∈d.refs,a<i
 ok:∀(i:Nat) d,ns[i]? =some d→d.ok fun a=>(Ud ns).getD a []
 tx:∀(i:Nat) d,ns[i]? =some d→(Ud ns).getD i []=d.tx fun a=>(Ud ns).getD a []
 le:∀i,((Ud ns).getD i []).length≤MOST
theorem NG.nil:NG [] where
 lt:=fun i d h=>by simp at h
 ok:=fun i d h=>by simp at h
 tx:=fun i d h=>by simp at h
 le:=fun i=>by simp [Ud]
theorem NG.snoc{ns:List (Dd Nat)}(g:NG ns){d:Dd Nat}(hr:∀a∈d.refs,a<ns.length)(ho:d.ok fun a=>(Ud ns).getD a []):NG (ns++[d]):=by
 have old:∀{e:Dd Nat} {n:Nat},n≤ns.length→(∀a∈e.refs,a<n)→∀a∈e.refs,(fun a=>(Ud ns).getD a []) a=(fun a=>(Ud (ns++[d])).getD a []) a:=fun hn he a ha=>(Tg (by have:=he a ha;omega) d).symm
 have at_:∀(i:Nat) e,(ns++[d])[i]? =some e→(i<ns.length∧ns[i]? =some e)∨(i=ns.length∧e=d):=fun i e h=>by
  have hi:=(aq.mp h).1
  rw [au,cD] at hi
  by_cases z:i<ns.length
  ·rw [aO z] at h
   exact .inl ⟨z,h⟩
  ·have e1:i=ns.length:=by omega
   subst e1
   rw [bG (bA _)] at h
   simp only [Nat.sub_self,aG,Option.some.injEq] at h
   exact .inr ⟨rfl,h.symm⟩
 refine⟨fun i e h=> ?_,fun i e h=> ?_,fun i e h=> ?_,fun i=> ?_⟩
 ·rcases at_ i e h with⟨_,h⟩|⟨rfl,rfl⟩
  ·exact g.lt i e h
  ·exact hr
 ·rcases at_ i e h with⟨z,h⟩|⟨rfl,rfl⟩
  ·exact Dd.UL (old (Nat.le_of_lt z) (g.lt i e h)) (g.ok i e h)
  ·exact Dd.UL (old (bA _) hr) ho
 ·rcases at_ i e h with⟨z,h⟩|⟨rfl,rfl⟩
  ·rw [Tg z,g.tx i e h]
   exact Dd.Us (old (Nat.le_of_lt z) (g.lt i e h))
  ·rw [Vu]
   exact Dd.Us (old (bA _) hr)
 ·by_cases z:i<ns.length
  ·rw [Tg z]
   exact g.le i
  ·by_cases z2:i=ns.length
   ·subst z2
    rw [Vu]
    exact Dd.afl ho fun a _=>g.le a
   ·simp only [bJ]
    rw [cO (by rw [Jz,au,cD];omega)]
    exact cG _
def iU(w:List Nat):D:= .str (fP w)
def zB(w:List Nat):Prop:=1≤w.length∧w.length≤8∧∀c∈w,97≤c∧c≤122
end Sb
namespace Sb
open PySem PySem.Spec L2 Evl DL
end Sb
namespace Sb
open PySem PySem.Spec L2 Evl DL
inductive Tr where
 |sg (c:Nat)|jn (a b:Tr)|tm (a:Tr) (n:Nat)
 deriving DecidableEq
def Nz:Tr:= .sg 0
def Rule.tr(ts:List Tr):Rule→Tr
 | .sign c=> .sg c
 | .join a b=> .jn (ts.getD a Nz) (ts.getD b Nz)
 | .times a n=> .tm (ts.getD a Nz) n
def trs(rs:List Rule):List Tr:=rs.foldl (fun acc r=>acc++[r.tr acc]) []
theorem Mq(rs:List Rule)(r:Rule):trs (rs++[r])=trs rs++[r.tr (trs rs)]:=by simp [trs]
theorem BJ:∀rs:List Rule,(trs rs).length=rs.length:=by
 refine snocInd rfl fun l a ih=> ?_
 rw [Mq]
 simp [ih]
theorem adi(rs:List Rule):∀qs:List Rule,∃zs,trs (rs++qs)=trs rs++zs:=by
 refine snocInd ⟨[],by simp⟩ fun l a ih=> ?_
 obtain⟨zs,e⟩:=ih
 refine⟨zs++[a.tr (trs (rs++l))],?_⟩
 rw [←aF,Mq,e,aF]
theorem YX{rs:List Rule}{i:Nat}(h:i<rs.length)(qs:List Rule):(trs (rs++qs)).getD i Nz=(trs rs).getD i Nz:=by
 obtain⟨zs,e⟩:=adi rs qs
 have hl:i<(trs rs).length:=by rw [BJ];exact h
 rw [e]
 simp [bJ,aO hl]
theorem abB{r:Rule}{i:Nat}(ok:r.ok i){ts ts' :List Tr}(h:∀a,a<i→ts'.getD a Nz=ts.getD a Nz):r.tr ts' =r.tr ts:=by
 cases r with
 |sign c=>rfl
 |join a b=>simp only [Rule.tr,h a ok.1,h b ok.2]
 |times a n=>simp only [Rule.tr,h a ok.1]
theorem GX{rs:List Rule}(g:Good rs){i:Nat}{r:Rule}(h:rs[i]? =some r):(trs rs).getD i Nz=r.tr (trs rs):=by
 have hi:=(aq.mp h).1
 have e:rs=rs.take i++r::rs.drop (i+1):=by
  have e1:rs.drop i=r::rs.drop (i+1):=by
   rw [←(aq.mp h).2]
   exact(List.getElem_cons_drop hi).symm
  rw [←e1]
  exact(bO i rs).symm
 have lt:(rs.take i).length=i:=by rw [aY];omega
 have e2:rs=(rs.take i++[r])++rs.drop (i+1):=by
  rw [aF]
  exact e
 have a1:(trs rs).getD i Nz=r.tr (trs (rs.take i)):=by
  rw [e2,YX (by rw [au,lt];simp),Mq]
  rw [←e2]
  rw [bJ,bG (by rw [BJ,lt];exact bA _),BJ,lt]
  simp
 rw [a1]
 refine(abB (g i r h) fun a ha=> ?_).symm
 have:(trs rs).getD a Nz=(trs (rs.take i++r::rs.drop (i+1))).getD a Nz:=by rw [←e]
 rw [this,YX (by rw [lt];exact ha)]
theorem adU{rs:List Rule}(g:Good rs)(nd:rs.Nodup):∀j i,i<j→j<rs.length→(trs rs).getD i Nz≠(trs rs).getD j Nz:=by
 have look:∀i,i<rs.length→∃r,rs[i]? =some r:=fun i h=>⟨rs[i],aP h⟩
 have same:∀i j,i<rs.length→rs[i]? =rs[j]? →i=j:=fun i j hi e=>by
  rcases Nat.lt_trichotomy i j with h|h|h
  ·have hj:j<rs.length:=by
    rcases Nat.lt_or_ge j rs.length with q|q
    ·exact q
    ·rw [cO q,aP hi] at e
     cases e
   have:=(cJ.mp nd) i j hi hj h
   rw [aP hi,aP hj] at e
   exact absurd (Option.some.inj e) this
  ·exact h
  ·have hj:j<rs.length:=by omega
   have:=(cJ.mp nd) j i hj hi h
   rw [aP hi,aP hj] at e
   exact absurd (Option.some.inj e).symm this
 intro j
 induction j using Nat.strongRecOn with
 |ind j ih=>
  intro i hij hj e
  obtain⟨r,hr⟩:=look i (by omega)
  obtain⟨q,hq⟩:=look j hj
  rw [GX g hr,GX g hq] at e
  have ok:=g i r hr
  have ok' :=g j q hq
  have one:∀a b,a<j→b<j→(trs rs).getD a Nz=(trs rs).getD b Nz→a=b:=fun a b ha hb z=>by
   rcases Nat.lt_trichotomy a b with h|h|h
   ·exact absurd z (ih b hb a h (by omega))
   ·exact h
   ·exact absurd z.symm (ih a ha b h (by omega))
  have rq:r=q:=by
   cases r with
   |sign c=>
    cases q with
    |sign c' =>simp only [Rule.tr,Tr.sg.injEq] at e;rw [e]
    |join a b=>cases e
    |times a n=>cases e
   |join a b=>
    cases q with
    |sign c' =>cases e
    |join a' b' =>
     simp only [Rule.tr,Tr.jn.injEq] at e
     have h1:=one a a' (by have:=ok.1;omega) ok'.1 e.1
     have h2:=one b b' (by have:=ok.2;omega) ok'.2 e.2
     rw [h1,h2]
    |times a' n=>cases e
   |times a n=>
    cases q with
    |sign c' =>cases e
    |join a' b' =>cases e
    |times a' n' =>
     simp only [Rule.tr,Tr.tm.injEq] at e
     have h1:=one a a' (by have:=ok.1;omega) ok'.1 e.1
     rw [h1,e.2]
  subst rq
  have:=same i j (by omega) (hr.trans hq.symm)
  omega
theorem aaG{rs:List Rule}(g:Good rs)(nd:rs.Nodup):(trs rs).Nodup:=by
 refine cJ.mpr fun i j hi hj hij=> ?_
 have h:=adU g nd j i hij (by rw [←BJ rs];exact hj)
 rw [bJ,bJ,aP hi,aP hj] at h
 exact h
theorem Nk{α:Type} [DecidableEq α]:∀(l m:List α),l.Nodup→(∀x∈l,x∈m)→l.length≤m.length
 |[],m,_,_=>cG _
 |x::l,m,nd,h=>by
  obtain⟨n1,n2⟩:=cU.mp nd
  have hx:=h x (by simp)
  have ih:=Nk l (m.erase x) n2 fun y hy=>by
   have hyx:y≠x:=fun z=>n1 (by rw [←z];exact hy)
   exact(List.mem_erase_of_ne hyx).mpr (h y (by simp [hy]))
  have:=List.length_erase_of_mem hx
  have hp:0<m.length:=List.length_pos_of_mem hx
  simp only [aW]
  omega
theorem abb{rs:List Rule}(g:Good rs)(nd:rs.Nodup)(U:List Tr)(h:∀i,i<rs.length→(trs rs).getD i Nz∈U):rs.length≤U.length:=by
 rw [←BJ rs]
 refine Nk _ _ (aaG g nd) fun x hx=> ?_
 obtain⟨i,hi⟩:=List.mem_iff_getElem?.mp hx
 have hl:=(aq.mp hi).1
 have:=h i (by rw [←BJ rs];exact hl)
 rw [bJ,hi] at this
 exact this
end Sb
namespace Sb
open PySem PySem.Spec L2 Evl DL
def Tr.subs:Tr→List Tr
 | .sg c=>[.sg c]
 | .jn a b=> .jn a b::(a.subs++b.subs)
 | .tm a n=> .tm a n::a.subs
theorem xG:∀t:Tr,t∈t.subs
 | .sg c=>by simp [Tr.subs]
 | .jn a b=>by simp [Tr.subs]
 | .tm a n=>by simp [Tr.subs]
theorem aaO{rs:List Rule}(g:Good rs):∀(d k i:Nat) (ks:List Nat),Need rs k ks→k<rs.length→i∈ks→k-i≤d→(trs rs).getD i Nz∈((trs rs).getD k Nz).subs:=by
 intro d
 induction d with
 |zero=>
  intro k i ks nd hk hi hd
  have:=nd.le i hi
  have e:i=k:=by omega
  rw [e]
  exact xG _
 |succ d ih=>
  intro k i ks nd hk hi hd
  rcases nd.by_ i hi with e|⟨j,hj,r,hr,hp⟩
  ·rw [e]
   exact xG _
  ·have lt:=oU (g j r hr) i hp
   have jk:=nd.le j hj
   have h1:=ih k j ks nd hk hj (by omega)
   have tr:∀{a b c:Tr},a∈b.subs→b∈c.subs→a∈c.subs:=by
    intro a b c ha
    induction c with
    |sg x=>
     intro hb
     simp [Tr.subs] at hb
     subst hb
     exact ha
    |jn x y ihx ihy=>
     intro hb
     simp only [Tr.subs,aJ,aR] at hb⊢
     rcases hb with rfl|hb|hb
     ·simpa [Tr.subs] using ha
     ·exact .inr (.inl (ihx hb))
     ·exact .inr (.inr (ihy hb))
    |tm x n ihx=>
     intro hb
     simp only [Tr.subs,aJ] at hb⊢
     rcases hb with rfl|hb
     ·simpa [Tr.subs] using ha
     ·exact .inr (ihx hb)
   refine tr ?_ h1
   rw [GX g hr]
   cases r with
   |sign c=>simp [Rule.parts] at hp
   |join a b=>
    simp only [Rule.parts,aJ,bD,or_false] at hp
    simp only [Rule.tr,Tr.subs,aJ,aR]
    rcases hp with rfl|rfl
    ·exact .inr (.inl (xG _))
    ·exact .inr (.inr (xG _))
   |times a n=>
    simp only [Rule.parts,aJ,bD,or_false] at hp
    subst hp
    simp only [Rule.tr,Tr.subs,aJ]
    exact .inr (xG _)
end Sb
namespace Sb
open PySem PySem.Spec L2 Evl DL
theorem T2.o9{rs:List Rule}{f:Nat→Nat}(h:T2 rs):T2 (rs.map fun r=>r.o9 f):=fun r hr a n e=>by
 obtain⟨q,hq,rfl⟩:=cC.mp hr
 cases q with
 |sign c=>cases e
 |join x y=>cases e
 |times x m=>
  cases e
  exact h _ hq x n rfl
theorem T2.bring{rs os:List Rule}(h:T2 os):T2 (bring rs os):=h.o9
theorem abS{rs:List Rule}(g:Good rs)(h:T2 rs):∀k,k<rs.length→((trs rs).getD k Nz).subs.length+1≤2*(sizes rs).getD k 0:=by
 intro k
 induction k using Nat.strongRecOn with
 |ind k ih=>
  intro hk
  obtain⟨r,hr⟩:∃r,rs[k]? =some r:=⟨rs[k]'hk,aP _⟩
  have ok:=g k r hr
  rw [GX g hr,sY g hr]
  cases r with
  |sign c=>simp [Rule.tr,Tr.subs,Rule.size]
  |join a b=>
   have h1:=ih a ok.1 (by have:=ok.1;omega)
   have h2:=ih b ok.2 (by have:=ok.2;omega)
   simp only [Rule.tr,Tr.subs,Rule.size,aW,au]
   omega
  |times a n=>
   have h1:=ih a ok.1 (by have:=ok.1;omega)
   have h2:=h _ (aX hr) a n rfl
   have h3:(sizes rs).getD a 0*2≤(sizes rs).getD a 0*n:=dh _ h2
   simp only [Rule.tr,Tr.subs,Rule.size,aW]
   omega
end Sb
namespace Sb
open PySem PySem.Spec L2 Evl DL
theorem Td.tree{rs:List Rule}(g:Good rs){ks:List Nat}{qs:List Rule}{f:Nat→Nat}(h:Td rs ks qs f)(hc:∀j∈ks,∀q,rs[j]? =some q→∀a∈q.parts,a∈ks)(hk:∀i∈ks,i<rs.length):∀i,i∈ks→(trs qs).getD (f i) Nz=(trs rs).getD i Nz:=by
 intro i
 induction i using Nat.strongRecOn with
 |ind i ih=>
  intro hi
  obtain⟨r,hr⟩:∃r,rs[i]? =some r:=⟨rs[i]'(hk i hi),aP _⟩
  have row:=h.row i hi r hr
  rw [GX h.g row,GX g hr]
  have ok:=g i r hr
  have cl:=hc i hi r hr
  have lt:=oU ok
  cases r with
  |sign c=>rfl
  |join a b=>
   have h1:=ih a (lt a (by simp [Rule.parts])) (cl a (by simp [Rule.parts]))
   have h2:=ih b (lt b (by simp [Rule.parts])) (cl b (by simp [Rule.parts]))
   simp only [Rule.o9,Rule.tr,h1,h2]
  |times a n=>
   have h1:=ih a (lt a (by simp [Rule.parts])) (cl a (by simp [Rule.parts]))
   simp only [Rule.o9,Rule.tr,h1]
theorem Td.le{rs:List Rule}(g:Good rs){ks:List Nat}{qs:List Rule}{f:Nat→Nat}(h:Td rs ks qs f)(hc:∀j∈ks,∀q,rs[j]? =some q→∀a∈q.parts,a∈ks)(hk:∀i∈ks,i<rs.length)(U:List Tr)(hU:∀i∈ks,(trs rs).getD i Nz∈U):qs.length≤U.length:=by
 refine abb h.g h.nd U fun x hx=> ?_
 obtain⟨i,hi,rfl⟩:=h.hit x hx
 rw [h.tree g hc hk i hi]
 exact hU i hi
end Sb
namespace Sb
open PySem PySem.Spec L2 Evl DL
theorem agl:MOST<10 ^ 300:=by decide
end Sb
namespace Sb
open PySem PySem.Spec L2 Evl DL
theorem YG{w:List Nat}{p:Nat}(h:p<w.length)(hl:w.length≤16777000):gj (.str (fP w)) (.int (p:Int))= .ok (.str (s1 (w.getD p 0))):=by
 have:=acv (z:=fP w) (i:=(p:Int)) (by omega) (by show(p:Int)<(w.length:Int);omega) (by rw [lK];exact tG hl)
 rw [this]
 simp [bJ,h]
theorem agw(a b:Nat):lB (.str (s1 a)) (.str (s1 b))= .ok (.bool (decide (a=b))):=by
 rw [XC]
 congr 2
 by_cases h:a=b
 ·subst h
  simp
 ·have:¬s1 a=s1 b:=fun z=>h (YW z)
  simp [h,this]
end Sb
namespace Sb
open PySem PySem.Spec L2 Evl DL
def sgB:List Nat→Bool
 |[c]=>decide (c∈Hi)
 |_=>false
theorem aa4(x:Str)(h:x.length≤sizeLine):rY [.str x]= .ok (.bool (sgB x.cps.toList)):=by
 have e1:x.length=x.cps.toList.length:=str_len x
 match hx:x.cps.toList with
 |[c]=>
  have hl:(x.length:Int)=1:=by rw [e1,hx];rfl
  simp! only [rY,BL,M8 h,hl,Ez,hx]
  rfl
 |[]=>
  have hl:¬(x.length:Int)=1:=by rw [e1,hx];decide
  simp! only [rY,BL,M8 h,hl]
  rfl
 |a::b::r=>
  have hl:¬(x.length:Int)=1:=by rw [e1,hx];simp;omega
  simp! only [rY,BL,M8 h,hl]
  rfl
end Sb
namespace Sb
open PySem PySem.Spec L2 Evl DL
abbrev jA:Str:="word"
abbrev jD:Str:="place"
abbrev lN:Str:="many"
abbrev lG:Str:="sign"
abbrev jC:Str:="pattern"
abbrev j6:Str:="signs"
theorem Q5:¬(jA=jD):=by decide+kernel
theorem UG:¬(jA=lN):=by decide+kernel
theorem U4:¬(jA=lG):=by decide+kernel
theorem MK:¬(jA=jC):=by decide+kernel
theorem Tp:¬(jA=j6):=by decide+kernel
theorem En:¬(jD=jA):=by decide+kernel
theorem RB:¬(jD=lN):=by decide+kernel
theorem Rh:¬(jD=lG):=by decide+kernel
theorem Jr:¬(jD=jC):=by decide+kernel
theorem Oq:¬(jD=j6):=by decide+kernel
theorem Ii:¬(lN=jA):=by decide+kernel
theorem Sv:¬(lN=jD):=by decide+kernel
theorem Wi:¬(lN=lG):=by decide+kernel
theorem N8:¬(lN=jC):=by decide+kernel
theorem QK:¬(lN=j6):=by decide+kernel
theorem HW:¬(lG=jA):=by decide+kernel
theorem SJ:¬(lG=jD):=by decide+kernel
theorem VG:¬(lG=lN):=by decide+kernel
theorem MP:¬(lG=jC):=by decide+kernel
theorem Q6:¬(lG=j6):=by decide+kernel
theorem Ld:¬(jC=jA):=by decide+kernel
theorem Jk:¬(jC=jD):=by decide+kernel
theorem LR:¬(jC=lN):=by decide+kernel
theorem Lk:¬(jC=lG):=by decide+kernel
theorem Jl:¬(jC=j6):=by decide+kernel
theorem Fp:¬(j6=jA):=by decide+kernel
theorem Od:¬(j6=jD):=by decide+kernel
theorem QL:¬(j6=lN):=by decide+kernel
theorem Q8:¬(j6=lG):=by decide+kernel
theorem Jm:¬(j6=jC):=by decide+kernel
theorem k_all:(¬jA=jD)∧(¬jA=lN)∧(¬jA=lG)∧(¬jA=jC)∧(¬jA=j6)∧(¬jD=jA)∧(¬jD=lN)∧(¬jD=lG)∧(¬jD=jC)∧(¬jD=j6)∧(¬lN=jA)∧(¬lN=jD)∧(¬lN=lG)∧(¬lN=jC)∧(¬lN=j6)∧(¬lG=jA)∧(¬lG=jD)∧(¬lG=lN)∧(¬lG=jC)∧(¬lG=j6)∧(¬jC=jA)∧(¬jC=jD)∧(¬jC=lN)∧(¬jC=lG)∧(¬jC=j6)∧(¬j6=jA)∧(¬j6=jD)∧(¬j6=lN)∧(¬j6=lG)∧(¬j6=jC):=⟨Q5,UG,U4,MK,Tp,En,RB,Rh,Jr,Oq,Ii,Sv,Wi,N8,QK,HW,SJ,VG,MP,Q6,Ld,Jk,LR,Lk,Jl,Fp,Od,QL,Q8,Jm⟩
theorem agg{c:Nat}(h:97≤c∧c≤122):c∈("abcdefghijklmnopqrstuvwxyz":Str).cps.toList:=by
 have e:("abcdefghijklmnopqrstuvwxyz":Str).cps.toList=(bU 26).map (97+·):=by decide+kernel
 rw [e]
 exact cC.mpr ⟨c-97,by simp;omega,by omega⟩
theorem agr{c:Nat}(h:48≤c∧c≤57):c∈("0123456789":Str).cps.toList:=by
 have e:("0123456789":Str).cps.toList=(bU 10).map (48+·):=by decide+kernel
 rw [e]
 exact cC.mpr ⟨c-48,by simp;omega,by omega⟩
theorem Ny(w:List Nat)(h:zB w):Be [.str (fP w)]= .ok (.bool true):=by
 have bl:=G4 (a:=w) (by have:=h.2.1;omega)
 have h1:=h.1
 have h2:=h.2.1
 refine jg ?_
 show Rt (Hh [.dat (.str (fP w)), .un]) _
 unfold Hh
 refine fD (ρ' :=[.dat (.str (fP w)), .un]) (by simp! only [iW,bl,show(1:Int)≤((w.length:Nat):Int) by omega,show((w.length:Nat):Int)≤8 by omega]) ?_
 refine oK (N:=fun ρ=>∃k:Sl,ρ=[.dat (.str (fP w)),k]) (lZ (ds:=w.map fun c=>aN (s1 c)) (fun _ ρ=>∃k:Sl,ρ=[.dat (.str (fP w)),k]) rfl ⟨_,rfl⟩ ?_) ?_
 ·rintro i d ρ hd ⟨k,rfl⟩
  rw [aH,aK] at hd
  obtain⟨c,hc,rfl⟩:=hd
  have hm:=agg (h.2.2 c (aX hc))
  refine⟨_,nu,jE (ρ' :=[.dat (.str (fP w)), .dat (.str (s1 c))]) ?_ ⟨_,rfl⟩⟩
  have e:Ez true (.str (s1 c)) (.str "abcdefghijklmnopqrstuvwxyz")= .ok (.bool false):=by
   simp only [Ez,s1,if_true]
   rw [decide_eq_true hm]
   rfl
  simp only [set_0,jU]
  simp! only [e]
 ·rintro ρ ⟨k,rfl⟩
  exact gU rfl rfl
theorem Il(w:List Nat)(m:Nat)(h1:1≤w.length)(h2:w.length≤m)(h3:m≤1000)(h:∀c∈w,c∈Hi):rZ [.str (fP w), .int (m:Int)]= .ok (.str (fP w)):=by
 have bl:=G4 (a:=w) (by omega)
 refine jg ?_
 show Rt (Dg [.dat (.str (fP w)), .dat (.int (m:Int)), .un]) _
 unfold Dg
 refine fD (ρ' :=[.dat (.str (fP w)), .dat (.int (m:Int)), .un]) (by simp! only [iW,bl,show(1:Int)≤((w.length:Nat):Int) by omega,show((w.length:Nat):Int)≤(m:Int) by omega]) ?_
 refine oK (N:=fun ρ=>∃k:Sl,ρ=[.dat (.str (fP w)), .dat (.int (m:Int)),k]) (lZ (ds:=w.map fun c=>aN (s1 c)) (fun _ ρ=>∃k:Sl,ρ=[.dat (.str (fP w)), .dat (.int (m:Int)),k]) rfl ⟨_,rfl⟩ ?_) ?_
 ·rintro i d ρ hd ⟨k,rfl⟩
  rw [aH,aK] at hd
  obtain⟨c,hc,rfl⟩:=hd
  have hm:=h c (aX hc)
  refine⟨_,nu,jE (ρ' :=[.dat (.str (fP w)), .dat (.int (m:Int)), .dat (.str (s1 c))]) ?_ ⟨_,rfl⟩⟩
  have e:rY [.str (s1 c)]= .ok (.bool true):=by
   rw [aa4 (s1 c) (show(1:Nat)≤sizeLine by decide)]
   show ER.ok (PyData.bool (decide (c∈Hi)))=_
   rw [decide_eq_true hm]
  simp only [set_0,jU]
  simp! only [e]
 ·rintro ρ ⟨k,rfl⟩
  exact gU rfl rfl
theorem Yv(n:Nat):Str.ofString (toString ((n:Nat):Int))=fP (TL.numL n):=TL.ext_tl (TL.tl_num n)
theorem acH{n:Nat}(h:1≤n):∃c r,TL.numL n=c::r∧c≠48:=by
 induction n using Nat.strongRecOn with
 |_ n ih=>
  by_cases z:n<10
  ·exact⟨48+n,[],TL.numL_lt z,by omega⟩
  ·obtain⟨c,r,e,hc⟩:=ih (n/10) (by omega) (by omega)
   exact⟨c,r++[48+n%10],by rw [TL.numL_step (by omega),e];rfl,hc⟩
theorem Ec(n m:Nat)(h:n≤m)(hn:n<10 ^ 19):wj [.str (fP (TL.numL n)), .int (m:Int)]= .ok (.int (n:Int)):=by
 obtain⟨w,hw⟩:∃w,w=TL.numL n:=⟨_,rfl⟩
 have l1:w.length≤19:=by rw [hw];exact TL.numL_len (by omega) hn
 have l0:1≤w.length:=by
  rw [hw]
  have:=List.length_pos_iff.mpr (TL.numL_ne n)
  omega
 have bl:=G4 (a:=w) (by omega)
 have dg:∀c∈w,48≤c∧c≤57:=by rw [hw];exact TL.numL_digits n
 have hd:∀c r,w=c::r→r≠[]→c≠48:=fun c r e hr=>by
  by_cases z:n<10
  ·rw [hw,TL.numL_lt z] at e
   injection e with _ e
   exact absurd e.symm hr
  ·obtain⟨c',r',e',hc⟩:=acH (n:=n) (by omega)
   rw [hw,e'] at e
   injection e with e _
   rw [←e]
   exact hc
 have it:Mw [.str (fP w)]= .ok (.int (n:Int)):=by
  have e1:=TL.int_num (n:=n) (by rw [←hw];omega)
  rw [Yv,←hw] at e1
  have e2:(fP w).length≤640:=by rw [lK];omega
  simp only [Mw,e1,e2,if_true]
 rw [←hw]
 refine jg ?_
 show Rt (zV [.dat (.str (fP w)), .dat (.int (m:Int)), .un, .un]) _
 unfold zV
 refine fD (ρ' :=[.dat (.str (fP w)), .dat (.int (m:Int)), .un, .un]) ?_ ?_
 ·by_cases g:((w.length:Nat):Int)>1
  ·obtain⟨c,r,e⟩:∃c r,w=c::r:=by
    cases w with
    |nil=>simp at l0
    |cons c r=>exact⟨c,r,rfl⟩
   have hr:r≠[]:=by
    intro z
    rw [e,z] at g
    simp at g
   have ne:=hd c r e hr
   have ix:gj (.str (fP w)) (.int 0)= .ok (.str (s1 c)):=by
    have:=YG (w:=w) (p:=0) (by omega) (by omega)
    rw [e] at this⊢
    exact this
   have eq:lB (.str (s1 c)) (.str "0")= .ok (.bool false):=by
    have e0:("0":Str)=s1 48:=by decide+kernel
    rw [e0,agw,decide_eq_false ne]
   simp! only [iW,bl,show(1:Int)≤((w.length:Nat):Int) by omega,show((w.length:Nat):Int)≤19 by omega,g,ix,eq]
  ·simp! only [iW,bl,show(1:Int)≤((w.length:Nat):Int) by omega,show((w.length:Nat):Int)≤19 by omega,g]
 refine oK (N:=fun ρ=>∃k:Sl,ρ=[.dat (.str (fP w)), .dat (.int (m:Int)),k, .un]) (lZ (ds:=w.map fun c=>aN (s1 c)) (fun _ ρ=>∃k:Sl,ρ=[.dat (.str (fP w)), .dat (.int (m:Int)),k, .un]) rfl ⟨_,rfl⟩ ?_) ?_
 ·rintro i d ρ hd ⟨k,rfl⟩
  rw [aH,aK] at hd
  obtain⟨c,hc,rfl⟩:=hd
  have hm:=agr (dg c (aX hc))
  refine⟨_,nu,jE (ρ' :=[.dat (.str (fP w)), .dat (.int (m:Int)), .dat (.str (s1 c)), .un]) ?_ ⟨_,rfl⟩⟩
  have e:Ez true (.str (s1 c)) (.str "0123456789")= .ok (.bool false):=by
   simp only [Ez,s1,if_true]
   rw [decide_eq_true hm]
   rfl
  simp only [set_0,jU]
  simp! only [e]
 ·rintro ρ ⟨k,rfl⟩
  refine fD (ρ' :=[.dat (.str (fP w)), .dat (.int (m:Int)),k, .dat (.int (n:Int))]) (by simp! only [it]) ?_
  refine fD (ρ' :=[.dat (.str (fP w)), .dat (.int (m:Int)),k, .dat (.int (n:Int))]) (by simp! only [show¬(n:Int)>(m:Int) by omega]) ?_
  exact gU rfl rfl
theorem X8(w:List Nat)(h:zB w):jo [.str jA, .str (fP w)]= .ok (.str (fP w)):=by
 simp! only [jo,sE,Ny w h]
theorem Wk(n:Nat)(h:n<10 ^ 19):jo [.str jD, .str (fP (TL.numL n))]= .ok (.int (n:Int)):=by
 have e:=Ec n (10 ^ 19) (by omega) h
 have e2:rK (.int 10) (.int 19)= .ok (.int (((10 ^ 19:Nat)):Int)):=by
  rw [sU (by decide) (by decide) (by decide)]
  rfl
 simp! only [jo,sE,k_all,e2,e]
theorem W9(n:Nat)(h:n≤MOST):jo [.str lN, .str (fP (TL.numL n))]= .ok (.int (n:Int)):=by
 have hm:MOST<10 ^ 19:=by decide
 have e:=Ec n MOST h (by omega)
 have e2:((MOST:Nat):Int)=1152921504606846976:=by decide
 rw [e2] at e
 simp! only [jo,sE,k_all,e]
theorem Xh(c:Nat)(h:c∈Hi):jo [.str lG, .str (s1 c)]= .ok (.str (s1 c)):=by
 have e:rZ [.str (s1 c), .int 1]= .ok (.str (s1 c)):=Il [c] 1 (by simp) (by simp) (by omega) (by simpa using h)
 simp! only [jo,sE,k_all,e]
theorem VR(w:List Nat)(h1:1≤w.length)(h2:w.length≤40)(h:∀c∈w,c∈Hi):jo [.str j6, .str (fP w)]= .ok (.str (fP w)):=by
 have e:=Il w 40 h1 h2 (by omega) h
 have e2:(((40:Nat)):Int)=40:=rfl
 rw [e2] at e
 simp! only [jo,sE,k_all,e]
end Sb
namespace Sb
open PySem PySem.Spec L2 Evl DL
def Dd.args:Dd (List Nat)→List (Str×List Nat×D)
 | .is w=>[(j6,w, .str (fP w))]
 | .join a b=>[(jA,a,iU a),(jA,b,iU b)]
 | .times a m=>[(jA,a,iU a),(lN,TL.numL m, .int (m:Int))]
 | .cut a s e=>[(jA,a,iU a),(jD,TL.numL s, .int (s:Int)),(jD,TL.numL e, .int (e:Int))]
 | .turn a=>[(jA,a,iU a)]
 | .put a s o=>[(jA,a,iU a),(lG,[s], .str (s1 s)),(lG,[o], .str (s1 o))]
 | .insert a p b=>[(jA,a,iU a),(jD,TL.numL p, .int (p:Int)),(jA,b,iU b)]
 | .remove a s e=>[(jA,a,iU a),(jD,TL.numL s, .int (s:Int)),(jD,TL.numL e, .int (e:Int))]
theorem Dd.Hr(d:Dd (List Nat)):d.args.map (fun q=>q.2.2)=d.rest iU:=by cases d<;>rfl
def Dd.row(w:List Nat)(d:Dd (List Nat)):List (List Nat):=w::d.verb.cps.toList::d.args.map (fun q=>q.2.1)
structure zX(w:List Nat)(d:Dd (List Nat)):Prop where
 w:zB w
 r:∀a∈d.refs,zB a
 v:∀q∈d.args,jo [.str q.1, .str (fP q.2.1)]= .ok q.2.2∧v7 q.2.2 .none= .ok (.bool false)∧(Cz [q.2.2]= .ok (.str (fP q.2.1)))∧q.2.1.length≤40∧∀c∈q.2.1,48≤c∧c≠59
theorem aeF:∀c∈Hi,48≤c∧c≠59:=by decide+kernel
theorem YJ(n:Nat)(h:n<10 ^ 19):Cz [.int (n:Int)]= .ok (.str (fP (TL.numL n))):=by
 have e:((n:Int)).natAbs.log2<1920:=by
  have h2:n<2 ^ 100:=Nat.lt_trans h (by decide)
  have:((n:Int)).natAbs=n:=rfl
  rw [this]
  by_cases z:n=0
  ·subst z
   decide
  ·have:=(Nat.log2_lt z).mpr h2
   omega
 simp only [Cz,e,if_true]
 exact congrArg (fun x=>ER.ok (aN x)) (Yv n)
theorem aex{w:List Nat}(h:zB w):∀c∈w,48≤c∧c≠59:=fun c hc=>by
 have:=h.2.2 c hc
 omega
theorem acW(n:Nat):∀c∈TL.numL n,48≤c∧c≠59:=fun c hc=>by
 have:48≤c∧c≤57:=TL.numL_digits n c hc
 omega
theorem afV(w:List Nat)(hw:zB w)(d:Dd (List Nat))(hr:∀a∈d.refs,zB a)(t:List Nat→List Nat)(ok:d.ok t)(hm:∀a∈d.refs,(t a).length≤MOST):zX w d where
 w:=hw
 r:=hr
 v:=by
  have hM:MOST<10 ^ 19:=by decide
  have wd:∀a,zB a→jo [.str jA, .str (fP a)]= .ok (iU a)∧v7 (iU a) .none= .ok (.bool false)∧(Cz [iU a]= .ok (.str (fP a)))∧a.length≤40∧∀c∈a,48≤c∧c≠59:=fun a h=>⟨X8 a h,rfl,rfl,by have:=h.2.1;omega,aex h⟩
  have pl:∀n:Nat,n<10 ^ 19→jo [.str jD, .str (fP (TL.numL n))]= .ok (.int (n:Int))∧v7 (aD (n:Int)) .none= .ok (.bool false)∧(Cz [.int (n:Int)]= .ok (.str (fP (TL.numL n))))∧(TL.numL n).length≤40∧∀c∈TL.numL n,48≤c∧c≠59:=fun n h=>⟨Wk n h,rfl,YJ n h,by have:=TL.numL_len (n:=n) (k:=19) (by omega) h;omega,acW n⟩
  have my:∀n:Nat,n≤MOST→jo [.str lN, .str (fP (TL.numL n))]= .ok (.int (n:Int))∧v7 (aD (n:Int)) .none= .ok (.bool false)∧(Cz [.int (n:Int)]= .ok (.str (fP (TL.numL n))))∧(TL.numL n).length≤40∧∀c∈TL.numL n,48≤c∧c≠59:=fun n h=>⟨W9 n h,rfl,YJ n (by omega),by have:=TL.numL_len (n:=n) (k:=19) (by omega) (by omega);omega,acW n⟩
  have sg:∀c:Nat,c∈Hi→jo [.str lG, .str (fP [c])]= .ok (.str (s1 c))∧v7 (aN (s1 c)) .none= .ok (.bool false)∧(Cz [.str (s1 c)]= .ok (.str (fP [c])))∧[c].length≤40∧∀x∈[c],48≤x∧x≠59:=fun c h=>by
   refine⟨Xh c h,rfl,rfl,by simp,fun x hx=> ?_⟩
   have:x=c:=by simpa using hx
   rw [this]
   exact aeF c h
  have len:∀a∈d.refs,∀n:Nat,n≤(t a).length→n<10 ^ 19:=fun a ha n h=>by
   have:=hm a ha
   omega
  cases d with
  |is w=>
   intro q hq
   have:q=(j6,w, .str (fP w)):=by simpa [Dd.args] using hq
   subst this
   exact⟨VR w ok.1 ok.2.1 ok.2.2,rfl,rfl,ok.2.1,fun c hc=>aeF c (ok.2.2 c hc)⟩
  |join a b=>
   intro q hq
   simp only [Dd.args,aJ,bD,or_false] at hq
   rcases hq with rfl|rfl
   ·exact wd a (hr a (by simp [Dd.refs]))
   ·exact wd b (hr b (by simp [Dd.refs]))
  |times a m=>
   intro q hq
   simp only [Dd.args,aJ,bD,or_false] at hq
   rcases hq with rfl|rfl
   ·exact wd a (hr a (by simp [Dd.refs]))
   ·exact my m ok.1
  |cut a s e=>
   intro q hq
   simp only [Dd.args,aJ,bD,or_false] at hq
   rcases hq with rfl|rfl|rfl
   ·exact wd a (hr a (by simp [Dd.refs]))
   ·exact pl s (len a (by simp [Dd.refs]) s (bf ok.1 ok.2))
   ·exact pl e (len a (by simp [Dd.refs]) e ok.2)
  |turn a=>
   intro q hq
   simp only [Dd.args,aJ,bD,or_false] at hq
   subst hq
   exact wd a (hr a (by simp [Dd.refs]))
  |put a s o=>
   intro q hq
   simp only [Dd.args,aJ,bD,or_false] at hq
   rcases hq with rfl|rfl|rfl
   ·exact wd a (hr a (by simp [Dd.refs]))
   ·exact sg s ok.1
   ·exact sg o ok.2
  |insert a p b=>
   intro q hq
   simp only [Dd.args,aJ,bD,or_false] at hq
   rcases hq with rfl|rfl|rfl
   ·exact wd a (hr a (by simp [Dd.refs]))
   ·exact pl p (len a (by simp [Dd.refs]) p ok.1)
   ·exact wd b (hr b (by simp [Dd.refs]))
  |remove a s e=>
   intro q hq
   simp only [Dd.args,aJ,bD,or_false] at hq
   rcases hq with rfl|rfl|rfl
   ·exact wd a (hr a (by simp [Dd.refs]))
   ·exact pl s (len a (by simp [Dd.refs]) s (bf ok.1 ok.2))
   ·exact pl e (len a (by simp [Dd.refs]) e ok.2)
theorem N6(d:Dd (List Nat)):1≤d.args.length∧d.args.length≤3:=by cases d<;>simp [Dd.args]
theorem abw(d:Dd (List Nat)):fP d.verb.cps.toList=d.verb:=TL.ext_tl rfl
theorem adz(d:Dd (List Nat)):d.verb.cps.toList.length≤10∧∀c∈d.verb.cps.toList,48≤c∧c≠59:=by cases d<;>simp only [Dd.verb]<;>decide+kernel
theorem Bh{w:List Nat}{d:Dd (List Nat)}(h:zX w d):∀p∈d.row w,p.length≤40∧∀c∈p,48≤c∧c≠59:=fun p hp=>by
 unfold Dd.row at hp
 rcases aJ.mp hp with rfl|hp
 ·exact⟨by have:=h.w.2.1;omega,aex h.w⟩
 ·rcases aJ.mp hp with rfl|hp
  ·have:=adz d
   exact⟨by omega,this.2⟩
  ·obtain⟨q,hq,rfl⟩:=cC.mp hp
   exact(h.v q hq).2.2.2
theorem O4:∀xs:List Str,MT (xs.map aN)=some xs
 |[]=>rfl
 |x::xs=>by
  show(MT (xs.map aN)).map (x::·)=_
  rw [O4 xs]
  rfl
theorem sum_le{ls:List (List Nat)}{m:Nat}(h:∀l∈ls,l.length≤m):((ls.map fP).map (·.length)).sum≤ls.length*m:=by
 induction ls with
 |nil=>simp
 |cons l ls ih=>
  have h1:=h l (by simp)
  have h2:=ih fun x hx=>h x (aM _ hx)
  simp only [aZ,List.sum_cons,lK,aW,Nat.add_mul,Nat.one_mul]
  omega
theorem Yc(a:Str)(ls:List (List Nat)):Txt.join a (ls.map fP)=fP (TL.joinL a.cps.toList ls):=by
 rw [TL.join_eq]
 refine TL.ext_tl ?_
 rw [TL.tl_join]
 have e:(ls.map fP).map TL.tl=ls:=by
  rw [bY]
  exact List.map_id' ls
 rw [e]
theorem JC(a:Str)(ls:List (List Nat))(m:Nat)(h:∀l∈ls,l.length≤m)(hb:ls.length*m+ls.length*a.length≤16777216):wO a (.list (ls.map fun l=>aN (fP l)))= .ok (.str (fP (TL.joinL a.cps.toList ls))):=by
 have e:(ls.map fun l=>aN (fP l))=(ls.map fP).map aN:=by rw [bY];rfl
 have h2:=sum_le h
 have h3:((ls.map fP).map (·.length)).sum+(ls.map fP).length*a.length≤16777216:=by
  rw [aA]
  omega
 rw [e]
 simp only [wO,O4,h3,if_true,Yc]
theorem Ss(ts:List (Str×List Nat×D))(hl:ts.length≤100)(h:∀q∈ts,jo [.str q.1, .str (fP q.2.1)]= .ok q.2.2∧v7 q.2.2 .none= .ok (.bool false)):Ax [.list (ts.map fun q=>aN q.1), .list (ts.map fun q=>aN (fP q.2.1))]= .ok (.list (ts.map fun q=>q.2.2)):=by
 obtain⟨K,hK⟩:∃K,K=di (ts.map fun q=>aN q.1):=⟨_,rfl⟩
 obtain⟨W,hW⟩:∃W,W=di (ts.map fun q=>aN (fP q.2.1)):=⟨_,rfl⟩
 have bk:je [K]= .ok (.int ((ts.length:Nat):Int)):=by rw [hK];simp
 have bw:je [W]= .ok (.int ((ts.length:Nat):Int)):=by rw [hW];simp
 rw [←hK,←hW]
 refine jg ?_
 show Rt (zU [.dat K, .dat W, .un, .un, .un, .un]) _
 unfold zU
 refine fD (ρ' :=[.dat K, .dat W, .un, .un, .un, .un]) (by simp! only [bk,bw]) ?_
 refine fD (ρ' :=[.dat K, .dat W, .own (.list []), .un, .un, .un]) (by simp! only []) ?_
 refine oK (N:=fun ρ=>∃k3 k4 k5:Sl,ρ=[.dat K, .dat W, .own (.list (ts.map fun q=>q.2.2)),k3,k4,k5]) ?_ ?_
 ·have loop:=lZ (mi:=iZ (eE 0) (eE 1)) (g:=gT [(gN 3),(gN 4)]) (body:=(fK (gG 5 (fG jo [(eE 3),(eE 4)]))
 (fK (ju (eV v7 (eE 5) (eC .none)) (gH (eC .none)) fZ)
 (qK 2 (eE 5))))) (ρ:=[.dat K, .dat W, .own (.list []), .un, .un, .un]) (ds:=ts.map fun q=>bZ [.str q.1, .str (fP q.2.1)])
   (fun i ρ=>∃k3 k4 k5:Sl,ρ=[.dat K, .dat W, .own (.list ((ts.take i).map fun q=>q.2.2)),k3,k4,k5])
   (by
     rw [hK,hW]
     simp! only [iZ,nM,Mu]
     rw [List.zipWith_map_left,List.zipWith_map_right,List.zipWith_self]) ⟨_,_,_,rfl⟩ (by
    rintro i d ρ hd ⟨k3,k4,k5,rfl⟩
    rw [aH,aK] at hd
    obtain⟨q,hq,rfl⟩:=hd
    obtain⟨hv,hn⟩:=h q (aX hq)
    have hi:=(aq.mp hq).1
    refine⟨_,Yk,?_⟩
    simp only [set_0,jU]
    refine iy (ρ' :=[.dat K, .dat W, .own (.list ((ts.take i).map fun q=>q.2.2)), .dat (.str q.1), .dat (.str (fP q.2.1)), .dat q.2.2]) (pG (jM rfl rfl hv)) ?_
    refine iy (ρ' :=[.dat K, .dat W, .own (.list ((ts.take i).map fun q=>q.2.2)), .dat (.str q.1), .dat (.str (fP q.2.1)), .dat q.2.2]) (by
     simp! only [hn]) ?_
    refine jE ?_ ⟨.dat (.str q.1), .dat (.str (fP q.2.1)), .dat q.2.2,rfl⟩
    have cl:((ts.take i).map fun q=>q.2.2).length<sizeLine:=by
     rw [aA,aY]
     exact lY (by omega)
    simp only [qK,jO,kJ,set_0,jU,aQ,aG,cl,if_true]
    rw [bH,hq]
    simp)
  rw [aA,bV] at loop
  exact loop
 ·rintro ρ ⟨k3,k4,k5,rfl⟩
  exact⟨_,rfl,rfl⟩
theorem Ji(d:Dd (List Nat)):uQ [.str d.verb]= .ok (.list (d.args.map fun q=>aN q.1)):=by
 cases d<;>simp! only [uQ,NP,Dd.verb,Dd.args,aZ,dR,qM,Xw,v_all]
theorem Jo{w:List Nat}{d:Dd (List Nat)}(h:zX w d):rH [.str (fP (TL.joinL [32] (d.row w)))]= .ok (.tuple [.str d.verb,iU w, .list (d.rest iU)]):=by
 have al:=N6 d
 obtain⟨R,hR⟩:∃R,R=fP (TL.joinL [32] (d.row w)):=⟨_,rfl⟩
 obtain⟨L,hL⟩:∃L,L=di ((d.row w).map fun l=>aN (fP l)):=⟨_,rfl⟩
 have e5:(" ":Str).cps.toList=[32]:=by decide+kernel
 have sp:tU R (.str " ")= .ok L:=by
  have e1:(((" ":Str).length==0)=false):=by decide+kernel
  have e2:R.length+2≤sizeLine:=by
   have:∀ls:List (List Nat),(∀l∈ls,l.length≤40)→(TL.joinL [32] ls).length≤ls.length*41:=by
    intro ls
    induction ls with
    |nil=>intro _;simp [TL.joinL]
    |cons l ls ih=>
     intro hh
     have h1:=hh l (by simp)
     have h2:=ih fun x hx=>hh x (aM _ hx)
     cases ls with
     |nil=>simp only [TL.joinL,aW,bW];omega
     |cons x r=>
      simp only [TL.joinL,au,aW,bW] at h2⊢
      omega
   have h3:=this (d.row w) fun l hl=>(Bh h l hl).1
   rw [hR,lK]
   have:(d.row w).length≤5:=by simp only [Dd.row,aW,aA];omega
   exact tG (by omega)
  have e3:Txt.split R " "=(d.row w).map fP:=by
   have j:=Yc " " (d.row w)
   rw [e5] at j
   rw [hR,←j]
   refine TL.split_join (s:=32) (S:=[]) e5 (by decide+kernel) (by simp [Dd.row]) fun p hp=> ?_
   obtain⟨l,hl,rfl⟩:=cC.mp hp
   intro z
   have:=(Bh h l hl).2 32 z
   omega
  rw [hL]
  simp only [tU,e1,e2,and_self,if_true,e3,bY]
  rfl
 have ln:je [L]= .ok (.int ((2+d.args.length:Nat):Int)):=by
  rw [hL,Hl,aA]
  simp only [Dd.row,aW,aA]
  congr 3
  omega
 have x0:gj L (.int 0)= .ok (iU w):=by
  rw [hL,tW (by omega) (by simp only [aA,Dd.row,aW];omega)]
  rfl
 have x1:gj L (.int 1)= .ok (.str d.verb):=by
  rw [hL,tW (by omega) (by simp only [aA,Dd.row,aW];omega)]
  show ER.ok (aN (fP d.verb.cps.toList))=_
  rw [abw]
 have sl:∀ρ:DL.Env,eE 1 ρ= .ok L→Cp (eE 1) (some (eC (.int 2))) none ρ= .ok (.list (d.args.map fun q=>aN (fP q.2.1))):=fun ρ hv=>by
  rw [hL] at hv
  have:=aec (m:=eE 1) (ma:=eC (.int 2)) (k:=2) hv rfl
  rw [this]
  simp only [Dd.row,aZ,List.drop_succ_cons,List.drop_zero,bY]
  rfl
 have vo:=Ss d.args (by omega) fun q hq=>⟨(h.v q hq).1,(h.v q hq).2.1⟩
 rw [d.Hr] at vo
 rw [←hR]
 refine jg ?_
 show Rt (uX [.dat (.str R), .un, .un, .un]) _
 unfold uX
 have fl:acM L= .ok L:=by rw [hL];rfl
 refine fD (ρ' :=[.dat (.str R), .dat L, .un, .un]) (by simp! only [qM,Bg,sp,fl]) ?_
 refine fD (ρ' :=[.dat (.str R), .dat L, .un, .un]) (by simp! only [ln,x0,iU,Ny w h.w,show¬(((2+d.args.length:Nat):Int)<3) by omega]) ?_
 refine fD (ρ' :=[.dat (.str R), .dat L, .dat (.list (d.args.map fun q=>aN q.1)), .un]) (by simp! only [x1,Ji]) ?_
 refine fD (ρ' :=[.dat (.str R), .dat L, .dat (.list (d.args.map fun q=>aN q.1)), .un]) rfl ?_
 refine fD (ρ' :=[.dat (.str R), .dat L, .dat (.list (d.args.map fun q=>aN q.1)), .dat (.list (d.rest iU))]) (pG (jM rfl (sl _ rfl) vo)) ?_
 refine fD (ρ' :=[.dat (.str R), .dat L, .dat (.list (d.args.map fun q=>aN q.1)), .dat (.list (d.rest iU))]) rfl ?_
 exact gU (by simp! only [x0,x1]) rfl
end Sb
namespace Sb
open PySem PySem.Spec L2 Evl DL
def xj(rs:List Rule)(ns:List Nat):List Nat:=(ns.map fun i=>(texts rs).getD i []).flatten
theorem U9{rs:List Rule}{ns:List Nat}(h:∀n∈ns,n<rs.length)(qs:List Rule):xj (rs++qs) ns=xj rs ns:=by
 unfold xj
 congr 1
 exact bQ fun n hn=>iI (h n hn) qs
theorem uO(rs:List Rule)(ns:List Nat)(n:Nat):xj rs (ns++[n])=xj rs ns++(texts rs).getD n []:=by simp [xj]
theorem aae(ns:List Nat)(n:Nat):di ((ns.map fun(n:Nat)=>aD (n:Int))++[.int (n:Int)])=fL (ns++[n]):=by simp [fL]
theorem KN(rs:List Rule)(r:Rule)(hl:rs.length<1000):jw (fu rs) (.tuple [fJ r])= .ok (fu (rs++[r])):=by
 have:=W7 rs [r] (by simp;omega)
 exact this
theorem Mj{i:Nat}{m:EM}{ρ:DL.Env}{ns:List Nat}{n:Nat}(h:ρ[i]? =some (.own (fL ns)))(hm:m ρ= .ok (.int (n:Int)))(hl:ns.length<1000):qK i m ρ= .nx (ρ.set i (.own (fL (ns++[n])))):=by
 rw [app_ok (ds:=ns.map fun(n:Nat)=>aD (n:Int)) (d:= .int (n:Int)) h hm (by rw [aA];exact lY (by omega)),aae]
theorem acD{rs:List Rule}{ns:List Nat}{i:Nat}(h:i+1<ns.length):((texts rs).getD (ns.getD i 0) []).length+((texts rs).getD (ns.getD (i+1) 0) []).length≤(xj rs ns).length:=by
 have e:ns=ns.take i++(ns.getD i 0::ns.getD (i+1) 0::ns.drop (i+2)):=by
  have e1:ns.drop i=ns.getD i 0::ns.drop (i+1):=by
   rw [List.drop_eq_getElem_cons (by omega)]
   simp [bJ,show i<ns.length by omega]
  have e2:ns.drop (i+1)=ns.getD (i+1) 0::ns.drop (i+2):=by
   rw [List.drop_eq_getElem_cons (by omega)]
   simp [bJ,show i+1<ns.length by omega]
  rw [←e2,←e1,bO]
 have:xj rs ns=xj rs (ns.take i)++((texts rs).getD (ns.getD i 0) []++((texts rs).getD (ns.getD (i+1) 0) []++xj rs (ns.drop (i+2)))):=by
  conv=>lhs;rw [e]
  simp [xj]
 rw [this]
 simp only [au]
 omega
theorem getD_mem{ns:List Nat}{i:Nat}(h:i<ns.length):ns.getD i 0∈ns:=by
 rw [bJ,aP h]
 exact dG h
structure Gs(rs:List Rule):Prop where
 g:Good rs
 t:tN rs=0
theorem Gs.nil:Gs []:=⟨Good.nil,rfl⟩
theorem Gs.snoc{rs:List Rule}{r:Rule}(h:Gs rs)(ok:r.ok rs.length)(nt:tN [r]=0:=by rfl):Gs (rs++[r]):=⟨h.g.snoc ok,by rw [CG,h.t,nt]⟩
theorem V5(w:List Nat)(h1:1≤w.length)(h2:w.length≤40)(hs:∀c∈w,c∈Hi):∃rs k,qw [.str (fP w)]= .ok (.tuple [fu rs, .int ((k:Nat):Int)])∧Gs rs∧Fits MOST rs∧k<rs.length∧(texts rs).getD k []=w∧rs.length+1≤2*w.length:=by
 have hM:40≤MOST:=by decide
 obtain⟨X,hX⟩:∃X,X=aN (fP w):=⟨_,rfl⟩
 rw [←hX]
 have run:Rt (qj [.dat X, .un, .un, .un, .un, .un]) (fun d=>∃rs k,d= .tuple [fu rs, .int ((k:Nat):Int)]∧Gs rs∧Fits MOST rs∧k<rs.length∧(texts rs).getD k []=w∧rs.length+1≤2*w.length):=by
  unfold qj
  refine fD (ρ' :=[.dat X, .dat (fu []), .un, .un, .un, .un]) (by simp! only [];rfl) ?_
  refine fD (ρ' :=[.dat X, .dat (fu []), .own (fL []), .un, .un, .un]) (by simp! only [];rfl) ?_
  refine oK (N:=fun ρ=>∃(rs:List Rule) (ns:List Nat) (k3:Sl),ρ=[.dat X, .dat (fu rs), .own (fL ns),k3, .un, .un]∧Gs rs∧Fits MOST rs∧rs.length=w.length∧ns.length=w.length∧(∀n∈ns,n<rs.length)∧xj rs ns=w) ?_ ?_
  ·have loop:=lZ (mi:=iS (eE 0)) (g:=gN 3) (body:=(fK (qK 2 (fG je [(eE 1)]))
 (gG 1 (eV jw (eE 1) (jG [(jG [(eC (.str "sign")),(eE 3)])]))))) (ρ:=[.dat X, .dat (fu []), .own (fL []), .un, .un, .un]) (ds:=w.map fun c=>aN (s1 c))
    (fun i ρ=>∃(rs:List Rule) (ns:List Nat) (k3:Sl),ρ=[.dat X, .dat (fu rs), .own (fL ns),k3, .un, .un]∧Gs rs∧Fits MOST rs∧rs.length=i∧ns.length=i∧(∀n∈ns,n<rs.length)∧xj rs ns=w.take i)
    (by rw [hX];rfl) ⟨[],[],_,rfl,Gs.nil,(fun n hn=>by cases hn),rfl,rfl,(fun n hn=>by cases hn),rfl⟩ (by
     rintro i d ρ hd ⟨rs,ns,k3,rfl,g,f,l1,l2,lt,ct⟩
     rw [aH,aK] at hd
     obtain⟨c,hc,rfl⟩:=hd
     have hi:=(aq.mp hc).1
     refine⟨_,nu,?_⟩
     simp only [set_0,jU]
     refine iy (ρ' :=[.dat X, .dat (fu rs), .own (fL (ns++[rs.length])), .dat (.str (s1 c)), .un, .un]) (Mj (ns:=ns) (n:=rs.length) rfl (by simp! only [sG]) (by omega)) ?_
     have ad:=KN rs (.sign c) (by omega)
     refine jE (ρ' :=[.dat X, .dat (fu (rs++[.sign c])), .own (fL (ns++[rs.length])), .dat (.str (s1 c)), .un, .un]) (by simp only [fJ] at ad;simp! only [Q7,ad]) ⟨rs++[.sign c],ns++[rs.length],_,rfl,?_,?_,by simp [l1],by simp [l2],fun n hn=> ?_,?_⟩
     ·exact g.snoc (hs c (aX hc))
     ·exact f.snoc (by show 1≤MOST;decide)
     ·rcases aR.mp hn with hn|hn
      ·have:=lt n hn
       rw [au]
       omega
      ·have:n=rs.length:=by simpa using hn
       rw [au,cD]
       omega
     ·rw [uO,U9 lt,ct,lH,bH,hc]
      rfl)
   rw [aA,bV] at loop
   exact loop
  ·rintro ρ ⟨rs,ns,k3,rfl,g,f,l1,l2,lt,ct⟩
   refine oK (N:=fun ρ=>∃(rs:List Rule) (n:Nat) (k3 k4 k5:Sl),ρ=[.dat X, .dat (fu rs), .own (fL [n]),k3,k4,k5]∧Gs rs∧Fits MOST rs∧n<rs.length∧(texts rs).getD n []=w∧rs.length+1≤2*w.length) (xK (fun j ρ=>∃(rs:List Rule) (ns:List Nat) (k3 k4 k5:Sl),ρ=[.dat X, .dat (fu rs), .own (fL ns),k3,k4,k5]∧Gs rs∧Fits MOST rs∧ns.length=j∧1≤j∧rs.length+j≤2*w.length∧(∀n∈ns,n<rs.length)∧xj rs ns=w) w.length (by omega) ⟨rs,ns,_,_,_,rfl,g,f,l2,h1,by omega,lt,ct⟩ ?_) ?_
   ·clear l1 l2 lt ct f g rs ns k3
    rintro j ρ ⟨rs,ns,k3,k4,k5,rfl,g,f,lj,j1,bd,lt,ct⟩
    have bl:je [fL ns]= .ok (.int ((j:Nat):Int)):=by rw [Xq,lj]
    by_cases hj:j=1
    ·left
     refine⟨by simp! only [bl,show¬((j:Nat):Int)>1 by omega],?_⟩
     obtain⟨n,rfl⟩:∃n,ns=[n]:=List.length_eq_one_iff.mp (by omega)
     refine⟨rs,n,_,_,_,rfl,g,f,lt n (by simp),?_,by omega⟩
     rw [←ct]
     simp [xj]
    ·right
     refine⟨by simp! only [bl,show((j:Nat):Int)>1 by omega],j/2+j%2,by omega,?_⟩
     refine iy (ρ' :=[.dat X, .dat (fu rs), .own (fL ns),k3, .own (fL []),k5]) (by simp! only [];rfl) ?_
     refine aes (M:=fun ρ=>∃(qs:List Rule) (ms:List Nat) (k5:Sl),ρ=[.dat X, .dat (fu (rs++qs)), .own (fL ns),k3, .own (fL ms),k5]∧Gs (rs++qs)∧Fits MOST (rs++qs)∧qs.length=j/2∧ms.length=j/2∧(∀n∈ms,n<(rs++qs).length)∧xj (rs++qs) ms=xj rs (ns.take (2*(j/2)))) ?_ ?_
     ·have sd:Fq 0 ((j:Int)-1) 2=(bU (j/2)).map fun(i:Nat)=>aD ((2*i:Nat):Int):=by
       unfold Fq
       rw [if_pos (by omega),show(((j:Int)-1-0-1)/2+1).toNat=j/2 by omega]
       refine bQ fun i _=> ?_
       congr 1
       omega
      have loop:=lZ (mi:=iRc 2 (eC (.int 0)) (eV pH (fG je [(gD 2)]) (eC (.int 1))) (eC (.int 2))) (g:=gN 5) (body:=(fK (qK 4 (fG je [(eE 1)]))
 (gG 1 (eV jw (eE 1) (jG [(jG [(eC (.str "join")),(eV gj (gD 2) (eE 5)),(eV gj (gD 2) (eV jw (eE 5) (eC (.int 1))))])]))))) (ρ:=[.dat X, .dat (fu rs), .own (fL ns),k3, .own (fL []),k5]) (ds:=(bU (j/2)).map fun(i:Nat)=>aD ((2*i:Nat):Int))
       (fun i ρ=>∃(qs:List Rule) (ms:List Nat) (k5:Sl),ρ=[.dat X, .dat (fu (rs++qs)), .own (fL ns),k3, .own (fL ms),k5]∧Gs (rs++qs)∧Fits MOST (rs++qs)∧qs.length=i∧ms.length=i∧(∀n∈ms,n<(rs++qs).length)∧xj (rs++qs) ms=xj rs (ns.take (2*i)))
       (by
         rw [←sd]
         have c1:inR ((j:Int)-1)=true:=Xb (by omega) (by omega)
         have c0:inR 0=true:=by decide
         simp! only [iRc,nM,bl,c0,c1,Bool.and_self,decide_true,if_true]) ⟨[],[],_,by rw [aU],by rw [aU];exact g,by rw [aU];exact f,rfl,rfl,(fun n hn=>by cases hn),rfl⟩ (by
        rintro i d ρ hd ⟨qs,ms,k5,rfl,g1,f1,q1,q2,lt1,ct1⟩
        rw [aH,aK] at hd
        obtain⟨i',hi,rfl⟩:=hd
        have hij:=(aq.mp hi).1
        rw [cM] at hij
        rw [List.getElem?_range hij] at hi
        cases hi
        have ha:2*i<ns.length:=by omega
        have hb:2*i+1<ns.length:=by omega
        have ixa:=kY ha
        have ixb:=kY hb
        rw [show(((2*i+1:Nat)):Int)=((2*i:Nat):Int)+1 by omega] at ixb
        have la:=lt _ (getD_mem ha)
        have lb:=lt _ (getD_mem hb)
        have two:=acD (rs:=rs) hb
        rw [ct] at two
        refine⟨_,nu,?_⟩
        simp only [set_0,jU]
        refine iy (ρ' :=[.dat X, .dat (fu (rs++qs)), .own (fL ns),k3, .own (fL (ms++[(rs++qs).length])), .dat (.int ((2*i:Nat):Int))]) (Mj (ns:=ms) (n:=(rs++qs).length) rfl (by simp! only [sG]) (by omega)) ?_
        have ad:=KN (rs++qs) (.join (ns.getD (2*i) 0) (ns.getD (2*i+1) 0)) (by rw [au];omega)
        simp only [fJ] at ad
        rw [aF] at ad
        refine jE (ρ' :=[.dat X, .dat (fu (rs++(qs++[.join (ns.getD (2*i) 0) (ns.getD (2*i+1) 0)]))), .own (fL ns),k3, .own (fL (ms++[(rs++qs).length])), .dat (.int ((2*i:Nat):Int))]) (by simp! only [Q7,ixa,ixb,ad]) ⟨qs++[.join (ns.getD (2*i) 0) (ns.getD (2*i+1) 0)],ms++[(rs++qs).length],_,rfl,?_,?_,by simp [q1],by simp [q2],fun n hn=> ?_,?_⟩
        ·rw [←aF]
         exact g1.snoc ⟨by rw [au];omega,by rw [au];omega⟩
        ·rw [←aF]
         refine f1.snoc ?_
         show(sizes (rs++qs)).getD _ 0+(sizes (rs++qs)).getD _ 0≤MOST
         rw [←gW,←gW,iI la,iI lb]
         omega
        ·rw [←aF,au,cD]
         rcases aR.mp hn with hn|hn
         ·have:=lt1 n hn
          omega
         ·have:n=(rs++qs).length:=by simpa using hn
          omega
        ·rw [←aF,uO,U9 lt1,ct1,lH,show 2*(i+1)=2*i+1+1 by omega,bH,bH,aP ha,aP hb]
         show _=xj rs (ns.take (2*i)++[ns[2*i]]++[ns[2*i+1]])
         rw [uO,uO,aF]
         show _++((texts (rs++qs)).getD (ns.getD (2*i) 0) []++(texts (rs++qs)).getD (ns.getD (2*i+1) 0) [])=_
         rw [iI la,iI lb]
         simp [bJ,ha,hb])
      rw [aA,cM] at loop
      exact loop
     ·rintro ρ ⟨qs,ms,k5,rfl,g1,f1,q1,q2,lt1,ct1⟩
      by_cases odd:j%2=1
      ·have md:iz (.int (j:Int)) (.int 2)= .ok (.int 1):=by
        rw [gR (by omega)]
        congr 2
        omega
       have la:=XS (ns:=ns) (by omega)
       refine iy (ρ' :=[.dat X, .dat (fu (rs++qs)), .own (fL ns),k3, .own (fL (ms++[ns.getD (ns.length-1) 0])),k5]) (by
        rw [CP (by simp! only [bl,md])]
        exact Mj (ns:=ms) (n:=ns.getD (ns.length-1) 0) rfl (by simp! only [la]) (by omega)) ?_
       refine jE (ρ' :=[.dat X, .dat (fu (rs++qs)), .own (fL (ms++[ns.getD (ns.length-1) 0])),k3, .un,k5]) rfl ⟨rs++qs,ms++[ns.getD (ns.length-1) 0],_,_,_,rfl,g1,f1,by simp [q2];omega,by omega,by rw [au];omega,fun n hn=> ?_,?_⟩
       ·rcases aR.mp hn with hn|hn
        ·exact lt1 n hn
        ·have e:n=ns.getD (ns.length-1) 0:=by simpa using hn
         have:=lt _ (getD_mem (ns:=ns) (i:=ns.length-1) (by omega))
         rw [au,e]
         omega
       ·have lx:=lt _ (getD_mem (ns:=ns) (i:=ns.length-1) (by omega))
        rw [uO,ct1,iI lx,←uO,←ct]
        congr 1
        rw [show 2*(j/2)=ns.length-1 by omega]
        exact(aaL ns 0 (by omega)).symm
      ·have md:iz (.int (j:Int)) (.int 2)= .ok (.int 0):=by
        rw [gR (by omega)]
        congr 2
        omega
       refine iy (ρ' :=[.dat X, .dat (fu (rs++qs)), .own (fL ns),k3, .own (fL ms),k5]) (by simp! only [bl,md]) ?_
       refine jE (ρ' :=[.dat X, .dat (fu (rs++qs)), .own (fL ms),k3, .un,k5]) rfl ⟨rs++qs,ms,_,_,_,rfl,g1,f1,by omega,by omega,by rw [au];omega,lt1,?_⟩
       rw [ct1,show 2*(j/2)=ns.length by omega,bV,ct]
   ·rintro ρ ⟨rs,n,k3,k4,k5,rfl,g,f,hn,ht,bd⟩
    exact gU (by simp! only [];rfl) ⟨rs,n,rfl,g,f,hn,ht,bd⟩
 obtain⟨d,hd,rs,k,rfl,h⟩:=wJ (ks:=[.dat]) (n:=5) (m:=qj) (ds:=[X]) run
 exact⟨rs,k,hd,h⟩
end Sb
namespace Sb
open PySem PySem.Spec L2 Evl DL
abbrev pairD(rs:List Rule)(n:Option Nat):D:= .tuple [fu rs,eZ n]
structure Eu(rs:List Rule)(n:Option Nat)(w:List Nat):Prop where
 g:Good rs
 f:Fits MOST rs
 nm:fX rs n
 t:gK rs n=w
theorem Eu.len{rs:List Rule}{n:Option Nat}{w:List Nat}(h:Eu rs n w):kW rs n=w.length:=by rw [←lU,h.t]
theorem Eu.app{rs:List Rule}{n:Option Nat}{w:List Nat}(h:Eu rs n w){qs:List Rule}(g:Good (rs++qs))(f:Fits MOST (rs++qs)):Eu (rs++qs) n w:=⟨g,f,h.nm.app qs,by rw [qI h.nm,h.t]⟩
theorem yc(a:D)(r:List D):gj (.list (a::r)) (.int 0)= .ok a:=by
 rw [tW (by omega) (by simp only [aW];omega)]
 rfl
theorem Di(a b:D)(r:List D):gj (.list (a::b::r)) (.int 1)= .ok b:=by
 rw [tW (by omega) (by simp only [aW];omega)]
 rfl
theorem RQ(a b c:D)(r:List D):gj (.list (a::b::c::r)) (.int 2)= .ok c:=by
 rw [tW (by omega) (by simp only [aW];omega)]
 rfl
theorem mD{g:GM}{m:EM}{ρ ρ' :DL.Env}{d:D}(h:m ρ= .ok d)(hg:g d ρ=some ρ'):ou g m ρ= .nx ρ' :=by simp only [ou,h,hg]
theorem Py{rs:List Rule}{n:Option Nat}{w:List Nat}(h:Eu rs n w)(hl:rs.length≤200000)(B:Nat)(hB:∀k,n=some k→k<B)(s e:Nat)(hse:s≤e)(he:e≤w.length):
 ∃qs n',Fg [fu rs,eZ n, .int (s:Int), .int (e:Int)]= .ok (.tuple [fu (rs++qs),eZ n'])∧Eu (rs++qs) n' (stretch w s e)∧Good (rs++qs)∧Fits MOST (rs++qs)∧qs.length≤4*B∧(s=0∨e=w.length→qs.length≤2*B+2)∧T2 qs:=by
 have ln:=h.len
 by_cases hz:s=e
 ·subst hz
  have l1:=u9 rs h.g h.f (by omega) n h.nm
  have c1:(0:Int)≤(s:Int):=by omega
  have c3:(s:Int)≤((kW rs n:Nat):Int):=by omega
  have bt:mj [fu rs]= .ok (fu rs):=rfl
  have lx:yH rs h.g h.f (by omega)=yH rs h.g h.f (by omega):=rfl
  refine⟨[],none,?_,⟨by rw [aU];exact h.g,by rw [aU];exact h.f,fX.none,?_⟩,by rw [aU];exact h.g,by rw [aU];exact h.f,by simp,(fun _=>by simp),T2.nil⟩
  ·refine jg ?_
   show Rt (QC [.dat (fu rs), .dat (eZ n), .dat (.int (s:Int)), .dat (.int (s:Int)), .un, .un, .un, .un, .un]) _
   unfold QC
   refine fD (ρ' :=[.dat (fu rs), .dat (eZ n), .dat (.int (s:Int)), .dat (.int (s:Int)), .dat (.int ((kW rs n:Nat):Int)), .un, .un, .un, .un]) (by simp! only [l1]) ?_
   refine fD (ρ' :=[.dat (fu rs), .dat (eZ n), .dat (.int (s:Int)), .dat (.int (s:Int)), .dat (.int ((kW rs n:Nat):Int)), .un, .un, .un, .un]) (by simp! only [oO,c1,c3,Int.le_refl]) ?_
   exact jP (sX (by simp! only []) (gU (d:= .tuple [fu rs, .none]) (by simp! only [bt]) (by rw [aU];rfl)))
  ·simp [gK,stretch]
 ·obtain⟨qs,n',h1,h2,h3,h4,h5,h6,h7⟩:=ad5 rs h.g h.f hl n h.nm s e hse (by omega)
  rw [h.t] at h6
  cases n with
  |none=>
   exfalso
   simp only [kW] at ln
   omega
  |some k=>
   obtain⟨b1,b2⟩:=h7 k rfl
   have hk:=hB k rfl
   exact⟨qs,n',h1,⟨h2,h3,h5,h6⟩,h2,h3,by omega,(fun z=>by
    have:=(b2 (by rw [ln];exact z)).1
    omega),Bl (dD h4.2 ago)⟩
theorem Ef{rs:List Rule}{a b:Option Nat}{v w:List Nat}(ha:Eu rs a v)(hb:Eu rs b w)(hl:rs.length≤2000000)(hm:v.length+w.length≤MOST):∃qs n',uV [fu rs,eZ a,eZ b]= .ok (.tuple [fu (rs++qs),eZ n'])∧Eu (rs++qs) n' (v++w)∧Good (rs++qs)∧Fits MOST (rs++qs)∧qs.length≤1∧T2 qs:=by
 have h:=aav rs ha.g ha.f (by omega) a b ha.nm hb.nm (by rw [ha.len,hb.len];exact hm)
 obtain⟨qs,l,e,g,f,n,t⟩:=xr ha.g ha.f ha.nm hb.nm (by rw [ha.len,hb.len];exact hm)
 rw [e] at h
 exact⟨qs,_,h,⟨g,f,n,by rw [t,ha.t,hb.t]⟩,g,f,l,T2.no (qX e)⟩
theorem Zj{rs os:List Rule}{n m:Option Nat}{v w:List Nat}(h:Eu rs n v)(ho:Eu os m w)(hl:rs.length+os.length≤2000000):rG [pairD rs n,pairD os m]= .ok (.tuple [fu (rs++bring rs os),eZ n,eZ (pK rs m)])∧Eu (rs++bring rs os) n v∧Eu (rs++bring rs os) (pK rs m) w∧(bring rs os).length=os.length:=by
 have br:=Kw rs os ho.g (by omega) m ho.nm
 obtain⟨g,f,_⟩:=LQ h.g h.f os ho.g ho.f
 obtain⟨bn,bt⟩:=Pb h.g h.f ho.g ho.f ho.nm
 refine⟨?_,h.app g f,⟨g,f,bn,by rw [bt,ho.t]⟩,by simp [bring]⟩
 refine jg ?_
 show Rt (vA [.dat (pairD rs n), .dat (pairD os m), .un, .un]) _
 unfold vA
 refine fD (ρ' :=[.dat (pairD rs n), .dat (pairD os m), .dat (fu (rs++bring rs os)), .dat (eZ (pK rs m))]) (mD (d:= .tuple [fu (rs++bring rs os),eZ (pK rs m)]) (kE (x:=fu rs) (y:=fu os) (z:=eZ m) (by simp! only [ig]) (by simp! only [ig]) (by simp! only [iD]) br) rfl) ?_
 exact gU (by simp! only [iD]) rfl
theorem aax{rs os:List Rule}{n m:Option Nat}{v w:List Nat}(h:Eu rs n v)(ho:Eu os m w)(p:Nat)(hp:p≤v.length)(hm:v.length+w.length≤MOST)(hl:5*rs.length+os.length+6≤200000):
 ∃qs k,M4 [pairD rs n, .int (p:Int),pairD os m]= .ok (pairD qs k)∧Eu qs k (v.take p++w++v.drop p)∧qs.length≤5*rs.length+os.length+6∧(T2 rs→T2 os→T2 qs):=by
 obtain⟨s1,t1,t2,bl⟩:=Zj h ho (by omega)
 obtain⟨R,hR⟩:∃R,R=rs++bring rs os:=⟨_,rfl⟩
 have Rl:R.length=rs.length+os.length:=by rw [hR,au,bl]
 rw [←hR] at s1 t1 t2
 obtain⟨mid,hmid⟩:∃mid,mid=pK rs m:=⟨_,rfl⟩
 rw [←hmid] at s1 t2
 have hB:∀k,n=some k→k<rs.length:=fun k e=>h.nm k e
 have ln:=u9 R t1.g t1.f (by omega) n t1.nm
 rw [t1.len] at ln
 obtain⟨q1,a,c1,ta,g1,f1,_,l1,x1⟩:=Py t1 (by omega) rs.length hB 0 p (cG _) hp
 have l1' :=l1 (.inl rfl)
 obtain⟨q2,b,c2,tb,g2,f2,_,l2,x2⟩:=Py (t1.app g1 f1) (by rw [au];omega) rs.length hB p v.length hp (bA _)
 have l2' :=l2 (.inr rfl)
 have z1:(stretch v 0 p).length=p:=by rw [vM hp];omega
 have z2:(stretch v p v.length).length=v.length-p:=by rw [vM (bA _)]
 obtain⟨q3,c,c3,tc,g3,f3,l3,x3⟩:=Ef (ta.app g2 f2) ((t2.app g1 f1).app g2 f2) (by simp only [au];omega) (by rw [z1];omega)
 obtain⟨q4,d,c4,td,g4,f4,l4,x4⟩:=Ef tc (tb.app g3 f3) (by simp only [au];omega) (by rw [au,z1,z2];omega)
 refine⟨R++q1++q2++q3++q4,d,?_,?_,by simp only [au];omega,fun za zb=>by
  rw [hR]
  exact((((za.app (T2.bring zb)).app x1).app x2).app x3).app x4⟩
 ·refine jg ?_
  show Rt (Lr [.dat (pairD rs n), .dat (.int (p:Int)), .dat (pairD os m), .un, .un, .un, .un, .un, .un, .un]) _
  unfold Lr
  refine fD (ρ' :=[.dat (pairD rs n), .dat (.int (p:Int)), .dat (pairD os m), .dat (fu R), .dat (eZ n), .dat (eZ mid), .un, .un, .un, .un]) (mD (jM rfl rfl s1) rfl) ?_
  refine fD (ρ' :=[.dat (pairD rs n), .dat (.int (p:Int)), .dat (pairD os m), .dat (fu R), .dat (eZ n), .dat (eZ mid), .dat (.int ((v.length:Nat):Int)), .un, .un, .un]) (pG (jM rfl rfl ln)) ?_
  refine fD (ρ' :=[.dat (pairD rs n), .dat (.int (p:Int)), .dat (pairD os m), .dat (fu (R++q1)), .dat (eZ n), .dat (eZ mid), .dat (.int ((v.length:Nat):Int)), .dat (eZ a), .un, .un]) (mD (oW rfl rfl rfl rfl c1) rfl) ?_
  refine fD (ρ' :=[.dat (pairD rs n), .dat (.int (p:Int)), .dat (pairD os m), .dat (fu (R++q1++q2)), .dat (eZ n), .dat (eZ mid), .dat (.int ((v.length:Nat):Int)), .dat (eZ a), .dat (eZ b), .un]) (mD (oW rfl rfl rfl rfl c2) rfl) ?_
  refine fD (ρ' :=[.dat (pairD rs n), .dat (.int (p:Int)), .dat (pairD os m), .dat (fu (R++q1++q2++q3)), .dat (eZ n), .dat (eZ mid), .dat (.int ((v.length:Nat):Int)), .dat (eZ a), .dat (eZ b), .dat (eZ c)]) (mD (kE rfl rfl rfl c3) rfl) ?_
  exact gU (kE rfl rfl rfl c4) rfl
 ·have e:stretch v 0 p++w++stretch v p v.length=v.take p++w++v.drop p:=by simp [stretch]
  rw [←e]
  exact td
theorem Tt{rs:List Rule}{n:Option Nat}{v:List Nat}(h:Eu rs n v)(s e:Nat)(hse:s≤e)(he:e≤v.length)(hl:5*rs.length+5≤200000):
 ∃qs k,Av [pairD rs n, .int (s:Int), .int (e:Int)]= .ok (pairD qs k)∧Eu qs k (v.take s++v.drop e)∧qs.length≤5*rs.length+5∧(T2 rs→T2 qs):=by
 have hB:∀k,n=some k→k<rs.length:=fun k e=>h.nm k e
 have vl:v.length≤MOST:=by rw [←h.len];exact Rr h.f n
 have ln:=u9 rs h.g h.f (by omega) n h.nm
 rw [h.len] at ln
 obtain⟨q0,a0,c0,_⟩:=Py h (by omega) rs.length hB s e hse he
 obtain⟨q1,a,c1,ta,g1,f1,_,l1,x1⟩:=Py h (by omega) rs.length hB 0 s (cG _) (by omega)
 have l1' :=l1 (.inl rfl)
 obtain⟨q2,b,c2,tb,g2,f2,_,l2,x2⟩:=Py (h.app g1 f1) (by rw [au];omega) rs.length hB e v.length he (bA _)
 have l2' :=l2 (.inr rfl)
 have z1:(stretch v 0 s).length=s:=by rw [vM (by omega)];omega
 have z2:(stretch v e v.length).length=v.length-e:=by rw [vM (bA _)]
 obtain⟨q3,c,c3,tc,g3,f3,l3,x3⟩:=Ef (ta.app g2 f2) tb (by simp only [au];omega) (by rw [z1,z2];omega)
 refine⟨rs++q1++q2++q3,c,?_,?_,by simp only [au];omega,fun za=>((za.app x1).app x2).app x3⟩
 ·refine jg ?_
  show Rt (zR [.dat (pairD rs n), .dat (.int (s:Int)), .dat (.int (e:Int)), .un, .un, .un, .un]) _
  unfold zR
  refine fD (ρ' :=[.dat (pairD rs n), .dat (.int (s:Int)), .dat (.int (e:Int)), .un, .un, .un, .un]) (Ro (oW (x:=fu rs) (y:=eZ n) (by simp! only [ig]) (by simp! only [iD]) rfl rfl c0)) ?_
  refine fD (ρ' :=[.dat (pairD rs n), .dat (.int (s:Int)), .dat (.int (e:Int)), .dat (.int ((v.length:Nat):Int)), .un, .un, .un]) (pG (jM (x:=fu rs) (y:=eZ n) (by simp! only [ig]) (by simp! only [iD]) ln)) ?_
  refine fD (ρ' :=[.dat (pairD rs n), .dat (.int (s:Int)), .dat (.int (e:Int)), .dat (.int ((v.length:Nat):Int)), .dat (fu (rs++q1)), .dat (eZ a), .un]) (mD (oW (x:=fu rs) (y:=eZ n) (by simp! only [ig]) (by simp! only [iD]) rfl rfl c1) rfl) ?_
  refine fD (ρ' :=[.dat (pairD rs n), .dat (.int (s:Int)), .dat (.int (e:Int)), .dat (.int ((v.length:Nat):Int)), .dat (fu (rs++q1++q2)), .dat (eZ a), .dat (eZ b)]) (mD (oW (y:=eZ n) rfl (by simp! only [iD]) rfl rfl c2) rfl) ?_
  exact gU (kE rfl rfl rfl c3) rfl
 ·have e:stretch v 0 s++stretch v e v.length=v.take s++v.drop e:=by simp [stretch]
  rw [←e]
  exact tc
theorem afa{rs:List Rule}{n:Option Nat}{v:List Nat}(h:Eu rs n v)(hl:rs.length≤3000000)(B:Nat)(hB:∀zs,t8 rs n zs→zs.length≤B):∃qs k,Ht [fu rs,eZ n]= .ok (pairD qs k)∧Eu qs k v∧qs.length≤B∧(T2 rs→T2 qs∧qs.length≤2*v.length):=by
 obtain⟨ks,qs,fn,nd,td,e⟩:=adC rs h.g h.f hl n h.nm
 refine⟨qs,n.map fn,e,⟨td.g,td.fits,?_,?_⟩,bf td.len (hB ks nd),fun z=>⟨fun q hq a c eq=> ?_,?_⟩⟩
 ·cases n with
  |none=>exact fX.none
  |some k=>exact fX.some (td.lt k nd.2.top)
 ·rw [←h.t]
  cases n with
  |none=>rfl
  |some k=>exact td.tx k nd.2.top
 ·obtain⟨x,hx⟩:=List.mem_iff_getElem?.mp hq
  obtain⟨i,hi,rfl⟩:=td.hit x (aq.mp hx).1
  have hil:i<rs.length:=nd.lt i hi
  have row:=td.row i hi _ (aP hil)
  rw [hx] at row
  have e2:=Option.some.inj row
  rw [eq] at e2
  have e3:rs[i]? =some rs[i]:=aP hil
  cases q2:rs[i] with
  |sign c=>rw [q2] at e2;cases e2
  |join x y=>rw [q2] at e2;cases e2
  |times x m=>
   rw [q2] at e2 e3
   cases e2
   exact z _ (aX e3) x c rfl
 ·cases n with
  |none=>
   have h1:ks=[]:=nd
   have h2:=td.len
   rw [h1] at h2
   simp only [bW] at h2
   omega
  |some k=>
   have hk:=h.nm k rfl
   have sl:=abS h.g z k hk
   have le:=td.le h.g nd.clo nd.lt ((trs rs).getD k Nz).subs fun i hi=>aaO h.g (k-i) k i ks nd.2 nd.1 hi (bA _)
   have ln:(sizes rs).getD k 0=v.length:=h.len
   omega
def Dd.bd{α:Type}(b:α→Nat):Dd α→Nat
 | .is w=>2*w.length
 | .join x y=>b x+b y+1
 | .times x _=>b x+1
 | .cut x _ _=>5*b x
 | .turn x=>b x
 | .put x _ _=>b x
 | .insert x _ y=>5*b x+b y+6
 | .remove x _ _=>5*b x+5
theorem aaz(d:Dd (List Nat)):∀q∈d.args,q.1=jA→∃a∈d.refs,q.2.2=iU a:=by
 intro q hq hk
 have n1:¬(j6=jA):=Fp
 have n2:¬(lN=jA):=Ii
 have n3:¬(jD=jA):=En
 have n4:¬(lG=jA):=HW
 cases d<;>simp only [Dd.args,aJ,bD,or_false] at hq<;>simp only [Dd.refs,aJ,bD,or_false]
 case is=>subst hq;exact absurd hk n1
 case join a b=>
  rcases hq with rfl|rfl
  ·exact⟨a, .inl rfl,rfl⟩
  ·exact⟨b, .inr rfl,rfl⟩
 case times a m=>
  rcases hq with rfl|rfl
  ·exact⟨a,rfl,rfl⟩
  ·exact absurd hk n2
 case cut a s e=>
  rcases hq with rfl|rfl|rfl
  ·exact⟨a,rfl,rfl⟩
  ·exact absurd hk n3
  ·exact absurd hk n3
 case turn a=>subst hq;exact⟨a,rfl,rfl⟩
 case put a s o=>
  rcases hq with rfl|rfl|rfl
  ·exact⟨a,rfl,rfl⟩
  ·exact absurd hk n4
  ·exact absurd hk n4
 case insert a p b=>
  rcases hq with rfl|rfl|rfl
  ·exact⟨a, .inl rfl,rfl⟩
  ·exact absurd hk n3
  ·exact⟨b, .inr rfl,rfl⟩
 case remove a s e=>
  rcases hq with rfl|rfl|rfl
  ·exact⟨a,rfl,rfl⟩
  ·exact absurd hk n3
  ·exact absurd hk n3
theorem ae5(F:List Nat→D)(ws:List (List Nat))(d:Dd (List Nat))(hr:∀a∈d.refs,a∈ws):vG [.dict (uL F ws), .list (d.args.map fun q=>aN q.1), .list (d.rest iU)]= .ok .none:=by
 obtain⟨K,hK⟩:∃K,K=di (d.args.map fun q=>aN q.1):=⟨_,rfl⟩
 obtain⟨V,hV⟩:∃V,V=di (d.rest iU):=⟨_,rfl⟩
 obtain⟨T,hT⟩:∃T,T=PyData.dict (uL F ws):=⟨_,rfl⟩
 rw [←hK,←hV,←hT]
 have loop:Nx (vf [.bor T, .dat K, .dat V, .un, .un]) (fun _=>True):=by
  unfold vf
  obtain⟨ρ,e,_⟩:=lZ (mi:=iZ (eE 1) (eE 2)) (g:=gT [(gN 3),(gN 4)]) (body:=(ju (oE (eV lB (eE 3) (eC (.str "word"))) (eV (wU true) (eE 4) (gD 0))) (yx "NoWord") fZ)) (ρ:=[.bor T, .dat K, .dat V, .un, .un]) (ds:=d.args.map fun q=>bZ [.str q.1,q.2.2])
   (fun _ ρ=>∃k3 k4:Sl,ρ=[.bor T, .dat K, .dat V,k3,k4]) (by
    rw [hK,hV,←d.Hr]
    simp! only [iZ,nM,Mu]
    rw [List.zipWith_map_left,List.zipWith_map_right,List.zipWith_self]) ⟨_,_,rfl⟩ (by
    rintro i x ρ hd ⟨k3,k4,rfl⟩
    rw [aH,aK] at hd
    obtain⟨q,hq,rfl⟩:=hd
    refine⟨_,Yk,?_⟩
    simp only [set_0,jU]
    refine jE (ρ' :=[.bor T, .dat K, .dat V, .dat (.str q.1), .dat q.2.2]) ?_ ⟨_,_,rfl⟩
    by_cases z:q.1=jA
    ·obtain⟨a,ha,e⟩:=aaz d q (aX hq) z
     have hi:wU true (iU a) T= .ok (.bool false):=by
      rw [hT]
      show wU true (.str (fP a)) _=_
      rw [agp,decide_eq_true (hr a ha)]
      rfl
     rw [e,z]
     simp! only [hi]
    ·simp! only [z])
  exact⟨ρ,e,trivial⟩
 obtain⟨ρ,e,_⟩:=loop
 exact afy e
theorem acs{R:List Nat→List Rule}{N:List Nat→Option Nat}{T:List Nat→List Nat}{ws:List (List Nat)}(hT:∀a∈ws,Eu (R a) (N a) (T a))(d:Dd (List Nat))(hr:∀a∈d.refs,a∈ws)(ok:d.ok T)(w:List Nat)(hb:d.bd (fun a=>(R a).length)≤200000):
 ∃qs k,nA [.dict (uL (fun a=>pairD (R a) (N a)) ws), .tuple [.str d.verb,iU w, .list (d.rest iU)]]= .ok (pairD qs k)∧Eu qs k (d.tx T)∧qs.length≤d.bd (fun a=>(R a).length)∧((∀a∈d.refs,T2 (R a))→T2 qs∧qs.length≤2*(d.tx T).length):=by
 obtain⟨X,hX⟩:∃X,X=PyData.dict (uL (fun a=>pairD (R a) (N a)) ws):=⟨_,rfl⟩
 have gt:∀a∈ws,jr X (iU a)= .ok (pairD (R a) (N a)):=fun a ha=>by rw [hX];exact Dh _ ha
 have ask:=ae5 (fun a=>pairD (R a) (N a)) ws d hr
 rw [←hX] at ask⊢
 have kd:=Ji d
 have fin:∀(rs:List Rule) (n:Option Nat) (B:Nat),Eu rs n (d.tx T)→rs.length≤3000000→(∀zs,t8 rs n zs→zs.length≤B)→B≤d.bd (fun a=>(R a).length)→((∀a∈d.refs,T2 (R a))→T2 rs)→
  ju (eV lB (eE 2) (eC (.str "is"))) (ou (gT [(gN 5),(gN 6)]) (fG qw [(eV gj (eE 4) (eC (.int 0)))])) (ju (sS (eV lB (eE 2) (eC (.str "join"))) (eV lB (eE 2) (eC (.str "insert")))) (ou (gT [(gN 5),(gN 6)]) (fG Kh [(eE 2),(eV jr (gD 0) (eV gj (eE 4) (eC (.int 0)))),(eE 4),(gD 0)])) (ou (gT [(gN 5),(gN 6)]) (fG Lq [(eE 2),(eV jr (gD 0) (eV gj (eE 4) (eC (.int 0)))),(eE 4)]))) [.bor X, .dat (.tuple [.str d.verb,iU w, .list (d.rest iU)]), .dat (.str d.verb), .dat (iU w), .dat (.list (d.rest iU)), .un, .un]= .nx [.bor X, .dat (.tuple [.str d.verb,iU w, .list (d.rest iU)]), .dat (.str d.verb), .dat (iU w), .dat (.list (d.rest iU)), .dat (fu rs), .dat (eZ n)]→
  ∃qs k,nA [X, .tuple [.str d.verb,iU w, .list (d.rest iU)]]= .ok (pairD qs k)∧Eu qs k (d.tx T)∧qs.length≤d.bd (fun a=>(R a).length)∧((∀a∈d.refs,T2 (R a))→T2 qs∧qs.length≤2*(d.tx T).length):=fun rs n B t hl hB hBd h2 step=>by
  obtain⟨qs,k,e,tq,lq,l2⟩:=afa t hl B hB
  refine⟨qs,k,?_,tq,by omega,fun z=>l2 (h2 z)⟩
  refine jg ?_
  show Rt (Ae [.bor X, .dat (.tuple [.str d.verb,iU w, .list (d.rest iU)]), .un, .un, .un, .un, .un]) _
  unfold Ae
  refine fD (ρ' :=[.bor X, .dat (.tuple [.str d.verb,iU w, .list (d.rest iU)]), .dat (.str d.verb), .dat (iU w), .dat (.list (d.rest iU)), .un, .un]) rfl ?_
  refine fD (ρ' :=[.bor X, .dat (.tuple [.str d.verb,iU w, .list (d.rest iU)]), .dat (.str d.verb), .dat (iU w), .dat (.list (d.rest iU)), .un, .un]) (Ro (kE rfl (oA rfl kd) rfl ask)) ?_
  refine fD step ?_
  exact gU (jM rfl rfl e) rfl
 have all:∀(rs:List Rule) (n:Option Nat),∀zs,t8 rs n zs→zs.length≤rs.length:=fun rs n zs h=>h.len
 cases d with
 |is u=>
  obtain⟨rs,k,e,g,f,hk,ht,hl⟩:=V5 u ok.1 ok.2.1 ok.2.2
  refine fin rs (some k) rs.length ⟨g.g,f,fX.some hk,ht⟩ (by have:=ok.2.1;omega) (all _ _) (by simp only [Dd.bd];omega) (fun _=>T2.no g.t) ?_
  rw [CP (by simp! only [Dd.verb])]
  exact mD (oA (x:= .str (fP u)) (by simp! only [Dd.rest,yc]) e) rfl
 |join a b=>
  have ha:=hT a (hr a (by simp [Dd.refs]))
  have hb' :=hT b (hr b (by simp [Dd.refs]))
  simp only [Dd.bd] at hb
  obtain⟨s1,t1,t2,bl⟩:=Zj ha hb' (by omega)
  obtain⟨q,c,c3,tc,g3,f3,l3,x3⟩:=Ef t1 t2 (by rw [au,bl];omega) ok
  have ql:(R a++bring (R a) (R b)++q).length≤(R a).length+(R b).length+1:=by simp only [au,bl];omega
  refine fin _ c _ tc (by omega) (all _ _) (by simp only [Dd.bd];exact ql) (fun z=>((z a (by simp [Dd.refs])).app (T2.bring (z b (by simp [Dd.refs])))).app x3) ?_
  rw [vC (by simp! only [Dd.verb,v_all]),CP (by simp! only [Dd.verb,v_all])]
  refine mD (d:= .tuple [fu (R a++bring (R a) (R b)++q),eZ c]) (oW (x:= .str jJ) (y:=pairD (R a) (N a)) (z:= .list [iU a,iU b]) (w:=X) rfl (by simp! only [Dd.rest,yc,gt a (hr a (by simp [Dd.refs]))]) rfl rfl ?_) rfl
  refine jg ?_
  show Rt (zL [.dat (.str jJ), .dat (pairD (R a) (N a)), .dat (.list [iU a,iU b]), .bor X, .un, .un, .un]) _
  unfold zL
  refine fD (ρ' :=[.dat (.str jJ), .dat (pairD (R a) (N a)), .dat (.list [iU a,iU b]), .bor X, .un, .un, .un]) (by simp! only [v_all]) ?_
  refine fD (ρ' :=[.dat (.str jJ), .dat (pairD (R a) (N a)), .dat (.list [iU a,iU b]), .bor X, .dat (fu (R a++bring (R a) (R b))), .dat (eZ (N a)), .dat (eZ (pK (R a) (N b)))]) (mD (jM (y:=pairD (R b) (N b)) rfl (by simp! only [Di,gt b (hr b (by simp [Dd.refs]))]) s1) rfl) ?_
  exact gU (kE rfl rfl rfl c3) rfl
 |insert a p b=>
  have ha:=hT a (hr a (by simp [Dd.refs]))
  have hb' :=hT b (hr b (by simp [Dd.refs]))
  simp only [Dd.bd] at hb
  obtain⟨rs,c,e,tc,lc,xc⟩:=aax ha hb' p ok.1 ok.2 (by omega)
  refine fin rs c _ tc (by omega) (all _ _) (by simp only [Dd.bd];exact lc) (fun z=>xc (z a (by simp [Dd.refs])) (z b (by simp [Dd.refs]))) ?_
  rw [vC (by simp! only [Dd.verb,v_all]),CP (by simp! only [Dd.verb,v_all])]
  refine mD (d:= .tuple [fu rs,eZ c]) (oW (x:= .str iH) (y:=pairD (R a) (N a)) (z:= .list [iU a, .int (p:Int),iU b]) (w:=X) rfl (by simp! only [Dd.rest,yc,gt a (hr a (by simp [Dd.refs]))]) rfl rfl ?_) rfl
  refine jg ?_
  show Rt (zL [.dat (.str iH), .dat (pairD (R a) (N a)), .dat (.list [iU a, .int (p:Int),iU b]), .bor X, .un, .un, .un]) _
  unfold zL
  exact jP (sX (by simp! only []) (gU (kE (y:= .int (p:Int)) (z:=pairD (R b) (N b)) rfl (by simp! only [Di]) (by simp! only [RQ,gt b (hr b (by simp [Dd.refs]))]) e) rfl))
 |times a m=>
  have ha:=hT a (hr a (by simp [Dd.refs]))
  simp only [Dd.bd] at hb
  have re:=T5 (R a) ha.g ha.f (by omega) (N a) ha.nm m ok.1 (by rw [ha.len];exact ok.2)
  obtain⟨q,l,e0,g,f,n,t⟩:=EY (m:=m) ha.g ha.f ha.nm ok.1 (by rw [ha.len];exact ok.2)
  rw [e0] at re
  obtain⟨c,hc⟩:∃c,c=(overF (R a) (N a) m).2:=⟨_,rfl⟩
  obtain⟨rs,hrs⟩:∃rs,rs=R a++q:=⟨_,rfl⟩
  have rl:rs.length≤(R a).length+1:=by rw [hrs,au];omega
  rw [←hc,←hrs] at re
  rw [←hc,←hrs] at n t
  refine fin rs c _ ⟨by rw [hrs];exact g,by rw [hrs];exact f,n,by rw [t,ha.t];rfl⟩ (by omega) (all _ _) (by simp only [Dd.bd];exact rl) (fun z=>by
   rw [hrs]
   exact(z a (by simp [Dd.refs])).app (Bl (by have h1:=xg e0;have h3:=ok.1;have h4:MOST<2 ^ 200:=by decide
                                              omega))) ?_
  rw [vC (by simp! only [Dd.verb,v_all]),vC (by simp! only [Dd.verb,v_all])]
  refine mD (d:= .tuple [fu rs,eZ c]) (kE (x:= .str jm) (y:=pairD (R a) (N a)) (z:= .list [iU a, .int (m:Int)]) rfl (by simp! only [Dd.rest,yc,gt a (hr a (by simp [Dd.refs]))]) rfl ?_) rfl
  refine jg ?_
  show Rt (oY [.dat (.str jm), .dat (pairD (R a) (N a)), .dat (.list [iU a, .int (m:Int)])]) _
  unfold oY
  exact jP (sX (by simp! only []) (gU (kE (x:=fu (R a)) (y:=eZ (N a)) (z:= .int (m:Int)) (by simp! only [ig]) (by simp! only [iD]) (by simp! only [Di]) re) rfl))
 |turn a=>
  have ha:=hT a (hr a (by simp [Dd.refs]))
  simp only [Dd.bd] at hb
  obtain⟨q,c,re,g,f,l,n,t,nn,_,x2⟩:=Xn (R a) ha.g ha.f (by omega) (N a) ha.nm
  obtain⟨rs,hrs⟩:∃rs,rs=R a++q:=⟨_,rfl⟩
  have rl:rs.length≤2*(R a).length:=by rw [hrs,au];omega
  rw [←hrs] at re g f n t nn
  refine fin rs c _ ⟨g,f,n,by rw [t,ha.t];rfl⟩ (by omega) nn (by simp only [Dd.bd];exact bA _) (fun z=>by
   rw [hrs]
   exact(z a (by simp [Dd.refs])).app (x2 (z a (by simp [Dd.refs])))) ?_
  rw [vC (by simp! only [Dd.verb,v_all]),vC (by simp! only [Dd.verb,v_all])]
  refine mD (d:= .tuple [fu rs,eZ c]) (kE (x:= .str jN) (y:=pairD (R a) (N a)) (z:= .list [iU a]) rfl (by simp! only [Dd.rest,yc,gt a (hr a (by simp [Dd.refs]))]) rfl ?_) rfl
  refine jg ?_
  show Rt (oY [.dat (.str jN), .dat (pairD (R a) (N a)), .dat (.list [iU a])]) _
  unfold oY
  refine fD (ρ' :=[.dat (.str jN), .dat (pairD (R a) (N a)), .dat (.list [iU a])]) (by simp! only [v_all]) ?_
  exact jP (sX (by simp! only []) (gU (jM (x:=fu (R a)) (y:=eZ (N a)) (by simp! only [ig]) (by simp! only [iD]) re) rfl))
 |put a s o=>
  have ha:=hT a (hr a (by simp [Dd.refs]))
  simp only [Dd.bd] at hb
  obtain⟨q,c,re,g,f,l,n,t,nn,_,x2⟩:=OJ (R a) ha.g ha.f (by omega) (N a) ha.nm s o ok.1 ok.2
  obtain⟨rs,hrs⟩:∃rs,rs=R a++q:=⟨_,rfl⟩
  have rl:rs.length≤2*(R a).length:=by rw [hrs,au];omega
  rw [←hrs] at re g f n t nn
  refine fin rs c _ ⟨g,f,n,by rw [t,ha.t];rfl⟩ (by omega) nn (by simp only [Dd.bd];exact bA _) (fun z=>by
   rw [hrs]
   exact(z a (by simp [Dd.refs])).app (x2 (z a (by simp [Dd.refs])))) ?_
  rw [vC (by simp! only [Dd.verb,v_all]),vC (by simp! only [Dd.verb,v_all])]
  refine mD (d:= .tuple [fu rs,eZ c]) (kE (x:= .str lF) (y:=pairD (R a) (N a)) (z:= .list [iU a, .str (s1 s), .str (s1 o)]) rfl (by simp! only [Dd.rest,yc,gt a (hr a (by simp [Dd.refs]))]) rfl ?_) rfl
  refine jg ?_
  show Rt (oY [.dat (.str lF), .dat (pairD (R a) (N a)), .dat (.list [iU a, .str (s1 s), .str (s1 o)])]) _
  unfold oY
  refine fD (ρ' :=[.dat (.str lF), .dat (pairD (R a) (N a)), .dat (.list [iU a, .str (s1 s), .str (s1 o)])]) (by simp! only [v_all]) ?_
  refine fD (ρ' :=[.dat (.str lF), .dat (pairD (R a) (N a)), .dat (.list [iU a, .str (s1 s), .str (s1 o)])]) (by simp! only [v_all]) ?_
  exact jP (sX (by simp! only []) (gU (oW (x:=fu (R a)) (y:=eZ (N a)) (z:= .str (s1 s)) (w:= .str (s1 o)) (by simp! only [ig]) (by simp! only [iD]) (by simp! only [Di]) (by simp! only [RQ]) re) rfl))
 |cut a s e=>
  have ha:=hT a (hr a (by simp [Dd.refs]))
  simp only [Dd.bd] at hb
  obtain⟨q,c,re,t,g,f,l,_,x2⟩:=Py ha (by omega) (R a).length (fun k z=>ha.nm k z) s e ok.1 ok.2
  obtain⟨rs,hrs⟩:∃rs,rs=R a++q:=⟨_,rfl⟩
  have rl:rs.length≤5*(R a).length:=by rw [hrs,au];omega
  rw [←hrs] at re t
  refine fin rs c _ t (by omega) (all _ _) (by simp only [Dd.bd];exact rl) (fun z=>by
   rw [hrs]
   exact(z a (by simp [Dd.refs])).app x2) ?_
  rw [vC (by simp! only [Dd.verb,v_all]),vC (by simp! only [Dd.verb,v_all])]
  refine mD (d:= .tuple [fu rs,eZ c]) (kE (x:= .str lD) (y:=pairD (R a) (N a)) (z:= .list [iU a, .int (s:Int), .int (e:Int)]) rfl (by simp! only [Dd.rest,yc,gt a (hr a (by simp [Dd.refs]))]) rfl ?_) rfl
  refine jg ?_
  show Rt (oY [.dat (.str lD), .dat (pairD (R a) (N a)), .dat (.list [iU a, .int (s:Int), .int (e:Int)])]) _
  unfold oY
  refine fD (ρ' :=[.dat (.str lD), .dat (pairD (R a) (N a)), .dat (.list [iU a, .int (s:Int), .int (e:Int)])]) (by simp! only [v_all]) ?_
  refine fD (ρ' :=[.dat (.str lD), .dat (pairD (R a) (N a)), .dat (.list [iU a, .int (s:Int), .int (e:Int)])]) (by simp! only [v_all]) ?_
  refine fD (ρ' :=[.dat (.str lD), .dat (pairD (R a) (N a)), .dat (.list [iU a, .int (s:Int), .int (e:Int)])]) (by simp! only [v_all]) ?_
  exact jP (sX (by simp! only []) (gU (oW (x:=fu (R a)) (y:=eZ (N a)) (z:= .int (s:Int)) (w:= .int (e:Int)) (by simp! only [ig]) (by simp! only [iD]) (by simp! only [Di]) (by simp! only [RQ]) re) rfl))
 |remove a s e=>
  have ha:=hT a (hr a (by simp [Dd.refs]))
  simp only [Dd.bd] at hb
  obtain⟨rs,c,re,t,rl,x2⟩:=Tt ha s e ok.1 ok.2 (by omega)
  refine fin rs c _ t (by omega) (all _ _) (by simp only [Dd.bd];exact rl) (fun z=>x2 (z a (by simp [Dd.refs]))) ?_
  rw [vC (by simp! only [Dd.verb,v_all]),vC (by simp! only [Dd.verb,v_all])]
  refine mD (d:= .tuple [fu rs,eZ c]) (kE (x:= .str ir) (y:=pairD (R a) (N a)) (z:= .list [iU a, .int (s:Int), .int (e:Int)]) rfl (by simp! only [Dd.rest,yc,gt a (hr a (by simp [Dd.refs]))]) rfl ?_) rfl
  refine jg ?_
  show Rt (oY [.dat (.str ir), .dat (pairD (R a) (N a)), .dat (.list [iU a, .int (s:Int), .int (e:Int)])]) _
  unfold oY
  refine fD (ρ' :=[.dat (.str ir), .dat (pairD (R a) (N a)), .dat (.list [iU a, .int (s:Int), .int (e:Int)])]) (by simp! only [v_all]) ?_
  refine fD (ρ' :=[.dat (.str ir), .dat (pairD (R a) (N a)), .dat (.list [iU a, .int (s:Int), .int (e:Int)])]) (by simp! only [v_all]) ?_
  refine fD (ρ' :=[.dat (.str ir), .dat (pairD (R a) (N a)), .dat (.list [iU a, .int (s:Int), .int (e:Int)])]) (by simp! only [v_all]) ?_
  refine fD (ρ' :=[.dat (.str ir), .dat (pairD (R a) (N a)), .dat (.list [iU a, .int (s:Int), .int (e:Int)])]) (by simp! only [v_all]) ?_
  exact gU (kE (y:= .int (s:Int)) (z:= .int (e:Int)) rfl (by simp! only [Di]) (by simp! only [RQ]) re) rfl
end Sb
namespace Sb
open PySem PySem.Spec L2 Evl DL
abbrev St:Type:=List Nat×Dd (List Nat)
def upT(T:List Nat→List Nat)(w v:List Nat):List Nat→List Nat:=fun x=>if x=w then v else T x
def upB(b:List Nat→Nat)(w:List Nat)(v:Nat):List Nat→Nat:=fun x=>if x=w then v else b x
def mG(es:List St):List (List Nat):=es.foldl (fun ws e=>addW ws e.1) []
def pX(es:List St):List Nat→List Nat:=es.foldl (fun T e=>upT T e.1 (e.2.tx T)) fun _=>[]
def stB(es:List St):List Nat→Nat:=es.foldl (fun b e=>upB b e.1 (e.2.bd b)) fun _=>0
theorem pY(es:List St)(e:St):mG (es++[e])=addW (mG es) e.1:=by simp [mG]
theorem Af(es:List St)(e:St):pX (es++[e])=upT (pX es) e.1 (e.2.tx (pX es)):=by simp [pX]
theorem afB:∀es:List St,(mG es).Nodup:=by
 refine snocInd (by simp [mG]) fun es e ih=> ?_
 rw [pY]
 exact ad7 ih
def rowOf(e:St):List Nat:=TL.joinL [32] (e.2.row e.1)
structure abF(es:List St):Prop where
 rf:∀(i:Nat) e,es[i]? =some e→∀a∈e.2.refs,a∈mG (es.take i)
 ok:∀(i:Nat) e,es[i]? =some e→e.2.ok (pX (es.take i))
 rw_:∀(i:Nat) e,es[i]? =some e→zX e.1 e.2
 bd:∀(i:Nat) e,es[i]? =some e→e.2.bd (stB (es.take i))≤200000
theorem abF.nil:abF []:=⟨fun i e h=>by simp at h,fun i e h=>by simp at h,fun i e h=>by simp at h,fun i e h=>by simp at h⟩
theorem abF.snoc{es:List St}(h:abF es){e:St}(h1:∀a∈e.2.refs,a∈mG es)(h2:e.2.ok (pX es))(h3:zX e.1 e.2)(h4:e.2.bd (stB es)≤200000):abF (es++[e]):=by
 have at_:∀(i:Nat) x,(es++[e])[i]? =some x→(es[i]? =some x∧(es++[e]).take i=es.take i)∨(x=e∧(es++[e]).take i=es):=fun i x hx=>by
  have hi:=(aq.mp hx).1
  rw [au,cD] at hi
  by_cases z:i<es.length
  ·rw [aO z] at hx
   exact .inl ⟨hx,cI (by omega)⟩
  ·have e1:i=es.length:=by omega
   subst e1
   rw [bG (bA _)] at hx
   simp only [Nat.sub_self,aG,Option.some.injEq] at hx
   exact .inr ⟨hx.symm,by simp⟩
 refine⟨fun i x hx=> ?_,fun i x hx=> ?_,fun i x hx=> ?_,fun i x hx=> ?_⟩<;>rcases at_ i x hx with⟨a,b⟩|⟨rfl,b⟩
 ·rw [b];exact h.rf i x a
 ·rw [b];exact h1
 ·rw [b];exact h.ok i x a
 ·rw [b];exact h2
 ·exact h.rw_ i x a
 ·exact h3
 ·rw [b];exact h.bd i x a
 ·rw [b];exact h4
theorem Uu{x:Nat}{S:List Nat}:∀{ls:List (List Nat)},x∈TL.joinL S ls→x∈S∨∃l∈ls,x∈l
 |[],h=>by simp [TL.joinL] at h
 |[l],h=> .inr ⟨l,by simp,by simpa [TL.joinL] using h⟩
 |l::m::ls,h=>by
  simp only [TL.joinL,aR] at h
  rcases h with h|h|h
  ·exact .inr ⟨l,by simp,h⟩
  ·exact .inl h
  ·rcases Uu h with h|⟨k,hk,hx⟩
   ·exact .inl h
   ·exact .inr ⟨k,aM _ hk,hx⟩
theorem Mv{S:List Nat}{m:Nat}:∀{ls:List (List Nat)},(∀l∈ls,l.length≤m)→(TL.joinL S ls).length≤ls.length*(m+S.length)
 |[],_=>by simp [TL.joinL]
 |[l],h=>by
  have:=h l (by simp)
  simp only [TL.joinL,aW,bW]
  omega
 |l::k::ls,h=>by
  have h1:=h l (by simp)
  have h2:=Mv (S:=S) (m:=m) (ls:=k::ls) fun x hx=>h x (aM _ hx)
  simp only [TL.joinL,au,aW,Nat.add_mul,Nat.one_mul] at h2⊢
  omega
theorem row_free{e:St}(h:zX e.1 e.2):59∉rowOf e∧(rowOf e).length≤250∧rowOf e≠[]:=by
 have hp:=Bh h
 refine⟨fun z=> ?_,?_,fun z=> ?_⟩
 ·rcases Uu z with z|⟨l,hl,hx⟩
  ·simp at z
  ·exact(hp l hl).2 59 hx|>.2 rfl
 ·have:=Mv (S:=[32]) (m:=40) (ls:=e.2.row e.1) fun l hl=>(hp l hl).1
  have al:=N6 e.2
  have:(e.2.row e.1).length≤5:=by simp only [Dd.row,aW,aA];omega
  simp only [aW,bW] at*
  unfold rowOf
  omega
 ·have h1:=h.w.1
  have:(rowOf e).length=0:=by rw [z];rfl
  unfold rowOf Dd.row at this
  simp only [TL.joinL,au] at this
  omega
def Ot(ws:List (List Nat)):List (List Nat):=(S7 (ws.map fP)).map fun x=>x.cps.toList
theorem ae9(ws:List (List Nat)):(Ot ws).map fP=S7 (ws.map fP):=by
 unfold Ot
 rw [bY]
 exact List.map_id' _
theorem Bq(ws:List (List Nat)):(Ot ws).Perm ws:=by
 have:=(Qs (ws.map fP)).map fun x:Str=>x.cps.toList
 rw [bY] at this
 have e:ws.map ((fun x:Str=>x.cps.toList)∘fP)=ws:=List.map_id' ws
 rw [e] at this
 exact this
theorem Tj(F:List Nat→D)(ws:List (List Nat))(hl:ws.length<64):nU (.dict (uL F ws))= .ok (.list ((Ot ws).map iU)):=by
 have h2:(ws.map fP).length<64:=by rw [aA];exact hl
 simp only [nU,ZP,h2,if_true,←ae9,bY]
 rfl
abbrev namesW(ws:List (List Nat))(M:List Nat→Option Nat):D:= .list (ws.map fun a=>bZ [iU a,eZ (M a)])
end Sb
namespace Sb
open PySem PySem.Spec L2 Evl DL
def xP(es:List St):List Nat:=TL.joinL [59,32] (es.map rowOf)
theorem Xe(es:List St)(hrow:∀(i:Nat) e,es[i]? =some e→zX e.1 e.2)(hl:es.length≤1000)(Inv:Nat→(List Nat→List Rule)→(List Nat→Option Nat)→Prop)(hi0:Inv 0 (fun _=>[]) fun _=>none)
 (hs:∀(i:Nat) e R N,es[i]? =some e→Inv i R N→∃qs k,nA [.dict (uL (fun a=>pairD (R a) (N a)) (mG (es.take i))), .tuple [.str e.2.verb,iU e.1, .list (e.2.rest iU)]]= .ok (pairD qs k)∧Inv (i+1) (fun a=>if a=e.1 then qs else R a) fun a=>if a=e.1 then k else N a):
 ∃(R:List Nat→List Rule) (N:List Nat→Option Nat),yI [.str (fP (xP es))]= .ok (.dict (uL (fun a=>pairD (R a) (N a)) (mG es)))∧Inv es.length R N:=by
 obtain⟨X,hX⟩:∃X,X=fP (xP es):=⟨_,rfl⟩
 rw [←hX]
 have run:Rt (yC [.dat (.str X), .un, .un, .un]) (fun d=>∃(R:List Nat→List Rule) (N:List Nat→Option Nat),d= .dict (uL (fun a=>pairD (R a) (N a)) (mG es))∧Inv es.length R N):=by
  unfold yC
  refine fD (ρ' :=[.dat (.str X), .own (.dict []), .un, .un]) (by simp! only []) ?_
  by_cases h0:es=[]
  ·subst h0
   have e0:X=("":Str):=by rw [hX];rfl
   refine jP (sX (by simp! only [e0]) ⟨_,rfl,fun _=>[],fun _=>none,rfl,hi0⟩)
  have ne:¬X=("":Str):=fun z=>by
   have z2:fP (xP es)=fP []:=by rw [←hX,z];rfl
   have z3:=Lp z2
   cases es with
   |nil=>exact h0 rfl
   |cons e es=>
    have hr:=row_free (hrow 0 e rfl)
    have:(xP (e::es)).length=0:=by rw [z3];rfl
    unfold xP at this
    have h4:(rowOf e).length≠0:=fun q=>hr.2.2 (cR.mp q)
    cases es with
    |nil=>simp only [aZ,dR,TL.joinL] at this;omega
    |cons f es=>
     simp only [aZ,TL.joinL,au] at this
     omega
  refine fD (ρ' :=[.dat (.str X), .own (.dict []), .un, .un]) (by simp! only [ne]) ?_
  have e5:("; ":Str).cps.toList=[59,32]:=by decide+kernel
  have rl:∀r∈es.map rowOf,59∉r∧r.length≤250:=fun r hr=>by
   obtain⟨e,he,rfl⟩:=cC.mp hr
   obtain⟨i,hi⟩:=List.mem_iff_getElem?.mp he
   have:=row_free (hrow i e hi)
   exact⟨this.1,this.2.1⟩
  have sp:tU X (.str "; ")= .ok (.list (es.map fun e=>aN (fP (rowOf e)))):=by
   have e1:(((("; ":Str).length)==0)=false):=by decide+kernel
   have e2:X.length+2≤sizeLine:=by
    have:=Mv (S:=[59,32]) (m:=250) (ls:=es.map rowOf) fun l hl=>(rl l hl).2
    rw [aA] at this
    simp only [aW,bW] at this
    rw [hX,lK]
    unfold xP
    exact tG (by omega)
   have e3:Txt.split X "; "=(es.map rowOf).map fP:=by
    have j:=Yc "; " (es.map rowOf)
    rw [e5] at j
    rw [hX]
    unfold xP
    rw [←j]
    refine TL.split_join (s:=59) (S:=[32]) e5 (by decide+kernel) (by simpa using h0) fun p hp=> ?_
    obtain⟨l,hl,rfl⟩:=cC.mp hp
    exact(rl l hl).1
   simp only [tU,e1,e2,and_self,if_true,e3,bY]
   rfl
  refine oK (N:=fun ρ=>∃(R:List Nat→List Rule) (N:List Nat→Option Nat) (k2 k3:Sl),ρ=[.dat (.str X), .own (.dict (uL (fun a=>pairD (R a) (N a)) (mG es))),k2,k3]∧Inv es.length R N) ?_ ?_
  ·have loop:=lZ (mi:=iL (ni (Bg tU (eE 0) (eC (.str "; "))))) (g:=gN 2) (body:=(fK (gG 3 (fG rH [(eE 2)]))
 (fK (ju (eV v7 (eE 3) (eC .none)) (yx "NoText") fZ)
 (mX 1 (eV gj (eE 3) (eC (.int 1))) (fG nA [(gD 1),(eE 3)]))))) (ρ:=[.dat (.str X), .own (.dict []), .un, .un]) (ds:=es.map fun e=>aN (fP (rowOf e)))
    (fun i ρ=>∃(R:List Nat→List Rule) (N:List Nat→Option Nat) (k2 k3:Sl),ρ=[.dat (.str X), .own (.dict (uL (fun a=>pairD (R a) (N a)) (mG (es.take i)))),k2,k3]∧Inv i R N)
    (Vm (by simp! only [qM,Bg,sp];rfl)) ⟨fun _=>[],fun _=>none,_,_,rfl,hi0⟩ (by
     rintro i d ρ hd ⟨R,N,k2,k3,rfl,inv⟩
     rw [aH,aK] at hd
     obtain⟨e,he,rfl⟩:=hd
     have et:es.take (i+1)=es.take i++[e]:=by
      rw [bH,he]
      rfl
     have so:=Jo (hrow i e he)
     obtain⟨qs,k,mt,iv⟩:=hs i e R N he inv
     have hwl:(uL (fun a=>pairD (R a) (N a)) (mG (es.take i))).length<sizeLine:=by
      rw [WM]
      have:∀es:List St,(mG es).length≤es.length:=by
       refine snocInd (by simp [mG]) fun es e ih=> ?_
       rw [pY,au,cD]
       have:=VB (ws:=mG es) (w:=e.1)
       omega
      have:=this (es.take i)
      rw [aY] at this
      exact lY (by omega)
     refine⟨_,nu,?_⟩
     simp only [set_0,jU]
     refine iy (ρ' :=[.dat (.str X), .own (.dict (uL (fun a=>pairD (R a) (N a)) (mG (es.take i)))), .dat (.str (fP (rowOf e))), .dat (.tuple [.str e.2.verb,iU e.1, .list (e.2.rest iU)])]) (pG (oA rfl so)) ?_
     refine iy (ρ' :=[.dat (.str X), .own (.dict (uL (fun a=>pairD (R a) (N a)) (mG (es.take i)))), .dat (.str (fP (rowOf e))), .dat (.tuple [.str e.2.verb,iU e.1, .list (e.2.rest iU)])]) rfl ?_
     have ec:fG nA [(gD 1),(eE 3)] [.dat (.str X), .own (.dict (uL (fun a=>pairD (R a) (N a)) (mG (es.take i)))), .dat (.str (fP (rowOf e))), .dat (.tuple [.str e.2.verb,iU e.1, .list (e.2.rest iU)])]= .ok (pairD qs k):=jM rfl rfl mt
     have ek:DL.keyOf (iU e.1)=some (.inr (fP e.1)):=rfl
     refine jE (ρ' :=[.dat (.str X), .own (.dict (uL (fun a=>pairD (if a=e.1 then qs else R a) (if a=e.1 then k else N a)) (mG (es.take (i+1))))), .dat (.str (fP (rowOf e))), .dat (.tuple [.str e.2.verb,iU e.1, .list (e.2.rest iU)])]) ?_ ⟨fun a=>if a=e.1 then qs else R a,fun a=>if a=e.1 then k else N a,_,_,rfl,iv⟩
     ·simp only [mX,ec,aQ,aG,Kf,if_true,lM,kJ,jO,eC,gY,iD,ek,hwl,Lh,set_0,jU]
      rw [et,pY]
      congr 6
      funext x
      unfold upW
      by_cases z:x=e.1
      ·simp only [z,if_true]
      ·simp only [z,if_false])
   rw [aA] at loop
   simp only [bV] at loop
   exact loop
  ·rintro ρ ⟨R,N,k2,k3,rfl,inv⟩
   exact⟨_,rfl,R,N,rfl,inv⟩
 obtain⟨d,hd,R,N,rfl,hh⟩:=wJ (ks:=[.dat]) (n:=3) (m:=yC) (ds:=[.str X]) run
 exact⟨R,N,hd,hh⟩
theorem afW(es:List St)(R:List Nat→List Rule)(N:List Nat→Option Nat)(te:yI [.str (fP (xP es))]= .ok (.dict (uL (fun a=>pairD (R a) (N a)) (mG es))))(inv:∀a∈mG es,Eu (R a) (N a) (pX es a)∧(R a).length≤200000)(hw:(mG es).length≤40):∃(rs:List Rule) (M:List Nat→Option Nat),Cv [.str (fP (xP es))]= .ok (.tuple [fu rs,namesW (Ot (mG es)) M])∧Good rs∧Fits MOST rs∧rs.length≤8000000∧∀a∈mG es,Eu rs (M a) (pX es a):=by
 obtain⟨X,hX⟩:∃X,X=aN (fP (xP es)):=⟨_,rfl⟩
 obtain⟨sw,hsw⟩:∃sw,sw=Ot (mG es):=⟨_,rfl⟩
 obtain⟨E,hE⟩:∃E,E=PyData.dict (uL (fun a=>pairD (R a) (N a)) (mG es)):=⟨_,rfl⟩
 have pm:=Bq (mG es)
 have nd:sw.Nodup:=by rw [hsw];exact pm.nodup_iff.mpr (afB es)
 have mem:∀a,a∈sw↔a∈mG es:=fun a=>by rw [hsw];exact pm.mem_iff
 have sl:sw.length≤40:=by rw [hsw,pm.length_eq];exact hw
 have so:=Tj (fun a=>pairD (R a) (N a)) (mG es) (by omega)
 have gt:∀a∈sw,jr E (iU a)= .ok (pairD (R a) (N a)):=fun a ha=>by rw [hE];exact Dh _ ((mem a).mp ha)
 rw [←hE,←hsw] at so
 rw [←hX,←hE] at te
 rw [←hX,←hsw]
 have run:Rt (S9 [.dat X, .un, .un, .un, .un, .un, .un]) (fun d=>∃(rs:List Rule) (M:List Nat→Option Nat),d= .tuple [fu rs,namesW sw M]∧Good rs∧Fits MOST rs∧rs.length≤8000000∧∀a∈sw,fX rs (M a)∧gK rs (M a)=pX es a):=by
  unfold S9
  refine fD (ρ' :=[.dat X, .own E, .un, .un, .un, .un, .un]) (by simp only [j9,oA (ma:=eE 0) (ρ:=[.dat X, .un, .un, .un, .un, .un, .un]) rfl te];rfl) ?_
  refine fD (ρ' :=[.dat X, .own E, .dat (fu []), .un, .un, .un, .un]) (by simp! only [];rfl) ?_
  refine fD (ρ' :=[.dat X, .own E, .dat (fu []), .own (.list []), .un, .un, .un]) (by simp! only []) ?_
  refine oK (N:=fun ρ=>∃(rs:List Rule) (M:List Nat→Option Nat) (k4 k5 k6:Sl),ρ=[.dat X, .own E, .dat (fu rs), .own (namesW sw M),k4,k5,k6]∧Good rs∧Fits MOST rs∧rs.length≤sw.length*200000∧∀a∈sw,fX rs (M a)∧gK rs (M a)=pX es a) ?_ ?_
  ·have loop:=lZ (mi:=iL (ni (Dq nU (gD 1)))) (g:=gN 4) (body:=(fK (ou (gT [(gN 5),(gN 6)]) (eV jr (gD 1) (eE 4)))
 (fK (ou (gT [(gN 2),(gN 6)]) (fG wZ [(eE 2),(eE 5),(eE 6)]))
 (qK 3 (jG [(eE 4),(eE 6)]))))) (ρ:=[.dat X, .own E, .dat (fu []), .own (.list []), .un, .un, .un]) (ds:=sw.map iU)
    (fun i ρ=>∃(rs:List Rule) (M:List Nat→Option Nat) (k4 k5 k6:Sl),ρ=[.dat X, .own E, .dat (fu rs), .own (namesW (sw.take i) M),k4,k5,k6]∧Good rs∧Fits MOST rs∧rs.length≤i*200000∧∀a∈sw.take i,fX rs (M a)∧gK rs (M a)=pX es a)
    (Vm (by rw [qM,Cy];simp only [vQ,zJ,gY,so];rfl)) ⟨[],fun _=>none,_,_,_,rfl,Good.nil,(fun n hn=>by cases hn),by simp,fun a ha=>by simp at ha⟩ (by
     rintro i d ρ hd ⟨rs,M,k4,k5,k6,rfl,g,f,rl,im⟩
     rw [aH,aK] at hd
     obtain⟨a,ha,rfl⟩:=hd
     have hi:=(aq.mp ha).1
     have et:sw.take (i+1)=sw.take i++[a]:=by
      rw [bH,ha]
      rfl
     have ham:a∈sw:=aX ha
     have nin:a∉sw.take i:=fun z=>by
      obtain⟨j,hj⟩:=List.mem_iff_getElem?.mp z
      rw [List.getElem?_take] at hj
      split at hj
      ·have hj2:=(aq.mp hj).1
       have h6:=(cJ.mp nd) j i hj2 hi (by omega)
       exact h6 (by rw [(aq.mp hj).2,(aq.mp ha).2])
      ·cases hj
     obtain⟨ta,la⟩:=inv a ((mem a).mp ham)
     have br:=Kw rs (R a) ta.g (by omega) (N a) ta.nm
     obtain⟨g2,f2,_⟩:=LQ g f (R a) ta.g ta.f
     obtain⟨bn,bt⟩:=Pb g f ta.g ta.f ta.nm
     have bl:(bring rs (R a)).length=(R a).length:=by simp [bring]
     refine⟨_,nu,?_⟩
     simp only [set_0,jU]
     refine iy (ρ' :=[.dat X, .own E, .dat (fu rs), .own (namesW (sw.take i) M), .dat (iU a), .dat (fu (R a)), .dat (eZ (N a))]) (mD (d:=pairD (R a) (N a)) (by simp! only [gt a ham]) rfl) ?_
     refine iy (ρ' :=[.dat X, .own E, .dat (fu (rs++bring rs (R a))), .own (namesW (sw.take i) M), .dat (iU a), .dat (fu (R a)), .dat (eZ (pK rs (N a)))]) (mD (kE rfl rfl rfl br) rfl) ?_
     refine jE (ρ' :=[.dat X, .own E, .dat (fu (rs++bring rs (R a))), .own (namesW (sw.take (i+1)) fun x=>if x=a then pK rs (N a) else M x), .dat (iU a), .dat (fu (R a)), .dat (eZ (pK rs (N a)))]) ?_ ⟨rs++bring rs (R a),fun x=>if x=a then pK rs (N a) else M x,_,_,_,rfl,g2,f2,by rw [au,bl];omega,fun x hx=> ?_⟩
     ·rw [app_ok (ds:=(sw.take i).map fun a=>bZ [iU a,eZ (M a)]) (d:= .tuple [iU a,eZ (pK rs (N a))]) rfl (by simp! only []) (by rw [aA,aY];exact lY (by omega)),et]
      have e9:((sw.take i).map fun x=>bZ [iU x,eZ (if x=a then pK rs (N a) else M x)])=(sw.take i).map fun x=>bZ [iU x,eZ (M x)]:=bQ fun x hx=>by
       have:¬x=a:=fun z=>nin (by rw [←z];exact hx)
       simp only [this,if_false]
      simp only [namesW,cV,aZ,dR,if_true,set_0,jU,e9]
     ·rw [et] at hx
      by_cases z:x=a
      ·simp only [z,if_true]
       exact⟨bn,by rw [bt,ta.t]⟩
      ·simp only [z,if_false]
       have hx' :x∈sw.take i:=by
        rcases aR.mp hx with q|q
        ·exact q
        ·exact absurd (by simpa using q) z
       obtain⟨i1,i2⟩:=im x hx'
       exact⟨i1.app _,by rw [qI i1,i2]⟩)
   rw [aA,bV] at loop
   exact loop
  ·rintro ρ ⟨rs,M,k4,k5,k6,rfl,g,f,rl,im⟩
   refine⟨.tuple [fu rs,namesW sw M],?_,rs,M,rfl,g,f,by omega,im⟩
   first
   |exact(show afF 2 3 _=_ from rfl)
   |(show Yi 3 _ _=_
     unfold Yi
     simp only [aQ,aG]
     show gH _ _=_
     exact ret_ok (by simp! only []))
 obtain⟨d,hd,rs,M,rfl,g,f,rl,im⟩:=wJ (ks:=[.dat]) (n:=6) (m:=S9) (ds:=[X]) run
 exact⟨rs,M,hd,g,f,rl,fun a ha=>⟨g,f,(im a ((mem a).mpr ha)).1,(im a ((mem a).mpr ha)).2⟩⟩
end Sb
namespace Sb
open PySem PySem.Spec L2 Evl DL
end Sb
namespace Sb
open PySem PySem.Spec L2 Evl DL
instance(w:List Nat):Decidable (zB w):=by unfold zB;infer_instance
theorem acr(x:Str):fP x.cps.toList=x:=TL.ext_tl rfl
theorem acd(x:Int):∃l:Nat,(97≤l∧l≤122)∧(iz (.int x) (.int 26)).bind (fun i=>gj (.str "abcdefghijklmnopqrstuvwxyz") i)= .ok (.str (s1 l)):=by
 obtain⟨k,hk⟩:∃k:Nat,(k:Int)=x%26:=⟨(x%26).toNat,by omega⟩
 have k26:k<26:=by omega
 have e:("abcdefghijklmnopqrstuvwxyz":Str)=fP ((bU 26).map (97+·)):=by decide+kernel
 refine⟨97+k,by omega,?_⟩
 rw [gR (by omega),gY,←hk,e,YG (by simpa using k26) (by simp)]
 simp [bJ,k26]
end Sb
namespace Sb
open PySem PySem.Spec L2 Evl DL
def vbs:List Str:=["is","join","times","cut","turn","put","insert","remove","drop","swap","length","count","sign","show","stands","first","parts","order","piece","ring","form","words","none"]
theorem afH:∀x∈vbs,zB x.cps.toList:=by decide+kernel
theorem aaw(c:Int)(h0:0≤c):∃w,zB w∧xZ [.int c]= .ok (.str (fP w)):=by
 obtain⟨k,hk⟩:∃k:Nat,(k:Int)=c%23:=⟨(c%23).toNat,by omega⟩
 have k23:k<23:=by omega
 have hv:k<vbs.length:=k23
 refine⟨(vbs[k]).cps.toList,afH _ (dG hv),?_⟩
 rw [acr]
 have ix:gj (.list (vbs.map aN)) (.int (k:Int))= .ok (.str vbs[k]):=by
  rw [tW (by omega) (by rw [aA];omega),cZ,bJ,aH,aP hv]
  rfl
 have dm:iz (.int c) (.int 23)= .ok (.int (k:Int)):=by rw [gR (by omega),hk]
 refine jg ?_
 show Rt (yr [.dat (.int c), .un]) _
 unfold yr
 refine fD (ρ' :=[.dat (.int c), .dat (.list ((vbs.take 8).map aN))]) rfl ?_
 refine fD (ρ' :=[.dat (.int c), .dat (.list ((vbs.take 15).map aN))]) rfl ?_
 refine fD (ρ' :=[.dat (.int c), .dat (.list (vbs.map aN))]) rfl ?_
 exact gU (by simp only [lM,jO,kJ,eC,gY,dm,ix]) rfl
theorem ab8(c:Int)(h0:0≤c)(h1:c<10 ^ 100)(k:Nat)(hk:k≤4):∃w,zB w∧tE [.int c, .int (k:Int)]= .ok (.str (fP w)):=by
 obtain⟨kd,hkd⟩:∃kd:Int,kd=c%6:=⟨_,rfl⟩
 have kd0:0≤kd∧kd<6:=by omega
 have d6:iz (.int c) (.int 6)= .ok (.int kd):=by rw [gR (by omega),hkd]
 have v6:jy (.int c) (.int 6)= .ok (.int (c/6)):=lu (by omega) (by omega)
 have v48:jy (.int c) (.int 48)= .ok (.int (c/48)):=lu (by omega) (by omega)
 have v384:jy (.int c) (.int 384)= .ok (.int (c/384)):=lu (by omega) (by omega)
 have m8:iz (.int (c/6)) (.int 8)= .ok (.int (c/6%8)):=gR (by omega)
 obtain⟨sz,hsz,s1',s2'⟩:∃sz:Nat,(sz:Int)=(if kd=4 then 1+(k:Int) else 1+c/6%8)∧1≤sz∧sz≤8:=by
  by_cases z:kd=4
  ·exact⟨1+k,by rw [if_pos z];omega,by omega,by omega⟩
  ·exact⟨(1+c/6%8).toNat,by rw [if_neg z];omega,by omega,by omega⟩
 have run:Rt (vI [.dat (.int c), .dat (.int (k:Int)), .un, .un, .un, .un, .un, .un]) (fun d=>∃w,zB w∧d= .str (fP w)):=by
  unfold vI
  refine fD (ρ' :=[.dat (.int c), .dat (.int (k:Int)), .dat (.int kd), .un, .un, .un, .un, .un]) (by simp! only [d6]) ?_
  refine fD (ρ' :=[.dat (.int c), .dat (.int (k:Int)), .dat (.int kd), .dat (.int (1+c/6%8)), .un, .un, .un, .un]) (by simp! only [v6,m8]) ?_
  refine fD (ρ' :=[.dat (.int c), .dat (.int (k:Int)), .dat (.int kd), .dat (.int (sz:Int)), .un, .un, .un, .un]) (by
   by_cases z:kd=4
   ·rw [if_pos z] at hsz
    simp! only [z,hsz]
   ·rw [if_neg z] at hsz
    simp! only [z,hsz]) ?_
  by_cases z5:kd=5
  ·obtain⟨w,hw,e⟩:=aaw (c/6+(k:Int)) (by omega)
   exact jP (sX (by simp! only [z5]) (gU (oA (x:= .int (c/6+(k:Int))) (by simp! only [v6]) e) ⟨w,hw,rfl⟩))
  refine fD (ρ' :=[.dat (.int c), .dat (.int (k:Int)), .dat (.int kd), .dat (.int (sz:Int)), .un, .un, .un, .un]) (by simp! only [z5]) ?_
  refine fD (ρ' :=[.dat (.int c), .dat (.int (k:Int)), .dat (.int kd), .dat (.int (sz:Int)), .dat (.str (fP [])), .un, .un, .un]) (by simp! only [];rfl) ?_
  refine oK (N:=fun ρ=>∃(u:List Nat) (k5 k6 k7:Sl),ρ=[.dat (.int c), .dat (.int (k:Int)), .dat (.int kd), .dat (.int (sz:Int)), .dat (.str (fP u)),k5,k6,k7]∧u.length=sz∧∀x∈u,97≤x∧x≤122) ?_ ?_
  ·have loop:=lZ (mi:=HD (eE 3)) (g:=gN 5) (body:=(fK (gG 6 (eC (.int 0)))
 (fK (ju (sS (eV lB (eE 2) (eC (.int 2))) (sS (eV lB (eE 2) (eC (.int 3))) (oE (eV Lj (eE 2) (eC (.int 2))) (eV lB (eE 5) (eV iz (eV jy (eE 0) (eC (.int 48))) (eE 3)))))) (gG 6 (eV jZ (eC (.int 7)) (eE 1))) fZ)
 (fK (gG 7 (eV jw (eV jw (eV jy (eE 0) (eC (.int 384))) (eV jZ (eC (.int 11)) (eE 5))) (eE 6)))
 (gG 4 (eV jw (eE 4) (eV gj (eC (.str "abcdefghijklmnopqrstuvwxyz")) (eV iz (eE 7) (eC (.int 26)))))))))) (ρ:=[.dat (.int c), .dat (.int (k:Int)), .dat (.int kd), .dat (.int (sz:Int)), .dat (.str (fP [])), .un, .un, .un]) (ds:=nJ 0 (sz:Int))
    (fun i ρ=>∃(u:List Nat) (k5 k6 k7:Sl),ρ=[.dat (.int c), .dat (.int (k:Int)), .dat (.int kd), .dat (.int (sz:Int)), .dat (.str (fP u)),k5,k6,k7]∧u.length=i∧∀x∈u,97≤x∧x≤122)
    (Gi rfl (by omega) (by omega)) ⟨[],_,_,_,rfl,rfl,fun x hx=>by cases hx⟩ (by
     rintro i d ρ hd ⟨u,k5,k6,k7,rfl,ul,ua⟩
     have hi:=(aq.mp hd).1
     unfold nJ at hd hi
     rw [aA,cM] at hi
     rw [aH,List.getElem?_range hi] at hd
     simp only [Option.map_some,Option.some.injEq,Int.zero_add] at hd
     subst hd
     refine⟨_,nu,?_⟩
     simp only [set_0,jU]
     refine iy (ρ' :=[.dat (.int c), .dat (.int (k:Int)), .dat (.int kd), .dat (.int (sz:Int)), .dat (.str (fP u)), .dat (.int (i:Int)), .dat (.int 0),k7]) (by simp! only []) ?_
     refine aes (M:=fun ρ=>∃st:Nat,st≤100∧ρ=[.dat (.int c), .dat (.int (k:Int)), .dat (.int kd), .dat (.int (sz:Int)), .dat (.str (fP u)), .dat (.int (i:Int)), .dat (.int (st:Int)),k7]) ?_ ?_
     ·have mz:iz (.int (c/48)) (.int (sz:Int))= .ok (.int (c/48%(sz:Int))):=gR (by omega)
      have mu:jZ (.int 7) (.int (k:Int))= .ok (.int ((7*k:Nat):Int)):=by
       rw [mJ (by omega) (by omega) (by omega) (by omega)]
       congr 2
      have yes:Nx (gG 6 (eV jZ (eC (.int 7)) (eE 1)) [.dat (.int c), .dat (.int (k:Int)), .dat (.int kd), .dat (.int (sz:Int)), .dat (.str (fP u)), .dat (.int (i:Int)), .dat (.int 0),k7]) (fun ρ=>∃st:Nat,st≤100∧ρ=[.dat (.int c), .dat (.int (k:Int)), .dat (.int kd), .dat (.int (sz:Int)), .dat (.str (fP u)), .dat (.int (i:Int)), .dat (.int (st:Int)),k7]):=jE (ρ' :=[.dat (.int c), .dat (.int (k:Int)), .dat (.int kd), .dat (.int (sz:Int)), .dat (.str (fP u)), .dat (.int (i:Int)), .dat (.int ((7*k:Nat):Int)),k7]) (by simp! only [mu]) ⟨7*k,by omega,rfl⟩
      have no:Nx (fZ [.dat (.int c), .dat (.int (k:Int)), .dat (.int kd), .dat (.int (sz:Int)), .dat (.str (fP u)), .dat (.int (i:Int)), .dat (.int 0),k7]) (fun ρ=>∃st:Nat,st≤100∧ρ=[.dat (.int c), .dat (.int (k:Int)), .dat (.int kd), .dat (.int (sz:Int)), .dat (.str (fP u)), .dat (.int (i:Int)), .dat (.int (st:Int)),k7]):=jE rfl ⟨0,by omega,rfl⟩
      by_cases c2:kd=2
      ·exact Rq (by simp! only [c2]) yes
      ·by_cases c3:kd=3
       ·exact Rq (by simp! only [c2,c3]) yes
       ·by_cases c4:kd<2
        ·by_cases c5:(i:Int)=c/48%(sz:Int)
         ·have c5' :decide ((i:Int)=c/48%(sz:Int))=true:=decide_eq_true c5
          exact Rq (by simp! only [c2,c3,c4,v48,mz,c5']) yes
         ·exact Ox (by simp! only [c2,c3,c4,v48,mz,c5]) no
        ·exact Ox (by simp! only [c2,c3,c4]) no
     ·rintro ρ ⟨st,hst,rfl⟩
      have mu:jZ (.int 11) (.int (i:Int))= .ok (.int (11*(i:Int))):=mJ (by omega) (by omega) (by omega) (by omega)
      refine iy (ρ' :=[.dat (.int c), .dat (.int (k:Int)), .dat (.int kd), .dat (.int (sz:Int)), .dat (.str (fP u)), .dat (.int (i:Int)), .dat (.int (st:Int)), .dat (.int (c/384+11*(i:Int)+(st:Int)))]) (by simp! only [v384,mu]) ?_
      obtain⟨l,hl,ex⟩:=acd (c/384+11*(i:Int)+(st:Int))
      have ad:jw (.str (fP u)) (.str (s1 l))= .ok (.str (fP (u++[l]))):=Hu (a:=u) (b:=[l]) (by simp;omega)
      refine jE (ρ' :=[.dat (.int c), .dat (.int (k:Int)), .dat (.int kd), .dat (.int (sz:Int)), .dat (.str (fP (u++[l]))), .dat (.int (i:Int)), .dat (.int (st:Int)), .dat (.int (c/384+11*(i:Int)+(st:Int)))]) (by simp! only [ex,ad]) ⟨u++[l],_,_,_,rfl,by simp [ul],fun x hx=> ?_⟩
      rcases aR.mp hx with hx|hx
      ·exact ua x hx
      ·have:x=l:=by simpa using hx
       rw [this]
       exact hl)
   have rl:(nJ 0 (sz:Int)).length=sz:=by simp [nJ]
   rw [rl] at loop
   exact loop
  ·rintro ρ ⟨u,k5,k6,k7,rfl,ul,ua⟩
   exact gU rfl ⟨u,⟨by omega,by omega,ua⟩,rfl⟩
 obtain⟨d,hd,w,hw,rfl⟩:=wJ (ks:=[.dat, .dat]) (n:=6) (m:=vI) (ds:=[.int c, .int (k:Int)]) run
 exact⟨w,hw,hd⟩
end Sb
namespace Sb
open PySem PySem.Spec L2 Evl DL
def adf(l:List Nat):Prop:=1≤l.length∧l.length≤62∧∀c∈l,c∈Hi
theorem G9:∀ls:List (List Nat),TL.joinL [] ls=ls.flatten
 |[]=>rfl
 |[l]=>by simp [TL.joinL]
 |l::m::ls=>by
  have:=G9 (m::ls)
  simp only [TL.joinL,cP,this,dI]
theorem Vr(c:Int)(h0:0≤c)(h1:c<10 ^ 100):∃l,adf l∧vH [.int c]= .ok (.str (fP l)):=by
 obtain⟨k,hk⟩:∃k:Nat,(k:Int)=c%5:=⟨(c%5).toNat,by omega⟩
 have k5:k<5:=by omega
 have dm:iz (.int c) (.int 5)= .ok (.int (k:Int)):=by rw [gR (by omega),hk]
 obtain⟨n,n1,n2,hn⟩:∃n:Nat,1≤n∧n≤62∧gj (.list [.int 1, .int 2, .int 2, .int 3, .int 62]) (.int (k:Int))= .ok (.int (n:Int)):=by
  match k,k5 with
  |0,_=>exact⟨1,by omega,by omega,rfl⟩
  |1,_=>exact⟨2,by omega,by omega,rfl⟩
  |2,_=>exact⟨2,by omega,by omega,rfl⟩
  |3,_=>exact⟨3,by omega,by omega,rfl⟩
  |4,_=>exact⟨62,by omega,by omega,rfl⟩
 have v5:jy (.int c) (.int 5)= .ok (.int (c/5)):=lu (by omega) (by omega)
 have v310:jy (.int c) (.int 310)= .ok (.int (c/310)):=lu (by omega) (by omega)
 have m20:iz (.int (c/310)) (.int 20)= .ok (.int (c/310%20)):=gR (by omega)
 obtain⟨st,hst⟩:∃st:Int,st=1+c/310%20:=⟨_,rfl⟩
 have sb:∀i:Nat,∃s:Nat,s∈Hi∧jQ [.int (c/5+st*(i:Int))]= .ok (.str (s1 s)):=fun i=>KQ _
 obtain⟨f,hf⟩:∃f:Nat→Nat,∀i,f i∈Hi∧jQ [.int (c/5+st*(i:Int))]= .ok (.str (s1 (f i))):=⟨fun i=>(sb i).choose,fun i=>(sb i).choose_spec⟩
 refine⟨(bU n).map f,⟨by simpa using n1,by simpa using n2,fun x hx=> ?_⟩,?_⟩
 ·obtain⟨i,_,rfl⟩:=cC.mp hx
  exact(hf i).1
 refine jg ?_
 show Rt (uP [.dat (.int c), .un, .un, .un]) _
 unfold uP
 refine fD (ρ' :=[.dat (.int c), .dat (.int (n:Int)), .un, .un]) (by
  have e:lC [(eC (.int 1)),(eC (.int 2)),(eC (.int 2)),(eC (.int 3)),(eC (.int 62))] [.dat (.int c), .un, .un, .un]= .ok (.list [.int 1, .int 2, .int 2, .int 3, .int 62]):=rfl
  simp only [gG,lM,e,gY,jO,eC,dm,hn,set_0,jU]) ?_
 refine fD (ρ' :=[.dat (.int c), .dat (.int (n:Int)), .dat (.int st), .un]) (by simp! only [v310,m20,hst]) ?_
 have lc:Oc (HD (eE 1)) (gN 3) (eC (.bool true)) (fG jQ [(eV jw (eV jy (eE 0) (eC (.int 5))) (eV jZ (eE 2) (eE 3)))]) [3] [.dat (.int c), .dat (.int (n:Int)), .dat (.int st), .un]= .ok (.list ((bU n).map fun i=>aN (s1 (f i)))):=by
  refine GZ (fun i:Nat=>aD (i:Int)) _ (by rw [←vz];exact Gi rfl (by omega) (by omega)) (fun i hi=> ?_) (by simp only [cM];exact tG (by omega))
  have hi' :i<n:=by simpa using hi
  have mu:jZ (.int st) (.int (i:Int))= .ok (.int (st*(i:Int))):=mJ (by omega) (by omega) (by omega) (by omega)
  refine⟨_,rfl,rfl,oA (x:= .int (c/5+st*(i:Int))) ?_ (hf i).2⟩
  simp only [rM,List.foldl_cons,List.foldl_nil,set_0,jU]
  simp! only [v5,mu]
 have dj:=JC "" ((bU n).map fun i=>[f i]) 1 (fun l hl=>by
  obtain⟨i,_,rfl⟩:=cC.mp hl
  simp) (by
  have:("":Str).length=0:=by decide+kernel
  rw [this]
  simp
  omega)
 have e0:("":Str).cps.toList=[]:=by decide+kernel
 rw [e0,G9] at dj
 have e1:((bU n).map fun i=>[f i]).flatten=(bU n).map f:=by
  induction(bU n) with
  |nil=>rfl
  |cons x xs ih=>simp only [aZ,dI,ih];rfl
 rw [e1,bY] at dj
 exact gU (by
  simp only [Bg,eC,gY,lc]
  exact dj) rfl
theorem aaK(c:Int)(h0:0≤c)(h1:c<10 ^ 100)(l:List Nat)(hl:adf l)(m:Nat)(hm:1≤m)(hm2:m≤2 ^ 60):∃w,1≤w.length∧w.length≤40∧w.length≤m∧(∀x∈w,x∈Hi)∧rF [.int c, .str (fP l), .int (m:Int)]= .ok (.str (fP w)):=by
 have v240:jy (.int c) (.int 240)= .ok (.int (c/240)):=lu (by omega) (by omega)
 obtain⟨k,hk⟩:∃k:Nat,(k:Int)=c/240%3:=⟨(c/240%3).toNat,by omega⟩
 have k3:k<3:=by omega
 have m3:iz (.int (c/240)) (.int 3)= .ok (.int (k:Int)):=by rw [gR (by omega),hk]
 obtain⟨n,n1,n2,hn⟩:∃n:Nat,1≤n∧n≤40∧gj (.list [.int 6, .int 6, .int 40]) (.int (k:Int))= .ok (.int (n:Int)):=by
  match k,k3 with
  |0,_=>exact⟨6,by omega,by omega,rfl⟩
  |1,_=>exact⟨6,by omega,by omega,rfl⟩
  |2,_=>exact⟨40,by omega,by omega,rfl⟩
 have mn:iz (.int c) (.int (n:Int))= .ok (.int (c%(n:Int))):=gR (by omega)
 have cn:0≤c%(n:Int)∧c%(n:Int)<(n:Int):=⟨bM _ (by omega),bK _ (by omega)⟩
 obtain⟨z,hz⟩:∃z:Nat,(z:Int)=min (1+c%(n:Int)) (m:Int):=⟨(min (1+c%(n:Int)) (m:Int)).toNat,by omega⟩
 obtain⟨l1,l2,l3⟩:=hl
 have bl:=G4 (a:=l) (by omega)
 obtain⟨L,hL⟩:∃L,L=aN (fP l):=⟨_,rfl⟩
 rw [←hL] at bl⊢
 have run:Rt (ux [.dat (.int c), .dat L, .dat (.int (m:Int)), .un, .un, .un]) (fun d=>∃w,w.length=z∧(∀x∈w,x∈Hi)∧d= .str (fP w)):=by
  unfold ux
  refine fD (ρ' :=[.dat (.int c), .dat L, .dat (.int (m:Int)), .dat (.int (1+c%(n:Int))), .un, .un]) (by simp! only [v240,m3,hn,mn]) ?_
  refine fD (ρ' :=[.dat (.int c), .dat L, .dat (.int (m:Int)), .dat (.int (1+c%(n:Int))), .dat (.str (fP [])), .un]) (by simp! only [];rfl) ?_
  refine oK (N:=fun ρ=>∃(u:List Nat) (k0 k5:Sl),ρ=[k0, .dat L, .dat (.int (m:Int)), .dat (.int (1+c%(n:Int))), .dat (.str (fP u)),k5]∧u.length=z∧∀x∈u,x∈Hi) ?_ ?_
  ·have loop:=lZ (mi:=HD (fG Kl [(eE 3),(eE 2)])) (g:=gN 5) (body:=(fK (gG 0 (eV iz (eV jw (eV jw (eV jZ (eE 0) (eC (.int 48271))) (eE 5)) (eC (.int 11))) (eC (.int 2147483647))))
 (gG 4 (eV jw (eE 4) (eV gj (eE 1) (eV iz (eV jy (eE 0) (eC (.int 16))) (fG je [(eE 1)]))))))) (ρ:=[.dat (.int c), .dat L, .dat (.int (m:Int)), .dat (.int (1+c%(n:Int))), .dat (.str (fP [])), .un]) (ds:=nJ 0 (z:Int))
    (fun i ρ=>∃(u:List Nat) (y:Int) (k5:Sl),ρ=[.dat (.int y), .dat L, .dat (.int (m:Int)), .dat (.int (1+c%(n:Int))), .dat (.str (fP u)),k5]∧0≤y∧y<10 ^ 100∧u.length=i∧∀x∈u,x∈Hi)
    (Gi (by simp! only [];rw [hz]) (by omega) (by omega)) ⟨[],c,_,rfl,h0,h1,rfl,fun x hx=>by cases hx⟩ (by
     rintro i d ρ hd ⟨u,y,k5,rfl,y0,y1,ul,ua⟩
     have hi:=(aq.mp hd).1
     unfold nJ at hd hi
     rw [aA,cM] at hi
     rw [aH,List.getElem?_range hi] at hd
     simp only [Option.map_some,Option.some.injEq,Int.zero_add] at hd
     subst hd
     have mu:jZ (.int y) (.int 48271)= .ok (.int (y*48271)):=mJ (by omega) (by omega) (by omega) (by omega)
     obtain⟨y',hy'⟩:∃y' :Int,y' =(y*48271+(i:Int)+11)%2147483647:=⟨_,rfl⟩
     have mm:iz (.int (y*48271+(i:Int)+11)) (.int 2147483647)= .ok (.int y'):=by rw [gR (by omega),hy']
     have v16:jy (.int y') (.int 16)= .ok (.int (y' /16)):=lu (by omega) (by omega)
     have lp:(0:Int)<((l.length:Nat):Int):=by omega
     obtain⟨p,hp⟩:∃p:Nat,(p:Int)=y' /16%((l.length:Nat):Int):=⟨(y' /16%((l.length:Nat):Int)).toNat,by have:=bM (y' /16) (b:=((l.length:Nat):Int)) (by omega);omega⟩
     have pl:p<l.length:=by have:=bK (y' /16) lp;omega
     have ml:iz (.int (y' /16)) (.int ((l.length:Nat):Int))= .ok (.int (p:Int)):=by rw [gR (by omega),hp]
     have ix:gj L (.int (p:Int))= .ok (.str (s1 (l.getD p 0))):=by rw [hL];exact YG pl (by omega)
     have ad:jw (.str (fP u)) (.str (s1 (l.getD p 0)))= .ok (.str (fP (u++[l.getD p 0]))):=Hu (a:=u) (b:=[l.getD p 0]) (by simp;omega)
     refine⟨_,nu,?_⟩
     simp only [set_0,jU]
     refine iy (ρ' :=[.dat (.int y'), .dat L, .dat (.int (m:Int)), .dat (.int (1+c%(n:Int))), .dat (.str (fP u)), .dat (.int (i:Int))]) (by simp! only [mu,mm]) ?_
     refine jE (ρ' :=[.dat (.int y'), .dat L, .dat (.int (m:Int)), .dat (.int (1+c%(n:Int))), .dat (.str (fP (u++[l.getD p 0]))), .dat (.int (i:Int))]) (by simp! only [v16,bl,ml,ix,ad]) ⟨u++[l.getD p 0],y',_,rfl,by omega,by omega,by simp [ul],fun x hx=> ?_⟩
     rcases aR.mp hx with hx|hx
     ·exact ua x hx
     ·have:x=l.getD p 0:=by simpa using hx
      rw [this]
      exact l3 _ (getD_mem pl))
   have rl:(nJ 0 (z:Int)).length=z:=by simp [nJ]
   rw [rl] at loop
   obtain⟨ρ,e,u,y,k5,rfl,_,_,a,b⟩:=loop
   exact⟨_,e,u,_,_,rfl,a,b⟩
  ·rintro ρ ⟨u,k0,k5,rfl,ul,ua⟩
   exact gU rfl ⟨u,ul,ua,rfl⟩
 obtain⟨d,hd,w,hw,hs,rfl⟩:=wJ (ks:=[.dat, .dat, .dat]) (n:=3) (m:=ux) (ds:=[.int c,L, .int (m:Int)]) run
 exact⟨w,by omega,by omega,by omega,hs,hd⟩
theorem p60:rK (.int 2) (.int 60)= .ok (.int ((MOST:Nat):Int)):=by
 rw [sU (by decide) (by decide) (by decide)]
 rfl
theorem abR(c:Int)(h0:0≤c)(h1:c<10 ^ 100)(z m:Nat)(hz:z≤MOST)(hm:m≤MOST):∃n:Nat,n≤MOST∧z*n≤m∧vP [.int c, .int (z:Int), .int (m:Int)]= .ok (.int (n:Int)):=by
 have big:=agl
 have v6:jy (.int c) (.int 6)= .ok (.int (c/6)):=lu (by omega) (by omega)
 have m6:iz (.int c) (.int 6)= .ok (.int (c%6)):=gR (by omega)
 have a6:iz (.int (c/6)) (.int 6)= .ok (.int (c/6%6)):=gR (by omega)
 have a7:iz (.int (c/6)) (.int 10007)= .ok (.int (c/6%10007)):=gR (by omega)
 have a3:iz (.int (c/6)) (.int 3)= .ok (.int (c/6%3)):=gR (by omega)
 have mu:jZ (.int (c/6)) (.int 1152921504606846883)= .ok (.int (c/6*1152921504606846883)):=mJ (by omega) (by omega) (by omega) (by omega)
 have MM_:((MOST:Nat):Int)=1152921504606846976:=by decide
 have a8:iz (.int (c/6*1152921504606846883)) (.int (((MOST:Nat):Int)+1))= .ok (.int (c/6*1152921504606846883%(((MOST:Nat):Int)+1))):=gR (by omega)
 obtain⟨y,hy⟩:∃y:Nat,y=max 1 z:=⟨_,rfl⟩
 have dv:jy (.int (m:Int)) (.int (max 1 (z:Int)))= .ok (.int ((m/y:Nat):Int)):=by
  rw [lu (by omega) (by omega)]
  congr 2
  rw [hy]
  simp only [Int.natCast_ediv]
  congr 1
  omega
 have mq:0≤((m/y:Nat):Int):=Int.natCast_nonneg _
 have fin:∀x:Int,0≤x→Rt (gH (fG JT [(eE 3),(eV jy (eE 2) (fG Jw [(eC (.int 1)),(eE 1)])),(eV rK (eC (.int 2)) (eC (.int 60)))]) [.dat (.int c), .dat (.int (z:Int)), .dat (.int (m:Int)), .dat (.int x)]) (fun d=>∃n:Nat,n≤MOST∧z*n≤m∧d= .int (n:Int)):=fun x hx=>by
  obtain⟨n,hn⟩:∃n:Nat,(n:Int)=min (min x ((m/y:Nat):Int)) ((MOST:Nat):Int):=⟨(min (min x ((m/y:Nat):Int)) ((MOST:Nat):Int)).toNat,by omega⟩
  refine gU (d:= .int (n:Int)) ?_ ⟨n,by omega,?_,rfl⟩
  ·have e:JT [.int x, .int ((m/y:Nat):Int), .int ((MOST:Nat):Int)]= .ok (.int (n:Int)):=by
    rw [hn]
    rfl
   rw [JS]
   simp! only [dv,p60,e]
  ·have h2:n≤m/y:=by omega
   have h3:z*n≤y*(m/y):=dM (by omega) h2
   exact bf h3 (Nat.mul_div_le m y)
 have run:Rt (wC [.dat (.int c), .dat (.int (z:Int)), .dat (.int (m:Int)), .un]) (fun d=>∃n:Nat,n≤MOST∧z*n≤m∧d= .int (n:Int)):=by
  unfold wC
  refine fD (ρ' :=[.dat (.int c), .dat (.int (z:Int)), .dat (.int (m:Int)), .dat (.int (c/6%6))]) (by simp! only [v6,a6]) ?_
  by_cases c3:c%6=3
  ·have n4:¬c%6=4:=by omega
   have n5:¬c%6=5:=by omega
   refine fD (ρ' :=[.dat (.int c), .dat (.int (z:Int)), .dat (.int (m:Int)), .dat (.int (c/6%10007))]) (by simp! only [v6,m6,c3,a7]) ?_
   refine fD (ρ' :=[.dat (.int c), .dat (.int (z:Int)), .dat (.int (m:Int)), .dat (.int (c/6%10007))]) (by simp! only [m6,n4]) ?_
   refine fD (ρ' :=[.dat (.int c), .dat (.int (z:Int)), .dat (.int (m:Int)), .dat (.int (c/6%10007))]) (by simp! only [m6,n5]) ?_
   exact fin _ (by omega)
  ·refine fD (ρ' :=[.dat (.int c), .dat (.int (z:Int)), .dat (.int (m:Int)), .dat (.int (c/6%6))]) (by simp! only [m6,c3]) ?_
   by_cases c4:c%6=4
   ·have n5:¬c%6=5:=by omega
    refine fD (ρ' :=[.dat (.int c), .dat (.int (z:Int)), .dat (.int (m:Int)), .dat (.int (c/6*1152921504606846883%(((MOST:Nat):Int)+1)))]) (by simp! only [v6,m6,c4,mu,p60,a8]) ?_
    refine fD (ρ' :=[.dat (.int c), .dat (.int (z:Int)), .dat (.int (m:Int)), .dat (.int (c/6*1152921504606846883%(((MOST:Nat):Int)+1)))]) (by simp! only [m6,n5]) ?_
    exact fin _ (bM _ (by omega))
   ·refine fD (ρ' :=[.dat (.int c), .dat (.int (z:Int)), .dat (.int (m:Int)), .dat (.int (c/6%6))]) (by simp! only [m6,c4]) ?_
    by_cases c5:c%6=5
    ·refine fD (ρ' :=[.dat (.int c), .dat (.int (z:Int)), .dat (.int (m:Int)), .dat (.int (((MOST:Nat):Int)-c/6%3))]) (by simp! only [v6,m6,c5,p60,a3]) ?_
     exact fin _ (by omega)
    ·refine fD (ρ' :=[.dat (.int c), .dat (.int (z:Int)), .dat (.int (m:Int)), .dat (.int (c/6%6))]) (by simp! only [m6,c5]) ?_
     exact fin _ (by omega)
 obtain⟨d,hd,n,a,b,rfl⟩:=wJ (ks:=[.dat, .dat, .dat]) (n:=1) (m:=wC) (ds:=[.int c, .int (z:Int), .int (m:Int)]) run
 exact⟨n,a,b,hd⟩
end Sb
namespace Sb
open PySem PySem.Spec L2 Evl DL
theorem adH{G:List D→ER}{ma mb mc md me mf:EM}{ρ:DL.Env}{x y z w v u:D}{r:ER}(ha:ma ρ= .ok x)(hb:mb ρ= .ok y)(hc:mc ρ= .ok z)(hd:md ρ= .ok w)(he:me ρ= .ok v)(hf:mf ρ= .ok u)(h:G [x,y,z,w,v,u]=r):fG G [ma,mb,mc,md,me,mf] ρ=r:=by
 simp only [fG,nM,ha,hb,hc,hd,he,hf,h]
abbrev R5(T:List Nat→List Nat)(ws:List (List Nat)):D:= .dict (uL (fun w=> .int (((T w).length:Nat):Int)) ws)
def Dd.M5(d:Dd (List Nat)):D:=match d with
 | .put a s o=> .dict [(.bool true, .tuple [.str "put",iU a, .str (s1 s), .str (s1 o)])]
 |d=>d.toD iU
theorem ae7{c:Int}{d:D}(h:jQ [.int c]= .ok d):sgM "0123456789ABCDEFGHIJKLMNOPQRSTUVWXYZabcdefghijklmnopqrstuvwxyz" 62 (.int c)= .ok d:=by
 have hl:SG.cps.toList.length=62:=Zm
 have h0:=bM c (show(62:Int)≠0 by decide)
 have h1:=bK c (show(0:Int)<62 by decide)
 have hx:=acv (z:=SG) h0 (by rw [hl];exact h1) ab9
 have e1:jQ [.int c]= .ok (.str (s1 (SG.cps.toList[(c%62).toNat]'(by omega)))):=by simp! only [jQ,u6,gR (show(0:Int)<62 by decide),hx]
 rw [e1] at h
 rw [←h]
 unfold sgM
 rw [gR (show(0:Int)<62 by decide),gY]
 exact hx
theorem Z7(way:Int)(hw:way=5∨way=7∨way=8∨way=9)(a b:List Nat)(c:Int)(h0:0≤c)(h1:c<10 ^ 100)(T:List Nat→List Nat)(ws:List (List Nat))(ha:a∈ws)(l:List Nat)(hl:adf l)(most:Nat)(mo:most≤MOST)(hm:(T a).length≤most)(hi:way=8→(T a).length+(T b).length≤most):
 ∃d:Dd (List Nat),(∀x∈d.refs,x=a∨x=b)∧d.ok T∧(d.tx T).length≤most∧xQ [.int way,iU a,iU b, .int c,R5 T ws, .str (fP l)]= .ok d.M5:=by
 have big:MOST<2 ^ 61:=by decide
 obtain⟨l1,l2,l3⟩:=hl
 obtain⟨E,hE⟩:∃E,E=R5 T ws:=⟨_,rfl⟩
 have gE:jr E (iU a)= .ok (.int (((T a).length:Nat):Int)):=by rw [hE];exact Dh _ ha
 obtain⟨L,hL⟩:∃L,L=aN (fP l):=⟨_,rfl⟩
 have bl:=G4 (a:=l) (by omega)
 rw [←hL] at bl
 obtain⟨A,hA⟩:∃A,A=iU a:=⟨_,rfl⟩
 obtain⟨B,hB⟩:∃B,B=iU b:=⟨_,rfl⟩
 obtain⟨z,hz⟩:∃z,z=(T a).length:=⟨_,rfl⟩
 rw [←hz] at gE hm
 rw [←hA] at gE
 have run:Rt (uD [.dat (.int way), .dat (A), .dat (B), .dat (.int c), .bor E, .dat (L), .un, .un, .un]) (fun r=>∃d:Dd (List Nat),(∀x∈d.refs,x=a∨x=b)∧d.ok T∧(d.tx T).length≤most∧r=d.M5):=by
  unfold uD
  refine fD (ρ' :=[.dat (.int way), .dat (A), .dat (B), .dat (.int c), .bor E, .dat (L), .dat (.int (z:Int)), .un, .un]) (by simp! only [gE]) ?_
  by_cases w7:way=7
  ·obtain⟨p,hp⟩:∃p:Nat,(p:Int)=c%(l.length:Int):=⟨(c%(l.length:Int)).toNat,by have:=bM c (show(l.length:Int)≠0 by omega);omega⟩
   have pl:p<l.length:=by have:=bK c (show 0<(l.length:Int) by omega);omega
   have ml:iz (.int c) (.int ((l.length:Nat):Int))= .ok (.int (p:Int)):=by rw [gR (by omega),hp]
   have ix:=YG (w:=l) pl (by omega)
   rw [←hL] at ix
   have v62:jy (.int c) (.int 62)= .ok (.int (c/62)):=lu (by omega) (by omega)
   obtain⟨s,hs,es⟩:=KQ (c/62)
   refine jP (sX (by simp! only [w7]) (gU (d:= .dict [(.bool true, .tuple [.str "put",A, .str (s1 (l.getD p 0)), .str (s1 s)])]) (by
    have sg:sgM "0123456789ABCDEFGHIJKLMNOPQRSTUVWXYZabcdefghijklmnopqrstuvwxyz" 62 (.int (c/62))= .ok (.str (s1 s)):=ae7 es
    rw [hL] at bl ix⊢
    simp! only [aaI,bl,ml,ix,v62,sg]) ⟨.put a (l.getD p 0) s,fun x hx=> ?_,⟨l3 _ (getD_mem pl),hs⟩,by simp only [Dd.tx,aA];omega,by rw [hA];rfl⟩))
   left
   simpa [Dd.refs] using hx
  refine fD (ρ' :=[.dat (.int way), .dat (A), .dat (B), .dat (.int c), .bor E, .dat (L), .dat (.int (z:Int)), .un, .un]) (by simp! only [w7]) ?_
  obtain⟨p,hp,ep⟩:=Uv c h0 h1 (z+1) (by omega) (by omega)
  have e1:((z:Int)+1)=((z+1:Nat):Int):=by omega
  refine fD (ρ' :=[.dat (.int way), .dat (A), .dat (B), .dat (.int c), .bor E, .dat (L), .dat (.int (z:Int)), .dat (.int (p:Int)), .un]) (pG (jM (x:= .int c) (y:= .int ((z+1:Nat):Int)) rfl (by simp! only [e1]) ep)) ?_
  by_cases w8:way=8
  ·refine jP (sX (by simp! only [w8]) (gU (d:= .tuple [.str "insert",A, .int (p:Int),B]) (by
    simp! only [W6]) ⟨.insert a p b,fun x hx=> ?_,⟨by omega,bf (hi w8) mo⟩,by
    have:=hi w8
    simp only [Dd.tx,au,aY,cX]
    omega,by rw [hA,hB];rfl⟩))
   simpa [Dd.refs] using hx
  refine fD (ρ' :=[.dat (.int way), .dat (A), .dat (B), .dat (.int c), .bor E, .dat (L), .dat (.int (z:Int)), .dat (.int (p:Int)), .un]) (by simp! only [w8]) ?_
  have vm:jy (.int c) (.int 1000003)= .ok (.int (c/1000003)):=lu (by omega) (by omega)
  obtain⟨q,hq,eq⟩:=Uv (c/1000003) (by omega) (by omega) (z+1-p) (by omega) (by omega)
  have e2:((z:Int)+1-(p:Int))=((z+1-p:Nat):Int):=by omega
  have e3:((p:Int)+(q:Int))=((p+q:Nat):Int):=by omega
  have ca:fG mO [(eV jy (eE 3) (eC (.int 1000003))),(eV pH (eV jw (eE 6) (eC (.int 1))) (eE 7))] [.dat (.int way), .dat (A), .dat (B), .dat (.int c), .bor E, .dat (L), .dat (.int (z:Int)), .dat (.int (p:Int)), .un]= .ok (.int (q:Int)):=jM (x:= .int (c/1000003)) (y:= .int ((z+1-p:Nat):Int)) (by simp! only [vm]) (by simp! only [e2]) eq
  refine fD (ρ' :=[.dat (.int way), .dat (A), .dat (B), .dat (.int c), .bor E, .dat (L), .dat (.int (z:Int)), .dat (.int (p:Int)), .dat (.int ((p+q:Nat):Int))]) (pG (by rw [lM,ca];simp! only [e3])) ?_
  by_cases w5:way=5
  ·have d9:jy (.int way) (.int 9)= .ok (.int 0):=by rw [lu (by omega) (by omega),w5];rfl
   refine gU (d:= .tuple [.str "cut",A, .int (p:Int), .int ((p+q:Nat):Int)]) (by
    simp! only [W6,d9,yc]) ⟨.cut a p (p+q),fun x hx=> ?_,⟨by omega,by omega⟩,by
    simp only [Dd.tx,stretch,cX,aY]
    omega,by rw [hA];rfl⟩
   left
   simpa [Dd.refs] using hx
  ·have w9:way=9:=by omega
   have d9:jy (.int way) (.int 9)= .ok (.int 1):=by rw [lu (by omega) (by omega),w9];rfl
   refine gU (d:= .tuple [.str "remove",A, .int (p:Int), .int ((p+q:Nat):Int)]) (by
    simp! only [W6,d9,Di]) ⟨.remove a p (p+q),fun x hx=> ?_,⟨by omega,by omega⟩,by
    simp only [Dd.tx,au,aY,cX]
    omega,by rw [hA];rfl⟩
   left
   simpa [Dd.refs] using hx
 obtain⟨r,hr,d,a1,a2,a3,rfl⟩:=wJ (ks:=[.dat, .dat, .dat, .dat, .bor, .dat]) (n:=3) (m:=uD) (ds:=[.int way,A,B, .int c,E,L]) run
 refine⟨d,a1,a2,a3,?_⟩
 rw [←hA,←hB,←hE,←hL]
 exact hr
theorem acC(x a b c:Int):WT false (.int x) (.tuple [.int a, .int b, .int c])= .ok (.bool (decide (x=a∨x=b∨x=c))):=by
 simp only [WT,Cu,List.all_cons,List.all_nil,Bool.and_self,if_true,Bool.true_and]
 congr 2
 show((a==x)||((b==x)||((c==x)||false)))=decide (x=a∨x=b∨x=c)
 rw [Bool.eq_iff_iff]
 simp only [Bool.or_eq_true,beq_iff_eq,Bool.or_false,decide_eq_true_eq]
 constructor<;>intro h<;>omega
theorem aeZ{v:Int}(h1:¬v<5)(h2:v≤9)(h6:¬v=6):v=5∨v=7∨v=8∨v=9:=by omega
theorem abm{v:Int}(h1:1≤v)(h3:v<3):v=1∨v=2∨v=8:=by omega
theorem agz{P:Prop}:(6:Int)=1∨(6:Int)=2∨(6:Int)=8→P:=fun h=>by omega
theorem afG{a b m:Nat}(h:¬(m:Int)<(a:Int)+(b:Int)):a+b≤m:=by omega
theorem ZR{w:Int}(h:0≤w∧w<10)(h0:¬w=0):1≤w∧w≤9:=by omega
theorem acY(c:Int)(h0:0≤c)(h1:c<10 ^ 60)(T:List Nat→List Nat)(ws:List (List Nat))(hws:ws.length<60)(l:List Nat)(hl:adf l)(most:Nat)(mo1:1≤most)(mo:most≤MOST)(hm:∀a∈ws,(T a).length≤most):
 ∃d:Dd (List Nat),(∀x∈d.refs,x∈ws)∧d.ok T∧(d.tx T).length≤most∧vO [.int c,R5 T ws, .str (fP l), .int ((most:Nat):Int)]= .ok d.M5:=by
 have big:MOST<2 ^ 61:=by decide
 have so:=Tj (fun w=> .int (((T w).length:Nat):Int)) ws (by omega)
 obtain⟨sw,hsw⟩:∃sw,sw=Ot ws:=⟨_,rfl⟩
 have pm:=Bq ws
 rw [←hsw] at so pm
 have sl:sw.length=ws.length:=pm.length_eq
 obtain⟨E,hE⟩:∃E,E=R5 T ws:=⟨_,rfl⟩
 obtain⟨L,hL⟩:∃L,L=aN (fP l):=⟨_,rfl⟩
 obtain⟨S,hS⟩:∃S,S=di (sw.map iU):=⟨_,rfl⟩
 have gE:∀a∈ws,jr E (iU a)= .ok (.int (((T a).length:Nat):Int)):=fun a ha=>by rw [hE];exact Dh _ ha
 have so' :nU E= .ok S:=by rw [hE,hS];exact so
 have lS:je [S]= .ok (.int ((sw.length:Nat):Int)):=by rw [hS,Hl,aA]
 obtain⟨M,hM⟩:∃M:Int,M=((most:Nat):Int):=⟨_,rfl⟩
 obtain⟨x,hx⟩:∃x:Int,x=c*1566083941+97:=⟨_,rfl⟩
 have x0:0≤x:=by omega
 have x1:x<10 ^ 90:=by omega
 have mu:jZ (.int c) (.int 1566083941)= .ok (.int (c*1566083941)):=mJ (by omega) (by omega) (by omega) (by omega)
 have ten:iz (.int x) (.int 10)= .ok (.int (x%10)):=gR (by omega)
 have v4:jy (.int x) (.int 40960)= .ok (.int (x/40960)):=lu (by omega) (by omega)
 have v10:jy (.int x) (.int 10)= .ok (.int (x/10)):=lu (by omega) (by omega)
 have v640:jy (.int x) (.int 640)= .ok (.int (x/640)):=lu (by omega) (by omega)
 have m64:∀y:Int,iz (.int y) (.int 64)= .ok (.int (y%64)):=fun y=>gR (by omega)
 obtain⟨w,hw⟩:∃w:Int,w=x%10:=⟨_,rfl⟩
 have w0:0≤w∧w<10:=by omega
 rw [←hw] at ten
 have run:Rt (wg [.dat (.int c), .bor E, .dat (L), .dat (.int M), .un, .un, .un, .un]) (fun r=>∃d:Dd (List Nat),(∀x∈d.refs,x∈ws)∧d.ok T∧(d.tx T).length≤most∧r=d.M5):=by
  unfold wg
  refine fD (ρ' :=[.dat (.int x), .bor E, .dat (L), .dat (.int M), .un, .un, .un, .un]) (by simp! only [mu,hx]) ?_
  refine fD (ρ' :=[.dat (.int x), .bor E, .dat (L), .dat (.int M), .dat (S), .un, .un, .un]) (pG (by rw [qM,Cy];simp! only [so'];rw [hS];rfl)) ?_
  refine fD (ρ' :=[.dat (.int x), .bor E, .dat (L), .dat (.int M), .dat (S), .dat (.int w), .un, .un]) (by simp! only [ten]) ?_
  have isd:Rt (gH (jG [(eC (.str "is")),(fG rF [(eV jy (eE 0) (eC (.int 40960))),(eE 2),(eE 3)])]) [.dat (.int x), .bor E, .dat (L), .dat (.int M), .dat (S), .dat (.int w), .un, .un]) (fun r=>∃d:Dd (List Nat),(∀x∈d.refs,x∈ws)∧d.ok T∧(d.tx T).length≤most∧r=d.M5):=by
   obtain⟨u,u1,u2,u3,u4,eu⟩:=aaK (x/40960) (by omega) (by omega) l hl most mo1 (bf mo (by decide))
   rw [←hL,←hM] at eu
   have ca:fG rF [(eV jy (eE 0) (eC (.int 40960))),(eE 2),(eE 3)] [.dat (.int x), .bor E, .dat (L), .dat (.int M), .dat (S), .dat (.int w), .un, .un]= .ok (.str (fP u)):=kE (x:= .int (x/40960)) (by simp! only [v4]) rfl rfl eu
   exact gU (d:= .tuple [.str "is", .str (fP u)]) (by rw [WD,ca];rfl) ⟨.is u,fun y hy=>by simp [Dd.refs] at hy,⟨u1,u2,u4⟩,u3,rfl⟩
  by_cases c0:w=0
  ·exact jP (sX (by simp! only [c0]) isd)
  by_cases c1:sw.length=0
  ·exact jP (sX (by simp! only [lS,c0,c1];rfl) isd)
  have sp:1≤sw.length:=by omega
  have nz:¬((sw.length:Nat):Int)=0:=by omega
  refine fD (ρ' :=[.dat (.int x), .bor E, .dat (L), .dat (.int M), .dat (S), .dat (.int w), .un, .un]) (by simp! only [lS,c0,nz]) ?_
  have pick:∀y:Int,∃a,a∈ws∧iz (.int (y%64)) (.int ((sw.length:Nat):Int))= .ok (.int (y%64%((sw.length:Nat):Int)))∧gj S (.int (y%64%((sw.length:Nat):Int)))= .ok (iU a):=fun y=>by
   have e1:0≤y%64%((sw.length:Nat):Int):=bM _ (by omega)
   have e2:=bK (y%64) (show 0<((sw.length:Nat):Int) by omega)
   obtain⟨k,hk⟩:∃k:Nat,(k:Int)=y%64%((sw.length:Nat):Int):=⟨(y%64%((sw.length:Nat):Int)).toNat,by omega⟩
   have kl:k<sw.length:=by omega
   refine⟨sw[k],pm.mem_iff.mp (dG kl),gR (by omega),?_⟩
   rw [hS,tW e1 (by rw [aA];exact e2),←hk,cZ,bJ,aH,aP kl]
   rfl
  obtain⟨a,ha,a1,a2⟩:=pick (x/10)
  obtain⟨b,hb,b1,b2⟩:=pick (x/640)
  refine fD (ρ' :=[.dat (.int x), .bor E, .dat (L), .dat (.int M), .dat (S), .dat (.int w), .dat (iU a), .un]) (by simp! only [v10,m64,lS,a1,a2]) ?_
  refine fD (ρ' :=[.dat (.int x), .bor E, .dat (L), .dat (.int M), .dat (S), .dat (.int w), .dat (iU a), .dat (iU b)]) (by simp! only [v640,m64,lS,b1,b2]) ?_
  have ga:=gE a ha
  have gb:=gE b hb
  refine oK (N:=fun ρ=>∃v:Int,ρ=[.dat (.int x), .bor E, .dat (L), .dat (.int M), .dat (S), .dat (.int v), .dat (iU a), .dat (iU b)]∧1≤v∧v≤9∧(v=1∨v=2∨v=8→(T a).length+(T b).length≤most)) ?_ ?_
  ·by_cases q1:w=1∨w=2∨w=8
   ·have e1:decide (w=1∨w=2∨w=8)=true:=decide_eq_true q1
    by_cases q2:(((T a).length:Nat):Int)+(((T b).length:Nat):Int)>M
    ·have e2:M<(((T a).length:Nat):Int)+(((T b).length:Nat):Int):=q2
     exact jE (ρ' :=[.dat (.int x), .bor E, .dat (L), .dat (.int M), .dat (S), .dat (.int 6), .dat (iU a), .dat (iU b)]) (by simp! only [acC,e1,ga,gb,e2]) ⟨6,rfl,by decide,by decide,agz⟩
    ·have e2:¬M<(((T a).length:Nat):Int)+(((T b).length:Nat):Int):=q2
     have q3:(T a).length+(T b).length≤most:=by
      rw [hM] at e2
      exact afG e2
     exact jE (ρ' :=[.dat (.int x), .bor E, .dat (L), .dat (.int M), .dat (S), .dat (.int w), .dat (iU a), .dat (iU b)]) (by simp! only [acC,e1,ga,gb,e2]) ⟨w,rfl,(ZR w0 c0).1,(ZR w0 c0).2,fun _=>q3⟩
   ·have e1:decide (w=1∨w=2∨w=8)=false:=decide_eq_false q1
    exact jE (ρ' :=[.dat (.int x), .bor E, .dat (L), .dat (.int M), .dat (S), .dat (.int w), .dat (iU a), .dat (iU b)]) (by simp! only [acC,e1]) ⟨w,rfl,(ZR w0 c0).1,(ZR w0 c0).2,fun z=>absurd z q1⟩
  rintro ρ ⟨v,rfl,v1,v9,hv⟩
  by_cases c3:v<3
  ·refine jP (sX (by simp! only [c3]) (gU (d:= .tuple [.str "join",iU a,iU b]) (by simp! only []) ⟨.join a b,fun y hy=> ?_,bf (hv (abm v1 c3)) mo,by
    rw [Dd.tx,au]
    exact hv (abm v1 c3),rfl⟩))
   simp only [Dd.refs,aJ,bD,or_false] at hy
   rcases hy with rfl|rfl
   ·exact ha
   ·exact hb
  refine fD (ρ' :=[.dat (.int x), .bor E, .dat (L), .dat (.int M), .dat (S), .dat (.int v), .dat (iU a), .dat (iU b)]) (by simp! only [c3]) ?_
  by_cases c5:v<5
  ·obtain⟨n,n1,n2,en⟩:=abR (x/40960) (by omega) (by omega) (T a).length most (bf (hm a ha) mo) mo
   rw [←hM] at en
   have ca:fG vP [(eV jy (eE 0) (eC (.int 40960))),(eV jr (gD 1) (eE 6)),(eE 3)] [.dat (.int x), .bor E, .dat (L), .dat (.int M), .dat (S), .dat (.int v), .dat (iU a), .dat (iU b)]= .ok (.int (n:Int)):=kE (x:= .int (x/40960)) (y:= .int (((T a).length:Nat):Int)) (by simp! only [v4]) (by simp! only [ga]) rfl en
   refine jP (sX (by simp! only [c5]) (gU (d:= .tuple [.str "times",iU a, .int (n:Int)]) (by rw [Wu,ca];rfl) ⟨.times a n,fun y hy=> ?_,⟨n1,bf n2 mo⟩,by
    rw [Dd.tx,pQ,bT]
    exact n2,rfl⟩))
   have:y=a:=by simpa [Dd.refs] using hy
   rw [this]
   exact ha
  refine fD (ρ' :=[.dat (.int x), .bor E, .dat (L), .dat (.int M), .dat (S), .dat (.int v), .dat (iU a), .dat (iU b)]) (by simp! only [c5]) ?_
  by_cases c6:v=6
  ·refine jP (sX (by simp! only [c6]) (gU (d:= .tuple [.str "turn",iU a]) (by simp! only []) ⟨.turn a,fun y hy=> ?_,trivial,by
    rw [Dd.tx,bL]
    exact hm a ha,rfl⟩))
   have:y=a:=by simpa [Dd.refs] using hy
   rw [this]
   exact ha
  refine fD (ρ' :=[.dat (.int x), .bor E, .dat (L), .dat (.int M), .dat (S), .dat (.int v), .dat (iU a), .dat (iU b)]) (by simp! only [c6]) ?_
  obtain⟨d,d1,d2,d3,ed⟩:=Z7 v (aeZ c5 v9 c6) a b (x/40960) (by omega) (by omega) T ws ha l hl most mo (hm a ha) (fun z=>hv (.inr (.inr z)))
  rw [←hL,←hE] at ed
  refine gU (d:=d.M5) (adH (x:= .int v) (y:=iU a) (z:=iU b) (w:= .int (x/40960)) (v:=E) (u:=L) rfl rfl rfl (by simp! only [v4]) rfl rfl ed) ⟨d,fun y hy=> ?_,d2,d3,rfl⟩
  rcases d1 y hy with rfl|rfl
  ·exact ha
  ·exact hb
 obtain⟨r,hr,d,a1,a2,a3,rfl⟩:=wJ (ks:=[.dat, .bor, .dat, .dat]) (n:=4) (m:=wg) (ds:=[.int c,E,L, .int M]) run
 refine⟨d,a1,a2,a3,?_⟩
 rw [←hE,←hL,←hM]
 exact hr
end Sb
namespace Sb
open PySem PySem.Spec L2 Evl DL
theorem adQ{w:List Nat}{d:Dd (List Nat)}(h:zX w d):vg [iU w,d.M5]= .ok (.str (fP (TL.joinL [32] (d.row w)))):=by
 have al:=N6 d
 have lc:∀ρ:DL.Env,iTM (eE 1) ρ= .ok (.str d.verb::d.args.map (fun q=>q.2.2))→ρ.length=3→Oc (iTM (eE 1)) (gN 2) (eC (.bool true)) (fG Cz [(eE 2)]) [2] ρ= .ok (.list (((pJ,d.verb.cps.toList,aN d.verb)::d.args).map fun q=>aN (fP q.2.1))):=fun ρ hi hl=>by
  refine GZ (fun q:Str×List Nat×D=>q.2.2) _ (xs:=(pJ,d.verb.cps.toList,aN d.verb)::d.args) hi (fun q hq=> ?_) (by simp only [aW];exact tG (by omega))
  have hb:Cz [q.2.2]= .ok (.str (fP q.2.1)):=by
   rcases aJ.mp hq with rfl|hq
   ·show ER.ok (aN d.verb)=_
    rw [abw]
   ·exact(h.v q hq).2.2.1
  have l3:(rM ρ [2]).length=3:=by simp [rM,hl]
  refine⟨_,nu,rfl,oA (x:=q.2.2) ?_ hb⟩
  simp [eE,l3]
 have e1:vg [iU w,d.M5]=Bg wO (eC (.str " ")) (eV jw (lC [(eE 0)]) (Oc (iTM (eE 1)) (gN 2) (eC (.bool true)) (fG Cz [(eE 2)]) [2])) [.dat (iU w), .dat d.M5, .un]→True:=fun _=>trivial
 refine jg ?_
 show Rt (CJ [.dat (iU w), .dat d.M5, .un]) _
 unfold CJ
 refine gU ?_ rfl
 have e2:=lc [.dat (iU w), .dat d.M5, .un] (by
  show iTM (eE 1) [.dat (iU w), .dat d.M5, .un]=_
  rw [d.Hr]
  cases d<;>rfl) rfl
 have e3:jw (.list [iU w]) (.list (((pJ,d.verb.cps.toList,aN d.verb)::d.args).map fun q=>aN (fP q.2.1)))= .ok (.list ((d.row w).map fun l=>aN (fP l))):=by
  rw [aea (by simp only [aA,aW,bW];exact tG (by omega))]
  simp only [Dd.row,aZ,bY,cH,cP]
  rfl
 have e4:=JC " " (d.row w) 40 (fun l hl=>(Bh h l hl).1) (by
  have:(" ":Str).length=1:=by decide+kernel
  rw [this]
  simp only [Dd.row,aW,aA]
  omega)
 have e5:(" ":Str).cps.toList=[32]:=by decide+kernel
 rw [e5] at e4
 simp only [Bg,eC,gY,lM,e2,WK,jO,e3,e4]
end Sb
namespace Sb
open PySem PySem.Spec L2 Evl DL
section
variable(δ:Nat→Nat→Nat)(N:Nat)
end
theorem X6(l:List Nat)(lo hi:Option Int):cutS (fP l) lo hi=fP (cutD l lo hi):=by
 unfold cutS cutD
 simp only [lK]
theorem ac5{α:Type}(xs:List α)(k n:Nat):cutD xs (some (k:Int)) (some ((k:Int)+(n:Int)))=(xs.drop k).take n:=by
 unfold cutD
 rw [show(k:Int)+(n:Int)=((k+n:Nat):Int) by omega,HT.sIx_nat,HT.sIx_nat]
 by_cases h:k≤xs.length
 ·rw [Nat.min_eq_left h]
  by_cases h2:k+n≤xs.length
  ·rw [Nat.min_eq_left h2,Nat.add_sub_cancel_left]
  ·rw [Nat.min_eq_right (by omega),bF (by rw [cX];omega),bF (by rw [cX];omega)]
 ·rw [List.drop_of_length_le (by omega),List.drop_of_length_le (by omega)]
  simp
section
variable{ρ:DL.Env}{m ma mb:EM}{l:List Nat}{k n:Nat}
theorem acF(h:m ρ= .ok (.str (fP l)))(ha:ma ρ= .ok (.int (k:Int)))(hl:l.length≤10000000):Cp m none (some ma) ρ= .ok (.str (fP (l.take k))):=by
 have hz:(fP l).length≤sizeLine:=by rw [lK];exact tG (by omega)
 simp only [Cp,h,gY,Y8,ha,dSl,hz,if_true,X6,ae3]
theorem Vh(h:m ρ= .ok (.str (fP l)))(ha:ma ρ= .ok (.int (k:Int)))(hl:l.length≤10000000):Cp m (some ma) none ρ= .ok (.str (fP (l.drop k))):=by
 have hz:(fP l).length≤sizeLine:=by rw [lK];exact tG (by omega)
 simp only [Cp,h,gY,Y8,ha,dSl,hz,if_true,X6,Nv]
theorem abp(h:m ρ= .ok (.str (fP l)))(ha:ma ρ= .ok (.int (k:Int)))(hb:mb ρ= .ok (.int ((k:Int)+(n:Int))))(hl:l.length≤10000000):Cp m (some ma) (some mb) ρ= .ok (.str (fP ((l.drop k).take n))):=by
 have hz:(fP l).length≤sizeLine:=by rw [lK];exact tG (by omega)
 simp only [Cp,h,gY,Y8,ha,hb,dSl,hz,if_true,X6,ac5]
end
end Sb
namespace Sb
open PySem PySem.Spec L2 Evl DL
theorem GP(s o:Nat):∀w:List Nat,StrLaws.replL [s] [o] w=w.map (Aa s o)
 |[]=>StrLaws.replL_nil
 |c::r=>by
  by_cases h:c=s
  ·rw [StrLaws.replL_hit (by simp) (by simp [h])]
   simp only [aW,bW,List.drop_succ_cons,List.drop_zero,aZ,cH,cP]
   rw [GP s o r]
   simp [Aa,h]
  ·rw [StrLaws.replL_miss (by simp [h]),GP s o r]
   simp [Aa,h]
theorem aaH(w:List Nat)(s o:Nat):Txt.replace (fP w) (s1 s) (s1 o)=fP (w.map (Aa s o)):=by
 refine TL.ext_tl ?_
 show(Txt.replace (fP w) (s1 s) (s1 o)).cps.toList=w.map (Aa s o)
 rw [StrLaws.replace_list (show 1≤(s1 s).length from bA 1)]
 exact GP s o w
theorem afz(w:List Nat):ab' (fP w)=fP w.reverse:=TL.ext_tl rfl
abbrev Rv(T:List Nat→List Nat)(ws:List (List Nat)):D:= .dict (uL (fun w=> .str (fP (T w))) ws)
theorem Wv(d:Dd (List Nat))(T:List Nat→List Nat)(ws:List (List Nat))(hr:∀a∈d.refs,a∈ws)(ok:d.ok T)(hl:∀a∈ws,(T a).length≤2000)(hx:(d.tx T).length≤2000):oZ [d.M5,Rv T ws]= .ok (.str (fP (d.tx T))):=by
 obtain⟨E,hE⟩:∃E,E=Rv T ws:=⟨_,rfl⟩
 have gE:∀a∈ws,jr E (iU a)= .ok (.str (fP (T a))):=fun a ha=>by rw [hE];exact Dh _ ha
 rw [←hE]
 obtain⟨M,hM⟩:∃M,M=d.M5:=⟨_,rfl⟩
 rw [←hM]
 refine jg ?_
 show Rt (uW [.dat (M), .bor E, .un]) _
 unfold uW
 cases d with
 |is u=>
  have x0:kZ M (.int 0)= .ok (.str pJ):=by rw [hM];rfl
  have x1:kZ M (.int 1)= .ok (.str (fP u)):=by rw [hM];rfl
  exact jP (sX (by simp! only [x0]) (gU (by simp! only [x1];rfl) rfl))
 |join a b=>
  have x0:kZ M (.int 0)= .ok (.str jJ):=by rw [hM];rfl
  have x1:kZ M (.int 1)= .ok (iU a):=by rw [hM];rfl
  have x2:kZ M (.int 2)= .ok (iU b):=by rw [hM];rfl
  have ha:=hr a (by simp [Dd.refs])
  have la:=hl a ha
  have ga:=gE a ha
  have hb:=hr b (by simp [Dd.refs])
  have lb:=hl b hb
  have gb:=gE b hb
  refine fD (ρ' :=[.dat (M), .bor E, .un]) (by simp! only [x0,v_all]) ?_
  obtain⟨A,hA⟩:∃A,A=aN (fP (T a)):=⟨_,rfl⟩
  rw [←hA] at ga
  refine fD (ρ' :=[.dat (M), .bor E, .dat (A)]) (by simp! only [x1,ga]) ?_
  exact jP (sX (by simp! only [x0]) (gU (by
   have ad:jw A (.str (fP (T b)))= .ok (.str (fP (T a++T b))):=by rw [hA];exact Hu (by omega)
   simp! only [x2,gb,ad];rfl) rfl))
 |times a n=>
  have x0:kZ M (.int 0)= .ok (.str jm):=by rw [hM];rfl
  have x1:kZ M (.int 1)= .ok (iU a):=by rw [hM];rfl
  have x2:kZ M (.int 2)= .ok (.int (n:Int)):=by rw [hM];rfl
  have ha:=hr a (by simp [Dd.refs])
  have la:=hl a ha
  have ga:=gE a ha
  refine fD (ρ' :=[.dat (M), .bor E, .un]) (by simp! only [x0,v_all]) ?_
  obtain⟨A,hA⟩:∃A,A=aN (fP (T a)):=⟨_,rfl⟩
  rw [←hA] at ga
  refine fD (ρ' :=[.dat (M), .bor E, .dat (A)]) (by simp! only [x1,ga]) ?_
  refine fD (ρ' :=[.dat (M), .bor E, .dat (A)]) (by simp! only [x0,v_all]) ?_
  exact jP (sX (by simp! only [x0]) (gU (by
   have h1:(T a).length*n≤2000:=by
    have h2:=hx
    simp only [Dd.tx,pQ] at h2
    rw [bT]
    exact h2
   have mu:jZ A (.int (n:Int))= .ok (.str (fP (aC n (T a)).flatten)):=by rw [hA];exact afQ (by omega) (dD ok.1 (by decide))
   simp! only [x2,mu];rfl) rfl))
 |turn a=>
  have x0:kZ M (.int 0)= .ok (.str jN):=by rw [hM];rfl
  have x1:kZ M (.int 1)= .ok (iU a):=by rw [hM];rfl
  have ha:=hr a (by simp [Dd.refs])
  have la:=hl a ha
  have ga:=gE a ha
  refine fD (ρ' :=[.dat (M), .bor E, .un]) (by simp! only [x0,v_all]) ?_
  obtain⟨A,hA⟩:∃A,A=aN (fP (T a)):=⟨_,rfl⟩
  rw [←hA] at ga
  refine fD (ρ' :=[.dat (M), .bor E, .dat (A)]) (by simp! only [x1,ga]) ?_
  refine fD (ρ' :=[.dat (M), .bor E, .dat (A)]) (by simp! only [x0,v_all]) ?_
  refine fD (ρ' :=[.dat (M), .bor E, .dat (A)]) (by simp! only [x0,v_all]) ?_
  exact jP (sX (by simp! only [x0]) (gU (by
   have h1:(fP (T a)).length≤1000000:=by rw [lK];omega
   rw [hA]
   simp only [El,kJ,jO,h1,if_true,afz]
   rfl) rfl))
 |put a s o=>
  have x0:kZ M (.int 0)= .ok (.str lF):=by rw [hM];rfl
  have x1:kZ M (.int 1)= .ok (iU a):=by rw [hM];rfl
  have x2:kZ M (.int 2)= .ok (.str (s1 s)):=by rw [hM];rfl
  have x3:kZ M (.int 3)= .ok (.str (s1 o)):=by rw [hM];rfl
  have ha:=hr a (by simp [Dd.refs])
  have la:=hl a ha
  have ga:=gE a ha
  refine fD (ρ' :=[.dat (M), .bor E, .un]) (by simp! only [x0,v_all]) ?_
  obtain⟨A,hA⟩:∃A,A=aN (fP (T a)):=⟨_,rfl⟩
  rw [←hA] at ga
  refine fD (ρ' :=[.dat (M), .bor E, .dat (A)]) (by simp! only [x1,ga]) ?_
  refine fD (ρ' :=[.dat (M), .bor E, .dat (A)]) (by simp! only [x0,v_all]) ?_
  refine fD (ρ' :=[.dat (M), .bor E, .dat (A)]) (by simp! only [x0,v_all]) ?_
  refine fD (ρ' :=[.dat (M), .bor E, .dat (A)]) (by simp! only [x0,v_all]) ?_
  exact jP (sX (by simp! only [x0]) (gU (by
   have h1:(fP (T a)).length+((fP (T a)).length+1)*(s1 o).length≤16777216:=by
    have:(s1 o).length=1:=rfl
    rw [lK,this]
    omega
   rw [hA,hM]
   show aac 2 0 [.dat (Dd.M5 (.put a s o)), .bor E, .dat (.str (fP (T a)))]=_
   show(if(fP (T a)).length+((fP (T a)).length+1)*(s1 o).length≤16777216 then ER.ok (.str (Txt.replace (fP (T a)) (s1 s) (s1 o))) else .bad)=_
   rw [if_pos h1,aaH]
   rfl) rfl))
 |insert a p b=>
  have x0:kZ M (.int 0)= .ok (.str iH):=by rw [hM];rfl
  have x1:kZ M (.int 1)= .ok (iU a):=by rw [hM];rfl
  have x2:kZ M (.int 2)= .ok (.int (p:Int)):=by rw [hM];rfl
  have x3:kZ M (.int 3)= .ok (iU b):=by rw [hM];rfl
  have ha:=hr a (by simp [Dd.refs])
  have la:=hl a ha
  have ga:=gE a ha
  have hb:=hr b (by simp [Dd.refs])
  have lb:=hl b hb
  have gb:=gE b hb
  refine fD (ρ' :=[.dat (M), .bor E, .un]) (by simp! only [x0,v_all]) ?_
  obtain⟨A,hA⟩:∃A,A=aN (fP (T a)):=⟨_,rfl⟩
  rw [←hA] at ga
  refine fD (ρ' :=[.dat (M), .bor E, .dat (A)]) (by simp! only [x1,ga]) ?_
  refine fD (ρ' :=[.dat (M), .bor E, .dat (A)]) (by simp! only [x0,v_all]) ?_
  refine fD (ρ' :=[.dat (M), .bor E, .dat (A)]) (by simp! only [x0,v_all]) ?_
  refine fD (ρ' :=[.dat (M), .bor E, .dat (A)]) (by simp! only [x0,v_all]) ?_
  refine fD (ρ' :=[.dat (M), .bor E, .dat (A)]) (by simp! only [x0,v_all]) ?_
  exact jP (sX (by simp! only [x0]) (gU (by
   have t1:Cp (eE 2) none (some (eV kZ (eE 0) (eC (.int 2)))) [.dat (M), .bor E, .dat (A)]= .ok (.str (fP ((T a).take p))):=acF (by rw [hA];rfl) (by simp! only [x2]) (by omega)
   have t2:Cp (eE 2) (some (eV kZ (eE 0) (eC (.int 2)))) none [.dat (M), .bor E, .dat (A)]= .ok (.str (fP ((T a).drop p))):=Vh (by rw [hA];rfl) (by simp! only [x2]) (by omega)
   have t3:eV jr (gD 1) (eV kZ (eE 0) (eC (.int 3))) [.dat (M), .bor E, .dat (A)]= .ok (.str (fP (T b))):=by simp! only [x3,gb]
   have l1:((T a).take p).length≤(T a).length:=by rw [aY];omega
   have l2:((T a).drop p).length≤(T a).length:=by rw [cX];omega
   rw [lM,lM,t1,gY,t3,gY,Hu (by omega),gY,t2,gY,Hu (by rw [au];omega)]
   rfl) rfl))
 |cut a s e=>
  have x0:kZ M (.int 0)= .ok (.str lD):=by rw [hM];rfl
  have x1:kZ M (.int 1)= .ok (iU a):=by rw [hM];rfl
  have x2:kZ M (.int 2)= .ok (.int (s:Int)):=by rw [hM];rfl
  have x3:kZ M (.int 3)= .ok (.int (e:Int)):=by rw [hM];rfl
  have ha:=hr a (by simp [Dd.refs])
  have la:=hl a ha
  have ga:=gE a ha
  refine fD (ρ' :=[.dat (M), .bor E, .un]) (by simp! only [x0,v_all]) ?_
  obtain⟨A,hA⟩:∃A,A=aN (fP (T a)):=⟨_,rfl⟩
  rw [←hA] at ga
  refine fD (ρ' :=[.dat (M), .bor E, .dat (A)]) (by simp! only [x1,ga]) ?_
  refine fD (ρ' :=[.dat (M), .bor E, .dat (A)]) (by simp! only [x0,v_all]) ?_
  refine fD (ρ' :=[.dat (M), .bor E, .dat (A)]) (by simp! only [x0,v_all]) ?_
  refine fD (ρ' :=[.dat (M), .bor E, .dat (A)]) (by simp! only [x0,v_all]) ?_
  refine fD (ρ' :=[.dat (M), .bor E, .dat (A)]) (by simp! only [x0,v_all]) ?_
  refine fD (ρ' :=[.dat (M), .bor E, .dat (A)]) (by simp! only [x0,v_all]) ?_
  exact jP (sX (by simp! only [x0]) (gU (by
   have e1:(e:Int)=(s:Int)+((e-s:Nat):Int):=by have:=ok.1;omega
   have t1:Cp (eE 2) (some (eV kZ (eE 0) (eC (.int 2)))) (some (eV kZ (eE 0) (eC (.int 3)))) [.dat (M), .bor E, .dat (A)]= .ok (.str (fP (((T a).drop s).take (e-s)))):=abp (by rw [hA];rfl) (by simp! only [x2]) (by simp! only [x3];rw [←e1]) (by omega)
   rw [t1]
   congr 3
   show _=stretch (T a) s e
   unfold stretch
   rw [List.drop_take]) rfl))
 |remove a s e=>
  have x0:kZ M (.int 0)= .ok (.str ir):=by rw [hM];rfl
  have x1:kZ M (.int 1)= .ok (iU a):=by rw [hM];rfl
  have x2:kZ M (.int 2)= .ok (.int (s:Int)):=by rw [hM];rfl
  have x3:kZ M (.int 3)= .ok (.int (e:Int)):=by rw [hM];rfl
  have ha:=hr a (by simp [Dd.refs])
  have la:=hl a ha
  have ga:=gE a ha
  refine fD (ρ' :=[.dat (M), .bor E, .un]) (by simp! only [x0,v_all]) ?_
  obtain⟨A,hA⟩:∃A,A=aN (fP (T a)):=⟨_,rfl⟩
  rw [←hA] at ga
  refine fD (ρ' :=[.dat (M), .bor E, .dat (A)]) (by simp! only [x1,ga]) ?_
  refine fD (ρ' :=[.dat (M), .bor E, .dat (A)]) (by simp! only [x0,v_all]) ?_
  refine fD (ρ' :=[.dat (M), .bor E, .dat (A)]) (by simp! only [x0,v_all]) ?_
  refine fD (ρ' :=[.dat (M), .bor E, .dat (A)]) (by simp! only [x0,v_all]) ?_
  refine fD (ρ' :=[.dat (M), .bor E, .dat (A)]) (by simp! only [x0,v_all]) ?_
  refine fD (ρ' :=[.dat (M), .bor E, .dat (A)]) (by simp! only [x0,v_all]) ?_
  refine fD (ρ' :=[.dat (M), .bor E, .dat (A)]) (by simp! only [x0,v_all]) ?_
  exact gU (by
   have t1:Cp (eE 2) none (some (eV kZ (eE 0) (eC (.int 2)))) [.dat (M), .bor E, .dat (A)]= .ok (.str (fP ((T a).take s))):=acF (by rw [hA];rfl) (by simp! only [x2]) (by omega)
   have t2:Cp (eE 2) (some (eV kZ (eE 0) (eC (.int 3)))) none [.dat (M), .bor E, .dat (A)]= .ok (.str (fP ((T a).drop e))):=Vh (by rw [hA];rfl) (by simp! only [x3]) (by omega)
   have l1:((T a).take s).length≤(T a).length:=by rw [aY];omega
   have l2:((T a).drop e).length≤(T a).length:=by rw [cX];omega
   rw [lM,t1,gY,t2,gY,Hu (by omega)]
   rfl) rfl
end Sb
namespace Sb
open PySem PySem.Spec L2 Evl DL
structure StS(m:Nat)(es:List St):Prop where
 rf:∀(i:Nat) e,es[i]? =some e→∀a∈e.2.refs,a∈mG (es.take i)
 ok:∀(i:Nat) e,es[i]? =some e→e.2.ok (pX (es.take i))
 rw_:∀(i:Nat) e,es[i]? =some e→zX e.1 e.2
 sz:∀(i:Nat) e,es[i]? =some e→(e.2.tx (pX (es.take i))).length≤m
theorem StS.nil{m:Nat}:StS m []:=⟨fun i e h=>by simp at h,fun i e h=>by simp at h,fun i e h=>by simp at h,fun i e h=>by simp at h⟩
theorem StS.snoc{m:Nat}{es:List St}(h:StS m es){e:St}(h1:∀a∈e.2.refs,a∈mG es)(h2:e.2.ok (pX es))(h3:zX e.1 e.2)(h4:(e.2.tx (pX es)).length≤m):StS m (es++[e]):=by
 have at_:∀(i:Nat) x,(es++[e])[i]? =some x→(es[i]? =some x∧(es++[e]).take i=es.take i)∨(x=e∧(es++[e]).take i=es):=fun i x hx=>by
  have hi:=(aq.mp hx).1
  rw [au,cD] at hi
  by_cases z:i<es.length
  ·rw [aO z] at hx
   exact .inl ⟨hx,cI (by omega)⟩
  ·have e1:i=es.length:=by omega
   subst e1
   rw [bG (bA _)] at hx
   simp only [Nat.sub_self,aG,Option.some.injEq] at hx
   exact .inr ⟨hx.symm,by simp⟩
 refine⟨fun i x hx=> ?_,fun i x hx=> ?_,fun i x hx=> ?_,fun i x hx=> ?_⟩<;>rcases at_ i x hx with⟨a,b⟩|⟨rfl,b⟩
 ·rw [b];exact h.rf i x a
 ·rw [b];exact h1
 ·rw [b];exact h.ok i x a
 ·rw [b];exact h2
 ·exact h.rw_ i x a
 ·exact h3
 ·rw [b];exact h.sz i x a
 ·rw [b];exact h4
structure TxS(m:Nat)(rs:List Rule)(n:Option Nat)(w:List Nat):Prop where
 x:Eu rs n w
 t:T2 rs
 l:rs.length≤2*m
theorem acf{m:Nat}{R:List Nat→List Rule}{d:Dd (List Nat)}{T:List Nat→List Nat}(ok:d.ok T)(h:∀a∈d.refs,(R a).length≤2*m):d.bd (fun a=>(R a).length)≤12*m+86:=by
 cases d<;>simp only [Dd.refs,aJ,bD,or_false,forall_eq_or_imp,forall_eq] at h<;>simp only [Dd.bd]
 case is w=>
  have:=ok.2.1
  omega
 all_goals omega
theorem Xp{m:Nat}(hm:m≤10000){R:List Nat→List Rule}{N:List Nat→Option Nat}{T:List Nat→List Nat}{ws:List (List Nat)}(hT:∀a∈ws,TxS m (R a) (N a) (T a))(d:Dd (List Nat))(hr:∀a∈d.refs,a∈ws)(ok:d.ok T)(w:List Nat)(hs:(d.tx T).length≤m):
 ∃qs k,nA [.dict (uL (fun a=>pairD (R a) (N a)) ws), .tuple [.str d.verb,iU w, .list (d.rest iU)]]= .ok (pairD qs k)∧TxS m qs k (d.tx T):=by
 have b:=acf (R:=R) (m:=m) ok fun a ha=>(hT a (hr a ha)).l
 obtain⟨qs,k,mt,tq,_,l2⟩:=acs (fun a ha=>(hT a ha).x) d hr ok w (by omega)
 obtain⟨t2,le⟩:=l2 fun a ha=>(hT a (hr a ha)).t
 exact⟨qs,k,mt,tq,t2,by omega⟩
theorem Vv{m:Nat}(hm:m≤10000)(es:List St)(h:StS m es)(hl:es.length≤1000)(hw:(mG es).length≤40):∃(rs:List Rule) (M:List Nat→Option Nat),Cv [.str (fP (xP es))]= .ok (.tuple [fu rs,namesW (Ot (mG es)) M])∧Good rs∧Fits MOST rs∧rs.length≤8000000∧∀a∈mG es,Eu rs (M a) (pX es a):=by
 obtain⟨R,N,te,inv⟩:=Xe es h.rw_ hl (fun i R N=>∀a∈mG (es.take i),TxS m (R a) (N a) (pX (es.take i) a)) (fun a ha=>by simp [mG] at ha) (fun i e R N he inv=>by
  have et:es.take (i+1)=es.take i++[e]:=by
   rw [bH,he]
   rfl
  obtain⟨qs,k,mt,tq⟩:=Xp hm inv e.2 (h.rf i e he) (h.ok i e he) e.1 (h.sz i e he)
  refine⟨qs,k,mt,fun a ha=> ?_⟩
  rw [et,pY,Ep] at ha
  rw [et,Af]
  unfold upT
  by_cases z:a=e.1
  ·simp only [z,if_true]
   exact tq
  ·simp only [z,if_false]
   exact inv a (ha.resolve_right z))
 simp only [bV] at inv
 exact afW es R N te (fun a ha=>⟨(inv a ha).x,bf (inv a ha).l (by omega)⟩) hw
end Sb
namespace Sb
open PySem PySem.Spec L2 Evl DL
theorem Hw(i:Int):nO [.int i]= .ok (.bool true):=by
 simp! only [nO,Fv,Bool.or_self]
end Sb
namespace Sb
open PySem PySem.Spec L2 Evl DL
theorem Uk(rs:List Rule)(g:Good rs)(f:Fits MOST rs)(hl:rs.length≤16700000)(k:Nat)(hk:k<rs.length)(p:Nat)(hp:p<(sizes rs).getD k 0):oR [fu rs,fL (sizes rs), .int (k:Int), .int (p:Int)]= .ok (.str (s1 (((texts rs).getD k []).getD p 0))):=by
 obtain⟨L,hL⟩:∃L,L=fu rs:=⟨_,rfl⟩
 obtain⟨S,hS⟩:∃S,S=fL (sizes rs):=⟨_,rfl⟩
 obtain⟨c,hc⟩:∃c,c=((texts rs).getD k []).getD p 0:=⟨_,rfl⟩
 rw [←hL,←hS,←hc]
 have ixr:∀(a:Nat) r,rs[a]? =some r→gj L (.int (a:Int))= .ok (fJ r):=fun a r h=>by rw [hL];exact rN h
 have ixs:∀a:Nat,a<rs.length→gj S (.int (a:Int))= .ok (.int (((sizes rs).getD a 0:Nat):Int)):=fun a h=>by rw [hS];exact kY (by rw [j5];exact h)
 refine jg ?_
 show Rt (vh [.dat L, .dat S, .dat (.int (k:Int)), .dat (.int (p:Int)), .un]) _
 unfold vh
 refine oK (xK (N:=fun ρ=>∃(a:Nat) (d3 k4:Sl),ρ=[.dat L, .dat S, .dat (.int (a:Int)),d3,k4]∧rs[a]? =some (.sign c)) (fun n ρ=>∃(q:Nat) (k4:Sl),ρ=[.dat L, .dat S, .dat (.int (n:Int)), .dat (.int (q:Int)),k4]∧n<rs.length∧q<(sizes rs).getD n 0∧((texts rs).getD n []).getD q 0=c) k (by omega) ⟨p,_,rfl,hk,hp,hc.symm⟩ ?_) ?_
 ·rintro n ρ ⟨q,k4,rfl,hn,hq,ht⟩
  have hr:rs[n]? =some rs[n]:=by simp [hn]
  obtain⟨r,er⟩:∃r,r=rs[n]:=⟨_,rfl⟩
  rw [←er] at hr
  have ix:=ixr n r hr
  have ok:=g n r hr
  have tx:=qP g hr
  have sz:=sY g hr
  rw [tx] at ht
  cases r with
  |sign s=>
   left
   refine⟨by simp! only [ix,fJ,ig],n,_,_,rfl,?_⟩
   rw [hr]
   have q0:q=0:=by
    rw [sz] at hq
    simp only [Rule.size] at hq
    omega
   rw [q0] at ht
   have:s=c:=ht
   rw [this]
  |times a m=>
   right
   have ixa:=ixs a (by have:=ok.1;omega)
   have ap:=Pos.get g (show a<rs.length by have:=ok.1;omega)
   refine⟨by simp! only [ix,fJ,ig,ts],a,ok.1,jE (ρ' :=[.dat L, .dat S, .dat (.int (a:Int)), .dat (.int ((q%(sizes rs).getD a 0:Nat):Int)), .dat (.int (a:Int))]) ?_ ⟨_,_,rfl,by have:=ok.1;omega,Nat.mod_lt _ ap,?_⟩⟩
   ·dsimp! only [ix,fJ,ig,iD,ixa,gR]
    simp
   ·have hq' :q<m*((texts rs).getD a []).length:=by
     rw [gW,bT]
     rw [sz] at hq
     exact hq
    simp only [Rule.tx] at ht
    rw [ZG _ _ _ _ hq',gW] at ht
    exact ht
  |join a b=>
   right
   have ixa:=ixs a (by have:=ok.1;omega)
   by_cases h:q<(sizes rs).getD a 0
   ·have h' :(q:Int)<(((sizes rs).getD a 0:Nat):Int):=by omega
    refine⟨by simp! only [ix,fJ,ig,js],a,ok.1,jE (ρ' :=[.dat L, .dat S, .dat (.int (a:Int)), .dat (.int (q:Int)), .dat (.int (a:Int))]) ?_ ⟨_,_,rfl,by have:=ok.1;omega,h,?_⟩⟩
    ·simp! only [ix,fJ,ig,iD,ixa,jt,h']
    ·simp only [Rule.tx] at ht
     rwa [aa7 (by rw [gW];exact h)] at ht
   ·have h' :¬(q:Int)<(((sizes rs).getD a 0:Nat):Int):=by omega
    refine⟨by simp! only [ix,fJ,ig,js],b,ok.2,jE (ρ' :=[.dat L, .dat S, .dat (.int (b:Int)), .dat (.int ((q-(sizes rs).getD a 0:Nat):Int)), .dat (.int (a:Int))]) ?_ ⟨_,_,rfl,by have:=ok.2;omega,?_,?_⟩⟩
    ·simp! only [ix,fJ,ig,iD,nH,ixa,jt,h']
     rw [show(q:Int)-(((sizes rs).getD a 0:Nat):Int)=((q-(sizes rs).getD a 0:Nat):Int) by omega]
    ·rw [sz] at hq
     simp only [Rule.size] at hq
     omega
    ·simp only [Rule.tx] at ht
     rwa [acp (by rw [gW];omega),gW] at ht
 ·rintro ρ ⟨a,d3,k4,rfl,ha⟩
  exact gU (d:= .str (s1 c)) (by simp! only [ixr a _ ha,fJ,iD]) rfl
theorem abh(rs:List Rule)(g:Good rs)(f:Fits MOST rs)(hl:rs.length≤16700000)(n:Option Nat)(hn:fX rs n)(p:Nat)(hp:p<kW rs n):oR [fu rs,fL (sizes rs),eZ n, .int (p:Int)]= .ok (.str (s1 ((gK rs n).getD p 0))):=by
 cases n with
 |none=>exact absurd hp (Nat.not_lt_zero _)
 |some k=>exact Uk rs g f hl k (hn k rfl) p hp
end Sb
namespace Sb
open PySem PySem.Spec L2 Evl DL
theorem acz(rs:List Rule)(g:Good rs)(f:Fits MOST rs)(hl:rs.length≤16700000)(n:Option Nat)(hn:fX rs n)(h60:kW rs n≤60):qJ [fu rs,fL (sizes rs),eZ n]= .ok (.str (fP (gK rs n))):=by
 obtain⟨R,hR⟩:∃R,R=fu rs:=⟨_,rfl⟩
 obtain⟨S,hS⟩:∃S,S=fL (sizes rs):=⟨_,rfl⟩
 have sa:=abh rs g f hl n hn
 rw [←hR,←hS] at sa⊢
 refine jg ?_
 show Rt (Az [.dat (R), .dat (S), .dat (eZ n), .un]) _
 unfold Az
 cases n with
 |none=>
  refine jP (sX (by simp! only [eZ]) (gU (d:= .str "") rfl ?_))
  show aN ""=aN (fP [])
  rfl
 |some k=>
  have hk:=hn k rfl
  have ix:gj S (.int (k:Int))= .ok (.int ((kW rs (some k):Nat):Int)):=by rw [hS];exact kY (by rw [j5];exact hk)
  obtain⟨z,hz⟩:∃z,z=kW rs (some k):=⟨_,rfl⟩
  rw [←hz] at ix sa h60
  have zl:(gK rs (some k)).length=z:=by rw [lU,hz]
  obtain⟨w,hw⟩:∃w,w=gK rs (some k):=⟨_,rfl⟩
  rw [←hw] at sa zl⊢
  refine fD (ρ' :=[.dat (R), .dat (S), .dat (.int (k:Int)), .un]) (by simp! only [eZ]) ?_
  have n60:¬(60:Int)<(z:Int):=by omega
  refine fD (ρ' :=[.dat (R), .dat (S), .dat (.int (k:Int)), .un]) (by simp! only [ix,n60]) ?_
  have lc:Oc (HD (eV gj (eE 1) (eE 2))) (gN 3) (eC (.bool true)) (fG oR [(eE 0),(eE 1),(eE 2),(eE 3)]) [3] [.dat (R), .dat (S), .dat (.int (k:Int)), .un]= .ok (.list ((bU z).map fun i=>aN (s1 (w.getD i 0)))):=by
   refine GZ (fun i:Nat=>aD (i:Int)) _ (by rw [←vz];exact Gi (by simp! only [ix]) (by omega) (by omega)) (fun i hi=> ?_) (by simp only [cM];exact tG (by omega))
   have hi' :i<z:=by simpa using hi
   exact⟨_,rfl,rfl,oW (x:=R) (y:=S) (z:= .int (k:Int)) (w:= .int (i:Int)) rfl rfl rfl rfl (sa i hi')⟩
  have dj:=JC "" ((bU z).map fun i=>[w.getD i 0]) 1 (fun l hl=>by
   obtain⟨i,_,rfl⟩:=cC.mp hl
   simp) (by
   have:("":Str).length=0:=by decide+kernel
   rw [this]
   simp
   omega)
  have e0:("":Str).cps.toList=[]:=by decide+kernel
  rw [e0,G9] at dj
  have e1:((bU z).map fun i=>[w.getD i 0]).flatten=w:=by
   have h1:∀l:List Nat,(l.map fun i=>[w.getD i 0]).flatten=l.map fun i=>w.getD i 0:=fun l=>by
    induction l with
    |nil=>rfl
    |cons x xs ih=>simp only [aZ,dI,ih];rfl
   rw [h1]
   apply List.ext_getElem?
   intro i
   by_cases hi:i<z
   ·rw [aH,List.getElem?_range hi,aP (by omega)]
    simp only [Option.map_some,bJ,aP (show i<w.length by omega),Option.getD_some]
   ·rw [cO (by simp;omega),cO (by omega)]
  rw [e1,bY] at dj
  exact gU (by
   simp only [Bg,eC,gY,lc]
   exact dj) rfl
structure MSt(m:Nat)(es:List St):Prop where
 s:StS m es
 wd:∀a∈mG es,zB a
 le:∀a∈mG es,(pX es a).length≤m
theorem MSt.nil{m:Nat}:MSt m []:=⟨StS.nil,fun a ha=>by simp [mG] at ha,fun a ha=>by simp [mG] at ha⟩
theorem MSt.snoc{m:Nat}(hm:m≤MOST){es:List St}(h:MSt m es){w:List Nat}(wo:zB w){d:Dd (List Nat)}(h1:∀a∈d.refs,a∈mG es)(h2:d.ok (pX es))(h4:(d.tx (pX es)).length≤m):MSt m (es++[(w,d)])∧zX w d:=by
 have ro:=afV w wo d (fun a ha=>h.wd a (h1 a ha)) (pX es) h2 fun a ha=>bf (h.le a (h1 a ha)) hm
 refine⟨⟨h.s.snoc h1 h2 ro h4,fun a ha=> ?_,fun a ha=> ?_⟩,ro⟩
 ·rw [pY,Ep] at ha
  rcases ha with ha|rfl
  ·exact h.wd a ha
  ·exact wo
 ·rw [pY,Ep] at ha
  rw [Af]
  unfold upT
  by_cases z:a=w
  ·simp only [z,if_true]
   exact h4
  ·simp only [z,if_false]
   exact h.le a (ha.resolve_right z)
theorem ac' :∀es:List St,(mG es).length≤es.length:=by
 refine snocInd (by simp [mG]) fun es e ih=> ?_
 rw [pY,au,cD]
 have:=VB (ws:=mG es) (w:=e.1)
 omega
theorem adY(T:List Nat→List Nat)(w v:List Nat)(ws:List (List Nat)):oX (uL (fun w=> .str (fP (T w))) ws) (.inr (fP w)) (.str (fP v))=uL (fun a=> .str (fP (upT T w v a))) (addW ws w):=by
 rw [Lh]
 congr 1
 funext x
 unfold upW upT
 split<;>rfl
theorem aeg(T:List Nat→List Nat)(w v:List Nat)(ws:List (List Nat)):oX (uL (fun w=> .int (((T w).length:Nat):Int)) ws) (.inr (fP w)) (.int ((v.length:Nat):Int))=uL (fun a=> .int (((upT T w v a).length:Nat):Int)) (addW ws w):=by
 rw [Lh]
 congr 1
 funext x
 unfold upW upT
 split<;>rfl
end Sb
namespace Sb
open PySem PySem.Spec L2 Evl DL
theorem agk:∀c∈Hi,(Txt.isalpha (s1 c)||Txt.isdigit (s1 c))=true:=by decide+kernel
theorem Vc(r:Rule)(i:Nat)(h:r.ok i):lg [fJ r, .int (i:Int)]= .ok (.bool true):=by
 have hp:rK (.int 2) (.int 60)= .ok (.int ((MOST:Nat):Int)):=sU (by decide) (by decide) (by decide)
 cases r with
 |sign c=>
  have z:(s1 c).length≤sizeLine:=show 1≤sizeLine by decide
  have l1:je [.str (s1 c)]= .ok (.int 1):=M8 z
  have ad:=agk c h
  simp! only [lg,pB,fJ,ig,iD,l1,eS0]
  cases ha:Txt.isalpha (s1 c)
  ·rw [ha,Bool.false_or] at ad
   simp only [ad]
  ·rfl
 |join a b=>
  simp! only [lg,pB,fJ,ig,iD,nH,Hw,iW,js,show(0:Int)≤(a:Int) by omega,show(a:Int)<(i:Int) by have:=h.1;omega,show(0:Int)≤(b:Int) by omega,show(b:Int)<(i:Int) by have:=h.2;omega]
 |times a n=>
  simp! only [lg,pB,fJ,ig,iD,nH,Hw,iW,ts,tj,hp,show(0:Int)≤(a:Int) by omega,show(a:Int)<(i:Int) by have:=h.1;omega,show(1:Int)≤(n:Int) by have:=h.2.1;omega,show(n:Int)≤((MOST:Nat):Int) by have:=h.2.2;omega]
theorem Ml(rs:List Rule)(g:Good rs)(f:Fits MOST rs)(hl:rs.length≤16700000):rE [fu rs]= .ok (fL (sizes rs)):=by
 obtain⟨L,hL⟩:∃L,L=fu rs:=⟨_,rfl⟩
 rw [←hL]
 refine jg ?_
 show Rt (vq [.dat L, .un, .un, .un]) _
 unfold vq
 refine fD (ρ' :=[.dat L, .own (fL (sizes (rs.take 0))), .un, .un]) (by simp! only [];rfl) ?_
 refine oK (N:=fun ρ=>∃k2 k3:Sl,ρ=[.dat L, .own (fL (sizes rs)),k2,k3]) ?_ ?_
 ·have h:=lZ (mi:=iT (eE 0)) (g:=gN 2) (body:=(fK (gG 3 (eC (.int 1)))
 (fK (ju (eV lB (eV gj (eE 2) (eC (.int 0))) (eC (.str "join"))) (gG 3 (eV jw (eV gj (gD 1) (eV gj (eE 2) (eC (.int 1)))) (eV gj (gD 1) (eV gj (eE 2) (eC (.int 2)))))) (ju (eV lB (eV gj (eE 2) (eC (.int 0))) (eC (.str "times"))) (gG 3 (eV jZ (eV gj (gD 1) (eV gj (eE 2) (eC (.int 1)))) (eV gj (eE 2) (eC (.int 2))))) fZ))
 (qK 1 (eE 3))))) (ρ:=[.dat L, .own (fL (sizes (rs.take 0))), .un, .un]) (ds:=rs.map fJ)
   (fun i ρ=>∃k2 k3:Sl,ρ=[.dat L, .own (fL (sizes (rs.take i))),k2,k3])
   (by simp only [iT,jO,hL,fu]) ⟨_,_,rfl⟩ (by
    rintro i d ρ hd ⟨k2,k3,rfl⟩
    rw [aH,aK] at hd
    obtain⟨r,h1,rfl⟩:=hd
    have hi:=(aq.mp h1).1
    have et:rs.take (i+1)=rs.take i++[r]:=by
     rw [bH,h1]
     rfl
    obtain⟨sz,hsz⟩:∃sz,sz=sizes (rs.take i):=⟨_,rfl⟩
    have li:sz.length=i:=by rw [hsz,j5,aY];omega
    have ok:=g i r h1
    have fm:∀n∈sz,n≤MOST:=by rw [hsz];exact f.take i
    rw [←hsz]
    refine⟨_,nu,?_⟩
    simp only [set_0,jU]
    refine iy (ρ' :=[.dat L, .own (fL sz), .dat (fJ r), .dat (.int 1)]) (by simp! only []) ?_
    refine iy (ρ' :=[.dat L, .own (fL sz), .dat (fJ r), .dat (.int ((r.size sz:Nat):Int))]) ?_ ?_
    ·cases r with
     |sign c=>simp! only [fJ,ig,Rule.size];rfl
     |join a b=>
      simp! only [fJ,ig,iD,nH,js,kY (show a<sz.length by rw [li];exact ok.1),kY (show b<sz.length by rw [li];exact ok.2),Rule.size]
      rfl
     |times a n=>
      have m:=T6 (m:=sz.getD a 0) (n:=n) 61 61 (dD (RL fm) (by decide)) (dD ok.2.2 (by decide))
      simp! only [fJ,ig,iD,nH,ts,tj,kY (show a<sz.length by rw [li];exact ok.1),m,Rule.size]
    ·refine jE (ρ' :=[.dat L, .own (fL (sizes (rs.take (i+1)))), .dat (fJ r), .dat (.int ((r.size sz:Nat):Int))]) ?_ ⟨_,_,rfl⟩
     rw [app_ok (ds:=sz.map fun(n:Nat)=>aD (n:Int)) (d:= .int ((r.size sz:Nat):Int)) rfl rfl (by rw [aA,li];exact lY (by omega)),et,rQ,←hsz]
     simp [fL])
  rw [aA,bV] at h
  exact h
 ·rintro ρ ⟨k2,k3,rfl⟩
  exact⟨_,rfl,rfl⟩
theorem afU(ns:List Nat)(m:Nat)(h0:1≤ns.length)(h:∀n∈ns,n≤m):∃z:Int,Jw [fL ns]= .ok (.int z)∧z≤(m:Int):=by
 cases ns with
 |nil=>simp at h0
 |cons n ns=>
  refine⟨Rb (n:Int) (ns.map fun(n:Nat)=>(n:Int)),by simp only [fL,aZ,Jw,toInts,Wm];rfl,?_⟩
  have:=Mz (ns.map fun(n:Nat)=>(n:Int)) (n:Int)
  rcases aJ.mp this with e|e
  ·rw [e]
   have:=h n (by simp)
   omega
  ·obtain⟨y,hy,ey⟩:=cC.mp e
   have:=h y (aM _ hy)
   omega
theorem ae0(ws:List (List Nat))(M:List Nat→Option Nat):Mu (ws.map fun a=>bZ [iU a,eZ (M a)]) (ws.map iU)=ws.map fun a=>bZ [.tuple [iU a,eZ (M a)],iU a]:=by
 unfold Mu
 induction ws with
 |nil=>rfl
 |cons a ws ih=>simp only [aZ,List.zipWith_cons_cons,ih]
theorem afm(rs:List Rule)(g:Good rs)(f:Fits MOST rs)(hl:rs.length≤16700000)(ws:List (List Nat))(hw:ws.length≤1000)(hwl:∀a∈ws,a.length≤1000)(M:List Nat→Option Nat)(hM:∀a∈ws,fX rs (M a)):
 Aq [.tuple [fu rs,namesW ws M], .list (ws.map iU)]= .ok (.bool true):=by
 obtain⟨L,hL⟩:∃L,L=fu rs:=⟨_,rfl⟩
 have lenL:je [L]= .ok (.int ((rs.length:Nat):Int)):=by rw [hL];exact sG rs
 have isL:isT "tuple" L=true:=by rw [hL];rfl
 obtain⟨N,hN⟩:∃N,N=namesW ws M:=⟨_,rfl⟩
 obtain⟨S,hS⟩:∃S,S=di (ws.map iU):=⟨_,rfl⟩
 have lenN_:je [N]= .ok (.int ((ws.length:Nat):Int)):=by rw [hN,Hl,aA]
 have lenS:je [S]= .ok (.int ((ws.length:Nat):Int)):=by rw [hS,Hl,aA]
 have isN:isT "list" N=true:=by rw [hN];rfl
 have hp:rK (.int 2) (.int 60)= .ok (.int ((MOST:Nat):Int)):=sU (by decide) (by decide) (by decide)
 have ll:=Ml rs g f hl
 rw [←hL] at ll⊢
 rw [←hN,←hS]
 refine jg ?_
 show Rt (zG [.dat (.tuple [L,N]), .dat S, .un, .un, .un]) _
 unfold zG
 refine fD (ρ' :=[.dat (.tuple [L,N]), .dat S, .un, .un, .un]) (by simp! only [ig,isL]) ?_
 refine fD (ρ' :=[.dat (.tuple [L,N]), .dat S, .un, .un, .un]) (by simp! only [iD,isN,lenN_,lenS]) ?_
 refine oK (N:=fun ρ=>∃k2:Sl,ρ=[.dat (.tuple [L,N]), .dat S,k2, .un, .un]) ?_ ?_
 ·have h:=lZ (mi:=HD (fG je [(eV gj (eE 0) (eC (.int 0)))])) (g:=gN 2) (body:=(ju (lV (fG lg [(eV gj (eV gj (eE 0) (eC (.int 0))) (eE 2)),(eE 2)])) (gH (eC (.bool false))) fZ))
   (ρ:=[.dat (.tuple [L,N]), .dat S, .un, .un, .un]) (ds:=(bU rs.length).map fun(i:Nat)=>aD (i:Int))
   (fun i ρ=>∃k2:Sl,ρ=[.dat (.tuple [L,N]), .dat S,k2, .un, .un])
   (by rw [←vz];exact Gi (by simp! only [ig,lenL]) (by omega) (by omega)) ⟨_,rfl⟩ (by
    rintro i d ρ hd ⟨k2,rfl⟩
    rw [aH,aK] at hd
    obtain⟨j,h1,rfl⟩:=hd
    have hi:=(aq.mp h1).1
    have hij:j=i:=by
     have:=(aq.mp h1).2
     simpa using this.symm
    subst hij
    have hj:j<rs.length:=by simpa using hi
    have hr:rs[j]? =some rs[j]:=by simp [hj]
    obtain⟨r,er⟩:∃r,r=rs[j]:=⟨_,rfl⟩
    rw [←er] at hr
    have ix:gj L (.int (j:Int))= .ok (fJ r):=by rw [hL];exact rN hr
    exact⟨_,nu,jE (ρ' :=[.dat (.tuple [L,N]), .dat S, .dat (.int (j:Int)), .un, .un]) (by simp! only [ig,ix,Vc r j (g j r hr)]) ⟨_,rfl⟩⟩)
  obtain⟨ρ,e,k2,rfl⟩:=h
  exact⟨_,e,k2,rfl⟩
 rintro ρ ⟨k2,rfl⟩
 refine oK (N:=fun ρ=>∃k3 k4:Sl,ρ=[.dat (.tuple [L,N]), .dat S,k2,k3,k4]) ?_ ?_
 ·have zl:=ae0 ws M
  have h:=lZ (mi:=iZ (eV gj (eE 0) (eC (.int 1))) (eE 1)) (g:=gT [(gN 3),(gN 4)]) (body:=(fK (ju (sS (lV (zA "tuple" (eE 3))) (sS (eV BX (fG je [(eE 3)]) (eC (.int 2))) (sS (lV (zA "str" (eV gj (eE 3) (eC (.int 0))))) (eV BX (eV gj (eE 3) (eC (.int 0))) (eE 4))))) (gH (eC (.bool false))) fZ)
 (ju (oE (eV pF (eV gj (eE 3) (eC (.int 1))) (eC .none)) (sS (lV (fG nO [(eV gj (eE 3) (eC (.int 1)))])) (lV (iW Oa Lj (eC (.int 0)) (eV gj (eE 3) (eC (.int 1))) (fG je [(eV gj (eE 0) (eC (.int 0)))]))))) (gH (eC (.bool false))) fZ)))
   (ρ:=[.dat (.tuple [L,N]), .dat S,k2, .un, .un]) (ds:=ws.map fun a=>bZ [.tuple [iU a,eZ (M a)],iU a])
   (fun i ρ=>∃k3 k4:Sl,ρ=[.dat (.tuple [L,N]), .dat S,k2,k3,k4])
   (by rw [←zl];exact agi (by simp! only [iD,hN]) (by simp! only [hS])) ⟨_,_,rfl⟩ (by
    rintro i d ρ hd ⟨k3,k4,rfl⟩
    rw [aH,aK] at hd
    obtain⟨a,h1,rfl⟩:=hd
    have ha:a∈ws:=aX h1
    have hn:=hM a ha
    refine⟨[.dat (.tuple [L,N]), .dat S,k2, .dat (.tuple [iU a,eZ (M a)]), .dat (iU a)],rfl,?_⟩
    refine iy (ρ' :=[.dat (.tuple [L,N]), .dat S,k2, .dat (.tuple [iU a,eZ (M a)]), .dat (iU a)]) (by
     simp! only [ig,iU]) ?_
    refine jE (ρ' :=[.dat (.tuple [L,N]), .dat S,k2, .dat (.tuple [iU a,eZ (M a)]), .dat (iU a)]) ?_ ⟨_,_,rfl⟩
    cases hm:M a with
    |none=>simp! only [eZ,iD,pF,v7]
    |some k=>simp! only [eZ,ig,iD,pF,v7,Hw,iW,lenL,show(0:Int)≤(k:Int) by omega,show(k:Int)<(rs.length:Int) by have:=hn k hm;omega])
  obtain⟨ρ,e,k3,k4,rfl⟩:=h
  exact⟨_,e,k3,k4,rfl⟩
 rintro ρ ⟨k3,k4,rfl⟩
 by_cases h0:rs.length=0
 ·have h0' :((rs.length:Nat):Int)=0:=by omega
  exact gU (d:= .bool true) (by simp! only [ig,lenL,h0']) rfl
 ·have h0' :¬((rs.length:Nat):Int)=0:=by omega
  obtain⟨z,hz,hz2⟩:=afU (sizes rs) MOST (by rw [j5];omega) f
  exact gU (d:= .bool true) (by simp! only [ig,lenL,h0',ll,hz,hp,hz2]) rfl
end Sb
namespace Sb
open PySem PySem.Spec L2 Evl DL
theorem abV(ns:List Int)(hlen:ns.length≤63)(hb:∀z∈ns,Builtin.Int.intBits z≤1048576):V4 [.list (ns.map aD)]= .ok (.bool true):=by
 obtain⟨ds,ed,dl1,dl2,hds⟩:=abJ hlen hb 2 26 (by decide) (by decide)
 obtain⟨L,hL⟩:∃L,L=di (ns.map aD):=⟨_,rfl⟩
 rw [←hL] at ed⊢
 have ed' :ug [L, .int 2, .int 26]= .ok (.list (ds.map aD)):=ed
 obtain⟨d0,d1,dt,hdt⟩:∃d0 d1 dt,ds=d0::d1::dt:=by
  match ds,dl1 with
  |d0::d1::dt,_=>exact⟨d0,d1,dt,rfl⟩
 obtain⟨DS,hDS⟩:∃DS,DS=di (ds.map aD):=⟨_,rfl⟩
 have x0:gj DS (.int 0)= .ok (.int d0):=by rw [hDS,hdt,tW (by decide) (by simp;omega)];rfl
 have x1:gj DS (.int 1)= .ok (.int d1):=by rw [hDS,hdt,tW (by decide) (by simp;omega)];rfl
 have sl:dSl DS (some 2) none= .ok (.list (dt.map aD)):=by
  rw [hDS,hdt]
  have:=Nv ((d0::d1::dt).map aD) 2
  simp only [dSl]
  rw [show(some 2:Option Int)=some ((2:Nat):Int) from rfl,this]
  rfl
 have b:∀c,c∈ds→0≤c∧c<10 ^ 40:=fun c hc=>hds c hc
 have b0:=b d0 (by rw [hdt];simp)
 have b1:=b d1 (by rw [hdt];simp)
 have bt:∀c∈dt,0≤c∧c<10 ^ 40:=fun c hc=>b c (by rw [hdt];simp [hc])
 have dtl:dt.length≤24:=by rw [hdt] at dl2;simp at dl2;omega
 rw [←hDS] at ed'
 have wk:∀k:Nat,∃w,k≤4→zB w∧tE [.int d0, .int (k:Int)]= .ok (.str (fP w)):=fun k=>by
  by_cases h:k≤4
  ·obtain⟨w,h1,h2⟩:=ab8 d0 b0.1 (by omega) k h
   exact⟨w,fun _=>⟨h1,h2⟩⟩
  ·exact⟨[],fun z=>absurd z h⟩
 obtain⟨wf,hwf⟩:∃wf:Nat→List Nat,∀k,k≤4→zB (wf k)∧tE [.int d0, .int (k:Int)]= .ok (.str (fP (wf k))):=⟨fun k=>(wk k).choose,fun k=>(wk k).choose_spec⟩
 obtain⟨lt,hlt,elt⟩:=Vr d1 b1.1 (by omega)
 obtain⟨LT,hLT⟩:∃LT,LT=aN (fP lt):=⟨_,rfl⟩
 rw [←hLT] at elt
 obtain⟨WS,hWS⟩:∃WS,WS=di ((bU 5).map fun k=>iU (wf k)):=⟨_,rfl⟩
 have ixW:∀k:Nat,k≤4→gj WS (.int (k:Int))= .ok (iU (wf k)):=fun k hk=>by
  rw [hWS,tW (by omega) (by simp;omega),cZ,bJ,aH,List.getElem?_range (by omega)]
  rfl
 refine jg ?_
 show Rt (abU [.dat (L), .un, .un, .un, .un, .un, .un, .un, .un, .un, .un, .un, .un, .un, .un]) _
 unfold abU
 refine fD (ρ' :=[.dat (L), .dat (DS), .un, .un, .un, .un, .un, .un, .un, .un, .un, .un, .un, .un, .un]) (pG (by rw [qM,kE rfl rfl rfl ed',gY,hDS];exact Xw _)) ?_
 refine fD (ρ' :=[.dat (L), .dat (DS), .dat (WS), .un, .un, .un, .un, .un, .un, .un, .un, .un, .un, .un, .un]) (pG (by
  rw [hWS]
  refine GZ (fun i:Nat=>aD (i:Int)) _ (xs:=bU 5) (by rw [←vz];exact Gi rfl (by omega) (by omega)) (fun i hi=> ?_) (by simp only [cM];exact tG (by omega))
  have hi' :i<5:=by simpa using hi
  refine⟨_,rfl,rfl,jM (x:= .int d0) (y:= .int (i:Int)) ?_ rfl (hwf i (by omega)).2⟩
  simp only [rM,List.foldl_cons,List.foldl_nil,set_0,jU]
  simp! only [x0])) ?_
 refine fD (ρ' :=[.dat (L), .dat (DS), .dat (WS), .dat (LT), .un, .un, .un, .un, .un, .un, .un, .un, .un, .un, .un]) (pG (oA (x:= .int d1) (by simp! only [x1]) elt)) ?_
 refine fD (ρ' :=[.dat (L), .dat (DS), .dat (WS), .dat (LT), .own (Rv (pX []) (mG [])), .un, .un, .un, .un, .un, .un, .un, .un, .un, .un]) rfl ?_
 refine fD (ρ' :=[.dat (L), .dat (DS), .dat (WS), .dat (LT), .own (Rv (pX []) (mG [])), .own (R5 (pX []) (mG [])), .un, .un, .un, .un, .un, .un, .un, .un, .un]) rfl ?_
 refine fD (ρ' :=[.dat (L), .dat (DS), .dat (WS), .dat (LT), .own (Rv (pX []) (mG [])), .own (R5 (pX []) (mG [])), .own (.list []), .un, .un, .un, .un, .un, .un, .un, .un]) (by simp! only []) ?_
 refine oK (N:=fun ρ=>∃(es:List St) (k7 k12 k13:Sl),ρ=[.dat (L), .dat (DS), .dat (WS), .dat (LT), .own (Rv (pX es) (mG es)), .own (R5 (pX es) (mG es)), .own (.list (es.map fun e=>aN (fP (rowOf e)))),k7, .un, .un, .un, .un,k12,k13, .un]∧MSt 60 es∧es.length≤24) ?_ ?_
 ·have loop:=lZ (mi:=iL (Cp (eE 1) (some (eC (.int 2))) none)) (g:=gN 7) (body:=(fK (gG 12 (eV gj (eE 2) (eV iz (eE 7) (eC (.int 5)))))
 (fK (gG 13 (fG vO [(eV jy (eE 7) (eC (.int 5))),(gD 5),(eE 3),(eC (.int 60))]))
 (fK (mX 4 (eE 12) (fG oZ [(eE 13),(gD 4)]))
 (fK (mX 5 (eE 12) (fG je [(eV jr (gD 4) (eE 12))]))
 (qK 6 (fG vg [(eE 12),(eE 13)])))))))
   (ρ:=[.dat (L), .dat (DS), .dat (WS), .dat (LT), .own (Rv (pX []) (mG [])), .own (R5 (pX []) (mG [])), .own (.list []), .un, .un, .un, .un, .un, .un, .un, .un]) (ds:=dt.map aD)
   (fun i ρ=>∃(es:List St) (k7 k12 k13:Sl),ρ=[.dat (L), .dat (DS), .dat (WS), .dat (LT), .own (Rv (pX es) (mG es)), .own (R5 (pX es) (mG es)), .own (.list (es.map fun e=>aN (fP (rowOf e)))),k7, .un, .un, .un, .un,k12,k13, .un]∧MSt 60 es∧es.length=i)
   (Vm (by simp! only [Cp,Y8,sl])) ⟨[],_,_,_,rfl,MSt.nil,rfl⟩ (by
    rintro i d ρ hd ⟨es,k7,k12,k13,rfl,mo,el⟩
    rw [aH,aK] at hd
    obtain⟨c,hc,rfl⟩:=hd
    have hi:=(aq.mp hc).1
    have bc:=bt c (aX hc)
    have swl:=ac' es
    obtain⟨RW,hRW⟩:∃RW,RW=es.map fun e=>aN (fP (rowOf e)):=⟨_,rfl⟩
    rw [←hRW]
    have v5:jy (.int c) (.int 5)= .ok (.int (c/5)):=lu (by omega) (by omega)
    obtain⟨k,hk⟩:∃k:Nat,(k:Int)=c%5:=⟨(c%5).toNat,by omega⟩
    have k5:k≤4:=by omega
    have m5:iz (.int c) (.int 5)= .ok (.int (k:Int)):=by rw [gR (by omega),hk]
    have wo:=(hwf k k5).1
    obtain⟨w,hw⟩:∃w,w=wf k:=⟨_,rfl⟩
    have ixw:=ixW k k5
    rw [←hw] at wo ixw
    refine⟨_,nu,?_⟩
    simp only [set_0,jU]
    refine iy (ρ' :=[.dat (L), .dat (DS), .dat (WS), .dat (LT), .own (Rv (pX es) (mG es)), .own (R5 (pX es) (mG es)), .own (.list RW), .dat (.int c), .un, .un, .un, .un, .dat (iU w),k13, .un]) (by simp! only [m5,ixw]) ?_
    obtain⟨d,dr,dok,dsz,edd⟩:=acY (c/5) (by omega) (by omega) (pX es) (mG es) (by omega) lt hlt 60 (by decide) (by decide) mo.le
    rw [←hLT] at edd
    refine iy (ρ' :=[.dat (L), .dat (DS), .dat (WS), .dat (LT), .own (Rv (pX es) (mG es)), .own (R5 (pX es) (mG es)), .own (.list RW), .dat (.int c), .un, .un, .un, .un, .dat (iU w), .dat (d.M5), .un]) (pG (oW (x:= .int (c/5)) (y:=R5 (pX es) (mG es)) (z:=LT) (by simp! only [v5]) rfl rfl rfl edd)) ?_
    obtain⟨mo',ro⟩:=mo.snoc (by decide) wo dr dok dsz
    have wr:=Wv d (pX es) (mG es) dr dok (fun a ha=>bf (mo.le a ha) (by decide)) (by omega)
    obtain⟨v,hv⟩:∃v,v=d.tx (pX es):=⟨_,rfl⟩
    rw [←hv] at wr dsz
    have ek:DL.keyOf (iU w)=some (.inr (fP w)):=rfl
    have l1:(uL (fun w=> .str (fP (pX es w))) (mG es)).length<sizeLine:=by rw [WM];exact lY (by omega)
    have l2:(uL (fun w=> .int (((pX es w).length:Nat):Int)) (mG es)).length<sizeLine:=by rw [WM];exact lY (by omega)
    have eT:Rv (pX (es++[(w,d)])) (mG (es++[(w,d)]))= .dict (uL (fun a=> .str (fP (upT (pX es) w v a))) (addW (mG es) w)):=by rw [Af,pY,hv]
    have eS:R5 (pX (es++[(w,d)])) (mG (es++[(w,d)]))= .dict (uL (fun a=> .int (((upT (pX es) w v a).length:Nat):Int)) (addW (mG es) w)):=by rw [Af,pY,hv]
    refine iy (ρ' :=[.dat (L), .dat (DS), .dat (WS), .dat (LT), .own (Rv (pX (es++[(w,d)])) (mG (es++[(w,d)]))), .own (R5 (pX es) (mG es)), .own (.list RW), .dat (.int c), .un, .un, .un, .un, .dat (iU w), .dat (d.M5), .un]) (by
     have ec:fG oZ [(eE 13),(gD 4)] [.dat (L), .dat (DS), .dat (WS), .dat (LT), .own (Rv (pX es) (mG es)), .own (R5 (pX es) (mG es)), .own (.list RW), .dat (.int c), .un, .un, .un, .un, .dat (iU w), .dat (d.M5), .un]= .ok (.str (fP v)):=jM (x:=d.M5) (y:=Rv (pX es) (mG es)) rfl rfl wr
     rw [eT]
     simp only [mX,ec,aQ,aG,Kf,if_true,jV,aC,cH,cP,kJ,jO,ek,l1,adY,set_0,jU]) ?_
    have gt:jr (Rv (pX (es++[(w,d)])) (mG (es++[(w,d)]))) (iU w)= .ok (.str (fP v)):=by
     have h1:w∈mG (es++[(w,d)]):=by rw [pY,Ep];exact .inr rfl
     have h2:=Dh (fun a=>aN (fP (pX (es++[(w,d)]) a))) h1
     have h3:pX (es++[(w,d)]) w=v:=by
      rw [Af,hv]
      unfold upT
      rw [if_pos rfl]
     rw [h3] at h2
     exact h2
    have bl:je [.str (fP v)]= .ok (.int ((v.length:Nat):Int)):=G4 (by omega)
    refine iy (ρ' :=[.dat (L), .dat (DS), .dat (WS), .dat (LT), .own (Rv (pX (es++[(w,d)])) (mG (es++[(w,d)]))), .own (R5 (pX (es++[(w,d)])) (mG (es++[(w,d)]))), .own (.list RW), .dat (.int c), .un, .un, .un, .un, .dat (iU w), .dat (d.M5), .un]) (by
     have ec:fG je [(eV jr (gD 4) (eE 12))] [.dat (L), .dat (DS), .dat (WS), .dat (LT), .own (Rv (pX (es++[(w,d)])) (mG (es++[(w,d)]))), .own (R5 (pX es) (mG es)), .own (.list RW), .dat (.int c), .un, .un, .un, .un, .dat (iU w), .dat (d.M5), .un]= .ok (.int ((v.length:Nat):Int)):=oA (x:= .str (fP v)) (by simp! only [gt]) bl
     rw [eS]
     simp only [mX,ec,aQ,aG,Kf,if_true,jV,aC,cH,cP,kJ,jO,ek,l2,aeg,set_0,jU]) ?_
    refine jE (ρ' :=[.dat (L), .dat (DS), .dat (WS), .dat (LT), .own (Rv (pX (es++[(w,d)])) (mG (es++[(w,d)]))), .own (R5 (pX (es++[(w,d)])) (mG (es++[(w,d)]))), .own (.list ((es++[(w,d)]).map fun e=>aN (fP (rowOf e)))), .dat (.int c), .un, .un, .un, .un, .dat (iU w), .dat (d.M5), .un]) ?_ ⟨es++[(w,d)],_,_,_,rfl,mo',by simp [el]⟩
    have rl:RW.length<sizeLine:=by
     rw [hRW,aA]
     exact lY (by omega)
    rw [app_ok (ds:=RW) (d:= .str (fP (TL.joinL [32] (d.row w)))) rfl (jM (x:=iU w) (y:=d.M5) rfl rfl (adQ ro)) rl]
    rw [cV,aZ,dR,hRW]
    rfl)
  rw [aA] at loop
  obtain⟨ρ,e,es,k7,k12,k13,rfl,mo,el⟩:=loop
  exact⟨_,e,es,k7,k12,k13,rfl,mo,by omega⟩
 rintro ρ ⟨es,k7,k12,k13,rfl,mo,el⟩
 have swl:=ac' es
 obtain⟨rs,Nm,er,g,f,rl,tx⟩:=Vv (m:=60) (by decide) es mo.s (by omega) (by omega)
 obtain⟨sw,hsw⟩:∃sw,sw=Ot (mG es):=⟨_,rfl⟩
 have pm:=Bq (mG es)
 have so:=Tj (fun w=> .str (fP (pX es w))) (mG es) (by omega)
 rw [←hsw] at er pm so
 have swl' :sw.length≤24:=by rw [pm.length_eq];omega
 have mem:∀a,a∈sw→a∈mG es:=fun a ha=>pm.mem_iff.mp ha
 have rw2:∀r∈es.map rowOf,r.length≤250:=fun r hr=>by
  obtain⟨e,he,rfl⟩:=cC.mp hr
  obtain⟨i,hi⟩:=List.mem_iff_getElem?.mp he
  exact(row_free (mo.s.rw_ i e hi)).2.1
 have dj:=JC "; " (es.map rowOf) 250 rw2 (by
  have:("; ":Str).length=2:=by decide+kernel
  rw [this,aA]
  omega)
 have e0:("; ":Str).cps.toList=[59,32]:=by decide+kernel
 rw [e0,bY] at dj
 obtain⟨RW,hRW⟩:∃RW,RW=es.map fun e=>aN (fP (rowOf e)):=⟨_,rfl⟩
 have dj' :wO "; " (.list RW)= .ok (.str (fP (xP es))):=by rw [hRW];exact dj
 obtain⟨M,hM⟩:∃M,M=Rv (pX es) (mG es):=⟨_,rfl⟩
 obtain⟨Z,hZ⟩:∃Z,Z=R5 (pX es) (mG es):=⟨_,rfl⟩
 obtain⟨FD,hFD⟩:∃FD,FD=bZ [fu rs,namesW sw Nm]:=⟨_,rfl⟩
 have gM:∀a∈mG es,jr M (iU a)= .ok (.str (fP (pX es a))):=fun a ha=>by rw [hM];exact Dh _ ha
 rw [←hFD] at er
 rw [←hRW,←hM,←hZ]
 have so' :nU M= .ok (.list (sw.map iU)):=by rw [hM];exact so
 refine fD (ρ' :=[.dat (L), .dat (DS), .dat (WS), .dat (LT), .own (M), .own (Z), .own (.list RW),k7, .dat (FD), .un, .un, .un,k12,k13, .un]) (pG (oA (x:= .str (fP (xP es))) (by simp! only [Bg,dj']) er)) ?_
 have td:=afm rs g f (by omega) sw (by omega) (fun a ha=>by have:=(mo.wd a (mem a ha)).2.1;omega) Nm (fun a ha=>(tx a (mem a ha)).nm)
 rw [←hFD] at td
 have es2:ni (Dq nU (gD 4)) [.dat (L), .dat (DS), .dat (WS), .dat (LT), .own (M), .own (Z), .own (.list RW),k7, .dat (FD), .un, .un, .un,k12,k13, .un]= .ok (.list (sw.map iU)):=by
  rw [qM,Cy]
  show((nU M).bind _)=_
  rw [so']
  rfl
 refine fD (ρ' :=[.dat (L), .dat (DS), .dat (WS), .dat (LT), .own (M), .own (Z), .own (.list RW),k7, .dat (FD), .un, .un, .un,k12,k13, .un]) (by
  rw [vC]
  ·rfl
  ·rw [lV,jM (x:=FD) rfl es2 td]
   rfl) ?_
 have f0:gj FD (.int 0)= .ok (fu rs):=by rw [hFD];exact ig _ _
 have f1:gj FD (.int 1)= .ok (namesW sw Nm):=by rw [hFD];exact iD _ _ _
 refine fD (ρ' :=[.dat (L), .dat (DS), .dat (WS), .dat (LT), .own (M), .own (Z), .own (.list RW),k7, .dat (FD), .dat (fL (sizes rs)), .un, .un,k12,k13, .un]) (pG (by
  rw [qM,oA (x:=fu rs) (by simp! only [f0]) (Ml rs g f (by omega)),gY]
  exact Xw _)) ?_
 obtain⟨SZ,hSZ⟩:∃SZ,SZ=fL (sizes rs):=⟨_,rfl⟩
 have lx:=fun(n:Option Nat) (hn:fX rs n) (h60:kW rs n≤60)=>acz rs g f (by omega) n hn h60
 rw [←hSZ] at lx⊢
 refine oK (N:=fun ρ=>True) ?_ (fun ρ _=> ?_)
 ·have fin:=lZ (mi:=iL (eV gj (eE 8) (eC (.int 1)))) (g:=gT [(gN 10),(gN 11)]) (body:=(ju (sS (eV BX (fG qJ [(eV gj (eE 8) (eC (.int 0))),(eE 9),(eE 11)]) (eV jr (gD 4) (eE 10))) (eV BX (eV v7 (eE 11) (eC .none)) (eV lB (eV jr (gD 4) (eE 10)) (eC (.str ""))))) (gH (eC (.bool false))) fZ))
   (ρ:=[.dat (L), .dat (DS), .dat (WS), .dat (LT), .own (M), .own (Z), .own (.list RW),k7, .dat (FD), .dat (SZ), .un, .un,k12,k13, .un]) (ds:=sw.map fun a=>bZ [iU a,eZ (Nm a)])
   (fun i ρ=>∃k10 k11:Sl,ρ=[.dat (L), .dat (DS), .dat (WS), .dat (LT), .own (M), .own (Z), .own (.list RW),k7, .dat (FD), .dat (SZ),k10,k11,k12,k13, .un])
   (Vm (by simp! only [f1])) ⟨_,_,rfl⟩ (by
    rintro i d ρ hd ⟨k10,k11,rfl⟩
    rw [aH,aK] at hd
    obtain⟨a,ha,rfl⟩:=hd
    have am:a∈mG es:=mem a (aX ha)
    have tr:=tx a am
    have ga:=gM a am
    have w60:=mo.le a am
    obtain⟨w,hw⟩:∃w,w=pX es a:=⟨_,rfl⟩
    rw [←hw] at tr ga w60
    have ln:=tr.len
    obtain⟨N,hN⟩:∃N,N=Nm a:=⟨_,rfl⟩
    rw [←hN] at tr ln⊢
    have lt:=lx N tr.nm (by omega)
    rw [tr.t] at lt
    have nn:(N=none)↔w.length=0:=by
     rw [←ln]
     constructor
     ·rintro rfl
      rfl
     ·intro h
      by_cases z:N=none
      ·exact z
      ·have:=(acu g tr.nm).mpr z
       omega
    refine⟨_,Yk,?_⟩
    simp only [set_0,jU]
    refine jE (ρ' :=[.dat (L), .dat (DS), .dat (WS), .dat (LT), .own (M), .own (Z), .own (.list RW),k7, .dat (FD), .dat (SZ), .dat (iU a), .dat (eZ N),k12,k13, .un]) ?_ ⟨_,_,rfl⟩
    rw [vC]
    ·rfl
    ·have q1:eV jr (gD 4) (eE 10) [.dat (L), .dat (DS), .dat (WS), .dat (LT), .own (M), .own (Z), .own (.list RW),k7, .dat (FD), .dat (SZ), .dat (iU a), .dat (eZ N),k12,k13, .un]= .ok (.str (fP w)):=by simp! only [ga]
     have q2:fG qJ [(eV gj (eE 8) (eC (.int 0))),(eE 9),(eE 11)] [.dat (L), .dat (DS), .dat (WS), .dat (LT), .own (M), .own (Z), .own (.list RW),k7, .dat (FD), .dat (SZ), .dat (iU a), .dat (eZ N),k12,k13, .un]= .ok (.str (fP w)):=kE (x:=fu rs) (y:=SZ) (z:=eZ N) (by simp! only [f0]) rfl rfl lt
     have q3:eV BX (fG qJ [(eV gj (eE 8) (eC (.int 0))),(eE 9),(eE 11)]) (eV jr (gD 4) (eE 10)) [.dat (L), .dat (DS), .dat (WS), .dat (LT), .own (M), .own (Z), .own (.list RW),k7, .dat (FD), .dat (SZ), .dat (iU a), .dat (eZ N),k12,k13, .un]= .ok (.bool false):=by
      rw [lM,q2,q1,gY,gY,Yn]
      simp
     rw [sS,q3,gY]
     show eV BX _ _ _=_
     have q4:eV lB (eV jr (gD 4) (eE 10)) (eC (.str "")) [.dat (L), .dat (DS), .dat (WS), .dat (LT), .own (M), .own (Z), .own (.list RW),k7, .dat (FD), .dat (SZ), .dat (iU a), .dat (eZ N),k12,k13, .un]= .ok (.bool (decide (w.length=0))):=by
      rw [lM,q1,gY]
      show lB (.str (fP w)) (.str (fP []))=_
      show ER.ok (.bool (decide (fP w=fP [])))=_
      congr 2
      by_cases z:w=[]
      ·rw [z]
       rfl
      ·have h1:¬fP w=fP []:=fun q=>z (Lp q)
       have h2:¬w.length=0:=fun q=>z (cR.mp q)
       rw [decide_eq_false h1,decide_eq_false h2]
     have q5:eV v7 (eE 11) (eC .none) [.dat (L), .dat (DS), .dat (WS), .dat (LT), .own (M), .own (Z), .own (.list RW),k7, .dat (FD), .dat (SZ), .dat (iU a), .dat (eZ N),k12,k13, .un]= .ok (.bool (decide (w.length=0))):=by
      show v7 (eZ N) .none=_
      cases hN2:N with
      |none=>
       rw [decide_eq_true (nn.mp hN2)]
       rfl
      |some q=>
       rw [decide_eq_false (fun z=>by rw [nn.mpr z] at hN2;cases hN2)]
       rfl
     rw [lM,q5,gY,q4,gY,Tf (Yb _ _)]
     simp)
  obtain⟨ρ,e,_⟩:=fin
  exact⟨ρ,e,trivial⟩
 ·obtain⟨rs0,Nm0,er0,_⟩:=Vv (m:=60) (by decide) [] StS.nil (by simp) (by simp [mG])
  have s0:Ot (mG [])=[]:=by
   have h:=(Bq (mG [])).length_eq
   exact cR.mp (by rw [h];simp [mG])
  rw [s0] at er0
  have er0' :Cv [.str ""]= .ok (.tuple [fu rs0, .list []]):=er0
  refine gU ?_ rfl
  have c1:fG Cv [(eC (.str ""))] ρ= .ok (.tuple [fu rs0, .list []]):=oA rfl er0'
  rw [lM,lM,c1]
  rfl
end Sb
set_option maxRecDepth 100000 in
theorem PySem.Challenge.cw_shortbook_k62_whole_telling_written_out_holds : PySem.Challenge.rw_shortbook_k62_whole_telling_written_out.Holds :=
 Sb.holds_of Sb.abV
