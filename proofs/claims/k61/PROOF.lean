import PyProof.Rows.All
import Wide.All
import OpenK.AllK
import Wide.FinOn
import HandS.ForMost
import HandS.Exc
import HandS.TryOnly
import HandS.ExcOwn
import HandS.WordsExc
import HandS.Evl
import HandS.HeadHook2
import HandS.Defaults
import HandS.Wide
import HandS.TupAny
import HandS.Style
import HandS.IsInst
import HandS.SortInts
import HandS.WideBits
import HandS.EndBits
import HandS.Head0
import HandS.Head1
import HandS.Head2
import HandS.HeadEnd
import KE.GoesEnum
import HandS.TryMany
import HandS.ExcIs
import HandS.Dict
import HandS.More
import HandS.Conv
import HandS.Iter
import HandS.NoneIn
import HandS.CallSlots
import HandS.HotCalls
import KE.KDictCopyH
import HandS.Text
import HandS.RaiseMore
import HandS.Flt
import KE.KeyNested
import KE.KDictKeyed
import HandS.DictTup
import HandS.SetKeys
import HandS.SetFor
import HandS.Strs
import HandS.Deep
import PySem.Challenge.RW_shortbook_k61_one_statement
open PySem.W renaming Frag→ao
open List renaming getElem?_eq_some_iff→au,length_append→aA,length_map→aC,replicate→aD,getElem?_map→aF,getElem?_cons_zero→aG,append_assoc→aK,mem_singleton→aM,mem_cons_of_mem→aN,mem_cons→aO,getElem?_append_left→aP,getElem?_cons_succ→aQ,append_nil→aR,mem_append→aU,length_take→aW,mem_of_getElem?→aX,mem_cons_self→aY,length_cons→aZ,map_cons→bf,getD→bA,not_mem_nil→bB,take_add_one→bF,getElem?_append_right→bG,getElem?_eq_getElem→bH,length_reverse→bK,take_length→bO,map_congr_left→bQ,nodup_cons→bR,reverse_append→bT,take_of_length_le→bU,mem_map→bV,mem_append_left→bW,take_append_drop→bZ,range→cC,map_map→cD,length_nil→cG,nodup_nil→cH,nodup_append→cI,getElem?_set_ne→cJ,getElem?_set_self→cO,mem_append_right→cP,map_append→cR,length_singleton→cU,cons_append→cX,take_append_of_le_length→cY,length_range→cZ,nil_append→dh,pairwise_iff_getElem→dD,pairwise_cons→dG,getElem_mem→dH,length_eq_zero_iff→dJ,length_drop→dM,map_nil→dN,of_mem_zip→dO,find?_cons→dR,any_cons→dX
open PySem.PyData renaming int→aH,str→aV,tuple→bM,list→di,canLay0→dB,eqv→dF
open Option renaming map_eq_some_iff→aJ
open Nat renaming le_refl→bD,le_trans→bJ,mul_comm→bY,zero_le→cQ,lt_or_ge→dW
open Int renaming emod_lt_of_pos→bL,emod_nonneg→cA,toNat_natCast→cV
open Bool renaming and_eq_true→cW,and_eq_true_iff→dI
open String renaming reduceBEq→dU
set_option Elab.async false
set_option linter.all false
set_option maxRecDepth 100000
set_option maxHeartbeats 0
namespace DL
open PySem L2 Evl
abbrev D:=PyData
inductive NK where
 |lst|ins (c:Str) (fs:List Str)
inductive Sl where
 |un|dat (d:D)|own (d:D)|bor (d:D)|nst (k:NK) (cs:List Sl)|vP (k:NK) (cs:List Sl)|QH (ks:List Key) (ls:List (List D))
abbrev Env:=List Sl
inductive ER where
 |ok (d:D)|ex (c:Str)|bad
inductive Out where
 |nx (ρ:Env)|rt (d:D)|rx (d:D) (ρ:Env)|bk (ρ:Env)|ct (ρ:Env)|ex (c:Str) (ρ:Env)|bad
def ER.bind(r:ER)(f:D→ER):ER:=match r with
 | .ok d=>f d
 | .ex c=> .ex c
 | .bad=> .bad
abbrev EM:=Env→ER
abbrev SM:=Env→Out
def keyD:Key→D
 | .inl i=> .int i
 | .inr x=> .str x
mutual
inductive Dr(K:ao)(H:Hp):V→D→Prop
 |non:Dr K H .non .none
 |bl (b:Bool):Dr K H (.bl b) (.bool b)
 |int (i:Int):Dr K H (.int i) (.int i)
 |str (x:Str):Dr K H (.str x) (.str x)
 |lst {a:Addr} {xs:List V} {ds:List D}:SqL K H a xs→iY K H xs ds→Dr K H (.ref a) (.list ds)
 |tup {a:Addr} {xs:List V} {ds:List D}:H a=some (.tup xs)→iY K H xs ds→Dr K H (.ref a) (.tuple ds)
 |dict0 {a:Addr}:Rd H a (.dK [])→Dr K H (.ref a) (.dict [])
 |Br {a:Addr} {o:Obj} {kvs:List (Key×V)} {ds:List (D×D)}:H a=some (.frz o (.dK kvs))→Qv K H kvs ds→Dr K H (.ref a) (.dict ds)
 |Gq {a:Addr} {o:Obj} {kvs:List (List Key×V)} {ds:List (D×D)}:H a=some (.frz o (.dT kvs))→T9 K H kvs ds→Dr K H (.ref a) (.dict ((.none, .none)::ds))
inductive iY(K:ao)(H:Hp):List V→List D→Prop
 |nil:iY K H [] []
 |cons {v:V} {vs:List V} {d:D} {ds:List D}:Dr K H v d→iY K H vs ds→iY K H (v::vs) (d::ds)
inductive Qv(K:ao)(H:Hp):List (Key×V)→List (D×D)→Prop
 |nil:Qv K H [] []
 |cons {k:Key} {v:V} {kvs:List (Key×V)} {d:D} {ds:List (D×D)}:Dr K H v d→Qv K H kvs ds→Qv K H ((k,v)::kvs) ((keyD k,d)::ds)
inductive T9(K:ao)(H:Hp):List (List Key×V)→List (D×D)→Prop
 |nil:T9 K H [] []
 |cons {k:List Key} {v:V} {kvs:List (List Key×V)} {d:D} {ds:List (D×D)}:Dr K H v d→T9 K H kvs ds→T9 K H ((k,v)::kvs) ((.tuple (k.map keyD),d)::ds)
end
mutual
theorem Dr.dp{K:ao}{H:Hp}:∀{d:D} {v:V},d.canLay0=true→Dr K H v d→Dp K H v d
 |_,_,_, .non=> .non
 |_,_,_, .bl b=> .bl b
 |_,_,_, .int i=> .int i
 |_,_,_, .str x=> .str x
 |_,_,h, .lst s a=> .lst s (iY.dp (by simpa [dB] using h) a)
 |_,_,h, .tup s a=> .tup (.inl (.inl s)) (iY.dp (by simpa [dB] using h) a)
 |_,_,h, .dict0 _=>by simp [dB] at h
 |_,_,h, .Br _ _=>by simp [dB] at h
 |_,_,h, .Gq _ _=>by simp [dB] at h
theorem iY.dp{K:ao}{H:Hp}:∀{ds:List D} {vs:List V},PyData.canLayAll0 ds=true→iY K H vs ds→DpAll K H vs ds
 |_,_,_, .nil=> .nil
 |d::ds,_,h, .cons a b=>by
  have h' :d.canLay0=true∧PyData.canLayAll0 ds=true:=by simpa [PyData.canLayAll0] using h
  exact .cons (Dr.dp h'.1 a) (iY.dp h'.2 b)
end
inductive Ob(K:ao)(Hb:Hp):HO→D→Prop
 |lst {xs:List V} {ds:List D}:iY K Hb xs ds→Ob K Hb (.lst xs) (.list ds)
 |dK {kvs:List (Key×V)} {ds:List (D×D)}:Paired (fun(p:Key×V) (q:D×D)=>q.1=keyD p.1∧Dr K Hb p.2 q.2) kvs ds→Ob K Hb (.dK kvs) (.dict ds)
 |dT {kvs:List (List Key×V)} {ds:List (D×D)}:Paired (fun(p:List Key×V) (q:D×D)=>q.1= .tuple (p.1.map keyD)∧Dr K Hb p.2 q.2) kvs ds→Ob K Hb (.dT kvs) (.dict ((.none, .none)::ds))
def Ow(K:ao)(Hb H:Hp)(p:Addr)(d:D):Prop:=∃o,H p=some o∧Ob K Hb o d
def RdN(H:Hp)(p:Addr)(o:HO):Prop:=H p=some o∨(∃od,H p=some (.frz od o))∧∃kvs,o= .dK kvs
theorem RdN.rd{H:Hp}{p:Addr}{o:HO}(h:RdN H p o):Rd H p o:=by
 rcases h with h|⟨h,_⟩
 ·exact .inl h
 ·exact .inr h
theorem RdN.ex{H H' :Hp}{p:Addr}{o:HO}(e:Ex H H')(h:RdN H p o):RdN H' p o:=by
 rcases h with h|⟨⟨od,h⟩,z⟩
 ·exact .inl (e _ _ h)
 ·exact .inr ⟨⟨od,e _ _ h⟩,z⟩
def Tt(K:ao)(Hb H:Hp)(p:Addr)(d:D):Prop:=∃o,RdN H p o∧Ob K Hb o d
theorem Ow.b{K:ao}{Hb H:Hp}{p:Addr}{d:D}(h:Ow K Hb H p d):Tt K Hb H p d:=let ⟨o,a,b⟩:=h;⟨o, .inl a,b⟩
def Bo(K:ao)(Hb H:Hp)(v:V)(d:D):Prop:=Dr K Hb v d∨∃p,v= .ref p∧Tt K Hb H p d
mutual
theorem lG{K:ao}{H H' :Hp}(e:Ex H H'):∀{d:D} {v:V},Dr K H v d→Dr K H' v d
 |_,_, .non=> .non
 |_,_, .bl b=> .bl b
 |_,_, .int i=> .int i
 |_,_, .str x=> .str x
 |_,_, .lst s a=> .lst (ex_l e s) (lM e a)
 |_,_, .tup s a=> .tup (e _ _ s) (lM e a)
 |_,_, .dict0 s=> .dict0 (ex_rd e s)
 |_,_, .Br s a=> .Br (e _ _ s) (T5 e a)
 |_,_, .Gq s a=> .Gq (e _ _ s) (aa0 e a)
theorem lM{K:ao}{H H' :Hp}(e:Ex H H'):∀{ds:List D} {vs:List V},iY K H vs ds→iY K H' vs ds
 |_,_, .nil=> .nil
 |_,_, .cons a b=> .cons (lG e a) (lM e b)
theorem T5{K:ao}{H H' :Hp}(e:Ex H H'):∀{ds:List (D×D)} {kvs:List (Key×V)},Qv K H kvs ds→Qv K H' kvs ds
 |_,_, .nil=> .nil
 |_,_, .cons a b=> .cons (lG e a) (T5 e b)
theorem aa0{K:ao}{H H' :Hp}(e:Ex H H'):∀{ds:List (D×D)} {kvs:List (List Key×V)},T9 K H kvs ds→T9 K H' kvs ds
 |_,_, .nil=> .nil
 |_,_, .cons a b=> .cons (lG e a) (aa0 e b)
end
theorem Paired.imp{α β:Type}{F G:α→β→Prop}(f:∀a b,F a b→G a b):∀{l:List α} {m:List β},Paired F l m→Paired G l m
 |_,_, .nil=> .nil
 |_,_, .cons a b=> .cons (f _ _ a) (Paired.imp f b)
section
variable{K:ao}{H H' Hb Hb' Hf:Hp}{v:V}{d:D}{p:Addr}{o:HO}
theorem Ob.ex(e:Ex Hb Hb')(h:Ob K Hb o d):Ob K Hb' o d:=by
 cases h with
 |lst a=>exact .lst (lM e a)
 |dK a=>exact .dK (Paired.imp (fun _ _ q=>⟨q.1,lG e q.2⟩) a)
 |dT a=>exact .dT (Paired.imp (fun _ _ q=>⟨q.1,lG e q.2⟩) a)
theorem Ow.ex(eb:Ex Hb Hb')(e:Ex H H')(h:Ow K Hb H p d):Ow K Hb' H' p d:=by
 obtain⟨o,h1,h2⟩:=h
 exact⟨o,e _ _ h1,h2.ex eb⟩
theorem Tt.ex(eb:Ex Hb Hb')(e:Ex H H')(h:Tt K Hb H p d):Tt K Hb' H' p d:=by
 obtain⟨o,h1,h2⟩:=h
 exact⟨o,h1.ex e,h2.ex eb⟩
theorem Bo.ex(eb:Ex Hb Hb')(e:Ex H H')(h:Bo K Hb H v d):Bo K Hb' H' v d:=by
 rcases h with h|⟨p,h1,h2⟩
 ·exact .inl (lG eb h)
 ·exact .inr ⟨p,h1,h2.ex eb e⟩
theorem gW:∀{ds:List D} {vs:List V},iY K H vs ds→vs.length=ds.length
 |_,_, .nil=>rfl
 |_,_, .cons _ b=>by
  have:=gW b
  simp [this]
theorem sY:∀{ds:List D} {vs:List V} {i:Nat} {v:V},iY K H vs ds→vs[i]? =some v→∃d,ds[i]? =some d∧Dr K H v d
 |_,_,_,_, .nil,e=>by simp at e
 |_,_,0,_, .cons a _,e=>by
  simp at e
  subst e
  exact⟨_,rfl,a⟩
 |_,_,i+1,_, .cons _ b,e=>by
  obtain⟨d,h1,h2⟩:=sY (i:=i) b (by simpa using e)
  exact⟨d,by simpa using h1,h2⟩
theorem Es:∀{ds:List D} {vs:List V} {i:Nat} {d:D},iY K H vs ds→ds[i]? =some d→∃v,vs[i]? =some v∧Dr K H v d
 |_,_,_,_, .nil,e=>by simp at e
 |_,_,0,_, .cons a _,e=>by
  simp at e
  subst e
  exact⟨_,rfl,a⟩
 |_,_,i+1,_, .cons _ b,e=>by
  obtain⟨d,h1,h2⟩:=Es (i:=i) b (by simpa using e)
  exact⟨d,by simpa using h1,h2⟩
theorem qT:∀{ds es:List D} {vs us:List V},iY K H vs ds→iY K H us es→iY K H (vs++us) (ds++es)
 |_,_,_,_, .nil,s=>s
 |_,_,_,_, .cons a b,s=> .cons a (qT b s)
theorem LR:∀{ds:List D} {vs:List V} (n:Nat),iY K H vs ds→iY K H (vs.take n) (ds.take n)
 |_,_,0,_=> .nil
 |_,_,_+1, .nil=> .nil
 |_,_,n+1, .cons a b=> .cons a (LR n b)
theorem Qn:∀{ds:List D} {vs:List V} (n:Nat),iY K H vs ds→iY K H (vs.drop n) (ds.drop n)
 |_,_,0,h=>h
 |_,_,_+1, .nil=> .nil
 |_,_,n+1, .cons _ b=>Qn n b
def NT:Option HO→Prop
 |none=>False
 |some (.tup _)=>False
 |some _=>True
theorem Ob.nt{K:ao}{Hb:Hp}{o:HO}{d:D}(h:Ob K Hb o d):NT (some o):=by cases h<;>exact True.intro
theorem Ow.nt{K:ao}{Hb H:Hp}{p:Addr}{d:D}(h:Ow K Hb H p d):NT (H p):=by
 obtain⟨o,q,h⟩:=h
 rw [q]
 exact h.nt
structure Gw(Hb H Hb' H' :Hp):Prop where
 h:Ex H H'
 b:Ex Hb Hb'
 bh:Ex Hb' H'
 nw:∀a,Hb a=none→NT (H a)→Hb' a=none
theorem Gw.refl(e:Ex Hb H):Gw Hb H Hb H:=⟨Ex.refl _,Ex.refl _,e,fun _ h _=>h⟩
theorem J5{H H' :Hp}(e:Ex H H'){a:Addr}(h:NT (H a)):NT (H' a):=by
 cases q:H a with
 |none=>
  rw [q] at h
  exact h.elim
 |some o=>
  rw [e a o q]
  rw [q] at h
  exact h
theorem Gw.trans{Hb H Hb1 H1 Hb2 H2:Hp}(g:Gw Hb H Hb1 H1)(k:Gw Hb1 H1 Hb2 H2):Gw Hb H Hb2 H2:=
 ⟨g.h.trans k.h,g.b.trans k.b,k.bh,fun a h1 h2=>k.nw a (g.nw a h1 h2) (J5 g.h h2)⟩
theorem Gw.fix(e:Ex Hb H)(h:H p=none):Gw Hb H (upd Hb p o) (upd H p o) where
 h:=Ex.new h
 b:=Ex.new (fresh_back e h)
 bh:=fun a u q=>by
  by_cases z:a=p
  ·subst z
   rw [upd_same] at q⊢
   exact q
  ·rw [upd_ne z] at q⊢
   exact e a u q
 nw:=fun a h1 h2=>by
  have z:a≠p:=fun z=>by
   subst z
   rw [h] at h2
   exact h2
  rw [upd_ne z]
  exact h1
theorem Gw.new(e:Ex Hb H)(h:H p=none):Gw Hb H Hb (upd H p o):=
 ⟨Ex.new h,Ex.refl _,e.trans (Ex.new h),fun _ h1 _=>h1⟩
end
inductive vU(K:ao)(Hb H:Hp):List V→List Sl→List Addr→Prop
 |nil:vU K Hb H [] [] []
 |dat {v:V} {d:D} {vs:List V} {cs:List Sl} {fp:List Addr}:Dr K Hb v d→vU K Hb H vs cs fp→vU K Hb H (v::vs) (.dat d::cs) fp
 |own {p:Addr} {d:D} {vs:List V} {cs:List Sl} {fp:List Addr}:Ow K Hb H p d→vU K Hb H vs cs fp→vU K Hb H (.ref p::vs) (.own d::cs) (p::fp)
 |un {v:V} {vs:List V} {cs:List Sl} {fp:List Addr}:vU K Hb H vs cs fp→vU K Hb H (v::vs) (.un::cs) fp
def U6(K:ao)(H:Hp)(p:Addr)(vs:List V):NK→List Addr→Prop
 | .lst,hp=>H p=some (.lst vs)∧hp=[p]
 | .ins c fs,hp=>∃dx,H p=some (.ins (He.ga K c) dx (fs.zip vs))∧H dx=some (.own p)∧vs.length=fs.length∧hp=[p,dx]
inductive RN(K:ao)(Hb H:Hp):List V→List Sl→Prop
 |nil:RN K Hb H [] []
 |dat {v:V} {d:D} {vs:List V} {cs:List Sl}:Dr K Hb v d→RN K Hb H vs cs→RN K Hb H (v::vs) (.dat d::cs)
 |bor {p:Addr} {d:D} {vs:List V} {cs:List Sl}:Tt K Hb H p d→RN K Hb H vs cs→RN K Hb H (.ref p::vs) (.bor d::cs)
 |un {v:V} {vs:List V} {cs:List Sl}:RN K Hb H vs cs→RN K Hb H (v::vs) (.un::cs)
def NsR(K:ao)(Hb H:Hp)(v:V)(k:NK)(cs:List Sl)(fp:List Addr):Prop:=∃p vs hp fq,v= .ref p∧U6 K H p vs k hp∧vU K Hb H vs cs fq∧fp=hp++fq
inductive IK(K:ao)(Hb H:Hp):List Addr→List (List D)→Prop
 |nil:IK K Hb H [] []
 |cons {q:Addr} {xs:List V} {ds:List D} {qs:List Addr} {ls:List (List D)}:H q=some (.lst xs)→iY K Hb xs ds→IK K Hb H qs ls→IK K Hb H (q::qs) (ds::ls)
def SlO(K:ao)(Hf Hb H:Hp)(x:Option (Option V)):Sl→List Addr→Prop
 | .un,fp=>fp=[]
 | .dat d,fp=>fp=[]∧∃v,x=some (some v)∧Dr K Hb v d
 | .bor d,fp=>fp=[]∧∃v,x=some (some v)∧(Dr K Hb v d∨∃p,v= .ref p∧Tt K Hb Hf p d)
 | .own d,fp=>∃p,fp=[p]∧x=some (some (.ref p))∧Ow K Hb H p d
 | .nst k cs,fp=>∃v,x=some (some v)∧NsR K Hb H v k cs fp
 | .vP k cs,fp=>fp=[]∧∃p vs hp,x=some (some (.ref p))∧U6 K Hf p vs k hp∧RN K Hb Hf vs cs
 | .QH ks ls,fp=>∃p qs,fp=p::qs∧x=some (some (.ref p))∧H p=some (.dK (ks.zip (qs.map V.ref)))∧qs.length=ks.length∧IK K Hb H qs ls
section
variable{K:ao}{H H' Hb Hb' Hf:Hp}
theorem vU.frame{vs:List V}{cs:List Sl}{fp:List Addr}(h:vU K Hb H vs cs fp)(eb:Ex Hb Hb')(e:∀p∈fp,∀o,H p=some o→H' p=some o):vU K Hb' H' vs cs fp:=by
 induction h with
 |nil=>exact .nil
 |dat a _ ih=>exact .dat (lG eb a) (ih e)
 |own a _ ih=>
  obtain⟨o,a1,a2⟩:=a
  exact .own ⟨o,e _ aY o a1,a2.ex eb⟩ (ih fun p hp=>e p (aN _ hp))
 |un _ ih=>exact .un (ih e)
theorem U6.frame{p:Addr}{vs:List V}{k:NK}{hp:List Addr}(h:U6 K H p vs k hp)(e:∀p∈hp,∀o,H p=some o→H' p=some o):U6 K H' p vs k hp:=by
 cases k with
 |lst=>
  obtain⟨h1,h2⟩:=h
  subst h2
  exact⟨e _ (by simp) _ h1,rfl⟩
 |ins c fs=>
  obtain⟨dx,h1,h2,h3,h4⟩:=h
  subst h4
  exact⟨dx,e _ (by simp) _ h1,e _ (by simp) _ h2,h3,rfl⟩
theorem NsR.frame{v:V}{k:NK}{cs:List Sl}{fp:List Addr}(h:NsR K Hb H v k cs fp)(eb:Ex Hb Hb')(e:∀p∈fp,∀o,H p=some o→H' p=some o):NsR K Hb' H' v k cs fp:=by
 obtain⟨p,vs,hp,fq,h1,h2,h3,rfl⟩:=h
 exact⟨p,vs,hp,fq,h1,h2.frame fun a ha=>e a (bW _ ha),h3.frame eb fun a ha=>e a (cP _ ha),rfl⟩
theorem RN.ex{vs:List V}{cs:List Sl}(h:RN K Hb H vs cs)(eb:Ex Hb Hb')(e:Ex H H'):RN K Hb' H' vs cs:=by
 induction h with
 |nil=>exact .nil
 |dat a _ ih=>exact .dat (lG eb a) ih
 |bor a _ ih=>exact .bor (a.ex eb e) ih
 |un _ ih=>exact .un ih
theorem IK.frame{qs:List Addr}{ls:List (List D)}(h:IK K Hb H qs ls)(eb:Ex Hb Hb')(e:∀p∈qs,∀o,H p=some o→H' p=some o):IK K Hb' H' qs ls:=by
 induction h with
 |nil=>exact .nil
 |cons a b _ ih=>exact .cons (e _ aY _ a) (lM eb b) (ih fun p hp=>e p (aN _ hp))
theorem IK.nt{qs:List Addr}{ls:List (List D)}(h:IK K Hb H qs ls):∀p∈qs,NT (H p):=by
 induction h with
 |nil=>intro p hp;cases hp
 |cons a b _ ih=>
  intro p hp
  rcases aO.mp hp with rfl|hp
  ·rw [a]
   exact True.intro
  ·exact ih p hp
theorem SlO.frame{x:Option (Option V)}{s:Sl}{fp:List Addr}(h:SlO K Hf Hb H x s fp)(eb:Ex Hb Hb')(e:∀p∈fp,∀o,H p=some o→H' p=some o):SlO K Hf Hb' H' x s fp:=by
 cases s with
 |un=>exact h
 |dat d=>
  obtain⟨h0,v,h1,h2⟩:=h
  exact⟨h0,v,h1,lG eb h2⟩
 |bor d=>
  obtain⟨h0,v,h1,h2⟩:=h
  refine⟨h0,v,h1,?_⟩
  rcases h2 with h2|⟨p,h3,h4⟩
  ·exact .inl (lG eb h2)
  ·exact .inr ⟨p,h3,h4.ex eb (Ex.refl _)⟩
 |own d=>
  obtain⟨p,rfl,h1,o,h2,h3⟩:=h
  exact⟨p,rfl,h1,o,e p (by simp) o h2,h3.ex eb⟩
 |nst k cs=>
  obtain⟨v,h1,h2⟩:=h
  exact⟨v,h1,h2.frame eb e⟩
 |vP k cs=>
  obtain⟨h0,p,vs,hp,h1,h2,h3⟩:=h
  exact⟨h0,p,vs,hp,h1,h2,h3.ex eb (Ex.refl _)⟩
 |QH ks ls=>
  obtain⟨p,qs,rfl,h1,h2,h3,h4⟩:=h
  exact⟨p,qs,rfl,h1,e p (by simp) _ h2,h3,h4.frame eb fun a ha=>e a (aN _ ha)⟩
theorem vU.nt{vs:List V}{cs:List Sl}{fp:List Addr}(h:vU K Hb H vs cs fp):∀p∈fp,NT (H p):=by
 induction h with
 |nil=>intro p hp;cases hp
 |dat _ _ ih=>exact ih
 |own a _ ih=>
  intro p hp
  rcases aO.mp hp with rfl|hp
  ·exact a.nt
  ·exact ih p hp
 |un _ ih=>exact ih
theorem NsR.nt{v:V}{k:NK}{cs:List Sl}{fp:List Addr}(h:NsR K Hb H v k cs fp):∀p∈fp,NT (H p):=by
 obtain⟨p,vs,hp,fq,h1,h2,h3,rfl⟩:=h
 intro a ha
 rcases aU.mp ha with ha|ha
 ·cases k with
  |lst=>
   obtain⟨z1,rfl⟩:=h2
   rw [aM.mp ha,z1]
   exact True.intro
  |ins c fs=>
   obtain⟨dx,z1,z2,_,rfl⟩:=h2
   rcases aO.mp ha with rfl|ha
   ·rw [z1]
    exact True.intro
   ·rw [aM.mp ha,z2]
    exact True.intro
 ·exact h3.nt a ha
theorem SlO.nt{x:Option (Option V)}{s:Sl}{fp:List Addr}(h:SlO K Hf Hb H x s fp):∀p∈fp,NT (H p):=by
 cases s with
 |un=>cases h;intro p hp;cases hp
 |dat d=>obtain⟨rfl,_⟩:=h;intro p hp;cases hp
 |bor d=>obtain⟨rfl,_⟩:=h;intro p hp;cases hp
 |own d=>
  obtain⟨p,rfl,h1,h2⟩:=h
  intro a ha
  rw [aM.mp ha]
  exact h2.nt
 |nst k cs=>
  obtain⟨v,h1,h2⟩:=h
  exact h2.nt
 |vP k cs=>obtain⟨rfl,_⟩:=h;intro p hp;cases hp
 |QH ks ls=>
  obtain⟨p,qs,rfl,h1,h2,h3,h4⟩:=h
  intro a ha
  rcases aO.mp ha with rfl|ha
  ·rw [h2]
   exact True.intro
  ·exact h4.nt a ha
theorem wW{H:Hp}{p:Addr}(h:NT (H p)):∃o,H p=some o:=by
 cases q:H p with
 |none=>rw [q] at h;exact h.elim
 |some o=>exact⟨o,rfl⟩
end
abbrev Pn:=List (Nat×Addr)
structure Jj(K:ao)(pn:Pn)(Hf Hb H:Hp)(σ:L2.St)(ρ:Env)(F:Nat→List Addr):Prop where
 ef:Ex Hf H
 eb:Ex Hb H
 len:σ.length=ρ.length
 sl:∀(i:Nat) s,ρ[i]? =some s→SlO K Hf Hb H σ[i]? s (F i)
 nd:∀i:Nat,(F i).Nodup
 fr:∀(i:Nat) p,p∈F i→Hf p=none∧Hb p=none∧NT (H p)
 dj:∀(i j:Nat) p,i≠j→p∈F i→p∉F j
 pin:∀(i:Nat) a,(i,a)∈pn→σ[i]? =some (some (.ref a))
def gj(K:ao)(pn:Pn)(Hf Hb H:Hp)(σ:L2.St)(ρ:Env):Prop:=∃F,Jj K pn Hf Hb H σ ρ F
abbrev xM(pn:Pn)(i:Nat):Prop:=∀a,(i,a)∉pn
section
variable{pn:Pn}{K:ao}{H H' Hb Hb' Hf H0 Hb0:Hp}{v:V}{d:D}{p:Addr}{o:HO}{σ:L2.St}{ρ:Env}{i:Nat}
theorem gj.ef(R:gj K pn Hf Hb H σ ρ):Ex Hf H:=let ⟨_,r⟩:=R;r.ef
theorem gj.eb(R:gj K pn Hf Hb H σ ρ):Ex Hb H:=let ⟨_,r⟩:=R;r.eb
theorem gj.len(R:gj K pn Hf Hb H σ ρ):σ.length=ρ.length:=let ⟨_,r⟩:=R;r.len
theorem gj.pin(R:gj K pn Hf Hb H σ ρ):∀(i:Nat) a,(i,a)∈pn→σ[i]? =some (some (.ref a)):=let ⟨_,r⟩:=R;r.pin
theorem gj.unpin(R:gj K pn Hf Hb H σ ρ):gj K [] Hf Hb H σ ρ:=by
 obtain⟨F,r⟩:=R
 exact⟨F,r.ef,r.eb,r.len,r.sl,r.nd,r.fr,r.dj,fun _ _ z=>nomatch z⟩
theorem gj.dat(R:gj K pn Hf Hb H σ ρ)(i:Nat)(d:D)(h:ρ[i]? =some (.dat d)):∃v,σ[i]? =some (some v)∧Dr K Hb v d:=by
 obtain⟨F,r⟩:=R
 exact(r.sl i _ h).2
theorem gj.own(R:gj K pn Hf Hb H σ ρ)(i:Nat)(d:D)(h:ρ[i]? =some (.own d)):∃p,σ[i]? =some (some (.ref p))∧Ow K Hb H p d∧Hf p=none∧Hb p=none:=by
 obtain⟨F,r⟩:=R
 obtain⟨p,h1,h2,h3⟩:=r.sl i _ h
 have h4:=r.fr i p (by rw [h1];simp)
 exact⟨p,h2,h3,h4.1,h4.2.1⟩
theorem gj.bor(R:gj K pn Hf Hb H σ ρ)(i:Nat)(d:D)(h:ρ[i]? =some (.bor d)):∃v,σ[i]? =some (some v)∧(Dr K Hb v d∨∃p,v= .ref p∧Tt K Hb H p d∧Tt K Hb Hf p d):=by
 obtain⟨F,r⟩:=R
 obtain⟨_,v,h1,h2⟩:=r.sl i _ h
 refine⟨v,h1,?_⟩
 rcases h2 with h2|⟨p,h3,h4⟩
 ·exact .inl h2
 ·exact .inr ⟨p,h3,h4.ex (Ex.refl _) r.ef,h4⟩
theorem Oc{ρ:Env}{i j:Nat}{s t:Sl}(h:(ρ.set i s)[j]? =some t):(j=i∧t=s)∨(j≠i∧ρ[j]? =some t):=by
 by_cases e:i=j
 ·subst e
  rw [List.getElem?_set] at h
  simp at h
  exact .inl ⟨rfl,h.2.symm⟩
 ·rw [cJ e] at h
  exact .inr ⟨fun z=>e z.symm,h⟩
theorem U4{σ:L2.St}{i j:Nat}{x:Option V}(h:j≠i):(σ.set i x)[j]? =σ[j]? :=cJ (fun z=>h z.symm)
theorem Lp{σ:L2.St}{i:Nat}{x:Option V}(h:i<σ.length):(σ.set i x)[i]? =some x:=cO h
theorem abV{ρ:Env}{i:Nat}{s t:Sl}(h:(ρ.set i s)[i]? =some t):i<ρ.length:=by
 have:=(au.mp h).1
 simpa using this
theorem Jj.step{F:Nat→List Addr}{s:Sl}{fp:List Addr}{σ' :L2.St}(R:Jj K pn Hf Hb H σ ρ F)(ef:Ex Hf H')(eb:Ex Hb' H')(b:Ex Hb Hb')(hl:σ'.length=σ.length)(hσ:∀j,j≠i→σ'[j]? =σ[j]?)
 (keep:∀p,p∉F i→Hf p=none→Hb p=none→NT (H p)→H' p=H p∧Hb' p=none) (hs:i<ρ.length→SlO K Hf Hb' H' σ'[i]? s fp) (nd:fp.Nodup) (fr:∀p∈fp,Hf p=none∧Hb' p=none∧NT (H' p)) (dj:∀j p,j≠i→p∈fp→p∉F j) (pin:∀a,(i,a)∈pn→σ'[i]? =some (some (.ref a))):
 Jj K pn Hf Hb' H' σ' (ρ.set i s) (fun j=>if j=i then fp else F j):=by
 have kp:∀j p,j≠i→p∈F j→H' p=H p∧Hb' p=none:=fun j p ne hp=>by
  obtain⟨f1,f2,f3⟩:=R.fr j p hp
  exact keep p (R.dj j i p ne hp) f1 f2 f3
 refine⟨ef,eb,by rw [hl,R.len];simp,fun j t q=> ?_,fun j=> ?_,fun j p hp=> ?_,fun j k p ne hp=> ?_,fun j a q=> ?_⟩
 ·rcases Oc q with⟨rfl,z⟩|⟨z,q'⟩
  ·subst z
   simp only [if_true]
   exact hs (abV q)
  ·simp only [if_neg z]
   rw [hσ j z]
   exact(R.sl j t q').frame b fun p hp o ho=>by rw [(kp j p z hp).1];exact ho
 ·by_cases z:j=i
  ·simp only [z,if_true]
   exact nd
  ·simp only [if_neg z]
   exact R.nd j
 ·by_cases z:j=i
  ·simp only [z,if_true] at hp
   exact fr p hp
  ·simp only [if_neg z] at hp
   obtain⟨f1,f2,f3⟩:=R.fr j p hp
   obtain⟨k1,k2⟩:=kp j p z hp
   exact⟨f1,k2,by rw [k1];exact f3⟩
 ·by_cases z:j=i
  ·simp only [z,if_true] at hp
   by_cases z2:k=i
   ·exact absurd (z.trans z2.symm) ne
   ·simp only [if_neg z2]
    exact dj k p z2 hp
  ·simp only [if_neg z] at hp
   by_cases z2:k=i
   ·simp only [z2,if_true]
    exact fun w=>dj j p z w hp
   ·simp only [if_neg z2]
    exact R.dj j k p ne hp
 ·by_cases z:j=i
  ·subst z
   exact pin a q
  ·rw [hσ j z]
   exact R.pin j a q
theorem gj.gw(R:gj K pn Hf Hb H σ ρ)(g:Gw Hb H Hb' H'):gj K pn Hf Hb' H' σ ρ:=by
 obtain⟨F,r⟩:=R
 have kp:∀j p,p∈F j→H' p=H p∧Hb' p=none:=fun j p hp=>by
  obtain⟨f1,f2,f3⟩:=r.fr j p hp
  obtain⟨o,ho⟩:=wW f3
  exact⟨by rw [ho];exact g.h p o ho,g.nw p f2 f3⟩
 exact⟨F,r.ef.trans g.h,g.bh,r.len,fun i s q=>(r.sl i s q).frame g.b fun p hp o ho=>g.h p o ho,r.nd,fun i p hp=>⟨(r.fr i p hp).1,(kp i p hp).2,by rw [(kp i p hp).1];exact(r.fr i p hp).2.2⟩,r.dj,r.pin⟩
theorem gj.ahT{x:Option V}{s:Sl}(R:gj K pn Hf Hb H σ ρ)(ho:xM pn i)(h:s= .un∨∃v d,x=some v∧s= .dat d∧Dr K Hb v d):gj K pn Hf Hb H (σ.set i x) (ρ.set i s):=by
 obtain⟨F,r⟩:=R
 refine⟨_,r.step (fp:=[]) r.ef r.eb (Ex.refl _) (by simp) (fun j z=>U4 z) (fun p _ _ h2 _=>⟨rfl,h2⟩) (fun hi=> ?_) cH (fun p hp=>by cases hp) (fun j p _ hp=>by cases hp) (fun a q=>absurd q (ho a))⟩
 rcases h with rfl|⟨v,d,rfl,rfl,h3⟩
 ·rfl
 ·exact⟨rfl,v,Lp (by rw [r.len];exact hi),h3⟩
theorem gj.Ji(R:gj K pn Hf Hb H σ ρ)(ho:xM pn i)(h:Dr K Hb v d):gj K pn Hf Hb H (σ.set i (some v)) (ρ.set i (.dat d)):=R.ahT ho (.inr ⟨v,d,rfl,rfl,h⟩)
theorem gj.aiC{x:Option V}(R:gj K pn Hf Hb H σ ρ)(ho:xM pn i):gj K pn Hf Hb H (σ.set i x) (ρ.set i .un):=R.ahT ho (.inl rfl)
theorem gj.drop(R:gj K pn Hf Hb H σ ρ)(i:Nat):gj K pn Hf Hb H σ (ρ.set i .un):=by
 obtain⟨F,r⟩:=R
 exact⟨_,r.step (fp:=[]) r.ef r.eb (Ex.refl _) rfl (fun j z=>rfl) (fun p _ _ h2 _=>⟨rfl,h2⟩) (fun hi=>rfl) cH (fun p hp=>by cases hp) (fun j p _ hp=>by cases hp) (fun a q=>r.pin i a q)⟩
theorem gj.agX(R:gj K pn Hf Hb0 H0 σ ρ)(ho:xM pn i)(g:Gw Hb0 H0 Hb H)(h0:H0 p=none)(hb:Hb p=none)(h:Ow K Hb H p d):gj K pn Hf Hb H (σ.set i (some (.ref p))) (ρ.set i (.own d)):=by
 obtain⟨F,r⟩:=R
 refine⟨_,r.step (fp:=[p]) (r.ef.trans g.h) g.bh g.b (by simp) (fun j z=>U4 z) (fun a _ _ h2 h3=> ?_) (fun hi=>⟨p,rfl,Lp (by rw [r.len];exact hi),h⟩) (by simp) (fun a ha=> ?_) (fun j a _ ha hj=> ?_) (fun a q=>absurd q (ho a))⟩
 ·obtain⟨o,e⟩:=wW h3
  exact⟨by rw [e];exact g.h a o e,g.nw a h2 h3⟩
 ·rw [aM.mp ha]
  exact⟨fresh_back r.ef h0,hb,h.nt⟩
 ·rw [aM.mp ha] at hj
  have z:=(r.fr j p hj).2.2
  rw [h0] at z
  exact z
theorem gj.write(R:gj K pn Hf Hb H σ ρ)(hi:ρ[i]? =some (.own d))(hv:σ[i]? =some (some (.ref p))){o' :HO}{d' :D}(h:Ob K Hb o' d'):gj K pn Hf Hb (upd H p o') σ (ρ.set i (.own d')):=by
 obtain⟨F,r⟩:=R
 obtain⟨q,h1,h2,h3⟩:=r.sl i _ hi
 rw [hv] at h2
 cases h2
 obtain⟨f1,f2,f3⟩:=r.fr i p (by rw [h1];simp)
 refine⟨_,r.step (fp:=[p]) (fun a o e=>by rw [upd_ne (ne_of_none e f1)];exact r.ef a o e) (fun a o e=>by rw [upd_ne (ne_of_none e f2)];exact r.eb a o e) (Ex.refl _) rfl (fun j z=>rfl) (fun a ha _ h2 _=>⟨upd_ne (fun z=>ha (by rw [h1,z];simp)),h2⟩) (fun _=>⟨p,rfl,hv,_,upd_same,h⟩) (by simp) (fun a ha=> ?_) (fun j a z ha hj=> ?_) (fun a q=>r.pin i a q)⟩
 ·rw [aM.mp ha,upd_same]
  exact⟨f1,f2,h.nt⟩
 ·exact r.dj j i a z hj (by rw [h1];exact ha)
end
end DL
namespace DL
open PySem L2 Evl
inductive Kd where
 |dat|new|bor|io (p:Addr)|tl
def Kd.arg:Kd→Bool
 | .io _=>false
 | .tl=>false
 |_=>true
def Rs(K:ao)(kd:Kd)(H0 Hb H:Hp)(v:V)(d:D):Prop:=match kd with
 | .dat=>Dr K Hb v d
 | .new=>∃p,v= .ref p∧H0 p=none∧Hb p=none∧Ow K Hb H p d
 | .bor=>Bo K Hb H v d
 | .io p=>∃d0 c,d= .tuple [d0,c]∧Dr K Hb v d0∧H0 p=none∧Hb p=none∧Ow K Hb H p c
 | .tl=>∃(p q:Addr) (rv:V) (xs:List V) (r:D) (ps:List D),d= .tuple [r, .list ps]∧v= .ref p∧(H0 p=none∧H0 q=none)∧(Hb p=none∧Hb q=none)∧H p=some (.tup [rv, .ref q])∧H q=some (.lst xs)∧Dr K Hb rv r∧iY K Hb xs ps
structure WQ where
 w:WX
 pin:Pn
def BV(K:ao)(W:WQ)(kd:Kd)(m:EM):TE:=fun σ H Q=>∃(Hf Hb:Hp) (ρ:Env),gj K W.pin Hf Hb H σ ρ∧
 (∀d,m ρ= .ok d→∀v Hb' H',Gw Hb H Hb' H' →Rs K kd H Hb' H' v d→Q v H')∧
 (∀c,m ρ= .ex c→∀Hb' H',Gw Hb H Hb' H' →W.w (.ref (He.ga K c)) none σ H')∧m ρ≠ .bad
abbrev DE(X:Cx)(W:WQ)(kd:Kd)(e:Expr)(m:EM):Prop:=PE X e (BV X.K W kd m)
theorem PE.imp{X:Cx}{e:Expr}{t t' :TE}(h:PE X e t)(i:∀σ H Q,t' σ H Q→t σ H Q):PE X e t' :=⟨fun pins s σ H Q I q=>h.run pins s σ H Q I (i σ H Q q)⟩
theorem PT.imp{X:Cx}{e:Expr}{t t' :TT}(h:PT X e t)(i:∀σ H Q,t' σ H Q→t σ H Q):PT X e t' :=⟨fun pins s σ H Q I q=>h.run pins s σ H Q I (i σ H Q q)⟩
theorem PW.imp{X:Cx}{e:Expr}{t t' :TT}(h:PW X e t)(i:∀σ H Q,t' σ H Q→t σ H Q):PW X e t' :=⟨fun whole pins s σ H Q I q=>h.run whole pins s σ H Q I (i σ H Q q)⟩
theorem PS.imp{X:Cx}{e:Stmt}{t t' :TS}(h:PS X e t)(i:∀D σ H,t' D σ H→t D σ H):PS X e t' :=⟨fun pins s σ H D I q=>h.run pins s σ H D I (i D σ H q)⟩
theorem PSs.imp{X:Cx}{e:List Stmt}{t t' :TS}(h:PSs X e t)(i:∀D σ H,t' D σ H→t D σ H):PSs X e t' :=⟨fun pins s σ H D I q=>h.run pins s σ H D I (i D σ H q)⟩
section
variable{K:ao}{W:WQ}{kd:Kd}{m ma mb:EM}{σ:L2.St}{H H' Hb Hb' Hf:Hp}{Q:VK}{v:V}{d:D}{ρ:Env}
theorem Rs.aaH(h:Rs K .new H Hb H' v d):Rs K .bor H Hb H' v d:=by
 obtain⟨p,h1,_,_,h4⟩:=h
 exact .inr ⟨p,h1,h4.b⟩
theorem Bo.int(h:Bo K Hb H v (.int i)):v= .int i:=by
 rcases h with h|⟨p,_,o,_,h⟩
 ·cases h
  rfl
 ·cases h
theorem Bo.str(h:Bo K Hb H v (.str i)):v= .str i:=by
 rcases h with h|⟨p,_,o,_,h⟩
 ·cases h
  rfl
 ·cases h
theorem Bo.bl(h:Bo K Hb H v (.bool i)):v= .bl i:=by
 rcases h with h|⟨p,_,o,_,h⟩
 ·cases h
  rfl
 ·cases h
theorem Bo.non(h:Bo K Hb H v .none):v= .non:=by
 rcases h with h|⟨p,_,o,_,h⟩
 ·cases h
  rfl
 ·cases h
theorem Bo.lst{ds:List D}(e:Ex Hb H)(h:Bo K Hb H v (.list ds)):∃p xs,v= .ref p∧SqL K H p xs∧iY K Hb xs ds:=by
 rcases h with h|⟨p,h1,o,h2,h3⟩
 ·cases h with
  |lst a b=>exact⟨_,_,rfl,ex_l e a,b⟩
 ·cases h3 with
  |lst a=>exact⟨p,_,h1, .inl h2.rd,a⟩
theorem Bo.tup{ds:List D}(e:Ex Hb H)(h:Bo K Hb H v (.tuple ds)):∃p xs,v= .ref p∧SqT K H p xs∧iY K Hb xs ds:=by
 rcases h with h|⟨p,h1,o,h2,h3⟩
 ·cases h with
  |tup a b=>exact⟨_,_,rfl, .inl (.inl (e _ _ a)),b⟩
 ·cases h3
theorem Bo.dp(e:Ex Hb H)(h:Bo K Hb H v d)(hd:d.canLay0=true):Dp K H v d:=by
 rcases h with h|⟨p,h1,o,h2,h3⟩
 ·exact(lG e h).dp hd
 ·cases h3 with
  |lst a=>
   subst h1
   exact .lst (.inl h2.rd) ((lM e a).dp (by simpa [dB] using hd))
  |dK a=>simp [dB] at hd
  |dT a=>simp [dB] at hd
theorem Gw.tup{p:Addr}{xs:List V}{ds:List D}(e:Ex Hb H)(h:H p=none)(a:iY K Hb xs ds):Gw Hb H (upd Hb p (.tup xs)) (upd H p (.tup xs))∧Dr K (upd Hb p (.tup xs)) (.ref p) (.tuple ds):=
 ⟨Gw.fix e h, .tup upd_same (lM (Ex.new (fresh_back e h)) a)⟩
theorem Gw.lst{p:Addr}{xs:List V}{ds:List D}(e:Ex Hb H)(h:H p=none)(a:iY K Hb xs ds):Gw Hb H (upd Hb p (.lst xs)) (upd H p (.lst xs))∧Dr K (upd Hb p (.lst xs)) (.ref p) (.list ds):=
 ⟨Gw.fix e h, .lst (.inl (.inl upd_same)) (lM (Ex.new (fresh_back e h)) a)⟩
theorem Gw.abX{p:Addr}{xs:List V}{ds:List D}(e:Ex Hb H)(h:H p=none)(a:iY K Hb xs ds):Gw Hb H Hb (upd H p (.lst xs))∧Rs K .new H Hb (upd H p (.lst xs)) (.ref p) (.list ds):=
 ⟨Gw.new e h,p,rfl,h,fresh_back e h,_,upd_same, .lst a⟩
theorem Gw.frz{p:Addr}{o:HO}(g:Gw Hb H Hb' H')(h0:H p=none)(hb:Hb' p=none)(ho:H' p=some o):Gw Hb H (upd Hb' p o) H' where
 h:=g.h
 b:=g.b.trans (Ex.new hb)
 bh:=fun a u q=>by
  by_cases z:a=p
  ·subst z
   rw [upd_same] at q
   rw [←q]
   exact ho
  ·rw [upd_ne z] at q
   exact g.bh a u q
 nw:=fun a h1 h2=>by
  have z:a≠p:=fun z=>by
   subst z
   rw [h0] at h2
   exact h2
  rw [upd_ne z]
  exact g.nw a h1 h2
theorem Rs.frz{ds:List D}(g:Gw Hb H Hb' H')(h:Rs K .new H Hb' H' v (.list ds)):∃Hb2,Gw Hb H Hb2 H' ∧Dr K Hb2 v (.list ds):=by
 obtain⟨p,rfl,h0,hb,o,ho,hc⟩:=h
 cases hc with
 |lst a=>exact⟨_,g.frz h0 hb ho, .lst (.inl (.inl upd_same)) (lM (Ex.new hb) a)⟩
end
section
variable{X:Cx}{W:WQ}{kd:Kd}{e:Expr}{m:EM}
theorem dY(h:DE X W .dat e m):DE X W .bor e m:=PE.imp h fun σ H Q ⟨Hf,Hb,ρ,R,h1,h2,h3⟩=>⟨Hf,Hb,ρ,R,fun d hd v Hb' H' g r=>h1 d hd v Hb' H' g (.inl r),h2,h3⟩
theorem pJ(h:DE X W .new e m):DE X W .bor e m:=PE.imp h fun σ H Q ⟨Hf,Hb,ρ,R,h1,h2,h3⟩=>⟨Hf,Hb,ρ,R,fun d hd v Hb' H' g r=>h1 d hd v Hb' H' g r.aaH,h2,h3⟩
def nA(m:EM):EM:=fun ρ=>(m ρ).bind fun d=>match d with
 | .list ds=> .ok (.list ds)
 |_=> .bad
theorem nQ(h:DE X W .new e m):DE X W .dat e (nA m):=PE.imp h fun σ H Q ⟨Hf,Hb,ρ,R,h1,h2,h3⟩=>by
 refine⟨Hf,Hb,ρ,R,fun d hd v Hb' H' g r=> ?_,fun c hc=>h2 c (by simp [nA,hc,ER.bind]),fun z=>h3 (by simp [nA,z,ER.bind])⟩
 cases d with
 |list ds=>
  obtain⟨Hb2,g2,r2⟩:=Rs.frz g r
  exact h1 _ (by simp [nA,hd,ER.bind]) v Hb2 H' g2 r2
 |_=>exact absurd (by simp [nA,hd,ER.bind]) h3
def gR(i:Nat):EM:=fun ρ=>match ρ[i]? with
 |some (.dat d)=> .ok d
 |some (.own d)=> .ok d
 |some (.bor d)=> .ok d
 |_=> .bad
def dZ(i:Nat):EM:=fun ρ=>match ρ[i]? with
 |some (.dat d)=> .ok d
 |_=> .bad
def eC(d:D):EM:=fun _=> .ok d
theorem jN(i:Nat){x:Str}{pos:Pos}(hN:X.N[i]? =some x:=by rfl)(hv:Vis X.env.scope x:=by first|exact Or.inl rfl|exact Or.inr (Or.inl rfl)|exact Or.inr (Or.inr rfl))(hd:(x==("__debug__":Str))=false:=by decide)
 (hcd:(x==("__classdict__":Str))=false:=by decide):DE X W .bor (.Name x pos) (gR i):=PE.imp (pe_var hN hv hd hcd) fun σ H Q ⟨Hf,Hb,ρ,R,h1,h2,h3⟩=>by
 cases e:ρ[i]? with
 |none=>exact absurd (by simp [gR,e]) h3
 |some s=>
  cases s with
  |un=>exact absurd (by simp [gR,e]) h3
  |nst k cs=>exact absurd (by simp [gR,e]) h3
  |vP k cs=>exact absurd (by simp [gR,e]) h3
  |QH k cs=>exact absurd (by simp [gR,e]) h3
  |dat d=>
   obtain⟨v,a,b⟩:=R.dat i d e
   exact⟨v,a,h1 d (by simp [gR,e]) v Hb H (Gw.refl R.eb) (.inl b)⟩
  |bor d=>
   obtain⟨v,a,b⟩:=R.bor i d e
   refine⟨v,a,h1 d (by simp [gR,e]) v Hb H (Gw.refl R.eb) ?_⟩
   rcases b with b|⟨p,b1,b2,_⟩
   ·exact .inl b
   ·exact .inr ⟨p,b1,b2⟩
  |own d=>
   obtain⟨p,a,b,_⟩:=R.own i d e
   exact⟨_,a,h1 d (by simp [gR,e]) _ Hb H (Gw.refl R.eb) (.inr ⟨p,rfl,b.b⟩)⟩
theorem eE(i:Nat){x:Str}{pos:Pos}(hN:X.N[i]? =some x:=by rfl)(hv:Vis X.env.scope x:=by first|exact Or.inl rfl|exact Or.inr (Or.inl rfl)|exact Or.inr (Or.inr rfl))(hd:(x==("__debug__":Str))=false:=by decide)
 (hcd:(x==("__classdict__":Str))=false:=by decide):DE X W .dat (.Name x pos) (dZ i):=PE.imp (pe_var hN hv hd hcd) fun σ H Q ⟨Hf,Hb,ρ,R,h1,h2,h3⟩=>by
 cases e:ρ[i]? with
 |none=>exact absurd (by simp [dZ,e]) h3
 |some s=>
  cases s with
  |un=>exact absurd (by simp [dZ,e]) h3
  |nst k cs=>exact absurd (by simp [dZ,e]) h3
  |vP k cs=>exact absurd (by simp [dZ,e]) h3
  |QH k cs=>exact absurd (by simp [dZ,e]) h3
  |dat d=>
   obtain⟨v,a,b⟩:=R.dat i d e
   exact⟨v,a,h1 d (by simp [dZ,e]) v Hb H (Gw.refl R.eb) b⟩
  |bor d=>exact absurd (by simp [dZ,e]) h3
  |own d=>exact absurd (by simp [dZ,e]) h3
theorem xJ{v:V}{d:D}(h:PE X e (tC v))(hr:∀K H,Dr K H v d):DE X W .dat e (eC d):=PE.imp h fun σ H Q ⟨Hf,Hb,ρ,R,h1,h2,h3⟩=>h1 d rfl v Hb H (Gw.refl R.eb) (hr _ _)
theorem eU{i j pos}:DE X W .dat (.Constant (.int i) j pos) (eC (.int i)):=xJ pe_int fun _ _=> .int i
theorem tR{i j pos}:DE X W .dat (.Constant (.bool i) j pos) (eC (.bool i)):=xJ pe_bl fun _ _=> .bl i
theorem fP{i j pos}:DE X W .dat (.Constant (.str i) j pos) (eC (.str i)):=xJ pe_str fun _ _=> .str i
theorem jX{j pos}:DE X W .dat (.Constant .none j pos) (eC .none):=xJ pe_non fun _ _=> .non
theorem yM{x:Str}{i:Int}{pos:Pos}(hm:∃t,X.mg x=some (.int i t))(hg:Gl X x:=by rfl)(hd:(x==("__debug__":Str))=false:=by decide):DE X W .dat (.Name x pos) (eC (.int i)):=by
 obtain⟨t,hm⟩:=hm
 exact xJ (v:= .int i) (pe_glob hg hm ⟨t,rfl⟩ hd) fun _ _=> .int i
theorem Tp{x z:Str}{pos:Pos}(hm:∃t,X.mg x=some (.str z t))(hg:Gl X x:=by rfl)(hd:(x==("__debug__":Str))=false:=by decide):DE X W .dat (.Name x pos) (eC (.str z)):=by
 obtain⟨t,hm⟩:=hm
 exact xJ (v:= .str z) (pe_glob hg hm ⟨t,rfl⟩ hd) fun _ _=> .str z
end
def rOf(K:ao)(kd:Kd)(g:D→D→ER):R2:=fun x y H Q=>∃Hb dx dy d,Ex Hb H∧Bo K Hb H x dx∧Bo K Hb H y dy∧g dx dy= .ok d∧∀v Hb' H',Gw Hb H Hb' H' →Rs K kd H Hb' H' v d→Q v H'
abbrev Fp(X:Cx)(f:Value→Value→Sem Value)(kd:Kd)(g:D→D→ER):Prop:=OpR X f (rOf X.K kd g)
def eG(g:D→D→ER)(ma mb:EM):EM:=fun ρ=>(ma ρ).bind fun x=>(mb ρ).bind fun y=>g x y
def lg(g:D→D→ER):Prop:=∀x y c,g x y≠ .ex c
section
variable{K:ao}{W:WQ}{kd:Kd}{ma mb:EM}{g:D→D→ER}
theorem Rs.back{H0 H1 Hb H:Hp}{v:V}{d:D}(e:Ex H0 H1)(h:Rs K kd H1 Hb H v d):Rs K kd H0 Hb H v d:=by
 cases kd with
 |dat=>exact h
 |bor=>exact h
 |new=>
  obtain⟨p,h1,h2,h3⟩:=h
  exact⟨p,h1,fresh_back e h2,h3⟩
 |io p=>
  obtain⟨d0,c,h1,h2,h3,h4⟩:=h
  exact⟨d0,c,h1,h2,fresh_back e h3,h4⟩
 |tl=>
  obtain⟨p,q,rv,xs,r,ps,h1,h2,h3,h4⟩:=h
  exact⟨p,q,rv,xs,r,ps,h1,h2,⟨fresh_back e h3.1,fresh_back e h3.2⟩,h4⟩
theorem Ds(ng:lg g){σ:L2.St}{H:Hp}{Q:VK}(h:BV K W kd (eG g ma mb) σ H Q):tOp (rOf K kd g) (BV K W .bor ma) (BV K W .bor mb) σ H Q:=by
 obtain⟨Hf,Hb,ρ,R,h1,h2,h3⟩:=h
 refine⟨Hf,Hb,ρ,R,fun d hd v Hb1 H1 g1 r1=> ?_,fun c hc Hb1 H1 g1=>h2 c (by simp [eG,hc,ER.bind]) Hb1 H1 g1,fun z=>h3 (by simp [eG,z,ER.bind])⟩
 refine⟨Hf,Hb1,ρ,R.gw g1,fun d2 hd2 v2 Hb2 H2 g2 r2=> ?_,fun c hc Hb2 H2 g2=>h2 c (by simp [eG,hd,hc,ER.bind]) Hb2 H2 (g1.trans g2),fun z=>h3 (by simp [eG,hd,z,ER.bind])⟩
 have e:eG g ma mb ρ=g d d2:=by simp [eG,hd,hd2,ER.bind]
 rw [e] at h1 h3
 cases q:g d d2 with
 |bad=>exact absurd q h3
 |ex c=>exact absurd q (ng _ _ _)
 |ok z=>exact⟨Hb2,d,d2,z,g2.bh,Bo.ex g2.b g2.h r1,r2,q,fun v Hb3 H3 g3 r3=>h1 z q v Hb3 H3 ((g1.trans g2).trans g3) (r3.back (g1.trans g2).h)⟩
end
section
variable{X:Cx}{W:WQ}{kd:Kd}{a b c:Expr}{ma mb mc:EM}{g g' :D→D→ER}{pos:Pos}
theorem fD{op:Operator}(ho:Fp X (binaryOp op) kd g)(ng:lg g)(ha:DE X W .bor a ma)(hb:DE X W .bor b mb):DE X W kd (.BinOp a op b pos) (eG g ma mb):=PE.imp (pe_op ho ha hb) fun _ _ _=>Ds ng
theorem vD{op:CmpOp}(ho:Fp X (compareOp op) kd g)(ng:lg g)(ha:DE X W .bor a ma)(hb:DE X W .bor b mb)(hm:behindInMarks op b=false:=by first|exact nomark _|rfl):DE X W kd (.Compare a [op] [b] pos) (eG g ma mb):=PE.imp (pe_cmpR ho ha hb hm) fun _ _ _=>Ds ng
end
def vQ:Nat:=100000000
def jw:D→D→ER
 | .int i, .int j=> .ok (.int (i+j))
 | .str i, .str j=>if i.length+j.length≤sizeLine then .ok (.str (i++j)) else .bad
 | .tuple i, .tuple j=>if i.length+j.length≤sizeLine then .ok (.tuple (i++j)) else .bad
 | .list i, .list j=>if i.length+j.length≤sizeLine then .ok (.list (i++j)) else .bad
 |_,_=> .bad
def mW:D→D→ER
 | .int i, .int j=> .ok (.int (i-j))
 |_,_=> .bad
def Qp(x:Str)(n:Int):Str:=⟨(aD n.toNat x.cps).foldl (·++·) #[]⟩
def lQ:D→D→ER
 | .int i, .int j=>if i.natAbs.log2+j.natAbs.log2<vQ then .ok (.int (i*j)) else .bad
 | .str x, .int n=>if-(2 ^ 62)≤n∧n<2 ^ 62∧x.length*n.toNat≤sizeLine then .ok (.str (Qp x n)) else .bad
 |_,_=> .bad
def jB:D→D→ER
 | .int i, .int j=>if 0<j∧j.natAbs.log2<9000 then .ok (.int (i/j)) else .bad
 |_,_=> .bad
def iK:D→D→ER
 | .int i, .int j=>if 0<j then .ok (.int (i%j)) else .bad
 |_,_=> .bad
def sV:D→D→ER
 | .int i, .int j=>if 0≤j∧j≤1000000∧i.natAbs<2 ^ 64 then .ok (.int (i ^ j.toNat)) else .bad
 |_,_=> .bad
def jZ:D→D→ER
 | .str i, .str j=> .ok (.bool (decide (i=j)))
 |x,y=>if SeqAt.shaped x&&SeqAt.shaped y then .ok (.bool (dF x y)) else .bad
def Ep(x y:D):ER:=(jZ x y).bind fun z=>match z with
 | .bool b=> .ok (.bool (!b))
 |_=> .bad
def Nt:D→D→ER
 | .int i, .int j=> .ok (.bool (decide (i<j)))
 | .str i, .str j=> .ok (.bool (decide (i.cps.toList<j.cps.toList)))
 |_,_=> .bad
def Qu:D→D→ER
 | .int i, .int j=> .ok (.bool (decide (i≤j)))
 |_,_=> .bad
def dGt:D→D→ER
 | .int i, .int j=> .ok (.bool (decide (j<i)))
 |_,_=> .bad
def dGe:D→D→ER
 | .int i, .int j=> .ok (.bool (decide (j≤i)))
 |_,_=> .bad
def yq:D→D→ER
 | .none, .none=> .ok (.bool true)
 | .bool i, .bool j=> .ok (.bool (decide (i=j)))
 | .none, .bool _=> .ok (.bool false)
 | .int _, .bool _=> .ok (.bool false)
 | .bool _, .none=> .ok (.bool false)
 | .int _, .none=> .ok (.bool false)
 | .str _, .none=> .ok (.bool false)
 | .list _, .none=> .ok (.bool false)
 | .tuple _, .none=> .ok (.bool false)
 | .dict _, .none=> .ok (.bool false)
 |_,_=> .bad
def pU(x y:D):ER:=(yq x y).bind fun z=>match z with
 | .bool b=> .ok (.bool (!b))
 |_=> .bad
section
variable{X:Cx}
theorem tM{d:D}(h:SeqAt.shaped d=true):d.canLay0=true:=SeqAt.canLay_of_shaped h
theorem qN{K:ao}{H0 Hb H:Hp}{i:Int}:Rs K .dat H0 Hb H (.int i) (.int i):=Dr.int i
theorem mJ{K:ao}{H0 Hb H:Hp}{i:Bool}:Rs K .dat H0 Hb H (.bl i) (.bool i):=Dr.bl i
theorem aae{K:ao}{H0 Hb H:Hp}{i:Str}:Rs K .dat H0 Hb H (.str i) (.str i):=Dr.str i
theorem Ze{K:ao}{H0 Hb H:Hp}:Rs K .dat H0 Hb H .non .none:=Dr.non
theorem agE:OpR X (binaryOp .Add) (fun x y H Q=>∃l b xs zs,x= .ref l∧y= .ref b∧SqL X.K H l xs∧SqL X.K H b zs∧xs.length+zs.length≤sizeLine∧∀p,H p=none→Q (.ref p) (upd H p (.lst (xs++zs)))):=by
 intro pins s σ H x y v u Q I rx ry h
 obtain⟨l,b,xs,zs,rfl,rfl,hH,hB,hz,q⟩:=h
 cases rx
 cases ry
 obtain⟨its,r,pl,z⟩:=I.list hH
 obtain⟨its2,r2,pl2,z2⟩:=I.list hB
 have hl:=r.length
 have hl2:=r2.length
 obtain⟨⟨c1,d1,t1,w1⟩,o1,k1,n1,q1⟩:=pl.isList
 obtain⟨⟨c2,d2,t2,w2⟩,o2,k2,n2,q2⟩:=pl2.isList
 simp only at k1 q1 k2 q2
 subst k1 q1 k2 q2
 refine concat_meets ⟨_,o1,rfl⟩ ⟨_,o2,rfl⟩ noFill_list_add seq_list_add PySem.F.slot_list_add PySem.F.entry_list_add (PySem.F.args_list_add_2 _ _)
  (PyProof.Rows.list_addW l b its.toArray its2.toArray n1 n2 d1 d2 w1 w2 (by rw [List.size_toArray,List.size_toArray];omega)) ⟨o1,o2,?_⟩
 rw [show its.toArray++its2.toArray=(its++its2).toArray by simp]
 exact⟨.ref _,_,I.lnew (t' :=s.toks) (r.append r2) (by rw [aA];omega),rfl,q _ I.fresh⟩
theorem ji:Fp X (binaryOp .Add) .dat jw:=by
 intro pins s σ H x y v u Q I rx ry h
 obtain⟨Hb,dx,dy,d,eb,bx,byy,hg,q⟩:=h
 cases dx<;>cases dy<;>simp only [jw] at hg<;>first|cases hg;done|skip
 ·cases hg
  have e1:=bx.int
  have e2:=byy.int
  exact op_add pins s σ H x y v u Q I rx ry ⟨_,_,e1,e2,q _ Hb H (Gw.refl eb) qN⟩
 ·split at hg
  ·cases hg
   exact op_add_str pins s σ H x y v u Q I rx ry ⟨_,_,bx.str,byy.str,by assumption,q _ Hb H (Gw.refl eb) aae⟩
  ·cases hg
 ·split at hg
  ·cases hg
   obtain⟨p,xs,e1,s1,a1⟩:=bx.lst eb
   obtain⟨p2,ys,e2,s2,a2⟩:=byy.lst eb
   rename_i hz
   refine agE pins s σ H x y v u Q I rx ry ⟨p,p2,xs,ys,e1,e2,s1,s2,by rw [gW a1,gW a2];exact hz,fun r hr=> ?_⟩
   have z:=Gw.lst eb hr (qT a1 a2)
   exact q _ _ _ z.1 z.2
  ·cases hg
 ·split at hg
  ·cases hg
   obtain⟨p,xs,e1,s1,a1⟩:=bx.tup eb
   obtain⟨p2,ys,e2,s2,a2⟩:=byy.tup eb
   rename_i ds es hz
   refine op_catA pins s σ H x y v u Q I rx ry ⟨p,p2,xs,ys,e1,e2,s1,s2,by rw [gW a1,gW a2];exact hz,fun hx=> ?_,fun hx hy=> ?_,fun _ _ r hr=> ?_⟩
   ·subst hx
    cases a1
    rcases byy with b2|⟨_,_,_,_,b2⟩
    ·rw [←e2]
     exact q _ Hb H (Gw.refl eb) b2
    ·cases b2
   ·subst hy
    cases a2
    rcases bx with b2|⟨_,_,_,_,b2⟩
    ·rw [←e1]
     rw [aR] at q
     exact q _ Hb H (Gw.refl eb) b2
    ·cases b2
   ·have z:=Gw.tup eb hr (qT a1 a2)
    exact q _ _ _ z.1 z.2
  ·cases hg
theorem lD:Fp X (binaryOp .Sub) .dat mW:=by
 intro pins s σ H x y v u Q I rx ry h
 obtain⟨Hb,dx,dy,d,eb,bx,byy,hg,q⟩:=h
 cases dx<;>cases dy<;>simp only [mW] at hg<;>first|cases hg;done|skip
 cases hg
 exact op_sub pins s σ H x y v u Q I rx ry ⟨_,_,bx.int,byy.int,q _ Hb H (Gw.refl eb) qN⟩
theorem ahq{i j:Int}(h:i.natAbs.log2+j.natAbs.log2<vQ):IntMulOk i j:=by
 have b:∀x:Int,Builtin.Int.intBits x≤x.natAbs.log2+1:=fun x=>by
  unfold Builtin.Int.intBits
  split<;>omega
 have h1:=b i
 have h2:=b j
 have e:bitsLine=134217728:=by decide
 unfold vQ at h
 unfold IntMulOk
 intro z
 rw [cW] at z
 have z2:=z.2
 unfold Builtin.Int.intTooBig at z2
 have z3:=of_decide_eq_true z2
 rw [e] at z3
 omega
theorem aeC:OpR X (binaryOp .Mult) (rI (fun i j=>i.natAbs.log2+j.natAbs.log2<vQ) fun i j=> .int (i*j)):=opI fun _ _ _ _ _ _ _ hc q=>PyProof.Rows.mul_int q (ahq hc)
theorem Ea(x:Array Nat):∀(n:Nat) (acc:Array Nat),((aD n x).foldl (·++·) acc).size=acc.size+n*x.size
 |0,acc=>by simp
 |n+1,acc=>by
  rw [List.replicate_succ,List.foldl_cons,Ea x n]
  simp [Nat.succ_mul]
  omega
theorem X8(x:Str)(n:Int):(Qp x n).length=n.toNat*x.length:=by
 show((aD n.toNat x.cps).foldl (·++·) #[]).size=_
 rw [Ea]
 simp
 rfl
theorem afk:OpR X (binaryOp .Mult) (fun x y H Q=>∃(z:Str) (n:Int),x= .str z∧y= .int n∧-(2 ^ 62)≤n∧n<2 ^ 62∧z.length*n.toNat≤sizeLine∧Q (.str (Qp z n)) H):=by
 intro pins s σ H x y v u Q I rx ry h
 obtain⟨z,n,rfl,rfl,h1,h2,hz,q⟩:=h
 obtain⟨t,rfl⟩:=rx
 obtain⟨t',rfl⟩:=ry
 have se:sizeLine=16777216:=sizeLine_eq
 have fin:∀(y:Str) (tk:Nat) (t:Tok),y=Qp z n→EP X pins σ Q (.str y t) {s with toks:=tk}:=fun y tk t e=>⟨.str (Qp z n),H,I.tok tk,⟨t,by rw [e]⟩,q⟩
 refine PySem.P.mul_str (by rw [decide_eq_false (by omega),decide_eq_false (by omega)];rfl) (fun h3 h4=> ?_) (fun _ _=> ?_) ?_
 ·have hn:0<n:=by omega
  intro hgt
  have hgt:(2 ^ 63-1)/n<(z.length:Int):=hgt
  have hlt:=Int.lt_mul_of_ediv_lt hn hgt
  have e:((z.length*n.toNat:Nat):Int)=(z.length:Int)*n:=by
   rw [Int.natCast_mul,Int.toNat_of_nonneg (by omega)]
  omega
 ·unfold Builtin.Str.tooLong
  exact decide_eq_false (by omega)
 ·have hl:(Qp z n).length≤sizeLine:=by rw [X8,bY];exact hz
  split
  ·rename_i hn
   refine⟨by decide,fin _ _ _ ?_⟩
   unfold Qp
   rw [show n.toNat=0 by omega]
   rfl
  ·split
   ·rename_i hn
    have e:z=Qp z n:=by
     rcases Bool.or_eq_true_iff.mp hn with h5|h5
     ·have h6:n=1:=by simpa using h5
      subst h6
      unfold Qp
      simp
     ·have h6:z.cps.size=0:=beq_iff_eq.mp h5
      have h7:z.cps= #[]:=Array.eq_empty_of_size_eq_zero h6
      have h8:(Qp z n).cps= #[]:=Array.eq_empty_of_size_eq_zero (by
       have:=X8 z n
       rw [show z.length=0 from h6,Nat.mul_zero] at this
       exact this)
      obtain⟨c⟩:=z
      show(⟨c⟩:Str)=⟨(Qp ⟨c⟩ n).cps⟩
      rw [h8]
      congr 1
    exact fin _ s.toks _ e
   ·exact⟨hl,fin _ _ _ rfl⟩
theorem oh:Fp X (binaryOp .Mult) .dat lQ:=by
 intro pins s σ H x y v u Q I rx ry h
 obtain⟨Hb,dx,dy,d,eb,bx,byy,hg,q⟩:=h
 cases dx<;>cases dy<;>simp only [lQ] at hg<;>first|cases hg;done|skip
 ·split at hg
  ·cases hg
   exact aeC pins s σ H x y v u Q I rx ry ⟨_,_,bx.int,byy.int,by assumption,q _ Hb H (Gw.refl eb) qN⟩
  ·cases hg
 ·split at hg
  ·rename_i hz
   cases hg
   exact afk pins s σ H x y v u Q I rx ry ⟨_,_,bx.str,byy.int,hz.1,hz.2.1,hz.2.2,q _ Hb H (Gw.refl eb) aae⟩
  ·cases hg
theorem j5:Fp X (binaryOp .FloorDiv) .dat jB:=by
 intro pins s σ H x y v u Q I rx ry h
 obtain⟨Hb,dx,dy,d,eb,bx,byy,hg,q⟩:=h
 cases dx<;>cases dy<;>simp only [jB] at hg<;>first|cases hg;done|skip
 split at hg
 ·cases hg
  exact op_fdivW pins s σ H x y v u Q I rx ry ⟨_,_,bx.int,byy.int,by assumption,q _ Hb H (Gw.refl eb) qN⟩
 ·cases hg
theorem iU:Fp X (binaryOp .Mod) .dat iK:=by
 intro pins s σ H x y v u Q I rx ry h
 obtain⟨Hb,dx,dy,d,eb,bx,byy,hg,q⟩:=h
 cases dx<;>cases dy<;>simp only [iK] at hg<;>first|cases hg;done|skip
 split at hg
 ·cases hg
  exact op_mod pins s σ H x y v u Q I rx ry ⟨_,_,bx.int,byy.int,by assumption,q _ Hb H (Gw.refl eb) qN⟩
 ·cases hg
theorem vg:Fp X (binaryOp .Pow) .dat sV:=by
 intro pins s σ H x y v u Q I rx ry h
 obtain⟨Hb,dx,dy,d,eb,bx,byy,hg,q⟩:=h
 cases dx<;>cases dy<;>simp only [sV] at hg<;>first|cases hg;done|skip
 split at hg
 ·cases hg
  exact op_pow pins s σ H x y v u Q I rx ry ⟨_,_,bx.int,byy.int,by assumption,q _ Hb H (Gw.refl eb) qN⟩
 ·cases hg
theorem tG(x y:D):(∃i j,x= .str i∧y= .str j∧jZ x y= .ok (.bool (decide (i=j))))∨jZ x y=if SeqAt.shaped x&&SeqAt.shaped y then .ok (.bool (dF x y)) else .bad:=by
 cases x<;>cases y<;>first|exact .inr rfl|exact .inl ⟨_,_,rfl,rfl,rfl⟩
theorem gM(hu:X.A.units+64<cLine):Fp X (compareOp .Eq) .dat jZ:=by
 intro pins s σ H x y v u Q I rx ry h
 obtain⟨Hb,dx,dy,d,eb,bx,byy,hg,q⟩:=h
 rcases tG dx dy with⟨i,j,rfl,rfl,e⟩|e
 ·rw [e] at hg
  cases hg
  refine op_eq pins s σ H x y v u Q I rx ry ⟨by rw [bx.str,byy.str];rfl,?_⟩
  rw [bx.str,byy.str]
  have e2:decide (V.str i=V.str j)=decide (i=j):=by simp
  rw [e2]
  exact q _ Hb H (Gw.refl eb) mJ
 ·rw [e] at hg
  split at hg
  ·rename_i hs
   cases hg
   rw [cW] at hs
   exact op_eqD hu pins s σ H x y v u Q I rx ry ⟨dx,dy,bx.dp eb (tM hs.1),byy.dp eb (tM hs.2),hs.1,hs.2,q _ Hb H (Gw.refl eb) mJ⟩
  ·cases hg
theorem xZ(hu:X.A.units+64<cLine):Fp X (compareOp .NotEq) .dat Ep:=by
 intro pins s σ H x y v u Q I rx ry h
 obtain⟨Hb,dx,dy,d,eb,bx,byy,hg,q⟩:=h
 unfold Ep at hg
 rcases tG dx dy with⟨i,j,rfl,rfl,e⟩|e
 ·rw [e] at hg
  cases hg
  refine op_ne pins s σ H x y v u Q I rx ry ⟨by rw [bx.str,byy.str];rfl,?_⟩
  rw [bx.str,byy.str]
  have e2:decide (V.str i=V.str j)=decide (i=j):=by simp
  rw [e2]
  exact q _ Hb H (Gw.refl eb) mJ
 ·rw [e] at hg
  split at hg
  ·rename_i hs
   cases hg
   rw [cW] at hs
   exact op_neD hu pins s σ H x y v u Q I rx ry ⟨dx,dy,bx.dp eb (tM hs.1),byy.dp eb (tM hs.2),hs.1,hs.2,q _ Hb H (Gw.refl eb) mJ⟩
  ·cases hg
theorem t8:Fp X (compareOp .Lt) .dat Nt:=by
 intro pins s σ H x y v u Q I rx ry h
 obtain⟨Hb,dx,dy,d,eb,bx,byy,hg,q⟩:=h
 cases dx<;>cases dy<;>simp only [Nt] at hg<;>first|cases hg;done|skip
 ·cases hg
  exact op_lt pins s σ H x y v u Q I rx ry ⟨_,_,bx.int,byy.int,q _ Hb H (Gw.refl eb) mJ⟩
 ·cases hg
  exact op_lt_str pins s σ H x y v u Q I rx ry ⟨_,_,bx.str,byy.str,q _ Hb H (Gw.refl eb) mJ⟩
theorem tX:Fp X (compareOp .LtE) .dat Qu:=by
 intro pins s σ H x y v u Q I rx ry h
 obtain⟨Hb,dx,dy,d,eb,bx,byy,hg,q⟩:=h
 cases dx<;>cases dy<;>simp only [Qu] at hg<;>first|cases hg;done|skip
 cases hg
 exact op_le pins s σ H x y v u Q I rx ry ⟨_,_,bx.int,byy.int,q _ Hb H (Gw.refl eb) mJ⟩
theorem Fy:Fp X (compareOp .Gt) .dat dGt:=by
 intro pins s σ H x y v u Q I rx ry h
 obtain⟨Hb,dx,dy,d,eb,bx,byy,hg,q⟩:=h
 cases dx<;>cases dy<;>simp only [dGt] at hg<;>first|cases hg;done|skip
 cases hg
 exact op_gt pins s σ H x y v u Q I rx ry ⟨_,_,bx.int,byy.int,q _ Hb H (Gw.refl eb) mJ⟩
theorem W8:Fp X (compareOp .GtE) .dat dGe:=by
 intro pins s σ H x y v u Q I rx ry h
 obtain⟨Hb,dx,dy,d,eb,bx,byy,hg,q⟩:=h
 cases dx<;>cases dy<;>simp only [dGe] at hg<;>first|cases hg;done|skip
 cases hg
 exact op_ge pins s σ H x y v u Q I rx ry ⟨_,_,bx.int,byy.int,q _ Hb H (Gw.refl eb) mJ⟩
theorem Bo.aiu{K:ao}{Hb H:Hp}{v:V}{ds:List (D×D)}(h:Bo K Hb H v (.dict ds)):∃p,v= .ref p:=by
 rcases h with h|⟨p,h,_⟩
 ·cases h<;>exact⟨_,rfl⟩
 ·exact⟨p,h⟩
theorem z8:Fp X (compareOp .Is) .dat yq:=by
 intro pins s σ H x y v u Q I rx ry h
 obtain⟨Hb,dx,dy,d,eb,bx,byy,hg,q⟩:=h
 have key:dy= .none→d= .bool (decide (x= .non))→wpAny (model X.prog X.w) X.A (compareOp .Is v u) (EP X pins σ Q) X.xe s:=fun e1 e2=>by
  subst e1 e2
  exact op_isN pins s σ H x y v u Q I rx ry ⟨byy.non,q _ Hb H (Gw.refl eb) mJ⟩
 cases dx<;>cases dy<;>simp only [yq] at hg<;>first|cases hg;done|skip
 ·cases hg
  exact key rfl (by rw [bx.non];rfl)
 ·cases hg
  rw [bx.non] at rx
  rw [byy.bl] at ry
  cases rx
  cases ry
  exact wpAny_is_other rfl (fun z=>nomatch z) ⟨.bl false,H,I,rfl,q _ Hb H (Gw.refl eb) mJ⟩
 ·cases hg
  exact key rfl (by rw [bx.bl];rfl)
 ·cases hg
  exact op_isBl pins s σ H x y v u Q I rx ry ⟨_,_,bx.bl,byy.bl,q _ Hb H (Gw.refl eb) mJ⟩
 ·cases hg
  exact key rfl (by rw [bx.int];rfl)
 ·cases hg
  rw [bx.int] at rx
  rw [byy.bl] at ry
  obtain⟨t,rfl⟩:=rx
  cases ry
  exact wpAny_is_other rfl (fun z=>nomatch z) ⟨.bl false,H,I,rfl,q _ Hb H (Gw.refl eb) mJ⟩
 ·cases hg
  exact key rfl (by rw [bx.str];rfl)
 ·cases hg
  obtain⟨p,xs,e1,_⟩:=bx.lst eb
  exact key rfl (by rw [e1];rfl)
 ·cases hg
  obtain⟨p,xs,e1,_⟩:=bx.tup eb
  exact key rfl (by rw [e1];rfl)
 ·cases hg
  obtain⟨p,e1⟩:=bx.aiu
  exact key rfl (by rw [e1];rfl)
theorem V6:Fp X (compareOp .IsNot) .dat pU:=by
 intro pins s σ H x y v u Q I rx ry h
 obtain⟨Hb,dx,dy,d,eb,bx,byy,hg,q⟩:=h
 have key:dy= .none→d= .bool (!decide (x= .non))→wpAny (model X.prog X.w) X.A (compareOp .IsNot v u) (EP X pins σ Q) X.xe s:=fun e1 e2=>by
  subst e1 e2
  exact op_notN pins s σ H x y v u Q I rx ry ⟨byy.non,q _ Hb H (Gw.refl eb) mJ⟩
 cases dx<;>cases dy<;>simp only [pU,yq,ER.bind] at hg<;>first|cases hg;done|skip
 ·cases hg
  exact key rfl (by rw [bx.non];rfl)
 ·cases hg
  rw [bx.non] at rx
  rw [byy.bl] at ry
  cases rx
  cases ry
  exact wpAny_isNot_other rfl (fun z=>nomatch z) ⟨.bl true,H,I,rfl,q _ Hb H (Gw.refl eb) mJ⟩
 ·cases hg
  exact key rfl (by rw [bx.bl];rfl)
 ·cases hg
  exact op_notBl pins s σ H x y v u Q I rx ry ⟨_,_,bx.bl,byy.bl,q _ Hb H (Gw.refl eb) mJ⟩
 ·cases hg
  exact key rfl (by rw [bx.int];rfl)
 ·cases hg
  rw [bx.int] at rx
  rw [byy.bl] at ry
  obtain⟨t,rfl⟩:=rx
  cases ry
  exact wpAny_isNot_other rfl (fun z=>nomatch z) ⟨.bl true,H,I,rfl,q _ Hb H (Gw.refl eb) mJ⟩
 ·cases hg
  exact key rfl (by rw [bx.str];rfl)
 ·cases hg
  obtain⟨p,xs,e1,_⟩:=bx.lst eb
  exact key rfl (by rw [e1];rfl)
 ·cases hg
  obtain⟨p,xs,e1,_⟩:=bx.tup eb
  exact key rfl (by rw [e1];rfl)
 ·cases hg
  obtain⟨p,e1⟩:=bx.aiu
  exact key rfl (by rw [e1];rfl)
end
theorem jh:lg jw:=fun x y c h=>by
 cases x<;>cases y<;>simp only [jw] at h<;>first|cases h;done|(split at h<;>cases h)
theorem lB:lg mW:=fun x y c h=>by cases x<;>cases y<;>cases h
theorem nR:lg lQ:=fun x y c h=>by
 cases x<;>cases y<;>simp only [lQ] at h<;>first|cases h;done|(split at h<;>cases h)
theorem jY:lg jB:=fun x y c h=>by
 cases x<;>cases y<;>simp only [jB] at h<;>first|cases h;done|(split at h<;>cases h)
theorem iQ:lg iK:=fun x y c h=>by
 cases x<;>cases y<;>simp only [iK] at h<;>first|cases h;done|(split at h<;>cases h)
theorem ne_pow:lg sV:=fun x y c h=>by
 cases x<;>cases y<;>simp only [sV] at h<;>first|cases h;done|(split at h<;>cases h)
theorem ne_eq:lg jZ:=fun x y c h=>by
 rcases tG x y with⟨i,j,rfl,rfl,e⟩|e
 ·rw [e] at h
  cases h
 ·rw [e] at h
  split at h<;>cases h
theorem xH:lg Ep:=fun x y c h=>by
 unfold Ep at h
 rcases tG x y with⟨i,j,rfl,rfl,e⟩|e
 ·rw [e] at h
  cases h
 ·rw [e] at h
  split at h<;>cases h
theorem tQ:lg Nt:=fun x y c h=>by cases x<;>cases y<;>cases h
theorem uf:lg Qu:=fun x y c h=>by cases x<;>cases y<;>cases h
theorem HW:lg dGt:=fun x y c h=>by cases x<;>cases y<;>cases h
theorem Wd:lg dGe:=fun x y c h=>by cases x<;>cases y<;>cases h
theorem ne_is:lg yq:=fun x y c h=>by cases x<;>cases y<;>cases h
theorem Yz:lg pU:=fun x y c h=>by cases x<;>cases y<;>simp [pU,yq,ER.bind] at h
end DL
namespace DL
open PySem L2 Evl
def Vy(K:ao)(W:WQ)(m:EM):TT:=fun σ H Q=>∃(Hf Hb:Hp) (ρ:Env),gj K W.pin Hf Hb H σ ρ∧
 (∀b,m ρ= .ok (.bool b)→∀Hb' H',Gw Hb H Hb' H' →Q b H')∧
 (∀c,m ρ= .ex c→∀Hb' H',Gw Hb H Hb' H' →W.w (.ref (He.ga K c)) none σ H')∧((∃b,m ρ= .ok (.bool b))∨∃c,m ρ= .ex c)
abbrev DT(X:Cx)(W:WQ)(e:Expr)(m:EM):Prop:=PT X e (Vy X.K W m)
abbrev DW(X:Cx)(W:WQ)(e:Expr)(m:EM):Prop:=PW X e (Vy X.K W m)
def lY(m:EM):EM:=fun ρ=>(m ρ).bind fun d=>match d with
 | .bool b=> .ok (.bool (!b))
 |_=> .bad
def mY(ma mb:EM):EM:=fun ρ=>(ma ρ).bind fun d=>match d with
 | .bool true=>mb ρ
 | .bool false=> .ok (.bool false)
 |_=> .bad
def uo(ma mb:EM):EM:=fun ρ=>(ma ρ).bind fun d=>match d with
 | .bool true=> .ok (.bool true)
 | .bool false=>mb ρ
 |_=> .bad
def eIf(mc ma mb:EM):EM:=fun ρ=>(mc ρ).bind fun d=>match d with
 | .bool true=>ma ρ
 | .bool false=>mb ρ
 |_=> .bad
section
variable{K:ao}{W:WQ}{kd:Kd}{m ma mb mc:EM}{σ:L2.St}{H:Hp}{Q:Bool→Hp→Prop}{QV:VK}
theorem K9(h:Vy K W m σ H Q):BV K W .bor m σ H fun x H' =>∃c,x= .bl c∧Q c H' :=by
 obtain⟨Hf,Hb,ρ,R,h1,h2,h3⟩:=h
 refine⟨Hf,Hb,ρ,R,fun d hd v Hb' H' g r=> ?_,h2,fun z=> ?_⟩
 ·rcases h3 with⟨b,hb⟩|⟨c,hc⟩
  ·rw [hb] at hd
   cases hd
   exact⟨b,Bo.bl r,h1 b hb Hb' H' g⟩
  ·rw [hc] at hd
   cases hd
 ·rcases h3 with⟨b,hb⟩|⟨c,hc⟩
  ·rw [hb] at z
   cases z
  ·rw [hc] at z
   cases z
theorem afz(h:Vy K W (lY m) σ H Q):tNot (Vy K W m) σ H Q:=by
 obtain⟨Hf,Hb,ρ,R,h1,h2,h3⟩:=h
 refine⟨Hf,Hb,ρ,R,fun b hb Hb' H' g=>h1 (!b) (by simp [lY,hb,ER.bind]) Hb' H' g,fun c hc=>h2 c (by simp [lY,hc,ER.bind]),?_⟩
 cases q:m ρ with
 |bad=>simp [lY,q,ER.bind] at h3
 |ex c=>exact .inr ⟨c,rfl⟩
 |ok d=>
  cases d<;>simp [lY,q,ER.bind] at h3
  exact .inl ⟨_,rfl⟩
theorem afe(h:Vy K W (mY ma mb) σ H Q):tAnd (Vy K W ma) (Vy K W mb) σ H Q:=by
 obtain⟨Hf,Hb,ρ,R,h1,h2,h3⟩:=h
 refine⟨Hf,Hb,ρ,R,fun b hb Hb' H' g=> ?_,fun c hc=>h2 c (by simp [mY,hc,ER.bind]),?_⟩
 ·cases b with
  |true=>
   have e:mY ma mb ρ=mb ρ:=by simp [mY,hb,ER.bind]
   rw [e] at h1 h2 h3
   show Vy K W mb σ H' Q
   exact⟨Hf,Hb',ρ,R.gw g,fun b2 hb2 Hb2 H2 g2=>h1 b2 hb2 Hb2 H2 (g.trans g2),fun c hc Hb2 H2 g2=>h2 c hc Hb2 H2 (g.trans g2),h3⟩
  |false=>
   show Q false H'
   exact h1 false (by simp [mY,hb,ER.bind]) Hb' H' g
 ·cases q:ma ρ with
  |bad=>simp [mY,q,ER.bind] at h3
  |ex c=>exact .inr ⟨c,rfl⟩
  |ok d=>
   cases d<;>simp [mY,q,ER.bind] at h3
   exact .inl ⟨_,rfl⟩
theorem ahi(h:Vy K W (uo ma mb) σ H Q):tOr (Vy K W ma) (Vy K W mb) σ H Q:=by
 obtain⟨Hf,Hb,ρ,R,h1,h2,h3⟩:=h
 refine⟨Hf,Hb,ρ,R,fun b hb Hb' H' g=> ?_,fun c hc=>h2 c (by simp [uo,hc,ER.bind]),?_⟩
 ·cases b with
  |false=>
   have e:uo ma mb ρ=mb ρ:=by simp [uo,hb,ER.bind]
   rw [e] at h1 h2 h3
   show Vy K W mb σ H' Q
   exact⟨Hf,Hb',ρ,R.gw g,fun b2 hb2 Hb2 H2 g2=>h1 b2 hb2 Hb2 H2 (g.trans g2),fun c hc Hb2 H2 g2=>h2 c hc Hb2 H2 (g.trans g2),h3⟩
  |true=>
   show Q true H'
   exact h1 true (by simp [uo,hb,ER.bind]) Hb' H' g
 ·cases q:ma ρ with
  |bad=>simp [uo,q,ER.bind] at h3
  |ex c=>exact .inr ⟨c,rfl⟩
  |ok d=>
   cases d<;>simp [uo,q,ER.bind] at h3
   exact .inl ⟨_,rfl⟩
theorem afF(h:BV K W .dat (lY m) σ H QV):tNotV (BV K W .bor m) σ H QV:=by
 obtain⟨Hf,Hb,ρ,R,h1,h2,h3⟩:=h
 refine⟨Hf,Hb,ρ,R,fun d hd v Hb' H' g r=> ?_,fun c hc=>h2 c (by simp [lY,hc,ER.bind]),fun z=>h3 (by simp [lY,z,ER.bind])⟩
 cases d<;>simp [lY,hd,ER.bind] at h3
 rename_i b
 exact⟨b,Bo.bl r,h1 (.bool (!b)) (by simp [lY,hd,ER.bind]) _ Hb' H' g mJ⟩
theorem afg(h:BV K W .dat (mY ma mb) σ H QV):tAndV (BV K W .bor ma) (BV K W .dat mb) σ H QV:=by
 obtain⟨Hf,Hb,ρ,R,h1,h2,h3⟩:=h
 refine⟨Hf,Hb,ρ,R,fun d hd v Hb' H' g r=> ?_,fun c hc=>h2 c (by simp [mY,hc,ER.bind]),fun z=>h3 (by simp [mY,z,ER.bind])⟩
 cases d with
 |bool b=>
  refine⟨b,Bo.bl r,?_⟩
  cases b with
  |true=>
   have e:mY ma mb ρ=mb ρ:=by simp [mY,hd,ER.bind]
   rw [e] at h1 h2 h3
   show BV K W .dat mb σ H' QV
   exact⟨Hf,Hb',ρ,R.gw g,fun d2 hd2 v2 Hb2 H2 g2 r2=>h1 d2 hd2 v2 Hb2 H2 (g.trans g2) r2,fun c hc Hb2 H2 g2=>h2 c hc Hb2 H2 (g.trans g2),h3⟩
  |false=>
   show QV (.bl false) H'
   exact h1 (.bool false) (by simp [mY,hd,ER.bind]) _ Hb' H' g mJ
 |_=>exact absurd (by simp [mY,hd,ER.bind]) h3
theorem agS(h:BV K W .dat (uo ma mb) σ H QV):tOrV (BV K W .bor ma) (BV K W .dat mb) σ H QV:=by
 obtain⟨Hf,Hb,ρ,R,h1,h2,h3⟩:=h
 refine⟨Hf,Hb,ρ,R,fun d hd v Hb' H' g r=> ?_,fun c hc=>h2 c (by simp [uo,hc,ER.bind]),fun z=>h3 (by simp [uo,z,ER.bind])⟩
 cases d with
 |bool b=>
  refine⟨b,Bo.bl r,?_⟩
  cases b with
  |false=>
   have e:uo ma mb ρ=mb ρ:=by simp [uo,hd,ER.bind]
   rw [e] at h1 h2 h3
   show BV K W .dat mb σ H' QV
   exact⟨Hf,Hb',ρ,R.gw g,fun d2 hd2 v2 Hb2 H2 g2 r2=>h1 d2 hd2 v2 Hb2 H2 (g.trans g2) r2,fun c hc Hb2 H2 g2=>h2 c hc Hb2 H2 (g.trans g2),h3⟩
  |true=>
   show QV (.bl true) H'
   exact h1 (.bool true) (by simp [uo,hd,ER.bind]) _ Hb' H' g mJ
 |_=>exact absurd (by simp [uo,hd,ER.bind]) h3
end
section
variable{X:Cx}{W:WQ}{kd:Kd}{a b c:Expr}{rest:List Expr}{m ma mb mc:EM}{g g' :D→D→ER}{pos:Pos}
theorem pX(h:DE X W .bor a m)(he:∀whole,isTrue a X.env whole=(do let v←whole;standAt a.pos;holding [v] (truthy v)):=by intro _;rfl):DT X W a m:=PT.imp (pt_val h he) fun _ _ _=>K9
theorem fO{op:CmpOp}(ho:Fp X (compareOp op) .dat g)(ng:lg g)(ha:DE X W .bor a ma)(hb:DE X W .bor b mb)(hm:behindInMarks op b=false:=by first|exact nomark _|rfl):DT X W (.Compare a [op] [b] pos) (eG g ma mb):=
 PT.imp (pt_cmpR ho ha hb hm) fun σ H Q h=>by
  obtain⟨Hf,Hb,ρ,R,h1,h2,h3⟩:=K9 h
  exact Ds ng ⟨Hf,Hb,ρ,R,fun d hd v Hb' H' g r=>h1 d hd v Hb' H' g (.inl r),h2,h3⟩
theorem mX(h:DT X W a m):DT X W (.UnaryOp .Not a pos) (lY m):=PT.imp (pt_not h) fun _ _ _=>afz
theorem rO(h:DT X W a m):DW X W (.BoolOp .And [a] pos) m:=pw_and1 h
theorem rF(h:DT X W a m):DW X W (.BoolOp .Or [a] pos) m:=pw_or1 h
theorem vL(ha:DT X W a ma)(hb:DW X W (.BoolOp .And (b::rest) pos) mb):DW X W (.BoolOp .And (a::b::rest) pos) (mY ma mb):=PW.imp (pw_and ha hb) fun _ _ _=>afe
theorem pZ(ha:DT X W a ma)(hb:DW X W (.BoolOp .Or (b::rest) pos) mb):DW X W (.BoolOp .Or (a::b::rest) pos) (uo ma mb):=PW.imp (pw_or ha hb) fun _ _ _=>ahi
theorem ux(h:DW X W a m):DT X W a m:=PW.pt h
theorem ag4(h:DE X W .bor a m):DE X W .dat (.UnaryOp .Not a pos) (lY m):=PE.imp (pe_not h) fun _ _ _=>afF
theorem Bt{op}(h:DE X W kd a m):DE X W kd (.BoolOp op [a] pos) m:=pe_one h
theorem yV(ha:DE X W .bor a ma)(hb:DE X W .dat (.BoolOp .And (b::rest) pos) mb):DE X W .dat (.BoolOp .And (a::b::rest) pos) (mY ma mb):=PE.imp (pe_and ha hb) fun _ _ _=>afg
theorem agh(ha:DE X W .bor a ma)(hb:DE X W .dat (.BoolOp .Or (b::rest) pos) mb):DE X W .dat (.BoolOp .Or (a::b::rest) pos) (uo ma mb):=PE.imp (pe_or ha hb) fun _ _ _=>agS
end
def jd(g g' :D→D→ER)(ma mb mc:EM):EM:=fun ρ=>(ma ρ).bind fun x=>(mb ρ).bind fun y=>(g x y).bind fun z=>match z with
 | .bool true=>(mc ρ).bind fun w=>g' y w
 | .bool false=> .ok (.bool false)
 |_=> .bad
section
variable{K:ao}{W:WQ}{ma mb mc:EM}{g g' :D→D→ER}
theorem Tn(ng:lg g)(ng' :lg g'){σ:L2.St}{H:Hp}{Q:VK}(h:BV K W .dat (jd g g' ma mb mc) σ H Q):tChain (rOf K .dat g) (rOf K .dat g') (BV K W .bor ma) (BV K W .bor mb) (BV K W .bor mc) σ H Q:=by
 obtain⟨Hf,Hb,ρ,R,h1,h2,h3⟩:=h
 refine⟨Hf,Hb,ρ,R,fun d hd v Hb1 H1 g1 r1=> ?_,fun c hc Hb1 H1 g1=>h2 c (by simp [jd,hc,ER.bind]) Hb1 H1 g1,fun z=>h3 (by simp [jd,z,ER.bind])⟩
 refine⟨Hf,Hb1,ρ,R.gw g1,fun d2 hd2 v2 Hb2 H2 g2 r2=> ?_,fun c hc Hb2 H2 g2=>h2 c (by simp [jd,hd,hc,ER.bind]) Hb2 H2 (g1.trans g2),fun z=>h3 (by simp [jd,hd,z,ER.bind])⟩
 cases q:g d d2 with
 |bad=>exact absurd (by simp [jd,hd,hd2,q,ER.bind]) h3
 |ex c=>exact absurd q (ng _ _ _)
 |ok z=>
  refine⟨Hb2,d,d2,z,g2.bh,Bo.ex g2.b g2.h r1,r2,q,fun v3 Hb3 H3 g3 r3=> ?_⟩
  have gg:Gw Hb H Hb3 H3:=(g1.trans g2).trans g3
  cases z with
  |bool b=>
   have e1:v3= .bl b:=Bo.bl (K:=K) (Hb:=Hb3) (H:=H3) (.inl r3)
   refine⟨b,e1,?_⟩
   cases b with
   |true=>
    show BV K W .bor mc σ H3 fun w' H4=>rOf K .dat g' v2 w' H4 Q
    have e:jd g g' ma mb mc ρ=(mc ρ).bind fun w=>g' d2 w:=by simp [jd,hd,hd2,q,ER.bind]
    rw [e] at h1 h2 h3
    refine⟨Hf,Hb3,ρ,R.gw gg,fun d4 hd4 v4 Hb4 H4 g4 r4=> ?_,fun c hc Hb4 H4 g4=>h2 c (by simp [hc,ER.bind]) Hb4 H4 (gg.trans g4),fun z=>h3 (by simp [z,ER.bind])⟩
    rw [hd4] at h1 h3
    cases q4:g' d2 d4 with
    |bad=>exact absurd (by simp [q4,ER.bind]) h3
    |ex c=>exact absurd q4 (ng' _ _ _)
    |ok z4=>exact⟨Hb4,d2,d4,z4,g4.bh,Bo.ex (g3.b.trans g4.b) (g3.h.trans g4.h) r2,r4,q4,fun v Hb5 H5 g5 r5=>h1 z4 (by simp [q4,ER.bind]) v Hb5 H5 ((gg.trans g4).trans g5) r5⟩
   |false=>
    show Q (.bl false) H3
    exact h1 (.bool false) (by simp [jd,hd,hd2,q,ER.bind]) _ Hb3 H3 gg mJ
  |_=>exact absurd (by simp [jd,hd,hd2,q,ER.bind]) h3
end
section
variable{X:Cx}{W:WQ}{a b c:Expr}{ma mb mc:EM}{g g' :D→D→ER}{pos:Pos}
theorem XS{op op' :CmpOp}(ho:Fp X (compareOp op) .dat g)(ho' :Fp X (compareOp op') .dat g')(ng:lg g)(ng' :lg g')(ha:DE X W .bor a ma)(hb:DE X W .bor b mb)(hc:DE X W .bor c mc)
 (hm:lastMarks [op,op'] [b,c]=false:=by with_unfolding_all rfl):DE X W .dat (.Compare a [op,op'] [b,c] pos) (jd g g' ma mb mc):=PE.imp (pe_chain ho ho' ha hb hc hm) fun _ _ _=>Tn ng ng'
theorem tY{op op' :CmpOp}(ho:Fp X (compareOp op) .dat g)(ho' :Fp X (compareOp op') .dat g')(ng:lg g)(ng' :lg g')(ha:DE X W .bor a ma)(hb:DE X W .bor b mb)(hc:DE X W .bor c mc)
 (hm:lastMarks [op,op'] [b,c]=false:=by with_unfolding_all rfl):DT X W (.Compare a [op,op'] [b,c] pos) (jd g g' ma mb mc):=PT.imp (pt_chain ho ho' ha hb hc hm) fun σ H Q h=>by
 obtain⟨Hf,Hb,ρ,R,h1,h2,h3⟩:=K9 h
 exact Tn ng ng' ⟨Hf,Hb,ρ,R,fun d hd v Hb' H' g r=>h1 d hd v Hb' H' g (.inl r),h2,h3⟩
end
inductive AR where
 |ok (ds:List D)|ex (c:Str)|bad
def m7:List EM→Env→AR
 |[],_=> .ok []
 |m::r,ρ=>match m ρ with
  | .ok d=>(match m7 r ρ with
    | .ok ds=> .ok (d::ds)
    | .ex c=> .ex c
    | .bad=> .bad)
  | .ex c=> .ex c
  | .bad=> .bad
def Ra(K:ao)(kd:Kd)(Hb H:Hp)(v:V)(d:D):Prop:=match kd with
 | .dat=>Dr K Hb v d
 |_=>Bo K Hb H v d
inductive ni(K:ao)(Hb H:Hp):List Kd→List V→List D→Prop
 |nil:ni K Hb H [] [] []
 |cons {kd:Kd} {ks:List Kd} {v:V} {vs:List V} {d:D} {ds:List D}:Ra K kd Hb H v d→ni K Hb H ks vs ds→ni K Hb H (kd::ks) (v::vs) (d::ds)
def aOf(K:ao)(W:WQ)(ks:List Kd)(ms:List EM):TA:=fun σ H Q=>∃(Hf Hb:Hp) (ρ:Env),gj K W.pin Hf Hb H σ ρ∧
 (∀ds,m7 ms ρ= .ok ds→∀vs Hb' H',Gw Hb H Hb' H' →ni K Hb' H' ks vs ds→Q vs H')∧
 (∀c,m7 ms ρ= .ex c→∀Hb' H',Gw Hb H Hb' H' →W.w (.ref (He.ga K c)) none σ H')∧m7 ms ρ≠ .bad
abbrev DA(X:Cx)(W:WQ)(ks:List Kd)(es:List Expr)(ms:List EM):Prop:=PA X es (aOf X.K W ks ms)
theorem PA.imp{X:Cx}{e:List Expr}{t t' :TA}(h:PA X e t)(i:∀σ H Q,t' σ H Q→t σ H Q):PA X e t' :=⟨fun pos pins s σ H Q I q=>h.run pos pins s σ H Q I (i σ H Q q)⟩
theorem Ra.ex{K:ao}{kd:Kd}{Hb H Hb' H' :Hp}{v:V}{d:D}(eb:Ex Hb Hb')(e:Ex H H')(h:Ra K kd Hb H v d):Ra K kd Hb' H' v d:=by
 cases kd with
 |dat=>exact lG eb h
 |new=>exact Bo.ex eb e h
 |bor=>exact Bo.ex eb e h
 |io p=>exact Bo.ex eb e h
 |tl=>exact Bo.ex eb e h
theorem Rs.ra{K:ao}{kd:Kd}{H0 Hb H:Hp}{v:V}{d:D}(h:Rs K kd H0 Hb H v d)(hk:kd.arg=true):Ra K kd Hb H v d:=by
 cases kd with
 |dat=>exact h
 |bor=>exact h
 |new=>exact h.aaH
 |io p=>cases hk
 |tl=>cases hk
section
variable{X:Cx}{W:WQ}{kd:Kd}{ks:List Kd}{e:Expr}{es:List Expr}{m:EM}{ms:List EM}
theorem eY:DA X W [] [] []:=PA.imp pa_nil fun σ H Q ⟨Hf,Hb,ρ,R,h1,_,_⟩=>h1 [] rfl [] Hb H (Gw.refl R.eb) .nil
theorem d8(h:DE X W kd e m)(hr:DA X W ks es ms)(hp:starEach (e::es) X.env=(false,eval e X.env)::starEach es X.env:=by rfl)(hk:kd.arg=true:=by rfl):DA X W (kd::ks) (e::es) (m::ms):=PA.imp (pa_cons h hr hp) fun σ H Q ⟨Hf,Hb,ρ,R,h1,h2,h3⟩=>by
 refine⟨Hf,Hb,ρ,R,fun d hd v Hb1 H1 g1 r1=> ?_,fun c hc Hb1 H1 g1=>h2 c (by simp [m7,hc]) Hb1 H1 g1,fun z=>h3 (by simp [m7,z])⟩
 refine⟨Hf,Hb1,ρ,R.gw g1,fun ds hds vs Hb2 H2 g2 r2=>h1 (d::ds) (by simp [m7,hd,hds]) _ Hb2 H2 (g1.trans g2) (.cons ((r1.ra hk).ex g2.b g2.h) r2),fun c hc Hb2 H2 g2=>h2 c (by simp [m7,hd,hc]) Hb2 H2 (g1.trans g2),fun z=>h3 (by simp [m7,hd,z])⟩
end
theorem ni.dr{K:ao}{Hb H:Hp}:∀{ks:List Kd} {vs:List V} {ds:List D},(∀k∈ks,k= .dat)→ni K Hb H ks vs ds→iY K Hb vs ds
 |_,_,_,_, .nil=> .nil
 |_,_,_,hk, .cons a b=>by
  have e:=hk _ aY
  subst e
  exact .cons a (ni.dr (fun k hm=>hk k (aN _ hm)) b)
theorem ni.len{K:ao}{Hb H:Hp}:∀{ks:List Kd} {vs:List V} {ds:List D},ni K Hb H ks vs ds→vs.length=ds.length
 |_,_,_, .nil=>rfl
 |_,_,_, .cons _ b=>by simp [ni.len b]
def jc(ms:List EM):EM:=fun ρ=>match m7 ms ρ with
 | .ok ds=>if ds.length≤sizeLine then .ok (.tuple ds) else .bad
 | .ex c=> .ex c
 | .bad=> .bad
def kJ(ms:List EM):EM:=fun ρ=>match m7 ms ρ with
 | .ok ds=>if ds.length≤sizeLine then .ok (.list ds) else .bad
 | .ex c=> .ex c
 | .bad=> .bad
section
variable{X:Cx}{W:WQ}{ks:List Kd}{es:List Expr}{ms:List EM}{pos:Pos}
theorem iG{x1}(h:DA X W ks es ms)(hk:∀k∈ks,k= .dat:=by simp):DE X W .dat (.Tuple es x1 pos) (jc ms):=PE.imp (pe_tup h) fun σ H Q ⟨Hf,Hb,ρ,R,h1,h2,h3⟩=>by
 refine⟨Hf,Hb,ρ,R,fun ds hds vs Hb1 H1 g1 r1=> ?_,fun c hc=>h2 c (by simp [jc,hc]),fun z=>h3 (by simp [jc,z])⟩
 have r:=r1.dr hk
 by_cases hl:ds.length≤sizeLine
 ·refine⟨by rw [r1.len];exact hl,fun p hp=> ?_⟩
  have z:=Gw.tup g1.bh hp r
  exact h1 (.tuple ds) (by simp [jc,hds,hl]) _ _ _ (g1.trans z.1) z.2
 ·exact absurd (by simp [jc,hds,hl]) h3
theorem jM(h:DA X W ks es ms)(hk:∀k∈ks,k= .dat:=by simp):DE X W .new (.List es pos) (kJ ms):=PE.imp (pe_lst h) fun σ H Q ⟨Hf,Hb,ρ,R,h1,h2,h3⟩=>by
 refine⟨Hf,Hb,ρ,R,fun ds hds vs Hb1 H1 g1 r1=> ?_,fun c hc=>h2 c (by simp [kJ,hc]),fun z=>h3 (by simp [kJ,z])⟩
 have r:=r1.dr hk
 by_cases hl:ds.length≤sizeLine
 ·refine⟨by rw [r1.len];exact hl,fun p hp=> ?_⟩
  have z:=Gw.abX g1.bh hp r
  exact h1 (.list ds) (by simp [kJ,hds,hl]) _ _ _ (g1.trans z.1) (z.2.back g1.h)
 ·exact absurd (by simp [kJ,hds,hl]) h3
end
def fX:D→D→ER
 | .list ds, .int i=>(match atI ds i with
   |some d=> .ok d
   |none=> .bad)
 | .tuple ds, .int i=>(match atI ds i with
   |some d=> .ok d
   |none=> .bad)
 | .str s, .int i=>if s.length≤sizeLine then(match atI s.cps.toList i with
   |some c=> .ok (.str ⟨#[c]⟩)
   |none=> .bad) else .bad
 |_,_=> .bad
theorem Mw:lg fX:=fun x y c h=>by
 cases x<;>cases y<;>simp only [fX] at h<;>(repeat' split at h)<;>cases h
theorem Xo{K:ao}{H:Hp}{ds:List D}{vs:List V}{i:Int}{d:D}(a:iY K H vs ds)(h:atI ds i=some d):∃v,atI vs i=some v∧Dr K H v d:=by
 unfold atI at h⊢
 rw [gW a]
 cases q:ixN ds.length i with
 |none=>
  rw [q] at h
  cases h
 |some j=>
  rw [q] at h
  exact Es a h
section
variable{X:Cx}{W:WQ}{a b:Expr}{ma mb:EM}{pos:Pos}
theorem af2:IxR X (rOf X.K .dat fX):=by
 intro value slice pins s σ H x y v u Q I rx ry h hs
 obtain⟨Hb,dx,dy,d,eb,bx,byy,hg,q⟩:=h
 cases dx<;>cases dy<;>simp only [fX] at hg<;>first|cases hg;done|skip
 ·split at hg
  ·split at hg
   ·rename_i hz _ c hc
    cases hg
    exact ix_str value slice pins s σ H x y v u Q I rx ry ⟨_,_,c,bx.str,byy.int,hz,hc,q _ Hb H (Gw.refl eb) aae⟩ hs
   ·cases hg
  ·cases hg
 ·split at hg
  ·rename_i hc
   cases hg
   obtain⟨p,xs,e1,s1,a1⟩:=bx.lst eb
   obtain⟨w,w1,w2⟩:=Xo a1 hc
   exact ix_list value slice pins s σ H x y v u Q I rx ry ⟨p,xs,_,w,e1,byy.int,s1,w1,q _ Hb H (Gw.refl eb) w2⟩ hs
  ·cases hg
 ·split at hg
  ·rename_i hc
   cases hg
   obtain⟨p,xs,e1,s1,a1⟩:=bx.tup eb
   obtain⟨w,w1,w2⟩:=Xo a1 hc
   exact ix_tup value slice pins s σ H x y v u Q I rx ry ⟨p,xs,_,w,e1,byy.int,s1,w1,q _ Hb H (Gw.refl eb) w2⟩ hs
  ·cases hg
theorem fB(ha:DE X W .bor a ma)(hb:DE X W .bor b mb)(hs:PlainIx b:=by exact fun _ _=>rfl):DE X W .dat (.Subscript a b pos) (eG fX ma mb):=PE.imp (pe_ix af2 ha hb hs) fun _ _ _=>Ds Mw
end
def cutD{α:Type}(xs:List α)(lo hi:Option Int):List α:=(xs.drop (HT.sIx xs.length 0 lo)).take (HT.sIx xs.length xs.length hi-HT.sIx xs.length 0 lo)
def dSl(x:D)(lo hi:Option Int):ER:=match x with
 | .list ds=> .ok (.list (cutD ds lo hi))
 | .tuple ds=> .ok (.tuple (cutD ds lo hi))
 | .str z=>if z.length≤sizeLine then .ok (.str (cutS z lo hi)) else .bad
 |_=> .bad
inductive OR where
 |ok (o:Option Int)|ex (c:Str)|bad
def evO:Option EM→Env→OR
 |none,_=> .ok none
 |some m,ρ=>match m ρ with
  | .ok (.int i)=> .ok (some i)
  | .ok _=> .bad
  | .ex c=> .ex c
  | .bad=> .bad
def eSl(m:EM)(ml mh:Option EM):EM:=fun ρ=>(m ρ).bind fun x=>match evO ml ρ with
 | .ok lo=>(match evO mh ρ with
   | .ok hi=>dSl x lo hi
   | .ex c=> .ex c
   | .bad=> .bad)
 | .ex c=> .ex c
 | .bad=> .bad
def oOf(K:ao)(W:WQ)(m:Option EM):TO:=fun σ H Q=>∃(Hf Hb:Hp) (ρ:Env),gj K W.pin Hf Hb H σ ρ∧
 (∀o,evO m ρ= .ok o→∀Hb' H',Gw Hb H Hb' H' →Q o H')∧
 (∀c,evO m ρ= .ex c→∀Hb' H',Gw Hb H Hb' H' →W.w (.ref (He.ga K c)) none σ H')∧evO m ρ≠ .bad
abbrev DO(X:Cx)(W:WQ)(e:Option Expr)(m:Option EM):Prop:=PO X e (oOf X.K W m)
theorem PO.imp{X:Cx}{e:Option Expr}{t t' :TO}(h:PO X e t)(i:∀σ H Q,t' σ H Q→t σ H Q):PO X e t' :=⟨fun pins s σ H Q I q=>h.run pins s σ H Q I (i σ H Q q)⟩
def ai8(K:ao):V→Option Int→Option Int→Hp→VK→Prop:=fun x lo hi H Q=>∃Hb dx d,Ex Hb H∧Bo K Hb H x dx∧dSl dx lo hi= .ok d∧∀v Hb' H',Gw Hb H Hb' H' →Dr K Hb' v d→Q v H'
theorem S9{K:ao}{H:Hp}{ds:List D}{vs:List V}(lo hi:Option Int)(a:iY K H vs ds):iY K H (cutV vs lo hi) (cutD ds lo hi):=by
 unfold cutV cutD
 rw [gW a]
 exact LR _ (Qn _ a)
section
variable{X:Cx}{W:WQ}{a:Expr}{lo hi:Option Expr}{e:Expr}{m:EM}{ml mh:Option EM}{pos p2:Pos}
theorem aaY:DO X W none none:=PO.imp po_none fun σ H Q ⟨Hf,Hb,ρ,R,h1,_,_⟩=>h1 none rfl Hb H (Gw.refl R.eb)
theorem aaT(h:DE X W .bor e m):DO X W (some e) (some m):=PO.imp (po_some h) fun σ H Q ⟨Hf,Hb,ρ,R,h1,h2,h3⟩=>by
 refine⟨Hf,Hb,ρ,R,fun d hd v Hb' H' g r=> ?_,fun c hc=>h2 c (by simp [evO,hc]),fun z=>h3 (by simp [evO,z])⟩
 cases d with
 |int i=>exact⟨i,Bo.int r,h1 (some i) (by simp [evO,hd]) Hb' H' g⟩
 |_=>exact absurd (by simp [evO,hd]) h3
theorem aiB:SlR X (ai8 X.K):=by
 intro pins s σ H x v vl vu lo hi sl Q I rx hs pl pu h
 obtain⟨Hb,dx,d,eb,bx,hg,q⟩:=h
 cases dx<;>simp only [dSl] at hg<;>first|cases hg;done|skip
 ·split at hg
  ·rename_i hz
   cases hg
   exact sl_str pins s σ H x v vl vu lo hi sl Q I rx hs pl pu ⟨_,bx.str,hz,q _ Hb H (Gw.refl eb) (.str _)⟩
  ·cases hg
 ·cases hg
  obtain⟨p,xs,e1,s1,a1⟩:=bx.lst eb
  refine sl_list pins s σ H x v vl vu lo hi sl Q I rx hs pl pu ⟨p,xs,e1,s1,fun r hr=> ?_⟩
  have z:=Gw.lst eb hr (S9 lo hi a1)
  exact q _ _ _ z.1 z.2
 ·cases hg
  obtain⟨p,xs,e1,s1,a1⟩:=bx.tup eb
  refine sl_tupA pins s σ H x v vl vu lo hi sl Q I rx hs pl pu ⟨p,xs,e1,s1,fun hw=> ?_,fun _ r hr=> ?_⟩
  ·rename_i ds
   have e2:cutD ds lo hi=ds:=by
    unfold cutD
    rw [gW a1] at hw
    rw [hw.1,hw.2]
    simp
   rw [e2] at q
   rcases bx with b2|⟨_,_,_,_,b2⟩
   ·rw [←e1]
    exact q _ Hb H (Gw.refl eb) b2
   ·cases b2
  ·have z:=Gw.tup eb hr (S9 lo hi a1)
   exact q _ _ _ z.1 z.2
theorem afS(ha:DE X W .bor a m)(hl:DO X W lo ml)(hh:DO X W hi mh):DE X W .dat (.Subscript a (.Slice lo hi none p2) pos) (eSl m ml mh):=PE.imp (pe_slice aiB ha hl hh) fun σ H Q ⟨Hf,Hb,ρ,R,h1,h2,h3⟩=>by
 refine⟨Hf,Hb,ρ,R,fun d hd v Hb1 H1 g1 r1=> ?_,fun c hc=>h2 c (by simp [eSl,hc,ER.bind]),fun z=>h3 (by simp [eSl,z,ER.bind])⟩
 refine⟨Hf,Hb1,ρ,R.gw g1,fun o ho Hb2 H2 g2=> ?_,fun c hc Hb2 H2 g2=>h2 c (by simp [eSl,hd,hc,ER.bind]) Hb2 H2 (g1.trans g2),fun z=>h3 (by simp [eSl,hd,z,ER.bind])⟩
 refine⟨Hf,Hb2,ρ,R.gw (g1.trans g2),fun o2 ho2 Hb3 H3 g3=> ?_,fun c hc Hb3 H3 g3=>h2 c (by simp [eSl,hd,ho,hc,ER.bind]) Hb3 H3 ((g1.trans g2).trans g3),fun z=>h3 (by simp [eSl,hd,ho,z,ER.bind])⟩
 have e:eSl m ml mh ρ=dSl d o o2:=by simp [eSl,hd,ho,ho2,ER.bind]
 rw [e] at h1 h2 h3
 cases q:dSl d o o2 with
 |bad=>exact absurd q h3
 |ex c=>
  exfalso
  cases d<;>simp only [dSl] at q<;>first|cases q;done|(split at q<;>cases q)
 |ok z=>exact⟨Hb3,d,z,g3.bh,Bo.ex (g2.b.trans g3.b) (g2.h.trans g3.h) r1,q,fun v Hb4 H4 g4 r4=>h1 z q v Hb4 H4 (((g1.trans g2).trans g3).trans g4) r4⟩
end
end DL
namespace DL
open PySem L2 Evl
def cOf(K:ao)(kd:Kd)(g:List D→ER):List V→Hp→VK→Prop:=fun vs H Q=>∃Hb ks ds d,Ex Hb H∧ni K Hb H ks vs ds∧g ds= .ok d∧∀v Hb' H',Gw Hb H Hb' H' →Rs K kd H Hb' H' v d→Q v H'
abbrev CallD(X:Cx)(f:Value)(kd:Kd)(g:List D→ER):Prop:=CallR X f (cOf X.K kd g)
def Cg(g:List D→ER):Prop:=∀ds c,g ds≠ .ex c
def fu(g:List D→ER)(ms:List EM):EM:=fun ρ=>match m7 ms ρ with
 | .ok ds=>g ds
 | .ex c=> .ex c
 | .bad=> .bad
theorem Q6{K:ao}{W:WQ}{kd:Kd}{g:List D→ER}{ks:List Kd}{ms:List EM}(ng:Cg g){σ:L2.St}{H:Hp}{Q:VK}(h:BV K W kd (fu g ms) σ H Q):tCB (cOf K kd g) (aOf K W ks ms) σ H Q:=by
 obtain⟨Hf,Hb,ρ,R,h1,h2,h3⟩:=h
 refine⟨Hf,Hb,ρ,R,fun ds hds vs Hb1 H1 g1 r1=> ?_,fun c hc=>h2 c (by simp [fu,hc]),fun z=>h3 (by simp [fu,z])⟩
 have e:fu g ms ρ=g ds:=by simp [fu,hds]
 rw [e] at h1 h3
 cases q:g ds with
 |bad=>exact absurd q h3
 |ex c=>exact absurd q (ng _ _)
 |ok z=>exact⟨Hb1,ks,ds,z,g1.bh,r1,q,fun v Hb2 H2 g2 r2=>h1 z q v Hb2 H2 (g1.trans g2) (r2.back g1.h)⟩
section
variable{X:Cx}{W:WQ}{kd:Kd}{ks:List Kd}{x:Str}{p pos:Pos}{e:Expr}{es:List Expr}{ms:List EM}{id T:String}{g:List D→ER}
theorem gJ(hc:CallD X (.builtin id) kd g)(ng:Cg g)(hm:X.mg x=none)(hv:bootBuiltins x=some (.builtin id))(ha:DA X W ks (e::es) ms)(hg:Gl X x:=by rfl)(hn:x≠"__name__":=by decide)(hdb:(x==("__debug__":Str))=false:=by decide)
 (he:starEach (e::es) X.env=(false,eval e X.env)::starEach es X.env:=by rfl) (hpl:(backTo pos (starEach es X.env)).any (·.1)=false:=by rfl):DE X W kd (.Call (.Name x p) (e::es) [] pos) (fu g ms):=
 PE.imp (pe_callB hc hg hm hv ha hn hdb he hpl) fun _ _ _=>Q6 ng
theorem jL(hc:CallD X (.type T) kd g)(ng:Cg g)(hm:X.mg x=none)(hv:bootBuiltins x=some (.type T))(ha:DA X W ks (e::es) ms)(hg:Gl X x:=by rfl)(hn:x≠"__name__":=by decide)(hdb:(x==("__debug__":Str))=false:=by decide)
 (he:starEach (e::es) X.env=(false,eval e X.env)::starEach es X.env:=by rfl) (hpl:(backTo pos (starEach es X.env)).any (·.1)=false:=by rfl):DE X W kd (.Call (.Name x p) (e::es) [] pos) (fu g ms):=
 PE.imp (pe_callTy hc hg hm hv ha hn hdb he hpl) fun _ _ _=>Q6 ng
end
theorem Ra.bo{K:ao}{kd:Kd}{Hb H:Hp}{v:V}{d:D}(h:Ra K kd Hb H v d):Bo K Hb H v d:=by
 cases kd with
 |dat=>exact .inl h
 |new=>exact h
 |bor=>exact h
 |io p=>exact h
 |tl=>exact h
theorem ra1{K:ao}{Hb H:Hp}{ks:List Kd}{vs:List V}{d:D}(h:ni K Hb H ks vs [d]):∃v,vs=[v]∧Bo K Hb H v d:=by
 cases h with
 |cons a b=>
  cases b
  exact⟨_,rfl,a.bo⟩
theorem ra2{K:ao}{Hb H:Hp}{ks:List Kd}{vs:List V}{d e:D}(h:ni K Hb H ks vs [d,e]):∃v w,vs=[v,w]∧Bo K Hb H v d∧Bo K Hb H w e:=by
 cases h with
 |cons a b=>
  cases b with
  |cons c b=>
   cases b
   exact⟨_,_,rfl,a.bo,c.bo⟩
def jr:List D→ER
 |[.list ds]=> .ok (.int ds.length)
 |[.tuple ds]=> .ok (.int ds.length)
 |[.str z]=>if z.length≤sizeLine then .ok (.int z.length) else .bad
 |_=> .bad
def Iv:List D→ER
 |[.int i, .int j]=> .ok (.int (if j<i then j else i))
 |_=> .bad
def aaK:List D→ER
 |[.int i, .int j]=>if 0<j∧j.natAbs.log2<9000 then .ok (.tuple [.int (i/j), .int (i%j)]) else .bad
 |_=> .bad
def qd:List D→ER
 |[.list ds]=> .ok (.list ds)
 |[.tuple ds]=> .ok (.list ds)
 |_=> .bad
def mK:List D→ER
 |[.list ds]=> .ok (.tuple ds)
 |[.tuple ds]=> .ok (.tuple ds)
 |_=> .bad
def toInts:List D→Option (List Int)
 |[]=>some []
 | .int i::r=>(toInts r).map (i::·)
 |_=>none
def Va(n:Int)(ns:List Int):Int:=ns.foldl max n
theorem aar:∀(ns:List Int) (n:Int),n≤Va n ns∧∀y∈ns,y≤Va n ns
 |[],n=>⟨Int.le_refl _,fun y h=>by cases h⟩
 |m::ns,n=>by
  have ih:=aar ns (max n m)
  show n≤Va (max n m) ns∧∀y∈m::ns,y≤Va (max n m) ns
  refine⟨by omega,fun y hy=> ?_⟩
  rcases aO.mp hy with h|h
  ·omega
  ·exact ih.2 y h
theorem Pj:∀(ns:List Int) (n:Int),Va n ns∈n::ns
 |[],n=>aM.mpr rfl
 |m::ns,n=>by
  have ih:=Pj ns (max n m)
  show Va (max n m) ns∈n::m::ns
  rcases aO.mp ih with h|h
  ·rcases Int.le_total n m with z|z
   ·rw [h,Int.max_eq_right z]
    exact aN _ aY
   ·rw [h,Int.max_eq_left z]
    exact aY
  ·exact aN _ (aN _ h)
def QF:List D→ER
 |[.int i, .int j]=> .ok (.int (if j>i then j else i))
 |[.list ds]=>(match toInts ds with
  |some (n::ns)=> .ok (.int (Va n ns))
  |_=> .bad)
 |_=> .bad
theorem Kf{K:ao}{H:Hp}:∀{ds:List D} {vs:List V} {ns:List Int},toInts ds=some ns→iY K H vs ds→vs=ns.map V.int
 |[],_,_,h, .nil=>by
  cases h
  rfl
 | .int i::r,_,_,h, .cons a b=>by
   simp only [toInts] at h
   cases q:toInts r with
   |none=>
    rw [q] at h
    cases h
   |some m=>
    rw [q] at h
    cases h
    cases a
    rw [Kf q b]
    rfl
 | .none::_,_,_,h,_=>by cases h
 | .bool _::_,_,_,h,_=>by cases h
 | .str _::_,_,_,h,_=>by cases h
 | .list _::_,_,_,h,_=>by cases h
 | .tuple _::_,_,_,h,_=>by cases h
 | .dict _::_,_,_,h,_=>by cases h
theorem jm:Cg jr:=fun ds c h=>by
 unfold jr at h
 repeat' split at h
 all_goals cases h
theorem Vi:Cg Iv:=fun ds c h=>by
 unfold Iv at h
 repeat' split at h
 all_goals cases h
theorem ac3:Cg QF:=fun ds c h=>by
 unfold QF at h
 repeat' split at h
 all_goals cases h
theorem yJ:Cg qd:=fun ds c h=>by
 unfold qd at h
 repeat' split at h
 all_goals cases h
theorem qj:Cg mK:=fun ds c h=>by
 unfold mK at h
 repeat' split at h
 all_goals cases h
section
variable{X:Cx}
theorem jk:CallD X (.builtin "len") .dat jr:=by
 intro pins s σ H vs us Q I r h
 obtain⟨Hb,ks,ds,d,eb,ra,hg,q⟩:=h
 unfold jr at hg
 split at hg
 ·cases hg
  obtain⟨v,rfl,b⟩:=ra1 ra
  obtain⟨p,xs,e1,s1,a1⟩:=b.lst eb
  exact call_len pins s σ H _ us Q I r ⟨v,xs.length,rfl,by rw [e1];exact .inl ⟨xs,s1,rfl⟩,by rw [gW a1];exact q _ Hb H (Gw.refl eb) qN⟩
 ·cases hg
  obtain⟨v,rfl,b⟩:=ra1 ra
  obtain⟨p,xs,e1,s1,a1⟩:=b.tup eb
  exact call_len pins s σ H _ us Q I r ⟨v,xs.length,rfl,by rw [e1];exact .inr ⟨xs,s1,rfl⟩,by rw [gW a1];exact q _ Hb H (Gw.refl eb) qN⟩
 ·split at hg
  ·rename_i hz
   cases hg
   obtain⟨v,rfl,b⟩:=ra1 ra
   exact call_len pins s σ H _ us Q I r ⟨v,_,rfl,by rw [b.str];exact⟨hz,rfl⟩,q _ Hb H (Gw.refl eb) qN⟩
  ·cases hg
 ·cases hg
theorem Vq(hc:X.calm=true):CallD X (.builtin "min") .dat Iv:=by
 intro pins s σ H vs us Q I r h
 obtain⟨Hb,ks,ds,d,eb,ra,hg,q⟩:=h
 unfold Iv at hg
 split at hg
 ·cases hg
  obtain⟨v,w,rfl,b1,b2⟩:=ra2 ra
  exact call_min2 hc pins s σ H _ us Q I r ⟨_,_,by rw [b1.int,b2.int],q _ Hb H (Gw.refl eb) qN⟩
 ·cases hg
theorem acB(hc:X.calm=true):CallD X (.builtin "max") .dat QF:=by
 intro pins s σ H vs us Q I r h
 obtain⟨Hb,ks,ds,d,eb,ra,hg,q⟩:=h
 unfold QF at hg
 split at hg
 ·cases hg
  obtain⟨v,w,rfl,b1,b2⟩:=ra2 ra
  exact call_max2 hc pins s σ H _ us Q I r ⟨_,_,by rw [b1.int,b2.int],q _ Hb H (Gw.refl eb) qN⟩
 ·split at hg
  ·rename_i n ns hn
   cases hg
   obtain⟨v,rfl,b1⟩:=ra1 ra
   obtain⟨p,xs,e1,s1,a1⟩:=b1.lst eb
   rw [Kf hn a1] at s1
   refine cr_max hc pins s σ H _ us Q I r ⟨p,n::ns,by rw [e1],s1,by simp,fun m h1 h2=> ?_⟩
   have e2:m=Va n ns:=by
    have z1:=h2 _ (Pj ns n)
    have z2:=aar ns n
    rcases aO.mp h1 with z|z
    ·omega
    ·have:=z2.2 m z
     omega
   rw [e2]
   exact q _ Hb H (Gw.refl eb) qN
  ·cases hg
 ·cases hg
theorem yN:CallD X (.type "list") .new qd:=by
 intro pins s σ H vs us Q I r h
 obtain⟨Hb,ks,ds,d,eb,ra,hg,q⟩:=h
 unfold qd at hg
 split at hg
 ·cases hg
  obtain⟨v,rfl,b1⟩:=ra1 ra
  obtain⟨p,xs,e1,s1,a1⟩:=b1.lst eb
  subst e1
  refine call_list_of pins s σ H _ us Q I r ⟨p,xs,rfl, .inl s1,fun l hl=> ?_⟩
  have z:=Gw.abX eb hl a1
  exact q _ _ _ z.1 z.2
 ·cases hg
  obtain⟨v,rfl,b1⟩:=ra1 ra
  obtain⟨p,xs,e1,s1,a1⟩:=b1.tup eb
  subst e1
  refine call_list_of pins s σ H _ us Q I r ⟨p,xs,rfl, .inr s1,fun l hl=> ?_⟩
  have z:=Gw.abX eb hl a1
  exact q _ _ _ z.1 z.2
 ·cases hg
theorem qu:CallD X (.type "tuple") .dat mK:=by
 intro pins s σ H vs us Q I r h
 obtain⟨Hb,ks,ds,d,eb,ra,hg,q⟩:=h
 unfold mK at hg
 split at hg
 ·cases hg
  obtain⟨v,rfl,b1⟩:=ra1 ra
  obtain⟨p,xs,e1,s1,a1⟩:=b1.lst eb
  subst e1
  refine call_tuple_of pins s σ H _ us Q I r ⟨p,xs,rfl, .inl ⟨s1,fun l hl=> ?_⟩⟩
  have z:=Gw.tup eb hl a1
  exact q _ _ _ z.1 z.2
 ·cases hg
  obtain⟨v,rfl,b1⟩:=ra1 ra
  obtain⟨p,xs,e1,s1,a1⟩:=b1.tup eb
  subst e1
  refine call_tuple_of pins s σ H _ us Q I r ⟨p,xs,rfl, .inr ⟨s1,q _ Hb H (Gw.refl eb) ?_⟩⟩
  rcases b1 with b|⟨_,_,_,_,b⟩
  ·exact b
  ·cases b
 ·cases hg
end
def zj:D→String
 | .none=>"NoneType"
 | .bool _=>"bool"
 | .int _=>"int"
 | .str _=>"str"
 | .list _=>"list"
 | .tuple _=>"tuple"
 | .dict _=>"dict"
def isT(T:String):D→Bool
 | .none=>T=="NoneType"
 | .bool _=>T=="bool"||T=="int"
 | .int _=>T=="int"
 | .str _=>T=="str"
 | .list _=>T=="list"
 | .tuple _=>T=="tuple"
 | .dict _=>T=="dict"
def Ae(T:String)(m:EM):EM:=fun ρ=>(m ρ).bind fun d=> .ok (.bool (isT T d))
theorem HY(T:String)(h:(["NoneType","bool","int","str","list","tuple","dict"].map fun n=>kitB n T)=[some (T=="NoneType"),some (T=="bool"||T=="int"),some (T=="int"),some (T=="str"),some (T=="list"),some (T=="tuple"),some (T=="dict")])(d:D):kitB (zj d) T=some (isT T d):=by
 simp only [bf,dN,List.cons.injEq] at h
 obtain⟨h1,h2,h3,h4,h5,h6,h7,_⟩:=h
 cases d<;>assumption
theorem afA(d:D):kitB (zj d) "int"=some (isT "int" d):=HY "int" (by decide+kernel) d
theorem LC(d:D):kitB (zj d) "str"=some (isT "str" d):=HY "str" (by decide+kernel) d
theorem adP(d:D):kitB (zj d) "bool"=some (isT "bool" d):=HY "bool" (by decide+kernel) d
theorem acj(d:D):kitB (zj d) "list"=some (isT "list" d):=HY "list" (by decide+kernel) d
theorem kit_tuple(d:D):kitB (zj d) "tuple"=some (isT "tuple" d):=HY "tuple" (by decide+kernel) d
inductive TyY(K:ao)(H:Hp):V→Value→Prop where
 |x {v:V} {t:Value} (h:TyX K H v t):TyY K H v t
 |fT {a:Addr} {o:Obj} {kvs:List (List Key×V)} (e:H a=some (.frz o (.dT kvs))):TyY K H (.ref a) (.type "dict")
def aiE(K:ao):List V→Hp→VK→Prop:=fun xs H Q=>∃(x c:V) (t u:Value) (b:Bool),xs=[x,c]∧ClsV c u∧TyY K H x t∧PySem.W.kitOne K t u=some b∧Q (.bl b) H
theorem aex{X:Cx}{pins:List (Addr×Obj)}{σ:L2.St}{H:Hp}{s:Shared}{x:V}{u t:Value}(I:Inv X pins σ H s)(rx:RelV x u)(ty:TyY X.K H x t):∃P:Heap→Prop,PySem.W.KitX X.K u t P∧P s.heap∧u≠ .builtin "__main__.__loader__#opaque":=by
 cases ty with
 |x h=>exact kit_of I rx h
 | @fT a ob kvs e=>
   cases(show u=Value.ref a from rx)
   obtain⟨_,_,_,xs,_,o,es,ep,h1,h2,_⟩:=(show ObjOk X.prog X.w H s.heap a (.frz ob (.dT kvs)) from I.hok a _ e)
   exact⟨_,PySem.W.kitx_dict,⟨o,h1,h2.1⟩,fun z=>nomatch z⟩
theorem ab2{X:Cx}:CallR X (.builtin "isinstance") (aiE X.K):=by
 intro pins s σ H xs us Q I r h
 obtain⟨x,c,t,u,b,rfl,k,ty,e,q⟩:=h
 obtain⟨u1,u2,rfl,r1,r2⟩:=vals2 r
 have e2:=k.eq r2
 subst e2
 obtain⟨P,Z,p,hx⟩:=aex I r1 ty
 exact PySem.W.kia_one Z I.kIn p e hx fun tk=>⟨.bl b,H,I.tok tk,rfl,q⟩
theorem Bo.ty{K:ao}{Hb H:Hp}{v:V}{d:D}(eb:Ex Hb H)(h:Bo K Hb H v d):TyY K H v (.type (zj d)):=by
 rcases h with h|⟨p,h1,o,h2,h3⟩
 ·cases h with
  |non=>exact .x (.base .non)
  |bl b=>exact .x (.base (.bl b))
  |int b=>exact .x (.base (.int b))
  |str b=>exact .x (.base (.str b))
  |lst a b=>
   rcases a with(a|⟨o,a⟩)|⟨o,_,_,a,c,_⟩
   ·exact .x (.base (.lst (eb _ _ a)))
   ·exact .x (.base (.frz (eb _ _ a)))
   ·exact .x (.kList a c)
  |tup a b=>exact .x (.base (.tup (eb _ _ a)))
  |dict0 a=>
   rcases a with a|⟨o,a⟩
   ·exact .x (.base (.dK (eb _ _ a)))
   ·exact .x (.fDict (eb _ _ a))
  |Br a b=>exact .x (.fDict (eb _ _ a))
  |Gq a b=>exact .fT (eb _ _ a)
 ·subst h1
  cases h3 with
  |lst a=>
   rcases h2 with h2|⟨_,kvs,z⟩
   ·exact .x (.base (.lst h2))
   ·cases z
  |dK a=>
   rcases h2 with h2|⟨⟨od,h2⟩,_⟩
   ·exact .x (.base (.dK h2))
   ·exact .x (.fDict h2)
  |dT a=>
   rcases h2 with h2|⟨_,kvs,z⟩
   ·exact .x (.base (.dT h2))
   ·cases z
section
variable{X:Cx}{W:WQ}{a:Expr}{m:EM}{p p2 pos:Pos}
theorem vN(T:String){x:Str}(hT:bootBuiltins x=some (.type T))(hk:∀d,kitB (zj d) T=some (isT T d))(hm:X.mg "isinstance"=none)(hmx:X.mg x=none)(ha:DE X W .bor a m)(hg:Gl X "isinstance":=by rfl)(hgx:Gl X x:=by rfl)
 (hn:x≠"__name__":=by decide) (hdb:(x==("__debug__":Str))=false:=by decide)
 (hs:starEach [a, .Name x p2] X.env=(false,eval a X.env)::starEach [.Name x p2] X.env:=by rfl) (hs2:starEach [.Name x p2] X.env=(false,eval (.Name x p2) X.env)::starEach [] X.env:=by rfl)
 (hpl:(backTo pos (starEach [.Name x p2] X.env)).any (·.1)=false:=by rfl):DE X W .dat (.Call (.Name "isinstance" p) [a, .Name x p2] [] pos) (Ae T m):=
 PE.imp (pe_callB ab2 hg hm PyProof.Rows.boot_isinstance (pa_cons ha (pa_cons (pe_bltn (v:= .ty T) hgx hmx hT rfl hn hdb) pa_nil hs2) hs) (by decide) (by decide) hs hpl) fun σ H Q ⟨Hf,Hb,ρ,R,h1,h2,h3⟩=>by
  refine⟨Hf,Hb,ρ,R,fun d hd v Hb1 H1 g1 r1=> ?_,fun c hc=>h2 c (by simp [Ae,hc,ER.bind]),fun z=>h3 (by simp [Ae,z,ER.bind])⟩
  exact⟨v, .ty T, .type (zj d), .type T,isT T d,rfl, .ty T,Bo.ty g1.bh r1,kit_ty (hk d),h1 (.bool (isT T d)) (by simp [Ae,hd,ER.bind]) _ Hb1 H1 g1 mJ⟩
end
def sE(K:ao)(ks:List Kd)(rk:Kd)(m:List D→ER):Sp:=fun vs H Q E=>∃Hb ds,Ex Hb H∧ni K Hb H ks vs ds∧
 (∀d,m ds= .ok d→∀v Hb' H',Gw Hb H Hb' H' →Rs K rk H Hb' H' v d→Q v H')∧(∀c,m ds= .ex c→∀Hb' H',Gw Hb H Hb' H' →E (.ref (He.ga K c)) none H')∧m ds≠ .bad
theorem adi{K:ao}{W:WQ}{rk:Kd}{g:List D→ER}{ks:List Kd}{ms:List EM}{σ:L2.St}{H:Hp}{Q:VK}(h:BV K W rk (fu g ms) σ H Q):tCallS (sE K ks rk g) (WE W.w) (aOf K W ks ms) σ H Q:=by
 obtain⟨Hf,Hb,ρ,R,h1,h2,h3⟩:=h
 refine⟨Hf,Hb,ρ,R,fun ds hds vs Hb1 H1 g1 r1=> ?_,fun c hc=>h2 c (by simp [fu,hc]),fun z=>h3 (by simp [fu,z])⟩
 have e:fu g ms ρ=g ds:=by simp [fu,hds]
 rw [e] at h1 h2 h3
 exact⟨Hb1,ds,g1.bh,r1,fun d hd v Hb2 H2 g2 r2=>h1 d hd v Hb2 H2 (g1.trans g2) (r2.back g1.h),fun c hc Hb2 H2 g2=>h2 c hc Hb2 H2 (g1.trans g2),h3⟩
section
variable{X:Cx}{W:WQ}{rk:Kd}{ks:List Kd}{x:Str}{p pos:Pos}{e:Expr}{es:List Expr}{ms:List EM}{g:List D→ER}{k:Nat}{f:Addr}{fd:FuncData}{ps:List Str}
theorem afB(F:FnOk X.prog X.w X.K X.mg X.base (L2.CX X.prog X.w) k f fd ps (sE X.K ks rk g))(hr:Room k X.A)(hm:X.mg x=some (.ref f))(hk:PySem.W.keepIn X.K (.ref f)=true)(hb:Binds X.K fd ps [])(tk:Takes X W.w)
 (ha:DA X W ks (e::es) ms) (hg:Gl X x:=by rfl) (hdb:(x==("__debug__":Str))=false:=by decide) (he:starEach (e::es) X.env=(false,eval e X.env)::starEach es X.env:=by rfl) (hpl:(backTo pos (starEach es X.env)).any (·.1)=false:=by rfl):
 DE X W rk (.Call (.Name x p) (e::es) [] pos) (fu g ms):=
 PE.imp (pe_callS F hr hg hm hk hb (fun σ=>passAt tk σ) ha hdb he hpl) fun _ _ _=>adi
end
end DL
namespace DL
open PySem L2 Evl
structure Bw(Hf Hb Hb' H' :Hp):Prop where
 b:Ex Hb Hb'
 bh:Ex Hb' H'
 nw:∀a,Hb a=none→NT (Hf a)→Hb' a=none
theorem Bw.refl{Hf Hb H:Hp}(e:Ex Hb H):Bw Hf Hb Hb H:=⟨Ex.refl _,e,fun _ h _=>h⟩
theorem Bw.trans{Hf Hb Hb1 H1 Hb2 H2:Hp}(g:Bw Hf Hb Hb1 H1)(k:Bw Hf Hb1 Hb2 H2):Bw Hf Hb Hb2 H2:=
 ⟨g.b.trans k.b,k.bh,fun a h1 h2=>k.nw a (g.nw a h1 h2) h2⟩
theorem Gw.bw{Hf Hb H Hb' H' :Hp}(g:Gw Hb H Hb' H')(e:Ex Hf H):Bw Hf Hb Hb' H' :=⟨g.b,g.bh,fun a h1 h2=>g.nw a h1 (J5 e h2)⟩
theorem Bw.upd{Hf Hb H:Hp}{p:Addr}{o:HO}(e:Ex Hb H)(hb:Hb p=none):Bw Hf Hb Hb (L2.upd H p o):=
 ⟨Ex.refl _,fun a u q=>by rw [upd_ne (ne_of_none q hb)];exact e a u q,fun _ h _=>h⟩
def kY(K:ao)(W:WQ)(rk:Kd)(Hf Hb H:Hp)(E:Ends):Out→Prop
 | .nx ρ=>∀σ' Hb' H',gj K W.pin Hf Hb' H' σ' ρ→Bw Hf Hb Hb' H' →E.nx σ' H'
 | .bk ρ=>∀σ' Hb' H',gj K W.pin Hf Hb' H' σ' ρ→Bw Hf Hb Hb' H' →E.bk σ' H'
 | .ct ρ=>∀σ' Hb' H',gj K W.pin Hf Hb' H' σ' ρ→Bw Hf Hb Hb' H' →E.ct σ' H'
 | .rt d=>∀v Hb' H',Ex Hf H' →Bw Hf Hb Hb' H' →Rs K rk Hf Hb' H' v d→E.rt v H'
 | .rx d ρ=>∀v σ' Hb' H',gj K W.pin Hf Hb' H' σ' ρ→Bw Hf Hb Hb' H' →Dr K Hb' v d→E.rt v H'
 | .ex c ρ=>∀σ' Hb' H',gj K W.pin Hf Hb' H' σ' ρ→Bw Hf Hb Hb' H' →W.w (.ref (He.ga K c)) none σ' H'
 | .bad=>False
def sOf(K:ao)(W:WQ)(rk:Kd)(m:SM):TS:=fun E σ H=>∃(Hf Hb:Hp) (ρ:Env),gj K W.pin Hf Hb H σ ρ∧kY K W rk Hf Hb H E (m ρ)
abbrev DS(X:Cx)(W:WQ)(rk:Kd)(st:Stmt)(m:SM):Prop:=PS X st (sOf X.K W rk m)
abbrev WD(X:Cx)(W:WQ)(rk:Kd)(st:List Stmt)(m:SM):Prop:=PSs X st (sOf X.K W rk m)
theorem kY.weak{K:ao}{W:WQ}{rk:Kd}{Hf Hb H Hb1 H1:Hp}{E:Ends}{r:Out}(g:Bw Hf Hb Hb1 H1)(h:kY K W rk Hf Hb H E r):kY K W rk Hf Hb1 H1 E r:=by
 cases r with
 |nx ρ=>exact fun σ' Hb' H' R b=>h σ' Hb' H' R (g.trans b)
 |bk ρ=>exact fun σ' Hb' H' R b=>h σ' Hb' H' R (g.trans b)
 |ct ρ=>exact fun σ' Hb' H' R b=>h σ' Hb' H' R (g.trans b)
 |rt d=>exact fun v Hb' H' e b r=>h v Hb' H' e (g.trans b) r
 |rx d ρ=>exact fun v σ' Hb' H' R b r=>h v σ' Hb' H' R (g.trans b) r
 |ex c ρ=>exact fun σ' Hb' H' R b=>h σ' Hb' H' R (g.trans b)
 |bad=>exact h
def fU:SM:=fun ρ=> .nx ρ
def fH(a b:SM):SM:=fun ρ=>match a ρ with
 | .nx ρ' =>b ρ'
 |r=>r
def gD(i:Nat)(m:EM):SM:=fun ρ=>match m ρ with
 | .ok d=> .nx (ρ.set i (.dat d))
 | .ex c=> .ex c ρ
 | .bad=> .bad
def j7(i:Nat)(m:EM):SM:=fun ρ=>match m ρ with
 | .ok d=> .nx (ρ.set i (.own d))
 | .ex c=> .ex c ρ
 | .bad=> .bad
def rZ(m:EM):SM:=fun ρ=>match m ρ with
 | .ok _=> .nx ρ
 | .ex c=> .ex c ρ
 | .bad=> .bad
def gG(m:EM):SM:=fun ρ=>match m ρ with
 | .ok d=> .rt d
 | .ex c=> .ex c ρ
 | .bad=> .bad
def Ft(i:Nat):SM:=fun ρ=>match ρ[i]? with
 |some (.own d)=> .rt d
 |_=> .bad
def ad8(i:Nat):SM:=fun ρ=>match ρ[i]? with
 |some (.own (.list ds))=> .rt (.list ds)
 |_=> .bad
def je(c:EM)(a b:SM):SM:=fun ρ=>match c ρ with
 | .ok (.bool true)=>a ρ
 | .ok (.bool false)=>b ρ
 | .ok _=> .bad
 | .ex c=> .ex c ρ
 | .bad=> .bad
def sG(i:Nat)(m:EM):SM:=fun ρ=>match ρ[i]? with
 |some (.own (.list ds))=>(match m ρ with
  | .ok d=>if ds.length<sizeLine then .nx (ρ.set i (.own (.list (ds++[d])))) else .bad
  | .ex c=> .ex c ρ
  | .bad=> .bad)
 |_=> .bad
def zm(c:Str):SM:=fun ρ=> .ex c ρ
abbrev GM:=D→Env→Option Env
def gN(i:Nat):GM:=fun d ρ=>some (ρ.set i (.dat d))
def gTs:List GM→List D→Env→Option Env
 |[],[],ρ=>some ρ
 |g::gs,d::ds,ρ=>(g d ρ).bind fun ρ' =>gTs gs ds ρ'
 |_,_,_=>none
def gT(gs:List GM):GM:=fun d ρ=>match d with
 | .tuple ds=>gTs gs ds ρ
 |_=>none
def nq(g:GM)(m:EM):SM:=fun ρ=>match m ρ with
 | .ok d=>(match g d ρ with
   |some ρ' => .nx ρ'
   |none=> .bad)
 | .ex c=> .ex c ρ
 | .bad=> .bad
def yE(g:GM)(body:SM):List D→SM
 |[],ρ=> .nx ρ
 |d::r,ρ=>match g d ρ with
  |none=> .bad
  |some ρ1=>match body ρ1 with
   | .nx ρ2=>yE g body r ρ2
   | .ct ρ2=>yE g body r ρ2
   | .bk ρ2=> .nx ρ2
   |o=>o
def nD(mi:Env→AR)(g:GM)(body:SM):SM:=fun ρ=>match mi ρ with
 | .ok ds=>yE g body ds ρ
 | .ex c=> .ex c ρ
 | .bad=> .bad
@[irreducible] def FUEL:Nat:=2 ^ 100
def qK(c:EM)(body:SM):Nat→SM
 |0,_=> .bad
 |n+1,ρ=>match c ρ with
  | .ok (.bool true)=>(match body ρ with
    | .nx ρ2=>qK c body n ρ2
    | .ct ρ2=>qK c body n ρ2
    | .bk ρ2=> .nx ρ2
    |o=>o)
  | .ok (.bool false)=> .nx ρ
  | .ok _=> .bad
  | .ex c=> .ex c ρ
  | .bad=> .bad
def zB(c:EM)(body:SM):SM:=qK c body FUEL
section
variable{X:Cx}{W:WQ}{rk kd:Kd}{st:Stmt}{rest a b:List Stmt}{e c:Expr}{m1 m2 ma mb:SM}{m mc:EM}{pos:Pos}
theorem fM:WD X W rk [] fU:=PSs.imp pss_nil fun E σ H ⟨Hf,Hb,ρ,R,h⟩=>h σ Hb H R (Bw.refl R.eb)
theorem eO(h1:DS X W rk st m1)(h2:WD X W rk rest m2):WD X W rk (st::rest) (fH m1 m2):=PSs.imp (pss_cons h1 h2) fun E σ H ⟨Hf,Hb,ρ,R,h⟩=>by
 refine⟨Hf,Hb,ρ,R,?_⟩
 unfold fH at h
 cases q:m1 ρ with
 |nx ρ' =>
  rw [q] at h
  exact fun σ' Hb' H' R' b=>⟨Hf,Hb',ρ',R',kY.weak b h⟩
 |rt d=>
  rw [q] at h
  exact h
 |rx d ρ' =>
  rw [q] at h
  exact h
 |bk d=>
  rw [q] at h
  exact h
 |ct d=>
  rw [q] at h
  exact h
 |ex c d=>
  rw [q] at h
  exact h
 |bad=>
  rw [q] at h
  exact h
theorem eV(h1:DS X W rk st m1):WD X W rk [st] m1:=pss_one h1
theorem fW{i:Nat}{x:Str}{pos' :Pos}(hN:X.N.Nodup)(he:DE X W .dat e m)(hi:X.N[i]? =some x:=by rfl)(hx:Loc X.env.scope x:=by first|exact Or.inl rfl|exact Or.inr rfl)(hs:swapsWith e (some (.Name x pos')) pos.line X.env=pure false:=by rfl)
 (hf:X.fn x=true∨X.env.scope.names.lookup x=some .local:=by first|exact .inl rfl|exact .inr rfl|assumption) (ho:xM W.pin i:=by intro _ z;first|(cases z;done)|exact absurd (dO z).1 (by decide)|(simp at z;done)):DS X W rk (.Assign [.Name x pos'] e pos) (gD i m):=PS.imp (ps_set hN hi hx he hs hf) fun E σ H ⟨Hf,Hb,ρ,R,h⟩=>by
 refine⟨Hf,Hb,ρ,R,fun d hd v Hb' H' g r=> ?_,fun c hc Hb' H' g=> ?_,fun z=> ?_⟩
 ·simp only [gD,hd] at h
  exact h _ Hb' H' ((R.gw g).Ji ho r) (g.bw R.ef)
 ·simp only [gD,hc] at h
  exact h _ Hb' H' (R.gw g) (g.bw R.ef)
 ·simp only [gD,z] at h
  exact h
theorem jR{i:Nat}{x:Str}{pos' :Pos}(hN:X.N.Nodup)(he:DE X W .new e m)(hi:X.N[i]? =some x:=by rfl)(hx:Loc X.env.scope x:=by first|exact Or.inl rfl|exact Or.inr rfl)(hs:swapsWith e (some (.Name x pos')) pos.line X.env=pure false:=by rfl)
 (hf:X.fn x=true∨X.env.scope.names.lookup x=some .local:=by first|exact .inl rfl|exact .inr rfl|assumption) (ho:xM W.pin i:=by intro _ z;first|(cases z;done)|exact absurd (dO z).1 (by decide)|(simp at z;done)):DS X W rk (.Assign [.Name x pos'] e pos) (j7 i m):=PS.imp (ps_set hN hi hx he hs hf) fun E σ H ⟨Hf,Hb,ρ,R,h⟩=>by
 refine⟨Hf,Hb,ρ,R,fun d hd v Hb' H' g r=> ?_,fun c hc Hb' H' g=> ?_,fun z=> ?_⟩
 ·simp only [j7,hd] at h
  obtain⟨p,rfl,h0,hb,ow⟩:=r
  exact h _ Hb' H' (R.agX ho g h0 hb ow) (g.bw R.ef)
 ·simp only [j7,hc] at h
  exact h _ Hb' H' (R.gw g) (g.bw R.ef)
 ·simp only [j7,z] at h
  exact h
theorem yP(he:DE X W kd e m)(hs:swapsWith e none pos.line X.env=pure false:=by rfl):DS X W rk (.Expr e pos) (rZ m):=PS.imp (ps_expr he hs) fun E σ H ⟨Hf,Hb,ρ,R,h⟩=>by
 refine⟨Hf,Hb,ρ,R,fun d hd v Hb' H' g r=> ?_,fun c hc Hb' H' g=> ?_,fun z=> ?_⟩
 ·simp only [rZ,hd] at h
  exact h _ Hb' H' (R.gw g) (g.bw R.ef)
 ·simp only [rZ,hc] at h
  exact h _ Hb' H' (R.gw g) (g.bw R.ef)
 ·simp only [rZ,z] at h
  exact h
theorem fQ(he:DE X W rk e m):DS X W rk (.Return (some e) pos) (gG m):=PS.imp (ps_ret he) fun E σ H ⟨Hf,Hb,ρ,R,h⟩=>by
 refine⟨Hf,Hb,ρ,R,fun d hd v Hb' H' g r=> ?_,fun c hc Hb' H' g=> ?_,fun z=> ?_⟩
 ·simp only [gG,hd] at h
  exact h v Hb' H' (R.gw g).ef (g.bw R.ef) (r.back R.ef)
 ·simp only [gG,hc] at h
  exact h _ Hb' H' (R.gw g) (g.bw R.ef)
 ·simp only [gG,z] at h
  exact h
theorem Ly(i:Nat){x:Str}{p:Pos}(hN:X.N[i]? =some x:=by rfl)(hv:Vis X.env.scope x:=by first|exact Or.inl rfl|exact Or.inr (Or.inl rfl)|exact Or.inr (Or.inr rfl))(hd:(x==("__debug__":Str))=false:=by decide)
 (hcd:(x==("__classdict__":Str))=false:=by decide):DS X W .new (.Return (some (.Name x p)) pos) (Ft i):=PS.imp (ps_ret (pe_var hN hv hd hcd)) fun E σ H ⟨Hf,Hb,ρ,R,h⟩=>by
 unfold Ft at h
 cases q:ρ[i]? with
 |none=>
  rw [q] at h
  exact h.elim
 |some s=>
  rw [q] at h
  cases s with
  |own d=>
   obtain⟨p,h1,h2,h3,h4⟩:=R.own i d q
   exact⟨_,h1,h _ Hb H R.ef (Bw.refl R.eb) ⟨p,rfl,h3,h4,h2⟩⟩
  |un=>exact h.elim
  |dat d=>exact h.elim
  |bor d=>exact h.elim
  |nst k cs=>exact h.elim
  |vP k cs=>exact h.elim
  |QH k cs=>exact h.elim
theorem aeX(i:Nat){x:Str}{p:Pos}(hN:X.N[i]? =some x:=by rfl)(hv:Vis X.env.scope x:=by first|exact Or.inl rfl|exact Or.inr (Or.inl rfl)|exact Or.inr (Or.inr rfl))(hd:(x==("__debug__":Str))=false:=by decide)
 (hcd:(x==("__classdict__":Str))=false:=by decide):DS X W .dat (.Return (some (.Name x p)) pos) (ad8 i):=PS.imp (ps_ret (pe_var hN hv hd hcd)) fun E σ H ⟨Hf,Hb,ρ,R,h⟩=>by
 unfold ad8 at h
 split at h
 ·rename_i ds q
  obtain⟨p,h1,⟨o,ho,hc⟩,h3,h4⟩:=R.own i _ q
  cases hc with
  |lst al=>
   refine⟨_,h1,h _ (L2.upd Hb p _) H R.ef ⟨Ex.new h4,fun a u qa=> ?_,fun a z1 z2=> ?_⟩ (.lst (.inl (.inl upd_same)) (lM (Ex.new h4) al))⟩
   ·by_cases z:a=p
    ·subst z
     rw [upd_same] at qa
     rw [←qa]
     exact ho
    ·rw [upd_ne z] at qa
     exact R.eb a u qa
   ·have z:a≠p:=fun z=>by
     subst z
     rw [h3] at z2
     exact z2
    rw [upd_ne z]
    exact z1
 ·exact h.elim
theorem fY(hc:DT X W c mc)(ha:WD X W rk a ma)(hb:WD X W rk b mb):DS X W rk (.If c a b pos) (je mc ma mb):=PS.imp (ps_if hc ha hb) fun E σ H ⟨Hf,Hb,ρ,R,h⟩=>by
 refine⟨Hf,Hb,ρ,R,fun k hk Hb' H' g=> ?_,fun c hc Hb' H' g=> ?_,?_⟩
 ·cases k with
  |true=>
   simp only [je,hk] at h
   show sOf X.K W rk ma E σ H'
   exact⟨Hf,Hb',ρ,R.gw g,kY.weak (g.bw R.ef) h⟩
  |false=>
   simp only [je,hk] at h
   show sOf X.K W rk mb E σ H'
   exact⟨Hf,Hb',ρ,R.gw g,kY.weak (g.bw R.ef) h⟩
 ·simp only [je,hc] at h
  exact h _ Hb' H' (R.gw g) (g.bw R.ef)
 ·cases q:mc ρ with
  |bad=>
   simp only [je,q] at h
   exact h.elim
  |ex c=>exact .inr ⟨c,rfl⟩
  |ok d=>
   cases d with
   |bool b=>exact .inl ⟨b,rfl⟩
   |_=>
    simp only [je,q] at h
    exact h.elim
theorem xO{x s:Str}{j:Nat}{p p2 pos' :Pos}(tk:Takes X W.w)(q:PySem.W.excIn X.K (He.ga X.K x) He.veBase "ValueError.__new__"=true∧PySem.W.keepIn X.K (.ref (He.ga X.K x))=true∧PySem.W.subIn X.K (.ref (He.ga X.K x)) (.type "BaseException")=some true∧
 PySem.W.typeIn X.K (.ref (He.ga X.K x))=some (.type "type")) (gC:X.mg x=some (.ref (He.ga X.K x))) (hc:X.calm=true:=by rfl) (hg:Gl X x:=by rfl) (hdb:(x==("__debug__":Str))=false:=by decide):
 DS X W rk (.Raise (some (.Call (.Name x p) [.Constant (.str s) j p2] [] pos')) none pos) (zm x):=
 PS.imp (ps_raise hc tk (pmk_own PySem.F.excBase_ValueError q.1 gC q.2.1 (raises_own q.2.2.1 q.2.2.2) hg hdb)) fun E σ H ⟨Hf,Hb,ρ,R,h⟩=>h σ Hb H R (Bw.refl R.eb)
theorem uw{i:Nat}{x:Str}{p p2 p3:Pos}(he:DE X W .dat e m)(hN:X.N[i]? =some x:=by rfl)(hv:Vis X.env.scope x:=by first|exact Or.inl rfl|exact Or.inr (Or.inl rfl)|exact Or.inr (Or.inr rfl))(hd:(x==("__debug__":Str))=false:=by decide)
 (hcd:(x==("__classdict__":Str))=false:=by decide) (hst:starEach [e] X.env=(false,eval e X.env)::starEach [] X.env:=by rfl)
 (hbase:attributeBase (.Name x p) "append" X.env (eval (.Name x p) X.env)=eval (.Name x p) X.env:=by rfl)
 (hfew:((backTo p3 (starEach [e] X.env)).all (fun x=> !x.1)&&(backToKw p3 (keywordEach [] X.env)).all (fun x=>x.1.isSome)
   &&decide (([e]:List Expr).length+([]:List Keyword).length+(if([]:List Keyword).isEmpty then 0 else 1)<30))=true:=by rfl)
 (hline:(p2.endLine==p3.line)=true:=by rfl) (hpl:(backTo p3 (starEach [] X.env)).any (·.1)=false:=by rfl) (hs:swapsWith (.Call (.Attribute (.Name x p) "append" p2) [e] [] p3) none pos.line X.env=pure false:=by rfl):
 DS X W rk (.Expr (.Call (.Attribute (.Name x p) "append" p2) [e] [] p3) pos) (sG i m):=
 PS.imp (ps_expr (pe_bm PySem.F.plainAttrs_list PySem.F.slot_list_append PySem.F.type_list_append mt_append (pe_var hN hv hd hcd) (pa_cons he pa_nil hst) hbase hfew hline hst hpl) hs) fun E σ H ⟨Hf,Hb,ρ,R,h⟩=>by
  unfold sG at h
  split at h
  ·rename_i ds q
   obtain⟨p,h1,⟨o,ho,hc⟩,h3,h4⟩:=R.own i _ q
   cases hc with
   |lst al=>
    refine⟨_,h1, .inl ⟨rfl,_,sq_of ho⟩,Hf,Hb,ρ,R,fun d hd v Hb' H' g r=> ?_,fun c hc Hb' H' g=> ?_,fun z=> ?_⟩
    ·rw [hd] at h
     simp only at h
     split at h
     ·rename_i hz
      have ho' :=g.h _ _ ho
      refine⟨p,_,v,rfl,rfl,ho',by rw [gW al];exact hz,?_⟩
      have R1:=R.gw g
      have hb' :Hb' p=none:=g.nw p h4 (by rw [ho];exact True.intro)
      exact h σ Hb' _ (R1.write q h1 (.lst (qT (lM g.b al) (.cons r .nil)))) ((g.bw R.ef).trans (Bw.upd g.bh hb'))
     ·exact h.elim
    ·rw [hc] at h
     exact h σ Hb' H' (R.gw g) (g.bw R.ef)
    ·rw [z] at h
     exact h.elim
  ·exact h.elim
end
end DL
namespace DL
open PySem L2 Evl
theorem gj.freeze{K:ao}{pn:Pn}{Hf Hb H:Hp}{σ:L2.St}{ρ:Env}{i:Nat}{ds:List D}(R:gj K pn Hf Hb H σ ρ)(q:ρ[i]? =some (.own (.list ds))):∃Hb',gj K pn Hf Hb' H σ (ρ.set i (.dat (.list ds)))∧Bw Hf Hb Hb' H:=by
 obtain⟨F,r⟩:=R
 obtain⟨p,h1,h2,o,ho,hc⟩:=r.sl i _ q
 obtain⟨f1,f2,f3⟩:=r.fr i p (by rw [h1];simp)
 have e1:Ex Hb (upd Hb p o):=Ex.new f2
 have e2:Ex (upd Hb p o) H:=fun a u qa=>by
  by_cases z:a=p
  ·subst z
   rw [upd_same] at qa
   rw [←qa]
   exact ho
  ·rw [upd_ne z] at qa
   exact r.eb a u qa
 cases hc with
 |lst al=>
  refine⟨upd Hb p _,⟨_,r.step (fp:=[]) r.ef e2 e1 rfl (fun j z=>rfl) (fun a ha _ k2 _=>⟨rfl,by rw [upd_ne (fun z=>ha (by rw [h1,z];simp))];exact k2⟩) (fun _=>⟨rfl,_,h2, .lst (.inl (.inl upd_same)) (lM e1 al)⟩) cH (fun a ha=>by cases ha) (fun j a _ ha=>by cases ha) (fun a z=>r.pin i a z)⟩,e1,e2,fun a z1 z2=> ?_⟩
  have z:a≠p:=fun z=>by
   subst z
   rw [f1] at z2
   exact z2
  rw [upd_ne z]
  exact z1
def KH(i:Nat)(m:SM):SM:=fun ρ=>match ρ[i]? with
 |some (.own (.list ds))=>m (ρ.set i (.dat (.list ds)))
 |_=> .bad
theorem UJ{X:Cx}{W:WQ}{rk:Kd}{st:Stmt}{m:SM}(i:Nat)(h:DS X W rk st m):DS X W rk st (KH i m):=PS.imp h fun E σ H ⟨Hf,Hb,ρ,R,q⟩=>by
 unfold KH at q
 split at q
 ·rename_i ds z
  obtain⟨Hb',R',b⟩:=R.freeze z
  exact⟨Hf,Hb',_,R',kY.weak b q⟩
 ·exact q.elim
def gOf(K:ao)(pn:Pn)(g:GM):TG:=fun v σ H Q=>∃(Hf Hb:Hp) (ρ:Env) (d:D) (ρ' :Env),gj K pn Hf Hb H σ ρ∧Dr K Hb v d∧g d ρ=some ρ' ∧∀σ',gj K pn Hf Hb H σ' ρ' →Q σ' H
abbrev DG(X:Cx)(W:WQ)(tg:Expr)(g:GM):Prop:=PG X tg (gOf X.K W.pin g)
def aja(K:ao)(pn:Pn)(gs:List GM):TGs:=fun vs σ H Q=>∃(Hf Hb:Hp) (ρ:Env) (ds:List D) (ρ' :Env),gj K pn Hf Hb H σ ρ∧iY K Hb vs ds∧gTs gs ds ρ=some ρ' ∧∀σ',gj K pn Hf Hb H σ' ρ' →Q σ' H
abbrev DGs(X:Cx)(W:WQ)(tg:List Expr)(gs:List GM):Prop:=PGs X tg (aja X.K W.pin gs)
theorem PG.imp{X:Cx}{e:Expr}{t t' :TG}(h:PG X e t)(i:∀v σ H Q,t' v σ H Q→t v σ H Q):PG X e t' :=⟨fun pins s σ H v u Q I r q=>h.run pins s σ H v u Q I r (i v σ H Q q)⟩
theorem PGs.imp{X:Cx}{e:List Expr}{t t' :TGs}(h:PGs X e t)(i:∀v σ H Q,t' v σ H Q→t v σ H Q):PGs X e t' :=⟨fun pins s σ H v u Q I r q=>h.run pins s σ H v u Q I r (i v σ H Q q)⟩
theorem aaj{K:ao}:∀{gs:List GM} {ds:List D} {ρ ρ' :Env},gTs gs ds ρ=some ρ' →ds.length=gs.length
 |[],[],_,_,_=>rfl
 |g::gs,d::ds,ρ,ρ',h=>by
  simp only [gTs] at h
  cases q:g d ρ with
  |none=>
   rw [q] at h
   cases h
  |some ρ1=>
   rw [q] at h
   have h2:gTs gs ds ρ1=some ρ' :=h
   simp [aaj (K:=K) h2]
 |[],_::_,_,_,h=>by cases h
 |_::_,[],_,_,h=>by cases h
section
variable{X:Cx}{W:WQ}{rk kd:Kd}{e tg:Expr}{es:List Expr}{g:GM}{gs:List GM}{m:EM}{pos:Pos}
theorem jP(i:Nat){x:Str}(hN:X.N.Nodup)(hi:X.N[i]? =some x:=by rfl)(hx:Loc X.env.scope x:=by first|exact Or.inl rfl|exact Or.inr rfl)(hf:X.fn x=true∨X.env.scope.names.lookup x=some .local:=by first|exact .inl rfl|exact .inr rfl|assumption)(ho:xM W.pin i:=by intro _ z;first|(cases z;done)|exact absurd (dO z).1 (by decide)|(simp at z;done)):DG X W (.Name x pos) (gN i):=
 PG.imp (pg_name hN hi hx hf) fun v σ H Q ⟨Hf,Hb,ρ,d,ρ',R,r,h,q⟩=>by
  cases h
  exact q _ (R.Ji ho r)
theorem lH:DGs X W [] []:=PGs.imp pgs_nil fun vs σ H Q ⟨Hf,Hb,ρ,ds,ρ',R,r,h,q⟩=>by
 cases ds with
 |nil=>
  cases r
  cases h
  exact⟨rfl,q _ R⟩
 |cons _ _=>cases h
theorem gK(h1:DG X W e g)(h2:DGs X W es gs)(hs:(assignEach (e::es) X.env).map (·.2)=assign e X.env::(assignEach es X.env).map (·.2):=by rfl):DGs X W (e::es) (g::gs):=PGs.imp (pgs_cons h1 h2 hs) fun vs σ H Q ⟨Hf,Hb,ρ,ds,ρ',R,r,h,q⟩=>by
 cases ds with
 |nil=>cases h
 |cons d ds=>
  cases r with
  |cons a b=>
   simp only [gTs] at h
   cases q1:g d ρ with
   |none=>
    rw [q1] at h
    cases h
   |some ρ1=>
    rw [q1] at h
    exact⟨_,_,rfl,Hf,Hb,ρ,d,ρ1,R,a,q1,fun σ' R' =>⟨Hf,Hb,ρ1,ds,ρ',R',b,h,q⟩⟩
theorem xg{k:Nat}(h:DGs X W es gs)(hc:X.calm=true:=by rfl)(hn:(assignEach es X.env).length=gs.length:=by rfl)(hst:(assignEach es X.env).findIdx? (·.1)=none:=by rfl):DG X W (.Tuple es k pos) (gT gs):=
 PG.imp (pg_tup hc h hn hst) fun v σ H Q ⟨Hf,Hb,ρ,d,ρ',R,r,hg,q⟩=>by
  cases d<;>simp only [gT] at hg<;>first|cases hg;done|skip
  obtain⟨p,xs,e1,s1,a1⟩:=Bo.tup R.eb (.inl r)
  exact⟨p,xs,e1,s1,by rw [gW a1];exact aaj (K:=X.K) hg,Hf,Hb,ρ,_,ρ',R,a1,hg,q⟩
theorem oA(he:DE X W .dat e m)(hg:DG X W tg g)(hs:swapsWithSole [tg] e pos.line X.env=pure false:=by rfl)(hw:swappedStores [tg] e X.env=pure none:=by rfl)(h1:(assignEach [tg] X.env).map (·.2)=[assign tg X.env]:=by rfl):
 DS X W rk (.Assign [tg] e pos) (nq g m):=PS.imp (ps_asg he hg hs hw h1) fun E σ H ⟨Hf,Hb,ρ,R,h⟩=>by
 refine⟨Hf,Hb,ρ,R,fun d hd v Hb' H' g1 r=> ?_,fun c hc Hb' H' g1=> ?_,fun z=> ?_⟩
 ·simp only [nq,hd] at h
  split at h
  ·rename_i ρ' hr
   exact⟨Hf,Hb',ρ,d,ρ',R.gw g1,r,hr,fun σ' R' =>h σ' Hb' H' R' (g1.bw R.ef)⟩
  ·exact h.elim
 ·simp only [nq,hc] at h
  exact h _ Hb' H' (R.gw g1) (g1.bw R.ef)
 ·simp only [nq,z] at h
  exact h
end
structure Yl(K:ao)(Hb1:Hp)(J:It)(ds:List D):Prop where
 go:∀(i:Nat) H,Ex Hb1 H→i<ds.length→J.go i H
 stop:∀H,Ex Hb1 H→J.stop ds.length H
 yld:∀(i:Nat) H x H' Hb,Ex Hb1 Hb→Ex Hb H→i<ds.length→J.yld i H x H' →∃Hb' d,Gw Hb H Hb' H' ∧ds[i]? =some d∧Dr K Hb' x d
def iOf(K:ao)(W:WQ)(mi:Env→AR):TI:=fun σ H R=>∃(Hf Hb:Hp) (ρ:Env),gj K W.pin Hf Hb H σ ρ∧
 (∀ds,mi ρ= .ok ds→∀J Hb' H',Gw Hb H Hb' H' →Yl K Hb' J ds→R J H')∧
 (∀c,mi ρ= .ex c→∀Hb' H',Gw Hb H Hb' H' →W.w (.ref (He.ga K c)) none σ H')∧mi ρ≠ .bad
abbrev DI(X:Cx)(W:WQ)(tg iter:Expr)(mi:Env→AR):Prop:=PI X tg iter (iOf X.K W mi)
theorem PI.imp{X:Cx}{tg e:Expr}{t t' :TI}(h:PI X tg e t)(i:∀σ H R,t' σ H R→t σ H R):PI X tg e t' :=⟨fun pins s σ H R I q=>h.run pins s σ H R I (i σ H R q)⟩
def iL(m:EM):Env→AR:=fun ρ=>match m ρ with
 | .ok (.list ds)=> .ok ds
 | .ok _=> .bad
 | .ex c=> .ex c
 | .bad=> .bad
def iT(m:EM):Env→AR:=fun ρ=>match m ρ with
 | .ok (.tuple ds)=> .ok ds
 | .ok _=> .bad
 | .ex c=> .ex c
 | .bad=> .bad
def O9(z:Str):List D:=z.cps.toList.map fun c=> .str ⟨#[c]⟩
def iS(m:EM):Env→AR:=fun ρ=>match m ρ with
 | .ok (.str z)=> .ok (O9 z)
 | .ok _=> .bad
 | .ex c=> .ex c
 | .bad=> .bad
def mO(lo hi:Int):List D:=(cC (hi-lo).toNat).map fun(i:Nat)=>aH (lo+(i:Int))
def inR(n:Int):Bool:=decide (-(2 ^ 62)≤n)&&decide (n<2 ^ 62)
theorem oH{n:Int}:inR n=true↔-(2 ^ 62)≤n∧n<2 ^ 62:=by
 unfold inR
 rw [cW,decide_eq_true_iff,decide_eq_true_iff]
def Qt(m:EM):Env→AR:=fun ρ=>match m ρ with
 | .ok (.int n)=>if inR n then .ok (mO 0 n) else .bad
 | .ok _=> .bad
 | .ex c=> .ex c
 | .bad=> .bad
def iR2(ma mb:EM):Env→AR:=fun ρ=>match m7 [ma,mb] ρ with
 | .ok [.int i, .int j]=>if inR i&&inR j then .ok (mO i j) else .bad
 | .ok _=> .bad
 | .ex c=> .ex c
 | .bad=> .bad
def G8(hi lo:Int):List D:=(cC (hi-lo).toNat).map fun(i:Nat)=>aH (hi-(i:Int))
def iR3(ma mb mc:EM):Env→AR:=fun ρ=>match m7 [ma,mb,mc] ρ with
 | .ok [.int i, .int j, .int k]=>if(inR i&&inR j&&decide (k= -1))=true then .ok (G8 i j) else .bad
 | .ok _=> .bad
 | .ex c=> .ex c
 | .bad=> .bad
theorem ye(hi lo:Int):(G8 hi lo).length=(hi-lo).toNat:=by simp [G8]
theorem Rk(hi lo:Int)(i:Nat)(h:i<(hi-lo).toNat):(G8 hi lo)[i]? =some (.int (hi-(i:Int))):=by
 simp [G8,h]
theorem aeo{K:ao}{Hb1:Hp}(hi lo:Int):Yl K Hb1 (Itc hi (-1) (hi-lo).toNat) (G8 hi lo) where
 go:=fun i H _ h=>by
  rw [ye] at h
  exact h
 stop:=fun H _=>by
  rw [ye]
  exact bD _
 yld:=fun i H x H' Hb e1 e2 h y=>by
  obtain⟨rfl,rfl⟩:=y
  rw [ye] at h
  have e:hi+((i:Nat):Int)*(-1)=hi-(i:Int):=by omega
  rw [e]
  exact⟨Hb, .int (hi-(i:Int)),Gw.refl e2,Rk hi lo i h, .int _⟩
theorem Ei(lo hi:Int):(mO lo hi).length=(hi-lo).toNat:=by simp [mO]
theorem YH(lo hi:Int)(i:Nat)(h:i<(hi-lo).toNat):(mO lo hi)[i]? =some (.int (lo+(i:Int))):=by
 simp [mO,h]
theorem W4{K:ao}{Hb1:Hp}(lo hi:Int):Yl K Hb1 (Itr lo (hi-lo).toNat) (mO lo hi) where
 go:=fun i H _ h=>by
  rw [Ei] at h
  exact h
 stop:=fun H _=>by
  rw [Ei]
  exact bD _
 yld:=fun i H x H' Hb e1 e2 h y=>by
  obtain⟨rfl,rfl⟩:=y
  rw [Ei] at h
  exact⟨Hb, .int (lo+(i:Int)),Gw.refl e2,YH lo hi i h, .int _⟩
theorem aeO{K:ao}{Hb1:Hp}{p:Addr}{xs:List V}{ds:List D}(h:SqL K Hb1 p xs)(a:iY K Hb1 xs ds):Yl K Hb1 (Itl K p) ds where
 go:=fun i H e hi=>by
  have hl:=gW a
  exact⟨xs,xs[i]'(by omega),ex_l e h,by simp⟩
 stop:=fun H e=>⟨xs,ex_l e h,by rw [gW a];exact bD _⟩
 yld:=fun i H x H' Hb e1 e2 hi y=>by
  obtain⟨rfl,y⟩:=y
  have hx:=y xs (ex_l (e1.trans e2) h)
  obtain⟨d,d1,d2⟩:=sY a hx
  exact⟨Hb,d,Gw.refl e2,d1,lG e1 d2⟩
theorem agp{K:ao}{Hb1:Hp}{p:Addr}{xs:List V}{ds:List D}(h:SqT K Hb1 p xs)(a:iY K Hb1 xs ds):Yl K Hb1 (Itt K p) ds where
 go:=fun i H e hi=>by
  have hl:=gW a
  exact⟨xs,xs[i]'(by omega),ex_t e h,by simp⟩
 stop:=fun H e=>⟨xs,ex_t e h,by rw [gW a];exact bD _⟩
 yld:=fun i H x H' Hb e1 e2 hi y=>by
  obtain⟨rfl,y⟩:=y
  have hx:=y xs (ex_t (e1.trans e2) h)
  obtain⟨d,d1,d2⟩:=sY a hx
  exact⟨Hb,d,Gw.refl e2,d1,lG e1 d2⟩
theorem agL{K:ao}{Hb1:Hp}(z:Str):Yl K Hb1 (Its z) (O9 z) where
 go:=fun i H e hi=>by simpa [O9,Its] using hi
 stop:=fun H e=>by simp [O9,Its]
 yld:=fun i H x H' Hb e1 e2 hi y=>by
  obtain⟨rfl,c,hc,rfl⟩:=y
  exact⟨Hb, .str ⟨#[c]⟩,Gw.refl e2,by
   have hc' :z.cps.toList[i]? =some c:=by simpa using hc
   simp only [O9,aF,hc']
   rfl, .str _⟩
section
variable{X:Cx}{W:WQ}{rk kd:Kd}{e tg a b:Expr}{g:GM}{m ma mb:EM}{p pos:Pos}{mi:Env→AR}
theorem Yv(h:DE X W .dat e m):DI X W tg e (iL m):=PI.imp (pi_list h) fun σ H R ⟨Hf,Hb,ρ,Re,h1,h2,h3⟩=>by
 refine⟨Hf,Hb,ρ,Re,fun d hd v Hb' H' g r=> ?_,fun c hc=>h2 c (by simp [iL,hc]),fun z=>h3 (by simp [iL,z])⟩
 cases d with
 |list ds=>
  cases r with
  |lst s a=>exact⟨_,rfl,⟨_,ex_l g.bh s⟩,h1 ds (by simp [iL,hd]) _ Hb' H' g (aeO s a)⟩
 |_=>exact absurd (by simp [iL,hd]) h3
theorem afl(h:DE X W .dat e m):DI X W tg e (iT m):=PI.imp (pi_tup h) fun σ H R ⟨Hf,Hb,ρ,Re,h1,h2,h3⟩=>by
 refine⟨Hf,Hb,ρ,Re,fun d hd v Hb' H' g r=> ?_,fun c hc=>h2 c (by simp [iT,hc]),fun z=>h3 (by simp [iT,z])⟩
 cases d with
 |tuple ds=>
  cases r with
  |tup s a=>exact⟨_,rfl,⟨_, .inl (.inl (g.bh _ _ s))⟩,h1 ds (by simp [iT,hd]) _ Hb' H' g (agp (.inl (.inl s)) a)⟩
 |_=>exact absurd (by simp [iT,hd]) h3
theorem ae'(h:DE X W .dat e m):DI X W tg e (iS m):=PI.imp (pi_str h) fun σ H R ⟨Hf,Hb,ρ,Re,h1,h2,h3⟩=>by
 refine⟨Hf,Hb,ρ,Re,fun d hd v Hb' H' g r=> ?_,fun c hc=>h2 c (by simp [iS,hc]),fun z=>h3 (by simp [iS,z])⟩
 cases d with
 |str z=>
  cases r
  exact⟨_,rfl,h1 _ (by simp [iS,hd]) _ Hb' H' g (agL z)⟩
 |_=>exact absurd (by simp [iS,hd]) h3
theorem O8(hm:X.mg "range"=none)(h:DE X W .bor a m)(hg:Gl X "range":=by rfl)(hs:starEach [a] X.env=[(false,eval a X.env)]:=by rfl):DI X W tg (.Call (.Name "range" p) [a] [] pos) (Qt m):=
 PI.imp (pi_range1 hg hm (pa_cons h pa_nil hs) hs) fun σ H R ⟨Hf,Hb,ρ,Re,h1,h2,h3⟩=>by
  refine⟨Hf,Hb,ρ,Re,fun d hd v Hb' H' g r=> ?_,fun c hc=>h2 c (by simp [Qt,hc]),fun z=>h3 (by simp [Qt,z])⟩
  cases d with
  |int n=>
   by_cases hz:inR n=true
   ·refine⟨n,by rw [Bo.int r],(oH.mp hz).1,(oH.mp hz).2,?_⟩
    have y:=W4 (K:=X.K) (Hb1:=Hb') 0 n
    have e0:(n-0).toNat=n.toNat:=by simp
    rw [e0] at y
    exact h1 _ (by simp [Qt,hd,hz]) _ Hb' H' g y
   ·exact absurd (by simp [Qt,hd,hz]) h3
  |_=>exact absurd (by simp [Qt,hd]) h3
theorem aij(hm:X.mg "range"=none)(h:DA X W [.bor, .bor] [a,b] [ma,mb])(hg:Gl X "range":=by rfl)(hs:starEach [a,b] X.env=[(false,eval a X.env),(false,eval b X.env)]:=by rfl)(hs2:starEach [b] X.env=[(false,eval b X.env)]:=by rfl):
 DI X W tg (.Call (.Name "range" p) [a,b] [] pos) (iR2 ma mb):=PI.imp (pi_range2 hg hm h hs hs2) fun σ H R ⟨Hf,Hb,ρ,Re,h1,h2,h3⟩=>by
 refine⟨Hf,Hb,ρ,Re,fun ds hd vs Hb' H' g r=> ?_,fun c hc=>h2 c (by simp [iR2,hc]),fun z=>h3 (by simp [iR2,z])⟩
 cases r with
 |cons r1 r2=>
  cases r2 with
  |cons r2 r3=>
   cases r3
   rename_i v1 d1 v2 d2
   cases d1 with
   |int i=>
    cases d2 with
    |int j=>
     by_cases hz:(inR i&&inR j)=true
     ·have hz2:=dI.mp hz
      exact⟨i,j,by rw [Bo.int r1,Bo.int r2],⟨(oH.mp hz2.1).1,(oH.mp hz2.1).2,(oH.mp hz2.2).1,(oH.mp hz2.2).2⟩,h1 _ (by simp only [iR2,hd,hz,if_true]) _ Hb' H' g (W4 i j)⟩
     ·exact absurd (by simp only [iR2,hd,hz];rfl) h3
    |_=>exact absurd (by simp [iR2,hd]) h3
   |_=>exact absurd (by simp [iR2,hd]) h3
theorem aiy{c:Expr}{mc:EM}(hm:X.mg "range"=none)(h:DA X W [.bor, .bor, .bor] [a,b,c] [ma,mb,mc])(hg:Gl X "range":=by rfl)(hs:starEach [a,b,c] X.env=(false,eval a X.env)::starEach [b,c] X.env:=by rfl)(hpl:(backTo pos (starEach [b,c] X.env)).any (·.1)=false:=by rfl):
 DI X W tg (.Call (.Name "range" p) [a,b,c] [] pos) (iR3 ma mb mc):=PI.imp (pi_range3 hg hm h hs hpl) fun σ H R ⟨Hf,Hb,ρ,Re,h1,h2,h3⟩=>by
 refine⟨Hf,Hb,ρ,Re,fun ds hd vs Hb' H' g r=> ?_,fun c hc=>h2 c (by simp [iR3,hc]),fun z=>h3 (by simp [iR3,z])⟩
 cases r with
 |cons r1 r2=>
  cases r2 with
  |cons r2 r3=>
   cases r3 with
   |cons r3 r4=>
    cases r4
    rename_i v1 d1 v2 d2 v3 d3
    cases d1 with
    |int i=>
     cases d2 with
     |int j=>
      cases d3 with
      |int k=>
       by_cases hz:(inR i&&inR j&&decide (k= -1))=true
       ·have hz2:=dI.mp hz
        have hz3:=dI.mp hz2.1
        have hk:k= -1:=of_decide_eq_true hz2.2
        subst hk
        refine⟨i,j,-1,(i-j).toNat,by rw [Bo.int r1,Bo.int r2,Bo.int r3],RgC.neg (oH.mp hz3.1).1 (oH.mp hz3.1).2 (oH.mp hz3.2).1 (oH.mp hz3.2).2,h1 (G8 i j) ?_ _ Hb' H' g (aeo i j)⟩
        unfold iR3
        rw [hd]
        exact if_pos hz
       ·refine absurd ?_ h3
        unfold iR3
        rw [hd]
        exact if_neg hz
      |_=>exact absurd (by simp [iR3,hd]) h3
     |_=>exact absurd (by simp [iR3,hd]) h3
    |_=>exact absurd (by simp [iR3,hd]) h3
theorem lE{body:List Stmt}{mb:SM}(hp:PassesOwn (model X.prog X.w) X.A X.env X.xe)(hi:DI X W tg e mi)(hg:DG X W tg g)(hb:WD X W rk body mb)(hc:X.calm=true:=by rfl)(hs:∀x,foldedSetIterable e X.env x=pure x:=by intro _;rfl):
 DS X W rk (.For tg e body [] pos) (nD mi g mb):=PS.imp (ps_for hp hc hi hg hb hs) fun E σ H ⟨Hf,Hb,ρ,R,h⟩=>by
 refine⟨Hf,Hb,ρ,R,fun ds hds J Hb1 H1 g1 Y=> ?_,fun c hc Hb' H' g1=> ?_,fun z=> ?_⟩
 ·simp only [nD,hds] at h
  refine⟨fun i n σ' H' =>n=ds.length-i∧i≤ds.length∧∃Hb' ρ',gj X.K W.pin Hf Hb' H' σ' ρ' ∧Ex Hb1 Hb' ∧kY X.K W rk Hf Hb' H' E (yE g mb (ds.drop i) ρ'),⟨ds.length,by simp,cQ _,Hb1,ρ,R.gw g1,Ex.refl _,kY.weak (g1.bw R.ef) h⟩,?_⟩
  rintro i n σ2 H2 ⟨rfl,hi,Hb2,ρ2,R2,e2,h2⟩
  by_cases hlt:i<ds.length
  ·have ed:ds.drop i=ds[i]::ds.drop (i+1):=(List.getElem_cons_drop hlt).symm
   rw [ed] at h2
   refine .inr ⟨Y.go i H2 (e2.trans R2.eb) hlt,fun σ' H' =>∃Hb' ρ',gj X.K W.pin Hf Hb' H' σ' ρ' ∧Ex Hb1 Hb' ∧kY X.K W rk Hf Hb' H' E (yE g mb (ds.drop (i+1)) ρ'),fun σ' H' hN=>⟨ds.length-(i+1),by omega,rfl,hlt,hN⟩,fun x H3 y=> ?_⟩
   obtain⟨Hb3,d,g3,d1,d2⟩:=Y.yld i H2 x H3 Hb2 e2 R2.eb hlt y
   have de:ds[i]=d:=by
    rw [bH hlt] at d1
    exact Option.some.inj d1
   rw [de] at h2
   simp only [yE] at h2
   cases q:g d ρ2 with
   |none=>
    rw [q] at h2
    exact h2.elim
   |some ρ3=>
    rw [q] at h2
    refine⟨Hf,Hb3,ρ2,d,ρ3,R2.gw g3,d2,q,fun σ3 R3=>⟨Hf,Hb3,ρ3,R3,?_⟩⟩
    have h3:=kY.weak (g3.bw R2.ef) h2
    simp only at h3
    cases qb:mb ρ3 with
    |nx ρ4=>
     rw [qb] at h3
     exact fun σ4 Hb4 H4 R4 b4=>⟨Hb4,ρ4,R4,(e2.trans g3.b).trans b4.b,kY.weak b4 h3⟩
    |ct ρ4=>
     rw [qb] at h3
     exact fun σ4 Hb4 H4 R4 b4=>⟨Hb4,ρ4,R4,(e2.trans g3.b).trans b4.b,kY.weak b4 h3⟩
    |bk ρ4=>
     rw [qb] at h3
     exact h3
    |rt d=>
     rw [qb] at h3
     exact h3
    |rx d ρ4=>
     rw [qb] at h3
     exact h3
    |ex c ρ4=>
     rw [qb] at h3
     exact h3
    |bad=>
     rw [qb] at h3
     exact h3
  ·have e:i=ds.length:=by omega
   subst e
   rw [List.drop_length] at h2
   exact .inl ⟨Y.stop H2 (e2.trans R2.eb),h2 σ2 Hb2 H2 R2 (Bw.refl R2.eb)⟩
 ·simp only [nD,hc] at h
  exact h _ Hb' H' (R.gw g1) (g1.bw R.ef)
 ·simp only [nD,z] at h
  exact h
theorem yr{c:Expr}{body:List Stmt}{mc:EM}{mb:SM}(hp:PassesOwn (model X.prog X.w) X.A X.env X.xe)(hc:DT X W c mc)(hb:WD X W rk body mb):DS X W rk (.While c body [] pos) (zB mc mb):=
 PS.imp (ps_while hp hc hb) fun E σ H ⟨Hf,Hb,ρ,R,h⟩=>by
  refine⟨fun n σ' H' =>∃Hb' ρ',gj X.K W.pin Hf Hb' H' σ' ρ' ∧kY X.K W rk Hf Hb' H' E (qK mc mb n ρ'),⟨FUEL,Hb,ρ,R,h⟩,?_⟩
  rintro n σ2 H2 ⟨Hb2,ρ2,R2,h2⟩
  cases n with
  |zero=>exact h2.elim
  |succ n=>
   simp only [qK] at h2
   refine⟨Hf,Hb2,ρ2,R2,fun k hk Hb3 H3 g3=> ?_,fun c hc Hb3 H3 g3=> ?_,?_⟩
   ·cases k with
    |true=>
     rw [hk] at h2
     simp only at h2
     show∃N:L2.St→Hp→Prop,_
     refine⟨fun σ' H' =>∃Hb' ρ',gj X.K W.pin Hf Hb' H' σ' ρ' ∧kY X.K W rk Hf Hb' H' E (qK mc mb n ρ'),fun σ' H' hN=>⟨n,by omega,hN⟩,Hf,Hb3,ρ2,R2.gw g3,?_⟩
     have h3:=kY.weak (g3.bw R2.ef) h2
     cases qb:mb ρ2 with
     |nx ρ4=>
      rw [qb] at h3
      exact fun σ4 Hb4 H4 R4 b4=>⟨Hb4,ρ4,R4,kY.weak b4 h3⟩
     |ct ρ4=>
      rw [qb] at h3
      exact fun σ4 Hb4 H4 R4 b4=>⟨Hb4,ρ4,R4,kY.weak b4 h3⟩
     |bk ρ4=>
      rw [qb] at h3
      exact h3
     |rt d=>
      rw [qb] at h3
      exact h3
     |rx d ρ4=>
      rw [qb] at h3
      exact h3
     |ex c ρ4=>
      rw [qb] at h3
      exact h3
     |bad=>
      rw [qb] at h3
      exact h3
    |false=>
     rw [hk] at h2
     simp only at h2
     show E.nx σ2 H3
     exact h2 σ2 Hb3 H3 (R2.gw g3) (g3.bw R2.ef)
   ·rw [hc] at h2
    exact h2 _ Hb3 H3 (R2.gw g3) (g3.bw R2.ef)
   ·cases q:mc ρ2 with
    |bad=>
     rw [q] at h2
     exact h2.elim
    |ex c=>exact .inr ⟨c,rfl⟩
    |ok d=>
     cases d with
     |bool b=>exact .inl ⟨b,rfl⟩
     |_=>
      rw [q] at h2
      exact h2.elim
end
def jV:List Kd→List D→Env
 |[],_=>[]
 | .dat::ks,d::ds=> .dat d::jV ks ds
 | .bor::ks,d::ds=> .bor d::jV ks ds
 | .new::ks,d::ds=> .bor d::jV ks ds
 | .io _::ks,d::ds=> .bor d::jV ks ds
 | .tl::ks,d::ds=> .bor d::jV ks ds
 |_::_,[]=>[]
def jG(ks:List Kd)(n:Nat)(m:SM)(ds:List D):ER:=match m (jV ks ds++aD n .un) with
 | .nx _=> .ok .none
 | .rt d=> .ok d
 | .ex c _=> .ex c
 |_=> .bad
theorem ni.aev{K:ao}{Hb H:Hp}:∀{ks:List Kd} {vs:List V} {ds:List D},ni K Hb H ks vs ds→vs.length=ks.length
 |_,_,_, .nil=>rfl
 |_,_,_, .cons _ b=>by simp [ni.aev b]
theorem uV{K:ao}{Hb H:Hp}:∀{ks:List Kd} {vs:List V} {ds:List D},ni K Hb H ks vs ds→(jV ks ds).length=vs.length
 |_,_,_, .nil=>rfl
 | .dat::_,_,_, .cons _ b=>by simp [jV,uV b]
 | .bor::_,_,_, .cons _ b=>by simp [jV,uV b]
 | .new::_,_,_, .cons _ b=>by simp [jV,uV b]
 | .io _::_,_,_, .cons _ b=>by simp [jV,uV b]
 | .tl::_,_,_, .cons _ b=>by simp [jV,uV b]
theorem uY{K:ao}{Hb H:Hp}:∀{ks:List Kd} {vs:List V} {ds:List D} (i:Nat) (s:Sl),ni K Hb H ks vs ds→(jV ks ds)[i]? =some s→∃v d,vs[i]? =some v∧((s= .dat d∧Dr K Hb v d)∨(s= .bor d∧Bo K Hb H v d))
 |_,_,_,i,s, .nil,h=>by simp [jV] at h
 | .dat::_,v::_,d::_,0,s, .cons a b,h=>by
   simp [jV] at h
   exact⟨v,d,rfl, .inl ⟨h.symm,a⟩⟩
 | .bor::_,v::_,d::_,0,s, .cons a b,h=>by
   simp [jV] at h
   exact⟨v,d,rfl, .inr ⟨h.symm,a⟩⟩
 | .new::_,v::_,d::_,0,s, .cons a b,h=>by
   simp [jV] at h
   exact⟨v,d,rfl, .inr ⟨h.symm,a⟩⟩
 | .io _::_,v::_,d::_,0,s, .cons a b,h=>by
   simp [jV] at h
   exact⟨v,d,rfl, .inr ⟨h.symm,a⟩⟩
 | .tl::_,v::_,d::_,0,s, .cons a b,h=>by
   simp [jV] at h
   exact⟨v,d,rfl, .inr ⟨h.symm,a⟩⟩
 | .dat::_,_::_,_::_,i+1,s, .cons a b,h=>by
   simp [jV] at h
   obtain⟨v,d,h1,h2⟩:=uY i s b h
   exact⟨v,d,by simpa using h1,h2⟩
 | .bor::_,_::_,_::_,i+1,s, .cons a b,h=>by
   simp [jV] at h
   obtain⟨v,d,h1,h2⟩:=uY i s b h
   exact⟨v,d,by simpa using h1,h2⟩
 | .new::_,_::_,_::_,i+1,s, .cons a b,h=>by
   simp [jV] at h
   obtain⟨v,d,h1,h2⟩:=uY i s b h
   exact⟨v,d,by simpa using h1,h2⟩
 | .io _::_,_::_,_::_,i+1,s, .cons a b,h=>by
   simp [jV] at h
   obtain⟨v,d,h1,h2⟩:=uY i s b h
   exact⟨v,d,by simpa using h1,h2⟩
 | .tl::_,_::_,_::_,i+1,s, .cons a b,h=>by
   simp [jV] at h
   obtain⟨v,d,h1,h2⟩:=uY i s b h
   exact⟨v,d,by simpa using h1,h2⟩
theorem Qh{K:ao}{Hb H:Hp}{ks:List Kd}{vs:List V}{ds:List D}{N:List Str}{n:Nat}(e:Ex Hb H)(r:ni K Hb H ks vs ds)(hn:N.length=ks.length+n):gj K [] H Hb H (L2.start N vs) (jV ks ds++aD n .un):=by
 have l1:=uV r
 have l2:=r.aev
 have key:∀(i:Nat) s,(jV ks ds++aD n .un)[i]? =some s→s= .un∨∃v d,(L2.start N vs)[i]? =some (some v)∧((s= .dat d∧Dr K Hb v d)∨(s= .bor d∧Bo K Hb H v d)):=fun i s h=>by
  rcases dW i (jV ks ds).length with hlt|hge
  ·rw [aP hlt] at h
   obtain⟨v,d,h1,h2⟩:=uY i s r h
   refine .inr ⟨v,d,?_,h2⟩
   unfold L2.start
   rw [aP (by simpa using(by omega:i<vs.length)),aF,h1]
   rfl
  ·rw [bG hge] at h
   have:=aX h
   exact .inl (List.eq_of_mem_replicate this)
 refine⟨fun _=>[],Ex.refl _,e,?_,fun i s h=> ?_,fun i=>cH,fun i p hp=>by(cases hp),fun i j p _ hp=>by(cases hp),fun i a z=>by(cases z)⟩
 ·unfold L2.start
  simp
  omega
 ·rcases key i _ h with z|⟨v,d',h1,⟨z,h2⟩|⟨z,h2⟩⟩
  ·subst z
   rfl
  ·subst z
   exact⟨rfl,v,h1,h2⟩
  ·subst z
   exact⟨rfl,v,h1,h2⟩
section
variable{P:Program}{w:World}{K:ao}{mg:Str→Option Value}{base:Heap}{x qual:Str}{params:Arguments}{body:List Stmt}{scope:Scope}{dvs:List V}{kws:List (Str×V)}{f:Addr}{fd:FuncData}
theorem WM{Hb H Hb' H' :Hp}(e:Ex H H')(b:Bw H Hb Hb' H'):Gw Hb H Hb' H' :=⟨e,b.b,b.bh,b.nw⟩
theorem fn_ok{N ps:List Str}{k n:Nat}{ks:List Kd}{rk:Kd}{m:SM}(F:FunD K x qual params body scope dvs kws f fd)(S:FnScope N ps scope)(hps:ps.length=ks.length)(hn:N.length=ks.length+n)(hrk:rk= .dat∨∀ρ ρ',m ρ≠ .nx ρ')
 (hbody:∀(cdv:Value) (A:Around) (outer:List PySem.Env) (s:Shared) (H:Hp) (E:XK),Room k (A.deeper (PyProof.Rows.envOfC qual scope s.heap.objs.size f cdv))→WD (cxOf (L2.CX P w) P w K mg base N qual scope f cdv A outer s H E) ⟨fun cls d _ H=>E cls d H,[]⟩ rk body m):
 FnOk P w K mg base (L2.CX P w) (k+1) f fd ps (sE K ks rk (jG ks n m)):=by
 refine F.ok S (fun vs H Q E h=> ?_) (fun cdv A outer s H vs Q E hr h=> ?_)
 ·obtain⟨Hb,ds,e,r,_⟩:=h
  rw [r.aev,hps]
 ·obtain⟨Hb,ds,e,r,h1,h2,h3⟩:=h
  refine⟨_,hbody cdv A outer s H E hr,H,Hb,_,Qh e r hn,?_⟩
  have em:jG ks n m ds=match m (jV ks ds++aD n .un) with
   | .nx _=> .ok .none
   | .rt d=> .ok d
   | .ex c _=> .ex c
   |_=> .bad:=rfl
  cases q:m (jV ks ds++aD n .un) with
  |nx ρ=>
   rw [q] at em
   intro σ' Hb' H' R b
   refine h1 .none em .non Hb' H' (WM R.ef b) ?_
   rcases hrk with z|z
   ·subst z
    exact Ze
   ·exact absurd q (z _ _)
  |rt d=>
   rw [q] at em
   exact fun v Hb' H' e1 b r1=>h1 d em v Hb' H' (WM e1 b) r1
  |ex c ρ=>
   rw [q] at em
   exact fun σ' Hb' H' R b=>h2 c em Hb' H' (WM R.ef b)
  |bk ρ=>
   rw [q] at em
   exact absurd em h3
  |rx d ρ=>
   rw [q] at em
   exact absurd em h3
  |ct ρ=>
   rw [q] at em
   exact absurd em h3
  |bad=>
   rw [q] at em
   exact absurd em h3
end
end DL
namespace DL
open PySem L2 Evl PyProof.Rows
end DL
namespace DL
open PySem L2 Evl
def sH(ρ:Env):List Nat→Env
 |[]=>ρ
 |v::vs=>(sH ρ vs).set v .un
def YF(g:GM)(mt me:EM):List D→List D→Env→ER
 |[],acc,_=> .ok (.list acc)
 |d::r,acc,ρ=>match g d ρ with
  |none=> .bad
  |some ρ1=>match mt ρ1 with
   | .ok (.bool true)=>(match me ρ1 with
     | .ok e=>if acc.length<sizeLine then YF g mt me r (acc++[e]) ρ else .bad
     |_=> .bad)
   | .ok (.bool false)=>YF g mt me r acc ρ
   |_=> .bad
def Lq(mi:Env→AR)(g:GM)(mt me:EM)(vs:List Nat):EM:=fun ρ=>match mi ρ with
 | .ok ds=>YF g mt me ds [] (sH ρ vs)
 | .ex c=> .ex c
 | .bad=> .bad
theorem Mz(g:GM)(mt me:EM):∀(ds acc:List D) (ρ:Env),YF g mt me ds acc ρ= .bad∨∃es,YF g mt me ds acc ρ= .ok (.list es)
 |[],acc,ρ=> .inr ⟨acc,rfl⟩
 |d::r,acc,ρ=>by
  simp only [YF]
  split
  ·exact .inl rfl
  ·split
   ·split
    ·split
     ·exact Mz g mt me r _ ρ
     ·exact .inl rfl
    ·exact .inl rfl
   ·exact Mz g mt me r acc ρ
   ·exact .inl rfl
section
variable{K:ao}{Hf Hb H:Hp}{σ:L2.St}{ρ:Env}
theorem gj.afO(R:gj K [] Hf Hb H σ ρ):∀vs,gj K [] Hf Hb H (wipe σ vs) (sH ρ vs)
 |[]=>R
 |v::vs=>(gj.afO R vs).aiC (fun _ z=>nomatch z)
def GOk(K:ao)(T:TG)(g:GM)(vs:List Nat):Prop:=∀(Hf Hb H:Hp) (σ:L2.St) (ρ ρ' :Env) (v:V) (d:D) (Q:L2.St→Hp→Prop),gj K [] Hf Hb H (wipe σ vs) ρ→Dr K Hb v d→g d ρ=some ρ' →
 (∀σ2,gj K [] Hf Hb H σ2 ρ' →wipe σ2 vs=wipe σ vs→Q σ2 H)→T v (wipe σ vs) H Q
theorem RL(j:Nat):GOk K (gName j) (gN j) [j]:=fun Hf Hb H σ ρ ρ' v d Q R r h q=>by
 cases h
 exact q _ (R.Ji (fun _ z=>nomatch z) r) (by simp [wipe])
end
section
variable{X:Cx}{W:WQ}{elt tg iter:Expr}{ifs:List Expr}{scope:Scope}{own:List (Str×Nat)}{pos:Pos}{mi:Env→AR}{T:TG}{g:GM}{mt me:EM}
abbrev W0:WQ:=⟨fun _ _ _ _=>False,[]⟩
structure YlH(K:ao)(Hb1 H1:Hp)(J:It)(ds:List D):Prop where
 go:∀(i:Nat) H,Ex H1 H→i<ds.length→J.go i H
 stop:∀H,Ex H1 H→J.stop ds.length H
 yld:∀(i:Nat) H x H' Hb,Ex Hb1 Hb→Ex Hb H→Ex H1 H→i<ds.length→J.yld i H x H' →∃Hb' d,Gw Hb H Hb' H' ∧ds[i]? =some d∧Dr K Hb' x d
def ahM(K:ao)(W:WQ)(mi:Env→AR):TI:=fun σ H R=>∃(Hf Hb:Hp) (ρ:Env),gj K W.pin Hf Hb H σ ρ∧
 (∀ds,mi ρ= .ok ds→∀J Hb' H',Gw Hb H Hb' H' →YlH K Hb' H' J ds→R J H')∧
 (∀c,mi ρ= .ex c→∀Hb' H',Gw Hb H Hb' H' →W.w (.ref (He.ga K c)) none σ H')∧mi ρ≠ .bad
abbrev DIC(X:Cx)(W:WQ)(tg iter:Expr)(mi:Env→AR):Prop:=PI X tg iter (ahM X.K W mi)
theorem Mv(h:DI X W tg iter mi):DIC X W tg iter mi:=PI.imp h fun σ H R ⟨Hf,Hb,ρ,Re,h1,h2,h3⟩=>
 ⟨Hf,Hb,ρ,Re,fun ds hds J Hb' H' g Y=>h1 ds hds J Hb' H' g ⟨fun i H e=>Y.go i H (g.bh.trans e),fun H e=>Y.stop H (g.bh.trans e),fun i H x H2 Hb2 e1 e2 _ hl y=>Y.yld i H x H2 Hb2 e1 e2 hl y⟩,h2,h3⟩
theorem ah1{e:Expr}{m:EM}(h:DE X W .bor e m):DIC X W tg e (iL m):=PI.imp (pi_list h) fun σ H R ⟨Hf,Hb,ρ,Re,h1,h2,h3⟩=>by
 refine⟨Hf,Hb,ρ,Re,fun d hd v Hb' H' g r=> ?_,fun c hc=>h2 c (by simp [iL,hc]),fun z=>h3 (by simp [iL,z])⟩
 cases d with
 |list ds=>
  obtain⟨p,xs,rfl,s,a⟩:=Bo.lst g.bh r
  refine⟨_,rfl,⟨_,s⟩,h1 ds (by simp [iL,hd]) _ Hb' H' g ⟨fun i H e hi=> ?_,fun H e=>⟨xs,ex_l e s,by rw [gW a];exact bD _⟩,fun i H x H2 Hb2 e1 e2 e3 hi y=> ?_⟩⟩
  ·have hl:=gW a
   exact⟨xs,xs[i]'(by omega),ex_l e s,by simp⟩
  ·obtain⟨rfl,y⟩:=y
   have hx:=y xs (ex_l e3 s)
   obtain⟨d,d1,d2⟩:=sY a hx
   exact⟨Hb2,d,Gw.refl e2,d1,lG e1 d2⟩
 |_=>exact absurd (by simp [iL,hd]) h3
theorem adp{K:ao}{vs:List Nat}{σ:L2.St}{H:Hp}{Q:VK}(hG:GOk K T g vs)(h:BV K W .new (Lq mi g mt me vs) σ H Q):tLc (ahM K W mi) T (Vy K W0 mt) (BV K W0 .dat me) vs σ H Q:=by
 obtain⟨Hf,Hb,ρ,R,h1,h2,h3⟩:=h
 refine⟨Hf,Hb,ρ,R,fun ds hds J Hb1 H1 g1 Y=> ?_,fun c hc=>h2 c (by simp [Lq,hc]),fun z=>h3 (by simp [Lq,z])⟩
 have em:Lq mi g mt me vs ρ=YF g mt me ds [] (sH ρ vs):=by simp [Lq,hds]
 rw [em] at h1 h3
 intro A hA
 have R1:=(R.gw g1).unpin.afO vs
 have hbA:Hb1 A=none:=fresh_back g1.bh hA
 refine⟨fun i n H' =>n=ds.length-i∧i≤ds.length∧∃Hb' acc accd,Gw Hb1 H1 Hb' H' ∧Hb' A=none∧H' A=some (.lst acc)∧iY K Hb' acc accd∧YF g mt me (ds.drop i) accd (sH ρ vs)=YF g mt me ds [] (sH ρ vs),
  ⟨ds.length,by simp,cQ _,Hb1,[],[],Gw.new g1.bh hA,hbA,upd_same, .nil,rfl⟩,?_⟩
 rintro i n H2 ⟨rfl,hi,Hb2,acc,accd,g2,hb2,ho2,a2,e2⟩
 by_cases hlt:i<ds.length
 ·have ed:ds.drop i=ds[i]::ds.drop (i+1):=(List.getElem_cons_drop hlt).symm
  rw [ed] at e2
  refine .inr ⟨Y.go i H2 g2.h hlt,fun H' =>∃Hb' acc accd,Gw Hb1 H1 Hb' H' ∧Hb' A=none∧H' A=some (.lst acc)∧iY K Hb' acc accd∧YF g mt me (ds.drop (i+1)) accd (sH ρ vs)=YF g mt me ds [] (sH ρ vs),
   fun H' hN=>⟨ds.length-(i+1),by omega,rfl,hlt,hN⟩,fun x H3 y=> ?_⟩
  obtain⟨Hb3,d,g3,d1,d2⟩:=Y.yld i H2 x H3 Hb2 g2.b g2.bh g2.h hlt y
  have de:ds[i]=d:=by
   rw [bH hlt] at d1
   exact Option.some.inj d1
  rw [de] at e2
  simp only [YF] at e2
  cases q:g d (sH ρ vs) with
  |none=>
   rw [q] at e2
   exact absurd e2.symm h3
  |some ρ3=>
   rw [q] at e2
   simp only at e2
   have g23:=g2.trans g3
   refine hG Hf Hb3 H3 σ (sH ρ vs) ρ3 x d _ (R1.gw g23) d2 q fun σ4 R4 w4=>⟨w4,?_⟩
   have ho3:=g3.h _ _ ho2
   have hb3:Hb3 A=none:=g3.nw A hb2 (by rw [ho2];exact True.intro)
   cases qt:mt ρ3 with
   |bad=>
    rw [qt] at e2
    exact absurd e2.symm h3
   |ex c=>
    rw [qt] at e2
    exact absurd e2.symm h3
   |ok dt=>
    rw [qt] at e2
    cases dt with
    |bool b=>
     refine⟨Hf,Hb3,ρ3,R4,fun b' hb' Hb5 H5 g5=> ?_,fun c hc=>(by rw [qt] at hc;cases hc), .inl ⟨b,qt⟩⟩
     rw [qt] at hb'
     cases hb'
     cases b with
     |true=>
      simp only at e2
      cases qe:me ρ3 with
      |bad=>
       rw [qe] at e2
       exact absurd e2.symm h3
      |ex c=>
       rw [qe] at e2
       exact absurd e2.symm h3
      |ok de=>
       rw [qe] at e2
       simp only at e2
       by_cases hz:accd.length<sizeLine
       ·rw [if_pos hz] at e2
        show BV K W0 .dat me σ4 H5 _
        refine⟨Hf,Hb5,ρ3,R4.gw g5,fun d' hd' v' Hb6 H6 g6 r6=> ?_,fun c hc=>(by rw [qe] at hc;cases hc),fun z=>(by rw [qe] at z;cases z)⟩
        rw [qe] at hd'
        cases hd'
        have g36:=g3.trans (g5.trans g6)
        have ho6:=g36.h _ _ ho2
        have hb6:Hb6 A=none:=g36.nw A hb2 (by rw [ho2];exact True.intro)
        have gg:=g2.trans g36
        refine⟨acc,ho6,by rw [gW a2];exact hz,Hb6,acc++[v'],accd++[de],⟨fun a u qa=> ?_,gg.b,fun a u qa=> ?_,gg.nw⟩,hb6,upd_same,qT (lM g36.b a2) (.cons r6 .nil),e2⟩
        ·rw [upd_ne (ne_of_none qa hA)]
         exact gg.h a u qa
        ·rw [upd_ne (ne_of_none qa hb6)]
         exact gg.bh a u qa
       ·rw [if_neg hz] at e2
        exact absurd e2.symm h3
     |false=>
      simp only at e2
      show∃Hb' acc accd,_
      have g35:=g3.trans g5
      exact⟨Hb5,acc,accd,g2.trans g35,g35.nw A hb2 (by rw [ho2];exact True.intro),g35.h _ _ ho2,lM g35.b a2,e2⟩
    |_=>
     simp only at e2
     exact absurd e2.symm h3
 ·have e:i=ds.length:=by omega
  subst e
  rw [List.drop_length] at e2
  simp only [YF] at e2
  refine .inl ⟨Y.stop H2 g2.h,h1 (.list accd) e2.symm _ Hb2 H2 (g1.trans g2) ⟨A,rfl,fresh_back g1.h hA,hb2,_,ho2, .lst a2⟩⟩
theorem aeZ{K:ao}{σ:L2.St}{H:Hp}{Q:Bool→Hp→Prop}{Wx:WQ}(h:Vy K Wx (eC (.bool true)) σ H Q):tYes σ H Q:=by
 obtain⟨Hf,Hb,ρ,R,h1,_,_⟩:=h
 exact h1 true rfl Hb H (Gw.refl R.eb)
theorem PTs.imp{X:Cx}{e:List Expr}{t t' :TT}(h:PTs X e t)(i:∀σ H Q,t' σ H Q→t σ H Q):PTs X e t' :=⟨fun pins s σ H Q I q=>h.run pins s σ H Q I (i σ H Q q)⟩
abbrev DTs(X:Cx)(W:WQ)(ifs:List Expr)(m:EM):Prop:=PTs X ifs (Vy X.K W m)
theorem CW:DTs X W [] (eC (.bool true)):=PTs.imp pts_nil fun _ _ _=>aeZ
theorem aed(hN:X.N.Nodup)(hi:DIC X W tg iter mi)(ok:BlkOk X.N X.env.scope scope own)(hG:GOk X.K T g (own.map (·.2)))
 (hg:∀(s:Shared) (H:Hp) (C:Addr) (cl:List (Str×Addr)) (fp:List Addr),PG (X.blk s H scope (compEnvC scope cl C X.env) fp) tg T)
 (ht:∀(s:Shared) (H:Hp) (C:Addr) (cl:List (Str×Addr)) (fp:List Addr),DTs (X.blk s H scope (compEnvC scope cl C X.env) fp) W0 ifs mt)
 (he:∀(s:Shared) (H:Hp) (C:Addr) (cl:List (Str×Addr)) (fp:List Addr),DE (X.blk s H scope (compEnvC scope cl C X.env) fp) W0 .dat elt me) (hc:X.calm=true:=by rfl) (hs:∀x,foldedSetIterable iter X.env x=pure x:=by intro _;rfl):
 DE X W .new (.ListComp elt [⟨tg,iter,ifs,0⟩] scope pos) (Lq mi g mt me (own.map (·.2))):=PE.imp (pe_lc (tt:=Vy X.K W0 mt) (te:=BV X.K W0 .dat me) hc hN hi ok hg ht he hs) fun _ _ _=>adp hG
theorem Zk{rk:Kd}{i:Nat}{y:Str}{py spos:Pos}(hN:X.N.Nodup)(hsw:swapsWith (.ListComp elt [⟨tg,iter,ifs,0⟩] scope pos) (some (.Name y py)) spos.line X.env=pure true)(hi:DIC X W tg iter mi)(ok:BlkOk X.N X.env.scope scope own)(hG:GOk X.K T g (own.map (·.2)))
 (hg:∀(s:Shared) (H:Hp) (C:Addr) (cl:List (Str×Addr)) (fp:List Addr),PG (X.blk s H scope (compEnvC scope cl C X.env) fp) tg T)
 (ht:∀(s:Shared) (H:Hp) (C:Addr) (cl:List (Str×Addr)) (fp:List Addr),DTs (X.blk s H scope (compEnvC scope cl C X.env) fp) W0 ifs mt)
 (he:∀(s:Shared) (H:Hp) (C:Addr) (cl:List (Str×Addr)) (fp:List Addr),DE (X.blk s H scope (compEnvC scope cl C X.env) fp) W0 .dat elt me) (hy:X.N[i]? =some y:=by rfl) (hyl:X.env.scope.names.lookup y=some .local:=by rfl) (hc:X.calm=true:=by rfl) (hs:∀x,foldedSetIterable iter X.env x=pure x:=by intro _;rfl) (ho:xM W.pin i:=by intro _ z;first|(cases z;done)|exact absurd (dO z).1 (by decide)|(simp at z;done)):
 DS X W rk (.Assign [.Name y py] (.ListComp elt [⟨tg,iter,ifs,0⟩] scope pos) spos) (gD i (Lq mi g mt me (own.map (·.2)))):=PS.imp (ps_setLc (tt:=Vy X.K W0 mt) (te:=BV X.K W0 .dat me) hc hN hy hyl hsw hi ok hg ht he hs) fun E σ H ⟨Hf,Hb,ρ,R,h⟩=>by
 refine adp hG ⟨Hf,Hb,ρ,R,fun d hd v Hb' H' g r=> ?_,fun c hc Hb' H' g=> ?_,fun z=> ?_⟩
 ·simp only [gD,hd] at h
  have hl:∃ds,d= .list ds:=by
   unfold Lq at hd
   split at hd
   ·rename_i ds hds
    rcases Mz _ mt me ds [] (sH ρ (own.map (·.2))) with z|⟨es,z⟩
    ·rw [z] at hd
     cases hd
    ·rw [z] at hd
     cases hd
     exact⟨es,rfl⟩
   ·cases hd
   ·cases hd
  obtain⟨ds,rfl⟩:=hl
  obtain⟨Hb2,g2,r2⟩:=Rs.frz g r
  exact h _ Hb2 H' ((R.gw g2).Ji ho r2) (g2.bw R.ef)
 ·simp only [gD,hc] at h
  exact h _ Hb' H' (R.gw g) (g.bw R.ef)
 ·simp only [gD,z] at h
  exact h
end
end DL
namespace DL
open PySem L2 Evl
def QM:D→ER
 | .int i=> .ok (.int (-i))
 |_=> .bad
def Eo(g:D→ER)(m:EM):EM:=fun ρ=>(m ρ).bind g
theorem Us{X:Cx}{W:WQ}{a:Expr}{m:EM}{pos:Pos}(h:DE X W .bor a m):DE X W .dat (.UnaryOp .USub a pos) (Eo QM m):=PE.imp (pe_un un_neg h) fun σ H Q ⟨Hf,Hb,ρ,R,h1,h2,h3⟩=>by
 refine⟨Hf,Hb,ρ,R,fun d hd v Hb1 H1 g1 r1=> ?_,fun c hc=>h2 c (by simp [Eo,hc,ER.bind]),fun z=>h3 (by simp [Eo,z,ER.bind])⟩
 cases d with
 |int i=>exact⟨i,Bo.int r1,h1 (.int (-i)) (by simp [Eo,hd,ER.bind,QM]) _ Hb1 H1 g1 qN⟩
 |_=>exact absurd (by simp [Eo,hd,ER.bind,QM]) h3
def Hz(neg:Bool):D→D→ER
 | .str x, .str z=>(match x.cps.toList with
   |[c]=> .ok (.bool (if neg then !decide (c∈z.cps.toList) else decide (c∈z.cps.toList)))
   |_=> .bad)
 |_,_=> .bad
theorem YS(neg:Bool):lg (Hz neg):=fun x y c h=>by
 cases x<;>cases y<;>simp only [Hz] at h<;>first|cases h;done|(split at h<;>cases h)
theorem aa1{x:Str}{c:Nat}(h:x.cps.toList=[c]):x=⟨#[c]⟩:=by
 obtain⟨a⟩:=x
 obtain⟨l⟩:=a
 have e:l=[c]:=h
 rw [e]
section
variable{X:Cx}
theorem ago:Fp X (compareOp .In) .dat (Hz false):=by
 intro pins s σ H x y v u Q I rx ry h
 obtain⟨Hb,dx,dy,d,eb,bx,byy,hg,q⟩:=h
 cases dx<;>cases dy<;>simp only [Hz] at hg<;>first|cases hg;done|skip
 split at hg
 ·rename_i c hc
  cases hg
  exact op_in_sign pins s σ H x y v u Q I rx ry ⟨c,_,by rw [bx.str,aa1 hc],byy.str,q _ Hb H (Gw.refl eb) mJ⟩
 ·cases hg
theorem S8:Fp X (compareOp .NotIn) .dat (Hz true):=by
 intro pins s σ H x y v u Q I rx ry h
 obtain⟨Hb,dx,dy,d,eb,bx,byy,hg,q⟩:=h
 cases dx<;>cases dy<;>simp only [Hz] at hg<;>first|cases hg;done|skip
 split at hg
 ·rename_i c hc
  cases hg
  exact op_notIn_sign pins s σ H x y v u Q I rx ry ⟨c,_,by rw [bx.str,aa1 hc],byy.str,q _ Hb H (Gw.refl eb) mJ⟩
 ·cases hg
end
def DP:D→Bool
 | .none=>true
 | .bool _=>true
 | .int _=>true
 | .str _=>true
 |_=>false
def vOf:D→V
 | .bool b=> .bl b
 | .int i=> .int i
 | .str x=> .str x
 |_=> .non
def YX(neg:Bool):D→D→ER
 |x, .tuple ds=>if DP x&&ds.all DP then .ok (.bool (if neg then !inV (vOf x) (ds.map vOf) else inV (vOf x) (ds.map vOf))) else .bad
 |x, .list ds=>if DP x&&ds.all DP then .ok (.bool (if neg then !inV (vOf x) (ds.map vOf) else inV (vOf x) (ds.map vOf))) else .bad
 |_,_=> .bad
theorem agG(neg:Bool):lg (YX neg):=fun x y c h=>by
 cases y<;>simp only [YX] at h<;>first|cases h;done|(split at h<;>cases h)
theorem aef{K:ao}{H:Hp}{v:V}{d:D}(h:DP d=true)(r:Dr K H v d):v=vOf d∧flatV v=true:=by
 cases r<;>simp [DP] at h<;>exact⟨rfl,rfl⟩
theorem aaL{K:ao}{Hb H:Hp}{v:V}{d:D}(h:DP d=true)(r:Bo K Hb H v d):v=vOf d∧flatV v=true:=by
 rcases r with r|⟨p,_,o,_,r⟩
 ·exact aef h r
 ·cases r<;>simp [DP] at h
theorem Ov{K:ao}{H:Hp}:∀{vs:List V} {ds:List D},ds.all DP=true→iY K H vs ds→vs=ds.map vOf∧vs.all flatV=true
 |_,_,_, .nil=>⟨rfl,rfl⟩
 |_,_,h, .cons a b=>by
  simp only [List.all_cons,cW] at h
  obtain⟨h1,h2⟩:=aef h.1 a
  obtain⟨h3,h4⟩:=Ov h.2 b
  exact⟨by rw [h1,h3];rfl,by simp only [List.all_cons,h2,h4];rfl⟩
section
variable{X:Cx}
theorem ahu:Fp X (compareOp .In) .dat (YX false):=by
 intro pins s σ H x y v u Q I rx ry h
 obtain⟨Hb,dx,dy,d,eb,bx,byy,hg,q⟩:=h
 cases dy<;>simp only [YX] at hg<;>first|cases hg;done|skip
 ·split at hg
  ·rename_i hz
   cases hg
   rw [cW] at hz
   obtain⟨p,xs,e1,s1,a1⟩:=byy.lst eb
   obtain⟨f1,f2⟩:=aaL hz.1 bx
   obtain⟨f3,f4⟩:=Ov hz.2 a1
   refine op_in_seq pins s σ H x y v u Q I rx ry ⟨p,xs,e1, .inl s1,f2,f4,?_⟩
   rw [f1,f3]
   exact q _ Hb H (Gw.refl eb) mJ
  ·cases hg
 ·split at hg
  ·rename_i hz
   cases hg
   rw [cW] at hz
   obtain⟨p,xs,e1,s1,a1⟩:=byy.tup eb
   obtain⟨f1,f2⟩:=aaL hz.1 bx
   obtain⟨f3,f4⟩:=Ov hz.2 a1
   refine op_in_seq pins s σ H x y v u Q I rx ry ⟨p,xs,e1, .inr s1,f2,f4,?_⟩
   rw [f1,f3]
   exact q _ Hb H (Gw.refl eb) mJ
  ·cases hg
end
def eS0(f:Str→D)(m:EM):EM:=fun ρ=>(m ρ).bind fun d=>match d with
 | .str z=> .ok (f z)
 |_=> .bad
section
variable{X:Cx}{W:WQ}{o e:Expr}{m n:EM}{apos pos:Pos}
theorem adH{id:String}{name:Str}(f:Str→Bool)(slot:Slot "str" name id)(ty:typeOf (.builtin id)=pure (.type "method_descriptor"))(rule:MtR X id (fun x xs H Q=>∃a,x= .str a∧xs=[]∧True∧Q (.bl (f a)) H))(ho:DE X W .bor o m)
 (hbase:attributeBase o name X.env (eval o X.env)=eval o X.env:=by rfl) (hline:(apos.endLine==pos.line)=true:=by rfl):DE X W .dat (.Call (.Attribute o name apos) [] [] pos) (eS0 (fun z=> .bool (f z)) m):=
 PE.imp (pe_m0 slot ty rule ho hbase hline) fun σ H Q ⟨Hf,Hb,ρ,R,h1,h2,h3⟩=>by
  refine⟨Hf,Hb,ρ,R,fun d hd v Hb1 H1 g1 r1=> ?_,fun c hc=>h2 c (by simp [eS0,hc,ER.bind]),fun z=>h3 (by simp [eS0,z,ER.bind])⟩
  cases d with
  |str z=>
   have e1:=Bo.str r1
   exact⟨⟨z,e1⟩,z,e1,rfl,trivial,h1 (.bool (f z)) (by simp [eS0,hd,ER.bind]) _ Hb1 H1 g1 mJ⟩
  |_=>exact absurd (by simp [eS0,hd,ER.bind]) h3
end
end DL
namespace DL
open PySem L2 Evl
def keyOf:D→Option Key
 | .int i=>some (.inl i)
 | .str x=>some (.inr x)
 |_=>none
theorem yQ(k:Key):keyOf (keyD k)=some k:=by cases k<;>rfl
def Ah:List (D×D)→Bool
 |(.none,_)::_=>false
 |_=>true
def pK(ds:List (D×D))(k:Key):Option D:=(ds.find? fun q=>decide (keyOf q.1=some k)).map (·.2)
def o8(ds:List (D×D))(k:Key)(v:D):List (D×D):=
 if(ds.any fun q=>decide (keyOf q.1=some k))=true then ds.map (fun q=>if keyOf q.1=some k then(q.1,v) else q) else ds++[(keyD k,v)]
abbrev PK(K:ao)(Hb:Hp):List (Key×V)→List (D×D)→Prop:=Paired (fun(p:Key×V) (q:D×D)=>q.1=keyD p.1∧Dr K Hb p.2 q.2)
section
variable{K:ao}{Hb H:Hp}
theorem GP{k:Key}:∀{kvs:List (Key×V)} {ds:List (D×D)},PK K Hb kvs ds→(valV kvs k=none∧pK ds k=none)∨∃v d,valV kvs k=some v∧pK ds k=some d∧Dr K Hb v d
 |_,_, .nil=> .inl ⟨rfl,rfl⟩
 |_,_, .cons (a:=p) (b:=q) (l₁:=kvs) (l₂:=ds) h r=>by
  have e:keyOf q.1=some p.1:=by rw [h.1,yQ]
  by_cases z:p.1=k
  ·refine .inr ⟨p.2,q.2,valV_pos z,?_,h.2⟩
   have e2:keyOf q.1=some k:=by rw [e,z]
   simp [pK,dR,e2]
  ·have e2:¬keyOf q.1=some k:=by
    rw [e]
    exact fun w=>z (Option.some.inj w)
   have e3:pK (q::ds) k=pK ds k:=by simp [pK,dR,e2]
   rw [valV_neg z,e3]
   exact GP r
theorem acP{k:Key}:∀{kvs:List (Key×V)} {ds:List (D×D)},PK K Hb kvs ds→(kvs.any fun kv=>decide (kv.1=k))=ds.any fun q=>decide (keyOf q.1=some k)
 |_,_, .nil=>rfl
 |_,_, .cons (a:=p) (b:=q) h r=>by
  have e:keyOf q.1=some p.1:=by rw [h.1,yQ]
  rw [dX,dX,acP r,e]
  congr 1
  simp
theorem adI{k:Key}{v:V}{d:D}(hv:Dr K Hb v d):∀{kvs:List (Key×V)} {ds:List (D×D)},PK K Hb kvs ds→PK K Hb (kvs.map fun kv=>if kv.1=k then(kv.1,v) else kv) (ds.map fun q=>if keyOf q.1=some k then(q.1,d) else q)
 |_,_, .nil=> .nil
 |_,_, .cons (a:=p) (b:=q) h r=>by
  have e:keyOf q.1=some p.1:=by rw [h.1,yQ]
  rw [bf,bf]
  refine .cons ?_ (adI hv r)
  by_cases z:p.1=k
  ·rw [if_pos z,if_pos (by rw [e,z])]
   exact⟨h.1,hv⟩
  ·rw [if_neg z,if_neg (by rw [e];exact fun w=>z (Option.some.inj w))]
   exact h
theorem Ff{α β:Type}{F:α→β→Prop}:∀{l l' :List α} {m m' :List β},Paired F l m→Paired F l' m' →Paired F (l++l') (m++m')
 |_,_,_,_, .nil,h=>h
 |_,_,_,_, .cons a b,h=> .cons a (Ff b h)
theorem ZF{k:Key}{v:V}{d:D}(hv:Dr K Hb v d){kvs:List (Key×V)}{ds:List (D×D)}(h:PK K Hb kvs ds):PK K Hb (putK kvs k v) (o8 ds k d):=by
 unfold putK o8
 rw [acP h]
 split
 ·exact adI hv h
 ·exact Ff h (.cons ⟨rfl,hv⟩ .nil)
theorem Nr{kvs:List (Key×V)}{ds:List (D×D)}(h:PK K Hb kvs ds):kvs.length=ds.length:=Paired.length h
theorem Bo.key{v:V}{d:D}{k:Key}(h:Bo K Hb H v d)(e:keyOf d=some k):v=kV k:=by
 cases d with
 |int i=>
  cases e
  exact h.int
 |str x=>
  cases e
  exact h.str
 |_=>cases e
theorem Lz{K:ao}{Hb:Hp}:∀{ds:List (D×D)} {kvs:List (Key×V)},Qv K Hb kvs ds→PK K Hb kvs ds
 |_,_, .nil=> .nil
 |_,_, .cons a b=> .cons ⟨rfl,a⟩ (Lz b)
theorem aas{K:ao}{Hb:Hp}:∀{kvs:List (Key×V)} {ds:List (D×D)},PK K Hb kvs ds→Qv K Hb kvs ds
 |_,_, .nil=> .nil
 |_,_, .cons (a:=(k,v)) (b:=(x,y)) h r=>by
  obtain⟨h1,h2⟩:=h
  have h1:x=keyD k:=h1
  subst h1
  exact .cons h2 (aas r)
theorem Bo.dict{v:V}{ds:List (D×D)}(e:Ex Hb H)(h:Bo K Hb H v (.dict ds))(hm:Ah ds=true):∃p kvs,v= .ref p∧Rd H p (.dK kvs)∧PK K Hb kvs ds:=by
 rcases h with h|⟨p,rfl,o,h2,h3⟩
 ·cases h with
  |dict0 a=>exact⟨_,[],rfl,ex_rd e a, .nil⟩
  |Br a b=>exact⟨_,_,rfl, .inr ⟨_,e _ _ a⟩,Lz b⟩
  |Gq a b=>cases hm
 ·cases h3 with
  |dK a=>exact⟨p,_,rfl,h2.rd,a⟩
  |dT a=>cases hm
end
def jF:D→D→ER
 | .dict ds,k=>if Ah ds=true then(match keyOf k with
   |some k=>(match pK ds k with
    |some v=> .ok v
    |none=> .bad)
   |none=> .bad) else .bad
 |_,_=> .bad
def xV(neg:Bool):D→D→ER
 |k, .dict ds=>if Ah ds=true then(match keyOf k with
  |some k=> .ok (.bool ((pK ds k).isSome !=neg))
  |none=> .bad) else .bad
 |_,_=> .bad
theorem aen:lg jF:=fun x y c h=>by
 cases x<;>simp only [jF] at h<;>(repeat' split at h)<;>cases h
theorem adZ(b:Bool):lg (xV b):=fun x y c h=>by
 cases y<;>simp only [xV] at h<;>(repeat' split at h)<;>cases h
section
variable{X:Cx}{W:WQ}{a b o e f:Expr}{ma mb mc:EM}{pos apos cpos:Pos}
theorem Kr{K:ao}{Hb:Hp}{k:Key}{kvs:List (Key×V)}{ds:List (D×D)}(h:PK K Hb kvs ds):(valV kvs k).isSome=(pK ds k).isSome:=by
 rcases GP (k:=k) h with⟨h1,h2⟩|⟨v,d,h1,h2,_⟩<;>rw [h1,h2]<;>rfl
theorem ag8(hu:X.A.units+64<cLine):Fp X (compareOp .In) .dat (xV false):=by
 intro pins s σ H x y v u Q I rx ry h
 obtain⟨Hb,dx,dy,d,eb,bx,byy,hg,q⟩:=h
 cases dy with
 |dict ds=>
  have hm:Ah ds=true:=by
   cases qm:Ah ds with
   |true=>rfl
   |false=>simp [xV,qm] at hg
  simp only [xV,hm,if_true] at hg
  split at hg
  ·rename_i k hk
   cases hg
   obtain⟨p,kvs,rfl,hd,pk⟩:=byy.dict eb hm
   rw [bx.key hk] at rx
   cases(show u=Value.ref p from ry)
   refine d_in (o:=valV kvs k) (by omega) I (.inl ⟨kvs,k,hd,rfl,rfl⟩) rx fun s' I' => ?_
   rw [Kr pk]
   exact⟨.bl (pK ds k).isSome,H,I',rfl,by
    have:=q (.bl (pK ds k).isSome) Hb H (Gw.refl eb)
    rw [Bool.bne_false] at this
    exact this mJ⟩
  ·cases hg
 |_=>cases dx<;>simp [xV] at hg
theorem abf(hu:X.A.units+64<cLine):Fp X (compareOp .NotIn) .dat (xV true):=by
 intro pins s σ H x y v u Q I rx ry h
 obtain⟨Hb,dx,dy,d,eb,bx,byy,hg,q⟩:=h
 cases dy with
 |dict ds=>
  have hm:Ah ds=true:=by
   cases qm:Ah ds with
   |true=>rfl
   |false=>simp [xV,qm] at hg
  simp only [xV,hm,if_true] at hg
  split at hg
  ·rename_i k hk
   cases hg
   obtain⟨p,kvs,rfl,hd,pk⟩:=byy.dict eb hm
   rw [bx.key hk] at rx
   cases(show u=Value.ref p from ry)
   refine d_notIn (o:=valV kvs k) (by omega) I (.inl ⟨kvs,k,hd,rfl,rfl⟩) rx fun s' I' => ?_
   rw [Kr pk]
   exact⟨.bl (!(pK ds k).isSome),H,I',rfl,by
    have:=q (.bl (!(pK ds k).isSome)) Hb H (Gw.refl eb)
    rw [Bool.bne_true] at this
    exact this mJ⟩
  ·cases hg
 |_=>cases dx<;>simp [xV] at hg
theorem nJ(hu:X.A.units+64<cLine)(ha:DE X W .bor a ma)(hb:DE X W .bor b mb)(hs:NoSl b:=by exact fun _ _=>rfl):DE X W .dat (.Subscript a b pos) (eG jF ma mb):=PE.imp (pe_dget (by omega) ha hb hs) fun σ H Q ⟨Hf,Hb,ρ,R,h1,h2,h3⟩=>by
 refine⟨Hf,Hb,ρ,R,fun d hd v Hb1 H1 g1 r1=> ?_,fun c hc Hb1 H1 g1=>h2 c (by simp [eG,hc,ER.bind]) Hb1 H1 g1,fun z=>h3 (by simp [eG,z,ER.bind])⟩
 refine⟨Hf,Hb1,ρ,R.gw g1,fun d2 hd2 v2 Hb2 H2 g2 r2=> ?_,fun c hc Hb2 H2 g2=>h2 c (by simp [eG,hd,hc,ER.bind]) Hb2 H2 (g1.trans g2),fun z=>h3 (by simp [eG,hd,z,ER.bind])⟩
 have e:eG jF ma mb ρ=jF d d2:=by simp [eG,hd,hd2,ER.bind]
 rw [e] at h1 h3
 cases d with
 |dict ds=>
  have hm:Ah ds=true:=by
   cases qm:Ah ds with
   |true=>rfl
   |false=>exact absurd (by simp [jF,qm]) h3
  cases hk:keyOf d2 with
  |none=>exact absurd (by simp only [jF,hm,if_true,hk]) h3
  |some k=>
   obtain⟨p,kvs,rfl,hd,pk⟩:=Bo.dict g2.bh (Bo.ex g2.b g2.h r1) hm
   rcases GP (k:=k) pk with⟨z1,z2⟩|⟨v,d,z1,z2,z3⟩
   ·exact absurd (by simp only [jF,hm,if_true,hk,z2]) h3
   ·exact⟨p,v,rfl, .inl ⟨kvs,k,hd,r2.key hk,z1.symm⟩,h1 d (by simp only [jF,hm,if_true,hk,z2]) v Hb2 H2 (g1.trans g2) z3⟩
 |_=>exact absurd rfl h3
def Jv:D→D→ER
 | .dict ds,k=>if Ah ds=true then(match keyOf k with
   |some k=> .ok ((pK ds k).getD .none)
   |none=> .bad) else .bad
 |_,_=> .bad
theorem agB{H:Hp}{p:Addr}{kvs:List (Key×V)}(h:Rd H p (.dK kvs)):IsD H p:= .inl ⟨kvs,h⟩
theorem Di:DE X W .new (.Dict [] [] pos) (eC (.dict [])):=PE.imp pe_dnewK fun σ H Q ⟨Hf,Hb,ρ,R,h1,h2,h3⟩=>fun p hp=>
 h1 (.dict []) rfl _ _ _ (Gw.new R.eb hp) ⟨p,rfl,hp,fresh_back R.eb hp,_,upd_same, .dK .nil⟩
def eD1(mk mv:EM):EM:=fun ρ=>(mk ρ).bind fun k=>(mv ρ).bind fun v=>(match keyOf k with
 |some _=> .ok (.dict [(k,v)])
 |none=> .bad)
theorem aii{k v:Expr}{mk mv:EM}(hk:DE X W .bor k mk)(hv:DE X W .dat v mv):DE X W .new (.Dict [some k] [v] pos) (eD1 mk mv):=
 PE.imp (pe_disp (pps_cons hk hv pps_nil) rfl rfl (by simp) (by simp)) fun σ H Q ⟨Hf,Hb,ρ,R,h1,h2,h3⟩=>by
 intro p hp
 have g0:=Gw.new (o:= .dK []) R.eb hp
 have hb0:Hb p=none:=fresh_back R.eb hp
 refine⟨Hf,Hb,ρ,R.gw g0,fun d hd x Hb1 H1 g1 r1=> ?_,fun c hc Hb1 H1 g1=>h2 c (by simp [eD1,hc,ER.bind]) Hb1 H1 (g0.trans g1),fun z=>h3 (by simp [eD1,z,ER.bind])⟩
 refine⟨Hf,Hb1,ρ,R.gw (g0.trans g1),fun d2 hd2 y Hb2 H2 g2 r2=> ?_,fun c hc Hb2 H2 g2=>h2 c (by simp [eD1,hd,hc,ER.bind]) Hb2 H2 ((g0.trans g1).trans g2),fun z=>h3 (by simp [eD1,hd,z,ER.bind])⟩
 cases hk:keyOf d with
 |none=>exact absurd (by simp [eD1,hd,hd2,hk,ER.bind]) h3
 |some k=>
  have gg:=(g0.trans g1).trans g2
  have hp2:H2 p=some (.dK []):=(g1.trans g2).h _ _ upd_same
  have hb2:Hb2 p=none:=(g1.trans g2).nw p hb0 (by rw [upd_same];exact True.intro)
  refine⟨hp2,[(k,y)],by rw [bf,dN,r1.key hk],by simp,?_⟩
  have kd:d=keyD k:=by
   cases d with
   |int i=>cases hk;rfl
   |str i=>cases hk;rfl
   |_=>cases hk
  refine h1 (.dict [(d,d2)]) (by simp [eD1,hd,hd2,hk,ER.bind]) _ Hb2 _ ⟨fun a u q=>by rw [upd_ne (ne_of_none q hp)];exact gg.h a u q,gg.b,fun a u q=>by rw [upd_ne (ne_of_none q hb2)];exact gg.bh a u q,gg.nw⟩ ⟨p,rfl,hp,hb2,_,upd_same, .dK ?_⟩
  exact .cons ⟨kd,r2⟩ .nil
def oM(i:Nat)(mk mv:EM):SM:=fun ρ=>match mv ρ with
 | .ok d=>(match ρ[i]? with
   |some (.own (.dict ds))=>if Ah ds=true then(match mk ρ with
    | .ok k=>(match keyOf k with
      |some k=>if ds.length<sizeLine then .nx (ρ.set i (.own (.dict (o8 ds k d)))) else .bad
      |none=> .bad)
    | .ex c=> .ex c ρ
    | .bad=> .bad) else .bad
   |_=> .bad)
 | .ex c=> .ex c ρ
 | .bad=> .bad
theorem Dq{rk:Kd}(i:Nat){x:Str}{k v:Expr}{mk mv:EM}{p pos' :Pos}(hu:X.A.units+64<cLine)(hk:DE X W .bor k mk)(hv:DE X W .dat v mv)(hN:X.N[i]? =some x:=by rfl)(hvis:Vis X.env.scope x:=by first|exact Or.inl rfl|exact Or.inr (Or.inl rfl)|exact Or.inr (Or.inr rfl))(hd:(x==("__debug__":Str))=false:=by decide)
 (hcd:(x==("__classdict__":Str))=false:=by decide) (hs:swapsWith v (some (.Subscript (.Name x p) k pos')) pos.line X.env=pure false:=by rfl):DS X W rk (.Assign [.Subscript (.Name x p) k pos'] v pos) (oM i mk mv):=
 PS.imp (ps_dput (by omega) (pe_var hN hvis hd hcd) hk hv hs) fun E σ H ⟨Hf,Hb,ρ,R,h⟩=>by
 unfold oM at h
 refine⟨Hf,Hb,ρ,R,fun d hd v Hb1 H1 g1 r1=> ?_,fun c hc Hb1 H1 g1=> ?_,fun z=> ?_⟩
 ·rw [hd] at h
  simp only at h
  split at h
  ·rename_i ds q
   have hm:Ah ds=true:=by
    cases qm:Ah ds with
    |true=>rfl
    |false=>simp [qm,kY] at h
   simp only [hm,if_true] at h
   have R1:=R.gw g1
   obtain⟨p,h1,⟨o,ho,hc⟩,h3,h4⟩:=R1.own i _ q
   cases hc with
   |dT al=>cases hm
   |dK al=>
    refine⟨_,h1,Hf,Hb1,ρ,R1,fun d2 hd2 y Hb2 H2 g2 r2=> ?_,fun c hc Hb2 H2 g2=> ?_,fun z=> ?_⟩
    ·rw [hd2] at h
     simp only at h
     split at h
     ·rename_i kk hkk
      split at h
      ·rename_i hz
       have ho' :=g2.h _ _ ho
       have R2:=R1.gw g2
       have hb2:Hb2 p=none:=g2.nw p h4 (by rw [ho];exact True.intro)
       have al2:PK X.K Hb2 _ ds:=Paired.imp (fun _ _ q=>⟨q.1,lG g2.b q.2⟩) al
       refine⟨p,_,rfl, .inl ⟨_,kk,ho',r2.key hkk,by rw [Nr al];exact hz,rfl⟩,?_⟩
       exact h σ Hb2 _ (R2.write q h1 (.dK (ZF (lG g2.b r1) al2))) (((g1.trans g2).bw R.ef).trans (Bw.upd g2.bh hb2))
      ·exact h.elim
     ·exact h.elim
    ·rw [hc] at h
     exact h σ Hb2 H2 (R.gw (g1.trans g2)) ((g1.trans g2).bw R.ef)
    ·rw [z] at h
     exact h.elim
  ·exact h.elim
 ·rw [hc] at h
  exact h σ Hb1 H1 (R.gw g1) (g1.bw R.ef)
 ·rw [z] at h
  exact h.elim
end
end DL
set_option maxHeartbeats 2000000
namespace DL
open PySem L2 Evl PyProof.Rows
def agn(td:TE):TE:=fun σ H Q=>td σ H fun x H1=>∃(a:Addr) (kvs:List (Key×V)) (ks:List Int),x= .ref a∧Rd H1 a (.dK kvs)∧kvs.map (·.1)=ks.map Sum.inl∧
 ∀(ys:List Int) (p:Addr),ys.Perm ks→ys.Pairwise (·≤·)→H1 p=none→Q (.ref p) (upd H1 p (.lst (ys.map V.int)))
theorem Wf{X:Cx}{e:Expr}{td:TE}{p pos apos cpos:Pos}(hc:X.calm=true)(hg:Gl X "sorted")(hm:X.mg "sorted"=none)(he:PE X e td)(hbase:attributeBase e "keys" X.env (eval e X.env)=eval e X.env:=by rfl)
 (hline:(apos.endLine==cpos.line)=true:=by rfl) (na:starEach [.Call (.Attribute e "keys" apos) [] [] cpos] X.env=(false,eval (.Call (.Attribute e "keys" apos) [] [] cpos) X.env)::starEach [] X.env:=by rfl)
 (hpl:(backTo pos (starEach [] X.env)).any (·.1)=false:=by rfl):
 PE X (.Call (.Name "sorted" p) [.Call (.Attribute e "keys" apos) [] [] cpos] [] pos) (agn td):=by
 refine⟨fun pins s σ H Q I h=> ?_⟩
 refine Call_ (ld_blt I hg hm (show bootBuiltins "sorted"=some (.builtin "sorted") by decide+kernel) (PyProof.Rows.callWith_builtin1 (args_cons ?_ na) na hpl))
 refine wpAny_Call_method (T:="dict") (id:="dict.keys") hbase rfl hline F.plainAttrs_dict F.slot_dict_keys F.type_dict_keys (thn (he.run pins s σ H _ I h) fun u s1 ⟨x,H1,I1,rx,d,kvs,ks,ex,hd,hks,q⟩=> ?_)
 subst ex
 obtain rfl:u=Value.ref d:=rx
 obtain⟨z,lo,vs,rel,dd⟩:=dk_rd I1.hok hd
 refine⟨dd.typeIs,dd.mapOf.noDict,?_⟩
 show wpAny _ _ (callWith cpos (.builtin "dict.keys") [.ref d] [] []) _ X.xe s1
 refine method_meetsIn F.slot_dict_keys F.entry_dict_keys rfl (PySem.evalArgs_none ⟨rfl,dd.typeIs,F.args_dict_keys_1 _,_,PySem.W.kdl_meets_keys (mixKind X.prog X.w) d lo,⟨vs,dd⟩,args_nil ?_⟩)
 have I2:Inv X pins σ H1 {s1 with heap:=s1.heap.push {cls:= .type "dict_keys",data:= .fields #[.ref d]}}:=I1.kept (t' :=s1.toks) fun b ob q=>Heap.get?_push_of_some _ q
 have hv:PySem.W.KdlKeysView (s1.heap.push {cls:= .type "dict_keys",data:= .fields #[.ref d]}) s1.heap.objs.size d:=⟨_,Heap.get?_push_size _ rfl,rfl,rfl⟩
 obtain⟨z2,lo2,vs2,rel2,dd2⟩:=dk_rd I2.hok hd
 obtain⟨ep,hat⟩:=dd2.dictAt
 have hkeys:vs2.map (·.1)=ks.map Sum.inl:=rel2.keys.symm.trans hks
 have hl:vs2.length=ks.length:=by
  have e:=congrArg List.length hkeys
  rw [aC,aC] at e
  exact e
 have hl2:kvs.length=vs2.length:=rel2.length
 have h16:vs2.length≤sizeLine:=by rw [←hl2];exact z2
 refine Calls.call_function_entry PyProof.Rows.kind_sorted PyProof.Rows.plain_sorted PyProof.Rows.entry_sorted (PyProof.Rows.args_sorted1 _) ?_
 unfold Builtin.«sorted»
 refine wpAny_bind (m:=checkCount "sorted" 1 1 _) (wpAny_pure ?_)
 refine wpAny_bind (PySem.W.kdu_collect (A:=X.A.in1) (PySem.W.kdl_keys (knd:=mixKind X.prog X.w) (kvs:=vs2) (ep:=ep) (r:=s1.heap.objs.size) (d:=d)) (I2.ok.hd hc) ⟨hv,hat⟩ h16 fun h' tk acc hk hacc=> ?_)
 have hal:acc.toList.length=ks.length:=by rw [Array.length_toList,hacc.1,hl]
 have hS:IntsAre acc.toList ks:=ints_each hal fun j v e=>by
  obtain⟨k,x,e1,e2⟩:=hacc.2 j v (by rw [←Array.getElem?_toList];exact e)
  have e3:(vs2.map (·.1))[j]? =some k:=by rw [aF,e1];rfl
  rw [hkeys,aF] at e3
  cases e4:ks[j]? with
  |none=>rw [e4] at e3;cases e3
  |some y=>
   rw [e4] at e3
   have e5:Sum.inl y=k:=Option.some.inj e3
   subst e5
   rcases keyIs_shape (show keyIs (Sum.inl y) v=true from e2) with⟨i,t,ek,ev⟩|⟨z,t,ek,ev⟩
   ·cases ek
    exact⟨y,t,rfl,ev⟩
   ·cases ek
 have I3:Inv X pins σ H1 {s1 with heap:=h',toks:=tk}:=I2.kept (t' :=tk) hk
 have hz:acc.toList.length≤sizeLine:=by rw [hal,←hl];exact h16
 refine wpAny_bind (wpAny_newList ?_ hz)
 have hoL:(h'.push (seqObj "list" acc.toList.toArray 0)).get? h'.objs.size=some (seqObj "list" acc.toList.toArray 0):=Heap.get?_push_size _ rfl
 show wpAny _ _ _ _ _ {s1 with heap:=h'.push (seqObj "list" acc.toList.toArray 0),toks:=tk}
 refine wpAny_bind (wpAny_holding (wpAny_call_entry PyProof.Rows.slot_list_sort ⟨_,hoL,rfl⟩ PyProof.Rows.entry_list_sort
  (SrtO.list_sort_ord (s:={s1 with heap:=h'.push (seqObj "list" acc.toList.toArray 0),toks:=tk}) SrtO.swo_int hoL hz (fun h2=>SrtO.ints_sortable hS h2) fun out h1 h2=>⟨_,rfl,?_⟩) (PyProof.Rows.args_list_sort _)))
 obtain⟨k1,k2,k3⟩:=SrtO.ints_out hS h1 h2
 obtain⟨e',he'⟩:=PyProof.Rows.sortedHeap_at (vs:=acc.toList) (out:=out.toArray) hoL
 have hlen:((out.map SrtO.iv).map V.int).length≤sizeLine:=by
  rw [aC,k2.length_eq,←hal]
  exact hz
 refine wpAny_pure ⟨_,rfl, .ref h'.objs.size,upd H1 h'.objs.size (.lst ((out.map SrtO.iv).map V.int)),I3.laid (t' :=tk) (fun b u e=> ?_) (bD _)
  (show ObjOk X.prog X.w _ _ _ (.lst ((out.map SrtO.iv).map V.int)) from⟨hlen,out,e',vals_of_ints k1,he'⟩),rfl,q _ _ k2 k3 (I3.hok.fresh (bD _))⟩
 have hb:b<h'.objs.size:=Heap.lt_size e
 rw [PyProof.Rows.sortedHeap_old (Nat.ne_of_lt hb) (by rw [size_push'];exact Nat.lt_succ_of_lt hb)]
 exact Heap.get?_push_of_some _ e
theorem Ci:∀{l m:List Int},l.Perm m→l.Pairwise (·≤·)→m.Pairwise (·≤·)→l=m
 |[],m,h,_,_=>(List.Perm.nil_eq h)
 |a::l,[],h,_,_=>by have:=h.length_eq;simp at this
 |a::l,b::m,h,h1,h2=>by
  obtain⟨p1,q1⟩:=dG.mp h1
  obtain⟨p2,q2⟩:=dG.mp h2
  have ab:a=b:=by
   have ha:a∈b::m:=h.mem_iff.mp aY
   have hb:b∈a::l:=h.mem_iff.mpr aY
   have x1:b≤a:=by
    rcases aO.mp ha with e|e
    ·omega
    ·exact p2 a e
   have x2:a≤b:=by
    rcases aO.mp hb with e|e
    ·omega
    ·exact p1 b e
   omega
  subst ab
  rw [Ci (List.Perm.cons_inv h) q1 q2]
def srt(ks:List Int):List Int:=ks.mergeSort (fun a b=>decide (a≤b))
theorem V7(ks:List Int):(srt ks).Perm ks:=List.mergeSort_perm ks _
theorem PN(ks:List Int):(srt ks).Pairwise (·≤·):=by
 have h:=List.pairwise_mergeSort (le:=fun(a b:Int)=>decide (a≤b)) (fun a b c h1 h2=>by simp at*;omega) (fun a b=>by simp;omega) ks
 exact h.imp fun h=>by simpa using h
theorem ahb{ys ks:List Int}(h:ys.Perm ks)(hs:ys.Pairwise (·≤·)):ys=srt ks:=Ci (h.trans (V7 ks).symm) hs (PN ks)
def intKeys:List (D×D)→Option (List Int)
 |[]=>some []
 |(.int i,_)::r=>(intKeys r).map (i::·)
 |_::_=>none
def Av:D→ER
 | .dict ds=>(match intKeys ds with
   |some ks=> .ok (.list ((srt ks).map aH))
   |none=> .bad)
 |_=> .bad
theorem aaR{K:ao}{Hb:Hp}:∀{kvs:List (Key×V)} {ds:List (D×D)} {ks:List Int},PK K Hb kvs ds→intKeys ds=some ks→kvs.map (·.1)=ks.map Sum.inl
 |_,_,_, .nil,h=>by
  cases h
  rfl
 |_,_,_, .cons (a:=p) (b:=q) (l₂:=ds) h r,hk=>by
  obtain⟨qk,qv⟩:=q
  obtain⟨pk,pv⟩:=p
  cases qk with
  |int i=>
   simp only [intKeys,aJ] at hk
   obtain⟨ks,hk1,rfl⟩:=hk
   have e:pk= .inl i:=by
    have:=h.1
    cases pk with
    |inl j=>
     have e2:aH i=aH j:=this
     cases e2
     rfl
    |inr x=>
     have e2:aH i=aV x:=this
     cases e2
   rw [bf,bf,aaR r hk1,e]
  |_=>cases hk
theorem JW{K:ao}{H:Hp}:∀ns:List Int,iY K H (ns.map V.int) (ns.map aH)
 |[]=> .nil
 |n::r=> .cons (.int n) (JW r)
section
variable{X:Cx}{W:WQ}{e:Expr}{m:EM}{p pos apos cpos:Pos}
theorem adz(hm:X.mg "sorted"=none)(h:DE X W .bor e m)(hc:X.calm=true:=by rfl)(hg:Gl X "sorted":=by rfl)(hbase:attributeBase e "keys" X.env (eval e X.env)=eval e X.env:=by rfl)
 (hline:(apos.endLine==cpos.line)=true:=by rfl) (na:starEach [.Call (.Attribute e "keys" apos) [] [] cpos] X.env=(false,eval (.Call (.Attribute e "keys" apos) [] [] cpos) X.env)::starEach [] X.env:=by rfl)
 (hpl:(backTo pos (starEach [] X.env)).any (·.1)=false:=by rfl):DE X W .new (.Call (.Name "sorted" p) [.Call (.Attribute e "keys" apos) [] [] cpos] [] pos) (Eo Av m):=
 PE.imp (Wf hc hg hm h hbase hline na hpl) fun σ H Q ⟨Hf,Hb,ρ,R,h1,h2,h3⟩=>by
  refine⟨Hf,Hb,ρ,R,fun d hd v Hb1 H1 g1 r1=> ?_,fun c hc Hb1 H1 g1=>h2 c (by simp [Eo,hc,ER.bind]) Hb1 H1 g1,fun z=>h3 (by simp [Eo,z,ER.bind])⟩
  cases d with
  |dict ds=>
   cases hk:intKeys ds with
   |none=>exact absurd (by simp [Eo,hd,ER.bind,Av,hk]) h3
   |some ks=>
    have hm:Ah ds=true:=by
     cases ds with
     |nil=>rfl
     |cons q ds=>
      obtain⟨k,v⟩:=q
      cases k<;>first|rfl|simp [intKeys] at hk
    obtain⟨a,kvs,rfl,hd1,pk⟩:=Bo.dict g1.bh r1 hm
    refine⟨a,kvs,ks,rfl,hd1,aaR pk hk,fun ys q py sy hq=> ?_⟩
    have z:=Gw.abX (K:=X.K) (xs:=(srt ks).map V.int) g1.bh hq (JW (srt ks))
    rw [ahb py sy]
    exact h1 (.list ((srt ks).map aH)) (by simp [Eo,hd,ER.bind,Av,hk]) _ _ _ (g1.trans z.1) (z.2.back g1.h)
  |_=>exact absurd (by simp [Eo,hd,ER.bind,Av]) h3
end
end DL
set_option maxHeartbeats 2000000
namespace DL
open PySem L2 Evl
theorem gj.lock{K:ao}{pn:Pn}{Hf Hb H:Hp}{σ:L2.St}{ρ:Env}{i:Nat}{d:D}{p:Addr}{o:HO}(R:gj K pn Hf Hb H σ ρ)(hi:ρ[i]? =some (.own d))(hv:σ[i]? =some (some (.ref p))):gj K pn Hf Hb (upd H p o) σ (ρ.set i .un):=by
 obtain⟨F,r⟩:=R
 obtain⟨q,h1,h2,h3⟩:=r.sl i _ hi
 rw [hv] at h2
 cases h2
 obtain⟨f1,f2,f3⟩:=r.fr i p (by rw [h1];simp)
 exact⟨_,r.step (fp:=[]) (fun a o e=>by rw [upd_ne (ne_of_none e f1)];exact r.ef a o e) (fun a o e=>by rw [upd_ne (ne_of_none e f2)];exact r.eb a o e) (Ex.refl _) rfl (fun j z=>rfl) (fun a ha _ k2 _=>⟨upd_ne (fun z=>ha (by rw [h1,z];simp)),k2⟩) (fun _=>rfl) cH (fun a ha=>by cases ha) (fun j a _ ha=>by cases ha) (fun a q=>r.pin i a q)⟩
theorem agu{K:ao}{H:Hp}(k:Key):Dr K H (kV k) (keyD k):=by
 cases k with
 |inl i=>exact .int i
 |inr x=>exact .str x
section
variable{X:Cx}{W:WQ}{elt tg:Expr}{ifs:List Expr}{scope:Scope}{own:List (Str×Nat)}{pos:Pos}{T:TG}{g:GM}{mt me:EM}{x:Str}{p:Pos}
end
end DL
namespace DL
open PySem L2 Evl
structure nH(fa:List He.Fa)(fn:List He.DefD)(K:ao)(mg:Str→Option Value):Prop where
 says:He.SaysD fa fn K
 at_:∃h:Heap,K.In h∧h.Ns mainGlobals mg
section
variable{fa:List He.Fa}{fn:List He.DefD}{K:ao}{mg:Str→Option Value}
theorem nH.free(Z:nH fa fn K mg)(i:Nat){x:Str}(h:fa[i]? =some (.free x):=by rfl):mg x=none:=by
 obtain⟨hp,X,G⟩:=Z.at_
 exact He.free_ok X G (Z.says.fact i h)
theorem nH.glo(Z:nH fa fn K mg)(i:Nat){x:Str}(h:fa[i]? =some (.glo x):=by rfl):mg x=some (.ref (He.ga K x)):=by
 obtain⟨hp,X,G⟩:=Z.at_
 exact He.glo_ok X G (Z.says.fact i h)
theorem nH.int(Z:nH fa fn K mg)(i:Nat){x:Str}{n:Int}(h:fa[i]? =some (.int x n):=by rfl):∃t,mg x=some (.int n t):=by
 obtain⟨hp,X,G⟩:=Z.at_
 exact He.int_ok X G (Z.says.fact i h)
theorem nH.str(Z:nH fa fn K mg)(i:Nat){x z:Str}(h:fa[i]? =some (.str x z):=by rfl):∃t,mg x=some (.str z t):=by
 obtain⟨hp,X,G⟩:=Z.at_
 exact He.str_ok X G (Z.says.fact i h)
theorem nH.exc(Z:nH fa fn K mg)(i:Nat){x:Str}(h:fa[i]? =some (.exc x):=by rfl):PySem.W.excIn K (He.ga K x) He.veBase "ValueError.__new__"=true∧PySem.W.keepIn K (.ref (He.ga K x))=true∧PySem.W.subIn K (.ref (He.ga K x)) (.type "BaseException")=some true∧
 PySem.W.typeIn K (.ref (He.ga K x))=some (.type "type"):=He.exc_ok (Z.says.fact i h)
theorem nH.exm(Z:nH fa fn K mg)(i:Nat){x y:Str}{b:Bool}(h:fa[i]? =some (.exm x y b):=by rfl):PySem.W.exmOne K (.ref (He.ga K x)) (.ref (He.ga K y))=some b:=He.exm_ok (Z.says.fact i h)
end
structure Has(P:Program)(w:World)(K:ao)(mg:Str→Option Value)(base:Heap)(x:Str)(k:Nat)(ps:List Str)(sp:Sp):Prop where
 ex:∃fd,FnOk P w K mg base (L2.CX P w) k (He.ga K x) fd ps sp∧Binds K fd ps []∧∃oc od osl,K.lookup (He.ga K x)=some ⟨oc,od, .func fd,osl⟩
 kp:PySem.W.keepIn K (.ref (He.ga K x))=true
 gl:mg x=some (.ref (He.ga K x))
section
variable{X:Cx}{W:WQ}{rk:Kd}{ks:List Kd}{x:Str}{p pos:Pos}{e:Expr}{es:List Expr}{ms:List EM}{g:List D→ER}{k j:Nat}{ps:List Str}
theorem gH(h:Has X.prog X.w X.K X.mg X.base x k ps (sE X.K ks rk g))(hr:Room j X.A)(tk:Takes X W.w)(ha:DA X W ks (e::es) ms)(hj:k≤j:=by decide)(hg:Gl X x:=by rfl)(hdb:(x==("__debug__":Str))=false:=by decide)
 (he:starEach (e::es) X.env=(false,eval e X.env)::starEach es X.env:=by rfl) (hpl:(backTo pos (starEach es X.env)).any (·.1)=false:=by rfl):DE X W rk (.Call (.Name x p) (e::es) [] pos) (fu g ms):=by
 obtain⟨fd,F,B,_⟩:=h.ex
 exact afB F (hr.mono hj) h.gl h.kp B tk ha hg hdb he hpl
end
section
variable{P:Program}{w:World}{K:ao}{mg:Str→Option Value}{base:Heap}{fa:List He.Fa}{fn:List He.DefD}
theorem g8{x:Str}{d:He.DefD}(Z:nH fa fn K mg)(i j:Nat){N ps:List Str}{k n:Nat}{ks:List Kd}{rk:Kd}{m:SM}(hd:fn[i]? =some d)(hx:d.at_=(x,none))(hdf:d.dfl=[])(hkw:d.kwd=[])(hg:fa[j]? =some (.glo x))(S:FnScope N ps d.scope)(hps:ps.length=ks.length)(hn:N.length=ks.length+n)(hrk:rk= .dat∨∀ρ ρ',m ρ≠ .nx ρ')
 (hb:∀(kV doc pm:Value) (an:Option Addr) (cdv ct:Value) (us:List Value),us.length=ps.length→bindArgs (PySem.W.fnOf d.name d.qual d.params d.body d.scope .none kV doc pm an cdv ct) ⟨us,[]⟩=pure (ps.zip us))
 (hbody:∀(f:Addr) (cdv:Value) (A:Around) (outer:List PySem.Env) (s:Shared) (H:Hp) (E:XK),Room k (cxOf (L2.CX P w) P w K mg base N d.qual d.scope f cdv A outer s H E).A→Takes (cxOf (L2.CX P w) P w K mg base N d.qual d.scope f cdv A outer s H E) (fun cls d _ H=>E cls d H)→
   PassesOwn (model (cxOf (L2.CX P w) P w K mg base N d.qual d.scope f cdv A outer s H E).prog (cxOf (L2.CX P w) P w K mg base N d.qual d.scope f cdv A outer s H E).w) (cxOf (L2.CX P w) P w K mg base N d.qual d.scope f cdv A outer s H E).A (cxOf (L2.CX P w) P w K mg base N d.qual d.scope f cdv A outer s H E).env (cxOf (L2.CX P w) P w K mg base N d.qual d.scope f cdv A outer s H E).xe→
   WD (cxOf (L2.CX P w) P w K mg base N d.qual d.scope f cdv A outer s H E) ⟨fun cls d _ H=>E cls d H,[]⟩ rk d.body m):
 Has P w K mg base x (k+1) ps (sE K ks rk (jG ks n m)):=by
 obtain⟨fd,F⟩:=Z.says.def_ i hd
 have ea:He.fAd K d.at_=He.ga K x:=by rw [hx];rfl
 rw [ea] at F
 have kp:=F.kp
 have e1:d.dvs K=[]:=by
  unfold He.DefD.dvs
  rw [hdf]
  rfl
 rw [e1] at F
 refine⟨⟨fd,fn_ok F S hps hn hrk (fun cdv A outer s H E hr=>hbody _ cdv A outer s H E hr (takes_of rfl rfl rfl rfl) PassesOwn.leaving),F.bindsN hb,?_⟩,kp,Z.glo j hg⟩
 obtain⟨oc,od,_,_,_,_,_,_,_,osl,_,l,_⟩:=F.ex
 exact⟨oc,od,osl,l⟩
theorem ahE{x:Str}{d:He.DefD}(Z:nH fa fn K mg)(i:Nat){p:Str}{k:Nat}{sp:Sp}(hd:fn[i]? =some d)(hx:d.at_=(x,none))(hdf:d.dfl=[])(hh:∀base:Heap,Has P w K mg base x k [p] sp)
 (hb:∀(kV doc pm:Value) (an:Option Addr) (cdv ct:Value) (us:List Value),us.length=[p].length→bindArgs (PySem.W.fnOf d.name d.qual d.params d.body d.scope .none kV doc pm an cdv ct) ⟨us,[]⟩=pure ([p].zip us)):
 ∃fd:FuncData,(∀(s:Shared) (v:Value),BindsTo s fd ⟨[v],[]⟩ [(p,v)])∧∀base:Heap,FnOk P w K mg base (L2.CX P w) k (He.ga K x) fd [p] sp:=by
 obtain⟨fd,F⟩:=Z.says.def_ i hd
 have ea:He.fAd K d.at_=He.ga K x:=by rw [hx];rfl
 rw [ea] at F
 have e1:d.dvs K=[]:=by
  unfold He.DefD.dvs
  rw [hdf]
  rfl
 rw [e1] at F
 refine⟨fd,fun s v=>F.bindsA (ps:=[p]) hb s [v] rfl,fun base=> ?_⟩
 obtain⟨fd2,F2,_,oc,od,osl,l2⟩:=(hh base).ex
 obtain⟨oc1,od1,_,_,_,_,_,_,_,osl1,_,l1,_⟩:=F.ex
 rw [l1] at l2
 cases l2
 exact F2
end
theorem mj{a b:SM}(h:∀ρ ρ',b ρ≠ .nx ρ'):∀ρ ρ',fH a b ρ≠ .nx ρ' :=fun ρ ρ' z=>by
 unfold fH at z
 split at z
 ·exact h _ _ z
 ·rename_i hz
  exact hz _ z
theorem Ys{m:EM}:∀ρ ρ',gG m ρ≠ .nx ρ' :=fun ρ ρ' z=>by
 unfold gG at z
 split at z<;>cases z
theorem Iz{i:Nat}:∀ρ ρ',Ft i ρ≠ .nx ρ' :=fun ρ ρ' z=>by
 unfold Ft at z
 split at z<;>cases z
theorem Qi{K:ao}{H:Hp}:∀ns:List Int,iY K H (ns.map V.int) (ns.map aH)
 |[]=> .nil
 |n::r=> .cons (.int n) (Qi r)
theorem aeS{l:PySem.W.OpenLaw}{n k:Nat}{q:Program}{loose:List Str}{XP:(Str→Option Value)→Heap→Prop}{YP:World→Heap→Prop}{d:DefRec}{x:Str}
 (hm:l.most=some n) (hz:n≤sizeLine) (hdf:d.params.defaults=[]) (room:Room k callerA)
 (F:∀(w:World) (mg:Str→Option Value) (f:Addr) (h:Heap),YP w h→h.Ns mainGlobals mg→mg d.name=some (.ref f)→
   ∃(K:ao) (fd:FuncData) (sp:Sp),K.In h∧(∀(s:Shared) (u:Value),BindsTo s fd ⟨[u],[]⟩ [(x,u)])∧
    (∀(H:Hp) (a:Addr) (ns:List Int),ns.length≤n→(∀z∈ns,Builtin.Int.intBits z≤1048576)→Only H→SqL K H a (ns.map V.int)→sp [.ref a] H (fun v _=>v= .bl true) fun _ _ _=>False)∧
    ∀base:Heap,K.In base→base.Ns mainGlobals mg→FnOk l.prog w K mg base (L2.CX l.prog w) k f fd [x] sp):
 PySem.W.WalkO q loose XP YP l.row.toRowW d [] (fun f vs=>PySem.call f vs):=by
 refine Att.attach_callB hm hdf fun w sA sB mg mb f o pm cd doc a vs ns G Y ho hd hcd hmg hobj hints hlen hbits hg=> ?_
 obtain⟨K,fd,sp,inK,binds,start,keeps⟩:=F w mg f _ Y G.T.g hmg
 exact law_call inK G.T.g G.T.b G.T.builtins G.T.nolimit hg hobj hints (bJ hlen hz) room keeps binds (fun H only sq=>start H a ns hlen hbits only sq)
  fun H e s' cx=>by
   obtain⟨_,_,_,_,_,_,_,_,_,_,_,_,no⟩:=cx
   exact no
end DL
namespace DL
open PySem L2 Evl
section
variable{ρ:Env}{d x y z:D}{f:D→ER}{c:Str}{g g' :D→D→ER}{m ma mb mc:EM}{s a b:SM}{i j:Nat}{ms:List EM}{G:List D→ER}
@[simp] theorem iV:(ER.ok d).bind f=f d:=Eq.trans rfl rfl
@[simp] theorem aax:(ER.ex c).bind f= .ex c:=rfl
@[simp] theorem ahL:ER.bad.bind f= .bad:=rfl
@[simp] theorem acZ:eC d ρ= .ok d:=rfl
@[simp] theorem j9:eG g ma mb ρ=(ma ρ).bind fun x=>(mb ρ).bind fun y=>g x y:=rfl
@[simp] theorem Fb {h:D→ER}:Eo h m ρ=(m ρ).bind h:=rfl
@[simp] theorem jQ {r:Env}:dZ 0 (.dat d::r)= .ok d:=rfl
@[simp] theorem lu {r:Env} {t:Sl}:dZ (i+1) (t::r)=dZ i r:=rfl
@[simp] theorem aa5 {r:Env}:gR 0 (.dat d::r)= .ok d:=rfl
@[simp] theorem wU {r:Env}:gR 0 (.own d::r)= .ok d:=rfl
@[simp] theorem aaZ {r:Env}:gR 0 (.bor d::r)= .ok d:=rfl
@[simp] theorem Ax {r:Env} {t:Sl}:gR (i+1) (t::r)=gR i r:=rfl
@[simp] theorem aiS:m7 [] ρ= .ok []:=rfl
@[simp] theorem aaW:fu G [] ρ=G []:=rfl
@[simp] theorem Tw:fu G [ma] ρ=(ma ρ).bind fun x=>G [x]:=by
 unfold fu m7
 cases ma ρ<;>rfl
@[simp] theorem Hq:fu G [ma,mb] ρ=(ma ρ).bind fun x=>(mb ρ).bind fun y=>G [x,y]:=by
 unfold fu m7 m7 m7
 cases ma ρ<;>cases mb ρ<;>rfl
@[simp] theorem K7:fu G [ma,mb,mc] ρ=(ma ρ).bind fun x=>(mb ρ).bind fun y=>(mc ρ).bind fun z=>G [x,y,z]:=by
 unfold fu m7 m7 m7 m7
 cases ma ρ<;>cases mb ρ<;>cases mc ρ<;>rfl
@[simp] theorem Vl {md:EM}:fu G [ma,mb,mc,md] ρ=(ma ρ).bind fun x=>(mb ρ).bind fun y=>(mc ρ).bind fun z=>(md ρ).bind fun w=>G [x,y,z,w]:=by
 unfold fu m7 m7 m7 m7 m7
 cases ma ρ<;>cases mb ρ<;>cases mc ρ<;>cases md ρ<;>rfl
@[simp] theorem aau {T:String}:Ae T m ρ=(m ρ).bind fun d=> .ok (.bool (isT T d)):=rfl
@[simp] theorem aiW {h:Str→D} {u:Str}:((ER.ok (.str u)).bind fun d=>match d with| .str z=>ER.ok (h z)|_=> .bad)= .ok (h u):=rfl
@[simp] theorem ahH {ds:List D} (h:m ρ= .ok (.list ds)):nA m ρ= .ok (.list ds):=by simp [nA,h]
@[simp] theorem aiN {b:Bool} (h:m ρ= .ok (.bool b)):lY m ρ= .ok (.bool (!b)):=by simp [lY,h]
theorem qM{ρ' :Env}(h:a ρ= .nx ρ'):fH a b ρ=b ρ' :=by simp [fH,h]
theorem Et(h:a ρ= .rt d):fH a b ρ= .rt d:=by simp [fH,h]
theorem Du(h:m ρ= .ok (.bool true)):je m a b ρ=a ρ:=by simp [je,h]
theorem tU(h:m ρ= .ok (.bool false)):je m a b ρ=b ρ:=by simp [je,h]
theorem nO(h:m ρ= .ok d):gD i m ρ= .nx (ρ.set i (.dat d)):=by simp [gD,h]
theorem ret_ok(h:m ρ= .ok d):gG m ρ= .rt d:=by simp [gG,h]
theorem Vf(h:m ρ= .ok d):rZ m ρ= .nx ρ:=by simp [rZ,h]
@[simp] theorem G6:fU ρ= .nx ρ:=rfl
@[simp] theorem set_0 {r:Env} {t u:Sl}:List.set (t::r) 0 u=u::r:=rfl
@[simp] theorem kZ {r:Env} {t u:Sl}:List.set (t::r) (i+1) u=t::List.set r i u:=rfl
end
@[simp] theorem aah (i j:Int):jw (.int i) (.int j)= .ok (.int (i+j)):=rfl
@[simp] theorem aaP (i j:Int):mW (.int i) (.int j)= .ok (.int (i-j)):=rfl
@[simp] theorem acf (i j:Int):Nt (.int i) (.int j)= .ok (.bool (decide (i<j))):=rfl
@[simp] theorem adB (i j:Int):Qu (.int i) (.int j)= .ok (.bool (decide (i≤j))):=rfl
@[simp] theorem adL (i j:Int):dGt (.int i) (.int j)= .ok (.bool (decide (j<i))):=rfl
@[simp] theorem adF (i j:Int):dGe (.int i) (.int j)= .ok (.bool (decide (j≤i))):=rfl
@[simp] theorem zJ (ds:List D):jr [.list ds]= .ok (.int ds.length):=rfl
@[simp] theorem ac2 (ds:List D):jr [.tuple ds]= .ok (.int ds.length):=rfl
theorem Pu{z:Str}(h:z.length≤sizeLine):jr [.str z]= .ok (.int z.length):=by simp [jr,h]
@[simp] theorem Tv (i j:Int):Iv [.int i, .int j]= .ok (.int (min i j)):=by
 have e:(if j<i then j else i)=min i j:=by
  split<;>omega
 show ER.ok (.int (if j<i then j else i))=_
 rw [e]
@[simp] theorem aaQ (i j:Int):QF [.int i, .int j]= .ok (.int (max i j)):=by
 have e:(if j>i then j else i)=max i j:=by
  split<;>omega
 show ER.ok (.int (if j>i then j else i))=_
 rw [e]
theorem GZ{i:Int}{a:Nat}(h:i.natAbs<2 ^ a):i.natAbs.log2≤a:=by
 by_cases z:i.natAbs=0
 ·rw [z]
  simp
 ·exact Nat.le_of_lt ((Nat.log2_lt z).mpr h)
theorem aaI{i j:Int}(h:i.natAbs.log2+j.natAbs.log2<vQ):lQ (.int i) (.int j)= .ok (.int (i*j)):=by simp [lQ,h]
theorem vZ{i j:Int}(a b:Nat)(hi:i.natAbs<2 ^ a)(hj:j.natAbs<2 ^ b)(h:a+b<vQ:=by decide):lQ (.int i) (.int j)= .ok (.int (i*j)):=
 aaI (Nat.lt_of_le_of_lt (Nat.add_le_add (GZ hi) (GZ hj)) h)
theorem iy{i j:Int}(h:0<j):iK (.int i) (.int j)= .ok (.int (i%j)):=by simp [iK,h]
theorem uP{i j:Int}(h0:0≤j)(h1:j≤1000000)(h2:i.natAbs<2 ^ 64):sV (.int i) (.int j)= .ok (.int (i ^ j.toNat)):=by
 have e:sV (.int i) (.int j)=if 0≤j∧j≤1000000∧i.natAbs<2 ^ 64 then .ok (.int (i ^ j.toNat)) else .bad:=rfl
 rw [e,if_pos ⟨h0,h1,h2⟩]
theorem OJ{α:Type}{xs:List α}{k:Nat}(h:k<xs.length):atI xs (k:Int)=some xs[k]:=by
 unfold atI ixN
 simp [h]
theorem acu{ds:List D}{i:Int}(h0:0≤i)(h:i<ds.length):fX (.list ds) (.int i)= .ok (ds[i.toNat]'(by omega)):=by
 have e:i=((i.toNat:Nat):Int):=by omega
 have hl:i.toNat<ds.length:=by omega
 have:=OJ hl
 rw [←e] at this
 simp [fX,this]
theorem Yt{ds:List D}{i:Int}(h0:0≤i)(h:i<ds.length):fX (.tuple ds) (.int i)= .ok (ds[i.toNat]'(by omega)):=by
 have e:i=((i.toNat:Nat):Int):=by omega
 have hl:i.toNat<ds.length:=by omega
 have:=OJ hl
 rw [←e] at this
 simp [fX,this]
theorem agb{z:Str}{i:Int}(h0:0≤i)(h:i<z.cps.toList.length)(hz:z.length≤sizeLine):fX (.str z) (.int i)= .ok (.str ⟨#[z.cps.toList[i.toNat]'(by omega)]⟩):=by
 have e:i=((i.toNat:Nat):Int):=by omega
 have hl:i.toNat<z.cps.toList.length:=by omega
 have:=OJ hl
 rw [←e] at this
 simp only [fX,hz,if_true,this]
theorem Yg{ns:List Int}{i:Int}(h0:0≤i)(h:i<ns.length):fX (.list (ns.map aH)) (.int i)= .ok (.int (ns[i.toNat]'(by omega))):=by
 rw [acu h0 (by simpa using h)]
 simp
@[simp] theorem ahp (k:Int):SeqAt.shaped (.int k)=true:=rfl
@[simp] theorem afZ (k:Bool):SeqAt.shaped (.bool k)=true:=rfl
@[simp] theorem af7:SeqAt.shaped .none=true:=rfl
theorem adk{x y:D}(hx:SeqAt.shaped x=true)(hy:SeqAt.shaped y=true)(hs:∀i j,x= .str i→y= .str j→False):jZ x y= .ok (.bool (dF x y)):=by
 rcases tG x y with⟨i,j,h1,h2,_⟩|e
 ·exact(hs i j h1 h2).elim
 ·rw [e,hx,hy]
  rfl
@[simp] theorem aac (i j:Int):jZ (.int i) (.int j)= .ok (.bool (decide (i=j))):=by
 rw [adk rfl rfl (fun _ _ h=>by cases h)]
 simp only [dF]
 congr 2
@[simp] theorem adb (i j:Bool):jZ (.bool i) (.bool j)= .ok (.bool (decide (i=j))):=by
 rw [adk rfl rfl (fun _ _ h=>by cases h)]
 simp only [dF]
 congr 2
@[simp] theorem Jd (i j:Str):jZ (.str i) (.str j)= .ok (.bool (decide (i=j))):=rfl
theorem Y9{x y:D}{b:Bool}(h:jZ x y= .ok (.bool b)):Ep x y= .ok (.bool (!b)):=by simp [Ep,h]
@[simp] theorem ad2 (i j:Int):Ep (.int i) (.int j)= .ok (.bool (!decide (i=j))):=Y9 (aac i j)
@[simp] theorem ZK (i j:Str):Ep (.str i) (.str j)= .ok (.bool (!decide (i=j))):=rfl
theorem Nh{g:GM}{body:SM}(P:Nat→Env→Prop):∀(ds:List D) (k:Nat) (ρ:Env),P k ρ→(∀(i:Nat) d ρ,ds[i]? =some d→P (k+i) ρ→∃ρ1 ρ2,g d ρ=some ρ1∧(body ρ1= .nx ρ2∨body ρ1= .ct ρ2)∧P (k+i+1) ρ2)→
 ∃ρ',yE g body ds ρ= .nx ρ' ∧P (k+ds.length) ρ'
 |[],k,ρ,h0,_=>⟨ρ,rfl,h0⟩
 |d::r,k,ρ,h0,hs=>by
  obtain⟨ρ1,ρ2,e1,e2,p⟩:=hs 0 d ρ rfl h0
  obtain⟨ρ',e3,p3⟩:=Nh P r (k+1) ρ2 p fun i d' ρ q p' =>by
   have:=hs (i+1) d' ρ (by simpa using q) (by rw [show k+(i+1)=k+1+i by omega];exact p')
   rw [show k+(i+1)+1=k+1+i+1 by omega] at this
   exact this
  refine⟨ρ',?_,by rw [show k+(d::r).length=k+1+r.length by simp;omega];exact p3⟩
  simp only [yE,e1]
  rcases e2 with e2|e2<;>rw [e2]<;>exact e3
theorem La{mi:Env→AR}{g:GM}{body:SM}{ρ:Env}{ds:List D}(P:Nat→Env→Prop)(hi:mi ρ= .ok ds)(h0:P 0 ρ)(hs:∀(i:Nat) d ρ,ds[i]? =some d→P i ρ→∃ρ1 ρ2,g d ρ=some ρ1∧(body ρ1= .nx ρ2∨body ρ1= .ct ρ2)∧P (i+1) ρ2):
 ∃ρ',nD mi g body ρ= .nx ρ' ∧P ds.length ρ' :=by
 obtain⟨ρ',e,p⟩:=Nh P ds 0 ρ h0 fun i d ρ q p=>by
  rw [Nat.zero_add] at p⊢
  exact hs i d ρ q p
 rw [Nat.zero_add] at p
 exact⟨ρ',by simp only [nD,hi];exact e,p⟩
@[simp] theorem oR {i:Nat} {d:D} {ρ:Env}:gN i d ρ=some (ρ.set i (.dat d)):=rfl
theorem app_ok{ρ:Env}{i:Nat}{m:EM}{ds:List D}{d:D}(h:ρ[i]? =some (.own (.list ds)))(hm:m ρ= .ok d)(hl:ds.length<sizeLine):sG i m ρ= .nx (ρ.set i (.own (.list (ds++[d])))):=by simp [sG,h,hm,hl]
theorem abG{α:Type}(xs:List α)(x:α):atI (xs++[x]) (-1)=some x:=by
 unfold atI ixN
 have h1:¬(0:Int)≤-1:=by decide
 have h2: -(((xs++[x]).length:Nat):Int)≤-1:=by
  simp
  omega
 have h3:((-1:Int)+(((xs++[x]).length:Nat):Int)).toNat=xs.length:=by
  simp
  omega
 rw [if_neg h1,if_pos h2,h3]
 simp
theorem Wb(ds:List D)(d:D):fX (.list (ds++[d])) (.int (-1))= .ok d:=by
 simp only [fX,abG]
@[simp] theorem adW (i:Int):QM (.int i)= .ok (.int (-i)):=rfl
theorem ac4{α:Type}(xs:List α)(k:Nat):cutD xs (some (k:Int)) none=xs.drop k:=by
 unfold cutD
 rw [HT.sIx_nat,HT.sIx_none]
 rw [bU (by simp)]
 by_cases h:k≤xs.length
 ·rw [Nat.min_eq_left h]
 ·rw [Nat.min_eq_right (by omega),List.drop_of_length_le (bD _),List.drop_of_length_le (by omega)]
theorem afb{x y:Str}(h:x.cps.toList=y.cps.toList):x=y:=by
 obtain⟨⟨a⟩⟩:=x
 obtain⟨⟨b⟩⟩:=y
 have e:a=b:=h
 rw [e]
@[simp] theorem aiJ (x y:Str):(x++y).cps.toList=x.cps.toList++y.cps.toList:=by
 show(x.cps++y.cps).toList=_
 simp
theorem str_len(x:Str):x.length=x.cps.toList.length:=by
 show x.cps.size=_
 simp
theorem aew{x y:Str}(h:x.length+y.length≤sizeLine):jw (.str x) (.str y)= .ok (.str (x++y)):=by simp [jw,h]
theorem len0:(((([]:List D).length:Nat):Int))=0:=rfl
theorem len1(a:D):((([a]:List D).length:Nat):Int)=1:=rfl
theorem aie(a b:D):((([a,b]:List D).length:Nat):Int)=2:=rfl
theorem ahX(a b c:D):((([a,b,c]:List D).length:Nat):Int)=3:=rfl
theorem aip(a b c d:D):((([a,b,c,d]:List D).length:Nat):Int)=4:=rfl
theorem afV:yq .none .none= .ok (.bool true):=rfl
theorem agj(i:Int):yq (.int i) .none= .ok (.bool false):=rfl
theorem af3(i:Str):yq (.str i) .none= .ok (.bool false):=rfl
theorem afW(i:List D):yq (.list i) .none= .ok (.bool false):=rfl
theorem afQ(i:List D):yq (.tuple i) .none= .ok (.bool false):=rfl
theorem adA:pU .none .none= .ok (.bool false):=rfl
theorem adg(i:Int):pU (.int i) .none= .ok (.bool true):=rfl
theorem aea(i:Str):pU (.str i) .none= .ok (.bool true):=rfl
theorem aco(i:List D):pU (.list i) .none= .ok (.bool true):=rfl
theorem aci(i:List D):pU (.tuple i) .none= .ok (.bool true):=rfl
end DL
namespace DL
open PySem L2 Evl
section
variable{ρ:Env}{g:GM}{mt me m ma mb:EM}{mi:Env→AR}{vs:List Nat}
theorem aaf{α:Type}(h f:α→D):∀(xs:List α) (acc:List D),(∀x∈xs,∃ρ1,g (h x) ρ=some ρ1∧mt ρ1= .ok (.bool true)∧me ρ1= .ok (f x))→acc.length+xs.length≤sizeLine→
 YF g mt me (xs.map h) acc ρ= .ok (.list (acc++xs.map f))
 |[],acc,_,_=>by simp [YF]
 |x::xs,acc,hs,hl=>by
  obtain⟨ρ1,e1,e2,e3⟩:=hs x aY
  have hl' :acc.length<sizeLine:=by
   simp only [aZ] at hl
   omega
  have ih:=aaf h f xs (acc++[f x]) (fun y hy=>hs y (aN _ hy)) (by
   simp only [aZ] at hl
   simp only [aA,aZ,cG]
   omega)
  simp only [bf,YF,e1,e2,e3,hl',if_true,ih]
  simp
theorem Jr{α:Type}(h f:α→D){xs:List α}(hi:mi ρ= .ok (xs.map h))(hs:∀x∈xs,∃ρ1,g (h x) (sH ρ vs)=some ρ1∧mt ρ1= .ok (.bool true)∧me ρ1= .ok (f x))(hl:xs.length≤sizeLine):
 Lq mi g mt me vs ρ= .ok (.list (xs.map f)):=by
 simp only [Lq,hi]
 rw [aaf h f xs [] hs (by simpa using hl)]
 simp
theorem agQ{i j:Int}(ha:ma ρ= .ok (.int i))(hb:mb ρ= .ok (.int j))(h1:inR i=true)(h2:inR j=true):iR2 ma mb ρ= .ok (mO i j):=by
 simp only [iR2,m7,ha,hb,h1,h2,Bool.and_self,if_true]
theorem aho{j:Int}(hb:mb ρ= .ok (.int j))(h2:inR j=true):Qt mb ρ= .ok (mO 0 j):=by
 simp only [Qt,hb,h2,if_true]
theorem OD(a b:Nat):mO (a:Int) (b:Int)=(cC (b-a)).map fun(i:Nat)=>aH ((a+i:Nat):Int):=by
 unfold mO
 rw [show((b:Int)-(a:Int)).toNat=b-a by omega]
 refine bQ fun i _=> ?_
 simp
theorem BR(b:Nat):mO 0 (b:Int)=(cC b).map fun(i:Nat)=>aH (i:Int):=by
 have:=OD 0 b
 simpa using this
theorem Oq{n:Int}(h1: -1000000000≤n)(h2:n≤1000000000):inR n=true:=by
 rw [oH]
 omega
theorem afI{k:Nat}{ds:List D}(h:m ρ= .ok (.list ds))(ha:ma ρ= .ok (.int (k:Int))):eSl m (some ma) none ρ= .ok (.list (ds.drop k)):=by
 simp only [eSl,h,iV,evO,ha,dSl,ac4]
end
section
variable{ρ:Env}{ma mb mc md me mf:EM}
@[simp] theorem adm:jc [] ρ= .ok (.tuple []):=by
 have z:(0:Nat)≤sizeLine:=by decide
 simp only [jc,m7]
 simp [ER.bind,z]
@[simp] theorem Ui:jc [ma] ρ=(ma ρ).bind fun x=> .ok (.tuple [x]):=by
 have z:(1:Nat)≤sizeLine:=by decide
 simp only [jc,m7]
 cases ma ρ<;>simp [ER.bind,z]
@[simp] theorem Vj:jc [ma,mb] ρ=(ma ρ).bind fun x=>(mb ρ).bind fun y=> .ok (.tuple [x,y]):=by
 have z:(2:Nat)≤sizeLine:=by decide
 simp only [jc,m7]
 cases ma ρ<;>cases mb ρ<;>simp [ER.bind,z]
@[simp] theorem Ue:jc [ma,mb,mc] ρ=(ma ρ).bind fun x=>(mb ρ).bind fun y=>(mc ρ).bind fun z=> .ok (.tuple [x,y,z]):=by
 have z:(3:Nat)≤sizeLine:=by decide
 simp only [jc,m7]
 cases ma ρ<;>cases mb ρ<;>cases mc ρ<;>simp [ER.bind,z]
@[simp] theorem jW:jc [ma,mb,mc,md] ρ=(ma ρ).bind fun x=>(mb ρ).bind fun y=>(mc ρ).bind fun z=>(md ρ).bind fun w=> .ok (.tuple [x,y,z,w]):=by
 have z:(4:Nat)≤sizeLine:=by decide
 simp only [jc,m7]
 cases ma ρ<;>cases mb ρ<;>cases mc ρ<;>cases md ρ<;>simp [ER.bind,z]
@[simp] theorem ai2:jc [ma,mb,mc,md,me] ρ=(ma ρ).bind fun x=>(mb ρ).bind fun y=>(mc ρ).bind fun z=>(md ρ).bind fun w=>(me ρ).bind fun v=> .ok (.tuple [x,y,z,w,v]):=by
 have z:(5:Nat)≤sizeLine:=by decide
 simp only [jc,m7]
 cases ma ρ<;>cases mb ρ<;>cases mc ρ<;>cases md ρ<;>cases me ρ<;>simp [ER.bind,z]
@[simp] theorem ai4:jc [ma,mb,mc,md,me,mf] ρ=(ma ρ).bind fun x=>(mb ρ).bind fun y=>(mc ρ).bind fun z=>(md ρ).bind fun w=>(me ρ).bind fun v=>(mf ρ).bind fun u=> .ok (.tuple [x,y,z,w,v,u]):=by
 have z:(6:Nat)≤sizeLine:=by decide
 simp only [jc,m7]
 cases ma ρ<;>cases mb ρ<;>cases mc ρ<;>cases md ρ<;>cases me ρ<;>cases mf ρ<;>simp [ER.bind,z]
@[simp] theorem ad' :kJ [] ρ= .ok (.list []):=by
 have z:(0:Nat)≤sizeLine:=by decide
 simp only [kJ,m7]
 simp [ER.bind,z]
@[simp] theorem Z9:kJ [ma] ρ=(ma ρ).bind fun x=> .ok (.list [x]):=by
 have z:(1:Nat)≤sizeLine:=by decide
 simp only [kJ,m7]
 cases ma ρ<;>simp [ER.bind,z]
@[simp] theorem acd:kJ [ma,mb] ρ=(ma ρ).bind fun x=>(mb ρ).bind fun y=> .ok (.list [x,y]):=by
 have z:(2:Nat)≤sizeLine:=by decide
 simp only [kJ,m7]
 cases ma ρ<;>cases mb ρ<;>simp [ER.bind,z]
@[simp] theorem ad0:kJ [ma,mb,mc] ρ=(ma ρ).bind fun x=>(mb ρ).bind fun y=>(mc ρ).bind fun z=> .ok (.list [x,y,z]):=by
 have z:(3:Nat)≤sizeLine:=by decide
 simp only [kJ,m7]
 cases ma ρ<;>cases mb ρ<;>cases mc ρ<;>simp [ER.bind,z]
@[simp] theorem adG:kJ [ma,mb,mc,md] ρ=(ma ρ).bind fun x=>(mb ρ).bind fun y=>(mc ρ).bind fun z=>(md ρ).bind fun w=> .ok (.list [x,y,z,w]):=by
 have z:(4:Nat)≤sizeLine:=by decide
 simp only [kJ,m7]
 cases ma ρ<;>cases mb ρ<;>cases mc ρ<;>cases md ρ<;>simp [ER.bind,z]
@[simp] theorem ai3:kJ [ma,mb,mc,md,me] ρ=(ma ρ).bind fun x=>(mb ρ).bind fun y=>(mc ρ).bind fun z=>(md ρ).bind fun w=>(me ρ).bind fun v=> .ok (.list [x,y,z,w,v]):=by
 have z:(5:Nat)≤sizeLine:=by decide
 simp only [kJ,m7]
 cases ma ρ<;>cases mb ρ<;>cases mc ρ<;>cases md ρ<;>cases me ρ<;>simp [ER.bind,z]
@[simp] theorem ai1:kJ [ma,mb,mc,md,me,mf] ρ=(ma ρ).bind fun x=>(mb ρ).bind fun y=>(mc ρ).bind fun z=>(md ρ).bind fun w=>(me ρ).bind fun v=>(mf ρ).bind fun u=> .ok (.list [x,y,z,w,v,u]):=by
 have z:(6:Nat)≤sizeLine:=by decide
 simp only [kJ,m7]
 cases ma ρ<;>cases mb ρ<;>cases mc ρ<;>cases md ρ<;>cases me ρ<;>cases mf ρ<;>simp [ER.bind,z]
end
theorem afP(T:String):isT T .none=(T=="NoneType"):=rfl
theorem afT(T:String)(b:Bool):isT T (.bool b)=(T=="bool"||T=="int"):=rfl
theorem agd(T:String)(b:Int):isT T (.int b)=(T=="int"):=rfl
theorem afR(T:String)(b:Str):isT T (.str b)=(T=="str"):=rfl
theorem af8(T:String)(b:List D):isT T (.list b)=(T=="list"):=rfl
theorem aga(T:String)(b:List D):isT T (.tuple b)=(T=="tuple"):=rfl
@[simp] theorem VN (ds:List D):mK [.list ds]= .ok (.tuple ds):=rfl
@[simp] theorem Yu (ds:List D):mK [.tuple ds]= .ok (.tuple ds):=rfl
@[simp] theorem aal (ds:List D):qd [.list ds]= .ok (.list ds):=rfl
@[simp] theorem aaS (ds:List D):qd [.tuple ds]= .ok (.list ds):=rfl
theorem Ud{x y:List D}(h:x.length+y.length≤sizeLine):jw (.list x) (.list y)= .ok (.list (x++y)):=by simp [jw,h]
theorem afp{x y:List D}(h:x.length+y.length≤sizeLine):jw (.tuple x) (.tuple y)= .ok (.tuple (x++y)):=by simp [jw,h]
@[simp] theorem YW {i j:Nat} {x y:D} {ρ:Env}:gT [gN i,gN j] (.tuple [x,y]) ρ=some ((ρ.set i (.dat x)).set j (.dat y)):=rfl
end DL
namespace Sb
open PySem PySem.Spec L2 Evl DL
theorem ab5:type_of%(And.intro @G6<|And.intro @j9<|And.intro @Fb<|And.intro @jQ<|And.intro @lu<|And.intro @aa5<|And.intro @wU<|And.intro @aaZ<|And.intro @Ax<|And.intro @aaW<|And.intro @Tw<|And.intro @Hq<|And.intro @K7<|And.intro @Vl<|And.intro @zJ<|And.intro @ac2<|And.intro @iV<|And.intro @Tv<|And.intro @aaQ<|And.intro @aah<|And.intro @aaP<|And.intro @acf<|And.intro @adB<|And.intro @adL<|And.intro @adF<|And.intro @aac<|And.intro @ad2<|And.intro @Jd<|And.intro @ZK<|And.intro @adb<|And.intro @decide_true<|And.intro @decide_false<|And.intro @acZ<|And.intro @set_0<|And.intro @kZ<|And.intro @aau<|And.intro @afP<|And.intro @afT<|And.intro @agd<|And.intro @afR<|And.intro @af8<|And.intro @aga<|And.intro @oR<|And.intro @Bool.not_true<|And.intro @Bool.not_false<|And.intro @Bool.or_self<|And.intro @Bool.or_false<|And.intro @Bool.false_or<|And.intro @Bool.or_true<|And.intro @Bool.true_or<|And.intro @adm<|And.intro @Ui<|And.intro @Vj<|And.intro @Ue<|And.intro @ad' <|And.intro @Z9<|And.intro @acd<|And.intro @ad0<|And.intro @adG<|And.intro @VN<|And.intro @Yu<|And.intro @aal<|And.intro @aaS<|And.intro @adW<|And.intro @aax<|And.intro @len0<|And.intro @len1<|And.intro @aie<|And.intro @ahX<|And.intro @aip<|And.intro @afV<|And.intro @agj<|And.intro @af3<|And.intro @afW<|And.intro @afQ<|And.intro @adA<|And.intro @adg<|And.intro @aea<|And.intro @aco<| @aci):=And.intro @G6<|And.intro @j9<|And.intro @Fb<|And.intro @jQ<|And.intro @lu<|And.intro @aa5<|And.intro @wU<|And.intro @aaZ<|And.intro @Ax<|And.intro @aaW<|And.intro @Tw<|And.intro @Hq<|And.intro @K7<|And.intro @Vl<|And.intro @zJ<|And.intro @ac2<|And.intro @iV<|And.intro @Tv<|And.intro @aaQ<|And.intro @aah<|And.intro @aaP<|And.intro @acf<|And.intro @adB<|And.intro @adL<|And.intro @adF<|And.intro @aac<|And.intro @ad2<|And.intro @Jd<|And.intro @ZK<|And.intro @adb<|And.intro @decide_true<|And.intro @decide_false<|And.intro @acZ<|And.intro @set_0<|And.intro @kZ<|And.intro @aau<|And.intro @afP<|And.intro @afT<|And.intro @agd<|And.intro @afR<|And.intro @af8<|And.intro @aga<|And.intro @oR<|And.intro @Bool.not_true<|And.intro @Bool.not_false<|And.intro @Bool.or_self<|And.intro @Bool.or_false<|And.intro @Bool.false_or<|And.intro @Bool.or_true<|And.intro @Bool.true_or<|And.intro @adm<|And.intro @Ui<|And.intro @Vj<|And.intro @Ue<|And.intro @ad' <|And.intro @Z9<|And.intro @acd<|And.intro @ad0<|And.intro @adG<|And.intro @VN<|And.intro @Yu<|And.intro @aal<|And.intro @aaS<|And.intro @adW<|And.intro @aax<|And.intro @len0<|And.intro @len1<|And.intro @aie<|And.intro @ahX<|And.intro @aip<|And.intro @afV<|And.intro @agj<|And.intro @af3<|And.intro @afW<|And.intro @afQ<|And.intro @adA<|And.intro @adg<|And.intro @aea<|And.intro @aco<| @aci
end Sb
namespace DL
open PySem L2 Evl
def aeQ(x y:Str):Bool:=decide (x=y)||decide (y="BookError")
def okP(K:ao)(x y:Str):Bool:=decide (PySem.W.kitOne K (.ref (He.ga K x)) (.ref (He.ga K y))=some (aeQ x y))&&decide (PySem.W.exmOne K (.ref (He.ga K x)) (.ref (He.ga K y))=some (aeQ x y))
def okE(K:ao)(x:Str):Bool:=
 He.eqO (PySem.W.nsIn K mainGlobals x) (some (some (.ref (He.ga K x))))&&(He.eqO (PySem.W.findIn K (.ref (He.ga K x)) "__getattribute__") (some (some (.builtin "BaseException.__getattribute__")))&&
 (He.eqO (PySem.W.findIn K (.ref (He.ga K x)) "__getattr__") (some none)&&(decide (PySem.W.subIn K (.ref (He.ga K x)) (.type "BaseException")=some true)&&
 (PySem.W.hasDictIn K (He.ga K x)&&(He.eqO (PySem.W.findIn K (.ref (He.ga K x)) "__class__") (some (some (.builtin "object.__class__")))&&
 (He.eqO (PySem.W.specialIn K (.builtin "object.__class__") "__get__") (some (some (.builtin "getset_descriptor.__get__")))&&(decide (PySem.W.takesIn K (.builtin "object.__class__")=some true)&&
 (decide (PySem.W.mroIn K (He.ga K x) (.type "object")=some true)&&decide (PySem.W.kitOne K (.ref (He.ga K x)) (.type "ValueError")=some true)))))))))
def okX(xs:List Str)(K:ao):Bool:=xs.all fun x=>okE K x&&xs.all fun y=>okP K x y
structure pN(xs:List Str)(K:ao)(mg:Str→Option Value):Prop where
 gl:∀x∈xs,mg x=some (.ref (He.ga K x))
 ec:∀x∈xs,ExcC K (He.ga K x)
 ve:∀x∈xs,PySem.W.kitOne K (.ref (He.ga K x)) (.type "ValueError")=some true
 kit:∀x∈xs,∀y∈xs,PySem.W.kitOne K (.ref (He.ga K x)) (.ref (He.ga K y))=some (aeQ x y)
 exm:∀x∈xs,∀y∈xs,PySem.W.exmOne K (.ref (He.ga K x)) (.ref (He.ga K y))=some (aeQ x y)
theorem ZC{K:ao}{x:Str}(h:okE K x=true):PySem.W.nsIn K mainGlobals x=some (some (.ref (He.ga K x)))∧ExcC K (He.ga K x)∧PySem.W.kitOne K (.ref (He.ga K x)) (.type "ValueError")=some true:=by
 unfold okE at h
 obtain⟨h0,h⟩:=He.ba h
 obtain⟨h1,h⟩:=He.ba h
 obtain⟨h2,h⟩:=He.ba h
 obtain⟨h3,h⟩:=He.ba h
 obtain⟨h4,h⟩:=He.ba h
 obtain⟨h5,h⟩:=He.ba h
 obtain⟨h6,h⟩:=He.ba h
 obtain⟨h7,h⟩:=He.ba h
 obtain⟨h8,h9⟩:=He.ba h
 exact⟨He.eqO_ok h0,⟨He.eqO_ok h1,He.eqO_ok h2,of_decide_eq_true h3,h4,He.eqO_ok h5,He.eqO_ok h6,of_decide_eq_true h7,of_decide_eq_true h8⟩,of_decide_eq_true h9⟩
theorem pN.of{xs:List Str}{K:ao}{mg:Str→Option Value}{h:Heap}(X:K.In h)(G:h.Ns mainGlobals mg)(c:okX xs K=true):pN xs K mg:=by
 have c1:∀x∈xs,(okE K x&&xs.all fun y=>okP K x y)=true:=fun x hx=>List.all_eq_true.mp c x hx
 have c2:∀x∈xs,∀y∈xs,okP K x y=true:=fun x hx y hy=>List.all_eq_true.mp (He.ba (c1 x hx)).2 y hy
 refine⟨fun x hx=>PySem.W.mg_of X G (ZC (He.ba (c1 x hx)).1).1,fun x hx=>(ZC (He.ba (c1 x hx)).1).2.1,fun x hx=>(ZC (He.ba (c1 x hx)).1).2.2,fun x hx y hy=> ?_,fun x hx y hy=> ?_⟩
 ·exact of_decide_eq_true (He.ba (c2 x hx y hy)).1
 ·exact of_decide_eq_true (He.ba (c2 x hx y hy)).2
def obsX(n:Nat)(fa:List He.Fa)(fn:List He.DefD)(xs:List Str)(g:Addr→Option Obj):He.AlD×Bool:=(He.obsD fa fn (He.frG g (He.asD g n)),okX xs (He.frG g (He.asD g n)))
def hookX(n:Nat)(fa:List He.Fa)(fn:List He.DefD)(xs:List Str):PySem.W.Hook where
 α:=He.AlD×Bool
 obs:=fun s=>obsX n fa fn xs s.heap.get?
 val:=fun _=>(He.valD fn,true)
 says:=fun _ h=>∃K:ao,K.In h∧He.SaysD fa fn K∧okX xs K=true
 of:=fun _ _ e=>⟨_,He.frG_in,congrArg (fun z:He.AlD×Bool=>z.1) e,congrArg (fun z:He.AlD×Bool=>z.2) e⟩
 keeps:=fun _ _ _ ⟨K,hK,c⟩ k=>⟨K,PySem.W.Frag.In.keeps hK k,c⟩
theorem obsX_eq{n:Nat}{fa:List He.Fa}{fn:List He.DefD}{xs:List Str}{g:Addr→Option Obj}{s:Shared}(h:∀a,g a=s.heap.get? a):obsX n fa fn xs g=(hookX n fa fn xs).obs s:=by
 have e:g=s.heap.get? :=funext h
 rw [e]<;>rfl
abbrev W00:WX:=fun _ _ _ _=>False
section
variable{K:ao}{pn:Pn}{Hf Hb H:Hp}{σ:L2.St}{ρ:Env}
end
inductive ahk(X:Cx)(pq:Pn)(rk:Kd)(xs:List Str):List ExceptHandler→List (Str×SM)→Prop
 |nil:ahk X pq rk xs [] []
 |cons {x:Str} {b₀:Stmt} {suite:List Stmt} {np pos' :Pos} {hds:List ExceptHandler} {m:SM} {l:List (Str×SM)} (hx:x∈xs) (hg:Gl X x) (hd:(x==("__debug__":Str))=false)
   (hsu:∀(a:Addr) (oe:Obj) (pn:List (Addr×Obj)),WD (X.suite a ((a,oe)::pn)) ⟨W00,pq⟩ rk (b₀::suite) m) (r:ahk X pq rk xs hds l):
   ahk X pq rk xs (.ExceptHandler (some (.Name x np)) none (b₀::suite) pos' ::hds) ((x,m)::l)
section
variable{X:Cx}{w:WX}{pq:Pn}{rk:Kd}{xs:List Str}{body:List Stmt}{mb:SM}{pos:Pos}
end
section
variable{X:Cx}{xs:List Str}{c:Str}{a:Addr}{oe:Obj}{pn:List (Addr×Obj)}{pq:Pn}{i:Nat}{n:Str}{p p1 p2 pos:Pos}
inductive agH(X:Cx)(xs:List Str):List Expr→List Str→Prop
 |nil:agH X xs [] []
 |cons {T:Str} {p:Pos} {es:List Expr} {ts:List Str} (hT:T∈xs) (hg:Gl X T) (hd:(T==("__debug__":Str))=false) (hs:starEach (.Name T p::es) X.env=(false,eval (.Name T p) X.env)::starEach es X.env) (r:agH X xs es ts):agH X xs (.Name T p::es) (T::ts)
end
end DL
namespace DL
open PySem L2 Evl
section
variable{X:Cx}{W:WQ}{rk:Kd}{o e:Expr}{mo m:EM}{pos:Pos}
end
section
variable{xs:List Str}{mb:SM}{ρ ρ' :Env}{c:Str}{d:D}
end
end DL
namespace DL
open PySem L2 Evl
structure Sh(n:Nat)(d:D):Prop where
 lay:d.canLay0=true
 dep:d.depth≤n
theorem Sh.shaped{n:Nat}{d:D}(h:Sh n d)(hn:n≤64:=by decide):SeqAt.shaped d=true:=by
 unfold SeqAt.shaped
 rw [h.lay,decide_eq_true (bJ h.dep hn)]
 rfl
theorem Sh.mono{m n:Nat}{d:D}(h:Sh m d)(hn:m≤n):Sh n d:=⟨h.lay,bJ h.dep hn⟩
theorem YZ(n:Nat)(i:Int):Sh n (.int i):=⟨rfl,by simp [PyData.depth]⟩
theorem ael(n:Nat):Sh n .none:=⟨rfl,by simp [PyData.depth]⟩
theorem Jb(n:Nat){x:Str}(h:∀c∈x.cps.toList,c<0x110000):Sh n (.str x):=⟨by
 show PyData.strOk x=true
 unfold PyData.strOk
 rw [Array.all_eq_true']
 intro c hc
 exact decide_eq_true (h c (by simpa using hc)),by simp [PyData.depth]⟩
theorem YJ{n:Nat}:∀{ds:List D},(∀d∈ds,Sh n d)→PyData.canLayAll0 ds=true∧PyData.depthAll ds≤n
 |[],_=>⟨rfl,by simp [PyData.depthAll]⟩
 |d::ds,h=>by
  obtain⟨h1,h2⟩:=YJ (ds:=ds) fun e he=>h e (aN _ he)
  have h3:=h d aY
  simp only [PyData.canLayAll0,PyData.depthAll]
  rw [h1,h3.lay]
  exact⟨rfl,Nat.max_le.mpr ⟨h3.dep,h2⟩⟩
theorem aaC{n:Nat}{ds:List D}(h:∀d∈ds,Sh n d):Sh (n+1) (.list ds):=by
 obtain⟨h1,h2⟩:=YJ h
 refine⟨?_,?_⟩
 ·simp only [dB]
  exact h1
 ·simp only [PyData.depth]
  omega
theorem BK{n:Nat}{ds:List D}(h:∀d∈ds,Sh n d):Sh (n+1) (.tuple ds):=by
 obtain⟨h1,h2⟩:=YJ h
 refine⟨?_,?_⟩
 ·simp only [dB]
  exact h1
 ·simp only [PyData.depth]
  omega
mutual
def nb:D→Bool
 | .bool _| .dict _=>false
 | .list ds| .tuple ds=>nbs ds
 |_=>true
def nbs:List D→Bool
 |[]=>true
 |d::ds=>nb d&&nbs ds
end
mutual
theorem ade:∀(d e:D),nb d=true→nb e=true→dF d e=true→d=e
 | .none,e,_,_,h=>by cases e<;>simp [dF] at h⊢
 | .bool _,_,h,_,_=>by simp [nb] at h
 | .int i,e,_,hb,h=>by cases e<;>simp [dF,nb] at h hb⊢<;>exact h
 | .str x,e,_,_,h=>by cases e<;>simp [dF] at h⊢<;>exact h
 | .list xs,e,ha,hb,h=>by
   cases e with
   |list ys=>
    simp only [dF] at h
    rw [TX xs ys (by simpa [nb] using ha) (by simpa [nb] using hb) h]
   |_=>simp [dF] at h
 | .tuple xs,e,ha,hb,h=>by
   cases e with
   |tuple ys=>
    simp only [dF] at h
    rw [TX xs ys (by simpa [nb] using ha) (by simpa [nb] using hb) h]
   |_=>simp [dF] at h
 | .dict _,_,h,_,_=>by simp [nb] at h
theorem TX:∀(ds es:List D),nbs ds=true→nbs es=true→PyData.eqvAll ds es=true→ds=es
 |[],[],_,_,_=>rfl
 |[],_::_,_,_,h=>by simp [PyData.eqvAll] at h
 |_::_,[],_,_,h=>by simp [PyData.eqvAll] at h
 |d::ds,e::es,ha,hb,h=>by
  simp only [nbs,cW] at ha hb
  simp only [PyData.eqvAll,cW] at h
  rw [ade d e ha.1 hb.1 h.1,TX ds es ha.2 hb.2 h.2]
end
theorem Bg{n:Nat}{d:D}(h:Sh n d)(hn:n≤64:=by decide):jZ d d= .ok (.bool true):=by
 rcases tG d d with⟨i,j,rfl,h2,e⟩|e
 ·cases h2
  rw [e,decide_eq_true rfl]
 ·rw [e,h.shaped hn]
  simp only [Bool.and_self,if_true]
  rw [SeqAt.eqv_refl d h.lay]
theorem Yp{m n:Nat}{d e:D}(h:Sh m d)(k:Sh n e)(hd:nb d=true)(he:nb e=true)(ne:d≠e)(hm:m≤64:=by decide)(hn:n≤64:=by decide):jZ d e= .ok (.bool false):=by
 rcases tG d e with⟨i,j,rfl,rfl,q⟩|q
 ·rw [q,decide_eq_false (fun z=>ne (by rw [z]))]
 ·rw [q,h.shaped hm,k.shaped hn]
  simp only [Bool.and_self,if_true]
  cases z:dF d e with
  |false=>rfl
  |true=>exact absurd (ade d e hd he z) ne
theorem acE{n:Nat}{d:D}(h:Sh n d)(hn:n≤64:=by decide):Ep d d= .ok (.bool false):=Y9 (Bg h hn)
theorem adN{m n:Nat}{d e:D}(h:Sh m d)(k:Sh n e)(hd:nb d=true)(he:nb e=true)(ne:d≠e)(hm:m≤64:=by decide)(hn:n≤64:=by decide):Ep d e= .ok (.bool true):=Y9 (Yp h k hd he ne hm hn)
end DL
namespace DL
open PySem L2 Evl
structure Gio(Hb H:Hp)(p:Addr)(Hb' H' :Hp):Prop where
 h:∀a o,a≠p→H a=some o→H' a=some o
 b:Ex Hb Hb'
 bh:Ex Hb' H'
 nw:∀a,Hb a=none→NT (H a)→Hb' a=none
def Q5(K:ao)(n:Nat)(m:List D→ER):Sp:=fun vs H Q _=>∃(Hb:Hp) (p:Addr) (us:List V) (c:D) (ds:List D) (d c' :D),Ex Hb H∧vs=V.ref p::us∧Hb p=none∧Ow K Hb H p c∧iY K Hb us ds∧us.length=n∧m (c::ds)= .ok (.tuple [d,c'])∧
 ∀v Hb' H',Gio Hb H p Hb' H' →Dr K Hb' v d→Ow K Hb' H' p c' →Q v H'
theorem gj.X6{pn:Pn}{K:ao}{H H' Hb Hb' Hf:Hp}{p:Addr}{c c' :D}{σ:L2.St}{ρ:Env}{i:Nat}(R:gj K pn Hf Hb H σ ρ)(hi:ρ[i]? =some (.own c))(hv:σ[i]? =some (some (.ref p)))(g:Gio Hb H p Hb' H')(hb:Hb' p=none)(h:Ow K Hb' H' p c'):gj K pn Hf Hb' H' σ (ρ.set i (.own c')):=by
 obtain⟨F,r⟩:=R
 obtain⟨q,h1,h2,h3⟩:=r.sl i _ hi
 rw [hv] at h2
 cases h2
 obtain⟨f1,f2,f3⟩:=r.fr i p (by rw [h1];simp)
 refine⟨_,r.step (fp:=[p]) (fun a o e=>g.h a o (ne_of_none e f1) (r.ef a o e)) g.bh g.b rfl (fun j z=>rfl) (fun a ha _ k2 k3=> ?_) (fun _=>⟨p,rfl,hv,h⟩) (by simp) (fun a ha=> ?_) (fun j a z ha hj=> ?_) (fun a q=>r.pin i a q)⟩
 ·obtain⟨o,ho⟩:=wW k3
  exact⟨by rw [ho];exact g.h a o (fun z=>ha (by rw [h1,z];simp)) ho,g.nw a k2 k3⟩
 ·rw [aM.mp ha]
  exact⟨f1,hb,h.nt⟩
 ·exact r.dj j i a z hj (by rw [h1];exact ha)
inductive XR where
 |ok (d:D) (ρ:Env)|ex (c:Str) (ρ:Env)|bad
abbrev XM:=Env→XR
def xOf(K:ao)(W:WQ)(m:XM):TE:=fun σ H Q=>∃(Hf Hb:Hp) (ρ:Env),gj K W.pin Hf Hb H σ ρ∧
 (∀d ρ',m ρ= .ok d ρ' →∀v Hb' H',gj K W.pin Hf Hb' H' σ ρ' →Bw Hf Hb Hb' H' →Dr K Hb' v d→Q v H')∧
 (∀c ρ',m ρ= .ex c ρ' →∀Hb' H',gj K W.pin Hf Hb' H' σ ρ' →Bw Hf Hb Hb' H' →W.w (.ref (He.ga K c)) none σ H')∧m ρ≠ .bad
abbrev DX(X:Cx)(W:WQ)(e:Expr)(m:XM):Prop:=PE X e (xOf X.K W m)
def jg(i:Nat)(g:List D→ER)(ms:List EM):XM:=fun ρ=>match ρ[i]? with
 |some (.own c)=>(match m7 ms ρ with
  | .ok ds=>(match g (c::ds) with
    | .ok (.tuple [d,c'])=> .ok d (ρ.set i (.own c'))
    |_=> .bad)
  | .ex e=> .ex e ρ
  | .bad=> .bad)
 |_=> .bad
def xq(i:Nat)(g:List D→ER)(m:EM)(xm:XM):XM:=fun ρ=>match ρ[i]? with
 |some (.own _)=>(match m ρ with
  | .ok d0=>(match xm ρ with
    | .ok d1 ρ1=>(match ρ1[i]? with
      |some (.own c)=>(match g [c,d0,d1] with
       | .ok (.tuple [d,c'])=> .ok d (ρ1.set i (.own c'))
       |_=> .bad)
      |_=> .bad)
    | .ex e ρ1=> .ex e ρ1
    | .bad=> .bad)
  | .ex e=> .ex e ρ
  | .bad=> .bad)
 |_=> .bad
section
variable{X:Cx}{W:WQ}{ks:List Kd}{x y:Str}{p q pos:Pos}{es:List Expr}{ms:List EM}{g:List D→ER}{i j k n:Nat}{ps:List Str}
theorem uF(i:Nat)(h:Has X.prog X.w X.K X.mg X.base x k ps (Q5 X.K n g))(hr:Room j X.A)(tk:Takes X W.w)(ha:DA X W ks es ms)(hks:∀k∈ks,k= .dat:=by simp)(hn:ks.length=n:=by rfl)(hj:k≤j:=by decide)(hg:Gl X x:=by rfl)(hdb:(x==("__debug__":Str))=false:=by decide)
 (hN:X.N[i]? =some y:=by rfl) (hv:Vis X.env.scope y:=by first|exact Or.inl rfl|exact Or.inr (Or.inl rfl)|exact Or.inr (Or.inr rfl)) (hd:(y==("__debug__":Str))=false:=by decide) (hcd:(y==("__classdict__":Str))=false:=by decide)
 (he:starEach (.Name y q::es) X.env=(false,eval (.Name y q) X.env)::starEach es X.env:=by rfl) (hpl:(backTo pos (starEach es X.env)).any (·.1)=false:=by rfl):DX X W (.Call (.Name x p) (.Name y q::es) [] pos) (jg i g ms):=by
 obtain⟨fd,F,B,_⟩:=h.ex
 refine PE.imp (pe_callS F (hr.mono hj) hg h.gl h.kp B (fun σ=>passAt tk σ) (pa_cons (pe_var hN hv hd hcd) ha he) hdb he hpl) fun σ H Q ⟨Hf,Hb,ρ,R,h1,h2,h3⟩=> ?_
 have h1:=h1
 unfold jg at h1 h2 h3
 split at h1
 ·rename_i c hi
  obtain⟨p,hp,ow,hf,hbp⟩:=R.own i c hi
  have hpn:NT (H p):=ow.nt
  refine⟨_,hp,Hf,Hb,ρ,R,fun ds hds vs Hb1 H1 g1 r1=> ?_,fun e he Hb1 H1 g1=> ?_,fun z=> ?_⟩
  ·rw [hi,hds] at h3
   rw [hds] at h1
   simp only at h1 h3
   cases qg:g (c::ds) with
   |bad=>rw [qg] at h3;exact absurd rfl h3
   |ex e=>rw [qg] at h3;exact absurd rfl h3
   |ok z=>
    rw [qg] at h1 h3
    cases z with
    |tuple l=>
     match l,qg,h1,h3 with
     |[d,c'],qg,h1,h3=>
      refine⟨Hb1,p,vs,c,ds,d,c',g1.bh,rfl,g1.nw p hbp hpn,ow.ex g1.b g1.h,r1.dr hks,?_,qg,fun v Hb2 H2 X6 r o2=> ?_⟩
      ·rw [r1.aev]
       exact hn
      ·have hb2:Hb2 p=none:=X6.nw p (g1.nw p hbp hpn) (J5 g1.h hpn)
       exact h1 d _ rfl v Hb2 H2 ((R.gw g1).X6 hi hp X6 hb2 o2) ⟨g1.b.trans X6.b,X6.bh,fun a z1 z2=>X6.nw a (g1.nw a z1 (J5 R.ef z2)) (J5 g1.h (J5 R.ef z2))⟩ r
     |[],_,_,h3=>exact absurd rfl h3
     |[_],_,_,h3=>exact absurd rfl h3
     |_::_::_::_,_,_,h3=>exact absurd rfl h3
    |_=>exact absurd rfl h3
  ·rw [hi,he] at h2
   exact h2 e ρ rfl Hb1 H1 (R.gw g1) (g1.bw R.ef)
  ·rw [hi,z] at h3
   exact absurd rfl h3
 ·rename_i hno
  exfalso
  apply h3
  split
  ·rename_i c hi
   exact absurd hi (hno c)
  ·rfl
theorem Zi(i:Nat){e1 e2:Expr}{m:EM}{xm:XM}(h:Has X.prog X.w X.K X.mg X.base x k ps (Q5 X.K 2 g))(hr:Room j X.A)(tk:Takes X W.w)(h1:DE X W .dat e1 m)(h2:DX X W e2 xm)(hj:k≤j:=by decide)(hg:Gl X x:=by rfl)(hdb:(x==("__debug__":Str))=false:=by decide)
 (hN:X.N[i]? =some y:=by rfl) (hv:Vis X.env.scope y:=by first|exact Or.inl rfl|exact Or.inr (Or.inl rfl)|exact Or.inr (Or.inr rfl)) (hd:(y==("__debug__":Str))=false:=by decide) (hcd:(y==("__classdict__":Str))=false:=by decide)
 (he:starEach [.Name y q,e1,e2] X.env=(false,eval (.Name y q) X.env)::starEach [e1,e2] X.env:=by rfl) (he1:starEach [e1,e2] X.env=(false,eval e1 X.env)::starEach [e2] X.env:=by rfl) (he2:starEach [e2] X.env=(false,eval e2 X.env)::starEach [] X.env:=by rfl)
 (hpl:(backTo pos (starEach [e1,e2] X.env)).any (·.1)=false:=by rfl):DX X W (.Call (.Name x p) [.Name y q,e1,e2] [] pos) (xq i g m xm):=by
 obtain⟨fd,F,B,_⟩:=h.ex
 refine PE.imp (pe_callS F (hr.mono hj) hg h.gl h.kp B (fun σ=>passAt tk σ) (pa_cons (pe_var hN hv hd hcd) (pa_cons h1 (pa_cons h2 pa_nil he2) he1) he) hdb he hpl) fun σ H Q ⟨Hf,Hb,ρ,R,h1,h2,h3⟩=> ?_
 unfold xq at h1 h2 h3
 cases hi:ρ[i]? with
 |none=>rw [hi] at h3;exact absurd rfl h3
 |some s=>
  cases s with
  |un=>rw [hi] at h3;exact absurd rfl h3
  |nst _ _=>rw [hi] at h3;exact absurd rfl h3
  |vP _ _=>rw [hi] at h3;exact absurd rfl h3
  |QH _ _=>rw [hi] at h3;exact absurd rfl h3
  |dat _=>rw [hi] at h3;exact absurd rfl h3
  |bor _=>rw [hi] at h3;exact absurd rfl h3
  |own c0=>
   rw [hi] at h1 h2 h3
   simp only at h1 h2 h3
   obtain⟨p,hp,_⟩:=R.own i c0 hi
   refine⟨_,hp,Hf,Hb,ρ,R,fun d0 hd0 v0 Hb1 H1 g1 r1=> ?_,fun e he Hb1 H1 g1=> ?_,fun z=> ?_⟩
   ·rw [hd0] at h1 h2 h3
    simp only at h1 h2 h3
    refine⟨Hf,Hb1,ρ,R.gw g1,fun d1 ρ1 hd1 v1 Hb2 H2 R2 b2 r2=> ?_,fun e ρ1 hx Hb2 H2 R2 b2=> ?_,fun z=> ?_⟩
    ·rw [hd1] at h1 h2 h3
     simp only at h1 h2 h3
     cases hi1:ρ1[i]? with
     |none=>rw [hi1] at h3;exact absurd rfl h3
     |some s=>
      cases s with
      |un=>rw [hi1] at h3;exact absurd rfl h3
      |nst _ _=>rw [hi1] at h3;exact absurd rfl h3
      |vP _ _=>rw [hi1] at h3;exact absurd rfl h3
      |QH _ _=>rw [hi1] at h3;exact absurd rfl h3
      |dat _=>rw [hi1] at h3;exact absurd rfl h3
      |bor _=>rw [hi1] at h3;exact absurd rfl h3
      |own c=>
       rw [hi1] at h1 h3
       simp only at h1 h3
       obtain⟨p1,hp1,ow,hf,hbp⟩:=R2.own i c hi1
       rw [hp] at hp1
       cases hp1
       have hpn:NT (H2 p):=ow.nt
       cases qg:g [c,d0,d1] with
       |bad=>rw [qg] at h3;exact absurd rfl h3
       |ex e=>rw [qg] at h3;exact absurd rfl h3
       |ok z=>
        rw [qg] at h1 h3
        cases z with
        |tuple l=>
         match l,qg,h1,h3 with
         |[d,c'],qg,h1,h3=>
          refine⟨Hb2,p,[v0,v1],c,[d0,d1],d,c',b2.bh,rfl,hbp,ow, .cons (lG b2.b r1) (.cons r2 .nil),rfl,qg,fun v Hb3 H3 X6 r o2=> ?_⟩
          have hb3:Hb3 p=none:=X6.nw p hbp hpn
          exact h1 d _ rfl v Hb3 H3 (R2.X6 hi1 hp X6 hb3 o2) ⟨(g1.b.trans b2.b).trans X6.b,X6.bh,fun a z1 z2=>X6.nw a (b2.nw a (g1.nw a z1 (J5 R.ef z2)) z2) (J5 R2.ef z2)⟩ r
         |[],_,_,h3=>exact absurd rfl h3
         |[_],_,_,h3=>exact absurd rfl h3
         |_::_::_::_,_,_,h3=>exact absurd rfl h3
        |_=>exact absurd rfl h3
    ·rw [hx] at h2
     exact h2 e ρ1 rfl Hb2 H2 R2 ((g1.bw R.ef).trans b2)
    ·rw [z] at h3
     exact absurd rfl h3
   ·rw [he] at h2
    exact h2 e ρ rfl Hb1 H1 (R.gw g1) (g1.bw R.ef)
   ·rw [z] at h3
    exact absurd rfl h3
end
def nU(i:Nat)(m:XM):SM:=fun ρ=>match m ρ with
 | .ok d ρ' => .nx (ρ'.set i (.dat d))
 | .ex c ρ' => .ex c ρ'
 | .bad=> .bad
def Aa(m:EM):SM:=fun ρ=>match m ρ with
 | .ok d=>(match(ρ[(0:Nat)]? :Option Sl) with
   |some (.own c)=> .rt (.tuple [d,c])
   |_=> .bad)
 | .ex c=> .ex c ρ
 | .bad=> .bad
def vY(m:XM):SM:=fun ρ=>match m ρ with
 | .ok d ρ' =>(match(ρ'[(0:Nat)]? :Option Sl) with
   |some (.own c)=> .rt (.tuple [d,c])
   |_=> .bad)
 | .ex c ρ' => .ex c ρ'
 | .bad=> .bad
def zQ(i:Nat)(m:XM):SM:=fun ρ=>match ρ[i]? with
 |some (.own (.list _))=>(match m ρ with
  | .ok d ρ' =>(match ρ'[i]? with
    |some (.own (.list ds))=>if ds.length<sizeLine then .nx (ρ'.set i (.own (.list (ds++[d])))) else .bad
    |_=> .bad)
  | .ex c ρ' => .ex c ρ'
  | .bad=> .bad)
 |_=> .bad
def DQ(i:Nat)(mk:EM)(mv:XM):SM:=fun ρ=>match mv ρ with
 | .ok d ρ=>(match ρ[i]? with
   |some (.own (.dict ds))=>if Ah ds=true then(match mk ρ with
    | .ok k=>(match keyOf k with
      |some k=>if ds.length<sizeLine then .nx (ρ.set i (.own (.dict (o8 ds k d)))) else .bad
      |none=> .bad)
    | .ex c=> .ex c ρ
    | .bad=> .bad) else .bad
   |_=> .bad)
 | .ex c ρ=> .ex c ρ
 | .bad=> .bad
section
variable{X:Cx}{W:WQ}{rk:Kd}{e:Expr}{m:XM}{me:EM}{pos:Pos}
theorem wX{i:Nat}{x:Str}{pos' :Pos}(hN:X.N.Nodup)(he:DX X W e m)(hi:X.N[i]? =some x:=by rfl)(hx:Loc X.env.scope x:=by first|exact Or.inl rfl|exact Or.inr rfl)(hs:swapsWith e (some (.Name x pos')) pos.line X.env=pure false:=by rfl)
 (hf:X.fn x=true∨X.env.scope.names.lookup x=some .local:=by first|exact .inl rfl|exact .inr rfl|assumption) (ho:xM W.pin i:=by intro _ z;first|(cases z;done)|exact absurd (dO z).1 (by decide)|(simp at z;done)):DS X W rk (.Assign [.Name x pos'] e pos) (nU i m):=PS.imp (ps_set hN hi hx he hs hf) fun E σ H ⟨Hf,Hb,ρ,R,h⟩=>by
 refine⟨Hf,Hb,ρ,R,fun d ρ' hd v Hb' H' R' b r=> ?_,fun c ρ' hc Hb' H' R' b=> ?_,fun z=> ?_⟩
 ·simp only [nU,hd] at h
  exact h _ Hb' H' (R'.Ji ho r) b
 ·simp only [nU,hc] at h
  exact h _ Hb' H' R' b
 ·simp only [nU,z] at h
  exact h
theorem ac6{K:ao}{Hf Hb H:Hp}{σ:L2.St}{ρ:Env}{p:Addr}{v:V}{d c:D}{pn:Pn}(R:gj K pn Hf Hb H σ ρ)(hp:pn=[(0,p)])(q:ρ[0]? =some (.own c))(r:Dr K Hb v d):Rs K (.io p) Hf Hb H v (.tuple [d,c]):=by
 obtain⟨p1,h1,h2,h3,h4⟩:=R.own 0 c q
 have h5:=R.pin 0 p (by rw [hp];simp)
 rw [h1] at h5
 cases h5
 exact⟨d,c,rfl,r,h3,h4,h2⟩
theorem zG{p:Addr}(he:DE X W .dat e me)(hp:W.pin=[(0,p)]:=by rfl):DS X W (.io p) (.Return (some e) pos) (Aa me):=PS.imp (ps_ret he) fun E σ H ⟨Hf,Hb,ρ,R,h⟩=>by
 refine⟨Hf,Hb,ρ,R,fun d hd v Hb' H' g r=> ?_,fun c hc Hb' H' g=> ?_,fun z=> ?_⟩
 ·simp only [Aa,hd] at h
  split at h
  ·rename_i c q
   exact h v Hb' H' (R.gw g).ef (g.bw R.ef) (ac6 (R.gw g) hp q r)
  ·exact h.elim
 ·simp only [Aa,hc] at h
  exact h _ Hb' H' (R.gw g) (g.bw R.ef)
 ·simp only [Aa,z] at h
  exact h
theorem Lk{p:Addr}(he:DX X W e m)(hp:W.pin=[(0,p)]:=by rfl):DS X W (.io p) (.Return (some e) pos) (vY m):=PS.imp (ps_ret he) fun E σ H ⟨Hf,Hb,ρ,R,h⟩=>by
 refine⟨Hf,Hb,ρ,R,fun d ρ' hd v Hb' H' R' b r=> ?_,fun c ρ' hc Hb' H' R' b=> ?_,fun z=> ?_⟩
 ·simp only [vY,hd] at h
  split at h
  ·rename_i c q
   exact h v Hb' H' R'.ef b (ac6 R' hp q r)
  ·exact h.elim
 ·simp only [vY,hc] at h
  exact h _ Hb' H' R' b
 ·simp only [vY,z] at h
  exact h
theorem Gj{i:Nat}{x:Str}{p p2 p3:Pos}(he:DX X W e m)(hN:X.N[i]? =some x:=by rfl)(hv:Vis X.env.scope x:=by first|exact Or.inl rfl|exact Or.inr (Or.inl rfl)|exact Or.inr (Or.inr rfl))(hd:(x==("__debug__":Str))=false:=by decide)
 (hcd:(x==("__classdict__":Str))=false:=by decide) (hst:starEach [e] X.env=(false,eval e X.env)::starEach [] X.env:=by rfl)
 (hbase:attributeBase (.Name x p) "append" X.env (eval (.Name x p) X.env)=eval (.Name x p) X.env:=by rfl)
 (hfew:((backTo p3 (starEach [e] X.env)).all (fun x=> !x.1)&&(backToKw p3 (keywordEach [] X.env)).all (fun x=>x.1.isSome)
   &&decide (([e]:List Expr).length+([]:List Keyword).length+(if([]:List Keyword).isEmpty then 0 else 1)<30))=true:=by rfl)
 (hline:(p2.endLine==p3.line)=true:=by rfl) (hpl:(backTo p3 (starEach [] X.env)).any (·.1)=false:=by rfl) (hs:swapsWith (.Call (.Attribute (.Name x p) "append" p2) [e] [] p3) none pos.line X.env=pure false:=by rfl):
 DS X W rk (.Expr (.Call (.Attribute (.Name x p) "append" p2) [e] [] p3) pos) (zQ i m):=
 PS.imp (ps_expr (pe_bm PySem.F.plainAttrs_list PySem.F.slot_list_append PySem.F.type_list_append mt_append (pe_var hN hv hd hcd) (pa_cons he pa_nil hst) hbase hfew hline hst hpl) hs) fun E σ H ⟨Hf,Hb,ρ,R,h⟩=>by
  unfold zQ at h
  split at h
  ·rename_i ds0 q0
   obtain⟨p,h1,⟨o,ho,hc⟩,h3,h4⟩:=R.own i _ q0
   cases hc with
   |lst al=>
    refine⟨_,h1, .inl ⟨rfl,_,sq_of ho⟩,Hf,Hb,ρ,R,fun d ρ' hd v Hb' H' R' b r=> ?_,fun c ρ' hc Hb' H' R' b=> ?_,fun z=> ?_⟩
    ·rw [hd] at h
     simp only at h
     split at h
     ·rename_i ds q
      split at h
      ·rename_i hz
       obtain⟨p1,k1,⟨o1,ho1,hc1⟩,k3,k4⟩:=R'.own i _ q
       rw [h1] at k1
       cases k1
       cases hc1 with
       |lst al1=>
        refine⟨p,_,v,rfl,rfl,ho1,by rw [gW al1];exact hz,?_⟩
        exact h σ Hb' _ (R'.write q h1 (.lst (qT al1 (.cons r .nil)))) (b.trans (Bw.upd R'.eb k4))
      ·exact h.elim
     ·exact h.elim
    ·rw [hc] at h
     exact h σ Hb' H' R' b
    ·rw [z] at h
     exact h.elim
  ·exact h.elim
theorem aaJ(i:Nat){x:Str}{k v:Expr}{mk:EM}{mv:XM}{p pos' :Pos}(hu:X.A.units+64<cLine)(hk:DE X W .bor k mk)(hv:DX X W v mv)(hN:X.N[i]? =some x:=by rfl)(hvis:Vis X.env.scope x:=by first|exact Or.inl rfl|exact Or.inr (Or.inl rfl)|exact Or.inr (Or.inr rfl))(hd:(x==("__debug__":Str))=false:=by decide)
 (hcd:(x==("__classdict__":Str))=false:=by decide) (hs:swapsWith v (some (.Subscript (.Name x p) k pos')) pos.line X.env=pure false:=by rfl):DS X W rk (.Assign [.Subscript (.Name x p) k pos'] v pos) (DQ i mk mv):=
 PS.imp (ps_dput (by omega) (pe_var hN hvis hd hcd) hk hv hs) fun E σ H ⟨Hf,Hb,ρ,R,h⟩=>by
 unfold DQ at h
 refine⟨Hf,Hb,ρ,R,fun d ρ1 hd v Hb1 H1 R1 b1 r1=> ?_,fun c ρ1 hc Hb1 H1 R1 b1=> ?_,fun z=> ?_⟩
 ·rw [hd] at h
  simp only at h
  split at h
  ·rename_i ds q
   have hm:Ah ds=true:=by
    cases qm:Ah ds with
    |true=>rfl
    |false=>simp [qm,kY] at h
   simp only [hm,if_true] at h
   obtain⟨p,h1,⟨o,ho,hc⟩,h3,h4⟩:=R1.own i _ q
   cases hc with
   |dT al=>cases hm
   |dK al=>
    refine⟨_,h1,Hf,Hb1,ρ1,R1,fun d2 hd2 y Hb2 H2 g2 r2=> ?_,fun c hc Hb2 H2 g2=> ?_,fun z=> ?_⟩
    ·rw [hd2] at h
     simp only at h
     split at h
     ·rename_i kk hkk
      split at h
      ·rename_i hz
       have ho' :=g2.h _ _ ho
       have R2:=R1.gw g2
       have hb2:Hb2 p=none:=g2.nw p h4 (by rw [ho];exact True.intro)
       have al2:PK X.K Hb2 _ ds:=Paired.imp (fun _ _ q=>⟨q.1,lG g2.b q.2⟩) al
       refine⟨p,_,rfl, .inl ⟨_,kk,ho',r2.key hkk,by rw [Nr al];exact hz,rfl⟩,?_⟩
       exact h σ Hb2 _ (R2.write q h1 (.dK (ZF (lG g2.b r1) al2))) ((b1.trans (g2.bw R1.ef)).trans (Bw.upd g2.bh hb2))
      ·exact h.elim
     ·exact h.elim
    ·rw [hc] at h
     exact h σ Hb2 H2 (R1.gw g2) (b1.trans (g2.bw R1.ef))
    ·rw [z] at h
     exact h.elim
  ·exact h.elim
 ·rw [hc] at h
  exact h σ Hb1 H1 R1 b1
 ·rw [z] at h
  exact h.elim
end
def Ay(n:Nat)(m:SM):List D→ER
 |[]=> .bad
 |c::ds=>match m (.own c::(ds.map Sl.dat++aD n .un)) with
  | .nx ρ=>(match(ρ[(0:Nat)]? :Option Sl) with
    |some (.own c')=> .ok (.tuple [.none,c'])
    |_=> .bad)
  | .rt d=> .ok d
  |_=> .bad
theorem afq{K:ao}{Hb H:Hp}{us:List V}{ds:List D}{c:D}{p:Addr}{N:List Str}{n:Nat}(e:Ex Hb H)(hb:Hb p=none)(ow:Ow K Hb H p c)(r:iY K Hb us ds)(hn:N.length=us.length+1+n):
 gj K [(0,p)] (fun a=>if a=p then none else H a) Hb H (L2.start N (.ref p::us)) (.own c::(ds.map Sl.dat++aD n .un)):=by
 have l1:=gW r
 have key:∀(i:Nat) s,(.own c::(ds.map Sl.dat++aD n .un))[i]? =some s→(i=0∧s= .own c)∨s= .un∨∃v d,(L2.start N (.ref p::us))[i]? =some (some v)∧s= .dat d∧Dr K Hb v d:=fun i s h=>by
  cases i with
  |zero=>
   left
   simpa using h.symm
  |succ i=>
   right
   rw [aQ] at h
   rcases dW i (ds.map Sl.dat).length with hlt|hge
   ·rw [aP hlt,aF,aJ] at h
    obtain⟨d,h1,h2⟩:=h
    obtain⟨v,h3,h4⟩:=Es r h1
    refine .inr ⟨v,d,?_,h2.symm,h4⟩
    have hlt' :i<us.length:=by simpa [l1] using hlt
    unfold L2.start
    rw [aP (by simp;omega),aF,aQ,h3]
    rfl
   ·rw [bG hge] at h
    exact .inl (List.eq_of_mem_replicate (aX h))
 have at0:(L2.start N (.ref p::us))[0]? =some (some (V.ref p)):=by
  unfold L2.start
  simp
 refine⟨fun i=>if i=0 then [p] else [],fun a o h=> ?_,e,?_,fun i s h=> ?_,fun i=> ?_,fun i a ha=> ?_,fun i j a ne ha hj=> ?_,fun i a z=> ?_⟩
 ·by_cases z:a=p
  ·simp [z] at h
  ·simpa [z] using h
 ·unfold L2.start
  simp
  omega
 ·rcases key i _ h with⟨rfl,z⟩|z|⟨v,d',h1,z,h2⟩
  ·subst z
   exact⟨p,by simp,at0,ow⟩
  ·subst z
   by_cases z:i=0
   ·subst z
    simp at h
   ·simp only [if_neg z]
    rfl
  ·subst z
   by_cases z:i=0
   ·subst z
    simp at h
   ·simp only [if_neg z]
    exact⟨rfl,v,h1,h2⟩
 ·by_cases z:i=0<;>simp [z]
 ·by_cases z:i=0
  ·simp only [z,if_true] at ha
   rw [aM.mp ha]
   exact⟨by simp,hb,ow.nt⟩
  ·simp [z] at ha
 ·by_cases z:i=0
  ·by_cases z2:j=0
   ·exact ne (z.trans z2.symm)
   ·simp [z2] at hj
  ·simp [z] at ha
 ·rcases aM.mp z with z
  cases z
  exact at0
section
variable{P:Program}{w:World}{K:ao}{mg:Str→Option Value}{base:Heap}{x qual:Str}{params:Arguments}{body:List Stmt}{scope:Scope}{dvs:List V}{kws:List (Str×V)}{f:Addr}{fd:FuncData}
theorem aiw{N ps:List Str}{k n u:Nat}{m:SM}(F:FunD K x qual params body scope dvs kws f fd)(S:FnScope N ps scope)(hps:ps.length=u+1)(hn:N.length=u+1+n)
 (hbody:∀(p:Addr) (cdv:Value) (A:Around) (outer:List PySem.Env) (s:Shared) (H:Hp) (E:XK),Room k (A.deeper (PyProof.Rows.envOfC qual scope s.heap.objs.size f cdv))→WD (cxOf (L2.CX P w) P w K mg base N qual scope f cdv A outer s H E) ⟨fun cls d _ H=>E cls d H,[(0,p)]⟩ (.io p) body m):
 FnOk P w K mg base (L2.CX P w) (k+1) f fd ps (Q5 K u (Ay n m)):=by
 refine F.ok S (fun vs H Q E h=> ?_) (fun cdv A outer s H vs Q E hr h=> ?_)
 ·obtain⟨Hb,p,us,c,ds,d,c',e,rfl,_,_,_,hu,_⟩:=h
  rw [hps,←hu]
  rfl
 ·obtain⟨Hb,p,us,c,ds,d,c',e,rfl,hb,ow,r,hu,em,hQ⟩:=h
  refine⟨_,hbody p cdv A outer s H E hr,_,Hb,_,afq e hb ow r (n:=n) (by rw [hn,hu]),?_⟩
  have X6:∀Hb' H',Ex (fun a=>if a=p then none else H a) H' →Bw (fun a=>if a=p then none else H a) Hb Hb' H' →Hb' p=none→Gio Hb H p Hb' H' :=fun Hb' H' e1 b hp=>⟨fun a o z q=>e1 a o (by simp [z,q]),b.b,b.bh,fun a z1 z2=>by
   by_cases z:a=p
   ·rw [z]
    exact hp
   ·exact b.nw a z1 (by simpa [z] using z2)⟩
  unfold Ay at em
  simp only at em
  cases q:m (.own c::(ds.map Sl.dat++aD n .un)) with
  |nx ρ=>
   rw [q] at em
   simp only at em
   intro σ' Hb' H' R b
   split at em
   ·rename_i c2 q2
    cases em
    obtain⟨d0,c0,z,r0,z1,z2,z3⟩:=ac6 (v:= .non) (d:= .none) R rfl q2 .non
    cases z
    exact hQ .non Hb' H' (X6 Hb' H' R.ef b z2) .non z3
   ·cases em
  |rt d2=>
   rw [q] at em
   cases em
   intro v Hb' H' e1 b r1
   obtain⟨d0,c0,z,r0,z1,z2,z3⟩:=r1
   cases z
   exact hQ v Hb' H' (X6 Hb' H' e1 b z2) r0 z3
  |ex c ρ=>rw [q] at em;cases em
  |bk ρ=>rw [q] at em;cases em
  |rx d ρ=>rw [q] at em;cases em
  |ct ρ=>rw [q] at em;cases em
  |bad=>rw [q] at em;cases em
end
section
variable{P:Program}{w:World}{K:ao}{mg:Str→Option Value}{base:Heap}{fa:List He.Fa}{fn:List He.DefD}
theorem Jc{x:Str}{d:He.DefD}(Z:nH fa fn K mg)(i j:Nat){N ps:List Str}{k n u:Nat}{m:SM}(hd:fn[i]? =some d)(hx:d.at_=(x,none))(hdf:d.dfl=[])(hkw:d.kwd=[])(hg:fa[j]? =some (.glo x))(S:FnScope N ps d.scope)(hps:ps.length=u+1)(hn:N.length=u+1+n)
 (hb:∀(kV doc pm:Value) (an:Option Addr) (cdv ct:Value) (us:List Value),us.length=ps.length→bindArgs (PySem.W.fnOf d.name d.qual d.params d.body d.scope .none kV doc pm an cdv ct) ⟨us,[]⟩=pure (ps.zip us))
 (hbody:∀(p f:Addr) (cdv:Value) (A:Around) (outer:List PySem.Env) (s:Shared) (H:Hp) (E:XK),Room k (cxOf (L2.CX P w) P w K mg base N d.qual d.scope f cdv A outer s H E).A→Takes (cxOf (L2.CX P w) P w K mg base N d.qual d.scope f cdv A outer s H E) (fun cls d _ H=>E cls d H)→
   PassesOwn (model (cxOf (L2.CX P w) P w K mg base N d.qual d.scope f cdv A outer s H E).prog (cxOf (L2.CX P w) P w K mg base N d.qual d.scope f cdv A outer s H E).w) (cxOf (L2.CX P w) P w K mg base N d.qual d.scope f cdv A outer s H E).A (cxOf (L2.CX P w) P w K mg base N d.qual d.scope f cdv A outer s H E).env (cxOf (L2.CX P w) P w K mg base N d.qual d.scope f cdv A outer s H E).xe→
   WD (cxOf (L2.CX P w) P w K mg base N d.qual d.scope f cdv A outer s H E) ⟨fun cls d _ H=>E cls d H,[(0,p)]⟩ (.io p) d.body m):
 Has P w K mg base x (k+1) ps (Q5 K u (Ay n m)):=by
 obtain⟨fd,F⟩:=Z.says.def_ i hd
 have ea:He.fAd K d.at_=He.ga K x:=by rw [hx];rfl
 rw [ea] at F
 have kp:=F.kp
 have e1:d.dvs K=[]:=by
  unfold He.DefD.dvs
  rw [hdf]
  rfl
 rw [e1] at F
 refine⟨⟨fd,aiw F S hps hn (fun p cdv A outer s H E hr=>hbody p _ cdv A outer s H E hr (takes_of rfl rfl rfl rfl) PassesOwn.leaving),F.bindsN hb,?_⟩,kp,Z.glo j hg⟩
 obtain⟨oc,od,_,_,_,_,_,_,_,osl,_,l,_⟩:=F.ex
 exact⟨oc,od,osl,l⟩
end
end DL
namespace DL
open PySem L2 Evl
def Rt(o:Out)(Q:D→Prop):Prop:=∃d,o= .rt d∧Q d
def Nx(o:Out)(N:Env→Prop):Prop:=∃ρ,o= .nx ρ∧N ρ
section
variable{ρ ρ' :Env}{a b c:SM}{m:EM}{d:D}{Q:D→Prop}{N:Env→Prop}{mi:Env→AR}{g:GM}{body:SM}{ds:List D}
theorem yI{ks:List Kd}{n:Nat}{m:SM}{ds:List D}(h:Rt (m (jV ks ds++aD n .un)) Q):∃d,jG ks n m ds= .ok d∧Q d:=by
 obtain⟨d,e,q⟩:=h
 exact⟨d,by simp [jG,e],q⟩
theorem jA{ks:List Kd}{n:Nat}{m:SM}{ds:List D}{d:D}(h:Rt (m (jV ks ds++aD n .un)) (·=d)):jG ks n m ds= .ok d:=by
 obtain⟨d,e,rfl⟩:=h
 simp [jG,e]
theorem fK(h:a ρ= .nx ρ')(k:Rt (b ρ') Q):Rt (fH a b ρ) Q:=by
 obtain⟨d,e,q⟩:=k
 exact⟨d,by rw [qM h,e],q⟩
theorem oV(h:Nx (a ρ) N)(k:∀ρ',N ρ' →Rt (b ρ') Q):Rt (fH a b ρ) Q:=by
 obtain⟨ρ',e,n⟩:=h
 exact fK e (k ρ' n)
theorem ig(h:a ρ= .nx ρ')(k:Nx (b ρ') N):Nx (fH a b ρ) N:=by
 obtain⟨d,e,q⟩:=k
 exact⟨d,by rw [qM h,e],q⟩
theorem acU{M:Env→Prop}(h:Nx (a ρ) M)(k:∀ρ',M ρ' →Nx (b ρ') N):Nx (fH a b ρ) N:=by
 obtain⟨ρ',e,n⟩:=h
 exact ig e (k ρ' n)
theorem mQ(h:Rt (a ρ) Q):Rt (fH a b ρ) Q:=by
 obtain⟨d,e,q⟩:=h
 exact⟨d,Et e,q⟩
theorem Ad(h:m ρ= .ok (.bool true))(k:Rt (a ρ) Q):Rt (je m a b ρ) Q:=by rwa [Du h]
theorem KD(h:m ρ= .ok (.bool true))(k:Nx (a ρ) N):Nx (je m a b ρ) N:=by rwa [Du h]
theorem Jo(h:m ρ= .ok (.bool false))(k:Nx (b ρ) N):Nx (je m a b ρ) N:=by rwa [tU h]
theorem iI(h:m ρ= .ok d)(q:Q d):Rt (gG m ρ) Q:=⟨d,ret_ok h,q⟩
theorem jn(h:a ρ= .nx ρ')(n:N ρ'):Nx (a ρ) N:=⟨ρ',h,n⟩
theorem mD(P:Nat→Env→Prop)(hi:mi ρ= .ok ds)(h0:P 0 ρ)(hs:∀(i:Nat) d ρ,ds[i]? =some d→P i ρ→∃ρ1,g d ρ=some ρ1∧Nx (body ρ1) (P (i+1))):Nx (nD mi g body ρ) (P ds.length):=by
 obtain⟨ρ',h1,h2⟩:=La P hi h0 (fun i d ρ hd hP=>by
  obtain⟨ρ1,e1,ρ2,e2,e3⟩:=hs i d ρ hd hP
  exact⟨ρ1,ρ2,e1, .inl e2,e3⟩)
 exact⟨ρ',h1,h2⟩
end
section
variable{c:EM}{body:SM}{ρ:Env}
theorem Rr(P:Nat→Env→Prop){N:Env→Prop}:∀(n:Nat) (f:Nat) (ρ:Env),n<f→P n ρ→(∀n ρ,P n ρ→(c ρ= .ok (.bool false)∧N ρ)∨(c ρ= .ok (.bool true)∧∃n',n' <n∧Nx (body ρ) (P n')))→Nx (qK c body f ρ) N
 |n,0,ρ,hf,_,_=>by omega
 |n,f+1,ρ,hf,hP,hs=>by
  rcases hs n ρ hP with⟨h1,h2⟩|⟨h1,n',h2,ρ2,h3,h4⟩
  ·exact⟨ρ,by simp only [qK,h1],h2⟩
  ·obtain⟨ρ3,h5,h6⟩:=Rr P n' f ρ2 (by omega) h4 hs
   exact⟨ρ3,by simp only [qK,h1,h3,h5],h6⟩
theorem Wz{n:Nat}(h:n<2 ^ 100):n<FUEL:=by
 unfold FUEL
 exact h
theorem vK(P:Nat→Env→Prop){N:Env→Prop}(n:Nat)(hn:n<2 ^ 100)(h0:P n ρ)(hs:∀n ρ,P n ρ→(c ρ= .ok (.bool false)∧N ρ)∨(c ρ= .ok (.bool true)∧∃n',n' <n∧Nx (body ρ) (P n'))):Nx (zB c body ρ) N:=
 Rr P n FUEL ρ (Wz hn) h0 hs
end
theorem lC{i j:Int}(h:0<j)(h2:j<10 ^ 300):jB (.int i) (.int j)= .ok (.int (i/j)):=by
 have e:j.natAbs.log2≤1000:=GZ (by
  have:(10:Int) ^ 300<2 ^ 1000:=by decide
  omega)
 have c:(0:Int)<j∧j.natAbs.log2<9000:=⟨h,by omega⟩
 simp only [jB,c,and_self,if_true]
theorem qZ{i j:Int}(h1: -10 ^ 300<i)(h2:i<10 ^ 300)(h3: -10 ^ 300<j)(h4:j<10 ^ 300):lQ (.int i) (.int j)= .ok (.int (i*j)):=
 vZ 1000 1000 (by
  have:(10:Int) ^ 300<2 ^ 1000:=by decide
  omega) (by
  have:(10:Int) ^ 300<2 ^ 1000:=by decide
  omega)
theorem Cy{i j:Int}(h:0<j)(h2:j<10 ^ 300):aaK [.int i, .int j]= .ok (.tuple [.int (i/j), .int (i%j)]):=by
 have e:j.natAbs.log2≤1000:=GZ (by
  have:(10:Int) ^ 300<2 ^ 1000:=by decide
  omega)
 have c:(0:Int)<j∧j.natAbs.log2<9000:=⟨h,by omega⟩
 simp only [aaK,c,and_self,if_true]
theorem vf{ds:List D}{i:Int}(h0:0≤i)(h:i<ds.length):fX (.list ds) (.int i)= .ok (ds.getD i.toNat .none):=by
 rw [acu h0 h]
 simp [bA,show i.toNat<ds.length by omega]
theorem agV{ds:List D}{i:Int}(h0:0≤i)(h:i<ds.length):fX (.tuple ds) (.int i)= .ok (ds.getD i.toNat .none):=by
 rw [Yt h0 h]
 simp [bA,show i.toNat<ds.length by omega]
theorem Mu{ρ:Env}{m:EM}{j:Int}(hb:m ρ= .ok (.int j))(h1: -1000000000≤j)(h2:j≤1000000000):Qt m ρ= .ok (mO 0 j):=aho hb (Oq h1 h2)
theorem ahY{ρ:Env}{ma mb:EM}{i j:Int}(ha:ma ρ= .ok (.int i))(hb:mb ρ= .ok (.int j))(h1: -1000000000≤i)(h2:i≤1000000000)(h3: -1000000000≤j)(h4:j≤1000000000):iR2 ma mb ρ= .ok (mO i j):=agQ ha hb (Oq h1 h2) (Oq h3 h4)
theorem Sv{α:Type}(xs:List α)(d:α)(h:1≤xs.length):xs=xs.take (xs.length-1)++[xs.getD (xs.length-1) d]:=by
 have hl:xs.length-1<xs.length:=by omega
 have e:=bZ (xs.length-1) xs
 conv=>lhs;rw [←e]
 rw [List.drop_eq_getElem_cons hl,List.drop_of_length_le (by omega)]
 simp [bA,hl]
theorem ab7{ds:List D}(h:1≤ds.length):fX (.list ds) (.int (-1))= .ok (ds.getD (ds.length-1) .none):=by
 conv=>lhs;rw [Sv ds .none h]
 rw [Wb]
theorem nW{G:List D→ER}{ma:EM}{ρ:Env}{x:D}{r:ER}(ha:ma ρ= .ok x)(h:G [x]=r):fu G [ma] ρ=r:=by rw [Tw,ha,iV,h]
theorem jf{G:List D→ER}{ma mb:EM}{ρ:Env}{x y:D}{r:ER}(ha:ma ρ= .ok x)(hb:mb ρ= .ok y)(h:G [x,y]=r):fu G [ma,mb] ρ=r:=by rw [Hq,ha,iV,hb,iV,h]
theorem kW{G:List D→ER}{ma mb mc:EM}{ρ:Env}{x y z:D}{r:ER}(ha:ma ρ= .ok x)(hb:mb ρ= .ok y)(hc:mc ρ= .ok z)(h:G [x,y,z]=r):fu G [ma,mb,mc] ρ=r:=by rw [K7,ha,iV,hb,iV,hc,iV,h]
theorem nY{G:List D→ER}{ma mb mc md:EM}{ρ:Env}{x y z w:D}{r:ER}(ha:ma ρ= .ok x)(hb:mb ρ= .ok y)(hc:mc ρ= .ok z)(hd:md ρ= .ok w)(h:G [x,y,z,w]=r):fu G [ma,mb,mc,md] ρ=r:=by rw [Vl,ha,iV,hb,iV,hc,iV,hd,iV,h]
def Go(o:Out)(N:Env→Prop)(Q:D→Prop):Prop:=(∃ρ,o= .nx ρ∧N ρ)∨∃d,o= .rt d∧Q d
theorem acg{o:Out}{N:Env→Prop}{Q:D→Prop}(h:Nx o N):Go o N Q:= .inl h
theorem agk{o:Out}{N:Env→Prop}{Q:D→Prop}(h:Rt o Q):Go o N Q:= .inr h
theorem Il{a b:SM}{ρ ρ' :Env}{N:Env→Prop}{Q:D→Prop}(h:a ρ= .nx ρ')(k:Go (b ρ') N Q):Go (fH a b ρ) N Q:=by
 unfold Go
 rw [qM h]
 exact k
theorem aiD{a b:SM}{ρ:Env}{M:Env→Prop}{Q:D→Prop}(h:Go (a ρ) M Q)(k:∀ρ',M ρ' →Rt (b ρ') Q):Rt (fH a b ρ) Q:=by
 rcases h with⟨ρ',e,n⟩|⟨d,e,q⟩
 ·exact fK e (k ρ' n)
 ·exact⟨d,Et e,q⟩
theorem agU{m:EM}{a b:SM}{ρ:Env}{N:Env→Prop}{Q:D→Prop}(h:m ρ= .ok (.bool true))(k:Go (a ρ) N Q):Go (je m a b ρ) N Q:=by rwa [Du h]
theorem ae7{m:EM}{a b:SM}{ρ:Env}{N:Env→Prop}{Q:D→Prop}(h:m ρ= .ok (.bool false))(k:Go (b ρ) N Q):Go (je m a b ρ) N Q:=by rwa [tU h]
theorem Rq{c:EM}{body:SM}(P:Nat→Env→Prop){N:Env→Prop}{Q:D→Prop}:∀(n:Nat) (f:Nat) (ρ:Env),n<f→P n ρ→(∀n ρ,P n ρ→(c ρ= .ok (.bool false)∧N ρ)∨(c ρ= .ok (.bool true)∧Go (body ρ) (fun ρ' =>∃n',n' <n∧P n' ρ') Q))→Go (qK c body f ρ) N Q
 |n,0,ρ,hf,_,_=>by omega
 |n,f+1,ρ,hf,hP,hs=>by
  rcases hs n ρ hP with⟨h1,h2⟩|⟨h1,⟨ρ2,h3,n',h2,h4⟩|⟨d,h3,h4⟩⟩
  ·exact .inl ⟨ρ,by simp only [qK,h1],h2⟩
  ·have ih:=Rq P n' f ρ2 (by omega) h4 hs
   have e:qK c body (f+1) ρ=qK c body f ρ2:=by simp only [qK,h1,h3]
   unfold Go
   rw [e]
   exact ih
  ·exact .inr ⟨d,by simp only [qK,h1,h3],h4⟩
theorem ac7{c:EM}{body:SM}{ρ:Env}(P:Nat→Env→Prop){N:Env→Prop}{Q:D→Prop}(n:Nat)(hn:n<2 ^ 100)(h0:P n ρ)(hs:∀n ρ,P n ρ→(c ρ= .ok (.bool false)∧N ρ)∨(c ρ= .ok (.bool true)∧Go (body ρ) (fun ρ' =>∃n',n' <n∧P n' ρ') Q)):Go (zB c body ρ) N Q:=
 Rq P n FUEL ρ (Wz hn) h0 hs
end DL
namespace DL
open PySem PySem.Spec L2 Evl PyProof.Rows
section
variable{X:Cx}{pins:List (Addr×Obj)}{σ:L2.St}{H:Hp}{s:Shared}{a:Addr}{kvs:List (Key×V)}{A:Around}{E:Value→Shared→Prop}
theorem abv{Q:Value→Shared→Prop}(I:Inv X pins σ H s)(e:Rd H a (.dK kvs))(h:∀s',Inv X pins σ H s' →Q .none s'):wpAny (model X.prog X.w) A (call (.builtin "dict.get") [.ref a, .none]) Q E s:=by
 obtain⟨_,hd,vs,_,dd⟩:=dk_rd I.hok e
 obtain⟨f,hm,hf⟩:=none_map dd
 refine call_meetsIn PySem.F.slot_dict_get dd.typeIs PySem.F.entry_dict_get (PySem.F.args_dict_get_2 _ _) (meets_dict_get (noneKind X.prog X.w) a (show(noneKind X.prog X.w).is none .none=true from rfl) hd) ⟨_,hm,?_⟩
 rw [hf]
 exact h _ (I.tok _)
end
def aeA(td ty:TE):TE:=fun σ H Q=>td σ H fun x H1=>∃a,x= .ref a∧IsD H1 a∧ty σ H1 fun y H2=>(∃o,DGet H2 a y o∧Q (o.getD .non) H2)∨∃kvs,y= .non∧Rd H2 a (.dK kvs)∧Q .non H2
section
variable{X:Cx}{o e f:Expr}{apos cpos:Pos}{td ty tx:TE}
theorem ab6(hu:X.A.units+1<cLine)(ho:PE X o td)(he:PE X e ty)(m:M1 X o "get" apos e cpos):PE X (.Call (.Attribute o "get" apos) [e] [] cpos) (aeA td ty):=by
 refine⟨fun pins s σ H Q I h=> ?_⟩
 refine wpAny_Call_method m.base m.few m.line PySem.F.plainAttrs_dict PySem.F.slot_dict_get PySem.F.type_dict_get (thn (ho.run pins s σ H _ I h) fun u s1 ⟨x,H1,I1,rx,a,ex,d,q1⟩=> ?_)
 subst ex
 obtain rfl:u=Value.ref a:=rx
 obtain⟨t1,t2,_⟩:=isD_at I1 d
 refine⟨t1,t2,?_⟩
 rw [m.trees]
 refine Calls.callWith_builtin rfl (Calls.evalArgs_plain (Calls.spliced_cons (thn (he.run pins s1 σ H1 _ I1 q1) fun iv s2 ⟨y,H2,I2,ry,q2⟩=>Calls.spliced_nil ?_)))
 rcases q2 with⟨ov,g,q2⟩|⟨kvs,ey,g,q2⟩
 ·exact d_get1 hu I2 g ry fun w' s3 I3 rw' =>⟨_,H2,I3,rw',q2⟩
 ·subst ey
  obtain rfl:iv=Value.none:=ry
  exact abv I2 g fun s3 I3=>⟨.non,H2,I3,rfl,q2⟩
end
def Ss:D→D→ER
 | .dict _, .none=> .ok .none
 |x,k=>Jv x k
def qw(ma mb:EM):EM:=fun ρ=>(ma ρ).bind fun x=>match x with
 | .dict ds=>if Ah ds=true then(mb ρ).bind (Ss (.dict ds)) else .bad
 |_=> .bad
section
variable{X:Cx}{W:WQ}{o e:Expr}{ma mb:EM}{apos cpos:Pos}
theorem Mh(hu:X.A.units+64<cLine)(ha:DE X W .bor o ma)(hb:DE X W .bor e mb)(hm:M1 X o "get" apos e cpos:=by exact⟨rfl,rfl,rfl,rfl⟩):DE X W .dat (.Call (.Attribute o "get" apos) [e] [] cpos) (qw ma mb):=
 PE.imp (ab6 (by omega) ha hb hm) fun σ H Q ⟨Hf,Hb,ρ,R,h1,h2,h3⟩=>by
 refine⟨Hf,Hb,ρ,R,fun d hd v Hb1 H1 g1 r1=> ?_,fun c hc Hb1 H1 g1=>h2 c (by simp [qw,hc,ER.bind]) Hb1 H1 g1,fun z=>h3 (by simp [qw,z,ER.bind])⟩
 cases d with
 |dict ds=>
  have hm:Ah ds=true:=by
   cases qm:Ah ds with
   |true=>rfl
   |false=>exact absurd (by simp [qw,hd,qm,ER.bind]) h3
  obtain⟨p,kvs,rfl,hd1,pk⟩:=Bo.dict g1.bh r1 hm
  refine⟨p,rfl,agB hd1,Hf,Hb1,ρ,R.gw g1,fun d2 hd2 v2 Hb2 H2 g2 r2=> ?_,fun c hc Hb2 H2 g2=>h2 c (by simp [qw,hd,hm,hc,ER.bind]) Hb2 H2 (g1.trans g2),fun z=>h3 (by simp [qw,hd,hm,z,ER.bind])⟩
  have e:qw ma mb ρ=Ss (.dict ds) d2:=by simp [qw,hd,hm,hd2,ER.bind]
  rw [e] at h1 h3
  have old:Ss (.dict ds) d2=Jv (.dict ds) d2→∃o,DGet H2 p v2 o∧Q (o.getD .non) H2:=fun ed=>by
   rw [ed] at h1 h3
   cases hk:keyOf d2 with
   |none=>exact absurd (by simp only [Jv,hm,if_true,hk]) h3
   |some k=>
    have pk2:PK X.K Hb2 kvs ds:=Paired.imp (fun _ _ q=>⟨q.1,lG g2.b q.2⟩) pk
    rcases GP (k:=k) pk2 with⟨z1,z2⟩|⟨v,d,z1,z2,z3⟩
    ·exact⟨none, .inl ⟨kvs,k,ex_rd g2.h hd1,r2.key hk,z1.symm⟩,h1 .none (by simp only [Jv,hm,if_true,hk,z2];rfl) .non Hb2 H2 (g1.trans g2) Ze⟩
    ·exact⟨some v, .inl ⟨kvs,k,ex_rd g2.h hd1,r2.key hk,z1.symm⟩,h1 d (by simp only [Jv,hm,if_true,hk,z2];rfl) v Hb2 H2 (g1.trans g2) z3⟩
  cases d2 with
  |none=>exact .inr ⟨kvs,r2.non,ex_rd g2.h hd1,h1 .none rfl .non Hb2 H2 (g1.trans g2) Ze⟩
  |bool _=>exact .inl (old rfl)
  |int _=>exact .inl (old rfl)
  |str _=>exact .inl (old rfl)
  |list _=>exact .inl (old rfl)
  |tuple _=>exact .inl (old rfl)
  |dict _=>exact .inl (old rfl)
 |_=>exact absurd (by simp [qw,hd,ER.bind]) h3
end
def aaN(r r' r'' :R2)(ta tb tc td:TE):TE:=fun σ H Q=>ta σ H fun x H1=>tb σ H1 fun y H2=>r x y H2 fun z H3=>∃k,z= .bl k∧
 (if k=true then tc σ H3 fun w H4=>r' y w H4 fun z' H5=>∃k',z' = .bl k' ∧(if k' =true then td σ H5 fun u H6=>r'' w u H6 Q else Q (.bl false) H5) else Q (.bl false) H3)
section
variable{X:Cx}{a b c d:Expr}{ta tb tc td:TE}{pos:Pos}
theorem abJ{op op' op'' :CmpOp}{r r' r'' :R2}(ho:OpR X (compareOp op) r)(ho' :OpR X (compareOp op') r')(ho'' :OpR X (compareOp op'') r'')(ha:PE X a ta)(hb:PE X b tb)(hc:PE X c tc)(hd:PE X d td)
 (hm:lastMarks [op,op',op''] [b,c,d]=false:=by with_unfolding_all rfl):PT X (.Compare a [op,op',op''] [b,c,d] pos) (tTest (aaN r r' r'' ta tb tc td)):=by
 refine⟨fun pins s σ H Q I h=> ?_⟩
 refine isTrue_chain (thn (ha.run pins s σ H _ I h) fun v s1 ⟨x,H1,I1,r1,q1⟩=>test_link (thn (hb.run pins s1 σ H1 _ I1 q1) fun u s2 ⟨y,H2,I2,r2,q2⟩=>
  thn (ho pins s2 σ H2 x y v u _ I2 r1 r2 q2) fun dd s3 ⟨z,H3,I3,r3,k,e,q3⟩=> ?_)) hm
 subst e
 cases r3
 refine wpAny_truthy_bool ?_
 cases k with
 |false=>
  obtain⟨k',e',q'⟩:=q3
  cases e'
  exact ite_ff ⟨H3,I3,q'⟩
 |true=>
  refine ite_tt (test_link (thn (hc.run pins s3 σ H3 _ I3 q3) fun w' s4 ⟨z',H4,I4,r4,q4⟩=>thn (ho' pins s4 σ H4 y z' u w' _ I4 r2 r4 q4) fun d5 s5 ⟨z5,H5,I5,r5,k5,e5,q5⟩=> ?_))
  subst e5
  cases r5
  refine wpAny_truthy_bool ?_
  cases k5 with
  |false=>
   obtain⟨k',e',q'⟩:=q5
   cases e'
   exact ite_ff ⟨H5,I5,q'⟩
  |true=>
   refine ite_tt (test_last (thn (hd.run pins s5 σ H5 _ I5 q5) fun w6 s6 ⟨z6,H6,I6,r6,q6⟩=>thn (ho'' pins s6 σ H6 z' z6 w' w6 _ I6 r4 r6 q6) fun d7 s7 ⟨z7,H7,I7,r7,k7,e7,q7⟩=> ?_))
   subst e7
   cases r7
   exact wpAny_truthy_bool ⟨H7,I7,q7⟩
end
def oO(g g' g'' :D→D→ER)(ma mb mc md:EM):EM:=fun ρ=>(ma ρ).bind fun x=>(mb ρ).bind fun y=>(g x y).bind fun z=>match z with
 | .bool true=>(mc ρ).bind fun w=>(g' y w).bind fun z' =>(match z' with
   | .bool true=>(md ρ).bind fun u=>g'' w u
   | .bool false=> .ok (.bool false)
   |_=> .bad)
 | .bool false=> .ok (.bool false)
 |_=> .bad
section
variable{K:ao}{W:WQ}{ma mb mc md:EM}{g g' g'' :D→D→ER}
theorem YQ(ng:lg g)(ng' :lg g')(ng'' :lg g''){σ:L2.St}{H:Hp}{Q:VK}(h:BV K W .dat (oO g g' g'' ma mb mc md) σ H Q):aaN (rOf K .dat g) (rOf K .dat g') (rOf K .dat g'') (BV K W .bor ma) (BV K W .bor mb) (BV K W .bor mc) (BV K W .bor md) σ H Q:=by
 obtain⟨Hf,Hb,ρ,R,h1,h2,h3⟩:=h
 refine⟨Hf,Hb,ρ,R,fun d hd v Hb1 H1 g1 r1=> ?_,fun c hc Hb1 H1 g1=>h2 c (by simp [oO,hc,ER.bind]) Hb1 H1 g1,fun z=>h3 (by simp [oO,z,ER.bind])⟩
 refine⟨Hf,Hb1,ρ,R.gw g1,fun d2 hd2 v2 Hb2 H2 g2 r2=> ?_,fun c hc Hb2 H2 g2=>h2 c (by simp [oO,hd,hc,ER.bind]) Hb2 H2 (g1.trans g2),fun z=>h3 (by simp [oO,hd,z,ER.bind])⟩
 cases q:g d d2 with
 |bad=>exact absurd (by simp [oO,hd,hd2,q,ER.bind]) h3
 |ex c=>exact absurd q (ng _ _ _)
 |ok z=>
  refine⟨Hb2,d,d2,z,g2.bh,Bo.ex g2.b g2.h r1,r2,q,fun v3 Hb3 H3 g3 r3=> ?_⟩
  have gg:Gw Hb H Hb3 H3:=(g1.trans g2).trans g3
  cases z with
  |bool b=>
   have e1:v3= .bl b:=Bo.bl (K:=K) (Hb:=Hb3) (H:=H3) (.inl r3)
   refine⟨b,e1,?_⟩
   cases b with
   |false=>
    show Q (.bl false) H3
    exact h1 (.bool false) (by simp [oO,hd,hd2,q,ER.bind]) _ Hb3 H3 gg mJ
   |true=>
    show BV K W .bor mc σ H3 fun w' H4=>rOf K .dat g' v2 w' H4 _
    have e:oO g g' g'' ma mb mc md ρ=(mc ρ).bind fun w=>(g' d2 w).bind fun z' =>(match z' with
     | .bool true=>(md ρ).bind fun u=>g'' w u
     | .bool false=> .ok (.bool false)
     |_=> .bad):=by simp only [oO,hd,hd2,q,ER.bind]
    rw [e] at h1 h2 h3
    refine⟨Hf,Hb3,ρ,R.gw gg,fun d4 hd4 v4 Hb4 H4 g4 r4=> ?_,fun c hc Hb4 H4 g4=>h2 c (by simp [hc,ER.bind]) Hb4 H4 (gg.trans g4),fun z=>h3 (by simp [z,ER.bind])⟩
    rw [hd4] at h1 h2 h3
    cases q4:g' d2 d4 with
    |bad=>exact absurd (by simp [q4,ER.bind]) h3
    |ex c=>exact absurd q4 (ng' _ _ _)
    |ok z4=>
     refine⟨Hb4,d2,d4,z4,g4.bh,Bo.ex (g3.b.trans g4.b) (g3.h.trans g4.h) r2,r4,q4,fun v5 Hb5 H5 g5 r5=> ?_⟩
     have gg5:Gw Hb H Hb5 H5:=(gg.trans g4).trans g5
     cases z4 with
     |bool b4=>
      have e4:v5= .bl b4:=Bo.bl (K:=K) (Hb:=Hb5) (H:=H5) (.inl r5)
      refine⟨b4,e4,?_⟩
      cases b4 with
      |false=>
       show Q (.bl false) H5
       exact h1 (.bool false) (by simp [q4,ER.bind]) _ Hb5 H5 gg5 mJ
      |true=>
       show BV K W .bor md σ H5 fun w' H6=>rOf K .dat g'' v4 w' H6 Q
       have e6:((ER.ok d4).bind fun w=>(g' d2 w).bind fun z' =>(match z' with
        | .bool true=>(md ρ).bind fun u=>g'' w u
        | .bool false=> .ok (.bool false)
        |_=> .bad))=(md ρ).bind fun u=>g'' d4 u:=by simp only [q4,ER.bind]
       rw [e6] at h1 h2 h3
       refine⟨Hf,Hb5,ρ,R.gw gg5,fun d6 hd6 v6 Hb6 H6 g6 r6=> ?_,fun c hc Hb6 H6 g6=>h2 c (by simp [hc,ER.bind]) Hb6 H6 (gg5.trans g6),fun z=>h3 (by simp [z,ER.bind])⟩
       rw [hd6] at h1 h3
       cases q6:g'' d4 d6 with
       |bad=>exact absurd (by simp [q6,ER.bind]) h3
       |ex c=>exact absurd q6 (ng'' _ _ _)
       |ok z6=>exact⟨Hb6,d4,d6,z6,g6.bh,Bo.ex (g5.b.trans g6.b) (g5.h.trans g6.h) r4,r6,q6,fun v Hb7 H7 g7 r7=>h1 z6 (by simp [q6,ER.bind]) v Hb7 H7 ((gg5.trans g6).trans g7) r7⟩
     |_=>exact absurd (by simp [q4,ER.bind]) h3
  |_=>exact absurd (by simp [oO,hd,hd2,q,ER.bind]) h3
end
section
variable{X:Cx}{W:WQ}{a b c d:Expr}{ma mb mc md:EM}{g g' g'' :D→D→ER}{pos:Pos}
theorem abK{op op' op'' :CmpOp}(ho:Fp X (compareOp op) .dat g)(ho' :Fp X (compareOp op') .dat g')(ho'' :Fp X (compareOp op'') .dat g'')(ng:lg g)(ng' :lg g')(ng'' :lg g'')(ha:DE X W .bor a ma)(hb:DE X W .bor b mb)(hc:DE X W .bor c mc)(hd:DE X W .bor d md)
 (hm:lastMarks [op,op',op''] [b,c,d]=false:=by with_unfolding_all rfl):DT X W (.Compare a [op,op',op''] [b,c,d] pos) (oO g g' g'' ma mb mc md):=PT.imp (abJ ho ho' ho'' ha hb hc hd hm) fun σ H Q h=>by
 obtain⟨Hf,Hb,ρ,R,h1,h2,h3⟩:=K9 h
 exact YQ ng ng' ng'' ⟨Hf,Hb,ρ,R,fun d hd v Hb' H' g r=>h1 d hd v Hb' H' g (.inl r),h2,h3⟩
end
theorem aag{X:Cx}(hu:X.A.units+1<cLine):IxR X (fun x y H Q=>∃a v,x= .ref a∧DGet H a y (some v)∧Q v H):=by
 intro value slice pins s σ H x y v u Q I rx ry h hs
 obtain⟨a,w,rfl,g,q⟩:=h
 obtain rfl:v=Value.ref a:=rx
 have hT:=dict_typeIs I g
 unfold subscriptTail
 refine wpAny_bind ?_
 rw [getitemInPython_of_ne hT.not_modules]
 refine wpAny_bind (wpAny_specialOf hT PySem.F.slot_dict_getitem.lookup ?_)
 have fin:wpAny (model X.prog X.w) X.A (subscripted slice false (.ref a) u) (fun r s₃=>wpAny (model X.prog X.w) X.A (letTemporaryGo value (.ref a) r>>=fun _=>pure r) (EP X pins σ Q) X.xe s₃) X.xe s:=by
  rw [hs]
  exact wpAny_operating (wpAny_mono (d_getItem hu I g ry fun w' s3 I3 rw' =>(⟨w,H,I3,rw',q⟩:EP X pins σ Q w' s3)) (fun r s₃ h₃=>wpAny_bind (wpAny_letTemporaryGo (wpAny_pure h₃))) fun _ _ x=>x)
 first
  |exact wpAny_pure (wpAny_bind fin)
  |exact wpAny_bind (wpAny_pure (wpAny_bind fin))
  |exact wpAny_bind fin
def Ip:D→D→ER
 | .dict ds,k=>jF (.dict ds) k
 |x,k=>fX x k
theorem agZ:lg Ip:=fun x y c h=>by
 cases x with
 |dict ds=>exact aen (.dict ds) y c h
 |none=>exact Mw .none y c h
 |bool b=>exact Mw (.bool b) y c h
 |int b=>exact Mw (.int b) y c h
 |str b=>exact Mw (.str b) y c h
 |list b=>exact Mw (.list b) y c h
 |tuple b=>exact Mw (.tuple b) y c h
theorem ahB{X:Cx}(hu:X.A.units+64<cLine):IxR X (rOf X.K .dat Ip):=by
 intro value slice pins s σ H x y v u Q I rx ry h hs
 obtain⟨Hb,dx,dy,d,eb,bx,byy,hg,q⟩:=h
 have old:Ip dx dy=fX dx dy→wpAny (model X.prog X.w) X.A (subscriptTail value slice v u) (EP X pins σ Q) X.xe s:=fun e=>by
  rw [e] at hg
  exact af2 value slice pins s σ H x y v u Q I rx ry ⟨Hb,dx,dy,d,eb,bx,byy,hg,q⟩ hs
 cases dx with
 |dict ds=>
  have hm:Ah ds=true:=by
   cases qm:Ah ds with
   |true=>rfl
   |false=>simp [Ip,jF,qm] at hg
  obtain⟨p,kvs,rfl,hd,pk⟩:=bx.dict eb hm
  simp only [Ip,jF,hm,if_true] at hg
  split at hg
  ·rename_i k hk
   rcases GP (k:=k) pk with⟨z1,z2⟩|⟨w,d',z1,z2,z3⟩
   ·rw [z2] at hg
    cases hg
   ·rw [z2] at hg
    cases hg
    exact aag (by omega) value slice pins s σ H _ y v u Q I rx ry ⟨p,w,rfl, .inl ⟨kvs,k,hd,byy.key hk,z1.symm⟩,q w Hb H (Gw.refl eb) z3⟩ hs
  ·cases hg
 |none=>exact old rfl
 |bool _=>exact old rfl
 |int _=>exact old rfl
 |str _=>exact old rfl
 |list _=>exact old rfl
 |tuple _=>exact old rfl
theorem Zq{X:Cx}{W:WQ}{a b:Expr}{ma mb:EM}{pos:Pos}(hu:X.A.units+64<cLine)(ha:DE X W .bor a ma)(hb:DE X W .bor b mb)(hs:PlainIx b:=by exact fun _ _=>rfl):DE X W .dat (.Subscript a b pos) (eG Ip ma mb):=PE.imp (pe_ix (ahB hu) ha hb hs) fun _ _ _=>Ds agZ
end DL
namespace DL
open PySem PySem.Spec L2 Evl PyProof.Rows
def YD(m:EM):Env→AR:=fun ρ=>match m ρ with
 | .ok (.list ds)=> .ok ds.reverse
 | .ok _=> .bad
 | .ex c=> .ex c
 | .bad=> .bad
theorem ahx{K:ao}{Hb1:Hp}{p:Addr}{xs:List V}{ds:List D}(h:SqL K Hb1 p xs)(a:iY K Hb1 xs ds):Yl K Hb1 (Itv K p xs.length) ds.reverse where
 go:=fun i H e hi=>by
  have hl:=gW a
  rw [bK] at hi
  exact⟨by omega,xs,xs[xs.length-1-i]'(by omega),ex_l e h,by simp⟩
 stop:=fun H e=>by
  show xs.length≤ds.reverse.length
  rw [bK,gW a]
  exact bD _
 yld:=fun i H x H' Hb e1 e2 hi y=>by
  obtain⟨rfl,y⟩:=y
  have hl:=gW a
  rw [bK] at hi
  have hx:=y xs (ex_l (e1.trans e2) h)
  obtain⟨d,d1,d2⟩:=sY a hx
  refine⟨Hb,d,Gw.refl e2,?_,lG e1 d2⟩
  rw [List.getElem?_reverse hi,←hl]
  exact d1
theorem adT{X:Cx}{W:WQ}{tg e:Expr}{m:EM}{p pos:Pos}(hm:X.mg "reversed"=none)(h:DE X W .dat e m)(hg:Gl X "reversed":=by rfl)(hs:starEach [e] X.env=[(false,eval e X.env)]:=by rfl):DI X W tg (.Call (.Name "reversed" p) [e] [] pos) (YD m):=
 PI.imp (pi_reversed hg hm (pa_cons h pa_nil hs) hs) fun σ H R ⟨Hf,Hb,ρ,Re,h1,h2,h3⟩=>by
 refine⟨Hf,Hb,ρ,Re,fun d hd v Hb' H' g r=> ?_,fun c hc=>h2 c (by simp [YD,hc]),fun z=>h3 (by simp [YD,z])⟩
 cases d with
 |list ds=>
  cases r with
  |lst s a=>exact⟨_,_,rfl,ex_l g.bh s,h1 _ (by simp [YD,hd]) _ Hb' H' g (ahx s a)⟩
 |_=>exact absurd (by simp [YD,hd]) h3
end DL
namespace DL
open PySem PySem.Spec L2 Evl PyProof.Rows
theorem Vn{k:Key}(h:PyData.none=keyD k):False:=by cases k<;>cases h
def keysOf:List D→Option (List Key)
 |[]=>some []
 |d::ds=>match keyOf d,keysOf ds with
  |some k,some ks=>some (k::ks)
  |_,_=>none
def xj:D→Option (List Key)
 | .tuple ds=>keysOf ds
 |_=>none
theorem Nu:∀ks:List Key,keysOf (ks.map keyD)=some ks
 |[]=>rfl
 |k::ks=>by simp [keysOf,yQ,Nu ks]
theorem O4(ks:List Key):xj (.tuple (ks.map keyD))=some ks:=Nu ks
def wQ(ds:List (D×D))(k:List Key):Option D:=(ds.find? fun q=>decide (xj q.1=some k)).map (·.2)
def Ph(ds:List (D×D))(k:List Key)(v:D):List (D×D):=
 if(ds.any fun q=>decide (xj q.1=some k))=true then ds.map (fun q=>if xj q.1=some k then(q.1,v) else q) else ds++[(.tuple (k.map keyD),v)]
abbrev PT(K:ao)(Hb:Hp):List (List Key×V)→List (D×D)→Prop:=Paired (fun(p:List Key×V) (q:D×D)=>q.1= .tuple (p.1.map keyD)∧Dr K Hb p.2 q.2)
abbrev tD(ds:List (D×D)):D:= .dict ((.none, .none)::ds)
section
variable{K:ao}{Hb H:Hp}
theorem Ks:∀{ds:List D} {xs:List V} {ks:List Key},iY K Hb xs ds→keysOf ds=some ks→xs=ks.map kV
 |[],_,_, .nil,e=>by
  cases e
  rfl
 |d::ds,_,ks, .cons a b,e=>by
  simp only [keysOf] at e
  cases q:keyOf d with
  |none=>rw [q] at e;cases e
  |some k=>
   cases q2:keysOf ds with
   |none=>rw [q,q2] at e;cases e
   |some ks2=>
    rw [q,q2] at e
    cases e
    rw [Ks b q2,Bo.key (.inl a) q (H:=Hb)]
    rfl
theorem Bo.ahF{v:V}{d:D}{k:List Key}(eb:Ex Hb H)(h:Bo K Hb H v d)(e:xj d=some k):∃b,v= .ref b∧H b=some (.tup (k.map kV)):=by
 cases d with
 |tuple ds=>
  rcases h with h|⟨p,rfl,o,h2,h3⟩
  ·cases h with
   |tup a al=>
    rw [Ks al e] at a
    exact⟨_,rfl,eb _ _ a⟩
  ·cases h3
 |_=>cases e
theorem Uz{k:List Key}:∀{kvs:List (List Key×V)} {ds:List (D×D)},PT K Hb kvs ds→(valV kvs k=none∧wQ ds k=none)∨∃v d,valV kvs k=some v∧wQ ds k=some d∧Dr K Hb v d
 |_,_, .nil=> .inl ⟨rfl,rfl⟩
 |_,_, .cons (a:=p) (b:=q) (l₁:=kvs) (l₂:=ds) h r=>by
  have e:xj q.1=some p.1:=by rw [h.1,O4]
  by_cases z:p.1=k
  ·refine .inr ⟨p.2,q.2,valV_pos z,?_,h.2⟩
   have e2:xj q.1=some k:=by rw [e,z]
   simp [wQ,dR,e2]
  ·have e2:¬xj q.1=some k:=by
    rw [e]
    exact fun w=>z (Option.some.inj w)
   have e3:wQ (q::ds) k=wQ ds k:=by simp [wQ,dR,e2]
   rw [valV_neg z,e3]
   exact Uz r
theorem acS{k:List Key}:∀{kvs:List (List Key×V)} {ds:List (D×D)},PT K Hb kvs ds→(kvs.any fun kv=>decide (kv.1=k))=ds.any fun q=>decide (xj q.1=some k)
 |_,_, .nil=>rfl
 |_,_, .cons (a:=p) (b:=q) h r=>by
  have e:xj q.1=some p.1:=by rw [h.1,O4]
  rw [dX,dX,acS r,e]
  congr 1
  simp
theorem ac0{k:List Key}{v:V}{d:D}(hv:Dr K Hb v d):∀{kvs:List (List Key×V)} {ds:List (D×D)},PT K Hb kvs ds→PT K Hb (kvs.map fun kv=>if kv.1=k then(kv.1,v) else kv) (ds.map fun q=>if xj q.1=some k then(q.1,d) else q)
 |_,_, .nil=> .nil
 |_,_, .cons (a:=p) (b:=q) h r=>by
  have e:xj q.1=some p.1:=by rw [h.1,O4]
  refine .cons ?_ (ac0 hv r)
  by_cases z:p.1=k
  ·have e2:xj q.1=some k:=by rw [e,z]
   simp only [z,e2,if_true]
   rw [←z]
   exact⟨h.1,hv⟩
  ·have e2:¬xj q.1=some k:=by
    rw [e]
    exact fun w=>z (Option.some.inj w)
   simp only [z,e2,if_false]
   exact h
theorem ahh{k:List Key}{v:V}{d:D}(hv:Dr K Hb v d){kvs:List (List Key×V)}{ds:List (D×D)}(h:PT K Hb kvs ds):PT K Hb (putK kvs k v) (Ph ds k d):=by
 unfold putK Ph
 rw [acS h]
 split
 ·exact ac0 hv h
 ·exact Ff h (.cons ⟨rfl,hv⟩ .nil)
theorem aa3{K:ao}{Hb:Hp}:∀{ds:List (D×D)} {kvs:List (List Key×V)},T9 K Hb kvs ds→PT K Hb kvs ds
 |_,_, .nil=> .nil
 |_,_, .cons a b=> .cons ⟨rfl,a⟩ (aa3 b)
theorem Bo.ace{v:V}{ds:List (D×D)}(eb:Ex Hb H)(h:Bo K Hb H v (tD ds)):∃p kvs,v= .ref p∧Rd H p (.dT kvs)∧PT K Hb kvs ds:=by
 rcases h with h|⟨p,rfl,o,h2,h3⟩
 ·cases h with
  |Br a b=>
   cases Lz b with
   |cons q r=>exact(Vn q.1).elim
  |Gq a b=>exact⟨_,_,rfl, .inr ⟨_,eb _ _ a⟩,aa3 b⟩
 ·cases h3 with
  |dT a=>exact⟨p,_,rfl,h2.rd,a⟩
  |dK a=>
   cases a with
   |cons q r=>
    obtain⟨q1,_⟩:=q
    exact(Vn q1).elim
end
def Xk(neg:Bool):D→D→ER
 |k, .dict ((.none, .none)::ds)=>(match xj k with
  |some k=> .ok (.bool ((wQ ds k).isSome !=neg))
  |none=> .bad)
 |_,_=> .bad
def Ce:D→D→ER
 | .dict ((.none, .none)::ds),k=>(match xj k with
   |some k=>(match wQ ds k with
    |some v=> .ok v
    |none=> .bad)
   |none=> .bad)
 |_,_=> .bad
theorem agN(b:Bool):lg (Xk b):=fun x y c h=>by
 unfold Xk at h
 repeat' split at h
 all_goals cases h
theorem aeL:lg Ce:=fun x y c h=>by
 unfold Ce at h
 repeat' split at h
 all_goals cases h
section
variable{X:Cx}{W:WQ}{a b o e f:Expr}{ma mb mc:EM}{pos apos cpos:Pos}
theorem Ux{K:ao}{Hb:Hp}{k:List Key}{kvs:List (List Key×V)}{ds:List (D×D)}(h:PT K Hb kvs ds):(valV kvs k).isSome=(wQ ds k).isSome:=by
 rcases Uz (k:=k) h with⟨h1,h2⟩|⟨v,d,h1,h2,_⟩<;>rw [h1,h2]<;>rfl
theorem abr(hu:X.A.units+64<cLine):Fp X (compareOp .NotIn) .dat (Xk true):=by
 intro pins s σ H x y v u Q I rx ry h
 obtain⟨Hb,dx,dy,d,eb,bx,byy,hg,q⟩:=h
 unfold Xk at hg
 split at hg
 ·rename_i ds
  split at hg
  ·rename_i k hk
   cases hg
   obtain⟨p,kvs,rfl,hd,pk⟩:=byy.ace eb
   obtain⟨b,rfl,hb⟩:=bx.ahF eb hk
   cases(show u=Value.ref p from ry)
   refine d_notIn (o:=valV kvs k) (by omega) I (.inr ⟨kvs,k,b,hd,rfl,hb,rfl⟩) rx fun s' I' => ?_
   rw [Ux pk]
   exact⟨.bl (!(wQ ds k).isSome),H,I',rfl,by
    have:=q (.bl (!(wQ ds k).isSome)) Hb H (Gw.refl eb)
    rw [Bool.bne_true] at this
    exact this mJ⟩
  ·cases hg
 ·cases hg
theorem aes(hu:X.A.units+64<cLine):IxR X (rOf X.K .dat Ce):=by
 intro value slice pins s σ H x y v u Q I rx ry h hs
 obtain⟨Hb,dx,dy,d,eb,bx,byy,hg,q⟩:=h
 unfold Ce at hg
 split at hg
 ·rename_i ds
  split at hg
  ·rename_i k hk
   obtain⟨p,kvs,rfl,hd,pk⟩:=bx.ace eb
   obtain⟨b,rfl,hb⟩:=byy.ahF eb hk
   rcases Uz (k:=k) pk with⟨z1,z2⟩|⟨w,d',z1,z2,z3⟩
   ·rw [z2] at hg
    cases hg
   ·rw [z2] at hg
    cases hg
    exact aag (by omega) value slice pins s σ H _ _ v u Q I rx ry ⟨p,w,rfl, .inr ⟨kvs,k,b,hd,rfl,hb,z1.symm⟩,q w Hb H (Gw.refl eb) z3⟩ hs
  ·cases hg
 ·cases hg
theorem aer(hu:X.A.units+64<cLine)(ha:DE X W .bor a ma)(hb:DE X W .bor b mb)(hs:PlainIx b:=by exact fun _ _=>rfl):DE X W .dat (.Subscript a b pos) (eG Ce ma mb):=PE.imp (pe_ix (aes hu) ha hb hs) fun _ _ _=>Ds aeL
theorem afv:DE X W .new (.Dict [] [] pos) (eC (tD [])):=PE.imp pe_dnewT fun σ H Q ⟨Hf,Hb,ρ,R,h1,h2,h3⟩=>fun p hp=>
 h1 (tD []) rfl _ _ _ (Gw.new R.eb hp) ⟨p,rfl,hp,fresh_back R.eb hp,_,upd_same, .dT .nil⟩
def Oi(i:Nat)(mk:EM)(mv:XM):SM:=fun ρ=>match mv ρ with
 | .ok d ρ=>(match ρ[i]? with
   |some (.own (.dict ((.none, .none)::ds)))=>(match mk ρ with
    | .ok k=>(match xj k with
      |some k=>if ds.length<sizeLine then .nx (ρ.set i (.own (tD (Ph ds k d)))) else .bad
      |none=> .bad)
    | .ex c=> .ex c ρ
    | .bad=> .bad)
   |_=> .bad)
 | .ex c ρ=> .ex c ρ
 | .bad=> .bad
theorem ag5{K:ao}{Hb:Hp}{kvs:List (List Key×V)}{ds:List (D×D)}(h:PT K Hb kvs ds):kvs.length=ds.length:=Paired.length h
theorem acp{rk:Kd}(i:Nat){x:Str}{k v:Expr}{mk:EM}{mv:XM}{p pos' :Pos}(hu:X.A.units+64<cLine)(hk:DE X W .bor k mk)(hv:DX X W v mv)(hN:X.N[i]? =some x:=by rfl)(hvis:Vis X.env.scope x:=by first|exact Or.inl rfl|exact Or.inr (Or.inl rfl)|exact Or.inr (Or.inr rfl))(hd:(x==("__debug__":Str))=false:=by decide)
 (hcd:(x==("__classdict__":Str))=false:=by decide) (hs:swapsWith v (some (.Subscript (.Name x p) k pos')) pos.line X.env=pure false:=by rfl):DS X W rk (.Assign [.Subscript (.Name x p) k pos'] v pos) (Oi i mk mv):=
 PS.imp (ps_dput (by omega) (pe_var hN hvis hd hcd) hk hv hs) fun E σ H ⟨Hf,Hb,ρ,R,h⟩=>by
 unfold Oi at h
 refine⟨Hf,Hb,ρ,R,fun d ρ1 hd v Hb1 H1 R1 b1 r1=> ?_,fun c ρ1 hc Hb1 H1 R1 b1=> ?_,fun z=> ?_⟩
 ·rw [hd] at h
  simp only at h
  split at h
  ·rename_i ds q
   obtain⟨p,h1,ow,h3,h4⟩:=R1.own i _ q
   obtain⟨p',kvs',ep,rd,al⟩:=Bo.ace (K:=X.K) (Hb:=Hb1) (H:=H1) R1.eb (.inr ⟨p,rfl,ow.b⟩)
   cases ep
   obtain⟨o,ho,hc⟩:=ow
   have ho2:∃kvs,o= .dT kvs∧PT X.K Hb1 kvs ds:=by
    cases hc with
    |dT a=>exact⟨_,rfl,a⟩
    |dK a=>
     cases a with
     |cons q r=>
      obtain⟨q1,_⟩:=q
      exact(Vn q1).elim
   obtain⟨kvs,rfl,al⟩:=ho2
   refine⟨_,h1,Hf,Hb1,ρ1,R1,fun d2 hd2 y Hb2 H2 g2 r2=> ?_,fun c hc Hb2 H2 g2=> ?_,fun z=> ?_⟩
   ·rw [hd2] at h
    simp only at h
    split at h
    ·rename_i kk hkk
     split at h
     ·rename_i hz
      have ho' :=g2.h _ _ ho
      have R2:=R1.gw g2
      have hb2:Hb2 p=none:=g2.nw p h4 (by rw [ho];exact True.intro)
      have al2:PT X.K Hb2 kvs ds:=Paired.imp (fun _ _ q=>⟨q.1,lG g2.b q.2⟩) al
      obtain⟨b,rfl,hb⟩:=r2.ahF g2.bh hkk
      refine⟨p,_,rfl, .inr ⟨kvs,kk,b,ho',rfl,hb,by rw [ag5 al];exact hz,rfl⟩,?_⟩
      exact h σ Hb2 _ (R2.write q h1 (.dT (ahh (lG g2.b r1) al2))) ((b1.trans (g2.bw R1.ef)).trans (Bw.upd g2.bh hb2))
     ·exact h.elim
    ·exact h.elim
   ·rw [hc] at h
    exact h σ Hb2 H2 (R1.gw g2) (b1.trans (g2.bw R1.ef))
   ·rw [z] at h
    exact h.elim
  ·exact h.elim
 ·rw [hc] at h
  exact h σ Hb1 H1 R1 b1
 ·rw [z] at h
  exact h.elim
def xE(m:EM):XM:=fun ρ=>match m ρ with
 | .ok d=> .ok d ρ
 | .ex c=> .ex c ρ
 | .bad=> .bad
theorem ai9{m:EM}(h:DE X W .dat e m):DX X W e (xE m):=PE.imp h fun σ H Q ⟨Hf,Hb,ρ,R,h1,h2,h3⟩=>by
 refine⟨Hf,Hb,ρ,R,fun d hd v Hb' H' g r=>h1 d ρ (by simp [xE,hd]) v Hb' H' (R.gw g) (g.bw R.ef) r,fun c hc Hb' H' g=>h2 c ρ (by simp [xE,hc]) Hb' H' (R.gw g) (g.bw R.ef),fun z=>h3 (by simp [xE,z])⟩
end
end DL
namespace DL
open PySem L2 Evl
def Od(ds es:List D):List D:=ds.zipWith (fun d e=>bM [d,e]) es
theorem V2(ds es:List D):(Od ds es).length=min ds.length es.length:=by simp [Od]
theorem acI{ds es:List D}{i:Nat}{d e:D}(h:ds[i]? =some d)(h2:es[i]? =some e):(Od ds es)[i]? =some (.tuple [d,e]):=by
 simp [Od,List.getElem?_zipWith,h,h2]
theorem agC{K:ao}{Hb1:Hp}{p q:Addr}{xs ys:List V}{ds es:List D}(h:SqL K Hb1 p xs)(a:iY K Hb1 xs ds)(h2:SqL K Hb1 q ys)(a2:iY K Hb1 ys es):Yl K Hb1 (Itz K p q) (Od ds es) where
 go:=fun i H e hi=>by
  rw [V2] at hi
  have hl:=gW a
  have hl2:=gW a2
  exact⟨xs,ys,xs[i]'(by omega),ys[i]'(by omega),ex_l e h,ex_l e h2,by simp,by simp⟩
 stop:=fun H e=>⟨xs,ys,ex_l e h,ex_l e h2,by
  have hl:=gW a
  have hl2:=gW a2
  rw [V2]
  omega⟩
 yld:=fun i H x H' Hb e1 e2 hi ⟨T,u,v,ev,hT,eH,hu,hv⟩=>by
  subst ev eH
  obtain⟨d,d1,d2⟩:=sY a (hu xs (ex_l (e1.trans e2) h))
  obtain⟨d',d1',d2'⟩:=sY a2 (hv ys (ex_l (e1.trans e2) h2))
  have z:=Gw.tup (K:=K) (xs:=[u,v]) e2 hT (.cons (lG e1 d2) (.cons (lG e1 d2') .nil))
  exact⟨_,_,z.1,acI d1 d1',z.2⟩
def iZ(ma mb:EM):Env→AR:=fun ρ=>match m7 [ma,mb] ρ with
 | .ok [.list ds, .list es]=> .ok (Od ds es)
 | .ok _=> .bad
 | .ex c=> .ex c
 | .bad=> .bad
theorem agx{X:Cx}{W:WQ}{a b:Expr}{ma mb:EM}{p pos tpos:Pos}{elts:List Expr}{kk:Nat}(hm:X.mg "zip"=none)(h:DA X W [.dat, .dat] [a,b] [ma,mb])(hg:Gl X "zip":=by rfl)(hs:starEach [a,b] X.env=(false,eval a X.env)::starEach [b] X.env:=by rfl)(hpl:(backTo pos (starEach [b] X.env)).any (·.1)=false:=by rfl):
 DI X W (.Tuple elts kk tpos) (.Call (.Name "zip" p) [a,b] [] pos) (iZ ma mb):=PI.imp (pi_zip hg hm h hs hpl) fun σ H R ⟨Hf,Hb,ρ,Re,h1,h2,h3⟩=>by
 refine⟨Hf,Hb,ρ,Re,fun ds hd vs Hb' H' g r=> ?_,fun c hc=>h2 c (by simp [iZ,hc]),fun z=>h3 (by simp [iZ,z])⟩
 cases r with
 |cons r1 r2=>
  cases r2 with
  |cons r2 r3=>
   cases r3
   rename_i v1 d1 v2 d2
   cases d1 with
   |list ds=>
    cases d2 with
    |list es=>
     cases r1 with
     |lst s a=>
      cases r2 with
      |lst s' a' =>exact⟨_,_,_,_,rfl,ex_l g.bh s,ex_l g.bh s',h1 _ (by simp only [iZ,hd]) _ Hb' H' g (agC s a s' a')⟩
    |_=>exact absurd (by simp [iZ,hd]) h3
   |_=>exact absurd (by simp [iZ,hd]) h3
theorem ah0{ma mb:EM}{ρ:Env}{ds es:List D}(ha:ma ρ= .ok (.list ds))(hb:mb ρ= .ok (.list es)):iZ ma mb ρ= .ok (Od ds es):=by
 simp only [iZ,m7,ha,hb]
end DL
namespace DL
open PySem L2 Evl
structure ajo(P:Program)(w:World)(K:ao)(mg:Str→Option Value)(base:Heap)(x:Str)(k:Nat)(ps:List Str)(sp:Sp)(i:Int)(n:Nat)(kw:Str):Prop where
 ex:∃fd,FnOk P w K mg base (L2.CX P w) k (He.ga K x) fd ps sp∧Binds K fd ps []∧(∃ds,Vals [V.int i] ds∧Binds K fd ps ds)∧KBn K fd ps n [kw] (fun us ws=>us++ws) (fun vs zs=>vs++zs)∧∃oc od osl,K.lookup (He.ga K x)=some ⟨oc,od, .func fd,osl⟩
 kp:PySem.W.keepIn K (.ref (He.ga K x))=true
 gl:mg x=some (.ref (He.ga K x))
section
variable{P:Program}{w:World}{K:ao}{mg:Str→Option Value}{base:Heap}{fa:List He.Fa}{fn:List He.DefD}
end
theorem ni.snoc{K:ao}{Hb H:Hp}{kd:Kd}{v:V}{d:D}(h:Ra K kd Hb H v d):∀{ks:List Kd} {vs:List V} {ds:List D},ni K Hb H ks vs ds→ni K Hb H (ks++[kd]) (vs++[v]) (ds++[d])
 |_,_,_, .nil=> .cons h .nil
 |_,_,_, .cons a b=> .cons a (ni.snoc h b)
theorem ni.ex{K:ao}{Hb H Hb' H' :Hp}(eb:Ex Hb Hb')(e:Ex H H'):∀{ks:List Kd} {vs:List V} {ds:List D},ni K Hb H ks vs ds→ni K Hb' H' ks vs ds
 |_,_,_, .nil=> .nil
 |_,_,_, .cons a b=> .cons (a.ex eb e) (ni.ex eb e b)
section
variable{X:Cx}{W:WQ}{rk:Kd}{ks:List Kd}{x:Str}{p pos:Pos}{e:Expr}{es:List Expr}{ms:List EM}{g:List D→ER}{k j n:Nat}{ps:List Str}{i:Int}{kw:Str}
end
end DL
namespace DL
open PySem L2 Evl
end DL
namespace DL
open PySem L2 Evl PyProof.Rows
section
variable{Y:Cx}{w0:WX}{pq:Pn}{xs:List Str}{c:Str}{a:Addr}{oe:Obj}{i:Nat}{n:Str}{p p1 p2 pos:Pos}
end
end DL
namespace DL
open PySem L2 Evl
end DL
namespace DL
open PySem PySem.Spec L2 Evl PyProof.Rows
section
variable{prog:Program}{w:World}{A:Around}{E:Value→Shared→Prop}{s:Shared}{r d:Addr}{es:Array DictEntry}{ep n:Nat}{T:String}{P:Nat→Value→Prop}{OK:Heap→Prop}
end
section
variable{X:Cx}{pins:List (Addr×Obj)}{σ:L2.St}{H:Hp}{s:Shared}{a b:Addr}{r:Value}{v:V}{k:List Key}{kvs:List (List Key×V)}{A:Around}{E:Value→Shared→Prop}
end
section
variable{X:Cx}{o e f:Expr}{td ty tx:TE}{apos cpos:Pos}
end
section
variable{X:Cx}{W:WQ}{a b o e f:Expr}{ma mb mc:EM}{pos p apos cpos:Pos}
end
end DL
set_option maxHeartbeats 2000000
namespace DL
open PySem PySem.Spec L2 Evl PyProof.Rows
def PL:List D→Option (List Str)
 |[]=>some []
 | .str x::r=>(PL r).map (x::·)
 |_::_=>none
def vR(a:Str):D→ER
 | .list ds=>(match PL ds with
   |some ys=>if(ys.map (·.length)).sum+ys.length*a.length≤16777216 then .ok (.str (Txt.join a ys)) else .bad
   |none=> .bad)
 |_=> .bad
def uD(a:Str):D→ER
 | .str b=>if(b.length==0)=false∧a.length+2≤sizeLine then .ok (.list ((Txt.split a b).map aV)) else .bad
 |_=> .bad
def Bx(f:Str→D→ER)(m n:EM):EM:=fun ρ=>(m ρ).bind fun d=>match d with
 | .str z=>(n ρ).bind fun e=>f z e
 |_=> .bad
theorem Ql{K:ao}{H:Hp}:∀{ds:List D} {xs:List V} {ys:List Str},PL ds=some ys→iY K H xs ds→xs=ys.map V.str
 |[],_,_,h, .nil=>by
  cases h
  rfl
 |d::ds,_,ys,h, .cons a b=>by
  cases d with
  |str x=>
   simp only [PL,aJ] at h
   obtain⟨ys,h1,rfl⟩:=h
   cases a
   rw [bf,Ql h1 b]
  |_=>cases h
theorem En{K:ao}{H:Hp}:∀ys:List Str,iY K H (ys.map V.str) (ys.map aV)
 |[]=> .nil
 |y::r=> .cons (.str y) (En r)
section
variable{X:Cx}{W:WQ}{o e:Expr}{ma mb:EM}{apos pos:Pos}
theorem Ld(ho:DE X W .bor o ma)(he:DE X W .bor e mb)(hs:starEach [e] X.env=[(false,eval e X.env)]:=by rfl)(hbase:attributeBase o "join" X.env (eval o X.env)=eval o X.env:=by rfl)(hline:(apos.endLine==pos.line)=true:=by rfl):
 DE X W .dat (.Call (.Attribute o "join" apos) [e] [] pos) (Bx vR ma mb):=
 PE.imp (pe_join ho he hs hbase hline) fun σ H Q ⟨Hf,Hb,ρ,R,h1,h2,h3⟩=>by
  refine⟨Hf,Hb,ρ,R,fun d hd v Hb1 H1 g1 r1=> ?_,fun c hc Hb1 H1 g1=>h2 c (by simp [Bx,hc,ER.bind]) Hb1 H1 g1,fun z=>h3 (by simp [Bx,z,ER.bind])⟩
  cases d with
  |str a=>
   have e0:=Bo.str r1
   refine⟨⟨a,e0⟩,Hf,Hb1,ρ,R.gw g1,fun d2 hd2 v2 Hb2 H2 g2 r2=> ?_,fun c hc Hb2 H2 g2=>h2 c (by simp [Bx,hd,hc,ER.bind]) Hb2 H2 (g1.trans g2),fun z=>h3 (by simp [Bx,hd,z,ER.bind])⟩
   cases d2 with
   |list ds=>
    cases hk:PL ds with
    |none=>exact absurd (by simp [Bx,hd,hd2,vR,hk,ER.bind]) h3
    |some ys=>
     by_cases hz:(ys.map (·.length)).sum+ys.length*a.length≤16777216
     ·obtain⟨p,xs,e1,s1,a1⟩:=Bo.lst g2.bh r2
      rw [Ql hk a1] at s1
      exact⟨a,p,ys,e0,by rw [e1], .inl s1,hz,h1 _ (by simp [Bx,hd,hd2,vR,hk,hz,ER.bind]) _ Hb2 H2 (g1.trans g2) (.str _)⟩
     ·exact absurd (by simp [Bx,hd,hd2,vR,hk,hz,ER.bind]) h3
   |_=>exact absurd (by simp [Bx,hd,hd2,vR,ER.bind]) h3
  |_=>exact absurd (by simp [Bx,hd,ER.bind]) h3
theorem Xd(ho:DE X W .bor o ma)(he:DE X W .bor e mb)(hs:starEach [e] X.env=[(false,eval e X.env)]:=by rfl)(hbase:attributeBase o "split" X.env (eval o X.env)=eval o X.env:=by rfl)(hline:(apos.endLine==pos.line)=true:=by rfl):
 DE X W .new (.Call (.Attribute o "split" apos) [e] [] pos) (Bx uD ma mb):=
 PE.imp (pe_split ho he hs hbase hline) fun σ H Q ⟨Hf,Hb,ρ,R,h1,h2,h3⟩=>by
  refine⟨Hf,Hb,ρ,R,fun d hd v Hb1 H1 g1 r1=> ?_,fun c hc Hb1 H1 g1=>h2 c (by simp [Bx,hc,ER.bind]) Hb1 H1 g1,fun z=>h3 (by simp [Bx,z,ER.bind])⟩
  cases d with
  |str a=>
   have e0:=Bo.str r1
   refine⟨⟨a,e0⟩,Hf,Hb1,ρ,R.gw g1,fun d2 hd2 v2 Hb2 H2 g2 r2=> ?_,fun c hc Hb2 H2 g2=>h2 c (by simp [Bx,hd,hc,ER.bind]) Hb2 H2 (g1.trans g2),fun z=>h3 (by simp [Bx,hd,z,ER.bind])⟩
   cases d2 with
   |str b=>
    by_cases hz:(b.length==0)=false∧a.length+2≤sizeLine
    ·refine⟨a,b,e0,by rw [Bo.str r2],hz.1,hz.2,fun p hp=> ?_⟩
     have z:=Gw.abX (K:=X.K) g2.bh hp (En (Txt.split a b))
     have e:Bx uD ma mb ρ= .ok (.list ((Txt.split a b).map aV)):=by
      simp only [Bx,hd,hd2,uD,ER.bind]
      rw [if_pos hz]
     exact h1 _ e _ _ _ ((g1.trans g2).trans z.1) (z.2.back (g1.trans g2).h)
    ·refine absurd ?_ h3
     simp only [Bx,hd,hd2,uD,ER.bind]
     rw [if_neg hz]
   |_=>exact absurd (by simp [Bx,hd,hd2,uD,ER.bind]) h3
  |_=>exact absurd (by simp [Bx,hd,ER.bind]) h3
end
def Fg:List D→ER
 |[.int i]=>if i.natAbs.log2<1920 then .ok (.str (toString i)) else .bad
 |[.str x]=> .ok (.str x)
 |_=> .bad
theorem aeV:Cg Fg:=fun ds c h=>by
 unfold Fg at h
 repeat' split at h
 all_goals cases h
def O3:List D→ER
 |[.str x]=>(match PySem.intText? x with
  |some n=>if x.length≤640 then .ok (.int n) else .bad
  |none=> .bad)
 |_=> .bad
theorem aey:Cg O3:=fun ds c h=>by
 unfold O3 at h
 repeat' split at h
 all_goals cases h
section
variable{X:Cx}
theorem agP:CallD X (.type "str") .dat Fg:=by
 intro pins s σ H vs us Q I r h
 obtain⟨Hb,ks,ds,d,eb,ra,hg,q⟩:=h
 unfold Fg at hg
 split at hg
 ·split at hg
  ·rename_i i hz
   cases hg
   obtain⟨v,rfl,b1⟩:=ra1 ra
   exact call_str_int pins s σ H _ us Q I r ⟨_,by rw [b1.int],hz,q _ Hb H (Gw.refl eb) (.str _)⟩
  ·cases hg
 ·cases hg
  obtain⟨v,rfl,b1⟩:=ra1 ra
  exact SkE.call_str_str pins s σ H _ us Q I r ⟨_,by rw [b1.str],q _ Hb H (Gw.refl eb) (.str _)⟩
 ·cases hg
theorem afs:CallD X (.type "int") .dat O3:=by
 intro pins s σ H vs us Q I r h
 obtain⟨Hb,ks,ds,d,eb,ra,hg,q⟩:=h
 unfold O3 at hg
 split at hg
 ·split at hg
  ·rename_i x n hn
   split at hg
   ·rename_i hz
    cases hg
    obtain⟨v,rfl,b1⟩:=ra1 ra
    exact call_int_str pins s σ H _ us Q I r ⟨_,_,by rw [b1.str],hn,hz,q _ Hb H (Gw.refl eb) qN⟩
   ·cases hg
  ·cases hg
 ·cases hg
end
def Hh(lo hi c:Int):List D:=(cC (if lo<hi then((hi-lo-1)/c+1).toNat else 0)).map fun(i:Nat)=>aH (lo+(i:Int)*c)
def iRc(c:Int)(ma mb mc:EM):Env→AR:=fun ρ=>match m7 [ma,mb,mc] ρ with
 | .ok [.int i, .int j, .int k]=>if inR i&&inR j&&decide (k=c) then .ok (Hh i j c) else .bad
 | .ok _=> .bad
 | .ex c=> .ex c
 | .bad=> .bad
theorem afJ{K:ao}{Hb1:Hp}(lo hi c:Int):Yl K Hb1 (Itc lo c (if lo<hi then((hi-lo-1)/c+1).toNat else 0)) (Hh lo hi c) where
 go:=fun i H _ h=>by simpa [Hh,Itc] using h
 stop:=fun H _=>by simp [Hh,Itc]
 yld:=fun i H x H' Hb e1 e2 h y=>by
  obtain⟨rfl,rfl⟩:=y
  have h' :i<(if lo<hi then((hi-lo-1)/c+1).toNat else 0):=by simpa [Hh] using h
  exact⟨Hb, .int (lo+((i:Nat):Int)*c),Gw.refl e2,by simp [Hh,h'], .int _⟩
theorem aio{i j:Int}(ha: -(2 ^ 62)≤i)(ha' :i<2 ^ 62)(hb: -(2 ^ 62)≤j)(hb' :j<2 ^ 62):RgC i j 2 (if i<j then((j-i-1)/2+1).toNat else 0):=by
 have e:Builtin.Range.rangeSize i j 2=if i<j then(j-i-1)/2+1 else 0:=by
  unfold Builtin.Range.rangeSize
  rw [if_pos (by decide)]
 refine⟨by decide,by decide,?_,?_⟩
 ·unfold Builtin.Range.small
  rw [e]
  simp only [Builtin.Range.rangeFitsLong,cW,Bool.or_eq_true,decide_eq_true_eq,beq_iff_eq,show(2:Int)>0 by decide,if_true]
  split<;>omega
 ·rw [e]
  split<;>omega
theorem ag7{X:Cx}{W:WQ}{tg a b c:Expr}{ma mb mc:EM}{p pos:Pos}(hm:X.mg "range"=none)(h:DA X W [.bor, .bor, .bor] [a,b,c] [ma,mb,mc])(hg:Gl X "range":=by rfl)
 (hs:starEach [a,b,c] X.env=(false,eval a X.env)::starEach [b,c] X.env:=by rfl) (hpl:(backTo pos (starEach [b,c] X.env)).any (·.1)=false:=by rfl):
 DI X W tg (.Call (.Name "range" p) [a,b,c] [] pos) (iRc 2 ma mb mc):=
 PI.imp (pi_range3 hg hm h hs hpl) fun σ H R ⟨Hf,Hb,ρ,Re,h1,h2,h3⟩=>by
 refine⟨Hf,Hb,ρ,Re,fun ds hd vs Hb' H' g r=> ?_,fun c hc=>h2 c (by simp only [iRc,hc]),fun z=>h3 (by simp only [iRc,z])⟩
 cases r with
 |cons r1 r2=>
  cases r2 with
  |cons r2 r3=>
   cases r3 with
   |cons r3 r4=>
    cases r4
    rename_i v1 d1 v2 d2 v3 d3
    cases d1 with
    |int i=>
     cases d2 with
     |int j=>
      cases d3 with
      |int k=>
       by_cases hz:(inR i&&inR j&&decide (k=2))=true
       ·have hz2:=dI.mp hz
        have hz3:=dI.mp hz2.1
        have hk:k=2:=of_decide_eq_true hz2.2
        subst hk
        refine⟨i,j,2,_,by rw [Bo.int r1,Bo.int r2,Bo.int r3],aio (oH.mp hz3.1).1 (oH.mp hz3.1).2 (oH.mp hz3.2).1 (oH.mp hz3.2).2,h1 (Hh i j 2) ?_ _ Hb' H' g (afJ i j 2)⟩
        unfold iRc
        rw [hd]
        exact if_pos hz
       ·refine absurd ?_ h3
        unfold iRc
        rw [hd]
        exact if_neg hz
      |_=>exact absurd (by simp [iRc,hd]) h3
     |_=>exact absurd (by simp [iRc,hd]) h3
    |_=>exact absurd (by simp [iRc,hd]) h3
def VP(i:Nat)(m:SM):SM:=fun ρ=>match ρ[i]? with
 |some (.own (.dict ds))=>if Ah ds=true then m (ρ.set i (.dat (.dict ds))) else .bad
 |_=> .bad
theorem gj.aeN{K:ao}{pn:Pn}{Hf Hb H:Hp}{σ:L2.St}{ρ:Env}{i:Nat}{ds:List (D×D)}{p:Addr}{kvs:List (Key×V)}{od:Obj}(R:gj K pn Hf Hb H σ ρ)(q:ρ[i]? =some (.own (.dict ds)))(hv:σ[i]? =some (some (.ref p)))(pk:PK K Hb kvs ds):
 gj K pn Hf (upd Hb p (.frz od (.dK kvs))) (upd H p (.frz od (.dK kvs))) σ (ρ.set i (.dat (.dict ds)))∧Bw Hf Hb (upd Hb p (.frz od (.dK kvs))) (upd H p (.frz od (.dK kvs))):=by
 obtain⟨F,r⟩:=R
 obtain⟨p1,h1,h2,h3⟩:=r.sl i _ q
 rw [hv] at h2
 cases h2
 obtain⟨f1,f2,f3⟩:=r.fr i p (by rw [h1];simp)
 have e1:Ex Hb (upd Hb p (.frz od (.dK kvs))):=Ex.new f2
 have e2:Ex (upd Hb p (.frz od (.dK kvs))) (upd H p (.frz od (.dK kvs))):=fun a u qa=>by
  by_cases z:a=p
  ·subst z
   rw [upd_same] at qa⊢
   exact qa
  ·rw [upd_ne z] at qa⊢
   exact r.eb a u qa
 refine⟨⟨_,r.step (fp:=[]) (fun a o e=>by rw [upd_ne (ne_of_none e f1)];exact r.ef a o e) e2 e1 rfl (fun j z=>rfl) (fun a ha _ k2 _=> ?_) (fun _=>⟨rfl,_,hv, .Br upd_same (T5 e1 (aas pk))⟩) cH (fun a ha=>by cases ha) (fun j a _ ha=>by cases ha) (fun a z=>r.pin i a z)⟩,e1,e2,fun a z1 z2=> ?_⟩
 ·have z:a≠p:=fun z=>ha (by rw [h1,z];simp)
  exact⟨upd_ne z,by rw [upd_ne z];exact k2⟩
 ·have z:a≠p:=fun z=>by
   subst z
   rw [f1] at z2
   exact z2
  rw [upd_ne z]
  exact z1
def agO(t:TS):TS:=fun E σ H=>∃d u,H d=some u∧Mut (some u)∧∀od,t E σ (upd H d (.frz od u))
theorem ac8{X:Cx}{st:Stmt}{t:TS}(h:PS X st t):PS X st (agO t):=by
 refine⟨fun pins s σ H D I hw=> ?_⟩
 obtain⟨d,u,hd,mu,hw⟩:=hw
 obtain⟨od,I1⟩:=I.lock hd mu
 exact h.run pins s σ _ _ I1 (hw od)
theorem aeU{X:Cx}{W:WQ}{rk:Kd}{st:Stmt}{m:SM}(i:Nat)(h:DS X W rk st m):DS X W rk st (VP i m):=PS.imp (ac8 h) fun E σ H ⟨Hf,Hb,ρ,R,q⟩=>by
 unfold VP at q
 split at q
 ·rename_i ds z
  by_cases hm:Ah ds=true
  ·rw [if_pos hm] at q
   obtain⟨p,h1,⟨o,ho,hc⟩,h3,h4⟩:=R.own i _ z
   cases hc with
   |dT al=>cases hm
   |dK al=>
    refine⟨p,_,ho,True.intro,fun od=> ?_⟩
    obtain⟨R',b⟩:=R.aeN (od:=od) z h1 al
    exact⟨Hf,_,_,R',kY.weak b q⟩
  ·rw [if_neg hm] at q
   exact q.elim
 ·exact q.elim
def acO(i j:Nat):SM:=fun ρ=>match ρ[j]? with
 |some (.own d)=>if i=j then .bad else .nx ((ρ.set j .un).set i (.own d))
 |_=> .bad
theorem gj.move{K:ao}{pn:Pn}{Hf Hb H:Hp}{σ:L2.St}{ρ:Env}{i j:Nat}{d:D}{p:Addr}(R:gj K pn Hf Hb H σ ρ)(hj:ρ[j]? =some (.own d))(hv:σ[j]? =some (some (.ref p)))(ho:xM pn i):gj K pn Hf Hb H (σ.set i (some (.ref p))) ((ρ.set j .un).set i (.own d)):=by
 obtain⟨F,r⟩:=R
 obtain⟨p1,h1,h2,h3⟩:=r.sl j _ hj
 rw [hv] at h2
 cases h2
 obtain⟨f1,f2,f3⟩:=r.fr j p (by rw [h1];simp)
 have r1:=r.step (i:=j) (s:= .un) (fp:=[]) r.ef r.eb (Ex.refl _) rfl (fun k z=>rfl) (fun a _ _ k2 _=>⟨rfl,k2⟩) (fun _=>rfl) cH (fun a ha=>by cases ha) (fun k a _ ha=>by cases ha) (fun a q=>r.pin j a q)
 refine⟨_,r1.step (i:=i) (s:= .own d) (fp:=[p]) r.ef r.eb (Ex.refl _) (by simp) (fun k z=>U4 z) (fun a _ _ k2 _=>⟨rfl,k2⟩) (fun hi=>⟨p,rfl,Lp (by rw [r.len];simpa using hi),h3⟩) (by simp) (fun a ha=> ?_) (fun k a z ha hk=> ?_) (fun a q=>absurd q (ho a))⟩
 ·rw [aM.mp ha]
  exact⟨f1,f2,f3⟩
 ·by_cases z2:k=j
  ·simp [z2] at hk
  ·simp only [if_neg z2] at hk
   exact r.dj k j a z2 hk (by rw [h1];exact ha)
theorem aeT{X:Cx}{W:WQ}{rk:Kd}(i j:Nat){x y:Str}{pos' q pos:Pos}(hN:X.N.Nodup)(hi:X.N[i]? =some x:=by rfl)(hx:Loc X.env.scope x:=by first|exact Or.inl rfl|exact Or.inr rfl)(hs:swapsWith (.Name y q) (some (.Name x pos')) pos.line X.env=pure false:=by rfl)
 (hf:X.fn x=true∨X.env.scope.names.lookup x=some .local:=by first|exact .inl rfl|exact .inr rfl|assumption) (ho:xM W.pin i:=by intro _ z;first|(cases z;done)|exact absurd (dO z).1 (by decide)|(simp at z;done))
 (hNj:X.N[j]? =some y:=by rfl) (hv:Vis X.env.scope y:=by first|exact Or.inl rfl|exact Or.inr (Or.inl rfl)|exact Or.inr (Or.inr rfl)) (hd:(y==("__debug__":Str))=false:=by decide) (hcd:(y==("__classdict__":Str))=false:=by decide):
 DS X W rk (.Assign [.Name x pos'] (.Name y q) pos) (acO i j):=PS.imp (ps_set hN hi hx (pe_var hNj hv hd hcd) hs hf) fun E σ H ⟨Hf,Hb,ρ,R,h⟩=>by
 unfold acO at h
 split at h
 ·rename_i d hj
  by_cases hij:i=j
  ·rw [if_pos hij] at h
   exact h.elim
  ·rw [if_neg hij] at h
   obtain⟨p,h1,ow,h3,h4⟩:=R.own j d hj
   refine⟨_,h1,?_⟩
   exact h _ Hb H (R.move hj h1 ho) (Bw.refl R.eb)
 ·exact h.elim
end DL
set_option maxHeartbeats 2000000
namespace DL
open PySem PySem.Spec L2 Evl PyProof.Rows
instance:DecidableEq NK:=fun a b=>match a,b with
 | .lst, .lst=> .isTrue rfl
 | .lst, .ins _ _=> .isFalse (fun z=>nomatch z)
 | .ins _ _, .lst=> .isFalse (fun z=>nomatch z)
 | .ins c fs, .ins d gs=>if h:c=d∧fs=gs then .isTrue (by rw [h.1,h.2]) else .isFalse (fun z=>by cases z;exact h ⟨rfl,rfl⟩)
section
variable{K:ao}{Hb H:Hp}{vs:List V}{cs:List Sl}{fq:List Addr}
theorem vU.len(h:vU K Hb H vs cs fq):vs.length=cs.length:=by
 induction h with
 |nil=>rfl
 |dat _ _ ih=>simp [ih]
 |own _ _ ih=>simp [ih]
 |un _ ih=>simp [ih]
theorem vU.dat'(h:vU K Hb H vs cs fq):∀{j:Nat} {d:D},cs[j]? =some (.dat d)→∃v,vs[j]? =some v∧Dr K Hb v d:=by
 induction h with
 |nil=>intro j d e;simp at e
 |dat a _ ih=>
  intro j d e
  cases j with
  |zero=>simp at e;subst e;exact⟨_,rfl,a⟩
  |succ j=>simpa using ih (by simpa using e)
 |own a _ ih=>
  intro j d e
  cases j with
  |zero=>simp at e
  |succ j=>simpa using ih (by simpa using e)
 |un _ ih=>
  intro j d e
  cases j with
  |zero=>simp at e
  |succ j=>simpa using ih (by simpa using e)
theorem vU.own'(h:vU K Hb H vs cs fq):∀{j:Nat} {d:D},cs[j]? =some (.own d)→fq.Nodup→∃p,vs[j]? =some (.ref p)∧p∈fq∧Ow K Hb H p d∧∀(o' :HO) (d' :D),Ob K Hb o' d' →vU K Hb (upd H p o') vs (cs.set j (.own d')) fq:=by
 induction h with
 |nil=>intro j d e;simp at e
 |dat a _ ih=>
  intro j d e nd
  cases j with
  |zero=>simp at e
  |succ j=>
   obtain⟨p,h1,h2,h3,h4⟩:=ih (j:=j) (by simpa using e) nd
   exact⟨p,by simpa using h1,h2,h3,fun o' d' b=> .dat a (h4 o' d' b)⟩
 |own a r ih=>
  rename_i q d0 vs cs fp
  intro j d e nd
  obtain⟨n1,n2⟩:=bR.mp nd
  cases j with
  |zero=>
   simp at e
   subst e
   refine⟨_,rfl,aY,a,fun o' d' b=> .own ⟨o',upd_same,b⟩ (r.frame (Ex.refl _) fun p hp o ho=> ?_)⟩
   rw [upd_ne (fun z=>n1 (by rw [←z];exact hp))]
   exact ho
  |succ j=>
   obtain⟨p,h1,h2,h3,h4⟩:=ih (j:=j) (by simpa using e) n2
   refine⟨p,by simpa using h1,aN _ h2,h3,fun o' d' b=> .own ?_ (h4 o' d' b)⟩
   obtain⟨o,a1,a2⟩:=a
   exact⟨o,by rw [upd_ne (fun z=>n1 (by rw [z];exact h2))];exact a1,a2⟩
 |un _ ih=>
  intro j d e nd
  cases j with
  |zero=>simp at e
  |succ j=>
   obtain⟨p,h1,h2,h3,h4⟩:=ih (j:=j) (by simpa using e) nd
   exact⟨p,by simpa using h1,h2,h3,fun o' d' b=> .un (h4 o' d' b)⟩
inductive PtR(K:ao)(Hb H:Hp):V→Sl→List Addr→Prop
 |dat {v:V} {d:D}:Dr K Hb v d→PtR K Hb H v (.dat d) []
 |own {p:Addr} {d:D}:Ow K Hb H p d→PtR K Hb H (.ref p) (.own d) [p]
 |un {v:V}:PtR K Hb H v .un []
theorem PtR.cons{v:V}{s:Sl}{ext:List Addr}(a:PtR K Hb H v s ext)(h:vU K Hb H vs cs fq):vU K Hb H (v::vs) (s::cs) (ext++fq):=by
 cases a with
 |dat a=>exact .dat a h
 |own a=>exact .own a h
 |un=>exact .un h
theorem vU.put{v:V}{s:Sl}{ext:List Addr}(a:PtR K Hb H v s ext)(h:vU K Hb H vs cs fq):∀(j:Nat),j<cs.length→∃fq',vU K Hb H (vs.set j v) (cs.set j s) fq' ∧(∀q∈fq',q∈ext∨q∈fq)∧(fq.Nodup→(∀q∈ext,q∉fq)→fq'.Nodup):=by
 have ex1:ext.length≤1:=by cases a<;>simp
 have exn:ext.Nodup:=by cases a<;>simp
 induction h with
 |nil=>intro j e;simp at e
 |dat b r ih=>
  intro j e
  cases j with
  |zero=>
   refine⟨_,a.cons r,fun q hq=>aU.mp hq,fun n1 n2=> ?_⟩
   exact cI.mpr ⟨exn,n1,fun x hx y hy z=>n2 x hx (by rw [z];exact hy)⟩
  |succ j=>
   obtain⟨fq',h1,h2,h3⟩:=ih j (by simpa using e)
   exact⟨fq', .dat b h1,h2,h3⟩
 |own b r ih=>
  rename_i q0 d0 vs cs fp
  intro j e
  cases j with
  |zero=>
   refine⟨_,a.cons r,fun q hq=> ?_,fun n1 n2=> ?_⟩
   ·rcases aU.mp hq with z|z
    ·exact .inl z
    ·exact .inr (aN _ z)
   ·exact cI.mpr ⟨exn,(bR.mp n1).2,fun x hx y hy z=>n2 x hx (by rw [z];exact aN _ hy)⟩
  |succ j=>
   obtain⟨fq',h1,h2,h3⟩:=ih j (by simpa using e)
   refine⟨q0::fq', .own b h1,fun q hq=> ?_,fun n1 n2=> ?_⟩
   ·rcases aO.mp hq with z|z
    ·exact .inr (by rw [z];exact aY)
    ·rcases h2 q z with z|z
     ·exact .inl z
     ·exact .inr (aN _ z)
   ·obtain⟨m1,m2⟩:=bR.mp n1
    refine bR.mpr ⟨fun z=> ?_,h3 m2 fun q hq z=>n2 q hq (aN _ z)⟩
    rcases h2 q0 z with z|z
    ·exact n2 q0 z aY
    ·exact m1 z
 |un r ih=>
  intro j e
  cases j with
  |zero=>
   refine⟨_,a.cons r,fun q hq=>aU.mp hq,fun n1 n2=> ?_⟩
   exact cI.mpr ⟨exn,n1,fun x hx y hy z=>n2 x hx (by rw [z];exact hy)⟩
  |succ j=>
   obtain⟨fq',h1,h2,h3⟩:=ih j (by simpa using e)
   exact⟨fq', .un h1,h2,h3⟩
theorem vU.snoc{v:V}{s:Sl}{ext:List Addr}(a:PtR K Hb H v s ext)(h:vU K Hb H vs cs fq):vU K Hb H (vs++[v]) (cs++[s]) (fq++ext):=by
 induction h with
 |nil=>
  have z:=a.cons .nil
  rw [aR] at z
  exact z
 |dat b r ih=>exact .dat b ih
 |own b r ih=>exact .own b ih
 |un r ih=>exact .un ih
end
section
variable{pn:Pn}{K:ao}{H H' Hb Hb' Hf:Hp}{σ:L2.St}{ρ:Env}{i j:Nat}{k:NK}{cs:List Sl}{vs:List V}{fq:List Addr}
def Pts(ρ:Env)(i:Nat)(k:NK)(cs:List Sl):Prop:=ρ[i]? =some (.nst k cs)∨ρ[i]? =some (.vP k cs)
theorem vU.aiV(h:vU K Hb H vs cs fq):∀{j:Nat} {d:D},cs[j]? =some (.own d)→∃p,vs[j]? =some (.ref p)∧Ow K Hb H p d:=by
 induction h with
 |nil=>intro j d e;simp at e
 |dat _ _ ih=>
  intro j d e
  cases j with
  |zero=>simp at e
  |succ j=>simpa using ih (by simpa using e)
 |own a _ ih=>
  intro j d e
  cases j with
  |zero=>simp at e;subst e;exact⟨_,rfl,a⟩
  |succ j=>simpa using ih (by simpa using e)
 |un _ ih=>
  intro j d e
  cases j with
  |zero=>simp at e
  |succ j=>simpa using ih (by simpa using e)
theorem vU.aix(h:vU K Hb H vs cs fq):∀{j:Nat} {d:D},cs[j]? ≠some (.bor d):=by
 induction h with
 |nil=>intro j d e;simp at e
 |dat _ _ ih=>
  intro j d e
  cases j with
  |zero=>simp at e
  |succ j=>exact ih (by simpa using e)
 |own a _ ih=>
  intro j d e
  cases j with
  |zero=>simp at e
  |succ j=>exact ih (by simpa using e)
 |un _ ih=>
  intro j d e
  cases j with
  |zero=>simp at e
  |succ j=>exact ih (by simpa using e)
theorem RN.dat'(h:RN K Hb H vs cs):∀{j:Nat} {d:D},cs[j]? =some (.dat d)→∃v,vs[j]? =some v∧Dr K Hb v d:=by
 induction h with
 |nil=>intro j d e;simp at e
 |dat a _ ih=>
  intro j d e
  cases j with
  |zero=>simp at e;subst e;exact⟨_,rfl,a⟩
  |succ j=>simpa using ih (by simpa using e)
 |bor a _ ih=>
  intro j d e
  cases j with
  |zero=>simp at e
  |succ j=>simpa using ih (by simpa using e)
 |un _ ih=>
  intro j d e
  cases j with
  |zero=>simp at e
  |succ j=>simpa using ih (by simpa using e)
theorem RN.ahn(h:RN K Hb H vs cs):∀{j:Nat} {d:D},(cs[j]? =some (.own d)∨cs[j]? =some (.bor d))→∃p,vs[j]? =some (.ref p)∧Tt K Hb H p d:=by
 induction h with
 |nil=>intro j d e;simp at e
 |dat a _ ih=>
  intro j d e
  cases j with
  |zero=>simp at e
  |succ j=>simpa using ih (by simpa using e)
 |bor a _ ih=>
  intro j d e
  cases j with
  |zero=>simp at e;subst e;exact⟨_,rfl,a⟩
  |succ j=>simpa using ih (by simpa using e)
 |un _ ih=>
  intro j d e
  cases j with
  |zero=>simp at e
  |succ j=>simpa using ih (by simpa using e)
theorem gj.parts(R:gj K pn Hf Hb H σ ρ)(h:Pts ρ i k cs):∃p vs hp,σ[i]? =some (some (.ref p))∧U6 K H p vs k hp∧(∀(j:Nat) (d:D),cs[j]? =some (Sl.dat d)→∃v,vs[j]? =some v∧Dr K Hb v d)∧∀(j:Nat) (d:D),(cs[j]? =some (Sl.own d)∨cs[j]? =some (Sl.bor d))→∃q,vs[j]? =some (V.ref q)∧Tt K Hb H q d:=by
 obtain⟨F,r⟩:=R
 rcases h with h|h
 ·obtain⟨v,h1,p,vs,hp,fq,h2,h3,h4,_⟩:=r.sl i _ h
  subst h2
  refine⟨p,vs,hp,h1,h3,fun j d e=>h4.dat' e,fun j d e=> ?_⟩
  rcases e with e|e
  ·obtain⟨q,q1,q2⟩:=h4.aiV e
   exact⟨q,q1,q2.b⟩
  ·exact absurd e h4.aix
 ·obtain⟨_,p,vs,hp,h1,h2,h3⟩:=r.sl i _ h
  have h3' :=h3.ex (Ex.refl _) r.ef
  exact⟨p,vs,hp,h1,h2.frame fun a _ o z=>r.ef a o z,fun j d e=>h3'.dat' e,fun j d e=>h3'.ahn e⟩
theorem U6.len{p:Addr}{vs:List V}{hp:List Addr}{c:Str}{fs:List Str}(h:U6 K H p vs (.ins c fs) hp):vs.length=fs.length:=let ⟨_,_,_,h,_⟩:=h;h
theorem Jj.nst{F:Nat→List Addr}(r:Jj K pn Hf Hb H σ ρ F)(h:ρ[i]? =some (.nst k cs)):∃p vs hp fq,σ[i]? =some (some (.ref p))∧U6 K H p vs k hp∧vU K Hb H vs cs fq∧(hp++fq).Nodup∧(∀a∈hp++fq,Hf a=none∧Hb a=none∧NT (H a))∧F i=hp++fq∧
 ∀(Hb' H' :Hp) (vs' :List V) (k' :NK) (hp' :List Addr) (cs' :List Sl) (fq' :List Addr),(∀a o,a∉hp++fq→H a=some o→H' a=some o)→Ex Hb Hb' →Ex Hb' H' →(∀a,a∉hp++fq→Hb a=none→NT (H a)→Hb' a=none)→U6 K H' p vs' k' hp' →hp' =hp→vU K Hb' H' vs' cs' fq' →fq'.Nodup→
  (∀a∈fq',a∈fq∨Hf a=none∧∀l,l≠i→a∉F l)→(∀a∈fq',a∉hp)→(∀a∈hp++fq',Hb' a=none)→gj K pn Hf Hb' H' σ (ρ.set i (.nst k' cs')):=by
 obtain⟨v,h1,p,vs,hp,fq,h2,h3,h4,h5⟩:=r.sl i _ h
 subst h2
 refine⟨p,vs,hp,fq,h1,h3,h4,by rw [←h5];exact r.nd i,fun a ha=>r.fr i a (by rw [h5];exact ha),h5,?_⟩
 intro Hb' H' vs' k' hp' cs' fq' e1 b bh nw hd ehp c nd sub nhp hb
 subst ehp
 have hpn:hp'.Nodup:=by
  have:=r.nd i
  rw [h5] at this
  exact(cI.mp this).1
 have hfn:∀a∈hp' ++fq',Hf a=none:=fun a ha=>by
  rcases aU.mp ha with ha|ha
  ·exact(r.fr i a (by rw [h5];exact bW _ ha)).1
  ·rcases sub a ha with z|z
   ·exact(r.fr i a (by rw [h5];exact cP _ z)).1
   ·exact z.1
 have new:NsR K Hb' H' (.ref p) k' cs' (hp' ++fq'):=⟨p,vs',hp',fq',rfl,hd,c,rfl⟩
 refine⟨_,r.step (i:=i) (fp:=hp' ++fq') (fun a o e=>e1 a o (fun z=> ?_) (r.ef a o e)) bh b rfl (fun _ _=>rfl) (fun a ha _ k2 k3=> ?_) (fun _=>⟨_,h1,new⟩) (cI.mpr ⟨hpn,nd,fun x hx y hy z=>nhp y hy (by rw [←z];exact hx)⟩) (fun a ha=>⟨hfn a ha,hb a ha,new.nt a ha⟩) (fun l a hl ha hj=> ?_) (fun a q=>r.pin i a q)⟩
 ·have:=(r.fr i a (by rw [h5];exact z)).1
  rw [e] at this
  cases this
 ·rw [h5] at ha
  obtain⟨o,ho⟩:=wW k3
  exact⟨by rw [ho];exact e1 a o ha ho,nw a ha k2 k3⟩
 ·rcases aU.mp ha with ha|ha
  ·exact r.dj l i a hl hj (by rw [h5];exact bW _ ha)
  ·rcases sub a ha with z|z
   ·exact r.dj l i a hl hj (by rw [h5];exact cP _ z)
   ·exact z.2 l hl hj
theorem gj.nst(R:gj K pn Hf Hb H σ ρ)(h:ρ[i]? =some (.nst k cs)):∃p vs hp fq,σ[i]? =some (some (.ref p))∧U6 K H p vs k hp∧vU K Hb H vs cs fq∧(hp++fq).Nodup∧(∀a∈hp++fq,Hf a=none∧Hb a=none∧NT (H a))∧
 ∀(Hb' H' :Hp) (vs' :List V) (k' :NK) (hp' :List Addr) (cs' :List Sl) (fq' :List Addr),(∀a o,a∉hp++fq→H a=some o→H' a=some o)→Ex Hb Hb' →Ex Hb' H' →(∀a,a∉hp++fq→Hb a=none→NT (H a)→Hb' a=none)→U6 K H' p vs' k' hp' →hp' =hp→vU K Hb' H' vs' cs' fq' →fq'.Nodup→
  (∀a∈fq',a∈fq∨H a=none)→(∀a∈fq',a∉hp)→(∀a∈hp++fq',Hb' a=none)→gj K pn Hf Hb' H' σ (ρ.set i (.nst k' cs')):=by
 obtain⟨F,r⟩:=R
 obtain⟨p,vs,hp,fq,h1,h2,h3,h4,h5,h6,mk⟩:=r.nst h
 refine⟨p,vs,hp,fq,h1,h2,h3,h4,h5,fun Hb' H' vs' k' hp' cs' fq' e1 b bh nw hd ehp c nd sub nhp hb=>mk Hb' H' vs' k' hp' cs' fq' e1 b bh nw hd ehp c nd (fun a ha=> ?_) nhp hb⟩
 rcases sub a ha with z|z
 ·exact .inl z
 ·refine .inr ⟨fresh_back r.ef z,fun l _ hl=> ?_⟩
  have:=(r.fr l a hl).2.2
  rw [z] at this
  exact this
theorem gj.adq(R:gj K pn Hf Hb H σ ρ)(h:ρ[i]? =some (.nst k cs)){d:D}(hj:cs[j]? =some (.own d)):∃p vs hp q,σ[i]? =some (some (.ref p))∧U6 K H p vs k hp∧vs[j]? =some (.ref q)∧Ow K Hb H q d∧Hf q=none∧Hb q=none∧
 ∀(o' :HO) (d' :D),Ob K Hb o' d' →gj K pn Hf Hb (upd H q o') σ (ρ.set i (.nst k (cs.set j (.own d')))):=by
 obtain⟨p,vs,hp,fq,h1,h2,h3,nd,fr,mk⟩:=R.nst h
 have nd3:=cI.mp nd
 obtain⟨q,q1,q2,q3,q4⟩:=h3.own' hj nd3.2.1
 obtain⟨f1,f2,f3⟩:=fr q (cP _ q2)
 have qh:∀a∈hp,a≠q:=fun a ha z=>nd3.2.2 a ha q q2 z
 refine⟨p,vs,hp,q,h1,h2,q1,q3,f1,f2,fun o' d' b=> ?_⟩
 refine mk Hb (upd H q o') vs k hp _ fq (fun a o ha ho=>by rw [upd_ne (fun z=>ha (cP _ (by rw [z];exact q2)))];exact ho) (Ex.refl _) (fun a o e=>by rw [upd_ne (ne_of_none e f2)];exact R.eb a o e) (fun a _ k2 _=>k2) (h2.frame fun a ha o ho=>by rw [upd_ne (qh a ha)];exact ho) rfl (q4 o' d' b) nd3.2.1 (fun a ha=> .inl ha) (fun a ha z=>nd3.2.2 a z a ha rfl) (fun a ha=>(fr a ha).2.1)
end
end DL
set_option maxHeartbeats 2000000
namespace DL
open PySem PySem.Spec L2 Evl PyProof.Rows
def tCmp(K:ao)(nk:NK)(i j:Nat):TE:=fun σ H Q=>∃p vs hp v,σ[i]? =some (some (.ref p))∧U6 K H p vs nk hp∧vs[j]? =some v∧Q v H
section
variable{X:Cx}{x f c:Str}{fs:List Str}{i:Nat}{p pos p2:Pos}
theorem pQ(i j:Nat){z:Int}{k:Nat}{pc:Pos}(hz:z=((j:Nat):Int):=by rfl)(hN:X.N[i]? =some x:=by rfl)(hv:Vis X.env.scope x:=by first|exact Or.inl rfl|exact Or.inr (Or.inl rfl)|exact Or.inr (Or.inr rfl))(hd:(x==("__debug__":Str))=false:=by decide)
 (hcd:(x==("__classdict__":Str))=false:=by decide):PE X (.Subscript (.Name x p) (.Constant (.int z) k pc) pos) (tCmp X.K .lst i j):=
 PE.imp (pe_ix (ix_list (X:=X)) (pe_var hN hv hd hcd) pe_int (fun _ _=>rfl)) fun σ H Q ⟨q,vs,hp,v,h1,⟨h2,_⟩,h5,h6⟩=>by
  refine⟨.ref q,h1,q,vs,z,v,rfl,rfl, .inl (.inl h2),?_,h6⟩
  subst hz
  have:=(au.mp h5).1
  unfold atI ixN
  rw [if_pos (by omega),if_pos (by omega)]
  simpa using h5
end
def YG(cs:List Sl)(j:Nat):ER:=match cs[j]? with
 |some (.dat d)=> .ok d
 |some (.own d)=> .ok d
 |some (.bor d)=> .ok d
 |_=> .bad
def oW(nk:NK)(i j:Nat):EM:=fun ρ=>match ρ[i]? with
 |some (.nst k cs)=>if k=nk then YG cs j else .bad
 |some (.vP k cs)=>if k=nk then YG cs j else .bad
 |_=> .bad
theorem afj{nk:NK}{i j:Nat}{ρ:Env}{d:D}(h:oW nk i j ρ= .ok d):∃cs,Pts ρ i nk cs∧(cs[j]? =some (.dat d)∨cs[j]? =some (.own d)∨cs[j]? =some (.bor d)):=by
 have key:∀k cs,(if k=nk then YG cs j else .bad)= .ok d→k=nk∧(cs[j]? =some (.dat d)∨cs[j]? =some (.own d)∨cs[j]? =some (.bor d)):=fun k cs h=>by
  by_cases hk:k=nk
  ·rw [if_pos hk] at h
   refine⟨hk,?_⟩
   unfold YG at h
   split at h
   ·rename_i e q
    cases h
    exact .inl q
   ·rename_i e q
    cases h
    exact .inr (.inl q)
   ·rename_i e q
    cases h
    exact .inr (.inr q)
   ·cases h
  ·rw [if_neg hk] at h
   cases h
 unfold oW at h
 split at h
 ·rename_i k cs q
  obtain⟨rfl,h'⟩:=key k cs h
  exact⟨cs, .inl q,h'⟩
 ·rename_i k cs q
  obtain⟨rfl,h'⟩:=key k cs h
  exact⟨cs, .inr q,h'⟩
 ·cases h
theorem aeM(nk:NK)(i j:Nat)(ρ:Env)(c:Str):oW nk i j ρ≠ .ex c:=fun h=>by
 unfold oW YG at h
 repeat' split at h
 all_goals cases h
section
variable{X:Cx}{W:WQ}{rk:Kd}{b e k v:Expr}{nk:NK}{i j:Nat}{m mk:EM}{mv:XM}{pos pos' p2 p3:Pos}
theorem qH(hb:PE X b (tCmp X.K nk i j)):DE X W .bor b (oW nk i j):=PE.imp hb fun σ H Q ⟨Hf,Hb,ρ,R,h1,h2,h3⟩=>by
 cases q:oW nk i j ρ with
 |bad=>exact absurd q h3
 |ex c=>exact absurd q (aeM _ _ _ _ _)
 |ok d=>
  obtain⟨cs,hp,hs⟩:=afj q
  obtain⟨p,vs,hpp,a1,a2,a3,a4⟩:=R.parts hp
  rcases hs with hs|hs
  ·obtain⟨v,b1,b2⟩:=a3 j d hs
   exact⟨p,vs,hpp,v,a1,a2,b1,h1 d q v Hb H (Gw.refl R.eb) (.inl b2)⟩
  ·obtain⟨q',b1,b2⟩:=a4 j d hs
   exact⟨p,vs,hpp,_,a1,a2,b1,h1 d q _ Hb H (Gw.refl R.eb) (.inr ⟨q',rfl,b2⟩)⟩
end
theorem gj.atC{pn:Pn}{K:ao}{H Hb Hf:Hp}{σ:L2.St}{ρ:Env}{i j:Nat}{k:NK}{cs:List Sl}{d:D}(R:gj K pn Hf Hb H σ ρ)(h:ρ[i]? =some (.nst k cs))(hj:cs[j]? =some (.own d)):∃p vs hp q,σ[i]? =some (some (.ref p))∧U6 K H p vs k hp∧vs[j]? =some (.ref q)∧Ow K Hb H q d∧
 ∀Hb' H',Gw Hb H Hb' H' →Ow K Hb' H' q d∧Hb' q=none∧Hf q=none∧∀o' d',Ob K Hb' o' d' →gj K pn Hf Hb' (upd H' q o') σ (ρ.set i (.nst k (cs.set j (.own d')))):=by
 obtain⟨p,vs,hp,q,h1,h2,h3,h4,h5,h6,_⟩:=R.adq h hj
 refine⟨p,vs,hp,q,h1,h2,h3,h4,fun Hb' H' g=> ?_⟩
 obtain⟨p',vs',hp',q',k1,k2,k3,k4,k5,k6,k7⟩:=(R.gw g).adq h hj
 rw [h1] at k1
 cases k1
 have ev:vs=vs' :=by
  cases k with
  |lst=>
   obtain⟨a1,_⟩:=h2
   obtain⟨b1,_⟩:=k2
   rw [g.h _ _ a1] at b1
   cases b1
   rfl
  |ins c fs=>
   obtain⟨dx,a1,_,a3,_⟩:=h2
   obtain⟨dx',b1,_,b3,_⟩:=k2
   rw [g.h _ _ a1] at b1
   injection b1 with b1
   injection b1 with _ _ b1
   have:=congrArg (List.map Prod.snd) b1
   rw [List.map_snd_zip (by omega),List.map_snd_zip (by omega)] at this
   exact this
 subst ev
 rw [h3] at k3
 cases k3
 exact⟨k4,k6,k5,k7⟩
def Ru(nk:NK)(i j:Nat)(ρ:Env)(f:List Sl→D→Out):Out:=match ρ[i]? with
 |some (.nst k cs)=>if k=nk then(match cs[j]? with
  |some (.own d)=>f cs d
  |_=> .bad) else .bad
 |_=> .bad
theorem V3{K:ao}{W:WQ}{rk:Kd}{Hf Hb H:Hp}{E:Ends}{nk:NK}{i j:Nat}{ρ:Env}{f:List Sl→D→Out}(h:kY K W rk Hf Hb H E (Ru nk i j ρ f)):∃cs d,ρ[i]? =some (.nst nk cs)∧cs[j]? =some (.own d)∧kY K W rk Hf Hb H E (f cs d):=by
 unfold Ru at h
 split at h
 ·rename_i k cs q
  by_cases hk:k=nk
  ·subst hk
   rw [if_pos rfl] at h
   split at h
   ·rename_i d q2
    exact⟨cs,d,q,q2,h⟩
   ·exact h.elim
  ·rw [if_neg hk] at h
   exact h.elim
 ·exact h.elim
def VD(nk:NK)(i j:Nat)(m:EM):SM:=fun ρ=>Ru nk i j ρ fun cs d=>match d with
 | .list ds=>(match m ρ with
   | .ok d=>if ds.length<sizeLine then .nx (ρ.set i (.nst nk (cs.set j (.own (.list (ds++[d])))))) else .bad
   | .ex c=> .ex c ρ
   | .bad=> .bad)
 |_=> .bad
def W7(nk:NK)(i j:Nat)(mk:EM)(mv:XM):SM:=fun ρ=>match mv ρ with
 | .ok d ρ=>Ru nk i j ρ fun cs e=>(match e with
   | .dict ds=>if Ah ds=true then(match mk ρ with
     | .ok k=>(match keyOf k with
       |some k=>if ds.length<sizeLine then .nx (ρ.set i (.nst nk (cs.set j (.own (.dict (o8 ds k d)))))) else .bad
       |none=> .bad)
     | .ex c=> .ex c ρ
     | .bad=> .bad) else .bad
   |_=> .bad)
 | .ex c ρ=> .ex c ρ
 | .bad=> .bad
section
variable{X:Cx}{W:WQ}{rk:Kd}{b e k v:Expr}{nk:NK}{i j:Nat}{m mk:EM}{mv:XM}{pos pos' p2 p3:Pos}
theorem aak(hb:PE X b (tCmp X.K nk i j))(he:DE X W .dat e m)(hst:starEach [e] X.env=(false,eval e X.env)::starEach [] X.env:=by rfl)
 (hbase:attributeBase b "append" X.env (eval b X.env)=eval b X.env:=by rfl)
 (hfew:((backTo p3 (starEach [e] X.env)).all (fun x=> !x.1)&&(backToKw p3 (keywordEach [] X.env)).all (fun x=>x.1.isSome)
   &&decide (([e]:List Expr).length+([]:List Keyword).length+(if([]:List Keyword).isEmpty then 0 else 1)<30))=true:=by rfl)
 (hline:(p2.endLine==p3.line)=true:=by rfl) (hpl:(backTo p3 (starEach [] X.env)).any (·.1)=false:=by rfl) (hs:swapsWith (.Call (.Attribute b "append" p2) [e] [] p3) none pos.line X.env=pure false:=by rfl):
 DS X W rk (.Expr (.Call (.Attribute b "append" p2) [e] [] p3) pos) (VD nk i j m):=
 PS.imp (ps_expr (pe_bm PySem.F.plainAttrs_list PySem.F.slot_list_append PySem.F.type_list_append mt_append hb (pa_cons he pa_nil hst) hbase hfew hline hst hpl) hs) fun E σ H ⟨Hf,Hb,ρ,R,h⟩=>by
  obtain⟨cs,d,hi,hj,h⟩:=V3 h
  cases d with
  |list ds=>
   obtain⟨p,vs,hp,q,a1,a2,a3,⟨o,a4,a5⟩,a6⟩:=R.atC hi hj
   cases a5 with
   |lst al=>
    refine⟨p,vs,hp,_,a1,a2,a3, .inl ⟨rfl,_,sq_of a4⟩,Hf,Hb,ρ,R,fun d hd v Hb' H' g r=> ?_,fun c hc Hb' H' g=> ?_,fun z=> ?_⟩
    ·rw [hd] at h
     simp only at h
     split at h
     ·rename_i hz
      obtain⟨_,b2,b3,b4⟩:=a6 Hb' H' g
      refine⟨q,_,v,rfl,rfl,g.h _ _ a4,by rw [gW al];exact hz,?_⟩
      exact h σ Hb' _ (b4 _ _ (.lst (qT (lM g.b al) (.cons r .nil)))) ((g.bw R.ef).trans (Bw.upd g.bh b2))
     ·exact h.elim
    ·rw [hc] at h
     exact h σ Hb' H' (R.gw g) (g.bw R.ef)
    ·rw [z] at h
     exact h.elim
  |_=>exact h.elim
theorem afN(hb:PE X b (tCmp X.K nk i j))(hu:X.A.units+64<cLine)(hk:DE X W .bor k mk)(hv:DX X W v mv)(hs:swapsWith v (some (.Subscript b k pos')) pos.line X.env=pure false:=by rfl):DS X W rk (.Assign [.Subscript b k pos'] v pos) (W7 nk i j mk mv):=
 PS.imp (ps_dput (by omega) hb hk hv hs) fun E σ H ⟨Hf,Hb,ρ,R,h⟩=>by
 unfold W7 at h
 refine⟨Hf,Hb,ρ,R,fun d ρ1 hd v Hb1 H1 R1 b1 r1=> ?_,fun c ρ1 hc Hb1 H1 R1 b1=> ?_,fun z=> ?_⟩
 ·rw [hd] at h
  simp only at h
  obtain⟨cs,e,hi,hj,h⟩:=V3 h
  cases e with
  |dict ds=>
   simp only at h
   have hm:Ah ds=true:=by
    cases qm:Ah ds with
    |true=>rfl
    |false=>simp [qm,kY] at h
   simp only [hm,if_true] at h
   obtain⟨p,vs,hp,q,a1,a2,a3,⟨o,a4,a5⟩,a6⟩:=R1.atC hi hj
   cases a5 with
   |dT al=>cases hm
   |dK al=>
    refine⟨p,vs,hp,_,a1,a2,a3,Hf,Hb1,ρ1,R1,fun d2 hd2 y Hb2 H2 g2 r2=> ?_,fun c hc Hb2 H2 g2=> ?_,fun z=> ?_⟩
    ·rw [hd2] at h
     simp only at h
     split at h
     ·rename_i kk hkk
      split at h
      ·rename_i hz
       obtain⟨_,b2,b3,b4⟩:=a6 Hb2 H2 g2
       have al2:PK X.K Hb2 _ ds:=Paired.imp (fun _ _ q=>⟨q.1,lG g2.b q.2⟩) al
       refine⟨q,_,rfl, .inl ⟨_,kk,g2.h _ _ a4,r2.key hkk,by rw [Nr al];exact hz,rfl⟩,?_⟩
       exact h σ Hb2 _ (b4 _ _ (.dK (ZF (lG g2.b r1) al2))) ((b1.trans (g2.bw R1.ef)).trans (Bw.upd g2.bh b2))
      ·exact h.elim
     ·exact h.elim
    ·rw [hc] at h
     exact h σ Hb2 H2 (R1.gw g2) (b1.trans (g2.bw R1.ef))
    ·rw [z] at h
     exact h.elim
  |_=>exact h.elim
 ·rw [hc] at h
  exact h σ Hb1 H1 R1 b1
 ·rw [z] at h
  exact h.elim
end
section
variable{X:Cx}{W:WQ}{rk:Kd}{e:Expr}{i j:Nat}{m:EM}{pos pos' p:Pos}{x f c:Str}{fs:List Str}
end
end DL
set_option maxHeartbeats 2000000
namespace DL
open PySem PySem.Spec L2 Evl PyProof.Rows
inductive RO where
 |ok (d:D) (outs:List Sl)|ex (c:Str) (outs:List Sl)|bad
def off(H:Hp)(FP:List Addr):Hp:=fun a=>if a∈FP then none else H a
theorem U5(H:Hp):off H []=H:=by
 funext a
 simp [off]
theorem Xy{H:Hp}{FP:List Addr}{a:Addr}{o:HO}(h:off H FP a=some o):a∉FP∧H a=some o:=by
 unfold off at h
 split at h
 ·cases h
 ·exact⟨by assumption,h⟩
theorem pP{H:Hp}{FP:List Addr}{a:Addr}(h:a∉FP):off H FP a=H a:=by simp [off,h]
def SpG(K:ao)(n:Nat)(m:List Sl→RO):Sp:=fun vs H Q E=>vs.length=n∧∃(Hb:Hp) (FP:List Addr) (as:List Sl),gj K [] (off H FP) Hb H (vs.map some) as∧
 match m as with
 | .ok d outs=>∀v Hb' H',gj K [] (off H FP) Hb' H' (vs.map some) outs→Bw (off H FP) Hb Hb' H' →Dr K Hb' v d→Q v H'
 | .ex c outs=>∀Hb' H',gj K [] (off H FP) Hb' H' (vs.map some) outs→Bw (off H FP) Hb Hb' H' →E (.ref (He.ga K c)) none H'
 | .bad=>False
def mask:List Bool→Env→List Sl
 |[],_=>[]
 |true::bs,s::ρ=>s::mask bs ρ
 |false::bs,_::ρ=> .un::mask bs ρ
 |_::bs,[]=> .un::mask bs []
def chk:List Bool→List Sl→Bool
 |[],[]=>true
 |true::bs, .own _::as=>chk bs as
 |true::bs, .nst _ _::as=>chk bs as
 |false::bs,_::as=>chk bs as
 |_,_=>false
def KN(bs:List Bool)(n:Nat)(m:SM)(as:List Sl):RO:=if chk bs as=true then(match m (as++aD n .un) with
 | .nx ρ=> .ok .none (mask bs ρ)
 | .rx d ρ=> .ok d (mask bs ρ)
 | .ex c ρ=> .ex c (mask bs ρ)
 |_=> .bad) else .bad
theorem Bh:∀(bs:List Bool) (ρ:Env),(mask bs ρ).length=bs.length
 |[],_=>rfl
 |true::bs,s::ρ=>by simp [mask,Bh bs ρ]
 |false::bs,s::ρ=>by simp [mask,Bh bs ρ]
 |true::bs,[]=>by simp [mask,Bh bs []]
 |false::bs,[]=>by simp [mask,Bh bs []]
theorem Bl:∀(bs:List Bool) (ρ:Env) (i:Nat) (s:Sl),(mask bs ρ)[i]? =some s→s= .un∨bs[i]? =some true∧ρ[i]? =some s
 |[],_,i,s,h=>by simp [mask] at h
 |true::bs,t::ρ,0,s,h=>by
  simp [mask] at h
  exact .inr ⟨rfl,by simp [h]⟩
 |false::bs,t::ρ,0,s,h=>by
  simp [mask] at h
  exact .inl h.symm
 |true::bs,[],0,s,h=>by
  simp [mask] at h
  exact .inl h.symm
 |false::bs,[],0,s,h=>by
  simp [mask] at h
  exact .inl h.symm
 |true::bs,t::ρ,i+1,s,h=>by simpa using Bl bs ρ i s (by simpa [mask] using h)
 |false::bs,t::ρ,i+1,s,h=>by simpa using Bl bs ρ i s (by simpa [mask] using h)
 |true::bs,[],i+1,s,h=>by simpa using Bl bs [] i s (by simpa [mask] using h)
 |false::bs,[],i+1,s,h=>by simpa using Bl bs [] i s (by simpa [mask] using h)
theorem ZL:∀(bs:List Bool) (as:List Sl),chk bs as=true→as.length=bs.length∧∀i:Nat,bs[i]? =some true→(∃d,as[i]? =some (.own d))∨∃k cs,as[i]? =some (.nst k cs)
 |[],[],_=>⟨rfl,fun i h=>by simp at h⟩
 |[],_::_,h=>by simp [chk] at h
 |true::bs,[],h=>by simp [chk] at h
 |false::bs,[],h=>by simp [chk] at h
 |true::bs,s::as,h=>by
  have key:chk bs as=true∧((∃d,s= .own d)∨∃k cs,s= .nst k cs):=by
   cases s<;>simp [chk] at h⊢<;>exact h
  obtain⟨h1,h2⟩:=ZL bs as key.1
  refine⟨by simp [h1],fun i hi=> ?_⟩
  cases i with
  |zero=>
   rcases key.2 with⟨d,z⟩|⟨k,cs,z⟩
   ·exact .inl ⟨d,by simp [z]⟩
   ·exact .inr ⟨k,cs,by simp [z]⟩
  |succ i=>simpa using h2 i (by simpa using hi)
 |false::bs,s::as,h=>by
  obtain⟨h1,h2⟩:=ZL bs as (by simpa [chk] using h)
  refine⟨by simp [h1],fun i hi=> ?_⟩
  cases i with
  |zero=>simp at hi
  |succ i=>simpa using h2 i (by simpa using hi)
def idxs(bs:List Bool):List Nat:=(cC bs.length).filter fun i=>bs[i]? ==some true
theorem Xl{bs:List Bool}{i:Nat}:i∈idxs bs↔bs[i]? =some true:=by
 unfold idxs
 rw [List.mem_filter,List.mem_range]
 constructor
 ·exact fun h=>beq_iff_eq.mp h.2
 ·exact fun h=>⟨(au.mp h).1,beq_iff_eq.mpr h⟩
theorem Ka{α β:Type}(f:α→β):∀{l:List α} {a:α} {b:β},(a,b)∈l.zip (l.map f)→b=f a∧a∈l
 |[],_,_,h=>by simp at h
 |x::l,a,b,h=>by
  rw [bf,List.zip_cons_cons] at h
  rcases aO.mp h with z|z
  ·cases z
   exact⟨rfl,aY⟩
  ·obtain⟨h1,h2⟩:=Ka f z
   exact⟨h1,aN _ h2⟩
theorem Kw{α β:Type}(f:α→β):∀{l:List α} {a:α},a∈l→(a,f a)∈l.zip (l.map f)
 |[],_,h=>by cases h
 |x::l,a,h=>by
  rw [bf,List.zip_cons_cons]
  rcases aO.mp h with z|z
  ·rw [z]
   exact aY
  ·exact aN _ (Kw f z)
def adV:Option V→Addr
 |some (.ref p)=>p
 |_=>0
section
variable{K:ao}{pn:Pn}{Hf Hb H Hb' H' :Hp}{σ:L2.St}{ρ:Env}
theorem gj.ref(R:gj K pn Hf Hb H σ ρ){i:Nat}(h:(∃d,ρ[i]? =some (.own d))∨∃k cs,ρ[i]? =some (.nst k cs)):∃p,σ[i]? =some (some (.ref p)):=by
 rcases h with⟨d,h⟩|⟨k,cs,h⟩
 ·obtain⟨p,h1,_⟩:=R.own i d h
  exact⟨p,h1⟩
 ·obtain⟨p,_,_,h1,_⟩:=R.parts (.inl h)
  exact⟨p,h1⟩
theorem gj.grow{vs:List V}{as:List Sl}{N:List Str}{n:Nat}(R:gj K [] Hf Hb H (vs.map some) as)(hn:N.length=vs.length+n)(hp:∀i a,(i,a)∈pn→vs[i]? =some (.ref a)):gj K pn Hf Hb H (L2.start N vs) (as++aD n .un):=by
 obtain⟨F,r⟩:=R
 have hl:vs.length=as.length:=by simpa using r.len
 have st:∀i v,vs[i]? =some v→(L2.start N vs)[i]? =some (some v):=fun i v h=>by
  unfold L2.start
  rw [aP (by simpa using(au.mp h).1),aF,h]
  rfl
 refine⟨fun i=>if i<as.length then F i else [],r.ef,r.eb,?_,fun i s h=> ?_,fun i=> ?_,fun i p hpi=> ?_,fun i j p ne hpi=> ?_,fun i a h=>st i _ (hp i a h)⟩
 ·unfold L2.start
  simp
  omega
 ·rcases dW i as.length with hlt|hge
  ·rw [aP hlt] at h
   simp only [if_pos hlt]
   have:=r.sl i s h
   have e:(vs.map some)[i]? =(L2.start N vs)[i]? :=by
    unfold L2.start
    rw [aP (by simpa using(by omega:i<vs.length))]
   rw [←e]
   exact this
  ·rw [bG hge] at h
   have:=List.eq_of_mem_replicate (aX h)
   subst this
   simp only [if_neg (by omega:¬i<as.length)]
   rfl
 ·by_cases z:i<as.length
  ·simp only [if_pos z]
   exact r.nd i
  ·simp [z]
 ·by_cases z:i<as.length
  ·simp only [if_pos z] at hpi
   exact r.fr i p hpi
  ·simp [z] at hpi
 ·by_cases z:i<as.length
  ·simp only [if_pos z] at hpi
   by_cases z2:j<as.length
   ·simp only [if_pos z2]
    exact r.dj i j p ne hpi
   ·simp [z2]
  ·simp [z] at hpi
theorem gj.masked{vs:List V}{bs:List Bool}(R:gj K pn Hf Hb H σ ρ)(hv:vs.length=bs.length)(hp:∀i:Nat,bs[i]? =some true→∃v,vs[i]? =some v∧σ[i]? =some (some v)):gj K [] Hf Hb H (vs.map some) (mask bs ρ):=by
 obtain⟨F,r⟩:=R
 refine⟨fun i=>if bs[i]? =some true∧i<ρ.length then F i else [],r.ef,r.eb,by rw [Bh];simpa using hv,fun i s h=> ?_,fun i=> ?_,fun i p hpi=> ?_,fun i j p ne hpi=> ?_,fun i a h=>by cases h⟩
 ·rcases Bl bs ρ i s h with z|⟨z1,z2⟩
  ·subst z
   by_cases hb:bs[i]? =some true∧i<ρ.length
   ·--the slot itself is unknown
    have e:ρ[i]? =some .un:=by
     have key:∀(bs:List Bool) (ρ:Env) (i:Nat),(mask bs ρ)[i]? =some .un→bs[i]? =some true→i<ρ.length→ρ[i]? =some .un:=by
      intro bs
      induction bs with
      |nil=>intro ρ i h;simp [mask] at h
      |cons b bs ih=>
       intro ρ i h hb hl
       cases ρ with
       |nil=>simp at hl
       |cons t ρ=>
        cases i with
        |zero=>
         simp at hb
         subst hb
         simpa [mask] using h
        |succ i=>
         have h' :(mask bs ρ)[i]? =some .un:=by cases b<;>simpa [mask] using h
         simpa using ih ρ i h' (by simpa using hb) (by simpa using hl)
     exact key bs ρ i h hb.1 hb.2
    simp only [if_pos hb]
    exact r.sl i .un e
   ·simp only [if_neg hb]
    rfl
  ·obtain⟨v,h1,h2⟩:=hp i z1
   have e:(vs.map some)[i]? =σ[i]? :=by
    rw [aF,h1,h2]
    rfl
   rw [e]
   simp only [if_pos (⟨z1,(au.mp z2).1⟩:bs[i]? =some true∧i<ρ.length)]
   exact r.sl i s z2
 ·by_cases z:bs[i]? =some true∧i<ρ.length
  ·simp only [if_pos z]
   exact r.nd i
  ·simp [z]
 ·by_cases z:bs[i]? =some true∧i<ρ.length
  ·simp only [if_pos z] at hpi
   exact r.fr i p hpi
  ·simp [z] at hpi
 ·by_cases z:bs[i]? =some true∧i<ρ.length
  ·simp only [if_pos z] at hpi
   by_cases z2:bs[j]? =some true∧j<ρ.length
   ·simp only [if_pos z2]
    exact r.dj i j p ne hpi
   ·simp [z2]
  ·simp [z] at hpi
end
section
variable{P:Program}{w:World}{K:ao}{mg:Str→Option Value}{base:Heap}{x qual:Str}{params:Arguments}{body:List Stmt}{scope:Scope}{dvs:List V}{kws:List (Str×V)}{f:Addr}{fd:FuncData}
theorem ai5{N ps:List Str}{k n:Nat}{bs:List Bool}{m:SM}(F:FunD K x qual params body scope dvs kws f fd)(S:FnScope N ps scope)(hps:ps.length=bs.length)(hn:N.length=bs.length+n)
 (hbody:∀(pa:List Addr) (cdv:Value) (A:Around) (outer:List PySem.Env) (s:Shared) (H:Hp) (E:XK),Room k (A.deeper (PyProof.Rows.envOfC qual scope s.heap.objs.size f cdv))→WD (cxOf (L2.CX P w) P w K mg base N qual scope f cdv A outer s H E) ⟨fun cls d _ H=>E cls d H,(idxs bs).zip pa⟩ .dat body m):
 FnOk P w K mg base (L2.CX P w) (k+1) f fd ps (SpG K bs.length (KN bs n m)):=by
 refine F.ok S (fun vs H Q E h=> ?_) (fun cdv A outer s H vs Q E hr h=> ?_)
 ·rw [hps]
  exact h.1
 ·obtain⟨hl,Hb,FP,as,R,h⟩:=h
  by_cases hc:chk bs as=true
  ·obtain⟨c1,c2⟩:=ZL bs as hc
   have pv:∀i:Nat,bs[i]? =some true→∃p,vs[i]? =some (.ref p):=fun i hi=>by
    obtain⟨p,hp⟩:=R.ref (c2 i hi)
    rw [aF] at hp
    cases q:vs[i]? with
    |none=>rw [q] at hp;cases hp
    |some v=>
     rw [q] at hp
     cases hp
     exact⟨p,rfl⟩
   have hpin:∀i a,(i,a)∈(idxs bs).zip ((idxs bs).map fun i=>adV vs[i]?)→vs[i]? =some (.ref a):=fun i a hz=>by
    obtain⟨z1,z2⟩:=Ka _ hz
    obtain⟨p,hp⟩:=pv i (Xl.mp z2)
    rw [z1,hp]
    rfl
   refine⟨_,hbody ((idxs bs).map fun i=>adV vs[i]?) cdv A outer s H E hr,off H FP,Hb,_,R.grow (n:=n) (by rw [hn,hl]) hpin,?_⟩
   have em:KN bs n m as=match m (as++aD n .un) with
    | .nx ρ=> .ok .none (mask bs ρ)
    | .rx d ρ=> .ok d (mask bs ρ)
    | .ex c ρ=> .ex c (mask bs ρ)
    |_=> .bad:=by
    unfold KN
    rw [if_pos hc]
   have back:∀{Hb' H' :Hp} {σ' :L2.St} {ρ:Env},gj K ((idxs bs).zip ((idxs bs).map fun i=>adV vs[i]?)) (off H FP) Hb' H' σ' ρ→gj K [] (off H FP) Hb' H' (vs.map some) (mask bs ρ):=fun{Hb' H' σ' ρ} R' =>
    R'.masked hl fun i hi=>by
     obtain⟨p,hp⟩:=pv i hi
     refine⟨_,hp,?_⟩
     have:=R'.pin i _ (Kw (fun i=>adV vs[i]?) (Xl.mpr hi))
     rw [hp] at this
     exact this
   rw [em] at h
   cases q:m (as++aD n .un) with
   |nx ρ=>
    rw [q] at h
    exact fun σ' Hb' H' R' b=>h .non Hb' H' (back R') b .non
   |rx d ρ=>
    rw [q] at h
    exact fun v σ' Hb' H' R' b r=>h v Hb' H' (back R') b r
   |ex c ρ=>
    rw [q] at h
    exact fun σ' Hb' H' R' b=>h Hb' H' (back R') b
   |rt d=>rw [q] at h;exact h.elim
   |bk ρ=>rw [q] at h;exact h.elim
   |ct ρ=>rw [q] at h;exact h.elim
   |bad=>rw [q] at h;exact h.elim
  ·have em:KN bs n m as= .bad:=by
    unfold KN
    rw [if_neg hc]
   rw [em] at h
   exact h.elim
end
def wV(m:EM):SM:=fun ρ=>match m ρ with
 | .ok d=> .rx d ρ
 | .ex c=> .ex c ρ
 | .bad=> .bad
section
variable{X:Cx}{W:WQ}{rk:Kd}{e:Expr}{m:EM}{mx:XM}{pos:Pos}
theorem zf(he:DE X W .dat e m):DS X W rk (.Return (some e) pos) (wV m):=PS.imp (ps_ret he) fun E σ H ⟨Hf,Hb,ρ,R,h⟩=>by
 refine⟨Hf,Hb,ρ,R,fun d hd v Hb' H' g r=> ?_,fun c hc Hb' H' g=> ?_,fun z=> ?_⟩
 ·simp only [wV,hd] at h
  exact h v σ Hb' H' (R.gw g) (g.bw R.ef) r
 ·simp only [wV,hc] at h
  exact h _ Hb' H' (R.gw g) (g.bw R.ef)
 ·simp only [wV,z] at h
  exact h
end
inductive AM where
 |d (m:EM)|s (i:Nat)|r (i:Nat)
inductive GR where
 |ok (as:List Sl)|ex (c:Str)|bad
def rdC:Sl→Sl
 | .own d=> .bor d
 | .dat d=> .dat d
 | .bor d=> .bor d
 |_=> .un
def rdS:Sl→Option Sl
 | .dat d=>some (.dat d)
 | .own d=>some (.bor d)
 | .bor d=>some (.bor d)
 | .nst k cs=>some (.vP k (cs.map rdC))
 | .vP k cs=>some (.vP k cs)
 | .QH _ _=>none
 | .un=>none
def ioS:Sl→Option Sl
 | .own d=>some (.own d)
 | .nst k cs=>some (.nst k cs)
 |_=>none
def ioU(s:Sl):Sl:=(ioS s).getD .un
def Dt(ρ:Env):AM→GR
 | .d m=>(match m ρ with
   | .ok x=> .ok [.dat x]
   | .ex c=> .ex c
   | .bad=> .bad)
 | .s i=>(match ρ[i]? with
   |some x=>(match ioS x with
    |some t=> .ok [t]
    |none=> .bad)
   |none=> .bad)
 | .r i=>(match ρ[i]? with
   |some x=>(match rdS x with
    |some t=> .ok [t]
    |none=> .bad)
   |none=> .bad)
def aaq(s:Sl):GR→GR
 | .ok sl=> .ok (s::sl)
 | .ex c=> .ex c
 | .bad=> .bad
def Ag:List AM→Env→GR
 |[],_=> .ok []
 |a::as,ρ=>(match Dt ρ a with
  | .ok [s]=>aaq s (Ag as ρ)
  | .ok _=> .bad
  | .ex c=> .ex c
  | .bad=> .bad)
def j8:List AM→List Nat
 |[]=>[]
 | .s i::as=>i::j8 as
 |_::as=>j8 as
def Ec:List AM→List Nat
 |[]=>[]
 | .r i::as=>i::Ec as
 |_::as=>Ec as
def qX:List AM→List Sl→Env→Env
 | .s i::as,s::outs,ρ=>qX as outs (ρ.set i (ioU s))
 |_::as,_::outs,ρ=>qX as outs ρ
 |_,_,ρ=>ρ
inductive ArR(K:ao)(Hb:Hp)(σ:L2.St):List AM→List V→List Sl→Prop
 |nil:ArR K Hb σ [] [] []
 |d {m:EM} {as:List AM} {v:V} {vs:List V} {x:D} {sl:List Sl}:Dr K Hb v x→ArR K Hb σ as vs sl→ArR K Hb σ (.d m::as) (v::vs) (.dat x::sl)
 |s {i:Nat} {as:List AM} {v:V} {vs:List V} {t:Sl} {sl:List Sl}:σ[i]? =some (some v)→ArR K Hb σ as vs sl→ArR K Hb σ (.s i::as) (v::vs) (t::sl)
 |r {i:Nat} {as:List AM} {v:V} {vs:List V} {t:Sl} {sl:List Sl}:σ[i]? =some (some v)→ArR K Hb σ as vs sl→ArR K Hb σ (.r i::as) (v::vs) (t::sl)
theorem Qg{a:AM}{as:List AM}{ρ:Env}{sl:List Sl}(h:Ag (a::as) ρ= .ok sl):∃s sl',sl=s::sl' ∧Dt ρ a= .ok [s]∧Ag as ρ= .ok sl' :=by
 unfold Ag at h
 cases q:Dt ρ a with
 |ok l=>
  rw [q] at h
  match l,h,q with
  |[s],h,q=>
   simp only at h
   cases q2:Ag as ρ with
   |ok sl' =>
    rw [q2] at h
    cases h
    exact⟨s,sl',rfl,rfl,rfl⟩
   |ex c=>rw [q2] at h;cases h
   |bad=>rw [q2] at h;cases h
  |[],h,_=>cases h
  |_::_::_,h,_=>cases h
 |ex c=>rw [q] at h;cases h
 |bad=>rw [q] at h;cases h
inductive ArA(K:ao)(Hb:Hp)(σ:L2.St)(ρ:Env)(v:V)(t:Sl):AM→Prop
 |d {m:EM} {x:D}:t= .dat x→Dr K Hb v x→ArA K Hb σ ρ v t (.d m)
 |s {i:Nat}:ρ[i]? =some t→σ[i]? =some (some v)→((∃d,t= .own d)∨∃k cs,t= .nst k cs)→ArA K Hb σ ρ v t (.s i)
 |r {i:Nat} {s:Sl}:ρ[i]? =some s→rdS s=some t→σ[i]? =some (some v)→ArA K Hb σ ρ v t (.r i)
theorem Og{K:ao}{Hb:Hp}{σ:L2.St}{ρ:Env}:∀{as:List AM} {vs:List V} {sl:List Sl},ArR K Hb σ as vs sl→Ag as ρ= .ok sl→vs.length=as.length∧sl.length=as.length∧∀(k:Nat) t,sl[k]? =some t→∃a v,as[k]? =some a∧vs[k]? =some v∧ArA K Hb σ ρ v t a
 |_,_,_, .nil,_=>⟨rfl,rfl,fun k t h=>by simp at h⟩
 |_,_,_, .d a r,h=>by
  obtain⟨s,sl',e,h1,h2⟩:=Qg h
  cases e
  obtain⟨l1,l2,l3⟩:=Og r h2
  refine⟨by simp [l1],by simp [l2],fun k t hk=> ?_⟩
  cases k with
  |zero=>
   simp at hk
   exact⟨_,_,rfl,rfl, .d hk.symm a⟩
  |succ k=>simpa using l3 k t (by simpa using hk)
 |_,_,_, .s a r,h=>by
  obtain⟨s,sl',e,h1,h2⟩:=Qg h
  cases e
  obtain⟨l1,l2,l3⟩:=Og r h2
  refine⟨by simp [l1],by simp [l2],fun k t hk=> ?_⟩
  cases k with
  |zero=>
   simp at hk
   subst hk
   refine⟨_,_,rfl,rfl,?_⟩
   simp only [Dt] at h1
   split at h1
   ·rename_i t0 q
    cases t0 with
    |own d=>simp [ioS] at h1;subst h1;exact .s q a (.inl ⟨_,rfl⟩)
    |nst k cs=>simp [ioS] at h1;subst h1;exact .s q a (.inr ⟨_,_,rfl⟩)
    |_=>simp [ioS] at h1
   ·cases h1
  |succ k=>simpa using l3 k t (by simpa using hk)
 |_,_,_, .r a r,h=>by
  obtain⟨s,sl',e,h1,h2⟩:=Qg h
  cases e
  obtain⟨l1,l2,l3⟩:=Og r h2
  refine⟨by simp [l1],by simp [l2],fun k t hk=> ?_⟩
  cases k with
  |zero=>
   simp at hk
   subst hk
   refine⟨_,_,rfl,rfl,?_⟩
   simp only [Dt] at h1
   split at h1
   ·rename_i s0 q
    split at h1
    ·rename_i t0 q2
     simp at h1
     subst h1
     exact .r q q2 a
    ·cases h1
   ·cases h1
  |succ k=>simpa using l3 k t (by simpa using hk)
theorem CP:∀{as:List AM} {k i:Nat},as[k]? =some (.s i)→i∈j8 as
 |[],_,_,h=>by simp at h
 | .s j::as,0,i,h=>by
   simp at h
   subst h
   simp [j8]
 | .d m::as,0,i,h=>by simp at h
 | .r m::as,0,i,h=>by simp at h
 | .s j::as,k+1,i,h=>by
   simp only [j8]
   exact aN _ (CP (k:=k) (by simpa using h))
 | .d m::as,k+1,i,h=>by
   simp only [j8]
   exact CP (k:=k) (by simpa using h)
 | .r m::as,k+1,i,h=>by
   simp only [j8]
   exact CP (k:=k) (by simpa using h)
theorem Lg:∀{as:List AM} {i:Nat},i∈j8 as→∃k:Nat,as[k]? =some (.s i)
 |[],_,h=>by cases h
 | .s j::as,i,h=>by
   simp only [j8] at h
   rcases aO.mp h with z|z
   ·exact⟨0,by simp [z]⟩
   ·obtain⟨k,hk⟩:=Lg z
    exact⟨k+1,by simpa using hk⟩
 | .d m::as,i,h=>by
   obtain⟨k,hk⟩:=Lg (as:=as) h
   exact⟨k+1,by simpa using hk⟩
 | .r m::as,i,h=>by
   obtain⟨k,hk⟩:=Lg (as:=as) h
   exact⟨k+1,by simpa using hk⟩
theorem Lj:∀{as:List AM} {k i:Nat},as[k]? =some (.r i)→i∈Ec as
 |[],_,_,h=>by simp at h
 | .r j::as,0,i,h=>by
   simp at h
   subst h
   simp [Ec]
 | .d m::as,0,i,h=>by simp at h
 | .s m::as,0,i,h=>by simp at h
 | .r j::as,k+1,i,h=>by
   simp only [Ec]
   exact aN _ (Lj (k:=k) (by simpa using h))
 | .d m::as,k+1,i,h=>by
   simp only [Ec]
   exact Lj (k:=k) (by simpa using h)
 | .s m::as,k+1,i,h=>by
   simp only [Ec]
   exact Lj (k:=k) (by simpa using h)
theorem aaB:∀{as:List AM} {k l i:Nat},(j8 as).Nodup→as[k]? =some (.s i)→as[l]? =some (.s i)→k=l
 |[],_,_,_,_,h,_=>by simp at h
 |a::as,0,0,i,_,_,_=>rfl
 |a::as,0,l+1,i,nd,h1,h2=>by
  simp at h1
  subst h1
  simp only [j8] at nd
  exact absurd (CP (as:=as) (k:=l) (by simpa using h2)) (bR.mp nd).1
 |a::as,k+1,0,i,nd,h1,h2=>by
  simp at h2
  subst h2
  simp only [j8] at nd
  exact absurd (CP (as:=as) (k:=k) (by simpa using h1)) (bR.mp nd).1
 |a::as,k+1,l+1,i,nd,h1,h2=>by
  have nd' :(j8 as).Nodup:=by
   cases a with
   |s j=>simp only [j8] at nd;exact(bR.mp nd).2
   |d m=>exact nd
   |r m=>exact nd
  have:=aaB (as:=as) (k:=k) (l:=l) (i:=i) nd' (by simpa using h1) (by simpa using h2)
  rw [this]
theorem BX:∀(as:List AM) (outs:List Sl) (ρ:Env),(qX as outs ρ).length=ρ.length
 |[],_,_=>by simp [qX]
 | .s i::as,[],ρ=>by simp [qX]
 | .d i::as,[],ρ=>by simp [qX]
 | .r i::as,[],ρ=>by simp [qX]
 | .s i::as,s::outs,ρ=>by simp [qX,BX as outs]
 | .d i::as,s::outs,ρ=>by simp [qX,BX as outs]
 | .r i::as,s::outs,ρ=>by simp [qX,BX as outs]
theorem Bp:∀{as:List AM} {outs:List Sl} {ρ:Env} {i:Nat},i∉j8 as→(qX as outs ρ)[i]? =ρ[i]?
 |[],_,_,_,_=>by simp [qX]
 | .s j::as,[],ρ,i,_=>by simp [qX]
 | .d j::as,[],ρ,i,_=>by simp [qX]
 | .r j::as,[],ρ,i,_=>by simp [qX]
 | .s j::as,s::outs,ρ,i,h=>by
   simp only [j8,aO,not_or] at h
   simp only [qX]
   rw [Bp h.2,cJ (fun z=>h.1 z.symm)]
 | .d j::as,s::outs,ρ,i,h=>by
   simp only [qX]
   exact Bp h
 | .r j::as,s::outs,ρ,i,h=>by
   simp only [qX]
   exact Bp h
theorem Lw:∀{as:List AM} {outs:List Sl} {ρ:Env} {k i:Nat} {s:Sl},(j8 as).Nodup→as[k]? =some (.s i)→outs[k]? =some s→i<ρ.length→(qX as outs ρ)[i]? =some (ioU s)
 |[],_,_,_,_,_,_,h,_,_=>by simp at h
 |_::_,[],_,_,_,_,_,_,h,_=>by simp at h
 |a::as,t::outs,ρ,0,i,s,nd,h1,h2,hl=>by
  simp at h1 h2
  subst h1 h2
  simp only [j8] at nd
  simp only [qX]
  rw [Bp (bR.mp nd).1,cO hl]
 |a::as,t::outs,ρ,k+1,i,s,nd,h1,h2,hl=>by
  cases a with
  |s j=>
   simp only [j8] at nd
   simp only [qX]
   exact Lw (bR.mp nd).2 (by simpa using h1) (by simpa using h2) (by simpa using hl)
  |d m=>
   simp only [qX]
   exact Lw (as:=as) nd (by simpa using h1) (by simpa using h2) hl
  |r m=>
   simp only [qX]
   exact Lw (as:=as) nd (by simpa using h1) (by simpa using h2) hl
theorem afw{K:ao}{Hb H H' :Hp}{vs:List V}{cs:List Sl}{fq:List Addr}(h:vU K Hb H vs cs fq):(∀p∈fq,∀o,H p=some o→H' p=some o)→RN K Hb H' vs (cs.map rdC):=by
 induction h with
 |nil=>exact fun _=> .nil
 |dat a _ ih=>exact fun e=> .dat a (ih e)
 |own a _ ih=>
  intro e
  obtain⟨o,a1,a2⟩:=a
  exact .bor ⟨o, .inl (e _ aY o a1),a2⟩ (ih fun p hp=>e p (aN _ hp))
 |un _ ih=>exact fun e=> .un (ih e)
section
variable{K:ao}{pn:Pn}{Hf Hb H Hb' H' :Hp}{σ:L2.St}{ρ:Env}{F:Nat→List Addr}{as:List AM}{vs:List V}{sl outs:List Sl}
def Ek(F:Nat→List Addr)(as:List AM):List Addr:=(j8 as).flatMap F
theorem N7{a:Addr}:a∈Ek F as↔∃i∈j8 as,a∈F i:=by simp [Ek,List.mem_flatMap]
def TJ(F:Nat→List Addr)(as:List AM)(k:Nat):List Addr:=match as[k]? with
 |some (.s i)=>F i
 |_=>[]
theorem Jj.lend(r:Jj K pn Hf Hb H σ ρ F)(ar:ArR K Hb σ as vs sl)(he:Ag as ρ= .ok sl)(nd:(j8 as).Nodup)(dj:∀i∈Ec as,i∉j8 as):gj K [] (off H (Ek F as)) Hb H (vs.map some) sl:=by
 obtain⟨l1,l2,l3⟩:=Og ar he
 have fpf:∀a∈Ek F as,Hf a=none∧Hb a=none∧NT (H a):=fun a ha=>by
  obtain⟨i,_,h2⟩:=N7.mp ha
  exact r.fr i a h2
 refine⟨TJ F as,fun a o h=>(Xy h).2,r.eb,by simp [l1,l2],fun k t hk=> ?_,fun k=> ?_,fun k p hp=> ?_,fun k l p ne hp hq=> ?_,fun _ _ z=>by cases z⟩
 ·obtain⟨a,v,h1,h2,h3⟩:=l3 k t hk
  have hv:(vs.map some)[k]? =some (some v):=by rw [aF,h2];rfl
  rw [hv]
  cases h3 with
  |d e x=>
   subst e
   exact⟨by simp [TJ,h1],v,rfl,x⟩
  | @s i q1 q2 q3=>
    have fe:TJ F as k=F i:=by simp [TJ,h1]
    rw [fe]
    have:=r.sl i t q1
    rw [q2] at this
    rcases q3 with⟨d,rfl⟩|⟨kk,cs,rfl⟩
    ·exact this
    ·exact this
  | @r i s q1 q2 q3=>
    have fe:TJ F as k=[]:=by simp [TJ,h1]
    rw [fe]
    have hs:=r.sl i s q1
    rw [q3] at hs
    have hi:i∉j8 as:=dj i (Lj h1)
    have nin:∀p∈F i,p∉Ek F as:=fun p hp z=>by
     obtain⟨j,j1,j2⟩:=N7.mp z
     exact r.dj i j p (fun z=>hi (by rw [z];exact j1)) hp j2
    have keep:∀p∈F i,∀o,H p=some o→off H (Ek F as) p=some o:=fun p hp o ho=>by rw [pP (nin p hp)];exact ho
    have keepf:∀p o,Hf p=some o→off H (Ek F as) p=some o:=fun p o ho=>by
     rw [pP (fun z=>by rw [(fpf p z).1] at ho;cases ho)]
     exact r.ef p o ho
    cases s with
    |un=>cases q2
    |dat d=>
     cases q2
     obtain⟨_,v',e,x⟩:=hs
     cases e
     exact⟨rfl,_,rfl,x⟩
    |own d=>
     cases q2
     obtain⟨p,e1,e2,o,e3,e4⟩:=hs
     cases e2
     exact⟨rfl,_,rfl, .inr ⟨p,rfl,o, .inl (keep p (by rw [e1];simp) o e3),e4⟩⟩
    |bor d=>
     cases q2
     obtain⟨_,v',e,x⟩:=hs
     cases e
     refine⟨rfl,_,rfl,?_⟩
     rcases x with x|⟨p,x1,o,x2,x3⟩
     ·exact .inl x
     ·exact .inr ⟨p,x1,o,x2.ex keepf,x3⟩
    |nst kk cs=>
     cases q2
     obtain⟨v',e,p,vs',hp,fq,rfl,x1,x2,x3⟩:=hs
     cases e
     refine⟨rfl,p,vs',hp,rfl,x1.frame fun a ha o ho=>keep a (by rw [x3];exact bW _ ha) o ho,afw x2 fun a ha o ho=>keep a (by rw [x3];exact cP _ ha) o ho⟩
    |vP kk cs=>
     cases q2
     obtain⟨_,p,vs',hp,e,x1,x2⟩:=hs
     cases e
     exact⟨rfl,p,vs',hp,rfl,x1.frame fun a _ o ho=>keepf a o ho,x2.ex (Ex.refl _) keepf⟩
    |QH kk cs=>cases q2
 ·unfold TJ
  split
  ·exact r.nd _
  ·exact cH
 ·unfold TJ at hp
  split at hp
  ·rename_i i hk
   obtain⟨f1,f2,f3⟩:=r.fr i p hp
   refine⟨?_,f2,f3⟩
   unfold off
   rw [if_pos (N7.mpr ⟨i,CP hk,hp⟩)]
  ·cases hp
 ·unfold TJ at hp hq
  split at hp
  ·rename_i i hk
   split at hq
   ·rename_i j hl
    exact r.dj i j p (fun z=>ne (aaB nd hk (by rw [hl,z]))) hp hq
   ·cases hq
  ·cases hp
theorem Jj.back(r:Jj K pn Hf Hb H σ ρ F)(hv:vs.length=as.length)(hsv:∀(k i:Nat),as[k]? =some (.s i)→∃v,vs[k]? =some v∧σ[i]? =some (some v))(nd:(j8 as).Nodup)(R' :gj K [] (off H (Ek F as)) Hb' H' (vs.map some) outs)(b:Bw (off H (Ek F as)) Hb Hb' H'):
 gj K pn Hf Hb' H' σ (qX as outs ρ)∧Bw Hf Hb Hb' H' :=by
 obtain⟨F2,r2⟩:=R'
 have hol:outs.length=as.length:=by
  have:=r2.len
  simp at this
  omega
 have fpf:∀a∈Ek F as,Hf a=none∧Hb a=none∧NT (H a):=fun a ha=>by
  obtain⟨i,_,h2⟩:=N7.mp ha
  exact r.fr i a h2
 have hfo:∀a o,Hf a=some o→off H (Ek F as) a=some o:=fun a o ho=>by
  rw [pP (fun z=>by rw [(fpf a z).1] at ho;cases ho)]
  exact r.ef a o ho
 have oth:∀i p,i∉j8 as→p∈F i→p∉Ek F as:=fun i p hi hp z=>by
  obtain⟨j,j1,j2⟩:=N7.mp z
  exact r.dj i j p (fun z=>hi (by rw [z];exact j1)) hp j2
 have pos:∀i,i∈j8 as→∃k:Nat,as[k]? =some (.s i):=fun i h=>Lg h
 let ps:Nat→Nat:=fun i=>if h:i∈j8 as then Classical.choose (pos i h) else 0
 have psk:∀i,i∈j8 as→as[ps i]? =some (.s i):=fun i h=>by
  have:=Classical.choose_spec (pos i h)
  simp only [ps,dif_pos h]
  exact this
 have f2:∀k p,p∈F2 k→∀i,i∉j8 as→p∉F i:=fun k p hp i hi hpi=>by
  have x:=(r2.fr k p hp).1
  have y:=(r.fr i p hpi).2.2
  rw [pP (oth i p hi hpi)] at x
  rw [x] at y
  exact y
 let G:Nat→List Addr:=fun k=>match outs[k]? with
  |some (.own _)=>F2 k
  |some (.nst _ _)=>F2 k
  |_=>[]
 have G2:∀k p,p∈G k→p∈F2 k:=fun k p hp=>by
  simp only [G] at hp
  split at hp
  ·exact hp
  ·exact hp
  ·cases hp
 refine⟨⟨fun i=>if i∈j8 as∧i<ρ.length then G (ps i) else if i∈j8 as then [] else F i,fun a o h=>r2.ef a o (hfo a o h),r2.eb,by rw [BX];exact r.len,fun i s h=> ?_,fun i=> ?_,fun i p hp=> ?_,fun i j p ne hp hq=> ?_,r.pin⟩,b.b,b.bh,fun a z1 z2=>b.nw a z1 ?_⟩
 ·have hlt:i<ρ.length:=by
   have:=(au.mp h).1
   rwa [BX] at this
  by_cases hi:i∈j8 as
  ·simp only [if_pos (⟨hi,hlt⟩:i∈j8 as∧i<ρ.length)]
   have hk:=psk i hi
   have hkl:ps i<as.length:=(au.mp hk).1
   obtain⟨s0,ho⟩:∃s0,outs[ps i]? =some s0:=⟨_,bH (by omega)⟩
   have:=Lw nd hk ho hlt
   rw [this] at h
   cases h
   obtain⟨v,v1,v2⟩:=hsv _ _ hk
   have z:=r2.sl (ps i) s0 ho
   have e:(vs.map some)[ps i]? =σ[i]? :=by rw [aF,v1,v2];rfl
   rw [e] at z
   cases s0 with
   |own d=>
    have ge:G (ps i)=F2 (ps i):=by simp only [G,ho]
    rw [ge]
    exact z
   |nst k cs=>
    have ge:G (ps i)=F2 (ps i):=by simp only [G,ho]
    rw [ge]
    exact z
   |_=>
    have ge:G (ps i)=[]:=by simp only [G,ho]
    rw [ge]
    rfl
  ·simp only [if_neg (fun z:i∈j8 as∧i<ρ.length=>hi z.1),if_neg hi]
   rw [Bp hi] at h
   refine(r.sl i s h).frame b.b fun p hp o ho=> ?_
   exact r2.ef p o (by rw [pP (oth i p hi hp)];exact ho)
 ·split
  ·simp only [G]
   split
   ·exact r2.nd _
   ·exact r2.nd _
   ·exact cH
  ·split
   ·exact cH
   ·exact r.nd i
 ·split at hp
  ·obtain⟨x1,x2,x3⟩:=r2.fr _ p (G2 _ p hp)
   refine⟨?_,x2,x3⟩
   cases q:Hf p with
   |none=>rfl
   |some o=>
    rw [hfo p o q] at x1
    cases x1
  ·split at hp
   ·cases hp
   ·rename_i hi
    obtain⟨x1,x2,x3⟩:=r.fr i p hp
    have no:=oth i p hi hp
    obtain⟨o,ho⟩:=wW x3
    have hh:H' p=some o:=r2.ef p o (by rw [pP no];exact ho)
    exact⟨x1,b.nw p x2 (by rw [pP no];exact x3),by rw [hh,←ho];exact x3⟩
 ·split at hp
  ·rename_i hi
   split at hq
   ·rename_i hj
    have z:ps i≠ps j:=fun z=>by
     have a1:=psk i hi.1
     have a2:=psk j hj.1
     rw [z,a2] at a1
     cases a1
     exact ne rfl
    exact r2.dj _ _ p z (G2 _ p hp) (G2 _ p hq)
   ·split at hq
    ·cases hq
    ·rename_i hj
     exact f2 _ p (G2 _ p hp) j hj hq
  ·split at hp
   ·cases hp
   ·rename_i hi
    split at hq
    ·exact f2 _ p (G2 _ p hq) i hi hp
    ·split at hq
     ·cases hq
     ·exact r.dj i j p ne hp hq
 ·have y:=wW z2
  obtain⟨o,ho⟩:=y
  rw [hfo a o ho]
  rw [ho] at z2
  exact z2
end
end DL
set_option maxHeartbeats 2000000
namespace DL
open PySem PySem.Spec L2 Evl PyProof.Rows
def aiU(K:ao)(W:WQ)(as:List AM):TA:=fun σ H Q=>∃(Hf Hb:Hp) (ρ:Env),gj K W.pin Hf Hb H σ ρ∧
 (∀sl,Ag as ρ= .ok sl→∀vs Hb' H',Gw Hb H Hb' H' →ArR K Hb' σ as vs sl→Q vs H')∧
 (∀c,Ag as ρ= .ex c→∀Hb' H',Gw Hb H Hb' H' →W.w (.ref (He.ga K c)) none σ H')∧Ag as ρ≠ .bad
abbrev DAG(X:Cx)(W:WQ)(es:List Expr)(as:List AM):Prop:=PA X es (aiU X.K W as)
theorem gj.val{K:ao}{pn:Pn}{Hf Hb H:Hp}{σ:L2.St}{ρ:Env}{i:Nat}{s t:Sl}(R:gj K pn Hf Hb H σ ρ)(h:ρ[i]? =some s)(q:rdS s=some t):∃v,σ[i]? =some (some v):=by
 cases s with
 |un=>cases q
 |dat d=>
  obtain⟨v,h1,_⟩:=R.dat i d h
  exact⟨v,h1⟩
 |own d=>
  obtain⟨p,h1,_⟩:=R.own i d h
  exact⟨_,h1⟩
 |bor d=>
  obtain⟨v,h1,_⟩:=R.bor i d h
  exact⟨v,h1⟩
 |nst k cs=>
  obtain⟨p,_,_,h1,_⟩:=R.parts (.inl h)
  exact⟨_,h1⟩
 |vP k cs=>
  obtain⟨p,_,_,h1,_⟩:=R.parts (.inr h)
  exact⟨_,h1⟩
 |QH ks ls=>
  obtain⟨F,r⟩:=R
  obtain⟨p,qs,_,h1,_⟩:=r.sl i _ h
  exact⟨_,h1⟩
theorem ais{m:EM}{as:List AM}{ρ:Env}{x:D}(h:m ρ= .ok x):Ag (.d m::as) ρ=aaq (.dat x) (Ag as ρ):=by simp [Ag,Dt,h]
theorem agy{m:EM}{as:List AM}{ρ:Env}{c:Str}(h:m ρ= .ex c):Ag (.d m::as) ρ= .ex c:=by simp [Ag,Dt,h]
theorem agm{m:EM}{as:List AM}{ρ:Env}(h:m ρ= .bad):Ag (.d m::as) ρ= .bad:=by simp [Ag,Dt,h]
theorem aif{i:Nat}{as:List AM}{ρ:Env}{s t:Sl}(h:ρ[i]? =some s)(q:ioS s=some t):Ag (.s i::as) ρ=aaq t (Ag as ρ):=by simp [Ag,Dt,h,q]
theorem ah4{i:Nat}{as:List AM}{ρ:Env}{s t:Sl}(h:ρ[i]? =some s)(q:rdS s=some t):Ag (.r i::as) ρ=aaq t (Ag as ρ):=by simp [Ag,Dt,h,q]
section
variable{X:Cx}{W:WQ}{e:Expr}{es:List Expr}{m:EM}{as:List AM}{x:Str}{pos:Pos}
theorem CN:DAG X W [] []:=PA.imp pa_nil fun σ H Q ⟨Hf,Hb,ρ,R,h1,_,_⟩=>h1 [] rfl [] Hb H (Gw.refl R.eb) .nil
theorem Bm(h:DE X W .dat e m)(hr:DAG X W es as)(hp:starEach (e::es) X.env=(false,eval e X.env)::starEach es X.env:=by rfl):DAG X W (e::es) (.d m::as):=PA.imp (pa_cons h hr hp) fun σ H Q ⟨Hf,Hb,ρ,R,h1,h2,h3⟩=>by
 refine⟨Hf,Hb,ρ,R,fun d hd v Hb1 H1 g1 r1=> ?_,fun c hc=>h2 c (agy hc),fun z=>h3 (agm z)⟩
 rw [ais hd] at h1 h2 h3
 refine⟨Hf,Hb1,ρ,R.gw g1,fun sl hsl vs Hb2 H2 g2 ar=>h1 _ (by rw [hsl];rfl) _ Hb2 H2 (g1.trans g2) (.d (lG g2.b r1) ar),fun c hc Hb2 H2 g2=>h2 c (by rw [hc];rfl) Hb2 H2 (g1.trans g2),fun z=>h3 (by rw [z];rfl)⟩
theorem aa8(i:Nat)(hr:DAG X W es as)(hN:X.N[i]? =some x:=by rfl)(hv:Vis X.env.scope x:=by first|exact Or.inl rfl|exact Or.inr (Or.inl rfl)|exact Or.inr (Or.inr rfl))(hd:(x==("__debug__":Str))=false:=by decide)
 (hcd:(x==("__classdict__":Str))=false:=by decide) (hp:starEach (.Name x pos::es) X.env=(false,eval (.Name x pos) X.env)::starEach es X.env:=by rfl):DAG X W (.Name x pos::es) (.s i::as):=PA.imp (pa_cons (pe_var hN hv hd hcd) hr hp) fun σ H Q ⟨Hf,Hb,ρ,R,h1,h2,h3⟩=>by
 cases q:ρ[i]? with
 |none=>exact absurd (by simp [Ag,Dt,q]) h3
 |some s=>
  cases q2:ioS s with
  |none=>exact absurd (by simp [Ag,Dt,q,q2]) h3
  |some t=>
   rw [aif q q2] at h1 h2 h3
   have hs:(∃d,ρ[i]? =some (.own d))∨∃k cs,ρ[i]? =some (.nst k cs):=by
    cases s with
    |own d=>exact .inl ⟨d,q⟩
    |nst k cs=>exact .inr ⟨k,cs,q⟩
    |_=>cases q2
   obtain⟨p,hp⟩:=R.ref hs
   exact⟨_,hp,Hf,Hb,ρ,R,fun sl hsl vs Hb2 H2 g2 ar=>h1 _ (by rw [hsl];rfl) _ Hb2 H2 g2 (.s hp ar),fun c hc Hb2 H2 g2=>h2 c (by rw [hc];rfl) Hb2 H2 g2,fun z=>h3 (by rw [z];rfl)⟩
theorem afU(i:Nat)(hr:DAG X W es as)(hN:X.N[i]? =some x:=by rfl)(hv:Vis X.env.scope x:=by first|exact Or.inl rfl|exact Or.inr (Or.inl rfl)|exact Or.inr (Or.inr rfl))(hd:(x==("__debug__":Str))=false:=by decide)
 (hcd:(x==("__classdict__":Str))=false:=by decide) (hp:starEach (.Name x pos::es) X.env=(false,eval (.Name x pos) X.env)::starEach es X.env:=by rfl):DAG X W (.Name x pos::es) (.r i::as):=PA.imp (pa_cons (pe_var hN hv hd hcd) hr hp) fun σ H Q ⟨Hf,Hb,ρ,R,h1,h2,h3⟩=>by
 cases q:ρ[i]? with
 |none=>exact absurd (by simp [Ag,Dt,q]) h3
 |some s=>
  cases q2:rdS s with
  |none=>exact absurd (by simp [Ag,Dt,q,q2]) h3
  |some t=>
   rw [ah4 q q2] at h1 h2 h3
   obtain⟨v,hp⟩:=R.val q q2
   exact⟨_,hp,Hf,Hb,ρ,R,fun sl hsl vs Hb2 H2 g2 ar=>h1 _ (by rw [hsl];rfl) _ Hb2 H2 g2 (.r hp ar),fun c hc Hb2 H2 g2=>h2 c (by rw [hc];rfl) Hb2 H2 g2,fun z=>h3 (by rw [z];rfl)⟩
end
def rP(g:List Sl→RO)(as:List AM):XM:=fun ρ=>match Ag as ρ with
 | .ok sl=>(match g sl with
   | .ok d outs=> .ok d (qX as outs ρ)
   | .ex c outs=> .ex c (qX as outs ρ)
   | .bad=> .bad)
 | .ex c=> .ex c ρ
 | .bad=> .bad
def uz(g:List Sl→RO)(as:List AM):EM:=fun ρ=>match Ag as ρ with
 | .ok sl=>(match g sl with
   | .ok d _=> .ok d
   | .ex c _=> .ex c
   | .bad=> .bad)
 | .ex c=> .ex c
 | .bad=> .bad
section
variable{K:ao}{W:WQ}{pn:Pn}{Hf Hb H Hb1 H1:Hp}{σ:L2.St}{ρ:Env}{as:List AM}{vs:List V}{sl:List Sl}{g:List Sl→RO}{Q:VK}
theorem ahZ(ar:ArR K Hb σ as vs sl)(he:Ag as ρ= .ok sl):∀(k i:Nat),as[k]? =some (.s i)→∃v,vs[k]? =some v∧σ[i]? =some (some v):=fun k i h=>by
 obtain⟨l1,l2,l3⟩:=Og ar he
 have hk:=(au.mp h).1
 obtain⟨a,v,h1,h2,h3⟩:=l3 k _ (bH (by omega))
 rw [h] at h1
 cases h1
 cases h3 with
 |s q1 q2 q3=>exact⟨v,h2,q2⟩
theorem ai0(R:gj K pn Hf Hb H σ ρ)(g1:Gw Hb H Hb1 H1)(he:Ag as ρ= .ok sl)(ar:ArR K Hb1 σ as vs sl)(nd:(j8 as).Nodup)(dj:∀i∈Ec as,i∉j8 as){E:XK}(h:match g sl with
 | .ok d outs=>∀v Hb' H',gj K pn Hf Hb' H' σ (qX as outs ρ)→Bw Hf Hb Hb' H' →Dr K Hb' v d→Q v H'
 | .ex c outs=>∀Hb' H',gj K pn Hf Hb' H' σ (qX as outs ρ)→Bw Hf Hb Hb' H' →E (.ref (He.ga K c)) none H'
 | .bad=>False):SpG K as.length g vs H1 Q E:=by
 have b1:=g1.bw R.ef
 obtain⟨F,r⟩:=R.gw g1
 obtain⟨l1,l2,l3⟩:=Og ar he
 have sv:=ahZ ar he
 refine⟨l1,Hb1,Ek F as,sl,r.lend ar he nd dj,?_⟩
 cases q:g sl with
 |ok d outs=>
  rw [q] at h
  intro v Hb' H' R' b r'
  obtain⟨R2,b2⟩:=r.back l1 sv nd R' b
  exact h v Hb' H' R2 (b1.trans b2) r'
 |ex c outs=>
  rw [q] at h
  intro Hb' H' R' b
  obtain⟨R2,b2⟩:=r.back l1 sv nd R' b
  exact h Hb' H' R2 (b1.trans b2)
 |bad=>
  rw [q] at h
  exact h
theorem aiH(R:gj K pn Hf Hb H σ ρ)(g1:Gw Hb H Hb1 H1)(he:Ag as ρ= .ok sl)(ar:ArR K Hb1 σ as vs sl)(nd:j8 as=[]){E:XK}(h:match g sl with
 | .ok d _=>∀v Hb' H',Gw Hb H Hb' H' →Dr K Hb' v d→Q v H'
 | .ex c _=>∀Hb' H',Gw Hb H Hb' H' →E (.ref (He.ga K c)) none H'
 | .bad=>False):SpG K as.length g vs H1 Q E:=by
 obtain⟨F,r⟩:=R.gw g1
 obtain⟨l1,l2,l3⟩:=Og ar he
 have e:Ek F as=[]:=by simp [Ek,nd]
 have ld:=r.lend ar he (by rw [nd];exact cH) (by rw [nd];exact fun i _ z=>by cases z)
 rw [e,U5] at ld
 refine⟨l1,Hb1,[],sl,by rw [U5];exact ld,?_⟩
 rw [U5]
 cases q:g sl with
 |ok d outs=>
  rw [q] at h
  exact fun v Hb' H' R' b r' =>h v Hb' H' (g1.trans (WM R'.ef b)) r'
 |ex c outs=>
  rw [q] at h
  exact fun Hb' H' R' b=>h Hb' H' (g1.trans (WM R'.ef b))
 |bad=>
  rw [q] at h
  exact h
end
section
variable{X:Cx}{W:WQ}{x y:Str}{p pos q apos:Pos}{e:Expr}{es:List Expr}{as:List AM}{g:List Sl→RO}{j k n:Nat}{ps:List Str}
theorem ae6(h:Has X.prog X.w X.K X.mg X.base x k ps (SpG X.K n g))(hr:Room j X.A)(tk:Takes X W.w)(ha:DAG X W (e::es) as)(hio:(j8 as).Nodup:=by decide)(hrd:∀i∈Ec as,i∉j8 as:=by decide)(hn:as.length=n:=by rfl)(hj:k≤j:=by decide)(hg:Gl X x:=by rfl)(hdb:(x==("__debug__":Str))=false:=by decide)
 (he:starEach (e::es) X.env=(false,eval e X.env)::starEach es X.env:=by rfl) (hpl:(backTo pos (starEach es X.env)).any (·.1)=false:=by rfl):DX X W (.Call (.Name x p) (e::es) [] pos) (rP g as):=by
 obtain⟨fd,F,B,_⟩:=h.ex
 refine PE.imp (pe_callS F (hr.mono hj) hg h.gl h.kp B (fun σ=>passAt tk σ) ha hdb he hpl) fun σ H Q ⟨Hf,Hb,ρ,R,h1,h2,h3⟩=> ?_
 refine⟨Hf,Hb,ρ,R,fun sl hsl vs Hb1 H1 g1 ar=> ?_,fun c hc Hb1 H1 g1=> ?_,fun z=>h3 (by simp [rP,z])⟩
 ·rw [←hn]
  refine ai0 R g1 hsl ar hio hrd ?_
  cases qg:g sl with
  |ok d outs=>exact h1 d _ (by simp [rP,hsl,qg])
  |ex c outs=>exact h2 c _ (by simp [rP,hsl,qg])
  |bad=>exact absurd (by simp [rP,hsl,qg]) h3
 ·exact h2 c ρ (by simp [rP,hc]) Hb1 H1 (R.gw g1) (g1.bw R.ef)
theorem ait(h:Has X.prog X.w X.K X.mg X.base x k ps (SpG X.K n g))(hr:Room j X.A)(tk:Takes X W.w)(ha:DAG X W (e::es) as)(hio:j8 as=[]:=by rfl)(hn:as.length=n:=by rfl)(hj:k≤j:=by decide)(hg:Gl X x:=by rfl)(hdb:(x==("__debug__":Str))=false:=by decide)
 (he:starEach (e::es) X.env=(false,eval e X.env)::starEach es X.env:=by rfl) (hpl:(backTo pos (starEach es X.env)).any (·.1)=false:=by rfl):DE X W .dat (.Call (.Name x p) (e::es) [] pos) (uz g as):=by
 obtain⟨fd,F,B,_⟩:=h.ex
 refine PE.imp (pe_callS F (hr.mono hj) hg h.gl h.kp B (fun σ=>passAt tk σ) ha hdb he hpl) fun σ H Q ⟨Hf,Hb,ρ,R,h1,h2,h3⟩=> ?_
 refine⟨Hf,Hb,ρ,R,fun sl hsl vs Hb1 H1 g1 ar=> ?_,fun c hc Hb1 H1 g1=> ?_,fun z=>h3 (by simp [uz,z])⟩
 ·rw [←hn]
  refine aiH R g1 hsl ar hio ?_
  cases qg:g sl with
  |ok d outs=>exact h1 d (by simp [uz,hsl,qg])
  |ex c outs=>exact h2 c (by simp [uz,hsl,qg])
  |bad=>exact absurd (by simp [uz,hsl,qg]) h3
 ·exact h2 c (by simp [uz,hc]) Hb1 H1 g1
end
structure ajh(P:Program)(w:World)(K:ao)(mg:Str→Option Value)(base:Heap)(c m:Str)(k:Nat)(ps:List Str)(sp:Sp):Prop where
 ex:∃fd,FnOk P w K mg base (L2.CX P w) k (He.ma K (He.ga K c) m) fd ps sp∧Binds K fd ps []
 me:Meth K (He.ga K c) m (He.ma K (He.ga K c) m)
 cl:Cls K (He.ga K c)
section
variable{X:Cx}{CX:CXT}{k:Nat}{f C:Addr}{fd:FuncData}{ps:List Str}{sp:Sp}{E:L2.St→XK}{x m:Str}{p pos apos:Pos}{e o:Expr}{es:List Expr}{ta:TE}{t:TA}
end
section
variable{X:Cx}{W:WQ}{y c m:Str}{fs:List Str}{q pos apos:Pos}{e:Expr}{es:List Expr}{as:List AM}{g:List Sl→RO}{j k n:Nat}{ps:List Str}
end
end DL
set_option maxHeartbeats 2000000
namespace DL
open PySem PySem.Spec L2 Evl PyProof.Rows
section
variable{K:ao}{pn:Pn}{Hf Hb H Hb' H' :Hp}{σ:L2.St}{ρ:Env}{i:Nat}
theorem gj.ag1{k:NK}{cs:List Sl}{v:V}{fp:List Addr}(R:gj K pn Hf Hb H σ ρ)(ho:xM pn i)(g:Gw Hb H Hb' H')(h:NsR K Hb' H' v k cs fp)(nd:fp.Nodup)(fr:∀a∈fp,H a=none∧Hb' a=none):gj K pn Hf Hb' H' (σ.set i (some v)) (ρ.set i (.nst k cs)):=by
 obtain⟨F,r⟩:=R
 refine⟨_,r.step (fp:=fp) (r.ef.trans g.h) g.bh g.b (by simp) (fun j z=>U4 z) (fun a _ _ h2 h3=> ?_) (fun hi=>⟨v,Lp (by rw [r.len];exact hi),h⟩) nd (fun a ha=>⟨fresh_back r.ef (fr a ha).1,(fr a ha).2,h.nt a ha⟩) (fun j a _ ha hj=> ?_) (fun a q=>absurd q (ho a))⟩
 ·obtain⟨o,e⟩:=wW h3
  exact⟨by rw [e];exact g.h a o e,g.nw a h2 h3⟩
 ·have z:=(r.fr j a hj).2.2
  rw [(fr a ha).1] at z
  exact z
end
structure ajk(P:Program)(w:World)(K:ao)(mg:Str→Option Value)(base:Heap)(c:Str)(k:Nat)(ps:List Str)(sp:Sp):Prop where
 ex:∃fd,FnOk P w K mg base (L2.CX P w) k (He.ma K (He.ga K c) "__init__") fd ps sp∧Binds K fd ps []
 mk_:Mk K (He.ga K c) (He.ma K (He.ga K c) "__init__")
 gl:mg c=some (.ref (He.ga K c))
section
variable{X:Cx}{W:WQ}{c:Str}{p pos:Pos}{e:Expr}{es:List Expr}{as:List AM}{g:List Sl→RO}{j k n:Nat}{ps:List Str}
end
section
variable{P:Program}{w:World}{K:ao}{mg:Str→Option Value}{base:Heap}{fa:List He.Fa}{fn:List He.DefD}
abbrev aiq(P:Program)(w:World)(K:ao)(mg:Str→Option Value)(base:Heap)(d:He.DefD)(N:List Str)(k:Nat)(bs:List Bool)(m:SM):Prop:=
 ∀(pa:List Addr) (f:Addr) (cdv:Value) (A:Around) (outer:List PySem.Env) (s:Shared) (H:Hp) (E:XK),Room k (cxOf (L2.CX P w) P w K mg base N d.qual d.scope f cdv A outer s H E).A→Takes (cxOf (L2.CX P w) P w K mg base N d.qual d.scope f cdv A outer s H E) (fun cls d _ H=>E cls d H)→
  PassesOwn (model (cxOf (L2.CX P w) P w K mg base N d.qual d.scope f cdv A outer s H E).prog (cxOf (L2.CX P w) P w K mg base N d.qual d.scope f cdv A outer s H E).w) (cxOf (L2.CX P w) P w K mg base N d.qual d.scope f cdv A outer s H E).A (cxOf (L2.CX P w) P w K mg base N d.qual d.scope f cdv A outer s H E).env (cxOf (L2.CX P w) P w K mg base N d.qual d.scope f cdv A outer s H E).xe→
  WD (cxOf (L2.CX P w) P w K mg base N d.qual d.scope f cdv A outer s H E) ⟨fun cls d _ H=>E cls d H,(idxs bs).zip pa⟩ .dat d.body m
abbrev ahQ(d:He.DefD)(ps:List Str):Prop:=∀(kV doc pm:Value) (an:Option Addr) (cdv ct:Value) (us:List Value),us.length=ps.length→bindArgs (PySem.W.fnOf d.name d.qual d.params d.body d.scope .none kV doc pm an cdv ct) ⟨us,[]⟩=pure (ps.zip us)
theorem aaz{x:Str}{d:He.DefD}(Z:nH fa fn K mg)(i j:Nat){N ps:List Str}{k n:Nat}{bs:List Bool}{m:SM}(hd:fn[i]? =some d)(hx:d.at_=(x,none))(hdf:d.dfl=[])(hkw:d.kwd=[])(hg:fa[j]? =some (.glo x))(S:FnScope N ps d.scope)(hps:ps.length=bs.length)(hn:N.length=bs.length+n)(hb:ahQ d ps)(hbody:aiq P w K mg base d N k bs m):
 Has P w K mg base x (k+1) ps (SpG K bs.length (KN bs n m)):=by
 obtain⟨fd,F⟩:=Z.says.def_ i hd
 have ea:He.fAd K d.at_=He.ga K x:=by rw [hx];rfl
 rw [ea] at F
 have kp:=F.kp
 have e1:d.dvs K=[]:=by
  unfold He.DefD.dvs
  rw [hdf]
  rfl
 rw [e1] at F
 refine⟨⟨fd,ai5 F S hps hn (fun pa cdv A outer s H E hr=>hbody pa _ cdv A outer s H E hr (takes_of rfl rfl rfl rfl) PassesOwn.leaving),F.bindsN hb,?_⟩,kp,Z.glo j hg⟩
 obtain⟨oc,od,_,_,_,_,_,_,_,osl,_,l,_⟩:=F.ex
 exact⟨oc,od,osl,l⟩
theorem nH.cls(Z:nH fa fn K mg)(i:Nat){x:Str}(h:fa[i]? =some (.cls x):=by rfl):Cls K (He.ga K x):=He.cls_ok (Z.says.fact i h)
end
end DL
set_option maxHeartbeats 2000000
namespace DL
open PySem PySem.Spec L2 Evl PyProof.Rows
structure YlF(K:ao)(Hf Hb1:Hp)(J:It)(ds:List D):Prop where
 go:∀(i:Nat) H,Ex Hf H→Ex Hb1 H→i<ds.length→J.go i H
 stop:∀H,Ex Hf H→Ex Hb1 H→J.stop ds.length H
 yld:∀(i:Nat) H x H' Hb,Ex Hf H→Ex Hb1 Hb→Ex Hb H→i<ds.length→J.yld i H x H' →∃Hb' d,Gw Hb H Hb' H' ∧ds[i]? =some d∧Dr K Hb' x d
theorem XD{K:ao}{W:WQ}{rk:Kd}{g:GM}{mb:SM}{Hf Hb1 H1:Hp}{σ:L2.St}{ρ:Env}{E:Ends}{J:It}{ds:List D}(R:gj K W.pin Hf Hb1 H1 σ ρ)(Y:YlF K Hf Hb1 J ds)(h:kY K W rk Hf Hb1 H1 E (yE g mb ds ρ)):
 ∃Wi:Nat→Nat→L2.St→Hp→Prop,(∃m,Wi 0 m σ H1)∧∀i m σ H,Wi i m σ H→
  (J.stop i H∧E.nx σ H)∨(J.go i H∧∃N:L2.St→Hp→Prop,(∀σ' H',N σ' H' →∃m',m' <m∧Wi (i+1) m' σ' H')∧∀x H',J.yld i H x H' →gOf K W.pin g x σ H' fun σ2 H2=>sOf K W rk mb {E with nx:=N,ct:=N,bk:=E.nx} σ2 H2):=by
 refine⟨fun i n σ' H' =>n=ds.length-i∧i≤ds.length∧∃Hb' ρ',gj K W.pin Hf Hb' H' σ' ρ' ∧Ex Hb1 Hb' ∧kY K W rk Hf Hb' H' E (yE g mb (ds.drop i) ρ'),⟨ds.length,by simp,cQ _,Hb1,ρ,R,Ex.refl _,h⟩,?_⟩
 rintro i n σ2 H2 ⟨rfl,hi,Hb2,ρ2,R2,e2,h2⟩
 by_cases hlt:i<ds.length
 ·have ed:ds.drop i=ds[i]::ds.drop (i+1):=(List.getElem_cons_drop hlt).symm
  rw [ed] at h2
  refine .inr ⟨Y.go i H2 R2.ef (e2.trans R2.eb) hlt,fun σ' H' =>∃Hb' ρ',gj K W.pin Hf Hb' H' σ' ρ' ∧Ex Hb1 Hb' ∧kY K W rk Hf Hb' H' E (yE g mb (ds.drop (i+1)) ρ'),fun σ' H' hN=>⟨ds.length-(i+1),by omega,rfl,hlt,hN⟩,fun x H3 y=> ?_⟩
  obtain⟨Hb3,d,g3,d1,d2⟩:=Y.yld i H2 x H3 Hb2 R2.ef e2 R2.eb hlt y
  have de:ds[i]=d:=by
   rw [bH hlt] at d1
   exact Option.some.inj d1
  rw [de] at h2
  simp only [yE] at h2
  cases q:g d ρ2 with
  |none=>
   rw [q] at h2
   exact h2.elim
  |some ρ3=>
   rw [q] at h2
   refine⟨Hf,Hb3,ρ2,d,ρ3,R2.gw g3,d2,q,fun σ3 R3=>⟨Hf,Hb3,ρ3,R3,?_⟩⟩
   have h3:=kY.weak (g3.bw R2.ef) h2
   simp only at h3
   cases qb:mb ρ3 with
   |nx ρ4=>
    rw [qb] at h3
    exact fun σ4 Hb4 H4 R4 b4=>⟨Hb4,ρ4,R4,(e2.trans g3.b).trans b4.b,kY.weak b4 h3⟩
   |ct ρ4=>
    rw [qb] at h3
    exact fun σ4 Hb4 H4 R4 b4=>⟨Hb4,ρ4,R4,(e2.trans g3.b).trans b4.b,kY.weak b4 h3⟩
   |bk ρ4=>rw [qb] at h3;exact h3
   |rt d=>rw [qb] at h3;exact h3
   |rx d ρ4=>rw [qb] at h3;exact h3
   |ex c ρ4=>rw [qb] at h3;exact h3
   |bad=>rw [qb] at h3;exact h3
 ·have e:i=ds.length:=by omega
  subst e
  rw [List.drop_length] at h2
  exact .inl ⟨Y.stop H2 R2.ef (e2.trans R2.eb),h2 σ2 Hb2 H2 R2 (Bw.refl R2.eb)⟩
theorem af5{K:ao}{Hb:Hp}:∀{kvs:List (Key×V)} {ds:List (D×D)},PK K Hb kvs ds→∀(i:Nat) (q:Key×V),kvs[i]? =some q→∃d,ds[i]? =some (keyD q.1,d)∧Dr K Hb q.2 d
 |_,_, .nil,i,q,h=>by simp at h
 |_,_, .cons (a:=p) (b:=(x,y)) h r,0,q,e=>by
  simp at e
  subst e
  have hx:x=keyD p.1:=h.1
  exact⟨y,by simp [hx],h.2⟩
 |_,_, .cons h r,i+1,q,e=>by simpa using af5 r i q (by simpa using e)
theorem agi{Hf Hb1 H:Hp}{p:Addr}{u:HO}(hp:Hf p=some u∨Hb1 p=some u)(e:Ex Hf H)(e1:Ex Hb1 H):H p=some u:=by
 rcases hp with hp|hp
 ·exact e _ _ hp
 ·exact e1 _ _ hp
theorem abw{K:ao}{Hf Hb1:Hp}{p:Addr}{o:Obj}{kvs:List (Key×V)}{ds:List (D×D)}(hp:Hf p=some (.frz o (.dK kvs))∨Hb1 p=some (.frz o (.dK kvs)))(pk:PK K Hb1 kvs ds):YlF K Hf Hb1 (Iti p o kvs) (ds.map fun q=>bM [q.1,q.2]) where
 go:=fun i H e e1 hi=>⟨agi hp e e1,by rw [aC] at hi;rw [Nr pk];exact hi⟩
 stop:=fun H e e1=>⟨agi hp e e1,by rw [aC,Nr pk];exact bD _⟩
 yld:=fun i H x H' Hb e e1 e2 hi y=>by
  obtain⟨T,k,v,hq,rfl,hT,rfl⟩:=y
  obtain⟨d,h1,h2⟩:=af5 pk i _ hq
  have z:=Gw.tup (K:=K) e2 hT (.cons (agu k) (.cons (lG e1 h2) .nil))
  exact⟨_,_,z.1,by rw [aF,h1];rfl,z.2⟩
section
variable{K:ao}{pn:Pn}{Hf Hb H:Hp}{σ:L2.St}{ρ:Env}{p:Addr}{kvs:List (Key×V)}{od:Obj}
theorem aeg(h:Hf p=some (.dK kvs)){q:Addr}{o:HO}(r:RdN Hf q o):RdN (upd Hf p (.frz od (.dK kvs))) q o:=by
 by_cases z:q=p
 ·subst z
  rcases r with r|⟨⟨od',r⟩,_⟩
  ·rw [h] at r
   cases r
   exact .inr ⟨⟨od,upd_same⟩,kvs,rfl⟩
  ·rw [h] at r
   cases r
 ·rcases r with r|⟨⟨od',r⟩,y⟩
  ·exact .inl (by rw [upd_ne z];exact r)
  ·exact .inr ⟨⟨od',by rw [upd_ne z];exact r⟩,y⟩
theorem Zu(h:Hf p=some (.dK kvs)){q:Addr}{o:HO}(hn:∀od' u,o≠ .frz od' u)(r:RdN (upd Hf p (.frz od (.dK kvs))) q o):RdN Hf q o:=by
 by_cases z:q=p
 ·subst z
  rcases r with r|⟨⟨od',r⟩,_⟩
  ·rw [upd_same] at r
   cases r
   exact absurd rfl (hn _ _)
  ·rw [upd_same] at r
   cases r
   exact .inl h
 ·rcases r with r|⟨⟨od',r⟩,y⟩
  ·exact .inl (by rw [upd_ne z] at r;exact r)
  ·exact .inr ⟨⟨od',by rw [upd_ne z] at r;exact r⟩,y⟩
theorem Ob.nofrz{o:HO}{d:D}(h:Ob K Hb o d):∀od' u,o≠ .frz od' u:=by cases h<;>exact fun _ _ z=>nomatch z
theorem abe{f:Hp→Hp}{vs:List V}{cs:List Sl}{Hx Hy:Hp}(hf:∀q d,Tt K Hb Hx q d→Tt K Hb Hy q d)(h:RN K Hb Hx vs cs):RN K Hb Hy vs cs:=by
 induction h with
 |nil=>exact .nil
 |dat a _ ih=>exact .dat a ih
 |bor a _ ih=>exact .bor (hf _ _ a) ih
 |un _ ih=>exact .un ih
theorem afa{Hx:Hp}{a:Addr}{vs:List V}{k:NK}{hp:List Addr}(h:Hx p=some (.dK kvs))(hd:U6 K Hx a vs k hp):U6 K (upd Hx p (.frz od (.dK kvs))) a vs k hp:=by
 refine hd.frame fun q hq o ho=> ?_
 rw [upd_ne (fun z=> ?_)]
 ·exact ho
 ·subst z
  rw [h] at ho
  cases ho
  cases k with
  |lst=>
   obtain⟨x1,rfl⟩:=hd
   rw [aM.mp hq,x1] at h
   cases h
  |ins c fs=>
   obtain⟨dx,x1,x2,_,rfl⟩:=hd
   rcases aO.mp hq with w|w
   ·rw [w,x1] at h
    cases h
   ·rw [aM.mp w,x2] at h
    cases h
theorem abz{Hx:Hp}{a:Addr}{vs:List V}{k:NK}{hp:List Addr}(hd:U6 K (upd Hx p (.frz od (.dK kvs))) a vs k hp):U6 K Hx a vs k hp:=by
 have key:∀q o,upd Hx p (.frz od (.dK kvs)) q=some o→(∀od' u,o≠ .frz od' u)→Hx q=some o:=fun q o ho hn=>by
  by_cases z:q=p
  ·subst z
   rw [upd_same] at ho
   cases ho
   exact absurd rfl (hn _ _)
  ·rw [upd_ne z] at ho
   exact ho
 cases k with
 |lst=>
  obtain⟨x1,x2⟩:=hd
  exact⟨key _ _ x1 (fun _ _ z=>nomatch z),x2⟩
 |ins c fs=>
  obtain⟨dx,x1,x2,x3,x4⟩:=hd
  exact⟨dx,key _ _ x1 (fun _ _ z=>nomatch z),key _ _ x2 (fun _ _ z=>nomatch z),x3,x4⟩
theorem gj.ain(R:gj K pn Hf Hb H σ ρ)(h:Hf p=some (.dK kvs))(hb:Hb p=none):gj K pn (upd Hf p (.frz od (.dK kvs))) Hb (upd H p (.frz od (.dK kvs))) σ ρ:=by
 obtain⟨F,r⟩:=R
 have np:∀i q,q∈F i→q≠p:=fun i q hq z=>by
  have:=(r.fr i q hq).1
  rw [z,h] at this
  cases this
 have ob:∀q d,Tt K Hb Hf q d→Tt K Hb (upd Hf p (.frz od (.dK kvs))) q d:=fun q d ⟨o,x1,x2⟩=>⟨o,aeg h x1,x2⟩
 refine⟨F,fun a o e=> ?_,fun a o e=> ?_,r.len,fun i s hs=> ?_,r.nd,fun i q hq=> ?_,r.dj,r.pin⟩
 ·by_cases z:a=p
  ·subst z
   rw [upd_same] at e⊢
   exact e
  ·rw [upd_ne z] at e⊢
   exact r.ef a o e
 ·rw [upd_ne (ne_of_none e hb)]
  exact r.eb a o e
 ·have z:=r.sl i s hs
  cases s with
  |bor d=>
   obtain⟨z0,v,z1,z2⟩:=z
   refine⟨z0,v,z1,?_⟩
   rcases z2 with z2|⟨q,z3,z4⟩
   ·exact .inl z2
   ·exact .inr ⟨q,z3,ob q d z4⟩
  |vP k cs=>
   obtain⟨z0,q,vs,hp,z1,z2,z3⟩:=z
   exact⟨z0,q,vs,hp,z1,afa h z2,abe (f:=id) ob z3⟩
  |un=>exact z
  |dat d=>exact z
  |own d=>exact SlO.frame (Hf:=Hf) (s:= .own d) z (Ex.refl _) fun q hq o ho=>by rw [upd_ne (np i q hq)];exact ho
  |nst k cs=>exact SlO.frame (Hf:=Hf) (s:= .nst k cs) z (Ex.refl _) fun q hq o ho=>by rw [upd_ne (np i q hq)];exact ho
  |QH k cs=>exact SlO.frame (Hf:=Hf) (s:= .QH k cs) z (Ex.refl _) fun q hq o ho=>by rw [upd_ne (np i q hq)];exact ho
 ·obtain⟨f1,f2,f3⟩:=r.fr i q hq
  rw [upd_ne (np i q hq),upd_ne (np i q hq)]
  exact⟨f1,f2,f3⟩
theorem gj.Ls(R:gj K pn (upd Hf p (.frz od (.dK kvs))) Hb H σ ρ)(h:Hf p=some (.dK kvs))(hb:Hb p=none):gj K pn Hf Hb (upd H p (.dK kvs)) σ ρ:=by
 obtain⟨F,r⟩:=R
 have np:∀i q,q∈F i→q≠p:=fun i q hq z=>by
  have:=(r.fr i q hq).1
  rw [z,upd_same] at this
  cases this
 have ob:∀q d,Tt K Hb (upd Hf p (.frz od (.dK kvs))) q d→Tt K Hb Hf q d:=fun q d ⟨o,x1,x2⟩=>⟨o,Zu h x2.nofrz x1,x2⟩
 refine⟨F,fun a o e=> ?_,fun a o e=> ?_,r.len,fun i s hs=> ?_,r.nd,fun i q hq=> ?_,r.dj,r.pin⟩
 ·by_cases z:a=p
  ·subst z
   rw [h] at e
   cases e
   exact upd_same
  ·rw [upd_ne z]
   exact r.ef a o (by rw [upd_ne z];exact e)
 ·rw [upd_ne (ne_of_none e hb)]
  exact r.eb a o e
 ·have z:=r.sl i s hs
  cases s with
  |bor d=>
   obtain⟨z0,v,z1,z2⟩:=z
   refine⟨z0,v,z1,?_⟩
   rcases z2 with z2|⟨q,z3,z4⟩
   ·exact .inl z2
   ·exact .inr ⟨q,z3,ob q d z4⟩
  |vP k cs=>
   obtain⟨z0,q,vs,hp,z1,z2,z3⟩:=z
   exact⟨z0,q,vs,hp,z1,abz z2,abe (f:=id) ob z3⟩
  |un=>exact z
  |dat d=>exact z
  |own d=>exact SlO.frame (Hf:=Hf) (s:= .own d) z (Ex.refl _) fun q hq o ho=>by rw [upd_ne (np i q hq)];exact ho
  |nst k cs=>exact SlO.frame (Hf:=Hf) (s:= .nst k cs) z (Ex.refl _) fun q hq o ho=>by rw [upd_ne (np i q hq)];exact ho
  |QH k cs=>exact SlO.frame (Hf:=Hf) (s:= .QH k cs) z (Ex.refl _) fun q hq o ho=>by rw [upd_ne (np i q hq)];exact ho
 ·obtain⟨f1,f2,f3⟩:=r.fr i q hq
  rw [upd_ne (np i q hq)] at f1
  rw [upd_ne (np i q hq)]
  exact⟨f1,f2,f3⟩
end
inductive QT where
 |v (i:Nat)|p (nk:NK) (i j:Nat)
def QT.get(ρ:Env):QT→Option (List (D×D))
 | .v i=>(match ρ[i]? with
   |some (.bor (.dict ds))=>if Ah ds=true then some ds else none
   |_=>none)
 | .p nk i j=>(match ρ[i]? with
   |some (.vP k cs)=>if k=nk then(match cs[j]? with
    |some (.bor (.dict ds))=>if Ah ds=true then some ds else none
    |_=>none) else none
   |_=>none)
def QT.te(K:ao):QT→TE
 | .v i=>tVar i
 | .p nk i j=>tCmp K nk i j
def aa6:Out→Out
 | .ex _ _=> .bad
 |r=>r
def Rz(b:QT)(g:GM)(body:SM):SM:=fun ρ=>match b.get ρ with
 |some (q::ds)=>aa6 (yE g body ((q::ds).map fun q=>bM [q.1,q.2]) ρ)
 |some []=> .nx ρ
 |none=> .bad
theorem QT.agt{ρ:Env}{b:QT}{ds:List (D×D)}(h:b.get ρ=some ds):Ah ds=true:=by
 cases b with
 |v i=>
  simp only [QT.get] at h
  repeat' split at h
  all_goals first|(cases h;assumption)|cases h
 |p nk i j=>
  simp only [QT.get] at h
  repeat' split at h
  all_goals first|(cases h;assumption)|cases h
theorem aik{K:ao}{pn:Pn}{Hf Hb H:Hp}{σ:L2.St}{ρ:Env}{b:QT}{q:D×D}{ds:List (D×D)}(R:gj K pn Hf Hb H σ ρ)(h:b.get ρ=some (q::ds)):
 ∃p kvs,(∀(H' :Hp) (Q:VK),(∀a o,H a=some o→a≠p→H' a=some o)→Q (V.ref p) H' →b.te K σ H' Q)∧PK K Hb kvs (q::ds)∧(Hf p=some (.dK kvs)∨∃o,Hf p=some (.frz o (.dK kvs))∨Hb p=some (.frz o (.dK kvs))):=by
 have hu:=QT.agt h
 have ob:∀p,Tt K Hb Hf p (.dict (q::ds))→∃kvs,PK K Hb kvs (q::ds)∧(Hf p=some (.dK kvs)∨∃o,Hf p=some (.frz o (.dK kvs))∨Hb p=some (.frz o (.dK kvs))):=fun p ⟨o,x1,x2⟩=>by
  cases x2 with
  |dT a=>cases hu
  |dK a=>
   rcases x1 with x1|⟨⟨od,x1⟩,_⟩
   ·exact⟨_,a, .inl x1⟩
   ·exact⟨_,a, .inr ⟨od, .inl x1⟩⟩
 obtain⟨F,r⟩:=R
 cases b with
 |v i=>
  simp only [QT.get] at h
  split at h
  ·rename_i ds' hs
   split at h
   ·cases h
    obtain⟨_,v,z1,z2⟩:=r.sl i _ hs
    rcases z2 with z2|⟨p,rfl,z3⟩
    ·cases z2 with
     | @Br a o kvs _ x1 x2=>exact⟨_,_,fun H' Q _ hq=>⟨_,z1,hq⟩,Lz x2, .inr ⟨_, .inr x1⟩⟩
     |Gq x1 x2=>cases hu
    ·obtain⟨kvs,k1,k2⟩:=ob p z3
     exact⟨p,kvs,fun H' Q _ hq=>⟨_,z1,hq⟩,k1,k2⟩
   ·cases h
  ·cases h
 |p nk i j=>
  simp only [QT.get] at h
  split at h
  ·rename_i k cs hs
   split at h
   ·rename_i hk
    subst hk
    split at h
    ·rename_i ds' hj
     split at h
     ·cases h
      obtain⟨_,a,vs,hp,z1,z2,z3⟩:=r.sl i _ hs
      obtain⟨p,w1,w2⟩:=z3.ahn (.inr hj)
      obtain⟨kvs,k1,k2⟩:=ob p w2
      refine⟨p,kvs,fun H' Q hh hq=>⟨a,vs,hp,_,z1,?_,w1,hq⟩,k1,k2⟩
      have hn:∀c∈hp,c≠p:=fun c hc z=>by
       subst z
       have key:∀u,Hf c=some u→(∃kvs,u= .dK kvs)∨(∃o kvs,u= .frz o (.dK kvs))→False:=fun u hu2 hz=>by
        cases k with
        |lst=>
         obtain⟨y1,rfl⟩:=z2
         rw [aM.mp hc,y1] at hu2
         cases hu2
         rcases hz with⟨_,e⟩|⟨_,_,e⟩<;>cases e
        |ins c' fs=>
         obtain⟨dx,y1,y2,_,rfl⟩:=z2
         rcases aO.mp hc with e|e
         ·rw [e,y1] at hu2
          cases hu2
          rcases hz with⟨_,e⟩|⟨_,_,e⟩<;>cases e
         ·rw [aM.mp e,y2] at hu2
          cases hu2
          rcases hz with⟨_,e⟩|⟨_,_,e⟩<;>cases e
       rcases k2 with k2|⟨o,k2|k2⟩
       ·exact key _ k2 (.inl ⟨_,rfl⟩)
       ·exact key _ k2 (.inr ⟨_,_,rfl⟩)
       ·have e1:=r.eb _ _ k2
        have:∃u,Hf c=some u:=by
         cases k with
         |lst=>
          obtain⟨y1,rfl⟩:=z2
          rw [aM.mp hc]
          exact⟨_,y1⟩
         |ins c' fs=>
          obtain⟨dx,y1,y2,_,rfl⟩:=z2
          rcases aO.mp hc with e|e
          ·rw [e]
           exact⟨_,y1⟩
          ·rw [aM.mp e]
           exact⟨_,y2⟩
        obtain⟨u,hu2⟩:=this
        have e2:=r.ef _ _ hu2
        rw [e1] at e2
        cases e2
        exact key _ hu2 (.inr ⟨_,_,rfl⟩)
      exact z2.frame fun c hc o ho=>hh c o (r.ef c o ho) (hn c hc)
     ·cases h
    ·cases h
   ·cases h
  ·cases h
mutual
theorem xr{K:ao}{Hb:Hp}{p:Addr}{q:Key×V}{kvs:List (Key×V)}(hp:Hb p=some (.dK (q::kvs))):∀{d:D} {v:V},Dr K Hb v d→Dr K (off Hb [p]) v d
 |_,_, .non=> .non
 |_,_, .bl b=> .bl b
 |_,_, .int i=> .int i
 |_,_, .str x=> .str x
 |_,_, .lst (a:=a) s r=>by
  refine .lst ?_ (xY hp r)
  rcases s with(s|⟨o,s⟩)|s
  ·exact .inl (.inl (by rw [pP (fun z=>by rw [aM.mp z,hp] at s;cases s)];exact s))
  ·exact .inl (.inr ⟨o,by rw [pP (fun z=>by rw [aM.mp z,hp] at s;cases s)];exact s⟩)
  ·exact .inr s
 |_,_, .tup s r=> .tup (by rw [pP (fun z=>by rw [aM.mp z,hp] at s;cases s)];exact s) (xY hp r)
 |_,_, .dict0 s=>by
  refine .dict0 ?_
  rcases s with s|⟨o,s⟩
  ·exact .inl (by rw [pP (fun z=>by rw [aM.mp z,hp] at s;cases s)];exact s)
  ·exact .inr ⟨o,by rw [pP (fun z=>by rw [aM.mp z,hp] at s;cases s)];exact s⟩
 |_,_, .Br s r=> .Br (by rw [pP (fun z=>by rw [aM.mp z,hp] at s;cases s)];exact s) (WW hp r)
 |_,_, .Gq s r=> .Gq (by rw [pP (fun z=>by rw [aM.mp z,hp] at s;cases s)];exact s) (Yw hp r)
theorem xY{K:ao}{Hb:Hp}{p:Addr}{q:Key×V}{kvs:List (Key×V)}(hp:Hb p=some (.dK (q::kvs))):∀{ds:List D} {vs:List V},iY K Hb vs ds→iY K (off Hb [p]) vs ds
 |_,_, .nil=> .nil
 |_,_, .cons a b=> .cons (xr hp a) (xY hp b)
theorem WW{K:ao}{Hb:Hp}{p:Addr}{q:Key×V}{kvs:List (Key×V)}(hp:Hb p=some (.dK (q::kvs))):∀{ds:List (D×D)} {ks:List (Key×V)},Qv K Hb ks ds→Qv K (off Hb [p]) ks ds
 |_,_, .nil=> .nil
 |_,_, .cons a b=> .cons (xr hp a) (WW hp b)
theorem Yw{K:ao}{Hb:Hp}{p:Addr}{q:Key×V}{kvs:List (Key×V)}(hp:Hb p=some (.dK (q::kvs))):∀{ds:List (D×D)} {ks:List (List Key×V)},T9 K Hb ks ds→T9 K (off Hb [p]) ks ds
 |_,_, .nil=> .nil
 |_,_, .cons a b=> .cons (xr hp a) (Yw hp b)
end
theorem ad4{K:ao}{Hb H:Hp}{p:Addr}{q:Key×V}{kvs:List (Key×V)}(hp:Hb p=some (.dK (q::kvs))):∀{qs:List Addr} {ls:List (List D)},IK K Hb H qs ls→IK K (off Hb [p]) H qs ls
 |_,_, .nil=> .nil
 |_,_, .cons a b c=> .cons a (xY hp b) (ad4 hp c)
section
variable{K:ao}{pn:Pn}{Hf Hb H:Hp}{σ:L2.St}{ρ:Env}{p:Addr}{q:Key×V}{kvs:List (Key×V)}
theorem Ob.off(hp:Hb p=some (.dK (q::kvs))){o:HO}{d:D}(h:Ob K Hb o d):Ob K (off Hb [p]) o d:=by
 cases h with
 |lst a=>exact .lst (xY hp a)
 |dK a=>exact .dK (Paired.imp (fun _ _ z=>⟨z.1,xr hp z.2⟩) a)
 |dT a=>exact .dT (Paired.imp (fun _ _ z=>⟨z.1,xr hp z.2⟩) a)
theorem gj.aib(R:gj K pn Hf Hb H σ ρ)(hp:Hb p=some (.dK (q::kvs))):gj K pn Hf (off Hb [p]) H σ ρ:=by
 obtain⟨F,r⟩:=R
 have cs_off:∀{vs:List V} {cs:List Sl} {fq:List Addr},vU K Hb H vs cs fq→vU K (off Hb [p]) H vs cs fq:=fun h=>by
  induction h with
  |nil=>exact .nil
  |dat a _ ih=>exact .dat (xr hp a) ih
  |own a _ ih=>exact .own (let ⟨o,x,y⟩:=a;⟨o,x,y.off hp⟩) ih
  |un _ ih=>exact .un ih
 have cb_off:∀{vs:List V} {cs:List Sl},RN K Hb Hf vs cs→RN K (off Hb [p]) Hf vs cs:=fun h=>by
  induction h with
  |nil=>exact .nil
  |dat a _ ih=>exact .dat (xr hp a) ih
  |bor a _ ih=>exact .bor (let ⟨o,x,y⟩:=a;⟨o,x,y.off hp⟩) ih
  |un _ ih=>exact .un ih
 refine⟨F,r.ef,fun a o e=>r.eb a o (Xy e).2,r.len,fun i s hs=> ?_,r.nd,fun i a ha=>⟨(r.fr i a ha).1,?_,(r.fr i a ha).2.2⟩,r.dj,r.pin⟩
 ·have z:=r.sl i s hs
  cases s with
  |un=>exact z
  |dat d=>
   obtain⟨z0,v,z1,z2⟩:=z
   exact⟨z0,v,z1,xr hp z2⟩
  |bor d=>
   obtain⟨z0,v,z1,z2⟩:=z
   refine⟨z0,v,z1,?_⟩
   rcases z2 with z2|⟨a,z3,o,z4,z5⟩
   ·exact .inl (xr hp z2)
   ·exact .inr ⟨a,z3,o,z4,z5.off hp⟩
  |own d=>
   obtain⟨a,z0,z1,o,z2,z3⟩:=z
   exact⟨a,z0,z1,o,z2,z3.off hp⟩
  |nst k cs=>
   obtain⟨v,z1,a,vs,hpp,fq,z2,z3,z4,z5⟩:=z
   exact⟨v,z1,a,vs,hpp,fq,z2,z3,cs_off z4,z5⟩
  |vP k cs=>
   obtain⟨z0,a,vs,hpp,z1,z2,z3⟩:=z
   exact⟨z0,a,vs,hpp,z1,z2,cb_off z3⟩
  |QH k cs=>
   obtain⟨a,qs,z0,z1,z2,z3,z4⟩:=z
   exact⟨a,qs,z0,z1,z2,z3,ad4 hp z4⟩
 ·unfold off
  split
  ·rfl
  ·exact(r.fr i a ha).2.1
theorem gj.aiA(R:gj K pn Hf Hb H σ ρ){o:HO}(hf:Hf p=some o)(hb:Hb p=none):gj K pn Hf (upd Hb p o) H σ ρ:=by
 obtain⟨F,r⟩:=R
 have e1:Ex Hb (upd Hb p o):=Ex.new hb
 refine⟨F,r.ef,fun a u e=> ?_,r.len,fun i s hs=>(r.sl i s hs).frame e1 fun _ _ _ z=>z,r.nd,fun i a ha=>⟨(r.fr i a ha).1,?_,(r.fr i a ha).2.2⟩,r.dj,r.pin⟩
 ·by_cases z:a=p
  ·subst z
   rw [upd_same] at e
   cases e
   exact r.ef _ _ hf
  ·rw [upd_ne z] at e
   exact r.eb a u e
 ·rw [upd_ne (fun z=> ?_)]
  ·exact(r.fr i a ha).2.1
  ·have:=(r.fr i a ha).1
   rw [z,hf] at this
   cases this
end
theorem ahO{X:Cx}{st:Stmt}{t t' :TS}(h:PS X st t)(h' :PS X st t'):PS X st (fun D σ H=>t D σ H∨t' D σ H):=⟨fun pins s σ H D I q=>by
 rcases q with q|q
 ·exact h.run pins s σ H D I q
 ·exact h'.run pins s σ H D I q⟩
section
variable{X:Cx}{W:WQ}{rk:Kd}{pos:Pos}{g:GM}{mb:SM}{body:List Stmt}{tg e it:Expr}
theorem abh{K:ao}{Hf Hb H:Hp}{p:Addr}{u:HO}{od:Obj}{v:V}{d:D}(hk:rk= .dat∨rk= .new)(hH:H p=some (.frz od u))(r:Rs K rk (upd Hf p (.frz od u)) Hb H v d)(hf:Hf p=some u):Rs K rk Hf Hb (upd H p u) v d:=by
 rcases hk with rfl|rfl
 ·exact r
 ·obtain⟨q,e,h1,h2,o,h3,h4⟩:=r
  have z:q≠p:=fun z=>by
   rw [z,upd_same] at h1
   cases h1
  rw [upd_ne z] at h1
  exact⟨q,e,h1,h2,o,by rw [upd_ne z];exact h3,h4⟩
theorem acA{b:QT}{f:D×D→D}{ti:TI}{Jf:Addr→Obj→List (Key×V)→It}(hk:rk= .dat∨rk= .new)(hti:∀σ H (R:It→Hp→Prop) p o kvs,(∀Q,Q (V.ref p) H→b.te X.K σ H Q)→H p=some (.frz o (.dK kvs))→R (Jf p o kvs) H→ti σ H R)
 (hY:∀(Hf Hb1:Hp) p o kvs ds,(Hf p=some (.frz o (.dK kvs))∨Hb1 p=some (.frz o (.dK kvs)))→PK X.K Hb1 kvs ds→YlF X.K Hf Hb1 (Jf p o kvs) (ds.map f)) {E:Ends} {σ:L2.St} {H:Hp} {q:D×D} {ds:List (D×D)} {Hf Hb:Hp} {ρ:Env} (R:gj X.K W.pin Hf Hb H σ ρ) (hb:b.get ρ=some (q::ds)) (h:kY X.K W rk Hf Hb H E (aa6 (yE g mb ((q::ds).map f) ρ))):
 tLock (tFor ti (gOf X.K W.pin g) (sOf X.K W rk mb)) E σ H∨tFor ti (gOf X.K W.pin g) (sOf X.K W rk mb) E σ H:=by
 have hnx:∀c ρ',yE g mb ((q::ds).map f) ρ≠ .ex c ρ' :=fun c ρ' z=>by
  rw [z] at h
  exact h
 have hsh:aa6 (yE g mb ((q::ds).map f) ρ)=yE g mb ((q::ds).map f) ρ:=by
  cases q2:yE g mb ((q::ds).map f) ρ with
  |ex c ρ' =>exact absurd q2 (hnx _ _)
  |_=>rfl
 rw [hsh] at h
 obtain⟨p,kvs,t1,pk,hp⟩:=aik R hb
 rcases hp with hp|⟨o,hp⟩
 ·--it is locked
  left
  have hH:H p=some (.dK kvs):=R.ef _ _ hp
  refine⟨p, .dK kvs,hH,True.intro,fun od=> ?_⟩
  have main:∀(Hb0:Hp),Hb0 p=none→gj X.K W.pin Hf Hb0 H σ ρ→PK X.K Hb0 kvs (q::ds)→(∀Hb' H',Bw (upd Hf p (.frz od (.dK kvs))) Hb0 Hb' H' →Hb' p=none→Ex (upd Hf p (.frz od (.dK kvs))) H' →∃Hb2,Ex Hb' Hb2∧(∀a,a≠p→Hb2 a=Hb' a)∧Bw Hf Hb Hb2 (upd H' p (.dK kvs))∧∀σ' ρ',gj X.K W.pin Hf Hb' (upd H' p (.dK kvs)) σ' ρ' →gj X.K W.pin Hf Hb2 (upd H' p (.dK kvs)) σ' ρ')→
   tFor ti (gOf X.K W.pin g) (sOf X.K W rk mb) ⟨fun σ' H' =>H' p=some (.frz od (.dK kvs))∧E.nx σ' (upd H' p (.dK kvs)),fun v H' =>H' p=some (.frz od (.dK kvs))∧E.rt v (upd H' p (.dK kvs)),fun σ' H' =>H' p=some (.frz od (.dK kvs))∧E.bk σ' (upd H' p (.dK kvs)),fun σ' H' =>H' p=some (.frz od (.dK kvs))∧E.ct σ' (upd H' p (.dK kvs))⟩ σ (upd H p (.frz od (.dK kvs))):=by
   intro Hb0 hb0 R0 pk0 back
   have R1:=R0.ain (od:=od) hp hb0
   refine hti σ _ _ p od kvs (fun Q hQ=>t1 _ Q (fun a o ho z=>by rw [upd_ne z];exact ho) hQ) upd_same ?_
   refine XD R1 (hY _ _ p od kvs _ (.inl upd_same) pk0) ?_
   have hbn:∀Hb' H',Bw (upd Hf p (.frz od (.dK kvs))) Hb0 Hb' H' →Hb' p=none:=fun Hb' H' b=>b.nw p hb0 (by rw [upd_same];exact True.intro)
   cases qf:yE g mb ((q::ds).map f) ρ with
   |nx ρ' =>
    rw [qf] at h
    intro σ' Hb' H' R' b'
    obtain⟨Hb2,x1,x0,x2,x3⟩:=back Hb' H' b' (hbn _ _ b') R'.ef
    exact⟨R'.ef _ _ upd_same,h σ' Hb2 _ (x3 σ' ρ' (R'.Ls hp (hbn _ _ b'))) x2⟩
   |bk ρ' =>
    rw [qf] at h
    intro σ' Hb' H' R' b'
    obtain⟨Hb2,x1,x0,x2,x3⟩:=back Hb' H' b' (hbn _ _ b') R'.ef
    exact⟨R'.ef _ _ upd_same,h σ' Hb2 _ (x3 σ' ρ' (R'.Ls hp (hbn _ _ b'))) x2⟩
   |ct ρ' =>
    rw [qf] at h
    intro σ' Hb' H' R' b'
    obtain⟨Hb2,x1,x0,x2,x3⟩:=back Hb' H' b' (hbn _ _ b') R'.ef
    exact⟨R'.ef _ _ upd_same,h σ' Hb2 _ (x3 σ' ρ' (R'.Ls hp (hbn _ _ b'))) x2⟩
   |rx d ρ' =>
    rw [qf] at h
    intro v σ' Hb' H' R' b' r'
    obtain⟨Hb2,x1,x0,x2,x3⟩:=back Hb' H' b' (hbn _ _ b') R'.ef
    exact⟨R'.ef _ _ upd_same,h v σ' Hb2 _ (x3 σ' ρ' (R'.Ls hp (hbn _ _ b'))) x2 (lG x1 r')⟩
   |rt d=>
    rw [qf] at h
    intro v Hb' H' e' b' r'
    obtain⟨Hb2,x1,x0,x2,x3⟩:=back Hb' H' b' (hbn _ _ b') e'
    refine⟨e' _ _ upd_same,h v Hb2 _ (fun a o ho=> ?_) x2 ?_⟩
    ·by_cases z:a=p
     ·subst z
      rw [hp] at ho
      cases ho
      exact upd_same
     ·rw [upd_ne z]
      exact e' a o (by rw [upd_ne z];exact ho)
    ·have r2:=abh hk (e' _ _ upd_same) r' hp
     rcases hk with rfl|rfl
     ·exact lG x1 r2
     ·obtain⟨a,e1,k1,k2,k3⟩:=r2
      have ap:a≠p:=fun z=>by
       rw [z,hp] at k1
       cases k1
      exact⟨a,e1,k1,by rw [x0 a ap];exact k2,k3.ex x1 (Ex.refl _)⟩
   |ex c ρ' =>exact absurd qf (hnx _ _)
   |bad=>
    rw [qf] at h
    exact h
  cases qb:Hb p with
  |none=>
   refine main Hb qb R pk fun Hb' H' b' hn e' =>⟨Hb',Ex.refl _,fun _ _=>rfl,⟨b'.b,fun a o ho=> ?_,fun a z1 z2=>b'.nw a z1 ?_⟩,fun σ' ρ' r=>r⟩
   ·rw [upd_ne (ne_of_none ho hn)]
    exact b'.bh a o ho
   ·by_cases z:a=p
    ·rw [z,upd_same]
     exact True.intro
    ·rw [upd_ne z]
     exact z2
  |some o=>
   have eo:=R.eb _ _ qb
   rw [hH] at eo
   cases eo
   cases pk with
   | @cons q0 _ kvs' _ pa pb=>
     have qb' :=qb
     have pk:PK X.K Hb (q0::kvs') (q::ds):= .cons pa pb
     refine main (off Hb [p]) (by simp [off]) (R.aib qb') (Paired.imp (fun _ _ z=>⟨z.1,xr qb' z.2⟩) pk) fun Hb' H' b' hn e' =>⟨upd Hb' p (.dK (q0::kvs')),Ex.new hn,fun a z=>upd_ne z,⟨fun a o ho=> ?_,fun a o ho=> ?_,fun a z1 z2=> ?_⟩,fun σ' ρ' r=>r.aiA hp hn⟩
     ·by_cases z:a=p
      ·subst z
       rw [qb'] at ho
       cases ho
       exact upd_same
      ·rw [upd_ne z]
       exact b'.b a o (by rw [pP (fun w=>z (aM.mp w))];exact ho)
     ·by_cases z:a=p
      ·subst z
       rw [upd_same] at ho⊢
       exact ho
      ·rw [upd_ne z] at ho⊢
       exact b'.bh a o ho
     ·have z:a≠p:=fun z=>by
       rw [z,qb'] at z1
       cases z1
      rw [upd_ne z]
      exact b'.nw a (by rw [pP (fun w=>z (aM.mp w))];exact z1) (by rw [upd_ne z];exact z2)
 ·right
  have hH:H p=some (.frz o (.dK kvs)):=by
   rcases hp with hp|hp
   ·exact R.ef _ _ hp
   ·exact R.eb _ _ hp
  refine hti σ H _ p o kvs (fun Q hQ=>t1 H Q (fun a o ho _=>ho) hQ) hH ?_
  exact XD R (hY _ _ p o kvs _ hp pk) h
theorem aha{K:ao}{pn:Pn}{Hf Hb H:Hp}{σ:L2.St}{ρ:Env}{b:QT}(R:gj K pn Hf Hb H σ ρ)(h:b.get ρ=some []):
 ∃p,(∀(H' :Hp) (Q:VK),(∀a o,H a=some o→a≠p→H' a=some o)→Q (V.ref p) H' →b.te K σ H' Q)∧Rd H p (.dK []):=by
 have ob:∀p,Tt K Hb Hf p (.dict [])→Rd Hf p (.dK []):=fun p ⟨o,x1,x2⟩=>by
  cases x2 with
  |dK a=>
   cases a
   exact x1.rd
 obtain⟨F,r⟩:=R
 cases b with
 |v i=>
  simp only [QT.get] at h
  split at h
  ·rename_i ds' hs
   split at h
   ·cases h
    obtain⟨_,v,z1,z2⟩:=r.sl i _ hs
    rcases z2 with z2|⟨p,rfl,z3⟩
    ·cases z2 with
     |dict0 x=>exact⟨_,fun H' Q _ hq=>⟨_,z1,hq⟩,ex_rd r.eb x⟩
     |Br x1 x2=>
      cases x2
      exact⟨_,fun H' Q _ hq=>⟨_,z1,hq⟩, .inr ⟨_,r.eb _ _ x1⟩⟩
    ·exact⟨p,fun H' Q _ hq=>⟨_,z1,hq⟩,ex_rd r.ef (ob p z3)⟩
   ·cases h
  ·cases h
 |p nk i j=>
  simp only [QT.get] at h
  split at h
  ·rename_i k cs hs
   split at h
   ·rename_i hk
    subst hk
    split at h
    ·rename_i ds' hj
     split at h
     ·cases h
      obtain⟨_,a,vs,hp,z1,z2,z3⟩:=r.sl i _ hs
      obtain⟨p,w1,w2⟩:=z3.ahn (.inr hj)
      have hr:=ob p w2
      refine⟨p,fun H' Q hh hq=>⟨a,vs,hp,_,z1,?_,w1,hq⟩,ex_rd r.ef hr⟩
      have hn:∀c∈hp,c≠p:=fun c hc z=>by
       subst z
       cases k with
       |lst=>
        obtain⟨y1,rfl⟩:=z2
        rw [aM.mp hc] at hr
        rcases hr with hr|⟨o,hr⟩<;>(rw [y1] at hr;cases hr)
       |ins c' fs=>
        obtain⟨dx,y1,y2,_,rfl⟩:=z2
        rcases aO.mp hc with e|e
        ·rw [e] at hr
         rcases hr with hr|⟨o,hr⟩<;>(rw [y1] at hr;cases hr)
        ·rw [aM.mp e] at hr
         rcases hr with hr|⟨o,hr⟩<;>(rw [y2] at hr;cases hr)
      exact z2.frame fun c hc o ho=>hh c o (r.ef c o ho) (hn c hc)
     ·cases h
    ·cases h
   ·cases h
  ·cases h
theorem abD{b:QT}{ti:TI}{Jf:Addr→Obj→List (Key×V)→It}(hti:∀σ H (R:It→Hp→Prop) p o kvs,(∀Q,Q (V.ref p) H→b.te X.K σ H Q)→H p=some (.frz o (.dK kvs))→R (Jf p o kvs) H→ti σ H R)
 (hst:∀p o (H:Hp),H p=some (.frz o (.dK []))→(Jf p o []).stop 0 H) {E:Ends} {σ:L2.St} {H:Hp} {Hf Hb:Hp} {ρ:Env} (R:gj X.K W.pin Hf Hb H σ ρ) (hb:b.get ρ=some []) (h:E.nx σ H) {gt:TG} {bt:TS}:
 tLock (tFor ti gt bt) E σ H∨tFor ti gt bt E σ H:=by
 obtain⟨p,t1,hp⟩:=aha R hb
 rcases hp with hp|⟨o,hp⟩
 ·left
  refine⟨p, .dK [],hp,True.intro,fun od=>hti σ _ _ p od [] (fun Q hQ=>t1 _ Q (fun a o ho z=>by rw [upd_ne z];exact ho) hQ) upd_same ?_⟩
  have e:upd (upd H p (.frz od (.dK []))) p (.dK [])=H:=by
   funext a
   by_cases z:a=p
   ·rw [z,upd_same,hp]
   ·rw [upd_ne z,upd_ne z]
  refine⟨fun i m σ' H' =>i=0∧σ' =σ∧H' =upd H p (.frz od (.dK [])),⟨0,rfl,rfl,rfl⟩,?_⟩
  rintro i m σ' H' ⟨rfl,rfl,rfl⟩
  exact .inl ⟨hst p od _ upd_same,upd_same,by rw [e];exact h⟩
 ·right
  refine hti σ _ _ p o [] (fun Q hQ=>t1 _ Q (fun a o ho z=>ho) hQ) hp ?_
  refine⟨fun i m σ' H' =>i=0∧σ' =σ∧H' =H,⟨0,rfl,rfl,rfl⟩,?_⟩
  rintro i m σ' H' ⟨rfl,rfl,rfl⟩
  exact .inl ⟨hst p o _ hp,h⟩
theorem ae9{elts:List Expr}{kk:Nat}{tpos apos cpos:Pos}(b:QT)(hp:PassesOwn (model X.prog X.w) X.A X.env X.xe)(hb:PE X e (b.te X.K))(hg:DG X W (.Tuple elts kk tpos) g)(hbd:WD X W rk body mb)(hk:rk= .dat∨rk= .new:=by first|exact .inl rfl|exact .inr rfl)(hc:X.calm=true:=by rfl)
 (hbase:attributeBase e "items" X.env (eval e X.env)=eval e X.env:=by rfl) (hline:(apos.endLine==cpos.line)=true:=by rfl) (hs:∀x,foldedSetIterable (.Call (.Attribute e "items" apos) [] [] cpos) X.env x=pure x:=by intro _;rfl):DS X W rk (.For (.Tuple elts kk tpos) (.Call (.Attribute e "items" apos) [] [] cpos) body [] pos) (Rz b g mb):=by
 have h1:=ps_for (pos:=pos) hp hc (pi_items (elts:=elts) (kk:=kk) (tpos:=tpos) hb hbase hline) hg hbd hs
 refine PS.imp (ahO (ps_lock h1) h1) fun E σ H ⟨Hf,Hb,ρ,R,h⟩=> ?_
 have hti:∀σ H (R:It→Hp→Prop) p o kvs,(∀Q,Q (V.ref p) H→b.te X.K σ H Q)→H p=some (.frz o (.dK kvs))→R (Iti p o kvs) H→iItems (b.te X.K) σ H R:=fun σ H R p o kvs t hp hR=>t _ ⟨p,o,kvs,rfl,hp,hR⟩
 unfold Rz at h
 cases q:b.get ρ with
 |none=>
  rw [q] at h
  exact h.elim
 |some ds=>
  rw [q] at h
  cases ds with
  |nil=>exact abD hti (fun p o H hH=>⟨hH,bD _⟩) R q (h σ Hb H R (Bw.refl R.eb))
  |cons a ds=>exact acA (f:=fun q=>bM [q.1,q.2]) hk hti (fun _ _ _ _ _ _ hp pk=>abw hp pk) R q h
end
end DL
set_option maxHeartbeats 2000000
namespace DL
open PySem PySem.Spec L2 Evl PyProof.Rows
def afd(td:TE):TE:=fun σ H Q=>td σ H fun x H1=>∃(a:Addr) (kvs:List (Key×V)) (ks:List Str),x= .ref a∧Rd H1 a (.dK kvs)∧kvs.map (·.1)=ks.map Sum.inr∧ks.length<64∧
 ∀(ys:List Str) (p:Addr),ys.Perm ks→sortedS ys=true→H1 p=none→Q (.ref p) (upd H1 p (.lst (ys.map V.str)))
theorem TF{X:Cx}{e:Expr}{td:TE}{p pos apos cpos:Pos}(hc:X.calm=true)(hg:Gl X "sorted")(hm:X.mg "sorted"=none)(he:PE X e td)(hbase:attributeBase e "keys" X.env (eval e X.env)=eval e X.env:=by rfl)
 (hline:(apos.endLine==cpos.line)=true:=by rfl) (na:starEach [.Call (.Attribute e "keys" apos) [] [] cpos] X.env=(false,eval (.Call (.Attribute e "keys" apos) [] [] cpos) X.env)::starEach [] X.env:=by rfl)
 (hpl:(backTo pos (starEach [] X.env)).any (·.1)=false:=by rfl):
 PE X (.Call (.Name "sorted" p) [.Call (.Attribute e "keys" apos) [] [] cpos] [] pos) (afd td):=by
 refine⟨fun pins s σ H Q I h=> ?_⟩
 refine Call_ (ld_blt I hg hm (show bootBuiltins "sorted"=some (.builtin "sorted") by decide+kernel) (PyProof.Rows.callWith_builtin1 (args_cons ?_ na) na hpl))
 refine wpAny_Call_method (T:="dict") (id:="dict.keys") hbase rfl hline F.plainAttrs_dict F.slot_dict_keys F.type_dict_keys (thn (he.run pins s σ H _ I h) fun u s1 ⟨x,H1,I1,rx,d,kvs,ks,ex,hd,hks,h64,q⟩=> ?_)
 subst ex
 obtain rfl:u=Value.ref d:=rx
 obtain⟨z,lo,vs,rel,dd⟩:=dk_rd I1.hok hd
 refine⟨dd.typeIs,dd.mapOf.noDict,?_⟩
 show wpAny _ _ (callWith cpos (.builtin "dict.keys") [.ref d] [] []) _ X.xe s1
 refine method_meetsIn F.slot_dict_keys F.entry_dict_keys rfl (PySem.evalArgs_none ⟨rfl,dd.typeIs,F.args_dict_keys_1 _,_,PySem.W.kdl_meets_keys (mixKind X.prog X.w) d lo,⟨vs,dd⟩,args_nil ?_⟩)
 have I2:Inv X pins σ H1 {s1 with heap:=s1.heap.push {cls:= .type "dict_keys",data:= .fields #[.ref d]}}:=I1.kept (t' :=s1.toks) fun b ob q=>Heap.get?_push_of_some _ q
 have hv:PySem.W.KdlKeysView (s1.heap.push {cls:= .type "dict_keys",data:= .fields #[.ref d]}) s1.heap.objs.size d:=⟨_,Heap.get?_push_size _ rfl,rfl,rfl⟩
 obtain⟨z2,lo2,vs2,rel2,dd2⟩:=dk_rd I2.hok hd
 obtain⟨ep,hat⟩:=dd2.dictAt
 have hkeys:vs2.map (·.1)=ks.map Sum.inr:=rel2.keys.symm.trans hks
 have hl:vs2.length=ks.length:=by
  have e:=congrArg List.length hkeys
  rw [aC,aC] at e
  exact e
 have hl2:kvs.length=vs2.length:=rel2.length
 have h16:vs2.length≤sizeLine:=by rw [←hl2];exact z2
 refine Calls.call_function_entry PyProof.Rows.kind_sorted PyProof.Rows.plain_sorted PyProof.Rows.entry_sorted (PyProof.Rows.args_sorted1 _) ?_
 unfold Builtin.«sorted»
 refine wpAny_bind (m:=checkCount "sorted" 1 1 _) (wpAny_pure ?_)
 refine wpAny_bind (PySem.W.kdu_collect (A:=X.A.in1) (PySem.W.kdl_keys (knd:=mixKind X.prog X.w) (kvs:=vs2) (ep:=ep) (r:=s1.heap.objs.size) (d:=d)) (I2.ok.hd hc) ⟨hv,hat⟩ h16 fun h' tk acc hk hacc=> ?_)
 have hal:acc.toList.length=ks.length:=by rw [Array.length_toList,hacc.1,hl]
 have hS:StrsAre acc.toList ks:=strs_at hal fun j v e=>by
  obtain⟨k,x,e1,e2⟩:=hacc.2 j v (by rw [←Array.getElem?_toList];exact e)
  have e3:(vs2.map (·.1))[j]? =some k:=by rw [aF,e1];all_goals rfl
  rw [hkeys,aF] at e3
  cases e4:ks[j]? with
  |none=>rw [e4] at e3;cases e3
  |some y=>
   rw [e4] at e3
   have e5:Sum.inr y=k:=Option.some.inj e3
   subst e5
   obtain⟨t,ev⟩:=Value.isStrOf_shape (x:=y) (v:=v) e2
   exact⟨y,t,rfl,ev⟩
 have I3:Inv X pins σ H1 {s1 with heap:=h',toks:=tk}:=I2.kept (t' :=tk) hk
 refine wpAny_bind (wpAny_newList ?_ (by rw [hal,sizeLine_eq];omega))
 have hoL:(h'.push (seqObj "list" acc.toList.toArray 0)).get? h'.objs.size=some (seqObj "list" acc.toList.toArray 0):=Heap.get?_push_size _ rfl
 show wpAny _ _ _ _ _ {s1 with heap:=h'.push (seqObj "list" acc.toList.toArray 0),toks:=tk}
 refine wpAny_bind (wpAny_holding (wpAny_call_entry PyProof.Rows.slot_list_sort ⟨_,hoL,rfl⟩ PyProof.Rows.entry_list_sort
  (list_sort_treeK strKind_oneLt (s:={s1 with heap:=h'.push (seqObj "list" acc.toList.toArray 0),toks:=tk}) hoL hS.keysOf (fun v₁ v₂ rest e=>keyKind_strs (by rw [←e];exact hS)) (by rw [hal];exact h64) fun st' hp hs=>⟨_,rfl,?_⟩)
  (PyProof.Rows.args_list_sort _)))
 obtain⟨ys,g1,g2,g3⟩:=sorted_out_str hS hp hs
 obtain⟨e',he'⟩:=PyProof.Rows.sortedHeap_at (vs:=acc.toList) (out:=(arrOf st').map (·.2)) hoL
 have hlen:(ys.map V.str).length≤sizeLine:=by
  rw [aC,g2.length_eq]
  exact bJ (Nat.le_of_lt h64) (by decide)
 refine wpAny_pure ⟨_,rfl, .ref h'.objs.size,upd H1 h'.objs.size (.lst (ys.map V.str)),I3.laid (t' :=tk) (fun b u e=> ?_) (bD _)
  (show ObjOk X.prog X.w _ _ _ (.lst (ys.map V.str)) from⟨hlen,((arrOf st').map (·.2)).toList,e',vals_of_strs g1,by rw [Array.toArray_toList];exact he'⟩),rfl,q ys _ g2 g3 (I3.hok.fresh (bD _))⟩
 have hb:b<h'.objs.size:=Heap.lt_size e
 rw [PyProof.Rows.sortedHeap_old (Nat.ne_of_lt hb) (by rw [size_push'];exact Nat.lt_succ_of_lt hb)]
 exact Heap.get?_push_of_some _ e
def Ut(a b:Str):Bool:= !ltCps b.cps.toList a.cps.toList
theorem zE{a b:Str}:Ut a b=true↔a.cps.toList≤b.cps.toList:=by
 unfold Ut
 rw [ltCps_eq,Bool.not_eq_true',decide_eq_false_iff_not]
 exact List.not_lt
theorem Rf{a b c:Str}(h1:Ut a b=true)(h2:Ut b c=true):Ut a c=true:=zE.mpr (List.le_trans (zE.mp h1) (zE.mp h2))
theorem RX(a b:Str):Ut a b=true∨Ut b a=true:=by
 rcases List.le_total a.cps.toList b.cps.toList with h|h
 ·exact .inl (zE.mpr h)
 ·exact .inr (zE.mpr h)
theorem acK{a b:Str}(h1:Ut a b=true)(h2:Ut b a=true):a=b:=Str.ext' (Array.toList_inj.mp (List.le_antisymm (zE.mp h1) (zE.mp h2)))
theorem JC:∀(l:List Str) (p:Str),risingS p l=true→(p::l).Pairwise fun a b=>Ut a b=true
 |[],p,_=>List.pairwise_singleton _ _
 |x::r,p,h=>by
  have h:(!ltCps x.cps.toList p.cps.toList&&risingS x r)=true:=h
  obtain⟨h1,h2⟩:=dI.mp h
  have ih:=JC r x h2
  refine dG.mpr ⟨fun y hy=> ?_,ih⟩
  rcases aO.mp hy with rfl|hy
  ·exact h1
  ·exact Rf (b:=x) h1 ((dG.mp ih).1 y hy)
theorem V9{l:List Str}(h:sortedS l=true):l.Pairwise fun a b=>Ut a b=true:=by
 cases l with
 |nil=>exact .nil
 |cons x r=>exact JC r x h
theorem WL:∀{l m:List Str},l.Perm m→(l.Pairwise fun a b=>Ut a b=true)→(m.Pairwise fun a b=>Ut a b=true)→l=m
 |[],m,h,_,_=>(List.Perm.nil_eq h)
 |a::l,[],h,_,_=>by have:=h.length_eq;simp at this
 |a::l,b::m,h,h1,h2=>by
  obtain⟨p1,q1⟩:=dG.mp h1
  obtain⟨p2,q2⟩:=dG.mp h2
  have rf:∀x:Str,Ut x x=true:=fun x=>(RX x x).elim id id
  have ab:a=b:=by
   have ha:a∈b::m:=h.mem_iff.mp aY
   have hb:b∈a::l:=h.mem_iff.mpr aY
   have x1:Ut b a=true:=by
    rcases aO.mp ha with e|e
    ·rw [e]
     exact rf b
    ·exact p2 a e
   have x2:Ut a b=true:=by
    rcases aO.mp hb with e|e
    ·rw [e]
     exact rf a
    ·exact p1 b e
   exact acK x2 x1
  subst ab
  rw [WL (List.Perm.cons_inv h) q1 q2]
def Uc(ks:List Str):List Str:=ks.mergeSort Ut
theorem Tj(ks:List Str):(Uc ks).Perm ks:=List.mergeSort_perm ks Ut
theorem Xg(ks:List Str):(Uc ks).Pairwise fun a b=>Ut a b=true:=List.pairwise_mergeSort (fun a b c=>Rf (a:=a) (b:=b) (c:=c)) (fun a b=>Bool.or_eq_true_iff.mpr (RX a b)) ks
theorem afc{ys ks:List Str}(h:ys.Perm ks)(hs:sortedS ys=true):ys=Uc ks:=WL (h.trans (Tj ks).symm) (V9 hs) (Xg ks)
def strKeys:List (D×D)→Option (List Str)
 |[]=>some []
 |(.str x,_)::r=>(strKeys r).map (x::·)
 |_::_=>none
def pH:D→ER
 | .dict ds=>(match strKeys ds with
   |some ks=>if ks.length<64 then .ok (.list ((Uc ks).map aV)) else .bad
   |none=> .bad)
 |_=> .bad
theorem VG{K:ao}{Hb:Hp}:∀{kvs:List (Key×V)} {ds:List (D×D)} {ks:List Str},PK K Hb kvs ds→strKeys ds=some ks→kvs.map (·.1)=ks.map Sum.inr
 |_,_,_, .nil,h=>by
  cases h
  rfl
 |_,_,_, .cons (a:=(k,v)) (b:=(x,y)) h r,hk=>by
  obtain⟨h1,h2⟩:=h
  have h1:x=keyD k:=h1
  cases x with
  |str z=>
   simp only [strKeys,aJ] at hk
   obtain⟨ks,hk1,rfl⟩:=hk
   cases k with
   |inl i=>cases h1
   |inr w=>
    cases h1
    rw [bf,bf,VG r hk1]
  |_=>cases hk
section
variable{X:Cx}{W:WQ}{e:Expr}{m:EM}{p pos apos cpos:Pos}
theorem Jl(hm:X.mg "sorted"=none)(h:DE X W .bor e m)(hc:X.calm=true:=by rfl)(hg:Gl X "sorted":=by rfl)(hbase:attributeBase e "keys" X.env (eval e X.env)=eval e X.env:=by rfl)
 (hline:(apos.endLine==cpos.line)=true:=by rfl) (na:starEach [.Call (.Attribute e "keys" apos) [] [] cpos] X.env=(false,eval (.Call (.Attribute e "keys" apos) [] [] cpos) X.env)::starEach [] X.env:=by rfl)
 (hpl:(backTo pos (starEach [] X.env)).any (·.1)=false:=by rfl):DE X W .new (.Call (.Name "sorted" p) [.Call (.Attribute e "keys" apos) [] [] cpos] [] pos) (Eo pH m):=
 PE.imp (TF hc hg hm h hbase hline na hpl) fun σ H Q ⟨Hf,Hb,ρ,R,h1,h2,h3⟩=>by
  refine⟨Hf,Hb,ρ,R,fun d hd v Hb1 H1 g1 r1=> ?_,fun c hc Hb1 H1 g1=>h2 c (by simp [Eo,hc,ER.bind]) Hb1 H1 g1,fun z=>h3 (by simp [Eo,z,ER.bind])⟩
  cases d with
  |dict ds=>
   cases hk:strKeys ds with
   |none=>exact absurd (by simp [Eo,hd,ER.bind,pH,hk]) h3
   |some ks=>
    by_cases h64:ks.length<64
    ·have hm:Ah ds=true:=by
      cases ds with
      |nil=>rfl
      |cons q ds=>
       obtain⟨k,v⟩:=q
       cases k<;>first|rfl|simp [strKeys] at hk
     obtain⟨a,kvs,rfl,hd1,pk⟩:=Bo.dict g1.bh r1 hm
     refine⟨a,kvs,ks,rfl,hd1,VG pk hk,h64,fun ys q py sy hq=> ?_⟩
     have z:=Gw.abX (K:=X.K) (xs:=(Uc ks).map V.str) g1.bh hq (En (Uc ks))
     rw [afc py sy]
     exact h1 (.list ((Uc ks).map aV)) (by simp [Eo,hd,ER.bind,pH,hk,h64]) _ _ _ (g1.trans z.1) (z.2.back g1.h)
    ·exact absurd (by simp [Eo,hd,ER.bind,pH,hk,h64]) h3
  |_=>exact absurd (by simp [Eo,hd,ER.bind,pH]) h3
end
end DL
set_option maxHeartbeats 2000000
namespace DL
open PySem PySem.Spec L2 Evl PyProof.Rows
def ajc(K:ao)(W:WQ)(ms:List EM):TA:=fun σ H Q=>∃(Hf Hb:Hp) (ρ:Env),gj K W.pin Hf Hb H σ ρ∧
 (∀ds,m7 ms ρ= .ok ds→∀vs fp Hb' H',Gw Hb H Hb' H' →vU K Hb' H' vs (ds.map Sl.own) fp→fp.Nodup→(∀a∈fp,H a=none∧Hb' a=none)→Q vs H')∧
 (∀c,m7 ms ρ= .ex c→∀Hb' H',Gw Hb H Hb' H' →W.w (.ref (He.ga K c)) none σ H')∧m7 ms ρ≠ .bad
abbrev DNs(X:Cx)(W:WQ)(es:List Expr)(ms:List EM):Prop:=PA X es (ajc X.K W ms)
def ahf(i:Nat)(ms:List EM):SM:=fun ρ=>match m7 ms ρ with
 | .ok ds=>if ds.length≤sizeLine then .nx (ρ.set i (.nst .lst (ds.map Sl.own))) else .bad
 | .ex c=> .ex c ρ
 | .bad=> .bad
section
variable{X:Cx}{W:WQ}{rk:Kd}{e:Expr}{es:List Expr}{m:EM}{ms:List EM}{pos pos' lpos:Pos}
theorem aeB:DNs X W [] []:=PA.imp pa_nil fun σ H Q ⟨Hf,Hb,ρ,R,h1,_,_⟩=>h1 [] rfl [] [] Hb H (Gw.refl R.eb) .nil cH fun a ha=>by cases ha
theorem NZ(h:DE X W .new e m)(hr:DNs X W es ms)(hp:starEach (e::es) X.env=(false,eval e X.env)::starEach es X.env:=by rfl):DNs X W (e::es) (m::ms):=PA.imp (pa_cons h hr hp) fun σ H Q ⟨Hf,Hb,ρ,R,h1,h2,h3⟩=>by
 refine⟨Hf,Hb,ρ,R,fun d hd v Hb1 H1 g1 r1=> ?_,fun c hc=>h2 c (by simp [m7,hc]),fun z=>h3 (by simp [m7,z])⟩
 obtain⟨p,rfl,p1,p2,p3⟩:=r1
 have pn:NT (H1 p):=p3.nt
 refine⟨Hf,Hb1,ρ,R.gw g1,fun ds hds vs fp Hb2 H2 g2 cr nd fr=> ?_,fun c hc Hb2 H2 g2=>h2 c (by simp [m7,hd,hc]) Hb2 H2 (g1.trans g2),fun z=>h3 (by simp [m7,hd,z])⟩
 refine h1 (d::ds) (by simp [m7,hd,hds]) (.ref p::vs) (p::fp) Hb2 H2 (g1.trans g2) (.own (p3.ex g2.b g2.h) cr) (bR.mpr ⟨fun z=> ?_,nd⟩) fun a ha=> ?_
 ·have:=(fr p z).1
  rw [this] at pn
  exact pn
 ·rcases aO.mp ha with z|z
  ·rw [z]
   exact⟨p1,g2.nw p p2 pn⟩
  ·exact⟨fresh_back g1.h (fr a z).1,(fr a z).2⟩
theorem agD{i:Nat}{x:Str}(hN:X.N.Nodup)(h:DNs X W es ms)(hi:X.N[i]? =some x:=by rfl)(hx:Loc X.env.scope x:=by first|exact Or.inl rfl|exact Or.inr rfl)(hs:swapsWith (.List es lpos) (some (.Name x pos')) pos.line X.env=pure false:=by rfl)
 (hf:X.fn x=true∨X.env.scope.names.lookup x=some .local:=by first|exact .inl rfl|exact .inr rfl|assumption) (ho:xM W.pin i:=by intro _ z;first|(cases z;done)|exact absurd (dO z).1 (by decide)|(simp at z;done)):DS X W rk (.Assign [.Name x pos'] (.List es lpos) pos) (ahf i ms):=PS.imp (ps_set hN hi hx (pe_lst h) hs hf) fun E σ H ⟨Hf,Hb,ρ,R,h⟩=>by
 unfold ahf at h
 refine⟨Hf,Hb,ρ,R,fun ds hds vs fp Hb' H' g cr nd fr=> ?_,fun c hc Hb' H' g=> ?_,fun z=> ?_⟩
 ·rw [hds] at h
  simp only at h
  split at h
  ·rename_i hz
   have hl:vs.length=ds.length:=by rw [cr.len];simp
   refine⟨by rw [hl];exact hz,fun p hp=> ?_⟩
   have hpf:p∉fp:=fun z=>by
    have:=cr.nt p z
    rw [hp] at this
    exact this
   have g2:Gw Hb' H' Hb' (upd H' p (.lst vs)):=Gw.new g.bh hp
   have ns:NsR X.K Hb' (upd H' p (.lst vs)) (.ref p) .lst (ds.map Sl.own) ([p]++fp):=⟨p,vs,[p],fp,rfl,⟨upd_same,rfl⟩,cr.frame (Ex.refl _) fun a ha o ho=>by rw [upd_ne (ne_of_none ho hp)];exact ho,rfl⟩
   refine h _ Hb' _ (R.ag1 ho (g.trans g2) ns (bR.mpr ⟨hpf,nd⟩) fun a ha=> ?_) ((g.trans g2).bw R.ef)
   rcases aO.mp ha with z|z
   ·rw [z]
    exact⟨fresh_back g.h hp,fresh_back g.bh hp⟩
   ·exact fr a z
  ·exact h.elim
 ·rw [hc] at h
  exact h _ Hb' H' (R.gw g) (g.bw R.ef)
 ·rw [z] at h
  exact h
end
section
variable{X:Cx}{W:WQ}{rk:Kd}{b k:Expr}{nk:NK}{i j:Nat}{mk:EM}{pos p2 p3:Pos}{x:Str}{p:Pos}
end
section
variable{X:Cx}{W:WQ}{rk:Kd}{e e2 tg:Expr}{es:List Expr}{m:EM}{mx:XM}{ms:List EM}{pos p:Pos}{x:Str}{ks:List Kd}{g:List D→ER}{j k:Nat}{ps:List Str}{gm:GM}
end
def O7:List D→ER
 |[.int i, .int j, .int k]=> .ok (.int (min (min i j) k))
 |_=> .bad
theorem ae2:Cg O7:=fun ds c h=>by
 unfold O7 at h
 repeat' split at h
 all_goals cases h
theorem ra3{K:ao}{Hb H:Hp}{ks:List Kd}{vs:List V}{d e f:D}(h:ni K Hb H ks vs [d,e,f]):∃v w u,vs=[v,w,u]∧Bo K Hb H v d∧Bo K Hb H w e∧Bo K Hb H u f:=by
 cases h with
 |cons a b=>
  cases b with
  |cons c b=>
   cases b with
   |cons x b=>
    cases b
    exact⟨_,_,_,rfl,a.bo,c.bo,x.bo⟩
theorem aeP{X:Cx}(hc:X.calm=true):CallD X (.builtin "min") .dat O7:=by
 intro pins s σ H vs us Q I r h
 obtain⟨Hb,ks,ds,d,eb,ra,hg,q⟩:=h
 unfold O7 at hg
 split at hg
 ·rename_i i j k
  cases hg
  obtain⟨v,w,u,rfl,b1,b2,b3⟩:=ra3 ra
  have nm:∀a b:Int,nuMin2 (.int a) (.int b)=some (.int (min a b)):=fun a b=>by
   show some (if decide (b<a)=true then V.int b else V.int a)=_
   by_cases z:b<a
   ·rw [decide_eq_true z,if_pos rfl,Int.min_eq_right (by omega)]
   ·rw [decide_eq_false z,if_neg (by simp),Int.min_eq_left (by omega)]
  refine call_min3Nu hc pins s σ H _ us Q I r ⟨.int i, .int j, .int k, .int (min (min i j) k),by rw [b1.int,b2.int,b3.int],?_,q _ Hb H (Gw.refl eb) qN⟩
  show(nuMin2 (.int i) (.int j)).bind _=_
  rw [nm]
  exact nm _ _
 ·cases hg
end DL
set_option maxHeartbeats 2000000
namespace DL
open PySem PySem.Spec L2 Evl PyProof.Rows
section
variable{prog:Program}{w:World}{A:Around}{E:Value→Shared→Prop}{s:Shared}
end
section
variable{X:Cx}{pins:List (Addr×Obj)}{σ:L2.St}{H:Hp}{s:Shared}{a:Addr}{y:V}{u:Value}{A:Around}{E:Value→Shared→Prop}
end
section
variable{X:Cx}{pins:List (Addr×Obj)}{σ:L2.St}{H:Hp}{s:Shared}{a:Addr}{y:V}{u:Value}{A:Around}{E:Value→Shared→Prop}
end
section
variable{X:Cx}{o e f:Expr}{apos cpos:Pos}{td ty tx:TE}
end
section
variable{X:Cx}{W:WQ}{o e f:Expr}{ma mb mc:EM}{apos cpos:Pos}
end
end DL
set_option maxHeartbeats 2000000
namespace DL
open PySem PySem.Spec L2 Evl PyProof.Rows
end DL
set_option maxHeartbeats 2000000
namespace DL
open PySem PySem.Spec L2 Evl PyProof.Rows
section
variable{pn:Pn}{K:ao}{H H' Hb Hb' Hf:Hp}{σ:L2.St}{ρ:Env}{i:Nat}{ks:List Key}{ls:List (List D)}
theorem gj.QH(R:gj K pn Hf Hb H σ ρ)(h:ρ[i]? =some (.QH ks ls)):∃p qs,σ[i]? =some (some (.ref p))∧H p=some (.dK (ks.zip (qs.map V.ref)))∧qs.length=ks.length∧IK K Hb H qs ls∧(p::qs).Nodup∧(∀a∈p::qs,Hf a=none∧Hb a=none)∧
 ∀(Hb' H' :Hp) (ks' :List Key) (ls' :List (List D)) (qs' :List Addr),(∀a o,a∉p::qs→H a=some o→H' a=some o)→Ex Hb Hb' →Ex Hb' H' →(∀a,a∉p::qs→Hb a=none→NT (H a)→Hb' a=none)→H' p=some (.dK (ks'.zip (qs'.map V.ref)))→qs'.length=ks'.length→IK K Hb' H' qs' ls' →(p::qs').Nodup→
  (∀a∈qs',a∈qs∨H a=none)→(∀a∈p::qs',Hb' a=none)→gj K pn Hf Hb' H' σ (ρ.set i (.QH ks' ls')):=by
 obtain⟨F,r⟩:=R
 obtain⟨p,qs,h1,h2,h3,h4,h5⟩:=r.sl i _ h
 refine⟨p,qs,h2,h3,h4,h5,by rw [←h1];exact r.nd i,fun a ha=> ?_,?_⟩
 ·have:=r.fr i a (by rw [h1];exact ha)
  exact⟨this.1,this.2.1⟩
 intro Hb' H' ks' ls' qs' e1 b bh nw hp hl c nd sub hb
 have new:SlO K Hf Hb' H' σ[i]? (.QH ks' ls') (p::qs'):=⟨p,qs',rfl,h2,hp,hl,c⟩
 have hfn:∀a∈p::qs',Hf a=none:=fun a ha=>by
  rcases aO.mp ha with z|z
  ·rw [z];exact(r.fr i p (by rw [h1];simp)).1
  ·rcases sub a z with w|w
   ·exact(r.fr i a (by rw [h1];exact aN _ w)).1
   ·exact fresh_back r.ef w
 refine⟨_,r.step (i:=i) (s:= .QH ks' ls') (fp:=p::qs') (fun a o e=>e1 a o (fun z=> ?_) (r.ef a o e)) bh b rfl (fun _ _=>rfl) (fun a ha _ k2 k3=> ?_) (fun _=>new) nd (fun a ha=>⟨hfn a ha,hb a ha,new.nt a ha⟩) (fun l a hl ha hj=> ?_) (fun a q=>r.pin i a q)⟩
 ·have:=(r.fr i a (by rw [h1];exact z)).1
  rw [e] at this
  cases this
 ·rw [h1] at ha
  obtain⟨o,ho⟩:=wW k3
  exact⟨by rw [ho];exact e1 a o ha ho,nw a ha k2 k3⟩
 ·rcases aO.mp ha with z|z
  ·exact r.dj l i a hl hj (by rw [h1,z];simp)
  ·rcases sub a z with w|w
   ·exact r.dj l i a hl hj (by rw [h1];exact aN _ w)
   ·have:=(r.fr l a hj).2.2
    rw [w] at this
    exact this
end
section
variable{K:ao}{Hb H:Hp}
theorem IK.len{qs:List Addr}{ls:List (List D)}(h:IK K Hb H qs ls):qs.length=ls.length:=by
 induction h with
 |nil=>rfl
 |cons _ _ _ ih=>simp [ih]
theorem IK.get:∀{qs:List Addr} {ls:List (List D)} {j:Nat} {q:Addr},IK K Hb H qs ls→qs[j]? =some q→∃xs,H q=some (.lst xs)∧iY K Hb xs (ls.getD j [])
 |_,_,j,q, .nil,h=>by simp at h
 |_,_,0,q, .cons a b c,h=>by
  simp at h
  subst h
  exact⟨_,a,by simpa using b⟩
 |_,_,j+1,q, .cons a b c,h=>by
  obtain⟨xs,h1,h2⟩:=IK.get c (by simpa using h)
  exact⟨xs,h1,by simpa [bA] using h2⟩
theorem IK.app:∀{qs rs:List Addr} {ls ms:List (List D)},IK K Hb H qs ls→IK K Hb H rs ms→IK K Hb H (qs++rs) (ls++ms)
 |_,_,_,_, .nil,h=>h
 |_,_,_,_, .cons a b c,h=> .cons a b (IK.app c h)
theorem IK.put{H' :Hp}{xs:List V}{ds:List D}:∀{qs:List Addr} {ls:List (List D)} {j:Nat} {q:Addr},IK K Hb H qs ls→qs[j]? =some q→qs.Nodup→H' q=some (.lst xs)→iY K Hb xs ds→(∀a∈qs,a≠q→H' a=H a)→IK K Hb H' qs (ls.set j ds)
 |_,_,j,q, .nil,h,_,_,_,_=>by simp at h
 |_,_,0,q, .cons a b c,h,nd,h1,h2,hk=>by
  simp at h
  subst h
  obtain⟨n1,n2⟩:=bR.mp nd
  refine .cons h1 h2 (c.frame (Ex.refl _) fun p hp o ho=> ?_)
  rw [hk p (aN _ hp) (fun z=>n1 (by rw [←z];exact hp))]
  exact ho
 |_,_,j+1,q, .cons (q:=q0) a b c,h,nd,h1,h2,hk=>by
  obtain⟨n1,n2⟩:=bR.mp nd
  have hq:q∈_:=aX (by simpa using h)
  refine .cons ?_ b (IK.put c (by simpa using h) n2 h1 h2 fun a ha ne=>hk a (aN _ ha) ne)
  rw [hk q0 aY (fun z=>n1 (by rw [z];exact hq))]
  exact a
end
section
variable{pn:Pn}{K:ao}{H H' Hb Hb' Hf:Hp}{σ:L2.St}{ρ:Env}{i:Nat}{ks:List Key}{ls:List (List D)}
end
section
variable{X:Cx}{W:WQ}{rk:Kd}{o k v:Expr}{i:Nat}{mk mv:EM}{x:Str}{p p2 p3 p4 p5 p6 pos:Pos}
end
section
variable{X:Cx}{W:WQ}{k:Expr}{mk:EM}{x:Str}{p p2 pos apos cpos:Pos}
end
end DL
set_option maxHeartbeats 2000000
namespace DL
open PySem PySem.Spec L2 Evl PyProof.Rows
section
variable{X:Cx}
end
end DL
set_option maxHeartbeats 2000000
namespace DL
open PySem PySem.Spec L2 Evl PyProof.Rows
section
variable{X:Cx}{W:WQ}{rk:Kd}{tg:Expr}{g:GM}{body:List Stmt}{mb:SM}{pos q:Pos}{y:Str}
end
section
variable{X:Cx}{W:WQ}{a:Expr}{lo hi:Option Expr}{m:EM}{ml mh:Option EM}{pos p2:Pos}
end
theorem vU.off{K:ao}{Hb H:Hp}{vs:List V}{cs:List Sl}{fq:List Addr}(h:vU K Hb H vs cs fq):∀{j:Nat} {d:D} {q:Addr},cs[j]? =some (.own d)→vs[j]? =some (.ref q)→fq.Nodup→∃fq',vU K Hb H vs (cs.set j .un) fq' ∧q∉fq' ∧(∀a∈fq',a∈fq)∧fq'.Nodup∧q∈fq:=by
 induction h with
 |nil=>intro j d q e;simp at e
 |dat a r ih=>
  intro j d q e ev nd
  cases j with
  |zero=>simp at e
  |succ j=>
   obtain⟨fq',h1,h2,h3,h4,h5⟩:=ih (j:=j) (by simpa using e) (by simpa using ev) nd
   exact⟨fq', .dat a h1,h2,h3,h4,h5⟩
 |un r ih=>
  intro j d q e ev nd
  cases j with
  |zero=>simp at e
  |succ j=>
   obtain⟨fq',h1,h2,h3,h4,h5⟩:=ih (j:=j) (by simpa using e) (by simpa using ev) nd
   exact⟨fq', .un h1,h2,h3,h4,h5⟩
 |own a r ih=>
  rename_i q0 d0 vs cs fp
  intro j d q e ev nd
  obtain⟨n1,n2⟩:=bR.mp nd
  cases j with
  |zero=>
   simp at ev
   subst ev
   exact⟨fp, .un r,n1,fun a ha=>aN _ ha,n2,aY⟩
  |succ j=>
   obtain⟨fq',h1,h2,h3,h4,h5⟩:=ih (j:=j) (by simpa using e) (by simpa using ev) n2
   refine⟨q0::fq', .own a h1,fun z=> ?_,fun a ha=> ?_,bR.mpr ⟨fun z=>n1 (h3 _ z),h4⟩,aN _ h5⟩
   ·rcases aO.mp z with z|z
    ·rw [z] at h5
     exact n1 h5
    ·exact h2 z
   ·rcases aO.mp ha with z|z
    ·rw [z];exact aY
    ·exact aN _ (h3 a z)
section
variable{X:Cx}{W:WQ}{rk:Kd}{b b' k k' e x:Expr}{rest:List Stmt}{mr:SM}{mk me mx:EM}{nk:NK}{i j jj kn:Nat}{g:List D→ER}{f:Str}{ps:List Str}{pos pos' p p2 p3 p4:Pos}
end
end DL
set_option maxHeartbeats 4000000
namespace DL
open PySem PySem.Spec L2 Evl PyProof.Rows
section
variable{P:Program}{w:World}{A:Around}{E:Value→Shared→Prop}{s:Shared}
end
section
variable{X:Cx}
end
section
variable{X:Cx}{W:WQ}{e:Expr}{m:EM}{p p2 pos pos2:Pos}
end
section
variable{X:Cx}
end
def lU(d:D)(ds:List D):Option Nat:=ds.findIdx? fun z=>dF z d
section
variable{X:Cx}{W:WQ}{o e:Expr}{ma mb:EM}{apos pos:Pos}
end
end DL
set_option maxHeartbeats 4000000
namespace DL
open PySem PySem.Spec L2 Evl
section
variable{pn:Pn}{K:ao}{H Hb Hf Hf' :Hp}{σ:L2.St}{ρ:Env}{F:Nat→List Addr}{A:Addr}{o:HO}
theorem SlO.hf{x:Option (Option V)}{s:Sl}{fp:List Addr}(h:SlO K Hf Hb H x s fp)(e:Ex Hf Hf'):SlO K Hf' Hb H x s fp:=by
 cases s with
 |bor d=>
  obtain⟨h0,v,h1,h2⟩:=h
  refine⟨h0,v,h1,?_⟩
  rcases h2 with h2|⟨p,h3,h4⟩
  ·exact .inl h2
  ·exact .inr ⟨p,h3,h4.ex (Ex.refl _) e⟩
 |vP k cs=>
  obtain⟨h0,p,vs,hp,h1,h2,h3⟩:=h
  exact⟨h0,p,vs,hp,h1,h2.frame fun p hp o ho=>e _ _ ho,h3.ex (Ex.refl _) e⟩
 |_=>exact h
end
section
variable{X:Cx}{W:WQ}{elt tg iter:Expr}{scope:Scope}{own:List (Str×Nat)}{pos:Pos}{mi:Env→AR}{T:TG}{g:GM}{mx:XM}
end
section
variable{pn:Pn}{K:ao}{H Hb Hf:Hp}{σ:L2.St}{ρ:Env}{i:Nat}{p:Addr}{od:Obj}{kvs:List (Key×V)}{ds:List (D×D)}
end
section
variable{X:Cx}{W:WQ}{rk:Kd}{pos:Pos}{g:GM}{mb:SM}{body:List Stmt}{tg:Expr}
end
section
variable{X:Cx}{W:WQ}{o e:Expr}{m n:EM}{apos pos:Pos}
end
end DL
set_option maxHeartbeats 4000000
namespace DL
open PySem PySem.Spec L2 Evl
section
variable{K:ao}{W:WQ}{T:TG}{g:GM}{me:EM}{vs:List Nat}{σ:L2.St}{H1 Hf Hb1:Hp}{ρ:Env}{Q:VK}{ds:List D}{J:It}{pn:Pn}
end
section
variable{X:Cx}{W:WQ}{rk:Kd}{elt tg iter:Expr}{scope:Scope}{own:List (Str×Nat)}{pos:Pos}{T:TG}{g:GM}{mx my:XM}{me:EM}
end
section
variable{X:Cx}{pins:List (Addr×Obj)}{σ:L2.St}{H:Hp}{s:Shared}{A:Around}{E:Value→Shared→Prop}
end
end DL
set_option maxHeartbeats 4000000
namespace DL
open PySem PySem.Spec L2 Evl
def Jt(i j:Nat):SM:=fun ρ=>match ρ[i]?,ρ[j]? with
 |some (.dat r),some (.own (.list ps))=> .rt (.tuple [r, .list ps])
 |_,_=> .bad
theorem Z4{i j:Nat}:∀ρ ρ',Jt i j ρ≠ .nx ρ' :=fun ρ ρ' z=>by
 unfold Jt at z
 split at z
 ·cases z
 ·cases z
section
variable{X:Cx}{W:WQ}{kd:Kd}{e:Expr}{m:EM}
theorem af0{K:ao}{Hb H Hb' H' :Hp}{p q:Addr}{rv:V}{xs:List V}{r:D}{ps:List D}(g:Gw Hb H Hb' H')(h0:H p=none∧H q=none)(hb:Hb' p=none∧Hb' q=none)(hp:H' p=some (.tup [rv, .ref q]))(hq:H' q=some (.lst xs))(hr:Dr K Hb' rv r)(ha:iY K Hb' xs ps):
 Gw Hb H (upd (upd Hb' q (.lst xs)) p (.tup [rv, .ref q])) H' ∧Dr K (upd (upd Hb' q (.lst xs)) p (.tup [rv, .ref q])) (.ref p) (.tuple [r, .list ps]):=by
 have pq:p≠q:=fun z=>by
  subst z
  rw [hp] at hq
  cases hq
 have hb2:upd Hb' q (.lst xs) p=none:=by rw [upd_ne pq];exact hb.1
 have e1:Ex Hb' (upd Hb' q (.lst xs)):=Ex.new hb.2
 have e2:Ex (upd Hb' q (.lst xs)) (upd (upd Hb' q (.lst xs)) p (.tup [rv, .ref q])):=Ex.new hb2
 refine⟨(g.frz h0.2 hb.2 hq).frz h0.1 hb2 hp, .tup upd_same (.cons (lG (e1.trans e2) hr) (.cons (.lst (.inl (.inl (e2 _ _ upd_same))) (lM (e1.trans e2) ha)) .nil))⟩
theorem ac9(h:DE X W .tl e m):DE X W .dat e m:=PE.imp h fun σ H Q ⟨Hf,Hb,ρ,R,h1,h2,h3⟩=>by
 refine⟨Hf,Hb,ρ,R,fun d hd v Hb' H' g r=> ?_,h2,h3⟩
 obtain⟨p,q,rv,xs,r,ps,rfl,rfl,z0,zb,zp,zq,zr,za⟩:=r
 obtain⟨g2,d2⟩:=af0 g z0 zb zp zq zr za
 exact h1 _ hd _ _ _ g2 d2
end
section
variable{X:Cx}{W:WQ}
theorem gj.ah2{pn:Pn}{K:ao}{Hf Hb H:Hp}{σ:L2.St}{ρ:Env}{i:Nat}{d:D}(R:gj K pn Hf Hb H σ ρ)(h:ρ[i]? =some (.dat d)):∃v,σ[i]? =some (some v)∧Dr K Hb v d:=by
 obtain⟨F,r⟩:=R
 obtain⟨_,v,a,b⟩:=r.sl i _ h
 exact⟨v,a,b⟩
theorem ado(i j:Nat){x y:Str}{p p2 pos pos2:Pos}{x1}(hN:X.N[i]? =some x:=by rfl)(hN2:X.N[j]? =some y:=by rfl)(hv:Vis X.env.scope x:=by first|exact Or.inl rfl|exact Or.inr (Or.inl rfl)|exact Or.inr (Or.inr rfl))(hv2:Vis X.env.scope y:=by first|exact Or.inl rfl|exact Or.inr (Or.inl rfl)|exact Or.inr (Or.inr rfl))(hd:(x==("__debug__":Str))=false:=by decide)(hd2:(y==("__debug__":Str))=false:=by decide)
 (hcd:(x==("__classdict__":Str))=false:=by decide) (hcd2:(y==("__classdict__":Str))=false:=by decide)
 (ht1:starEach [.Name x p, .Name y p2] X.env=(false,eval (.Name x p) X.env)::starEach [.Name y p2] X.env:=by rfl) (ht2:starEach [.Name y p2] X.env=(false,eval (.Name y p2) X.env)::starEach [] X.env:=by rfl):
 DS X W .tl (.Return (some (.Tuple [.Name x p, .Name y p2] x1 pos2)) pos) (Jt i j):=
 PS.imp (ps_ret (pe_tup (pa_cons (pe_var hN hv hd hcd) (pa_cons (pe_var hN2 hv2 hd2 hcd2) pa_nil ht2) ht1))) fun E σ H ⟨Hf,Hb,ρ,R,h⟩=>by
  unfold Jt at h
  split at h
  ·rename_i r ps q1 q2
   obtain⟨v,h1,h2⟩:=R.ah2 q1
   obtain⟨q,k1,⟨o,ho,hc⟩,k3,k4⟩:=R.own j _ q2
   cases hc with
   |lst al=>
    refine⟨v,h1, .ref q,k1,by simp [sizeLine],fun p hp=> ?_⟩
    have pq:q≠p:=fun z=>by
     subst z
     rw [hp] at ho
     cases ho
    have hbp:Hb p=none:=fresh_back R.eb hp
    have hfp:Hf p=none:=fresh_back R.ef hp
    have g:Gw Hb H Hb (upd H p (.tup [v, .ref q])):=Gw.new R.eb hp
    refine h _ Hb _ (R.gw g).ef (g.bw R.ef) ⟨p,q,v,_,r,ps,rfl,rfl,⟨hfp,k3⟩,⟨hbp,k4⟩,upd_same,?_,h2,al⟩
    rw [upd_ne pq]
    exact ho
  ·exact h.elim
end
def afX(f:Nat)(z:Str):TS:=fun E σ H=>∃p q rv xs,σ[f]? =some (some (.ref p))∧H p=some (.tup [rv, .ref q])∧H q=some (.lst xs)∧xs.length<sizeLine∧E.nx σ (upd H q (.lst (xs++[.str z])))
section
variable{X:Cx}
theorem afH(f:Nat){x z:Str}{p px p2 p3 pos pc pz:Pos}{k kz:Nat}(hN:X.N[f]? =some x:=by rfl)(hv:Vis X.env.scope x:=by first|exact Or.inl rfl|exact Or.inr (Or.inl rfl)|exact Or.inr (Or.inr rfl))(hd:(x==("__debug__":Str))=false:=by decide)
 (hcd:(x==("__classdict__":Str))=false:=by decide) (hst:starEach [.Constant (.str z) kz pz] X.env=(false,eval (.Constant (.str z) kz pz) X.env)::starEach [] X.env:=by rfl)
 (hbase:attributeBase (.Subscript (.Name x p) (.Constant (.int 1) k pc) px) "append" X.env (eval (.Subscript (.Name x p) (.Constant (.int 1) k pc) px) X.env)=eval (.Subscript (.Name x p) (.Constant (.int 1) k pc) px) X.env:=by rfl)
 (hfew:((backTo p3 (starEach [.Constant (.str z) kz pz] X.env)).all (fun x=> !x.1)&&(backToKw p3 (keywordEach [] X.env)).all (fun x=>x.1.isSome)
   &&decide (([.Constant (.str z) kz pz]:List Expr).length+([]:List Keyword).length+(if([]:List Keyword).isEmpty then 0 else 1)<30))=true:=by rfl)
 (hline:(p2.endLine==p3.line)=true:=by rfl) (hpl:(backTo p3 (starEach [] X.env)).any (·.1)=false:=by rfl) (hs:swapsWith (.Call (.Attribute (.Subscript (.Name x p) (.Constant (.int 1) k pc) px) "append" p2) [.Constant (.str z) kz pz] [] p3) none pos.line X.env=pure false:=by rfl):
 PS X (.Expr (.Call (.Attribute (.Subscript (.Name x p) (.Constant (.int 1) k pc) px) "append" p2) [.Constant (.str z) kz pz] [] p3) pos) (afX f z):=
 PS.imp (ps_expr (pe_bm PySem.F.plainAttrs_list PySem.F.slot_list_append PySem.F.type_list_append mt_append (pe_ix (ix_tup (X:=X)) (pe_var hN hv hd hcd) pe_int (fun _ _=>rfl)) (pa_cons pe_str pa_nil hst) hbase hfew hline hst hpl) hs) fun E σ H ⟨a,q,rv,xs,h1,h2,h3,h4,h5⟩=>by
  refine⟨.ref a,h1,a,[rv, .ref q],1, .ref q,rfl,rfl, .inl (.inl h2),rfl, .inl ⟨rfl,_,sq_of h3⟩,?_⟩
  exact⟨q,xs, .str z,rfl,rfl,h3,h4,h5⟩
end
def Fl(d:D):Prop:=∀(K:ao) (H:Hp) (q:Addr) (xs ys:List V) (v:V),H q=some (.lst xs)→Dr K H v d→Dr K (upd H q (.lst ys)) v d
theorem aeD:Fl .none:=fun _ _ _ _ _ _ _ r=>by cases r;exact .non
theorem agq(i:Int):Fl (.int i):=fun _ _ _ _ _ _ _ r=>by cases r;exact .int i
theorem agK(i:Str):Fl (.str i):=fun _ _ _ _ _ _ _ r=>by cases r;exact .str i
theorem agg{ds:List D}(h:∀d∈ds,Fl d){K:ao}{H:Hp}{q:Addr}{xs ys vs:List V}(hq:H q=some (.lst xs))(r:iY K H vs ds):iY K (upd H q (.lst ys)) vs ds:=by
 induction ds generalizing vs with
 |nil=>cases r;exact .nil
 |cons d ds ih=>
  cases r with
  |cons a b=>exact .cons (h d (by simp) K H q xs ys _ hq a) (ih (fun x hx=>h x (by simp [hx])) b)
theorem agW{ds:List D}(h:∀d∈ds,Fl d):Fl (.tuple ds):=fun K H q xs ys v hq r=>by
 cases r with
 |tup a b=>
  refine .tup ?_ (agg h hq b)
  rename_i p vs
  have:p≠q:=fun z=>by
   subst z
   rw [hq] at a
   cases a
  rw [upd_ne this]
  exact a
def abd(n f r h:Nat)(fd rw hd:D):Env:=(((aD n Sl.un).set f (.dat fd)).set r (.dat rw)).set h (.own hd)
def ae8(z:Str)(n f r h:Nat)(m1 m2:SM)(m3:EM)(m4 m5 m6 mB:SM)(ρ0:Env):Prop:=∃(ρ1 ρ2 ρ4 ρ5 ρ6:Env) (ts ps:List D) (rd:D),
 m1 ρ0= .nx ρ1∧m2 ρ1= .nx ρ2∧ρ2[r]? =some (.dat (.list ts))∧m3 ρ2= .ok (.tuple [rd, .list ps])∧m4 (ρ2.set f (.dat (.tuple [rd, .list ps])))= .nx ρ4∧m5 ρ4= .nx ρ5∧m6 ρ5= .nx ρ6∧
 ρ6[h]? =some (.own (.list ps))∧(∀d∈ps,Fl d)∧ps.length<sizeLine∧ρ6.length=n∧f<ρ2.length∧(f≠r∧f≠h∧r≠h)∧mB (abd n f r h (.tuple [rd, .list (ps++[.str z])]) (.list ts) (.list ps))= .rt (.bool true)
abbrev Hp0:Hp:=fun _=>none
theorem PS.ex2{α β:Type}{X:Cx}{st:Stmt}{t:α→β→TS}(h:∀a b,PS X st (t a b)):PS X st (fun E σ H=>∃a b,t a b E σ H):=⟨fun pins s σ H D I ⟨a,b,q⟩=>(h a b).run pins s σ H D I q⟩
theorem kY.nx_{K:ao}{W:WQ}{rk:Kd}{Hf Hb H:Hp}{E:Ends}{r:Out}{ρ:Env}(e:r= .nx ρ)(h:∀σ' Hb' H',gj K W.pin Hf Hb' H' σ' ρ→Bw Hf Hb Hb' H' →E.nx σ' H'):kY K W rk Hf Hb H E r:=by
 subst e
 exact h
theorem aht{X:Cx}{w:WX}{z:Str}{s1 s2 s3 s4 s5 s6 s7:Stmt}{sB:List Stmt}{n f r h:Nat}{m1 m2:SM}{m3:EM}{m4 m5 m6 mB:SM}(h1:DS X ⟨w,[]⟩ .dat s1 m1)(h2:DS X ⟨w,[]⟩ .dat s2 m2)(h3:PS X s3 (tAsg (BV X.K ⟨w,[]⟩ .tl m3) (gName f)))
 (h4:∀p q,DS X ⟨w,[(f,p),(r,q)]⟩ .dat s4 m4) (h5:∀p q,DS X ⟨w,[(f,p),(r,q)]⟩ .dat s5 m5) (h6:∀p q,DS X ⟨w,[(f,p),(r,q)]⟩ .dat s6 m6) (h7:PS X s7 (afX f z)) (hB:WD X ⟨w,[]⟩ .dat sB mB):
 PSs X (s1::s2::s3::s4::s5::s6::s7::sB) (fun E σ H=>∃Hb ρ0,gj X.K [] Hp0 Hb H σ ρ0∧ae8 z n f r h m1 m2 m3 m4 m5 m6 mB ρ0∧∀H',E.rt (.bl true) H'):=
 PSs.imp (pss_cons h1 (pss_cons h2 (pss_cons h3 (pss_cons (PS.ex2 h4) (pss_cons (PS.ex2 h5) (pss_cons (PS.ex2 h6) (pss_cons h7 hB))))))) fun E σ H ⟨Hb,ρ0,R,⟨ρ1,ρ2,ρ4,ρ5,ρ6,ts,ps,rd,e1,e2,er,e3,e4,e5,e6,eh,fl,pl,ln,fl2,⟨fr,fh,rh⟩,eB⟩,hE⟩=>by
  refine⟨Hp0,Hb,ρ0,R,kY.nx_ e1 fun σ1 Hb1 H1 R1 b1=> ?_⟩
  refine⟨Hp0,Hb1,ρ1,R1,kY.nx_ e2 fun σ2 Hb2 H2 R2 b2=> ?_⟩
  refine⟨Hp0,Hb2,ρ2,R2,fun d hd v Hb3 H3 g3 r3=> ?_,fun c hc=> ?_,fun z=> ?_⟩
  rotate_left
  ·rw [e3] at hc
   cases hc
  ·rw [e3] at z
   cases z
  rw [e3] at hd
  cases hd
  obtain⟨p,q,rv,xs,rd',ps',ed,rfl,z0,zb,zp,zq,zr,za⟩:=r3
  cases ed
  obtain⟨vw,w1,w2⟩:=R2.ah2 er
  cases w2 with
  |lst sl al=>
  rename_i qr ws
  obtain⟨g',dr⟩:=af0 g3 z0 zb zp zq zr za
  have pq:p≠q:=fun z=>by
   subst z
   rw [zp] at zq
   cases zq
  have hbr:Dr X.K Hb3 (.ref qr) (.list ts):=lG g3.b (.lst sl al)
  have R3:=(R2.gw g').Ji (i:=f) (fun _ z=>by cases z) dr
  have l2:=R2.len
  have R3p:gj X.K [(f,p),(r,qr)] Hp0 (upd (upd Hb3 q (.lst xs)) p (.tup [rv, .ref q])) H3 (σ2.set f (some (.ref p))) (ρ2.set f (.dat (.tuple [rd, .list ps]))):=by
   obtain⟨F,k⟩:=R3
   refine⟨F,{k with pin:=fun i a hi=> ?_}⟩
   simp only [aO,bB,or_false,Prod.mk.injEq] at hi
   rcases hi with⟨rfl,rfl⟩|⟨rfl,rfl⟩
   ·rw [cO (by omega)]
   ·rw [cJ fr]
    exact w1
  refine⟨p,qr,Hp0,_,_,R3p,kY.nx_ e4 fun σ4 Hb4 H4 R4 b4=> ?_⟩
  refine⟨p,qr,Hp0,_,_,R4,kY.nx_ e5 fun σ5 Hb5 H5 R5 b5=> ?_⟩
  refine⟨p,qr,Hp0,_,_,R5,kY.nx_ e6 fun σ6 Hb6 H6 R6 b6=> ?_⟩
  have ex:=(b4.b.trans b5.b).trans b6.b
  have bp:Hb6 p=some (.tup [rv, .ref q]):=ex _ _ upd_same
  have bq:Hb6 q=some (.lst xs):=ex _ _ (by rw [upd_ne pq.symm];exact upd_same)
  have s1:σ6[f]? =some (some (.ref p)):=R6.pin f p (by simp)
  have s2:σ6[r]? =some (some (.ref qr)):=R6.pin r qr (by simp)
  obtain⟨ph,s3,⟨o,ho,hc⟩,k3,k4⟩:=R6.own h _ eh
  have xl:xs.length<sizeLine:=by rw [gW za];exact pl
  refine⟨p,q,rv,xs,s1,R6.eb _ _ bp,R6.eb _ _ bq,xl,?_⟩
  cases hc with
  |lst ah=>
  rename_i ys
  have phq:ph≠q:=fun z=>by
   subst z
   rw [k4] at bq
   cases bq
  have exq:Ex Hb3 (upd Hb6 q (.lst (xs++[.str z]))):=fun a o ha=>by
   have aq:a≠q:=fun z=>by
    subst z
    rw [zb.2] at ha
    cases ha
   have ap:a≠p:=fun z=>by
    subst z
    rw [zb.1] at ha
    cases ha
   rw [upd_ne aq]
   refine ex _ _ ?_
   rw [upd_ne ap,upd_ne aq]
   exact ha
  have l6:=R6.len
  have df:Dr X.K (upd Hb6 q (.lst (xs++[.str z]))) (.ref p) (.tuple [rd, .list (ps++[.str z])]):=by
   refine .tup (by rw [upd_ne pq];exact bp) (.cons (lG exq zr) (.cons (.lst (.inl (.inl upd_same)) (qT (lM exq za) (.cons (.str z) .nil))) .nil))
  have dw:Dr X.K (upd Hb6 q (.lst (xs++[.str z]))) (.ref qr) (.list ts):=lG exq hbr
  have eb:Ex (upd Hb6 q (.lst (xs++[.str z]))) (upd H6 q (.lst (xs++[.str z]))):=fun a o ha=>by
   by_cases aq:a=q
   ·subst aq
    rw [upd_same] at ha⊢
    exact ha
   ·rw [upd_ne aq] at ha⊢
    exact R6.eb _ _ ha
  have R7:gj X.K [] Hp0 (upd Hb6 q (.lst (xs++[.str z]))) (upd H6 q (.lst (xs++[.str z]))) σ6 (abd n f r h (.tuple [rd, .list (ps++[.str z])]) (.list ts) (.list ps)):=by
   refine⟨fun i=>if i=h then [ph] else [],⟨fun _ _ ha=>(by cases ha),eb,by simp [abd,l6,ln],fun i s hs=> ?_,fun i=> ?_,fun i a ha=> ?_,fun i j a ij ha=> ?_,fun i a ha=>(by cases ha)⟩⟩
   ·unfold abd at hs
    have hl:h<ρ6.length:=(au.mp eh).1
    by_cases ih:i=h
    ·subst ih
     rw [cO (by simp;omega)] at hs
     cases hs
     rw [if_pos rfl]
     refine⟨ph,rfl,s3,_,?_, .lst (agg fl bq ah)⟩
     rw [upd_ne phq]
     exact ho
    ·rw [cJ (Ne.symm ih)] at hs
     rw [if_neg ih]
     by_cases ir:i=r
     ·subst ir
      by_cases il:i<n
      ·rw [cO (by simp;omega)] at hs
       cases hs
       exact⟨rfl,_,s2,dw⟩
      ·rw [List.getElem?_eq_none (by simp;omega)] at hs
       cases hs
     ·rw [cJ (Ne.symm ir)] at hs
      by_cases iF:i=f
      ·subst iF
       by_cases il:i<n
       ·rw [cO (by simp;omega)] at hs
        cases hs
        exact⟨rfl,_,s1,df⟩
       ·rw [List.getElem?_eq_none (by simp;omega)] at hs
        cases hs
      ·rw [cJ (Ne.symm iF),List.getElem?_replicate] at hs
       split at hs
       ·cases hs
        rfl
       ·cases hs
   ·split
    ·simp
    ·exact cH
   ·split at ha
    ·rw [aM.mp ha]
     refine⟨rfl,?_,?_⟩
     ·rw [upd_ne phq]
      exact k4
     ·rw [upd_ne phq,ho]
      exact True.intro
    ·cases ha
   ·split at ha
    ·rename_i ih
     subst ih
     rw [if_neg (Ne.symm ij)]
     exact bB
    ·cases ha
  refine⟨Hp0,_,_,R7,?_⟩
  rw [eB]
  intro v Hb' H' _ _ r
  cases(show Dr X.K Hb' v (.bool true) from r)
  exact hE H'
def SpT(K:ao):Sp:=fun vs H Q _=>∃(ns:List Int) (a:Addr),vs=[.ref a]∧ns.length≤63∧(∀z∈ns,Builtin.Int.intBits z≤1048576)∧SqL K H a (ns.map V.int)∧∀H',Q (.bl true) H'
theorem aad{K:ao}{Hf Hb H:Hp}{σ:L2.St}{ρ:Env}(R:gj K [] Hf Hb H σ ρ)(hn:∀(i:Nat) (s:Sl),ρ[i]? =some s→s=Sl.un∨∃d,s=Sl.dat d):gj K [] Hp0 Hb H σ ρ:=by
 obtain⟨F,r⟩:=R
 refine⟨F,fun _ _ ha=>(by cases ha),r.eb,r.len,fun i s hs=> ?_,r.nd,fun i p hp=>⟨rfl,(r.fr i p hp).2⟩,r.dj,r.pin⟩
 have:=r.sl i s hs
 rcases hn i s hs with rfl|⟨d,rfl⟩
 ·exact this
 ·exact this
section
variable{P:Program}{w:World}{K:ao}{mg:Str→Option Value}{base:Heap}{fa:List He.Fa}{fn:List He.DefD}
theorem ahl{x z:Str}{d:He.DefD}(Z:nH fa fn K mg)(i j:Nat){N:List Str}{y:Str}{k n f r h:Nat}{m1 m2:SM}{m3:EM}{m4 m5 m6 mB:SM}(hd:fn[i]? =some d)(hx:d.at_=(x,none))(hdf:d.dfl=[])(hkw:d.kwd=[])(hg:fa[j]? =some (.glo x))(S:FnScope N [y] d.scope)(hn:N.length=1+n)
 (hb:∀(kV doc pm:Value) (an:Option Addr) (cdv ct:Value) (us:List Value),us.length=[y].length→bindArgs (PySem.W.fnOf d.name d.qual d.params d.body d.scope .none kV doc pm an cdv ct) ⟨us,[]⟩=pure ([y].zip us))
 (hm:∀ns:List Int,ns.length≤63→(∀z∈ns,Builtin.Int.intBits z≤1048576)→ae8 z (1+n) f r h m1 m2 m3 m4 m5 m6 mB (.dat (.list (ns.map aH))::aD n .un))
 (hbody:∀(g:Addr) (cdv:Value) (A:Around) (outer:List PySem.Env) (s:Shared) (H:Hp) (E:XK),Room k (cxOf (L2.CX P w) P w K mg base N d.qual d.scope g cdv A outer s H E).A→Takes (cxOf (L2.CX P w) P w K mg base N d.qual d.scope g cdv A outer s H E) (fun cls d _ H=>E cls d H)→
   PassesOwn (model (cxOf (L2.CX P w) P w K mg base N d.qual d.scope g cdv A outer s H E).prog (cxOf (L2.CX P w) P w K mg base N d.qual d.scope g cdv A outer s H E).w) (cxOf (L2.CX P w) P w K mg base N d.qual d.scope g cdv A outer s H E).A (cxOf (L2.CX P w) P w K mg base N d.qual d.scope g cdv A outer s H E).env (cxOf (L2.CX P w) P w K mg base N d.qual d.scope g cdv A outer s H E).xe→
   PSs (cxOf (L2.CX P w) P w K mg base N d.qual d.scope g cdv A outer s H E) d.body (fun E' σ H' =>∃Hb ρ0,gj K [] Hp0 Hb H' σ ρ0∧ae8 z (1+n) f r h m1 m2 m3 m4 m5 m6 mB ρ0∧∀H',E'.rt (.bl true) H')):
 Has P w K mg base x (k+1) [y] (SpT K):=by
 obtain⟨fd,F⟩:=Z.says.def_ i hd
 have ea:He.fAd K d.at_=He.ga K x:=by rw [hx];rfl
 rw [ea] at F
 have kp:=F.kp
 have e1:d.dvs K=[]:=by
  unfold He.DefD.dvs
  rw [hdf]
  rfl
 rw [e1] at F
 refine⟨⟨fd,F.ok S (fun vs H Q E hs=> ?_) (fun cdv A outer s H vs Q E hr hs=> ?_),F.bindsN hb,?_⟩,kp,Z.glo j hg⟩
 ·obtain⟨ns,a,rfl,_⟩:=hs
  rfl
 ·obtain⟨ns,a,rfl,l1,l2,sq,q⟩:=hs
  have R:=Qh (K:=K) (Hb:=H) (H:=H) (ks:=[.dat]) (vs:=[.ref a]) (ds:=[.list (ns.map aH)]) (N:=N) (n:=n) (Ex.refl _) (.cons (Dr.lst sq (Qi ns)) .nil) hn
  refine⟨_,hbody _ cdv A outer s H E hr (takes_of rfl rfl rfl rfl) PassesOwn.leaving,H,_,aad R (fun i s hs=> ?_),hm ns l1 l2,fun H' =>q H'⟩
  cases i with
  |zero=>
   simp [jV] at hs
   exact .inr ⟨_,hs.symm⟩
  |succ i=>
   simp [jV,List.getElem?_replicate] at hs
   exact .inl hs.2.symm
 ·obtain⟨oc,od,_,_,_,_,_,_,_,osl,_,l,_⟩:=F.ex
  exact⟨oc,od,osl,l⟩
end
end DL
set_option maxHeartbeats 4000000
namespace DL
open PySem PySem.Spec L2 Evl
section
variable{K:ao}{H Hb Hf Hf' :Hp}{pn pn' :Pn}{σ:L2.St}{ρ:Env}{i j k:Nat}{cs:List Sl}{vs:List V}{fq:List Addr}{p q:Addr}{d:D}
theorem Jj.two{F:Nat→List Addr}(R:Jj K pn Hf Hb H σ ρ F){si sj:Sl}{fi fj:List Addr}{σ' :L2.St}(ij:i≠j)(hl:σ'.length=σ.length)(hσ:∀a,a≠i→a≠j→σ'[a]? =σ[a]?)
 (hi:i<ρ.length→SlO K Hf Hb H σ'[i]? si fi) (hj:j<ρ.length→SlO K Hf Hb H σ'[j]? sj fj) (hs:(fi++fj).Nodup) (hm:∀a,a∈fi++fj→a∈F i∨a∈F j) (hp:∀b a,(b,a)∈pn→(b=i∨b=j)→σ'[b]? =some (some (.ref a))):
 Jj K pn Hf Hb H σ' ((ρ.set i si).set j sj) (fun a=>if a=j then fj else if a=i then fi else F a):=by
 have nd:=cI.mp hs
 refine⟨R.ef,R.eb,by rw [hl,R.len];simp,fun a t q=> ?_,fun a=> ?_,fun a x hx=> ?_,fun a b x ab hx=> ?_,fun b a hb=> ?_⟩
 ·by_cases aj:a=j
  ·subst aj
   simp only [if_true]
   have hlt:a<ρ.length:=by
    have:=(au.mp q).1
    simpa using this
   rw [cO (by simpa using hlt)] at q
   cases q
   exact hj hlt
  ·rw [cJ (Ne.symm aj)] at q
   by_cases ai:a=i
   ·subst ai
    simp only [if_neg aj,if_true]
    have hlt:a<ρ.length:=by
     have:=(au.mp q).1
     simpa using this
    rw [cO hlt] at q
    cases q
    exact hi hlt
   ·rw [cJ (Ne.symm ai)] at q
    simp only [if_neg aj,if_neg ai]
    rw [hσ a ai aj]
    exact R.sl a t q
 ·by_cases aj:a=j
  ·simp only [aj,if_true]
   exact nd.2.1
  ·by_cases ai:a=i
   ·simp only [if_neg aj,ai,if_true]
    rw [if_neg ij]
    exact nd.1
   ·simp only [if_neg aj,if_neg ai]
    exact R.nd a
 ·have hx' :∃b,x∈F b:=by
   by_cases aj:a=j
   ·simp only [aj,if_true] at hx
    rcases hm x (cP _ hx) with z|z
    ·exact⟨i,z⟩
    ·exact⟨j,z⟩
   ·by_cases ai:a=i
    ·simp only [if_neg aj,if_pos ai] at hx
     rcases hm x (bW _ hx) with z|z
     ·exact⟨i,z⟩
     ·exact⟨j,z⟩
    ·simp only [if_neg aj,if_neg ai] at hx
     exact⟨a,hx⟩
  obtain⟨b,hb⟩:=hx'
  exact R.fr b x hb
 ·--no two own the same
  have cls:∀c,(fun a=>if a=j then fj else if a=i then fi else F a) c=(if c=j then fj else if c=i then fi else F c):=fun _=>rfl
  have low:∀c,c≠i→c≠j→x∈F c→x∉F i∧x∉F j:=fun c c1 c2 hc=>⟨R.dj c i x c1 hc,R.dj c j x c2 hc⟩
  have out:∀c,c≠i→c≠j→x∈F c→x∉fi∧x∉fj:=fun c c1 c2 hc=>by
   obtain⟨n1,n2⟩:=low c c1 c2 hc
   exact⟨fun z=>(hm x (bW _ z)).elim n1 n2,fun z=>(hm x (cP _ z)).elim n1 n2⟩
  by_cases aj:a=j
  ·subst aj
   simp only [if_true] at hx
   by_cases bi:b=i
   ·simp only [if_neg (Ne.symm ab),if_pos bi]
    exact fun z=>nd.2.2 x z x hx rfl
   ·simp only [if_neg (Ne.symm ab),if_neg bi]
    exact fun z=>(out b bi (Ne.symm ab) z).2 hx
  ·by_cases ai:a=i
   ·subst ai
    simp only [if_neg aj,if_true] at hx
    by_cases bj:b=j
    ·simp only [if_pos bj]
     exact fun z=>nd.2.2 x hx x z rfl
    ·simp only [if_neg bj,if_neg (Ne.symm ab)]
     exact fun z=>(out b (Ne.symm ab) bj z).1 hx
   ·simp only [if_neg aj,if_neg ai] at hx
    obtain⟨o1,o2⟩:=out a ai aj hx
    by_cases bj:b=j
    ·simp only [if_pos bj]
     exact o2
    ·by_cases bi:b=i
     ·simp only [if_neg bj,if_pos bi]
      exact o1
     ·simp only [if_neg bj,if_neg bi]
      exact R.dj a b x ab hx
 ·by_cases bi:b=i
  ·exact hp b a hb (.inl bi)
  ·by_cases bj:b=j
   ·exact hp b a hb (.inr bj)
   ·rw [hσ b bi bj]
    exact R.pin b a hb
theorem gj.lend(R:gj K pn Hf Hb H σ ρ)(h:ρ[i]? =some (.nst .lst cs))(hu:∀s∈cs,s= .un):∃p vs,σ[i]? =some (some (.ref p))∧H p=some (.lst vs)∧Hf p=none∧Hb p=none∧vs.length=cs.length∧gj K pn (upd Hf p (.lst vs)) Hb H σ (ρ.set i .un):=by
 obtain⟨F,r⟩:=R
 obtain⟨v,h1,p,vs,hp,fq,rfl,⟨h2,rfl⟩,h3,h4⟩:=r.sl i _ h
 have e0:∀{vs cs fq},vU K Hb H vs cs fq→(∀s∈cs,s=Sl.un)→fq=[]∧vs.length=cs.length:=by
  intro vs cs fq c
  induction c with
  |nil=>intro _;exact⟨rfl,rfl⟩
  |dat _ _ _=>intro z;exact nomatch z _ aY
  |own _ _ _=>intro z;exact nomatch z _ aY
  |un _ ih=>
   intro z
   obtain⟨a,b⟩:=ih fun s hs=>z s (by simp [hs])
   exact⟨a,by simp [b]⟩
 obtain⟨rfl,vl⟩:=e0 h3 hu
 obtain⟨z1,z2,z3⟩:=r.fr i p (by rw [h4];simp)
 have ee:Ex Hf (upd Hf p (.lst vs)):=Ex.new z1
 refine⟨p,vs,h1,h2,z1,z2,vl,fun a=>if a=i then [] else F a,⟨fun a o ha=> ?_,r.eb,by rw [r.len];simp,fun a s hs=> ?_,fun a=> ?_,fun a x hx=> ?_,fun a b x ab hx=> ?_,r.pin⟩⟩
 ·by_cases ap:a=p
  ·subst ap
   rw [upd_same] at ha
   cases ha
   exact h2
  ·rw [upd_ne ap] at ha
   exact r.ef a o ha
 ·rcases Oc hs with⟨rfl,rfl⟩|⟨z,hs'⟩
  ·simp only [if_true]
   exact rfl
  ·simp only [if_neg z]
   exact(r.sl a s hs').hf ee
 ·split
  ·exact cH
  ·exact r.nd a
 ·split at hx
  ·cases hx
  ·rename_i ai
   have xp:x≠p:=fun z=>by
    subst z
    exact r.dj a i x ai hx (by rw [h4];simp)
   exact⟨by rw [upd_ne xp];exact(r.fr a x hx).1,(r.fr a x hx).2⟩
 ·split at hx
  ·cases hx
  ·split
   ·exact bB
   ·exact r.dj a b x ab hx
end
theorem PSs.ex1{α:Type}{X:Cx}{st:List Stmt}{t:α→TS}(h:∀a,PSs X st (t a)):PSs X st (fun E σ H=>∃a,t a E σ H):=⟨fun pins s σ H D I ⟨a,q⟩=>(h a).run pins s σ H D I q⟩
section
variable{K:ao}{H Hb Hf:Hp}{pn:Pn}{σ:L2.St}{ρ:Env}{i j0 j1 j2 j3:Nat}{p:Addr}
end
section
variable{X:Cx}{W:WQ}{rk:Kd}
end
section
variable{X:Cx}{W:WQ}{rk:Kd}{mx my:XM}{pos:Pos}
end
end DL
open DL
local macro_rules
 | `(tactic|simp! only [$a,*]$[$l:location]?)=> `(tactic|simp only [jG,jV,aD,fH,je,gG,gD,j7,rZ,lY,mY,uo,eIf,dU,Int.reduceLT,Int.reduceLE,Int.reduceEq,cX,dh,aC,beq_self_eq_true,Sb.ab5,$a,*]$[$l]?)
 | `(tactic|simp! [$a,*]$[$l:location]?)=> `(tactic|simp(disch:=omega) only [jG,jV,aD,fH,je,gG,gD,j7,rZ,lY,mY,uo,eIf,dU,Int.reduceLT,Int.reduceLE,Int.reduceEq,cX,dh,aC,beq_self_eq_true,Sb.ab5,lC,qZ,iy,uP,Cy,Int.reducePow,Int.reduceToNat,Int.reduceNeg,Int.reduceAdd,Int.reduceSub,Int.reduceMul,Int.reduceDiv,Int.reduceMod,$a,*]$[$l]?)
local macro_rules
 | `(tactic|dsimp! only [$a,*]$[$l:location]?)=> `(tactic|simp(disch:=omega) only [jG,jV,aD,fH,je,gG,gD,j7,rZ,lY,mY,uo,eIf,dU,Int.reduceLT,Int.reduceLE,Int.reduceEq,cX,dh,aC,beq_self_eq_true,Sb.ab5,$a,*]$[$l]?)
namespace Sb
open PySem PySem.Spec L2 Evl DL
def xs:List Str:=[]
def Cr:SM:=(gG (eG fX (eC (.str "0123456789ABCDEFGHIJKLMNOPQRSTUVWXYZabcdefghijklmnopqrstuvwxyz")) (eG iK (dZ 0) (eC (.int 62)))))
def lK:List D→ER:=jG [.dat] 0 Cr
def vA:SM:=(fH (gD 1 (eG fX (kJ [(eC (.int 1)),(eC (.int 2)),(eC (.int 2)),(eC (.int 3)),(eC (.int 62))]) (eG iK (dZ 0) (eC (.int 5)))))
 (fH (gD 2 (eG jw (eC (.int 1)) (eG iK (eG jB (dZ 0) (eC (.int 310))) (eC (.int 20)))))
 (gG (Bx vR (eC (.str "")) (Lq (Qt (dZ 1)) (gN 3) (eC (.bool true)) (fu lK [(eG jw (eG jB (dZ 0) (eC (.int 5))) (eG lQ (dZ 2) (dZ 3)))]) [3])))))
def vz:List D→ER:=jG [.dat] 3 vA
def wj:SM:=(fH (je (eG Nt (dZ 1) (fu jr [(dZ 0)])) (gG (eG iK (eG lQ (eG fX (dZ 0) (dZ 1)) (eC (.int 2718281828459045235360287471352662497757))) (eG sV (eC (.int 10)) (eC (.int 40))))) fU)
 (fH (gD 2 (eG jw (eG lQ (eG lQ (dZ 1) (dZ 1)) (eC (.int 7919))) (eC (.int 5))))
 (fH (je (eG dGt (fu jr [(dZ 0)]) (eC (.int 0))) (gD 2 (eG jw (dZ 2) (eG lQ (eG iK (eG fX (dZ 0) (eG iK (eG lQ (dZ 1) (eC (.int 7))) (fu jr [(dZ 0)]))) (eG sV (eC (.int 10)) (eC (.int 40)))) (eC (.int 48271))))) fU)
 (gG (eG iK (eG lQ (eG iK (eG lQ (dZ 2) (dZ 2)) (eC (.int 2147483629))) (eC (.int 2718281828459045235360287471352662497757))) (eG sV (eC (.int 10)) (eC (.int 40))))))))
def iW:List D→ER:=jG [.dat, .dat] 1 wj
def uR:SM:=(fH (je (eG jZ (eG iK (dZ 0) (eC (.int 4))) (eC (.int 0))) (gG (eG iK (eG jB (dZ 0) (eC (.int 4))) (fu Iv [(dZ 1),(eC (.int 3))]))) fU)
 (fH (je (eG jZ (eG iK (dZ 0) (eC (.int 4))) (eC (.int 1))) (gG (eG mW (eG mW (dZ 1) (eC (.int 1))) (eG iK (eG jB (dZ 0) (eC (.int 4))) (fu Iv [(dZ 1),(eC (.int 3))])))) fU)
 (gG (eG iK (eG lQ (eG jB (dZ 0) (eC (.int 4))) (eC (.int 1152921504606846883))) (dZ 1)))))
def jK:List D→ER:=jG [.dat, .dat] 0 uR
def uJ:SM:=(fH (gD 6 (eG jF (dZ 4) (dZ 1)))
 (fH (je (eG jZ (dZ 0) (eC (.int 7))) (gG (jc [(eC (.str "put")),(dZ 1),(eG fX (dZ 5) (eG iK (dZ 3) (fu jr [(dZ 5)]))),(fu lK [(eG jB (dZ 3) (eC (.int 62)))])])) fU)
 (fH (gD 7 (fu jK [(dZ 3),(eG jw (dZ 6) (eC (.int 1)))]))
 (fH (je (eG jZ (dZ 0) (eC (.int 8))) (gG (jc [(eC (.str "insert")),(dZ 1),(dZ 7),(dZ 2)])) fU)
 (fH (gD 8 (eG jw (dZ 7) (fu jK [(eG jB (dZ 3) (eC (.int 1000003))),(eG mW (eG jw (dZ 6) (eC (.int 1))) (dZ 7))])))
 (gG (jc [(eG fX (kJ [(eC (.str "cut")),(eC (.str "remove"))]) (eG jB (dZ 0) (eC (.int 9)))),(dZ 1),(dZ 7),(dZ 8)])))))))
def yH:List D→ER:=jG [.dat, .dat, .dat, .dat, .dat, .dat] 3 uJ
def uU:SM:=(fH (gD 3 (eG jw (eC (.int 1)) (eG iK (dZ 0) (eG fX (kJ [(eC (.int 6)),(eC (.int 6)),(eC (.int 40))]) (eG iK (eG jB (dZ 0) (eC (.int 240))) (eC (.int 3)))))))
 (fH (gD 4 (eC (.str "")))
 (fH (nD (Qt (fu Iv [(dZ 3),(dZ 2)])) (gN 5) (fH (gD 0 (eG iK (eG jw (eG jw (eG lQ (dZ 0) (eC (.int 48271))) (dZ 5)) (eC (.int 11))) (eC (.int 2147483647))))
 (gD 4 (eG jw (dZ 4) (eG fX (dZ 1) (eG iK (eG jB (dZ 0) (eC (.int 16))) (fu jr [(dZ 1)])))))))
 (gG (dZ 4)))))
def oG:List D→ER:=jG [.dat, .dat, .dat] 3 uU
def wN:SM:=(fH (gD 3 (eG iK (eG jB (dZ 0) (eC (.int 6))) (eC (.int 6))))
 (fH (je (eG jZ (eG iK (dZ 0) (eC (.int 6))) (eC (.int 3))) (gD 3 (eG iK (eG jB (dZ 0) (eC (.int 6))) (eC (.int 10007)))) fU)
 (fH (je (eG jZ (eG iK (dZ 0) (eC (.int 6))) (eC (.int 4))) (gD 3 (eG iK (eG lQ (eG jB (dZ 0) (eC (.int 6))) (eC (.int 1152921504606846883))) (eG jw (eG sV (eC (.int 2)) (eC (.int 60))) (eC (.int 1))))) fU)
 (fH (je (eG jZ (eG iK (dZ 0) (eC (.int 6))) (eC (.int 5))) (gD 3 (eG mW (eG sV (eC (.int 2)) (eC (.int 60))) (eG iK (eG jB (dZ 0) (eC (.int 6))) (eC (.int 3))))) fU)
 (gG (fu O7 [(dZ 3),(eG jB (dZ 2) (fu QF [(eC (.int 1)),(dZ 1)])),(eG sV (eC (.int 2)) (eC (.int 60)))]))))))
def qQ:List D→ER:=jG [.dat, .dat, .dat] 1 wN
def v7:SM:=(fH (gD 0 (eG jw (eG lQ (dZ 0) (eC (.int 1566083941))) (eC (.int 97))))
 (fH (gD 4 (nA (Eo pH (dZ 1))))
 (fH (gD 5 (eG iK (dZ 0) (eC (.int 10))))
 (fH (je (uo (eG jZ (dZ 5) (eC (.int 0))) (eG jZ (fu jr [(dZ 4)]) (eC (.int 0)))) (gG (jc [(eC (.str "is")),(fu oG [(eG jB (dZ 0) (eC (.int 40960))),(dZ 2),(dZ 3)])])) fU)
 (fH (gD 6 (eG fX (dZ 4) (eG iK (eG iK (eG jB (dZ 0) (eC (.int 10))) (eC (.int 64))) (fu jr [(dZ 4)]))))
 (fH (gD 7 (eG fX (dZ 4) (eG iK (eG iK (eG jB (dZ 0) (eC (.int 640))) (eC (.int 64))) (fu jr [(dZ 4)]))))
 (fH (je (mY (eG (YX false) (dZ 5) (jc [(eC (.int 1)),(eC (.int 2)),(eC (.int 8))])) (eG dGt (eG jw (eG jF (dZ 1) (dZ 6)) (eG jF (dZ 1) (dZ 7))) (dZ 3))) (gD 5 (eC (.int 6))) fU)
 (fH (je (eG Nt (dZ 5) (eC (.int 3))) (gG (jc [(eC (.str "join")),(dZ 6),(dZ 7)])) fU)
 (fH (je (eG Nt (dZ 5) (eC (.int 5))) (gG (jc [(eC (.str "times")),(dZ 6),(fu qQ [(eG jB (dZ 0) (eC (.int 40960))),(eG jF (dZ 1) (dZ 6)),(dZ 3)])])) fU)
 (fH (je (eG jZ (dZ 5) (eC (.int 6))) (gG (jc [(eC (.str "turn")),(dZ 6)])) fU)
 (gG (fu yH [(dZ 5),(dZ 6),(dZ 7),(eG jB (dZ 0) (eC (.int 40960))),(dZ 1),(dZ 2)]))))))))))))
def Ck:List D→ER:=jG [.dat, .dat, .dat, .dat] 4 v7
def yD:SM:=(fH (gD 1 (nA (kJ [(eC (.str "is")),(eC (.str "join")),(eC (.str "times")),(eC (.str "cut")),(eC (.str "turn")),(eC (.str "put")),(eC (.str "insert")),(eC (.str "remove"))])))
 (fH (gD 1 (eG jw (dZ 1) (kJ [(eC (.str "drop")),(eC (.str "swap")),(eC (.str "length")),(eC (.str "count")),(eC (.str "sign")),(eC (.str "show")),(eC (.str "stands"))])))
 (fH (gD 1 (eG jw (dZ 1) (kJ [(eC (.str "first")),(eC (.str "parts")),(eC (.str "order")),(eC (.str "piece")),(eC (.str "ring")),(eC (.str "form")),(eC (.str "words")),(eC (.str "none"))])))
 (gG (eG fX (dZ 1) (eG iK (dZ 0) (eC (.int 23))))))))
def yL:List D→ER:=jG [.dat] 1 yD
def v8:SM:=(fH (gD 2 (eG iK (dZ 0) (eC (.int 6))))
 (fH (gD 3 (eG jw (eC (.int 1)) (eG iK (eG jB (dZ 0) (eC (.int 6))) (eC (.int 8)))))
 (fH (je (eG jZ (dZ 2) (eC (.int 4))) (gD 3 (eG jw (eC (.int 1)) (dZ 1))) fU)
 (fH (je (eG jZ (dZ 2) (eC (.int 5))) (gG (fu yL [(eG jw (eG jB (dZ 0) (eC (.int 6))) (dZ 1))])) fU)
 (fH (gD 4 (eC (.str "")))
 (fH (nD (Qt (dZ 3)) (gN 5) (fH (gD 6 (eC (.int 0)))
 (fH (je (uo (eG jZ (dZ 2) (eC (.int 2))) (uo (eG jZ (dZ 2) (eC (.int 3))) (mY (eG Nt (dZ 2) (eC (.int 2))) (eG jZ (dZ 5) (eG iK (eG jB (dZ 0) (eC (.int 48))) (dZ 3)))))) (gD 6 (eG lQ (eC (.int 7)) (dZ 1))) fU)
 (fH (gD 7 (eG jw (eG jw (eG jB (dZ 0) (eC (.int 384))) (eG lQ (eC (.int 11)) (dZ 5))) (dZ 6)))
 (gD 4 (eG jw (dZ 4) (eG fX (eC (.str "abcdefghijklmnopqrstuvwxyz")) (eG iK (dZ 7) (eC (.int 26))))))))))
 (gG (dZ 4))))))))
def uh:List D→ER:=jG [.dat, .dat] 6 v8
def uI:SM:=(fH (j7 1 (eC (.dict [])))
 (fH (Rz (.p .lst 0 2) (gT [(gN 2),(gN 3)]) (oM 1 (dZ 2) (eG fX (oW .lst 0 1) (dZ 3))))
 (VP 1 (wV (dZ 1)))))
def uG:List Sl→RO:=KN [false] 3 uI
def EY:SM:=(gG (Bx vR (eC (.str " ")) (eG jw (kJ [(dZ 0)]) (Lq (iT (dZ 1)) (gN 2) (eC (.bool true)) (fu Fg [(dZ 2)]) [2]))))
def yX:List D→ER:=jG [.dat, .dat] 1 EY
def m9:SM:=(fH (je (eG jZ (eG fX (dZ 0) (eC (.int 0))) (eC (.str "is"))) (gG (dZ 0)) fU)
 (fH (je (eG jZ (eG fX (dZ 0) (eC (.int 0))) (eC (.str "join"))) (gG (jc [(eC (.str "join")),(eG jF (gR 1) (eG fX (dZ 0) (eC (.int 1)))),(eG jF (gR 1) (eG fX (dZ 0) (eC (.int 2))))])) fU)
 (fH (je (eG jZ (eG fX (dZ 0) (eC (.int 0))) (eC (.str "insert"))) (gG (jc [(eC (.str "insert")),(eG jF (gR 1) (eG fX (dZ 0) (eC (.int 1)))),(eG fX (dZ 0) (eC (.int 2))),(eG jF (gR 1) (eG fX (dZ 0) (eC (.int 3))))])) fU)
 (gG (eG jw (jc [(eG fX (dZ 0) (eC (.int 0))),(eG jF (gR 1) (eG fX (dZ 0) (eC (.int 1))))]) (eSl (dZ 0) (some (eC (.int 2))) none))))))
def lN:List D→ER:=jG [.dat, .bor] 0 m9
def kE:SM:=(fH (je (eG jZ (eG fX (dZ 0) (eC (.int 0))) (eC (.str "is"))) (gG (fu jr [(eG fX (dZ 0) (eC (.int 1)))])) fU)
 (fH (gD 2 (eG fX (gR 1) (eG fX (dZ 0) (eC (.int 1)))))
 (fH (je (eG jZ (eG fX (dZ 0) (eC (.int 0))) (eC (.str "join"))) (gG (eG jw (dZ 2) (eG fX (gR 1) (eG fX (dZ 0) (eC (.int 2)))))) fU)
 (fH (je (eG jZ (eG fX (dZ 0) (eC (.int 0))) (eC (.str "times"))) (gG (eG lQ (dZ 2) (eG fX (dZ 0) (eC (.int 2))))) fU)
 (fH (je (eG jZ (eG fX (dZ 0) (eC (.int 0))) (eC (.str "cut"))) (gG (eG mW (eG fX (dZ 0) (eC (.int 3))) (eG fX (dZ 0) (eC (.int 2))))) fU)
 (fH (je (eG jZ (eG fX (dZ 0) (eC (.int 0))) (eC (.str "insert"))) (gG (eG jw (dZ 2) (eG fX (gR 1) (eG fX (dZ 0) (eC (.int 3)))))) fU)
 (fH (je (eG jZ (eG fX (dZ 0) (eC (.int 0))) (eC (.str "remove"))) (gG (eG jw (eG mW (dZ 2) (eG fX (dZ 0) (eC (.int 3)))) (eG fX (dZ 0) (eC (.int 2))))) fU)
 (gG (dZ 2)))))))))
def jJ:List D→ER:=jG [.dat, .bor] 1 kE
def Dj:SM:=(fH (VD .lst 0 0 (fu lN [(dZ 2),(oW .lst 0 2)]))
 (fH (VD .lst 0 1 (fu jJ [(eG fX (oW .lst 0 0) (Eo QM (eC (.int 1)))),(oW .lst 0 1)]))
 (fH (W7 .lst 0 2 (dZ 1) (xE (eG mW (fu jr [(oW .lst 0 0)]) (eC (.int 1)))))
 (wV (fu yX [(dZ 1),(dZ 2)])))))
def qU:List Sl→RO:=KN [true,false,false] 0 Dj
def wL:SM:=(fH (gD 2 (Lq (Qt (eC (.int 5))) (gN 5) (eC (.bool true)) (fu uh [(fu iW [(dZ 0),(eC (.int 0))]),(dZ 5)]) [5]))
 (fH (gD 3 (fu vz [(eG jB (eG lQ (fu iW [(dZ 0),(eC (.int 0))]) (eC (.int 48271))) (eC (.int 7)))]))
 (fH (j7 4 (kJ []))
 (fH (nD (Qt (eC (.int 3))) (gN 5) (fH (gD 7 (jc [(eC (.str "is")),(fu oG [(fu iW [(dZ 0),(eG jw (eC (.int 1)) (dZ 5))]),(dZ 3),(eC (.int 40))])]))
 (zQ 4 (rP qU [.s 1, .d (eG fX (dZ 2) (dZ 5)), .d (dZ 7)]))))
 (fH (gD 6 (fu iW [(dZ 0),(eC (.int 4))]))
 (fH (je (eG jZ (eG iK (dZ 6) (eC (.int 2))) (eC (.int 0))) (zQ 4 (rP qU [.s 1, .d (eG fX (dZ 2) (eC (.int 0))), .d (jc [(eC (.str "times")),(eG fX (dZ 2) (eC (.int 0))),(fu qQ [(eG jB (dZ 6) (eC (.int 2))),(eG fX (oW .lst 1 1) (eC (.int 0))),(eG sV (eC (.int 2)) (eC (.int 60)))])])])) fU)
 (fH (gD 6 (fu iW [(dZ 0),(eC (.int 5))]))
 (fH (gD 7 (fu Ck [(eG jB (dZ 6) (eC (.int 5))),(uz uG [.r 1]),(dZ 3),(eG sV (eC (.int 2)) (eC (.int 60)))]))
 (fH (zQ 4 (rP qU [.s 1, .d (eG fX (dZ 2) (eG iK (dZ 6) (eC (.int 5)))), .d (dZ 7)]))
 (KH 4 (wV (dZ 4))))))))))))
def wR:List Sl→RO:=KN [false,true] 6 wL
def Oj:SM:=(fH (je (eG jZ (dZ 0) (eC (.str "is"))) (gG (nA (kJ [(eC (.str "signs"))]))) fU)
 (fH (je (eG jZ (dZ 0) (eC (.str "join"))) (gG (nA (kJ [(eC (.str "word")),(eC (.str "word"))]))) fU)
 (fH (je (eG jZ (dZ 0) (eC (.str "times"))) (gG (nA (kJ [(eC (.str "word")),(eC (.str "many"))]))) fU)
 (fH (je (eG jZ (dZ 0) (eC (.str "turn"))) (gG (nA (kJ [(eC (.str "word"))]))) fU)
 (fH (je (eG jZ (dZ 0) (eC (.str "put"))) (gG (nA (kJ [(eC (.str "word")),(eC (.str "sign")),(eC (.str "sign"))]))) fU)
 (fH (je (eG jZ (dZ 0) (eC (.str "insert"))) (gG (nA (kJ [(eC (.str "word")),(eC (.str "place")),(eC (.str "word"))]))) fU)
 (fH (je (uo (eG jZ (dZ 0) (eC (.str "cut"))) (eG jZ (dZ 0) (eC (.str "remove")))) (gG (nA (kJ [(eC (.str "word")),(eC (.str "place")),(eC (.str "place"))]))) fU)
 (gG (eC .none)))))))))
def vO:List D→ER:=jG [.dat] 0 Oj
def Dm:SM:=(gG (mY (Ae "str" (dZ 0)) (mY (eG jZ (fu jr [(dZ 0)]) (eC (.int 1))) (eG (Hz false) (dZ 0) (eC (.str "0123456789ABCDEFGHIJKLMNOPQRSTUVWXYZabcdefghijklmnopqrstuvwxyz"))))))
def tE:List D→ER:=jG [.dat] 0 Dm
def Em:SM:=(fH (je (lY (jd Qu Qu (eC (.int 1)) (fu jr [(dZ 0)]) (dZ 1))) (gG (eC .none)) fU)
 (fH (nD (iS (dZ 0)) (gN 2) (je (lY (fu tE [(dZ 2)])) (gG (eC .none)) fU))
 (gG (dZ 0))))
def sS:List D→ER:=jG [.dat, .dat] 1 Em
def Ir:SM:=(fH (je (lY (jd Qu Qu (eC (.int 1)) (fu jr [(dZ 0)]) (eC (.int 8)))) (gG (eC (.bool false))) fU)
 (fH (nD (iS (dZ 0)) (gN 1) (je (eG (Hz true) (dZ 1) (eC (.str "abcdefghijklmnopqrstuvwxyz"))) (gG (eC (.bool false))) fU))
 (gG (eC (.bool true)))))
def CV:List D→ER:=jG [.dat] 1 Ir
def Bu:SM:=(fH (je (uo (lY (jd Qu Qu (eC (.int 1)) (fu jr [(dZ 0)]) (eC (.int 19)))) (mY (eG dGt (fu jr [(dZ 0)]) (eC (.int 1))) (eG jZ (eG fX (dZ 0) (eC (.int 0))) (eC (.str "0"))))) (gG (eC .none)) fU)
 (fH (nD (iS (dZ 0)) (gN 2) (je (eG (Hz true) (dZ 2) (eC (.str "0123456789"))) (gG (eC .none)) fU))
 (fH (gD 3 (fu O3 [(dZ 0)]))
 (fH (je (eG dGt (dZ 3) (dZ 1)) (gG (eC .none)) fU)
 (gG (dZ 3))))))
def wO:List D→ER:=jG [.dat, .dat] 2 Bu
def tH:SM:=(fH (je (eG jZ (dZ 0) (eC (.str "word"))) (fH (je (fu CV [(dZ 1)]) (gG (dZ 1)) fU)
 (gG (eC .none))) fU)
 (fH (je (eG jZ (dZ 0) (eC (.str "place"))) (gG (fu wO [(dZ 1),(eG sV (eC (.int 10)) (eC (.int 19)))])) fU)
 (fH (je (eG jZ (dZ 0) (eC (.str "many"))) (gG (fu wO [(dZ 1),(eC (.int 1152921504606846976))])) fU)
 (fH (je (eG jZ (dZ 0) (eC (.str "sign"))) (gG (fu sS [(dZ 1),(eC (.int 1))])) fU)
 (fH (je (eG jZ (dZ 0) (eC (.str "pattern"))) (gG (fu sS [(dZ 1),(eC (.int 12))])) fU)
 (gG (fu sS [(dZ 1),(eC (.int 40))])))))))
def ju:List D→ER:=jG [.dat, .dat] 0 tH
def Bf:SM:=(fH (je (eG Ep (fu jr [(dZ 0)]) (fu jr [(dZ 1)])) (gG (eC .none)) fU)
 (fH (j7 2 (kJ []))
 (fH (nD (iZ (dZ 0) (dZ 1)) (gT [(gN 3),(gN 4)]) (fH (gD 5 (fu ju [(dZ 3),(dZ 4)]))
 (fH (je (eG yq (dZ 5) (eC .none)) (gG (eC .none)) fU)
 (sG 2 (dZ 5)))))
 (ad8 2))))
def Cd:List D→ER:=jG [.dat, .dat] 4 Bf
def vB:SM:=(fH (gD 1 (nA (Bx uD (dZ 0) (eC (.str " ")))))
 (fH (je (uo (eG Nt (fu jr [(dZ 1)]) (eC (.int 3))) (lY (fu CV [(eG fX (dZ 1) (eC (.int 0)))]))) (gG (eC .none)) fU)
 (fH (gD 2 (fu vO [(eG fX (dZ 1) (eC (.int 1)))]))
 (fH (je (eG yq (dZ 2) (eC .none)) (gG (eC .none)) fU)
 (fH (gD 3 (fu Cd [(dZ 2),(eSl (dZ 1) (some (eC (.int 2))) none)]))
 (fH (je (eG yq (dZ 3) (eC .none)) (gG (eC .none)) fU)
 (gG (jc [(eG fX (dZ 1) (eC (.int 1))),(eG fX (dZ 1) (eC (.int 0))),(dZ 3)]))))))))
def rH:List D→ER:=jG [.dat] 3 vB
def vq:SM:=(nD (iZ (dZ 1) (dZ 2)) (gT [(gN 3),(gN 4)]) (je (mY (eG jZ (dZ 3) (eC (.str "word"))) (eG (xV true) (dZ 4) (gR 0))) (zm "NoWord") fU))
def vp:List D→ER:=jG [.bor, .dat, .dat] 2 vq
def Tr:SM:=(je (mY (eG pU (dZ 1) (eC .none)) (lY (jd Qu Nt (eC (.int 0)) (dZ 1) (fu jr [(dZ 0)])))) (zm "NoName") fU)
def rK:List D→ER:=jG [.dat, .dat] 0 Tr
def yR:SM:=(fH (je (eG jZ (eG fX (dZ 0) (eC (.int 0))) (eC (.str "sign"))) (gG (kJ [])) fU)
 (fH (je (eG jZ (eG fX (dZ 0) (eC (.int 0))) (eC (.str "join"))) (gG (kJ [(eG fX (dZ 0) (eC (.int 1))),(eG fX (dZ 0) (eC (.int 2)))])) fU)
 (gG (kJ [(eG fX (dZ 0) (eC (.int 1)))]))))
def oE:List D→ER:=jG [.dat] 0 yR
def G4:SM:=(fH (je (eG yq (dZ 1) (eC .none)) (gG (kJ [])) fU)
 (fH (j7 2 (eD1 (dZ 1) (eC (.bool true))))
 (fH (nD (iR3 (dZ 1) (Eo QM (eC (.int 1))) (Eo QM (eC (.int 1)))) (gN 3) (je (eG (xV false) (dZ 3) (gR 2)) (nD (iL (nA (fu oE [(eG fX (dZ 0) (dZ 3))]))) (gN 4) (oM 2 (dZ 4) (eC (.bool true)))) fU))
 (gG (Eo Av (gR 2))))))
def nM:List D→ER:=jG [.dat, .dat] 3 G4
def CK:SM:=(fH (je (eG jZ (eG fX (dZ 0) (eC (.int 0))) (eC (.str "sign"))) (gG (dZ 0)) fU)
 (fH (je (eG jZ (eG fX (dZ 0) (eC (.int 0))) (eC (.str "join"))) (gG (jc [(eC (.str "join")),(eG Ip (gR 1) (eG fX (dZ 0) (eC (.int 1)))),(eG Ip (gR 1) (eG fX (dZ 0) (eC (.int 2))))])) fU)
 (gG (jc [(eC (.str "times")),(eG Ip (gR 1) (eG fX (dZ 0) (eC (.int 1)))),(eG fX (dZ 0) (eC (.int 2)))]))))
def lF:List D→ER:=jG [.dat, .bor] 0 CK
def acr:SM:=(fH (sG 0 (dZ 1))
 (Aa (eG mW (fu jr [(gR 0)]) (eC (.int 1)))))
def ug:List D→ER:=Ay 0 acr
def ZG:SM:=(fH (rZ (fu rK [(dZ 0),(dZ 1)]))
 (fH (j7 2 (kJ []))
 (fH (j7 3 (eC (tD [])))
 (fH (j7 4 (eC (.dict [])))
 (fH (nD (iL (nA (fu nM [(dZ 0),(dZ 1)]))) (gN 5) (fH (gD 6 (fu lF [(eG fX (dZ 0) (dZ 5)),(gR 4)]))
 (fH (je (eG (Xk true) (dZ 6) (gR 3)) (Oi 3 (dZ 6) (jg 2 ug [(dZ 6)])) fU)
 (oM 4 (dZ 5) (eG Ce (gR 3) (dZ 6))))))
 (gG (jc [(fu mK [(gR 2)]),(qw (gR 4) (dZ 1))])))))))
def Im:List D→ER:=jG [.dat, .dat] 5 ZG
def qF:SM:=(fH (gD 1 (jc []))
 (fH (j7 2 (kJ []))
 (fH (nD (iS (dZ 0)) (gN 3) (fH (sG 2 (fu jr [(dZ 1)]))
 (gD 1 (eG jw (dZ 1) (jc [(jc [(eC (.str "sign")),(dZ 3)])])))))
 (fH (zB (eG dGt (fu jr [(gR 2)]) (eC (.int 1))) (fH (j7 4 (kJ []))
 (fH (nD (iRc 2 (eC (.int 0)) (eG mW (fu jr [(gR 2)]) (eC (.int 1))) (eC (.int 2))) (gN 5) (fH (sG 4 (fu jr [(dZ 1)]))
 (gD 1 (eG jw (dZ 1) (jc [(jc [(eC (.str "join")),(eG fX (gR 2) (dZ 5)),(eG fX (gR 2) (eG jw (dZ 5) (eC (.int 1))))])])))))
 (fH (je (eG jZ (eG iK (fu jr [(gR 2)]) (eC (.int 2))) (eC (.int 1))) (sG 4 (eG fX (gR 2) (Eo QM (eC (.int 1))))) fU)
 (acO 2 4)))))
 (gG (jc [(dZ 1),(eG fX (gR 2) (eC (.int 0)))]))))))
def qG:List D→ER:=jG [.dat] 5 qF
def Jh:SM:=(fH (rZ (fu rK [(dZ 1),(dZ 2)]))
 (fH (gD 3 (fu jr [(dZ 0)]))
 (fH (gD 4 (Lq (Qt (fu jr [(dZ 1)])) (gN 7) (eC (.bool true)) (eG jw (dZ 3) (dZ 7)) [7]))
 (fH (j7 5 (fu qd [(dZ 0)]))
 (fH (nD (iT (dZ 1)) (gN 6) (sG 5 (fu lF [(dZ 6),(dZ 4)])))
 (fH (je (eG yq (dZ 2) (eC .none)) (gG (jc [(fu mK [(gR 5)]),(eC .none)])) fU)
 (gG (jc [(fu mK [(gR 5)]),(eG jw (dZ 3) (dZ 2))]))))))))
def yg:List D→ER:=jG [.dat, .dat, .dat] 5 Jh
def vH:SM:=(fH (nq (gT [(gN 2),(gN 3)]) (fu yg [(eG fX (dZ 0) (eC (.int 0))),(eG fX (dZ 1) (eC (.int 0))),(eG fX (dZ 1) (eC (.int 1)))]))
 (gG (jc [(dZ 2),(eG fX (dZ 0) (eC (.int 1))),(dZ 3)])))
def rM:List D→ER:=jG [.dat, .dat] 2 vH
def P0:SM:=(fH (je (eG yq (dZ 1) (eC .none)) (Aa (dZ 2)) fU)
 (fH (je (eG yq (dZ 2) (eC .none)) (Aa (dZ 1)) fU)
 (vY (jg 0 ug [(jc [(eC (.str "join")),(dZ 1),(dZ 2)])]))))
def jU:List D→ER:=Ay 0 P0
def CZ:SM:=(fH (je (eG jZ (eG fX (dZ 0) (eC (.int 0))) (eC (.str "sign"))) (gG (eC (.int 1))) fU)
 (fH (je (eG jZ (eG fX (dZ 0) (eC (.int 0))) (eC (.str "join"))) (gG (eG jw (eG fX (gR 1) (eG fX (dZ 0) (eC (.int 1)))) (eG fX (gR 1) (eG fX (dZ 0) (eC (.int 2)))))) fU)
 (gG (eG lQ (eG fX (gR 1) (eG fX (dZ 0) (eC (.int 1)))) (eG fX (dZ 0) (eC (.int 2)))))))
def tK:List D→ER:=jG [.dat, .bor] 0 CZ
def abi:SM:=(fH (j7 1 (kJ []))
 (fH (nD (iT (dZ 0)) (gN 2) (sG 1 (fu tK [(dZ 2),(gR 1)])))
 (Ft 1)))
def Dk:List D→ER:=jG [.dat] 2 abi
def Qm:SM:=(fH (rZ (fu rK [(dZ 0),(dZ 1)]))
 (fH (je (eG yq (dZ 1) (eC .none)) (gG (eC (.int 0))) fU)
 (gG (eG fX (fu Dk [(dZ 0)]) (dZ 1)))))
def oN:List D→ER:=jG [.dat, .dat] 0 Qm
def Ms:SM:=(fH (je (eG dGt (eG jw (fu oN [(dZ 0),(dZ 1)]) (fu oN [(dZ 0),(dZ 2)])) (eC (.int 1152921504606846976))) (zm "TooLong") fU)
 (fH (j7 3 (fu qd [(dZ 0)]))
 (fH (nU 4 (jg 3 jU [(dZ 1),(dZ 2)]))
 (gG (jc [(fu mK [(gR 3)]),(dZ 4)])))))
def vJ:List D→ER:=jG [.dat, .dat, .dat] 2 Ms
def YM:SM:=(fH (je (uo (eG yq (dZ 1) (eC .none)) (eG jZ (dZ 2) (eC (.int 0)))) (Aa (eC .none)) fU)
 (fH (je (eG jZ (dZ 2) (eC (.int 1))) (Aa (dZ 1)) fU)
 (vY (jg 0 ug [(jc [(eC (.str "times")),(dZ 1),(dZ 2)])]))))
def u6:List D→ER:=Ay 0 YM
def Aq:SM:=(fH (j7 4 (kJ []))
 (fH (zB (jd Nt Nt (eC (.int 0)) (dZ 3) (eG fX (dZ 1) (dZ 2))) (fH (gD 7 (eG fX (gR 0) (dZ 2)))
 (je (eG jZ (eG fX (dZ 7) (eC (.int 0))) (eC (.str "times"))) (fH (zQ 4 (jg 0 u6 [(eG fX (dZ 7) (eC (.int 1))),(eG jB (dZ 3) (eG fX (dZ 1) (eG fX (dZ 7) (eC (.int 1)))))]))
 (fH (gD 3 (eG iK (dZ 3) (eG fX (dZ 1) (eG fX (dZ 7) (eC (.int 1))))))
 (gD 2 (eG fX (dZ 7) (eC (.int 1)))))) (je (eG Nt (dZ 3) (eG fX (dZ 1) (eG fX (dZ 7) (eC (.int 2))))) (gD 2 (eG fX (dZ 7) (eC (.int 2)))) (fH (sG 4 (eG fX (dZ 7) (eC (.int 2))))
 (fH (gD 3 (eG mW (dZ 3) (eG fX (dZ 1) (eG fX (dZ 7) (eC (.int 2))))))
 (gD 2 (eG fX (dZ 7) (eC (.int 1))))))))))
 (fH (gD 5 (eC .none))
 (fH (je (eG dGt (dZ 3) (eC (.int 0))) (gD 5 (dZ 2)) fU)
 (fH (KH 4 (nD (YD (dZ 4)) (gN 6) (nU 5 (jg 0 jU [(dZ 5),(dZ 6)]))))
 (Aa (dZ 5)))))))
def yh:List D→ER:=Ay 4 Aq
def t7:SM:=(fH (j7 4 (kJ []))
 (fH (zB (jd Nt Nt (eC (.int 0)) (dZ 3) (eG fX (dZ 1) (dZ 2))) (fH (gD 7 (eG fX (gR 0) (dZ 2)))
 (fH (gD 8 (eG fX (dZ 1) (eG fX (dZ 7) (eC (.int 1)))))
 (je (eG jZ (eG fX (dZ 7) (eC (.int 0))) (eC (.str "times"))) (fH (zQ 4 (jg 0 u6 [(eG fX (dZ 7) (eC (.int 1))),(eG jB (dZ 3) (dZ 8))]))
 (fH (gD 3 (eG iK (dZ 3) (dZ 8)))
 (gD 2 (eG fX (dZ 7) (eC (.int 1)))))) (je (eG Nt (dZ 3) (dZ 8)) (gD 2 (eG fX (dZ 7) (eC (.int 1)))) (fH (sG 4 (eG fX (dZ 7) (eC (.int 1))))
 (fH (gD 3 (eG mW (dZ 3) (dZ 8)))
 (gD 2 (eG fX (dZ 7) (eC (.int 2)))))))))))
 (fH (gD 5 (eC .none))
 (fH (je (eG dGt (dZ 3) (eC (.int 0))) (gD 5 (dZ 2)) fU)
 (fH (KH 4 (nD (YD (dZ 4)) (gN 6) (nU 5 (jg 0 jU [(dZ 6),(dZ 5)]))))
 (Aa (dZ 5)))))))
def mH:List D→ER:=Ay 5 t7
def Gg:SM:=(fH (gD 5 (eG fX (dZ 2) (eC (.int 1))))
 (fH (gD 6 (eG fX (dZ 1) (dZ 5)))
 (fH (nU 7 (jg 0 yh [(dZ 1),(dZ 5),(eG mW (dZ 6) (dZ 3))]))
 (fH (je (eG jZ (eG fX (dZ 2) (eC (.int 0))) (eC (.str "join"))) (vY (xq 0 jU (dZ 7) (jg 0 mH [(dZ 1),(eG fX (dZ 2) (eC (.int 2))),(eG mW (dZ 4) (dZ 6))]))) fU)
 (fH (nU 7 (xq 0 jU (dZ 7) (jg 0 u6 [(dZ 5),(eG jB (eG mW (dZ 4) (dZ 6)) (dZ 6))])))
 (vY (xq 0 jU (dZ 7) (jg 0 mH [(dZ 1),(dZ 5),(eG iK (eG mW (dZ 4) (dZ 6)) (dZ 6))]))))))))
def xR:List D→ER:=Ay 3 Gg
def R8:SM:=(fH (gD 4 (fu oN [(dZ 0),(dZ 1)]))
 (fH (je (lY (oO Qu Qu Qu (eC (.int 0)) (dZ 2) (dZ 3) (dZ 4))) (zm "NoPlace") fU)
 (fH (je (eG jZ (dZ 2) (dZ 3)) (gG (jc [(fu mK [(dZ 0)]),(eC .none)])) fU)
 (fH (gD 5 (nA (fu Dk [(dZ 0)])))
 (fH (zB (eG Ep (eG fX (eG fX (dZ 0) (dZ 1)) (eC (.int 0))) (eC (.str "sign"))) (fH (gD 6 (eG fX (dZ 0) (dZ 1)))
 (fH (gD 4 (eG fX (dZ 5) (eG fX (dZ 6) (eC (.int 1)))))
 (fH (je (eG jZ (eG fX (dZ 6) (eC (.int 0))) (eC (.str "times"))) (fH (gD 3 (eG mW (dZ 3) (eG lQ (eG jB (dZ 2) (dZ 4)) (dZ 4))))
 (gD 2 (eG iK (dZ 2) (dZ 4)))) fU)
 (je (eG dGe (dZ 2) (dZ 4)) (fH (gD 2 (eG mW (dZ 2) (dZ 4)))
 (fH (gD 3 (eG mW (dZ 3) (dZ 4)))
 (gD 1 (eG fX (dZ 6) (eC (.int 2)))))) (je (eG Qu (dZ 3) (dZ 4)) (gD 1 (eG fX (dZ 6) (eC (.int 1)))) (fH (j7 7 (fu qd [(dZ 0)]))
 (fH (nU 8 (jg 7 xR [(dZ 5),(dZ 6),(dZ 2),(dZ 3)]))
 (gG (jc [(fu mK [(gR 7)]),(dZ 8)]))))))))))
 (gG (jc [(fu mK [(dZ 0)]),(dZ 1)])))))))
def Dz:List D→ER:=jG [.dat, .dat, .dat, .dat] 5 R8
def Ol:SM:=(fH (nq (gT [(gN 3),(gN 4),(gN 5)]) (fu rM [(dZ 0),(dZ 2)]))
 (fH (gD 6 (fu oN [(dZ 3),(dZ 4)]))
 (fH (nq (gT [(gN 3),(gN 7)]) (fu Dz [(dZ 3),(dZ 4),(eC (.int 0)),(dZ 1)]))
 (fH (nq (gT [(gN 3),(gN 8)]) (fu Dz [(dZ 3),(dZ 4),(dZ 1),(dZ 6)]))
 (fH (nq (gT [(gN 3),(gN 9)]) (fu vJ [(dZ 3),(dZ 7),(dZ 5)]))
 (gG (fu vJ [(dZ 3),(dZ 9),(dZ 8)])))))))
def MJ:List D→ER:=jG [.dat, .dat, .dat] 7 Ol
def Bc:SM:=(fH (je (eG jZ (dZ 0) (eC (.str "insert"))) (gG (fu MJ [(dZ 1),(eG fX (dZ 2) (eC (.int 1))),(eG jF (gR 3) (eG fX (dZ 2) (eC (.int 2))))])) fU)
 (fH (nq (gT [(gN 4),(gN 5),(gN 6)]) (fu rM [(dZ 1),(eG jF (gR 3) (eG fX (dZ 2) (eC (.int 1))))]))
 (gG (fu vJ [(dZ 4),(dZ 5),(dZ 6)]))))
def Qc:List D→ER:=jG [.dat, .dat, .dat, .bor] 3 Bc
def BZ:SM:=(fH (rZ (fu Dz [(eG fX (dZ 0) (eC (.int 0))),(eG fX (dZ 0) (eC (.int 1))),(dZ 1),(dZ 2)]))
 (fH (gD 3 (fu oN [(eG fX (dZ 0) (eC (.int 0))),(eG fX (dZ 0) (eC (.int 1)))]))
 (fH (nq (gT [(gN 4),(gN 5)]) (fu Dz [(eG fX (dZ 0) (eC (.int 0))),(eG fX (dZ 0) (eC (.int 1))),(eC (.int 0)),(dZ 1)]))
 (fH (nq (gT [(gN 4),(gN 6)]) (fu Dz [(dZ 4),(eG fX (dZ 0) (eC (.int 1))),(dZ 2),(dZ 3)]))
 (gG (fu vJ [(dZ 4),(dZ 5),(dZ 6)]))))))
def Bb:List D→ER:=jG [.dat, .dat, .dat] 4 BZ
def Ew:SM:=(fH (je (eG dGt (eG lQ (fu oN [(dZ 0),(dZ 1)]) (dZ 2)) (eC (.int 1152921504606846976))) (zm "TooLong") fU)
 (fH (j7 3 (fu qd [(dZ 0)]))
 (fH (nU 4 (jg 3 u6 [(dZ 1),(dZ 2)]))
 (gG (jc [(fu mK [(gR 3)]),(dZ 4)])))))
def Eu:List D→ER:=jG [.dat, .dat, .dat] 2 Ew
def Om:SM:=(fH (rZ (fu rK [(dZ 0),(dZ 1)]))
 (fH (j7 2 (fu qd [(dZ 0)]))
 (fH (j7 3 (eC (.dict [])))
 (fH (nD (iL (nA (fu nM [(dZ 0),(dZ 1)]))) (gN 4) (fH (gD 5 (fu lF [(eG fX (dZ 0) (dZ 4)),(gR 3)]))
 (fH (je (eG jZ (eG fX (dZ 5) (eC (.int 0))) (eC (.str "join"))) (gD 5 (jc [(eC (.str "join")),(eG fX (dZ 5) (eC (.int 2))),(eG fX (dZ 5) (eC (.int 1)))])) fU)
 (fH (oM 3 (dZ 4) (dZ 4))
 (je (eG Ep (dZ 5) (eG fX (dZ 0) (dZ 4))) (DQ 3 (dZ 4) (jg 2 ug [(dZ 5)])) fU)))))
 (gG (jc [(fu mK [(gR 2)]),(qw (gR 3) (dZ 1))]))))))
def BL:List D→ER:=jG [.dat, .dat] 4 Om
def Bs:SM:=(fH (rZ (fu rK [(dZ 0),(dZ 1)]))
 (fH (j7 4 (fu qd [(dZ 0)]))
 (fH (j7 5 (eC (.dict [])))
 (fH (nD (iL (nA (fu nM [(dZ 0),(dZ 1)]))) (gN 6) (fH (gD 7 (fu lF [(eG fX (dZ 0) (dZ 6)),(gR 5)]))
 (fH (je (eG jZ (dZ 7) (jc [(eC (.str "sign")),(dZ 2)])) (gD 7 (jc [(eC (.str "sign")),(dZ 3)])) fU)
 (fH (oM 5 (dZ 6) (dZ 6))
 (je (eG Ep (dZ 7) (eG fX (dZ 0) (dZ 6))) (DQ 5 (dZ 6) (jg 4 ug [(dZ 7)])) fU)))))
 (gG (jc [(fu mK [(gR 4)]),(qw (gR 5) (dZ 1))]))))))
def tV:List D→ER:=jG [.dat, .dat, .dat, .dat] 4 Bs
def pA:SM:=(fH (je (eG jZ (dZ 0) (eC (.str "times"))) (gG (fu Eu [(eG fX (dZ 1) (eC (.int 0))),(eG fX (dZ 1) (eC (.int 1))),(eG fX (dZ 2) (eC (.int 1)))])) fU)
 (fH (je (eG jZ (dZ 0) (eC (.str "turn"))) (gG (fu BL [(eG fX (dZ 1) (eC (.int 0))),(eG fX (dZ 1) (eC (.int 1)))])) fU)
 (fH (je (eG jZ (dZ 0) (eC (.str "put"))) (gG (fu tV [(eG fX (dZ 1) (eC (.int 0))),(eG fX (dZ 1) (eC (.int 1))),(eG fX (dZ 2) (eC (.int 1))),(eG fX (dZ 2) (eC (.int 2)))])) fU)
 (fH (je (eG jZ (dZ 0) (eC (.str "cut"))) (gG (fu Dz [(eG fX (dZ 1) (eC (.int 0))),(eG fX (dZ 1) (eC (.int 1))),(eG fX (dZ 2) (eC (.int 1))),(eG fX (dZ 2) (eC (.int 2)))])) fU)
 (gG (fu Bb [(dZ 1),(eG fX (dZ 2) (eC (.int 1))),(eG fX (dZ 2) (eC (.int 2)))]))))))
def Mg:List D→ER:=jG [.dat, .dat, .dat] 0 pA
def Ao:SM:=(fH (nq (gT [(gN 2),(gN 3),(gN 4)]) (dZ 1))
 (fH (rZ (fu vp [(gR 0),(fu vO [(dZ 2)]),(dZ 4)]))
 (fH (je (eG jZ (dZ 2) (eC (.str "is"))) (nq (gT [(gN 5),(gN 6)]) (fu qG [(eG fX (dZ 4) (eC (.int 0)))])) (je (uo (eG jZ (dZ 2) (eC (.str "join"))) (eG jZ (dZ 2) (eC (.str "insert")))) (nq (gT [(gN 5),(gN 6)]) (fu Qc [(dZ 2),(eG jF (gR 0) (eG fX (dZ 4) (eC (.int 0)))),(dZ 4),(gR 0)])) (nq (gT [(gN 5),(gN 6)]) (fu Mg [(dZ 2),(eG jF (gR 0) (eG fX (dZ 4) (eC (.int 0)))),(dZ 4)]))))
 (gG (fu Im [(dZ 5),(dZ 6)])))))
def qO:List D→ER:=jG [.bor, .dat] 5 Ao
def yF:SM:=(fH (j7 1 (eC (.dict [])))
 (fH (je (eG jZ (dZ 0) (eC (.str ""))) (Ft 1) fU)
 (fH (nD (iL (nA (Bx uD (dZ 0) (eC (.str "; "))))) (gN 2) (fH (gD 3 (fu rH [(dZ 2)]))
 (fH (je (eG yq (dZ 3) (eC .none)) (zm "NoText") fU)
 (oM 1 (eG fX (dZ 3) (eC (.int 1))) (fu qO [(gR 1),(dZ 3)])))))
 (Ft 1))))
def Fj:List D→ER:=jG [.dat] 3 yF
def U9:SM:=(fH (j7 1 (fu Fj [(dZ 0)]))
 (fH (gD 2 (jc []))
 (fH (j7 3 (kJ []))
 (fH (nD (iL (nA (Eo pH (gR 1)))) (gN 4) (fH (nq (gT [(gN 5),(gN 6)]) (eG jF (gR 1) (dZ 4)))
 (fH (nq (gT [(gN 2),(gN 6)]) (fu yg [(dZ 2),(dZ 5),(dZ 6)]))
 (sG 3 (jc [(dZ 4),(dZ 6)])))))
 (Jt 2 3)))))
def Jm:List D→ER:=jG [.dat] 6 U9
def Gm:SM:=(gG (mY (Ae "int" (dZ 0)) (lY (Ae "bool" (dZ 0)))))
def oF:List D→ER:=jG [.dat] 0 Gm
def pF:SM:=(fH (je (uo (lY (Ae "tuple" (dZ 0))) (uo (eG Nt (fu jr [(dZ 0)]) (eC (.int 2))) (lY (Ae "str" (eG fX (dZ 0) (eC (.int 0))))))) (gG (eC (.bool false))) fU)
 (fH (je (mY (eG jZ (eG fX (dZ 0) (eC (.int 0))) (eC (.str "sign"))) (eG jZ (fu jr [(dZ 0)]) (eC (.int 2)))) (gG (mY (Ae "str" (eG fX (dZ 0) (eC (.int 1)))) (mY (eG jZ (fu jr [(eG fX (dZ 0) (eC (.int 1)))]) (eC (.int 1))) (uo (eS0 (fun z=> .bool (Txt.isalpha z)) (eG fX (dZ 0) (eC (.int 1)))) (eS0 (fun z=> .bool (Txt.isdigit z)) (eG fX (dZ 0) (eC (.int 1)))))))) fU)
 (fH (je (uo (eG Ep (fu jr [(dZ 0)]) (eC (.int 3))) (uo (lY (fu oF [(eG fX (dZ 0) (eC (.int 1)))])) (uo (lY (jd Qu Nt (eC (.int 0)) (eG fX (dZ 0) (eC (.int 1))) (dZ 1))) (lY (fu oF [(eG fX (dZ 0) (eC (.int 2)))]))))) (gG (eC (.bool false))) fU)
 (fH (je (eG jZ (eG fX (dZ 0) (eC (.int 0))) (eC (.str "join"))) (gG (jd Qu Nt (eC (.int 0)) (eG fX (dZ 0) (eC (.int 2))) (dZ 1))) fU)
 (gG (mY (eG jZ (eG fX (dZ 0) (eC (.int 0))) (eC (.str "times"))) (jd Qu Qu (eC (.int 1)) (eG fX (dZ 0) (eC (.int 2))) (eG sV (eC (.int 2)) (eC (.int 60))))))))))
def lA:List D→ER:=jG [.dat, .dat] 0 pF
def vh:SM:=(fH (j7 1 (kJ []))
 (fH (nD (iT (dZ 0)) (gN 2) (fH (gD 3 (eC (.int 1)))
 (fH (je (eG jZ (eG fX (dZ 2) (eC (.int 0))) (eC (.str "join"))) (gD 3 (eG jw (eG fX (gR 1) (eG fX (dZ 2) (eC (.int 1)))) (eG fX (gR 1) (eG fX (dZ 2) (eC (.int 2)))))) (je (eG jZ (eG fX (dZ 2) (eC (.int 0))) (eC (.str "times"))) (gD 3 (eG lQ (eG fX (gR 1) (eG fX (dZ 2) (eC (.int 1)))) (eG fX (dZ 2) (eC (.int 2))))) fU))
 (sG 1 (dZ 3)))))
 (Ft 1)))
def pD:List D→ER:=jG [.dat] 3 vh
def Ca:SM:=(fH (je (uo (lY (Ae "tuple" (dZ 0))) (uo (eG Ep (fu jr [(dZ 0)]) (eC (.int 2))) (lY (Ae "tuple" (eG fX (dZ 0) (eC (.int 0))))))) (gG (eC (.bool false))) fU)
 (fH (je (uo (lY (Ae "list" (eG fX (dZ 0) (eC (.int 1))))) (eG Ep (fu jr [(eG fX (dZ 0) (eC (.int 1)))]) (fu jr [(dZ 1)]))) (gG (eC (.bool false))) fU)
 (fH (nD (Qt (fu jr [(eG fX (dZ 0) (eC (.int 0)))])) (gN 2) (je (lY (fu lA [(eG fX (eG fX (dZ 0) (eC (.int 0))) (dZ 2)),(dZ 2)])) (gG (eC (.bool false))) fU))
 (fH (nD (iZ (eG fX (dZ 0) (eC (.int 1))) (dZ 1)) (gT [(gN 3),(gN 4)]) (fH (je (uo (lY (Ae "tuple" (dZ 3))) (uo (eG Ep (fu jr [(dZ 3)]) (eC (.int 2))) (uo (lY (Ae "str" (eG fX (dZ 3) (eC (.int 0))))) (eG Ep (eG fX (dZ 3) (eC (.int 0))) (dZ 4))))) (gG (eC (.bool false))) fU)
 (je (mY (eG pU (eG fX (dZ 3) (eC (.int 1))) (eC .none)) (uo (lY (fu oF [(eG fX (dZ 3) (eC (.int 1)))])) (lY (jd Qu Nt (eC (.int 0)) (eG fX (dZ 3) (eC (.int 1))) (fu jr [(eG fX (dZ 0) (eC (.int 0)))]))))) (gG (eC (.bool false))) fU)))
 (gG (uo (eG jZ (fu jr [(eG fX (dZ 0) (eC (.int 0)))]) (eC (.int 0))) (eG Qu (fu QF [(fu pD [(eG fX (dZ 0) (eC (.int 0)))])]) (eG sV (eC (.int 2)) (eC (.int 60))))))))))
def wD:List D→ER:=jG [.dat, .dat] 3 Ca
def vC:SM:=(fH (zB (eG Ep (eG fX (eG fX (dZ 0) (dZ 2)) (eC (.int 0))) (eC (.str "sign"))) (fH (gD 4 (eG fX (eG fX (dZ 0) (dZ 2)) (eC (.int 1))))
 (je (eG jZ (eG fX (eG fX (dZ 0) (dZ 2)) (eC (.int 0))) (eC (.str "times"))) (fH (gD 3 (eG iK (dZ 3) (eG fX (dZ 1) (dZ 4))))
 (gD 2 (dZ 4))) (je (eG Nt (dZ 3) (eG fX (dZ 1) (dZ 4))) (gD 2 (dZ 4)) (fH (gD 3 (eG mW (dZ 3) (eG fX (dZ 1) (dZ 4))))
 (gD 2 (eG fX (eG fX (dZ 0) (dZ 2)) (eC (.int 2)))))))))
 (gG (eG fX (eG fX (dZ 0) (dZ 2)) (eC (.int 1)))))
def ou:List D→ER:=jG [.dat, .dat, .dat, .dat] 1 vC
def jx:SM:=(fH (gD 4 (eG fX (dZ 0) (eC (.int 1))))
 (fH (je (mY (eG jZ (eG fX (dZ 0) (eC (.int 0))) (eC (.str "join"))) (eG dGe (dZ 3) (eG fX (gR 1) (dZ 4)))) (gG (jc [(eG fX (dZ 0) (eC (.int 2))),(eG mW (dZ 3) (eG fX (gR 1) (dZ 4)))])) fU)
 (fH (je (eG jZ (eG fX (dZ 0) (eC (.int 0))) (eC (.str "times"))) (gG (jc [(dZ 4),(eG iK (dZ 3) (eG fX (gR 1) (dZ 4)))])) fU)
 (fH (je (eG jZ (eG fX (dZ 0) (eC (.int 0))) (eC (.str "cut"))) (gG (jc [(dZ 4),(eG jw (eG fX (dZ 0) (eC (.int 2))) (dZ 3))])) fU)
 (fH (je (eG jZ (eG fX (dZ 0) (eC (.int 0))) (eC (.str "turn"))) (gG (jc [(dZ 4),(eG mW (eG mW (dZ 2) (eC (.int 1))) (dZ 3))])) fU)
 (fH (je (mY (eG jZ (eG fX (dZ 0) (eC (.int 0))) (eC (.str "insert"))) (eG dGe (dZ 3) (eG jw (eG fX (dZ 0) (eC (.int 2))) (eG fX (gR 1) (eG fX (dZ 0) (eC (.int 3))))))) (gG (jc [(dZ 4),(eG mW (dZ 3) (eG fX (gR 1) (eG fX (dZ 0) (eC (.int 3)))))])) fU)
 (fH (je (mY (eG jZ (eG fX (dZ 0) (eC (.int 0))) (eC (.str "insert"))) (eG dGe (dZ 3) (eG fX (dZ 0) (eC (.int 2))))) (gG (jc [(eG fX (dZ 0) (eC (.int 3))),(eG mW (dZ 3) (eG fX (dZ 0) (eC (.int 2))))])) fU)
 (fH (je (mY (eG jZ (eG fX (dZ 0) (eC (.int 0))) (eC (.str "remove"))) (eG dGe (dZ 3) (eG fX (dZ 0) (eC (.int 2))))) (gG (jc [(dZ 4),(eG mW (eG jw (dZ 3) (eG fX (dZ 0) (eC (.int 3)))) (eG fX (dZ 0) (eC (.int 2))))])) fU)
 (gG (jc [(dZ 4),(dZ 3)]))))))))))
def iz:List D→ER:=jG [.dat, .bor, .dat, .dat] 1 jx
def vM:SM:=(fH (j7 4 (kJ []))
 (fH (zB (eG Ep (eG fX (eG fX (gR 0) (dZ 2)) (eC (.int 0))) (eC (.str "is"))) (fH (gD 8 (eG fX (gR 0) (dZ 2)))
 (fH (je (eG jZ (eG fX (dZ 8) (eC (.int 0))) (eC (.str "put"))) (sG 4 (jc [(eG fX (dZ 8) (eC (.int 2))),(eG fX (dZ 8) (eC (.int 3)))])) fU)
 (nq (gT [(gN 2),(gN 3)]) (fu iz [(dZ 8),(gR 1),(eG fX (gR 1) (dZ 2)),(dZ 3)])))))
 (fH (gD 5 (eG fX (eG fX (eG fX (gR 0) (dZ 2)) (eC (.int 1))) (dZ 3)))
 (fH (KH 4 (nD (YD (dZ 4)) (gT [(gN 6),(gN 7)]) (je (eG jZ (dZ 5) (dZ 6)) (gD 5 (dZ 7)) fU)))
 (gG (dZ 5))))))
def oY:List D→ER:=jG [.bor, .bor, .dat, .dat] 5 vM
def uL:SM:=(fH (gD 5 (nA (fu pD [(dZ 0)])))
 (fH (gD 6 (eG fX (oW .lst 2 1) (dZ 3)))
 (fH (je (uo (eG jZ (dZ 6) (eC (.int 0))) (eG yq (dZ 1) (eC .none))) (wV (mY (eG jZ (dZ 6) (eC (.int 0))) (eG yq (dZ 1) (eC .none)))) fU)
 (fH (je (eG Ep (eG fX (dZ 5) (dZ 1)) (dZ 6)) (wV (eC (.bool false))) fU)
 (fH (nD (iL (eG jw (kJ [(eC (.int 0)),(eG mW (dZ 6) (eC (.int 1)))]) (Lq (iL (dZ 4)) (gN 8) (eC (.bool true)) (fu jK [(dZ 8),(dZ 6)]) [8]))) (gN 7) (je (eG Ep (fu ou [(dZ 0),(dZ 5),(dZ 1),(dZ 7)]) (fu oY [(oW .lst 2 0),(oW .lst 2 1),(dZ 3),(dZ 7)])) (wV (eC (.bool false))) fU))
 (wV (eC (.bool true))))))))
def rE:List Sl→RO:=KN [false,false,false,false,false] 4 uL
def agI:SM:=(ahf 1 [(kJ []),(kJ []),(eC (.dict []))])
def ahg:SM:=(nU 2 (rP wR [.d (dZ 0), .s 1]))
def agA:SM:=(je (lY (fu wD [(dZ 3),(nA (Eo pH (oW .lst 1 2)))])) (gG (eC (.bool false))) fU)
def acH:SM:=(nD (iL (eG fX (dZ 3) (eC (.int 1)))) (gT [(gN 4),(gN 5)]) (fH (gD 8 (nA (kJ [])))
 (fH (je (eG jZ (eG jF (oW .lst 1 2) (dZ 4)) (eG mW (fu jr [(dZ 2)]) (eC (.int 1)))) (gD 8 (Lq (iR2 (eC (.int 6)) (fu Iv [(eC (.int 66)),(fu jr [(dZ 0)])])) (gN 9) (eC (.bool true)) (fu iW [(dZ 0),(dZ 9)]) [9])) fU)
 (je (lY (uz rE [.d (eG fX (dZ 3) (eC (.int 0))), .d (dZ 5), .r 1, .d (eG jF (oW .lst 1 2) (dZ 4)), .d (dZ 8)])) (gG (eC (.bool false))) fU))))
def agJ:SM:=(j7 6 (fu qd [(eG fX (dZ 3) (eC (.int 1)))]))
def ahc:EM:=(fu Jm [(Bx vR (eC (.str "; ")) (dZ 2))])
def ZQ:SM:=(fH (gD 7 (fu Jm [(Bx vR (eC (.str "; ")) (dZ 2))]))
 (gG (mY (eG jZ (eG fX (dZ 7) (eC (.int 0))) (eG fX (dZ 3) (eC (.int 0)))) (mY (eG jZ (eG fX (dZ 7) (eC (.int 1))) (gR 6)) (eG jZ (eG fX (dZ 3) (eC (.int 1))) (eG jw (gR 6) (kJ [(eC (.str "more"))])))))))
abbrev aa9:Prop:=∀ns:List Int,ns.length≤63→(∀z∈ns,Builtin.Int.intBits z≤1048576)→ae8 "more" (1+9) 3 2 6 agI ahg ahc agA acH agJ ZQ (.dat (.list (ns.map aH))::aD 9 .un)
end Sb
namespace Sb
open PySem PySem.Spec L2 Evl DL
def top(i:Nat):Stmt:=PySem.Challenge.pw_shortbook_k61_one_statement.main.body.getD i (.Pass ⟨0,0,0,0⟩)
abbrev rN:Stmt:=top 64
def Cj:He.DefD:=⟨("_law_sign_by",none),"_law_sign_by","_law_sign_by",defArgs rN,defBody rN,defScope rN,[],[]⟩
theorem z9:FnScope ["_law_cell_here"] ["_law_cell_here"] (defScope rN):=⟨rfl,rfl,rfl,by decide+kernel,rfl,by decide+kernel,by decide+kernel⟩
abbrev o9:Stmt:=top 68
def Cp:He.DefD:=⟨("_law_letters",none),"_law_letters","_law_letters",defArgs o9,defBody o9,defScope o9,[],[]⟩
theorem zV:FnScope ["_law_cell_here","_law_many_here","_law_step","_law_k"] ["_law_cell_here"] (defScope o9):=⟨rfl,rfl,rfl,by decide+kernel,rfl,by decide+kernel,by decide+kernel⟩
abbrev wH:Stmt:=top 63
def JR:He.DefD:=⟨("_law_cell",none),"_law_cell","_law_cell",defArgs wH,defBody wH,defScope wH,[],[]⟩
theorem Gp:FnScope ["_law_script","_law_k","_law_number"] ["_law_script","_law_k"] (defScope wH):=⟨rfl,rfl,rfl,by decide+kernel,rfl,by decide+kernel,by decide+kernel⟩
abbrev uO:Stmt:=top 65
def Fw:He.DefD:=⟨("_law_place",none),"_law_place","_law_place",defArgs uO,defBody uO,defScope uO,[],[]⟩
theorem Dy:FnScope ["_law_cell_here","_law_size"] ["_law_cell_here","_law_size"] (defScope uO):=⟨rfl,rfl,rfl,by decide+kernel,rfl,by decide+kernel,by decide+kernel⟩
abbrev uM:Stmt:=top 71
def Ho:He.DefD:=⟨("_law_inner",none),"_law_inner","_law_inner",defArgs uM,defBody uM,defScope uM,[],[]⟩
theorem DK:FnScope ["_law_way","_law_one","_law_other","_law_cell_here","_law_sizes","_law_letters_here","_law_size","_law_start","_law_end"] ["_law_way","_law_one","_law_other","_law_cell_here","_law_sizes","_law_letters_here"] (defScope uM):=⟨rfl,rfl,rfl,by decide+kernel,rfl,by decide+kernel,by decide+kernel⟩
abbrev uN:Stmt:=top 69
def HS:He.DefD:=⟨("_law_signs",none),"_law_signs","_law_signs",defArgs uN,defBody uN,defScope uN,[],[]⟩
theorem DR:FnScope ["_law_cell_here","_law_letters_here","_law_most","_law_size","_law_signs_here","_law_k"] ["_law_cell_here","_law_letters_here","_law_most"] (defScope uN):=⟨rfl,rfl,rfl,by decide+kernel,rfl,by decide+kernel,by decide+kernel⟩
abbrev wz:Stmt:=top 70
def Jy:He.DefD:=⟨("_law_many",none),"_law_many","_law_many",defArgs wz,defBody wz,defScope wz,[],[]⟩
theorem Gk:FnScope ["_law_cell_here","_law_size","_law_most","_law_many_here"] ["_law_cell_here","_law_size","_law_most"] (defScope wz):=⟨rfl,rfl,rfl,by decide+kernel,rfl,by decide+kernel,by decide+kernel⟩
abbrev vX:Stmt:=top 72
def Kl:He.DefD:=⟨("_law_deed",none),"_law_deed","_law_deed",defArgs vX,defBody vX,defScope vX,[],[]⟩
theorem FZ:FnScope ["_law_cell_here","_law_sizes","_law_letters_here","_law_most","_law_words","_law_way","_law_one","_law_other"] ["_law_cell_here","_law_sizes","_law_letters_here","_law_most"] (defScope vX):=⟨rfl,rfl,rfl,by decide+kernel,rfl,by decide+kernel,by decide+kernel⟩
abbrev uH:Stmt:=top 66
def Gf:He.DefD:=⟨("_law_verbs",none),"_law_verbs","_law_verbs",defArgs uH,defBody uH,defScope uH,[],[]⟩
theorem Eb:FnScope ["_law_cell_here","_law_some"] ["_law_cell_here"] (defScope uH):=⟨rfl,rfl,rfl,by decide+kernel,rfl,by decide+kernel,by decide+kernel⟩
abbrev vW:Stmt:=top 67
def JB:He.DefD:=⟨("_law_word",none),"_law_word","_law_word",defArgs vW,defBody vW,defScope vW,[],[]⟩
theorem Fv:FnScope ["_law_cell_here","_law_k","_law_kind","_law_size","_law_word_here","_law_j","_law_step","_law_at"] ["_law_cell_here","_law_k"] (defScope vW):=⟨rfl,rfl,rfl,by decide+kernel,rfl,by decide+kernel,by decide+kernel⟩
abbrev uK:Stmt:=top 78
def Gv:He.DefD:=⟨("_law_sized",none),"_law_sized","_law_sized",defArgs uK,defBody uK,defScope uK,[],[]⟩
theorem DY:FnScope ["_law_model","_law_sized_here","_law_word_here","_law_node_here"] ["_law_model"] (defScope uK):=⟨rfl,rfl,rfl,by decide+kernel,rfl,by decide+kernel,by decide+kernel⟩
abbrev u5:Stmt:=top 73
def Nq:He.DefD:=⟨("_law_row",none),"_law_row","_law_row",defArgs u5,defBody u5,defScope u5,[],[]⟩
theorem JG:FnScope ["_law_new","_law_deed_here","_law_part"] ["_law_new","_law_deed_here"] (defScope u5):=⟨rfl,rfl,rfl,by decide+kernel,rfl,by decide+kernel,by decide+kernel⟩
abbrev wF:Stmt:=top 75
def JN:He.DefD:=⟨("_law_node",none),"_law_node","_law_node",defArgs wF,defBody wF,defScope wF,[],[]⟩
theorem FQ:FnScope ["_law_deed_here","_law_names"] ["_law_deed_here","_law_names"] (defScope wF):=⟨rfl,rfl,rfl,by decide+kernel,rfl,by decide+kernel,by decide+kernel⟩
abbrev rY:Stmt:=top 74
def Be:He.DefD:=⟨("_law_size_of",none),"_law_size_of","_law_size_of",defArgs rY,defBody rY,defScope rY,[],[]⟩
theorem zR:FnScope ["_law_node_here","_law_sizes","_law_size"] ["_law_node_here","_law_sizes"] (defScope rY):=⟨rfl,rfl,rfl,by decide+kernel,rfl,by decide+kernel,by decide+kernel⟩
abbrev Df:Stmt:=top 79
def RJ:He.DefD:=⟨("_law_do",none),"_law_do","_law_do",defArgs Df,defBody Df,defScope Df,[],[]⟩
theorem Pa:FnScope ["_law_model","_law_new","_law_deed_here"] ["_law_model","_law_new","_law_deed_here"] (defScope Df):=⟨rfl,rfl,rfl,by decide+kernel,rfl,by decide+kernel,by decide+kernel⟩
abbrev tW:Stmt:=top 86
def Kh:He.DefD:=⟨("_law_rows",none),"_law_rows","_law_rows",defArgs tW,defBody tW,defScope tW,[],[]⟩
theorem G9:FnScope ["_law_script","_law_model","_law_words","_law_letters_here","_law_rows_here","_law_k","_law_cell_here","_law_deed_here"] ["_law_script","_law_model"] (defScope tW):=⟨rfl,rfl,rfl,by decide+kernel,rfl,by decide+kernel,by decide+kernel⟩
abbrev zA:Stmt:=top 49
def LK:He.DefD:=⟨("kinds_of",none),"kinds_of","kinds_of",defArgs zA,defBody zA,defScope zA,[],[]⟩
theorem JZ:FnScope ["verb"] ["verb"] (defScope zA):=⟨rfl,rfl,rfl,by decide+kernel,rfl,by decide+kernel,by decide+kernel⟩
abbrev Dh:Stmt:=top 9
def Rg:He.DefD:=⟨("is_sign",none),"is_sign","is_sign",defArgs Dh,defBody Dh,defScope Dh,[],[]⟩
theorem Qa:FnScope ["thing"] ["thing"] (defScope Dh):=⟨rfl,rfl,rfl,by decide+kernel,rfl,by decide+kernel,by decide+kernel⟩
abbrev zH:Stmt:=top 45
def Px:He.DefD:=⟨("signs_of",none),"signs_of","signs_of",defArgs zH,defBody zH,defScope zH,[],[]⟩
theorem JH:FnScope ["text","most","sign"] ["text","most"] (defScope zH):=⟨rfl,rfl,rfl,by decide+kernel,rfl,by decide+kernel,by decide+kernel⟩
abbrev CT:Stmt:=top 43
def RK:He.DefD:=⟨("is_word",none),"is_word","is_word",defArgs CT,defBody CT,defScope CT,[],[]⟩
theorem Nb:FnScope ["text","sign"] ["text"] (defScope CT):=⟨rfl,rfl,rfl,by decide+kernel,rfl,by decide+kernel,by decide+kernel⟩
abbrev wA:Stmt:=top 44
def JD:He.DefD:=⟨("number_of",none),"number_of","number_of",defArgs wA,defBody wA,defScope wA,[],[]⟩
theorem Fx:FnScope ["text","most","sign","number"] ["text","most"] (defScope wA):=⟨rfl,rfl,rfl,by decide+kernel,rfl,by decide+kernel,by decide+kernel⟩
abbrev yG:Stmt:=top 46
def MN:He.DefD:=⟨("value_of",none),"value_of","value_of",defArgs yG,defBody yG,defScope yG,[],[]⟩
theorem Jx:FnScope ["kind","word"] ["kind","word"] (defScope yG):=⟨rfl,rfl,rfl,by decide+kernel,rfl,by decide+kernel,by decide+kernel⟩
abbrev wu:Stmt:=top 47
def JQ:He.DefD:=⟨("values_of",none),"values_of","values_of",defArgs wu,defBody wu,defScope wu,[],[]⟩
theorem Ge:FnScope ["kinds","words","values","kind","word","value"] ["kinds","words"] (defScope wu):=⟨rfl,rfl,rfl,by decide+kernel,rfl,by decide+kernel,by decide+kernel⟩
abbrev rJ:Stmt:=top 50
def Az:He.DefD:=⟨("statement_of",none),"statement_of","statement_of",defArgs rJ,defBody rJ,defScope rJ,[],[]⟩
theorem Ab:FnScope ["row","words","kinds","values"] ["row"] (defScope rJ):=⟨rfl,rfl,rfl,by decide+kernel,rfl,by decide+kernel,by decide+kernel⟩
abbrev rW:Stmt:=top 51
def Bj:He.DefD:=⟨("ask_standing",none),"ask_standing","ask_standing",defArgs rW,defBody rW,defScope rW,[],[]⟩
theorem zY:FnScope ["texts","kinds","values","kind","value"] ["texts","kinds","values"] (defScope rW):=⟨rfl,rfl,rfl,by decide+kernel,rfl,by decide+kernel,by decide+kernel⟩
abbrev Lr:Stmt:=top 16
def aaE:He.DefD:=⟨("named",none),"named","named",defArgs Lr,defBody Lr,defScope Lr,[],[]⟩
theorem Wk:FnScope ["rules","name"] ["rules","name"] (defScope Lr):=⟨rfl,rfl,rfl,by decide+kernel,rfl,by decide+kernel,by decide+kernel⟩
abbrev zL:Stmt:=top 13
def Np:He.DefD:=⟨("parts_of",none),"parts_of","parts_of",defArgs zL,defBody zL,defScope zL,[],[]⟩
theorem Kv:FnScope ["rule"] ["rule"] (defScope zL):=⟨rfl,rfl,rfl,by decide+kernel,rfl,by decide+kernel,by decide+kernel⟩
abbrev FJ:Stmt:=top 14
def Wn:He.DefD:=⟨("needed",none),"needed","needed",defArgs FJ,defBody FJ,defScope FJ,[],[]⟩
theorem RG:FnScope ["rules","name","seen","number","part"] ["rules","name"] (defScope FJ):=⟨rfl,rfl,rfl,by decide+kernel,rfl,by decide+kernel,by decide+kernel⟩
abbrev CG:Stmt:=top 23
def RQ:He.DefD:=⟨("renamed",none),"renamed","renamed",defArgs CG,defBody CG,defScope CG,[],[]⟩
theorem Qs:FnScope ["rule","numbers"] ["rule","numbers"] (defScope CG):=⟨rfl,rfl,rfl,by decide+kernel,rfl,by decide+kernel,by decide+kernel⟩
abbrev aan:Stmt:=top 20
def agc:He.DefD:=⟨("put",none),"put","put",defArgs aan,defBody aan,defScope aan,[],[]⟩
theorem adu:FnScope ["rows","rule"] ["rows","rule"] (defScope aan):=⟨rfl,rfl,rfl,by decide+kernel,rfl,by decide+kernel,by decide+kernel⟩
abbrev Vw:Stmt:=top 32
def acy:He.DefD:=⟨("tidy",none),"tidy","tidy",defArgs Vw,defBody Vw,defScope Vw,[],[]⟩
theorem aat:FnScope ["rules","name","rows","kept","numbers","number","rule"] ["rules","name"] (defScope Vw):=⟨rfl,rfl,rfl,by decide+kernel,rfl,by decide+kernel,by decide+kernel⟩
abbrev qD:Stmt:=top 52
def zX:He.DefD:=⟨("spelled_rules",none),"spelled_rules","spelled_rules",defArgs qD,defBody qD,defScope qD,[],[]⟩
theorem yu:FnScope ["signs","rules","names","sign","above","at"] ["signs"] (defScope qD):=⟨rfl,rfl,rfl,by decide+kernel,rfl,by decide+kernel,by decide+kernel⟩
abbrev xP:Stmt:=top 26
def Ro:He.DefD:=⟨("brought",none),"brought","brought",defArgs xP,defBody xP,defScope xP,[],[]⟩
theorem M4:FnScope ["rules","others","name","far","numbers","rows","rule","number"] ["rules","others","name"] (defScope xP):=⟨rfl,rfl,rfl,by decide+kernel,rfl,by decide+kernel,by decide+kernel⟩
abbrev rC:Stmt:=top 53
def Ak:He.DefD:=⟨("side_by_side",none),"side_by_side","side_by_side",defArgs rC,defBody rC,defScope rC,[],[]⟩
theorem zP:FnScope ["one","other","rules","name"] ["one","other"] (defScope rC):=⟨rfl,rfl,rfl,by decide+kernel,rfl,by decide+kernel,by decide+kernel⟩
abbrev HJ:Stmt:=top 21
def VR:He.DefD:=⟨("linked",none),"linked","linked",defArgs HJ,defBody HJ,defScope HJ,[],[]⟩
theorem Rh:FnScope ["rows","one","other"] ["rows","one","other"] (defScope HJ):=⟨rfl,rfl,rfl,by decide+kernel,rfl,by decide+kernel,by decide+kernel⟩
abbrev Dg:Stmt:=top 12
def Rp:He.DefD:=⟨("size_of",none),"size_of","size_of",defArgs Dg,defBody Dg,defScope Dg,[],[]⟩
theorem O6:FnScope ["rule","sizes"] ["rule","sizes"] (defScope Dg):=⟨rfl,rfl,rfl,by decide+kernel,rfl,by decide+kernel,by decide+kernel⟩
abbrev CJ:Stmt:=top 17
def SQ:He.DefD:=⟨("lengths",none),"lengths","lengths",defArgs CJ,defBody CJ,defScope CJ,[],[]⟩
theorem Pq:FnScope ["rules","sizes","rule"] ["rules"] (defScope CJ):=⟨rfl,rfl,rfl,by decide+kernel,rfl,by decide+kernel,by decide+kernel⟩
abbrev GX:Stmt:=top 18
def X7:He.DefD:=⟨("length",none),"length","length",defArgs GX,defBody GX,defScope GX,[],[]⟩
theorem Rv:FnScope ["rules","name"] ["rules","name"] (defScope GX):=⟨rfl,rfl,rfl,by decide+kernel,rfl,by decide+kernel,by decide+kernel⟩
abbrev HX:Stmt:=top 24
def XC:He.DefD:=⟨("joined",none),"joined","joined",defArgs HX,defBody HX,defScope HX,[],[]⟩
theorem Rj:FnScope ["rules","one","other","rows","name"] ["rules","one","other"] (defScope HX):=⟨rfl,rfl,rfl,by decide+kernel,rfl,by decide+kernel,by decide+kernel⟩
abbrev Vc:Stmt:=top 22
def ada:He.DefD:=⟨("over",none),"over","over",defArgs Vc,defBody Vc,defScope Vc,[],[]⟩
theorem aa' :FnScope ["rows","one","many"] ["rows","one","many"] (defScope Vc):=⟨rfl,rfl,rfl,by decide+kernel,rfl,by decide+kernel,by decide+kernel⟩
abbrev GJ:Stmt:=top 28
def V4:He.DefD:=⟨("ending",none),"ending","ending",defArgs GJ,defBody GJ,defScope GJ,[],[]⟩
theorem R9:FnScope ["rows","sizes","name","many","parts","found","part","rule"] ["rows","sizes","name","many"] (defScope GJ):=⟨rfl,rfl,rfl,by decide+kernel,rfl,by decide+kernel,by decide+kernel⟩
abbrev wI:Stmt:=top 27
def Ke:He.DefD:=⟨("beginning",none),"beginning","beginning",defArgs wI,defBody wI,defScope wI,[],[]⟩
theorem Hr:FnScope ["rows","sizes","name","many","parts","found","part","rule","size"] ["rows","sizes","name","many"] (defScope wI):=⟨rfl,rfl,rfl,by decide+kernel,rfl,by decide+kernel,by decide+kernel⟩
abbrev Hg:Stmt:=top 29
def YB:He.DefD:=⟨("across",none),"across","across",defArgs Hg,defBody Hg,defScope Hg,[],[]⟩
theorem RP:FnScope ["rows","sizes","rule","start","end","one","size","found"] ["rows","sizes","rule","start","end"] (defScope Hg):=⟨rfl,rfl,rfl,by decide+kernel,rfl,by decide+kernel,by decide+kernel⟩
abbrev aaO:Stmt:=top 30
def af6:He.DefD:=⟨("cut",none),"cut","cut",defArgs aaO,defBody aaO,defScope aaO,[],[]⟩
theorem ady:FnScope ["rules","name","start","end","size","sizes","rule","rows","found"] ["rules","name","start","end"] (defScope aaO):=⟨rfl,rfl,rfl,by decide+kernel,rfl,by decide+kernel,by decide+kernel⟩
abbrev Gy:Stmt:=top 54
def Wu:He.DefD:=⟨("put_in",none),"put_in","put_in",defArgs Gy,defBody Gy,defScope Gy,[],[]⟩
theorem SJ:FnScope ["one","place","other","rules","name","middle","size","head","tail","front"] ["one","place","other"] (defScope Gy):=⟨rfl,rfl,rfl,by decide+kernel,rfl,by decide+kernel,by decide+kernel⟩
abbrev GD:Stmt:=top 56
def Xb:He.DefD:=⟨("of_two",none),"of_two","of_two",defArgs GD,defBody GD,defScope GD,[],[]⟩
theorem Q8:FnScope ["verb","one","values","texts","rules","name","other"] ["verb","one","values","texts"] (defScope GD):=⟨rfl,rfl,rfl,by decide+kernel,rfl,by decide+kernel,by decide+kernel⟩
abbrev wG:Stmt:=top 55
def J9:He.DefD:=⟨("taken_out",none),"taken_out","taken_out",defArgs wG,defBody wG,defScope wG,[],[]⟩
theorem Gx:FnScope ["one","start","end","size","rules","head","tail"] ["one","start","end"] (defScope wG):=⟨rfl,rfl,rfl,by decide+kernel,rfl,by decide+kernel,by decide+kernel⟩
abbrev yZ:Stmt:=top 25
def Mi:He.DefD:=⟨("repeated",none),"repeated","repeated",defArgs yZ,defBody yZ,defScope yZ,[],[]⟩
theorem JX:FnScope ["rules","name","many","rows","found"] ["rules","name","many"] (defScope yZ):=⟨rfl,rfl,rfl,by decide+kernel,rfl,by decide+kernel,by decide+kernel⟩
abbrev Ht:Stmt:=top 34
def X4:He.DefD:=⟨("turned",none),"turned","turned",defArgs Ht,defBody Ht,defScope Ht,[],[]⟩
theorem Ri:FnScope ["rules","name","rows","numbers","number","rule"] ["rules","name"] (defScope Ht):=⟨rfl,rfl,rfl,by decide+kernel,rfl,by decide+kernel,by decide+kernel⟩
abbrev wB:Stmt:=top 35
def Ko:He.DefD:=⟨("otherwise",none),"otherwise","otherwise",defArgs wB,defBody wB,defScope wB,[],[]⟩
theorem G3:FnScope ["rules","name","sign","other","rows","numbers","number","rule"] ["rules","name","sign","other"] (defScope wB):=⟨rfl,rfl,rfl,by decide+kernel,rfl,by decide+kernel,by decide+kernel⟩
abbrev Gi:Stmt:=top 57
def V8:He.DefD:=⟨("of_one",none),"of_one","of_one",defArgs Gi,defBody Gi,defScope Gi,[],[]⟩
theorem Q9:FnScope ["verb","one","values"] ["verb","one","values"] (defScope Gi):=⟨rfl,rfl,rfl,by decide+kernel,rfl,by decide+kernel,by decide+kernel⟩
abbrev wJ:Stmt:=top 58
def Km:He.DefD:=⟨("made_text",none),"made_text","made_text",defArgs wJ,defBody wJ,defScope wJ,[],[]⟩
theorem Hw:FnScope ["texts","deed","verb","new","values","rules","name"] ["texts","deed"] (defScope wJ):=⟨rfl,rfl,rfl,by decide+kernel,rfl,by decide+kernel,by decide+kernel⟩
abbrev zF:Stmt:=top 60
def NQ:He.DefD:=⟨("texts_of",none),"texts_of","texts_of",defArgs zF,defBody zF,defScope zF,[],[]⟩
theorem Kg:FnScope ["text","texts","row","deed"] ["text"] (defScope zF):=⟨rfl,rfl,rfl,by decide+kernel,rfl,by decide+kernel,by decide+kernel⟩
abbrev Uu:Stmt:=top 61
def acF:He.DefD:=⟨("read",none),"read","read",defArgs Uu,defBody Uu,defScope Uu,[],[]⟩
theorem aaG:FnScope ["text","texts","rules","names","word","some","name"] ["text"] (defScope Uu):=⟨rfl,rfl,rfl,by decide+kernel,rfl,by decide+kernel,by decide+kernel⟩
abbrev uQ:Stmt:=top 80
def Gz:He.DefD:=⟨("_law_whole",none),"_law_whole","_law_whole",defArgs uQ,defBody uQ,defScope uQ,[],[]⟩
theorem Eh:FnScope ["_law_found"] ["_law_found"] (defScope uQ):=⟨rfl,rfl,rfl,by decide+kernel,rfl,by decide+kernel,by decide+kernel⟩
abbrev pG:Stmt:=top 81
def xU:He.DefD:=⟨("_law_good_rule",none),"_law_good_rule","_law_good_rule",defArgs pG,defBody pG,defScope pG,[],[]⟩
theorem wC:FnScope ["_law_rule","_law_k"] ["_law_rule","_law_k"] (defScope pG):=⟨rfl,rfl,rfl,by decide+kernel,rfl,by decide+kernel,by decide+kernel⟩
abbrev rR:Stmt:=top 82
def Cv:He.DefD:=⟨("_law_lengths",none),"_law_lengths","_law_lengths",defArgs rR,defBody rR,defScope rR,[],[]⟩
theorem zN:FnScope ["_law_rules","_law_sizes","_law_rule","_law_size"] ["_law_rules"] (defScope rR):=⟨rfl,rfl,rfl,by decide+kernel,rfl,by decide+kernel,by decide+kernel⟩
abbrev wY:Stmt:=top 83
def J8:He.DefD:=⟨("_law_told",none),"_law_told","_law_told",defArgs wY,defBody wY,defScope wY,[],[]⟩
theorem Ie:FnScope ["_law_found","_law_words","_law_k","_law_pair","_law_word_here"] ["_law_found","_law_words"] (defScope wY):=⟨rfl,rfl,rfl,by decide+kernel,rfl,by decide+kernel,by decide+kernel⟩
abbrev rA:Stmt:=top 85
def BW:He.DefD:=⟨("_law_sign_at",none),"_law_sign_at","_law_sign_at",defArgs rA,defBody rA,defScope rA,[],[]⟩
theorem Ac:FnScope ["_law_rules","_law_sizes","_law_name","_law_place_here","_law_one"] ["_law_rules","_law_sizes","_law_name","_law_place_here"] (defScope rA):=⟨rfl,rfl,rfl,by decide+kernel,rfl,by decide+kernel,by decide+kernel⟩
abbrev qY:Stmt:=top 76
def BJ:He.DefD:=⟨("_law_beneath",none),"_law_beneath","_law_beneath",defArgs qY,defBody qY,defScope qY,[],[]⟩
theorem zU:FnScope ["_law_node_here","_law_sizes","_law_size","_law_place_here","_law_one"] ["_law_node_here","_law_sizes","_law_size","_law_place_here"] (defScope qY):=⟨rfl,rfl,rfl,by decide+kernel,rfl,by decide+kernel,by decide+kernel⟩
abbrev rB:Stmt:=top 77
def Cq:He.DefD:=⟨("_law_sign_of",none),"_law_sign_of","_law_sign_of",defArgs rB,defBody rB,defScope rB,[],[]⟩
theorem zW:FnScope ["_law_nodes","_law_sizes","_law_name","_law_place_here","_law_changes","_law_sign","_law_old","_law_new","_law_node_here"] ["_law_nodes","_law_sizes","_law_name","_law_place_here"] (defScope rB):=⟨rfl,rfl,rfl,by decide+kernel,rfl,by decide+kernel,by decide+kernel⟩
abbrev rQ:Stmt:=top 87
def Gn:He.DefD:=⟨("_law_right",none),"_law_right","_law_right",defArgs rQ,defBody rQ,defScope rQ,[],[]⟩
theorem DN:FnScope ["_law_rules","_law_name","_law_model","_law_node_here","_law_cells","_law_sizes","_law_size","_law_place_here","_law_cell_here"] ["_law_rules","_law_name","_law_model","_law_node_here","_law_cells"] (defScope rQ):=⟨rfl,rfl,rfl,by decide+kernel,rfl,by decide+kernel,by decide+kernel⟩
abbrev WN:Stmt:=top 88
def acW:He.DefD:=⟨("law",none),"law","law",defArgs WN,defBody WN,defScope WN,[],[]⟩
theorem ad9:FnScope ["_law_script","_law_model","_law_rows_here","_law_found","_law_word_here","_law_name","_law_held","_law_again","_law_cells","_law_k"] ["_law_script"] (defScope WN):=⟨rfl,rfl,rfl,by decide+kernel,rfl,by decide+kernel,by decide+kernel⟩
def fa:List He.Fa:=[.glo "_law_sign_by", .free "range", .glo "_law_letters", .free "len", .glo "_law_cell", .free "min", .glo "_law_place", .glo "_law_inner", .glo "_law_signs", .free "max", .glo "_law_many", .free "sorted", .glo "_law_deed", .glo "_law_verbs", .glo "_law_word", .glo "_law_sized", .free "str", .glo "_law_row", .glo "_law_node", .glo "_law_size_of", .glo "_law_do", .glo "_law_rows", .glo "kinds_of", .str "SIGNS" "0123456789ABCDEFGHIJKLMNOPQRSTUVWXYZabcdefghijklmnopqrstuvwxyz", .free "isinstance", .glo "is_sign", .glo "signs_of", .int "WORD" 8, .str "LETTERS" "abcdefghijklmnopqrstuvwxyz", .glo "is_word", .int "NUMBER" 19, .str "FIGURES" "0123456789", .free "int", .glo "number_of", .int "MOST" 1152921504606846976, .int "PATTERN" 12, .int "WRITTEN" 40, .glo "value_of", .free "zip", .glo "values_of", .glo "statement_of", .exc "NoWord", .glo "NoWord", .glo "ask_standing", .exc "NoName", .glo "NoName", .glo "named", .glo "parts_of", .glo "needed", .glo "renamed", .glo "put", .free "tuple", .glo "tidy", .glo "spelled_rules", .free "list", .glo "brought", .glo "side_by_side", .glo "linked", .glo "size_of", .glo "lengths", .glo "length", .exc "TooLong", .glo "TooLong", .glo "joined", .glo "over", .free "reversed", .glo "ending", .glo "beginning", .glo "across", .exc "NoPlace", .glo "NoPlace", .glo "cut", .glo "put_in", .glo "of_two", .glo "taken_out", .glo "repeated", .glo "turned", .glo "otherwise", .glo "of_one", .glo "made_text", .exc "NoText", .glo "NoText", .glo "texts_of", .glo "read", .free "bool", .glo "_law_whole", .glo "_law_good_rule", .glo "_law_lengths", .glo "_law_told", .glo "_law_sign_at", .glo "_law_beneath", .glo "_law_sign_of", .glo "_law_right", .glo "law"]
def fn:List He.DefD:=[Cj,Cp,JR,Fw,Ho,HS,Jy,Kl,Gf,JB,Gv,Nq,JN,Be,RJ,Kh,LK,Rg,Px,RK,JD,MN,JQ,Az,Bj,aaE,Np,Wn,RQ,agc,acy,zX,Ro,Ak,VR,Rp,SQ,X7,XC,ada,V4,Ke,YB,af6,Wu,Xb,J9,Mi,X4,Ko,V8,Km,NQ,acF,Gz,xU,Cv,J8,BW,BJ,Cq,Gn,acW]
theorem Am{P:Program}{w:World}{K:ao}{mg:Str→Option Value}{base:Heap}(Z:nH fa fn K mg)(Zx:pN xs K mg):Has P w K mg base "_law_sign_by" 1 ["_law_cell_here"] (sE K [.dat] .dat lK):=by
 have nd:(["_law_cell_here"]:List Str).Nodup:=z9.nd
 refine g8 (d:=Cj) (N:=["_law_cell_here"]) (n:=0) (k:=0) Z 0 0 rfl rfl rfl rfl rfl z9 rfl rfl (.inl rfl) (fun _ _ _ _ _ _ us hl=>match us,hl with|[_],_=>rfl) (fun f cdv A outer s H E hr tk hp=> ?_)
 exact(eV (fQ (fB (dY fP) (dY (fD iU iQ (dY (eE 0)) (dY eU))))))
theorem Pr{P:Program}{w:World}{K:ao}{mg:Str→Option Value}{base:Heap}(Z:nH fa fn K mg)(Zx:pN xs K mg):Has P w K mg base "_law_letters" 2 ["_law_cell_here"] (sE K [.dat] .dat vz):=by
 have nd:(["_law_cell_here","_law_many_here","_law_step","_law_k"]:List Str).Nodup:=zV.nd
 refine g8 (d:=Cp) (N:=["_law_cell_here","_law_many_here","_law_step","_law_k"]) (n:=3) (k:=1) Z 1 2 rfl rfl rfl rfl rfl zV rfl rfl (.inl rfl) (fun _ _ _ _ _ _ us hl=>match us,hl with|[_],_=>rfl) (fun f cdv A outer s H E hr tk hp=> ?_)
 exact(eO (fW (i:=1) nd (fB (pJ (jM (d8 eU (d8 eU (d8 eU (d8 eU (d8 eU eY))))))) (dY (fD iU iQ (dY (eE 0)) (dY eU)))))
 (eO (fW (i:=2) nd (fD ji jh (dY eU) (dY (fD iU iQ (dY (fD j5 jY (dY (eE 0)) (dY eU))) (dY eU)))))
 (eV (fQ (Ld (dY fP) (pJ (aed (own:=[("_law_k",3)]) nd (Mv (O8 (Z.free 1) (dY (eE 1)))) (blkOk_by (own:=[("_law_k",3)]) (N:=["_law_cell_here","_law_many_here","_law_step","_law_k"]) (sc:=defScope o9) (by decide+kernel)) (RL 3) (fun _ _ _ _ _=>pg_name (i:=3) nd rfl (Or.inl rfl)) (fun _ _ _ _ _=>CW) (fun _ _ _ _ _=>(gH (Am Z Zx) hr takes0 (d8 (fD ji jh (dY (fD j5 jY (dY (eE 0)) (dY eU))) (dY (fD oh nR (dY (eE 2)) (dY (eE 3))))) eY))))))))))
theorem qR{P:Program}{w:World}{K:ao}{mg:Str→Option Value}{base:Heap}(Z:nH fa fn K mg)(Zx:pN xs K mg):Has P w K mg base "_law_cell" 1 ["_law_script","_law_k"] (sE K [.dat, .dat] .dat iW):=by
 have nd:(["_law_script","_law_k","_law_number"]:List Str).Nodup:=Gp.nd
 refine g8 (d:=JR) (N:=["_law_script","_law_k","_law_number"]) (n:=1) (k:=0) Z 2 4 rfl rfl rfl rfl rfl Gp rfl rfl (.inl rfl) (fun _ _ _ _ _ _ us hl=>match us,hl with|[_,_],_=>rfl) (fun f cdv A outer s H E hr tk hp=> ?_)
 exact(eO (fY (fO t8 tQ (dY (eE 1)) (dY (gJ jk jm (Z.free 3) PySem.boot_len (d8 (dY (eE 0)) eY)))) (eV (fQ (fD iU iQ (dY (fD oh nR (dY (fB (dY (eE 0)) (dY (eE 1)))) (dY eU))) (dY (fD vg ne_pow (dY eU) (dY eU)))))) fM)
 (eO (fW (i:=2) nd (fD ji jh (dY (fD oh nR (dY (fD oh nR (dY (eE 1)) (dY (eE 1)))) (dY eU))) (dY eU)))
 (eO (fY (fO Fy HW (dY (gJ jk jm (Z.free 3) PySem.boot_len (d8 (dY (eE 0)) eY))) (dY eU)) (eV (fW (i:=2) nd (fD ji jh (dY (eE 2)) (dY (fD oh nR (dY (fD iU iQ (dY (fB (dY (eE 0)) (dY (fD iU iQ (dY (fD oh nR (dY (eE 1)) (dY eU))) (dY (gJ jk jm (Z.free 3) PySem.boot_len (d8 (dY (eE 0)) eY))))))) (dY (fD vg ne_pow (dY eU) (dY eU))))) (dY eU)))))) fM)
 (eV (fQ (fD iU iQ (dY (fD oh nR (dY (fD iU iQ (dY (fD oh nR (dY (eE 2)) (dY (eE 2)))) (dY eU))) (dY eU))) (dY (fD vg ne_pow (dY eU) (dY eU)))))))))
theorem zM{P:Program}{w:World}{K:ao}{mg:Str→Option Value}{base:Heap}(Z:nH fa fn K mg)(Zx:pN xs K mg):Has P w K mg base "_law_place" 1 ["_law_cell_here","_law_size"] (sE K [.dat, .dat] .dat jK):=by
 have nd:(["_law_cell_here","_law_size"]:List Str).Nodup:=Dy.nd
 refine g8 (d:=Fw) (N:=["_law_cell_here","_law_size"]) (n:=0) (k:=0) Z 3 6 rfl rfl rfl rfl rfl Dy rfl rfl (.inl rfl) (fun _ _ _ _ _ _ us hl=>match us,hl with|[_,_],_=>rfl) (fun f cdv A outer s H E hr tk hp=> ?_)
 exact(eO (fY (fO (gM hr.units) ne_eq (dY (fD iU iQ (dY (eE 0)) (dY eU))) (dY eU)) (eV (fQ (fD iU iQ (dY (fD j5 jY (dY (eE 0)) (dY eU))) (dY (gJ (Vq rfl) Vi (Z.free 5) (by decide+kernel) (d8 (dY (eE 1)) (d8 (dY eU) eY))))))) fM)
 (eO (fY (fO (gM hr.units) ne_eq (dY (fD iU iQ (dY (eE 0)) (dY eU))) (dY eU)) (eV (fQ (fD lD lB (dY (fD lD lB (dY (eE 1)) (dY eU))) (dY (fD iU iQ (dY (fD j5 jY (dY (eE 0)) (dY eU))) (dY (gJ (Vq rfl) Vi (Z.free 5) (by decide+kernel) (d8 (dY (eE 1)) (d8 (dY eU) eY))))))))) fM)
 (eV (fQ (fD iU iQ (dY (fD oh nR (dY (fD j5 jY (dY (eE 0)) (dY eU))) (dY eU))) (dY (eE 1)))))))
theorem Um{P:Program}{w:World}{K:ao}{mg:Str→Option Value}{base:Heap}(Z:nH fa fn K mg)(Zx:pN xs K mg):Has P w K mg base "_law_inner" 2 ["_law_way","_law_one","_law_other","_law_cell_here","_law_sizes","_law_letters_here"] (sE K [.dat, .dat, .dat, .dat, .dat, .dat] .dat yH):=by
 have nd:(["_law_way","_law_one","_law_other","_law_cell_here","_law_sizes","_law_letters_here","_law_size","_law_start","_law_end"]:List Str).Nodup:=DK.nd
 refine g8 (d:=Ho) (N:=["_law_way","_law_one","_law_other","_law_cell_here","_law_sizes","_law_letters_here","_law_size","_law_start","_law_end"]) (n:=3) (k:=1) Z 4 7 rfl rfl rfl rfl rfl DK rfl rfl (.inl rfl) (fun _ _ _ _ _ _ us hl=>match us,hl with|[_,_,_,_,_,_],_=>rfl) (fun f cdv A outer s H E hr tk hp=> ?_)
 exact(eO (fW (i:=6) nd (nJ hr.units (dY (eE 4)) (dY (eE 1))))
 (eO (fY (fO (gM hr.units) ne_eq (dY (eE 0)) (dY eU)) (eV (fQ (iG (d8 fP (d8 (eE 1) (d8 (fB (dY (eE 5)) (dY (fD iU iQ (dY (eE 3)) (dY (gJ jk jm (Z.free 3) PySem.boot_len (d8 (dY (eE 5)) eY)))))) (d8 (gH (Am Z Zx) hr tk (d8 (fD j5 jY (dY (eE 3)) (dY eU)) eY)) eY))))))) fM)
 (eO (fW (i:=7) nd (gH (zM Z Zx) hr tk (d8 (eE 3) (d8 (fD ji jh (dY (eE 6)) (dY eU)) eY))))
 (eO (fY (fO (gM hr.units) ne_eq (dY (eE 0)) (dY eU)) (eV (fQ (iG (d8 fP (d8 (eE 1) (d8 (eE 7) (d8 (eE 2) eY))))))) fM)
 (eO (fW (i:=8) nd (fD ji jh (dY (eE 7)) (dY (gH (zM Z Zx) hr tk (d8 (fD j5 jY (dY (eE 3)) (dY eU)) (d8 (fD lD lB (dY (fD ji jh (dY (eE 6)) (dY eU))) (dY (eE 7))) eY))))))
 (eV (fQ (iG (d8 (fB (pJ (jM (d8 fP (d8 fP eY)))) (dY (fD j5 jY (dY (eE 0)) (dY eU)))) (d8 (eE 1) (d8 (eE 7) (d8 (eE 8) eY))))))))))))
theorem Hi{P:Program}{w:World}{K:ao}{mg:Str→Option Value}{base:Heap}(Z:nH fa fn K mg)(Zx:pN xs K mg):Has P w K mg base "_law_signs" 1 ["_law_cell_here","_law_letters_here","_law_most"] (sE K [.dat, .dat, .dat] .dat oG):=by
 have nd:(["_law_cell_here","_law_letters_here","_law_most","_law_size","_law_signs_here","_law_k"]:List Str).Nodup:=DR.nd
 refine g8 (d:=HS) (N:=["_law_cell_here","_law_letters_here","_law_most","_law_size","_law_signs_here","_law_k"]) (n:=3) (k:=0) Z 5 8 rfl rfl rfl rfl rfl DR rfl rfl (.inl rfl) (fun _ _ _ _ _ _ us hl=>match us,hl with|[_,_,_],_=>rfl) (fun f cdv A outer s H E hr tk hp=> ?_)
 exact(eO (fW (i:=3) nd (fD ji jh (dY eU) (dY (fD iU iQ (dY (eE 0)) (dY (fB (pJ (jM (d8 eU (d8 eU (d8 eU eY))))) (dY (fD iU iQ (dY (fD j5 jY (dY (eE 0)) (dY eU))) (dY eU)))))))))
 (eO (fW (i:=4) nd fP)
 (eO (lE hp (O8 (Z.free 1) (dY (gJ (Vq rfl) Vi (Z.free 5) (by decide+kernel) (d8 (dY (eE 3)) (d8 (dY (eE 2)) eY))))) (jP 5 nd) (eO (fW (i:=0) nd (fD iU iQ (dY (fD ji jh (dY (fD ji jh (dY (fD oh nR (dY (eE 0)) (dY eU))) (dY (eE 5)))) (dY eU))) (dY eU)))
 (eV (fW (i:=4) nd (fD ji jh (dY (eE 4)) (dY (fB (dY (eE 1)) (dY (fD iU iQ (dY (fD j5 jY (dY (eE 0)) (dY eU))) (dY (gJ jk jm (Z.free 3) PySem.boot_len (d8 (dY (eE 1)) eY))))))))))))
 (eV (fQ (eE 4))))))
theorem JV{P:Program}{w:World}{K:ao}{mg:Str→Option Value}{base:Heap}(Z:nH fa fn K mg)(Zx:pN xs K mg):Has P w K mg base "_law_many" 1 ["_law_cell_here","_law_size","_law_most"] (sE K [.dat, .dat, .dat] .dat qQ):=by
 have nd:(["_law_cell_here","_law_size","_law_most","_law_many_here"]:List Str).Nodup:=Gk.nd
 refine g8 (d:=Jy) (N:=["_law_cell_here","_law_size","_law_most","_law_many_here"]) (n:=1) (k:=0) Z 6 10 rfl rfl rfl rfl rfl Gk rfl rfl (.inl rfl) (fun _ _ _ _ _ _ us hl=>match us,hl with|[_,_,_],_=>rfl) (fun f cdv A outer s H E hr tk hp=> ?_)
 exact(eO (fW (i:=3) nd (fD iU iQ (dY (fD j5 jY (dY (eE 0)) (dY eU))) (dY eU)))
 (eO (fY (fO (gM hr.units) ne_eq (dY (fD iU iQ (dY (eE 0)) (dY eU))) (dY eU)) (eV (fW (i:=3) nd (fD iU iQ (dY (fD j5 jY (dY (eE 0)) (dY eU))) (dY eU)))) fM)
 (eO (fY (fO (gM hr.units) ne_eq (dY (fD iU iQ (dY (eE 0)) (dY eU))) (dY eU)) (eV (fW (i:=3) nd (fD iU iQ (dY (fD oh nR (dY (fD j5 jY (dY (eE 0)) (dY eU))) (dY eU))) (dY (fD ji jh (dY (fD vg ne_pow (dY eU) (dY eU))) (dY eU)))))) fM)
 (eO (fY (fO (gM hr.units) ne_eq (dY (fD iU iQ (dY (eE 0)) (dY eU))) (dY eU)) (eV (fW (i:=3) nd (fD lD lB (dY (fD vg ne_pow (dY eU) (dY eU))) (dY (fD iU iQ (dY (fD j5 jY (dY (eE 0)) (dY eU))) (dY eU)))))) fM)
 (eV (fQ (gJ (aeP rfl) ae2 (Z.free 5) (by decide+kernel) (d8 (dY (eE 3)) (d8 (dY (fD j5 jY (dY (eE 2)) (dY (gJ (acB rfl) ac3 (Z.free 9) (by decide+kernel) (d8 (dY eU) (d8 (dY (eE 1)) eY)))))) (d8 (dY (fD vg ne_pow (dY eU) (dY eU))) eY))))))))))
theorem WR{P:Program}{w:World}{K:ao}{mg:Str→Option Value}{base:Heap}(Z:nH fa fn K mg)(Zx:pN xs K mg):Has P w K mg base "_law_deed" 3 ["_law_cell_here","_law_sizes","_law_letters_here","_law_most"] (sE K [.dat, .dat, .dat, .dat] .dat Ck):=by
 have nd:(["_law_cell_here","_law_sizes","_law_letters_here","_law_most","_law_words","_law_way","_law_one","_law_other"]:List Str).Nodup:=FZ.nd
 refine g8 (d:=Kl) (N:=["_law_cell_here","_law_sizes","_law_letters_here","_law_most","_law_words","_law_way","_law_one","_law_other"]) (n:=4) (k:=2) Z 7 12 rfl rfl rfl rfl rfl FZ rfl rfl (.inl rfl) (fun _ _ _ _ _ _ us hl=>match us,hl with|[_,_,_,_],_=>rfl) (fun f cdv A outer s H E hr tk hp=> ?_)
 exact(eO (fW (i:=0) nd (fD ji jh (dY (fD oh nR (dY (eE 0)) (dY eU))) (dY eU)))
 (eO (fW (i:=4) nd (nQ (Jl (Z.free 11) (dY (eE 1)))))
 (eO (fW (i:=5) nd (fD iU iQ (dY (eE 0)) (dY eU)))
 (eO (fY (ux (pZ (fO (gM hr.units) ne_eq (dY (eE 5)) (dY eU)) (rF (fO (gM hr.units) ne_eq (dY (gJ jk jm (Z.free 3) PySem.boot_len (d8 (dY (eE 4)) eY))) (dY eU))))) (eV (fQ (iG (d8 fP (d8 (gH (Hi Z Zx) hr tk (d8 (fD j5 jY (dY (eE 0)) (dY eU)) (d8 (eE 2) (d8 (eE 3) eY)))) eY))))) fM)
 (eO (fW (i:=6) nd (fB (dY (eE 4)) (dY (fD iU iQ (dY (fD iU iQ (dY (fD j5 jY (dY (eE 0)) (dY eU))) (dY eU))) (dY (gJ jk jm (Z.free 3) PySem.boot_len (d8 (dY (eE 4)) eY)))))))
 (eO (fW (i:=7) nd (fB (dY (eE 4)) (dY (fD iU iQ (dY (fD iU iQ (dY (fD j5 jY (dY (eE 0)) (dY eU))) (dY eU))) (dY (gJ jk jm (Z.free 3) PySem.boot_len (d8 (dY (eE 4)) eY)))))))
 (eO (fY (ux (vL (fO ahu (agG _) (dY (eE 5)) (dY (iG (d8 eU (d8 eU (d8 eU eY)))))) (rO (fO Fy HW (dY (fD ji jh (dY (nJ hr.units (dY (eE 1)) (dY (eE 6)))) (dY (nJ hr.units (dY (eE 1)) (dY (eE 7)))))) (dY (eE 3)))))) (eV (fW (i:=5) nd eU)) fM)
 (eO (fY (fO t8 tQ (dY (eE 5)) (dY eU)) (eV (fQ (iG (d8 fP (d8 (eE 6) (d8 (eE 7) eY)))))) fM)
 (eO (fY (fO t8 tQ (dY (eE 5)) (dY eU)) (eV (fQ (iG (d8 fP (d8 (eE 6) (d8 (gH (JV Z Zx) hr tk (d8 (fD j5 jY (dY (eE 0)) (dY eU)) (d8 (nJ hr.units (dY (eE 1)) (dY (eE 6))) (d8 (eE 3) eY)))) eY)))))) fM)
 (eO (fY (fO (gM hr.units) ne_eq (dY (eE 5)) (dY eU)) (eV (fQ (iG (d8 fP (d8 (eE 6) eY))))) fM)
 (eV (fQ (gH (Um Z Zx) hr tk (d8 (eE 5) (d8 (eE 6) (d8 (eE 7) (d8 (fD j5 jY (dY (eE 0)) (dY eU)) (d8 (eE 1) (d8 (eE 2) eY)))))))))))))))))))
theorem U7{P:Program}{w:World}{K:ao}{mg:Str→Option Value}{base:Heap}(Z:nH fa fn K mg)(Zx:pN xs K mg):Has P w K mg base "_law_verbs" 1 ["_law_cell_here"] (sE K [.dat] .dat yL):=by
 have nd:(["_law_cell_here","_law_some"]:List Str).Nodup:=Eb.nd
 refine g8 (d:=Gf) (N:=["_law_cell_here","_law_some"]) (n:=1) (k:=0) Z 8 13 rfl rfl rfl rfl rfl Eb rfl rfl (.inl rfl) (fun _ _ _ _ _ _ us hl=>match us,hl with|[_],_=>rfl) (fun f cdv A outer s H E hr tk hp=> ?_)
 exact(eO (fW (i:=1) nd (nQ (jM (d8 fP (d8 fP (d8 fP (d8 fP (d8 fP (d8 fP (d8 fP (d8 fP eY)))))))))))
 (eO (fW (i:=1) nd (fD ji jh (dY (eE 1)) (pJ (jM (d8 fP (d8 fP (d8 fP (d8 fP (d8 fP (d8 fP (d8 fP eY)))))))))))
 (eO (fW (i:=1) nd (fD ji jh (dY (eE 1)) (pJ (jM (d8 fP (d8 fP (d8 fP (d8 fP (d8 fP (d8 fP (d8 fP (d8 fP eY))))))))))))
 (eV (fQ (fB (dY (eE 1)) (dY (fD iU iQ (dY (eE 0)) (dY eU)))))))))
theorem Yh{P:Program}{w:World}{K:ao}{mg:Str→Option Value}{base:Heap}(Z:nH fa fn K mg)(Zx:pN xs K mg):Has P w K mg base "_law_word" 2 ["_law_cell_here","_law_k"] (sE K [.dat, .dat] .dat uh):=by
 have nd:(["_law_cell_here","_law_k","_law_kind","_law_size","_law_word_here","_law_j","_law_step","_law_at"]:List Str).Nodup:=Fv.nd
 refine g8 (d:=JB) (N:=["_law_cell_here","_law_k","_law_kind","_law_size","_law_word_here","_law_j","_law_step","_law_at"]) (n:=6) (k:=1) Z 9 14 rfl rfl rfl rfl rfl Fv rfl rfl (.inl rfl) (fun _ _ _ _ _ _ us hl=>match us,hl with|[_,_],_=>rfl) (fun f cdv A outer s H E hr tk hp=> ?_)
 exact(eO (fW (i:=2) nd (fD iU iQ (dY (eE 0)) (dY eU)))
 (eO (fW (i:=3) nd (fD ji jh (dY eU) (dY (fD iU iQ (dY (fD j5 jY (dY (eE 0)) (dY eU))) (dY eU)))))
 (eO (fY (fO (gM hr.units) ne_eq (dY (eE 2)) (dY eU)) (eV (fW (i:=3) nd (fD ji jh (dY eU) (dY (eE 1))))) fM)
 (eO (fY (fO (gM hr.units) ne_eq (dY (eE 2)) (dY eU)) (eV (fQ (gH (U7 Z Zx) hr tk (d8 (fD ji jh (dY (fD j5 jY (dY (eE 0)) (dY eU))) (dY (eE 1))) eY)))) fM)
 (eO (fW (i:=4) nd fP)
 (eO (lE hp (O8 (Z.free 1) (dY (eE 3))) (jP 5 nd) (eO (fW (i:=6) nd eU)
 (eO (fY (ux (pZ (fO (gM hr.units) ne_eq (dY (eE 2)) (dY eU)) (pZ (fO (gM hr.units) ne_eq (dY (eE 2)) (dY eU)) (rF (ux (vL (fO t8 tQ (dY (eE 2)) (dY eU)) (rO (fO (gM hr.units) ne_eq (dY (eE 5)) (dY (fD iU iQ (dY (fD j5 jY (dY (eE 0)) (dY eU))) (dY (eE 3)))))))))))) (eV (fW (i:=6) nd (fD oh nR (dY eU) (dY (eE 1))))) fM)
 (eO (fW (i:=7) nd (fD ji jh (dY (fD ji jh (dY (fD j5 jY (dY (eE 0)) (dY eU))) (dY (fD oh nR (dY eU) (dY (eE 5)))))) (dY (eE 6))))
 (eV (fW (i:=4) nd (fD ji jh (dY (eE 4)) (dY (fB (dY fP) (dY (fD iU iQ (dY (eE 7)) (dY eU))))))))))))
 (eV (fQ (eE 4)))))))))
theorem Vr{P:Program}{w:World}{K:ao}{mg:Str→Option Value}{base:Heap}(Z:nH fa fn K mg)(Zx:pN xs K mg):Has P w K mg base "_law_sized" 1 ["_law_model"] (SpG K 1 uG):=by
 have nd:(["_law_model","_law_sized_here","_law_word_here","_law_node_here"]:List Str).Nodup:=DY.nd
 refine aaz (d:=Gv) (N:=["_law_model","_law_sized_here","_law_word_here","_law_node_here"]) (n:=3) (k:=0) (bs:=[false]) Z 10 15 rfl rfl rfl rfl rfl DY rfl rfl (fun _ _ _ _ _ _ us hl=>match us,hl with|[_],_=>rfl) (fun pa f cdv A outer s H E hr tk hp=> ?_)
 exact(eO (jR (i:=1) nd Di)
 (eO (ae9 (.p .lst 0 2) hp (pQ 0 2) (xg (gK (jP 2 nd) (gK (jP 3 nd) lH))) (eV (Dq 1 hr.units (dY (eE 2)) (fB (qH (pQ 0 1)) (dY (eE 3))))))
 (eV (aeU 1 (zf (eE 1))))))
theorem ZW{P:Program}{w:World}{K:ao}{mg:Str→Option Value}{base:Heap}(Z:nH fa fn K mg)(Zx:pN xs K mg):Has P w K mg base "_law_row" 1 ["_law_new","_law_deed_here"] (sE K [.dat, .dat] .dat yX):=by
 have nd:(["_law_new","_law_deed_here","_law_part"]:List Str).Nodup:=JG.nd
 refine g8 (d:=Nq) (N:=["_law_new","_law_deed_here","_law_part"]) (n:=1) (k:=0) Z 11 17 rfl rfl rfl rfl rfl JG rfl rfl (.inl rfl) (fun _ _ _ _ _ _ us hl=>match us,hl with|[_,_],_=>rfl) (fun f cdv A outer s H E hr tk hp=> ?_)
 exact(eV (fQ (Ld (dY fP) (dY (fD ji jh (pJ (jM (d8 (eE 0) eY))) (pJ (aed (own:=[("_law_part",2)]) nd (Mv (afl (eE 1))) (blkOk_by (own:=[("_law_part",2)]) (N:=["_law_new","_law_deed_here","_law_part"]) (sc:=defScope u5) (by decide+kernel)) (RL 2) (fun _ _ _ _ _=>pg_name (i:=2) nd rfl (Or.inl rfl)) (fun _ _ _ _ _=>CW) (fun _ _ _ _ _=>(jL agP aeV (Z.free 16) (by decide+kernel) (d8 (dY (eE 2)) eY))))))))))
theorem Xf{P:Program}{w:World}{K:ao}{mg:Str→Option Value}{base:Heap}(Z:nH fa fn K mg)(Zx:pN xs K mg):Has P w K mg base "_law_node" 1 ["_law_deed_here","_law_names"] (sE K [.dat, .bor] .dat lN):=by
 have nd:(["_law_deed_here","_law_names"]:List Str).Nodup:=FQ.nd
 refine g8 (d:=JN) (N:=["_law_deed_here","_law_names"]) (n:=0) (k:=0) Z 12 18 rfl rfl rfl rfl rfl FQ rfl rfl (.inl rfl) (fun _ _ _ _ _ _ us hl=>match us,hl with|[_,_],_=>rfl) (fun f cdv A outer s H E hr tk hp=> ?_)
 exact(eO (fY (fO (gM hr.units) ne_eq (dY (fB (dY (eE 0)) (dY eU))) (dY fP)) (eV (fQ (eE 0))) fM)
 (eO (fY (fO (gM hr.units) ne_eq (dY (fB (dY (eE 0)) (dY eU))) (dY fP)) (eV (fQ (iG (d8 fP (d8 (nJ hr.units (jN 1) (dY (fB (dY (eE 0)) (dY eU)))) (d8 (nJ hr.units (jN 1) (dY (fB (dY (eE 0)) (dY eU)))) eY)))))) fM)
 (eO (fY (fO (gM hr.units) ne_eq (dY (fB (dY (eE 0)) (dY eU))) (dY fP)) (eV (fQ (iG (d8 fP (d8 (nJ hr.units (jN 1) (dY (fB (dY (eE 0)) (dY eU)))) (d8 (fB (dY (eE 0)) (dY eU)) (d8 (nJ hr.units (jN 1) (dY (fB (dY (eE 0)) (dY eU)))) eY))))))) fM)
 (eV (fQ (fD ji jh (dY (iG (d8 (fB (dY (eE 0)) (dY eU)) (d8 (nJ hr.units (jN 1) (dY (fB (dY (eE 0)) (dY eU)))) eY)))) (dY (afS (dY (eE 0)) (aaT (dY eU)) aaY))))))))
theorem PB{P:Program}{w:World}{K:ao}{mg:Str→Option Value}{base:Heap}(Z:nH fa fn K mg)(Zx:pN xs K mg):Has P w K mg base "_law_size_of" 1 ["_law_node_here","_law_sizes"] (sE K [.dat, .bor] .dat jJ):=by
 have nd:(["_law_node_here","_law_sizes","_law_size"]:List Str).Nodup:=zR.nd
 refine g8 (d:=Be) (N:=["_law_node_here","_law_sizes","_law_size"]) (n:=1) (k:=0) Z 13 19 rfl rfl rfl rfl rfl zR rfl rfl (.inl rfl) (fun _ _ _ _ _ _ us hl=>match us,hl with|[_,_],_=>rfl) (fun f cdv A outer s H E hr tk hp=> ?_)
 exact(eO (fY (fO (gM hr.units) ne_eq (dY (fB (dY (eE 0)) (dY eU))) (dY fP)) (eV (fQ (gJ jk jm (Z.free 3) PySem.boot_len (d8 (dY (fB (dY (eE 0)) (dY eU))) eY)))) fM)
 (eO (fW (i:=2) nd (fB (jN 1) (dY (fB (dY (eE 0)) (dY eU)))))
 (eO (fY (fO (gM hr.units) ne_eq (dY (fB (dY (eE 0)) (dY eU))) (dY fP)) (eV (fQ (fD ji jh (dY (eE 2)) (dY (fB (jN 1) (dY (fB (dY (eE 0)) (dY eU)))))))) fM)
 (eO (fY (fO (gM hr.units) ne_eq (dY (fB (dY (eE 0)) (dY eU))) (dY fP)) (eV (fQ (fD oh nR (dY (eE 2)) (dY (fB (dY (eE 0)) (dY eU)))))) fM)
 (eO (fY (fO (gM hr.units) ne_eq (dY (fB (dY (eE 0)) (dY eU))) (dY fP)) (eV (fQ (fD lD lB (dY (fB (dY (eE 0)) (dY eU))) (dY (fB (dY (eE 0)) (dY eU)))))) fM)
 (eO (fY (fO (gM hr.units) ne_eq (dY (fB (dY (eE 0)) (dY eU))) (dY fP)) (eV (fQ (fD ji jh (dY (eE 2)) (dY (fB (jN 1) (dY (fB (dY (eE 0)) (dY eU)))))))) fM)
 (eO (fY (fO (gM hr.units) ne_eq (dY (fB (dY (eE 0)) (dY eU))) (dY fP)) (eV (fQ (fD ji jh (dY (fD lD lB (dY (eE 2)) (dY (fB (dY (eE 0)) (dY eU))))) (dY (fB (dY (eE 0)) (dY eU)))))) fM)
 (eV (fQ (eE 2))))))))))
theorem Je{P:Program}{w:World}{K:ao}{mg:Str→Option Value}{base:Heap}(Z:nH fa fn K mg)(Zx:pN xs K mg):Has P w K mg base "_law_do" 2 ["_law_model","_law_new","_law_deed_here"] (SpG K 3 qU):=by
 have nd:(["_law_model","_law_new","_law_deed_here"]:List Str).Nodup:=Pa.nd
 refine aaz (d:=RJ) (N:=["_law_model","_law_new","_law_deed_here"]) (n:=0) (k:=1) (bs:=[true,false,false]) Z 14 20 rfl rfl rfl rfl rfl Pa rfl rfl (fun _ _ _ _ _ _ us hl=>match us,hl with|[_,_,_],_=>rfl) (fun pa f cdv A outer s H E hr tk hp=> ?_)
 exact(eO (aak (pQ 0 0) (gH (Xf Z Zx) hr tk (d8 (eE 2) (d8 (qH (pQ 0 2)) eY))))
 (eO (aak (pQ 0 1) (gH (PB Z Zx) hr tk (d8 (fB (qH (pQ 0 0)) (dY (Us (dY eU)))) (d8 (qH (pQ 0 1)) eY))))
 (eO (afN (pQ 0 2) hr.units (dY (eE 1)) (ai9 (fD lD lB (dY (gJ jk jm (Z.free 3) PySem.boot_len (d8 (qH (pQ 0 0)) eY))) (dY eU))))
 (eV (zf (gH (ZW Z Zx) hr tk (d8 (eE 1) (d8 (eE 2) eY))))))))
theorem VB{P:Program}{w:World}{K:ao}{mg:Str→Option Value}{base:Heap}(Z:nH fa fn K mg)(Zx:pN xs K mg):Has P w K mg base "_law_rows" 4 ["_law_script","_law_model"] (SpG K 2 wR):=by
 have nd:(["_law_script","_law_model","_law_words","_law_letters_here","_law_rows_here","_law_k","_law_cell_here","_law_deed_here"]:List Str).Nodup:=G9.nd
 refine aaz (d:=Kh) (N:=["_law_script","_law_model","_law_words","_law_letters_here","_law_rows_here","_law_k","_law_cell_here","_law_deed_here"]) (n:=6) (k:=3) (bs:=[false,true]) Z 15 21 rfl rfl rfl rfl rfl G9 rfl rfl (fun _ _ _ _ _ _ us hl=>match us,hl with|[_,_],_=>rfl) (fun pa f cdv A outer s H E hr tk hp=> ?_)
 exact(eO (Zk (i:=2) (own:=[("_law_k",5)]) nd (sw_true rfl rfl rfl (by decide+kernel)) (Mv (O8 (Z.free 1) (dY eU))) (blkOk_by (own:=[("_law_k",5)]) (N:=["_law_script","_law_model","_law_words","_law_letters_here","_law_rows_here","_law_k","_law_cell_here","_law_deed_here"]) (sc:=defScope tW) (by decide+kernel)) (RL 5) (fun _ _ _ _ _=>pg_name (i:=5) nd rfl (Or.inl rfl)) (fun _ _ _ _ _=>CW) (fun _ _ _ _ _=>(gH (Yh Z Zx) hr takes0 (d8 (gH (qR Z Zx) hr takes0 (d8 (eE 0) (d8 eU eY))) (d8 (eE 5) eY)))))
 (eO (fW (i:=3) nd (gH (Pr Z Zx) hr tk (d8 (fD j5 jY (dY (fD oh nR (dY (gH (qR Z Zx) hr tk (d8 (eE 0) (d8 eU eY)))) (dY eU))) (dY eU)) eY)))
 (eO (jR (i:=4) nd (jM eY))
 (eO (lE hp (O8 (Z.free 1) (dY eU)) (jP 5 nd) (eO (fW (i:=7) nd (iG (d8 fP (d8 (gH (Hi Z Zx) hr tk (d8 (gH (qR Z Zx) hr tk (d8 (eE 0) (d8 (fD ji jh (dY eU) (dY (eE 5))) eY))) (d8 (eE 3) (d8 eU eY)))) eY))))
 (eV (Gj (i:=4) (ae6 (Je Z Zx) hr tk (aa8 1 (Bm (fB (dY (eE 2)) (dY (eE 5))) (Bm (eE 7) CN))))))))
 (eO (fW (i:=6) nd (gH (qR Z Zx) hr tk (d8 (eE 0) (d8 eU eY))))
 (eO (fY (fO (gM hr.units) ne_eq (dY (fD iU iQ (dY (eE 6)) (dY eU))) (dY eU)) (eV (Gj (i:=4) (ae6 (Je Z Zx) hr tk (aa8 1 (Bm (fB (dY (eE 2)) (dY eU)) (Bm (iG (d8 fP (d8 (fB (dY (eE 2)) (dY eU)) (d8 (gH (JV Z Zx) hr tk (d8 (fD j5 jY (dY (eE 6)) (dY eU)) (d8 (fB (qH (pQ 1 1)) (dY eU)) (d8 (fD vg ne_pow (dY eU) (dY eU)) eY)))) eY)))) CN)))))) fM)
 (eO (fW (i:=6) nd (gH (qR Z Zx) hr tk (d8 (eE 0) (d8 eU eY))))
 (eO (fW (i:=7) nd (gH (WR Z Zx) hr tk (d8 (fD j5 jY (dY (eE 6)) (dY eU)) (d8 (ait (Vr Z Zx) hr tk (afU 1 CN)) (d8 (eE 3) (d8 (fD vg ne_pow (dY eU) (dY eU)) eY))))))
 (eO (Gj (i:=4) (ae6 (Je Z Zx) hr tk (aa8 1 (Bm (fB (dY (eE 2)) (dY (fD iU iQ (dY (eE 6)) (dY eU)))) (Bm (eE 7) CN)))))
 (eV (UJ 4 (zf (eE 4)))))))))))))
theorem M6{P:Program}{w:World}{K:ao}{mg:Str→Option Value}{base:Heap}(Z:nH fa fn K mg)(Zx:pN xs K mg):Has P w K mg base "kinds_of" 1 ["verb"] (sE K [.dat] .dat vO):=by
 have nd:(["verb"]:List Str).Nodup:=JZ.nd
 refine g8 (d:=LK) (N:=["verb"]) (n:=0) (k:=0) Z 16 22 rfl rfl rfl rfl rfl JZ rfl rfl (.inl rfl) (fun _ _ _ _ _ _ us hl=>match us,hl with|[_],_=>rfl) (fun f cdv A outer s H E hr tk hp=> ?_)
 exact(eO (fY (fO (gM hr.units) ne_eq (dY (eE 0)) (dY fP)) (eV (fQ (nQ (jM (d8 fP eY))))) fM)
 (eO (fY (fO (gM hr.units) ne_eq (dY (eE 0)) (dY fP)) (eV (fQ (nQ (jM (d8 fP (d8 fP eY)))))) fM)
 (eO (fY (fO (gM hr.units) ne_eq (dY (eE 0)) (dY fP)) (eV (fQ (nQ (jM (d8 fP (d8 fP eY)))))) fM)
 (eO (fY (fO (gM hr.units) ne_eq (dY (eE 0)) (dY fP)) (eV (fQ (nQ (jM (d8 fP eY))))) fM)
 (eO (fY (fO (gM hr.units) ne_eq (dY (eE 0)) (dY fP)) (eV (fQ (nQ (jM (d8 fP (d8 fP (d8 fP eY))))))) fM)
 (eO (fY (fO (gM hr.units) ne_eq (dY (eE 0)) (dY fP)) (eV (fQ (nQ (jM (d8 fP (d8 fP (d8 fP eY))))))) fM)
 (eO (fY (ux (pZ (fO (gM hr.units) ne_eq (dY (eE 0)) (dY fP)) (rF (fO (gM hr.units) ne_eq (dY (eE 0)) (dY fP))))) (eV (fQ (nQ (jM (d8 fP (d8 fP (d8 fP eY))))))) fM)
 (eV (fQ jX)))))))))
theorem abk{P:Program}{w:World}{K:ao}{mg:Str→Option Value}{base:Heap}(Z:nH fa fn K mg)(Zx:pN xs K mg):Has P w K mg base "is_sign" 1 ["thing"] (sE K [.dat] .dat tE):=by
 have nd:(["thing"]:List Str).Nodup:=Qa.nd
 refine g8 (d:=Rg) (N:=["thing"]) (n:=0) (k:=0) Z 17 25 rfl rfl rfl rfl rfl Qa rfl rfl (.inl rfl) (fun _ _ _ _ _ _ us hl=>match us,hl with|[_],_=>rfl) (fun f cdv A outer s H E hr tk hp=> ?_)
 exact(eV (fQ (yV (dY (vN "str" PyProof.Rows.boot_str LC (Z.free 24) (Z.free 16) (dY (eE 0)))) (yV (dY (vD (gM hr.units) ne_eq (dY (gJ jk jm (Z.free 3) PySem.boot_len (d8 (dY (eE 0)) eY))) (dY eU))) (Bt (vD ago (YS _) (dY (eE 0)) (dY (Tp (Z.str 23)))))))))
theorem Ez{P:Program}{w:World}{K:ao}{mg:Str→Option Value}{base:Heap}(Z:nH fa fn K mg)(Zx:pN xs K mg):Has P w K mg base "signs_of" 2 ["text","most"] (sE K [.dat, .dat] .dat sS):=by
 have nd:(["text","most","sign"]:List Str).Nodup:=JH.nd
 refine g8 (d:=Px) (N:=["text","most","sign"]) (n:=1) (k:=1) Z 18 26 rfl rfl rfl rfl rfl JH rfl rfl (.inl rfl) (fun _ _ _ _ _ _ us hl=>match us,hl with|[_,_],_=>rfl) (fun f cdv A outer s H E hr tk hp=> ?_)
 exact(eO (fY (mX (tY tX tX uf uf (dY eU) (dY (gJ jk jm (Z.free 3) PySem.boot_len (d8 (dY (eE 0)) eY))) (dY (eE 1)))) (eV (fQ jX)) fM)
 (eO (lE hp (ae' (eE 0)) (jP 2 nd) (eV (fY (mX (pX (dY (gH (abk Z Zx) hr tk (d8 (eE 2) eY))))) (eV (fQ jX)) fM)))
 (eV (fQ (eE 0)))))
theorem Rc{P:Program}{w:World}{K:ao}{mg:Str→Option Value}{base:Heap}(Z:nH fa fn K mg)(Zx:pN xs K mg):Has P w K mg base "is_word" 1 ["text"] (sE K [.dat] .dat CV):=by
 have nd:(["text","sign"]:List Str).Nodup:=Nb.nd
 refine g8 (d:=RK) (N:=["text","sign"]) (n:=1) (k:=0) Z 19 29 rfl rfl rfl rfl rfl Nb rfl rfl (.inl rfl) (fun _ _ _ _ _ _ us hl=>match us,hl with|[_],_=>rfl) (fun f cdv A outer s H E hr tk hp=> ?_)
 exact(eO (fY (mX (tY tX tX uf uf (dY eU) (dY (gJ jk jm (Z.free 3) PySem.boot_len (d8 (dY (eE 0)) eY))) (dY (yM (Z.int 27))))) (eV (fQ tR)) fM)
 (eO (lE hp (ae' (eE 0)) (jP 1 nd) (eV (fY (fO S8 (YS _) (dY (eE 1)) (dY (Tp (Z.str 28)))) (eV (fQ tR)) fM)))
 (eV (fQ tR))))
theorem Jz{P:Program}{w:World}{K:ao}{mg:Str→Option Value}{base:Heap}(Z:nH fa fn K mg)(Zx:pN xs K mg):Has P w K mg base "number_of" 1 ["text","most"] (sE K [.dat, .dat] .dat wO):=by
 have nd:(["text","most","sign","number"]:List Str).Nodup:=Fx.nd
 refine g8 (d:=JD) (N:=["text","most","sign","number"]) (n:=2) (k:=0) Z 20 33 rfl rfl rfl rfl rfl Fx rfl rfl (.inl rfl) (fun _ _ _ _ _ _ us hl=>match us,hl with|[_,_],_=>rfl) (fun f cdv A outer s H E hr tk hp=> ?_)
 exact(eO (fY (ux (pZ (mX (tY tX tX uf uf (dY eU) (dY (gJ jk jm (Z.free 3) PySem.boot_len (d8 (dY (eE 0)) eY))) (dY (yM (Z.int 30))))) (rF (ux (vL (fO Fy HW (dY (gJ jk jm (Z.free 3) PySem.boot_len (d8 (dY (eE 0)) eY))) (dY eU)) (rO (fO (gM hr.units) ne_eq (dY (fB (dY (eE 0)) (dY eU))) (dY fP)))))))) (eV (fQ jX)) fM)
 (eO (lE hp (ae' (eE 0)) (jP 2 nd) (eV (fY (fO S8 (YS _) (dY (eE 2)) (dY (Tp (Z.str 31)))) (eV (fQ jX)) fM)))
 (eO (fW (i:=3) nd (jL afs aey (Z.free 32) (by decide+kernel) (d8 (dY (eE 0)) eY)))
 (eO (fY (fO Fy HW (dY (eE 3)) (dY (eE 1))) (eV (fQ jX)) fM)
 (eV (fQ (eE 3)))))))
theorem Zd{P:Program}{w:World}{K:ao}{mg:Str→Option Value}{base:Heap}(Z:nH fa fn K mg)(Zx:pN xs K mg):Has P w K mg base "value_of" 3 ["kind","word"] (sE K [.dat, .dat] .dat ju):=by
 have nd:(["kind","word"]:List Str).Nodup:=Jx.nd
 refine g8 (d:=MN) (N:=["kind","word"]) (n:=0) (k:=2) Z 21 37 rfl rfl rfl rfl rfl Jx rfl rfl (.inl rfl) (fun _ _ _ _ _ _ us hl=>match us,hl with|[_,_],_=>rfl) (fun f cdv A outer s H E hr tk hp=> ?_)
 exact(eO (fY (fO (gM hr.units) ne_eq (dY (eE 0)) (dY fP)) (eO (fY (pX (dY (gH (Rc Z Zx) hr tk (d8 (eE 1) eY)))) (eV (fQ (eE 1))) fM)
 (eV (fQ jX))) fM)
 (eO (fY (fO (gM hr.units) ne_eq (dY (eE 0)) (dY fP)) (eV (fQ (gH (Jz Z Zx) hr tk (d8 (eE 1) (d8 (fD vg ne_pow (dY eU) (dY eU)) eY))))) fM)
 (eO (fY (fO (gM hr.units) ne_eq (dY (eE 0)) (dY fP)) (eV (fQ (gH (Jz Z Zx) hr tk (d8 (eE 1) (d8 (yM (Z.int 34)) eY))))) fM)
 (eO (fY (fO (gM hr.units) ne_eq (dY (eE 0)) (dY fP)) (eV (fQ (gH (Ez Z Zx) hr tk (d8 (eE 1) (d8 eU eY))))) fM)
 (eO (fY (fO (gM hr.units) ne_eq (dY (eE 0)) (dY fP)) (eV (fQ (gH (Ez Z Zx) hr tk (d8 (eE 1) (d8 (yM (Z.int 35)) eY))))) fM)
 (eV (fQ (gH (Ez Z Zx) hr tk (d8 (eE 1) (d8 (yM (Z.int 36)) eY))))))))))
theorem VF{P:Program}{w:World}{K:ao}{mg:Str→Option Value}{base:Heap}(Z:nH fa fn K mg)(Zx:pN xs K mg):Has P w K mg base "values_of" 4 ["kinds","words"] (sE K [.dat, .dat] .dat Cd):=by
 have nd:(["kinds","words","values","kind","word","value"]:List Str).Nodup:=Ge.nd
 refine g8 (d:=JQ) (N:=["kinds","words","values","kind","word","value"]) (n:=4) (k:=3) Z 22 39 rfl rfl rfl rfl rfl Ge rfl rfl (.inl rfl) (fun _ _ _ _ _ _ us hl=>match us,hl with|[_,_],_=>rfl) (fun f cdv A outer s H E hr tk hp=> ?_)
 exact(eO (fY (fO (xZ hr.units) xH (dY (gJ jk jm (Z.free 3) PySem.boot_len (d8 (dY (eE 0)) eY))) (dY (gJ jk jm (Z.free 3) PySem.boot_len (d8 (dY (eE 1)) eY)))) (eV (fQ jX)) fM)
 (eO (jR (i:=2) nd (jM eY))
 (eO (lE hp (agx (Z.free 38) (d8 (eE 0) (d8 (eE 1) eY))) (xg (gK (jP 3 nd) (gK (jP 4 nd) lH))) (eO (fW (i:=5) nd (gH (Zd Z Zx) hr tk (d8 (eE 3) (d8 (eE 4) eY))))
 (eO (fY (fO z8 ne_is (dY (eE 5)) (dY jX)) (eV (fQ jX)) fM)
 (eV (uw (i:=2) (eE 5))))))
 (eV (aeX 2)))))
theorem M8{P:Program}{w:World}{K:ao}{mg:Str→Option Value}{base:Heap}(Z:nH fa fn K mg)(Zx:pN xs K mg):Has P w K mg base "statement_of" 5 ["row"] (sE K [.dat] .dat rH):=by
 have nd:(["row","words","kinds","values"]:List Str).Nodup:=Ab.nd
 refine g8 (d:=Az) (N:=["row","words","kinds","values"]) (n:=3) (k:=4) Z 23 40 rfl rfl rfl rfl rfl Ab rfl rfl (.inl rfl) (fun _ _ _ _ _ _ us hl=>match us,hl with|[_],_=>rfl) (fun f cdv A outer s H E hr tk hp=> ?_)
 exact(eO (fW (i:=1) nd (nQ (Xd (dY (eE 0)) (dY fP))))
 (eO (fY (ux (pZ (fO t8 tQ (dY (gJ jk jm (Z.free 3) PySem.boot_len (d8 (dY (eE 1)) eY))) (dY eU)) (rF (mX (pX (dY (gH (Rc Z Zx) hr tk (d8 (fB (dY (eE 1)) (dY eU)) eY)))))))) (eV (fQ jX)) fM)
 (eO (fW (i:=2) nd (gH (M6 Z Zx) hr tk (d8 (fB (dY (eE 1)) (dY eU)) eY)))
 (eO (fY (fO z8 ne_is (dY (eE 2)) (dY jX)) (eV (fQ jX)) fM)
 (eO (fW (i:=3) nd (gH (VF Z Zx) hr tk (d8 (eE 2) (d8 (afS (dY (eE 1)) (aaT (dY eU)) aaY) eY))))
 (eO (fY (fO z8 ne_is (dY (eE 3)) (dY jX)) (eV (fQ jX)) fM)
 (eV (fQ (iG (d8 (fB (dY (eE 1)) (dY eU)) (d8 (fB (dY (eE 1)) (dY eU)) (d8 (eE 3) eY))))))))))))
theorem Ox{P:Program}{w:World}{K:ao}{mg:Str→Option Value}{base:Heap}(Z:nH fa fn K mg)(Zx:pN xs K mg):Has P w K mg base "ask_standing" 1 ["texts","kinds","values"] (sE K [.bor, .dat, .dat] .dat vp):=by
 have nd:(["texts","kinds","values","kind","value"]:List Str).Nodup:=zY.nd
 refine g8 (d:=Bj) (N:=["texts","kinds","values","kind","value"]) (n:=2) (k:=0) Z 24 43 rfl rfl rfl rfl rfl zY rfl rfl (.inl rfl) (fun _ _ _ _ _ _ us hl=>match us,hl with|[_,_,_],_=>rfl) (fun f cdv A outer s H E hr tk hp=> ?_)
 exact(eV (lE hp (agx (Z.free 38) (d8 (eE 1) (d8 (eE 2) eY))) (xg (gK (jP 3 nd) (gK (jP 4 nd) lH))) (eV (fY (ux (vL (fO (gM hr.units) ne_eq (dY (eE 3)) (dY fP)) (rO (fO (abf hr.units) (adZ _) (dY (eE 4)) (jN 0))))) (eV (xO tk (Z.exc 41) (Z.glo 42))) fM))))
theorem HF{P:Program}{w:World}{K:ao}{mg:Str→Option Value}{base:Heap}(Z:nH fa fn K mg)(Zx:pN xs K mg):Has P w K mg base "named" 1 ["rules","name"] (sE K [.dat, .dat] .dat rK):=by
 have nd:(["rules","name"]:List Str).Nodup:=Wk.nd
 refine g8 (d:=aaE) (N:=["rules","name"]) (n:=0) (k:=0) Z 25 46 rfl rfl rfl rfl rfl Wk rfl rfl (.inl rfl) (fun _ _ _ _ _ _ us hl=>match us,hl with|[_,_],_=>rfl) (fun f cdv A outer s H E hr tk hp=> ?_)
 exact(eV (fY (ux (vL (fO V6 Yz (dY (eE 1)) (dY jX)) (rO (mX (tY tX t8 uf tQ (dY eU) (dY (eE 1)) (dY (gJ jk jm (Z.free 3) PySem.boot_len (d8 (dY (eE 0)) eY)))))))) (eV (xO tk (Z.exc 44) (Z.glo 45))) fM))
theorem Zr{P:Program}{w:World}{K:ao}{mg:Str→Option Value}{base:Heap}(Z:nH fa fn K mg)(Zx:pN xs K mg):Has P w K mg base "parts_of" 1 ["rule"] (sE K [.dat] .new oE):=by
 have nd:(["rule"]:List Str).Nodup:=Kv.nd
 refine g8 (d:=Np) (N:=["rule"]) (n:=0) (k:=0) Z 26 47 rfl rfl rfl rfl rfl Kv rfl rfl (.inr (mj (mj Ys))) (fun _ _ _ _ _ _ us hl=>match us,hl with|[_],_=>rfl) (fun f cdv A outer s H E hr tk hp=> ?_)
 exact(eO (fY (fO (gM hr.units) ne_eq (dY (fB (dY (eE 0)) (dY eU))) (dY fP)) (eV (fQ (jM eY))) fM)
 (eO (fY (fO (gM hr.units) ne_eq (dY (fB (dY (eE 0)) (dY eU))) (dY fP)) (eV (fQ (jM (d8 (fB (dY (eE 0)) (dY eU)) (d8 (fB (dY (eE 0)) (dY eU)) eY))))) fM)
 (eV (fQ (jM (d8 (fB (dY (eE 0)) (dY eU)) eY))))))
theorem Ny{P:Program}{w:World}{K:ao}{mg:Str→Option Value}{base:Heap}(Z:nH fa fn K mg)(Zx:pN xs K mg):Has P w K mg base "needed" 2 ["rules","name"] (sE K [.dat, .dat] .new nM):=by
 have nd:(["rules","name","seen","number","part"]:List Str).Nodup:=RG.nd
 refine g8 (d:=Wn) (N:=["rules","name","seen","number","part"]) (n:=3) (k:=1) Z 27 48 rfl rfl rfl rfl rfl RG rfl rfl (.inr (mj (mj (mj Ys)))) (fun _ _ _ _ _ _ us hl=>match us,hl with|[_,_],_=>rfl) (fun f cdv A outer s H E hr tk hp=> ?_)
 exact(eO (fY (fO z8 ne_is (dY (eE 1)) (dY jX)) (eV (fQ (jM eY))) fM)
 (eO (jR (i:=2) nd (aii (dY (eE 1)) tR))
 (eO (lE hp (aiy (Z.free 1) (d8 (dY (eE 1)) (d8 (dY (Us (dY eU))) (d8 (dY (Us (dY eU))) eY)))) (jP 3 nd) (eV (fY (fO (ag8 hr.units) (adZ _) (dY (eE 3)) (jN 2)) (eV (lE hp (Yv (nQ (gH (Zr Z Zx) hr tk (d8 (fB (dY (eE 0)) (dY (eE 3))) eY)))) (jP 4 nd) (eV (Dq 2 hr.units (dY (eE 4)) tR)))) fM)))
 (eV (fQ (adz (Z.free 11) (jN 2)))))))
theorem Dc{P:Program}{w:World}{K:ao}{mg:Str→Option Value}{base:Heap}(Z:nH fa fn K mg)(Zx:pN xs K mg):Has P w K mg base "renamed" 1 ["rule","numbers"] (sE K [.dat, .bor] .dat lF):=by
 have nd:(["rule","numbers"]:List Str).Nodup:=Qs.nd
 refine g8 (d:=RQ) (N:=["rule","numbers"]) (n:=0) (k:=0) Z 28 49 rfl rfl rfl rfl rfl Qs rfl rfl (.inl rfl) (fun _ _ _ _ _ _ us hl=>match us,hl with|[_,_],_=>rfl) (fun f cdv A outer s H E hr tk hp=> ?_)
 exact(eO (fY (fO (gM hr.units) ne_eq (dY (fB (dY (eE 0)) (dY eU))) (dY fP)) (eV (fQ (eE 0))) fM)
 (eO (fY (fO (gM hr.units) ne_eq (dY (fB (dY (eE 0)) (dY eU))) (dY fP)) (eV (fQ (iG (d8 fP (d8 (Zq hr.units (jN 1) (dY (fB (dY (eE 0)) (dY eU)))) (d8 (Zq hr.units (jN 1) (dY (fB (dY (eE 0)) (dY eU)))) eY)))))) fM)
 (eV (fQ (iG (d8 fP (d8 (Zq hr.units (jN 1) (dY (fB (dY (eE 0)) (dY eU)))) (d8 (fB (dY (eE 0)) (dY eU)) eY))))))))
theorem Wh{P:Program}{w:World}{K:ao}{mg:Str→Option Value}{base:Heap}(Z:nH fa fn K mg)(Zx:pN xs K mg):Has P w K mg base "put" 1 ["rows","rule"] (Q5 K 1 ug):=by
 have nd:(["rows","rule"]:List Str).Nodup:=adu.nd
 refine Jc (d:=agc) (N:=["rows","rule"]) (n:=0) (k:=0) Z 29 50 rfl rfl rfl rfl rfl adu rfl rfl (fun _ _ _ _ _ _ us hl=>match us,hl with|[_,_],_=>rfl) (fun pp f cdv A outer s H E hr tk hp=> ?_)
 exact(eO (uw (i:=0) (eE 1))
 (eV (zG (fD lD lB (dY (gJ jk jm (Z.free 3) PySem.boot_len (d8 (jN 0) eY))) (dY eU)))))
theorem ag'{P:Program}{w:World}{K:ao}{mg:Str→Option Value}{base:Heap}(Z:nH fa fn K mg)(Zx:pN xs K mg):Has P w K mg base "tidy" 3 ["rules","name"] (sE K [.dat, .dat] .dat Im):=by
 have nd:(["rules","name","rows","kept","numbers","number","rule"]:List Str).Nodup:=aat.nd
 refine g8 (d:=acy) (N:=["rules","name","rows","kept","numbers","number","rule"]) (n:=5) (k:=2) Z 30 52 rfl rfl rfl rfl rfl aat rfl rfl (.inl rfl) (fun _ _ _ _ _ _ us hl=>match us,hl with|[_,_],_=>rfl) (fun f cdv A outer s H E hr tk hp=> ?_)
 exact(eO (yP (gH (HF Z Zx) hr tk (d8 (eE 0) (d8 (eE 1) eY))))
 (eO (jR (i:=2) nd (jM eY))
 (eO (jR (i:=3) nd afv)
 (eO (jR (i:=4) nd Di)
 (eO (lE hp (Yv (nQ (gH (Ny Z Zx) hr tk (d8 (eE 0) (d8 (eE 1) eY))))) (jP 5 nd) (eO (fW (i:=6) nd (gH (Dc Z Zx) hr tk (d8 (fB (dY (eE 0)) (dY (eE 5))) (d8 (jN 4) eY))))
 (eO (fY (fO (abr hr.units) (agN _) (dY (eE 6)) (jN 3)) (eV (acp 3 hr.units (dY (eE 6)) (uF 2 (Wh Z Zx) hr tk (d8 (eE 6) eY)))) fM)
 (eV (Dq 4 hr.units (dY (eE 5)) (aer hr.units (jN 3) (dY (eE 6))))))))
 (eV (fQ (iG (d8 (jL qu qj (Z.free 51) (by decide+kernel) (d8 (jN 2) eY)) (d8 (Mh hr.units (jN 4) (dY (eE 1))) eY))))))))))
theorem KZ{P:Program}{w:World}{K:ao}{mg:Str→Option Value}{base:Heap}(Z:nH fa fn K mg)(Zx:pN xs K mg):Has P w K mg base "spelled_rules" 1 ["signs"] (sE K [.dat] .dat qG):=by
 have nd:(["signs","rules","names","sign","above","at"]:List Str).Nodup:=yu.nd
 refine g8 (d:=zX) (N:=["signs","rules","names","sign","above","at"]) (n:=5) (k:=0) Z 31 53 rfl rfl rfl rfl rfl yu rfl rfl (.inl rfl) (fun _ _ _ _ _ _ us hl=>match us,hl with|[_],_=>rfl) (fun f cdv A outer s H E hr tk hp=> ?_)
 exact(eO (fW (i:=1) nd (iG eY))
 (eO (jR (i:=2) nd (jM eY))
 (eO (lE hp (ae' (eE 0)) (jP 3 nd) (eO (uw (i:=2) (gJ jk jm (Z.free 3) PySem.boot_len (d8 (dY (eE 1)) eY)))
 (eV (fW (i:=1) nd (fD ji jh (dY (eE 1)) (dY (iG (d8 (iG (d8 fP (d8 (eE 3) eY))) eY))))))))
 (eO (yr hp (fO Fy HW (dY (gJ jk jm (Z.free 3) PySem.boot_len (d8 (jN 2) eY))) (dY eU)) (eO (jR (i:=4) nd (jM eY))
 (eO (lE hp (ag7 (Z.free 1) (d8 (dY eU) (d8 (dY (fD lD lB (dY (gJ jk jm (Z.free 3) PySem.boot_len (d8 (jN 2) eY))) (dY eU))) (d8 (dY eU) eY)))) (jP 5 nd) (eO (uw (i:=4) (gJ jk jm (Z.free 3) PySem.boot_len (d8 (dY (eE 1)) eY)))
 (eV (fW (i:=1) nd (fD ji jh (dY (eE 1)) (dY (iG (d8 (iG (d8 fP (d8 (fB (jN 2) (dY (eE 5))) (d8 (fB (jN 2) (dY (fD ji jh (dY (eE 5)) (dY eU)))) eY)))) eY))))))))
 (eO (fY (fO (gM hr.units) ne_eq (dY (fD iU iQ (dY (gJ jk jm (Z.free 3) PySem.boot_len (d8 (jN 2) eY))) (dY eU))) (dY eU)) (eV (uw (i:=4) (fB (jN 2) (dY (Us (dY eU)))))) fM)
 (eV (aeT 2 4 nd))))))
 (eV (fQ (iG (d8 (eE 1) (d8 (fB (jN 2) (dY eU)) eY)))))))))
theorem Sd{P:Program}{w:World}{K:ao}{mg:Str→Option Value}{base:Heap}(Z:nH fa fn K mg)(Zx:pN xs K mg):Has P w K mg base "brought" 2 ["rules","others","name"] (sE K [.dat, .dat, .dat] .dat yg):=by
 have nd:(["rules","others","name","far","numbers","rows","rule","number"]:List Str).Nodup:=M4.nd
 refine g8 (d:=Ro) (N:=["rules","others","name","far","numbers","rows","rule","number"]) (n:=5) (k:=1) Z 32 55 rfl rfl rfl rfl rfl M4 rfl rfl (.inl rfl) (fun _ _ _ _ _ _ us hl=>match us,hl with|[_,_,_],_=>rfl) (fun f cdv A outer s H E hr tk hp=> ?_)
 exact(eO (yP (gH (HF Z Zx) hr tk (d8 (eE 1) (d8 (eE 2) eY))))
 (eO (fW (i:=3) nd (gJ jk jm (Z.free 3) PySem.boot_len (d8 (dY (eE 0)) eY)))
 (eO (Zk (i:=4) (own:=[("number",7)]) nd (sw_true rfl rfl rfl (by decide+kernel)) (Mv (O8 (Z.free 1) (dY (gJ jk jm (Z.free 3) PySem.boot_len (d8 (dY (eE 1)) eY))))) (blkOk_by (own:=[("number",7)]) (N:=["rules","others","name","far","numbers","rows","rule","number"]) (sc:=defScope xP) (by decide+kernel)) (RL 7) (fun _ _ _ _ _=>pg_name (i:=7) nd rfl (Or.inl rfl)) (fun _ _ _ _ _=>CW) (fun _ _ _ _ _=>(fD ji jh (dY (eE 3)) (dY (eE 7)))))
 (eO (jR (i:=5) nd (jL yN yJ (Z.free 54) (by decide+kernel) (d8 (dY (eE 0)) eY)))
 (eO (lE hp (afl (eE 1)) (jP 6 nd) (eV (uw (i:=5) (gH (Dc Z Zx) hr tk (d8 (eE 6) (d8 (dY (eE 4)) eY))))))
 (eO (fY (fO z8 ne_is (dY (eE 2)) (dY jX)) (eV (fQ (iG (d8 (jL qu qj (Z.free 51) (by decide+kernel) (d8 (jN 5) eY)) (d8 jX eY))))) fM)
 (eV (fQ (iG (d8 (jL qu qj (Z.free 51) (by decide+kernel) (d8 (jN 5) eY)) (d8 (fD ji jh (dY (eE 3)) (dY (eE 2))) eY)))))))))))
theorem Bq{P:Program}{w:World}{K:ao}{mg:Str→Option Value}{base:Heap}(Z:nH fa fn K mg)(Zx:pN xs K mg):Has P w K mg base "side_by_side" 3 ["one","other"] (sE K [.dat, .dat] .dat rM):=by
 have nd:(["one","other","rules","name"]:List Str).Nodup:=zP.nd
 refine g8 (d:=Ak) (N:=["one","other","rules","name"]) (n:=2) (k:=2) Z 33 56 rfl rfl rfl rfl rfl zP rfl rfl (.inl rfl) (fun _ _ _ _ _ _ us hl=>match us,hl with|[_,_],_=>rfl) (fun f cdv A outer s H E hr tk hp=> ?_)
 exact(eO (oA (gH (Sd Z Zx) hr tk (d8 (fB (dY (eE 0)) (dY eU)) (d8 (fB (dY (eE 1)) (dY eU)) (d8 (fB (dY (eE 1)) (dY eU)) eY)))) (xg (gK (jP 2 nd) (gK (jP 3 nd) lH))))
 (eV (fQ (iG (d8 (eE 2) (d8 (fB (dY (eE 0)) (dY eU)) (d8 (eE 3) eY)))))))
theorem yd{P:Program}{w:World}{K:ao}{mg:Str→Option Value}{base:Heap}(Z:nH fa fn K mg)(Zx:pN xs K mg):Has P w K mg base "linked" 2 ["rows","one","other"] (Q5 K 2 jU):=by
 have nd:(["rows","one","other"]:List Str).Nodup:=Rh.nd
 refine Jc (d:=VR) (N:=["rows","one","other"]) (n:=0) (k:=1) Z 34 57 rfl rfl rfl rfl rfl Rh rfl rfl (fun _ _ _ _ _ _ us hl=>match us,hl with|[_,_,_],_=>rfl) (fun pp f cdv A outer s H E hr tk hp=> ?_)
 exact(eO (fY (fO z8 ne_is (dY (eE 1)) (dY jX)) (eV (zG (eE 2))) fM)
 (eO (fY (fO z8 ne_is (dY (eE 2)) (dY jX)) (eV (zG (eE 1))) fM)
 (eV (Lk (uF 0 (Wh Z Zx) hr tk (d8 (iG (d8 fP (d8 (eE 1) (d8 (eE 2) eY)))) eY))))))
theorem abT{P:Program}{w:World}{K:ao}{mg:Str→Option Value}{base:Heap}(Z:nH fa fn K mg)(Zx:pN xs K mg):Has P w K mg base "size_of" 1 ["rule","sizes"] (sE K [.dat, .bor] .dat tK):=by
 have nd:(["rule","sizes"]:List Str).Nodup:=O6.nd
 refine g8 (d:=Rp) (N:=["rule","sizes"]) (n:=0) (k:=0) Z 35 58 rfl rfl rfl rfl rfl O6 rfl rfl (.inl rfl) (fun _ _ _ _ _ _ us hl=>match us,hl with|[_,_],_=>rfl) (fun f cdv A outer s H E hr tk hp=> ?_)
 exact(eO (fY (fO (gM hr.units) ne_eq (dY (fB (dY (eE 0)) (dY eU))) (dY fP)) (eV (fQ eU)) fM)
 (eO (fY (fO (gM hr.units) ne_eq (dY (fB (dY (eE 0)) (dY eU))) (dY fP)) (eV (fQ (fD ji jh (dY (fB (jN 1) (dY (fB (dY (eE 0)) (dY eU))))) (dY (fB (jN 1) (dY (fB (dY (eE 0)) (dY eU)))))))) fM)
 (eV (fQ (fD oh nR (dY (fB (jN 1) (dY (fB (dY (eE 0)) (dY eU))))) (dY (fB (dY (eE 0)) (dY eU))))))))
theorem SN{P:Program}{w:World}{K:ao}{mg:Str→Option Value}{base:Heap}(Z:nH fa fn K mg)(Zx:pN xs K mg):Has P w K mg base "lengths" 2 ["rules"] (sE K [.dat] .new Dk):=by
 have nd:(["rules","sizes","rule"]:List Str).Nodup:=Pq.nd
 refine g8 (d:=SQ) (N:=["rules","sizes","rule"]) (n:=2) (k:=1) Z 36 59 rfl rfl rfl rfl rfl Pq rfl rfl (.inr (mj (mj Iz))) (fun _ _ _ _ _ _ us hl=>match us,hl with|[_],_=>rfl) (fun f cdv A outer s H E hr tk hp=> ?_)
 exact(eO (jR (i:=1) nd (jM eY))
 (eO (lE hp (afl (eE 0)) (jP 2 nd) (eV (uw (i:=1) (gH (abT Z Zx) hr tk (d8 (eE 2) (d8 (jN 1) eY))))))
 (eV (Ly 1))))
theorem yj{P:Program}{w:World}{K:ao}{mg:Str→Option Value}{base:Heap}(Z:nH fa fn K mg)(Zx:pN xs K mg):Has P w K mg base "length" 3 ["rules","name"] (sE K [.dat, .dat] .dat oN):=by
 have nd:(["rules","name"]:List Str).Nodup:=Rv.nd
 refine g8 (d:=X7) (N:=["rules","name"]) (n:=0) (k:=2) Z 37 60 rfl rfl rfl rfl rfl Rv rfl rfl (.inl rfl) (fun _ _ _ _ _ _ us hl=>match us,hl with|[_,_],_=>rfl) (fun f cdv A outer s H E hr tk hp=> ?_)
 exact(eO (yP (gH (HF Z Zx) hr tk (d8 (eE 0) (d8 (eE 1) eY))))
 (eO (fY (fO z8 ne_is (dY (eE 1)) (dY jX)) (eV (fQ eU)) fM)
 (eV (fQ (fB (pJ (gH (SN Z Zx) hr tk (d8 (eE 0) eY))) (dY (eE 1)))))))
theorem G5{P:Program}{w:World}{K:ao}{mg:Str→Option Value}{base:Heap}(Z:nH fa fn K mg)(Zx:pN xs K mg):Has P w K mg base "joined" 4 ["rules","one","other"] (sE K [.dat, .dat, .dat] .dat vJ):=by
 have nd:(["rules","one","other","rows","name"]:List Str).Nodup:=Rj.nd
 refine g8 (d:=XC) (N:=["rules","one","other","rows","name"]) (n:=2) (k:=3) Z 38 63 rfl rfl rfl rfl rfl Rj rfl rfl (.inl rfl) (fun _ _ _ _ _ _ us hl=>match us,hl with|[_,_,_],_=>rfl) (fun f cdv A outer s H E hr tk hp=> ?_)
 exact(eO (fY (fO Fy HW (dY (fD ji jh (dY (gH (yj Z Zx) hr tk (d8 (eE 0) (d8 (eE 1) eY)))) (dY (gH (yj Z Zx) hr tk (d8 (eE 0) (d8 (eE 2) eY)))))) (dY (yM (Z.int 34)))) (eV (xO tk (Z.exc 61) (Z.glo 62))) fM)
 (eO (jR (i:=3) nd (jL yN yJ (Z.free 54) (by decide+kernel) (d8 (dY (eE 0)) eY)))
 (eO (wX (i:=4) nd (uF 3 (yd Z Zx) hr tk (d8 (eE 1) (d8 (eE 2) eY))))
 (eV (fQ (iG (d8 (jL qu qj (Z.free 51) (by decide+kernel) (d8 (jN 3) eY)) (d8 (eE 4) eY))))))))
theorem Uo{P:Program}{w:World}{K:ao}{mg:Str→Option Value}{base:Heap}(Z:nH fa fn K mg)(Zx:pN xs K mg):Has P w K mg base "over" 2 ["rows","one","many"] (Q5 K 2 u6):=by
 have nd:(["rows","one","many"]:List Str).Nodup:=aa'.nd
 refine Jc (d:=ada) (N:=["rows","one","many"]) (n:=0) (k:=1) Z 39 64 rfl rfl rfl rfl rfl aa' rfl rfl (fun _ _ _ _ _ _ us hl=>match us,hl with|[_,_,_],_=>rfl) (fun pp f cdv A outer s H E hr tk hp=> ?_)
 exact(eO (fY (ux (pZ (fO z8 ne_is (dY (eE 1)) (dY jX)) (rF (fO (gM hr.units) ne_eq (dY (eE 2)) (dY eU))))) (eV (zG jX)) fM)
 (eO (fY (fO (gM hr.units) ne_eq (dY (eE 2)) (dY eU)) (eV (zG (eE 1))) fM)
 (eV (Lk (uF 0 (Wh Z Zx) hr tk (d8 (iG (d8 fP (d8 (eE 1) (d8 (eE 2) eY)))) eY))))))
theorem acV{P:Program}{w:World}{K:ao}{mg:Str→Option Value}{base:Heap}(Z:nH fa fn K mg)(Zx:pN xs K mg):Has P w K mg base "ending" 3 ["rows","sizes","name","many"] (Q5 K 3 yh):=by
 have nd:(["rows","sizes","name","many","parts","found","part","rule"]:List Str).Nodup:=R9.nd
 refine Jc (d:=V4) (N:=["rows","sizes","name","many","parts","found","part","rule"]) (n:=4) (k:=2) Z 40 66 rfl rfl rfl rfl rfl R9 rfl rfl (fun _ _ _ _ _ _ us hl=>match us,hl with|[_,_,_,_],_=>rfl) (fun pp f cdv A outer s H E hr tk hp=> ?_)
 exact(eO (jR (i:=4) nd (jM eY))
 (eO (yr hp (tY t8 t8 tQ tQ (dY eU) (dY (eE 3)) (dY (fB (dY (eE 1)) (dY (eE 2))))) (eO (fW (i:=7) nd (fB (jN 0) (dY (eE 2))))
 (eV (fY (fO (gM hr.units) ne_eq (dY (fB (dY (eE 7)) (dY eU))) (dY fP)) (eO (Gj (i:=4) (uF 0 (Uo Z Zx) hr tk (d8 (fB (dY (eE 7)) (dY eU)) (d8 (fD j5 jY (dY (eE 3)) (dY (fB (dY (eE 1)) (dY (fB (dY (eE 7)) (dY eU)))))) eY))))
 (eO (fW (i:=3) nd (fD iU iQ (dY (eE 3)) (dY (fB (dY (eE 1)) (dY (fB (dY (eE 7)) (dY eU)))))))
 (eV (fW (i:=2) nd (fB (dY (eE 7)) (dY eU)))))) (eV (fY (fO t8 tQ (dY (eE 3)) (dY (fB (dY (eE 1)) (dY (fB (dY (eE 7)) (dY eU)))))) (eV (fW (i:=2) nd (fB (dY (eE 7)) (dY eU)))) (eO (uw (i:=4) (fB (dY (eE 7)) (dY eU)))
 (eO (fW (i:=3) nd (fD lD lB (dY (eE 3)) (dY (fB (dY (eE 1)) (dY (fB (dY (eE 7)) (dY eU)))))))
 (eV (fW (i:=2) nd (fB (dY (eE 7)) (dY eU))))))))))))
 (eO (fW (i:=5) nd jX)
 (eO (fY (fO Fy HW (dY (eE 3)) (dY eU)) (eV (fW (i:=5) nd (eE 2))) fM)
 (eO (UJ 4 (lE hp (adT (Z.free 65) (eE 4)) (jP 6 nd) (eV (wX (i:=5) nd (uF 0 (yd Z Zx) hr tk (d8 (eE 5) (d8 (eE 6) eY)))))))
 (eV (zG (eE 5))))))))
theorem JS{P:Program}{w:World}{K:ao}{mg:Str→Option Value}{base:Heap}(Z:nH fa fn K mg)(Zx:pN xs K mg):Has P w K mg base "beginning" 3 ["rows","sizes","name","many"] (Q5 K 3 mH):=by
 have nd:(["rows","sizes","name","many","parts","found","part","rule","size"]:List Str).Nodup:=Hr.nd
 refine Jc (d:=Ke) (N:=["rows","sizes","name","many","parts","found","part","rule","size"]) (n:=5) (k:=2) Z 41 67 rfl rfl rfl rfl rfl Hr rfl rfl (fun _ _ _ _ _ _ us hl=>match us,hl with|[_,_,_,_],_=>rfl) (fun pp f cdv A outer s H E hr tk hp=> ?_)
 exact(eO (jR (i:=4) nd (jM eY))
 (eO (yr hp (tY t8 t8 tQ tQ (dY eU) (dY (eE 3)) (dY (fB (dY (eE 1)) (dY (eE 2))))) (eO (fW (i:=7) nd (fB (jN 0) (dY (eE 2))))
 (eO (fW (i:=8) nd (fB (dY (eE 1)) (dY (fB (dY (eE 7)) (dY eU)))))
 (eV (fY (fO (gM hr.units) ne_eq (dY (fB (dY (eE 7)) (dY eU))) (dY fP)) (eO (Gj (i:=4) (uF 0 (Uo Z Zx) hr tk (d8 (fB (dY (eE 7)) (dY eU)) (d8 (fD j5 jY (dY (eE 3)) (dY (eE 8))) eY))))
 (eO (fW (i:=3) nd (fD iU iQ (dY (eE 3)) (dY (eE 8))))
 (eV (fW (i:=2) nd (fB (dY (eE 7)) (dY eU)))))) (eV (fY (fO t8 tQ (dY (eE 3)) (dY (eE 8))) (eV (fW (i:=2) nd (fB (dY (eE 7)) (dY eU)))) (eO (uw (i:=4) (fB (dY (eE 7)) (dY eU)))
 (eO (fW (i:=3) nd (fD lD lB (dY (eE 3)) (dY (eE 8))))
 (eV (fW (i:=2) nd (fB (dY (eE 7)) (dY eU)))))))))))))
 (eO (fW (i:=5) nd jX)
 (eO (fY (fO Fy HW (dY (eE 3)) (dY eU)) (eV (fW (i:=5) nd (eE 2))) fM)
 (eO (UJ 4 (lE hp (adT (Z.free 65) (eE 4)) (jP 6 nd) (eV (wX (i:=5) nd (uF 0 (yd Z Zx) hr tk (d8 (eE 6) (d8 (eE 5) eY)))))))
 (eV (zG (eE 5))))))))
theorem acG{P:Program}{w:World}{K:ao}{mg:Str→Option Value}{base:Heap}(Z:nH fa fn K mg)(Zx:pN xs K mg):Has P w K mg base "across" 4 ["rows","sizes","rule","start","end"] (Q5 K 4 xR):=by
 have nd:(["rows","sizes","rule","start","end","one","size","found"]:List Str).Nodup:=RP.nd
 refine Jc (d:=YB) (N:=["rows","sizes","rule","start","end","one","size","found"]) (n:=3) (k:=3) Z 42 68 rfl rfl rfl rfl rfl RP rfl rfl (fun _ _ _ _ _ _ us hl=>match us,hl with|[_,_,_,_,_],_=>rfl) (fun pp f cdv A outer s H E hr tk hp=> ?_)
 exact(eO (fW (i:=5) nd (fB (dY (eE 2)) (dY eU)))
 (eO (fW (i:=6) nd (fB (dY (eE 1)) (dY (eE 5))))
 (eO (wX (i:=7) nd (uF 0 (acV Z Zx) hr tk (d8 (eE 1) (d8 (eE 5) (d8 (fD lD lB (dY (eE 6)) (dY (eE 3))) eY)))))
 (eO (fY (fO (gM hr.units) ne_eq (dY (fB (dY (eE 2)) (dY eU))) (dY fP)) (eV (Lk (Zi 0 (yd Z Zx) hr tk (eE 7) (uF 0 (JS Z Zx) hr tk (d8 (eE 1) (d8 (fB (dY (eE 2)) (dY eU)) (d8 (fD lD lB (dY (eE 4)) (dY (eE 6))) eY))))))) fM)
 (eO (wX (i:=7) nd (Zi 0 (yd Z Zx) hr tk (eE 7) (uF 0 (Uo Z Zx) hr tk (d8 (eE 5) (d8 (fD j5 jY (dY (fD lD lB (dY (eE 4)) (dY (eE 6)))) (dY (eE 6))) eY)))))
 (eV (Lk (Zi 0 (yd Z Zx) hr tk (eE 7) (uF 0 (JS Z Zx) hr tk (d8 (eE 1) (d8 (eE 5) (d8 (fD iU iQ (dY (fD lD lB (dY (eE 4)) (dY (eE 6)))) (dY (eE 6))) eY))))))))))))
theorem Rw{P:Program}{w:World}{K:ao}{mg:Str→Option Value}{base:Heap}(Z:nH fa fn K mg)(Zx:pN xs K mg):Has P w K mg base "cut" 5 ["rules","name","start","end"] (sE K [.dat, .dat, .dat, .dat] .dat Dz):=by
 have nd:(["rules","name","start","end","size","sizes","rule","rows","found"]:List Str).Nodup:=ady.nd
 refine g8 (d:=af6) (N:=["rules","name","start","end","size","sizes","rule","rows","found"]) (n:=5) (k:=4) Z 43 71 rfl rfl rfl rfl rfl ady rfl rfl (.inl rfl) (fun _ _ _ _ _ _ us hl=>match us,hl with|[_,_,_,_],_=>rfl) (fun f cdv A outer s H E hr tk hp=> ?_)
 exact(eO (fW (i:=4) nd (gH (yj Z Zx) hr tk (d8 (eE 0) (d8 (eE 1) eY))))
 (eO (fY (mX (abK tX tX tX uf uf uf (dY eU) (dY (eE 2)) (dY (eE 3)) (dY (eE 4)))) (eV (xO tk (Z.exc 69) (Z.glo 70))) fM)
 (eO (fY (fO (gM hr.units) ne_eq (dY (eE 2)) (dY (eE 3))) (eV (fQ (iG (d8 (jL qu qj (Z.free 51) (by decide+kernel) (d8 (dY (eE 0)) eY)) (d8 jX eY))))) fM)
 (eO (fW (i:=5) nd (nQ (gH (SN Z Zx) hr tk (d8 (eE 0) eY))))
 (eO (yr hp (fO (xZ hr.units) xH (dY (fB (dY (fB (dY (eE 0)) (dY (eE 1)))) (dY eU))) (dY fP)) (eO (fW (i:=6) nd (fB (dY (eE 0)) (dY (eE 1))))
 (eO (fW (i:=4) nd (fB (dY (eE 5)) (dY (fB (dY (eE 6)) (dY eU)))))
 (eO (fY (fO (gM hr.units) ne_eq (dY (fB (dY (eE 6)) (dY eU))) (dY fP)) (eO (fW (i:=3) nd (fD lD lB (dY (eE 3)) (dY (fD oh nR (dY (fD j5 jY (dY (eE 2)) (dY (eE 4)))) (dY (eE 4))))))
 (eV (fW (i:=2) nd (fD iU iQ (dY (eE 2)) (dY (eE 4)))))) fM)
 (eV (fY (fO W8 Wd (dY (eE 2)) (dY (eE 4))) (eO (fW (i:=2) nd (fD lD lB (dY (eE 2)) (dY (eE 4))))
 (eO (fW (i:=3) nd (fD lD lB (dY (eE 3)) (dY (eE 4))))
 (eV (fW (i:=1) nd (fB (dY (eE 6)) (dY eU)))))) (eV (fY (fO tX uf (dY (eE 3)) (dY (eE 4))) (eV (fW (i:=1) nd (fB (dY (eE 6)) (dY eU)))) (eO (jR (i:=7) nd (jL yN yJ (Z.free 54) (by decide+kernel) (d8 (dY (eE 0)) eY)))
 (eO (wX (i:=8) nd (uF 7 (acG Z Zx) hr tk (d8 (eE 5) (d8 (eE 6) (d8 (eE 2) (d8 (eE 3) eY))))))
 (eV (fQ (iG (d8 (jL qu qj (Z.free 51) (by decide+kernel) (d8 (jN 7) eY)) (d8 (eE 8) eY)))))))))))))))
 (eV (fQ (iG (d8 (jL qu qj (Z.free 51) (by decide+kernel) (d8 (dY (eE 0)) eY)) (d8 (eE 1) eY))))))))))
theorem adX{P:Program}{w:World}{K:ao}{mg:Str→Option Value}{base:Heap}(Z:nH fa fn K mg)(Zx:pN xs K mg):Has P w K mg base "put_in" 6 ["one","place","other"] (sE K [.dat, .dat, .dat] .dat MJ):=by
 have nd:(["one","place","other","rules","name","middle","size","head","tail","front"]:List Str).Nodup:=SJ.nd
 refine g8 (d:=Wu) (N:=["one","place","other","rules","name","middle","size","head","tail","front"]) (n:=7) (k:=5) Z 44 72 rfl rfl rfl rfl rfl SJ rfl rfl (.inl rfl) (fun _ _ _ _ _ _ us hl=>match us,hl with|[_,_,_],_=>rfl) (fun f cdv A outer s H E hr tk hp=> ?_)
 exact(eO (oA (gH (Bq Z Zx) hr tk (d8 (eE 0) (d8 (eE 2) eY))) (xg (gK (jP 3 nd) (gK (jP 4 nd) (gK (jP 5 nd) lH)))))
 (eO (fW (i:=6) nd (gH (yj Z Zx) hr tk (d8 (eE 3) (d8 (eE 4) eY))))
 (eO (oA (gH (Rw Z Zx) hr tk (d8 (eE 3) (d8 (eE 4) (d8 eU (d8 (eE 1) eY))))) (xg (gK (jP 3 nd) (gK (jP 7 nd) lH))))
 (eO (oA (gH (Rw Z Zx) hr tk (d8 (eE 3) (d8 (eE 4) (d8 (eE 1) (d8 (eE 6) eY))))) (xg (gK (jP 3 nd) (gK (jP 8 nd) lH))))
 (eO (oA (gH (G5 Z Zx) hr tk (d8 (eE 3) (d8 (eE 7) (d8 (eE 5) eY)))) (xg (gK (jP 3 nd) (gK (jP 9 nd) lH))))
 (eV (fQ (gH (G5 Z Zx) hr tk (d8 (eE 3) (d8 (eE 9) (d8 (eE 8) eY)))))))))))
theorem acY{P:Program}{w:World}{K:ao}{mg:Str→Option Value}{base:Heap}(Z:nH fa fn K mg)(Zx:pN xs K mg):Has P w K mg base "of_two" 7 ["verb","one","values","texts"] (sE K [.dat, .dat, .dat, .bor] .dat Qc):=by
 have nd:(["verb","one","values","texts","rules","name","other"]:List Str).Nodup:=Q8.nd
 refine g8 (d:=Xb) (N:=["verb","one","values","texts","rules","name","other"]) (n:=3) (k:=6) Z 45 73 rfl rfl rfl rfl rfl Q8 rfl rfl (.inl rfl) (fun _ _ _ _ _ _ us hl=>match us,hl with|[_,_,_,_],_=>rfl) (fun f cdv A outer s H E hr tk hp=> ?_)
 exact(eO (fY (fO (gM hr.units) ne_eq (dY (eE 0)) (dY fP)) (eV (fQ (gH (adX Z Zx) hr tk (d8 (eE 1) (d8 (fB (dY (eE 2)) (dY eU)) (d8 (nJ hr.units (jN 3) (dY (fB (dY (eE 2)) (dY eU)))) eY)))))) fM)
 (eO (oA (gH (Bq Z Zx) hr tk (d8 (eE 1) (d8 (nJ hr.units (jN 3) (dY (fB (dY (eE 2)) (dY eU)))) eY))) (xg (gK (jP 4 nd) (gK (jP 5 nd) (gK (jP 6 nd) lH)))))
 (eV (fQ (gH (G5 Z Zx) hr tk (d8 (eE 4) (d8 (eE 5) (d8 (eE 6) eY))))))))
theorem Wo{P:Program}{w:World}{K:ao}{mg:Str→Option Value}{base:Heap}(Z:nH fa fn K mg)(Zx:pN xs K mg):Has P w K mg base "taken_out" 6 ["one","start","end"] (sE K [.dat, .dat, .dat] .dat Bb):=by
 have nd:(["one","start","end","size","rules","head","tail"]:List Str).Nodup:=Gx.nd
 refine g8 (d:=J9) (N:=["one","start","end","size","rules","head","tail"]) (n:=4) (k:=5) Z 46 74 rfl rfl rfl rfl rfl Gx rfl rfl (.inl rfl) (fun _ _ _ _ _ _ us hl=>match us,hl with|[_,_,_],_=>rfl) (fun f cdv A outer s H E hr tk hp=> ?_)
 exact(eO (yP (gH (Rw Z Zx) hr tk (d8 (fB (dY (eE 0)) (dY eU)) (d8 (fB (dY (eE 0)) (dY eU)) (d8 (eE 1) (d8 (eE 2) eY))))))
 (eO (fW (i:=3) nd (gH (yj Z Zx) hr tk (d8 (fB (dY (eE 0)) (dY eU)) (d8 (fB (dY (eE 0)) (dY eU)) eY))))
 (eO (oA (gH (Rw Z Zx) hr tk (d8 (fB (dY (eE 0)) (dY eU)) (d8 (fB (dY (eE 0)) (dY eU)) (d8 eU (d8 (eE 1) eY))))) (xg (gK (jP 4 nd) (gK (jP 5 nd) lH))))
 (eO (oA (gH (Rw Z Zx) hr tk (d8 (eE 4) (d8 (fB (dY (eE 0)) (dY eU)) (d8 (eE 2) (d8 (eE 3) eY))))) (xg (gK (jP 4 nd) (gK (jP 6 nd) lH))))
 (eV (fQ (gH (G5 Z Zx) hr tk (d8 (eE 4) (d8 (eE 5) (d8 (eE 6) eY))))))))))
theorem YK{P:Program}{w:World}{K:ao}{mg:Str→Option Value}{base:Heap}(Z:nH fa fn K mg)(Zx:pN xs K mg):Has P w K mg base "repeated" 4 ["rules","name","many"] (sE K [.dat, .dat, .dat] .dat Eu):=by
 have nd:(["rules","name","many","rows","found"]:List Str).Nodup:=JX.nd
 refine g8 (d:=Mi) (N:=["rules","name","many","rows","found"]) (n:=2) (k:=3) Z 47 75 rfl rfl rfl rfl rfl JX rfl rfl (.inl rfl) (fun _ _ _ _ _ _ us hl=>match us,hl with|[_,_,_],_=>rfl) (fun f cdv A outer s H E hr tk hp=> ?_)
 exact(eO (fY (fO Fy HW (dY (fD oh nR (dY (gH (yj Z Zx) hr tk (d8 (eE 0) (d8 (eE 1) eY)))) (dY (eE 2)))) (dY (yM (Z.int 34)))) (eV (xO tk (Z.exc 61) (Z.glo 62))) fM)
 (eO (jR (i:=3) nd (jL yN yJ (Z.free 54) (by decide+kernel) (d8 (dY (eE 0)) eY)))
 (eO (wX (i:=4) nd (uF 3 (Uo Z Zx) hr tk (d8 (eE 1) (d8 (eE 2) eY))))
 (eV (fQ (iG (d8 (jL qu qj (Z.free 51) (by decide+kernel) (d8 (jN 3) eY)) (d8 (eE 4) eY))))))))
theorem acQ{P:Program}{w:World}{K:ao}{mg:Str→Option Value}{base:Heap}(Z:nH fa fn K mg)(Zx:pN xs K mg):Has P w K mg base "turned" 3 ["rules","name"] (sE K [.dat, .dat] .dat BL):=by
 have nd:(["rules","name","rows","numbers","number","rule"]:List Str).Nodup:=Ri.nd
 refine g8 (d:=X4) (N:=["rules","name","rows","numbers","number","rule"]) (n:=4) (k:=2) Z 48 76 rfl rfl rfl rfl rfl Ri rfl rfl (.inl rfl) (fun _ _ _ _ _ _ us hl=>match us,hl with|[_,_],_=>rfl) (fun f cdv A outer s H E hr tk hp=> ?_)
 exact(eO (yP (gH (HF Z Zx) hr tk (d8 (eE 0) (d8 (eE 1) eY))))
 (eO (jR (i:=2) nd (jL yN yJ (Z.free 54) (by decide+kernel) (d8 (dY (eE 0)) eY)))
 (eO (jR (i:=3) nd Di)
 (eO (lE hp (Yv (nQ (gH (Ny Z Zx) hr tk (d8 (eE 0) (d8 (eE 1) eY))))) (jP 4 nd) (eO (fW (i:=5) nd (gH (Dc Z Zx) hr tk (d8 (fB (dY (eE 0)) (dY (eE 4))) (d8 (jN 3) eY))))
 (eO (fY (fO (gM hr.units) ne_eq (dY (fB (dY (eE 5)) (dY eU))) (dY fP)) (eV (fW (i:=5) nd (iG (d8 fP (d8 (fB (dY (eE 5)) (dY eU)) (d8 (fB (dY (eE 5)) (dY eU)) eY)))))) fM)
 (eO (Dq 3 hr.units (dY (eE 4)) (eE 4))
 (eV (fY (fO (xZ hr.units) xH (dY (eE 5)) (dY (fB (dY (eE 0)) (dY (eE 4))))) (eV (aaJ 3 hr.units (dY (eE 4)) (uF 2 (Wh Z Zx) hr tk (d8 (eE 5) eY)))) fM))))))
 (eV (fQ (iG (d8 (jL qu qj (Z.free 51) (by decide+kernel) (d8 (jN 2) eY)) (d8 (Mh hr.units (jN 3) (dY (eE 1))) eY)))))))))
theorem Xc{P:Program}{w:World}{K:ao}{mg:Str→Option Value}{base:Heap}(Z:nH fa fn K mg)(Zx:pN xs K mg):Has P w K mg base "otherwise" 3 ["rules","name","sign","other"] (sE K [.dat, .dat, .dat, .dat] .dat tV):=by
 have nd:(["rules","name","sign","other","rows","numbers","number","rule"]:List Str).Nodup:=G3.nd
 refine g8 (d:=Ko) (N:=["rules","name","sign","other","rows","numbers","number","rule"]) (n:=4) (k:=2) Z 49 77 rfl rfl rfl rfl rfl G3 rfl rfl (.inl rfl) (fun _ _ _ _ _ _ us hl=>match us,hl with|[_,_,_,_],_=>rfl) (fun f cdv A outer s H E hr tk hp=> ?_)
 exact(eO (yP (gH (HF Z Zx) hr tk (d8 (eE 0) (d8 (eE 1) eY))))
 (eO (jR (i:=4) nd (jL yN yJ (Z.free 54) (by decide+kernel) (d8 (dY (eE 0)) eY)))
 (eO (jR (i:=5) nd Di)
 (eO (lE hp (Yv (nQ (gH (Ny Z Zx) hr tk (d8 (eE 0) (d8 (eE 1) eY))))) (jP 6 nd) (eO (fW (i:=7) nd (gH (Dc Z Zx) hr tk (d8 (fB (dY (eE 0)) (dY (eE 6))) (d8 (jN 5) eY))))
 (eO (fY (fO (gM hr.units) ne_eq (dY (eE 7)) (dY (iG (d8 fP (d8 (eE 2) eY))))) (eV (fW (i:=7) nd (iG (d8 fP (d8 (eE 3) eY))))) fM)
 (eO (Dq 5 hr.units (dY (eE 6)) (eE 6))
 (eV (fY (fO (xZ hr.units) xH (dY (eE 7)) (dY (fB (dY (eE 0)) (dY (eE 6))))) (eV (aaJ 5 hr.units (dY (eE 6)) (uF 4 (Wh Z Zx) hr tk (d8 (eE 7) eY)))) fM))))))
 (eV (fQ (iG (d8 (jL qu qj (Z.free 51) (by decide+kernel) (d8 (jN 4) eY)) (d8 (Mh hr.units (jN 5) (dY (eE 1))) eY)))))))))
theorem acv{P:Program}{w:World}{K:ao}{mg:Str→Option Value}{base:Heap}(Z:nH fa fn K mg)(Zx:pN xs K mg):Has P w K mg base "of_one" 7 ["verb","one","values"] (sE K [.dat, .dat, .dat] .dat Mg):=by
 have nd:(["verb","one","values"]:List Str).Nodup:=Q9.nd
 refine g8 (d:=V8) (N:=["verb","one","values"]) (n:=0) (k:=6) Z 50 78 rfl rfl rfl rfl rfl Q9 rfl rfl (.inl rfl) (fun _ _ _ _ _ _ us hl=>match us,hl with|[_,_,_],_=>rfl) (fun f cdv A outer s H E hr tk hp=> ?_)
 exact(eO (fY (fO (gM hr.units) ne_eq (dY (eE 0)) (dY fP)) (eV (fQ (gH (YK Z Zx) hr tk (d8 (fB (dY (eE 1)) (dY eU)) (d8 (fB (dY (eE 1)) (dY eU)) (d8 (fB (dY (eE 2)) (dY eU)) eY)))))) fM)
 (eO (fY (fO (gM hr.units) ne_eq (dY (eE 0)) (dY fP)) (eV (fQ (gH (acQ Z Zx) hr tk (d8 (fB (dY (eE 1)) (dY eU)) (d8 (fB (dY (eE 1)) (dY eU)) eY))))) fM)
 (eO (fY (fO (gM hr.units) ne_eq (dY (eE 0)) (dY fP)) (eV (fQ (gH (Xc Z Zx) hr tk (d8 (fB (dY (eE 1)) (dY eU)) (d8 (fB (dY (eE 1)) (dY eU)) (d8 (fB (dY (eE 2)) (dY eU)) (d8 (fB (dY (eE 2)) (dY eU)) eY))))))) fM)
 (eO (fY (fO (gM hr.units) ne_eq (dY (eE 0)) (dY fP)) (eV (fQ (gH (Rw Z Zx) hr tk (d8 (fB (dY (eE 1)) (dY eU)) (d8 (fB (dY (eE 1)) (dY eU)) (d8 (fB (dY (eE 2)) (dY eU)) (d8 (fB (dY (eE 2)) (dY eU)) eY))))))) fM)
 (eV (fQ (gH (Wo Z Zx) hr tk (d8 (eE 1) (d8 (fB (dY (eE 2)) (dY eU)) (d8 (fB (dY (eE 2)) (dY eU)) eY))))))))))
theorem Yq{P:Program}{w:World}{K:ao}{mg:Str→Option Value}{base:Heap}(Z:nH fa fn K mg)(Zx:pN xs K mg):Has P w K mg base "made_text" 8 ["texts","deed"] (sE K [.bor, .dat] .dat qO):=by
 have nd:(["texts","deed","verb","new","values","rules","name"]:List Str).Nodup:=Hw.nd
 refine g8 (d:=Km) (N:=["texts","deed","verb","new","values","rules","name"]) (n:=5) (k:=7) Z 51 79 rfl rfl rfl rfl rfl Hw rfl rfl (.inl rfl) (fun _ _ _ _ _ _ us hl=>match us,hl with|[_,_],_=>rfl) (fun f cdv A outer s H E hr tk hp=> ?_)
 exact(eO (oA (eE 1) (xg (gK (jP 2 nd) (gK (jP 3 nd) (gK (jP 4 nd) lH)))))
 (eO (yP (gH (Ox Z Zx) hr tk (d8 (jN 0) (d8 (gH (M6 Z Zx) hr tk (d8 (eE 2) eY)) (d8 (eE 4) eY)))))
 (eO (fY (fO (gM hr.units) ne_eq (dY (eE 2)) (dY fP)) (eV (oA (gH (KZ Z Zx) hr tk (d8 (fB (dY (eE 4)) (dY eU)) eY)) (xg (gK (jP 5 nd) (gK (jP 6 nd) lH))))) (eV (fY (ux (pZ (fO (gM hr.units) ne_eq (dY (eE 2)) (dY fP)) (rF (fO (gM hr.units) ne_eq (dY (eE 2)) (dY fP))))) (eV (oA (gH (acY Z Zx) hr tk (d8 (eE 2) (d8 (nJ hr.units (jN 0) (dY (fB (dY (eE 4)) (dY eU)))) (d8 (eE 4) (d8 (jN 0) eY))))) (xg (gK (jP 5 nd) (gK (jP 6 nd) lH))))) (eV (oA (gH (acv Z Zx) hr tk (d8 (eE 2) (d8 (nJ hr.units (jN 0) (dY (fB (dY (eE 4)) (dY eU)))) (d8 (eE 4) eY)))) (xg (gK (jP 5 nd) (gK (jP 6 nd) lH))))))))
 (eV (fQ (gH (ag' Z Zx) hr tk (d8 (eE 5) (d8 (eE 6) eY))))))))
theorem ZX{P:Program}{w:World}{K:ao}{mg:Str→Option Value}{base:Heap}(Z:nH fa fn K mg)(Zx:pN xs K mg):Has P w K mg base "texts_of" 9 ["text"] (sE K [.dat] .new Fj):=by
 have nd:(["text","texts","row","deed"]:List Str).Nodup:=Kg.nd
 refine g8 (d:=NQ) (N:=["text","texts","row","deed"]) (n:=3) (k:=8) Z 52 82 rfl rfl rfl rfl rfl Kg rfl rfl (.inr (mj (mj (mj Iz)))) (fun _ _ _ _ _ _ us hl=>match us,hl with|[_],_=>rfl) (fun f cdv A outer s H E hr tk hp=> ?_)
 exact(eO (jR (i:=1) nd Di)
 (eO (fY (fO (gM hr.units) ne_eq (dY (eE 0)) (dY fP)) (eV (Ly 1)) fM)
 (eO (lE hp (Yv (nQ (Xd (dY (eE 0)) (dY fP)))) (jP 2 nd) (eO (fW (i:=3) nd (gH (M8 Z Zx) hr tk (d8 (eE 2) eY)))
 (eO (fY (fO z8 ne_is (dY (eE 3)) (dY jX)) (eV (xO tk (Z.exc 80) (Z.glo 81))) fM)
 (eV (Dq 1 hr.units (dY (fB (dY (eE 3)) (dY eU))) (gH (Yq Z Zx) hr tk (d8 (jN 1) (d8 (eE 3) eY))))))))
 (eV (Ly 1)))))
theorem adw{P:Program}{w:World}{K:ao}{mg:Str→Option Value}{base:Heap}(Z:nH fa fn K mg)(Zx:pN xs K mg):Has P w K mg base "read" 10 ["text"] (sE K [.dat] .tl Jm):=by
 have nd:(["text","texts","rules","names","word","some","name"]:List Str).Nodup:=aaG.nd
 refine g8 (d:=acF) (N:=["text","texts","rules","names","word","some","name"]) (n:=6) (k:=9) Z 53 83 rfl rfl rfl rfl rfl aaG rfl rfl (.inr (mj (mj (mj (mj Z4))))) (fun _ _ _ _ _ _ us hl=>match us,hl with|[_],_=>rfl) (fun f cdv A outer s H E hr tk hp=> ?_)
 exact(eO (jR (i:=1) nd (gH (ZX Z Zx) hr tk (d8 (eE 0) eY)))
 (eO (fW (i:=2) nd (iG eY))
 (eO (jR (i:=3) nd (jM eY))
 (eO (lE hp (Yv (nQ (Jl (Z.free 11) (jN 1)))) (jP 4 nd) (eO (oA (nJ hr.units (jN 1) (dY (eE 4))) (xg (gK (jP 5 nd) (gK (jP 6 nd) lH))))
 (eO (oA (gH (Sd Z Zx) hr tk (d8 (eE 2) (d8 (eE 5) (d8 (eE 6) eY)))) (xg (gK (jP 2 nd) (gK (jP 6 nd) lH))))
 (eV (uw (i:=3) (iG (d8 (eE 4) (d8 (eE 6) eY))))))))
 (eV (ado 2 3))))))
theorem yO{P:Program}{w:World}{K:ao}{mg:Str→Option Value}{base:Heap}(Z:nH fa fn K mg)(Zx:pN xs K mg):Has P w K mg base "_law_whole" 1 ["_law_found"] (sE K [.dat] .dat oF):=by
 have nd:(["_law_found"]:List Str).Nodup:=Eh.nd
 refine g8 (d:=Gz) (N:=["_law_found"]) (n:=0) (k:=0) Z 54 85 rfl rfl rfl rfl rfl Eh rfl rfl (.inl rfl) (fun _ _ _ _ _ _ us hl=>match us,hl with|[_],_=>rfl) (fun f cdv A outer s H E hr tk hp=> ?_)
 exact(eV (fQ (yV (dY (vN "int" PyProof.Rows.boot_int afA (Z.free 24) (Z.free 32) (dY (eE 0)))) (Bt (ag4 (dY (vN "bool" PyProof.Rows.boot_bool adP (Z.free 24) (Z.free 84) (dY (eE 0)))))))))
theorem Jk{P:Program}{w:World}{K:ao}{mg:Str→Option Value}{base:Heap}(Z:nH fa fn K mg)(Zx:pN xs K mg):Has P w K mg base "_law_good_rule" 2 ["_law_rule","_law_k"] (sE K [.dat, .dat] .dat lA):=by
 have nd:(["_law_rule","_law_k"]:List Str).Nodup:=wC.nd
 refine g8 (d:=xU) (N:=["_law_rule","_law_k"]) (n:=0) (k:=1) Z 55 86 rfl rfl rfl rfl rfl wC rfl rfl (.inl rfl) (fun _ _ _ _ _ _ us hl=>match us,hl with|[_,_],_=>rfl) (fun f cdv A outer s H E hr tk hp=> ?_)
 exact(eO (fY (ux (pZ (mX (pX (dY (vN "tuple" PyProof.Rows.boot_tuple kit_tuple (Z.free 24) (Z.free 51) (dY (eE 0)))))) (pZ (fO t8 tQ (dY (gJ jk jm (Z.free 3) PySem.boot_len (d8 (dY (eE 0)) eY))) (dY eU)) (rF (mX (pX (dY (vN "str" PyProof.Rows.boot_str LC (Z.free 24) (Z.free 16) (dY (fB (dY (eE 0)) (dY eU))))))))))) (eV (fQ tR)) fM)
 (eO (fY (ux (vL (fO (gM hr.units) ne_eq (dY (fB (dY (eE 0)) (dY eU))) (dY fP)) (rO (fO (gM hr.units) ne_eq (dY (gJ jk jm (Z.free 3) PySem.boot_len (d8 (dY (eE 0)) eY))) (dY eU))))) (eV (fQ (yV (dY (vN "str" PyProof.Rows.boot_str LC (Z.free 24) (Z.free 16) (dY (fB (dY (eE 0)) (dY eU))))) (yV (dY (vD (gM hr.units) ne_eq (dY (gJ jk jm (Z.free 3) PySem.boot_len (d8 (dY (fB (dY (eE 0)) (dY eU))) eY))) (dY eU))) (Bt (agh (dY (adH Txt.isalpha F.slot_str_isalpha F.type_str_isalpha mt_isalpha (dY (fB (dY (eE 0)) (dY eU))))) (Bt (adH Txt.isdigit F.slot_str_isdigit F.type_str_isdigit mt_isdigit (dY (fB (dY (eE 0)) (dY eU))))))))))) fM)
 (eO (fY (ux (pZ (fO (xZ hr.units) xH (dY (gJ jk jm (Z.free 3) PySem.boot_len (d8 (dY (eE 0)) eY))) (dY eU)) (pZ (mX (pX (dY (gH (yO Z Zx) hr tk (d8 (fB (dY (eE 0)) (dY eU)) eY))))) (pZ (mX (tY tX t8 uf tQ (dY eU) (dY (fB (dY (eE 0)) (dY eU))) (dY (eE 1)))) (rF (mX (pX (dY (gH (yO Z Zx) hr tk (d8 (fB (dY (eE 0)) (dY eU)) eY)))))))))) (eV (fQ tR)) fM)
 (eO (fY (fO (gM hr.units) ne_eq (dY (fB (dY (eE 0)) (dY eU))) (dY fP)) (eV (fQ (XS tX t8 uf tQ (dY eU) (dY (fB (dY (eE 0)) (dY eU))) (dY (eE 1))))) fM)
 (eV (fQ (yV (dY (vD (gM hr.units) ne_eq (dY (fB (dY (eE 0)) (dY eU))) (dY fP))) (Bt (XS tX tX uf uf (dY eU) (dY (fB (dY (eE 0)) (dY eU))) (dY (fD vg ne_pow (dY eU) (dY eU))))))))))))
theorem Cm{P:Program}{w:World}{K:ao}{mg:Str→Option Value}{base:Heap}(Z:nH fa fn K mg)(Zx:pN xs K mg):Has P w K mg base "_law_lengths" 1 ["_law_rules"] (sE K [.dat] .new pD):=by
 have nd:(["_law_rules","_law_sizes","_law_rule","_law_size"]:List Str).Nodup:=zN.nd
 refine g8 (d:=Cv) (N:=["_law_rules","_law_sizes","_law_rule","_law_size"]) (n:=3) (k:=0) Z 56 87 rfl rfl rfl rfl rfl zN rfl rfl (.inr (mj (mj Iz))) (fun _ _ _ _ _ _ us hl=>match us,hl with|[_],_=>rfl) (fun f cdv A outer s H E hr tk hp=> ?_)
 exact(eO (jR (i:=1) nd (jM eY))
 (eO (lE hp (afl (eE 0)) (jP 2 nd) (eO (fW (i:=3) nd eU)
 (eO (fY (fO (gM hr.units) ne_eq (dY (fB (dY (eE 2)) (dY eU))) (dY fP)) (eV (fW (i:=3) nd (fD ji jh (dY (fB (jN 1) (dY (fB (dY (eE 2)) (dY eU))))) (dY (fB (jN 1) (dY (fB (dY (eE 2)) (dY eU)))))))) (eV (fY (fO (gM hr.units) ne_eq (dY (fB (dY (eE 2)) (dY eU))) (dY fP)) (eV (fW (i:=3) nd (fD oh nR (dY (fB (jN 1) (dY (fB (dY (eE 2)) (dY eU))))) (dY (fB (dY (eE 2)) (dY eU)))))) fM)))
 (eV (uw (i:=1) (eE 3))))))
 (eV (Ly 1))))
theorem Wl{P:Program}{w:World}{K:ao}{mg:Str→Option Value}{base:Heap}(Z:nH fa fn K mg)(Zx:pN xs K mg):Has P w K mg base "_law_told" 3 ["_law_found","_law_words"] (sE K [.dat, .dat] .dat wD):=by
 have nd:(["_law_found","_law_words","_law_k","_law_pair","_law_word_here"]:List Str).Nodup:=Ie.nd
 refine g8 (d:=J8) (N:=["_law_found","_law_words","_law_k","_law_pair","_law_word_here"]) (n:=3) (k:=2) Z 57 88 rfl rfl rfl rfl rfl Ie rfl rfl (.inl rfl) (fun _ _ _ _ _ _ us hl=>match us,hl with|[_,_],_=>rfl) (fun f cdv A outer s H E hr tk hp=> ?_)
 exact(eO (fY (ux (pZ (mX (pX (dY (vN "tuple" PyProof.Rows.boot_tuple kit_tuple (Z.free 24) (Z.free 51) (dY (eE 0)))))) (pZ (fO (xZ hr.units) xH (dY (gJ jk jm (Z.free 3) PySem.boot_len (d8 (dY (eE 0)) eY))) (dY eU)) (rF (mX (pX (dY (vN "tuple" PyProof.Rows.boot_tuple kit_tuple (Z.free 24) (Z.free 51) (dY (fB (dY (eE 0)) (dY eU))))))))))) (eV (fQ tR)) fM)
 (eO (fY (ux (pZ (mX (pX (dY (vN "list" PyProof.Rows.boot_list acj (Z.free 24) (Z.free 54) (dY (fB (dY (eE 0)) (dY eU))))))) (rF (fO (xZ hr.units) xH (dY (gJ jk jm (Z.free 3) PySem.boot_len (d8 (dY (fB (dY (eE 0)) (dY eU))) eY))) (dY (gJ jk jm (Z.free 3) PySem.boot_len (d8 (dY (eE 1)) eY))))))) (eV (fQ tR)) fM)
 (eO (lE hp (O8 (Z.free 1) (dY (gJ jk jm (Z.free 3) PySem.boot_len (d8 (dY (fB (dY (eE 0)) (dY eU))) eY)))) (jP 2 nd) (eV (fY (mX (pX (dY (gH (Jk Z Zx) hr tk (d8 (fB (dY (fB (dY (eE 0)) (dY eU))) (dY (eE 2))) (d8 (eE 2) eY)))))) (eV (fQ tR)) fM)))
 (eO (lE hp (agx (Z.free 38) (d8 (fB (dY (eE 0)) (dY eU)) (d8 (eE 1) eY))) (xg (gK (jP 3 nd) (gK (jP 4 nd) lH))) (eO (fY (ux (pZ (mX (pX (dY (vN "tuple" PyProof.Rows.boot_tuple kit_tuple (Z.free 24) (Z.free 51) (dY (eE 3)))))) (pZ (fO (xZ hr.units) xH (dY (gJ jk jm (Z.free 3) PySem.boot_len (d8 (dY (eE 3)) eY))) (dY eU)) (pZ (mX (pX (dY (vN "str" PyProof.Rows.boot_str LC (Z.free 24) (Z.free 16) (dY (fB (dY (eE 3)) (dY eU))))))) (rF (fO (xZ hr.units) xH (dY (fB (dY (eE 3)) (dY eU))) (dY (eE 4)))))))) (eV (fQ tR)) fM)
 (eV (fY (ux (vL (fO V6 Yz (dY (fB (dY (eE 3)) (dY eU))) (dY jX)) (rO (ux (pZ (mX (pX (dY (gH (yO Z Zx) hr tk (d8 (fB (dY (eE 3)) (dY eU)) eY))))) (rF (mX (tY tX t8 uf tQ (dY eU) (dY (fB (dY (eE 3)) (dY eU))) (dY (gJ jk jm (Z.free 3) PySem.boot_len (d8 (dY (fB (dY (eE 0)) (dY eU))) eY))))))))))) (eV (fQ tR)) fM))))
 (eV (fQ (agh (dY (vD (gM hr.units) ne_eq (dY (gJ jk jm (Z.free 3) PySem.boot_len (d8 (dY (fB (dY (eE 0)) (dY eU))) eY))) (dY eU))) (Bt (vD tX uf (dY (gJ (acB rfl) ac3 (Z.free 9) (by decide+kernel) (d8 (pJ (gH (Cm Z Zx) hr tk (d8 (fB (dY (eE 0)) (dY eU)) eY))) eY))) (dY (fD vg ne_pow (dY eU) (dY eU))))))))))))
theorem Qq{P:Program}{w:World}{K:ao}{mg:Str→Option Value}{base:Heap}(Z:nH fa fn K mg)(Zx:pN xs K mg):Has P w K mg base "_law_sign_at" 1 ["_law_rules","_law_sizes","_law_name","_law_place_here"] (sE K [.dat, .dat, .dat, .dat] .dat ou):=by
 have nd:(["_law_rules","_law_sizes","_law_name","_law_place_here","_law_one"]:List Str).Nodup:=Ac.nd
 refine g8 (d:=BW) (N:=["_law_rules","_law_sizes","_law_name","_law_place_here","_law_one"]) (n:=1) (k:=0) Z 58 89 rfl rfl rfl rfl rfl Ac rfl rfl (.inl rfl) (fun _ _ _ _ _ _ us hl=>match us,hl with|[_,_,_,_],_=>rfl) (fun f cdv A outer s H E hr tk hp=> ?_)
 exact(eO (yr hp (fO (xZ hr.units) xH (dY (fB (dY (fB (dY (eE 0)) (dY (eE 2)))) (dY eU))) (dY fP)) (eO (fW (i:=4) nd (fB (dY (fB (dY (eE 0)) (dY (eE 2)))) (dY eU)))
 (eV (fY (fO (gM hr.units) ne_eq (dY (fB (dY (fB (dY (eE 0)) (dY (eE 2)))) (dY eU))) (dY fP)) (eO (fW (i:=3) nd (fD iU iQ (dY (eE 3)) (dY (fB (dY (eE 1)) (dY (eE 4))))))
 (eV (fW (i:=2) nd (eE 4)))) (eV (fY (fO t8 tQ (dY (eE 3)) (dY (fB (dY (eE 1)) (dY (eE 4))))) (eV (fW (i:=2) nd (eE 4))) (eO (fW (i:=3) nd (fD lD lB (dY (eE 3)) (dY (fB (dY (eE 1)) (dY (eE 4))))))
 (eV (fW (i:=2) nd (fB (dY (fB (dY (eE 0)) (dY (eE 2)))) (dY eU)))))))))))
 (eV (fQ (fB (dY (fB (dY (eE 0)) (dY (eE 2)))) (dY eU)))))
theorem M5{P:Program}{w:World}{K:ao}{mg:Str→Option Value}{base:Heap}(Z:nH fa fn K mg)(Zx:pN xs K mg):Has P w K mg base "_law_beneath" 1 ["_law_node_here","_law_sizes","_law_size","_law_place_here"] (sE K [.dat, .bor, .dat, .dat] .dat iz):=by
 have nd:(["_law_node_here","_law_sizes","_law_size","_law_place_here","_law_one"]:List Str).Nodup:=zU.nd
 refine g8 (d:=BJ) (N:=["_law_node_here","_law_sizes","_law_size","_law_place_here","_law_one"]) (n:=1) (k:=0) Z 59 90 rfl rfl rfl rfl rfl zU rfl rfl (.inl rfl) (fun _ _ _ _ _ _ us hl=>match us,hl with|[_,_,_,_],_=>rfl) (fun f cdv A outer s H E hr tk hp=> ?_)
 exact(eO (fW (i:=4) nd (fB (dY (eE 0)) (dY eU)))
 (eO (fY (ux (vL (fO (gM hr.units) ne_eq (dY (fB (dY (eE 0)) (dY eU))) (dY fP)) (rO (fO W8 Wd (dY (eE 3)) (dY (fB (jN 1) (dY (eE 4)))))))) (eV (fQ (iG (d8 (fB (dY (eE 0)) (dY eU)) (d8 (fD lD lB (dY (eE 3)) (dY (fB (jN 1) (dY (eE 4))))) eY))))) fM)
 (eO (fY (fO (gM hr.units) ne_eq (dY (fB (dY (eE 0)) (dY eU))) (dY fP)) (eV (fQ (iG (d8 (eE 4) (d8 (fD iU iQ (dY (eE 3)) (dY (fB (jN 1) (dY (eE 4))))) eY))))) fM)
 (eO (fY (fO (gM hr.units) ne_eq (dY (fB (dY (eE 0)) (dY eU))) (dY fP)) (eV (fQ (iG (d8 (eE 4) (d8 (fD ji jh (dY (fB (dY (eE 0)) (dY eU))) (dY (eE 3))) eY))))) fM)
 (eO (fY (fO (gM hr.units) ne_eq (dY (fB (dY (eE 0)) (dY eU))) (dY fP)) (eV (fQ (iG (d8 (eE 4) (d8 (fD lD lB (dY (fD lD lB (dY (eE 2)) (dY eU))) (dY (eE 3))) eY))))) fM)
 (eO (fY (ux (vL (fO (gM hr.units) ne_eq (dY (fB (dY (eE 0)) (dY eU))) (dY fP)) (rO (fO W8 Wd (dY (eE 3)) (dY (fD ji jh (dY (fB (dY (eE 0)) (dY eU))) (dY (fB (jN 1) (dY (fB (dY (eE 0)) (dY eU))))))))))) (eV (fQ (iG (d8 (eE 4) (d8 (fD lD lB (dY (eE 3)) (dY (fB (jN 1) (dY (fB (dY (eE 0)) (dY eU)))))) eY))))) fM)
 (eO (fY (ux (vL (fO (gM hr.units) ne_eq (dY (fB (dY (eE 0)) (dY eU))) (dY fP)) (rO (fO W8 Wd (dY (eE 3)) (dY (fB (dY (eE 0)) (dY eU))))))) (eV (fQ (iG (d8 (fB (dY (eE 0)) (dY eU)) (d8 (fD lD lB (dY (eE 3)) (dY (fB (dY (eE 0)) (dY eU)))) eY))))) fM)
 (eO (fY (ux (vL (fO (gM hr.units) ne_eq (dY (fB (dY (eE 0)) (dY eU))) (dY fP)) (rO (fO W8 Wd (dY (eE 3)) (dY (fB (dY (eE 0)) (dY eU))))))) (eV (fQ (iG (d8 (eE 4) (d8 (fD lD lB (dY (fD ji jh (dY (eE 3)) (dY (fB (dY (eE 0)) (dY eU))))) (dY (fB (dY (eE 0)) (dY eU)))) eY))))) fM)
 (eV (fQ (iG (d8 (eE 4) (d8 (eE 3) eY)))))))))))))
theorem Py{P:Program}{w:World}{K:ao}{mg:Str→Option Value}{base:Heap}(Z:nH fa fn K mg)(Zx:pN xs K mg):Has P w K mg base "_law_sign_of" 2 ["_law_nodes","_law_sizes","_law_name","_law_place_here"] (sE K [.bor, .bor, .dat, .dat] .dat oY):=by
 have nd:(["_law_nodes","_law_sizes","_law_name","_law_place_here","_law_changes","_law_sign","_law_old","_law_new","_law_node_here"]:List Str).Nodup:=zW.nd
 refine g8 (d:=Cq) (N:=["_law_nodes","_law_sizes","_law_name","_law_place_here","_law_changes","_law_sign","_law_old","_law_new","_law_node_here"]) (n:=5) (k:=1) Z 60 91 rfl rfl rfl rfl rfl zW rfl rfl (.inl rfl) (fun _ _ _ _ _ _ us hl=>match us,hl with|[_,_,_,_],_=>rfl) (fun f cdv A outer s H E hr tk hp=> ?_)
 exact(eO (jR (i:=4) nd (jM eY))
 (eO (yr hp (fO (xZ hr.units) xH (dY (fB (dY (fB (jN 0) (dY (eE 2)))) (dY eU))) (dY fP)) (eO (fW (i:=8) nd (fB (jN 0) (dY (eE 2))))
 (eO (fY (fO (gM hr.units) ne_eq (dY (fB (dY (eE 8)) (dY eU))) (dY fP)) (eV (uw (i:=4) (iG (d8 (fB (dY (eE 8)) (dY eU)) (d8 (fB (dY (eE 8)) (dY eU)) eY))))) fM)
 (eV (oA (gH (M5 Z Zx) hr tk (d8 (eE 8) (d8 (jN 1) (d8 (fB (jN 1) (dY (eE 2))) (d8 (eE 3) eY))))) (xg (gK (jP 2 nd) (gK (jP 3 nd) lH))))))))
 (eO (fW (i:=5) nd (fB (dY (fB (dY (fB (jN 0) (dY (eE 2)))) (dY eU))) (dY (eE 3))))
 (eO (UJ 4 (lE hp (adT (Z.free 65) (eE 4)) (xg (gK (jP 6 nd) (gK (jP 7 nd) lH))) (eV (fY (fO (gM hr.units) ne_eq (dY (eE 5)) (dY (eE 6))) (eV (fW (i:=5) nd (eE 7))) fM))))
 (eV (fQ (eE 5)))))))
theorem Uw{P:Program}{w:World}{K:ao}{mg:Str→Option Value}{base:Heap}(Z:nH fa fn K mg)(Zx:pN xs K mg):Has P w K mg base "_law_right" 3 ["_law_rules","_law_name","_law_model","_law_node_here","_law_cells"] (SpG K 5 rE):=by
 have nd:(["_law_rules","_law_name","_law_model","_law_node_here","_law_cells","_law_sizes","_law_size","_law_place_here","_law_cell_here"]:List Str).Nodup:=DN.nd
 refine aaz (d:=Gn) (N:=["_law_rules","_law_name","_law_model","_law_node_here","_law_cells","_law_sizes","_law_size","_law_place_here","_law_cell_here"]) (n:=4) (k:=2) (bs:=[false,false,false,false,false]) Z 61 92 rfl rfl rfl rfl rfl DN rfl rfl (fun _ _ _ _ _ _ us hl=>match us,hl with|[_,_,_,_,_],_=>rfl) (fun pa f cdv A outer s H E hr tk hp=> ?_)
 exact(eO (fW (i:=5) nd (nQ (gH (Cm Z Zx) hr tk (d8 (eE 0) eY))))
 (eO (fW (i:=6) nd (fB (qH (pQ 2 1)) (dY (eE 3))))
 (eO (fY (ux (pZ (fO (gM hr.units) ne_eq (dY (eE 6)) (dY eU)) (rF (fO z8 ne_is (dY (eE 1)) (dY jX))))) (eV (zf (yV (dY (vD (gM hr.units) ne_eq (dY (eE 6)) (dY eU))) (Bt (vD z8 ne_is (dY (eE 1)) (dY jX)))))) fM)
 (eO (fY (fO (xZ hr.units) xH (dY (fB (dY (eE 5)) (dY (eE 1)))) (dY (eE 6))) (eV (zf tR)) fM)
 (eO (lE hp (Yv (fD ji jh (pJ (jM (d8 eU (d8 (fD lD lB (dY (eE 6)) (dY eU)) eY)))) (pJ (aed (own:=[("_law_cell_here",8)]) nd (ah1 (dY (eE 4))) (blkOk_by (own:=[("_law_cell_here",8)]) (N:=["_law_rules","_law_name","_law_model","_law_node_here","_law_cells","_law_sizes","_law_size","_law_place_here","_law_cell_here"]) (sc:=defScope rQ) (by decide+kernel)) (RL 8) (fun _ _ _ _ _=>pg_name (i:=8) nd rfl (Or.inl rfl)) (fun _ _ _ _ _=>CW) (fun _ _ _ _ _=>(gH (zM Z Zx) hr takes0 (d8 (eE 8) (d8 (eE 6) eY)))))))) (jP 7 nd) (eV (fY (fO (xZ hr.units) xH (dY (gH (Qq Z Zx) hr tk (d8 (eE 0) (d8 (eE 5) (d8 (eE 1) (d8 (eE 7) eY)))))) (dY (gH (Py Z Zx) hr tk (d8 (qH (pQ 2 0)) (d8 (qH (pQ 2 1)) (d8 (eE 3) (d8 (eE 7) eY))))))) (eV (zf tR)) fM)))
 (eV (zf tR)))))))
theorem ahP{P:Program}{w:World}{K:ao}{mg:Str→Option Value}{base:Heap}(Z:nH fa fn K mg)(Zx:pN xs K mg)(hm:aa9):Has P w K mg base "law" 11 ["_law_script"] (SpT K):=by
 have nd:(["_law_script","_law_model","_law_rows_here","_law_found","_law_word_here","_law_name","_law_held","_law_again","_law_cells","_law_k"]:List Str).Nodup:=ad9.nd
 refine ahl (d:=acW) (N:=["_law_script","_law_model","_law_rows_here","_law_found","_law_word_here","_law_name","_law_held","_law_again","_law_cells","_law_k"]) (n:=9) (k:=10) Z 62 93 rfl rfl rfl rfl rfl ad9 rfl (fun _ _ _ _ _ _ us hl=>match us,hl with|[_],_=>rfl) hm (fun g cdv A outer s H E hr tk hp=> ?_)
 exact aht (agD (i:=1) nd (NZ (jM eY) (NZ (jM eY) (NZ Di aeB))))
  (wX (i:=2) nd (ae6 (VB Z Zx) hr tk (Bm (eE 0) (aa8 1 CN))))
  (ps_set (i:=3) nd rfl (by first|exact Or.inl rfl|exact Or.inr rfl) (gH (adw Z Zx) hr tk (d8 (Ld (dY fP) (dY (eE 2))) eY)))
  (fun _ _=>(fY (mX (pX (dY (gH (Wl Z Zx) hr tk (d8 (eE 3) (d8 (nQ (Jl (Z.free 11) (qH (pQ 1 2)))) eY)))))) (eV (fQ tR)) fM))
  (fun _ _=>(lE hp (Yv (fB (dY (eE 3)) (dY eU))) (xg (gK (jP 4 nd) (gK (jP 5 nd) lH))) (eO (fW (i:=8) nd (nQ (jM eY)))
 (eO (fY (fO (gM hr.units) ne_eq (dY (nJ hr.units (qH (pQ 1 2)) (dY (eE 4)))) (dY (fD lD lB (dY (gJ jk jm (Z.free 3) PySem.boot_len (d8 (dY (eE 2)) eY))) (dY eU)))) (eV (Zk (i:=8) (own:=[("_law_k",9)]) nd (sw_true rfl rfl rfl (by decide+kernel)) (Mv (aij (Z.free 1) (d8 (dY eU) (d8 (dY (gJ (Vq rfl) Vi (Z.free 5) (by decide+kernel) (d8 (dY eU) (d8 (dY (gJ jk jm (Z.free 3) PySem.boot_len (d8 (dY (eE 0)) eY))) eY)))) eY)))) (blkOk_by (own:=[("_law_k",9)]) (N:=["_law_script","_law_model","_law_rows_here","_law_found","_law_word_here","_law_name","_law_held","_law_again","_law_cells","_law_k"]) (sc:=defScope WN) (by decide+kernel)) (RL 9) (fun _ _ _ _ _=>pg_name (i:=9) nd rfl (Or.inl rfl)) (fun _ _ _ _ _=>CW) (fun _ _ _ _ _=>(gH (qR Z Zx) hr takes0 (d8 (eE 0) (d8 (eE 9) eY)))))) fM)
 (eV (fY (mX (pX (dY (ait (Uw Z Zx) hr tk (Bm (fB (dY (eE 3)) (dY eU)) (Bm (eE 5) (afU 1 (Bm (nJ hr.units (qH (pQ 1 2)) (dY (eE 4))) (Bm (eE 8) CN))))))))) (eV (fQ tR)) fM))))))
  (fun _ _=>(jR (i:=6) nd (jL yN yJ (Z.free 54) (by decide+kernel) (d8 (dY (fB (dY (eE 3)) (dY eU))) eY))))
  (afH 3)
  (eO (fW (i:=7) nd (ac9 (gH (adw Z Zx) hr tk (d8 (Ld (dY fP) (dY (eE 2))) eY))))
 (eV (fQ (yV (dY (vD (gM hr.units) ne_eq (dY (fB (dY (eE 7)) (dY eU))) (dY (fB (dY (eE 3)) (dY eU))))) (yV (dY (vD (gM hr.units) ne_eq (dY (fB (dY (eE 7)) (dY eU))) (jN 6))) (Bt (vD (gM hr.units) ne_eq (dY (fB (dY (eE 3)) (dY eU))) (dY (fD ji jh (jN 6) (pJ (jM (d8 fP eY))))))))))))
abbrev R:PySem.W.OpenRow:=PySem.W.OpenLaw.row PySem.Challenge.rw_shortbook_k61_one_statement
abbrev hk:PySem.W.Hook:=hookX 5 fa fn xs
def ob(s:PySem.W.SharedT):He.AlD×Bool:=obsX 5 fa fn xs (HandSHeadRun.getT s)
theorem aiF(s:PySem.W.SharedT):ob s=hk.obs s.abs:=obsX_eq (HandSHeadRun.getT_eq s)
def loose:List Str:=(["BookError","TooLong","NoName","NoPlace","NoText","NoWord","SIGNS","is_sign","MOST","size_of","parts_of","needed","named","lengths","length","put","linked","over","renamed","joined","repeated","brought","beginning","ending","across"]:List Str)++(["cut","tidy","turned","otherwise","FIGURES","LETTERS","WORD","NUMBER","WRITTEN","PATTERN","is_word","number_of","signs_of","value_of","values_of","kinds_of","statement_of","ask_standing","spelled_rules","side_by_side","put_in","taken_out","of_two","of_one","made_text"]:List Str)++(["texts_of","read","_law_cell","_law_sign_by","_law_place","_law_verbs","_law_word","_law_letters","_law_signs","_law_many","_law_inner","_law_deed","_law_row","_law_size_of","_law_node","_law_beneath","_law_sign_of","_law_sized","_law_do","_law_whole","_law_good_rule","_law_lengths","_law_told","_law_length","_law_sign_at"]:List Str)++(["_law_rows","_law_right"]:List Str)
theorem runs(w:World):HandSHeadRun.RunEq R (PySem.W.view R.prog [88]) hk ob 4000 loose w:=by
 intro os
 kernel_rfl
theorem aeH{P:Program}{w:World}{K:ao}{mg:Str→Option Value}(Z:nH fa fn K mg)(Zx:pN xs K mg)(hm:aa9):∃fd:FuncData,(∀(s:Shared) (v:Value),BindsTo s fd ⟨[v],[]⟩ [("_law_script",v)])∧∀base:Heap,FnOk P w K mg base (L2.CX P w) 11 (He.ga K "law") fd ["_law_script"] (SpT K):=
 ahE Z 62 (d:=acW) rfl rfl rfl (fun base=>ahP (P:=P) (w:=w) (base:=base) Z Zx hm) (fun _ _ _ _ _ _ us hl=>match us,hl with|[_],_=>rfl)
theorem holds_of(hm:aa9):PySem.Challenge.rw_shortbook_k61_one_statement.Holds:=by
 w_on;o_law
 refine HandSHeadRun.head_any (r:=PySem.W.OpenLaw.row PySem.Challenge.rw_shortbook_k61_one_statement) (q:=PySem.W.view (PySem.W.OpenLaw.row PySem.Challenge.rw_shortbook_k61_one_statement).prog [88]) (H:=hk) (ob:=ob) (M:=4000) (loose:=loose) (d:=HandSHeadRun.topDef (PySem.W.OpenLaw.row PySem.Challenge.rw_shortbook_k61_one_statement).prog 88) (kwd:=[]) aiF
  (by kernel_rfl) (fun s=>by kernel_rfl) runs (by kernel_rfl) (by kernel_rfl) (by kernel_rfl) (by rfl) (by first|assumption|decide+kernel) (by decide+kernel) ⟨rfl,rfl,rfl,rfl,rfl,by decide+kernel⟩ ?hw ?hc
 case hw=>w_witness2
 case hc=>
  refine aeS (l:=PySem.Challenge.rw_shortbook_k61_one_statement) (n:=63) (k:=11) (x:="_law_script") rfl (by decide) (by kernel_rfl) ⟨rfl,by decide,by decide⟩ ?F
  intro w mg f h Y G hmg0
  obtain⟨K,KX,c,cx⟩:=Y
  have Z:nH fa fn K mg:=⟨c,h,KX,G⟩
  have Zx:pN xs K mg:=pN.of KX G cx
  have hmg:mg ("law":PySem.Str)=some (.ref f):=by
   have e:(HandSHeadRun.topDef (PySem.W.OpenLaw.row PySem.Challenge.rw_shortbook_k61_one_statement).prog 88).name=("law":PySem.Str):=by kernel_rfl
   rw [←e]
   exact hmg0
  have e2:f=He.ga K "law":=by
   have z:=hmg.symm.trans (Z.glo 93 (x:="law"))
   cases z
   rfl
  subst e2
  obtain⟨fd,hb,hF⟩:=aeH (P:=(PySem.Challenge.rw_shortbook_k61_one_statement).prog) (w:=w) Z Zx hm
  exact⟨K,fd,SpT K,KX,hb,fun H a ns hl hbits _ hS=>⟨ns,a,rfl,hl,hbits,hS,fun _=>rfl⟩,fun base _ _=>hF base⟩
end Sb
set_option maxRecDepth 10000000
namespace Sb
open PySem PySem.Spec L2 Evl DL
theorem acs{z:Int}{n:Nat}(h:Builtin.Int.intBits z≤n):z.natAbs.log2≤n:=by
 unfold Builtin.Int.intBits at h
 split at h
 ·rename_i e
  have:z=0:=by simpa using e
  subst this
  simp
 ·omega
theorem abZ{i j:Int}(a:Nat)(hi:Builtin.Int.intBits i≤1048576)(hj:j.natAbs<2 ^ a)(ha:a≤1000:=by decide):lQ (.int i) (.int j)= .ok (.int (i*j)):=
 aaI (by
  have h1:=acs hi
  have h2:=GZ hj
  unfold vQ
  omega)
theorem abs_lt_of{i:Int}{n:Nat}(h0:0≤i)(h:i<2 ^ n):i.natAbs<2 ^ n:=by
 have e:((2 ^ n:Nat):Int)=(2:Int) ^ n:=by simp
 omega
theorem uE{n:Nat}(h:n≤16777000):n≤sizeLine:=bJ h (by decide)
theorem lO{n:Nat}(h:n<16777000):n<sizeLine:=Nat.lt_of_lt_of_le h (by decide)
abbrev SG:Str:="0123456789ABCDEFGHIJKLMNOPQRSTUVWXYZabcdefghijklmnopqrstuvwxyz"
def GF:List Nat:=SG.cps.toList
theorem afK:GF.length=62:=by decide+kernel
theorem ahd:SG.length≤sizeLine:=by decide+kernel
abbrev s1(c:Nat):Str:=⟨#[c]⟩
abbrev SIGN:Str:="sign"
abbrev JOIN:Str:="join"
abbrev TIMES:Str:="times"
theorem js:¬(JOIN=SIGN):=by decide+kernel
theorem ts:¬(TIMES=SIGN):=by decide+kernel
theorem tj:¬(TIMES=JOIN):=by decide+kernel
theorem sj:¬(SIGN=JOIN):=by decide+kernel
theorem st:¬(SIGN=TIMES):=by decide+kernel
theorem jt:¬(JOIN=TIMES):=by decide+kernel
inductive Rule where
 |sign (c:Nat)|join (a b:Nat)|times (a n:Nat)
 deriving DecidableEq
def fG:Rule→D
 | .sign c=> .tuple [.str SIGN, .str (s1 c)]
 | .join a b=> .tuple [.str JOIN, .int (a:Int), .int (b:Int)]
 | .times a n=> .tuple [.str TIMES, .int (a:Int), .int (n:Int)]
def eZ(rs:List Rule):D:= .tuple (rs.map fG)
def fJ(ns:List Nat):D:= .list (ns.map fun(n:Nat)=>aH (n:Int))
def MOST:Nat:=1152921504606846976
def Rule.ok(i:Nat):Rule→Prop
 | .sign c=>c∈GF
 | .join a b=>a<i∧b<i
 | .times a n=>a<i∧1≤n∧n≤MOST
def Rule.size(sz:List Nat):Rule→Nat
 | .sign _=>1
 | .join a b=>sz.getD a 0+sz.getD b 0
 | .times a n=>sz.getD a 0*n
def Ba(acc:List Nat)(rs:List Rule):List Nat:=rs.foldl (fun acc r=>acc++[r.size acc]) acc
def sizes(rs:List Rule):List Nat:=Ba [] rs
theorem Zz(rs:List Rule):∀acc,(Ba acc rs).length=acc.length+rs.length:=by
 induction rs with
 |nil=>intro acc;simp [Ba]
 |cons r rs ih=>
  intro acc
  have:=ih (acc++[r.size acc])
  simp [Ba] at this⊢
  omega
theorem j6(rs:List Rule):(sizes rs).length=rs.length:=by simp [sizes,Zz]
theorem tL(rs:List Rule)(r:Rule):sizes (rs++[r])=sizes rs++[r.size (sizes rs)]:=by simp [sizes,Ba]
def Good(rs:List Rule):Prop:=∀(i:Nat) r,rs[i]? =some r→r.ok i
theorem Good.snoc{rs:List Rule}{r:Rule}(h:Good rs)(hr:r.ok rs.length):Good (rs++[r]):=fun i q e=>by
 rcases dW i rs.length with hl|hg
 ·rw [aP hl] at e
  exact h i q e
 ·rw [bG hg] at e
  have e0:i-rs.length=0:=by
   cases z:i-rs.length with
   |zero=>rfl
   |succ n=>
    rw [z] at e
    simp at e
  rw [e0] at e
  have ei:i=rs.length:=by omega
  subst ei
  have:q=r:=by simpa using e.symm
  rw [this]
  exact hr
theorem Good.nil:Good []:=fun i r e=>by simp at e
theorem Good.init{rs:List Rule}{r:Rule}(h:Good (rs++[r])):Good rs∧r.ok rs.length:=by
 refine⟨fun i q e=>h i q ?_,h rs.length r (by simp)⟩
 rw [aP (au.mp e).1]
 exact e
def Fits(m:Nat)(rs:List Rule):Prop:=∀n∈sizes rs,n≤m
theorem snocInd{α:Type}{P:List α→Prop}(h0:P [])(hs:∀l a,P l→P (l++[a])):∀l,P l:=by
 have key:∀l:List α,P l.reverse:=by
  intro l
  induction l with
  |nil=>exact h0
  |cons a l ih=>
   rw [List.reverse_cons]
   exact hs _ _ ih
 intro l
 have:=key l.reverse
 rw [List.reverse_reverse] at this
 exact this
theorem Q7(rs qs:List Rule):∃zs,sizes (rs++qs)=sizes rs++zs:=by
 refine snocInd (P:=fun qs=>∃zs,sizes (rs++qs)=sizes rs++zs) ⟨[],by simp⟩ ?_ qs
 rintro l a ⟨zs,h⟩
 refine⟨zs++[a.size (sizes (rs++l))],?_⟩
 rw [←aK,tL,h,aK]
theorem Fits.pre{m:Nat}{rs qs:List Rule}(h:Fits m (rs++qs)):Fits m rs:=fun n hn=>by
 obtain⟨zs,e⟩:=Q7 rs qs
 exact h n (by rw [e];exact bW _ hn)
theorem Fits.take{m:Nat}{rs:List Rule}(h:Fits m rs)(i:Nat):Fits m (rs.take i):=Fits.pre (qs:=rs.drop i) (by rw [bZ];exact h)
def Pos(rs:List Rule):Prop:=∀n∈sizes rs,1≤n
theorem size_pos{sz:List Nat}{r:Rule}(h:∀n∈sz,1≤n)(hr:r.ok sz.length):1≤r.size sz:=by
 have g:∀a,a<sz.length→1≤sz.getD a 0:=fun a ha=>by
  have e:sz.getD a 0=sz[a]:=by simp [bA,ha]
  rw [e]
  exact h _ (dH ha)
 cases r with
 |sign c=>exact bD _
 |join a b=>
  have:=g a hr.1
  show 1≤sz.getD a 0+sz.getD b 0
  omega
 |times a n=>
  have h1:=g a hr.1
  have h2:=hr.2.1
  exact Nat.mul_pos h1 h2
theorem Xr:∀(rs:List Rule),Good rs→Pos rs:=by
 refine snocInd ?_ ?_
 ·intro _ n hn
  simp [sizes,Ba] at hn
 ·intro rs r ih h n hn
  obtain⟨h1,h2⟩:=h.init
  rw [tL,aU] at hn
  rcases hn with hn|hn
  ·exact ih h1 n hn
  ·have:n=r.size (sizes rs):=by simpa using hn
   rw [this]
   exact size_pos (ih h1) (by rw [j6];exact h2)
theorem jD{ns:List Nat}{a:Nat}(h:a<ns.length):fX (fJ ns) (.int (a:Int))= .ok (.int (ns.getD a 0:Nat)):=by
 unfold fJ
 rw [acu (by omega) (by simpa using h)]
 simp [bA,h]
@[simp] theorem gh (a:D) (r:List D):fX (.tuple (a::r)) (.int 0)= .ok a:=by
 rw [Yt (by decide) (by simp)]
 rfl
@[simp] theorem gA (a b:D) (r:List D):fX (.tuple (a::b::r)) (.int 1)= .ok b:=by
 rw [Yt (by decide) (by simp;omega)]
 rfl
@[simp] theorem jy (a b c:D) (r:List D):fX (.tuple (a::b::c::r)) (.int 2)= .ok c:=by
 rw [Yt (by decide) (by simp;omega)]
 rfl
theorem Rm{n a:Nat}(h:n<2 ^ a):((n:Int)).natAbs<2 ^ a:=by simpa using h
theorem W3{m n:Nat}(a b:Nat)(hm:m<2 ^ a)(hn:n<2 ^ b)(h:a+b<vQ:=by decide):lQ (.int (m:Int)) (.int (n:Int))= .ok (.int ((m*n:Nat):Int)):=by
 rw [vZ a b (Rm hm) (Rm hn) h]
 simp
theorem Uy{sz:List Nat}{m a:Nat}(h:∀n∈sz,n≤m):sz.getD a 0≤m:=by
 by_cases ha:a<sz.length
 ·have e:sz.getD a 0=sz[a]:=by simp [bA,ha]
  rw [e]
  exact h _ (dH ha)
 ·have e:sz.getD a 0=0:=by simp [bA,Nat.le_of_not_lt ha]
  omega
theorem ahz{ks:List Kd}{n:Nat}{m:SM}{ds:List D}{d:D}(h:m (jV ks ds++aD n .un)= .rt d):jG ks n m ds= .ok d:=by simp [jG,h]
theorem ahv{ks:List Kd}{n:Nat}{m:SM}{ds:List D}{ρ:DL.Env}(h:m (jV ks ds++aD n .un)= .nx ρ):jG ks n m ds= .ok .none:=by simp [jG,h]
end Sb
namespace Sb
open PySem PySem.Spec L2 Evl DL
theorem sO{rs:List Rule}{i:Nat}(h:i<rs.length)(qs:List Rule):(sizes (rs++qs)).getD i 0=(sizes rs).getD i 0:=by
 obtain⟨zs,e⟩:=Q7 rs qs
 have hl:i<(sizes rs).length:=by rw [j6];exact h
 rw [e]
 simp [bA,aP hl]
theorem vI(rs:List Rule)(r:Rule):(sizes (rs++[r])).getD rs.length 0=r.size (sizes rs):=by
 rw [tL]
 have hl:=j6 rs
 simp [bA,←hl]
theorem Good.pre{rs qs:List Rule}(h:Good (rs++qs)):Good rs:=fun i r e=>h i r (by rw [aP (au.mp e).1];exact e)
theorem Good.take{rs:List Rule}(h:Good rs)(i:Nat):Good (rs.take i):=Good.pre (qs:=rs.drop i) (by rw [bZ];exact h)
theorem Fits.snoc{m:Nat}{rs:List Rule}{r:Rule}(h:Fits m rs)(hr:r.size (sizes rs)≤m):Fits m (rs++[r]):=fun n hn=>by
 rw [tL,aU] at hn
 rcases hn with hn|hn
 ·exact h n hn
 ·have:n=r.size (sizes rs):=by simpa using hn
  omega
theorem Fits.get{m:Nat}{rs:List Rule}(h:Fits m rs)(i:Nat):(sizes rs).getD i 0≤m:=Uy h
theorem Pos.get{rs:List Rule}(g:Good rs){i:Nat}(h:i<rs.length):1≤(sizes rs).getD i 0:=by
 have hl:i<(sizes rs).length:=by rw [j6];exact h
 have e:(sizes rs).getD i 0=(sizes rs)[i]:=by simp [bA,hl]
 rw [e]
 exact Xr rs g _ (dH hl)
def Start(rs:List Rule):Prop:=∃s t tl,rs= .sign s:: .sign t::tl
theorem Start.app{rs:List Rule}(h:Start rs)(qs:List Rule):Start (rs++qs):=by
 obtain⟨s,t,tl,rfl⟩:=h
 exact⟨s,t,tl++qs,rfl⟩
theorem Start.size{rs:List Rule}(h:Start rs):(sizes rs).getD 0 0=1:=by
 obtain⟨s,t,tl,rfl⟩:=h
 exact sO (rs:=[.sign s]) (i:=0) (Nat.zero_lt_one) (.sign t::tl)
theorem sX(rs:List Rule):jr [eZ rs]= .ok (.int ((rs.length:Nat):Int)):=by simp [eZ]
theorem Zv(rs qs:List Rule)(h:rs.length+qs.length≤16700000):jw (eZ rs) (.tuple (qs.map fG))= .ok (eZ (rs++qs)):=by
 rw [eZ,afp (by simp only [aC];exact uE (by omega)),←cR]
 rfl
theorem sW{rs:List Rule}{a:Nat}{r:Rule}(h:rs[a]? =some r):fX (eZ rs) (.int (a:Int))= .ok (fG r):=by
 have hl:=(au.mp h).1
 have e:rs[a]=r:=(au.mp h).2
 unfold eZ
 rw [Yt (by omega) (by simpa using hl)]
 simp [e]
theorem Zo{ns:List Nat}(h:1≤ns.length):fX (fJ ns) (.int (-1))= .ok (.int ((ns.getD (ns.length-1) 0:Nat):Int)):=by
 obtain⟨l,a,rfl⟩:∃l a,ns=l++[a]:=⟨ns.dropLast,ns.getLast (fun z=>by rw [z] at h;simp at h),(List.dropLast_concat_getLast _).symm⟩
 unfold fJ
 rw [cR]
 show fX (.list (l.map _++[_])) _=_
 rw [Wb]
 simp [bA]
theorem ZV(ns:List Nat):jr [fJ ns]= .ok (.int ((ns.length:Nat):Int)):=by simp [fJ]
def abM:D→ER
 | .list ds=> .ok (.list ds)
 |_=> .bad
theorem tO(m:EM)(ρ:DL.Env):nA m ρ=(m ρ).bind abM:=by
 unfold nA ER.bind abM
 cases m ρ with
 |ok d=>cases d<;>rfl
 |_=>rfl
theorem adM(ds:List D):abM (.list ds)= .ok (.list ds):=rfl
theorem Pg(ns:List Nat):abM (fJ ns)= .ok (fJ ns):=rfl
theorem Rb{m:EM}{ρ:DL.Env}{ds:List D}(h:m ρ= .ok (.list ds)):iL m ρ= .ok ds:=by simp only [iL,h]
theorem ah8{m:EM}{ρ:DL.Env}{ds:List D}(h:m ρ= .ok (.tuple ds)):iT m ρ= .ok ds:=by simp only [iT,h]
theorem T6{m:EM}{ρ:DL.Env}{ns:List Nat}(h:m ρ= .ok (fJ ns)):iL (nA m) ρ= .ok (ns.map fun(n:Nat)=>aH (n:Int)):=by
 refine Rb ?_
 rw [tO,h,iV,Pg,fJ]
def ag9(m:List D→ER):SM:=fH (j7 1 (kJ [])) (fH (nD (iT (dZ 0)) (gN 2) (sG 1 (fu m [(dZ 2),(gR 1)]))) (Ft 1))
theorem afG{m:List D→ER}(hm:∀(r:Rule) (sz:List Nat),r.ok sz.length→(∀n∈sz,n≤MOST)→m [fG r,fJ sz]= .ok (.int ((r.size sz:Nat):Int)))(rs:List Rule)(g:Good rs)(f:Fits MOST rs)(hl:rs.length≤16700000):
 jG [.dat] 2 (ag9 m) [eZ rs]= .ok (fJ (sizes rs)):=by
 obtain⟨L,hL⟩:∃L,L=eZ rs:=⟨_,rfl⟩
 have key:ag9 m [.dat L, .un, .un]= .rt (fJ (sizes rs)):=by
  unfold ag9
  have z0:(0:Nat)≤sizeLine:=by decide
  rw [qM (ρ' :=[.dat L, .own (fJ (sizes [])), .un]) (by simp! only [kJ,m7,cG,z0,if_true];rfl)]
  obtain⟨ρ',hf,k2,rfl⟩:=La (mi:=iT (dZ 0)) (g:=gN 2) (body:=sG 1 (fu m [(dZ 2),(gR 1)]))
   (ρ:=[.dat L, .own (fJ (sizes [])), .un]) (ds:=rs.map fG)
   (fun i ρ=>∃(k2:Sl),ρ=[.dat L, .own (fJ (sizes (rs.take i))),k2])
   (by simp only [iT,jQ,hL,eZ])
   ⟨_,rfl⟩
   (by
     rintro i d ρ hd ⟨k2,rfl⟩
     rw [aF,aJ] at hd
     obtain⟨r,h1,rfl⟩:=hd
     have hi:=(au.mp h1).1
     have et:rs.take (i+1)=rs.take i++[r]:=by
      rw [bF,h1]
      rfl
     have li:(sizes (rs.take i)).length=i:=by rw [j6,aW];omega
     have e:=hm r (sizes (rs.take i)) (by rw [li];exact g i r h1) (f.take i)
     refine⟨_,[.dat L, .own (fJ (sizes (rs.take (i+1)))), .dat (fG r)],oR, .inl ?_,_,rfl⟩
     simp only [set_0,kZ]
     rw [app_ok (ds:=(sizes (rs.take i)).map fun(n:Nat)=>aH (n:Int)) (d:= .int (r.size (sizes (rs.take i)):Nat)) rfl (by simp only [Hq,jQ,lu,wU,Ax,iV,e]) (by
      rw [aC,li]
      exact lO (by omega)),et,tL]
     simp [fJ])
  rw [qM hf]
  have et:rs.take (rs.map fG).length=rs:=by rw [aC,bO]
  rw [et]
  rfl
 simp only [jG,jV,aD,cX,dh,←hL,key]
end Sb
namespace Sb
open PySem PySem.Spec L2 Evl DL
def Rule.tx(ts:List (List Nat)):Rule→List Nat
 | .sign c=>[c]
 | .join a b=>ts.getD a []++ts.getD b []
 | .times a n=>(aD n (ts.getD a [])).flatten
def texts(rs:List Rule):List (List Nat):=rs.foldl (fun acc r=>acc++[r.tx acc]) []
theorem Fe(rs:List Rule)(r:Rule):texts (rs++[r])=texts rs++[r.tx (texts rs)]:=by simp [texts]
theorem Jq:∀rs:List Rule,(texts rs).length=rs.length:=by
 refine snocInd rfl fun l a ih=> ?_
 rw [Fe]
 simp [ih]
theorem abF(rs:List Rule):∀qs:List Rule,∃zs,texts (rs++qs)=texts rs++zs:=by
 refine snocInd ⟨[],by simp⟩ ?_
 rintro l a ⟨zs,h⟩
 exact⟨zs++[a.tx (texts (rs++l))],by rw [←aK,Fe,h,aK]⟩
theorem iH{rs:List Rule}{i:Nat}(h:i<rs.length)(qs:List Rule):(texts (rs++qs)).getD i []=(texts rs).getD i []:=by
 obtain⟨zs,e⟩:=abF rs qs
 have hl:i<(texts rs).length:=by rw [Jq];exact h
 rw [e]
 simp [bA,aP hl]
theorem lZ(rs:List Rule)(r:Rule):(texts (rs++[r])).getD rs.length []=r.tx (texts rs):=by
 rw [Fe]
 have hl:=Jq rs
 simp [bA,←hl]
theorem rD{rs:List Rule}{i:Nat}{r:Rule}(g:Good rs)(h:rs[i]? =some r):(texts rs).getD i []=r.tx (texts rs):=by
 have hi:=(au.mp h).1
 have et:rs.take (i+1)=rs.take i++[r]:=by
  rw [bF,h]
  rfl
 have li:(rs.take i).length=i:=by rw [aW];omega
 have e1:(texts rs).getD i []=(texts (rs.take i++[r])).getD i []:=by
  have:=iH (rs:=rs.take (i+1)) (i:=i) (by rw [aW];omega) (rs.drop (i+1))
  rw [bZ,et] at this
  exact this
 have e2:∀a,a<i→(texts rs).getD a []=(texts (rs.take i)).getD a []:=fun a ha=>by
  have:=iH (rs:=rs.take i) (i:=a) (by omega) (rs.drop i)
  rw [bZ] at this
  exact this
 have e3:(texts (rs.take i++[r])).getD i []=r.tx (texts (rs.take i)):=by
  have:=lZ (rs.take i) r
  rw [li] at this
  exact this
 rw [e1,e3]
 have ok:=g i r h
 cases r with
 |sign c=>rfl
 |join a b=>simp only [Rule.tx,e2 a ok.1,e2 b ok.2]
 |times a n=>simp only [Rule.tx,e2 a ok.1]
theorem u9{rs:List Rule}{i:Nat}{r:Rule}(g:Good rs)(h:rs[i]? =some r):(sizes rs).getD i 0=r.size (sizes rs):=by
 have hi:=(au.mp h).1
 have et:rs.take (i+1)=rs.take i++[r]:=by
  rw [bF,h]
  rfl
 have li:(rs.take i).length=i:=by rw [aW];omega
 have e1:(sizes rs).getD i 0=(sizes (rs.take i++[r])).getD i 0:=by
  have:=sO (rs:=rs.take (i+1)) (i:=i) (by rw [aW];omega) (rs.drop (i+1))
  rw [bZ,et] at this
  exact this
 have e2:∀a,a<i→(sizes rs).getD a 0=(sizes (rs.take i)).getD a 0:=fun a ha=>by
  have:=sO (rs:=rs.take i) (i:=a) (by omega) (rs.drop i)
  rw [bZ] at this
  exact this
 have e3:(sizes (rs.take i++[r])).getD i 0=r.size (sizes (rs.take i)):=by
  have:=vI (rs.take i) r
  rw [li] at this
  exact this
 rw [e1,e3]
 have ok:=g i r h
 cases r with
 |sign c=>rfl
 |join a b=>simp only [Rule.size,e2 a ok.1,e2 b ok.2]
 |times a n=>simp only [Rule.size,e2 a ok.1]
theorem qC(n:Nat)(l:List Nat):(aD n l).flatten.length=n*l.length:=by simp
theorem gU:∀(rs:List Rule) (i:Nat),((texts rs).getD i []).length=(sizes rs).getD i 0:=by
 refine snocInd (fun i=>by simp [texts,sizes,Ba]) fun l a ih i=> ?_
 by_cases h:i<l.length
 ·rw [iH h,sO h]
  exact ih i
 ·by_cases h2:i=l.length
  ·subst h2
   rw [lZ,vI]
   cases a with
   |sign c=>rfl
   |join a b=>simp only [Rule.tx,Rule.size,aA,ih]
   |times a n=>simp only [Rule.tx,Rule.size,qC,ih,bY]
  ·have h3:l.length+1≤i:=by omega
   have t1:=Jq (l++[a])
   have t2:=j6 (l++[a])
   have e1:(texts (l++[a])).getD i []=[]:=by
    simp [bA,List.getElem?_eq_none (show(texts (l++[a])).length≤i by rw [t1];simpa using h3)]
   have e2:(sizes (l++[a])).getD i 0=0:=by
    simp [bA,List.getElem?_eq_none (show(sizes (l++[a])).length≤i by rw [t2];simpa using h3)]
   rw [e1,e2]
   rfl
abbrev fZ(l:List Nat):Str:=⟨l.toArray⟩
theorem qp(l:List Nat):(fZ l).length=l.length:=by
 show l.toArray.size=_
 simp
theorem ad6(a b:List Nat):fZ a++fZ b=fZ (a++b):=afb (by simp)
theorem Ws{a b:List Nat}(h:fZ a=fZ b):a=b:=by
 have:=congrArg (fun z:Str=>z.cps.toList) h
 simpa using this
theorem adU{a b:List Nat}(h:a.length+b.length≤16777000):jw (.str (fZ a)) (.str (fZ b))= .ok (.str (fZ (a++b))):=by
 rw [aew (by rw [qp,qp];exact uE h),ad6]
theorem Ij{a:List Nat}(h:a.length≤16777000):jr [.str (fZ a)]= .ok (.int ((a.length:Nat):Int)):=by
 rw [Pu (by rw [qp];exact uE h),qp]
def Rule.parts:Rule→List Nat
 | .sign _=>[]
 | .join a b=>[a,b]
 | .times a _=>[a]
theorem rG{r:Rule}{i:Nat}(h:r.ok i):∀p∈r.parts,p<i:=by
 intro p hp
 cases r with
 |sign c=>cases hp
 |join a b=>
  have:p=a∨p=b:=by simpa [Rule.parts] using hp
  rcases this with rfl|rfl
  ·exact h.1
  ·exact h.2
 |times a n=>
  have:p=a:=by simpa [Rule.parts] using hp
  rw [this]
  exact h.1
theorem ac5{rs:List Rule}{i:Nat}{r:Rule}(g:Good rs)(h:rs[i]? =some r):∀p∈r.parts,(sizes rs).getD p 0≤(sizes rs).getD i 0:=by
 intro p hp
 rw [u9 g h]
 have ok:=g i r h
 cases r with
 |sign c=>cases hp
 |join a b=>
  have:p=a∨p=b:=by simpa [Rule.parts] using hp
  simp only [Rule.size]
  rcases this with rfl|rfl<;>omega
 |times a n=>
  have:p=a:=by simpa [Rule.parts] using hp
  rw [this]
  exact Nat.le_mul_of_pos_right _ ok.2.1
structure Need(rs:List Rule)(k:Nat)(ks:List Nat):Prop where
 rise:ks.Pairwise (·<·)
 top:k∈ks
 le:∀i∈ks,i≤k
 clo:∀i∈ks,∀r,rs[i]? =some r→∀p∈r.parts,p∈ks
 by_:∀i∈ks,i=k∨∃j∈ks,∃r,rs[j]? =some r∧i∈r.parts
theorem V1:∀(ks:List Nat) (a k:Nat),ks.Pairwise (·<·)→(∀i∈ks,a≤i∧i≤k)→ks.length+a≤k+1∨ks=[]
 |[],_,_,_,_=> .inr rfl
 |x::xs,a,k,h,hk=>by
  have hx:=hk x aY
  rw [dG] at h
  rcases V1 xs (x+1) k h.2 (fun i hi=>⟨h.1 i hi,(hk i (aN _ hi)).2⟩) with z|z
  ·left
   rw [aZ]
   omega
  ·left
   subst z
   show 1+a≤k+1
   omega
theorem Need.len{rs:List Rule}{k:Nat}{ks:List Nat}(n:Need rs k ks):ks.length≤k+1:=by
 rcases V1 ks 0 k n.rise (fun i hi=>⟨cQ _,n.le i hi⟩) with h|h
 ·omega
 ·rw [h]
  simp
theorem Need.size{rs:List Rule}{k:Nat}{ks:List Nat}(g:Good rs)(n:Need rs k ks):∀d i,i∈ks→k-i≤d→(sizes rs).getD i 0≤(sizes rs).getD k 0
 |d,i,hi,hd=>by
  rcases n.by_ i hi with h|⟨j,hj,r,hr,hp⟩
  ·rw [h]
   exact bD _
  ·have h1:=rG (g j r hr) i hp
   have h2:=n.le j hj
   have h3:=ac5 g hr i hp
   match d with
   |0=>omega
   |d+1=>exact bJ h3 (Need.size g n d j hj (by omega))
def oU(S:List Nat):List (D×D):=S.map fun i=>(aH ((i:Nat):Int),PyData.bool true)
theorem HD(s c:Nat):(DL.keyOf (aH ((s:Nat):Int))=some (.inl ((c:Nat):Int)))↔s=c:=by
 simp only [DL.keyOf,Option.some.injEq,Sum.inl.injEq]
 omega
theorem VL(S:List Nat)(c:Nat):(oU S).any (fun q=>decide (DL.keyOf q.1=some (.inl ((c:Nat):Int))))=decide (c∈S):=by
 unfold oU
 rw [List.any_map]
 induction S with
 |nil=>rfl
 |cons s ss ih=>
  rw [dX,ih]
  by_cases e:s=c
  ·subst e
   simp [Function.comp,DL.keyOf]
  ·have h1:¬c=s:=fun z=>e z.symm
   have k0:¬(DL.keyOf (aH ((s:Nat):Int))=some (.inl ((c:Nat):Int))):=fun z=>e ((HD s c).mp z)
   simp [Function.comp,k0,h1]
theorem Z7(S:List Nat)(c:Nat):o8 (oU S) (.inl ((c:Nat):Int)) (.bool true)=oU (if c∈S then S else S++[c]):=by
 unfold o8
 rw [VL]
 by_cases hc:c∈S
 ·rw [if_pos (decide_eq_true hc),if_pos hc]
  unfold oU
  rw [cD]
  refine bQ fun s _=> ?_
  simp only [Function.comp]
  split<;>rfl
 ·rw [if_neg (by simp [hc]),if_neg hc]
  unfold oU
  rw [cR]
  rfl
theorem Yb(S:List Nat):Ah (oU S)=true:=by cases S<;>rfl
theorem find_some{ds:List (D×D)}{k:Key}:(pK ds k).isSome=ds.any fun q=>decide (DL.keyOf q.1=some k):=by
 unfold pK
 rw [Option.isSome_map,Bool.eq_iff_iff,List.find?_isSome,List.any_eq_true]
theorem aaU(S:List Nat)(c:Nat):xV false (.int ((c:Nat):Int)) (.dict (oU S))= .ok (.bool (decide (c∈S))):=by
 simp only [xV,Yb,if_true,DL.keyOf]
 rw [find_some,VL,Bool.bne_false]
theorem Sq:∀S:List Nat,intKeys (oU S)=some (S.map fun(i:Nat)=>(i:Int))
 |[]=>rfl
 |s::S=>by
  have:=Sq S
  unfold oU at this⊢
  rw [bf]
  simp only [intKeys,this]
  rfl
theorem Rule.ok.mono{r:Rule}{i j:Nat}(h:r.ok i)(hij:i≤j):r.ok j:=by
 cases r with
 |sign c=>exact h
 |join a b=>exact⟨Nat.lt_of_lt_of_le h.1 hij,Nat.lt_of_lt_of_le h.2 hij⟩
 |times a n=>exact⟨Nat.lt_of_lt_of_le h.1 hij,h.2⟩
theorem ahe{qs:List Rule}{r:Rule}(h:r.ok qs.length)(ps:List Rule):r.tx (texts (qs++ps))=r.tx (texts qs):=by
 cases r with
 |sign c=>rfl
 |join a b=>simp only [Rule.tx,iH h.1,iH h.2]
 |times a n=>simp only [Rule.tx,iH h.1]
end Sb
namespace Sb
open PySem PySem.Spec L2 Evl DL
def eX:Option Nat→D
 |none=> .none
 |some k=> .int (k:Int)
def fV(rs:List Rule)(n:Option Nat):Prop:=∀k,n=some k→k<rs.length
theorem fV.none{rs:List Rule}:fV rs none:=fun k e=>nomatch e
theorem fV.some{rs:List Rule}{k:Nat}(h:k<rs.length):fV rs (some k):=fun j e=>by
 cases e
 exact h
def lJ(rs:List Rule)(n:Option Nat):Nat:=match n with
 |none=>0
 |some k=>(sizes rs).getD k 0
def gQ(rs:List Rule)(n:Option Nat):List Nat:=match n with
 |none=>[]
 |some k=>(texts rs).getD k []
theorem mZ(rs:List Rule)(n:Option Nat):(gQ rs n).length=lJ rs n:=by
 cases n with
 |none=>rfl
 |some k=>exact gU rs k
theorem Ua{rs:List Rule}{m:Nat}(f:Fits m rs)(n:Option Nat):lJ rs n≤m:=by
 cases n with
 |none=>exact cQ _
 |some k=>exact f.get k
theorem fV.app{rs:List Rule}{n:Option Nat}(h:fV rs n)(qs:List Rule):fV (rs++qs) n:=fun k e=>by
 have:=h k e
 simp
 omega
theorem qW{rs:List Rule}{n:Option Nat}(h:fV rs n)(qs:List Rule):gQ (rs++qs) n=gQ rs n:=by
 cases n with
 |none=>rfl
 |some k=>exact iH (h k rfl) qs
theorem ad1{rs:List Rule}(g:Good rs){n:Option Nat}(h:fV rs n):0<lJ rs n↔n≠none:=by
 cases n with
 |none=>simp [lJ]
 |some k=>
  have:=Pos.get g (h k rfl)
  exact⟨fun _=>Option.some_ne_none k,fun _=>this⟩
theorem abL:∀c∈GF,c<0x110000:=by decide+kernel
theorem zK{r:Rule}{i:Nat}(h:r.ok i):Sh 1 (fG r):=by
 cases r with
 |sign c=>
  refine BK (n:=0) fun d hd=> ?_
  rcases aO.mp hd with rfl|hd
  ·exact Jb 0 (by decide+kernel)
  ·have:d= .str (s1 c):=by simpa using hd
   rw [this]
   exact Jb 0 (fun x hx=>by
    have:x=c:=by simpa using hx
    rw [this]
    exact abL c h)
 |join a b=>
  refine BK (n:=0) fun d hd=> ?_
  rcases aO.mp hd with rfl|hd
  ·exact Jb 0 (by decide+kernel)
  ·have:d= .int (a:Int)∨d= .int (b:Int):=by simpa using hd
   rcases this with rfl|rfl<;>exact YZ _ _
 |times a b=>
  refine BK (n:=0) fun d hd=> ?_
  rcases aO.mp hd with rfl|hd
  ·exact Jb 0 (by decide+kernel)
  ·have:d= .int (a:Int)∨d= .int (b:Int):=by simpa using hd
   rcases this with rfl|rfl<;>exact YZ _ _
theorem ad3{rs:List Rule}(g:Good rs):Sh 2 (eZ rs):=BK (n:=1) fun d hd=>by
 obtain⟨r,hr,rfl⟩:=bV.mp hd
 obtain⟨i,hi⟩:=List.getElem?_of_mem hr
 exact zK (g i r hi)
theorem aeR(n:Option Nat):Sh 2 (eX n):=by
 cases n with
 |none=>exact ael _
 |some k=>exact YZ _ _
theorem Ur(A:List Nat)(d:Nat):∀(m p:Nat),p<m*A.length→(aD m A).flatten.getD p d=A.getD (p%A.length) d
 |0,p,h=>by simp at h
 |m+1,p,h=>by
  rw [List.replicate_succ,List.flatten_cons]
  rcases dW p A.length with hp|hp
  ·rw [Nat.mod_eq_of_lt hp]
   simp [bA,aP hp]
  ·have hp' :p-A.length<m*A.length:=by
    rw [Nat.succ_mul] at h
    omega
   have ih:=Ur A d m (p-A.length) hp'
   have e:p%A.length=(p-A.length)%A.length:=by rw [Nat.mod_eq_sub_mod hp]
   rw [e,←ih]
   simp [bA,bG hp]
theorem Bv{A B:List Nat}{p d:Nat}(h:p<A.length):(A++B).getD p d=A.getD p d:=by simp [bA,aP h]
theorem Aj{A B:List Nat}{p d:Nat}(h:A.length≤p):(A++B).getD p d=B.getD (p-A.length) d:=by simp [bA,bG h]
theorem O2:∀ns:List Int,toInts (ns.map aH)=some ns
 |[]=>rfl
 |n::ns=>by
  simp only [bf,toInts,O2 ns]
  rfl
theorem Wv(ns:List Nat):toInts (ns.map fun(n:Nat)=>aH (n:Int))=some (ns.map fun(n:Nat)=>(n:Int)):=by
 have:=O2 (ns.map fun(n:Nat)=>(n:Int))
 rwa [cD] at this
def oK(rs:List Rule):Option Nat→Option Nat→List Rule×Option Nat
 |none,b=>(rs,b)
 |some a,none=>(rs,some a)
 |some a,some b=>(rs++[.join a b],some rs.length)
theorem xW{rs:List Rule}(g:Good rs)(f:Fits MOST rs){a b:Option Nat}(ha:fV rs a)(hb:fV rs b)(hl:lJ rs a+lJ rs b≤MOST):∃qs,qs.length≤1∧(oK rs a b).1=rs++qs∧Good (rs++qs)∧Fits MOST (rs++qs)∧fV (rs++qs) (oK rs a b).2∧gQ (rs++qs) (oK rs a b).2=gQ rs a++gQ rs b:=by
 cases a with
 |none=>exact⟨[],by simp,by simp [oK],by simpa using g,by simpa using f,by simpa [oK] using hb,by simp [oK,gQ]⟩
 |some a=>
  cases b with
  |none=>exact⟨[],by simp,by simp [oK],by simpa using g,by simpa using f,by simpa [oK] using ha,by simp [oK,gQ]⟩
  |some b=>
   refine⟨[.join a b],by simp,rfl,g.snoc ⟨ha a rfl,hb b rfl⟩,f.snoc hl,fV.some (by simp),?_⟩
   show(texts (rs++[.join a b])).getD rs.length []=_
   rw [lZ]
   rfl
def overF(rs:List Rule):Option Nat→Nat→List Rule×Option Nat
 |none,_=>(rs,none)
 |some a,m=>if m=0 then(rs,none) else if m=1 then(rs,some a) else(rs++[.times a m],some rs.length)
theorem FT{rs:List Rule}(g:Good rs)(f:Fits MOST rs){n:Option Nat}(hn:fV rs n){m:Nat}(hm:m≤MOST)(hl:lJ rs n*m≤MOST):∃qs,qs.length≤1∧(overF rs n m).1=rs++qs∧Good (rs++qs)∧Fits MOST (rs++qs)∧fV (rs++qs) (overF rs n m).2∧gQ (rs++qs) (overF rs n m).2=(aD m (gQ rs n)).flatten:=by
 cases n with
 |none=>exact⟨[],by simp,by simp [overF],by simpa using g,by simpa using f,fV.none,by simp [overF,gQ]⟩
 |some a=>
  by_cases h0:m=0
  ·exact⟨[],by simp,by simp [overF,h0],by simpa using g,by simpa using f,by simp only [overF,h0,if_true];exact fV.none,by simp [overF,gQ,h0]⟩
  ·by_cases h1:m=1
   ·exact⟨[],by simp,by simp [overF,h1],by simpa using g,by simpa using f,by simpa [overF,h1] using hn,by simp [overF,gQ,h1]⟩
   ·have e:overF rs (some a) m=(rs++[.times a m],some rs.length):=by simp [overF,h0,h1]
    rw [e]
    refine⟨[.times a m],by simp,rfl,g.snoc ⟨hn a rfl,by omega,hm⟩,f.snoc hl,fV.some (by simp),?_⟩
    show(texts (rs++[.times a m])).getD rs.length []=_
    rw [lZ]
    rfl
def Rule.isT:Rule→Bool
 | .times _ _=>true
 |_=>false
def tN(rs:List Rule):Nat:=rs.countP Rule.isT
theorem Ja(a b:List Rule):tN (a++b)=tN a+tN b:=by simp [tN,List.countP_append]
theorem Ey(rs:List Rule):tN rs≤rs.length:=List.countP_le_length
def xG:List Rule→Nat
 |[]=>1
 | .times _ n::rs=>n*xG rs
 |_::rs=>xG rs
theorem mG:∀a b:List Rule,xG (a++b)=xG a*xG b
 |[],b=>by simp [xG]
 | .sign c::a,b=>by have:=mG a b;simpa [xG] using this
 | .join x y::a,b=>by have:=mG a b;simpa [xG] using this
 | .times x n::a,b=>by
   have:=mG a b
   simp only [cX,xG,this]
   rw [Nat.mul_assoc]
theorem Uv:∀(xs:List Rule),tN xs=0→xG xs=1
 |[],_=>rfl
 | .sign c::xs,h=>by
   have e:tN (.sign c::xs)=tN xs:=by unfold tN;rw [List.countP_cons_of_neg (by simp [Rule.isT])]
   exact Uv xs (by rw [←e];exact h)
 | .join a b::xs,h=>by
   have e:tN (.join a b::xs)=tN xs:=by unfold tN;rw [List.countP_cons_of_neg (by simp [Rule.isT])]
   exact Uv xs (by rw [←e];exact h)
 | .times a n::xs,h=>by
   have e:tN (.times a n::xs)=tN xs+1:=by unfold tN;rw [List.countP_cons_of_pos (by simp [Rule.isT])]
   omega
theorem BP{xs:List Rule}(h:tN xs=0):xG xs=1:=Uv xs h
theorem Jg{rs qs:List Rule}{n:Option Nat}{m:Nat}(h:(overF rs n m).1=rs++qs):xG qs≤max 1 m:=by
 have z:∀ps:List Rule,rs++ps=rs++qs→xG ps≤max 1 m→xG qs≤max 1 m:=fun ps e h=>by rw [←List.append_cancel_left e];exact h
 have nil:rs=rs++qs→xG qs≤max 1 m:=fun e=>z [] (by rw [aR];exact e) (by simp only [xG];omega)
 cases n with
 |none=>exact nil h
 |some a=>
  by_cases h0:m=0
  ·have e:overF rs (some a) m=(rs,none):=by simp [overF,h0]
   rw [e] at h
   exact nil h
  ·by_cases h1:m=1
   ·have e:overF rs (some a) m=(rs,some a):=by simp [overF,h1]
    rw [e] at h
    exact nil h
   ·have e:overF rs (some a) m=(rs++[.times a m],some rs.length):=by simp [overF,h0,h1]
    rw [e] at h
    exact z [.times a m] h (by simp only [xG];omega)
theorem XQ{p o c z k:Nat}(h:p*(z*c)≤k)(ho:o≤c):p*o*z≤k:=by
 have h1:p*o*z≤p*c*z:=Nat.mul_le_mul_right _ (Nat.mul_le_mul_left _ ho)
 have h2:p*c*z=p*(z*c):=by rw [Nat.mul_assoc,bY c z]
 omega
theorem Cu{rs qs:List Rule}{a b:Option Nat}(h:(oK rs a b).1=rs++qs):tN qs=0:=by
 have z:∀ps:List Rule,rs++ps=rs++qs→tN ps=0→tN qs=0:=fun ps e h=>by rw [←List.append_cancel_left e];exact h
 cases a with
 |none=>exact z [] (by simpa [oK] using h) rfl
 |some a=>
  cases b with
  |none=>exact z [] (by simpa [oK] using h) rfl
  |some b=>exact z [.join a b] h rfl
end Sb
namespace Sb
open PySem PySem.Spec L2 Evl DL
def Rule.isJ:Rule→Bool
 | .join _ _=>true
 |_=>false
theorem join_eq(r:Rule):jZ (.str (match r with| .sign _=>SIGN| .join _ _=>JOIN| .times _ _=>TIMES)) (.str "join")= .ok (.bool r.isJ):=by
 cases r with
 |sign c=>exact(Jd _ _).trans (by rw [decide_eq_false sj];rfl)
 |join a b=>exact(Jd _ _).trans (by rw [decide_eq_true rfl];rfl)
 |times a n=>exact(Jd _ _).trans (by rw [decide_eq_false tj];rfl)
end Sb
namespace Sb
open PySem PySem.Spec L2 Evl DL
def Rule.qI(f:Nat→Nat):Rule→Rule
 | .sign c=> .sign c
 | .join a b=> .join (f a) (f b)
 | .times a n=> .times (f a) n
theorem acJ{f:Nat→Nat}{r:Rule}{i:Nat}(h:r.ok i){sz sz' :List Nat}(e:∀a,a<i→sz'.getD (f a) 0=sz.getD a 0):(r.qI f).size sz' =r.size sz:=by
 cases r with
 |sign c=>rfl
 |join a b=>simp only [Rule.qI,Rule.size,e a h.1,e b h.2]
 |times a n=>simp only [Rule.qI,Rule.size,e a h.1]
theorem agw{f:Nat→Nat}{r:Rule}{i:Nat}(h:r.ok i){sz sz' :List (List Nat)}(e:∀a,a<i→sz'.getD (f a) []=sz.getD a []):(r.qI f).tx sz' =r.tx sz:=by
 cases r with
 |sign c=>rfl
 |join a b=>simp only [Rule.qI,Rule.tx,e a h.1,e b h.2]
 |times a n=>simp only [Rule.qI,Rule.tx,e a h.1]
theorem agR{f:Nat→Nat}{r:Rule}{i j:Nat}(h:r.ok i)(e:∀a,a<i→f a<j):(r.qI f).ok j:=by
 cases r with
 |sign c=>exact h
 |join a b=>exact⟨e a h.1,e b h.2⟩
 |times a n=>exact⟨e a h.1,h.2⟩
abbrev bring(rs os:List Rule):List Rule:=os.map fun r=>r.qI (rs.length+·)
theorem Nz{rs:List Rule}(g:Good rs)(f:Fits MOST rs):∀(os:List Rule),Good os→Fits MOST os→Good (rs++bring rs os)∧Fits MOST (rs++bring rs os)∧(∀i,i<os.length→(texts (rs++bring rs os)).getD (rs.length+i) []=(texts os).getD i []):=by
 refine snocInd (fun _ _=>⟨by simpa [bring] using g,by simpa [bring] using f,fun i h=>by simp at h⟩) fun os r ih go fo=> ?_
 obtain⟨g1,r1⟩:=go.init
 obtain⟨ih1,ih2,ih3⟩:=ih g1 fo.pre
 obtain⟨qs,hq⟩:∃qs,qs=rs++bring rs os:=⟨_,rfl⟩
 have ql:qs.length=rs.length+os.length:=by rw [hq];simp [bring]
 have eb:rs++bring rs (os++[r])=qs++[r.qI (rs.length+·)]:=by
  rw [hq]
  simp [bring]
 rw [←hq] at ih1 ih2 ih3
 rw [eb]
 have sz:∀a,a<os.length→(sizes qs).getD (rs.length+a) 0=(sizes os).getD a 0:=fun a ha=>by rw [←gU,ih3 a ha,gU]
 refine⟨ih1.snoc (agR r1 fun a ha=>by rw [ql];omega),ih2.snoc ?_,fun i hi=> ?_⟩
 ·rw [acJ r1 sz]
  have:=fo.get os.length
  rwa [vI] at this
 ·rcases dW i os.length with h|h
  ·rw [iH (by omega),ih3 i h,iH h]
  ·have e:i=os.length:=by
    simp at hi
    omega
   subst e
   rw [←ql,lZ,lZ]
   exact agw r1 ih3
def pY(rs:List Rule):Option Nat→Option Nat
 |none=>none
 |some k=>some (rs.length+k)
theorem Sy{rs os:List Rule}(g:Good rs)(f:Fits MOST rs)(go:Good os)(fo:Fits MOST os){n:Option Nat}(h:fV os n):fV (rs++bring rs os) (pY rs n)∧gQ (rs++bring rs os) (pY rs n)=gQ os n:=by
 cases n with
 |none=>exact⟨fV.none,rfl⟩
 |some k=>
  have hk:=h k rfl
  refine⟨fV.some (by simp [bring];omega),?_⟩
  exact(Nz g f os go fo).2.2 k hk
end Sb
namespace Sb
open PySem PySem.Spec L2 Evl DL
def oJ(F:Nat→D)(ks:List Nat):List (D×D):=ks.map fun i=>(aH ((i:Nat):Int),F i)
def Ig(F:Nat→D)(p:Nat)(v:D):Nat→D:=fun x=>if x=p then v else F x
theorem yW(F:Nat→D)(p:Nat):∀ks:List Nat,p∈ks→pK (oJ F ks) (.inl ((p:Nat):Int))=some (F p)
 |[],h=>by cases h
 |k::ks,h=>by
  by_cases e:k=p
  ·subst e
   simp [oJ,pK,DL.keyOf]
  ·have h2:p∈ks:=by
    rcases aO.mp h with z|z
    ·exact absurd z.symm e
    ·exact z
   have k0:¬(DL.keyOf (aH ((k:Nat):Int))=some (.inl ((p:Nat):Int))):=fun z=>e ((HD k p).mp z)
   have ih:=yW F p ks h2
   unfold oJ pK at ih⊢
   rw [bf,dR]
   simp only [k0,decide_false]
   exact ih
theorem acn(F:Nat→D)(p:Nat)(ks:List Nat):(oJ F ks).any (fun q=>decide (DL.keyOf q.1=some (.inl ((p:Nat):Int))))=decide (p∈ks):=by
 unfold oJ
 rw [List.any_map]
 induction ks with
 |nil=>rfl
 |cons s ss ih=>
  rw [dX,ih]
  by_cases e:s=p
  ·subst e
   simp [Function.comp,DL.keyOf]
  ·have h1:¬p=s:=fun z=>e z.symm
   have k0:¬(DL.keyOf (aH ((s:Nat):Int))=some (.inl ((p:Nat):Int))):=fun z=>e ((HD s p).mp z)
   simp [Function.comp,k0,h1]
theorem Vg(F:Nat→D)(p:Nat)(v:D)(ks:List Nat)(h:¬p∈ks):o8 (oJ F ks) (.inl ((p:Nat):Int)) v=oJ (Ig F p v) (ks++[p]):=by
 unfold o8
 rw [acn,if_neg (by simp [h])]
 unfold oJ
 rw [cR]
 congr 1
 ·refine bQ fun i hi=> ?_
  have:¬i=p:=fun z=>h (by rw [←z];exact hi)
  simp [Ig,this]
 ·simp [Ig,keyD]
theorem adQ(F:Nat→D)(p:Nat)(v:D)(ks:List Nat)(h:p∈ks):o8 (oJ F ks) (.inl ((p:Nat):Int)) v=oJ (Ig F p v) ks:=by
 unfold o8
 rw [acn,if_pos (by simp [h])]
 unfold oJ
 rw [cD]
 refine bQ fun i hi=> ?_
 simp only [Function.comp]
 by_cases e:i=p
 ·subst e
  simp [Ig,DL.keyOf]
 ·have k0:¬(DL.keyOf (aH ((i:Nat):Int))=some (.inl ((p:Nat):Int))):=fun z=>e ((HD i p).mp z)
  simp [Ig,k0,e]
theorem qJ(F:Nat→D)(ks:List Nat):Ah (oJ F ks)=true:=by cases ks<;>rfl
theorem Pb(F:Nat→D)(ks:List Nat):(oJ F ks).length=ks.length:=by simp [oJ]
theorem Ar{F G:Nat→D}{ks:List Nat}(h:∀i∈ks,F i=G i):oJ F ks=oJ G ks:=by
 unfold oJ
 exact bQ fun i hi=>by rw [h i hi]
theorem aa7{a b:Nat}(h:s1 a=s1 b):a=b:=by
 have:=congrArg (fun z:Str=>z.cps.toList) h
 simpa using this
theorem Iu{r q:Rule}(h:fG r=fG q):r=q:=by
 cases r<;>cases q<;>simp only [fG,PyData.tuple.injEq,List.cons.injEq,PyData.str.injEq,PyData.int.injEq,and_true] at h
 ·rw [aa7 h.2]
 ·exact absurd h.1 (fun z=>js z.symm)
 ·exact absurd h.1 (fun z=>ts z.symm)
 ·exact absurd h.1 js
 ·obtain⟨_,h1,h2⟩:=h
  congr 1<;>omega
 ·exact absurd h.1 jt
 ·exact absurd h.1 ts
 ·exact absurd h.1 tj
 ·obtain⟨_,h1,h2⟩:=h
  congr 1<;>omega
theorem Lh(r:Rule):nb (fG r)=true:=by cases r<;>rfl
theorem Xh{r q:Rule}{i j:Nat}(hr:r.ok i)(hq:q.ok j):Ep (fG r) (fG q)= .ok (.bool (!decide (r=q))):=by
 by_cases e:r=q
 ·subst e
  rw [acE (zK hr)]
  simp
 ·rw [adN (zK hr) (zK hq) (Lh r) (Lh q) (fun z=>e (Iu z))]
  simp [e]
theorem adY{r q:Rule}{i j:Nat}(hr:r.ok i)(hq:q.ok j):jZ (fG r) (fG q)= .ok (.bool (decide (r=q))):=by
 by_cases e:r=q
 ·subst e
  rw [Bg (zK hr)]
  simp
 ·rw [Yp (zK hr) (zK hq) (Lh r) (Lh q) (fun z=>e (Iu z))]
  simp [e]
def sJ(rs:List Rule)(n:Option Nat)(ks:List Nat):Prop:=match n with
 |none=>ks=[]
 |some k=>k<rs.length∧Need rs k ks
theorem sJ.rise{rs:List Rule}{n:Option Nat}{ks:List Nat}(h:sJ rs n ks):ks.Pairwise (·<·):=by
 cases n with
 |none=>rw [show ks=[] from h];exact .nil
 |some k=>exact h.2.rise
theorem sJ.lt{rs:List Rule}{n:Option Nat}{ks:List Nat}(h:sJ rs n ks):∀i∈ks,i<rs.length:=by
 cases n with
 |none=>rw [show ks=[] from h];intro i hi;cases hi
 |some k=>
  intro i hi
  have:=h.2.le i hi
  have:=h.1
  omega
theorem sJ.clo{rs:List Rule}{n:Option Nat}{ks:List Nat}(h:sJ rs n ks):∀i∈ks,∀r,rs[i]? =some r→∀p∈r.parts,p∈ks:=by
 cases n with
 |none=>rw [show ks=[] from h];intro i hi;cases hi
 |some k=>exact h.2.clo
theorem sJ.len{rs:List Rule}{n:Option Nat}{ks:List Nat}(h:sJ rs n ks):ks.length≤rs.length:=by
 cases n with
 |none=>rw [show ks=[] from h];exact cQ _
 |some k=>
  have:=h.2.len
  have:=h.1
  omega
theorem Ik{ks:List Nat}(rise:ks.Pairwise (·<·)){j i:Nat}(h1:ks[j]? =some i):(∀p∈ks,p<i→p∈ks.take j)∧¬i∈ks.take j:=by
 have hj:=(au.mp h1).1
 have hij:ks[j]=i:=(au.mp h1).2
 constructor
 ·intro p hp hlt
  obtain⟨q,hq,rfl⟩:=List.getElem_of_mem hp
  have hqj:q<j:=by
   rcases dW q j with z|z
   ·exact z
   ·exfalso
    rcases Nat.lt_or_eq_of_le z with z|z
    ·have:=dD.mp rise j q hj hq z
     omega
    ·subst z
     omega
  rw [List.mem_take_iff_getElem]
  exact⟨q,by omega,rfl⟩
 ·intro z
  obtain⟨q,hq,e⟩:=List.mem_take_iff_getElem.mp z
  have:=dD.mp rise q j (by omega) hj (by omega)
  omega
structure Way(T:List Nat→List Nat)(tr:Rule→Rule):Prop where
 len:∀t,(T t).length=t.length
 ok:∀r i,r.ok i→(tr r).ok i
 tx:∀(r:Rule) (i:Nat) (f:Nat→Nat) (ts ts' :List (List Nat)),r.ok i→(∀a∈r.parts,ts'.getD (f a) []=T (ts.getD a []))→(tr (r.qI f)).tx ts' =T (r.tx ts)
 pt:∀(r:Rule) (p:Nat),p∈(tr r).parts→p∈r.parts
structure Done(rs:List Rule)(T:List Nat→List Nat)(ks:List Nat)(qs:List Rule)(f:Nat→Nat):Prop where
 g:Good (rs++qs)
 fits:Fits MOST (rs++qs)
 len:qs.length≤ks.length
 lt:∀i∈ks,f i<(rs++qs).length
 tx:∀i∈ks,(texts (rs++qs)).getD (f i) []=T ((texts rs).getD i [])
 cl:∀i∈ks,∀q,(rs++qs)[f i]? =some q→∀p∈q.parts,∃a∈ks,p=f a
theorem ZJ{r:Rule}{f:Nat→Nat}:(r.qI f).parts=r.parts.map f:=by cases r<;>rfl
theorem Done.step{rs:List Rule}{T:List Nat→List Nat}{tr:Rule→Rule}(W:Way T tr)(g:Good rs)(fr:Fits MOST rs){ks:List Nat}{qs:List Rule}{f:Nat→Nat}(h:Done rs T ks qs f){i:Nat}{r:Rule}(hr:rs[i]? =some r)(hp:∀a∈r.parts,a∈ks)(hi:¬i∈ks):
 (tr (r.qI f)).ok (rs++qs).length∧(tr (r.qI f)=r→Done rs T (ks++[i]) qs (fun x=>if x=i then i else f x))∧Done rs T (ks++[i]) (qs++[tr (r.qI f)]) (fun x=>if x=i then(rs++qs).length else f x):=by
 have ok:=g i r hr
 have hil:=(au.mp hr).1
 have ok1:(r.qI f).ok (rs++qs).length:=by
  cases r with
  |sign c=>exact ok
  |join a b=>exact⟨h.lt a (hp a (by simp [Rule.parts])),h.lt b (hp b (by simp [Rule.parts]))⟩
  |times a n=>exact⟨h.lt a (hp a (by simp [Rule.parts])),ok.2⟩
 have ok2:=W.ok _ _ ok1
 have tx2:(tr (r.qI f)).tx (texts (rs++qs))=T (r.tx (texts rs)):=W.tx r i f (texts rs) (texts (rs++qs)) ok fun a ha=>h.tx a (hp a ha)
 have ti:(texts rs).getD i []=r.tx (texts rs):=rD g hr
 have old:∀x∈ks,¬x=i:=fun x hx z=>hi (by rw [←z];exact hx)
 have img:∀v p,p∈(tr (r.qI f)).parts→∃a∈ks++[i],p=if a=i then v else f a:=fun v p hpp=>by
  have h1:=W.pt _ _ hpp
  rw [ZJ,bV] at h1
  obtain⟨a,ha,rfl⟩:=h1
  have hk:=hp a ha
  exact⟨a,bW _ hk,by simp only [old a hk,if_false]⟩
 have imo:∀v p,(∃a∈ks,p=f a)→∃a∈ks++[i],p=if a=i then v else f a:=fun v p ⟨a,ha,e⟩=>
  ⟨a,bW _ ha,by simp only [old a ha,if_false];exact e⟩
 refine⟨ok2,fun e=>⟨h.g,h.fits,by rw [aA];have:=h.len;omega,fun x hx=> ?_,fun x hx=> ?_,fun x hx q hq p hpp=> ?_⟩,⟨?_,?_,?_,fun x hx=> ?_,fun x hx=> ?_,fun x hx q hq p hpp=> ?_⟩⟩
 ·rcases aU.mp hx with hx|hx
  ·simp only [old x hx,if_false]
   exact h.lt x hx
  ·have:x=i:=by simpa using hx
   simp only [this,if_true]
   rw [aA]
   omega
 ·rcases aU.mp hx with hx|hx
  ·simp only [old x hx,if_false]
   exact h.tx x hx
  ·have:x=i:=by simpa using hx
   simp only [this,if_true]
   rw [ti,←tx2,e,iH hil,ti,ahe (ok.mono (by omega))]
 ·rcases aU.mp hx with hx|hx
  ·simp only [old x hx,if_false] at hq
   exact imo _ p (h.cl x hx q hq p hpp)
  ·have z:x=i:=by simpa using hx
   simp only [z,if_true] at hq
   rw [aP hil,hr] at hq
   cases hq
   rw [←e] at hpp
   exact img _ p hpp
 ·rw [←aK]
  exact h.g.snoc ok2
 ·rw [←aK]
  refine h.fits.snoc ?_
  have e:(tr (r.qI f)).size (sizes (rs++qs))=((tr (r.qI f)).tx (texts (rs++qs))).length:=by
   rw [←lZ,gU,vI]
  rw [e,tx2,W.len,←ti,gU]
  exact fr.get i
 ·simp only [aA,aZ,cG]
  have:=h.len
  omega
 ·rcases aU.mp hx with hx|hx
  ·simp only [old x hx,if_false]
   have:=h.lt x hx
   simp only [aA,aZ,cG] at this⊢
   omega
  ·have:x=i:=by simpa using hx
   simp only [this,if_true]
   simp
 ·rw [←aK]
  rcases aU.mp hx with hx|hx
  ·simp only [old x hx,if_false]
   rw [iH (h.lt x hx)]
   exact h.tx x hx
  ·have:x=i:=by simpa using hx
   simp only [this,if_true]
   rw [lZ,tx2,ti]
 ·rcases aU.mp hx with hx|hx
  ·simp only [old x hx,if_false] at hq
   rw [←aK,aP (h.lt x hx)] at hq
   exact imo _ p (h.cl x hx q hq p hpp)
  ·have z:x=i:=by simpa using hx
   simp only [z,if_true] at hq
   rw [←aK,bG (bD _),Nat.sub_self] at hq
   have hq' :tr (r.qI f)=q:=by simpa using hq
   rw [←hq'] at hpp
   exact img _ p hpp
theorem Wy{l m:List Nat}(nd:l.Nodup)(h:∀x∈l,x∈m):l.length≤m.length:=by
 induction l generalizing m with
 |nil=>exact cQ _
 |cons a l ih=>
  have ha:a∈m:=h a (by simp)
  have nd' :=bR.mp nd
  have:=ih (m:=m.erase a) nd'.2 fun x hx=>(List.mem_erase_of_ne (fun e=>nd'.1 (by rw [←e];exact hx))).mpr (h x (aN _ hx))
  rw [List.length_erase_of_mem ha] at this
  have:0<m.length:=List.length_pos_of_mem ha
  simp only [aZ]
  omega
theorem aay{rs:List Rule}{k:Nat}{ks:List Nat}(h:Need rs k ks):ks.length≤k+1:=by
 have:=Wy (l:=ks) (m:=cC (k+1)) (h.rise.imp fun h=>Nat.ne_of_lt h) fun x hx=>List.mem_range.mpr (by have:=h.le x hx;omega)
 rwa [cZ] at this
theorem Done.need{rs:List Rule}{T:List Nat→List Nat}{ks:List Nat}{qs:List Rule}{f:Nat→Nat}(h:Done rs T ks qs f){k:Nat}(hk:k∈ks){zs:List Nat}(n:Need (rs++qs) (f k) zs):zs.length≤ks.length:=by
 have key:∀d i,f k-i≤d→i∈zs→∃a∈ks,i=f a:=by
  intro d
  induction d with
  |zero=>
   intro i hd hi
   have:=n.le i hi
   exact⟨k,hk,by omega⟩
  |succ d ih=>
   intro i hd hi
   rcases n.by_ i hi with e|⟨j,hj,r,hr,hp⟩
   ·exact⟨k,hk,e⟩
   ·have lt:=rG (h.g j r hr) i hp
    have:=n.le j hj
    obtain⟨a,ha,rfl⟩:=ih j (by omega) hj
    exact h.cl a ha r hr i hp
 have nd:zs.Nodup:=n.rise.imp fun h=>by omega
 have:=Wy nd (m:=ks.map f) fun x hx=>by
  obtain⟨a,ha,e⟩:=key _ x (bD _) hx
  exact bV.mpr ⟨a,ha,e.symm⟩
 simpa using this
def Io:Rule→Rule
 | .join a b=> .join b a
 |r=>r
theorem aaV(A:List Nat):∀n:Nat,(aD n A).flatten.reverse=(aD n A.reverse).flatten
 |0=>rfl
 |n+1=>by
  rw [List.replicate_succ',List.flatten_append,bT,aaV A n,List.replicate_succ]
  simp
theorem aeY:Way List.reverse Io where
 len:=fun t=>bK
 ok:=fun r i h=>by
  cases r with
  |sign c=>exact h
  |join a b=>exact⟨h.2,h.1⟩
  |times a n=>exact h
 tx:=fun r i f ts ts' ok h=>by
  cases r with
  |sign c=>rfl
  |join a b=>
   show ts'.getD (f b) []++ts'.getD (f a) []=(ts.getD a []++ts.getD b []).reverse
   rw [h a (by simp [Rule.parts]),h b (by simp [Rule.parts]),bT]
  |times a n=>
   show(aD n (ts'.getD (f a) [])).flatten=(aD n (ts.getD a [])).flatten.reverse
   rw [h a (by simp [Rule.parts]),aaV]
 pt:=fun r p h=>by
  cases r with
  |sign c=>exact h
  |join a b=>
   simp only [Io,Rule.parts,aO,bB,or_false] at h⊢
   exact h.symm
  |times a n=>exact h
def Af(s o:Nat)(c:Nat):Nat:=if c=s then o else c
def Tc(s o:Nat):Rule→Rule
 | .sign c=> .sign (Af s o c)
 |r=>r
theorem agF{s o:Nat}(ho:o∈GF):Way (List.map (Af s o)) (Tc s o) where
 len:=fun t=>aC _
 ok:=fun r i h=>by
  cases r with
  |sign c=>
   show Af s o c∈GF
   unfold Af
   split
   ·exact ho
   ·exact h
  |join a b=>exact h
  |times a n=>exact h
 tx:=fun r i f ts ts' ok h=>by
  cases r with
  |sign c=>rfl
  |join a b=>
   show ts'.getD (f a) []++ts'.getD (f b) []=(ts.getD a []++ts.getD b []).map (Af s o)
   rw [h a (by simp [Rule.parts]),h b (by simp [Rule.parts]),cR]
  |times a n=>
   show(aD n (ts'.getD (f a) [])).flatten=(aD n (ts.getD a [])).flatten.map (Af s o)
   rw [h a (by simp [Rule.parts]),List.map_flatten,List.map_replicate]
 pt:=fun r p h=>by
  cases r with
  |sign c=>exact h
  |join a b=>exact h
  |times a n=>exact h
theorem aeu(A:List Nat)(p:Nat)(h:p<A.length):A.reverse.getD p 0=A.getD (A.length-1-p) 0:=by
 simp only [bA]
 rw [List.getElem?_reverse h]
theorem aft(f:Nat→Nat)(A:List Nat)(p:Nat)(h:p<A.length):(A.map f).getD p 0=f (A.getD p 0):=by
 simp [bA,h]
end Sb
namespace Sb
open PySem PySem.Spec L2 Evl DL
def cat(rs:List Rule)(ps:List (Option Nat)):List Nat:=(ps.map (gQ rs)).flatten
theorem Qe(rs:List Rule)(ps:List (Option Nat))(p:Option Nat):cat rs (ps++[p])=cat rs ps++gQ rs p:=by simp [cat]
theorem Mj(rs:List Rule)(p:Option Nat)(ps:List (Option Nat)):cat rs (p::ps)=gQ rs p++cat rs ps:=by simp [cat]
theorem aaA{rs:List Rule}{ps:List (Option Nat)}(h:∀p∈ps,fV rs p)(qs:List Rule):cat (rs++qs) ps=cat rs ps:=by
 unfold cat
 congr 1
 exact bQ fun p hp=>qW (h p hp) qs
theorem Hv(A:List Nat)(m n:Nat):(aD (m+n) A).flatten=(aD m A).flatten++(aD n A).flatten:=by
 rw [←List.replicate_append_replicate,List.flatten_append]
theorem Mf(A:List Nat)(hA:0<A.length)(c p:Nat)(hp:p<c*A.length):(aD c A).flatten.take p=(aD (p/A.length) A).flatten++A.take (p%A.length):=by
 have hd:=Nat.div_add_mod p A.length
 have hm:p%A.length<A.length:=Nat.mod_lt _ hA
 have hc:p/A.length<c:=(Nat.div_lt_iff_lt_mul hA).mpr hp
 obtain⟨e,he⟩:∃e,c=p/A.length+(1+e):=⟨c-p/A.length-1,by omega⟩
 have hl:((aD (p/A.length) A).flatten).length=p/A.length*A.length:=qC _ _
 conv=>lhs;rw [he,Hv]
 rw [List.take_append,hl]
 have e1:(aD (p/A.length) A).flatten.take p=(aD (p/A.length) A).flatten:=bU (by rw [hl,bY];omega)
 have e2:p-p/A.length*A.length=p%A.length:=by rw [bY];omega
 rw [e1,e2,Hv]
 have e3:(aD 1 A).flatten=A:=by simp
 rw [e3,cY (by omega)]
theorem Ml(A:List Nat):∀n:Nat,(aD n A).flatten.reverse=(aD n A.reverse).flatten
 |0=>rfl
 |n+1=>by
  rw [List.replicate_succ',List.flatten_append,bT,Ml A n,List.replicate_succ]
  simp
def nj(n:Nat)(A:List Nat):List Nat:=(A.reverse.take n).reverse
theorem Ry(A:List Nat):nj A.length A=A:=by
 unfold nj
 rw [bU (by simp)]
 simp
theorem afE(A:List Nat):nj 0 A=[]:=by simp [nj]
theorem xT{n:Nat}{A:List Nat}(h:n≤A.length):(nj n A).length=n:=by
 unfold nj
 simp
 omega
theorem abY(A:List Nat)(hA:0<A.length)(c p:Nat)(hp:p<c*A.length):nj p (aD c A).flatten=nj (p%A.length) A++(aD (p/A.length) A).flatten:=by
 unfold nj
 have h:=Mf A.reverse (by simpa using hA) c p (by simpa using hp)
 rw [bK] at h
 rw [Ml,h,bT,Ml]
 simp
theorem Yc{A B:List Nat}{n:Nat}(h:n≤B.length):nj n (A++B)=nj n B:=by
 unfold nj
 rw [bT,cY (by simpa using h)]
theorem Zy{A B:List Nat}{n:Nat}(h:B.length≤n):nj n (A++B)=nj (n-B.length) A++B:=by
 unfold nj
 have e:B.reverse.take n=B.reverse:=bU (by simpa using h)
 rw [bT,List.take_append,bT,bK,e,List.reverse_reverse]
theorem Zm{A:List Nat}{n:Nat}(h:n≤A.length):nj n A=A.drop (A.length-n):=by
 unfold nj
 rw [List.take_reverse]
 simp
def stretch(A:List Nat)(s e:Nat):List Nat:=(A.take e).drop s
theorem qP{A:List Nat}{s e:Nat}(h:e≤A.length):(stretch A s e).length=e-s:=by
 unfold stretch
 simp
 omega
theorem XJ{A:List Nat}{s e p:Nat}(h:s+p<e)(he:e≤A.length):(stretch A s e).getD p 0=A.getD (s+p) 0:=by
 unfold stretch
 simp only [bA,List.getElem?_drop,List.getElem?_take,h,if_true]
theorem yK{A B:List Nat}{s e:Nat}(h:e≤A.length):stretch (A++B) s e=stretch A s e:=by
 unfold stretch
 rw [cY h]
theorem Ed{A B:List Nat}{s e:Nat}(h:A.length≤s)(hse:s≤e):stretch (A++B) s e=stretch B (s-A.length) (e-A.length):=by
 unfold stretch
 rw [List.take_append,List.drop_append,bU (by omega),List.drop_eq_nil_of_le (by omega)]
 simp
theorem G7{A B:List Nat}{s e:Nat}(h:s≤A.length)(he:A.length≤e):stretch (A++B) s e=nj (A.length-s) A++B.take (e-A.length):=by
 unfold stretch
 rw [List.take_append,bU (by omega),List.drop_append_of_le_length h,Zm (by omega)]
 congr 2
 omega
theorem Ym(A:List Nat)(c q:Nat)(h:q≤c):(aD c A).flatten=(aD q A).flatten++(aD (c-q) A).flatten:=by
 rw [←Hv]
 congr 2
 omega
theorem W6(A:List Nat)(c s e:Nat)(hs:s<c*A.length)(hA:0<A.length)(hse:s≤e):stretch (aD c A).flatten s e=stretch (aD (c-s/A.length) A).flatten (s%A.length) (e-s/A.length*A.length):=by
 have hd:=Nat.div_add_mod s A.length
 have hc:s/A.length<c:=(Nat.div_lt_iff_lt_mul hA).mpr hs
 have hl:((aD (s/A.length) A).flatten).length=s/A.length*A.length:=qC _ _
 have hm:s/A.length*A.length≤s:=Nat.div_mul_le_self _ _
 rw [Ym A c (s/A.length) (by omega),Ed (by rw [hl];exact hm) hse,hl]
 congr 1
 rw [bY] at hd
 omega
theorem abg(A:List Nat)(hA:0<A.length)(c p:Nat)(hp:p≤c*A.length):(aD c A).flatten.take p=(aD (p/A.length) A).flatten++A.take (p%A.length):=by
 rcases Nat.lt_or_eq_of_le hp with h|h
 ·exact Mf A hA c p h
 ·subst h
  rw [Nat.mul_div_cancel _ hA,Nat.mul_mod_left,List.take_zero,aR,bU (by rw [qC];exact bD _)]
end Sb
namespace Sb
open PySem PySem.Spec L2 Evl DL
def Tg(rs:List Rule)(s:List Rule×(Nat→Nat))(i:Nat):List Rule×(Nat→Nat):=match rs[i]? with
 |none=>s
 |some r=>if r.qI s.2∈s.1 then(s.1,fun y=>if y=i then s.1.idxOf (r.qI s.2) else s.2 y) else(s.1++[r.qI s.2],fun y=>if y=i then s.1.length else s.2 y)
def JT(rs:List Rule)(ks:List Nat):List Rule×(Nat→Nat):=ks.foldl (Tg rs) ([],fun _=>0)
theorem Pk(rs:List Rule)(ks:List Nat)(i:Nat):JT rs (ks++[i])=Tg rs (JT rs ks) i:=by simp [JT]
theorem ab3{qs:List Rule}(nd:qs.Nodup){x:Nat}{q:Rule}(h:qs[x]? =some q):qs.idxOf q=x:=by
 obtain⟨hx,e⟩:=au.mp h
 rw [←e]
 exact nd.idxOf_getElem x hx
theorem adD{rs:List Rule}{qs:List Rule}{f:Nat→Nat}{i:Nat}{r:Rule}(hr:rs[i]? =some r)(nd:qs.Nodup){x:Nat}(hx:qs[x]? =some (r.qI f)):Tg rs (qs,f) i=(qs,fun y=>if y=i then x else f y):=by
 have hm:r.qI f∈qs:=aX hx
 simp only [Tg,hr,hm,if_true,ab3 nd hx]
theorem abU{rs:List Rule}{qs:List Rule}{f:Nat→Nat}{i:Nat}{r:Rule}(hr:rs[i]? =some r)(hm:¬r.qI f∈qs):Tg rs (qs,f) i=(qs++[r.qI f],fun y=>if y=i then qs.length else f y):=by
 simp only [Tg,hr,hm,if_false]
end Sb
namespace Sb
open PySem PySem.Spec L2 Evl DL
theorem MK(c:Int):∃s:Nat,s∈GF∧lK [.int c]= .ok (.str (s1 s)):=by
 have h0:=cA c (show(62:Int)≠0 by decide)
 have h1:=bL c (show(0:Int)<62 by decide)
 have hl:SG.cps.toList.length=62:=afK
 have hx:=agb (z:=SG) h0 (by rw [hl];exact h1) ahd
 refine⟨SG.cps.toList[(c%62).toNat]'(by omega),dH _,?_⟩
 simp! only [lK,Cr,iy (show(0:Int)<62 by decide),hx]
end Sb
namespace Sb
open PySem PySem.Spec L2 Evl DL
theorem afo(r:Rule)(sz:List Nat)(hr:r.ok sz.length)(hs:∀n∈sz,n≤MOST):tK [fG r,fJ sz]= .ok (.int (r.size sz:Nat)):=by
 cases r with
 |sign c=>simp! only [tK,CZ,fG,gh,Rule.size];rfl
 |join a b=>
  simp! only [tK,CZ,fG,gh,gA,jy,js,jD hr.1,jD hr.2,Rule.size]
  rfl
 |times a n=>
  have m:=W3 (m:=sz.getD a 0) (n:=n) 61 61 (Nat.lt_of_le_of_lt (Uy hs) (by decide)) (Nat.lt_of_le_of_lt hr.2.2 (by decide))
  simp! only [tK,CZ,fG,gh,gA,jy,ts,tj,jD hr.1,m,Rule.size]
end Sb
namespace Sb
open PySem PySem.Spec L2 Evl DL
theorem yS(rs:List Rule)(g:Good rs)(f:Fits MOST rs)(hl:rs.length≤16700000):Dk [eZ rs]= .ok (fJ (sizes rs)):=afG (m:=tK) afo rs g f hl
end Sb
namespace Sb
open PySem PySem.Spec L2 Evl DL
theorem Mr(rs:List Rule):rK [eZ rs, .none]= .ok .none:=by
 simp! only [rK,Tr,pU,yq]
theorem Xa(rs:List Rule)(k:Nat)(h:k<rs.length):rK [eZ rs, .int (k:Int)]= .ok .none:=by
 simp! only [rK,Tr,pU,yq,jd,sX,show(0:Int)≤(k:Int) by omega,show(k:Int)<(rs.length:Int) by omega]
end Sb
namespace Sb
open PySem PySem.Spec L2 Evl DL
theorem Le(rs:List Rule)(n:Option Nat)(h:fV rs n):rK [eZ rs,eX n]= .ok .none:=by
 cases n with
 |none=>exact Mr rs
 |some k=>exact Xa rs k (h k rfl)
end Sb
namespace Sb
open PySem PySem.Spec L2 Evl DL
theorem acN(r:Rule):oE [fG r]= .ok (fJ r.parts):=by
 cases r with
 |sign c=>simp! only [oE,yR,fG,gh];rfl
 |join a b=>simp! only [oE,yR,fG,gh,gA,jy,js];rfl
 |times a n=>simp! only [oE,yR,fG,gh,gA,ts,tj];rfl
theorem Wr(rs:List Rule):nM [eZ rs, .none]= .ok (fJ []):=by
 simp! only [nM,G4,yq]
 rfl
def qL(S:List Nat)(ps:List Nat):List Nat:=ps.foldl (fun S p=>if p∈S then S else S++[p]) S
theorem wg(S ps:List Nat)(p:Nat):qL S (ps++[p])=if p∈qL S ps then qL S ps else qL S ps++[p]:=by
 unfold qL
 rw [List.foldl_append]
 rfl
theorem oX(S:List Nat):∀(ps:List Nat) (x:Nat),x∈qL S ps↔x∈S∨x∈ps:=by
 refine snocInd (fun x=>by simp [qL]) fun l a ih x=> ?_
 rw [wg]
 split
 ·rename_i h
  rw [ih,aU,aM]
  have ha:=(ih a).mp h
  constructor
  ·rintro(h|h)
   ·exact .inl h
   ·exact .inr (.inl h)
  ·rintro(h|h|h)
   ·exact .inl h
   ·exact .inr h
   ·rw [h]
    exact ha
 ·rw [aU,ih,aU,or_assoc]
theorem abq(S:List Nat)(hn:S.Nodup):∀ps:List Nat,(qL S ps).Nodup:=by
 refine snocInd hn fun l a ih=> ?_
 rw [wg]
 split
 ·exact ih
 ·rename_i h
  exact cI.mpr ⟨ih,by simp,fun x hx b hb=>by
   have:b=a:=by simpa using hb
   rw [this]
   intro z
   rw [z] at hx
   exact h hx⟩
theorem MF(S:List Nat):∀ps:List Nat,(qL S ps).length≤S.length+ps.length:=by
 refine snocInd (by simp [qL]) fun l a ih=> ?_
 rw [wg]
 split
 ·simp
  omega
 ·simp
  omega
theorem Wq(S:List Nat)(s1:S.Nodup):∃ks,Av (.dict (oU S))= .ok (fJ ks)∧ks.Pairwise (·<·)∧∀i,i∈ks↔i∈S:=by
 have pm:=V7 (S.map fun(i:Nat)=>(i:Int))
 have so:=PN (S.map fun(i:Nat)=>(i:Int))
 have e0:Av (.dict (oU S))= .ok (.list ((srt (S.map fun(i:Nat)=>(i:Int))).map aH)):=by
  simp only [Av,Sq]
 obtain⟨T,hT⟩:∃T,T=srt (S.map fun(i:Nat)=>(i:Int)):=⟨_,rfl⟩
 rw [←hT] at pm so e0
 have mem:∀z,z∈T↔∃i∈S,(i:Int)=z:=fun z=>by rw [pm.mem_iff,bV]
 have nd:T.Nodup:=pm.nodup_iff.mpr (by
  rw [List.Nodup,List.pairwise_map]
  exact s1.imp fun h z=>h (by omega))
 have ek:fJ (T.map Int.toNat)= .list (T.map aH):=by
  unfold fJ
  rw [cD]
  refine congrArg di (bQ fun z hz=> ?_)
  obtain⟨i,_,rfl⟩:=(mem z).mp hz
  show aH (((i:Int).toNat:Nat):Int)=aH (i:Int)
  rw [cV]
 refine⟨T.map Int.toNat,by rw [ek];exact e0,?_,fun i=> ?_⟩
 ·rw [List.pairwise_map]
  have both:=so.and nd
  refine List.Pairwise.imp_of_mem ?_ both
  intro a b ha hb h
  obtain⟨i,_,rfl⟩:=(mem a).mp ha
  obtain⟨j,_,rfl⟩:=(mem b).mp hb
  have h1:=h.1
  have h2:(i:Int)≠(j:Int):=h.2
  simp only [cV]
  omega
 ·rw [bV]
  constructor
  ·rintro⟨z,hz,rfl⟩
   obtain⟨i,hi,rfl⟩:=(mem z).mp hz
   simpa using hi
  ·intro hi
   exact⟨(i:Int),(mem _).mpr ⟨i,hi,rfl⟩,by simp⟩
theorem acw(rs:List Rule)(S:List Nat)(k m:Nat)(r:Rule)(hr:rs[m]? =some r)(hS:S.length≤8000000)(k4:Sl):∃k4' :Sl,nD (iL (nA (fu oE [(eG fX (dZ 0) (dZ 3))]))) (gN 4) (oM 2 (dZ 4) (eC (.bool true))) [.dat (eZ rs), .dat (.int (k:Int)), .own (.dict (oU S)), .dat (.int (m:Int)),k4]
 = .nx [.dat (eZ rs), .dat (.int (k:Int)), .own (.dict (oU (qL S r.parts))), .dat (.int (m:Int)),k4']:=by
 have pl:r.parts.length≤2:=by cases r<;>simp [Rule.parts]
 obtain⟨ρ2,hf2,k4',rfl⟩:=La (mi:=iL (nA (fu oE [(eG fX (dZ 0) (dZ 3))]))) (g:=gN 4) (body:=oM 2 (dZ 4) (eC (.bool true)))
  (ρ:=[.dat (eZ rs), .dat (.int (k:Int)), .own (.dict (oU S)), .dat (.int (m:Int)),k4]) (ds:=r.parts.map fun(n:Nat)=>aH (n:Int))
  (fun i ρ=>∃k4:Sl,ρ=[.dat (eZ rs), .dat (.int (k:Int)), .own (.dict (oU (qL S (r.parts.take i)))), .dat (.int (m:Int)),k4])
  (by
    simp! only [iL,tO,sW hr,acN,Pg]
    rfl)
  ⟨_,rfl⟩
  (by
    rintro i d ρ hd ⟨k4,rfl⟩
    rw [aF,aJ] at hd
    obtain⟨p,h1,rfl⟩:=hd
    have hi:=(au.mp h1).1
    have et:r.parts.take (i+1)=r.parts.take i++[p]:=by
     rw [bF,h1]
     rfl
    have hz2:(oU (qL S (r.parts.take i))).length<sizeLine:=by
     unfold oU
     rw [aC]
     have:=MF S (r.parts.take i)
     rw [aW] at this
     exact lO (by omega)
    refine⟨_,[.dat (eZ rs), .dat (.int (k:Int)), .own (.dict (oU (qL S (r.parts.take (i+1))))), .dat (.int (m:Int)), .dat (.int (p:Int))],oR, .inl ?_,_,rfl⟩
    simp only [set_0,kZ,oM,acZ,jQ,lu,aQ,aG,DL.keyOf,hz2,if_true,Yb,Z7]
    rw [et,wg])
 rw [aC,bO] at hf2
 exact⟨k4',hf2⟩
theorem abl(rs:List Rule)(g:Good rs)(hl:rs.length≤3000000)(k:Nat)(hk:k<rs.length):∃ks,nM [eZ rs, .int (k:Int)]= .ok (fJ ks)∧Need rs k ks:=by
 obtain⟨L,hL⟩:∃L,L=eZ rs:=⟨_,rfl⟩
 have key:∃ks,G4 [.dat L, .dat (.int (k:Int)), .un, .un, .un]= .rt (fJ ks)∧Need rs k ks:=by
  unfold G4
  rw [qM (ρ' :=[.dat L, .dat (.int (k:Int)), .un, .un, .un]) (by simp! only [yq])]
  rw [qM (ρ' :=[.dat L, .dat (.int (k:Int)), .own (.dict (oU [k])), .un, .un]) (by
   simp! only [eD1,DL.keyOf]
   rfl)]
  obtain⟨ρ',hf,S,k3,k4,rfl,s1,s2,s3,s4,s5,s6⟩:=La (mi:=iR3 (dZ 1) (Eo QM (eC (.int 1))) (Eo QM (eC (.int 1)))) (g:=gN 3)
   (body:=je (eG (xV false) (dZ 3) (gR 2)) (nD (iL (nA (fu oE [(eG fX (dZ 0) (dZ 3))]))) (gN 4) (oM 2 (dZ 4) (eC (.bool true)))) fU)
   (ρ:=[.dat L, .dat (.int (k:Int)), .own (.dict (oU [k])), .un, .un]) (ds:=G8 (k:Int) (-1))
   (fun j ρ=>∃(S:List Nat) (k3 k4:Sl),ρ=[.dat L, .dat (.int (k:Int)), .own (.dict (oU S)),k3,k4]∧S.Nodup∧k∈S∧(∀i∈S,i≤k)∧(∀i∈S,k<i+j→∀r,rs[i]? =some r→∀p∈r.parts,p∈S)∧S.length≤1+2*j∧∀i∈S,i=k∨∃j∈S,∃r,rs[j]? =some r∧i∈r.parts)
   (by
     have c1:inR (k:Int)=true:=Oq (by omega) (by omega)
     have c2:inR (-1)=true:=by decide
     simp! only [iR3,m7,Fb,c1,c2,Bool.and_self,if_true])
   ⟨[k],_,_,rfl,by simp,by simp,by simp,fun i hi hki=>by
     have:i=k:=by simpa using hi
     omega,by simp,fun i hi=> .inl (by simpa using hi)⟩
   (by
     rintro j d ρ hd ⟨S,k3,k4,rfl,s1,s2,s3,s4,s5,s6⟩
     have hj:=(au.mp hd).1
     rw [ye] at hj
     rw [Rk _ _ _ hj] at hd
     cases hd
     have hjk:j≤k:=by omega
     obtain⟨m,hm⟩:∃m:Nat,m+j=k:=⟨k-j,by omega⟩
     have em:(k:Int)-(j:Int)=(m:Int):=by omega
     rw [em]
     have hmr:m<rs.length:=by omega
     have hr:rs[m]? =some rs[m]:=by simp [hmr]
     obtain⟨r,er⟩:∃r,r=rs[m]:=⟨_,rfl⟩
     rw [←er] at hr
     by_cases hin:m∈S
     ·obtain⟨k4',hf2⟩:=acw rs S k m r hr (by omega) k4
      rw [←hL] at hf2
      have pl:r.parts.length≤2:=by cases r<;>simp [Rule.parts]
      refine⟨_,[.dat L, .dat (.int (k:Int)), .own (.dict (oU (qL S r.parts))), .dat (.int (m:Int)),k4'],oR, .inl ?_,_,_,_,rfl,abq S s1 _,(oX _ _ _).mpr (.inl s2),?_,?_,?_,?_⟩
      ·simp only [set_0,kZ]
       rw [Du (by simp! only [aaU,hin])]
       exact hf2
      ·intro i hi
       rcases(oX _ _ _).mp hi with h|h
       ·exact s3 i h
       ·have:=rG (g m r hr) i h
        omega
      ·intro i hi hki q hq p hp
       rcases(oX _ _ _).mp hi with h|h
       ·by_cases e:i=m
        ·rw [e,hr] at hq
         cases hq
         exact(oX _ _ _).mpr (.inr hp)
        ·exact(oX _ _ _).mpr (.inl (s4 i h (by omega) q hq p hp))
       ·have:=rG (g m r hr) i h
        omega
      ·have:=MF S r.parts
       omega
      ·intro i hi
       rcases(oX _ _ _).mp hi with h|h
       ·rcases s6 i h with h2|⟨j2,h2,q,h3,h4⟩
        ·exact .inl h2
        ·exact .inr ⟨j2,(oX _ _ _).mpr (.inl h2),q,h3,h4⟩
       ·exact .inr ⟨m,(oX _ _ _).mpr (.inl hin),r,hr,h⟩
     ·refine⟨_,[.dat L, .dat (.int (k:Int)), .own (.dict (oU S)), .dat (.int (m:Int)),k4],oR, .inl ?_,S,_,_,rfl,s1,s2,s3,?_,by omega,s6⟩
      ·simp only [set_0,kZ]
       rw [tU (by simp! only [aaU,hin])]
       rfl
      ·intro i hi hki
       refine s4 i hi ?_
       have:i≠m:=fun z=>hin (by rw [←z];exact hi)
       omega)
  rw [qM hf]
  have dl:(G8 (k:Int) (-1)).length=k+1:=by rw [ye];omega
  rw [dl] at s4
  obtain⟨ks,e1,e2,e3⟩:=Wq S s1
  refine⟨ks,?_,⟨e2,(e3 k).mpr s2,fun i hi=>s3 i ((e3 i).mp hi),fun i hi r hr p hp=>(e3 p).mpr (s4 i ((e3 i).mp hi) (by omega) r hr p hp),fun i hi=> ?_⟩⟩
  ·simp! only [Fb,e1]
  ·rcases s6 i ((e3 i).mp hi) with h2|⟨j2,h2,q,h3,h4⟩
   ·exact .inl h2
   ·exact .inr ⟨j2,(e3 j2).mpr h2,q,h3,h4⟩
 obtain⟨ks,e,n⟩:=key
 rw [hL] at e
 exact⟨ks,ahz e,n⟩
end Sb
namespace Sb
open PySem PySem.Spec L2 Evl DL
theorem Mq(rs:List Rule)(g:Good rs)(hl:rs.length≤3000000)(n:Option Nat)(hn:fV rs n):∃ks,nM [eZ rs,eX n]= .ok (fJ ks)∧sJ rs n ks:=by
 cases n with
 |none=>exact⟨[],Wr rs,rfl⟩
 |some k=>
  obtain⟨ks,e,nd⟩:=abl rs g hl k (hn k rfl)
  exact⟨ks,e,hn k rfl,nd⟩
end Sb
namespace Sb
open PySem PySem.Spec L2 Evl DL
theorem Yn(rs:List Rule):oN [eZ rs, .none]= .ok (.int 0):=by
 simp! only [oN,Qm,Mr,yq]
theorem abO(rs:List Rule)(g:Good rs)(f:Fits MOST rs)(hl:rs.length≤16700000)(k:Nat)(h:k<rs.length):oN [eZ rs, .int (k:Int)]= .ok (.int (((sizes rs).getD k 0:Nat):Int)):=by
 have e:=yS rs g f hl
 have e2:=jD (ns:=sizes rs) (a:=k) (by rw [j6];exact h)
 simp! only [oN,Qm,Xa rs k h,yq,e,e2]
end Sb
namespace Sb
open PySem PySem.Spec L2 Evl DL
theorem vG(rs:List Rule)(g:Good rs)(f:Fits MOST rs)(hl:rs.length≤16700000)(n:Option Nat)(h:fV rs n):oN [eZ rs,eX n]= .ok (.int ((lJ rs n:Nat):Int)):=by
 cases n with
 |none=>exact Yn rs
 |some k=>exact abO rs g f hl k (h k rfl)
end Sb
namespace Sb
open PySem PySem.Spec L2 Evl DL
theorem IV(ds:List (D×D))(k:D):Ip (.dict ds) k=jF (.dict ds) k:=rfl
theorem abB(ns:List Nat)(k:D):Ip (fJ ns) k=fX (fJ ns) k:=rfl
theorem zu(r:Rule)(i:Nat)(h:r.ok i)(f:Nat→Nat)(N:D)(hN:∀a∈r.parts,Ip N (.int (a:Int))= .ok (.int ((f a:Nat):Int))):lF [fG r,N]= .ok (fG (r.qI f)):=by
 cases r with
 |sign c=>simp! only [lF,CK,fG,gh,Rule.qI]
 |join a b=>simp! only [lF,CK,fG,gh,gA,jy,js,hN a (by simp [Rule.parts]),hN b (by simp [Rule.parts]),Rule.qI]
 |times a n=>simp! only [lF,CK,fG,gh,gA,jy,ts,tj,hN a (by simp [Rule.parts]),Rule.qI]
end Sb
namespace Sb
open PySem PySem.Spec L2 Evl DL
def fL(rs:List Rule):D:= .list (rs.map fG)
theorem JM{n:Nat}{m:SM}{c d:D}{ds:List D}(h:m (.own c::(ds.map Sl.dat++aD n .un))= .rt d):Ay n m (c::ds)= .ok d:=by simp only [Ay,h]
theorem M9(rs:List Rule)(r:Rule)(hl:rs.length<16700000):ug [fL rs,fG r]= .ok (.tuple [.int ((rs.length:Nat):Int),fL (rs++[r])]):=by
 have ap:sG 0 (dZ 1) [.own (fL rs), .dat (fG r)]= .nx [.own (fL (rs++[r])), .dat (fG r)]:=by
  rw [app_ok (ds:=rs.map fG) (d:=fG r) rfl rfl (by rw [aC];exact lO (by omega))]
  simp [fL]
 refine JM (n:=0) ?_
 show acr [.own (fL (rs)), .dat (fG r)]=_
 unfold acr
 rw [qM ap]
 have e:eG mW (fu jr [(gR 0)]) (eC (.int 1)) [.own (fL (rs++[r])), .dat (fG r)]= .ok (.int ((rs.length:Nat):Int)):=by
  simp! only [fL,aA,aZ,cG]
  congr 2
  omega
 simp only [Aa,e]
 rfl
end Sb
namespace Sb
open PySem PySem.Spec L2 Evl DL
theorem uX(rs:List Rule)(a b:Option Nat)(hl:rs.length<16700000):jU [fL rs,eX a,eX b]= .ok (.tuple [eX (oK rs a b).2,fL (oK rs a b).1]):=by
 refine JM (n:=0) ?_
 show P0 [.own (fL rs), .dat (eX a), .dat (eX b)]=_
 unfold P0
 cases a with
 |none=>
  rw [Et (d:= .tuple [eX b,fL rs])]
  ·rfl
  ·rw [Du rfl]
   rfl
 |some a=>
  rw [qM (ρ' :=[.own (fL rs), .dat (eX (some a)), .dat (eX b)]) (by rw [tU rfl];rfl)]
  cases b with
  |none=>
   rw [Et (d:= .tuple [eX (some a),fL rs])]
   ·rfl
   ·rw [Du rfl]
    rfl
  |some b=>
   rw [qM (ρ' :=[.own (fL rs), .dat (eX (some a)), .dat (eX (some b))]) (by rw [tU rfl];rfl)]
   have pu:=M9 rs (.join a b) hl
   have ex:jg 0 ug [(jc [(eC (.str "join")),(dZ 1),(dZ 2)])] [.own (fL rs), .dat (eX (some a)), .dat (eX (some b))]= .ok (.int ((rs.length:Nat):Int)) [.own (fL (rs++[.join a b])), .dat (eX (some a)), .dat (eX (some b))]:=by
    have ev:m7 [(jc [(eC (.str "join")),(dZ 1),(dZ 2)])] [.own (fL rs), .dat (eX (some a)), .dat (eX (some b))]= .ok [fG (.join a b)]:=by
     simp! only [m7]
     rfl
    simp only [jg,aG,ev,pu]
    rfl
   simp only [vY,ex]
   rfl
end Sb
namespace Sb
open PySem PySem.Spec L2 Evl DL
theorem K8(rs:List Rule)(n:Option Nat)(m:Nat)(hl:rs.length<16700000):u6 [fL rs,eX n, .int (m:Int)]= .ok (.tuple [eX (overF rs n m).2,fL (overF rs n m).1]):=by
 refine JM (n:=0) ?_
 show YM [.own (fL rs), .dat (eX n), .dat (.int (m:Int))]=_
 unfold YM
 cases n with
 |none=>
  rw [Et (d:= .tuple [.none,fL rs])]
  ·rfl
  ·rw [Du rfl]
   rfl
 |some a=>
  by_cases h0:m=0
  ·subst h0
   rw [Et (d:= .tuple [.none,fL rs])]
   ·rfl
   ·rw [Du (by simp! only [eX,yq];rfl)]
    rfl
  ·have h0' :¬(m:Int)=0:=by omega
   rw [qM (ρ' :=[.own (fL rs), .dat (eX (some a)), .dat (.int (m:Int))]) (by rw [tU (by simp! only [eX,yq,h0'])];rfl)]
   by_cases h1:m=1
   ·subst h1
    rw [Et (d:= .tuple [eX (some a),fL rs])]
    ·rfl
    ·rw [Du (by simp! only [];rfl)]
     rfl
   ·have h1' :¬(m:Int)=1:=by omega
    rw [qM (ρ' :=[.own (fL rs), .dat (eX (some a)), .dat (.int (m:Int))]) (by rw [tU (by simp! only [h1'])];rfl)]
    have pu:=M9 rs (.times a m) hl
    have ex:jg 0 ug [(jc [(eC (.str "times")),(dZ 1),(dZ 2)])] [.own (fL rs), .dat (eX (some a)), .dat (.int (m:Int))]= .ok (.int ((rs.length:Nat):Int)) [.own (fL (rs++[.times a m])), .dat (eX (some a)), .dat (.int (m:Int))]:=by
     have ev:m7 [(jc [(eC (.str "times")),(dZ 1),(dZ 2)])] [.own (fL rs), .dat (eX (some a)), .dat (.int (m:Int))]= .ok [fG (.times a m)]:=by
      simp! only [m7]
      rfl
     simp only [jg,aG,ev,pu]
     rfl
    simp only [vY,ex]
    simp only [overF,h0,h1,if_false]
    rfl
end Sb
namespace Sb
open PySem PySem.Spec L2 Evl DL
theorem abP(rs:List Rule)(g:Good rs)(f:Fits MOST rs)(hl:rs.length<16700000)(a b:Option Nat)(ha:fV rs a)(hb:fV rs b)(h:lJ rs a+lJ rs b≤MOST):vJ [eZ rs,eX a,eX b]= .ok (.tuple [eZ (oK rs a b).1,eX (oK rs a b).2]):=by
 have la:=vG rs g f (by omega) a ha
 have lb:=vG rs g f (by omega) b hb
 have hn:¬(1152921504606846976:Int)<((lJ rs a:Nat):Int)+((lJ rs b:Nat):Int):=by
  unfold MOST at h
  omega
 have ls:qd [eZ rs]= .ok (fL rs):=rfl
 have li:=uX rs a b hl
 refine jA ?_
 show Rt (Ms [.dat (eZ rs), .dat (eX a), .dat (eX b), .un, .un]) _
 unfold Ms
 refine fK (ρ' :=[.dat (eZ rs), .dat (eX a), .dat (eX b), .un, .un]) (by simp! only [la,lb,hn]) ?_
 refine fK (ρ' :=[.dat (eZ rs), .dat (eX a), .dat (eX b), .own (fL rs), .un]) (by simp! only [ls]) ?_
 have ex:jg 3 jU [(dZ 1),(dZ 2)] [.dat (eZ rs), .dat (eX a), .dat (eX b), .own (fL rs), .un]= .ok (eX (oK rs a b).2) [.dat (eZ rs), .dat (eX a), .dat (eX b), .own (fL (oK rs a b).1), .un]:=by
  have ev:m7 [(dZ 1),(dZ 2)] [.dat (eZ rs), .dat (eX a), .dat (eX b), .own (fL rs), .un]= .ok [eX a,eX b]:=by simp! only [m7]
  simp only [jg,aG,aQ,ev,li]
  rfl
 refine fK (ρ' :=[.dat (eZ rs), .dat (eX a), .dat (eX b), .own (fL (oK rs a b).1), .dat (eX (oK rs a b).2)]) (by
  simp only [nU,ex]
  rfl) ?_
 exact iI (by simp! only [fL];rfl) rfl
end Sb
namespace Sb
open PySem PySem.Spec L2 Evl DL
theorem ae4(rs:List Rule)(f:Fits MOST rs)(n:Option Nat)(m:Nat)(hm:m≤MOST):lQ (.int ((lJ rs n:Nat):Int)) (.int (m:Int))= .ok (.int ((lJ rs n*m:Nat):Int)):=by
 have h1:=Ua f n
 have mm:MOST<10 ^ 300:=by decide
 rw [qZ (by omega) (by omega) (by omega) (by omega)]
 simp
theorem W9(rs:List Rule)(g:Good rs)(f:Fits MOST rs)(hl:rs.length<16700000)(n:Option Nat)(hn:fV rs n)(m:Nat)(hm:m≤MOST)(h:lJ rs n*m≤MOST):Eu [eZ rs,eX n, .int (m:Int)]= .ok (.tuple [eZ (overF rs n m).1,eX (overF rs n m).2]):=by
 have la:=vG rs g f (by omega) n hn
 have mu:=ae4 rs f n m hm
 have hx:¬(1152921504606846976:Int)<((lJ rs n*m:Nat):Int):=by
  unfold MOST at h
  omega
 have ls:qd [eZ rs]= .ok (fL rs):=rfl
 have li:=K8 rs n m hl
 refine jA ?_
 show Rt (Ew [.dat (eZ rs), .dat (eX n), .dat (.int (m:Int)), .un, .un]) _
 unfold Ew
 refine fK (ρ' :=[.dat (eZ rs), .dat (eX n), .dat (.int (m:Int)), .un, .un]) (by simp! only [la,mu,hx]) ?_
 refine fK (ρ' :=[.dat (eZ rs), .dat (eX n), .dat (.int (m:Int)), .own (fL rs), .un]) (by simp! only [ls]) ?_
 have ex:jg 3 u6 [(dZ 1),(dZ 2)] [.dat (eZ rs), .dat (eX n), .dat (.int (m:Int)), .own (fL rs), .un]= .ok (eX (overF rs n m).2) [.dat (eZ rs), .dat (eX n), .dat (.int (m:Int)), .own (fL (overF rs n m).1), .un]:=by
  have ev:m7 [(dZ 1),(dZ 2)] [.dat (eZ rs), .dat (eX n), .dat (.int (m:Int)), .own (fL rs), .un]= .ok [eX n, .int (m:Int)]:=by simp! only [m7]
  simp only [jg,aG,aQ,ev,li]
  rfl
 refine fK (ρ' :=[.dat (eZ rs), .dat (eX n), .dat (.int (m:Int)), .own (fL (overF rs n m).1), .dat (eX (overF rs n m).2)]) (by
  simp only [nU,ex]
  rfl) ?_
 exact iI (by simp! only [fL];rfl) rfl
end Sb
namespace Sb
open PySem PySem.Spec L2 Evl DL
theorem Y5(rs:List Rule)(g:Good rs)(f:Fits MOST rs)(hl:rs.length≤3000000)(n:Option Nat)(hn:fV rs n):∃qs n',BL [eZ rs,eX n]= .ok (.tuple [eZ (rs++qs),eX n'])∧Good (rs++qs)∧Fits MOST (rs++qs)∧qs.length≤rs.length∧fV (rs++qs) n' ∧gQ (rs++qs) n' =List.reverse (gQ rs n)∧(∀zs,sJ (rs++qs) n' zs→zs.length≤rs.length)∧∀k,n=some k→qs.length≤k+1:=by
 obtain⟨ks,ek,nk⟩:=Mq rs g hl n hn
 have nm:=Le rs n hn
 have kl:=nk.len
 have ls:qd [eZ rs]= .ok (fL (rs++[])):=by rw [aR];rfl
 have loop:Nx (nD (iL (nA (fu nM [(dZ 0),(dZ 1)]))) (gN 4) (fH (gD 5 (fu lF [(eG fX (dZ 0) (dZ 4)),(gR 3)]))
 (fH (je (eG jZ (eG fX (dZ 5) (eC (.int 0))) (eC (.str "join"))) (gD 5 (jc [(eC (.str "join")),(eG fX (dZ 5) (eC (.int 2))),(eG fX (dZ 5) (eC (.int 1)))])) fU)
 (fH (oM 3 (dZ 4) (dZ 4))
 (je (eG Ep (dZ 5) (eG fX (dZ 0) (dZ 4))) (DQ 3 (dZ 4) (jg 2 ug [(dZ 5)])) fU)))) [.dat (eZ rs), .dat (eX n), .own (fL (rs++[])), .own (.dict (oJ (fun x=> .int (((fun _=>0) x:Nat):Int)) (ks.take 0))), .un, .un]) (fun ρ=>∃(qs:List Rule) (fn:Nat→Nat) (k4 k5:Sl),ρ=[.dat (eZ rs), .dat (eX n), .own (fL (rs++qs)), .own (.dict (oJ (fun x=> .int ((fn x:Nat):Int)) ks)),k4,k5]∧Done rs List.reverse ks qs fn):=by
  have h:=mD (mi:=iL (nA (fu nM [(dZ 0),(dZ 1)]))) (g:=gN 4) (body:=(fH (gD 5 (fu lF [(eG fX (dZ 0) (dZ 4)),(gR 3)]))
 (fH (je (eG jZ (eG fX (dZ 5) (eC (.int 0))) (eC (.str "join"))) (gD 5 (jc [(eC (.str "join")),(eG fX (dZ 5) (eC (.int 2))),(eG fX (dZ 5) (eC (.int 1)))])) fU)
 (fH (oM 3 (dZ 4) (dZ 4))
 (je (eG Ep (dZ 5) (eG fX (dZ 0) (dZ 4))) (DQ 3 (dZ 4) (jg 2 ug [(dZ 5)])) fU))))) (ρ:=[.dat (eZ rs), .dat (eX n), .own (fL (rs++[])), .own (.dict (oJ (fun x=> .int (((fun _=>0) x:Nat):Int)) (ks.take 0))), .un, .un]) (ds:=ks.map fun(i:Nat)=>aH (i:Int))
   (fun j ρ=>∃(qs:List Rule) (fn:Nat→Nat) (k4 k5:Sl),ρ=[.dat (eZ rs), .dat (eX n), .own (fL (rs++qs)), .own (.dict (oJ (fun x=> .int ((fn x:Nat):Int)) (ks.take j))),k4,k5]∧Done rs List.reverse (ks.take j) qs fn)
   (T6 (jf rfl rfl ek)) ⟨[],fun _=>0,_,_,rfl,⟨by simpa using g,by simpa using f,cQ _,fun i hi=>by simp at hi,fun i hi=>by simp at hi,fun i hi=>by simp at hi⟩⟩ (by
    rintro j d ρ hd ⟨qs,fn,k4,k5,rfl,dn⟩
    rw [aF,aJ] at hd
    obtain⟨i,h1,rfl⟩:=hd
    have hj:=(au.mp h1).1
    have him:i∈ks:=aX h1
    have hir:=nk.lt i him
    have et:ks.take (j+1)=ks.take j++[i]:=by
     rw [bF,h1]
     rfl
    obtain⟨behind,notin⟩:=Ik nk.rise h1
    have hr:rs[i]? =some rs[i]:=by simp [hir]
    obtain⟨r,er⟩:∃r,r=rs[i]:=⟨_,rfl⟩
    rw [←er] at hr
    have hx:=sW hr
    have ok:=g i r hr
    have hp:∀a∈r.parts,a∈ks.take j:=fun a ha=>behind a (nk.clo i him r hr a ha) (rG ok a ha)
    obtain⟨ok2,same,new⟩:=dn.step aeY g f hr hp notin
    have ql:=dn.len
    have tl:(ks.take j).length≤3000000:=by rw [aW];omega
    have re:=zu r i ok fn (.dict (oJ (fun x=> .int ((fn x:Nat):Int)) (ks.take j))) fun a ha=>by
     simp only [IV,jF,qJ,if_true,DL.keyOf,yW _ a _ (hp a ha)]
    obtain⟨r1,hr1⟩:∃r1,r1=r.qI fn:=⟨_,rfl⟩
    have ok1:r1.ok (rs++qs).length:=by
     rw [hr1]
     cases r with
     |sign c=>exact ok
     |join a b=>exact⟨dn.lt a (hp a (by simp [Rule.parts])),dn.lt b (hp b (by simp [Rule.parts]))⟩
     |times a m=>exact⟨dn.lt a (hp a (by simp [Rule.parts])),ok.2⟩
    rw [←hr1] at re ok2 same new
    obtain⟨r2,hr2⟩:∃r2,r2=Io r1:=⟨_,rfl⟩
    rw [←hr2] at ok2 same new
    refine⟨_,oR,?_⟩
    refine ig (ρ' :=[.dat (eZ rs), .dat (eX n), .own (fL (rs++qs)), .own (.dict (oJ (fun x=> .int ((fn x:Nat):Int)) (ks.take j))), .dat (.int (i:Int)), .dat (fG r1)]) (by
     refine(nO (d:=fG r1) (jf (x:=fG r) ?_ rfl re)).trans rfl
     simp! only [hx]) ?_
    refine ig (ρ' :=[.dat (eZ rs), .dat (eX n), .own (fL (rs++qs)), .own (.dict (oJ (fun x=> .int ((fn x:Nat):Int)) (ks.take j))), .dat (.int (i:Int)), .dat (fG r2)]) ?_ ?_
    ·rw [hr2]
     cases r1 with
     |sign c=>simp! only [fG,gh,sj,Io]
     |join a b=>simp! only [fG,gh,gA,jy,Io]
     |times a m=>simp! only [fG,gh,tj,Io]
    have hz:(oJ (fun x=>aH ((fn x:Nat):Int)) (ks.take j)).length<sizeLine:=by rw [Pb];exact lO (by omega)
    refine ig (ρ' :=[.dat (eZ rs), .dat (eX n), .own (fL (rs++qs)), .own (.dict (oJ (Ig (fun x=> .int ((fn x:Nat):Int)) i (.int (i:Int))) (ks.take (j+1)))), .dat (.int (i:Int)), .dat (fG r2)]) (by
     simp only [oM,jQ,lu,aQ,aG,DL.keyOf,hz,if_true,qJ,Vg _ i _ _ notin,set_0,kZ]
     rw [et]) ?_
    have nr:=Xh ok2 ok
    by_cases es:r2=r
    ·have es' :decide (r2=r)=true:=decide_eq_true es
     have em:oJ (Ig (fun x=>aH ((fn x:Nat):Int)) i (.int (i:Int))) (ks.take (j+1))=oJ (fun x=> .int (((if x=i then i else fn x:Nat):Nat):Int)) (ks.take (j+1)):=Ar fun x _=>by
      simp only [Ig]
      split<;>rfl
     refine Jo (by simp! only [hx,nr,es']) (jn (ρ' :=[.dat (eZ rs), .dat (eX n), .own (fL (rs++qs)), .own (.dict (oJ (fun x=> .int (((if x=i then i else fn x:Nat):Nat):Int)) (ks.take (j+1)))), .dat (.int (i:Int)), .dat (fG r2)]) ?_ ⟨qs,_,_,_,rfl,by rw [et];exact same es⟩)
     rw [G6,em]
    ·have em:oJ (Ig (Ig (fun x=>aH ((fn x:Nat):Int)) i (.int (i:Int))) i (.int (((rs++qs).length:Nat):Int))) (ks.take (j+1))=oJ (fun x=> .int (((if x=i then(rs++qs).length else fn x:Nat):Nat):Int)) (ks.take (j+1)):=Ar fun x _=>by
      simp only [Ig]
      split<;>rfl
     have pu:=M9 (rs++qs) r2 (by rw [aA];omega)
     have hz2:(oJ (Ig (fun x=>aH ((fn x:Nat):Int)) i (.int (i:Int))) (ks.take (j+1))).length<sizeLine:=by
      rw [Pb,aW]
      exact lO (by omega)
     have hin:i∈ks.take (j+1):=by rw [et];simp
     have ex:jg 2 ug [(dZ 5)] [.dat (eZ rs), .dat (eX n), .own (fL (rs++qs)), .own (.dict (oJ (Ig (fun x=> .int ((fn x:Nat):Int)) i (.int (i:Int))) (ks.take (j+1)))), .dat (.int (i:Int)), .dat (fG r2)]= .ok (.int (((rs++qs).length:Nat):Int)) [.dat (eZ rs), .dat (eX n), .own (fL (rs++qs++[r2])), .own (.dict (oJ (Ig (fun x=> .int ((fn x:Nat):Int)) i (.int (i:Int))) (ks.take (j+1)))), .dat (.int (i:Int)), .dat (fG r2)]:=by
      have ev:m7 [(dZ 5)] [.dat (eZ rs), .dat (eX n), .own (fL (rs++qs)), .own (.dict (oJ (Ig (fun x=> .int ((fn x:Nat):Int)) i (.int (i:Int))) (ks.take (j+1)))), .dat (.int (i:Int)), .dat (fG r2)]= .ok [fG r2]:=by simp! only [m7]
      simp only [jg,aG,aQ,ev,pu]
      rfl
     refine KD (by simp! only [hx,nr,es]) (jn (ρ' :=[.dat (eZ rs), .dat (eX n), .own (fL (rs++(qs++[r2]))), .own (.dict (oJ (fun x=> .int (((if x=i then(rs++qs).length else fn x:Nat):Nat):Int)) (ks.take (j+1)))), .dat (.int (i:Int)), .dat (fG r2)]) ?_ ⟨qs++[r2],_,_,_,rfl,by rw [et];exact new⟩)
     simp only [DQ,ex,jQ,lu,aQ,aG,DL.keyOf,hz2,if_true,qJ,adQ _ i _ _ hin,set_0,kZ]
     rw [em,aK])
  rw [aC,bO] at h
  exact h
 obtain⟨ρ1,lo,qs,fn,k4,k5,rfl,dn⟩:=loop
 have key:∀d,qw (gR 3) (dZ 1) [.dat (eZ rs), .dat (eX n), .own (fL (rs++qs)), .own (.dict (oJ (fun x=> .int ((fn x:Nat):Int)) ks)),k4,k5]= .ok d→BL [eZ rs,eX n]= .ok (.tuple [eZ (rs++qs),d]):=fun d hd=>by
  refine jA ?_
  show Rt (Om [.dat (eZ rs), .dat (eX n), .un, .un, .un, .un]) _
  unfold Om
  refine fK (ρ' :=[.dat (eZ rs), .dat (eX n), .un, .un, .un, .un]) (by simp! only [nm]) ?_
  refine fK (ρ' :=[.dat (eZ rs), .dat (eX n), .own (fL (rs++[])), .un, .un, .un]) (by simp! only [ls]) ?_
  refine fK (ρ' :=[.dat (eZ rs), .dat (eX n), .own (fL (rs++[])), .own (.dict (oJ (fun x=> .int (((fun _=>0) x:Nat):Int)) (ks.take 0))), .un, .un]) (by simp! only [];rfl) ?_
  refine fK lo ?_
  have bt:mK [fL (rs++qs)]= .ok (eZ (rs++qs)):=rfl
  exact iI (by simp! only [hd,bt]) rfl
 have ql:=dn.len
 cases n with
 |none=>exact⟨qs,none,key .none (by simp! only [qw,eX,qJ,if_true];rfl),dn.g,dn.fits,by omega,fV.none,rfl,fun zs hz=>by rw [show zs=[] from hz];exact cQ _,fun k z=>nomatch z⟩
 |some k=>
  have hk:=nk.2.top
  refine⟨qs,some (fn k),key _ ?_,dn.g,dn.fits,by omega,fV.some (dn.lt k hk),dn.tx k hk,fun zs hz=>bJ (dn.need hk hz.2) kl,fun k2 z=>by
   cases z
   exact bJ ql (aay nk.2)⟩
  simp! only [qw,eX,Ss,Jv,qJ,if_true,DL.keyOf,yW _ k _ hk]
  rfl
theorem Zf(rs:List Rule)(g:Good rs)(f:Fits MOST rs)(hl:rs.length≤3000000)(n:Option Nat)(hn:fV rs n):∃qs n',BL [eZ rs,eX n]= .ok (.tuple [eZ (rs++qs),eX n'])∧Good (rs++qs)∧Fits MOST (rs++qs)∧qs.length≤rs.length∧fV (rs++qs) n' ∧gQ (rs++qs) n' =List.reverse (gQ rs n)∧∀zs,sJ (rs++qs) n' zs→zs.length≤rs.length:=by
 obtain⟨qs,n',h1,h2,h3,h4,h5,h6,h7,_⟩:=Y5 rs g f hl n hn
 exact⟨qs,n',h1,h2,h3,h4,h5,h6,h7⟩
end Sb
namespace Sb
open PySem PySem.Spec L2 Evl DL
theorem QJ(rs:List Rule)(g:Good rs)(f:Fits MOST rs)(hl:rs.length≤3000000)(n:Option Nat)(hn:fV rs n)(s o:Nat)(hs:s∈GF)(ho:o∈GF):∃qs n',tV [eZ rs,eX n, .str (s1 s), .str (s1 o)]= .ok (.tuple [eZ (rs++qs),eX n'])∧Good (rs++qs)∧Fits MOST (rs++qs)∧qs.length≤rs.length∧fV (rs++qs) n' ∧gQ (rs++qs) n' =(List.map (Af s o)) (gQ rs n)∧(∀zs,sJ (rs++qs) n' zs→zs.length≤rs.length)∧∀k,n=some k→qs.length≤k+1:=by
 obtain⟨ks,ek,nk⟩:=Mq rs g hl n hn
 have nm:=Le rs n hn
 have kl:=nk.len
 have ls:qd [eZ rs]= .ok (fL (rs++[])):=by rw [aR];rfl
 have loop:Nx (nD (iL (nA (fu nM [(dZ 0),(dZ 1)]))) (gN 6) (fH (gD 7 (fu lF [(eG fX (dZ 0) (dZ 6)),(gR 5)]))
 (fH (je (eG jZ (dZ 7) (jc [(eC (.str "sign")),(dZ 2)])) (gD 7 (jc [(eC (.str "sign")),(dZ 3)])) fU)
 (fH (oM 5 (dZ 6) (dZ 6))
 (je (eG Ep (dZ 7) (eG fX (dZ 0) (dZ 6))) (DQ 5 (dZ 6) (jg 4 ug [(dZ 7)])) fU)))) [.dat (eZ rs), .dat (eX n), .dat (.str (s1 s)), .dat (.str (s1 o)), .own (fL (rs++[])), .own (.dict (oJ (fun x=> .int (((fun _=>0) x:Nat):Int)) (ks.take 0))), .un, .un]) (fun ρ=>∃(qs:List Rule) (fn:Nat→Nat) (k4 k5:Sl),ρ=[.dat (eZ rs), .dat (eX n), .dat (.str (s1 s)), .dat (.str (s1 o)), .own (fL (rs++qs)), .own (.dict (oJ (fun x=> .int ((fn x:Nat):Int)) ks)),k4,k5]∧Done rs (List.map (Af s o)) ks qs fn):=by
  have h:=mD (mi:=iL (nA (fu nM [(dZ 0),(dZ 1)]))) (g:=gN 6) (body:=(fH (gD 7 (fu lF [(eG fX (dZ 0) (dZ 6)),(gR 5)]))
 (fH (je (eG jZ (dZ 7) (jc [(eC (.str "sign")),(dZ 2)])) (gD 7 (jc [(eC (.str "sign")),(dZ 3)])) fU)
 (fH (oM 5 (dZ 6) (dZ 6))
 (je (eG Ep (dZ 7) (eG fX (dZ 0) (dZ 6))) (DQ 5 (dZ 6) (jg 4 ug [(dZ 7)])) fU))))) (ρ:=[.dat (eZ rs), .dat (eX n), .dat (.str (s1 s)), .dat (.str (s1 o)), .own (fL (rs++[])), .own (.dict (oJ (fun x=> .int (((fun _=>0) x:Nat):Int)) (ks.take 0))), .un, .un]) (ds:=ks.map fun(i:Nat)=>aH (i:Int))
   (fun j ρ=>∃(qs:List Rule) (fn:Nat→Nat) (k4 k5:Sl),ρ=[.dat (eZ rs), .dat (eX n), .dat (.str (s1 s)), .dat (.str (s1 o)), .own (fL (rs++qs)), .own (.dict (oJ (fun x=> .int ((fn x:Nat):Int)) (ks.take j))),k4,k5]∧Done rs (List.map (Af s o)) (ks.take j) qs fn)
   (T6 (jf rfl rfl ek)) ⟨[],fun _=>0,_,_,rfl,⟨by simpa using g,by simpa using f,cQ _,fun i hi=>by simp at hi,fun i hi=>by simp at hi,fun i hi=>by simp at hi⟩⟩ (by
    rintro j d ρ hd ⟨qs,fn,k4,k5,rfl,dn⟩
    rw [aF,aJ] at hd
    obtain⟨i,h1,rfl⟩:=hd
    have hj:=(au.mp h1).1
    have him:i∈ks:=aX h1
    have hir:=nk.lt i him
    have et:ks.take (j+1)=ks.take j++[i]:=by
     rw [bF,h1]
     rfl
    obtain⟨behind,notin⟩:=Ik nk.rise h1
    have hr:rs[i]? =some rs[i]:=by simp [hir]
    obtain⟨r,er⟩:∃r,r=rs[i]:=⟨_,rfl⟩
    rw [←er] at hr
    have hx:=sW hr
    have ok:=g i r hr
    have hp:∀a∈r.parts,a∈ks.take j:=fun a ha=>behind a (nk.clo i him r hr a ha) (rG ok a ha)
    obtain⟨ok2,same,new⟩:=dn.step (agF ho) g f hr hp notin
    have ql:=dn.len
    have tl:(ks.take j).length≤3000000:=by rw [aW];omega
    have re:=zu r i ok fn (.dict (oJ (fun x=> .int ((fn x:Nat):Int)) (ks.take j))) fun a ha=>by
     simp only [IV,jF,qJ,if_true,DL.keyOf,yW _ a _ (hp a ha)]
    obtain⟨r1,hr1⟩:∃r1,r1=r.qI fn:=⟨_,rfl⟩
    have ok1:r1.ok (rs++qs).length:=by
     rw [hr1]
     cases r with
     |sign c=>exact ok
     |join a b=>exact⟨dn.lt a (hp a (by simp [Rule.parts])),dn.lt b (hp b (by simp [Rule.parts]))⟩
     |times a m=>exact⟨dn.lt a (hp a (by simp [Rule.parts])),ok.2⟩
    rw [←hr1] at re ok2 same new
    obtain⟨r2,hr2⟩:∃r2,r2=(Tc s o) r1:=⟨_,rfl⟩
    rw [←hr2] at ok2 same new
    refine⟨_,oR,?_⟩
    refine ig (ρ' :=[.dat (eZ rs), .dat (eX n), .dat (.str (s1 s)), .dat (.str (s1 o)), .own (fL (rs++qs)), .own (.dict (oJ (fun x=> .int ((fn x:Nat):Int)) (ks.take j))), .dat (.int (i:Int)), .dat (fG r1)]) (by
     refine(nO (d:=fG r1) (jf (x:=fG r) ?_ rfl re)).trans rfl
     simp! only [hx]) ?_
    refine ig (ρ' :=[.dat (eZ rs), .dat (eX n), .dat (.str (s1 s)), .dat (.str (s1 o)), .own (fL (rs++qs)), .own (.dict (oJ (fun x=> .int ((fn x:Nat):Int)) (ks.take j))), .dat (.int (i:Int)), .dat (fG r2)]) ?_ ?_
    ·rw [hr2]
     have eqr:=adY (q:= .sign s) (j:=0) ok1 hs
     have eqr' :jZ (fG r1) (.tuple [.str "sign", .str (s1 s)])= .ok (.bool (decide (r1= .sign s))):=eqr
     by_cases e:r1= .sign s
     ·have e' :decide (r1= .sign s)=true:=decide_eq_true e
      have et:Tc s o r1= .sign o:=by rw [e];simp [Tc,Af]
      rw [Du (by simp! only [eqr',e']),et]
      simp! only []
      rfl
     ·have e' :decide (r1= .sign s)=false:=decide_eq_false e
      have et:Tc s o r1=r1:=by
       cases r1 with
       |sign c=>
        have:¬c=s:=fun z=>e (by rw [z])
        simp [Tc,Af,this]
       |join a b=>rfl
       |times a m=>rfl
      rw [tU (by simp! only [eqr',e']),et]
      rfl
    have hz:(oJ (fun x=>aH ((fn x:Nat):Int)) (ks.take j)).length<sizeLine:=by rw [Pb];exact lO (by omega)
    refine ig (ρ' :=[.dat (eZ rs), .dat (eX n), .dat (.str (s1 s)), .dat (.str (s1 o)), .own (fL (rs++qs)), .own (.dict (oJ (Ig (fun x=> .int ((fn x:Nat):Int)) i (.int (i:Int))) (ks.take (j+1)))), .dat (.int (i:Int)), .dat (fG r2)]) (by
     simp only [oM,jQ,lu,aQ,aG,DL.keyOf,hz,if_true,qJ,Vg _ i _ _ notin,set_0,kZ]
     rw [et]) ?_
    have nr:=Xh ok2 ok
    by_cases es:r2=r
    ·have es' :decide (r2=r)=true:=decide_eq_true es
     have em:oJ (Ig (fun x=>aH ((fn x:Nat):Int)) i (.int (i:Int))) (ks.take (j+1))=oJ (fun x=> .int (((if x=i then i else fn x:Nat):Nat):Int)) (ks.take (j+1)):=Ar fun x _=>by
      simp only [Ig]
      split<;>rfl
     refine Jo (by simp! only [hx,nr,es']) (jn (ρ' :=[.dat (eZ rs), .dat (eX n), .dat (.str (s1 s)), .dat (.str (s1 o)), .own (fL (rs++qs)), .own (.dict (oJ (fun x=> .int (((if x=i then i else fn x:Nat):Nat):Int)) (ks.take (j+1)))), .dat (.int (i:Int)), .dat (fG r2)]) ?_ ⟨qs,_,_,_,rfl,by rw [et];exact same es⟩)
     rw [G6,em]
    ·have em:oJ (Ig (Ig (fun x=>aH ((fn x:Nat):Int)) i (.int (i:Int))) i (.int (((rs++qs).length:Nat):Int))) (ks.take (j+1))=oJ (fun x=> .int (((if x=i then(rs++qs).length else fn x:Nat):Nat):Int)) (ks.take (j+1)):=Ar fun x _=>by
      simp only [Ig]
      split<;>rfl
     have pu:=M9 (rs++qs) r2 (by rw [aA];omega)
     have hz2:(oJ (Ig (fun x=>aH ((fn x:Nat):Int)) i (.int (i:Int))) (ks.take (j+1))).length<sizeLine:=by
      rw [Pb,aW]
      exact lO (by omega)
     have hin:i∈ks.take (j+1):=by rw [et];simp
     have ex:jg 4 ug [(dZ 7)] [.dat (eZ rs), .dat (eX n), .dat (.str (s1 s)), .dat (.str (s1 o)), .own (fL (rs++qs)), .own (.dict (oJ (Ig (fun x=> .int ((fn x:Nat):Int)) i (.int (i:Int))) (ks.take (j+1)))), .dat (.int (i:Int)), .dat (fG r2)]= .ok (.int (((rs++qs).length:Nat):Int)) [.dat (eZ rs), .dat (eX n), .dat (.str (s1 s)), .dat (.str (s1 o)), .own (fL (rs++qs++[r2])), .own (.dict (oJ (Ig (fun x=> .int ((fn x:Nat):Int)) i (.int (i:Int))) (ks.take (j+1)))), .dat (.int (i:Int)), .dat (fG r2)]:=by
      have ev:m7 [(dZ 7)] [.dat (eZ rs), .dat (eX n), .dat (.str (s1 s)), .dat (.str (s1 o)), .own (fL (rs++qs)), .own (.dict (oJ (Ig (fun x=> .int ((fn x:Nat):Int)) i (.int (i:Int))) (ks.take (j+1)))), .dat (.int (i:Int)), .dat (fG r2)]= .ok [fG r2]:=by simp! only [m7]
      simp only [jg,aG,aQ,ev,pu]
      rfl
     refine KD (by simp! only [hx,nr,es]) (jn (ρ' :=[.dat (eZ rs), .dat (eX n), .dat (.str (s1 s)), .dat (.str (s1 o)), .own (fL (rs++(qs++[r2]))), .own (.dict (oJ (fun x=> .int (((if x=i then(rs++qs).length else fn x:Nat):Nat):Int)) (ks.take (j+1)))), .dat (.int (i:Int)), .dat (fG r2)]) ?_ ⟨qs++[r2],_,_,_,rfl,by rw [et];exact new⟩)
     simp only [DQ,ex,jQ,lu,aQ,aG,DL.keyOf,hz2,if_true,qJ,adQ _ i _ _ hin,set_0,kZ]
     rw [em,aK])
  rw [aC,bO] at h
  exact h
 obtain⟨ρ1,lo,qs,fn,k4,k5,rfl,dn⟩:=loop
 have key:∀d,qw (gR 5) (dZ 1) [.dat (eZ rs), .dat (eX n), .dat (.str (s1 s)), .dat (.str (s1 o)), .own (fL (rs++qs)), .own (.dict (oJ (fun x=> .int ((fn x:Nat):Int)) ks)),k4,k5]= .ok d→tV [eZ rs,eX n, .str (s1 s), .str (s1 o)]= .ok (.tuple [eZ (rs++qs),d]):=fun d hd=>by
  refine jA ?_
  show Rt (Bs [.dat (eZ rs), .dat (eX n), .dat (.str (s1 s)), .dat (.str (s1 o)), .un, .un, .un, .un]) _
  unfold Bs
  refine fK (ρ' :=[.dat (eZ rs), .dat (eX n), .dat (.str (s1 s)), .dat (.str (s1 o)), .un, .un, .un, .un]) (by simp! only [nm]) ?_
  refine fK (ρ' :=[.dat (eZ rs), .dat (eX n), .dat (.str (s1 s)), .dat (.str (s1 o)), .own (fL (rs++[])), .un, .un, .un]) (by simp! only [ls]) ?_
  refine fK (ρ' :=[.dat (eZ rs), .dat (eX n), .dat (.str (s1 s)), .dat (.str (s1 o)), .own (fL (rs++[])), .own (.dict (oJ (fun x=> .int (((fun _=>0) x:Nat):Int)) (ks.take 0))), .un, .un]) (by simp! only [];rfl) ?_
  refine fK lo ?_
  have bt:mK [fL (rs++qs)]= .ok (eZ (rs++qs)):=rfl
  exact iI (by simp! only [hd,bt]) rfl
 have ql:=dn.len
 cases n with
 |none=>exact⟨qs,none,key .none (by simp! only [qw,eX,qJ,if_true];rfl),dn.g,dn.fits,by omega,fV.none,rfl,fun zs hz=>by rw [show zs=[] from hz];exact cQ _,fun k z=>nomatch z⟩
 |some k=>
  have hk:=nk.2.top
  refine⟨qs,some (fn k),key _ ?_,dn.g,dn.fits,by omega,fV.some (dn.lt k hk),dn.tx k hk,fun zs hz=>bJ (dn.need hk hz.2) kl,fun k2 z=>by
   cases z
   exact bJ ql (aay nk.2)⟩
  simp! only [qw,eX,Ss,Jv,qJ,if_true,DL.keyOf,yW _ k _ hk]
  rfl
theorem QZ(rs:List Rule)(g:Good rs)(f:Fits MOST rs)(hl:rs.length≤3000000)(n:Option Nat)(hn:fV rs n)(s o:Nat)(hs:s∈GF)(ho:o∈GF):∃qs n',tV [eZ rs,eX n, .str (s1 s), .str (s1 o)]= .ok (.tuple [eZ (rs++qs),eX n'])∧Good (rs++qs)∧Fits MOST (rs++qs)∧qs.length≤rs.length∧fV (rs++qs) n' ∧gQ (rs++qs) n' =(List.map (Af s o)) (gQ rs n)∧∀zs,sJ (rs++qs) n' zs→zs.length≤rs.length:=by
 obtain⟨qs,n',h1,h2,h3,h4,h5,h6,h7,_⟩:=QJ rs g f hl n hn s o hs ho
 exact⟨qs,n',h1,h2,h3,h4,h5,h6,h7⟩
end Sb
namespace Sb
open PySem PySem.Spec L2 Evl DL
theorem Oz(rs os:List Rule)(go:Good os)(hl:rs.length+os.length≤16700000)(n:Option Nat)(hn:fV os n):yg [eZ rs,eZ os,eX n]= .ok (.tuple [eZ (rs++bring rs os),eX (pY rs n)]):=by
 obtain⟨O,hO⟩:∃O,O=eZ os:=⟨_,rfl⟩
 have lo:jr [O]= .ok (.int ((os.length:Nat):Int)):=by rw [hO];exact sX os
 have nm:=Le os n hn
 rw [←hO] at nm⊢
 obtain⟨N,hN⟩:∃N,N=fJ ((cC os.length).map fun i=>rs.length+i):=⟨_,rfl⟩
 have ixN:∀a,a<os.length→Ip N (.int (a:Int))= .ok (.int ((rs.length+a:Nat):Int)):=fun a ha=>by
  rw [hN,abB,jD (by simpa using ha)]
  simp [bA,ha]
 have lc:Lq (Qt (fu jr [(dZ 1)])) (gN 7) (eC (.bool true)) (eG jw (dZ 3) (dZ 7)) [7] [.dat (eZ rs), .dat (O), .dat (eX n), .dat (.int ((rs.length:Nat):Int)), .un, .un, .un, .un]= .ok N:=by
  rw [hN]
  unfold fJ
  rw [cD]
  refine Jr (fun(i:Nat)=> .int (i:Int)) _ ?_ ?_ (by simp only [cZ];exact uE (by omega))
  ·rw [←BR]
   exact Mu (by simp! only [lo]) (by omega) (by omega)
  ·intro k hk
   refine⟨_,rfl,rfl,?_⟩
   simp! only [sH]
   rfl
 have ls:qd [eZ rs]= .ok (.list ((rs++bring rs (os.take 0)).map fG)):=by simp [bring,eZ]
 refine jA ?_
 show Rt (Jh [.dat (eZ rs), .dat (O), .dat (eX n), .un, .un, .un, .un, .un]) _
 unfold Jh
 refine fK (ρ' :=[.dat (eZ rs), .dat (O), .dat (eX n), .un, .un, .un, .un, .un]) (by simp! only [nm]) ?_
 refine fK (ρ' :=[.dat (eZ rs), .dat (O), .dat (eX n), .dat (.int ((rs.length:Nat):Int)), .un, .un, .un, .un]) (by simp! only [sX]) ?_
 refine fK (ρ' :=[.dat (eZ rs), .dat (O), .dat (eX n), .dat (.int ((rs.length:Nat):Int)), .dat (N), .un, .un, .un]) (by simp! only [lc]) ?_
 refine fK (ρ' :=[.dat (eZ rs), .dat (O), .dat (eX n), .dat (.int ((rs.length:Nat):Int)), .dat (N), .own (.list ((rs++bring rs (os.take 0)).map fG)), .un, .un]) (by simp! only [ls]) ?_
 refine oV (N:=fun ρ=>∃k6:Sl,ρ=[.dat (eZ rs), .dat (O), .dat (eX n), .dat (.int ((rs.length:Nat):Int)), .dat (N), .own (.list ((rs++bring rs os).map fG)),k6, .un]) ?_ ?_
 ·have h:=mD (mi:=iT (dZ 1)) (g:=gN 6) (body:=sG 5 (fu lF [(dZ 6),(dZ 4)])) (ρ:=[.dat (eZ rs), .dat (O), .dat (eX n), .dat (.int ((rs.length:Nat):Int)), .dat (N), .own (.list ((rs++bring rs (os.take 0)).map fG)), .un, .un]) (ds:=os.map fG)
   (fun i ρ=>∃k6:Sl,ρ=[.dat (eZ rs), .dat (O), .dat (eX n), .dat (.int ((rs.length:Nat):Int)), .dat (N), .own (.list ((rs++bring rs (os.take i)).map fG)),k6, .un])
   (ah8 (by simp only [jQ,lu,hO,eZ])) ⟨_,rfl⟩ (by
    rintro i d ρ hd ⟨k6,rfl⟩
    rw [aF,aJ] at hd
    obtain⟨r,h1,rfl⟩:=hd
    have hi:=(au.mp h1).1
    have et:os.take (i+1)=os.take i++[r]:=by
     rw [bF,h1]
     rfl
    have ok:=go i r h1
    have re:=zu r i ok (rs.length+·) N fun a ha=>ixN a (by have:=rG ok a ha;omega)
    refine⟨_,oR,jn (ρ' :=[.dat (eZ rs), .dat (O), .dat (eX n), .dat (.int ((rs.length:Nat):Int)), .dat (N), .own (.list ((rs++bring rs (os.take (i+1))).map fG)), .dat (fG r), .un]) ?_ ⟨_,rfl⟩⟩
    rw [app_ok (ds:=(rs++bring rs (os.take i)).map fG) (d:=fG (r.qI (rs.length+·))) rfl (by simp! only [re]) (by
     simp only [aC,aA,bring,aW]
     exact lO (by omega)),et]
    simp [bring])
  rw [aC,bO] at h
  exact h
 ·rintro ρ ⟨k6,rfl⟩
  cases n with
  |none=>exact mQ (Ad (by simp! only [eX]) (iI (by simp! only [];rfl) rfl))
  |some k=>
   refine fK (ρ' :=[.dat (eZ rs), .dat (O), .dat (eX (some k)), .dat (.int ((rs.length:Nat):Int)), .dat (N), .own (.list ((rs++bring rs os).map fG)),k6, .un]) (by simp! only [eX]) ?_
   refine iI (by simp! only [eX];rfl) ?_
   simp [pY,eX,eZ]
end Sb
namespace Sb
open PySem PySem.Spec L2 Evl DL
theorem Vm(rs q0:List Rule)(gr:Good rs)(fr:Fits MOST rs)(g:Good (rs++q0))(f:Fits MOST (rs++q0))(hl:rs.length+q0.length≤2000000)(hl0:rs.length≤200000)(k0:Nat)(hk0:k0<rs.length)(m0:Nat)(hm0:m0≤(sizes rs).getD k0 0):
 ∃qs n,mH [fL (rs++q0),fJ (sizes rs), .int (k0:Int), .int (m0:Int)]= .ok (.tuple [eX n,fL (rs++qs)])∧Good (rs++qs)∧Fits MOST (rs++qs)∧(∃xs,qs=q0++xs∧xs.length≤2*k0∧tN xs≤k0∧xG xs≤(sizes rs).getD k0 0)∧fV (rs++qs) n∧gQ (rs++qs) n=((texts rs).getD k0 []).take m0:=by
 obtain⟨T,hT⟩:∃T,T=((texts rs).getD k0 []).take m0:=⟨_,rfl⟩
 rw [←hT]
 have mo:=fr.get k0
 have Tl:T.length=m0:=by
  rw [hT]
  rw [aW,gU]
  omega
 have mm:MOST<10 ^ 300:=by decide
 have ixs:∀a:Nat,a<rs.length→fX (fJ (sizes rs)) (.int (a:Int))= .ok (.int (((sizes rs).getD a 0:Nat):Int)):=fun a h=>jD (by rw [j6];exact h)
 have ixr:∀(qs:List Rule) (a:Nat) (r:Rule),rs[a]? =some r→fX (fL (rs++qs)) (.int (a:Int))= .ok (fG r):=fun qs a r h=>by
  have ha:=(au.mp h).1
  have e:((rs++qs).map fG)[a]? =some (fG r):=by rw [aF,aP ha,h];rfl
  unfold fL
  rw [vf (by omega) (by simp;omega),cV,bA,e]
  rfl
 have body:Rt (t7 [.own (fL (rs++q0)), .dat (fJ (sizes rs)), .dat (.int (k0:Int)), .dat (.int (m0:Int)), .un, .un, .un, .un, .un]) (fun d=>∃qs n,d= .tuple [eX n,fL (rs++qs)]∧Good (rs++qs)∧Fits MOST (rs++qs)∧(∃xs,qs=q0++xs∧xs.length≤2*k0∧tN xs≤k0∧xG xs≤(sizes rs).getD k0 0)∧fV (rs++qs) n∧gQ (rs++qs) n=T):=by
  unfold t7
  refine fK (ρ' :=[.own (fL (rs++q0)), .dat (fJ (sizes rs)), .dat (.int (k0:Int)), .dat (.int (m0:Int)), .own (.list (([]:List (Option Nat)).map eX)), .un, .un, .un, .un]) (by simp! only [];rfl) ?_
  refine oV (vK (N:=fun ρ=>∃(k m:Nat) (xs:List Rule) (ps:List (Option Nat)) (k7 k8:Sl),ρ=[.own (fL (rs++(q0++xs))), .dat (fJ (sizes rs)), .dat (.int (k:Int)), .dat (.int (m:Int)), .own (.list (ps.map eX)), .un, .un,k7,k8]∧Good (rs++(q0++xs))∧Fits MOST (rs++(q0++xs))∧k<rs.length∧(m=0∨m=(sizes rs).getD k 0)∧(∀p∈ps,fV (rs++(q0++xs)) p)∧cat (rs++(q0++xs)) ps++((texts rs).getD k []).take m=T∧xs.length+k≤k0∧ps.length+k≤k0∧xG xs*(sizes rs).getD k 0≤(sizes rs).getD k0 0)
   (fun k ρ=>∃(m:Nat) (xs:List Rule) (ps:List (Option Nat)) (k7 k8:Sl),ρ=[.own (fL (rs++(q0++xs))), .dat (fJ (sizes rs)), .dat (.int (k:Int)), .dat (.int (m:Int)), .own (.list (ps.map eX)), .un, .un,k7,k8]∧Good (rs++(q0++xs))∧Fits MOST (rs++(q0++xs))∧k<rs.length∧m≤(sizes rs).getD k 0∧(∀p∈ps,fV (rs++(q0++xs)) p)∧cat (rs++(q0++xs)) ps++((texts rs).getD k []).take m=T∧xs.length+k≤k0∧ps.length+k≤k0∧xG xs*(sizes rs).getD k 0≤(sizes rs).getD k0 0) k0 (by omega)
   ⟨m0,[],[], .un, .un,by simp only [aR],by rw [aR];exact g,by rw [aR];exact f,hk0,hm0,(fun p hp=>absurd hp bB),(by simp [cat,hT]),(by simp),(by simp),(by simp [xG])⟩ ?_) ?_
  ·rintro k ρ ⟨m,xs,ps,k7,k8,rfl,g1,f1,hk,hm,hps,inv,c1,c2,c3⟩
   have ixk:=ixs k hk
   by_cases hc:0<m∧m<(sizes rs).getD k 0
   ·right
    have hr:rs[k]? =some rs[k]:=by simp [hk]
    obtain⟨r,er⟩:∃r,r=rs[k]:=⟨_,rfl⟩
    rw [←er] at hr
    have ix:=ixr (q0++xs) k r hr
    have ok:=gr k r hr
    have tx:=rD gr hr
    have sz:=u9 gr hr
    have kb:=fr.get k
    have ql:(rs++(q0++xs)).length<16700000:=by simp;omega
    refine⟨by simp! only [jd,ixk,show(0:Int)<(m:Int) by omega,show(m:Int)<(((sizes rs).getD k 0:Nat):Int) by omega],?_⟩
    cases r with
    |sign s=>
     exfalso
     rw [sz] at hc
     simp only [Rule.size] at hc
     omega
    |times a c=>
     have ha:a<rs.length:=by have:=ok.1;omega
     have ixa:=ixs a ha
     have ap:=Pos.get gr ha
     have az:=fr.get a
     simp only [Rule.size] at sz
     simp only [Rule.tx] at tx
     have tl:((texts rs).getD a []).length=(sizes rs).getD a 0:=gU rs a
     obtain⟨z,hz⟩:∃z,z=(sizes rs).getD a 0:=⟨_,rfl⟩
     rw [←hz] at ixa ap az sz tl
     obtain⟨w,hw⟩:∃w,w=m/z:=⟨_,rfl⟩
     obtain⟨y,hy⟩:∃y,y=m%z:=⟨_,rfl⟩
     have dv:=Nat.div_add_mod m z
     have y2:m%z<z:=Nat.mod_lt _ ap
     have w2:m/z≤m:=Nat.div_le_self _ _
     rw [←hw,←hy] at dv
     rw [←hy] at y2
     rw [←hw] at w2
     have dd:jB (.int (m:Int)) (.int (z:Int))= .ok (.int (w:Int)):=by
      rw [lC (by omega) (by omega),hw]
      simp
     have dm:iK (.int (m:Int)) (.int (z:Int))= .ok (.int (y:Int)):=by
      rw [iy (by omega),hy]
      simp
     have na:fV (rs++(q0++xs)) (some a):=fV.some (by simp;omega)
     have la:lJ (rs++(q0++xs)) (some a)=z:=by
      show(sizes (rs++(q0++xs))).getD a 0=z
      rw [sO ha,hz]
     have ta:gQ (rs++(q0++xs)) (some a)=(texts rs).getD a []:=iH ha _
     have ov:=K8 (rs++(q0++xs)) (some a) w ql
     obtain⟨o1,o2,o3,o4,o5,o6,o7⟩:=FT (m:=w) g1 f1 na (by omega) (by rw [la];omega)
     obtain⟨N,hN⟩:∃N,N=(overF (rs++(q0++xs)) (some a) w).2:=⟨_,rfl⟩
     rw [o3] at ov
     rw [←hN] at ov o6 o7
     rw [ta] at o7
     have eo:rs++(q0++xs)++o1=rs++(q0++(xs++o1)):=by simp
     rw [eo] at ov o4 o5 o6 o7
     have ex:jg 0 u6 [(eG fX (dZ 7) (eC (.int 1))),(eG jB (dZ 3) (dZ 8))] [.own (fL (rs++(q0++xs))), .dat (fJ (sizes rs)), .dat (.int (k:Int)), .dat (.int (m:Int)), .own (.list (ps.map eX)), .un, .un, .dat (fG (.times a c)), .dat (.int (z:Int))]= .ok (eX N) [.own (fL (rs++(q0++(xs++o1)))), .dat (fJ (sizes rs)), .dat (.int (k:Int)), .dat (.int (m:Int)), .own (.list (ps.map eX)), .un, .un, .dat (fG (.times a c)), .dat (.int (z:Int))]:=by
      have ev:m7 [(eG fX (dZ 7) (eC (.int 1))),(eG jB (dZ 3) (dZ 8))] [.own (fL (rs++(q0++xs))), .dat (fJ (sizes rs)), .dat (.int (k:Int)), .dat (.int (m:Int)), .own (.list (ps.map eX)), .un, .un, .dat (fG (.times a c)), .dat (.int (z:Int))]= .ok [eX (some a), .int (w:Int)]:=by
       simp! only [m7,fG,gA,dd]
       rfl
      simp only [jg,aG,ev,ov]
      rfl
     refine⟨a,ok.1,?_⟩
     refine ig (ρ' :=[.own (fL (rs++(q0++xs))), .dat (fJ (sizes rs)), .dat (.int (k:Int)), .dat (.int (m:Int)), .own (.list (ps.map eX)), .un, .un, .dat (fG (.times a c)),k8]) (by simp! only [ix]) ?_
     refine ig (ρ' :=[.own (fL (rs++(q0++xs))), .dat (fJ (sizes rs)), .dat (.int (k:Int)), .dat (.int (m:Int)), .own (.list (ps.map eX)), .un, .un, .dat (fG (.times a c)), .dat (.int (z:Int))]) (by simp! only [fG,gA,ixa]) ?_
     refine KD (by simp! only [fG,gh]) ?_
     refine ig (ρ' :=[.own (fL (rs++(q0++(xs++o1)))), .dat (fJ (sizes rs)), .dat (.int (k:Int)), .dat (.int (m:Int)), .own (.list ((ps++[N]).map eX)), .un, .un, .dat (fG (.times a c)), .dat (.int (z:Int))]) (by
      simp only [zQ,aQ,aG,ex,aC,show ps.length<sizeLine from lO (by omega),if_true,set_0,kZ]
      simp) ?_
     refine ig (ρ' :=[.own (fL (rs++(q0++(xs++o1)))), .dat (fJ (sizes rs)), .dat (.int (k:Int)), .dat (.int (y:Int)), .own (.list ((ps++[N]).map eX)), .un, .un, .dat (fG (.times a c)), .dat (.int (z:Int))]) (by simp! only [fG,gA,dm]) ?_
     refine jn (ρ' :=[.own (fL (rs++(q0++(xs++o1)))), .dat (fJ (sizes rs)), .dat (.int (a:Int)), .dat (.int (y:Int)), .own (.list ((ps++[N]).map eX)), .un, .un, .dat (fG (.times a c)), .dat (.int (z:Int))]) (by simp! only [fG,gA]) ⟨y,xs++o1,ps++[N],_,_,rfl,o4,o5,ha,by omega,fun p hp=> ?_,?_,by simp;have:=ok.1;omega,by simp;have:=ok.1;omega,(by
      rw [←hz,mG]
      have w3:w≤c:=by rw [hw];exact Nat.div_le_of_le_mul (by have:=hc.2;omega)
      have w4:=Jg o3
      have w5:=ok.2.1
      exact XQ (c:=c) (by rw [←sz];exact c3) (by omega))⟩
     ·rcases aU.mp hp with h|h
      ·rw [←eo]
       exact(hps p h).app _
      ·have:p=N:=by simpa using h
       rw [this]
       exact o6
     ·have e1:=Mf ((texts rs).getD a []) (by rw [tl];exact ap) c m (by rw [tl,bY,←sz];exact hc.2)
      rw [tl,←hw,←hy] at e1
      rw [←inv,tx,e1,Qe,o7,←eo,aaA hps,aK]
    |join a b=>
     have ha:a<rs.length:=by have:=ok.1;omega
     have hb:b<rs.length:=by have:=ok.2;omega
     have ixa:=ixs a ha
     simp only [Rule.size] at sz
     simp only [Rule.tx] at tx
     have ta:((texts rs).getD a []).length=(sizes rs).getD a 0:=gU rs a
     by_cases h:m<(sizes rs).getD a 0
     ·refine⟨a,ok.1,?_⟩
      refine ig (ρ' :=[.own (fL (rs++(q0++xs))), .dat (fJ (sizes rs)), .dat (.int (k:Int)), .dat (.int (m:Int)), .own (.list (ps.map eX)), .un, .un, .dat (fG (.join a b)),k8]) (by simp! only [ix]) ?_
      refine ig (ρ' :=[.own (fL (rs++(q0++xs))), .dat (fJ (sizes rs)), .dat (.int (k:Int)), .dat (.int (m:Int)), .own (.list (ps.map eX)), .un, .un, .dat (fG (.join a b)), .dat (.int (((sizes rs).getD a 0:Nat):Int))]) (by simp! only [fG,gA,ixa]) ?_
      refine Jo (by simp! only [fG,gh,jt]) (KD (by simp! only [show(m:Int)<(((sizes rs).getD a 0:Nat):Int) by omega]) ?_)
      refine jn (ρ' :=[.own (fL (rs++(q0++xs))), .dat (fJ (sizes rs)), .dat (.int (a:Int)), .dat (.int (m:Int)), .own (.list (ps.map eX)), .un, .un, .dat (fG (.join a b)), .dat (.int (((sizes rs).getD a 0:Nat):Int))]) (by simp! only [fG,gA]) ⟨m,xs,ps,_,_,rfl,g1,f1,ha,by omega,hps,?_,by have:=ok.1;omega,by have:=ok.1;omega,bJ (Nat.mul_le_mul_left _ (by omega)) c3⟩
      rw [←inv,tx,cY (by omega)]
     ·refine⟨b,ok.2,?_⟩
      have es:(m:Int)-(((sizes rs).getD a 0:Nat):Int)=((m-(sizes rs).getD a 0:Nat):Int):=by omega
      refine ig (ρ' :=[.own (fL (rs++(q0++xs))), .dat (fJ (sizes rs)), .dat (.int (k:Int)), .dat (.int (m:Int)), .own (.list (ps.map eX)), .un, .un, .dat (fG (.join a b)),k8]) (by simp! only [ix]) ?_
      refine ig (ρ' :=[.own (fL (rs++(q0++xs))), .dat (fJ (sizes rs)), .dat (.int (k:Int)), .dat (.int (m:Int)), .own (.list (ps.map eX)), .un, .un, .dat (fG (.join a b)), .dat (.int (((sizes rs).getD a 0:Nat):Int))]) (by simp! only [fG,gA,ixa]) ?_
      refine Jo (by simp! only [fG,gh,jt]) (Jo (by simp! only [show¬(m:Int)<(((sizes rs).getD a 0:Nat):Int) by omega]) ?_)
      refine ig (ρ' :=[.own (fL (rs++(q0++xs))), .dat (fJ (sizes rs)), .dat (.int (k:Int)), .dat (.int (m:Int)), .own (.list ((ps++[some a]).map eX)), .un, .un, .dat (fG (.join a b)), .dat (.int (((sizes rs).getD a 0:Nat):Int))]) (by
       rw [app_ok (ds:=ps.map eX) (d:=eX (some a)) rfl (by simp! only [fG,gA,eX]) (by rw [aC];exact lO (by omega))]
       simp) ?_
      refine ig (ρ' :=[.own (fL (rs++(q0++xs))), .dat (fJ (sizes rs)), .dat (.int (k:Int)), .dat (.int ((m-(sizes rs).getD a 0:Nat):Int)), .own (.list ((ps++[some a]).map eX)), .un, .un, .dat (fG (.join a b)), .dat (.int (((sizes rs).getD a 0:Nat):Int))]) (by simp! only [es]) ?_
      refine jn (ρ' :=[.own (fL (rs++(q0++xs))), .dat (fJ (sizes rs)), .dat (.int (b:Int)), .dat (.int ((m-(sizes rs).getD a 0:Nat):Int)), .own (.list ((ps++[some a]).map eX)), .un, .un, .dat (fG (.join a b)), .dat (.int (((sizes rs).getD a 0:Nat):Int))]) (by simp! only [fG,jy]) ⟨m-(sizes rs).getD a 0,xs,ps++[some a],_,_,rfl,g1,f1,hb,by omega,fun p hp=> ?_,?_,by have:=ok.2;omega,by simp;have:=ok.2;omega,bJ (Nat.mul_le_mul_left _ (by omega)) c3⟩
      ·rcases aU.mp hp with h2|h2
       ·exact hps p h2
       ·have:p=some a:=by simpa using h2
        rw [this]
        exact fV.some (by simp;omega)
      ·have e2:gQ (rs++(q0++xs)) (some a)=(texts rs).getD a []:=iH ha _
       have e3:((texts rs).getD a []).take m=(texts rs).getD a []:=bU (by omega)
       rw [←inv,tx,List.take_append,e3,ta,Qe,e2,aK]
   ·left
    refine⟨?_,k,m,xs,ps,k7,k8,rfl,g1,f1,hk,by omega,hps,inv,c1,c2,c3⟩
    by_cases h0:0<m
    ·simp! only [jd,ixk,show(0:Int)<(m:Int) by omega,show¬(m:Int)<(((sizes rs).getD k 0:Nat):Int) by omega]
    ·simp! only [jd,show¬(0:Int)<(m:Int) by omega]
  rintro ρ ⟨k,m,xs,ps,k7,k8,rfl,g1,f1,hk,hm,hps,inv,c1,c2,c3⟩
  refine fK (ρ' :=[.own (fL (rs++(q0++xs))), .dat (fJ (sizes rs)), .dat (.int (k:Int)), .dat (.int (m:Int)), .own (.list (ps.map eX)), .dat (.none), .un,k7,k8]) (by simp! only []) ?_
  obtain⟨F,hF⟩:∃F:Option Nat,F=if 0<m then some k else none:=⟨_,rfl⟩
  refine fK (ρ' :=[.own (fL (rs++(q0++xs))), .dat (fJ (sizes rs)), .dat (.int (k:Int)), .dat (.int (m:Int)), .own (.list (ps.map eX)), .dat (eX F), .un,k7,k8]) (by
   by_cases h0:0<m
   ·simp! only [show(0:Int)<(m:Int) by omega,hF,h0,if_true]
    rfl
   ·simp! only [show¬(0:Int)<(m:Int) by omega,hF,h0,if_false]
    rfl) ?_
  have nF:fV (rs++(q0++xs)) F:=by
   rw [hF]
   split
   ·exact fV.some (by simp;omega)
   ·exact fV.none
  have tF:gQ (rs++(q0++xs)) F=((texts rs).getD k []).take m:=by
   rw [hF]
   rcases hm with h|h
   ·subst h
    simp [gQ]
   ·have kp:=Pos.get gr hk
    simp only [show 0<m by omega,if_true]
    show(texts (rs++(q0++xs))).getD k []=_
    rw [iH hk,h,←gU]
    exact(bO).symm
  rw [←tF] at inv
  refine oV (N:=fun ρ=>∃(ys:List Rule) (Z:Option Nat) (k6:Sl),ρ=[.own (fL (rs++(q0++xs++ys))), .dat (fJ (sizes rs)), .dat (.int (k:Int)), .dat (.int (m:Int)), .dat (.list (ps.map eX)), .dat (eX Z),k6,k7,k8]∧Good (rs++(q0++xs++ys))∧Fits MOST (rs++(q0++xs++ys))∧(ys.length≤ps.length∧tN ys=0)∧fV (rs++(q0++xs++ys)) Z∧gQ (rs++(q0++xs++ys)) Z=T) ?_ ?_
  ·show Nx (nD (YD (dZ 4)) (gN 6) (nU 5 (jg 0 jU [(dZ 6),(dZ 5)])) [.own (fL (rs++(q0++xs))), .dat (fJ (sizes rs)), .dat (.int (k:Int)), .dat (.int (m:Int)), .dat (.list (ps.map eX)), .dat (eX F), .un,k7,k8]) _
   have h:=mD (mi:=YD (dZ 4)) (g:=gN 6) (body:=nU 5 (jg 0 jU [(dZ 6),(dZ 5)])) (ρ:=[.own (fL (rs++(q0++xs))), .dat (fJ (sizes rs)), .dat (.int (k:Int)), .dat (.int (m:Int)), .dat (.list (ps.map eX)), .dat (eX F), .un,k7,k8]) (ds:=(ps.map eX).reverse)
    (fun i ρ=>∃(ys:List Rule) (Z:Option Nat) (k6:Sl),ρ=[.own (fL (rs++(q0++xs++ys))), .dat (fJ (sizes rs)), .dat (.int (k:Int)), .dat (.int (m:Int)), .dat (.list (ps.map eX)), .dat (eX Z),k6,k7,k8]∧Good (rs++(q0++xs++ys))∧Fits MOST (rs++(q0++xs++ys))∧(ys.length≤i∧tN ys=0)∧fV (rs++(q0++xs++ys)) Z∧gQ (rs++(q0++xs++ys)) Z=cat (rs++(q0++xs)) (ps.reverse.take i).reverse++gQ (rs++(q0++xs)) F)
    (by simp! only [YD]) ⟨[],F,_,by rw [aR],by rw [aR];exact g1,by rw [aR];exact f1,⟨by simp,rfl⟩,by rw [aR];exact nF,by rw [aR];simp [cat]⟩ (by
     rintro i d ρ hd ⟨ys,Z,k6,rfl,g2,f2,⟨yl,yt⟩,nZ,tZ⟩
     rw [←List.map_reverse,aF,aJ] at hd
     obtain⟨p,h1,rfl⟩:=hd
     have hi:=(au.mp h1).1
     rw [bK] at hi
     have pm:p∈ps:=by
      have:=aX h1
      simpa using this
     have np:fV (rs++(q0++xs)) p:=hps p pm
     have np2:fV (rs++(q0++xs++ys)) p:=by
      rw [←aK]
      exact np.app _
     have tp:gQ (rs++(q0++xs++ys)) p=gQ (rs++(q0++xs)) p:=by
      rw [←aK]
      exact qW np _
     have hstep:(ps.reverse.take (i+1))=ps.reverse.take i++[p]:=by
      rw [bF,h1]
      rfl
     have ql:(rs++(q0++xs++ys)).length<16700000:=by simp;omega
     have big:(gQ (rs++(q0++xs)) p).length+(gQ (rs++(q0++xs++ys)) Z).length≤MOST:=by
      rw [tZ]
      have e:ps.reverse=ps.reverse.take (i+1)++ps.reverse.drop (i+1):=(bZ _ _).symm
      have e2:ps=(ps.reverse.drop (i+1)).reverse++(ps.reverse.take (i+1)).reverse:=by rw [←bT,←e,List.reverse_reverse]
      have el:T.length=(cat (rs++(q0++xs)) ((ps.reverse.drop (i+1)).reverse++(ps.reverse.take (i+1)).reverse)++gQ (rs++(q0++xs)) F).length:=by rw [←e2,inv]
      rw [hstep,bT,List.reverse_singleton] at el
      simp only [cat,cR,List.flatten_append,aA,bf,dN,List.flatten_cons,List.flatten_nil,cG] at el⊢
      omega
     have lk:=uX (rs++(q0++xs++ys)) p Z ql
     obtain⟨o1,o2,o3,o4,o5,o6,o7⟩:=xW (rs:=rs++(q0++xs++ys)) g2 f2 (a:=p) (b:=Z) np2 nZ (by rw [←mZ,←mZ,tp];omega)
     rw [o3] at lk
     have eo:rs++(q0++xs++ys)++o1=rs++(q0++xs++(ys++o1)):=by simp
     rw [eo] at lk o4 o5 o6 o7
     obtain⟨N,hN⟩:∃N,N=(oK (rs++(q0++xs++ys)) p Z).2:=⟨_,rfl⟩
     rw [←hN] at lk o6 o7
     refine⟨_,oR,jn (ρ' :=[.own (fL (rs++(q0++xs++(ys++o1)))), .dat (fJ (sizes rs)), .dat (.int (k:Int)), .dat (.int (m:Int)), .dat (.list (ps.map eX)), .dat (eX N), .dat (eX p),k7,k8]) ?_ ⟨ys++o1,N,_,rfl,o4,o5,⟨by simp;omega,by rw [Ja,yt,Cu o3]⟩,o6,?_⟩⟩
     ·have ex:jg 0 jU [(dZ 6),(dZ 5)] [.own (fL (rs++(q0++xs++ys))), .dat (fJ (sizes rs)), .dat (.int (k:Int)), .dat (.int (m:Int)), .dat (.list (ps.map eX)), .dat (eX Z), .dat (eX p),k7,k8]= .ok (eX N) [.own (fL (rs++(q0++xs++(ys++o1)))), .dat (fJ (sizes rs)), .dat (.int (k:Int)), .dat (.int (m:Int)), .dat (.list (ps.map eX)), .dat (eX Z), .dat (eX p),k7,k8]:=by
       have ev:m7 [(dZ 6),(dZ 5)] [.own (fL (rs++(q0++xs++ys))), .dat (fJ (sizes rs)), .dat (.int (k:Int)), .dat (.int (m:Int)), .dat (.list (ps.map eX)), .dat (eX Z), .dat (eX p),k7,k8]= .ok [eX p,eX Z]:=by simp! only [m7]
       simp only [jg,aG,ev,lk,set_0]
      simp only [set_0,kZ,nU,ex]
     ·rw [o7,tp,tZ,hstep]
      rw [bT,List.reverse_singleton,List.singleton_append,Mj,aK])
   rw [bK,aC] at h
   have fin:cat (rs++(q0++xs)) (ps.reverse.take ps.length).reverse++gQ (rs++(q0++xs)) F=T:=by
    rw [←inv,bU (by simp)]
    rw [List.reverse_reverse]
   rw [fin] at h
   exact h
  rintro ρ ⟨ys,Z,k6,rfl,g2,f2,⟨yl,yt⟩,nZ,tZ⟩
  refine⟨.tuple [eX Z,fL (rs++(q0++xs++ys))],rfl,q0++xs++ys,Z,rfl,g2,f2,⟨xs++ys,by simp,by simp;omega,by rw [Ja,yt];have:=Ey xs;omega,by rw [mG,BP yt,Nat.mul_one];exact bJ (Nat.le_mul_of_pos_right _ (Pos.get gr hk)) c3⟩,nZ,tZ⟩
 obtain⟨d,e,qs,n,rfl,h⟩:=body
 exact⟨qs,n,JM (n:=5) e,h⟩
theorem LQ(R:D)(sz:List Nat)(k0:Nat)(hk0:k0<sz.length)(m0:Nat)(hm:m0=0∨m0=sz.getD k0 0):
 mH [R,fJ sz, .int (k0:Int), .int (m0:Int)]= .ok (.tuple [eX (if m0=0 then none else some k0),R]):=by
 have ix:=jD (ns:=sz) (a:=k0) hk0
 have run:Rt (t7 [.own (R), .dat (fJ sz), .dat (.int (k0:Int)), .dat (.int (m0:Int)), .un, .un, .un, .un, .un]) (·= .tuple [eX (if m0=0 then none else some k0),R]):=by
  unfold t7
  refine fK (ρ' :=[.own (R), .dat (fJ sz), .dat (.int (k0:Int)), .dat (.int (m0:Int)), .own (.list []), .un, .un, .un, .un]) (by simp! only []) ?_
  refine oV (vK (N:=fun ρ=>ρ=[.own (R), .dat (fJ sz), .dat (.int (k0:Int)), .dat (.int (m0:Int)), .own (.list []), .un, .un, .un, .un]) (fun k ρ=>ρ=[.own (R), .dat (fJ sz), .dat (.int (k0:Int)), .dat (.int (m0:Int)), .own (.list []), .un, .un, .un, .un]) 0 (by omega) rfl ?_) ?_
  ·rintro k ρ rfl
   left
   refine⟨?_,rfl⟩
   rcases hm with rfl|hm
   ·simp! only [jd,ix,show¬(0:Int)<((0:Nat):Int) by omega]
   ·by_cases z:(0:Int)<(m0:Int)
    ·simp! only [jd,ix,z,show¬(m0:Int)<((sz.getD k0 0:Nat):Int) by omega]
    ·simp! only [jd,ix,z]
  rintro ρ rfl
  refine fK (ρ' :=[.own (R), .dat (fJ sz), .dat (.int (k0:Int)), .dat (.int (m0:Int)), .own (.list []), .dat (.none), .un, .un, .un]) (by simp! only []) ?_
  by_cases z:m0=0
  ·subst z
   refine fK (ρ' :=[.own (R), .dat (fJ sz), .dat (.int (k0:Int)), .dat (.int ((0:Nat):Int)), .own (.list []), .dat (.none), .un, .un, .un]) (by simp! only [show¬((0:Nat):Int)>0 by omega]) ?_
   refine fK (ρ' :=[.own (R), .dat (fJ sz), .dat (.int (k0:Int)), .dat (.int ((0:Nat):Int)), .dat (.list []), .dat (.none), .un, .un, .un]) rfl ?_
   exact⟨_,rfl,rfl⟩
  ·refine fK (ρ' :=[.own (R), .dat (fJ sz), .dat (.int (k0:Int)), .dat (.int (m0:Int)), .own (.list []), .dat (.int (k0:Int)), .un, .un, .un]) (by simp! only [show(m0:Int)>0 by omega]) ?_
   refine fK (ρ' :=[.own (R), .dat (fJ sz), .dat (.int (k0:Int)), .dat (.int (m0:Int)), .dat (.list []), .dat (.int (k0:Int)), .un, .un, .un]) rfl ?_
   exact⟨_,rfl,by rw [if_neg z];rfl⟩
 obtain⟨d,h1,rfl⟩:=run
 exact JM (n:=5) h1
theorem Ef(rs q0:List Rule)(gr:Good rs)(fr:Fits MOST rs)(g:Good (rs++q0))(f:Fits MOST (rs++q0))(hl:rs.length+q0.length≤2000000)(hl0:rs.length≤200000)(k0:Nat)(hk0:k0<rs.length)(m0:Nat)(hm0:m0≤(sizes rs).getD k0 0):
 ∃qs n,mH [fL (rs++q0),fJ (sizes rs), .int (k0:Int), .int (m0:Int)]= .ok (.tuple [eX n,fL (rs++qs)])∧Good (rs++qs)∧Fits MOST (rs++qs)∧(∃xs,qs=q0++xs∧xs.length≤2*k0∧(m0=0∨m0=(sizes rs).getD k0 0→xs.length=0)∧tN xs≤k0∧xG xs≤(sizes rs).getD k0 0)∧fV (rs++qs) n∧gQ (rs++qs) n=((texts rs).getD k0 []).take m0:=by
 by_cases hz:m0=0∨m0=(sizes rs).getD k0 0
 ·refine⟨q0,if m0=0 then none else some k0,LQ _ _ k0 (by rw [j6];exact hk0) m0 hz,g,f,⟨[],by simp,by simp,fun _=>rfl,cQ _,Pos.get gr hk0⟩,?_,?_⟩
  ·by_cases z:m0=0
   ·rw [if_pos z];exact fV.none
   ·rw [if_neg z];exact fV.some (by rw [aA];omega)
  ·have tl:((texts rs).getD k0 []).length=(sizes rs).getD k0 0:=gU rs k0
   by_cases z:m0=0
   ·rw [if_pos z]
    subst z
    simp [gQ]
   ·rw [if_neg z]
    have e:m0=((texts rs).getD k0 []).length:=by omega
    have:gQ (rs++q0) (some k0)=(texts rs).getD k0 []:=iH hk0 _
    rw [this,e]
    simp
 ·obtain⟨qs,n,h1,h2,h3,⟨xs,h4,h5,h8⟩,h6,h7⟩:=Vm rs q0 gr fr g f hl hl0 k0 hk0 m0 hm0
  exact⟨qs,n,h1,h2,h3,⟨xs,h4,h5,fun z=>absurd z hz,h8⟩,h6,h7⟩
end Sb
namespace Sb
open PySem PySem.Spec L2 Evl DL
theorem abH(rs q0:List Rule)(gr:Good rs)(fr:Fits MOST rs)(g:Good (rs++q0))(f:Fits MOST (rs++q0))(hl:rs.length+q0.length≤2000000)(hl0:rs.length≤200000)(k0:Nat)(hk0:k0<rs.length)(m0:Nat)(hm0:m0≤(sizes rs).getD k0 0):
 ∃qs n,yh [fL (rs++q0),fJ (sizes rs), .int (k0:Int), .int (m0:Int)]= .ok (.tuple [eX n,fL (rs++qs)])∧Good (rs++qs)∧Fits MOST (rs++qs)∧(∃xs,qs=q0++xs∧xs.length≤2*k0∧tN xs≤k0∧xG xs≤(sizes rs).getD k0 0)∧fV (rs++qs) n∧gQ (rs++qs) n=nj m0 ((texts rs).getD k0 []):=by
 obtain⟨T,hT⟩:∃T,T=nj m0 ((texts rs).getD k0 []):=⟨_,rfl⟩
 rw [←hT]
 have mo:=fr.get k0
 have Tl:T.length=m0:=by
  rw [hT]
  exact xT (by rw [gU];exact hm0)
 have mm:MOST<10 ^ 300:=by decide
 have ixs:∀a:Nat,a<rs.length→fX (fJ (sizes rs)) (.int (a:Int))= .ok (.int (((sizes rs).getD a 0:Nat):Int)):=fun a h=>jD (by rw [j6];exact h)
 have ixr:∀(qs:List Rule) (a:Nat) (r:Rule),rs[a]? =some r→fX (fL (rs++qs)) (.int (a:Int))= .ok (fG r):=fun qs a r h=>by
  have ha:=(au.mp h).1
  have e:((rs++qs).map fG)[a]? =some (fG r):=by rw [aF,aP ha,h];rfl
  unfold fL
  rw [vf (by omega) (by simp;omega),cV,bA,e]
  rfl
 have body:Rt (Aq [.own (fL (rs++q0)), .dat (fJ (sizes rs)), .dat (.int (k0:Int)), .dat (.int (m0:Int)), .un, .un, .un, .un]) (fun d=>∃qs n,d= .tuple [eX n,fL (rs++qs)]∧Good (rs++qs)∧Fits MOST (rs++qs)∧(∃xs,qs=q0++xs∧xs.length≤2*k0∧tN xs≤k0∧xG xs≤(sizes rs).getD k0 0)∧fV (rs++qs) n∧gQ (rs++qs) n=T):=by
  unfold Aq
  refine fK (ρ' :=[.own (fL (rs++q0)), .dat (fJ (sizes rs)), .dat (.int (k0:Int)), .dat (.int (m0:Int)), .own (.list (([]:List (Option Nat)).map eX)), .un, .un, .un]) (by simp! only [];rfl) ?_
  refine oV (vK (N:=fun ρ=>∃(k m:Nat) (xs:List Rule) (ps:List (Option Nat)) (k7:Sl),ρ=[.own (fL (rs++(q0++xs))), .dat (fJ (sizes rs)), .dat (.int (k:Int)), .dat (.int (m:Int)), .own (.list (ps.map eX)), .un, .un,k7]∧Good (rs++(q0++xs))∧Fits MOST (rs++(q0++xs))∧k<rs.length∧(m=0∨m=(sizes rs).getD k 0)∧(∀p∈ps,fV (rs++(q0++xs)) p)∧nj m ((texts rs).getD k [])++cat (rs++(q0++xs)) ps.reverse=T∧xs.length+k≤k0∧ps.length+k≤k0∧xG xs*(sizes rs).getD k 0≤(sizes rs).getD k0 0)
   (fun k ρ=>∃(m:Nat) (xs:List Rule) (ps:List (Option Nat)) (k7:Sl),ρ=[.own (fL (rs++(q0++xs))), .dat (fJ (sizes rs)), .dat (.int (k:Int)), .dat (.int (m:Int)), .own (.list (ps.map eX)), .un, .un,k7]∧Good (rs++(q0++xs))∧Fits MOST (rs++(q0++xs))∧k<rs.length∧m≤(sizes rs).getD k 0∧(∀p∈ps,fV (rs++(q0++xs)) p)∧nj m ((texts rs).getD k [])++cat (rs++(q0++xs)) ps.reverse=T∧xs.length+k≤k0∧ps.length+k≤k0∧xG xs*(sizes rs).getD k 0≤(sizes rs).getD k0 0) k0 (by omega)
   ⟨m0,[],[], .un,by simp only [aR],by rw [aR];exact g,by rw [aR];exact f,hk0,hm0,(fun p hp=>absurd hp bB),(by simp [cat,hT]),(by simp),(by simp),(by simp [xG])⟩ ?_) ?_
  ·rintro k ρ ⟨m,xs,ps,k7,rfl,g1,f1,hk,hm,hps,inv,c1,c2,c3⟩
   have ixk:=ixs k hk
   by_cases hc:0<m∧m<(sizes rs).getD k 0
   ·right
    have hr:rs[k]? =some rs[k]:=by simp [hk]
    obtain⟨r,er⟩:∃r,r=rs[k]:=⟨_,rfl⟩
    rw [←er] at hr
    have ix:=ixr (q0++xs) k r hr
    have ok:=gr k r hr
    have tx:=rD gr hr
    have sz:=u9 gr hr
    have kb:=fr.get k
    have ql:(rs++(q0++xs)).length<16700000:=by simp;omega
    refine⟨by simp! only [jd,ixk,show(0:Int)<(m:Int) by omega,show(m:Int)<(((sizes rs).getD k 0:Nat):Int) by omega],?_⟩
    cases r with
    |sign s=>
     exfalso
     rw [sz] at hc
     simp only [Rule.size] at hc
     omega
    |times a c=>
     have ha:a<rs.length:=by have:=ok.1;omega
     have ixa:=ixs a ha
     have ap:=Pos.get gr ha
     have az:=fr.get a
     simp only [Rule.size] at sz
     simp only [Rule.tx] at tx
     have tl:((texts rs).getD a []).length=(sizes rs).getD a 0:=gU rs a
     obtain⟨z,hz⟩:∃z,z=(sizes rs).getD a 0:=⟨_,rfl⟩
     rw [←hz] at ixa ap az sz tl
     obtain⟨w,hw⟩:∃w,w=m/z:=⟨_,rfl⟩
     obtain⟨y,hy⟩:∃y,y=m%z:=⟨_,rfl⟩
     have dv:=Nat.div_add_mod m z
     have y2:m%z<z:=Nat.mod_lt _ ap
     have w2:m/z≤m:=Nat.div_le_self _ _
     rw [←hw,←hy] at dv
     rw [←hy] at y2
     rw [←hw] at w2
     have dd:jB (.int (m:Int)) (.int (z:Int))= .ok (.int (w:Int)):=by
      rw [lC (by omega) (by omega),hw]
      simp
     have dm:iK (.int (m:Int)) (.int (z:Int))= .ok (.int (y:Int)):=by
      rw [iy (by omega),hy]
      simp
     have na:fV (rs++(q0++xs)) (some a):=fV.some (by simp;omega)
     have la:lJ (rs++(q0++xs)) (some a)=z:=by
      show(sizes (rs++(q0++xs))).getD a 0=z
      rw [sO ha,hz]
     have ta:gQ (rs++(q0++xs)) (some a)=(texts rs).getD a []:=iH ha _
     have ov:=K8 (rs++(q0++xs)) (some a) w ql
     obtain⟨o1,o2,o3,o4,o5,o6,o7⟩:=FT (m:=w) g1 f1 na (by omega) (by rw [la];omega)
     obtain⟨N,hN⟩:∃N,N=(overF (rs++(q0++xs)) (some a) w).2:=⟨_,rfl⟩
     rw [o3] at ov
     rw [←hN] at ov o6 o7
     rw [ta] at o7
     have eo:rs++(q0++xs)++o1=rs++(q0++(xs++o1)):=by simp
     rw [eo] at ov o4 o5 o6 o7
     have ex:jg 0 u6 [(eG fX (dZ 7) (eC (.int 1))),(eG jB (dZ 3) (eG fX (dZ 1) (eG fX (dZ 7) (eC (.int 1)))))] [.own (fL (rs++(q0++xs))), .dat (fJ (sizes rs)), .dat (.int (k:Int)), .dat (.int (m:Int)), .own (.list (ps.map eX)), .un, .un, .dat (fG (.times a c))]= .ok (eX N) [.own (fL (rs++(q0++(xs++o1)))), .dat (fJ (sizes rs)), .dat (.int (k:Int)), .dat (.int (m:Int)), .own (.list (ps.map eX)), .un, .un, .dat (fG (.times a c))]:=by
      have ev:m7 [(eG fX (dZ 7) (eC (.int 1))),(eG jB (dZ 3) (eG fX (dZ 1) (eG fX (dZ 7) (eC (.int 1)))))] [.own (fL (rs++(q0++xs))), .dat (fJ (sizes rs)), .dat (.int (k:Int)), .dat (.int (m:Int)), .own (.list (ps.map eX)), .un, .un, .dat (fG (.times a c))]= .ok [eX (some a), .int (w:Int)]:=by
       simp! only [m7,fG,gA,ixa,dd]
       rfl
      simp only [jg,aG,ev,ov]
      rfl
     refine⟨a,ok.1,?_⟩
     refine ig (ρ' :=[.own (fL (rs++(q0++xs))), .dat (fJ (sizes rs)), .dat (.int (k:Int)), .dat (.int (m:Int)), .own (.list (ps.map eX)), .un, .un, .dat (fG (.times a c))]) (by simp! only [ix]) ?_
     refine KD (by simp! only [fG,gh]) ?_
     refine ig (ρ' :=[.own (fL (rs++(q0++(xs++o1)))), .dat (fJ (sizes rs)), .dat (.int (k:Int)), .dat (.int (m:Int)), .own (.list ((ps++[N]).map eX)), .un, .un, .dat (fG (.times a c))]) (by
      simp only [zQ,aQ,aG,ex,aC,show ps.length<sizeLine from lO (by omega),if_true,set_0,kZ]
      simp) ?_
     refine ig (ρ' :=[.own (fL (rs++(q0++(xs++o1)))), .dat (fJ (sizes rs)), .dat (.int (k:Int)), .dat (.int (y:Int)), .own (.list ((ps++[N]).map eX)), .un, .un, .dat (fG (.times a c))]) (by simp! only [fG,gA,ixa,dm]) ?_
     refine jn (ρ' :=[.own (fL (rs++(q0++(xs++o1)))), .dat (fJ (sizes rs)), .dat (.int (a:Int)), .dat (.int (y:Int)), .own (.list ((ps++[N]).map eX)), .un, .un, .dat (fG (.times a c))]) (by simp! only [fG,gA]) ⟨y,xs++o1,ps++[N],_,rfl,o4,o5,ha,by omega,fun p hp=> ?_,?_,by simp;have:=ok.1;omega,by simp;have:=ok.1;omega,(by
      rw [←hz,mG]
      have w3:w≤c:=by rw [hw];exact Nat.div_le_of_le_mul (by have:=hc.2;omega)
      have w4:=Jg o3
      have w5:=ok.2.1
      exact XQ (c:=c) (by rw [←sz];exact c3) (by omega))⟩
     ·rcases aU.mp hp with h|h
      ·rw [←eo]
       exact(hps p h).app _
      ·have:p=N:=by simpa using h
       rw [this]
       exact o6
     ·have e1:=abY ((texts rs).getD a []) (by rw [tl];exact ap) c m (by rw [tl,bY,←sz];exact hc.2)
      rw [tl,←hw,←hy] at e1
      rw [←inv,tx,e1,bT,List.reverse_singleton,List.singleton_append,Mj,o7,←eo,aaA (fun p hp=>hps p (by simpa using hp)),aK]
    |join a b=>
     have ha:a<rs.length:=by have:=ok.1;omega
     have hb:b<rs.length:=by have:=ok.2;omega
     have ixb:=ixs b hb
     simp only [Rule.size] at sz
     simp only [Rule.tx] at tx
     have tb:((texts rs).getD b []).length=(sizes rs).getD b 0:=gU rs b
     by_cases h:m<(sizes rs).getD b 0
     ·refine⟨b,ok.2,?_⟩
      refine ig (ρ' :=[.own (fL (rs++(q0++xs))), .dat (fJ (sizes rs)), .dat (.int (k:Int)), .dat (.int (m:Int)), .own (.list (ps.map eX)), .un, .un, .dat (fG (.join a b))]) (by simp! only [ix]) ?_
      refine Jo (by simp! only [fG,gh,jt]) (KD (by simp! only [fG,jy,ixb,show(m:Int)<(((sizes rs).getD b 0:Nat):Int) by omega]) ?_)
      refine jn (ρ' :=[.own (fL (rs++(q0++xs))), .dat (fJ (sizes rs)), .dat (.int (b:Int)), .dat (.int (m:Int)), .own (.list (ps.map eX)), .un, .un, .dat (fG (.join a b))]) (by simp! only [fG,jy]) ⟨m,xs,ps,_,rfl,g1,f1,hb,by omega,hps,?_,by have:=ok.2;omega,by have:=ok.2;omega,bJ (Nat.mul_le_mul_left _ (by omega)) c3⟩
      rw [←inv,tx,Yc (by omega)]
     ·refine⟨a,ok.1,?_⟩
      have es:(m:Int)-(((sizes rs).getD b 0:Nat):Int)=((m-(sizes rs).getD b 0:Nat):Int):=by omega
      refine ig (ρ' :=[.own (fL (rs++(q0++xs))), .dat (fJ (sizes rs)), .dat (.int (k:Int)), .dat (.int (m:Int)), .own (.list (ps.map eX)), .un, .un, .dat (fG (.join a b))]) (by simp! only [ix]) ?_
      refine Jo (by simp! only [fG,gh,jt]) (Jo (by simp! only [fG,jy,ixb,show¬(m:Int)<(((sizes rs).getD b 0:Nat):Int) by omega]) ?_)
      refine ig (ρ' :=[.own (fL (rs++(q0++xs))), .dat (fJ (sizes rs)), .dat (.int (k:Int)), .dat (.int (m:Int)), .own (.list ((ps++[some b]).map eX)), .un, .un, .dat (fG (.join a b))]) (by
       rw [app_ok (ds:=ps.map eX) (d:=eX (some b)) rfl (by simp! only [fG,jy,eX]) (by rw [aC];exact lO (by omega))]
       simp) ?_
      refine ig (ρ' :=[.own (fL (rs++(q0++xs))), .dat (fJ (sizes rs)), .dat (.int (k:Int)), .dat (.int ((m-(sizes rs).getD b 0:Nat):Int)), .own (.list ((ps++[some b]).map eX)), .un, .un, .dat (fG (.join a b))]) (by simp! only [fG,jy,ixb,es]) ?_
      refine jn (ρ' :=[.own (fL (rs++(q0++xs))), .dat (fJ (sizes rs)), .dat (.int (a:Int)), .dat (.int ((m-(sizes rs).getD b 0:Nat):Int)), .own (.list ((ps++[some b]).map eX)), .un, .un, .dat (fG (.join a b))]) (by simp! only [fG,gA]) ⟨m-(sizes rs).getD b 0,xs,ps++[some b],_,rfl,g1,f1,ha,by omega,fun p hp=> ?_,?_,by have:=ok.1;omega,by simp;have:=ok.1;omega,bJ (Nat.mul_le_mul_left _ (by omega)) c3⟩
      ·rcases aU.mp hp with h2|h2
       ·exact hps p h2
       ·have:p=some b:=by simpa using h2
        rw [this]
        exact fV.some (by simp;omega)
      ·have e2:gQ (rs++(q0++xs)) (some b)=(texts rs).getD b []:=iH hb _
       rw [←inv,tx,Zy (by omega),tb,bT,List.reverse_singleton,List.singleton_append,Mj,e2,aK]
   ·left
    refine⟨?_,k,m,xs,ps,k7,rfl,g1,f1,hk,by omega,hps,inv,c1,c2,c3⟩
    by_cases h0:0<m
    ·simp! only [jd,ixk,show(0:Int)<(m:Int) by omega,show¬(m:Int)<(((sizes rs).getD k 0:Nat):Int) by omega]
    ·simp! only [jd,show¬(0:Int)<(m:Int) by omega]
  rintro ρ ⟨k,m,xs,ps,k7,rfl,g1,f1,hk,hm,hps,inv,c1,c2,c3⟩
  refine fK (ρ' :=[.own (fL (rs++(q0++xs))), .dat (fJ (sizes rs)), .dat (.int (k:Int)), .dat (.int (m:Int)), .own (.list (ps.map eX)), .dat (.none), .un,k7]) (by simp! only []) ?_
  obtain⟨F,hF⟩:∃F:Option Nat,F=if 0<m then some k else none:=⟨_,rfl⟩
  refine fK (ρ' :=[.own (fL (rs++(q0++xs))), .dat (fJ (sizes rs)), .dat (.int (k:Int)), .dat (.int (m:Int)), .own (.list (ps.map eX)), .dat (eX F), .un,k7]) (by
   by_cases h0:0<m
   ·simp! only [show(0:Int)<(m:Int) by omega,hF,h0,if_true]
    rfl
   ·simp! only [show¬(0:Int)<(m:Int) by omega,hF,h0,if_false]
    rfl) ?_
  have nF:fV (rs++(q0++xs)) F:=by
   rw [hF]
   split
   ·exact fV.some (by simp;omega)
   ·exact fV.none
  have tF:gQ (rs++(q0++xs)) F=nj m ((texts rs).getD k []):=by
   rw [hF]
   rcases hm with h|h
   ·subst h
    simp [gQ,afE]
   ·have kp:=Pos.get gr hk
    simp only [show 0<m by omega,if_true]
    show(texts (rs++(q0++xs))).getD k []=_
    rw [iH hk,h,←gU]
    exact(Ry _).symm
  rw [←tF] at inv
  refine oV (N:=fun ρ=>∃(ys:List Rule) (Z:Option Nat) (k6:Sl),ρ=[.own (fL (rs++(q0++xs++ys))), .dat (fJ (sizes rs)), .dat (.int (k:Int)), .dat (.int (m:Int)), .dat (.list (ps.map eX)), .dat (eX Z),k6,k7]∧Good (rs++(q0++xs++ys))∧Fits MOST (rs++(q0++xs++ys))∧(ys.length≤ps.length∧tN ys=0)∧fV (rs++(q0++xs++ys)) Z∧gQ (rs++(q0++xs++ys)) Z=T) ?_ ?_
  ·show Nx (nD (YD (dZ 4)) (gN 6) (nU 5 (jg 0 jU [(dZ 5),(dZ 6)])) [.own (fL (rs++(q0++xs))), .dat (fJ (sizes rs)), .dat (.int (k:Int)), .dat (.int (m:Int)), .dat (.list (ps.map eX)), .dat (eX F), .un,k7]) _
   have h:=mD (mi:=YD (dZ 4)) (g:=gN 6) (body:=nU 5 (jg 0 jU [(dZ 5),(dZ 6)])) (ρ:=[.own (fL (rs++(q0++xs))), .dat (fJ (sizes rs)), .dat (.int (k:Int)), .dat (.int (m:Int)), .dat (.list (ps.map eX)), .dat (eX F), .un,k7]) (ds:=(ps.map eX).reverse)
    (fun i ρ=>∃(ys:List Rule) (Z:Option Nat) (k6:Sl),ρ=[.own (fL (rs++(q0++xs++ys))), .dat (fJ (sizes rs)), .dat (.int (k:Int)), .dat (.int (m:Int)), .dat (.list (ps.map eX)), .dat (eX Z),k6,k7]∧Good (rs++(q0++xs++ys))∧Fits MOST (rs++(q0++xs++ys))∧(ys.length≤i∧tN ys=0)∧fV (rs++(q0++xs++ys)) Z∧gQ (rs++(q0++xs++ys)) Z=gQ (rs++(q0++xs)) F++cat (rs++(q0++xs)) (ps.reverse.take i))
    (by simp! only [YD]) ⟨[],F,_,by rw [aR],by rw [aR];exact g1,by rw [aR];exact f1,⟨by simp,rfl⟩,by rw [aR];exact nF,by rw [aR];simp [cat]⟩ (by
     rintro i d ρ hd ⟨ys,Z,k6,rfl,g2,f2,⟨yl,yt⟩,nZ,tZ⟩
     rw [←List.map_reverse,aF,aJ] at hd
     obtain⟨p,h1,rfl⟩:=hd
     have hi:=(au.mp h1).1
     rw [bK] at hi
     have pm:p∈ps:=by
      have:=aX h1
      simpa using this
     have np:fV (rs++(q0++xs)) p:=hps p pm
     have np2:fV (rs++(q0++xs++ys)) p:=by
      rw [←aK]
      exact np.app _
     have tp:gQ (rs++(q0++xs++ys)) p=gQ (rs++(q0++xs)) p:=by
      rw [←aK]
      exact qW np _
     have hstep:(ps.reverse.take (i+1))=ps.reverse.take i++[p]:=by
      rw [bF,h1]
      rfl
     have ql:(rs++(q0++xs++ys)).length<16700000:=by simp;omega
     have big:(gQ (rs++(q0++xs)) p).length+(gQ (rs++(q0++xs++ys)) Z).length≤MOST:=by
      rw [tZ]
      have e:ps.reverse=ps.reverse.take (i+1)++ps.reverse.drop (i+1):=(bZ _ _).symm
      have el:T.length=(gQ (rs++(q0++xs)) F++cat (rs++(q0++xs)) (ps.reverse.take (i+1)++ps.reverse.drop (i+1))).length:=by rw [←e,inv]
      rw [hstep] at el
      simp only [cat,cR,List.flatten_append,aA,bf,dN,List.flatten_cons,List.flatten_nil,cG] at el⊢
      omega
     have lk:=uX (rs++(q0++xs++ys)) Z p ql
     obtain⟨o1,o2,o3,o4,o5,o6,o7⟩:=xW (rs:=rs++(q0++xs++ys)) g2 f2 (a:=Z) (b:=p) nZ np2 (by rw [←mZ,←mZ,tp];omega)
     rw [o3] at lk
     have eo:rs++(q0++xs++ys)++o1=rs++(q0++xs++(ys++o1)):=by simp
     rw [eo] at lk o4 o5 o6 o7
     obtain⟨N,hN⟩:∃N,N=(oK (rs++(q0++xs++ys)) Z p).2:=⟨_,rfl⟩
     rw [←hN] at lk o6 o7
     refine⟨_,oR,jn (ρ' :=[.own (fL (rs++(q0++xs++(ys++o1)))), .dat (fJ (sizes rs)), .dat (.int (k:Int)), .dat (.int (m:Int)), .dat (.list (ps.map eX)), .dat (eX N), .dat (eX p),k7]) ?_ ⟨ys++o1,N,_,rfl,o4,o5,⟨by simp;omega,by rw [Ja,yt,Cu o3]⟩,o6,?_⟩⟩
     ·have ex:jg 0 jU [(dZ 5),(dZ 6)] [.own (fL (rs++(q0++xs++ys))), .dat (fJ (sizes rs)), .dat (.int (k:Int)), .dat (.int (m:Int)), .dat (.list (ps.map eX)), .dat (eX Z), .dat (eX p),k7]= .ok (eX N) [.own (fL (rs++(q0++xs++(ys++o1)))), .dat (fJ (sizes rs)), .dat (.int (k:Int)), .dat (.int (m:Int)), .dat (.list (ps.map eX)), .dat (eX Z), .dat (eX p),k7]:=by
       have ev:m7 [(dZ 5),(dZ 6)] [.own (fL (rs++(q0++xs++ys))), .dat (fJ (sizes rs)), .dat (.int (k:Int)), .dat (.int (m:Int)), .dat (.list (ps.map eX)), .dat (eX Z), .dat (eX p),k7]= .ok [eX Z,eX p]:=by simp! only [m7]
       simp only [jg,aG,ev,lk,set_0]
      simp only [set_0,kZ,nU,ex]
     ·rw [o7,tp,tZ,hstep]
      rw [Qe,aK])
   rw [bK,aC] at h
   have fin:gQ (rs++(q0++xs)) F++cat (rs++(q0++xs)) (ps.reverse.take ps.length)=T:=by
    rw [←inv,bU (by simp)]
    try rfl
   rw [fin] at h
   exact h
  rintro ρ ⟨ys,Z,k6,rfl,g2,f2,⟨yl,yt⟩,nZ,tZ⟩
  refine⟨.tuple [eX Z,fL (rs++(q0++xs++ys))],rfl,q0++xs++ys,Z,rfl,g2,f2,⟨xs++ys,by simp,by simp;omega,by rw [Ja,yt];have:=Ey xs;omega,by rw [mG,BP yt,Nat.mul_one];exact bJ (Nat.le_mul_of_pos_right _ (Pos.get gr hk)) c3⟩,nZ,tZ⟩
 obtain⟨d,e,qs,n,rfl,h⟩:=body
 exact⟨qs,n,JM (n:=4) e,h⟩
theorem XF(R:D)(sz:List Nat)(k0:Nat)(hk0:k0<sz.length)(m0:Nat)(hm:m0=0∨m0=sz.getD k0 0):
 yh [R,fJ sz, .int (k0:Int), .int (m0:Int)]= .ok (.tuple [eX (if m0=0 then none else some k0),R]):=by
 have ix:=jD (ns:=sz) (a:=k0) hk0
 have run:Rt (Aq [.own (R), .dat (fJ sz), .dat (.int (k0:Int)), .dat (.int (m0:Int)), .un, .un, .un, .un]) (·= .tuple [eX (if m0=0 then none else some k0),R]):=by
  unfold Aq
  refine fK (ρ' :=[.own (R), .dat (fJ sz), .dat (.int (k0:Int)), .dat (.int (m0:Int)), .own (.list []), .un, .un, .un]) (by simp! only []) ?_
  refine oV (vK (N:=fun ρ=>ρ=[.own (R), .dat (fJ sz), .dat (.int (k0:Int)), .dat (.int (m0:Int)), .own (.list []), .un, .un, .un]) (fun k ρ=>ρ=[.own (R), .dat (fJ sz), .dat (.int (k0:Int)), .dat (.int (m0:Int)), .own (.list []), .un, .un, .un]) 0 (by omega) rfl ?_) ?_
  ·rintro k ρ rfl
   left
   refine⟨?_,rfl⟩
   rcases hm with rfl|hm
   ·simp! only [jd,ix,show¬(0:Int)<((0:Nat):Int) by omega]
   ·by_cases z:(0:Int)<(m0:Int)
    ·simp! only [jd,ix,z,show¬(m0:Int)<((sz.getD k0 0:Nat):Int) by omega]
    ·simp! only [jd,ix,z]
  rintro ρ rfl
  refine fK (ρ' :=[.own (R), .dat (fJ sz), .dat (.int (k0:Int)), .dat (.int (m0:Int)), .own (.list []), .dat (.none), .un, .un]) (by simp! only []) ?_
  by_cases z:m0=0
  ·subst z
   refine fK (ρ' :=[.own (R), .dat (fJ sz), .dat (.int (k0:Int)), .dat (.int ((0:Nat):Int)), .own (.list []), .dat (.none), .un, .un]) (by simp! only [show¬((0:Nat):Int)>0 by omega]) ?_
   refine fK (ρ' :=[.own (R), .dat (fJ sz), .dat (.int (k0:Int)), .dat (.int ((0:Nat):Int)), .dat (.list []), .dat (.none), .un, .un]) rfl ?_
   exact⟨_,rfl,rfl⟩
  ·refine fK (ρ' :=[.own (R), .dat (fJ sz), .dat (.int (k0:Int)), .dat (.int (m0:Int)), .own (.list []), .dat (.int (k0:Int)), .un, .un]) (by simp! only [show(m0:Int)>0 by omega]) ?_
   refine fK (ρ' :=[.own (R), .dat (fJ sz), .dat (.int (k0:Int)), .dat (.int (m0:Int)), .dat (.list []), .dat (.int (k0:Int)), .un, .un]) rfl ?_
   exact⟨_,rfl,by rw [if_neg z];rfl⟩
 obtain⟨d,h1,rfl⟩:=run
 exact JM (n:=4) h1
theorem Y7(rs q0:List Rule)(gr:Good rs)(fr:Fits MOST rs)(g:Good (rs++q0))(f:Fits MOST (rs++q0))(hl:rs.length+q0.length≤2000000)(hl0:rs.length≤200000)(k0:Nat)(hk0:k0<rs.length)(m0:Nat)(hm0:m0≤(sizes rs).getD k0 0):
 ∃qs n,yh [fL (rs++q0),fJ (sizes rs), .int (k0:Int), .int (m0:Int)]= .ok (.tuple [eX n,fL (rs++qs)])∧Good (rs++qs)∧Fits MOST (rs++qs)∧(∃xs,qs=q0++xs∧xs.length≤2*k0∧(m0=0∨m0=(sizes rs).getD k0 0→xs.length=0)∧tN xs≤k0∧xG xs≤(sizes rs).getD k0 0)∧fV (rs++qs) n∧gQ (rs++qs) n=nj m0 ((texts rs).getD k0 []):=by
 by_cases hz:m0=0∨m0=(sizes rs).getD k0 0
 ·refine⟨q0,if m0=0 then none else some k0,XF _ _ k0 (by rw [j6];exact hk0) m0 hz,g,f,⟨[],by simp,by simp,fun _=>rfl,cQ _,Pos.get gr hk0⟩,?_,?_⟩
  ·by_cases z:m0=0
   ·rw [if_pos z];exact fV.none
   ·rw [if_neg z];exact fV.some (by rw [aA];omega)
  ·have tl:((texts rs).getD k0 []).length=(sizes rs).getD k0 0:=gU rs k0
   by_cases z:m0=0
   ·rw [if_pos z]
    subst z
    simp [gQ,nj]
   ·rw [if_neg z]
    have e:m0=((texts rs).getD k0 []).length:=by omega
    have:gQ (rs++q0) (some k0)=(texts rs).getD k0 []:=iH hk0 _
    rw [this,e]
    rw [Ry]
 ·obtain⟨qs,n,h1,h2,h3,⟨xs,h4,h5,h8⟩,h6,h7⟩:=abH rs q0 gr fr g f hl hl0 k0 hk0 m0 hm0
  exact⟨qs,n,h1,h2,h3,⟨xs,h4,h5,fun z=>absurd z hz,h8⟩,h6,h7⟩
end Sb
namespace Sb
open PySem PySem.Spec L2 Evl DL
theorem ac1{i:Nat}{g:List D→ER}{m:EM}{xm:XM}{ρ ρ1 ρ2:DL.Env}{c0 c d0 d1 d c' :D}(h0:ρ[i]? =some (.own c0))(h1:m ρ= .ok d0)(h2:xm ρ= .ok d1 ρ1)(h3:ρ1[i]? =some (.own c))(h4:g [c,d0,d1]= .ok (.tuple [d,c']))(h5:ρ1.set i (.own c')=ρ2):xq i g m xm ρ= .ok d ρ2:=by
 simp only [xq,h0,h1,h2,h3,h4,h5]
theorem adt{i:Nat}{g:List D→ER}{ms:List EM}{ρ ρ2:DL.Env}{c d c' :D}{ds:List D}(h0:ρ[i]? =some (.own c))(h1:m7 ms ρ= .ok ds)(h2:g (c::ds)= .ok (.tuple [d,c']))(h3:ρ.set i (.own c')=ρ2):jg i g ms ρ= .ok d ρ2:=by
 simp only [jg,h0,h1,h2,h3]
theorem abC(rs:List Rule)(g:Good rs)(f:Fits MOST rs)(hl:rs.length≤200000)(k:Nat)(r:Rule)(hr:rs[k]? =some r)(a:Nat)(hra:(∃b,r= .join a b)∨∃c,r= .times a c)(s e:Nat)(hs:s<(sizes rs).getD a 0)(he:(sizes rs).getD a 0<e)(hek:e≤(sizes rs).getD k 0):
 ∃qs n,xR [fL rs,fJ (sizes rs),fG r, .int (s:Int), .int (e:Int)]= .ok (.tuple [eX n,fL (rs++qs)])∧Good (rs++qs)∧Fits MOST (rs++qs)∧(qs.length≤4*k+4∧(s=0∨e=(sizes rs).getD k 0∨(∃c m,r= .times a c∧e=m*(sizes rs).getD a 0)→qs.length≤2*k+4∧tN qs≤k∧xG qs≤(sizes rs).getD k 0))∧fV (rs++qs) n∧gQ (rs++qs) n=stretch ((texts rs).getD k []) s e:=by
 have hk:=(au.mp hr).1
 have ok:=g k r hr
 have ak:a<k:=by
  rcases hra with⟨b,rfl⟩|⟨c,rfl⟩<;>exact ok.1
 have mm:MOST<10 ^ 300:=by decide
 have kb:=f.get k
 obtain⟨z,hz⟩:∃z,z=(sizes rs).getD a 0:=⟨_,rfl⟩
 have ixa:=jD (ns:=sizes rs) (a:=a) (by rw [j6];omega)
 rw [←hz] at hs he ixa
 have tl:((texts rs).getD a []).length=z:=by rw [gU,hz]
 have r1:fX (fG r) (.int 1)= .ok (.int (a:Int)):=by rcases hra with⟨b,rfl⟩|⟨c,rfl⟩<;>exact gA _ _ _
 obtain⟨q1,n1,e1,g1,f1,⟨x1,hx1,l1,z1,w1,pr1⟩,nn1,t1⟩:=Y7 rs [] g f (by simpa using g) (by simpa using f) (by simp;omega) hl a (by omega) (z-s) (by omega)
 rw [aR] at e1
 have e1' :(z:Int)-(s:Int)=((z-s:Nat):Int):=by omega
 have q1l:q1.length≤2*a:=by rw [hx1];simpa using l1
 have q1t:tN q1≤a:=by rw [hx1];simpa using w1
 have q1p:xG q1≤z:=by rw [hx1,hz];simpa using pr1
 have q1z:s=0→q1.length=0:=fun z=>by rw [hx1];simpa using z1 (.inr (by omega))
 have ln1:lJ (rs++q1) n1=z-s:=by rw [←mZ,t1,xT (by omega)]
 have sub:(e:Int)-(z:Int)=((e-z:Nat):Int):=by omega
 have run:∀d,Rt (Gg [.own (fL rs), .dat (fJ (sizes rs)), .dat (fG r), .dat (.int (s:Int)), .dat (.int (e:Int)), .un, .un, .un]) (·=d)→xR [fL rs,fJ (sizes rs),fG r, .int (s:Int), .int (e:Int)]= .ok d:=fun d ⟨d',h1,h2⟩=>by
  subst h2
  exact JM (n:=3) h1
 have pre:∀Q:D→Prop,Rt (fH (je (eG jZ (eG fX (dZ 2) (eC (.int 0))) (eC (.str "join"))) (vY (xq 0 jU (dZ 7) (jg 0 mH [(dZ 1),(eG fX (dZ 2) (eC (.int 2))),(eG mW (dZ 4) (dZ 6))]))) fU)
 (fH (nU 7 (xq 0 jU (dZ 7) (jg 0 u6 [(dZ 5),(eG jB (eG mW (dZ 4) (dZ 6)) (dZ 6))])))
 (vY (xq 0 jU (dZ 7) (jg 0 mH [(dZ 1),(dZ 5),(eG iK (eG mW (dZ 4) (dZ 6)) (dZ 6))])))) [.own (fL (rs++q1)), .dat (fJ (sizes rs)), .dat (fG r), .dat (.int (s:Int)), .dat (.int (e:Int)), .dat (.int (a:Int)), .dat (.int (z:Int)), .dat (eX n1)]) Q→Rt (Gg [.own (fL rs), .dat (fJ (sizes rs)), .dat (fG r), .dat (.int (s:Int)), .dat (.int (e:Int)), .un, .un, .un]) Q:=fun Q h=>by
  unfold Gg
  refine fK (ρ' :=[.own (fL rs), .dat (fJ (sizes rs)), .dat (fG r), .dat (.int (s:Int)), .dat (.int (e:Int)), .dat (.int (a:Int)), .un, .un]) (by simp! only [r1]) ?_
  refine fK (ρ' :=[.own (fL rs), .dat (fJ (sizes rs)), .dat (fG r), .dat (.int (s:Int)), .dat (.int (e:Int)), .dat (.int (a:Int)), .dat (.int (z:Int)), .un]) (by simp! only [ixa]) ?_
  refine fK (ρ' :=[.own (fL (rs++q1)), .dat (fJ (sizes rs)), .dat (fG r), .dat (.int (s:Int)), .dat (.int (e:Int)), .dat (.int (a:Int)), .dat (.int (z:Int)), .dat (eX n1)]) ?_ h
  have ex:=adt (i:=0) (g:=yh) (ms:=[(dZ 1),(dZ 5),(eG mW (dZ 6) (dZ 3))]) (ρ:=[.own (fL rs), .dat (fJ (sizes rs)), .dat (fG r), .dat (.int (s:Int)), .dat (.int (e:Int)), .dat (.int (a:Int)), .dat (.int (z:Int)), .un]) rfl (by simp! only [m7,e1']) e1 rfl
  simp only [nU,ex]
  rfl
 rcases hra with⟨b,rfl⟩|⟨c,rfl⟩
 ·have sz:=u9 g hr
  have tx:=rD g hr
  simp only [Rule.size] at sz
  simp only [Rule.tx] at tx
  have hb:b<rs.length:=by have:=ok.2;omega
  have tb:((texts rs).getD b []).length=(sizes rs).getD b 0:=gU rs b
  obtain⟨q2,n2,e2,g2,f2,⟨x2,hx2,l2,z2,wx2,pr2⟩,nn2,t2⟩:=Ef rs q1 g f g1 f1 (by omega) hl b hb (e-z) (by omega)
  subst hx2
  have nn1' :fV (rs++(q1++x2)) n1:=by rw [←aK];exact nn1.app _
  have t1' :gQ (rs++(q1++x2)) n1=nj (z-s) ((texts rs).getD a []):=by rw [←aK,qW nn1,t1]
  have ll1:lJ (rs++(q1++x2)) n1=z-s:=by rw [←mZ,t1',xT (by omega)]
  have ll2:lJ (rs++(q1++x2)) n2=e-z:=by rw [←mZ,t2,aW,tb];omega
  obtain⟨q3,l3,e3,g3,f3,nn3,t3⟩:=xW g2 f2 nn1' nn2 (by omega)
  have lk:=uX (rs++(q1++x2)) n1 n2 (by simp;have:=ok.2;omega)
  rw [e3] at lk
  have bk:=ok.2
  refine⟨q1++x2++q3,(oK (rs++(q1++x2)) n1 n2).2,run _ (pre _ ?_),by rw [←aK];exact g3,by rw [←aK];exact f3,⟨by simp;omega,fun hz2=>by
   have:e=(sizes rs).getD k 0→x2.length=0:=fun z=>z2 (.inr (by omega))
   have t3:=Cu e3
   have t1:=Ey q1
   have t2:=Ey x2
   simp only [aA,Ja]
   rcases hz2 with z|z|⟨c,m,z,_⟩
   ·have e0:=q1z z
    have e1:q1=[]:=dJ.mp e0
    exact⟨by omega,by omega,by rw [mG,mG,BP t3,e1];simp only [xG];omega⟩
   ·have e0:=this z
    have e1:x2=[]:=dJ.mp e0
    exact⟨by omega,by omega,by rw [mG,mG,BP t3,e1];simp only [xG];omega⟩
   ·cases z⟩,by rw [←aK];exact nn3,?_⟩
  ·refine mQ (Ad (by simp! only [fG,gh]) ?_)
   have ex1:=adt (i:=0) (g:=mH) (ms:=[(dZ 1),(eG fX (dZ 2) (eC (.int 2))),(eG mW (dZ 4) (dZ 6))]) (ρ:=[.own (fL (rs++q1)), .dat (fJ (sizes rs)), .dat (fG (.join a b)), .dat (.int (s:Int)), .dat (.int (e:Int)), .dat (.int (a:Int)), .dat (.int (z:Int)), .dat (eX n1)]) rfl (by simp! only [m7,fG,jy,sub]) e2 rfl
   have ex2:=ac1 (i:=0) (g:=jU) (m:=dZ 7) (ρ:=[.own (fL (rs++q1)), .dat (fJ (sizes rs)), .dat (fG (.join a b)), .dat (.int (s:Int)), .dat (.int (e:Int)), .dat (.int (a:Int)), .dat (.int (z:Int)), .dat (eX n1)]) rfl rfl ex1 rfl lk rfl
   refine⟨_,by simp only [vY,ex2];rfl,?_⟩
   show bM _=bM _
   simp only [aK]
  ·rw [←aK,t3,t1',t2,tx,G7 (by omega) (by omega),tl]
 ·have sz:=u9 g hr
  have tx:=rD g hr
  simp only [Rule.size] at sz
  simp only [Rule.tx] at tx
  rw [←hz] at sz
  obtain⟨w,hw⟩:∃w,w=(e-z)/z:=⟨_,rfl⟩
  obtain⟨y,hy⟩:∃y,y=(e-z)%z:=⟨_,rfl⟩
  have dv:=Nat.div_add_mod (e-z) z
  have y2:(e-z)%z<z:=Nat.mod_lt _ (by omega)
  have w2:(e-z)/z≤e-z:=Nat.div_le_self _ _
  rw [←hw,←hy] at dv
  rw [←hy] at y2
  rw [←hw] at w2
  have dd:jB (.int ((e-z:Nat):Int)) (.int (z:Int))= .ok (.int (w:Int)):=by
   rw [lC (by omega) (by omega),hw]
   simp
  have dm:iK (.int ((e-z:Nat):Int)) (.int (z:Int))= .ok (.int (y:Int)):=by
   rw [iy (by omega),hy]
   simp
  have ha:a<rs.length:=by omega
  have na:fV (rs++q1) (some a):=fV.some (by simp;omega)
  have la:lJ (rs++q1) (some a)=z:=by
   show(sizes (rs++q1)).getD a 0=z
   rw [sO ha,hz]
  have ta:gQ (rs++q1) (some a)=(texts rs).getD a []:=iH ha _
  obtain⟨q2,l2,e2,g2,f2,nn2,t2⟩:=FT (m:=w) g1 f1 na (by omega) (by rw [la];omega)
  have ov:=K8 (rs++q1) (some a) w (by simp;omega)
  rw [e2] at ov
  rw [ta] at t2
  obtain⟨n2,hn2⟩:∃n2,n2=(overF (rs++q1) (some a) w).2:=⟨_,rfl⟩
  rw [←hn2] at ov nn2 t2
  have nn1' :fV (rs++q1++q2) n1:=nn1.app _
  have t1' :gQ (rs++q1++q2) n1=nj (z-s) ((texts rs).getD a []):=by rw [qW nn1,t1]
  have ll1:lJ (rs++q1++q2) n1=z-s:=by rw [←mZ,t1',xT (by omega)]
  have ll2:lJ (rs++q1++q2) n2=w*z:=by rw [←mZ,t2,qC,tl]
  rw [bY] at dv
  obtain⟨q3,l3,e3,g3,f3,nn3,t3⟩:=xW g2 f2 nn1' nn2 (by omega)
  have lk:=uX (rs++q1++q2) n1 n2 (by simp;omega)
  rw [e3] at lk
  obtain⟨n3,hn3⟩:∃n3,n3=(oK (rs++q1++q2) n1 n2).2:=⟨_,rfl⟩
  rw [←hn3] at lk nn3 t3
  have e4:rs++q1++q2++q3=rs++(q1++q2++q3):=by simp
  rw [e4] at lk g3 f3 nn3 t3
  obtain⟨q4,n4,e5,g4,f4,⟨x4,hx4,l4,z4,wx4,pr4⟩,nn4,t4⟩:=Ef rs (q1++q2++q3) g f g3 f3 (by simp;omega) hl a ha y (by omega)
  subst hx4
  have nn3' :fV (rs++(q1++q2++q3++x4)) n3:=by rw [←aK];exact nn3.app _
  have t3' :gQ (rs++(q1++q2++q3++x4)) n3=nj (z-s) ((texts rs).getD a [])++(aD w ((texts rs).getD a [])).flatten:=by rw [←aK,qW nn3,t3,t1',t2]
  have ll3:lJ (rs++(q1++q2++q3++x4)) n3=(z-s)+w*z:=by rw [←mZ,t3',aA,xT (by omega),qC,tl]
  have ll4:lJ (rs++(q1++q2++q3++x4)) n4=y:=by rw [←mZ,t4,aW,tl];omega
  obtain⟨q5,l5,e6,g5,f5,nn5,t5⟩:=xW g4 f4 nn3' nn4 (by omega)
  have lk2:=uX (rs++(q1++q2++q3++x4)) n3 n4 (by simp;omega)
  rw [e6] at lk2
  refine⟨q1++q2++q3++x4++q5,(oK (rs++(q1++q2++q3++x4)) n3 n4).2,run _ (pre _ ?_),by rw [←aK];exact g5,by rw [←aK];exact f5,⟨by simp;omega,fun hz2=>by
   have dz:∀m,e=m*z→x4.length=0:=fun m zz=>z4 (.inl (by
    have e9:e-z=z*(m-1):=by
     rw [zz,Nat.mul_sub,Nat.mul_one,bY]
    rw [hy,e9]
    exact Nat.mul_mod_right _ _))
   have t3:=Cu e3
   have t5:=Cu e6
   have t1:=Ey q1
   have t2:=Ey q2
   have t4:=Ey x4
   simp only [aA,Ja]
   have w3:w≤c:=by rw [hw];exact Nat.div_le_of_le_mul (by omega)
   have w4:=Jg e2
   have w5:=ok.2.1
   have p2:xG q2≤c:=by omega
   rw [←hz] at pr4
   have noX:x4.length=0→xG (q1++q2++q3++x4++q5)≤(sizes rs).getD k 0:=fun e0=>by
    have e1:x4=[]:=dJ.mp e0
    have h:=Nat.mul_le_mul q1p p2
    rw [mG,mG,mG,mG,BP t3,BP t5,e1,sz]
    simp only [xG,Nat.mul_one]
    exact h
   rcases hz2 with q|q|⟨c',m,_,q⟩
   ·have e0:=q1z q
    have e1:q1=[]:=dJ.mp e0
    have h:=Nat.mul_le_mul p2 pr4
    refine⟨by omega,by omega,?_⟩
    rw [mG,mG,mG,mG,BP t3,BP t5,e1,sz,bY z c]
    simp only [xG,Nat.mul_one,Nat.one_mul]
    exact h
   ·have e0:=dz c (by rw [q,sz,bY])
    exact⟨by omega,by omega,noX e0⟩
   ·have e0:=dz m (by rw [q,hz])
    exact⟨by omega,by omega,noX e0⟩⟩,by rw [←aK];exact nn5,?_⟩
  ·refine fK (ρ' :=[.own (fL (rs++q1)), .dat (fJ (sizes rs)), .dat (fG (.times a c)), .dat (.int (s:Int)), .dat (.int (e:Int)), .dat (.int (a:Int)), .dat (.int (z:Int)), .dat (eX n1)]) (by simp! only [fG,gh,tj]) ?_
   have ex1:=adt (i:=0) (g:=u6) (ms:=[(dZ 5),(eG jB (eG mW (dZ 4) (dZ 6)) (dZ 6))]) (ds:=[eX (some a), .int (w:Int)]) (ρ:=[.own (fL (rs++q1)), .dat (fJ (sizes rs)), .dat (fG (.times a c)), .dat (.int (s:Int)), .dat (.int (e:Int)), .dat (.int (a:Int)), .dat (.int (z:Int)), .dat (eX n1)]) rfl (by simp! only [m7,sub,dd,eX]) ov rfl
   have ex2:=ac1 (i:=0) (g:=jU) (m:=dZ 7) (ρ:=[.own (fL (rs++q1)), .dat (fJ (sizes rs)), .dat (fG (.times a c)), .dat (.int (s:Int)), .dat (.int (e:Int)), .dat (.int (a:Int)), .dat (.int (z:Int)), .dat (eX n1)]) rfl rfl ex1 rfl lk rfl
   refine fK (ρ' :=[.own (fL (rs++(q1++q2++q3))), .dat (fJ (sizes rs)), .dat (fG (.times a c)), .dat (.int (s:Int)), .dat (.int (e:Int)), .dat (.int (a:Int)), .dat (.int (z:Int)), .dat (eX n3)]) (by simp only [nU,ex2];rfl) ?_
   have ex3:=adt (i:=0) (g:=mH) (ms:=[(dZ 1),(dZ 5),(eG iK (eG mW (dZ 4) (dZ 6)) (dZ 6))]) (ρ:=[.own (fL (rs++(q1++q2++q3))), .dat (fJ (sizes rs)), .dat (fG (.times a c)), .dat (.int (s:Int)), .dat (.int (e:Int)), .dat (.int (a:Int)), .dat (.int (z:Int)), .dat (eX n3)]) rfl (by simp! only [m7,sub,dm]) e5 rfl
   have ex4:=ac1 (i:=0) (g:=jU) (m:=dZ 7) (ρ:=[.own (fL (rs++(q1++q2++q3))), .dat (fJ (sizes rs)), .dat (fG (.times a c)), .dat (.int (s:Int)), .dat (.int (e:Int)), .dat (.int (a:Int)), .dat (.int (z:Int)), .dat (eX n3)]) rfl rfl ex3 rfl lk2 rfl
   refine⟨_,by simp only [vY,ex4];rfl,?_⟩
   show bM _=bM _
   simp only [aK]
  ·have c1:=ok.2.1
   have ec:c=1+(c-1):=by omega
   have hcz:z*c=z+(c-1)*z:=by
    conv=>lhs;rw [ec]
    rw [Nat.mul_add,Nat.mul_one,bY z (c-1)]
   rw [←aK,t5,t3',t4,tx]
   conv=>rhs;rw [ec,Hv]
   have e7:(aD 1 ((texts rs).getD a [])).flatten=(texts rs).getD a []:=by simp
   rw [e7,G7 (by omega) (by omega),tl,abg _ (by omega) _ _ (by rw [tl];omega),tl,←hw,←hy,aK]
end Sb
namespace Sb
open PySem PySem.Spec L2 Evl DL
theorem afr(rs:List Rule)(g:Good rs)(f:Fits MOST rs)(hl:rs.length≤200000)(n:Option Nat)(hn:fV rs n)(s e:Nat)(hse:s≤e)(he:e≤lJ rs n):
 ∃qs n',Dz [eZ rs,eX n, .int (s:Int), .int (e:Int)]= .ok (.tuple [eZ (rs++qs),eX n'])∧Good (rs++qs)∧Fits MOST (rs++qs)∧qs.length≤4*rs.length+4∧fV (rs++qs) n' ∧gQ (rs++qs) n' =stretch (gQ rs n) s e∧∀k,n=some k→qs.length≤4*k+4∧(s=0∨e=lJ rs n→qs.length≤2*k+4∧tN qs≤k∧xG qs≤lJ rs n):=by
 have ln:=vG rs g f (by omega) n hn
 have mm:MOST<10 ^ 300:=by decide
 have nb:=Ua f n
 have c1:(0:Int)≤(s:Int):=by omega
 have c2:(s:Int)≤(e:Int):=by omega
 have c3:(e:Int)≤((lJ rs n:Nat):Int):=by omega
 have bt:mK [eZ rs]= .ok (eZ rs):=rfl
 have le:=yS rs g f (by omega)
 have run:Rt (R8 [.dat (eZ rs), .dat (eX n), .dat (.int (s:Int)), .dat (.int (e:Int)), .un, .un, .un, .un, .un]) (fun d=>∃qs n',d= .tuple [eZ (rs++qs),eX n']∧Good (rs++qs)∧Fits MOST (rs++qs)∧qs.length≤4*rs.length+4∧fV (rs++qs) n' ∧gQ (rs++qs) n' =stretch (gQ rs n) s e∧∀k,n=some k→qs.length≤4*k+4∧(s=0∨e=lJ rs n→qs.length≤2*k+4∧tN qs≤k∧xG qs≤lJ rs n)):=by
  unfold R8
  refine fK (ρ' :=[.dat (eZ rs), .dat (eX n), .dat (.int (s:Int)), .dat (.int (e:Int)), .dat (.int ((lJ rs n:Nat):Int)), .un, .un, .un, .un]) (by simp! only [ln]) ?_
  refine fK (ρ' :=[.dat (eZ rs), .dat (eX n), .dat (.int (s:Int)), .dat (.int (e:Int)), .dat (.int ((lJ rs n:Nat):Int)), .un, .un, .un, .un]) (by simp! only [oO,c1,c2,c3]) ?_
  by_cases hz:s=e
  ·have hz' :decide ((s:Int)=(e:Int))=true:=decide_eq_true (by omega)
   refine mQ (Ad (by simp! only [hz']) (iI (d:= .tuple [eZ rs, .none]) (by simp! only [bt]) ⟨[],none,by rw [aR];rfl,by rw [aR];exact g,by rw [aR];exact f,by simp,fV.none,?_⟩))
   subst hz
   exact⟨by simp [gQ,stretch],fun k hk=>⟨by simp,fun _=>⟨by simp,cQ _,by subst hk;exact Pos.get g (hn k rfl)⟩⟩⟩
  have hz' :¬(s:Int)=(e:Int):=by omega
  refine fK (ρ' :=[.dat (eZ rs), .dat (eX n), .dat (.int (s:Int)), .dat (.int (e:Int)), .dat (.int ((lJ rs n:Nat):Int)), .un, .un, .un, .un]) (by simp! only [hz']) ?_
  refine fK (ρ' :=[.dat (eZ rs), .dat (eX n), .dat (.int (s:Int)), .dat (.int (e:Int)), .dat (.int ((lJ rs n:Nat):Int)), .dat (fJ (sizes rs)), .un, .un, .un]) (by simp! only [tO,le,Pg]) ?_
  cases n with
  |none=>
   exfalso
   simp only [lJ] at he
   omega
  |some k0=>
   have hk0:=hn k0 rfl
   obtain⟨T,hT⟩:∃T,T=stretch (gQ rs (some k0)) s e:=⟨_,rfl⟩
   rw [←hT]
   obtain⟨s0,hs0⟩:∃s0,s0=s:=⟨_,rfl⟩
   obtain⟨e0,he0⟩:∃e0,e0=e:=⟨_,rfl⟩
   have goalE:(fun d=>∃qs n',d=bM [eZ (rs++qs),eX n']∧Good (rs++qs)∧Fits MOST (rs++qs)∧qs.length≤4*rs.length+4∧fV (rs++qs) n' ∧gQ (rs++qs) n' =T∧∀k,some k0=some k→qs.length≤4*k+4∧(s=0∨e=lJ rs (some k0)→qs.length≤2*k+4∧tN qs≤k∧xG qs≤lJ rs (some k0)))=(fun d=>∃qs n',d=bM [eZ (rs++qs),eX n']∧Good (rs++qs)∧Fits MOST (rs++qs)∧qs.length≤4*rs.length+4∧fV (rs++qs) n' ∧gQ (rs++qs) n' =T∧qs.length≤4*k0+4∧(s0=0∨e0=lJ rs (some k0)→qs.length≤2*k0+4∧tN qs≤k0∧xG qs≤lJ rs (some k0))):=by
    funext d
    simp only [hs0,he0,Option.some.injEq,forall_eq']
   rw [goalE]
   have ixs:∀a:Nat,a<rs.length→fX (fJ (sizes rs)) (.int (a:Int))= .ok (.int (((sizes rs).getD a 0:Nat):Int)):=fun a h=>jD (by rw [j6];exact h)
   refine aiD (ac7 (N:=fun ρ=>∃(k:Nat) (d2 d3 k4 k6:Sl),ρ=[.dat (eZ rs), .dat (.int (k:Int)),d2,d3,k4, .dat (fJ (sizes rs)),k6, .un, .un]∧k<rs.length∧(texts rs).getD k []=T)
    (fun k ρ=>∃(s e:Nat) (k4 k6:Sl),ρ=[.dat (eZ rs), .dat (.int (k:Int)), .dat (.int (s:Int)), .dat (.int (e:Int)),k4, .dat (fJ (sizes rs)),k6, .un, .un]∧k<rs.length∧s<e∧e≤(sizes rs).getD k 0∧stretch ((texts rs).getD k []) s e=T∧k≤k0∧(s0=0→s=0)∧(e0=lJ rs (some k0)→e=(sizes rs).getD k 0)∧(sizes rs).getD k 0≤(sizes rs).getD k0 0) k0 (by omega) ⟨s,e,_,_,rfl,hk0,by omega,he,hT.symm,bD _,fun z=>by omega,fun z=>by rw [←he0,z];rfl,bD _⟩ ?_) ?_
   ·rintro k ρ ⟨s,e,k4,k6,rfl,hk,h1,h2,ht,kk,iS,iE,iZ⟩
    have hr:rs[k]? =some rs[k]:=by simp [hk]
    obtain⟨r,er⟩:∃r,r=rs[k]:=⟨_,rfl⟩
    rw [←er] at hr
    have ix:=sW hr
    have ok:=g k r hr
    have tx:=rD g hr
    have sz:=u9 g hr
    have kb:=f.get k
    have over:∀(a s1 e1:Nat),((∃b,r= .join a b)∨∃c,r= .times a c)→s1<(sizes rs).getD a 0→(sizes rs).getD a 0<e1→e1≤(sizes rs).getD k 0→stretch ((texts rs).getD k []) s1 e1=T→(s0=0→s1=0)→(e0=lJ rs (some k0)→e1=(sizes rs).getD k 0∨∃c m,r= .times a c∧e1=m*(sizes rs).getD a 0)→∀k4:Sl,
     Rt (fH (j7 7 (fu qd [(dZ 0)])) (fH (nU 8 (jg 7 xR [(dZ 5),(dZ 6),(dZ 2),(dZ 3)])) (gG (jc [(fu mK [(gR 7)]),(dZ 8)]))) [.dat (eZ rs), .dat (.int (k:Int)), .dat (.int (s1:Int)), .dat (.int (e1:Int)),k4, .dat (fJ (sizes rs)), .dat (fG r), .un, .un]) (fun d=>∃qs n',d= .tuple [eZ (rs++qs),eX n']∧Good (rs++qs)∧Fits MOST (rs++qs)∧qs.length≤4*rs.length+4∧fV (rs++qs) n' ∧gQ (rs++qs) n' =T∧qs.length≤4*k0+4∧(s0=0∨e0=lJ rs (some k0)→qs.length≤2*k0+4∧tN qs≤k0∧xG qs≤lJ rs (some k0))):=fun a s1 e1 hra p1 p2 p3 p4 p5 p6 k4=>by
     obtain⟨qs,n',ac,g2,f2,⟨l2,l2z⟩,n2,t2⟩:=abC rs g f hl k r hr a hra s1 e1 p1 p2 p3
     have ls:qd [eZ rs]= .ok (fL rs):=rfl
     have bt2:mK [fL (rs++qs)]= .ok (eZ (rs++qs)):=rfl
     refine fK (ρ' :=[.dat (eZ rs), .dat (.int (k:Int)), .dat (.int (s1:Int)), .dat (.int (e1:Int)),k4, .dat (fJ (sizes rs)), .dat (fG r), .own (fL rs), .un]) (by simp! only [ls]) ?_
     have ex:=adt (i:=7) (g:=xR) (ms:=[(dZ 5),(dZ 6),(dZ 2),(dZ 3)]) (ρ:=[.dat (eZ rs), .dat (.int (k:Int)), .dat (.int (s1:Int)), .dat (.int (e1:Int)),k4, .dat (fJ (sizes rs)), .dat (fG r), .own (fL rs), .un]) rfl (by simp! only [m7]) ac rfl
     refine fK (ρ' :=[.dat (eZ rs), .dat (.int (k:Int)), .dat (.int (s1:Int)), .dat (.int (e1:Int)),k4, .dat (fJ (sizes rs)), .dat (fG r), .own (fL (rs++qs)), .dat (eX n')]) (by simp only [nU,ex];rfl) ?_
     exact iI (by simp! only [bt2]) ⟨qs,n',rfl,g2,f2,by omega,n2,by rw [t2,p4],by omega,fun hz=>by
      have:=l2z (hz.elim (fun z=> .inl (p5 z)) fun z=> .inr (p6 z))
      exact⟨by omega,by omega,bJ this.2.2 iZ⟩⟩
    cases r with
    |sign c=>
     left
     refine⟨by simp! only [ix,fG,gh],k,_,_,_,_,rfl,hk,?_⟩
     simp only [Rule.size] at sz
     have e0:s=0:=by omega
     have e1:e=1:=by omega
     subst e0 e1
     rw [←ht,tx]
     rfl
    |join a b=>
     right
     have ha:a<rs.length:=by have:=ok.1;omega
     have hb:b<rs.length:=by have:=ok.2;omega
     have ixa:=ixs a ha
     have tl:((texts rs).getD a []).length=(sizes rs).getD a 0:=gU rs a
     simp only [Rule.size] at sz
     simp only [Rule.tx] at tx
     obtain⟨z,hzz⟩:∃z,z=(sizes rs).getD a 0:=⟨_,rfl⟩
     refine⟨by simp! only [ix,fG,gh,js],?_⟩
     refine Il (ρ' :=[.dat (eZ rs), .dat (.int (k:Int)), .dat (.int (s:Int)), .dat (.int (e:Int)),k4, .dat (fJ (sizes rs)), .dat (fG (.join a b)), .un, .un]) (by simp! only [ix]) ?_
     rw [←hzz] at ixa sz tl
     refine Il (ρ' :=[.dat (eZ rs), .dat (.int (k:Int)), .dat (.int (s:Int)), .dat (.int (e:Int)), .dat (.int (z:Int)), .dat (fJ (sizes rs)), .dat (fG (.join a b)), .un, .un]) (by simp! only [fG,gA,ixa]) ?_
     refine Il (ρ' :=[.dat (eZ rs), .dat (.int (k:Int)), .dat (.int (s:Int)), .dat (.int (e:Int)), .dat (.int (z:Int)), .dat (fJ (sizes rs)), .dat (fG (.join a b)), .un, .un]) (by simp! only [fG,gh,jt]) ?_
     by_cases h3:z≤s
     ·refine agU (by simp! only [show(z:Int)≤(s:Int) by omega]) (acg ?_)
      refine ig (ρ' :=[.dat (eZ rs), .dat (.int (k:Int)), .dat (.int ((s-z:Nat):Int)), .dat (.int (e:Int)), .dat (.int (z:Int)), .dat (fJ (sizes rs)), .dat (fG (.join a b)), .un, .un]) (by simp! only [show(s:Int)-(z:Int)=((s-z:Nat):Int) by omega]) ?_
      refine ig (ρ' :=[.dat (eZ rs), .dat (.int (k:Int)), .dat (.int ((s-z:Nat):Int)), .dat (.int ((e-z:Nat):Int)), .dat (.int (z:Int)), .dat (fJ (sizes rs)), .dat (fG (.join a b)), .un, .un]) (by simp! only [show(e:Int)-(z:Int)=((e-z:Nat):Int) by omega]) ?_
      refine jn (ρ' :=[.dat (eZ rs), .dat (.int (b:Int)), .dat (.int ((s-z:Nat):Int)), .dat (.int ((e-z:Nat):Int)), .dat (.int (z:Int)), .dat (fJ (sizes rs)), .dat (fG (.join a b)), .un, .un]) (by simp! only [fG,jy]) ⟨b,ok.2,s-z,e-z,_,_,rfl,hb,by omega,by omega,?_,by have:=ok.2;omega,fun q=>by have:=iS q;omega,fun q=>by have:=iE q;omega,by omega⟩
      rw [←ht,tx,Ed (by omega) (by omega),tl]
     ·refine ae7 (by simp! only [show¬(z:Int)≤(s:Int) by omega]) ?_
      by_cases h4:e≤z
      ·refine agU (by simp! only [show(e:Int)≤(z:Int) by omega]) (acg (jn (ρ' :=[.dat (eZ rs), .dat (.int (a:Int)), .dat (.int (s:Int)), .dat (.int (e:Int)), .dat (.int (z:Int)), .dat (fJ (sizes rs)), .dat (fG (.join a b)), .un, .un]) (by simp! only [fG,gA]) ⟨a,ok.1,s,e,_,_,rfl,ha,h1,by omega,?_,by have:=ok.1;omega,iS,fun q=>by have:=iE q;have:=Pos.get g hb;omega,by omega⟩))
       rw [←ht,tx,yK (by omega)]
      ·exact ae7 (by simp! only [show¬(e:Int)≤(z:Int) by omega]) (agk (over a s e (.inl ⟨b,rfl⟩) (by omega) (by omega) h2 ht iS (fun q=> .inl (iE q)) _))
    |times a c=>
     right
     have ha:a<rs.length:=by have:=ok.1;omega
     have ixa:=ixs a ha
     have ap:=Pos.get g ha
     have tl:((texts rs).getD a []).length=(sizes rs).getD a 0:=gU rs a
     simp only [Rule.size] at sz
     simp only [Rule.tx] at tx
     obtain⟨z,hzz⟩:∃z,z=(sizes rs).getD a 0:=⟨_,rfl⟩
     have zb:=f.get a
     rw [←hzz] at ixa sz tl ap zb
     refine⟨by simp! only [ix,fG,gh,ts],?_⟩
     refine Il (ρ' :=[.dat (eZ rs), .dat (.int (k:Int)), .dat (.int (s:Int)), .dat (.int (e:Int)),k4, .dat (fJ (sizes rs)), .dat (fG (.times a c)), .un, .un]) (by simp! only [ix]) ?_
     refine Il (ρ' :=[.dat (eZ rs), .dat (.int (k:Int)), .dat (.int (s:Int)), .dat (.int (e:Int)), .dat (.int (z:Int)), .dat (fJ (sizes rs)), .dat (fG (.times a c)), .un, .un]) (by simp! only [fG,gA,ixa]) ?_
     obtain⟨w,hw⟩:∃w,w=s/z:=⟨_,rfl⟩
     obtain⟨y,hy⟩:∃y,y=s%z:=⟨_,rfl⟩
     have dv:=Nat.div_add_mod s z
     have y2:s%z<z:=Nat.mod_lt _ ap
     have w2:s/z≤s:=Nat.div_le_self _ _
     have wc:s/z<c:=(Nat.div_lt_iff_lt_mul ap).mpr (by rw [bY,←sz];omega)
     rw [←hw,←hy] at dv
     rw [←hy] at y2
     rw [←hw] at w2 wc
     have dd:jB (.int (s:Int)) (.int (z:Int))= .ok (.int (w:Int)):=by
      rw [lC (by omega) (by omega),hw]
      simp
     have dm:iK (.int (s:Int)) (.int (z:Int))= .ok (.int (y:Int)):=by
      rw [iy (by omega),hy]
      simp
     have mu:lQ (.int (w:Int)) (.int (z:Int))= .ok (.int ((w*z:Nat):Int)):=by
      rw [qZ (by omega) (by omega) (by omega) (by omega)]
      simp
     rw [bY] at dv
     have su:(e:Int)-((w*z:Nat):Int)=((e-w*z:Nat):Int):=by omega
     refine Il (ρ' :=[.dat (eZ rs), .dat (.int (k:Int)), .dat (.int (y:Int)), .dat (.int ((e-w*z:Nat):Int)), .dat (.int (z:Int)), .dat (fJ (sizes rs)), .dat (fG (.times a c)), .un, .un]) (by simp! only [fG,gh,dd,mu,su,dm]) ?_
     have hT1:stretch (aD (c-w) ((texts rs).getD a [])).flatten y (e-w*z)=T:=by
      rw [←ht,tx,W6 _ c s e (by rw [tl,bY,←sz];omega) (by omega) (by omega),tl,←hw,←hy]
     have cz:z*c=w*z+(c-w)*z:=by
      rw [←Nat.add_mul,bY]
      congr 1
      omega
     have iS' :s0=0→y=0:=fun q=>by rw [hy,iS q];exact Nat.zero_mod _
     have iE' :e0=lJ rs (some k0)→e-w*z=(c-w)*z:=fun q=>by have:=iE q;omega
     refine ae7 (by simp! only [show¬(z:Int)≤(y:Int) by omega]) ?_
     by_cases h4:e-w*z≤z
     ·refine agU (by simp! only [show((e-w*z:Nat):Int)≤(z:Int) by omega]) (acg (jn (ρ' :=[.dat (eZ rs), .dat (.int (a:Int)), .dat (.int (y:Int)), .dat (.int ((e-w*z:Nat):Int)), .dat (.int (z:Int)), .dat (fJ (sizes rs)), .dat (fG (.times a c)), .un, .un]) (by simp! only [fG,gA]) ⟨a,ok.1,y,e-w*z,_,_,rfl,ha,by omega,by omega,?_,by have:=ok.1;omega,iS',fun q=>by
       have h5:=iE' q
       have h6:1*z≤(c-w)*z:=Nat.mul_le_mul_right z (by omega)
       rw [Nat.one_mul] at h6
       omega,by
       have h7:z≤z*c:=Nat.le_mul_of_pos_right z (by have:=ok.2.1;omega)
       omega⟩))
      rw [←hT1,show c-w=1+(c-w-1) by omega,Hv]
      have e7:(aD 1 ((texts rs).getD a [])).flatten=(texts rs).getD a []:=by simp
      rw [e7,yK (by omega)]
     ·refine ae7 (by simp! only [show¬((e-w*z:Nat):Int)≤(z:Int) by omega]) (agk (over a y (e-w*z) (.inr ⟨c,rfl⟩) (by omega) (by omega) (by omega) ?_ iS' (fun q=> .inr ⟨c,c-w,rfl,by rw [iE' q,hzz]⟩) _))
      rw [←hT1,tx,Ym _ c (c-w) (by omega),yK (by rw [qC,tl];omega)]
   ·rintro ρ ⟨k,d2,d3,k4,k6,rfl,hk,ht⟩
    exact iI (d:= .tuple [eZ rs, .int (k:Int)]) (by simp! only [bt]) ⟨[],some k,by rw [aR];rfl,by rw [aR];exact g,by rw [aR];exact f,by simp,fV.some (by simp;omega),by rw [aR];exact ht,by simp,fun _=>⟨by simp,cQ _,Pos.get g hk0⟩⟩
 obtain⟨d,hd,qs,n',rfl,h⟩:=yI (ks:=[.dat, .dat, .dat, .dat]) (n:=5) (m:=R8) (ds:=[eZ rs,eX n, .int (s:Int), .int (e:Int)]) run
 exact⟨qs,n',hd,h⟩
theorem ae5(rs:List Rule)(g:Good rs)(f:Fits MOST rs)(hl:rs.length≤200000)(n:Option Nat)(hn:fV rs n)(s e:Nat)(hse:s≤e)(he:e≤lJ rs n):
 ∃qs n',Dz [eZ rs,eX n, .int (s:Int), .int (e:Int)]= .ok (.tuple [eZ (rs++qs),eX n'])∧Good (rs++qs)∧Fits MOST (rs++qs)∧qs.length≤4*rs.length+4∧fV (rs++qs) n' ∧gQ (rs++qs) n' =stretch (gQ rs n) s e∧∀k,n=some k→qs.length≤4*k+4∧(s=0∨e=lJ rs n→qs.length≤2*k+4):=by
 obtain⟨qs,n',h1,h2,h3,h4,h5,h6,h7⟩:=afr rs g f hl n hn s e hse he
 exact⟨qs,n',h1,h2,h3,h4,h5,h6,fun k hk=>⟨(h7 k hk).1,fun q=>((h7 k hk).2 q).1⟩⟩
end Sb
namespace Sb
open PySem PySem.Spec L2 Evl DL
def Qy:Rule→List Key
 | .sign c=>[.inr SIGN, .inr (s1 c)]
 | .join a b=>[.inr JOIN, .inl (a:Int), .inl (b:Int)]
 | .times a n=>[.inr TIMES, .inl (a:Int), .inl (n:Int)]
theorem Zt(r:Rule):bM ((Qy r).map keyD)=fG r:=by cases r<;>rfl
theorem sU(r:Rule):xj (fG r)=some (Qy r):=by cases r<;>rfl
theorem Yk{r q:Rule}(h:Qy r=Qy q):r=q:=Iu (by rw [←Zt,←Zt,h])
def mV(qs:List Rule):List (D×D):=qs.zipIdx.map fun p=>(fG p.1,aH ((p.2:Nat):Int))
theorem Ih(qs:List Rule)(r:Rule):mV (qs++[r])=mV qs++[(fG r,aH ((qs.length:Nat):Int))]:=by
 unfold mV
 rw [List.zipIdx_append,cR]
 simp
theorem adf(qs:List Rule):(mV qs).length=qs.length:=by simp [mV]
theorem adh(r:Rule):∀qs:List Rule,(mV qs).any (fun q=>decide (xj q.1=some (Qy r)))=decide (r∈qs):=by
 refine snocInd (by simp [mV]) fun qs q ih=> ?_
 rw [Ih,List.any_append,ih]
 by_cases e:q=r
 ·subst e
  simp [sU]
 ·have k0:¬(xj (fG q)=some (Qy r)):=fun z=>e (Yk (by rw [sU] at z;exact Option.some.inj z))
  have e' :¬r=q:=fun z=>e z.symm
  simp [k0,e']
theorem Jp(r:Rule):∀qs:List Rule,(∀x:Nat,¬r∈qs→wQ (mV qs) (Qy r)=none)∧(∀x:Nat,qs.Nodup→qs[x]? =some r→wQ (mV qs) (Qy r)=some (.int ((x:Nat):Int))):=by
 refine snocInd ⟨fun _ _=>rfl,fun x _ h=>by simp at h⟩ fun qs q ih=> ?_
 unfold wQ at ih⊢
 rw [Ih,List.find?_append]
 constructor
 ·intro x h
  have h1:¬r∈qs:=fun z=>h (by simp [z])
  have e:¬q=r:=fun z=>h (by simp [z])
  have k0:¬(xj (fG q)=some (Qy r)):=fun z=>e (Yk (by rw [sU] at z;exact Option.some.inj z))
  have:=ih.1 0 h1
  rw [Option.map_eq_none_iff] at this
  rw [this]
  simp [k0]
 ·intro x nd h
  rw [cI] at nd
  by_cases hx:x<qs.length
  ·rw [aP hx] at h
   have:=ih.2 x nd.1 h
   rw [aJ] at this
   obtain⟨p,hp,e⟩:=this
   rw [hp]
   simp [e]
  ·have hl:=(au.mp h).1
   have ex:x=qs.length:=by simp at hl;omega
   subst ex
   have eq:q=r:=by simpa using h
   subst eq
   have h1:¬q∈qs:=fun z=>nd.2.2 q z q (by simp) rfl
   have:=ih.1 0 h1
   rw [Option.map_eq_none_iff] at this
   rw [this]
   simp [sU]
theorem afu(qs:List Rule)(r:Rule)(nd:qs.Nodup):Xk true (fG r) (tD (mV qs))= .ok (.bool (decide (¬r∈qs))):=by
 simp only [Xk,sU]
 congr 2
 by_cases h:r∈qs
 ·obtain⟨x,hx,e⟩:=List.getElem_of_mem h
  rw [(Jp r qs).2 x nd (by simp [hx,e])]
  simp [h]
 ·rw [(Jp r qs).1 0 h]
  simp [h]
theorem Xe(qs:List Rule)(r:Rule)(nd:qs.Nodup)(x:Nat)(hx:qs[x]? =some r):Ce (tD (mV qs)) (fG r)= .ok (.int ((x:Nat):Int)):=by
 simp only [Ce,sU,(Jp r qs).2 x nd hx]
theorem ZS(qs:List Rule)(r:Rule)(h:¬r∈qs):Ph (mV qs) (Qy r) (.int ((qs.length:Nat):Int))=mV (qs++[r]):=by
 unfold Ph
 rw [adh,if_neg (by simp [h]),Zt,Ih]
theorem Zg{r:Rule}{f f' :Nat→Nat}(h:∀a∈r.parts,f a=f' a):r.qI f=r.qI f' :=by
 cases r with
 |sign c=>rfl
 |join a b=>rw [Rule.qI,Rule.qI,h a (by simp [Rule.parts]),h b (by simp [Rule.parts])]
 |times a n=>rw [Rule.qI,Rule.qI,h a (by simp [Rule.parts])]
theorem aez{r:Rule}{f:Nat→Nat}{ts ts' :List (List Nat)}(h:∀a∈r.parts,ts'.getD (f a) []=ts.getD a []):(r.qI f).tx ts' =r.tx ts:=by
 cases r with
 |sign c=>rfl
 |join a b=>simp only [Rule.qI,Rule.tx,h a (by simp [Rule.parts]),h b (by simp [Rule.parts])]
 |times a n=>simp only [Rule.qI,Rule.tx,h a (by simp [Rule.parts])]
theorem afx{r:Rule}{f:Nat→Nat}{i n:Nat}(ok:r.ok i)(h:∀a∈r.parts,f a<n):(r.qI f).ok n:=by
 cases r with
 |sign c=>exact ok
 |join a b=>exact⟨h a (by simp [Rule.parts]),h b (by simp [Rule.parts])⟩
 |times a m=>exact⟨h a (by simp [Rule.parts]),ok.2⟩
structure Td(rs:List Rule)(ks:List Nat)(qs:List Rule)(f:Nat→Nat):Prop where
 g:Good qs
 fits:Fits MOST qs
 nd:qs.Nodup
 len:qs.length≤ks.length
 lt:∀i∈ks,f i<qs.length
 tx:∀i∈ks,(texts qs).getD (f i) []=(texts rs).getD i []
 row:∀i∈ks,∀r,rs[i]? =some r→qs[f i]? =some (r.qI f)
 hit:∀x,x<qs.length→∃i∈ks,f i=x
theorem Td.step{rs:List Rule}(g:Good rs)(fr:Fits MOST rs){ks:List Nat}{qs:List Rule}{f:Nat→Nat}(h:Td rs ks qs f){i:Nat}{r:Rule}(hr:rs[i]? =some r)(hp:∀a∈r.parts,a∈ks)(hc:∀j∈ks,∀q,rs[j]? =some q→∀a∈q.parts,a∈ks)(hi:¬i∈ks):
 (∀x,qs[x]? =some (r.qI f)→Td rs (ks++[i]) qs (fun y=>if y=i then x else f y))∧(¬r.qI f∈qs→Td rs (ks++[i]) (qs++[r.qI f]) (fun y=>if y=i then qs.length else f y)):=by
 have ok:=g i r hr
 have okr:(r.qI f).ok qs.length:=afx ok fun a ha=>h.lt a (hp a ha)
 have txr:(r.qI f).tx (texts qs)=(texts rs).getD i []:=by
  rw [rD g hr]
  exact aez fun a ha=>h.tx a (hp a ha)
 have ne:∀a∈ks,¬a=i:=fun a ha z=>hi (by rw [←z];exact ha)
 have agree:∀(x:Nat) (q:Rule),(∀a∈q.parts,a∈ks)→q.qI (fun y=>if y=i then x else f y)=q.qI f:=fun x q hq=>Zg fun a ha=>by
  show(if a=i then x else f a)=f a
  rw [if_neg (ne a (hq a ha))]
 constructor
 ·intro x hx
  have hxl:=(au.mp hx).1
  refine⟨h.g,h.fits,h.nd,by have:=h.len;simp;omega,fun j hj=> ?_,fun j hj=> ?_,fun j hj q hq=> ?_,fun y hy=> ?_⟩
  ·rcases aU.mp hj with hj|hj
   ·show(if j=i then x else f j)<_
    rw [if_neg (ne j hj)]
    exact h.lt j hj
   ·rw [aM.mp hj]
    show(if i=i then x else f i)<_
    rw [if_pos rfl]
    exact hxl
  ·rcases aU.mp hj with hj|hj
   ·show(texts qs).getD (if j=i then x else f j) []=_
    rw [if_neg (ne j hj)]
    exact h.tx j hj
   ·rw [aM.mp hj]
    show(texts qs).getD (if i=i then x else f i) []=_
    rw [if_pos rfl,rD h.g hx,txr]
  ·rcases aU.mp hj with hj|hj
   ·show qs[(if j=i then x else f j)]? =_
    rw [if_neg (ne j hj),agree x q (hc j hj q hq)]
    exact h.row j hj q hq
   ·have ej:=aM.mp hj
    subst ej
    rw [hr] at hq
    cases hq
    show qs[(if j=j then x else f j)]? =_
    rw [if_pos rfl,agree x r hp]
    exact hx
  ·obtain⟨j,hj,e⟩:=h.hit y hy
   exact⟨j,bW _ hj,by show(if j=i then x else f j)=y;rw [if_neg (ne j hj)];exact e⟩
 ·intro hn
  have gq:Good (qs++[r.qI f]):=h.g.snoc okr
  have sz:(r.qI f).size (sizes qs)≤MOST:=by
   have:=vI qs (r.qI f)
   rw [←this,←gU,lZ,txr,gU]
   exact fr.get i
  refine⟨gq,h.fits.snoc sz,?_,by have:=h.len;simp;omega,fun j hj=> ?_,fun j hj=> ?_,fun j hj q hq=> ?_,fun y hy=> ?_⟩
  ·rw [cI]
   exact⟨h.nd,by simp,fun a ha b hb=>by
    rw [aM.mp hb]
    intro z
    rw [z] at ha
    exact hn ha⟩
  ·rcases aU.mp hj with hj|hj
   ·show(if j=i then qs.length else f j)<_
    rw [if_neg (ne j hj)]
    have:=h.lt j hj
    simp
    omega
   ·rw [aM.mp hj]
    show(if i=i then qs.length else f i)<_
    rw [if_pos rfl]
    simp
  ·rcases aU.mp hj with hj|hj
   ·show(texts (qs++[r.qI f])).getD (if j=i then qs.length else f j) []=_
    rw [if_neg (ne j hj),iH (h.lt j hj)]
    exact h.tx j hj
   ·rw [aM.mp hj]
    show(texts (qs++[r.qI f])).getD (if i=i then qs.length else f i) []=_
    rw [if_pos rfl,lZ,txr]
  ·rcases aU.mp hj with hj|hj
   ·show(qs++[r.qI f])[(if j=i then qs.length else f j)]? =_
    rw [if_neg (ne j hj),agree qs.length q (hc j hj q hq),aP (h.lt j hj)]
    exact h.row j hj q hq
   ·have ej:=aM.mp hj
    subst ej
    rw [hr] at hq
    cases hq
    show(qs++[r.qI f])[(if j=j then qs.length else f j)]? =_
    rw [if_pos rfl,agree qs.length r hp]
    simp
  ·rw [aA,cU] at hy
   by_cases e:y=qs.length
   ·exact⟨i,by simp,by show(if i=i then qs.length else f i)=y;rw [if_pos rfl,e]⟩
   ·obtain⟨j,hj,e2⟩:=h.hit y (by omega)
    exact⟨j,bW _ hj,by show(if j=i then qs.length else f j)=y;rw [if_neg (ne j hj)];exact e2⟩
theorem adn(f:Nat→Nat)(i x:Nat)(ks:List Nat):oJ (Ig (fun y=> .int ((f y:Nat):Int)) i (.int ((x:Nat):Int))) ks=oJ (fun y=> .int (((if y=i then x else f y:Nat):Nat):Int)) ks:=Ar fun j _=>by
 unfold Ig
 split
 ·rfl
 ·rfl
theorem abE(rs:List Rule)(g:Good rs)(f:Fits MOST rs)(hl:rs.length≤3000000)(n:Option Nat)(hn:fV rs n):∃ks qs fn,sJ rs n ks∧Td rs ks qs fn∧JT rs ks=(qs,fn)∧Im [eZ rs,eX n]= .ok (.tuple [eZ qs,eX (n.map fn)]):=by
 obtain⟨ks,ek,nk⟩:=Mq rs g hl n hn
 have nm:=Le rs n hn
 have kl:=nk.len
 obtain⟨L,hL⟩:∃L,L=eZ rs:=⟨_,rfl⟩
 obtain⟨N,hN⟩:∃N,N=eX n:=⟨_,rfl⟩
 have ixr:∀(a:Nat) r,rs[a]? =some r→fX L (.int (a:Int))= .ok (fG r):=fun a r h=>by rw [hL];exact sW h
 rw [←hL,←hN] at ek nm
 have loop:Nx (nD (iL (nA (fu nM [(dZ 0),(dZ 1)]))) (gN 5) (fH (gD 6 (fu lF [(eG fX (dZ 0) (dZ 5)),(gR 4)]))
 (fH (je (eG (Xk true) (dZ 6) (gR 3)) (Oi 3 (dZ 6) (jg 2 ug [(dZ 6)])) fU)
 (oM 4 (dZ 5) (eG Ce (gR 3) (dZ 6))))) [.dat (L), .dat (N), .own (fL []), .own (tD (mV [])), .own (.dict (oJ (fun y=> .int (((fun _=>0) y:Nat):Int)) (ks.take 0))), .un, .un]) fun ρ=>∃(qs:List Rule) (fn:Nat→Nat) (k5 k6:Sl),ρ=[.dat (L), .dat (N), .own (fL qs), .own (tD (mV qs)), .own (.dict (oJ (fun y=> .int ((fn y:Nat):Int)) (ks.take (ks.map fun(i:Nat)=>aH (i:Int)).length))),k5,k6]∧Td rs (ks.take (ks.map fun(i:Nat)=>aH (i:Int)).length) qs fn∧JT rs (ks.take (ks.map fun(i:Nat)=>aH (i:Int)).length)=(qs,fn):=by
  refine mD (ds:=ks.map fun(i:Nat)=>aH (i:Int)) (fun j ρ=>∃(qs:List Rule) (fn:Nat→Nat) (k5 k6:Sl),ρ=[.dat (L), .dat (N), .own (fL qs), .own (tD (mV qs)), .own (.dict (oJ (fun y=> .int ((fn y:Nat):Int)) (ks.take j))),k5,k6]∧Td rs (ks.take j) qs fn∧JT rs (ks.take j)=(qs,fn)) (T6 (jf rfl rfl ek)) ⟨[],fun _=>0,_,_,rfl,⟨Good.nil,fun n hn=>by simp [sizes,Ba] at hn, .nil,by simp,fun i hi=>by simp at hi,fun i hi=>by simp at hi,fun i hi=>by simp at hi,fun x hx=>by simp at hx⟩,rfl⟩ ?_
  rintro j d ρ hd ⟨qs,fn,k5,k6,rfl,td,tf⟩
  rw [aF,aJ] at hd
  obtain⟨i,h1,rfl⟩:=hd
  have him:i∈ks:=aX h1
  have hir:i<rs.length:=nk.lt i him
  have et:ks.take (j+1)=ks.take j++[i]:=by
   rw [bF,h1]
   rfl
  obtain⟨ahead,notin⟩:=Ik nk.rise h1
  have hr:rs[i]? =some rs[i]:=by simp [hir]
  obtain⟨r,er⟩:∃r,r=rs[i]:=⟨_,rfl⟩
  rw [←er] at hr
  have ok:=g i r hr
  have hp:∀a∈r.parts,a∈ks.take j:=fun a ha=>ahead a (nk.clo i him r hr a ha) (rG ok a ha)
  have hc:∀q∈ks.take j,∀p,rs[q]? =some p→∀a∈p.parts,a∈ks.take j:=fun q hq p hpq a ha=>by
   have hqk:q∈ks:=List.mem_of_mem_take hq
   have hqi:q<i:=by
    obtain⟨y,hy,e⟩:=List.mem_take_iff_getElem.mp hq
    have hj:=(au.mp h1).1
    have hij:ks[j]=i:=(au.mp h1).2
    have:=dD.mp nk.rise y j (by omega) hj (by omega)
    omega
   have:=rG (g q p hpq) a ha
   exact ahead a (nk.clo q hqk p hpq a ha) (by omega)
  obtain⟨st1,st2⟩:=td.step g f hr hp hc notin
  have tf1:∀x,qs[x]? =some (r.qI fn)→JT rs (ks.take j++[i])=(qs,fun y=>if y=i then x else fn y):=fun x hx=>by
   rw [Pk,tf]
   exact adD hr td.nd hx
  have tf2:¬r.qI fn∈qs→JT rs (ks.take j++[i])=(qs++[r.qI fn],fun y=>if y=i then qs.length else fn y):=fun hm=>by
   rw [Pk,tf]
   exact abU hr hm
  have tl:=td.len
  have tkl:(ks.take j).length≤3000000:=by rw [aW];omega
  have rn:=zu r i ok fn (.dict (oJ (fun y=> .int ((fn y:Nat):Int)) (ks.take j))) (fun a ha=>by
   rw [IV]
   simp only [jF,qJ,if_true,DL.keyOf,yW _ a _ (hp a ha)])
  obtain⟨q,hq⟩:∃q,q=r.qI fn:=⟨_,rfl⟩
  rw [←hq] at st1 st2 rn tf1 tf2
  have hz:∀F:Nat→D,(oJ F (ks.take j)).length<sizeLine:=fun F=>by rw [Pb];exact lO (by omega)
  refine⟨_,oR,?_⟩
  simp only [set_0,kZ]
  refine ig (ρ' :=[.dat (L), .dat (N), .own (fL qs), .own (tD (mV qs)), .own (.dict (oJ (fun y=> .int ((fn y:Nat):Int)) (ks.take j))), .dat (.int (i:Int)), .dat (fG q)]) (by simp! only [ixr i r hr,rn]) ?_
  have ki:=afu qs q td.nd
  rw [et]
  by_cases hin:q∈qs
  ·obtain⟨x,hx,ex⟩:=List.getElem_of_mem hin
   have hx2:qs[x]? =some q:=by simp [hx,ex]
   have kg:=Xe qs q td.nd x hx2
   rw [decide_eq_false (fun z=>z hin)] at ki
   refine ig (ρ' :=[.dat (L), .dat (N), .own (fL qs), .own (tD (mV qs)), .own (.dict (oJ (fun y=> .int ((fn y:Nat):Int)) (ks.take j))), .dat (.int (i:Int)), .dat (fG q)]) (by
    rw [tU (by simp only [j9,jQ,lu,wU,Ax,iV];exact ki)]
    rfl) ?_
   refine jn (ρ' :=[.dat (L), .dat (N), .own (fL qs), .own (tD (mV qs)), .own (.dict (oJ (fun y=> .int (((if y=i then x else fn y:Nat):Nat):Int)) (ks.take j++[i]))), .dat (.int (i:Int)), .dat (fG q)]) ?_ ⟨qs,_,_,_,rfl,st1 x hx2,tf1 x hx2⟩
   have ev:eG Ce (gR 3) (dZ 6) [.dat (L), .dat (N), .own (fL qs), .own (tD (mV qs)), .own (.dict (oJ (fun y=> .int ((fn y:Nat):Int)) (ks.take j))), .dat (.int (i:Int)), .dat (fG q)]= .ok (.int ((x:Nat):Int)):=by
    simp only [j9,jQ,lu,wU,Ax,iV]
    exact kg
   simp only [oM,ev,jQ,lu,aQ,aG,DL.keyOf,hz,if_true,qJ,Vg _ i _ _ notin,set_0,kZ]
   rw [adn]
  ·rw [decide_eq_true hin] at ki
   have pu:=M9 qs q (by omega)
   have nd2:=(st2 hin).nd
   have kg:=Xe (qs++[q]) q nd2 qs.length (by simp)
   have kz:(mV qs).length<sizeLine:=by rw [adf];exact lO (by omega)
   have ex:jg 2 ug [(dZ 6)] [.dat (L), .dat (N), .own (fL qs), .own (tD (mV qs)), .own (.dict (oJ (fun y=> .int ((fn y:Nat):Int)) (ks.take j))), .dat (.int (i:Int)), .dat (fG q)]= .ok (.int ((qs.length:Nat):Int)) [.dat (L), .dat (N), .own (fL (qs++[q])), .own (tD (mV qs)), .own (.dict (oJ (fun y=> .int ((fn y:Nat):Int)) (ks.take j))), .dat (.int (i:Int)), .dat (fG q)]:=by
    have ev:m7 [(dZ 6)] [.dat (L), .dat (N), .own (fL qs), .own (tD (mV qs)), .own (.dict (oJ (fun y=> .int ((fn y:Nat):Int)) (ks.take j))), .dat (.int (i:Int)), .dat (fG q)]= .ok [fG q]:=by simp! only [m7]
    simp only [jg,aG,aQ,ev,pu]
    rfl
   refine ig (ρ' :=[.dat (L), .dat (N), .own (fL (qs++[q])), .own (tD (mV (qs++[q]))), .own (.dict (oJ (fun y=> .int ((fn y:Nat):Int)) (ks.take j))), .dat (.int (i:Int)), .dat (fG q)]) (by
    rw [Du (by simp only [j9,jQ,lu,wU,Ax,iV];exact ki)]
    simp only [Oi,ex,jQ,lu,aQ,aG,sU,kz,if_true,ZS qs q hin,set_0,kZ]) ?_
   refine jn (ρ' :=[.dat (L), .dat (N), .own (fL (qs++[q])), .own (tD (mV (qs++[q]))), .own (.dict (oJ (fun y=> .int (((if y=i then qs.length else fn y:Nat):Nat):Int)) (ks.take j++[i]))), .dat (.int (i:Int)), .dat (fG q)]) ?_ ⟨qs++[q],_,_,_,rfl,st2 hin,tf2 hin⟩
   have ev:eG Ce (gR 3) (dZ 6) [.dat (L), .dat (N), .own (fL (qs++[q])), .own (tD (mV (qs++[q]))), .own (.dict (oJ (fun y=> .int ((fn y:Nat):Int)) (ks.take j))), .dat (.int (i:Int)), .dat (fG q)]= .ok (.int ((qs.length:Nat):Int)):=by
    simp only [j9,jQ,lu,wU,Ax,iV]
    exact kg
   simp only [oM,ev,jQ,lu,aQ,aG,DL.keyOf,hz,if_true,qJ,Vg _ i _ _ notin,set_0,kZ]
   rw [adn]
 rw [aC,bO] at loop
 obtain⟨ρ1,lo,qs,fn,k5,k6,rfl,td,tf⟩:=loop
 refine⟨ks,qs,fn,nk,td,tf,?_⟩
 have key:∀d,qw (gR 4) (dZ 1) [.dat (L), .dat (N), .own (fL qs), .own (tD (mV qs)), .own (.dict (oJ (fun y=> .int ((fn y:Nat):Int)) ks)),k5,k6]= .ok d→Im [L,N]= .ok (.tuple [eZ qs,d]):=fun d hd=>by
  refine jA ?_
  show Rt (ZG [.dat (L), .dat (N), .un, .un, .un, .un, .un]) _
  unfold ZG
  refine fK (ρ' :=[.dat (L), .dat (N), .un, .un, .un, .un, .un]) (Vf (jf rfl rfl nm)) ?_
  refine fK (ρ' :=[.dat (L), .dat (N), .own (fL []), .un, .un, .un, .un]) (by simp! only [];rfl) ?_
  refine fK (ρ' :=[.dat (L), .dat (N), .own (fL []), .own (tD (mV [])), .un, .un, .un]) rfl ?_
  refine fK (ρ' :=[.dat (L), .dat (N), .own (fL []), .own (tD (mV [])), .own (.dict (oJ (fun y=> .int (((fun _=>0) y:Nat):Int)) (ks.take 0))), .un, .un]) rfl ?_
  refine fK lo ?_
  have bt:mK [fL qs]= .ok (eZ qs):=rfl
  exact iI (by simp! only [hd,bt]) rfl
 rw [←hL,←hN]
 cases n with
 |none=>
  refine key .none ?_
  rw [hN]
  simp! only [qw,eX,qJ,if_true]
  rfl
 |some k=>
  have hk:=nk.2.top
  refine key _ ?_
  rw [hN]
  simp! only [qw,eX,Ss,Jv,qJ,if_true,DL.keyOf,yW _ k _ hk]
  rfl
theorem afM(rs:List Rule)(g:Good rs)(f:Fits MOST rs)(hl:rs.length≤3000000)(n:Option Nat)(hn:fV rs n):∃ks qs fn,sJ rs n ks∧Td rs ks qs fn∧Im [eZ rs,eX n]= .ok (.tuple [eZ qs,eX (n.map fn)]):=by
 obtain⟨ks,qs,fn,a,b,_,c⟩:=abE rs g f hl n hn
 exact⟨ks,qs,fn,a,b,c⟩
end Sb
namespace Sb
open PySem PySem.Spec L2 Evl DL
theorem N6(c:Int)(h0:0≤c)(h1:c<10 ^ 100)(n:Nat)(hn:1≤n)(hm:n≤2 ^ 100):∃p:Nat,p<n∧jK [.int c, .int (n:Int)]= .ok (.int (p:Int)):=by
 by_cases e0:c%4=0
 ·have a0:=cA (c/4) (show min (n:Int) 3≠0 by omega)
  have a1:=bL (c/4) (show(0:Int)<min (n:Int) 3 by omega)
  refine⟨(c/4%min (n:Int) 3).toNat,by omega,?_⟩
  rw [Int.toNat_of_nonneg a0]
  simp(disch:=omega) only [jK,uR,jG,jV,aD,fH,je,gG,gD,j7,rZ,lY,mY,uo,eIf,dU,Int.reduceLT,Int.reduceLE,Int.reduceEq,cX,dh,aC,beq_self_eq_true,ab5,lC,qZ,iy,uP,Cy,Int.reducePow,Int.reduceToNat,Int.reduceNeg,Int.reduceAdd,Int.reduceSub,Int.reduceMul,Int.reduceDiv,Int.reduceMod,e0]
 ·by_cases e1:c%4=1
  ·have a0:=cA (c/4) (show min (n:Int) 3≠0 by omega)
   have a1:=bL (c/4) (show(0:Int)<min (n:Int) 3 by omega)
   refine⟨((n:Int)-1-c/4%min (n:Int) 3).toNat,by omega,?_⟩
   rw [Int.toNat_of_nonneg (by omega)]
   simp(disch:=omega) only [jK,uR,jG,jV,aD,fH,je,gG,gD,j7,rZ,lY,mY,uo,eIf,dU,Int.reduceLT,Int.reduceLE,Int.reduceEq,cX,dh,aC,beq_self_eq_true,ab5,lC,qZ,iy,uP,Cy,Int.reducePow,Int.reduceToNat,Int.reduceNeg,Int.reduceAdd,Int.reduceSub,Int.reduceMul,Int.reduceDiv,Int.reduceMod,e0,e1]
  ·have a0:=cA (c/4*1152921504606846883) (show(n:Int)≠0 by omega)
   have a1:=bL (c/4*1152921504606846883) (show(0:Int)<(n:Int) by omega)
   refine⟨(c/4*1152921504606846883%(n:Int)).toNat,by omega,?_⟩
   rw [Int.toNat_of_nonneg a0]
   simp(disch:=omega) only [jK,uR,jG,jV,aD,fH,je,gG,gD,j7,rZ,lY,mY,uo,eIf,dU,Int.reduceLT,Int.reduceLE,Int.reduceEq,cX,dh,aC,beq_self_eq_true,ab5,lC,qZ,iy,uP,Cy,Int.reducePow,Int.reduceToNat,Int.reduceNeg,Int.reduceAdd,Int.reduceSub,Int.reduceMul,Int.reduceDiv,Int.reduceMod,e0,e1]
end Sb
namespace Sb
open PySem PySem.Spec L2 Evl DL
theorem aam{ns:List Int}(hb:∀z∈ns,Builtin.Int.intBits z≤1048576)(k:Nat)(hk:k<1048576):∃c:Int,iW [.list (ns.map aH), .int (k:Int)]= .ok (.int c)∧0≤c∧c<10 ^ 40:=by
 have hp:sV (.int 10) (.int 40)= .ok (.int (10 ^ 40)):=uP (by decide) (by decide) (by decide)
 have hM:(0:Int)<10 ^ 40:=by decide
 have hQ:(0:Int)<2147483629:=by decide
 by_cases h:k<ns.length
 ·have hi:=Yg (ns:=ns) (i:=(k:Int)) (by omega) (by omega)
  have hm:=abZ (i:=ns[k]) (j:=2718281828459045235360287471352662497757) 132 (hb _ (dH h)) (by decide)
  refine⟨ns[k]*2718281828459045235360287471352662497757%10 ^ 40,?_,cA _ (by decide),bL _ hM⟩
  simp only [cV] at hi
  have hlt:(k:Int)<(ns.length:Int):=by omega
  simp! only [iW,wj,hlt,hi,hm,hp,iy hM]
 ·have hge:¬(k:Int)<(ns.length:Int):=by omega
  have kk:(k:Int)*k<2 ^ 40:=by
   have:(k:Int)*k≤1048575*1048575:=Int.mul_le_mul (by omega) (by omega) (by omega) (by omega)
   omega
  have kk0:(0:Int)≤(k:Int)*k:=Int.mul_nonneg (by omega) (by omega)
  have m1:=vZ (i:=(k:Int)) (j:=(k:Int)) 20 20 (by omega) (by omega)
  have m2:=vZ (i:=(k:Int)*k) (j:=7919) 40 13 (abs_lt_of kk0 kk) (by decide)
  obtain⟨N,hN0,hN1,hN⟩:∃N:Int,0≤N∧N<2 ^ 160∧fH (je (eG dGt (fu jr [(dZ 0)]) (eC (.int 0))) (gD 2 (eG jw (dZ 2) (eG lQ (eG iK (eG fX (dZ 0) (eG iK (eG lQ (dZ 1) (eC (.int 7))) (fu jr [(dZ 0)]))) (eG sV (eC (.int 10)) (eC (.int 40)))) (eC (.int 48271))))) fU)
   (gG (eG iK (eG lQ (eG iK (eG lQ (dZ 2) (dZ 2)) (eC (.int 2147483629))) (eC (.int 2718281828459045235360287471352662497757))) (eG sV (eC (.int 10)) (eC (.int 40))))) [.dat (.list (ns.map aH)), .dat (.int k), .dat (.int ((k:Int)*k*7919+5))]
   =(gG (eG iK (eG lQ (eG iK (eG lQ (dZ 2) (dZ 2)) (eC (.int 2147483629))) (eC (.int 2718281828459045235360287471352662497757))) (eG sV (eC (.int 10)) (eC (.int 40))))) [.dat (.list (ns.map aH)), .dat (.int k), .dat (.int N)]:=by
   by_cases hl:ns.length=0
   ·refine⟨(k:Int)*k*7919+5,by omega,by omega,?_⟩
    have:¬(0:Int)<(ns.length:Int):=by omega
    simp! only [this]
   ·have hpos:(0:Int)<(ns.length:Int):=by omega
    have m3:=vZ (i:=(k:Int)) (j:=7) 20 3 (by omega) (by decide)
    have i0:0≤(k:Int)*7%(ns.length:Int):=cA _ (by omega)
    have i1:(k:Int)*7%(ns.length:Int)<(ns.length:Int):=bL _ hpos
    have hi:=Yg (ns:=ns) i0 i1
    have r0:=cA (ns[((k:Int)*7%(ns.length:Int)).toNat]'(by omega)) (show(10 ^ 40:Int)≠0 by decide)
    have r1:=bL (ns[((k:Int)*7%(ns.length:Int)).toNat]'(by omega)) hM
    refine⟨(k:Int)*k*7919+5+ns[((k:Int)*7%(ns.length:Int)).toNat]'(by omega)%10 ^ 40*48271,by omega,by omega,?_⟩
    have m4:=vZ (i:=ns[((k:Int)*7%(ns.length:Int)).toNat]'(by omega)%10 ^ 40) (j:=48271) 134 17 (abs_lt_of r0 (by omega)) (by decide)
    simp! only [hpos,m3,iy hpos,hi,hp,iy hM,m4]
  have m5:=vZ (i:=N) (j:=N) 160 160 (abs_lt_of hN0 hN1) (abs_lt_of hN0 hN1)
  have q0:=cA (N*N) (show(2147483629:Int)≠0 by decide)
  have q1:=bL (N*N) hQ
  have m6:=vZ (i:=N*N%2147483629) (j:=2718281828459045235360287471352662497757) 32 132 (abs_lt_of q0 (by omega)) (by decide)
  refine⟨N*N%2147483629*2718281828459045235360287471352662497757%10 ^ 40,?_,cA _ (by decide),bL _ hM⟩
  have e:wj [.dat (.list (ns.map aH)), .dat (.int k), .un]= .rt (.int (N*N%2147483629*2718281828459045235360287471352662497757%10 ^ 40)):=by
   unfold wj
   rw [qM (ρ' :=[.dat (.list (ns.map aH)), .dat (.int k), .un]) (by simp! only [hge]),qM (ρ' :=[.dat (.list (ns.map aH)), .dat (.int k), .dat (.int ((k:Int)*k*7919+5))]) (by simp! only [m1,m2]),hN]
   simp! only [m5,iy hQ,m6,hp,iy hM]
  simp only [iW,jG,jV,aD,cX,dh,e]
theorem aeW{ns:List Int}(hb:∀z∈ns,Builtin.Int.intBits z≤1048576):∃f:Nat→Int,∀k:Nat,k<1048576→iW [.list (ns.map aH), .int (k:Int)]= .ok (.int (f k))∧0≤f k∧f k<10 ^ 40:=by
 refine⟨fun k=>if h:k<1048576 then Classical.choose (aam hb k h) else 0,fun k hk=> ?_⟩
 simp only [hk,dif_pos]
 exact Classical.choose_spec (aam hb k hk)
theorem acR{L:D}{cell:Nat→Int}(hc:∀k:Nat,k<1048576→iW [L, .int (k:Int)]= .ok (.int (cell k))∧0≤cell k∧cell k<10 ^ 40){mi:DL.Env→AR}{ρ:DL.Env}{j:Nat}(a b:Nat)(hb:b≤90000)(hi:mi ρ= .ok (mO (a:Int) (b:Int)))
 (h0:∀d,dZ 0 ((sH ρ [j]).set j (.dat d))= .ok L) (h1:∀d,dZ j ((sH ρ [j]).set j (.dat d))= .ok d):
 Lq mi (gN j) (eC (.bool true)) (fu iW [(dZ 0),(dZ j)]) [j] ρ= .ok (.list (((cC (b-a)).map fun i=>cell (a+i)).map aH)):=by
 rw [cD]
 rw [OD] at hi
 refine Jr _ _ hi ?_ (by simp only [cZ];exact uE (by omega))
 intro k hk
 rw [List.mem_range] at hk
 exact⟨_,rfl,rfl,by rw [Hq,h0,h1,iV,iV,(hc (a+k) (by omega)).1];rfl⟩
end Sb
namespace Sb
open PySem PySem.Spec L2 Evl DL
abbrev pW:Str:="is"
abbrev jO:Str:="join"
abbrev jo:Str:="times"
abbrev lW:Str:="cut"
abbrev jT:Str:="turn"
abbrev lV:Str:="put"
abbrev iJ:Str:="insert"
abbrev gY:Str:="remove"
theorem abR:¬(pW=jO):=by decide+kernel
theorem Z0:¬(pW=jo):=by decide+kernel
theorem acz:¬(pW=lW):=by decide+kernel
theorem abj:¬(pW=jT):=by decide+kernel
theorem aec:¬(pW=lV):=by decide+kernel
theorem VH:¬(pW=iJ):=by decide+kernel
theorem Xw:¬(pW=gY):=by decide+kernel
theorem abS:¬(jO=pW):=by decide+kernel
theorem Ul:¬(jO=jo):=by decide+kernel
theorem Y6:¬(jO=lW):=by decide+kernel
theorem Yj:¬(jO=jT):=by decide+kernel
theorem Za:¬(jO=lV):=by decide+kernel
theorem QL:¬(jO=iJ):=by decide+kernel
theorem QW:¬(jO=gY):=by decide+kernel
theorem ZP:¬(jo=pW):=by decide+kernel
theorem TY:¬(jo=jO):=by decide+kernel
theorem Xz:¬(jo=lW):=by decide+kernel
theorem U3:¬(jo=jT):=by decide+kernel
theorem YC:¬(jo=lV):=by decide+kernel
theorem Ou:¬(jo=iJ):=by decide+kernel
theorem Nk:¬(jo=gY):=by decide+kernel
theorem adC:¬(lW=pW):=by decide+kernel
theorem ZM:¬(lW=jO):=by decide+kernel
theorem X5:¬(lW=jo):=by decide+kernel
theorem Zw:¬(lW=jT):=by decide+kernel
theorem abQ:¬(lW=lV):=by decide+kernel
theorem TQ:¬(lW=iJ):=by decide+kernel
theorem U0:¬(lW=gY):=by decide+kernel
theorem aby:¬(jT=pW):=by decide+kernel
theorem X3:¬(jT=jO):=by decide+kernel
theorem Vb:¬(jT=jo):=by decide+kernel
theorem ZD:¬(jT=lW):=by decide+kernel
theorem YT:¬(jT=lV):=by decide+kernel
theorem Qx:¬(jT=iJ):=by decide+kernel
theorem QK:¬(jT=gY):=by decide+kernel
theorem acM:¬(lV=pW):=by decide+kernel
theorem Y0:¬(lV=jO):=by decide+kernel
theorem V5:¬(lV=jo):=by decide+kernel
theorem abI:¬(lV=lW):=by decide+kernel
theorem Z6:¬(lV=jT):=by decide+kernel
theorem Tq:¬(lV=iJ):=by decide+kernel
theorem T7:¬(lV=gY):=by decide+kernel
theorem XH:¬(iJ=pW):=by decide+kernel
theorem QG:¬(iJ=jO):=by decide+kernel
theorem Nv:¬(iJ=jo):=by decide+kernel
theorem Uh:¬(iJ=lW):=by decide+kernel
theorem QX:¬(iJ=jT):=by decide+kernel
theorem Vd:¬(iJ=lV):=by decide+kernel
theorem Ky:¬(iJ=gY):=by decide+kernel
theorem Wc:¬(gY=pW):=by decide+kernel
theorem Qz:¬(gY=jO):=by decide+kernel
theorem Qo:¬(gY=jo):=by decide+kernel
theorem Tz:¬(gY=lW):=by decide+kernel
theorem QC:¬(gY=jT):=by decide+kernel
theorem UG:¬(gY=lV):=by decide+kernel
theorem Kz:¬(gY=iJ):=by decide+kernel
theorem v_all:(¬pW=jO)∧(¬pW=jo)∧(¬pW=lW)∧(¬pW=jT)∧(¬pW=lV)∧(¬pW=iJ)∧(¬pW=gY)∧(¬jO=pW)∧(¬jO=jo)∧(¬jO=lW)∧(¬jO=jT)∧(¬jO=lV)∧(¬jO=iJ)∧(¬jO=gY)∧(¬jo=pW)∧(¬jo=jO)∧(¬jo=lW)∧(¬jo=jT)∧(¬jo=lV)∧(¬jo=iJ)∧(¬jo=gY)∧(¬lW=pW)∧(¬lW=jO)∧(¬lW=jo)∧(¬lW=jT)∧(¬lW=lV)∧(¬lW=iJ)∧(¬lW=gY)∧(¬jT=pW)∧(¬jT=jO)∧(¬jT=jo)∧(¬jT=lW)∧(¬jT=lV)∧(¬jT=iJ)∧(¬jT=gY)∧(¬lV=pW)∧(¬lV=jO)∧(¬lV=jo)∧(¬lV=lW)∧(¬lV=jT)∧(¬lV=iJ)∧(¬lV=gY)∧(¬iJ=pW)∧(¬iJ=jO)∧(¬iJ=jo)∧(¬iJ=lW)∧(¬iJ=jT)∧(¬iJ=lV)∧(¬iJ=gY)∧(¬gY=pW)∧(¬gY=jO)∧(¬gY=jo)∧(¬gY=lW)∧(¬gY=jT)∧(¬gY=lV)∧(¬gY=iJ):=⟨abR,Z0,acz,abj,aec,VH,Xw,abS,Ul,Y6,Yj,Za,QL,QW,ZP,TY,Xz,U3,YC,Ou,Nk,adC,ZM,X5,Zw,abQ,TQ,U0,aby,X3,Vb,ZD,YT,Qx,QK,acM,Y0,V5,abI,Z6,Tq,T7,XH,QG,Nv,Uh,QX,Vd,Ky,Wc,Qz,Qo,Tz,QC,UG,Kz⟩
def uW(F:List Nat→D)(ws:List (List Nat)):List (D×D):=ws.map fun w=>(aV (fZ w),F w)
def upW(F:List Nat→D)(w:List Nat)(v:D):List Nat→D:=fun x=>if x=w then v else F x
theorem Z8(x w:List Nat):(DL.keyOf (aV (fZ x))=some (.inr (fZ w)))↔x=w:=by
 constructor
 ·intro h
  have h2:fZ x=fZ w:=by
   have h3:some (Sum.inr (fZ x):Key)=some (.inr (fZ w)):=h
   injection h3 with h3
   injection h3
  exact Ws h2
 ·rintro rfl
  rfl
theorem aaX(F:List Nat→D)(w:List Nat):∀ws:List (List Nat),w∈ws→pK (uW F ws) (.inr (fZ w))=some (F w)
 |[],h=>by cases h
 |x::ws,h=>by
  by_cases e:x=w
  ·subst e
   simp only [pK,uW,bf,dR,DL.keyOf,decide_true,Option.map_some]
  ·have hk:¬(DL.keyOf (aV (fZ x))=some (.inr (fZ w))):=fun z=>e ((Z8 x w).mp z)
   have h' :w∈ws:=by
    rcases aO.mp h with z|z
    ·exact absurd z.symm e
    ·exact z
   have:=aaX F w ws h'
   simp only [pK,uW,bf,dR,hk,decide_false]
   exact this
theorem Y4(F:List Nat→D)(w:List Nat)(ws:List (List Nat)):(uW F ws).any (fun q=>decide (DL.keyOf q.1=some (.inr (fZ w))))=decide (w∈ws):=by
 induction ws with
 |nil=>rfl
 |cons x ws ih=>
  simp only [uW,bf,dX] at ih⊢
  rw [ih]
  by_cases e:x=w
  ·subst e
   simp [DL.keyOf]
  ·have hk:¬(DL.keyOf (aV (fZ x))=some (.inr (fZ w))):=fun z=>e ((Z8 x w).mp z)
   have e' :¬w=x:=fun z=>e z.symm
   simp [hk,e']
theorem adJ(F:List Nat→D)(w:List Nat)(v:D)(ws:List (List Nat))(h:¬w∈ws):o8 (uW F ws) (.inr (fZ w)) v=uW (upW F w v) (ws++[w]):=by
 unfold o8
 rw [Y4]
 simp only [h,decide_false,Bool.false_eq_true,if_false]
 simp only [uW,cR,bf,dN,upW,if_true]
 congr 1
 refine bQ fun x hx=> ?_
 have:¬x=w:=fun z=>h (by rw [←z];exact hx)
 simp only [this,if_false]
theorem agv(F:List Nat→D)(w:List Nat)(v:D)(ws:List (List Nat))(h:w∈ws):o8 (uW F ws) (.inr (fZ w)) v=uW (upW F w v) ws:=by
 unfold o8
 rw [Y4]
 simp only [h,decide_true,if_true]
 simp only [uW,cD]
 refine bQ fun x hx=> ?_
 simp only [Function.comp,Z8,upW]
 by_cases e:x=w
 ·simp [e]
 ·simp [e]
def addW(ws:List (List Nat))(w:List Nat):List (List Nat):=if w∈ws then ws else ws++[w]
theorem Xj(F:List Nat→D)(w:List Nat)(v:D)(ws:List (List Nat)):o8 (uW F ws) (.inr (fZ w)) v=uW (upW F w v) (addW ws w):=by
 unfold addW
 by_cases h:w∈ws
 ·rw [if_pos h,agv _ _ _ _ h]
 ·rw [if_neg h,adJ _ _ _ _ h]
theorem xX{ws:List (List Nat)}{w x:List Nat}:x∈addW ws w↔x∈ws∨x=w:=by
 unfold addW
 by_cases h:w∈ws
 ·rw [if_pos h]
  constructor
  ·exact .inl
  ·rintro(z|rfl)
   ·exact z
   ·exact h
 ·rw [if_neg h]
  simp
theorem aeF{ws:List (List Nat)}{w:List Nat}(h:ws.Nodup):(addW ws w).Nodup:=by
 unfold addW
 by_cases m:w∈ws
 ·rwa [if_pos m]
 ·rw [if_neg m,cI]
  exact⟨h,by simp,fun a ha b hb=>by
   have:b=w:=by simpa using hb
   subst this
   exact fun e=>m (by rw [←e];exact ha)⟩
theorem Xx{ws:List (List Nat)}{w:List Nat}:(addW ws w).length≤ws.length+1:=by
 unfold addW
 split
 ·omega
 ·simp
theorem El(F:List Nat→D)(ws:List (List Nat)):Ah (uW F ws)=true:=by cases ws<;>rfl
theorem Vk(F:List Nat→D)(ws:List (List Nat)):(uW F ws).length=ws.length:=by simp [uW]
theorem IW(F:List Nat→D){w:List Nat}{ws:List (List Nat)}(h:w∈ws):jF (.dict (uW F ws)) (.str (fZ w))= .ok (F w):=by
 simp only [jF,El,if_true,DL.keyOf,aaX F w ws h]
theorem ail(F:List Nat→D)(w:List Nat)(ws:List (List Nat))(b:Bool):xV b (.str (fZ w)) (.dict (uW F ws))= .ok (.bool (decide (w∈ws) !=b)):=by
 have e:DL.keyOf (aV (fZ w))=some (.inr (fZ w)):=rfl
 simp only [xV,El,if_true,e,find_some,Y4]
theorem aaM(F:List Nat→D):∀ws:List (List Nat),strKeys (uW F ws)=some (ws.map fZ)
 |[]=>rfl
 |w::ws=>by
  show(strKeys (uW F ws)).map _=_
  rw [aaM F ws]
  rfl
inductive Dd(α:Type) where
 |is (w:List Nat)|join (a b:α)|times (a:α) (m:Nat)|cut (a:α) (s e:Nat)|turn (a:α)|put (a:α) (s o:Nat)|insert (a:α) (p:Nat) (b:α)|remove (a:α) (s e:Nat)
namespace Dd
variable{α β:Type}
def verb:Dd α→Str
 | .is _=>pW| .join _ _=>jO| .times _ _=>jo| .cut _ _ _=>lW| .turn _=>jT| .put _ _ _=>lV| .insert _ _ _=>iJ| .remove _ _ _=>gY
def rest(F:α→PyData):Dd α→List PyData
 | .is w=>[.str (fZ w)]
 | .join a b=>[F a,F b]
 | .times a m=>[F a, .int (m:Int)]
 | .cut a s e=>[F a, .int (s:Int), .int (e:Int)]
 | .turn a=>[F a]
 | .put a s o=>[F a, .str (s1 s), .str (s1 o)]
 | .insert a p b=>[F a, .int (p:Int),F b]
 | .remove a s e=>[F a, .int (s:Int), .int (e:Int)]
def toD(F:α→PyData)(d:Dd α):PyData:= .tuple (.str d.verb::d.rest F)
def tx(t:α→List Nat):Dd α→List Nat
 | .is w=>w
 | .join a b=>t a++t b
 | .times a m=>(aD m (t a)).flatten
 | .cut a s e=>stretch (t a) s e
 | .turn a=>(t a).reverse
 | .put a s o=>(t a).map (Af s o)
 | .insert a p b=>(t a).take p++t b++(t a).drop p
 | .remove a s e=>(t a).take s++(t a).drop e
def ok(t:α→List Nat):Dd α→Prop
 | .is w=>1≤w.length∧w.length≤40∧∀c∈w,c∈GF
 | .join a b=>(t a).length+(t b).length≤MOST
 | .times a m=>m≤MOST∧(t a).length*m≤MOST
 | .cut a s e=>s≤e∧e≤(t a).length
 | .turn _=>True
 | .put _ s o=>s∈GF∧o∈GF
 | .insert a p b=>p≤(t a).length∧(t a).length+(t b).length≤MOST
 | .remove a s e=>s≤e∧e≤(t a).length
def refs:Dd α→List α
 | .is _=>[]| .join a b=>[a,b]| .times a _=>[a]| .cut a _ _=>[a]| .turn a=>[a]| .put a _ _=>[a]| .insert a _ b=>[a,b]| .remove a _ _=>[a]
def map(f:α→β):Dd α→Dd β
 | .is w=> .is w| .join a b=> .join (f a) (f b)| .times a m=> .times (f a) m| .cut a s e=> .cut (f a) s e| .turn a=> .turn (f a)| .put a s o=> .put (f a) s o| .insert a p b=> .insert (f a) p (f b)| .remove a s e=> .remove (f a) s e
theorem Oh{t t' :α→List Nat}{d:Dd α}(h:∀a∈d.refs,t a=t' a):d.tx t=d.tx t' :=by
 cases d<;>simp only [refs,aO,bB,or_false,forall_eq_or_imp,forall_eq] at h<;>simp only [tx,h]
theorem Hu{t t' :α→List Nat}{d:Dd α}(h:∀a∈d.refs,t a=t' a)(o:d.ok t):d.ok t' :=by
 cases d<;>simp only [refs,aO,bB,or_false,forall_eq_or_imp,forall_eq] at h<;>simp only [ok,h] at o⊢<;>exact o
theorem ahj(f:α→β)(t:β→List Nat)(d:Dd α):(d.map f).tx t=d.tx (fun a=>t (f a)):=by cases d<;>rfl
theorem adx(f:α→β)(t:β→List Nat)(d:Dd α):(d.map f).ok t↔d.ok (fun a=>t (f a)):=by cases d<;>exact Iff.rfl
theorem Ww(f:α→β)(d:Dd α):(d.map f).refs=d.refs.map f:=by cases d<;>rfl
theorem ac'{t:α→List Nat}{d:Dd α}(o:d.ok t)(h:∀a∈d.refs,(t a).length≤MOST):(d.tx t).length≤MOST:=by
 cases d with
 |is w=>exact bJ o.2.1 (by decide)
 |join a b=>
  show(t a++t b).length≤MOST
  rw [aA]
  exact o
 |times a m=>simp only [tx,qC];rw [bY];exact o.2
 |cut a s e=>
  have:=h a (by simp [refs])
  simp only [tx,stretch,dM,aW]
  omega
 |turn a=>simpa [tx] using h a (by simp [refs])
 |put a s o=>simpa [tx] using h a (by simp [refs])
 |insert a p b=>
  have:=o.2
  simp only [tx,aA,aW,dM]
  omega
 |remove a s e=>
  have:=h a (by simp [refs])
  have:=o.1
  simp only [tx,aA,aW,dM]
  omega
end Dd
def wM(ns:List (Dd Nat)):List (List Nat):=ns.foldl (fun acc d=>acc++[d.tx fun i=>acc.getD i []]) []
theorem Hl(ns:List (Dd Nat))(d:Dd Nat):wM (ns++[d])=wM ns++[d.tx fun i=>(wM ns).getD i []]:=by simp [wM]
theorem Hj:∀ns:List (Dd Nat),(wM ns).length=ns.length:=by
 refine snocInd rfl fun ns d ih=> ?_
 rw [Hl]
 simp [ih]
theorem Ln{ns:List (Dd Nat)}{i:Nat}(h:i<ns.length)(d:Dd Nat):(wM (ns++[d])).getD i []=(wM ns).getD i []:=by
 rw [Hl]
 simp only [bA]
 rw [aP (by rw [Hj];exact h)]
theorem Oa(ns:List (Dd Nat))(d:Dd Nat):(wM (ns++[d])).getD ns.length []=d.tx fun i=>(wM ns).getD i []:=by
 rw [Hl]
 simp only [bA]
 rw [bG (by rw [Hj];exact bD _),Hj]
 simp
structure NG(ns:List (Dd Nat)):Prop where
 lt:∀(i:Nat) d,ns[i]? =some d→∀a∈d.refs,a<i
 ok:∀(i:Nat) d,ns[i]? =some d→d.ok fun a=>(wM ns).getD a []
 tx:∀(i:Nat) d,ns[i]? =some d→(wM ns).getD i []=d.tx fun a=>(wM ns).getD a []
 le:∀i,((wM ns).getD i []).length≤MOST
theorem NG.nil:NG [] where
 lt:=fun i d h=>by simp at h
 ok:=fun i d h=>by simp at h
 tx:=fun i d h=>by simp at h
 le:=fun i=>by simp [wM]
theorem NG.snoc{ns:List (Dd Nat)}(g:NG ns){d:Dd Nat}(hr:∀a∈d.refs,a<ns.length)(ho:d.ok fun a=>(wM ns).getD a []):NG (ns++[d]):=by
 have old:∀{e:Dd Nat} {n:Nat},n≤ns.length→(∀a∈e.refs,a<n)→∀a∈e.refs,(fun a=>(wM ns).getD a []) a=(fun a=>(wM (ns++[d])).getD a []) a:=fun hn he a ha=>(Ln (by have:=he a ha;omega) d).symm
 have at_:∀(i:Nat) e,(ns++[d])[i]? =some e→(i<ns.length∧ns[i]? =some e)∨(i=ns.length∧e=d):=fun i e h=>by
  have hi:=(au.mp h).1
  rw [aA,cU] at hi
  by_cases z:i<ns.length
  ·rw [aP z] at h
   exact .inl ⟨z,h⟩
  ·have e1:i=ns.length:=by omega
   subst e1
   rw [bG (bD _)] at h
   simp only [Nat.sub_self,aG,Option.some.injEq] at h
   exact .inr ⟨rfl,h.symm⟩
 refine⟨fun i e h=> ?_,fun i e h=> ?_,fun i e h=> ?_,fun i=> ?_⟩
 ·rcases at_ i e h with⟨_,h⟩|⟨rfl,rfl⟩
  ·exact g.lt i e h
  ·exact hr
 ·rcases at_ i e h with⟨z,h⟩|⟨rfl,rfl⟩
  ·exact Dd.Hu (old (Nat.le_of_lt z) (g.lt i e h)) (g.ok i e h)
  ·exact Dd.Hu (old (bD _) hr) ho
 ·rcases at_ i e h with⟨z,h⟩|⟨rfl,rfl⟩
  ·rw [Ln z,g.tx i e h]
   exact Dd.Oh (old (Nat.le_of_lt z) (g.lt i e h))
  ·rw [Oa]
   exact Dd.Oh (old (bD _) hr)
 ·by_cases z:i<ns.length
  ·rw [Ln z]
   exact g.le i
  ·by_cases z2:i=ns.length
   ·subst z2
    rw [Oa]
    exact Dd.ac' ho fun a _=>g.le a
   ·simp only [bA]
    rw [List.getElem?_eq_none (by rw [Hj,aA,cU];omega)]
    exact cQ _
def lU(i:Nat):D:= .int (i:Int)
def pB(ns:List (Dd Nat)):D:= .list (ns.map (Dd.toD lU))
def JK(ns:List (Dd Nat)):List Nat:=(wM ns).map List.length
theorem yU(ns:List (Dd Nat)):(JK ns).length=ns.length:=by simp [JK,Hj]
theorem CQ(ns:List (Dd Nat))(i:Nat):(JK ns).getD i 0=((wM ns).getD i []).length:=by
 simp only [JK,bA,aF]
 cases(wM ns)[i]? <;>rfl
theorem ack(ns:List (Dd Nat))(d:Dd Nat):JK (ns++[d])=JK ns++[(d.tx fun i=>(wM ns).getD i []).length]:=by simp [JK,Hl]
theorem abx{ns:List (Dd Nat)}{i:Nat}{d:Dd Nat}(h:ns[i]? =some d):fX (pB ns) (.int (i:Int))= .ok (d.toD lU):=by
 have hi:=(au.mp h).1
 unfold pB
 rw [vf (by omega) (by simp;omega),cV,bA,aF,h]
 rfl
theorem VJ(ns:List (Dd Nat))(d:Dd Nat):fX (pB (ns++[d])) (.int (-1))= .ok (d.toD lU):=by
 unfold pB
 rw [ab7 (by simp)]
 simp
def iD(w:List Nat):D:= .str (fZ w)
def yw(w:List Nat):Prop:=1≤w.length∧w.length≤8∧∀c∈w,97≤c∧c≤122
end Sb
namespace Sb
open PySem PySem.Spec L2 Evl DL
theorem wZ(a b c e:D)(r:List D):fX (.tuple (a::b::c::e::r)) (.int 3)= .ok e:=by
 rw [agV (by omega) (by simp;omega)]
 rfl
theorem WY:MOST<10 ^ 300:=by decide
theorem Xp(d:Dd Nat)(sz:List Nat)(t:Nat→List Nat)(hs:∀a∈d.refs,a<sz.length∧sz.getD a 0=(t a).length)(hm:∀a∈d.refs,(t a).length≤MOST)(ok:d.ok t):jJ [d.toD lU,fJ sz]= .ok (.int (((d.tx t).length:Nat):Int)):=by
 have big:=WY
 have ix:∀a∈d.refs,fX (fJ sz) (.int (a:Int))= .ok (.int (((t a).length:Nat):Int)):=fun a ha=>by rw [jD (hs a ha).1,(hs a ha).2]
 cases d with
 |is w=>
  have hl:(fZ w).length≤sizeLine:=by rw [qp];exact uE (by have:=ok.2.1;omega)
  simp! only [jJ,kE,jW,Dd.toD,Dd.verb,Dd.rest,gh,gA,Ij (show w.length≤16777000 by have:=ok.2.1;omega),Dd.tx]
 |join a b=>
  have ia:=ix a (by simp [Dd.refs])
  have ib:=ix b (by simp [Dd.refs])
  have e:((((t a).length:Nat):Int)+(((t b).length:Nat):Int))=(((Dd.join a b).tx t).length:Nat):=by simp [Dd.tx]
  simp! only [jJ,kE,jW,Dd.toD,Dd.verb,Dd.rest,lU,gh,gA,jy,ia,ib,v_all,e]
 |times a m=>
  have ia:=ix a (by simp [Dd.refs])
  have h1:=hm a (by simp [Dd.refs])
  have h2:=ok.1
  have mu:lQ (.int (((t a).length:Nat):Int)) (.int (m:Int))= .ok (.int ((((Dd.times a m).tx t).length:Nat):Int)):=by
   rw [qZ (by omega) (by omega) (by omega) (by omega)]
   simp only [Dd.tx,qC]
   rw [bY m]
   simp
  simp! only [jJ,kE,jW,Dd.toD,Dd.verb,Dd.rest,lU,gh,gA,jy,ia,mu,v_all]
 |cut a s e=>
  have ia:=ix a (by simp [Dd.refs])
  have e:((e:Int)-(s:Int))=(((Dd.cut a s e).tx t).length:Nat):=by
   simp only [Dd.tx]
   rw [qP ok.2]
   have:=ok.1
   omega
  simp! only [jJ,kE,jW,Dd.toD,Dd.verb,Dd.rest,lU,gh,gA,jy,wZ,ia,v_all,e]
 |turn a=>
  have ia:=ix a (by simp [Dd.refs])
  simp! only [jJ,kE,jW,Dd.toD,Dd.verb,Dd.rest,lU,gh,gA,ia,v_all,Dd.tx,bK]
 |put a s o=>
  have ia:=ix a (by simp [Dd.refs])
  simp! only [jJ,kE,jW,Dd.toD,Dd.verb,Dd.rest,lU,gh,gA,ia,v_all,Dd.tx,aC]
 |insert a p b=>
  have ia:=ix a (by simp [Dd.refs])
  have ib:=ix b (by simp [Dd.refs])
  have e:((((t a).length:Nat):Int)+(((t b).length:Nat):Int))=(((Dd.insert a p b).tx t).length:Nat):=by
   have:=ok.1
   simp only [Dd.tx,aA,aW,dM]
   omega
  simp! only [jJ,kE,jW,Dd.toD,Dd.verb,Dd.rest,lU,gh,gA,jy,wZ,ia,ib,v_all,e]
 |remove a s e=>
  have ia:=ix a (by simp [Dd.refs])
  have e:((((t a).length:Nat):Int)-(e:Int)+(s:Int))=(((Dd.remove a s e).tx t).length:Nat):=by
   have:=ok.1
   have:=ok.2
   simp only [Dd.tx,aA,aW,dM]
   omega
  simp! only [jJ,kE,jW,Dd.toD,Dd.verb,Dd.rest,lU,gh,gA,jy,wZ,ia,v_all,e]
theorem ach(d:Dd (List Nat))(ix:List Nat→Nat)(ws:List (List Nat))(h:∀a∈d.refs,a∈ws):lN [d.toD iD, .dict (uW (fun w=>lU (ix w)) ws)]= .ok ((d.map ix).toD lU):=by
 have gt:∀a∈d.refs,jF (.dict (uW (fun w=>lU (ix w)) ws)) (.str (fZ a))= .ok (lU (ix a)):=fun a ha=>IW _ (h a ha)
 cases d with
 |is w=>simp! only [lN,m9,jW,Dd.toD,Dd.verb,Dd.rest,Dd.map,gh]
 |join a b=>simp! only [lN,m9,jW,Dd.toD,Dd.verb,Dd.rest,Dd.map,iD,gh,gA,jy,gt a (by simp [Dd.refs]),gt b (by simp [Dd.refs]),v_all]
 |insert a p b=>simp! only [lN,m9,jW,Dd.toD,Dd.verb,Dd.rest,Dd.map,iD,gh,gA,jy,wZ,gt a (by simp [Dd.refs]),gt b (by simp [Dd.refs]),v_all]
 |times a m=>
  have ga:=gt a (by simp [Dd.refs])
  simp! only [lN,m9,jW,Dd.toD,Dd.verb,Dd.rest,Dd.map,iD,gh,gA,ga,v_all]
  rfl
 |cut a s e=>
  have ga:=gt a (by simp [Dd.refs])
  simp! only [lN,m9,jW,Dd.toD,Dd.verb,Dd.rest,Dd.map,iD,gh,gA,ga,v_all]
  rfl
 |turn a=>
  have ga:=gt a (by simp [Dd.refs])
  simp! only [lN,m9,jW,Dd.toD,Dd.verb,Dd.rest,Dd.map,iD,gh,gA,ga,v_all]
  rfl
 |put a s o=>
  have ga:=gt a (by simp [Dd.refs])
  simp! only [lN,m9,jW,Dd.toD,Dd.verb,Dd.rest,Dd.map,iD,gh,gA,ga,v_all]
  rfl
 |remove a s e=>
  have ga:=gt a (by simp [Dd.refs])
  simp! only [lN,m9,jW,Dd.toD,Dd.verb,Dd.rest,Dd.map,iD,gh,gA,ga,v_all]
  rfl
def Dd.chg{α:Type}:Dd α→Nat→Nat
 | .put _ s o=>Af s o
 |_=>id
theorem ins_get{A B:List Nat}{p q:Nat}(hp:p≤A.length):(A.take p++B++A.drop p).getD q 0=if p+B.length≤q then A.getD (q-B.length) 0 else if p≤q then B.getD (q-p) 0 else A.getD q 0:=by
 have lt:(A.take p).length=p:=by rw [aW];omega
 by_cases h1:p+B.length≤q
 ·rw [if_pos h1,Aj (by rw [aA,lt];omega),aA,lt]
  simp only [bA,List.getElem?_drop]
  rw [show p+(q-(p+B.length))=q-B.length by omega]
 ·rw [if_neg h1,Bv (by rw [aA,lt];omega)]
  by_cases h2:p≤q
  ·rw [if_pos h2,Aj (by rw [lt];exact h2),lt]
  ·rw [if_neg h2,Bv (by rw [lt];omega)]
   simp only [bA,List.getElem?_take]
   rw [if_pos (by omega)]
theorem aeI{A:List Nat}{s e q:Nat}(hs:s≤A.length):(A.take s++A.drop e).getD q 0=if s≤q then A.getD (q+e-s) 0 else A.getD q 0:=by
 have lt:(A.take s).length=s:=by rw [aW];omega
 by_cases h:s≤q
 ·rw [if_pos h,Aj (by rw [lt];exact h),lt]
  simp only [bA,List.getElem?_drop]
  rw [show e+(q-s)=q+e-s by omega]
 ·rw [if_neg h,Bv (by rw [lt];omega)]
  simp only [bA,List.getElem?_take]
  rw [if_pos (by omega)]
theorem Yo(d:Dd Nat)(nd:∀w,d≠ .is w)(sz:List Nat)(t:Nat→List Nat)(hs:∀a∈d.refs,a<sz.length∧sz.getD a 0=(t a).length)(hm:∀a∈d.refs,(t a).length≤MOST)(ok:d.ok t)(q:Nat)(hq:q<(d.tx t).length):∃a∈d.refs,∃p,p<(t a).length∧(d.tx t).getD q 0=d.chg ((t a).getD p 0)∧iz [d.toD lU,fJ sz, .int (((d.tx t).length:Nat):Int), .int (q:Int)]= .ok (.tuple [.int (a:Int), .int (p:Int)]):=by
 have big:=WY
 have ix:∀a∈d.refs,fX (fJ sz) (.int (a:Int))= .ok (.int (((t a).length:Nat):Int)):=fun a ha=>by rw [jD (hs a ha).1,(hs a ha).2]
 obtain⟨z,hz⟩:∃z,z=(d.tx t).length:=⟨_,rfl⟩
 cases d with
 |is w=>exact absurd rfl (nd w)
 |join a b=>
  have ia:=ix a (by simp [Dd.refs])
  have ib:=ix b (by simp [Dd.refs])
  rw [←hz] at hq⊢
  simp only [Dd.tx,aA] at hz
  by_cases h:(t a).length≤q
  ·refine⟨b,by simp [Dd.refs],q-(t a).length,by omega,Aj h,?_⟩
   simp! only [iz,jx,jW,Dd.toD,Dd.verb,Dd.rest,lU,gh,gA,jy,ia,v_all,show(((t a).length:Nat):Int)≤(q:Int) by omega,show(q:Int)≥(((t a).length:Nat):Int) by omega,show((q:Int)-(((t a).length:Nat):Int))=((q-(t a).length:Nat):Int) by omega]
  ·refine⟨a,by simp [Dd.refs],q,by omega,Bv (by omega),?_⟩
   simp! only [iz,jx,jW,Dd.toD,Dd.verb,Dd.rest,lU,gh,gA,jy,ia,v_all,show¬(((t a).length:Nat):Int)≤(q:Int) by omega,show¬(q:Int)≥(((t a).length:Nat):Int) by omega]
 |times a m=>
  have ia:=ix a (by simp [Dd.refs])
  rw [←hz] at hq⊢
  simp only [Dd.tx,qC] at hz
  have ap:0<(t a).length:=by
   rcases Nat.eq_zero_or_pos (t a).length with h|h
   ·rw [h,Nat.mul_zero] at hz
    omega
   ·exact h
  have dm:iK (.int (q:Int)) (.int (((t a).length:Nat):Int))= .ok (.int ((q%(t a).length:Nat):Int)):=by
   rw [iy (by omega)]
   simp
  refine⟨a,by simp [Dd.refs],q%(t a).length,Nat.mod_lt _ ap,Ur _ _ _ _ (by omega),?_⟩
  simp! only [iz,jx,jW,Dd.toD,Dd.verb,Dd.rest,lU,gh,gA,jy,ia,v_all,dm]
 |cut a s e=>
  rw [←hz] at hq⊢
  simp only [Dd.tx] at hz
  rw [qP ok.2] at hz
  have:=ok.1
  have:=ok.2
  refine⟨a,by simp [Dd.refs],s+q,by omega,XJ (by omega) ok.2,?_⟩
  simp! only [iz,jx,jW,Dd.toD,Dd.verb,Dd.rest,lU,gh,gA,jy,v_all,show(s:Int)+(q:Int)=((s+q:Nat):Int) by omega]
 |turn a=>
  rw [←hz] at hq⊢
  simp only [Dd.tx,bK] at hz
  refine⟨a,by simp [Dd.refs],(t a).length-1-q,by omega,aeu _ _ (by omega),?_⟩
  simp! only [iz,jx,jW,Dd.toD,Dd.verb,Dd.rest,lU,gh,gA,jy,v_all,show(z:Int)-1-(q:Int)=(((t a).length-1-q:Nat):Int) by omega]
 |put a s o=>
  rw [←hz] at hq⊢
  simp only [Dd.tx,aC] at hz
  refine⟨a,by simp [Dd.refs],q,by omega,aft _ _ _ (by omega),?_⟩
  simp! only [iz,jx,jW,Dd.toD,Dd.verb,Dd.rest,lU,gh,gA,jy,v_all]
 |insert a p b=>
  have ib:=ix b (by simp [Dd.refs])
  have:=ok.1
  rw [←hz] at hq⊢
  simp only [Dd.tx,aA,aW,dM] at hz
  have gt:=ins_get (A:=t a) (B:=t b) (q:=q) ok.1
  by_cases h1:p+(t b).length≤q
  ·rw [if_pos h1] at gt
   refine⟨a,by simp [Dd.refs],q-(t b).length,by omega,gt,?_⟩
   simp! only [iz,jx,jW,Dd.toD,Dd.verb,Dd.rest,lU,gh,gA,jy,wZ,ib,v_all,show(p:Int)+(((t b).length:Nat):Int)≤(q:Int) by omega,show(q:Int)≥(p:Int)+(((t b).length:Nat):Int) by omega,show((q:Int)-(((t b).length:Nat):Int))=((q-(t b).length:Nat):Int) by omega]
  ·rw [if_neg h1] at gt
   by_cases h2:p≤q
   ·rw [if_pos h2] at gt
    refine⟨b,by simp [Dd.refs],q-p,by omega,gt,?_⟩
    simp! only [iz,jx,jW,Dd.toD,Dd.verb,Dd.rest,lU,gh,gA,jy,wZ,ib,v_all,show¬(p:Int)+(((t b).length:Nat):Int)≤(q:Int) by omega,show¬(q:Int)≥(p:Int)+(((t b).length:Nat):Int) by omega,show(p:Int)≤(q:Int) by omega,show(q:Int)≥(p:Int) by omega,show(q:Int)-(p:Int)=((q-p:Nat):Int) by omega]
   ·rw [if_neg h2] at gt
    refine⟨a,by simp [Dd.refs],q,by omega,gt,?_⟩
    simp! only [iz,jx,jW,Dd.toD,Dd.verb,Dd.rest,lU,gh,gA,jy,wZ,ib,v_all,show¬(p:Int)+(((t b).length:Nat):Int)≤(q:Int) by omega,show¬(q:Int)≥(p:Int)+(((t b).length:Nat):Int) by omega,show¬(p:Int)≤(q:Int) by omega,show¬(q:Int)≥(p:Int) by omega]
 |remove a s e=>
  have:=ok.1
  have:=ok.2
  rw [←hz] at hq⊢
  simp only [Dd.tx,aA,aW,dM] at hz
  have gt:=aeI (A:=t a) (e:=e) (q:=q) (show s≤(t a).length by omega)
  by_cases h1:s≤q
  ·rw [if_pos h1] at gt
   refine⟨a,by simp [Dd.refs],q+e-s,by omega,gt,?_⟩
   simp! only [iz,jx,jW,Dd.toD,Dd.verb,Dd.rest,lU,gh,gA,jy,wZ,v_all,show(s:Int)≤(q:Int) by omega,show(q:Int)≥(s:Int) by omega,show(q:Int)+(e:Int)-(s:Int)=((q+e-s:Nat):Int) by omega]
  ·rw [if_neg h1] at gt
   refine⟨a,by simp [Dd.refs],q,by omega,gt,?_⟩
   simp! only [iz,jx,jW,Dd.toD,Dd.verb,Dd.rest,lU,gh,gA,jy,wZ,v_all,show¬(s:Int)≤(q:Int) by omega,show¬(q:Int)≥(s:Int) by omega]
end Sb
namespace Sb
open PySem PySem.Spec L2 Evl DL
theorem WK{w:List Nat}{p:Nat}(h:p<w.length)(hl:w.length≤16777000):fX (.str (fZ w)) (.int (p:Int))= .ok (.str (s1 (w.getD p 0))):=by
 have:=agb (z:=fZ w) (i:=(p:Int)) (by omega) (by show(p:Int)<(w.length:Int);omega) (by rw [qp];exact uE hl)
 rw [this]
 simp [bA,h]
def Yd(cs:List (Nat×Nat))(x:Nat):Nat:=cs.foldr (fun q x=>Af q.1 q.2 x) x
theorem Tf(cs:List (Nat×Nat))(q:Nat×Nat)(x:Nat):Yd (cs++[q]) x=Yd cs (Af q.1 q.2 x):=by
 unfold Yd
 rw [List.foldr_append]
 rfl
def QS(cs:List (Nat×Nat)):List D:=cs.map fun q=>bM [.str (s1 q.1), .str (s1 q.2)]
theorem agf(a b:Nat):jZ (.str (s1 a)) (.str (s1 b))= .ok (.bool (decide (a=b))):=by
 rw [Jd]
 congr 2
 by_cases h:a=b
 ·subst h
  simp
 ·have:¬s1 a=s1 b:=fun z=>h (aa7 z)
  simp [h,this]
theorem Xi(ns:List (Dd Nat))(g:NG ns)(hl:ns.length≤1000)(k:Nat)(hk:k<ns.length)(p:Nat)(hp:p<((wM ns).getD k []).length):oY [pB ns,fJ (JK ns), .int (k:Int), .int (p:Int)]= .ok (.str (s1 (((wM ns).getD k []).getD p 0))):=by
 obtain⟨T,hT⟩:∃T,T=pB ns:=⟨_,rfl⟩
 obtain⟨S,hS⟩:∃S,S=fJ (JK ns):=⟨_,rfl⟩
 obtain⟨c,hc⟩:∃c,c=((wM ns).getD k []).getD p 0:=⟨_,rfl⟩
 have ix:∀(a:Nat) t,ns[a]? =some t→fX T (.int (a:Int))= .ok (t.toD lU):=fun a t h=>by rw [hT];exact abx h
 have sz:∀a:Nat,a<ns.length→fX S (.int (a:Int))= .ok (.int ((((wM ns).getD a []).length:Nat):Int)):=fun a h=>by
  rw [hS,jD (by rw [yU];exact h),CQ]
 rw [←hT,←hS,←hc]
 refine jA ?_
 show Rt (vM [.bor T, .bor S, .dat (.int (k:Int)), .dat (.int (p:Int)), .un, .un, .un, .un, .un]) _
 unfold vM
 refine fK (ρ' :=[.bor T, .bor S, .dat (.int (k:Int)), .dat (.int (p:Int)), .own (.list (QS [])), .un, .un, .un, .un]) (by simp! only [];rfl) ?_
 refine oV (N:=fun ρ=>∃(n q:Nat) (w:List Nat) (cs:List (Nat×Nat)) (k8:Sl),ρ=[.bor T, .bor S, .dat (.int (n:Int)), .dat (.int (q:Int)), .own (.list (QS cs)), .un, .un, .un,k8]∧ns[n]? =some (.is w)∧q<w.length∧w.length≤40∧Yd cs (w.getD q 0)=c∧cs.length≤1000) (vK (fun n ρ=>∃(q:Nat) (cs:List (Nat×Nat)) (k8:Sl),ρ=[.bor T, .bor S, .dat (.int (n:Int)), .dat (.int (q:Int)), .own (.list (QS cs)), .un, .un, .un,k8]∧n<ns.length∧q<((wM ns).getD n []).length∧Yd cs (((wM ns).getD n []).getD q 0)=c∧cs.length+n≤k) k (by omega) ⟨p,[],_,rfl,hk,hp,hc.symm,by simp⟩ ?_) ?_
 ·rintro n ρ ⟨q,cs,k8,rfl,hn,hq,ha,hcl⟩
  obtain⟨t,et⟩:∃t,t=ns[n]:=⟨_,rfl⟩
  have ht:ns[n]? =some t:=by rw [et];simp [hn]
  have ixn:=ix n t ht
  have ok:=g.ok n t ht
  have tx:=g.tx n t ht
  have lt:=g.lt n t ht
  have szn:=sz n hn
  have i0:fX (t.toD lU) (.int 0)= .ok (.str t.verb):=gh _ _
  by_cases hw:∃w,t= .is w
  ·obtain⟨w,rfl⟩:=hw
   left
   rw [tx] at ha hq
   exact⟨by simp! only [ixn,i0,Dd.verb],n,q,w,cs,_,rfl,ht,hq,ok.2.1,ha,by omega⟩
  ·right
   have nd:∀w,t≠ .is w:=fun w e=>hw ⟨w,e⟩
   have hv:¬t.verb=pW:=by
    cases t with
    |is w=>exact absurd rfl (nd w)
    |_=>simp only [Dd.verb];decide+kernel
   rw [tx] at hq ha szn
   obtain⟨a,har,p',hp',hg,hb⟩:=Yo t nd (JK ns) (fun a=>(wM ns).getD a []) (fun a h=>⟨by rw [yU];have:=lt a h;omega,CQ ns a⟩) (fun a _=>g.le a) ok q hq
   have an:=lt a har
   rw [←hS] at hb
   rw [hg] at ha
   refine⟨by simp! only [ixn,i0,hv],a,an,?_⟩
   refine ig (ρ' :=[.bor T, .bor S, .dat (.int (n:Int)), .dat (.int (q:Int)), .own (.list (QS cs)), .un, .un, .un, .dat (t.toD lU)]) (by simp! only [ixn]) ?_
   have fin:∀(cs' :List (Nat×Nat)),Yd cs' (((wM ns).getD a []).getD p' 0)=c→cs'.length≤cs.length+1→Nx (nq (gT [(gN 2),(gN 3)]) (fu iz [(dZ 8),(gR 1),(eG fX (gR 1) (dZ 2)),(dZ 3)]) [.bor T, .bor S, .dat (.int (n:Int)), .dat (.int (q:Int)), .own (.list (QS cs')), .un, .un, .un, .dat (t.toD lU)]) (fun ρ=>∃(q:Nat) (cs:List (Nat×Nat)) (k8:Sl),ρ=[.bor T, .bor S, .dat (.int (a:Int)), .dat (.int (q:Int)), .own (.list (QS cs)), .un, .un, .un,k8]∧a<ns.length∧q<((wM ns).getD a []).length∧Yd cs (((wM ns).getD a []).getD q 0)=c∧cs.length+a≤k):=fun cs' h1 h2=>by
    refine jn (ρ' :=[.bor T, .bor S, .dat (.int (a:Int)), .dat (.int (p' :Int)), .own (.list (QS cs')), .un, .un, .un, .dat (t.toD lU)]) ?_ ⟨p',cs',_,rfl,by omega,hp',h1,by omega⟩
    have ec:fu iz [(dZ 8),(gR 1),(eG fX (gR 1) (dZ 2)),(dZ 3)] [.bor T, .bor S, .dat (.int (n:Int)), .dat (.int (q:Int)), .own (.list (QS cs')), .un, .un, .un, .dat (t.toD lU)]= .ok (.tuple [.int (a:Int), .int (p' :Int)]):=nY rfl rfl (by simp! only [szn]) rfl hb
    simp only [nq,ec]
    rfl
   by_cases hpt:∃b s o,t= .put b s o
   ·obtain⟨b,s,o,rfl⟩:=hpt
    have cl:(QS cs).length<sizeLine:=by unfold QS;rw [aC];exact lO (by omega)
    refine ig (ρ' :=[.bor T, .bor S, .dat (.int (n:Int)), .dat (.int (q:Int)), .own (.list (QS (cs++[(s,o)]))), .un, .un, .un, .dat ((Dd.put b s o).toD lU)]) ?_ (fin (cs++[(s,o)]) (by rw [Tf];exact ha) (by simp))
    simp! only [Dd.toD,Dd.verb,Dd.rest,gh,jy,wZ,sG,aQ,aG,cl,if_true]
    simp only [QS,cR,bf,dN]
   ·have hv2:¬t.verb=lV:=by
     cases t with
     |put b s o=>exact absurd ⟨b,s,o,rfl⟩ hpt
     |_=>simp only [Dd.verb];decide+kernel
    have hc2:t.chg (((wM ns).getD a []).getD p' 0)=((wM ns).getD a []).getD p' 0:=by
     cases t with
     |put b s o=>exact absurd ⟨b,s,o,rfl⟩ hpt
     |_=>rfl
    rw [hc2] at ha
    exact ig (ρ' :=[.bor T, .bor S, .dat (.int (n:Int)), .dat (.int (q:Int)), .own (.list (QS cs)), .un, .un, .un, .dat (t.toD lU)]) (by simp! only [i0,hv2]) (fin cs ha (by omega))
 ·rintro ρ ⟨n,q,w,cs,k8,rfl,hx,hq,hw,ha,hcl⟩
  have ixn:=ix n _ hx
  have iw:=WK hq (by omega)
  refine fK (ρ' :=[.bor T, .bor S, .dat (.int (n:Int)), .dat (.int (q:Int)), .own (.list (QS cs)), .dat (.str (s1 (w.getD q 0))), .un, .un,k8]) (by simp! only [ixn,Dd.toD,Dd.verb,Dd.rest,gA,iw]) ?_
  refine oV (N:=fun ρ=>∃d5 d6:Sl,ρ=[.bor T, .bor S, .dat (.int (n:Int)), .dat (.int (q:Int)), .dat (.list (QS cs)), .dat (.str (s1 c)),d5,d6,k8]) ?_ (fun ρ ⟨d5,d6,e⟩=>by subst e;exact iI rfl rfl)
  have loop:=mD (mi:=YD (dZ 4)) (g:=gT [(gN 6),(gN 7)]) (body:=je (eG jZ (dZ 5) (dZ 6)) (gD 5 (dZ 7)) fU) (ρ:=[.bor T, .bor S, .dat (.int (n:Int)), .dat (.int (q:Int)), .dat (.list (QS cs)), .dat (.str (s1 (w.getD q 0))), .un, .un,k8]) (ds:=(QS cs).reverse) (fun i ρ=>∃(y:Nat) (d5 d6:Sl),ρ=[.bor T, .bor S, .dat (.int (n:Int)), .dat (.int (q:Int)), .dat (.list (QS cs)), .dat (.str (s1 y)),d5,d6,k8]∧Yd (cs.take (cs.length-i)) y=c) (by simp! only [YD]) ⟨w.getD q 0,_,_,rfl,by rw [Nat.sub_zero,bO];exact ha⟩ (by
   rintro i d ρ hd ⟨y,d5,d6,rfl,hy⟩
   have hi:=(au.mp hd).1
   rw [bK] at hi
   rw [List.getElem?_reverse hi] at hd
   unfold QS at hd hi
   rw [aC] at hi
   rw [aF,aC,aJ] at hd
   obtain⟨⟨o,w⟩,h1,rfl⟩:=hd
   have et:cs.take (cs.length-i)=cs.take (cs.length-(i+1))++[(o,w)]:=by
    rw [show cs.length-i=(cs.length-1-i)+1 by omega,bF,h1,show cs.length-(i+1)=cs.length-1-i by omega]
    rfl
   rw [et,Tf] at hy
   refine⟨_,YW,?_⟩
   simp only [set_0,kZ]
   have es:=agf y o
   by_cases e:y=o
   ·rw [decide_eq_true e] at es
    refine KD (by simp only [j9,jQ,lu,iV];exact es) (jn rfl ⟨w,_,_,rfl,?_⟩)
    simpa [Af,e] using hy
   ·rw [decide_eq_false e] at es
    refine Jo (by simp only [j9,jQ,lu,iV];exact es) (jn rfl ⟨y,_,_,rfl,?_⟩)
    simpa [Af,e] using hy)
  obtain⟨ρ2,e2,y,d5,d6,rfl,hy⟩:=loop
  have l0:(QS cs).reverse.length=cs.length:=by rw [bK];unfold QS;rw [aC]
  rw [l0,Nat.sub_self] at hy
  have yc:y=c:=hy
  subst yc
  refine⟨_,?_,d5,d6,rfl⟩
  show KH 4 _ _=_
  unfold KH
  exact e2
end Sb
namespace Sb
open PySem PySem.Spec L2 Evl DL
def sgB:List Nat→Bool
 |[c]=>decide (c∈GF)
 |_=>false
theorem acL(x:Str)(h:x.length≤sizeLine):tE [.str x]= .ok (.bool (sgB x.cps.toList)):=by
 have e1:x.length=x.cps.toList.length:=str_len x
 match hx:x.cps.toList with
 |[c]=>
  have hl:(x.length:Int)=1:=by rw [e1,hx];rfl
  simp! only [tE,Dm,Pu h,hl,Hz,hx]
  rfl
 |[]=>
  have hl:¬(x.length:Int)=1:=by rw [e1,hx];decide
  simp! only [tE,Dm,Pu h,hl]
  rfl
 |a::b::r=>
  have hl:¬(x.length:Int)=1:=by rw [e1,hx];simp;omega
  simp! only [tE,Dm,Pu h,hl]
  rfl
end Sb
namespace Sb
open PySem PySem.Spec L2 Evl DL
abbrev jC:Str:="word"
abbrev jH:Str:="place"
abbrev mF:Str:="many"
abbrev lX:Str:="sign"
abbrev jE:Str:="pattern"
abbrev kh:Str:="signs"
theorem UW:¬(jC=jH):=by decide+kernel
theorem Xv:¬(jC=mF):=by decide+kernel
theorem Xm:¬(jC=lX):=by decide+kernel
theorem MP:¬(jC=jE):=by decide+kernel
theorem Vu:¬(jC=kh):=by decide+kernel
theorem Ib:¬(jH=jC):=by decide+kernel
theorem Vv:¬(jH=mF):=by decide+kernel
theorem Ug:¬(jH=lX):=by decide+kernel
theorem KY:¬(jH=jE):=by decide+kernel
theorem Qw:¬(jH=kh):=by decide+kernel
theorem Jw:¬(mF=jC):=by decide+kernel
theorem Uq:¬(mF=jH):=by decide+kernel
theorem Xn:¬(mF=lX):=by decide+kernel
theorem Oo:¬(mF=jE):=by decide+kernel
theorem Uj:¬(mF=kh):=by decide+kernel
theorem JF:¬(lX=jC):=by decide+kernel
theorem Vs:¬(lX=jH):=by decide+kernel
theorem Xu:¬(lX=mF):=by decide+kernel
theorem MT:¬(lX=jE):=by decide+kernel
theorem Vt:¬(lX=kh):=by decide+kernel
theorem Nf:¬(jE=jC):=by decide+kernel
theorem KQ:¬(jE=jH):=by decide+kernel
theorem NP:¬(jE=mF):=by decide+kernel
theorem O5:¬(jE=lX):=by decide+kernel
theorem K6:¬(jE=kh):=by decide+kernel
theorem Gh:¬(kh=jC):=by decide+kernel
theorem QD:¬(kh=jH):=by decide+kernel
theorem Ve:¬(kh=mF):=by decide+kernel
theorem UL:¬(kh=lX):=by decide+kernel
theorem KC:¬(kh=jE):=by decide+kernel
theorem k_all:(¬jC=jH)∧(¬jC=mF)∧(¬jC=lX)∧(¬jC=jE)∧(¬jC=kh)∧(¬jH=jC)∧(¬jH=mF)∧(¬jH=lX)∧(¬jH=jE)∧(¬jH=kh)∧(¬mF=jC)∧(¬mF=jH)∧(¬mF=lX)∧(¬mF=jE)∧(¬mF=kh)∧(¬lX=jC)∧(¬lX=jH)∧(¬lX=mF)∧(¬lX=jE)∧(¬lX=kh)∧(¬jE=jC)∧(¬jE=jH)∧(¬jE=mF)∧(¬jE=lX)∧(¬jE=kh)∧(¬kh=jC)∧(¬kh=jH)∧(¬kh=mF)∧(¬kh=lX)∧(¬kh=jE):=⟨UW,Xv,Xm,MP,Vu,Ib,Vv,Ug,KY,Qw,Jw,Uq,Xn,Oo,Uj,JF,Vs,Xu,MT,Vt,Nf,KQ,NP,O5,K6,Gh,QD,Ve,UL,KC⟩
theorem aic{c:Nat}(h:97≤c∧c≤122):c∈("abcdefghijklmnopqrstuvwxyz":Str).cps.toList:=by
 have e:("abcdefghijklmnopqrstuvwxyz":Str).cps.toList=(cC 26).map (97+·):=by decide+kernel
 rw [e]
 exact bV.mpr ⟨c-97,by simp;omega,by omega⟩
theorem ahS{c:Nat}(h:48≤c∧c≤57):c∈("0123456789":Str).cps.toList:=by
 have e:("0123456789":Str).cps.toList=(cC 10).map (48+·):=by decide+kernel
 rw [e]
 exact bV.mpr ⟨c-48,by simp;omega,by omega⟩
theorem Ot(w:List Nat)(h:yw w):CV [.str (fZ w)]= .ok (.bool true):=by
 have bl:=Ij (a:=w) (by have:=h.2.1;omega)
 have h1:=h.1
 have h2:=h.2.1
 refine jA ?_
 show Rt (Ir [.dat (.str (fZ w)), .un]) _
 unfold Ir
 refine fK (ρ' :=[.dat (.str (fZ w)), .un]) (by simp! only [jd,bl,show(1:Int)≤((w.length:Nat):Int) by omega,show((w.length:Nat):Int)≤8 by omega]) ?_
 refine oV (N:=fun ρ=>∃k:Sl,ρ=[.dat (.str (fZ w)),k]) (mD (ds:=w.map fun c=>aV (s1 c)) (fun _ ρ=>∃k:Sl,ρ=[.dat (.str (fZ w)),k]) rfl ⟨_,rfl⟩ ?_) ?_
 ·rintro i d ρ hd ⟨k,rfl⟩
  rw [aF,aJ] at hd
  obtain⟨c,hc,rfl⟩:=hd
  have hm:=aic (h.2.2 c (aX hc))
  refine⟨_,oR,jn (ρ' :=[.dat (.str (fZ w)), .dat (.str (s1 c))]) ?_ ⟨_,rfl⟩⟩
  have e:Hz true (.str (s1 c)) (.str "abcdefghijklmnopqrstuvwxyz")= .ok (.bool false):=by
   simp only [Hz,s1,if_true]
   rw [decide_eq_true hm]
   rfl
  simp only [set_0,kZ]
  simp! only [e]
 ·rintro ρ ⟨k,rfl⟩
  exact iI rfl rfl
theorem Ku(w:List Nat)(m:Nat)(h1:1≤w.length)(h2:w.length≤m)(h3:m≤1000)(h:∀c∈w,c∈GF):sS [.str (fZ w), .int (m:Int)]= .ok (.str (fZ w)):=by
 have bl:=Ij (a:=w) (by omega)
 refine jA ?_
 show Rt (Em [.dat (.str (fZ w)), .dat (.int (m:Int)), .un]) _
 unfold Em
 refine fK (ρ' :=[.dat (.str (fZ w)), .dat (.int (m:Int)), .un]) (by simp! only [jd,bl,show(1:Int)≤((w.length:Nat):Int) by omega,show((w.length:Nat):Int)≤(m:Int) by omega]) ?_
 refine oV (N:=fun ρ=>∃k:Sl,ρ=[.dat (.str (fZ w)), .dat (.int (m:Int)),k]) (mD (ds:=w.map fun c=>aV (s1 c)) (fun _ ρ=>∃k:Sl,ρ=[.dat (.str (fZ w)), .dat (.int (m:Int)),k]) rfl ⟨_,rfl⟩ ?_) ?_
 ·rintro i d ρ hd ⟨k,rfl⟩
  rw [aF,aJ] at hd
  obtain⟨c,hc,rfl⟩:=hd
  have hm:=h c (aX hc)
  refine⟨_,oR,jn (ρ' :=[.dat (.str (fZ w)), .dat (.int (m:Int)), .dat (.str (s1 c))]) ?_ ⟨_,rfl⟩⟩
  have e:tE [.str (s1 c)]= .ok (.bool true):=by
   rw [acL (s1 c) (show(1:Nat)≤sizeLine by decide)]
   show ER.ok (PyData.bool (decide (c∈GF)))=_
   rw [decide_eq_true hm]
  simp only [set_0,kZ]
  simp! only [e]
 ·rintro ρ ⟨k,rfl⟩
  exact iI rfl rfl
theorem aaD(n:Nat):Str.ofString (toString ((n:Nat):Int))=fZ (TL.numL n):=TL.ext_tl (TL.tl_num n)
theorem acT{n:Nat}(h:1≤n):∃c r,TL.numL n=c::r∧c≠48:=by
 induction n using Nat.strongRecOn with
 |_ n ih=>
  by_cases z:n<10
  ·exact⟨48+n,[],TL.numL_lt z,by omega⟩
  ·obtain⟨c,r,e,hc⟩:=ih (n/10) (by omega) (by omega)
   exact⟨c,r++[48+n%10],by rw [TL.numL_step (by omega),e];rfl,hc⟩
theorem Gu(n m:Nat)(h:n≤m)(hn:n<10 ^ 19):wO [.str (fZ (TL.numL n)), .int (m:Int)]= .ok (.int (n:Int)):=by
 obtain⟨w,hw⟩:∃w,w=TL.numL n:=⟨_,rfl⟩
 have l1:w.length≤19:=by rw [hw];exact TL.numL_len (by omega) hn
 have l0:1≤w.length:=by
  rw [hw]
  have:=List.length_pos_iff.mpr (TL.numL_ne n)
  omega
 have bl:=Ij (a:=w) (by omega)
 have dg:∀c∈w,48≤c∧c≤57:=by rw [hw];exact TL.numL_digits n
 have hd:∀c r,w=c::r→r≠[]→c≠48:=fun c r e hr=>by
  by_cases z:n<10
  ·rw [hw,TL.numL_lt z] at e
   injection e with _ e
   exact absurd e.symm hr
  ·obtain⟨c',r',e',hc⟩:=acT (n:=n) (by omega)
   rw [hw,e'] at e
   injection e with e _
   rw [←e]
   exact hc
 have it:O3 [.str (fZ w)]= .ok (.int (n:Int)):=by
  have e1:=TL.int_num (n:=n) (by rw [←hw];omega)
  rw [aaD,←hw] at e1
  have e2:(fZ w).length≤640:=by rw [qp];omega
  simp only [O3,e1,e2,if_true]
 rw [←hw]
 refine jA ?_
 show Rt (Bu [.dat (.str (fZ w)), .dat (.int (m:Int)), .un, .un]) _
 unfold Bu
 refine fK (ρ' :=[.dat (.str (fZ w)), .dat (.int (m:Int)), .un, .un]) ?_ ?_
 ·by_cases g:((w.length:Nat):Int)>1
  ·obtain⟨c,r,e⟩:∃c r,w=c::r:=by
    cases w with
    |nil=>simp at l0
    |cons c r=>exact⟨c,r,rfl⟩
   have hr:r≠[]:=by
    intro z
    rw [e,z] at g
    simp at g
   have ne:=hd c r e hr
   have ix:fX (.str (fZ w)) (.int 0)= .ok (.str (s1 c)):=by
    have:=WK (w:=w) (p:=0) (by omega) (by omega)
    rw [e] at this⊢
    exact this
   have eq:jZ (.str (s1 c)) (.str "0")= .ok (.bool false):=by
    have e0:("0":Str)=s1 48:=by decide+kernel
    rw [e0,agf,decide_eq_false ne]
   simp! only [jd,bl,show(1:Int)≤((w.length:Nat):Int) by omega,show((w.length:Nat):Int)≤19 by omega,g,ix,eq]
  ·simp! only [jd,bl,show(1:Int)≤((w.length:Nat):Int) by omega,show((w.length:Nat):Int)≤19 by omega,g]
 refine oV (N:=fun ρ=>∃k:Sl,ρ=[.dat (.str (fZ w)), .dat (.int (m:Int)),k, .un]) (mD (ds:=w.map fun c=>aV (s1 c)) (fun _ ρ=>∃k:Sl,ρ=[.dat (.str (fZ w)), .dat (.int (m:Int)),k, .un]) rfl ⟨_,rfl⟩ ?_) ?_
 ·rintro i d ρ hd ⟨k,rfl⟩
  rw [aF,aJ] at hd
  obtain⟨c,hc,rfl⟩:=hd
  have hm:=ahS (dg c (aX hc))
  refine⟨_,oR,jn (ρ' :=[.dat (.str (fZ w)), .dat (.int (m:Int)), .dat (.str (s1 c)), .un]) ?_ ⟨_,rfl⟩⟩
  have e:Hz true (.str (s1 c)) (.str "0123456789")= .ok (.bool false):=by
   simp only [Hz,s1,if_true]
   rw [decide_eq_true hm]
   rfl
  simp only [set_0,kZ]
  simp! only [e]
 ·rintro ρ ⟨k,rfl⟩
  refine fK (ρ' :=[.dat (.str (fZ w)), .dat (.int (m:Int)),k, .dat (.int (n:Int))]) (by simp! only [it]) ?_
  refine fK (ρ' :=[.dat (.str (fZ w)), .dat (.int (m:Int)),k, .dat (.int (n:Int))]) (by simp! only [show¬(n:Int)>(m:Int) by omega]) ?_
  exact iI rfl rfl
theorem YL(w:List Nat)(h:yw w):ju [.str jC, .str (fZ w)]= .ok (.str (fZ w)):=by
 simp! only [ju,tH,Ot w h]
theorem Yi(n:Nat)(h:n<10 ^ 19):ju [.str jH, .str (fZ (TL.numL n))]= .ok (.int (n:Int)):=by
 have e:=Gu n (10 ^ 19) (by omega) h
 have e2:sV (.int 10) (.int 19)= .ok (.int (((10 ^ 19:Nat)):Int)):=by
  rw [uP (by decide) (by decide) (by decide)]
  rfl
 simp! only [ju,tH,k_all,e2,e]
theorem Y8(n:Nat)(h:n≤MOST):ju [.str mF, .str (fZ (TL.numL n))]= .ok (.int (n:Int)):=by
 have hm:MOST<10 ^ 19:=by decide
 have e:=Gu n MOST h (by omega)
 have e2:((MOST:Nat):Int)=1152921504606846976:=by decide
 rw [e2] at e
 simp! only [ju,tH,k_all,e]
theorem Zh(c:Nat)(h:c∈GF):ju [.str lX, .str (s1 c)]= .ok (.str (s1 c)):=by
 have e:sS [.str (s1 c), .int 1]= .ok (.str (s1 c)):=Ku [c] 1 (by simp) (by simp) (by omega) (by simpa using h)
 simp! only [ju,tH,k_all,e]
theorem Yr(w:List Nat)(h1:1≤w.length)(h2:w.length≤40)(h:∀c∈w,c∈GF):ju [.str kh, .str (fZ w)]= .ok (.str (fZ w)):=by
 have e:=Ku w 40 h1 h2 (by omega) h
 have e2:(((40:Nat)):Int)=40:=rfl
 rw [e2] at e
 simp! only [ju,tH,k_all,e]
end Sb
namespace Sb
open PySem PySem.Spec L2 Evl DL
def Dd.args:Dd (List Nat)→List (Str×List Nat×D)
 | .is w=>[(kh,w, .str (fZ w))]
 | .join a b=>[(jC,a,iD a),(jC,b,iD b)]
 | .times a m=>[(jC,a,iD a),(mF,TL.numL m, .int (m:Int))]
 | .cut a s e=>[(jC,a,iD a),(jH,TL.numL s, .int (s:Int)),(jH,TL.numL e, .int (e:Int))]
 | .turn a=>[(jC,a,iD a)]
 | .put a s o=>[(jC,a,iD a),(lX,[s], .str (s1 s)),(lX,[o], .str (s1 o))]
 | .insert a p b=>[(jC,a,iD a),(jH,TL.numL p, .int (p:Int)),(jC,b,iD b)]
 | .remove a s e=>[(jC,a,iD a),(jH,TL.numL s, .int (s:Int)),(jH,TL.numL e, .int (e:Int))]
theorem Dd.Iw(d:Dd (List Nat)):d.args.map (fun q=>q.2.2)=d.rest iD:=by cases d<;>rfl
def Dd.row(w:List Nat)(d:Dd (List Nat)):List (List Nat):=w::d.verb.cps.toList::d.args.map (fun q=>q.2.1)
structure Kc(w:List Nat)(d:Dd (List Nat)):Prop where
 w:yw w
 r:∀a∈d.refs,yw a
 v:∀q∈d.args,ju [.str q.1, .str (fZ q.2.1)]= .ok q.2.2∧yq q.2.2 .none= .ok (.bool false)∧(Fg [q.2.2]= .ok (.str (fZ q.2.1)))∧q.2.1.length≤40∧∀c∈q.2.1,48≤c∧c≠59
theorem af9:∀c∈GF,48≤c∧c≠59:=by decide+kernel
theorem abb(n:Nat)(h:n<10 ^ 19):Fg [.int (n:Int)]= .ok (.str (fZ (TL.numL n))):=by
 have e:((n:Int)).natAbs.log2<1920:=by
  have h2:n<2 ^ 100:=Nat.lt_trans h (by decide)
  have:((n:Int)).natAbs=n:=rfl
  rw [this]
  by_cases z:n=0
  ·subst z
   decide
  ·have:=(Nat.log2_lt z).mpr h2
   omega
 simp only [Fg,e,if_true]
 exact congrArg (fun x=>ER.ok (aV x)) (aaD n)
theorem af4{w:List Nat}(h:yw w):∀c∈w,48≤c∧c≠59:=fun c hc=>by
 have:=h.2.2 c hc
 omega
theorem adE(n:Nat):∀c∈TL.numL n,48≤c∧c≠59:=fun c hc=>by
 have:48≤c∧c≤57:=TL.numL_digits n c hc
 omega
theorem ad5(w:List Nat)(hw:yw w)(d:Dd (List Nat))(hr:∀a∈d.refs,yw a)(t:List Nat→List Nat)(ok:d.ok t)(hm:∀a∈d.refs,(t a).length≤MOST):Kc w d where
 w:=hw
 r:=hr
 v:=by
  have hM:MOST<10 ^ 19:=by decide
  have wd:∀a,yw a→ju [.str jC, .str (fZ a)]= .ok (iD a)∧yq (iD a) .none= .ok (.bool false)∧(Fg [iD a]= .ok (.str (fZ a)))∧a.length≤40∧∀c∈a,48≤c∧c≠59:=fun a h=>⟨YL a h,rfl,rfl,by have:=h.2.1;omega,af4 h⟩
  have pl:∀n:Nat,n<10 ^ 19→ju [.str jH, .str (fZ (TL.numL n))]= .ok (.int (n:Int))∧yq (aH (n:Int)) .none= .ok (.bool false)∧(Fg [.int (n:Int)]= .ok (.str (fZ (TL.numL n))))∧(TL.numL n).length≤40∧∀c∈TL.numL n,48≤c∧c≠59:=fun n h=>⟨Yi n h,rfl,abb n h,by have:=TL.numL_len (n:=n) (k:=19) (by omega) h;omega,adE n⟩
  have my:∀n:Nat,n≤MOST→ju [.str mF, .str (fZ (TL.numL n))]= .ok (.int (n:Int))∧yq (aH (n:Int)) .none= .ok (.bool false)∧(Fg [.int (n:Int)]= .ok (.str (fZ (TL.numL n))))∧(TL.numL n).length≤40∧∀c∈TL.numL n,48≤c∧c≠59:=fun n h=>⟨Y8 n h,rfl,abb n (by omega),by have:=TL.numL_len (n:=n) (k:=19) (by omega) (by omega);omega,adE n⟩
  have sg:∀c:Nat,c∈GF→ju [.str lX, .str (fZ [c])]= .ok (.str (s1 c))∧yq (aV (s1 c)) .none= .ok (.bool false)∧(Fg [.str (s1 c)]= .ok (.str (fZ [c])))∧[c].length≤40∧∀x∈[c],48≤x∧x≠59:=fun c h=>by
   refine⟨Zh c h,rfl,rfl,by simp,fun x hx=> ?_⟩
   have:x=c:=by simpa using hx
   rw [this]
   exact af9 c h
  have len:∀a∈d.refs,∀n:Nat,n≤(t a).length→n<10 ^ 19:=fun a ha n h=>by
   have:=hm a ha
   omega
  cases d with
  |is w=>
   intro q hq
   have:q=(kh,w, .str (fZ w)):=by simpa [Dd.args] using hq
   subst this
   exact⟨Yr w ok.1 ok.2.1 ok.2.2,rfl,rfl,ok.2.1,fun c hc=>af9 c (ok.2.2 c hc)⟩
  |join a b=>
   intro q hq
   simp only [Dd.args,aO,bB,or_false] at hq
   rcases hq with rfl|rfl
   ·exact wd a (hr a (by simp [Dd.refs]))
   ·exact wd b (hr b (by simp [Dd.refs]))
  |times a m=>
   intro q hq
   simp only [Dd.args,aO,bB,or_false] at hq
   rcases hq with rfl|rfl
   ·exact wd a (hr a (by simp [Dd.refs]))
   ·exact my m ok.1
  |cut a s e=>
   intro q hq
   simp only [Dd.args,aO,bB,or_false] at hq
   rcases hq with rfl|rfl|rfl
   ·exact wd a (hr a (by simp [Dd.refs]))
   ·exact pl s (len a (by simp [Dd.refs]) s (bJ ok.1 ok.2))
   ·exact pl e (len a (by simp [Dd.refs]) e ok.2)
  |turn a=>
   intro q hq
   simp only [Dd.args,aO,bB,or_false] at hq
   subst hq
   exact wd a (hr a (by simp [Dd.refs]))
  |put a s o=>
   intro q hq
   simp only [Dd.args,aO,bB,or_false] at hq
   rcases hq with rfl|rfl|rfl
   ·exact wd a (hr a (by simp [Dd.refs]))
   ·exact sg s ok.1
   ·exact sg o ok.2
  |insert a p b=>
   intro q hq
   simp only [Dd.args,aO,bB,or_false] at hq
   rcases hq with rfl|rfl|rfl
   ·exact wd a (hr a (by simp [Dd.refs]))
   ·exact pl p (len a (by simp [Dd.refs]) p ok.1)
   ·exact wd b (hr b (by simp [Dd.refs]))
  |remove a s e=>
   intro q hq
   simp only [Dd.args,aO,bB,or_false] at hq
   rcases hq with rfl|rfl|rfl
   ·exact wd a (hr a (by simp [Dd.refs]))
   ·exact pl s (len a (by simp [Dd.refs]) s (bJ ok.1 ok.2))
   ·exact pl e (len a (by simp [Dd.refs]) e ok.2)
theorem N5(d:Dd (List Nat)):1≤d.args.length∧d.args.length≤3:=by cases d<;>simp [Dd.args]
theorem adK(d:Dd (List Nat)):fZ d.verb.cps.toList=d.verb:=TL.ext_tl rfl
theorem aeK(d:Dd (List Nat)):d.verb.cps.toList.length≤10∧∀c∈d.verb.cps.toList,48≤c∧c≠59:=by cases d<;>simp only [Dd.verb]<;>decide+kernel
theorem Cz{w:List Nat}{d:Dd (List Nat)}(h:Kc w d):∀p∈d.row w,p.length≤40∧∀c∈p,48≤c∧c≠59:=fun p hp=>by
 unfold Dd.row at hp
 rcases aO.mp hp with rfl|hp
 ·exact⟨by have:=h.w.2.1;omega,af4 h.w⟩
 ·rcases aO.mp hp with rfl|hp
  ·have:=aeK d
   exact⟨by omega,this.2⟩
  ·obtain⟨q,hq,rfl⟩:=bV.mp hp
   exact(h.v q hq).2.2.2
theorem RB:∀xs:List Str,PL (xs.map aV)=some xs
 |[]=>rfl
 |x::xs=>by
  show(PL (xs.map aV)).map (x::·)=_
  rw [RB xs]
  rfl
theorem sum_le{ls:List (List Nat)}{m:Nat}(h:∀l∈ls,l.length≤m):((ls.map fZ).map (·.length)).sum≤ls.length*m:=by
 induction ls with
 |nil=>simp
 |cons l ls ih=>
  have h1:=h l (by simp)
  have h2:=ih fun x hx=>h x (aN _ hx)
  simp only [bf,List.sum_cons,qp,aZ,Nat.add_mul,Nat.one_mul]
  omega
theorem Zb(a:Str)(ls:List (List Nat)):Txt.join a (ls.map fZ)=fZ (TL.joinL a.cps.toList ls):=by
 rw [TL.join_eq]
 refine TL.ext_tl ?_
 rw [TL.tl_join]
 have e:(ls.map fZ).map TL.tl=ls:=by
  rw [cD]
  exact List.map_id' ls
 rw [e]
theorem Vp(a:Str)(ls:List (List Nat))(m:Nat)(h:∀l∈ls,l.length≤m)(hb:ls.length*m+ls.length*a.length≤16777216):vR a (.list (ls.map fun l=>aV (fZ l)))= .ok (.str (fZ (TL.joinL a.cps.toList ls))):=by
 have e:(ls.map fun l=>aV (fZ l))=(ls.map fZ).map aV:=by rw [cD];rfl
 have h2:=sum_le h
 have h3:((ls.map fZ).map (·.length)).sum+(ls.map fZ).length*a.length≤16777216:=by
  rw [aC]
  omega
 rw [e]
 simp only [vR,RB,h3,if_true,Zb]
theorem ae0{w:List Nat}{d:Dd (List Nat)}(h:Kc w d):yX [iD w,d.toD iD]= .ok (.str (fZ (TL.joinL [32] (d.row w)))):=by
 have al:=N5 d
 have lc:∀ρ:DL.Env,iT (dZ 1) ρ= .ok (.str d.verb::d.args.map (fun q=>q.2.2))→ρ.length=3→Lq (iT (dZ 1)) (gN 2) (eC (.bool true)) (fu Fg [(dZ 2)]) [2] ρ= .ok (.list (((pW,d.verb.cps.toList,aV d.verb)::d.args).map fun q=>aV (fZ q.2.1))):=fun ρ hi hl=>by
  refine Jr (fun q:Str×List Nat×D=>q.2.2) _ (xs:=(pW,d.verb.cps.toList,aV d.verb)::d.args) hi (fun q hq=> ?_) (by simp only [aZ];exact uE (by omega))
  have hb:Fg [q.2.2]= .ok (.str (fZ q.2.1)):=by
   rcases aO.mp hq with rfl|hq
   ·show ER.ok (aV d.verb)=_
    rw [adK]
   ·exact(h.v q hq).2.2.1
  have l3:(sH ρ [2]).length=3:=by simp [sH,hl]
  refine⟨_,oR,rfl,nW (x:=q.2.2) ?_ hb⟩
  simp [dZ,l3]
 have e1:yX [iD w,d.toD iD]=Bx vR (eC (.str " ")) (eG jw (kJ [(dZ 0)]) (Lq (iT (dZ 1)) (gN 2) (eC (.bool true)) (fu Fg [(dZ 2)]) [2])) [.dat (iD w), .dat (d.toD iD), .un]→True:=fun _=>trivial
 refine jA ?_
 show Rt (EY [.dat (iD w), .dat (d.toD iD), .un]) _
 unfold EY
 refine iI ?_ rfl
 have e2:=lc [.dat (iD w), .dat (d.toD iD), .un] (by rw [d.Iw];rfl) rfl
 have e3:jw (.list [iD w]) (.list (((pW,d.verb.cps.toList,aV d.verb)::d.args).map fun q=>aV (fZ q.2.1)))= .ok (.list ((d.row w).map fun l=>aV (fZ l))):=by
  rw [Ud (by simp only [aC,aZ,cG];exact uE (by omega))]
  simp only [Dd.row,bf,cD,cX,dh]
  rfl
 have e4:=Vp " " (d.row w) 40 (fun l hl=>(Cz h l hl).1) (by
  have:(" ":Str).length=1:=by decide+kernel
  rw [this]
  simp only [Dd.row,aZ,aC]
  omega)
 have e5:(" ":Str).cps.toList=[32]:=by decide+kernel
 rw [e5] at e4
 simp only [Bx,eC,iV,j9,e2,Z9,jQ,e3,e4]
theorem Vo(ts:List (Str×List Nat×D))(hl:ts.length≤100)(h:∀q∈ts,ju [.str q.1, .str (fZ q.2.1)]= .ok q.2.2∧yq q.2.2 .none= .ok (.bool false)):Cd [.list (ts.map fun q=>aV q.1), .list (ts.map fun q=>aV (fZ q.2.1))]= .ok (.list (ts.map fun q=>q.2.2)):=by
 obtain⟨K,hK⟩:∃K,K=di (ts.map fun q=>aV q.1):=⟨_,rfl⟩
 obtain⟨W,hW⟩:∃W,W=di (ts.map fun q=>aV (fZ q.2.1)):=⟨_,rfl⟩
 have bk:jr [K]= .ok (.int ((ts.length:Nat):Int)):=by rw [hK];simp
 have bw:jr [W]= .ok (.int ((ts.length:Nat):Int)):=by rw [hW];simp
 rw [←hK,←hW]
 refine jA ?_
 show Rt (Bf [.dat K, .dat W, .un, .un, .un, .un]) _
 unfold Bf
 refine fK (ρ' :=[.dat K, .dat W, .un, .un, .un, .un]) (by simp! only [bk,bw]) ?_
 refine fK (ρ' :=[.dat K, .dat W, .own (.list []), .un, .un, .un]) (by simp! only []) ?_
 refine oV (N:=fun ρ=>∃k3 k4 k5:Sl,ρ=[.dat K, .dat W, .own (.list (ts.map fun q=>q.2.2)),k3,k4,k5]) ?_ ?_
 ·have loop:=mD (mi:=iZ (dZ 0) (dZ 1)) (g:=gT [(gN 3),(gN 4)]) (body:=(fH (gD 5 (fu ju [(dZ 3),(dZ 4)]))
 (fH (je (eG yq (dZ 5) (eC .none)) (gG (eC .none)) fU)
 (sG 2 (dZ 5))))) (ρ:=[.dat K, .dat W, .own (.list []), .un, .un, .un]) (ds:=ts.map fun q=>bM [.str q.1, .str (fZ q.2.1)])
   (fun i ρ=>∃k3 k4 k5:Sl,ρ=[.dat K, .dat W, .own (.list ((ts.take i).map fun q=>q.2.2)),k3,k4,k5])
   (by
     rw [hK,hW]
     simp! only [iZ,m7,Od]
     rw [List.zipWith_map_left,List.zipWith_map_right,List.zipWith_self]) ⟨_,_,_,rfl⟩ (by
    rintro i d ρ hd ⟨k3,k4,k5,rfl⟩
    rw [aF,aJ] at hd
    obtain⟨q,hq,rfl⟩:=hd
    obtain⟨hv,hn⟩:=h q (aX hq)
    have hi:=(au.mp hq).1
    refine⟨_,YW,?_⟩
    simp only [set_0,kZ]
    refine ig (ρ' :=[.dat K, .dat W, .own (.list ((ts.take i).map fun q=>q.2.2)), .dat (.str q.1), .dat (.str (fZ q.2.1)), .dat q.2.2]) (nO (jf rfl rfl hv)) ?_
    refine ig (ρ' :=[.dat K, .dat W, .own (.list ((ts.take i).map fun q=>q.2.2)), .dat (.str q.1), .dat (.str (fZ q.2.1)), .dat q.2.2]) (by
     simp! only [hn]) ?_
    refine jn ?_ ⟨.dat (.str q.1), .dat (.str (fZ q.2.1)), .dat q.2.2,rfl⟩
    have cl:((ts.take i).map fun q=>q.2.2).length<sizeLine:=by
     rw [aC,aW]
     exact lO (by omega)
    simp only [sG,jQ,lu,set_0,kZ,aQ,aG,cl,if_true]
    rw [bF,hq]
    simp)
  rw [aC,bO] at loop
  exact loop
 ·rintro ρ ⟨k3,k4,k5,rfl⟩
  exact⟨_,rfl,rfl⟩
theorem JL(d:Dd (List Nat)):vO [.str d.verb]= .ok (.list (d.args.map fun q=>aV q.1)):=by
 cases d<;>simp! only [vO,Oj,Dd.verb,Dd.args,bf,dN,tO,adM,v_all]
theorem KJ{w:List Nat}{d:Dd (List Nat)}(h:Kc w d):rH [.str (fZ (TL.joinL [32] (d.row w)))]= .ok (.tuple [.str d.verb,iD w, .list (d.rest iD)]):=by
 have al:=N5 d
 obtain⟨R,hR⟩:∃R,R=fZ (TL.joinL [32] (d.row w)):=⟨_,rfl⟩
 obtain⟨L,hL⟩:∃L,L=di ((d.row w).map fun l=>aV (fZ l)):=⟨_,rfl⟩
 have e5:(" ":Str).cps.toList=[32]:=by decide+kernel
 have sp:uD R (.str " ")= .ok L:=by
  have e1:(((" ":Str).length==0)=false):=by decide+kernel
  have e2:R.length+2≤sizeLine:=by
   have:∀ls:List (List Nat),(∀l∈ls,l.length≤40)→(TL.joinL [32] ls).length≤ls.length*41:=by
    intro ls
    induction ls with
    |nil=>intro _;simp [TL.joinL]
    |cons l ls ih=>
     intro hh
     have h1:=hh l (by simp)
     have h2:=ih fun x hx=>hh x (aN _ hx)
     cases ls with
     |nil=>simp only [TL.joinL,aZ,cG];omega
     |cons x r=>
      simp only [TL.joinL,aA,aZ,cG] at h2⊢
      omega
   have h3:=this (d.row w) fun l hl=>(Cz h l hl).1
   rw [hR,qp]
   have:(d.row w).length≤5:=by simp only [Dd.row,aZ,aC];omega
   exact uE (by omega)
  have e3:Txt.split R " "=(d.row w).map fZ:=by
   have j:=Zb " " (d.row w)
   rw [e5] at j
   rw [hR,←j]
   refine TL.split_join (s:=32) (S:=[]) e5 (by decide+kernel) (by simp [Dd.row]) fun p hp=> ?_
   obtain⟨l,hl,rfl⟩:=bV.mp hp
   intro z
   have:=(Cz h l hl).2 32 z
   omega
  rw [hL]
  simp only [uD,e1,e2,and_self,if_true,e3,cD]
  rfl
 have ln:jr [L]= .ok (.int ((2+d.args.length:Nat):Int)):=by
  rw [hL,zJ,aC]
  simp only [Dd.row,aZ,aC]
  congr 3
  omega
 have x0:fX L (.int 0)= .ok (iD w):=by
  rw [hL,vf (by omega) (by simp only [aC,Dd.row,aZ];omega)]
  rfl
 have x1:fX L (.int 1)= .ok (.str d.verb):=by
  rw [hL,vf (by omega) (by simp only [aC,Dd.row,aZ];omega)]
  show ER.ok (aV (fZ d.verb.cps.toList))=_
  rw [adK]
 have sl:∀ρ:DL.Env,dZ 1 ρ= .ok L→eSl (dZ 1) (some (eC (.int 2))) none ρ= .ok (.list (d.args.map fun q=>aV (fZ q.2.1))):=fun ρ hv=>by
  rw [hL] at hv
  have:=afI (m:=dZ 1) (ma:=eC (.int 2)) (k:=2) hv rfl
  rw [this]
  simp only [Dd.row,bf,List.drop_succ_cons,List.drop_zero,cD]
  rfl
 have vo:=Vo d.args (by omega) fun q hq=>⟨(h.v q hq).1,(h.v q hq).2.1⟩
 rw [d.Iw] at vo
 rw [←hR]
 refine jA ?_
 show Rt (vB [.dat (.str R), .un, .un, .un]) _
 unfold vB
 have fl:abM L= .ok L:=by rw [hL];rfl
 refine fK (ρ' :=[.dat (.str R), .dat L, .un, .un]) (by simp! only [tO,Bx,sp,fl]) ?_
 refine fK (ρ' :=[.dat (.str R), .dat L, .un, .un]) (by simp! only [ln,x0,iD,Ot w h.w,show¬(((2+d.args.length:Nat):Int)<3) by omega]) ?_
 refine fK (ρ' :=[.dat (.str R), .dat L, .dat (.list (d.args.map fun q=>aV q.1)), .un]) (by simp! only [x1,JL]) ?_
 refine fK (ρ' :=[.dat (.str R), .dat L, .dat (.list (d.args.map fun q=>aV q.1)), .un]) rfl ?_
 refine fK (ρ' :=[.dat (.str R), .dat L, .dat (.list (d.args.map fun q=>aV q.1)), .dat (.list (d.rest iD))]) (nO (jf rfl (sl _ rfl) vo)) ?_
 refine fK (ρ' :=[.dat (.str R), .dat L, .dat (.list (d.args.map fun q=>aV q.1)), .dat (.list (d.rest iD))]) rfl ?_
 exact iI (by simp! only [x0,x1]) rfl
end Sb
namespace Sb
open PySem PySem.Spec L2 Evl DL
def xK(rs:List Rule)(ns:List Nat):List Nat:=(ns.map fun i=>(texts rs).getD i []).flatten
theorem Yx{rs:List Rule}{ns:List Nat}(h:∀n∈ns,n<rs.length)(qs:List Rule):xK (rs++qs) ns=xK rs ns:=by
 unfold xK
 congr 1
 exact bQ fun n hn=>iH (h n hn) qs
theorem uZ(rs:List Rule)(ns:List Nat)(n:Nat):xK rs (ns++[n])=xK rs ns++(texts rs).getD n []:=by simp [xK]
theorem ab1(ns:List Nat)(n:Nat):di ((ns.map fun(n:Nat)=>aH (n:Int))++[.int (n:Int)])=fJ (ns++[n]):=by simp [fJ]
theorem M7(rs:List Rule)(r:Rule)(hl:rs.length<1000):jw (eZ rs) (.tuple [fG r])= .ok (eZ (rs++[r])):=by
 have:=Zv rs [r] (by simp;omega)
 exact this
theorem Oe{i:Nat}{m:EM}{ρ:DL.Env}{ns:List Nat}{n:Nat}(h:ρ[i]? =some (.own (fJ ns)))(hm:m ρ= .ok (.int (n:Int)))(hl:ns.length<1000):sG i m ρ= .nx (ρ.set i (.own (fJ (ns++[n])))):=by
 rw [app_ok (ds:=ns.map fun(n:Nat)=>aH (n:Int)) (d:= .int (n:Int)) h hm (by rw [aC];exact lO (by omega)),ab1]
theorem acC{rs:List Rule}{ns:List Nat}{i:Nat}(h:i+1<ns.length):((texts rs).getD (ns.getD i 0) []).length+((texts rs).getD (ns.getD (i+1) 0) []).length≤(xK rs ns).length:=by
 have e:ns=ns.take i++(ns.getD i 0::ns.getD (i+1) 0::ns.drop (i+2)):=by
  have e1:ns.drop i=ns.getD i 0::ns.drop (i+1):=by
   rw [List.drop_eq_getElem_cons (by omega)]
   simp [bA,show i<ns.length by omega]
  have e2:ns.drop (i+1)=ns.getD (i+1) 0::ns.drop (i+2):=by
   rw [List.drop_eq_getElem_cons (by omega)]
   simp [bA,show i+1<ns.length by omega]
  rw [←e2,←e1,bZ]
 have:xK rs ns=xK rs (ns.take i)++((texts rs).getD (ns.getD i 0) []++((texts rs).getD (ns.getD (i+1) 0) []++xK rs (ns.drop (i+2)))):=by
  conv=>lhs;rw [e]
  simp [xK]
 rw [this]
 simp only [aA]
 omega
theorem getD_mem{ns:List Nat}{i:Nat}(h:i<ns.length):ns.getD i 0∈ns:=by
 rw [bA,bH h]
 exact dH h
theorem Z5(w:List Nat)(h1:1≤w.length)(h2:w.length≤40)(hs:∀c∈w,c∈GF):∃rs k,qG [.str (fZ w)]= .ok (.tuple [eZ rs, .int ((k:Nat):Int)])∧Good rs∧Fits MOST rs∧k<rs.length∧(texts rs).getD k []=w∧rs.length+1≤2*w.length:=by
 have hM:40≤MOST:=by decide
 obtain⟨X,hX⟩:∃X,X=aV (fZ w):=⟨_,rfl⟩
 rw [←hX]
 have run:Rt (qF [.dat X, .un, .un, .un, .un, .un]) (fun d=>∃rs k,d= .tuple [eZ rs, .int ((k:Nat):Int)]∧Good rs∧Fits MOST rs∧k<rs.length∧(texts rs).getD k []=w∧rs.length+1≤2*w.length):=by
  unfold qF
  refine fK (ρ' :=[.dat X, .dat (eZ []), .un, .un, .un, .un]) (by simp! only [];rfl) ?_
  refine fK (ρ' :=[.dat X, .dat (eZ []), .own (fJ []), .un, .un, .un]) (by simp! only [];rfl) ?_
  refine oV (N:=fun ρ=>∃(rs:List Rule) (ns:List Nat) (k3:Sl),ρ=[.dat X, .dat (eZ rs), .own (fJ ns),k3, .un, .un]∧Good rs∧Fits MOST rs∧rs.length=w.length∧ns.length=w.length∧(∀n∈ns,n<rs.length)∧xK rs ns=w) ?_ ?_
  ·have loop:=mD (mi:=iS (dZ 0)) (g:=gN 3) (body:=(fH (sG 2 (fu jr [(dZ 1)]))
 (gD 1 (eG jw (dZ 1) (jc [(jc [(eC (.str "sign")),(dZ 3)])]))))) (ρ:=[.dat X, .dat (eZ []), .own (fJ []), .un, .un, .un]) (ds:=w.map fun c=>aV (s1 c))
    (fun i ρ=>∃(rs:List Rule) (ns:List Nat) (k3:Sl),ρ=[.dat X, .dat (eZ rs), .own (fJ ns),k3, .un, .un]∧Good rs∧Fits MOST rs∧rs.length=i∧ns.length=i∧(∀n∈ns,n<rs.length)∧xK rs ns=w.take i)
    (by rw [hX];rfl) ⟨[],[],_,rfl,Good.nil,(fun n hn=>by cases hn),rfl,rfl,(fun n hn=>by cases hn),rfl⟩ (by
     rintro i d ρ hd ⟨rs,ns,k3,rfl,g,f,l1,l2,lt,ct⟩
     rw [aF,aJ] at hd
     obtain⟨c,hc,rfl⟩:=hd
     have hi:=(au.mp hc).1
     refine⟨_,oR,?_⟩
     simp only [set_0,kZ]
     refine ig (ρ' :=[.dat X, .dat (eZ rs), .own (fJ (ns++[rs.length])), .dat (.str (s1 c)), .un, .un]) (Oe (ns:=ns) (n:=rs.length) rfl (by simp! only [sX]) (by omega)) ?_
     have ad:=M7 rs (.sign c) (by omega)
     refine jn (ρ' :=[.dat X, .dat (eZ (rs++[.sign c])), .own (fJ (ns++[rs.length])), .dat (.str (s1 c)), .un, .un]) (by simp only [fG] at ad;simp! only [Ui,ad]) ⟨rs++[.sign c],ns++[rs.length],_,rfl,?_,?_,by simp [l1],by simp [l2],fun n hn=> ?_,?_⟩
     ·exact g.snoc (hs c (aX hc))
     ·exact f.snoc (by show 1≤MOST;decide)
     ·rcases aU.mp hn with hn|hn
      ·have:=lt n hn
       rw [aA]
       omega
      ·have:n=rs.length:=by simpa using hn
       rw [aA,cU]
       omega
     ·rw [uZ,Yx lt,ct,lZ,bF,hc]
      rfl)
   rw [aC,bO] at loop
   exact loop
  ·rintro ρ ⟨rs,ns,k3,rfl,g,f,l1,l2,lt,ct⟩
   refine oV (N:=fun ρ=>∃(rs:List Rule) (n:Nat) (k3 k4 k5:Sl),ρ=[.dat X, .dat (eZ rs), .own (fJ [n]),k3,k4,k5]∧Good rs∧Fits MOST rs∧n<rs.length∧(texts rs).getD n []=w∧rs.length+1≤2*w.length) (vK (fun j ρ=>∃(rs:List Rule) (ns:List Nat) (k3 k4 k5:Sl),ρ=[.dat X, .dat (eZ rs), .own (fJ ns),k3,k4,k5]∧Good rs∧Fits MOST rs∧ns.length=j∧1≤j∧rs.length+j≤2*w.length∧(∀n∈ns,n<rs.length)∧xK rs ns=w) w.length (by omega) ⟨rs,ns,_,_,_,rfl,g,f,l2,h1,by omega,lt,ct⟩ ?_) ?_
   ·clear l1 l2 lt ct f g rs ns k3
    rintro j ρ ⟨rs,ns,k3,k4,k5,rfl,g,f,lj,j1,bd,lt,ct⟩
    have bl:jr [fJ ns]= .ok (.int ((j:Nat):Int)):=by rw [ZV,lj]
    by_cases hj:j=1
    ·left
     refine⟨by simp! only [bl,show¬((j:Nat):Int)>1 by omega],?_⟩
     obtain⟨n,rfl⟩:∃n,ns=[n]:=List.length_eq_one_iff.mp (by omega)
     refine⟨rs,n,_,_,_,rfl,g,f,lt n (by simp),?_,by omega⟩
     rw [←ct]
     simp [xK]
    ·right
     refine⟨by simp! only [bl,show((j:Nat):Int)>1 by omega],j/2+j%2,by omega,?_⟩
     refine ig (ρ' :=[.dat X, .dat (eZ rs), .own (fJ ns),k3, .own (fJ []),k5]) (by simp! only [];rfl) ?_
     refine acU (M:=fun ρ=>∃(qs:List Rule) (ms:List Nat) (k5:Sl),ρ=[.dat X, .dat (eZ (rs++qs)), .own (fJ ns),k3, .own (fJ ms),k5]∧Good (rs++qs)∧Fits MOST (rs++qs)∧qs.length=j/2∧ms.length=j/2∧(∀n∈ms,n<(rs++qs).length)∧xK (rs++qs) ms=xK rs (ns.take (2*(j/2)))) ?_ ?_
     ·have sd:Hh 0 ((j:Int)-1) 2=(cC (j/2)).map fun(i:Nat)=>aH ((2*i:Nat):Int):=by
       unfold Hh
       rw [if_pos (by omega),show(((j:Int)-1-0-1)/2+1).toNat=j/2 by omega]
       refine bQ fun i _=> ?_
       congr 1
       omega
      have loop:=mD (mi:=iRc 2 (eC (.int 0)) (eG mW (fu jr [(gR 2)]) (eC (.int 1))) (eC (.int 2))) (g:=gN 5) (body:=(fH (sG 4 (fu jr [(dZ 1)]))
 (gD 1 (eG jw (dZ 1) (jc [(jc [(eC (.str "join")),(eG fX (gR 2) (dZ 5)),(eG fX (gR 2) (eG jw (dZ 5) (eC (.int 1))))])]))))) (ρ:=[.dat X, .dat (eZ rs), .own (fJ ns),k3, .own (fJ []),k5]) (ds:=(cC (j/2)).map fun(i:Nat)=>aH ((2*i:Nat):Int))
       (fun i ρ=>∃(qs:List Rule) (ms:List Nat) (k5:Sl),ρ=[.dat X, .dat (eZ (rs++qs)), .own (fJ ns),k3, .own (fJ ms),k5]∧Good (rs++qs)∧Fits MOST (rs++qs)∧qs.length=i∧ms.length=i∧(∀n∈ms,n<(rs++qs).length)∧xK (rs++qs) ms=xK rs (ns.take (2*i)))
       (by
         rw [←sd]
         have c1:inR ((j:Int)-1)=true:=Oq (by omega) (by omega)
         have c0:inR 0=true:=by decide
         simp! only [iRc,m7,bl,c0,c1,Bool.and_self,decide_true,if_true]) ⟨[],[],_,by rw [aR],by rw [aR];exact g,by rw [aR];exact f,rfl,rfl,(fun n hn=>by cases hn),rfl⟩ (by
        rintro i d ρ hd ⟨qs,ms,k5,rfl,g1,f1,q1,q2,lt1,ct1⟩
        rw [aF,aJ] at hd
        obtain⟨i',hi,rfl⟩:=hd
        have hij:=(au.mp hi).1
        rw [cZ] at hij
        rw [List.getElem?_range hij] at hi
        cases hi
        have ha:2*i<ns.length:=by omega
        have hb:2*i+1<ns.length:=by omega
        have ixa:=jD ha
        have ixb:=jD hb
        rw [show(((2*i+1:Nat)):Int)=((2*i:Nat):Int)+1 by omega] at ixb
        have la:=lt _ (getD_mem ha)
        have lb:=lt _ (getD_mem hb)
        have two:=acC (rs:=rs) hb
        rw [ct] at two
        refine⟨_,oR,?_⟩
        simp only [set_0,kZ]
        refine ig (ρ' :=[.dat X, .dat (eZ (rs++qs)), .own (fJ ns),k3, .own (fJ (ms++[(rs++qs).length])), .dat (.int ((2*i:Nat):Int))]) (Oe (ns:=ms) (n:=(rs++qs).length) rfl (by simp! only [sX]) (by omega)) ?_
        have ad:=M7 (rs++qs) (.join (ns.getD (2*i) 0) (ns.getD (2*i+1) 0)) (by rw [aA];omega)
        simp only [fG] at ad
        rw [aK] at ad
        refine jn (ρ' :=[.dat X, .dat (eZ (rs++(qs++[.join (ns.getD (2*i) 0) (ns.getD (2*i+1) 0)]))), .own (fJ ns),k3, .own (fJ (ms++[(rs++qs).length])), .dat (.int ((2*i:Nat):Int))]) (by simp! only [Ui,ixa,ixb,ad]) ⟨qs++[.join (ns.getD (2*i) 0) (ns.getD (2*i+1) 0)],ms++[(rs++qs).length],_,rfl,?_,?_,by simp [q1],by simp [q2],fun n hn=> ?_,?_⟩
        ·rw [←aK]
         exact g1.snoc ⟨by rw [aA];omega,by rw [aA];omega⟩
        ·rw [←aK]
         refine f1.snoc ?_
         show(sizes (rs++qs)).getD _ 0+(sizes (rs++qs)).getD _ 0≤MOST
         rw [←gU,←gU,iH la,iH lb]
         omega
        ·rw [←aK,aA,cU]
         rcases aU.mp hn with hn|hn
         ·have:=lt1 n hn
          omega
         ·have:n=(rs++qs).length:=by simpa using hn
          omega
        ·rw [←aK,uZ,Yx lt1,ct1,lZ,show 2*(i+1)=2*i+1+1 by omega,bF,bF,bH ha,bH hb]
         show _=xK rs (ns.take (2*i)++[ns[2*i]]++[ns[2*i+1]])
         rw [uZ,uZ,aK]
         show _++((texts (rs++qs)).getD (ns.getD (2*i) 0) []++(texts (rs++qs)).getD (ns.getD (2*i+1) 0) [])=_
         rw [iH la,iH lb]
         simp [bA,ha,hb])
      rw [aC,cZ] at loop
      exact loop
     ·rintro ρ ⟨qs,ms,k5,rfl,g1,f1,q1,q2,lt1,ct1⟩
      by_cases odd:j%2=1
      ·have md:iK (.int (j:Int)) (.int 2)= .ok (.int 1):=by
        rw [iy (by omega)]
        congr 2
        omega
       have la:=Zo (ns:=ns) (by omega)
       refine ig (ρ' :=[.dat X, .dat (eZ (rs++qs)), .own (fJ ns),k3, .own (fJ (ms++[ns.getD (ns.length-1) 0])),k5]) (by
        rw [Du (by simp! only [bl,md])]
        exact Oe (ns:=ms) (n:=ns.getD (ns.length-1) 0) rfl (by simp! only [la]) (by omega)) ?_
       refine jn (ρ' :=[.dat X, .dat (eZ (rs++qs)), .own (fJ (ms++[ns.getD (ns.length-1) 0])),k3, .un,k5]) rfl ⟨rs++qs,ms++[ns.getD (ns.length-1) 0],_,_,_,rfl,g1,f1,by simp [q2];omega,by omega,by rw [aA];omega,fun n hn=> ?_,?_⟩
       ·rcases aU.mp hn with hn|hn
        ·exact lt1 n hn
        ·have e:n=ns.getD (ns.length-1) 0:=by simpa using hn
         have:=lt _ (getD_mem (ns:=ns) (i:=ns.length-1) (by omega))
         rw [aA,e]
         omega
       ·have lx:=lt _ (getD_mem (ns:=ns) (i:=ns.length-1) (by omega))
        rw [uZ,ct1,iH lx,←uZ,←ct]
        congr 1
        rw [show 2*(j/2)=ns.length-1 by omega]
        exact(Sv ns 0 (by omega)).symm
      ·have md:iK (.int (j:Int)) (.int 2)= .ok (.int 0):=by
        rw [iy (by omega)]
        congr 2
        omega
       refine ig (ρ' :=[.dat X, .dat (eZ (rs++qs)), .own (fJ ns),k3, .own (fJ ms),k5]) (by simp! only [bl,md]) ?_
       refine jn (ρ' :=[.dat X, .dat (eZ (rs++qs)), .own (fJ ms),k3, .un,k5]) rfl ⟨rs++qs,ms,_,_,_,rfl,g1,f1,by omega,by omega,by rw [aA];omega,lt1,?_⟩
       rw [ct1,show 2*(j/2)=ns.length by omega,bO,ct]
   ·rintro ρ ⟨rs,n,k3,k4,k5,rfl,g,f,hn,ht,bd⟩
    exact iI (by simp! only [];rfl) ⟨rs,n,rfl,g,f,hn,ht,bd⟩
 obtain⟨d,hd,rs,k,rfl,h⟩:=yI (ks:=[.dat]) (n:=5) (m:=qF) (ds:=[X]) run
 exact⟨rs,k,hd,h⟩
end Sb
namespace Sb
open PySem PySem.Spec L2 Evl DL
abbrev pairD(rs:List Rule)(n:Option Nat):D:= .tuple [eZ rs,eX n]
structure Fo(rs:List Rule)(n:Option Nat)(w:List Nat):Prop where
 g:Good rs
 f:Fits MOST rs
 nm:fV rs n
 t:gQ rs n=w
theorem Fo.len{rs:List Rule}{n:Option Nat}{w:List Nat}(h:Fo rs n w):lJ rs n=w.length:=by rw [←mZ,h.t]
theorem Fo.app{rs:List Rule}{n:Option Nat}{w:List Nat}(h:Fo rs n w){qs:List Rule}(g:Good (rs++qs))(f:Fits MOST (rs++qs)):Fo (rs++qs) n w:=⟨g,f,h.nm.app qs,by rw [qW h.nm,h.t]⟩
theorem yC(a:D)(r:List D):fX (.list (a::r)) (.int 0)= .ok a:=by
 rw [vf (by omega) (by simp only [aZ];omega)]
 rfl
theorem Fd(a b:D)(r:List D):fX (.list (a::b::r)) (.int 1)= .ok b:=by
 rw [vf (by omega) (by simp only [aZ];omega)]
 rfl
theorem T8(a b c:D)(r:List D):fX (.list (a::b::c::r)) (.int 2)= .ok c:=by
 rw [vf (by omega) (by simp only [aZ];omega)]
 rfl
theorem mU{g:GM}{m:EM}{ρ ρ' :DL.Env}{d:D}(h:m ρ= .ok d)(hg:g d ρ=some ρ'):nq g m ρ= .nx ρ' :=by simp only [nq,h,hg]
theorem RM{rs:List Rule}{n:Option Nat}{w:List Nat}(h:Fo rs n w)(hl:rs.length≤200000)(B:Nat)(hB:∀k,n=some k→k<B)(s e:Nat)(hse:s≤e)(he:e≤w.length):
 ∃qs n',Dz [eZ rs,eX n, .int (s:Int), .int (e:Int)]= .ok (.tuple [eZ (rs++qs),eX n'])∧Fo (rs++qs) n' (stretch w s e)∧Good (rs++qs)∧Fits MOST (rs++qs)∧qs.length≤4*B∧(s=0∨e=w.length→qs.length≤2*B+2):=by
 have ln:=h.len
 by_cases hz:s=e
 ·subst hz
  have l1:=vG rs h.g h.f (by omega) n h.nm
  have c1:(0:Int)≤(s:Int):=by omega
  have c3:(s:Int)≤((lJ rs n:Nat):Int):=by omega
  have bt:mK [eZ rs]= .ok (eZ rs):=rfl
  have lx:yS rs h.g h.f (by omega)=yS rs h.g h.f (by omega):=rfl
  refine⟨[],none,?_,⟨by rw [aR];exact h.g,by rw [aR];exact h.f,fV.none,?_⟩,by rw [aR];exact h.g,by rw [aR];exact h.f,by simp,fun _=>by simp⟩
  ·refine jA ?_
   show Rt (R8 [.dat (eZ rs), .dat (eX n), .dat (.int (s:Int)), .dat (.int (s:Int)), .un, .un, .un, .un, .un]) _
   unfold R8
   refine fK (ρ' :=[.dat (eZ rs), .dat (eX n), .dat (.int (s:Int)), .dat (.int (s:Int)), .dat (.int ((lJ rs n:Nat):Int)), .un, .un, .un, .un]) (by simp! only [l1]) ?_
   refine fK (ρ' :=[.dat (eZ rs), .dat (eX n), .dat (.int (s:Int)), .dat (.int (s:Int)), .dat (.int ((lJ rs n:Nat):Int)), .un, .un, .un, .un]) (by simp! only [oO,c1,c3,Int.le_refl]) ?_
   exact mQ (Ad (by simp! only []) (iI (d:= .tuple [eZ rs, .none]) (by simp! only [bt]) (by rw [aR];rfl)))
  ·simp [gQ,stretch]
 ·obtain⟨qs,n',h1,h2,h3,_,h5,h6,h7⟩:=ae5 rs h.g h.f hl n h.nm s e hse (by omega)
  rw [h.t] at h6
  cases n with
  |none=>
   exfalso
   simp only [lJ] at ln
   omega
  |some k=>
   obtain⟨b1,b2⟩:=h7 k rfl
   have hk:=hB k rfl
   exact⟨qs,n',h1,⟨h2,h3,h5,h6⟩,h2,h3,by omega,fun z=>by
    have:=b2 (by rw [ln];exact z)
    omega⟩
theorem FW{rs:List Rule}{a b:Option Nat}{v w:List Nat}(ha:Fo rs a v)(hb:Fo rs b w)(hl:rs.length≤2000000)(hm:v.length+w.length≤MOST):∃qs n',vJ [eZ rs,eX a,eX b]= .ok (.tuple [eZ (rs++qs),eX n'])∧Fo (rs++qs) n' (v++w)∧Good (rs++qs)∧Fits MOST (rs++qs)∧qs.length≤1:=by
 have h:=abP rs ha.g ha.f (by omega) a b ha.nm hb.nm (by rw [ha.len,hb.len];exact hm)
 obtain⟨qs,l,e,g,f,n,t⟩:=xW ha.g ha.f ha.nm hb.nm (by rw [ha.len,hb.len];exact hm)
 rw [e] at h
 exact⟨qs,_,h,⟨g,f,n,by rw [t,ha.t,hb.t]⟩,g,f,l⟩
theorem aai{rs os:List Rule}{n m:Option Nat}{v w:List Nat}(h:Fo rs n v)(ho:Fo os m w)(hl:rs.length+os.length≤2000000):rM [pairD rs n,pairD os m]= .ok (.tuple [eZ (rs++bring rs os),eX n,eX (pY rs m)])∧Fo (rs++bring rs os) n v∧Fo (rs++bring rs os) (pY rs m) w∧(bring rs os).length=os.length:=by
 have br:=Oz rs os ho.g (by omega) m ho.nm
 obtain⟨g,f,_⟩:=Nz h.g h.f os ho.g ho.f
 obtain⟨bn,bt⟩:=Sy h.g h.f ho.g ho.f ho.nm
 refine⟨?_,h.app g f,⟨g,f,bn,by rw [bt,ho.t]⟩,by simp [bring]⟩
 refine jA ?_
 show Rt (vH [.dat (pairD rs n), .dat (pairD os m), .un, .un]) _
 unfold vH
 refine fK (ρ' :=[.dat (pairD rs n), .dat (pairD os m), .dat (eZ (rs++bring rs os)), .dat (eX (pY rs m))]) (mU (d:= .tuple [eZ (rs++bring rs os),eX (pY rs m)]) (kW (x:=eZ rs) (y:=eZ os) (z:=eX m) (by simp! only [gh]) (by simp! only [gh]) (by simp! only [gA]) br) rfl) ?_
 exact iI (by simp! only [gA]) rfl
theorem abn{rs os:List Rule}{n m:Option Nat}{v w:List Nat}(h:Fo rs n v)(ho:Fo os m w)(p:Nat)(hp:p≤v.length)(hm:v.length+w.length≤MOST)(hl:5*rs.length+os.length+6≤200000):
 ∃qs k,MJ [pairD rs n, .int (p:Int),pairD os m]= .ok (pairD qs k)∧Fo qs k (v.take p++w++v.drop p)∧qs.length≤5*rs.length+os.length+6:=by
 obtain⟨s1,t1,t2,bl⟩:=aai h ho (by omega)
 obtain⟨R,hR⟩:∃R,R=rs++bring rs os:=⟨_,rfl⟩
 have Rl:R.length=rs.length+os.length:=by rw [hR,aA,bl]
 rw [←hR] at s1 t1 t2
 obtain⟨mid,hmid⟩:∃mid,mid=pY rs m:=⟨_,rfl⟩
 rw [←hmid] at s1 t2
 have hB:∀k,n=some k→k<rs.length:=fun k e=>h.nm k e
 have ln:=vG R t1.g t1.f (by omega) n t1.nm
 rw [t1.len] at ln
 obtain⟨q1,a,c1,ta,g1,f1,_,l1⟩:=RM t1 (by omega) rs.length hB 0 p (cQ _) hp
 have l1' :=l1 (.inl rfl)
 obtain⟨q2,b,c2,tb,g2,f2,_,l2⟩:=RM (t1.app g1 f1) (by rw [aA];omega) rs.length hB p v.length hp (bD _)
 have l2' :=l2 (.inr rfl)
 have z1:(stretch v 0 p).length=p:=by rw [qP hp];omega
 have z2:(stretch v p v.length).length=v.length-p:=by rw [qP (bD _)]
 obtain⟨q3,c,c3,tc,g3,f3,l3⟩:=FW (ta.app g2 f2) ((t2.app g1 f1).app g2 f2) (by simp only [aA];omega) (by rw [z1];omega)
 obtain⟨q4,d,c4,td,g4,f4,l4⟩:=FW tc (tb.app g3 f3) (by simp only [aA];omega) (by rw [aA,z1,z2];omega)
 refine⟨R++q1++q2++q3++q4,d,?_,?_,by simp only [aA];omega⟩
 ·refine jA ?_
  show Rt (Ol [.dat (pairD rs n), .dat (.int (p:Int)), .dat (pairD os m), .un, .un, .un, .un, .un, .un, .un]) _
  unfold Ol
  refine fK (ρ' :=[.dat (pairD rs n), .dat (.int (p:Int)), .dat (pairD os m), .dat (eZ R), .dat (eX n), .dat (eX mid), .un, .un, .un, .un]) (mU (jf rfl rfl s1) rfl) ?_
  refine fK (ρ' :=[.dat (pairD rs n), .dat (.int (p:Int)), .dat (pairD os m), .dat (eZ R), .dat (eX n), .dat (eX mid), .dat (.int ((v.length:Nat):Int)), .un, .un, .un]) (nO (jf rfl rfl ln)) ?_
  refine fK (ρ' :=[.dat (pairD rs n), .dat (.int (p:Int)), .dat (pairD os m), .dat (eZ (R++q1)), .dat (eX n), .dat (eX mid), .dat (.int ((v.length:Nat):Int)), .dat (eX a), .un, .un]) (mU (nY rfl rfl rfl rfl c1) rfl) ?_
  refine fK (ρ' :=[.dat (pairD rs n), .dat (.int (p:Int)), .dat (pairD os m), .dat (eZ (R++q1++q2)), .dat (eX n), .dat (eX mid), .dat (.int ((v.length:Nat):Int)), .dat (eX a), .dat (eX b), .un]) (mU (nY rfl rfl rfl rfl c2) rfl) ?_
  refine fK (ρ' :=[.dat (pairD rs n), .dat (.int (p:Int)), .dat (pairD os m), .dat (eZ (R++q1++q2++q3)), .dat (eX n), .dat (eX mid), .dat (.int ((v.length:Nat):Int)), .dat (eX a), .dat (eX b), .dat (eX c)]) (mU (kW rfl rfl rfl c3) rfl) ?_
  exact iI (kW rfl rfl rfl c4) rfl
 ·have e:stretch v 0 p++w++stretch v p v.length=v.take p++w++v.drop p:=by simp [stretch]
  rw [←e]
  exact td
theorem Vh{rs:List Rule}{n:Option Nat}{v:List Nat}(h:Fo rs n v)(s e:Nat)(hse:s≤e)(he:e≤v.length)(hl:5*rs.length+5≤200000):
 ∃qs k,Bb [pairD rs n, .int (s:Int), .int (e:Int)]= .ok (pairD qs k)∧Fo qs k (v.take s++v.drop e)∧qs.length≤5*rs.length+5:=by
 have hB:∀k,n=some k→k<rs.length:=fun k e=>h.nm k e
 have vl:v.length≤MOST:=by rw [←h.len];exact Ua h.f n
 have ln:=vG rs h.g h.f (by omega) n h.nm
 rw [h.len] at ln
 obtain⟨q0,a0,c0,_⟩:=RM h (by omega) rs.length hB s e hse he
 obtain⟨q1,a,c1,ta,g1,f1,_,l1⟩:=RM h (by omega) rs.length hB 0 s (cQ _) (by omega)
 have l1' :=l1 (.inl rfl)
 obtain⟨q2,b,c2,tb,g2,f2,_,l2⟩:=RM (h.app g1 f1) (by rw [aA];omega) rs.length hB e v.length he (bD _)
 have l2' :=l2 (.inr rfl)
 have z1:(stretch v 0 s).length=s:=by rw [qP (by omega)];omega
 have z2:(stretch v e v.length).length=v.length-e:=by rw [qP (bD _)]
 obtain⟨q3,c,c3,tc,g3,f3,l3⟩:=FW (ta.app g2 f2) tb (by simp only [aA];omega) (by rw [z1,z2];omega)
 refine⟨rs++q1++q2++q3,c,?_,?_,by simp only [aA];omega⟩
 ·refine jA ?_
  show Rt (BZ [.dat (pairD rs n), .dat (.int (s:Int)), .dat (.int (e:Int)), .un, .un, .un, .un]) _
  unfold BZ
  refine fK (ρ' :=[.dat (pairD rs n), .dat (.int (s:Int)), .dat (.int (e:Int)), .un, .un, .un, .un]) (Vf (nY (x:=eZ rs) (y:=eX n) (by simp! only [gh]) (by simp! only [gA]) rfl rfl c0)) ?_
  refine fK (ρ' :=[.dat (pairD rs n), .dat (.int (s:Int)), .dat (.int (e:Int)), .dat (.int ((v.length:Nat):Int)), .un, .un, .un]) (nO (jf (x:=eZ rs) (y:=eX n) (by simp! only [gh]) (by simp! only [gA]) ln)) ?_
  refine fK (ρ' :=[.dat (pairD rs n), .dat (.int (s:Int)), .dat (.int (e:Int)), .dat (.int ((v.length:Nat):Int)), .dat (eZ (rs++q1)), .dat (eX a), .un]) (mU (nY (x:=eZ rs) (y:=eX n) (by simp! only [gh]) (by simp! only [gA]) rfl rfl c1) rfl) ?_
  refine fK (ρ' :=[.dat (pairD rs n), .dat (.int (s:Int)), .dat (.int (e:Int)), .dat (.int ((v.length:Nat):Int)), .dat (eZ (rs++q1++q2)), .dat (eX a), .dat (eX b)]) (mU (nY (y:=eX n) rfl (by simp! only [gA]) rfl rfl c2) rfl) ?_
  exact iI (kW rfl rfl rfl c3) rfl
 ·have e:stretch v 0 s++stretch v e v.length=v.take s++v.drop e:=by simp [stretch]
  rw [←e]
  exact tc
theorem ahs{rs:List Rule}{n:Option Nat}{v:List Nat}(h:Fo rs n v)(hl:rs.length≤3000000)(B:Nat)(hB:∀zs,sJ rs n zs→zs.length≤B):∃qs k,Im [eZ rs,eX n]= .ok (pairD qs k)∧Fo qs k v∧qs.length≤B:=by
 obtain⟨ks,qs,fn,nd,td,e⟩:=afM rs h.g h.f hl n h.nm
 refine⟨qs,n.map fn,e,⟨td.g,td.fits,?_,?_⟩,bJ td.len (hB ks nd)⟩
 ·cases n with
  |none=>exact fV.none
  |some k=>exact fV.some (td.lt k nd.2.top)
 ·rw [←h.t]
  cases n with
  |none=>rfl
  |some k=>exact td.tx k nd.2.top
def Dd.bd{α:Type}(b:α→Nat):Dd α→Nat
 | .is w=>2*w.length
 | .join x y=>b x+b y+1
 | .times x _=>b x+1
 | .cut x _ _=>5*b x
 | .turn x=>b x
 | .put x _ _=>b x
 | .insert x _ y=>5*b x+b y+6
 | .remove x _ _=>5*b x+5
theorem abt(d:Dd (List Nat)):∀q∈d.args,q.1=jC→∃a∈d.refs,q.2.2=iD a:=by
 intro q hq hk
 have n1:¬(kh=jC):=Gh
 have n2:¬(mF=jC):=Jw
 have n3:¬(jH=jC):=Ib
 have n4:¬(lX=jC):=JF
 cases d<;>simp only [Dd.args,aO,bB,or_false] at hq<;>simp only [Dd.refs,aO,bB,or_false]
 case is=>subst hq;exact absurd hk n1
 case join a b=>
  rcases hq with rfl|rfl
  ·exact⟨a, .inl rfl,rfl⟩
  ·exact⟨b, .inr rfl,rfl⟩
 case times a m=>
  rcases hq with rfl|rfl
  ·exact⟨a,rfl,rfl⟩
  ·exact absurd hk n2
 case cut a s e=>
  rcases hq with rfl|rfl|rfl
  ·exact⟨a,rfl,rfl⟩
  ·exact absurd hk n3
  ·exact absurd hk n3
 case turn a=>subst hq;exact⟨a,rfl,rfl⟩
 case put a s o=>
  rcases hq with rfl|rfl|rfl
  ·exact⟨a,rfl,rfl⟩
  ·exact absurd hk n4
  ·exact absurd hk n4
 case insert a p b=>
  rcases hq with rfl|rfl|rfl
  ·exact⟨a, .inl rfl,rfl⟩
  ·exact absurd hk n3
  ·exact⟨b, .inr rfl,rfl⟩
 case remove a s e=>
  rcases hq with rfl|rfl|rfl
  ·exact⟨a,rfl,rfl⟩
  ·exact absurd hk n3
  ·exact absurd hk n3
theorem agr(F:List Nat→D)(ws:List (List Nat))(d:Dd (List Nat))(hr:∀a∈d.refs,a∈ws):vp [.dict (uW F ws), .list (d.args.map fun q=>aV q.1), .list (d.rest iD)]= .ok .none:=by
 obtain⟨K,hK⟩:∃K,K=di (d.args.map fun q=>aV q.1):=⟨_,rfl⟩
 obtain⟨V,hV⟩:∃V,V=di (d.rest iD):=⟨_,rfl⟩
 obtain⟨T,hT⟩:∃T,T=PyData.dict (uW F ws):=⟨_,rfl⟩
 rw [←hK,←hV,←hT]
 have loop:Nx (vq [.bor T, .dat K, .dat V, .un, .un]) (fun _=>True):=by
  unfold vq
  obtain⟨ρ,e,_⟩:=mD (mi:=iZ (dZ 1) (dZ 2)) (g:=gT [(gN 3),(gN 4)]) (body:=(je (mY (eG jZ (dZ 3) (eC (.str "word"))) (eG (xV true) (dZ 4) (gR 0))) (zm "NoWord") fU)) (ρ:=[.bor T, .dat K, .dat V, .un, .un]) (ds:=d.args.map fun q=>bM [.str q.1,q.2.2])
   (fun _ ρ=>∃k3 k4:Sl,ρ=[.bor T, .dat K, .dat V,k3,k4]) (by
    rw [hK,hV,←d.Iw]
    simp! only [iZ,m7,Od]
    rw [List.zipWith_map_left,List.zipWith_map_right,List.zipWith_self]) ⟨_,_,rfl⟩ (by
    rintro i x ρ hd ⟨k3,k4,rfl⟩
    rw [aF,aJ] at hd
    obtain⟨q,hq,rfl⟩:=hd
    refine⟨_,YW,?_⟩
    simp only [set_0,kZ]
    refine jn (ρ' :=[.bor T, .dat K, .dat V, .dat (.str q.1), .dat q.2.2]) ?_ ⟨_,_,rfl⟩
    by_cases z:q.1=jC
    ·obtain⟨a,ha,e⟩:=abt d q (aX hq) z
     have hi:xV true (iD a) T= .ok (.bool false):=by
      rw [hT]
      show xV true (.str (fZ a)) _=_
      rw [ail,decide_eq_true (hr a ha)]
      rfl
     rw [e,z]
     simp! only [hi]
    ·simp! only [z])
  exact⟨ρ,e,trivial⟩
 obtain⟨ρ,e,_⟩:=loop
 exact ahv e
theorem afy{R:List Nat→List Rule}{N:List Nat→Option Nat}{T:List Nat→List Nat}{ws:List (List Nat)}(hT:∀a∈ws,Fo (R a) (N a) (T a))(d:Dd (List Nat))(hr:∀a∈d.refs,a∈ws)(ok:d.ok T)(w:List Nat)(hb:d.bd (fun a=>(R a).length)≤200000):
 ∃qs k,qO [.dict (uW (fun a=>pairD (R a) (N a)) ws), .tuple [.str d.verb,iD w, .list (d.rest iD)]]= .ok (pairD qs k)∧Fo qs k (d.tx T)∧qs.length≤d.bd (fun a=>(R a).length):=by
 obtain⟨X,hX⟩:∃X,X=PyData.dict (uW (fun a=>pairD (R a) (N a)) ws):=⟨_,rfl⟩
 have gt:∀a∈ws,jF X (iD a)= .ok (pairD (R a) (N a)):=fun a ha=>by rw [hX];exact IW _ ha
 have ask:=agr (fun a=>pairD (R a) (N a)) ws d hr
 rw [←hX] at ask⊢
 have kd:=JL d
 have fin:∀(rs:List Rule) (n:Option Nat) (B:Nat),Fo rs n (d.tx T)→rs.length≤3000000→(∀zs,sJ rs n zs→zs.length≤B)→B≤d.bd (fun a=>(R a).length)→
  je (eG jZ (dZ 2) (eC (.str "is"))) (nq (gT [(gN 5),(gN 6)]) (fu qG [(eG fX (dZ 4) (eC (.int 0)))])) (je (uo (eG jZ (dZ 2) (eC (.str "join"))) (eG jZ (dZ 2) (eC (.str "insert")))) (nq (gT [(gN 5),(gN 6)]) (fu Qc [(dZ 2),(eG jF (gR 0) (eG fX (dZ 4) (eC (.int 0)))),(dZ 4),(gR 0)])) (nq (gT [(gN 5),(gN 6)]) (fu Mg [(dZ 2),(eG jF (gR 0) (eG fX (dZ 4) (eC (.int 0)))),(dZ 4)]))) [.bor X, .dat (.tuple [.str d.verb,iD w, .list (d.rest iD)]), .dat (.str d.verb), .dat (iD w), .dat (.list (d.rest iD)), .un, .un]= .nx [.bor X, .dat (.tuple [.str d.verb,iD w, .list (d.rest iD)]), .dat (.str d.verb), .dat (iD w), .dat (.list (d.rest iD)), .dat (eZ rs), .dat (eX n)]→
  ∃qs k,qO [X, .tuple [.str d.verb,iD w, .list (d.rest iD)]]= .ok (pairD qs k)∧Fo qs k (d.tx T)∧qs.length≤d.bd (fun a=>(R a).length):=fun rs n B t hl hB hBd step=>by
  obtain⟨qs,k,e,tq,lq⟩:=ahs t hl B hB
  refine⟨qs,k,?_,tq,by omega⟩
  refine jA ?_
  show Rt (Ao [.bor X, .dat (.tuple [.str d.verb,iD w, .list (d.rest iD)]), .un, .un, .un, .un, .un]) _
  unfold Ao
  refine fK (ρ' :=[.bor X, .dat (.tuple [.str d.verb,iD w, .list (d.rest iD)]), .dat (.str d.verb), .dat (iD w), .dat (.list (d.rest iD)), .un, .un]) rfl ?_
  refine fK (ρ' :=[.bor X, .dat (.tuple [.str d.verb,iD w, .list (d.rest iD)]), .dat (.str d.verb), .dat (iD w), .dat (.list (d.rest iD)), .un, .un]) (Vf (kW rfl (nW rfl kd) rfl ask)) ?_
  refine fK step ?_
  exact iI (jf rfl rfl e) rfl
 have all:∀(rs:List Rule) (n:Option Nat),∀zs,sJ rs n zs→zs.length≤rs.length:=fun rs n zs h=>h.len
 cases d with
 |is u=>
  obtain⟨rs,k,e,g,f,hk,ht,hl⟩:=Z5 u ok.1 ok.2.1 ok.2.2
  refine fin rs (some k) rs.length ⟨g,f,fV.some hk,ht⟩ (by have:=ok.2.1;omega) (all _ _) (by simp only [Dd.bd];omega) ?_
  rw [Du (by simp! only [Dd.verb])]
  exact mU (nW (x:= .str (fZ u)) (by simp! only [Dd.rest,yC]) e) rfl
 |join a b=>
  have ha:=hT a (hr a (by simp [Dd.refs]))
  have hb' :=hT b (hr b (by simp [Dd.refs]))
  simp only [Dd.bd] at hb
  obtain⟨s1,t1,t2,bl⟩:=aai ha hb' (by omega)
  obtain⟨q,c,c3,tc,g3,f3,l3⟩:=FW t1 t2 (by rw [aA,bl];omega) ok
  have ql:(R a++bring (R a) (R b)++q).length≤(R a).length+(R b).length+1:=by simp only [aA,bl];omega
  refine fin _ c _ tc (by omega) (all _ _) (by simp only [Dd.bd];exact ql) ?_
  rw [tU (by simp! only [Dd.verb,v_all]),Du (by simp! only [Dd.verb,v_all])]
  refine mU (d:= .tuple [eZ (R a++bring (R a) (R b)++q),eX c]) (nY (x:= .str jO) (y:=pairD (R a) (N a)) (z:= .list [iD a,iD b]) (w:=X) rfl (by simp! only [Dd.rest,yC,gt a (hr a (by simp [Dd.refs]))]) rfl rfl ?_) rfl
  refine jA ?_
  show Rt (Bc [.dat (.str jO), .dat (pairD (R a) (N a)), .dat (.list [iD a,iD b]), .bor X, .un, .un, .un]) _
  unfold Bc
  refine fK (ρ' :=[.dat (.str jO), .dat (pairD (R a) (N a)), .dat (.list [iD a,iD b]), .bor X, .un, .un, .un]) (by simp! only [v_all]) ?_
  refine fK (ρ' :=[.dat (.str jO), .dat (pairD (R a) (N a)), .dat (.list [iD a,iD b]), .bor X, .dat (eZ (R a++bring (R a) (R b))), .dat (eX (N a)), .dat (eX (pY (R a) (N b)))]) (mU (jf (y:=pairD (R b) (N b)) rfl (by simp! only [Fd,gt b (hr b (by simp [Dd.refs]))]) s1) rfl) ?_
  exact iI (kW rfl rfl rfl c3) rfl
 |insert a p b=>
  have ha:=hT a (hr a (by simp [Dd.refs]))
  have hb' :=hT b (hr b (by simp [Dd.refs]))
  simp only [Dd.bd] at hb
  obtain⟨rs,c,e,tc,lc⟩:=abn ha hb' p ok.1 ok.2 (by omega)
  refine fin rs c _ tc (by omega) (all _ _) (by simp only [Dd.bd];exact lc) ?_
  rw [tU (by simp! only [Dd.verb,v_all]),Du (by simp! only [Dd.verb,v_all])]
  refine mU (d:= .tuple [eZ rs,eX c]) (nY (x:= .str iJ) (y:=pairD (R a) (N a)) (z:= .list [iD a, .int (p:Int),iD b]) (w:=X) rfl (by simp! only [Dd.rest,yC,gt a (hr a (by simp [Dd.refs]))]) rfl rfl ?_) rfl
  refine jA ?_
  show Rt (Bc [.dat (.str iJ), .dat (pairD (R a) (N a)), .dat (.list [iD a, .int (p:Int),iD b]), .bor X, .un, .un, .un]) _
  unfold Bc
  exact mQ (Ad (by simp! only []) (iI (kW (y:= .int (p:Int)) (z:=pairD (R b) (N b)) rfl (by simp! only [Fd]) (by simp! only [T8,gt b (hr b (by simp [Dd.refs]))]) e) rfl))
 |times a m=>
  have ha:=hT a (hr a (by simp [Dd.refs]))
  simp only [Dd.bd] at hb
  have re:=W9 (R a) ha.g ha.f (by omega) (N a) ha.nm m ok.1 (by rw [ha.len];exact ok.2)
  obtain⟨q,l,e0,g,f,n,t⟩:=FT (m:=m) ha.g ha.f ha.nm ok.1 (by rw [ha.len];exact ok.2)
  rw [e0] at re
  obtain⟨c,hc⟩:∃c,c=(overF (R a) (N a) m).2:=⟨_,rfl⟩
  obtain⟨rs,hrs⟩:∃rs,rs=R a++q:=⟨_,rfl⟩
  have rl:rs.length≤(R a).length+1:=by rw [hrs,aA];omega
  rw [←hc,←hrs] at re
  rw [←hc,←hrs] at n t
  refine fin rs c _ ⟨by rw [hrs];exact g,by rw [hrs];exact f,n,by rw [t,ha.t];rfl⟩ (by omega) (all _ _) (by simp only [Dd.bd];exact rl) ?_
  rw [tU (by simp! only [Dd.verb,v_all]),tU (by simp! only [Dd.verb,v_all])]
  refine mU (d:= .tuple [eZ rs,eX c]) (kW (x:= .str jo) (y:=pairD (R a) (N a)) (z:= .list [iD a, .int (m:Int)]) rfl (by simp! only [Dd.rest,yC,gt a (hr a (by simp [Dd.refs]))]) rfl ?_) rfl
  refine jA ?_
  show Rt (pA [.dat (.str jo), .dat (pairD (R a) (N a)), .dat (.list [iD a, .int (m:Int)])]) _
  unfold pA
  exact mQ (Ad (by simp! only []) (iI (kW (x:=eZ (R a)) (y:=eX (N a)) (z:= .int (m:Int)) (by simp! only [gh]) (by simp! only [gA]) (by simp! only [Fd]) re) rfl))
 |turn a=>
  have ha:=hT a (hr a (by simp [Dd.refs]))
  simp only [Dd.bd] at hb
  obtain⟨q,c,re,g,f,l,n,t,nn⟩:=Zf (R a) ha.g ha.f (by omega) (N a) ha.nm
  obtain⟨rs,hrs⟩:∃rs,rs=R a++q:=⟨_,rfl⟩
  have rl:rs.length≤2*(R a).length:=by rw [hrs,aA];omega
  rw [←hrs] at re g f n t nn
  refine fin rs c _ ⟨g,f,n,by rw [t,ha.t];rfl⟩ (by omega) nn (by simp only [Dd.bd];exact bD _) ?_
  rw [tU (by simp! only [Dd.verb,v_all]),tU (by simp! only [Dd.verb,v_all])]
  refine mU (d:= .tuple [eZ rs,eX c]) (kW (x:= .str jT) (y:=pairD (R a) (N a)) (z:= .list [iD a]) rfl (by simp! only [Dd.rest,yC,gt a (hr a (by simp [Dd.refs]))]) rfl ?_) rfl
  refine jA ?_
  show Rt (pA [.dat (.str jT), .dat (pairD (R a) (N a)), .dat (.list [iD a])]) _
  unfold pA
  refine fK (ρ' :=[.dat (.str jT), .dat (pairD (R a) (N a)), .dat (.list [iD a])]) (by simp! only [v_all]) ?_
  exact mQ (Ad (by simp! only []) (iI (jf (x:=eZ (R a)) (y:=eX (N a)) (by simp! only [gh]) (by simp! only [gA]) re) rfl))
 |put a s o=>
  have ha:=hT a (hr a (by simp [Dd.refs]))
  simp only [Dd.bd] at hb
  obtain⟨q,c,re,g,f,l,n,t,nn⟩:=QZ (R a) ha.g ha.f (by omega) (N a) ha.nm s o ok.1 ok.2
  obtain⟨rs,hrs⟩:∃rs,rs=R a++q:=⟨_,rfl⟩
  have rl:rs.length≤2*(R a).length:=by rw [hrs,aA];omega
  rw [←hrs] at re g f n t nn
  refine fin rs c _ ⟨g,f,n,by rw [t,ha.t];rfl⟩ (by omega) nn (by simp only [Dd.bd];exact bD _) ?_
  rw [tU (by simp! only [Dd.verb,v_all]),tU (by simp! only [Dd.verb,v_all])]
  refine mU (d:= .tuple [eZ rs,eX c]) (kW (x:= .str lV) (y:=pairD (R a) (N a)) (z:= .list [iD a, .str (s1 s), .str (s1 o)]) rfl (by simp! only [Dd.rest,yC,gt a (hr a (by simp [Dd.refs]))]) rfl ?_) rfl
  refine jA ?_
  show Rt (pA [.dat (.str lV), .dat (pairD (R a) (N a)), .dat (.list [iD a, .str (s1 s), .str (s1 o)])]) _
  unfold pA
  refine fK (ρ' :=[.dat (.str lV), .dat (pairD (R a) (N a)), .dat (.list [iD a, .str (s1 s), .str (s1 o)])]) (by simp! only [v_all]) ?_
  refine fK (ρ' :=[.dat (.str lV), .dat (pairD (R a) (N a)), .dat (.list [iD a, .str (s1 s), .str (s1 o)])]) (by simp! only [v_all]) ?_
  exact mQ (Ad (by simp! only []) (iI (nY (x:=eZ (R a)) (y:=eX (N a)) (z:= .str (s1 s)) (w:= .str (s1 o)) (by simp! only [gh]) (by simp! only [gA]) (by simp! only [Fd]) (by simp! only [T8]) re) rfl))
 |cut a s e=>
  have ha:=hT a (hr a (by simp [Dd.refs]))
  simp only [Dd.bd] at hb
  obtain⟨q,c,re,t,g,f,l,_⟩:=RM ha (by omega) (R a).length (fun k z=>ha.nm k z) s e ok.1 ok.2
  obtain⟨rs,hrs⟩:∃rs,rs=R a++q:=⟨_,rfl⟩
  have rl:rs.length≤5*(R a).length:=by rw [hrs,aA];omega
  rw [←hrs] at re t
  refine fin rs c _ t (by omega) (all _ _) (by simp only [Dd.bd];exact rl) ?_
  rw [tU (by simp! only [Dd.verb,v_all]),tU (by simp! only [Dd.verb,v_all])]
  refine mU (d:= .tuple [eZ rs,eX c]) (kW (x:= .str lW) (y:=pairD (R a) (N a)) (z:= .list [iD a, .int (s:Int), .int (e:Int)]) rfl (by simp! only [Dd.rest,yC,gt a (hr a (by simp [Dd.refs]))]) rfl ?_) rfl
  refine jA ?_
  show Rt (pA [.dat (.str lW), .dat (pairD (R a) (N a)), .dat (.list [iD a, .int (s:Int), .int (e:Int)])]) _
  unfold pA
  refine fK (ρ' :=[.dat (.str lW), .dat (pairD (R a) (N a)), .dat (.list [iD a, .int (s:Int), .int (e:Int)])]) (by simp! only [v_all]) ?_
  refine fK (ρ' :=[.dat (.str lW), .dat (pairD (R a) (N a)), .dat (.list [iD a, .int (s:Int), .int (e:Int)])]) (by simp! only [v_all]) ?_
  refine fK (ρ' :=[.dat (.str lW), .dat (pairD (R a) (N a)), .dat (.list [iD a, .int (s:Int), .int (e:Int)])]) (by simp! only [v_all]) ?_
  exact mQ (Ad (by simp! only []) (iI (nY (x:=eZ (R a)) (y:=eX (N a)) (z:= .int (s:Int)) (w:= .int (e:Int)) (by simp! only [gh]) (by simp! only [gA]) (by simp! only [Fd]) (by simp! only [T8]) re) rfl))
 |remove a s e=>
  have ha:=hT a (hr a (by simp [Dd.refs]))
  simp only [Dd.bd] at hb
  obtain⟨rs,c,re,t,rl⟩:=Vh ha s e ok.1 ok.2 (by omega)
  refine fin rs c _ t (by omega) (all _ _) (by simp only [Dd.bd];exact rl) ?_
  rw [tU (by simp! only [Dd.verb,v_all]),tU (by simp! only [Dd.verb,v_all])]
  refine mU (d:= .tuple [eZ rs,eX c]) (kW (x:= .str gY) (y:=pairD (R a) (N a)) (z:= .list [iD a, .int (s:Int), .int (e:Int)]) rfl (by simp! only [Dd.rest,yC,gt a (hr a (by simp [Dd.refs]))]) rfl ?_) rfl
  refine jA ?_
  show Rt (pA [.dat (.str gY), .dat (pairD (R a) (N a)), .dat (.list [iD a, .int (s:Int), .int (e:Int)])]) _
  unfold pA
  refine fK (ρ' :=[.dat (.str gY), .dat (pairD (R a) (N a)), .dat (.list [iD a, .int (s:Int), .int (e:Int)])]) (by simp! only [v_all]) ?_
  refine fK (ρ' :=[.dat (.str gY), .dat (pairD (R a) (N a)), .dat (.list [iD a, .int (s:Int), .int (e:Int)])]) (by simp! only [v_all]) ?_
  refine fK (ρ' :=[.dat (.str gY), .dat (pairD (R a) (N a)), .dat (.list [iD a, .int (s:Int), .int (e:Int)])]) (by simp! only [v_all]) ?_
  refine fK (ρ' :=[.dat (.str gY), .dat (pairD (R a) (N a)), .dat (.list [iD a, .int (s:Int), .int (e:Int)])]) (by simp! only [v_all]) ?_
  exact iI (kW (y:= .int (s:Int)) (z:= .int (e:Int)) rfl (by simp! only [Fd]) (by simp! only [T8]) re) rfl
end Sb
namespace Sb
open PySem PySem.Spec L2 Evl DL
abbrev St:Type:=List Nat×Dd (List Nat)
def upT(T:List Nat→List Nat)(w v:List Nat):List Nat→List Nat:=fun x=>if x=w then v else T x
def upB(b:List Nat→Nat)(w:List Nat)(v:Nat):List Nat→Nat:=fun x=>if x=w then v else b x
def nu(es:List St):List (List Nat):=es.foldl (fun ws e=>addW ws e.1) []
def Fq(es:List St):List Nat→List Nat:=es.foldl (fun T e=>upT T e.1 (e.2.tx T)) fun _=>[]
def Vz(es:List St):List Nat→Nat:=es.foldl (fun b e=>upB b e.1 (e.2.bd b)) fun _=>0
theorem pC(es:List St)(e:St):nu (es++[e])=addW (nu es) e.1:=by simp [nu]
theorem Ma(es:List St)(e:St):Fq (es++[e])=upT (Fq es) e.1 (e.2.tx (Fq es)):=by simp [Fq]
theorem Mp(es:List St)(e:St):Vz (es++[e])=upB (Vz es) e.1 (e.2.bd (Vz es)):=by simp [Vz]
theorem aeb:∀es:List St,(nu es).Nodup:=by
 refine snocInd (by simp [nu]) fun es e ih=> ?_
 rw [pC]
 exact aeF ih
def rowOf(e:St):List Nat:=TL.joinL [32] (e.2.row e.1)
structure Uk(es:List St):Prop where
 rf:∀(i:Nat) e,es[i]? =some e→∀a∈e.2.refs,a∈nu (es.take i)
 ok:∀(i:Nat) e,es[i]? =some e→e.2.ok (Fq (es.take i))
 rw_:∀(i:Nat) e,es[i]? =some e→Kc e.1 e.2
 bd:∀(i:Nat) e,es[i]? =some e→e.2.bd (Vz (es.take i))≤200000
theorem Uk.nil:Uk []:=⟨fun i e h=>by simp at h,fun i e h=>by simp at h,fun i e h=>by simp at h,fun i e h=>by simp at h⟩
theorem Uk.snoc{es:List St}(h:Uk es){e:St}(h1:∀a∈e.2.refs,a∈nu es)(h2:e.2.ok (Fq es))(h3:Kc e.1 e.2)(h4:e.2.bd (Vz es)≤200000):Uk (es++[e]):=by
 have at_:∀(i:Nat) x,(es++[e])[i]? =some x→(es[i]? =some x∧(es++[e]).take i=es.take i)∨(x=e∧(es++[e]).take i=es):=fun i x hx=>by
  have hi:=(au.mp hx).1
  rw [aA,cU] at hi
  by_cases z:i<es.length
  ·rw [aP z] at hx
   exact .inl ⟨hx,cY (by omega)⟩
  ·have e1:i=es.length:=by omega
   subst e1
   rw [bG (bD _)] at hx
   simp only [Nat.sub_self,aG,Option.some.injEq] at hx
   exact .inr ⟨hx.symm,by simp⟩
 refine⟨fun i x hx=> ?_,fun i x hx=> ?_,fun i x hx=> ?_,fun i x hx=> ?_⟩<;>rcases at_ i x hx with⟨a,b⟩|⟨rfl,b⟩
 ·rw [b];exact h.rf i x a
 ·rw [b];exact h1
 ·rw [b];exact h.ok i x a
 ·rw [b];exact h2
 ·exact h.rw_ i x a
 ·exact h3
 ·rw [b];exact h.bd i x a
 ·rw [b];exact h4
theorem afC{α:Type}{b b' :α→Nat}{d:Dd α}(h:∀a∈d.refs,b a≤b' a):d.bd b≤d.bd b' :=by
 cases d<;>simp only [Dd.refs,aO,bB,or_false,forall_eq_or_imp,forall_eq] at h<;>simp only [Dd.bd]<;>omega
theorem WT{x:Nat}{S:List Nat}:∀{ls:List (List Nat)},x∈TL.joinL S ls→x∈S∨∃l∈ls,x∈l
 |[],h=>by simp [TL.joinL] at h
 |[l],h=> .inr ⟨l,by simp,by simpa [TL.joinL] using h⟩
 |l::m::ls,h=>by
  simp only [TL.joinL,aU] at h
  rcases h with h|h|h
  ·exact .inr ⟨l,by simp,h⟩
  ·exact .inl h
  ·rcases WT h with h|⟨k,hk,hx⟩
   ·exact .inl h
   ·exact .inr ⟨k,aN _ hk,hx⟩
theorem N8{S:List Nat}{m:Nat}:∀{ls:List (List Nat)},(∀l∈ls,l.length≤m)→(TL.joinL S ls).length≤ls.length*(m+S.length)
 |[],_=>by simp [TL.joinL]
 |[l],h=>by
  have:=h l (by simp)
  simp only [TL.joinL,aZ,cG]
  omega
 |l::k::ls,h=>by
  have h1:=h l (by simp)
  have h2:=N8 (S:=S) (m:=m) (ls:=k::ls) fun x hx=>h x (aN _ hx)
  simp only [TL.joinL,aA,aZ,Nat.add_mul,Nat.one_mul] at h2⊢
  omega
theorem row_free{e:St}(h:Kc e.1 e.2):59∉rowOf e∧(rowOf e).length≤250∧rowOf e≠[]:=by
 have hp:=Cz h
 refine⟨fun z=> ?_,?_,fun z=> ?_⟩
 ·rcases WT z with z|⟨l,hl,hx⟩
  ·simp at z
  ·exact(hp l hl).2 59 hx|>.2 rfl
 ·have:=N8 (S:=[32]) (m:=40) (ls:=e.2.row e.1) fun l hl=>(hp l hl).1
  have al:=N5 e.2
  have:(e.2.row e.1).length≤5:=by simp only [Dd.row,aZ,aC];omega
  simp only [aZ,cG] at*
  unfold rowOf
  omega
 ·have h1:=h.w.1
  have:(rowOf e).length=0:=by rw [z];rfl
  unfold rowOf Dd.row at this
  simp only [TL.joinL,aA] at this
  omega
def xQ(es:List St):List Nat:=TL.joinL [59,32] (es.map rowOf)
theorem Yy(es:List St)(h:Uk es)(hl:es.length≤1000):∃(R:List Nat→List Rule) (N:List Nat→Option Nat),Fj [.str (fZ (xQ es))]= .ok (.dict (uW (fun a=>pairD (R a) (N a)) (nu es)))∧∀a∈nu es,Fo (R a) (N a) (Fq es a)∧(R a).length≤Vz es a:=by
 obtain⟨X,hX⟩:∃X,X=fZ (xQ es):=⟨_,rfl⟩
 rw [←hX]
 have run:Rt (yF [.dat (.str X), .un, .un, .un]) (fun d=>∃(R:List Nat→List Rule) (N:List Nat→Option Nat),d= .dict (uW (fun a=>pairD (R a) (N a)) (nu es))∧∀a∈nu es,Fo (R a) (N a) (Fq es a)∧(R a).length≤Vz es a):=by
  unfold yF
  refine fK (ρ' :=[.dat (.str X), .own (.dict []), .un, .un]) (by simp! only []) ?_
  by_cases h0:es=[]
  ·subst h0
   have e0:X=("":Str):=by rw [hX];rfl
   refine mQ (Ad (by simp! only [e0]) ⟨_,rfl,fun _=>[],fun _=>none,rfl,fun a ha=>by simp [nu] at ha⟩)
  have ne:¬X=("":Str):=fun z=>by
   have z2:fZ (xQ es)=fZ []:=by rw [←hX,z];rfl
   have z3:=Ws z2
   cases es with
   |nil=>exact h0 rfl
   |cons e es=>
    have hr:=row_free (h.rw_ 0 e rfl)
    have:(xQ (e::es)).length=0:=by rw [z3];rfl
    unfold xQ at this
    have h4:(rowOf e).length≠0:=fun q=>hr.2.2 (dJ.mp q)
    cases es with
    |nil=>simp only [bf,dN,TL.joinL] at this;omega
    |cons f es=>
     simp only [bf,TL.joinL,aA] at this
     omega
  refine fK (ρ' :=[.dat (.str X), .own (.dict []), .un, .un]) (by simp! only [ne]) ?_
  have e5:("; ":Str).cps.toList=[59,32]:=by decide+kernel
  have rl:∀r∈es.map rowOf,59∉r∧r.length≤250:=fun r hr=>by
   obtain⟨e,he,rfl⟩:=bV.mp hr
   obtain⟨i,hi⟩:=List.mem_iff_getElem?.mp he
   have:=row_free (h.rw_ i e hi)
   exact⟨this.1,this.2.1⟩
  have sp:uD X (.str "; ")= .ok (.list (es.map fun e=>aV (fZ (rowOf e)))):=by
   have e1:(((("; ":Str).length)==0)=false):=by decide+kernel
   have e2:X.length+2≤sizeLine:=by
    have:=N8 (S:=[59,32]) (m:=250) (ls:=es.map rowOf) fun l hl=>(rl l hl).2
    rw [aC] at this
    simp only [aZ,cG] at this
    rw [hX,qp]
    unfold xQ
    exact uE (by omega)
   have e3:Txt.split X "; "=(es.map rowOf).map fZ:=by
    have j:=Zb "; " (es.map rowOf)
    rw [e5] at j
    rw [hX]
    unfold xQ
    rw [←j]
    refine TL.split_join (s:=59) (S:=[32]) e5 (by decide+kernel) (by simpa using h0) fun p hp=> ?_
    obtain⟨l,hl,rfl⟩:=bV.mp hp
    exact(rl l hl).1
   simp only [uD,e1,e2,and_self,if_true,e3,cD]
   rfl
  refine oV (N:=fun ρ=>∃(R:List Nat→List Rule) (N:List Nat→Option Nat) (k2 k3:Sl),ρ=[.dat (.str X), .own (.dict (uW (fun a=>pairD (R a) (N a)) (nu es))),k2,k3]∧∀a∈nu es,Fo (R a) (N a) (Fq es a)∧(R a).length≤Vz es a) ?_ ?_
  ·have loop:=mD (mi:=iL (nA (Bx uD (dZ 0) (eC (.str "; "))))) (g:=gN 2) (body:=(fH (gD 3 (fu rH [(dZ 2)]))
 (fH (je (eG yq (dZ 3) (eC .none)) (zm "NoText") fU)
 (oM 1 (eG fX (dZ 3) (eC (.int 1))) (fu qO [(gR 1),(dZ 3)]))))) (ρ:=[.dat (.str X), .own (.dict []), .un, .un]) (ds:=es.map fun e=>aV (fZ (rowOf e)))
    (fun i ρ=>∃(R:List Nat→List Rule) (N:List Nat→Option Nat) (k2 k3:Sl),ρ=[.dat (.str X), .own (.dict (uW (fun a=>pairD (R a) (N a)) (nu (es.take i)))),k2,k3]∧∀a∈nu (es.take i),Fo (R a) (N a) (Fq (es.take i) a)∧(R a).length≤Vz (es.take i) a)
    (Rb (by simp! only [tO,Bx,sp];rfl)) ⟨fun _=>[],fun _=>none,_,_,rfl,fun a ha=>by simp [nu] at ha⟩ (by
     rintro i d ρ hd ⟨R,N,k2,k3,rfl,inv⟩
     rw [aF,aJ] at hd
     obtain⟨e,he,rfl⟩:=hd
     have et:es.take (i+1)=es.take i++[e]:=by
      rw [bF,he]
      rfl
     have so:=KJ (h.rw_ i e he)
     have b2:e.2.bd (fun a=>(R a).length)≤e.2.bd (Vz (es.take i)):=afC fun a ha=>(inv a (h.rf i e he a ha)).2
     obtain⟨qs,k,mt,tq,lq⟩:=afy (fun a ha=>(inv a ha).1) e.2 (h.rf i e he) (h.ok i e he) e.1 (bJ b2 (h.bd i e he))
     have hwl:(uW (fun a=>pairD (R a) (N a)) (nu (es.take i))).length<sizeLine:=by
      rw [Vk]
      have:∀es:List St,(nu es).length≤es.length:=by
       refine snocInd (by simp [nu]) fun es e ih=> ?_
       rw [pC,aA,cU]
       have:=Xx (ws:=nu es) (w:=e.1)
       omega
      have:=this (es.take i)
      rw [aW] at this
      exact lO (by omega)
     refine⟨_,oR,?_⟩
     simp only [set_0,kZ]
     refine ig (ρ' :=[.dat (.str X), .own (.dict (uW (fun a=>pairD (R a) (N a)) (nu (es.take i)))), .dat (.str (fZ (rowOf e))), .dat (.tuple [.str e.2.verb,iD e.1, .list (e.2.rest iD)])]) (nO (nW rfl so)) ?_
     refine ig (ρ' :=[.dat (.str X), .own (.dict (uW (fun a=>pairD (R a) (N a)) (nu (es.take i)))), .dat (.str (fZ (rowOf e))), .dat (.tuple [.str e.2.verb,iD e.1, .list (e.2.rest iD)])]) rfl ?_
     have ec:fu qO [(gR 1),(dZ 3)] [.dat (.str X), .own (.dict (uW (fun a=>pairD (R a) (N a)) (nu (es.take i)))), .dat (.str (fZ (rowOf e))), .dat (.tuple [.str e.2.verb,iD e.1, .list (e.2.rest iD)])]= .ok (pairD qs k):=jf rfl rfl mt
     have ek:DL.keyOf (iD e.1)=some (.inr (fZ e.1)):=rfl
     refine jn (ρ' :=[.dat (.str X), .own (.dict (uW (fun a=>pairD (if a=e.1 then qs else R a) (if a=e.1 then k else N a)) (nu (es.take (i+1))))), .dat (.str (fZ (rowOf e))), .dat (.tuple [.str e.2.verb,iD e.1, .list (e.2.rest iD)])]) ?_ ⟨fun a=>if a=e.1 then qs else R a,fun a=>if a=e.1 then k else N a,_,_,rfl,fun a ha=> ?_⟩
     ·simp only [oM,ec,aQ,aG,El,if_true,j9,lu,jQ,eC,iV,gA,ek,hwl,Xj,set_0,kZ]
      rw [et,pC]
      congr 6
      funext x
      unfold upW
      by_cases z:x=e.1
      ·simp only [z,if_true]
      ·simp only [z,if_false]
     ·rw [et,pC,xX] at ha
      rw [et,Ma,Mp]
      unfold upT upB
      by_cases z:a=e.1
      ·simp only [z,if_true]
       exact⟨tq,by omega⟩
      ·simp only [z,if_false]
       exact inv a (ha.resolve_right z))
   rw [aC,bO] at loop
   exact loop
  ·rintro ρ ⟨R,N,k2,k3,rfl,inv⟩
   exact⟨_,rfl,R,N,rfl,inv⟩
 obtain⟨d,hd,R,N,rfl,hh⟩:=yI (ks:=[.dat]) (n:=3) (m:=yF) (ds:=[.str X]) run
 exact⟨R,N,hd,hh⟩
def Wt(ws:List (List Nat)):List (List Nat):=(Uc (ws.map fZ)).map fun x=>x.cps.toList
theorem ahm(ws:List (List Nat)):(Wt ws).map fZ=Uc (ws.map fZ):=by
 unfold Wt
 rw [cD]
 exact List.map_id' _
theorem Ju(ws:List (List Nat)):(Wt ws).Perm ws:=by
 have:=(Tj (ws.map fZ)).map fun x:Str=>x.cps.toList
 rw [cD] at this
 have e:ws.map ((fun x:Str=>x.cps.toList)∘fZ)=ws:=List.map_id' ws
 rw [e] at this
 exact this
theorem Vx(F:List Nat→D)(ws:List (List Nat))(hl:ws.length<64):pH (.dict (uW F ws))= .ok (.list ((Wt ws).map iD)):=by
 have h2:(ws.map fZ).length<64:=by rw [aC];exact hl
 simp only [pH,aaM,h2,if_true,←ahm,cD]
 rfl
abbrev namesW(ws:List (List Nat))(M:List Nat→Option Nat):D:= .list (ws.map fun a=>bM [iD a,eX (M a)])
theorem afh(es:List St)(h:Uk es)(hl:es.length≤1000)(hw:(nu es).length≤40)(hB:∀a,Vz es a≤200000):∃(rs:List Rule) (M:List Nat→Option Nat),Jm [.str (fZ (xQ es))]= .ok (.tuple [eZ rs,namesW (Wt (nu es)) M])∧Good rs∧Fits MOST rs∧rs.length≤8000000∧∀a∈nu es,Fo rs (M a) (Fq es a):=by
 obtain⟨R,N,te,inv⟩:=Yy es h hl
 obtain⟨X,hX⟩:∃X,X=aV (fZ (xQ es)):=⟨_,rfl⟩
 obtain⟨sw,hsw⟩:∃sw,sw=Wt (nu es):=⟨_,rfl⟩
 obtain⟨E,hE⟩:∃E,E=PyData.dict (uW (fun a=>pairD (R a) (N a)) (nu es)):=⟨_,rfl⟩
 have pm:=Ju (nu es)
 have nd:sw.Nodup:=by rw [hsw];exact pm.nodup_iff.mpr (aeb es)
 have mem:∀a,a∈sw↔a∈nu es:=fun a=>by rw [hsw];exact pm.mem_iff
 have sl:sw.length≤40:=by rw [hsw,pm.length_eq];exact hw
 have so:=Vx (fun a=>pairD (R a) (N a)) (nu es) (by omega)
 have gt:∀a∈sw,jF E (iD a)= .ok (pairD (R a) (N a)):=fun a ha=>by rw [hE];exact IW _ ((mem a).mp ha)
 rw [←hE,←hsw] at so
 rw [←hX,←hE] at te
 rw [←hX,←hsw]
 have run:Rt (U9 [.dat X, .un, .un, .un, .un, .un, .un]) (fun d=>∃(rs:List Rule) (M:List Nat→Option Nat),d= .tuple [eZ rs,namesW sw M]∧Good rs∧Fits MOST rs∧rs.length≤8000000∧∀a∈sw,fV rs (M a)∧gQ rs (M a)=Fq es a):=by
  unfold U9
  refine fK (ρ' :=[.dat X, .own E, .un, .un, .un, .un, .un]) (by simp only [j7,nW (ma:=dZ 0) (ρ:=[.dat X, .un, .un, .un, .un, .un, .un]) rfl te];rfl) ?_
  refine fK (ρ' :=[.dat X, .own E, .dat (eZ []), .un, .un, .un, .un]) (by simp! only [];rfl) ?_
  refine fK (ρ' :=[.dat X, .own E, .dat (eZ []), .own (.list []), .un, .un, .un]) (by simp! only []) ?_
  refine oV (N:=fun ρ=>∃(rs:List Rule) (M:List Nat→Option Nat) (k4 k5 k6:Sl),ρ=[.dat X, .own E, .dat (eZ rs), .own (namesW sw M),k4,k5,k6]∧Good rs∧Fits MOST rs∧rs.length≤sw.length*200000∧∀a∈sw,fV rs (M a)∧gQ rs (M a)=Fq es a) ?_ ?_
  ·have loop:=mD (mi:=iL (nA (Eo pH (gR 1)))) (g:=gN 4) (body:=(fH (nq (gT [(gN 5),(gN 6)]) (eG jF (gR 1) (dZ 4)))
 (fH (nq (gT [(gN 2),(gN 6)]) (fu yg [(dZ 2),(dZ 5),(dZ 6)]))
 (sG 3 (jc [(dZ 4),(dZ 6)]))))) (ρ:=[.dat X, .own E, .dat (eZ []), .own (.list []), .un, .un, .un]) (ds:=sw.map iD)
    (fun i ρ=>∃(rs:List Rule) (M:List Nat→Option Nat) (k4 k5 k6:Sl),ρ=[.dat X, .own E, .dat (eZ rs), .own (namesW (sw.take i) M),k4,k5,k6]∧Good rs∧Fits MOST rs∧rs.length≤i*200000∧∀a∈sw.take i,fV rs (M a)∧gQ rs (M a)=Fq es a)
    (Rb (by rw [tO,Fb];simp only [wU,Ax,iV,so];rfl)) ⟨[],fun _=>none,_,_,_,rfl,Good.nil,(fun n hn=>by cases hn),by simp,fun a ha=>by simp at ha⟩ (by
     rintro i d ρ hd ⟨rs,M,k4,k5,k6,rfl,g,f,rl,im⟩
     rw [aF,aJ] at hd
     obtain⟨a,ha,rfl⟩:=hd
     have hi:=(au.mp ha).1
     have et:sw.take (i+1)=sw.take i++[a]:=by
      rw [bF,ha]
      rfl
     have ham:a∈sw:=aX ha
     have nin:a∉sw.take i:=fun z=>by
      obtain⟨j,hj⟩:=List.mem_iff_getElem?.mp z
      rw [List.getElem?_take] at hj
      split at hj
      ·have hj2:=(au.mp hj).1
       have h6:=(dD.mp nd) j i hj2 hi (by omega)
       exact h6 (by rw [(au.mp hj).2,(au.mp ha).2])
      ·cases hj
     obtain⟨ta,la⟩:=inv a ((mem a).mp ham)
     have hb:=hB a
     have br:=Oz rs (R a) ta.g (by omega) (N a) ta.nm
     obtain⟨g2,f2,_⟩:=Nz g f (R a) ta.g ta.f
     obtain⟨bn,bt⟩:=Sy g f ta.g ta.f ta.nm
     have bl:(bring rs (R a)).length=(R a).length:=by simp [bring]
     refine⟨_,oR,?_⟩
     simp only [set_0,kZ]
     refine ig (ρ' :=[.dat X, .own E, .dat (eZ rs), .own (namesW (sw.take i) M), .dat (iD a), .dat (eZ (R a)), .dat (eX (N a))]) (mU (d:=pairD (R a) (N a)) (by simp! only [gt a ham]) rfl) ?_
     refine ig (ρ' :=[.dat X, .own E, .dat (eZ (rs++bring rs (R a))), .own (namesW (sw.take i) M), .dat (iD a), .dat (eZ (R a)), .dat (eX (pY rs (N a)))]) (mU (kW rfl rfl rfl br) rfl) ?_
     refine jn (ρ' :=[.dat X, .own E, .dat (eZ (rs++bring rs (R a))), .own (namesW (sw.take (i+1)) fun x=>if x=a then pY rs (N a) else M x), .dat (iD a), .dat (eZ (R a)), .dat (eX (pY rs (N a)))]) ?_ ⟨rs++bring rs (R a),fun x=>if x=a then pY rs (N a) else M x,_,_,_,rfl,g2,f2,by rw [aA,bl];omega,fun x hx=> ?_⟩
     ·rw [app_ok (ds:=(sw.take i).map fun a=>bM [iD a,eX (M a)]) (d:= .tuple [iD a,eX (pY rs (N a))]) rfl (by simp! only []) (by rw [aC,aW];exact lO (by omega)),et]
      have e9:((sw.take i).map fun x=>bM [iD x,eX (if x=a then pY rs (N a) else M x)])=(sw.take i).map fun x=>bM [iD x,eX (M x)]:=bQ fun x hx=>by
       have:¬x=a:=fun z=>nin (by rw [←z];exact hx)
       simp only [this,if_false]
      simp only [namesW,cR,bf,dN,if_true,set_0,kZ,e9]
     ·rw [et] at hx
      by_cases z:x=a
      ·simp only [z,if_true]
       exact⟨bn,by rw [bt,ta.t]⟩
      ·simp only [z,if_false]
       have hx' :x∈sw.take i:=by
        rcases aU.mp hx with q|q
        ·exact q
        ·exact absurd (by simpa using q) z
       obtain⟨i1,i2⟩:=im x hx'
       exact⟨i1.app _,by rw [qW i1,i2]⟩)
   rw [aC,bO] at loop
   exact loop
  ·rintro ρ ⟨rs,M,k4,k5,k6,rfl,g,f,rl,im⟩
   refine⟨.tuple [eZ rs,namesW sw M],?_,rs,M,rfl,g,f,by omega,im⟩
   first
   |exact(show Jt 2 3 _=_ from rfl)
   |(show KH 3 _ _=_
     unfold KH
     simp only [aQ,aG]
     show gG _ _=_
     exact ret_ok (by simp! only []))
 obtain⟨d,hd,rs,M,rfl,g,f,rl,im⟩:=yI (ks:=[.dat]) (n:=6) (m:=U9) (ds:=[X]) run
 exact⟨rs,M,hd,g,f,rl,fun a ha=>⟨g,f,(im a ((mem a).mpr ha)).1,(im a ((mem a).mpr ha)).2⟩⟩
end Sb
namespace Sb
open PySem PySem.Spec L2 Evl DL
instance(w:List Nat):Decidable (yw w):=by unfold yw;infer_instance
def vbs:List Str:=["is","join","times","cut","turn","put","insert","remove","drop","swap","length","count","sign","show","stands","first","parts","order","piece","ring","form","words","none"]
theorem ag0:∀x∈vbs,yw x.cps.toList:=by decide+kernel
theorem ad7(x:Str):fZ x.cps.toList=x:=TL.ext_tl rfl
end Sb
namespace Sb
open PySem PySem.Spec L2 Evl DL
def ltr(c:Int)(j k:Nat):Nat:=97+((c/384+11*(j:Int)+7*(k:Int))%26).toNat
structure abp(c:Int)(k:Nat)(w:List Nat):Prop where
 v:c%6=5→w=(vbs.getD ((c/6+(k:Int))%23).toNat "").cps.toList
 l:c%6=4→w.length=1+k
 s:c%6<4→∃sz:Nat,(sz:Int)=1+c/6%8∧w.length=sz∧∀j:Nat,j<sz→(j:Int)=c/48%(sz:Int)→w.getD j 0=ltr c j k
theorem ag6:∀a,a<23→∀b,b<23→(vbs.getD a "").cps.toList=(vbs.getD b "").cps.toList→a=b:=by decide+kernel
theorem ahR{c:Int}{k:Nat}{w w' :List Nat}(h0:0≤c)(hk:1≤k)(hk2:k≤2)(h:abp c 0 w)(h' :abp c k w'):w' ≠w:=fun z=>by
 subst z
 by_cases c5:c%6=5
 ·have e:=(h.v c5).symm.trans (h'.v c5)
  have:=ag6 _ (by omega) _ (by omega) e
  omega
 by_cases c4:c%6=4
 ·have:=h.l c4
  have:=h'.l c4
  omega
 ·obtain⟨sz,s1,s2,s3⟩:=h.s (by omega)
  obtain⟨sz',s1',s2',s3'⟩:=h'.s (by omega)
  have e:sz' =sz:=by omega
  subst e
  have hp:0<(sz' :Int):=by omega
  have m0:=cA (c/48) (show(sz' :Int)≠0 by omega)
  have m1:=bL (c/48) hp
  obtain⟨j,hj⟩:∃j:Nat,(j:Int)=c/48%(sz' :Int):=⟨(c/48%(sz' :Int)).toNat,by omega⟩
  have a:=s3 j (by omega) hj
  have b:=s3' j (by omega) hj
  rw [a] at b
  unfold ltr at b
  generalize c/384=y at b
  omega
theorem ZR(c:Int)(h0:0≤c):∃w,yw w∧w=(vbs.getD (c%23).toNat "").cps.toList∧yL [.int c]= .ok (.str (fZ w)):=by
 obtain⟨k,hk⟩:∃k:Nat,(k:Int)=c%23:=⟨(c%23).toNat,by omega⟩
 have k23:k<23:=by omega
 have hv:k<vbs.length:=k23
 refine⟨(vbs[k]).cps.toList,ag0 _ (dH hv),by rw [←hk,cV,bA,bH hv];rfl,?_⟩
 rw [ad7]
 have ix:fX (.list (vbs.map aV)) (.int (k:Int))= .ok (.str vbs[k]):=by
  rw [vf (by omega) (by rw [aC];omega),cV,bA,aF,bH hv]
  rfl
 have dm:iK (.int c) (.int 23)= .ok (.int (k:Int)):=by rw [iy (by omega),hk]
 refine jA ?_
 show Rt (yD [.dat (.int c), .un]) _
 unfold yD
 refine fK (ρ' :=[.dat (.int c), .dat (.list ((vbs.take 8).map aV))]) rfl ?_
 refine fK (ρ' :=[.dat (.int c), .dat (.list ((vbs.take 15).map aV))]) rfl ?_
 refine fK (ρ' :=[.dat (.int c), .dat (.list (vbs.map aV))]) rfl ?_
 exact iI (by simp only [j9,jQ,lu,eC,iV,dm,ix]) rfl
theorem ab0(x:Int):∃l:Nat,(97≤l∧l≤122)∧l=97+(x%26).toNat∧(iK (.int x) (.int 26)).bind (fun i=>fX (.str "abcdefghijklmnopqrstuvwxyz") i)= .ok (.str (s1 l)):=by
 obtain⟨k,hk⟩:∃k:Nat,(k:Int)=x%26:=⟨(x%26).toNat,by omega⟩
 have k26:k<26:=by omega
 have e:("abcdefghijklmnopqrstuvwxyz":Str)=fZ ((cC 26).map (97+·)):=by decide+kernel
 refine⟨97+k,by omega,by omega,?_⟩
 rw [iy (by omega),iV,←hk,e,WK (by simpa using k26) (by simp)]
 simp [bA,k26]
theorem ab4(c:Int)(h0:0≤c)(h1:c<10 ^ 100)(k:Nat)(hk:k≤4):∃w,yw w∧abp c k w∧uh [.int c, .int (k:Int)]= .ok (.str (fZ w)):=by
 obtain⟨kd,hkd⟩:∃kd:Int,kd=c%6:=⟨_,rfl⟩
 have kd0:0≤kd∧kd<6:=by omega
 have d6:iK (.int c) (.int 6)= .ok (.int kd):=by rw [iy (by omega),hkd]
 have v6:jB (.int c) (.int 6)= .ok (.int (c/6)):=lC (by omega) (by omega)
 have v48:jB (.int c) (.int 48)= .ok (.int (c/48)):=lC (by omega) (by omega)
 have v384:jB (.int c) (.int 384)= .ok (.int (c/384)):=lC (by omega) (by omega)
 have m8:iK (.int (c/6)) (.int 8)= .ok (.int (c/6%8)):=iy (by omega)
 obtain⟨sz,hsz,s1',s2'⟩:∃sz:Nat,(sz:Int)=(if kd=4 then 1+(k:Int) else 1+c/6%8)∧1≤sz∧sz≤8:=by
  by_cases z:kd=4
  ·exact⟨1+k,by rw [if_pos z];omega,by omega,by omega⟩
  ·exact⟨(1+c/6%8).toNat,by rw [if_neg z];omega,by omega,by omega⟩
 have run:Rt (v8 [.dat (.int c), .dat (.int (k:Int)), .un, .un, .un, .un, .un, .un]) (fun d=>∃w,yw w∧abp c k w∧d= .str (fZ w)):=by
  unfold v8
  refine fK (ρ' :=[.dat (.int c), .dat (.int (k:Int)), .dat (.int kd), .un, .un, .un, .un, .un]) (by simp! only [d6]) ?_
  refine fK (ρ' :=[.dat (.int c), .dat (.int (k:Int)), .dat (.int kd), .dat (.int (1+c/6%8)), .un, .un, .un, .un]) (by simp! only [v6,m8]) ?_
  refine fK (ρ' :=[.dat (.int c), .dat (.int (k:Int)), .dat (.int kd), .dat (.int (sz:Int)), .un, .un, .un, .un]) (by
   by_cases z:kd=4
   ·rw [if_pos z] at hsz
    simp! only [z,hsz]
   ·rw [if_neg z] at hsz
    simp! only [z,hsz]) ?_
  by_cases z5:kd=5
  ·obtain⟨w,hw,hw2,e⟩:=ZR (c/6+(k:Int)) (by omega)
   exact mQ (Ad (by simp! only [z5]) (iI (nW (x:= .int (c/6+(k:Int))) (by simp! only [v6]) e) ⟨w,hw,⟨fun _=>hw2,fun z=>absurd (z.symm.trans (by omega:c%6=5)) (by decide),fun z=>absurd z (by omega)⟩,rfl⟩))
  refine fK (ρ' :=[.dat (.int c), .dat (.int (k:Int)), .dat (.int kd), .dat (.int (sz:Int)), .un, .un, .un, .un]) (by simp! only [z5]) ?_
  refine fK (ρ' :=[.dat (.int c), .dat (.int (k:Int)), .dat (.int kd), .dat (.int (sz:Int)), .dat (.str (fZ [])), .un, .un, .un]) (by simp! only [];rfl) ?_
  refine oV (N:=fun ρ=>∃(u:List Nat) (k5 k6 k7:Sl),ρ=[.dat (.int c), .dat (.int (k:Int)), .dat (.int kd), .dat (.int (sz:Int)), .dat (.str (fZ u)),k5,k6,k7]∧u.length=sz∧(∀x∈u,97≤x∧x≤122)∧(kd<4→∀j:Nat,j<sz→(j:Int)=c/48%(sz:Int)→u.getD j 0=ltr c j k)) ?_ ?_
  ·have loop:=mD (mi:=Qt (dZ 3)) (g:=gN 5) (body:=(fH (gD 6 (eC (.int 0)))
 (fH (je (uo (eG jZ (dZ 2) (eC (.int 2))) (uo (eG jZ (dZ 2) (eC (.int 3))) (mY (eG Nt (dZ 2) (eC (.int 2))) (eG jZ (dZ 5) (eG iK (eG jB (dZ 0) (eC (.int 48))) (dZ 3)))))) (gD 6 (eG lQ (eC (.int 7)) (dZ 1))) fU)
 (fH (gD 7 (eG jw (eG jw (eG jB (dZ 0) (eC (.int 384))) (eG lQ (eC (.int 11)) (dZ 5))) (dZ 6)))
 (gD 4 (eG jw (dZ 4) (eG fX (eC (.str "abcdefghijklmnopqrstuvwxyz")) (eG iK (dZ 7) (eC (.int 26)))))))))) (ρ:=[.dat (.int c), .dat (.int (k:Int)), .dat (.int kd), .dat (.int (sz:Int)), .dat (.str (fZ [])), .un, .un, .un]) (ds:=mO 0 (sz:Int))
    (fun i ρ=>∃(u:List Nat) (k5 k6 k7:Sl),ρ=[.dat (.int c), .dat (.int (k:Int)), .dat (.int kd), .dat (.int (sz:Int)), .dat (.str (fZ u)),k5,k6,k7]∧u.length=i∧(∀x∈u,97≤x∧x≤122)∧(kd<4→∀j:Nat,j<i→(j:Int)=c/48%(sz:Int)→u.getD j 0=ltr c j k))
    (Mu rfl (by omega) (by omega)) ⟨[],_,_,_,rfl,rfl,fun x hx=>(by cases hx),fun _ j hj=>absurd hj (Nat.not_lt_zero _)⟩ (by
     rintro i d ρ hd ⟨u,k5,k6,k7,rfl,ul,ua,uj⟩
     have hi:=(au.mp hd).1
     unfold mO at hd hi
     rw [aC,cZ] at hi
     rw [aF,List.getElem?_range hi] at hd
     simp only [Option.map_some,Option.some.injEq,Int.zero_add] at hd
     subst hd
     refine⟨_,oR,?_⟩
     simp only [set_0,kZ]
     refine ig (ρ' :=[.dat (.int c), .dat (.int (k:Int)), .dat (.int kd), .dat (.int (sz:Int)), .dat (.str (fZ u)), .dat (.int (i:Int)), .dat (.int 0),k7]) (by simp! only []) ?_
     refine acU (M:=fun ρ=>∃st:Nat,(st≤100∧(kd<4→(i:Int)=c/48%(sz:Int)→st=7*k))∧ρ=[.dat (.int c), .dat (.int (k:Int)), .dat (.int kd), .dat (.int (sz:Int)), .dat (.str (fZ u)), .dat (.int (i:Int)), .dat (.int (st:Int)),k7]) ?_ ?_
     ·have mz:iK (.int (c/48)) (.int (sz:Int))= .ok (.int (c/48%(sz:Int))):=iy (by omega)
      have mu:lQ (.int 7) (.int (k:Int))= .ok (.int ((7*k:Nat):Int)):=by
       rw [qZ (by omega) (by omega) (by omega) (by omega)]
       congr 2
      have yes:Nx (gD 6 (eG lQ (eC (.int 7)) (dZ 1)) [.dat (.int c), .dat (.int (k:Int)), .dat (.int kd), .dat (.int (sz:Int)), .dat (.str (fZ u)), .dat (.int (i:Int)), .dat (.int 0),k7]) (fun ρ=>∃st:Nat,(st≤100∧(kd<4→(i:Int)=c/48%(sz:Int)→st=7*k))∧ρ=[.dat (.int c), .dat (.int (k:Int)), .dat (.int kd), .dat (.int (sz:Int)), .dat (.str (fZ u)), .dat (.int (i:Int)), .dat (.int (st:Int)),k7]):=jn (ρ' :=[.dat (.int c), .dat (.int (k:Int)), .dat (.int kd), .dat (.int (sz:Int)), .dat (.str (fZ u)), .dat (.int (i:Int)), .dat (.int ((7*k:Nat):Int)),k7]) (by simp! only [mu]) ⟨7*k,⟨by omega,fun _ _=>rfl⟩,rfl⟩
      have no:(kd<4→¬(i:Int)=c/48%(sz:Int))→Nx (fU [.dat (.int c), .dat (.int (k:Int)), .dat (.int kd), .dat (.int (sz:Int)), .dat (.str (fZ u)), .dat (.int (i:Int)), .dat (.int 0),k7]) (fun ρ=>∃st:Nat,(st≤100∧(kd<4→(i:Int)=c/48%(sz:Int)→st=7*k))∧ρ=[.dat (.int c), .dat (.int (k:Int)), .dat (.int kd), .dat (.int (sz:Int)), .dat (.str (fZ u)), .dat (.int (i:Int)), .dat (.int (st:Int)),k7]):=fun q=>jn rfl ⟨0,⟨by omega,fun a b=>absurd b (q a)⟩,rfl⟩
      by_cases c2:kd=2
      ·exact KD (by simp! only [c2]) yes
      ·by_cases c3:kd=3
       ·exact KD (by simp! only [c2,c3]) yes
       ·by_cases c4:kd<2
        ·by_cases c5:(i:Int)=c/48%(sz:Int)
         ·have c5' :decide ((i:Int)=c/48%(sz:Int))=true:=decide_eq_true c5
          exact KD (by simp! only [c2,c3,c4,v48,mz,c5']) yes
         ·exact Jo (by simp! only [c2,c3,c4,v48,mz,c5]) (no fun _=>c5)
        ·exact Jo (by simp! only [c2,c3,c4]) (no fun z=>by omega)
     ·rintro ρ ⟨st,⟨hst,hst2⟩,rfl⟩
      have mu:lQ (.int 11) (.int (i:Int))= .ok (.int (11*(i:Int))):=qZ (by omega) (by omega) (by omega) (by omega)
      refine ig (ρ' :=[.dat (.int c), .dat (.int (k:Int)), .dat (.int kd), .dat (.int (sz:Int)), .dat (.str (fZ u)), .dat (.int (i:Int)), .dat (.int (st:Int)), .dat (.int (c/384+11*(i:Int)+(st:Int)))]) (by simp! only [v384,mu]) ?_
      obtain⟨l,hl,hl2,ex⟩:=ab0 (c/384+11*(i:Int)+(st:Int))
      have ad:jw (.str (fZ u)) (.str (s1 l))= .ok (.str (fZ (u++[l]))):=adU (a:=u) (b:=[l]) (by simp;omega)
      refine jn (ρ' :=[.dat (.int c), .dat (.int (k:Int)), .dat (.int kd), .dat (.int (sz:Int)), .dat (.str (fZ (u++[l]))), .dat (.int (i:Int)), .dat (.int (st:Int)), .dat (.int (c/384+11*(i:Int)+(st:Int)))]) (by simp! only [ex,ad]) ⟨u++[l],_,_,_,rfl,by simp [ul],fun x hx=> ?_,fun z4 j hj hje=> ?_⟩
      rotate_left
      ·rcases dW j i with hlt|hge
       ·rw [bA,aP (by omega)]
        exact uj z4 j hlt hje
       ·have:j=i:=by omega
        subst this
        have e9:(u++[l]).getD j 0=l:=by
         rw [bA,bG (by omega),ul]
         simp
        have:=hst2 z4 hje
        rw [e9,hl2]
        unfold ltr
        rw [this]
        try congr 3
        try omega
      rcases aU.mp hx with hx|hx
      ·exact ua x hx
      ·have:x=l:=by simpa using hx
       rw [this]
       exact hl)
   have rl:(mO 0 (sz:Int)).length=sz:=by simp [mO]
   rw [rl] at loop
   exact loop
  ·rintro ρ ⟨u,k5,k6,k7,rfl,ul,ua,uj⟩
   refine iI rfl ⟨u,⟨by omega,by omega,ua⟩,⟨fun z=>absurd z (by omega),fun z=> ?_,fun z=>⟨sz,?_,ul,uj (by omega)⟩⟩,rfl⟩
   ·rw [if_pos (by omega)] at hsz
    omega
   ·rw [if_neg (by omega)] at hsz
    exact hsz
 obtain⟨d,hd,w,hw,hw2,rfl⟩:=yI (ks:=[.dat, .dat]) (n:=6) (m:=v8) (ds:=[.int c, .int (k:Int)]) run
 exact⟨w,hw,hw2,hd⟩
end Sb
namespace Sb
open PySem PySem.Spec L2 Evl DL
def aeJ(l:List Nat):Prop:=1≤l.length∧l.length≤62∧∀c∈l,c∈GF
theorem Sw:∀ls:List (List Nat),TL.joinL [] ls=ls.flatten
 |[]=>rfl
 |[l]=>by simp [TL.joinL]
 |l::m::ls=>by
  have:=Sw (m::ls)
  simp only [TL.joinL,dh,this,List.flatten_cons]
theorem Ye(c:Int)(h0:0≤c)(h1:c<10 ^ 100):∃l,aeJ l∧vz [.int c]= .ok (.str (fZ l)):=by
 obtain⟨k,hk⟩:∃k:Nat,(k:Int)=c%5:=⟨(c%5).toNat,by omega⟩
 have k5:k<5:=by omega
 have dm:iK (.int c) (.int 5)= .ok (.int (k:Int)):=by rw [iy (by omega),hk]
 obtain⟨n,n1,n2,hn⟩:∃n:Nat,1≤n∧n≤62∧fX (.list [.int 1, .int 2, .int 2, .int 3, .int 62]) (.int (k:Int))= .ok (.int (n:Int)):=by
  match k,k5 with
  |0,_=>exact⟨1,by omega,by omega,rfl⟩
  |1,_=>exact⟨2,by omega,by omega,rfl⟩
  |2,_=>exact⟨2,by omega,by omega,rfl⟩
  |3,_=>exact⟨3,by omega,by omega,rfl⟩
  |4,_=>exact⟨62,by omega,by omega,rfl⟩
 have v5:jB (.int c) (.int 5)= .ok (.int (c/5)):=lC (by omega) (by omega)
 have v310:jB (.int c) (.int 310)= .ok (.int (c/310)):=lC (by omega) (by omega)
 have m20:iK (.int (c/310)) (.int 20)= .ok (.int (c/310%20)):=iy (by omega)
 obtain⟨st,hst⟩:∃st:Int,st=1+c/310%20:=⟨_,rfl⟩
 have sb:∀i:Nat,∃s:Nat,s∈GF∧lK [.int (c/5+st*(i:Int))]= .ok (.str (s1 s)):=fun i=>MK _
 obtain⟨f,hf⟩:∃f:Nat→Nat,∀i,f i∈GF∧lK [.int (c/5+st*(i:Int))]= .ok (.str (s1 (f i))):=⟨fun i=>(sb i).choose,fun i=>(sb i).choose_spec⟩
 refine⟨(cC n).map f,⟨by simpa using n1,by simpa using n2,fun x hx=> ?_⟩,?_⟩
 ·obtain⟨i,_,rfl⟩:=bV.mp hx
  exact(hf i).1
 refine jA ?_
 show Rt (vA [.dat (.int c), .un, .un, .un]) _
 unfold vA
 refine fK (ρ' :=[.dat (.int c), .dat (.int (n:Int)), .un, .un]) (by
  have e:kJ [(eC (.int 1)),(eC (.int 2)),(eC (.int 2)),(eC (.int 3)),(eC (.int 62))] [.dat (.int c), .un, .un, .un]= .ok (.list [.int 1, .int 2, .int 2, .int 3, .int 62]):=rfl
  simp only [gD,j9,e,iV,jQ,eC,dm,hn,set_0,kZ]) ?_
 refine fK (ρ' :=[.dat (.int c), .dat (.int (n:Int)), .dat (.int st), .un]) (by simp! only [v310,m20,hst]) ?_
 have lc:Lq (Qt (dZ 1)) (gN 3) (eC (.bool true)) (fu lK [(eG jw (eG jB (dZ 0) (eC (.int 5))) (eG lQ (dZ 2) (dZ 3)))]) [3] [.dat (.int c), .dat (.int (n:Int)), .dat (.int st), .un]= .ok (.list ((cC n).map fun i=>aV (s1 (f i)))):=by
  refine Jr (fun i:Nat=>aH (i:Int)) _ (by rw [←BR];exact Mu rfl (by omega) (by omega)) (fun i hi=> ?_) (by simp only [cZ];exact uE (by omega))
  have hi' :i<n:=by simpa using hi
  have mu:lQ (.int st) (.int (i:Int))= .ok (.int (st*(i:Int))):=qZ (by omega) (by omega) (by omega) (by omega)
  refine⟨_,rfl,rfl,nW (x:= .int (c/5+st*(i:Int))) ?_ (hf i).2⟩
  simp only [sH,List.foldl_cons,List.foldl_nil,set_0,kZ]
  simp! only [v5,mu]
 have dj:=Vp "" ((cC n).map fun i=>[f i]) 1 (fun l hl=>by
  obtain⟨i,_,rfl⟩:=bV.mp hl
  simp) (by
  have:("":Str).length=0:=by decide+kernel
  rw [this]
  simp
  omega)
 have e0:("":Str).cps.toList=[]:=by decide+kernel
 rw [e0,Sw] at dj
 have e1:((cC n).map fun i=>[f i]).flatten=(cC n).map f:=by
  induction(cC n) with
  |nil=>rfl
  |cons x xs ih=>simp only [bf,List.flatten_cons,ih];rfl
 rw [e1,cD] at dj
 exact iI (by
  simp only [Bx,eC,iV,lc]
  exact dj) rfl
theorem S7(c:Int)(h0:0≤c)(h1:c<10 ^ 100)(l:List Nat)(hl:aeJ l)(m:Nat)(hm:1≤m)(hm2:m≤2 ^ 60):∃w,1≤w.length∧w.length≤40∧w.length≤m∧(∀x∈w,x∈GF)∧oG [.int c, .str (fZ l), .int (m:Int)]= .ok (.str (fZ w)):=by
 have v240:jB (.int c) (.int 240)= .ok (.int (c/240)):=lC (by omega) (by omega)
 obtain⟨k,hk⟩:∃k:Nat,(k:Int)=c/240%3:=⟨(c/240%3).toNat,by omega⟩
 have k3:k<3:=by omega
 have m3:iK (.int (c/240)) (.int 3)= .ok (.int (k:Int)):=by rw [iy (by omega),hk]
 obtain⟨n,n1,n2,hn⟩:∃n:Nat,1≤n∧n≤40∧fX (.list [.int 6, .int 6, .int 40]) (.int (k:Int))= .ok (.int (n:Int)):=by
  match k,k3 with
  |0,_=>exact⟨6,by omega,by omega,rfl⟩
  |1,_=>exact⟨6,by omega,by omega,rfl⟩
  |2,_=>exact⟨40,by omega,by omega,rfl⟩
 have mn:iK (.int c) (.int (n:Int))= .ok (.int (c%(n:Int))):=iy (by omega)
 have cn:0≤c%(n:Int)∧c%(n:Int)<(n:Int):=⟨cA _ (by omega),bL _ (by omega)⟩
 obtain⟨z,hz⟩:∃z:Nat,(z:Int)=min (1+c%(n:Int)) (m:Int):=⟨(min (1+c%(n:Int)) (m:Int)).toNat,by omega⟩
 obtain⟨l1,l2,l3⟩:=hl
 have bl:=Ij (a:=l) (by omega)
 obtain⟨L,hL⟩:∃L,L=aV (fZ l):=⟨_,rfl⟩
 rw [←hL] at bl⊢
 have run:Rt (uU [.dat (.int c), .dat L, .dat (.int (m:Int)), .un, .un, .un]) (fun d=>∃w,w.length=z∧(∀x∈w,x∈GF)∧d= .str (fZ w)):=by
  unfold uU
  refine fK (ρ' :=[.dat (.int c), .dat L, .dat (.int (m:Int)), .dat (.int (1+c%(n:Int))), .un, .un]) (by simp! only [v240,m3,hn,mn]) ?_
  refine fK (ρ' :=[.dat (.int c), .dat L, .dat (.int (m:Int)), .dat (.int (1+c%(n:Int))), .dat (.str (fZ [])), .un]) (by simp! only [];rfl) ?_
  refine oV (N:=fun ρ=>∃(u:List Nat) (k0 k5:Sl),ρ=[k0, .dat L, .dat (.int (m:Int)), .dat (.int (1+c%(n:Int))), .dat (.str (fZ u)),k5]∧u.length=z∧∀x∈u,x∈GF) ?_ ?_
  ·have loop:=mD (mi:=Qt (fu Iv [(dZ 3),(dZ 2)])) (g:=gN 5) (body:=(fH (gD 0 (eG iK (eG jw (eG jw (eG lQ (dZ 0) (eC (.int 48271))) (dZ 5)) (eC (.int 11))) (eC (.int 2147483647))))
 (gD 4 (eG jw (dZ 4) (eG fX (dZ 1) (eG iK (eG jB (dZ 0) (eC (.int 16))) (fu jr [(dZ 1)]))))))) (ρ:=[.dat (.int c), .dat L, .dat (.int (m:Int)), .dat (.int (1+c%(n:Int))), .dat (.str (fZ [])), .un]) (ds:=mO 0 (z:Int))
    (fun i ρ=>∃(u:List Nat) (y:Int) (k5:Sl),ρ=[.dat (.int y), .dat L, .dat (.int (m:Int)), .dat (.int (1+c%(n:Int))), .dat (.str (fZ u)),k5]∧0≤y∧y<10 ^ 100∧u.length=i∧∀x∈u,x∈GF)
    (Mu (by simp! only [];rw [hz]) (by omega) (by omega)) ⟨[],c,_,rfl,h0,h1,rfl,fun x hx=>by cases hx⟩ (by
     rintro i d ρ hd ⟨u,y,k5,rfl,y0,y1,ul,ua⟩
     have hi:=(au.mp hd).1
     unfold mO at hd hi
     rw [aC,cZ] at hi
     rw [aF,List.getElem?_range hi] at hd
     simp only [Option.map_some,Option.some.injEq,Int.zero_add] at hd
     subst hd
     have mu:lQ (.int y) (.int 48271)= .ok (.int (y*48271)):=qZ (by omega) (by omega) (by omega) (by omega)
     obtain⟨y',hy'⟩:∃y' :Int,y' =(y*48271+(i:Int)+11)%2147483647:=⟨_,rfl⟩
     have mm:iK (.int (y*48271+(i:Int)+11)) (.int 2147483647)= .ok (.int y'):=by rw [iy (by omega),hy']
     have v16:jB (.int y') (.int 16)= .ok (.int (y' /16)):=lC (by omega) (by omega)
     have lp:(0:Int)<((l.length:Nat):Int):=by omega
     obtain⟨p,hp⟩:∃p:Nat,(p:Int)=y' /16%((l.length:Nat):Int):=⟨(y' /16%((l.length:Nat):Int)).toNat,by have:=cA (y' /16) (b:=((l.length:Nat):Int)) (by omega);omega⟩
     have pl:p<l.length:=by have:=bL (y' /16) lp;omega
     have ml:iK (.int (y' /16)) (.int ((l.length:Nat):Int))= .ok (.int (p:Int)):=by rw [iy (by omega),hp]
     have ix:fX L (.int (p:Int))= .ok (.str (s1 (l.getD p 0))):=by rw [hL];exact WK pl (by omega)
     have ad:jw (.str (fZ u)) (.str (s1 (l.getD p 0)))= .ok (.str (fZ (u++[l.getD p 0]))):=adU (a:=u) (b:=[l.getD p 0]) (by simp;omega)
     refine⟨_,oR,?_⟩
     simp only [set_0,kZ]
     refine ig (ρ' :=[.dat (.int y'), .dat L, .dat (.int (m:Int)), .dat (.int (1+c%(n:Int))), .dat (.str (fZ u)), .dat (.int (i:Int))]) (by simp! only [mu,mm]) ?_
     refine jn (ρ' :=[.dat (.int y'), .dat L, .dat (.int (m:Int)), .dat (.int (1+c%(n:Int))), .dat (.str (fZ (u++[l.getD p 0]))), .dat (.int (i:Int))]) (by simp! only [v16,bl,ml,ix,ad]) ⟨u++[l.getD p 0],y',_,rfl,by omega,by omega,by simp [ul],fun x hx=> ?_⟩
     rcases aU.mp hx with hx|hx
     ·exact ua x hx
     ·have:x=l.getD p 0:=by simpa using hx
      rw [this]
      exact l3 _ (getD_mem pl))
   have rl:(mO 0 (z:Int)).length=z:=by simp [mO]
   rw [rl] at loop
   obtain⟨ρ,e,u,y,k5,rfl,_,_,a,b⟩:=loop
   exact⟨_,e,u,_,_,rfl,a,b⟩
  ·rintro ρ ⟨u,k0,k5,rfl,ul,ua⟩
   exact iI rfl ⟨u,ul,ua,rfl⟩
 obtain⟨d,hd,w,hw,hs,rfl⟩:=yI (ks:=[.dat, .dat, .dat]) (n:=3) (m:=uU) (ds:=[.int c,L, .int (m:Int)]) run
 exact⟨w,by omega,by omega,by omega,hs,hd⟩
theorem p60:sV (.int 2) (.int 60)= .ok (.int ((MOST:Nat):Int)):=by
 rw [uP (by decide) (by decide) (by decide)]
 rfl
theorem Wm(c:Int)(h0:0≤c)(h1:c<10 ^ 100)(z m:Nat)(hz:z≤MOST)(hm:m≤MOST):∃n:Nat,n≤MOST∧z*n≤m∧qQ [.int c, .int (z:Int), .int (m:Int)]= .ok (.int (n:Int)):=by
 have big:=WY
 have v6:jB (.int c) (.int 6)= .ok (.int (c/6)):=lC (by omega) (by omega)
 have m6:iK (.int c) (.int 6)= .ok (.int (c%6)):=iy (by omega)
 have a6:iK (.int (c/6)) (.int 6)= .ok (.int (c/6%6)):=iy (by omega)
 have a7:iK (.int (c/6)) (.int 10007)= .ok (.int (c/6%10007)):=iy (by omega)
 have a3:iK (.int (c/6)) (.int 3)= .ok (.int (c/6%3)):=iy (by omega)
 have mu:lQ (.int (c/6)) (.int 1152921504606846883)= .ok (.int (c/6*1152921504606846883)):=qZ (by omega) (by omega) (by omega) (by omega)
 have MM_:((MOST:Nat):Int)=1152921504606846976:=by decide
 have a8:iK (.int (c/6*1152921504606846883)) (.int (((MOST:Nat):Int)+1))= .ok (.int (c/6*1152921504606846883%(((MOST:Nat):Int)+1))):=iy (by omega)
 obtain⟨y,hy⟩:∃y:Nat,y=max 1 z:=⟨_,rfl⟩
 have dv:jB (.int (m:Int)) (.int (max 1 (z:Int)))= .ok (.int ((m/y:Nat):Int)):=by
  rw [lC (by omega) (by omega)]
  congr 2
  rw [hy]
  simp only [Int.natCast_ediv]
  congr 1
  omega
 have mq:0≤((m/y:Nat):Int):=Int.natCast_nonneg _
 have fin:∀x:Int,0≤x→Rt (gG (fu O7 [(dZ 3),(eG jB (dZ 2) (fu QF [(eC (.int 1)),(dZ 1)])),(eG sV (eC (.int 2)) (eC (.int 60)))]) [.dat (.int c), .dat (.int (z:Int)), .dat (.int (m:Int)), .dat (.int x)]) (fun d=>∃n:Nat,n≤MOST∧z*n≤m∧d= .int (n:Int)):=fun x hx=>by
  obtain⟨n,hn⟩:∃n:Nat,(n:Int)=min (min x ((m/y:Nat):Int)) ((MOST:Nat):Int):=⟨(min (min x ((m/y:Nat):Int)) ((MOST:Nat):Int)).toNat,by omega⟩
  refine iI (d:= .int (n:Int)) ?_ ⟨n,by omega,?_,rfl⟩
  ·have e:O7 [.int x, .int ((m/y:Nat):Int), .int ((MOST:Nat):Int)]= .ok (.int (n:Int)):=by
    rw [hn]
    rfl
   rw [K7]
   simp! only [dv,p60,e]
  ·have h2:n≤m/y:=by omega
   have h3:z*n≤y*(m/y):=Nat.mul_le_mul (by omega) h2
   exact bJ h3 (Nat.mul_div_le m y)
 have run:Rt (wN [.dat (.int c), .dat (.int (z:Int)), .dat (.int (m:Int)), .un]) (fun d=>∃n:Nat,n≤MOST∧z*n≤m∧d= .int (n:Int)):=by
  unfold wN
  refine fK (ρ' :=[.dat (.int c), .dat (.int (z:Int)), .dat (.int (m:Int)), .dat (.int (c/6%6))]) (by simp! only [v6,a6]) ?_
  by_cases c3:c%6=3
  ·have n4:¬c%6=4:=by omega
   have n5:¬c%6=5:=by omega
   refine fK (ρ' :=[.dat (.int c), .dat (.int (z:Int)), .dat (.int (m:Int)), .dat (.int (c/6%10007))]) (by simp! only [v6,m6,c3,a7]) ?_
   refine fK (ρ' :=[.dat (.int c), .dat (.int (z:Int)), .dat (.int (m:Int)), .dat (.int (c/6%10007))]) (by simp! only [m6,n4]) ?_
   refine fK (ρ' :=[.dat (.int c), .dat (.int (z:Int)), .dat (.int (m:Int)), .dat (.int (c/6%10007))]) (by simp! only [m6,n5]) ?_
   exact fin _ (by omega)
  ·refine fK (ρ' :=[.dat (.int c), .dat (.int (z:Int)), .dat (.int (m:Int)), .dat (.int (c/6%6))]) (by simp! only [m6,c3]) ?_
   by_cases c4:c%6=4
   ·have n5:¬c%6=5:=by omega
    refine fK (ρ' :=[.dat (.int c), .dat (.int (z:Int)), .dat (.int (m:Int)), .dat (.int (c/6*1152921504606846883%(((MOST:Nat):Int)+1)))]) (by simp! only [v6,m6,c4,mu,p60,a8]) ?_
    refine fK (ρ' :=[.dat (.int c), .dat (.int (z:Int)), .dat (.int (m:Int)), .dat (.int (c/6*1152921504606846883%(((MOST:Nat):Int)+1)))]) (by simp! only [m6,n5]) ?_
    exact fin _ (cA _ (by omega))
   ·refine fK (ρ' :=[.dat (.int c), .dat (.int (z:Int)), .dat (.int (m:Int)), .dat (.int (c/6%6))]) (by simp! only [m6,c4]) ?_
    by_cases c5:c%6=5
    ·refine fK (ρ' :=[.dat (.int c), .dat (.int (z:Int)), .dat (.int (m:Int)), .dat (.int (((MOST:Nat):Int)-c/6%3))]) (by simp! only [v6,m6,c5,p60,a3]) ?_
     exact fin _ (by omega)
    ·refine fK (ρ' :=[.dat (.int c), .dat (.int (z:Int)), .dat (.int (m:Int)), .dat (.int (c/6%6))]) (by simp! only [m6,c5]) ?_
     exact fin _ (by omega)
 obtain⟨d,hd,n,a,b,rfl⟩:=yI (ks:=[.dat, .dat, .dat]) (n:=1) (m:=wN) (ds:=[.int c, .int (z:Int), .int (m:Int)]) run
 exact⟨n,a,b,hd⟩
end Sb
namespace Sb
open PySem PySem.Spec L2 Evl DL
theorem Ii(i:Int):oF [.int i]= .ok (.bool true):=by
 simp! only [oF,Gm,Bool.or_self]
end Sb
namespace Sb
open PySem PySem.Spec L2 Evl DL
theorem Wj(rs:List Rule)(g:Good rs)(f:Fits MOST rs)(hl:rs.length≤16700000)(k:Nat)(hk:k<rs.length)(p:Nat)(hp:p<(sizes rs).getD k 0):ou [eZ rs,fJ (sizes rs), .int (k:Int), .int (p:Int)]= .ok (.str (s1 (((texts rs).getD k []).getD p 0))):=by
 obtain⟨L,hL⟩:∃L,L=eZ rs:=⟨_,rfl⟩
 obtain⟨S,hS⟩:∃S,S=fJ (sizes rs):=⟨_,rfl⟩
 obtain⟨c,hc⟩:∃c,c=((texts rs).getD k []).getD p 0:=⟨_,rfl⟩
 rw [←hL,←hS,←hc]
 have ixr:∀(a:Nat) r,rs[a]? =some r→fX L (.int (a:Int))= .ok (fG r):=fun a r h=>by rw [hL];exact sW h
 have ixs:∀a:Nat,a<rs.length→fX S (.int (a:Int))= .ok (.int (((sizes rs).getD a 0:Nat):Int)):=fun a h=>by rw [hS];exact jD (by rw [j6];exact h)
 refine jA ?_
 show Rt (vC [.dat L, .dat S, .dat (.int (k:Int)), .dat (.int (p:Int)), .un]) _
 unfold vC
 refine oV (vK (N:=fun ρ=>∃(a:Nat) (d3 k4:Sl),ρ=[.dat L, .dat S, .dat (.int (a:Int)),d3,k4]∧rs[a]? =some (.sign c)) (fun n ρ=>∃(q:Nat) (k4:Sl),ρ=[.dat L, .dat S, .dat (.int (n:Int)), .dat (.int (q:Int)),k4]∧n<rs.length∧q<(sizes rs).getD n 0∧((texts rs).getD n []).getD q 0=c) k (by omega) ⟨p,_,rfl,hk,hp,hc.symm⟩ ?_) ?_
 ·rintro n ρ ⟨q,k4,rfl,hn,hq,ht⟩
  have hr:rs[n]? =some rs[n]:=by simp [hn]
  obtain⟨r,er⟩:∃r,r=rs[n]:=⟨_,rfl⟩
  rw [←er] at hr
  have ix:=ixr n r hr
  have ok:=g n r hr
  have tx:=rD g hr
  have sz:=u9 g hr
  rw [tx] at ht
  cases r with
  |sign s=>
   left
   refine⟨by simp! only [ix,fG,gh],n,_,_,rfl,?_⟩
   rw [hr]
   have q0:q=0:=by
    rw [sz] at hq
    simp only [Rule.size] at hq
    omega
   rw [q0] at ht
   have:s=c:=ht
   rw [this]
  |times a m=>
   right
   have ixa:=ixs a (by have:=ok.1;omega)
   have ap:=Pos.get g (show a<rs.length by have:=ok.1;omega)
   refine⟨by simp! only [ix,fG,gh,ts],a,ok.1,jn (ρ' :=[.dat L, .dat S, .dat (.int (a:Int)), .dat (.int ((q%(sizes rs).getD a 0:Nat):Int)), .dat (.int (a:Int))]) ?_ ⟨_,_,rfl,by have:=ok.1;omega,Nat.mod_lt _ ap,?_⟩⟩
   ·dsimp! only [ix,fG,gh,gA,ixa,iy]
    simp
   ·have hq' :q<m*((texts rs).getD a []).length:=by
     rw [gU,bY]
     rw [sz] at hq
     exact hq
    simp only [Rule.tx] at ht
    rw [Ur _ _ _ _ hq',gU] at ht
    exact ht
  |join a b=>
   right
   have ixa:=ixs a (by have:=ok.1;omega)
   by_cases h:q<(sizes rs).getD a 0
   ·have h' :(q:Int)<(((sizes rs).getD a 0:Nat):Int):=by omega
    refine⟨by simp! only [ix,fG,gh,js],a,ok.1,jn (ρ' :=[.dat L, .dat S, .dat (.int (a:Int)), .dat (.int (q:Int)), .dat (.int (a:Int))]) ?_ ⟨_,_,rfl,by have:=ok.1;omega,h,?_⟩⟩
    ·simp! only [ix,fG,gh,gA,ixa,jt,h']
    ·simp only [Rule.tx] at ht
     rwa [Bv (by rw [gU];exact h)] at ht
   ·have h' :¬(q:Int)<(((sizes rs).getD a 0:Nat):Int):=by omega
    refine⟨by simp! only [ix,fG,gh,js],b,ok.2,jn (ρ' :=[.dat L, .dat S, .dat (.int (b:Int)), .dat (.int ((q-(sizes rs).getD a 0:Nat):Int)), .dat (.int (a:Int))]) ?_ ⟨_,_,rfl,by have:=ok.2;omega,?_,?_⟩⟩
    ·simp! only [ix,fG,gh,gA,jy,ixa,jt,h']
     rw [show(q:Int)-(((sizes rs).getD a 0:Nat):Int)=((q-(sizes rs).getD a 0:Nat):Int) by omega]
    ·rw [sz] at hq
     simp only [Rule.size] at hq
     omega
    ·simp only [Rule.tx] at ht
     rwa [Aj (by rw [gU];omega),gU] at ht
 ·rintro ρ ⟨a,d3,k4,rfl,ha⟩
  exact iI (d:= .str (s1 c)) (by simp! only [ixr a _ ha,fG,gA]) rfl
theorem adR(rs:List Rule)(g:Good rs)(f:Fits MOST rs)(hl:rs.length≤16700000)(n:Option Nat)(hn:fV rs n)(p:Nat)(hp:p<lJ rs n):ou [eZ rs,fJ (sizes rs),eX n, .int (p:Int)]= .ok (.str (s1 ((gQ rs n).getD p 0))):=by
 cases n with
 |none=>exact absurd hp (Nat.not_lt_zero _)
 |some k=>exact Wj rs g f hl k (hn k rfl) p hp
end Sb
namespace Sb
open PySem PySem.Spec L2 Evl DL
theorem afn{nk:NK}{i j:Nat}{mk:EM}{mv:XM}{ρ:DL.Env}{d kd:D}{k:Key}{ds:List (D×D)}{cs:List Sl}(hv:mv ρ= .ok d ρ)(hρ:ρ[i]? =some (.nst nk cs))(hc:cs[j]? =some (.own (.dict ds)))(hu:Ah ds=true)(hk:mk ρ= .ok kd)(hkk:DL.keyOf kd=some k)(hl:ds.length<sizeLine):
 W7 nk i j mk mv ρ= .nx (ρ.set i (.nst nk (cs.set j (.own (.dict (o8 ds k d)))))):=by
 simp only [W7,hv,Ru,hρ,if_true,hc,hu,hk,hkk,hl]
theorem aav{nk:NK}{i j:Nat}{m:EM}{ρ:DL.Env}{d:D}{ds:List D}{cs:List Sl}(hρ:ρ[i]? =some (.nst nk cs))(hc:cs[j]? =some (.own (.list ds)))(hm:m ρ= .ok d)(hl:ds.length<sizeLine):
 VD nk i j m ρ= .nx (ρ.set i (.nst nk (cs.set j (.own (.list (ds++[d])))))):=by
 simp only [VD,Ru,hρ,if_true,hc,hm,hl]
theorem aiG{m:EM}{ρ:DL.Env}{d:D}(h:m ρ= .ok d):xE m ρ= .ok d ρ:=by simp only [xE,h]
theorem yx{nk:NK}{i j:Nat}{ρ:DL.Env}{cs:List Sl}{d:D}(h:ρ[i]? =some (.nst nk cs))(hc:cs[j]? =some (.own d)):oW nk i j ρ= .ok d:=by
 simp only [oW,h,if_true,YG,hc]
theorem Lf{nk:NK}{i j:Nat}{ρ:DL.Env}{cs:List Sl}{d:D}(h:ρ[i]? =some (.vP nk cs))(hc:cs[j]? =some (.bor d)):oW nk i j ρ= .ok d:=by
 simp only [oW,h,if_true,YG,hc]
theorem aep{b:QT}{g:GM}{body:SM}{ρ:DL.Env}{ds:List (D×D)}(P:Nat→DL.Env→Prop)(hb:b.get ρ=some ds)(h0:P 0 ρ)(hs:∀(i:Nat) q ρ,ds[i]? =some q→P i ρ→∃ρ1,g (.tuple [q.1,q.2]) ρ=some ρ1∧Nx (body ρ1) (P (i+1))):Nx (Rz b g body ρ) (P ds.length):=by
 cases ds with
 |nil=>exact⟨ρ,by simp only [Rz,hb],h0⟩
 |cons q ds=>
  obtain⟨ρ',e,p⟩:=Nh (g:=g) (body:=body) P ((q::ds).map fun q=>bM [q.1,q.2]) 0 ρ h0 (fun i d ρ hd hP=>by
   rw [aF,aJ] at hd
   obtain⟨x,hx,rfl⟩:=hd
   rw [Nat.zero_add] at hP⊢
   obtain⟨ρ1,e1,ρ2,e2,e3⟩:=hs i x ρ hx hP
   exact⟨ρ1,ρ2,e1, .inl e2,e3⟩)
  rw [aC,Nat.zero_add] at p
  exact⟨ρ',by simp only [Rz,hb,e,aa6],p⟩
def Rx(o:Out)(Q:D→DL.Env→Prop):Prop:=∃d ρ,o= .rx d ρ∧Q d ρ
theorem pO{a b:SM}{ρ ρ' :DL.Env}{Q:D→DL.Env→Prop}(h:a ρ= .nx ρ')(k:Rx (b ρ') Q):Rx (fH a b ρ) Q:=by
 simp only [fH,h]
 exact k
theorem aa2{a b:SM}{ρ:DL.Env}{N:DL.Env→Prop}{Q:D→DL.Env→Prop}(h:Nx (a ρ) N)(k:∀ρ',N ρ' →Rx (b ρ') Q):Rx (fH a b ρ) Q:=by
 obtain⟨ρ',e,n⟩:=h
 exact pO e (k ρ' n)
theorem aem{a b:SM}{ρ:DL.Env}{Q:D→DL.Env→Prop}(h:Rx (a ρ) Q):Rx (fH a b ρ) Q:=by
 obtain⟨d,ρ',e,q⟩:=h
 exact⟨d,ρ',by simp only [fH,e],q⟩
theorem aiX{m:EM}{a b:SM}{ρ:DL.Env}{Q:D→DL.Env→Prop}(h:m ρ= .ok (.bool true))(k:Rx (a ρ) Q):Rx (je m a b ρ) Q:=by rwa [Du h]
theorem Ub{m:EM}{ρ:DL.Env}{d:D}{Q:D→DL.Env→Prop}(h:m ρ= .ok d)(q:Q d ρ):Rx (wV m ρ) Q:=⟨d,ρ,by simp only [wV,h],q⟩
theorem U8{bs:List Bool}{n:Nat}{m:SM}{as:List Sl}{Q:D→DL.Env→Prop}(hc:chk bs as=true)(h:Rx (m (as++aD n .un)) Q):∃d ρ,KN bs n m as= .ok d (mask bs ρ)∧Q d ρ:=by
 obtain⟨d,ρ,e,q⟩:=h
 exact⟨d,ρ,by simp only [KN,hc,if_true,e],q⟩
theorem ae3{i:Nat}{m:SM}{ρ:DL.Env}{ds:List (D×D)}{Q:D→DL.Env→Prop}(h:ρ[i]? =some (.own (.dict ds)))(hu:Ah ds=true)(k:Rx (m (ρ.set i (.dat (.dict ds)))) Q):Rx (VP i m ρ) Q:=by
 unfold VP
 simp only [h,hu,if_true]
 exact k
theorem aao{g:List Sl→RO}{as:List AM}{ρ:DL.Env}{sl outs:List Sl}{d:D}(h:Ag as ρ= .ok sl)(hg:g sl= .ok d outs):rP g as ρ= .ok d (qX as outs ρ):=by simp only [rP,h,hg]
theorem aaw{g:List Sl→RO}{as:List AM}{ρ:DL.Env}{sl outs:List Sl}{d:D}(h:Ag as ρ= .ok sl)(hg:g sl= .ok d outs):uz g as ρ= .ok d:=by simp only [uz,h,hg]
end Sb
namespace Sb
open PySem PySem.Spec L2 Evl DL
theorem afm{G:List D→ER}{ma mb mc md me mf:EM}{ρ:DL.Env}{x y z w v u:D}{r:ER}(ha:ma ρ= .ok x)(hb:mb ρ= .ok y)(hc:mc ρ= .ok z)(hd:md ρ= .ok w)(he:me ρ= .ok v)(hf:mf ρ= .ok u)(h:G [x,y,z,w,v,u]=r):fu G [ma,mb,mc,md,me,mf] ρ=r:=by
 simp only [fu,m7,ha,hb,hc,hd,he,hf,h]
abbrev szD(T:List Nat→List Nat)(ws:List (List Nat)):D:= .dict (uW (fun w=> .int (((T w).length:Nat):Int)) ws)
theorem abm(way:Int)(hw:way=5∨way=7∨way=8∨way=9)(a b:List Nat)(c:Int)(h0:0≤c)(h1:c<10 ^ 100)(T:List Nat→List Nat)(ws:List (List Nat))(ha:a∈ws)(l:List Nat)(hl:aeJ l)(hm:(T a).length≤MOST)(hi:way=8→(T a).length+(T b).length≤MOST):
 ∃d:Dd (List Nat),(∀x∈d.refs,x=a∨x=b)∧d.ok T∧yH [.int way,iD a,iD b, .int c,szD T ws, .str (fZ l)]= .ok (d.toD iD):=by
 have big:MOST<2 ^ 61:=by decide
 obtain⟨l1,l2,l3⟩:=hl
 obtain⟨E,hE⟩:∃E,E=szD T ws:=⟨_,rfl⟩
 have gE:jF E (iD a)= .ok (.int (((T a).length:Nat):Int)):=by rw [hE];exact IW _ ha
 obtain⟨L,hL⟩:∃L,L=aV (fZ l):=⟨_,rfl⟩
 have bl:=Ij (a:=l) (by omega)
 rw [←hL] at bl
 obtain⟨A,hA⟩:∃A,A=iD a:=⟨_,rfl⟩
 obtain⟨B,hB⟩:∃B,B=iD b:=⟨_,rfl⟩
 obtain⟨z,hz⟩:∃z,z=(T a).length:=⟨_,rfl⟩
 rw [←hz] at gE hm
 rw [←hA] at gE
 have run:Rt (uJ [.dat (.int way), .dat (A), .dat (B), .dat (.int c), .dat (E), .dat (L), .un, .un, .un]) (fun r=>∃d:Dd (List Nat),(∀x∈d.refs,x=a∨x=b)∧d.ok T∧r=d.toD iD):=by
  unfold uJ
  refine fK (ρ' :=[.dat (.int way), .dat (A), .dat (B), .dat (.int c), .dat (E), .dat (L), .dat (.int (z:Int)), .un, .un]) (by simp! only [gE]) ?_
  by_cases w7:way=7
  ·obtain⟨p,hp⟩:∃p:Nat,(p:Int)=c%(l.length:Int):=⟨(c%(l.length:Int)).toNat,by have:=cA c (show(l.length:Int)≠0 by omega);omega⟩
   have pl:p<l.length:=by have:=bL c (show 0<(l.length:Int) by omega);omega
   have ml:iK (.int c) (.int ((l.length:Nat):Int))= .ok (.int (p:Int)):=by rw [iy (by omega),hp]
   have ix:=WK (w:=l) pl (by omega)
   rw [←hL] at ix
   have v62:jB (.int c) (.int 62)= .ok (.int (c/62)):=lC (by omega) (by omega)
   obtain⟨s,hs,es⟩:=MK (c/62)
   refine mQ (Ad (by simp! only [w7]) (iI (d:= .tuple [.str "put",A, .str (s1 (l.getD p 0)), .str (s1 s)]) (by
    simp! only [jW,bl,ml,ix,v62,es]) ⟨.put a (l.getD p 0) s,fun x hx=> ?_,⟨l3 _ (getD_mem pl),hs⟩,by rw [hA];rfl⟩))
   left
   simpa [Dd.refs] using hx
  refine fK (ρ' :=[.dat (.int way), .dat (A), .dat (B), .dat (.int c), .dat (E), .dat (L), .dat (.int (z:Int)), .un, .un]) (by simp! only [w7]) ?_
  obtain⟨p,hp,ep⟩:=N6 c h0 h1 (z+1) (by omega) (by omega)
  have e1:((z:Int)+1)=((z+1:Nat):Int):=by omega
  refine fK (ρ' :=[.dat (.int way), .dat (A), .dat (B), .dat (.int c), .dat (E), .dat (L), .dat (.int (z:Int)), .dat (.int (p:Int)), .un]) (nO (jf (x:= .int c) (y:= .int ((z+1:Nat):Int)) rfl (by simp! only [e1]) ep)) ?_
  by_cases w8:way=8
  ·refine mQ (Ad (by simp! only [w8]) (iI (d:= .tuple [.str "insert",A, .int (p:Int),B]) (by
    simp! only [jW]) ⟨.insert a p b,fun x hx=> ?_,⟨by omega,hi w8⟩,by rw [hA,hB];rfl⟩))
   simpa [Dd.refs] using hx
  refine fK (ρ' :=[.dat (.int way), .dat (A), .dat (B), .dat (.int c), .dat (E), .dat (L), .dat (.int (z:Int)), .dat (.int (p:Int)), .un]) (by simp! only [w8]) ?_
  have vm:jB (.int c) (.int 1000003)= .ok (.int (c/1000003)):=lC (by omega) (by omega)
  obtain⟨q,hq,eq⟩:=N6 (c/1000003) (by omega) (by omega) (z+1-p) (by omega) (by omega)
  have e2:((z:Int)+1-(p:Int))=((z+1-p:Nat):Int):=by omega
  have e3:((p:Int)+(q:Int))=((p+q:Nat):Int):=by omega
  have ca:fu jK [(eG jB (dZ 3) (eC (.int 1000003))),(eG mW (eG jw (dZ 6) (eC (.int 1))) (dZ 7))] [.dat (.int way), .dat (A), .dat (B), .dat (.int c), .dat (E), .dat (L), .dat (.int (z:Int)), .dat (.int (p:Int)), .un]= .ok (.int (q:Int)):=jf (x:= .int (c/1000003)) (y:= .int ((z+1-p:Nat):Int)) (by simp! only [vm]) (by simp! only [e2]) eq
  refine fK (ρ' :=[.dat (.int way), .dat (A), .dat (B), .dat (.int c), .dat (E), .dat (L), .dat (.int (z:Int)), .dat (.int (p:Int)), .dat (.int ((p+q:Nat):Int))]) (nO (by rw [j9,ca];simp! only [e3])) ?_
  by_cases w5:way=5
  ·have d9:jB (.int way) (.int 9)= .ok (.int 0):=by rw [lC (by omega) (by omega),w5];rfl
   refine iI (d:= .tuple [.str "cut",A, .int (p:Int), .int ((p+q:Nat):Int)]) (by
    simp! only [jW,d9,yC]) ⟨.cut a p (p+q),fun x hx=> ?_,⟨by omega,by omega⟩,by rw [hA];rfl⟩
   left
   simpa [Dd.refs] using hx
  ·have w9:way=9:=by omega
   have d9:jB (.int way) (.int 9)= .ok (.int 1):=by rw [lC (by omega) (by omega),w9];rfl
   refine iI (d:= .tuple [.str "remove",A, .int (p:Int), .int ((p+q:Nat):Int)]) (by
    simp! only [jW,d9,Fd]) ⟨.remove a p (p+q),fun x hx=> ?_,⟨by omega,by omega⟩,by rw [hA];rfl⟩
   left
   simpa [Dd.refs] using hx
 obtain⟨r,hr,d,a1,a2,rfl⟩:=yI (ks:=[.dat, .dat, .dat, .dat, .dat, .dat]) (n:=3) (m:=uJ) (ds:=[.int way,A,B, .int c,E,L]) run
 refine⟨d,a1,a2,?_⟩
 rw [←hA,←hB,←hE,←hL]
 exact hr
theorem aee(x a b c:Int):YX false (.int x) (.tuple [.int a, .int b, .int c])= .ok (.bool (decide (x=a∨x=b∨x=c))):=by
 simp only [YX,DP,List.all_cons,List.all_nil,Bool.and_self,if_true,Bool.true_and]
 congr 2
 show((a==x)||((b==x)||((c==x)||false)))=decide (x=a∨x=b∨x=c)
 rw [Bool.eq_iff_iff]
 simp only [Bool.or_eq_true,beq_iff_eq,Bool.or_false,decide_eq_true_eq]
 constructor<;>intro h<;>omega
theorem ags{v:Int}(h1:¬v<5)(h2:v≤9)(h6:¬v=6):v=5∨v=7∨v=8∨v=9:=by omega
theorem agT{v:Int}(h1:1≤v)(h3:v<3):v=1∨v=2∨v=8:=by omega
theorem aiv{P:Prop}:(6:Int)=1∨(6:Int)=2∨(6:Int)=8→P:=fun h=>by omega
theorem ahA{a b m:Nat}(h:¬(m:Int)<(a:Int)+(b:Int)):a+b≤m:=by omega
theorem aaF{w:Int}(h:0≤w∧w<10)(h0:¬w=0):1≤w∧w≤9:=by omega
theorem adS(c:Int)(h0:0≤c)(h1:c<10 ^ 60)(T:List Nat→List Nat)(ws:List (List Nat))(hws:ws.length<60)(l:List Nat)(hl:aeJ l)(hm:∀a,(T a).length≤MOST):
 ∃d:Dd (List Nat),(∀x∈d.refs,x∈ws)∧d.ok T∧Ck [.int c,szD T ws, .str (fZ l), .int ((MOST:Nat):Int)]= .ok (d.toD iD):=by
 have big:MOST<2 ^ 61:=by decide
 have so:=Vx (fun w=> .int (((T w).length:Nat):Int)) ws (by omega)
 obtain⟨sw,hsw⟩:∃sw,sw=Wt ws:=⟨_,rfl⟩
 have pm:=Ju ws
 rw [←hsw] at so pm
 have sl:sw.length=ws.length:=pm.length_eq
 obtain⟨E,hE⟩:∃E,E=szD T ws:=⟨_,rfl⟩
 obtain⟨L,hL⟩:∃L,L=aV (fZ l):=⟨_,rfl⟩
 obtain⟨S,hS⟩:∃S,S=di (sw.map iD):=⟨_,rfl⟩
 have gE:∀a∈ws,jF E (iD a)= .ok (.int (((T a).length:Nat):Int)):=fun a ha=>by rw [hE];exact IW _ ha
 have so' :pH E= .ok S:=by rw [hE,hS];exact so
 have lS:jr [S]= .ok (.int ((sw.length:Nat):Int)):=by rw [hS,zJ,aC]
 obtain⟨M,hM⟩:∃M:Int,M=((MOST:Nat):Int):=⟨_,rfl⟩
 obtain⟨x,hx⟩:∃x:Int,x=c*1566083941+97:=⟨_,rfl⟩
 have x0:0≤x:=by omega
 have x1:x<10 ^ 90:=by omega
 have mu:lQ (.int c) (.int 1566083941)= .ok (.int (c*1566083941)):=qZ (by omega) (by omega) (by omega) (by omega)
 have ten:iK (.int x) (.int 10)= .ok (.int (x%10)):=iy (by omega)
 have v4:jB (.int x) (.int 40960)= .ok (.int (x/40960)):=lC (by omega) (by omega)
 have v10:jB (.int x) (.int 10)= .ok (.int (x/10)):=lC (by omega) (by omega)
 have v640:jB (.int x) (.int 640)= .ok (.int (x/640)):=lC (by omega) (by omega)
 have m64:∀y:Int,iK (.int y) (.int 64)= .ok (.int (y%64)):=fun y=>iy (by omega)
 obtain⟨w,hw⟩:∃w:Int,w=x%10:=⟨_,rfl⟩
 have w0:0≤w∧w<10:=by omega
 rw [←hw] at ten
 have run:Rt (v7 [.dat (.int c), .dat (E), .dat (L), .dat (.int M), .un, .un, .un, .un]) (fun r=>∃d:Dd (List Nat),(∀x∈d.refs,x∈ws)∧d.ok T∧r=d.toD iD):=by
  unfold v7
  refine fK (ρ' :=[.dat (.int x), .dat (E), .dat (L), .dat (.int M), .un, .un, .un, .un]) (by simp! only [mu,hx]) ?_
  refine fK (ρ' :=[.dat (.int x), .dat (E), .dat (L), .dat (.int M), .dat (S), .un, .un, .un]) (nO (by rw [tO,Fb];simp! only [so'];rw [hS];rfl)) ?_
  refine fK (ρ' :=[.dat (.int x), .dat (E), .dat (L), .dat (.int M), .dat (S), .dat (.int w), .un, .un]) (by simp! only [ten]) ?_
  have isd:Rt (gG (jc [(eC (.str "is")),(fu oG [(eG jB (dZ 0) (eC (.int 40960))),(dZ 2),(dZ 3)])]) [.dat (.int x), .dat (E), .dat (L), .dat (.int M), .dat (S), .dat (.int w), .un, .un]) (fun r=>∃d:Dd (List Nat),(∀x∈d.refs,x∈ws)∧d.ok T∧r=d.toD iD):=by
   obtain⟨u,u1,u2,_,u4,eu⟩:=S7 (x/40960) (by omega) (by omega) l hl MOST (by decide) (by decide)
   rw [←hL,←hM] at eu
   have ca:fu oG [(eG jB (dZ 0) (eC (.int 40960))),(dZ 2),(dZ 3)] [.dat (.int x), .dat (E), .dat (L), .dat (.int M), .dat (S), .dat (.int w), .un, .un]= .ok (.str (fZ u)):=kW (x:= .int (x/40960)) (by simp! only [v4]) rfl rfl eu
   exact iI (d:= .tuple [.str "is", .str (fZ u)]) (by rw [Vj,ca];rfl) ⟨.is u,fun y hy=>by simp [Dd.refs] at hy,⟨u1,u2,u4⟩,rfl⟩
  by_cases c0:w=0
  ·exact mQ (Ad (by simp! only [c0]) isd)
  by_cases c1:sw.length=0
  ·exact mQ (Ad (by simp! only [lS,c0,c1];rfl) isd)
  have sp:1≤sw.length:=by omega
  have nz:¬((sw.length:Nat):Int)=0:=by omega
  refine fK (ρ' :=[.dat (.int x), .dat (E), .dat (L), .dat (.int M), .dat (S), .dat (.int w), .un, .un]) (by simp! only [lS,c0,nz]) ?_
  have pick:∀y:Int,∃a,a∈ws∧iK (.int (y%64)) (.int ((sw.length:Nat):Int))= .ok (.int (y%64%((sw.length:Nat):Int)))∧fX S (.int (y%64%((sw.length:Nat):Int)))= .ok (iD a):=fun y=>by
   have e1:0≤y%64%((sw.length:Nat):Int):=cA _ (by omega)
   have e2:=bL (y%64) (show 0<((sw.length:Nat):Int) by omega)
   obtain⟨k,hk⟩:∃k:Nat,(k:Int)=y%64%((sw.length:Nat):Int):=⟨(y%64%((sw.length:Nat):Int)).toNat,by omega⟩
   have kl:k<sw.length:=by omega
   refine⟨sw[k],pm.mem_iff.mp (dH kl),iy (by omega),?_⟩
   rw [hS,vf e1 (by rw [aC];exact e2),←hk,cV,bA,aF,bH kl]
   rfl
  obtain⟨a,ha,a1,a2⟩:=pick (x/10)
  obtain⟨b,hb,b1,b2⟩:=pick (x/640)
  refine fK (ρ' :=[.dat (.int x), .dat (E), .dat (L), .dat (.int M), .dat (S), .dat (.int w), .dat (iD a), .un]) (by simp! only [v10,m64,lS,a1,a2]) ?_
  refine fK (ρ' :=[.dat (.int x), .dat (E), .dat (L), .dat (.int M), .dat (S), .dat (.int w), .dat (iD a), .dat (iD b)]) (by simp! only [v640,m64,lS,b1,b2]) ?_
  have ga:=gE a ha
  have gb:=gE b hb
  refine oV (N:=fun ρ=>∃v:Int,ρ=[.dat (.int x), .dat (E), .dat (L), .dat (.int M), .dat (S), .dat (.int v), .dat (iD a), .dat (iD b)]∧1≤v∧v≤9∧(v=1∨v=2∨v=8→(T a).length+(T b).length≤MOST)) ?_ ?_
  ·by_cases q1:w=1∨w=2∨w=8
   ·have e1:decide (w=1∨w=2∨w=8)=true:=decide_eq_true q1
    by_cases q2:(((T a).length:Nat):Int)+(((T b).length:Nat):Int)>M
    ·have e2:M<(((T a).length:Nat):Int)+(((T b).length:Nat):Int):=q2
     exact jn (ρ' :=[.dat (.int x), .dat (E), .dat (L), .dat (.int M), .dat (S), .dat (.int 6), .dat (iD a), .dat (iD b)]) (by simp! only [aee,e1,ga,gb,e2]) ⟨6,rfl,by decide,by decide,aiv⟩
    ·have e2:¬M<(((T a).length:Nat):Int)+(((T b).length:Nat):Int):=q2
     have q3:(T a).length+(T b).length≤MOST:=by
      rw [hM] at e2
      exact ahA e2
     exact jn (ρ' :=[.dat (.int x), .dat (E), .dat (L), .dat (.int M), .dat (S), .dat (.int w), .dat (iD a), .dat (iD b)]) (by simp! only [aee,e1,ga,gb,e2]) ⟨w,rfl,(aaF w0 c0).1,(aaF w0 c0).2,fun _=>q3⟩
   ·have e1:decide (w=1∨w=2∨w=8)=false:=decide_eq_false q1
    exact jn (ρ' :=[.dat (.int x), .dat (E), .dat (L), .dat (.int M), .dat (S), .dat (.int w), .dat (iD a), .dat (iD b)]) (by simp! only [aee,e1]) ⟨w,rfl,(aaF w0 c0).1,(aaF w0 c0).2,fun z=>absurd z q1⟩
  rintro ρ ⟨v,rfl,v1,v9,hv⟩
  by_cases c3:v<3
  ·refine mQ (Ad (by simp! only [c3]) (iI (d:= .tuple [.str "join",iD a,iD b]) (by simp! only []) ⟨.join a b,fun y hy=> ?_,hv (agT v1 c3),rfl⟩))
   simp only [Dd.refs,aO,bB,or_false] at hy
   rcases hy with rfl|rfl
   ·exact ha
   ·exact hb
  refine fK (ρ' :=[.dat (.int x), .dat (E), .dat (L), .dat (.int M), .dat (S), .dat (.int v), .dat (iD a), .dat (iD b)]) (by simp! only [c3]) ?_
  by_cases c5:v<5
  ·obtain⟨n,n1,n2,en⟩:=Wm (x/40960) (by omega) (by omega) (T a).length MOST (hm a) (bD _)
   rw [←hM] at en
   have ca:fu qQ [(eG jB (dZ 0) (eC (.int 40960))),(eG jF (dZ 1) (dZ 6)),(dZ 3)] [.dat (.int x), .dat (E), .dat (L), .dat (.int M), .dat (S), .dat (.int v), .dat (iD a), .dat (iD b)]= .ok (.int (n:Int)):=kW (x:= .int (x/40960)) (y:= .int (((T a).length:Nat):Int)) (by simp! only [v4]) (by simp! only [ga]) rfl en
   refine mQ (Ad (by simp! only [c5]) (iI (d:= .tuple [.str "times",iD a, .int (n:Int)]) (by rw [Ue,ca];rfl) ⟨.times a n,fun y hy=> ?_,⟨n1,n2⟩,rfl⟩))
   have:y=a:=by simpa [Dd.refs] using hy
   rw [this]
   exact ha
  refine fK (ρ' :=[.dat (.int x), .dat (E), .dat (L), .dat (.int M), .dat (S), .dat (.int v), .dat (iD a), .dat (iD b)]) (by simp! only [c5]) ?_
  by_cases c6:v=6
  ·refine mQ (Ad (by simp! only [c6]) (iI (d:= .tuple [.str "turn",iD a]) (by simp! only []) ⟨.turn a,fun y hy=> ?_,trivial,rfl⟩))
   have:y=a:=by simpa [Dd.refs] using hy
   rw [this]
   exact ha
  refine fK (ρ' :=[.dat (.int x), .dat (E), .dat (L), .dat (.int M), .dat (S), .dat (.int v), .dat (iD a), .dat (iD b)]) (by simp! only [c6]) ?_
  obtain⟨d,d1,d2,ed⟩:=abm v (ags c5 v9 c6) a b (x/40960) (by omega) (by omega) T ws ha l hl (hm a) (fun z=>hv (.inr (.inr z)))
  rw [←hL,←hE] at ed
  refine iI (d:=d.toD iD) (afm (x:= .int v) (y:=iD a) (z:=iD b) (w:= .int (x/40960)) (v:=E) (u:=L) rfl rfl rfl (by simp! only [v4]) rfl rfl ed) ⟨d,fun y hy=> ?_,d2,rfl⟩
  rcases d1 y hy with rfl|rfl
  ·exact ha
  ·exact hb
 obtain⟨r,hr,d,a1,a2,rfl⟩:=yI (ks:=[.dat, .dat, .dat, .dat]) (n:=4) (m:=v7) (ds:=[.int c,E,L, .int M]) run
 refine⟨d,a1,a2,?_⟩
 rw [←hE,←hL,←hM]
 exact hr
end Sb
namespace Sb
open PySem PySem.Spec L2 Evl DL
abbrev ixD(ix:List Nat→Nat)(ws:List (List Nat)):D:= .dict (uW (fun w=>lU (ix w)) ws)
def Xq(ns:List (Dd Nat))(ix:List Nat→Nat)(ws:List (List Nat)):List Sl:=[.own (pB ns), .own (fJ (JK ns)), .own (ixD ix ws)]
abbrev Ai(ns:List (Dd Nat))(ix:List Nat→Nat)(ws:List (List Nat)):Sl:= .nst .lst (Xq ns ix ws)
theorem abN(ns:List (Dd Nat))(ix:List Nat→Nat)(ws:List (List Nat))(hn:ws.Nodup)(hl:ws.length≤1000)(hi:∀a∈ws,ix a<ns.length)(T:List Nat→List Nat)(hT:∀a∈ws,(wM ns).getD (ix a) []=T a):∃o,uG [.vP .lst ((Xq ns ix ws).map rdC)]= .ok (szD T ws) o:=by
 obtain⟨cs,hcs⟩:∃cs,cs=(Xq ns ix ws).map rdC:=⟨_,rfl⟩
 have c1:cs[1]? =some (.bor (fJ (JK ns))):=by rw [hcs];rfl
 have c2:cs[2]? =some (.bor (ixD ix ws)):=by rw [hcs];rfl
 rw [←hcs]
 have run:Rx (uI [.vP .lst cs, .un, .un, .un]) (fun d _=>d=szD T ws):=by
  unfold uI
  refine pO (ρ' :=[.vP .lst cs, .own (.dict []), .un, .un]) (by simp! only []) ?_
  refine aa2 (N:=fun ρ=>∃k2 k3:Sl,ρ=[.vP .lst cs, .own (szD T ws),k2,k3]) ?_ ?_
  ·have loop:=aep (b:= .p .lst 0 2) (g:=gT [(gN 2),(gN 3)]) (body:=oM 1 (dZ 2) (eG fX (oW .lst 0 1) (dZ 3))) (ρ:=[.vP .lst cs, .own (.dict []), .un, .un]) (ds:=uW (fun w=>lU (ix w)) ws)
    (fun i ρ=>∃k2 k3:Sl,ρ=[.vP .lst cs, .own (szD T (ws.take i)),k2,k3])
    (by simp only [QT.get,aG,if_true,c2,El]) ⟨_,_,rfl⟩ (by
     rintro i q ρ hq ⟨k2,k3,rfl⟩
     simp only [uW,aF,aJ] at hq
     obtain⟨a,ha,rfl⟩:=hq
     have ham:a∈ws:=aX ha
     have hi' :=(au.mp ha).1
     have et:ws.take (i+1)=ws.take i++[a]:=by
      rw [bF,ha]
      rfl
     have nin:a∉ws.take i:=fun z=>by
      obtain⟨j,hj⟩:=List.mem_iff_getElem?.mp z
      rw [List.getElem?_take] at hj
      split at hj
      ·have hj2:=(au.mp hj).1
       have h6:=(dD.mp hn) j i hj2 hi' (by omega)
       exact h6 (by rw [(au.mp hj).2,(au.mp ha).2])
      ·cases hj
     refine⟨[.vP .lst cs, .own (szD T (ws.take i)), .dat (iD a), .dat (lU (ix a))],rfl,?_⟩
     have ix1:fX (fJ (JK ns)) (lU (ix a))= .ok (.int (((T a).length:Nat):Int)):=by
      show fX (fJ (JK ns)) (.int ((ix a:Nat):Int))=_
      rw [jD (by rw [yU];exact hi a ham),CQ,hT a ham]
     have ev:eG fX (oW .lst 0 1) (dZ 3) [.vP .lst cs, .own (szD T (ws.take i)), .dat (iD a), .dat (lU (ix a))]= .ok (.int (((T a).length:Nat):Int)):=by
      rw [j9,Lf (cs:=cs) rfl c1]
      simp! only [ix1]
     have ek:DL.keyOf (iD a)=some (.inr (fZ a)):=rfl
     have hwl:(uW (fun w=>aH (((T w).length:Nat):Int)) (ws.take i)).length<sizeLine:=by
      rw [Vk,aW]
      exact lO (by omega)
     refine jn (ρ' :=[.vP .lst cs, .own (szD T (ws.take (i+1))), .dat (iD a), .dat (lU (ix a))]) ?_ ⟨_,_,rfl⟩
     simp only [oM,ev,aQ,aG,El,if_true,lu,jQ,iV,ek,hwl,adJ _ _ _ _ nin,set_0,kZ]
     rw [et]
     congr 6
     funext x
     unfold upW
     by_cases z:x=a
     ·simp only [z,if_true]
     ·simp only [z,if_false])
   rw [Vk,bO] at loop
   exact loop
  ·rintro ρ ⟨k2,k3,rfl⟩
   exact ae3 rfl (El _ _) (Ub rfl rfl)
 obtain⟨d,ρ,e,rfl⟩:=U8 (bs:=[false]) (n:=3) (m:=uI) (as:=[.vP .lst cs]) rfl run
 exact⟨_,e⟩
theorem ah5{F:List Nat→D}{w:List Nat}{v:D}{ws:List (List Nat)}{G:List Nat→D}(h:∀x,G x=if x=w then v else F x):uW (upW F w v) (addW ws w)=uW G (addW ws w):=by
 congr 1
 funext x
 rw [h]
 rfl
def upN(f:List Nat→Nat)(w:List Nat)(v:Nat):List Nat→Nat:=fun x=>if x=w then v else f x
theorem ahw(ns:List (Dd Nat))(ix:List Nat→Nat)(ws:List (List Nat))(g:NG ns)(hl:ns.length≤1000)(hwl:ws.length≤1000)(w:List Nat)(d:Dd (List Nat))(hr:∀a∈d.refs,a∈ws)(hi:∀a∈ws,ix a<ns.length)(ok:d.ok fun a=>(wM ns).getD (ix a) [])(ro:Kc w d):
 qU [Ai ns ix ws, .dat (iD w), .dat (d.toD iD)]= .ok (.str (fZ (rowOf (w,d)))) [Ai (ns++[d.map ix]) (upN ix w ns.length) (addW ws w), .un, .un]:=by
 have e2:=ach d ix ws hr
 have rf:∀a∈(d.map ix).refs,a<ns.length:=fun a ha=>by
  rw [Dd.Ww] at ha
  obtain⟨x,hx,rfl⟩:=bV.mp ha
  exact hi x (hr x hx)
 have ok' :(d.map ix).ok fun a=>(wM ns).getD a []:=(Dd.adx ix _ d).mpr ok
 have e3:=Xp (d.map ix) (JK ns) (fun a=>(wM ns).getD a []) (fun a ha=>⟨by rw [yU];exact rf a ha,CQ ns a⟩) (fun a ha=>g.le a) ok'
 have e4:=ae0 ro
 obtain⟨Dw,hDw⟩:∃Dw,Dw=iD w:=⟨_,rfl⟩
 obtain⟨Dd_,hDd⟩:∃Dd_,Dd_=d.toD iD:=⟨_,rfl⟩
 have kw:DL.keyOf Dw=some (.inr (fZ w)):=by rw [hDw];rfl
 have wl:∀F:List Nat→D,(uW F ws).length<sizeLine:=fun F=>by
  rw [Vk]
  exact lO (by omega)
 rw [←hDd] at e2 e4
 rw [←hDw] at e4
 rw [←hDw,←hDd]
 have f2:uW (upW (fun w=>lU (ix w)) w (.int ((ns.length:Nat):Int))) (addW ws w)=uW (fun x=>lU (upN ix w ns.length x)) (addW ws w):=ah5 fun x=>by
  unfold upN lU
  split<;>rfl
 have n1:di (ns.map (Dd.toD lU)++[(d.map ix).toD lU])=pB (ns++[d.map ix]):=by simp [pB]
 have s1' :di (((JK ns).map fun(n:Nat)=>aH (n:Int))++[.int (((((d.map ix).tx fun a=>(wM ns).getD a []).length:Nat)):Int)])=fJ (JK (ns++[d.map ix])):=by rw [ack];simp [fJ]
 have run:Rx (Dj [Ai ns ix ws, .dat Dw, .dat Dd_]) (fun r ρ=>r= .str (fZ (rowOf (w,d)))∧ρ=[Ai (ns++[d.map ix]) (upN ix w ns.length) (addW ws w), .dat Dw, .dat Dd_]):=by
  unfold Dj
  refine pO (ρ' :=[.nst .lst [.own (pB (ns++[d.map ix])), .own (fJ (JK ns)), .own (ixD ix ws)], .dat Dw, .dat Dd_]) (by
   rw [aav (ds:=ns.map (Dd.toD lU)) (d:=(d.map ix).toD lU) rfl rfl (jf (x:=Dd_) (y:=ixD ix ws) rfl (yx rfl rfl) e2) (by rw [aC];exact lO (by omega)),n1]
   rfl) ?_
  refine pO (ρ' :=[.nst .lst [.own (pB (ns++[d.map ix])), .own (fJ (JK (ns++[d.map ix]))), .own (ixD ix ws)], .dat Dw, .dat Dd_]) (by
   rw [aav (ds:=(JK ns).map fun(n:Nat)=>aH (n:Int)) (d:= .int ((((d.map ix).tx fun a=>(wM ns).getD a []).length:Nat):Int)) rfl rfl (jf (x:=(d.map ix).toD lU) (y:=fJ (JK ns)) (by rw [j9,yx (d:=pB (ns++[d.map ix])) rfl rfl];simp! only [VJ]) (yx rfl rfl) e3) (by rw [aC,yU];exact lO (by omega)),s1']
   rfl) ?_
  have bl:jr [pB (ns++[d.map ix])]= .ok (.int (((ns.length+1:Nat)):Int)):=by
   unfold pB
   rw [zJ]
   simp
  have sb:(((ns.length+1:Nat):Int)-1)=((ns.length:Nat):Int):=by omega
  refine pO (ρ' :=[Ai (ns++[d.map ix]) (upN ix w ns.length) (addW ws w), .dat Dw, .dat Dd_]) (by
   rw [afn (ds:=uW (fun w=>lU (ix w)) ws) (d:= .int ((ns.length:Nat):Int)) (aiG (by rw [j9,nW (x:=pB (ns++[d.map ix])) (yx rfl rfl) bl];simp! only [sb])) rfl rfl (El _ _) rfl kw (wl _),Xj,f2]
   rfl) ?_
  exact Ub (jf rfl rfl e4) ⟨rfl,rfl⟩
 obtain⟨r,ρ,e,rfl,rfl⟩:=U8 (bs:=[true,false,false]) (n:=0) (m:=Dj) (as:=[Ai ns ix ws, .dat Dw, .dat Dd_]) rfl run
 exact e
structure KR(es:List St)(ns:List (Dd Nat))(ix:List Nat→Nat)(B:Nat):Prop where
 g:NG ns
 l:ns.length=es.length
 st:Uk es
 ix:∀a∈nu es,ix a<ns.length∧(wM ns).getD (ix a) []=Fq es a
 le:∀a,(Fq es a).length≤MOST
 wd:∀a∈nu es,yw a
 bd:∀a∈nu es,Vz es a≤B
theorem KR.nil:KR [] [] (fun _=>0) 80:=⟨NG.nil,rfl,Uk.nil,fun a ha=>by simp [nu] at ha,fun a=>by simp [Fq],fun a ha=>by simp [nu] at ha,fun a ha=>by simp [nu] at ha⟩
theorem KR.snoc{es:List St}{ns:List (Dd Nat)}{ix:List Nat→Nat}{B B' :Nat}(h:KR es ns ix B){w:List Nat}(hw:yw w){d:Dd (List Nat)}(hr:∀a∈d.refs,a∈nu es)(ok:d.ok (Fq es))(hb:d.bd (Vz es)≤B')(hBB:B≤B')(hB2:B' ≤200000):KR (es++[(w,d)]) (ns++[d.map ix]) (upN ix w ns.length) B' :=by
 have okn:d.ok fun a=>(wM ns).getD (ix a) []:=Dd.Hu (fun a ha=>((h.ix a (hr a ha)).2).symm) ok
 have rf:∀a∈(d.map ix).refs,a<ns.length:=fun a ha=>by
  rw [Dd.Ww] at ha
  obtain⟨x,hx,rfl⟩:=bV.mp ha
  exact(h.ix x (hr x hx)).1
 have ok' :(d.map ix).ok fun a=>(wM ns).getD a []:=(Dd.adx ix _ d).mpr okn
 have txe:(d.map ix).tx (fun a=>(wM ns).getD a [])=d.tx (Fq es):=by
  rw [Dd.ahj]
  exact Dd.Oh fun a ha=>(h.ix a (hr a ha)).2
 refine⟨h.g.snoc rf ok',by simp [h.l],h.st.snoc hr ok (ad5 w hw d (fun a ha=>h.wd a (hr a ha)) (Fq es) ok (fun a _=>h.le a)) (show d.bd (Vz es)≤200000 by omega),fun a ha=> ?_,fun a=> ?_,fun a ha=> ?_,fun a ha=> ?_⟩
 ·rw [pC,xX] at ha
  rw [Ma]
  unfold upN upT
  by_cases z:a=w
  ·simp only [z,if_true]
   refine⟨by simp,?_⟩
   rw [Oa,txe]
  ·simp only [z,if_false]
   obtain⟨i1,i2⟩:=h.ix a (ha.resolve_right z)
   refine⟨by rw [aA];omega,?_⟩
   rw [Ln i1,i2]
 ·rw [Ma]
  unfold upT
  by_cases z:a=w
  ·simp only [z,if_true]
   exact Dd.ac' ok fun x _=>h.le x
  ·simp only [z,if_false]
   exact h.le a
 ·rw [pC,xX] at ha
  rcases ha with ha|rfl
  ·exact h.wd a ha
  ·exact hw
 ·rw [pC,xX] at ha
  rw [Mp]
  unfold upB
  by_cases z:a=w
  ·simp only [z,if_true]
   exact hb
  ·simp only [z,if_false]
   have:=h.bd a (ha.resolve_right z)
   omega
theorem ah6{α:Type}(d:Dd α)(b:α→Nat)(X:Nat)(h:∀a∈d.refs,b a≤X)(his:∀u,d= .is u→u.length≤40)(hX:80≤X):d.bd b≤6*X+6:=by
 cases d with
 |is u=>
  have:=his u rfl
  simp only [Dd.bd]
  omega
 |join x y=>
  have:=h x (by simp [Dd.refs])
  have:=h y (by simp [Dd.refs])
  simp only [Dd.bd]
  omega
 |times x m=>
  have:=h x (by simp [Dd.refs])
  simp only [Dd.bd]
  omega
 |cut x s e=>
  have:=h x (by simp [Dd.refs])
  simp only [Dd.bd]
  omega
 |turn x=>
  have:=h x (by simp [Dd.refs])
  simp only [Dd.bd]
  omega
 |put x s o=>
  have:=h x (by simp [Dd.refs])
  simp only [Dd.bd]
  omega
 |insert x p y=>
  have:=h x (by simp [Dd.refs])
  have:=h y (by simp [Dd.refs])
  simp only [Dd.bd]
  omega
 |remove x s e=>
  have:=h x (by simp [Dd.refs])
  simp only [Dd.bd]
  omega
end Sb
namespace Sb
open PySem PySem.Spec L2 Evl DL
theorem aiz:∀c∈GF,(Txt.isalpha (s1 c)||Txt.isdigit (s1 c))=true:=by decide+kernel
theorem Wg(r:Rule)(i:Nat)(h:r.ok i):lA [fG r, .int (i:Int)]= .ok (.bool true):=by
 have hp:sV (.int 2) (.int 60)= .ok (.int ((MOST:Nat):Int)):=uP (by decide) (by decide) (by decide)
 cases r with
 |sign c=>
  have z:(s1 c).length≤sizeLine:=show 1≤sizeLine by decide
  have l1:jr [.str (s1 c)]= .ok (.int 1):=Pu z
  have ad:=aiz c h
  simp! only [lA,pF,fG,gh,gA,l1,eS0]
  cases ha:Txt.isalpha (s1 c)
  ·rw [ha,Bool.false_or] at ad
   simp only [ad]
  ·rfl
 |join a b=>
  simp! only [lA,pF,fG,gh,gA,jy,Ii,jd,js,show(0:Int)≤(a:Int) by omega,show(a:Int)<(i:Int) by have:=h.1;omega,show(0:Int)≤(b:Int) by omega,show(b:Int)<(i:Int) by have:=h.2;omega]
 |times a n=>
  simp! only [lA,pF,fG,gh,gA,jy,Ii,jd,ts,tj,hp,show(0:Int)≤(a:Int) by omega,show(a:Int)<(i:Int) by have:=h.1;omega,show(1:Int)≤(n:Int) by have:=h.2.1;omega,show(n:Int)≤((MOST:Nat):Int) by have:=h.2.2;omega]
theorem Mx(rs:List Rule)(g:Good rs)(f:Fits MOST rs)(hl:rs.length≤16700000):pD [eZ rs]= .ok (fJ (sizes rs)):=by
 obtain⟨L,hL⟩:∃L,L=eZ rs:=⟨_,rfl⟩
 rw [←hL]
 refine jA ?_
 show Rt (vh [.dat L, .un, .un, .un]) _
 unfold vh
 refine fK (ρ' :=[.dat L, .own (fJ (sizes (rs.take 0))), .un, .un]) (by simp! only [];rfl) ?_
 refine oV (N:=fun ρ=>∃k2 k3:Sl,ρ=[.dat L, .own (fJ (sizes rs)),k2,k3]) ?_ ?_
 ·have h:=mD (mi:=iT (dZ 0)) (g:=gN 2) (body:=(fH (gD 3 (eC (.int 1)))
 (fH (je (eG jZ (eG fX (dZ 2) (eC (.int 0))) (eC (.str "join"))) (gD 3 (eG jw (eG fX (gR 1) (eG fX (dZ 2) (eC (.int 1)))) (eG fX (gR 1) (eG fX (dZ 2) (eC (.int 2)))))) (je (eG jZ (eG fX (dZ 2) (eC (.int 0))) (eC (.str "times"))) (gD 3 (eG lQ (eG fX (gR 1) (eG fX (dZ 2) (eC (.int 1)))) (eG fX (dZ 2) (eC (.int 2))))) fU))
 (sG 1 (dZ 3))))) (ρ:=[.dat L, .own (fJ (sizes (rs.take 0))), .un, .un]) (ds:=rs.map fG)
   (fun i ρ=>∃k2 k3:Sl,ρ=[.dat L, .own (fJ (sizes (rs.take i))),k2,k3])
   (by simp only [iT,jQ,hL,eZ]) ⟨_,_,rfl⟩ (by
    rintro i d ρ hd ⟨k2,k3,rfl⟩
    rw [aF,aJ] at hd
    obtain⟨r,h1,rfl⟩:=hd
    have hi:=(au.mp h1).1
    have et:rs.take (i+1)=rs.take i++[r]:=by
     rw [bF,h1]
     rfl
    obtain⟨sz,hsz⟩:∃sz,sz=sizes (rs.take i):=⟨_,rfl⟩
    have li:sz.length=i:=by rw [hsz,j6,aW];omega
    have ok:=g i r h1
    have fm:∀n∈sz,n≤MOST:=by rw [hsz];exact f.take i
    rw [←hsz]
    refine⟨_,oR,?_⟩
    simp only [set_0,kZ]
    refine ig (ρ' :=[.dat L, .own (fJ sz), .dat (fG r), .dat (.int 1)]) (by simp! only []) ?_
    refine ig (ρ' :=[.dat L, .own (fJ sz), .dat (fG r), .dat (.int ((r.size sz:Nat):Int))]) ?_ ?_
    ·cases r with
     |sign c=>simp! only [fG,gh,Rule.size];rfl
     |join a b=>
      simp! only [fG,gh,gA,jy,js,jD (show a<sz.length by rw [li];exact ok.1),jD (show b<sz.length by rw [li];exact ok.2),Rule.size]
      rfl
     |times a n=>
      have m:=W3 (m:=sz.getD a 0) (n:=n) 61 61 (Nat.lt_of_le_of_lt (Uy fm) (by decide)) (Nat.lt_of_le_of_lt ok.2.2 (by decide))
      simp! only [fG,gh,gA,jy,ts,tj,jD (show a<sz.length by rw [li];exact ok.1),m,Rule.size]
    ·refine jn (ρ' :=[.dat L, .own (fJ (sizes (rs.take (i+1)))), .dat (fG r), .dat (.int ((r.size sz:Nat):Int))]) ?_ ⟨_,_,rfl⟩
     rw [app_ok (ds:=sz.map fun(n:Nat)=>aH (n:Int)) (d:= .int ((r.size sz:Nat):Int)) rfl rfl (by rw [aC,li];exact lO (by omega)),et,tL,←hsz]
     simp [fJ])
  rw [aC,bO] at h
  exact h
 ·rintro ρ ⟨k2,k3,rfl⟩
  exact⟨_,rfl,rfl⟩
theorem ahC(ns:List Nat)(m:Nat)(h0:1≤ns.length)(h:∀n∈ns,n≤m):∃z:Int,QF [fJ ns]= .ok (.int z)∧z≤(m:Int):=by
 cases ns with
 |nil=>simp at h0
 |cons n ns=>
  refine⟨Va (n:Int) (ns.map fun(n:Nat)=>(n:Int)),by simp only [fJ,bf,QF,toInts,Wv];rfl,?_⟩
  have:=Pj (ns.map fun(n:Nat)=>(n:Int)) (n:Int)
  rcases aO.mp this with e|e
  ·rw [e]
   have:=h n (by simp)
   omega
  ·obtain⟨y,hy,ey⟩:=bV.mp e
   have:=h y (aN _ hy)
   omega
theorem ahy(ws:List (List Nat))(M:List Nat→Option Nat):Od (ws.map fun a=>bM [iD a,eX (M a)]) (ws.map iD)=ws.map fun a=>bM [.tuple [iD a,eX (M a)],iD a]:=by
 unfold Od
 induction ws with
 |nil=>rfl
 |cons a ws ih=>simp only [bf,List.zipWith_cons_cons,ih]
theorem agY(rs:List Rule)(g:Good rs)(f:Fits MOST rs)(hl:rs.length≤16700000)(ws:List (List Nat))(hw:ws.length≤1000)(hwl:∀a∈ws,a.length≤1000)(M:List Nat→Option Nat)(hM:∀a∈ws,fV rs (M a)):
 wD [.tuple [eZ rs,namesW ws M], .list (ws.map iD)]= .ok (.bool true):=by
 obtain⟨L,hL⟩:∃L,L=eZ rs:=⟨_,rfl⟩
 have lenL:jr [L]= .ok (.int ((rs.length:Nat):Int)):=by rw [hL];exact sX rs
 have isL:isT "tuple" L=true:=by rw [hL];rfl
 obtain⟨N,hN⟩:∃N,N=namesW ws M:=⟨_,rfl⟩
 obtain⟨S,hS⟩:∃S,S=di (ws.map iD):=⟨_,rfl⟩
 have lenN_:jr [N]= .ok (.int ((ws.length:Nat):Int)):=by rw [hN,zJ,aC]
 have lenS:jr [S]= .ok (.int ((ws.length:Nat):Int)):=by rw [hS,zJ,aC]
 have isN:isT "list" N=true:=by rw [hN];rfl
 have hp:sV (.int 2) (.int 60)= .ok (.int ((MOST:Nat):Int)):=uP (by decide) (by decide) (by decide)
 have ll:=Mx rs g f hl
 rw [←hL] at ll⊢
 rw [←hN,←hS]
 refine jA ?_
 show Rt (Ca [.dat (.tuple [L,N]), .dat S, .un, .un, .un]) _
 unfold Ca
 refine fK (ρ' :=[.dat (.tuple [L,N]), .dat S, .un, .un, .un]) (by simp! only [gh,isL]) ?_
 refine fK (ρ' :=[.dat (.tuple [L,N]), .dat S, .un, .un, .un]) (by simp! only [gA,isN,lenN_,lenS]) ?_
 refine oV (N:=fun ρ=>∃k2:Sl,ρ=[.dat (.tuple [L,N]), .dat S,k2, .un, .un]) ?_ ?_
 ·have h:=mD (mi:=Qt (fu jr [(eG fX (dZ 0) (eC (.int 0)))])) (g:=gN 2) (body:=(je (lY (fu lA [(eG fX (eG fX (dZ 0) (eC (.int 0))) (dZ 2)),(dZ 2)])) (gG (eC (.bool false))) fU))
   (ρ:=[.dat (.tuple [L,N]), .dat S, .un, .un, .un]) (ds:=(cC rs.length).map fun(i:Nat)=>aH (i:Int))
   (fun i ρ=>∃k2:Sl,ρ=[.dat (.tuple [L,N]), .dat S,k2, .un, .un])
   (by rw [←BR];exact Mu (by simp! only [gh,lenL]) (by omega) (by omega)) ⟨_,rfl⟩ (by
    rintro i d ρ hd ⟨k2,rfl⟩
    rw [aF,aJ] at hd
    obtain⟨j,h1,rfl⟩:=hd
    have hi:=(au.mp h1).1
    have hij:j=i:=by
     have:=(au.mp h1).2
     simpa using this.symm
    subst hij
    have hj:j<rs.length:=by simpa using hi
    have hr:rs[j]? =some rs[j]:=by simp [hj]
    obtain⟨r,er⟩:∃r,r=rs[j]:=⟨_,rfl⟩
    rw [←er] at hr
    have ix:fX L (.int (j:Int))= .ok (fG r):=by rw [hL];exact sW hr
    exact⟨_,oR,jn (ρ' :=[.dat (.tuple [L,N]), .dat S, .dat (.int (j:Int)), .un, .un]) (by simp! only [gh,ix,Wg r j (g j r hr)]) ⟨_,rfl⟩⟩)
  obtain⟨ρ,e,k2,rfl⟩:=h
  exact⟨_,e,k2,rfl⟩
 rintro ρ ⟨k2,rfl⟩
 refine oV (N:=fun ρ=>∃k3 k4:Sl,ρ=[.dat (.tuple [L,N]), .dat S,k2,k3,k4]) ?_ ?_
 ·have zl:=ahy ws M
  have h:=mD (mi:=iZ (eG fX (dZ 0) (eC (.int 1))) (dZ 1)) (g:=gT [(gN 3),(gN 4)]) (body:=(fH (je (uo (lY (Ae "tuple" (dZ 3))) (uo (eG Ep (fu jr [(dZ 3)]) (eC (.int 2))) (uo (lY (Ae "str" (eG fX (dZ 3) (eC (.int 0))))) (eG Ep (eG fX (dZ 3) (eC (.int 0))) (dZ 4))))) (gG (eC (.bool false))) fU)
 (je (mY (eG pU (eG fX (dZ 3) (eC (.int 1))) (eC .none)) (uo (lY (fu oF [(eG fX (dZ 3) (eC (.int 1)))])) (lY (jd Qu Nt (eC (.int 0)) (eG fX (dZ 3) (eC (.int 1))) (fu jr [(eG fX (dZ 0) (eC (.int 0)))]))))) (gG (eC (.bool false))) fU)))
   (ρ:=[.dat (.tuple [L,N]), .dat S,k2, .un, .un]) (ds:=ws.map fun a=>bM [.tuple [iD a,eX (M a)],iD a])
   (fun i ρ=>∃k3 k4:Sl,ρ=[.dat (.tuple [L,N]), .dat S,k2,k3,k4])
   (by rw [←zl];exact ah0 (by simp! only [gA,hN]) (by simp! only [hS])) ⟨_,_,rfl⟩ (by
    rintro i d ρ hd ⟨k3,k4,rfl⟩
    rw [aF,aJ] at hd
    obtain⟨a,h1,rfl⟩:=hd
    have ha:a∈ws:=aX h1
    have hn:=hM a ha
    refine⟨[.dat (.tuple [L,N]), .dat S,k2, .dat (.tuple [iD a,eX (M a)]), .dat (iD a)],rfl,?_⟩
    refine ig (ρ' :=[.dat (.tuple [L,N]), .dat S,k2, .dat (.tuple [iD a,eX (M a)]), .dat (iD a)]) (by
     simp! only [gh,iD]) ?_
    refine jn (ρ' :=[.dat (.tuple [L,N]), .dat S,k2, .dat (.tuple [iD a,eX (M a)]), .dat (iD a)]) ?_ ⟨_,_,rfl⟩
    cases hm:M a with
    |none=>simp! only [eX,gA,pU,yq]
    |some k=>simp! only [eX,gh,gA,pU,yq,Ii,jd,lenL,show(0:Int)≤(k:Int) by omega,show(k:Int)<(rs.length:Int) by have:=hn k hm;omega])
  obtain⟨ρ,e,k3,k4,rfl⟩:=h
  exact⟨_,e,k3,k4,rfl⟩
 rintro ρ ⟨k3,k4,rfl⟩
 by_cases h0:rs.length=0
 ·have h0' :((rs.length:Nat):Int)=0:=by omega
  exact iI (d:= .bool true) (by simp! only [gh,lenL,h0']) rfl
 ·have h0' :¬((rs.length:Nat):Int)=0:=by omega
  obtain⟨z,hz,hz2⟩:=ahC (sizes rs) MOST (by rw [j6];omega) f
  exact iI (d:= .bool true) (by simp! only [gh,lenL,h0',ll,hz,hp,hz2]) rfl
end Sb
namespace Sb
open PySem PySem.Spec L2 Evl DL
abbrev oZ(es:List St):List D:=es.map fun e=>aV (fZ (rowOf e))
theorem afD:∀(es:List St) (a:List Nat),a∉nu es→Vz es a=0:=by
 refine snocInd (fun a _=>rfl) fun es e ih a ha=> ?_
 rw [pC,xX,not_or] at ha
 rw [Mp]
 unfold upB
 rw [if_neg ha.2]
 exact ih a ha.1
theorem Zj:∀es:List St,(nu es).length≤es.length:=by
 refine snocInd (by simp [nu]) fun es e ih=> ?_
 rw [pC,aA,cU]
 have:=Xx (ws:=nu es) (w:=e.1)
 omega
theorem TV{L WS LT:D}{k5 k6 k7:Sl}{es:List St}{ns:List (Dd Nat)}{ix:List Nat→Nat}{B:Nat}(mo:KR es ns ix B)(hes:es.length≤900){mw md:EM}{w:List Nat}{d:Dd (List Nat)}(wo:yw w)(dr:∀a∈d.refs,a∈nu es)(dok:d.ok (Fq es))
 (ew:mw [.dat (L),Ai ns ix (nu es), .dat (WS), .dat (LT), .own (.list (oZ es)),k5,k6,k7]= .ok (iD w)) (ed:md [.dat (L),Ai ns ix (nu es), .dat (WS), .dat (LT), .own (.list (oZ es)),k5,k6,k7]= .ok (d.toD iD)):
 zQ 4 (rP qU [.s 1, .d mw, .d md]) [.dat (L),Ai ns ix (nu es), .dat (WS), .dat (LT), .own (.list (oZ es)),k5,k6,k7]= .nx [.dat (L),Ai (ns++[d.map ix]) (upN ix w ns.length) (nu (es++[(w,d)])), .dat (WS), .dat (LT), .own (.list (oZ (es++[(w,d)]))),k5,k6,k7]:=by
 have swl:=Zj es
 have ldo:=ahw ns ix (nu es) mo.g (by have:=mo.l;omega) (by omega) w d dr (fun a ha=>(mo.ix a ha).1) (Dd.Hu (fun a ha=>((mo.ix a (dr a ha)).2).symm) dok) (ad5 w wo d (fun a ha=>mo.wd a (dr a ha)) (Fq es) dok (fun a _=>mo.le a))
 obtain⟨M,hM⟩:∃M,M=Ai ns ix (nu es):=⟨_,rfl⟩
 obtain⟨RW,hRW⟩:∃RW,RW=oZ es:=⟨_,rfl⟩
 rw [←hM,←hRW] at ew ed⊢
 have ex:=aao (g:=qU) (as:=[.s 1, .d mw, .d md]) (ρ:=[.dat (L),M, .dat (WS), .dat (LT), .own (.list RW),k5,k6,k7]) (by
  simp only [Ag,Dt,ew,ed]
  rw [hM]
  rfl) ldo
 have rl:RW.length<sizeLine:=by
  rw [hRW,aC]
  exact lO (by omega)
 simp only [zQ,ex]
 rw [pC,hRW] at*
 simp only [qX,ioU,ioS,Option.getD_some,set_0,kZ,aQ,aG,rl,if_true,oZ,cR,bf,dN]
theorem aeh{L:D}{cell:Nat→Int}(hc:∀k:Nat,k<1048576→iW [L, .int (k:Int)]= .ok (.int (cell k))∧0≤cell k∧cell k<10 ^ 40):
 ∃(es:List St) (ns:List (Dd Nat)) (ix:List Nat→Nat),wR [.dat L,Ai [] (fun _=>0) []]= .ok (.list (oZ es)) [.un,Ai ns ix (nu es)]∧KR es ns ix 600∧es.length≤5:=by
 have hp60:=p60
 have big:=WY
 have c0:iW [L, .int 0]= .ok (.int (cell 0)):=(hc 0 (by decide)).1
 have c4:iW [L, .int 4]= .ok (.int (cell 4)):=(hc 4 (by decide)).1
 have c5:iW [L, .int 5]= .ok (.int (cell 5)):=(hc 5 (by decide)).1
 have b0:=(hc 0 (by decide)).2
 have b4:=(hc 4 (by decide)).2
 have b5:=(hc 5 (by decide)).2
 have wk:∀k:Nat,∃w,k≤4→yw w∧abp (cell 0) k w∧uh [.int (cell 0), .int (k:Int)]= .ok (.str (fZ w)):=fun k=>by
  by_cases h:k≤4
  ·obtain⟨w,h1,h2,h3⟩:=ab4 (cell 0) b0.1 (by omega) k h
   exact⟨w,fun _=>⟨h1,h2,h3⟩⟩
  ·exact⟨[],fun z=>absurd z h⟩
 obtain⟨wf,hwf⟩:∃wf:Nat→List Nat,∀k,k≤4→yw (wf k)∧abp (cell 0) k (wf k)∧uh [.int (cell 0), .int (k:Int)]= .ok (.str (fZ (wf k))):=⟨fun k=>(wk k).choose,fun k=>(wk k).choose_spec⟩
 have wne:∀k,1≤k→k≤2→wf k≠wf 0:=fun k h1 h2=>ahR b0.1 h1 h2 (hwf 0 (by omega)).2.1 (hwf k (by omega)).2.1
 obtain⟨lt,hlt,elt⟩:=Ye (cell 0*48271/7) (by omega) (by omega)
 obtain⟨LT,hLT⟩:∃LT,LT=aV (fZ lt):=⟨_,rfl⟩
 rw [←hLT] at elt
 obtain⟨WS,hWS⟩:∃WS,WS=di ((cC 5).map fun k=>iD (wf k)):=⟨_,rfl⟩
 have ixW:∀k:Nat,k≤4→fX WS (.int (k:Int))= .ok (iD (wf k)):=fun k hk=>by
  rw [hWS,vf (by omega) (by simp;omega),cV,bA,aF,List.getElem?_range (by omega)]
  rfl
 have ixW0:fX WS (.int 0)= .ok (iD (wf 0)):=ixW 0 (by omega)
 have run:Rx (wL [.dat (L),Ai [] (fun _=>0) [], .un, .un, .un, .un, .un, .un]) (fun r ρ=>∃(es:List St) (ns:List (Dd Nat)) (ix:List Nat→Nat) (R:List Sl),r= .list (oZ es)∧ρ= .dat L::Ai ns ix (nu es)::R∧KR es ns ix 600∧es.length≤5):=by
  unfold wL
  refine pO (ρ' :=[.dat (L),Ai [] (fun _=>0) [], .dat (WS), .un, .un, .un, .un, .un]) (nO (by
   rw [hWS]
   refine Jr (fun i:Nat=>aH (i:Int)) _ (xs:=cC 5) (by rw [←BR];exact Mu rfl (by omega) (by omega)) (fun i hi=> ?_) (by simp only [cZ];exact uE (by omega))
   have hi' :i<5:=by simpa using hi
   exact⟨_,rfl,rfl,jf (x:= .int (cell 0)) (y:= .int (i:Int)) (jf (x:=L) (y:= .int 0) rfl rfl c0) rfl (hwf i (by omega)).2.2⟩)) ?_
  have mu0:lQ (.int (cell 0)) (.int 48271)= .ok (.int (cell 0*48271)):=qZ (by omega) (by omega) (by omega) (by omega)
  have dv0:jB (.int (cell 0*48271)) (.int 7)= .ok (.int (cell 0*48271/7)):=lC (by omega) (by omega)
  refine pO (ρ' :=[.dat (L),Ai [] (fun _=>0) [], .dat (WS), .dat (LT), .un, .un, .un, .un]) (nO (nW (x:= .int (cell 0*48271/7)) (by
   rw [j9,j9,jf (x:=L) (y:= .int 0) rfl rfl c0]
   simp! only [mu0,dv0]) elt)) ?_
  refine pO (ρ' :=[.dat (L),Ai [] (fun _=>0) [], .dat (WS), .dat (LT), .own (.list []), .un, .un, .un]) (by simp! only []) ?_
  refine aa2 (N:=fun ρ=>∃(es:List St) (ns:List (Dd Nat)) (ix:List Nat→Nat) (k5 k7:Sl),ρ=[.dat (L),Ai ns ix (nu es), .dat (WS), .dat (LT), .own (.list (oZ es)),k5, .un,k7]∧KR es ns ix 80∧es.length=3∧(wf 0∈nu es∧ix (wf 0)=0)) ?_ ?_
  ·have loop:=mD (mi:=Qt (eC (.int 3))) (g:=gN 5) (body:=(fH (gD 7 (jc [(eC (.str "is")),(fu oG [(fu iW [(dZ 0),(eG jw (eC (.int 1)) (dZ 5))]),(dZ 3),(eC (.int 40))])]))
 (zQ 4 (rP qU [.s 1, .d (eG fX (dZ 2) (dZ 5)), .d (dZ 7)]))))
    (ρ:=[.dat (L),Ai [] (fun _=>0) [], .dat (WS), .dat (LT), .own (.list []), .un, .un, .un]) (ds:=(cC 3).map fun(i:Nat)=>aH (i:Int))
    (fun i ρ=>∃(es:List St) (ns:List (Dd Nat)) (ix:List Nat→Nat) (k5 k7:Sl),ρ=[.dat (L),Ai ns ix (nu es), .dat (WS), .dat (LT), .own (.list (oZ es)),k5, .un,k7]∧KR es ns ix 80∧es.length=i∧(1≤i→wf 0∈nu es∧ix (wf 0)=0))
    (by rw [←BR];exact Mu rfl (by omega) (by omega)) ⟨[],[],fun _=>0,_,_,rfl,KR.nil,rfl,fun h=>absurd h (by omega)⟩ (by
     rintro i d ρ hd ⟨es,ns,ix,k5,k7,rfl,mo,el,w0⟩
     rw [aF,aJ] at hd
     obtain⟨j,h1,rfl⟩:=hd
     have hi:=(au.mp h1).1
     have hij:j=i:=by
      have:=(au.mp h1).2
      simpa using this.symm
     subst hij
     have hj:j<3:=by simpa using hi
     obtain⟨cj,bj⟩:=hc (1+j) (by omega)
     rw [show((1+j:Nat):Int)=1+(j:Int) by omega] at cj
     obtain⟨u,u1,u2,u3,u4,eu⟩:=S7 (cell (1+j)) bj.1 (by omega) lt hlt 40 (by omega) (by omega)
     rw [←hLT] at eu
     refine⟨[.dat (L),Ai ns ix (nu es), .dat (WS), .dat (LT), .own (.list (oZ es)), .dat (.int (j:Int)), .un,k7],rfl,?_⟩
     obtain⟨M,hM⟩:∃M,M=Ai ns ix (nu es):=⟨_,rfl⟩
     obtain⟨RW,hRW⟩:∃RW,RW=oZ es:=⟨_,rfl⟩
     refine ig (ρ' :=[.dat (L),Ai ns ix (nu es), .dat (WS), .dat (LT), .own (.list (oZ es)), .dat (.int (j:Int)), .un, .dat ((Dd.is u).toD iD)]) (nO (by
      rw [←hM,←hRW,Vj,kW (x:= .int (cell (1+j))) (y:=LT) (z:= .int ((40:Nat):Int)) (jf (x:=L) (y:= .int (1+(j:Int))) rfl (by simp! only []) cj) rfl rfl eu]
      rfl)) ?_
     have wo:=(hwf j (by omega)).1
     have st:=TV (L:=L) (WS:=WS) (LT:=LT) (k5:= .dat (.int (j:Int))) (k6:= .un) (k7:= .dat ((Dd.is u).toD iD)) mo (by omega) (mw:=eG fX (dZ 2) (dZ 5)) (md:=dZ 7) (d:= .is u) wo (fun a ha=>by simp [Dd.refs] at ha) ⟨u1,u2,u4⟩ (by
      rw [←hM,←hRW]
      simp! only [ixW j (by omega)]) rfl
     have mo' :=mo.snoc (B' :=80) (d:= .is u) wo (fun a ha=>by simp [Dd.refs] at ha) ⟨u1,u2,u4⟩ (show 2*u.length≤80 by omega) (bD _) (by omega)
     refine jn st ⟨es++[(wf j, .is u)],_,_,_,_,rfl,mo',by simp [el],fun _=> ?_⟩
     rw [pC,xX]
     have nl:=mo.l
     unfold upN
     rcases Nat.eq_zero_or_pos j with z|z
     ·subst z
      refine⟨.inr rfl,?_⟩
      rw [if_pos rfl]
      omega
     ·obtain⟨a,b⟩:=w0 z
      refine⟨.inl a,?_⟩
      rw [if_neg (fun e=>wne j z (by omega) e.symm)]
      exact b)
   obtain⟨ρ,e,es,ns,ix,k5,k7,rfl,mo,el,w0⟩:=loop
   exact⟨_,e,es,ns,ix,k5,k7,rfl,mo,by simpa using el,w0 (by simp)⟩
  rintro ρ ⟨es,ns,ix,k5,k7,rfl,mo,el,w0,x0⟩
  refine pO (ρ' :=[.dat (L),Ai ns ix (nu es), .dat (WS), .dat (LT), .own (.list (oZ es)),k5, .dat (.int (cell 4)),k7]) (nO (jf (x:=L) (y:= .int 4) rfl rfl c4)) ?_
  have m2:iK (.int (cell 4)) (.int 2)= .ok (.int (cell 4%2)):=iy (by omega)
  have v2:jB (.int (cell 4)) (.int 2)= .ok (.int (cell 4/2)):=lC (by omega) (by omega)
  refine aa2 (N:=fun ρ=>∃(es:List St) (ns:List (Dd Nat)) (ix:List Nat→Nat),ρ=[.dat (L),Ai ns ix (nu es), .dat (WS), .dat (LT), .own (.list (oZ es)),k5, .dat (.int (cell 4)),k7]∧KR es ns ix 90∧es.length≤4) ?_ ?_
  ·by_cases h2:cell 4%2=0
   ·obtain⟨n,n1,n2,en⟩:=Wm (cell 4/2) (by omega) (by omega) (Fq es (wf 0)).length MOST (mo.le _) (bD _)
    obtain⟨i1,i2⟩:=mo.ix (wf 0) w0
    rw [x0] at i1 i2
    have ixs:fX (fJ (JK ns)) (.int 0)= .ok (.int (((Fq es (wf 0)).length:Nat):Int)):=by
     rw [show(.int 0:D)= .int ((0:Nat):Int) from rfl,jD (by rw [yU];exact i1),CQ,i2]
    have dr:∀a∈(Dd.times (wf 0) n).refs,a∈nu es:=fun a ha=>by
     rw [show a=wf 0 by simpa [Dd.refs] using ha]
     exact w0
    have dok:(Dd.times (wf 0) n).ok (Fq es):=⟨n1,n2⟩
    obtain⟨M,hM⟩:∃M,M=Ai ns ix (nu es):=⟨_,rfl⟩
    obtain⟨RW,hRW⟩:∃RW,RW=oZ es:=⟨_,rfl⟩
    have cm:oW .lst 1 1 [.dat (L),M, .dat (WS), .dat (LT), .own (.list RW),k5, .dat (.int (cell 4)),k7]= .ok (fJ (JK ns)):=yx (cs:=Xq ns ix (nu es)) (by rw [hM];rfl) rfl
    have st:=TV (L:=L) (WS:=WS) (LT:=LT) (k5:=k5) (k6:= .dat (.int (cell 4))) (k7:=k7) mo (by omega) (mw:=eG fX (dZ 2) (eC (.int 0))) (md:=jc [(eC (.str "times")),(eG fX (dZ 2) (eC (.int 0))),(fu qQ [(eG jB (dZ 6) (eC (.int 2))),(eG fX (oW .lst 1 1) (eC (.int 0))),(eG sV (eC (.int 2)) (eC (.int 60)))])]) (d:= .times (wf 0) n) (hwf 0 (by omega)).1 dr dok (by
     rw [←hM,←hRW]
     simp! only [ixW0]) (by
     rw [←hM,←hRW,Ue,kW (x:= .int (cell 4/2)) (y:= .int (((Fq es (wf 0)).length:Nat):Int)) (z:= .int ((MOST:Nat):Int)) (by simp! only [v2]) (by rw [j9,cm];simp! only [ixs]) (by simp! only [hp60]) en]
     simp! only [ixW0]
     rfl)
    have bw:=mo.bd (wf 0) w0
    have mo' :=mo.snoc (B' :=90) (d:= .times (wf 0) n) (hwf 0 (by omega)).1 dr dok (show Vz es (wf 0)+1≤90 by omega) (by omega) (by omega)
    refine KD (by rw [←hM,←hRW];simp! only [m2,h2]) (jn st ⟨es++[(wf 0, .times (wf 0) n)],_,_,rfl,mo',by simp;omega⟩)
   ·obtain⟨M,hM⟩:∃M,M=Ai ns ix (nu es):=⟨_,rfl⟩
    obtain⟨RW,hRW⟩:∃RW,RW=oZ es:=⟨_,rfl⟩
    refine Jo (by rw [←hM,←hRW];simp! only [m2,h2]) (jn rfl ⟨es,ns,ix,rfl,{mo with bd:=fun a ha=>bJ (mo.bd a ha) (by omega)},by omega⟩)
  rintro ρ ⟨es,ns,ix,rfl,mo,el⟩
  refine pO (ρ' :=[.dat (L),Ai ns ix (nu es), .dat (WS), .dat (LT), .own (.list (oZ es)),k5, .dat (.int (cell 5)),k7]) (nO (jf (x:=L) (y:= .int 5) rfl rfl c5)) ?_
  have swl:=Zj es
  have v5:jB (.int (cell 5)) (.int 5)= .ok (.int (cell 5/5)):=lC (by omega) (by omega)
  obtain⟨o,esz⟩:=abN ns ix (nu es) (aeb es) (by omega) (fun a ha=>(mo.ix a ha).1) (Fq es) (fun a ha=>(mo.ix a ha).2)
  obtain⟨d,dr,dok,edd⟩:=adS (cell 5/5) (by omega) (by omega) (Fq es) (nu es) (by omega) lt hlt mo.le
  rw [←hLT] at edd
  obtain⟨M,hM⟩:∃M,M=Ai ns ix (nu es):=⟨_,rfl⟩
  obtain⟨RW,hRW⟩:∃RW,RW=oZ es:=⟨_,rfl⟩
  have esz' :uz uG [.r 1] [.dat (L),M, .dat (WS), .dat (LT), .own (.list RW),k5, .dat (.int (cell 5)),k7]= .ok (szD (Fq es) (nu es)):=aaw (by rw [hM];rfl) esz
  refine pO (ρ' :=[.dat (L),Ai ns ix (nu es), .dat (WS), .dat (LT), .own (.list (oZ es)),k5, .dat (.int (cell 5)), .dat (d.toD iD)]) (nO (by
   rw [←hM,←hRW]
   exact nY (x:= .int (cell 5/5)) (z:=LT) (by simp! only [v5]) esz' rfl (by simp! only [hp60]) edd)) ?_
  obtain⟨k,hk⟩:∃k:Nat,(k:Int)=cell 5%5:=⟨(cell 5%5).toNat,by omega⟩
  have m5:iK (.int (cell 5)) (.int 5)= .ok (.int (k:Int)):=by rw [iy (by omega),hk]
  have wo:=(hwf k (by omega)).1
  have st:=TV (L:=L) (WS:=WS) (LT:=LT) (k5:=k5) (k6:= .dat (.int (cell 5))) (k7:= .dat (d.toD iD)) mo (by omega) (mw:=eG fX (dZ 2) (eG iK (dZ 6) (eC (.int 5)))) (md:=dZ 7) (d:=d) wo dr dok (by
   rw [←hM,←hRW]
   simp! only [m5,ixW k (by omega)]) rfl
  have bdl:=ah6 d (Vz es) 90 (fun a ha=>mo.bd a (dr a ha)) (fun u e=>by
   have h9:=dok
   rw [e] at h9
   exact h9.2.1) (by omega)
  have mo' :=mo.snoc (B' :=600) (d:=d) wo dr dok (by omega) (by omega) (by omega)
  refine pO st ?_
  refine⟨.list (oZ (es++[(wf k,d)])),[.dat (L),Ai (ns++[d.map ix]) (upN ix (wf k) ns.length) (nu (es++[(wf k,d)])), .dat (WS), .dat (LT), .dat (.list (oZ (es++[(wf k,d)]))),k5, .dat (.int (cell 5)), .dat (d.toD iD)],?_,es++[(wf k,d)],_,_,_,rfl,rfl,mo',by simp;omega⟩
  show KH 4 _ _=_
  unfold KH
  simp only [aQ,aG]
  rfl
 obtain⟨r,ρ,e,es,ns,ix,R,rfl,rfl,mo,el⟩:=U8 (bs:=[false,true]) (n:=6) (m:=wL) (as:=[.dat L,Ai [] (fun _=>0) []]) rfl run
 exact⟨es,ns,ix,e,mo,el⟩
end Sb
namespace Sb
open PySem PySem.Spec L2 Evl DL
theorem abW(rs:List Rule)(g:Good rs)(f:Fits MOST rs)(hl:rs.length≤16700000)(N:Option Nat)(w:List Nat)(tr:Fo rs N w)(ns:List (Dd Nat))(ng:NG ns)(nl:ns.length≤1000)(ix:List Nat→Nat)(ws:List (List Nat))(k:Nat)(hk:k<ns.length)(hw:(wM ns).getD k []=w)(cs:List Int)(hcs:∀c∈cs,0≤c∧c<10 ^ 40)(hcl:cs.length≤100):
 ∃o,rE [.dat (eZ rs), .dat (eX N), .vP .lst ((Xq ns ix ws).map rdC), .dat (.int (k:Int)), .dat (.list (cs.map aH))]= .ok (.bool true) o:=by
 obtain⟨L,hL⟩:∃L,L=eZ rs:=⟨_,rfl⟩
 obtain⟨mc,hmc⟩:∃mc,mc=(Xq ns ix ws).map rdC:=⟨_,rfl⟩
 have m0:mc[0]? =some (.bor (pB ns)):=by rw [hmc];rfl
 have m1:mc[1]? =some (.bor (fJ (JK ns))):=by rw [hmc];rfl
 obtain⟨CS,hCS⟩:∃CS,CS=di (cs.map aH):=⟨_,rfl⟩
 have wl:w.length≤MOST:=by rw [←hw];exact ng.le k
 have ln:=tr.len
 have nn:(N=none)↔w.length=0:=by
  rw [←ln]
  constructor
  ·rintro rfl
   rfl
  ·intro h
   by_cases z:N=none
   ·exact z
   ·have:=(ad1 g tr.nm).mpr z
    omega
 have ll:pD [L]= .ok (fJ (sizes rs)):=by rw [hL];exact Mx rs g f hl
 obtain⟨SZ,hSZ⟩:∃SZ,SZ=fJ (sizes rs):=⟨_,rfl⟩
 have fSZ:abM SZ= .ok SZ:=by rw [hSZ];exact adM _
 rw [←hSZ] at ll
 have ixs:fX (fJ (JK ns)) (.int (k:Int))= .ok (.int ((w.length:Nat):Int)):=by
  rw [jD (by rw [yU];exact hk),CQ,hw]
 rw [←hL,←hmc,←hCS]
 obtain⟨ND,hND⟩:∃ND,ND=eX N:=⟨_,rfl⟩
 rw [←hND]
 have run:Rx (uL [.dat (L), .dat (ND), .vP .lst mc, .dat (.int (k:Int)), .dat (CS), .un, .un, .un, .un]) (fun r _=>r= .bool true):=by
  unfold uL
  refine pO (ρ' :=[.dat (L), .dat (ND), .vP .lst mc, .dat (.int (k:Int)), .dat (CS), .dat (SZ), .un, .un, .un]) (nO (by rw [tO,nW (x:=L) rfl ll,iV];exact fSZ)) ?_
  refine pO (ρ' :=[.dat (L), .dat (ND), .vP .lst mc, .dat (.int (k:Int)), .dat (CS), .dat (SZ), .dat (.int ((w.length:Nat):Int)), .un, .un]) (nO (by
   rw [j9,Lf (cs:=mc) rfl m1]
   simp! only [ixs])) ?_
  by_cases h0:w.length=0
  ·have z:=nn.mpr h0
   subst z
   have h0' :((w.length:Nat):Int)=0:=by omega
   refine aem (aiX (by rw [hND];simp! only [eX,h0']) (Ub (d:= .bool true) (by rw [hND];simp! only [eX,h0']) rfl))
  have h0' :¬((w.length:Nat):Int)=0:=by omega
  obtain⟨q,hq⟩:∃q,N=some q:=by
   cases hN2:N with
   |none=>exact absurd (nn.mp hN2) h0
   |some q=>exact⟨q,rfl⟩
  subst hq
  have hql:q<rs.length:=tr.nm q rfl
  have ixq:fX SZ ND= .ok (.int ((w.length:Nat):Int)):=by
   rw [hSZ,hND]
   show fX (fJ (sizes rs)) (.int (q:Int))=_
   rw [jD (by rw [j6];exact hql)]
   have:(sizes rs).getD q 0=w.length:=ln
   rw [this]
  refine pO (ρ' :=[.dat (L), .dat (ND), .vP .lst mc, .dat (.int (k:Int)), .dat (CS), .dat (SZ), .dat (.int ((w.length:Nat):Int)), .un, .un]) (by
   rw [tU]
   ·rfl
   ·rw [hND]
    simp! only [eX,h0']) ?_
  refine pO (ρ' :=[.dat (L), .dat (ND), .vP .lst mc, .dat (.int (k:Int)), .dat (CS), .dat (SZ), .dat (.int ((w.length:Nat):Int)), .un, .un]) (by
   rw [tU]
   ·rfl
   ·simp! only [ixq]) ?_
  have pk:∀c:Int,∃p:Nat,c∈cs→p<w.length∧jK [.int c, .int ((w.length:Nat):Int)]= .ok (.int (p:Int)):=fun c=>by
   by_cases hc:c∈cs
   ·obtain⟨p,p1,p2⟩:=N6 c (hcs c hc).1 (by have:=(hcs c hc).2;omega) w.length (by omega) (bJ wl (by decide))
    exact⟨p,fun _=>⟨p1,p2⟩⟩
   ·exact⟨0,fun z=>absurd z hc⟩
  obtain⟨pf,hpf⟩:∃pf:Int→Nat,∀c∈cs,pf c<w.length∧jK [.int c, .int ((w.length:Nat):Int)]= .ok (.int (pf c:Int)):=⟨fun c=>(pk c).choose,fun c=>(pk c).choose_spec⟩
  obtain⟨ps,hps⟩:∃ps:List Nat,ps=0::(w.length-1)::cs.map pf:=⟨_,rfl⟩
  have plt:∀p∈ps,p<w.length:=fun p hp=>by
   rw [hps] at hp
   rcases aO.mp hp with rfl|hp
   ·omega
   rcases aO.mp hp with rfl|hp
   ·omega
   obtain⟨c,hc,rfl⟩:=bV.mp hp
   exact(hpf c hc).1
  have lc:Lq (iL (dZ 4)) (gN 8) (eC (.bool true)) (fu jK [(dZ 8),(dZ 6)]) [8] [.dat (L), .dat (ND), .vP .lst mc, .dat (.int (k:Int)), .dat (CS), .dat (SZ), .dat (.int ((w.length:Nat):Int)), .un, .un]= .ok (.list (cs.map fun c=>aH (pf c:Int))):=
   Jr (fun c=>aH c) _ (xs:=cs) (Rb (by rw [hCS];rfl)) (fun c hc=>⟨_,rfl,rfl,jf (x:= .int c) (y:= .int ((w.length:Nat):Int)) rfl rfl (hpf c hc).2⟩) (uE (by omega))
  have sb:mW (.int ((w.length:Nat):Int)) (.int 1)= .ok (.int ((w.length-1:Nat):Int)):=by
   show ER.ok (.int (((w.length:Nat):Int)-1))=_
   congr 2
   omega
  have ad:jw (.list [.int 0, .int ((w.length-1:Nat):Int)]) (.list (cs.map fun c=>aH (pf c:Int)))= .ok (.list (ps.map fun(p:Nat)=>aH (p:Int))):=by
   rw [Ud (by rw [aC];exact uE (by simp;omega)),hps]
   simp
  refine aa2 (N:=fun _=>True) ?_ (fun ρ _=>Ub rfl rfl)
  have sN:eX (some q)=ND:=hND.symm
  have loop:=mD (mi:=iL (eG jw (kJ [(eC (.int 0)),(eG mW (dZ 6) (eC (.int 1)))]) (Lq (iL (dZ 4)) (gN 8) (eC (.bool true)) (fu jK [(dZ 8),(dZ 6)]) [8]))) (g:=gN 7) (body:=(je (eG Ep (fu ou [(dZ 0),(dZ 5),(dZ 1),(dZ 7)]) (fu oY [(oW .lst 2 0),(oW .lst 2 1),(dZ 3),(dZ 7)])) (wV (eC (.bool false))) fU))
   (ρ:=[.dat (L), .dat (ND), .vP .lst mc, .dat (.int (k:Int)), .dat (CS), .dat (SZ), .dat (.int ((w.length:Nat):Int)), .un, .un]) (ds:=ps.map fun(p:Nat)=>aH (p:Int))
   (fun _ ρ=>∃k7,ρ=[.dat (L), .dat (ND), .vP .lst mc, .dat (.int (k:Int)), .dat (CS), .dat (SZ), .dat (.int ((w.length:Nat):Int)),k7, .un])
   (Rb (by
     rw [j9,lc]
     simp! only [sb,ad])) ⟨_,rfl⟩ (by
    rintro i d ρ hd ⟨k7,rfl⟩
    rw [aF,aJ] at hd
    obtain⟨p,h1,rfl⟩:=hd
    have hp:=plt p (aX h1)
    refine⟨[.dat (L), .dat (ND), .vP .lst mc, .dat (.int (k:Int)), .dat (CS), .dat (SZ), .dat (.int ((w.length:Nat):Int)), .dat (.int (p:Int)), .un],rfl,?_⟩
    have sa:=adR rs g f (by omega) (some q) tr.nm p (by omega)
    rw [tr.t,←hSZ,←hL,sN] at sa
    have sf:=Xi ns ng nl k hk p (by rw [hw];exact hp)
    rw [hw] at sf
    have q1:fu ou [(dZ 0),(dZ 5),(dZ 1),(dZ 7)] [.dat (L), .dat (ND), .vP .lst mc, .dat (.int (k:Int)), .dat (CS), .dat (SZ), .dat (.int ((w.length:Nat):Int)), .dat (.int (p:Int)), .un]= .ok (.str (s1 (w.getD p 0))):=nY (x:=L) rfl rfl rfl rfl sa
    have q2:fu oY [(oW .lst 2 0),(oW .lst 2 1),(dZ 3),(dZ 7)] [.dat (L), .dat (ND), .vP .lst mc, .dat (.int (k:Int)), .dat (CS), .dat (SZ), .dat (.int ((w.length:Nat):Int)), .dat (.int (p:Int)), .un]= .ok (.str (s1 (w.getD p 0))):=nY (x:=pB ns) (y:=fJ (JK ns)) (Lf (cs:=mc) rfl m0) (Lf (cs:=mc) rfl m1) rfl rfl sf
    refine jn (ρ' :=[.dat (L), .dat (ND), .vP .lst mc, .dat (.int (k:Int)), .dat (CS), .dat (SZ), .dat (.int ((w.length:Nat):Int)), .dat (.int (p:Int)), .un]) ?_ ⟨_,rfl⟩
    rw [tU]
    ·rfl
    ·rw [j9,q1,q2,iV,iV,ZK]
     simp)
  obtain⟨ρ,e,_⟩:=loop
  exact⟨ρ,e,trivial⟩
 obtain⟨r,ρ,e,rfl⟩:=U8 (bs:=[false,false,false,false,false]) (n:=4) (m:=uL) (as:=[.dat L, .dat ND, .vP .lst mc, .dat (.int (k:Int)), .dat CS]) rfl run
 exact⟨_,e⟩
end Sb
namespace Sb
open PySem PySem.Spec L2 Evl DL
theorem ah3(M:Option Nat):Fl (eX M):=by
 cases M with
 |none=>exact aeD
 |some k=>exact agq _
theorem ae1(a:List Nat)(M:Option Nat):Fl (.tuple [iD a,eX M]):=agW fun d hd=>by
 simp only [aO,bB,or_false] at hd
 rcases hd with rfl|rfl
 ·exact agK _
 ·exact ah3 M
theorem ahr{a:List Nat}(h:yw a)(M:Option Nat):Sh 3 (.tuple [iD a,eX M]):=BK (n:=2) fun d hd=>by
 simp only [aO,bB,or_false] at hd
 rcases hd with rfl|rfl
 ·exact Jb _ fun c hc=>by
   have:=(h.2.2 c (by simpa using hc)).2
   omega
 ·exact aeR M
theorem acX:aa9:=fun nums hlen hb=>by
 have big:=WY
 obtain⟨cell,hc⟩:=aeW hb
 obtain⟨L,hL⟩:∃L,L=di (nums.map aH):=⟨_,rfl⟩
 rw [←hL] at hc⊢
 obtain⟨es,nds,ix,er,mo,el⟩:=aeh hc
 have swl:=Zj es
 obtain⟨rs,Nm,erd,g,f,rl,tx⟩:=afh es mo.st (by omega) (by omega) (fun a=>by
  by_cases h:a∈nu es
  ·have:=mo.bd a h
   omega
  ·rw [afD es a h]
   omega)
 obtain⟨sw,hsw⟩:∃sw,sw=Wt (nu es):=⟨_,rfl⟩
 have pm:=Ju (nu es)
 have so:=Vx (fun w=>lU (ix w)) (nu es) (by omega)
 rw [←hsw] at erd pm so
 have swl' :sw.length≤5:=by rw [pm.length_eq];omega
 have mem:∀a,a∈sw→a∈nu es:=fun a ha=>pm.mem_iff.mp ha
 have rw2:∀r∈es.map rowOf,r.length≤250:=fun r hr=>by
  obtain⟨e,he,rfl⟩:=bV.mp hr
  obtain⟨i,hi⟩:=List.mem_iff_getElem?.mp he
  exact(row_free (mo.st.rw_ i e hi)).2.1
 have dj:=Vp "; " (es.map rowOf) 250 rw2 (by
  have:("; ":Str).length=2:=by decide+kernel
  rw [this,aC]
  omega)
 have e0:("; ":Str).cps.toList=[59,32]:=by decide+kernel
 rw [e0,cD] at dj
 obtain⟨RW,hRW⟩:∃RW,RW=oZ es:=⟨_,rfl⟩
 have dj' :vR "; " (.list RW)= .ok (.str (fZ (xQ es))):=by rw [hRW];exact dj
 have lRW:jr [.list RW]= .ok (.int ((es.length:Nat):Int)):=by rw [hRW,zJ,aC]
 obtain⟨M,hM⟩:∃M,M=Ai nds ix (nu es):=⟨_,rfl⟩
 obtain⟨PS,hPS⟩:∃PS,PS=sw.map fun a=>bM [iD a,eX (Nm a)]:=⟨_,rfl⟩
 obtain⟨RD,hRD⟩:∃RD,RD=eZ rs:=⟨_,rfl⟩
 have er' :Jm [.str (fZ (xQ es))]= .ok (.tuple [RD, .list PS]):=by rw [hRD,hPS];exact erd
 have td:=agY rs g f (by omega) sw (by omega) (fun a ha=>by have:=(mo.wd a (mem a ha)).2.1;omega) Nm (fun a ha=>(tx a (mem a ha)).nm)
 rw [←hRD] at td
 have td' :wD [.tuple [RD, .list PS], .list (sw.map iD)]= .ok (.bool true):=by rw [hPS];exact td
 have psl:PS.length=sw.length:=by rw [hPS,aC]
 have lenL:jr [L]= .ok (.int ((nums.length:Nat):Int)):=by rw [hL,zJ,aC]
 have for_:∃k4 k5 k8:Sl,acH [.dat (L),M, .dat (.list RW), .dat (.tuple [RD, .list PS]), .un, .un, .un, .un, .un, .un]= .nx [.dat (L),M, .dat (.list RW), .dat (.tuple [RD, .list PS]),k4,k5, .un, .un,k8, .un]:=by
  have loop:=mD (mi:=iL (eG fX (dZ 3) (eC (.int 1)))) (g:=gT [(gN 4),(gN 5)]) (body:=(fH (gD 8 (nA (kJ [])))
 (fH (je (eG jZ (eG jF (oW .lst 1 2) (dZ 4)) (eG mW (fu jr [(dZ 2)]) (eC (.int 1)))) (gD 8 (Lq (iR2 (eC (.int 6)) (fu Iv [(eC (.int 66)),(fu jr [(dZ 0)])])) (gN 9) (eC (.bool true)) (fu iW [(dZ 0),(dZ 9)]) [9])) fU)
 (je (lY (uz rE [.d (eG fX (dZ 3) (eC (.int 0))), .d (dZ 5), .r 1, .d (eG jF (oW .lst 1 2) (dZ 4)), .d (dZ 8)])) (gG (eC (.bool false))) fU))))
   (ρ:=[.dat (L),M, .dat (.list RW), .dat (.tuple [RD, .list PS]), .un, .un, .un, .un, .un, .un]) (ds:=PS)
   (fun _ ρ=>∃k4 k5 k8:Sl,ρ=[.dat (L),M, .dat (.list RW), .dat (.tuple [RD, .list PS]),k4,k5, .un, .un,k8, .un])
   (Rb (by simp! only [gA])) ⟨_,_,_,rfl⟩ (by
    rintro i d ρ hd ⟨k4,k5,k8,rfl⟩
    rw [hPS,aF,aJ] at hd
    obtain⟨a,ha,rfl⟩:=hd
    have am:a∈nu es:=mem a (aX ha)
    obtain⟨i1,i2⟩:=mo.ix a am
    refine⟨[.dat (L),M, .dat (.list RW), .dat (.tuple [RD, .list PS]), .dat (iD a), .dat (eX (Nm a)), .un, .un,k8, .un],rfl,?_⟩
    refine ig (ρ' :=[.dat (L),M, .dat (.list RW), .dat (.tuple [RD, .list PS]), .dat (iD a), .dat (eX (Nm a)), .un, .un, .dat (.list (([]:List Int).map aH)), .un]) rfl ?_
    have cM:∀k8:Sl,eG jF (oW .lst 1 2) (dZ 4) [.dat (L),M, .dat (.list RW), .dat (.tuple [RD, .list PS]), .dat (iD a), .dat (eX (Nm a)), .un, .un,k8, .un]= .ok (.int ((ix a:Nat):Int)):=fun k8=>by
     rw [j9,yx (cs:=Xq nds ix (nu es)) (d:=ixD ix (nu es)) (by rw [hM];rfl) rfl]
     simp! only []
     exact IW _ am
    refine acU (M:=fun ρ=>∃cs:List Int,ρ=[.dat (L),M, .dat (.list RW), .dat (.tuple [RD, .list PS]), .dat (iD a), .dat (eX (Nm a)), .un, .un, .dat (.list (cs.map aH)), .un]∧(∀c∈cs,0≤c∧c<10 ^ 40)∧cs.length≤100) ?_ ?_
    ·have cond:eG jZ (eG jF (oW .lst 1 2) (dZ 4)) (eG mW (fu jr [(dZ 2)]) (eC (.int 1))) [.dat (L),M, .dat (.list RW), .dat (.tuple [RD, .list PS]), .dat (iD a), .dat (eX (Nm a)), .un, .un, .dat (.list (([]:List Int).map aH)), .un]= .ok (.bool (decide (((ix a:Nat):Int)=((es.length:Nat):Int)-1))):=by
      rw [j9,cM]
      simp! only [lRW]
     by_cases hi:((ix a:Nat):Int)=((es.length:Nat):Int)-1
     ·rw [decide_eq_true hi] at cond
      have mn:Iv [.int 66, .int ((nums.length:Nat):Int)]= .ok (.int ((nums.length:Nat):Int)):=by
       rw [Tv]
       congr 2
       omega
      have lc:=acR hc (ρ:=[.dat (L),M, .dat (.list RW), .dat (.tuple [RD, .list PS]), .dat (iD a), .dat (eX (Nm a)), .un, .un, .dat (.list (([]:List Int).map aH)), .un]) (j:=9) (mi:=iR2 (eC (.int 6)) (fu Iv [(eC (.int 66)),(fu jr [(dZ 0)])])) 6 nums.length (by omega) (ahY rfl (by simp! only [lenL,mn]) (by omega) (by omega) (by omega) (by omega)) (fun _=>rfl) (fun _=>rfl)
      refine KD cond (jn (nO lc) ⟨_,rfl,fun c hm=> ?_,by simp;omega⟩)
      obtain⟨j,hj,rfl⟩:=bV.mp hm
      rw [List.mem_range] at hj
      exact(hc (6+j) (by omega)).2
     ·rw [decide_eq_false hi] at cond
      exact Jo cond (jn rfl ⟨[],rfl,fun c hm=>(by cases hm),by simp⟩)
    rintro ρ ⟨cs,rfl,c1,c2⟩
    obtain⟨o,er2⟩:=abW rs g f (by omega) (Nm a) (Fq es a) (tx a am) nds mo.g (by have:=mo.l;omega) ix (nu es) (ix a) i1 i2 cs c1 c2
    rw [←hRD] at er2
    have ce:=aaw (g:=rE) (as:=[.d (eG fX (dZ 3) (eC (.int 0))), .d (dZ 5), .r 1, .d (eG jF (oW .lst 1 2) (dZ 4)), .d (dZ 8)]) (ρ:=[.dat (L),M, .dat (.list RW), .dat (.tuple [RD, .list PS]), .dat (iD a), .dat (eX (Nm a)), .un, .un, .dat (.list (cs.map aH)), .un]) (by
     have a1:eG fX (dZ 3) (eC (.int 0)) [.dat (L),M, .dat (.list RW), .dat (.tuple [RD, .list PS]), .dat (iD a), .dat (eX (Nm a)), .un, .un, .dat (.list (cs.map aH)), .un]= .ok RD:=by simp! only [gh]
     simp only [Ag,Dt,cM,a1]
     rw [hM]
     rfl) er2
    exact jn (ρ' :=[.dat (L),M, .dat (.list RW), .dat (.tuple [RD, .list PS]), .dat (iD a), .dat (eX (Nm a)), .un, .un, .dat (.list (cs.map aH)), .un]) (by
     rw [tU]
     ·rfl
     ·rw [lY,ce]
      rfl) ⟨_,_,_,rfl⟩)
  obtain⟨ρ,e,k4,k5,k8,rfl⟩:=loop
  exact⟨k4,k5,k8,e⟩
 obtain⟨k4,k5,k8,for_⟩:=for_
 refine⟨[.dat (L),Ai [] (fun _=>0) [], .un, .un, .un, .un, .un, .un, .un, .un],[.dat (L),M, .dat (.list RW), .un, .un, .un, .un, .un, .un, .un],[.dat (L),M, .dat (.list RW), .dat (.tuple [RD, .list PS]), .un, .un, .un, .un, .un, .un],[.dat (L),M, .dat (.list RW), .dat (.tuple [RD, .list PS]),k4,k5, .un, .un,k8, .un],[.dat (L),M, .dat (.list RW), .dat (.tuple [RD, .list PS]),k4,k5, .own (.list PS), .un,k8, .un],RW,PS,RD,rfl,?_,rfl,?_,?_,for_,?_,rfl,?_,?_,rfl,(show 3<10 by decide),by decide,?_⟩
 ·have ex:=aao (g:=wR) (as:=[.d (dZ 0), .s 1]) (ρ:=[.dat (L),Ai [] (fun _=>0) [], .un, .un, .un, .un, .un, .un, .un, .un]) rfl er
  show nU 2 _ _=_
  simp only [nU,ex]
  rw [hM,hRW]
  rfl
 ·exact nW (x:= .str (fZ (xQ es))) (by simp! only [Bx,dj']) er'
 ·show je _ _ _ [.dat (L),M, .dat (.list RW), .dat (.tuple [RD, .list PS]), .un, .un, .un, .un, .un, .un]=_
  rw [tU]
  ·rfl
  ·have es2:nA (Eo pH (oW .lst 1 2)) [.dat (L),M, .dat (.list RW), .dat (.tuple [RD, .list PS]), .un, .un, .un, .un, .un, .un]= .ok (.list (sw.map iD)):=by
    rw [tO,Fb,yx (cs:=Xq nds ix (nu es)) (d:=ixD ix (nu es)) (by rw [hM];rfl) rfl,iV,so]
    rfl
   rw [lY,jf (x:= .tuple [RD, .list PS]) rfl es2 td']
   rfl
 ·show j7 6 _ _=_
  simp only [j7,nW (G:=qd) (ma:=eG fX (dZ 3) (eC (.int 1))) (ρ:=[.dat (L),M, .dat (.list RW), .dat (.tuple [RD, .list PS]),k4,k5, .un, .un,k8, .un]) (x:= .list PS) (by simp! only [gA]) rfl]
  rfl
 ·intro d hd
  rw [hPS] at hd
  obtain⟨a,_,rfl⟩:=bV.mp hd
  exact ae1 a _
 ·rw [psl]
  exact lO (by omega)
 ·show ZQ [.un, .un, .dat (.list RW), .dat (.tuple [RD, .list (PS++[.str "more"])]), .un, .un, .own (.list PS), .un, .un, .un]=_
  unfold ZQ
  have rd:fu Jm [(Bx vR (eC (.str "; ")) (dZ 2))] [.un, .un, .dat (.list RW), .dat (.tuple [RD, .list (PS++[.str "more"])]), .un, .un, .own (.list PS), .un, .un, .un]= .ok (.tuple [RD, .list PS]):=nW (x:= .str (fZ (xQ es))) (by simp! only [Bx,dj']) er'
  have q1:jZ RD RD= .ok (.bool true):=by rw [hRD];exact Bg (ad3 g)
  have shp:∀d∈PS,Sh 3 d:=fun d hd=>by
   rw [hPS] at hd
   obtain⟨a,ha,rfl⟩:=bV.mp hd
   exact ahr (mo.wd a (mem a ha)) _
  have q2:jZ (.list PS) (.list PS)= .ok (.bool true):=Bg (n:=4) (aaC shp)
  have q3:jZ (.list (PS++[.str "more"])) (.list (PS++[.str "more"]))= .ok (.bool true):=Bg (n:=4) (aaC fun d hd=>by
   rcases aU.mp hd with hd|hd
   ·exact shp d hd
   ·rw [aM.mp hd]
    exact Jb _ (by decide+kernel))
  have ad:jw (.list PS) (.list [.str "more"])= .ok (.list (PS++[.str "more"])):=Ud (by rw [psl];exact uE (by simp;omega))
  rw [fH,nO rd]
  simp! only [gh,gA,q1,q2,q3,ad]
end Sb
set_option maxRecDepth 100000 in
theorem PySem.Challenge.cw_shortbook_k61_one_statement_holds : PySem.Challenge.rw_shortbook_k61_one_statement.Holds :=
 Sb.holds_of Sb.acX
