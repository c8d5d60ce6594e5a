import PyProof.Rows.All
import Wide.All
import OpenK.AllK
import Wide.FinOn
import HandS.ForMost
import HandS.Exc
import HandS.TryOnly
import HandS.ExcOwn
import HandS.WordsExc
import HandS.Evl
import HandS.HeadHook2
import HandS.Defaults
import HandS.Wide
import HandS.TupAny
import HandS.Style
import HandS.IsInst
import HandS.SortInts
import HandS.WideBits
import HandS.EndBits
import HandS.Head0
import HandS.Head1
import HandS.Head2
import HandS.HeadEnd
import KE.GoesEnum
import HandS.TryMany
import HandS.ExcIs
import HandS.Dict
import HandS.More
import HandS.Conv
import HandS.Iter
import HandS.NoneIn
import HandS.CallSlots
import HandS.HotCalls
import KE.KDictCopyH
import PySem.Challenge.RW_shortbook_k17_tidy
set_option Elab.async false
set_option linter.all false
set_option maxRecDepth 100000
set_option maxHeartbeats 0
/-! DL1: the data level. A program's values as plain data, its defs as plain functions over environments of data; the relation to the layer's slots and heap. -/
namespace DL
open PySem L2 Evl

abbrev D := PyData
/-- a slot: unknown; data that never changes any more; an object of one's own that may be changed; an object that is only read -/
inductive Sl where
  | un | dat (d : D) | own (d : D) | bor (d : D)
abbrev Env := List Sl
inductive ER where
  | ok (d : D) | ex (c : Str) | bad
inductive Out where
  | nx (ρ : Env) | rt (d : D) | bk (ρ : Env) | ct (ρ : Env) | ex (c : Str) (ρ : Env) | bad
def ER.bind (r : ER) (f : D → ER) : ER := match r with
  | .ok d => f d
  | .ex c => .ex c
  | .bad => .bad
abbrev EM := Env → ER
abbrev SM := Env → Out

/-! ### the heap -/
/-- keys as data -/
def keyD : Key → D
  | .inl i => .int i
  | .inr x => .str x
mutual
/-- a value and what it stands for: data that is not changed -/
inductive Dr (K : PySem.W.Frag) (H : Hp) : V → D → Prop
  | non : Dr K H .non .none
  | bl (b : Bool) : Dr K H (.bl b) (.bool b)
  | int (i : Int) : Dr K H (.int i) (.int i)
  | str (x : Str) : Dr K H (.str x) (.str x)
  | lst {a : Addr} {xs : List V} {ds : List D} : SqL K H a xs → DrAll K H xs ds → Dr K H (.ref a) (.list ds)
  | tup {a : Addr} {xs : List V} {ds : List D} : H a = some (.tup xs) → DrAll K H xs ds → Dr K H (.ref a) (.tuple ds)
  | dict0 {a : Addr} : Rd H a (.dK []) → Dr K H (.ref a) (.dict [])
inductive DrAll (K : PySem.W.Frag) (H : Hp) : List V → List D → Prop
  | nil : DrAll K H [] []
  | cons {v : V} {vs : List V} {d : D} {ds : List D} : Dr K H v d → DrAll K H vs ds → DrAll K H (v :: vs) (d :: ds)
end
mutual
theorem Dr.dp {K : PySem.W.Frag} {H : Hp} : ∀ {d : D} {v : V}, d.canLay0 = true → Dr K H v d → Dp K H v d
  | _, _, _, .non => .non
  | _, _, _, .bl b => .bl b
  | _, _, _, .int i => .int i
  | _, _, _, .str x => .str x
  | _, _, h, .lst s a => .lst s (DrAll.dp (by simpa [PyData.canLay0] using h) a)
  | _, _, h, .tup s a => .tup (.inl (.inl s)) (DrAll.dp (by simpa [PyData.canLay0] using h) a)
  | _, _, h, .dict0 _ => by simp [PyData.canLay0] at h
theorem DrAll.dp {K : PySem.W.Frag} {H : Hp} : ∀ {ds : List D} {vs : List V}, PyData.canLayAll0 ds = true → DrAll K H vs ds → DpAll K H vs ds
  | _, _, _, .nil => .nil
  | d :: ds, _, h, .cons a b => by
    have h' : d.canLay0 = true ∧ PyData.canLayAll0 ds = true := by simpa [PyData.canLayAll0] using h
    exact .cons (Dr.dp h'.1 a) (DrAll.dp h'.2 b)
end
/-- the content of an object that may change -/
inductive Ob (K : PySem.W.Frag) (Hb : Hp) : HO → D → Prop
  | lst {xs : List V} {ds : List D} : DrAll K Hb xs ds → Ob K Hb (.lst xs) (.list ds)
  | dK {kvs : List (Key × V)} {ds : List (D × D)} : Paired (fun (p : Key × V) (q : D × D) => q.1 = keyD p.1 ∧ Dr K Hb p.2 q.2) kvs ds → Ob K Hb (.dK kvs) (.dict ds)
  | dT {kvs : List (List Key × V)} {ds : List (D × D)} : Paired (fun (p : List Key × V) (q : D × D) => q.1 = .tuple (p.1.map keyD) ∧ Dr K Hb p.2 q.2) kvs ds → Ob K Hb (.dT kvs) (.dict ((.none, .none) :: ds))
def Ow (K : PySem.W.Frag) (Hb H : Hp) (p : Addr) (d : D) : Prop := ∃ o, H p = some o ∧ Ob K Hb o d
def Bo (K : PySem.W.Frag) (Hb H : Hp) (v : V) (d : D) : Prop := Dr K Hb v d ∨ ∃ p, v = .ref p ∧ Ow K Hb H p d

mutual
theorem dr_ex {K : PySem.W.Frag} {H H' : Hp} (e : Ex H H') : ∀ {d : D} {v : V}, Dr K H v d → Dr K H' v d
  | _, _, .non => .non
  | _, _, .bl b => .bl b
  | _, _, .int i => .int i
  | _, _, .str x => .str x
  | _, _, .lst s a => .lst (ex_l e s) (drAll_ex e a)
  | _, _, .tup s a => .tup (e _ _ s) (drAll_ex e a)
  | _, _, .dict0 s => .dict0 (ex_rd e s)
theorem drAll_ex {K : PySem.W.Frag} {H H' : Hp} (e : Ex H H') : ∀ {ds : List D} {vs : List V}, DrAll K H vs ds → DrAll K H' vs ds
  | _, _, .nil => .nil
  | _, _, .cons a b => .cons (dr_ex e a) (drAll_ex e b)
end
theorem Paired.imp {α β : Type} {F G : α → β → Prop} (f : ∀ a b, F a b → G a b) : ∀ {l : List α} {m : List β}, Paired F l m → Paired G l m
  | _, _, .nil => .nil
  | _, _, .cons a b => .cons (f _ _ a) (Paired.imp f b)
section
variable {K : PySem.W.Frag} {H H' Hb Hb' Hf : Hp} {v : V} {d : D} {p : Addr} {o : HO}
theorem Ob.ex (e : Ex Hb Hb') (h : Ob K Hb o d) : Ob K Hb' o d := by
  cases h with
  | lst a => exact .lst (drAll_ex e a)
  | dK a => exact .dK (Paired.imp (fun _ _ q => ⟨q.1, dr_ex e q.2⟩) a)
  | dT a => exact .dT (Paired.imp (fun _ _ q => ⟨q.1, dr_ex e q.2⟩) a)
theorem Ow.ex (eb : Ex Hb Hb') (e : Ex H H') (h : Ow K Hb H p d) : Ow K Hb' H' p d := by
  obtain ⟨o, h1, h2⟩ := h
  exact ⟨o, e _ _ h1, h2.ex eb⟩
theorem Bo.ex (eb : Ex Hb Hb') (e : Ex H H') (h : Bo K Hb H v d) : Bo K Hb' H' v d := by
  rcases h with h | ⟨p, h1, h2⟩
  · exact .inl (dr_ex eb h)
  · exact .inr ⟨p, h1, h2.ex eb e⟩
theorem drAll_len : ∀ {ds : List D} {vs : List V}, DrAll K H vs ds → vs.length = ds.length
  | _, _, .nil => rfl
  | _, _, .cons _ b => by
    have := drAll_len b
    simp [this]
theorem drAll_get : ∀ {ds : List D} {vs : List V} {i : Nat} {v : V}, DrAll K H vs ds → vs[i]? = some v → ∃ d, ds[i]? = some d ∧ Dr K H v d
  | _, _, _, _, .nil, e => by simp at e
  | _, _, 0, _, .cons a _, e => by
    simp at e
    subst e
    exact ⟨_, rfl, a⟩
  | _, _, i + 1, _, .cons _ b, e => by
    obtain ⟨d, h1, h2⟩ := drAll_get (i := i) b (by simpa using e)
    exact ⟨d, by simpa using h1, h2⟩
theorem drAll_get' : ∀ {ds : List D} {vs : List V} {i : Nat} {d : D}, DrAll K H vs ds → ds[i]? = some d → ∃ v, vs[i]? = some v ∧ Dr K H v d
  | _, _, _, _, .nil, e => by simp at e
  | _, _, 0, _, .cons a _, e => by
    simp at e
    subst e
    exact ⟨_, rfl, a⟩
  | _, _, i + 1, _, .cons _ b, e => by
    obtain ⟨d, h1, h2⟩ := drAll_get' (i := i) b (by simpa using e)
    exact ⟨d, by simpa using h1, h2⟩
theorem drAll_app : ∀ {ds es : List D} {vs us : List V}, DrAll K H vs ds → DrAll K H us es → DrAll K H (vs ++ us) (ds ++ es)
  | _, _, _, _, .nil, s => s
  | _, _, _, _, .cons a b, s => .cons a (drAll_app b s)
theorem drAll_take : ∀ {ds : List D} {vs : List V} (n : Nat), DrAll K H vs ds → DrAll K H (vs.take n) (ds.take n)
  | _, _, 0, _ => .nil
  | _, _, _ + 1, .nil => .nil
  | _, _, n + 1, .cons a b => .cons a (drAll_take n b)
theorem drAll_drop : ∀ {ds : List D} {vs : List V} (n : Nat), DrAll K H vs ds → DrAll K H (vs.drop n) (ds.drop n)
  | _, _, 0, h => h
  | _, _, _ + 1, .nil => .nil
  | _, _, n + 1, .cons _ b => drAll_drop n b
theorem drAll_set : ∀ {ds : List D} {vs : List V} (n : Nat) {v : V} {d : D}, Dr K H v d → DrAll K H vs ds → DrAll K H (vs.set n v) (ds.set n d)
  | _, _, _, _, _, _, .nil => .nil
  | _, _, 0, _, _, h, .cons _ b => .cons h b
  | _, _, n + 1, _, _, h, .cons a b => .cons a (drAll_set n h b)
theorem drAll_rev : ∀ {ds : List D} {vs : List V}, DrAll K H vs ds → DrAll K H vs.reverse ds.reverse
  | _, _, .nil => .nil
  | _, _, .cons a b => by
    rw [List.reverse_cons, List.reverse_cons]
    exact drAll_app (drAll_rev b) (.cons a .nil)
theorem drAll_dropLast : ∀ {ds : List D} {vs : List V}, DrAll K H vs ds → DrAll K H vs.dropLast ds.dropLast
  | _, _, .nil => .nil
  | _, _, .cons _ .nil => .nil
  | _, _, .cons a (.cons b c) => .cons a (drAll_dropLast (.cons b c))

/-- an object that may be one's own: there, and no plain tuple -/
def NT : Option HO → Prop
  | none => False
  | some (.tup _) => False
  | some _ => True
theorem Ob.nt {K : PySem.W.Frag} {Hb : Hp} {o : HO} {d : D} (h : Ob K Hb o d) : NT (some o) := by cases h <;> exact True.intro
theorem Ow.nt {K : PySem.W.Frag} {Hb H : Hp} {p : Addr} {d : D} (h : Ow K Hb H p d) : NT (H p) := by
  obtain ⟨o, q, h⟩ := h
  rw [q]
  exact h.nt
/-- the heap goes on: all stays, what is fixed grows, and by new objects alone -/
structure Gw (Hb H Hb' H' : Hp) : Prop where
  h : Ex H H'
  b : Ex Hb Hb'
  bh : Ex Hb' H'
  nw : ∀ a, Hb a = none → NT (H a) → Hb' a = none
theorem Gw.refl (e : Ex Hb H) : Gw Hb H Hb H := ⟨Ex.refl _, Ex.refl _, e, fun _ h _ => h⟩
theorem ex_ne {H H' : Hp} (e : Ex H H') {a : Addr} (h : NT (H a)) : NT (H' a) := by
  cases q : H a with
  | none =>
    rw [q] at h
    exact h.elim
  | some o =>
    rw [e a o q]
    rw [q] at h
    exact h
theorem Gw.trans {Hb H Hb1 H1 Hb2 H2 : Hp} (g : Gw Hb H Hb1 H1) (k : Gw Hb1 H1 Hb2 H2) : Gw Hb H Hb2 H2 :=
  ⟨g.h.trans k.h, g.b.trans k.b, k.bh, fun a h1 h2 => k.nw a (g.nw a h1 h2) (ex_ne g.h h2)⟩
theorem upd_none {H : Hp} {a p : Addr} {o : HO} (h : upd H p o a = none) : a ≠ p ∧ H a = none := by
  by_cases e : a = p
  · subst e
    rw [upd_same] at h
    cases h
  · rw [upd_ne e] at h
    exact ⟨e, h⟩
/-- a new object, fixed at once -/
theorem Gw.fix (e : Ex Hb H) (h : H p = none) : Gw Hb H (upd Hb p o) (upd H p o) where
  h := Ex.new h
  b := Ex.new (fresh_back e h)
  bh := fun a u q => by
    by_cases z : a = p
    · subst z
      rw [upd_same] at q ⊢
      exact q
    · rw [upd_ne z] at q ⊢
      exact e a u q
  nw := fun a h1 h2 => by
    have z : a ≠ p := fun z => by
      subst z
      rw [h] at h2
      exact h2
    rw [upd_ne z]
    exact h1
/-- a new object of one's own -/
theorem Gw.new (e : Ex Hb H) (h : H p = none) : Gw Hb H Hb (upd H p o) :=
  ⟨Ex.new h, Ex.refl _, e.trans (Ex.new h), fun _ h1 _ => h1⟩
end

/-! ### environments -/
/-- a slot that holds a handled exception: where it stands -/
abbrev Pn := Option (Nat × Addr)
structure RelE (K : PySem.W.Frag) (pn : Pn) (Hf Hb H : Hp) (σ : L2.St) (ρ : Env) : Prop where
  ef : Ex Hf H
  eb : Ex Hb H
  len : σ.length = ρ.length
  dat : ∀ (i : Nat) d, ρ[i]? = some (.dat d) → ∃ v, σ[i]? = some (some v) ∧ Dr K Hb v d
  bor : ∀ (i : Nat) d, ρ[i]? = some (.bor d) → ∃ v, σ[i]? = some (some v) ∧ (Dr K Hb v d ∨ ∃ p, v = .ref p ∧ Ow K Hb H p d ∧ ∀ (j : Nat) e, ρ[j]? = some (.own e) → σ[j]? ≠ some (some (.ref p)))
  own : ∀ (i : Nat) d, ρ[i]? = some (.own d) → ∃ p, σ[i]? = some (some (.ref p)) ∧ Ow K Hb H p d ∧ Hf p = none ∧ Hb p = none
  sep : ∀ (i j : Nat) d e, ρ[i]? = some (.own d) → i ≠ j → ρ[j]? = some (.own e) → σ[i]? ≠ σ[j]?
  pin : ∀ (i : Nat) a, pn = some (i, a) → σ[i]? = some (some (.ref a))
/-- slot i holds no handled exception -/
abbrev PnOff (pn : Pn) (i : Nat) : Prop := ∀ a, pn ≠ some (i, a)
section
variable {pn : Pn} {K : PySem.W.Frag} {H H' Hb Hb' Hf H0 Hb0 : Hp} {v : V} {d : D} {p : Addr} {o : HO} {σ : L2.St} {ρ : Env} {i : Nat}
theorem RelE.gw (R : RelE K pn Hf Hb H σ ρ) (g : Gw Hb H Hb' H') : RelE K pn Hf Hb' H' σ ρ where
  ef := R.ef.trans g.h
  eb := g.bh
  len := R.len
  dat := fun i d h => by
    obtain ⟨v, h1, h2⟩ := R.dat i d h
    exact ⟨v, h1, dr_ex g.b h2⟩
  bor := fun i d h => by
    obtain ⟨v, h1, h2⟩ := R.bor i d h
    refine ⟨v, h1, ?_⟩
    rcases h2 with h2 | ⟨p, e1, e2, e3⟩
    · exact .inl (dr_ex g.b h2)
    · exact .inr ⟨p, e1, e2.ex g.b g.h, e3⟩
  own := fun i d h => by
    obtain ⟨p, h1, h2, h3, h4⟩ := R.own i d h
    exact ⟨p, h1, h2.ex g.b g.h, h3, g.nw p h4 h2.nt⟩
  sep := R.sep
  pin := R.pin
theorem getset_dat {ρ : Env} {i j : Nat} {s t : Sl} (h : (ρ.set i s)[j]? = some t) : (j = i ∧ t = s) ∨ (j ≠ i ∧ ρ[j]? = some t) := by
  by_cases e : i = j
  · subst e
    rw [List.getElem?_set] at h
    simp at h
    exact .inl ⟨rfl, h.2.symm⟩
  · rw [List.getElem?_set_ne e] at h
    exact .inr ⟨fun z => e z.symm, h⟩
theorem setget {σ : L2.St} {i j : Nat} {x : Option V} (h : j ≠ i) : (σ.set i x)[j]? = σ[j]? := List.getElem?_set_ne (fun z => h z.symm)
theorem setself {σ : L2.St} {i : Nat} {x : Option V} (h : i < σ.length) : (σ.set i x)[i]? = some x := List.getElem?_set_self h
theorem lt_of_set {ρ : Env} {i : Nat} {s t : Sl} (h : (ρ.set i s)[i]? = some t) : i < ρ.length := by
  have := (List.getElem?_eq_some_iff.mp h).1
  simpa using this
/-- a slot is stored: nothing of one's own -/
theorem RelE.setX {x : Option V} {s : Sl} (R : RelE K pn Hf Hb H σ ρ) (ho : PnOff pn i) (h : s = .un ∨ ∃ v d, x = some v ∧ s = .dat d ∧ Dr K Hb v d) : RelE K pn Hf Hb H (σ.set i x) (ρ.set i s) where
  ef := R.ef
  eb := R.eb
  len := by simp [R.len]
  dat := fun j e q => by
    rcases getset_dat q with ⟨rfl, z⟩ | ⟨z, q'⟩
    · rcases h with h | ⟨v, d, h1, h2, h3⟩
      · rw [h] at z
        cases z
      · rw [h2] at z
        cases z
        subst h1
        exact ⟨v, setself (by rw [R.len]; exact lt_of_set q), h3⟩
    · rw [setget z]
      exact R.dat j e q'
  bor := fun j e q => by
    rcases getset_dat q with ⟨_, z⟩ | ⟨z, q'⟩
    · rcases h with h | ⟨v, d, h1, h2, h3⟩
      · rw [h] at z
        cases z
      · rw [h2] at z
        cases z
    · rw [setget z]
      obtain ⟨v, h1, h2⟩ := R.bor j e q'
      refine ⟨v, h1, ?_⟩
      rcases h2 with h2 | ⟨p, e1, e2, e3⟩
      · exact .inl h2
      · refine .inr ⟨p, e1, e2, fun k f hk => ?_⟩
        rcases getset_dat hk with ⟨_, z2⟩ | ⟨z2, q2⟩
        · rcases h with h | ⟨v, d, h1, h2, h3⟩
          · rw [h] at z2
            cases z2
          · rw [h2] at z2
            cases z2
        · rw [setget z2]
          exact e3 k f q2
  own := fun j e q => by
    rcases getset_dat q with ⟨_, z⟩ | ⟨z, q'⟩
    · rcases h with h | ⟨v, d, h1, h2, h3⟩
      · rw [h] at z
        cases z
      · rw [h2] at z
        cases z
    · rw [setget z]
      exact R.own j e q'
  sep := fun j k e f q ne q2 => by
    have no : ∀ (m : Nat) t, (ρ.set i s)[m]? = some (.own t) → m ≠ i ∧ ρ[m]? = some (.own t) := fun m t hm => by
      rcases getset_dat hm with ⟨_, z⟩ | ⟨z, q'⟩
      · rcases h with h | ⟨v, d, h1, h2, h3⟩
        · rw [h] at z
          cases z
        · rw [h2] at z
          cases z
      · exact ⟨z, q'⟩
    obtain ⟨j1, j2⟩ := no j e q
    obtain ⟨k1, k2⟩ := no k f q2
    rw [setget j1, setget k1]
    exact R.sep j k e f j2 ne k2
  pin := fun j a q => by
    rw [setget (fun z => ho a (by rw [← z]; exact q))]
    exact R.pin j a q
theorem RelE.setDat (R : RelE K pn Hf Hb H σ ρ) (ho : PnOff pn i) (h : Dr K Hb v d) : RelE K pn Hf Hb H (σ.set i (some v)) (ρ.set i (.dat d)) := R.setX ho (.inr ⟨v, d, rfl, rfl, h⟩)
theorem RelE.setUn {x : Option V} (R : RelE K pn Hf Hb H σ ρ) (ho : PnOff pn i) : RelE K pn Hf Hb H (σ.set i x) (ρ.set i .un) := R.setX ho (.inl rfl)
/-- a slot is stored: a new object of one's own -/
theorem RelE.setNew (R : RelE K pn Hf Hb0 H0 σ ρ) (ho : PnOff pn i) (g : Gw Hb0 H0 Hb H) (h0 : H0 p = none) (hb : Hb p = none) (h : Ow K Hb H p d) : RelE K pn Hf Hb H (σ.set i (some (.ref p))) (ρ.set i (.own d)) := by
  have R1 := R.gw g
  have key : ∀ (m : Nat) t, (ρ.set i (.own d))[m]? = some t → (m = i ∧ t = .own d ∧ (σ.set i (some (.ref p)))[m]? = some (some (.ref p))) ∨ (m ≠ i ∧ ρ[m]? = some t ∧ (σ.set i (some (V.ref p)))[m]? = σ[m]?) := fun m t qq => by
    rcases getset_dat qq with ⟨rfl, z⟩ | ⟨z, q'⟩
    · exact .inl ⟨rfl, z, setself (by rw [R.len]; exact lt_of_set qq)⟩
    · exact .inr ⟨z, q', setget z⟩
  have oth : ∀ (q : Addr) e, Ow K Hb0 H0 q e → q ≠ p := fun q e ⟨o, ho, _⟩ => ne_of_none ho h0
  refine ⟨R1.ef, R1.eb, by simp [R.len], fun j e q => ?_, fun j e q => ?_, fun j e q => ?_, fun j k e f q ne q2 => ?_, fun j a q => by rw [setget (fun z => ho a (by rw [← z]; exact q))]; exact R.pin j a q⟩
  · rcases key j _ q with ⟨_, z, _⟩ | ⟨_, j2, j3⟩
    · cases z
    · rw [j3]
      exact R1.dat j e j2
  · rcases key j _ q with ⟨_, z, _⟩ | ⟨_, j2, j3⟩
    · cases z
    · rw [j3]
      obtain ⟨v, h1, h2⟩ := R.bor j e j2
      refine ⟨v, h1, ?_⟩
      rcases h2 with h2 | ⟨a, e1, e2, e3⟩
      · exact .inl (dr_ex g.b h2)
      · refine .inr ⟨a, e1, e2.ex g.b g.h, fun k f hk => ?_⟩
        rcases key k _ hk with ⟨_, _, k3⟩ | ⟨_, k2, k3⟩
        · rw [k3]
          intro z
          cases z
          exact oth _ _ e2 rfl
        · rw [k3]
          exact e3 k f k2
  · rcases key j _ q with ⟨_, z, j3⟩ | ⟨_, j2, j3⟩
    · cases z
      rw [j3]
      exact ⟨p, rfl, h, fresh_back R.ef h0, hb⟩
    · rw [j3]
      exact R1.own j e j2
  · have ow : ∀ (m : Nat) t, ρ[m]? = some (.own t) → σ[m]? ≠ some (some (V.ref p)) := fun m t hm z => by
      obtain ⟨a, a1, a2, _⟩ := R.own m t hm
      rw [z] at a1
      cases a1
      exact oth _ _ a2 rfl
    rcases key j _ q with ⟨j1, _, j3⟩ | ⟨j1, j2, j3⟩
    · rcases key k _ q2 with ⟨k1, _, k3⟩ | ⟨k1, k2, k3⟩
      · exact absurd (j1.trans k1.symm) ne
      · rw [j3, k3]
        exact fun z => ow k f k2 z.symm
    · rcases key k _ q2 with ⟨k1, _, k3⟩ | ⟨k1, k2, k3⟩
      · rw [j3, k3]
        exact ow j e j2
      · rw [j3, k3]
        exact R.sep j k e f j2 ne k2
/-- an object of one's own is changed -/
theorem RelE.write (R : RelE K pn Hf Hb H σ ρ) (hi : ρ[i]? = some (.own d)) (hv : σ[i]? = some (some (.ref p))) {o' : HO} {d' : D} (h : Ob K Hb o' d') : RelE K pn Hf Hb (upd H p o') σ (ρ.set i (.own d')) := by
  obtain ⟨q, h1, h2, h3, h4⟩ := R.own i d hi
  rw [hv] at h1
  cases h1
  have ne : ∀ a o, Hf a = some o → a ≠ p := fun a o e => ne_of_none e h3
  have nb : ∀ a o, Hb a = some o → a ≠ p := fun a o e => ne_of_none e h4
  have key : ∀ (m : Nat) t, (ρ.set i (.own d'))[m]? = some t → (m = i ∧ t = .own d') ∨ (m ≠ i ∧ ρ[m]? = some t) := fun m t qq => getset_dat qq
  refine ⟨fun a o e => by rw [upd_ne (ne a o e)]; exact R.ef a o e, fun a o e => by rw [upd_ne (nb a o e)]; exact R.eb a o e, by simp [R.len], fun j e q => ?_, fun j e q => ?_, fun j e q => ?_, fun j k e f q nn q2 => ?_, R.pin⟩
  · rcases key j _ q with ⟨_, z⟩ | ⟨z, q'⟩
    · cases z
    · exact R.dat j e q'
  · rcases key j _ q with ⟨_, z⟩ | ⟨z, q'⟩
    · cases z
    · obtain ⟨v, v1, v2⟩ := R.bor j e q'
      refine ⟨v, v1, ?_⟩
      rcases v2 with v2 | ⟨a, a1, ⟨o, a2, a3⟩, a4⟩
      · exact .inl v2
      · have nap : a ≠ p := fun z2 => by
          subst z2
          exact a4 i d hi hv
        refine .inr ⟨a, a1, ⟨o, by rw [upd_ne nap]; exact a2, a3⟩, fun k f hk => ?_⟩
        rcases key k _ hk with ⟨z2, _⟩ | ⟨_, q2⟩
        · rw [z2, hv]
          intro z3
          cases z3
          exact nap rfl
        · exact a4 k f q2
  · rcases key j _ q with ⟨z, z2⟩ | ⟨z, q'⟩
    · cases z2
      subst z
      exact ⟨p, hv, ⟨o', upd_same, h⟩, h3, h4⟩
    · obtain ⟨a, a1, ⟨o, a2, a3⟩, a4, a5⟩ := R.own j e q'
      refine ⟨a, a1, ⟨o, ?_, a3⟩, a4, a5⟩
      rw [upd_ne ?_]
      · exact a2
      · intro z2
        subst z2
        exact R.sep j i e d q' z hi (by rw [a1, hv])
  · rcases key j _ q with ⟨z, _⟩ | ⟨z, q'⟩
    · rcases key k _ q2 with ⟨z2, _⟩ | ⟨z2, q2'⟩
      · exact absurd (z.trans z2.symm) nn
      · rw [z]
        exact R.sep i k d f hi (fun w => z2 w.symm) q2'
    · rcases key k _ q2 with ⟨z2, _⟩ | ⟨z2, q2'⟩
      · rw [z2]
        exact R.sep j i e d q' z hi
      · exact R.sep j k e f q' nn q2'
end
end DL

/-! DL2: judgements at the data level, expressions. -/
namespace DL
open PySem L2 Evl

/-! ### results -/
inductive Kd where
  | dat | new | bor | io (p : Addr)
/-- kinds of arguments -/
def Kd.arg : Kd → Bool
  | .io _ => false
  | _ => true
def Rs (K : PySem.W.Frag) (kd : Kd) (H0 Hb H : Hp) (v : V) (d : D) : Prop := match kd with
  | .dat => Dr K Hb v d
  | .new => ∃ p, v = .ref p ∧ H0 p = none ∧ Hb p = none ∧ Ow K Hb H p d
  | .bor => Bo K Hb H v d
  | .io p => ∃ d0 c, d = .tuple [d0, c] ∧ Dr K Hb v d0 ∧ H0 p = none ∧ Hb p = none ∧ Ow K Hb H p c
/-- what becomes of exceptions; the slot of a handled one -/
structure WQ where
  w : WX
  pin : Pn
/-- what an expression's data-level meaning m promises -/
def eOf (K : PySem.W.Frag) (W : WQ) (kd : Kd) (m : EM) : TE := fun σ H Q => ∃ (Hf Hb : Hp) (ρ : Env), RelE K W.pin Hf Hb H σ ρ ∧
  (∀ d, m ρ = .ok d → ∀ v Hb' H', Gw Hb H Hb' H' → Rs K kd H Hb' H' v d → Q v H') ∧
  (∀ c, m ρ = .ex c → ∀ Hb' H', Gw Hb H Hb' H' → W.w (.ref (He.ga K c)) none σ H') ∧ m ρ ≠ .bad
abbrev DE (X : Cx) (W : WQ) (kd : Kd) (e : Expr) (m : EM) : Prop := PE X e (eOf X.K W kd m)
theorem PE.imp {X : Cx} {e : Expr} {t t' : TE} (h : PE X e t) (i : ∀ σ H Q, t' σ H Q → t σ H Q) : PE X e t' := ⟨fun pins s σ H Q I q => h.run pins s σ H Q I (i σ H Q q)⟩
theorem PT.imp {X : Cx} {e : Expr} {t t' : TT} (h : PT X e t) (i : ∀ σ H Q, t' σ H Q → t σ H Q) : PT X e t' := ⟨fun pins s σ H Q I q => h.run pins s σ H Q I (i σ H Q q)⟩
theorem PW.imp {X : Cx} {e : Expr} {t t' : TT} (h : PW X e t) (i : ∀ σ H Q, t' σ H Q → t σ H Q) : PW X e t' := ⟨fun whole pins s σ H Q I q => h.run whole pins s σ H Q I (i σ H Q q)⟩
theorem PS.imp {X : Cx} {e : Stmt} {t t' : TS} (h : PS X e t) (i : ∀ D σ H, t' D σ H → t D σ H) : PS X e t' := ⟨fun pins s σ H D I q => h.run pins s σ H D I (i D σ H q)⟩
theorem PSs.imp {X : Cx} {e : List Stmt} {t t' : TS} (h : PSs X e t) (i : ∀ D σ H, t' D σ H → t D σ H) : PSs X e t' := ⟨fun pins s σ H D I q => h.run pins s σ H D I (i D σ H q)⟩

section
variable {K : PySem.W.Frag} {W : WQ} {kd : Kd} {m ma mb : EM} {σ : L2.St} {H H' Hb Hb' Hf : Hp} {Q : VK} {v : V} {d : D} {ρ : Env}
theorem Rs.dat_bor (h : Rs K .dat H Hb H' v d) : Rs K .bor H Hb H' v d := .inl h
theorem Rs.new_bor (h : Rs K .new H Hb H' v d) : Rs K .bor H Hb H' v d := by
  obtain ⟨p, h1, _, _, h4⟩ := h
  exact .inr ⟨p, h1, h4⟩
theorem Bo.int (h : Bo K Hb H v (.int i)) : v = .int i := by
  rcases h with h | ⟨p, _, o, _, h⟩
  · cases h
    rfl
  · cases h
theorem Bo.str (h : Bo K Hb H v (.str i)) : v = .str i := by
  rcases h with h | ⟨p, _, o, _, h⟩
  · cases h
    rfl
  · cases h
theorem Bo.bl (h : Bo K Hb H v (.bool i)) : v = .bl i := by
  rcases h with h | ⟨p, _, o, _, h⟩
  · cases h
    rfl
  · cases h
theorem Bo.non (h : Bo K Hb H v .none) : v = .non := by
  rcases h with h | ⟨p, _, o, _, h⟩
  · cases h
    rfl
  · cases h
theorem Bo.lst {ds : List D} (e : Ex Hb H) (h : Bo K Hb H v (.list ds)) : ∃ p xs, v = .ref p ∧ SqL K H p xs ∧ DrAll K Hb xs ds := by
  rcases h with h | ⟨p, h1, o, h2, h3⟩
  · cases h with
    | lst a b => exact ⟨_, _, rfl, ex_l e a, b⟩
  · cases h3 with
    | lst a => exact ⟨p, _, h1, .inl (.inl h2), a⟩
theorem Bo.tup {ds : List D} (e : Ex Hb H) (h : Bo K Hb H v (.tuple ds)) : ∃ p xs, v = .ref p ∧ SqT K H p xs ∧ DrAll K Hb xs ds := by
  rcases h with h | ⟨p, h1, o, h2, h3⟩
  · cases h with
    | tup a b => exact ⟨_, _, rfl, .inl (.inl (e _ _ a)), b⟩
  · cases h3
theorem Bo.dp (e : Ex Hb H) (h : Bo K Hb H v d) (hd : d.canLay0 = true) : Dp K H v d := by
  rcases h with h | ⟨p, h1, o, h2, h3⟩
  · exact (dr_ex e h).dp hd
  · cases h3 with
    | lst a =>
      subst h1
      exact .lst (.inl (.inl h2)) ((drAll_ex e a).dp (by simpa [PyData.canLay0] using hd))
    | dK a => simp [PyData.canLay0] at hd
    | dT a => simp [PyData.canLay0] at hd
/-- a new list or tuple is fixed at once -/
theorem Gw.tup {p : Addr} {xs : List V} {ds : List D} (e : Ex Hb H) (h : H p = none) (a : DrAll K Hb xs ds) : Gw Hb H (upd Hb p (.tup xs)) (upd H p (.tup xs)) ∧ Dr K (upd Hb p (.tup xs)) (.ref p) (.tuple ds) :=
  ⟨Gw.fix e h, .tup upd_same (drAll_ex (Ex.new (fresh_back e h)) a)⟩
theorem Gw.lst {p : Addr} {xs : List V} {ds : List D} (e : Ex Hb H) (h : H p = none) (a : DrAll K Hb xs ds) : Gw Hb H (upd Hb p (.lst xs)) (upd H p (.lst xs)) ∧ Dr K (upd Hb p (.lst xs)) (.ref p) (.list ds) :=
  ⟨Gw.fix e h, .lst (.inl (.inl upd_same)) (drAll_ex (Ex.new (fresh_back e h)) a)⟩
theorem Gw.lstN {p : Addr} {xs : List V} {ds : List D} (e : Ex Hb H) (h : H p = none) (a : DrAll K Hb xs ds) : Gw Hb H Hb (upd H p (.lst xs)) ∧ Rs K .new H Hb (upd H p (.lst xs)) (.ref p) (.list ds) :=
  ⟨Gw.new e h, p, rfl, h, fresh_back e h, _, upd_same, .lst a⟩
/-- an object of one's own becomes fixed -/
theorem Gw.frz {p : Addr} {o : HO} (g : Gw Hb H Hb' H') (h0 : H p = none) (hb : Hb' p = none) (ho : H' p = some o) : Gw Hb H (upd Hb' p o) H' where
  h := g.h
  b := g.b.trans (Ex.new hb)
  bh := fun a u q => by
    by_cases z : a = p
    · subst z
      rw [upd_same] at q
      rw [← q]
      exact ho
    · rw [upd_ne z] at q
      exact g.bh a u q
  nw := fun a h1 h2 => by
    have z : a ≠ p := fun z => by
      subst z
      rw [h0] at h2
      exact h2
    rw [upd_ne z]
    exact g.nw a h1 h2
theorem Rs.frz {ds : List D} (g : Gw Hb H Hb' H') (h : Rs K .new H Hb' H' v (.list ds)) : ∃ Hb2, Gw Hb H Hb2 H' ∧ Dr K Hb2 v (.list ds) := by
  obtain ⟨p, rfl, h0, hb, o, ho, hc⟩ := h
  cases hc with
  | lst a => exact ⟨_, g.frz h0 hb ho, .lst (.inl (.inl upd_same)) (drAll_ex (Ex.new hb) a)⟩
end

section
variable {X : Cx} {W : WQ} {kd : Kd} {e : Expr} {m : EM}
theorem de_bor (h : DE X W .dat e m) : DE X W .bor e m := PE.imp h fun σ H Q ⟨Hf, Hb, ρ, R, h1, h2, h3⟩ => ⟨Hf, Hb, ρ, R, fun d hd v Hb' H' g r => h1 d hd v Hb' H' g (.inl r), h2, h3⟩
theorem de_nbor (h : DE X W .new e m) : DE X W .bor e m := PE.imp h fun σ H Q ⟨Hf, Hb, ρ, R, h1, h2, h3⟩ => ⟨Hf, Hb, ρ, R, fun d hd v Hb' H' g r => h1 d hd v Hb' H' g r.new_bor, h2, h3⟩
/-- only lists are frozen -/
def eFrz (m : EM) : EM := fun ρ => (m ρ).bind fun d => match d with
  | .list ds => .ok (.list ds)
  | _ => .bad
theorem de_frz (h : DE X W .new e m) : DE X W .dat e (eFrz m) := PE.imp h fun σ H Q ⟨Hf, Hb, ρ, R, h1, h2, h3⟩ => by
  refine ⟨Hf, Hb, ρ, R, fun d hd v Hb' H' g r => ?_, fun c hc => h2 c (by simp [eFrz, hc, ER.bind]), fun z => h3 (by simp [eFrz, z, ER.bind])⟩
  cases d with
  | list ds =>
    obtain ⟨Hb2, g2, r2⟩ := Rs.frz g r
    exact h1 _ (by simp [eFrz, hd, ER.bind]) v Hb2 H' g2 r2
  | _ => exact absurd (by simp [eFrz, hd, ER.bind]) h3

/-! ### names, constants -/
def eVar (i : Nat) : EM := fun ρ => match ρ[i]? with
  | some (.dat d) => .ok d
  | some (.own d) => .ok d
  | some (.bor d) => .ok d
  | _ => .bad
def eVarD (i : Nat) : EM := fun ρ => match ρ[i]? with
  | some (.dat d) => .ok d
  | _ => .bad
def eC (d : D) : EM := fun _ => .ok d
theorem de_v (i : Nat) {x : Str} {pos : Pos} (hN : X.N[i]? = some x := by rfl) (hv : Vis X.env.scope x := by first | exact Or.inl rfl | exact Or.inr (Or.inl rfl) | exact Or.inr (Or.inr rfl)) (hd : (x == ("__debug__" : Str)) = false := by decide)
    (hcd : (x == ("__classdict__" : Str)) = false := by decide) : DE X W .bor (.Name x pos) (eVar i) := PE.imp (pe_var hN hv hd hcd) fun σ H Q ⟨Hf, Hb, ρ, R, h1, h2, h3⟩ => by
  cases e : ρ[i]? with
  | none => exact absurd (by simp [eVar, e]) h3
  | some s =>
    cases s with
    | un => exact absurd (by simp [eVar, e]) h3
    | dat d =>
      obtain ⟨v, a, b⟩ := R.dat i d e
      exact ⟨v, a, h1 d (by simp [eVar, e]) v Hb H (Gw.refl R.eb) (.inl b)⟩
    | bor d =>
      obtain ⟨v, a, b⟩ := R.bor i d e
      refine ⟨v, a, h1 d (by simp [eVar, e]) v Hb H (Gw.refl R.eb) ?_⟩
      rcases b with b | ⟨p, b1, b2, _⟩
      · exact .inl b
      · exact .inr ⟨p, b1, b2⟩
    | own d =>
      obtain ⟨p, a, b, _⟩ := R.own i d e
      exact ⟨_, a, h1 d (by simp [eVar, e]) _ Hb H (Gw.refl R.eb) (.inr ⟨p, rfl, b⟩)⟩
theorem de_vd (i : Nat) {x : Str} {pos : Pos} (hN : X.N[i]? = some x := by rfl) (hv : Vis X.env.scope x := by first | exact Or.inl rfl | exact Or.inr (Or.inl rfl) | exact Or.inr (Or.inr rfl)) (hd : (x == ("__debug__" : Str)) = false := by decide)
    (hcd : (x == ("__classdict__" : Str)) = false := by decide) : DE X W .dat (.Name x pos) (eVarD i) := PE.imp (pe_var hN hv hd hcd) fun σ H Q ⟨Hf, Hb, ρ, R, h1, h2, h3⟩ => by
  cases e : ρ[i]? with
  | none => exact absurd (by simp [eVarD, e]) h3
  | some s =>
    cases s with
    | un => exact absurd (by simp [eVarD, e]) h3
    | dat d =>
      obtain ⟨v, a, b⟩ := R.dat i d e
      exact ⟨v, a, h1 d (by simp [eVarD, e]) v Hb H (Gw.refl R.eb) b⟩
    | bor d => exact absurd (by simp [eVarD, e]) h3
    | own d => exact absurd (by simp [eVarD, e]) h3
theorem de_const {v : V} {d : D} (h : PE X e (tC v)) (hr : ∀ K H, Dr K H v d) : DE X W .dat e (eC d) := PE.imp h fun σ H Q ⟨Hf, Hb, ρ, R, h1, h2, h3⟩ => h1 d rfl v Hb H (Gw.refl R.eb) (hr _ _)
theorem de_int {i j pos} : DE X W .dat (.Constant (.int i) j pos) (eC (.int i)) := de_const pe_int fun _ _ => .int i
theorem de_bl {i j pos} : DE X W .dat (.Constant (.bool i) j pos) (eC (.bool i)) := de_const pe_bl fun _ _ => .bl i
theorem de_str {i j pos} : DE X W .dat (.Constant (.str i) j pos) (eC (.str i)) := de_const pe_str fun _ _ => .str i
theorem de_non {j pos} : DE X W .dat (.Constant .none j pos) (eC .none) := de_const pe_non fun _ _ => .non
theorem de_gint {x : Str} {i : Int} {pos : Pos} (hm : ∃ t, X.mg x = some (.int i t)) (hg : Gl X x := by rfl) (hd : (x == ("__debug__" : Str)) = false := by decide) : DE X W .dat (.Name x pos) (eC (.int i)) := by
  obtain ⟨t, hm⟩ := hm
  exact de_const (v := .int i) (pe_glob hg hm ⟨t, rfl⟩ hd) fun _ _ => .int i
theorem de_gstr {x z : Str} {pos : Pos} (hm : ∃ t, X.mg x = some (.str z t)) (hg : Gl X x := by rfl) (hd : (x == ("__debug__" : Str)) = false := by decide) : DE X W .dat (.Name x pos) (eC (.str z)) := by
  obtain ⟨t, hm⟩ := hm
  exact de_const (v := .str z) (pe_glob hg hm ⟨t, rfl⟩ hd) fun _ _ => .str z
end

/-! ### two-place operations -/
def rOf (K : PySem.W.Frag) (kd : Kd) (g : D → D → ER) : R2 := fun x y H Q => ∃ Hb dx dy d, Ex Hb H ∧ Bo K Hb H x dx ∧ Bo K Hb H y dy ∧ g dx dy = .ok d ∧ ∀ v Hb' H', Gw Hb H Hb' H' → Rs K kd H Hb' H' v d → Q v H'
abbrev OpD (X : Cx) (f : Value → Value → Sem Value) (kd : Kd) (g : D → D → ER) : Prop := OpR X f (rOf X.K kd g)
def eBin (g : D → D → ER) (ma mb : EM) : EM := fun ρ => (ma ρ).bind fun x => (mb ρ).bind fun y => g x y
/-- an operation raises nothing -/
def NoEx2 (g : D → D → ER) : Prop := ∀ x y c, g x y ≠ .ex c
section
variable {K : PySem.W.Frag} {W : WQ} {kd : Kd} {ma mb : EM} {g : D → D → ER}
theorem Rs.back {H0 H1 Hb H : Hp} {v : V} {d : D} (e : Ex H0 H1) (h : Rs K kd H1 Hb H v d) : Rs K kd H0 Hb H v d := by
  cases kd with
  | dat => exact h
  | bor => exact h
  | new =>
    obtain ⟨p, h1, h2, h3⟩ := h
    exact ⟨p, h1, fresh_back e h2, h3⟩
  | io p =>
    obtain ⟨d0, c, h1, h2, h3, h4⟩ := h
    exact ⟨d0, c, h1, h2, fresh_back e h3, h4⟩
theorem eof_bin (ng : NoEx2 g) {σ : L2.St} {H : Hp} {Q : VK} (h : eOf K W kd (eBin g ma mb) σ H Q) : tOp (rOf K kd g) (eOf K W .bor ma) (eOf K W .bor mb) σ H Q := by
  obtain ⟨Hf, Hb, ρ, R, h1, h2, h3⟩ := h
  refine ⟨Hf, Hb, ρ, R, fun d hd v Hb1 H1 g1 r1 => ?_, fun c hc Hb1 H1 g1 => h2 c (by simp [eBin, hc, ER.bind]) Hb1 H1 g1, fun z => h3 (by simp [eBin, z, ER.bind])⟩
  refine ⟨Hf, Hb1, ρ, R.gw g1, fun d2 hd2 v2 Hb2 H2 g2 r2 => ?_, fun c hc Hb2 H2 g2 => h2 c (by simp [eBin, hd, hc, ER.bind]) Hb2 H2 (g1.trans g2), fun z => h3 (by simp [eBin, hd, z, ER.bind])⟩
  have e : eBin g ma mb ρ = g d d2 := by simp [eBin, hd, hd2, ER.bind]
  rw [e] at h1 h3
  cases q : g d d2 with
  | bad => exact absurd q h3
  | ex c => exact absurd q (ng _ _ _)
  | ok z => exact ⟨Hb2, d, d2, z, g2.bh, Bo.ex g2.b g2.h r1, r2, q, fun v Hb3 H3 g3 r3 => h1 z q v Hb3 H3 ((g1.trans g2).trans g3) (r3.back (g1.trans g2).h)⟩
end
section
variable {X : Cx} {W : WQ} {kd : Kd} {a b c : Expr} {ma mb mc : EM} {g g' : D → D → ER} {pos : Pos}
theorem de_bin {op : Operator} (ho : OpD X (binaryOp op) kd g) (ng : NoEx2 g) (ha : DE X W .bor a ma) (hb : DE X W .bor b mb) : DE X W kd (.BinOp a op b pos) (eBin g ma mb) := PE.imp (pe_op ho ha hb) fun _ _ _ => eof_bin ng
theorem de_cmp {op : CmpOp} (ho : OpD X (compareOp op) kd g) (ng : NoEx2 g) (ha : DE X W .bor a ma) (hb : DE X W .bor b mb) (hm : behindInMarks op b = false := by first | exact nomark _ | rfl) : DE X W kd (.Compare a [op] [b] pos) (eBin g ma mb) := PE.imp (pe_cmpR ho ha hb hm) fun _ _ _ => eof_bin ng
end

/-! the operations on data -/
def mulBits : Nat := 100000000
def dAdd : D → D → ER
  | .int i, .int j => .ok (.int (i + j))
  | .str i, .str j => if i.length + j.length ≤ sizeLine then .ok (.str (i ++ j)) else .bad
  | .tuple i, .tuple j => if i.length + j.length ≤ sizeLine then .ok (.tuple (i ++ j)) else .bad
  | .list i, .list j => if i.length + j.length ≤ sizeLine then .ok (.list (i ++ j)) else .bad
  | _, _ => .bad
def dSub : D → D → ER
  | .int i, .int j => .ok (.int (i - j))
  | _, _ => .bad
/-- a text so many times -/
def repS (x : Str) (n : Int) : Str := ⟨(List.replicate n.toNat x.cps).foldl (· ++ ·) #[]⟩
def dMul : D → D → ER
  | .int i, .int j => if i.natAbs.log2 + j.natAbs.log2 < mulBits then .ok (.int (i * j)) else .bad
  | .str x, .int n => if -(2 ^ 62) ≤ n ∧ n < 2 ^ 62 ∧ x.length * n.toNat ≤ sizeLine then .ok (.str (repS x n)) else .bad
  | _, _ => .bad
def dDiv : D → D → ER
  | .int i, .int j => if 0 < j ∧ j.natAbs.log2 < 9000 then .ok (.int (i / j)) else .bad
  | _, _ => .bad
def dMod : D → D → ER
  | .int i, .int j => if 0 < j then .ok (.int (i % j)) else .bad
  | _, _ => .bad
def dPow : D → D → ER
  | .int i, .int j => if 0 ≤ j ∧ j ≤ 1000000 ∧ i.natAbs < 2 ^ 64 then .ok (.int (i ^ j.toNat)) else .bad
  | _, _ => .bad
def dEq : D → D → ER
  | .str i, .str j => .ok (.bool (decide (i = j)))
  | x, y => if SeqAt.shaped x && SeqAt.shaped y then .ok (.bool (PyData.eqv x y)) else .bad
def dNe (x y : D) : ER := (dEq x y).bind fun z => match z with
  | .bool b => .ok (.bool (!b))
  | _ => .bad
def dLt : D → D → ER
  | .int i, .int j => .ok (.bool (decide (i < j)))
  | .str i, .str j => .ok (.bool (decide (i.cps.toList < j.cps.toList)))
  | _, _ => .bad
def dLe : D → D → ER
  | .int i, .int j => .ok (.bool (decide (i ≤ j)))
  | _, _ => .bad
def dGt : D → D → ER
  | .int i, .int j => .ok (.bool (decide (j < i)))
  | _, _ => .bad
def dGe : D → D → ER
  | .int i, .int j => .ok (.bool (decide (j ≤ i)))
  | _, _ => .bad
def dIs : D → D → ER
  | .none, .none => .ok (.bool true)
  | .bool i, .bool j => .ok (.bool (decide (i = j)))
  | .none, .bool _ => .ok (.bool false)
  | .int _, .bool _ => .ok (.bool false)
  | .bool _, .none => .ok (.bool false)
  | .int _, .none => .ok (.bool false)
  | .str _, .none => .ok (.bool false)
  | .list _, .none => .ok (.bool false)
  | .tuple _, .none => .ok (.bool false)
  | _, _ => .bad
def dIsNot (x y : D) : ER := (dIs x y).bind fun z => match z with
  | .bool b => .ok (.bool (!b))
  | _ => .bad
section
variable {X : Cx}
theorem shaped_nodict {d : D} (h : SeqAt.shaped d = true) : d.canLay0 = true := SeqAt.canLay_of_shaped h
theorem rs_int {K : PySem.W.Frag} {H0 Hb H : Hp} {i : Int} : Rs K .dat H0 Hb H (.int i) (.int i) := Dr.int i
theorem rs_bl {K : PySem.W.Frag} {H0 Hb H : Hp} {i : Bool} : Rs K .dat H0 Hb H (.bl i) (.bool i) := Dr.bl i
theorem rs_str {K : PySem.W.Frag} {H0 Hb H : Hp} {i : Str} : Rs K .dat H0 Hb H (.str i) (.str i) := Dr.str i
theorem rs_non {K : PySem.W.Frag} {H0 Hb H : Hp} : Rs K .dat H0 Hb H .non .none := Dr.non
theorem cat_rd : OpR X (binaryOp .Add) (fun x y H Q => ∃ l b xs zs, x = .ref l ∧ y = .ref b ∧ SqL X.K H l xs ∧ SqL X.K H b zs ∧ xs.length + zs.length ≤ sizeLine ∧ ∀ p, H p = none → Q (.ref p) (upd H p (.lst (xs ++ zs)))) := by
  intro pins s σ H x y v u Q I rx ry h
  obtain ⟨l, b, xs, zs, rfl, rfl, hH, hB, hz, q⟩ := h
  cases rx
  cases ry
  obtain ⟨its, r, pl, z⟩ := I.list hH
  obtain ⟨its2, r2, pl2, z2⟩ := I.list hB
  have hl := r.length
  have hl2 := r2.length
  obtain ⟨⟨c1, d1, t1, w1⟩, o1, k1, n1, q1⟩ := pl.isList
  obtain ⟨⟨c2, d2, t2, w2⟩, o2, k2, n2, q2⟩ := pl2.isList
  simp only at k1 q1 k2 q2
  subst k1 q1 k2 q2
  refine concat_meets ⟨_, o1, rfl⟩ ⟨_, o2, rfl⟩ noFill_list_add seq_list_add PySem.F.slot_list_add PySem.F.entry_list_add (PySem.F.args_list_add_2 _ _)
    (PyProof.Rows.list_addW l b its.toArray its2.toArray n1 n2 d1 d2 w1 w2 (by rw [List.size_toArray, List.size_toArray]; omega)) ⟨o1, o2, ?_⟩
  rw [show its.toArray ++ its2.toArray = (its ++ its2).toArray by simp]
  exact ⟨.ref _, _, I.lnew (t' := s.toks) (r.append r2) (by rw [List.length_append]; omega), rfl, q _ I.fresh⟩
theorem od_add : OpD X (binaryOp .Add) .dat dAdd := by
  intro pins s σ H x y v u Q I rx ry h
  obtain ⟨Hb, dx, dy, d, eb, bx, byy, hg, q⟩ := h
  cases dx <;> cases dy <;> simp only [dAdd] at hg <;> first | cases hg; done | skip
  · cases hg
    have e1 := bx.int
    have e2 := byy.int
    exact op_add pins s σ H x y v u Q I rx ry ⟨_, _, e1, e2, q _ Hb H (Gw.refl eb) rs_int⟩
  · split at hg
    · cases hg
      exact op_add_str pins s σ H x y v u Q I rx ry ⟨_, _, bx.str, byy.str, by assumption, q _ Hb H (Gw.refl eb) rs_str⟩
    · cases hg
  · split at hg
    · cases hg
      obtain ⟨p, xs, e1, s1, a1⟩ := bx.lst eb
      obtain ⟨p2, ys, e2, s2, a2⟩ := byy.lst eb
      rename_i hz
      refine cat_rd pins s σ H x y v u Q I rx ry ⟨p, p2, xs, ys, e1, e2, s1, s2, by rw [drAll_len a1, drAll_len a2]; exact hz, fun r hr => ?_⟩
      have z := Gw.lst eb hr (drAll_app a1 a2)
      exact q _ _ _ z.1 z.2
    · cases hg
  · split at hg
    · cases hg
      obtain ⟨p, xs, e1, s1, a1⟩ := bx.tup eb
      obtain ⟨p2, ys, e2, s2, a2⟩ := byy.tup eb
      rename_i ds es hz
      refine op_catA pins s σ H x y v u Q I rx ry ⟨p, p2, xs, ys, e1, e2, s1, s2, by rw [drAll_len a1, drAll_len a2]; exact hz, fun hx => ?_, fun hx hy => ?_, fun _ _ r hr => ?_⟩
      · subst hx
        cases a1
        rcases byy with b2 | ⟨_, _, _, _, b2⟩
        · rw [← e2]
          exact q _ Hb H (Gw.refl eb) b2
        · cases b2
      · subst hy
        cases a2
        rcases bx with b2 | ⟨_, _, _, _, b2⟩
        · rw [← e1]
          rw [List.append_nil] at q
          exact q _ Hb H (Gw.refl eb) b2
        · cases b2
      · have z := Gw.tup eb hr (drAll_app a1 a2)
        exact q _ _ _ z.1 z.2
    · cases hg
theorem od_sub : OpD X (binaryOp .Sub) .dat dSub := by
  intro pins s σ H x y v u Q I rx ry h
  obtain ⟨Hb, dx, dy, d, eb, bx, byy, hg, q⟩ := h
  cases dx <;> cases dy <;> simp only [dSub] at hg <;> first | cases hg; done | skip
  cases hg
  exact op_sub pins s σ H x y v u Q I rx ry ⟨_, _, bx.int, byy.int, q _ Hb H (Gw.refl eb) rs_int⟩
theorem mul_ok {i j : Int} (h : i.natAbs.log2 + j.natAbs.log2 < mulBits) : IntMulOk i j := by
  have b : ∀ x : Int, Builtin.Int.intBits x ≤ x.natAbs.log2 + 1 := fun x => by
    unfold Builtin.Int.intBits
    split <;> omega
  have h1 := b i
  have h2 := b j
  have e : bitsLine = 134217728 := by decide
  unfold mulBits at h
  unfold IntMulOk
  intro z
  rw [Bool.and_eq_true] at z
  have z2 := z.2
  unfold Builtin.Int.intTooBig at z2
  have z3 := of_decide_eq_true z2
  rw [e] at z3
  omega
theorem op_mulD : OpR X (binaryOp .Mult) (rI (fun i j => i.natAbs.log2 + j.natAbs.log2 < mulBits) fun i j => .int (i * j)) := opI fun _ _ _ _ _ _ _ hc q => PyProof.Rows.mul_int q (mul_ok hc)
theorem foldl_app_len (x : Array Nat) : ∀ (n : Nat) (acc : Array Nat), ((List.replicate n x).foldl (· ++ ·) acc).size = acc.size + n * x.size
  | 0, acc => by simp
  | n + 1, acc => by
    rw [List.replicate_succ, List.foldl_cons, foldl_app_len x n]
    simp [Nat.succ_mul]
    omega
theorem repS_len (x : Str) (n : Int) : (repS x n).length = n.toNat * x.length := by
  show ((List.replicate n.toNat x.cps).foldl (· ++ ·) #[]).size = _
  rw [foldl_app_len]
  simp
  rfl
theorem op_repS : OpR X (binaryOp .Mult) (fun x y H Q => ∃ (z : Str) (n : Int), x = .str z ∧ y = .int n ∧ -(2 ^ 62) ≤ n ∧ n < 2 ^ 62 ∧ z.length * n.toNat ≤ sizeLine ∧ Q (.str (repS z n)) H) := by
  intro pins s σ H x y v u Q I rx ry h
  obtain ⟨z, n, rfl, rfl, h1, h2, hz, q⟩ := h
  obtain ⟨t, rfl⟩ := rx
  obtain ⟨t', rfl⟩ := ry
  have se : sizeLine = 16777216 := sizeLine_eq
  have fin : ∀ (y : Str) (tk : Nat) (t : Tok), y = repS z n → EP X pins σ Q (.str y t) { s with toks := tk } := fun y tk t e => ⟨.str (repS z n), H, I.tok tk, ⟨t, by rw [e]⟩, q⟩
  refine PySem.P.mul_str (by rw [decide_eq_false (by omega), decide_eq_false (by omega)]; rfl) (fun h3 h4 => ?_) (fun _ _ => ?_) ?_
  · have hn : 0 < n := by omega
    intro hgt
    have hgt : (2 ^ 63 - 1) / n < (z.length : Int) := hgt
    have hlt := Int.lt_mul_of_ediv_lt hn hgt
    have e : ((z.length * n.toNat : Nat) : Int) = (z.length : Int) * n := by
      rw [Int.natCast_mul, Int.toNat_of_nonneg (by omega)]
    omega
  · unfold Builtin.Str.tooLong
    exact decide_eq_false (by omega)
  · have hl : (repS z n).length ≤ sizeLine := by rw [repS_len, Nat.mul_comm]; exact hz
    split
    · rename_i hn
      refine ⟨by decide, fin _ _ _ ?_⟩
      unfold repS
      rw [show n.toNat = 0 by omega]
      rfl
    · split
      · rename_i hn
        have e : z = repS z n := by
          rcases Bool.or_eq_true_iff.mp hn with h5 | h5
          · have h6 : n = 1 := by simpa using h5
            subst h6
            unfold repS
            simp
          · have h6 : z.cps.size = 0 := beq_iff_eq.mp h5
            have h7 : z.cps = #[] := Array.eq_empty_of_size_eq_zero h6
            have h8 : (repS z n).cps = #[] := Array.eq_empty_of_size_eq_zero (by
              have := repS_len z n
              rw [show z.length = 0 from h6, Nat.mul_zero] at this
              exact this)
            obtain ⟨c⟩ := z
            show (⟨c⟩ : Str) = ⟨(repS ⟨c⟩ n).cps⟩
            rw [h8]
            congr 1
        exact fin _ s.toks _ e
      · exact ⟨hl, fin _ _ _ rfl⟩
theorem od_mul : OpD X (binaryOp .Mult) .dat dMul := by
  intro pins s σ H x y v u Q I rx ry h
  obtain ⟨Hb, dx, dy, d, eb, bx, byy, hg, q⟩ := h
  cases dx <;> cases dy <;> simp only [dMul] at hg <;> first | cases hg; done | skip
  · split at hg
    · cases hg
      exact op_mulD pins s σ H x y v u Q I rx ry ⟨_, _, bx.int, byy.int, by assumption, q _ Hb H (Gw.refl eb) rs_int⟩
    · cases hg
  · split at hg
    · rename_i hz
      cases hg
      exact op_repS pins s σ H x y v u Q I rx ry ⟨_, _, bx.str, byy.int, hz.1, hz.2.1, hz.2.2, q _ Hb H (Gw.refl eb) rs_str⟩
    · cases hg
theorem od_div : OpD X (binaryOp .FloorDiv) .dat dDiv := by
  intro pins s σ H x y v u Q I rx ry h
  obtain ⟨Hb, dx, dy, d, eb, bx, byy, hg, q⟩ := h
  cases dx <;> cases dy <;> simp only [dDiv] at hg <;> first | cases hg; done | skip
  split at hg
  · cases hg
    exact op_fdivW pins s σ H x y v u Q I rx ry ⟨_, _, bx.int, byy.int, by assumption, q _ Hb H (Gw.refl eb) rs_int⟩
  · cases hg
theorem od_mod : OpD X (binaryOp .Mod) .dat dMod := by
  intro pins s σ H x y v u Q I rx ry h
  obtain ⟨Hb, dx, dy, d, eb, bx, byy, hg, q⟩ := h
  cases dx <;> cases dy <;> simp only [dMod] at hg <;> first | cases hg; done | skip
  split at hg
  · cases hg
    exact op_mod pins s σ H x y v u Q I rx ry ⟨_, _, bx.int, byy.int, by assumption, q _ Hb H (Gw.refl eb) rs_int⟩
  · cases hg
theorem od_pow : OpD X (binaryOp .Pow) .dat dPow := by
  intro pins s σ H x y v u Q I rx ry h
  obtain ⟨Hb, dx, dy, d, eb, bx, byy, hg, q⟩ := h
  cases dx <;> cases dy <;> simp only [dPow] at hg <;> first | cases hg; done | skip
  split at hg
  · cases hg
    exact op_pow pins s σ H x y v u Q I rx ry ⟨_, _, bx.int, byy.int, by assumption, q _ Hb H (Gw.refl eb) rs_int⟩
  · cases hg
theorem dEq_cases (x y : D) : (∃ i j, x = .str i ∧ y = .str j ∧ dEq x y = .ok (.bool (decide (i = j)))) ∨ dEq x y = if SeqAt.shaped x && SeqAt.shaped y then .ok (.bool (PyData.eqv x y)) else .bad := by
  cases x <;> cases y <;> first | exact .inr rfl | exact .inl ⟨_, _, rfl, rfl, rfl⟩
theorem od_eq (hu : X.A.units + 64 < cLine) : OpD X (compareOp .Eq) .dat dEq := by
  intro pins s σ H x y v u Q I rx ry h
  obtain ⟨Hb, dx, dy, d, eb, bx, byy, hg, q⟩ := h
  rcases dEq_cases dx dy with ⟨i, j, rfl, rfl, e⟩ | e
  · rw [e] at hg
    cases hg
    refine op_eq pins s σ H x y v u Q I rx ry ⟨by rw [bx.str, byy.str]; rfl, ?_⟩
    rw [bx.str, byy.str]
    have e2 : decide (V.str i = V.str j) = decide (i = j) := by simp
    rw [e2]
    exact q _ Hb H (Gw.refl eb) rs_bl
  · rw [e] at hg
    split at hg
    · rename_i hs
      cases hg
      rw [Bool.and_eq_true] at hs
      exact op_eqD hu pins s σ H x y v u Q I rx ry ⟨dx, dy, bx.dp eb (shaped_nodict hs.1), byy.dp eb (shaped_nodict hs.2), hs.1, hs.2, q _ Hb H (Gw.refl eb) rs_bl⟩
    · cases hg
theorem od_ne (hu : X.A.units + 64 < cLine) : OpD X (compareOp .NotEq) .dat dNe := by
  intro pins s σ H x y v u Q I rx ry h
  obtain ⟨Hb, dx, dy, d, eb, bx, byy, hg, q⟩ := h
  unfold dNe at hg
  rcases dEq_cases dx dy with ⟨i, j, rfl, rfl, e⟩ | e
  · rw [e] at hg
    cases hg
    refine op_ne pins s σ H x y v u Q I rx ry ⟨by rw [bx.str, byy.str]; rfl, ?_⟩
    rw [bx.str, byy.str]
    have e2 : decide (V.str i = V.str j) = decide (i = j) := by simp
    rw [e2]
    exact q _ Hb H (Gw.refl eb) rs_bl
  · rw [e] at hg
    split at hg
    · rename_i hs
      cases hg
      rw [Bool.and_eq_true] at hs
      exact op_neD hu pins s σ H x y v u Q I rx ry ⟨dx, dy, bx.dp eb (shaped_nodict hs.1), byy.dp eb (shaped_nodict hs.2), hs.1, hs.2, q _ Hb H (Gw.refl eb) rs_bl⟩
    · cases hg
theorem od_lt : OpD X (compareOp .Lt) .dat dLt := by
  intro pins s σ H x y v u Q I rx ry h
  obtain ⟨Hb, dx, dy, d, eb, bx, byy, hg, q⟩ := h
  cases dx <;> cases dy <;> simp only [dLt] at hg <;> first | cases hg; done | skip
  · cases hg
    exact op_lt pins s σ H x y v u Q I rx ry ⟨_, _, bx.int, byy.int, q _ Hb H (Gw.refl eb) rs_bl⟩
  · cases hg
    exact op_lt_str pins s σ H x y v u Q I rx ry ⟨_, _, bx.str, byy.str, q _ Hb H (Gw.refl eb) rs_bl⟩
theorem od_le : OpD X (compareOp .LtE) .dat dLe := by
  intro pins s σ H x y v u Q I rx ry h
  obtain ⟨Hb, dx, dy, d, eb, bx, byy, hg, q⟩ := h
  cases dx <;> cases dy <;> simp only [dLe] at hg <;> first | cases hg; done | skip
  cases hg
  exact op_le pins s σ H x y v u Q I rx ry ⟨_, _, bx.int, byy.int, q _ Hb H (Gw.refl eb) rs_bl⟩
theorem od_gt : OpD X (compareOp .Gt) .dat dGt := by
  intro pins s σ H x y v u Q I rx ry h
  obtain ⟨Hb, dx, dy, d, eb, bx, byy, hg, q⟩ := h
  cases dx <;> cases dy <;> simp only [dGt] at hg <;> first | cases hg; done | skip
  cases hg
  exact op_gt pins s σ H x y v u Q I rx ry ⟨_, _, bx.int, byy.int, q _ Hb H (Gw.refl eb) rs_bl⟩
theorem od_ge : OpD X (compareOp .GtE) .dat dGe := by
  intro pins s σ H x y v u Q I rx ry h
  obtain ⟨Hb, dx, dy, d, eb, bx, byy, hg, q⟩ := h
  cases dx <;> cases dy <;> simp only [dGe] at hg <;> first | cases hg; done | skip
  cases hg
  exact op_ge pins s σ H x y v u Q I rx ry ⟨_, _, bx.int, byy.int, q _ Hb H (Gw.refl eb) rs_bl⟩
theorem od_is : OpD X (compareOp .Is) .dat dIs := by
  intro pins s σ H x y v u Q I rx ry h
  obtain ⟨Hb, dx, dy, d, eb, bx, byy, hg, q⟩ := h
  have key : dy = .none → d = .bool (decide (x = .non)) → wpAny (model X.prog X.w) X.A (compareOp .Is v u) (EP X pins σ Q) X.xe s := fun e1 e2 => by
    subst e1 e2
    exact op_isN pins s σ H x y v u Q I rx ry ⟨byy.non, q _ Hb H (Gw.refl eb) rs_bl⟩
  cases dx <;> cases dy <;> simp only [dIs] at hg <;> first | cases hg; done | skip
  · cases hg
    exact key rfl (by rw [bx.non]; rfl)
  · cases hg
    rw [bx.non] at rx
    rw [byy.bl] at ry
    cases rx
    cases ry
    exact wpAny_is_other rfl (fun z => nomatch z) ⟨.bl false, H, I, rfl, q _ Hb H (Gw.refl eb) rs_bl⟩
  · cases hg
    exact key rfl (by rw [bx.bl]; rfl)
  · cases hg
    exact op_isBl pins s σ H x y v u Q I rx ry ⟨_, _, bx.bl, byy.bl, q _ Hb H (Gw.refl eb) rs_bl⟩
  · cases hg
    exact key rfl (by rw [bx.int]; rfl)
  · cases hg
    rw [bx.int] at rx
    rw [byy.bl] at ry
    obtain ⟨t, rfl⟩ := rx
    cases ry
    exact wpAny_is_other rfl (fun z => nomatch z) ⟨.bl false, H, I, rfl, q _ Hb H (Gw.refl eb) rs_bl⟩
  · cases hg
    exact key rfl (by rw [bx.str]; rfl)
  · cases hg
    obtain ⟨p, xs, e1, _⟩ := bx.lst eb
    exact key rfl (by rw [e1]; rfl)
  · cases hg
    obtain ⟨p, xs, e1, _⟩ := bx.tup eb
    exact key rfl (by rw [e1]; rfl)
theorem od_isnot : OpD X (compareOp .IsNot) .dat dIsNot := by
  intro pins s σ H x y v u Q I rx ry h
  obtain ⟨Hb, dx, dy, d, eb, bx, byy, hg, q⟩ := h
  have key : dy = .none → d = .bool (!decide (x = .non)) → wpAny (model X.prog X.w) X.A (compareOp .IsNot v u) (EP X pins σ Q) X.xe s := fun e1 e2 => by
    subst e1 e2
    exact op_notN pins s σ H x y v u Q I rx ry ⟨byy.non, q _ Hb H (Gw.refl eb) rs_bl⟩
  cases dx <;> cases dy <;> simp only [dIsNot, dIs, ER.bind] at hg <;> first | cases hg; done | skip
  · cases hg
    exact key rfl (by rw [bx.non]; rfl)
  · cases hg
    rw [bx.non] at rx
    rw [byy.bl] at ry
    cases rx
    cases ry
    exact wpAny_isNot_other rfl (fun z => nomatch z) ⟨.bl true, H, I, rfl, q _ Hb H (Gw.refl eb) rs_bl⟩
  · cases hg
    exact key rfl (by rw [bx.bl]; rfl)
  · cases hg
    exact op_notBl pins s σ H x y v u Q I rx ry ⟨_, _, bx.bl, byy.bl, q _ Hb H (Gw.refl eb) rs_bl⟩
  · cases hg
    exact key rfl (by rw [bx.int]; rfl)
  · cases hg
    rw [bx.int] at rx
    rw [byy.bl] at ry
    obtain ⟨t, rfl⟩ := rx
    cases ry
    exact wpAny_isNot_other rfl (fun z => nomatch z) ⟨.bl true, H, I, rfl, q _ Hb H (Gw.refl eb) rs_bl⟩
  · cases hg
    exact key rfl (by rw [bx.str]; rfl)
  · cases hg
    obtain ⟨p, xs, e1, _⟩ := bx.lst eb
    exact key rfl (by rw [e1]; rfl)
  · cases hg
    obtain ⟨p, xs, e1, _⟩ := bx.tup eb
    exact key rfl (by rw [e1]; rfl)
end
theorem ne_add : NoEx2 dAdd := fun x y c h => by
  cases x <;> cases y <;> simp only [dAdd] at h <;> first | cases h; done | (split at h <;> cases h)
theorem ne_sub : NoEx2 dSub := fun x y c h => by cases x <;> cases y <;> cases h
theorem ne_mul : NoEx2 dMul := fun x y c h => by
  cases x <;> cases y <;> simp only [dMul] at h <;> first | cases h; done | (split at h <;> cases h)
theorem ne_div : NoEx2 dDiv := fun x y c h => by
  cases x <;> cases y <;> simp only [dDiv] at h <;> first | cases h; done | (split at h <;> cases h)
theorem ne_mod : NoEx2 dMod := fun x y c h => by
  cases x <;> cases y <;> simp only [dMod] at h <;> first | cases h; done | (split at h <;> cases h)
theorem ne_pow : NoEx2 dPow := fun x y c h => by
  cases x <;> cases y <;> simp only [dPow] at h <;> first | cases h; done | (split at h <;> cases h)
theorem ne_eq : NoEx2 dEq := fun x y c h => by
  rcases dEq_cases x y with ⟨i, j, rfl, rfl, e⟩ | e
  · rw [e] at h
    cases h
  · rw [e] at h
    split at h <;> cases h
theorem ne_ne : NoEx2 dNe := fun x y c h => by
  unfold dNe at h
  rcases dEq_cases x y with ⟨i, j, rfl, rfl, e⟩ | e
  · rw [e] at h
    cases h
  · rw [e] at h
    split at h <;> cases h
theorem ne_lt : NoEx2 dLt := fun x y c h => by cases x <;> cases y <;> cases h
theorem ne_le : NoEx2 dLe := fun x y c h => by cases x <;> cases y <;> cases h
theorem ne_gt : NoEx2 dGt := fun x y c h => by cases x <;> cases y <;> cases h
theorem ne_ge : NoEx2 dGe := fun x y c h => by cases x <;> cases y <;> cases h
theorem ne_is : NoEx2 dIs := fun x y c h => by cases x <;> cases y <;> cases h
theorem ne_isnot : NoEx2 dIsNot := fun x y c h => by cases x <;> cases y <;> simp [dIsNot, dIs, ER.bind] at h
end DL

/-! DL3: chains, truth, arguments, displays, subscripts, built-in calls. -/
namespace DL
open PySem L2 Evl

/-! ### tests -/
def tOf (K : PySem.W.Frag) (W : WQ) (m : EM) : TT := fun σ H Q => ∃ (Hf Hb : Hp) (ρ : Env), RelE K W.pin Hf Hb H σ ρ ∧
  (∀ b, m ρ = .ok (.bool b) → ∀ Hb' H', Gw Hb H Hb' H' → Q b H') ∧
  (∀ c, m ρ = .ex c → ∀ Hb' H', Gw Hb H Hb' H' → W.w (.ref (He.ga K c)) none σ H') ∧ ((∃ b, m ρ = .ok (.bool b)) ∨ ∃ c, m ρ = .ex c)
abbrev DT (X : Cx) (W : WQ) (e : Expr) (m : EM) : Prop := PT X e (tOf X.K W m)
abbrev DW (X : Cx) (W : WQ) (e : Expr) (m : EM) : Prop := PW X e (tOf X.K W m)
def eNot (m : EM) : EM := fun ρ => (m ρ).bind fun d => match d with
  | .bool b => .ok (.bool (!b))
  | _ => .bad
def eAnd (ma mb : EM) : EM := fun ρ => (ma ρ).bind fun d => match d with
  | .bool true => mb ρ
  | .bool false => .ok (.bool false)
  | _ => .bad
def eOr (ma mb : EM) : EM := fun ρ => (ma ρ).bind fun d => match d with
  | .bool true => .ok (.bool true)
  | .bool false => mb ρ
  | _ => .bad
def eIf (mc ma mb : EM) : EM := fun ρ => (mc ρ).bind fun d => match d with
  | .bool true => ma ρ
  | .bool false => mb ρ
  | _ => .bad
section
variable {K : PySem.W.Frag} {W : WQ} {kd : Kd} {m ma mb mc : EM} {σ : L2.St} {H : Hp} {Q : Bool → Hp → Prop} {QV : VK}
/-- an expression's meaning seen as a test's -/
theorem tof_eof (h : tOf K W m σ H Q) : eOf K W .bor m σ H fun x H' => ∃ c, x = .bl c ∧ Q c H' := by
  obtain ⟨Hf, Hb, ρ, R, h1, h2, h3⟩ := h
  refine ⟨Hf, Hb, ρ, R, fun d hd v Hb' H' g r => ?_, h2, fun z => ?_⟩
  · rcases h3 with ⟨b, hb⟩ | ⟨c, hc⟩
    · rw [hb] at hd
      cases hd
      exact ⟨b, Bo.bl r, h1 b hb Hb' H' g⟩
    · rw [hc] at hd
      cases hd
  · rcases h3 with ⟨b, hb⟩ | ⟨c, hc⟩
    · rw [hb] at z
      cases z
    · rw [hc] at z
      cases z
theorem tof_not (h : tOf K W (eNot m) σ H Q) : tNot (tOf K W m) σ H Q := by
  obtain ⟨Hf, Hb, ρ, R, h1, h2, h3⟩ := h
  refine ⟨Hf, Hb, ρ, R, fun b hb Hb' H' g => h1 (!b) (by simp [eNot, hb, ER.bind]) Hb' H' g, fun c hc => h2 c (by simp [eNot, hc, ER.bind]), ?_⟩
  cases q : m ρ with
  | bad => simp [eNot, q, ER.bind] at h3
  | ex c => exact .inr ⟨c, rfl⟩
  | ok d =>
    cases d <;> simp [eNot, q, ER.bind] at h3
    exact .inl ⟨_, rfl⟩
theorem tof_and (h : tOf K W (eAnd ma mb) σ H Q) : tAnd (tOf K W ma) (tOf K W mb) σ H Q := by
  obtain ⟨Hf, Hb, ρ, R, h1, h2, h3⟩ := h
  refine ⟨Hf, Hb, ρ, R, fun b hb Hb' H' g => ?_, fun c hc => h2 c (by simp [eAnd, hc, ER.bind]), ?_⟩
  · cases b with
    | true =>
      have e : eAnd ma mb ρ = mb ρ := by simp [eAnd, hb, ER.bind]
      rw [e] at h1 h2 h3
      show tOf K W mb σ H' Q
      exact ⟨Hf, Hb', ρ, R.gw g, fun b2 hb2 Hb2 H2 g2 => h1 b2 hb2 Hb2 H2 (g.trans g2), fun c hc Hb2 H2 g2 => h2 c hc Hb2 H2 (g.trans g2), h3⟩
    | false =>
      show Q false H'
      exact h1 false (by simp [eAnd, hb, ER.bind]) Hb' H' g
  · cases q : ma ρ with
    | bad => simp [eAnd, q, ER.bind] at h3
    | ex c => exact .inr ⟨c, rfl⟩
    | ok d =>
      cases d <;> simp [eAnd, q, ER.bind] at h3
      exact .inl ⟨_, rfl⟩
theorem tof_or (h : tOf K W (eOr ma mb) σ H Q) : tOr (tOf K W ma) (tOf K W mb) σ H Q := by
  obtain ⟨Hf, Hb, ρ, R, h1, h2, h3⟩ := h
  refine ⟨Hf, Hb, ρ, R, fun b hb Hb' H' g => ?_, fun c hc => h2 c (by simp [eOr, hc, ER.bind]), ?_⟩
  · cases b with
    | false =>
      have e : eOr ma mb ρ = mb ρ := by simp [eOr, hb, ER.bind]
      rw [e] at h1 h2 h3
      show tOf K W mb σ H' Q
      exact ⟨Hf, Hb', ρ, R.gw g, fun b2 hb2 Hb2 H2 g2 => h1 b2 hb2 Hb2 H2 (g.trans g2), fun c hc Hb2 H2 g2 => h2 c hc Hb2 H2 (g.trans g2), h3⟩
    | true =>
      show Q true H'
      exact h1 true (by simp [eOr, hb, ER.bind]) Hb' H' g
  · cases q : ma ρ with
    | bad => simp [eOr, q, ER.bind] at h3
    | ex c => exact .inr ⟨c, rfl⟩
    | ok d =>
      cases d <;> simp [eOr, q, ER.bind] at h3
      exact .inl ⟨_, rfl⟩
theorem eof_not (h : eOf K W .dat (eNot m) σ H QV) : tNotV (eOf K W .bor m) σ H QV := by
  obtain ⟨Hf, Hb, ρ, R, h1, h2, h3⟩ := h
  refine ⟨Hf, Hb, ρ, R, fun d hd v Hb' H' g r => ?_, fun c hc => h2 c (by simp [eNot, hc, ER.bind]), fun z => h3 (by simp [eNot, z, ER.bind])⟩
  cases d <;> simp [eNot, hd, ER.bind] at h3
  rename_i b
  exact ⟨b, Bo.bl r, h1 (.bool (!b)) (by simp [eNot, hd, ER.bind]) _ Hb' H' g rs_bl⟩
theorem eof_and (h : eOf K W .dat (eAnd ma mb) σ H QV) : tAndV (eOf K W .bor ma) (eOf K W .dat mb) σ H QV := by
  obtain ⟨Hf, Hb, ρ, R, h1, h2, h3⟩ := h
  refine ⟨Hf, Hb, ρ, R, fun d hd v Hb' H' g r => ?_, fun c hc => h2 c (by simp [eAnd, hc, ER.bind]), fun z => h3 (by simp [eAnd, z, ER.bind])⟩
  cases d with
  | bool b =>
    refine ⟨b, Bo.bl r, ?_⟩
    cases b with
    | true =>
      have e : eAnd ma mb ρ = mb ρ := by simp [eAnd, hd, ER.bind]
      rw [e] at h1 h2 h3
      show eOf K W .dat mb σ H' QV
      exact ⟨Hf, Hb', ρ, R.gw g, fun d2 hd2 v2 Hb2 H2 g2 r2 => h1 d2 hd2 v2 Hb2 H2 (g.trans g2) r2, fun c hc Hb2 H2 g2 => h2 c hc Hb2 H2 (g.trans g2), h3⟩
    | false =>
      show QV (.bl false) H'
      exact h1 (.bool false) (by simp [eAnd, hd, ER.bind]) _ Hb' H' g rs_bl
  | _ => exact absurd (by simp [eAnd, hd, ER.bind]) h3
theorem eof_or (h : eOf K W .dat (eOr ma mb) σ H QV) : tOrV (eOf K W .bor ma) (eOf K W .dat mb) σ H QV := by
  obtain ⟨Hf, Hb, ρ, R, h1, h2, h3⟩ := h
  refine ⟨Hf, Hb, ρ, R, fun d hd v Hb' H' g r => ?_, fun c hc => h2 c (by simp [eOr, hc, ER.bind]), fun z => h3 (by simp [eOr, z, ER.bind])⟩
  cases d with
  | bool b =>
    refine ⟨b, Bo.bl r, ?_⟩
    cases b with
    | false =>
      have e : eOr ma mb ρ = mb ρ := by simp [eOr, hd, ER.bind]
      rw [e] at h1 h2 h3
      show eOf K W .dat mb σ H' QV
      exact ⟨Hf, Hb', ρ, R.gw g, fun d2 hd2 v2 Hb2 H2 g2 r2 => h1 d2 hd2 v2 Hb2 H2 (g.trans g2) r2, fun c hc Hb2 H2 g2 => h2 c hc Hb2 H2 (g.trans g2), h3⟩
    | true =>
      show QV (.bl true) H'
      exact h1 (.bool true) (by simp [eOr, hd, ER.bind]) _ Hb' H' g rs_bl
  | _ => exact absurd (by simp [eOr, hd, ER.bind]) h3
theorem eof_if (h : eOf K W kd (eIf mc ma mb) σ H QV) : tIf (tOf K W mc) (eOf K W kd ma) (eOf K W kd mb) σ H QV := by
  obtain ⟨Hf, Hb, ρ, R, h1, h2, h3⟩ := h
  refine ⟨Hf, Hb, ρ, R, fun b hb Hb' H' g => ?_, fun c hc => h2 c (by simp [eIf, hc, ER.bind]), ?_⟩
  · cases b with
    | true =>
      have e : eIf mc ma mb ρ = ma ρ := by simp [eIf, hb, ER.bind]
      rw [e] at h1 h2 h3
      show eOf K W kd ma σ H' QV
      exact ⟨Hf, Hb', ρ, R.gw g, fun d2 hd2 v2 Hb2 H2 g2 r2 => h1 d2 hd2 v2 Hb2 H2 (g.trans g2) (r2.back g.h), fun c hc Hb2 H2 g2 => h2 c hc Hb2 H2 (g.trans g2), h3⟩
    | false =>
      have e : eIf mc ma mb ρ = mb ρ := by simp [eIf, hb, ER.bind]
      rw [e] at h1 h2 h3
      show eOf K W kd mb σ H' QV
      exact ⟨Hf, Hb', ρ, R.gw g, fun d2 hd2 v2 Hb2 H2 g2 r2 => h1 d2 hd2 v2 Hb2 H2 (g.trans g2) (r2.back g.h), fun c hc Hb2 H2 g2 => h2 c hc Hb2 H2 (g.trans g2), h3⟩
  · cases q : mc ρ with
    | bad => simp [eIf, q, ER.bind] at h3
    | ex c => exact .inr ⟨c, rfl⟩
    | ok d =>
      cases d <;> simp [eIf, q, ER.bind] at h3
      exact .inl ⟨_, rfl⟩
/-- truth of any data -/
def dTru : D → ER
  | .none => .ok (.bool false)
  | .bool b => .ok (.bool b)
  | .int i => .ok (.bool (i != 0))
  | .str y => if y.length ≤ sizeLine then .ok (.bool ((y.length : Int) != 0)) else .bad
  | .list ds => .ok (.bool (!ds.isEmpty))
  | .tuple ds => .ok (.bool (!ds.isEmpty))
  | .dict _ => .bad
def eTru (m : EM) : EM := fun ρ => (m ρ).bind dTru
end
section
variable {X : Cx} {W : WQ} {kd : Kd} {a b c : Expr} {rest : List Expr} {m ma mb mc : EM} {g g' : D → D → ER} {pos : Pos}
theorem dt_val (h : DE X W .bor a m) (he : ∀ whole, isTrue a X.env whole = (do let v ← whole; standAt a.pos; holding [v] (truthy v)) := by intro _; rfl) : DT X W a m := PT.imp (pt_val h he) fun _ _ _ => tof_eof
theorem dt_cmp {op : CmpOp} (ho : OpD X (compareOp op) .dat g) (ng : NoEx2 g) (ha : DE X W .bor a ma) (hb : DE X W .bor b mb) (hm : behindInMarks op b = false := by first | exact nomark _ | rfl) : DT X W (.Compare a [op] [b] pos) (eBin g ma mb) :=
  PT.imp (pt_cmpR ho ha hb hm) fun σ H Q h => by
    obtain ⟨Hf, Hb, ρ, R, h1, h2, h3⟩ := tof_eof h
    exact eof_bin ng ⟨Hf, Hb, ρ, R, fun d hd v Hb' H' g r => h1 d hd v Hb' H' g (.inl r), h2, h3⟩
theorem dt_not (h : DT X W a m) : DT X W (.UnaryOp .Not a pos) (eNot m) := PT.imp (pt_not h) fun _ _ _ => tof_not
theorem dw_and1 (h : DT X W a m) : DW X W (.BoolOp .And [a] pos) m := pw_and1 h
theorem dw_or1 (h : DT X W a m) : DW X W (.BoolOp .Or [a] pos) m := pw_or1 h
theorem dw_and (ha : DT X W a ma) (hb : DW X W (.BoolOp .And (b :: rest) pos) mb) : DW X W (.BoolOp .And (a :: b :: rest) pos) (eAnd ma mb) := PW.imp (pw_and ha hb) fun _ _ _ => tof_and
theorem dw_or (ha : DT X W a ma) (hb : DW X W (.BoolOp .Or (b :: rest) pos) mb) : DW X W (.BoolOp .Or (a :: b :: rest) pos) (eOr ma mb) := PW.imp (pw_or ha hb) fun _ _ _ => tof_or
theorem dt_w (h : DW X W a m) : DT X W a m := PW.pt h
theorem de_not (h : DE X W .bor a m) : DE X W .dat (.UnaryOp .Not a pos) (eNot m) := PE.imp (pe_not h) fun _ _ _ => eof_not
theorem de_one {op} (h : DE X W kd a m) : DE X W kd (.BoolOp op [a] pos) m := pe_one h
theorem de_and (ha : DE X W .bor a ma) (hb : DE X W .dat (.BoolOp .And (b :: rest) pos) mb) : DE X W .dat (.BoolOp .And (a :: b :: rest) pos) (eAnd ma mb) := PE.imp (pe_and ha hb) fun _ _ _ => eof_and
theorem de_or (ha : DE X W .bor a ma) (hb : DE X W .dat (.BoolOp .Or (b :: rest) pos) mb) : DE X W .dat (.BoolOp .Or (a :: b :: rest) pos) (eOr ma mb) := PE.imp (pe_or ha hb) fun _ _ _ => eof_or
theorem de_if (hc : DT X W c mc) (ha : DE X W kd a ma) (hb : DE X W kd b mb) : DE X W kd (.IfExp c a b pos) (eIf mc ma mb) := PE.imp (pe_ifExp hc ha hb) fun _ _ _ => eof_if
theorem dt_tru (h : DE X W .bor a m) (he : ∀ whole, isTrue a X.env whole = (do let v ← whole; standAt a.pos; holding [v] (truthy v)) := by intro _; rfl) : DT X W a (eTru m) := PT.imp (pt_truth h he) fun σ H Q ht => by
  obtain ⟨Hf, Hb, ρ, R, h1, h2, h3⟩ := ht
  refine ⟨Hf, Hb, ρ, R, fun d hd v Hb' H' g r => ?_, fun c hc => h2 c (by simp [eTru, hc, ER.bind]), fun z => by simp [eTru, z, ER.bind] at h3⟩
  have e : eTru m ρ = dTru d := by simp [eTru, hd, ER.bind]
  rw [e] at h1 h3
  cases d with
  | none => exact ⟨false, by rw [Bo.non r]; rfl, h1 false rfl Hb' H' g⟩
  | bool b => exact ⟨b, by rw [Bo.bl r]; rfl, h1 b rfl Hb' H' g⟩
  | int i => exact ⟨i != 0, by rw [Bo.int r]; rfl, h1 _ rfl Hb' H' g⟩
  | str y =>
    by_cases hy : y.length ≤ sizeLine
    · exact ⟨((y.length : Int) != 0), by rw [Bo.str r]; exact ⟨hy, rfl⟩, h1 _ (by simp [dTru, hy]) Hb' H' g⟩
    · simp [dTru, hy] at h3
  | list ds =>
    obtain ⟨p, xs, e1, s1, a1⟩ := Bo.lst g.bh r
    refine ⟨!ds.isEmpty, ?_, h1 _ rfl Hb' H' g⟩
    rw [e1]
    refine .inl ⟨xs, s1, ?_⟩
    cases a1 <;> rfl
  | tuple ds =>
    obtain ⟨p, xs, e1, s1, a1⟩ := Bo.tup g.bh r
    refine ⟨!ds.isEmpty, ?_, h1 _ rfl Hb' H' g⟩
    rw [e1]
    refine .inr (.inl ⟨xs, s1, ?_⟩)
    cases a1 <;> rfl
  | dict _ => simp [dTru] at h3
end

/-! ### chains -/
def eChain (g g' : D → D → ER) (ma mb mc : EM) : EM := fun ρ => (ma ρ).bind fun x => (mb ρ).bind fun y => (g x y).bind fun z => match z with
  | .bool true => (mc ρ).bind fun w => g' y w
  | .bool false => .ok (.bool false)
  | _ => .bad
section
variable {K : PySem.W.Frag} {W : WQ} {ma mb mc : EM} {g g' : D → D → ER}
theorem eof_chain (ng : NoEx2 g) (ng' : NoEx2 g') {σ : L2.St} {H : Hp} {Q : VK} (h : eOf K W .dat (eChain g g' ma mb mc) σ H Q) : tChain (rOf K .dat g) (rOf K .dat g') (eOf K W .bor ma) (eOf K W .bor mb) (eOf K W .bor mc) σ H Q := by
  obtain ⟨Hf, Hb, ρ, R, h1, h2, h3⟩ := h
  refine ⟨Hf, Hb, ρ, R, fun d hd v Hb1 H1 g1 r1 => ?_, fun c hc Hb1 H1 g1 => h2 c (by simp [eChain, hc, ER.bind]) Hb1 H1 g1, fun z => h3 (by simp [eChain, z, ER.bind])⟩
  refine ⟨Hf, Hb1, ρ, R.gw g1, fun d2 hd2 v2 Hb2 H2 g2 r2 => ?_, fun c hc Hb2 H2 g2 => h2 c (by simp [eChain, hd, hc, ER.bind]) Hb2 H2 (g1.trans g2), fun z => h3 (by simp [eChain, hd, z, ER.bind])⟩
  cases q : g d d2 with
  | bad => exact absurd (by simp [eChain, hd, hd2, q, ER.bind]) h3
  | ex c => exact absurd q (ng _ _ _)
  | ok z =>
    refine ⟨Hb2, d, d2, z, g2.bh, Bo.ex g2.b g2.h r1, r2, q, fun v3 Hb3 H3 g3 r3 => ?_⟩
    have gg : Gw Hb H Hb3 H3 := (g1.trans g2).trans g3
    cases z with
    | bool b =>
      have e1 : v3 = .bl b := Bo.bl (K := K) (Hb := Hb3) (H := H3) (.inl r3)
      refine ⟨b, e1, ?_⟩
      cases b with
      | true =>
        show eOf K W .bor mc σ H3 fun w' H4 => rOf K .dat g' v2 w' H4 Q
        have e : eChain g g' ma mb mc ρ = (mc ρ).bind fun w => g' d2 w := by simp [eChain, hd, hd2, q, ER.bind]
        rw [e] at h1 h2 h3
        refine ⟨Hf, Hb3, ρ, R.gw gg, fun d4 hd4 v4 Hb4 H4 g4 r4 => ?_, fun c hc Hb4 H4 g4 => h2 c (by simp [hc, ER.bind]) Hb4 H4 (gg.trans g4), fun z => h3 (by simp [z, ER.bind])⟩
        rw [hd4] at h1 h3
        cases q4 : g' d2 d4 with
        | bad => exact absurd (by simp [q4, ER.bind]) h3
        | ex c => exact absurd q4 (ng' _ _ _)
        | ok z4 => exact ⟨Hb4, d2, d4, z4, g4.bh, Bo.ex (g3.b.trans g4.b) (g3.h.trans g4.h) r2, r4, q4, fun v Hb5 H5 g5 r5 => h1 z4 (by simp [q4, ER.bind]) v Hb5 H5 ((gg.trans g4).trans g5) r5⟩
      | false =>
        show Q (.bl false) H3
        exact h1 (.bool false) (by simp [eChain, hd, hd2, q, ER.bind]) _ Hb3 H3 gg rs_bl
    | _ => exact absurd (by simp [eChain, hd, hd2, q, ER.bind]) h3
end
section
variable {X : Cx} {W : WQ} {a b c : Expr} {ma mb mc : EM} {g g' : D → D → ER} {pos : Pos}
theorem de_chain {op op' : CmpOp} (ho : OpD X (compareOp op) .dat g) (ho' : OpD X (compareOp op') .dat g') (ng : NoEx2 g) (ng' : NoEx2 g') (ha : DE X W .bor a ma) (hb : DE X W .bor b mb) (hc : DE X W .bor c mc)
    (hm : lastMarks [op, op'] [b, c] = false := by with_unfolding_all rfl) : DE X W .dat (.Compare a [op, op'] [b, c] pos) (eChain g g' ma mb mc) := PE.imp (pe_chain ho ho' ha hb hc hm) fun _ _ _ => eof_chain ng ng'
theorem dt_chain {op op' : CmpOp} (ho : OpD X (compareOp op) .dat g) (ho' : OpD X (compareOp op') .dat g') (ng : NoEx2 g) (ng' : NoEx2 g') (ha : DE X W .bor a ma) (hb : DE X W .bor b mb) (hc : DE X W .bor c mc)
    (hm : lastMarks [op, op'] [b, c] = false := by with_unfolding_all rfl) : DT X W (.Compare a [op, op'] [b, c] pos) (eChain g g' ma mb mc) := PT.imp (pt_chain ho ho' ha hb hc hm) fun σ H Q h => by
  obtain ⟨Hf, Hb, ρ, R, h1, h2, h3⟩ := tof_eof h
  exact eof_chain ng ng' ⟨Hf, Hb, ρ, R, fun d hd v Hb' H' g r => h1 d hd v Hb' H' g (.inl r), h2, h3⟩
end

/-! ### arguments -/
inductive AR where
  | ok (ds : List D) | ex (c : Str) | bad
def evA : List EM → Env → AR
  | [], _ => .ok []
  | m :: r, ρ => match m ρ with
    | .ok d => (match evA r ρ with
      | .ok ds => .ok (d :: ds)
      | .ex c => .ex c
      | .bad => .bad)
    | .ex c => .ex c
    | .bad => .bad
def Ra (K : PySem.W.Frag) (kd : Kd) (Hb H : Hp) (v : V) (d : D) : Prop := match kd with
  | .dat => Dr K Hb v d
  | _ => Bo K Hb H v d
inductive RaAll (K : PySem.W.Frag) (Hb H : Hp) : List Kd → List V → List D → Prop
  | nil : RaAll K Hb H [] [] []
  | cons {kd : Kd} {ks : List Kd} {v : V} {vs : List V} {d : D} {ds : List D} : Ra K kd Hb H v d → RaAll K Hb H ks vs ds → RaAll K Hb H (kd :: ks) (v :: vs) (d :: ds)
/-- arguments are data or read, never new -/
def aOf (K : PySem.W.Frag) (W : WQ) (ks : List Kd) (ms : List EM) : TA := fun σ H Q => ∃ (Hf Hb : Hp) (ρ : Env), RelE K W.pin Hf Hb H σ ρ ∧
  (∀ ds, evA ms ρ = .ok ds → ∀ vs Hb' H', Gw Hb H Hb' H' → RaAll K Hb' H' ks vs ds → Q vs H') ∧
  (∀ c, evA ms ρ = .ex c → ∀ Hb' H', Gw Hb H Hb' H' → W.w (.ref (He.ga K c)) none σ H') ∧ evA ms ρ ≠ .bad
abbrev DA (X : Cx) (W : WQ) (ks : List Kd) (es : List Expr) (ms : List EM) : Prop := PA X es (aOf X.K W ks ms)
theorem PA.imp {X : Cx} {e : List Expr} {t t' : TA} (h : PA X e t) (i : ∀ σ H Q, t' σ H Q → t σ H Q) : PA X e t' := ⟨fun pos pins s σ H Q I q => h.run pos pins s σ H Q I (i σ H Q q)⟩
theorem Ra.ex {K : PySem.W.Frag} {kd : Kd} {Hb H Hb' H' : Hp} {v : V} {d : D} (eb : Ex Hb Hb') (e : Ex H H') (h : Ra K kd Hb H v d) : Ra K kd Hb' H' v d := by
  cases kd with
  | dat => exact dr_ex eb h
  | new => exact Bo.ex eb e h
  | bor => exact Bo.ex eb e h
  | io p => exact Bo.ex eb e h
theorem Rs.ra {K : PySem.W.Frag} {kd : Kd} {H0 Hb H : Hp} {v : V} {d : D} (h : Rs K kd H0 Hb H v d) (hk : kd.arg = true) : Ra K kd Hb H v d := by
  cases kd with
  | dat => exact h
  | bor => exact h
  | new => exact h.new_bor
  | io p => cases hk
section
variable {X : Cx} {W : WQ} {kd : Kd} {ks : List Kd} {e : Expr} {es : List Expr} {m : EM} {ms : List EM}
theorem da_nil : DA X W [] [] [] := PA.imp pa_nil fun σ H Q ⟨Hf, Hb, ρ, R, h1, _, _⟩ => h1 [] rfl [] Hb H (Gw.refl R.eb) .nil
theorem da_cons (h : DE X W kd e m) (hr : DA X W ks es ms) (hp : starEach (e :: es) X.env = (false, eval e X.env) :: starEach es X.env := by rfl) (hk : kd.arg = true := by rfl) : DA X W (kd :: ks) (e :: es) (m :: ms) := PA.imp (pa_cons h hr hp) fun σ H Q ⟨Hf, Hb, ρ, R, h1, h2, h3⟩ => by
  refine ⟨Hf, Hb, ρ, R, fun d hd v Hb1 H1 g1 r1 => ?_, fun c hc Hb1 H1 g1 => h2 c (by simp [evA, hc]) Hb1 H1 g1, fun z => h3 (by simp [evA, z])⟩
  refine ⟨Hf, Hb1, ρ, R.gw g1, fun ds hds vs Hb2 H2 g2 r2 => h1 (d :: ds) (by simp [evA, hd, hds]) _ Hb2 H2 (g1.trans g2) (.cons ((r1.ra hk).ex g2.b g2.h) r2), fun c hc Hb2 H2 g2 => h2 c (by simp [evA, hd, hc]) Hb2 H2 (g1.trans g2), fun z => h3 (by simp [evA, hd, z])⟩
end
theorem RaAll.dr {K : PySem.W.Frag} {Hb H : Hp} : ∀ {ks : List Kd} {vs : List V} {ds : List D}, (∀ k ∈ ks, k = .dat) → RaAll K Hb H ks vs ds → DrAll K Hb vs ds
  | _, _, _, _, .nil => .nil
  | _, _, _, hk, .cons a b => by
    have e := hk _ List.mem_cons_self
    subst e
    exact .cons a (RaAll.dr (fun k hm => hk k (List.mem_cons_of_mem _ hm)) b)
theorem RaAll.len {K : PySem.W.Frag} {Hb H : Hp} : ∀ {ks : List Kd} {vs : List V} {ds : List D}, RaAll K Hb H ks vs ds → vs.length = ds.length
  | _, _, _, .nil => rfl
  | _, _, _, .cons _ b => by simp [RaAll.len b]

/-! ### displays -/
def eTup (ms : List EM) : EM := fun ρ => match evA ms ρ with
  | .ok ds => if ds.length ≤ sizeLine then .ok (.tuple ds) else .bad
  | .ex c => .ex c
  | .bad => .bad
def eLst (ms : List EM) : EM := fun ρ => match evA ms ρ with
  | .ok ds => if ds.length ≤ sizeLine then .ok (.list ds) else .bad
  | .ex c => .ex c
  | .bad => .bad
section
variable {X : Cx} {W : WQ} {ks : List Kd} {es : List Expr} {ms : List EM} {pos : Pos}
theorem de_tup {x1} (h : DA X W ks es ms) (hk : ∀ k ∈ ks, k = .dat := by simp) : DE X W .dat (.Tuple es x1 pos) (eTup ms) := PE.imp (pe_tup h) fun σ H Q ⟨Hf, Hb, ρ, R, h1, h2, h3⟩ => by
  refine ⟨Hf, Hb, ρ, R, fun ds hds vs Hb1 H1 g1 r1 => ?_, fun c hc => h2 c (by simp [eTup, hc]), fun z => h3 (by simp [eTup, z])⟩
  have r := r1.dr hk
  by_cases hl : ds.length ≤ sizeLine
  · refine ⟨by rw [r1.len]; exact hl, fun p hp => ?_⟩
    have z := Gw.tup g1.bh hp r
    exact h1 (.tuple ds) (by simp [eTup, hds, hl]) _ _ _ (g1.trans z.1) z.2
  · exact absurd (by simp [eTup, hds, hl]) h3
theorem de_lst (h : DA X W ks es ms) (hk : ∀ k ∈ ks, k = .dat := by simp) : DE X W .new (.List es pos) (eLst ms) := PE.imp (pe_lst h) fun σ H Q ⟨Hf, Hb, ρ, R, h1, h2, h3⟩ => by
  refine ⟨Hf, Hb, ρ, R, fun ds hds vs Hb1 H1 g1 r1 => ?_, fun c hc => h2 c (by simp [eLst, hc]), fun z => h3 (by simp [eLst, z])⟩
  have r := r1.dr hk
  by_cases hl : ds.length ≤ sizeLine
  · refine ⟨by rw [r1.len]; exact hl, fun p hp => ?_⟩
    have z := Gw.lstN g1.bh hp r
    exact h1 (.list ds) (by simp [eLst, hds, hl]) _ _ _ (g1.trans z.1) (z.2.back g1.h)
  · exact absurd (by simp [eLst, hds, hl]) h3
end

/-! ### subscripts -/
def dIx : D → D → ER
  | .list ds, .int i => (match atI ds i with
    | some d => .ok d
    | none => .bad)
  | .tuple ds, .int i => (match atI ds i with
    | some d => .ok d
    | none => .bad)
  | .str s, .int i => if s.length ≤ sizeLine then (match atI s.cps.toList i with
    | some c => .ok (.str ⟨#[c]⟩)
    | none => .bad) else .bad
  | _, _ => .bad
theorem ne_ix : NoEx2 dIx := fun x y c h => by
  cases x <;> cases y <;> simp only [dIx] at h <;> (repeat' split at h) <;> cases h
theorem drAll_at {K : PySem.W.Frag} {H : Hp} {ds : List D} {vs : List V} {i : Int} {d : D} (a : DrAll K H vs ds) (h : atI ds i = some d) : ∃ v, atI vs i = some v ∧ Dr K H v d := by
  unfold atI at h ⊢
  rw [drAll_len a]
  cases q : ixN ds.length i with
  | none =>
    rw [q] at h
    cases h
  | some j =>
    rw [q] at h
    exact drAll_get' a h
section
variable {X : Cx} {W : WQ} {a b : Expr} {ma mb : EM} {pos : Pos}
theorem od_ix : IxR X (rOf X.K .dat dIx) := by
  intro value slice pins s σ H x y v u Q I rx ry h hs
  obtain ⟨Hb, dx, dy, d, eb, bx, byy, hg, q⟩ := h
  cases dx <;> cases dy <;> simp only [dIx] at hg <;> first | cases hg; done | skip
  · split at hg
    · split at hg
      · rename_i hz _ c hc
        cases hg
        exact ix_str value slice pins s σ H x y v u Q I rx ry ⟨_, _, c, bx.str, byy.int, hz, hc, q _ Hb H (Gw.refl eb) rs_str⟩ hs
      · cases hg
    · cases hg
  · split at hg
    · rename_i hc
      cases hg
      obtain ⟨p, xs, e1, s1, a1⟩ := bx.lst eb
      obtain ⟨w, w1, w2⟩ := drAll_at a1 hc
      exact ix_list value slice pins s σ H x y v u Q I rx ry ⟨p, xs, _, w, e1, byy.int, s1, w1, q _ Hb H (Gw.refl eb) w2⟩ hs
    · cases hg
  · split at hg
    · rename_i hc
      cases hg
      obtain ⟨p, xs, e1, s1, a1⟩ := bx.tup eb
      obtain ⟨w, w1, w2⟩ := drAll_at a1 hc
      exact ix_tup value slice pins s σ H x y v u Q I rx ry ⟨p, xs, _, w, e1, byy.int, s1, w1, q _ Hb H (Gw.refl eb) w2⟩ hs
    · cases hg
theorem de_ix (ha : DE X W .bor a ma) (hb : DE X W .bor b mb) (hs : PlainIx b := by exact fun _ _ => rfl) : DE X W .dat (.Subscript a b pos) (eBin dIx ma mb) := PE.imp (pe_ix od_ix ha hb hs) fun _ _ _ => eof_bin ne_ix
end
/-! slices -/
def cutD {α : Type} (xs : List α) (lo hi : Option Int) : List α := (xs.drop (HT.sIx xs.length 0 lo)).take (HT.sIx xs.length xs.length hi - HT.sIx xs.length 0 lo)
def dSl (x : D) (lo hi : Option Int) : ER := match x with
  | .list ds => .ok (.list (cutD ds lo hi))
  | .tuple ds => .ok (.tuple (cutD ds lo hi))
  | .str z => if z.length ≤ sizeLine then .ok (.str (cutS z lo hi)) else .bad
  | _ => .bad
inductive OR where
  | ok (o : Option Int) | ex (c : Str) | bad
def evO : Option EM → Env → OR
  | none, _ => .ok none
  | some m, ρ => match m ρ with
    | .ok (.int i) => .ok (some i)
    | .ok _ => .bad
    | .ex c => .ex c
    | .bad => .bad
def eSl (m : EM) (ml mh : Option EM) : EM := fun ρ => (m ρ).bind fun x => match evO ml ρ with
  | .ok lo => (match evO mh ρ with
    | .ok hi => dSl x lo hi
    | .ex c => .ex c
    | .bad => .bad)
  | .ex c => .ex c
  | .bad => .bad
def oOf (K : PySem.W.Frag) (W : WQ) (m : Option EM) : TO := fun σ H Q => ∃ (Hf Hb : Hp) (ρ : Env), RelE K W.pin Hf Hb H σ ρ ∧
  (∀ o, evO m ρ = .ok o → ∀ Hb' H', Gw Hb H Hb' H' → Q o H') ∧
  (∀ c, evO m ρ = .ex c → ∀ Hb' H', Gw Hb H Hb' H' → W.w (.ref (He.ga K c)) none σ H') ∧ evO m ρ ≠ .bad
abbrev DO (X : Cx) (W : WQ) (e : Option Expr) (m : Option EM) : Prop := PO X e (oOf X.K W m)
theorem PO.imp {X : Cx} {e : Option Expr} {t t' : TO} (h : PO X e t) (i : ∀ σ H Q, t' σ H Q → t σ H Q) : PO X e t' := ⟨fun pins s σ H Q I q => h.run pins s σ H Q I (i σ H Q q)⟩
def rSlD (K : PySem.W.Frag) : V → Option Int → Option Int → Hp → VK → Prop := fun x lo hi H Q => ∃ Hb dx d, Ex Hb H ∧ Bo K Hb H x dx ∧ dSl dx lo hi = .ok d ∧ ∀ v Hb' H', Gw Hb H Hb' H' → Dr K Hb' v d → Q v H'
theorem drAll_cut {K : PySem.W.Frag} {H : Hp} {ds : List D} {vs : List V} (lo hi : Option Int) (a : DrAll K H vs ds) : DrAll K H (cutV vs lo hi) (cutD ds lo hi) := by
  unfold cutV cutD
  rw [drAll_len a]
  exact drAll_take _ (drAll_drop _ a)
section
variable {X : Cx} {W : WQ} {a : Expr} {lo hi : Option Expr} {e : Expr} {m : EM} {ml mh : Option EM} {pos p2 : Pos}
theorem do_none : DO X W none none := PO.imp po_none fun σ H Q ⟨Hf, Hb, ρ, R, h1, _, _⟩ => h1 none rfl Hb H (Gw.refl R.eb)
theorem do_some (h : DE X W .bor e m) : DO X W (some e) (some m) := PO.imp (po_some h) fun σ H Q ⟨Hf, Hb, ρ, R, h1, h2, h3⟩ => by
  refine ⟨Hf, Hb, ρ, R, fun d hd v Hb' H' g r => ?_, fun c hc => h2 c (by simp [evO, hc]), fun z => h3 (by simp [evO, z])⟩
  cases d with
  | int i => exact ⟨i, Bo.int r, h1 (some i) (by simp [evO, hd]) Hb' H' g⟩
  | _ => exact absurd (by simp [evO, hd]) h3
theorem od_sl : SlR X (rSlD X.K) := by
  intro pins s σ H x v vl vu lo hi sl Q I rx hs pl pu h
  obtain ⟨Hb, dx, d, eb, bx, hg, q⟩ := h
  cases dx <;> simp only [dSl] at hg <;> first | cases hg; done | skip
  · split at hg
    · rename_i hz
      cases hg
      exact sl_str pins s σ H x v vl vu lo hi sl Q I rx hs pl pu ⟨_, bx.str, hz, q _ Hb H (Gw.refl eb) (.str _)⟩
    · cases hg
  · cases hg
    obtain ⟨p, xs, e1, s1, a1⟩ := bx.lst eb
    refine sl_list pins s σ H x v vl vu lo hi sl Q I rx hs pl pu ⟨p, xs, e1, s1, fun r hr => ?_⟩
    have z := Gw.lst eb hr (drAll_cut lo hi a1)
    exact q _ _ _ z.1 z.2
  · cases hg
    obtain ⟨p, xs, e1, s1, a1⟩ := bx.tup eb
    refine sl_tupA pins s σ H x v vl vu lo hi sl Q I rx hs pl pu ⟨p, xs, e1, s1, fun hw => ?_, fun _ r hr => ?_⟩
    · rename_i ds
      have e2 : cutD ds lo hi = ds := by
        unfold cutD
        rw [drAll_len a1] at hw
        rw [hw.1, hw.2]
        simp
      rw [e2] at q
      rcases bx with b2 | ⟨_, _, _, _, b2⟩
      · rw [← e1]
        exact q _ Hb H (Gw.refl eb) b2
      · cases b2
    · have z := Gw.tup eb hr (drAll_cut lo hi a1)
      exact q _ _ _ z.1 z.2
theorem de_sl (ha : DE X W .bor a m) (hl : DO X W lo ml) (hh : DO X W hi mh) : DE X W .dat (.Subscript a (.Slice lo hi none p2) pos) (eSl m ml mh) := PE.imp (pe_slice od_sl ha hl hh) fun σ H Q ⟨Hf, Hb, ρ, R, h1, h2, h3⟩ => by
  refine ⟨Hf, Hb, ρ, R, fun d hd v Hb1 H1 g1 r1 => ?_, fun c hc => h2 c (by simp [eSl, hc, ER.bind]), fun z => h3 (by simp [eSl, z, ER.bind])⟩
  refine ⟨Hf, Hb1, ρ, R.gw g1, fun o ho Hb2 H2 g2 => ?_, fun c hc Hb2 H2 g2 => h2 c (by simp [eSl, hd, hc, ER.bind]) Hb2 H2 (g1.trans g2), fun z => h3 (by simp [eSl, hd, z, ER.bind])⟩
  refine ⟨Hf, Hb2, ρ, R.gw (g1.trans g2), fun o2 ho2 Hb3 H3 g3 => ?_, fun c hc Hb3 H3 g3 => h2 c (by simp [eSl, hd, ho, hc, ER.bind]) Hb3 H3 ((g1.trans g2).trans g3), fun z => h3 (by simp [eSl, hd, ho, z, ER.bind])⟩
  have e : eSl m ml mh ρ = dSl d o o2 := by simp [eSl, hd, ho, ho2, ER.bind]
  rw [e] at h1 h2 h3
  cases q : dSl d o o2 with
  | bad => exact absurd q h3
  | ex c =>
    exfalso
    cases d <;> simp only [dSl] at q <;> first | cases q; done | (split at q <;> cases q)
  | ok z => exact ⟨Hb3, d, z, g3.bh, Bo.ex (g2.b.trans g3.b) (g2.h.trans g3.h) r1, q, fun v Hb4 H4 g4 r4 => h1 z q v Hb4 H4 (((g1.trans g2).trans g3).trans g4) r4⟩
end
end DL

/-! DL4: built-in calls, own calls. -/
namespace DL
open PySem L2 Evl

/-! ### built-in calls -/
def cOf (K : PySem.W.Frag) (kd : Kd) (g : List D → ER) : List V → Hp → VK → Prop := fun vs H Q => ∃ Hb ks ds d, Ex Hb H ∧ RaAll K Hb H ks vs ds ∧ g ds = .ok d ∧ ∀ v Hb' H', Gw Hb H Hb' H' → Rs K kd H Hb' H' v d → Q v H'
abbrev CallD (X : Cx) (f : Value) (kd : Kd) (g : List D → ER) : Prop := CallR X f (cOf X.K kd g)
def NoExL (g : List D → ER) : Prop := ∀ ds c, g ds ≠ .ex c
def eCall (g : List D → ER) (ms : List EM) : EM := fun ρ => match evA ms ρ with
  | .ok ds => g ds
  | .ex c => .ex c
  | .bad => .bad
theorem eof_callB {K : PySem.W.Frag} {W : WQ} {kd : Kd} {g : List D → ER} {ks : List Kd} {ms : List EM} (ng : NoExL g) {σ : L2.St} {H : Hp} {Q : VK} (h : eOf K W kd (eCall g ms) σ H Q) : tCB (cOf K kd g) (aOf K W ks ms) σ H Q := by
  obtain ⟨Hf, Hb, ρ, R, h1, h2, h3⟩ := h
  refine ⟨Hf, Hb, ρ, R, fun ds hds vs Hb1 H1 g1 r1 => ?_, fun c hc => h2 c (by simp [eCall, hc]), fun z => h3 (by simp [eCall, z])⟩
  have e : eCall g ms ρ = g ds := by simp [eCall, hds]
  rw [e] at h1 h3
  cases q : g ds with
  | bad => exact absurd q h3
  | ex c => exact absurd q (ng _ _)
  | ok z => exact ⟨Hb1, ks, ds, z, g1.bh, r1, q, fun v Hb2 H2 g2 r2 => h1 z q v Hb2 H2 (g1.trans g2) (r2.back g1.h)⟩
section
variable {X : Cx} {W : WQ} {kd : Kd} {ks : List Kd} {x : Str} {p pos : Pos} {e : Expr} {es : List Expr} {ms : List EM} {id T : String} {g : List D → ER}
theorem de_callB (hc : CallD X (.builtin id) kd g) (ng : NoExL g) (hm : X.mg x = none) (hv : bootBuiltins x = some (.builtin id)) (ha : DA X W ks (e :: es) ms) (hg : Gl X x := by rfl) (hn : x ≠ "__name__" := by decide) (hdb : (x == ("__debug__" : Str)) = false := by decide)
    (he : starEach (e :: es) X.env = (false, eval e X.env) :: starEach es X.env := by rfl) (hpl : (backTo pos (starEach es X.env)).any (·.1) = false := by rfl) : DE X W kd (.Call (.Name x p) (e :: es) [] pos) (eCall g ms) :=
  PE.imp (pe_callB hc hg hm hv ha hn hdb he hpl) fun _ _ _ => eof_callB ng
theorem de_callTy (hc : CallD X (.type T) kd g) (ng : NoExL g) (hm : X.mg x = none) (hv : bootBuiltins x = some (.type T)) (ha : DA X W ks (e :: es) ms) (hg : Gl X x := by rfl) (hn : x ≠ "__name__" := by decide) (hdb : (x == ("__debug__" : Str)) = false := by decide)
    (he : starEach (e :: es) X.env = (false, eval e X.env) :: starEach es X.env := by rfl) (hpl : (backTo pos (starEach es X.env)).any (·.1) = false := by rfl) : DE X W kd (.Call (.Name x p) (e :: es) [] pos) (eCall g ms) :=
  PE.imp (pe_callTy hc hg hm hv ha hn hdb he hpl) fun _ _ _ => eof_callB ng
end
theorem Ra.bo {K : PySem.W.Frag} {kd : Kd} {Hb H : Hp} {v : V} {d : D} (h : Ra K kd Hb H v d) : Bo K Hb H v d := by
  cases kd with
  | dat => exact .inl h
  | new => exact h
  | bor => exact h
  | io p => exact h
theorem ra1 {K : PySem.W.Frag} {Hb H : Hp} {ks : List Kd} {vs : List V} {d : D} (h : RaAll K Hb H ks vs [d]) : ∃ v, vs = [v] ∧ Bo K Hb H v d := by
  cases h with
  | cons a b =>
    cases b
    exact ⟨_, rfl, a.bo⟩
theorem ra2 {K : PySem.W.Frag} {Hb H : Hp} {ks : List Kd} {vs : List V} {d e : D} (h : RaAll K Hb H ks vs [d, e]) : ∃ v w, vs = [v, w] ∧ Bo K Hb H v d ∧ Bo K Hb H w e := by
  cases h with
  | cons a b =>
    cases b with
    | cons c b =>
      cases b
      exact ⟨_, _, rfl, a.bo, c.bo⟩
def bLen : List D → ER
  | [.list ds] => .ok (.int ds.length)
  | [.tuple ds] => .ok (.int ds.length)
  | [.str z] => if z.length ≤ sizeLine then .ok (.int z.length) else .bad
  | _ => .bad
def bMin : List D → ER
  | [.int i, .int j] => .ok (.int (if j < i then j else i))
  | _ => .bad
def bAbs : List D → ER
  | [.int i] => .ok (.int (if i < 0 then -i else i))
  | _ => .bad
def bInt : List D → ER
  | [.int i] => .ok (.int i)
  | [.bool k] => .ok (.int (if k then 1 else 0))
  | _ => .bad
def bDivmod : List D → ER
  | [.int i, .int j] => if 0 < j ∧ j.natAbs.log2 < 9000 then .ok (.tuple [.int (i / j), .int (i % j)]) else .bad
  | _ => .bad
def bList : List D → ER
  | [.list ds] => .ok (.list ds)
  | [.tuple ds] => .ok (.list ds)
  | _ => .bad
def bTuple : List D → ER
  | [.list ds] => .ok (.tuple ds)
  | [.tuple ds] => .ok (.tuple ds)
  | _ => .bad
def toInts : List D → Option (List Int)
  | [] => some []
  | .int i :: r => (toInts r).map (i :: ·)
  | _ => none
def toBools : List D → Option (List Bool)
  | [] => some []
  | .bool i :: r => (toBools r).map (i :: ·)
  | _ => none
/-- the greatest of some -/
def maxI (n : Int) (ns : List Int) : Int := ns.foldl max n
theorem maxI_ge : ∀ (ns : List Int) (n : Int), n ≤ maxI n ns ∧ ∀ y ∈ ns, y ≤ maxI n ns
  | [], n => ⟨Int.le_refl _, fun y h => by cases h⟩
  | m :: ns, n => by
    have ih := maxI_ge ns (max n m)
    show n ≤ maxI (max n m) ns ∧ ∀ y ∈ m :: ns, y ≤ maxI (max n m) ns
    refine ⟨by omega, fun y hy => ?_⟩
    rcases List.mem_cons.mp hy with h | h
    · omega
    · exact ih.2 y h
theorem maxI_mem : ∀ (ns : List Int) (n : Int), maxI n ns ∈ n :: ns
  | [], n => List.mem_singleton.mpr rfl
  | m :: ns, n => by
    have ih := maxI_mem ns (max n m)
    show maxI (max n m) ns ∈ n :: m :: ns
    rcases List.mem_cons.mp ih with h | h
    · rcases Int.le_total n m with z | z
      · rw [h, Int.max_eq_right z]
        exact List.mem_cons_of_mem _ List.mem_cons_self
      · rw [h, Int.max_eq_left z]
        exact List.mem_cons_self
    · exact List.mem_cons_of_mem _ (List.mem_cons_of_mem _ h)
def bMax : List D → ER
  | [.int i, .int j] => .ok (.int (if j > i then j else i))
  | [.list ds] => (match toInts ds with
    | some (n :: ns) => .ok (.int (maxI n ns))
    | _ => .bad)
  | _ => .bad
def bSum : List D → ER
  | [.list ds] => (match toInts ds with
    | some ns => .ok (.int ns.sum)
    | none => .bad)
  | _ => .bad
def bAll : List D → ER
  | [.list ds] => (match toBools ds with
    | some ns => .ok (.bool (ns.all id))
    | none => .bad)
  | _ => .bad
def bAny : List D → ER
  | [.list ds] => (match toBools ds with
    | some ns => .ok (.bool (ns.any id))
    | none => .bad)
  | _ => .bad
theorem toInts_vals {K : PySem.W.Frag} {H : Hp} : ∀ {ds : List D} {vs : List V} {ns : List Int}, toInts ds = some ns → DrAll K H vs ds → vs = ns.map V.int
  | [], _, _, h, .nil => by
    cases h
    rfl
  | .int i :: r, _, _, h, .cons a b => by
    simp only [toInts] at h
    cases q : toInts r with
    | none =>
      rw [q] at h
      cases h
    | some m =>
      rw [q] at h
      cases h
      cases a
      rw [toInts_vals q b]
      rfl
  | .none :: _, _, _, h, _ => by cases h
  | .bool _ :: _, _, _, h, _ => by cases h
  | .str _ :: _, _, _, h, _ => by cases h
  | .list _ :: _, _, _, h, _ => by cases h
  | .tuple _ :: _, _, _, h, _ => by cases h
  | .dict _ :: _, _, _, h, _ => by cases h
theorem toBools_vals {K : PySem.W.Frag} {H : Hp} : ∀ {ds : List D} {vs : List V} {ns : List Bool}, toBools ds = some ns → DrAll K H vs ds → vs = ns.map V.bl
  | [], _, _, h, .nil => by
    cases h
    rfl
  | .bool i :: r, _, _, h, .cons a b => by
    simp only [toBools] at h
    cases q : toBools r with
    | none =>
      rw [q] at h
      cases h
    | some m =>
      rw [q] at h
      cases h
      cases a
      rw [toBools_vals q b]
      rfl
  | .none :: _, _, _, h, _ => by cases h
  | .int _ :: _, _, _, h, _ => by cases h
  | .str _ :: _, _, _, h, _ => by cases h
  | .list _ :: _, _, _, h, _ => by cases h
  | .tuple _ :: _, _, _, h, _ => by cases h
  | .dict _ :: _, _, _, h, _ => by cases h
/-- the data of one argument, of two, by what the meaning takes -/
theorem ne_len : NoExL bLen := fun ds c h => by
  unfold bLen at h
  repeat' split at h
  all_goals cases h
theorem ne_min : NoExL bMin := fun ds c h => by
  unfold bMin at h
  repeat' split at h
  all_goals cases h
theorem ne_max : NoExL bMax := fun ds c h => by
  unfold bMax at h
  repeat' split at h
  all_goals cases h
theorem ne_abs : NoExL bAbs := fun ds c h => by
  unfold bAbs at h
  repeat' split at h
  all_goals cases h
theorem ne_intb : NoExL bInt := fun ds c h => by
  unfold bInt at h
  repeat' split at h
  all_goals cases h
theorem ne_divmod : NoExL bDivmod := fun ds c h => by
  unfold bDivmod at h
  repeat' split at h
  all_goals cases h
theorem ne_list : NoExL bList := fun ds c h => by
  unfold bList at h
  repeat' split at h
  all_goals cases h
theorem ne_tuple : NoExL bTuple := fun ds c h => by
  unfold bTuple at h
  repeat' split at h
  all_goals cases h
theorem ne_sum : NoExL bSum := fun ds c h => by
  unfold bSum at h
  repeat' split at h
  all_goals cases h
theorem ne_all : NoExL bAll := fun ds c h => by
  unfold bAll at h
  repeat' split at h
  all_goals cases h
theorem ne_any : NoExL bAny := fun ds c h => by
  unfold bAny at h
  repeat' split at h
  all_goals cases h
section
variable {X : Cx}
theorem cd_len : CallD X (.builtin "len") .dat bLen := by
  intro pins s σ H vs us Q I r h
  obtain ⟨Hb, ks, ds, d, eb, ra, hg, q⟩ := h
  unfold bLen at hg
  split at hg
  · cases hg
    obtain ⟨v, rfl, b⟩ := ra1 ra
    obtain ⟨p, xs, e1, s1, a1⟩ := b.lst eb
    exact call_len pins s σ H _ us Q I r ⟨v, xs.length, rfl, by rw [e1]; exact .inl ⟨xs, s1, rfl⟩, by rw [drAll_len a1]; exact q _ Hb H (Gw.refl eb) rs_int⟩
  · cases hg
    obtain ⟨v, rfl, b⟩ := ra1 ra
    obtain ⟨p, xs, e1, s1, a1⟩ := b.tup eb
    exact call_len pins s σ H _ us Q I r ⟨v, xs.length, rfl, by rw [e1]; exact .inr ⟨xs, s1, rfl⟩, by rw [drAll_len a1]; exact q _ Hb H (Gw.refl eb) rs_int⟩
  · split at hg
    · rename_i hz
      cases hg
      obtain ⟨v, rfl, b⟩ := ra1 ra
      exact call_len pins s σ H _ us Q I r ⟨v, _, rfl, by rw [b.str]; exact ⟨hz, rfl⟩, q _ Hb H (Gw.refl eb) rs_int⟩
    · cases hg
  · cases hg
theorem cd_min (hc : X.calm = true) : CallD X (.builtin "min") .dat bMin := by
  intro pins s σ H vs us Q I r h
  obtain ⟨Hb, ks, ds, d, eb, ra, hg, q⟩ := h
  unfold bMin at hg
  split at hg
  · cases hg
    obtain ⟨v, w, rfl, b1, b2⟩ := ra2 ra
    exact call_min2 hc pins s σ H _ us Q I r ⟨_, _, by rw [b1.int, b2.int], q _ Hb H (Gw.refl eb) rs_int⟩
  · cases hg
theorem cd_max (hc : X.calm = true) : CallD X (.builtin "max") .dat bMax := by
  intro pins s σ H vs us Q I r h
  obtain ⟨Hb, ks, ds, d, eb, ra, hg, q⟩ := h
  unfold bMax at hg
  split at hg
  · cases hg
    obtain ⟨v, w, rfl, b1, b2⟩ := ra2 ra
    exact call_max2 hc pins s σ H _ us Q I r ⟨_, _, by rw [b1.int, b2.int], q _ Hb H (Gw.refl eb) rs_int⟩
  · split at hg
    · rename_i n ns hn
      cases hg
      obtain ⟨v, rfl, b1⟩ := ra1 ra
      obtain ⟨p, xs, e1, s1, a1⟩ := b1.lst eb
      rw [toInts_vals hn a1] at s1
      refine cr_max hc pins s σ H _ us Q I r ⟨p, n :: ns, by rw [e1], s1, by simp, fun m h1 h2 => ?_⟩
      have e2 : m = maxI n ns := by
        have z1 := h2 _ (maxI_mem ns n)
        have z2 := maxI_ge ns n
        rcases List.mem_cons.mp h1 with z | z
        · omega
        · have := z2.2 m z
          omega
      rw [e2]
      exact q _ Hb H (Gw.refl eb) rs_int
    · cases hg
  · cases hg
theorem cd_abs : CallD X (.builtin "abs") .dat bAbs := by
  intro pins s σ H vs us Q I r h
  obtain ⟨Hb, ks, ds, d, eb, ra, hg, q⟩ := h
  unfold bAbs at hg
  split at hg
  · cases hg
    obtain ⟨v, rfl, b1⟩ := ra1 ra
    exact call_abs pins s σ H _ us Q I r ⟨_, by rw [b1.int], q _ Hb H (Gw.refl eb) rs_int⟩
  · cases hg
theorem cd_int : CallD X (.type "int") .dat bInt := by
  intro pins s σ H vs us Q I r h
  obtain ⟨Hb, ks, ds, d, eb, ra, hg, q⟩ := h
  unfold bInt at hg
  split at hg
  · cases hg
    obtain ⟨v, rfl, b1⟩ := ra1 ra
    exact call_int1 pins s σ H _ us Q I r (.inl ⟨_, by rw [b1.int], q _ Hb H (Gw.refl eb) rs_int⟩)
  · cases hg
    obtain ⟨v, rfl, b1⟩ := ra1 ra
    exact call_int1 pins s σ H _ us Q I r (.inr ⟨_, by rw [b1.bl], q _ Hb H (Gw.refl eb) rs_int⟩)
  · cases hg
theorem cd_divmod : CallD X (.builtin "divmod") .dat bDivmod := by
  intro pins s σ H vs us Q I r h
  obtain ⟨Hb, ks, ds, d, eb, ra, hg, q⟩ := h
  unfold bDivmod at hg
  split at hg
  · split at hg
    · rename_i i j hz
      cases hg
      obtain ⟨v, w, rfl, b1, b2⟩ := ra2 ra
      refine call_divmodW pins s σ H _ us Q I r ⟨i, j, by rw [b1.int, b2.int], ⟨hz.1, PyProof.noPylong_of_log2 hz.2⟩, fun p hp => ?_⟩
      have z := Gw.tup (K := X.K) (xs := [.int (i / j), .int (i % j)]) eb hp (.cons (.int (i / j)) (.cons (.int (i % j)) .nil))
      exact q _ _ _ z.1 z.2
    · cases hg
  · cases hg
theorem cd_list : CallD X (.type "list") .new bList := by
  intro pins s σ H vs us Q I r h
  obtain ⟨Hb, ks, ds, d, eb, ra, hg, q⟩ := h
  unfold bList at hg
  split at hg
  · cases hg
    obtain ⟨v, rfl, b1⟩ := ra1 ra
    obtain ⟨p, xs, e1, s1, a1⟩ := b1.lst eb
    subst e1
    refine call_list_of pins s σ H _ us Q I r ⟨p, xs, rfl, .inl s1, fun l hl => ?_⟩
    have z := Gw.lstN eb hl a1
    exact q _ _ _ z.1 z.2
  · cases hg
    obtain ⟨v, rfl, b1⟩ := ra1 ra
    obtain ⟨p, xs, e1, s1, a1⟩ := b1.tup eb
    subst e1
    refine call_list_of pins s σ H _ us Q I r ⟨p, xs, rfl, .inr s1, fun l hl => ?_⟩
    have z := Gw.lstN eb hl a1
    exact q _ _ _ z.1 z.2
  · cases hg
theorem cd_tuple : CallD X (.type "tuple") .dat bTuple := by
  intro pins s σ H vs us Q I r h
  obtain ⟨Hb, ks, ds, d, eb, ra, hg, q⟩ := h
  unfold bTuple at hg
  split at hg
  · cases hg
    obtain ⟨v, rfl, b1⟩ := ra1 ra
    obtain ⟨p, xs, e1, s1, a1⟩ := b1.lst eb
    subst e1
    refine call_tuple_of pins s σ H _ us Q I r ⟨p, xs, rfl, .inl ⟨s1, fun l hl => ?_⟩⟩
    have z := Gw.tup eb hl a1
    exact q _ _ _ z.1 z.2
  · cases hg
    obtain ⟨v, rfl, b1⟩ := ra1 ra
    obtain ⟨p, xs, e1, s1, a1⟩ := b1.tup eb
    subst e1
    refine call_tuple_of pins s σ H _ us Q I r ⟨p, xs, rfl, .inr ⟨s1, q _ Hb H (Gw.refl eb) ?_⟩⟩
    rcases b1 with b | ⟨_, _, _, _, b⟩
    · exact b
    · cases b
  · cases hg
theorem cd_sum (hc : X.calm = true) : CallD X (.builtin "sum") .dat bSum := by
  intro pins s σ H vs us Q I r h
  obtain ⟨Hb, ks, ds, d, eb, ra, hg, q⟩ := h
  unfold bSum at hg
  split at hg
  · split at hg
    · rename_i ns hn
      cases hg
      obtain ⟨v, rfl, b1⟩ := ra1 ra
      obtain ⟨p, xs, e1, s1, a1⟩ := b1.lst eb
      rw [toInts_vals hn a1] at s1
      exact cr_sum hc pins s σ H _ us Q I r ⟨p, ns, by rw [e1], s1, q _ Hb H (Gw.refl eb) rs_int⟩
    · cases hg
  · cases hg
theorem cd_all (hc : X.calm = true) : CallD X (.builtin "all") .dat bAll := by
  intro pins s σ H vs us Q I r h
  obtain ⟨Hb, ks, ds, d, eb, ra, hg, q⟩ := h
  unfold bAll at hg
  split at hg
  · split at hg
    · rename_i ns hn
      cases hg
      obtain ⟨v, rfl, b1⟩ := ra1 ra
      obtain ⟨p, xs, e1, s1, a1⟩ := b1.lst eb
      rw [toBools_vals hn a1] at s1
      exact cr_all hc pins s σ H _ us Q I r ⟨p, ns, by rw [e1], s1, q _ Hb H (Gw.refl eb) rs_bl⟩
    · cases hg
  · cases hg
theorem cd_any (hc : X.calm = true) : CallD X (.builtin "any") .dat bAny := by
  intro pins s σ H vs us Q I r h
  obtain ⟨Hb, ks, ds, d, eb, ra, hg, q⟩ := h
  unfold bAny at hg
  split at hg
  · split at hg
    · rename_i ns hn
      cases hg
      obtain ⟨v, rfl, b1⟩ := ra1 ra
      obtain ⟨p, xs, e1, s1, a1⟩ := b1.lst eb
      rw [toBools_vals hn a1] at s1
      exact cr_any hc pins s σ H _ us Q I r ⟨p, ns, by rw [e1], s1, q _ Hb H (Gw.refl eb) rs_bl⟩
    · cases hg
  · cases hg
end
/-! ### isinstance(x, T), T built in -/
def tyName : D → String
  | .none => "NoneType"
  | .bool _ => "bool"
  | .int _ => "int"
  | .str _ => "str"
  | .list _ => "list"
  | .tuple _ => "tuple"
  | .dict _ => "dict"
def isT (T : String) : D → Bool
  | .none => T == "NoneType"
  | .bool _ => T == "bool" || T == "int"
  | .int _ => T == "int"
  | .str _ => T == "str"
  | .list _ => T == "list"
  | .tuple _ => T == "tuple"
  | .dict _ => T == "dict"
def eIsi (T : String) (m : EM) : EM := fun ρ => (m ρ).bind fun d => .ok (.bool (isT T d))
theorem kit_all (T : String) (h : (["NoneType", "bool", "int", "str", "list", "tuple", "dict"].map fun n => kitB n T) = [some (T == "NoneType"), some (T == "bool" || T == "int"), some (T == "int"), some (T == "str"), some (T == "list"), some (T == "tuple"), some (T == "dict")]) (d : D) : kitB (tyName d) T = some (isT T d) := by
  simp only [List.map_cons, List.map_nil, List.cons.injEq] at h
  obtain ⟨h1, h2, h3, h4, h5, h6, h7, _⟩ := h
  cases d <;> assumption
theorem kit_int (d : D) : kitB (tyName d) "int" = some (isT "int" d) := kit_all "int" (by decide +kernel) d
theorem kit_str (d : D) : kitB (tyName d) "str" = some (isT "str" d) := kit_all "str" (by decide +kernel) d
theorem kit_bool (d : D) : kitB (tyName d) "bool" = some (isT "bool" d) := kit_all "bool" (by decide +kernel) d
theorem kit_list (d : D) : kitB (tyName d) "list" = some (isT "list" d) := kit_all "list" (by decide +kernel) d
theorem kit_tuple (d : D) : kitB (tyName d) "tuple" = some (isT "tuple" d) := kit_all "tuple" (by decide +kernel) d
theorem Bo.ty {K : PySem.W.Frag} {Hb H : Hp} {v : V} {d : D} (eb : Ex Hb H) (h : Bo K Hb H v d) : TyX K H v (.type (tyName d)) := by
  rcases h with h | ⟨p, h1, o, h2, h3⟩
  · cases h with
    | non => exact .base .non
    | bl b => exact .base (.bl b)
    | int b => exact .base (.int b)
    | str b => exact .base (.str b)
    | lst a b =>
      rcases a with (a | ⟨o, a⟩) | ⟨o, _, _, a, c, _⟩
      · exact .base (.lst (eb _ _ a))
      · exact .base (.frz (eb _ _ a))
      · exact .kList a c
    | tup a b => exact .base (.tup (eb _ _ a))
    | dict0 a =>
      rcases a with a | ⟨o, a⟩
      · exact .base (.dK (eb _ _ a))
      · exact .fDict (eb _ _ a)
  · subst h1
    cases h3 with
    | lst a => exact .base (.lst h2)
    | dK a => exact .base (.dK h2)
    | dT a => exact .base (.dT h2)
section
variable {X : Cx} {W : WQ} {a : Expr} {m : EM} {p p2 pos : Pos}
theorem de_isi (T : String) {x : Str} (hT : bootBuiltins x = some (.type T)) (hk : ∀ d, kitB (tyName d) T = some (isT T d)) (hm : X.mg "isinstance" = none) (hmx : X.mg x = none) (ha : DE X W .bor a m) (hg : Gl X "isinstance" := by rfl) (hgx : Gl X x := by rfl)
    (hn : x ≠ "__name__" := by decide) (hdb : (x == ("__debug__" : Str)) = false := by decide)
    (hs : starEach [a, .Name x p2] X.env = (false, eval a X.env) :: starEach [.Name x p2] X.env := by rfl) (hs2 : starEach [.Name x p2] X.env = (false, eval (.Name x p2) X.env) :: starEach [] X.env := by rfl)
    (hpl : (backTo pos (starEach [.Name x p2] X.env)).any (·.1) = false := by rfl) : DE X W .dat (.Call (.Name "isinstance" p) [a, .Name x p2] [] pos) (eIsi T m) :=
  PE.imp (pe_callB call_isi hg hm PyProof.Rows.boot_isinstance (pa_cons ha (pa_cons (pe_bltn (v := .ty T) hgx hmx hT rfl hn hdb) pa_nil hs2) hs) (by decide) (by decide) hs hpl) fun σ H Q ⟨Hf, Hb, ρ, R, h1, h2, h3⟩ => by
    refine ⟨Hf, Hb, ρ, R, fun d hd v Hb1 H1 g1 r1 => ?_, fun c hc => h2 c (by simp [eIsi, hc, ER.bind]), fun z => h3 (by simp [eIsi, z, ER.bind])⟩
    exact ⟨v, .ty T, .type (tyName d), .type T, isT T d, rfl, .ty T, Bo.ty g1.bh r1, kit_ty (hk d), h1 (.bool (isT T d)) (by simp [eIsi, hd, ER.bind]) _ Hb1 H1 g1 rs_bl⟩
end

/-! ### own defs -/
/-- what a def promises, by its meaning m: arguments of the kinds ks, a result of the kind rk -/
def SpM (K : PySem.W.Frag) (ks : List Kd) (rk : Kd) (m : List D → ER) : Sp := fun vs H Q E => ∃ Hb ds, Ex Hb H ∧ RaAll K Hb H ks vs ds ∧
  (∀ d, m ds = .ok d → ∀ v Hb' H', Gw Hb H Hb' H' → Rs K rk H Hb' H' v d → Q v H') ∧ (∀ c, m ds = .ex c → ∀ Hb' H', Gw Hb H Hb' H' → E (.ref (He.ga K c)) none H') ∧ m ds ≠ .bad
theorem eof_call {K : PySem.W.Frag} {W : WQ} {rk : Kd} {g : List D → ER} {ks : List Kd} {ms : List EM} {σ : L2.St} {H : Hp} {Q : VK} (h : eOf K W rk (eCall g ms) σ H Q) : tCallS (SpM K ks rk g) (WE W.w) (aOf K W ks ms) σ H Q := by
  obtain ⟨Hf, Hb, ρ, R, h1, h2, h3⟩ := h
  refine ⟨Hf, Hb, ρ, R, fun ds hds vs Hb1 H1 g1 r1 => ?_, fun c hc => h2 c (by simp [eCall, hc]), fun z => h3 (by simp [eCall, z])⟩
  have e : eCall g ms ρ = g ds := by simp [eCall, hds]
  rw [e] at h1 h2 h3
  exact ⟨Hb1, ds, g1.bh, r1, fun d hd v Hb2 H2 g2 r2 => h1 d hd v Hb2 H2 (g1.trans g2) (r2.back g1.h), fun c hc Hb2 H2 g2 => h2 c hc Hb2 H2 (g1.trans g2), h3⟩
section
variable {X : Cx} {W : WQ} {rk : Kd} {ks : List Kd} {x : Str} {p pos : Pos} {e : Expr} {es : List Expr} {ms : List EM} {g : List D → ER} {k : Nat} {f : Addr} {fd : FuncData} {ps : List Str}
theorem de_call (F : FnOk X.prog X.w X.K X.mg X.base (L2.CX X.prog X.w) k f fd ps (SpM X.K ks rk g)) (hr : Room k X.A) (hm : X.mg x = some (.ref f)) (hk : PySem.W.keepIn X.K (.ref f) = true) (hb : Binds X.K fd ps []) (tk : Takes X W.w)
    (ha : DA X W ks (e :: es) ms) (hg : Gl X x := by rfl) (hdb : (x == ("__debug__" : Str)) = false := by decide) (he : starEach (e :: es) X.env = (false, eval e X.env) :: starEach es X.env := by rfl) (hpl : (backTo pos (starEach es X.env)).any (·.1) = false := by rfl) :
    DE X W rk (.Call (.Name x p) (e :: es) [] pos) (eCall g ms) :=
  PE.imp (pe_callS F hr hg hm hk hb (fun σ => passAt tk σ) ha hdb he hpl) fun _ _ _ => eof_call
end
end DL

/-! DL5: statements, loops, defs. -/
namespace DL
open PySem L2 Evl

structure Bw (Hf Hb Hb' H' : Hp) : Prop where
  b : Ex Hb Hb'
  bh : Ex Hb' H'
  nw : ∀ a, Hb a = none → NT (Hf a) → Hb' a = none
theorem Bw.refl {Hf Hb H : Hp} (e : Ex Hb H) : Bw Hf Hb Hb H := ⟨Ex.refl _, e, fun _ h _ => h⟩
theorem Bw.trans {Hf Hb Hb1 H1 Hb2 H2 : Hp} (g : Bw Hf Hb Hb1 H1) (k : Bw Hf Hb1 Hb2 H2) : Bw Hf Hb Hb2 H2 :=
  ⟨g.b.trans k.b, k.bh, fun a h1 h2 => k.nw a (g.nw a h1 h2) h2⟩
theorem Gw.bw {Hf Hb H Hb' H' : Hp} (g : Gw Hb H Hb' H') (e : Ex Hf H) : Bw Hf Hb Hb' H' := ⟨g.b, g.bh, fun a h1 h2 => g.nw a h1 (ex_ne e h2)⟩
theorem Bw.upd {Hf Hb H : Hp} {p : Addr} {o : HO} (e : Ex Hb H) (hb : Hb p = none) : Bw Hf Hb Hb (L2.upd H p o) :=
  ⟨Ex.refl _, fun a u q => by rw [upd_ne (ne_of_none q hb)]; exact e a u q, fun _ h _ => h⟩

def SPost (K : PySem.W.Frag) (W : WQ) (rk : Kd) (Hf Hb H : Hp) (E : Ends) : Out → Prop
  | .nx ρ => ∀ σ' Hb' H', RelE K W.pin Hf Hb' H' σ' ρ → Bw Hf Hb Hb' H' → E.nx σ' H'
  | .bk ρ => ∀ σ' Hb' H', RelE K W.pin Hf Hb' H' σ' ρ → Bw Hf Hb Hb' H' → E.bk σ' H'
  | .ct ρ => ∀ σ' Hb' H', RelE K W.pin Hf Hb' H' σ' ρ → Bw Hf Hb Hb' H' → E.ct σ' H'
  | .rt d => ∀ v Hb' H', Ex Hf H' → Bw Hf Hb Hb' H' → Rs K rk Hf Hb' H' v d → E.rt v H'
  | .ex c ρ => ∀ σ' Hb' H', RelE K W.pin Hf Hb' H' σ' ρ → Bw Hf Hb Hb' H' → W.w (.ref (He.ga K c)) none σ' H'
  | .bad => False
def sOf (K : PySem.W.Frag) (W : WQ) (rk : Kd) (m : SM) : TS := fun E σ H => ∃ (Hf Hb : Hp) (ρ : Env), RelE K W.pin Hf Hb H σ ρ ∧ SPost K W rk Hf Hb H E (m ρ)
abbrev DS (X : Cx) (W : WQ) (rk : Kd) (st : Stmt) (m : SM) : Prop := PS X st (sOf X.K W rk m)
abbrev DSs (X : Cx) (W : WQ) (rk : Kd) (st : List Stmt) (m : SM) : Prop := PSs X st (sOf X.K W rk m)
theorem SPost.weak {K : PySem.W.Frag} {W : WQ} {rk : Kd} {Hf Hb H Hb1 H1 : Hp} {E : Ends} {r : Out} (g : Bw Hf Hb Hb1 H1) (h : SPost K W rk Hf Hb H E r) : SPost K W rk Hf Hb1 H1 E r := by
  cases r with
  | nx ρ => exact fun σ' Hb' H' R b => h σ' Hb' H' R (g.trans b)
  | bk ρ => exact fun σ' Hb' H' R b => h σ' Hb' H' R (g.trans b)
  | ct ρ => exact fun σ' Hb' H' R b => h σ' Hb' H' R (g.trans b)
  | rt d => exact fun v Hb' H' e b r => h v Hb' H' e (g.trans b) r
  | ex c ρ => exact fun σ' Hb' H' R b => h σ' Hb' H' R (g.trans b)
  | bad => exact h
/-! ### the meanings of statements -/
def sSkip : SM := fun ρ => .nx ρ
def sSeq (a b : SM) : SM := fun ρ => match a ρ with
  | .nx ρ' => b ρ'
  | r => r
def sAsg (i : Nat) (m : EM) : SM := fun ρ => match m ρ with
  | .ok d => .nx (ρ.set i (.dat d))
  | .ex c => .ex c ρ
  | .bad => .bad
def sAsgN (i : Nat) (m : EM) : SM := fun ρ => match m ρ with
  | .ok d => .nx (ρ.set i (.own d))
  | .ex c => .ex c ρ
  | .bad => .bad
def sDrop (m : EM) : SM := fun ρ => match m ρ with
  | .ok _ => .nx ρ
  | .ex c => .ex c ρ
  | .bad => .bad
def sRet (m : EM) : SM := fun ρ => match m ρ with
  | .ok d => .rt d
  | .ex c => .ex c ρ
  | .bad => .bad
/-- an object of one's own is handed back -/
def sRetO (i : Nat) : SM := fun ρ => match ρ[i]? with
  | some (.own d) => .rt d
  | _ => .bad
def sRetF (i : Nat) : SM := fun ρ => match ρ[i]? with
  | some (.own (.list ds)) => .rt (.list ds)
  | _ => .bad
def sIf (c : EM) (a b : SM) : SM := fun ρ => match c ρ with
  | .ok (.bool true) => a ρ
  | .ok (.bool false) => b ρ
  | .ok _ => .bad
  | .ex c => .ex c ρ
  | .bad => .bad
def sBrk : SM := fun ρ => .bk ρ
def sCnt : SM := fun ρ => .ct ρ
/-- xs.append(e), xs one's own -/
def sApp (i : Nat) (m : EM) : SM := fun ρ => match ρ[i]? with
  | some (.own (.list ds)) => (match m ρ with
    | .ok d => if ds.length < sizeLine then .nx (ρ.set i (.own (.list (ds ++ [d])))) else .bad
    | .ex c => .ex c ρ
    | .bad => .bad)
  | _ => .bad
/-- xs[k] = e, xs one's own list -/
def sSetL (i : Nat) (mk me : EM) : SM := fun ρ => match me ρ with
  | .ok d => (match ρ[i]? with
    | some (.own (.list ds)) => (match mk ρ with
      | .ok (.int k) => (match ixN ds.length k with
        | some j => .nx (ρ.set i (.own (.list (ds.set j d))))
        | none => .bad)
      | .ok _ => .bad
      | .ex c => .ex c ρ
      | .bad => .bad)
    | _ => .bad)
  | .ex c => .ex c ρ
  | .bad => .bad
def sRaise (c : Str) : SM := fun ρ => .ex c ρ
/-- an object of one's own is not changed from here on -/
def sFrz (i : Nat) : SM := fun ρ => match ρ[i]? with
  | some (.own (.list ds)) => .nx (ρ.set i (.dat (.list ds)))
  | _ => .bad
abbrev GM := D → Env → Option Env
def gN (i : Nat) : GM := fun d ρ => some (ρ.set i (.dat d))
def gTs : List GM → List D → Env → Option Env
  | [], [], ρ => some ρ
  | g :: gs, d :: ds, ρ => (g d ρ).bind fun ρ' => gTs gs ds ρ'
  | _, _, _ => none
def gT (gs : List GM) : GM := fun d ρ => match d with
  | .tuple ds => gTs gs ds ρ
  | _ => none
def sAsgG (g : GM) (m : EM) : SM := fun ρ => match m ρ with
  | .ok d => (match g d ρ with
    | some ρ' => .nx ρ'
    | none => .bad)
  | .ex c => .ex c ρ
  | .bad => .bad
def forD (g : GM) (body : SM) : List D → SM
  | [], ρ => .nx ρ
  | d :: r, ρ => match g d ρ with
    | none => .bad
    | some ρ1 => match body ρ1 with
      | .nx ρ2 => forD g body r ρ2
      | .ct ρ2 => forD g body r ρ2
      | .bk ρ2 => .nx ρ2
      | o => o
def sFor (mi : Env → AR) (g : GM) (body : SM) : SM := fun ρ => match mi ρ with
  | .ok ds => forD g body ds ρ
  | .ex c => .ex c ρ
  | .bad => .bad
@[irreducible] def FUEL : Nat := 2 ^ 100
def whileN (c : EM) (body : SM) : Nat → SM
  | 0, _ => .bad
  | n + 1, ρ => match c ρ with
    | .ok (.bool true) => (match body ρ with
      | .nx ρ2 => whileN c body n ρ2
      | .ct ρ2 => whileN c body n ρ2
      | .bk ρ2 => .nx ρ2
      | o => o)
    | .ok (.bool false) => .nx ρ
    | .ok _ => .bad
    | .ex c => .ex c ρ
    | .bad => .bad
def sWhile (c : EM) (body : SM) : SM := whileN c body FUEL

section
variable {X : Cx} {W : WQ} {rk kd : Kd} {st : Stmt} {rest a b : List Stmt} {e c : Expr} {m1 m2 ma mb : SM} {m mc : EM} {pos : Pos}
theorem dss_nil : DSs X W rk [] sSkip := PSs.imp pss_nil fun E σ H ⟨Hf, Hb, ρ, R, h⟩ => h σ Hb H R (Bw.refl R.eb)
theorem dss_cons (h1 : DS X W rk st m1) (h2 : DSs X W rk rest m2) : DSs X W rk (st :: rest) (sSeq m1 m2) := PSs.imp (pss_cons h1 h2) fun E σ H ⟨Hf, Hb, ρ, R, h⟩ => by
  refine ⟨Hf, Hb, ρ, R, ?_⟩
  unfold sSeq at h
  cases q : m1 ρ with
  | nx ρ' =>
    rw [q] at h
    exact fun σ' Hb' H' R' b => ⟨Hf, Hb', ρ', R', SPost.weak b h⟩
  | rt d =>
    rw [q] at h
    exact h
  | bk d =>
    rw [q] at h
    exact h
  | ct d =>
    rw [q] at h
    exact h
  | ex c d =>
    rw [q] at h
    exact h
  | bad =>
    rw [q] at h
    exact h
theorem dss_one (h1 : DS X W rk st m1) : DSs X W rk [st] m1 := pss_one h1
theorem ds_pass : DS X W rk (.Pass pos) sSkip := PS.imp ps_pass fun E σ H ⟨Hf, Hb, ρ, R, h⟩ => h σ Hb H R (Bw.refl R.eb)
theorem ds_brk : DS X W rk (.Break pos) sBrk := PS.imp ps_break fun E σ H ⟨Hf, Hb, ρ, R, h⟩ => h σ Hb H R (Bw.refl R.eb)
theorem ds_cnt : DS X W rk (.Continue pos) sCnt := PS.imp ps_continue fun E σ H ⟨Hf, Hb, ρ, R, h⟩ => h σ Hb H R (Bw.refl R.eb)
theorem ds_asg {i : Nat} {x : Str} {pos' : Pos} (hN : X.N.Nodup) (he : DE X W .dat e m) (hi : X.N[i]? = some x := by rfl) (hx : Loc X.env.scope x := by first | exact Or.inl rfl | exact Or.inr rfl) (hs : swapsWith e (some (.Name x pos')) pos.line X.env = pure false := by rfl)
    (hf : X.fn x = true ∨ X.env.scope.names.lookup x = some .local := by first | exact .inl rfl | exact .inr rfl | assumption) (ho : PnOff W.pin i := by intro _ z; cases z) : DS X W rk (.Assign [.Name x pos'] e pos) (sAsg i m) := PS.imp (ps_set hN hi hx he hs hf) fun E σ H ⟨Hf, Hb, ρ, R, h⟩ => by
  refine ⟨Hf, Hb, ρ, R, fun d hd v Hb' H' g r => ?_, fun c hc Hb' H' g => ?_, fun z => ?_⟩
  · simp only [sAsg, hd] at h
    exact h _ Hb' H' ((R.gw g).setDat ho r) (g.bw R.ef)
  · simp only [sAsg, hc] at h
    exact h _ Hb' H' (R.gw g) (g.bw R.ef)
  · simp only [sAsg, z] at h
    exact h
theorem ds_asgN {i : Nat} {x : Str} {pos' : Pos} (hN : X.N.Nodup) (he : DE X W .new e m) (hi : X.N[i]? = some x := by rfl) (hx : Loc X.env.scope x := by first | exact Or.inl rfl | exact Or.inr rfl) (hs : swapsWith e (some (.Name x pos')) pos.line X.env = pure false := by rfl)
    (hf : X.fn x = true ∨ X.env.scope.names.lookup x = some .local := by first | exact .inl rfl | exact .inr rfl | assumption) (ho : PnOff W.pin i := by intro _ z; cases z) : DS X W rk (.Assign [.Name x pos'] e pos) (sAsgN i m) := PS.imp (ps_set hN hi hx he hs hf) fun E σ H ⟨Hf, Hb, ρ, R, h⟩ => by
  refine ⟨Hf, Hb, ρ, R, fun d hd v Hb' H' g r => ?_, fun c hc Hb' H' g => ?_, fun z => ?_⟩
  · simp only [sAsgN, hd] at h
    obtain ⟨p, rfl, h0, hb, ow⟩ := r
    exact h _ Hb' H' (R.setNew ho g h0 hb ow) (g.bw R.ef)
  · simp only [sAsgN, hc] at h
    exact h _ Hb' H' (R.gw g) (g.bw R.ef)
  · simp only [sAsgN, z] at h
    exact h
theorem ds_drop (he : DE X W kd e m) (hs : swapsWith e none pos.line X.env = pure false := by rfl) : DS X W rk (.Expr e pos) (sDrop m) := PS.imp (ps_expr he hs) fun E σ H ⟨Hf, Hb, ρ, R, h⟩ => by
  refine ⟨Hf, Hb, ρ, R, fun d hd v Hb' H' g r => ?_, fun c hc Hb' H' g => ?_, fun z => ?_⟩
  · simp only [sDrop, hd] at h
    exact h _ Hb' H' (R.gw g) (g.bw R.ef)
  · simp only [sDrop, hc] at h
    exact h _ Hb' H' (R.gw g) (g.bw R.ef)
  · simp only [sDrop, z] at h
    exact h
theorem ds_ret (he : DE X W rk e m) : DS X W rk (.Return (some e) pos) (sRet m) := PS.imp (ps_ret he) fun E σ H ⟨Hf, Hb, ρ, R, h⟩ => by
  refine ⟨Hf, Hb, ρ, R, fun d hd v Hb' H' g r => ?_, fun c hc Hb' H' g => ?_, fun z => ?_⟩
  · simp only [sRet, hd] at h
    exact h v Hb' H' (R.gw g).ef (g.bw R.ef) (r.back R.ef)
  · simp only [sRet, hc] at h
    exact h _ Hb' H' (R.gw g) (g.bw R.ef)
  · simp only [sRet, z] at h
    exact h
theorem ds_retO (i : Nat) {x : Str} {p : Pos} (hN : X.N[i]? = some x := by rfl) (hv : Vis X.env.scope x := by first | exact Or.inl rfl | exact Or.inr (Or.inl rfl) | exact Or.inr (Or.inr rfl)) (hd : (x == ("__debug__" : Str)) = false := by decide)
    (hcd : (x == ("__classdict__" : Str)) = false := by decide) : DS X W .new (.Return (some (.Name x p)) pos) (sRetO i) := PS.imp (ps_ret (pe_var hN hv hd hcd)) fun E σ H ⟨Hf, Hb, ρ, R, h⟩ => by
  unfold sRetO at h
  cases q : ρ[i]? with
  | none =>
    rw [q] at h
    exact h.elim
  | some s =>
    rw [q] at h
    cases s with
    | own d =>
      obtain ⟨p, h1, h2, h3, h4⟩ := R.own i d q
      exact ⟨_, h1, h _ Hb H R.ef (Bw.refl R.eb) ⟨p, rfl, h3, h4, h2⟩⟩
    | un => exact h.elim
    | dat d => exact h.elim
    | bor d => exact h.elim
/-- an object of one's own is handed back, fixed -/
theorem ds_retF (i : Nat) {x : Str} {p : Pos} (hN : X.N[i]? = some x := by rfl) (hv : Vis X.env.scope x := by first | exact Or.inl rfl | exact Or.inr (Or.inl rfl) | exact Or.inr (Or.inr rfl)) (hd : (x == ("__debug__" : Str)) = false := by decide)
    (hcd : (x == ("__classdict__" : Str)) = false := by decide) : DS X W .dat (.Return (some (.Name x p)) pos) (sRetF i) := PS.imp (ps_ret (pe_var hN hv hd hcd)) fun E σ H ⟨Hf, Hb, ρ, R, h⟩ => by
  unfold sRetF at h
  split at h
  · rename_i ds q
    obtain ⟨p, h1, ⟨o, ho, hc⟩, h3, h4⟩ := R.own i _ q
    cases hc with
    | lst al =>
      refine ⟨_, h1, h _ (L2.upd Hb p _) H R.ef ⟨Ex.new h4, fun a u qa => ?_, fun a z1 z2 => ?_⟩ (.lst (.inl (.inl upd_same)) (drAll_ex (Ex.new h4) al))⟩
      · by_cases z : a = p
        · subst z
          rw [upd_same] at qa
          rw [← qa]
          exact ho
        · rw [upd_ne z] at qa
          exact R.eb a u qa
      · have z : a ≠ p := fun z => by
          subst z
          rw [h3] at z2
          exact z2
        rw [upd_ne z]
        exact z1
  · exact h.elim
theorem ds_retN : DS X W .dat (.Return none pos) (sRet (eC .none)) := PS.imp ps_retN fun E σ H ⟨Hf, Hb, ρ, R, h⟩ => h .non Hb H R.ef (Bw.refl R.eb) rs_non
theorem ds_if (hc : DT X W c mc) (ha : DSs X W rk a ma) (hb : DSs X W rk b mb) : DS X W rk (.If c a b pos) (sIf mc ma mb) := PS.imp (ps_if hc ha hb) fun E σ H ⟨Hf, Hb, ρ, R, h⟩ => by
  refine ⟨Hf, Hb, ρ, R, fun k hk Hb' H' g => ?_, fun c hc Hb' H' g => ?_, ?_⟩
  · cases k with
    | true =>
      simp only [sIf, hk] at h
      show sOf X.K W rk ma E σ H'
      exact ⟨Hf, Hb', ρ, R.gw g, SPost.weak (g.bw R.ef) h⟩
    | false =>
      simp only [sIf, hk] at h
      show sOf X.K W rk mb E σ H'
      exact ⟨Hf, Hb', ρ, R.gw g, SPost.weak (g.bw R.ef) h⟩
  · simp only [sIf, hc] at h
    exact h _ Hb' H' (R.gw g) (g.bw R.ef)
  · cases q : mc ρ with
    | bad =>
      simp only [sIf, q] at h
      exact h.elim
    | ex c => exact .inr ⟨c, rfl⟩
    | ok d =>
      cases d with
      | bool b => exact .inl ⟨b, rfl⟩
      | _ =>
        simp only [sIf, q] at h
        exact h.elim
theorem ds_raise {x s : Str} {j : Nat} {p p2 pos' : Pos} (tk : Takes X W.w) (q : PySem.W.excIn X.K (He.ga X.K x) He.veBase "ValueError.__new__" = true ∧ PySem.W.keepIn X.K (.ref (He.ga X.K x)) = true ∧ PySem.W.subIn X.K (.ref (He.ga X.K x)) (.type "BaseException") = some true ∧
    PySem.W.typeIn X.K (.ref (He.ga X.K x)) = some (.type "type")) (gC : X.mg x = some (.ref (He.ga X.K x))) (hc : X.calm = true := by rfl) (hg : Gl X x := by rfl) (hdb : (x == ("__debug__" : Str)) = false := by decide) :
    DS X W rk (.Raise (some (.Call (.Name x p) [.Constant (.str s) j p2] [] pos')) none pos) (sRaise x) :=
  PS.imp (ps_raise hc tk (pmk_own PySem.F.excBase_ValueError q.1 gC q.2.1 (raises_own q.2.2.1 q.2.2.2) hg hdb)) fun E σ H ⟨Hf, Hb, ρ, R, h⟩ => h σ Hb H R (Bw.refl R.eb)
/-- xs.append(e) -/
theorem ds_app {i : Nat} {x : Str} {p p2 p3 : Pos} (he : DE X W .dat e m) (hN : X.N[i]? = some x := by rfl) (hv : Vis X.env.scope x := by first | exact Or.inl rfl | exact Or.inr (Or.inl rfl) | exact Or.inr (Or.inr rfl)) (hd : (x == ("__debug__" : Str)) = false := by decide)
    (hcd : (x == ("__classdict__" : Str)) = false := by decide) (hst : starEach [e] X.env = (false, eval e X.env) :: starEach [] X.env := by rfl)
    (hbase : attributeBase (.Name x p) "append" X.env (eval (.Name x p) X.env) = eval (.Name x p) X.env := by rfl)
    (hfew : ((backTo p3 (starEach [e] X.env)).all (fun x => !x.1) && (backToKw p3 (keywordEach [] X.env)).all (fun x => x.1.isSome)
      && decide (([e] : List Expr).length + ([] : List Keyword).length + (if ([] : List Keyword).isEmpty then 0 else 1) < 30)) = true := by rfl)
    (hline : (p2.endLine == p3.line) = true := by rfl) (hpl : (backTo p3 (starEach [] X.env)).any (·.1) = false := by rfl) (hs : swapsWith (.Call (.Attribute (.Name x p) "append" p2) [e] [] p3) none pos.line X.env = pure false := by rfl) :
    DS X W rk (.Expr (.Call (.Attribute (.Name x p) "append" p2) [e] [] p3) pos) (sApp i m) :=
  PS.imp (ps_expr (pe_bm PySem.F.plainAttrs_list PySem.F.slot_list_append PySem.F.type_list_append mt_append (pe_var hN hv hd hcd) (pa_cons he pa_nil hst) hbase hfew hline hst hpl) hs) fun E σ H ⟨Hf, Hb, ρ, R, h⟩ => by
    unfold sApp at h
    split at h
    · rename_i ds q
      obtain ⟨p, h1, ⟨o, ho, hc⟩, h3, h4⟩ := R.own i _ q
      cases hc with
      | lst al =>
        refine ⟨_, h1, .inl ⟨rfl, _, sq_of ho⟩, Hf, Hb, ρ, R, fun d hd v Hb' H' g r => ?_, fun c hc Hb' H' g => ?_, fun z => ?_⟩
        · rw [hd] at h
          simp only at h
          split at h
          · rename_i hz
            have ho' := g.h _ _ ho
            refine ⟨p, _, v, rfl, rfl, ho', by rw [drAll_len al]; exact hz, ?_⟩
            have R1 := R.gw g
            have hb' : Hb' p = none := g.nw p h4 (by rw [ho]; exact True.intro)
            exact h σ Hb' _ (R1.write q h1 (.lst (drAll_app (drAll_ex g.b al) (.cons r .nil)))) ((g.bw R.ef).trans (Bw.upd g.bh hb'))
          · exact h.elim
        · rw [hc] at h
          exact h σ Hb' H' (R.gw g) (g.bw R.ef)
        · rw [z] at h
          exact h.elim
    · exact h.elim
end
end DL

/-! DL6: targets, loops, defs. -/
namespace DL
open PySem L2 Evl

/-! ### freezing -/
theorem RelE.freeze {K : PySem.W.Frag} {pn : Pn} {Hf Hb H : Hp} {σ : L2.St} {ρ : Env} {i : Nat} {ds : List D} (R : RelE K pn Hf Hb H σ ρ) (q : ρ[i]? = some (.own (.list ds))) : ∃ Hb', RelE K pn Hf Hb' H σ (ρ.set i (.dat (.list ds))) ∧ Bw Hf Hb Hb' H := by
  obtain ⟨p, h1, ⟨o, ho, hc⟩, h3, h4⟩ := R.own i _ q
  have e1 : Ex Hb (upd Hb p o) := Ex.new h4
  have key : ∀ (m : Nat) t, (ρ.set i (.dat (.list ds)))[m]? = some t → (m = i ∧ t = .dat (.list ds)) ∨ (m ≠ i ∧ ρ[m]? = some t) := fun m t qq => getset_dat qq
  have e2 : Ex (upd Hb p o) H := fun a u qa => by
    by_cases z : a = p
    · subst z
      rw [upd_same] at qa
      rw [← qa]
      exact ho
    · rw [upd_ne z] at qa
      exact R.eb a u qa
  refine ⟨upd Hb p o, ⟨R.ef, e2, by simp [R.len], fun j e qj => ?_, fun j e qj => ?_, fun j e qj => ?_, fun j k e f qj ne qk => ?_, R.pin⟩, e1, e2, fun a z1 z2 => ?_⟩
  · rcases key j _ qj with ⟨z, z2⟩ | ⟨z, q'⟩
    · cases z2
      subst z
      cases hc with
      | lst al => exact ⟨_, h1, .lst (.inl (.inl upd_same)) (drAll_ex e1 al)⟩
    · obtain ⟨v, v1, v2⟩ := R.dat j e q'
      exact ⟨v, v1, dr_ex e1 v2⟩
  · rcases key j _ qj with ⟨_, z2⟩ | ⟨z, q'⟩
    · cases z2
    · obtain ⟨v, v1, v2⟩ := R.bor j e q'
      refine ⟨v, v1, ?_⟩
      rcases v2 with v2 | ⟨a, a1, a2, a3⟩
      · exact .inl (dr_ex e1 v2)
      · refine .inr ⟨a, a1, a2.ex e1 (Ex.refl _), fun k f qk => ?_⟩
        rcases key k _ qk with ⟨_, z2⟩ | ⟨_, q2⟩
        · cases z2
        · exact a3 k f q2
  · rcases key j _ qj with ⟨_, z2⟩ | ⟨z, q'⟩
    · cases z2
    · obtain ⟨a, a1, a2, a3, a4⟩ := R.own j e q'
      refine ⟨a, a1, a2.ex e1 (Ex.refl _), a3, ?_⟩
      rw [upd_ne ?_]
      · exact a4
      · intro z2
        subst z2
        exact R.sep j i e _ q' z q (by rw [a1, h1])
  · rcases key j _ qj with ⟨_, z2⟩ | ⟨z, q'⟩
    · cases z2
    · rcases key k _ qk with ⟨_, z2⟩ | ⟨_, q2⟩
      · cases z2
      · exact R.sep j k e f q' ne q2
  · have z : a ≠ p := fun z => by
      subst z
      rw [h3] at z2
      exact z2
    rw [upd_ne z]
    exact z1
/-- the freezing as a step ahead of a statement -/
def sPre (i : Nat) (m : SM) : SM := fun ρ => match ρ[i]? with
  | some (.own (.list ds)) => m (ρ.set i (.dat (.list ds)))
  | _ => .bad

theorem ds_pre {X : Cx} {W : WQ} {rk : Kd} {st : Stmt} {m : SM} (i : Nat) (h : DS X W rk st m) : DS X W rk st (sPre i m) := PS.imp h fun E σ H ⟨Hf, Hb, ρ, R, q⟩ => by
  unfold sPre at q
  split at q
  · rename_i ds z
    obtain ⟨Hb', R', b⟩ := R.freeze z
    exact ⟨Hf, Hb', _, R', SPost.weak b q⟩
  · exact q.elim
/-! ### targets -/
def gOf (K : PySem.W.Frag) (pn : Pn) (g : GM) : TG := fun v σ H Q => ∃ (Hf Hb : Hp) (ρ : Env) (d : D) (ρ' : Env), RelE K pn Hf Hb H σ ρ ∧ Dr K Hb v d ∧ g d ρ = some ρ' ∧ ∀ σ', RelE K pn Hf Hb H σ' ρ' → Q σ' H
abbrev DG (X : Cx) (W : WQ) (tg : Expr) (g : GM) : Prop := PG X tg (gOf X.K W.pin g)
def gsOf (K : PySem.W.Frag) (pn : Pn) (gs : List GM) : TGs := fun vs σ H Q => ∃ (Hf Hb : Hp) (ρ : Env) (ds : List D) (ρ' : Env), RelE K pn Hf Hb H σ ρ ∧ DrAll K Hb vs ds ∧ gTs gs ds ρ = some ρ' ∧ ∀ σ', RelE K pn Hf Hb H σ' ρ' → Q σ' H
abbrev DGs (X : Cx) (W : WQ) (tg : List Expr) (gs : List GM) : Prop := PGs X tg (gsOf X.K W.pin gs)
theorem PG.imp {X : Cx} {e : Expr} {t t' : TG} (h : PG X e t) (i : ∀ v σ H Q, t' v σ H Q → t v σ H Q) : PG X e t' := ⟨fun pins s σ H v u Q I r q => h.run pins s σ H v u Q I r (i v σ H Q q)⟩
theorem PGs.imp {X : Cx} {e : List Expr} {t t' : TGs} (h : PGs X e t) (i : ∀ v σ H Q, t' v σ H Q → t v σ H Q) : PGs X e t' := ⟨fun pins s σ H v u Q I r q => h.run pins s σ H v u Q I r (i v σ H Q q)⟩
theorem gTs_len {K : PySem.W.Frag} : ∀ {gs : List GM} {ds : List D} {ρ ρ' : Env}, gTs gs ds ρ = some ρ' → ds.length = gs.length
  | [], [], _, _, _ => rfl
  | g :: gs, d :: ds, ρ, ρ', h => by
    simp only [gTs] at h
    cases q : g d ρ with
    | none =>
      rw [q] at h
      cases h
    | some ρ1 =>
      rw [q] at h
      have h2 : gTs gs ds ρ1 = some ρ' := h
      simp [gTs_len (K := K) h2]
  | [], _ :: _, _, _, h => by cases h
  | _ :: _, [], _, _, h => by cases h
section
variable {X : Cx} {W : WQ} {rk kd : Kd} {e tg : Expr} {es : List Expr} {g : GM} {gs : List GM} {m : EM} {pos : Pos}
theorem dg_n (i : Nat) {x : Str} (hN : X.N.Nodup) (hi : X.N[i]? = some x := by rfl) (hx : Loc X.env.scope x := by first | exact Or.inl rfl | exact Or.inr rfl) (hf : X.fn x = true ∨ X.env.scope.names.lookup x = some .local := by first | exact .inl rfl | exact .inr rfl | assumption) (ho : PnOff W.pin i := by intro _ z; cases z) : DG X W (.Name x pos) (gN i) :=
  PG.imp (pg_name hN hi hx hf) fun v σ H Q ⟨Hf, Hb, ρ, d, ρ', R, r, h, q⟩ => by
    cases h
    exact q _ (R.setDat ho r)
theorem dgs_nil : DGs X W [] [] := PGs.imp pgs_nil fun vs σ H Q ⟨Hf, Hb, ρ, ds, ρ', R, r, h, q⟩ => by
  cases ds with
  | nil =>
    cases r
    cases h
    exact ⟨rfl, q _ R⟩
  | cons _ _ => cases h
theorem dgs_cons (h1 : DG X W e g) (h2 : DGs X W es gs) (hs : (assignEach (e :: es) X.env).map (·.2) = assign e X.env :: (assignEach es X.env).map (·.2) := by rfl) : DGs X W (e :: es) (g :: gs) := PGs.imp (pgs_cons h1 h2 hs) fun vs σ H Q ⟨Hf, Hb, ρ, ds, ρ', R, r, h, q⟩ => by
  cases ds with
  | nil => cases h
  | cons d ds =>
    cases r with
    | cons a b =>
      simp only [gTs] at h
      cases q1 : g d ρ with
      | none =>
        rw [q1] at h
        cases h
      | some ρ1 =>
        rw [q1] at h
        exact ⟨_, _, rfl, Hf, Hb, ρ, d, ρ1, R, a, q1, fun σ' R' => ⟨Hf, Hb, ρ1, ds, ρ', R', b, h, q⟩⟩
theorem dg_t {k : Nat} (h : DGs X W es gs) (hc : X.calm = true := by rfl) (hn : (assignEach es X.env).length = gs.length := by rfl) (hst : (assignEach es X.env).findIdx? (·.1) = none := by rfl) : DG X W (.Tuple es k pos) (gT gs) :=
  PG.imp (pg_tup hc h hn hst) fun v σ H Q ⟨Hf, Hb, ρ, d, ρ', R, r, hg, q⟩ => by
    cases d <;> simp only [gT] at hg <;> first | cases hg; done | skip
    obtain ⟨p, xs, e1, s1, a1⟩ := Bo.tup R.eb (.inl r)
    exact ⟨p, xs, e1, s1, by rw [drAll_len a1]; exact gTs_len (K := X.K) hg, Hf, Hb, ρ, _, ρ', R, a1, hg, q⟩
theorem ds_asgG (he : DE X W .dat e m) (hg : DG X W tg g) (hs : swapsWithSole [tg] e pos.line X.env = pure false := by rfl) (hw : swappedStores [tg] e X.env = pure none := by rfl) (h1 : (assignEach [tg] X.env).map (·.2) = [assign tg X.env] := by rfl) :
    DS X W rk (.Assign [tg] e pos) (sAsgG g m) := PS.imp (ps_asg he hg hs hw h1) fun E σ H ⟨Hf, Hb, ρ, R, h⟩ => by
  refine ⟨Hf, Hb, ρ, R, fun d hd v Hb' H' g1 r => ?_, fun c hc Hb' H' g1 => ?_, fun z => ?_⟩
  · simp only [sAsgG, hd] at h
    split at h
    · rename_i ρ' hr
      exact ⟨Hf, Hb', ρ, d, ρ', R.gw g1, r, hr, fun σ' R' => h σ' Hb' H' R' (g1.bw R.ef)⟩
    · exact h.elim
  · simp only [sAsgG, hc] at h
    exact h _ Hb' H' (R.gw g1) (g1.bw R.ef)
  · simp only [sAsgG, z] at h
    exact h
end

/-! ### what is walked -/
/-- the iterator J yields the data ds, whatever is put on the heap meanwhile -/
structure Yl (K : PySem.W.Frag) (Hb1 : Hp) (J : It) (ds : List D) : Prop where
  go : ∀ (i : Nat) H, Ex Hb1 H → i < ds.length → J.go i H
  stop : ∀ H, Ex Hb1 H → J.stop ds.length H
  yld : ∀ (i : Nat) H x H' Hb, Ex Hb1 Hb → Ex Hb H → i < ds.length → J.yld i H x H' → ∃ Hb' d, Gw Hb H Hb' H' ∧ ds[i]? = some d ∧ Dr K Hb' x d
def iOf (K : PySem.W.Frag) (W : WQ) (mi : Env → AR) : TI := fun σ H R => ∃ (Hf Hb : Hp) (ρ : Env), RelE K W.pin Hf Hb H σ ρ ∧
  (∀ ds, mi ρ = .ok ds → ∀ J Hb' H', Gw Hb H Hb' H' → Yl K Hb' J ds → R J H') ∧
  (∀ c, mi ρ = .ex c → ∀ Hb' H', Gw Hb H Hb' H' → W.w (.ref (He.ga K c)) none σ H') ∧ mi ρ ≠ .bad
abbrev DI (X : Cx) (W : WQ) (tg iter : Expr) (mi : Env → AR) : Prop := PI X tg iter (iOf X.K W mi)
theorem PI.imp {X : Cx} {tg e : Expr} {t t' : TI} (h : PI X tg e t) (i : ∀ σ H R, t' σ H R → t σ H R) : PI X tg e t' := ⟨fun pins s σ H R I q => h.run pins s σ H R I (i σ H R q)⟩
/-- a list -/
def iL (m : EM) : Env → AR := fun ρ => match m ρ with
  | .ok (.list ds) => .ok ds
  | .ok _ => .bad
  | .ex c => .ex c
  | .bad => .bad
def iT (m : EM) : Env → AR := fun ρ => match m ρ with
  | .ok (.tuple ds) => .ok ds
  | .ok _ => .bad
  | .ex c => .ex c
  | .bad => .bad
def signsD (z : Str) : List D := z.cps.toList.map fun c => .str ⟨#[c]⟩
def iS (m : EM) : Env → AR := fun ρ => match m ρ with
  | .ok (.str z) => .ok (signsD z)
  | .ok _ => .bad
  | .ex c => .ex c
  | .bad => .bad
def rangeD (lo hi : Int) : List D := (List.range (hi - lo).toNat).map fun (i : Nat) => PyData.int (lo + (i : Int))
def inR (n : Int) : Bool := decide (-(2 ^ 62) ≤ n) && decide (n < 2 ^ 62)
theorem inR_iff {n : Int} : inR n = true ↔ -(2 ^ 62) ≤ n ∧ n < 2 ^ 62 := by
  unfold inR
  rw [Bool.and_eq_true, decide_eq_true_iff, decide_eq_true_iff]
def iR1 (m : EM) : Env → AR := fun ρ => match m ρ with
  | .ok (.int n) => if inR n then .ok (rangeD 0 n) else .bad
  | .ok _ => .bad
  | .ex c => .ex c
  | .bad => .bad
def iR2 (ma mb : EM) : Env → AR := fun ρ => match evA [ma, mb] ρ with
  | .ok [.int i, .int j] => if inR i && inR j then .ok (rangeD i j) else .bad
  | .ok _ => .bad
  | .ex c => .ex c
  | .bad => .bad
def downD (hi lo : Int) : List D := (List.range (hi - lo).toNat).map fun (i : Nat) => PyData.int (hi - (i : Int))
def iR3 (ma mb mc : EM) : Env → AR := fun ρ => match evA [ma, mb, mc] ρ with
  | .ok [.int i, .int j, .int k] => if (inR i && inR j && decide (k = -1)) = true then .ok (downD i j) else .bad
  | .ok _ => .bad
  | .ex c => .ex c
  | .bad => .bad
theorem downD_len (hi lo : Int) : (downD hi lo).length = (hi - lo).toNat := by simp [downD]
theorem downD_get (hi lo : Int) (i : Nat) (h : i < (hi - lo).toNat) : (downD hi lo)[i]? = some (.int (hi - (i : Int))) := by
  simp [downD, h]
theorem yl_down {K : PySem.W.Frag} {Hb1 : Hp} (hi lo : Int) : Yl K Hb1 (Itc hi (-1) (hi - lo).toNat) (downD hi lo) where
  go := fun i H _ h => by
    rw [downD_len] at h
    exact h
  stop := fun H _ => by
    rw [downD_len]
    exact Nat.le_refl _
  yld := fun i H x H' Hb e1 e2 h y => by
    obtain ⟨rfl, rfl⟩ := y
    rw [downD_len] at h
    have e : hi + ((i : Nat) : Int) * (-1) = hi - (i : Int) := by omega
    rw [e]
    exact ⟨Hb, .int (hi - (i : Int)), Gw.refl e2, downD_get hi lo i h, .int _⟩
theorem rangeD_len (lo hi : Int) : (rangeD lo hi).length = (hi - lo).toNat := by simp [rangeD]
theorem rangeD_get (lo hi : Int) (i : Nat) (h : i < (hi - lo).toNat) : (rangeD lo hi)[i]? = some (.int (lo + (i : Int))) := by
  simp [rangeD, h]
theorem yl_range {K : PySem.W.Frag} {Hb1 : Hp} (lo hi : Int) : Yl K Hb1 (Itr lo (hi - lo).toNat) (rangeD lo hi) where
  go := fun i H _ h => by
    rw [rangeD_len] at h
    exact h
  stop := fun H _ => by
    rw [rangeD_len]
    exact Nat.le_refl _
  yld := fun i H x H' Hb e1 e2 h y => by
    obtain ⟨rfl, rfl⟩ := y
    rw [rangeD_len] at h
    exact ⟨Hb, .int (lo + (i : Int)), Gw.refl e2, rangeD_get lo hi i h, .int _⟩
theorem yl_list {K : PySem.W.Frag} {Hb1 : Hp} {p : Addr} {xs : List V} {ds : List D} (h : SqL K Hb1 p xs) (a : DrAll K Hb1 xs ds) : Yl K Hb1 (Itl K p) ds where
  go := fun i H e hi => by
    have hl := drAll_len a
    exact ⟨xs, xs[i]'(by omega), ex_l e h, by simp⟩
  stop := fun H e => ⟨xs, ex_l e h, by rw [drAll_len a]; exact Nat.le_refl _⟩
  yld := fun i H x H' Hb e1 e2 hi y => by
    obtain ⟨rfl, y⟩ := y
    have hx := y xs (ex_l (e1.trans e2) h)
    obtain ⟨d, d1, d2⟩ := drAll_get a hx
    exact ⟨Hb, d, Gw.refl e2, d1, dr_ex e1 d2⟩
theorem yl_tup {K : PySem.W.Frag} {Hb1 : Hp} {p : Addr} {xs : List V} {ds : List D} (h : SqT K Hb1 p xs) (a : DrAll K Hb1 xs ds) : Yl K Hb1 (Itt K p) ds where
  go := fun i H e hi => by
    have hl := drAll_len a
    exact ⟨xs, xs[i]'(by omega), ex_t e h, by simp⟩
  stop := fun H e => ⟨xs, ex_t e h, by rw [drAll_len a]; exact Nat.le_refl _⟩
  yld := fun i H x H' Hb e1 e2 hi y => by
    obtain ⟨rfl, y⟩ := y
    have hx := y xs (ex_t (e1.trans e2) h)
    obtain ⟨d, d1, d2⟩ := drAll_get a hx
    exact ⟨Hb, d, Gw.refl e2, d1, dr_ex e1 d2⟩
theorem yl_str {K : PySem.W.Frag} {Hb1 : Hp} (z : Str) : Yl K Hb1 (Its z) (signsD z) where
  go := fun i H e hi => by simpa [signsD, Its] using hi
  stop := fun H e => by simp [signsD, Its]
  yld := fun i H x H' Hb e1 e2 hi y => by
    obtain ⟨rfl, c, hc, rfl⟩ := y
    exact ⟨Hb, .str ⟨#[c]⟩, Gw.refl e2, by
      have hc' : z.cps.toList[i]? = some c := by simpa using hc
      simp only [signsD, List.getElem?_map, hc']
      rfl, .str _⟩
section
variable {X : Cx} {W : WQ} {rk kd : Kd} {e tg a b : Expr} {g : GM} {m ma mb : EM} {p pos : Pos} {mi : Env → AR}
theorem di_l (h : DE X W .dat e m) : DI X W tg e (iL m) := PI.imp (pi_list h) fun σ H R ⟨Hf, Hb, ρ, Re, h1, h2, h3⟩ => by
  refine ⟨Hf, Hb, ρ, Re, fun d hd v Hb' H' g r => ?_, fun c hc => h2 c (by simp [iL, hc]), fun z => h3 (by simp [iL, z])⟩
  cases d with
  | list ds =>
    cases r with
    | lst s a => exact ⟨_, rfl, ⟨_, ex_l g.bh s⟩, h1 ds (by simp [iL, hd]) _ Hb' H' g (yl_list s a)⟩
  | _ => exact absurd (by simp [iL, hd]) h3
theorem di_t (h : DE X W .dat e m) : DI X W tg e (iT m) := PI.imp (pi_tup h) fun σ H R ⟨Hf, Hb, ρ, Re, h1, h2, h3⟩ => by
  refine ⟨Hf, Hb, ρ, Re, fun d hd v Hb' H' g r => ?_, fun c hc => h2 c (by simp [iT, hc]), fun z => h3 (by simp [iT, z])⟩
  cases d with
  | tuple ds =>
    cases r with
    | tup s a => exact ⟨_, rfl, ⟨_, .inl (.inl (g.bh _ _ s))⟩, h1 ds (by simp [iT, hd]) _ Hb' H' g (yl_tup (.inl (.inl s)) a)⟩
  | _ => exact absurd (by simp [iT, hd]) h3
theorem di_s (h : DE X W .dat e m) : DI X W tg e (iS m) := PI.imp (pi_str h) fun σ H R ⟨Hf, Hb, ρ, Re, h1, h2, h3⟩ => by
  refine ⟨Hf, Hb, ρ, Re, fun d hd v Hb' H' g r => ?_, fun c hc => h2 c (by simp [iS, hc]), fun z => h3 (by simp [iS, z])⟩
  cases d with
  | str z =>
    cases r
    exact ⟨_, rfl, h1 _ (by simp [iS, hd]) _ Hb' H' g (yl_str z)⟩
  | _ => exact absurd (by simp [iS, hd]) h3
theorem di_r1 (hm : X.mg "range" = none) (h : DE X W .bor a m) (hg : Gl X "range" := by rfl) (hs : starEach [a] X.env = [(false, eval a X.env)] := by rfl) : DI X W tg (.Call (.Name "range" p) [a] [] pos) (iR1 m) :=
  PI.imp (pi_range1 hg hm (pa_cons h pa_nil hs) hs) fun σ H R ⟨Hf, Hb, ρ, Re, h1, h2, h3⟩ => by
    refine ⟨Hf, Hb, ρ, Re, fun d hd v Hb' H' g r => ?_, fun c hc => h2 c (by simp [iR1, hc]), fun z => h3 (by simp [iR1, z])⟩
    cases d with
    | int n =>
      by_cases hz : inR n = true
      · refine ⟨n, by rw [Bo.int r], (inR_iff.mp hz).1, (inR_iff.mp hz).2, ?_⟩
        have y := yl_range (K := X.K) (Hb1 := Hb') 0 n
        have e0 : (n - 0).toNat = n.toNat := by simp
        rw [e0] at y
        exact h1 _ (by simp [iR1, hd, hz]) _ Hb' H' g y
      · exact absurd (by simp [iR1, hd, hz]) h3
    | _ => exact absurd (by simp [iR1, hd]) h3
theorem di_r2 (hm : X.mg "range" = none) (h : DA X W [.bor, .bor] [a, b] [ma, mb]) (hg : Gl X "range" := by rfl) (hs : starEach [a, b] X.env = [(false, eval a X.env), (false, eval b X.env)] := by rfl) (hs2 : starEach [b] X.env = [(false, eval b X.env)] := by rfl) :
    DI X W tg (.Call (.Name "range" p) [a, b] [] pos) (iR2 ma mb) := PI.imp (pi_range2 hg hm h hs hs2) fun σ H R ⟨Hf, Hb, ρ, Re, h1, h2, h3⟩ => by
  refine ⟨Hf, Hb, ρ, Re, fun ds hd vs Hb' H' g r => ?_, fun c hc => h2 c (by simp [iR2, hc]), fun z => h3 (by simp [iR2, z])⟩
  cases r with
  | cons r1 r2 =>
    cases r2 with
    | cons r2 r3 =>
      cases r3
      rename_i v1 d1 v2 d2
      cases d1 with
      | int i =>
        cases d2 with
        | int j =>
          by_cases hz : (inR i && inR j) = true
          · have hz2 := Bool.and_eq_true_iff.mp hz
            exact ⟨i, j, by rw [Bo.int r1, Bo.int r2], ⟨(inR_iff.mp hz2.1).1, (inR_iff.mp hz2.1).2, (inR_iff.mp hz2.2).1, (inR_iff.mp hz2.2).2⟩, h1 _ (by simp only [iR2, hd, hz, if_true]) _ Hb' H' g (yl_range i j)⟩
          · exact absurd (by simp only [iR2, hd, hz]; rfl) h3
        | _ => exact absurd (by simp [iR2, hd]) h3
      | _ => exact absurd (by simp [iR2, hd]) h3
/-- range(i, j, -1) -/
theorem di_r3 {c : Expr} {mc : EM} (hm : X.mg "range" = none) (h : DA X W [.bor, .bor, .bor] [a, b, c] [ma, mb, mc]) (hg : Gl X "range" := by rfl) (hs : starEach [a, b, c] X.env = (false, eval a X.env) :: starEach [b, c] X.env := by rfl) (hpl : (backTo pos (starEach [b, c] X.env)).any (·.1) = false := by rfl) :
    DI X W tg (.Call (.Name "range" p) [a, b, c] [] pos) (iR3 ma mb mc) := PI.imp (pi_range3 hg hm h hs hpl) fun σ H R ⟨Hf, Hb, ρ, Re, h1, h2, h3⟩ => by
  refine ⟨Hf, Hb, ρ, Re, fun ds hd vs Hb' H' g r => ?_, fun c hc => h2 c (by simp [iR3, hc]), fun z => h3 (by simp [iR3, z])⟩
  cases r with
  | cons r1 r2 =>
    cases r2 with
    | cons r2 r3 =>
      cases r3 with
      | cons r3 r4 =>
        cases r4
        rename_i v1 d1 v2 d2 v3 d3
        cases d1 with
        | int i =>
          cases d2 with
          | int j =>
            cases d3 with
            | int k =>
              by_cases hz : (inR i && inR j && decide (k = -1)) = true
              · have hz2 := Bool.and_eq_true_iff.mp hz
                have hz3 := Bool.and_eq_true_iff.mp hz2.1
                have hk : k = -1 := of_decide_eq_true hz2.2
                subst hk
                refine ⟨i, j, -1, (i - j).toNat, by rw [Bo.int r1, Bo.int r2, Bo.int r3], RgC.neg (inR_iff.mp hz3.1).1 (inR_iff.mp hz3.1).2 (inR_iff.mp hz3.2).1 (inR_iff.mp hz3.2).2, h1 (downD i j) ?_ _ Hb' H' g (yl_down i j)⟩
                unfold iR3
                rw [hd]
                exact if_pos hz
              · refine absurd ?_ h3
                unfold iR3
                rw [hd]
                exact if_neg hz
            | _ => exact absurd (by simp [iR3, hd]) h3
          | _ => exact absurd (by simp [iR3, hd]) h3
        | _ => exact absurd (by simp [iR3, hd]) h3
/-- for -/
theorem ds_for {body : List Stmt} {mb : SM} (hp : PassesOwn (model X.prog X.w) X.A X.env X.xe) (hi : DI X W tg e mi) (hg : DG X W tg g) (hb : DSs X W rk body mb) (hc : X.calm = true := by rfl) (hs : ∀ x, foldedSetIterable e X.env x = pure x := by intro _; rfl) :
    DS X W rk (.For tg e body [] pos) (sFor mi g mb) := PS.imp (ps_for hp hc hi hg hb hs) fun E σ H ⟨Hf, Hb, ρ, R, h⟩ => by
  refine ⟨Hf, Hb, ρ, R, fun ds hds J Hb1 H1 g1 Y => ?_, fun c hc Hb' H' g1 => ?_, fun z => ?_⟩
  · simp only [sFor, hds] at h
    refine ⟨fun i n σ' H' => n = ds.length - i ∧ i ≤ ds.length ∧ ∃ Hb' ρ', RelE X.K W.pin Hf Hb' H' σ' ρ' ∧ Ex Hb1 Hb' ∧ SPost X.K W rk Hf Hb' H' E (forD g mb (ds.drop i) ρ'), ⟨ds.length, by simp, Nat.zero_le _, Hb1, ρ, R.gw g1, Ex.refl _, SPost.weak (g1.bw R.ef) h⟩, ?_⟩
    rintro i n σ2 H2 ⟨rfl, hi, Hb2, ρ2, R2, e2, h2⟩
    by_cases hlt : i < ds.length
    · have ed : ds.drop i = ds[i] :: ds.drop (i + 1) := (List.getElem_cons_drop hlt).symm
      rw [ed] at h2
      refine .inr ⟨Y.go i H2 (e2.trans R2.eb) hlt, fun σ' H' => ∃ Hb' ρ', RelE X.K W.pin Hf Hb' H' σ' ρ' ∧ Ex Hb1 Hb' ∧ SPost X.K W rk Hf Hb' H' E (forD g mb (ds.drop (i + 1)) ρ'), fun σ' H' hN => ⟨ds.length - (i + 1), by omega, rfl, hlt, hN⟩, fun x H3 y => ?_⟩
      obtain ⟨Hb3, d, g3, d1, d2⟩ := Y.yld i H2 x H3 Hb2 e2 R2.eb hlt y
      have de : ds[i] = d := by
        rw [List.getElem?_eq_getElem hlt] at d1
        exact Option.some.inj d1
      rw [de] at h2
      simp only [forD] at h2
      cases q : g d ρ2 with
      | none =>
        rw [q] at h2
        exact h2.elim
      | some ρ3 =>
        rw [q] at h2
        refine ⟨Hf, Hb3, ρ2, d, ρ3, R2.gw g3, d2, q, fun σ3 R3 => ⟨Hf, Hb3, ρ3, R3, ?_⟩⟩
        have h3 := SPost.weak (g3.bw R2.ef) h2
        simp only at h3
        cases qb : mb ρ3 with
        | nx ρ4 =>
          rw [qb] at h3
          exact fun σ4 Hb4 H4 R4 b4 => ⟨Hb4, ρ4, R4, (e2.trans g3.b).trans b4.b, SPost.weak b4 h3⟩
        | ct ρ4 =>
          rw [qb] at h3
          exact fun σ4 Hb4 H4 R4 b4 => ⟨Hb4, ρ4, R4, (e2.trans g3.b).trans b4.b, SPost.weak b4 h3⟩
        | bk ρ4 =>
          rw [qb] at h3
          exact h3
        | rt d =>
          rw [qb] at h3
          exact h3
        | ex c ρ4 =>
          rw [qb] at h3
          exact h3
        | bad =>
          rw [qb] at h3
          exact h3
    · have e : i = ds.length := by omega
      subst e
      rw [List.drop_length] at h2
      exact .inl ⟨Y.stop H2 (e2.trans R2.eb), h2 σ2 Hb2 H2 R2 (Bw.refl R2.eb)⟩
  · simp only [sFor, hc] at h
    exact h _ Hb' H' (R.gw g1) (g1.bw R.ef)
  · simp only [sFor, z] at h
    exact h
/-- while -/
theorem ds_while {c : Expr} {body : List Stmt} {mc : EM} {mb : SM} (hp : PassesOwn (model X.prog X.w) X.A X.env X.xe) (hc : DT X W c mc) (hb : DSs X W rk body mb) : DS X W rk (.While c body [] pos) (sWhile mc mb) :=
  PS.imp (ps_while hp hc hb) fun E σ H ⟨Hf, Hb, ρ, R, h⟩ => by
    refine ⟨fun n σ' H' => ∃ Hb' ρ', RelE X.K W.pin Hf Hb' H' σ' ρ' ∧ SPost X.K W rk Hf Hb' H' E (whileN mc mb n ρ'), ⟨FUEL, Hb, ρ, R, h⟩, ?_⟩
    rintro n σ2 H2 ⟨Hb2, ρ2, R2, h2⟩
    cases n with
    | zero => exact h2.elim
    | succ n =>
      simp only [whileN] at h2
      refine ⟨Hf, Hb2, ρ2, R2, fun k hk Hb3 H3 g3 => ?_, fun c hc Hb3 H3 g3 => ?_, ?_⟩
      · cases k with
        | true =>
          rw [hk] at h2
          simp only at h2
          show ∃ N : L2.St → Hp → Prop, _
          refine ⟨fun σ' H' => ∃ Hb' ρ', RelE X.K W.pin Hf Hb' H' σ' ρ' ∧ SPost X.K W rk Hf Hb' H' E (whileN mc mb n ρ'), fun σ' H' hN => ⟨n, by omega, hN⟩, Hf, Hb3, ρ2, R2.gw g3, ?_⟩
          have h3 := SPost.weak (g3.bw R2.ef) h2
          cases qb : mb ρ2 with
          | nx ρ4 =>
            rw [qb] at h3
            exact fun σ4 Hb4 H4 R4 b4 => ⟨Hb4, ρ4, R4, SPost.weak b4 h3⟩
          | ct ρ4 =>
            rw [qb] at h3
            exact fun σ4 Hb4 H4 R4 b4 => ⟨Hb4, ρ4, R4, SPost.weak b4 h3⟩
          | bk ρ4 =>
            rw [qb] at h3
            exact h3
          | rt d =>
            rw [qb] at h3
            exact h3
          | ex c ρ4 =>
            rw [qb] at h3
            exact h3
          | bad =>
            rw [qb] at h3
            exact h3
        | false =>
          rw [hk] at h2
          simp only at h2
          show E.nx σ2 H3
          exact h2 σ2 Hb3 H3 (R2.gw g3) (g3.bw R2.ef)
      · rw [hc] at h2
        exact h2 _ Hb3 H3 (R2.gw g3) (g3.bw R2.ef)
      · cases q : mc ρ2 with
        | bad =>
          rw [q] at h2
          exact h2.elim
        | ex c => exact .inr ⟨c, rfl⟩
        | ok d =>
          cases d with
          | bool b => exact .inl ⟨b, rfl⟩
          | _ =>
            rw [q] at h2
            exact h2.elim
end

/-! ### defs -/
def mkEnv : List Kd → List D → Env
  | [], _ => []
  | .dat :: ks, d :: ds => .dat d :: mkEnv ks ds
  | .bor :: ks, d :: ds => .bor d :: mkEnv ks ds
  | .new :: ks, d :: ds => .bor d :: mkEnv ks ds
  | .io _ :: ks, d :: ds => .bor d :: mkEnv ks ds
  | _ :: _, [] => []
def runM (ks : List Kd) (n : Nat) (m : SM) (ds : List D) : ER := match m (mkEnv ks ds ++ List.replicate n .un) with
  | .nx _ => .ok .none
  | .rt d => .ok d
  | .ex c _ => .ex c
  | _ => .bad
theorem RaAll.lenK {K : PySem.W.Frag} {Hb H : Hp} : ∀ {ks : List Kd} {vs : List V} {ds : List D}, RaAll K Hb H ks vs ds → vs.length = ks.length
  | _, _, _, .nil => rfl
  | _, _, _, .cons _ b => by simp [RaAll.lenK b]
theorem mkEnv_len {K : PySem.W.Frag} {Hb H : Hp} : ∀ {ks : List Kd} {vs : List V} {ds : List D}, RaAll K Hb H ks vs ds → (mkEnv ks ds).length = vs.length
  | _, _, _, .nil => rfl
  | .dat :: _, _, _, .cons _ b => by simp [mkEnv, mkEnv_len b]
  | .bor :: _, _, _, .cons _ b => by simp [mkEnv, mkEnv_len b]
  | .new :: _, _, _, .cons _ b => by simp [mkEnv, mkEnv_len b]
  | .io _ :: _, _, _, .cons _ b => by simp [mkEnv, mkEnv_len b]
theorem mkEnv_get {K : PySem.W.Frag} {Hb H : Hp} : ∀ {ks : List Kd} {vs : List V} {ds : List D} (i : Nat) (s : Sl), RaAll K Hb H ks vs ds → (mkEnv ks ds)[i]? = some s → ∃ v d, vs[i]? = some v ∧ ((s = .dat d ∧ Dr K Hb v d) ∨ (s = .bor d ∧ Bo K Hb H v d))
  | _, _, _, i, s, .nil, h => by simp [mkEnv] at h
  | .dat :: _, v :: _, d :: _, 0, s, .cons a b, h => by
    simp [mkEnv] at h
    exact ⟨v, d, rfl, .inl ⟨h.symm, a⟩⟩
  | .bor :: _, v :: _, d :: _, 0, s, .cons a b, h => by
    simp [mkEnv] at h
    exact ⟨v, d, rfl, .inr ⟨h.symm, a⟩⟩
  | .new :: _, v :: _, d :: _, 0, s, .cons a b, h => by
    simp [mkEnv] at h
    exact ⟨v, d, rfl, .inr ⟨h.symm, a⟩⟩
  | .io _ :: _, v :: _, d :: _, 0, s, .cons a b, h => by
    simp [mkEnv] at h
    exact ⟨v, d, rfl, .inr ⟨h.symm, a⟩⟩
  | .dat :: _, _ :: _, _ :: _, i + 1, s, .cons a b, h => by
    simp [mkEnv] at h
    obtain ⟨v, d, h1, h2⟩ := mkEnv_get i s b h
    exact ⟨v, d, by simpa using h1, h2⟩
  | .bor :: _, _ :: _, _ :: _, i + 1, s, .cons a b, h => by
    simp [mkEnv] at h
    obtain ⟨v, d, h1, h2⟩ := mkEnv_get i s b h
    exact ⟨v, d, by simpa using h1, h2⟩
  | .new :: _, _ :: _, _ :: _, i + 1, s, .cons a b, h => by
    simp [mkEnv] at h
    obtain ⟨v, d, h1, h2⟩ := mkEnv_get i s b h
    exact ⟨v, d, by simpa using h1, h2⟩
  | .io _ :: _, _ :: _, _ :: _, i + 1, s, .cons a b, h => by
    simp [mkEnv] at h
    obtain ⟨v, d, h1, h2⟩ := mkEnv_get i s b h
    exact ⟨v, d, by simpa using h1, h2⟩
theorem relE_start {K : PySem.W.Frag} {Hb H : Hp} {ks : List Kd} {vs : List V} {ds : List D} {N : List Str} {n : Nat} (e : Ex Hb H) (r : RaAll K Hb H ks vs ds) (hn : N.length = ks.length + n) : RelE K none H Hb H (L2.start N vs) (mkEnv ks ds ++ List.replicate n .un) := by
  have l1 := mkEnv_len r
  have l2 := r.lenK
  have key : ∀ (i : Nat) s, (mkEnv ks ds ++ List.replicate n .un)[i]? = some s → s = .un ∨ ∃ v d, (L2.start N vs)[i]? = some (some v) ∧ ((s = .dat d ∧ Dr K Hb v d) ∨ (s = .bor d ∧ Bo K Hb H v d)) := fun i s h => by
    rcases Nat.lt_or_ge i (mkEnv ks ds).length with hlt | hge
    · rw [List.getElem?_append_left hlt] at h
      obtain ⟨v, d, h1, h2⟩ := mkEnv_get i s r h
      refine .inr ⟨v, d, ?_, h2⟩
      unfold L2.start
      rw [List.getElem?_append_left (by simpa using (by omega : i < vs.length)), List.getElem?_map, h1]
      rfl
    · rw [List.getElem?_append_right hge] at h
      have := List.mem_of_getElem? h
      exact .inl (List.eq_of_mem_replicate this)
  refine ⟨Ex.refl _, e, ?_, fun i d h => ?_, fun i d h => ?_, fun i d h => ?_, fun i j d e h => ?_, fun i a z => by cases z⟩
  · unfold L2.start
    simp
    omega
  · rcases key i _ h with z | ⟨v, d', h1, ⟨z, h2⟩ | ⟨z, h2⟩⟩
    · cases z
    · cases z
      exact ⟨v, h1, h2⟩
    · cases z
  · rcases key i _ h with z | ⟨v, d', h1, ⟨z, h2⟩ | ⟨z, h2⟩⟩
    · cases z
    · cases z
    · cases z
      refine ⟨v, h1, ?_⟩
      rcases h2 with h2 | ⟨p, e1, e2⟩
      · exact .inl h2
      · refine .inr ⟨p, e1, e2, fun j f hj => ?_⟩
        rcases key j _ hj with z | ⟨_, _, _, ⟨z, _⟩ | ⟨z, _⟩⟩
        · cases z
        · cases z
        · cases z
  · rcases key i _ h with z | ⟨v, d', h1, ⟨z, h2⟩ | ⟨z, h2⟩⟩
    · cases z
    · cases z
    · cases z
  · rcases key i _ h with z | ⟨v, d', h1, ⟨z, h2⟩ | ⟨z, h2⟩⟩
    · cases z
    · cases z
    · cases z
section
variable {P : Program} {w : World} {K : PySem.W.Frag} {mg : Str → Option Value} {base : Heap} {x qual : Str} {params : Arguments} {body : List Stmt} {scope : Scope} {dvs : List V} {kws : List (Str × V)} {f : Addr} {fd : FuncData}
theorem bw_gw {Hb H Hb' H' : Hp} (e : Ex H H') (b : Bw H Hb Hb' H') : Gw Hb H Hb' H' := ⟨e, b.b, b.bh, b.nw⟩
/-- a def keeps the promise of its meaning -/
theorem fn_ok {N ps : List Str} {k n : Nat} {ks : List Kd} {rk : Kd} {m : SM} (F : FunD K x qual params body scope dvs kws f fd) (S : FnScope N ps scope) (hps : ps.length = ks.length) (hn : N.length = ks.length + n) (hrk : rk = .dat ∨ ∀ ρ ρ', m ρ ≠ .nx ρ')
    (hbody : ∀ (cdv : Value) (A : Around) (outer : List PySem.Env) (s : Shared) (H : Hp) (E : XK), Room k (A.deeper (PyProof.Rows.envOfC qual scope s.heap.objs.size f cdv)) → DSs (cxOf (L2.CX P w) P w K mg base N qual scope f cdv A outer s H E) ⟨fun cls d _ H => E cls d H, none⟩ rk body m) :
    FnOk P w K mg base (L2.CX P w) (k + 1) f fd ps (SpM K ks rk (runM ks n m)) := by
  refine F.ok S (fun vs H Q E h => ?_) (fun cdv A outer s H vs Q E hr h => ?_)
  · obtain ⟨Hb, ds, e, r, _⟩ := h
    rw [r.lenK, hps]
  · obtain ⟨Hb, ds, e, r, h1, h2, h3⟩ := h
    refine ⟨_, hbody cdv A outer s H E hr, H, Hb, _, relE_start e r hn, ?_⟩
    have em : runM ks n m ds = match m (mkEnv ks ds ++ List.replicate n .un) with
      | .nx _ => .ok .none
      | .rt d => .ok d
      | .ex c _ => .ex c
      | _ => .bad := rfl
    cases q : m (mkEnv ks ds ++ List.replicate n .un) with
    | nx ρ =>
      rw [q] at em
      intro σ' Hb' H' R b
      refine h1 .none em .non Hb' H' (bw_gw R.ef b) ?_
      rcases hrk with z | z
      · subst z
        exact rs_non
      · exact absurd q (z _ _)
    | rt d =>
      rw [q] at em
      exact fun v Hb' H' e1 b r1 => h1 d em v Hb' H' (bw_gw e1 b) r1
    | ex c ρ =>
      rw [q] at em
      exact fun σ' Hb' H' R b => h2 c em Hb' H' (bw_gw R.ef b)
    | bk ρ =>
      rw [q] at em
      exact absurd em h3
    | ct ρ =>
      rw [q] at em
      exact absurd em h3
    | bad =>
      rw [q] at em
      exact absurd em h3
end
end DL

/-! DLE: enumerate over a tuple. -/
namespace DL
open PySem L2 Evl PyProof.Rows
set_option maxHeartbeats 1000000 in
theorem new_enum1 {v : Value} {o : Obj} {G : Heap → Prop} (B : Begins v o G) :
    Meets (Builtin.«enumerate.__new__» ⟨[.type "enumerate", v], []⟩) (fun _ R s => G s.heap ∧
      R (.ok (.ret (.ref (s.heap.push o).objs.size))) { s with heap := (s.heap.push o).push { cls := .type "enumerate", data := .fields #[.none, .bool false, .ref s.heap.objs.size, rawInt 0, .none, .none] } }) :=
  .of_wp fun P w A R s ⟨g0, k⟩ => by
    obtain ⟨hp, gn, dr, tk, os⟩ := s
    have sb := sub_enumerate
    have it : ∀ {A' : Around} {E : Value → Shared → Prop} {Q : Value → Shared → Prop}, Q (.ref hp.objs.size) ⟨hp.push o, gn, dr, tk, os⟩ → wpAny (model P w) A' (pyIter v) Q E ⟨hp, gn, dr, tk, os⟩ :=
      fun q => B.iter P w _ _ ⟨hp, gn, dr, tk, os⟩ _ g0 q
    wp_walk using it
    refine wpAny_stack_any fun st => wpAny_pure ?_
    split
    · rename_i c _ _ _ _ _
      cases (c == Value.type "enumerate") <;> (wp_walk using it; exact ⟨_, rfl, k⟩)
    · wp_walk using it
      exact ⟨_, rfl, k⟩
theorem call_enum1 {P : Program} {w : World} {A : Around} {E : Value → Shared → Prop} {s : Shared} {v : Value} {o : Obj} {G : Heap → Prop} {Q : Value → Shared → Prop} (B : Begins v o G) (g0 : G s.heap)
    (k : ∀ h', IsEnum h' (s.heap.objs.size + 1) s.heap.objs.size 0 .none → h'.get? s.heap.objs.size = some o → (∀ b u, s.heap.get? b = some u → h'.get? b = some u) → Q (.ref (s.heap.objs.size + 1)) { s with heap := h' }) :
    wpAny (model P w) A (call (.type "enumerate") [v]) Q E s := by
  refine callType_new F.called_enumerate (by decide) (F.typeCall_enumerate_1 _) (F.newCall_enumerate_1 _) (fun obj => F.args_object_init_2 obj _) F.entry_enumerate_new (new_enum1 B) ⟨g0, ?_⟩
  have z : (s.heap.push o).objs.size = s.heap.objs.size + 1 := Heap.size_push ..
  show _ ∧ _
  rw [z]
  have en : IsEnum ((s.heap.push o).push { cls := .type "enumerate", data := .fields #[.none, .bool false, .ref s.heap.objs.size, rawInt 0, .none, .none] }) (s.heap.objs.size + 1) s.heap.objs.size 0 .none := by
    have t := Heap.get?_push_size (s.heap.push o) (o := { cls := .type "enumerate", data := .fields #[.none, .bool false, .ref s.heap.objs.size, rawInt 0, .none, .none] }) rfl
    rw [z] at t
    exact t
  exact ⟨⟨_, en, rfl⟩, k _ en (Heap.get?_push_of_some _ (Heap.get?_push_size _ B.free)) fun b u x => Heap.get?_push_of_some _ (Heap.get?_push_of_some _ x)⟩
/-- the tuple at a, each item in a new pair -/
def ItE (K : PySem.W.Frag) (a : Addr) : It :=
  ⟨fun i H => ∃ (xs : List V) (x : V), SqT K H a xs ∧ xs[i]? = some x, fun i H v H' => ∃ T x, v = .ref T ∧ H T = none ∧ H' = upd H T (.tup [.int (i : Nat), x]) ∧ ∀ xs, SqT K H a xs → xs[i]? = some x, fun i H => ∃ xs : List V, SqT K H a xs ∧ xs.length = i⟩
theorem turnE {P : Program} {w : World} {K : PySem.W.Frag} {elts : List Expr} {kk : Nat} {tpos : Pos} (a e it : Addr) :
    Turn P w K (.Tuple elts kk tpos) (ItE K a) [e, it] e (fun i h => (∃ old, IsEnum h e it ((i : Nat) : Int) old) ∧ h.IsTupleIter it a i ∧ e ≠ it) where
  mem := by simp
  obj := fun i h ⟨⟨old, he⟩, ⟨o, ho, _, hd⟩, _⟩ b hb => by
    rcases (show b = e ∨ b = it by simpa using hb) with z | z
    · subst z
      exact ⟨_, he, fun v q => nomatch q⟩
    · subst z
      exact ⟨o, ho, fun v q => by rw [hd] at q; cases q⟩
  keep := fun i h h' ⟨⟨old, he⟩, ⟨o, ho, r⟩, ne⟩ k => ⟨⟨old, k e (by simp) _ he⟩, ⟨o, k it (by simp) o ho, r⟩, ne⟩
  item := by
    intro X hP hw hK hc i pins s σ H E I hf ⟨⟨old, he⟩, hit, ne⟩ ⟨xs, x, hq, hx⟩
    subst hP hw hK
    obtain ⟨its, rv, tp, _⟩ := I.tuple hq
    obtain ⟨u, hu, ru⟩ := rv.get hx
    have hel : e < s.heap.objs.size := Heap.lt_size he
    have hil : it < s.heap.objs.size := by
      obtain ⟨_, q, _⟩ := hit
      exact Heap.lt_size q
    have nai : a ≠ it := fun z => by
      obtain ⟨o, q1, q2, _⟩ := tp
      obtain ⟨o', q3, q4, _⟩ := hit
      rw [z, q3] at q1
      cases q1
      rw [q2] at q4
      exact absurd q4 (by decide)
    have nae : e ≠ a := fun z => by
      obtain ⟨o, q1, q2, _⟩ := tp
      rw [← z, show s.heap.get? e = _ from he] at q1
      cases q1
      exact absurd (show Value.type "enumerate" = Value.type "tuple" from q2) (by decide)
    have il : i < its.toArray.size := by
      rw [List.size_toArray, ← rv.length]
      exact (List.getElem?_eq_some_iff.mp hx).1
    refine wpAny_pyNext_enum_itemD (Draws.tuple (prog := X.prog) (w := X.w) (A := X.A.in1) (show X.A.in1.handled = none from I.ok.hd hc) it a nai its.toArray) he ⟨hit, tp⟩ il ne (by simp [ne, nae]) fun y h' tk hy ho st' hT _ hk => ?_
    have ey : y = u := by
      have hy' : its[i]? = some y := by simpa using hy
      rw [hu] at hy'
      exact (Option.some.inj hy').symm
    subst ey
    refine ⟨_, rfl, wpAny_letOwnedTupleGo_enum (s := { s with heap := h', toks := tk + 1 }) ho fun h2 he2 sb => ?_⟩
    have hT2 : h2.get? s.heap.objs.size = some { cls := .type "tuple", data := .seq #[.int i tk, y] } := (sb.2 _ (Nat.ne_of_gt hel)).trans hT
    have nw : ObjOk X.prog X.w (upd H s.heap.objs.size (.tup [.int (i : Nat), x])) h2 s.heap.objs.size (.tup [.int (i : Nat), x]) :=
      ⟨by show 2 ≤ sizeLine; decide, [.int i tk, y], .cons ⟨_, rfl⟩ (.cons ru .nil), ⟨_, hT2, rfl, _, rfl⟩⟩
    have J : Inv X pins σ (upd H s.heap.objs.size (.tup [.int (i : Nat), x])) { s with heap := h2, toks := tk + 1 } :=
      I.turnedNew (ch := [e, it]) (fun b ob hb q => (sb.2 b (fun z => hb (by simp [z]))).trans (hk b ob (fun z => hb (by simp [z])) (fun z => hb (by simp [z])) q)) hf (Nat.le_refl _) nw
    refine ⟨.ref s.heap.objs.size, _, J, rfl, ⟨_, x, rfl, I.hok.fresh (Nat.le_refl _), rfl, fun ys hys => by rw [I.tuple_inj hys hq]; exact hx⟩, ⟨⟨y, ?_⟩, ?_, ne⟩, fun b hb => ?_⟩
    · rw [show ((i + 1 : Nat) : Int) = (i : Int) + 1 by omega]
      exact he2
    · obtain ⟨o, q, r⟩ := st'.1
      exact ⟨o, (sb.2 it (Ne.symm ne)).trans q, r⟩
    · have lt : b < s.heap.objs.size := by
        rcases (show b = e ∨ b = it by simpa using hb) with z | z
        · rw [z]
          exact hel
        · rw [z]
          exact hil
      rw [upd_ne (Nat.ne_of_lt lt)]
      exact (hf b hb).1
  done := by
    intro X hP hw hK hc i pins s σ H E I hf ⟨⟨old, he⟩, hit, ne⟩ ⟨xs, hq, hx⟩
    subst hP hw hK
    obtain ⟨its, rv, tp, _⟩ := I.tuple hq
    have nai : a ≠ it := fun z => by
      obtain ⟨o, q1, q2, _⟩ := tp
      obtain ⟨o', q3, q4, _⟩ := hit
      rw [z, q3] at q1
      cases q1
      rw [q2] at q4
      exact absurd q4 (by decide)
    obtain ⟨f0, f1, f2, f3, f4, f5⟩ := hf it (by simp)
    have ei : i = its.toArray.size := by rw [List.size_toArray, ← rv.length, hx]
    rw [ei] at hit
    exact wpAny_pyNext_enum_endD (Draws.tuple (prog := X.prog) (w := X.w) (A := X.A.in1) (show X.A.in1.handled = none from I.ok.hd hc) it a nai its.toArray) he ⟨hit, tp⟩ fun h' xb => ⟨rfl, I.turned (t' := s.toks) (fun b o hb q => xb b o hb q) f0 f1 f3 f4 f5⟩
  self := fun A i s Q E ⟨⟨_, he⟩, _⟩ k => wpAny_pyIter_enum he k
def iEnT (K : PySem.W.Frag) (ta : TA) : TI := fun σ H R => ta σ H fun vs H1 => ∃ a xs, vs = [.ref a] ∧ SqT K H1 a xs ∧ R (ItE K a) H1
theorem pi_enT {X : Cx} {e : Expr} {ta : TA} {p pos tpos : Pos} {elts : List Expr} {kk : Nat} (hg : Gl X "enumerate") (hm : X.mg "enumerate" = none) (ha : PA X [e] ta) (hs : starEach [e] X.env = [(false, eval e X.env)] := by rfl) :
    PI X (.Tuple elts kk tpos) (.Call (.Name "enumerate" p) [e] [] pos) (iEnT X.K ta) := by
  refine ⟨fun pins s σ H R I h => ?_⟩
  refine Call_ (ld_blt I hg hm boot_enumerate (PyProof.Rows.callWith_type1 (thn (ha.run pos pins s σ H _ I h) fun us s1 ⟨vs, H1, I1, r1, a, xs, ev, hq, q⟩ => ?_) hs rfl))
  subst ev
  cases r1 with
  | cons r rr =>
    cases rr
    cases r
    obtain ⟨its, rv, tp, _⟩ := I1.tuple hq
    refine call_enum1 (begins_tuple a its.toArray) tp fun h' he hit hk => wpAny_pyIter_enum he ?_
    refine ⟨s1.heap.objs.size + 1, [s1.heap.objs.size + 1, s1.heap.objs.size], _, _, H1, rfl, I1.kept (t' := s1.toks) hk, turnE a (s1.heap.objs.size + 1) s1.heap.objs.size, ⟨⟨.none, he⟩, ⟨_, hit, rfl, rfl⟩, Nat.succ_ne_self _⟩, fun b hb => ?_, q⟩
    have le : s1.heap.objs.size ≤ b := by
      rcases (show b = s1.heap.objs.size + 1 ∨ b = s1.heap.objs.size by simpa using hb) with z | z
      · rw [z]
        exact Nat.le_add_right _ _
      · rw [z]
        exact Nat.le_refl _
    exact I1.fpOk le (I1.hok.fresh le)
/-- the data that enumerate yields -/
def enumD (ds : List D) : List D := (List.range ds.length).zipWith (fun (i : Nat) d => PyData.tuple [.int (i : Int), d]) ds
theorem enumD_len (ds : List D) : (enumD ds).length = ds.length := by simp [enumD]
theorem enumD_get {ds : List D} {i : Nat} {d : D} (h : ds[i]? = some d) : (enumD ds)[i]? = some (.tuple [.int (i : Int), d]) := by
  have hl := (List.getElem?_eq_some_iff.mp h).1
  simp [enumD, List.getElem?_zipWith, h, List.getElem?_range hl]
theorem yl_enT {K : PySem.W.Frag} {Hb1 : Hp} {p : Addr} {xs : List V} {ds : List D} (h : SqT K Hb1 p xs) (a : DrAll K Hb1 xs ds) : Yl K Hb1 (ItE K p) (enumD ds) where
  go := fun i H e hi => by
    rw [enumD_len] at hi
    have hl := drAll_len a
    exact ⟨xs, xs[i]'(by omega), ex_t e h, by simp⟩
  stop := fun H e => ⟨xs, ex_t e h, by rw [enumD_len, drAll_len a]⟩
  yld := fun i H x H' Hb e1 e2 hi ⟨T, y, ev, hT, eH, hy⟩ => by
    subst ev eH
    obtain ⟨d, d1, d2⟩ := drAll_get a (hy xs (ex_t (e1.trans e2) h))
    have z := Gw.tup (K := K) (xs := [.int (i : Nat), y]) e2 hT (.cons (.int _) (.cons (dr_ex e1 d2) .nil))
    exact ⟨_, _, z.1, enumD_get d1, z.2⟩
def iET (m : EM) : Env → AR := fun ρ => match m ρ with
  | .ok (.tuple ds) => .ok (enumD ds)
  | .ok _ => .bad
  | .ex c => .ex c
  | .bad => .bad
theorem di_et {X : Cx} {W : WQ} {e : Expr} {m : EM} {p pos tpos : Pos} {elts : List Expr} {kk : Nat} (hm : X.mg "enumerate" = none) (h : DE X W .dat e m) (hg : Gl X "enumerate" := by rfl) (hs : starEach [e] X.env = [(false, eval e X.env)] := by rfl) :
    DI X W (.Tuple elts kk tpos) (.Call (.Name "enumerate" p) [e] [] pos) (iET m) := PI.imp (pi_enT hg hm (pa_cons h pa_nil hs) hs) fun σ H R ⟨Hf, Hb, ρ, Re, h1, h2, h3⟩ => by
  refine ⟨Hf, Hb, ρ, Re, fun d hd v Hb' H' g r => ?_, fun c hc => h2 c (by simp [iET, hc]), fun z => h3 (by simp [iET, z])⟩
  cases d with
  | tuple ds =>
    cases r with
    | tup s a => exact ⟨_, _, rfl, .inl (.inl (g.bh _ _ s)), h1 (enumD ds) (by simp [iET, hd]) _ Hb' H' g (yl_enT (.inl (.inl s)) a)⟩
  | _ => exact absurd (by simp [iET, hd]) h3
end DL

/-! DL7: comprehensions. -/
namespace DL
open PySem L2 Evl

def wipeD (ρ : Env) : List Nat → Env
  | [] => ρ
  | v :: vs => (wipeD ρ vs).set v .un
def lcD (g : GM) (mt me : EM) : List D → List D → Env → ER
  | [], acc, _ => .ok (.list acc)
  | d :: r, acc, ρ => match g d ρ with
    | none => .bad
    | some ρ1 => match mt ρ1 with
      | .ok (.bool true) => (match me ρ1 with
        | .ok e => if acc.length < sizeLine then lcD g mt me r (acc ++ [e]) ρ else .bad
        | _ => .bad)
      | .ok (.bool false) => lcD g mt me r acc ρ
      | _ => .bad
def eLc (mi : Env → AR) (g : GM) (mt me : EM) (vs : List Nat) : EM := fun ρ => match mi ρ with
  | .ok ds => lcD g mt me ds [] (wipeD ρ vs)
  | .ex c => .ex c
  | .bad => .bad
theorem lcD_list (g : GM) (mt me : EM) : ∀ (ds acc : List D) (ρ : Env), lcD g mt me ds acc ρ = .bad ∨ ∃ es, lcD g mt me ds acc ρ = .ok (.list es)
  | [], acc, ρ => .inr ⟨acc, rfl⟩
  | d :: r, acc, ρ => by
    simp only [lcD]
    split
    · exact .inl rfl
    · split
      · split
        · split
          · exact lcD_list g mt me r _ ρ
          · exact .inl rfl
        · exact .inl rfl
      · exact lcD_list g mt me r acc ρ
      · exact .inl rfl
section
variable {K : PySem.W.Frag} {Hf Hb H : Hp} {σ : L2.St} {ρ : Env}
theorem RelE.wiped (R : RelE K none Hf Hb H σ ρ) : ∀ vs, RelE K none Hf Hb H (wipe σ vs) (wipeD ρ vs)
  | [] => R
  | v :: vs => (RelE.wiped R vs).setUn (fun _ z => nomatch z)
/-- a target within a comprehension -/
def GOk (K : PySem.W.Frag) (T : TG) (g : GM) (vs : List Nat) : Prop := ∀ (Hf Hb H : Hp) (σ : L2.St) (ρ ρ' : Env) (v : V) (d : D) (Q : L2.St → Hp → Prop), RelE K none Hf Hb H (wipe σ vs) ρ → Dr K Hb v d → g d ρ = some ρ' →
  (∀ σ2, RelE K none Hf Hb H σ2 ρ' → wipe σ2 vs = wipe σ vs → Q σ2 H) → T v (wipe σ vs) H Q
theorem gok_n (j : Nat) : GOk K (gName j) (gN j) [j] := fun Hf Hb H σ ρ ρ' v d Q R r h q => by
  cases h
  exact q _ (R.setDat (fun _ z => nomatch z) r) (by simp [wipe])
theorem gT2 {i j : Nat} {d : D} {ρ ρ' : Env} (h : gT [gN i, gN j] d ρ = some ρ') : ∃ d1 d2, d = .tuple [d1, d2] ∧ ρ' = (ρ.set i (.dat d1)).set j (.dat d2) := by
  unfold gT at h
  split at h
  · rename_i ds
    cases ds with
    | nil => cases h
    | cons d1 ds =>
      cases ds with
      | nil => cases h
      | cons d2 ds =>
        cases ds with
        | nil =>
          cases h
          exact ⟨d1, d2, rfl, rfl⟩
        | cons _ _ => cases h
  · cases h
theorem wipe2 {i j : Nat} (hij : i ≠ j) (σ : L2.St) (v1 v2 : Option V) : wipe (((wipe σ [i, j]).set i v1).set j v2) [i, j] = wipe σ [i, j] := by
  have c : ∀ (l : L2.St) (a b : Option V), (l.set i a).set j b = (l.set j b).set i a := fun l a b => List.set_comm a b hij
  show (((((σ.set j none).set i none).set i v1).set j v2).set j none).set i none = (σ.set j none).set i none
  rw [List.set_set, c _ _ none, List.set_set, c _ none none, List.set_set, List.set_set]
theorem gok_2 (i j : Nat) (hij : i ≠ j) : GOk K (gTup K 2 (gCons (gName i) (gCons (gName j) gNil))) (gT [gN i, gN j]) [i, j] := fun Hf Hb H σ ρ ρ' v d Q R r h q => by
  obtain ⟨d1, d2, rfl, rfl⟩ := gT2 h
  obtain ⟨p, xs, e1, s1, a1⟩ := Bo.tup R.eb (.inl r)
  cases a1 with
  | cons b1 a1 =>
    cases a1 with
    | cons b2 a1 =>
      cases a1
      exact ⟨p, _, e1, s1, rfl, _, _, rfl, _, _, rfl, rfl, q _ ((R.setDat (fun _ z => nomatch z) b1).setDat (fun _ z => nomatch z) b2) (wipe2 hij σ _ _)⟩
end
section
variable {X : Cx} {W : WQ} {elt tg iter : Expr} {ifs : List Expr} {scope : Scope} {own : List (Str × Nat)} {pos : Pos} {mi : Env → AR} {T : TG} {g : GM} {mt me : EM}
abbrev W0 : WQ := ⟨fun _ _ _ _ => False, none⟩
/-- the iterator J yields the data ds, as long as what is on the heap stays -/
structure YlH (K : PySem.W.Frag) (Hb1 H1 : Hp) (J : It) (ds : List D) : Prop where
  go : ∀ (i : Nat) H, Ex H1 H → i < ds.length → J.go i H
  stop : ∀ H, Ex H1 H → J.stop ds.length H
  yld : ∀ (i : Nat) H x H' Hb, Ex Hb1 Hb → Ex Hb H → Ex H1 H → i < ds.length → J.yld i H x H' → ∃ Hb' d, Gw Hb H Hb' H' ∧ ds[i]? = some d ∧ Dr K Hb' x d
def iOfC (K : PySem.W.Frag) (W : WQ) (mi : Env → AR) : TI := fun σ H R => ∃ (Hf Hb : Hp) (ρ : Env), RelE K W.pin Hf Hb H σ ρ ∧
  (∀ ds, mi ρ = .ok ds → ∀ J Hb' H', Gw Hb H Hb' H' → YlH K Hb' H' J ds → R J H') ∧
  (∀ c, mi ρ = .ex c → ∀ Hb' H', Gw Hb H Hb' H' → W.w (.ref (He.ga K c)) none σ H') ∧ mi ρ ≠ .bad
abbrev DIC (X : Cx) (W : WQ) (tg iter : Expr) (mi : Env → AR) : Prop := PI X tg iter (iOfC X.K W mi)
theorem dic_of (h : DI X W tg iter mi) : DIC X W tg iter mi := PI.imp h fun σ H R ⟨Hf, Hb, ρ, Re, h1, h2, h3⟩ =>
  ⟨Hf, Hb, ρ, Re, fun ds hds J Hb' H' g Y => h1 ds hds J Hb' H' g ⟨fun i H e => Y.go i H (g.bh.trans e), fun H e => Y.stop H (g.bh.trans e), fun i H x H2 Hb2 e1 e2 _ hl y => Y.yld i H x H2 Hb2 e1 e2 hl y⟩, h2, h3⟩
/-- a list that is one's own, or one that is only read -/
theorem dic_l {e : Expr} {m : EM} (h : DE X W .bor e m) : DIC X W tg e (iL m) := PI.imp (pi_list h) fun σ H R ⟨Hf, Hb, ρ, Re, h1, h2, h3⟩ => by
  refine ⟨Hf, Hb, ρ, Re, fun d hd v Hb' H' g r => ?_, fun c hc => h2 c (by simp [iL, hc]), fun z => h3 (by simp [iL, z])⟩
  cases d with
  | list ds =>
    obtain ⟨p, xs, rfl, s, a⟩ := Bo.lst g.bh r
    refine ⟨_, rfl, ⟨_, s⟩, h1 ds (by simp [iL, hd]) _ Hb' H' g ⟨fun i H e hi => ?_, fun H e => ⟨xs, ex_l e s, by rw [drAll_len a]; exact Nat.le_refl _⟩, fun i H x H2 Hb2 e1 e2 e3 hi y => ?_⟩⟩
    · have hl := drAll_len a
      exact ⟨xs, xs[i]'(by omega), ex_l e s, by simp⟩
    · obtain ⟨rfl, y⟩ := y
      have hx := y xs (ex_l e3 s)
      obtain ⟨d, d1, d2⟩ := drAll_get a hx
      exact ⟨Hb2, d, Gw.refl e2, d1, dr_ex e1 d2⟩
  | _ => exact absurd (by simp [iL, hd]) h3
theorem eof_lc {K : PySem.W.Frag} {vs : List Nat} {σ : L2.St} {H : Hp} {Q : VK} (hw : W.pin = none) (hG : GOk K T g vs) (h : eOf K W .new (eLc mi g mt me vs) σ H Q) : tLc (iOfC K W mi) T (tOf K W0 mt) (eOf K W0 .dat me) vs σ H Q := by
  obtain ⟨Hf, Hb, ρ, R, h1, h2, h3⟩ := h
  refine ⟨Hf, Hb, ρ, R, fun ds hds J Hb1 H1 g1 Y => ?_, fun c hc => h2 c (by simp [eLc, hc]), fun z => h3 (by simp [eLc, z])⟩
  have em : eLc mi g mt me vs ρ = lcD g mt me ds [] (wipeD ρ vs) := by simp [eLc, hds]
  rw [em] at h1 h3
  intro A hA
  have Rn := R.gw g1
  rw [hw] at Rn
  have R1 := Rn.wiped vs
  have hbA : Hb1 A = none := fresh_back g1.bh hA
  refine ⟨fun i n H' => n = ds.length - i ∧ i ≤ ds.length ∧ ∃ Hb' acc accd, Gw Hb1 H1 Hb' H' ∧ Hb' A = none ∧ H' A = some (.lst acc) ∧ DrAll K Hb' acc accd ∧ lcD g mt me (ds.drop i) accd (wipeD ρ vs) = lcD g mt me ds [] (wipeD ρ vs),
    ⟨ds.length, by simp, Nat.zero_le _, Hb1, [], [], Gw.new g1.bh hA, hbA, upd_same, .nil, rfl⟩, ?_⟩
  rintro i n H2 ⟨rfl, hi, Hb2, acc, accd, g2, hb2, ho2, a2, e2⟩
  by_cases hlt : i < ds.length
  · have ed : ds.drop i = ds[i] :: ds.drop (i + 1) := (List.getElem_cons_drop hlt).symm
    rw [ed] at e2
    refine .inr ⟨Y.go i H2 g2.h hlt, fun H' => ∃ Hb' acc accd, Gw Hb1 H1 Hb' H' ∧ Hb' A = none ∧ H' A = some (.lst acc) ∧ DrAll K Hb' acc accd ∧ lcD g mt me (ds.drop (i + 1)) accd (wipeD ρ vs) = lcD g mt me ds [] (wipeD ρ vs),
      fun H' hN => ⟨ds.length - (i + 1), by omega, rfl, hlt, hN⟩, fun x H3 y => ?_⟩
    obtain ⟨Hb3, d, g3, d1, d2⟩ := Y.yld i H2 x H3 Hb2 g2.b g2.bh g2.h hlt y
    have de : ds[i] = d := by
      rw [List.getElem?_eq_getElem hlt] at d1
      exact Option.some.inj d1
    rw [de] at e2
    simp only [lcD] at e2
    cases q : g d (wipeD ρ vs) with
    | none =>
      rw [q] at e2
      exact absurd e2.symm h3
    | some ρ3 =>
      rw [q] at e2
      simp only at e2
      have g23 := g2.trans g3
      refine hG Hf Hb3 H3 σ (wipeD ρ vs) ρ3 x d _ (R1.gw g23) d2 q fun σ4 R4 w4 => ⟨w4, ?_⟩
      have ho3 := g3.h _ _ ho2
      have hb3 : Hb3 A = none := g3.nw A hb2 (by rw [ho2]; exact True.intro)
      cases qt : mt ρ3 with
      | bad =>
        rw [qt] at e2
        exact absurd e2.symm h3
      | ex c =>
        rw [qt] at e2
        exact absurd e2.symm h3
      | ok dt =>
        rw [qt] at e2
        cases dt with
        | bool b =>
          refine ⟨Hf, Hb3, ρ3, R4, fun b' hb' Hb5 H5 g5 => ?_, fun c hc => (by rw [qt] at hc; cases hc), .inl ⟨b, qt⟩⟩
          rw [qt] at hb'
          cases hb'
          cases b with
          | true =>
            simp only at e2
            cases qe : me ρ3 with
            | bad =>
              rw [qe] at e2
              exact absurd e2.symm h3
            | ex c =>
              rw [qe] at e2
              exact absurd e2.symm h3
            | ok de =>
              rw [qe] at e2
              simp only at e2
              by_cases hz : accd.length < sizeLine
              · rw [if_pos hz] at e2
                show eOf K W0 .dat me σ4 H5 _
                refine ⟨Hf, Hb5, ρ3, R4.gw g5, fun d' hd' v' Hb6 H6 g6 r6 => ?_, fun c hc => (by rw [qe] at hc; cases hc), fun z => (by rw [qe] at z; cases z)⟩
                rw [qe] at hd'
                cases hd'
                have g36 := g3.trans (g5.trans g6)
                have ho6 := g36.h _ _ ho2
                have hb6 : Hb6 A = none := g36.nw A hb2 (by rw [ho2]; exact True.intro)
                have gg := g2.trans g36
                refine ⟨acc, ho6, by rw [drAll_len a2]; exact hz, Hb6, acc ++ [v'], accd ++ [de], ⟨fun a u qa => ?_, gg.b, fun a u qa => ?_, gg.nw⟩, hb6, upd_same, drAll_app (drAll_ex g36.b a2) (.cons r6 .nil), e2⟩
                · rw [upd_ne (ne_of_none qa hA)]
                  exact gg.h a u qa
                · rw [upd_ne (ne_of_none qa hb6)]
                  exact gg.bh a u qa
              · rw [if_neg hz] at e2
                exact absurd e2.symm h3
          | false =>
            simp only at e2
            show ∃ Hb' acc accd, _
            have g35 := g3.trans g5
            exact ⟨Hb5, acc, accd, g2.trans g35, g35.nw A hb2 (by rw [ho2]; exact True.intro), g35.h _ _ ho2, drAll_ex g35.b a2, e2⟩
        | _ =>
          simp only at e2
          exact absurd e2.symm h3
  · have e : i = ds.length := by omega
    subst e
    rw [List.drop_length] at e2
    simp only [lcD] at e2
    refine .inl ⟨Y.stop H2 g2.h, h1 (.list accd) e2.symm _ Hb2 H2 (g1.trans g2) ⟨A, rfl, fresh_back g1.h hA, hb2, _, ho2, .lst a2⟩⟩
theorem tof_yes {K : PySem.W.Frag} {σ : L2.St} {H : Hp} {Q : Bool → Hp → Prop} {Wx : WQ} (h : tOf K Wx (eC (.bool true)) σ H Q) : tYes σ H Q := by
  obtain ⟨Hf, Hb, ρ, R, h1, _, _⟩ := h
  exact h1 true rfl Hb H (Gw.refl R.eb)
theorem PTs.imp {X : Cx} {e : List Expr} {t t' : TT} (h : PTs X e t) (i : ∀ σ H Q, t' σ H Q → t σ H Q) : PTs X e t' := ⟨fun pins s σ H Q I q => h.run pins s σ H Q I (i σ H Q q)⟩
abbrev DTs (X : Cx) (W : WQ) (ifs : List Expr) (m : EM) : Prop := PTs X ifs (tOf X.K W m)
theorem dts_nil : DTs X W [] (eC (.bool true)) := PTs.imp pts_nil fun _ _ _ => tof_yes
theorem dts_one {c : Expr} {m : EM} (h : DT X W c m) : DTs X W [c] m := pts_one h
/-- [elt for tg in iter if ..] -/
theorem de_lc (hN : X.N.Nodup) (hi : DIC X W tg iter mi) (ok : BlkOk X.N X.env.scope scope own) (hG : GOk X.K T g (own.map (·.2)))
    (hg : ∀ (s : Shared) (H : Hp) (C : Addr) (cl : List (Str × Addr)) (fp : List Addr), PG (X.blk s H scope (compEnvC scope cl C X.env) fp) tg T)
    (ht : ∀ (s : Shared) (H : Hp) (C : Addr) (cl : List (Str × Addr)) (fp : List Addr), DTs (X.blk s H scope (compEnvC scope cl C X.env) fp) W0 ifs mt)
    (he : ∀ (s : Shared) (H : Hp) (C : Addr) (cl : List (Str × Addr)) (fp : List Addr), DE (X.blk s H scope (compEnvC scope cl C X.env) fp) W0 .dat elt me) (hc : X.calm = true := by rfl) (hs : ∀ x, foldedSetIterable iter X.env x = pure x := by intro _; rfl) (hw : W.pin = none := by rfl) :
    DE X W .new (.ListComp elt [⟨tg, iter, ifs, 0⟩] scope pos) (eLc mi g mt me (own.map (·.2))) := PE.imp (pe_lc (tt := tOf X.K W0 mt) (te := eOf X.K W0 .dat me) hc hN hi ok hg ht he hs) fun _ _ _ => eof_lc hw hG
theorem ds_lc {rk : Kd} {i : Nat} {y : Str} {py spos : Pos} (hN : X.N.Nodup) (hsw : swapsWith (.ListComp elt [⟨tg, iter, ifs, 0⟩] scope pos) (some (.Name y py)) spos.line X.env = pure true) (hi : DIC X W tg iter mi) (ok : BlkOk X.N X.env.scope scope own) (hG : GOk X.K T g (own.map (·.2)))
    (hg : ∀ (s : Shared) (H : Hp) (C : Addr) (cl : List (Str × Addr)) (fp : List Addr), PG (X.blk s H scope (compEnvC scope cl C X.env) fp) tg T)
    (ht : ∀ (s : Shared) (H : Hp) (C : Addr) (cl : List (Str × Addr)) (fp : List Addr), DTs (X.blk s H scope (compEnvC scope cl C X.env) fp) W0 ifs mt)
    (he : ∀ (s : Shared) (H : Hp) (C : Addr) (cl : List (Str × Addr)) (fp : List Addr), DE (X.blk s H scope (compEnvC scope cl C X.env) fp) W0 .dat elt me) (hy : X.N[i]? = some y := by rfl) (hyl : X.env.scope.names.lookup y = some .local := by rfl) (hc : X.calm = true := by rfl) (hs : ∀ x, foldedSetIterable iter X.env x = pure x := by intro _; rfl) (hw : W.pin = none := by rfl) :
    DS X W rk (.Assign [.Name y py] (.ListComp elt [⟨tg, iter, ifs, 0⟩] scope pos) spos) (sAsgN i (eLc mi g mt me (own.map (·.2)))) := PS.imp (ps_setLc (tt := tOf X.K W0 mt) (te := eOf X.K W0 .dat me) hc hN hy hyl hsw hi ok hg ht he hs) fun E σ H ⟨Hf, Hb, ρ, R, h⟩ => by
  refine eof_lc hw hG ⟨Hf, Hb, ρ, R, fun d hd v Hb' H' g r => ?_, fun c hc Hb' H' g => ?_, fun z => ?_⟩
  · simp only [sAsgN, hd] at h
    obtain ⟨p, rfl, h0, hb, ow⟩ := r
    exact h _ Hb' H' (R.setNew (fun a z => by rw [hw] at z; cases z) g h0 hb ow) (g.bw R.ef)
  · simp only [sAsgN, hc] at h
    exact h _ Hb' H' (R.gw g) (g.bw R.ef)
  · simp only [sAsgN, z] at h
    exact h
theorem ds_lcD {rk : Kd} {i : Nat} {y : Str} {py spos : Pos} (hN : X.N.Nodup) (hsw : swapsWith (.ListComp elt [⟨tg, iter, ifs, 0⟩] scope pos) (some (.Name y py)) spos.line X.env = pure true) (hi : DIC X W tg iter mi) (ok : BlkOk X.N X.env.scope scope own) (hG : GOk X.K T g (own.map (·.2)))
    (hg : ∀ (s : Shared) (H : Hp) (C : Addr) (cl : List (Str × Addr)) (fp : List Addr), PG (X.blk s H scope (compEnvC scope cl C X.env) fp) tg T)
    (ht : ∀ (s : Shared) (H : Hp) (C : Addr) (cl : List (Str × Addr)) (fp : List Addr), DTs (X.blk s H scope (compEnvC scope cl C X.env) fp) W0 ifs mt)
    (he : ∀ (s : Shared) (H : Hp) (C : Addr) (cl : List (Str × Addr)) (fp : List Addr), DE (X.blk s H scope (compEnvC scope cl C X.env) fp) W0 .dat elt me) (hy : X.N[i]? = some y := by rfl) (hyl : X.env.scope.names.lookup y = some .local := by rfl) (hc : X.calm = true := by rfl) (hs : ∀ x, foldedSetIterable iter X.env x = pure x := by intro _; rfl) (hw : W.pin = none := by rfl) :
    DS X W rk (.Assign [.Name y py] (.ListComp elt [⟨tg, iter, ifs, 0⟩] scope pos) spos) (sAsg i (eLc mi g mt me (own.map (·.2)))) := PS.imp (ps_setLc (tt := tOf X.K W0 mt) (te := eOf X.K W0 .dat me) hc hN hy hyl hsw hi ok hg ht he hs) fun E σ H ⟨Hf, Hb, ρ, R, h⟩ => by
  refine eof_lc hw hG ⟨Hf, Hb, ρ, R, fun d hd v Hb' H' g r => ?_, fun c hc Hb' H' g => ?_, fun z => ?_⟩
  · simp only [sAsg, hd] at h
    have hl : ∃ ds, d = .list ds := by
      unfold eLc at hd
      split at hd
      · rename_i ds hds
        rcases lcD_list _ mt me ds [] (wipeD ρ (own.map (·.2))) with z | ⟨es, z⟩
        · rw [z] at hd
          cases hd
        · rw [z] at hd
          cases hd
          exact ⟨es, rfl⟩
      · cases hd
      · cases hd
    obtain ⟨ds, rfl⟩ := hl
    obtain ⟨Hb2, g2, r2⟩ := Rs.frz g r
    exact h _ Hb2 H' ((R.gw g2).setDat (fun a z => by rw [hw] at z; cases z) r2) (g2.bw R.ef)
  · simp only [sAsg, hc] at h
    exact h _ Hb' H' (R.gw g) (g.bw R.ef)
  · simp only [sAsg, z] at h
    exact h
end
end DL

/-! DL8: in, texts' methods. -/
namespace DL
open PySem L2 Evl

/-! ### minus -/
def dNeg : D → ER
  | .int i => .ok (.int (-i))
  | _ => .bad
def eUn (g : D → ER) (m : EM) : EM := fun ρ => (m ρ).bind g
theorem de_neg {X : Cx} {W : WQ} {a : Expr} {m : EM} {pos : Pos} (h : DE X W .bor a m) : DE X W .dat (.UnaryOp .USub a pos) (eUn dNeg m) := PE.imp (pe_un un_neg h) fun σ H Q ⟨Hf, Hb, ρ, R, h1, h2, h3⟩ => by
  refine ⟨Hf, Hb, ρ, R, fun d hd v Hb1 H1 g1 r1 => ?_, fun c hc => h2 c (by simp [eUn, hc, ER.bind]), fun z => h3 (by simp [eUn, z, ER.bind])⟩
  cases d with
  | int i => exact ⟨i, Bo.int r1, h1 (.int (-i)) (by simp [eUn, hd, ER.bind, dNeg]) _ Hb1 H1 g1 rs_int⟩
  | _ => exact absurd (by simp [eUn, hd, ER.bind, dNeg]) h3
/-! ### a sign in a text -/
def dInS (neg : Bool) : D → D → ER
  | .str x, .str z => (match x.cps.toList with
    | [c] => .ok (.bool (if neg then !decide (c ∈ z.cps.toList) else decide (c ∈ z.cps.toList)))
    | _ => .bad)
  | _, _ => .bad
theorem ne_inS (neg : Bool) : NoEx2 (dInS neg) := fun x y c h => by
  cases x <;> cases y <;> simp only [dInS] at h <;> first | cases h; done | (split at h <;> cases h)
theorem str_one {x : Str} {c : Nat} (h : x.cps.toList = [c]) : x = ⟨#[c]⟩ := by
  obtain ⟨a⟩ := x
  obtain ⟨l⟩ := a
  have e : l = [c] := h
  rw [e]
section
variable {X : Cx}
theorem od_inS : OpD X (compareOp .In) .dat (dInS false) := by
  intro pins s σ H x y v u Q I rx ry h
  obtain ⟨Hb, dx, dy, d, eb, bx, byy, hg, q⟩ := h
  cases dx <;> cases dy <;> simp only [dInS] at hg <;> first | cases hg; done | skip
  split at hg
  · rename_i c hc
    cases hg
    exact op_in_sign pins s σ H x y v u Q I rx ry ⟨c, _, by rw [bx.str, str_one hc], byy.str, q _ Hb H (Gw.refl eb) rs_bl⟩
  · cases hg
theorem od_notInS : OpD X (compareOp .NotIn) .dat (dInS true) := by
  intro pins s σ H x y v u Q I rx ry h
  obtain ⟨Hb, dx, dy, d, eb, bx, byy, hg, q⟩ := h
  cases dx <;> cases dy <;> simp only [dInS] at hg <;> first | cases hg; done | skip
  split at hg
  · rename_i c hc
    cases hg
    exact op_notIn_sign pins s σ H x y v u Q I rx ry ⟨c, _, by rw [bx.str, str_one hc], byy.str, q _ Hb H (Gw.refl eb) rs_bl⟩
  · cases hg
end
/-! ### in a tuple or list of flat things -/
def flatD : D → Bool
  | .none => true
  | .bool _ => true
  | .int _ => true
  | .str _ => true
  | _ => false
def vOf : D → V
  | .bool b => .bl b
  | .int i => .int i
  | .str x => .str x
  | _ => .non
def dInQ (neg : Bool) : D → D → ER
  | x, .tuple ds => if flatD x && ds.all flatD then .ok (.bool (if neg then !inV (vOf x) (ds.map vOf) else inV (vOf x) (ds.map vOf))) else .bad
  | x, .list ds => if flatD x && ds.all flatD then .ok (.bool (if neg then !inV (vOf x) (ds.map vOf) else inV (vOf x) (ds.map vOf))) else .bad
  | _, _ => .bad
theorem ne_inQ (neg : Bool) : NoEx2 (dInQ neg) := fun x y c h => by
  cases y <;> simp only [dInQ] at h <;> first | cases h; done | (split at h <;> cases h)
theorem flat_v {K : PySem.W.Frag} {H : Hp} {v : V} {d : D} (h : flatD d = true) (r : Dr K H v d) : v = vOf d ∧ flatV v = true := by
  cases r <;> simp [flatD] at h <;> exact ⟨rfl, rfl⟩
theorem flat_bo {K : PySem.W.Frag} {Hb H : Hp} {v : V} {d : D} (h : flatD d = true) (r : Bo K Hb H v d) : v = vOf d ∧ flatV v = true := by
  rcases r with r | ⟨p, _, o, _, r⟩
  · exact flat_v h r
  · cases r <;> simp [flatD] at h
theorem flat_all {K : PySem.W.Frag} {H : Hp} : ∀ {vs : List V} {ds : List D}, ds.all flatD = true → DrAll K H vs ds → vs = ds.map vOf ∧ vs.all flatV = true
  | _, _, _, .nil => ⟨rfl, rfl⟩
  | _, _, h, .cons a b => by
    simp only [List.all_cons, Bool.and_eq_true] at h
    obtain ⟨h1, h2⟩ := flat_v h.1 a
    obtain ⟨h3, h4⟩ := flat_all h.2 b
    exact ⟨by rw [h1, h3]; rfl, by simp only [List.all_cons, h2, h4]; rfl⟩
section
variable {X : Cx}
theorem od_inQ : OpD X (compareOp .In) .dat (dInQ false) := by
  intro pins s σ H x y v u Q I rx ry h
  obtain ⟨Hb, dx, dy, d, eb, bx, byy, hg, q⟩ := h
  cases dy <;> simp only [dInQ] at hg <;> first | cases hg; done | skip
  · split at hg
    · rename_i hz
      cases hg
      rw [Bool.and_eq_true] at hz
      obtain ⟨p, xs, e1, s1, a1⟩ := byy.lst eb
      obtain ⟨f1, f2⟩ := flat_bo hz.1 bx
      obtain ⟨f3, f4⟩ := flat_all hz.2 a1
      refine op_in_seq pins s σ H x y v u Q I rx ry ⟨p, xs, e1, .inl s1, f2, f4, ?_⟩
      rw [f1, f3]
      exact q _ Hb H (Gw.refl eb) rs_bl
    · cases hg
  · split at hg
    · rename_i hz
      cases hg
      rw [Bool.and_eq_true] at hz
      obtain ⟨p, xs, e1, s1, a1⟩ := byy.tup eb
      obtain ⟨f1, f2⟩ := flat_bo hz.1 bx
      obtain ⟨f3, f4⟩ := flat_all hz.2 a1
      refine op_in_seq pins s σ H x y v u Q I rx ry ⟨p, xs, e1, .inr s1, f2, f4, ?_⟩
      rw [f1, f3]
      exact q _ Hb H (Gw.refl eb) rs_bl
    · cases hg
theorem od_notInQ : OpD X (compareOp .NotIn) .dat (dInQ true) := by
  intro pins s σ H x y v u Q I rx ry h
  obtain ⟨Hb, dx, dy, d, eb, bx, byy, hg, q⟩ := h
  cases dy <;> simp only [dInQ] at hg <;> first | cases hg; done | skip
  · split at hg
    · rename_i hz
      cases hg
      rw [Bool.and_eq_true] at hz
      obtain ⟨p, xs, e1, s1, a1⟩ := byy.lst eb
      obtain ⟨f1, f2⟩ := flat_bo hz.1 bx
      obtain ⟨f3, f4⟩ := flat_all hz.2 a1
      refine op_notIn_seq pins s σ H x y v u Q I rx ry ⟨p, xs, e1, .inl s1, f2, f4, ?_⟩
      rw [f1, f3]
      exact q _ Hb H (Gw.refl eb) rs_bl
    · cases hg
  · split at hg
    · rename_i hz
      cases hg
      rw [Bool.and_eq_true] at hz
      obtain ⟨p, xs, e1, s1, a1⟩ := byy.tup eb
      obtain ⟨f1, f2⟩ := flat_bo hz.1 bx
      obtain ⟨f3, f4⟩ := flat_all hz.2 a1
      refine op_notIn_seq pins s σ H x y v u Q I rx ry ⟨p, xs, e1, .inr s1, f2, f4, ?_⟩
      rw [f1, f3]
      exact q _ Hb H (Gw.refl eb) rs_bl
    · cases hg
end
/-! ### methods of texts -/
def eS0 (f : Str → D) (m : EM) : EM := fun ρ => (m ρ).bind fun d => match d with
  | .str z => .ok (f z)
  | _ => .bad
def eS1 (f : Str → Str → D) (m n : EM) : EM := fun ρ => (m ρ).bind fun d => match d with
  | .str z => (n ρ).bind fun e => (match e with
    | .str y => .ok (f z y)
    | _ => .bad)
  | _ => .bad
section
variable {X : Cx} {W : WQ} {o e : Expr} {m n : EM} {apos pos : Pos}
theorem de_s0b {id : String} {name : Str} (f : Str → Bool) (slot : Slot "str" name id) (ty : typeOf (.builtin id) = pure (.type "method_descriptor")) (rule : MtR X id (fun x xs H Q => ∃ a, x = .str a ∧ xs = [] ∧ True ∧ Q (.bl (f a)) H)) (ho : DE X W .bor o m)
    (hbase : attributeBase o name X.env (eval o X.env) = eval o X.env := by rfl) (hline : (apos.endLine == pos.line) = true := by rfl) : DE X W .dat (.Call (.Attribute o name apos) [] [] pos) (eS0 (fun z => .bool (f z)) m) :=
  PE.imp (pe_m0 slot ty rule ho hbase hline) fun σ H Q ⟨Hf, Hb, ρ, R, h1, h2, h3⟩ => by
    refine ⟨Hf, Hb, ρ, R, fun d hd v Hb1 H1 g1 r1 => ?_, fun c hc => h2 c (by simp [eS0, hc, ER.bind]), fun z => h3 (by simp [eS0, z, ER.bind])⟩
    cases d with
    | str z =>
      have e1 := Bo.str r1
      exact ⟨⟨z, e1⟩, z, e1, rfl, trivial, h1 (.bool (f z)) (by simp [eS0, hd, ER.bind]) _ Hb1 H1 g1 rs_bl⟩
    | _ => exact absurd (by simp [eS0, hd, ER.bind]) h3
theorem de_s1b {id : String} {name : Str} (f : Str → Str → Bool) (slot : Slot "str" name id) (ty : typeOf (.builtin id) = pure (.type "method_descriptor")) (rule : MtR X id (fun x xs H Q => ∃ a b, x = .str a ∧ xs = [.str b] ∧ Q (.bl (f a b)) H)) (ho : DE X W .bor o m) (he : DE X W .bor e n)
    (hs : starEach [e] X.env = [(false, eval e X.env)] := by rfl) (hbase : attributeBase o name X.env (eval o X.env) = eval o X.env := by rfl) (hline : (apos.endLine == pos.line) = true := by rfl) : DE X W .dat (.Call (.Attribute o name apos) [e] [] pos) (eS1 (fun z y => .bool (f z y)) m n) :=
  PE.imp (pe_m1 slot ty rule ho he hs hbase hline) fun σ H Q ⟨Hf, Hb, ρ, R, h1, h2, h3⟩ => by
    refine ⟨Hf, Hb, ρ, R, fun d hd v Hb1 H1 g1 r1 => ?_, fun c hc => h2 c (by simp [eS1, hc, ER.bind]), fun z => h3 (by simp [eS1, z, ER.bind])⟩
    cases d with
    | str z =>
      have e1 := Bo.str r1
      refine ⟨⟨z, e1⟩, Hf, Hb1, ρ, R.gw g1, fun d2 hd2 v2 Hb2 H2 g2 r2 => ?_, fun c hc Hb2 H2 g2 => h2 c (by simp [eS1, hd, hc, ER.bind]) Hb2 H2 (g1.trans g2), fun z => h3 (by simp [eS1, hd, z, ER.bind])⟩
      cases d2 with
      | str y => exact ⟨z, y, e1, by rw [Bo.str r2], h1 (.bool (f z y)) (by simp [eS1, hd, hd2, ER.bind]) _ Hb2 H2 (g1.trans g2) rs_bl⟩
      | _ => exact absurd (by simp [eS1, hd, hd2, ER.bind]) h3
    | _ => exact absurd (by simp [eS1, hd, ER.bind]) h3
/-- {} that is never filled -/
theorem de_dict0 {pos : Pos} : DE X W .dat (.Dict [] [] pos) (eC (.dict [])) := PE.imp pe_dnewK fun σ H Q ⟨Hf, Hb, ρ, R, h1, h2, h3⟩ => fun p hp =>
  h1 (.dict []) rfl _ _ _ (Gw.fix R.eb hp) (.dict0 (.inl upd_same))
end
end DL

/-! DLD: dicts of one's own, keys ints and texts. -/
namespace DL
open PySem L2 Evl

def keyOf : D → Option Key
  | .int i => some (.inl i)
  | .str x => some (.inr x)
  | _ => none
theorem keyOf_keyD (k : Key) : keyOf (keyD k) = some k := by cases k <;> rfl
/-- no dict with tuple keys (those bear a mark ahead of their entries) -/
def unm : List (D × D) → Bool
  | (.none, _) :: _ => false
  | _ => true
def dFind (ds : List (D × D)) (k : Key) : Option D := (ds.find? fun q => decide (keyOf q.1 = some k)).map (·.2)
def dStore (ds : List (D × D)) (k : Key) (v : D) : List (D × D) :=
  if (ds.any fun q => decide (keyOf q.1 = some k)) = true then ds.map (fun q => if keyOf q.1 = some k then (q.1, v) else q) else ds ++ [(keyD k, v)]
abbrev PK (K : PySem.W.Frag) (Hb : Hp) : List (Key × V) → List (D × D) → Prop := Paired (fun (p : Key × V) (q : D × D) => q.1 = keyD p.1 ∧ Dr K Hb p.2 q.2)
section
variable {K : PySem.W.Frag} {Hb H : Hp}
theorem pk_find {k : Key} : ∀ {kvs : List (Key × V)} {ds : List (D × D)}, PK K Hb kvs ds → (valV kvs k = none ∧ dFind ds k = none) ∨ ∃ v d, valV kvs k = some v ∧ dFind ds k = some d ∧ Dr K Hb v d
  | _, _, .nil => .inl ⟨rfl, rfl⟩
  | _, _, .cons (a := p) (b := q) (l₁ := kvs) (l₂ := ds) h r => by
    have e : keyOf q.1 = some p.1 := by rw [h.1, keyOf_keyD]
    by_cases z : p.1 = k
    · refine .inr ⟨p.2, q.2, valV_pos z, ?_, h.2⟩
      have e2 : keyOf q.1 = some k := by rw [e, z]
      simp [dFind, List.find?_cons, e2]
    · have e2 : ¬ keyOf q.1 = some k := by
        rw [e]
        exact fun w => z (Option.some.inj w)
      have e3 : dFind (q :: ds) k = dFind ds k := by simp [dFind, List.find?_cons, e2]
      rw [valV_neg z, e3]
      exact pk_find r
theorem pk_any {k : Key} : ∀ {kvs : List (Key × V)} {ds : List (D × D)}, PK K Hb kvs ds → (kvs.any fun kv => decide (kv.1 = k)) = ds.any fun q => decide (keyOf q.1 = some k)
  | _, _, .nil => rfl
  | _, _, .cons (a := p) (b := q) h r => by
    have e : keyOf q.1 = some p.1 := by rw [h.1, keyOf_keyD]
    rw [List.any_cons, List.any_cons, pk_any r, e]
    congr 1
    simp
theorem pk_map {k : Key} {v : V} {d : D} (hv : Dr K Hb v d) : ∀ {kvs : List (Key × V)} {ds : List (D × D)}, PK K Hb kvs ds → PK K Hb (kvs.map fun kv => if kv.1 = k then (kv.1, v) else kv) (ds.map fun q => if keyOf q.1 = some k then (q.1, d) else q)
  | _, _, .nil => .nil
  | _, _, .cons (a := p) (b := q) h r => by
    have e : keyOf q.1 = some p.1 := by rw [h.1, keyOf_keyD]
    rw [List.map_cons, List.map_cons]
    refine .cons ?_ (pk_map hv r)
    by_cases z : p.1 = k
    · rw [if_pos z, if_pos (by rw [e, z])]
      exact ⟨h.1, hv⟩
    · rw [if_neg z, if_neg (by rw [e]; exact fun w => z (Option.some.inj w))]
      exact h
theorem paired_app {α β : Type} {F : α → β → Prop} : ∀ {l l' : List α} {m m' : List β}, Paired F l m → Paired F l' m' → Paired F (l ++ l') (m ++ m')
  | _, _, _, _, .nil, h => h
  | _, _, _, _, .cons a b, h => .cons a (paired_app b h)
theorem pk_put {k : Key} {v : V} {d : D} (hv : Dr K Hb v d) {kvs : List (Key × V)} {ds : List (D × D)} (h : PK K Hb kvs ds) : PK K Hb (putK kvs k v) (dStore ds k d) := by
  unfold putK dStore
  rw [pk_any h]
  split
  · exact pk_map hv h
  · exact paired_app h (.cons ⟨rfl, hv⟩ .nil)
theorem pk_len {kvs : List (Key × V)} {ds : List (D × D)} (h : PK K Hb kvs ds) : kvs.length = ds.length := Paired.length h
theorem Bo.key {v : V} {d : D} {k : Key} (h : Bo K Hb H v d) (e : keyOf d = some k) : v = kV k := by
  cases d with
  | int i =>
    cases e
    exact h.int
  | str x =>
    cases e
    exact h.str
  | _ => cases e
theorem Bo.dict {v : V} {ds : List (D × D)} (e : Ex Hb H) (h : Bo K Hb H v (.dict ds)) (hm : unm ds = true) : ∃ p kvs, v = .ref p ∧ Rd H p (.dK kvs) ∧ PK K Hb kvs ds := by
  rcases h with h | ⟨p, rfl, o, h2, h3⟩
  · cases h with
    | dict0 a => exact ⟨_, [], rfl, ex_rd e a, .nil⟩
  · cases h3 with
    | dK a => exact ⟨p, _, rfl, .inl h2, a⟩
    | dT a => cases hm
end
/-! ### reading -/
def dDGet : D → D → ER
  | .dict ds, k => if unm ds = true then (match keyOf k with
    | some k => (match dFind ds k with
      | some v => .ok v
      | none => .bad)
    | none => .bad) else .bad
  | _, _ => .bad
def dInD (neg : Bool) : D → D → ER
  | k, .dict ds => if unm ds = true then (match keyOf k with
    | some k => .ok (.bool ((dFind ds k).isSome != neg))
    | none => .bad) else .bad
  | _, _ => .bad
theorem ne_dget : NoEx2 dDGet := fun x y c h => by
  cases x <;> simp only [dDGet] at h <;> (repeat' split at h) <;> cases h
theorem ne_inD (b : Bool) : NoEx2 (dInD b) := fun x y c h => by
  cases y <;> simp only [dInD] at h <;> (repeat' split at h) <;> cases h
section
variable {X : Cx} {W : WQ} {a b o e f : Expr} {ma mb mc : EM} {pos apos cpos : Pos}
theorem find_isSome {K : PySem.W.Frag} {Hb : Hp} {k : Key} {kvs : List (Key × V)} {ds : List (D × D)} (h : PK K Hb kvs ds) : (valV kvs k).isSome = (dFind ds k).isSome := by
  rcases pk_find (k := k) h with ⟨h1, h2⟩ | ⟨v, d, h1, h2, _⟩ <;> rw [h1, h2] <;> rfl
theorem od_inD (hu : X.A.units + 64 < cLine) : OpD X (compareOp .In) .dat (dInD false) := by
  intro pins s σ H x y v u Q I rx ry h
  obtain ⟨Hb, dx, dy, d, eb, bx, byy, hg, q⟩ := h
  cases dy with
  | dict ds =>
    have hm : unm ds = true := by
      cases qm : unm ds with
      | true => rfl
      | false => simp [dInD, qm] at hg
    simp only [dInD, hm, if_true] at hg
    split at hg
    · rename_i k hk
      cases hg
      obtain ⟨p, kvs, rfl, hd, pk⟩ := byy.dict eb hm
      rw [bx.key hk] at rx
      cases (show u = Value.ref p from ry)
      refine d_in (o := valV kvs k) (by omega) I (.inl ⟨kvs, k, hd, rfl, rfl⟩) rx fun s' I' => ?_
      rw [find_isSome pk]
      exact ⟨.bl (dFind ds k).isSome, H, I', rfl, by
        have := q (.bl (dFind ds k).isSome) Hb H (Gw.refl eb)
        rw [Bool.bne_false] at this
        exact this rs_bl⟩
    · cases hg
  | _ => cases dx <;> simp [dInD] at hg
theorem od_notInD (hu : X.A.units + 64 < cLine) : OpD X (compareOp .NotIn) .dat (dInD true) := by
  intro pins s σ H x y v u Q I rx ry h
  obtain ⟨Hb, dx, dy, d, eb, bx, byy, hg, q⟩ := h
  cases dy with
  | dict ds =>
    have hm : unm ds = true := by
      cases qm : unm ds with
      | true => rfl
      | false => simp [dInD, qm] at hg
    simp only [dInD, hm, if_true] at hg
    split at hg
    · rename_i k hk
      cases hg
      obtain ⟨p, kvs, rfl, hd, pk⟩ := byy.dict eb hm
      rw [bx.key hk] at rx
      cases (show u = Value.ref p from ry)
      refine d_notIn (o := valV kvs k) (by omega) I (.inl ⟨kvs, k, hd, rfl, rfl⟩) rx fun s' I' => ?_
      rw [find_isSome pk]
      exact ⟨.bl (!(dFind ds k).isSome), H, I', rfl, by
        have := q (.bl (!(dFind ds k).isSome)) Hb H (Gw.refl eb)
        rw [Bool.bne_true] at this
        exact this rs_bl⟩
    · cases hg
  | _ => cases dx <;> simp [dInD] at hg
/-- d[k] -/
theorem de_dget (hu : X.A.units + 64 < cLine) (ha : DE X W .bor a ma) (hb : DE X W .bor b mb) (hs : NoSl b := by exact fun _ _ => rfl) : DE X W .dat (.Subscript a b pos) (eBin dDGet ma mb) := PE.imp (pe_dget (by omega) ha hb hs) fun σ H Q ⟨Hf, Hb, ρ, R, h1, h2, h3⟩ => by
  refine ⟨Hf, Hb, ρ, R, fun d hd v Hb1 H1 g1 r1 => ?_, fun c hc Hb1 H1 g1 => h2 c (by simp [eBin, hc, ER.bind]) Hb1 H1 g1, fun z => h3 (by simp [eBin, z, ER.bind])⟩
  refine ⟨Hf, Hb1, ρ, R.gw g1, fun d2 hd2 v2 Hb2 H2 g2 r2 => ?_, fun c hc Hb2 H2 g2 => h2 c (by simp [eBin, hd, hc, ER.bind]) Hb2 H2 (g1.trans g2), fun z => h3 (by simp [eBin, hd, z, ER.bind])⟩
  have e : eBin dDGet ma mb ρ = dDGet d d2 := by simp [eBin, hd, hd2, ER.bind]
  rw [e] at h1 h3
  cases d with
  | dict ds =>
    have hm : unm ds = true := by
      cases qm : unm ds with
      | true => rfl
      | false => exact absurd (by simp [dDGet, qm]) h3
    cases hk : keyOf d2 with
    | none => exact absurd (by simp only [dDGet, hm, if_true, hk]) h3
    | some k =>
      obtain ⟨p, kvs, rfl, hd, pk⟩ := Bo.dict g2.bh (Bo.ex g2.b g2.h r1) hm
      rcases pk_find (k := k) pk with ⟨z1, z2⟩ | ⟨v, d, z1, z2, z3⟩
      · exact absurd (by simp only [dDGet, hm, if_true, hk, z2]) h3
      · exact ⟨p, v, rfl, .inl ⟨kvs, k, hd, r2.key hk, z1.symm⟩, h1 d (by simp only [dDGet, hm, if_true, hk, z2]) v Hb2 H2 (g1.trans g2) z3⟩
  | _ => exact absurd rfl h3
/-- d.get(k) -/
def dGet1 : D → D → ER
  | .dict ds, k => if unm ds = true then (match keyOf k with
    | some k => .ok ((dFind ds k).getD .none)
    | none => .bad) else .bad
  | _, _ => .bad
theorem isD_of {H : Hp} {p : Addr} {kvs : List (Key × V)} (h : Rd H p (.dK kvs)) : IsD H p := .inl ⟨kvs, h⟩
def eGet1 (ma mb : EM) : EM := fun ρ => (ma ρ).bind fun x => match x with
  | .dict ds => if unm ds = true then (mb ρ).bind (dGet1 (.dict ds)) else .bad
  | _ => .bad
theorem de_dget1 (hu : X.A.units + 64 < cLine) (ha : DE X W .bor o ma) (hb : DE X W .bor e mb) (hm : M1 X o "get" apos e cpos := by exact ⟨rfl, rfl, rfl, rfl⟩) : DE X W .dat (.Call (.Attribute o "get" apos) [e] [] cpos) (eGet1 ma mb) :=
  PE.imp (pe_dget1 (by omega) ha hb hm) fun σ H Q ⟨Hf, Hb, ρ, R, h1, h2, h3⟩ => by
  refine ⟨Hf, Hb, ρ, R, fun d hd v Hb1 H1 g1 r1 => ?_, fun c hc Hb1 H1 g1 => h2 c (by simp [eGet1, hc, ER.bind]) Hb1 H1 g1, fun z => h3 (by simp [eGet1, z, ER.bind])⟩
  cases d with
  | dict ds =>
    have hm : unm ds = true := by
      cases qm : unm ds with
      | true => rfl
      | false => exact absurd (by simp [eGet1, hd, qm, ER.bind]) h3
    obtain ⟨p, kvs, rfl, hd1, pk⟩ := Bo.dict g1.bh r1 hm
    refine ⟨p, rfl, isD_of hd1, Hf, Hb1, ρ, R.gw g1, fun d2 hd2 v2 Hb2 H2 g2 r2 => ?_, fun c hc Hb2 H2 g2 => h2 c (by simp [eGet1, hd, hm, hc, ER.bind]) Hb2 H2 (g1.trans g2), fun z => h3 (by simp [eGet1, hd, hm, z, ER.bind])⟩
    have e : eGet1 ma mb ρ = dGet1 (.dict ds) d2 := by simp [eGet1, hd, hm, hd2, ER.bind]
    rw [e] at h1 h3
    cases hk : keyOf d2 with
    | none => exact absurd (by simp only [dGet1, hm, if_true, hk]) h3
    | some k =>
      have pk2 : PK X.K Hb2 kvs ds := Paired.imp (fun _ _ q => ⟨q.1, dr_ex g2.b q.2⟩) pk
      rcases pk_find (k := k) pk2 with ⟨z1, z2⟩ | ⟨v, d, z1, z2, z3⟩
      · exact ⟨none, .inl ⟨kvs, k, ex_rd g2.h hd1, r2.key hk, z1.symm⟩, h1 .none (by simp only [dGet1, hm, if_true, hk, z2]; rfl) .non Hb2 H2 (g1.trans g2) rs_non⟩
      · exact ⟨some v, .inl ⟨kvs, k, ex_rd g2.h hd1, r2.key hk, z1.symm⟩, h1 d (by simp only [dGet1, hm, if_true, hk, z2]; rfl) v Hb2 H2 (g1.trans g2) z3⟩
  | _ => exact absurd (by simp [eGet1, hd, ER.bind]) h3
/-- d.get(k, x) -/
def eGet2 (ma mb mc : EM) : EM := fun ρ => (ma ρ).bind fun x => match x with
  | .dict ds => if unm ds = true then ((mb ρ).bind fun k => (mc ρ).bind fun y => (match keyOf k with
    | some k => .ok ((dFind ds k).getD y)
    | none => .bad)) else .bad
  | _ => .bad
theorem de_dget2 (hu : X.A.units + 64 < cLine) (ha : DE X W .bor o ma) (hb : DE X W .bor e mb) (hc : DE X W .dat f mc) (hm : M2 X o "get" apos e f cpos := by exact ⟨rfl, rfl, rfl, rfl⟩) : DE X W .dat (.Call (.Attribute o "get" apos) [e, f] [] cpos) (eGet2 ma mb mc) :=
  PE.imp (pe_dget2 (by omega) ha hb hc hm) fun σ H Q ⟨Hf, Hb, ρ, R, h1, h2, h3⟩ => by
  refine ⟨Hf, Hb, ρ, R, fun d hd v Hb1 H1 g1 r1 => ?_, fun c hc Hb1 H1 g1 => h2 c (by simp [eGet2, hc, ER.bind]) Hb1 H1 g1, fun z => h3 (by simp [eGet2, z, ER.bind])⟩
  cases d with
  | dict ds =>
    have hm2 : unm ds = true := by
      cases qm : unm ds with
      | true => rfl
      | false => exact absurd (by simp [eGet2, hd, qm, ER.bind]) h3
    obtain ⟨p, kvs, rfl, hd1, pk⟩ := Bo.dict g1.bh r1 hm2
    refine ⟨p, rfl, isD_of hd1, Hf, Hb1, ρ, R.gw g1, fun d2 hd2 v2 Hb2 H2 g2 r2 => ?_, fun c hc Hb2 H2 g2 => h2 c (by simp [eGet2, hd, hm2, hc, ER.bind]) Hb2 H2 (g1.trans g2), fun z => h3 (by simp [eGet2, hd, hm2, z, ER.bind])⟩
    refine ⟨Hf, Hb2, ρ, R.gw (g1.trans g2), fun d3 hd3 v3 Hb3 H3 g3 r3 => ?_, fun c hc Hb3 H3 g3 => h2 c (by simp [eGet2, hd, hm2, hd2, hc, ER.bind]) Hb3 H3 ((g1.trans g2).trans g3), fun z => h3 (by simp [eGet2, hd, hm2, hd2, z, ER.bind])⟩
    cases hk : keyOf d2 with
    | none => exact absurd (by simp [eGet2, hd, hm2, hd2, hd3, hk, ER.bind]) h3
    | some k =>
      have gg := (g1.trans g2).trans g3
      have pk2 : PK X.K Hb3 kvs ds := Paired.imp (fun _ _ q => ⟨q.1, dr_ex (g2.trans g3).b q.2⟩) pk
      have k3 := (Bo.ex g3.b g3.h r2).key hk
      rcases pk_find (k := k) pk2 with ⟨z1, z2⟩ | ⟨v, d, z1, z2, z3⟩
      · exact ⟨none, .inl ⟨kvs, k, ex_rd (g2.trans g3).h hd1, k3, z1.symm⟩, h1 d3 (by simp [eGet2, hd, hm2, hd2, hd3, hk, z2, ER.bind]) v3 Hb3 H3 gg r3⟩
      · exact ⟨some v, .inl ⟨kvs, k, ex_rd (g2.trans g3).h hd1, k3, z1.symm⟩, h1 d (by simp [eGet2, hd, hm2, hd2, hd3, hk, z2, ER.bind]) v Hb3 H3 gg z3⟩
  | _ => exact absurd (by simp [eGet2, hd, ER.bind]) h3
/-! ### making and filling -/
theorem de_dnew : DE X W .new (.Dict [] [] pos) (eC (.dict [])) := PE.imp pe_dnewK fun σ H Q ⟨Hf, Hb, ρ, R, h1, h2, h3⟩ => fun p hp =>
  h1 (.dict []) rfl _ _ _ (Gw.new R.eb hp) ⟨p, rfl, hp, fresh_back R.eb hp, _, upd_same, .dK .nil⟩
/-- {k: v} -/
def eD1 (mk mv : EM) : EM := fun ρ => (mk ρ).bind fun k => (mv ρ).bind fun v => (match keyOf k with
  | some _ => .ok (.dict [(k, v)])
  | none => .bad)
theorem de_d1 {k v : Expr} {mk mv : EM} (hk : DE X W .bor k mk) (hv : DE X W .dat v mv) : DE X W .new (.Dict [some k] [v] pos) (eD1 mk mv) :=
  PE.imp (pe_disp (pps_cons hk hv pps_nil) rfl rfl (by simp) (by simp)) fun σ H Q ⟨Hf, Hb, ρ, R, h1, h2, h3⟩ => by
  intro p hp
  have g0 := Gw.new (o := .dK []) R.eb hp
  have hb0 : Hb p = none := fresh_back R.eb hp
  refine ⟨Hf, Hb, ρ, R.gw g0, fun d hd x Hb1 H1 g1 r1 => ?_, fun c hc Hb1 H1 g1 => h2 c (by simp [eD1, hc, ER.bind]) Hb1 H1 (g0.trans g1), fun z => h3 (by simp [eD1, z, ER.bind])⟩
  refine ⟨Hf, Hb1, ρ, R.gw (g0.trans g1), fun d2 hd2 y Hb2 H2 g2 r2 => ?_, fun c hc Hb2 H2 g2 => h2 c (by simp [eD1, hd, hc, ER.bind]) Hb2 H2 ((g0.trans g1).trans g2), fun z => h3 (by simp [eD1, hd, z, ER.bind])⟩
  cases hk : keyOf d with
  | none => exact absurd (by simp [eD1, hd, hd2, hk, ER.bind]) h3
  | some k =>
    have gg := (g0.trans g1).trans g2
    have hp2 : H2 p = some (.dK []) := (g1.trans g2).h _ _ upd_same
    have hb2 : Hb2 p = none := (g1.trans g2).nw p hb0 (by rw [upd_same]; exact True.intro)
    refine ⟨hp2, [(k, y)], by rw [List.map_cons, List.map_nil, r1.key hk], by simp, ?_⟩
    have kd : d = keyD k := by
      cases d with
      | int i => cases hk; rfl
      | str i => cases hk; rfl
      | _ => cases hk
    refine h1 (.dict [(d, d2)]) (by simp [eD1, hd, hd2, hk, ER.bind]) _ Hb2 _ ⟨fun a u q => by rw [upd_ne (ne_of_none q hp)]; exact gg.h a u q, gg.b, fun a u q => by rw [upd_ne (ne_of_none q hb2)]; exact gg.bh a u q, gg.nw⟩ ⟨p, rfl, hp, hb2, _, upd_same, .dK ?_⟩
    exact .cons ⟨kd, r2⟩ .nil
/-- x[k] = v, x one's own dict -/
def sPutD (i : Nat) (mk mv : EM) : SM := fun ρ => match mv ρ with
  | .ok d => (match ρ[i]? with
    | some (.own (.dict ds)) => if unm ds = true then (match mk ρ with
      | .ok k => (match keyOf k with
        | some k => if ds.length < sizeLine then .nx (ρ.set i (.own (.dict (dStore ds k d)))) else .bad
        | none => .bad)
      | .ex c => .ex c ρ
      | .bad => .bad) else .bad
    | _ => .bad)
  | .ex c => .ex c ρ
  | .bad => .bad
theorem ds_putD {rk : Kd} (i : Nat) {x : Str} {k v : Expr} {mk mv : EM} {p pos' : Pos} (hu : X.A.units + 64 < cLine) (hk : DE X W .bor k mk) (hv : DE X W .dat v mv) (hN : X.N[i]? = some x := by rfl) (hvis : Vis X.env.scope x := by first | exact Or.inl rfl | exact Or.inr (Or.inl rfl) | exact Or.inr (Or.inr rfl)) (hd : (x == ("__debug__" : Str)) = false := by decide)
    (hcd : (x == ("__classdict__" : Str)) = false := by decide) (hs : swapsWith v (some (.Subscript (.Name x p) k pos')) pos.line X.env = pure false := by rfl) : DS X W rk (.Assign [.Subscript (.Name x p) k pos'] v pos) (sPutD i mk mv) :=
  PS.imp (ps_dput (by omega) (pe_var hN hvis hd hcd) hk hv hs) fun E σ H ⟨Hf, Hb, ρ, R, h⟩ => by
  unfold sPutD at h
  refine ⟨Hf, Hb, ρ, R, fun d hd v Hb1 H1 g1 r1 => ?_, fun c hc Hb1 H1 g1 => ?_, fun z => ?_⟩
  · rw [hd] at h
    simp only at h
    split at h
    · rename_i ds q
      have hm : unm ds = true := by
        cases qm : unm ds with
        | true => rfl
        | false => simp [qm, SPost] at h
      simp only [hm, if_true] at h
      have R1 := R.gw g1
      obtain ⟨p, h1, ⟨o, ho, hc⟩, h3, h4⟩ := R1.own i _ q
      cases hc with
      | dT al => cases hm
      | dK al =>
        refine ⟨_, h1, Hf, Hb1, ρ, R1, fun d2 hd2 y Hb2 H2 g2 r2 => ?_, fun c hc Hb2 H2 g2 => ?_, fun z => ?_⟩
        · rw [hd2] at h
          simp only at h
          split at h
          · rename_i kk hkk
            split at h
            · rename_i hz
              have ho' := g2.h _ _ ho
              have R2 := R1.gw g2
              have hb2 : Hb2 p = none := g2.nw p h4 (by rw [ho]; exact True.intro)
              have al2 : PK X.K Hb2 _ ds := Paired.imp (fun _ _ q => ⟨q.1, dr_ex g2.b q.2⟩) al
              refine ⟨p, _, rfl, .inl ⟨_, kk, ho', r2.key hkk, by rw [pk_len al]; exact hz, rfl⟩, ?_⟩
              exact h σ Hb2 _ (R2.write q h1 (.dK (pk_put (dr_ex g2.b r1) al2))) (((g1.trans g2).bw R.ef).trans (Bw.upd g2.bh hb2))
            · exact h.elim
          · exact h.elim
        · rw [hc] at h
          exact h σ Hb2 H2 (R.gw (g1.trans g2)) ((g1.trans g2).bw R.ef)
        · rw [z] at h
          exact h.elim
    · exact h.elim
  · rw [hc] at h
    exact h σ Hb1 H1 (R.gw g1) (g1.bw R.ef)
  · rw [z] at h
    exact h.elim
end
end DL

set_option maxHeartbeats 2000000
/-! DLK: sorted(d.keys()), int keys, any number of them. -/
namespace DL
open PySem L2 Evl PyProof.Rows
def tSortK (td : TE) : TE := fun σ H Q => td σ H fun x H1 => ∃ (a : Addr) (kvs : List (Key × V)) (ks : List Int), x = .ref a ∧ Rd H1 a (.dK kvs) ∧ kvs.map (·.1) = ks.map Sum.inl ∧
  ∀ (ys : List Int) (p : Addr), ys.Perm ks → ys.Pairwise (· ≤ ·) → H1 p = none → Q (.ref p) (upd H1 p (.lst (ys.map V.int)))
theorem pe_sortKeys {X : Cx} {e : Expr} {td : TE} {p pos apos cpos : Pos} (hc : X.calm = true) (hg : Gl X "sorted") (hm : X.mg "sorted" = none) (he : PE X e td) (hbase : attributeBase e "keys" X.env (eval e X.env) = eval e X.env := by rfl)
    (hline : (apos.endLine == cpos.line) = true := by rfl) (na : starEach [.Call (.Attribute e "keys" apos) [] [] cpos] X.env = (false, eval (.Call (.Attribute e "keys" apos) [] [] cpos) X.env) :: starEach [] X.env := by rfl)
    (hpl : (backTo pos (starEach [] X.env)).any (·.1) = false := by rfl) :
    PE X (.Call (.Name "sorted" p) [.Call (.Attribute e "keys" apos) [] [] cpos] [] pos) (tSortK td) := by
  refine ⟨fun pins s σ H Q I h => ?_⟩
  refine Call_ (ld_blt I hg hm (show bootBuiltins "sorted" = some (.builtin "sorted") by decide +kernel) (PyProof.Rows.callWith_builtin1 (args_cons ?_ na) na hpl))
  refine wpAny_Call_method (T := "dict") (id := "dict.keys") hbase rfl hline F.plainAttrs_dict F.slot_dict_keys F.type_dict_keys (thn (he.run pins s σ H _ I h) fun u s1 ⟨x, H1, I1, rx, d, kvs, ks, ex, hd, hks, q⟩ => ?_)
  subst ex
  obtain rfl : u = Value.ref d := rx
  obtain ⟨z, lo, vs, rel, dd⟩ := dk_rd I1.hok hd
  refine ⟨dd.typeIs, dd.mapOf.noDict, ?_⟩
  show wpAny _ _ (callWith cpos (.builtin "dict.keys") [.ref d] [] []) _ X.xe s1
  refine method_meetsIn F.slot_dict_keys F.entry_dict_keys rfl (PySem.evalArgs_none ⟨rfl, dd.typeIs, F.args_dict_keys_1 _, _, PySem.W.kdl_meets_keys (mixKind X.prog X.w) d lo, ⟨vs, dd⟩, args_nil ?_⟩)
  have I2 : Inv X pins σ H1 { s1 with heap := s1.heap.push { cls := .type "dict_keys", data := .fields #[.ref d] } } := I1.kept (t' := s1.toks) fun b ob q => Heap.get?_push_of_some _ q
  have hv : PySem.W.KdlKeysView (s1.heap.push { cls := .type "dict_keys", data := .fields #[.ref d] }) s1.heap.objs.size d := ⟨_, Heap.get?_push_size _ rfl, rfl, rfl⟩
  obtain ⟨z2, lo2, vs2, rel2, dd2⟩ := dk_rd I2.hok hd
  obtain ⟨ep, hat⟩ := dd2.dictAt
  have hkeys : vs2.map (·.1) = ks.map Sum.inl := rel2.keys.symm.trans hks
  have hl : vs2.length = ks.length := by
    have e := congrArg List.length hkeys
    rw [List.length_map, List.length_map] at e
    exact e
  have hl2 : kvs.length = vs2.length := rel2.length
  have h16 : vs2.length ≤ sizeLine := by rw [← hl2]; exact z2
  refine Calls.call_function_entry PyProof.Rows.kind_sorted PyProof.Rows.plain_sorted PyProof.Rows.entry_sorted (PyProof.Rows.args_sorted1 _) ?_
  unfold Builtin.«sorted»
  refine wpAny_bind (m := checkCount "sorted" 1 1 _) (wpAny_pure ?_)
  refine wpAny_bind (PySem.W.kdu_collect (A := X.A.in1) (PySem.W.kdl_keys (knd := mixKind X.prog X.w) (kvs := vs2) (ep := ep) (r := s1.heap.objs.size) (d := d)) (I2.ok.hd hc) ⟨hv, hat⟩ h16 fun h' tk acc hk hacc => ?_)
  have hal : acc.toList.length = ks.length := by rw [Array.length_toList, hacc.1, hl]
  have hS : IntsAre acc.toList ks := ints_each hal fun j v e => by
    obtain ⟨k, x, e1, e2⟩ := hacc.2 j v (by rw [← Array.getElem?_toList]; exact e)
    have e3 : (vs2.map (·.1))[j]? = some k := by rw [List.getElem?_map, e1]; rfl
    rw [hkeys, List.getElem?_map] at e3
    cases e4 : ks[j]? with
    | none => rw [e4] at e3; cases e3
    | some y =>
      rw [e4] at e3
      have e5 : Sum.inl y = k := Option.some.inj e3
      subst e5
      rcases keyIs_shape (show keyIs (Sum.inl y) v = true from e2) with ⟨i, t, ek, ev⟩ | ⟨z, t, ek, ev⟩
      · cases ek
        exact ⟨y, t, rfl, ev⟩
      · cases ek
  have I3 : Inv X pins σ H1 { s1 with heap := h', toks := tk } := I2.kept (t' := tk) hk
  have hz : acc.toList.length ≤ sizeLine := by rw [hal, ← hl]; exact h16
  refine wpAny_bind (wpAny_newList ?_ hz)
  have hoL : (h'.push (seqObj "list" acc.toList.toArray 0)).get? h'.objs.size = some (seqObj "list" acc.toList.toArray 0) := Heap.get?_push_size _ rfl
  show wpAny _ _ _ _ _ { s1 with heap := h'.push (seqObj "list" acc.toList.toArray 0), toks := tk }
  refine wpAny_bind (wpAny_holding (wpAny_call_entry PyProof.Rows.slot_list_sort ⟨_, hoL, rfl⟩ PyProof.Rows.entry_list_sort
    (SrtO.list_sort_ord (s := { s1 with heap := h'.push (seqObj "list" acc.toList.toArray 0), toks := tk }) SrtO.swo_int hoL hz (fun h2 => SrtO.ints_sortable hS h2) fun out h1 h2 => ⟨_, rfl, ?_⟩) (PyProof.Rows.args_list_sort _)))
  obtain ⟨k1, k2, k3⟩ := SrtO.ints_out hS h1 h2
  obtain ⟨e', he'⟩ := PyProof.Rows.sortedHeap_at (vs := acc.toList) (out := out.toArray) hoL
  have hlen : ((out.map SrtO.iv).map V.int).length ≤ sizeLine := by
    rw [List.length_map, k2.length_eq, ← hal]
    exact hz
  refine wpAny_pure ⟨_, rfl, .ref h'.objs.size, upd H1 h'.objs.size (.lst ((out.map SrtO.iv).map V.int)), I3.laid (t' := tk) (fun b u e => ?_) (Nat.le_refl _)
    (show ObjOk X.prog X.w _ _ _ (.lst ((out.map SrtO.iv).map V.int)) from ⟨hlen, out, e', vals_of_ints k1, he'⟩), rfl, q _ _ k2 k3 (I3.hok.fresh (Nat.le_refl _))⟩
  have hb : b < h'.objs.size := Heap.lt_size e
  rw [PyProof.Rows.sortedHeap_old (Nat.ne_of_lt hb) (by rw [size_push']; exact Nat.lt_succ_of_lt hb)]
  exact Heap.get?_push_of_some _ e
/-! ### as data -/
theorem perm_sorted_eq : ∀ {l m : List Int}, l.Perm m → l.Pairwise (· ≤ ·) → m.Pairwise (· ≤ ·) → l = m
  | [], m, h, _, _ => (List.Perm.nil_eq h)
  | a :: l, [], h, _, _ => by have := h.length_eq; simp at this
  | a :: l, b :: m, h, h1, h2 => by
    obtain ⟨p1, q1⟩ := List.pairwise_cons.mp h1
    obtain ⟨p2, q2⟩ := List.pairwise_cons.mp h2
    have ab : a = b := by
      have ha : a ∈ b :: m := h.mem_iff.mp List.mem_cons_self
      have hb : b ∈ a :: l := h.mem_iff.mpr List.mem_cons_self
      have x1 : b ≤ a := by
        rcases List.mem_cons.mp ha with e | e
        · omega
        · exact p2 a e
      have x2 : a ≤ b := by
        rcases List.mem_cons.mp hb with e | e
        · omega
        · exact p1 b e
      omega
    subst ab
    rw [perm_sorted_eq (List.Perm.cons_inv h) q1 q2]
def srt (ks : List Int) : List Int := ks.mergeSort (fun a b => decide (a ≤ b))
theorem srt_perm (ks : List Int) : (srt ks).Perm ks := List.mergeSort_perm ks _
theorem srt_sorted (ks : List Int) : (srt ks).Pairwise (· ≤ ·) := by
  have h := List.pairwise_mergeSort (le := fun (a b : Int) => decide (a ≤ b)) (fun a b c h1 h2 => by simp at *; omega) (fun a b => by simp; omega) ks
  exact h.imp fun h => by simpa using h
theorem srt_eq {ys ks : List Int} (h : ys.Perm ks) (hs : ys.Pairwise (· ≤ ·)) : ys = srt ks := perm_sorted_eq (h.trans (srt_perm ks).symm) hs (srt_sorted ks)
def intKeys : List (D × D) → Option (List Int)
  | [] => some []
  | (.int i, _) :: r => (intKeys r).map (i :: ·)
  | _ :: _ => none
def dSortK : D → ER
  | .dict ds => (match intKeys ds with
    | some ks => .ok (.list ((srt ks).map PyData.int))
    | none => .bad)
  | _ => .bad
theorem pk_keys {K : PySem.W.Frag} {Hb : Hp} : ∀ {kvs : List (Key × V)} {ds : List (D × D)} {ks : List Int}, PK K Hb kvs ds → intKeys ds = some ks → kvs.map (·.1) = ks.map Sum.inl
  | _, _, _, .nil, h => by
    cases h
    rfl
  | _, _, _, .cons (a := p) (b := q) (l₂ := ds) h r, hk => by
    obtain ⟨qk, qv⟩ := q
    obtain ⟨pk, pv⟩ := p
    cases qk with
    | int i =>
      simp only [intKeys, Option.map_eq_some_iff] at hk
      obtain ⟨ks, hk1, rfl⟩ := hk
      have e : pk = .inl i := by
        have := h.1
        cases pk with
        | inl j =>
          have e2 : PyData.int i = PyData.int j := this
          cases e2
          rfl
        | inr x =>
          have e2 : PyData.int i = PyData.str x := this
          cases e2
      rw [List.map_cons, List.map_cons, pk_keys r hk1, e]
    | _ => cases hk
theorem drAll_intsV {K : PySem.W.Frag} {H : Hp} : ∀ ns : List Int, DrAll K H (ns.map V.int) (ns.map PyData.int)
  | [] => .nil
  | n :: r => .cons (.int n) (drAll_intsV r)
section
variable {X : Cx} {W : WQ} {e : Expr} {m : EM} {p pos apos cpos : Pos}
theorem de_sortK (hm : X.mg "sorted" = none) (h : DE X W .bor e m) (hc : X.calm = true := by rfl) (hg : Gl X "sorted" := by rfl) (hbase : attributeBase e "keys" X.env (eval e X.env) = eval e X.env := by rfl)
    (hline : (apos.endLine == cpos.line) = true := by rfl) (na : starEach [.Call (.Attribute e "keys" apos) [] [] cpos] X.env = (false, eval (.Call (.Attribute e "keys" apos) [] [] cpos) X.env) :: starEach [] X.env := by rfl)
    (hpl : (backTo pos (starEach [] X.env)).any (·.1) = false := by rfl) : DE X W .new (.Call (.Name "sorted" p) [.Call (.Attribute e "keys" apos) [] [] cpos] [] pos) (eUn dSortK m) :=
  PE.imp (pe_sortKeys hc hg hm h hbase hline na hpl) fun σ H Q ⟨Hf, Hb, ρ, R, h1, h2, h3⟩ => by
    refine ⟨Hf, Hb, ρ, R, fun d hd v Hb1 H1 g1 r1 => ?_, fun c hc Hb1 H1 g1 => h2 c (by simp [eUn, hc, ER.bind]) Hb1 H1 g1, fun z => h3 (by simp [eUn, z, ER.bind])⟩
    cases d with
    | dict ds =>
      cases hk : intKeys ds with
      | none => exact absurd (by simp [eUn, hd, ER.bind, dSortK, hk]) h3
      | some ks =>
        have hm : unm ds = true := by
          cases ds with
          | nil => rfl
          | cons q ds =>
            obtain ⟨k, v⟩ := q
            cases k <;> first | rfl | simp [intKeys] at hk
        obtain ⟨a, kvs, rfl, hd1, pk⟩ := Bo.dict g1.bh r1 hm
        refine ⟨a, kvs, ks, rfl, hd1, pk_keys pk hk, fun ys q py sy hq => ?_⟩
        have z := Gw.lstN (K := X.K) (xs := (srt ks).map V.int) g1.bh hq (drAll_intsV (srt ks))
        rw [srt_eq py sy]
        exact h1 (.list ((srt ks).map PyData.int)) (by simp [eUn, hd, ER.bind, dSortK, hk]) _ _ _ (g1.trans z.1) (z.2.back g1.h)
    | _ => exact absurd (by simp [eUn, hd, ER.bind, dSortK]) h3
end
end DL

set_option maxHeartbeats 2000000
/-! DLL: a comprehension over the keys of a dict of one's own (which it does not read otherwise). -/
namespace DL
open PySem L2 Evl
def eLcK (i : Nat) (g : GM) (mt me : EM) (vs : List Nat) : EM := fun ρ => match ρ[i]? with
  | some (.own (.dict ds)) => if unm ds = true then lcD g mt me (ds.map (·.1)) [] (wipeD (ρ.set i .un) vs) else .bad
  | _ => .bad
/-- a slot is forgotten -/
theorem RelE.drop {K : PySem.W.Frag} {pn : Pn} {Hf Hb H : Hp} {σ : L2.St} {ρ : Env} (R : RelE K pn Hf Hb H σ ρ) (i : Nat) : RelE K pn Hf Hb H σ (ρ.set i .un) := by
  have key : ∀ (m : Nat) t, (ρ.set i .un)[m]? = some t → t = .un ∨ ρ[m]? = some t := fun m t qq => by
    rcases getset_dat qq with ⟨_, z⟩ | ⟨_, z⟩
    · exact .inl z
    · exact .inr z
  refine ⟨R.ef, R.eb, by simp [R.len], fun j e q => ?_, fun j e q => ?_, fun j e q => ?_, fun j k e f q ne q2 => ?_, R.pin⟩
  · rcases key j _ q with z | z
    · cases z
    · exact R.dat j e z
  · rcases key j _ q with z | z
    · cases z
    · obtain ⟨v, h1, h2⟩ := R.bor j e z
      refine ⟨v, h1, ?_⟩
      rcases h2 with h2 | ⟨p, e1, e2, e3⟩
      · exact .inl h2
      · refine .inr ⟨p, e1, e2, fun k f hk => ?_⟩
        rcases key k _ hk with z | z
        · cases z
        · exact e3 k f z
  · rcases key j _ q with z | z
    · cases z
    · exact R.own j e z
  · rcases key j _ q with z | z
    · cases z
    · rcases key k _ q2 with z2 | z2
      · cases z2
      · exact R.sep j k e f z ne z2
/-- the object of slot i is put otherwise, the slot forgotten -/
theorem RelE.lock {K : PySem.W.Frag} {pn : Pn} {Hf Hb H : Hp} {σ : L2.St} {ρ : Env} {i : Nat} {d : D} {p : Addr} {o : HO} (R : RelE K pn Hf Hb H σ ρ) (hi : ρ[i]? = some (.own d)) (hv : σ[i]? = some (some (.ref p))) : RelE K pn Hf Hb (upd H p o) σ (ρ.set i .un) := by
  obtain ⟨q, h1, h2, h3, h4⟩ := R.own i d hi
  rw [hv] at h1
  cases h1
  have ne : ∀ a o, Hf a = some o → a ≠ p := fun a o e => ne_of_none e h3
  have nb : ∀ a o, Hb a = some o → a ≠ p := fun a o e => ne_of_none e h4
  have key : ∀ (m : Nat) t, (ρ.set i .un)[m]? = some t → t = .un ∨ (m ≠ i ∧ ρ[m]? = some t) := fun m t qq => by
    rcases getset_dat qq with ⟨_, z⟩ | ⟨y, z⟩
    · exact .inl z
    · exact .inr ⟨y, z⟩
  refine ⟨fun a o e => by rw [upd_ne (ne a o e)]; exact R.ef a o e, fun a o e => by rw [upd_ne (nb a o e)]; exact R.eb a o e, by simp [R.len], fun j e q => ?_, fun j e q => ?_, fun j e q => ?_, fun j k e f q nn q2 => ?_, R.pin⟩
  · rcases key j _ q with z | ⟨_, z⟩
    · cases z
    · exact R.dat j e z
  · rcases key j _ q with z | ⟨y, z⟩
    · cases z
    · obtain ⟨v, v1, v2⟩ := R.bor j e z
      refine ⟨v, v1, ?_⟩
      rcases v2 with v2 | ⟨a, a1, ⟨o, a2, a3⟩, a4⟩
      · exact .inl v2
      · have nap : a ≠ p := fun z2 => by
          subst z2
          exact a4 i d hi hv
        refine .inr ⟨a, a1, ⟨o, by rw [upd_ne nap]; exact a2, a3⟩, fun k f hk => ?_⟩
        rcases key k _ hk with z3 | ⟨_, z3⟩
        · cases z3
        · exact a4 k f z3
  · rcases key j _ q with z | ⟨y, z⟩
    · cases z
    · obtain ⟨a, a1, ⟨o, a2, a3⟩, a4, a5⟩ := R.own j e z
      refine ⟨a, a1, ⟨o, ?_, a3⟩, a4, a5⟩
      rw [upd_ne ?_]
      · exact a2
      · intro z2
        subst z2
        exact R.sep j i e d z y hi (by rw [a1, hv])
  · rcases key j _ q with z | ⟨_, z⟩
    · cases z
    · rcases key k _ q2 with z2 | ⟨_, z2⟩
      · cases z2
      · exact R.sep j k e f z nn z2
theorem dr_key {K : PySem.W.Frag} {H : Hp} (k : Key) : Dr K H (kV k) (keyD k) := by
  cases k with
  | inl i => exact .int i
  | inr x => exact .str x
theorem ylK {K : PySem.W.Frag} {Hb0 Hb H : Hp} {p : Addr} {o : Obj} {kvs : List (Key × V)} {ds : List (D × D)} (pk : PK K Hb0 kvs ds) (hp : H p = some (.frz o (.dK kvs))) : YlH K Hb H (Itk p o kvs) (ds.map (·.1)) := by
  have hl := pk_len pk
  have hk : ∀ (i : Nat) (q : Key × V), kvs[i]? = some q → (ds.map (·.1))[i]? = some (keyD q.1) := by
    clear hl hp
    induction pk with
    | nil => intro i q h; cases h
    | cons h r ih =>
      intro i q hq
      cases i with
      | zero =>
        cases hq
        simp [h.1]
      | succ i =>
        have := ih i q (by simpa using hq)
        simpa using this
  refine ⟨fun i H2 e hi => ?_, fun H2 e => ?_, fun i H2 x H' Hb1 e1 e2 e3 hi y => ?_⟩
  · rw [List.length_map] at hi
    exact ⟨e _ _ hp, by omega⟩
  · rw [List.length_map]
    exact ⟨e _ _ hp, by omega⟩
  · obtain ⟨rfl, k, v, hq, rfl⟩ := y
    exact ⟨Hb1, keyD k, Gw.refl e2, hk i _ hq, dr_key k⟩
section
variable {X : Cx} {W : WQ} {elt tg : Expr} {ifs : List Expr} {scope : Scope} {own : List (Str × Nat)} {pos : Pos} {T : TG} {g : GM} {mt me : EM} {x : Str} {p : Pos}
theorem eof_lcK {K : PySem.W.Frag} {vs : List Nat} {i : Nat} {σ : L2.St} {H : Hp} {Q : VK} (hw : W.pin = none) (hG : GOk K T g vs) (h : eOf K W .new (eLcK i g mt me vs) σ H Q) : tLockE (tLc (iKeys (tVar i)) T (tOf K W0 mt) (eOf K W0 .dat me) vs) σ H Q := by
  obtain ⟨Hf, Hb, ρ, R, h1, h2, h3⟩ := h
  cases e : ρ[i]? with
  | none => exact absurd (by simp [eLcK, e]) h3
  | some s =>
    cases s with
    | own d =>
      cases d with
      | dict ds =>
        have hm : unm ds = true := by
          cases qm : unm ds with
          | true => rfl
          | false => exact absurd (by simp [eLcK, e, qm]) h3
        have em : eLcK i g mt me vs ρ = lcD g mt me (ds.map (·.1)) [] (wipeD (ρ.set i .un) vs) := by simp [eLcK, e, hm]
        rw [em] at h1 h3
        obtain ⟨a, a1, ⟨o, a2, a3⟩, a4, a5⟩ := R.own i _ e
        cases a3 with
        | dT al => cases hm
        | @dK kvs _ pk =>
          refine ⟨a, .dK kvs, a2, True.intro, fun od => ?_⟩
          have R1 : RelE K W.pin Hf Hb (upd H a (.frz od (.dK kvs))) σ (ρ.set i .un) := R.lock e a1
          have ll := eof_lc (mi := fun _ => AR.ok (ds.map Prod.fst)) (g := g) (mt := mt) (me := me) (T := T) (W := W) (K := K) (vs := vs) (σ := σ) (H := upd H a (.frz od (.dK kvs))) (Q := fun v H' => H' a = some (.frz od (.dK kvs)) ∧ Q v (upd H' a (.dK kvs))) hw hG
            ⟨Hf, Hb, ρ.set i .un, R1, fun d hd v Hb' H' gg r => ?_, fun c hc => ?_, fun z => h3 z⟩
          · obtain ⟨Hf', Hb', ρ', R', k1, _, _⟩ := ll
            exact ⟨_, a1, a, od, rfl, .inl ⟨kvs, upd_same, k1 _ rfl _ Hb' _ (Gw.refl R'.eb) (ylK pk upd_same)⟩⟩
          · have ha' : H' a = some (.frz od (.dK kvs)) := gg.h _ _ upd_same
            have hba : Hb' a = none := gg.nw a a5 (by rw [upd_same]; exact True.intro)
            refine ⟨ha', ?_⟩
            obtain ⟨q, rfl, q1, q2, ⟨o, q3, q4⟩⟩ := r
            have qa : q ≠ a := fun z => by
              subst z
              rw [upd_same] at q1
              cases q1
            rw [upd_ne qa] at q1
            refine h1 d hd (.ref q) Hb' _ ⟨fun b u eb => ?_, gg.b, fun b u eb => ?_, fun b z1 z2 => ?_⟩ ⟨q, rfl, q1, q2, o, by rw [upd_ne qa]; exact q3, q4⟩
            · by_cases hb : b = a
              · subst hb
                rw [a2] at eb
                cases eb
                rw [upd_same]
              · rw [upd_ne hb]
                exact gg.h b u (by rw [upd_ne hb]; exact eb)
            · rw [upd_ne (ne_of_none eb hba)]
              exact gg.bh b u eb
            · by_cases hb : b = a
              · subst hb
                exact hba
              · exact gg.nw b z1 (by rw [upd_ne hb]; exact z2)
          · exact absurd hc (by
              rcases lcD_list g mt me (ds.map (·.1)) [] (wipeD (ρ.set i .un) vs) with z | ⟨es, z⟩
              · simp [eLc, z]
              · simp [eLc, z])
      | _ => exact absurd (by simp [eLcK, e]) h3
    | _ => exact absurd (by simp [eLcK, e]) h3
theorem de_lcK (i : Nat) (hN : X.N.Nodup) (ok : BlkOk X.N X.env.scope scope own) (hG : GOk X.K T g (own.map (·.2)))
    (hg : ∀ (s : Shared) (H : Hp) (C : Addr) (cl : List (Str × Addr)) (fp : List Addr), PG (X.blk s H scope (compEnvC scope cl C X.env) fp) tg T)
    (ht : ∀ (s : Shared) (H : Hp) (C : Addr) (cl : List (Str × Addr)) (fp : List Addr), DTs (X.blk s H scope (compEnvC scope cl C X.env) fp) W0 ifs mt)
    (he : ∀ (s : Shared) (H : Hp) (C : Addr) (cl : List (Str × Addr)) (fp : List Addr), DE (X.blk s H scope (compEnvC scope cl C X.env) fp) W0 .dat elt me) (hi : X.N[i]? = some x := by rfl) (hv : Vis X.env.scope x := by first | exact Or.inl rfl | exact Or.inr (Or.inl rfl) | exact Or.inr (Or.inr rfl))
    (hd : (x == ("__debug__" : Str)) = false := by decide) (hcd : (x == ("__classdict__" : Str)) = false := by decide) (hc : X.calm = true := by rfl) (hs : ∀ y, foldedSetIterable (.Name x p) X.env y = pure y := by intro _; rfl) (hw : W.pin = none := by rfl) :
    DE X W .new (.ListComp elt [⟨tg, .Name x p, ifs, 0⟩] scope pos) (eLcK i g mt me (own.map (·.2))) := PE.imp (pe_lock (pe_lc (tt := tOf X.K W0 mt) (te := eOf X.K W0 .dat me) hc hN (pi_keys (pe_var hi hv hd hcd)) ok hg ht he hs)) fun _ _ _ => eof_lcK hw hG
end
end DL

/-! DL9: the head's facts by places, defs by name, a law's end. -/
namespace DL
open PySem L2 Evl

/-- what the head tells: the facts fa, the defs fn -/
structure Zed (fa : List He.Fa) (fn : List He.DefD) (K : PySem.W.Frag) (mg : Str → Option Value) : Prop where
  says : He.SaysD fa fn K
  at_ : ∃ h : Heap, K.In h ∧ h.Ns mainGlobals mg
section
variable {fa : List He.Fa} {fn : List He.DefD} {K : PySem.W.Frag} {mg : Str → Option Value}
theorem Zed.free (Z : Zed fa fn K mg) (i : Nat) {x : Str} (h : fa[i]? = some (.free x) := by rfl) : mg x = none := by
  obtain ⟨hp, X, G⟩ := Z.at_
  exact He.free_ok X G (Z.says.fact i h)
theorem Zed.glo (Z : Zed fa fn K mg) (i : Nat) {x : Str} (h : fa[i]? = some (.glo x) := by rfl) : mg x = some (.ref (He.ga K x)) := by
  obtain ⟨hp, X, G⟩ := Z.at_
  exact He.glo_ok X G (Z.says.fact i h)
theorem Zed.int (Z : Zed fa fn K mg) (i : Nat) {x : Str} {n : Int} (h : fa[i]? = some (.int x n) := by rfl) : ∃ t, mg x = some (.int n t) := by
  obtain ⟨hp, X, G⟩ := Z.at_
  exact He.int_ok X G (Z.says.fact i h)
theorem Zed.str (Z : Zed fa fn K mg) (i : Nat) {x z : Str} (h : fa[i]? = some (.str x z) := by rfl) : ∃ t, mg x = some (.str z t) := by
  obtain ⟨hp, X, G⟩ := Z.at_
  exact He.str_ok X G (Z.says.fact i h)
theorem Zed.exc (Z : Zed fa fn K mg) (i : Nat) {x : Str} (h : fa[i]? = some (.exc x) := by rfl) : PySem.W.excIn K (He.ga K x) He.veBase "ValueError.__new__" = true ∧ PySem.W.keepIn K (.ref (He.ga K x)) = true ∧ PySem.W.subIn K (.ref (He.ga K x)) (.type "BaseException") = some true ∧
    PySem.W.typeIn K (.ref (He.ga K x)) = some (.type "type") := He.exc_ok (Z.says.fact i h)
theorem Zed.exm (Z : Zed fa fn K mg) (i : Nat) {x y : Str} {b : Bool} (h : fa[i]? = some (.exm x y b) := by rfl) : PySem.W.exmOne K (.ref (He.ga K x)) (.ref (He.ga K y)) = some b := He.exm_ok (Z.says.fact i h)
end
/-- the module's name x is a def that keeps sp -/
structure Has (P : Program) (w : World) (K : PySem.W.Frag) (mg : Str → Option Value) (base : Heap) (x : Str) (k : Nat) (ps : List Str) (sp : Sp) : Prop where
  ex : ∃ fd, FnOk P w K mg base (L2.CX P w) k (He.ga K x) fd ps sp ∧ Binds K fd ps [] ∧ ∃ oc od osl, K.lookup (He.ga K x) = some ⟨oc, od, .func fd, osl⟩
  kp : PySem.W.keepIn K (.ref (He.ga K x)) = true
  gl : mg x = some (.ref (He.ga K x))
section
variable {X : Cx} {W : WQ} {rk : Kd} {ks : List Kd} {x : Str} {p pos : Pos} {e : Expr} {es : List Expr} {ms : List EM} {g : List D → ER} {k j : Nat} {ps : List Str}
theorem de_fn (h : Has X.prog X.w X.K X.mg X.base x k ps (SpM X.K ks rk g)) (hr : Room j X.A) (tk : Takes X W.w) (ha : DA X W ks (e :: es) ms) (hj : k ≤ j := by decide) (hg : Gl X x := by rfl) (hdb : (x == ("__debug__" : Str)) = false := by decide)
    (he : starEach (e :: es) X.env = (false, eval e X.env) :: starEach es X.env := by rfl) (hpl : (backTo pos (starEach es X.env)).any (·.1) = false := by rfl) : DE X W rk (.Call (.Name x p) (e :: es) [] pos) (eCall g ms) := by
  obtain ⟨fd, F, B, _⟩ := h.ex
  exact de_call F (hr.mono hj) h.gl h.kp B tk ha hg hdb he hpl
end
section
variable {P : Program} {w : World} {K : PySem.W.Frag} {mg : Str → Option Value} {base : Heap} {fa : List He.Fa} {fn : List He.DefD}
theorem has_of {x : Str} {d : He.DefD} (Z : Zed fa fn K mg) (i j : Nat) {N ps : List Str} {k n : Nat} {ks : List Kd} {rk : Kd} {m : SM} (hd : fn[i]? = some d) (hx : d.at_ = (x, none)) (hdf : d.dfl = []) (hkw : d.kwd = []) (hg : fa[j]? = some (.glo x)) (S : FnScope N ps d.scope) (hps : ps.length = ks.length) (hn : N.length = ks.length + n) (hrk : rk = .dat ∨ ∀ ρ ρ', m ρ ≠ .nx ρ')
    (hb : ∀ (kV doc pm : Value) (an : Option Addr) (cdv ct : Value) (us : List Value), us.length = ps.length → bindArgs (PySem.W.fnOf d.name d.qual d.params d.body d.scope .none kV doc pm an cdv ct) ⟨us, []⟩ = pure (ps.zip us))
    (hbody : ∀ (f : Addr) (cdv : Value) (A : Around) (outer : List PySem.Env) (s : Shared) (H : Hp) (E : XK), Room k (cxOf (L2.CX P w) P w K mg base N d.qual d.scope f cdv A outer s H E).A → Takes (cxOf (L2.CX P w) P w K mg base N d.qual d.scope f cdv A outer s H E) (fun cls d _ H => E cls d H) →
      PassesOwn (model (cxOf (L2.CX P w) P w K mg base N d.qual d.scope f cdv A outer s H E).prog (cxOf (L2.CX P w) P w K mg base N d.qual d.scope f cdv A outer s H E).w) (cxOf (L2.CX P w) P w K mg base N d.qual d.scope f cdv A outer s H E).A (cxOf (L2.CX P w) P w K mg base N d.qual d.scope f cdv A outer s H E).env (cxOf (L2.CX P w) P w K mg base N d.qual d.scope f cdv A outer s H E).xe →
      DSs (cxOf (L2.CX P w) P w K mg base N d.qual d.scope f cdv A outer s H E) ⟨fun cls d _ H => E cls d H, none⟩ rk d.body m) :
    Has P w K mg base x (k + 1) ps (SpM K ks rk (runM ks n m)) := by
  obtain ⟨fd, F⟩ := Z.says.def_ i hd
  have ea : He.fAd K d.at_ = He.ga K x := by rw [hx]; rfl
  rw [ea] at F
  have kp := F.kp
  have e1 : d.dvs K = [] := by
    unfold He.DefD.dvs
    rw [hdf]
    rfl
  rw [e1] at F
  refine ⟨⟨fd, fn_ok F S hps hn hrk (fun cdv A outer s H E hr => hbody _ cdv A outer s H E hr (takes_of rfl rfl rfl rfl) PassesOwn.leaving), F.bindsN hb, ?_⟩, kp, Z.glo j hg⟩
  obtain ⟨oc, od, _, _, _, _, _, _, _, osl, _, l, _⟩ := F.ex
  exact ⟨oc, od, osl, l⟩
/-- the law's def by its place -/
theorem law_of {x : Str} {d : He.DefD} (Z : Zed fa fn K mg) (i : Nat) {p : Str} {k : Nat} {sp : Sp} (hd : fn[i]? = some d) (hx : d.at_ = (x, none)) (hdf : d.dfl = []) (hh : ∀ base : Heap, Has P w K mg base x k [p] sp)
    (hb : ∀ (kV doc pm : Value) (an : Option Addr) (cdv ct : Value) (us : List Value), us.length = [p].length → bindArgs (PySem.W.fnOf d.name d.qual d.params d.body d.scope .none kV doc pm an cdv ct) ⟨us, []⟩ = pure ([p].zip us)) :
    ∃ fd : FuncData, (∀ (s : Shared) (v : Value), BindsTo s fd ⟨[v], []⟩ [(p, v)]) ∧ ∀ base : Heap, FnOk P w K mg base (L2.CX P w) k (He.ga K x) fd [p] sp := by
  obtain ⟨fd, F⟩ := Z.says.def_ i hd
  have ea : He.fAd K d.at_ = He.ga K x := by rw [hx]; rfl
  rw [ea] at F
  have e1 : d.dvs K = [] := by
    unfold He.DefD.dvs
    rw [hdf]
    rfl
  rw [e1] at F
  refine ⟨fd, fun s v => F.bindsA (ps := [p]) hb s [v] rfl, fun base => ?_⟩
  obtain ⟨fd2, F2, _, oc, od, osl, l2⟩ := (hh base).ex
  obtain ⟨oc1, od1, _, _, _, _, _, _, _, osl1, _, l1, _⟩ := F.ex
  rw [l1] at l2
  cases l2
  exact F2
end
theorem nonx_seq {a b : SM} (h : ∀ ρ ρ', b ρ ≠ .nx ρ') : ∀ ρ ρ', sSeq a b ρ ≠ .nx ρ' := fun ρ ρ' z => by
  unfold sSeq at z
  split at z
  · exact h _ _ z
  · rename_i hz
    exact hz _ z
theorem nonx_if {c : EM} {a b : SM} (h1 : ∀ ρ ρ', a ρ ≠ .nx ρ') (h2 : ∀ ρ ρ', b ρ ≠ .nx ρ') : ∀ ρ ρ', sIf c a b ρ ≠ .nx ρ' := fun ρ ρ' z => by
  unfold sIf at z
  split at z <;> first | exact h1 _ _ z | exact h2 _ _ z | cases z
theorem nonx_ret {m : EM} : ∀ ρ ρ', sRet m ρ ≠ .nx ρ' := fun ρ ρ' z => by
  unfold sRet at z
  split at z <;> cases z
theorem nonx_retO {i : Nat} : ∀ ρ ρ', sRetO i ρ ≠ .nx ρ' := fun ρ ρ' z => by
  unfold sRetO at z
  split at z <;> cases z
theorem nonx_raise {c : Str} : ∀ ρ ρ', sRaise c ρ ≠ .nx ρ' := fun ρ ρ' z => nomatch z
theorem drAll_ints {K : PySem.W.Frag} {H : Hp} : ∀ ns : List Int, DrAll K H (ns.map V.int) (ns.map PyData.int)
  | [] => .nil
  | n :: r => .cons (.int n) (drAll_ints r)
theorem law_sp {K : PySem.W.Frag} {H : Hp} {a : Addr} {ns : List Int} {m : List D → ER} (hS : SqL K H a (ns.map V.int)) (hm : m [.list (ns.map PyData.int)] = .ok (.bool true)) : SpM K [.dat] .dat m [.ref a] H (fun v _ => v = .bl true) fun _ _ _ => False := by
  refine ⟨H, _, Ex.refl _, .cons (Dr.lst hS (drAll_ints ns)) .nil, fun d hd v Hb' H' g r => ?_, fun c hc => ?_, fun z => ?_⟩
  · rw [hm] at hd
    cases hd
    exact Bo.bl (K := K) (Hb := Hb') (H := H') (.inl r)
  · rw [hm] at hc
    cases hc
  · rw [hm] at z
    cases z
/-- a law's end: the head by facts, the script's bits told -/
theorem walk_EB {l : PySem.W.OpenLaw} {n k : Nat} {q : Program} {loose : List Str} {XP : (Str → Option Value) → Heap → Prop} {YP : World → Heap → Prop} {d : DefRec} {x : Str}
    (hm : l.most = some n) (hz : n ≤ sizeLine) (hdf : d.params.defaults = []) (room : Room k callerA)
    (F : ∀ (w : World) (mg : Str → Option Value) (f : Addr) (h : Heap), YP w h → h.Ns mainGlobals mg → mg d.name = some (.ref f) →
      ∃ (K : PySem.W.Frag) (fd : FuncData) (sp : Sp), K.In h ∧ (∀ (s : Shared) (u : Value), BindsTo s fd ⟨[u], []⟩ [(x, u)]) ∧
        (∀ (H : Hp) (a : Addr) (ns : List Int), ns.length ≤ n → (∀ z ∈ ns, Builtin.Int.intBits z ≤ 1048576) → Only H → SqL K H a (ns.map V.int) → sp [.ref a] H (fun v _ => v = .bl true) fun _ _ _ => False) ∧
        ∀ base : Heap, K.In base → base.Ns mainGlobals mg → FnOk l.prog w K mg base (L2.CX l.prog w) k f fd [x] sp) :
    PySem.W.WalkO q loose XP YP l.row.toRowW d [] (fun f vs => PySem.call f vs) := by
  refine Att.attach_callB hm hdf fun w sA sB mg mb f o pm cd doc a vs ns G Y ho hd hcd hmg hobj hints hlen hbits hg => ?_
  obtain ⟨K, fd, sp, inK, binds, start, keeps⟩ := F w mg f _ Y G.T.g hmg
  exact law_call inK G.T.g G.T.b G.T.builtins G.T.nolimit hg hobj hints (Nat.le_trans hlen hz) room keeps binds (fun H only sq => start H a ns hlen hbits only sq)
    fun H e s' cx => by
      obtain ⟨_, _, _, _, _, _, _, _, _, _, _, _, no⟩ := cx
      exact no
end DL

/-! DL10: how meanings are reckoned. -/
namespace DL
open PySem L2 Evl
section
variable {ρ : Env} {d x y z : D} {f : D → ER} {c : Str} {g g' : D → D → ER} {m ma mb mc : EM} {s a b : SM} {i j : Nat} {ms : List EM} {G : List D → ER}
@[simp] theorem bind_ok : (ER.ok d).bind f = f d := Eq.trans rfl rfl
@[simp] theorem bind_ex : (ER.ex c).bind f = .ex c := rfl
@[simp] theorem bind_bad : ER.bad.bind f = .bad := rfl
@[simp] theorem eC_ap : eC d ρ = .ok d := rfl
@[simp] theorem eBin_ap : eBin g ma mb ρ = (ma ρ).bind fun x => (mb ρ).bind fun y => g x y := rfl
@[simp] theorem eUn_ap {h : D → ER} : eUn h m ρ = (m ρ).bind h := rfl
@[simp] theorem eVarD_0 {r : Env} : eVarD 0 (.dat d :: r) = .ok d := rfl
@[simp] theorem eVarD_s {r : Env} {t : Sl} : eVarD (i + 1) (t :: r) = eVarD i r := rfl
@[simp] theorem eVar_0d {r : Env} : eVar 0 (.dat d :: r) = .ok d := rfl
@[simp] theorem eVar_0o {r : Env} : eVar 0 (.own d :: r) = .ok d := rfl
@[simp] theorem eVar_0b {r : Env} : eVar 0 (.bor d :: r) = .ok d := rfl
@[simp] theorem eVar_s {r : Env} {t : Sl} : eVar (i + 1) (t :: r) = eVar i r := rfl
@[simp] theorem evA_nil : evA [] ρ = .ok [] := rfl
theorem evA_cons_ok {ds : List D} (h : m ρ = .ok d) (hr : evA ms ρ = .ok ds) : evA (m :: ms) ρ = .ok (d :: ds) := by simp [evA, h, hr]
@[simp] theorem eCall_0 : eCall G [] ρ = G [] := rfl
@[simp] theorem eCall_1 : eCall G [ma] ρ = (ma ρ).bind fun x => G [x] := by
  unfold eCall evA
  cases ma ρ <;> rfl
@[simp] theorem eCall_2 : eCall G [ma, mb] ρ = (ma ρ).bind fun x => (mb ρ).bind fun y => G [x, y] := by
  unfold eCall evA evA evA
  cases ma ρ <;> cases mb ρ <;> rfl
@[simp] theorem eCall_3 : eCall G [ma, mb, mc] ρ = (ma ρ).bind fun x => (mb ρ).bind fun y => (mc ρ).bind fun z => G [x, y, z] := by
  unfold eCall evA evA evA evA
  cases ma ρ <;> cases mb ρ <;> cases mc ρ <;> rfl
@[simp] theorem eCall_4 {md : EM} : eCall G [ma, mb, mc, md] ρ = (ma ρ).bind fun x => (mb ρ).bind fun y => (mc ρ).bind fun z => (md ρ).bind fun w => G [x, y, z, w] := by
  unfold eCall evA evA evA evA evA
  cases ma ρ <;> cases mb ρ <;> cases mc ρ <;> cases md ρ <;> rfl
@[simp] theorem eIsi_ap {T : String} : eIsi T m ρ = (m ρ).bind fun d => .ok (.bool (isT T d)) := rfl
@[simp] theorem eS0_ap {h : Str → D} {u : Str} : ((ER.ok (.str u)).bind fun d => match d with | .str z => ER.ok (h z) | _ => .bad) = .ok (h u) := rfl
@[simp] theorem eFrz_list {ds : List D} (h : m ρ = .ok (.list ds)) : eFrz m ρ = .ok (.list ds) := by simp [eFrz, h]
def asBool (r : ER) (f : Bool → ER) : ER := r.bind fun d => match d with
  | .bool b => f b
  | _ => .bad
@[simp] theorem eNot_ap {b : Bool} (h : m ρ = .ok (.bool b)) : eNot m ρ = .ok (.bool (!b)) := by simp [eNot, h]
theorem eAnd_t (h : ma ρ = .ok (.bool true)) : eAnd ma mb ρ = mb ρ := by simp [eAnd, h]
theorem eAnd_f (h : ma ρ = .ok (.bool false)) : eAnd ma mb ρ = .ok (.bool false) := by simp [eAnd, h]
theorem eOr_t (h : ma ρ = .ok (.bool true)) : eOr ma mb ρ = .ok (.bool true) := by simp [eOr, h]
theorem eOr_f (h : ma ρ = .ok (.bool false)) : eOr ma mb ρ = mb ρ := by simp [eOr, h]
/-! statements -/
theorem seq_nx {ρ' : Env} (h : a ρ = .nx ρ') : sSeq a b ρ = b ρ' := by simp [sSeq, h]
theorem seq_rt (h : a ρ = .rt d) : sSeq a b ρ = .rt d := by simp [sSeq, h]
theorem if_t (h : m ρ = .ok (.bool true)) : sIf m a b ρ = a ρ := by simp [sIf, h]
theorem if_f (h : m ρ = .ok (.bool false)) : sIf m a b ρ = b ρ := by simp [sIf, h]
theorem if_b {t : Bool} (h : m ρ = .ok (.bool t)) : sIf m a b ρ = if t then a ρ else b ρ := by cases t <;> simp [sIf, h]
theorem asg_ok (h : m ρ = .ok d) : sAsg i m ρ = .nx (ρ.set i (.dat d)) := by simp [sAsg, h]
theorem asgN_ok (h : m ρ = .ok d) : sAsgN i m ρ = .nx (ρ.set i (.own d)) := by simp [sAsgN, h]
theorem ret_ok (h : m ρ = .ok d) : sRet m ρ = .rt d := by simp [sRet, h]
theorem drop_ok (h : m ρ = .ok d) : sDrop m ρ = .nx ρ := by simp [sDrop, h]
@[simp] theorem sSkip_ap : sSkip ρ = .nx ρ := rfl
@[simp] theorem set_0 {r : Env} {t u : Sl} : List.set (t :: r) 0 u = u :: r := rfl
@[simp] theorem set_s {r : Env} {t u : Sl} : List.set (t :: r) (i + 1) u = t :: List.set r i u := rfl
end
/-! data operations on ints -/
@[simp] theorem dAdd_ii (i j : Int) : dAdd (.int i) (.int j) = .ok (.int (i + j)) := rfl
@[simp] theorem dSub_ii (i j : Int) : dSub (.int i) (.int j) = .ok (.int (i - j)) := rfl
@[simp] theorem dLt_ii (i j : Int) : dLt (.int i) (.int j) = .ok (.bool (decide (i < j))) := rfl
@[simp] theorem dLe_ii (i j : Int) : dLe (.int i) (.int j) = .ok (.bool (decide (i ≤ j))) := rfl
@[simp] theorem dGt_ii (i j : Int) : dGt (.int i) (.int j) = .ok (.bool (decide (j < i))) := rfl
@[simp] theorem dGe_ii (i j : Int) : dGe (.int i) (.int j) = .ok (.bool (decide (j ≤ i))) := rfl
@[simp] theorem bLen_l (ds : List D) : bLen [.list ds] = .ok (.int ds.length) := rfl
@[simp] theorem bLen_t (ds : List D) : bLen [.tuple ds] = .ok (.int ds.length) := rfl
theorem bLen_s {z : Str} (h : z.length ≤ sizeLine) : bLen [.str z] = .ok (.int z.length) := by simp [bLen, h]
@[simp] theorem bMin_ii (i j : Int) : bMin [.int i, .int j] = .ok (.int (min i j)) := by
  have e : (if j < i then j else i) = min i j := by
    split <;> omega
  show ER.ok (.int (if j < i then j else i)) = _
  rw [e]
@[simp] theorem bMax_ii (i j : Int) : bMax [.int i, .int j] = .ok (.int (max i j)) := by
  have e : (if j > i then j else i) = max i j := by
    split <;> omega
  show ER.ok (.int (if j > i then j else i)) = _
  rw [e]
theorem log2_le {i : Int} {a : Nat} (h : i.natAbs < 2 ^ a) : i.natAbs.log2 ≤ a := by
  by_cases z : i.natAbs = 0
  · rw [z]
    simp
  · exact Nat.le_of_lt ((Nat.log2_lt z).mpr h)
theorem dMul_ii {i j : Int} (h : i.natAbs.log2 + j.natAbs.log2 < mulBits) : dMul (.int i) (.int j) = .ok (.int (i * j)) := by simp [dMul, h]
/-- products by bounds: a and b bits -/
theorem dMul_ok {i j : Int} (a b : Nat) (hi : i.natAbs < 2 ^ a) (hj : j.natAbs < 2 ^ b) (h : a + b < mulBits := by decide) : dMul (.int i) (.int j) = .ok (.int (i * j)) :=
  dMul_ii (Nat.lt_of_le_of_lt (Nat.add_le_add (log2_le hi) (log2_le hj)) h)
theorem dMod_ok {i j : Int} (h : 0 < j) : dMod (.int i) (.int j) = .ok (.int (i % j)) := by simp [dMod, h]
theorem dDiv_ok {i j : Int} (h : 0 < j) (a : Nat) (hj : j.natAbs < 2 ^ a) (ha : a < 9000 := by decide) : dDiv (.int i) (.int j) = .ok (.int (i / j)) := by
  have := log2_le hj
  have h2 : j.natAbs.log2 < 9000 := by omega
  simp [dDiv, h, h2]
theorem dPow_ok {i j : Int} (h0 : 0 ≤ j) (h1 : j ≤ 1000000) (h2 : i.natAbs < 2 ^ 64) : dPow (.int i) (.int j) = .ok (.int (i ^ j.toNat)) := by
  have e : dPow (.int i) (.int j) = if 0 ≤ j ∧ j ≤ 1000000 ∧ i.natAbs < 2 ^ 64 then .ok (.int (i ^ j.toNat)) else .bad := rfl
  rw [e, if_pos ⟨h0, h1, h2⟩]
theorem atI_nat' {α : Type} {xs : List α} {k : Nat} (h : k < xs.length) : atI xs (k : Int) = some xs[k] := by
  unfold atI ixN
  simp [h]
theorem dIx_l {ds : List D} {i : Int} (h0 : 0 ≤ i) (h : i < ds.length) : dIx (.list ds) (.int i) = .ok (ds[i.toNat]'(by omega)) := by
  have e : i = ((i.toNat : Nat) : Int) := by omega
  have hl : i.toNat < ds.length := by omega
  have := atI_nat' hl
  rw [← e] at this
  simp [dIx, this]
theorem dIx_t {ds : List D} {i : Int} (h0 : 0 ≤ i) (h : i < ds.length) : dIx (.tuple ds) (.int i) = .ok (ds[i.toNat]'(by omega)) := by
  have e : i = ((i.toNat : Nat) : Int) := by omega
  have hl : i.toNat < ds.length := by omega
  have := atI_nat' hl
  rw [← e] at this
  simp [dIx, this]
theorem dIx_s {z : Str} {i : Int} (h0 : 0 ≤ i) (h : i < z.cps.toList.length) (hz : z.length ≤ sizeLine) : dIx (.str z) (.int i) = .ok (.str ⟨#[z.cps.toList[i.toNat]'(by omega)]⟩) := by
  have e : i = ((i.toNat : Nat) : Int) := by omega
  have hl : i.toNat < z.cps.toList.length := by omega
  have := atI_nat' hl
  rw [← e] at this
  simp only [dIx, hz, if_true, this]
theorem dIx_ints {ns : List Int} {i : Int} (h0 : 0 ≤ i) (h : i < ns.length) : dIx (.list (ns.map PyData.int)) (.int i) = .ok (.int (ns[i.toNat]'(by omega))) := by
  rw [dIx_l h0 (by simpa using h)]
  simp
@[simp] theorem shaped_int (k : Int) : SeqAt.shaped (.int k) = true := rfl
@[simp] theorem shaped_bool (k : Bool) : SeqAt.shaped (.bool k) = true := rfl
@[simp] theorem shaped_none : SeqAt.shaped .none = true := rfl
theorem dEq_of {x y : D} (hx : SeqAt.shaped x = true) (hy : SeqAt.shaped y = true) (hs : ∀ i j, x = .str i → y = .str j → False) : dEq x y = .ok (.bool (PyData.eqv x y)) := by
  rcases dEq_cases x y with ⟨i, j, h1, h2, _⟩ | e
  · exact (hs i j h1 h2).elim
  · rw [e, hx, hy]
    rfl
@[simp] theorem dEq_ii (i j : Int) : dEq (.int i) (.int j) = .ok (.bool (decide (i = j))) := by
  rw [dEq_of rfl rfl (fun _ _ h => by cases h)]
  simp only [PyData.eqv]
  congr 2
@[simp] theorem dEq_bb (i j : Bool) : dEq (.bool i) (.bool j) = .ok (.bool (decide (i = j))) := by
  rw [dEq_of rfl rfl (fun _ _ h => by cases h)]
  simp only [PyData.eqv]
  congr 2
@[simp] theorem dEq_ss (i j : Str) : dEq (.str i) (.str j) = .ok (.bool (decide (i = j))) := rfl
theorem dNe_of {x y : D} {b : Bool} (h : dEq x y = .ok (.bool b)) : dNe x y = .ok (.bool (!b)) := by simp [dNe, h]
@[simp] theorem dNe_ii (i j : Int) : dNe (.int i) (.int j) = .ok (.bool (!decide (i = j))) := dNe_of (dEq_ii i j)
@[simp] theorem dNe_ss (i j : Str) : dNe (.str i) (.str j) = .ok (.bool (!decide (i = j))) := rfl
/-! loops -/
theorem forD_inv {g : GM} {body : SM} (P : Nat → Env → Prop) : ∀ (ds : List D) (k : Nat) (ρ : Env), P k ρ → (∀ (i : Nat) d ρ, ds[i]? = some d → P (k + i) ρ → ∃ ρ1 ρ2, g d ρ = some ρ1 ∧ (body ρ1 = .nx ρ2 ∨ body ρ1 = .ct ρ2) ∧ P (k + i + 1) ρ2) →
    ∃ ρ', forD g body ds ρ = .nx ρ' ∧ P (k + ds.length) ρ'
  | [], k, ρ, h0, _ => ⟨ρ, rfl, h0⟩
  | d :: r, k, ρ, h0, hs => by
    obtain ⟨ρ1, ρ2, e1, e2, p⟩ := hs 0 d ρ rfl h0
    obtain ⟨ρ', e3, p3⟩ := forD_inv P r (k + 1) ρ2 p fun i d' ρ q p' => by
      have := hs (i + 1) d' ρ (by simpa using q) (by rw [show k + (i + 1) = k + 1 + i by omega]; exact p')
      rw [show k + (i + 1) + 1 = k + 1 + i + 1 by omega] at this
      exact this
    refine ⟨ρ', ?_, by rw [show k + (d :: r).length = k + 1 + r.length by simp; omega]; exact p3⟩
    simp only [forD, e1]
    rcases e2 with e2 | e2 <;> rw [e2] <;> exact e3
theorem for_inv {mi : Env → AR} {g : GM} {body : SM} {ρ : Env} {ds : List D} (P : Nat → Env → Prop) (hi : mi ρ = .ok ds) (h0 : P 0 ρ) (hs : ∀ (i : Nat) d ρ, ds[i]? = some d → P i ρ → ∃ ρ1 ρ2, g d ρ = some ρ1 ∧ (body ρ1 = .nx ρ2 ∨ body ρ1 = .ct ρ2) ∧ P (i + 1) ρ2) :
    ∃ ρ', sFor mi g body ρ = .nx ρ' ∧ P ds.length ρ' := by
  obtain ⟨ρ', e, p⟩ := forD_inv P ds 0 ρ h0 fun i d ρ q p => by
    rw [Nat.zero_add] at p ⊢
    exact hs i d ρ q p
  rw [Nat.zero_add] at p
  exact ⟨ρ', by simp only [sFor, hi]; exact e, p⟩
@[simp] theorem gN_ap {i : Nat} {d : D} {ρ : Env} : gN i d ρ = some (ρ.set i (.dat d)) := rfl
theorem rangeD_some {lo hi : Int} {i : Nat} {d : D} (h : (rangeD lo hi)[i]? = some d) : i < (hi - lo).toNat ∧ d = .int (lo + (i : Int)) := by
  have hl : i < (rangeD lo hi).length := (List.getElem?_eq_some_iff.mp h).1
  rw [rangeD_len] at hl
  rw [rangeD_get lo hi i hl] at h
  exact ⟨hl, (Option.some.inj h).symm⟩
theorem app_ok {ρ : Env} {i : Nat} {m : EM} {ds : List D} {d : D} (h : ρ[i]? = some (.own (.list ds))) (hm : m ρ = .ok d) (hl : ds.length < sizeLine) : sApp i m ρ = .nx (ρ.set i (.own (.list (ds ++ [d])))) := by simp [sApp, h, hm, hl]
theorem atI_last' {α : Type} (xs : List α) (x : α) : atI (xs ++ [x]) (-1) = some x := by
  unfold atI ixN
  have h1 : ¬ (0 : Int) ≤ -1 := by decide
  have h2 : -(((xs ++ [x]).length : Nat) : Int) ≤ -1 := by
    simp
    omega
  have h3 : ((-1 : Int) + (((xs ++ [x]).length : Nat) : Int)).toNat = xs.length := by
    simp
    omega
  rw [if_neg h1, if_pos h2, h3]
  simp
theorem dIx_last (ds : List D) (d : D) : dIx (.list (ds ++ [d])) (.int (-1)) = .ok d := by
  simp only [dIx, atI_last']
theorem dIx_lastT (ds : List D) (d : D) : dIx (.tuple (ds ++ [d])) (.int (-1)) = .ok d := by
  simp only [dIx, atI_last']
@[simp] theorem dNeg_i (i : Int) : dNeg (.int i) = .ok (.int (-i)) := rfl
theorem cut_from {α : Type} (xs : List α) (k : Nat) : cutD xs (some (k : Int)) none = xs.drop k := by
  unfold cutD
  rw [HT.sIx_nat, HT.sIx_none]
  rw [List.take_of_length_le (by simp)]
  by_cases h : k ≤ xs.length
  · rw [Nat.min_eq_left h]
  · rw [Nat.min_eq_right (by omega), List.drop_of_length_le (Nat.le_refl _), List.drop_of_length_le (by omega)]
theorem cut_to {α : Type} (xs : List α) (k : Nat) : cutD xs none (some (k : Int)) = xs.take k := by
  unfold cutD
  rw [HT.sIx_nat, HT.sIx_none]
  simp only [List.drop_zero, Nat.sub_zero]
  by_cases h : k ≤ xs.length
  · rw [Nat.min_eq_left h]
  · rw [Nat.min_eq_right (by omega), List.take_of_length_le (Nat.le_refl _), List.take_of_length_le (by omega)]
/-! texts -/
theorem cut_last {α : Type} (xs : List α) : cutD xs none (some (-1)) = xs.dropLast := by
  unfold cutD
  have e : HT.sIx xs.length xs.length (some (-1)) = xs.length - 1 := by
    have z : (-1 : Int) < 0 := by decide
    simp only [HT.sIx, z, if_true]
    omega
  have e0 : HT.sIx xs.length 0 none = 0 := rfl
  rw [e, e0, List.drop_zero, Nat.sub_zero, List.dropLast_eq_take]
theorem str_ext {x y : Str} (h : x.cps.toList = y.cps.toList) : x = y := by
  obtain ⟨⟨a⟩⟩ := x
  obtain ⟨⟨b⟩⟩ := y
  have e : a = b := h
  rw [e]
@[simp] theorem str_app (x y : Str) : (x ++ y).cps.toList = x.cps.toList ++ y.cps.toList := by
  show (x.cps ++ y.cps).toList = _
  simp
theorem str_len (x : Str) : x.length = x.cps.toList.length := by
  show x.cps.size = _
  simp
theorem dAdd_ss {x y : Str} (h : x.length + y.length ≤ sizeLine) : dAdd (.str x) (.str y) = .ok (.str (x ++ y)) := by simp [dAdd, h]
theorem len0 : (((([] : List D).length : Nat) : Int)) = 0 := rfl
theorem len1 (a : D) : ((([a] : List D).length : Nat) : Int) = 1 := rfl
theorem len2 (a b : D) : ((([a, b] : List D).length : Nat) : Int) = 2 := rfl
theorem len3 (a b c : D) : ((([a, b, c] : List D).length : Nat) : Int) = 3 := rfl
theorem len4 (a b c d : D) : ((([a, b, c, d] : List D).length : Nat) : Int) = 4 := rfl
theorem is_nn : dIs .none .none = .ok (.bool true) := rfl
theorem is_in (i : Int) : dIs (.int i) .none = .ok (.bool false) := rfl
theorem is_sn (i : Str) : dIs (.str i) .none = .ok (.bool false) := rfl
theorem is_ln (i : List D) : dIs (.list i) .none = .ok (.bool false) := rfl
theorem is_tn (i : List D) : dIs (.tuple i) .none = .ok (.bool false) := rfl
theorem isn_nn : dIsNot .none .none = .ok (.bool false) := rfl
theorem isn_in (i : Int) : dIsNot (.int i) .none = .ok (.bool true) := rfl
theorem isn_sn (i : Str) : dIsNot (.str i) .none = .ok (.bool true) := rfl
theorem isn_ln (i : List D) : dIsNot (.list i) .none = .ok (.bool true) := rfl
theorem isn_tn (i : List D) : dIsNot (.tuple i) .none = .ok (.bool true) := rfl
end DL

/-! DL11: more reckoning: comprehensions, ranges, slices. -/
namespace DL
open PySem L2 Evl
section
variable {ρ : Env} {g : GM} {mt me m ma mb : EM} {mi : Env → AR} {vs : List Nat}
theorem lcD_map {α : Type} (h f : α → D) : ∀ (xs : List α) (acc : List D), (∀ x ∈ xs, ∃ ρ1, g (h x) ρ = some ρ1 ∧ mt ρ1 = .ok (.bool true) ∧ me ρ1 = .ok (f x)) → acc.length + xs.length ≤ sizeLine →
    lcD g mt me (xs.map h) acc ρ = .ok (.list (acc ++ xs.map f))
  | [], acc, _, _ => by simp [lcD]
  | x :: xs, acc, hs, hl => by
    obtain ⟨ρ1, e1, e2, e3⟩ := hs x List.mem_cons_self
    have hl' : acc.length < sizeLine := by
      simp only [List.length_cons] at hl
      omega
    have ih := lcD_map h f xs (acc ++ [f x]) (fun y hy => hs y (List.mem_cons_of_mem _ hy)) (by
      simp only [List.length_cons] at hl
      simp only [List.length_append, List.length_cons, List.length_nil]
      omega)
    simp only [List.map_cons, lcD, e1, e2, e3, hl', if_true, ih]
    simp
theorem lc_map {α : Type} (h f : α → D) {xs : List α} (hi : mi ρ = .ok (xs.map h)) (hs : ∀ x ∈ xs, ∃ ρ1, g (h x) (wipeD ρ vs) = some ρ1 ∧ mt ρ1 = .ok (.bool true) ∧ me ρ1 = .ok (f x)) (hl : xs.length ≤ sizeLine) :
    eLc mi g mt me vs ρ = .ok (.list (xs.map f)) := by
  simp only [eLc, hi]
  rw [lcD_map h f xs [] hs (by simpa using hl)]
  simp
theorem iR2_ok {i j : Int} (ha : ma ρ = .ok (.int i)) (hb : mb ρ = .ok (.int j)) (h1 : inR i = true) (h2 : inR j = true) : iR2 ma mb ρ = .ok (rangeD i j) := by
  simp only [iR2, evA, ha, hb, h1, h2, Bool.and_self, if_true]
theorem iR1_ok {j : Int} (hb : mb ρ = .ok (.int j)) (h2 : inR j = true) : iR1 mb ρ = .ok (rangeD 0 j) := by
  simp only [iR1, hb, h2, if_true]
theorem rangeD_nat (a b : Nat) : rangeD (a : Int) (b : Int) = (List.range (b - a)).map fun (i : Nat) => PyData.int ((a + i : Nat) : Int) := by
  unfold rangeD
  rw [show ((b : Int) - (a : Int)).toNat = b - a by omega]
  refine List.map_congr_left fun i _ => ?_
  simp
theorem rangeD_0 (b : Nat) : rangeD 0 (b : Int) = (List.range b).map fun (i : Nat) => PyData.int (i : Int) := by
  have := rangeD_nat 0 b
  simpa using this
theorem inR_of {n : Int} (h1 : -1000000000 ≤ n) (h2 : n ≤ 1000000000) : inR n = true := by
  rw [inR_iff]
  omega
theorem sl_from {k : Nat} {ds : List D} (h : m ρ = .ok (.list ds)) (ha : ma ρ = .ok (.int (k : Int))) : eSl m (some ma) none ρ = .ok (.list (ds.drop k)) := by
  simp only [eSl, h, bind_ok, evO, ha, dSl, cut_from]
theorem sl_fromT {k : Nat} {ds : List D} (h : m ρ = .ok (.tuple ds)) (ha : ma ρ = .ok (.int (k : Int))) : eSl m (some ma) none ρ = .ok (.tuple (ds.drop k)) := by
  simp only [eSl, h, bind_ok, evO, ha, dSl, cut_from]
theorem sl_to {k : Nat} {ds : List D} (h : m ρ = .ok (.list ds)) (ha : ma ρ = .ok (.int (k : Int))) : eSl m none (some ma) ρ = .ok (.list (ds.take k)) := by
  simp only [eSl, h, bind_ok, evO, ha, dSl, cut_to]
theorem sl_toT {k : Nat} {ds : List D} (h : m ρ = .ok (.tuple ds)) (ha : ma ρ = .ok (.int (k : Int))) : eSl m none (some ma) ρ = .ok (.tuple (ds.take k)) := by
  simp only [eSl, h, bind_ok, evO, ha, dSl, cut_to]
end
section
variable {ρ : Env} {ma mb mc md me mf : EM}
@[simp] theorem eTup_0 : eTup [] ρ = .ok (.tuple []) := by
  have z : (0 : Nat) ≤ sizeLine := by decide
  simp only [eTup, evA]
  simp [ER.bind, z]
@[simp] theorem eTup_1 : eTup [ma] ρ = (ma ρ).bind fun x => .ok (.tuple [x]) := by
  have z : (1 : Nat) ≤ sizeLine := by decide
  simp only [eTup, evA]
  cases ma ρ <;> simp [ER.bind, z]
@[simp] theorem eTup_2 : eTup [ma, mb] ρ = (ma ρ).bind fun x => (mb ρ).bind fun y => .ok (.tuple [x, y]) := by
  have z : (2 : Nat) ≤ sizeLine := by decide
  simp only [eTup, evA]
  cases ma ρ <;> cases mb ρ <;> simp [ER.bind, z]
@[simp] theorem eTup_3 : eTup [ma, mb, mc] ρ = (ma ρ).bind fun x => (mb ρ).bind fun y => (mc ρ).bind fun z => .ok (.tuple [x, y, z]) := by
  have z : (3 : Nat) ≤ sizeLine := by decide
  simp only [eTup, evA]
  cases ma ρ <;> cases mb ρ <;> cases mc ρ <;> simp [ER.bind, z]
@[simp] theorem eTup_4 : eTup [ma, mb, mc, md] ρ = (ma ρ).bind fun x => (mb ρ).bind fun y => (mc ρ).bind fun z => (md ρ).bind fun w => .ok (.tuple [x, y, z, w]) := by
  have z : (4 : Nat) ≤ sizeLine := by decide
  simp only [eTup, evA]
  cases ma ρ <;> cases mb ρ <;> cases mc ρ <;> cases md ρ <;> simp [ER.bind, z]
@[simp] theorem eTup_5 : eTup [ma, mb, mc, md, me] ρ = (ma ρ).bind fun x => (mb ρ).bind fun y => (mc ρ).bind fun z => (md ρ).bind fun w => (me ρ).bind fun v => .ok (.tuple [x, y, z, w, v]) := by
  have z : (5 : Nat) ≤ sizeLine := by decide
  simp only [eTup, evA]
  cases ma ρ <;> cases mb ρ <;> cases mc ρ <;> cases md ρ <;> cases me ρ <;> simp [ER.bind, z]
@[simp] theorem eTup_6 : eTup [ma, mb, mc, md, me, mf] ρ = (ma ρ).bind fun x => (mb ρ).bind fun y => (mc ρ).bind fun z => (md ρ).bind fun w => (me ρ).bind fun v => (mf ρ).bind fun u => .ok (.tuple [x, y, z, w, v, u]) := by
  have z : (6 : Nat) ≤ sizeLine := by decide
  simp only [eTup, evA]
  cases ma ρ <;> cases mb ρ <;> cases mc ρ <;> cases md ρ <;> cases me ρ <;> cases mf ρ <;> simp [ER.bind, z]
@[simp] theorem eLst_0 : eLst [] ρ = .ok (.list []) := by
  have z : (0 : Nat) ≤ sizeLine := by decide
  simp only [eLst, evA]
  simp [ER.bind, z]
@[simp] theorem eLst_1 : eLst [ma] ρ = (ma ρ).bind fun x => .ok (.list [x]) := by
  have z : (1 : Nat) ≤ sizeLine := by decide
  simp only [eLst, evA]
  cases ma ρ <;> simp [ER.bind, z]
@[simp] theorem eLst_2 : eLst [ma, mb] ρ = (ma ρ).bind fun x => (mb ρ).bind fun y => .ok (.list [x, y]) := by
  have z : (2 : Nat) ≤ sizeLine := by decide
  simp only [eLst, evA]
  cases ma ρ <;> cases mb ρ <;> simp [ER.bind, z]
@[simp] theorem eLst_3 : eLst [ma, mb, mc] ρ = (ma ρ).bind fun x => (mb ρ).bind fun y => (mc ρ).bind fun z => .ok (.list [x, y, z]) := by
  have z : (3 : Nat) ≤ sizeLine := by decide
  simp only [eLst, evA]
  cases ma ρ <;> cases mb ρ <;> cases mc ρ <;> simp [ER.bind, z]
@[simp] theorem eLst_4 : eLst [ma, mb, mc, md] ρ = (ma ρ).bind fun x => (mb ρ).bind fun y => (mc ρ).bind fun z => (md ρ).bind fun w => .ok (.list [x, y, z, w]) := by
  have z : (4 : Nat) ≤ sizeLine := by decide
  simp only [eLst, evA]
  cases ma ρ <;> cases mb ρ <;> cases mc ρ <;> cases md ρ <;> simp [ER.bind, z]
@[simp] theorem eLst_5 : eLst [ma, mb, mc, md, me] ρ = (ma ρ).bind fun x => (mb ρ).bind fun y => (mc ρ).bind fun z => (md ρ).bind fun w => (me ρ).bind fun v => .ok (.list [x, y, z, w, v]) := by
  have z : (5 : Nat) ≤ sizeLine := by decide
  simp only [eLst, evA]
  cases ma ρ <;> cases mb ρ <;> cases mc ρ <;> cases md ρ <;> cases me ρ <;> simp [ER.bind, z]
@[simp] theorem eLst_6 : eLst [ma, mb, mc, md, me, mf] ρ = (ma ρ).bind fun x => (mb ρ).bind fun y => (mc ρ).bind fun z => (md ρ).bind fun w => (me ρ).bind fun v => (mf ρ).bind fun u => .ok (.list [x, y, z, w, v, u]) := by
  have z : (6 : Nat) ≤ sizeLine := by decide
  simp only [eLst, evA]
  cases ma ρ <;> cases mb ρ <;> cases mc ρ <;> cases md ρ <;> cases me ρ <;> cases mf ρ <;> simp [ER.bind, z]
end
theorem isT_n (T : String) : isT T .none = (T == "NoneType") := rfl
theorem isT_b (T : String) (b : Bool) : isT T (.bool b) = (T == "bool" || T == "int") := rfl
theorem isT_i (T : String) (b : Int) : isT T (.int b) = (T == "int") := rfl
theorem isT_s (T : String) (b : Str) : isT T (.str b) = (T == "str") := rfl
theorem isT_l (T : String) (b : List D) : isT T (.list b) = (T == "list") := rfl
theorem isT_t (T : String) (b : List D) : isT T (.tuple b) = (T == "tuple") := rfl
@[simp] theorem bTuple_l (ds : List D) : bTuple [.list ds] = .ok (.tuple ds) := rfl
@[simp] theorem bTuple_t (ds : List D) : bTuple [.tuple ds] = .ok (.tuple ds) := rfl
@[simp] theorem bList_l (ds : List D) : bList [.list ds] = .ok (.list ds) := rfl
@[simp] theorem bList_t (ds : List D) : bList [.tuple ds] = .ok (.list ds) := rfl
theorem dAdd_ll {x y : List D} (h : x.length + y.length ≤ sizeLine) : dAdd (.list x) (.list y) = .ok (.list (x ++ y)) := by simp [dAdd, h]
theorem dAdd_tt {x y : List D} (h : x.length + y.length ≤ sizeLine) : dAdd (.tuple x) (.tuple y) = .ok (.tuple (x ++ y)) := by simp [dAdd, h]
theorem enumD_some {ds : List D} {i : Nat} {d : D} (h : (enumD ds)[i]? = some d) : ∃ x, ds[i]? = some x ∧ d = .tuple [.int (i : Int), x] := by
  have hl : i < ds.length := by
    have := (List.getElem?_eq_some_iff.mp h).1
    rwa [enumD_len] at this
  have e : ds[i]? = some ds[i] := by simp [hl]
  rw [enumD_get e] at h
  exact ⟨_, e, (Option.some.inj h).symm⟩
@[simp] theorem gT2_ap {i j : Nat} {x y : D} {ρ : Env} : gT [gN i, gN j] (.tuple [x, y]) ρ = some ((ρ.set i (.dat x)).set j (.dat y)) := rfl
end DL

/-! DL12: try .. except. -/
namespace DL
open PySem L2 Evl

/-! ### the error classes -/
/-- of these classes: each is below BookError and itself, and below no other -/
def subX (x y : Str) : Bool := decide (x = y) || decide (y = "BookError")
def okP (K : PySem.W.Frag) (x y : Str) : Bool := decide (PySem.W.kitOne K (.ref (He.ga K x)) (.ref (He.ga K y)) = some (subX x y)) && decide (PySem.W.exmOne K (.ref (He.ga K x)) (.ref (He.ga K y)) = some (subX x y))
def okE (K : PySem.W.Frag) (x : Str) : Bool :=
  He.eqO (PySem.W.nsIn K mainGlobals x) (some (some (.ref (He.ga K x)))) && (He.eqO (PySem.W.findIn K (.ref (He.ga K x)) "__getattribute__") (some (some (.builtin "BaseException.__getattribute__"))) &&
  (He.eqO (PySem.W.findIn K (.ref (He.ga K x)) "__getattr__") (some none) && (decide (PySem.W.subIn K (.ref (He.ga K x)) (.type "BaseException") = some true) &&
  (PySem.W.hasDictIn K (He.ga K x) && (He.eqO (PySem.W.findIn K (.ref (He.ga K x)) "__class__") (some (some (.builtin "object.__class__"))) &&
  (He.eqO (PySem.W.specialIn K (.builtin "object.__class__") "__get__") (some (some (.builtin "getset_descriptor.__get__"))) && (decide (PySem.W.takesIn K (.builtin "object.__class__") = some true) &&
  (decide (PySem.W.mroIn K (He.ga K x) (.type "object") = some true) && decide (PySem.W.kitOne K (.ref (He.ga K x)) (.type "ValueError") = some true)))))))))
def okX (xs : List Str) (K : PySem.W.Frag) : Bool := xs.all fun x => okE K x && xs.all fun y => okP K x y
structure ExX (xs : List Str) (K : PySem.W.Frag) (mg : Str → Option Value) : Prop where
  gl : ∀ x ∈ xs, mg x = some (.ref (He.ga K x))
  ec : ∀ x ∈ xs, ExcC K (He.ga K x)
  ve : ∀ x ∈ xs, PySem.W.kitOne K (.ref (He.ga K x)) (.type "ValueError") = some true
  kit : ∀ x ∈ xs, ∀ y ∈ xs, PySem.W.kitOne K (.ref (He.ga K x)) (.ref (He.ga K y)) = some (subX x y)
  exm : ∀ x ∈ xs, ∀ y ∈ xs, PySem.W.exmOne K (.ref (He.ga K x)) (.ref (He.ga K y)) = some (subX x y)
theorem okE_ok {K : PySem.W.Frag} {x : Str} (h : okE K x = true) : PySem.W.nsIn K mainGlobals x = some (some (.ref (He.ga K x))) ∧ ExcC K (He.ga K x) ∧ PySem.W.kitOne K (.ref (He.ga K x)) (.type "ValueError") = some true := by
  unfold okE at h
  obtain ⟨h0, h⟩ := He.ba h
  obtain ⟨h1, h⟩ := He.ba h
  obtain ⟨h2, h⟩ := He.ba h
  obtain ⟨h3, h⟩ := He.ba h
  obtain ⟨h4, h⟩ := He.ba h
  obtain ⟨h5, h⟩ := He.ba h
  obtain ⟨h6, h⟩ := He.ba h
  obtain ⟨h7, h⟩ := He.ba h
  obtain ⟨h8, h9⟩ := He.ba h
  exact ⟨He.eqO_ok h0, ⟨He.eqO_ok h1, He.eqO_ok h2, of_decide_eq_true h3, h4, He.eqO_ok h5, He.eqO_ok h6, of_decide_eq_true h7, of_decide_eq_true h8⟩, of_decide_eq_true h9⟩
theorem ExX.of {xs : List Str} {K : PySem.W.Frag} {mg : Str → Option Value} {h : Heap} (X : K.In h) (G : h.Ns mainGlobals mg) (c : okX xs K = true) : ExX xs K mg := by
  have c1 : ∀ x ∈ xs, (okE K x && xs.all fun y => okP K x y) = true := fun x hx => List.all_eq_true.mp c x hx
  have c2 : ∀ x ∈ xs, ∀ y ∈ xs, okP K x y = true := fun x hx y hy => List.all_eq_true.mp (He.ba (c1 x hx)).2 y hy
  refine ⟨fun x hx => PySem.W.mg_of X G (okE_ok (He.ba (c1 x hx)).1).1, fun x hx => (okE_ok (He.ba (c1 x hx)).1).2.1, fun x hx => (okE_ok (He.ba (c1 x hx)).1).2.2, fun x hx y hy => ?_, fun x hx y hy => ?_⟩
  · exact of_decide_eq_true (He.ba (c2 x hx y hy)).1
  · exact of_decide_eq_true (He.ba (c2 x hx y hy)).2
/-- the head's hook with the error classes -/
def obsX (n : Nat) (fa : List He.Fa) (fn : List He.DefD) (xs : List Str) (g : Addr → Option Obj) : He.AlD × Bool := (He.obsD fa fn (He.frG g (He.asD g n)), okX xs (He.frG g (He.asD g n)))
def hookX (n : Nat) (fa : List He.Fa) (fn : List He.DefD) (xs : List Str) : PySem.W.Hook where
  α := He.AlD × Bool
  obs := fun s => obsX n fa fn xs s.heap.get?
  val := fun _ => (He.valD fn, true)
  says := fun _ h => ∃ K : PySem.W.Frag, K.In h ∧ He.SaysD fa fn K ∧ okX xs K = true
  of := fun _ _ e => ⟨_, He.frG_in, congrArg (fun z : He.AlD × Bool => z.1) e, congrArg (fun z : He.AlD × Bool => z.2) e⟩
  keeps := fun _ _ _ ⟨K, hK, c⟩ k => ⟨K, PySem.W.Frag.In.keeps hK k, c⟩
theorem obsX_eq {n : Nat} {fa : List He.Fa} {fn : List He.DefD} {xs : List Str} {g : Addr → Option Obj} {s : Shared} (h : ∀ a, g a = s.heap.get? a) : obsX n fa fn xs g = (hookX n fa fn xs).obs s := by
  have e : g = s.heap.get? := funext h
  rw [e] <;> rfl

/-! ### meanings -/
def shut : Out → Out
  | .ex _ _ => .bad
  | r => r
def unI (i : Nat) : Out → Out
  | .nx ρ => .nx (ρ.set i .un)
  | .bk ρ => .bk (ρ.set i .un)
  | .ct ρ => .ct (ρ.set i .un)
  | r => r
def hGet (c : Str) : List (Str × SM) → Option SM
  | [] => none
  | (x, m) :: r => if subX c x = true then some m else hGet c r
def sTry (xs : List Str) (mb : SM) (hs : List (Str × SM)) : SM := fun ρ => match mb ρ with
  | .ex c ρ' => if c ∈ xs then (match hGet c hs with
    | some m => shut (m ρ')
    | none => .ex c ρ') else .bad
  | r => r
def sTryAs (xs : List Str) (mb : SM) (x : Str) (i : Nat) (ms : Str → SM) : SM := fun ρ => match mb ρ with
  | .ex c ρ' => if c ∈ xs ∧ i < ρ'.length then (if subX c x = true then unI i (shut (ms c (ρ'.set i .un))) else .ex c ρ') else .bad
  | r => r
abbrev W00 : WX := fun _ _ _ _ => False
section
variable {K : PySem.W.Frag} {pn : Pn} {Hf Hb H : Hp} {σ : L2.St} {ρ : Env}
theorem RelE.unpin (R : RelE K pn Hf Hb H σ ρ) : RelE K none Hf Hb H σ ρ := ⟨R.ef, R.eb, R.len, R.dat, R.bor, R.own, R.sep, fun _ _ z => nomatch z⟩
theorem RelE.setPin {i : Nat} {a : Addr} (R : RelE K none Hf Hb H σ ρ) (hi : i < ρ.length) : RelE K (some (i, a)) Hf Hb H (σ.set i (some (.ref a))) (ρ.set i .un) := by
  have R1 := R.setUn (i := i) (x := some (V.ref a)) (fun _ z => nomatch z)
  refine ⟨R1.ef, R1.eb, R1.len, R1.dat, R1.bor, R1.own, R1.sep, fun j b z => ?_⟩
  cases z
  exact setself (by rw [R.len]; exact hi)
end
/-! ### clauses without a name -/
inductive HdsD (X : Cx) (rk : Kd) (xs : List Str) : List ExceptHandler → List (Str × SM) → Prop
  | nil : HdsD X rk xs [] []
  | cons {x : Str} {b₀ : Stmt} {suite : List Stmt} {np pos' : Pos} {hds : List ExceptHandler} {m : SM} {l : List (Str × SM)} (hx : x ∈ xs) (hg : Gl X x) (hd : (x == ("__debug__" : Str)) = false)
      (hsu : ∀ (a : Addr) (oe : Obj) (pn : List (Addr × Obj)), DSs (X.suite a ((a, oe) :: pn)) ⟨W00, none⟩ rk (b₀ :: suite) m) (r : HdsD X rk xs hds l) :
      HdsD X rk xs (.ExceptHandler (some (.Name x np)) none (b₀ :: suite) pos' :: hds) ((x, m) :: l)
theorem hds_cons {X : Cx} {rk : Kd} {xs : List Str} {x : Str} {b₀ : Stmt} {suite : List Stmt} {np pos' : Pos} {hds : List ExceptHandler} {m : SM} {l : List (Str × SM)} (j : Nat)
    (hsu : ∀ (a : Addr) (oe : Obj) (pn : List (Addr × Obj)), DSs (X.suite a ((a, oe) :: pn)) ⟨W00, none⟩ rk (b₀ :: suite) m) (r : HdsD X rk xs hds l) (hx : xs[j]? = some x := by rfl) (hg : Gl X x := by rfl) (hd : (x == ("__debug__" : Str)) = false := by decide) :
    HdsD X rk xs (.ExceptHandler (some (.Name x np)) none (b₀ :: suite) pos' :: hds) ((x, m) :: l) := .cons (List.mem_of_getElem? hx) hg hd hsu r
def hMap (K : PySem.W.Frag) (rk : Kd) (l : List (Str × SM)) : List (Value × (Addr → Value → Option Addr → TS)) := l.map fun p => (.ref (He.ga K p.1), fun _ _ _ => sOf K ⟨W00, none⟩ rk p.2)
theorem hds_ok {X : Cx} {rk : Kd} {xs : List Str} (Zx : ExX xs X.K X.mg) {hds : List ExceptHandler} {l : List (Str × SM)} (h : HdsD X rk xs hds l) : HdsOk X hds (hMap X.K rk l) := by
  induction h with
  | nil => exact .nil
  | cons hx hg hd hsu r ih => exact .cons ⟨hg, hd, .inl (Zx.gl _ hx)⟩ (fun a oe cls d pn _ _ => hsu a oe pn) ih
theorem hds_mem {X : Cx} {rk : Kd} {xs : List Str} {hds : List ExceptHandler} {l : List (Str × SM)} (h : HdsD X rk xs hds l) : ∀ p ∈ l, p.1 ∈ xs := by
  induction h with
  | nil => intro p hp; cases hp
  | cons hx hg hd hsu r ih =>
    intro p hp
    rcases List.mem_cons.mp hp with rfl | hp
    · exact hx
    · exact ih p hp
/-- what is shut keeps its ends -/
theorem shut_post {K : PySem.W.Frag} {w w' : WX} {rk : Kd} {Hf Hb H : Hp} {E : Ends} {r : Out} (h : SPost K ⟨w, none⟩ rk Hf Hb H E (shut r)) : SPost K ⟨w', none⟩ rk Hf Hb H E r := by
  cases r with
  | ex c ρ => exact h.elim
  | _ => exact h
theorem wmany_of {K : PySem.W.Frag} {mg : Str → Option Value} {w : WX} {rk : Kd} {xs : List Str} (Zx : ExX xs K mg) {Hf Hb H : Hp} {E : Ends} {c : Str} {ρ' : Env} (hc : c ∈ xs) {σ' : L2.St} (R : RelE K none Hf Hb H σ' ρ') : ∀ (l : List (Str × SM)), (∀ p ∈ l, p.1 ∈ xs) →
    SPost K ⟨w, none⟩ rk Hf Hb H E (match hGet c l with | some m => shut (m ρ') | none => .ex c ρ') → wMany K w E (hMap K rk l) (.ref (He.ga K c)) none σ' H
  | [], _, h => h σ' Hb H R (Bw.refl R.eb)
  | (x, m) :: l, hm, h => by
    refine ⟨subX c x, Zx.exm c hc x (hm _ List.mem_cons_self), fun hb a na => ?_, fun hb => ?_⟩
    · simp only [hGet, hb, if_true] at h
      exact ⟨Hf, Hb, ρ', R, shut_post h⟩
    · simp only [hGet, hb] at h
      exact wmany_of Zx hc R l (fun p hp => hm p (List.mem_cons_of_mem _ hp)) h
section
variable {X : Cx} {w : WX} {rk : Kd} {xs : List Str} {body : List Stmt} {mb : SM} {pos : Pos}
theorem ds_try {h₀ : ExceptHandler} {hds : List ExceptHandler} {l : List (Str × SM)} (Zx : ExX xs X.K X.mg) (tk : Takes X w)
    (hb : ∀ (w : WX) (pn : List (Addr × Obj)) (xe : Value → Shared → Prop), Takes (X.tr pn xe) w → PassesOwn (model X.prog X.w) X.A X.env xe → DSs (X.tr pn xe) ⟨w, none⟩ rk body mb)
    (hh : HdsD X rk xs (h₀ :: hds) l) (hs : X.stack = X.env :: X.outer := by rfl) (hf : X.env.frame = some X.env.locals := by rfl) : DS X ⟨w, none⟩ rk (.Try body (h₀ :: hds) [] [] pos) (sTry xs mb l) :=
  PS.imp (ps_try_many hs hf tk (tb := fun w => sOf X.K ⟨w, none⟩ rk mb) hb (hds_ok Zx hh)) fun E σ H ⟨Hf, Hb, ρ, R, h⟩ => by
    refine ⟨Hf, Hb, ρ, R, ?_⟩
    unfold sTry at h
    cases q : mb ρ with
    | ex c ρ' =>
      rw [q] at h
      simp only at h
      by_cases hc : c ∈ xs
      · rw [if_pos hc] at h
        exact fun σ' Hb' H' R' b => wmany_of Zx hc R' l (hds_mem hh) (SPost.weak b h)
      · rw [if_neg hc] at h
        exact h.elim
    | nx ρ' => rw [q] at h; exact h
    | bk ρ' => rw [q] at h; exact h
    | ct ρ' => rw [q] at h; exact h
    | rt d => rw [q] at h; exact h
    | bad => rw [q] at h; exact h
/-- a clause with a name -/
theorem ds_tryAs {x n : Str} {i : Nat} {b₀ : Stmt} {suite : List Stmt} {np pos' : Pos} {ms : Str → SM} (j : Nat) (Zx : ExX xs X.K X.mg) (tk : Takes X w) (hN : X.N.Nodup)
    (hb : ∀ (w : WX) (pn : List (Addr × Obj)) (xe : Value → Shared → Prop), Takes (X.tr pn xe) w → PassesOwn (model X.prog X.w) X.A X.env xe → DSs (X.tr pn xe) ⟨w, none⟩ rk body mb)
    (hsu : ∀ (c : Str), c ∈ xs → ∀ (a : Addr) (oe : Obj) (pn : List (Addr × Obj)), Zc (.ref (He.ga X.K c)) none oe → (∃ vs, oe.data = .fields vs) → DSs (X.suite a ((a, oe) :: pn)) ⟨W00, some (i, a)⟩ rk (b₀ :: suite) (ms c))
    (hx : xs[j]? = some x := by rfl) (hi : X.N[i]? = some n := by rfl) (hln : X.env.kindOf n = some .local := by rfl) (hg : Gl X x := by rfl) (hd : (x == ("__debug__" : Str)) = false := by decide) (hs : X.stack = X.env :: X.outer := by rfl) (hf : X.env.frame = some X.env.locals := by rfl) :
    DS X ⟨w, none⟩ rk (.Try body [.ExceptHandler (some (.Name x np)) (some n) (b₀ :: suite) pos'] [] [] pos) (sTryAs xs mb x i ms) := by
  have hxm := List.mem_of_getElem? hx
  refine PS.imp (ps_try_as (i := i) hs hf hN hi hln (c := .ref (He.ga X.K x)) ⟨hg, hd, .inl (Zx.gl _ hxm)⟩ tk (tb := fun w => sOf X.K ⟨w, none⟩ rk mb) hb
    (ts := fun a cls d D σ H => ∃ c ∈ xs, cls = .ref (He.ga X.K c) ∧ d = none ∧ sOf X.K ⟨W00, some (i, a)⟩ rk (ms c) D σ H) (fun a oe cls d pn hz hfl => ⟨fun pins s σ H D I h => ?_⟩)) fun E σ H ⟨Hf, Hb, ρ, R, h⟩ => ?_
  · obtain ⟨c, hc, rfl, rfl, h⟩ := h
    exact (hsu c hc a oe pn hz hfl).run pins s σ H D I h
  · refine ⟨Hf, Hb, ρ, R, ?_⟩
    unfold sTryAs at h
    cases q : mb ρ with
    | ex c ρ' =>
      rw [q] at h
      simp only at h
      by_cases hc : c ∈ xs ∧ i < ρ'.length
      · rw [if_pos hc] at h
        intro σ' Hb' H' R' b
        have h := SPost.weak b h
        refine ⟨subX c x, Zx.exm c hc.1 x hxm, fun hb a na => ?_, fun hb => ?_⟩
        · rw [if_pos hb] at h
          refine ⟨c, hc.1, rfl, rfl, Hf, Hb', _, R'.setPin hc.2, ?_⟩
          cases q2 : ms c (ρ'.set i .un) with
          | nx ρ2 =>
            rw [q2] at h
            exact fun σ2 Hb2 H2 R2 b2 => h _ Hb2 H2 (R2.unpin.setUn (fun _ z => nomatch z)) b2
          | bk ρ2 =>
            rw [q2] at h
            exact fun σ2 Hb2 H2 R2 b2 => h _ Hb2 H2 (R2.unpin.setUn (fun _ z => nomatch z)) b2
          | ct ρ2 =>
            rw [q2] at h
            exact fun σ2 Hb2 H2 R2 b2 => h _ Hb2 H2 (R2.unpin.setUn (fun _ z => nomatch z)) b2
          | rt d =>
            rw [q2] at h
            exact h
          | ex c2 ρ2 =>
            rw [q2] at h
            exact h.elim
          | bad =>
            rw [q2] at h
            exact h
        · rw [if_neg (by rw [hb]; decide)] at h
          exact h σ' Hb' H' R' (Bw.refl R'.eb)
      · rw [if_neg hc] at h
        exact h.elim
    | nx ρ' => rw [q] at h; exact h
    | bk ρ' => rw [q] at h; exact h
    | ct ρ' => rw [q] at h; exact h
    | rt d => rw [q] at h; exact h
    | bad => rw [q] at h; exact h
end
/-! ### isinstance(error, ..) within the suite -/
def rIsET (K : PySem.W.Frag) (D a : Addr) : List V → Hp → VK → Prop := fun xs H Q => ∃ (tp : Addr) (cs : List V) (us : List Value) (b : Bool), xs = [.ref a, .ref tp] ∧ H tp = some (.tup cs) ∧ Paired ClsV cs us ∧ PySem.W.kitAny K (.ref D) us = some b ∧ Q (.bl b) H
theorem call_isET {X : Cx} {a D : Addr} {oe : Obj} {pn : List (Addr × Obj)} (C : ExcC X.K D) (hz : Zc (.ref D) none oe) (hf : ∃ vs, oe.data = .fields vs) : CallR (X.suite a ((a, oe) :: pn)) (.builtin "isinstance") (rIsET X.K D a) := by
  intro pins s σ H xs us Q I r h
  obtain ⟨tp, cs, ws, b, rfl, hT, k, e, q⟩ := h
  obtain ⟨u1, u2, rfl, r1, r2⟩ := vals2 r
  cases (show u1 = Value.ref a from r1)
  cases (show u2 = Value.ref tp from r2)
  obtain ⟨hget, _⟩ := I.pin (a, oe) (List.mem_append.mpr (.inl List.mem_cons_self))
  obtain ⟨vs, hv⟩ := hf
  have J : PySem.W.InstAt s.heap a oe D none := by
    obtain ⟨oc, od, oda, osl⟩ := oe
    obtain ⟨h1, h2⟩ := hz
    dsimp only at h1 h2 hv
    subst h1 h2 hv
    exact ⟨hget, rfl, rfl, trivial⟩
  obtain ⟨_, its, rv, o, h1, h2, n, h3⟩ := (show ObjOk X.prog X.w H s.heap tp (.tup cs) from I.hok tp _ hT)
  have e3 := ClsV.all k rv
  subst e3
  obtain ⟨oc, od, dt, sl⟩ := o
  simp only at h2 h3
  subst h2 h3
  exact PySem.W.kia_tup (PySem.W.handS_kitx_exc C.hg C.hk C.hs C.hd C.ha C.hn C.ht C.hm) I.kIn J h1 e (fun z => nomatch z) fun tk => ⟨.bl b, H, I.kept (t' := tk) fun _ _ z => z, rfl, q⟩
section
variable {X : Cx} {xs : List Str} {c : Str} {a : Addr} {oe : Obj} {pn : List (Addr × Obj)} {i : Nat} {n : Str} {p p1 p2 pos : Pos}
/-- isinstance(error, T), T one of the classes -/
theorem de_isE {T : Str} (Zx : ExX xs X.K X.mg) (hc : c ∈ xs) (hz : Zc (.ref (He.ga X.K c)) none oe) (hf : ∃ vs, oe.data = .fields vs) (hm : X.mg "isinstance" = none) (j : Nat) (hT : xs[j]? = some T := by rfl) (hi : X.N[i]? = some n := by rfl) (hv : Vis X.env.scope n := by first | exact Or.inl rfl | exact Or.inr (Or.inl rfl) | exact Or.inr (Or.inr rfl))
    (hd : (n == ("__debug__" : Str)) = false := by decide) (hcd : (n == ("__classdict__" : Str)) = false := by decide) (hg : Gl X "isinstance" := by rfl) (hgx : Gl X T := by rfl) (hdb : (T == ("__debug__" : Str)) = false := by decide)
    (hs : starEach [.Name n p1, .Name T p2] X.env = (false, eval (.Name n p1) X.env) :: starEach [.Name T p2] X.env := by rfl) (hs2 : starEach [.Name T p2] X.env = (false, eval (.Name T p2) X.env) :: starEach [] X.env := by rfl)
    (hpl : (backTo pos (starEach [.Name T p2] X.env)).any (·.1) = false := by rfl) : DE (X.suite a ((a, oe) :: pn)) ⟨W00, some (i, a)⟩ .dat (.Call (.Name "isinstance" p) [.Name n p1, .Name T p2] [] pos) (eC (.bool (subX c T))) :=
  PE.imp (pe_callB (X := X.suite a ((a, oe) :: pn)) (call_isE (X := X) (Zx.ec c hc) hz hf) hg hm PyProof.Rows.boot_isinstance (pa_cons (pe_var (i := i) hi hv hd hcd) (pa_cons (pe_glob (v := .ref (He.ga X.K T)) hgx (Zx.gl _ (List.mem_of_getElem? hT)) rfl hdb) pa_nil hs2) hs) (by decide) (by decide) hs hpl) fun σ H Q ⟨Hf, Hb, ρ, R, h1, h2, h3⟩ => by
    refine ⟨.ref a, R.pin i a rfl, ?_⟩
    exact ⟨.ref (He.ga X.K T), .ref (He.ga X.K T), subX c T, rfl, fun u r => r, Zx.kit c hc T (List.mem_of_getElem? hT), h1 _ rfl _ Hb H (Gw.refl R.eb) rs_bl⟩
/-- isinstance(error, ValueError) -/
theorem de_isEV (Zx : ExX xs X.K X.mg) (hc : c ∈ xs) (hz : Zc (.ref (He.ga X.K c)) none oe) (hf : ∃ vs, oe.data = .fields vs) (hm : X.mg "isinstance" = none) (hmv : X.mg "ValueError" = none) (hi : X.N[i]? = some n := by rfl) (hv : Vis X.env.scope n := by first | exact Or.inl rfl | exact Or.inr (Or.inl rfl) | exact Or.inr (Or.inr rfl))
    (hd : (n == ("__debug__" : Str)) = false := by decide) (hcd : (n == ("__classdict__" : Str)) = false := by decide) (hg : Gl X "isinstance" := by rfl) (hgx : Gl X "ValueError" := by rfl)
    (hs : starEach [.Name n p1, .Name "ValueError" p2] X.env = (false, eval (.Name n p1) X.env) :: starEach [.Name "ValueError" p2] X.env := by rfl) (hs2 : starEach [.Name "ValueError" p2] X.env = (false, eval (.Name "ValueError" p2) X.env) :: starEach [] X.env := by rfl)
    (hpl : (backTo pos (starEach [.Name "ValueError" p2] X.env)).any (·.1) = false := by rfl) : DE (X.suite a ((a, oe) :: pn)) ⟨W00, some (i, a)⟩ .dat (.Call (.Name "isinstance" p) [.Name n p1, .Name "ValueError" p2] [] pos) (eC (.bool true)) :=
  PE.imp (pe_callB (X := X.suite a ((a, oe) :: pn)) (call_isE (X := X) (Zx.ec c hc) hz hf) hg hm PyProof.Rows.boot_isinstance (pa_cons (pe_var (i := i) hi hv hd hcd) (pa_cons (pe_bltn (v := .ty "ValueError") hgx hmv (by decide +kernel : bootBuiltins "ValueError" = some (.type "ValueError")) rfl) pa_nil hs2) hs) (by decide) (by decide) hs hpl) fun σ H Q ⟨Hf, Hb, ρ, R, h1, h2, h3⟩ => by
    refine ⟨.ref a, R.pin i a rfl, ?_⟩
    exact ⟨.ty "ValueError", .type "ValueError", true, rfl, fun u r => r, Zx.ve c hc, h1 _ rfl _ Hb H (Gw.refl R.eb) rs_bl⟩
/-- a tuple of the classes' names -/
inductive ClsN (X : Cx) (xs : List Str) : List Expr → List Str → Prop
  | nil : ClsN X xs [] []
  | cons {T : Str} {p : Pos} {es : List Expr} {ts : List Str} (hT : T ∈ xs) (hg : Gl X T) (hd : (T == ("__debug__" : Str)) = false) (hs : starEach (.Name T p :: es) X.env = (false, eval (.Name T p) X.env) :: starEach es X.env) (r : ClsN X xs es ts) : ClsN X xs (.Name T p :: es) (T :: ts)
theorem cls_cons {T : Str} {p : Pos} {es : List Expr} {ts : List Str} (j : Nat) (r : ClsN X xs es ts) (hT : xs[j]? = some T := by rfl) (hg : Gl X T := by rfl) (hd : (T == ("__debug__" : Str)) = false := by decide) (hs : starEach (.Name T p :: es) X.env = (false, eval (.Name T p) X.env) :: starEach es X.env := by rfl) : ClsN X xs (.Name T p :: es) (T :: ts) :=
  .cons (List.mem_of_getElem? hT) hg hd hs r
theorem cls_pa (Zx : ExX xs X.K X.mg) {es : List Expr} {ts : List Str} (h : ClsN X xs es ts) : PA (X.suite a ((a, oe) :: pn)) es (fun σ H Q => Q (ts.map fun T => V.ref (He.ga X.K T)) H) := by
  induction h with
  | nil => exact pa_nil
  | cons hT hg hd hs r ih => exact pa_cons (X := X.suite a ((a, oe) :: pn)) (pe_glob (v := .ref (He.ga X.K _)) hg (Zx.gl _ hT) rfl hd) ih hs
theorem cls_kit (Zx : ExX xs X.K X.mg) (hc : c ∈ xs) {es : List Expr} {ts : List Str} (h : ClsN X xs es ts) : Paired ClsV (ts.map fun T => V.ref (He.ga X.K T)) (ts.map fun T => Value.ref (He.ga X.K T)) ∧ PySem.W.kitAny X.K (.ref (He.ga X.K c)) (ts.map fun T => Value.ref (He.ga X.K T)) = some (ts.any fun T => subX c T) := by
  induction h with
  | nil => exact ⟨.nil, rfl⟩
  | cons hT hg hd hs r ih =>
    refine ⟨.cons (.own _) ih.1, ?_⟩
    rw [List.map_cons, List.any_cons]
    refine kitAny_cons (Zx.kit c hc _ hT) (fun z => ?_) (fun z => by rw [z]; rfl)
    rw [z, Bool.false_or]
    exact ih.2
theorem de_isET {es : List Expr} {ts : List Str} {x1} {tp : Pos} (Zx : ExX xs X.K X.mg) (hc : c ∈ xs) (hz : Zc (.ref (He.ga X.K c)) none oe) (hf : ∃ vs, oe.data = .fields vs) (hm : X.mg "isinstance" = none) (ht : ClsN X xs es ts) (hi : X.N[i]? = some n := by rfl) (hv : Vis X.env.scope n := by first | exact Or.inl rfl | exact Or.inr (Or.inl rfl) | exact Or.inr (Or.inr rfl))
    (hd : (n == ("__debug__" : Str)) = false := by decide) (hcd : (n == ("__classdict__" : Str)) = false := by decide) (hg : Gl X "isinstance" := by rfl) (hl : ts.length ≤ sizeLine := by decide)
    (hs : starEach [.Name n p1, .Tuple es x1 tp] X.env = (false, eval (.Name n p1) X.env) :: starEach [.Tuple es x1 tp] X.env := by rfl) (hs2 : starEach [.Tuple es x1 tp] X.env = (false, eval (.Tuple es x1 tp) X.env) :: starEach [] X.env := by rfl)
    (hpl : (backTo pos (starEach [.Tuple es x1 tp] X.env)).any (·.1) = false := by rfl) : DE (X.suite a ((a, oe) :: pn)) ⟨W00, some (i, a)⟩ .dat (.Call (.Name "isinstance" p) [.Name n p1, .Tuple es x1 tp] [] pos) (eC (.bool (ts.any fun T => subX c T))) :=
  PE.imp (pe_callB (X := X.suite a ((a, oe) :: pn)) (call_isET (X := X) (Zx.ec c hc) hz hf) hg hm PyProof.Rows.boot_isinstance (pa_cons (pe_var (i := i) hi hv hd hcd) (pa_cons (pe_tup (cls_pa Zx ht)) pa_nil hs2) hs) (by decide) (by decide) hs hpl) fun σ H Q ⟨Hf, Hb, ρ, R, h1, h2, h3⟩ => by
    refine ⟨.ref a, R.pin i a rfl, ?_⟩
    refine ⟨by rw [List.length_map]; exact hl, fun tp hp => ?_⟩
    obtain ⟨k1, k2⟩ := cls_kit Zx hc ht
    exact ⟨tp, _, _, _, rfl, upd_same, k1, k2, h1 _ rfl _ Hb _ (Gw.new R.eb hp) rs_bl⟩
end
end DL

/-! DL13: small things. -/
namespace DL
open PySem L2 Evl
/-- e.append(x), e a new list: nothing is left of it -/
def sAppN (mo me : EM) : SM := fun ρ => match mo ρ with
  | .ok (.list ds) => (match me ρ with
    | .ok d => if ds.length < sizeLine then .nx ρ else .bad
    | .ex c => .ex c ρ
    | .bad => .bad)
  | .ok _ => .bad
  | .ex c => .ex c ρ
  | .bad => .bad
section
variable {X : Cx} {W : WQ} {rk : Kd} {o e : Expr} {mo m : EM} {pos : Pos}
theorem ds_appN {p2 p3 : Pos} (ho : DE X W .new o mo) (he : DE X W .dat e m) (hst : starEach [e] X.env = (false, eval e X.env) :: starEach [] X.env := by rfl)
    (hbase : attributeBase o "append" X.env (eval o X.env) = eval o X.env := by rfl)
    (hfew : ((backTo p3 (starEach [e] X.env)).all (fun x => !x.1) && (backToKw p3 (keywordEach [] X.env)).all (fun x => x.1.isSome)
      && decide (([e] : List Expr).length + ([] : List Keyword).length + (if ([] : List Keyword).isEmpty then 0 else 1) < 30)) = true := by rfl)
    (hline : (p2.endLine == p3.line) = true := by rfl) (hpl : (backTo p3 (starEach [] X.env)).any (·.1) = false := by rfl) (hs : swapsWith (.Call (.Attribute o "append" p2) [e] [] p3) none pos.line X.env = pure false := by rfl) :
    DS X W rk (.Expr (.Call (.Attribute o "append" p2) [e] [] p3) pos) (sAppN mo m) :=
  PS.imp (ps_expr (pe_bm PySem.F.plainAttrs_list PySem.F.slot_list_append PySem.F.type_list_append mt_append ho (pa_cons he pa_nil hst) hbase hfew hline hst hpl) hs) fun E σ H ⟨Hf, Hb, ρ, R, h⟩ => by
    unfold sAppN at h
    refine ⟨Hf, Hb, ρ, R, fun dl hl v Hb1 H1 g1 r1 => ?_, fun c hc Hb1 H1 g1 => ?_, fun z => ?_⟩
    · rw [hl] at h
      obtain ⟨p, rfl, hp0, hpb, ow⟩ := r1
      cases dl with
      | list ds =>
        simp only at h
        obtain ⟨o1, ho1, hc1⟩ := ow
        cases hc1 with
        | lst al =>
          refine ⟨.inl ⟨rfl, _, sq_of ho1⟩, Hf, Hb1, ρ, R.gw g1, fun d hd v Hb2 H2 g2 r2 => ?_, fun c hc Hb2 H2 g2 => ?_, fun z => ?_⟩
          · rw [hd] at h
            simp only at h
            split at h
            · rename_i hz
              have ho2 := g2.h _ _ ho1
              have hb2 : Hb2 p = none := g2.nw p hpb (by rw [ho1]; exact True.intro)
              refine ⟨p, _, v, rfl, rfl, ho2, by rw [drAll_len al]; exact hz, ?_⟩
              have gg := g1.trans g2
              have g3 : ∀ o3, Gw Hb H Hb2 (upd H2 p o3) := fun o3 => ⟨fun a u q => by rw [upd_ne (ne_of_none q hp0)]; exact gg.h a u q, gg.b, fun a u q => by rw [upd_ne (ne_of_none q hb2)]; exact gg.bh a u q, gg.nw⟩
              exact h σ Hb2 _ (R.gw (g3 _)) ((g3 _).bw R.ef)
            · exact h.elim
          · rw [hc] at h
            exact h σ Hb2 H2 (R.gw (g1.trans g2)) ((g1.trans g2).bw R.ef)
          · rw [z] at h
            exact h.elim
      | _ => exact h.elim
    · rw [hc] at h
      exact h σ Hb1 H1 (R.gw g1) (g1.bw R.ef)
    · rw [z] at h
      exact h.elim
end
/-! reckoning -/
section
variable {xs : List Str} {mb : SM} {ρ ρ' : Env} {c : Str} {d : D}
theorem try_nx {l : List (Str × SM)} (h : mb ρ = .nx ρ') : sTry xs mb l ρ = .nx ρ' := by simp [sTry, h]
theorem try_rt {l : List (Str × SM)} (h : mb ρ = .rt d) : sTry xs mb l ρ = .rt d := by simp [sTry, h]
theorem try_ex {l : List (Str × SM)} {m : SM} (h : mb ρ = .ex c ρ') (hc : c ∈ xs) (hg : hGet c l = some m) : sTry xs mb l ρ = shut (m ρ') := by simp [sTry, h, hc, hg]
theorem try_no {l : List (Str × SM)} (h : mb ρ = .ex c ρ') (hc : c ∈ xs) (hg : hGet c l = none) : sTry xs mb l ρ = .ex c ρ' := by simp [sTry, h, hc, hg]
theorem tryAs_nx {x : Str} {i : Nat} {ms : Str → SM} (h : mb ρ = .nx ρ') : sTryAs xs mb x i ms ρ = .nx ρ' := by simp [sTryAs, h]
theorem tryAs_ex {x : Str} {i : Nat} {ms : Str → SM} (h : mb ρ = .ex c ρ') (hc : c ∈ xs) (hi : i < ρ'.length) (hx : subX c x = true) : sTryAs xs mb x i ms ρ = unI i (shut (ms c (ρ'.set i .un))) := by simp [sTryAs, h, hc, hi, hx]
theorem drop_ex {m : EM} (h : m ρ = .ex c) : sDrop m ρ = .ex c ρ := by simp [sDrop, h]
theorem seq_ex {a b : SM} (h : a ρ = .ex c ρ') : sSeq a b ρ = .ex c ρ' := by simp [sSeq, h]
theorem sub_refl (x : Str) : subX x x = true := by simp [subX]
theorem sub_book (x : Str) : subX x "BookError" = true := by simp [subX]
end
theorem nonx_try {xs : List Str} {mb : SM} {l : List (Str × SM)} (h : ∀ ρ ρ', mb ρ ≠ .nx ρ') (hl : ∀ p ∈ l, ∀ ρ ρ', p.2 ρ ≠ .nx ρ') : ∀ ρ ρ', sTry xs mb l ρ ≠ .nx ρ' := fun ρ ρ' z => by
  unfold sTry at z
  split at z
  · split at z
    · rename_i c q hc
      split at z
      · rename_i m hm
        have : ∃ p ∈ l, p.2 = m := by
          clear hl h
          induction l with
          | nil => cases hm
          | cons p l ih =>
            obtain ⟨x, m'⟩ := p
            simp only [hGet] at hm
            split at hm
            · cases hm
              exact ⟨_, List.mem_cons_self, rfl⟩
            · obtain ⟨p, hp, e⟩ := ih hm
              exact ⟨p, List.mem_cons_of_mem _ hp, e⟩
        obtain ⟨p, hp, rfl⟩ := this
        unfold shut at z
        split at z
        · cases z
        · exact hl p hp _ _ z
      · cases z
    · cases z
  · exact h _ _ z
end DL

/-! DL14: when data are equal. -/
namespace DL
open PySem L2 Evl
/-- data that is compared item by item, of depth n at most -/
structure Sh (n : Nat) (d : D) : Prop where
  lay : d.canLay0 = true
  dep : d.depth ≤ n
theorem Sh.shaped {n : Nat} {d : D} (h : Sh n d) (hn : n ≤ 64 := by decide) : SeqAt.shaped d = true := by
  unfold SeqAt.shaped
  rw [h.lay, decide_eq_true (Nat.le_trans h.dep hn)]
  rfl
theorem Sh.mono {m n : Nat} {d : D} (h : Sh m d) (hn : m ≤ n) : Sh n d := ⟨h.lay, Nat.le_trans h.dep hn⟩
theorem sh_int (n : Nat) (i : Int) : Sh n (.int i) := ⟨rfl, by simp [PyData.depth]⟩
theorem sh_bool (n : Nat) (i : Bool) : Sh n (.bool i) := ⟨rfl, by simp [PyData.depth]⟩
theorem sh_none (n : Nat) : Sh n .none := ⟨rfl, by simp [PyData.depth]⟩
theorem sh_str (n : Nat) {x : Str} (h : ∀ c ∈ x.cps.toList, c < 0x110000) : Sh n (.str x) := ⟨by
  show PyData.strOk x = true
  unfold PyData.strOk
  rw [Array.all_eq_true']
  intro c hc
  exact decide_eq_true (h c (by simpa using hc)), by simp [PyData.depth]⟩
theorem sh_all {n : Nat} : ∀ {ds : List D}, (∀ d ∈ ds, Sh n d) → PyData.canLayAll0 ds = true ∧ PyData.depthAll ds ≤ n
  | [], _ => ⟨rfl, by simp [PyData.depthAll]⟩
  | d :: ds, h => by
    obtain ⟨h1, h2⟩ := sh_all (ds := ds) fun e he => h e (List.mem_cons_of_mem _ he)
    have h3 := h d List.mem_cons_self
    simp only [PyData.canLayAll0, PyData.depthAll]
    rw [h1, h3.lay]
    exact ⟨rfl, Nat.max_le.mpr ⟨h3.dep, h2⟩⟩
theorem sh_list {n : Nat} {ds : List D} (h : ∀ d ∈ ds, Sh n d) : Sh (n + 1) (.list ds) := by
  obtain ⟨h1, h2⟩ := sh_all h
  refine ⟨?_, ?_⟩
  · simp only [PyData.canLay0]
    exact h1
  · simp only [PyData.depth]
    omega
theorem sh_tuple {n : Nat} {ds : List D} (h : ∀ d ∈ ds, Sh n d) : Sh (n + 1) (.tuple ds) := by
  obtain ⟨h1, h2⟩ := sh_all h
  refine ⟨?_, ?_⟩
  · simp only [PyData.canLay0]
    exact h1
  · simp only [PyData.depth]
    omega
mutual
/-- neither a truth nor a dict within -/
def nb : D → Bool
  | .bool _ | .dict _ => false
  | .list ds | .tuple ds => nbs ds
  | _ => true
def nbs : List D → Bool
  | [] => true
  | d :: ds => nb d && nbs ds
end
theorem nbs_of : ∀ {ds : List D}, (∀ d ∈ ds, nb d = true) → nbs ds = true
  | [], _ => rfl
  | d :: ds, h => by
    simp only [nbs]
    rw [h d List.mem_cons_self, nbs_of fun e he => h e (List.mem_cons_of_mem _ he)]
    rfl
mutual
theorem eqv_eq : ∀ (d e : D), nb d = true → nb e = true → PyData.eqv d e = true → d = e
  | .none, e, _, _, h => by cases e <;> simp [PyData.eqv] at h ⊢
  | .bool _, _, h, _, _ => by simp [nb] at h
  | .int i, e, _, hb, h => by cases e <;> simp [PyData.eqv, nb] at h hb ⊢ <;> exact h
  | .str x, e, _, _, h => by cases e <;> simp [PyData.eqv] at h ⊢ <;> exact h
  | .list xs, e, ha, hb, h => by
    cases e with
    | list ys =>
      simp only [PyData.eqv] at h
      rw [eqvs_eq xs ys (by simpa [nb] using ha) (by simpa [nb] using hb) h]
    | _ => simp [PyData.eqv] at h
  | .tuple xs, e, ha, hb, h => by
    cases e with
    | tuple ys =>
      simp only [PyData.eqv] at h
      rw [eqvs_eq xs ys (by simpa [nb] using ha) (by simpa [nb] using hb) h]
    | _ => simp [PyData.eqv] at h
  | .dict _, _, h, _, _ => by simp [nb] at h
theorem eqvs_eq : ∀ (ds es : List D), nbs ds = true → nbs es = true → PyData.eqvAll ds es = true → ds = es
  | [], [], _, _, _ => rfl
  | [], _ :: _, _, _, h => by simp [PyData.eqvAll] at h
  | _ :: _, [], _, _, h => by simp [PyData.eqvAll] at h
  | d :: ds, e :: es, ha, hb, h => by
    simp only [nbs, Bool.and_eq_true] at ha hb
    simp only [PyData.eqvAll, Bool.and_eq_true] at h
    rw [eqv_eq d e ha.1 hb.1 h.1, eqvs_eq ds es ha.2 hb.2 h.2]
end
theorem dEq_same {n : Nat} {d : D} (h : Sh n d) (hn : n ≤ 64 := by decide) : dEq d d = .ok (.bool true) := by
  rcases dEq_cases d d with ⟨i, j, rfl, h2, e⟩ | e
  · cases h2
    rw [e, decide_eq_true rfl]
  · rw [e, h.shaped hn]
    simp only [Bool.and_self, if_true]
    rw [SeqAt.eqv_refl d h.lay]
theorem dEq_diff {m n : Nat} {d e : D} (h : Sh m d) (k : Sh n e) (hd : nb d = true) (he : nb e = true) (ne : d ≠ e) (hm : m ≤ 64 := by decide) (hn : n ≤ 64 := by decide) : dEq d e = .ok (.bool false) := by
  rcases dEq_cases d e with ⟨i, j, rfl, rfl, q⟩ | q
  · rw [q, decide_eq_false (fun z => ne (by rw [z]))]
  · rw [q, h.shaped hm, k.shaped hn]
    simp only [Bool.and_self, if_true]
    cases z : PyData.eqv d e with
    | false => rfl
    | true => exact absurd (eqv_eq d e hd he z) ne
theorem dNe_same {n : Nat} {d : D} (h : Sh n d) (hn : n ≤ 64 := by decide) : dNe d d = .ok (.bool false) := dNe_of (dEq_same h hn)
theorem dNe_diff {m n : Nat} {d e : D} (h : Sh m d) (k : Sh n e) (hd : nb d = true) (he : nb e = true) (ne : d ≠ e) (hm : m ≤ 64 := by decide) (hn : n ≤ 64 := by decide) : dNe d e = .ok (.bool true) := dNe_of (dEq_diff h k hd he ne hm hn)
end DL

/-! DL15: an object handed in to be changed (the first parameter). -/
namespace DL
open PySem L2 Evl
structure Gio (Hb H : Hp) (p : Addr) (Hb' H' : Hp) : Prop where
  h : ∀ a o, a ≠ p → H a = some o → H' a = some o
  b : Ex Hb Hb'
  bh : Ex Hb' H'
  nw : ∀ a, Hb a = none → NT (H a) → Hb' a = none
/-- what a def promises that changes its first argument: the meaning tells the result and what the argument has become -/
def SpIO (K : PySem.W.Frag) (n : Nat) (m : List D → ER) : Sp := fun vs H Q _ => ∃ (Hb : Hp) (p : Addr) (us : List V) (c : D) (ds : List D) (d c' : D), Ex Hb H ∧ vs = V.ref p :: us ∧ Hb p = none ∧ Ow K Hb H p c ∧ DrAll K Hb us ds ∧ us.length = n ∧ m (c :: ds) = .ok (.tuple [d, c']) ∧
  ∀ v Hb' H', Gio Hb H p Hb' H' → Dr K Hb' v d → Ow K Hb' H' p c' → Q v H'
theorem RelE.gio {pn : Pn} {K : PySem.W.Frag} {H H' Hb Hb' Hf : Hp} {p : Addr} {c c' : D} {σ : L2.St} {ρ : Env} {i : Nat} (R : RelE K pn Hf Hb H σ ρ) (hi : ρ[i]? = some (.own c)) (hv : σ[i]? = some (some (.ref p))) (g : Gio Hb H p Hb' H') (hb : Hb' p = none) (h : Ow K Hb' H' p c') : RelE K pn Hf Hb' H' σ (ρ.set i (.own c')) := by
  obtain ⟨q, h1, h2, h3, h4⟩ := R.own i c hi
  rw [hv] at h1
  cases h1
  have ne : ∀ a o, Hf a = some o → a ≠ p := fun a o e => ne_of_none e h3
  have key : ∀ (m : Nat) t, (ρ.set i (.own c'))[m]? = some t → (m = i ∧ t = .own c') ∨ (m ≠ i ∧ ρ[m]? = some t) := fun m t qq => getset_dat qq
  refine ⟨fun a o e => g.h a o (ne a o e) (R.ef a o e), g.bh, by simp [R.len], fun j e q => ?_, fun j e q => ?_, fun j e q => ?_, fun j k e f q nn q2 => ?_, R.pin⟩
  · rcases key j _ q with ⟨_, z⟩ | ⟨z, q'⟩
    · cases z
    · obtain ⟨v, v1, v2⟩ := R.dat j e q'
      exact ⟨v, v1, dr_ex g.b v2⟩
  · rcases key j _ q with ⟨_, z⟩ | ⟨z, q'⟩
    · cases z
    · obtain ⟨v, v1, v2⟩ := R.bor j e q'
      refine ⟨v, v1, ?_⟩
      rcases v2 with v2 | ⟨a, a1, ⟨o, a2, a3⟩, a4⟩
      · exact .inl (dr_ex g.b v2)
      · have nap : a ≠ p := fun z2 => by
          subst z2
          exact a4 i c hi hv
        refine .inr ⟨a, a1, ⟨o, g.h a o nap a2, a3.ex g.b⟩, fun k f hk => ?_⟩
        rcases key k _ hk with ⟨z2, _⟩ | ⟨_, q2⟩
        · rw [z2, hv]
          intro z3
          cases z3
          exact nap rfl
        · exact a4 k f q2
  · rcases key j _ q with ⟨z, z2⟩ | ⟨z, q'⟩
    · cases z2
      subst z
      exact ⟨p, hv, h, h3, hb⟩
    · obtain ⟨a, a1, ⟨o, a2, a3⟩, a4, a5⟩ := R.own j e q'
      have nap : a ≠ p := fun z2 => by
        subst z2
        exact R.sep j i e c q' z hi (by rw [a1, hv])
      exact ⟨a, a1, ⟨o, g.h a o nap a2, a3.ex g.b⟩, a4, g.nw a a5 (by rw [a2]; exact a3.nt)⟩
  · rcases key j _ q with ⟨z, _⟩ | ⟨z, q'⟩
    · rcases key k _ q2 with ⟨z2, _⟩ | ⟨z2, q2'⟩
      · exact absurd (z.trans z2.symm) nn
      · rw [z]
        exact R.sep i k c f hi (fun w => z2 w.symm) q2'
    · rcases key k _ q2 with ⟨z2, _⟩ | ⟨z2, q2'⟩
      · rw [z2]
        exact R.sep j i e c q' z hi
      · exact R.sep j k e f q' nn q2'
/-! ### expressions that change an object of one's own -/
inductive XR where
  | ok (d : D) (ρ : Env) | ex (c : Str) (ρ : Env) | bad
abbrev XM := Env → XR
def xOf (K : PySem.W.Frag) (W : WQ) (m : XM) : TE := fun σ H Q => ∃ (Hf Hb : Hp) (ρ : Env), RelE K W.pin Hf Hb H σ ρ ∧
  (∀ d ρ', m ρ = .ok d ρ' → ∀ v Hb' H', RelE K W.pin Hf Hb' H' σ ρ' → Bw Hf Hb Hb' H' → Dr K Hb' v d → Q v H') ∧
  (∀ c ρ', m ρ = .ex c ρ' → ∀ Hb' H', RelE K W.pin Hf Hb' H' σ ρ' → Bw Hf Hb Hb' H' → W.w (.ref (He.ga K c)) none σ H') ∧ m ρ ≠ .bad
abbrev DX (X : Cx) (W : WQ) (e : Expr) (m : XM) : Prop := PE X e (xOf X.K W m)
/-- f(xs, ..): xs the i-th name, one's own -/
def xCall (i : Nat) (g : List D → ER) (ms : List EM) : XM := fun ρ => match ρ[i]? with
  | some (.own c) => (match evA ms ρ with
    | .ok ds => (match g (c :: ds) with
      | .ok (.tuple [d, c']) => .ok d (ρ.set i (.own c'))
      | _ => .bad)
    | .ex e => .ex e ρ
    | .bad => .bad)
  | _ => .bad
/-- f(xs, a, X) with X such a call, too -/
def xCallL (i : Nat) (g : List D → ER) (m : EM) (xm : XM) : XM := fun ρ => match ρ[i]? with
  | some (.own _) => (match m ρ with
    | .ok d0 => (match xm ρ with
      | .ok d1 ρ1 => (match ρ1[i]? with
        | some (.own c) => (match g [c, d0, d1] with
          | .ok (.tuple [d, c']) => .ok d (ρ1.set i (.own c'))
          | _ => .bad)
        | _ => .bad)
      | .ex e ρ1 => .ex e ρ1
      | .bad => .bad)
    | .ex e => .ex e ρ
    | .bad => .bad)
  | _ => .bad
section
variable {X : Cx} {W : WQ} {ks : List Kd} {x y : Str} {p q pos : Pos} {es : List Expr} {ms : List EM} {g : List D → ER} {i j k n : Nat} {ps : List Str}
theorem dx_fn (i : Nat) (h : Has X.prog X.w X.K X.mg X.base x k ps (SpIO X.K n g)) (hr : Room j X.A) (tk : Takes X W.w) (ha : DA X W ks es ms) (hks : ∀ k ∈ ks, k = .dat := by simp) (hn : ks.length = n := by rfl) (hj : k ≤ j := by decide) (hg : Gl X x := by rfl) (hdb : (x == ("__debug__" : Str)) = false := by decide)
    (hN : X.N[i]? = some y := by rfl) (hv : Vis X.env.scope y := by first | exact Or.inl rfl | exact Or.inr (Or.inl rfl) | exact Or.inr (Or.inr rfl)) (hd : (y == ("__debug__" : Str)) = false := by decide) (hcd : (y == ("__classdict__" : Str)) = false := by decide)
    (he : starEach (.Name y q :: es) X.env = (false, eval (.Name y q) X.env) :: starEach es X.env := by rfl) (hpl : (backTo pos (starEach es X.env)).any (·.1) = false := by rfl) : DX X W (.Call (.Name x p) (.Name y q :: es) [] pos) (xCall i g ms) := by
  obtain ⟨fd, F, B, _⟩ := h.ex
  refine PE.imp (pe_callS F (hr.mono hj) hg h.gl h.kp B (fun σ => passAt tk σ) (pa_cons (pe_var hN hv hd hcd) ha he) hdb he hpl) fun σ H Q ⟨Hf, Hb, ρ, R, h1, h2, h3⟩ => ?_
  have h1 := h1
  unfold xCall at h1 h2 h3
  split at h1
  · rename_i c hi
    obtain ⟨p, hp, ow, hf, hbp⟩ := R.own i c hi
    have hpn : NT (H p) := ow.nt
    refine ⟨_, hp, Hf, Hb, ρ, R, fun ds hds vs Hb1 H1 g1 r1 => ?_, fun e he Hb1 H1 g1 => ?_, fun z => ?_⟩
    · rw [hi, hds] at h3
      rw [hds] at h1
      simp only at h1 h3
      cases qg : g (c :: ds) with
      | bad => rw [qg] at h3; exact absurd rfl h3
      | ex e => rw [qg] at h3; exact absurd rfl h3
      | ok z =>
        rw [qg] at h1 h3
        cases z with
        | tuple l =>
          match l, qg, h1, h3 with
          | [d, c'], qg, h1, h3 =>
            refine ⟨Hb1, p, vs, c, ds, d, c', g1.bh, rfl, g1.nw p hbp hpn, ow.ex g1.b g1.h, r1.dr hks, ?_, qg, fun v Hb2 H2 gio r o2 => ?_⟩
            · rw [r1.lenK]
              exact hn
            · have hb2 : Hb2 p = none := gio.nw p (g1.nw p hbp hpn) (ex_ne g1.h hpn)
              exact h1 d _ rfl v Hb2 H2 ((R.gw g1).gio hi hp gio hb2 o2) ⟨g1.b.trans gio.b, gio.bh, fun a z1 z2 => gio.nw a (g1.nw a z1 (ex_ne R.ef z2)) (ex_ne g1.h (ex_ne R.ef z2))⟩ r
          | [], _, _, h3 => exact absurd rfl h3
          | [_], _, _, h3 => exact absurd rfl h3
          | _ :: _ :: _ :: _, _, _, h3 => exact absurd rfl h3
        | _ => exact absurd rfl h3
    · rw [hi, he] at h2
      exact h2 e ρ rfl Hb1 H1 (R.gw g1) (g1.bw R.ef)
    · rw [hi, z] at h3
      exact absurd rfl h3
  · rename_i hno
    exfalso
    apply h3
    split
    · rename_i c hi
      exact absurd hi (hno c)
    · rfl
theorem dx_fn2 (i : Nat) {e1 e2 : Expr} {m : EM} {xm : XM} (h : Has X.prog X.w X.K X.mg X.base x k ps (SpIO X.K 2 g)) (hr : Room j X.A) (tk : Takes X W.w) (h1 : DE X W .dat e1 m) (h2 : DX X W e2 xm) (hj : k ≤ j := by decide) (hg : Gl X x := by rfl) (hdb : (x == ("__debug__" : Str)) = false := by decide)
    (hN : X.N[i]? = some y := by rfl) (hv : Vis X.env.scope y := by first | exact Or.inl rfl | exact Or.inr (Or.inl rfl) | exact Or.inr (Or.inr rfl)) (hd : (y == ("__debug__" : Str)) = false := by decide) (hcd : (y == ("__classdict__" : Str)) = false := by decide)
    (he : starEach [.Name y q, e1, e2] X.env = (false, eval (.Name y q) X.env) :: starEach [e1, e2] X.env := by rfl) (he1 : starEach [e1, e2] X.env = (false, eval e1 X.env) :: starEach [e2] X.env := by rfl) (he2 : starEach [e2] X.env = (false, eval e2 X.env) :: starEach [] X.env := by rfl)
    (hpl : (backTo pos (starEach [e1, e2] X.env)).any (·.1) = false := by rfl) : DX X W (.Call (.Name x p) [.Name y q, e1, e2] [] pos) (xCallL i g m xm) := by
  obtain ⟨fd, F, B, _⟩ := h.ex
  refine PE.imp (pe_callS F (hr.mono hj) hg h.gl h.kp B (fun σ => passAt tk σ) (pa_cons (pe_var hN hv hd hcd) (pa_cons h1 (pa_cons h2 pa_nil he2) he1) he) hdb he hpl) fun σ H Q ⟨Hf, Hb, ρ, R, h1, h2, h3⟩ => ?_
  unfold xCallL at h1 h2 h3
  cases hi : ρ[i]? with
  | none => rw [hi] at h3; exact absurd rfl h3
  | some s =>
    cases s with
    | un => rw [hi] at h3; exact absurd rfl h3
    | dat _ => rw [hi] at h3; exact absurd rfl h3
    | bor _ => rw [hi] at h3; exact absurd rfl h3
    | own c0 =>
      rw [hi] at h1 h2 h3
      simp only at h1 h2 h3
      obtain ⟨p, hp, _⟩ := R.own i c0 hi
      refine ⟨_, hp, Hf, Hb, ρ, R, fun d0 hd0 v0 Hb1 H1 g1 r1 => ?_, fun e he Hb1 H1 g1 => ?_, fun z => ?_⟩
      · rw [hd0] at h1 h2 h3
        simp only at h1 h2 h3
        refine ⟨Hf, Hb1, ρ, R.gw g1, fun d1 ρ1 hd1 v1 Hb2 H2 R2 b2 r2 => ?_, fun e ρ1 hx Hb2 H2 R2 b2 => ?_, fun z => ?_⟩
        · rw [hd1] at h1 h2 h3
          simp only at h1 h2 h3
          cases hi1 : ρ1[i]? with
          | none => rw [hi1] at h3; exact absurd rfl h3
          | some s =>
            cases s with
            | un => rw [hi1] at h3; exact absurd rfl h3
            | dat _ => rw [hi1] at h3; exact absurd rfl h3
            | bor _ => rw [hi1] at h3; exact absurd rfl h3
            | own c =>
              rw [hi1] at h1 h3
              simp only at h1 h3
              obtain ⟨p1, hp1, ow, hf, hbp⟩ := R2.own i c hi1
              rw [hp] at hp1
              cases hp1
              have hpn : NT (H2 p) := ow.nt
              cases qg : g [c, d0, d1] with
              | bad => rw [qg] at h3; exact absurd rfl h3
              | ex e => rw [qg] at h3; exact absurd rfl h3
              | ok z =>
                rw [qg] at h1 h3
                cases z with
                | tuple l =>
                  match l, qg, h1, h3 with
                  | [d, c'], qg, h1, h3 =>
                    refine ⟨Hb2, p, [v0, v1], c, [d0, d1], d, c', b2.bh, rfl, hbp, ow, .cons (dr_ex b2.b r1) (.cons r2 .nil), rfl, qg, fun v Hb3 H3 gio r o2 => ?_⟩
                    have hb3 : Hb3 p = none := gio.nw p hbp hpn
                    exact h1 d _ rfl v Hb3 H3 (R2.gio hi1 hp gio hb3 o2) ⟨(g1.b.trans b2.b).trans gio.b, gio.bh, fun a z1 z2 => gio.nw a (b2.nw a (g1.nw a z1 (ex_ne R.ef z2)) z2) (ex_ne R2.ef z2)⟩ r
                  | [], _, _, h3 => exact absurd rfl h3
                  | [_], _, _, h3 => exact absurd rfl h3
                  | _ :: _ :: _ :: _, _, _, h3 => exact absurd rfl h3
                | _ => exact absurd rfl h3
        · rw [hx] at h2
          exact h2 e ρ1 rfl Hb2 H2 R2 ((g1.bw R.ef).trans b2)
        · rw [z] at h3
          exact absurd rfl h3
      · rw [he] at h2
        exact h2 e ρ rfl Hb1 H1 (R.gw g1) (g1.bw R.ef)
      · rw [z] at h3
        exact absurd rfl h3
end
/-! ### statements -/
def sAsgX (i : Nat) (m : XM) : SM := fun ρ => match m ρ with
  | .ok d ρ' => .nx (ρ'.set i (.dat d))
  | .ex c ρ' => .ex c ρ'
  | .bad => .bad
def sDropX (m : XM) : SM := fun ρ => match m ρ with
  | .ok _ ρ' => .nx ρ'
  | .ex c ρ' => .ex c ρ'
  | .bad => .bad
/-- return, out of a def whose first argument is changed -/
def sRetI (m : EM) : SM := fun ρ => match m ρ with
  | .ok d => (match (ρ[(0 : Nat)]? : Option Sl) with
    | some (.own c) => .rt (.tuple [d, c])
    | _ => .bad)
  | .ex c => .ex c ρ
  | .bad => .bad
def sRetX (m : XM) : SM := fun ρ => match m ρ with
  | .ok d ρ' => (match (ρ'[(0 : Nat)]? : Option Sl) with
    | some (.own c) => .rt (.tuple [d, c])
    | _ => .bad)
  | .ex c ρ' => .ex c ρ'
  | .bad => .bad
def sAppX (i : Nat) (m : XM) : SM := fun ρ => match ρ[i]? with
  | some (.own (.list _)) => (match m ρ with
    | .ok d ρ' => (match ρ'[i]? with
      | some (.own (.list ds)) => if ds.length < sizeLine then .nx (ρ'.set i (.own (.list (ds ++ [d])))) else .bad
      | _ => .bad)
    | .ex c ρ' => .ex c ρ'
    | .bad => .bad)
  | _ => .bad
def sPutX (i : Nat) (mk : EM) (mv : XM) : SM := fun ρ => match mv ρ with
  | .ok d ρ => (match ρ[i]? with
    | some (.own (.dict ds)) => if unm ds = true then (match mk ρ with
      | .ok k => (match keyOf k with
        | some k => if ds.length < sizeLine then .nx (ρ.set i (.own (.dict (dStore ds k d)))) else .bad
        | none => .bad)
      | .ex c => .ex c ρ
      | .bad => .bad) else .bad
    | _ => .bad)
  | .ex c ρ => .ex c ρ
  | .bad => .bad
section
variable {X : Cx} {W : WQ} {rk : Kd} {e : Expr} {m : XM} {me : EM} {pos : Pos}
theorem ds_asgX {i : Nat} {x : Str} {pos' : Pos} (hN : X.N.Nodup) (he : DX X W e m) (hi : X.N[i]? = some x := by rfl) (hx : Loc X.env.scope x := by first | exact Or.inl rfl | exact Or.inr rfl) (hs : swapsWith e (some (.Name x pos')) pos.line X.env = pure false := by rfl)
    (hf : X.fn x = true ∨ X.env.scope.names.lookup x = some .local := by first | exact .inl rfl | exact .inr rfl | assumption) (ho : PnOff W.pin i := by intro _ z; cases z) : DS X W rk (.Assign [.Name x pos'] e pos) (sAsgX i m) := PS.imp (ps_set hN hi hx he hs hf) fun E σ H ⟨Hf, Hb, ρ, R, h⟩ => by
  refine ⟨Hf, Hb, ρ, R, fun d ρ' hd v Hb' H' R' b r => ?_, fun c ρ' hc Hb' H' R' b => ?_, fun z => ?_⟩
  · simp only [sAsgX, hd] at h
    exact h _ Hb' H' (R'.setDat ho r) b
  · simp only [sAsgX, hc] at h
    exact h _ Hb' H' R' b
  · simp only [sAsgX, z] at h
    exact h
theorem ds_dropX (he : DX X W e m) (hs : swapsWith e none pos.line X.env = pure false := by rfl) : DS X W rk (.Expr e pos) (sDropX m) := PS.imp (ps_expr he hs) fun E σ H ⟨Hf, Hb, ρ, R, h⟩ => by
  refine ⟨Hf, Hb, ρ, R, fun d ρ' hd v Hb' H' R' b r => ?_, fun c ρ' hc Hb' H' R' b => ?_, fun z => ?_⟩
  · simp only [sDropX, hd] at h
    exact h _ Hb' H' R' b
  · simp only [sDropX, hc] at h
    exact h _ Hb' H' R' b
  · simp only [sDropX, z] at h
    exact h
theorem rs_io {K : PySem.W.Frag} {Hf Hb H : Hp} {σ : L2.St} {ρ : Env} {p : Addr} {v : V} {d c : D} {pn : Pn} (R : RelE K pn Hf Hb H σ ρ) (hp : pn = some (0, p)) (q : ρ[0]? = some (.own c)) (r : Dr K Hb v d) : Rs K (.io p) Hf Hb H v (.tuple [d, c]) := by
  obtain ⟨p1, h1, h2, h3, h4⟩ := R.own 0 c q
  have h5 := R.pin 0 p hp
  rw [h1] at h5
  cases h5
  exact ⟨d, c, rfl, r, h3, h4, h2⟩
theorem ds_retI {p : Addr} (he : DE X W .dat e me) (hp : W.pin = some (0, p) := by rfl) : DS X W (.io p) (.Return (some e) pos) (sRetI me) := PS.imp (ps_ret he) fun E σ H ⟨Hf, Hb, ρ, R, h⟩ => by
  refine ⟨Hf, Hb, ρ, R, fun d hd v Hb' H' g r => ?_, fun c hc Hb' H' g => ?_, fun z => ?_⟩
  · simp only [sRetI, hd] at h
    split at h
    · rename_i c q
      exact h v Hb' H' (R.gw g).ef (g.bw R.ef) (rs_io (R.gw g) hp q r)
    · exact h.elim
  · simp only [sRetI, hc] at h
    exact h _ Hb' H' (R.gw g) (g.bw R.ef)
  · simp only [sRetI, z] at h
    exact h
theorem ds_retX {p : Addr} (he : DX X W e m) (hp : W.pin = some (0, p) := by rfl) : DS X W (.io p) (.Return (some e) pos) (sRetX m) := PS.imp (ps_ret he) fun E σ H ⟨Hf, Hb, ρ, R, h⟩ => by
  refine ⟨Hf, Hb, ρ, R, fun d ρ' hd v Hb' H' R' b r => ?_, fun c ρ' hc Hb' H' R' b => ?_, fun z => ?_⟩
  · simp only [sRetX, hd] at h
    split at h
    · rename_i c q
      exact h v Hb' H' R'.ef b (rs_io R' hp q r)
    · exact h.elim
  · simp only [sRetX, hc] at h
    exact h _ Hb' H' R' b
  · simp only [sRetX, z] at h
    exact h
theorem ds_appX {i : Nat} {x : Str} {p p2 p3 : Pos} (he : DX X W e m) (hN : X.N[i]? = some x := by rfl) (hv : Vis X.env.scope x := by first | exact Or.inl rfl | exact Or.inr (Or.inl rfl) | exact Or.inr (Or.inr rfl)) (hd : (x == ("__debug__" : Str)) = false := by decide)
    (hcd : (x == ("__classdict__" : Str)) = false := by decide) (hst : starEach [e] X.env = (false, eval e X.env) :: starEach [] X.env := by rfl)
    (hbase : attributeBase (.Name x p) "append" X.env (eval (.Name x p) X.env) = eval (.Name x p) X.env := by rfl)
    (hfew : ((backTo p3 (starEach [e] X.env)).all (fun x => !x.1) && (backToKw p3 (keywordEach [] X.env)).all (fun x => x.1.isSome)
      && decide (([e] : List Expr).length + ([] : List Keyword).length + (if ([] : List Keyword).isEmpty then 0 else 1) < 30)) = true := by rfl)
    (hline : (p2.endLine == p3.line) = true := by rfl) (hpl : (backTo p3 (starEach [] X.env)).any (·.1) = false := by rfl) (hs : swapsWith (.Call (.Attribute (.Name x p) "append" p2) [e] [] p3) none pos.line X.env = pure false := by rfl) :
    DS X W rk (.Expr (.Call (.Attribute (.Name x p) "append" p2) [e] [] p3) pos) (sAppX i m) :=
  PS.imp (ps_expr (pe_bm PySem.F.plainAttrs_list PySem.F.slot_list_append PySem.F.type_list_append mt_append (pe_var hN hv hd hcd) (pa_cons he pa_nil hst) hbase hfew hline hst hpl) hs) fun E σ H ⟨Hf, Hb, ρ, R, h⟩ => by
    unfold sAppX at h
    split at h
    · rename_i ds0 q0
      obtain ⟨p, h1, ⟨o, ho, hc⟩, h3, h4⟩ := R.own i _ q0
      cases hc with
      | lst al =>
        refine ⟨_, h1, .inl ⟨rfl, _, sq_of ho⟩, Hf, Hb, ρ, R, fun d ρ' hd v Hb' H' R' b r => ?_, fun c ρ' hc Hb' H' R' b => ?_, fun z => ?_⟩
        · rw [hd] at h
          simp only at h
          split at h
          · rename_i ds q
            split at h
            · rename_i hz
              obtain ⟨p1, k1, ⟨o1, ho1, hc1⟩, k3, k4⟩ := R'.own i _ q
              rw [h1] at k1
              cases k1
              cases hc1 with
              | lst al1 =>
                refine ⟨p, _, v, rfl, rfl, ho1, by rw [drAll_len al1]; exact hz, ?_⟩
                exact h σ Hb' _ (R'.write q h1 (.lst (drAll_app al1 (.cons r .nil)))) (b.trans (Bw.upd R'.eb k4))
            · exact h.elim
          · exact h.elim
        · rw [hc] at h
          exact h σ Hb' H' R' b
        · rw [z] at h
          exact h.elim
    · exact h.elim
theorem ds_putX (i : Nat) {x : Str} {k v : Expr} {mk : EM} {mv : XM} {p pos' : Pos} (hu : X.A.units + 64 < cLine) (hk : DE X W .bor k mk) (hv : DX X W v mv) (hN : X.N[i]? = some x := by rfl) (hvis : Vis X.env.scope x := by first | exact Or.inl rfl | exact Or.inr (Or.inl rfl) | exact Or.inr (Or.inr rfl)) (hd : (x == ("__debug__" : Str)) = false := by decide)
    (hcd : (x == ("__classdict__" : Str)) = false := by decide) (hs : swapsWith v (some (.Subscript (.Name x p) k pos')) pos.line X.env = pure false := by rfl) : DS X W rk (.Assign [.Subscript (.Name x p) k pos'] v pos) (sPutX i mk mv) :=
  PS.imp (ps_dput (by omega) (pe_var hN hvis hd hcd) hk hv hs) fun E σ H ⟨Hf, Hb, ρ, R, h⟩ => by
  unfold sPutX at h
  refine ⟨Hf, Hb, ρ, R, fun d ρ1 hd v Hb1 H1 R1 b1 r1 => ?_, fun c ρ1 hc Hb1 H1 R1 b1 => ?_, fun z => ?_⟩
  · rw [hd] at h
    simp only at h
    split at h
    · rename_i ds q
      have hm : unm ds = true := by
        cases qm : unm ds with
        | true => rfl
        | false => simp [qm, SPost] at h
      simp only [hm, if_true] at h
      obtain ⟨p, h1, ⟨o, ho, hc⟩, h3, h4⟩ := R1.own i _ q
      cases hc with
      | dT al => cases hm
      | dK al =>
        refine ⟨_, h1, Hf, Hb1, ρ1, R1, fun d2 hd2 y Hb2 H2 g2 r2 => ?_, fun c hc Hb2 H2 g2 => ?_, fun z => ?_⟩
        · rw [hd2] at h
          simp only at h
          split at h
          · rename_i kk hkk
            split at h
            · rename_i hz
              have ho' := g2.h _ _ ho
              have R2 := R1.gw g2
              have hb2 : Hb2 p = none := g2.nw p h4 (by rw [ho]; exact True.intro)
              have al2 : PK X.K Hb2 _ ds := Paired.imp (fun _ _ q => ⟨q.1, dr_ex g2.b q.2⟩) al
              refine ⟨p, _, rfl, .inl ⟨_, kk, ho', r2.key hkk, by rw [pk_len al]; exact hz, rfl⟩, ?_⟩
              exact h σ Hb2 _ (R2.write q h1 (.dK (pk_put (dr_ex g2.b r1) al2))) ((b1.trans (g2.bw R1.ef)).trans (Bw.upd g2.bh hb2))
            · exact h.elim
          · exact h.elim
        · rw [hc] at h
          exact h σ Hb2 H2 (R1.gw g2) (b1.trans (g2.bw R1.ef))
        · rw [z] at h
          exact h.elim
    · exact h.elim
  · rw [hc] at h
    exact h σ Hb1 H1 R1 b1
  · rw [z] at h
    exact h.elim
end
/-! ### defs -/
def runIO (n : Nat) (m : SM) : List D → ER
  | [] => .bad
  | c :: ds => match m (.own c :: (ds.map Sl.dat ++ List.replicate n .un)) with
    | .nx ρ => (match (ρ[(0 : Nat)]? : Option Sl) with
      | some (.own c') => .ok (.tuple [.none, c'])
      | _ => .bad)
    | .rt d => .ok d
    | _ => .bad
theorem relE_io {K : PySem.W.Frag} {Hb H : Hp} {us : List V} {ds : List D} {c : D} {p : Addr} {N : List Str} {n : Nat} (e : Ex Hb H) (hb : Hb p = none) (ow : Ow K Hb H p c) (r : DrAll K Hb us ds) (hn : N.length = us.length + 1 + n) :
    RelE K (some (0, p)) (fun a => if a = p then none else H a) Hb H (L2.start N (.ref p :: us)) (.own c :: (ds.map Sl.dat ++ List.replicate n .un)) := by
  have l1 := drAll_len r
  have key : ∀ (i : Nat) s, (.own c :: (ds.map Sl.dat ++ List.replicate n .un))[i]? = some s → (i = 0 ∧ s = .own c) ∨ s = .un ∨ ∃ v d, (L2.start N (.ref p :: us))[i]? = some (some v) ∧ s = .dat d ∧ Dr K Hb v d := fun i s h => by
    cases i with
    | zero =>
      left
      simpa using h.symm
    | succ i =>
      right
      rw [List.getElem?_cons_succ] at h
      rcases Nat.lt_or_ge i (ds.map Sl.dat).length with hlt | hge
      · rw [List.getElem?_append_left hlt, List.getElem?_map, Option.map_eq_some_iff] at h
        obtain ⟨d, h1, h2⟩ := h
        obtain ⟨v, h3, h4⟩ := drAll_get' r h1
        refine .inr ⟨v, d, ?_, h2.symm, h4⟩
        have hlt' : i < us.length := by simpa [l1] using hlt
        unfold L2.start
        rw [List.getElem?_append_left (by simp; omega), List.getElem?_map, List.getElem?_cons_succ, h3]
        rfl
      · rw [List.getElem?_append_right hge] at h
        exact .inl (List.eq_of_mem_replicate (List.mem_of_getElem? h))
  have at0 : (L2.start N (.ref p :: us))[0]? = some (some (V.ref p)) := by
    unfold L2.start
    simp
  refine ⟨fun a o h => ?_, e, ?_, fun i d h => ?_, fun i d h => ?_, fun i d h => ?_, fun i j d f h ne h2 => ?_, fun i a z => ?_⟩
  · by_cases z : a = p
    · simp [z] at h
    · simpa [z] using h
  · unfold L2.start
    simp
    omega
  · rcases key i _ h with ⟨_, z⟩ | z | ⟨v, d', h1, z, h2⟩
    · cases z
    · cases z
    · cases z
      exact ⟨v, h1, h2⟩
  · rcases key i _ h with ⟨_, z⟩ | z | ⟨v, d', h1, z, h2⟩ <;> cases z
  · rcases key i _ h with ⟨rfl, z⟩ | z | ⟨v, d', h1, z, h2⟩
    · cases z
      exact ⟨p, at0, ow, by simp, hb⟩
    · cases z
    · cases z
  · rcases key i _ h with ⟨rfl, z⟩ | z | ⟨v, d', h1, z, h3⟩
    · rcases key j _ h2 with ⟨rfl, z⟩ | z | ⟨v, d', h1, z, h3⟩
      · exact absurd rfl ne
      · cases z
      · cases z
    · cases z
    · cases z
  · cases z
    exact at0
section
variable {P : Program} {w : World} {K : PySem.W.Frag} {mg : Str → Option Value} {base : Heap} {x qual : Str} {params : Arguments} {body : List Stmt} {scope : Scope} {dvs : List V} {kws : List (Str × V)} {f : Addr} {fd : FuncData}
theorem fn_io {N ps : List Str} {k n u : Nat} {m : SM} (F : FunD K x qual params body scope dvs kws f fd) (S : FnScope N ps scope) (hps : ps.length = u + 1) (hn : N.length = u + 1 + n)
    (hbody : ∀ (p : Addr) (cdv : Value) (A : Around) (outer : List PySem.Env) (s : Shared) (H : Hp) (E : XK), Room k (A.deeper (PyProof.Rows.envOfC qual scope s.heap.objs.size f cdv)) → DSs (cxOf (L2.CX P w) P w K mg base N qual scope f cdv A outer s H E) ⟨fun cls d _ H => E cls d H, some (0, p)⟩ (.io p) body m) :
    FnOk P w K mg base (L2.CX P w) (k + 1) f fd ps (SpIO K u (runIO n m)) := by
  refine F.ok S (fun vs H Q E h => ?_) (fun cdv A outer s H vs Q E hr h => ?_)
  · obtain ⟨Hb, p, us, c, ds, d, c', e, rfl, _, _, _, hu, _⟩ := h
    rw [hps, ← hu]
    rfl
  · obtain ⟨Hb, p, us, c, ds, d, c', e, rfl, hb, ow, r, hu, em, hQ⟩ := h
    refine ⟨_, hbody p cdv A outer s H E hr, _, Hb, _, relE_io e hb ow r (n := n) (by rw [hn, hu]), ?_⟩
    have gio : ∀ Hb' H', Ex (fun a => if a = p then none else H a) H' → Bw (fun a => if a = p then none else H a) Hb Hb' H' → Hb' p = none → Gio Hb H p Hb' H' := fun Hb' H' e1 b hp => ⟨fun a o z q => e1 a o (by simp [z, q]), b.b, b.bh, fun a z1 z2 => by
      by_cases z : a = p
      · rw [z]
        exact hp
      · exact b.nw a z1 (by simpa [z] using z2)⟩
    unfold runIO at em
    simp only at em
    cases q : m (.own c :: (ds.map Sl.dat ++ List.replicate n .un)) with
    | nx ρ =>
      rw [q] at em
      simp only at em
      intro σ' Hb' H' R b
      split at em
      · rename_i c2 q2
        cases em
        obtain ⟨d0, c0, z, r0, z1, z2, z3⟩ := rs_io (v := .non) (d := .none) R rfl q2 .non
        cases z
        exact hQ .non Hb' H' (gio Hb' H' R.ef b z2) .non z3
      · cases em
    | rt d2 =>
      rw [q] at em
      cases em
      intro v Hb' H' e1 b r1
      obtain ⟨d0, c0, z, r0, z1, z2, z3⟩ := r1
      cases z
      exact hQ v Hb' H' (gio Hb' H' e1 b z2) r0 z3
    | ex c ρ => rw [q] at em; cases em
    | bk ρ => rw [q] at em; cases em
    | ct ρ => rw [q] at em; cases em
    | bad => rw [q] at em; cases em
end
section
variable {P : Program} {w : World} {K : PySem.W.Frag} {mg : Str → Option Value} {base : Heap} {fa : List He.Fa} {fn : List He.DefD}
theorem has_io {x : Str} {d : He.DefD} (Z : Zed fa fn K mg) (i j : Nat) {N ps : List Str} {k n u : Nat} {m : SM} (hd : fn[i]? = some d) (hx : d.at_ = (x, none)) (hdf : d.dfl = []) (hkw : d.kwd = []) (hg : fa[j]? = some (.glo x)) (S : FnScope N ps d.scope) (hps : ps.length = u + 1) (hn : N.length = u + 1 + n)
    (hb : ∀ (kV doc pm : Value) (an : Option Addr) (cdv ct : Value) (us : List Value), us.length = ps.length → bindArgs (PySem.W.fnOf d.name d.qual d.params d.body d.scope .none kV doc pm an cdv ct) ⟨us, []⟩ = pure (ps.zip us))
    (hbody : ∀ (p f : Addr) (cdv : Value) (A : Around) (outer : List PySem.Env) (s : Shared) (H : Hp) (E : XK), Room k (cxOf (L2.CX P w) P w K mg base N d.qual d.scope f cdv A outer s H E).A → Takes (cxOf (L2.CX P w) P w K mg base N d.qual d.scope f cdv A outer s H E) (fun cls d _ H => E cls d H) →
      PassesOwn (model (cxOf (L2.CX P w) P w K mg base N d.qual d.scope f cdv A outer s H E).prog (cxOf (L2.CX P w) P w K mg base N d.qual d.scope f cdv A outer s H E).w) (cxOf (L2.CX P w) P w K mg base N d.qual d.scope f cdv A outer s H E).A (cxOf (L2.CX P w) P w K mg base N d.qual d.scope f cdv A outer s H E).env (cxOf (L2.CX P w) P w K mg base N d.qual d.scope f cdv A outer s H E).xe →
      DSs (cxOf (L2.CX P w) P w K mg base N d.qual d.scope f cdv A outer s H E) ⟨fun cls d _ H => E cls d H, some (0, p)⟩ (.io p) d.body m) :
    Has P w K mg base x (k + 1) ps (SpIO K u (runIO n m)) := by
  obtain ⟨fd, F⟩ := Z.says.def_ i hd
  have ea : He.fAd K d.at_ = He.ga K x := by rw [hx]; rfl
  rw [ea] at F
  have kp := F.kp
  have e1 : d.dvs K = [] := by
    unfold He.DefD.dvs
    rw [hdf]
    rfl
  rw [e1] at F
  refine ⟨⟨fd, fn_io F S hps hn (fun p cdv A outer s H E hr => hbody p _ cdv A outer s H E hr (takes_of rfl rfl rfl rfl) PassesOwn.leaving), F.bindsN hb, ?_⟩, kp, Z.glo j hg⟩
  obtain ⟨oc, od, _, _, _, _, _, _, _, osl, _, l, _⟩ := F.ex
  exact ⟨oc, od, osl, l⟩
end
end DL

/-! DL16: words for the plain parts: a body step by step. -/
namespace DL
open PySem L2 Evl
/-- a body hands back something of which Q holds -/
def Rt (o : Out) (Q : D → Prop) : Prop := ∃ d, o = .rt d ∧ Q d
/-- a body goes on with an environment of which N holds -/
def Nx (o : Out) (N : Env → Prop) : Prop := ∃ ρ, o = .nx ρ ∧ N ρ
section
variable {ρ ρ' : Env} {a b c : SM} {m : EM} {d : D} {Q : D → Prop} {N : Env → Prop} {mi : Env → AR} {g : GM} {body : SM} {ds : List D}
theorem rt_run {ks : List Kd} {n : Nat} {m : SM} {ds : List D} (h : Rt (m (mkEnv ks ds ++ List.replicate n .un)) Q) : ∃ d, runM ks n m ds = .ok d ∧ Q d := by
  obtain ⟨d, e, q⟩ := h
  exact ⟨d, by simp [runM, e], q⟩
theorem rt_run' {ks : List Kd} {n : Nat} {m : SM} {ds : List D} {d : D} (h : Rt (m (mkEnv ks ds ++ List.replicate n .un)) (· = d)) : runM ks n m ds = .ok d := by
  obtain ⟨d, e, rfl⟩ := h
  simp [runM, e]
theorem rt_seq (h : a ρ = .nx ρ') (k : Rt (b ρ') Q) : Rt (sSeq a b ρ) Q := by
  obtain ⟨d, e, q⟩ := k
  exact ⟨d, by rw [seq_nx h, e], q⟩
theorem rt_nx (h : Nx (a ρ) N) (k : ∀ ρ', N ρ' → Rt (b ρ') Q) : Rt (sSeq a b ρ) Q := by
  obtain ⟨ρ', e, n⟩ := h
  exact rt_seq e (k ρ' n)
theorem nx_seq (h : a ρ = .nx ρ') (k : Nx (b ρ') N) : Nx (sSeq a b ρ) N := by
  obtain ⟨d, e, q⟩ := k
  exact ⟨d, by rw [seq_nx h, e], q⟩
theorem nx_nx {M : Env → Prop} (h : Nx (a ρ) M) (k : ∀ ρ', M ρ' → Nx (b ρ') N) : Nx (sSeq a b ρ) N := by
  obtain ⟨ρ', e, n⟩ := h
  exact nx_seq e (k ρ' n)
theorem rt_left (h : Rt (a ρ) Q) : Rt (sSeq a b ρ) Q := by
  obtain ⟨d, e, q⟩ := h
  exact ⟨d, seq_rt e, q⟩
theorem rt_t (h : m ρ = .ok (.bool true)) (k : Rt (a ρ) Q) : Rt (sIf m a b ρ) Q := by rwa [if_t h]
theorem rt_f (h : m ρ = .ok (.bool false)) (k : Rt (b ρ) Q) : Rt (sIf m a b ρ) Q := by rwa [if_f h]
theorem nx_t (h : m ρ = .ok (.bool true)) (k : Nx (a ρ) N) : Nx (sIf m a b ρ) N := by rwa [if_t h]
theorem nx_f (h : m ρ = .ok (.bool false)) (k : Nx (b ρ) N) : Nx (sIf m a b ρ) N := by rwa [if_f h]
theorem rt_ret (h : m ρ = .ok d) (q : Q d) : Rt (sRet m ρ) Q := ⟨d, ret_ok h, q⟩
theorem rt_retO {i : Nat} (h : ρ[i]? = some (.own d)) (q : Q d) : Rt (sRetO i ρ) Q := ⟨d, by simp only [sRetO, h], q⟩
theorem nx_of (h : a ρ = .nx ρ') (n : N ρ') : Nx (a ρ) N := ⟨ρ', h, n⟩
/-- a loop, by what holds ahead of its i-th turn -/
theorem nx_for (P : Nat → Env → Prop) (hi : mi ρ = .ok ds) (h0 : P 0 ρ) (hs : ∀ (i : Nat) d ρ, ds[i]? = some d → P i ρ → ∃ ρ1, g d ρ = some ρ1 ∧ Nx (body ρ1) (P (i + 1))) : Nx (sFor mi g body ρ) (P ds.length) := by
  obtain ⟨ρ', h1, h2⟩ := for_inv P hi h0 (fun i d ρ hd hP => by
    obtain ⟨ρ1, e1, ρ2, e2, e3⟩ := hs i d ρ hd hP
    exact ⟨ρ1, ρ2, e1, .inl e2, e3⟩)
  exact ⟨ρ', h1, h2⟩
end
section
variable {c : EM} {body : SM} {ρ : Env}
theorem while_ok' (P : Nat → Env → Prop) {N : Env → Prop} : ∀ (n : Nat) (f : Nat) (ρ : Env), n < f → P n ρ → (∀ n ρ, P n ρ → (c ρ = .ok (.bool false) ∧ N ρ) ∨ (c ρ = .ok (.bool true) ∧ ∃ n', n' < n ∧ Nx (body ρ) (P n'))) → Nx (whileN c body f ρ) N
  | n, 0, ρ, hf, _, _ => by omega
  | n, f + 1, ρ, hf, hP, hs => by
    rcases hs n ρ hP with ⟨h1, h2⟩ | ⟨h1, n', h2, ρ2, h3, h4⟩
    · exact ⟨ρ, by simp only [whileN, h1], h2⟩
    · obtain ⟨ρ3, h5, h6⟩ := while_ok' P n' f ρ2 (by omega) h4 hs
      exact ⟨ρ3, by simp only [whileN, h1, h3, h5], h6⟩
theorem fuel_big {n : Nat} (h : n < 2 ^ 100) : n < FUEL := by
  unfold FUEL
  exact h
/-- a while, by a number that falls -/
theorem nx_while (P : Nat → Env → Prop) {N : Env → Prop} (n : Nat) (hn : n < 2 ^ 100) (h0 : P n ρ) (hs : ∀ n ρ, P n ρ → (c ρ = .ok (.bool false) ∧ N ρ) ∨ (c ρ = .ok (.bool true) ∧ ∃ n', n' < n ∧ Nx (body ρ) (P n'))) : Nx (sWhile c body ρ) N :=
  while_ok' P n FUEL ρ (fuel_big hn) h0 hs
end
/-! arithmetic, for simp with omega at the side -/
theorem dDiv_w {i j : Int} (h : 0 < j) (h2 : j < 10 ^ 300) : dDiv (.int i) (.int j) = .ok (.int (i / j)) := by
  have e : j.natAbs.log2 ≤ 1000 := log2_le (by
    have : (10 : Int) ^ 300 < 2 ^ 1000 := by decide
    omega)
  have c : (0 : Int) < j ∧ j.natAbs.log2 < 9000 := ⟨h, by omega⟩
  simp only [dDiv, c, and_self, if_true]
theorem dMul_w {i j : Int} (h1 : -10 ^ 300 < i) (h2 : i < 10 ^ 300) (h3 : -10 ^ 300 < j) (h4 : j < 10 ^ 300) : dMul (.int i) (.int j) = .ok (.int (i * j)) :=
  dMul_ok 1000 1000 (by
    have : (10 : Int) ^ 300 < 2 ^ 1000 := by decide
    omega) (by
    have : (10 : Int) ^ 300 < 2 ^ 1000 := by decide
    omega)
theorem bDivmod_w {i j : Int} (h : 0 < j) (h2 : j < 10 ^ 300) : bDivmod [.int i, .int j] = .ok (.tuple [.int (i / j), .int (i % j)]) := by
  have e : j.natAbs.log2 ≤ 1000 := log2_le (by
    have : (10 : Int) ^ 300 < 2 ^ 1000 := by decide
    omega)
  have c : (0 : Int) < j ∧ j.natAbs.log2 < 9000 := ⟨h, by omega⟩
  simp only [bDivmod, c, and_self, if_true]
theorem dIx_lg {ds : List D} {i : Int} (h0 : 0 ≤ i) (h : i < ds.length) : dIx (.list ds) (.int i) = .ok (ds.getD i.toNat .none) := by
  rw [dIx_l h0 h]
  simp [List.getD, show i.toNat < ds.length by omega]
theorem dIx_tg {ds : List D} {i : Int} (h0 : 0 ≤ i) (h : i < ds.length) : dIx (.tuple ds) (.int i) = .ok (ds.getD i.toNat .none) := by
  rw [dIx_t h0 h]
  simp [List.getD, show i.toNat < ds.length by omega]
theorem iR1_w {ρ : Env} {m : EM} {j : Int} (hb : m ρ = .ok (.int j)) (h1 : -1000000000 ≤ j) (h2 : j ≤ 1000000000) : iR1 m ρ = .ok (rangeD 0 j) := iR1_ok hb (inR_of h1 h2)
theorem iR2_w {ρ : Env} {ma mb : EM} {i j : Int} (ha : ma ρ = .ok (.int i)) (hb : mb ρ = .ok (.int j)) (h1 : -1000000000 ≤ i) (h2 : i ≤ 1000000000) (h3 : -1000000000 ≤ j) (h4 : j ≤ 1000000000) : iR2 ma mb ρ = .ok (rangeD i j) := iR2_ok ha hb (inR_of h1 h2) (inR_of h3 h4)
theorem sh_bools (bs : List Bool) : Sh 1 (.list (bs.map PyData.bool)) := sh_list (n := 0) fun d hd => by
  obtain ⟨b, _, rfl⟩ := List.mem_map.mp hd
  exact sh_bool _ _
theorem sh_b3 (a b c : Bool) : Sh 1 (.list [.bool a, .bool b, .bool c]) := sh_bools [a, b, c]
theorem list_last {α : Type} (xs : List α) (d : α) (h : 1 ≤ xs.length) : xs = xs.take (xs.length - 1) ++ [xs.getD (xs.length - 1) d] := by
  have hl : xs.length - 1 < xs.length := by omega
  have e := List.take_append_drop (xs.length - 1) xs
  conv => lhs; rw [← e]
  rw [List.drop_eq_getElem_cons hl, List.drop_of_length_le (by omega)]
  simp [List.getD, hl]
theorem dIx_lastG {ds : List D} (h : 1 ≤ ds.length) : dIx (.list ds) (.int (-1)) = .ok (ds.getD (ds.length - 1) .none) := by
  conv => lhs; rw [list_last ds .none h]
  rw [dIx_last]
theorem dIx_lastGT {ds : List D} (h : 1 ≤ ds.length) : dIx (.tuple ds) (.int (-1)) = .ok (ds.getD (ds.length - 1) .none) := by
  conv => lhs; rw [list_last ds .none h]
  rw [dIx_lastT]
/-- a comprehension with a test -/
theorem lcD_filt {α : Type} {g : GM} {mt me : EM} {ρ : Env} (h f : α → D) (t : α → Bool) : ∀ (xs : List α) (acc : List D), (∀ x ∈ xs, ∃ ρ1, g (h x) ρ = some ρ1 ∧ mt ρ1 = .ok (.bool (t x)) ∧ (t x = true → me ρ1 = .ok (f x))) → acc.length + xs.length ≤ sizeLine →
    lcD g mt me (xs.map h) acc ρ = .ok (.list (acc ++ (xs.filter t).map f))
  | [], acc, _, _ => by simp [lcD]
  | x :: xs, acc, hs, hl => by
    obtain ⟨ρ1, e1, e2, e3⟩ := hs x List.mem_cons_self
    have hl0 : acc.length < sizeLine := by
      simp only [List.length_cons] at hl
      omega
    cases ht : t x with
    | true =>
      have ih := lcD_filt h f t xs (acc ++ [f x]) (fun y hy => hs y (List.mem_cons_of_mem _ hy)) (by
        simp only [List.length_cons] at hl
        simp only [List.length_append, List.length_cons, List.length_nil]
        omega)
      simp only [List.map_cons, lcD, e1, e2, e3 ht, ht, hl0, if_true, ih]
      simp [ht]
    | false =>
      have ih := lcD_filt h f t xs acc (fun y hy => hs y (List.mem_cons_of_mem _ hy)) (by
        simp only [List.length_cons] at hl
        omega)
      simp only [List.map_cons, lcD, e1, e2, ht, ih]
      simp [ht]
theorem lc_filt {α : Type} {g : GM} {mt me : EM} {ρ : Env} {mi : Env → AR} {vs : List Nat} (h f : α → D) (t : α → Bool) {xs : List α} (hi : mi ρ = .ok (xs.map h)) (hs : ∀ x ∈ xs, ∃ ρ1, g (h x) (wipeD ρ vs) = some ρ1 ∧ mt ρ1 = .ok (.bool (t x)) ∧ (t x = true → me ρ1 = .ok (f x))) (hl : xs.length ≤ sizeLine) :
    eLc mi g mt me vs ρ = .ok (.list ((xs.filter t).map f)) := by
  simp only [eLc, hi]
  rw [lcD_filt h f t xs [] hs (by simpa using hl)]
  simp
theorem call1_ok {G : List D → ER} {ma : EM} {ρ : Env} {x : D} {r : ER} (ha : ma ρ = .ok x) (h : G [x] = r) : eCall G [ma] ρ = r := by rw [eCall_1, ha, bind_ok, h]
theorem call2_ok {G : List D → ER} {ma mb : EM} {ρ : Env} {x y : D} {r : ER} (ha : ma ρ = .ok x) (hb : mb ρ = .ok y) (h : G [x, y] = r) : eCall G [ma, mb] ρ = r := by rw [eCall_2, ha, bind_ok, hb, bind_ok, h]
theorem call3_ok {G : List D → ER} {ma mb mc : EM} {ρ : Env} {x y z : D} {r : ER} (ha : ma ρ = .ok x) (hb : mb ρ = .ok y) (hc : mc ρ = .ok z) (h : G [x, y, z] = r) : eCall G [ma, mb, mc] ρ = r := by rw [eCall_3, ha, bind_ok, hb, bind_ok, hc, bind_ok, h]
theorem call4_ok {G : List D → ER} {ma mb mc md : EM} {ρ : Env} {x y z w : D} {r : ER} (ha : ma ρ = .ok x) (hb : mb ρ = .ok y) (hc : mc ρ = .ok z) (hd : md ρ = .ok w) (h : G [x, y, z, w] = r) : eCall G [ma, mb, mc, md] ρ = r := by rw [eCall_4, ha, bind_ok, hb, bind_ok, hc, bind_ok, hd, bind_ok, h]
/-- goes on, or hands back -/
def Go (o : Out) (N : Env → Prop) (Q : D → Prop) : Prop := (∃ ρ, o = .nx ρ ∧ N ρ) ∨ ∃ d, o = .rt d ∧ Q d
theorem go_nx {o : Out} {N : Env → Prop} {Q : D → Prop} (h : Nx o N) : Go o N Q := .inl h
theorem go_rt {o : Out} {N : Env → Prop} {Q : D → Prop} (h : Rt o Q) : Go o N Q := .inr h
theorem go_seq {a b : SM} {ρ ρ' : Env} {N : Env → Prop} {Q : D → Prop} (h : a ρ = .nx ρ') (k : Go (b ρ') N Q) : Go (sSeq a b ρ) N Q := by
  unfold Go
  rw [seq_nx h]
  exact k
theorem go_go {a b : SM} {ρ : Env} {M N : Env → Prop} {Q : D → Prop} (h : Go (a ρ) M Q) (k : ∀ ρ', M ρ' → Go (b ρ') N Q) : Go (sSeq a b ρ) N Q := by
  rcases h with ⟨ρ', e, n⟩ | ⟨d, e, q⟩
  · exact go_seq e (k ρ' n)
  · exact .inr ⟨d, seq_rt e, q⟩
theorem rt_go {a b : SM} {ρ : Env} {M : Env → Prop} {Q : D → Prop} (h : Go (a ρ) M Q) (k : ∀ ρ', M ρ' → Rt (b ρ') Q) : Rt (sSeq a b ρ) Q := by
  rcases h with ⟨ρ', e, n⟩ | ⟨d, e, q⟩
  · exact rt_seq e (k ρ' n)
  · exact ⟨d, seq_rt e, q⟩
theorem go_t {m : EM} {a b : SM} {ρ : Env} {N : Env → Prop} {Q : D → Prop} (h : m ρ = .ok (.bool true)) (k : Go (a ρ) N Q) : Go (sIf m a b ρ) N Q := by rwa [if_t h]
theorem go_f {m : EM} {a b : SM} {ρ : Env} {N : Env → Prop} {Q : D → Prop} (h : m ρ = .ok (.bool false)) (k : Go (b ρ) N Q) : Go (sIf m a b ρ) N Q := by rwa [if_f h]
theorem go_while' {c : EM} {body : SM} (P : Nat → Env → Prop) {N : Env → Prop} {Q : D → Prop} : ∀ (n : Nat) (f : Nat) (ρ : Env), n < f → P n ρ → (∀ n ρ, P n ρ → (c ρ = .ok (.bool false) ∧ N ρ) ∨ (c ρ = .ok (.bool true) ∧ Go (body ρ) (fun ρ' => ∃ n', n' < n ∧ P n' ρ') Q)) → Go (whileN c body f ρ) N Q
  | n, 0, ρ, hf, _, _ => by omega
  | n, f + 1, ρ, hf, hP, hs => by
    rcases hs n ρ hP with ⟨h1, h2⟩ | ⟨h1, ⟨ρ2, h3, n', h2, h4⟩ | ⟨d, h3, h4⟩⟩
    · exact .inl ⟨ρ, by simp only [whileN, h1], h2⟩
    · have ih := go_while' P n' f ρ2 (by omega) h4 hs
      have e : whileN c body (f + 1) ρ = whileN c body f ρ2 := by simp only [whileN, h1, h3]
      unfold Go
      rw [e]
      exact ih
    · exact .inr ⟨d, by simp only [whileN, h1, h3], h4⟩
theorem go_while {c : EM} {body : SM} {ρ : Env} (P : Nat → Env → Prop) {N : Env → Prop} {Q : D → Prop} (n : Nat) (hn : n < 2 ^ 100) (h0 : P n ρ) (hs : ∀ n ρ, P n ρ → (c ρ = .ok (.bool false) ∧ N ρ) ∨ (c ρ = .ok (.bool true) ∧ Go (body ρ) (fun ρ' => ∃ n', n' < n ∧ P n' ρ') Q)) : Go (sWhile c body ρ) N Q :=
  go_while' P n FUEL ρ (fuel_big hn) h0 hs
end DL

/-! DL17: d.get(k) where k may be None; a chain of three comparisons. -/
namespace DL
open PySem PySem.Spec L2 Evl PyProof.Rows
section
variable {X : Cx} {pins : List (Addr × Obj)} {σ : L2.St} {H : Hp} {s : Shared} {a : Addr} {kvs : List (Key × V)} {A : Around} {E : Value → Shared → Prop}
theorem d_getNone {Q : Value → Shared → Prop} (I : Inv X pins σ H s) (e : Rd H a (.dK kvs)) (h : ∀ s', Inv X pins σ H s' → Q .none s') : wpAny (model X.prog X.w) A (call (.builtin "dict.get") [.ref a, .none]) Q E s := by
  obtain ⟨_, hd, vs, _, dd⟩ := dk_rd I.hok e
  obtain ⟨f, hm, hf⟩ := none_map dd
  refine call_meetsIn PySem.F.slot_dict_get dd.typeIs PySem.F.entry_dict_get (PySem.F.args_dict_get_2 _ _) (meets_dict_get (noneKind X.prog X.w) a (show (noneKind X.prog X.w).is none .none = true from rfl) hd) ⟨_, hm, ?_⟩
  rw [hf]
  exact h _ (I.tok _)
end
def tDGet1N (td ty : TE) : TE := fun σ H Q => td σ H fun x H1 => ∃ a, x = .ref a ∧ IsD H1 a ∧ ty σ H1 fun y H2 => (∃ o, DGet H2 a y o ∧ Q (o.getD .non) H2) ∨ ∃ kvs, y = .non ∧ Rd H2 a (.dK kvs) ∧ Q .non H2
section
variable {X : Cx} {o e f : Expr} {apos cpos : Pos} {td ty tx : TE}
theorem pe_dget1N (hu : X.A.units + 1 < cLine) (ho : PE X o td) (he : PE X e ty) (m : M1 X o "get" apos e cpos) : PE X (.Call (.Attribute o "get" apos) [e] [] cpos) (tDGet1N td ty) := by
  refine ⟨fun pins s σ H Q I h => ?_⟩
  refine wpAny_Call_method m.base m.few m.line PySem.F.plainAttrs_dict PySem.F.slot_dict_get PySem.F.type_dict_get (thn (ho.run pins s σ H _ I h) fun u s1 ⟨x, H1, I1, rx, a, ex, d, q1⟩ => ?_)
  subst ex
  obtain rfl : u = Value.ref a := rx
  obtain ⟨t1, t2, _⟩ := isD_at I1 d
  refine ⟨t1, t2, ?_⟩
  rw [m.trees]
  refine Calls.callWith_builtin rfl (Calls.evalArgs_plain (Calls.spliced_cons (thn (he.run pins s1 σ H1 _ I1 q1) fun iv s2 ⟨y, H2, I2, ry, q2⟩ => Calls.spliced_nil ?_)))
  rcases q2 with ⟨ov, g, q2⟩ | ⟨kvs, ey, g, q2⟩
  · exact d_get1 hu I2 g ry fun w' s3 I3 rw' => ⟨_, H2, I3, rw', q2⟩
  · subst ey
    obtain rfl : iv = Value.none := ry
    exact d_getNone I2 g fun s3 I3 => ⟨.non, H2, I3, rfl, q2⟩
end
/-- d.get(k), k perhaps None -/
def dGetN : D → D → ER
  | .dict _, .none => .ok .none
  | x, k => dGet1 x k
def eGetN (ma mb : EM) : EM := fun ρ => (ma ρ).bind fun x => match x with
  | .dict ds => if unm ds = true then (mb ρ).bind (dGetN (.dict ds)) else .bad
  | _ => .bad
section
variable {X : Cx} {W : WQ} {o e : Expr} {ma mb : EM} {apos cpos : Pos}
theorem de_dgetN (hu : X.A.units + 64 < cLine) (ha : DE X W .bor o ma) (hb : DE X W .bor e mb) (hm : M1 X o "get" apos e cpos := by exact ⟨rfl, rfl, rfl, rfl⟩) : DE X W .dat (.Call (.Attribute o "get" apos) [e] [] cpos) (eGetN ma mb) :=
  PE.imp (pe_dget1N (by omega) ha hb hm) fun σ H Q ⟨Hf, Hb, ρ, R, h1, h2, h3⟩ => by
  refine ⟨Hf, Hb, ρ, R, fun d hd v Hb1 H1 g1 r1 => ?_, fun c hc Hb1 H1 g1 => h2 c (by simp [eGetN, hc, ER.bind]) Hb1 H1 g1, fun z => h3 (by simp [eGetN, z, ER.bind])⟩
  cases d with
  | dict ds =>
    have hm : unm ds = true := by
      cases qm : unm ds with
      | true => rfl
      | false => exact absurd (by simp [eGetN, hd, qm, ER.bind]) h3
    obtain ⟨p, kvs, rfl, hd1, pk⟩ := Bo.dict g1.bh r1 hm
    refine ⟨p, rfl, isD_of hd1, Hf, Hb1, ρ, R.gw g1, fun d2 hd2 v2 Hb2 H2 g2 r2 => ?_, fun c hc Hb2 H2 g2 => h2 c (by simp [eGetN, hd, hm, hc, ER.bind]) Hb2 H2 (g1.trans g2), fun z => h3 (by simp [eGetN, hd, hm, z, ER.bind])⟩
    have e : eGetN ma mb ρ = dGetN (.dict ds) d2 := by simp [eGetN, hd, hm, hd2, ER.bind]
    rw [e] at h1 h3
    have old : dGetN (.dict ds) d2 = dGet1 (.dict ds) d2 → ∃ o, DGet H2 p v2 o ∧ Q (o.getD .non) H2 := fun ed => by
      rw [ed] at h1 h3
      cases hk : keyOf d2 with
      | none => exact absurd (by simp only [dGet1, hm, if_true, hk]) h3
      | some k =>
        have pk2 : PK X.K Hb2 kvs ds := Paired.imp (fun _ _ q => ⟨q.1, dr_ex g2.b q.2⟩) pk
        rcases pk_find (k := k) pk2 with ⟨z1, z2⟩ | ⟨v, d, z1, z2, z3⟩
        · exact ⟨none, .inl ⟨kvs, k, ex_rd g2.h hd1, r2.key hk, z1.symm⟩, h1 .none (by simp only [dGet1, hm, if_true, hk, z2]; rfl) .non Hb2 H2 (g1.trans g2) rs_non⟩
        · exact ⟨some v, .inl ⟨kvs, k, ex_rd g2.h hd1, r2.key hk, z1.symm⟩, h1 d (by simp only [dGet1, hm, if_true, hk, z2]; rfl) v Hb2 H2 (g1.trans g2) z3⟩
    cases d2 with
    | none => exact .inr ⟨kvs, r2.non, ex_rd g2.h hd1, h1 .none rfl .non Hb2 H2 (g1.trans g2) rs_non⟩
    | bool _ => exact .inl (old rfl)
    | int _ => exact .inl (old rfl)
    | str _ => exact .inl (old rfl)
    | list _ => exact .inl (old rfl)
    | tuple _ => exact .inl (old rfl)
    | dict _ => exact .inl (old rfl)
  | _ => exact absurd (by simp [eGetN, hd, ER.bind]) h3
end
/-! ### a <= b <= c <= d -/
def tChain3 (r r' r'' : R2) (ta tb tc td : TE) : TE := fun σ H Q => ta σ H fun x H1 => tb σ H1 fun y H2 => r x y H2 fun z H3 => ∃ k, z = .bl k ∧
  (if k = true then tc σ H3 fun w H4 => r' y w H4 fun z' H5 => ∃ k', z' = .bl k' ∧ (if k' = true then td σ H5 fun u H6 => r'' w u H6 Q else Q (.bl false) H5) else Q (.bl false) H3)
section
variable {X : Cx} {a b c d : Expr} {ta tb tc td : TE} {pos : Pos}
theorem pt_chain3 {op op' op'' : CmpOp} {r r' r'' : R2} (ho : OpR X (compareOp op) r) (ho' : OpR X (compareOp op') r') (ho'' : OpR X (compareOp op'') r'') (ha : PE X a ta) (hb : PE X b tb) (hc : PE X c tc) (hd : PE X d td)
    (hm : lastMarks [op, op', op''] [b, c, d] = false := by with_unfolding_all rfl) : PT X (.Compare a [op, op', op''] [b, c, d] pos) (tTest (tChain3 r r' r'' ta tb tc td)) := by
  refine ⟨fun pins s σ H Q I h => ?_⟩
  refine isTrue_chain (thn (ha.run pins s σ H _ I h) fun v s1 ⟨x, H1, I1, r1, q1⟩ => test_link (thn (hb.run pins s1 σ H1 _ I1 q1) fun u s2 ⟨y, H2, I2, r2, q2⟩ =>
    thn (ho pins s2 σ H2 x y v u _ I2 r1 r2 q2) fun dd s3 ⟨z, H3, I3, r3, k, e, q3⟩ => ?_)) hm
  subst e
  cases r3
  refine wpAny_truthy_bool ?_
  cases k with
  | false =>
    obtain ⟨k', e', q'⟩ := q3
    cases e'
    exact ite_ff ⟨H3, I3, q'⟩
  | true =>
    refine ite_tt (test_link (thn (hc.run pins s3 σ H3 _ I3 q3) fun w' s4 ⟨z', H4, I4, r4, q4⟩ => thn (ho' pins s4 σ H4 y z' u w' _ I4 r2 r4 q4) fun d5 s5 ⟨z5, H5, I5, r5, k5, e5, q5⟩ => ?_))
    subst e5
    cases r5
    refine wpAny_truthy_bool ?_
    cases k5 with
    | false =>
      obtain ⟨k', e', q'⟩ := q5
      cases e'
      exact ite_ff ⟨H5, I5, q'⟩
    | true =>
      refine ite_tt (test_last (thn (hd.run pins s5 σ H5 _ I5 q5) fun w6 s6 ⟨z6, H6, I6, r6, q6⟩ => thn (ho'' pins s6 σ H6 z' z6 w' w6 _ I6 r4 r6 q6) fun d7 s7 ⟨z7, H7, I7, r7, k7, e7, q7⟩ => ?_))
      subst e7
      cases r7
      exact wpAny_truthy_bool ⟨H7, I7, q7⟩
end
def eChain3 (g g' g'' : D → D → ER) (ma mb mc md : EM) : EM := fun ρ => (ma ρ).bind fun x => (mb ρ).bind fun y => (g x y).bind fun z => match z with
  | .bool true => (mc ρ).bind fun w => (g' y w).bind fun z' => (match z' with
    | .bool true => (md ρ).bind fun u => g'' w u
    | .bool false => .ok (.bool false)
    | _ => .bad)
  | .bool false => .ok (.bool false)
  | _ => .bad
section
variable {K : PySem.W.Frag} {W : WQ} {ma mb mc md : EM} {g g' g'' : D → D → ER}
theorem eof_chain3 (ng : NoEx2 g) (ng' : NoEx2 g') (ng'' : NoEx2 g'') {σ : L2.St} {H : Hp} {Q : VK} (h : eOf K W .dat (eChain3 g g' g'' ma mb mc md) σ H Q) : tChain3 (rOf K .dat g) (rOf K .dat g') (rOf K .dat g'') (eOf K W .bor ma) (eOf K W .bor mb) (eOf K W .bor mc) (eOf K W .bor md) σ H Q := by
  obtain ⟨Hf, Hb, ρ, R, h1, h2, h3⟩ := h
  refine ⟨Hf, Hb, ρ, R, fun d hd v Hb1 H1 g1 r1 => ?_, fun c hc Hb1 H1 g1 => h2 c (by simp [eChain3, hc, ER.bind]) Hb1 H1 g1, fun z => h3 (by simp [eChain3, z, ER.bind])⟩
  refine ⟨Hf, Hb1, ρ, R.gw g1, fun d2 hd2 v2 Hb2 H2 g2 r2 => ?_, fun c hc Hb2 H2 g2 => h2 c (by simp [eChain3, hd, hc, ER.bind]) Hb2 H2 (g1.trans g2), fun z => h3 (by simp [eChain3, hd, z, ER.bind])⟩
  cases q : g d d2 with
  | bad => exact absurd (by simp [eChain3, hd, hd2, q, ER.bind]) h3
  | ex c => exact absurd q (ng _ _ _)
  | ok z =>
    refine ⟨Hb2, d, d2, z, g2.bh, Bo.ex g2.b g2.h r1, r2, q, fun v3 Hb3 H3 g3 r3 => ?_⟩
    have gg : Gw Hb H Hb3 H3 := (g1.trans g2).trans g3
    cases z with
    | bool b =>
      have e1 : v3 = .bl b := Bo.bl (K := K) (Hb := Hb3) (H := H3) (.inl r3)
      refine ⟨b, e1, ?_⟩
      cases b with
      | false =>
        show Q (.bl false) H3
        exact h1 (.bool false) (by simp [eChain3, hd, hd2, q, ER.bind]) _ Hb3 H3 gg rs_bl
      | true =>
        show eOf K W .bor mc σ H3 fun w' H4 => rOf K .dat g' v2 w' H4 _
        have e : eChain3 g g' g'' ma mb mc md ρ = (mc ρ).bind fun w => (g' d2 w).bind fun z' => (match z' with
          | .bool true => (md ρ).bind fun u => g'' w u
          | .bool false => .ok (.bool false)
          | _ => .bad) := by simp only [eChain3, hd, hd2, q, ER.bind]
        rw [e] at h1 h2 h3
        refine ⟨Hf, Hb3, ρ, R.gw gg, fun d4 hd4 v4 Hb4 H4 g4 r4 => ?_, fun c hc Hb4 H4 g4 => h2 c (by simp [hc, ER.bind]) Hb4 H4 (gg.trans g4), fun z => h3 (by simp [z, ER.bind])⟩
        rw [hd4] at h1 h2 h3
        cases q4 : g' d2 d4 with
        | bad => exact absurd (by simp [q4, ER.bind]) h3
        | ex c => exact absurd q4 (ng' _ _ _)
        | ok z4 =>
          refine ⟨Hb4, d2, d4, z4, g4.bh, Bo.ex (g3.b.trans g4.b) (g3.h.trans g4.h) r2, r4, q4, fun v5 Hb5 H5 g5 r5 => ?_⟩
          have gg5 : Gw Hb H Hb5 H5 := (gg.trans g4).trans g5
          cases z4 with
          | bool b4 =>
            have e4 : v5 = .bl b4 := Bo.bl (K := K) (Hb := Hb5) (H := H5) (.inl r5)
            refine ⟨b4, e4, ?_⟩
            cases b4 with
            | false =>
              show Q (.bl false) H5
              exact h1 (.bool false) (by simp [q4, ER.bind]) _ Hb5 H5 gg5 rs_bl
            | true =>
              show eOf K W .bor md σ H5 fun w' H6 => rOf K .dat g'' v4 w' H6 Q
              have e6 : ((ER.ok d4).bind fun w => (g' d2 w).bind fun z' => (match z' with
                | .bool true => (md ρ).bind fun u => g'' w u
                | .bool false => .ok (.bool false)
                | _ => .bad)) = (md ρ).bind fun u => g'' d4 u := by simp only [q4, ER.bind]
              rw [e6] at h1 h2 h3
              refine ⟨Hf, Hb5, ρ, R.gw gg5, fun d6 hd6 v6 Hb6 H6 g6 r6 => ?_, fun c hc Hb6 H6 g6 => h2 c (by simp [hc, ER.bind]) Hb6 H6 (gg5.trans g6), fun z => h3 (by simp [z, ER.bind])⟩
              rw [hd6] at h1 h3
              cases q6 : g'' d4 d6 with
              | bad => exact absurd (by simp [q6, ER.bind]) h3
              | ex c => exact absurd q6 (ng'' _ _ _)
              | ok z6 => exact ⟨Hb6, d4, d6, z6, g6.bh, Bo.ex (g5.b.trans g6.b) (g5.h.trans g6.h) r4, r6, q6, fun v Hb7 H7 g7 r7 => h1 z6 (by simp [q6, ER.bind]) v Hb7 H7 ((gg5.trans g6).trans g7) r7⟩
          | _ => exact absurd (by simp [q4, ER.bind]) h3
    | _ => exact absurd (by simp [eChain3, hd, hd2, q, ER.bind]) h3
end
section
variable {X : Cx} {W : WQ} {a b c d : Expr} {ma mb mc md : EM} {g g' g'' : D → D → ER} {pos : Pos}
theorem dt_chain3 {op op' op'' : CmpOp} (ho : OpD X (compareOp op) .dat g) (ho' : OpD X (compareOp op') .dat g') (ho'' : OpD X (compareOp op'') .dat g'') (ng : NoEx2 g) (ng' : NoEx2 g') (ng'' : NoEx2 g'') (ha : DE X W .bor a ma) (hb : DE X W .bor b mb) (hc : DE X W .bor c mc) (hd : DE X W .bor d md)
    (hm : lastMarks [op, op', op''] [b, c, d] = false := by with_unfolding_all rfl) : DT X W (.Compare a [op, op', op''] [b, c, d] pos) (eChain3 g g' g'' ma mb mc md) := PT.imp (pt_chain3 ho ho' ho'' ha hb hc hd hm) fun σ H Q h => by
  obtain ⟨Hf, Hb, ρ, R, h1, h2, h3⟩ := tof_eof h
  exact eof_chain3 ng ng' ng'' ⟨Hf, Hb, ρ, R, fun d hd v Hb' H' g r => h1 d hd v Hb' H' g (.inl r), h2, h3⟩
end
/-! ### x[k], x a list, a tuple or a dict -/
theorem ix_dict {X : Cx} (hu : X.A.units + 1 < cLine) : IxR X (fun x y H Q => ∃ a v, x = .ref a ∧ DGet H a y (some v) ∧ Q v H) := by
  intro value slice pins s σ H x y v u Q I rx ry h hs
  obtain ⟨a, w, rfl, g, q⟩ := h
  obtain rfl : v = Value.ref a := rx
  have hT := dict_typeIs I g
  unfold subscriptTail
  refine wpAny_bind ?_
  rw [getitemInPython_of_ne hT.not_modules]
  refine wpAny_bind (wpAny_specialOf hT PySem.F.slot_dict_getitem.lookup ?_)
  have fin : wpAny (model X.prog X.w) X.A (subscripted slice false (.ref a) u) (fun r s₃ => wpAny (model X.prog X.w) X.A (letTemporaryGo value (.ref a) r >>= fun _ => pure r) (EP X pins σ Q) X.xe s₃) X.xe s := by
    rw [hs]
    exact wpAny_operating (wpAny_mono (d_getItem hu I g ry fun w' s3 I3 rw' => (⟨w, H, I3, rw', q⟩ : EP X pins σ Q w' s3)) (fun r s₃ h₃ => wpAny_bind (wpAny_letTemporaryGo (wpAny_pure h₃))) fun _ _ x => x)
  first
    | exact wpAny_pure (wpAny_bind fin)
    | exact wpAny_bind (wpAny_pure (wpAny_bind fin))
    | exact wpAny_bind fin
def dIxA : D → D → ER
  | .dict ds, k => dDGet (.dict ds) k
  | x, k => dIx x k
theorem ne_ixA : NoEx2 dIxA := fun x y c h => by
  cases x with
  | dict ds => exact ne_dget (.dict ds) y c h
  | none => exact ne_ix .none y c h
  | bool b => exact ne_ix (.bool b) y c h
  | int b => exact ne_ix (.int b) y c h
  | str b => exact ne_ix (.str b) y c h
  | list b => exact ne_ix (.list b) y c h
  | tuple b => exact ne_ix (.tuple b) y c h
theorem od_ixA {X : Cx} (hu : X.A.units + 64 < cLine) : IxR X (rOf X.K .dat dIxA) := by
  intro value slice pins s σ H x y v u Q I rx ry h hs
  obtain ⟨Hb, dx, dy, d, eb, bx, byy, hg, q⟩ := h
  have old : dIxA dx dy = dIx dx dy → wpAny (model X.prog X.w) X.A (subscriptTail value slice v u) (EP X pins σ Q) X.xe s := fun e => by
    rw [e] at hg
    exact od_ix value slice pins s σ H x y v u Q I rx ry ⟨Hb, dx, dy, d, eb, bx, byy, hg, q⟩ hs
  cases dx with
  | dict ds =>
    have hm : unm ds = true := by
      cases qm : unm ds with
      | true => rfl
      | false => simp [dIxA, dDGet, qm] at hg
    obtain ⟨p, kvs, rfl, hd, pk⟩ := bx.dict eb hm
    simp only [dIxA, dDGet, hm, if_true] at hg
    split at hg
    · rename_i k hk
      rcases pk_find (k := k) pk with ⟨z1, z2⟩ | ⟨w, d', z1, z2, z3⟩
      · rw [z2] at hg
        cases hg
      · rw [z2] at hg
        cases hg
        exact ix_dict (by omega) value slice pins s σ H _ y v u Q I rx ry ⟨p, w, rfl, .inl ⟨kvs, k, hd, byy.key hk, z1.symm⟩, q w Hb H (Gw.refl eb) z3⟩ hs
    · cases hg
  | none => exact old rfl
  | bool _ => exact old rfl
  | int _ => exact old rfl
  | str _ => exact old rfl
  | list _ => exact old rfl
  | tuple _ => exact old rfl
theorem de_ixA {X : Cx} {W : WQ} {a b : Expr} {ma mb : EM} {pos : Pos} (hu : X.A.units + 64 < cLine) (ha : DE X W .bor a ma) (hb : DE X W .bor b mb) (hs : PlainIx b := by exact fun _ _ => rfl) : DE X W .dat (.Subscript a b pos) (eBin dIxA ma mb) := PE.imp (pe_ix (od_ixA hu) ha hb hs) fun _ _ _ => eof_bin ne_ixA
/-! ### a, b = a list -/
def gTL (gs : List GM) : GM := fun d ρ => match d with
  | .list ds => gTs gs ds ρ
  | _ => none
theorem dg_tl {X : Cx} {W : WQ} {es : List Expr} {gs : List GM} {pos : Pos} {k : Nat} (h : DGs X W es gs) (hc : X.calm = true := by rfl) (hn : (assignEach es X.env).length = gs.length := by rfl) (hst : (assignEach es X.env).findIdx? (·.1) = none := by rfl) : DG X W (.Tuple es k pos) (gTL gs) :=
  PG.imp (pg_unl hc h hn hst) fun v σ H Q ⟨Hf, Hb, ρ, d, ρ', R, r, hg, q⟩ => by
    cases d <;> simp only [gTL] at hg <;> first | cases hg; done | skip
    obtain ⟨p, xs, e1, s1, a1⟩ := Bo.lst R.eb (.inl r)
    exact ⟨p, xs, e1, s1, by rw [drAll_len a1]; exact gTs_len (K := X.K) hg, Hf, Hb, ρ, _, ρ', R, a1, hg, q⟩
theorem gTL2_ap {i j : Nat} {x y : D} {ρ : Env} : gTL [gN i, gN j] (.list [x, y]) ρ = some ((ρ.set i (.dat x)).set j (.dat y)) := rfl
end DL

/-! DL18: reversed(list), min of a list, sorted ints. -/
namespace DL
open PySem PySem.Spec L2 Evl PyProof.Rows
def iRv (m : EM) : Env → AR := fun ρ => match m ρ with
  | .ok (.list ds) => .ok ds.reverse
  | .ok _ => .bad
  | .ex c => .ex c
  | .bad => .bad
theorem yl_rev {K : PySem.W.Frag} {Hb1 : Hp} {p : Addr} {xs : List V} {ds : List D} (h : SqL K Hb1 p xs) (a : DrAll K Hb1 xs ds) : Yl K Hb1 (Itv K p xs.length) ds.reverse where
  go := fun i H e hi => by
    have hl := drAll_len a
    rw [List.length_reverse] at hi
    exact ⟨by omega, xs, xs[xs.length - 1 - i]'(by omega), ex_l e h, by simp⟩
  stop := fun H e => by
    show xs.length ≤ ds.reverse.length
    rw [List.length_reverse, drAll_len a]
    exact Nat.le_refl _
  yld := fun i H x H' Hb e1 e2 hi y => by
    obtain ⟨rfl, y⟩ := y
    have hl := drAll_len a
    rw [List.length_reverse] at hi
    have hx := y xs (ex_l (e1.trans e2) h)
    obtain ⟨d, d1, d2⟩ := drAll_get a hx
    refine ⟨Hb, d, Gw.refl e2, ?_, dr_ex e1 d2⟩
    rw [List.getElem?_reverse hi, ← hl]
    exact d1
theorem di_rv {X : Cx} {W : WQ} {tg e : Expr} {m : EM} {p pos : Pos} (hm : X.mg "reversed" = none) (h : DE X W .dat e m) (hg : Gl X "reversed" := by rfl) (hs : starEach [e] X.env = [(false, eval e X.env)] := by rfl) : DI X W tg (.Call (.Name "reversed" p) [e] [] pos) (iRv m) :=
  PI.imp (pi_reversed hg hm (pa_cons h pa_nil hs) hs) fun σ H R ⟨Hf, Hb, ρ, Re, h1, h2, h3⟩ => by
  refine ⟨Hf, Hb, ρ, Re, fun d hd v Hb' H' g r => ?_, fun c hc => h2 c (by simp [iRv, hc]), fun z => h3 (by simp [iRv, z])⟩
  cases d with
  | list ds =>
    cases r with
    | lst s a => exact ⟨_, _, rfl, ex_l g.bh s, h1 _ (by simp [iRv, hd]) _ Hb' H' g (yl_rev s a)⟩
  | _ => exact absurd (by simp [iRv, hd]) h3
/-! ### min of a list -/
def minI (n : Int) (ns : List Int) : Int := ns.foldl min n
theorem minI_le : ∀ (ns : List Int) (n : Int), minI n ns ≤ n ∧ ∀ y ∈ ns, minI n ns ≤ y
  | [], n => ⟨Int.le_refl _, fun y h => by cases h⟩
  | m :: ns, n => by
    have ih := minI_le ns (min n m)
    show minI (min n m) ns ≤ n ∧ ∀ y ∈ m :: ns, minI (min n m) ns ≤ y
    refine ⟨by omega, fun y hy => ?_⟩
    rcases List.mem_cons.mp hy with h | h
    · omega
    · exact ih.2 y h
theorem minI_mem : ∀ (ns : List Int) (n : Int), minI n ns ∈ n :: ns
  | [], n => List.mem_singleton.mpr rfl
  | m :: ns, n => by
    have ih := minI_mem ns (min n m)
    show minI (min n m) ns ∈ n :: m :: ns
    rcases List.mem_cons.mp ih with h | h
    · rcases Int.le_total n m with z | z
      · rw [h, Int.min_eq_left z]
        exact List.mem_cons_self
      · rw [h, Int.min_eq_right z]
        exact List.mem_cons_of_mem _ List.mem_cons_self
    · exact List.mem_cons_of_mem _ (List.mem_cons_of_mem _ h)
def bMinL : List D → ER
  | [.list ds] => (match toInts ds with
    | some (n :: ns) => .ok (.int (minI n ns))
    | _ => .bad)
  | _ => .bad
theorem ne_minL : NoExL bMinL := fun ds c h => by
  unfold bMinL at h
  repeat' split at h
  all_goals cases h
theorem cd_minL {X : Cx} (hc : X.calm = true) : CallD X (.builtin "min") .dat bMinL := by
  intro pins s σ H vs us Q I r h
  obtain ⟨Hb, ks, ds, d, eb, ra, hg, q⟩ := h
  unfold bMinL at hg
  split at hg
  · split at hg
    · rename_i n ns hn
      cases hg
      obtain ⟨v, rfl, b1⟩ := ra1 ra
      obtain ⟨p, xs, e1, s1, a1⟩ := b1.lst eb
      rw [toInts_vals hn a1] at s1
      refine cr_min hc pins s σ H _ us Q I r ⟨p, n :: ns, by rw [e1], s1, by simp, fun m h1 h2 => ?_⟩
      have e2 : m = minI n ns := by
        have z1 := h2 _ (minI_mem ns n)
        have z2 := minI_le ns n
        rcases List.mem_cons.mp h1 with z | z
        · omega
        · have := z2.2 m z
          omega
      rw [e2]
      exact q _ Hb H (Gw.refl eb) rs_int
    · cases hg
  · cases hg
/-! ### sorted ints -/
def bSorted : List D → ER
  | [.list ds] => (match toInts ds with
    | some ns => .ok (.list ((srt ns).map PyData.int))
    | none => .bad)
  | _ => .bad
theorem ne_sorted : NoExL bSorted := fun ds c h => by
  unfold bSorted at h
  repeat' split at h
  all_goals cases h
theorem cd_sorted {X : Cx} : CallD X (.builtin "sorted") .new bSorted := by
  intro pins s σ H vs us Q I r h
  obtain ⟨Hb, ks, ds, d, eb, ra, hg, q⟩ := h
  unfold bSorted at hg
  split at hg
  · split at hg
    · rename_i ns hn
      cases hg
      obtain ⟨v, rfl, b1⟩ := ra1 ra
      obtain ⟨p, xs, e1, s1, a1⟩ := b1.lst eb
      rw [toInts_vals hn a1] at s1
      refine cr_sortedI pins s σ H _ us Q I r ⟨p, ns, by rw [e1], s1, fun ns' p' hp hs hn' => ?_⟩
      rw [srt_eq hp hs]
      have z := Gw.lstN eb hn' (drAll_intsV (K := X.K) (H := Hb) (srt ns))
      exact q _ _ _ z.1 z.2
    · cases hg
  · cases hg
/-! ### xs[k] = v -/
theorem ds_setL {X : Cx} {W : WQ} {rk : Kd} {pos : Pos} (i : Nat) {x : Str} {k v : Expr} {mk mv : EM} {p pos' : Pos} (hk : DE X W .bor k mk) (hv : DE X W .dat v mv) (hN : X.N[i]? = some x := by rfl) (hvis : Vis X.env.scope x := by first | exact Or.inl rfl | exact Or.inr (Or.inl rfl) | exact Or.inr (Or.inr rfl)) (hd : (x == ("__debug__" : Str)) = false := by decide)
    (hcd : (x == ("__classdict__" : Str)) = false := by decide) (hs : swapsWithSole [.Subscript (.Name x p) k pos'] v pos.line X.env = pure false := by rfl) (hw : swappedStores [.Subscript (.Name x p) k pos'] v X.env = pure none := by rfl) (h1 : (assignEach [.Subscript (.Name x p) k pos'] X.env).map (·.2) = [assign (.Subscript (.Name x p) k pos') X.env] := by rfl)
    (ha : ∀ v, assign (.Subscript (.Name x p) k pos') X.env v = (do
      let ov ← holding [v] (eval (.Name x p) X.env)
      let iv ← holding [v, ov] (eval k X.env)
      standAt pos'
      holding [v, ov, iv] (setItem ov iv v)
      release [v, ov, iv] []) := by intro _; rfl) :
    DS X W rk (.Assign [.Subscript (.Name x p) k pos'] v pos) (sSetL i mk mv) :=
  PS.imp (ps_asg hv (pg_sub (pe_var hN hvis hd hcd) hk set_list ha) hs hw h1) fun E σ H ⟨Hf, Hb, ρ, R, h⟩ => by
  unfold sSetL at h
  refine ⟨Hf, Hb, ρ, R, fun d hd v Hb1 H1 g1 r1 => ?_, fun c hc Hb1 H1 g1 => ?_, fun z => ?_⟩
  · rw [hd] at h
    simp only at h
    split at h
    · rename_i ds q
      have R1 := R.gw g1
      obtain ⟨p, h1, ⟨o, ho, hc⟩, h3, h4⟩ := R1.own i _ q
      cases hc with
      | lst al =>
        refine ⟨_, h1, Hf, Hb1, ρ, R1, fun d2 hd2 y Hb2 H2 g2 r2 => ?_, fun c hc Hb2 H2 g2 => ?_, fun z => ?_⟩
        · rw [hd2] at h
          cases d2 with
          | int kk =>
            simp only at h
            split at h
            · rename_i jj hj
              have ho' := g2.h _ _ ho
              have R2 := R1.gw g2
              have hb2 : Hb2 p = none := g2.nw p h4 (by rw [ho]; exact True.intro)
              refine ⟨p, _, kk, jj, rfl, r2.int, ho', by rw [drAll_len al]; exact hj, ?_⟩
              exact h σ Hb2 _ (R2.write q h1 (.lst (drAll_set jj (dr_ex g2.b r1) (drAll_ex g2.b al)))) (((g1.trans g2).bw R.ef).trans (Bw.upd g2.bh hb2))
            · exact h.elim
          | _ => exact h.elim
        · rw [hc] at h
          exact h σ Hb2 H2 (R.gw (g1.trans g2)) ((g1.trans g2).bw R.ef)
        · rw [z] at h
          exact h.elim
    · exact h.elim
  · rw [hc] at h
    exact h σ Hb1 H1 (R.gw g1) (g1.bw R.ef)
  · rw [z] at h
    exact h.elim
end DL

/-! DLT: dicts of one's own whose keys are tuples of ints and texts. -/
namespace DL
open PySem PySem.Spec L2 Evl PyProof.Rows
theorem keyD_ne {k : Key} (h : PyData.none = keyD k) : False := by cases k <;> cases h
def keysOf : List D → Option (List Key)
  | [] => some []
  | d :: ds => match keyOf d, keysOf ds with
    | some k, some ks => some (k :: ks)
    | _, _ => none
def tKey : D → Option (List Key)
  | .tuple ds => keysOf ds
  | _ => none
theorem keysOf_map : ∀ ks : List Key, keysOf (ks.map keyD) = some ks
  | [] => rfl
  | k :: ks => by simp [keysOf, keyOf_keyD, keysOf_map ks]
theorem tKey_map (ks : List Key) : tKey (.tuple (ks.map keyD)) = some ks := keysOf_map ks
def tFind (ds : List (D × D)) (k : List Key) : Option D := (ds.find? fun q => decide (tKey q.1 = some k)).map (·.2)
def tStore (ds : List (D × D)) (k : List Key) (v : D) : List (D × D) :=
  if (ds.any fun q => decide (tKey q.1 = some k)) = true then ds.map (fun q => if tKey q.1 = some k then (q.1, v) else q) else ds ++ [(.tuple (k.map keyD), v)]
abbrev PT (K : PySem.W.Frag) (Hb : Hp) : List (List Key × V) → List (D × D) → Prop := Paired (fun (p : List Key × V) (q : D × D) => q.1 = .tuple (p.1.map keyD) ∧ Dr K Hb p.2 q.2)
/-- the data of such a dict: a mark, and the entries -/
abbrev tD (ds : List (D × D)) : D := .dict ((.none, .none) :: ds)
section
variable {K : PySem.W.Frag} {Hb H : Hp}
theorem keysOf_vals : ∀ {ds : List D} {xs : List V} {ks : List Key}, DrAll K Hb xs ds → keysOf ds = some ks → xs = ks.map kV
  | [], _, _, .nil, e => by
    cases e
    rfl
  | d :: ds, _, ks, .cons a b, e => by
    simp only [keysOf] at e
    cases q : keyOf d with
    | none => rw [q] at e; cases e
    | some k =>
      cases q2 : keysOf ds with
      | none => rw [q, q2] at e; cases e
      | some ks2 =>
        rw [q, q2] at e
        cases e
        rw [keysOf_vals b q2, Bo.key (.inl a) q (H := Hb)]
        rfl
theorem Bo.tkey {v : V} {d : D} {k : List Key} (eb : Ex Hb H) (h : Bo K Hb H v d) (e : tKey d = some k) : ∃ b, v = .ref b ∧ H b = some (.tup (k.map kV)) := by
  cases d with
  | tuple ds =>
    rcases h with h | ⟨p, rfl, o, h2, h3⟩
    · cases h with
      | tup a al =>
        rw [keysOf_vals al e] at a
        exact ⟨_, rfl, eb _ _ a⟩
    · cases h3
  | _ => cases e
theorem pt_find {k : List Key} : ∀ {kvs : List (List Key × V)} {ds : List (D × D)}, PT K Hb kvs ds → (valV kvs k = none ∧ tFind ds k = none) ∨ ∃ v d, valV kvs k = some v ∧ tFind ds k = some d ∧ Dr K Hb v d
  | _, _, .nil => .inl ⟨rfl, rfl⟩
  | _, _, .cons (a := p) (b := q) (l₁ := kvs) (l₂ := ds) h r => by
    have e : tKey q.1 = some p.1 := by rw [h.1, tKey_map]
    by_cases z : p.1 = k
    · refine .inr ⟨p.2, q.2, valV_pos z, ?_, h.2⟩
      have e2 : tKey q.1 = some k := by rw [e, z]
      simp [tFind, List.find?_cons, e2]
    · have e2 : ¬ tKey q.1 = some k := by
        rw [e]
        exact fun w => z (Option.some.inj w)
      have e3 : tFind (q :: ds) k = tFind ds k := by simp [tFind, List.find?_cons, e2]
      rw [valV_neg z, e3]
      exact pt_find r
theorem pt_any {k : List Key} : ∀ {kvs : List (List Key × V)} {ds : List (D × D)}, PT K Hb kvs ds → (kvs.any fun kv => decide (kv.1 = k)) = ds.any fun q => decide (tKey q.1 = some k)
  | _, _, .nil => rfl
  | _, _, .cons (a := p) (b := q) h r => by
    have e : tKey q.1 = some p.1 := by rw [h.1, tKey_map]
    rw [List.any_cons, List.any_cons, pt_any r, e]
    congr 1
    simp
theorem pt_map {k : List Key} {v : V} {d : D} (hv : Dr K Hb v d) : ∀ {kvs : List (List Key × V)} {ds : List (D × D)}, PT K Hb kvs ds → PT K Hb (kvs.map fun kv => if kv.1 = k then (kv.1, v) else kv) (ds.map fun q => if tKey q.1 = some k then (q.1, d) else q)
  | _, _, .nil => .nil
  | _, _, .cons (a := p) (b := q) h r => by
    have e : tKey q.1 = some p.1 := by rw [h.1, tKey_map]
    refine .cons ?_ (pt_map hv r)
    by_cases z : p.1 = k
    · have e2 : tKey q.1 = some k := by rw [e, z]
      simp only [z, e2, if_true]
      rw [← z]
      exact ⟨h.1, hv⟩
    · have e2 : ¬ tKey q.1 = some k := by
        rw [e]
        exact fun w => z (Option.some.inj w)
      simp only [z, e2, if_false]
      exact h
theorem pt_put {k : List Key} {v : V} {d : D} (hv : Dr K Hb v d) {kvs : List (List Key × V)} {ds : List (D × D)} (h : PT K Hb kvs ds) : PT K Hb (putK kvs k v) (tStore ds k d) := by
  unfold putK tStore
  rw [pt_any h]
  split
  · exact pt_map hv h
  · exact paired_app h (.cons ⟨rfl, hv⟩ .nil)
theorem Bo.tdict {v : V} {ds : List (D × D)} (h : Bo K Hb H v (tD ds)) : ∃ p kvs, v = .ref p ∧ Rd H p (.dT kvs) ∧ PT K Hb kvs ds := by
  rcases h with h | ⟨p, rfl, o, h2, h3⟩
  · cases h
  · cases h3 with
    | dT a => exact ⟨p, _, rfl, .inl h2, a⟩
    | dK a =>
      cases a with
      | cons q r =>
        obtain ⟨q1, _⟩ := q
        exact (keyD_ne q1).elim
end
def dInT (neg : Bool) : D → D → ER
  | k, .dict ((.none, .none) :: ds) => (match tKey k with
    | some k => .ok (.bool ((tFind ds k).isSome != neg))
    | none => .bad)
  | _, _ => .bad
def dTGet : D → D → ER
  | .dict ((.none, .none) :: ds), k => (match tKey k with
    | some k => (match tFind ds k with
      | some v => .ok v
      | none => .bad)
    | none => .bad)
  | _, _ => .bad
theorem ne_inT (b : Bool) : NoEx2 (dInT b) := fun x y c h => by
  unfold dInT at h
  repeat' split at h
  all_goals cases h
theorem ne_tget : NoEx2 dTGet := fun x y c h => by
  unfold dTGet at h
  repeat' split at h
  all_goals cases h
section
variable {X : Cx} {W : WQ} {a b o e f : Expr} {ma mb mc : EM} {pos apos cpos : Pos}
theorem tfind_isSome {K : PySem.W.Frag} {Hb : Hp} {k : List Key} {kvs : List (List Key × V)} {ds : List (D × D)} (h : PT K Hb kvs ds) : (valV kvs k).isSome = (tFind ds k).isSome := by
  rcases pt_find (k := k) h with ⟨h1, h2⟩ | ⟨v, d, h1, h2, _⟩ <;> rw [h1, h2] <;> rfl
theorem od_inT (hu : X.A.units + 64 < cLine) : OpD X (compareOp .In) .dat (dInT false) := by
  intro pins s σ H x y v u Q I rx ry h
  obtain ⟨Hb, dx, dy, d, eb, bx, byy, hg, q⟩ := h
  unfold dInT at hg
  split at hg
  · rename_i ds
    split at hg
    · rename_i k hk
      cases hg
      obtain ⟨p, kvs, rfl, hd, pk⟩ := byy.tdict
      obtain ⟨b, rfl, hb⟩ := bx.tkey eb hk
      cases (show u = Value.ref p from ry)
      refine d_in (o := valV kvs k) (by omega) I (.inr ⟨kvs, k, b, hd, rfl, hb, rfl⟩) rx fun s' I' => ?_
      rw [tfind_isSome pk]
      exact ⟨.bl (tFind ds k).isSome, H, I', rfl, by
        have := q (.bl (tFind ds k).isSome) Hb H (Gw.refl eb)
        rw [Bool.bne_false] at this
        exact this rs_bl⟩
    · cases hg
  · cases hg
theorem od_notInT (hu : X.A.units + 64 < cLine) : OpD X (compareOp .NotIn) .dat (dInT true) := by
  intro pins s σ H x y v u Q I rx ry h
  obtain ⟨Hb, dx, dy, d, eb, bx, byy, hg, q⟩ := h
  unfold dInT at hg
  split at hg
  · rename_i ds
    split at hg
    · rename_i k hk
      cases hg
      obtain ⟨p, kvs, rfl, hd, pk⟩ := byy.tdict
      obtain ⟨b, rfl, hb⟩ := bx.tkey eb hk
      cases (show u = Value.ref p from ry)
      refine d_notIn (o := valV kvs k) (by omega) I (.inr ⟨kvs, k, b, hd, rfl, hb, rfl⟩) rx fun s' I' => ?_
      rw [tfind_isSome pk]
      exact ⟨.bl (!(tFind ds k).isSome), H, I', rfl, by
        have := q (.bl (!(tFind ds k).isSome)) Hb H (Gw.refl eb)
        rw [Bool.bne_true] at this
        exact this rs_bl⟩
    · cases hg
  · cases hg
/-- d[k] -/
theorem od_tget (hu : X.A.units + 64 < cLine) : IxR X (rOf X.K .dat dTGet) := by
  intro value slice pins s σ H x y v u Q I rx ry h hs
  obtain ⟨Hb, dx, dy, d, eb, bx, byy, hg, q⟩ := h
  unfold dTGet at hg
  split at hg
  · rename_i ds
    split at hg
    · rename_i k hk
      obtain ⟨p, kvs, rfl, hd, pk⟩ := bx.tdict
      obtain ⟨b, rfl, hb⟩ := byy.tkey eb hk
      rcases pt_find (k := k) pk with ⟨z1, z2⟩ | ⟨w, d', z1, z2, z3⟩
      · rw [z2] at hg
        cases hg
      · rw [z2] at hg
        cases hg
        exact ix_dict (by omega) value slice pins s σ H _ _ v u Q I rx ry ⟨p, w, rfl, .inr ⟨kvs, k, b, hd, rfl, hb, z1.symm⟩, q w Hb H (Gw.refl eb) z3⟩ hs
    · cases hg
  · cases hg
theorem de_tget (hu : X.A.units + 64 < cLine) (ha : DE X W .bor a ma) (hb : DE X W .bor b mb) (hs : PlainIx b := by exact fun _ _ => rfl) : DE X W .dat (.Subscript a b pos) (eBin dTGet ma mb) := PE.imp (pe_ix (od_tget hu) ha hb hs) fun _ _ _ => eof_bin ne_tget
theorem de_tnew : DE X W .new (.Dict [] [] pos) (eC (tD [])) := PE.imp pe_dnewT fun σ H Q ⟨Hf, Hb, ρ, R, h1, h2, h3⟩ => fun p hp =>
  h1 (tD []) rfl _ _ _ (Gw.new R.eb hp) ⟨p, rfl, hp, fresh_back R.eb hp, _, upd_same, .dT .nil⟩
/-- x[k] = v, by a call that changes its argument, or not -/
def sPutTX (i : Nat) (mk : EM) (mv : XM) : SM := fun ρ => match mv ρ with
  | .ok d ρ => (match ρ[i]? with
    | some (.own (.dict ((.none, .none) :: ds))) => (match mk ρ with
      | .ok k => (match tKey k with
        | some k => if ds.length < sizeLine then .nx (ρ.set i (.own (tD (tStore ds k d)))) else .bad
        | none => .bad)
      | .ex c => .ex c ρ
      | .bad => .bad)
    | _ => .bad)
  | .ex c ρ => .ex c ρ
  | .bad => .bad
theorem pt_len {K : PySem.W.Frag} {Hb : Hp} {kvs : List (List Key × V)} {ds : List (D × D)} (h : PT K Hb kvs ds) : kvs.length = ds.length := Paired.length h
theorem ds_putTX {rk : Kd} (i : Nat) {x : Str} {k v : Expr} {mk : EM} {mv : XM} {p pos' : Pos} (hu : X.A.units + 64 < cLine) (hk : DE X W .bor k mk) (hv : DX X W v mv) (hN : X.N[i]? = some x := by rfl) (hvis : Vis X.env.scope x := by first | exact Or.inl rfl | exact Or.inr (Or.inl rfl) | exact Or.inr (Or.inr rfl)) (hd : (x == ("__debug__" : Str)) = false := by decide)
    (hcd : (x == ("__classdict__" : Str)) = false := by decide) (hs : swapsWith v (some (.Subscript (.Name x p) k pos')) pos.line X.env = pure false := by rfl) : DS X W rk (.Assign [.Subscript (.Name x p) k pos'] v pos) (sPutTX i mk mv) :=
  PS.imp (ps_dput (by omega) (pe_var hN hvis hd hcd) hk hv hs) fun E σ H ⟨Hf, Hb, ρ, R, h⟩ => by
  unfold sPutTX at h
  refine ⟨Hf, Hb, ρ, R, fun d ρ1 hd v Hb1 H1 R1 b1 r1 => ?_, fun c ρ1 hc Hb1 H1 R1 b1 => ?_, fun z => ?_⟩
  · rw [hd] at h
    simp only at h
    split at h
    · rename_i ds q
      obtain ⟨p, h1, ow, h3, h4⟩ := R1.own i _ q
      obtain ⟨p', kvs', ep, rd, al⟩ := Bo.tdict (K := X.K) (Hb := Hb1) (H := H1) (.inr ⟨p, rfl, ow⟩)
      cases ep
      obtain ⟨o, ho, hc⟩ := ow
      have ho2 : ∃ kvs, o = .dT kvs ∧ PT X.K Hb1 kvs ds := by
        cases hc with
        | dT a => exact ⟨_, rfl, a⟩
        | dK a =>
          cases a with
          | cons q r =>
            obtain ⟨q1, _⟩ := q
            exact (keyD_ne q1).elim
      obtain ⟨kvs, rfl, al⟩ := ho2
      refine ⟨_, h1, Hf, Hb1, ρ1, R1, fun d2 hd2 y Hb2 H2 g2 r2 => ?_, fun c hc Hb2 H2 g2 => ?_, fun z => ?_⟩
      · rw [hd2] at h
        simp only at h
        split at h
        · rename_i kk hkk
          split at h
          · rename_i hz
            have ho' := g2.h _ _ ho
            have R2 := R1.gw g2
            have hb2 : Hb2 p = none := g2.nw p h4 (by rw [ho]; exact True.intro)
            have al2 : PT X.K Hb2 kvs ds := Paired.imp (fun _ _ q => ⟨q.1, dr_ex g2.b q.2⟩) al
            obtain ⟨b, rfl, hb⟩ := r2.tkey g2.bh hkk
            refine ⟨p, _, rfl, .inr ⟨kvs, kk, b, ho', rfl, hb, by rw [pt_len al]; exact hz, rfl⟩, ?_⟩
            exact h σ Hb2 _ (R2.write q h1 (.dT (pt_put (dr_ex g2.b r1) al2))) ((b1.trans (g2.bw R1.ef)).trans (Bw.upd g2.bh hb2))
          · exact h.elim
        · exact h.elim
      · rw [hc] at h
        exact h σ Hb2 H2 (R1.gw g2) (b1.trans (g2.bw R1.ef))
      · rw [z] at h
        exact h.elim
    · exact h.elim
  · rw [hc] at h
    exact h σ Hb1 H1 R1 b1
  · rw [z] at h
    exact h.elim
/-- a plain expression as one that may change things -/
def xE (m : EM) : XM := fun ρ => match m ρ with
  | .ok d => .ok d ρ
  | .ex c => .ex c ρ
  | .bad => .bad
theorem dx_e {m : EM} (h : DE X W .dat e m) : DX X W e (xE m) := PE.imp h fun σ H Q ⟨Hf, Hb, ρ, R, h1, h2, h3⟩ => by
  refine ⟨Hf, Hb, ρ, R, fun d hd v Hb' H' g r => h1 d ρ (by simp [xE, hd]) v Hb' H' (R.gw g) (g.bw R.ef) r, fun c hc Hb' H' g => h2 c ρ (by simp [xE, hc]) Hb' H' (R.gw g) (g.bw R.ef), fun z => h3 (by simp [xE, z])⟩
end
end DL

/-! DLZ: zip of two lists. -/
namespace DL
open PySem L2 Evl
/-- the data that zip yields -/
def zipD (ds es : List D) : List D := ds.zipWith (fun d e => PyData.tuple [d, e]) es
theorem zipD_len (ds es : List D) : (zipD ds es).length = min ds.length es.length := by simp [zipD]
theorem zipD_get {ds es : List D} {i : Nat} {d e : D} (h : ds[i]? = some d) (h2 : es[i]? = some e) : (zipD ds es)[i]? = some (.tuple [d, e]) := by
  simp [zipD, List.getElem?_zipWith, h, h2]
theorem yl_zip {K : PySem.W.Frag} {Hb1 : Hp} {p q : Addr} {xs ys : List V} {ds es : List D} (h : SqL K Hb1 p xs) (a : DrAll K Hb1 xs ds) (h2 : SqL K Hb1 q ys) (a2 : DrAll K Hb1 ys es) : Yl K Hb1 (Itz K p q) (zipD ds es) where
  go := fun i H e hi => by
    rw [zipD_len] at hi
    have hl := drAll_len a
    have hl2 := drAll_len a2
    exact ⟨xs, ys, xs[i]'(by omega), ys[i]'(by omega), ex_l e h, ex_l e h2, by simp, by simp⟩
  stop := fun H e => ⟨xs, ys, ex_l e h, ex_l e h2, by
    have hl := drAll_len a
    have hl2 := drAll_len a2
    rw [zipD_len]
    omega⟩
  yld := fun i H x H' Hb e1 e2 hi ⟨T, u, v, ev, hT, eH, hu, hv⟩ => by
    subst ev eH
    obtain ⟨d, d1, d2⟩ := drAll_get a (hu xs (ex_l (e1.trans e2) h))
    obtain ⟨d', d1', d2'⟩ := drAll_get a2 (hv ys (ex_l (e1.trans e2) h2))
    have z := Gw.tup (K := K) (xs := [u, v]) e2 hT (.cons (dr_ex e1 d2) (.cons (dr_ex e1 d2') .nil))
    exact ⟨_, _, z.1, zipD_get d1 d1', z.2⟩
def iZ (ma mb : EM) : Env → AR := fun ρ => match evA [ma, mb] ρ with
  | .ok [.list ds, .list es] => .ok (zipD ds es)
  | .ok _ => .bad
  | .ex c => .ex c
  | .bad => .bad
theorem di_z {X : Cx} {W : WQ} {a b : Expr} {ma mb : EM} {p pos tpos : Pos} {elts : List Expr} {kk : Nat} (hm : X.mg "zip" = none) (h : DA X W [.dat, .dat] [a, b] [ma, mb]) (hg : Gl X "zip" := by rfl) (hs : starEach [a, b] X.env = (false, eval a X.env) :: starEach [b] X.env := by rfl) (hpl : (backTo pos (starEach [b] X.env)).any (·.1) = false := by rfl) :
    DI X W (.Tuple elts kk tpos) (.Call (.Name "zip" p) [a, b] [] pos) (iZ ma mb) := PI.imp (pi_zip hg hm h hs hpl) fun σ H R ⟨Hf, Hb, ρ, Re, h1, h2, h3⟩ => by
  refine ⟨Hf, Hb, ρ, Re, fun ds hd vs Hb' H' g r => ?_, fun c hc => h2 c (by simp [iZ, hc]), fun z => h3 (by simp [iZ, z])⟩
  cases r with
  | cons r1 r2 =>
    cases r2 with
    | cons r2 r3 =>
      cases r3
      rename_i v1 d1 v2 d2
      cases d1 with
      | list ds =>
        cases d2 with
        | list es =>
          cases r1 with
          | lst s a =>
            cases r2 with
            | lst s' a' => exact ⟨_, _, _, _, rfl, ex_l g.bh s, ex_l g.bh s', h1 _ (by simp only [iZ, hd]) _ Hb' H' g (yl_zip s a s' a')⟩
        | _ => exact absurd (by simp [iZ, hd]) h3
      | _ => exact absurd (by simp [iZ, hd]) h3
theorem iZ_ok {ma mb : EM} {ρ : Env} {ds es : List D} (ha : ma ρ = .ok (.list ds)) (hb : mb ρ = .ok (.list es)) : iZ ma mb ρ = .ok (zipD ds es) := by
  simp only [iZ, evA, ha, hb]
end DL

/-! DLF: a def whose last parameter has a default, and calls of it: all written, the last left out, the last by its name. -/
namespace DL
open PySem L2 Evl
/-- x is a def with a whole number as its last parameter's default -/
structure HasF (P : Program) (w : World) (K : PySem.W.Frag) (mg : Str → Option Value) (base : Heap) (x : Str) (k : Nat) (ps : List Str) (sp : Sp) (i : Int) (n : Nat) (kw : Str) : Prop where
  ex : ∃ fd, FnOk P w K mg base (L2.CX P w) k (He.ga K x) fd ps sp ∧ Binds K fd ps [] ∧ (∃ ds, Vals [V.int i] ds ∧ Binds K fd ps ds) ∧ KBn K fd ps n [kw] (fun us ws => us ++ ws) (fun vs zs => vs ++ zs) ∧ ∃ oc od osl, K.lookup (He.ga K x) = some ⟨oc, od, .func fd, osl⟩
  kp : PySem.W.keepIn K (.ref (He.ga K x)) = true
  gl : mg x = some (.ref (He.ga K x))
theorem HasF.has {P : Program} {w : World} {K : PySem.W.Frag} {mg : Str → Option Value} {base : Heap} {x : Str} {k : Nat} {ps : List Str} {sp : Sp} {i : Int} {n : Nat} {kw : Str} (h : HasF P w K mg base x k ps sp i n kw) : Has P w K mg base x k ps sp := by
  obtain ⟨fd, a, b, _, _, c⟩ := h.ex
  exact ⟨⟨fd, a, b, c⟩, h.kp, h.gl⟩
section
variable {P : Program} {w : World} {K : PySem.W.Frag} {mg : Str → Option Value} {base : Heap} {fa : List He.Fa} {fn : List He.DefD}
theorem hasF_of {x : Str} {d : He.DefD} (Z : Zed fa fn K mg) (i j : Nat) {N ps : List Str} {k n : Nat} {ks : List Kd} {rk : Kd} {m : SM} {dv : Int} {kw : Str} {u : Nat} (hd : fn[i]? = some d) (hx : d.at_ = (x, none)) (hdf : d.dfl = [.int dv]) (hkw : d.kwd = []) (hg : fa[j]? = some (.glo x)) (S : FnScope N ps d.scope) (hps : ps.length = ks.length) (hn : N.length = ks.length + n) (hrk : rk = .dat ∨ ∀ ρ ρ', m ρ ≠ .nx ρ') (hu : ps.length = u + 1)
    (hb : ∀ (T : Addr) (kV doc pm : Value) (an : Option Addr) (cdv ct : Value) (us its : List Value), us.length = u + 1 → its.length = 1 → ∃ k, bindArgs (PySem.W.fnOf d.name d.qual d.params d.body d.scope (.ref T) kV doc pm an cdv ct) ⟨us, []⟩ = seqItems? (.ref T) >>= k ∧ k (some its.toArray) = pure (ps.zip (us ++ its.drop 1)))
    (hb2 : ∀ (T : Addr) (kV doc pm : Value) (an : Option Addr) (cdv ct : Value) (us its : List Value), us.length = u → its.length = 1 → ∃ k, bindArgs (PySem.W.fnOf d.name d.qual d.params d.body d.scope (.ref T) kV doc pm an cdv ct) ⟨us, []⟩ = seqItems? (.ref T) >>= k ∧ k (some its.toArray) = pure (ps.zip (us ++ its.drop 0)))
    (hb3 : ∀ (T : Addr) (kV doc pm : Value) (an : Option Addr) (cdv ct : Value) (us its ws : List Value), us.length = u → its.length = 1 → ws.length = 1 → ∃ k, bindArgs (PySem.W.fnOf d.name d.qual d.params d.body d.scope (.ref T) kV doc pm an cdv ct) ⟨us, [kw].zip ws⟩ = seqItems? (.ref T) >>= k ∧ k (some its.toArray) = pure (ps.zip (us ++ ws)))
    (hbody : ∀ (f : Addr) (cdv : Value) (A : Around) (outer : List PySem.Env) (s : Shared) (H : Hp) (E : XK), Room k (cxOf (L2.CX P w) P w K mg base N d.qual d.scope f cdv A outer s H E).A → Takes (cxOf (L2.CX P w) P w K mg base N d.qual d.scope f cdv A outer s H E) (fun cls d _ H => E cls d H) →
      PassesOwn (model (cxOf (L2.CX P w) P w K mg base N d.qual d.scope f cdv A outer s H E).prog (cxOf (L2.CX P w) P w K mg base N d.qual d.scope f cdv A outer s H E).w) (cxOf (L2.CX P w) P w K mg base N d.qual d.scope f cdv A outer s H E).A (cxOf (L2.CX P w) P w K mg base N d.qual d.scope f cdv A outer s H E).env (cxOf (L2.CX P w) P w K mg base N d.qual d.scope f cdv A outer s H E).xe →
      DSs (cxOf (L2.CX P w) P w K mg base N d.qual d.scope f cdv A outer s H E) ⟨fun cls d _ H => E cls d H, none⟩ rk d.body m) :
    HasF P w K mg base x (k + 1) ps (SpM K ks rk (runM ks n m)) dv u kw := by
  obtain ⟨fd, F⟩ := Z.says.def_ i hd
  have ea : He.fAd K d.at_ = He.ga K x := by rw [hx]; rfl
  rw [ea] at F
  have kp := F.kp
  have e1 : d.dvs K = [V.int dv] := by
    unfold He.DefD.dvs
    rw [hdf]
    rfl
  rw [e1] at F
  refine ⟨⟨fd, fn_ok F S hps hn hrk (fun cdv A outer s H E hr => hbody _ cdv A outer s H E hr (takes_of rfl rfl rfl rfl) PassesOwn.leaving), ?_, F.binds1 u 0 (by simp) (by simp; omega) hb2, ?_, ?_⟩, kp, Z.glo j hg⟩
  · obtain ⟨ds, h1, h2⟩ := F.binds1 (u + 1) 1 (by simp) (by simp; omega) hb
    cases h1
    exact h2
  · obtain ⟨oc, od, dV, kV, doc, pm, an, cdv, ct, osl, rfl, lk, hcd, hD, hK⟩ := F.ex
    rcases hD with ⟨e, _⟩ | ⟨_, T, o, its, m, rfl, lT, oT, rT⟩
    · cases e
    · refine ⟨fun s us ws X l1 l2 => ?_, fun r1 r2 => r1.append r2⟩
      obtain ⟨k, e1, e2⟩ := hb3 T kV doc pm an cdv ct us its ws l1 rT.length.symm l2
      refine BindsTo.of_looks fun M => ?_
      rw [e1]
      exact looks_items X lT oT (.of_pure e2)
  · obtain ⟨oc, od, _, _, _, _, _, _, _, osl, _, l, _⟩ := F.ex
    exact ⟨oc, od, osl, l⟩
end
theorem RaAll.snoc {K : PySem.W.Frag} {Hb H : Hp} {kd : Kd} {v : V} {d : D} (h : Ra K kd Hb H v d) : ∀ {ks : List Kd} {vs : List V} {ds : List D}, RaAll K Hb H ks vs ds → RaAll K Hb H (ks ++ [kd]) (vs ++ [v]) (ds ++ [d])
  | _, _, _, .nil => .cons h .nil
  | _, _, _, .cons a b => .cons a (RaAll.snoc h b)
theorem RaAll.ex {K : PySem.W.Frag} {Hb H Hb' H' : Hp} (eb : Ex Hb Hb') (e : Ex H H') : ∀ {ks : List Kd} {vs : List V} {ds : List D}, RaAll K Hb H ks vs ds → RaAll K Hb' H' ks vs ds
  | _, _, _, .nil => .nil
  | _, _, _, .cons a b => .cons (a.ex eb e) (RaAll.ex eb e b)
theorem evA_snoc (m : EM) (ρ : Env) : ∀ ms : List EM, evA (ms ++ [m]) ρ = (match evA ms ρ with
  | .ok ds => (match m ρ with
    | .ok d => .ok (ds ++ [d])
    | .ex c => .ex c
    | .bad => .bad)
  | .ex c => .ex c
  | .bad => .bad)
  | [] => by cases h : m ρ <;> simp [evA, h]
  | n :: ms => by
    simp only [List.cons_append, evA]
    cases n ρ with
    | ok d =>
      simp only [evA_snoc m ρ ms]
      cases evA ms ρ with
      | ok ds => cases m ρ <;> rfl
      | ex c => rfl
      | bad => rfl
    | ex c => rfl
    | bad => rfl
section
variable {X : Cx} {W : WQ} {rk : Kd} {ks : List Kd} {x : Str} {p pos : Pos} {e : Expr} {es : List Expr} {ms : List EM} {g : List D → ER} {k j n : Nat} {ps : List Str} {i : Int} {kw : Str}
/-- the last one left out -/
theorem de_fnD (h : HasF X.prog X.w X.K X.mg X.base x k ps (SpM X.K (ks ++ [.dat]) rk g) i n kw) (hr : Room j X.A) (tk : Takes X W.w) (ha : DA X W ks (e :: es) ms) (hj : k ≤ j := by decide) (hg : Gl X x := by rfl) (hdb : (x == ("__debug__" : Str)) = false := by decide)
    (he : starEach (e :: es) X.env = (false, eval e X.env) :: starEach es X.env := by rfl) (hpl : (backTo pos (starEach es X.env)).any (·.1) = false := by rfl) : DE X W rk (.Call (.Name x p) (e :: es) [] pos) (eCall g (ms ++ [eC (.int i)])) := by
  obtain ⟨fd, F, B, ⟨dl, v1, Bd⟩, _, _⟩ := h.ex
  refine PE.imp (pe_callSD F (hr.mono hj) hg h.gl h.kp Bd v1 (fun σ => passAt tk σ) ha hdb he hpl) fun σ H Q ⟨Hf, Hb, ρ, R, h1, h2, h3⟩ => ?_
  have ev : ∀ r, evA ms ρ = r → eCall g (ms ++ [eC (.int i)]) ρ = (match r with
      | .ok ds => g (ds ++ [.int i])
      | .ex c => .ex c
      | .bad => .bad) := fun r hr => by
    unfold eCall
    rw [evA_snoc, hr]
    cases r <;> rfl
  refine ⟨Hf, Hb, ρ, R, fun ds hds vs Hb1 H1 g1 r1 => ?_, fun c hc => h2 c (by rw [ev _ hc]), fun z => h3 (by rw [ev _ z])⟩
  have e := ev _ hds
  rw [e] at h1 h2 h3
  exact ⟨Hb1, ds ++ [.int i], g1.bh, r1.snoc (show Ra X.K .dat Hb1 H1 (V.int i) (.int i) from Dr.int i), fun d hd v Hb2 H2 g2 r2 => h1 d hd v Hb2 H2 (g1.trans g2) (r2.back g1.h), fun c hc Hb2 H2 g2 => h2 c hc Hb2 H2 (g1.trans g2), h3⟩
theorem run_fnNS {CX : CXT} {f : Addr} {fd : FuncData} {sp : Sp} {E : L2.St → XK} {gg : List Value → List Value → List Value} {gV : List V → List V → List V} {kws : List Str} {pins : List (Addr × Obj)} {σ : L2.St} {H : Hp} {s : Shared} {Q : VK} {us ws : List Value} {vs zs : List V} (F : FnOk X.prog X.w X.K X.mg X.base CX k f fd ps sp) (hr : Room k X.A) (hb : KBn X.K fd ps n kws gg gV) (hx : PassesAt CX X σ (E σ))
    (I : Inv X pins σ H s) (r : Vals vs us) (rz : Vals zs ws) (l1 : vs.length = n) (l2 : zs.length = kws.length) (h : sp (gV vs zs) H Q (E σ)) : wpAny (model X.prog X.w) X.A (call (.ref f) us (kws.zip ws)) (EP X pins σ Q) X.xe s := by
  have r2 := hb.rel r rz
  refine wpAny_call (codeAny_mono (F.run X.A X.stack s H ⟨us, kws.zip ws⟩ (gg us ws) (gV vs zs) Q (E σ) hr I.env0 (hb.to s us ws I.kIn (r.length.symm.trans l1) (rz.length.symm.trans l2)) r2 h) fun r s' hq => ?_)
  cases r with
  | error e => exact hx pins H s e s' I hq
  | ok fl =>
    cases fl with
    | ret u => exact I.after hq
    | next => exact False.elim hq
    | brk => exact False.elim hq
    | cont => exact False.elim hq
/-- the last one by its name -/
theorem de_fnK {ek : Expr} {kpos : Pos} {mk : EM} (h : HasF X.prog X.w X.K X.mg X.base x k ps (SpM X.K (ks ++ [.dat]) rk g) i n kw) (hr : Room j X.A) (tk : Takes X W.w) (ha : DA X W ks (e :: es) ms) (hek : DE X W .dat ek mk) (hn : ks.length = n := by rfl) (hj : k ≤ j := by decide) (hg : Gl X x := by rfl) (hdb : (x == ("__debug__" : Str)) = false := by decide)
    (hall : (backToKw pos (keywordEach [⟨some kw, ek, kpos⟩] X.env)).all (·.1.isSome) = true := by rfl) (hks : (backToKw pos (keywordEach [⟨some kw, ek, kpos⟩] X.env)).filterMap (·.1) = [kw] := by rfl)
    (he : starEach (e :: es) X.env = (false, eval e X.env) :: starEach es X.env := by rfl)
    (hpl : ((backTo pos (starEach (e :: es) X.env)).any (·.1) || (backToKw pos (keywordEach [⟨some kw, ek, kpos⟩] X.env)).any (·.1.isNone)) = false := by rfl) : DE X W rk (.Call (.Name x p) (e :: es) [⟨some kw, ek, kpos⟩] pos) (eCall g (ms ++ [mk])) := by
  obtain ⟨fd, F, B, _, KB, _⟩ := h.ex
  refine ⟨fun pins s σ H Q I hq => ?_⟩
  obtain ⟨Hf, Hb, ρ, R, h1, h2, h3⟩ := hq
  have ev : ∀ r, evA ms ρ = r → eCall g (ms ++ [mk]) ρ = (match r with
      | .ok ds => (match mk ρ with
        | .ok d => g (ds ++ [d])
        | .ex c => .ex c
        | .bad => .bad)
      | .ex c => .ex c
      | .bad => .bad) := fun r hr => by
    unfold eCall
    rw [evA_snoc, hr]
    cases r with
    | ok ds => cases mk ρ <;> rfl
    | ex c => rfl
    | bad => rfl
  refine wpAny_Call_Name_kw (ld_glob I hg h.gl ?_ hdb)
  refine PySem.W.callWith_KW (h₀ := X.base) I.ok.mod.kin h.kp hall (thn (ha.run pos pins s σ H (fun vs H1 => tCons (eOf X.K W .dat mk) tNil σ H1 fun zs H2 => vs.length = n ∧ zs.length = 1 ∧ SpM X.K (ks ++ [.dat]) rk g (vs ++ zs) H2 Q (WE W.w σ)) I
    ⟨Hf, Hb, ρ, R, fun ds hds vs Hb1 H1 g1 r1 => ?_, fun c hc => h2 c (by rw [ev _ hc]), fun z => h3 (by rw [ev _ z])⟩) fun us s1 ⟨vs, H1, I1, r, q⟩ => ?_) hpl he
  · have e0 := ev _ hds
    refine ⟨Hf, Hb1, ρ, R.gw g1, fun d hd v Hb2 H2 g2 r2 => ?_, fun c hc Hb2 H2 g2 => h2 c (by rw [e0, hc]) Hb2 H2 (g1.trans g2), fun z => h3 (by rw [e0, z])⟩
    have e1 : eCall g (ms ++ [mk]) ρ = g (ds ++ [d]) := by rw [e0, hd]
    rw [e1] at h1 h2 h3
    refine ⟨by rw [r1.lenK]; exact hn, rfl, Hb2, ds ++ [d], g2.bh, (r1.ex g2.b g2.h).snoc (r2.ra rfl), fun d hd v Hb3 H3 g3 r3 => h1 d hd v Hb3 H3 ((g1.trans g2).trans g3) (r3.back (g1.trans g2).h), fun c hc Hb3 H3 g3 => h2 c hc Hb3 H3 ((g1.trans g2).trans g3), h3⟩
  · refine thn ((pk_cons (nm := some kw) (kpos := kpos) hek pk_nil).run pos pins s1 σ H1 _ I1 q) fun ws s2 ⟨zs, H2, I2, rz, l1, l2, q2⟩ => ⟨I2.kIn, ?_⟩
    rw [hks]
    exact run_fnNS F (hr.mono hj) KB (passAt tk σ) I2 r rz l1 l2 q2
end
end DL

/-! DLB: statements of which nothing is known: they mean `bad`, so nothing may be claimed that reaches them. -/
namespace DL
open PySem L2 Evl
def sBad : SM := fun _ => .bad
theorem dss_bad {X : Cx} {W : WQ} {rk : Kd} {b : List Stmt} : DSs X W rk b sBad := ⟨fun pins s σ H D I ⟨_, _, _, _, h⟩ => h.elim⟩
theorem nonx_bad : ∀ ρ ρ', sBad ρ ≠ .nx ρ' := fun ρ ρ' z => nomatch z
end DL

/-! DLH: a def that is handed the exception that an except suite holds. -/
namespace DL
open PySem L2 Evl PyProof.Rows
/-! ### isinstance of such an exception, wherever it is borne -/
theorem inst_of {s : Shared} {a D : Addr} {oe : Obj} (hget : s.heap.get? a = some oe) (hz : Zc (.ref D) none oe) (hf : ∃ vs, oe.data = .fields vs) : PySem.W.InstAt s.heap a oe D none := by
  obtain ⟨oc, od, oda, osl⟩ := oe
  obtain ⟨vs, hv⟩ := hf
  obtain ⟨h1, h2⟩ := hz
  dsimp only at h1 h2 hv
  subst h1 h2 hv
  exact ⟨hget, rfl, rfl, trivial⟩
theorem call_isEg {Y : Cx} {a D : Addr} {oe : Obj} (hp : (a, oe) ∈ Y.pn) (C : ExcC Y.K D) (hz : Zc (.ref D) none oe) (hf : ∃ vs, oe.data = .fields vs) : CallR Y (.builtin "isinstance") (rIsE Y.K D a) := by
  intro pins s σ H xs us Q I r h
  obtain ⟨c, cv, b, rfl, hcv, e, q⟩ := h
  obtain ⟨u1, u2, rfl, r1, r2⟩ := vals2 r
  cases (show u1 = Value.ref a from r1)
  have ec := hcv _ r2
  subst ec
  exact PySem.W.kia_one (PySem.W.handS_kitx_exc C.hg C.hk C.hs C.hd C.ha C.hn C.ht C.hm) I.kIn (inst_of (I.pin (a, oe) (List.mem_append.mpr (.inl hp))).1 hz hf) e (fun z => nomatch z) fun tk => ⟨.bl b, H, I.kept (t' := tk) fun _ _ z => z, rfl, q⟩
theorem call_isETg {Y : Cx} {a D : Addr} {oe : Obj} (hp : (a, oe) ∈ Y.pn) (C : ExcC Y.K D) (hz : Zc (.ref D) none oe) (hf : ∃ vs, oe.data = .fields vs) : CallR Y (.builtin "isinstance") (rIsET Y.K D a) := by
  intro pins s σ H xs us Q I r h
  obtain ⟨tp, cs, ws, b, rfl, hT, k, e, q⟩ := h
  obtain ⟨u1, u2, rfl, r1, r2⟩ := vals2 r
  cases (show u1 = Value.ref a from r1)
  cases (show u2 = Value.ref tp from r2)
  have J := inst_of (I.pin (a, oe) (List.mem_append.mpr (.inl hp))).1 hz hf
  obtain ⟨_, its, rv, o, h1, h2, n, h3⟩ := (show ObjOk Y.prog Y.w H s.heap tp (.tup cs) from I.hok tp _ hT)
  have e3 := ClsV.all k rv
  subst e3
  obtain ⟨oc, od, dt, sl⟩ := o
  simp only at h2 h3
  subst h2 h3
  exact PySem.W.kia_tup (PySem.W.handS_kitx_exc C.hg C.hk C.hs C.hd C.ha C.hn C.ht C.hm) I.kIn J h1 e (fun z => nomatch z) fun tk => ⟨.bl b, H, I.kept (t' := tk) fun _ _ z => z, rfl, q⟩
section
variable {Y : Cx} {w0 : WX} {xs : List Str} {c : Str} {a : Addr} {oe : Obj} {i : Nat} {n : Str} {p p1 p2 pos : Pos}
theorem de_isEVg (hp : (a, oe) ∈ Y.pn) (Zx : ExX xs Y.K Y.mg) (hc : c ∈ xs) (hz : Zc (.ref (He.ga Y.K c)) none oe) (hf : ∃ vs, oe.data = .fields vs) (hm : Y.mg "isinstance" = none) (hmv : Y.mg "ValueError" = none) (hi : Y.N[i]? = some n := by rfl) (hv : Vis Y.env.scope n := by first | exact Or.inl rfl | exact Or.inr (Or.inl rfl) | exact Or.inr (Or.inr rfl))
    (hd : (n == ("__debug__" : Str)) = false := by decide) (hcd : (n == ("__classdict__" : Str)) = false := by decide) (hg : Gl Y "isinstance" := by rfl) (hgx : Gl Y "ValueError" := by rfl)
    (hs : starEach [.Name n p1, .Name "ValueError" p2] Y.env = (false, eval (.Name n p1) Y.env) :: starEach [.Name "ValueError" p2] Y.env := by rfl) (hs2 : starEach [.Name "ValueError" p2] Y.env = (false, eval (.Name "ValueError" p2) Y.env) :: starEach [] Y.env := by rfl)
    (hpl : (backTo pos (starEach [.Name "ValueError" p2] Y.env)).any (·.1) = false := by rfl) : DE Y ⟨w0, some (i, a)⟩ .dat (.Call (.Name "isinstance" p) [.Name n p1, .Name "ValueError" p2] [] pos) (eC (.bool true)) :=
  PE.imp (pe_callB (X := Y) (call_isEg hp (Zx.ec c hc) hz hf) hg hm PyProof.Rows.boot_isinstance (pa_cons (pe_var (i := i) hi hv hd hcd) (pa_cons (pe_bltn (v := .ty "ValueError") hgx hmv (by decide +kernel : bootBuiltins "ValueError" = some (.type "ValueError")) rfl) pa_nil hs2) hs) (by decide) (by decide) hs hpl) fun σ H Q ⟨Hf, Hb, ρ, R, h1, h2, h3⟩ => by
    refine ⟨.ref a, R.pin i a rfl, ?_⟩
    exact ⟨.ty "ValueError", .type "ValueError", true, rfl, fun u r => r, Zx.ve c hc, h1 _ rfl _ Hb H (Gw.refl R.eb) rs_bl⟩
theorem cls_pag (Zx : ExX xs Y.K Y.mg) {es : List Expr} {ts : List Str} (h : ClsN Y xs es ts) : PA Y es (fun σ H Q => Q (ts.map fun T => V.ref (He.ga Y.K T)) H) := by
  induction h with
  | nil => exact pa_nil
  | cons hT hg hd hs r ih => exact pa_cons (X := Y) (pe_glob (v := .ref (He.ga Y.K _)) hg (Zx.gl _ hT) rfl hd) ih hs
theorem de_isETg {es : List Expr} {ts : List Str} {x1} {tp : Pos} (hp : (a, oe) ∈ Y.pn) (Zx : ExX xs Y.K Y.mg) (hc : c ∈ xs) (hz : Zc (.ref (He.ga Y.K c)) none oe) (hf : ∃ vs, oe.data = .fields vs) (hm : Y.mg "isinstance" = none) (ht : ClsN Y xs es ts) (hi : Y.N[i]? = some n := by rfl) (hv : Vis Y.env.scope n := by first | exact Or.inl rfl | exact Or.inr (Or.inl rfl) | exact Or.inr (Or.inr rfl))
    (hd : (n == ("__debug__" : Str)) = false := by decide) (hcd : (n == ("__classdict__" : Str)) = false := by decide) (hg : Gl Y "isinstance" := by rfl) (hl : ts.length ≤ sizeLine := by decide)
    (hs : starEach [.Name n p1, .Tuple es x1 tp] Y.env = (false, eval (.Name n p1) Y.env) :: starEach [.Tuple es x1 tp] Y.env := by rfl) (hs2 : starEach [.Tuple es x1 tp] Y.env = (false, eval (.Tuple es x1 tp) Y.env) :: starEach [] Y.env := by rfl)
    (hpl : (backTo pos (starEach [.Tuple es x1 tp] Y.env)).any (·.1) = false := by rfl) : DE Y ⟨w0, some (i, a)⟩ .dat (.Call (.Name "isinstance" p) [.Name n p1, .Tuple es x1 tp] [] pos) (eC (.bool (ts.any fun T => subX c T))) :=
  PE.imp (pe_callB (X := Y) (call_isETg hp (Zx.ec c hc) hz hf) hg hm PyProof.Rows.boot_isinstance (pa_cons (pe_var (i := i) hi hv hd hcd) (pa_cons (pe_tup (cls_pag Zx ht)) pa_nil hs2) hs) (by decide) (by decide) hs hpl) fun σ H Q ⟨Hf, Hb, ρ, R, h1, h2, h3⟩ => by
    refine ⟨.ref a, R.pin i a rfl, ?_⟩
    refine ⟨by rw [List.length_map]; exact hl, fun tp hp => ?_⟩
    obtain ⟨k1, k2⟩ := cls_kit Zx hc ht
    exact ⟨tp, _, _, _, rfl, upd_same, k1, k2, h1 _ rfl _ Hb _ (Gw.new R.eb hp) rs_bl⟩
end
/-! ### the def -/
/-- what is known of a def that is handed the exception p: it tells b -/
def Hot (P : Program) (w : World) (K : PySem.W.Frag) (mg : Str → Option Value) (base : Heap) (f : Addr) (k : Nat) (p : Addr × Obj) (b : Bool) : Prop :=
  ∀ (A : Around) (outer : List PySem.Env) (s : Shared) (H Hb : Hp) (Q : VK), L2H.RoomH k A → L2H.PinOk outer H s p → Env0 P w K mg base A outer s H → Ex Hb H → (∀ Hb' H', Gw Hb H Hb' H' → Q (.bl b) H') →
    codeAny (model P w) A (.call (.ref f) ⟨[.ref p.1], []⟩) (CR (L2.CX P w) outer P w H s Q fun _ _ _ => False) s
theorem hot_of {P : Program} {w : World} {K : PySem.W.Frag} {mg : Str → Option Value} {base : Heap} {x qual n : Str} {params : Arguments} {body : List Stmt} {scope : Scope} {kws : List (Str × V)} {f : Addr} {fd : FuncData} {k : Nat} {m : SM} {b : Bool} {p : Addr × Obj}
    (F : FunD K x qual params body scope [] kws f fd) (S : FnScope [n] [n] scope)
    (hb : ∀ (kV doc pm : Value) (an : Option Addr) (cdv ct : Value) (us : List Value), us.length = [n].length → bindArgs (PySem.W.fnOf x qual params body scope .none kV doc pm an cdv ct) ⟨us, []⟩ = pure ([n].zip us))
    (hbody : ∀ (cdv : Value) (A : Around) (outer : List PySem.Env) (s : Shared) (H : Hp), DSs (L2H.cxH (L2.CX P w) P w K mg base [n] qual scope f cdv A outer s H (fun _ _ _ => False) p) ⟨fun _ _ _ _ => False, some (0, p.1)⟩ .dat body m)
    (hm : m [.un] = .rt (.bool b)) : Hot P w K mg base f (k + 1) p b := by
  intro A outer s H Hb Q hr hpin e0 heb hQ
  have B := F.bindsA (ps := [n]) hb s [.ref p.1] rfl
  obtain ⟨oc, od, dV, kV, doc, pm, an, cdv, ct, osl, rfl, lk, hcd, _, _⟩ := F.ex
  have kin : K.In s.heap := e0.mod.kin.keeps fun b o e => (e0.bs b o e).1
  refine codeAny_call_function hr.depth (kin _ _ lk) rfl S.co S.gen rfl (PySem.W.codeRec_of kin hcd) (B _ _ _ _ (wpAny_newFunctionEnv_cells S.kind (fun y hy => ?_) fun env he s1 x => ?_))
  · have ey : y.1 = n := by
      have hy' : y = (n, Value.ref p.1) := by simpa using hy
      rw [hy']
    rcases S.par n List.mem_cons_self with q | q
    · exact .inl (by rw [ey]; exact q)
    · exact .inr ⟨by rw [ey]; exact q, by rw [ey]; exact PySem.W.cellsFrom_some _ _ _ (.inl q)⟩
  · subst he
    refine ⟨(e0.mod.nolimit.keeps fun b o e => (e0.bs b o e).1).keeps x.toInCall.keep, codeAny_func ?_⟩
    have I : Inv (L2H.cxH (L2.CX P w) P w K mg base [n] qual scope f cdv A outer s H (fun _ _ _ => False) p) [] (L2.start [n] [V.ref p.1]) H s1 := L2H.inv_startH (vs := [V.ref p.1]) (us := [.ref p.1]) S hpin e0 rfl (.cons rfl .nil) x
    refine wpAny_mono ((hbody cdv A outer s H).run [] s1 _ H { nx := fun _ _ => False, rt := Q } I ⟨H, Hb, [.un], ⟨Ex.refl _, heb, rfl, ?_, ?_, ?_, ?_, ?_⟩, ?_⟩) (fun fl s' hs => ?_) fun e s' hs => hs
    · intro i d h
      match i with
      | 0 => cases h
      | i + 1 => simp at h
    · intro i d h
      match i with
      | 0 => cases h
      | i + 1 => simp at h
    · intro i d h
      match i with
      | 0 => cases h
      | i + 1 => simp at h
    · intro i j d e h
      match i with
      | 0 => cases h
      | i + 1 => simp at h
    · intro i a h
      cases h
      rfl
    · rw [hm]
      intro v Hb' H' e1 b1 r1
      have ev := Bo.bl (K := K) (Hb := Hb') (H := H') (.inl r1)
      rw [ev]
      exact hQ Hb' H' (bw_gw e1 b1)
    · cases fl with
      | ret u =>
        obtain ⟨v, σ', H', J, rv, q⟩ := hs
        exact ⟨v, H', J.os, J.bare, J.base, J.hok, rv, q⟩
      | next =>
        obtain ⟨_, _, _, q⟩ := hs
        exact q.elim
      | brk =>
        obtain ⟨_, _, _, q⟩ := hs
        exact False.elim q
      | cont =>
        obtain ⟨_, _, _, q⟩ := hs
        exact False.elim q
/-- f(error) within the suite -/
theorem de_hot {X : Cx} {a : Addr} {oe : Obj} {pn : List (Addr × Obj)} {i k j : Nat} {n x : Str} {b : Bool} {p p1 pos : Pos} (hh : Hot X.prog X.w X.K X.mg X.base (He.ga X.K x) k (a, oe) b ∧ X.mg x = some (.ref (He.ga X.K x)) ∧ PySem.W.keepIn X.K (.ref (He.ga X.K x)) = true) (hr : Room j X.A) (hj : k ≤ j := by decide)
    (hi : X.N[i]? = some n := by rfl) (hv : Vis X.env.scope n := by first | exact Or.inl rfl | exact Or.inr (Or.inl rfl) | exact Or.inr (Or.inr rfl)) (hd : (n == ("__debug__" : Str)) = false := by decide) (hcd : (n == ("__classdict__" : Str)) = false := by decide) (hg : Gl X x := by rfl) (hdb : (x == ("__debug__" : Str)) = false := by decide)
    (hs : starEach [.Name n p1] X.env = (false, eval (.Name n p1) X.env) :: starEach [] X.env := by rfl) (hpl : (backTo pos (starEach [] X.env)).any (·.1) = false := by rfl) :
    DE (X.suite a ((a, oe) :: pn)) ⟨W00, some (i, a)⟩ .dat (.Call (.Name x p) [.Name n p1] [] pos) (eC (.bool b)) := by
  obtain ⟨h, hgl, hkp⟩ := hh
  refine ⟨fun pins s σ H Q I hq => ?_⟩
  obtain ⟨Hf, Hb, ρ, R, h1, h2, h3⟩ := hq
  refine wpAny_Call_Name_kw (ld_glob (X := X.suite a ((a, oe) :: pn)) I hg hgl ?_ hdb)
  refine PySem.W.callWith_K (h₀ := X.base) I.ok.mod.kin hkp (thn ((pa_cons (X := X.suite a ((a, oe) :: pn)) (pe_var (i := i) hi hv hd hcd) pa_nil hs).run pos pins s σ H (fun vs H1 => vs = [.ref a] ∧ H1 = H) I ⟨.ref a, R.pin i a rfl, rfl, rfl⟩) fun us s1 ⟨vs, H1, I1, r, ev, eH⟩ => ⟨I1.kIn, ?_⟩) hs hpl
  subst ev eH
  cases r with
  | cons r1 rr =>
    cases rr
    cases r1
    have P1 := I1.pin (a, oe) (List.mem_append.mpr (.inl List.mem_cons_self))
    have hpin : L2H.PinOk X.stack H1 s1 (a, oe) := ⟨P1.1, P1.2.1, fun hm => (List.mem_cons.mp (I1.stkSub a hm)).elim P1.2.2.1 P1.2.2.2.1, P1.2.2.2.2⟩
    refine wpAny_call (codeAny_mono (h _ X.stack s1 H1 Hb Q ⟨(hr.mono hj).dp, (hr.mono hj).un⟩ hpin I1.env0 R.eb (fun Hb' H' g => h1 _ rfl _ Hb' H' g rs_bl)) fun r s' hq => ?_)
    cases r with
    | error e =>
      obtain ⟨_, _, _, _, _, _, _, _, _, _, _, _, z⟩ := hq
      exact z.elim
    | ok fl =>
      cases fl with
      | ret u => exact I1.after hq
      | next => exact False.elim hq
      | brk => exact False.elim hq
      | cont => exact False.elim hq
end DL

/-! DLV: an empty dict is no text. -/
namespace DL
open PySem L2 Evl
theorem dict_no_str (l : Addr) (es) (ep) (dd : Option Addr) (sl : Array (Option Value)) (b : Str) (u : Tok) :
    Meets (Builtin.«dict.__eq__» ⟨[.ref l, .str b u], []⟩) (fun _ R s => s.heap.get? l = some { cls := .type "dict", dict := dd, data := .dict es ep, slots := sl } ∧ R (.ok (.ret .notImplemented)) s) :=
  .of_wp fun prog w A R s h => by
    obtain ⟨hp, g, d, tk, os⟩ := s
    obtain ⟨hl, h⟩ := h
    have f1 := PySem.F.sub_str_dict
    wp_walk using wpAny_loadPart' hl, wpAny_load hl
    exact ⟨_, rfl, h⟩
theorem str_no_dict (l : Addr) (es) (ep) (dd : Option Addr) (sl : Array (Option Value)) (b : Str) (u : Tok) :
    Meets (Builtin.«str.__eq__» ⟨[.str b u, .ref l], []⟩) (fun _ R s => s.heap.get? l = some { cls := .type "dict", dict := dd, data := .dict es ep, slots := sl } ∧ R (.ok (.ret .notImplemented)) s) :=
  .of_wp fun prog w A R s h => by
    obtain ⟨hp, g, d, tk, os⟩ := s
    obtain ⟨hl, h⟩ := h
    wp_walk using wpAny_loadPart' hl, wpAny_load hl
    exact ⟨_, rfl, h⟩
theorem rc_dict_str {A : Around} {s : Shared} {a : Addr} {P : Program} {w : World} {kvs} (z : Str) (u : Tok) (hd : s.heap.DictOf (mixKind P w) a kvs) (hu : A.units < cLine) : SeqAt.RcAt A s (.ref a) (.str z u) false := fun prog w E Q h => by
  obtain ⟨o, es, ep, ho, hx, hdt, _⟩ := hd
  obtain ⟨cls, dd, data, sl⟩ := o
  have hc : cls = .type "dict" := hx.1
  simp only at hdt
  subst hc hdt
  exact SeqAt.rc_eq_decline_or (k := false) ⟨_, ho, rfl⟩ (typeIs_str s z u) (by decide) F.sub_str_dict F.slot_dict_eq F.slot_str_eq_refl
    (fun _ hq => call_meets F.slot_dict_eq ⟨_, ho, rfl⟩ F.entry_dict_eq (F.args_dict_eq_2 _ _) (dict_no_str a es ep dd sl z u) ⟨ho, hq⟩)
    (fun _ hq => call_meets F.slot_str_eq_refl (typeIs_str s z u) F.entry_str_eq (F.args_str_eq_2 _ _) (str_no_dict a es ep dd sl z u) ⟨ho, hq⟩)
    (fun _ hq => wpAny_of_eq (rfl : isSame (.ref a) (.str z u) = pure false) hq) (.inr hu) h
/-- == where the left may be an empty dict -/
def dEqX (x y : D) : ER := match x, y with
  | .dict [], .str _ => .ok (.bool false)
  | x, y => dEq x y
theorem dEqX_ss (i j : Str) : dEqX (.str i) (.str j) = .ok (.bool (decide (i = j))) := rfl
theorem dEqX_cases (x y : D) : (x = .dict [] ∧ (∃ z, y = .str z) ∧ dEqX x y = .ok (.bool false)) ∨ dEqX x y = dEq x y := by
  unfold dEqX
  split
  · exact .inl ⟨rfl, ⟨_, rfl⟩, rfl⟩
  · exact .inr rfl
theorem ne_eqX : NoEx2 dEqX := fun x y c h => by
  rcases dEqX_cases x y with ⟨_, _, e⟩ | e
  · rw [e] at h
    cases h
  · rw [e] at h
    exact ne_eq x y c h
theorem bo_dict0 {K : PySem.W.Frag} {Hb H : Hp} {v : V} (eb : Ex Hb H) (h : Bo K Hb H v (.dict [])) : ∃ a kvs, v = .ref a ∧ Rd H a (.dK kvs) := by
  rcases h with h | ⟨p, h1, o, h2, h3⟩
  · cases h with
    | dict0 r => exact ⟨_, [], rfl, ex_rd eb r⟩
  · subst h1
    cases h3 with
    | dK a => exact ⟨_, _, rfl, .inl h2⟩
theorem od_eqX {X : Cx} (hu : X.A.units + 64 < cLine) : OpD X (compareOp .Eq) .dat dEqX := by
  intro pins s σ H x y v u Q I rx ry h
  obtain ⟨Hb, dx, dy, d, eb, bx, byy, hg, q⟩ := h
  rcases dEqX_cases dx dy with ⟨rfl, ⟨z, rfl⟩, e⟩ | e
  · rw [e] at hg
    cases hg
    obtain ⟨a, kvs, rfl, hr⟩ := bo_dict0 eb bx
    have ey := byy.str
    subst ey
    cases (show v = Value.ref a from rx)
    obtain ⟨t, rfl⟩ := (show ∃ t, u = Value.str z t from ry)
    obtain ⟨_, _, vs, _, hd⟩ := dk_rd I.hok hr
    exact rc_dict_str z t hd (by omega) X.prog X.w _ _ ⟨.bl false, H, I, rfl, q _ Hb H (Gw.refl eb) rs_bl⟩
  · rw [e] at hg
    exact od_eq hu pins s σ H x y v u Q I rx ry ⟨Hb, dx, dy, d, eb, bx, byy, hg, q⟩
end DL

/-! DLU: dicts with tuple keys: len, setdefault, tuple(d.keys()); [x] * n. -/
namespace DL
open PySem PySem.Spec L2 Evl PyProof.Rows
section
variable {prog : Program} {w : World} {A : Around} {E : Value → Shared → Prop} {s : Shared} {r d : Addr} {es : Array DictEntry} {ep n : Nat} {T : String} {P : Nat → Value → Prop} {OK : Heap → Prop}
theorem collect_src {Q : List Value → Shared → Prop} (K : PySem.W.KdlSrc prog w T r d n P OK) (hh : A.handled = none) (hok : OK s.heap) (hn : n ≤ sizeLine)
    (hQ : ∀ (h' : Heap) (tk : Nat) (acc : Array Value), (∀ b o, s.heap.get? b = some o → h'.get? b = some o) → ItemsOf P acc n → Q acc.toList { s with heap := h', toks := tk }) :
    wpAny (model prog w) A (collect (.ref r)) Q E s := by
  unfold collect
  refine wpAny_bind (wpAny_runValue (codeAny_builtin F.entry_proto_collect ?_))
  rw [Around.under_plainId F.plain_proto_collect _]
  show wpAny _ A.in1 (newList [] >>= fun l => again (.builtin "list.__iadd__" ⟨[l, .ref r], []⟩)) _ _ s
  refine wpAny_bind (wpAny_newObj_type ?_)
  refine wpAny_pure ⟨plainId_quiet F.plain_list_iadd _, codeAny_builtin F.entry_list_iadd ?_⟩
  rw [Around.under_plainId F.plain_list_iadd _]
  show wpAny _ A.in1 (Builtin.List.listExtendWith (.ref s.heap.objs.size) (.ref r) (.ref s.heap.objs.size)) _ _ _
  have hS : (s.heap.push { cls := .type "list", data := .seq ([] : List Value).toArray }).get? s.heap.objs.size = some { cls := .type "list", data := .seq #[] 0 } := Heap.get?_push_size _ rfl
  have hlt := K.there _ hok
  refine wpAny_mono (PySem.W.kdl_extend (A := A) (R := fun rr s' => rr = .ok (.ret (.ref s.heap.objs.size)) ∧ ∃ (h' : Heap) (tk : Nat) (acc : Array Value) (c' : Nat), s' = { s with heap := h', toks := tk } ∧
      (∀ b o, s.heap.get? b = some o → h'.get? b = some o) ∧ h'.get? s.heap.objs.size = some { cls := .type "list", dict := none, data := .seq acc c', slots := #[] } ∧ ItemsOf P acc n)
    (s := { s with heap := s.heap.push { cls := .type "list", data := .seq ([] : List Value).toArray } }) K hh (K.keep _ _ hok fun b _ o e => Heap.get?_push_of_some _ e) _ (Nat.ne_of_gt hlt.1) (Nat.ne_of_gt hlt.2) _ 0 hS
    (fun h' tk acc c' hk e hi => ⟨rfl, h', tk, acc, c', rfl, fun b o q => hk b o (Nat.ne_of_lt (Heap.lt_size q)) (Heap.get?_push_of_some _ q), e, hi⟩) hn) (fun fin s' h => ?_) (fun e s' h => ?_)
  · cases fin with
    | done f =>
      obtain ⟨e, h', tk, acc, c', rfl, hk, hS', hi⟩ := h
      cases e
      show wpAny _ A (load s.heap.objs.size >>= _) _ _ _
      exact wpAny_bind (wpAny_load hS' (wpAny_pure (hQ h' tk acc hk hi)))
    | again c' =>
      refine ⟨h.1, codeAny_mono h.2 fun rr s'' hr' => ?_⟩
      obtain ⟨rfl, h', tk, acc, c', rfl, hk, hS', hi⟩ := hr'
      show wpAny _ A (load s.heap.objs.size >>= _) _ _ _
      exact wpAny_bind (wpAny_load hS' (wpAny_pure (hQ h' tk acc hk hi)))
  · exact absurd h.1 (by simp)
theorem code_tuple_src {Q₁ : Value → Shared → Prop} (K : PySem.W.KdlSrc prog w "dict_keys" r d n P OK) (hh : A.handled = none) (hok : OK s.heap) (hn : n ≤ sizeLine)
    (h : ∀ (h' : Heap) (tk : Nat) (acc : Array Value), (∀ b o, s.heap.get? b = some o → h'.get? b = some o) → ItemsOf P acc n →
      Q₁ (.ref h'.objs.size) { s with heap := h'.push { cls := .type "tuple", data := .seq acc }, toks := tk }) :
    codeAny (model prog w) A (.call (.builtin "tuple.__new__") ⟨[.type "tuple", .ref r], []⟩) (wants Q₁ E) s := by
  refine codeAny_of_tree ?_
  show wpAny _ A.in1 (do checkBuiltinCall "tuple.__new__" ⟨[.type "tuple", .ref r], []⟩; again (.builtin "tuple.__new__" ⟨[.type "tuple", .ref r], []⟩)) _ _ s
  refine wpAny_bind (wpAny_of_eq (F.newCall_tuple_1 _) (wpAny_pure ⟨plainId_quiet F.plain_tuple_new _, codeAny_builtin F.entry_tuple_new ?_⟩))
  rw [Around.under_plainId F.plain_tuple_new _]
  have hsub := sub_tuple_self
  have hinit := init_tuple_lookup
  have hmh := madeHere_tuple
  have hTI : s.TypeIs (.ref r) "dict_keys" := K.type _ hok
  have hh1 : A.in1.handled = none := hh
  wp_walk using wpAny_typeOf hTI, collect_src (A := A.in1) K hh1 hok hn
  intro h' tk acc hk hacc
  show wpAny _ _ (Builtin.Tuple.tupleExact acc.toList.toArray >>= fun v => ret v) _ _ _
  unfold Builtin.Tuple.tupleExact
  refine wpAny_bind (wpAny_newObj_type ?_ (by show acc.toList.toArray.size ≤ sizeLine; simp only [Array.toArray_toList]; rw [hacc.1]; exact hn))
  refine wpAny_pure ?_
  have e : acc.toList.toArray = acc := by simp
  rw [e]
  exact h h' tk acc hk hacc
theorem call_tuple_src {Q : Value → Shared → Prop} (K : PySem.W.KdlSrc prog w "dict_keys" r d n P OK) (hh : A.handled = none) (hok : OK s.heap) (hn : n ≤ sizeLine)
    (hQ : ∀ (h' : Heap) (tk : Nat) (acc : Array Value), (∀ b o, s.heap.get? b = some o → h'.get? b = some o) → ItemsOf P acc n →
      Q (.ref h'.objs.size) { s with heap := h'.push { cls := .type "tuple", data := .seq acc }, toks := tk }) :
    wpAny (model prog w) A (call (.type "tuple") [.ref r]) Q E s := by
  refine callType_codes (Q₁ := fun obj s₁ => s₁.TypeIs obj "tuple" ∧ Q obj s₁) F.called_tuple (F.typeCall_tuple_1 _) F.entry_object_init
    (code_tuple_src (A := A.in1) K hh hok hn fun h' tk acc hk hacc => ⟨⟨_, Heap.get?_push_size _ rfl, rfl⟩, hQ h' tk acc hk hacc⟩) fun obj s₁ h₁ => ?_
  exact ⟨h₁.1, F.args_object_init_2 obj _, object_init_meets F.called_tuple.init.lookup F.called_tuple.made (by decide) prog w A.in1 _ s₁ ⟨h₁.1, rfl, h₁.2⟩⟩
theorem len_raw {Q : Value → Shared → Prop} (hd : (d == sysModules) = false) (hm : s.heap.DictRaw d es ep) (hfit : (es.size : Int) < 2 ^ 63)
    (h : Q (.int es.size (s.toks + 1)) { s with toks := s.toks + 1 + 1 }) : wpAny (model prog w) A (call (.builtin "len") [.ref d]) Q E s := by
  refine Calls.call_function_entry kind_len plain_len entry_len (args_len1 _) ?_
  unfold Builtin.«len»
  refine wpAny_bind (m := oneArg "len" _) (wpAny_pure ?_)
  refine wpAny_bind (m := callSpecial? (.ref d) (Str.ofString "__len__")) (wpAny_callSpecial?_slot (name := Str.ofString "__len__") hm.typeIs F.slot_dict_len (call_len_raw hd hm ?_))
  show wpAny _ _ _ _ _ { s with toks := s.toks + 1 }
  refine wpAny_bind (wpAny_holding (wpAny_pure ?_))
  refine wpAny_bind (wpAny_letGo ?_)
  show wpAny _ _ (if ((es.size : Nat) : Int) < 0 then _ else _) _ _ _
  rw [if_neg (by omega)]
  show wpAny _ _ (if ((es.size : Nat) : Int) ≥ 2 ^ 63 then _ else _) _ _ _
  rw [if_neg (by omega)]
  exact wpAny_bind (wpAny_mkInt (wpAny_pure ⟨_, rfl, h⟩))
end
section
variable {X : Cx} {pins : List (Addr × Obj)} {σ : L2.St} {H : Hp} {s : Shared} {a b : Addr} {r : Value} {v : V} {k : List Key} {kvs : List (List Key × V)} {A : Around} {E : Value → Shared → Prop}
/-- d.setdefault(k, v), k a tuple -/
theorem d_setdT {Q : Value → Shared → Prop} (hu : A.units + 1 < cLine) (I : Inv X pins σ H s) (e : H a = some (.dT kvs)) (eb : H b = some (.tup (k.map kV))) (rv : RelV v r) (l : kvs.length < sizeLine)
    (h1 : ∀ x, valV kvs k = some x → ∀ (w' : Value) (s' : Shared), Inv X pins σ H s' → RelV x w' → Q w' s') (h2 : valV kvs k = none → ∀ (w' : Value) (s' : Shared), Inv X pins σ (upd H a (.dT (putK kvs k v))) s' → RelV v w' → Q w' s') :
    wpAny (model X.prog X.w) A (call (.builtin "dict.setdefault") [.ref a, .ref b, r]) Q E s := by
  obtain ⟨z, hd, xs, rel, dd⟩ := dt_of I.hok e
  have hz : xs.length ≤ sizeLine := by rw [← Paired.length rel]; exact z
  have hl : (putK kvs k v).length ≤ sizeLine := by have := length_putK kvs k v; omega
  refine call_setdefault_heap (hsz := hz) (tupleKind_room_in1 hu) (key_of I.hok eb) hd dd (fun p hp => ?_) fun hn h' dd' hs => ?_
  · have q := rel.val k
    rw [hp] at q
    cases q0 : valV kvs k with
    | none =>
      rw [q0] at q
      exact (show False from q).elim
    | some x =>
      rw [q0] at q
      exact h1 x q0 _ _ (I.tok _) q
  · have q := rel.val k
    rw [hn] at q
    cases q0 : valV kvs k with
    | some x =>
      rw [q0] at q
      exact (show False from q).elim
    | none =>
      obtain ⟨q, es, ep, hq, g2, g3, g4, _, g5⟩ := dd'
      refine h2 q0 _ _ (d_write I (by rw [e]; exact True.intro) hs ⟨q, hq⟩ ⟨hl, hd, _, (rel.put k eb rv).keeps fun c ys ec => ?_, q, es, ep, hq, g2, g3, g4, g5⟩) rv
      rw [upd_ne (ne_of ec e (fun z => nomatch z))]
      exact ec
theorem d_lenT {Q : Value → Shared → Prop} (I : Inv X pins σ H s) (e : Rd H a (.dT kvs)) (h : ∀ t s', Inv X pins σ H s' → Q (.int kvs.length t) s') : wpAny (model X.prog X.w) A (call (.builtin "len") [.ref a]) Q E s := by
  obtain ⟨z, hd, xs, rel, dd⟩ := dt_rd I.hok e
  obtain ⟨es, ep, hm, hs, _⟩ := dd.raw
  have hl : kvs.length = xs.length := Paired.length rel
  refine len_raw hd hm (by rw [sizeLine_eq] at z; omega) ?_
  rw [hs, ← hl]
  exact h _ _ (I.tok _)
end
/-- d.setdefault(y, z) -/
def tDSetT (td ty tx : TE) : TE := fun σ H Q => td σ H fun x H1 => ∃ a, x = .ref a ∧ IsD H1 a ∧ ty σ H1 fun y H2 => tx σ H2 fun z H3 => ∃ (kvs : List (List Key × V)) (k : List Key) (b : Addr), H3 a = some (.dT kvs) ∧ y = .ref b ∧ H3 b = some (.tup (k.map kV)) ∧ kvs.length < sizeLine ∧
  (∀ v, valV kvs k = some v → Q v H3) ∧ (valV kvs k = none → Q z (upd H3 a (.dT (putK kvs k z))))
section
variable {X : Cx} {o e f : Expr} {td ty tx : TE} {apos cpos : Pos}
theorem pe_dsetT (hu : X.A.units + 1 < cLine) (ho : PE X o td) (he : PE X e ty) (hf : PE X f tx) (m : M2 X o "setdefault" apos e f cpos) : PE X (.Call (.Attribute o "setdefault" apos) [e, f] [] cpos) (tDSetT td ty tx) := by
  refine ⟨fun pins s σ H Q I h => ?_⟩
  refine wpAny_Call_method m.base m.few m.line PySem.F.plainAttrs_dict PySem.F.slot_dict_setdefault PySem.F.type_dict_setdefault (thn (ho.run pins s σ H _ I h) fun u s1 ⟨x, H1, I1, rx, a, ex, d, q1⟩ => ?_)
  subst ex
  obtain rfl : u = Value.ref a := rx
  obtain ⟨t1, t2, _⟩ := isD_at I1 d
  refine ⟨t1, t2, ?_⟩
  rw [m.trees]
  refine Calls.callWith_builtin rfl (Calls.evalArgs_plain (Calls.spliced_cons (thn (he.run pins s1 σ H1 _ I1 q1) fun iv s2 ⟨y, H2, I2, ry, q2⟩ =>
    Calls.spliced_cons (thn (hf.run pins s2 σ H2 _ I2 q2) fun fv s3 ⟨z, H3, I3, rz, kvs, k, b, ea, ey, eb, hl, q3, q4⟩ => Calls.spliced_nil ?_))))
  subst ey
  obtain rfl : iv = Value.ref b := ry
  exact d_setdT hu I3 ea eb rz hl (fun v hv w' s4 I4 rw' => ⟨v, _, I4, rw', q3 v hv⟩) fun hn w' s4 I4 rw' => ⟨z, _, I4, rw', q4 hn⟩
/-- tuple(d.keys()), d with tuple keys -/
def tTupKT (td : TE) : TE := fun σ H Q => td σ H fun x H1 => ∃ a kvs, x = .ref a ∧ Rd H1 a (.dT kvs) ∧ ∀ p bs, H1 p = none → IsKeys H1 kvs bs → Q (.ref p) (upd H1 p (.tup (bs.map V.ref)))
theorem pe_tupKT {p pos : Pos} (hc : X.calm = true) (hg : Gl X "tuple") (hm : X.mg "tuple" = none) (ho : PE X o td) (hbase : attributeBase o "keys" X.env (eval o X.env) = eval o X.env) (hline : (apos.endLine == cpos.line) = true)
    (na : starEach [.Call (.Attribute o "keys" apos) [] [] cpos] X.env = (false, eval (.Call (.Attribute o "keys" apos) [] [] cpos) X.env) :: starEach [] X.env) :
    PE X (.Call (.Name "tuple" p) [.Call (.Attribute o "keys" apos) [] [] cpos] [] pos) (tTupKT td) := by
  refine ⟨fun pins s σ H Q I h => ?_⟩
  refine Call_ (ld_blt I hg hm boot_tuple (PyProof.Rows.callWith_type1 (args_cons ?_ na) na))
  refine wpAny_Call_method (T := "dict") (id := "dict.keys") hbase rfl hline F.plainAttrs_dict F.slot_dict_keys F.type_dict_keys (thn (ho.run pins s σ H _ I h) fun u s1 ⟨x, H1, I1, rx, d, kvs, ex, hd, q⟩ => ?_)
  subst ex
  obtain rfl : u = Value.ref d := rx
  obtain ⟨t1, t2, hs0⟩ := isD_at I1 (.inr ⟨kvs, hd⟩)
  refine ⟨t1, t2, ?_⟩
  obtain ⟨z, hs, ks, pr, o', es, ep, ho', hx, hdt, he, hn⟩ := (show ObjOk X.prog X.w H1 s1.heap d (.dT kvs) from hd.ok I1.hok)
  have hraw : s1.heap.DictRaw d es ep := ⟨o', ho', hx, hdt⟩
  have l1 : es.size = ks.length := size_of_entries he
  have l2 : kvs.length = ks.length := Paired.length pr
  show wpAny _ _ (callWith cpos (.builtin "dict.keys") [.ref d] [] []) _ X.xe s1
  refine method_meetsIn F.slot_dict_keys F.entry_dict_keys rfl (PySem.evalArgs_none ⟨rfl, t1, F.args_dict_keys_1 _, _, meets_dict_keys_raw d hs, ⟨es, ep, hraw⟩, ?_⟩)
  show wpAny _ _ _ _ _ _
  have I2 : Inv X pins σ H1 { s1 with heap := s1.heap.push { cls := .type "dict_keys", data := .fields #[.ref d] } } := I1.kept (t' := s1.toks) fun b ob q => Heap.get?_push_of_some _ q
  refine args_nil ?_
  refine call_tuple_src (s := { s1 with heap := s1.heap.push { cls := .type "dict_keys", data := .fields #[.ref d] } }) (PySem.KdlSrc.rawKeys (r := s1.heap.objs.size) (d := d) (es := es) (ep := ep)) (I1.ok.hd hc) ⟨⟨_, Heap.get?_push_size _ rfl, rfl, rfl⟩, hraw.push _⟩ (by omega) fun h' tk acc kp it => ?_
  have ea : acc.toList = ks.map fun x => Value.ref x.2.1 := by
    have hl : acc.toList.length = ks.length := by rw [Array.length_toList, it.1]; exact l1
    apply List.ext_getElem?
    intro j
    rw [List.getElem?_map]
    cases hj : acc.toList[j]? with
    | none =>
      have h1 := List.getElem?_eq_none_iff.mp hj
      rw [List.getElem?_eq_none (by omega)]
      all_goals rfl
    | some v =>
      obtain ⟨hi, hv⟩ := it.2 j v (by rw [← Array.getElem?_toList]; exact hj)
      have qe := entry_at he j
      rw [Array.getElem?_eq_getElem hi] at qe
      cases hb : ks[j]? with
      | none =>
        rw [hb] at qe
        exact nomatch (show some es[j] = none from qe)
      | some b =>
        rw [hb] at qe
        have e2 : es[j] = entryOfKey (tupleKind (mixKind X.prog X.w)) b := Option.some.inj qe
        rw [hv, e2]
        all_goals rfl
  have eb : acc.toList = (ks.map fun x => x.2.1).map Value.ref := by rw [ea, List.map_map]; all_goals rfl
  have rv : Vals ((ks.map fun x => x.2.1).map V.ref) acc.toList := by rw [eb]; exact vals_refs _
  have hz : ((ks.map fun x => x.2.1).map V.ref).length ≤ sizeLine := by rw [List.length_map, List.length_map]; omega
  have I3 : Inv X pins σ H1 { s1 with heap := h', toks := tk } := I2.kept kp
  refine ⟨.ref h'.objs.size, _, I3.laid (t' := tk) (o := .tup ((ks.map fun x => x.2.1).map V.ref)) (fun c o e => Heap.get?_push_of_some _ e) (Nat.le_refl _) (show ObjOk X.prog X.w _ _ _ (.tup ((ks.map fun x => x.2.1).map V.ref)) from ⟨hz, acc.toList, rv, ?_⟩), rfl, q _ _ (I3.hok.fresh (Nat.le_refl _)) (isKeys_of pr)⟩
  rw [Array.toArray_toList]
  exact IsTup.new _ _
end
/-! ### by data -/
/-- plain tuples of the heap become fixed -/
def absorb (Hb H : Hp) (bs : List Addr) : Hp := fun a => if a ∈ bs then H a else Hb a
theorem Gw.absorb {Hb H : Hp} {bs : List Addr} (e : Ex Hb H) (h : ∀ b ∈ bs, ∃ xs, H b = some (.tup xs)) : Gw Hb H (absorb Hb H bs) H where
  h := Ex.refl _
  b := fun a o q => by
    unfold DL.absorb
    split
    · exact e a o q
    · exact q
  bh := fun a o q => by
    unfold DL.absorb at q
    split at q
    · exact q
    · exact e a o q
  nw := fun a h1 h2 => by
    unfold DL.absorb
    split
    · rename_i hm
      obtain ⟨xs, q⟩ := h a hm
      rw [q] at h2
      exact h2.elim
    · exact h1
theorem drAll_keys {K : PySem.W.Frag} {H : Hp} : ∀ ks : List Key, DrAll K H (ks.map kV) (ks.map keyD)
  | [] => .nil
  | .inl i :: r => .cons (.int i) (drAll_keys r)
  | .inr x :: r => .cons (.str x) (drAll_keys r)
theorem keys_there {H : Hp} : ∀ {kvs : List (List Key × V)} {bs : List Addr}, IsKeys H kvs bs → ∀ b ∈ bs, ∃ xs, H b = some (.tup xs)
  | _, _, .nil, b, hb => by cases hb
  | _, _, .cons h r, b, hb => by
    rcases List.mem_cons.mp hb with e | e
    · subst e
      exact ⟨_, h⟩
    · exact keys_there r b e
theorem keys_dr {K : PySem.W.Frag} {Hb H : Hp} {bs0 : List Addr} : ∀ {kvs : List (List Key × V)} {ds : List (D × D)} {bs : List Addr}, PT K Hb kvs ds → IsKeys H kvs bs → (∀ b ∈ bs, b ∈ bs0) → DrAll K (absorb Hb H bs0) (bs.map V.ref) (ds.map (·.1))
  | _, _, _, .nil, .nil, _ => .nil
  | _, _, _, .cons (b := q) h r, .cons (b := b) h2 r2, hm => by
    refine .cons ?_ (keys_dr r r2 fun b hb => hm b (List.mem_cons_of_mem _ hb))
    show Dr K (absorb Hb H bs0) (V.ref b) q.1
    rw [h.1]
    refine .tup (xs := _) ?_ (drAll_keys _)
    unfold absorb
    rw [if_pos (hm b List.mem_cons_self)]
    exact h2
def dTupK : D → ER
  | .dict ((.none, .none) :: ds) => .ok (.tuple (ds.map (·.1)))
  | _ => .bad
def bLenT : List D → ER
  | [.dict ((.none, .none) :: ds)] => .ok (.int ds.length)
  | _ => .bad
theorem ne_lenT : NoExL bLenT := fun ds c h => by
  unfold bLenT at h
  repeat' split at h
  all_goals cases h
def dRepL : D → D → ER
  | .list ds, .int k => if -(2 ^ 63) ≤ k ∧ k < 2 ^ 63 ∧ ds.length * k.toNat ≤ sizeLine then .ok (.list (List.replicate k.toNat ds).flatten) else .bad
  | _, _ => .bad
theorem drAll_rep {K : PySem.W.Frag} {H : Hp} {xs : List V} {ds : List D} (h : DrAll K H xs ds) : ∀ n : Nat, DrAll K H (List.replicate n xs).flatten (List.replicate n ds).flatten
  | 0 => .nil
  | n + 1 => by
    rw [List.replicate_succ, List.replicate_succ, List.flatten_cons, List.flatten_cons]
    exact drAll_app h (drAll_rep h n)
/-- x.setdefault(k, v) -/
def xSetT (i : Nat) (mk mv : EM) : XM := fun ρ => match ρ[i]? with
  | some (.own (.dict ((.none, .none) :: ds))) => (match mk ρ with
    | .ok k => (match mv ρ with
      | .ok d => (match tKey k with
        | some k => if ds.length < sizeLine then (match tFind ds k with
          | some z => .ok z ρ
          | none => .ok d (ρ.set i (.own (tD (tStore ds k d))))) else .bad
        | none => .bad)
      | .ex c => .ex c ρ
      | .bad => .bad)
    | .ex c => .ex c ρ
    | .bad => .bad)
  | _ => .bad
/-- xs[k] = v, the value by a call that changes its argument -/
def sSetLX (i : Nat) (mk : EM) (mv : XM) : SM := fun ρ => match mv ρ with
  | .ok d ρ => (match ρ[i]? with
    | some (.own (.list ds)) => (match mk ρ with
      | .ok (.int k) => (match ixN ds.length k with
        | some j => .nx (ρ.set i (.own (.list (ds.set j d))))
        | none => .bad)
      | .ok _ => .bad
      | .ex c => .ex c ρ
      | .bad => .bad)
    | _ => .bad)
  | .ex c ρ => .ex c ρ
  | .bad => .bad
section
variable {X : Cx} {W : WQ} {a b o e f : Expr} {ma mb mc : EM} {pos p apos cpos : Pos}
theorem cd_lenT : CallD X (.builtin "len") .dat bLenT := by
  intro pins s σ H vs us Q I r h
  obtain ⟨Hb, ks, ds, d, eb, ra, hg, q⟩ := h
  unfold bLenT at hg
  split at hg
  · cases hg
    obtain ⟨v, rfl, b⟩ := ra1 ra
    obtain ⟨p, kvs, rfl, hd, pk⟩ := b.tdict
    obtain ⟨u, rfl, rx⟩ := r.one
    cases rx
    refine d_lenT I hd fun t s' I' => ⟨.int kvs.length, H, I', ⟨t, rfl⟩, ?_⟩
    rw [pt_len pk]
    exact q _ Hb H (Gw.refl eb) rs_int
  · cases hg
theorem de_tupK (hm : X.mg "tuple" = none) (h : DE X W .bor o ma) (hc : X.calm = true := by rfl) (hg : Gl X "tuple" := by rfl) (hbase : attributeBase o "keys" X.env (eval o X.env) = eval o X.env := by rfl)
    (hline : (apos.endLine == cpos.line) = true := by rfl) (na : starEach [.Call (.Attribute o "keys" apos) [] [] cpos] X.env = (false, eval (.Call (.Attribute o "keys" apos) [] [] cpos) X.env) :: starEach [] X.env := by rfl) :
    DE X W .dat (.Call (.Name "tuple" p) [.Call (.Attribute o "keys" apos) [] [] cpos] [] pos) (eUn dTupK ma) :=
  PE.imp (pe_tupKT hc hg hm h hbase hline na) fun σ H Q ⟨Hf, Hb, ρ, R, h1, h2, h3⟩ => by
    refine ⟨Hf, Hb, ρ, R, fun d hd v Hb1 H1 g1 r1 => ?_, fun c hc Hb1 H1 g1 => h2 c (by simp [eUn, hc, ER.bind]) Hb1 H1 g1, fun z => h3 (by simp [eUn, z, ER.bind])⟩
    have e : eUn dTupK ma ρ = dTupK d := by simp [eUn, hd, ER.bind]
    rw [e] at h1 h3
    cases q : dTupK d with
    | bad => exact absurd q h3
    | ex c =>
      unfold dTupK at q
      split at q <;> cases q
    | ok y =>
      unfold dTupK at q
      split at q
      case h_2 => cases q
      rename_i ds
      cases q
      obtain ⟨p, kvs, rfl, hd1, pk⟩ := Bo.tdict r1
      refine ⟨p, kvs, rfl, hd1, fun q bs hq ik => ?_⟩
      have g2 := Gw.absorb g1.bh (keys_there ik)
      have z := Gw.tup (K := X.K) g2.bh hq (keys_dr pk ik fun b hb => hb)
      exact h1 _ rfl _ _ _ ((g1.trans g2).trans z.1) z.2
theorem de_repL (ha : DE X W .new a ma) (hb : DE X W .bor b mb) : DE X W .new (.BinOp a .Mult b pos) (eBin dRepL ma mb) :=
  PE.imp (pe_op op_rep ha hb) fun σ H Q ⟨Hf, Hb, ρ, R, h1, h2, h3⟩ => by
    refine ⟨Hf, Hb, ρ, R, fun d hd v Hb1 H1 g1 r1 => ?_, fun c hc Hb1 H1 g1 => h2 c (by simp [eBin, hc, ER.bind]) Hb1 H1 g1, fun z => h3 (by simp [eBin, z, ER.bind])⟩
    refine ⟨Hf, Hb1, ρ, R.gw g1, fun d2 hd2 v2 Hb2 H2 g2 r2 => ?_, fun c hc Hb2 H2 g2 => h2 c (by simp [eBin, hd, hc, ER.bind]) Hb2 H2 (g1.trans g2), fun z => h3 (by simp [eBin, hd, z, ER.bind])⟩
    have e : eBin dRepL ma mb ρ = dRepL d d2 := by simp [eBin, hd, hd2, ER.bind]
    rw [e] at h1 h3
    cases q : dRepL d d2 with
    | bad => exact absurd q h3
    | ex c =>
      unfold dRepL at q
      repeat' split at q
      all_goals cases q
    | ok y =>
      unfold dRepL at q
      split at q
      · rename_i ds k
        split at q
        case isFalse => cases q
        rename_i hz
        cases q
        obtain ⟨p, rfl, h0, hb0, o, ho, hc⟩ := r1
        cases hc with
        | lst al =>
          refine ⟨p, k, _, rfl, r2.int, g2.h _ _ ho, hz.1, hz.2.1, by rw [drAll_len al]; exact hz.2.2, fun q hq => ?_⟩
          have z := Gw.lstN (K := X.K) g2.bh hq (drAll_rep (drAll_ex g2.b al) k.toNat)
          exact h1 _ (if_pos hz) _ _ _ ((g1.trans g2).trans z.1) (z.2.back (g1.trans g2).h)
      · cases q
theorem dx_setT (i : Nat) {y : Str} {q : Pos} (hu : X.A.units + 64 < cLine) (he : DE X W .dat e ma) (hf : DE X W .dat f mb) (hN : X.N[i]? = some y := by rfl) (hv : Vis X.env.scope y := by first | exact Or.inl rfl | exact Or.inr (Or.inl rfl) | exact Or.inr (Or.inr rfl)) (hd : (y == ("__debug__" : Str)) = false := by decide) (hcd : (y == ("__classdict__" : Str)) = false := by decide)
    (hm : M2 X (.Name y q) "setdefault" apos e f cpos := by exact ⟨rfl, rfl, rfl, rfl⟩) : DX X W (.Call (.Attribute (.Name y q) "setdefault" apos) [e, f] [] cpos) (xSetT i ma mb) :=
  PE.imp (pe_dsetT (by omega) (pe_var hN hv hd hcd) he hf hm) fun σ H Q ⟨Hf, Hb, ρ, R, h1, h2, h3⟩ => by
  unfold xSetT at h1 h2 h3
  split at h1
  · rename_i ds hi
    simp only [hi] at h2 h3
    obtain ⟨p, hp, ow, hf, hbp⟩ := R.own i _ hi
    obtain ⟨o, ho, hc⟩ := ow
    have ho2 : ∃ kvs, o = .dT kvs ∧ PT X.K Hb kvs ds := by
      cases hc with
      | dT a => exact ⟨_, rfl, a⟩
      | dK a =>
        cases a with
        | cons q r =>
          obtain ⟨q1, _⟩ := q
          exact (keyD_ne q1).elim
    obtain ⟨kvs, rfl, al⟩ := ho2
    refine ⟨_, hp, p, rfl, .inr ⟨kvs, .inl ho⟩, Hf, Hb, ρ, R, fun d hd v Hb1 H1 g1 r1 => ?_, fun c hc Hb1 H1 g1 => ?_, fun z => ?_⟩
    · simp only [hd] at h1 h2 h3
      refine ⟨Hf, Hb1, ρ, R.gw g1, fun d2 hd2 v2 Hb2 H2 g2 r2 => ?_, fun c hc Hb2 H2 g2 => ?_, fun z => ?_⟩
      · simp only [hd2] at h1 h2 h3
        split at h1
        · rename_i kk hkk
          split at h1
          · rename_i hz
            have gg := g1.trans g2
            have ho' := gg.h _ _ ho
            have hb2 : Hb2 p = none := gg.nw p hbp (by rw [ho]; exact True.intro)
            have al2 : PT X.K Hb2 kvs ds := Paired.imp (fun _ _ q => ⟨q.1, dr_ex gg.b q.2⟩) al
            obtain ⟨b, rfl, hb⟩ := Bo.tkey (H := H2) g2.bh (.inl (dr_ex g2.b r1)) hkk
            refine ⟨kvs, kk, b, ho', rfl, hb, by rw [pt_len al]; exact hz, fun x hx => ?_, fun hx => ?_⟩
            · rcases pt_find (k := kk) al2 with ⟨z1, z2⟩ | ⟨w, d', z1, z2, z3⟩
              · rw [z1] at hx
                cases hx
              · rw [z1] at hx
                cases hx
                simp only [z2] at h1
                exact h1 d' ρ rfl _ Hb2 H2 (R.gw gg) (gg.bw R.ef) z3
            · rcases pt_find (k := kk) al2 with ⟨z1, z2⟩ | ⟨w, d', z1, z2, z3⟩
              · simp only [z2] at h1
                exact h1 d2 _ rfl v2 Hb2 _ ((R.gw gg).write hi hp (.dT (pt_put r2 al2))) ((gg.bw R.ef).trans (Bw.upd g2.bh hb2)) r2
              · rw [z1] at hx
                cases hx
          · rename_i hz
            simp only [hkk, hz, if_false] at h3
            exact absurd rfl h3
        · rename_i hkk
          simp only [hkk] at h3
          exact absurd rfl h3
      · simp only [hc] at h2
        exact h2 c ρ rfl Hb2 H2 (R.gw (g1.trans g2)) ((g1.trans g2).bw R.ef)
      · simp only [z] at h3
        exact absurd rfl h3
    · simp only [hc] at h2
      exact h2 c ρ rfl Hb1 H1 (R.gw g1) (g1.bw R.ef)
    · simp only [z] at h3
      exact absurd rfl h3
  · rename_i hno
    exfalso
    apply h3
    split
    · rename_i c hi
      exact absurd hi (hno c)
    · rfl
theorem ds_setLX {rk : Kd} (i : Nat) {x : Str} {k v : Expr} {mk : EM} {mv : XM} {p pos' : Pos} (hk : DE X W .bor k mk) (hv : DX X W v mv) (hN : X.N[i]? = some x := by rfl) (hvis : Vis X.env.scope x := by first | exact Or.inl rfl | exact Or.inr (Or.inl rfl) | exact Or.inr (Or.inr rfl)) (hd : (x == ("__debug__" : Str)) = false := by decide)
    (hcd : (x == ("__classdict__" : Str)) = false := by decide) (hs : swapsWithSole [.Subscript (.Name x p) k pos'] v pos.line X.env = pure false := by rfl) (hw : swappedStores [.Subscript (.Name x p) k pos'] v X.env = pure none := by rfl) (h1 : (assignEach [.Subscript (.Name x p) k pos'] X.env).map (·.2) = [assign (.Subscript (.Name x p) k pos') X.env] := by rfl)
    (ha : ∀ v, assign (.Subscript (.Name x p) k pos') X.env v = (do
      let ov ← holding [v] (eval (.Name x p) X.env)
      let iv ← holding [v, ov] (eval k X.env)
      standAt pos'
      holding [v, ov, iv] (setItem ov iv v)
      release [v, ov, iv] []) := by intro _; rfl) :
    DS X W rk (.Assign [.Subscript (.Name x p) k pos'] v pos) (sSetLX i mk mv) :=
  PS.imp (ps_asg hv (pg_sub (pe_var hN hvis hd hcd) hk set_list ha) hs hw h1) fun E σ H ⟨Hf, Hb, ρ, R, h⟩ => by
  unfold sSetLX at h
  refine ⟨Hf, Hb, ρ, R, fun d ρ1 hd v Hb1 H1 R1 b1 r1 => ?_, fun c ρ1 hc Hb1 H1 R1 b1 => ?_, fun z => ?_⟩
  · rw [hd] at h
    simp only at h
    split at h
    · rename_i ds q
      obtain ⟨p, h1, ⟨o, ho, hc⟩, h3, h4⟩ := R1.own i _ q
      cases hc with
      | lst al =>
        refine ⟨_, h1, Hf, Hb1, ρ1, R1, fun d2 hd2 y Hb2 H2 g2 r2 => ?_, fun c hc Hb2 H2 g2 => ?_, fun z => ?_⟩
        · rw [hd2] at h
          cases d2 with
          | int kk =>
            simp only at h
            split at h
            · rename_i jj hj
              have ho' := g2.h _ _ ho
              have R2 := R1.gw g2
              have hb2 : Hb2 p = none := g2.nw p h4 (by rw [ho]; exact True.intro)
              refine ⟨p, _, kk, jj, rfl, r2.int, ho', by rw [drAll_len al]; exact hj, ?_⟩
              exact h σ Hb2 _ (R2.write q h1 (.lst (drAll_set jj (dr_ex g2.b r1) (drAll_ex g2.b al)))) ((b1.trans (g2.bw R1.ef)).trans (Bw.upd g2.bh hb2))
            · exact h.elim
          | _ => exact h.elim
        · rw [hc] at h
          exact h σ Hb2 H2 (R1.gw g2) (b1.trans (g2.bw R1.ef))
        · rw [z] at h
          exact h.elim
    · exact h.elim
  · rw [hc] at h
    exact h σ Hb1 H1 R1 b1
  · rw [z] at h
    exact h.elim
end
end DL

namespace Sb
open PySem PySem.Spec L2 Evl DL
def xs : List Str := ["BookError", "NoRules", "TooMany", "TooLong", "NoName", "NoPlace"]
def b__law_sign_by : SM := (sRet (eBin dIx (eC (.str "0123456789ABCDEFGHIJKLMNOPQRSTUVWXYZabcdefghijklmnopqrstuvwxyz")) (eBin dMod (eVarD 0) (eC (.int 62)))))
def m__law_sign_by : List D → ER := runM [.dat] 0 b__law_sign_by

def b__law_twin : SM := (sSeq (sAsg 2 (eVarD 1))
  (sSeq (sFor (iR1 (eCall bLen [(eVar 0)])) (gN 3) (sIf (eBin dEq (eBin dIx (eVar 0) (eVarD 3)) (eBin dIx (eVar 0) (eVarD 1))) (sAsg 2 (eVarD 3)) sSkip))
  (sRet (eVarD 2))))
def m__law_twin : List D → ER := runM [.bor, .dat] 2 b__law_twin

def b__law_echo : SM := (sSeq (sIf (eBin dEq (eBin dIx (eVarD 1) (eC (.int 0))) (eC (.str "sign"))) (sRet (eVarD 1)) sSkip)
  (sSeq (sIf (eBin dEq (eBin dIx (eVarD 1) (eC (.int 0))) (eC (.str "join"))) (sRet (eTup [(eC (.str "join")), (eCall m__law_twin [(eVar 0), (eBin dIx (eVarD 1) (eC (.int 1)))]), (eCall m__law_twin [(eVar 0), (eBin dIx (eVarD 1) (eC (.int 2)))])])) sSkip)
  (sRet (eTup [(eC (.str "times")), (eCall m__law_twin [(eVar 0), (eBin dIx (eVarD 1) (eC (.int 1)))]), (eBin dIx (eVarD 1) (eC (.int 2)))]))))
def m__law_echo : List D → ER := runM [.bor, .dat] 0 b__law_echo

def b__law_earlier : SM := (sSeq (sAsg 2 (eBin dMod (eBin dDiv (eVarD 0) (eC (.int 2))) (eVarD 1)))
  (sSeq (sIf (eBin dEq (eBin dMod (eVarD 0) (eC (.int 2))) (eC (.int 1))) (sAsg 2 (eBin dMod (eBin dDiv (eVarD 0) (eC (.int 2))) (eCall bMin [(eVarD 1), (eC (.int 2))]))) sSkip)
  (sRet (eBin dSub (eBin dSub (eVarD 1) (eC (.int 1))) (eVarD 2)))))
def m__law_earlier : List D → ER := runM [.dat, .dat] 1 b__law_earlier

def b__law_times : SM := (sSeq (sIf (eBin dLt (eBin dMod (eVarD 0) (eC (.int 4))) (eC (.int 2))) (sRet (eBin dAdd (eC (.int 1)) (eBin dMod (eBin dDiv (eVarD 0) (eC (.int 4))) (eC (.int 5))))) sSkip)
  (sSeq (sIf (eBin dEq (eBin dMod (eVarD 0) (eC (.int 4))) (eC (.int 2))) (sRet (eBin dAdd (eC (.int 1)) (eBin dMod (eBin dDiv (eVarD 0) (eC (.int 4))) (eC (.int 10007))))) sSkip)
  (sRet (eBin dAdd (eC (.int 1)) (eBin dMod (eBin dMul (eBin dDiv (eVarD 0) (eC (.int 4))) (eC (.int 1152921504606846883))) (eBin dPow (eC (.int 2)) (eC (.int 60))))))))
def m__law_times : List D → ER := runM [.dat] 0 b__law_times

def b__law_rule : SM := (sSeq (sIf (eBin dEq (eBin dMod (eVarD 0) (eC (.int 8))) (eC (.int 0))) (sRet (eTup [(eC (.str "sign")), (eCall m__law_sign_by [(eBin dDiv (eVarD 0) (eC (.int 8)))])])) sSkip)
  (sSeq (sAsg 3 (eCall m__law_earlier [(eBin dMod (eBin dDiv (eVarD 0) (eC (.int 8))) (eC (.int 4096))), (eCall bLen [(eVar 1)])]))
  (sSeq (sIf (eBin dLt (eBin dMod (eVarD 0) (eC (.int 8))) (eC (.int 5))) (sSeq (sAsg 4 (eCall m__law_earlier [(eBin dMod (eBin dDiv (eVarD 0) (eC (.int 32768))) (eC (.int 4096))), (eCall bLen [(eVar 1)])]))
  (sIf (eBin dLe (eBin dAdd (eBin dIx (eVar 1) (eVarD 3)) (eBin dIx (eVar 1) (eVarD 4))) (eVarD 2)) (sRet (eTup [(eC (.str "join")), (eVarD 3), (eVarD 4)])) sSkip)) sSkip)
  (sRet (eTup [(eC (.str "times")), (eVarD 3), (eCall bMax [(eC (.int 1)), (eCall bMin [(eCall m__law_times [(eBin dDiv (eVarD 0) (eC (.int 32768)))]), (eBin dDiv (eVarD 2) (eBin dIx (eVar 1) (eVarD 3)))])])])))))
def m__law_rule : List D → ER := runM [.dat, .bor, .dat] 2 b__law_rule

def b__law_size : SM := (sSeq (sIf (eBin dEq (eBin dIx (eVarD 0) (eC (.int 0))) (eC (.str "sign"))) (sRet (eC (.int 1))) sSkip)
  (sSeq (sIf (eBin dEq (eBin dIx (eVarD 0) (eC (.int 0))) (eC (.str "join"))) (sRet (eBin dAdd (eBin dIx (eVar 1) (eBin dIx (eVarD 0) (eC (.int 1)))) (eBin dIx (eVar 1) (eBin dIx (eVarD 0) (eC (.int 2)))))) sSkip)
  (sRet (eBin dMul (eBin dIx (eVar 1) (eBin dIx (eVarD 0) (eC (.int 1)))) (eBin dIx (eVarD 0) (eC (.int 2)))))))
def m__law_size : List D → ER := runM [.dat, .bor] 0 b__law_size

def b__law_again : SM := (sSeq (sAsgN 1 (eLst [(eTup [(eC (.str "sign")), (eCall m__law_sign_by [(eBin dIx (eVarD 0) (eC (.int 0)))])]), (eTup [(eC (.str "sign")), (eCall m__law_sign_by [(eBin dDiv (eBin dIx (eVarD 0) (eC (.int 0))) (eC (.int 62)))])])]))
  (sSeq (sAsgN 2 (eLst [(eC (.int 1)), (eC (.int 1))]))
  (sSeq (sFor (iL (eSl (eVarD 0) (some (eC (.int 1))) none)) (gN 3) (sSeq (sAsg 4 (eBin dIx (eVar 1) (eBin dMod (eBin dDiv (eVarD 3) (eC (.int 4))) (eCall bLen [(eVar 1)]))))
  (sSeq (sIf (eBin dEq (eBin dMod (eVarD 3) (eC (.int 4))) (eC (.int 1))) (sAsg 4 (eCall m__law_echo [(eVar 1), (eVarD 4)])) sSkip)
  (sSeq (sIf (eBin dGt (eBin dMod (eVarD 3) (eC (.int 4))) (eC (.int 1))) (sSeq (sAsg 5 (eBin dDiv (eVarD 3) (eC (.int 4))))
  (sSeq (sAsg 6 (eFrz (eLst [(eC (.int 0)), (eC (.int 1)), (eC (.int 4)), (eC (.int 5)), (eC (.int 6)), (eBin dDiv (eVarD 5) (eC (.int 384)))])))
  (sAsg 4 (eCall m__law_rule [(eBin dAdd (eBin dMod (eVarD 5) (eC (.int 64))) (eBin dMul (eC (.int 32768)) (eBin dIx (eVarD 6) (eBin dMod (eBin dDiv (eVarD 5) (eC (.int 64))) (eC (.int 6)))))), (eVar 2), (eBin dPow (eC (.int 2)) (eC (.int 60)))])))) sSkip)
  (sSeq (sApp 1 (eVarD 4))
  (sApp 2 (eCall m__law_size [(eVarD 4), (eVar 2)])))))))
  (sRet (eCall bTuple [(eVar 1)])))))
def m__law_again : List D → ER := runM [.dat] 6 b__law_again

def b__law_lengths : SM := (sSeq (sAsgN 1 (eLst []))
  (sSeq (sFor (iT (eVarD 0)) (gN 2) (sApp 1 (eCall m__law_size [(eVarD 2), (eVar 1)])))
  (sRetO 1)))
def m__law_lengths : List D → ER := runM [.dat] 2 b__law_lengths

def b__law_deeper : SM := (sSeq (sIf (eBin dNe (eBin dMod (eVarD 1) (eC (.int 24))) (eC (.int 3))) (sRet (eVarD 0)) sSkip)
  (sSeq (sAsg 2 (eCall bLen [(eVarD 0)]))
  (sSeq (sIf (eAnd (eBin dEq (eBin dMod (eBin dDiv (eVarD 1) (eC (.int 24))) (eC (.int 2))) (eC (.int 1))) (eBin dLt (eBin dIx (eCall m__law_lengths [(eVarD 0)]) (eUn dNeg (eC (.int 1)))) (eBin dPow (eC (.int 2)) (eC (.int 59))))) (sRet (eBin dAdd (eVarD 0) (eCall bTuple [(eLc (iR1 (eBin dSub (eC (.int 980)) (eVarD 2))) (gN 3) (eC (.bool true)) (eTup [(eC (.str "join")), (eC (.int 0)), (eBin dAdd (eBin dSub (eVarD 2) (eC (.int 1))) (eVarD 3))]) [3])]))) sSkip)
  (sRet (eBin dAdd (eVarD 0) (eCall bTuple [(eLc (iR1 (eBin dSub (eC (.int 980)) (eVarD 2))) (gN 3) (eC (.bool true)) (eTup [(eC (.str "times")), (eBin dAdd (eBin dSub (eVarD 2) (eC (.int 1))) (eVarD 3)), (eC (.int 1))]) [3])]))))))
def m__law_deeper : List D → ER := runM [.dat, .dat] 2 b__law_deeper

def b__law_name : SM := (sSeq (sIf (eBin dEq (eBin dMod (eVarD 0) (eC (.int 8))) (eC (.int 0))) (sRet (eC .none)) sSkip)
  (sSeq (sIf (eBin dLt (eBin dMod (eVarD 0) (eC (.int 8))) (eC (.int 4))) (sRet (eBin dSub (eVarD 1) (eC (.int 1)))) sSkip)
  (sRet (eBin dMod (eBin dDiv (eVarD 0) (eC (.int 8))) (eVarD 1)))))
def m__law_name : List D → ER := runM [.dat, .dat] 0 b__law_name

def b__law_far : SM := (sRet (eBin dIx (eLst [(eC (.int 0)), (eBin dMod (eBin dDiv (eVarD 0) (eC (.int 3))) (eC (.int 7))), (eBin dDiv (eVarD 0) (eC (.int 3)))]) (eBin dMod (eVarD 0) (eC (.int 3)))))
def m__law_far : List D → ER := runM [.dat] 0 b__law_far

def b__law_renamed : SM := (sSeq (sIf (eBin dEq (eBin dIx (eVarD 0) (eC (.int 0))) (eC (.str "sign"))) (sRet (eVarD 0)) sSkip)
  (sSeq (sIf (eBin dEq (eBin dIx (eVarD 0) (eC (.int 0))) (eC (.str "join"))) (sRet (eTup [(eC (.str "join")), (eBin dIx (eVar 1) (eBin dIx (eVarD 0) (eC (.int 1)))), (eBin dIx (eVar 1) (eBin dIx (eVarD 0) (eC (.int 2))))])) sSkip)
  (sRet (eTup [(eC (.str "times")), (eBin dIx (eVar 1) (eBin dIx (eVarD 0) (eC (.int 1)))), (eBin dIx (eVarD 0) (eC (.int 2)))]))))
def m__law_renamed : List D → ER := runM [.dat, .bor] 0 b__law_renamed

def b__law_tidied : SM := (sSeq (sAsgN 2 (eBin dRepL (eLst [(eC (.bool false))]) (eCall bLen [(eVarD 0)])))
  (sSeq (sSetL 2 (eVarD 1) (eC (.bool true)))
  (sSeq (sFor (iR3 (eBin dSub (eCall bLen [(eVarD 0)]) (eC (.int 1))) (eUn dNeg (eC (.int 1))) (eUn dNeg (eC (.int 1)))) (gN 3) (sIf (eAnd (eBin dIx (eVar 2) (eVarD 3)) (eBin dNe (eBin dIx (eBin dIx (eVarD 0) (eVarD 3)) (eC (.int 0))) (eC (.str "sign")))) (sSeq (sSetL 2 (eBin dIx (eBin dIx (eVarD 0) (eVarD 3)) (eC (.int 1))) (eC (.bool true)))
  (sIf (eBin dEq (eBin dIx (eBin dIx (eVarD 0) (eVarD 3)) (eC (.int 0))) (eC (.str "join"))) (sSetL 2 (eBin dIx (eBin dIx (eVarD 0) (eVarD 3)) (eC (.int 2))) (eC (.bool true))) sSkip)) sSkip))
  (sSeq (sAsgN 4 (eC (tD [])))
  (sSeq (sAsgN 5 (eBin dRepL (eLst [(eC (.int 0))]) (eCall bLen [(eVarD 0)])))
  (sSeq (sFor (iR1 (eCall bLen [(eVarD 0)])) (gN 3) (sIf (eBin dIx (eVar 2) (eVarD 3)) (sSetLX 5 (eVarD 3) (xSetT 4 (eCall m__law_renamed [(eBin dIx (eVarD 0) (eVarD 3)), (eVar 5)]) (eCall bLenT [(eVar 4)]))) sSkip))
  (sRet (eUn dTupK (eVar 4)))))))))
def m__law_tidied : List D → ER := runM [.dat, .dat] 4 b__law_tidied

def b_named : SM := (sIf (eAnd (eBin dIsNot (eVarD 1) (eC .none)) (eNot (eChain dLe dLt (eC (.int 0)) (eVarD 1) (eCall bLen [(eVarD 0)])))) (sRaise "NoName") sSkip)
def m_named : List D → ER := runM [.dat, .dat] 0 b_named

def b_parts_of : SM := (sSeq (sIf (eBin dEq (eBin dIx (eVarD 0) (eC (.int 0))) (eC (.str "sign"))) (sRet (eLst [])) sSkip)
  (sSeq (sIf (eBin dEq (eBin dIx (eVarD 0) (eC (.int 0))) (eC (.str "join"))) (sRet (eLst [(eBin dIx (eVarD 0) (eC (.int 1))), (eBin dIx (eVarD 0) (eC (.int 2)))])) sSkip)
  (sRet (eLst [(eBin dIx (eVarD 0) (eC (.int 1)))]))))
def m_parts_of : List D → ER := runM [.dat] 0 b_parts_of

def b_needed : SM := (sSeq (sIf (eBin dIs (eVarD 1) (eC .none)) (sRet (eLst [])) sSkip)
  (sSeq (sAsgN 2 (eD1 (eVarD 1) (eC (.bool true))))
  (sSeq (sFor (iR3 (eVarD 1) (eUn dNeg (eC (.int 1))) (eUn dNeg (eC (.int 1)))) (gN 3) (sIf (eBin (dInD false) (eVarD 3) (eVar 2)) (sFor (iL (eFrz (eCall m_parts_of [(eBin dIx (eVarD 0) (eVarD 3))]))) (gN 4) (sPutD 2 (eVarD 4) (eC (.bool true)))) sSkip))
  (sRet (eUn dSortK (eVar 2))))))
def m_needed : List D → ER := runM [.dat, .dat] 3 b_needed

def b_renamed : SM := (sSeq (sIf (eBin dEq (eBin dIx (eVarD 0) (eC (.int 0))) (eC (.str "sign"))) (sRet (eVarD 0)) sSkip)
  (sSeq (sIf (eBin dEq (eBin dIx (eVarD 0) (eC (.int 0))) (eC (.str "join"))) (sRet (eTup [(eC (.str "join")), (eBin dIxA (eVar 1) (eBin dIx (eVarD 0) (eC (.int 1)))), (eBin dIxA (eVar 1) (eBin dIx (eVarD 0) (eC (.int 2))))])) sSkip)
  (sRet (eTup [(eC (.str "times")), (eBin dIxA (eVar 1) (eBin dIx (eVarD 0) (eC (.int 1)))), (eBin dIx (eVarD 0) (eC (.int 2)))]))))
def m_renamed : List D → ER := runM [.dat, .bor] 0 b_renamed

def b_put : SM := (sSeq (sApp 0 (eVarD 1))
  (sRetI (eBin dSub (eCall bLen [(eVar 0)]) (eC (.int 1)))))
def m_put : List D → ER := runIO 0 b_put

def b_tidy : SM := (sSeq (sDrop (eCall m_named [(eVarD 0), (eVarD 1)]))
  (sSeq (sAsgN 2 (eLst []))
  (sSeq (sAsgN 3 (eC (tD [])))
  (sSeq (sAsgN 4 (eC (.dict [])))
  (sSeq (sFor (iL (eFrz (eCall m_needed [(eVarD 0), (eVarD 1)]))) (gN 5) (sSeq (sAsg 6 (eCall m_renamed [(eBin dIx (eVarD 0) (eVarD 5)), (eVar 4)]))
  (sSeq (sIf (eBin (dInT true) (eVarD 6) (eVar 3)) (sPutTX 3 (eVarD 6) (xCall 2 m_put [(eVarD 6)])) sSkip)
  (sPutD 4 (eVarD 5) (eBin dTGet (eVar 3) (eVarD 6))))))
  (sRet (eTup [(eCall bTuple [(eVar 2)]), (eGetN (eVar 4) (eVarD 1))])))))))
def m_tidy : List D → ER := runM [.dat, .dat] 5 b_tidy

def b__law_whole : SM := (sRet (eAnd (eIsi "int" (eVarD 0)) (eNot (eIsi "bool" (eVarD 0)))))
def m__law_whole : List D → ER := runM [.dat] 0 b__law_whole

def b__law_good_rule : SM := (sSeq (sIf (eOr (eNot (eIsi "tuple" (eVarD 0))) (eOr (eBin dLt (eCall bLen [(eVarD 0)]) (eC (.int 2))) (eNot (eIsi "str" (eBin dIx (eVarD 0) (eC (.int 0))))))) (sRet (eC (.bool false))) sSkip)
  (sSeq (sIf (eAnd (eBin dEq (eBin dIx (eVarD 0) (eC (.int 0))) (eC (.str "sign"))) (eBin dEq (eCall bLen [(eVarD 0)]) (eC (.int 2)))) (sSeq (sIf (eOr (eNot (eIsi "str" (eBin dIx (eVarD 0) (eC (.int 1))))) (eBin dNe (eCall bLen [(eBin dIx (eVarD 0) (eC (.int 1)))]) (eC (.int 1)))) (sRet (eC (.bool false))) sSkip)
  (sRet (eBin (dInS false) (eBin dIx (eVarD 0) (eC (.int 1))) (eC (.str "0123456789ABCDEFGHIJKLMNOPQRSTUVWXYZabcdefghijklmnopqrstuvwxyz"))))) sSkip)
  (sSeq (sIf (eOr (eBin dNe (eCall bLen [(eVarD 0)]) (eC (.int 3))) (eOr (eNot (eCall m__law_whole [(eBin dIx (eVarD 0) (eC (.int 1)))])) (eOr (eNot (eChain dLe dLt (eC (.int 0)) (eBin dIx (eVarD 0) (eC (.int 1))) (eVarD 1))) (eNot (eCall m__law_whole [(eBin dIx (eVarD 0) (eC (.int 2)))]))))) (sRet (eC (.bool false))) sSkip)
  (sSeq (sIf (eBin dEq (eBin dIx (eVarD 0) (eC (.int 0))) (eC (.str "join"))) (sRet (eChain dLe dLt (eC (.int 0)) (eBin dIx (eVarD 0) (eC (.int 2))) (eVarD 1))) sSkip)
  (sRet (eAnd (eBin dEq (eBin dIx (eVarD 0) (eC (.int 0))) (eC (.str "times"))) (eChain dLe dLe (eC (.int 1)) (eBin dIx (eVarD 0) (eC (.int 2))) (eBin dPow (eC (.int 2)) (eC (.int 60))))))))))
def m__law_good_rule : List D → ER := runM [.dat, .dat] 0 b__law_good_rule

def b__law_told : SM := (sSeq (sIf (eOr (eNot (eIsi "tuple" (eVarD 0))) (eOr (eBin dNe (eCall bLen [(eVarD 0)]) (eC (.int 2))) (eNot (eIsi "tuple" (eBin dIx (eVarD 0) (eC (.int 0))))))) (sRet (eC .none)) sSkip)
  (sSeq (sAsgG (gT [(gN 3), (gN 4)]) (eVarD 0))
  (sSeq (sIf (eOr (eBin dNe (eSl (eVarD 3) none (some (eCall bLen [(eVarD 1)]))) (eVarD 1)) (eBin dGt (eCall bLen [(eVarD 3)]) (eBin dAdd (eCall bLen [(eVarD 1)]) (eVarD 2)))) (sRet (eC .none)) sSkip)
  (sSeq (sAsgN 5 (eLst []))
  (sSeq (sFor (iR1 (eCall bLen [(eVarD 3)])) (gN 6) (sSeq (sIf (eNot (eCall m__law_good_rule [(eBin dIx (eVarD 3) (eVarD 6)), (eVarD 6)])) (sRet (eC .none)) sSkip)
  (sApp 5 (eCall m__law_size [(eBin dIx (eVarD 3) (eVarD 6)), (eVar 5)]))))
  (sSeq (sIf (eAnd (eBin dIsNot (eVarD 4) (eC .none)) (eOr (eNot (eCall m__law_whole [(eVarD 4)])) (eNot (eChain dLe dLt (eC (.int 0)) (eVarD 4) (eCall bLen [(eVarD 3)]))))) (sRet (eC .none)) sSkip)
  (sSeq (sIf (eBin dGt (eCall bMax [(eBin dAdd (eLst [(eC (.int 0))]) (eVar 5))]) (eBin dPow (eC (.int 2)) (eC (.int 60)))) (sRet (eC .none)) sSkip)
  (sRetF 5))))))))
def m__law_told : List D → ER := runM [.dat, .dat, .dat] 4 b__law_told

def b__law_cell : SM := (sSeq (sIf (eBin dLt (eVarD 1) (eCall bLen [(eVarD 0)])) (sRet (eBin dMod (eBin dMul (eBin dIx (eVarD 0) (eVarD 1)) (eC (.int 2718281828459045235360287471352662497757))) (eBin dPow (eC (.int 10)) (eC (.int 40))))) sSkip)
  (sSeq (sAsg 2 (eBin dAdd (eBin dMul (eBin dMul (eVarD 1) (eVarD 1)) (eC (.int 7919))) (eC (.int 5))))
  (sSeq (sIf (eBin dGt (eCall bLen [(eVarD 0)]) (eC (.int 0))) (sAsg 2 (eBin dAdd (eVarD 2) (eBin dMul (eBin dMod (eBin dIx (eVarD 0) (eBin dMod (eBin dMul (eVarD 1) (eC (.int 7))) (eCall bLen [(eVarD 0)]))) (eBin dPow (eC (.int 10)) (eC (.int 40)))) (eC (.int 48271))))) sSkip)
  (sRet (eBin dMod (eBin dMul (eVarD 2) (eVarD 2)) (eC (.int 2147483629)))))))
def m__law_cell : List D → ER := runM [.dat, .dat] 1 b__law_cell

def b__law_cells : SM := (sRet (eLc (iR2 (eVarD 1) (eCall bMin [(eVarD 2), (eCall bLen [(eVarD 0)])])) (gN 3) (eC (.bool true)) (eCall m__law_cell [(eVarD 0), (eVarD 3)]) [3]))
def m__law_cells : List D → ER := runM [.dat, .dat, .dat] 1 b__law_cells

def b__law_no_name : SM := (sSeq (sAsg 2 (eC (.bool false)))
  (sSeq (sAsg 3 (eC .none))
  (sSeq (sTry xs (sDrop (eCall m_tidy [(eVarD 0), (eVarD 1)])) [("NoName", (sAsg 2 (eC (.bool true))))])
  (sSeq (sTryAs xs (sDrop (eCall m_tidy [(eVarD 0), (eVarD 1)])) "BookError" 4 (fun c => (sAsg 3 (eFrz (eLst [(eC (.bool (List.any ["NoPlace", "NoRules"] fun T => subX c T))), (eC (.bool (List.any ["TooLong", "TooMany"] fun T => subX c T)))])))))
  (sRet (eAnd (eVarD 2) (eBin dEq (eVarD 3) (eLst [(eC (.bool false)), (eC (.bool false))]))))))))
def m__law_no_name : List D → ER := runM [.dat, .dat] 3 b__law_no_name

def b_law : SM := (sSeq (sAsg 1 (eCall m__law_again [(eBin dAdd (eLst [(eCall m__law_cell [(eVarD 0), (eC (.int 0))])]) (eCall m__law_cells [(eVarD 0), (eC (.int 2)), (eC (.int 52))]))]))
  (sSeq (sAsg 1 (eCall m__law_deeper [(eVarD 1), (eBin dDiv (eCall m__law_cell [(eVarD 0), (eC (.int 0))]) (eC (.int 3844)))]))
  (sSeq (sAsg 2 (eCall m__law_name [(eCall m__law_cell [(eVarD 0), (eC (.int 1))]), (eCall bLen [(eVarD 1)])]))
  (sSeq (sAsg 3 (eCall m__law_far [(eBin dDiv (eCall m__law_cell [(eVarD 0), (eC (.int 1))]) (eC (.int 8)))]))
  (sSeq (sIf (eOr (eNot (eCall m__law_no_name [(eVarD 1), (eBin dAdd (eCall bLen [(eVarD 1)]) (eVarD 3))])) (eNot (eCall m__law_no_name [(eVarD 1), (eBin dSub (eUn dNeg (eC (.int 1))) (eVarD 3))]))) (sRet (eC (.bool false))) sSkip)
  (sSeq (sIf (eBin dNe (eCall m_tidy [(eVarD 1), (eC .none)]) (eTup [(eTup []), (eC .none)])) (sRet (eC (.bool false))) sSkip)
  (sSeq (sIf (eBin dIs (eVarD 2) (eC .none)) (sAsg 2 (eC (.int 0))) sSkip)
  (sSeq (sAsg 4 (eCall m__law_tidied [(eVarD 1), (eVarD 2)]))
  (sSeq (sAsg 5 (eCall m_tidy [(eVarD 1), (eVarD 2)]))
  (sSeq (sAsg 6 (eCall m__law_told [(eVarD 5), (eTup []), (eCall bLen [(eVarD 1)])]))
  (sSeq (sIf (eOr (eBin dIs (eVarD 6) (eC .none)) (eOr (eBin dNe (eBin dIx (eVarD 5) (eC (.int 0))) (eVarD 4)) (eBin dNe (eBin dIx (eVarD 5) (eC (.int 1))) (eBin dSub (eCall bLen [(eVarD 4)]) (eC (.int 1)))))) (sRet (eC (.bool false))) sSkip)
  (sSeq (sIf (eBin dNe (eCall m_tidy [(eBin dIx (eVarD 5) (eC (.int 0))), (eBin dIx (eVarD 5) (eC (.int 1)))]) (eVarD 5)) (sRet (eC (.bool false))) sSkip)
  (sSeq (sDrop (eCall m_tidy [(eVarD 1), (eC (.int 1))]))
  (sRet (eBin dEq (eCall m_tidy [(eVarD 1), (eVarD 2)]) (eVarD 5))))))))))))))))
def m_law : List D → ER := runM [.dat] 6 b_law

end Sb

namespace Sb
open PySem PySem.Spec L2 Evl DL
def top (i : Nat) : Stmt := PySem.Challenge.pw_shortbook_k17_tidy.main.body.getD i (.Pass ⟨0, 0, 0, 0⟩)
abbrev s__law_sign_by : Stmt := top 20
def d__law_sign_by : He.DefD := ⟨("_law_sign_by", none), "_law_sign_by", "_law_sign_by", defArgs s__law_sign_by, defBody s__law_sign_by, defScope s__law_sign_by, [], []⟩
theorem sc__law_sign_by : FnScope ["_law_cell_here"] ["_law_cell_here"] (defScope s__law_sign_by) := ⟨rfl, rfl, rfl, by decide +kernel, rfl, by decide +kernel, by decide +kernel⟩

abbrev s__law_twin : Stmt := top 32
def d__law_twin : He.DefD := ⟨("_law_twin", none), "_law_twin", "_law_twin", defArgs s__law_twin, defBody s__law_twin, defScope s__law_twin, [], []⟩
theorem sc__law_twin : FnScope ["_law_rules_here", "_law_one", "_law_found", "_law_k"] ["_law_rules_here", "_law_one"] (defScope s__law_twin) := ⟨rfl, rfl, rfl, by decide +kernel, rfl, by decide +kernel, by decide +kernel⟩

abbrev s__law_echo : Stmt := top 33
def d__law_echo : He.DefD := ⟨("_law_echo", none), "_law_echo", "_law_echo", defArgs s__law_echo, defBody s__law_echo, defScope s__law_echo, [], []⟩
theorem sc__law_echo : FnScope ["_law_rules_here", "_law_rule_here"] ["_law_rules_here", "_law_rule_here"] (defScope s__law_echo) := ⟨rfl, rfl, rfl, by decide +kernel, rfl, by decide +kernel, by decide +kernel⟩

abbrev s__law_earlier : Stmt := top 21
def d__law_earlier : He.DefD := ⟨("_law_earlier", none), "_law_earlier", "_law_earlier", defArgs s__law_earlier, defBody s__law_earlier, defScope s__law_earlier, [], []⟩
theorem sc__law_earlier : FnScope ["_law_cell_here", "_law_many", "_law_back"] ["_law_cell_here", "_law_many"] (defScope s__law_earlier) := ⟨rfl, rfl, rfl, by decide +kernel, rfl, by decide +kernel, by decide +kernel⟩

abbrev s__law_times : Stmt := top 22
def d__law_times : He.DefD := ⟨("_law_times", none), "_law_times", "_law_times", defArgs s__law_times, defBody s__law_times, defScope s__law_times, [], []⟩
theorem sc__law_times : FnScope ["_law_cell_here"] ["_law_cell_here"] (defScope s__law_times) := ⟨rfl, rfl, rfl, by decide +kernel, rfl, by decide +kernel, by decide +kernel⟩

abbrev s__law_rule : Stmt := top 23
def d__law_rule : He.DefD := ⟨("_law_rule", none), "_law_rule", "_law_rule", defArgs s__law_rule, defBody s__law_rule, defScope s__law_rule, [], []⟩
theorem sc__law_rule : FnScope ["_law_cell_here", "_law_sizes", "_law_most", "_law_one", "_law_other"] ["_law_cell_here", "_law_sizes", "_law_most"] (defScope s__law_rule) := ⟨rfl, rfl, rfl, by decide +kernel, rfl, by decide +kernel, by decide +kernel⟩

abbrev s__law_size : Stmt := top 24
def d__law_size : He.DefD := ⟨("_law_size", none), "_law_size", "_law_size", defArgs s__law_size, defBody s__law_size, defScope s__law_size, [], []⟩
theorem sc__law_size : FnScope ["_law_rule_here", "_law_sizes"] ["_law_rule_here", "_law_sizes"] (defScope s__law_size) := ⟨rfl, rfl, rfl, by decide +kernel, rfl, by decide +kernel, by decide +kernel⟩

abbrev s__law_again : Stmt := top 34
def d__law_again : He.DefD := ⟨("_law_again", none), "_law_again", "_law_again", defArgs s__law_again, defBody s__law_again, defScope s__law_again, [], []⟩
theorem sc__law_again : FnScope ["_law_cells_here", "_law_rules_here", "_law_sizes", "_law_cell_here", "_law_rule_here", "_law_few", "_law_some"] ["_law_cells_here"] (defScope s__law_again) := ⟨rfl, rfl, rfl, by decide +kernel, rfl, by decide +kernel, by decide +kernel⟩

abbrev s__law_lengths : Stmt := top 38
def d__law_lengths : He.DefD := ⟨("_law_lengths", none), "_law_lengths", "_law_lengths", defArgs s__law_lengths, defBody s__law_lengths, defScope s__law_lengths, [], []⟩
theorem sc__law_lengths : FnScope ["_law_rules_here", "_law_sizes", "_law_rule_here"] ["_law_rules_here"] (defScope s__law_lengths) := ⟨rfl, rfl, rfl, by decide +kernel, rfl, by decide +kernel, by decide +kernel⟩

abbrev s__law_deeper : Stmt := top 39
def d__law_deeper : He.DefD := ⟨("_law_deeper", none), "_law_deeper", "_law_deeper", defArgs s__law_deeper, defBody s__law_deeper, defScope s__law_deeper, [], []⟩
theorem sc__law_deeper : FnScope ["_law_rules_here", "_law_cell_here", "_law_size_here", "_law_k"] ["_law_rules_here", "_law_cell_here"] (defScope s__law_deeper) := ⟨rfl, rfl, rfl, by decide +kernel, rfl, by decide +kernel, by decide +kernel⟩

abbrev s__law_name : Stmt := top 30
def d__law_name : He.DefD := ⟨("_law_name", none), "_law_name", "_law_name", defArgs s__law_name, defBody s__law_name, defScope s__law_name, [], []⟩
theorem sc__law_name : FnScope ["_law_cell_here", "_law_many"] ["_law_cell_here", "_law_many"] (defScope s__law_name) := ⟨rfl, rfl, rfl, by decide +kernel, rfl, by decide +kernel, by decide +kernel⟩

abbrev s__law_far : Stmt := top 31
def d__law_far : He.DefD := ⟨("_law_far", none), "_law_far", "_law_far", defArgs s__law_far, defBody s__law_far, defScope s__law_far, [], []⟩
theorem sc__law_far : FnScope ["_law_cell_here"] ["_law_cell_here"] (defScope s__law_far) := ⟨rfl, rfl, rfl, by decide +kernel, rfl, by decide +kernel, by decide +kernel⟩

abbrev s__law_renamed : Stmt := top 35
def d__law_renamed : He.DefD := ⟨("_law_renamed", none), "_law_renamed", "_law_renamed", defArgs s__law_renamed, defBody s__law_renamed, defScope s__law_renamed, [], []⟩
theorem sc__law_renamed : FnScope ["_law_rule_here", "_law_numbers"] ["_law_rule_here", "_law_numbers"] (defScope s__law_renamed) := ⟨rfl, rfl, rfl, by decide +kernel, rfl, by decide +kernel, by decide +kernel⟩

abbrev s__law_tidied : Stmt := top 36
def d__law_tidied : He.DefD := ⟨("_law_tidied", none), "_law_tidied", "_law_tidied", defArgs s__law_tidied, defBody s__law_tidied, defScope s__law_tidied, [], []⟩
theorem sc__law_tidied : FnScope ["_law_rules_here", "_law_name_here", "_law_needs", "_law_k", "_law_kept", "_law_numbers"] ["_law_rules_here", "_law_name_here"] (defScope s__law_tidied) := ⟨rfl, rfl, rfl, by decide +kernel, rfl, by decide +kernel, by decide +kernel⟩

abbrev s_named : Stmt := top 11
def d_named : He.DefD := ⟨("named", none), "named", "named", defArgs s_named, defBody s_named, defScope s_named, [], []⟩
theorem sc_named : FnScope ["rules", "name"] ["rules", "name"] (defScope s_named) := ⟨rfl, rfl, rfl, by decide +kernel, rfl, by decide +kernel, by decide +kernel⟩

abbrev s_parts_of : Stmt := top 8
def d_parts_of : He.DefD := ⟨("parts_of", none), "parts_of", "parts_of", defArgs s_parts_of, defBody s_parts_of, defScope s_parts_of, [], []⟩
theorem sc_parts_of : FnScope ["rule"] ["rule"] (defScope s_parts_of) := ⟨rfl, rfl, rfl, by decide +kernel, rfl, by decide +kernel, by decide +kernel⟩

abbrev s_needed : Stmt := top 9
def d_needed : He.DefD := ⟨("needed", none), "needed", "needed", defArgs s_needed, defBody s_needed, defScope s_needed, [], []⟩
theorem sc_needed : FnScope ["rules", "name", "seen", "number", "part"] ["rules", "name"] (defScope s_needed) := ⟨rfl, rfl, rfl, by decide +kernel, rfl, by decide +kernel, by decide +kernel⟩

abbrev s_renamed : Stmt := top 14
def d_renamed : He.DefD := ⟨("renamed", none), "renamed", "renamed", defArgs s_renamed, defBody s_renamed, defScope s_renamed, [], []⟩
theorem sc_renamed : FnScope ["rule", "numbers"] ["rule", "numbers"] (defScope s_renamed) := ⟨rfl, rfl, rfl, by decide +kernel, rfl, by decide +kernel, by decide +kernel⟩

abbrev s_put : Stmt := top 13
def d_put : He.DefD := ⟨("put", none), "put", "put", defArgs s_put, defBody s_put, defScope s_put, [], []⟩
theorem sc_put : FnScope ["rows", "rule"] ["rows", "rule"] (defScope s_put) := ⟨rfl, rfl, rfl, by decide +kernel, rfl, by decide +kernel, by decide +kernel⟩

abbrev s_tidy : Stmt := top 16
def d_tidy : He.DefD := ⟨("tidy", none), "tidy", "tidy", defArgs s_tidy, defBody s_tidy, defScope s_tidy, [], []⟩
theorem sc_tidy : FnScope ["rules", "name", "rows", "kept", "numbers", "number", "rule"] ["rules", "name"] (defScope s_tidy) := ⟨rfl, rfl, rfl, by decide +kernel, rfl, by decide +kernel, by decide +kernel⟩

abbrev s__law_whole : Stmt := top 26
def d__law_whole : He.DefD := ⟨("_law_whole", none), "_law_whole", "_law_whole", defArgs s__law_whole, defBody s__law_whole, defScope s__law_whole, [], []⟩
theorem sc__law_whole : FnScope ["_law_found"] ["_law_found"] (defScope s__law_whole) := ⟨rfl, rfl, rfl, by decide +kernel, rfl, by decide +kernel, by decide +kernel⟩

abbrev s__law_good_rule : Stmt := top 27
def d__law_good_rule : He.DefD := ⟨("_law_good_rule", none), "_law_good_rule", "_law_good_rule", defArgs s__law_good_rule, defBody s__law_good_rule, defScope s__law_good_rule, [], []⟩
theorem sc__law_good_rule : FnScope ["_law_rule_here", "_law_k"] ["_law_rule_here", "_law_k"] (defScope s__law_good_rule) := ⟨rfl, rfl, rfl, by decide +kernel, rfl, by decide +kernel, by decide +kernel⟩

abbrev s__law_told : Stmt := top 28
def d__law_told : He.DefD := ⟨("_law_told", none), "_law_told", "_law_told", defArgs s__law_told, defBody s__law_told, defScope s__law_told, [], []⟩
theorem sc__law_told : FnScope ["_law_found", "_law_rules_here", "_law_most", "_law_told_here", "_law_name_here", "_law_sizes", "_law_k"] ["_law_found", "_law_rules_here", "_law_most"] (defScope s__law_told) := ⟨rfl, rfl, rfl, by decide +kernel, rfl, by decide +kernel, by decide +kernel⟩

abbrev s__law_cell : Stmt := top 18
def d__law_cell : He.DefD := ⟨("_law_cell", none), "_law_cell", "_law_cell", defArgs s__law_cell, defBody s__law_cell, defScope s__law_cell, [], []⟩
theorem sc__law_cell : FnScope ["_law_script", "_law_k", "_law_number"] ["_law_script", "_law_k"] (defScope s__law_cell) := ⟨rfl, rfl, rfl, by decide +kernel, rfl, by decide +kernel, by decide +kernel⟩

abbrev s__law_cells : Stmt := top 19
def d__law_cells : He.DefD := ⟨("_law_cells", none), "_law_cells", "_law_cells", defArgs s__law_cells, defBody s__law_cells, defScope s__law_cells, [], []⟩
theorem sc__law_cells : FnScope ["_law_script", "_law_first_one", "_law_behind_last", "_law_k"] ["_law_script", "_law_first_one", "_law_behind_last"] (defScope s__law_cells) := ⟨rfl, rfl, rfl, by decide +kernel, rfl, by decide +kernel, by decide +kernel⟩

abbrev s__law_no_name : Stmt := top 37
def d__law_no_name : He.DefD := ⟨("_law_no_name", none), "_law_no_name", "_law_no_name", defArgs s__law_no_name, defBody s__law_no_name, defScope s__law_no_name, [], []⟩
theorem sc__law_no_name : FnScope ["_law_rules_here", "_law_name_here", "_law_caught", "_law_kinds", "error"] ["_law_rules_here", "_law_name_here"] (defScope s__law_no_name) := ⟨rfl, rfl, rfl, by decide +kernel, rfl, by decide +kernel, by decide +kernel⟩

abbrev s_law : Stmt := top 40
def d_law : He.DefD := ⟨("law", none), "law", "law", defArgs s_law, defBody s_law, defScope s_law, [], []⟩
theorem sc_law : FnScope ["_law_script", "_law_rules_here", "_law_name_here", "_law_far_here", "_law_due", "_law_found", "_law_sizes"] ["_law_script"] (defScope s_law) := ⟨rfl, rfl, rfl, by decide +kernel, rfl, by decide +kernel, by decide +kernel⟩
def fa : List He.Fa := [.glo "_law_sign_by", .free "len", .free "range", .glo "_law_twin", .glo "_law_echo", .free "min", .glo "_law_earlier", .glo "_law_times", .free "max", .glo "_law_rule", .glo "_law_size", .free "tuple", .glo "_law_again", .glo "_law_lengths", .glo "_law_deeper", .glo "_law_name", .glo "_law_far", .glo "_law_renamed", .glo "_law_tidied", .exc "NoName", .glo "NoName", .glo "named", .glo "parts_of", .free "sorted", .glo "needed", .glo "renamed", .glo "put", .glo "tidy", .free "isinstance", .free "bool", .free "int", .glo "_law_whole", .free "str", .glo "_law_good_rule", .glo "_law_told", .glo "_law_cell", .glo "_law_cells", .glo "_law_no_name", .glo "law"]
def fn : List He.DefD := [d__law_sign_by, d__law_twin, d__law_echo, d__law_earlier, d__law_times, d__law_rule, d__law_size, d__law_again, d__law_lengths, d__law_deeper, d__law_name, d__law_far, d__law_renamed, d__law_tidied, d_named, d_parts_of, d_needed, d_renamed, d_put, d_tidy, d__law_whole, d__law_good_rule, d__law_told, d__law_cell, d__law_cells, d__law_no_name, d_law]
theorem h__law_sign_by {P : Program} {w : World} {K : PySem.W.Frag} {mg : Str → Option Value} {base : Heap} (Z : Zed fa fn K mg) (Zx : ExX xs K mg) : Has P w K mg base "_law_sign_by" 1 ["_law_cell_here"] (SpM K [.dat] .dat m__law_sign_by) := by
  have nd : (["_law_cell_here"] : List Str).Nodup := sc__law_sign_by.nd
  refine has_of (d := d__law_sign_by) (N := ["_law_cell_here"]) (n := 0) (k := 0) Z 0 0 rfl rfl rfl rfl rfl sc__law_sign_by rfl rfl (.inl rfl) (fun _ _ _ _ _ _ us hl => match us, hl with | [_], _ => rfl) (fun f cdv A outer s H E hr tk hp => ?_)
  exact (dss_one (ds_ret (de_ix (de_bor de_str) (de_bor (de_bin od_mod ne_mod (de_bor (de_vd 0)) (de_bor de_int))))))

theorem h__law_twin {P : Program} {w : World} {K : PySem.W.Frag} {mg : Str → Option Value} {base : Heap} (Z : Zed fa fn K mg) (Zx : ExX xs K mg) : Has P w K mg base "_law_twin" 1 ["_law_rules_here", "_law_one"] (SpM K [.bor, .dat] .dat m__law_twin) := by
  have nd : (["_law_rules_here", "_law_one", "_law_found", "_law_k"] : List Str).Nodup := sc__law_twin.nd
  refine has_of (d := d__law_twin) (N := ["_law_rules_here", "_law_one", "_law_found", "_law_k"]) (n := 2) (k := 0) Z 1 3 rfl rfl rfl rfl rfl sc__law_twin rfl rfl (.inl rfl) (fun _ _ _ _ _ _ us hl => match us, hl with | [_, _], _ => rfl) (fun f cdv A outer s H E hr tk hp => ?_)
  exact (dss_cons (ds_asg (i := 2) nd (de_vd 1))
  (dss_cons (ds_for hp (di_r1 (Z.free 2) (de_bor (de_callB cd_len ne_len (Z.free 1) PySem.boot_len (da_cons (de_v 0) da_nil)))) (dg_n 3 nd) (dss_one (ds_if (dt_cmp (od_eq hr.units) ne_eq (de_bor (de_ix (de_v 0) (de_bor (de_vd 3)))) (de_bor (de_ix (de_v 0) (de_bor (de_vd 1))))) (dss_one (ds_asg (i := 2) nd (de_vd 3))) dss_nil)))
  (dss_one (ds_ret (de_vd 2)))))

theorem h__law_echo {P : Program} {w : World} {K : PySem.W.Frag} {mg : Str → Option Value} {base : Heap} (Z : Zed fa fn K mg) (Zx : ExX xs K mg) : Has P w K mg base "_law_echo" 2 ["_law_rules_here", "_law_rule_here"] (SpM K [.bor, .dat] .dat m__law_echo) := by
  have nd : (["_law_rules_here", "_law_rule_here"] : List Str).Nodup := sc__law_echo.nd
  refine has_of (d := d__law_echo) (N := ["_law_rules_here", "_law_rule_here"]) (n := 0) (k := 1) Z 2 4 rfl rfl rfl rfl rfl sc__law_echo rfl rfl (.inl rfl) (fun _ _ _ _ _ _ us hl => match us, hl with | [_, _], _ => rfl) (fun f cdv A outer s H E hr tk hp => ?_)
  exact (dss_cons (ds_if (dt_cmp (od_eq hr.units) ne_eq (de_bor (de_ix (de_bor (de_vd 1)) (de_bor de_int))) (de_bor de_str)) (dss_one (ds_ret (de_vd 1))) dss_nil)
  (dss_cons (ds_if (dt_cmp (od_eq hr.units) ne_eq (de_bor (de_ix (de_bor (de_vd 1)) (de_bor de_int))) (de_bor de_str)) (dss_one (ds_ret (de_tup (da_cons de_str (da_cons (de_fn (h__law_twin Z Zx) hr tk (da_cons (de_v 0) (da_cons (de_ix (de_bor (de_vd 1)) (de_bor de_int)) da_nil))) (da_cons (de_fn (h__law_twin Z Zx) hr tk (da_cons (de_v 0) (da_cons (de_ix (de_bor (de_vd 1)) (de_bor de_int)) da_nil))) da_nil)))))) dss_nil)
  (dss_one (ds_ret (de_tup (da_cons de_str (da_cons (de_fn (h__law_twin Z Zx) hr tk (da_cons (de_v 0) (da_cons (de_ix (de_bor (de_vd 1)) (de_bor de_int)) da_nil))) (da_cons (de_ix (de_bor (de_vd 1)) (de_bor de_int)) da_nil))))))))

theorem h__law_earlier {P : Program} {w : World} {K : PySem.W.Frag} {mg : Str → Option Value} {base : Heap} (Z : Zed fa fn K mg) (Zx : ExX xs K mg) : Has P w K mg base "_law_earlier" 1 ["_law_cell_here", "_law_many"] (SpM K [.dat, .dat] .dat m__law_earlier) := by
  have nd : (["_law_cell_here", "_law_many", "_law_back"] : List Str).Nodup := sc__law_earlier.nd
  refine has_of (d := d__law_earlier) (N := ["_law_cell_here", "_law_many", "_law_back"]) (n := 1) (k := 0) Z 3 6 rfl rfl rfl rfl rfl sc__law_earlier rfl rfl (.inl rfl) (fun _ _ _ _ _ _ us hl => match us, hl with | [_, _], _ => rfl) (fun f cdv A outer s H E hr tk hp => ?_)
  exact (dss_cons (ds_asg (i := 2) nd (de_bin od_mod ne_mod (de_bor (de_bin od_div ne_div (de_bor (de_vd 0)) (de_bor de_int))) (de_bor (de_vd 1))))
  (dss_cons (ds_if (dt_cmp (od_eq hr.units) ne_eq (de_bor (de_bin od_mod ne_mod (de_bor (de_vd 0)) (de_bor de_int))) (de_bor de_int)) (dss_one (ds_asg (i := 2) nd (de_bin od_mod ne_mod (de_bor (de_bin od_div ne_div (de_bor (de_vd 0)) (de_bor de_int))) (de_bor (de_callB (cd_min rfl) ne_min (Z.free 5) (by decide +kernel) (da_cons (de_bor (de_vd 1)) (da_cons (de_bor de_int) da_nil))))))) dss_nil)
  (dss_one (ds_ret (de_bin od_sub ne_sub (de_bor (de_bin od_sub ne_sub (de_bor (de_vd 1)) (de_bor de_int))) (de_bor (de_vd 2)))))))

theorem h__law_times {P : Program} {w : World} {K : PySem.W.Frag} {mg : Str → Option Value} {base : Heap} (Z : Zed fa fn K mg) (Zx : ExX xs K mg) : Has P w K mg base "_law_times" 1 ["_law_cell_here"] (SpM K [.dat] .dat m__law_times) := by
  have nd : (["_law_cell_here"] : List Str).Nodup := sc__law_times.nd
  refine has_of (d := d__law_times) (N := ["_law_cell_here"]) (n := 0) (k := 0) Z 4 7 rfl rfl rfl rfl rfl sc__law_times rfl rfl (.inl rfl) (fun _ _ _ _ _ _ us hl => match us, hl with | [_], _ => rfl) (fun f cdv A outer s H E hr tk hp => ?_)
  exact (dss_cons (ds_if (dt_cmp od_lt ne_lt (de_bor (de_bin od_mod ne_mod (de_bor (de_vd 0)) (de_bor de_int))) (de_bor de_int)) (dss_one (ds_ret (de_bin od_add ne_add (de_bor de_int) (de_bor (de_bin od_mod ne_mod (de_bor (de_bin od_div ne_div (de_bor (de_vd 0)) (de_bor de_int))) (de_bor de_int)))))) dss_nil)
  (dss_cons (ds_if (dt_cmp (od_eq hr.units) ne_eq (de_bor (de_bin od_mod ne_mod (de_bor (de_vd 0)) (de_bor de_int))) (de_bor de_int)) (dss_one (ds_ret (de_bin od_add ne_add (de_bor de_int) (de_bor (de_bin od_mod ne_mod (de_bor (de_bin od_div ne_div (de_bor (de_vd 0)) (de_bor de_int))) (de_bor de_int)))))) dss_nil)
  (dss_one (ds_ret (de_bin od_add ne_add (de_bor de_int) (de_bor (de_bin od_mod ne_mod (de_bor (de_bin od_mul ne_mul (de_bor (de_bin od_div ne_div (de_bor (de_vd 0)) (de_bor de_int))) (de_bor de_int))) (de_bor (de_bin od_pow ne_pow (de_bor de_int) (de_bor de_int))))))))))

theorem h__law_rule {P : Program} {w : World} {K : PySem.W.Frag} {mg : Str → Option Value} {base : Heap} (Z : Zed fa fn K mg) (Zx : ExX xs K mg) : Has P w K mg base "_law_rule" 2 ["_law_cell_here", "_law_sizes", "_law_most"] (SpM K [.dat, .bor, .dat] .dat m__law_rule) := by
  have nd : (["_law_cell_here", "_law_sizes", "_law_most", "_law_one", "_law_other"] : List Str).Nodup := sc__law_rule.nd
  refine has_of (d := d__law_rule) (N := ["_law_cell_here", "_law_sizes", "_law_most", "_law_one", "_law_other"]) (n := 2) (k := 1) Z 5 9 rfl rfl rfl rfl rfl sc__law_rule rfl rfl (.inl rfl) (fun _ _ _ _ _ _ us hl => match us, hl with | [_, _, _], _ => rfl) (fun f cdv A outer s H E hr tk hp => ?_)
  exact (dss_cons (ds_if (dt_cmp (od_eq hr.units) ne_eq (de_bor (de_bin od_mod ne_mod (de_bor (de_vd 0)) (de_bor de_int))) (de_bor de_int)) (dss_one (ds_ret (de_tup (da_cons de_str (da_cons (de_fn (h__law_sign_by Z Zx) hr tk (da_cons (de_bin od_div ne_div (de_bor (de_vd 0)) (de_bor de_int)) da_nil)) da_nil))))) dss_nil)
  (dss_cons (ds_asg (i := 3) nd (de_fn (h__law_earlier Z Zx) hr tk (da_cons (de_bin od_mod ne_mod (de_bor (de_bin od_div ne_div (de_bor (de_vd 0)) (de_bor de_int))) (de_bor de_int)) (da_cons (de_callB cd_len ne_len (Z.free 1) PySem.boot_len (da_cons (de_v 1) da_nil)) da_nil))))
  (dss_cons (ds_if (dt_cmp od_lt ne_lt (de_bor (de_bin od_mod ne_mod (de_bor (de_vd 0)) (de_bor de_int))) (de_bor de_int)) (dss_cons (ds_asg (i := 4) nd (de_fn (h__law_earlier Z Zx) hr tk (da_cons (de_bin od_mod ne_mod (de_bor (de_bin od_div ne_div (de_bor (de_vd 0)) (de_bor de_int))) (de_bor de_int)) (da_cons (de_callB cd_len ne_len (Z.free 1) PySem.boot_len (da_cons (de_v 1) da_nil)) da_nil))))
  (dss_one (ds_if (dt_cmp od_le ne_le (de_bor (de_bin od_add ne_add (de_bor (de_ix (de_v 1) (de_bor (de_vd 3)))) (de_bor (de_ix (de_v 1) (de_bor (de_vd 4)))))) (de_bor (de_vd 2))) (dss_one (ds_ret (de_tup (da_cons de_str (da_cons (de_vd 3) (da_cons (de_vd 4) da_nil)))))) dss_nil))) dss_nil)
  (dss_one (ds_ret (de_tup (da_cons de_str (da_cons (de_vd 3) (da_cons (de_callB (cd_max rfl) ne_max (Z.free 8) (by decide +kernel) (da_cons (de_bor de_int) (da_cons (de_bor (de_callB (cd_min rfl) ne_min (Z.free 5) (by decide +kernel) (da_cons (de_bor (de_fn (h__law_times Z Zx) hr tk (da_cons (de_bin od_div ne_div (de_bor (de_vd 0)) (de_bor de_int)) da_nil))) (da_cons (de_bor (de_bin od_div ne_div (de_bor (de_vd 2)) (de_bor (de_ix (de_v 1) (de_bor (de_vd 3)))))) da_nil)))) da_nil))) da_nil)))))))))

theorem h__law_size {P : Program} {w : World} {K : PySem.W.Frag} {mg : Str → Option Value} {base : Heap} (Z : Zed fa fn K mg) (Zx : ExX xs K mg) : Has P w K mg base "_law_size" 1 ["_law_rule_here", "_law_sizes"] (SpM K [.dat, .bor] .dat m__law_size) := by
  have nd : (["_law_rule_here", "_law_sizes"] : List Str).Nodup := sc__law_size.nd
  refine has_of (d := d__law_size) (N := ["_law_rule_here", "_law_sizes"]) (n := 0) (k := 0) Z 6 10 rfl rfl rfl rfl rfl sc__law_size rfl rfl (.inl rfl) (fun _ _ _ _ _ _ us hl => match us, hl with | [_, _], _ => rfl) (fun f cdv A outer s H E hr tk hp => ?_)
  exact (dss_cons (ds_if (dt_cmp (od_eq hr.units) ne_eq (de_bor (de_ix (de_bor (de_vd 0)) (de_bor de_int))) (de_bor de_str)) (dss_one (ds_ret de_int)) dss_nil)
  (dss_cons (ds_if (dt_cmp (od_eq hr.units) ne_eq (de_bor (de_ix (de_bor (de_vd 0)) (de_bor de_int))) (de_bor de_str)) (dss_one (ds_ret (de_bin od_add ne_add (de_bor (de_ix (de_v 1) (de_bor (de_ix (de_bor (de_vd 0)) (de_bor de_int))))) (de_bor (de_ix (de_v 1) (de_bor (de_ix (de_bor (de_vd 0)) (de_bor de_int)))))))) dss_nil)
  (dss_one (ds_ret (de_bin od_mul ne_mul (de_bor (de_ix (de_v 1) (de_bor (de_ix (de_bor (de_vd 0)) (de_bor de_int))))) (de_bor (de_ix (de_bor (de_vd 0)) (de_bor de_int))))))))

theorem h__law_again {P : Program} {w : World} {K : PySem.W.Frag} {mg : Str → Option Value} {base : Heap} (Z : Zed fa fn K mg) (Zx : ExX xs K mg) : Has P w K mg base "_law_again" 3 ["_law_cells_here"] (SpM K [.dat] .dat m__law_again) := by
  have nd : (["_law_cells_here", "_law_rules_here", "_law_sizes", "_law_cell_here", "_law_rule_here", "_law_few", "_law_some"] : List Str).Nodup := sc__law_again.nd
  refine has_of (d := d__law_again) (N := ["_law_cells_here", "_law_rules_here", "_law_sizes", "_law_cell_here", "_law_rule_here", "_law_few", "_law_some"]) (n := 6) (k := 2) Z 7 12 rfl rfl rfl rfl rfl sc__law_again rfl rfl (.inl rfl) (fun _ _ _ _ _ _ us hl => match us, hl with | [_], _ => rfl) (fun f cdv A outer s H E hr tk hp => ?_)
  exact (dss_cons (ds_asgN (i := 1) nd (de_lst (da_cons (de_tup (da_cons de_str (da_cons (de_fn (h__law_sign_by Z Zx) hr tk (da_cons (de_ix (de_bor (de_vd 0)) (de_bor de_int)) da_nil)) da_nil))) (da_cons (de_tup (da_cons de_str (da_cons (de_fn (h__law_sign_by Z Zx) hr tk (da_cons (de_bin od_div ne_div (de_bor (de_ix (de_bor (de_vd 0)) (de_bor de_int))) (de_bor de_int)) da_nil)) da_nil))) da_nil))))
  (dss_cons (ds_asgN (i := 2) nd (de_lst (da_cons de_int (da_cons de_int da_nil))))
  (dss_cons (ds_for hp (di_l (de_sl (de_bor (de_vd 0)) (do_some (de_bor de_int)) do_none)) (dg_n 3 nd) (dss_cons (ds_asg (i := 4) nd (de_ix (de_v 1) (de_bor (de_bin od_mod ne_mod (de_bor (de_bin od_div ne_div (de_bor (de_vd 3)) (de_bor de_int))) (de_bor (de_callB cd_len ne_len (Z.free 1) PySem.boot_len (da_cons (de_v 1) da_nil)))))))
  (dss_cons (ds_if (dt_cmp (od_eq hr.units) ne_eq (de_bor (de_bin od_mod ne_mod (de_bor (de_vd 3)) (de_bor de_int))) (de_bor de_int)) (dss_one (ds_asg (i := 4) nd (de_fn (h__law_echo Z Zx) hr tk (da_cons (de_v 1) (da_cons (de_vd 4) da_nil))))) dss_nil)
  (dss_cons (ds_if (dt_cmp od_gt ne_gt (de_bor (de_bin od_mod ne_mod (de_bor (de_vd 3)) (de_bor de_int))) (de_bor de_int)) (dss_cons (ds_asg (i := 5) nd (de_bin od_div ne_div (de_bor (de_vd 3)) (de_bor de_int)))
  (dss_cons (ds_asg (i := 6) nd (de_frz (de_lst (da_cons de_int (da_cons de_int (da_cons de_int (da_cons de_int (da_cons de_int (da_cons (de_bin od_div ne_div (de_bor (de_vd 5)) (de_bor de_int)) da_nil)))))))))
  (dss_one (ds_asg (i := 4) nd (de_fn (h__law_rule Z Zx) hr tk (da_cons (de_bin od_add ne_add (de_bor (de_bin od_mod ne_mod (de_bor (de_vd 5)) (de_bor de_int))) (de_bor (de_bin od_mul ne_mul (de_bor de_int) (de_bor (de_ix (de_bor (de_vd 6)) (de_bor (de_bin od_mod ne_mod (de_bor (de_bin od_div ne_div (de_bor (de_vd 5)) (de_bor de_int))) (de_bor de_int)))))))) (da_cons (de_v 2) (da_cons (de_bin od_pow ne_pow (de_bor de_int) (de_bor de_int)) da_nil)))))))) dss_nil)
  (dss_cons (ds_app (i := 1) (de_vd 4))
  (dss_one (ds_app (i := 2) (de_fn (h__law_size Z Zx) hr tk (da_cons (de_vd 4) (da_cons (de_v 2) da_nil))))))))))
  (dss_one (ds_ret (de_callTy cd_tuple ne_tuple (Z.free 11) (by decide +kernel) (da_cons (de_v 1) da_nil)))))))

theorem h__law_lengths {P : Program} {w : World} {K : PySem.W.Frag} {mg : Str → Option Value} {base : Heap} (Z : Zed fa fn K mg) (Zx : ExX xs K mg) : Has P w K mg base "_law_lengths" 2 ["_law_rules_here"] (SpM K [.dat] .new m__law_lengths) := by
  have nd : (["_law_rules_here", "_law_sizes", "_law_rule_here"] : List Str).Nodup := sc__law_lengths.nd
  refine has_of (d := d__law_lengths) (N := ["_law_rules_here", "_law_sizes", "_law_rule_here"]) (n := 2) (k := 1) Z 8 13 rfl rfl rfl rfl rfl sc__law_lengths rfl rfl (.inr (nonx_seq (nonx_seq nonx_retO))) (fun _ _ _ _ _ _ us hl => match us, hl with | [_], _ => rfl) (fun f cdv A outer s H E hr tk hp => ?_)
  exact (dss_cons (ds_asgN (i := 1) nd (de_lst da_nil))
  (dss_cons (ds_for hp (di_t (de_vd 0)) (dg_n 2 nd) (dss_one (ds_app (i := 1) (de_fn (h__law_size Z Zx) hr tk (da_cons (de_vd 2) (da_cons (de_v 1) da_nil))))))
  (dss_one (ds_retO 1))))

theorem h__law_deeper {P : Program} {w : World} {K : PySem.W.Frag} {mg : Str → Option Value} {base : Heap} (Z : Zed fa fn K mg) (Zx : ExX xs K mg) : Has P w K mg base "_law_deeper" 3 ["_law_rules_here", "_law_cell_here"] (SpM K [.dat, .dat] .dat m__law_deeper) := by
  have nd : (["_law_rules_here", "_law_cell_here", "_law_size_here", "_law_k"] : List Str).Nodup := sc__law_deeper.nd
  refine has_of (d := d__law_deeper) (N := ["_law_rules_here", "_law_cell_here", "_law_size_here", "_law_k"]) (n := 2) (k := 2) Z 9 14 rfl rfl rfl rfl rfl sc__law_deeper rfl rfl (.inl rfl) (fun _ _ _ _ _ _ us hl => match us, hl with | [_, _], _ => rfl) (fun f cdv A outer s H E hr tk hp => ?_)
  exact (dss_cons (ds_if (dt_cmp (od_ne hr.units) ne_ne (de_bor (de_bin od_mod ne_mod (de_bor (de_vd 1)) (de_bor de_int))) (de_bor de_int)) (dss_one (ds_ret (de_vd 0))) dss_nil)
  (dss_cons (ds_asg (i := 2) nd (de_callB cd_len ne_len (Z.free 1) PySem.boot_len (da_cons (de_bor (de_vd 0)) da_nil)))
  (dss_cons (ds_if (dt_w (dw_and (dt_cmp (od_eq hr.units) ne_eq (de_bor (de_bin od_mod ne_mod (de_bor (de_bin od_div ne_div (de_bor (de_vd 1)) (de_bor de_int))) (de_bor de_int))) (de_bor de_int)) (dw_and1 (dt_cmp od_lt ne_lt (de_bor (de_ix (de_nbor (de_fn (h__law_lengths Z Zx) hr tk (da_cons (de_vd 0) da_nil))) (de_bor (de_neg (de_bor de_int))))) (de_bor (de_bin od_pow ne_pow (de_bor de_int) (de_bor de_int))))))) (dss_one (ds_ret (de_bin od_add ne_add (de_bor (de_vd 0)) (de_bor (de_callTy cd_tuple ne_tuple (Z.free 11) (by decide +kernel) (da_cons (de_nbor (de_lc (own := [("_law_k", 3)]) nd (dic_of (di_r1 (Z.free 2) (de_bor (de_bin od_sub ne_sub (de_bor de_int) (de_bor (de_vd 2)))))) (blkOk_by (own := [("_law_k", 3)]) (N := ["_law_rules_here", "_law_cell_here", "_law_size_here", "_law_k"]) (sc := defScope s__law_deeper) (by decide +kernel)) (gok_n 3) (fun _ _ _ _ _ => pg_name (i := 3) nd rfl (Or.inl rfl)) (fun _ _ _ _ _ => dts_nil) (fun _ _ _ _ _ => (de_tup (da_cons de_str (da_cons de_int (da_cons (de_bin od_add ne_add (de_bor (de_bin od_sub ne_sub (de_bor (de_vd 2)) (de_bor de_int))) (de_bor (de_vd 3))) da_nil))))))) da_nil)))))) dss_nil)
  (dss_one (ds_ret (de_bin od_add ne_add (de_bor (de_vd 0)) (de_bor (de_callTy cd_tuple ne_tuple (Z.free 11) (by decide +kernel) (da_cons (de_nbor (de_lc (own := [("_law_k", 3)]) nd (dic_of (di_r1 (Z.free 2) (de_bor (de_bin od_sub ne_sub (de_bor de_int) (de_bor (de_vd 2)))))) (blkOk_by (own := [("_law_k", 3)]) (N := ["_law_rules_here", "_law_cell_here", "_law_size_here", "_law_k"]) (sc := defScope s__law_deeper) (by decide +kernel)) (gok_n 3) (fun _ _ _ _ _ => pg_name (i := 3) nd rfl (Or.inl rfl)) (fun _ _ _ _ _ => dts_nil) (fun _ _ _ _ _ => (de_tup (da_cons de_str (da_cons (de_bin od_add ne_add (de_bor (de_bin od_sub ne_sub (de_bor (de_vd 2)) (de_bor de_int))) (de_bor (de_vd 3))) (da_cons de_int da_nil))))))) da_nil)))))))))

theorem h__law_name {P : Program} {w : World} {K : PySem.W.Frag} {mg : Str → Option Value} {base : Heap} (Z : Zed fa fn K mg) (Zx : ExX xs K mg) : Has P w K mg base "_law_name" 1 ["_law_cell_here", "_law_many"] (SpM K [.dat, .dat] .dat m__law_name) := by
  have nd : (["_law_cell_here", "_law_many"] : List Str).Nodup := sc__law_name.nd
  refine has_of (d := d__law_name) (N := ["_law_cell_here", "_law_many"]) (n := 0) (k := 0) Z 10 15 rfl rfl rfl rfl rfl sc__law_name rfl rfl (.inl rfl) (fun _ _ _ _ _ _ us hl => match us, hl with | [_, _], _ => rfl) (fun f cdv A outer s H E hr tk hp => ?_)
  exact (dss_cons (ds_if (dt_cmp (od_eq hr.units) ne_eq (de_bor (de_bin od_mod ne_mod (de_bor (de_vd 0)) (de_bor de_int))) (de_bor de_int)) (dss_one (ds_ret de_non)) dss_nil)
  (dss_cons (ds_if (dt_cmp od_lt ne_lt (de_bor (de_bin od_mod ne_mod (de_bor (de_vd 0)) (de_bor de_int))) (de_bor de_int)) (dss_one (ds_ret (de_bin od_sub ne_sub (de_bor (de_vd 1)) (de_bor de_int)))) dss_nil)
  (dss_one (ds_ret (de_bin od_mod ne_mod (de_bor (de_bin od_div ne_div (de_bor (de_vd 0)) (de_bor de_int))) (de_bor (de_vd 1)))))))

theorem h__law_far {P : Program} {w : World} {K : PySem.W.Frag} {mg : Str → Option Value} {base : Heap} (Z : Zed fa fn K mg) (Zx : ExX xs K mg) : Has P w K mg base "_law_far" 1 ["_law_cell_here"] (SpM K [.dat] .dat m__law_far) := by
  have nd : (["_law_cell_here"] : List Str).Nodup := sc__law_far.nd
  refine has_of (d := d__law_far) (N := ["_law_cell_here"]) (n := 0) (k := 0) Z 11 16 rfl rfl rfl rfl rfl sc__law_far rfl rfl (.inl rfl) (fun _ _ _ _ _ _ us hl => match us, hl with | [_], _ => rfl) (fun f cdv A outer s H E hr tk hp => ?_)
  exact (dss_one (ds_ret (de_ix (de_nbor (de_lst (da_cons de_int (da_cons (de_bin od_mod ne_mod (de_bor (de_bin od_div ne_div (de_bor (de_vd 0)) (de_bor de_int))) (de_bor de_int)) (da_cons (de_bin od_div ne_div (de_bor (de_vd 0)) (de_bor de_int)) da_nil))))) (de_bor (de_bin od_mod ne_mod (de_bor (de_vd 0)) (de_bor de_int))))))

theorem h__law_renamed {P : Program} {w : World} {K : PySem.W.Frag} {mg : Str → Option Value} {base : Heap} (Z : Zed fa fn K mg) (Zx : ExX xs K mg) : Has P w K mg base "_law_renamed" 1 ["_law_rule_here", "_law_numbers"] (SpM K [.dat, .bor] .dat m__law_renamed) := by
  have nd : (["_law_rule_here", "_law_numbers"] : List Str).Nodup := sc__law_renamed.nd
  refine has_of (d := d__law_renamed) (N := ["_law_rule_here", "_law_numbers"]) (n := 0) (k := 0) Z 12 17 rfl rfl rfl rfl rfl sc__law_renamed rfl rfl (.inl rfl) (fun _ _ _ _ _ _ us hl => match us, hl with | [_, _], _ => rfl) (fun f cdv A outer s H E hr tk hp => ?_)
  exact (dss_cons (ds_if (dt_cmp (od_eq hr.units) ne_eq (de_bor (de_ix (de_bor (de_vd 0)) (de_bor de_int))) (de_bor de_str)) (dss_one (ds_ret (de_vd 0))) dss_nil)
  (dss_cons (ds_if (dt_cmp (od_eq hr.units) ne_eq (de_bor (de_ix (de_bor (de_vd 0)) (de_bor de_int))) (de_bor de_str)) (dss_one (ds_ret (de_tup (da_cons de_str (da_cons (de_ix (de_v 1) (de_bor (de_ix (de_bor (de_vd 0)) (de_bor de_int)))) (da_cons (de_ix (de_v 1) (de_bor (de_ix (de_bor (de_vd 0)) (de_bor de_int)))) da_nil)))))) dss_nil)
  (dss_one (ds_ret (de_tup (da_cons de_str (da_cons (de_ix (de_v 1) (de_bor (de_ix (de_bor (de_vd 0)) (de_bor de_int)))) (da_cons (de_ix (de_bor (de_vd 0)) (de_bor de_int)) da_nil))))))))

theorem h__law_tidied {P : Program} {w : World} {K : PySem.W.Frag} {mg : Str → Option Value} {base : Heap} (Z : Zed fa fn K mg) (Zx : ExX xs K mg) : Has P w K mg base "_law_tidied" 2 ["_law_rules_here", "_law_name_here"] (SpM K [.dat, .dat] .dat m__law_tidied) := by
  have nd : (["_law_rules_here", "_law_name_here", "_law_needs", "_law_k", "_law_kept", "_law_numbers"] : List Str).Nodup := sc__law_tidied.nd
  refine has_of (d := d__law_tidied) (N := ["_law_rules_here", "_law_name_here", "_law_needs", "_law_k", "_law_kept", "_law_numbers"]) (n := 4) (k := 1) Z 13 18 rfl rfl rfl rfl rfl sc__law_tidied rfl rfl (.inl rfl) (fun _ _ _ _ _ _ us hl => match us, hl with | [_, _], _ => rfl) (fun f cdv A outer s H E hr tk hp => ?_)
  exact (dss_cons (ds_asgN (i := 2) nd (de_repL (de_lst (da_cons de_bl da_nil)) (de_bor (de_callB cd_len ne_len (Z.free 1) PySem.boot_len (da_cons (de_bor (de_vd 0)) da_nil)))))
  (dss_cons (ds_setL 2 (de_bor (de_vd 1)) de_bl)
  (dss_cons (ds_for hp (di_r3 (Z.free 2) (da_cons (de_bor (de_bin od_sub ne_sub (de_bor (de_callB cd_len ne_len (Z.free 1) PySem.boot_len (da_cons (de_bor (de_vd 0)) da_nil))) (de_bor de_int))) (da_cons (de_bor (de_neg (de_bor de_int))) (da_cons (de_bor (de_neg (de_bor de_int))) da_nil)))) (dg_n 3 nd) (dss_one (ds_if (dt_w (dw_and (dt_val (de_bor (de_ix (de_v 2) (de_bor (de_vd 3))))) (dw_and1 (dt_cmp (od_ne hr.units) ne_ne (de_bor (de_ix (de_bor (de_ix (de_bor (de_vd 0)) (de_bor (de_vd 3)))) (de_bor de_int))) (de_bor de_str))))) (dss_cons (ds_setL 2 (de_bor (de_ix (de_bor (de_ix (de_bor (de_vd 0)) (de_bor (de_vd 3)))) (de_bor de_int))) de_bl)
  (dss_one (ds_if (dt_cmp (od_eq hr.units) ne_eq (de_bor (de_ix (de_bor (de_ix (de_bor (de_vd 0)) (de_bor (de_vd 3)))) (de_bor de_int))) (de_bor de_str)) (dss_one (ds_setL 2 (de_bor (de_ix (de_bor (de_ix (de_bor (de_vd 0)) (de_bor (de_vd 3)))) (de_bor de_int))) de_bl)) dss_nil))) dss_nil)))
  (dss_cons (ds_asgN (i := 4) nd de_tnew)
  (dss_cons (ds_asgN (i := 5) nd (de_repL (de_lst (da_cons de_int da_nil)) (de_bor (de_callB cd_len ne_len (Z.free 1) PySem.boot_len (da_cons (de_bor (de_vd 0)) da_nil)))))
  (dss_cons (ds_for hp (di_r1 (Z.free 2) (de_bor (de_callB cd_len ne_len (Z.free 1) PySem.boot_len (da_cons (de_bor (de_vd 0)) da_nil)))) (dg_n 3 nd) (dss_one (ds_if (dt_val (de_bor (de_ix (de_v 2) (de_bor (de_vd 3))))) (dss_one (ds_setLX 5 (de_bor (de_vd 3)) (dx_setT 4 hr.units (de_fn (h__law_renamed Z Zx) hr tk (da_cons (de_ix (de_bor (de_vd 0)) (de_bor (de_vd 3))) (da_cons (de_v 5) da_nil))) (de_callB cd_lenT ne_lenT (Z.free 1) PySem.boot_len (da_cons (de_v 4) da_nil))))) dss_nil)))
  (dss_one (ds_ret (de_tupK (Z.free 11) (de_v 4))))))))))

theorem h_named {P : Program} {w : World} {K : PySem.W.Frag} {mg : Str → Option Value} {base : Heap} (Z : Zed fa fn K mg) (Zx : ExX xs K mg) : Has P w K mg base "named" 1 ["rules", "name"] (SpM K [.dat, .dat] .dat m_named) := by
  have nd : (["rules", "name"] : List Str).Nodup := sc_named.nd
  refine has_of (d := d_named) (N := ["rules", "name"]) (n := 0) (k := 0) Z 14 21 rfl rfl rfl rfl rfl sc_named rfl rfl (.inl rfl) (fun _ _ _ _ _ _ us hl => match us, hl with | [_, _], _ => rfl) (fun f cdv A outer s H E hr tk hp => ?_)
  exact (dss_one (ds_if (dt_w (dw_and (dt_cmp od_isnot ne_isnot (de_bor (de_vd 1)) (de_bor de_non)) (dw_and1 (dt_not (dt_chain od_le od_lt ne_le ne_lt (de_bor de_int) (de_bor (de_vd 1)) (de_bor (de_callB cd_len ne_len (Z.free 1) PySem.boot_len (da_cons (de_bor (de_vd 0)) da_nil)))))))) (dss_one (ds_raise tk (Z.exc 19) (Z.glo 20))) dss_nil))

theorem h_parts_of {P : Program} {w : World} {K : PySem.W.Frag} {mg : Str → Option Value} {base : Heap} (Z : Zed fa fn K mg) (Zx : ExX xs K mg) : Has P w K mg base "parts_of" 1 ["rule"] (SpM K [.dat] .new m_parts_of) := by
  have nd : (["rule"] : List Str).Nodup := sc_parts_of.nd
  refine has_of (d := d_parts_of) (N := ["rule"]) (n := 0) (k := 0) Z 15 22 rfl rfl rfl rfl rfl sc_parts_of rfl rfl (.inr (nonx_seq (nonx_seq nonx_ret))) (fun _ _ _ _ _ _ us hl => match us, hl with | [_], _ => rfl) (fun f cdv A outer s H E hr tk hp => ?_)
  exact (dss_cons (ds_if (dt_cmp (od_eq hr.units) ne_eq (de_bor (de_ix (de_bor (de_vd 0)) (de_bor de_int))) (de_bor de_str)) (dss_one (ds_ret (de_lst da_nil))) dss_nil)
  (dss_cons (ds_if (dt_cmp (od_eq hr.units) ne_eq (de_bor (de_ix (de_bor (de_vd 0)) (de_bor de_int))) (de_bor de_str)) (dss_one (ds_ret (de_lst (da_cons (de_ix (de_bor (de_vd 0)) (de_bor de_int)) (da_cons (de_ix (de_bor (de_vd 0)) (de_bor de_int)) da_nil))))) dss_nil)
  (dss_one (ds_ret (de_lst (da_cons (de_ix (de_bor (de_vd 0)) (de_bor de_int)) da_nil))))))

theorem h_needed {P : Program} {w : World} {K : PySem.W.Frag} {mg : Str → Option Value} {base : Heap} (Z : Zed fa fn K mg) (Zx : ExX xs K mg) : Has P w K mg base "needed" 2 ["rules", "name"] (SpM K [.dat, .dat] .new m_needed) := by
  have nd : (["rules", "name", "seen", "number", "part"] : List Str).Nodup := sc_needed.nd
  refine has_of (d := d_needed) (N := ["rules", "name", "seen", "number", "part"]) (n := 3) (k := 1) Z 16 24 rfl rfl rfl rfl rfl sc_needed rfl rfl (.inr (nonx_seq (nonx_seq (nonx_seq nonx_ret)))) (fun _ _ _ _ _ _ us hl => match us, hl with | [_, _], _ => rfl) (fun f cdv A outer s H E hr tk hp => ?_)
  exact (dss_cons (ds_if (dt_cmp od_is ne_is (de_bor (de_vd 1)) (de_bor de_non)) (dss_one (ds_ret (de_lst da_nil))) dss_nil)
  (dss_cons (ds_asgN (i := 2) nd (de_d1 (de_bor (de_vd 1)) de_bl))
  (dss_cons (ds_for hp (di_r3 (Z.free 2) (da_cons (de_bor (de_vd 1)) (da_cons (de_bor (de_neg (de_bor de_int))) (da_cons (de_bor (de_neg (de_bor de_int))) da_nil)))) (dg_n 3 nd) (dss_one (ds_if (dt_cmp (od_inD hr.units) (ne_inD _) (de_bor (de_vd 3)) (de_v 2)) (dss_one (ds_for hp (di_l (de_frz (de_fn (h_parts_of Z Zx) hr tk (da_cons (de_ix (de_bor (de_vd 0)) (de_bor (de_vd 3))) da_nil)))) (dg_n 4 nd) (dss_one (ds_putD 2 hr.units (de_bor (de_vd 4)) de_bl)))) dss_nil)))
  (dss_one (ds_ret (de_sortK (Z.free 23) (de_v 2)))))))

theorem h_renamed {P : Program} {w : World} {K : PySem.W.Frag} {mg : Str → Option Value} {base : Heap} (Z : Zed fa fn K mg) (Zx : ExX xs K mg) : Has P w K mg base "renamed" 1 ["rule", "numbers"] (SpM K [.dat, .bor] .dat m_renamed) := by
  have nd : (["rule", "numbers"] : List Str).Nodup := sc_renamed.nd
  refine has_of (d := d_renamed) (N := ["rule", "numbers"]) (n := 0) (k := 0) Z 17 25 rfl rfl rfl rfl rfl sc_renamed rfl rfl (.inl rfl) (fun _ _ _ _ _ _ us hl => match us, hl with | [_, _], _ => rfl) (fun f cdv A outer s H E hr tk hp => ?_)
  exact (dss_cons (ds_if (dt_cmp (od_eq hr.units) ne_eq (de_bor (de_ix (de_bor (de_vd 0)) (de_bor de_int))) (de_bor de_str)) (dss_one (ds_ret (de_vd 0))) dss_nil)
  (dss_cons (ds_if (dt_cmp (od_eq hr.units) ne_eq (de_bor (de_ix (de_bor (de_vd 0)) (de_bor de_int))) (de_bor de_str)) (dss_one (ds_ret (de_tup (da_cons de_str (da_cons (de_ixA hr.units (de_v 1) (de_bor (de_ix (de_bor (de_vd 0)) (de_bor de_int)))) (da_cons (de_ixA hr.units (de_v 1) (de_bor (de_ix (de_bor (de_vd 0)) (de_bor de_int)))) da_nil)))))) dss_nil)
  (dss_one (ds_ret (de_tup (da_cons de_str (da_cons (de_ixA hr.units (de_v 1) (de_bor (de_ix (de_bor (de_vd 0)) (de_bor de_int)))) (da_cons (de_ix (de_bor (de_vd 0)) (de_bor de_int)) da_nil))))))))

theorem h_put {P : Program} {w : World} {K : PySem.W.Frag} {mg : Str → Option Value} {base : Heap} (Z : Zed fa fn K mg) (Zx : ExX xs K mg) : Has P w K mg base "put" 1 ["rows", "rule"] (SpIO K 1 m_put) := by
  have nd : (["rows", "rule"] : List Str).Nodup := sc_put.nd
  refine has_io (d := d_put) (N := ["rows", "rule"]) (n := 0) (k := 0) Z 18 26 rfl rfl rfl rfl rfl sc_put rfl rfl (fun _ _ _ _ _ _ us hl => match us, hl with | [_, _], _ => rfl) (fun pp f cdv A outer s H E hr tk hp => ?_)
  exact (dss_cons (ds_app (i := 0) (de_vd 1))
  (dss_one (ds_retI (de_bin od_sub ne_sub (de_bor (de_callB cd_len ne_len (Z.free 1) PySem.boot_len (da_cons (de_v 0) da_nil))) (de_bor de_int)))))

theorem h_tidy {P : Program} {w : World} {K : PySem.W.Frag} {mg : Str → Option Value} {base : Heap} (Z : Zed fa fn K mg) (Zx : ExX xs K mg) : Has P w K mg base "tidy" 3 ["rules", "name"] (SpM K [.dat, .dat] .dat m_tidy) := by
  have nd : (["rules", "name", "rows", "kept", "numbers", "number", "rule"] : List Str).Nodup := sc_tidy.nd
  refine has_of (d := d_tidy) (N := ["rules", "name", "rows", "kept", "numbers", "number", "rule"]) (n := 5) (k := 2) Z 19 27 rfl rfl rfl rfl rfl sc_tidy rfl rfl (.inl rfl) (fun _ _ _ _ _ _ us hl => match us, hl with | [_, _], _ => rfl) (fun f cdv A outer s H E hr tk hp => ?_)
  exact (dss_cons (ds_drop (de_fn (h_named Z Zx) hr tk (da_cons (de_vd 0) (da_cons (de_vd 1) da_nil))))
  (dss_cons (ds_asgN (i := 2) nd (de_lst da_nil))
  (dss_cons (ds_asgN (i := 3) nd de_tnew)
  (dss_cons (ds_asgN (i := 4) nd de_dnew)
  (dss_cons (ds_for hp (di_l (de_frz (de_fn (h_needed Z Zx) hr tk (da_cons (de_vd 0) (da_cons (de_vd 1) da_nil))))) (dg_n 5 nd) (dss_cons (ds_asg (i := 6) nd (de_fn (h_renamed Z Zx) hr tk (da_cons (de_ix (de_bor (de_vd 0)) (de_bor (de_vd 5))) (da_cons (de_v 4) da_nil))))
  (dss_cons (ds_if (dt_cmp (od_notInT hr.units) (ne_inT _) (de_bor (de_vd 6)) (de_v 3)) (dss_one (ds_putTX 3 hr.units (de_bor (de_vd 6)) (dx_fn 2 (h_put Z Zx) hr tk (da_cons (de_vd 6) da_nil)))) dss_nil)
  (dss_one (ds_putD 4 hr.units (de_bor (de_vd 5)) (de_tget hr.units (de_v 3) (de_bor (de_vd 6))))))))
  (dss_one (ds_ret (de_tup (da_cons (de_callTy cd_tuple ne_tuple (Z.free 11) (by decide +kernel) (da_cons (de_v 2) da_nil)) (da_cons (de_dgetN hr.units (de_v 4) (de_bor (de_vd 1))) da_nil))))))))))

theorem h__law_whole {P : Program} {w : World} {K : PySem.W.Frag} {mg : Str → Option Value} {base : Heap} (Z : Zed fa fn K mg) (Zx : ExX xs K mg) : Has P w K mg base "_law_whole" 1 ["_law_found"] (SpM K [.dat] .dat m__law_whole) := by
  have nd : (["_law_found"] : List Str).Nodup := sc__law_whole.nd
  refine has_of (d := d__law_whole) (N := ["_law_found"]) (n := 0) (k := 0) Z 20 31 rfl rfl rfl rfl rfl sc__law_whole rfl rfl (.inl rfl) (fun _ _ _ _ _ _ us hl => match us, hl with | [_], _ => rfl) (fun f cdv A outer s H E hr tk hp => ?_)
  exact (dss_one (ds_ret (de_and (de_bor (de_isi "int" PyProof.Rows.boot_int kit_int (Z.free 28) (Z.free 30) (de_bor (de_vd 0)))) (de_one (de_not (de_bor (de_isi "bool" PyProof.Rows.boot_bool kit_bool (Z.free 28) (Z.free 29) (de_bor (de_vd 0)))))))))

theorem h__law_good_rule {P : Program} {w : World} {K : PySem.W.Frag} {mg : Str → Option Value} {base : Heap} (Z : Zed fa fn K mg) (Zx : ExX xs K mg) : Has P w K mg base "_law_good_rule" 2 ["_law_rule_here", "_law_k"] (SpM K [.dat, .dat] .dat m__law_good_rule) := by
  have nd : (["_law_rule_here", "_law_k"] : List Str).Nodup := sc__law_good_rule.nd
  refine has_of (d := d__law_good_rule) (N := ["_law_rule_here", "_law_k"]) (n := 0) (k := 1) Z 21 33 rfl rfl rfl rfl rfl sc__law_good_rule rfl rfl (.inl rfl) (fun _ _ _ _ _ _ us hl => match us, hl with | [_, _], _ => rfl) (fun f cdv A outer s H E hr tk hp => ?_)
  exact (dss_cons (ds_if (dt_w (dw_or (dt_not (dt_val (de_bor (de_isi "tuple" PyProof.Rows.boot_tuple kit_tuple (Z.free 28) (Z.free 11) (de_bor (de_vd 0)))))) (dw_or (dt_cmp od_lt ne_lt (de_bor (de_callB cd_len ne_len (Z.free 1) PySem.boot_len (da_cons (de_bor (de_vd 0)) da_nil))) (de_bor de_int)) (dw_or1 (dt_not (dt_val (de_bor (de_isi "str" PyProof.Rows.boot_str kit_str (Z.free 28) (Z.free 32) (de_bor (de_ix (de_bor (de_vd 0)) (de_bor de_int))))))))))) (dss_one (ds_ret de_bl)) dss_nil)
  (dss_cons (ds_if (dt_w (dw_and (dt_cmp (od_eq hr.units) ne_eq (de_bor (de_ix (de_bor (de_vd 0)) (de_bor de_int))) (de_bor de_str)) (dw_and1 (dt_cmp (od_eq hr.units) ne_eq (de_bor (de_callB cd_len ne_len (Z.free 1) PySem.boot_len (da_cons (de_bor (de_vd 0)) da_nil))) (de_bor de_int))))) (dss_cons (ds_if (dt_w (dw_or (dt_not (dt_val (de_bor (de_isi "str" PyProof.Rows.boot_str kit_str (Z.free 28) (Z.free 32) (de_bor (de_ix (de_bor (de_vd 0)) (de_bor de_int))))))) (dw_or1 (dt_cmp (od_ne hr.units) ne_ne (de_bor (de_callB cd_len ne_len (Z.free 1) PySem.boot_len (da_cons (de_bor (de_ix (de_bor (de_vd 0)) (de_bor de_int))) da_nil))) (de_bor de_int))))) (dss_one (ds_ret de_bl)) dss_nil)
  (dss_one (ds_ret (de_cmp od_inS (ne_inS _) (de_bor (de_ix (de_bor (de_vd 0)) (de_bor de_int))) (de_bor de_str))))) dss_nil)
  (dss_cons (ds_if (dt_w (dw_or (dt_cmp (od_ne hr.units) ne_ne (de_bor (de_callB cd_len ne_len (Z.free 1) PySem.boot_len (da_cons (de_bor (de_vd 0)) da_nil))) (de_bor de_int)) (dw_or (dt_not (dt_val (de_bor (de_fn (h__law_whole Z Zx) hr tk (da_cons (de_ix (de_bor (de_vd 0)) (de_bor de_int)) da_nil))))) (dw_or (dt_not (dt_chain od_le od_lt ne_le ne_lt (de_bor de_int) (de_bor (de_ix (de_bor (de_vd 0)) (de_bor de_int))) (de_bor (de_vd 1)))) (dw_or1 (dt_not (dt_val (de_bor (de_fn (h__law_whole Z Zx) hr tk (da_cons (de_ix (de_bor (de_vd 0)) (de_bor de_int)) da_nil)))))))))) (dss_one (ds_ret de_bl)) dss_nil)
  (dss_cons (ds_if (dt_cmp (od_eq hr.units) ne_eq (de_bor (de_ix (de_bor (de_vd 0)) (de_bor de_int))) (de_bor de_str)) (dss_one (ds_ret (de_chain od_le od_lt ne_le ne_lt (de_bor de_int) (de_bor (de_ix (de_bor (de_vd 0)) (de_bor de_int))) (de_bor (de_vd 1))))) dss_nil)
  (dss_one (ds_ret (de_and (de_bor (de_cmp (od_eq hr.units) ne_eq (de_bor (de_ix (de_bor (de_vd 0)) (de_bor de_int))) (de_bor de_str))) (de_one (de_chain od_le od_le ne_le ne_le (de_bor de_int) (de_bor (de_ix (de_bor (de_vd 0)) (de_bor de_int))) (de_bor (de_bin od_pow ne_pow (de_bor de_int) (de_bor de_int))))))))))))

theorem h__law_told {P : Program} {w : World} {K : PySem.W.Frag} {mg : Str → Option Value} {base : Heap} (Z : Zed fa fn K mg) (Zx : ExX xs K mg) : Has P w K mg base "_law_told" 3 ["_law_found", "_law_rules_here", "_law_most"] (SpM K [.dat, .dat, .dat] .dat m__law_told) := by
  have nd : (["_law_found", "_law_rules_here", "_law_most", "_law_told_here", "_law_name_here", "_law_sizes", "_law_k"] : List Str).Nodup := sc__law_told.nd
  refine has_of (d := d__law_told) (N := ["_law_found", "_law_rules_here", "_law_most", "_law_told_here", "_law_name_here", "_law_sizes", "_law_k"]) (n := 4) (k := 2) Z 22 34 rfl rfl rfl rfl rfl sc__law_told rfl rfl (.inl rfl) (fun _ _ _ _ _ _ us hl => match us, hl with | [_, _, _], _ => rfl) (fun f cdv A outer s H E hr tk hp => ?_)
  exact (dss_cons (ds_if (dt_w (dw_or (dt_not (dt_val (de_bor (de_isi "tuple" PyProof.Rows.boot_tuple kit_tuple (Z.free 28) (Z.free 11) (de_bor (de_vd 0)))))) (dw_or (dt_cmp (od_ne hr.units) ne_ne (de_bor (de_callB cd_len ne_len (Z.free 1) PySem.boot_len (da_cons (de_bor (de_vd 0)) da_nil))) (de_bor de_int)) (dw_or1 (dt_not (dt_val (de_bor (de_isi "tuple" PyProof.Rows.boot_tuple kit_tuple (Z.free 28) (Z.free 11) (de_bor (de_ix (de_bor (de_vd 0)) (de_bor de_int))))))))))) (dss_one (ds_ret de_non)) dss_nil)
  (dss_cons (ds_asgG (de_vd 0) (dg_t (dgs_cons (dg_n 3 nd) (dgs_cons (dg_n 4 nd) dgs_nil))))
  (dss_cons (ds_if (dt_w (dw_or (dt_cmp (od_ne hr.units) ne_ne (de_bor (de_sl (de_bor (de_vd 3)) do_none (do_some (de_bor (de_callB cd_len ne_len (Z.free 1) PySem.boot_len (da_cons (de_bor (de_vd 1)) da_nil)))))) (de_bor (de_vd 1))) (dw_or1 (dt_cmp od_gt ne_gt (de_bor (de_callB cd_len ne_len (Z.free 1) PySem.boot_len (da_cons (de_bor (de_vd 3)) da_nil))) (de_bor (de_bin od_add ne_add (de_bor (de_callB cd_len ne_len (Z.free 1) PySem.boot_len (da_cons (de_bor (de_vd 1)) da_nil))) (de_bor (de_vd 2)))))))) (dss_one (ds_ret de_non)) dss_nil)
  (dss_cons (ds_asgN (i := 5) nd (de_lst da_nil))
  (dss_cons (ds_for hp (di_r1 (Z.free 2) (de_bor (de_callB cd_len ne_len (Z.free 1) PySem.boot_len (da_cons (de_bor (de_vd 3)) da_nil)))) (dg_n 6 nd) (dss_cons (ds_if (dt_not (dt_val (de_bor (de_fn (h__law_good_rule Z Zx) hr tk (da_cons (de_ix (de_bor (de_vd 3)) (de_bor (de_vd 6))) (da_cons (de_vd 6) da_nil)))))) (dss_one (ds_ret de_non)) dss_nil)
  (dss_one (ds_app (i := 5) (de_fn (h__law_size Z Zx) hr tk (da_cons (de_ix (de_bor (de_vd 3)) (de_bor (de_vd 6))) (da_cons (de_v 5) da_nil)))))))
  (dss_cons (ds_if (dt_w (dw_and (dt_cmp od_isnot ne_isnot (de_bor (de_vd 4)) (de_bor de_non)) (dw_and1 (dt_w (dw_or (dt_not (dt_val (de_bor (de_fn (h__law_whole Z Zx) hr tk (da_cons (de_vd 4) da_nil))))) (dw_or1 (dt_not (dt_chain od_le od_lt ne_le ne_lt (de_bor de_int) (de_bor (de_vd 4)) (de_bor (de_callB cd_len ne_len (Z.free 1) PySem.boot_len (da_cons (de_bor (de_vd 3)) da_nil))))))))))) (dss_one (ds_ret de_non)) dss_nil)
  (dss_cons (ds_if (dt_cmp od_gt ne_gt (de_bor (de_callB (cd_max rfl) ne_max (Z.free 8) (by decide +kernel) (da_cons (de_bor (de_bin od_add ne_add (de_nbor (de_lst (da_cons de_int da_nil))) (de_v 5))) da_nil))) (de_bor (de_bin od_pow ne_pow (de_bor de_int) (de_bor de_int)))) (dss_one (ds_ret de_non)) dss_nil)
  (dss_one (ds_retF 5)))))))))

theorem h__law_cell {P : Program} {w : World} {K : PySem.W.Frag} {mg : Str → Option Value} {base : Heap} (Z : Zed fa fn K mg) (Zx : ExX xs K mg) : Has P w K mg base "_law_cell" 1 ["_law_script", "_law_k"] (SpM K [.dat, .dat] .dat m__law_cell) := by
  have nd : (["_law_script", "_law_k", "_law_number"] : List Str).Nodup := sc__law_cell.nd
  refine has_of (d := d__law_cell) (N := ["_law_script", "_law_k", "_law_number"]) (n := 1) (k := 0) Z 23 35 rfl rfl rfl rfl rfl sc__law_cell rfl rfl (.inl rfl) (fun _ _ _ _ _ _ us hl => match us, hl with | [_, _], _ => rfl) (fun f cdv A outer s H E hr tk hp => ?_)
  exact (dss_cons (ds_if (dt_cmp od_lt ne_lt (de_bor (de_vd 1)) (de_bor (de_callB cd_len ne_len (Z.free 1) PySem.boot_len (da_cons (de_bor (de_vd 0)) da_nil)))) (dss_one (ds_ret (de_bin od_mod ne_mod (de_bor (de_bin od_mul ne_mul (de_bor (de_ix (de_bor (de_vd 0)) (de_bor (de_vd 1)))) (de_bor de_int))) (de_bor (de_bin od_pow ne_pow (de_bor de_int) (de_bor de_int)))))) dss_nil)
  (dss_cons (ds_asg (i := 2) nd (de_bin od_add ne_add (de_bor (de_bin od_mul ne_mul (de_bor (de_bin od_mul ne_mul (de_bor (de_vd 1)) (de_bor (de_vd 1)))) (de_bor de_int))) (de_bor de_int)))
  (dss_cons (ds_if (dt_cmp od_gt ne_gt (de_bor (de_callB cd_len ne_len (Z.free 1) PySem.boot_len (da_cons (de_bor (de_vd 0)) da_nil))) (de_bor de_int)) (dss_one (ds_asg (i := 2) nd (de_bin od_add ne_add (de_bor (de_vd 2)) (de_bor (de_bin od_mul ne_mul (de_bor (de_bin od_mod ne_mod (de_bor (de_ix (de_bor (de_vd 0)) (de_bor (de_bin od_mod ne_mod (de_bor (de_bin od_mul ne_mul (de_bor (de_vd 1)) (de_bor de_int))) (de_bor (de_callB cd_len ne_len (Z.free 1) PySem.boot_len (da_cons (de_bor (de_vd 0)) da_nil))))))) (de_bor (de_bin od_pow ne_pow (de_bor de_int) (de_bor de_int))))) (de_bor de_int)))))) dss_nil)
  (dss_one (ds_ret (de_bin od_mod ne_mod (de_bor (de_bin od_mul ne_mul (de_bor (de_vd 2)) (de_bor (de_vd 2)))) (de_bor de_int)))))))

theorem h__law_cells {P : Program} {w : World} {K : PySem.W.Frag} {mg : Str → Option Value} {base : Heap} (Z : Zed fa fn K mg) (Zx : ExX xs K mg) : Has P w K mg base "_law_cells" 2 ["_law_script", "_law_first_one", "_law_behind_last"] (SpM K [.dat, .dat, .dat] .new m__law_cells) := by
  have nd : (["_law_script", "_law_first_one", "_law_behind_last", "_law_k"] : List Str).Nodup := sc__law_cells.nd
  refine has_of (d := d__law_cells) (N := ["_law_script", "_law_first_one", "_law_behind_last", "_law_k"]) (n := 1) (k := 1) Z 24 36 rfl rfl rfl rfl rfl sc__law_cells rfl rfl (.inr nonx_ret) (fun _ _ _ _ _ _ us hl => match us, hl with | [_, _, _], _ => rfl) (fun f cdv A outer s H E hr tk hp => ?_)
  exact (dss_one (ds_ret (de_lc (own := [("_law_k", 3)]) nd (dic_of (di_r2 (Z.free 2) (da_cons (de_bor (de_vd 1)) (da_cons (de_bor (de_callB (cd_min rfl) ne_min (Z.free 5) (by decide +kernel) (da_cons (de_bor (de_vd 2)) (da_cons (de_bor (de_callB cd_len ne_len (Z.free 1) PySem.boot_len (da_cons (de_bor (de_vd 0)) da_nil))) da_nil)))) da_nil)))) (blkOk_by (own := [("_law_k", 3)]) (N := ["_law_script", "_law_first_one", "_law_behind_last", "_law_k"]) (sc := defScope s__law_cells) (by decide +kernel)) (gok_n 3) (fun _ _ _ _ _ => pg_name (i := 3) nd rfl (Or.inl rfl)) (fun _ _ _ _ _ => dts_nil) (fun _ _ _ _ _ => (de_fn (h__law_cell Z Zx) hr takes0 (da_cons (de_vd 0) (da_cons (de_vd 3) da_nil)))))))

theorem h__law_no_name {P : Program} {w : World} {K : PySem.W.Frag} {mg : Str → Option Value} {base : Heap} (Z : Zed fa fn K mg) (Zx : ExX xs K mg) : Has P w K mg base "_law_no_name" 4 ["_law_rules_here", "_law_name_here"] (SpM K [.dat, .dat] .dat m__law_no_name) := by
  have nd : (["_law_rules_here", "_law_name_here", "_law_caught", "_law_kinds", "error"] : List Str).Nodup := sc__law_no_name.nd
  refine has_of (d := d__law_no_name) (N := ["_law_rules_here", "_law_name_here", "_law_caught", "_law_kinds", "error"]) (n := 3) (k := 3) Z 25 37 rfl rfl rfl rfl rfl sc__law_no_name rfl rfl (.inl rfl) (fun _ _ _ _ _ _ us hl => match us, hl with | [_, _], _ => rfl) (fun f cdv A outer s H E hr tk hp => ?_)
  exact (dss_cons (ds_asg (i := 2) nd de_bl)
  (dss_cons (ds_asg (i := 3) nd de_non)
  (dss_cons (ds_try Zx tk (fun _ _ _ tk hp => (dss_one (ds_drop (de_fn (h_tidy Z Zx) hr tk (da_cons (de_vd 0) (da_cons (de_vd 1) da_nil)))))) (hds_cons 4 (fun _ _ _ => (dss_one (ds_asg (i := 2) nd de_bl))) .nil))
  (dss_cons (ds_tryAs (i := 4) 0 Zx tk nd (fun _ _ _ tk hp => (dss_one (ds_drop (de_fn (h_tidy Z Zx) hr tk (da_cons (de_vd 0) (da_cons (de_vd 1) da_nil)))))) (fun c hc a oe pn hz hf => (dss_one (ds_asg (i := 3) nd (de_frz (de_lst (da_cons (de_isET Zx hc hz hf (Z.free 28) (cls_cons 5 (cls_cons 1 .nil))) (da_cons (de_isET Zx hc hz hf (Z.free 28) (cls_cons 3 (cls_cons 2 .nil))) da_nil))))))))
  (dss_one (ds_ret (de_and (de_bor (de_vd 2)) (de_one (de_cmp (od_eq hr.units) ne_eq (de_bor (de_vd 3)) (de_nbor (de_lst (da_cons de_bl (da_cons de_bl da_nil)))))))))))))

theorem h_law {P : Program} {w : World} {K : PySem.W.Frag} {mg : Str → Option Value} {base : Heap} (Z : Zed fa fn K mg) (Zx : ExX xs K mg) : Has P w K mg base "law" 5 ["_law_script"] (SpM K [.dat] .dat m_law) := by
  have nd : (["_law_script", "_law_rules_here", "_law_name_here", "_law_far_here", "_law_due", "_law_found", "_law_sizes"] : List Str).Nodup := sc_law.nd
  refine has_of (d := d_law) (N := ["_law_script", "_law_rules_here", "_law_name_here", "_law_far_here", "_law_due", "_law_found", "_law_sizes"]) (n := 6) (k := 4) Z 26 38 rfl rfl rfl rfl rfl sc_law rfl rfl (.inl rfl) (fun _ _ _ _ _ _ us hl => match us, hl with | [_], _ => rfl) (fun f cdv A outer s H E hr tk hp => ?_)
  exact (dss_cons (ds_asg (i := 1) nd (de_fn (h__law_again Z Zx) hr tk (da_cons (de_bin od_add ne_add (de_nbor (de_lst (da_cons (de_fn (h__law_cell Z Zx) hr tk (da_cons (de_vd 0) (da_cons de_int da_nil))) da_nil))) (de_nbor (de_fn (h__law_cells Z Zx) hr tk (da_cons (de_vd 0) (da_cons de_int (da_cons de_int da_nil)))))) da_nil)))
  (dss_cons (ds_asg (i := 1) nd (de_fn (h__law_deeper Z Zx) hr tk (da_cons (de_vd 1) (da_cons (de_bin od_div ne_div (de_bor (de_fn (h__law_cell Z Zx) hr tk (da_cons (de_vd 0) (da_cons de_int da_nil)))) (de_bor de_int)) da_nil))))
  (dss_cons (ds_asg (i := 2) nd (de_fn (h__law_name Z Zx) hr tk (da_cons (de_fn (h__law_cell Z Zx) hr tk (da_cons (de_vd 0) (da_cons de_int da_nil))) (da_cons (de_callB cd_len ne_len (Z.free 1) PySem.boot_len (da_cons (de_bor (de_vd 1)) da_nil)) da_nil))))
  (dss_cons (ds_asg (i := 3) nd (de_fn (h__law_far Z Zx) hr tk (da_cons (de_bin od_div ne_div (de_bor (de_fn (h__law_cell Z Zx) hr tk (da_cons (de_vd 0) (da_cons de_int da_nil)))) (de_bor de_int)) da_nil)))
  (dss_cons (ds_if (dt_w (dw_or (dt_not (dt_val (de_bor (de_fn (h__law_no_name Z Zx) hr tk (da_cons (de_vd 1) (da_cons (de_bin od_add ne_add (de_bor (de_callB cd_len ne_len (Z.free 1) PySem.boot_len (da_cons (de_bor (de_vd 1)) da_nil))) (de_bor (de_vd 3))) da_nil)))))) (dw_or1 (dt_not (dt_val (de_bor (de_fn (h__law_no_name Z Zx) hr tk (da_cons (de_vd 1) (da_cons (de_bin od_sub ne_sub (de_bor (de_neg (de_bor de_int))) (de_bor (de_vd 3))) da_nil))))))))) (dss_one (ds_ret de_bl)) dss_nil)
  (dss_cons (ds_if (dt_cmp (od_ne hr.units) ne_ne (de_bor (de_fn (h_tidy Z Zx) hr tk (da_cons (de_vd 1) (da_cons de_non da_nil)))) (de_bor (de_tup (da_cons (de_tup da_nil) (da_cons de_non da_nil))))) (dss_one (ds_ret de_bl)) dss_nil)
  (dss_cons (ds_if (dt_cmp od_is ne_is (de_bor (de_vd 2)) (de_bor de_non)) (dss_one (ds_asg (i := 2) nd de_int)) dss_nil)
  (dss_cons (ds_asg (i := 4) nd (de_fn (h__law_tidied Z Zx) hr tk (da_cons (de_vd 1) (da_cons (de_vd 2) da_nil))))
  (dss_cons (ds_asg (i := 5) nd (de_fn (h_tidy Z Zx) hr tk (da_cons (de_vd 1) (da_cons (de_vd 2) da_nil))))
  (dss_cons (ds_asg (i := 6) nd (de_fn (h__law_told Z Zx) hr tk (da_cons (de_vd 5) (da_cons (de_tup da_nil) (da_cons (de_callB cd_len ne_len (Z.free 1) PySem.boot_len (da_cons (de_bor (de_vd 1)) da_nil)) da_nil)))))
  (dss_cons (ds_if (dt_w (dw_or (dt_cmp od_is ne_is (de_bor (de_vd 6)) (de_bor de_non)) (dw_or (dt_cmp (od_ne hr.units) ne_ne (de_bor (de_ix (de_bor (de_vd 5)) (de_bor de_int))) (de_bor (de_vd 4))) (dw_or1 (dt_cmp (od_ne hr.units) ne_ne (de_bor (de_ix (de_bor (de_vd 5)) (de_bor de_int))) (de_bor (de_bin od_sub ne_sub (de_bor (de_callB cd_len ne_len (Z.free 1) PySem.boot_len (da_cons (de_bor (de_vd 4)) da_nil))) (de_bor de_int)))))))) (dss_one (ds_ret de_bl)) dss_nil)
  (dss_cons (ds_if (dt_cmp (od_ne hr.units) ne_ne (de_bor (de_fn (h_tidy Z Zx) hr tk (da_cons (de_ix (de_bor (de_vd 5)) (de_bor de_int)) (da_cons (de_ix (de_bor (de_vd 5)) (de_bor de_int)) da_nil)))) (de_bor (de_vd 5))) (dss_one (ds_ret de_bl)) dss_nil)
  (dss_cons (ds_drop (de_fn (h_tidy Z Zx) hr tk (da_cons (de_vd 1) (da_cons de_int da_nil))))
  (dss_one (ds_ret (de_cmp (od_eq hr.units) ne_eq (de_bor (de_fn (h_tidy Z Zx) hr tk (da_cons (de_vd 1) (da_cons (de_vd 2) da_nil)))) (de_bor (de_vd 5))))))))))))))))))

abbrev R : PySem.W.OpenRow := PySem.W.OpenLaw.row PySem.Challenge.rw_shortbook_k17_tidy
abbrev hk : PySem.W.Hook := hookX 5 fa fn xs
def ob (s : PySem.W.SharedT) : He.AlD × Bool := obsX 5 fa fn xs (HandSHeadRun.getT s)
theorem ob_is (s : PySem.W.SharedT) : ob s = hk.obs s.abs := obsX_eq (HandSHeadRun.getT_eq s)
def loose : List Str := (["BookError", "NoRules", "TooMany", "TooLong", "NoName", "NoPlace", "parts_of", "needed", "named", "put", "renamed", "tidy", "_law_cell", "_law_cells", "_law_sign_by", "_law_earlier", "_law_times", "_law_rule", "_law_size", "_law_rules", "_law_whole", "_law_good_rule", "_law_told", "_law_long", "_law_name"] : List Str) ++ (["_law_far", "_law_twin", "_law_echo", "_law_again", "_law_renamed", "_law_tidied", "_law_no_name", "_law_lengths", "_law_deeper"] : List Str)
theorem runs (w : World) : HandSHeadRun.RunEq R (PySem.W.view R.prog [40]) hk ob 4000 loose w := by
  intro os
  kernel_rfl
theorem law_has {P : Program} {w : World} {K : PySem.W.Frag} {mg : Str → Option Value} (Z : Zed fa fn K mg) (Zx : ExX xs K mg) : ∃ fd : FuncData, (∀ (s : Shared) (v : Value), BindsTo s fd ⟨[v], []⟩ [("_law_script", v)]) ∧ ∀ base : Heap, FnOk P w K mg base (L2.CX P w) 5 (He.ga K "law") fd ["_law_script"] (SpM K [.dat] .dat m_law) :=
  law_of Z 26 (d := d_law) rfl rfl rfl (fun base => h_law (P := P) (w := w) (base := base) Z Zx) (fun _ _ _ _ _ _ us hl => match us, hl with | [_], _ => rfl)
/-- the law, from what its meaning gives of every script -/
theorem holds_of (hm : ∀ ns : List Int, ns.length ≤ 63 → (∀ z ∈ ns, Builtin.Int.intBits z ≤ 1048576) → m_law [.list (ns.map PyData.int)] = .ok (.bool true)) : PySem.Challenge.rw_shortbook_k17_tidy.Holds := by
  w_on; o_law
  refine HandSHeadRun.head_any (r := PySem.W.OpenLaw.row PySem.Challenge.rw_shortbook_k17_tidy) (q := PySem.W.view (PySem.W.OpenLaw.row PySem.Challenge.rw_shortbook_k17_tidy).prog [40]) (H := hk) (ob := ob) (M := 4000) (loose := loose) (d := HandSHeadRun.topDef (PySem.W.OpenLaw.row PySem.Challenge.rw_shortbook_k17_tidy).prog 40) (kwd := []) ob_is
    (by kernel_rfl) (fun s => by kernel_rfl) runs (by kernel_rfl) (by kernel_rfl) (by kernel_rfl) (by rfl) (by first | assumption | decide +kernel) (by decide +kernel) ⟨rfl, rfl, rfl, rfl, rfl, by decide +kernel⟩ ?hw ?hc
  case hw => w_witness2
  case hc =>
    refine walk_EB (l := PySem.Challenge.rw_shortbook_k17_tidy) (n := 63) (k := 5) (x := "_law_script") rfl (by decide) (by kernel_rfl) ⟨rfl, by decide, by decide⟩ ?F
    intro w mg f h Y G hmg0
    obtain ⟨K, KX, c, cx⟩ := Y
    have Z : Zed fa fn K mg := ⟨c, h, KX, G⟩
    have Zx : ExX xs K mg := ExX.of KX G cx
    have hmg : mg ("law" : PySem.Str) = some (.ref f) := by
      have e : (HandSHeadRun.topDef (PySem.W.OpenLaw.row PySem.Challenge.rw_shortbook_k17_tidy).prog 40).name = ("law" : PySem.Str) := by kernel_rfl
      rw [← e]
      exact hmg0
    have e2 : f = He.ga K "law" := by
      have z := hmg.symm.trans (Z.glo 38 (x := "law"))
      cases z
      rfl
    subst e2
    obtain ⟨fd, hb, hF⟩ := law_has (P := (PySem.Challenge.rw_shortbook_k17_tidy).prog) (w := w) Z Zx
    exact ⟨K, fd, SpM K [.dat] .dat m_law, KX, hb, fun H a ns hl hbits _ hS => law_sp hS (hm ns hl hbits), fun base _ _ => hF base⟩

end Sb

/-! C1: rules as plain data. -/
namespace Sb
open PySem PySem.Spec L2 Evl DL
theorem bits_log {z : Int} {n : Nat} (h : Builtin.Int.intBits z ≤ n) : z.natAbs.log2 ≤ n := by
  unfold Builtin.Int.intBits at h
  split at h
  · rename_i e
    have : z = 0 := by simpa using e
    subst this
    simp
  · omega
theorem dMul_bits {i j : Int} (a : Nat) (hi : Builtin.Int.intBits i ≤ 1048576) (hj : j.natAbs < 2 ^ a) (ha : a ≤ 1000 := by decide) : dMul (.int i) (.int j) = .ok (.int (i * j)) :=
  dMul_ii (by
    have h1 := bits_log hi
    have h2 := log2_le hj
    unfold mulBits
    omega)
theorem abs_lt_of {i : Int} {n : Nat} (h0 : 0 ≤ i) (h : i < 2 ^ n) : i.natAbs < 2 ^ n := by
  have e : ((2 ^ n : Nat) : Int) = (2 : Int) ^ n := by simp
  omega
theorem sz_le {n : Nat} (h : n ≤ 100000) : n ≤ sizeLine := Nat.le_trans h (by decide)
theorem sz_lt' {n : Nat} (h : n < 100000) : n < sizeLine := Nat.lt_of_lt_of_le h (by decide)
/-- the signs -/
abbrev SG : Str := "0123456789ABCDEFGHIJKLMNOPQRSTUVWXYZabcdefghijklmnopqrstuvwxyz"
def sgL : List Nat := SG.cps.toList
theorem sgL_len : sgL.length = 62 := by decide +kernel
theorem sg_len : SG.length ≤ sizeLine := by decide +kernel
abbrev s1 (c : Nat) : Str := ⟨#[c]⟩
abbrev SIGN : Str := "sign"
abbrev JOIN : Str := "join"
abbrev TIMES : Str := "times"
theorem js : ¬ (JOIN = SIGN) := by decide +kernel
theorem ts : ¬ (TIMES = SIGN) := by decide +kernel
theorem tj : ¬ (TIMES = JOIN) := by decide +kernel
theorem sj : ¬ (SIGN = JOIN) := by decide +kernel
theorem st : ¬ (SIGN = TIMES) := by decide +kernel
theorem jt : ¬ (JOIN = TIMES) := by decide +kernel
/-! ### rules -/
inductive Rule where
  | sign (c : Nat) | join (a b : Nat) | times (a n : Nat)
  deriving DecidableEq
def ruleD : Rule → D
  | .sign c => .tuple [.str SIGN, .str (s1 c)]
  | .join a b => .tuple [.str JOIN, .int (a : Int), .int (b : Int)]
  | .times a n => .tuple [.str TIMES, .int (a : Int), .int (n : Int)]
def rulesD (rs : List Rule) : D := .tuple (rs.map ruleD)
def natsD (ns : List Nat) : D := .list (ns.map fun (n : Nat) => PyData.int (n : Int))
def MOST : Nat := 1152921504606846976
/-- r may stand as the i-th rule -/
def Rule.ok (i : Nat) : Rule → Prop
  | .sign c => c ∈ sgL
  | .join a b => a < i ∧ b < i
  | .times a n => a < i ∧ 1 ≤ n ∧ n ≤ MOST
def Rule.size (sz : List Nat) : Rule → Nat
  | .sign _ => 1
  | .join a b => sz.getD a 0 + sz.getD b 0
  | .times a n => sz.getD a 0 * n
def sizesF (acc : List Nat) (rs : List Rule) : List Nat := rs.foldl (fun acc r => acc ++ [r.size acc]) acc
def sizes (rs : List Rule) : List Nat := sizesF [] rs
theorem sizesF_len (rs : List Rule) : ∀ acc, (sizesF acc rs).length = acc.length + rs.length := by
  induction rs with
  | nil => intro acc; simp [sizesF]
  | cons r rs ih =>
    intro acc
    have := ih (acc ++ [r.size acc])
    simp [sizesF] at this ⊢
    omega
theorem sizes_len (rs : List Rule) : (sizes rs).length = rs.length := by simp [sizes, sizesF_len]
theorem sizes_snoc (rs : List Rule) (r : Rule) : sizes (rs ++ [r]) = sizes rs ++ [r.size (sizes rs)] := by simp [sizes, sizesF]
def Good (rs : List Rule) : Prop := ∀ (i : Nat) r, rs[i]? = some r → r.ok i
theorem Good.snoc {rs : List Rule} {r : Rule} (h : Good rs) (hr : r.ok rs.length) : Good (rs ++ [r]) := fun i q e => by
  rcases Nat.lt_or_ge i rs.length with hl | hg
  · rw [List.getElem?_append_left hl] at e
    exact h i q e
  · rw [List.getElem?_append_right hg] at e
    have e0 : i - rs.length = 0 := by
      cases z : i - rs.length with
      | zero => rfl
      | succ n =>
        rw [z] at e
        simp at e
    rw [e0] at e
    have ei : i = rs.length := by omega
    subst ei
    have : q = r := by simpa using e.symm
    rw [this]
    exact hr
theorem Good.nil : Good [] := fun i r e => by simp at e
theorem Good.init {rs : List Rule} {r : Rule} (h : Good (rs ++ [r])) : Good rs ∧ r.ok rs.length := by
  refine ⟨fun i q e => h i q ?_, h rs.length r (by simp)⟩
  rw [List.getElem?_append_left (List.getElem?_eq_some_iff.mp e).1]
  exact e
/-- all texts of at most m signs -/
def Fits (m : Nat) (rs : List Rule) : Prop := ∀ n ∈ sizes rs, n ≤ m
theorem snocInd {α : Type} {P : List α → Prop} (h0 : P []) (hs : ∀ l a, P l → P (l ++ [a])) : ∀ l, P l := by
  have key : ∀ l : List α, P l.reverse := by
    intro l
    induction l with
    | nil => exact h0
    | cons a l ih =>
      rw [List.reverse_cons]
      exact hs _ _ ih
  intro l
  have := key l.reverse
  rw [List.reverse_reverse] at this
  exact this
theorem sizes_pre (rs qs : List Rule) : ∃ zs, sizes (rs ++ qs) = sizes rs ++ zs := by
  refine snocInd (P := fun qs => ∃ zs, sizes (rs ++ qs) = sizes rs ++ zs) ⟨[], by simp⟩ ?_ qs
  rintro l a ⟨zs, h⟩
  refine ⟨zs ++ [a.size (sizes (rs ++ l))], ?_⟩
  rw [← List.append_assoc, sizes_snoc, h, List.append_assoc]
theorem Fits.pre {m : Nat} {rs qs : List Rule} (h : Fits m (rs ++ qs)) : Fits m rs := fun n hn => by
  obtain ⟨zs, e⟩ := sizes_pre rs qs
  exact h n (by rw [e]; exact List.mem_append_left _ hn)
theorem Fits.take {m : Nat} {rs : List Rule} (h : Fits m rs) (i : Nat) : Fits m (rs.take i) := Fits.pre (qs := rs.drop i) (by rw [List.take_append_drop]; exact h)
def Pos (rs : List Rule) : Prop := ∀ n ∈ sizes rs, 1 ≤ n
theorem size_pos {sz : List Nat} {r : Rule} (h : ∀ n ∈ sz, 1 ≤ n) (hr : r.ok sz.length) : 1 ≤ r.size sz := by
  have g : ∀ a, a < sz.length → 1 ≤ sz.getD a 0 := fun a ha => by
    have e : sz.getD a 0 = sz[a] := by simp [List.getD, ha]
    rw [e]
    exact h _ (List.getElem_mem ha)
  cases r with
  | sign c => exact Nat.le_refl _
  | join a b =>
    have := g a hr.1
    show 1 ≤ sz.getD a 0 + sz.getD b 0
    omega
  | times a n =>
    have h1 := g a hr.1
    have h2 := hr.2.1
    exact Nat.mul_pos h1 h2
theorem pos_of_good : ∀ (rs : List Rule), Good rs → Pos rs := by
  refine snocInd ?_ ?_
  · intro _ n hn
    simp [sizes, sizesF] at hn
  · intro rs r ih h n hn
    obtain ⟨h1, h2⟩ := h.init
    rw [sizes_snoc, List.mem_append] at hn
    rcases hn with hn | hn
    · exact ih h1 n hn
    · have : n = r.size (sizes rs) := by simpa using hn
      rw [this]
      exact size_pos (ih h1) (by rw [sizes_len]; exact h2)
theorem natsD_len (ns : List Nat) : (ns.map fun (n : Nat) => PyData.int (n : Int)).length = ns.length := by simp
theorem dIx_nats {ns : List Nat} {a : Nat} (h : a < ns.length) : dIx (natsD ns) (.int (a : Int)) = .ok (.int (ns.getD a 0 : Nat)) := by
  unfold natsD
  rw [dIx_l (by omega) (by simpa using h)]
  simp [List.getD, h]
@[simp] theorem dIx_t0 (a : D) (r : List D) : dIx (.tuple (a :: r)) (.int 0) = .ok a := by
  rw [dIx_t (by decide) (by simp)]
  rfl
@[simp] theorem dIx_t1 (a b : D) (r : List D) : dIx (.tuple (a :: b :: r)) (.int 1) = .ok b := by
  rw [dIx_t (by decide) (by simp; omega)]
  rfl
@[simp] theorem dIx_t2 (a b c : D) (r : List D) : dIx (.tuple (a :: b :: c :: r)) (.int 2) = .ok c := by
  rw [dIx_t (by decide) (by simp; omega)]
  rfl
theorem natAbs_lt {n a : Nat} (h : n < 2 ^ a) : ((n : Int)).natAbs < 2 ^ a := by simpa using h
theorem dMul_nat {m n : Nat} (a b : Nat) (hm : m < 2 ^ a) (hn : n < 2 ^ b) (h : a + b < mulBits := by decide) : dMul (.int (m : Int)) (.int (n : Int)) = .ok (.int ((m * n : Nat) : Int)) := by
  rw [dMul_ok a b (natAbs_lt hm) (natAbs_lt hn) h]
  simp
theorem getD_le {sz : List Nat} {m a : Nat} (h : ∀ n ∈ sz, n ≤ m) : sz.getD a 0 ≤ m := by
  by_cases ha : a < sz.length
  · have e : sz.getD a 0 = sz[a] := by simp [List.getD, ha]
    rw [e]
    exact h _ (List.getElem_mem ha)
  · have e : sz.getD a 0 = 0 := by simp [List.getD, Nat.le_of_not_lt ha]
    omega
theorem run_rt {ks : List Kd} {n : Nat} {m : SM} {ds : List D} {d : D} (h : m (mkEnv ks ds ++ List.replicate n .un) = .rt d) : runM ks n m ds = .ok d := by simp [runM, h]
theorem run_nx {ks : List Kd} {n : Nat} {m : SM} {ds : List D} {ρ : DL.Env} (h : m (mkEnv ks ds ++ List.replicate n .un) = .nx ρ) : runM ks n m ds = .ok .none := by simp [runM, h]
theorem run_ex {ks : List Kd} {n : Nat} {m : SM} {ds : List D} {ρ : DL.Env} {c : Str} (h : m (mkEnv ks ds ++ List.replicate n .un) = .ex c ρ) : runM ks n m ds = .ex c := by simp [runM, h]
end Sb

namespace Sb
open PySem PySem.Spec L2 Evl DL
/-! C2: more about rules as plain data. -/
theorem forD_app {g : GM} {body : SM} (P : Nat → DL.Env → Prop) : ∀ (ds : List D) (k : Nat) (ρ : DL.Env), P k ρ → (∀ (i : Nat) d ρ, ds[i]? = some d → P (k + i) ρ → ∃ ρ1 ρ2, g d ρ = some ρ1 ∧ (body ρ1 = .nx ρ2 ∨ body ρ1 = .ct ρ2) ∧ P (k + i + 1) ρ2) →
    ∃ ρ', (∀ es, forD g body (ds ++ es) ρ = forD g body es ρ') ∧ P (k + ds.length) ρ'
  | [], k, ρ, h0, _ => ⟨ρ, fun es => rfl, h0⟩
  | d :: r, k, ρ, h0, hs => by
    obtain ⟨ρ1, ρ2, e1, e2, p⟩ := hs 0 d ρ rfl h0
    obtain ⟨ρ', e3, p3⟩ := forD_app P r (k + 1) ρ2 p fun i d' ρ q p' => by
      have := hs (i + 1) d' ρ (by simpa using q) (by rw [show k + (i + 1) = k + 1 + i by omega]; exact p')
      rw [show k + (i + 1) + 1 = k + 1 + i + 1 by omega] at this
      exact this
    refine ⟨ρ', fun es => ?_, by rw [show k + (d :: r).length = k + 1 + r.length by simp; omega]; exact p3⟩
    simp only [List.cons_append, forD, e1]
    rcases e2 with e2 | e2 <;> rw [e2] <;> exact e3 es
theorem sizes_get {rs : List Rule} {i : Nat} (h : i < rs.length) (qs : List Rule) : (sizes (rs ++ qs)).getD i 0 = (sizes rs).getD i 0 := by
  obtain ⟨zs, e⟩ := sizes_pre rs qs
  have hl : i < (sizes rs).length := by rw [sizes_len]; exact h
  rw [e]
  simp [List.getD, List.getElem?_append_left hl]
theorem sizes_last (rs : List Rule) (r : Rule) : (sizes (rs ++ [r])).getD rs.length 0 = r.size (sizes rs) := by
  rw [sizes_snoc]
  have hl := sizes_len rs
  simp [List.getD, ← hl]
theorem Good.pre {rs qs : List Rule} (h : Good (rs ++ qs)) : Good rs := fun i r e => h i r (by rw [List.getElem?_append_left (List.getElem?_eq_some_iff.mp e).1]; exact e)
theorem Good.take {rs : List Rule} (h : Good rs) (i : Nat) : Good (rs.take i) := Good.pre (qs := rs.drop i) (by rw [List.take_append_drop]; exact h)
theorem Fits.snoc {m : Nat} {rs : List Rule} {r : Rule} (h : Fits m rs) (hr : r.size (sizes rs) ≤ m) : Fits m (rs ++ [r]) := fun n hn => by
  rw [sizes_snoc, List.mem_append] at hn
  rcases hn with hn | hn
  · exact h n hn
  · have : n = r.size (sizes rs) := by simpa using hn
    omega
theorem Fits.get {m : Nat} {rs : List Rule} (h : Fits m rs) (i : Nat) : (sizes rs).getD i 0 ≤ m := getD_le h
theorem Pos.get {rs : List Rule} (g : Good rs) {i : Nat} (h : i < rs.length) : 1 ≤ (sizes rs).getD i 0 := by
  have hl : i < (sizes rs).length := by rw [sizes_len]; exact h
  have e : (sizes rs).getD i 0 = (sizes rs)[i] := by simp [List.getD, hl]
  rw [e]
  exact pos_of_good rs g _ (List.getElem_mem hl)
/-- so many more, each once the one ahead -/
theorem echo_good {rs : List Rule} (g : Good rs) (f : Fits MOST rs) (h1 : 1 ≤ rs.length) : ∀ n : Nat, Good (rs ++ (List.range n).map fun k => Rule.times (rs.length - 1 + k) 1) ∧ Fits MOST (rs ++ (List.range n).map fun k => Rule.times (rs.length - 1 + k) 1)
  | 0 => by simpa using ⟨g, f⟩
  | n + 1 => by
    obtain ⟨g1, f1⟩ := echo_good g f h1 n
    rw [List.range_succ, List.map_append, ← List.append_assoc]
    obtain ⟨qs, hq⟩ : ∃ qs, qs = rs ++ (List.range n).map fun k => Rule.times (rs.length - 1 + k) 1 := ⟨_, rfl⟩
    rw [← hq] at g1 f1 ⊢
    have hl : qs.length = rs.length + n := by rw [hq]; simp
    refine ⟨g1.snoc ⟨by omega, by decide, by decide⟩, f1.snoc ?_⟩
    show (sizes qs).getD (rs.length - 1 + n) 0 * 1 ≤ MOST
    rw [Nat.mul_one]
    exact f1.get _
/-- the first two rules are signs -/
def Start (rs : List Rule) : Prop := ∃ s t tl, rs = .sign s :: .sign t :: tl
theorem Start.app {rs : List Rule} (h : Start rs) (qs : List Rule) : Start (rs ++ qs) := by
  obtain ⟨s, t, tl, rfl⟩ := h
  exact ⟨s, t, tl ++ qs, rfl⟩
theorem Start.size {rs : List Rule} (h : Start rs) : (sizes rs).getD 0 0 = 1 := by
  obtain ⟨s, t, tl, rfl⟩ := h
  exact sizes_get (rs := [.sign s]) (i := 0) (Nat.zero_lt_one) (.sign t :: tl)
/-- so many more, each the first and the one ahead -/
theorem chain_good {rs : List Rule} (g : Good rs) (f : Fits MOST rs) (h1 : Start rs) (hl0 : (sizes rs).getD (rs.length - 1) 0 < 2 ^ 59) : ∀ n : Nat, n ≤ 1000 → Good (rs ++ (List.range n).map fun k => Rule.join 0 (rs.length - 1 + k)) ∧ Fits MOST (rs ++ (List.range n).map fun k => Rule.join 0 (rs.length - 1 + k)) ∧
    (sizes (rs ++ (List.range n).map fun k => Rule.join 0 (rs.length - 1 + k))).getD (rs.length - 1 + n) 0 < 2 ^ 59 + n + 1
  | 0, _ => by
    simp only [List.range_zero, List.map_nil, List.append_nil, Nat.add_zero]
    exact ⟨g, f, by omega⟩
  | n + 1, hn => by
    obtain ⟨g1, f1, z1⟩ := chain_good g f h1 hl0 n (by omega)
    have hp : 1 ≤ rs.length := by
      obtain ⟨s, t, tl, rfl⟩ := h1
      simp
    rw [List.range_succ, List.map_append, ← List.append_assoc]
    have s0 := (h1.app ((List.range n).map fun k => Rule.join 0 (rs.length - 1 + k))).size
    obtain ⟨qs, hq⟩ : ∃ qs, qs = rs ++ (List.range n).map fun k => Rule.join 0 (rs.length - 1 + k) := ⟨_, rfl⟩
    rw [← hq] at g1 f1 z1 s0 ⊢
    have hl : qs.length = rs.length + n := by rw [hq]; simp
    have hs : (Rule.join 0 (rs.length - 1 + n)).size (sizes qs) = 1 + (sizes qs).getD (rs.length - 1 + n) 0 := by rw [Rule.size, s0]
    refine ⟨g1.snoc ⟨by omega, by omega⟩, f1.snoc ?_, ?_⟩
    · show (Rule.join 0 (rs.length - 1 + n)).size (sizes qs) ≤ MOST
      rw [hs]
      simp only [MOST]
      omega
    · have el : rs.length - 1 + (n + 1) = qs.length := by omega
      rw [List.map_cons, List.map_nil, el, sizes_last, hs]
      omega
theorem rulesD_len (rs : List Rule) : bLen [rulesD rs] = .ok (.int ((rs.length : Nat) : Int)) := by simp [rulesD]
theorem rulesD_add (rs qs : List Rule) (h : rs.length + qs.length ≤ 90000) : dAdd (rulesD rs) (.tuple (qs.map ruleD)) = .ok (rulesD (rs ++ qs)) := by
  rw [rulesD, dAdd_tt (by simp only [List.length_map]; exact sz_le (by omega)), ← List.map_append]
  rfl
theorem dIx_rules {rs : List Rule} {a : Nat} {r : Rule} (h : rs[a]? = some r) : dIx (rulesD rs) (.int (a : Int)) = .ok (ruleD r) := by
  have hl := (List.getElem?_eq_some_iff.mp h).1
  have e : rs[a] = r := (List.getElem?_eq_some_iff.mp h).2
  unfold rulesD
  rw [dIx_t (by omega) (by simpa using hl)]
  simp [e]
theorem natsD_last {ns : List Nat} (h : 1 ≤ ns.length) : dIx (natsD ns) (.int (-1)) = .ok (.int ((ns.getD (ns.length - 1) 0 : Nat) : Int)) := by
  obtain ⟨l, a, rfl⟩ : ∃ l a, ns = l ++ [a] := ⟨ns.dropLast, ns.getLast (fun z => by rw [z] at h; simp at h), (List.dropLast_concat_getLast _).symm⟩
  unfold natsD
  rw [List.map_append]
  show dIx (.list (l.map _ ++ [_])) _ = _
  rw [dIx_last]
  simp [List.getD]
theorem natsD_len' (ns : List Nat) : bLen [natsD ns] = .ok (.int ((ns.length : Nat) : Int)) := by simp [natsD]
def dFrz : D → ER
  | .list ds => .ok (.list ds)
  | _ => .bad
theorem eFrz_ap (m : EM) (ρ : DL.Env) : eFrz m ρ = (m ρ).bind dFrz := by
  unfold eFrz ER.bind dFrz
  cases m ρ with
  | ok d => cases d <;> rfl
  | _ => rfl
theorem dFrz_l (ds : List D) : dFrz (.list ds) = .ok (.list ds) := rfl
theorem frz_nats (ns : List Nat) : dFrz (natsD ns) = .ok (natsD ns) := rfl
theorem iL_ok {m : EM} {ρ : DL.Env} {ds : List D} (h : m ρ = .ok (.list ds)) : iL m ρ = .ok ds := by simp only [iL, h]
theorem iT_ok {m : EM} {ρ : DL.Env} {ds : List D} (h : m ρ = .ok (.tuple ds)) : iT m ρ = .ok ds := by simp only [iT, h]
theorem iL_nats {m : EM} {ρ : DL.Env} {ns : List Nat} (h : m ρ = .ok (natsD ns)) : iL (eFrz m) ρ = .ok (ns.map fun (n : Nat) => PyData.int (n : Int)) := by
  refine iL_ok ?_
  rw [eFrz_ap, h, bind_ok, frz_nats, natsD]
theorem isT_nats (ns : List Nat) : isT "list" (natsD ns) = true := rfl
theorem isT_rules (rs : List Rule) : isT "tuple" (rulesD rs) = true := rfl
theorem sh_nats (ns : List Nat) : Sh 1 (natsD ns) := sh_list fun d hd => by
  obtain ⟨n, _, rfl⟩ := List.mem_map.mp hd
  exact sh_int _ _
theorem appN_nats {mo me : EM} {ρ : DL.Env} {ns : List Nat} {d : D} (h : mo ρ = .ok (natsD ns)) (he : me ρ = .ok d) (hl : ns.length < 90000) : sAppN mo me ρ = .nx ρ := by
  have hz : (ns.map fun (n : Nat) => PyData.int (n : Int)).length < sizeLine := by
    rw [List.length_map]
    exact sz_lt' (by omega)
  simp only [sAppN, h, natsD, he, hz, if_true]
/-! ### the loop that measures -/
def lenB (m : List D → ER) : SM := sSeq (sAsgN 1 (eLst [])) (sSeq (sFor (iT (eVarD 0)) (gN 2) (sApp 1 (eCall m [(eVarD 2), (eVar 1)]))) (sRetO 1))
theorem lenB_ok {m : List D → ER} (hm : ∀ (r : Rule) (sz : List Nat), r.ok sz.length → (∀ n ∈ sz, n ≤ MOST) → m [ruleD r, natsD sz] = .ok (.int ((r.size sz : Nat) : Int))) (rs : List Rule) (g : Good rs) (f : Fits MOST rs) (hl : rs.length ≤ 90000) :
    runM [.dat] 2 (lenB m) [rulesD rs] = .ok (natsD (sizes rs)) := by
  obtain ⟨L, hL⟩ : ∃ L, L = rulesD rs := ⟨_, rfl⟩
  have key : lenB m [.dat L, .un, .un] = .rt (natsD (sizes rs)) := by
    unfold lenB
    have z0 : (0 : Nat) ≤ sizeLine := by decide
    rw [seq_nx (ρ' := [.dat L, .own (natsD (sizes [])), .un]) (by simp only [runM, mkEnv, List.replicate, List.cons_append, List.nil_append, sSeq, sIf, sRet, sAsg, sAsgN, sDrop, sSkip_ap, eBin_ap, eUn_ap, eVarD_0, eVarD_s, eVar_0d, eVar_0o, eVar_0b, eVar_s, eCall_0, eCall_1, eCall_2, eCall_3, eCall_4, bLen_l, bLen_t, bind_ok, bMin_ii, bMax_ii, dAdd_ii, dSub_ii, dLt_ii, dLe_ii, dGt_ii, dGe_ii, dEq_ii, dNe_ii, dEq_ss, dNe_ss, dEq_bb, List.length_map, decide_true, decide_false, eC_ap, set_0, set_s, eNot, eAnd, eOr, eIf, eIsi_ap, isT_n, isT_b, isT_i, isT_s, isT_l, isT_t, gN_ap, Bool.not_true, Bool.not_false, beq_self_eq_true, Bool.or_self, Bool.or_false, Bool.false_or, Bool.or_true, Bool.true_or, String.reduceBEq, Int.reduceLT, Int.reduceLE, Int.reduceEq, eTup_0, eTup_1, eTup_2, eTup_3, eLst_0, eLst_1, eLst_2, eLst_3, eLst_4, bTuple_l, bTuple_t, bList_l, bList_t, dNeg_i, bind_ex, len0, len1, len2, len3, len4, is_nn, is_in, is_sn, is_ln, is_tn, isn_nn, isn_in, isn_sn, isn_ln, isn_tn, eLst, evA, List.length_nil, z0, if_true]; rfl)]
    obtain ⟨ρ', hf, k2, rfl⟩ := for_inv (mi := iT (eVarD 0)) (g := gN 2) (body := sApp 1 (eCall m [(eVarD 2), (eVar 1)]))
      (ρ := [.dat L, .own (natsD (sizes [])), .un]) (ds := rs.map ruleD)
      (fun i ρ => ∃ (k2 : Sl), ρ = [.dat L, .own (natsD (sizes (rs.take i))), k2])
      (by simp only [iT, eVarD_0, hL, rulesD])
      ⟨_, rfl⟩
      (by
        rintro i d ρ hd ⟨k2, rfl⟩
        rw [List.getElem?_map, Option.map_eq_some_iff] at hd
        obtain ⟨r, h1, rfl⟩ := hd
        have hi := (List.getElem?_eq_some_iff.mp h1).1
        have et : rs.take (i + 1) = rs.take i ++ [r] := by
          rw [List.take_add_one, h1]
          rfl
        have li : (sizes (rs.take i)).length = i := by rw [sizes_len, List.length_take]; omega
        have e := hm r (sizes (rs.take i)) (by rw [li]; exact g i r h1) (f.take i)
        refine ⟨_, [.dat L, .own (natsD (sizes (rs.take (i + 1)))), .dat (ruleD r)], gN_ap, .inl ?_, _, rfl⟩
        simp only [set_0, set_s]
        rw [app_ok (ds := (sizes (rs.take i)).map fun (n : Nat) => PyData.int (n : Int)) (d := .int (r.size (sizes (rs.take i)) : Nat)) rfl (by simp only [eCall_2, eVarD_0, eVarD_s, eVar_0o, eVar_s, bind_ok, e]) (by
          rw [List.length_map, li]
          exact sz_lt' (by omega)), et, sizes_snoc]
        simp [natsD])
    rw [seq_nx hf]
    have et : rs.take (rs.map ruleD).length = rs := by rw [List.length_map, List.take_length]
    rw [et]
    rfl
  simp only [runM, mkEnv, List.replicate, List.cons_append, List.nil_append, ← hL, key]
end Sb

namespace Sb
open PySem PySem.Spec L2 Evl DL
/-! C4: texts written out; the rules that a name needs. -/
def Rule.tx (ts : List (List Nat)) : Rule → List Nat
  | .sign c => [c]
  | .join a b => ts.getD a [] ++ ts.getD b []
  | .times a n => (List.replicate n (ts.getD a [])).flatten
def texts (rs : List Rule) : List (List Nat) := rs.foldl (fun acc r => acc ++ [r.tx acc]) []
theorem texts_snoc (rs : List Rule) (r : Rule) : texts (rs ++ [r]) = texts rs ++ [r.tx (texts rs)] := by simp [texts]
theorem texts_len : ∀ rs : List Rule, (texts rs).length = rs.length := by
  refine snocInd rfl fun l a ih => ?_
  rw [texts_snoc]
  simp [ih]
theorem texts_pre (rs : List Rule) : ∀ qs : List Rule, ∃ zs, texts (rs ++ qs) = texts rs ++ zs := by
  refine snocInd ⟨[], by simp⟩ ?_
  rintro l a ⟨zs, h⟩
  exact ⟨zs ++ [a.tx (texts (rs ++ l))], by rw [← List.append_assoc, texts_snoc, h, List.append_assoc]⟩
theorem texts_get {rs : List Rule} {i : Nat} (h : i < rs.length) (qs : List Rule) : (texts (rs ++ qs)).getD i [] = (texts rs).getD i [] := by
  obtain ⟨zs, e⟩ := texts_pre rs qs
  have hl : i < (texts rs).length := by rw [texts_len]; exact h
  rw [e]
  simp [List.getD, List.getElem?_append_left hl]
theorem texts_last (rs : List Rule) (r : Rule) : (texts (rs ++ [r])).getD rs.length [] = r.tx (texts rs) := by
  rw [texts_snoc]
  have hl := texts_len rs
  simp [List.getD, ← hl]
/-- the text of the i-th rule by the texts ahead -/
theorem texts_at {rs : List Rule} {i : Nat} {r : Rule} (g : Good rs) (h : rs[i]? = some r) : (texts rs).getD i [] = r.tx (texts rs) := by
  have hi := (List.getElem?_eq_some_iff.mp h).1
  have et : rs.take (i + 1) = rs.take i ++ [r] := by
    rw [List.take_add_one, h]
    rfl
  have li : (rs.take i).length = i := by rw [List.length_take]; omega
  have e1 : (texts rs).getD i [] = (texts (rs.take i ++ [r])).getD i [] := by
    have := texts_get (rs := rs.take (i + 1)) (i := i) (by rw [List.length_take]; omega) (rs.drop (i + 1))
    rw [List.take_append_drop, et] at this
    exact this
  have e2 : ∀ a, a < i → (texts rs).getD a [] = (texts (rs.take i)).getD a [] := fun a ha => by
    have := texts_get (rs := rs.take i) (i := a) (by omega) (rs.drop i)
    rw [List.take_append_drop] at this
    exact this
  have e3 : (texts (rs.take i ++ [r])).getD i [] = r.tx (texts (rs.take i)) := by
    have := texts_last (rs.take i) r
    rw [li] at this
    exact this
  rw [e1, e3]
  have ok := g i r h
  cases r with
  | sign c => rfl
  | join a b => simp only [Rule.tx, e2 a ok.1, e2 b ok.2]
  | times a n => simp only [Rule.tx, e2 a ok.1]
theorem sizes_at {rs : List Rule} {i : Nat} {r : Rule} (g : Good rs) (h : rs[i]? = some r) : (sizes rs).getD i 0 = r.size (sizes rs) := by
  have hi := (List.getElem?_eq_some_iff.mp h).1
  have et : rs.take (i + 1) = rs.take i ++ [r] := by
    rw [List.take_add_one, h]
    rfl
  have li : (rs.take i).length = i := by rw [List.length_take]; omega
  have e1 : (sizes rs).getD i 0 = (sizes (rs.take i ++ [r])).getD i 0 := by
    have := sizes_get (rs := rs.take (i + 1)) (i := i) (by rw [List.length_take]; omega) (rs.drop (i + 1))
    rw [List.take_append_drop, et] at this
    exact this
  have e2 : ∀ a, a < i → (sizes rs).getD a 0 = (sizes (rs.take i)).getD a 0 := fun a ha => by
    have := sizes_get (rs := rs.take i) (i := a) (by omega) (rs.drop i)
    rw [List.take_append_drop] at this
    exact this
  have e3 : (sizes (rs.take i ++ [r])).getD i 0 = r.size (sizes (rs.take i)) := by
    have := sizes_last (rs.take i) r
    rw [li] at this
    exact this
  rw [e1, e3]
  have ok := g i r h
  cases r with
  | sign c => rfl
  | join a b => simp only [Rule.size, e2 a ok.1, e2 b ok.2]
  | times a n => simp only [Rule.size, e2 a ok.1]
theorem flat_len (n : Nat) (l : List Nat) : (List.replicate n l).flatten.length = n * l.length := by simp
theorem texts_size : ∀ (rs : List Rule) (i : Nat), ((texts rs).getD i []).length = (sizes rs).getD i 0 := by
  refine snocInd (fun i => by simp [texts, sizes, sizesF]) fun l a ih i => ?_
  by_cases h : i < l.length
  · rw [texts_get h, sizes_get h]
    exact ih i
  · by_cases h2 : i = l.length
    · subst h2
      rw [texts_last, sizes_last]
      cases a with
      | sign c => rfl
      | join a b => simp only [Rule.tx, Rule.size, List.length_append, ih]
      | times a n => simp only [Rule.tx, Rule.size, flat_len, ih, Nat.mul_comm]
    · have h3 : l.length + 1 ≤ i := by omega
      have t1 := texts_len (l ++ [a])
      have t2 := sizes_len (l ++ [a])
      have e1 : (texts (l ++ [a])).getD i [] = [] := by
        simp [List.getD, List.getElem?_eq_none (show (texts (l ++ [a])).length ≤ i by rw [t1]; simpa using h3)]
      have e2 : (sizes (l ++ [a])).getD i 0 = 0 := by
        simp [List.getD, List.getElem?_eq_none (show (sizes (l ++ [a])).length ≤ i by rw [t2]; simpa using h3)]
      rw [e1, e2]
      rfl
/-! texts as values -/
abbrev strL (l : List Nat) : Str := ⟨l.toArray⟩
theorem strL_len (l : List Nat) : (strL l).length = l.length := by
  show l.toArray.size = _
  simp
theorem strL_app (a b : List Nat) : strL a ++ strL b = strL (a ++ b) := str_ext (by simp)
theorem strL_inj {a b : List Nat} (h : strL a = strL b) : a = b := by
  have := congrArg (fun z : Str => z.cps.toList) h
  simpa using this
theorem foldl_flat (x : Array Nat) : ∀ (n : Nat) (acc : Array Nat), ((List.replicate n x).foldl (· ++ ·) acc).toList = acc.toList ++ (List.replicate n x.toList).flatten
  | 0, acc => by simp
  | n + 1, acc => by
    rw [List.replicate_succ, List.foldl_cons, foldl_flat x n, List.replicate_succ, List.flatten_cons]
    simp
theorem repS_L (a : List Nat) (n : Nat) : repS (strL a) (n : Int) = strL (List.replicate n a).flatten := by
  refine str_ext ?_
  show ((List.replicate (n : Int).toNat a.toArray).foldl (· ++ ·) #[]).toList = _
  rw [foldl_flat]
  simp
theorem dAdd_L {a b : List Nat} (h : a.length + b.length ≤ 100000) : dAdd (.str (strL a)) (.str (strL b)) = .ok (.str (strL (a ++ b))) := by
  rw [dAdd_ss (by rw [strL_len, strL_len]; exact sz_le h), strL_app]
theorem dMul_L {a : List Nat} {n : Nat} (h : a.length * n ≤ 100000) (hn : n < 2 ^ 62) : dMul (.str (strL a)) (.int (n : Int)) = .ok (.str (strL (List.replicate n a).flatten)) := by
  have c : -(2 ^ 62) ≤ (n : Int) ∧ (n : Int) < 2 ^ 62 ∧ (strL a).length * (n : Int).toNat ≤ sizeLine := ⟨by omega, by omega, by
    rw [strL_len]
    simp only [Int.toNat_natCast]
    exact sz_le h⟩
  simp only [dMul]
  rw [if_pos c, repS_L]
theorem bLen_L {a : List Nat} (h : a.length ≤ 100000) : bLen [.str (strL a)] = .ok (.int ((a.length : Nat) : Int)) := by
  rw [bLen_s (by rw [strL_len]; exact sz_le h), strL_len]
/-! the rules that are needed -/
def Rule.parts : Rule → List Nat
  | .sign _ => []
  | .join a b => [a, b]
  | .times a _ => [a]
theorem parts_lt {r : Rule} {i : Nat} (h : r.ok i) : ∀ p ∈ r.parts, p < i := by
  intro p hp
  cases r with
  | sign c => cases hp
  | join a b =>
    have : p = a ∨ p = b := by simpa [Rule.parts] using hp
    rcases this with rfl | rfl
    · exact h.1
    · exact h.2
  | times a n =>
    have : p = a := by simpa [Rule.parts] using hp
    rw [this]
    exact h.1
theorem parts_le {rs : List Rule} {i : Nat} {r : Rule} (g : Good rs) (h : rs[i]? = some r) : ∀ p ∈ r.parts, (sizes rs).getD p 0 ≤ (sizes rs).getD i 0 := by
  intro p hp
  rw [sizes_at g h]
  have ok := g i r h
  cases r with
  | sign c => cases hp
  | join a b =>
    have : p = a ∨ p = b := by simpa [Rule.parts] using hp
    simp only [Rule.size]
    rcases this with rfl | rfl <;> omega
  | times a n =>
    have : p = a := by simpa [Rule.parts] using hp
    rw [this]
    exact Nat.le_mul_of_pos_right _ ok.2.1
/-- what is needed by k: closed, rising, up to k -/
structure Need (rs : List Rule) (k : Nat) (ks : List Nat) : Prop where
  rise : ks.Pairwise (· < ·)
  top : k ∈ ks
  le : ∀ i ∈ ks, i ≤ k
  clo : ∀ i ∈ ks, ∀ r, rs[i]? = some r → ∀ p ∈ r.parts, p ∈ ks
  by_ : ∀ i ∈ ks, i = k ∨ ∃ j ∈ ks, ∃ r, rs[j]? = some r ∧ i ∈ r.parts
theorem rise_len : ∀ (ks : List Nat) (a k : Nat), ks.Pairwise (· < ·) → (∀ i ∈ ks, a ≤ i ∧ i ≤ k) → ks.length + a ≤ k + 1 ∨ ks = []
  | [], _, _, _, _ => .inr rfl
  | x :: xs, a, k, h, hk => by
    have hx := hk x List.mem_cons_self
    rw [List.pairwise_cons] at h
    rcases rise_len xs (x + 1) k h.2 (fun i hi => ⟨h.1 i hi, (hk i (List.mem_cons_of_mem _ hi)).2⟩) with z | z
    · left
      rw [List.length_cons]
      omega
    · left
      subst z
      show 1 + a ≤ k + 1
      omega
theorem Need.len {rs : List Rule} {k : Nat} {ks : List Nat} (n : Need rs k ks) : ks.length ≤ k + 1 := by
  rcases rise_len ks 0 k n.rise (fun i hi => ⟨Nat.zero_le _, n.le i hi⟩) with h | h
  · omega
  · rw [h]
    simp
/-- no needed text is longer -/
theorem Need.size {rs : List Rule} {k : Nat} {ks : List Nat} (g : Good rs) (n : Need rs k ks) : ∀ d i, i ∈ ks → k - i ≤ d → (sizes rs).getD i 0 ≤ (sizes rs).getD k 0
  | d, i, hi, hd => by
    rcases n.by_ i hi with h | ⟨j, hj, r, hr, hp⟩
    · rw [h]
      exact Nat.le_refl _
    · have h1 := parts_lt (g j r hr) i hp
      have h2 := n.le j hj
      have h3 := parts_le g hr i hp
      match d with
      | 0 => omega
      | d + 1 => exact Nat.le_trans h3 (Need.size g n d j hj (by omega))
def seenD (S : List Nat) : List (D × D) := S.map fun i => (PyData.int ((i : Nat) : Int), PyData.bool true)
theorem seen_key (s c : Nat) : (keyOf (PyData.int ((s : Nat) : Int)) = some (.inl ((c : Nat) : Int))) ↔ s = c := by
  simp only [keyOf, Option.some.injEq, Sum.inl.injEq]
  omega
theorem seen_any (S : List Nat) (c : Nat) : (seenD S).any (fun q => decide (keyOf q.1 = some (.inl ((c : Nat) : Int)))) = decide (c ∈ S) := by
  unfold seenD
  rw [List.any_map]
  induction S with
  | nil => rfl
  | cons s ss ih =>
    rw [List.any_cons, ih]
    by_cases e : s = c
    · subst e
      simp [Function.comp, keyOf]
    · have h1 : ¬ c = s := fun z => e z.symm
      have k0 : ¬ (keyOf (PyData.int ((s : Nat) : Int)) = some (.inl ((c : Nat) : Int))) := fun z => e ((seen_key s c).mp z)
      simp [Function.comp, k0, h1]
theorem seen_store (S : List Nat) (c : Nat) : dStore (seenD S) (.inl ((c : Nat) : Int)) (.bool true) = seenD (if c ∈ S then S else S ++ [c]) := by
  unfold dStore
  rw [seen_any]
  by_cases hc : c ∈ S
  · rw [if_pos (decide_eq_true hc), if_pos hc]
    unfold seenD
    rw [List.map_map]
    refine List.map_congr_left fun s _ => ?_
    simp only [Function.comp]
    split <;> rfl
  · rw [if_neg (by simp [hc]), if_neg hc]
    unfold seenD
    rw [List.map_append]
    rfl
theorem unm_seen (S : List Nat) : unm (seenD S) = true := by cases S <;> rfl
theorem find_some {ds : List (D × D)} {k : Key} : (dFind ds k).isSome = ds.any fun q => decide (keyOf q.1 = some k) := by
  unfold dFind
  rw [Option.isSome_map, Bool.eq_iff_iff, List.find?_isSome, List.any_eq_true]
theorem seen_in (S : List Nat) (c : Nat) : dInD false (.int ((c : Nat) : Int)) (.dict (seenD S)) = .ok (.bool (decide (c ∈ S))) := by
  simp only [dInD, unm_seen, if_true, keyOf]
  rw [find_some, seen_any, Bool.bne_false]
theorem seen_ints : ∀ S : List Nat, intKeys (seenD S) = some (S.map fun (i : Nat) => (i : Int))
  | [] => rfl
  | s :: S => by
    have := seen_ints S
    unfold seenD at this ⊢
    rw [List.map_cons]
    simp only [intKeys, this]
    rfl
theorem Rule.ok.mono {r : Rule} {i j : Nat} (h : r.ok i) (hij : i ≤ j) : r.ok j := by
  cases r with
  | sign c => exact h
  | join a b => exact ⟨Nat.lt_of_lt_of_le h.1 hij, Nat.lt_of_lt_of_le h.2 hij⟩
  | times a n => exact ⟨Nat.lt_of_lt_of_le h.1 hij, h.2⟩
/-- a rule tells the same text, whatever stands behind -/
theorem tx_pre {qs : List Rule} {r : Rule} (h : r.ok qs.length) (ps : List Rule) : r.tx (texts (qs ++ ps)) = r.tx (texts qs) := by
  cases r with
  | sign c => rfl
  | join a b => simp only [Rule.tx, texts_get h.1, texts_get h.2]
  | times a n => simp only [Rule.tx, texts_get h.1]
theorem size_pre {qs : List Rule} {r : Rule} (h : r.ok qs.length) (ps : List Rule) : r.size (sizes (qs ++ ps)) = r.size (sizes qs) := by
  cases r with
  | sign c => rfl
  | join a b => simp only [Rule.size, sizes_get h.1, sizes_get h.2]
  | times a n => simp only [Rule.size, sizes_get h.1]
theorem echo_text {rs : List Rule} (h1 : 1 ≤ rs.length) : ∀ n : Nat, (texts (rs ++ (List.range n).map fun k => Rule.times (rs.length - 1 + k) 1)).getD (rs.length + n - 1) [] = (texts rs).getD (rs.length - 1) []
  | 0 => by simp
  | n + 1 => by
    have ih := echo_text h1 n
    rw [List.range_succ, List.map_append, ← List.append_assoc]
    obtain ⟨qs, hq⟩ : ∃ qs, qs = rs ++ (List.range n).map fun k => Rule.times (rs.length - 1 + k) 1 := ⟨_, rfl⟩
    rw [← hq] at ih ⊢
    have hl : qs.length = rs.length + n := by rw [hq]; simp
    have := texts_last qs (Rule.times (rs.length - 1 + n) 1)
    rw [hl] at this
    show (texts (qs ++ [Rule.times (rs.length - 1 + n) 1])).getD (rs.length + n) [] = _
    rw [this, Rule.tx, show rs.length - 1 + n = rs.length + n - 1 by omega, ih]
    simp
end Sb

namespace Sb
open PySem PySem.Spec L2 Evl DL
/-! C5: names, texts by their signs. -/
def nameD : Option Nat → D
  | none => .none
  | some k => .int (k : Int)
/-- a name of one of the rules, or none -/
def NameOk (rs : List Rule) (n : Option Nat) : Prop := ∀ k, n = some k → k < rs.length
theorem NameOk.none {rs : List Rule} : NameOk rs none := fun k e => nomatch e
theorem NameOk.some {rs : List Rule} {k : Nat} (h : k < rs.length) : NameOk rs (some k) := fun j e => by
  cases e
  exact h
def lenN (rs : List Rule) (n : Option Nat) : Nat := match n with
  | none => 0
  | some k => (sizes rs).getD k 0
def textN (rs : List Rule) (n : Option Nat) : List Nat := match n with
  | none => []
  | some k => (texts rs).getD k []
theorem textN_len (rs : List Rule) (n : Option Nat) : (textN rs n).length = lenN rs n := by
  cases n with
  | none => rfl
  | some k => exact texts_size rs k
theorem lenN_le {rs : List Rule} {m : Nat} (f : Fits m rs) (n : Option Nat) : lenN rs n ≤ m := by
  cases n with
  | none => exact Nat.zero_le _
  | some k => exact f.get k
theorem NameOk.app {rs : List Rule} {n : Option Nat} (h : NameOk rs n) (qs : List Rule) : NameOk (rs ++ qs) n := fun k e => by
  have := h k e
  simp
  omega
theorem textN_app {rs : List Rule} {n : Option Nat} (h : NameOk rs n) (qs : List Rule) : textN (rs ++ qs) n = textN rs n := by
  cases n with
  | none => rfl
  | some k => exact texts_get (h k rfl) qs
theorem lenN_app {rs : List Rule} {n : Option Nat} (h : NameOk rs n) (qs : List Rule) : lenN (rs ++ qs) n = lenN rs n := by
  rw [← textN_len, textN_app h, textN_len]
theorem lenN_pos {rs : List Rule} (g : Good rs) {n : Option Nat} (h : NameOk rs n) : 0 < lenN rs n ↔ n ≠ none := by
  cases n with
  | none => simp [lenN]
  | some k =>
    have := Pos.get g (h k rfl)
    exact ⟨fun _ => Option.some_ne_none k, fun _ => this⟩
/-- rules handed over are equal to themselves -/
theorem sgL_small : ∀ c ∈ sgL, c < 0x110000 := by decide +kernel
theorem sh_rule {r : Rule} {i : Nat} (h : r.ok i) : Sh 1 (ruleD r) := by
  cases r with
  | sign c =>
    refine sh_tuple (n := 0) fun d hd => ?_
    rcases List.mem_cons.mp hd with rfl | hd
    · exact sh_str 0 (by decide +kernel)
    · have : d = .str (s1 c) := by simpa using hd
      rw [this]
      exact sh_str 0 (fun x hx => by
        have : x = c := by simpa using hx
        rw [this]
        exact sgL_small c h)
  | join a b =>
    refine sh_tuple (n := 0) fun d hd => ?_
    rcases List.mem_cons.mp hd with rfl | hd
    · exact sh_str 0 (by decide +kernel)
    · have : d = .int (a : Int) ∨ d = .int (b : Int) := by simpa using hd
      rcases this with rfl | rfl <;> exact sh_int _ _
  | times a b =>
    refine sh_tuple (n := 0) fun d hd => ?_
    rcases List.mem_cons.mp hd with rfl | hd
    · exact sh_str 0 (by decide +kernel)
    · have : d = .int (a : Int) ∨ d = .int (b : Int) := by simpa using hd
      rcases this with rfl | rfl <;> exact sh_int _ _
theorem sh_rules {rs : List Rule} (g : Good rs) : Sh 2 (rulesD rs) := sh_tuple (n := 1) fun d hd => by
  obtain ⟨r, hr, rfl⟩ := List.mem_map.mp hd
  obtain ⟨i, hi⟩ := List.getElem?_of_mem hr
  exact sh_rule (g i r hi)
theorem sh_name (n : Option Nat) : Sh 2 (nameD n) := by
  cases n with
  | none => exact sh_none _
  | some k => exact sh_int _ _
theorem sh_pair {rs : List Rule} (g : Good rs) (n : Option Nat) : Sh 3 (.tuple [rulesD rs, nameD n]) := sh_tuple (n := 2) fun d hd => by
  have : d = rulesD rs ∨ d = nameD n := by simpa using hd
  rcases this with rfl | rfl
  · exact sh_rules g
  · exact sh_name n
/-! a text many times over, sign by sign -/
theorem rep_get (A : List Nat) (d : Nat) : ∀ (m p : Nat), p < m * A.length → (List.replicate m A).flatten.getD p d = A.getD (p % A.length) d
  | 0, p, h => by simp at h
  | m + 1, p, h => by
    rw [List.replicate_succ, List.flatten_cons]
    rcases Nat.lt_or_ge p A.length with hp | hp
    · rw [Nat.mod_eq_of_lt hp]
      simp [List.getD, List.getElem?_append_left hp]
    · have hp' : p - A.length < m * A.length := by
        rw [Nat.succ_mul] at h
        omega
      have ih := rep_get A d m (p - A.length) hp'
      have e : p % A.length = (p - A.length) % A.length := by rw [Nat.mod_eq_sub_mod hp]
      rw [e, ← ih]
      simp [List.getD, List.getElem?_append_right hp]
theorem app_getL {A B : List Nat} {p d : Nat} (h : p < A.length) : (A ++ B).getD p d = A.getD p d := by simp [List.getD, List.getElem?_append_left h]
theorem app_getR {A B : List Nat} {p d : Nat} (h : A.length ≤ p) : (A ++ B).getD p d = B.getD (p - A.length) d := by simp [List.getD, List.getElem?_append_right h]
theorem toInts_map : ∀ ns : List Int, toInts (ns.map PyData.int) = some ns
  | [] => rfl
  | n :: ns => by
    simp only [List.map_cons, toInts, toInts_map ns]
    rfl
theorem toInts_nats (ns : List Nat) : toInts (ns.map fun (n : Nat) => PyData.int (n : Int)) = some (ns.map fun (n : Nat) => (n : Int)) := by
  have := toInts_map (ns.map fun (n : Nat) => (n : Int))
  rwa [List.map_map] at this
theorem max_nats (ns : List Nat) (m : Nat) (h : ∀ n ∈ ns, n ≤ m) : ∃ z : Int, bMax [.list (.int 0 :: ns.map fun (n : Nat) => PyData.int (n : Int))] = .ok (.int z) ∧ z ≤ (m : Int) := by
  refine ⟨maxI 0 (ns.map fun (n : Nat) => (n : Int)), by simp only [bMax, toInts, toInts_nats]; rfl, ?_⟩
  rcases List.mem_cons.mp (maxI_mem (ns.map fun (n : Nat) => (n : Int)) 0) with e | e
  · rw [e]
    omega
  · obtain ⟨n, hn, e2⟩ := List.mem_map.mp e
    rw [← e2]
    have := h n hn
    omega
theorem dIx_natsI {ns : List Nat} {x : Int} (h0 : 0 ≤ x) (h : x < ns.length) : dIx (natsD ns) (.int x) = .ok (.int ((ns.getD x.toNat 0 : Nat) : Int)) := by
  obtain ⟨a, rfl⟩ : ∃ a : Nat, x = a := ⟨x.toNat, (Int.toNat_of_nonneg h0).symm⟩
  rw [dIx_nats (by omega)]
  rfl
theorem fits_mono {m n : Nat} {rs : List Rule} (f : Fits m rs) (h : m ≤ n) : Fits n rs := fun z hz => Nat.le_trans (f z hz) h
/-! two names joined -/
def linkF (rs : List Rule) : Option Nat → Option Nat → List Rule × Option Nat
  | none, b => (rs, b)
  | some a, none => (rs, some a)
  | some a, some b => (rs ++ [.join a b], some rs.length)
theorem linkF_ok {rs : List Rule} (g : Good rs) (f : Fits MOST rs) {a b : Option Nat} (ha : NameOk rs a) (hb : NameOk rs b) (hl : lenN rs a + lenN rs b ≤ MOST) : ∃ qs, qs.length ≤ 1 ∧ (linkF rs a b).1 = rs ++ qs ∧ Good (rs ++ qs) ∧ Fits MOST (rs ++ qs) ∧ NameOk (rs ++ qs) (linkF rs a b).2 ∧ textN (rs ++ qs) (linkF rs a b).2 = textN rs a ++ textN rs b := by
  cases a with
  | none => exact ⟨[], by simp, by simp [linkF], by simpa using g, by simpa using f, by simpa [linkF] using hb, by simp [linkF, textN]⟩
  | some a =>
    cases b with
    | none => exact ⟨[], by simp, by simp [linkF], by simpa using g, by simpa using f, by simpa [linkF] using ha, by simp [linkF, textN]⟩
    | some b =>
      refine ⟨[.join a b], by simp, rfl, g.snoc ⟨ha a rfl, hb b rfl⟩, f.snoc hl, NameOk.some (by simp), ?_⟩
      show (texts (rs ++ [.join a b])).getD rs.length [] = _
      rw [texts_last]
      rfl
/-! a text many times over -/
def overF (rs : List Rule) : Option Nat → Nat → List Rule × Option Nat
  | none, _ => (rs, none)
  | some a, m => if m = 0 then (rs, none) else if m = 1 then (rs, some a) else (rs ++ [.times a m], some rs.length)
theorem overF_ok {rs : List Rule} (g : Good rs) (f : Fits MOST rs) {n : Option Nat} (hn : NameOk rs n) {m : Nat} (hm : m ≤ MOST) (hl : lenN rs n * m ≤ MOST) : ∃ qs, qs.length ≤ 1 ∧ (overF rs n m).1 = rs ++ qs ∧ Good (rs ++ qs) ∧ Fits MOST (rs ++ qs) ∧ NameOk (rs ++ qs) (overF rs n m).2 ∧ textN (rs ++ qs) (overF rs n m).2 = (List.replicate m (textN rs n)).flatten := by
  cases n with
  | none => exact ⟨[], by simp, by simp [overF], by simpa using g, by simpa using f, NameOk.none, by simp [overF, textN]⟩
  | some a =>
    by_cases h0 : m = 0
    · exact ⟨[], by simp, by simp [overF, h0], by simpa using g, by simpa using f, by simp only [overF, h0, if_true]; exact NameOk.none, by simp [overF, textN, h0]⟩
    · by_cases h1 : m = 1
      · exact ⟨[], by simp, by simp [overF, h1], by simpa using g, by simpa using f, by simpa [overF, h1] using hn, by simp [overF, textN, h1]⟩
      · have e : overF rs (some a) m = (rs ++ [.times a m], some rs.length) := by simp [overF, h0, h1]
        rw [e]
        refine ⟨[.times a m], by simp, rfl, g.snoc ⟨hn a rfl, by omega, hm⟩, f.snoc hl, NameOk.some (by simp), ?_⟩
        show (texts (rs ++ [.times a m])).getD rs.length [] = _
        rw [texts_last]
        rfl
end Sb

namespace Sb
open PySem PySem.Spec L2 Evl DL
/-! C6: rules with other numbers. -/
def Rule.ren (f : Nat → Nat) : Rule → Rule
  | .sign c => .sign c
  | .join a b => .join (f a) (f b)
  | .times a n => .times (f a) n
theorem ren_size {f : Nat → Nat} {r : Rule} {i : Nat} (h : r.ok i) {sz sz' : List Nat} (e : ∀ a, a < i → sz'.getD (f a) 0 = sz.getD a 0) : (r.ren f).size sz' = r.size sz := by
  cases r with
  | sign c => rfl
  | join a b => simp only [Rule.ren, Rule.size, e a h.1, e b h.2]
  | times a n => simp only [Rule.ren, Rule.size, e a h.1]
theorem ren_tx {f : Nat → Nat} {r : Rule} {i : Nat} (h : r.ok i) {sz sz' : List (List Nat)} (e : ∀ a, a < i → sz'.getD (f a) [] = sz.getD a []) : (r.ren f).tx sz' = r.tx sz := by
  cases r with
  | sign c => rfl
  | join a b => simp only [Rule.ren, Rule.tx, e a h.1, e b h.2]
  | times a n => simp only [Rule.ren, Rule.tx, e a h.1]
theorem ren_ok {f : Nat → Nat} {r : Rule} {i j : Nat} (h : r.ok i) (e : ∀ a, a < i → f a < j) : (r.ren f).ok j := by
  cases r with
  | sign c => exact h
  | join a b => exact ⟨e a h.1, e b h.2⟩
  | times a n => exact ⟨e a h.1, h.2⟩
/-- others behind rules -/
abbrev bring (rs os : List Rule) : List Rule := os.map fun r => r.ren (rs.length + ·)
theorem bring_ok {rs : List Rule} (g : Good rs) (f : Fits MOST rs) : ∀ (os : List Rule), Good os → Fits MOST os → Good (rs ++ bring rs os) ∧ Fits MOST (rs ++ bring rs os) ∧ (∀ i, i < os.length → (texts (rs ++ bring rs os)).getD (rs.length + i) [] = (texts os).getD i []) := by
  refine snocInd (fun _ _ => ⟨by simpa [bring] using g, by simpa [bring] using f, fun i h => by simp at h⟩) fun os r ih go fo => ?_
  obtain ⟨g1, r1⟩ := go.init
  obtain ⟨ih1, ih2, ih3⟩ := ih g1 fo.pre
  obtain ⟨qs, hq⟩ : ∃ qs, qs = rs ++ bring rs os := ⟨_, rfl⟩
  have ql : qs.length = rs.length + os.length := by rw [hq]; simp [bring]
  have eb : rs ++ bring rs (os ++ [r]) = qs ++ [r.ren (rs.length + ·)] := by
    rw [hq]
    simp [bring]
  rw [← hq] at ih1 ih2 ih3
  rw [eb]
  have sz : ∀ a, a < os.length → (sizes qs).getD (rs.length + a) 0 = (sizes os).getD a 0 := fun a ha => by rw [← texts_size, ih3 a ha, texts_size]
  refine ⟨ih1.snoc (ren_ok r1 fun a ha => by rw [ql]; omega), ih2.snoc ?_, fun i hi => ?_⟩
  · rw [ren_size r1 sz]
    have := fo.get os.length
    rwa [sizes_last] at this
  · rcases Nat.lt_or_ge i os.length with h | h
    · rw [texts_get (by omega), ih3 i h, texts_get h]
    · have e : i = os.length := by
        simp at hi
        omega
      subst e
      rw [← ql, texts_last, texts_last]
      exact ren_tx r1 ih3
def bringN (rs : List Rule) : Option Nat → Option Nat
  | none => none
  | some k => some (rs.length + k)
theorem bringN_ok {rs os : List Rule} (g : Good rs) (f : Fits MOST rs) (go : Good os) (fo : Fits MOST os) {n : Option Nat} (h : NameOk os n) : NameOk (rs ++ bring rs os) (bringN rs n) ∧ textN (rs ++ bring rs os) (bringN rs n) = textN os n := by
  cases n with
  | none => exact ⟨NameOk.none, rfl⟩
  | some k =>
    have hk := h k rfl
    refine ⟨NameOk.some (by simp [bring]; omega), ?_⟩
    exact (bring_ok g f os go fo).2.2 k hk
end Sb

namespace Sb
open PySem PySem.Spec L2 Evl DL
/-! C7: dicts by numbers; texts put otherwise, rule by rule. -/
def mpD (F : Nat → D) (ks : List Nat) : List (D × D) := ks.map fun i => (PyData.int ((i : Nat) : Int), F i)
def upF (F : Nat → D) (p : Nat) (v : D) : Nat → D := fun x => if x = p then v else F x
theorem mp_find (F : Nat → D) (p : Nat) : ∀ ks : List Nat, p ∈ ks → dFind (mpD F ks) (.inl ((p : Nat) : Int)) = some (F p)
  | [], h => by cases h
  | k :: ks, h => by
    by_cases e : k = p
    · subst e
      simp [mpD, dFind, keyOf]
    · have h2 : p ∈ ks := by
        rcases List.mem_cons.mp h with z | z
        · exact absurd z.symm e
        · exact z
      have k0 : ¬ (keyOf (PyData.int ((k : Nat) : Int)) = some (.inl ((p : Nat) : Int))) := fun z => e ((seen_key k p).mp z)
      have ih := mp_find F p ks h2
      unfold mpD dFind at ih ⊢
      rw [List.map_cons, List.find?_cons]
      simp only [k0, decide_false]
      exact ih
theorem mp_any (F : Nat → D) (p : Nat) (ks : List Nat) : (mpD F ks).any (fun q => decide (keyOf q.1 = some (.inl ((p : Nat) : Int)))) = decide (p ∈ ks) := by
  unfold mpD
  rw [List.any_map]
  induction ks with
  | nil => rfl
  | cons s ss ih =>
    rw [List.any_cons, ih]
    by_cases e : s = p
    · subst e
      simp [Function.comp, keyOf]
    · have h1 : ¬ p = s := fun z => e z.symm
      have k0 : ¬ (keyOf (PyData.int ((s : Nat) : Int)) = some (.inl ((p : Nat) : Int))) := fun z => e ((seen_key s p).mp z)
      simp [Function.comp, k0, h1]
theorem mp_new (F : Nat → D) (p : Nat) (v : D) (ks : List Nat) (h : ¬ p ∈ ks) : dStore (mpD F ks) (.inl ((p : Nat) : Int)) v = mpD (upF F p v) (ks ++ [p]) := by
  unfold dStore
  rw [mp_any, if_neg (by simp [h])]
  unfold mpD
  rw [List.map_append]
  congr 1
  · refine List.map_congr_left fun i hi => ?_
    have : ¬ i = p := fun z => h (by rw [← z]; exact hi)
    simp [upF, this]
  · simp [upF, keyD]
theorem mp_old (F : Nat → D) (p : Nat) (v : D) (ks : List Nat) (h : p ∈ ks) : dStore (mpD F ks) (.inl ((p : Nat) : Int)) v = mpD (upF F p v) ks := by
  unfold dStore
  rw [mp_any, if_pos (by simp [h])]
  unfold mpD
  rw [List.map_map]
  refine List.map_congr_left fun i hi => ?_
  simp only [Function.comp]
  by_cases e : i = p
  · subst e
    simp [upF, keyOf]
  · have k0 : ¬ (keyOf (PyData.int ((i : Nat) : Int)) = some (.inl ((p : Nat) : Int))) := fun z => e ((seen_key i p).mp z)
    simp [upF, k0, e]
theorem unm_mp (F : Nat → D) (ks : List Nat) : unm (mpD F ks) = true := by cases ks <;> rfl
theorem mp_len (F : Nat → D) (ks : List Nat) : (mpD F ks).length = ks.length := by simp [mpD]
theorem mp_congr {F G : Nat → D} {ks : List Nat} (h : ∀ i ∈ ks, F i = G i) : mpD F ks = mpD G ks := by
  unfold mpD
  exact List.map_congr_left fun i hi => by rw [h i hi]
theorem s1_inj' {a b : Nat} (h : s1 a = s1 b) : a = b := by
  have := congrArg (fun z : Str => z.cps.toList) h
  simpa using this
theorem ruleD_inj {r q : Rule} (h : ruleD r = ruleD q) : r = q := by
  cases r <;> cases q <;> simp only [ruleD, PyData.tuple.injEq, List.cons.injEq, PyData.str.injEq, PyData.int.injEq, and_true] at h
  · rw [s1_inj' h.2]
  · exact absurd h.1 (fun z => js z.symm)
  · exact absurd h.1 (fun z => ts z.symm)
  · exact absurd h.1 js
  · obtain ⟨_, h1, h2⟩ := h
    congr 1 <;> omega
  · exact absurd h.1 jt
  · exact absurd h.1 ts
  · exact absurd h.1 tj
  · obtain ⟨_, h1, h2⟩ := h
    congr 1 <;> omega
theorem nb_rule (r : Rule) : nb (ruleD r) = true := by cases r <;> rfl
theorem ne_rules {r q : Rule} {i j : Nat} (hr : r.ok i) (hq : q.ok j) : dNe (ruleD r) (ruleD q) = .ok (.bool (!decide (r = q))) := by
  by_cases e : r = q
  · subst e
    rw [dNe_same (sh_rule hr)]
    simp
  · rw [dNe_diff (sh_rule hr) (sh_rule hq) (nb_rule r) (nb_rule q) (fun z => e (ruleD_inj z))]
    simp [e]
theorem eq_rules {r q : Rule} {i j : Nat} (hr : r.ok i) (hq : q.ok j) : dEq (ruleD r) (ruleD q) = .ok (.bool (decide (r = q))) := by
  by_cases e : r = q
  · subst e
    rw [dEq_same (sh_rule hr)]
    simp
  · rw [dEq_diff (sh_rule hr) (sh_rule hq) (nb_rule r) (nb_rule q) (fun z => e (ruleD_inj z))]
    simp [e]
/-- what is needed by a name -/
def NeedN (rs : List Rule) (n : Option Nat) (ks : List Nat) : Prop := match n with
  | none => ks = []
  | some k => k < rs.length ∧ Need rs k ks
theorem NeedN.rise {rs : List Rule} {n : Option Nat} {ks : List Nat} (h : NeedN rs n ks) : ks.Pairwise (· < ·) := by
  cases n with
  | none => rw [show ks = [] from h]; exact .nil
  | some k => exact h.2.rise
theorem NeedN.lt {rs : List Rule} {n : Option Nat} {ks : List Nat} (h : NeedN rs n ks) : ∀ i ∈ ks, i < rs.length := by
  cases n with
  | none => rw [show ks = [] from h]; intro i hi; cases hi
  | some k =>
    intro i hi
    have := h.2.le i hi
    have := h.1
    omega
theorem NeedN.clo {rs : List Rule} {n : Option Nat} {ks : List Nat} (h : NeedN rs n ks) : ∀ i ∈ ks, ∀ r, rs[i]? = some r → ∀ p ∈ r.parts, p ∈ ks := by
  cases n with
  | none => rw [show ks = [] from h]; intro i hi; cases hi
  | some k => exact h.2.clo
theorem NeedN.len {rs : List Rule} {n : Option Nat} {ks : List Nat} (h : NeedN rs n ks) : ks.length ≤ rs.length := by
  cases n with
  | none => rw [show ks = [] from h]; exact Nat.zero_le _
  | some k =>
    have := h.2.len
    have := h.1
    omega
/-- ahead of the j-th of what is needed -/
theorem ahead_mem {ks : List Nat} (rise : ks.Pairwise (· < ·)) {j i : Nat} (h1 : ks[j]? = some i) : (∀ p ∈ ks, p < i → p ∈ ks.take j) ∧ ¬ i ∈ ks.take j := by
  have hj := (List.getElem?_eq_some_iff.mp h1).1
  have hij : ks[j] = i := (List.getElem?_eq_some_iff.mp h1).2
  constructor
  · intro p hp hlt
    obtain ⟨q, hq, rfl⟩ := List.getElem_of_mem hp
    have hqj : q < j := by
      rcases Nat.lt_or_ge q j with z | z
      · exact z
      · exfalso
        rcases Nat.lt_or_eq_of_le z with z | z
        · have := List.pairwise_iff_getElem.mp rise j q hj hq z
          omega
        · subst z
          omega
    rw [List.mem_take_iff_getElem]
    exact ⟨q, by omega, rfl⟩
  · intro z
    obtain ⟨q, hq, e⟩ := List.mem_take_iff_getElem.mp z
    have := List.pairwise_iff_getElem.mp rise q j (by omega) hj (by omega)
    omega
/-- a way to put texts otherwise, sign by sign or turned: T the text's, tr the rule's -/
structure Way (T : List Nat → List Nat) (tr : Rule → Rule) : Prop where
  len : ∀ t, (T t).length = t.length
  ok : ∀ r i, r.ok i → (tr r).ok i
  tx : ∀ (r : Rule) (i : Nat) (f : Nat → Nat) (ts ts' : List (List Nat)), r.ok i → (∀ a ∈ r.parts, ts'.getD (f a) [] = T (ts.getD a [])) → (tr (r.ren f)).tx ts' = T (r.tx ts)
/-- rows behind rs; f tells for each of ks a row that tells its text put otherwise -/
structure Done (rs : List Rule) (T : List Nat → List Nat) (ks : List Nat) (qs : List Rule) (f : Nat → Nat) : Prop where
  g : Good (rs ++ qs)
  fits : Fits MOST (rs ++ qs)
  len : qs.length ≤ ks.length
  lt : ∀ i ∈ ks, f i < (rs ++ qs).length
  tx : ∀ i ∈ ks, (texts (rs ++ qs)).getD (f i) [] = T ((texts rs).getD i [])
theorem Done.step {rs : List Rule} {T : List Nat → List Nat} {tr : Rule → Rule} (W : Way T tr) (g : Good rs) (fr : Fits MOST rs) {ks : List Nat} {qs : List Rule} {f : Nat → Nat} (h : Done rs T ks qs f) {i : Nat} {r : Rule} (hr : rs[i]? = some r) (hp : ∀ a ∈ r.parts, a ∈ ks) (hi : ¬ i ∈ ks) :
    (tr (r.ren f)).ok (rs ++ qs).length ∧ (tr (r.ren f) = r → Done rs T (ks ++ [i]) qs (fun x => if x = i then i else f x)) ∧ Done rs T (ks ++ [i]) (qs ++ [tr (r.ren f)]) (fun x => if x = i then (rs ++ qs).length else f x) := by
  have ok := g i r hr
  have hil := (List.getElem?_eq_some_iff.mp hr).1
  have ok1 : (r.ren f).ok (rs ++ qs).length := by
    cases r with
    | sign c => exact ok
    | join a b => exact ⟨h.lt a (hp a (by simp [Rule.parts])), h.lt b (hp b (by simp [Rule.parts]))⟩
    | times a n => exact ⟨h.lt a (hp a (by simp [Rule.parts])), ok.2⟩
  have ok2 := W.ok _ _ ok1
  have tx2 : (tr (r.ren f)).tx (texts (rs ++ qs)) = T (r.tx (texts rs)) := W.tx r i f (texts rs) (texts (rs ++ qs)) ok fun a ha => h.tx a (hp a ha)
  have ti : (texts rs).getD i [] = r.tx (texts rs) := texts_at g hr
  have old : ∀ x ∈ ks, ¬ x = i := fun x hx z => hi (by rw [← z]; exact hx)
  refine ⟨ok2, fun e => ⟨h.g, h.fits, by rw [List.length_append]; have := h.len; omega, fun x hx => ?_, fun x hx => ?_⟩, ⟨?_, ?_, ?_, fun x hx => ?_, fun x hx => ?_⟩⟩
  · rcases List.mem_append.mp hx with hx | hx
    · simp only [old x hx, if_false]
      exact h.lt x hx
    · have : x = i := by simpa using hx
      simp only [this, if_true]
      rw [List.length_append]
      omega
  · rcases List.mem_append.mp hx with hx | hx
    · simp only [old x hx, if_false]
      exact h.tx x hx
    · have : x = i := by simpa using hx
      simp only [this, if_true]
      rw [ti, ← tx2, e, texts_get hil, ti, tx_pre (ok.mono (by omega))]
  · rw [← List.append_assoc]
    exact h.g.snoc ok2
  · rw [← List.append_assoc]
    refine h.fits.snoc ?_
    have e : (tr (r.ren f)).size (sizes (rs ++ qs)) = ((tr (r.ren f)).tx (texts (rs ++ qs))).length := by
      rw [← texts_last, texts_size, sizes_last]
    rw [e, tx2, W.len, ← ti, texts_size]
    exact fr.get i
  · simp only [List.length_append, List.length_cons, List.length_nil]
    have := h.len
    omega
  · rcases List.mem_append.mp hx with hx | hx
    · simp only [old x hx, if_false]
      have := h.lt x hx
      simp only [List.length_append, List.length_cons, List.length_nil] at this ⊢
      omega
    · have : x = i := by simpa using hx
      simp only [this, if_true]
      simp
  · rw [← List.append_assoc]
    rcases List.mem_append.mp hx with hx | hx
    · simp only [old x hx, if_false]
      rw [texts_get (h.lt x hx)]
      exact h.tx x hx
    · have : x = i := by simpa using hx
      simp only [this, if_true]
      rw [texts_last, tx2, ti]
/-- turned about -/
def trTurn : Rule → Rule
  | .join a b => .join b a
  | r => r
theorem rep_rev (A : List Nat) : ∀ n : Nat, (List.replicate n A).flatten.reverse = (List.replicate n A.reverse).flatten
  | 0 => rfl
  | n + 1 => by
    rw [List.replicate_succ', List.flatten_append, List.reverse_append, rep_rev A n, List.replicate_succ]
    simp
theorem wayTurn : Way List.reverse trTurn where
  len := fun t => List.length_reverse
  ok := fun r i h => by
    cases r with
    | sign c => exact h
    | join a b => exact ⟨h.2, h.1⟩
    | times a n => exact h
  tx := fun r i f ts ts' ok h => by
    cases r with
    | sign c => rfl
    | join a b =>
      show ts'.getD (f b) [] ++ ts'.getD (f a) [] = (ts.getD a [] ++ ts.getD b []).reverse
      rw [h a (by simp [Rule.parts]), h b (by simp [Rule.parts]), List.reverse_append]
    | times a n =>
      show (List.replicate n (ts'.getD (f a) [])).flatten = (List.replicate n (ts.getD a [])).flatten.reverse
      rw [h a (by simp [Rule.parts]), rep_rev]
/-- another sign in the place of one -/
def subS (s o : Nat) (c : Nat) : Nat := if c = s then o else c
def trSub (s o : Nat) : Rule → Rule
  | .sign c => .sign (subS s o c)
  | r => r
theorem waySub {s o : Nat} (ho : o ∈ sgL) : Way (List.map (subS s o)) (trSub s o) where
  len := fun t => List.length_map _
  ok := fun r i h => by
    cases r with
    | sign c =>
      show subS s o c ∈ sgL
      unfold subS
      split
      · exact ho
      · exact h
    | join a b => exact h
    | times a n => exact h
  tx := fun r i f ts ts' ok h => by
    cases r with
    | sign c => rfl
    | join a b =>
      show ts'.getD (f a) [] ++ ts'.getD (f b) [] = (ts.getD a [] ++ ts.getD b []).map (subS s o)
      rw [h a (by simp [Rule.parts]), h b (by simp [Rule.parts]), List.map_append]
    | times a n =>
      show (List.replicate n (ts'.getD (f a) [])).flatten = (List.replicate n (ts.getD a [])).flatten.map (subS s o)
      rw [h a (by simp [Rule.parts]), List.map_flatten, List.map_replicate]
theorem rev_get (A : List Nat) (p : Nat) (h : p < A.length) : A.reverse.getD p 0 = A.getD (A.length - 1 - p) 0 := by
  simp only [List.getD]
  rw [List.getElem?_reverse h]
theorem map_get (f : Nat → Nat) (A : List Nat) (p : Nat) (h : p < A.length) : (A.map f).getD p 0 = f (A.getD p 0) := by
  simp [List.getD, h]
/-- the signs of texts -/
theorem tx_sg {rs : List Rule} (g : Good rs) : ∀ k, ∀ c ∈ (texts rs).getD k [], c ∈ sgL := by
  revert g
  refine snocInd (P := fun rs => Good rs → ∀ k, ∀ c ∈ (texts rs).getD k [], c ∈ sgL) (fun _ k c hc => by simp [texts] at hc) (fun l r ih g => ?_) rs
  obtain ⟨g1, r1⟩ := g.init
  have ih := ih g1
  intro k c hc
  rcases Nat.lt_or_ge k l.length with h | h
  · rw [texts_get h] at hc
    exact ih k c hc
  · rcases Nat.lt_or_eq_of_le h with h | h
    · have : (texts (l ++ [r])).getD k [] = [] := by
        have hl : (texts (l ++ [r])).length ≤ k := by
          rw [texts_len]
          simp
          omega
        simp [List.getD, hl]
      rw [this] at hc
      cases hc
    · subst h
      rw [texts_last] at hc
      cases r with
      | sign s =>
        have : c = s := by simpa [Rule.tx] using hc
        rw [this]
        exact r1
      | join a b =>
        rcases List.mem_append.mp hc with hc | hc
        · exact ih a c hc
        · exact ih b c hc
      | times a n =>
        obtain ⟨l2, h2, h3⟩ := List.mem_flatten.mp hc
        have := List.eq_of_mem_replicate h2
        rw [this] at h3
        exact ih a c h3
end Sb

/-! C13: rules made tidy, as a fold. -/
namespace Sb
open PySem PySem.Spec L2 Evl DL
def tstep (rs : List Rule) (s : List Rule × (Nat → Nat)) (i : Nat) : List Rule × (Nat → Nat) := match rs[i]? with
  | none => s
  | some r => if r.ren s.2 ∈ s.1 then (s.1, fun y => if y = i then s.1.idxOf (r.ren s.2) else s.2 y) else (s.1 ++ [r.ren s.2], fun y => if y = i then s.1.length else s.2 y)
def tfold (rs : List Rule) (ks : List Nat) : List Rule × (Nat → Nat) := ks.foldl (tstep rs) ([], fun _ => 0)
theorem tfold_snoc (rs : List Rule) (ks : List Nat) (i : Nat) : tfold rs (ks ++ [i]) = tstep rs (tfold rs ks) i := by simp [tfold]
theorem idxOf_get {qs : List Rule} (nd : qs.Nodup) {x : Nat} {q : Rule} (h : qs[x]? = some q) : qs.idxOf q = x := by
  obtain ⟨hx, e⟩ := List.getElem?_eq_some_iff.mp h
  rw [← e]
  exact nd.idxOf_getElem x hx
theorem tstep_in {rs : List Rule} {qs : List Rule} {f : Nat → Nat} {i : Nat} {r : Rule} (hr : rs[i]? = some r) (nd : qs.Nodup) {x : Nat} (hx : qs[x]? = some (r.ren f)) : tstep rs (qs, f) i = (qs, fun y => if y = i then x else f y) := by
  have hm : r.ren f ∈ qs := List.mem_of_getElem? hx
  simp only [tstep, hr, hm, if_true, idxOf_get nd hx]
theorem tstep_new {rs : List Rule} {qs : List Rule} {f : Nat → Nat} {i : Nat} {r : Rule} (hr : rs[i]? = some r) (hm : ¬ r.ren f ∈ qs) : tstep rs (qs, f) i = (qs ++ [r.ren f], fun y => if y = i then qs.length else f y) := by
  simp only [tstep, hr, hm, if_false]
theorem rise_eq : ∀ {a b : List Nat}, a.Pairwise (· < ·) → b.Pairwise (· < ·) → (∀ i, i ∈ a ↔ i ∈ b) → a = b
  | [], [], _, _, _ => rfl
  | [], y :: b, _, _, h => by have := (h y).mpr (by simp); simp at this
  | x :: a, [], _, _, h => by have := (h x).mp (by simp); simp at this
  | x :: a, y :: b, ha, hb, h => by
    have ha1 := List.pairwise_cons.mp ha
    have hb1 := List.pairwise_cons.mp hb
    have xy : x = y := by
      rcases List.mem_cons.mp ((h x).mp (by simp)) with e | e
      · exact e
      · rcases List.mem_cons.mp ((h y).mpr (by simp)) with e2 | e2
        · exact e2.symm
        · have := hb1.1 x e
          have := ha1.1 y e2
          omega
    subst xy
    congr 1
    refine rise_eq ha1.2 hb1.2 fun i => ⟨fun hi => ?_, fun hi => ?_⟩
    · rcases List.mem_cons.mp ((h i).mp (List.mem_cons_of_mem _ hi)) with e | e
      · have := ha1.1 i hi
        omega
      · exact e
    · rcases List.mem_cons.mp ((h i).mpr (List.mem_cons_of_mem _ hi)) with e | e
      · have := hb1.1 i hi
        omega
      · exact e
theorem need_sub {rs : List Rule} (g : Good rs) {k : Nat} {a b : List Nat} (ha : Need rs k a) (hb : Need rs k b) : ∀ d i, k - i ≤ d → i ∈ a → i ∈ b := by
  intro d
  induction d with
  | zero =>
    intro i hd hi
    have := ha.le i hi
    have e : i = k := by omega
    rw [e]
    exact hb.top
  | succ d ih =>
    intro i hd hi
    rcases ha.by_ i hi with e | ⟨j, hj, r, hr, hp⟩
    · rw [e]
      exact hb.top
    · have hlt := parts_lt (g j r hr) i hp
      have := ha.le j hj
      exact hb.clo j (ih j (by omega) hj) r hr i hp
theorem need_uniq {rs : List Rule} (g : Good rs) {k : Nat} {a b : List Nat} (ha : Need rs k a) (hb : Need rs k b) : a = b :=
  rise_eq ha.rise hb.rise fun i => ⟨need_sub g ha hb (k - i) i (Nat.le_refl _), need_sub g hb ha (k - i) i (Nat.le_refl _)⟩
theorem ren_same {r : Rule} {i : Nat} (ok : r.ok i) {f : Nat → Nat} (h : ∀ y, y < i → f y = y) : r.ren f = r := by
  cases r with
  | sign c => rfl
  | join a b => simp [Rule.ren, h a ok.1, h b ok.2]
  | times a n => simp [Rule.ren, h a ok.1]
theorem tfold_all {qs : List Rule} (g : Good qs) (nd : qs.Nodup) : ∀ j, j ≤ qs.length → ∃ f, tfold qs (List.range j) = (qs.take j, f) ∧ ∀ y, y < j → f y = y := by
  intro j
  induction j with
  | zero => intro _; exact ⟨_, rfl, fun y h => absurd h (Nat.not_lt_zero y)⟩
  | succ j ih =>
    intro hj
    obtain ⟨f, e, hf⟩ := ih (by omega)
    have hr : qs[j]? = some qs[j] := by simp [show j < qs.length by omega]
    have en := ren_same (g j _ hr) hf
    have ni : ¬ (qs[j]).ren f ∈ qs.take j := by
      rw [en]
      intro hm
      obtain ⟨x, hx, ex⟩ := List.getElem_of_mem hm
      rw [List.length_take] at hx
      rw [List.getElem_take] at ex
      have := idxOf_get nd (x := x) (q := qs[j]) (by rw [← ex]; simp)
      have := idxOf_get nd hr
      omega
    refine ⟨fun y => if y = j then (qs.take j).length else f y, ?_, fun y hy => ?_⟩
    · rw [List.range_succ, tfold_snoc, e, tstep_new hr ni, en]
      rw [List.take_add_one, hr]
      rfl
    · show (if y = j then (qs.take j).length else f y) = y
      split
      · rw [List.length_take]
        omega
      · exact hf y (by omega)
end Sb

namespace Sb
open PySem PySem.Spec L2 Evl DL
theorem sign_by_ok (c : Int) : ∃ s : Nat, s ∈ sgL ∧ m__law_sign_by [.int c] = .ok (.str (s1 s)) := by
  have h0 := Int.emod_nonneg c (show (62 : Int) ≠ 0 by decide)
  have h1 := Int.emod_lt_of_pos c (show (0 : Int) < 62 by decide)
  have hl : SG.cps.toList.length = 62 := sgL_len
  have hx := dIx_s (z := SG) h0 (by rw [hl]; exact h1) sg_len
  refine ⟨SG.cps.toList[(c % 62).toNat]'(by omega), List.getElem_mem _, ?_⟩
  simp only [m__law_sign_by, b__law_sign_by, runM, mkEnv, List.replicate, List.cons_append, List.nil_append, sSeq, sIf, sRet, sAsg, sAsgN, sDrop, sSkip_ap, eBin_ap, eUn_ap, eVarD_0, eVarD_s, eVar_0d, eVar_0o, eVar_0b, eVar_s, eCall_0, eCall_1, eCall_2, eCall_3, eCall_4, bLen_l, bLen_t, bind_ok, bMin_ii, bMax_ii, dAdd_ii, dSub_ii, dLt_ii, dLe_ii, dGt_ii, dGe_ii, dEq_ii, dNe_ii, dEq_ss, dNe_ss, dEq_bb, List.length_map, decide_true, decide_false, eC_ap, set_0, set_s, eNot, eAnd, eOr, eIf, eIsi_ap, isT_n, isT_b, isT_i, isT_s, isT_l, isT_t, gN_ap, Bool.not_true, Bool.not_false, beq_self_eq_true, Bool.or_self, Bool.or_false, Bool.false_or, Bool.or_true, Bool.true_or, String.reduceBEq, Int.reduceLT, Int.reduceLE, Int.reduceEq, eTup_0, eTup_1, eTup_2, eTup_3, eLst_0, eLst_1, eLst_2, eLst_3, eLst_4, bTuple_l, bTuple_t, bList_l, bList_t, dNeg_i, bind_ex, len0, len1, len2, len3, len4, is_nn, is_in, is_sn, is_ln, is_tn, isn_nn, isn_in, isn_sn, isn_ln, isn_tn, dMod_ok (show (0 : Int) < 62 by decide), hx]
end Sb

namespace Sb
open PySem PySem.Spec L2 Evl DL
theorem lsize_ok (r : Rule) (sz : List Nat) (hr : r.ok sz.length) (hs : ∀ n ∈ sz, n ≤ MOST) : m__law_size [ruleD r, natsD sz] = .ok (.int (r.size sz : Nat)) := by
  cases r with
  | sign c => simp only [m__law_size, b__law_size, ruleD, runM, mkEnv, List.replicate, List.cons_append, List.nil_append, sSeq, sIf, sRet, sAsg, sAsgN, sDrop, sSkip_ap, eBin_ap, eUn_ap, eVarD_0, eVarD_s, eVar_0d, eVar_0o, eVar_0b, eVar_s, eCall_0, eCall_1, eCall_2, eCall_3, eCall_4, bLen_l, bLen_t, bind_ok, bMin_ii, bMax_ii, dAdd_ii, dSub_ii, dLt_ii, dLe_ii, dGt_ii, dGe_ii, dEq_ii, dNe_ii, dEq_ss, dNe_ss, dEq_bb, List.length_map, decide_true, decide_false, eC_ap, set_0, set_s, eNot, eAnd, eOr, eIf, eIsi_ap, isT_n, isT_b, isT_i, isT_s, isT_l, isT_t, gN_ap, Bool.not_true, Bool.not_false, beq_self_eq_true, Bool.or_self, Bool.or_false, Bool.false_or, Bool.or_true, Bool.true_or, String.reduceBEq, Int.reduceLT, Int.reduceLE, Int.reduceEq, eTup_0, eTup_1, eTup_2, eTup_3, eLst_0, eLst_1, eLst_2, eLst_3, eLst_4, bTuple_l, bTuple_t, bList_l, bList_t, dNeg_i, bind_ex, len0, len1, len2, len3, len4, is_nn, is_in, is_sn, is_ln, is_tn, isn_nn, isn_in, isn_sn, isn_ln, isn_tn, dIx_t0, Rule.size]; rfl
  | join a b =>
    simp only [m__law_size, b__law_size, ruleD, runM, mkEnv, List.replicate, List.cons_append, List.nil_append, sSeq, sIf, sRet, sAsg, sAsgN, sDrop, sSkip_ap, eBin_ap, eUn_ap, eVarD_0, eVarD_s, eVar_0d, eVar_0o, eVar_0b, eVar_s, eCall_0, eCall_1, eCall_2, eCall_3, eCall_4, bLen_l, bLen_t, bind_ok, bMin_ii, bMax_ii, dAdd_ii, dSub_ii, dLt_ii, dLe_ii, dGt_ii, dGe_ii, dEq_ii, dNe_ii, dEq_ss, dNe_ss, dEq_bb, List.length_map, decide_true, decide_false, eC_ap, set_0, set_s, eNot, eAnd, eOr, eIf, eIsi_ap, isT_n, isT_b, isT_i, isT_s, isT_l, isT_t, gN_ap, Bool.not_true, Bool.not_false, beq_self_eq_true, Bool.or_self, Bool.or_false, Bool.false_or, Bool.or_true, Bool.true_or, String.reduceBEq, Int.reduceLT, Int.reduceLE, Int.reduceEq, eTup_0, eTup_1, eTup_2, eTup_3, eLst_0, eLst_1, eLst_2, eLst_3, eLst_4, bTuple_l, bTuple_t, bList_l, bList_t, dNeg_i, bind_ex, len0, len1, len2, len3, len4, is_nn, is_in, is_sn, is_ln, is_tn, isn_nn, isn_in, isn_sn, isn_ln, isn_tn, dIx_t0, dIx_t1, dIx_t2, js, dIx_nats hr.1, dIx_nats hr.2, Rule.size]
    rfl
  | times a n =>
    have m := dMul_nat (m := sz.getD a 0) (n := n) 61 61 (Nat.lt_of_le_of_lt (getD_le hs) (by decide)) (Nat.lt_of_le_of_lt hr.2.2 (by decide))
    simp only [m__law_size, b__law_size, ruleD, runM, mkEnv, List.replicate, List.cons_append, List.nil_append, sSeq, sIf, sRet, sAsg, sAsgN, sDrop, sSkip_ap, eBin_ap, eUn_ap, eVarD_0, eVarD_s, eVar_0d, eVar_0o, eVar_0b, eVar_s, eCall_0, eCall_1, eCall_2, eCall_3, eCall_4, bLen_l, bLen_t, bind_ok, bMin_ii, bMax_ii, dAdd_ii, dSub_ii, dLt_ii, dLe_ii, dGt_ii, dGe_ii, dEq_ii, dNe_ii, dEq_ss, dNe_ss, dEq_bb, List.length_map, decide_true, decide_false, eC_ap, set_0, set_s, eNot, eAnd, eOr, eIf, eIsi_ap, isT_n, isT_b, isT_i, isT_s, isT_l, isT_t, gN_ap, Bool.not_true, Bool.not_false, beq_self_eq_true, Bool.or_self, Bool.or_false, Bool.false_or, Bool.or_true, Bool.true_or, String.reduceBEq, Int.reduceLT, Int.reduceLE, Int.reduceEq, eTup_0, eTup_1, eTup_2, eTup_3, eLst_0, eLst_1, eLst_2, eLst_3, eLst_4, bTuple_l, bTuple_t, bList_l, bList_t, dNeg_i, bind_ex, len0, len1, len2, len3, len4, is_nn, is_in, is_sn, is_ln, is_tn, isn_nn, isn_in, isn_sn, isn_ln, isn_tn, dIx_t0, dIx_t1, dIx_t2, ts, tj, dIx_nats hr.1, m, Rule.size]
end Sb

namespace Sb
open PySem PySem.Spec L2 Evl DL
theorem earlier_ok (c : Int) (n : Nat) (hn : 1 ≤ n) : ∃ a : Nat, a < n ∧ m__law_earlier [.int c, .int (n : Int)] = .ok (.int (a : Int)) := by
  have hn0 : (0 : Int) < (n : Int) := by omega
  have b0 := Int.emod_nonneg (c / 2) (show (n : Int) ≠ 0 by omega)
  have b1 := Int.emod_lt_of_pos (c / 2) hn0
  have hd := dDiv_ok (i := c) (j := 2) (by decide) 2 (by decide)
  have h2 : (0 : Int) < min (n : Int) 2 := by omega
  have p0 := Int.emod_nonneg (c / 2) (show min (n : Int) 2 ≠ 0 by omega)
  have p1 := Int.emod_lt_of_pos (c / 2) h2
  by_cases h : c % 2 = 1
  · refine ⟨((n : Int) - 1 - c / 2 % min (n : Int) 2).toNat, by omega, ?_⟩
    rw [show (((n : Int) - 1 - c / 2 % min (n : Int) 2).toNat : Int) = (n : Int) - 1 - c / 2 % min (n : Int) 2 by omega]
    simp only [m__law_earlier, b__law_earlier, runM, mkEnv, List.replicate, List.cons_append, List.nil_append, sSeq, sIf, sRet, sAsg, sAsgN, sDrop, sSkip_ap, eBin_ap, eUn_ap, eVarD_0, eVarD_s, eVar_0d, eVar_0o, eVar_0b, eVar_s, eCall_0, eCall_1, eCall_2, eCall_3, eCall_4, bLen_l, bLen_t, bind_ok, bMin_ii, bMax_ii, dAdd_ii, dSub_ii, dLt_ii, dLe_ii, dGt_ii, dGe_ii, dEq_ii, dNe_ii, dEq_ss, dNe_ss, dEq_bb, List.length_map, decide_true, decide_false, eC_ap, set_0, set_s, eNot, eAnd, eOr, eIf, eIsi_ap, isT_n, isT_b, isT_i, isT_s, isT_l, isT_t, gN_ap, Bool.not_true, Bool.not_false, beq_self_eq_true, Bool.or_self, Bool.or_false, Bool.false_or, Bool.or_true, Bool.true_or, String.reduceBEq, Int.reduceLT, Int.reduceLE, Int.reduceEq, eTup_0, eTup_1, eTup_2, eTup_3, eLst_0, eLst_1, eLst_2, eLst_3, eLst_4, bTuple_l, bTuple_t, bList_l, bList_t, dNeg_i, bind_ex, len0, len1, len2, len3, len4, is_nn, is_in, is_sn, is_ln, is_tn, isn_nn, isn_in, isn_sn, isn_ln, isn_tn, hd, dMod_ok hn0, dMod_ok (show (0 : Int) < 2 by decide), h, dMod_ok h2]
  · refine ⟨((n : Int) - 1 - c / 2 % (n : Int)).toNat, by omega, ?_⟩
    rw [show (((n : Int) - 1 - c / 2 % (n : Int)).toNat : Int) = (n : Int) - 1 - c / 2 % (n : Int) by omega]
    simp only [m__law_earlier, b__law_earlier, runM, mkEnv, List.replicate, List.cons_append, List.nil_append, sSeq, sIf, sRet, sAsg, sAsgN, sDrop, sSkip_ap, eBin_ap, eUn_ap, eVarD_0, eVarD_s, eVar_0d, eVar_0o, eVar_0b, eVar_s, eCall_0, eCall_1, eCall_2, eCall_3, eCall_4, bLen_l, bLen_t, bind_ok, bMin_ii, bMax_ii, dAdd_ii, dSub_ii, dLt_ii, dLe_ii, dGt_ii, dGe_ii, dEq_ii, dNe_ii, dEq_ss, dNe_ss, dEq_bb, List.length_map, decide_true, decide_false, eC_ap, set_0, set_s, eNot, eAnd, eOr, eIf, eIsi_ap, isT_n, isT_b, isT_i, isT_s, isT_l, isT_t, gN_ap, Bool.not_true, Bool.not_false, beq_self_eq_true, Bool.or_self, Bool.or_false, Bool.false_or, Bool.or_true, Bool.true_or, String.reduceBEq, Int.reduceLT, Int.reduceLE, Int.reduceEq, eTup_0, eTup_1, eTup_2, eTup_3, eLst_0, eLst_1, eLst_2, eLst_3, eLst_4, bTuple_l, bTuple_t, bList_l, bList_t, dNeg_i, bind_ex, len0, len1, len2, len3, len4, is_nn, is_in, is_sn, is_ln, is_tn, isn_nn, isn_in, isn_sn, isn_ln, isn_tn, hd, dMod_ok hn0, dMod_ok (show (0 : Int) < 2 by decide), h]
theorem times_ok (c : Int) (h0 : 0 ≤ c) (h1 : c < 2 ^ 200) : ∃ n : Nat, 1 ≤ n ∧ n ≤ MOST ∧ m__law_times [.int c] = .ok (.int (n : Int)) := by
  have hd := dDiv_ok (i := c) (j := 4) (by decide) 3 (by decide)
  have m4 := dMod_ok (i := c) (j := 4) (by decide)
  have hp : dPow (.int 2) (.int 60) = .ok (.int (2 ^ 60)) := dPow_ok (by decide) (by decide) (by decide)
  have hM : (0 : Int) < 2 ^ 60 := by decide
  have em : (MOST : Int) = 2 ^ 60 := by decide
  by_cases a : c % 4 < 2
  · have r0 := Int.emod_nonneg (c / 4) (show (5 : Int) ≠ 0 by decide)
    have r1 := Int.emod_lt_of_pos (c / 4) (show (0 : Int) < 5 by decide)
    obtain ⟨n, hn⟩ : ∃ n : Nat, (n : Int) = 1 + c / 4 % 5 := ⟨_, Int.toNat_of_nonneg (by omega)⟩
    refine ⟨n, by omega, by omega, ?_⟩
    rw [hn]
    simp only [m__law_times, b__law_times, runM, mkEnv, List.replicate, List.cons_append, List.nil_append, sSeq, sIf, sRet, sAsg, sAsgN, sDrop, sSkip_ap, eBin_ap, eUn_ap, eVarD_0, eVarD_s, eVar_0d, eVar_0o, eVar_0b, eVar_s, eCall_0, eCall_1, eCall_2, eCall_3, eCall_4, bLen_l, bLen_t, bind_ok, bMin_ii, bMax_ii, dAdd_ii, dSub_ii, dLt_ii, dLe_ii, dGt_ii, dGe_ii, dEq_ii, dNe_ii, dEq_ss, dNe_ss, dEq_bb, List.length_map, decide_true, decide_false, eC_ap, set_0, set_s, eNot, eAnd, eOr, eIf, eIsi_ap, isT_n, isT_b, isT_i, isT_s, isT_l, isT_t, gN_ap, Bool.not_true, Bool.not_false, beq_self_eq_true, Bool.or_self, Bool.or_false, Bool.false_or, Bool.or_true, Bool.true_or, String.reduceBEq, Int.reduceLT, Int.reduceLE, Int.reduceEq, eTup_0, eTup_1, eTup_2, eTup_3, eLst_0, eLst_1, eLst_2, eLst_3, eLst_4, bTuple_l, bTuple_t, bList_l, bList_t, dNeg_i, bind_ex, len0, len1, len2, len3, len4, is_nn, is_in, is_sn, is_ln, is_tn, isn_nn, isn_in, isn_sn, isn_ln, isn_tn, hd, m4, a, dMod_ok (show (0 : Int) < 5 by decide)]
  · by_cases b : c % 4 = 2
    · have r0 := Int.emod_nonneg (c / 4) (show (10007 : Int) ≠ 0 by decide)
      have r1 := Int.emod_lt_of_pos (c / 4) (show (0 : Int) < 10007 by decide)
      obtain ⟨n, hn⟩ : ∃ n : Nat, (n : Int) = 1 + c / 4 % 10007 := ⟨_, Int.toNat_of_nonneg (by omega)⟩
      refine ⟨n, by omega, by omega, ?_⟩
      rw [hn]
      simp only [m__law_times, b__law_times, runM, mkEnv, List.replicate, List.cons_append, List.nil_append, sSeq, sIf, sRet, sAsg, sAsgN, sDrop, sSkip_ap, eBin_ap, eUn_ap, eVarD_0, eVarD_s, eVar_0d, eVar_0o, eVar_0b, eVar_s, eCall_0, eCall_1, eCall_2, eCall_3, eCall_4, bLen_l, bLen_t, bind_ok, bMin_ii, bMax_ii, dAdd_ii, dSub_ii, dLt_ii, dLe_ii, dGt_ii, dGe_ii, dEq_ii, dNe_ii, dEq_ss, dNe_ss, dEq_bb, List.length_map, decide_true, decide_false, eC_ap, set_0, set_s, eNot, eAnd, eOr, eIf, eIsi_ap, isT_n, isT_b, isT_i, isT_s, isT_l, isT_t, gN_ap, Bool.not_true, Bool.not_false, beq_self_eq_true, Bool.or_self, Bool.or_false, Bool.false_or, Bool.or_true, Bool.true_or, String.reduceBEq, Int.reduceLT, Int.reduceLE, Int.reduceEq, eTup_0, eTup_1, eTup_2, eTup_3, eLst_0, eLst_1, eLst_2, eLst_3, eLst_4, bTuple_l, bTuple_t, bList_l, bList_t, dNeg_i, bind_ex, len0, len1, len2, len3, len4, is_nn, is_in, is_sn, is_ln, is_tn, isn_nn, isn_in, isn_sn, isn_ln, isn_tn, hd, m4, b, Int.reduceLT, dMod_ok (show (0 : Int) < 10007 by decide)]
    · have hq : c / 4 < 2 ^ 200 := by omega
      have mm := dMul_ok (i := c / 4) (j := 1152921504606846883) 200 61 (abs_lt_of (by omega) hq) (by decide)
      have r0 := Int.emod_nonneg (c / 4 * 1152921504606846883) (show (2 ^ 60 : Int) ≠ 0 by decide)
      have r1 := Int.emod_lt_of_pos (c / 4 * 1152921504606846883) hM
      obtain ⟨n, hn⟩ : ∃ n : Nat, (n : Int) = 1 + c / 4 * 1152921504606846883 % 2 ^ 60 := ⟨_, Int.toNat_of_nonneg (by omega)⟩
      refine ⟨n, by omega, by omega, ?_⟩
      rw [hn]
      simp only [m__law_times, b__law_times, runM, mkEnv, List.replicate, List.cons_append, List.nil_append, sSeq, sIf, sRet, sAsg, sAsgN, sDrop, sSkip_ap, eBin_ap, eUn_ap, eVarD_0, eVarD_s, eVar_0d, eVar_0o, eVar_0b, eVar_s, eCall_0, eCall_1, eCall_2, eCall_3, eCall_4, bLen_l, bLen_t, bind_ok, bMin_ii, bMax_ii, dAdd_ii, dSub_ii, dLt_ii, dLe_ii, dGt_ii, dGe_ii, dEq_ii, dNe_ii, dEq_ss, dNe_ss, dEq_bb, List.length_map, decide_true, decide_false, eC_ap, set_0, set_s, eNot, eAnd, eOr, eIf, eIsi_ap, isT_n, isT_b, isT_i, isT_s, isT_l, isT_t, gN_ap, Bool.not_true, Bool.not_false, beq_self_eq_true, Bool.or_self, Bool.or_false, Bool.false_or, Bool.or_true, Bool.true_or, String.reduceBEq, Int.reduceLT, Int.reduceLE, Int.reduceEq, eTup_0, eTup_1, eTup_2, eTup_3, eLst_0, eLst_1, eLst_2, eLst_3, eLst_4, bTuple_l, bTuple_t, bList_l, bList_t, dNeg_i, bind_ex, len0, len1, len2, len3, len4, is_nn, is_in, is_sn, is_ln, is_tn, isn_nn, isn_in, isn_sn, isn_ln, isn_tn, hd, m4, a, b, mm, hp, dMod_ok hM]
theorem rule_ok (c : Int) (h0 : 0 ≤ c) (h1 : c < 2 ^ 200) (sz : List Nat) (hl : 1 ≤ sz.length) (hp : ∀ n ∈ sz, 1 ≤ n) (most : Nat) (hm1 : 1 ≤ most) (hm : most ≤ MOST) (hs : ∀ n ∈ sz, n ≤ most) :
    ∃ r : Rule, m__law_rule [.int c, natsD sz, .int (most : Int)] = .ok (ruleD r) ∧ r.ok sz.length ∧ r.size sz ≤ most := by
  have m8 := dMod_ok (i := c) (j := 8) (by decide)
  have d8 := dDiv_ok (i := c) (j := 8) (by decide) 4 (by decide)
  have d32 := dDiv_ok (i := c) (j := 32768) (by decide) 16 (by decide)
  have z2 : (2 : Nat) ≤ sizeLine := by decide
  have z3 : (3 : Nat) ≤ sizeLine := by decide
  have hlen : bLen [natsD sz] = .ok (.int (sz.length : Nat)) := by simp [natsD]
  have gd : ∀ a, a < sz.length → 1 ≤ sz.getD a 0 ∧ sz.getD a 0 ≤ most := fun a ha => by
    have e : sz.getD a 0 = sz[a] := by simp [List.getD, ha]
    rw [e]
    exact ⟨hp _ (List.getElem_mem ha), hs _ (List.getElem_mem ha)⟩
  by_cases a : c % 8 = 0
  · obtain ⟨s, hs1, hs2⟩ := sign_by_ok (c / 8)
    refine ⟨.sign s, ?_, hs1, hm1⟩
    simp only [m__law_rule, b__law_rule, runM, mkEnv, List.replicate, List.cons_append, List.nil_append, sSeq, sIf, sRet, sAsg, sAsgN, sDrop, sSkip_ap, eBin_ap, eUn_ap, eVarD_0, eVarD_s, eVar_0d, eVar_0o, eVar_0b, eVar_s, eCall_0, eCall_1, eCall_2, eCall_3, eCall_4, bLen_l, bLen_t, bind_ok, bMin_ii, bMax_ii, dAdd_ii, dSub_ii, dLt_ii, dLe_ii, dGt_ii, dGe_ii, dEq_ii, dNe_ii, dEq_ss, dNe_ss, dEq_bb, List.length_map, decide_true, decide_false, eC_ap, set_0, set_s, eNot, eAnd, eOr, eIf, eIsi_ap, isT_n, isT_b, isT_i, isT_s, isT_l, isT_t, gN_ap, Bool.not_true, Bool.not_false, beq_self_eq_true, Bool.or_self, Bool.or_false, Bool.false_or, Bool.or_true, Bool.true_or, String.reduceBEq, Int.reduceLT, Int.reduceLE, Int.reduceEq, eTup_0, eTup_1, eTup_2, eTup_3, eLst_0, eLst_1, eLst_2, eLst_3, eLst_4, bTuple_l, bTuple_t, bList_l, bList_t, dNeg_i, bind_ex, len0, len1, len2, len3, len4, is_nn, is_in, is_sn, is_ln, is_tn, isn_nn, isn_in, isn_sn, isn_ln, isn_tn, m8, a, eTup, evA, d8, hs2, List.length_cons, List.length_nil, Nat.zero_add, Nat.reduceAdd, z2, if_true, ruleD]
  · obtain ⟨one, ho, he⟩ := earlier_ok (c / 8 % 4096) sz.length hl
    have m4 := dMod_ok (i := c / 8) (j := 4096) (by decide)
    have m4' := dMod_ok (i := c / 32768) (j := 4096) (by decide)
    obtain ⟨t, ht1, ht2, ht⟩ := times_ok (c / 32768) (by omega) (by omega)
    obtain ⟨g1, g2⟩ := gd one ho
    have dq := dDiv_ok (i := (most : Int)) (j := ((sz.getD one 0 : Nat) : Int)) (by omega) 61 (natAbs_lt (Nat.lt_of_le_of_lt (Nat.le_trans g2 hm) (by decide)))
    have eq : ((most : Int) / ((sz.getD one 0 : Nat) : Int)) = ((most / sz.getD one 0 : Nat) : Int) := by simp
    rw [eq] at dq
    have q1 : 1 ≤ most / sz.getD one 0 := (Nat.one_le_div_iff (by omega)).mpr g2
    have last : (.times one (min t (most / sz.getD one 0)) : Rule).ok sz.length ∧ (Rule.times one (min t (most / sz.getD one 0))).size sz ≤ most := by
      refine ⟨⟨ho, by omega, by omega⟩, ?_⟩
      show sz.getD one 0 * min t (most / sz.getD one 0) ≤ most
      exact Nat.le_trans (Nat.mul_le_mul_left _ (Nat.min_le_right _ _)) (Nat.mul_div_le most (sz.getD one 0))
    have emin : max (1 : Int) (min (t : Int) ((most / sz.getD one 0 : Nat) : Int)) = ((min t (most / sz.getD one 0) : Nat) : Int) := by omega
    by_cases b : c % 8 < 5
    · obtain ⟨other, ho2, he2⟩ := earlier_ok (c / 32768 % 4096) sz.length hl
      by_cases d : ((sz.getD one 0 : Nat) : Int) + ((sz.getD other 0 : Nat) : Int) ≤ (most : Int)
      · refine ⟨.join one other, ?_, ⟨ho, ho2⟩, by show sz.getD one 0 + sz.getD other 0 ≤ most; omega⟩
        simp only [m__law_rule, b__law_rule, runM, mkEnv, List.replicate, List.cons_append, List.nil_append, sSeq, sIf, sRet, sAsg, sAsgN, sDrop, sSkip_ap, eBin_ap, eUn_ap, eVarD_0, eVarD_s, eVar_0d, eVar_0o, eVar_0b, eVar_s, eCall_0, eCall_1, eCall_2, eCall_3, eCall_4, bLen_l, bLen_t, bind_ok, bMin_ii, bMax_ii, dAdd_ii, dSub_ii, dLt_ii, dLe_ii, dGt_ii, dGe_ii, dEq_ii, dNe_ii, dEq_ss, dNe_ss, dEq_bb, List.length_map, decide_true, decide_false, eC_ap, set_0, set_s, eNot, eAnd, eOr, eIf, eIsi_ap, isT_n, isT_b, isT_i, isT_s, isT_l, isT_t, gN_ap, Bool.not_true, Bool.not_false, beq_self_eq_true, Bool.or_self, Bool.or_false, Bool.false_or, Bool.or_true, Bool.true_or, String.reduceBEq, Int.reduceLT, Int.reduceLE, Int.reduceEq, eTup_0, eTup_1, eTup_2, eTup_3, eLst_0, eLst_1, eLst_2, eLst_3, eLst_4, bTuple_l, bTuple_t, bList_l, bList_t, dNeg_i, bind_ex, len0, len1, len2, len3, len4, is_nn, is_in, is_sn, is_ln, is_tn, isn_nn, isn_in, isn_sn, isn_ln, isn_tn, m8, a, eTup, evA, d8, m4, hlen, he, b, d32, m4', he2, dIx_nats ho, dIx_nats ho2, d, List.length_cons, List.length_nil, Nat.zero_add, Nat.reduceAdd, z3, if_true, ruleD]
      · refine ⟨.times one (min t (most / sz.getD one 0)), ?_, last.1, last.2⟩
        simp only [m__law_rule, b__law_rule, runM, mkEnv, List.replicate, List.cons_append, List.nil_append, sSeq, sIf, sRet, sAsg, sAsgN, sDrop, sSkip_ap, eBin_ap, eUn_ap, eVarD_0, eVarD_s, eVar_0d, eVar_0o, eVar_0b, eVar_s, eCall_0, eCall_1, eCall_2, eCall_3, eCall_4, bLen_l, bLen_t, bind_ok, bMin_ii, bMax_ii, dAdd_ii, dSub_ii, dLt_ii, dLe_ii, dGt_ii, dGe_ii, dEq_ii, dNe_ii, dEq_ss, dNe_ss, dEq_bb, List.length_map, decide_true, decide_false, eC_ap, set_0, set_s, eNot, eAnd, eOr, eIf, eIsi_ap, isT_n, isT_b, isT_i, isT_s, isT_l, isT_t, gN_ap, Bool.not_true, Bool.not_false, beq_self_eq_true, Bool.or_self, Bool.or_false, Bool.false_or, Bool.or_true, Bool.true_or, String.reduceBEq, Int.reduceLT, Int.reduceLE, Int.reduceEq, eTup_0, eTup_1, eTup_2, eTup_3, eLst_0, eLst_1, eLst_2, eLst_3, eLst_4, bTuple_l, bTuple_t, bList_l, bList_t, dNeg_i, bind_ex, len0, len1, len2, len3, len4, is_nn, is_in, is_sn, is_ln, is_tn, isn_nn, isn_in, isn_sn, isn_ln, isn_tn, m8, a, eTup, evA, d8, m4, hlen, he, b, d32, m4', he2, dIx_nats ho, dIx_nats ho2, d, ht, dq, emin, List.length_cons, List.length_nil, Nat.zero_add, Nat.reduceAdd, z3, if_true, ruleD]
    · refine ⟨.times one (min t (most / sz.getD one 0)), ?_, last.1, last.2⟩
      simp only [m__law_rule, b__law_rule, runM, mkEnv, List.replicate, List.cons_append, List.nil_append, sSeq, sIf, sRet, sAsg, sAsgN, sDrop, sSkip_ap, eBin_ap, eUn_ap, eVarD_0, eVarD_s, eVar_0d, eVar_0o, eVar_0b, eVar_s, eCall_0, eCall_1, eCall_2, eCall_3, eCall_4, bLen_l, bLen_t, bind_ok, bMin_ii, bMax_ii, dAdd_ii, dSub_ii, dLt_ii, dLe_ii, dGt_ii, dGe_ii, dEq_ii, dNe_ii, dEq_ss, dNe_ss, dEq_bb, List.length_map, decide_true, decide_false, eC_ap, set_0, set_s, eNot, eAnd, eOr, eIf, eIsi_ap, isT_n, isT_b, isT_i, isT_s, isT_l, isT_t, gN_ap, Bool.not_true, Bool.not_false, beq_self_eq_true, Bool.or_self, Bool.or_false, Bool.false_or, Bool.or_true, Bool.true_or, String.reduceBEq, Int.reduceLT, Int.reduceLE, Int.reduceEq, eTup_0, eTup_1, eTup_2, eTup_3, eLst_0, eLst_1, eLst_2, eLst_3, eLst_4, bTuple_l, bTuple_t, bList_l, bList_t, dNeg_i, bind_ex, len0, len1, len2, len3, len4, is_nn, is_in, is_sn, is_ln, is_tn, isn_nn, isn_in, isn_sn, isn_ln, isn_tn, m8, a, eTup, evA, d8, m4, hlen, he, b, d32, dIx_nats ho, ht, dq, emin, List.length_cons, List.length_nil, Nat.zero_add, Nat.reduceAdd, z3, if_true, ruleD]
end Sb

namespace Sb
open PySem PySem.Spec L2 Evl DL
theorem cell_ok {ns : List Int} (hb : ∀ z ∈ ns, Builtin.Int.intBits z ≤ 1048576) (k : Nat) (hk : k < 1048576) : ∃ c : Int, m__law_cell [.list (ns.map PyData.int), .int (k : Int)] = .ok (.int c) ∧ 0 ≤ c ∧ c < 10 ^ 40 := by
  have hp : dPow (.int 10) (.int 40) = .ok (.int (10 ^ 40)) := dPow_ok (by decide) (by decide) (by decide)
  have hM : (0 : Int) < 10 ^ 40 := by decide
  have hQ : (0 : Int) < 2147483629 := by decide
  by_cases h : k < ns.length
  · have hi := dIx_ints (ns := ns) (i := (k : Int)) (by omega) (by omega)
    have hm := dMul_bits (i := ns[k]) (j := 2718281828459045235360287471352662497757) 132 (hb _ (List.getElem_mem h)) (by decide)
    refine ⟨ns[k] * 2718281828459045235360287471352662497757 % 10 ^ 40, ?_, Int.emod_nonneg _ (by decide), Int.emod_lt_of_pos _ hM⟩
    simp only [Int.toNat_natCast] at hi
    have hlt : (k : Int) < (ns.length : Int) := by omega
    simp only [m__law_cell, b__law_cell, runM, mkEnv, List.replicate, List.cons_append, List.nil_append, sSeq, sIf, sRet, sAsg, sAsgN, sDrop, sSkip_ap, eBin_ap, eUn_ap, eVarD_0, eVarD_s, eVar_0d, eVar_0o, eVar_0b, eVar_s, eCall_0, eCall_1, eCall_2, eCall_3, eCall_4, bLen_l, bLen_t, bind_ok, bMin_ii, bMax_ii, dAdd_ii, dSub_ii, dLt_ii, dLe_ii, dGt_ii, dGe_ii, dEq_ii, dNe_ii, dEq_ss, dNe_ss, dEq_bb, List.length_map, decide_true, decide_false, eC_ap, set_0, set_s, eNot, eAnd, eOr, eIf, eIsi_ap, isT_n, isT_b, isT_i, isT_s, isT_l, isT_t, gN_ap, Bool.not_true, Bool.not_false, beq_self_eq_true, Bool.or_self, Bool.or_false, Bool.false_or, Bool.or_true, Bool.true_or, String.reduceBEq, Int.reduceLT, Int.reduceLE, Int.reduceEq, eTup_0, eTup_1, eTup_2, eTup_3, eLst_0, eLst_1, eLst_2, eLst_3, eLst_4, bTuple_l, bTuple_t, bList_l, bList_t, dNeg_i, bind_ex, len0, len1, len2, len3, len4, is_nn, is_in, is_sn, is_ln, is_tn, isn_nn, isn_in, isn_sn, isn_ln, isn_tn, hlt, hi, hm, hp, dMod_ok hM]
  · have hge : ¬ (k : Int) < (ns.length : Int) := by omega
    have kk : (k : Int) * k < 2 ^ 40 := by
      have : (k : Int) * k ≤ 1048575 * 1048575 := Int.mul_le_mul (by omega) (by omega) (by omega) (by omega)
      omega
    have kk0 : (0 : Int) ≤ (k : Int) * k := Int.mul_nonneg (by omega) (by omega)
    have m1 := dMul_ok (i := (k : Int)) (j := (k : Int)) 20 20 (by omega) (by omega)
    have m2 := dMul_ok (i := (k : Int) * k) (j := 7919) 40 13 (abs_lt_of kk0 kk) (by decide)
    obtain ⟨N, hN0, hN1, hN⟩ : ∃ N : Int, 0 ≤ N ∧ N < 2 ^ 160 ∧ sSeq (sIf (eBin dGt (eCall bLen [(eVarD 0)]) (eC (.int 0))) (sAsg 2 (eBin dAdd (eVarD 2) (eBin dMul (eBin dMod (eBin dIx (eVarD 0) (eBin dMod (eBin dMul (eVarD 1) (eC (.int 7))) (eCall bLen [(eVarD 0)]))) (eBin dPow (eC (.int 10)) (eC (.int 40)))) (eC (.int 48271))))) sSkip)
        (sRet (eBin dMod (eBin dMul (eVarD 2) (eVarD 2)) (eC (.int 2147483629)))) [.dat (.list (ns.map PyData.int)), .dat (.int k), .dat (.int ((k : Int) * k * 7919 + 5))]
        = (sRet (eBin dMod (eBin dMul (eVarD 2) (eVarD 2)) (eC (.int 2147483629)))) [.dat (.list (ns.map PyData.int)), .dat (.int k), .dat (.int N)] := by
      by_cases hl : ns.length = 0
      · refine ⟨(k : Int) * k * 7919 + 5, by omega, by omega, ?_⟩
        have : ¬ (0 : Int) < (ns.length : Int) := by omega
        simp only [runM, mkEnv, List.replicate, List.cons_append, List.nil_append, sSeq, sIf, sRet, sAsg, sAsgN, sDrop, sSkip_ap, eBin_ap, eUn_ap, eVarD_0, eVarD_s, eVar_0d, eVar_0o, eVar_0b, eVar_s, eCall_0, eCall_1, eCall_2, eCall_3, eCall_4, bLen_l, bLen_t, bind_ok, bMin_ii, bMax_ii, dAdd_ii, dSub_ii, dLt_ii, dLe_ii, dGt_ii, dGe_ii, dEq_ii, dNe_ii, dEq_ss, dNe_ss, dEq_bb, List.length_map, decide_true, decide_false, eC_ap, set_0, set_s, eNot, eAnd, eOr, eIf, eIsi_ap, isT_n, isT_b, isT_i, isT_s, isT_l, isT_t, gN_ap, Bool.not_true, Bool.not_false, beq_self_eq_true, Bool.or_self, Bool.or_false, Bool.false_or, Bool.or_true, Bool.true_or, String.reduceBEq, Int.reduceLT, Int.reduceLE, Int.reduceEq, eTup_0, eTup_1, eTup_2, eTup_3, eLst_0, eLst_1, eLst_2, eLst_3, eLst_4, bTuple_l, bTuple_t, bList_l, bList_t, dNeg_i, bind_ex, len0, len1, len2, len3, len4, is_nn, is_in, is_sn, is_ln, is_tn, isn_nn, isn_in, isn_sn, isn_ln, isn_tn, this]
      · have hpos : (0 : Int) < (ns.length : Int) := by omega
        have m3 := dMul_ok (i := (k : Int)) (j := 7) 20 3 (by omega) (by decide)
        have i0 : 0 ≤ (k : Int) * 7 % (ns.length : Int) := Int.emod_nonneg _ (by omega)
        have i1 : (k : Int) * 7 % (ns.length : Int) < (ns.length : Int) := Int.emod_lt_of_pos _ hpos
        have hi := dIx_ints (ns := ns) i0 i1
        have r0 := Int.emod_nonneg (ns[((k : Int) * 7 % (ns.length : Int)).toNat]'(by omega)) (show (10 ^ 40 : Int) ≠ 0 by decide)
        have r1 := Int.emod_lt_of_pos (ns[((k : Int) * 7 % (ns.length : Int)).toNat]'(by omega)) hM
        refine ⟨(k : Int) * k * 7919 + 5 + ns[((k : Int) * 7 % (ns.length : Int)).toNat]'(by omega) % 10 ^ 40 * 48271, by omega, by omega, ?_⟩
        have m4 := dMul_ok (i := ns[((k : Int) * 7 % (ns.length : Int)).toNat]'(by omega) % 10 ^ 40) (j := 48271) 134 17 (abs_lt_of r0 (by omega)) (by decide)
        simp only [runM, mkEnv, List.replicate, List.cons_append, List.nil_append, sSeq, sIf, sRet, sAsg, sAsgN, sDrop, sSkip_ap, eBin_ap, eUn_ap, eVarD_0, eVarD_s, eVar_0d, eVar_0o, eVar_0b, eVar_s, eCall_0, eCall_1, eCall_2, eCall_3, eCall_4, bLen_l, bLen_t, bind_ok, bMin_ii, bMax_ii, dAdd_ii, dSub_ii, dLt_ii, dLe_ii, dGt_ii, dGe_ii, dEq_ii, dNe_ii, dEq_ss, dNe_ss, dEq_bb, List.length_map, decide_true, decide_false, eC_ap, set_0, set_s, eNot, eAnd, eOr, eIf, eIsi_ap, isT_n, isT_b, isT_i, isT_s, isT_l, isT_t, gN_ap, Bool.not_true, Bool.not_false, beq_self_eq_true, Bool.or_self, Bool.or_false, Bool.false_or, Bool.or_true, Bool.true_or, String.reduceBEq, Int.reduceLT, Int.reduceLE, Int.reduceEq, eTup_0, eTup_1, eTup_2, eTup_3, eLst_0, eLst_1, eLst_2, eLst_3, eLst_4, bTuple_l, bTuple_t, bList_l, bList_t, dNeg_i, bind_ex, len0, len1, len2, len3, len4, is_nn, is_in, is_sn, is_ln, is_tn, isn_nn, isn_in, isn_sn, isn_ln, isn_tn, hpos, m3, dMod_ok hpos, hi, hp, dMod_ok hM, m4]
    have m5 := dMul_ok (i := N) (j := N) 160 160 (abs_lt_of hN0 hN1) (abs_lt_of hN0 hN1)
    have q0 := Int.emod_nonneg (N * N) (show (2147483629 : Int) ≠ 0 by decide)
    have q1 := Int.emod_lt_of_pos (N * N) hQ
    have m6 := dMul_ok (i := N * N % 2147483629) (j := 2718281828459045235360287471352662497757) 32 132 (abs_lt_of q0 (by omega)) (by decide)
    refine ⟨N * N % 2147483629, ?_, q0, by omega⟩
    have e : b__law_cell [.dat (.list (ns.map PyData.int)), .dat (.int k), .un] = .rt (.int (N * N % 2147483629)) := by
      unfold b__law_cell
      rw [seq_nx (ρ' := [.dat (.list (ns.map PyData.int)), .dat (.int k), .un]) (by simp only [runM, mkEnv, List.replicate, List.cons_append, List.nil_append, sSeq, sIf, sRet, sAsg, sAsgN, sDrop, sSkip_ap, eBin_ap, eUn_ap, eVarD_0, eVarD_s, eVar_0d, eVar_0o, eVar_0b, eVar_s, eCall_0, eCall_1, eCall_2, eCall_3, eCall_4, bLen_l, bLen_t, bind_ok, bMin_ii, bMax_ii, dAdd_ii, dSub_ii, dLt_ii, dLe_ii, dGt_ii, dGe_ii, dEq_ii, dNe_ii, dEq_ss, dNe_ss, dEq_bb, List.length_map, decide_true, decide_false, eC_ap, set_0, set_s, eNot, eAnd, eOr, eIf, eIsi_ap, isT_n, isT_b, isT_i, isT_s, isT_l, isT_t, gN_ap, Bool.not_true, Bool.not_false, beq_self_eq_true, Bool.or_self, Bool.or_false, Bool.false_or, Bool.or_true, Bool.true_or, String.reduceBEq, Int.reduceLT, Int.reduceLE, Int.reduceEq, eTup_0, eTup_1, eTup_2, eTup_3, eLst_0, eLst_1, eLst_2, eLst_3, eLst_4, bTuple_l, bTuple_t, bList_l, bList_t, dNeg_i, bind_ex, len0, len1, len2, len3, len4, is_nn, is_in, is_sn, is_ln, is_tn, isn_nn, isn_in, isn_sn, isn_ln, isn_tn, hge]), seq_nx (ρ' := [.dat (.list (ns.map PyData.int)), .dat (.int k), .dat (.int ((k : Int) * k * 7919 + 5))]) (by simp only [runM, mkEnv, List.replicate, List.cons_append, List.nil_append, sSeq, sIf, sRet, sAsg, sAsgN, sDrop, sSkip_ap, eBin_ap, eUn_ap, eVarD_0, eVarD_s, eVar_0d, eVar_0o, eVar_0b, eVar_s, eCall_0, eCall_1, eCall_2, eCall_3, eCall_4, bLen_l, bLen_t, bind_ok, bMin_ii, bMax_ii, dAdd_ii, dSub_ii, dLt_ii, dLe_ii, dGt_ii, dGe_ii, dEq_ii, dNe_ii, dEq_ss, dNe_ss, dEq_bb, List.length_map, decide_true, decide_false, eC_ap, set_0, set_s, eNot, eAnd, eOr, eIf, eIsi_ap, isT_n, isT_b, isT_i, isT_s, isT_l, isT_t, gN_ap, Bool.not_true, Bool.not_false, beq_self_eq_true, Bool.or_self, Bool.or_false, Bool.false_or, Bool.or_true, Bool.true_or, String.reduceBEq, Int.reduceLT, Int.reduceLE, Int.reduceEq, eTup_0, eTup_1, eTup_2, eTup_3, eLst_0, eLst_1, eLst_2, eLst_3, eLst_4, bTuple_l, bTuple_t, bList_l, bList_t, dNeg_i, bind_ex, len0, len1, len2, len3, len4, is_nn, is_in, is_sn, is_ln, is_tn, isn_nn, isn_in, isn_sn, isn_ln, isn_tn, m1, m2]), hN]
      simp only [runM, mkEnv, List.replicate, List.cons_append, List.nil_append, sSeq, sIf, sRet, sAsg, sAsgN, sDrop, sSkip_ap, eBin_ap, eUn_ap, eVarD_0, eVarD_s, eVar_0d, eVar_0o, eVar_0b, eVar_s, eCall_0, eCall_1, eCall_2, eCall_3, eCall_4, bLen_l, bLen_t, bind_ok, bMin_ii, bMax_ii, dAdd_ii, dSub_ii, dLt_ii, dLe_ii, dGt_ii, dGe_ii, dEq_ii, dNe_ii, dEq_ss, dNe_ss, dEq_bb, List.length_map, decide_true, decide_false, eC_ap, set_0, set_s, eNot, eAnd, eOr, eIf, eIsi_ap, isT_n, isT_b, isT_i, isT_s, isT_l, isT_t, gN_ap, Bool.not_true, Bool.not_false, beq_self_eq_true, Bool.or_self, Bool.or_false, Bool.false_or, Bool.or_true, Bool.true_or, String.reduceBEq, Int.reduceLT, Int.reduceLE, Int.reduceEq, eTup_0, eTup_1, eTup_2, eTup_3, eLst_0, eLst_1, eLst_2, eLst_3, eLst_4, bTuple_l, bTuple_t, bList_l, bList_t, dNeg_i, bind_ex, len0, len1, len2, len3, len4, is_nn, is_in, is_sn, is_ln, is_tn, isn_nn, isn_in, isn_sn, isn_ln, isn_tn, m5, dMod_ok hQ, m6, hp, dMod_ok hM]
    simp only [m__law_cell, runM, mkEnv, List.replicate, List.cons_append, List.nil_append, e]
/-- the cells as a function -/
theorem cell_fn {ns : List Int} (hb : ∀ z ∈ ns, Builtin.Int.intBits z ≤ 1048576) : ∃ f : Nat → Int, ∀ k : Nat, k < 1048576 → m__law_cell [.list (ns.map PyData.int), .int (k : Int)] = .ok (.int (f k)) ∧ 0 ≤ f k ∧ f k < 10 ^ 40 := by
  refine ⟨fun k => if h : k < 1048576 then Classical.choose (cell_ok hb k h) else 0, fun k hk => ?_⟩
  simp only [hk, dif_pos]
  exact Classical.choose_spec (cell_ok hb k hk)
/-- the cells from a on, up to b -/
theorem cells_ok {L : D} {cell : Nat → Int} (hc : ∀ k : Nat, k < 1048576 → m__law_cell [L, .int (k : Int)] = .ok (.int (cell k)) ∧ 0 ≤ cell k ∧ cell k < 10 ^ 40) {mi : DL.Env → AR} {ρ : DL.Env} {j : Nat} (a b : Nat) (hb : b ≤ 90000) (hi : mi ρ = .ok (rangeD (a : Int) (b : Int)))
    (h0 : ∀ d, eVarD 0 ((wipeD ρ [j]).set j (.dat d)) = .ok L) (h1 : ∀ d, eVarD j ((wipeD ρ [j]).set j (.dat d)) = .ok d) :
    eLc mi (gN j) (eC (.bool true)) (eCall m__law_cell [(eVarD 0), (eVarD j)]) [j] ρ = .ok (.list (((List.range (b - a)).map fun i => cell (a + i)).map PyData.int)) := by
  rw [List.map_map]
  rw [rangeD_nat] at hi
  refine lc_map _ _ hi ?_ (by simp only [List.length_range]; exact sz_le (by omega))
  intro k hk
  rw [List.mem_range] at hk
  exact ⟨_, rfl, rfl, by rw [eCall_2, h0, h1, bind_ok, bind_ok, (hc (a + k) (by omega)).1]; rfl⟩
theorem cells_in {L : D} {cell : Nat → Int} (hc : ∀ k : Nat, k < 1048576 → m__law_cell [L, .int (k : Int)] = .ok (.int (cell k)) ∧ 0 ≤ cell k ∧ cell k < 10 ^ 40) (a b : Nat) (hb : b ≤ 90000) : ∀ c ∈ cell 0 :: (List.range (b - a)).map (fun i => cell (a + i)), 0 ≤ c ∧ c < 2 ^ 200 := by
  intro c hm
  rcases List.mem_cons.mp hm with rfl | hm
  · obtain ⟨_, h1, h2⟩ := hc 0 (by decide)
    exact ⟨h1, by omega⟩
  · obtain ⟨k, hk, rfl⟩ := List.mem_map.mp hm
    rw [List.mem_range] at hk
    obtain ⟨_, h1, h2⟩ := hc (a + k) (by omega)
    exact ⟨h1, by omega⟩
end Sb

namespace Sb
open PySem PySem.Spec L2 Evl DL
theorem lcells_ok {L : D} {cell : Nat → Int} {n : Nat} (hL : bLen [L] = .ok (.int (n : Int))) (hn : n ≤ 90000) (hc : ∀ k : Nat, k < 1048576 → m__law_cell [L, .int (k : Int)] = .ok (.int (cell k)) ∧ 0 ≤ cell k ∧ cell k < 10 ^ 40) (a b : Nat) (ha : a ≤ 90000) (hb : b ≤ 90000) :
    m__law_cells [L, .int (a : Int), .int (b : Int)] = .ok (.list (((List.range (min b n - a)).map fun i => cell (a + i)).map PyData.int)) := by
  have e : eLc (iR2 (eVarD 1) (eCall bMin [(eVarD 2), (eCall bLen [(eVarD 0)])])) (gN 3) (eC (.bool true)) (eCall m__law_cell [(eVarD 0), (eVarD 3)]) [3] [.dat L, .dat (.int (a : Int)), .dat (.int (b : Int)), .un] = .ok (.list (((List.range (min b n - a)).map fun i => cell (a + i)).map PyData.int)) := by
    have hi : iR2 (eVarD 1) (eCall bMin [(eVarD 2), (eCall bLen [(eVarD 0)])]) [.dat L, .dat (.int (a : Int)), .dat (.int (b : Int)), .un] = .ok (rangeD (a : Int) ((min b n : Nat) : Int)) := by
      refine iR2_w rfl ?_ (by omega) (by omega) (by omega) (by omega)
      simp only [runM, mkEnv, List.replicate, List.cons_append, List.nil_append, sSeq, sIf, sRet, sAsg, sAsgN, sDrop, sSkip_ap, eBin_ap, eUn_ap, eVarD_0, eVarD_s, eVar_0d, eVar_0o, eVar_0b, eVar_s, eCall_0, eCall_1, eCall_2, eCall_3, eCall_4, bLen_l, bLen_t, bind_ok, bMin_ii, bMax_ii, dAdd_ii, dSub_ii, dLt_ii, dLe_ii, dGt_ii, dGe_ii, dEq_ii, dNe_ii, dEq_ss, dNe_ss, dEq_bb, List.length_map, decide_true, decide_false, eC_ap, set_0, set_s, eNot, eAnd, eOr, eIf, eIsi_ap, isT_n, isT_b, isT_i, isT_s, isT_l, isT_t, gN_ap, Bool.not_true, Bool.not_false, beq_self_eq_true, Bool.or_self, Bool.or_false, Bool.false_or, Bool.or_true, Bool.true_or, String.reduceBEq, Int.reduceLT, Int.reduceLE, Int.reduceEq, eTup_0, eTup_1, eTup_2, eTup_3, eLst_0, eLst_1, eLst_2, eLst_3, eLst_4, bTuple_l, bTuple_t, bList_l, bList_t, dNeg_i, bind_ex, len0, len1, len2, len3, len4, is_nn, is_in, is_sn, is_ln, is_tn, isn_nn, isn_in, isn_sn, isn_ln, isn_tn, hL]
      congr 2
      omega
    rw [List.map_map]
    rw [rangeD_nat] at hi
    refine lc_map _ _ hi ?_ (by simp only [List.length_range]; exact sz_le (by omega))
    intro k hk
    rw [List.mem_range] at hk
    exact ⟨_, rfl, rfl, by rw [eCall_2]; simp only [wipeD, runM, mkEnv, List.replicate, List.cons_append, List.nil_append, sSeq, sIf, sRet, sAsg, sAsgN, sDrop, sSkip_ap, eBin_ap, eUn_ap, eVarD_0, eVarD_s, eVar_0d, eVar_0o, eVar_0b, eVar_s, eCall_0, eCall_1, eCall_2, eCall_3, eCall_4, bLen_l, bLen_t, bind_ok, bMin_ii, bMax_ii, dAdd_ii, dSub_ii, dLt_ii, dLe_ii, dGt_ii, dGe_ii, dEq_ii, dNe_ii, dEq_ss, dNe_ss, dEq_bb, List.length_map, decide_true, decide_false, eC_ap, set_0, set_s, eNot, eAnd, eOr, eIf, eIsi_ap, isT_n, isT_b, isT_i, isT_s, isT_l, isT_t, gN_ap, Bool.not_true, Bool.not_false, beq_self_eq_true, Bool.or_self, Bool.or_false, Bool.false_or, Bool.or_true, Bool.true_or, String.reduceBEq, Int.reduceLT, Int.reduceLE, Int.reduceEq, eTup_0, eTup_1, eTup_2, eTup_3, eLst_0, eLst_1, eLst_2, eLst_3, eLst_4, bTuple_l, bTuple_t, bList_l, bList_t, dNeg_i, bind_ex, len0, len1, len2, len3, len4, is_nn, is_in, is_sn, is_ln, is_tn, isn_nn, isn_in, isn_sn, isn_ln, isn_tn, (hc (a + k) (by omega)).1]; rfl⟩
  simp only [m__law_cells, b__law_cells, runM, mkEnv, List.replicate, List.cons_append, List.nil_append, sSeq, sIf, sRet, sAsg, sAsgN, sDrop, sSkip_ap, eBin_ap, eUn_ap, eVarD_0, eVarD_s, eVar_0d, eVar_0o, eVar_0b, eVar_s, eCall_0, eCall_1, eCall_2, eCall_3, eCall_4, bLen_l, bLen_t, bind_ok, bMin_ii, bMax_ii, dAdd_ii, dSub_ii, dLt_ii, dLe_ii, dGt_ii, dGe_ii, dEq_ii, dNe_ii, dEq_ss, dNe_ss, dEq_bb, List.length_map, decide_true, decide_false, eC_ap, set_0, set_s, eNot, eAnd, eOr, eIf, eIsi_ap, isT_n, isT_b, isT_i, isT_s, isT_l, isT_t, gN_ap, Bool.not_true, Bool.not_false, beq_self_eq_true, Bool.or_self, Bool.or_false, Bool.false_or, Bool.or_true, Bool.true_or, String.reduceBEq, Int.reduceLT, Int.reduceLE, Int.reduceEq, eTup_0, eTup_1, eTup_2, eTup_3, eLst_0, eLst_1, eLst_2, eLst_3, eLst_4, bTuple_l, bTuple_t, bList_l, bList_t, dNeg_i, bind_ex, len0, len1, len2, len3, len4, is_nn, is_in, is_sn, is_ln, is_tn, isn_nn, isn_in, isn_sn, isn_ln, isn_tn, e]
end Sb

namespace Sb
open PySem PySem.Spec L2 Evl DL
theorem llengths_ok (rs : List Rule) (g : Good rs) (f : Fits MOST rs) (hl : rs.length ≤ 90000) : m__law_lengths [rulesD rs] = .ok (natsD (sizes rs)) := lenB_ok (m := m__law_size) lsize_ok rs g f hl
end Sb

namespace Sb
open PySem PySem.Spec L2 Evl DL
theorem deeper_ok (rs : List Rule) (g : Good rs) (f : Fits MOST rs) (h1 : Start rs) (hl : rs.length ≤ 900) (c : Int) :
    ∃ qs, m__law_deeper [rulesD rs, .int c] = .ok (rulesD (rs ++ qs)) ∧ Good (rs ++ qs) ∧ Fits MOST (rs ++ qs) ∧ rs.length + qs.length ≤ 980 := by
  have hp : 1 ≤ rs.length := by
    obtain ⟨s, t, tl, rfl⟩ := h1
    simp
  have m24 := dMod_ok (i := c) (j := 24) (by decide)
  have d24 := dDiv_ok (i := c) (j := 24) (by decide) 5 (by decide)
  have m2 := dMod_ok (i := c / 24) (j := 2) (by decide)
  have p59 : dPow (.int 2) (.int 59) = .ok (.int (2 ^ 59)) := dPow_ok (by decide) (by decide) (by decide)
  have len := rulesD_len rs
  have ll := llengths_ok rs g f (by omega)
  have last := natsD_last (ns := sizes rs) (by rw [sizes_len]; exact hp)
  rw [sizes_len] at last
  by_cases h3 : c % 24 = 3
  · have n0 : ((980 : Int) - (rs.length : Int)) = ((980 - rs.length : Nat) : Int) := by omega
    have lc : ∀ (me : EM) (F : Nat → Rule), (∀ k : Nat, me [.dat (rulesD rs), .dat (.int c), .dat (.int (rs.length : Int)), .dat (.int (k : Int))] = .ok (ruleD (F k))) →
        eLc (iR1 (eBin dSub (eC (.int 980)) (eVarD 2))) (gN 3) (eC (.bool true)) me [3] [.dat (rulesD rs), .dat (.int c), .dat (.int (rs.length : Int)), .un] = .ok (.list (((List.range (980 - rs.length)).map F).map ruleD)) := fun me F hm => by
      rw [List.map_map]
      refine lc_map (fun (i : Nat) => .int (i : Int)) _ ?_ ?_ (by simp only [List.length_range]; exact sz_le (by omega))
      · rw [← rangeD_0]
        refine iR1_ok ?_ (inR_of (by omega) (by omega))
        simp only [runM, mkEnv, List.replicate, List.cons_append, List.nil_append, sSeq, sIf, sRet, sAsg, sAsgN, sDrop, sSkip_ap, eBin_ap, eUn_ap, eVarD_0, eVarD_s, eVar_0d, eVar_0o, eVar_0b, eVar_s, eCall_0, eCall_1, eCall_2, eCall_3, eCall_4, bLen_l, bLen_t, bind_ok, bMin_ii, bMax_ii, dAdd_ii, dSub_ii, dLt_ii, dLe_ii, dGt_ii, dGe_ii, dEq_ii, dNe_ii, dEq_ss, dNe_ss, dEq_bb, List.length_map, decide_true, decide_false, eC_ap, set_0, set_s, eNot, eAnd, eOr, eIf, eIsi_ap, isT_n, isT_b, isT_i, isT_s, isT_l, isT_t, gN_ap, Bool.not_true, Bool.not_false, beq_self_eq_true, Bool.or_self, Bool.or_false, Bool.false_or, Bool.or_true, Bool.true_or, String.reduceBEq, Int.reduceLT, Int.reduceLE, Int.reduceEq, eTup_0, eTup_1, eTup_2, eTup_3, eLst_0, eLst_1, eLst_2, eLst_3, eLst_4, bTuple_l, bTuple_t, bList_l, bList_t, dNeg_i, bind_ex, len0, len1, len2, len3, len4, is_nn, is_in, is_sn, is_ln, is_tn, isn_nn, isn_in, isn_sn, isn_ln, isn_tn]
        rw [n0]
      · intro k hk
        exact ⟨_, rfl, rfl, hm k⟩
    by_cases hb : c / 24 % 2 = 1 ∧ (sizes rs).getD (rs.length - 1) 0 < 2 ^ 59
    · obtain ⟨g2, f2, _⟩ := chain_good g f h1 hb.2 (980 - rs.length) (by omega)
      refine ⟨_, ?_, g2, f2, by simp only [List.length_map, List.length_range]; omega⟩
      have e := lc (eTup [(eC (.str "join")), (eC (.int 0)), (eBin dAdd (eBin dSub (eVarD 2) (eC (.int 1))) (eVarD 3))]) (fun k => Rule.join 0 (rs.length - 1 + k)) (fun k => by
        have ek : (rs.length : Int) - 1 + (k : Int) = ((rs.length - 1 + k : Nat) : Int) := by omega
        simp only [runM, mkEnv, List.replicate, List.cons_append, List.nil_append, sSeq, sIf, sRet, sAsg, sAsgN, sDrop, sSkip_ap, eBin_ap, eUn_ap, eVarD_0, eVarD_s, eVar_0d, eVar_0o, eVar_0b, eVar_s, eCall_0, eCall_1, eCall_2, eCall_3, eCall_4, bLen_l, bLen_t, bind_ok, bMin_ii, bMax_ii, dAdd_ii, dSub_ii, dLt_ii, dLe_ii, dGt_ii, dGe_ii, dEq_ii, dNe_ii, dEq_ss, dNe_ss, dEq_bb, List.length_map, decide_true, decide_false, eC_ap, set_0, set_s, eNot, eAnd, eOr, eIf, eIsi_ap, isT_n, isT_b, isT_i, isT_s, isT_l, isT_t, gN_ap, Bool.not_true, Bool.not_false, beq_self_eq_true, Bool.or_self, Bool.or_false, Bool.false_or, Bool.or_true, Bool.true_or, String.reduceBEq, Int.reduceLT, Int.reduceLE, Int.reduceEq, eTup_0, eTup_1, eTup_2, eTup_3, eLst_0, eLst_1, eLst_2, eLst_3, eLst_4, bTuple_l, bTuple_t, bList_l, bList_t, dNeg_i, bind_ex, len0, len1, len2, len3, len4, is_nn, is_in, is_sn, is_ln, is_tn, isn_nn, isn_in, isn_sn, isn_ln, isn_tn, ek]
        rfl)
      have hlt : (((sizes rs).getD (rs.length - 1) 0 : Nat) : Int) < 2 ^ 59 := by have := hb.2; omega
      have ra := rulesD_add rs ((List.range (980 - rs.length)).map fun k => Rule.join 0 (rs.length - 1 + k)) (by simp only [List.length_map, List.length_range]; omega)
      simp only [m__law_deeper, b__law_deeper, runM, mkEnv, List.replicate, List.cons_append, List.nil_append, sSeq, sIf, sRet, sAsg, sAsgN, sDrop, sSkip_ap, eBin_ap, eUn_ap, eVarD_0, eVarD_s, eVar_0d, eVar_0o, eVar_0b, eVar_s, eCall_0, eCall_1, eCall_2, eCall_3, eCall_4, bLen_l, bLen_t, bind_ok, bMin_ii, bMax_ii, dAdd_ii, dSub_ii, dLt_ii, dLe_ii, dGt_ii, dGe_ii, dEq_ii, dNe_ii, dEq_ss, dNe_ss, dEq_bb, List.length_map, decide_true, decide_false, eC_ap, set_0, set_s, eNot, eAnd, eOr, eIf, eIsi_ap, isT_n, isT_b, isT_i, isT_s, isT_l, isT_t, gN_ap, Bool.not_true, Bool.not_false, beq_self_eq_true, Bool.or_self, Bool.or_false, Bool.false_or, Bool.or_true, Bool.true_or, String.reduceBEq, Int.reduceLT, Int.reduceLE, Int.reduceEq, eTup_0, eTup_1, eTup_2, eTup_3, eLst_0, eLst_1, eLst_2, eLst_3, eLst_4, bTuple_l, bTuple_t, bList_l, bList_t, dNeg_i, bind_ex, len0, len1, len2, len3, len4, is_nn, is_in, is_sn, is_ln, is_tn, isn_nn, isn_in, isn_sn, isn_ln, isn_tn, m24, h3, len, d24, m2, hb.1, ll, last, p59, hlt, e, ra]
    · obtain ⟨g2, f2⟩ := echo_good g f hp (980 - rs.length)
      refine ⟨_, ?_, g2, f2, by simp only [List.length_map, List.length_range]; omega⟩
      have e := lc (eTup [(eC (.str "times")), (eBin dAdd (eBin dSub (eVarD 2) (eC (.int 1))) (eVarD 3)), (eC (.int 1))]) (fun k => Rule.times (rs.length - 1 + k) 1) (fun k => by
        have ek : (rs.length : Int) - 1 + (k : Int) = ((rs.length - 1 + k : Nat) : Int) := by omega
        simp only [runM, mkEnv, List.replicate, List.cons_append, List.nil_append, sSeq, sIf, sRet, sAsg, sAsgN, sDrop, sSkip_ap, eBin_ap, eUn_ap, eVarD_0, eVarD_s, eVar_0d, eVar_0o, eVar_0b, eVar_s, eCall_0, eCall_1, eCall_2, eCall_3, eCall_4, bLen_l, bLen_t, bind_ok, bMin_ii, bMax_ii, dAdd_ii, dSub_ii, dLt_ii, dLe_ii, dGt_ii, dGe_ii, dEq_ii, dNe_ii, dEq_ss, dNe_ss, dEq_bb, List.length_map, decide_true, decide_false, eC_ap, set_0, set_s, eNot, eAnd, eOr, eIf, eIsi_ap, isT_n, isT_b, isT_i, isT_s, isT_l, isT_t, gN_ap, Bool.not_true, Bool.not_false, beq_self_eq_true, Bool.or_self, Bool.or_false, Bool.false_or, Bool.or_true, Bool.true_or, String.reduceBEq, Int.reduceLT, Int.reduceLE, Int.reduceEq, eTup_0, eTup_1, eTup_2, eTup_3, eLst_0, eLst_1, eLst_2, eLst_3, eLst_4, bTuple_l, bTuple_t, bList_l, bList_t, dNeg_i, bind_ex, len0, len1, len2, len3, len4, is_nn, is_in, is_sn, is_ln, is_tn, isn_nn, isn_in, isn_sn, isn_ln, isn_tn, ek]
        rfl)
      have ra := rulesD_add rs ((List.range (980 - rs.length)).map fun k => Rule.times (rs.length - 1 + k) 1) (by simp only [List.length_map, List.length_range]; omega)
      by_cases h4 : c / 24 % 2 = 1
      · have hlt : ¬ (((sizes rs).getD (rs.length - 1) 0 : Nat) : Int) < 2 ^ 59 := by
          intro z
          exact hb ⟨h4, by omega⟩
        simp only [m__law_deeper, b__law_deeper, runM, mkEnv, List.replicate, List.cons_append, List.nil_append, sSeq, sIf, sRet, sAsg, sAsgN, sDrop, sSkip_ap, eBin_ap, eUn_ap, eVarD_0, eVarD_s, eVar_0d, eVar_0o, eVar_0b, eVar_s, eCall_0, eCall_1, eCall_2, eCall_3, eCall_4, bLen_l, bLen_t, bind_ok, bMin_ii, bMax_ii, dAdd_ii, dSub_ii, dLt_ii, dLe_ii, dGt_ii, dGe_ii, dEq_ii, dNe_ii, dEq_ss, dNe_ss, dEq_bb, List.length_map, decide_true, decide_false, eC_ap, set_0, set_s, eNot, eAnd, eOr, eIf, eIsi_ap, isT_n, isT_b, isT_i, isT_s, isT_l, isT_t, gN_ap, Bool.not_true, Bool.not_false, beq_self_eq_true, Bool.or_self, Bool.or_false, Bool.false_or, Bool.or_true, Bool.true_or, String.reduceBEq, Int.reduceLT, Int.reduceLE, Int.reduceEq, eTup_0, eTup_1, eTup_2, eTup_3, eLst_0, eLst_1, eLst_2, eLst_3, eLst_4, bTuple_l, bTuple_t, bList_l, bList_t, dNeg_i, bind_ex, len0, len1, len2, len3, len4, is_nn, is_in, is_sn, is_ln, is_tn, isn_nn, isn_in, isn_sn, isn_ln, isn_tn, m24, h3, len, d24, m2, h4, ll, last, p59, hlt, e, ra]
      · simp only [m__law_deeper, b__law_deeper, runM, mkEnv, List.replicate, List.cons_append, List.nil_append, sSeq, sIf, sRet, sAsg, sAsgN, sDrop, sSkip_ap, eBin_ap, eUn_ap, eVarD_0, eVarD_s, eVar_0d, eVar_0o, eVar_0b, eVar_s, eCall_0, eCall_1, eCall_2, eCall_3, eCall_4, bLen_l, bLen_t, bind_ok, bMin_ii, bMax_ii, dAdd_ii, dSub_ii, dLt_ii, dLe_ii, dGt_ii, dGe_ii, dEq_ii, dNe_ii, dEq_ss, dNe_ss, dEq_bb, List.length_map, decide_true, decide_false, eC_ap, set_0, set_s, eNot, eAnd, eOr, eIf, eIsi_ap, isT_n, isT_b, isT_i, isT_s, isT_l, isT_t, gN_ap, Bool.not_true, Bool.not_false, beq_self_eq_true, Bool.or_self, Bool.or_false, Bool.false_or, Bool.or_true, Bool.true_or, String.reduceBEq, Int.reduceLT, Int.reduceLE, Int.reduceEq, eTup_0, eTup_1, eTup_2, eTup_3, eLst_0, eLst_1, eLst_2, eLst_3, eLst_4, bTuple_l, bTuple_t, bList_l, bList_t, dNeg_i, bind_ex, len0, len1, len2, len3, len4, is_nn, is_in, is_sn, is_ln, is_tn, isn_nn, isn_in, isn_sn, isn_ln, isn_tn, m24, h3, len, d24, m2, h4, e, ra]
  · refine ⟨[], ?_, by simpa using g, by simpa using f, by simp; omega⟩
    rw [List.append_nil]
    simp only [m__law_deeper, b__law_deeper, runM, mkEnv, List.replicate, List.cons_append, List.nil_append, sSeq, sIf, sRet, sAsg, sAsgN, sDrop, sSkip_ap, eBin_ap, eUn_ap, eVarD_0, eVarD_s, eVar_0d, eVar_0o, eVar_0b, eVar_s, eCall_0, eCall_1, eCall_2, eCall_3, eCall_4, bLen_l, bLen_t, bind_ok, bMin_ii, bMax_ii, dAdd_ii, dSub_ii, dLt_ii, dLe_ii, dGt_ii, dGe_ii, dEq_ii, dNe_ii, dEq_ss, dNe_ss, dEq_bb, List.length_map, decide_true, decide_false, eC_ap, set_0, set_s, eNot, eAnd, eOr, eIf, eIsi_ap, isT_n, isT_b, isT_i, isT_s, isT_l, isT_t, gN_ap, Bool.not_true, Bool.not_false, beq_self_eq_true, Bool.or_self, Bool.or_false, Bool.false_or, Bool.or_true, Bool.true_or, String.reduceBEq, Int.reduceLT, Int.reduceLE, Int.reduceEq, eTup_0, eTup_1, eTup_2, eTup_3, eLst_0, eLst_1, eLst_2, eLst_3, eLst_4, bTuple_l, bTuple_t, bList_l, bList_t, dNeg_i, bind_ex, len0, len1, len2, len3, len4, is_nn, is_in, is_sn, is_ln, is_tn, isn_nn, isn_in, isn_sn, isn_ln, isn_tn, m24, h3]
end Sb

namespace Sb
open PySem PySem.Spec L2 Evl DL
theorem named_none (rs : List Rule) : m_named [rulesD rs, .none] = .ok .none := by
  simp only [m_named, b_named, runM, mkEnv, List.replicate, List.cons_append, List.nil_append, sSeq, sIf, sRet, sAsg, sAsgN, sDrop, sSkip_ap, eBin_ap, eUn_ap, eVarD_0, eVarD_s, eVar_0d, eVar_0o, eVar_0b, eVar_s, eCall_0, eCall_1, eCall_2, eCall_3, eCall_4, bLen_l, bLen_t, bind_ok, bMin_ii, bMax_ii, dAdd_ii, dSub_ii, dLt_ii, dLe_ii, dGt_ii, dGe_ii, dEq_ii, dNe_ii, dEq_ss, dNe_ss, dEq_bb, List.length_map, decide_true, decide_false, eC_ap, set_0, set_s, eNot, eAnd, eOr, eIf, eIsi_ap, isT_n, isT_b, isT_i, isT_s, isT_l, isT_t, gN_ap, Bool.not_true, Bool.not_false, beq_self_eq_true, Bool.or_self, Bool.or_false, Bool.false_or, Bool.or_true, Bool.true_or, String.reduceBEq, Int.reduceLT, Int.reduceLE, Int.reduceEq, eTup_0, eTup_1, eTup_2, eTup_3, eLst_0, eLst_1, eLst_2, eLst_3, eLst_4, bTuple_l, bTuple_t, bList_l, bList_t, dNeg_i, bind_ex, len0, len1, len2, len3, len4, is_nn, is_in, is_sn, is_ln, is_tn, isn_nn, isn_in, isn_sn, isn_ln, isn_tn, dIsNot, dIs]
theorem named_in (rs : List Rule) (k : Nat) (h : k < rs.length) : m_named [rulesD rs, .int (k : Int)] = .ok .none := by
  simp only [m_named, b_named, runM, mkEnv, List.replicate, List.cons_append, List.nil_append, sSeq, sIf, sRet, sAsg, sAsgN, sDrop, sSkip_ap, eBin_ap, eUn_ap, eVarD_0, eVarD_s, eVar_0d, eVar_0o, eVar_0b, eVar_s, eCall_0, eCall_1, eCall_2, eCall_3, eCall_4, bLen_l, bLen_t, bind_ok, bMin_ii, bMax_ii, dAdd_ii, dSub_ii, dLt_ii, dLe_ii, dGt_ii, dGe_ii, dEq_ii, dNe_ii, dEq_ss, dNe_ss, dEq_bb, List.length_map, decide_true, decide_false, eC_ap, set_0, set_s, eNot, eAnd, eOr, eIf, eIsi_ap, isT_n, isT_b, isT_i, isT_s, isT_l, isT_t, gN_ap, Bool.not_true, Bool.not_false, beq_self_eq_true, Bool.or_self, Bool.or_false, Bool.false_or, Bool.or_true, Bool.true_or, String.reduceBEq, Int.reduceLT, Int.reduceLE, Int.reduceEq, eTup_0, eTup_1, eTup_2, eTup_3, eLst_0, eLst_1, eLst_2, eLst_3, eLst_4, bTuple_l, bTuple_t, bList_l, bList_t, dNeg_i, bind_ex, len0, len1, len2, len3, len4, is_nn, is_in, is_sn, is_ln, is_tn, isn_nn, isn_in, isn_sn, isn_ln, isn_tn, dIsNot, dIs, eChain, rulesD_len, show (0 : Int) ≤ (k : Int) by omega, show (k : Int) < (rs.length : Int) by omega]
theorem named_ex (rs : List Rule) (z : Int) (h : z < 0 ∨ (rs.length : Int) ≤ z) : m_named [rulesD rs, .int z] = .ex "NoName" := by
  by_cases h0 : 0 ≤ z
  · have h1 : ¬ z < (rs.length : Int) := by omega
    simp only [m_named, b_named, runM, mkEnv, List.replicate, List.cons_append, List.nil_append, sSeq, sIf, sRet, sAsg, sAsgN, sDrop, sSkip_ap, eBin_ap, eUn_ap, eVarD_0, eVarD_s, eVar_0d, eVar_0o, eVar_0b, eVar_s, eCall_0, eCall_1, eCall_2, eCall_3, eCall_4, bLen_l, bLen_t, bind_ok, bMin_ii, bMax_ii, dAdd_ii, dSub_ii, dLt_ii, dLe_ii, dGt_ii, dGe_ii, dEq_ii, dNe_ii, dEq_ss, dNe_ss, dEq_bb, List.length_map, decide_true, decide_false, eC_ap, set_0, set_s, eNot, eAnd, eOr, eIf, eIsi_ap, isT_n, isT_b, isT_i, isT_s, isT_l, isT_t, gN_ap, Bool.not_true, Bool.not_false, beq_self_eq_true, Bool.or_self, Bool.or_false, Bool.false_or, Bool.or_true, Bool.true_or, String.reduceBEq, Int.reduceLT, Int.reduceLE, Int.reduceEq, eTup_0, eTup_1, eTup_2, eTup_3, eLst_0, eLst_1, eLst_2, eLst_3, eLst_4, bTuple_l, bTuple_t, bList_l, bList_t, dNeg_i, bind_ex, len0, len1, len2, len3, len4, is_nn, is_in, is_sn, is_ln, is_tn, isn_nn, isn_in, isn_sn, isn_ln, isn_tn, dIsNot, dIs, eChain, rulesD_len, h0, h1]
    rfl
  · simp only [m_named, b_named, runM, mkEnv, List.replicate, List.cons_append, List.nil_append, sSeq, sIf, sRet, sAsg, sAsgN, sDrop, sSkip_ap, eBin_ap, eUn_ap, eVarD_0, eVarD_s, eVar_0d, eVar_0o, eVar_0b, eVar_s, eCall_0, eCall_1, eCall_2, eCall_3, eCall_4, bLen_l, bLen_t, bind_ok, bMin_ii, bMax_ii, dAdd_ii, dSub_ii, dLt_ii, dLe_ii, dGt_ii, dGe_ii, dEq_ii, dNe_ii, dEq_ss, dNe_ss, dEq_bb, List.length_map, decide_true, decide_false, eC_ap, set_0, set_s, eNot, eAnd, eOr, eIf, eIsi_ap, isT_n, isT_b, isT_i, isT_s, isT_l, isT_t, gN_ap, Bool.not_true, Bool.not_false, beq_self_eq_true, Bool.or_self, Bool.or_false, Bool.false_or, Bool.or_true, Bool.true_or, String.reduceBEq, Int.reduceLT, Int.reduceLE, Int.reduceEq, eTup_0, eTup_1, eTup_2, eTup_3, eLst_0, eLst_1, eLst_2, eLst_3, eLst_4, bTuple_l, bTuple_t, bList_l, bList_t, dNeg_i, bind_ex, len0, len1, len2, len3, len4, is_nn, is_in, is_sn, is_ln, is_tn, isn_nn, isn_in, isn_sn, isn_ln, isn_tn, dIsNot, dIs, eChain, h0]
    rfl
end Sb

namespace Sb
open PySem PySem.Spec L2 Evl DL
theorem named_n (rs : List Rule) (n : Option Nat) (h : NameOk rs n) : m_named [rulesD rs, nameD n] = .ok .none := by
  cases n with
  | none => exact named_none rs
  | some k => exact named_in rs k (h k rfl)
end Sb

namespace Sb
open PySem PySem.Spec L2 Evl DL
theorem parts_ok (r : Rule) : m_parts_of [ruleD r] = .ok (natsD r.parts) := by
  cases r with
  | sign c => simp only [m_parts_of, b_parts_of, ruleD, runM, mkEnv, List.replicate, List.cons_append, List.nil_append, sSeq, sIf, sRet, sAsg, sAsgN, sDrop, sSkip_ap, eBin_ap, eUn_ap, eVarD_0, eVarD_s, eVar_0d, eVar_0o, eVar_0b, eVar_s, eCall_0, eCall_1, eCall_2, eCall_3, eCall_4, bLen_l, bLen_t, bind_ok, bMin_ii, bMax_ii, dAdd_ii, dSub_ii, dLt_ii, dLe_ii, dGt_ii, dGe_ii, dEq_ii, dNe_ii, dEq_ss, dNe_ss, dEq_bb, List.length_map, decide_true, decide_false, eC_ap, set_0, set_s, eNot, eAnd, eOr, eIf, eIsi_ap, isT_n, isT_b, isT_i, isT_s, isT_l, isT_t, gN_ap, Bool.not_true, Bool.not_false, beq_self_eq_true, Bool.or_self, Bool.or_false, Bool.false_or, Bool.or_true, Bool.true_or, String.reduceBEq, Int.reduceLT, Int.reduceLE, Int.reduceEq, eTup_0, eTup_1, eTup_2, eTup_3, eLst_0, eLst_1, eLst_2, eLst_3, eLst_4, bTuple_l, bTuple_t, bList_l, bList_t, dNeg_i, bind_ex, len0, len1, len2, len3, len4, is_nn, is_in, is_sn, is_ln, is_tn, isn_nn, isn_in, isn_sn, isn_ln, isn_tn, dIx_t0]; rfl
  | join a b => simp only [m_parts_of, b_parts_of, ruleD, runM, mkEnv, List.replicate, List.cons_append, List.nil_append, sSeq, sIf, sRet, sAsg, sAsgN, sDrop, sSkip_ap, eBin_ap, eUn_ap, eVarD_0, eVarD_s, eVar_0d, eVar_0o, eVar_0b, eVar_s, eCall_0, eCall_1, eCall_2, eCall_3, eCall_4, bLen_l, bLen_t, bind_ok, bMin_ii, bMax_ii, dAdd_ii, dSub_ii, dLt_ii, dLe_ii, dGt_ii, dGe_ii, dEq_ii, dNe_ii, dEq_ss, dNe_ss, dEq_bb, List.length_map, decide_true, decide_false, eC_ap, set_0, set_s, eNot, eAnd, eOr, eIf, eIsi_ap, isT_n, isT_b, isT_i, isT_s, isT_l, isT_t, gN_ap, Bool.not_true, Bool.not_false, beq_self_eq_true, Bool.or_self, Bool.or_false, Bool.false_or, Bool.or_true, Bool.true_or, String.reduceBEq, Int.reduceLT, Int.reduceLE, Int.reduceEq, eTup_0, eTup_1, eTup_2, eTup_3, eLst_0, eLst_1, eLst_2, eLst_3, eLst_4, bTuple_l, bTuple_t, bList_l, bList_t, dNeg_i, bind_ex, len0, len1, len2, len3, len4, is_nn, is_in, is_sn, is_ln, is_tn, isn_nn, isn_in, isn_sn, isn_ln, isn_tn, dIx_t0, dIx_t1, dIx_t2, js]; rfl
  | times a n => simp only [m_parts_of, b_parts_of, ruleD, runM, mkEnv, List.replicate, List.cons_append, List.nil_append, sSeq, sIf, sRet, sAsg, sAsgN, sDrop, sSkip_ap, eBin_ap, eUn_ap, eVarD_0, eVarD_s, eVar_0d, eVar_0o, eVar_0b, eVar_s, eCall_0, eCall_1, eCall_2, eCall_3, eCall_4, bLen_l, bLen_t, bind_ok, bMin_ii, bMax_ii, dAdd_ii, dSub_ii, dLt_ii, dLe_ii, dGt_ii, dGe_ii, dEq_ii, dNe_ii, dEq_ss, dNe_ss, dEq_bb, List.length_map, decide_true, decide_false, eC_ap, set_0, set_s, eNot, eAnd, eOr, eIf, eIsi_ap, isT_n, isT_b, isT_i, isT_s, isT_l, isT_t, gN_ap, Bool.not_true, Bool.not_false, beq_self_eq_true, Bool.or_self, Bool.or_false, Bool.false_or, Bool.or_true, Bool.true_or, String.reduceBEq, Int.reduceLT, Int.reduceLE, Int.reduceEq, eTup_0, eTup_1, eTup_2, eTup_3, eLst_0, eLst_1, eLst_2, eLst_3, eLst_4, bTuple_l, bTuple_t, bList_l, bList_t, dNeg_i, bind_ex, len0, len1, len2, len3, len4, is_nn, is_in, is_sn, is_ln, is_tn, isn_nn, isn_in, isn_sn, isn_ln, isn_tn, dIx_t0, dIx_t1, ts, tj]; rfl
theorem needed_none (rs : List Rule) : m_needed [rulesD rs, .none] = .ok (natsD []) := by
  simp only [m_needed, b_needed, runM, mkEnv, List.replicate, List.cons_append, List.nil_append, sSeq, sIf, sRet, sAsg, sAsgN, sDrop, sSkip_ap, eBin_ap, eUn_ap, eVarD_0, eVarD_s, eVar_0d, eVar_0o, eVar_0b, eVar_s, eCall_0, eCall_1, eCall_2, eCall_3, eCall_4, bLen_l, bLen_t, bind_ok, bMin_ii, bMax_ii, dAdd_ii, dSub_ii, dLt_ii, dLe_ii, dGt_ii, dGe_ii, dEq_ii, dNe_ii, dEq_ss, dNe_ss, dEq_bb, List.length_map, decide_true, decide_false, eC_ap, set_0, set_s, eNot, eAnd, eOr, eIf, eIsi_ap, isT_n, isT_b, isT_i, isT_s, isT_l, isT_t, gN_ap, Bool.not_true, Bool.not_false, beq_self_eq_true, Bool.or_self, Bool.or_false, Bool.false_or, Bool.or_true, Bool.true_or, String.reduceBEq, Int.reduceLT, Int.reduceLE, Int.reduceEq, eTup_0, eTup_1, eTup_2, eTup_3, eLst_0, eLst_1, eLst_2, eLst_3, eLst_4, bTuple_l, bTuple_t, bList_l, bList_t, dNeg_i, bind_ex, len0, len1, len2, len3, len4, is_nn, is_in, is_sn, is_ln, is_tn, isn_nn, isn_in, isn_sn, isn_ln, isn_tn, dIs]
  rfl
/-- the set that grows by some -/
def addAll (S : List Nat) (ps : List Nat) : List Nat := ps.foldl (fun S p => if p ∈ S then S else S ++ [p]) S
theorem addAll_snoc (S ps : List Nat) (p : Nat) : addAll S (ps ++ [p]) = if p ∈ addAll S ps then addAll S ps else addAll S ps ++ [p] := by
  unfold addAll
  rw [List.foldl_append]
  rfl
theorem addAll_mem (S : List Nat) : ∀ (ps : List Nat) (x : Nat), x ∈ addAll S ps ↔ x ∈ S ∨ x ∈ ps := by
  refine snocInd (fun x => by simp [addAll]) fun l a ih x => ?_
  rw [addAll_snoc]
  split
  · rename_i h
    rw [ih, List.mem_append, List.mem_singleton]
    have ha := (ih a).mp h
    constructor
    · rintro (h | h)
      · exact .inl h
      · exact .inr (.inl h)
    · rintro (h | h | h)
      · exact .inl h
      · exact .inr h
      · rw [h]
        exact ha
  · rw [List.mem_append, ih, List.mem_append, or_assoc]
theorem addAll_nd (S : List Nat) (hn : S.Nodup) : ∀ ps : List Nat, (addAll S ps).Nodup := by
  refine snocInd hn fun l a ih => ?_
  rw [addAll_snoc]
  split
  · exact ih
  · rename_i h
    exact List.nodup_append.mpr ⟨ih, by simp, fun x hx b hb => by
      have : b = a := by simpa using hb
      rw [this]
      intro z
      rw [z] at hx
      exact h hx⟩
theorem addAll_len (S : List Nat) : ∀ ps : List Nat, (addAll S ps).length ≤ S.length + ps.length := by
  refine snocInd (by simp [addAll]) fun l a ih => ?_
  rw [addAll_snoc]
  split
  · simp
    omega
  · simp
    omega
theorem seen_sorted (S : List Nat) (s1 : S.Nodup) : ∃ ks, dSortK (.dict (seenD S)) = .ok (natsD ks) ∧ ks.Pairwise (· < ·) ∧ ∀ i, i ∈ ks ↔ i ∈ S := by
  have pm := srt_perm (S.map fun (i : Nat) => (i : Int))
  have so := srt_sorted (S.map fun (i : Nat) => (i : Int))
  have e0 : dSortK (.dict (seenD S)) = .ok (.list ((srt (S.map fun (i : Nat) => (i : Int))).map PyData.int)) := by
    simp only [dSortK, seen_ints]
  obtain ⟨T, hT⟩ : ∃ T, T = srt (S.map fun (i : Nat) => (i : Int)) := ⟨_, rfl⟩
  rw [← hT] at pm so e0
  have mem : ∀ z, z ∈ T ↔ ∃ i ∈ S, (i : Int) = z := fun z => by rw [pm.mem_iff, List.mem_map]
  have nd : T.Nodup := pm.nodup_iff.mpr (by
    rw [List.Nodup, List.pairwise_map]
    exact s1.imp fun h z => h (by omega))
  have ek : natsD (T.map Int.toNat) = .list (T.map PyData.int) := by
    unfold natsD
    rw [List.map_map]
    refine congrArg PyData.list (List.map_congr_left fun z hz => ?_)
    obtain ⟨i, _, rfl⟩ := (mem z).mp hz
    show PyData.int (((i : Int).toNat : Nat) : Int) = PyData.int (i : Int)
    rw [Int.toNat_natCast]
  refine ⟨T.map Int.toNat, by rw [ek]; exact e0, ?_, fun i => ?_⟩
  · rw [List.pairwise_map]
    have both := so.and nd
    refine List.Pairwise.imp_of_mem ?_ both
    intro a b ha hb h
    obtain ⟨i, _, rfl⟩ := (mem a).mp ha
    obtain ⟨j, _, rfl⟩ := (mem b).mp hb
    have h1 := h.1
    have h2 : (i : Int) ≠ (j : Int) := h.2
    simp only [Int.toNat_natCast]
    omega
  · rw [List.mem_map]
    constructor
    · rintro ⟨z, hz, rfl⟩
      obtain ⟨i, hi, rfl⟩ := (mem z).mp hz
      simpa using hi
    · intro hi
      exact ⟨(i : Int), (mem _).mpr ⟨i, hi, rfl⟩, by simp⟩
theorem inner_ok (rs : List Rule) (S : List Nat) (k m : Nat) (r : Rule) (hr : rs[m]? = some r) (hS : S.length ≤ 80000) (k4 : Sl) : ∃ k4' : Sl, sFor (iL (eFrz (eCall m_parts_of [(eBin dIx (eVarD 0) (eVarD 3))]))) (gN 4) (sPutD 2 (eVarD 4) (eC (.bool true))) [.dat (rulesD rs), .dat (.int (k : Int)), .own (.dict (seenD S)), .dat (.int (m : Int)), k4]
    = .nx [.dat (rulesD rs), .dat (.int (k : Int)), .own (.dict (seenD (addAll S r.parts))), .dat (.int (m : Int)), k4'] := by
  have pl : r.parts.length ≤ 2 := by cases r <;> simp [Rule.parts]
  obtain ⟨ρ2, hf2, k4', rfl⟩ := for_inv (mi := iL (eFrz (eCall m_parts_of [(eBin dIx (eVarD 0) (eVarD 3))]))) (g := gN 4) (body := sPutD 2 (eVarD 4) (eC (.bool true)))
    (ρ := [.dat (rulesD rs), .dat (.int (k : Int)), .own (.dict (seenD S)), .dat (.int (m : Int)), k4]) (ds := r.parts.map fun (n : Nat) => PyData.int (n : Int))
    (fun i ρ => ∃ k4 : Sl, ρ = [.dat (rulesD rs), .dat (.int (k : Int)), .own (.dict (seenD (addAll S (r.parts.take i)))), .dat (.int (m : Int)), k4])
    (by
      simp only [iL, eFrz_ap, runM, mkEnv, List.replicate, List.cons_append, List.nil_append, sSeq, sIf, sRet, sAsg, sAsgN, sDrop, sSkip_ap, eBin_ap, eUn_ap, eVarD_0, eVarD_s, eVar_0d, eVar_0o, eVar_0b, eVar_s, eCall_0, eCall_1, eCall_2, eCall_3, eCall_4, bLen_l, bLen_t, bind_ok, bMin_ii, bMax_ii, dAdd_ii, dSub_ii, dLt_ii, dLe_ii, dGt_ii, dGe_ii, dEq_ii, dNe_ii, dEq_ss, dNe_ss, dEq_bb, List.length_map, decide_true, decide_false, eC_ap, set_0, set_s, eNot, eAnd, eOr, eIf, eIsi_ap, isT_n, isT_b, isT_i, isT_s, isT_l, isT_t, gN_ap, Bool.not_true, Bool.not_false, beq_self_eq_true, Bool.or_self, Bool.or_false, Bool.false_or, Bool.or_true, Bool.true_or, String.reduceBEq, Int.reduceLT, Int.reduceLE, Int.reduceEq, eTup_0, eTup_1, eTup_2, eTup_3, eLst_0, eLst_1, eLst_2, eLst_3, eLst_4, bTuple_l, bTuple_t, bList_l, bList_t, dNeg_i, bind_ex, len0, len1, len2, len3, len4, is_nn, is_in, is_sn, is_ln, is_tn, isn_nn, isn_in, isn_sn, isn_ln, isn_tn, dIx_rules hr, parts_ok, frz_nats]
      rfl)
    ⟨_, rfl⟩
    (by
      rintro i d ρ hd ⟨k4, rfl⟩
      rw [List.getElem?_map, Option.map_eq_some_iff] at hd
      obtain ⟨p, h1, rfl⟩ := hd
      have hi := (List.getElem?_eq_some_iff.mp h1).1
      have et : r.parts.take (i + 1) = r.parts.take i ++ [p] := by
        rw [List.take_add_one, h1]
        rfl
      have hz2 : (seenD (addAll S (r.parts.take i))).length < sizeLine := by
        unfold seenD
        rw [List.length_map]
        have := addAll_len S (r.parts.take i)
        rw [List.length_take] at this
        exact sz_lt' (by omega)
      refine ⟨_, [.dat (rulesD rs), .dat (.int (k : Int)), .own (.dict (seenD (addAll S (r.parts.take (i + 1))))), .dat (.int (m : Int)), .dat (.int (p : Int))], gN_ap, .inl ?_, _, rfl⟩
      simp only [set_0, set_s, sPutD, eC_ap, eVarD_0, eVarD_s, List.getElem?_cons_succ, List.getElem?_cons_zero, keyOf, hz2, if_true, unm_seen, seen_store]
      rw [et, addAll_snoc])
  rw [List.length_map, List.take_length] at hf2
  exact ⟨k4', hf2⟩
theorem needed_ok (rs : List Rule) (g : Good rs) (hl : rs.length ≤ 30000) (k : Nat) (hk : k < rs.length) : ∃ ks, m_needed [rulesD rs, .int (k : Int)] = .ok (natsD ks) ∧ Need rs k ks := by
  obtain ⟨L, hL⟩ : ∃ L, L = rulesD rs := ⟨_, rfl⟩
  have key : ∃ ks, b_needed [.dat L, .dat (.int (k : Int)), .un, .un, .un] = .rt (natsD ks) ∧ Need rs k ks := by
    unfold b_needed
    rw [seq_nx (ρ' := [.dat L, .dat (.int (k : Int)), .un, .un, .un]) (by simp only [runM, mkEnv, List.replicate, List.cons_append, List.nil_append, sSeq, sIf, sRet, sAsg, sAsgN, sDrop, sSkip_ap, eBin_ap, eUn_ap, eVarD_0, eVarD_s, eVar_0d, eVar_0o, eVar_0b, eVar_s, eCall_0, eCall_1, eCall_2, eCall_3, eCall_4, bLen_l, bLen_t, bind_ok, bMin_ii, bMax_ii, dAdd_ii, dSub_ii, dLt_ii, dLe_ii, dGt_ii, dGe_ii, dEq_ii, dNe_ii, dEq_ss, dNe_ss, dEq_bb, List.length_map, decide_true, decide_false, eC_ap, set_0, set_s, eNot, eAnd, eOr, eIf, eIsi_ap, isT_n, isT_b, isT_i, isT_s, isT_l, isT_t, gN_ap, Bool.not_true, Bool.not_false, beq_self_eq_true, Bool.or_self, Bool.or_false, Bool.false_or, Bool.or_true, Bool.true_or, String.reduceBEq, Int.reduceLT, Int.reduceLE, Int.reduceEq, eTup_0, eTup_1, eTup_2, eTup_3, eLst_0, eLst_1, eLst_2, eLst_3, eLst_4, bTuple_l, bTuple_t, bList_l, bList_t, dNeg_i, bind_ex, len0, len1, len2, len3, len4, is_nn, is_in, is_sn, is_ln, is_tn, isn_nn, isn_in, isn_sn, isn_ln, isn_tn, dIs])]
    rw [seq_nx (ρ' := [.dat L, .dat (.int (k : Int)), .own (.dict (seenD [k])), .un, .un]) (by
      simp only [runM, mkEnv, List.replicate, List.cons_append, List.nil_append, sSeq, sIf, sRet, sAsg, sAsgN, sDrop, sSkip_ap, eBin_ap, eUn_ap, eVarD_0, eVarD_s, eVar_0d, eVar_0o, eVar_0b, eVar_s, eCall_0, eCall_1, eCall_2, eCall_3, eCall_4, bLen_l, bLen_t, bind_ok, bMin_ii, bMax_ii, dAdd_ii, dSub_ii, dLt_ii, dLe_ii, dGt_ii, dGe_ii, dEq_ii, dNe_ii, dEq_ss, dNe_ss, dEq_bb, List.length_map, decide_true, decide_false, eC_ap, set_0, set_s, eNot, eAnd, eOr, eIf, eIsi_ap, isT_n, isT_b, isT_i, isT_s, isT_l, isT_t, gN_ap, Bool.not_true, Bool.not_false, beq_self_eq_true, Bool.or_self, Bool.or_false, Bool.false_or, Bool.or_true, Bool.true_or, String.reduceBEq, Int.reduceLT, Int.reduceLE, Int.reduceEq, eTup_0, eTup_1, eTup_2, eTup_3, eLst_0, eLst_1, eLst_2, eLst_3, eLst_4, bTuple_l, bTuple_t, bList_l, bList_t, dNeg_i, bind_ex, len0, len1, len2, len3, len4, is_nn, is_in, is_sn, is_ln, is_tn, isn_nn, isn_in, isn_sn, isn_ln, isn_tn, eD1, keyOf]
      rfl)]
    obtain ⟨ρ', hf, S, k3, k4, rfl, s1, s2, s3, s4, s5, s6⟩ := for_inv (mi := iR3 (eVarD 1) (eUn dNeg (eC (.int 1))) (eUn dNeg (eC (.int 1)))) (g := gN 3)
      (body := sIf (eBin (dInD false) (eVarD 3) (eVar 2)) (sFor (iL (eFrz (eCall m_parts_of [(eBin dIx (eVarD 0) (eVarD 3))]))) (gN 4) (sPutD 2 (eVarD 4) (eC (.bool true)))) sSkip)
      (ρ := [.dat L, .dat (.int (k : Int)), .own (.dict (seenD [k])), .un, .un]) (ds := downD (k : Int) (-1))
      (fun j ρ => ∃ (S : List Nat) (k3 k4 : Sl), ρ = [.dat L, .dat (.int (k : Int)), .own (.dict (seenD S)), k3, k4] ∧ S.Nodup ∧ k ∈ S ∧ (∀ i ∈ S, i ≤ k) ∧ (∀ i ∈ S, k < i + j → ∀ r, rs[i]? = some r → ∀ p ∈ r.parts, p ∈ S) ∧ S.length ≤ 1 + 2 * j ∧ ∀ i ∈ S, i = k ∨ ∃ j ∈ S, ∃ r, rs[j]? = some r ∧ i ∈ r.parts)
      (by
        have c1 : inR (k : Int) = true := inR_of (by omega) (by omega)
        have c2 : inR (-1) = true := by decide
        simp only [iR3, evA, runM, mkEnv, List.replicate, List.cons_append, List.nil_append, sSeq, sIf, sRet, sAsg, sAsgN, sDrop, sSkip_ap, eBin_ap, eUn_ap, eVarD_0, eVarD_s, eVar_0d, eVar_0o, eVar_0b, eVar_s, eCall_0, eCall_1, eCall_2, eCall_3, eCall_4, bLen_l, bLen_t, bind_ok, bMin_ii, bMax_ii, dAdd_ii, dSub_ii, dLt_ii, dLe_ii, dGt_ii, dGe_ii, dEq_ii, dNe_ii, dEq_ss, dNe_ss, dEq_bb, List.length_map, decide_true, decide_false, eC_ap, set_0, set_s, eNot, eAnd, eOr, eIf, eIsi_ap, isT_n, isT_b, isT_i, isT_s, isT_l, isT_t, gN_ap, Bool.not_true, Bool.not_false, beq_self_eq_true, Bool.or_self, Bool.or_false, Bool.false_or, Bool.or_true, Bool.true_or, String.reduceBEq, Int.reduceLT, Int.reduceLE, Int.reduceEq, eTup_0, eTup_1, eTup_2, eTup_3, eLst_0, eLst_1, eLst_2, eLst_3, eLst_4, bTuple_l, bTuple_t, bList_l, bList_t, dNeg_i, bind_ex, len0, len1, len2, len3, len4, is_nn, is_in, is_sn, is_ln, is_tn, isn_nn, isn_in, isn_sn, isn_ln, isn_tn, eUn_ap, c1, c2, Bool.and_self, if_true])
      ⟨[k], _, _, rfl, by simp, by simp, by simp, fun i hi hki => by
        have : i = k := by simpa using hi
        omega, by simp, fun i hi => .inl (by simpa using hi)⟩
      (by
        rintro j d ρ hd ⟨S, k3, k4, rfl, s1, s2, s3, s4, s5, s6⟩
        have hj := (List.getElem?_eq_some_iff.mp hd).1
        rw [downD_len] at hj
        rw [downD_get _ _ _ hj] at hd
        cases hd
        have hjk : j ≤ k := by omega
        obtain ⟨m, hm⟩ : ∃ m : Nat, m + j = k := ⟨k - j, by omega⟩
        have em : (k : Int) - (j : Int) = (m : Int) := by omega
        rw [em]
        have hmr : m < rs.length := by omega
        have hr : rs[m]? = some rs[m] := by simp [hmr]
        obtain ⟨r, er⟩ : ∃ r, r = rs[m] := ⟨_, rfl⟩
        rw [← er] at hr
        by_cases hin : m ∈ S
        · obtain ⟨k4', hf2⟩ := inner_ok rs S k m r hr (by omega) k4
          rw [← hL] at hf2
          have pl : r.parts.length ≤ 2 := by cases r <;> simp [Rule.parts]
          refine ⟨_, [.dat L, .dat (.int (k : Int)), .own (.dict (seenD (addAll S r.parts))), .dat (.int (m : Int)), k4'], gN_ap, .inl ?_, _, _, _, rfl, addAll_nd S s1 _, (addAll_mem _ _ _).mpr (.inl s2), ?_, ?_, ?_, ?_⟩
          · simp only [set_0, set_s]
            rw [if_t (by simp only [runM, mkEnv, List.replicate, List.cons_append, List.nil_append, sSeq, sIf, sRet, sAsg, sAsgN, sDrop, sSkip_ap, eBin_ap, eUn_ap, eVarD_0, eVarD_s, eVar_0d, eVar_0o, eVar_0b, eVar_s, eCall_0, eCall_1, eCall_2, eCall_3, eCall_4, bLen_l, bLen_t, bind_ok, bMin_ii, bMax_ii, dAdd_ii, dSub_ii, dLt_ii, dLe_ii, dGt_ii, dGe_ii, dEq_ii, dNe_ii, dEq_ss, dNe_ss, dEq_bb, List.length_map, decide_true, decide_false, eC_ap, set_0, set_s, eNot, eAnd, eOr, eIf, eIsi_ap, isT_n, isT_b, isT_i, isT_s, isT_l, isT_t, gN_ap, Bool.not_true, Bool.not_false, beq_self_eq_true, Bool.or_self, Bool.or_false, Bool.false_or, Bool.or_true, Bool.true_or, String.reduceBEq, Int.reduceLT, Int.reduceLE, Int.reduceEq, eTup_0, eTup_1, eTup_2, eTup_3, eLst_0, eLst_1, eLst_2, eLst_3, eLst_4, bTuple_l, bTuple_t, bList_l, bList_t, dNeg_i, bind_ex, len0, len1, len2, len3, len4, is_nn, is_in, is_sn, is_ln, is_tn, isn_nn, isn_in, isn_sn, isn_ln, isn_tn, seen_in, hin])]
            exact hf2
          · intro i hi
            rcases (addAll_mem _ _ _).mp hi with h | h
            · exact s3 i h
            · have := parts_lt (g m r hr) i h
              omega
          · intro i hi hki q hq p hp
            rcases (addAll_mem _ _ _).mp hi with h | h
            · by_cases e : i = m
              · rw [e, hr] at hq
                cases hq
                exact (addAll_mem _ _ _).mpr (.inr hp)
              · exact (addAll_mem _ _ _).mpr (.inl (s4 i h (by omega) q hq p hp))
            · have := parts_lt (g m r hr) i h
              omega
          · have := addAll_len S r.parts
            omega
          · intro i hi
            rcases (addAll_mem _ _ _).mp hi with h | h
            · rcases s6 i h with h2 | ⟨j2, h2, q, h3, h4⟩
              · exact .inl h2
              · exact .inr ⟨j2, (addAll_mem _ _ _).mpr (.inl h2), q, h3, h4⟩
            · exact .inr ⟨m, (addAll_mem _ _ _).mpr (.inl hin), r, hr, h⟩
        · refine ⟨_, [.dat L, .dat (.int (k : Int)), .own (.dict (seenD S)), .dat (.int (m : Int)), k4], gN_ap, .inl ?_, S, _, _, rfl, s1, s2, s3, ?_, by omega, s6⟩
          · simp only [set_0, set_s]
            rw [if_f (by simp only [runM, mkEnv, List.replicate, List.cons_append, List.nil_append, sSeq, sIf, sRet, sAsg, sAsgN, sDrop, sSkip_ap, eBin_ap, eUn_ap, eVarD_0, eVarD_s, eVar_0d, eVar_0o, eVar_0b, eVar_s, eCall_0, eCall_1, eCall_2, eCall_3, eCall_4, bLen_l, bLen_t, bind_ok, bMin_ii, bMax_ii, dAdd_ii, dSub_ii, dLt_ii, dLe_ii, dGt_ii, dGe_ii, dEq_ii, dNe_ii, dEq_ss, dNe_ss, dEq_bb, List.length_map, decide_true, decide_false, eC_ap, set_0, set_s, eNot, eAnd, eOr, eIf, eIsi_ap, isT_n, isT_b, isT_i, isT_s, isT_l, isT_t, gN_ap, Bool.not_true, Bool.not_false, beq_self_eq_true, Bool.or_self, Bool.or_false, Bool.false_or, Bool.or_true, Bool.true_or, String.reduceBEq, Int.reduceLT, Int.reduceLE, Int.reduceEq, eTup_0, eTup_1, eTup_2, eTup_3, eLst_0, eLst_1, eLst_2, eLst_3, eLst_4, bTuple_l, bTuple_t, bList_l, bList_t, dNeg_i, bind_ex, len0, len1, len2, len3, len4, is_nn, is_in, is_sn, is_ln, is_tn, isn_nn, isn_in, isn_sn, isn_ln, isn_tn, seen_in, hin])]
            rfl
          · intro i hi hki
            refine s4 i hi ?_
            have : i ≠ m := fun z => hin (by rw [← z]; exact hi)
            omega)
    rw [seq_nx hf]
    have dl : (downD (k : Int) (-1)).length = k + 1 := by rw [downD_len]; omega
    rw [dl] at s4
    obtain ⟨ks, e1, e2, e3⟩ := seen_sorted S s1
    refine ⟨ks, ?_, ⟨e2, (e3 k).mpr s2, fun i hi => s3 i ((e3 i).mp hi), fun i hi r hr p hp => (e3 p).mpr (s4 i ((e3 i).mp hi) (by omega) r hr p hp), fun i hi => ?_⟩⟩
    · simp only [runM, mkEnv, List.replicate, List.cons_append, List.nil_append, sSeq, sIf, sRet, sAsg, sAsgN, sDrop, sSkip_ap, eBin_ap, eUn_ap, eVarD_0, eVarD_s, eVar_0d, eVar_0o, eVar_0b, eVar_s, eCall_0, eCall_1, eCall_2, eCall_3, eCall_4, bLen_l, bLen_t, bind_ok, bMin_ii, bMax_ii, dAdd_ii, dSub_ii, dLt_ii, dLe_ii, dGt_ii, dGe_ii, dEq_ii, dNe_ii, dEq_ss, dNe_ss, dEq_bb, List.length_map, decide_true, decide_false, eC_ap, set_0, set_s, eNot, eAnd, eOr, eIf, eIsi_ap, isT_n, isT_b, isT_i, isT_s, isT_l, isT_t, gN_ap, Bool.not_true, Bool.not_false, beq_self_eq_true, Bool.or_self, Bool.or_false, Bool.false_or, Bool.or_true, Bool.true_or, String.reduceBEq, Int.reduceLT, Int.reduceLE, Int.reduceEq, eTup_0, eTup_1, eTup_2, eTup_3, eLst_0, eLst_1, eLst_2, eLst_3, eLst_4, bTuple_l, bTuple_t, bList_l, bList_t, dNeg_i, bind_ex, len0, len1, len2, len3, len4, is_nn, is_in, is_sn, is_ln, is_tn, isn_nn, isn_in, isn_sn, isn_ln, isn_tn, eUn_ap, e1]
    · rcases s6 i ((e3 i).mp hi) with h2 | ⟨j2, h2, q, h3, h4⟩
      · exact .inl h2
      · exact .inr ⟨j2, (e3 j2).mpr h2, q, h3, h4⟩
  obtain ⟨ks, e, n⟩ := key
  rw [hL] at e
  exact ⟨ks, run_rt e, n⟩
end Sb

namespace Sb
open PySem PySem.Spec L2 Evl DL
theorem needed_n (rs : List Rule) (g : Good rs) (hl : rs.length ≤ 30000) (n : Option Nat) (hn : NameOk rs n) : ∃ ks, m_needed [rulesD rs, nameD n] = .ok (natsD ks) ∧ NeedN rs n ks := by
  cases n with
  | none => exact ⟨[], needed_none rs, rfl⟩
  | some k =>
    obtain ⟨ks, e, nd⟩ := needed_ok rs g hl k (hn k rfl)
    exact ⟨ks, e, hn k rfl, nd⟩
end Sb

namespace Sb
open PySem PySem.Spec L2 Evl DL
theorem dIxA_dict (ds : List (D × D)) (k : D) : dIxA (.dict ds) k = dDGet (.dict ds) k := rfl
theorem dIxA_nats (ns : List Nat) (k : D) : dIxA (natsD ns) k = dIx (natsD ns) k := rfl
/-- numbers by which rules are put otherwise: N tells f of each below i -/
theorem renamed_ok (r : Rule) (i : Nat) (h : r.ok i) (f : Nat → Nat) (N : D) (hN : ∀ a ∈ r.parts, dIxA N (.int (a : Int)) = .ok (.int ((f a : Nat) : Int))) : m_renamed [ruleD r, N] = .ok (ruleD (r.ren f)) := by
  cases r with
  | sign c => simp only [m_renamed, b_renamed, runM, mkEnv, List.replicate, List.cons_append, List.nil_append, sSeq, sIf, sRet, sAsg, sAsgN, sDrop, sSkip_ap, eBin_ap, eUn_ap, eVarD_0, eVarD_s, eVar_0d, eVar_0o, eVar_0b, eVar_s, eCall_0, eCall_1, eCall_2, eCall_3, eCall_4, bLen_l, bLen_t, bind_ok, bMin_ii, bMax_ii, dAdd_ii, dSub_ii, dLt_ii, dLe_ii, dGt_ii, dGe_ii, dEq_ii, dNe_ii, dEq_ss, dNe_ss, dEq_bb, List.length_map, decide_true, decide_false, eC_ap, set_0, set_s, eNot, eAnd, eOr, eIf, eIsi_ap, isT_n, isT_b, isT_i, isT_s, isT_l, isT_t, gN_ap, Bool.not_true, Bool.not_false, beq_self_eq_true, Bool.or_self, Bool.or_false, Bool.false_or, Bool.or_true, Bool.true_or, String.reduceBEq, Int.reduceLT, Int.reduceLE, Int.reduceEq, eTup_0, eTup_1, eTup_2, eTup_3, eLst_0, eLst_1, eLst_2, eLst_3, eLst_4, bTuple_l, bTuple_t, bList_l, bList_t, dNeg_i, bind_ex, len0, len1, len2, len3, len4, is_nn, is_in, is_sn, is_ln, is_tn, isn_nn, isn_in, isn_sn, isn_ln, isn_tn, ruleD, dIx_t0, Rule.ren]
  | join a b => simp only [m_renamed, b_renamed, runM, mkEnv, List.replicate, List.cons_append, List.nil_append, sSeq, sIf, sRet, sAsg, sAsgN, sDrop, sSkip_ap, eBin_ap, eUn_ap, eVarD_0, eVarD_s, eVar_0d, eVar_0o, eVar_0b, eVar_s, eCall_0, eCall_1, eCall_2, eCall_3, eCall_4, bLen_l, bLen_t, bind_ok, bMin_ii, bMax_ii, dAdd_ii, dSub_ii, dLt_ii, dLe_ii, dGt_ii, dGe_ii, dEq_ii, dNe_ii, dEq_ss, dNe_ss, dEq_bb, List.length_map, decide_true, decide_false, eC_ap, set_0, set_s, eNot, eAnd, eOr, eIf, eIsi_ap, isT_n, isT_b, isT_i, isT_s, isT_l, isT_t, gN_ap, Bool.not_true, Bool.not_false, beq_self_eq_true, Bool.or_self, Bool.or_false, Bool.false_or, Bool.or_true, Bool.true_or, String.reduceBEq, Int.reduceLT, Int.reduceLE, Int.reduceEq, eTup_0, eTup_1, eTup_2, eTup_3, eLst_0, eLst_1, eLst_2, eLst_3, eLst_4, bTuple_l, bTuple_t, bList_l, bList_t, dNeg_i, bind_ex, len0, len1, len2, len3, len4, is_nn, is_in, is_sn, is_ln, is_tn, isn_nn, isn_in, isn_sn, isn_ln, isn_tn, ruleD, dIx_t0, dIx_t1, dIx_t2, js, hN a (by simp [Rule.parts]), hN b (by simp [Rule.parts]), Rule.ren]
  | times a n => simp only [m_renamed, b_renamed, runM, mkEnv, List.replicate, List.cons_append, List.nil_append, sSeq, sIf, sRet, sAsg, sAsgN, sDrop, sSkip_ap, eBin_ap, eUn_ap, eVarD_0, eVarD_s, eVar_0d, eVar_0o, eVar_0b, eVar_s, eCall_0, eCall_1, eCall_2, eCall_3, eCall_4, bLen_l, bLen_t, bind_ok, bMin_ii, bMax_ii, dAdd_ii, dSub_ii, dLt_ii, dLe_ii, dGt_ii, dGe_ii, dEq_ii, dNe_ii, dEq_ss, dNe_ss, dEq_bb, List.length_map, decide_true, decide_false, eC_ap, set_0, set_s, eNot, eAnd, eOr, eIf, eIsi_ap, isT_n, isT_b, isT_i, isT_s, isT_l, isT_t, gN_ap, Bool.not_true, Bool.not_false, beq_self_eq_true, Bool.or_self, Bool.or_false, Bool.false_or, Bool.or_true, Bool.true_or, String.reduceBEq, Int.reduceLT, Int.reduceLE, Int.reduceEq, eTup_0, eTup_1, eTup_2, eTup_3, eLst_0, eLst_1, eLst_2, eLst_3, eLst_4, bTuple_l, bTuple_t, bList_l, bList_t, dNeg_i, bind_ex, len0, len1, len2, len3, len4, is_nn, is_in, is_sn, is_ln, is_tn, isn_nn, isn_in, isn_sn, isn_ln, isn_tn, ruleD, dIx_t0, dIx_t1, dIx_t2, ts, tj, hN a (by simp [Rule.parts]), Rule.ren]
end Sb

namespace Sb
open PySem PySem.Spec L2 Evl DL
/-- rules in a list -/
def rowsD (rs : List Rule) : D := .list (rs.map ruleD)
theorem io_rt {n : Nat} {m : SM} {c d : D} {ds : List D} (h : m (.own c :: (ds.map Sl.dat ++ List.replicate n .un)) = .rt d) : runIO n m (c :: ds) = .ok d := by simp only [runIO, h]
theorem put_ok (rs : List Rule) (r : Rule) (hl : rs.length < 90000) : m_put [rowsD rs, ruleD r] = .ok (.tuple [.int ((rs.length : Nat) : Int), rowsD (rs ++ [r])]) := by
  have ap : sApp 0 (eVarD 1) [.own (rowsD rs), .dat (ruleD r)] = .nx [.own (rowsD (rs ++ [r])), .dat (ruleD r)] := by
    rw [app_ok (ds := rs.map ruleD) (d := ruleD r) rfl rfl (by rw [List.length_map]; exact sz_lt' (by omega))]
    simp [rowsD]
  refine io_rt (n := 0) ?_
  show b_put [.own (rowsD (rs)), .dat (ruleD r)] = _
  unfold b_put
  rw [seq_nx ap]
  have e : eBin dSub (eCall bLen [(eVar 0)]) (eC (.int 1)) [.own (rowsD (rs ++ [r])), .dat (ruleD r)] = .ok (.int ((rs.length : Nat) : Int)) := by
    simp only [runM, mkEnv, List.replicate, List.cons_append, List.nil_append, sSeq, sIf, sRet, sAsg, sAsgN, sDrop, sSkip_ap, eBin_ap, eUn_ap, eVarD_0, eVarD_s, eVar_0d, eVar_0o, eVar_0b, eVar_s, eCall_0, eCall_1, eCall_2, eCall_3, eCall_4, bLen_l, bLen_t, bind_ok, bMin_ii, bMax_ii, dAdd_ii, dSub_ii, dLt_ii, dLe_ii, dGt_ii, dGe_ii, dEq_ii, dNe_ii, dEq_ss, dNe_ss, dEq_bb, List.length_map, decide_true, decide_false, eC_ap, set_0, set_s, eNot, eAnd, eOr, eIf, eIsi_ap, isT_n, isT_b, isT_i, isT_s, isT_l, isT_t, gN_ap, Bool.not_true, Bool.not_false, beq_self_eq_true, Bool.or_self, Bool.or_false, Bool.false_or, Bool.or_true, Bool.true_or, String.reduceBEq, Int.reduceLT, Int.reduceLE, Int.reduceEq, eTup_0, eTup_1, eTup_2, eTup_3, eLst_0, eLst_1, eLst_2, eLst_3, eLst_4, bTuple_l, bTuple_t, bList_l, bList_t, dNeg_i, bind_ex, len0, len1, len2, len3, len4, is_nn, is_in, is_sn, is_ln, is_tn, isn_nn, isn_in, isn_sn, isn_ln, isn_tn, rowsD, List.length_append, List.length_cons, List.length_nil]
    congr 2
    omega
  simp only [sRetI, e]
  rfl
end Sb

namespace Sb
open PySem PySem.Spec L2 Evl DL
theorem lwhole_ok (i : Int) : m__law_whole [.int i] = .ok (.bool true) := by
  simp only [m__law_whole, b__law_whole, runM, mkEnv, List.replicate, List.cons_append, List.nil_append, sSeq, sIf, sRet, sAsg, sAsgN, sDrop, sSkip_ap, eBin_ap, eUn_ap, eVarD_0, eVarD_s, eVar_0d, eVar_0o, eVar_0b, eVar_s, eCall_0, eCall_1, eCall_2, eCall_3, eCall_4, bLen_l, bLen_t, bind_ok, bMin_ii, bMax_ii, dAdd_ii, dSub_ii, dLt_ii, dLe_ii, dGt_ii, dGe_ii, dEq_ii, dNe_ii, dEq_ss, dNe_ss, dEq_bb, List.length_map, decide_true, decide_false, eC_ap, set_0, set_s, eNot, eAnd, eOr, eIf, eIsi_ap, isT_n, isT_b, isT_i, isT_s, isT_l, isT_t, gN_ap, Bool.not_true, Bool.not_false, beq_self_eq_true, Bool.or_self, Bool.or_false, Bool.false_or, Bool.or_true, Bool.true_or, String.reduceBEq, Int.reduceLT, Int.reduceLE, Int.reduceEq, eTup_0, eTup_1, eTup_2, eTup_3, eLst_0, eLst_1, eLst_2, eLst_3, eLst_4, bTuple_l, bTuple_t, bList_l, bList_t, dNeg_i, bind_ex, len0, len1, len2, len3, len4, is_nn, is_in, is_sn, is_ln, is_tn, isn_nn, isn_in, isn_sn, isn_ln, isn_tn, Bool.or_self]
end Sb

namespace Sb
open PySem PySem.Spec L2 Evl DL
theorem sg_in (c : Nat) (h : c ∈ sgL) : dInS false (.str (s1 c)) (.str "0123456789ABCDEFGHIJKLMNOPQRSTUVWXYZabcdefghijklmnopqrstuvwxyz") = .ok (.bool true) := by
  have hz : SG.length ≤ sizeLine := sg_len
  have h' : c ∈ (Str.ofString "0123456789ABCDEFGHIJKLMNOPQRSTUVWXYZabcdefghijklmnopqrstuvwxyz").cps.toList := h
  simp only [dInS, hz, if_true, h', decide_true]
  rfl
theorem good_rule_ok (r : Rule) (i : Nat) (h : r.ok i) : m__law_good_rule [ruleD r, .int (i : Int)] = .ok (.bool true) := by
  have hp : dPow (.int 2) (.int 60) = .ok (.int ((MOST : Nat) : Int)) := dPow_ok (by decide) (by decide) (by decide)
  cases r with
  | sign c =>
    have z : (s1 c).length ≤ sizeLine := show 1 ≤ sizeLine by decide
    have l1 : bLen [.str (s1 c)] = .ok (.int 1) := bLen_s z
    simp only [m__law_good_rule, b__law_good_rule, runM, mkEnv, List.replicate, List.cons_append, List.nil_append, sSeq, sIf, sRet, sAsg, sAsgN, sDrop, sSkip_ap, eBin_ap, eUn_ap, eVarD_0, eVarD_s, eVar_0d, eVar_0o, eVar_0b, eVar_s, eCall_0, eCall_1, eCall_2, eCall_3, eCall_4, bLen_l, bLen_t, bind_ok, bMin_ii, bMax_ii, dAdd_ii, dSub_ii, dLt_ii, dLe_ii, dGt_ii, dGe_ii, dEq_ii, dNe_ii, dEq_ss, dNe_ss, dEq_bb, List.length_map, decide_true, decide_false, eC_ap, set_0, set_s, eNot, eAnd, eOr, eIf, eIsi_ap, isT_n, isT_b, isT_i, isT_s, isT_l, isT_t, gN_ap, Bool.not_true, Bool.not_false, beq_self_eq_true, Bool.or_self, Bool.or_false, Bool.false_or, Bool.or_true, Bool.true_or, String.reduceBEq, Int.reduceLT, Int.reduceLE, Int.reduceEq, eTup_0, eTup_1, eTup_2, eTup_3, eLst_0, eLst_1, eLst_2, eLst_3, eLst_4, bTuple_l, bTuple_t, bList_l, bList_t, dNeg_i, bind_ex, len0, len1, len2, len3, len4, is_nn, is_in, is_sn, is_ln, is_tn, isn_nn, isn_in, isn_sn, isn_ln, isn_tn, ruleD, dIx_t0, dIx_t1, l1, sg_in c h]
  | join a b =>
    simp only [m__law_good_rule, b__law_good_rule, runM, mkEnv, List.replicate, List.cons_append, List.nil_append, sSeq, sIf, sRet, sAsg, sAsgN, sDrop, sSkip_ap, eBin_ap, eUn_ap, eVarD_0, eVarD_s, eVar_0d, eVar_0o, eVar_0b, eVar_s, eCall_0, eCall_1, eCall_2, eCall_3, eCall_4, bLen_l, bLen_t, bind_ok, bMin_ii, bMax_ii, dAdd_ii, dSub_ii, dLt_ii, dLe_ii, dGt_ii, dGe_ii, dEq_ii, dNe_ii, dEq_ss, dNe_ss, dEq_bb, List.length_map, decide_true, decide_false, eC_ap, set_0, set_s, eNot, eAnd, eOr, eIf, eIsi_ap, isT_n, isT_b, isT_i, isT_s, isT_l, isT_t, gN_ap, Bool.not_true, Bool.not_false, beq_self_eq_true, Bool.or_self, Bool.or_false, Bool.false_or, Bool.or_true, Bool.true_or, String.reduceBEq, Int.reduceLT, Int.reduceLE, Int.reduceEq, eTup_0, eTup_1, eTup_2, eTup_3, eLst_0, eLst_1, eLst_2, eLst_3, eLst_4, bTuple_l, bTuple_t, bList_l, bList_t, dNeg_i, bind_ex, len0, len1, len2, len3, len4, is_nn, is_in, is_sn, is_ln, is_tn, isn_nn, isn_in, isn_sn, isn_ln, isn_tn, ruleD, dIx_t0, dIx_t1, dIx_t2, lwhole_ok, eChain, js, show (0 : Int) ≤ (a : Int) by omega, show (a : Int) < (i : Int) by have := h.1; omega, show (0 : Int) ≤ (b : Int) by omega, show (b : Int) < (i : Int) by have := h.2; omega]
  | times a n =>
    simp only [m__law_good_rule, b__law_good_rule, runM, mkEnv, List.replicate, List.cons_append, List.nil_append, sSeq, sIf, sRet, sAsg, sAsgN, sDrop, sSkip_ap, eBin_ap, eUn_ap, eVarD_0, eVarD_s, eVar_0d, eVar_0o, eVar_0b, eVar_s, eCall_0, eCall_1, eCall_2, eCall_3, eCall_4, bLen_l, bLen_t, bind_ok, bMin_ii, bMax_ii, dAdd_ii, dSub_ii, dLt_ii, dLe_ii, dGt_ii, dGe_ii, dEq_ii, dNe_ii, dEq_ss, dNe_ss, dEq_bb, List.length_map, decide_true, decide_false, eC_ap, set_0, set_s, eNot, eAnd, eOr, eIf, eIsi_ap, isT_n, isT_b, isT_i, isT_s, isT_l, isT_t, gN_ap, Bool.not_true, Bool.not_false, beq_self_eq_true, Bool.or_self, Bool.or_false, Bool.false_or, Bool.or_true, Bool.true_or, String.reduceBEq, Int.reduceLT, Int.reduceLE, Int.reduceEq, eTup_0, eTup_1, eTup_2, eTup_3, eLst_0, eLst_1, eLst_2, eLst_3, eLst_4, bTuple_l, bTuple_t, bList_l, bList_t, dNeg_i, bind_ex, len0, len1, len2, len3, len4, is_nn, is_in, is_sn, is_ln, is_tn, isn_nn, isn_in, isn_sn, isn_ln, isn_tn, ruleD, dIx_t0, dIx_t1, dIx_t2, lwhole_ok, eChain, ts, tj, hp, show (0 : Int) ≤ (a : Int) by omega, show (a : Int) < (i : Int) by have := h.1; omega, show (1 : Int) ≤ (n : Int) by have := h.2.1; omega, show (n : Int) ≤ ((MOST : Nat) : Int) by have := h.2.2; omega]
theorem told_ok (rs qs : List Rule) (g : Good (rs ++ qs)) (f : Fits MOST (rs ++ qs)) (hl : (rs ++ qs).length ≤ 90000) (n : Option Nat) (hn : NameOk (rs ++ qs) n) (most : Int) (hm : (qs.length : Int) ≤ most) : m__law_told [.tuple [rulesD (rs ++ qs), nameD n], rulesD rs, .int most] = .ok (natsD (sizes (rs ++ qs))) := by
  obtain ⟨ts, hts⟩ : ∃ ts, ts = rs ++ qs := ⟨_, rfl⟩
  have sl : dSl (rulesD ts) none (some (rs.length : Int)) = .ok (rulesD rs) := by
    simp only [dSl, rulesD, cut_to, hts]
    simp
  have ne := dNe_same (sh_rules g.pre)
  have ll : ts.length = rs.length + qs.length := by rw [hts]; simp
  rw [← hts] at g f hl hn ⊢
  obtain ⟨L, hL⟩ : ∃ L, L = rulesD ts := ⟨_, rfl⟩
  have lenL : bLen [L] = .ok (.int ((ts.length : Nat) : Int)) := by rw [hL]; exact rulesD_len ts
  have isL : isT "tuple" L = true := by rw [hL]; rfl
  rw [← hL] at sl ⊢
  have hgt : ¬ (rs.length : Int) + most < (ts.length : Int) := by omega
  obtain ⟨N, hN⟩ : ∃ N, N = nameD n := ⟨_, rfl⟩
  rw [← hN]
  refine rt_run' ?_
  show Rt (b__law_told [.dat (.tuple [L, N]), .dat (rulesD rs), .dat (.int most), .un, .un, .un, .un]) _
  unfold b__law_told
  refine rt_seq (ρ' := [.dat (.tuple [L, N]), .dat (rulesD rs), .dat (.int most), .un, .un, .un, .un]) (by
    simp only [runM, mkEnv, List.replicate, List.cons_append, List.nil_append, sSeq, sIf, sRet, sAsg, sAsgN, sDrop, sSkip_ap, eBin_ap, eUn_ap, eVarD_0, eVarD_s, eVar_0d, eVar_0o, eVar_0b, eVar_s, eCall_0, eCall_1, eCall_2, eCall_3, eCall_4, bLen_l, bLen_t, bind_ok, bMin_ii, bMax_ii, dAdd_ii, dSub_ii, dLt_ii, dLe_ii, dGt_ii, dGe_ii, dEq_ii, dNe_ii, dEq_ss, dNe_ss, dEq_bb, List.length_map, decide_true, decide_false, eC_ap, set_0, set_s, eNot, eAnd, eOr, eIf, eIsi_ap, isT_n, isT_b, isT_i, isT_s, isT_l, isT_t, gN_ap, Bool.not_true, Bool.not_false, beq_self_eq_true, Bool.or_self, Bool.or_false, Bool.false_or, Bool.or_true, Bool.true_or, String.reduceBEq, Int.reduceLT, Int.reduceLE, Int.reduceEq, eTup_0, eTup_1, eTup_2, eTup_3, eLst_0, eLst_1, eLst_2, eLst_3, eLst_4, bTuple_l, bTuple_t, bList_l, bList_t, dNeg_i, bind_ex, len0, len1, len2, len3, len4, is_nn, is_in, is_sn, is_ln, is_tn, isn_nn, isn_in, isn_sn, isn_ln, isn_tn, dIx_t0, isL]) ?_
  refine rt_seq (ρ' := [.dat (.tuple [L, N]), .dat (rulesD rs), .dat (.int most), .dat L, .dat N, .un, .un]) (by
    simp only [runM, mkEnv, List.replicate, List.cons_append, List.nil_append, sSeq, sIf, sRet, sAsg, sAsgN, sDrop, sSkip_ap, eBin_ap, eUn_ap, eVarD_0, eVarD_s, eVar_0d, eVar_0o, eVar_0b, eVar_s, eCall_0, eCall_1, eCall_2, eCall_3, eCall_4, bLen_l, bLen_t, bind_ok, bMin_ii, bMax_ii, dAdd_ii, dSub_ii, dLt_ii, dLe_ii, dGt_ii, dGe_ii, dEq_ii, dNe_ii, dEq_ss, dNe_ss, dEq_bb, List.length_map, decide_true, decide_false, eC_ap, set_0, set_s, eNot, eAnd, eOr, eIf, eIsi_ap, isT_n, isT_b, isT_i, isT_s, isT_l, isT_t, gN_ap, Bool.not_true, Bool.not_false, beq_self_eq_true, Bool.or_self, Bool.or_false, Bool.false_or, Bool.or_true, Bool.true_or, String.reduceBEq, Int.reduceLT, Int.reduceLE, Int.reduceEq, eTup_0, eTup_1, eTup_2, eTup_3, eLst_0, eLst_1, eLst_2, eLst_3, eLst_4, bTuple_l, bTuple_t, bList_l, bList_t, dNeg_i, bind_ex, len0, len1, len2, len3, len4, is_nn, is_in, is_sn, is_ln, is_tn, isn_nn, isn_in, isn_sn, isn_ln, isn_tn, sAsgG, gT2_ap]) ?_
  refine rt_seq (ρ' := [.dat (.tuple [L, N]), .dat (rulesD rs), .dat (.int most), .dat L, .dat N, .un, .un]) (by
    simp only [runM, mkEnv, List.replicate, List.cons_append, List.nil_append, sSeq, sIf, sRet, sAsg, sAsgN, sDrop, sSkip_ap, eBin_ap, eUn_ap, eVarD_0, eVarD_s, eVar_0d, eVar_0o, eVar_0b, eVar_s, eCall_0, eCall_1, eCall_2, eCall_3, eCall_4, bLen_l, bLen_t, bind_ok, bMin_ii, bMax_ii, dAdd_ii, dSub_ii, dLt_ii, dLe_ii, dGt_ii, dGe_ii, dEq_ii, dNe_ii, dEq_ss, dNe_ss, dEq_bb, List.length_map, decide_true, decide_false, eC_ap, set_0, set_s, eNot, eAnd, eOr, eIf, eIsi_ap, isT_n, isT_b, isT_i, isT_s, isT_l, isT_t, gN_ap, Bool.not_true, Bool.not_false, beq_self_eq_true, Bool.or_self, Bool.or_false, Bool.false_or, Bool.or_true, Bool.true_or, String.reduceBEq, Int.reduceLT, Int.reduceLE, Int.reduceEq, eTup_0, eTup_1, eTup_2, eTup_3, eLst_0, eLst_1, eLst_2, eLst_3, eLst_4, bTuple_l, bTuple_t, bList_l, bList_t, dNeg_i, bind_ex, len0, len1, len2, len3, len4, is_nn, is_in, is_sn, is_ln, is_tn, isn_nn, isn_in, isn_sn, isn_ln, isn_tn, eSl, evO, rulesD_len, sl, ne, lenL, hgt]) ?_
  refine rt_seq (ρ' := [.dat (.tuple [L, N]), .dat (rulesD rs), .dat (.int most), .dat L, .dat N, .own (natsD (sizes (ts.take 0))), .un]) (by simp only [runM, mkEnv, List.replicate, List.cons_append, List.nil_append, sSeq, sIf, sRet, sAsg, sAsgN, sDrop, sSkip_ap, eBin_ap, eUn_ap, eVarD_0, eVarD_s, eVar_0d, eVar_0o, eVar_0b, eVar_s, eCall_0, eCall_1, eCall_2, eCall_3, eCall_4, bLen_l, bLen_t, bind_ok, bMin_ii, bMax_ii, dAdd_ii, dSub_ii, dLt_ii, dLe_ii, dGt_ii, dGe_ii, dEq_ii, dNe_ii, dEq_ss, dNe_ss, dEq_bb, List.length_map, decide_true, decide_false, eC_ap, set_0, set_s, eNot, eAnd, eOr, eIf, eIsi_ap, isT_n, isT_b, isT_i, isT_s, isT_l, isT_t, gN_ap, Bool.not_true, Bool.not_false, beq_self_eq_true, Bool.or_self, Bool.or_false, Bool.false_or, Bool.or_true, Bool.true_or, String.reduceBEq, Int.reduceLT, Int.reduceLE, Int.reduceEq, eTup_0, eTup_1, eTup_2, eTup_3, eLst_0, eLst_1, eLst_2, eLst_3, eLst_4, bTuple_l, bTuple_t, bList_l, bList_t, dNeg_i, bind_ex, len0, len1, len2, len3, len4, is_nn, is_in, is_sn, is_ln, is_tn, isn_nn, isn_in, isn_sn, isn_ln, isn_tn]; rfl) ?_
  refine rt_nx (N := fun ρ => ∃ k6 : Sl, ρ = [.dat (.tuple [L, N]), .dat (rulesD rs), .dat (.int most), .dat L, .dat N, .own (natsD (sizes ts)), k6]) ?_ ?_
  · have h := nx_for (mi := iR1 (eCall bLen [(eVarD 3)])) (g := gN 6) (body := sSeq (sIf (eNot (eCall m__law_good_rule [(eBin dIx (eVarD 3) (eVarD 6)), (eVarD 6)])) (sRet (eC .none)) sSkip) (sApp 5 (eCall m__law_size [(eBin dIx (eVarD 3) (eVarD 6)), (eVar 5)])))
      (ρ := [.dat (.tuple [L, N]), .dat (rulesD rs), .dat (.int most), .dat L, .dat N, .own (natsD (sizes (ts.take 0))), .un]) (ds := (List.range ts.length).map fun (i : Nat) => PyData.int (i : Int))
      (fun i ρ => ∃ k6 : Sl, ρ = [.dat (.tuple [L, N]), .dat (rulesD rs), .dat (.int most), .dat L, .dat N, .own (natsD (sizes (ts.take i))), k6])
      (by rw [← rangeD_0]; exact iR1_w (by simp only [runM, mkEnv, List.replicate, List.cons_append, List.nil_append, sSeq, sIf, sRet, sAsg, sAsgN, sDrop, sSkip_ap, eBin_ap, eUn_ap, eVarD_0, eVarD_s, eVar_0d, eVar_0o, eVar_0b, eVar_s, eCall_0, eCall_1, eCall_2, eCall_3, eCall_4, bLen_l, bLen_t, bind_ok, bMin_ii, bMax_ii, dAdd_ii, dSub_ii, dLt_ii, dLe_ii, dGt_ii, dGe_ii, dEq_ii, dNe_ii, dEq_ss, dNe_ss, dEq_bb, List.length_map, decide_true, decide_false, eC_ap, set_0, set_s, eNot, eAnd, eOr, eIf, eIsi_ap, isT_n, isT_b, isT_i, isT_s, isT_l, isT_t, gN_ap, Bool.not_true, Bool.not_false, beq_self_eq_true, Bool.or_self, Bool.or_false, Bool.false_or, Bool.or_true, Bool.true_or, String.reduceBEq, Int.reduceLT, Int.reduceLE, Int.reduceEq, eTup_0, eTup_1, eTup_2, eTup_3, eLst_0, eLst_1, eLst_2, eLst_3, eLst_4, bTuple_l, bTuple_t, bList_l, bList_t, dNeg_i, bind_ex, len0, len1, len2, len3, len4, is_nn, is_in, is_sn, is_ln, is_tn, isn_nn, isn_in, isn_sn, isn_ln, isn_tn, lenL]) (by omega) (by omega)) ⟨_, rfl⟩ (by
        rintro i d ρ hd ⟨k6, rfl⟩
        rw [List.getElem?_map, Option.map_eq_some_iff] at hd
        obtain ⟨j, h1, rfl⟩ := hd
        have hi := (List.getElem?_eq_some_iff.mp h1).1
        have hij : j = i := by
          have := (List.getElem?_eq_some_iff.mp h1).2
          simpa using this.symm
        subst hij
        have hj : j < ts.length := by simpa using hi
        have hr : ts[j]? = some ts[j] := by simp [hj]
        obtain ⟨r, er⟩ : ∃ r, r = ts[j] := ⟨_, rfl⟩
        rw [← er] at hr
        have ix : dIx L (.int (j : Int)) = .ok (ruleD r) := by rw [hL]; exact dIx_rules hr
        have ok := g j r hr
        have li : (sizes (ts.take j)).length = j := by rw [sizes_len, List.length_take]; omega
        have et : ts.take (j + 1) = ts.take j ++ [r] := by
          rw [List.take_add_one, hr]
          rfl
        have e := lsize_ok r (sizes (ts.take j)) (by rw [li]; exact ok) (f.take j)
        refine ⟨_, gN_ap, nx_seq (ρ' := [.dat (.tuple [L, N]), .dat (rulesD rs), .dat (.int most), .dat L, .dat N, .own (natsD (sizes (ts.take j))), .dat (.int (j : Int))]) (by simp only [runM, mkEnv, List.replicate, List.cons_append, List.nil_append, sSeq, sIf, sRet, sAsg, sAsgN, sDrop, sSkip_ap, eBin_ap, eUn_ap, eVarD_0, eVarD_s, eVar_0d, eVar_0o, eVar_0b, eVar_s, eCall_0, eCall_1, eCall_2, eCall_3, eCall_4, bLen_l, bLen_t, bind_ok, bMin_ii, bMax_ii, dAdd_ii, dSub_ii, dLt_ii, dLe_ii, dGt_ii, dGe_ii, dEq_ii, dNe_ii, dEq_ss, dNe_ss, dEq_bb, List.length_map, decide_true, decide_false, eC_ap, set_0, set_s, eNot, eAnd, eOr, eIf, eIsi_ap, isT_n, isT_b, isT_i, isT_s, isT_l, isT_t, gN_ap, Bool.not_true, Bool.not_false, beq_self_eq_true, Bool.or_self, Bool.or_false, Bool.false_or, Bool.or_true, Bool.true_or, String.reduceBEq, Int.reduceLT, Int.reduceLE, Int.reduceEq, eTup_0, eTup_1, eTup_2, eTup_3, eLst_0, eLst_1, eLst_2, eLst_3, eLst_4, bTuple_l, bTuple_t, bList_l, bList_t, dNeg_i, bind_ex, len0, len1, len2, len3, len4, is_nn, is_in, is_sn, is_ln, is_tn, isn_nn, isn_in, isn_sn, isn_ln, isn_tn, ix, good_rule_ok r j ok]) (nx_of (ρ' := [.dat (.tuple [L, N]), .dat (rulesD rs), .dat (.int most), .dat L, .dat N, .own (natsD (sizes (ts.take (j + 1)))), .dat (.int (j : Int))]) ?_ ⟨_, rfl⟩)⟩
        rw [app_ok (ds := (sizes (ts.take j)).map fun (n : Nat) => PyData.int (n : Int)) (d := .int (r.size (sizes (ts.take j)) : Nat)) rfl (by simp only [runM, mkEnv, List.replicate, List.cons_append, List.nil_append, sSeq, sIf, sRet, sAsg, sAsgN, sDrop, sSkip_ap, eBin_ap, eUn_ap, eVarD_0, eVarD_s, eVar_0d, eVar_0o, eVar_0b, eVar_s, eCall_0, eCall_1, eCall_2, eCall_3, eCall_4, bLen_l, bLen_t, bind_ok, bMin_ii, bMax_ii, dAdd_ii, dSub_ii, dLt_ii, dLe_ii, dGt_ii, dGe_ii, dEq_ii, dNe_ii, dEq_ss, dNe_ss, dEq_bb, List.length_map, decide_true, decide_false, eC_ap, set_0, set_s, eNot, eAnd, eOr, eIf, eIsi_ap, isT_n, isT_b, isT_i, isT_s, isT_l, isT_t, gN_ap, Bool.not_true, Bool.not_false, beq_self_eq_true, Bool.or_self, Bool.or_false, Bool.false_or, Bool.or_true, Bool.true_or, String.reduceBEq, Int.reduceLT, Int.reduceLE, Int.reduceEq, eTup_0, eTup_1, eTup_2, eTup_3, eLst_0, eLst_1, eLst_2, eLst_3, eLst_4, bTuple_l, bTuple_t, bList_l, bList_t, dNeg_i, bind_ex, len0, len1, len2, len3, len4, is_nn, is_in, is_sn, is_ln, is_tn, isn_nn, isn_in, isn_sn, isn_ln, isn_tn, ix, e]) (by
          rw [List.length_map, li]
          exact sz_lt' (by omega)), et, sizes_snoc]
        simp [natsD])
    rw [List.length_map, List.length_range, List.take_length] at h
    exact h
  · rintro ρ ⟨k6, rfl⟩
    refine rt_seq (ρ' := [.dat (.tuple [L, N]), .dat (rulesD rs), .dat (.int most), .dat L, .dat N, .own (natsD (sizes ts)), k6]) ?_ ?_
    · rw [hN]
      cases n with
      | none => simp only [nameD, runM, mkEnv, List.replicate, List.cons_append, List.nil_append, sSeq, sIf, sRet, sAsg, sAsgN, sDrop, sSkip_ap, eBin_ap, eUn_ap, eVarD_0, eVarD_s, eVar_0d, eVar_0o, eVar_0b, eVar_s, eCall_0, eCall_1, eCall_2, eCall_3, eCall_4, bLen_l, bLen_t, bind_ok, bMin_ii, bMax_ii, dAdd_ii, dSub_ii, dLt_ii, dLe_ii, dGt_ii, dGe_ii, dEq_ii, dNe_ii, dEq_ss, dNe_ss, dEq_bb, List.length_map, decide_true, decide_false, eC_ap, set_0, set_s, eNot, eAnd, eOr, eIf, eIsi_ap, isT_n, isT_b, isT_i, isT_s, isT_l, isT_t, gN_ap, Bool.not_true, Bool.not_false, beq_self_eq_true, Bool.or_self, Bool.or_false, Bool.false_or, Bool.or_true, Bool.true_or, String.reduceBEq, Int.reduceLT, Int.reduceLE, Int.reduceEq, eTup_0, eTup_1, eTup_2, eTup_3, eLst_0, eLst_1, eLst_2, eLst_3, eLst_4, bTuple_l, bTuple_t, bList_l, bList_t, dNeg_i, bind_ex, len0, len1, len2, len3, len4, is_nn, is_in, is_sn, is_ln, is_tn, isn_nn, isn_in, isn_sn, isn_ln, isn_tn, dIsNot, dIs]
      | some k => simp only [nameD, runM, mkEnv, List.replicate, List.cons_append, List.nil_append, sSeq, sIf, sRet, sAsg, sAsgN, sDrop, sSkip_ap, eBin_ap, eUn_ap, eVarD_0, eVarD_s, eVar_0d, eVar_0o, eVar_0b, eVar_s, eCall_0, eCall_1, eCall_2, eCall_3, eCall_4, bLen_l, bLen_t, bind_ok, bMin_ii, bMax_ii, dAdd_ii, dSub_ii, dLt_ii, dLe_ii, dGt_ii, dGe_ii, dEq_ii, dNe_ii, dEq_ss, dNe_ss, dEq_bb, List.length_map, decide_true, decide_false, eC_ap, set_0, set_s, eNot, eAnd, eOr, eIf, eIsi_ap, isT_n, isT_b, isT_i, isT_s, isT_l, isT_t, gN_ap, Bool.not_true, Bool.not_false, beq_self_eq_true, Bool.or_self, Bool.or_false, Bool.false_or, Bool.or_true, Bool.true_or, String.reduceBEq, Int.reduceLT, Int.reduceLE, Int.reduceEq, eTup_0, eTup_1, eTup_2, eTup_3, eLst_0, eLst_1, eLst_2, eLst_3, eLst_4, bTuple_l, bTuple_t, bList_l, bList_t, dNeg_i, bind_ex, len0, len1, len2, len3, len4, is_nn, is_in, is_sn, is_ln, is_tn, isn_nn, isn_in, isn_sn, isn_ln, isn_tn, dIsNot, dIs, lwhole_ok, eChain, lenL, show (0 : Int) ≤ (k : Int) by omega, show (k : Int) < (ts.length : Int) by have := hn k rfl; omega]
    obtain ⟨z, hz, hz2⟩ := max_nats (sizes ts) MOST f
    have hp : dPow (.int 2) (.int 60) = .ok (.int ((MOST : Nat) : Int)) := dPow_ok (by decide) (by decide) (by decide)
    have ad : dAdd (.list [.int 0]) (natsD (sizes ts)) = .ok (.list (.int 0 :: (sizes ts).map fun (n : Nat) => PyData.int (n : Int))) := dAdd_ll (by simp [sizes_len]; exact sz_le (by omega))
    have hzz : ¬ ((MOST : Nat) : Int) < z := by omega
    refine rt_seq (ρ' := [.dat (.tuple [L, N]), .dat (rulesD rs), .dat (.int most), .dat L, .dat N, .own (natsD (sizes ts)), k6]) (by simp only [runM, mkEnv, List.replicate, List.cons_append, List.nil_append, sSeq, sIf, sRet, sAsg, sAsgN, sDrop, sSkip_ap, eBin_ap, eUn_ap, eVarD_0, eVarD_s, eVar_0d, eVar_0o, eVar_0b, eVar_s, eCall_0, eCall_1, eCall_2, eCall_3, eCall_4, bLen_l, bLen_t, bind_ok, bMin_ii, bMax_ii, dAdd_ii, dSub_ii, dLt_ii, dLe_ii, dGt_ii, dGe_ii, dEq_ii, dNe_ii, dEq_ss, dNe_ss, dEq_bb, List.length_map, decide_true, decide_false, eC_ap, set_0, set_s, eNot, eAnd, eOr, eIf, eIsi_ap, isT_n, isT_b, isT_i, isT_s, isT_l, isT_t, gN_ap, Bool.not_true, Bool.not_false, beq_self_eq_true, Bool.or_self, Bool.or_false, Bool.false_or, Bool.or_true, Bool.true_or, String.reduceBEq, Int.reduceLT, Int.reduceLE, Int.reduceEq, eTup_0, eTup_1, eTup_2, eTup_3, eLst_0, eLst_1, eLst_2, eLst_3, eLst_4, bTuple_l, bTuple_t, bList_l, bList_t, dNeg_i, bind_ex, len0, len1, len2, len3, len4, is_nn, is_in, is_sn, is_ln, is_tn, isn_nn, isn_in, isn_sn, isn_ln, isn_tn, ad, hz, hp, hzz]) ?_
    exact ⟨_, rfl, rfl⟩
end Sb

namespace Sb
open PySem PySem.Spec L2 Evl DL
theorem name_ok (c : Int) (rs : List Rule) (h : 1 ≤ rs.length) (hl : rs.length ≤ 90000) : ∃ n, NameOk rs n ∧ m__law_name [.int c, .int ((rs.length : Nat) : Int)] = .ok (nameD n) := by
  by_cases h0 : c % 8 = 0
  · exact ⟨none, NameOk.none, by simp (disch := omega) only [m__law_name, b__law_name, runM, mkEnv, List.replicate, List.cons_append, List.nil_append, sSeq, sIf, sRet, sAsg, sAsgN, sDrop, sSkip_ap, eBin_ap, eUn_ap, eVarD_0, eVarD_s, eVar_0d, eVar_0o, eVar_0b, eVar_s, eCall_0, eCall_1, eCall_2, eCall_3, eCall_4, bLen_l, bLen_t, bind_ok, bMin_ii, bMax_ii, dAdd_ii, dSub_ii, dLt_ii, dLe_ii, dGt_ii, dGe_ii, dEq_ii, dNe_ii, dEq_ss, dNe_ss, dEq_bb, List.length_map, decide_true, decide_false, eC_ap, set_0, set_s, eNot, eAnd, eOr, eIf, eIsi_ap, isT_n, isT_b, isT_i, isT_s, isT_l, isT_t, gN_ap, Bool.not_true, Bool.not_false, beq_self_eq_true, Bool.or_self, Bool.or_false, Bool.false_or, Bool.or_true, Bool.true_or, String.reduceBEq, Int.reduceLT, Int.reduceLE, Int.reduceEq, eTup_0, eTup_1, eTup_2, eTup_3, eLst_0, eLst_1, eLst_2, eLst_3, eLst_4, bTuple_l, bTuple_t, bList_l, bList_t, dNeg_i, bind_ex, len0, len1, len2, len3, len4, is_nn, is_in, is_sn, is_ln, is_tn, isn_nn, isn_in, isn_sn, isn_ln, isn_tn, dDiv_w, dMul_w, dMod_ok, dPow_ok, bDivmod_w, Int.reducePow, Int.reduceToNat, Int.reduceNeg, Int.reduceAdd, Int.reduceSub, Int.reduceMul, Int.reduceDiv, Int.reduceMod, h0, nameD]⟩
  · by_cases h1 : c % 8 < 4
    · refine ⟨some (rs.length - 1), NameOk.some (by omega), ?_⟩
      simp (disch := omega) only [m__law_name, b__law_name, runM, mkEnv, List.replicate, List.cons_append, List.nil_append, sSeq, sIf, sRet, sAsg, sAsgN, sDrop, sSkip_ap, eBin_ap, eUn_ap, eVarD_0, eVarD_s, eVar_0d, eVar_0o, eVar_0b, eVar_s, eCall_0, eCall_1, eCall_2, eCall_3, eCall_4, bLen_l, bLen_t, bind_ok, bMin_ii, bMax_ii, dAdd_ii, dSub_ii, dLt_ii, dLe_ii, dGt_ii, dGe_ii, dEq_ii, dNe_ii, dEq_ss, dNe_ss, dEq_bb, List.length_map, decide_true, decide_false, eC_ap, set_0, set_s, eNot, eAnd, eOr, eIf, eIsi_ap, isT_n, isT_b, isT_i, isT_s, isT_l, isT_t, gN_ap, Bool.not_true, Bool.not_false, beq_self_eq_true, Bool.or_self, Bool.or_false, Bool.false_or, Bool.or_true, Bool.true_or, String.reduceBEq, Int.reduceLT, Int.reduceLE, Int.reduceEq, eTup_0, eTup_1, eTup_2, eTup_3, eLst_0, eLst_1, eLst_2, eLst_3, eLst_4, bTuple_l, bTuple_t, bList_l, bList_t, dNeg_i, bind_ex, len0, len1, len2, len3, len4, is_nn, is_in, is_sn, is_ln, is_tn, isn_nn, isn_in, isn_sn, isn_ln, isn_tn, dDiv_w, dMul_w, dMod_ok, dPow_ok, bDivmod_w, Int.reducePow, Int.reduceToNat, Int.reduceNeg, Int.reduceAdd, Int.reduceSub, Int.reduceMul, Int.reduceDiv, Int.reduceMod, h0, h1, nameD]
      rw [show (rs.length : Int) - 1 = ((rs.length - 1 : Nat) : Int) by omega]
    · have a0 := Int.emod_nonneg (c / 8) (show (rs.length : Int) ≠ 0 by omega)
      have a1 := Int.emod_lt_of_pos (c / 8) (show (0 : Int) < (rs.length : Int) by omega)
      refine ⟨some (c / 8 % (rs.length : Int)).toNat, NameOk.some (by omega), ?_⟩
      simp (disch := omega) only [m__law_name, b__law_name, runM, mkEnv, List.replicate, List.cons_append, List.nil_append, sSeq, sIf, sRet, sAsg, sAsgN, sDrop, sSkip_ap, eBin_ap, eUn_ap, eVarD_0, eVarD_s, eVar_0d, eVar_0o, eVar_0b, eVar_s, eCall_0, eCall_1, eCall_2, eCall_3, eCall_4, bLen_l, bLen_t, bind_ok, bMin_ii, bMax_ii, dAdd_ii, dSub_ii, dLt_ii, dLe_ii, dGt_ii, dGe_ii, dEq_ii, dNe_ii, dEq_ss, dNe_ss, dEq_bb, List.length_map, decide_true, decide_false, eC_ap, set_0, set_s, eNot, eAnd, eOr, eIf, eIsi_ap, isT_n, isT_b, isT_i, isT_s, isT_l, isT_t, gN_ap, Bool.not_true, Bool.not_false, beq_self_eq_true, Bool.or_self, Bool.or_false, Bool.false_or, Bool.or_true, Bool.true_or, String.reduceBEq, Int.reduceLT, Int.reduceLE, Int.reduceEq, eTup_0, eTup_1, eTup_2, eTup_3, eLst_0, eLst_1, eLst_2, eLst_3, eLst_4, bTuple_l, bTuple_t, bList_l, bList_t, dNeg_i, bind_ex, len0, len1, len2, len3, len4, is_nn, is_in, is_sn, is_ln, is_tn, isn_nn, isn_in, isn_sn, isn_ln, isn_tn, dDiv_w, dMul_w, dMod_ok, dPow_ok, bDivmod_w, Int.reducePow, Int.reduceToNat, Int.reduceNeg, Int.reduceAdd, Int.reduceSub, Int.reduceMul, Int.reduceDiv, Int.reduceMod, h0, h1, nameD]
      rw [Int.toNat_of_nonneg a0]
theorem far_ok (c : Int) (h : 0 ≤ c) : ∃ f : Nat, m__law_far [.int c] = .ok (.int (f : Int)) := by
  have h3 : c % 3 = 0 ∨ c % 3 = 1 ∨ c % 3 = 2 := by omega
  rcases h3 with e | e | e
  · exact ⟨0, by simp (disch := omega) only [m__law_far, b__law_far, runM, mkEnv, List.replicate, List.cons_append, List.nil_append, sSeq, sIf, sRet, sAsg, sAsgN, sDrop, sSkip_ap, eBin_ap, eUn_ap, eVarD_0, eVarD_s, eVar_0d, eVar_0o, eVar_0b, eVar_s, eCall_0, eCall_1, eCall_2, eCall_3, eCall_4, bLen_l, bLen_t, bind_ok, bMin_ii, bMax_ii, dAdd_ii, dSub_ii, dLt_ii, dLe_ii, dGt_ii, dGe_ii, dEq_ii, dNe_ii, dEq_ss, dNe_ss, dEq_bb, List.length_map, decide_true, decide_false, eC_ap, set_0, set_s, eNot, eAnd, eOr, eIf, eIsi_ap, isT_n, isT_b, isT_i, isT_s, isT_l, isT_t, gN_ap, Bool.not_true, Bool.not_false, beq_self_eq_true, Bool.or_self, Bool.or_false, Bool.false_or, Bool.or_true, Bool.true_or, String.reduceBEq, Int.reduceLT, Int.reduceLE, Int.reduceEq, eTup_0, eTup_1, eTup_2, eTup_3, eLst_0, eLst_1, eLst_2, eLst_3, eLst_4, bTuple_l, bTuple_t, bList_l, bList_t, dNeg_i, bind_ex, len0, len1, len2, len3, len4, is_nn, is_in, is_sn, is_ln, is_tn, isn_nn, isn_in, isn_sn, isn_ln, isn_tn, dDiv_w, dMul_w, dMod_ok, dPow_ok, bDivmod_w, Int.reducePow, Int.reduceToNat, Int.reduceNeg, Int.reduceAdd, Int.reduceSub, Int.reduceMul, Int.reduceDiv, Int.reduceMod, e]; rfl⟩
  · refine ⟨(c / 3 % 7).toNat, ?_⟩
    rw [Int.toNat_of_nonneg (by omega)]
    simp (disch := omega) only [m__law_far, b__law_far, runM, mkEnv, List.replicate, List.cons_append, List.nil_append, sSeq, sIf, sRet, sAsg, sAsgN, sDrop, sSkip_ap, eBin_ap, eUn_ap, eVarD_0, eVarD_s, eVar_0d, eVar_0o, eVar_0b, eVar_s, eCall_0, eCall_1, eCall_2, eCall_3, eCall_4, bLen_l, bLen_t, bind_ok, bMin_ii, bMax_ii, dAdd_ii, dSub_ii, dLt_ii, dLe_ii, dGt_ii, dGe_ii, dEq_ii, dNe_ii, dEq_ss, dNe_ss, dEq_bb, List.length_map, decide_true, decide_false, eC_ap, set_0, set_s, eNot, eAnd, eOr, eIf, eIsi_ap, isT_n, isT_b, isT_i, isT_s, isT_l, isT_t, gN_ap, Bool.not_true, Bool.not_false, beq_self_eq_true, Bool.or_self, Bool.or_false, Bool.false_or, Bool.or_true, Bool.true_or, String.reduceBEq, Int.reduceLT, Int.reduceLE, Int.reduceEq, eTup_0, eTup_1, eTup_2, eTup_3, eLst_0, eLst_1, eLst_2, eLst_3, eLst_4, bTuple_l, bTuple_t, bList_l, bList_t, dNeg_i, bind_ex, len0, len1, len2, len3, len4, is_nn, is_in, is_sn, is_ln, is_tn, isn_nn, isn_in, isn_sn, isn_ln, isn_tn, dDiv_w, dMul_w, dMod_ok, dPow_ok, bDivmod_w, Int.reducePow, Int.reduceToNat, Int.reduceNeg, Int.reduceAdd, Int.reduceSub, Int.reduceMul, Int.reduceDiv, Int.reduceMod, e]
    rfl
  · refine ⟨(c / 3).toNat, ?_⟩
    rw [Int.toNat_of_nonneg (by omega)]
    simp (disch := omega) only [m__law_far, b__law_far, runM, mkEnv, List.replicate, List.cons_append, List.nil_append, sSeq, sIf, sRet, sAsg, sAsgN, sDrop, sSkip_ap, eBin_ap, eUn_ap, eVarD_0, eVarD_s, eVar_0d, eVar_0o, eVar_0b, eVar_s, eCall_0, eCall_1, eCall_2, eCall_3, eCall_4, bLen_l, bLen_t, bind_ok, bMin_ii, bMax_ii, dAdd_ii, dSub_ii, dLt_ii, dLe_ii, dGt_ii, dGe_ii, dEq_ii, dNe_ii, dEq_ss, dNe_ss, dEq_bb, List.length_map, decide_true, decide_false, eC_ap, set_0, set_s, eNot, eAnd, eOr, eIf, eIsi_ap, isT_n, isT_b, isT_i, isT_s, isT_l, isT_t, gN_ap, Bool.not_true, Bool.not_false, beq_self_eq_true, Bool.or_self, Bool.or_false, Bool.false_or, Bool.or_true, Bool.true_or, String.reduceBEq, Int.reduceLT, Int.reduceLE, Int.reduceEq, eTup_0, eTup_1, eTup_2, eTup_3, eLst_0, eLst_1, eLst_2, eLst_3, eLst_4, bTuple_l, bTuple_t, bList_l, bList_t, dNeg_i, bind_ex, len0, len1, len2, len3, len4, is_nn, is_in, is_sn, is_ln, is_tn, isn_nn, isn_in, isn_sn, isn_ln, isn_tn, dDiv_w, dMul_w, dMod_ok, dPow_ok, bDivmod_w, Int.reducePow, Int.reduceToNat, Int.reduceNeg, Int.reduceAdd, Int.reduceSub, Int.reduceMul, Int.reduceDiv, Int.reduceMod, e]
    rfl
end Sb

namespace Sb
open PySem PySem.Spec L2 Evl DL
/-- a rule as a key -/
def rkey : Rule → List Key
  | .sign c => [.inr SIGN, .inr (s1 c)]
  | .join a b => [.inr JOIN, .inl (a : Int), .inl (b : Int)]
  | .times a n => [.inr TIMES, .inl (a : Int), .inl (n : Int)]
theorem rkey_D (r : Rule) : PyData.tuple ((rkey r).map keyD) = ruleD r := by cases r <;> rfl
theorem tKey_rule (r : Rule) : tKey (ruleD r) = some (rkey r) := by cases r <;> rfl
theorem rkey_inj {r q : Rule} (h : rkey r = rkey q) : r = q := ruleD_inj (by rw [← rkey_D, ← rkey_D, h])
/-- the rows that are kept, by their rules -/
def keptE (qs : List Rule) : List (D × D) := qs.zipIdx.map fun p => (ruleD p.1, PyData.int ((p.2 : Nat) : Int))
theorem kept_snoc (qs : List Rule) (r : Rule) : keptE (qs ++ [r]) = keptE qs ++ [(ruleD r, PyData.int ((qs.length : Nat) : Int))] := by
  unfold keptE
  rw [List.zipIdx_append, List.map_append]
  simp
theorem kept_len (qs : List Rule) : (keptE qs).length = qs.length := by simp [keptE]
theorem kept_any (r : Rule) : ∀ qs : List Rule, (keptE qs).any (fun q => decide (tKey q.1 = some (rkey r))) = decide (r ∈ qs) := by
  refine snocInd (by simp [keptE]) fun qs q ih => ?_
  rw [kept_snoc, List.any_append, ih]
  by_cases e : q = r
  · subst e
    simp [tKey_rule]
  · have k0 : ¬ (tKey (ruleD q) = some (rkey r)) := fun z => e (rkey_inj (by rw [tKey_rule] at z; exact Option.some.inj z))
    have e' : ¬ r = q := fun z => e z.symm
    simp [k0, e']
theorem kept_find (r : Rule) : ∀ qs : List Rule, (∀ x : Nat, ¬ r ∈ qs → tFind (keptE qs) (rkey r) = none) ∧ (∀ x : Nat, qs.Nodup → qs[x]? = some r → tFind (keptE qs) (rkey r) = some (.int ((x : Nat) : Int))) := by
  refine snocInd ⟨fun _ _ => rfl, fun x _ h => by simp at h⟩ fun qs q ih => ?_
  unfold tFind at ih ⊢
  rw [kept_snoc, List.find?_append]
  constructor
  · intro x h
    have h1 : ¬ r ∈ qs := fun z => h (by simp [z])
    have e : ¬ q = r := fun z => h (by simp [z])
    have k0 : ¬ (tKey (ruleD q) = some (rkey r)) := fun z => e (rkey_inj (by rw [tKey_rule] at z; exact Option.some.inj z))
    have := ih.1 0 h1
    rw [Option.map_eq_none_iff] at this
    rw [this]
    simp [k0]
  · intro x nd h
    rw [List.nodup_append] at nd
    by_cases hx : x < qs.length
    · rw [List.getElem?_append_left hx] at h
      have := ih.2 x nd.1 h
      rw [Option.map_eq_some_iff] at this
      obtain ⟨p, hp, e⟩ := this
      rw [hp]
      simp [e]
    · have hl := (List.getElem?_eq_some_iff.mp h).1
      have ex : x = qs.length := by simp at hl; omega
      subst ex
      have eq : q = r := by simpa using h
      subst eq
      have h1 : ¬ q ∈ qs := fun z => nd.2.2 q z q (by simp) rfl
      have := ih.1 0 h1
      rw [Option.map_eq_none_iff] at this
      rw [this]
      simp [tKey_rule]
theorem kept_in (qs : List Rule) (r : Rule) (nd : qs.Nodup) : dInT true (ruleD r) (tD (keptE qs)) = .ok (.bool (decide (¬ r ∈ qs))) := by
  simp only [dInT, tKey_rule]
  congr 2
  by_cases h : r ∈ qs
  · obtain ⟨x, hx, e⟩ := List.getElem_of_mem h
    rw [(kept_find r qs).2 x nd (by simp [hx, e])]
    simp [h]
  · rw [(kept_find r qs).1 0 h]
    simp [h]
theorem kept_get (qs : List Rule) (r : Rule) (nd : qs.Nodup) (x : Nat) (hx : qs[x]? = some r) : dTGet (tD (keptE qs)) (ruleD r) = .ok (.int ((x : Nat) : Int)) := by
  simp only [dTGet, tKey_rule, (kept_find r qs).2 x nd hx]
theorem kept_store (qs : List Rule) (r : Rule) (h : ¬ r ∈ qs) : tStore (keptE qs) (rkey r) (.int ((qs.length : Nat) : Int)) = keptE (qs ++ [r]) := by
  unfold tStore
  rw [kept_any, if_neg (by simp [h]), rkey_D, kept_snoc]
theorem ren_congrT {r : Rule} {f f' : Nat → Nat} (h : ∀ a ∈ r.parts, f a = f' a) : r.ren f = r.ren f' := by
  cases r with
  | sign c => rfl
  | join a b => rw [Rule.ren, Rule.ren, h a (by simp [Rule.parts]), h b (by simp [Rule.parts])]
  | times a n => rw [Rule.ren, Rule.ren, h a (by simp [Rule.parts])]
theorem ren_txT {r : Rule} {f : Nat → Nat} {ts ts' : List (List Nat)} (h : ∀ a ∈ r.parts, ts'.getD (f a) [] = ts.getD a []) : (r.ren f).tx ts' = r.tx ts := by
  cases r with
  | sign c => rfl
  | join a b => simp only [Rule.ren, Rule.tx, h a (by simp [Rule.parts]), h b (by simp [Rule.parts])]
  | times a n => simp only [Rule.ren, Rule.tx, h a (by simp [Rule.parts])]
theorem ren_okT {r : Rule} {f : Nat → Nat} {i n : Nat} (ok : r.ok i) (h : ∀ a ∈ r.parts, f a < n) : (r.ren f).ok n := by
  cases r with
  | sign c => exact ok
  | join a b => exact ⟨h a (by simp [Rule.parts]), h b (by simp [Rule.parts])⟩
  | times a m => exact ⟨h a (by simp [Rule.parts]), ok.2⟩
theorem ren_partsT {r : Rule} {f : Nat → Nat} : (r.ren f).parts = r.parts.map f := by cases r <;> rfl
/-- rows that tell what ks need, each rule once -/
structure Td (rs : List Rule) (ks : List Nat) (qs : List Rule) (f : Nat → Nat) : Prop where
  g : Good qs
  fits : Fits MOST qs
  nd : qs.Nodup
  len : qs.length ≤ ks.length
  lt : ∀ i ∈ ks, f i < qs.length
  tx : ∀ i ∈ ks, (texts qs).getD (f i) [] = (texts rs).getD i []
  row : ∀ i ∈ ks, ∀ r, rs[i]? = some r → qs[f i]? = some (r.ren f)
  hit : ∀ x, x < qs.length → ∃ i ∈ ks, f i = x
theorem Td.step {rs : List Rule} (g : Good rs) (fr : Fits MOST rs) {ks : List Nat} {qs : List Rule} {f : Nat → Nat} (h : Td rs ks qs f) {i : Nat} {r : Rule} (hr : rs[i]? = some r) (hp : ∀ a ∈ r.parts, a ∈ ks) (hc : ∀ j ∈ ks, ∀ q, rs[j]? = some q → ∀ a ∈ q.parts, a ∈ ks) (hi : ¬ i ∈ ks) :
    (∀ x, qs[x]? = some (r.ren f) → Td rs (ks ++ [i]) qs (fun y => if y = i then x else f y)) ∧ (¬ r.ren f ∈ qs → Td rs (ks ++ [i]) (qs ++ [r.ren f]) (fun y => if y = i then qs.length else f y)) := by
  have ok := g i r hr
  have okr : (r.ren f).ok qs.length := ren_okT ok fun a ha => h.lt a (hp a ha)
  have txr : (r.ren f).tx (texts qs) = (texts rs).getD i [] := by
    rw [texts_at g hr]
    exact ren_txT fun a ha => h.tx a (hp a ha)
  have ne : ∀ a ∈ ks, ¬ a = i := fun a ha z => hi (by rw [← z]; exact ha)
  have agree : ∀ (x : Nat) (q : Rule), (∀ a ∈ q.parts, a ∈ ks) → q.ren (fun y => if y = i then x else f y) = q.ren f := fun x q hq => ren_congrT fun a ha => by
    show (if a = i then x else f a) = f a
    rw [if_neg (ne a (hq a ha))]
  constructor
  · intro x hx
    have hxl := (List.getElem?_eq_some_iff.mp hx).1
    refine ⟨h.g, h.fits, h.nd, by have := h.len; simp; omega, fun j hj => ?_, fun j hj => ?_, fun j hj q hq => ?_, fun y hy => ?_⟩
    · rcases List.mem_append.mp hj with hj | hj
      · show (if j = i then x else f j) < _
        rw [if_neg (ne j hj)]
        exact h.lt j hj
      · rw [List.mem_singleton.mp hj]
        show (if i = i then x else f i) < _
        rw [if_pos rfl]
        exact hxl
    · rcases List.mem_append.mp hj with hj | hj
      · show (texts qs).getD (if j = i then x else f j) [] = _
        rw [if_neg (ne j hj)]
        exact h.tx j hj
      · rw [List.mem_singleton.mp hj]
        show (texts qs).getD (if i = i then x else f i) [] = _
        rw [if_pos rfl, texts_at h.g hx, txr]
    · rcases List.mem_append.mp hj with hj | hj
      · show qs[(if j = i then x else f j)]? = _
        rw [if_neg (ne j hj), agree x q (hc j hj q hq)]
        exact h.row j hj q hq
      · have ej := List.mem_singleton.mp hj
        subst ej
        rw [hr] at hq
        cases hq
        show qs[(if j = j then x else f j)]? = _
        rw [if_pos rfl, agree x r hp]
        exact hx
    · obtain ⟨j, hj, e⟩ := h.hit y hy
      exact ⟨j, List.mem_append_left _ hj, by show (if j = i then x else f j) = y; rw [if_neg (ne j hj)]; exact e⟩
  · intro hn
    have gq : Good (qs ++ [r.ren f]) := h.g.snoc okr
    have sz : (r.ren f).size (sizes qs) ≤ MOST := by
      have := sizes_last qs (r.ren f)
      rw [← this, ← texts_size, texts_last, txr, texts_size]
      exact fr.get i
    refine ⟨gq, h.fits.snoc sz, ?_, by have := h.len; simp; omega, fun j hj => ?_, fun j hj => ?_, fun j hj q hq => ?_, fun y hy => ?_⟩
    · rw [List.nodup_append]
      exact ⟨h.nd, by simp, fun a ha b hb => by
        rw [List.mem_singleton.mp hb]
        intro z
        rw [z] at ha
        exact hn ha⟩
    · rcases List.mem_append.mp hj with hj | hj
      · show (if j = i then qs.length else f j) < _
        rw [if_neg (ne j hj)]
        have := h.lt j hj
        simp
        omega
      · rw [List.mem_singleton.mp hj]
        show (if i = i then qs.length else f i) < _
        rw [if_pos rfl]
        simp
    · rcases List.mem_append.mp hj with hj | hj
      · show (texts (qs ++ [r.ren f])).getD (if j = i then qs.length else f j) [] = _
        rw [if_neg (ne j hj), texts_get (h.lt j hj)]
        exact h.tx j hj
      · rw [List.mem_singleton.mp hj]
        show (texts (qs ++ [r.ren f])).getD (if i = i then qs.length else f i) [] = _
        rw [if_pos rfl, texts_last, txr]
    · rcases List.mem_append.mp hj with hj | hj
      · show (qs ++ [r.ren f])[(if j = i then qs.length else f j)]? = _
        rw [if_neg (ne j hj), agree qs.length q (hc j hj q hq), List.getElem?_append_left (h.lt j hj)]
        exact h.row j hj q hq
      · have ej := List.mem_singleton.mp hj
        subst ej
        rw [hr] at hq
        cases hq
        show (qs ++ [r.ren f])[(if j = j then qs.length else f j)]? = _
        rw [if_pos rfl, agree qs.length r hp]
        simp
    · rw [List.length_append, List.length_singleton] at hy
      by_cases e : y = qs.length
      · exact ⟨i, by simp, by show (if i = i then qs.length else f i) = y; rw [if_pos rfl, e]⟩
      · obtain ⟨j, hj, e2⟩ := h.hit y (by omega)
        exact ⟨j, List.mem_append_left _ hj, by show (if j = i then qs.length else f j) = y; rw [if_neg (ne j hj)]; exact e2⟩
theorem tidy_no (rs : List Rule) (z : Int) (h : z < 0 ∨ (rs.length : Int) ≤ z) : m_tidy [rulesD rs, .int z] = .ex "NoName" := by
  simp only [m_tidy, b_tidy, runM, mkEnv, List.replicate, List.cons_append, List.nil_append, sSeq, sIf, sRet, sAsg, sAsgN, sDrop, sSkip_ap, eBin_ap, eUn_ap, eVarD_0, eVarD_s, eVar_0d, eVar_0o, eVar_0b, eVar_s, eCall_0, eCall_1, eCall_2, eCall_3, eCall_4, bLen_l, bLen_t, bind_ok, bMin_ii, bMax_ii, dAdd_ii, dSub_ii, dLt_ii, dLe_ii, dGt_ii, dGe_ii, dEq_ii, dNe_ii, dEq_ss, dNe_ss, dEq_bb, List.length_map, decide_true, decide_false, eC_ap, set_0, set_s, eNot, eAnd, eOr, eIf, eIsi_ap, isT_n, isT_b, isT_i, isT_s, isT_l, isT_t, gN_ap, Bool.not_true, Bool.not_false, beq_self_eq_true, Bool.or_self, Bool.or_false, Bool.false_or, Bool.or_true, Bool.true_or, String.reduceBEq, Int.reduceLT, Int.reduceLE, Int.reduceEq, eTup_0, eTup_1, eTup_2, eTup_3, eLst_0, eLst_1, eLst_2, eLst_3, eLst_4, bTuple_l, bTuple_t, bList_l, bList_t, dNeg_i, bind_ex, len0, len1, len2, len3, len4, is_nn, is_in, is_sn, is_ln, is_tn, isn_nn, isn_in, isn_sn, isn_ln, isn_tn, named_ex rs z h]
theorem up_num (f : Nat → Nat) (i x : Nat) (ks : List Nat) : mpD (upF (fun y => .int ((f y : Nat) : Int)) i (.int ((x : Nat) : Int))) ks = mpD (fun y => .int (((if y = i then x else f y : Nat) : Nat) : Int)) ks := mp_congr fun j _ => by
  unfold upF
  split
  · rfl
  · rfl
theorem tidy_fold (rs : List Rule) (g : Good rs) (f : Fits MOST rs) (hl : rs.length ≤ 30000) (n : Option Nat) (hn : NameOk rs n) : ∃ ks qs fn, NeedN rs n ks ∧ Td rs ks qs fn ∧ tfold rs ks = (qs, fn) ∧ m_tidy [rulesD rs, nameD n] = .ok (.tuple [rulesD qs, nameD (n.map fn)]) := by
  obtain ⟨ks, ek, nk⟩ := needed_n rs g hl n hn
  have nm := named_n rs n hn
  have kl := nk.len
  obtain ⟨L, hL⟩ : ∃ L, L = rulesD rs := ⟨_, rfl⟩
  obtain ⟨N, hN⟩ : ∃ N, N = nameD n := ⟨_, rfl⟩
  have ixr : ∀ (a : Nat) r, rs[a]? = some r → dIx L (.int (a : Int)) = .ok (ruleD r) := fun a r h => by rw [hL]; exact dIx_rules h
  rw [← hL, ← hN] at ek nm
  have loop : Nx (sFor (iL (eFrz (eCall m_needed [(eVarD 0), (eVarD 1)]))) (gN 5) (sSeq (sAsg 6 (eCall m_renamed [(eBin dIx (eVarD 0) (eVarD 5)), (eVar 4)]))
  (sSeq (sIf (eBin (dInT true) (eVarD 6) (eVar 3)) (sPutTX 3 (eVarD 6) (xCall 2 m_put [(eVarD 6)])) sSkip)
  (sPutD 4 (eVarD 5) (eBin dTGet (eVar 3) (eVarD 6))))) [.dat (L), .dat (N), .own (rowsD []), .own (tD (keptE [])), .own (.dict (mpD (fun y => .int (((fun _ => 0) y : Nat) : Int)) (ks.take 0))), .un, .un]) fun ρ => ∃ (qs : List Rule) (fn : Nat → Nat) (k5 k6 : Sl), ρ = [.dat (L), .dat (N), .own (rowsD qs), .own (tD (keptE qs)), .own (.dict (mpD (fun y => .int ((fn y : Nat) : Int)) (ks.take (ks.map fun (i : Nat) => PyData.int (i : Int)).length))), k5, k6] ∧ Td rs (ks.take (ks.map fun (i : Nat) => PyData.int (i : Int)).length) qs fn ∧ tfold rs (ks.take (ks.map fun (i : Nat) => PyData.int (i : Int)).length) = (qs, fn) := by
    refine nx_for (ds := ks.map fun (i : Nat) => PyData.int (i : Int)) (fun j ρ => ∃ (qs : List Rule) (fn : Nat → Nat) (k5 k6 : Sl), ρ = [.dat (L), .dat (N), .own (rowsD qs), .own (tD (keptE qs)), .own (.dict (mpD (fun y => .int ((fn y : Nat) : Int)) (ks.take j))), k5, k6] ∧ Td rs (ks.take j) qs fn ∧ tfold rs (ks.take j) = (qs, fn)) (iL_nats (call2_ok rfl rfl ek)) ⟨[], fun _ => 0, _, _, rfl, ⟨Good.nil, fun n hn => by simp [sizes, sizesF] at hn, .nil, by simp, fun i hi => by simp at hi, fun i hi => by simp at hi, fun i hi => by simp at hi, fun x hx => by simp at hx⟩, rfl⟩ ?_
    rintro j d ρ hd ⟨qs, fn, k5, k6, rfl, td, tf⟩
    rw [List.getElem?_map, Option.map_eq_some_iff] at hd
    obtain ⟨i, h1, rfl⟩ := hd
    have him : i ∈ ks := List.mem_of_getElem? h1
    have hir : i < rs.length := nk.lt i him
    have et : ks.take (j + 1) = ks.take j ++ [i] := by
      rw [List.take_add_one, h1]
      rfl
    obtain ⟨ahead, notin⟩ := ahead_mem nk.rise h1
    have hr : rs[i]? = some rs[i] := by simp [hir]
    obtain ⟨r, er⟩ : ∃ r, r = rs[i] := ⟨_, rfl⟩
    rw [← er] at hr
    have ok := g i r hr
    have hp : ∀ a ∈ r.parts, a ∈ ks.take j := fun a ha => ahead a (nk.clo i him r hr a ha) (parts_lt ok a ha)
    have hc : ∀ q ∈ ks.take j, ∀ p, rs[q]? = some p → ∀ a ∈ p.parts, a ∈ ks.take j := fun q hq p hpq a ha => by
      have hqk : q ∈ ks := List.mem_of_mem_take hq
      have hqi : q < i := by
        obtain ⟨y, hy, e⟩ := List.mem_take_iff_getElem.mp hq
        have hj := (List.getElem?_eq_some_iff.mp h1).1
        have hij : ks[j] = i := (List.getElem?_eq_some_iff.mp h1).2
        have := List.pairwise_iff_getElem.mp nk.rise y j (by omega) hj (by omega)
        omega
      have := parts_lt (g q p hpq) a ha
      exact ahead a (nk.clo q hqk p hpq a ha) (by omega)
    obtain ⟨st1, st2⟩ := td.step g f hr hp hc notin
    have tf1 : ∀ x, qs[x]? = some (r.ren fn) → tfold rs (ks.take j ++ [i]) = (qs, fun y => if y = i then x else fn y) := fun x hx => by
      rw [tfold_snoc, tf]
      exact tstep_in hr td.nd hx
    have tf2 : ¬ r.ren fn ∈ qs → tfold rs (ks.take j ++ [i]) = (qs ++ [r.ren fn], fun y => if y = i then qs.length else fn y) := fun hm => by
      rw [tfold_snoc, tf]
      exact tstep_new hr hm
    have tl := td.len
    have tkl : (ks.take j).length ≤ 30000 := by rw [List.length_take]; omega
    have rn := renamed_ok r i ok fn (.dict (mpD (fun y => .int ((fn y : Nat) : Int)) (ks.take j))) (fun a ha => by
      rw [dIxA_dict]
      simp only [dDGet, unm_mp, if_true, keyOf, mp_find _ a _ (hp a ha)])
    obtain ⟨q, hq⟩ : ∃ q, q = r.ren fn := ⟨_, rfl⟩
    rw [← hq] at st1 st2 rn tf1 tf2
    have hz : ∀ F : Nat → D, (mpD F (ks.take j)).length < sizeLine := fun F => by rw [mp_len]; exact sz_lt' (by omega)
    refine ⟨_, gN_ap, ?_⟩
    simp only [set_0, set_s]
    refine nx_seq (ρ' := [.dat (L), .dat (N), .own (rowsD qs), .own (tD (keptE qs)), .own (.dict (mpD (fun y => .int ((fn y : Nat) : Int)) (ks.take j))), .dat (.int (i : Int)), .dat (ruleD q)]) (by simp only [runM, mkEnv, List.replicate, List.cons_append, List.nil_append, sSeq, sIf, sRet, sAsg, sAsgN, sDrop, sSkip_ap, eBin_ap, eUn_ap, eVarD_0, eVarD_s, eVar_0d, eVar_0o, eVar_0b, eVar_s, eCall_0, eCall_1, eCall_2, eCall_3, eCall_4, bLen_l, bLen_t, bind_ok, bMin_ii, bMax_ii, dAdd_ii, dSub_ii, dLt_ii, dLe_ii, dGt_ii, dGe_ii, dEq_ii, dNe_ii, dEq_ss, dNe_ss, dEq_bb, List.length_map, decide_true, decide_false, eC_ap, set_0, set_s, eNot, eAnd, eOr, eIf, eIsi_ap, isT_n, isT_b, isT_i, isT_s, isT_l, isT_t, gN_ap, Bool.not_true, Bool.not_false, beq_self_eq_true, Bool.or_self, Bool.or_false, Bool.false_or, Bool.or_true, Bool.true_or, String.reduceBEq, Int.reduceLT, Int.reduceLE, Int.reduceEq, eTup_0, eTup_1, eTup_2, eTup_3, eLst_0, eLst_1, eLst_2, eLst_3, eLst_4, bTuple_l, bTuple_t, bList_l, bList_t, dNeg_i, bind_ex, len0, len1, len2, len3, len4, is_nn, is_in, is_sn, is_ln, is_tn, isn_nn, isn_in, isn_sn, isn_ln, isn_tn, ixr i r hr, rn]) ?_
    have ki := kept_in qs q td.nd
    rw [et]
    by_cases hin : q ∈ qs
    · obtain ⟨x, hx, ex⟩ := List.getElem_of_mem hin
      have hx2 : qs[x]? = some q := by simp [hx, ex]
      have kg := kept_get qs q td.nd x hx2
      rw [decide_eq_false (fun z => z hin)] at ki
      refine nx_seq (ρ' := [.dat (L), .dat (N), .own (rowsD qs), .own (tD (keptE qs)), .own (.dict (mpD (fun y => .int ((fn y : Nat) : Int)) (ks.take j))), .dat (.int (i : Int)), .dat (ruleD q)]) (by
        rw [if_f (by simp only [eBin_ap, eVarD_0, eVarD_s, eVar_0o, eVar_s, bind_ok]; exact ki)]
        rfl) ?_
      refine nx_of (ρ' := [.dat (L), .dat (N), .own (rowsD qs), .own (tD (keptE qs)), .own (.dict (mpD (fun y => .int (((if y = i then x else fn y : Nat) : Nat) : Int)) (ks.take j ++ [i]))), .dat (.int (i : Int)), .dat (ruleD q)]) ?_ ⟨qs, _, _, _, rfl, st1 x hx2, tf1 x hx2⟩
      have ev : eBin dTGet (eVar 3) (eVarD 6) [.dat (L), .dat (N), .own (rowsD qs), .own (tD (keptE qs)), .own (.dict (mpD (fun y => .int ((fn y : Nat) : Int)) (ks.take j))), .dat (.int (i : Int)), .dat (ruleD q)] = .ok (.int ((x : Nat) : Int)) := by
        simp only [eBin_ap, eVarD_0, eVarD_s, eVar_0o, eVar_s, bind_ok]
        exact kg
      simp only [sPutD, ev, eVarD_0, eVarD_s, List.getElem?_cons_succ, List.getElem?_cons_zero, keyOf, hz, if_true, unm_mp, mp_new _ i _ _ notin, set_0, set_s]
      rw [up_num]
    · rw [decide_eq_true hin] at ki
      have pu := put_ok qs q (by omega)
      have nd2 := (st2 hin).nd
      have kg := kept_get (qs ++ [q]) q nd2 qs.length (by simp)
      have kz : (keptE qs).length < sizeLine := by rw [kept_len]; exact sz_lt' (by omega)
      have ex : xCall 2 m_put [(eVarD 6)] [.dat (L), .dat (N), .own (rowsD qs), .own (tD (keptE qs)), .own (.dict (mpD (fun y => .int ((fn y : Nat) : Int)) (ks.take j))), .dat (.int (i : Int)), .dat (ruleD q)] = .ok (.int ((qs.length : Nat) : Int)) [.dat (L), .dat (N), .own (rowsD (qs ++ [q])), .own (tD (keptE qs)), .own (.dict (mpD (fun y => .int ((fn y : Nat) : Int)) (ks.take j))), .dat (.int (i : Int)), .dat (ruleD q)] := by
        have ev : evA [(eVarD 6)] [.dat (L), .dat (N), .own (rowsD qs), .own (tD (keptE qs)), .own (.dict (mpD (fun y => .int ((fn y : Nat) : Int)) (ks.take j))), .dat (.int (i : Int)), .dat (ruleD q)] = .ok [ruleD q] := by simp only [evA, runM, mkEnv, List.replicate, List.cons_append, List.nil_append, sSeq, sIf, sRet, sAsg, sAsgN, sDrop, sSkip_ap, eBin_ap, eUn_ap, eVarD_0, eVarD_s, eVar_0d, eVar_0o, eVar_0b, eVar_s, eCall_0, eCall_1, eCall_2, eCall_3, eCall_4, bLen_l, bLen_t, bind_ok, bMin_ii, bMax_ii, dAdd_ii, dSub_ii, dLt_ii, dLe_ii, dGt_ii, dGe_ii, dEq_ii, dNe_ii, dEq_ss, dNe_ss, dEq_bb, List.length_map, decide_true, decide_false, eC_ap, set_0, set_s, eNot, eAnd, eOr, eIf, eIsi_ap, isT_n, isT_b, isT_i, isT_s, isT_l, isT_t, gN_ap, Bool.not_true, Bool.not_false, beq_self_eq_true, Bool.or_self, Bool.or_false, Bool.false_or, Bool.or_true, Bool.true_or, String.reduceBEq, Int.reduceLT, Int.reduceLE, Int.reduceEq, eTup_0, eTup_1, eTup_2, eTup_3, eLst_0, eLst_1, eLst_2, eLst_3, eLst_4, bTuple_l, bTuple_t, bList_l, bList_t, dNeg_i, bind_ex, len0, len1, len2, len3, len4, is_nn, is_in, is_sn, is_ln, is_tn, isn_nn, isn_in, isn_sn, isn_ln, isn_tn]
        simp only [xCall, List.getElem?_cons_zero, List.getElem?_cons_succ, ev, pu]
        rfl
      refine nx_seq (ρ' := [.dat (L), .dat (N), .own (rowsD (qs ++ [q])), .own (tD (keptE (qs ++ [q]))), .own (.dict (mpD (fun y => .int ((fn y : Nat) : Int)) (ks.take j))), .dat (.int (i : Int)), .dat (ruleD q)]) (by
        rw [if_t (by simp only [eBin_ap, eVarD_0, eVarD_s, eVar_0o, eVar_s, bind_ok]; exact ki)]
        simp only [sPutTX, ex, eVarD_0, eVarD_s, List.getElem?_cons_succ, List.getElem?_cons_zero, tKey_rule, kz, if_true, kept_store qs q hin, set_0, set_s]) ?_
      refine nx_of (ρ' := [.dat (L), .dat (N), .own (rowsD (qs ++ [q])), .own (tD (keptE (qs ++ [q]))), .own (.dict (mpD (fun y => .int (((if y = i then qs.length else fn y : Nat) : Nat) : Int)) (ks.take j ++ [i]))), .dat (.int (i : Int)), .dat (ruleD q)]) ?_ ⟨qs ++ [q], _, _, _, rfl, st2 hin, tf2 hin⟩
      have ev : eBin dTGet (eVar 3) (eVarD 6) [.dat (L), .dat (N), .own (rowsD (qs ++ [q])), .own (tD (keptE (qs ++ [q]))), .own (.dict (mpD (fun y => .int ((fn y : Nat) : Int)) (ks.take j))), .dat (.int (i : Int)), .dat (ruleD q)] = .ok (.int ((qs.length : Nat) : Int)) := by
        simp only [eBin_ap, eVarD_0, eVarD_s, eVar_0o, eVar_s, bind_ok]
        exact kg
      simp only [sPutD, ev, eVarD_0, eVarD_s, List.getElem?_cons_succ, List.getElem?_cons_zero, keyOf, hz, if_true, unm_mp, mp_new _ i _ _ notin, set_0, set_s]
      rw [up_num]
  rw [List.length_map, List.take_length] at loop
  obtain ⟨ρ1, lo, qs, fn, k5, k6, rfl, td, tf⟩ := loop
  refine ⟨ks, qs, fn, nk, td, tf, ?_⟩
  have key : ∀ d, eGetN (eVar 4) (eVarD 1) [.dat (L), .dat (N), .own (rowsD qs), .own (tD (keptE qs)), .own (.dict (mpD (fun y => .int ((fn y : Nat) : Int)) ks)), k5, k6] = .ok d → m_tidy [L, N] = .ok (.tuple [rulesD qs, d]) := fun d hd => by
    refine rt_run' ?_
    show Rt (b_tidy [.dat (L), .dat (N), .un, .un, .un, .un, .un]) _
    unfold b_tidy
    refine rt_seq (ρ' := [.dat (L), .dat (N), .un, .un, .un, .un, .un]) (drop_ok (call2_ok rfl rfl nm)) ?_
    refine rt_seq (ρ' := [.dat (L), .dat (N), .own (rowsD []), .un, .un, .un, .un]) (by simp only [runM, mkEnv, List.replicate, List.cons_append, List.nil_append, sSeq, sIf, sRet, sAsg, sAsgN, sDrop, sSkip_ap, eBin_ap, eUn_ap, eVarD_0, eVarD_s, eVar_0d, eVar_0o, eVar_0b, eVar_s, eCall_0, eCall_1, eCall_2, eCall_3, eCall_4, bLen_l, bLen_t, bind_ok, bMin_ii, bMax_ii, dAdd_ii, dSub_ii, dLt_ii, dLe_ii, dGt_ii, dGe_ii, dEq_ii, dNe_ii, dEq_ss, dNe_ss, dEq_bb, List.length_map, decide_true, decide_false, eC_ap, set_0, set_s, eNot, eAnd, eOr, eIf, eIsi_ap, isT_n, isT_b, isT_i, isT_s, isT_l, isT_t, gN_ap, Bool.not_true, Bool.not_false, beq_self_eq_true, Bool.or_self, Bool.or_false, Bool.false_or, Bool.or_true, Bool.true_or, String.reduceBEq, Int.reduceLT, Int.reduceLE, Int.reduceEq, eTup_0, eTup_1, eTup_2, eTup_3, eLst_0, eLst_1, eLst_2, eLst_3, eLst_4, bTuple_l, bTuple_t, bList_l, bList_t, dNeg_i, bind_ex, len0, len1, len2, len3, len4, is_nn, is_in, is_sn, is_ln, is_tn, isn_nn, isn_in, isn_sn, isn_ln, isn_tn]; rfl) ?_
    refine rt_seq (ρ' := [.dat (L), .dat (N), .own (rowsD []), .own (tD (keptE [])), .un, .un, .un]) rfl ?_
    refine rt_seq (ρ' := [.dat (L), .dat (N), .own (rowsD []), .own (tD (keptE [])), .own (.dict (mpD (fun y => .int (((fun _ => 0) y : Nat) : Int)) (ks.take 0))), .un, .un]) rfl ?_
    refine rt_seq lo ?_
    have bt : bTuple [rowsD qs] = .ok (rulesD qs) := rfl
    exact rt_ret (by simp only [runM, mkEnv, List.replicate, List.cons_append, List.nil_append, sSeq, sIf, sRet, sAsg, sAsgN, sDrop, sSkip_ap, eBin_ap, eUn_ap, eVarD_0, eVarD_s, eVar_0d, eVar_0o, eVar_0b, eVar_s, eCall_0, eCall_1, eCall_2, eCall_3, eCall_4, bLen_l, bLen_t, bind_ok, bMin_ii, bMax_ii, dAdd_ii, dSub_ii, dLt_ii, dLe_ii, dGt_ii, dGe_ii, dEq_ii, dNe_ii, dEq_ss, dNe_ss, dEq_bb, List.length_map, decide_true, decide_false, eC_ap, set_0, set_s, eNot, eAnd, eOr, eIf, eIsi_ap, isT_n, isT_b, isT_i, isT_s, isT_l, isT_t, gN_ap, Bool.not_true, Bool.not_false, beq_self_eq_true, Bool.or_self, Bool.or_false, Bool.false_or, Bool.or_true, Bool.true_or, String.reduceBEq, Int.reduceLT, Int.reduceLE, Int.reduceEq, eTup_0, eTup_1, eTup_2, eTup_3, eLst_0, eLst_1, eLst_2, eLst_3, eLst_4, bTuple_l, bTuple_t, bList_l, bList_t, dNeg_i, bind_ex, len0, len1, len2, len3, len4, is_nn, is_in, is_sn, is_ln, is_tn, isn_nn, isn_in, isn_sn, isn_ln, isn_tn, hd, bt]) rfl
  rw [← hL, ← hN]
  cases n with
  | none =>
    refine key .none ?_
    rw [hN]
    simp only [eGetN, runM, mkEnv, List.replicate, List.cons_append, List.nil_append, sSeq, sIf, sRet, sAsg, sAsgN, sDrop, sSkip_ap, eBin_ap, eUn_ap, eVarD_0, eVarD_s, eVar_0d, eVar_0o, eVar_0b, eVar_s, eCall_0, eCall_1, eCall_2, eCall_3, eCall_4, bLen_l, bLen_t, bind_ok, bMin_ii, bMax_ii, dAdd_ii, dSub_ii, dLt_ii, dLe_ii, dGt_ii, dGe_ii, dEq_ii, dNe_ii, dEq_ss, dNe_ss, dEq_bb, List.length_map, decide_true, decide_false, eC_ap, set_0, set_s, eNot, eAnd, eOr, eIf, eIsi_ap, isT_n, isT_b, isT_i, isT_s, isT_l, isT_t, gN_ap, Bool.not_true, Bool.not_false, beq_self_eq_true, Bool.or_self, Bool.or_false, Bool.false_or, Bool.or_true, Bool.true_or, String.reduceBEq, Int.reduceLT, Int.reduceLE, Int.reduceEq, eTup_0, eTup_1, eTup_2, eTup_3, eLst_0, eLst_1, eLst_2, eLst_3, eLst_4, bTuple_l, bTuple_t, bList_l, bList_t, dNeg_i, bind_ex, len0, len1, len2, len3, len4, is_nn, is_in, is_sn, is_ln, is_tn, isn_nn, isn_in, isn_sn, isn_ln, isn_tn, nameD, unm_mp, if_true]
    rfl
  | some k =>
    have hk := nk.2.top
    refine key _ ?_
    rw [hN]
    simp only [eGetN, runM, mkEnv, List.replicate, List.cons_append, List.nil_append, sSeq, sIf, sRet, sAsg, sAsgN, sDrop, sSkip_ap, eBin_ap, eUn_ap, eVarD_0, eVarD_s, eVar_0d, eVar_0o, eVar_0b, eVar_s, eCall_0, eCall_1, eCall_2, eCall_3, eCall_4, bLen_l, bLen_t, bind_ok, bMin_ii, bMax_ii, dAdd_ii, dSub_ii, dLt_ii, dLe_ii, dGt_ii, dGe_ii, dEq_ii, dNe_ii, dEq_ss, dNe_ss, dEq_bb, List.length_map, decide_true, decide_false, eC_ap, set_0, set_s, eNot, eAnd, eOr, eIf, eIsi_ap, isT_n, isT_b, isT_i, isT_s, isT_l, isT_t, gN_ap, Bool.not_true, Bool.not_false, beq_self_eq_true, Bool.or_self, Bool.or_false, Bool.false_or, Bool.or_true, Bool.true_or, String.reduceBEq, Int.reduceLT, Int.reduceLE, Int.reduceEq, eTup_0, eTup_1, eTup_2, eTup_3, eLst_0, eLst_1, eLst_2, eLst_3, eLst_4, bTuple_l, bTuple_t, bList_l, bList_t, dNeg_i, bind_ex, len0, len1, len2, len3, len4, is_nn, is_in, is_sn, is_ln, is_tn, isn_nn, isn_in, isn_sn, isn_ln, isn_tn, nameD, dGetN, dGet1, unm_mp, if_true, keyOf, mp_find _ k _ hk]
    rfl
theorem tidy_ok (rs : List Rule) (g : Good rs) (f : Fits MOST rs) (hl : rs.length ≤ 30000) (n : Option Nat) (hn : NameOk rs n) : ∃ ks qs fn, NeedN rs n ks ∧ Td rs ks qs fn ∧ m_tidy [rulesD rs, nameD n] = .ok (.tuple [rulesD qs, nameD (n.map fn)]) := by
  obtain ⟨ks, qs, fn, a, b, _, c⟩ := tidy_fold rs g f hl n hn
  exact ⟨ks, qs, fn, a, b, c⟩
end Sb

namespace Sb
open PySem PySem.Spec L2 Evl DL
/-- the marks -/
def mkE (n : Nat) (S : List Nat) : List D := (List.range n).map fun i => PyData.bool (decide (i ∈ S))
theorem mk_len (n : Nat) (S : List Nat) : (mkE n S).length = n := by simp [mkE]
theorem mk_ix {n : Nat} {S : List Nat} {i : Nat} (h : i < n) : dIx (.list (mkE n S)) (.int ((i : Nat) : Int)) = .ok (.bool (decide (i ∈ S))) := by
  rw [dIx_lg (by omega) (by rw [mk_len]; omega)]
  simp [mkE, List.getD, h]
theorem mk_set (n : Nat) (S : List Nat) (k : Nat) : (mkE n S).set k (.bool true) = mkE n (k :: S) := by
  apply List.ext_getElem?
  intro i
  rw [List.getElem?_set]
  unfold mkE
  by_cases e : k = i
  · subst e
    by_cases h : k < n <;> simp [h]
  · have e' : ¬ i = k := fun z => e z.symm
    by_cases h : i < n <;> simp [e, e', h]
theorem mk_new (n : Nat) : (List.replicate n [PyData.bool false]).flatten = mkE n [] := by
  unfold mkE
  rw [List.flatten_replicate_singleton]
  apply List.ext_getElem?
  intro i
  by_cases h : i < n <;> simp [h]
theorem zero_new (n : Nat) : (List.replicate n [PyData.int 0]).flatten = ((List.range n).map (fun _ => 0)).map fun (n : Nat) => PyData.int (n : Int) := by
  rw [List.flatten_replicate_singleton]
  apply List.ext_getElem?
  intro i
  by_cases h : i < n <;> simp [h]
theorem num_set (n : Nat) (f : Nat → Nat) (k x : Nat) : (((List.range n).map f).map fun (n : Nat) => PyData.int (n : Int)).set k (.int ((x : Nat) : Int)) = ((List.range n).map (fun y => if y = k then x else f y)).map fun (n : Nat) => PyData.int (n : Int) := by
  apply List.ext_getElem?
  intro i
  rw [List.getElem?_set]
  by_cases e : k = i
  · subst e
    by_cases h : k < n <;> simp [h]
  · have e' : ¬ i = k := fun z => e z.symm
    by_cases h : i < n <;> simp [e, e', h]
theorem nx_imp {o : Out} {P Q : DL.Env → Prop} (h : Nx o P) (hi : ∀ ρ, P ρ → Q ρ) : Nx o Q := by
  obtain ⟨ρ, e, p⟩ := h
  exact ⟨ρ, e, hi ρ p⟩
theorem ixN_nat {n k : Nat} (h : k < n) : ixN n ((k : Nat) : Int) = some k := by
  unfold ixN
  rw [if_pos (by omega), if_pos (by omega)]
  simp
theorem setL_ok {ρ : DL.Env} {i k : Nat} {mk mv : EM} {d : D} {ds : List D} (h0 : ρ[i]? = some (.own (.list ds))) (hk : mk ρ = .ok (.int ((k : Nat) : Int))) (hv : mv ρ = .ok d) (h : k < ds.length) : sSetL i mk mv ρ = .nx (ρ.set i (.own (.list (ds.set k d)))) := by
  simp only [sSetL, hv, h0, hk, ixN_nat h]
theorem setLX_ok {ρ ρ' : DL.Env} {i k : Nat} {mk : EM} {mv : XM} {d : D} {ds : List D} (hv : mv ρ = .ok d ρ') (h0 : ρ'[i]? = some (.own (.list ds))) (hk : mk ρ' = .ok (.int ((k : Nat) : Int))) (h : k < ds.length) : sSetLX i mk mv ρ = .nx (ρ'.set i (.own (.list (ds.set k d)))) := by
  simp only [sSetLX, hv, h0, hk, ixN_nat h]
theorem lrenamed_ok (r : Rule) (i n : Nat) (h : r.ok i) (hi : i ≤ n) (f : Nat → Nat) : m__law_renamed [ruleD r, natsD ((List.range n).map f)] = .ok (ruleD (r.ren f)) := by
  have ix : ∀ a, a < i → dIx (natsD ((List.range n).map f)) (.int (a : Int)) = .ok (.int ((f a : Nat) : Int)) := fun a ha => by
    rw [dIx_nats (by simp; omega)]
    simp [List.getD, show a < n by omega]
  cases r with
  | sign c => simp only [m__law_renamed, b__law_renamed, runM, mkEnv, List.replicate, List.cons_append, List.nil_append, sSeq, sIf, sRet, sAsg, sAsgN, sDrop, sSkip_ap, eBin_ap, eUn_ap, eVarD_0, eVarD_s, eVar_0d, eVar_0o, eVar_0b, eVar_s, eCall_0, eCall_1, eCall_2, eCall_3, eCall_4, bLen_l, bLen_t, bind_ok, bMin_ii, bMax_ii, dAdd_ii, dSub_ii, dLt_ii, dLe_ii, dGt_ii, dGe_ii, dEq_ii, dNe_ii, dEq_ss, dNe_ss, dEq_bb, List.length_map, decide_true, decide_false, eC_ap, set_0, set_s, eNot, eAnd, eOr, eIf, eIsi_ap, isT_n, isT_b, isT_i, isT_s, isT_l, isT_t, gN_ap, Bool.not_true, Bool.not_false, beq_self_eq_true, Bool.or_self, Bool.or_false, Bool.false_or, Bool.or_true, Bool.true_or, String.reduceBEq, Int.reduceLT, Int.reduceLE, Int.reduceEq, eTup_0, eTup_1, eTup_2, eTup_3, eLst_0, eLst_1, eLst_2, eLst_3, eLst_4, bTuple_l, bTuple_t, bList_l, bList_t, dNeg_i, bind_ex, len0, len1, len2, len3, len4, is_nn, is_in, is_sn, is_ln, is_tn, isn_nn, isn_in, isn_sn, isn_ln, isn_tn, ruleD, dIx_t0, Rule.ren]
  | join a b => simp only [m__law_renamed, b__law_renamed, runM, mkEnv, List.replicate, List.cons_append, List.nil_append, sSeq, sIf, sRet, sAsg, sAsgN, sDrop, sSkip_ap, eBin_ap, eUn_ap, eVarD_0, eVarD_s, eVar_0d, eVar_0o, eVar_0b, eVar_s, eCall_0, eCall_1, eCall_2, eCall_3, eCall_4, bLen_l, bLen_t, bind_ok, bMin_ii, bMax_ii, dAdd_ii, dSub_ii, dLt_ii, dLe_ii, dGt_ii, dGe_ii, dEq_ii, dNe_ii, dEq_ss, dNe_ss, dEq_bb, List.length_map, decide_true, decide_false, eC_ap, set_0, set_s, eNot, eAnd, eOr, eIf, eIsi_ap, isT_n, isT_b, isT_i, isT_s, isT_l, isT_t, gN_ap, Bool.not_true, Bool.not_false, beq_self_eq_true, Bool.or_self, Bool.or_false, Bool.false_or, Bool.or_true, Bool.true_or, String.reduceBEq, Int.reduceLT, Int.reduceLE, Int.reduceEq, eTup_0, eTup_1, eTup_2, eTup_3, eLst_0, eLst_1, eLst_2, eLst_3, eLst_4, bTuple_l, bTuple_t, bList_l, bList_t, dNeg_i, bind_ex, len0, len1, len2, len3, len4, is_nn, is_in, is_sn, is_ln, is_tn, isn_nn, isn_in, isn_sn, isn_ln, isn_tn, ruleD, dIx_t0, dIx_t1, dIx_t2, js, ix a h.1, ix b h.2, Rule.ren]
  | times a m => simp only [m__law_renamed, b__law_renamed, runM, mkEnv, List.replicate, List.cons_append, List.nil_append, sSeq, sIf, sRet, sAsg, sAsgN, sDrop, sSkip_ap, eBin_ap, eUn_ap, eVarD_0, eVarD_s, eVar_0d, eVar_0o, eVar_0b, eVar_s, eCall_0, eCall_1, eCall_2, eCall_3, eCall_4, bLen_l, bLen_t, bind_ok, bMin_ii, bMax_ii, dAdd_ii, dSub_ii, dLt_ii, dLe_ii, dGt_ii, dGe_ii, dEq_ii, dNe_ii, dEq_ss, dNe_ss, dEq_bb, List.length_map, decide_true, decide_false, eC_ap, set_0, set_s, eNot, eAnd, eOr, eIf, eIsi_ap, isT_n, isT_b, isT_i, isT_s, isT_l, isT_t, gN_ap, Bool.not_true, Bool.not_false, beq_self_eq_true, Bool.or_self, Bool.or_false, Bool.false_or, Bool.or_true, Bool.true_or, String.reduceBEq, Int.reduceLT, Int.reduceLE, Int.reduceEq, eTup_0, eTup_1, eTup_2, eTup_3, eLst_0, eLst_1, eLst_2, eLst_3, eLst_4, bTuple_l, bTuple_t, bList_l, bList_t, dNeg_i, bind_ex, len0, len1, len2, len3, len4, is_nn, is_in, is_sn, is_ln, is_tn, isn_nn, isn_in, isn_sn, isn_ln, isn_tn, ruleD, dIx_t0, dIx_t1, dIx_t2, ts, tj, ix a h.1, Rule.ren]
theorem kept_keys (qs : List Rule) : dTupK (tD (keptE qs)) = .ok (rulesD qs) := by
  show ER.ok (PyData.tuple ((keptE qs).map (·.1))) = _
  unfold keptE rulesD
  rw [List.map_map]
  congr 2
  show List.map (ruleD ∘ Prod.fst) qs.zipIdx = _
  rw [← List.map_map, List.zipIdx_map_fst]
theorem filter_snoc {S : List Nat} (j : Nat) : (List.range (j + 1)).filter (fun i => decide (i ∈ S)) = (List.range j).filter (fun i => decide (i ∈ S)) ++ (if j ∈ S then [j] else []) := by
  rw [List.range_succ, List.filter_append]
  by_cases h : j ∈ S <;> simp [h]
theorem ltidied_ok (rs : List Rule) (g : Good rs) (hl : rs.length ≤ 30000) (k : Nat) (hk : k < rs.length) : ∃ ks, Need rs k ks ∧ m__law_tidied [rulesD rs, .int (k : Int)] = .ok (rulesD (tfold rs ks).1) := by
  obtain ⟨L, hL⟩ : ∃ L, L = rulesD rs := ⟨_, rfl⟩
  have len : bLen [L] = .ok (.int ((rs.length : Nat) : Int)) := by rw [hL]; exact rulesD_len rs
  have ixr : ∀ (a : Nat) r, rs[a]? = some r → dIx L (.int (a : Int)) = .ok (ruleD r) := fun a r h => by rw [hL]; exact dIx_rules h
  have rep : ∀ d : D, dRepL (.list [d]) (.int ((rs.length : Nat) : Int)) = .ok (.list (List.replicate rs.length [d]).flatten) := fun d => by
    have hz : ([d].length) * ((rs.length : Nat) : Int).toNat ≤ sizeLine := by
      simp
      exact sz_le (by omega)
    simp only [dRepL]
    rw [if_pos ⟨by omega, by omega, hz⟩]
    simp
  obtain ⟨n, hn⟩ : ∃ n, n = rs.length := ⟨_, rfl⟩
  rw [← hn] at len rep
  have loop1 : Nx (sFor (iR3 (eBin dSub (eCall bLen [(eVarD 0)]) (eC (.int 1))) (eUn dNeg (eC (.int 1))) (eUn dNeg (eC (.int 1)))) (gN 3) (sIf (eAnd (eBin dIx (eVar 2) (eVarD 3)) (eBin dNe (eBin dIx (eBin dIx (eVarD 0) (eVarD 3)) (eC (.int 0))) (eC (.str "sign")))) (sSeq (sSetL 2 (eBin dIx (eBin dIx (eVarD 0) (eVarD 3)) (eC (.int 1))) (eC (.bool true)))
  (sIf (eBin dEq (eBin dIx (eBin dIx (eVarD 0) (eVarD 3)) (eC (.int 0))) (eC (.str "join"))) (sSetL 2 (eBin dIx (eBin dIx (eVarD 0) (eVarD 3)) (eC (.int 2))) (eC (.bool true))) sSkip)) sSkip) [.dat (L), .dat (.int (k : Int)), .own (.list (mkE n [k])), .un, .un, .un])
      fun ρ => ∃ (S : List Nat) (k3 : Sl), ρ = [.dat (L), .dat (.int (k : Int)), .own (.list (mkE n S)), k3, .un, .un] ∧ k ∈ S ∧ (∀ i ∈ S, i ≤ k) ∧ (∀ i ∈ S, ∀ r, rs[i]? = some r → ∀ p ∈ r.parts, p ∈ S) ∧ ∀ i ∈ S, i = k ∨ ∃ j ∈ S, ∃ r, rs[j]? = some r ∧ i ∈ r.parts := by
    refine nx_imp (nx_for (ds := downD ((n : Int) - 1) (-1)) (fun j ρ => ∃ (S : List Nat) (k3 : Sl), ρ = [.dat (L), .dat (.int (k : Int)), .own (.list (mkE n S)), k3, .un, .un] ∧ k ∈ S ∧ (∀ i ∈ S, i ≤ k) ∧ (∀ i ∈ S, n ≤ i + j → ∀ r, rs[i]? = some r → ∀ p ∈ r.parts, p ∈ S) ∧ ∀ i ∈ S, i = k ∨ ∃ j ∈ S, ∃ r, rs[j]? = some r ∧ i ∈ r.parts) ?_ ⟨[k], _, rfl, by simp, by simp, fun i hi h => ?_, fun i hi => .inl (by simpa using hi)⟩ ?_) ?_
    · have c1 : inR ((n : Int) - 1) = true := inR_of (by omega) (by omega)
      have c2 : inR (-1) = true := by decide
      simp only [iR3, evA, runM, mkEnv, List.replicate, List.cons_append, List.nil_append, sSeq, sIf, sRet, sAsg, sAsgN, sDrop, sSkip_ap, eBin_ap, eUn_ap, eVarD_0, eVarD_s, eVar_0d, eVar_0o, eVar_0b, eVar_s, eCall_0, eCall_1, eCall_2, eCall_3, eCall_4, bLen_l, bLen_t, bind_ok, bMin_ii, bMax_ii, dAdd_ii, dSub_ii, dLt_ii, dLe_ii, dGt_ii, dGe_ii, dEq_ii, dNe_ii, dEq_ss, dNe_ss, dEq_bb, List.length_map, decide_true, decide_false, eC_ap, set_0, set_s, eNot, eAnd, eOr, eIf, eIsi_ap, isT_n, isT_b, isT_i, isT_s, isT_l, isT_t, gN_ap, Bool.not_true, Bool.not_false, beq_self_eq_true, Bool.or_self, Bool.or_false, Bool.false_or, Bool.or_true, Bool.true_or, String.reduceBEq, Int.reduceLT, Int.reduceLE, Int.reduceEq, eTup_0, eTup_1, eTup_2, eTup_3, eLst_0, eLst_1, eLst_2, eLst_3, eLst_4, bTuple_l, bTuple_t, bList_l, bList_t, dNeg_i, bind_ex, len0, len1, len2, len3, len4, is_nn, is_in, is_sn, is_ln, is_tn, isn_nn, isn_in, isn_sn, isn_ln, isn_tn, len, eUn_ap, c1, c2, Bool.and_self, if_true]
    · have : i = k := by simpa using hi
      omega
    · rintro j d ρ hd ⟨S, k3, rfl, s2, s3, s4, s6⟩
      have hj := (List.getElem?_eq_some_iff.mp hd).1
      rw [downD_len] at hj
      rw [downD_get _ _ _ hj] at hd
      cases hd
      obtain ⟨m, hm⟩ : ∃ m : Nat, m + j + 1 = n := ⟨n - j - 1, by omega⟩
      have em : (n : Int) - 1 - (j : Int) = (m : Int) := by omega
      rw [em]
      have hmr : m < rs.length := by omega
      have hr : rs[m]? = some rs[m] := by simp [hmr]
      obtain ⟨r, er⟩ : ∃ r, r = rs[m] := ⟨_, rfl⟩
      rw [← er] at hr
      have ix := ixr m r hr
      have ok := g m r hr
      have im := mk_ix (S := S) (show m < n by omega)
      refine ⟨_, gN_ap, ?_⟩
      simp only [set_0, set_s]
      have fin : ∀ S' : List Nat, (∀ i, i ∈ S' ↔ i ∈ r.parts ∨ i ∈ S) → m ∈ S → k ∈ S' ∧ (∀ i ∈ S', i ≤ k) ∧ (∀ i ∈ S', n ≤ i + (j + 1) → ∀ r : Rule, rs[i]? = some r → ∀ p ∈ r.parts, p ∈ S') ∧ ∀ i ∈ S', i = k ∨ ∃ j ∈ S', ∃ r : Rule, rs[j]? = some r ∧ i ∈ r.parts := fun S' hS hmS => by
        refine ⟨(hS k).mpr (.inr s2), fun i hi => ?_, fun i hi hki q hq p hp => ?_, fun i hi => ?_⟩
        · rcases (hS i).mp hi with h | h
          · have := parts_lt ok i h
            have := s3 m hmS
            omega
          · exact s3 i h
        · rcases (hS i).mp hi with h | h
          · have := parts_lt ok i h
            omega
          · by_cases e : i = m
            · rw [e, hr] at hq
              cases hq
              exact (hS p).mpr (.inl hp)
            · exact (hS p).mpr (.inr (s4 i h (by omega) q hq p hp))
        · rcases (hS i).mp hi with h | h
          · exact .inr ⟨m, (hS m).mpr (.inr hmS), r, hr, h⟩
          · rcases s6 i h with h2 | ⟨j2, h2, q, h3, h4⟩
            · exact .inl h2
            · exact .inr ⟨j2, (hS j2).mpr (.inr h2), q, h3, h4⟩
      by_cases hin : m ∈ S
      · cases r with
        | sign c =>
          refine nx_f (by simp only [runM, mkEnv, List.replicate, List.cons_append, List.nil_append, sSeq, sIf, sRet, sAsg, sAsgN, sDrop, sSkip_ap, eBin_ap, eUn_ap, eVarD_0, eVarD_s, eVar_0d, eVar_0o, eVar_0b, eVar_s, eCall_0, eCall_1, eCall_2, eCall_3, eCall_4, bLen_l, bLen_t, bind_ok, bMin_ii, bMax_ii, dAdd_ii, dSub_ii, dLt_ii, dLe_ii, dGt_ii, dGe_ii, dEq_ii, dNe_ii, dEq_ss, dNe_ss, dEq_bb, List.length_map, decide_true, decide_false, eC_ap, set_0, set_s, eNot, eAnd, eOr, eIf, eIsi_ap, isT_n, isT_b, isT_i, isT_s, isT_l, isT_t, gN_ap, Bool.not_true, Bool.not_false, beq_self_eq_true, Bool.or_self, Bool.or_false, Bool.false_or, Bool.or_true, Bool.true_or, String.reduceBEq, Int.reduceLT, Int.reduceLE, Int.reduceEq, eTup_0, eTup_1, eTup_2, eTup_3, eLst_0, eLst_1, eLst_2, eLst_3, eLst_4, bTuple_l, bTuple_t, bList_l, bList_t, dNeg_i, bind_ex, len0, len1, len2, len3, len4, is_nn, is_in, is_sn, is_ln, is_tn, isn_nn, isn_in, isn_sn, isn_ln, isn_tn, im, hin, ix, ruleD, dIx_t0, decide_true]) (nx_of rfl ⟨S, _, rfl, fin S (fun i => by simp [Rule.parts]) hin⟩)
        | join a b =>
          refine nx_t (by simp only [runM, mkEnv, List.replicate, List.cons_append, List.nil_append, sSeq, sIf, sRet, sAsg, sAsgN, sDrop, sSkip_ap, eBin_ap, eUn_ap, eVarD_0, eVarD_s, eVar_0d, eVar_0o, eVar_0b, eVar_s, eCall_0, eCall_1, eCall_2, eCall_3, eCall_4, bLen_l, bLen_t, bind_ok, bMin_ii, bMax_ii, dAdd_ii, dSub_ii, dLt_ii, dLe_ii, dGt_ii, dGe_ii, dEq_ii, dNe_ii, dEq_ss, dNe_ss, dEq_bb, List.length_map, decide_true, decide_false, eC_ap, set_0, set_s, eNot, eAnd, eOr, eIf, eIsi_ap, isT_n, isT_b, isT_i, isT_s, isT_l, isT_t, gN_ap, Bool.not_true, Bool.not_false, beq_self_eq_true, Bool.or_self, Bool.or_false, Bool.false_or, Bool.or_true, Bool.true_or, String.reduceBEq, Int.reduceLT, Int.reduceLE, Int.reduceEq, eTup_0, eTup_1, eTup_2, eTup_3, eLst_0, eLst_1, eLst_2, eLst_3, eLst_4, bTuple_l, bTuple_t, bList_l, bList_t, dNeg_i, bind_ex, len0, len1, len2, len3, len4, is_nn, is_in, is_sn, is_ln, is_tn, isn_nn, isn_in, isn_sn, isn_ln, isn_tn, im, hin, ix, ruleD, dIx_t0, js, decide_true, decide_false]) ?_
          refine nx_seq (ρ' := [.dat (L), .dat (.int (k : Int)), .own (.list (mkE n (a :: S))), .dat (.int (m : Int)), .un, .un]) (by
            rw [setL_ok (k := a) rfl (by simp only [runM, mkEnv, List.replicate, List.cons_append, List.nil_append, sSeq, sIf, sRet, sAsg, sAsgN, sDrop, sSkip_ap, eBin_ap, eUn_ap, eVarD_0, eVarD_s, eVar_0d, eVar_0o, eVar_0b, eVar_s, eCall_0, eCall_1, eCall_2, eCall_3, eCall_4, bLen_l, bLen_t, bind_ok, bMin_ii, bMax_ii, dAdd_ii, dSub_ii, dLt_ii, dLe_ii, dGt_ii, dGe_ii, dEq_ii, dNe_ii, dEq_ss, dNe_ss, dEq_bb, List.length_map, decide_true, decide_false, eC_ap, set_0, set_s, eNot, eAnd, eOr, eIf, eIsi_ap, isT_n, isT_b, isT_i, isT_s, isT_l, isT_t, gN_ap, Bool.not_true, Bool.not_false, beq_self_eq_true, Bool.or_self, Bool.or_false, Bool.false_or, Bool.or_true, Bool.true_or, String.reduceBEq, Int.reduceLT, Int.reduceLE, Int.reduceEq, eTup_0, eTup_1, eTup_2, eTup_3, eLst_0, eLst_1, eLst_2, eLst_3, eLst_4, bTuple_l, bTuple_t, bList_l, bList_t, dNeg_i, bind_ex, len0, len1, len2, len3, len4, is_nn, is_in, is_sn, is_ln, is_tn, isn_nn, isn_in, isn_sn, isn_ln, isn_tn, ix, ruleD, dIx_t1]) rfl (by rw [mk_len]; have := ok.1; omega), mk_set]
            rfl) ?_
          refine nx_t (by simp only [runM, mkEnv, List.replicate, List.cons_append, List.nil_append, sSeq, sIf, sRet, sAsg, sAsgN, sDrop, sSkip_ap, eBin_ap, eUn_ap, eVarD_0, eVarD_s, eVar_0d, eVar_0o, eVar_0b, eVar_s, eCall_0, eCall_1, eCall_2, eCall_3, eCall_4, bLen_l, bLen_t, bind_ok, bMin_ii, bMax_ii, dAdd_ii, dSub_ii, dLt_ii, dLe_ii, dGt_ii, dGe_ii, dEq_ii, dNe_ii, dEq_ss, dNe_ss, dEq_bb, List.length_map, decide_true, decide_false, eC_ap, set_0, set_s, eNot, eAnd, eOr, eIf, eIsi_ap, isT_n, isT_b, isT_i, isT_s, isT_l, isT_t, gN_ap, Bool.not_true, Bool.not_false, beq_self_eq_true, Bool.or_self, Bool.or_false, Bool.false_or, Bool.or_true, Bool.true_or, String.reduceBEq, Int.reduceLT, Int.reduceLE, Int.reduceEq, eTup_0, eTup_1, eTup_2, eTup_3, eLst_0, eLst_1, eLst_2, eLst_3, eLst_4, bTuple_l, bTuple_t, bList_l, bList_t, dNeg_i, bind_ex, len0, len1, len2, len3, len4, is_nn, is_in, is_sn, is_ln, is_tn, isn_nn, isn_in, isn_sn, isn_ln, isn_tn, ix, ruleD, dIx_t0, decide_true]) ?_
          refine nx_of (ρ' := [.dat (L), .dat (.int (k : Int)), .own (.list (mkE n (b :: a :: S))), .dat (.int (m : Int)), .un, .un]) (by
            rw [setL_ok (k := b) rfl (by simp only [runM, mkEnv, List.replicate, List.cons_append, List.nil_append, sSeq, sIf, sRet, sAsg, sAsgN, sDrop, sSkip_ap, eBin_ap, eUn_ap, eVarD_0, eVarD_s, eVar_0d, eVar_0o, eVar_0b, eVar_s, eCall_0, eCall_1, eCall_2, eCall_3, eCall_4, bLen_l, bLen_t, bind_ok, bMin_ii, bMax_ii, dAdd_ii, dSub_ii, dLt_ii, dLe_ii, dGt_ii, dGe_ii, dEq_ii, dNe_ii, dEq_ss, dNe_ss, dEq_bb, List.length_map, decide_true, decide_false, eC_ap, set_0, set_s, eNot, eAnd, eOr, eIf, eIsi_ap, isT_n, isT_b, isT_i, isT_s, isT_l, isT_t, gN_ap, Bool.not_true, Bool.not_false, beq_self_eq_true, Bool.or_self, Bool.or_false, Bool.false_or, Bool.or_true, Bool.true_or, String.reduceBEq, Int.reduceLT, Int.reduceLE, Int.reduceEq, eTup_0, eTup_1, eTup_2, eTup_3, eLst_0, eLst_1, eLst_2, eLst_3, eLst_4, bTuple_l, bTuple_t, bList_l, bList_t, dNeg_i, bind_ex, len0, len1, len2, len3, len4, is_nn, is_in, is_sn, is_ln, is_tn, isn_nn, isn_in, isn_sn, isn_ln, isn_tn, ix, ruleD, dIx_t2]) rfl (by rw [mk_len]; have := ok.2; omega), mk_set]
            rfl) ⟨_, _, rfl, fin _ (fun i => by simp [Rule.parts]; grind) hin⟩
        | times a q =>
          refine nx_t (by simp only [runM, mkEnv, List.replicate, List.cons_append, List.nil_append, sSeq, sIf, sRet, sAsg, sAsgN, sDrop, sSkip_ap, eBin_ap, eUn_ap, eVarD_0, eVarD_s, eVar_0d, eVar_0o, eVar_0b, eVar_s, eCall_0, eCall_1, eCall_2, eCall_3, eCall_4, bLen_l, bLen_t, bind_ok, bMin_ii, bMax_ii, dAdd_ii, dSub_ii, dLt_ii, dLe_ii, dGt_ii, dGe_ii, dEq_ii, dNe_ii, dEq_ss, dNe_ss, dEq_bb, List.length_map, decide_true, decide_false, eC_ap, set_0, set_s, eNot, eAnd, eOr, eIf, eIsi_ap, isT_n, isT_b, isT_i, isT_s, isT_l, isT_t, gN_ap, Bool.not_true, Bool.not_false, beq_self_eq_true, Bool.or_self, Bool.or_false, Bool.false_or, Bool.or_true, Bool.true_or, String.reduceBEq, Int.reduceLT, Int.reduceLE, Int.reduceEq, eTup_0, eTup_1, eTup_2, eTup_3, eLst_0, eLst_1, eLst_2, eLst_3, eLst_4, bTuple_l, bTuple_t, bList_l, bList_t, dNeg_i, bind_ex, len0, len1, len2, len3, len4, is_nn, is_in, is_sn, is_ln, is_tn, isn_nn, isn_in, isn_sn, isn_ln, isn_tn, im, hin, ix, ruleD, dIx_t0, ts, decide_true, decide_false]) ?_
          refine nx_seq (ρ' := [.dat (L), .dat (.int (k : Int)), .own (.list (mkE n (a :: S))), .dat (.int (m : Int)), .un, .un]) (by
            rw [setL_ok (k := a) rfl (by simp only [runM, mkEnv, List.replicate, List.cons_append, List.nil_append, sSeq, sIf, sRet, sAsg, sAsgN, sDrop, sSkip_ap, eBin_ap, eUn_ap, eVarD_0, eVarD_s, eVar_0d, eVar_0o, eVar_0b, eVar_s, eCall_0, eCall_1, eCall_2, eCall_3, eCall_4, bLen_l, bLen_t, bind_ok, bMin_ii, bMax_ii, dAdd_ii, dSub_ii, dLt_ii, dLe_ii, dGt_ii, dGe_ii, dEq_ii, dNe_ii, dEq_ss, dNe_ss, dEq_bb, List.length_map, decide_true, decide_false, eC_ap, set_0, set_s, eNot, eAnd, eOr, eIf, eIsi_ap, isT_n, isT_b, isT_i, isT_s, isT_l, isT_t, gN_ap, Bool.not_true, Bool.not_false, beq_self_eq_true, Bool.or_self, Bool.or_false, Bool.false_or, Bool.or_true, Bool.true_or, String.reduceBEq, Int.reduceLT, Int.reduceLE, Int.reduceEq, eTup_0, eTup_1, eTup_2, eTup_3, eLst_0, eLst_1, eLst_2, eLst_3, eLst_4, bTuple_l, bTuple_t, bList_l, bList_t, dNeg_i, bind_ex, len0, len1, len2, len3, len4, is_nn, is_in, is_sn, is_ln, is_tn, isn_nn, isn_in, isn_sn, isn_ln, isn_tn, ix, ruleD, dIx_t1]) rfl (by rw [mk_len]; have := ok.1; omega), mk_set]
            rfl) ?_
          refine nx_f (by simp only [runM, mkEnv, List.replicate, List.cons_append, List.nil_append, sSeq, sIf, sRet, sAsg, sAsgN, sDrop, sSkip_ap, eBin_ap, eUn_ap, eVarD_0, eVarD_s, eVar_0d, eVar_0o, eVar_0b, eVar_s, eCall_0, eCall_1, eCall_2, eCall_3, eCall_4, bLen_l, bLen_t, bind_ok, bMin_ii, bMax_ii, dAdd_ii, dSub_ii, dLt_ii, dLe_ii, dGt_ii, dGe_ii, dEq_ii, dNe_ii, dEq_ss, dNe_ss, dEq_bb, List.length_map, decide_true, decide_false, eC_ap, set_0, set_s, eNot, eAnd, eOr, eIf, eIsi_ap, isT_n, isT_b, isT_i, isT_s, isT_l, isT_t, gN_ap, Bool.not_true, Bool.not_false, beq_self_eq_true, Bool.or_self, Bool.or_false, Bool.false_or, Bool.or_true, Bool.true_or, String.reduceBEq, Int.reduceLT, Int.reduceLE, Int.reduceEq, eTup_0, eTup_1, eTup_2, eTup_3, eLst_0, eLst_1, eLst_2, eLst_3, eLst_4, bTuple_l, bTuple_t, bList_l, bList_t, dNeg_i, bind_ex, len0, len1, len2, len3, len4, is_nn, is_in, is_sn, is_ln, is_tn, isn_nn, isn_in, isn_sn, isn_ln, isn_tn, ix, ruleD, dIx_t0, tj, decide_false]) (nx_of rfl ⟨_, _, rfl, fin _ (fun i => by simp [Rule.parts]) hin⟩)
      · refine nx_f (by simp only [runM, mkEnv, List.replicate, List.cons_append, List.nil_append, sSeq, sIf, sRet, sAsg, sAsgN, sDrop, sSkip_ap, eBin_ap, eUn_ap, eVarD_0, eVarD_s, eVar_0d, eVar_0o, eVar_0b, eVar_s, eCall_0, eCall_1, eCall_2, eCall_3, eCall_4, bLen_l, bLen_t, bind_ok, bMin_ii, bMax_ii, dAdd_ii, dSub_ii, dLt_ii, dLe_ii, dGt_ii, dGe_ii, dEq_ii, dNe_ii, dEq_ss, dNe_ss, dEq_bb, List.length_map, decide_true, decide_false, eC_ap, set_0, set_s, eNot, eAnd, eOr, eIf, eIsi_ap, isT_n, isT_b, isT_i, isT_s, isT_l, isT_t, gN_ap, Bool.not_true, Bool.not_false, beq_self_eq_true, Bool.or_self, Bool.or_false, Bool.false_or, Bool.or_true, Bool.true_or, String.reduceBEq, Int.reduceLT, Int.reduceLE, Int.reduceEq, eTup_0, eTup_1, eTup_2, eTup_3, eLst_0, eLst_1, eLst_2, eLst_3, eLst_4, bTuple_l, bTuple_t, bList_l, bList_t, dNeg_i, bind_ex, len0, len1, len2, len3, len4, is_nn, is_in, is_sn, is_ln, is_tn, isn_nn, isn_in, isn_sn, isn_ln, isn_tn, im, hin, decide_false]) (nx_of rfl ⟨S, _, rfl, s2, s3, fun i hi hki => ?_, s6⟩)
        refine s4 i hi ?_
        have : i ≠ m := fun z => hin (by rw [← z]; exact hi)
        omega
    · rintro ρ ⟨S, k3, rfl, s2, s3, s4, s6⟩
      refine ⟨S, k3, rfl, s2, s3, fun i hi => s4 i hi ?_, s6⟩
      rw [downD_len]
      omega
  obtain ⟨ρ1, lo1, S, k3, rfl, s2, s3, s4, s6⟩ := loop1
  have nd : Need rs k ((List.range n).filter (fun i => decide (i ∈ S))) := by
    have mem : ∀ i, i ∈ (List.range n).filter (fun i => decide (i ∈ S)) ↔ i ∈ S := fun i => by
      rw [List.mem_filter, List.mem_range]
      constructor
      · intro h
        simpa using h.2
      · intro h
        have := s3 i h
        exact ⟨by omega, by simpa using h⟩
    refine ⟨List.Pairwise.filter _ List.pairwise_lt_range, (mem k).mpr s2, fun i hi => s3 i ((mem i).mp hi), fun i hi r hr p hp => (mem p).mpr (s4 i ((mem i).mp hi) r hr p hp), fun i hi => ?_⟩
    rcases s6 i ((mem i).mp hi) with h | ⟨j, h1, r, h2, h3⟩
    · exact .inl h
    · exact .inr ⟨j, (mem j).mpr h1, r, h2, h3⟩
  refine ⟨_, nd, ?_⟩
  have loop2 : Nx (sFor (iR1 (eCall bLen [(eVarD 0)])) (gN 3) (sIf (eBin dIx (eVar 2) (eVarD 3)) (sSetLX 5 (eVarD 3) (xSetT 4 (eCall m__law_renamed [(eBin dIx (eVarD 0) (eVarD 3)), (eVar 5)]) (eCall bLenT [(eVar 4)]))) sSkip) [.dat (L), .dat (.int (k : Int)), .own (.list (mkE n S)), k3, .own (tD (keptE [])), .own (natsD ((List.range n).map fun _ => 0))])
      fun ρ => ∃ (f : Nat → Nat) (k3 : Sl), ρ = [.dat (L), .dat (.int (k : Int)), .own (.list (mkE n S)), k3, .own (tD (keptE (tfold rs ((List.range n).filter (fun i => decide (i ∈ S)))).1)), .own (natsD ((List.range n).map f))] := by
    refine nx_imp (nx_for (ds := rangeD 0 (n : Int)) (fun j ρ => ∃ (qs : List Rule) (f : Nat → Nat) (k3 : Sl), ρ = [.dat (L), .dat (.int (k : Int)), .own (.list (mkE n S)), k3, .own (tD (keptE qs)), .own (natsD ((List.range n).map f))] ∧ tfold rs ((List.range j).filter (fun i => decide (i ∈ S))) = (qs, f) ∧ qs.Nodup ∧ qs.length ≤ j) ?_ ⟨[], fun _ => 0, _, rfl, rfl, .nil, by simp⟩ ?_) ?_
    · exact iR1_ok (by simp only [runM, mkEnv, List.replicate, List.cons_append, List.nil_append, sSeq, sIf, sRet, sAsg, sAsgN, sDrop, sSkip_ap, eBin_ap, eUn_ap, eVarD_0, eVarD_s, eVar_0d, eVar_0o, eVar_0b, eVar_s, eCall_0, eCall_1, eCall_2, eCall_3, eCall_4, bLen_l, bLen_t, bind_ok, bMin_ii, bMax_ii, dAdd_ii, dSub_ii, dLt_ii, dLe_ii, dGt_ii, dGe_ii, dEq_ii, dNe_ii, dEq_ss, dNe_ss, dEq_bb, List.length_map, decide_true, decide_false, eC_ap, set_0, set_s, eNot, eAnd, eOr, eIf, eIsi_ap, isT_n, isT_b, isT_i, isT_s, isT_l, isT_t, gN_ap, Bool.not_true, Bool.not_false, beq_self_eq_true, Bool.or_self, Bool.or_false, Bool.false_or, Bool.or_true, Bool.true_or, String.reduceBEq, Int.reduceLT, Int.reduceLE, Int.reduceEq, eTup_0, eTup_1, eTup_2, eTup_3, eLst_0, eLst_1, eLst_2, eLst_3, eLst_4, bTuple_l, bTuple_t, bList_l, bList_t, dNeg_i, bind_ex, len0, len1, len2, len3, len4, is_nn, is_in, is_sn, is_ln, is_tn, isn_nn, isn_in, isn_sn, isn_ln, isn_tn, len]) (inR_of (by omega) (by omega))
    · rintro j d ρ hd ⟨qs, f, k3, rfl, tf, nq, ql⟩
      have hj := (List.getElem?_eq_some_iff.mp hd).1
      have hj' : j < n := by
        rw [rangeD_0, List.length_map, List.length_range] at hj
        exact hj
      have ed : d = .int (j : Int) := by
        rw [rangeD_0, List.getElem?_map, List.getElem?_range hj'] at hd
        simpa using hd.symm
      subst ed
      have hr : rs[j]? = some rs[j] := by simp [show j < rs.length by omega]
      obtain ⟨r, er⟩ : ∃ r, r = rs[j] := ⟨_, rfl⟩
      rw [← er] at hr
      have ix := ixr j r hr
      have ok := g j r hr
      have im := mk_ix (S := S) hj'
      have rn := lrenamed_ok r j n ok (by omega) f
      refine ⟨_, gN_ap, ?_⟩
      simp only [set_0, set_s]
      by_cases hin : j ∈ S
      · have ef : (List.range (j + 1)).filter (fun i => decide (i ∈ S)) = (List.range j).filter (fun i => decide (i ∈ S)) ++ [j] := by rw [filter_snoc, if_pos hin]
        refine nx_t (by simp only [runM, mkEnv, List.replicate, List.cons_append, List.nil_append, sSeq, sIf, sRet, sAsg, sAsgN, sDrop, sSkip_ap, eBin_ap, eUn_ap, eVarD_0, eVarD_s, eVar_0d, eVar_0o, eVar_0b, eVar_s, eCall_0, eCall_1, eCall_2, eCall_3, eCall_4, bLen_l, bLen_t, bind_ok, bMin_ii, bMax_ii, dAdd_ii, dSub_ii, dLt_ii, dLe_ii, dGt_ii, dGe_ii, dEq_ii, dNe_ii, dEq_ss, dNe_ss, dEq_bb, List.length_map, decide_true, decide_false, eC_ap, set_0, set_s, eNot, eAnd, eOr, eIf, eIsi_ap, isT_n, isT_b, isT_i, isT_s, isT_l, isT_t, gN_ap, Bool.not_true, Bool.not_false, beq_self_eq_true, Bool.or_self, Bool.or_false, Bool.false_or, Bool.or_true, Bool.true_or, String.reduceBEq, Int.reduceLT, Int.reduceLE, Int.reduceEq, eTup_0, eTup_1, eTup_2, eTup_3, eLst_0, eLst_1, eLst_2, eLst_3, eLst_4, bTuple_l, bTuple_t, bList_l, bList_t, dNeg_i, bind_ex, len0, len1, len2, len3, len4, is_nn, is_in, is_sn, is_ln, is_tn, isn_nn, isn_in, isn_sn, isn_ln, isn_tn, im, hin, decide_true]) ?_
        have nl : ((List.map (fun (n : Nat) => PyData.int (n : Int)) ((List.range n).map f))).length = n := by simp
        have kz : (keptE qs).length < sizeLine := by rw [kept_len]; exact sz_lt' (by omega)
        have e1 : eCall m__law_renamed [(eBin dIx (eVarD 0) (eVarD 3)), (eVar 5)] [.dat (L), .dat (.int (k : Int)), .own (.list (mkE n S)), .dat (.int (j : Int)), .own (tD (keptE qs)), .own (natsD ((List.range n).map f))] = .ok (ruleD (r.ren f)) := by simp only [runM, mkEnv, List.replicate, List.cons_append, List.nil_append, sSeq, sIf, sRet, sAsg, sAsgN, sDrop, sSkip_ap, eBin_ap, eUn_ap, eVarD_0, eVarD_s, eVar_0d, eVar_0o, eVar_0b, eVar_s, eCall_0, eCall_1, eCall_2, eCall_3, eCall_4, bLen_l, bLen_t, bind_ok, bMin_ii, bMax_ii, dAdd_ii, dSub_ii, dLt_ii, dLe_ii, dGt_ii, dGe_ii, dEq_ii, dNe_ii, dEq_ss, dNe_ss, dEq_bb, List.length_map, decide_true, decide_false, eC_ap, set_0, set_s, eNot, eAnd, eOr, eIf, eIsi_ap, isT_n, isT_b, isT_i, isT_s, isT_l, isT_t, gN_ap, Bool.not_true, Bool.not_false, beq_self_eq_true, Bool.or_self, Bool.or_false, Bool.false_or, Bool.or_true, Bool.true_or, String.reduceBEq, Int.reduceLT, Int.reduceLE, Int.reduceEq, eTup_0, eTup_1, eTup_2, eTup_3, eLst_0, eLst_1, eLst_2, eLst_3, eLst_4, bTuple_l, bTuple_t, bList_l, bList_t, dNeg_i, bind_ex, len0, len1, len2, len3, len4, is_nn, is_in, is_sn, is_ln, is_tn, isn_nn, isn_in, isn_sn, isn_ln, isn_tn, ix, rn]
        have e2 : eCall bLenT [(eVar 4)] [.dat (L), .dat (.int (k : Int)), .own (.list (mkE n S)), .dat (.int (j : Int)), .own (tD (keptE qs)), .own (natsD ((List.range n).map f))] = .ok (.int ((qs.length : Nat) : Int)) := by
          simp only [runM, mkEnv, List.replicate, List.cons_append, List.nil_append, sSeq, sIf, sRet, sAsg, sAsgN, sDrop, sSkip_ap, eBin_ap, eUn_ap, eVarD_0, eVarD_s, eVar_0d, eVar_0o, eVar_0b, eVar_s, eCall_0, eCall_1, eCall_2, eCall_3, eCall_4, bLen_l, bLen_t, bind_ok, bMin_ii, bMax_ii, dAdd_ii, dSub_ii, dLt_ii, dLe_ii, dGt_ii, dGe_ii, dEq_ii, dNe_ii, dEq_ss, dNe_ss, dEq_bb, List.length_map, decide_true, decide_false, eC_ap, set_0, set_s, eNot, eAnd, eOr, eIf, eIsi_ap, isT_n, isT_b, isT_i, isT_s, isT_l, isT_t, gN_ap, Bool.not_true, Bool.not_false, beq_self_eq_true, Bool.or_self, Bool.or_false, Bool.false_or, Bool.or_true, Bool.true_or, String.reduceBEq, Int.reduceLT, Int.reduceLE, Int.reduceEq, eTup_0, eTup_1, eTup_2, eTup_3, eLst_0, eLst_1, eLst_2, eLst_3, eLst_4, bTuple_l, bTuple_t, bList_l, bList_t, dNeg_i, bind_ex, len0, len1, len2, len3, len4, is_nn, is_in, is_sn, is_ln, is_tn, isn_nn, isn_in, isn_sn, isn_ln, isn_tn]
          show ER.ok (PyData.int (((keptE qs).length : Nat) : Int)) = _
          rw [kept_len]
        obtain ⟨q, hq⟩ : ∃ q, q = r.ren f := ⟨_, rfl⟩
        by_cases hm : r.ren f ∈ qs
        · obtain ⟨x, hx, ex⟩ := List.getElem_of_mem hm
          have hx2 : qs[x]? = some (r.ren f) := by simp [hx, ex]
          have kf := (kept_find (r.ren f) qs).2 x nq hx2
          refine nx_of (ρ' := [.dat (L), .dat (.int (k : Int)), .own (.list (mkE n S)), .dat (.int (j : Int)), .own (tD (keptE qs)), .own (natsD ((List.range n).map (fun y => if y = j then x else f y)))]) ?_ ⟨qs, _, _, rfl, by rw [ef, tfold_snoc, tf, tstep_in hr nq hx2], nq, by omega⟩
          rw [setLX_ok (ρ' := [.dat (L), .dat (.int (k : Int)), .own (.list (mkE n S)), .dat (.int (j : Int)), .own (tD (keptE qs)), .own (natsD ((List.range n).map f))]) (d := .int ((x : Nat) : Int)) (k := j) (ds := List.map (fun (n : Nat) => PyData.int (n : Int)) ((List.range n).map f)) (by
            simp only [xSetT, List.getElem?_cons_succ, List.getElem?_cons_zero, e1, e2, tKey_rule, kz, if_true, kf]) rfl rfl (by rw [nl]; exact hj'), num_set]
          rfl
        · have kf := (kept_find (r.ren f) qs).1 0 hm
          have ks := kept_store qs (r.ren f) hm
          refine nx_of (ρ' := [.dat (L), .dat (.int (k : Int)), .own (.list (mkE n S)), .dat (.int (j : Int)), .own (tD (keptE (qs ++ [r.ren f]))), .own (natsD ((List.range n).map (fun y => if y = j then qs.length else f y)))]) ?_ ⟨qs ++ [r.ren f], _, _, rfl, by rw [ef, tfold_snoc, tf, tstep_new hr hm], ?_, by simp; omega⟩
          · rw [setLX_ok (ρ' := [.dat (L), .dat (.int (k : Int)), .own (.list (mkE n S)), .dat (.int (j : Int)), .own (tD (keptE (qs ++ [r.ren f]))), .own (natsD ((List.range n).map f))]) (d := .int ((qs.length : Nat) : Int)) (k := j) (ds := List.map (fun (n : Nat) => PyData.int (n : Int)) ((List.range n).map f)) (by
              simp only [xSetT, List.getElem?_cons_succ, List.getElem?_cons_zero, e1, e2, tKey_rule, kz, if_true, kf, ks, set_0, set_s]) rfl rfl (by rw [nl]; exact hj'), num_set]
            rfl
          · rw [List.nodup_append]
            exact ⟨nq, by simp, fun a ha b hb => by
              rw [List.mem_singleton.mp hb]
              intro z
              rw [z] at ha
              exact hm ha⟩
      · have ef : (List.range (j + 1)).filter (fun i => decide (i ∈ S)) = (List.range j).filter (fun i => decide (i ∈ S)) := by rw [filter_snoc, if_neg hin, List.append_nil]
        exact nx_f (by simp only [runM, mkEnv, List.replicate, List.cons_append, List.nil_append, sSeq, sIf, sRet, sAsg, sAsgN, sDrop, sSkip_ap, eBin_ap, eUn_ap, eVarD_0, eVarD_s, eVar_0d, eVar_0o, eVar_0b, eVar_s, eCall_0, eCall_1, eCall_2, eCall_3, eCall_4, bLen_l, bLen_t, bind_ok, bMin_ii, bMax_ii, dAdd_ii, dSub_ii, dLt_ii, dLe_ii, dGt_ii, dGe_ii, dEq_ii, dNe_ii, dEq_ss, dNe_ss, dEq_bb, List.length_map, decide_true, decide_false, eC_ap, set_0, set_s, eNot, eAnd, eOr, eIf, eIsi_ap, isT_n, isT_b, isT_i, isT_s, isT_l, isT_t, gN_ap, Bool.not_true, Bool.not_false, beq_self_eq_true, Bool.or_self, Bool.or_false, Bool.false_or, Bool.or_true, Bool.true_or, String.reduceBEq, Int.reduceLT, Int.reduceLE, Int.reduceEq, eTup_0, eTup_1, eTup_2, eTup_3, eLst_0, eLst_1, eLst_2, eLst_3, eLst_4, bTuple_l, bTuple_t, bList_l, bList_t, dNeg_i, bind_ex, len0, len1, len2, len3, len4, is_nn, is_in, is_sn, is_ln, is_tn, isn_nn, isn_in, isn_sn, isn_ln, isn_tn, im, hin, decide_false]) (nx_of rfl ⟨qs, f, _, rfl, by rw [ef]; exact tf, nq, by omega⟩)
    · rintro ρ ⟨qs, f, k3, rfl, tf, _, _⟩
      have el : (rangeD 0 (n : Int)).length = n := by rw [rangeD_0]; simp
      rw [el] at tf
      exact ⟨f, k3, by rw [tf]⟩
  obtain ⟨ρ2, lo2, f, k3', rfl⟩ := loop2
  rw [← hL]
  refine rt_run' ?_
  show Rt (b__law_tidied [.dat (L), .dat (.int (k : Int)), .un, .un, .un, .un]) _
  unfold b__law_tidied
  refine rt_seq (ρ' := [.dat (L), .dat (.int (k : Int)), .own (.list (mkE n [])), .un, .un, .un]) (by
    simp only [runM, mkEnv, List.replicate, List.cons_append, List.nil_append, sSeq, sIf, sRet, sAsg, sAsgN, sDrop, sSkip_ap, eBin_ap, eUn_ap, eVarD_0, eVarD_s, eVar_0d, eVar_0o, eVar_0b, eVar_s, eCall_0, eCall_1, eCall_2, eCall_3, eCall_4, bLen_l, bLen_t, bind_ok, bMin_ii, bMax_ii, dAdd_ii, dSub_ii, dLt_ii, dLe_ii, dGt_ii, dGe_ii, dEq_ii, dNe_ii, dEq_ss, dNe_ss, dEq_bb, List.length_map, decide_true, decide_false, eC_ap, set_0, set_s, eNot, eAnd, eOr, eIf, eIsi_ap, isT_n, isT_b, isT_i, isT_s, isT_l, isT_t, gN_ap, Bool.not_true, Bool.not_false, beq_self_eq_true, Bool.or_self, Bool.or_false, Bool.false_or, Bool.or_true, Bool.true_or, String.reduceBEq, Int.reduceLT, Int.reduceLE, Int.reduceEq, eTup_0, eTup_1, eTup_2, eTup_3, eLst_0, eLst_1, eLst_2, eLst_3, eLst_4, bTuple_l, bTuple_t, bList_l, bList_t, dNeg_i, bind_ex, len0, len1, len2, len3, len4, is_nn, is_in, is_sn, is_ln, is_tn, isn_nn, isn_in, isn_sn, isn_ln, isn_tn, len, rep, mk_new]) ?_
  refine rt_seq (ρ' := [.dat (L), .dat (.int (k : Int)), .own (.list (mkE n [k])), .un, .un, .un]) (by
    rw [setL_ok (k := k) rfl rfl rfl (by rw [mk_len]; omega), mk_set]
    rfl) ?_
  refine rt_seq lo1 ?_
  refine rt_seq (ρ' := [.dat (L), .dat (.int (k : Int)), .own (.list (mkE n S)), k3, .own (tD (keptE [])), .un]) rfl ?_
  refine rt_seq (ρ' := [.dat (L), .dat (.int (k : Int)), .own (.list (mkE n S)), k3, .own (tD (keptE [])), .own (natsD ((List.range n).map fun _ => 0))]) (by
    simp only [runM, mkEnv, List.replicate, List.cons_append, List.nil_append, sSeq, sIf, sRet, sAsg, sAsgN, sDrop, sSkip_ap, eBin_ap, eUn_ap, eVarD_0, eVarD_s, eVar_0d, eVar_0o, eVar_0b, eVar_s, eCall_0, eCall_1, eCall_2, eCall_3, eCall_4, bLen_l, bLen_t, bind_ok, bMin_ii, bMax_ii, dAdd_ii, dSub_ii, dLt_ii, dLe_ii, dGt_ii, dGe_ii, dEq_ii, dNe_ii, dEq_ss, dNe_ss, dEq_bb, List.length_map, decide_true, decide_false, eC_ap, set_0, set_s, eNot, eAnd, eOr, eIf, eIsi_ap, isT_n, isT_b, isT_i, isT_s, isT_l, isT_t, gN_ap, Bool.not_true, Bool.not_false, beq_self_eq_true, Bool.or_self, Bool.or_false, Bool.false_or, Bool.or_true, Bool.true_or, String.reduceBEq, Int.reduceLT, Int.reduceLE, Int.reduceEq, eTup_0, eTup_1, eTup_2, eTup_3, eLst_0, eLst_1, eLst_2, eLst_3, eLst_4, bTuple_l, bTuple_t, bList_l, bList_t, dNeg_i, bind_ex, len0, len1, len2, len3, len4, is_nn, is_in, is_sn, is_ln, is_tn, isn_nn, isn_in, isn_sn, isn_ln, isn_tn, len, rep, zero_new]
    rfl) ?_
  refine rt_seq lo2 ?_
  exact rt_ret (by simp only [runM, mkEnv, List.replicate, List.cons_append, List.nil_append, sSeq, sIf, sRet, sAsg, sAsgN, sDrop, sSkip_ap, eBin_ap, eUn_ap, eVarD_0, eVarD_s, eVar_0d, eVar_0o, eVar_0b, eVar_s, eCall_0, eCall_1, eCall_2, eCall_3, eCall_4, bLen_l, bLen_t, bind_ok, bMin_ii, bMax_ii, dAdd_ii, dSub_ii, dLt_ii, dLe_ii, dGt_ii, dGe_ii, dEq_ii, dNe_ii, dEq_ss, dNe_ss, dEq_bb, List.length_map, decide_true, decide_false, eC_ap, set_0, set_s, eNot, eAnd, eOr, eIf, eIsi_ap, isT_n, isT_b, isT_i, isT_s, isT_l, isT_t, gN_ap, Bool.not_true, Bool.not_false, beq_self_eq_true, Bool.or_self, Bool.or_false, Bool.false_or, Bool.or_true, Bool.true_or, String.reduceBEq, Int.reduceLT, Int.reduceLE, Int.reduceEq, eTup_0, eTup_1, eTup_2, eTup_3, eLst_0, eLst_1, eLst_2, eLst_3, eLst_4, bTuple_l, bTuple_t, bList_l, bList_t, dNeg_i, bind_ex, len0, len1, len2, len3, len4, is_nn, is_in, is_sn, is_ln, is_tn, isn_nn, isn_in, isn_sn, isn_ln, isn_tn, eUn_ap, kept_keys]) rfl
end Sb

namespace Sb
open PySem PySem.Spec L2 Evl DL
theorem dIx_rows {rs : List Rule} {i : Nat} {r : Rule} (h : rs[i]? = some r) : dIx (.list (rs.map ruleD)) (.int ((i : Nat) : Int)) = .ok (ruleD r) := by
  obtain ⟨hi, e⟩ := List.getElem?_eq_some_iff.mp h
  rw [dIx_lg (by omega) (by simpa using hi)]
  simp [List.getD, hi, e]
theorem twin_ok (rs : List Rule) (g : Good rs) (hl : rs.length ≤ 30000) (a : Nat) (ha : a < rs.length) : ∃ t, t < rs.length ∧ rs[t]? = rs[a]? ∧ m__law_twin [.list (rs.map ruleD), .int (a : Int)] = .ok (.int (t : Int)) := by
  have hr : rs[a]? = some rs[a] := by simp [ha]
  obtain ⟨r, er⟩ : ∃ r, r = rs[a] := ⟨_, rfl⟩
  rw [← er] at hr
  have ixa := dIx_rows hr
  have len : bLen [.list (rs.map ruleD)] = .ok (.int ((rs.length : Nat) : Int)) := by simp
  have ixr := fun (i : Nat) q (h : rs[i]? = some q) => dIx_rows h
  obtain ⟨L, hL⟩ : ∃ L, L = PyData.list (rs.map ruleD) := ⟨_, rfl⟩
  rw [← hL] at ixa len ixr ⊢
  have loop := nx_for (mi := iR1 (eCall bLen [(eVar 0)])) (g := gN 3) (body := (sIf (eBin dEq (eBin dIx (eVar 0) (eVarD 3)) (eBin dIx (eVar 0) (eVarD 1))) (sAsg 2 (eVarD 3)) sSkip)) (ρ := [.bor L, .dat (.int (a : Int)), .dat (.int (a : Int)), .un]) (ds := rangeD 0 ((rs.length : Nat) : Int))
    (fun j ρ => ∃ (t : Nat) (k3 : Sl), ρ = [.bor L, .dat (.int (a : Int)), .dat (.int (t : Int)), k3] ∧ t < rs.length ∧ rs[t]? = rs[a]?) (iR1_ok (by simp only [runM, mkEnv, List.replicate, List.cons_append, List.nil_append, sSeq, sIf, sRet, sAsg, sAsgN, sDrop, sSkip_ap, eBin_ap, eUn_ap, eVarD_0, eVarD_s, eVar_0d, eVar_0o, eVar_0b, eVar_s, eCall_0, eCall_1, eCall_2, eCall_3, eCall_4, bLen_l, bLen_t, bind_ok, bMin_ii, bMax_ii, dAdd_ii, dSub_ii, dLt_ii, dLe_ii, dGt_ii, dGe_ii, dEq_ii, dNe_ii, dEq_ss, dNe_ss, dEq_bb, List.length_map, decide_true, decide_false, eC_ap, set_0, set_s, eNot, eAnd, eOr, eIf, eIsi_ap, isT_n, isT_b, isT_i, isT_s, isT_l, isT_t, gN_ap, Bool.not_true, Bool.not_false, beq_self_eq_true, Bool.or_self, Bool.or_false, Bool.false_or, Bool.or_true, Bool.true_or, String.reduceBEq, Int.reduceLT, Int.reduceLE, Int.reduceEq, eTup_0, eTup_1, eTup_2, eTup_3, eLst_0, eLst_1, eLst_2, eLst_3, eLst_4, bTuple_l, bTuple_t, bList_l, bList_t, dNeg_i, bind_ex, len0, len1, len2, len3, len4, is_nn, is_in, is_sn, is_ln, is_tn, isn_nn, isn_in, isn_sn, isn_ln, isn_tn, len]) (inR_of (by omega) (by omega))) ⟨a, _, rfl, ha, rfl⟩ ?_
  · obtain ⟨ρ1, lo, t, k3, rfl, ht, e⟩ := loop
    refine ⟨t, ht, e, rt_run' ?_⟩
    show Rt (b__law_twin [.bor L, .dat (.int (a : Int)), .un, .un]) _
    unfold b__law_twin
    refine rt_seq (ρ' := [.bor L, .dat (.int (a : Int)), .dat (.int (a : Int)), .un]) rfl (rt_seq lo (rt_ret rfl rfl))
  · rintro j d ρ hd ⟨t, k3, rfl, ht, e⟩
    have hj := (List.getElem?_eq_some_iff.mp hd).1
    have hj' : j < rs.length := by
      rw [rangeD_0, List.length_map, List.length_range] at hj
      exact hj
    have ed : d = .int (j : Int) := by
      rw [rangeD_0, List.getElem?_map, List.getElem?_range hj'] at hd
      simpa using hd.symm
    subst ed
    have hq : rs[j]? = some rs[j] := by simp [hj']
    obtain ⟨q, eq⟩ : ∃ q, q = rs[j] := ⟨_, rfl⟩
    rw [← eq] at hq
    have ixj := ixr j q hq
    have er := eq_rules (g j q hq) (g a r hr)
    refine ⟨_, gN_ap, ?_⟩
    simp only [set_0, set_s]
    by_cases z : q = r
    · have er' : dEq (ruleD q) (ruleD r) = .ok (.bool true) := by rw [er, decide_eq_true z]
      refine nx_t (by simp only [runM, mkEnv, List.replicate, List.cons_append, List.nil_append, sSeq, sIf, sRet, sAsg, sAsgN, sDrop, sSkip_ap, eBin_ap, eUn_ap, eVarD_0, eVarD_s, eVar_0d, eVar_0o, eVar_0b, eVar_s, eCall_0, eCall_1, eCall_2, eCall_3, eCall_4, bLen_l, bLen_t, bind_ok, bMin_ii, bMax_ii, dAdd_ii, dSub_ii, dLt_ii, dLe_ii, dGt_ii, dGe_ii, dEq_ii, dNe_ii, dEq_ss, dNe_ss, dEq_bb, List.length_map, decide_true, decide_false, eC_ap, set_0, set_s, eNot, eAnd, eOr, eIf, eIsi_ap, isT_n, isT_b, isT_i, isT_s, isT_l, isT_t, gN_ap, Bool.not_true, Bool.not_false, beq_self_eq_true, Bool.or_self, Bool.or_false, Bool.false_or, Bool.or_true, Bool.true_or, String.reduceBEq, Int.reduceLT, Int.reduceLE, Int.reduceEq, eTup_0, eTup_1, eTup_2, eTup_3, eLst_0, eLst_1, eLst_2, eLst_3, eLst_4, bTuple_l, bTuple_t, bList_l, bList_t, dNeg_i, bind_ex, len0, len1, len2, len3, len4, is_nn, is_in, is_sn, is_ln, is_tn, isn_nn, isn_in, isn_sn, isn_ln, isn_tn, ixj, ixa, er']) (nx_of (ρ' := [.bor L, .dat (.int (a : Int)), .dat (.int (j : Int)), .dat (.int (j : Int))]) rfl ⟨j, _, rfl, hj', by rw [hq, hr, z]⟩)
    · exact nx_f (by simp only [runM, mkEnv, List.replicate, List.cons_append, List.nil_append, sSeq, sIf, sRet, sAsg, sAsgN, sDrop, sSkip_ap, eBin_ap, eUn_ap, eVarD_0, eVarD_s, eVar_0d, eVar_0o, eVar_0b, eVar_s, eCall_0, eCall_1, eCall_2, eCall_3, eCall_4, bLen_l, bLen_t, bind_ok, bMin_ii, bMax_ii, dAdd_ii, dSub_ii, dLt_ii, dLe_ii, dGt_ii, dGe_ii, dEq_ii, dNe_ii, dEq_ss, dNe_ss, dEq_bb, List.length_map, decide_true, decide_false, eC_ap, set_0, set_s, eNot, eAnd, eOr, eIf, eIsi_ap, isT_n, isT_b, isT_i, isT_s, isT_l, isT_t, gN_ap, Bool.not_true, Bool.not_false, beq_self_eq_true, Bool.or_self, Bool.or_false, Bool.false_or, Bool.or_true, Bool.true_or, String.reduceBEq, Int.reduceLT, Int.reduceLE, Int.reduceEq, eTup_0, eTup_1, eTup_2, eTup_3, eLst_0, eLst_1, eLst_2, eLst_3, eLst_4, bTuple_l, bTuple_t, bList_l, bList_t, dNeg_i, bind_ex, len0, len1, len2, len3, len4, is_nn, is_in, is_sn, is_ln, is_tn, isn_nn, isn_in, isn_sn, isn_ln, isn_tn, ixj, ixa, er, z, decide_false]) (nx_of rfl ⟨t, _, rfl, ht, e⟩)
theorem echo_ok (rs : List Rule) (g : Good rs) (hl : rs.length ≤ 30000) (r : Rule) (i : Nat) (ok : r.ok i) (hi : i ≤ rs.length) : ∃ q : Rule, m__law_echo [.list (rs.map ruleD), ruleD r] = .ok (ruleD q) ∧ q.ok rs.length ∧ q.size (sizes rs) = r.size (sizes rs) := by
  have sz : ∀ a t : Nat, a < rs.length → rs[t]? = rs[a]? → (sizes rs).getD t 0 = (sizes rs).getD a 0 := fun a t ha e => by
    have hr : rs[a]? = some rs[a] := by simp [ha]
    rw [sizes_at g hr, sizes_at g (e.trans hr)]
  cases r with
  | sign c =>
    refine ⟨.sign c, ?_, ok, rfl⟩
    simp only [m__law_echo, b__law_echo, runM, mkEnv, List.replicate, List.cons_append, List.nil_append, sSeq, sIf, sRet, sAsg, sAsgN, sDrop, sSkip_ap, eBin_ap, eUn_ap, eVarD_0, eVarD_s, eVar_0d, eVar_0o, eVar_0b, eVar_s, eCall_0, eCall_1, eCall_2, eCall_3, eCall_4, bLen_l, bLen_t, bind_ok, bMin_ii, bMax_ii, dAdd_ii, dSub_ii, dLt_ii, dLe_ii, dGt_ii, dGe_ii, dEq_ii, dNe_ii, dEq_ss, dNe_ss, dEq_bb, List.length_map, decide_true, decide_false, eC_ap, set_0, set_s, eNot, eAnd, eOr, eIf, eIsi_ap, isT_n, isT_b, isT_i, isT_s, isT_l, isT_t, gN_ap, Bool.not_true, Bool.not_false, beq_self_eq_true, Bool.or_self, Bool.or_false, Bool.false_or, Bool.or_true, Bool.true_or, String.reduceBEq, Int.reduceLT, Int.reduceLE, Int.reduceEq, eTup_0, eTup_1, eTup_2, eTup_3, eLst_0, eLst_1, eLst_2, eLst_3, eLst_4, bTuple_l, bTuple_t, bList_l, bList_t, dNeg_i, bind_ex, len0, len1, len2, len3, len4, is_nn, is_in, is_sn, is_ln, is_tn, isn_nn, isn_in, isn_sn, isn_ln, isn_tn, ruleD, dIx_t0]
  | join a b =>
    have h1 := ok.1
    have h2 := ok.2
    obtain ⟨t, ht, e, et⟩ := twin_ok rs g hl a (by omega)
    obtain ⟨u, hu, e2, eu⟩ := twin_ok rs g hl b (by omega)
    refine ⟨.join t u, ?_, ⟨ht, hu⟩, ?_⟩
    · obtain ⟨L, hL⟩ : ∃ L, L = PyData.list (rs.map ruleD) := ⟨_, rfl⟩
      rw [← hL] at et eu ⊢
      simp only [m__law_echo, b__law_echo, runM, mkEnv, List.replicate, List.cons_append, List.nil_append, sSeq, sIf, sRet, sAsg, sAsgN, sDrop, sSkip_ap, eBin_ap, eUn_ap, eVarD_0, eVarD_s, eVar_0d, eVar_0o, eVar_0b, eVar_s, eCall_0, eCall_1, eCall_2, eCall_3, eCall_4, bLen_l, bLen_t, bind_ok, bMin_ii, bMax_ii, dAdd_ii, dSub_ii, dLt_ii, dLe_ii, dGt_ii, dGe_ii, dEq_ii, dNe_ii, dEq_ss, dNe_ss, dEq_bb, List.length_map, decide_true, decide_false, eC_ap, set_0, set_s, eNot, eAnd, eOr, eIf, eIsi_ap, isT_n, isT_b, isT_i, isT_s, isT_l, isT_t, gN_ap, Bool.not_true, Bool.not_false, beq_self_eq_true, Bool.or_self, Bool.or_false, Bool.false_or, Bool.or_true, Bool.true_or, String.reduceBEq, Int.reduceLT, Int.reduceLE, Int.reduceEq, eTup_0, eTup_1, eTup_2, eTup_3, eLst_0, eLst_1, eLst_2, eLst_3, eLst_4, bTuple_l, bTuple_t, bList_l, bList_t, dNeg_i, bind_ex, len0, len1, len2, len3, len4, is_nn, is_in, is_sn, is_ln, is_tn, isn_nn, isn_in, isn_sn, isn_ln, isn_tn, ruleD, dIx_t0, dIx_t1, dIx_t2, js, et, eu]
    · show (sizes rs).getD t 0 + (sizes rs).getD u 0 = (sizes rs).getD a 0 + (sizes rs).getD b 0
      rw [sz a t (by omega) e, sz b u (by omega) e2]
  | times a n =>
    have h1 := ok.1
    obtain ⟨t, ht, e, et⟩ := twin_ok rs g hl a (by omega)
    refine ⟨.times t n, ?_, ⟨ht, ok.2⟩, ?_⟩
    · obtain ⟨L, hL⟩ : ∃ L, L = PyData.list (rs.map ruleD) := ⟨_, rfl⟩
      rw [← hL] at et ⊢
      simp only [m__law_echo, b__law_echo, runM, mkEnv, List.replicate, List.cons_append, List.nil_append, sSeq, sIf, sRet, sAsg, sAsgN, sDrop, sSkip_ap, eBin_ap, eUn_ap, eVarD_0, eVarD_s, eVar_0d, eVar_0o, eVar_0b, eVar_s, eCall_0, eCall_1, eCall_2, eCall_3, eCall_4, bLen_l, bLen_t, bind_ok, bMin_ii, bMax_ii, dAdd_ii, dSub_ii, dLt_ii, dLe_ii, dGt_ii, dGe_ii, dEq_ii, dNe_ii, dEq_ss, dNe_ss, dEq_bb, List.length_map, decide_true, decide_false, eC_ap, set_0, set_s, eNot, eAnd, eOr, eIf, eIsi_ap, isT_n, isT_b, isT_i, isT_s, isT_l, isT_t, gN_ap, Bool.not_true, Bool.not_false, beq_self_eq_true, Bool.or_self, Bool.or_false, Bool.false_or, Bool.or_true, Bool.true_or, String.reduceBEq, Int.reduceLT, Int.reduceLE, Int.reduceEq, eTup_0, eTup_1, eTup_2, eTup_3, eLst_0, eLst_1, eLst_2, eLst_3, eLst_4, bTuple_l, bTuple_t, bList_l, bList_t, dNeg_i, bind_ex, len0, len1, len2, len3, len4, is_nn, is_in, is_sn, is_ln, is_tn, isn_nn, isn_in, isn_sn, isn_ln, isn_tn, ruleD, dIx_t0, dIx_t1, dIx_t2, ts, tj, et]
    · show (sizes rs).getD t 0 * n = (sizes rs).getD a 0 * n
      rw [sz a t (by omega) e]
theorem lagain_ok (cs : List Int) (h1 : 1 ≤ cs.length) (h2 : cs.length ≤ 1000) (hc : ∀ c ∈ cs, 0 ≤ c ∧ c < 10 ^ 40) :
    ∃ rs, m__law_again [.list (cs.map PyData.int)] = .ok (rulesD rs) ∧ Good rs ∧ Fits MOST rs ∧ rs.length = cs.length + 1 ∧ Start rs := by
  have hx : dIx (.list (cs.map PyData.int)) (.int 0) = .ok (.int (cs[0]'(by omega))) := dIx_ints (i := 0) (by decide) (by omega)
  have hd := dDiv_ok (i := cs[0]'(by omega)) (j := 62) (by decide) 6 (by decide)
  obtain ⟨s, hs, es⟩ := sign_by_ok (cs[0]'(by omega))
  obtain ⟨t, ht, et⟩ := sign_by_ok (cs[0]'(by omega) / 62)
  have z2 : (2 : Nat) ≤ sizeLine := by decide
  have hp60 : dPow (.int 2) (.int 60) = .ok (.int ((MOST : Nat) : Int)) := dPow_ok (by decide) (by decide) (by decide)
  have sl : dSl (.list (cs.map PyData.int)) (some 1) none = .ok (.list ((cs.drop 1).map PyData.int)) := by
    have := cut_from (cs.map PyData.int) 1
    simp only [dSl]
    rw [show (some 1 : Option Int) = some ((1 : Nat) : Int) from rfl, this, List.map_drop]
  obtain ⟨L, hL⟩ : ∃ L, L = PyData.list (cs.map PyData.int) := ⟨_, rfl⟩
  rw [← hL] at hx sl ⊢
  have loop := nx_for (mi := iL (eSl (eVarD 0) (some (eC (.int 1))) none)) (g := gN 3) (body := (sSeq (sAsg 4 (eBin dIx (eVar 1) (eBin dMod (eBin dDiv (eVarD 3) (eC (.int 4))) (eCall bLen [(eVar 1)]))))
  (sSeq (sIf (eBin dEq (eBin dMod (eVarD 3) (eC (.int 4))) (eC (.int 1))) (sAsg 4 (eCall m__law_echo [(eVar 1), (eVarD 4)])) sSkip)
  (sSeq (sIf (eBin dGt (eBin dMod (eVarD 3) (eC (.int 4))) (eC (.int 1))) (sSeq (sAsg 5 (eBin dDiv (eVarD 3) (eC (.int 4))))
  (sSeq (sAsg 6 (eFrz (eLst [(eC (.int 0)), (eC (.int 1)), (eC (.int 4)), (eC (.int 5)), (eC (.int 6)), (eBin dDiv (eVarD 5) (eC (.int 384)))])))
  (sAsg 4 (eCall m__law_rule [(eBin dAdd (eBin dMod (eVarD 5) (eC (.int 64))) (eBin dMul (eC (.int 32768)) (eBin dIx (eVarD 6) (eBin dMod (eBin dDiv (eVarD 5) (eC (.int 64))) (eC (.int 6)))))), (eVar 2), (eBin dPow (eC (.int 2)) (eC (.int 60)))])))) sSkip)
  (sSeq (sApp 1 (eVarD 4))
  (sApp 2 (eCall m__law_size [(eVarD 4), (eVar 2)]))))))) (ρ := [.dat (L), .own (.list ([.sign s, .sign t].map ruleD)), .own (natsD (sizes [.sign s, .sign t])), .un, .un, .un, .un]) (ds := (cs.drop 1).map PyData.int)
    (fun i ρ => ∃ (rs : List Rule) (k3 k4 k5 k6 : Sl), ρ = [.dat (L), .own (.list (rs.map ruleD)), .own (natsD (sizes rs)), k3, k4, k5, k6] ∧ Good rs ∧ Fits MOST rs ∧ rs.length = i + 2 ∧ Start rs) (iL_ok (by simp only [eSl, evO, runM, mkEnv, List.replicate, List.cons_append, List.nil_append, sSeq, sIf, sRet, sAsg, sAsgN, sDrop, sSkip_ap, eBin_ap, eUn_ap, eVarD_0, eVarD_s, eVar_0d, eVar_0o, eVar_0b, eVar_s, eCall_0, eCall_1, eCall_2, eCall_3, eCall_4, bLen_l, bLen_t, bind_ok, bMin_ii, bMax_ii, dAdd_ii, dSub_ii, dLt_ii, dLe_ii, dGt_ii, dGe_ii, dEq_ii, dNe_ii, dEq_ss, dNe_ss, dEq_bb, List.length_map, decide_true, decide_false, eC_ap, set_0, set_s, eNot, eAnd, eOr, eIf, eIsi_ap, isT_n, isT_b, isT_i, isT_s, isT_l, isT_t, gN_ap, Bool.not_true, Bool.not_false, beq_self_eq_true, Bool.or_self, Bool.or_false, Bool.false_or, Bool.or_true, Bool.true_or, String.reduceBEq, Int.reduceLT, Int.reduceLE, Int.reduceEq, eTup_0, eTup_1, eTup_2, eTup_3, eLst_0, eLst_1, eLst_2, eLst_3, eLst_4, bTuple_l, bTuple_t, bList_l, bList_t, dNeg_i, bind_ex, len0, len1, len2, len3, len4, is_nn, is_in, is_sn, is_ln, is_tn, isn_nn, isn_in, isn_sn, isn_ln, isn_tn, sl]))
    ⟨[.sign s, .sign t], _, _, _, _, rfl, Good.snoc (rs := [.sign s]) (r := .sign t) (Good.snoc (rs := []) (r := .sign s) Good.nil hs) ht, by
        intro n hn
        have : sizes [.sign s, .sign t] = [1, 1] := rfl
        rw [this] at hn
        have : n = 1 := by simpa using hn
        rw [this]
        decide, rfl, ⟨s, t, [], rfl⟩⟩ ?_
  · obtain ⟨ρ1, lo, rs, k3, k4, k5, k6, rfl, g, f, rl, st⟩ := loop
    refine ⟨rs, rt_run' ?_, g, f, by simp at rl; omega, st⟩
    show Rt (b__law_again [.dat (L), .un, .un, .un, .un, .un, .un]) _
    unfold b__law_again
    refine rt_seq (ρ' := [.dat (L), .own (.list ([.sign s, .sign t].map ruleD)), .un, .un, .un, .un, .un]) (by
      simp only [runM, mkEnv, List.replicate, List.cons_append, List.nil_append, sSeq, sIf, sRet, sAsg, sAsgN, sDrop, sSkip_ap, eBin_ap, eUn_ap, eVarD_0, eVarD_s, eVar_0d, eVar_0o, eVar_0b, eVar_s, eCall_0, eCall_1, eCall_2, eCall_3, eCall_4, bLen_l, bLen_t, bind_ok, bMin_ii, bMax_ii, dAdd_ii, dSub_ii, dLt_ii, dLe_ii, dGt_ii, dGe_ii, dEq_ii, dNe_ii, dEq_ss, dNe_ss, dEq_bb, List.length_map, decide_true, decide_false, eC_ap, set_0, set_s, eNot, eAnd, eOr, eIf, eIsi_ap, isT_n, isT_b, isT_i, isT_s, isT_l, isT_t, gN_ap, Bool.not_true, Bool.not_false, beq_self_eq_true, Bool.or_self, Bool.or_false, Bool.false_or, Bool.or_true, Bool.true_or, String.reduceBEq, Int.reduceLT, Int.reduceLE, Int.reduceEq, eTup_0, eTup_1, eTup_2, eTup_3, eLst_0, eLst_1, eLst_2, eLst_3, eLst_4, bTuple_l, bTuple_t, bList_l, bList_t, dNeg_i, bind_ex, len0, len1, len2, len3, len4, is_nn, is_in, is_sn, is_ln, is_tn, isn_nn, isn_in, isn_sn, isn_ln, isn_tn, hx, hd, es, et]
      rfl) ?_
    refine rt_seq (ρ' := [.dat (L), .own (.list ([.sign s, .sign t].map ruleD)), .own (natsD (sizes [.sign s, .sign t])), .un, .un, .un, .un]) (by
      simp only [runM, mkEnv, List.replicate, List.cons_append, List.nil_append, sSeq, sIf, sRet, sAsg, sAsgN, sDrop, sSkip_ap, eBin_ap, eUn_ap, eVarD_0, eVarD_s, eVar_0d, eVar_0o, eVar_0b, eVar_s, eCall_0, eCall_1, eCall_2, eCall_3, eCall_4, bLen_l, bLen_t, bind_ok, bMin_ii, bMax_ii, dAdd_ii, dSub_ii, dLt_ii, dLe_ii, dGt_ii, dGe_ii, dEq_ii, dNe_ii, dEq_ss, dNe_ss, dEq_bb, List.length_map, decide_true, decide_false, eC_ap, set_0, set_s, eNot, eAnd, eOr, eIf, eIsi_ap, isT_n, isT_b, isT_i, isT_s, isT_l, isT_t, gN_ap, Bool.not_true, Bool.not_false, beq_self_eq_true, Bool.or_self, Bool.or_false, Bool.false_or, Bool.or_true, Bool.true_or, String.reduceBEq, Int.reduceLT, Int.reduceLE, Int.reduceEq, eTup_0, eTup_1, eTup_2, eTup_3, eLst_0, eLst_1, eLst_2, eLst_3, eLst_4, bTuple_l, bTuple_t, bList_l, bList_t, dNeg_i, bind_ex, len0, len1, len2, len3, len4, is_nn, is_in, is_sn, is_ln, is_tn, isn_nn, isn_in, isn_sn, isn_ln, isn_tn]
      rfl) ?_
    refine rt_seq lo (rt_ret (d := rulesD rs) ?_ rfl)
    simp only [runM, mkEnv, List.replicate, List.cons_append, List.nil_append, sSeq, sIf, sRet, sAsg, sAsgN, sDrop, sSkip_ap, eBin_ap, eUn_ap, eVarD_0, eVarD_s, eVar_0d, eVar_0o, eVar_0b, eVar_s, eCall_0, eCall_1, eCall_2, eCall_3, eCall_4, bLen_l, bLen_t, bind_ok, bMin_ii, bMax_ii, dAdd_ii, dSub_ii, dLt_ii, dLe_ii, dGt_ii, dGe_ii, dEq_ii, dNe_ii, dEq_ss, dNe_ss, dEq_bb, List.length_map, decide_true, decide_false, eC_ap, set_0, set_s, eNot, eAnd, eOr, eIf, eIsi_ap, isT_n, isT_b, isT_i, isT_s, isT_l, isT_t, gN_ap, Bool.not_true, Bool.not_false, beq_self_eq_true, Bool.or_self, Bool.or_false, Bool.false_or, Bool.or_true, Bool.true_or, String.reduceBEq, Int.reduceLT, Int.reduceLE, Int.reduceEq, eTup_0, eTup_1, eTup_2, eTup_3, eLst_0, eLst_1, eLst_2, eLst_3, eLst_4, bTuple_l, bTuple_t, bList_l, bList_t, dNeg_i, bind_ex, len0, len1, len2, len3, len4, is_nn, is_in, is_sn, is_ln, is_tn, isn_nn, isn_in, isn_sn, isn_ln, isn_tn]
    rfl
  · rintro i d ρ hd ⟨rs, k3, k4, k5, k6, rfl, g, f, rl, st⟩
    obtain ⟨c, hcm, rfl⟩ : ∃ c ∈ cs, d = .int c := by
      rw [List.getElem?_map, Option.map_eq_some_iff] at hd
      obtain ⟨c, h1, h2⟩ := hd
      exact ⟨c, List.mem_of_mem_drop (List.mem_of_getElem? h1), h2.symm⟩
    obtain ⟨c0, c1⟩ := hc c hcm
    have hi : i < cs.length := by
      have := (List.getElem?_eq_some_iff.mp hd).1
      simp at this
      omega
    have gp := pos_of_good rs g
    have hl : (sizes rs).length = rs.length := sizes_len rs
    have len : bLen [.list (rs.map ruleD)] = .ok (.int ((rs.length : Nat) : Int)) := by simp
    have d4 : dDiv (.int c) (.int 4) = .ok (.int (c / 4)) := dDiv_w (by decide) (by decide)
    have m4 := dMod_ok (i := c) (j := 4) (by decide)
    have mr := dMod_ok (i := c / 4) (j := ((rs.length : Nat) : Int)) (by omega)
    have x0 := Int.emod_nonneg (c / 4) (show ((rs.length : Nat) : Int) ≠ 0 by omega)
    have x1 := Int.emod_lt_of_pos (c / 4) (show (0 : Int) < ((rs.length : Nat) : Int) by omega)
    obtain ⟨x, hx⟩ : ∃ x : Nat, (x : Int) = c / 4 % ((rs.length : Nat) : Int) := ⟨(c / 4 % ((rs.length : Nat) : Int)).toNat, by omega⟩
    rw [← hx] at mr
    have hxl : x < rs.length := by omega
    have hr : rs[x]? = some rs[x] := by simp [hxl]
    obtain ⟨r, er⟩ : ∃ r, r = rs[x] := ⟨_, rfl⟩
    rw [← er] at hr
    have ixx := dIx_rows hr
    have ok := g x r hr
    have szr : r.size (sizes rs) ≤ MOST := by
      rw [← sizes_at g hr]
      exact f.get x
    refine ⟨_, gN_ap, ?_⟩
    simp only [set_0, set_s]
    refine nx_seq (ρ' := [.dat (L), .own (.list (rs.map ruleD)), .own (natsD (sizes rs)), .dat (.int c), .dat (ruleD r), k5, k6]) (by simp only [runM, mkEnv, List.replicate, List.cons_append, List.nil_append, sSeq, sIf, sRet, sAsg, sAsgN, sDrop, sSkip_ap, eBin_ap, eUn_ap, eVarD_0, eVarD_s, eVar_0d, eVar_0o, eVar_0b, eVar_s, eCall_0, eCall_1, eCall_2, eCall_3, eCall_4, bLen_l, bLen_t, bind_ok, bMin_ii, bMax_ii, dAdd_ii, dSub_ii, dLt_ii, dLe_ii, dGt_ii, dGe_ii, dEq_ii, dNe_ii, dEq_ss, dNe_ss, dEq_bb, List.length_map, decide_true, decide_false, eC_ap, set_0, set_s, eNot, eAnd, eOr, eIf, eIsi_ap, isT_n, isT_b, isT_i, isT_s, isT_l, isT_t, gN_ap, Bool.not_true, Bool.not_false, beq_self_eq_true, Bool.or_self, Bool.or_false, Bool.false_or, Bool.or_true, Bool.true_or, String.reduceBEq, Int.reduceLT, Int.reduceLE, Int.reduceEq, eTup_0, eTup_1, eTup_2, eTup_3, eLst_0, eLst_1, eLst_2, eLst_3, eLst_4, bTuple_l, bTuple_t, bList_l, bList_t, dNeg_i, bind_ex, len0, len1, len2, len3, len4, is_nn, is_in, is_sn, is_ln, is_tn, isn_nn, isn_in, isn_sn, isn_ln, isn_tn, d4, len, mr, ixx]) ?_
    have fin : ∀ (q : Rule) (k5 k6 : Sl), q.ok rs.length → q.size (sizes rs) ≤ MOST → Nx ((sSeq (sApp 1 (eVarD 4)) (sApp 2 (eCall m__law_size [(eVarD 4), (eVar 2)]))) [.dat (L), .own (.list (rs.map ruleD)), .own (natsD (sizes rs)), .dat (.int c), .dat (ruleD q), k5, k6]) (fun ρ => ∃ (rs : List Rule) (k3 k4 k5 k6 : Sl), ρ = [.dat (L), .own (.list (rs.map ruleD)), .own (natsD (sizes rs)), k3, k4, k5, k6] ∧ Good rs ∧ Fits MOST rs ∧ rs.length = i + 1 + 2 ∧ Start rs) := fun q k5 k6 okq szq => by
      have e4 := lsize_ok q (sizes rs) (by rw [hl]; exact okq) f
      refine nx_seq (ρ' := [.dat (L), .own (.list ((rs ++ [q]).map ruleD)), .own (natsD (sizes rs)), .dat (.int c), .dat (ruleD q), k5, k6]) (by
        rw [app_ok (ds := rs.map ruleD) (d := ruleD q) rfl rfl (by rw [List.length_map]; exact sz_lt' (by omega))]
        simp) ?_
      refine nx_of (ρ' := [.dat (L), .own (.list ((rs ++ [q]).map ruleD)), .own (natsD (sizes (rs ++ [q]))), .dat (.int c), .dat (ruleD q), k5, k6]) ?_ ⟨_, _, _, _, _, rfl, g.snoc okq, f.snoc szq, by simp; omega, st.app _⟩
      rw [app_ok (ds := (sizes rs).map fun (n : Nat) => PyData.int (n : Int)) (d := .int (q.size (sizes rs) : Nat)) rfl (by simp only [runM, mkEnv, List.replicate, List.cons_append, List.nil_append, sSeq, sIf, sRet, sAsg, sAsgN, sDrop, sSkip_ap, eBin_ap, eUn_ap, eVarD_0, eVarD_s, eVar_0d, eVar_0o, eVar_0b, eVar_s, eCall_0, eCall_1, eCall_2, eCall_3, eCall_4, bLen_l, bLen_t, bind_ok, bMin_ii, bMax_ii, dAdd_ii, dSub_ii, dLt_ii, dLe_ii, dGt_ii, dGe_ii, dEq_ii, dNe_ii, dEq_ss, dNe_ss, dEq_bb, List.length_map, decide_true, decide_false, eC_ap, set_0, set_s, eNot, eAnd, eOr, eIf, eIsi_ap, isT_n, isT_b, isT_i, isT_s, isT_l, isT_t, gN_ap, Bool.not_true, Bool.not_false, beq_self_eq_true, Bool.or_self, Bool.or_false, Bool.false_or, Bool.or_true, Bool.true_or, String.reduceBEq, Int.reduceLT, Int.reduceLE, Int.reduceEq, eTup_0, eTup_1, eTup_2, eTup_3, eLst_0, eLst_1, eLst_2, eLst_3, eLst_4, bTuple_l, bTuple_t, bList_l, bList_t, dNeg_i, bind_ex, len0, len1, len2, len3, len4, is_nn, is_in, is_sn, is_ln, is_tn, isn_nn, isn_in, isn_sn, isn_ln, isn_tn]; exact e4) (by rw [List.length_map, hl]; exact sz_lt' (by omega)), sizes_snoc]
      simp [natsD]
    by_cases a1 : c % 4 = 1
    · obtain ⟨q, eq, okq, szq⟩ := echo_ok rs g (by omega) r x ok (by omega)
      refine nx_seq (ρ' := [.dat (L), .own (.list (rs.map ruleD)), .own (natsD (sizes rs)), .dat (.int c), .dat (ruleD q), k5, k6]) (by simp only [runM, mkEnv, List.replicate, List.cons_append, List.nil_append, sSeq, sIf, sRet, sAsg, sAsgN, sDrop, sSkip_ap, eBin_ap, eUn_ap, eVarD_0, eVarD_s, eVar_0d, eVar_0o, eVar_0b, eVar_s, eCall_0, eCall_1, eCall_2, eCall_3, eCall_4, bLen_l, bLen_t, bind_ok, bMin_ii, bMax_ii, dAdd_ii, dSub_ii, dLt_ii, dLe_ii, dGt_ii, dGe_ii, dEq_ii, dNe_ii, dEq_ss, dNe_ss, dEq_bb, List.length_map, decide_true, decide_false, eC_ap, set_0, set_s, eNot, eAnd, eOr, eIf, eIsi_ap, isT_n, isT_b, isT_i, isT_s, isT_l, isT_t, gN_ap, Bool.not_true, Bool.not_false, beq_self_eq_true, Bool.or_self, Bool.or_false, Bool.false_or, Bool.or_true, Bool.true_or, String.reduceBEq, Int.reduceLT, Int.reduceLE, Int.reduceEq, eTup_0, eTup_1, eTup_2, eTup_3, eLst_0, eLst_1, eLst_2, eLst_3, eLst_4, bTuple_l, bTuple_t, bList_l, bList_t, dNeg_i, bind_ex, len0, len1, len2, len3, len4, is_nn, is_in, is_sn, is_ln, is_tn, isn_nn, isn_in, isn_sn, isn_ln, isn_tn, m4, a1, eq]) ?_
      refine nx_seq (ρ' := [.dat (L), .own (.list (rs.map ruleD)), .own (natsD (sizes rs)), .dat (.int c), .dat (ruleD q), k5, k6]) (by simp only [runM, mkEnv, List.replicate, List.cons_append, List.nil_append, sSeq, sIf, sRet, sAsg, sAsgN, sDrop, sSkip_ap, eBin_ap, eUn_ap, eVarD_0, eVarD_s, eVar_0d, eVar_0o, eVar_0b, eVar_s, eCall_0, eCall_1, eCall_2, eCall_3, eCall_4, bLen_l, bLen_t, bind_ok, bMin_ii, bMax_ii, dAdd_ii, dSub_ii, dLt_ii, dLe_ii, dGt_ii, dGe_ii, dEq_ii, dNe_ii, dEq_ss, dNe_ss, dEq_bb, List.length_map, decide_true, decide_false, eC_ap, set_0, set_s, eNot, eAnd, eOr, eIf, eIsi_ap, isT_n, isT_b, isT_i, isT_s, isT_l, isT_t, gN_ap, Bool.not_true, Bool.not_false, beq_self_eq_true, Bool.or_self, Bool.or_false, Bool.false_or, Bool.or_true, Bool.true_or, String.reduceBEq, Int.reduceLT, Int.reduceLE, Int.reduceEq, eTup_0, eTup_1, eTup_2, eTup_3, eLst_0, eLst_1, eLst_2, eLst_3, eLst_4, bTuple_l, bTuple_t, bList_l, bList_t, dNeg_i, bind_ex, len0, len1, len2, len3, len4, is_nn, is_in, is_sn, is_ln, is_tn, isn_nn, isn_in, isn_sn, isn_ln, isn_tn, m4, a1]) ?_
      exact fin q k5 k6 okq (by omega)
    · refine nx_seq (ρ' := [.dat (L), .own (.list (rs.map ruleD)), .own (natsD (sizes rs)), .dat (.int c), .dat (ruleD r), k5, k6]) (by simp only [runM, mkEnv, List.replicate, List.cons_append, List.nil_append, sSeq, sIf, sRet, sAsg, sAsgN, sDrop, sSkip_ap, eBin_ap, eUn_ap, eVarD_0, eVarD_s, eVar_0d, eVar_0o, eVar_0b, eVar_s, eCall_0, eCall_1, eCall_2, eCall_3, eCall_4, bLen_l, bLen_t, bind_ok, bMin_ii, bMax_ii, dAdd_ii, dSub_ii, dLt_ii, dLe_ii, dGt_ii, dGe_ii, dEq_ii, dNe_ii, dEq_ss, dNe_ss, dEq_bb, List.length_map, decide_true, decide_false, eC_ap, set_0, set_s, eNot, eAnd, eOr, eIf, eIsi_ap, isT_n, isT_b, isT_i, isT_s, isT_l, isT_t, gN_ap, Bool.not_true, Bool.not_false, beq_self_eq_true, Bool.or_self, Bool.or_false, Bool.false_or, Bool.or_true, Bool.true_or, String.reduceBEq, Int.reduceLT, Int.reduceLE, Int.reduceEq, eTup_0, eTup_1, eTup_2, eTup_3, eLst_0, eLst_1, eLst_2, eLst_3, eLst_4, bTuple_l, bTuple_t, bList_l, bList_t, dNeg_i, bind_ex, len0, len1, len2, len3, len4, is_nn, is_in, is_sn, is_ln, is_tn, isn_nn, isn_in, isn_sn, isn_ln, isn_tn, m4, a1]) ?_
      by_cases a2 : (1 : Int) < c % 4
      · -- a rule by few
        obtain ⟨e, he0, he⟩ : ∃ e : Int, e = c / 4 ∧ 0 ≤ e := ⟨c / 4, rfl, by omega⟩
        rw [← he0] at d4
        have d384 : dDiv (.int e) (.int 384) = .ok (.int (e / 384)) := dDiv_w (by decide) (by decide)
        have d64 : dDiv (.int e) (.int 64) = .ok (.int (e / 64)) := dDiv_w (by decide) (by decide)
        have m6 := dMod_ok (i := e / 64) (j := 6) (by decide)
        have m64 := dMod_ok (i := e) (j := 64) (by decide)
        obtain ⟨v, v0, v1, ixv⟩ : ∃ v : Int, 0 ≤ v ∧ v < 10 ^ 40 ∧ dIx (.list [.int 0, .int 1, .int 4, .int 5, .int 6, .int (e / 384)]) (.int (e / 64 % 6)) = .ok (.int v) := by
          have y0 := Int.emod_nonneg (e / 64) (show (6 : Int) ≠ 0 by decide)
          have y1 := Int.emod_lt_of_pos (e / 64) (show (0 : Int) < 6 by decide)
          rw [dIx_lg y0 (by simp; omega)]
          rcases (show e / 64 % 6 = 0 ∨ e / 64 % 6 = 1 ∨ e / 64 % 6 = 2 ∨ e / 64 % 6 = 3 ∨ e / 64 % 6 = 4 ∨ e / 64 % 6 = 5 by omega) with z | z | z | z | z | z <;> rw [z]
          · exact ⟨0, by decide, by decide, rfl⟩
          · exact ⟨1, by decide, by decide, rfl⟩
          · exact ⟨4, by decide, by decide, rfl⟩
          · exact ⟨5, by decide, by decide, rfl⟩
          · exact ⟨6, by decide, by decide, rfl⟩
          · exact ⟨e / 384, by omega, by omega, rfl⟩
        have mv : dMul (.int 32768) (.int v) = .ok (.int (32768 * v)) := dMul_w (by omega) (by omega) (by omega) (by omega)
        have w0 := Int.emod_nonneg e (show (64 : Int) ≠ 0 by decide)
        have w1 := Int.emod_lt_of_pos e (show (0 : Int) < 64 by decide)
        obtain ⟨q, e1, e2, e3⟩ := rule_ok (e % 64 + 32768 * v) (by omega) (by omega) (sizes rs) (by omega) gp MOST (by decide) (Nat.le_refl _) f
        refine nx_seq (ρ' := [.dat (L), .own (.list (rs.map ruleD)), .own (natsD (sizes rs)), .dat (.int c), .dat (ruleD q), .dat (.int e), .dat (.list [.int 0, .int 1, .int 4, .int 5, .int 6, .int (e / 384)])]) ?_ (fin q _ _ (by rw [← hl]; exact e2) e3)
        rw [if_t (by simp only [runM, mkEnv, List.replicate, List.cons_append, List.nil_append, sSeq, sIf, sRet, sAsg, sAsgN, sDrop, sSkip_ap, eBin_ap, eUn_ap, eVarD_0, eVarD_s, eVar_0d, eVar_0o, eVar_0b, eVar_s, eCall_0, eCall_1, eCall_2, eCall_3, eCall_4, bLen_l, bLen_t, bind_ok, bMin_ii, bMax_ii, dAdd_ii, dSub_ii, dLt_ii, dLe_ii, dGt_ii, dGe_ii, dEq_ii, dNe_ii, dEq_ss, dNe_ss, dEq_bb, List.length_map, decide_true, decide_false, eC_ap, set_0, set_s, eNot, eAnd, eOr, eIf, eIsi_ap, isT_n, isT_b, isT_i, isT_s, isT_l, isT_t, gN_ap, Bool.not_true, Bool.not_false, beq_self_eq_true, Bool.or_self, Bool.or_false, Bool.false_or, Bool.or_true, Bool.true_or, String.reduceBEq, Int.reduceLT, Int.reduceLE, Int.reduceEq, eTup_0, eTup_1, eTup_2, eTup_3, eLst_0, eLst_1, eLst_2, eLst_3, eLst_4, bTuple_l, bTuple_t, bList_l, bList_t, dNeg_i, bind_ex, len0, len1, len2, len3, len4, is_nn, is_in, is_sn, is_ln, is_tn, isn_nn, isn_in, isn_sn, isn_ln, isn_tn, m4, a2, decide_true])]
        rw [seq_nx (ρ' := [.dat (L), .own (.list (rs.map ruleD)), .own (natsD (sizes rs)), .dat (.int c), .dat (ruleD r), .dat (.int e), k6]) (by simp only [runM, mkEnv, List.replicate, List.cons_append, List.nil_append, sSeq, sIf, sRet, sAsg, sAsgN, sDrop, sSkip_ap, eBin_ap, eUn_ap, eVarD_0, eVarD_s, eVar_0d, eVar_0o, eVar_0b, eVar_s, eCall_0, eCall_1, eCall_2, eCall_3, eCall_4, bLen_l, bLen_t, bind_ok, bMin_ii, bMax_ii, dAdd_ii, dSub_ii, dLt_ii, dLe_ii, dGt_ii, dGe_ii, dEq_ii, dNe_ii, dEq_ss, dNe_ss, dEq_bb, List.length_map, decide_true, decide_false, eC_ap, set_0, set_s, eNot, eAnd, eOr, eIf, eIsi_ap, isT_n, isT_b, isT_i, isT_s, isT_l, isT_t, gN_ap, Bool.not_true, Bool.not_false, beq_self_eq_true, Bool.or_self, Bool.or_false, Bool.false_or, Bool.or_true, Bool.true_or, String.reduceBEq, Int.reduceLT, Int.reduceLE, Int.reduceEq, eTup_0, eTup_1, eTup_2, eTup_3, eLst_0, eLst_1, eLst_2, eLst_3, eLst_4, bTuple_l, bTuple_t, bList_l, bList_t, dNeg_i, bind_ex, len0, len1, len2, len3, len4, is_nn, is_in, is_sn, is_ln, is_tn, isn_nn, isn_in, isn_sn, isn_ln, isn_tn, d4])]
        rw [seq_nx (ρ' := [.dat (L), .own (.list (rs.map ruleD)), .own (natsD (sizes rs)), .dat (.int c), .dat (ruleD r), .dat (.int e), .dat (.list [.int 0, .int 1, .int 4, .int 5, .int 6, .int (e / 384)])]) (by
          have el : eLst [(eC (.int 0)), (eC (.int 1)), (eC (.int 4)), (eC (.int 5)), (eC (.int 6)), (eBin dDiv (eVarD 5) (eC (.int 384)))] [.dat (L), .own (.list (rs.map ruleD)), .own (natsD (sizes rs)), .dat (.int c), .dat (ruleD r), .dat (.int e), k6] = .ok (.list [.int 0, .int 1, .int 4, .int 5, .int 6, .int (e / 384)]) := by
            simp only [eLst, evA, runM, mkEnv, List.replicate, List.cons_append, List.nil_append, sSeq, sIf, sRet, sAsg, sAsgN, sDrop, sSkip_ap, eBin_ap, eUn_ap, eVarD_0, eVarD_s, eVar_0d, eVar_0o, eVar_0b, eVar_s, eCall_0, eCall_1, eCall_2, eCall_3, eCall_4, bLen_l, bLen_t, bind_ok, bMin_ii, bMax_ii, dAdd_ii, dSub_ii, dLt_ii, dLe_ii, dGt_ii, dGe_ii, dEq_ii, dNe_ii, dEq_ss, dNe_ss, dEq_bb, List.length_map, decide_true, decide_false, eC_ap, set_0, set_s, eNot, eAnd, eOr, eIf, eIsi_ap, isT_n, isT_b, isT_i, isT_s, isT_l, isT_t, gN_ap, Bool.not_true, Bool.not_false, beq_self_eq_true, Bool.or_self, Bool.or_false, Bool.false_or, Bool.or_true, Bool.true_or, String.reduceBEq, Int.reduceLT, Int.reduceLE, Int.reduceEq, eTup_0, eTup_1, eTup_2, eTup_3, eLst_0, eLst_1, eLst_2, eLst_3, eLst_4, bTuple_l, bTuple_t, bList_l, bList_t, dNeg_i, bind_ex, len0, len1, len2, len3, len4, is_nn, is_in, is_sn, is_ln, is_tn, isn_nn, isn_in, isn_sn, isn_ln, isn_tn, d384]
            rfl
          simp only [runM, mkEnv, List.replicate, List.cons_append, List.nil_append, sSeq, sIf, sRet, sAsg, sAsgN, sDrop, sSkip_ap, eBin_ap, eUn_ap, eVarD_0, eVarD_s, eVar_0d, eVar_0o, eVar_0b, eVar_s, eCall_0, eCall_1, eCall_2, eCall_3, eCall_4, bLen_l, bLen_t, bind_ok, bMin_ii, bMax_ii, dAdd_ii, dSub_ii, dLt_ii, dLe_ii, dGt_ii, dGe_ii, dEq_ii, dNe_ii, dEq_ss, dNe_ss, dEq_bb, List.length_map, decide_true, decide_false, eC_ap, set_0, set_s, eNot, eAnd, eOr, eIf, eIsi_ap, isT_n, isT_b, isT_i, isT_s, isT_l, isT_t, gN_ap, Bool.not_true, Bool.not_false, beq_self_eq_true, Bool.or_self, Bool.or_false, Bool.false_or, Bool.or_true, Bool.true_or, String.reduceBEq, Int.reduceLT, Int.reduceLE, Int.reduceEq, eTup_0, eTup_1, eTup_2, eTup_3, eLst_0, eLst_1, eLst_2, eLst_3, eLst_4, bTuple_l, bTuple_t, bList_l, bList_t, dNeg_i, bind_ex, len0, len1, len2, len3, len4, is_nn, is_in, is_sn, is_ln, is_tn, isn_nn, isn_in, isn_sn, isn_ln, isn_tn, eFrz_ap, el, dFrz_l])]
        rw [asg_ok (d := ruleD q) (by simp only [runM, mkEnv, List.replicate, List.cons_append, List.nil_append, sSeq, sIf, sRet, sAsg, sAsgN, sDrop, sSkip_ap, eBin_ap, eUn_ap, eVarD_0, eVarD_s, eVar_0d, eVar_0o, eVar_0b, eVar_s, eCall_0, eCall_1, eCall_2, eCall_3, eCall_4, bLen_l, bLen_t, bind_ok, bMin_ii, bMax_ii, dAdd_ii, dSub_ii, dLt_ii, dLe_ii, dGt_ii, dGe_ii, dEq_ii, dNe_ii, dEq_ss, dNe_ss, dEq_bb, List.length_map, decide_true, decide_false, eC_ap, set_0, set_s, eNot, eAnd, eOr, eIf, eIsi_ap, isT_n, isT_b, isT_i, isT_s, isT_l, isT_t, gN_ap, Bool.not_true, Bool.not_false, beq_self_eq_true, Bool.or_self, Bool.or_false, Bool.false_or, Bool.or_true, Bool.true_or, String.reduceBEq, Int.reduceLT, Int.reduceLE, Int.reduceEq, eTup_0, eTup_1, eTup_2, eTup_3, eLst_0, eLst_1, eLst_2, eLst_3, eLst_4, bTuple_l, bTuple_t, bList_l, bList_t, dNeg_i, bind_ex, len0, len1, len2, len3, len4, is_nn, is_in, is_sn, is_ln, is_tn, isn_nn, isn_in, isn_sn, isn_ln, isn_tn, m64, d64, m6, ixv, mv, hp60, e1])]
        rfl
      · refine nx_seq (ρ' := [.dat (L), .own (.list (rs.map ruleD)), .own (natsD (sizes rs)), .dat (.int c), .dat (ruleD r), k5, k6]) (by simp only [runM, mkEnv, List.replicate, List.cons_append, List.nil_append, sSeq, sIf, sRet, sAsg, sAsgN, sDrop, sSkip_ap, eBin_ap, eUn_ap, eVarD_0, eVarD_s, eVar_0d, eVar_0o, eVar_0b, eVar_s, eCall_0, eCall_1, eCall_2, eCall_3, eCall_4, bLen_l, bLen_t, bind_ok, bMin_ii, bMax_ii, dAdd_ii, dSub_ii, dLt_ii, dLe_ii, dGt_ii, dGe_ii, dEq_ii, dNe_ii, dEq_ss, dNe_ss, dEq_bb, List.length_map, decide_true, decide_false, eC_ap, set_0, set_s, eNot, eAnd, eOr, eIf, eIsi_ap, isT_n, isT_b, isT_i, isT_s, isT_l, isT_t, gN_ap, Bool.not_true, Bool.not_false, beq_self_eq_true, Bool.or_self, Bool.or_false, Bool.false_or, Bool.or_true, Bool.true_or, String.reduceBEq, Int.reduceLT, Int.reduceLE, Int.reduceEq, eTup_0, eTup_1, eTup_2, eTup_3, eLst_0, eLst_1, eLst_2, eLst_3, eLst_4, bTuple_l, bTuple_t, bList_l, bList_t, dNeg_i, bind_ex, len0, len1, len2, len3, len4, is_nn, is_in, is_sn, is_ln, is_tn, isn_nn, isn_in, isn_sn, isn_ln, isn_tn, m4, a2]) ?_
        exact fin r k5 k6 (ok.mono (by omega)) szr
end Sb

namespace Sb
open PySem PySem.Spec L2 Evl DL
theorem no_name_ok (d0 d1 : D) (h : m_tidy [d0, d1] = .ex "NoName") : m__law_no_name [d0, d1] = .ok (.bool true) := by
  have ed : ∀ a b c : Sl, sDrop (eCall m_tidy [(eVarD 0), (eVarD 1)]) [.dat d0, .dat d1, a, b, c] = .ex "NoName" [.dat d0, .dat d1, a, b, c] := fun a b c => drop_ex (by simp only [runM, mkEnv, List.replicate, List.cons_append, List.nil_append, sSeq, sIf, sRet, sAsg, sAsgN, sDrop, sSkip_ap, eBin_ap, eUn_ap, eVarD_0, eVarD_s, eVar_0d, eVar_0o, eVar_0b, eVar_s, eCall_0, eCall_1, eCall_2, eCall_3, eCall_4, bLen_l, bLen_t, bind_ok, bMin_ii, bMax_ii, dAdd_ii, dSub_ii, dLt_ii, dLe_ii, dGt_ii, dGe_ii, dEq_ii, dNe_ii, dEq_ss, dNe_ss, dEq_bb, List.length_map, decide_true, decide_false, eC_ap, set_0, set_s, eNot, eAnd, eOr, eIf, eIsi_ap, isT_n, isT_b, isT_i, isT_s, isT_l, isT_t, gN_ap, Bool.not_true, Bool.not_false, beq_self_eq_true, Bool.or_self, Bool.or_false, Bool.false_or, Bool.or_true, Bool.true_or, String.reduceBEq, Int.reduceLT, Int.reduceLE, Int.reduceEq, eTup_0, eTup_1, eTup_2, eTup_3, eLst_0, eLst_1, eLst_2, eLst_3, eLst_4, bTuple_l, bTuple_t, bList_l, bList_t, dNeg_i, bind_ex, len0, len1, len2, len3, len4, is_nn, is_in, is_sn, is_ln, is_tn, isn_nn, isn_in, isn_sn, isn_ln, isn_tn, h])
  refine rt_run' ?_
  show Rt (b__law_no_name [.dat d0, .dat d1, .un, .un, .un]) _
  unfold b__law_no_name
  refine rt_seq (ρ' := [.dat d0, .dat d1, .dat (.bool false), .un, .un]) rfl (rt_seq (ρ' := [.dat d0, .dat d1, .dat (.bool false), .dat .none, .un]) rfl ?_)
  refine rt_seq (ρ' := [.dat d0, .dat d1, .dat (.bool true), .dat .none, .un]) (by
    rw [try_ex (ed _ _ _) (by decide +kernel) (m := sAsg 2 (eC (.bool true))) (by simp [hGet, sub_refl])]
    rfl) ?_
  refine rt_seq (ρ' := [.dat d0, .dat d1, .dat (.bool true), .dat (.list [.bool false, .bool false]), .un]) (by
    rw [tryAs_ex (ed _ _ _) (by decide +kernel) (by simp) (sub_book _)]
    simp only [runM, mkEnv, List.replicate, List.cons_append, List.nil_append, sSeq, sIf, sRet, sAsg, sAsgN, sDrop, sSkip_ap, eBin_ap, eUn_ap, eVarD_0, eVarD_s, eVar_0d, eVar_0o, eVar_0b, eVar_s, eCall_0, eCall_1, eCall_2, eCall_3, eCall_4, bLen_l, bLen_t, bind_ok, bMin_ii, bMax_ii, dAdd_ii, dSub_ii, dLt_ii, dLe_ii, dGt_ii, dGe_ii, dEq_ii, dNe_ii, dEq_ss, dNe_ss, dEq_bb, List.length_map, decide_true, decide_false, eC_ap, set_0, set_s, eNot, eAnd, eOr, eIf, eIsi_ap, isT_n, isT_b, isT_i, isT_s, isT_l, isT_t, gN_ap, Bool.not_true, Bool.not_false, beq_self_eq_true, Bool.or_self, Bool.or_false, Bool.false_or, Bool.or_true, Bool.true_or, String.reduceBEq, Int.reduceLT, Int.reduceLE, Int.reduceEq, eTup_0, eTup_1, eTup_2, eTup_3, eLst_0, eLst_1, eLst_2, eLst_3, eLst_4, bTuple_l, bTuple_t, bList_l, bList_t, dNeg_i, bind_ex, len0, len1, len2, len3, len4, is_nn, is_in, is_sn, is_ln, is_tn, isn_nn, isn_in, isn_sn, isn_ln, isn_tn, shut, eFrz_ap, show (List.any ["NoPlace", "NoRules"] fun T => subX "NoName" T) = false by decide +kernel, show (List.any ["TooLong", "TooMany"] fun T => subX "NoName" T) = false by decide +kernel]
    rfl) ?_
  refine rt_ret (d := .bool true) ?_ rfl
  rw [eAnd_t rfl]
  simp only [runM, mkEnv, List.replicate, List.cons_append, List.nil_append, sSeq, sIf, sRet, sAsg, sAsgN, sDrop, sSkip_ap, eBin_ap, eUn_ap, eVarD_0, eVarD_s, eVar_0d, eVar_0o, eVar_0b, eVar_s, eCall_0, eCall_1, eCall_2, eCall_3, eCall_4, bLen_l, bLen_t, bind_ok, bMin_ii, bMax_ii, dAdd_ii, dSub_ii, dLt_ii, dLe_ii, dGt_ii, dGe_ii, dEq_ii, dNe_ii, dEq_ss, dNe_ss, dEq_bb, List.length_map, decide_true, decide_false, eC_ap, set_0, set_s, eNot, eAnd, eOr, eIf, eIsi_ap, isT_n, isT_b, isT_i, isT_s, isT_l, isT_t, gN_ap, Bool.not_true, Bool.not_false, beq_self_eq_true, Bool.or_self, Bool.or_false, Bool.false_or, Bool.or_true, Bool.true_or, String.reduceBEq, Int.reduceLT, Int.reduceLE, Int.reduceEq, eTup_0, eTup_1, eTup_2, eTup_3, eLst_0, eLst_1, eLst_2, eLst_3, eLst_4, bTuple_l, bTuple_t, bList_l, bList_t, dNeg_i, bind_ex, len0, len1, len2, len3, len4, is_nn, is_in, is_sn, is_ln, is_tn, isn_nn, isn_in, isn_sn, isn_ln, isn_tn]
  exact dEq_same (sh_bools [false, false])
theorem ren_mem {r : Rule} {f : Nat → Nat} {a : Nat} (h : a ∈ r.parts) : f a ∈ (r.ren f).parts := by
  rw [ren_partsT]
  exact List.mem_map.mpr ⟨a, h, rfl⟩
theorem td_le {rs : List Rule} (g : Good rs) {k : Nat} {ks : List Nat} (nd : Need rs k ks) (hk : k < rs.length) {qs : List Rule} {f : Nat → Nat} (td : Td rs ks qs f) : ∀ d i, k - i ≤ d → i ∈ ks → f i ≤ f k := by
  intro d
  induction d with
  | zero =>
    intro i hd hi
    have := nd.le i hi
    have e : i = k := by omega
    rw [e]
    exact Nat.le_refl _
  | succ d ih =>
    intro i hd hi
    rcases nd.by_ i hi with e | ⟨j, hj, r, hr, hp⟩
    · rw [e]
      exact Nat.le_refl _
    · have hlt := parts_lt (g j r hr) i hp
      have := nd.le j hj
      have h2 := ih j (by omega) hj
      have row := td.row j hj r hr
      have := parts_lt (td.g _ _ row) (f i) (ren_mem hp)
      omega
theorem td_top {rs : List Rule} (g : Good rs) {k : Nat} {ks : List Nat} (nd : Need rs k ks) (hk : k < rs.length) {qs : List Rule} {f : Nat → Nat} (td : Td rs ks qs f) : f k + 1 = qs.length ∧ Need qs (f k) (List.range qs.length) := by
  have lt := td.lt k nd.top
  have top : f k + 1 = qs.length := by
    obtain ⟨i, hi, e⟩ := td.hit (qs.length - 1) (by omega)
    have := td_le g nd hk td (k - i) i (Nat.le_refl _) hi
    omega
  refine ⟨top, List.pairwise_lt_range, List.mem_range.mpr lt, fun i hi => by have := List.mem_range.mp hi; omega, fun i hi r hr p hp => ?_, fun x hx => ?_⟩
  · have := parts_lt (td.g i r hr) p hp
    have := List.mem_range.mp hi
    exact List.mem_range.mpr (by omega)
  · obtain ⟨i, hi, e⟩ := td.hit x (List.mem_range.mp hx)
    rcases nd.by_ i hi with e2 | ⟨j, hj, r, hr, hp⟩
    · rw [e2] at e
      exact .inl e.symm
    · exact .inr ⟨f j, List.mem_range.mpr (td.lt j hj), _, td.row j hj r hr, by rw [← e]; exact ren_mem hp⟩
/-- tidied once more they stay -/
theorem tidy_again {qs : List Rule} (g : Good qs) (f : Fits MOST qs) (nd : qs.Nodup) (hl : qs.length ≤ 30000) {k : Nat} (hk : k + 1 = qs.length) (ne : Need qs k (List.range qs.length)) : m_tidy [rulesD qs, .int (k : Int)] = .ok (.tuple [rulesD qs, .int (k : Int)]) := by
  obtain ⟨ks, q2, fn, nk, td, tf, e⟩ := tidy_fold qs g f hl (some k) (NameOk.some (by omega))
  have ek : ks = List.range qs.length := need_uniq g nk.2 ne
  obtain ⟨f2, e2, hf⟩ := tfold_all g nd qs.length (Nat.le_refl _)
  rw [ek, e2, List.take_length] at tf
  have h1 : q2 = qs := (congrArg Prod.fst tf).symm
  have h2 : fn = f2 := (congrArg Prod.snd tf).symm
  have e3 : m_tidy [rulesD qs, .int (k : Int)] = .ok (.tuple [rulesD q2, .int ((fn k : Nat) : Int)]) := e
  rw [e3, h1, h2, hf k (by omega)]
theorem law_true (ns : List Int) (hlen : ns.length ≤ 63) (hb : ∀ z ∈ ns, Builtin.Int.intBits z ≤ 1048576) : m_law [.list (ns.map PyData.int)] = .ok (.bool true) := by
  obtain ⟨cell, hcell⟩ := cell_fn hb
  obtain ⟨L, hL⟩ : ∃ L, L = PyData.list (ns.map PyData.int) := ⟨_, rfl⟩
  have hlenL : bLen [L] = .ok (.int ns.length) := by rw [hL]; simp
  rw [← hL] at hcell ⊢
  have hp60 : dPow (.int 2) (.int 60) = .ok (.int ((MOST : Nat) : Int)) := dPow_ok (by decide) (by decide) (by decide)
  have c0 : m__law_cell [L, .int 0] = .ok (.int (cell 0)) := (hcell 0 (by decide)).1
  obtain ⟨_, c0a, c0b⟩ := hcell 0 (by decide)
  have c1 : m__law_cell [L, .int 1] = .ok (.int (cell 1)) := (hcell 1 (by decide)).1
  obtain ⟨_, c1a, c1b⟩ := hcell 1 (by decide)
  have e1 := lcells_ok hlenL (by omega) hcell 2 52 (by decide) (by decide)
  obtain ⟨cs, hcs0⟩ : ∃ cs, cs = (List.range (min 52 ns.length - 2)).map (fun i => cell (2 + i)) := ⟨_, rfl⟩
  have csl : cs.length ≤ 50 := by rw [hcs0]; simp; omega
  have hcs : ∀ c ∈ cell 0 :: cs, 0 ≤ c ∧ c < 10 ^ 40 := fun c hc => by
    rcases List.mem_cons.mp hc with e | e
    · rw [e]
      exact (hcell 0 (by decide)).2
    · rw [hcs0, List.mem_map] at e
      obtain ⟨i, hi, rfl⟩ := e
      have := List.mem_range.mp hi
      exact (hcell (2 + i) (by omega)).2
  rw [← hcs0] at e1
  have e1' : m__law_cells [L, .int 2, .int 52] = .ok (.list (cs.map PyData.int)) := e1
  have e2 : dAdd (.list [.int (cell 0)]) (.list (cs.map PyData.int)) = .ok (.list ((cell 0 :: cs).map PyData.int)) := dAdd_ll (by simp; exact sz_le (by omega))
  obtain ⟨rs0, r1, r2, r3, r4, r5⟩ := lagain_ok (cell 0 :: cs) (by simp) (by simp; omega) hcs
  have rl : rs0.length ≤ 52 := by simp at r4; omega
  have rp : 2 ≤ rs0.length := by simp at r4; omega
  have d0 := dDiv_w (i := cell 0) (j := 3844) (by decide) (by decide)
  obtain ⟨q0, dp, g, f, rl1⟩ := deeper_ok rs0 r2 r3 r5 (by omega) (cell 0 / 3844)
  have st := r5.app q0
  have rp1 : 2 ≤ (rs0 ++ q0).length := by simp; omega
  have rl2 : (rs0 ++ q0).length ≤ 980 := by simpa using rl1
  obtain ⟨rs, hrs⟩ : ∃ rs, rs = rs0 ++ q0 := ⟨_, rfl⟩
  rw [← hrs] at dp g f st rp1 rl2
  have lenr := rulesD_len rs
  have d8 : dDiv (.int (cell 1)) (.int 8) = .ok (.int (cell 1 / 8)) := dDiv_w (by decide) (by decide)
  obtain ⟨n, hn, en⟩ := name_ok (cell 1) rs (by omega) (by omega)
  obtain ⟨far, hfar⟩ := far_ok (cell 1 / 8) (by omega)
  refine rt_run' ?_
  show Rt (b_law [.dat (L), .un, .un, .un, .un, .un, .un]) _
  unfold b_law
  refine rt_seq (ρ' := [.dat (L), .dat (rulesD rs0), .un, .un, .un, .un, .un]) (by simp only [runM, mkEnv, List.replicate, List.cons_append, List.nil_append, sSeq, sIf, sRet, sAsg, sAsgN, sDrop, sSkip_ap, eBin_ap, eUn_ap, eVarD_0, eVarD_s, eVar_0d, eVar_0o, eVar_0b, eVar_s, eCall_0, eCall_1, eCall_2, eCall_3, eCall_4, bLen_l, bLen_t, bind_ok, bMin_ii, bMax_ii, dAdd_ii, dSub_ii, dLt_ii, dLe_ii, dGt_ii, dGe_ii, dEq_ii, dNe_ii, dEq_ss, dNe_ss, dEq_bb, List.length_map, decide_true, decide_false, eC_ap, set_0, set_s, eNot, eAnd, eOr, eIf, eIsi_ap, isT_n, isT_b, isT_i, isT_s, isT_l, isT_t, gN_ap, Bool.not_true, Bool.not_false, beq_self_eq_true, Bool.or_self, Bool.or_false, Bool.false_or, Bool.or_true, Bool.true_or, String.reduceBEq, Int.reduceLT, Int.reduceLE, Int.reduceEq, eTup_0, eTup_1, eTup_2, eTup_3, eLst_0, eLst_1, eLst_2, eLst_3, eLst_4, bTuple_l, bTuple_t, bList_l, bList_t, dNeg_i, bind_ex, len0, len1, len2, len3, len4, is_nn, is_in, is_sn, is_ln, is_tn, isn_nn, isn_in, isn_sn, isn_ln, isn_tn, c0, e1', e2, r1]) ?_
  refine rt_seq (ρ' := [.dat (L), .dat (rulesD rs), .un, .un, .un, .un, .un]) (by simp only [runM, mkEnv, List.replicate, List.cons_append, List.nil_append, sSeq, sIf, sRet, sAsg, sAsgN, sDrop, sSkip_ap, eBin_ap, eUn_ap, eVarD_0, eVarD_s, eVar_0d, eVar_0o, eVar_0b, eVar_s, eCall_0, eCall_1, eCall_2, eCall_3, eCall_4, bLen_l, bLen_t, bind_ok, bMin_ii, bMax_ii, dAdd_ii, dSub_ii, dLt_ii, dLe_ii, dGt_ii, dGe_ii, dEq_ii, dNe_ii, dEq_ss, dNe_ss, dEq_bb, List.length_map, decide_true, decide_false, eC_ap, set_0, set_s, eNot, eAnd, eOr, eIf, eIsi_ap, isT_n, isT_b, isT_i, isT_s, isT_l, isT_t, gN_ap, Bool.not_true, Bool.not_false, beq_self_eq_true, Bool.or_self, Bool.or_false, Bool.false_or, Bool.or_true, Bool.true_or, String.reduceBEq, Int.reduceLT, Int.reduceLE, Int.reduceEq, eTup_0, eTup_1, eTup_2, eTup_3, eLst_0, eLst_1, eLst_2, eLst_3, eLst_4, bTuple_l, bTuple_t, bList_l, bList_t, dNeg_i, bind_ex, len0, len1, len2, len3, len4, is_nn, is_in, is_sn, is_ln, is_tn, isn_nn, isn_in, isn_sn, isn_ln, isn_tn, c0, d0, dp]) ?_
  refine rt_seq (ρ' := [.dat (L), .dat (rulesD rs), .dat (nameD n), .un, .un, .un, .un]) (by simp only [runM, mkEnv, List.replicate, List.cons_append, List.nil_append, sSeq, sIf, sRet, sAsg, sAsgN, sDrop, sSkip_ap, eBin_ap, eUn_ap, eVarD_0, eVarD_s, eVar_0d, eVar_0o, eVar_0b, eVar_s, eCall_0, eCall_1, eCall_2, eCall_3, eCall_4, bLen_l, bLen_t, bind_ok, bMin_ii, bMax_ii, dAdd_ii, dSub_ii, dLt_ii, dLe_ii, dGt_ii, dGe_ii, dEq_ii, dNe_ii, dEq_ss, dNe_ss, dEq_bb, List.length_map, decide_true, decide_false, eC_ap, set_0, set_s, eNot, eAnd, eOr, eIf, eIsi_ap, isT_n, isT_b, isT_i, isT_s, isT_l, isT_t, gN_ap, Bool.not_true, Bool.not_false, beq_self_eq_true, Bool.or_self, Bool.or_false, Bool.false_or, Bool.or_true, Bool.true_or, String.reduceBEq, Int.reduceLT, Int.reduceLE, Int.reduceEq, eTup_0, eTup_1, eTup_2, eTup_3, eLst_0, eLst_1, eLst_2, eLst_3, eLst_4, bTuple_l, bTuple_t, bList_l, bList_t, dNeg_i, bind_ex, len0, len1, len2, len3, len4, is_nn, is_in, is_sn, is_ln, is_tn, isn_nn, isn_in, isn_sn, isn_ln, isn_tn, c1, lenr, en]) ?_
  refine rt_seq (ρ' := [.dat (L), .dat (rulesD rs), .dat (nameD n), .dat (.int (far : Int)), .un, .un, .un]) (by simp only [runM, mkEnv, List.replicate, List.cons_append, List.nil_append, sSeq, sIf, sRet, sAsg, sAsgN, sDrop, sSkip_ap, eBin_ap, eUn_ap, eVarD_0, eVarD_s, eVar_0d, eVar_0o, eVar_0b, eVar_s, eCall_0, eCall_1, eCall_2, eCall_3, eCall_4, bLen_l, bLen_t, bind_ok, bMin_ii, bMax_ii, dAdd_ii, dSub_ii, dLt_ii, dLe_ii, dGt_ii, dGe_ii, dEq_ii, dNe_ii, dEq_ss, dNe_ss, dEq_bb, List.length_map, decide_true, decide_false, eC_ap, set_0, set_s, eNot, eAnd, eOr, eIf, eIsi_ap, isT_n, isT_b, isT_i, isT_s, isT_l, isT_t, gN_ap, Bool.not_true, Bool.not_false, beq_self_eq_true, Bool.or_self, Bool.or_false, Bool.false_or, Bool.or_true, Bool.true_or, String.reduceBEq, Int.reduceLT, Int.reduceLE, Int.reduceEq, eTup_0, eTup_1, eTup_2, eTup_3, eLst_0, eLst_1, eLst_2, eLst_3, eLst_4, bTuple_l, bTuple_t, bList_l, bList_t, dNeg_i, bind_ex, len0, len1, len2, len3, len4, is_nn, is_in, is_sn, is_ln, is_tn, isn_nn, isn_in, isn_sn, isn_ln, isn_tn, c1, d8, hfar]) ?_
  have f1 := no_name_ok _ _ (tidy_no rs ((rs.length : Int) + (far : Int)) (.inr (by omega)))
  have f2 := no_name_ok _ _ (tidy_no rs (-1 - (far : Int)) (.inl (by omega)))
  refine rt_seq (ρ' := [.dat (L), .dat (rulesD rs), .dat (nameD n), .dat (.int (far : Int)), .un, .un, .un]) (by simp only [runM, mkEnv, List.replicate, List.cons_append, List.nil_append, sSeq, sIf, sRet, sAsg, sAsgN, sDrop, sSkip_ap, eBin_ap, eUn_ap, eVarD_0, eVarD_s, eVar_0d, eVar_0o, eVar_0b, eVar_s, eCall_0, eCall_1, eCall_2, eCall_3, eCall_4, bLen_l, bLen_t, bind_ok, bMin_ii, bMax_ii, dAdd_ii, dSub_ii, dLt_ii, dLe_ii, dGt_ii, dGe_ii, dEq_ii, dNe_ii, dEq_ss, dNe_ss, dEq_bb, List.length_map, decide_true, decide_false, eC_ap, set_0, set_s, eNot, eAnd, eOr, eIf, eIsi_ap, isT_n, isT_b, isT_i, isT_s, isT_l, isT_t, gN_ap, Bool.not_true, Bool.not_false, beq_self_eq_true, Bool.or_self, Bool.or_false, Bool.false_or, Bool.or_true, Bool.true_or, String.reduceBEq, Int.reduceLT, Int.reduceLE, Int.reduceEq, eTup_0, eTup_1, eTup_2, eTup_3, eLst_0, eLst_1, eLst_2, eLst_3, eLst_4, bTuple_l, bTuple_t, bList_l, bList_t, dNeg_i, bind_ex, len0, len1, len2, len3, len4, is_nn, is_in, is_sn, is_ln, is_tn, isn_nn, isn_in, isn_sn, isn_ln, isn_tn, lenr, f1, f2]) ?_
  have none1 : m_tidy [rulesD rs, .none] = .ok (.tuple [.tuple [], .none]) := by
    obtain ⟨ks, q2, fn, nk, td, tf, e⟩ := tidy_fold rs g f (by omega) none NameOk.none
    have ek : ks = [] := nk
    rw [ek] at tf
    have h1 : q2 = [] := (congrArg Prod.fst tf).symm
    rw [h1] at e
    exact e
  have ne0 : dNe (.tuple [.tuple [], .none]) (.tuple [.tuple [], .none]) = .ok (.bool false) := dNe_same (sh_pair Good.nil none)
  refine rt_seq (ρ' := [.dat (L), .dat (rulesD rs), .dat (nameD n), .dat (.int (far : Int)), .un, .un, .un]) (by
    rw [if_f]
    · rfl
    · have q1 : eCall m_tidy [(eVarD 1), (eC .none)] [.dat (L), .dat (rulesD rs), .dat (nameD n), .dat (.int (far : Int)), .un, .un, .un] = .ok (.tuple [.tuple [], .none]) := call2_ok rfl rfl none1
      simp only [eBin_ap, q1, runM, mkEnv, List.replicate, List.cons_append, List.nil_append, sSeq, sIf, sRet, sAsg, sAsgN, sDrop, sSkip_ap, eBin_ap, eUn_ap, eVarD_0, eVarD_s, eVar_0d, eVar_0o, eVar_0b, eVar_s, eCall_0, eCall_1, eCall_2, eCall_3, eCall_4, bLen_l, bLen_t, bind_ok, bMin_ii, bMax_ii, dAdd_ii, dSub_ii, dLt_ii, dLe_ii, dGt_ii, dGe_ii, dEq_ii, dNe_ii, dEq_ss, dNe_ss, dEq_bb, List.length_map, decide_true, decide_false, eC_ap, set_0, set_s, eNot, eAnd, eOr, eIf, eIsi_ap, isT_n, isT_b, isT_i, isT_s, isT_l, isT_t, gN_ap, Bool.not_true, Bool.not_false, beq_self_eq_true, Bool.or_self, Bool.or_false, Bool.false_or, Bool.or_true, Bool.true_or, String.reduceBEq, Int.reduceLT, Int.reduceLE, Int.reduceEq, eTup_0, eTup_1, eTup_2, eTup_3, eLst_0, eLst_1, eLst_2, eLst_3, eLst_4, bTuple_l, bTuple_t, bList_l, bList_t, dNeg_i, bind_ex, len0, len1, len2, len3, len4, is_nn, is_in, is_sn, is_ln, is_tn, isn_nn, isn_in, isn_sn, isn_ln, isn_tn, ne0]) ?_
  obtain ⟨k, hk, ek⟩ : ∃ k, k < rs.length ∧ (sIf (eBin dIs (eVarD 2) (eC .none)) (sAsg 2 (eC (.int 0))) sSkip) [.dat (L), .dat (rulesD rs), .dat (nameD n), .dat (.int (far : Int)), .un, .un, .un] = .nx [.dat (L), .dat (rulesD rs), .dat (.int (k : Int)), .dat (.int (far : Int)), .un, .un, .un] := by
    cases n with
    | none => exact ⟨0, by omega, by simp only [runM, mkEnv, List.replicate, List.cons_append, List.nil_append, sSeq, sIf, sRet, sAsg, sAsgN, sDrop, sSkip_ap, eBin_ap, eUn_ap, eVarD_0, eVarD_s, eVar_0d, eVar_0o, eVar_0b, eVar_s, eCall_0, eCall_1, eCall_2, eCall_3, eCall_4, bLen_l, bLen_t, bind_ok, bMin_ii, bMax_ii, dAdd_ii, dSub_ii, dLt_ii, dLe_ii, dGt_ii, dGe_ii, dEq_ii, dNe_ii, dEq_ss, dNe_ss, dEq_bb, List.length_map, decide_true, decide_false, eC_ap, set_0, set_s, eNot, eAnd, eOr, eIf, eIsi_ap, isT_n, isT_b, isT_i, isT_s, isT_l, isT_t, gN_ap, Bool.not_true, Bool.not_false, beq_self_eq_true, Bool.or_self, Bool.or_false, Bool.false_or, Bool.or_true, Bool.true_or, String.reduceBEq, Int.reduceLT, Int.reduceLE, Int.reduceEq, eTup_0, eTup_1, eTup_2, eTup_3, eLst_0, eLst_1, eLst_2, eLst_3, eLst_4, bTuple_l, bTuple_t, bList_l, bList_t, dNeg_i, bind_ex, len0, len1, len2, len3, len4, is_nn, is_in, is_sn, is_ln, is_tn, isn_nn, isn_in, isn_sn, isn_ln, isn_tn, nameD]; rfl⟩
    | some k => exact ⟨k, hn k rfl, by simp only [runM, mkEnv, List.replicate, List.cons_append, List.nil_append, sSeq, sIf, sRet, sAsg, sAsgN, sDrop, sSkip_ap, eBin_ap, eUn_ap, eVarD_0, eVarD_s, eVar_0d, eVar_0o, eVar_0b, eVar_s, eCall_0, eCall_1, eCall_2, eCall_3, eCall_4, bLen_l, bLen_t, bind_ok, bMin_ii, bMax_ii, dAdd_ii, dSub_ii, dLt_ii, dLe_ii, dGt_ii, dGe_ii, dEq_ii, dNe_ii, dEq_ss, dNe_ss, dEq_bb, List.length_map, decide_true, decide_false, eC_ap, set_0, set_s, eNot, eAnd, eOr, eIf, eIsi_ap, isT_n, isT_b, isT_i, isT_s, isT_l, isT_t, gN_ap, Bool.not_true, Bool.not_false, beq_self_eq_true, Bool.or_self, Bool.or_false, Bool.false_or, Bool.or_true, Bool.true_or, String.reduceBEq, Int.reduceLT, Int.reduceLE, Int.reduceEq, eTup_0, eTup_1, eTup_2, eTup_3, eLst_0, eLst_1, eLst_2, eLst_3, eLst_4, bTuple_l, bTuple_t, bList_l, bList_t, dNeg_i, bind_ex, len0, len1, len2, len3, len4, is_nn, is_in, is_sn, is_ln, is_tn, isn_nn, isn_in, isn_sn, isn_ln, isn_tn, nameD]⟩
  refine rt_seq ek ?_
  obtain ⟨ks, nk, du⟩ := ltidied_ok rs g (by omega) k hk
  obtain ⟨ks', qs, fn, nk', td, tf, ti⟩ := tidy_fold rs g f (by omega) (some k) (NameOk.some hk)
  have ek : ks' = ks := need_uniq g nk'.2 nk
  subst ek
  rw [tf] at du
  obtain ⟨top, ne⟩ := td_top g nk hk td
  have ti' : m_tidy [rulesD rs, .int (k : Int)] = .ok (.tuple [rulesD qs, .int ((fn k : Nat) : Int)]) := ti
  have ql : qs.length ≤ rs.length := Nat.le_trans td.len nk'.len
  have ta := tidy_again td.g td.fits td.nd (by omega) top ne
  have to := told_ok [] qs td.g td.fits (by simp; omega) (some (fn k)) (NameOk.some (by simp; omega)) (rs.length : Int) (by omega)
  rw [List.nil_append] at to
  have to' : m__law_told [.tuple [rulesD qs, .int ((fn k : Nat) : Int)], .tuple [], .int (rs.length : Int)] = .ok (natsD (sizes qs)) := to
  have sh := sh_pair td.g (some (fn k))
  have eqf := dEq_same sh
  have nef := dNe_same sh
  have neq := dNe_same (sh_rules td.g)
  obtain ⟨F, hF⟩ : ∃ F, F = PyData.tuple [rulesD qs, .int ((fn k : Nat) : Int)] := ⟨_, rfl⟩
  have F0 : dIx F (.int 0) = .ok (rulesD qs) := by rw [hF]; exact dIx_t0 _ _
  have F1 : dIx F (.int 1) = .ok (.int ((fn k : Nat) : Int)) := by rw [hF]; exact dIx_t1 _ _ _
  have eqf' : dEq F F = .ok (.bool true) := by rw [hF]; exact eqf
  have nef' : dNe F F = .ok (.bool false) := by rw [hF]; exact nef
  rw [← hF] at ti' ta to'
  have lenq := rulesD_len qs
  have top' : ((qs.length : Nat) : Int) - 1 = ((fn k : Nat) : Int) := by omega
  refine rt_seq (ρ' := [.dat (L), .dat (rulesD rs), .dat (.int (k : Int)), .dat (.int (far : Int)), .dat (rulesD qs), .un, .un]) (by rw [asg_ok (call2_ok rfl rfl du)]; rfl) ?_
  refine rt_seq (ρ' := [.dat (L), .dat (rulesD rs), .dat (.int (k : Int)), .dat (.int (far : Int)), .dat (rulesD qs), .dat (F), .un]) (by rw [asg_ok (call2_ok rfl rfl ti')]; rfl) ?_
  refine rt_seq (ρ' := [.dat (L), .dat (rulesD rs), .dat (.int (k : Int)), .dat (.int (far : Int)), .dat (rulesD qs), .dat (F), .dat (natsD (sizes qs))]) (by simp only [runM, mkEnv, List.replicate, List.cons_append, List.nil_append, sSeq, sIf, sRet, sAsg, sAsgN, sDrop, sSkip_ap, eBin_ap, eUn_ap, eVarD_0, eVarD_s, eVar_0d, eVar_0o, eVar_0b, eVar_s, eCall_0, eCall_1, eCall_2, eCall_3, eCall_4, bLen_l, bLen_t, bind_ok, bMin_ii, bMax_ii, dAdd_ii, dSub_ii, dLt_ii, dLe_ii, dGt_ii, dGe_ii, dEq_ii, dNe_ii, dEq_ss, dNe_ss, dEq_bb, List.length_map, decide_true, decide_false, eC_ap, set_0, set_s, eNot, eAnd, eOr, eIf, eIsi_ap, isT_n, isT_b, isT_i, isT_s, isT_l, isT_t, gN_ap, Bool.not_true, Bool.not_false, beq_self_eq_true, Bool.or_self, Bool.or_false, Bool.false_or, Bool.or_true, Bool.true_or, String.reduceBEq, Int.reduceLT, Int.reduceLE, Int.reduceEq, eTup_0, eTup_1, eTup_2, eTup_3, eLst_0, eLst_1, eLst_2, eLst_3, eLst_4, bTuple_l, bTuple_t, bList_l, bList_t, dNeg_i, bind_ex, len0, len1, len2, len3, len4, is_nn, is_in, is_sn, is_ln, is_tn, isn_nn, isn_in, isn_sn, isn_ln, isn_tn, lenr, to']) ?_
  refine rt_seq (ρ' := [.dat (L), .dat (rulesD rs), .dat (.int (k : Int)), .dat (.int (far : Int)), .dat (rulesD qs), .dat (F), .dat (natsD (sizes qs))]) (by simp only [runM, mkEnv, List.replicate, List.cons_append, List.nil_append, sSeq, sIf, sRet, sAsg, sAsgN, sDrop, sSkip_ap, eBin_ap, eUn_ap, eVarD_0, eVarD_s, eVar_0d, eVar_0o, eVar_0b, eVar_s, eCall_0, eCall_1, eCall_2, eCall_3, eCall_4, bLen_l, bLen_t, bind_ok, bMin_ii, bMax_ii, dAdd_ii, dSub_ii, dLt_ii, dLe_ii, dGt_ii, dGe_ii, dEq_ii, dNe_ii, dEq_ss, dNe_ss, dEq_bb, List.length_map, decide_true, decide_false, eC_ap, set_0, set_s, eNot, eAnd, eOr, eIf, eIsi_ap, isT_n, isT_b, isT_i, isT_s, isT_l, isT_t, gN_ap, Bool.not_true, Bool.not_false, beq_self_eq_true, Bool.or_self, Bool.or_false, Bool.false_or, Bool.or_true, Bool.true_or, String.reduceBEq, Int.reduceLT, Int.reduceLE, Int.reduceEq, eTup_0, eTup_1, eTup_2, eTup_3, eLst_0, eLst_1, eLst_2, eLst_3, eLst_4, bTuple_l, bTuple_t, bList_l, bList_t, dNeg_i, bind_ex, len0, len1, len2, len3, len4, is_nn, is_in, is_sn, is_ln, is_tn, isn_nn, isn_in, isn_sn, isn_ln, isn_tn, show dIs (natsD (sizes qs)) .none = .ok (.bool false) from rfl, F0, F1, neq, lenq, top']) ?_
  refine rt_seq (ρ' := [.dat (L), .dat (rulesD rs), .dat (.int (k : Int)), .dat (.int (far : Int)), .dat (rulesD qs), .dat (F), .dat (natsD (sizes qs))]) (by
    rw [if_f]
    · rfl
    · have q1 : eCall m_tidy [(eBin dIx (eVarD 5) (eC (.int 0))), (eBin dIx (eVarD 5) (eC (.int 1)))] [.dat (L), .dat (rulesD rs), .dat (.int (k : Int)), .dat (.int (far : Int)), .dat (rulesD qs), .dat (F), .dat (natsD (sizes qs))] = .ok F := call2_ok (by simp only [runM, mkEnv, List.replicate, List.cons_append, List.nil_append, sSeq, sIf, sRet, sAsg, sAsgN, sDrop, sSkip_ap, eBin_ap, eUn_ap, eVarD_0, eVarD_s, eVar_0d, eVar_0o, eVar_0b, eVar_s, eCall_0, eCall_1, eCall_2, eCall_3, eCall_4, bLen_l, bLen_t, bind_ok, bMin_ii, bMax_ii, dAdd_ii, dSub_ii, dLt_ii, dLe_ii, dGt_ii, dGe_ii, dEq_ii, dNe_ii, dEq_ss, dNe_ss, dEq_bb, List.length_map, decide_true, decide_false, eC_ap, set_0, set_s, eNot, eAnd, eOr, eIf, eIsi_ap, isT_n, isT_b, isT_i, isT_s, isT_l, isT_t, gN_ap, Bool.not_true, Bool.not_false, beq_self_eq_true, Bool.or_self, Bool.or_false, Bool.false_or, Bool.or_true, Bool.true_or, String.reduceBEq, Int.reduceLT, Int.reduceLE, Int.reduceEq, eTup_0, eTup_1, eTup_2, eTup_3, eLst_0, eLst_1, eLst_2, eLst_3, eLst_4, bTuple_l, bTuple_t, bList_l, bList_t, dNeg_i, bind_ex, len0, len1, len2, len3, len4, is_nn, is_in, is_sn, is_ln, is_tn, isn_nn, isn_in, isn_sn, isn_ln, isn_tn, F0]) (by simp only [runM, mkEnv, List.replicate, List.cons_append, List.nil_append, sSeq, sIf, sRet, sAsg, sAsgN, sDrop, sSkip_ap, eBin_ap, eUn_ap, eVarD_0, eVarD_s, eVar_0d, eVar_0o, eVar_0b, eVar_s, eCall_0, eCall_1, eCall_2, eCall_3, eCall_4, bLen_l, bLen_t, bind_ok, bMin_ii, bMax_ii, dAdd_ii, dSub_ii, dLt_ii, dLe_ii, dGt_ii, dGe_ii, dEq_ii, dNe_ii, dEq_ss, dNe_ss, dEq_bb, List.length_map, decide_true, decide_false, eC_ap, set_0, set_s, eNot, eAnd, eOr, eIf, eIsi_ap, isT_n, isT_b, isT_i, isT_s, isT_l, isT_t, gN_ap, Bool.not_true, Bool.not_false, beq_self_eq_true, Bool.or_self, Bool.or_false, Bool.false_or, Bool.or_true, Bool.true_or, String.reduceBEq, Int.reduceLT, Int.reduceLE, Int.reduceEq, eTup_0, eTup_1, eTup_2, eTup_3, eLst_0, eLst_1, eLst_2, eLst_3, eLst_4, bTuple_l, bTuple_t, bList_l, bList_t, dNeg_i, bind_ex, len0, len1, len2, len3, len4, is_nn, is_in, is_sn, is_ln, is_tn, isn_nn, isn_in, isn_sn, isn_ln, isn_tn, F1]) ta
      simp only [eBin_ap, q1, runM, mkEnv, List.replicate, List.cons_append, List.nil_append, sSeq, sIf, sRet, sAsg, sAsgN, sDrop, sSkip_ap, eBin_ap, eUn_ap, eVarD_0, eVarD_s, eVar_0d, eVar_0o, eVar_0b, eVar_s, eCall_0, eCall_1, eCall_2, eCall_3, eCall_4, bLen_l, bLen_t, bind_ok, bMin_ii, bMax_ii, dAdd_ii, dSub_ii, dLt_ii, dLe_ii, dGt_ii, dGe_ii, dEq_ii, dNe_ii, dEq_ss, dNe_ss, dEq_bb, List.length_map, decide_true, decide_false, eC_ap, set_0, set_s, eNot, eAnd, eOr, eIf, eIsi_ap, isT_n, isT_b, isT_i, isT_s, isT_l, isT_t, gN_ap, Bool.not_true, Bool.not_false, beq_self_eq_true, Bool.or_self, Bool.or_false, Bool.false_or, Bool.or_true, Bool.true_or, String.reduceBEq, Int.reduceLT, Int.reduceLE, Int.reduceEq, eTup_0, eTup_1, eTup_2, eTup_3, eLst_0, eLst_1, eLst_2, eLst_3, eLst_4, bTuple_l, bTuple_t, bList_l, bList_t, dNeg_i, bind_ex, len0, len1, len2, len3, len4, is_nn, is_in, is_sn, is_ln, is_tn, isn_nn, isn_in, isn_sn, isn_ln, isn_tn, nef']) ?_
  obtain ⟨_, _, _, _, _, _, b3⟩ := tidy_fold rs g f (by omega) (some 1) (NameOk.some (by omega))
  refine rt_seq (ρ' := [.dat (L), .dat (rulesD rs), .dat (.int (k : Int)), .dat (.int (far : Int)), .dat (rulesD qs), .dat (F), .dat (natsD (sizes qs))]) (drop_ok (call2_ok rfl rfl b3)) ?_
  refine rt_ret (d := .bool true) ?_ rfl
  have q1 : eCall m_tidy [(eVarD 1), (eVarD 2)] [.dat (L), .dat (rulesD rs), .dat (.int (k : Int)), .dat (.int (far : Int)), .dat (rulesD qs), .dat (F), .dat (natsD (sizes qs))] = .ok F := call2_ok rfl rfl ti'
  simp only [eBin_ap, q1, runM, mkEnv, List.replicate, List.cons_append, List.nil_append, sSeq, sIf, sRet, sAsg, sAsgN, sDrop, sSkip_ap, eBin_ap, eUn_ap, eVarD_0, eVarD_s, eVar_0d, eVar_0o, eVar_0b, eVar_s, eCall_0, eCall_1, eCall_2, eCall_3, eCall_4, bLen_l, bLen_t, bind_ok, bMin_ii, bMax_ii, dAdd_ii, dSub_ii, dLt_ii, dLe_ii, dGt_ii, dGe_ii, dEq_ii, dNe_ii, dEq_ss, dNe_ss, dEq_bb, List.length_map, decide_true, decide_false, eC_ap, set_0, set_s, eNot, eAnd, eOr, eIf, eIsi_ap, isT_n, isT_b, isT_i, isT_s, isT_l, isT_t, gN_ap, Bool.not_true, Bool.not_false, beq_self_eq_true, Bool.or_self, Bool.or_false, Bool.false_or, Bool.or_true, Bool.true_or, String.reduceBEq, Int.reduceLT, Int.reduceLE, Int.reduceEq, eTup_0, eTup_1, eTup_2, eTup_3, eLst_0, eLst_1, eLst_2, eLst_3, eLst_4, bTuple_l, bTuple_t, bList_l, bList_t, dNeg_i, bind_ex, len0, len1, len2, len3, len4, is_nn, is_in, is_sn, is_ln, is_tn, isn_nn, isn_in, isn_sn, isn_ln, isn_tn, eqf']
end Sb

set_option maxRecDepth 100000 in
theorem PySem.Challenge.cw_shortbook_k17_tidy_holds : PySem.Challenge.rw_shortbook_k17_tidy.Holds :=
  Sb.holds_of Sb.law_true
