import PyProof.Rows.All
import Wide.All
import OpenK.AllK
import Wide.FinOn
import HandS.ForMost
import HandS.ForExc
import HandS.AnyAll
import HandS.Lambda
import HandS.Wide
import HandS.TupAny
import HandS.TupMul
import HandS.Style
import HandS.IsInst
import HandS.Property
import HandS.Deep
import HandS.Comp
import OpenK.KOps
import HandS.Conv
import HandS.GenList
import PyProof.CollectWalk
import PyProof.TupleOfGen
import PyProof.ConsumeS
import PyProof.SumWalkG
import KE.KExcSuper
import HandS.Exc
import HandS.ExcInit
import HandS.ExcSuper
import HandS.FStr
import HandS.FStrTup
import KE.KExcIs
import HandS.ExcField
import HandS.ExcIs
import HandS.TryMany
import HandS.HeadHook1
import HandS.HeadHook2
import HandS.HeadHook3
import HandS.HeadHook4
import HandS.HeadWalk
import KE.GoesEnum
import KE.KRevSl
import HandS.Iter
import KE.KNestM
import HandS.EndTab
import HandS.EndBits
import HandS.HeadEnd
import HandS.Head0
import HandS.Head1
import HandS.Head2
import PyProof.ListMulRoad
import PyProof.FactsAll.tuple_2
import HandS.Zip
import HandS.Dict
import HandS.TupSets
import HandS.OwnEq
import PyProof.InstEq
import HandS.RaiseMore
import PyProof.ReprRoads
import PySem.Challenge.RW_cavetrue_k00_surveys
set_option Elab.async false
set_option linter.all false
set_option maxRecDepth 100000
set_option maxHeartbeats 4000000
/-! Plain data over the hand layer: what a value is, what the store holds, how both lie in the abstract heap. -/
namespace Ct
open PySem PySem.Spec PyProof.Rows L2

inductive D where
  | non | bl (b : Bool) | int (i : Int) | str (x : Str) | tup (l : List D) | lst (l : List D) | frz (l : List D) | obj (c : Nat) (l : List D)

/-- a slot's value: data, or a place of the store -/
inductive U where
  | d (x : D) | loc (n : Nat)

inductive Cell where
  | lst (l : List U) | dic (l : List (Int × U)) | ins (c : Nat) (l : List (Str × U))

abbrev Store := List Cell
abbrev EnvD := List (Option U)

structure Exc where
  k : Nat
  x : D

inductive R (α : Type) where
  | ok (a : α) (st : Store) | exc (x : Exc) (st : Store) | bad
def R.bind {α β : Type} : R α → (α → Store → R β) → R β
  | .ok a st, f => f a st
  | .exc x st, _ => .exc x st
  | .bad, _ => .bad
@[simp] theorem R.bind_ok {α β : Type} (a : α) (st : Store) (f : α → Store → R β) : (R.ok a st).bind f = f a st := rfl
@[simp] theorem R.bind_exc {α β : Type} (x : Exc) (st : Store) (f : α → Store → R β) : (R.exc x st : R α).bind f = .exc x st := rfl
@[simp] theorem R.bind_bad {α β : Type} (f : α → Store → R β) : (R.bad : R α).bind f = .bad := rfl

inductive RS where
  | nx (env : EnvD) (st : Store) | rt (u : U) (st : Store) | bk (env : EnvD) (st : Store) | ct (env : EnvD) (st : Store) | exc (x : Exc) (st : Store) | bad

abbrev EM := EnvD → Store → R U
abbrev AM := EnvD → Store → R (List U)
abbrev TM := EnvD → Store → R Bool
abbrev SM := EnvD → Store → RS
abbrev FM := List U → Store → R U

/-- the fields of the text's classes, in the order in which they are first stored -/
def flds : Nat → List Str
  | 0 => ["_rooms", "_legs"]
  | 1 => ["_rooms", "_passages"]
  | 2 => ["survey", "most", "came", "ring", "steps"]
  | 3 => ["survey", "arcs", "lack", "out", "price"]
  | 4 => ["cave", "best", "came"]
  | 5 => ["cave", "one", "other", "used", "many"]
  | _ => []
/-- the exceptions' own field -/
def xf : Nat → Str
  | 11 => "name"
  | _ => "ring"
/-- what is fixed through a law: the written part, the classes' addresses, the tables -/
structure Wd where
  K : PySem.W.Frag
  cls : Nat → Addr
  T : List (Addr × Str)
  G : List Addr

variable (W : Wd)
/-- a list that nobody turns -/
def FrL (K : PySem.W.Frag) (H : Hp) (a : Addr) (xs : List V) : Prop := (∃ o, H a = some (.frz o (.lst xs))) ∨
  ∃ (o : Obj) (its : Array Value) (n : Nat), K.lookup a = some o ∧ o.cls = .type "list" ∧ o.dict = none ∧ o.data = .seq its n ∧ its.size ≤ sizeLine ∧ Vals xs its.toList
theorem FrL.sq {K : PySem.W.Frag} {H : Hp} {a : Addr} {xs : List V} (h : FrL K H a xs) : SqL K H a xs := h.elim (fun ⟨o, q⟩ => .inl (.inr ⟨o, q⟩)) .inr

mutual
inductive RepD (W : Wd) (S : Addr → Prop) (H : Hp) : V → D → Prop where
  | non : RepD W S H .non .non
  | bl (b : Bool) : RepD W S H (.bl b) (.bl b)
  | int (i : Int) : RepD W S H (.int i) (.int i)
  | str (x : Str) : RepD W S H (.str x) (.str x)
  | tup {a : Addr} {vs : List V} {ds : List D} (h : SqT W.K H a vs) (r : RepL W S H vs ds) : RepD W S H (.ref a) (.tup ds)
  | lst {a : Addr} {vs : List V} {ds : List D} (h : H a = some (.lst vs)) (n : ¬ S a) (r : RepL W S H vs ds) : RepD W S H (.ref a) (.lst ds)
  | frz {a : Addr} {vs : List V} {ds : List D} (h : FrL W.K H a vs) (r : RepL W S H vs ds) : RepD W S H (.ref a) (.frz ds)
  | obj {a dx : Addr} {c : Nat} {fs : List (Str × V)} {vs : List V} {ds : List D} (h : H a = some (.ins (W.cls c) dx fs)) (n : ¬ S a) (e : fs = (flds c).zip vs) (l : vs.length = (flds c).length) (r : RepL W S H vs ds) : RepD W S H (.ref a) (.obj c ds)
inductive RepL (W : Wd) (S : Addr → Prop) (H : Hp) : List V → List D → Prop where
  | nil : RepL W S H [] []
  | cons {v : V} {d : D} {vs : List V} {ds : List D} (h : RepD W S H v d) (t : RepL W S H vs ds) : RepL W S H (v :: vs) (d :: ds)
end

def RepU (W : Wd) (S : Addr → Prop) (l : List Addr) (H : Hp) (v : V) : U → Prop
  | .d x => RepD W S H v x
  | .loc n => ∃ a, l[n]? = some a ∧ v = .ref a

inductive RepUs (W : Wd) (S : Addr → Prop) (l : List Addr) (H : Hp) : List V → List U → Prop where
  | nil : RepUs W S l H [] []
  | cons {v : V} {u : U} {vs : List V} {us : List U} (h : RepU W S l H v u) (t : RepUs W S l H vs us) : RepUs W S l H (v :: vs) (u :: us)

/-- how a cell lies -/
def RepC (W : Wd) (S : Addr → Prop) (l : List Addr) (H : Hp) : HO → Cell → Prop
  | .lst vs, .lst us => RepUs W S l H vs us
  | .dK kvs, .dic us => kvs.map (·.1) = us.map (fun p => (Sum.inl p.1 : Key)) ∧ RepUs W S l H (kvs.map (·.2)) (us.map (·.2))
  | .ins C _ fs, .ins c us => C = W.cls c ∧ fs.map (·.1) = us.map (·.1) ∧ RepUs W S l H (fs.map (·.2)) (us.map (·.2))
  | _, _ => False

def TabsOk (W : Wd) (H : Hp) : Prop := LamX.Tabs W.T H ∧ ∀ P ∈ W.G, GxR.TabG H P

structure Rel (W : Wd) (S : Addr → Prop) (l : List Addr) (st : Store) (H : Hp) : Prop where
  len : l.length = st.length
  nd : l.Nodup
  sub : ∀ a ∈ l, S a
  dom : ∀ a, S a → H a ≠ none
  cell : ∀ (n : Nat) (c : Cell), st[n]? = some c → ∃ a o, l[n]? = some a ∧ H a = some o ∧ RepC W S l H o c
  tabs : TabsOk W H

/-- from one state to a later one -/
structure Ext (S : Addr → Prop) (l : List Addr) (H : Hp) (S' : Addr → Prop) (l' : List Addr) (H' : Hp) : Prop where
  pre : ∃ r, l' = l ++ r ∧ ∀ a ∈ r, H a = none
  s1 : ∀ a, S a → S' a
  s2 : ∀ a, S' a → S a ∨ H a = none
  keep : ∀ a o, a ∉ l → H a = some o → (∀ ps, o ≠ .tbl ps) → H' a = some o
  dom : ∀ a, H a ≠ none → H' a ≠ none

theorem Ext.refl (S : Addr → Prop) (l : List Addr) (H : Hp) : Ext S l H S l H :=
  ⟨⟨[], by simp, by simp⟩, fun _ h => h, fun _ h => .inl h, fun _ _ _ h _ => h, fun _ h => h⟩
theorem Ext.trans {S S1 S2 : Addr → Prop} {l l1 l2 : List Addr} {H H1 H2 : Hp} (x : Ext S l H S1 l1 H1) (y : Ext S1 l1 H1 S2 l2 H2) : Ext S l H S2 l2 H2 := by
  obtain ⟨⟨r, e, f⟩, a1, a2, a3, a4⟩ := x
  obtain ⟨⟨r', e', f'⟩, b1, b2, b3, b4⟩ := y
  have back : ∀ a, H1 a = none → H a = none := fun a h => by
    cases q : H a with
    | none => rfl
    | some o => exact absurd h (a4 a (by rw [q]; simp))
  refine ⟨⟨r ++ r', by rw [e', e, List.append_assoc], fun a h => ?_⟩, fun a h => b1 a (a1 a h), fun a h => ?_, fun a o h1 h2 h3 => ?_, fun a h => b4 a (a4 a h)⟩
  · rcases List.mem_append.mp h with h | h
    · exact f a h
    · exact back a (f' a h)
  · rcases b2 a h with h | h
    · exact a2 a h
    · exact .inr (back a h)
  · refine b3 a o ?_ (a3 a o h1 h2 h3) h3
    rw [e]
    intro h
    rcases List.mem_append.mp h with h | h
    · exact h1 h
    · rw [f a h] at h2; cases h2

section
variable {W : Wd} {S S' : Addr → Prop} {l l' : List Addr} {H H' : Hp} {st st' : Store}

theorem RepL.length : ∀ {vs : List V} {ds : List D}, RepL W S H vs ds → vs.length = ds.length
  | _, _, .nil => rfl
  | _, _, .cons _ t => congrArg (· + 1) t.length
theorem RepUs.length : ∀ {vs : List V} {us : List U}, RepUs W S l H vs us → vs.length = us.length
  | _, _, .nil => rfl
  | _, _, .cons _ t => congrArg (· + 1) t.length

/-- what a cell's object may be -/
def Kind : HO → Prop
  | .lst _ => True
  | .dK _ => True
  | .ins _ _ _ => True
  | _ => False
theorem RepC.kind {o : HO} {c : Cell} (h : RepC W S l H o c) : Kind o := by
  cases o <;> cases c <;> first | exact h.elim | trivial
theorem Rel.inl (h : Rel W S l st H) {a : Addr} (ha : a ∈ l) : ∃ o, H a = some o ∧ Kind o := by
  obtain ⟨n, hn, e⟩ := List.getElem_of_mem ha
  have hn' : n < st.length := by rw [← h.len]; exact hn
  obtain ⟨b, o, h1, h2, h3⟩ := h.cell n st[n] (List.getElem?_eq_getElem hn')
  rw [List.getElem?_eq_getElem hn, e] at h1
  cases h1
  exact ⟨o, h2, h3.kind⟩
theorem Rel.notl (h : Rel W S l st H) {a : Addr} {o : HO} (e : H a = some o) (n : ¬ Kind o) : a ∉ l := fun ha => by
  obtain ⟨o', e', m⟩ := h.inl ha
  rw [e] at e'; cases e'
  exact n m

theorem rd_ext (h : Rel W S l st H) (x : Ext S l H S' l' H') {a : Addr} {u : HO} (r : Rd H a u) (hn : H a = some u → a ∉ l) (ht : ∀ ps, u ≠ .tbl ps) : Rd H' a u := by
  rcases r with r | ⟨o, r⟩
  · exact .inl (x.keep a _ (hn r) r ht)
  · exact .inr ⟨o, x.keep a _ (h.notl r (fun z => z)) r (fun ps z => by cases z)⟩
theorem sqT_ext (h : Rel W S l st H) (x : Ext S l H S' l' H') {a : Addr} {vs : List V} (r : SqT W.K H a vs) : SqT W.K H' a vs := by
  rcases r with r | r
  · exact .inl (rd_ext h x r (fun e => h.notl e (fun z => z)) (fun ps z => by cases z))
  · exact .inr r
theorem frL_ext (h : Rel W S l st H) (x : Ext S l H S' l' H') {a : Addr} {vs : List V} (r : FrL W.K H a vs) : FrL W.K H' a vs := r.elim (fun ⟨o, q⟩ => .inl ⟨o, x.keep _ _ (h.notl q (fun z => z)) q (fun ps z => by cases z)⟩) .inr
theorem rd_ne {a : Addr} {u : HO} (r : Rd H a u) : H a ≠ none := by
  rcases r with r | ⟨o, r⟩ <;> rw [r] <;> simp
theorem Ext.nS (x : Ext S l H S' l' H') {a : Addr} (n : ¬ S a) (e : H a ≠ none) : ¬ S' a := fun h => by
  rcases x.s2 a h with h | h
  · exact n h
  · exact e h

mutual
theorem RepD.ext (h : Rel W S l st H) (x : Ext S l H S' l' H') : ∀ {v : V} {d : D}, RepD W S H v d → RepD W S' H' v d
  | _, _, .non => .non
  | _, _, .bl b => .bl b
  | _, _, .int i => .int i
  | _, _, .str s => .str s
  | _, _, .tup q r => .tup (sqT_ext h x q) (RepL.ext h x r)
  | _, _, .lst q n r => .lst (x.keep _ _ (fun z => n (h.sub _ z)) q (fun ps z => by cases z)) (x.nS n (by rw [q]; simp)) (RepL.ext h x r)
  | _, _, .frz q r => .frz (frL_ext h x q) (RepL.ext h x r)
  | _, _, .obj q n e ll r => .obj (x.keep _ _ (fun z => n (h.sub _ z)) q (fun ps z => by cases z)) (x.nS n (by rw [q]; simp)) e ll (RepL.ext h x r)
theorem RepL.ext (h : Rel W S l st H) (x : Ext S l H S' l' H') : ∀ {vs : List V} {ds : List D}, RepL W S H vs ds → RepL W S' H' vs ds
  | _, _, .nil => .nil
  | _, _, .cons a t => .cons (RepD.ext h x a) (RepL.ext h x t)
end
mutual
theorem RepD.less (hs : ∀ a, S' a → S a) : ∀ {v : V} {d : D}, RepD W S H v d → RepD W S' H v d
  | _, _, .non => .non
  | _, _, .bl b => .bl b
  | _, _, .int i => .int i
  | _, _, .str s => .str s
  | _, _, .tup q r => .tup q (RepL.less hs r)
  | _, _, .lst q n r => .lst q (fun z => n (hs _ z)) (RepL.less hs r)
  | _, _, .frz q r => .frz q (RepL.less hs r)
  | _, _, .obj q n e ll r => .obj q (fun z => n (hs _ z)) e ll (RepL.less hs r)
theorem RepL.less (hs : ∀ a, S' a → S a) : ∀ {vs : List V} {ds : List D}, RepL W S H vs ds → RepL W S' H vs ds
  | _, _, .nil => .nil
  | _, _, .cons a t => .cons (RepD.less hs a) (RepL.less hs t)
end
theorem RepU.ext (h : Rel W S l st H) (x : Ext S l H S' l' H') {v : V} : ∀ {u : U}, RepU W S l H v u → RepU W S' l' H' v u
  | .d _, r => RepD.ext h x r
  | .loc n, ⟨a, e, q⟩ => by
    obtain ⟨r, e', _⟩ := x.pre
    refine ⟨a, ?_, q⟩
    rw [e']
    exact List.getElem?_append_left (List.getElem?_eq_some_iff.mp e).1 ▸ e
theorem RepUs.ext (h : Rel W S l st H) (x : Ext S l H S' l' H') : ∀ {vs : List V} {us : List U}, RepUs W S l H vs us → RepUs W S' l' H' vs us
  | _, _, .nil => .nil
  | _, _, .cons a t => .cons (a.ext h x) (t.ext h x)
theorem RepC.ext (h : Rel W S l st H) (x : Ext S l H S' l' H') {o : HO} {c : Cell} (r : RepC W S l H o c) : RepC W S' l' H' o c := by
  cases o <;> cases c <;> first | exact r.elim | exact RepUs.ext h x r | exact ⟨r.1, RepUs.ext h x r.2⟩ | exact ⟨r.1, r.2.1, RepUs.ext h x r.2.2⟩

theorem RepUs.append : ∀ {vs ws : List V} {us ys : List U}, RepUs W S l H vs us → RepUs W S l H ws ys → RepUs W S l H (vs ++ ws) (us ++ ys)
  | _, _, _, _, .nil, s => s
  | _, _, _, _, .cons r t, s => .cons r (RepUs.append t s)
theorem RepUs.get : ∀ {vs : List V} {us : List U} {i : Nat} {u : U}, RepUs W S l H vs us → us[i]? = some u → ∃ v, vs[i]? = some v ∧ RepU W S l H v u
  | _, _, _, _, .nil, e => by simp at e
  | _, _, 0, _, .cons r _, e => by simp at e; subst e; exact ⟨_, rfl, r⟩
  | _, _, i + 1, _, .cons _ t, e => by
    obtain ⟨v, h1, h2⟩ := RepUs.get (i := i) t (by simpa using e)
    exact ⟨v, by simpa using h1, h2⟩
theorem RepUs.set {v : V} {u : U} (r : RepU W S l H v u) : ∀ {vs : List V} {us : List U} (i : Nat), RepUs W S l H vs us → RepUs W S l H (vs.set i v) (us.set i u)
  | _, _, _, .nil => .nil
  | _, _, 0, .cons _ t => .cons r t
  | _, _, i + 1, .cons q t => .cons q (RepUs.set r i t)
theorem RepL.us : ∀ {vs : List V} {ds : List D}, RepL W S H vs ds → RepUs W S l H vs (ds.map U.d)
  | _, _, .nil => .nil
  | _, _, .cons r t => .cons r t.us
theorem RepUs.ds : ∀ {vs : List V} {ds : List D}, RepUs W S l H vs (ds.map U.d) → RepL W S H vs ds
  | _, [], .nil => .nil
  | _, _ :: _, .cons r t => .cons r t.ds
theorem RepL.append : ∀ {vs ws : List V} {us ys : List D}, RepL W S H vs us → RepL W S H ws ys → RepL W S H (vs ++ ws) (us ++ ys)
  | _, _, _, _, .nil, s => s
  | _, _, _, _, .cons r t, s => .cons r (RepL.append t s)
theorem RepL.get : ∀ {vs : List V} {us : List D} {i : Nat} {u : D}, RepL W S H vs us → us[i]? = some u → ∃ v, vs[i]? = some v ∧ RepD W S H v u
  | _, _, _, _, .nil, e => by simp at e
  | _, _, 0, _, .cons r _, e => by simp at e; subst e; exact ⟨_, rfl, r⟩
  | _, _, i + 1, _, .cons _ t, e => by
    obtain ⟨v, h1, h2⟩ := RepL.get (i := i) t (by simpa using e)
    exact ⟨v, by simpa using h1, h2⟩
theorem RepL.take : ∀ {vs : List V} {us : List D} (n : Nat), RepL W S H vs us → RepL W S H (vs.take n) (us.take n)
  | _, _, 0, _ => .nil
  | _, _, _ + 1, .nil => .nil
  | _, _, n + 1, .cons r t => .cons r (RepL.take n t)
theorem RepL.drop : ∀ {vs : List V} {us : List D} (n : Nat), RepL W S H vs us → RepL W S H (vs.drop n) (us.drop n)
  | _, _, 0, r => r
  | _, _, _ + 1, .nil => .nil
  | _, _, n + 1, .cons _ t => RepL.drop n t
theorem RepL.reverse : ∀ {vs : List V} {us : List D}, RepL W S H vs us → RepL W S H vs.reverse us.reverse
  | _, _, .nil => .nil
  | _, _, .cons r t => by
    rw [List.reverse_cons, List.reverse_cons]
    exact t.reverse.append (.cons r .nil)

/-! ### the frame's slots -/
structure RepE (W : Wd) (S : Addr → Prop) (l : List Addr) (H : Hp) (σ : L2.St) (env : EnvD) : Prop where
  len : σ.length = env.length
  at_ : ∀ (i : Nat) (u : U), env[i]? = some (some u) → ∃ v, σ[i]? = some (some v) ∧ RepU W S l H v u
theorem RepE.ext {σ : L2.St} {env : EnvD} (h : Rel W S l st H) (x : Ext S l H S' l' H') (r : RepE W S l H σ env) : RepE W S' l' H' σ env :=
  ⟨r.len, fun i u e => let ⟨v, h1, h2⟩ := r.at_ i u e; ⟨v, h1, h2.ext h x⟩⟩
theorem RepE.set {σ : L2.St} {env : EnvD} {v : V} {u : U} (r : RepE W S l H σ env) (i : Nat) (q : RepU W S l H v u) : RepE W S l H (σ.set i (some v)) (env.set i (some u)) := by
  refine ⟨by simp [r.len], fun j w e => ?_⟩
  by_cases hj : i = j
  · subst hj
    have hi : i < env.length := by
      have := (List.getElem?_eq_some_iff.mp e).1
      simpa using this
    rw [List.getElem?_set_self hi] at e
    cases e
    exact ⟨v, List.getElem?_set_self (by rw [r.len]; exact hi), q⟩
  · rw [List.getElem?_set_ne hj] at e
    rw [List.getElem?_set_ne hj]
    exact r.at_ j w e

/-! ### steps of the state -/
theorem TabsOk.ext (t : TabsOk W H) (e : ∀ b o, H b = some o → H' b = some o) : TabsOk W H' :=
  ⟨t.1.ext e, fun P hP => let ⟨ps, h1, h2⟩ := t.2 P hP; ⟨ps, e _ _ h1, h2⟩⟩
theorem upd_keeps {p : Addr} {o : HO} (hp : H p = none) : ∀ b u, H b = some u → upd H p o b = some u := fun b u e => by
  rw [upd_ne (ne_of_none e hp)]; exact e
/-- a new object beside the store: a tuple, a frozen list -/
theorem Ext.new {p : Addr} {o : HO} (hp : H p = none) : Ext S l H S l (upd H p o) :=
  ⟨⟨[], by simp, by simp⟩, fun _ h => h, fun _ h => .inl h, fun a u _ e _ => upd_keeps hp a u e, fun a h => by
    cases q : H a with
    | none => exact absurd q h
    | some u => rw [upd_keeps hp a u q]; simp⟩
theorem Rel.new {p : Addr} {o : HO} (h : Rel W S l st H) (hp : H p = none) : Rel W S l st (upd H p o) :=
  ⟨h.len, h.nd, h.sub, fun a z => (Ext.new (S := S) (l := l) hp).dom a (h.dom a z), fun n c e => let ⟨a, u, h1, h2, h3⟩ := h.cell n c e; ⟨a, u, h1, upd_keeps hp a u h2, h3.ext h (Ext.new hp)⟩, h.tabs.ext (upd_keeps hp)⟩
theorem Rel.free (h : Rel W S l st H) {p : Addr} (hp : H p = none) : ¬ S p := fun z => h.dom p z hp
/-- a new cell -/
theorem Ext.cell {p : Addr} {o : HO} (hp : H p = none) : Ext S l H (fun a => S a ∨ a = p) (l ++ [p]) (upd H p o) :=
  ⟨⟨[p], rfl, fun a h => by simp at h; rw [h]; exact hp⟩, fun _ h => .inl h, fun a h => h.elim .inl (fun e => .inr (by rw [e]; exact hp)), fun a u _ e _ => upd_keeps hp a u e, fun a h => by
    cases q : H a with
    | none => exact absurd q h
    | some u => rw [upd_keeps hp a u q]; simp⟩
theorem Rel.newCell {p : Addr} {o : HO} {c : Cell} (h : Rel W S l st H) (hp : H p = none) (r : RepC W (fun a => S a ∨ a = p) (l ++ [p]) (upd H p o) o c) : Rel W (fun a => S a ∨ a = p) (l ++ [p]) (st ++ [c]) (upd H p o) := by
  refine ⟨by simp [h.len], ?_, fun a z => ?_, fun a z => ?_, fun n d e => ?_, h.tabs.ext (upd_keeps hp)⟩
  · rw [List.nodup_append]
    refine ⟨h.nd, by simp, fun a ha b hb e => ?_⟩
    simp at hb
    subst hb; subst e
    exact h.free hp (h.sub _ ha)
  · rcases List.mem_append.mp z with z | z
    · exact .inl (h.sub a z)
    · simp at z; exact .inr z
  · rcases z with z | z
    · exact (Ext.cell (S := S) (l := l) hp).dom a (h.dom a z)
    · rw [z, upd_same]; simp
  · by_cases hn : n < st.length
    · rw [List.getElem?_append_left hn] at e
      obtain ⟨a, u, h1, h2, h3⟩ := h.cell n d e
      exact ⟨a, u, by rw [List.getElem?_append_left (by rw [h.len]; exact hn)]; exact h1, upd_keeps hp a u h2, h3.ext h (Ext.cell hp)⟩
    · have hn2 : n < (st ++ [c]).length := (List.getElem?_eq_some_iff.mp e).1
      have : n = st.length := by simp at hn2; omega
      subst this
      rw [List.getElem?_append_right (Nat.le_refl _), Nat.sub_self] at e
      cases e
      exact ⟨p, o, by rw [← h.len, List.getElem?_append_right (Nat.le_refl _), Nat.sub_self]; rfl, upd_same, r⟩
/-- a cell is written -/
theorem Ext.write {n : Nat} {a : Addr} {o : HO} (ha : l[n]? = some a) : Ext S l H S l (upd H a o) :=
  ⟨⟨[], by simp, by simp⟩, fun _ h => h, fun _ h => .inl h, fun b u hb e _ => by rw [upd_ne (fun z => hb (by rw [z]; exact List.mem_of_getElem? ha))]; exact e, fun b h => by
    by_cases q : b = a
    · rw [q, upd_same]; simp
    · rw [upd_ne q]; exact h⟩
theorem tabs_write {a : Addr} {o u : HO} (t : TabsOk W H) (ha : H a = some u) (m : Kind u) : TabsOk W (upd H a o) := by
  refine ⟨fun p hp => ?_, fun P hP => ?_⟩
  · obtain ⟨ps, h1, h2, h3⟩ := t.1 p hp
    refine ⟨ps, by rw [upd_ne (fun z => by rw [z, ha] at h1; cases h1; exact m)]; exact h1, h2, fun pos cv e => ?_⟩
    obtain ⟨c, e1, e2⟩ := h3 pos cv e
    refine ⟨c, e1, ?_⟩
    rw [upd_ne (fun hc => by rw [hc, ha] at e2; cases e2; exact m)]
    exact e2
  · obtain ⟨ps, h1, h2⟩ := t.2 P hP
    exact ⟨ps, by rw [upd_ne (fun z => by rw [z, ha] at h1; cases h1; exact m)]; exact h1, h2⟩
theorem Rel.write (h : Rel W S l st H) {n : Nat} {a : Addr} {o : HO} {c : Cell} (ha : l[n]? = some a) (r : RepC W S l (upd H a o) o c) : Rel W S l (st.set n c) (upd H a o) := by
  have am : a ∈ l := List.mem_of_getElem? ha
  obtain ⟨u, hu, ku⟩ := h.inl am
  have x : Ext S l H S l (upd H a o) := Ext.write ha
  have hn : n < l.length := (List.getElem?_eq_some_iff.mp ha).1
  refine ⟨by simp [h.len], h.nd, h.sub, fun b z => x.dom b (h.dom b z), fun m d e => ?_, tabs_write h.tabs hu ku⟩
  by_cases hm : n = m
  · subst hm
    rw [List.getElem?_set_self (by rw [← h.len]; exact hn)] at e
    cases e
    exact ⟨a, o, ha, upd_same, r⟩
  · rw [List.getElem?_set_ne hm] at e
    obtain ⟨b, v, h1, h2, h3⟩ := h.cell m d e
    have nb : b ≠ a := fun z => by
      subst z
      obtain ⟨h4, e4⟩ := List.getElem?_eq_some_iff.mp ha
      obtain ⟨h5, e5⟩ := List.getElem?_eq_some_iff.mp h1
      exact hm ((List.getElem_inj h.nd).mp (e4.trans e5.symm))
    exact ⟨b, v, h1, by rw [upd_ne nb]; exact h2, h3.ext h x⟩
end
/-! ### what an exception bears -/
def RepX (W : Wd) (S : Addr → Prop) (H : Hp) (c : Value) (d : Option Addr) (x : Exc) : Prop :=
  c = .ref (W.cls x.k) ∧ ∃ a v, d = some a ∧ H a = some (.xd [(xf x.k, v)]) ∧ RepD W S H v x.x
section
variable {W : Wd} {S S' : Addr → Prop} {l l' : List Addr} {H H' : Hp} {st st' : Store}
theorem RepX.ext (h : Rel W S l st H) (x : Ext S l H S' l' H') {c : Value} {d : Option Addr} {e : Exc} (r : RepX W S H c d e) : RepX W S' H' c d e := by
  obtain ⟨h1, a, v, h2, h3, h4⟩ := r
  exact ⟨h1, a, v, h2, x.keep a _ (h.notl h3 (fun z => z)) h3 (fun ps z => by cases z), RepD.ext h x h4⟩

/-! ### what is wanted behind -/
def Post {α β : Type} (W : Wd) (rep : (Addr → Prop) → List Addr → Hp → β → α → Prop) (E : XK) (S : Addr → Prop) (l : List Addr) (H : Hp) (Q : β → Hp → Prop) : R α → Prop
  | .ok a st' => ∀ b S' l' H', Ext S l H S' l' H' → Rel W S' l' st' H' → rep S' l' H' b a → Q b H'
  | .exc x st' => ∀ c d S' l' H', Ext S l H S' l' H' → Rel W S' l' st' H' → RepX W S' H' c d x → E c d H'
  | .bad => False
variable {α β γ δ : Type} {rep : (Addr → Prop) → List Addr → Hp → β → α → Prop} {rep2 : (Addr → Prop) → List Addr → Hp → δ → γ → Prop} {E : XK}
theorem Post.ext {Q : β → Hp → Prop} {r : R α} (x : Ext S l H S' l' H') (h : Post W rep E S l H Q r) : Post W rep E S' l' H' Q r := by
  cases r with
  | ok a st' => exact fun b S2 l2 H2 y => h b S2 l2 H2 (x.trans y)
  | exc e st' => exact fun c d S2 l2 H2 y => h c d S2 l2 H2 (x.trans y)
  | bad => exact h
theorem Post.bind {Q : δ → Hp → Prop} {r : R α} {f : α → Store → R γ} (h : Post W rep2 E S l H Q (r.bind f)) :
    Post W rep E S l H (fun b H1 => ∃ S1 l1 a st1, Ext S l H S1 l1 H1 ∧ Rel W S1 l1 st1 H1 ∧ rep S1 l1 H1 b a ∧ Post W rep2 E S1 l1 H1 Q (f a st1)) r := by
  cases r with
  | ok a st' => exact fun b S2 l2 H2 y r2 p => ⟨S2, l2, a, st', y, r2, p, Post.ext y h⟩
  | exc e st' => exact h
  | bad => exact h
theorem Post.imp {Q Q' : β → Hp → Prop} {r : R α} (h : Post W rep E S l H Q r) (q : ∀ b H, Q b H → Q' b H) : Post W rep E S l H Q' r := by
  cases r with
  | ok a st' => exact fun b S2 l2 H2 y r2 p => q _ _ (h b S2 l2 H2 y r2 p)
  | exc e st' => exact h
  | bad => exact h
theorem Post.repI {rep' : (Addr → Prop) → List Addr → Hp → β → α → Prop} {Q : β → Hp → Prop} {r : R α} (h : Post W rep E S l H Q r) (i : ∀ S l H b a, rep' S l H b a → rep S l H b a) : Post W rep' E S l H Q r := by
  cases r with
  | ok a st' => exact fun b S2 l2 H2 y r2 p => h b S2 l2 H2 y r2 (i _ _ _ _ _ p)
  | exc e st' => exact h
  | bad => exact h
theorem Post.ok {Q : β → Hp → Prop} {a : α} {b : β} (h : Post W rep E S l H Q (.ok a st)) (r : Rel W S l st H) (p : rep S l H b a) : Q b H := h b S l H (Ext.refl S l H) r p

def PostS (W : Wd) (E : XK) (S : Addr → Prop) (l : List Addr) (H : Hp) (D : Ends) : RS → Prop
  | .nx env st' => ∀ σ S' l' H', Ext S l H S' l' H' → Rel W S' l' st' H' → RepE W S' l' H' σ env → D.nx σ H'
  | .bk env st' => ∀ σ S' l' H', Ext S l H S' l' H' → Rel W S' l' st' H' → RepE W S' l' H' σ env → D.bk σ H'
  | .ct env st' => ∀ σ S' l' H', Ext S l H S' l' H' → Rel W S' l' st' H' → RepE W S' l' H' σ env → D.ct σ H'
  | .rt u st' => ∀ v S' l' H', Ext S l H S' l' H' → Rel W S' l' st' H' → RepU W S' l' H' v u → D.rt v H'
  | .exc x st' => ∀ c d S' l' H', Ext S l H S' l' H' → Rel W S' l' st' H' → RepX W S' H' c d x → E c d H'
  | .bad => False
theorem PostS.ext {D : Ends} {r : RS} (x : Ext S l H S' l' H') (h : PostS W E S l H D r) : PostS W E S' l' H' D r := by
  cases r with
  | nx _ _ => exact fun b S2 l2 H2 y => h b S2 l2 H2 (x.trans y)
  | bk _ _ => exact fun b S2 l2 H2 y => h b S2 l2 H2 (x.trans y)
  | ct _ _ => exact fun b S2 l2 H2 y => h b S2 l2 H2 (x.trans y)
  | rt _ _ => exact fun b S2 l2 H2 y => h b S2 l2 H2 (x.trans y)
  | exc _ _ => exact fun c d S2 l2 H2 y => h c d S2 l2 H2 (x.trans y)
  | bad => exact h
end

/-! ### the judgements -/
def tE (W : Wd) (E : XK) (m : EM) : TE := fun σ H Q => ∃ S l env st, Rel W S l st H ∧ RepE W S l H σ env ∧ Post W (fun S l H v u => RepU W S l H v u) E S l H Q (m env st)
def tA (W : Wd) (E : XK) (m : AM) : TA := fun σ H Q => ∃ S l env st, Rel W S l st H ∧ RepE W S l H σ env ∧ Post W (fun S l H v u => RepUs W S l H v u) E S l H Q (m env st)
def tT (W : Wd) (E : XK) (m : TM) : TT := fun σ H Q => ∃ S l env st, Rel W S l st H ∧ RepE W S l H σ env ∧ Post W (fun _ _ _ (b : Bool) a => b = a) E S l H Q (m env st)
def tS (W : Wd) (E : XK) (m : SM) : TS := fun D σ H => ∃ S l env st, Rel W S l st H ∧ RepE W S l H σ env ∧ PostS W E S l H D (m env st)
abbrev JE (W : Wd) (E : XK) (X : Cx) (e : Expr) (m : EM) : Prop := PE X e (tE W E m)
abbrev JA (W : Wd) (E : XK) (X : Cx) (es : List Expr) (m : AM) : Prop := PA X es (tA W E m)
abbrev JT (W : Wd) (E : XK) (X : Cx) (e : Expr) (m : TM) : Prop := PT X e (tT W E m)
abbrev JS (W : Wd) (E : XK) (X : Cx) (st : Stmt) (m : SM) : Prop := PS X st (tS W E m)
abbrev JSs (W : Wd) (E : XK) (X : Cx) (st : List Stmt) (m : SM) : Prop := PSs X st (tS W E m)
theorem _root_.L2.PE.imp {X : Cx} {e : Expr} {t t' : TE} (h : PE X e t) (i : ∀ σ H Q, t' σ H Q → t σ H Q) : PE X e t' := ⟨fun pins s σ H Q I q => h.run pins s σ H Q I (i σ H Q q)⟩
theorem _root_.L2.PT.imp {X : Cx} {e : Expr} {t t' : TT} (h : PT X e t) (i : ∀ σ H Q, t' σ H Q → t σ H Q) : PT X e t' := ⟨fun pins s σ H Q I q => h.run pins s σ H Q I (i σ H Q q)⟩
theorem _root_.L2.PA.imp {X : Cx} {e : List Expr} {t t' : TA} (h : PA X e t) (i : ∀ σ H Q, t' σ H Q → t σ H Q) : PA X e t' := ⟨fun pos pins s σ H Q I q => h.run pos pins s σ H Q I (i σ H Q q)⟩
theorem _root_.L2.PS.imp {X : Cx} {e : Stmt} {t t' : TS} (h : PS X e t) (i : ∀ D σ H, t' D σ H → t D σ H) : PS X e t' := ⟨fun pins s σ H D I q => h.run pins s σ H D I (i D σ H q)⟩
theorem _root_.L2.PSs.imp {X : Cx} {e : List Stmt} {t t' : TS} (h : PSs X e t) (i : ∀ D σ H, t' D σ H → t D σ H) : PSs X e t' := ⟨fun pins s σ H D I q => h.run pins s σ H D I (i D σ H q)⟩
end Ct
set_option Elab.async false
set_option maxRecDepth 100000
set_option maxHeartbeats 4000000
/-! Expressions: one lemma a construct. -/
namespace Ct
open PySem PySem.Spec PyProof.Rows L2

abbrev repU (W : Wd) : (Addr → Prop) → List Addr → Hp → V → U → Prop := fun S l H v u => RepU W S l H v u
abbrev repUs (W : Wd) : (Addr → Prop) → List Addr → Hp → List V → List U → Prop := fun S l H v u => RepUs W S l H v u
abbrev repB : (Addr → Prop) → List Addr → Hp → Bool → Bool → Prop := fun _ _ _ b a => b = a

section
variable {W : Wd} {E : XK} {X : Cx} {S S' : Addr → Prop} {l l' : List Addr} {H H' : Hp} {st st' : Store}

/-! ### names, constants -/
def mVar (i : Nat) : EM := fun env st => match env[i]? with
  | some (some u) => .ok u st
  | _ => .bad
def mC (x : D) : EM := fun _ st => .ok (.d x) st
theorem je_var (i : Nat) {x : Str} {pos : Pos} (hN : X.N[i]? = some x := by rfl) (hv : Vis X.env.scope x := by first | exact Or.inl rfl | exact Or.inr (Or.inl rfl) | exact Or.inr (Or.inr rfl)) (hd : (x == ("__debug__" : Str)) = false := by decide)
    (hcd : (x == ("__classdict__" : Str)) = false := by decide) : JE W E X (.Name x pos) (mVar i) := (pe_var hN hv hd hcd).imp fun σ H Q ⟨S, l, env, st, rl, re, h⟩ => by
  unfold mVar at h
  split at h
  · rename_i u e
    obtain ⟨v, h1, h2⟩ := re.at_ i u e
    exact ⟨v, h1, h.ok rl h2⟩
  · exact h.elim
theorem je_const {v : V} {x : D} {e : Expr} (he : PE X e (tC v)) (r : ∀ S H, RepD W S H v x) : JE W E X e (mC x) := he.imp fun σ H Q ⟨S, l, env, st, rl, re, h⟩ => h.ok rl (r S H)
theorem je_int {i j pos} : JE W E X (.Constant (.int i) j pos) (mC (.int i)) := je_const pe_int fun _ _ => .int i
theorem je_bl {b j pos} : JE W E X (.Constant (.bool b) j pos) (mC (.bl b)) := je_const pe_bl fun _ _ => .bl b
theorem je_non {j pos} : JE W E X (.Constant .none j pos) (mC .non) := je_const pe_non fun _ _ => .non
theorem je_str {x j pos} : JE W E X (.Constant (.str x) j pos) (mC (.str x)) := je_const pe_str fun _ _ => .str x

/-! ### two operands -/
def fBin (f : U → U → Store → R U) (a b : EM) : EM := fun env st => (a env st).bind fun u st1 => (b env st1).bind fun v st2 => f u v st2
def fUn (f : U → Store → R U) (a : EM) : EM := fun env st => (a env st).bind fun u st1 => f u st1
/-- the reading r of a rule upon two values follows from what f gives -/
def OpOk (W : Wd) (E : XK) (r : R2) (f : U → U → Store → R U) : Prop :=
  ∀ S l st H x y u v Q, Rel W S l st H → RepU W S l H x u → RepU W S l H y v → Post W (repU W) E S l H Q (f u v st) → r x y H Q
theorem bin_read {r : R2} {f : U → U → Store → R U} {ma mb : EM} (k : OpOk W E r f) : ∀ σ H Q, tE W E (fBin f ma mb) σ H Q → tOp r (tE W E ma) (tE W E mb) σ H Q := by
  rintro σ H Q ⟨S, l, env, st, rl, re, h⟩
  refine ⟨S, l, env, st, rl, re, (Post.bind (rep := repU W) h).imp ?_⟩
  rintro x H1 ⟨S1, l1, u, st1, x1, r1, p1, h1⟩
  refine ⟨S1, l1, env, st1, r1, re.ext rl x1, (Post.bind (rep := repU W) h1).imp ?_⟩
  rintro y H2 ⟨S2, l2, v, st2, x2, r2, p2, h2⟩
  exact k S2 l2 st2 H2 x y u v Q r2 (p1.ext r1 x2) p2 h2
theorem je_op {op : Operator} {r : R2} {f : U → U → Store → R U} {a b : Expr} {ma mb : EM} {pos : Pos} (ho : OpR X (binaryOp op) r) (k : OpOk W E r f) (ha : JE W E X a ma) (hb : JE W E X b mb) : JE W E X (.BinOp a op b pos) (fBin f ma mb) :=
  (pe_op ho ha hb).imp (bin_read k)
theorem je_cmp {op : CmpOp} {r : R2} {f : U → U → Store → R U} {a b : Expr} {ma mb : EM} {pos : Pos} (ho : OpR X (compareOp op) r) (k : OpOk W E r f) (ha : JE W E X a ma) (hb : JE W E X b mb) (hm : behindInMarks op b = false := by first | exact nobehind _ (by decide) (by decide) | rfl) :
    JE W E X (.Compare a [op] [b] pos) (fBin f ma mb) := (pe_cmpR ho ha hb hm).imp (bin_read k)
def UnOk (W : Wd) (E : XK) (r : V → Hp → VK → Prop) (f : U → Store → R U) : Prop :=
  ∀ S l st H x u Q, Rel W S l st H → RepU W S l H x u → Post W (repU W) E S l H Q (f u st) → r x H Q
theorem un_read {r : V → Hp → VK → Prop} {f : U → Store → R U} {ma : EM} (k : UnOk W E r f) : ∀ σ H Q, tE W E (fUn f ma) σ H Q → tUn r (tE W E ma) σ H Q := by
  rintro σ H Q ⟨S, l, env, st, rl, re, h⟩
  refine ⟨S, l, env, st, rl, re, (Post.bind (rep := repU W) h).imp ?_⟩
  rintro x H1 ⟨S1, l1, u, st1, x1, r1, p1, h1⟩
  exact k S1 l1 st1 H1 x u Q r1 p1 h1
theorem je_un {op : UnaryOp} {r : V → Hp → VK → Prop} {f : U → Store → R U} {a : Expr} {ma : EM} {pos : Pos} (ho : UnR X (unaryOp op) r) (k : UnOk W E r f) (ha : JE W E X a ma) : JE W E X (.UnaryOp op a pos) (fUn f ma) :=
  (pe_un ho ha).imp (un_read k)
/-- of two rules -/
def rOr (r r' : R2) : R2 := fun x y H Q => r x y H Q ∨ r' x y H Q
theorem opR_or {f : Value → Value → Sem Value} {r r' : R2} (h : OpR X f r) (h' : OpR X f r') : OpR X f (rOr r r') := fun pins s σ H x y u v Q I r1 r2 q =>
  q.elim (h pins s σ H x y u v Q I r1 r2) (h' pins s σ H x y u v Q I r1 r2)

/-! ### reading data -/
/-- the items, all data -/
def dsOf : List U → Option (List D)
  | [] => some []
  | .d x :: r => (dsOf r).map (x :: ·)
  | .loc _ :: _ => none
theorem dsOf_eq : ∀ {us : List U} {ds : List D}, dsOf us = some ds → us = ds.map U.d
  | [], _, h => by cases h; rfl
  | .d x :: r, ds, h => by
    unfold dsOf at h
    cases e : dsOf r with
    | none => rw [e] at h; cases h
    | some q => rw [e] at h; cases h; rw [dsOf_eq e]; rfl
  | .loc _ :: _, _, h => by cases h
@[simp] theorem dsOf_map (ds : List D) : dsOf (ds.map U.d) = some ds := by
  induction ds with
  | nil => rfl
  | cons x r ih => simp [dsOf, ih]
/-- a list's items: a frozen list, or a cell -/
def lstOf (u : U) (st : Store) : Option (List U) := match u with
  | .d (.lst ds) => some (ds.map U.d)
  | .d (.frz ds) => some (ds.map U.d)
  | .loc n => match st[n]? with
    | some (.lst us) => some us
    | _ => none
  | _ => none
theorem lstOf_rep {u : U} {us : List U} {x : V} (rl : Rel W S l st H) (p : RepU W S l H x u) (h : lstOf u st = some us) : ∃ a vs, x = .ref a ∧ SqL W.K H a vs ∧ RepUs W S l H vs us := by
  unfold lstOf at h
  split at h
  · cases h
    cases p with
    | lst q n r => exact ⟨_, _, rfl, .inl (.inl q), r.us⟩
  · cases h
    cases p with
    | frz q r => exact ⟨_, _, rfl, q.sq, r.us⟩
  · rename_i n
    obtain ⟨a, ha, rfl⟩ := p
    split at h
    · rename_i us' e
      cases h
      obtain ⟨b, o, h1, h2, h3⟩ := rl.cell n _ e
      rw [ha] at h1; cases h1
      cases o <;> first | exact h3.elim | exact ⟨a, _, rfl, .inl (.inl h2), h3⟩
    · cases h
  · cases h
/-- a tuple's items -/
def tupOf (u : U) : Option (List D) := match u with
  | .d (.tup ds) => some ds
  | _ => none
theorem tupOf_rep {u : U} {ds : List D} {x : V} (p : RepU W S l H x u) (h : tupOf u = some ds) : ∃ a vs, x = .ref a ∧ SqT W.K H a vs ∧ RepL W S H vs ds := by
  unfold tupOf at h
  split at h
  · cases h
    cases p with
    | tup q r => exact ⟨_, _, rfl, q, r⟩
  · cases h

/-! ### a new tuple, a new frozen list, a new cell: the ends of rules -/
theorem new_tup {Q : VK} {ds : List D} {vs : List V} (h : Post W (repU W) E S l H Q (.ok (.d (.tup ds)) st)) (rl : Rel W S l st H) (r : RepL W S H vs ds) {p : Addr} (hp : H p = none) : Q (.ref p) (upd H p (.tup vs)) :=
  h _ _ _ _ (Ext.new hp) (rl.new hp) (.tup (.inl (.inl upd_same)) (r.ext rl (Ext.new hp)))
theorem new_lst {Q : VK} {ds : List D} {vs : List V} (h : Post W (repU W) E S l H Q (.ok (.d (.lst ds)) st)) (rl : Rel W S l st H) (r : RepL W S H vs ds) {p : Addr} (hp : H p = none) : Q (.ref p) (upd H p (.lst vs)) :=
  h _ _ _ _ (Ext.new hp) (rl.new hp) (.lst upd_same (rl.free hp) (r.ext rl (Ext.new hp)))
theorem new_cell {Q : VK} {us : List U} {vs : List V} (h : Post W (repU W) E S l H Q (.ok (.loc st.length) (st ++ [.lst us]))) (rl : Rel W S l st H) (r : RepUs W S l H vs us) {p : Addr} (hp : H p = none) : Q (.ref p) (upd H p (.lst vs)) := by
  refine h _ _ _ _ (Ext.cell hp) (rl.newCell hp (c := .lst us) ?_) ⟨p, ?_, rfl⟩
  · exact r.ext rl (Ext.cell hp)
  · rw [← rl.len, List.getElem?_append_right (Nat.le_refl _), Nat.sub_self]; rfl

/-! ### ints -/
/-- two ints, a condition, a value -/
def fI (C : Int → Int → Prop) [∀ i j, Decidable (C i j)] (g : Int → Int → D) : U → U → Store → R U
  | .d (.int i), .d (.int j), st => if C i j then .ok (.d (g i j)) st else .bad
  | _, _, _ => .bad
theorem fI_ok {C : Int → Int → Prop} [∀ i j, Decidable (C i j)] {g : Int → Int → D} {g' : Int → Int → V} {C' : Int → Int → Prop} (hc : ∀ i j, C i j → C' i j) (hg : ∀ i j, C i j → ∀ S H, RepD W S H (g' i j) (g i j)) : OpOk W E (rI C' g') (fI C g) := by
  intro S l st H x y u v Q rl p1 p2 h
  unfold fI at h
  split at h
  · split at h
    · rename_i i j c
      cases p1; cases p2
      exact ⟨i, j, rfl, rfl, hc _ _ c, h.ok rl (hg _ _ c _ _)⟩
    · exact h.elim
  · exact h.elim
/-- .. without a condition -/
def fI0 (g : Int → Int → D) : U → U → Store → R U
  | .d (.int i), .d (.int j), st => .ok (.d (g i j)) st
  | _, _, _ => .bad
theorem fI0_ok {g : Int → Int → D} {g' : Int → Int → V} (hg : ∀ i j S H, RepD W S H (g' i j) (g i j)) : OpOk W E (rI0 g') (fI0 g) := by
  intro S l st H x y u v Q rl p1 p2 h
  unfold fI0 at h
  split at h
  · cases p1; cases p2
    exact ⟨_, _, rfl, rfl, h.ok rl (hg _ _ _ _)⟩
  · exact h.elim
abbrev fSub := fI0 fun i j => .int (i - j)
theorem je_sub {a b : Expr} {ma mb : EM} {pos : Pos} (ha : JE W E X a ma) (hb : JE W E X b mb) : JE W E X (.BinOp a .Sub b pos) (fBin fSub ma mb) := je_op op_sub (fI0_ok fun _ _ _ _ => .int _) ha hb
abbrev fXor := fI0 fun i j => .int (Builtin.bitXor i j)
theorem je_xor {a b : Expr} {ma mb : EM} {pos : Pos} (ha : JE W E X a ma) (hb : JE W E X b mb) : JE W E X (.BinOp a .BitXor b pos) (fBin fXor ma mb) := je_op op_xor (fI0_ok fun _ _ _ _ => .int _) ha hb
abbrev fMod := fI (fun _ j => 0 < j) fun i j => .int (i % j)
theorem je_mod {a b : Expr} {ma mb : EM} {pos : Pos} (ha : JE W E X a ma) (hb : JE W E X b mb) : JE W E X (.BinOp a .Mod b pos) (fBin fMod ma mb) :=
  je_op op_modN (fI_ok (fun i j h => by omega) fun i j h S H => by rw [Int.fmod_eq_emod_of_nonneg _ (by omega)]; exact .int _) ha hb
abbrev fDiv := fI (fun _ j => 0 < j ∧ j.natAbs.log2 < 9000) fun i j => .int (i / j)
theorem je_div {a b : Expr} {ma mb : EM} {pos : Pos} (ha : JE W E X a ma) (hb : JE W E X b mb) : JE W E X (.BinOp a .FloorDiv b pos) (fBin fDiv ma mb) :=
  je_op op_fdivW (fI_ok (fun i j h => h) fun i j h S H => .int _) ha hb
abbrev fPow := fI (fun i j => 0 ≤ j ∧ j ≤ 1000000 ∧ i.natAbs < 2 ^ 64) fun i j => .int (i ^ j.toNat)
theorem je_pow {a b : Expr} {ma mb : EM} {pos : Pos} (ha : JE W E X a ma) (hb : JE W E X b mb) : JE W E X (.BinOp a .Pow b pos) (fBin fPow ma mb) :=
  je_op op_pow (fI_ok (fun i j h => h) fun i j h S H => .int _) ha hb
def fNeg : U → Store → R U
  | .d (.int i), st => .ok (.d (.int (-i))) st
  | _, _ => .bad
theorem je_neg {a : Expr} {ma : EM} {pos : Pos} (ha : JE W E X a ma) : JE W E X (.UnaryOp .USub a pos) (fUn fNeg ma) := je_un un_neg (by
  intro S l st H x u Q rl p h
  unfold fNeg at h
  split at h
  · cases p
    exact ⟨_, rfl, h.ok rl (.int _)⟩
  · exact h.elim) ha

/-! ### a + b: ints, tuples, lists, texts -/
def fAdd : U → U → Store → R U
  | .d (.int i), .d (.int j), st => .ok (.d (.int (i + j))) st
  | .d (.tup a), .d (.tup b), st => if a.length + b.length ≤ sizeLine then .ok (.d (.tup (a ++ b))) st else .bad
  | .d (.str a), .d (.str b), st => if a.length + b.length ≤ sizeLine then .ok (.d (.str (a ++ b))) st else .bad
  | .d (.lst a), .d (.lst b), st => if a.length + b.length ≤ sizeLine then .ok (.d (.lst (a ++ b))) st else .bad
  | .loc n, .d (.lst b), st => match st[n]? with
    | some (.lst us) => match dsOf us with
      | some a => if a.length + b.length ≤ sizeLine then .ok (.d (.lst (a ++ b))) st else .bad
      | none => .bad
    | _ => .bad
  | _, _, _ => .bad
abbrev rAddAll (K : PySem.W.Frag) : R2 := rOr (rI0 fun i j => .int (i + j)) (rOr (rCatA K) (rOr (fun x y H Q => ∃ i j, x = .str i ∧ y = .str j ∧ i.length + j.length ≤ sizeLine ∧ Q (.str (i ++ j)) H) rCat))
theorem op_addAll : OpR X (binaryOp .Add) (rAddAll X.K) := opR_or op_add (opR_or op_catA (opR_or op_add_str op_cat))
theorem loc_rep {n : Nat} {us : List U} {x : V} (rl : Rel W S l st H) (p : RepU W S l H x (.loc n)) (h : st[n]? = some (.lst us)) : ∃ a vs, l[n]? = some a ∧ x = .ref a ∧ H a = some (.lst vs) ∧ RepUs W S l H vs us := by
  obtain ⟨a, ha, rfl⟩ := p
  obtain ⟨b, o, h1, h2, h3⟩ := rl.cell n _ h
  rw [ha] at h1; cases h1
  cases o <;> first | exact h3.elim | exact ⟨a, _, ha, rfl, h2, h3⟩
theorem add_ok : OpOk W E (rAddAll W.K) fAdd := by
  intro S l st H x y u v Q rl p1 p2 h
  unfold fAdd at h
  split at h
  · cases p1; cases p2
    exact .inl ⟨_, _, rfl, rfl, h.ok rl (.int _)⟩
  · split at h
    · rename_i hl
      cases p1 with
      | @tup a vs ds q1 r1 =>
        cases p2 with
        | @tup b ws es q2 r2 =>
          refine .inr (.inl ⟨a, b, vs, ws, rfl, rfl, q1, q2, by rw [r1.length, r2.length]; exact hl, fun e => ?_, fun _ e => ?_, fun _ _ p hp => new_tup h rl (r1.append r2) hp⟩)
          · subst e; cases r1
            exact h.ok rl (.tup q2 r2)
          · subst e; cases r2
            exact h.ok rl (by rw [List.append_nil]; exact .tup q1 r1)
    · exact h.elim
  · split at h
    · rename_i hl
      cases p1; cases p2
      exact .inr (.inr (.inl ⟨_, _, rfl, rfl, hl, h.ok rl (.str _)⟩))
    · exact h.elim
  · split at h
    · rename_i hl
      cases p1 with
      | lst q1 n1 r1 =>
        cases p2 with
        | lst q2 n2 r2 =>
          exact .inr (.inr (.inr ⟨_, _, _, _, rfl, rfl, q1, q2, by rw [r1.length, r2.length]; exact hl, fun p hp => new_lst h rl (r1.append r2) hp⟩))
    · exact h.elim
  · split at h
    · rename_i us e
      split at h
      · rename_i a ea
        split at h
        · rename_i hl
          obtain ⟨b, vs, _, rfl, h1, h2⟩ := loc_rep rl p1 e
          rw [dsOf_eq ea] at h2
          cases p2 with
          | lst q2 n2 r2 =>
            exact .inr (.inr (.inr ⟨_, _, _, _, rfl, rfl, h1, q2, by rw [h2.ds.length, r2.length]; exact hl, fun p hp => new_lst h rl (h2.ds.append r2) hp⟩))
        · exact h.elim
      · exact h.elim
    · exact h.elim
  · exact h.elim
theorem je_add {a b : Expr} {ma mb : EM} {pos : Pos} (hk : X.K = W.K) (ha : JE W E X a ma) (hb : JE W E X b mb) : JE W E X (.BinOp a .Add b pos) (fBin fAdd ma mb) := je_op op_addAll (by rw [hk]; exact add_ok) ha hb

/-! ### a * b -/
def fMul : U → U → Store → R U
  | .d (.int i), .d (.int j), st => if i.natAbs.log2 + j.natAbs.log2 < 1000000 then .ok (.d (.int (i * j))) st else .bad
  | .d (.lst a), .d (.int k), st => if k ≤ 1000 ∧ -1000 ≤ k ∧ a.length ≤ 1000 then .ok (.d (.lst (List.replicate k.toNat a).flatten)) st else .bad
  | .d (.tup a), .d (.int k), st => if 2 ≤ k ∧ k ≤ 1000 ∧ a ≠ [] ∧ a.length ≤ 1000 then .ok (.d (.tup (List.replicate k.toNat a).flatten)) st else .bad
  | _, _, _ => .bad
theorem RepL.rep {vs : List V} {ds : List D} (r : RepL W S H vs ds) : ∀ n : Nat, RepL W S H (List.replicate n vs).flatten (List.replicate n ds).flatten
  | 0 => .nil
  | n + 1 => by
    rw [List.replicate_succ, List.replicate_succ, List.flatten_cons, List.flatten_cons]
    exact r.append (RepL.rep r n)
abbrev rMulAll (K : PySem.W.Frag) : R2 := rOr (rI CMulW fun i j => .int (i * j)) (rOr rRep (rRepT K))
theorem op_mulAll : OpR X (binaryOp .Mult) (rMulAll X.K) := opR_or op_mulW (opR_or op_rep op_repT)
theorem szLine {n : Nat} (h : n ≤ 1000000) : n ≤ sizeLine := Nat.le_trans h (by rw [sizeLine_eq]; decide)
theorem mul_ok : OpOk W E (rMulAll W.K) fMul := by
  intro S l st H x y u v Q rl p1 p2 h
  unfold fMul at h
  split at h
  · split at h
    · rename_i hc
      cases p1; cases p2
      exact .inl ⟨_, _, rfl, rfl, hc, h.ok rl (.int _)⟩
    · exact h.elim
  · split at h
    · rename_i hc
      cases p1 with
      | @lst a vs ds q1 n1 r1 =>
        cases p2
        rename_i k
        refine .inr (.inl ⟨_, k, _, rfl, rfl, q1, ?_, ?_, ?_, fun p hp => new_lst h rl (r1.rep _) hp⟩)
        · have := hc.2.1; omega
        · have := hc.1; omega
        · rw [r1.length]
          refine szLine ?_
          have h1 : k.toNat ≤ 1000 := by have := hc.1; omega
          calc _ ≤ 1000 * 1000 := Nat.mul_le_mul hc.2.2 h1
            _ ≤ 1000000 := by decide
    · exact h.elim
  · split at h
    · rename_i hc
      cases p1 with
      | @tup a vs ds q1 r1 =>
        cases p2
        rename_i k
        refine .inr (.inr ⟨_, k, _, rfl, rfl, q1, ?_, hc.1, hc.2.1, by rw [r1.length]; exact hc.2.2.2, fun p hp => new_tup h rl (r1.rep _) hp⟩)
        intro e
        subst e
        cases r1
        exact hc.2.2.1 rfl
    · exact h.elim
  · exact h.elim
theorem je_mul {a b : Expr} {ma mb : EM} {pos : Pos} (hk : X.K = W.K) (ha : JE W E X a ma) (hb : JE W E X b mb) : JE W E X (.BinOp a .Mult b pos) (fBin fMul ma mb) := je_op op_mulAll (by rw [hk]; exact mul_ok) ha hb
/-- .. where the list is a cell of the store from now on -/
def fMulC : U → U → Store → R U
  | .d (.lst a), .d (.int k), st => if k ≤ 1000 ∧ -1000 ≤ k ∧ a.length ≤ 1000 then .ok (.loc st.length) (st ++ [.lst ((List.replicate k.toNat a).flatten.map U.d)]) else .bad
  | _, _, _ => .bad
theorem mulC_ok : OpOk W E rRep fMulC := by
  intro S l st H x y u v Q rl p1 p2 h
  unfold fMulC at h
  split at h
  · split at h
    · rename_i hc
      cases p1 with
      | @lst a vs ds q1 n1 r1 =>
        cases p2
        rename_i k
        refine ⟨_, k, _, rfl, rfl, q1, ?_, ?_, ?_, fun p hp => new_cell h rl (r1.rep _).us hp⟩
        · have := hc.2.1; omega
        · have := hc.1; omega
        · rw [r1.length]
          refine szLine ?_
          have h1 : k.toNat ≤ 1000 := by have := hc.1; omega
          calc _ ≤ 1000 * 1000 := Nat.mul_le_mul hc.2.2 h1
            _ ≤ 1000000 := by decide
    · exact h.elim
  · exact h.elim
theorem je_mulC {a b : Expr} {ma mb : EM} {pos : Pos} (ha : JE W E X a ma) (hb : JE W E X b mb) : JE W E X (.BinOp a .Mult b pos) (fBin fMulC ma mb) := je_op op_rep mulC_ok ha hb

/-! ### comparisons -/
abbrev fLt := fI0 fun i j => .bl (decide (i < j))
abbrev fLe := fI0 fun i j => .bl (decide (i ≤ j))
abbrev fGt := fI0 fun i j => .bl (decide (j < i))
abbrev fGe := fI0 fun i j => .bl (decide (j ≤ i))
mutual
def toP : D → PyData
  | .non => .none
  | .bl b => .bool b
  | .int i => .int i
  | .str x => .str x
  | .tup l => .tuple (toPs l)
  | .lst l => .list (toPs l)
  | .frz _ => .dict []
  | .obj _ _ => .dict []
def toPs : List D → List PyData
  | [] => []
  | x :: r => toP x :: toPs r
end
mutual
/-- the lists and tuples that are read are data -/
theorem RepD.dp : ∀ {v : V} {d : D}, RepD W S H v d → (toP d).canLay0 = true → Dp W.K H v (toP d)
  | _, _, .non, _ => .non
  | _, _, .bl b, _ => .bl b
  | _, _, .int i, _ => .int i
  | _, _, .str x, _ => .str x
  | _, _, .tup q r, c => .tup q (RepL.dp r c)
  | _, _, .lst q n r, c => .lst (.inl (.inl q)) (RepL.dp r c)
  | _, _, .frz _ _, c => by cases c
  | _, _, .obj _ _ _ _ _, c => by cases c
theorem RepL.dp : ∀ {vs : List V} {ds : List D}, RepL W S H vs ds → PyData.canLayAll0 (toPs ds) = true → DpAll W.K H vs (toPs ds)
  | _, _, .nil, _ => .nil
  | _, _, .cons a t, c => by
    have c' : ((toP _).canLay0 && PyData.canLayAll0 (toPs _)) = true := c
    rw [Bool.and_eq_true] at c'
    exact .cons (RepD.dp a c'.1) (RepL.dp t c'.2)
end
def okD (x : D) : Bool := SeqAt.shaped (toP x)
/-- == of data -/
def eqD (x y : D) : Bool := PyData.eqv (toP x) (toP y)
def fEq : U → U → Store → R U
  | .d x, .d y, st => if okD x = true ∧ okD y = true then .ok (.d (.bl (eqD x y))) st else .bad
  | _, _, _ => .bad
def fNe : U → U → Store → R U
  | .d x, .d y, st => if okD x = true ∧ okD y = true then .ok (.d (.bl (!eqD x y))) st else .bad
  | _, _, _ => .bad
theorem eq_ok : OpOk W E (rEqD W.K) fEq := by
  intro S l st H x y u v Q rl p1 p2 h
  unfold fEq at h
  split at h
  · split at h
    · rename_i a b hc
      exact ⟨_, _, RepD.dp p1 (SeqAt.canLay_of_shaped hc.1), RepD.dp p2 (SeqAt.canLay_of_shaped hc.2), hc.1, hc.2, h.ok rl (.bl _)⟩
    · exact h.elim
  · exact h.elim
theorem ne_ok : OpOk W E (rNeD W.K) fNe := by
  intro S l st H x y u v Q rl p1 p2 h
  unfold fNe at h
  split at h
  · split at h
    · rename_i a b hc
      exact ⟨_, _, RepD.dp p1 (SeqAt.canLay_of_shaped hc.1), RepD.dp p2 (SeqAt.canLay_of_shaped hc.2), hc.1, hc.2, h.ok rl (.bl _)⟩
    · exact h.elim
  · exact h.elim
/-- x is c, c a constant None, True, False -/
def fIs (neg : Bool) : U → U → Store → R U
  | .d x, .d .non, st => match x with
    | .non => .ok (.d (.bl (!neg))) st
    | _ => .ok (.d (.bl neg)) st
  | .loc _, .d .non, st => .ok (.d (.bl neg)) st
  | .d (.bl a), .d (.bl b), st => .ok (.d (.bl (if neg then !decide (a = b) else decide (a = b)))) st
  | _, _, _ => .bad
abbrev rIsA (neg : Bool) : R2 := rOr (fun x y H Q => y = .non ∧ Q (.bl (if neg then !decide (x = .non) else decide (x = .non))) H) (fun x y H Q => ∃ a b : Bool, x = .bl a ∧ y = .bl b ∧ Q (.bl (if neg then !decide (a = b) else decide (a = b))) H)
theorem is_ok (neg : Bool) : OpOk W E (rIsA neg) (fIs neg) := by
  intro S l st H x y u v Q rl p1 p2 h
  unfold fIs at h
  split at h
  · cases p2
    split at h
    · cases p1
      refine .inl ⟨rfl, ?_⟩
      have : (if neg = true then !decide (V.non = .non) else decide (V.non = .non)) = !neg := by cases neg <;> rfl
      rw [this]
      exact h.ok rl (.bl _)
    · rename_i d hd
      have hn : decide (x = .non) = false := by
        refine decide_eq_false fun z => ?_
        subst z
        cases p1
        exact hd rfl
      refine .inl ⟨rfl, ?_⟩
      rw [hn]
      have : (if neg = true then !false else false) = neg := by cases neg <;> rfl
      rw [this]
      exact h.ok rl (.bl _)
  · cases p2
    obtain ⟨a, _, rfl⟩ := p1
    refine .inl ⟨rfl, ?_⟩
    have : (if neg = true then !decide (V.ref a = .non) else decide (V.ref a = .non)) = neg := by cases neg <;> rfl
    rw [this]
    exact h.ok rl (.bl _)
  · cases p1; cases p2
    exact .inr ⟨_, _, rfl, rfl, h.ok rl (.bl _)⟩
  · exact h.elim
theorem op_isA : OpR X (compareOp .Is) (rIsA false) := opR_or op_isN op_isBl
theorem op_isnotA : OpR X (compareOp .IsNot) (rIsA true) := opR_or op_notN op_notBl
theorem je_lt {a b : Expr} {ma mb : EM} {pos : Pos} (ha : JE W E X a ma) (hb : JE W E X b mb) : JE W E X (.Compare a [.Lt] [b] pos) (fBin fLt ma mb) := je_cmp op_lt (fI0_ok fun _ _ _ _ => .bl _) ha hb
theorem je_le {a b : Expr} {ma mb : EM} {pos : Pos} (ha : JE W E X a ma) (hb : JE W E X b mb) : JE W E X (.Compare a [.LtE] [b] pos) (fBin fLe ma mb) := je_cmp op_le (fI0_ok fun _ _ _ _ => .bl _) ha hb
theorem je_gt {a b : Expr} {ma mb : EM} {pos : Pos} (ha : JE W E X a ma) (hb : JE W E X b mb) : JE W E X (.Compare a [.Gt] [b] pos) (fBin fGt ma mb) := je_cmp op_gt (fI0_ok fun _ _ _ _ => .bl _) ha hb
theorem je_ge {a b : Expr} {ma mb : EM} {pos : Pos} (ha : JE W E X a ma) (hb : JE W E X b mb) : JE W E X (.Compare a [.GtE] [b] pos) (fBin fGe ma mb) := je_cmp op_ge (fI0_ok fun _ _ _ _ => .bl _) ha hb
theorem je_eq {a b : Expr} {ma mb : EM} {pos : Pos} (hk : X.K = W.K) (hu : X.A.units + 64 < cLine) (ha : JE W E X a ma) (hb : JE W E X b mb) : JE W E X (.Compare a [.Eq] [b] pos) (fBin fEq ma mb) := je_cmp (op_eqD hu) (by rw [hk]; exact eq_ok) ha hb
theorem je_ne {a b : Expr} {ma mb : EM} {pos : Pos} (hk : X.K = W.K) (hu : X.A.units + 64 < cLine) (ha : JE W E X a ma) (hb : JE W E X b mb) : JE W E X (.Compare a [.NotEq] [b] pos) (fBin fNe ma mb) := je_cmp (op_neD hu) (by rw [hk]; exact ne_ok) ha hb
theorem je_is {a b : Expr} {ma mb : EM} {pos : Pos} (ha : JE W E X a ma) (hb : JE W E X b mb) : JE W E X (.Compare a [.Is] [b] pos) (fBin (fIs false) ma mb) := je_cmp op_isA (is_ok false) ha hb
theorem je_isnot {a b : Expr} {ma mb : EM} {pos : Pos} (ha : JE W E X a ma) (hb : JE W E X b mb) : JE W E X (.Compare a [.IsNot] [b] pos) (fBin (fIs true) ma mb) := je_cmp op_isnotA (is_ok true) ha hb
end
end Ct
set_option Elab.async false
set_option maxRecDepth 100000
set_option maxHeartbeats 4000000
/-! Expressions, further: chains, and, or, not, tests, displays, items, slices, attributes. -/
namespace Ct
open PySem PySem.Spec PyProof.Rows L2
section
variable {W : Wd} {E : XK} {X : Cx} {S S' : Addr → Prop} {l l' : List Addr} {H H' : Hp} {st st' : Store}

/-! ### a op b op c -/
def mChain (f g : U → U → Store → R U) (a b c : EM) : EM := fun env st => (a env st).bind fun u st1 => (b env st1).bind fun v st2 => (f u v st2).bind fun z st3 => match z with
  | .d (.bl true) => (c env st3).bind fun w st4 => g v w st4
  | .d (.bl false) => .ok (.d (.bl false)) st3
  | _ => .bad
theorem chain_read {r r' : R2} {f g : U → U → Store → R U} {ma mb mc : EM} (k : OpOk W E r f) (k' : OpOk W E r' g) : ∀ σ H Q, tE W E (mChain f g ma mb mc) σ H Q → tChain r r' (tE W E ma) (tE W E mb) (tE W E mc) σ H Q := by
  rintro σ H Q ⟨S, l, env, st, rl, re, h⟩
  refine ⟨S, l, env, st, rl, re, (Post.bind (rep := repU W) h).imp ?_⟩
  rintro x H1 ⟨S1, l1, u, st1, x1, r1, p1, h1⟩
  refine ⟨S1, l1, env, st1, r1, re.ext rl x1, (Post.bind (rep := repU W) h1).imp ?_⟩
  rintro y H2 ⟨S2, l2, v, st2, x2, r2, p2, h2⟩
  refine k S2 l2 st2 H2 x y u v _ r2 (p1.ext r1 x2) p2 ((Post.bind (rep := repU W) h2).imp ?_)
  rintro z H3 ⟨S3, l3, w, st3, x3, r3, p3, h3⟩
  split at h3
  · cases p3
    refine ⟨true, rfl, ?_⟩
    rw [if_pos rfl]
    refine ⟨S3, l3, env, st3, r3, ((re.ext rl x1).ext r1 x2).ext r2 x3, (Post.bind (rep := repU W) h3).imp ?_⟩
    rintro w' H4 ⟨S4, l4, w, st4, x4, r4, p4, h4⟩
    exact k' S4 l4 st4 H4 y w' v w _ r4 ((p2.ext r2 x3).ext r3 x4) p4 h4
  · cases p3
    refine ⟨false, rfl, ?_⟩
    rw [if_neg Bool.false_ne_true]
    exact h3.ok r3 (.bl _)
  · exact h3.elim
theorem je_chain {op op' : CmpOp} {r r' : R2} {f g : U → U → Store → R U} {a b c : Expr} {ma mb mc : EM} {pos : Pos} (ho : OpR X (compareOp op) r) (ho' : OpR X (compareOp op') r') (k : OpOk W E r f) (k' : OpOk W E r' g)
    (ha : JE W E X a ma) (hb : JE W E X b mb) (hc : JE W E X c mc) (hm : lastMarks [op, op'] [b, c] = false := by with_unfolding_all rfl) : JE W E X (.Compare a [op, op'] [b, c] pos) (mChain f g ma mb mc) :=
  (pe_chain ho ho' ha hb hc hm).imp (chain_read k k')
theorem je_lele {a b c : Expr} {ma mb mc : EM} {pos : Pos} (ha : JE W E X a ma) (hb : JE W E X b mb) (hc : JE W E X c mc) (hm : lastMarks [.LtE, .LtE] [b, c] = false := by with_unfolding_all rfl) : JE W E X (.Compare a [.LtE, .LtE] [b, c] pos) (mChain fLe fLe ma mb mc) :=
  je_chain op_le op_le (fI0_ok fun _ _ _ _ => .bl _) (fI0_ok fun _ _ _ _ => .bl _) ha hb hc hm
theorem je_lelt {a b c : Expr} {ma mb mc : EM} {pos : Pos} (ha : JE W E X a ma) (hb : JE W E X b mb) (hc : JE W E X c mc) (hm : lastMarks [.LtE, .Lt] [b, c] = false := by with_unfolding_all rfl) : JE W E X (.Compare a [.LtE, .Lt] [b, c] pos) (mChain fLe fLt ma mb mc) :=
  je_chain op_le op_lt (fI0_ok fun _ _ _ _ => .bl _) (fI0_ok fun _ _ _ _ => .bl _) ha hb hc hm

/-! ### and, or, not as values (truth values) -/
def mAnd (a b : EM) : EM := fun env st => (a env st).bind fun u st1 => match u with
  | .d (.bl true) => b env st1
  | .d (.bl false) => .ok (.d (.bl false)) st1
  | _ => .bad
def mOr (a b : EM) : EM := fun env st => (a env st).bind fun u st1 => match u with
  | .d (.bl true) => .ok (.d (.bl true)) st1
  | .d (.bl false) => b env st1
  | _ => .bad
def fNot : U → Store → R U
  | .d (.bl b), st => .ok (.d (.bl (!b))) st
  | _, _ => .bad
theorem je_one {op a pos} {m : EM} (h : JE W E X a m) : JE W E X (.BoolOp op [a] pos) m := pe_one h
theorem je_and {a b : Expr} {rest : List Expr} {ma mb : EM} {pos : Pos} (ha : JE W E X a ma) (hb : JE W E X (.BoolOp .And (b :: rest) pos) mb) : JE W E X (.BoolOp .And (a :: b :: rest) pos) (mAnd ma mb) := (pe_and ha hb).imp (by
  rintro σ H Q ⟨S, l, env, st, rl, re, h⟩
  refine ⟨S, l, env, st, rl, re, (Post.bind (rep := repU W) h).imp ?_⟩
  rintro x H1 ⟨S1, l1, u, st1, x1, r1, p1, h1⟩
  split at h1
  · cases p1
    refine ⟨true, rfl, ?_⟩
    rw [if_pos rfl]
    exact ⟨S1, l1, env, st1, r1, re.ext rl x1, h1⟩
  · cases p1
    refine ⟨false, rfl, ?_⟩
    rw [if_neg Bool.false_ne_true]
    exact h1.ok r1 (.bl _)
  · exact h1.elim)
theorem je_or {a b : Expr} {rest : List Expr} {ma mb : EM} {pos : Pos} (ha : JE W E X a ma) (hb : JE W E X (.BoolOp .Or (b :: rest) pos) mb) : JE W E X (.BoolOp .Or (a :: b :: rest) pos) (mOr ma mb) := (pe_or ha hb).imp (by
  rintro σ H Q ⟨S, l, env, st, rl, re, h⟩
  refine ⟨S, l, env, st, rl, re, (Post.bind (rep := repU W) h).imp ?_⟩
  rintro x H1 ⟨S1, l1, u, st1, x1, r1, p1, h1⟩
  split at h1
  · cases p1
    refine ⟨true, rfl, ?_⟩
    rw [if_pos rfl]
    exact h1.ok r1 (.bl _)
  · cases p1
    refine ⟨false, rfl, ?_⟩
    rw [if_neg Bool.false_ne_true]
    exact ⟨S1, l1, env, st1, r1, re.ext rl x1, h1⟩
  · exact h1.elim)
theorem je_not {a : Expr} {ma : EM} {pos : Pos} (ha : JE W E X a ma) : JE W E X (.UnaryOp .Not a pos) (fUn fNot ma) := (pe_not ha).imp (by
  rintro σ H Q ⟨S, l, env, st, rl, re, h⟩
  refine ⟨S, l, env, st, rl, re, (Post.bind (rep := repU W) h).imp ?_⟩
  rintro x H1 ⟨S1, l1, u, st1, x1, r1, p1, h1⟩
  unfold fNot at h1
  split at h1
  · cases p1
    exact ⟨_, rfl, h1.ok r1 (.bl _)⟩
  · exact h1.elim)

/-! ### tests -/
def truth : U → Store → Option Bool
  | .d .non, _ => some false
  | .d (.bl b), _ => some b
  | .d (.int i), _ => some (i != 0)
  | .d (.tup a), _ => some (!a.isEmpty)
  | .d (.lst a), _ => some (!a.isEmpty)
  | .d (.frz a), _ => some (!a.isEmpty)
  | .loc n, st => match st[n]? with
    | some (.lst us) => some (!us.isEmpty)
    | _ => none
  | _, _ => none
def tTruth (m : EM) : TM := fun env st => (m env st).bind fun u st1 => match truth u st1 with
  | some b => .ok b st1
  | none => .bad
theorem isEmpty_of_len {α β : Type} {a : List α} {b : List β} (h : a.length = b.length) : a.isEmpty = b.isEmpty := by
  cases a <;> cases b <;> first | rfl | cases h
theorem truth_rep {u : U} {x : V} {b : Bool} (rl : Rel W S l st H) (p : RepU W S l H x u) (h : truth u st = some b) : TruV W.K x H b := by
  unfold truth at h
  split at h
  · cases h; cases p; rfl
  · cases h; cases p; rfl
  · cases h; cases p; rfl
  · cases h
    cases p with
    | tup q r => exact .inr (.inl ⟨_, q, by rw [isEmpty_of_len r.length]⟩)
  · cases h
    cases p with
    | lst q n r => exact .inl ⟨_, .inl (.inl q), by rw [isEmpty_of_len r.length]⟩
  · cases h
    cases p with
    | frz q r => exact .inl ⟨_, q.sq, by rw [isEmpty_of_len r.length]⟩
  · split at h
    · rename_i us e
      cases h
      obtain ⟨a, vs, _, rfl, h1, h2⟩ := loc_rep rl p e
      exact .inl ⟨_, .inl (.inl h1), by rw [isEmpty_of_len h2.length]⟩
    · cases h
  · cases h
/-- a value's truth (not for comparisons, and, or, not) -/
theorem jt_truth {e : Expr} {m : EM} (hk : X.K = W.K) (ha : JE W E X e m) (he : ∀ whole, isTrue e X.env whole = (do let v ← whole; standAt e.pos; holding [v] (truthy v)) := by intro _; rfl) : JT W E X e (tTruth m) := (pt_truth ha he).imp (by
  rintro σ H Q ⟨S, l, env, st, rl, re, h⟩
  refine ⟨S, l, env, st, rl, re, (Post.bind (rep := repU W) h).imp ?_⟩
  rintro x H1 ⟨S1, l1, u, st1, x1, r1, p1, h1⟩
  split at h1
  · rename_i b e
    refine ⟨b, ?_, h1.ok r1 rfl⟩
    rw [hk]
    exact truth_rep r1 p1 e
  · exact h1.elim)
def tBool (m : EM) : TM := fun env st => (m env st).bind fun u st1 => match u with
  | .d (.bl b) => .ok b st1
  | _ => .bad
theorem tst_read {m : EM} : ∀ {σ : L2.St} {H : Hp} {Q : Bool → Hp → Prop}, tT W E (tBool m) σ H Q → tE W E m σ H (fun x H' => ∃ k, x = .bl k ∧ Q k H') := by
  rintro σ H Q ⟨S, l, env, st, rl, re, h⟩
  refine ⟨S, l, env, st, rl, re, (Post.bind (rep := repU W) h).imp ?_⟩
  rintro x H1 ⟨S1, l1, u, st1, x1, r1, p1, h1⟩
  split at h1
  · cases p1
    exact ⟨_, rfl, h1.ok r1 rfl⟩
  · exact h1.elim
theorem jt_cmp {op : CmpOp} {r : R2} {f : U → U → Store → R U} {a b : Expr} {ma mb : EM} {pos : Pos} (ho : OpR X (compareOp op) r) (k : OpOk W E r f) (ha : JE W E X a ma) (hb : JE W E X b mb) (hm : behindInMarks op b = false := by first | exact nobehind _ (by decide) (by decide) | rfl) :
    JT W E X (.Compare a [op] [b] pos) (tBool (fBin f ma mb)) := (pt_cmpR ho ha hb hm).imp fun _ _ _ h => bin_read k _ _ _ (tst_read h)
theorem jt_chain {op op' : CmpOp} {r r' : R2} {f g : U → U → Store → R U} {a b c : Expr} {ma mb mc : EM} {pos : Pos} (ho : OpR X (compareOp op) r) (ho' : OpR X (compareOp op') r') (k : OpOk W E r f) (k' : OpOk W E r' g)
    (ha : JE W E X a ma) (hb : JE W E X b mb) (hc : JE W E X c mc) (hm : lastMarks [op, op'] [b, c] = false := by with_unfolding_all rfl) : JT W E X (.Compare a [op, op'] [b, c] pos) (tBool (mChain f g ma mb mc)) :=
  (pt_chain ho ho' ha hb hc hm).imp fun _ _ _ h => chain_read k k' _ _ _ (tst_read h)
section
variable {a b c : Expr} {ma mb mc : EM} {pos : Pos}
theorem jt_lt (ha : JE W E X a ma) (hb : JE W E X b mb) : JT W E X (.Compare a [.Lt] [b] pos) (tBool (fBin fLt ma mb)) := jt_cmp op_lt (fI0_ok fun _ _ _ _ => .bl _) ha hb
theorem jt_le (ha : JE W E X a ma) (hb : JE W E X b mb) : JT W E X (.Compare a [.LtE] [b] pos) (tBool (fBin fLe ma mb)) := jt_cmp op_le (fI0_ok fun _ _ _ _ => .bl _) ha hb
theorem jt_gt (ha : JE W E X a ma) (hb : JE W E X b mb) : JT W E X (.Compare a [.Gt] [b] pos) (tBool (fBin fGt ma mb)) := jt_cmp op_gt (fI0_ok fun _ _ _ _ => .bl _) ha hb
theorem jt_ge (ha : JE W E X a ma) (hb : JE W E X b mb) : JT W E X (.Compare a [.GtE] [b] pos) (tBool (fBin fGe ma mb)) := jt_cmp op_ge (fI0_ok fun _ _ _ _ => .bl _) ha hb
theorem jt_eq (hk : X.K = W.K) (hu : X.A.units + 64 < cLine) (ha : JE W E X a ma) (hb : JE W E X b mb) : JT W E X (.Compare a [.Eq] [b] pos) (tBool (fBin fEq ma mb)) := jt_cmp (op_eqD hu) (by rw [hk]; exact eq_ok) ha hb
theorem jt_ne (hk : X.K = W.K) (hu : X.A.units + 64 < cLine) (ha : JE W E X a ma) (hb : JE W E X b mb) : JT W E X (.Compare a [.NotEq] [b] pos) (tBool (fBin fNe ma mb)) := jt_cmp (op_neD hu) (by rw [hk]; exact ne_ok) ha hb
theorem jt_is (ha : JE W E X a ma) (hb : JE W E X b mb) : JT W E X (.Compare a [.Is] [b] pos) (tBool (fBin (fIs false) ma mb)) := jt_cmp op_isA (is_ok false) ha hb
theorem jt_isnot (ha : JE W E X a ma) (hb : JE W E X b mb) : JT W E X (.Compare a [.IsNot] [b] pos) (tBool (fBin (fIs true) ma mb)) := jt_cmp op_isnotA (is_ok true) ha hb
theorem jt_lele (ha : JE W E X a ma) (hb : JE W E X b mb) (hc : JE W E X c mc) (hm : lastMarks [.LtE, .LtE] [b, c] = false := by with_unfolding_all rfl) : JT W E X (.Compare a [.LtE, .LtE] [b, c] pos) (tBool (mChain fLe fLe ma mb mc)) :=
  jt_chain op_le op_le (fI0_ok fun _ _ _ _ => .bl _) (fI0_ok fun _ _ _ _ => .bl _) ha hb hc hm
theorem jt_lelt (ha : JE W E X a ma) (hb : JE W E X b mb) (hc : JE W E X c mc) (hm : lastMarks [.LtE, .Lt] [b, c] = false := by with_unfolding_all rfl) : JT W E X (.Compare a [.LtE, .Lt] [b, c] pos) (tBool (mChain fLe fLt ma mb mc)) :=
  jt_chain op_le op_lt (fI0_ok fun _ _ _ _ => .bl _) (fI0_ok fun _ _ _ _ => .bl _) ha hb hc hm
end
/-- and, or, not as tests -/
def tAndM (a b : TM) : TM := fun env st => (a env st).bind fun c st1 => if c = true then b env st1 else .ok false st1
def tOrM (a b : TM) : TM := fun env st => (a env st).bind fun c st1 => if c = true then .ok true st1 else b env st1
def tNotM (a : TM) : TM := fun env st => (a env st).bind fun c st1 => .ok (!c) st1
abbrev JW (W : Wd) (E : XK) (X : Cx) (e : Expr) (m : TM) : Prop := PW X e (tT W E m)
theorem _root_.L2.PW.imp {X : Cx} {e : Expr} {t t' : TT} (h : PW X e t) (i : ∀ σ H Q, t' σ H Q → t σ H Q) : PW X e t' := ⟨fun wh pins s σ H Q I q => h.run wh pins s σ H Q I (i σ H Q q)⟩
theorem jw_and1 {a : Expr} {ma : TM} {pos : Pos} (ha : JT W E X a ma) : JW W E X (.BoolOp .And [a] pos) ma := pw_and1 ha
theorem jw_or1 {a : Expr} {ma : TM} {pos : Pos} (ha : JT W E X a ma) : JW W E X (.BoolOp .Or [a] pos) ma := pw_or1 ha
theorem jw_and {a b : Expr} {rest : List Expr} {ma mb : TM} {pos : Pos} (ha : JT W E X a ma) (hb : JW W E X (.BoolOp .And (b :: rest) pos) mb) : JW W E X (.BoolOp .And (a :: b :: rest) pos) (tAndM ma mb) := (pw_and ha hb).imp (by
  rintro σ H Q ⟨S, l, env, st, rl, re, h⟩
  refine ⟨S, l, env, st, rl, re, (Post.bind (rep := repB) h).imp ?_⟩
  rintro x H1 ⟨S1, l1, u, st1, x1, r1, p1, h1⟩
  have p1 : x = u := p1
  subst p1
  cases x with
  | true => exact iteT ⟨S1, l1, env, st1, r1, re.ext rl x1, h1⟩
  | false => exact iteF (h1.ok r1 rfl))
theorem jw_or {a b : Expr} {rest : List Expr} {ma mb : TM} {pos : Pos} (ha : JT W E X a ma) (hb : JW W E X (.BoolOp .Or (b :: rest) pos) mb) : JW W E X (.BoolOp .Or (a :: b :: rest) pos) (tOrM ma mb) := (pw_or ha hb).imp (by
  rintro σ H Q ⟨S, l, env, st, rl, re, h⟩
  refine ⟨S, l, env, st, rl, re, (Post.bind (rep := repB) h).imp ?_⟩
  rintro x H1 ⟨S1, l1, u, st1, x1, r1, p1, h1⟩
  have p1 : x = u := p1
  subst p1
  cases x with
  | true => exact iteT (h1.ok r1 rfl)
  | false => exact iteF ⟨S1, l1, env, st1, r1, re.ext rl x1, h1⟩)
theorem jt_w {e : Expr} {m : TM} (h : JW W E X e m) : JT W E X e m := PW.pt h
theorem jt_not {a : Expr} {ma : TM} {pos : Pos} (ha : JT W E X a ma) : JT W E X (.UnaryOp .Not a pos) (tNotM ma) := (pt_not ha).imp (by
  rintro σ H Q ⟨S, l, env, st, rl, re, h⟩
  refine ⟨S, l, env, st, rl, re, (Post.bind (rep := repB) h).imp ?_⟩
  rintro x H1 ⟨S1, l1, u, st1, x1, r1, p1, h1⟩
  have p1 : x = u := p1
  subst p1
  exact h1.ok r1 rfl)
/-- a if t else b -/
def mIf (t : TM) (a b : EM) : EM := fun env st => (t env st).bind fun c st1 => if c = true then a env st1 else b env st1
theorem je_if {c a b : Expr} {mt : TM} {ma mb : EM} {pos : Pos} (hc : JT W E X c mt) (ha : JE W E X a ma) (hb : JE W E X b mb) : JE W E X (.IfExp c a b pos) (mIf mt ma mb) := (pe_ifExp hc ha hb).imp (by
  rintro σ H Q ⟨S, l, env, st, rl, re, h⟩
  refine ⟨S, l, env, st, rl, re, (Post.bind (rep := repB) h).imp ?_⟩
  rintro x H1 ⟨S1, l1, u, st1, x1, r1, p1, h1⟩
  have p1 : x = u := p1
  subst p1
  cases x with
  | true => exact iteT ⟨S1, l1, env, st1, r1, re.ext rl x1, h1⟩
  | false => exact iteF ⟨S1, l1, env, st1, r1, re.ext rl x1, h1⟩)

/-! ### argument lists, displays -/
def mNil : AM := fun _ st => .ok [] st
def mCons (a : EM) (r : AM) : AM := fun env st => (a env st).bind fun u st1 => (r env st1).bind fun us st2 => .ok (u :: us) st2
theorem ja_nil : JA W E X [] mNil := pa_nil.imp fun σ H Q ⟨S, l, env, st, rl, re, h⟩ => h.ok rl .nil
theorem ja_cons {e : Expr} {es : List Expr} {m : EM} {ms : AM} (ha : JE W E X e m) (hr : JA W E X es ms) (hs : starEach (e :: es) X.env = (false, eval e X.env) :: starEach es X.env := by rfl) : JA W E X (e :: es) (mCons m ms) := (pa_cons ha hr hs).imp (by
  rintro σ H Q ⟨S, l, env, st, rl, re, h⟩
  refine ⟨S, l, env, st, rl, re, (Post.bind (rep := repU W) h).imp ?_⟩
  rintro x H1 ⟨S1, l1, u, st1, x1, r1, p1, h1⟩
  refine ⟨S1, l1, env, st1, r1, re.ext rl x1, (Post.bind (rep := repUs W) h1).imp ?_⟩
  rintro y H2 ⟨S2, l2, us, st2, x2, r2, p2, h2⟩
  exact h2.ok r2 (.cons (p1.ext r1 x2) p2))
/-- a tuple, a frozen list, of written items -/
def mTup (a : AM) : EM := fun env st => (a env st).bind fun us st1 => match dsOf us with
  | some ds => if ds.length ≤ 1000 then .ok (.d (.tup ds)) st1 else .bad
  | none => .bad
def mLst (a : AM) : EM := fun env st => (a env st).bind fun us st1 => match dsOf us with
  | some ds => if ds.length ≤ 1000 then .ok (.d (.lst ds)) st1 else .bad
  | none => .bad
/-- a list that is a cell -/
def mLstC (a : AM) : EM := fun env st => (a env st).bind fun us st1 => if us.length ≤ 1000 then .ok (.loc st1.length) (st1 ++ [.lst us]) else .bad
theorem szK {n : Nat} (h : n ≤ 1000) : n ≤ sizeLine := szLine (Nat.le_trans h (by decide))
theorem je_tup {es : List Expr} {m : AM} {x1 pos} (h : JA W E X es m) : JE W E X (.Tuple es x1 pos) (mTup m) := (pe_tup h).imp (by
  rintro σ H Q ⟨S, l, env, st, rl, re, h⟩
  refine ⟨S, l, env, st, rl, re, (Post.bind (rep := repUs W) h).imp ?_⟩
  rintro x H1 ⟨S1, l1, us, st1, x1, r1, p1, h1⟩
  split at h1
  · rename_i ds e
    split at h1
    · rename_i hl
      rw [dsOf_eq e] at p1
      exact ⟨szK (by rw [p1.ds.length]; exact hl), fun p hp => new_tup h1 r1 p1.ds hp⟩
    · exact h1.elim
  · exact h1.elim)
theorem je_lst {es : List Expr} {m : AM} {pos : Pos} (h : JA W E X es m) : JE W E X (.List es pos) (mLst m) := (pe_lst h).imp (by
  rintro σ H Q ⟨S, l, env, st, rl, re, h⟩
  refine ⟨S, l, env, st, rl, re, (Post.bind (rep := repUs W) h).imp ?_⟩
  rintro x H1 ⟨S1, l1, us, st1, x1, r1, p1, h1⟩
  split at h1
  · rename_i ds e
    split at h1
    · rename_i hl
      rw [dsOf_eq e] at p1
      exact ⟨szK (by rw [p1.ds.length]; exact hl), fun p hp => new_lst h1 r1 p1.ds hp⟩
    · exact h1.elim
  · exact h1.elim)
theorem je_lstC {es : List Expr} {m : AM} {pos : Pos} (h : JA W E X es m) : JE W E X (.List es pos) (mLstC m) := (pe_lst h).imp (by
  rintro σ H Q ⟨S, l, env, st, rl, re, h⟩
  refine ⟨S, l, env, st, rl, re, (Post.bind (rep := repUs W) h).imp ?_⟩
  rintro x H1 ⟨S1, l1, us, st1, x1, r1, p1, h1⟩
  split at h1
  · rename_i hl
    exact ⟨szK (by rw [p1.length]; exact hl), fun p hp => new_cell h1 r1 p1 hp⟩
  · exact h1.elim)

/-! ### items, slices -/
def fIx : U → U → Store → R U
  | .d (.tup a), .d (.int i), st => match atI a i with
    | some x => .ok (.d x) st
    | none => .bad
  | u, .d (.int i), st => match lstOf u st with
    | some us => match atI us i with
      | some x => .ok x st
      | none => .bad
    | none => .bad
  | _, _, _ => .bad
theorem atI_repL {vs : List V} {ds : List D} {i : Int} {x : D} (r : RepL W S H vs ds) (h : atI ds i = some x) : ∃ v, atI vs i = some v ∧ RepD W S H v x := by
  unfold atI at h ⊢
  rw [r.length]
  cases e : ixN ds.length i with
  | none => rw [e] at h; cases h
  | some j =>
    rw [e] at h
    exact r.get h
theorem atI_repUs {vs : List V} {us : List U} {i : Int} {x : U} (r : RepUs W S l H vs us) (h : atI us i = some x) : ∃ v, atI vs i = some v ∧ RepU W S l H v x := by
  unfold atI at h ⊢
  rw [r.length]
  cases e : ixN us.length i with
  | none => rw [e] at h; cases h
  | some j =>
    rw [e] at h
    exact r.get h
theorem ix_ok : OpOk W E (rIx W.K) fIx := by
  intro S l st H x y u v Q rl p1 p2 h
  unfold fIx at h
  split at h
  · split at h
    · rename_i z e
      cases p1 with
      | tup q r =>
        cases p2
        obtain ⟨v, h1, h2⟩ := atI_repL r e
        exact .inr (.inl ⟨_, _, _, v, rfl, rfl, q, h1, h.ok rl h2⟩)
    · exact h.elim
  · split at h
    · rename_i us e
      split at h
      · rename_i z ez
        obtain ⟨a, vs, rfl, q, r⟩ := lstOf_rep rl p1 e
        cases p2
        obtain ⟨v, h1, h2⟩ := atI_repUs r ez
        exact .inl ⟨_, _, _, v, rfl, rfl, q, h1, h.ok rl h2⟩
      · exact h.elim
    · exact h.elim
  · exact h.elim
theorem je_ix {a b : Expr} {ma mb : EM} {pos : Pos} (hk : X.K = W.K) (ha : JE W E X a ma) (hb : JE W E X b mb) (hs : PlainIx b := by exact fun _ _ => rfl) : JE W E X (.Subscript a b pos) (fBin fIx ma mb) := (pe_ix ix_seq ha hb hs).imp (bin_read (by rw [hk]; exact ix_ok))
/-- a slice's bounds -/
abbrev OM := EnvD → Store → R (Option Int)
abbrev repO : (Addr → Prop) → List Addr → Hp → Option Int → Option Int → Prop := fun _ _ _ b a => b = a
def tOo (W : Wd) (E : XK) (m : OM) : TO := fun σ H Q => ∃ S l env st, Rel W S l st H ∧ RepE W S l H σ env ∧ Post W repO E S l H Q (m env st)
abbrev JO (W : Wd) (E : XK) (X : Cx) (e : Option Expr) (m : OM) : Prop := PO X e (tOo W E m)
theorem _root_.L2.PO.imp {X : Cx} {e : Option Expr} {t t' : TO} (h : PO X e t) (i : ∀ σ H Q, t' σ H Q → t σ H Q) : PO X e t' := ⟨fun pins s σ H Q I q => h.run pins s σ H Q I (i σ H Q q)⟩
def mNoPart : OM := fun _ st => .ok none st
def mPart (m : EM) : OM := fun env st => (m env st).bind fun u st1 => match u with
  | .d (.int i) => .ok (some i) st1
  | _ => .bad
theorem jo_none : JO W E X none mNoPart := po_none.imp fun σ H Q ⟨S, l, env, st, rl, re, h⟩ => h.ok rl rfl
theorem jo_some {e : Expr} {m : EM} (h : JE W E X e m) : JO W E X (some e) (mPart m) := (po_some h).imp (by
  rintro σ H Q ⟨S, l, env, st, rl, re, h⟩
  refine ⟨S, l, env, st, rl, re, (Post.bind (rep := repU W) h).imp ?_⟩
  rintro x H1 ⟨S1, l1, u, st1, x1, r1, p1, h1⟩
  split at h1
  · cases p1
    exact ⟨_, rfl, h1.ok r1 rfl⟩
  · exact h1.elim)
def cut {α : Type} (xs : List α) (lo hi : Option Int) : List α := (xs.drop (HT.sIx xs.length 0 lo)).take (HT.sIx xs.length xs.length hi - HT.sIx xs.length 0 lo)
def mSlice (a : EM) (lo hi : OM) : EM := fun env st => (a env st).bind fun u st1 => (lo env st1).bind fun i st2 => (hi env st2).bind fun j st3 => match u with
  | .d (.tup ds) => .ok (.d (.tup (cut ds i j))) st3
  | _ => .bad
theorem RepL.cut {vs : List V} {ds : List D} (r : RepL W S H vs ds) (lo hi : Option Int) : RepL W S H (cutV vs lo hi) (cut ds lo hi) := by
  unfold cutV Ct.cut
  rw [r.length]
  exact (r.drop _).take _
theorem cut_all {α : Type} {xs : List α} {lo hi : Option Int} (h : HT.sIx xs.length 0 lo = 0 ∧ HT.sIx xs.length xs.length hi = xs.length) : cut xs lo hi = xs := by
  unfold cut
  rw [h.1, h.2]
  simp
theorem je_slice {a : Expr} {lo hi : Option Expr} {ma : EM} {ml mh : OM} {p2 pos : Pos} (hk : X.K = W.K) (ha : JE W E X a ma) (hl : JO W E X lo ml) (hh : JO W E X hi mh) : JE W E X (.Subscript a (.Slice lo hi none p2) pos) (mSlice ma ml mh) := (pe_slice sl_tupA ha hl hh).imp (by
  rintro σ H Q ⟨S, l, env, st, rl, re, h⟩
  refine ⟨S, l, env, st, rl, re, (Post.bind (rep := repU W) h).imp ?_⟩
  rintro x H1 ⟨S1, l1, u, st1, x1, r1, p1, h1⟩
  have re1 := re.ext rl x1
  refine ⟨S1, l1, env, st1, r1, re1, (Post.bind (rep := repO) h1).imp ?_⟩
  rintro i H2 ⟨S2, l2, i', st2, x2, r2, p2, h2⟩
  have p2 : i = i' := p2
  subst p2
  refine ⟨S2, l2, env, st2, r2, re1.ext r1 x2, (Post.bind (rep := repO) h2).imp ?_⟩
  rintro j H3 ⟨S3, l3, j', st3, x3, r3, p3, h3⟩
  have p3 : j = j' := p3
  subst p3
  have p1 := (p1.ext r1 x2).ext r2 x3
  split at h3
  · cases p1 with
    | @tup b vs ds q r =>
      refine ⟨b, vs, rfl, by rw [hk]; exact q, fun e => ?_, fun _ p hp => new_tup h3 r3 (r.cut i j) hp⟩
      rw [r.length] at e
      rw [cut_all e] at h3
      exact h3.ok r3 (.tup q r)
  · exact h3.elim)
end
end Ct
set_option Elab.async false
set_option maxRecDepth 100000
set_option maxHeartbeats 4000000
/-! Statements: one lemma a construct. -/
namespace Ct
open PySem PySem.Spec PyProof.Rows L2
abbrev repE (W : Wd) : (Addr → Prop) → List Addr → Hp → L2.St → EnvD → Prop := fun S l H σ e => RepE W S l H σ e
/-- a target: what it makes of the slots -/
abbrev GM := U → EnvD → Store → R EnvD
abbrev GsM := List U → EnvD → Store → R EnvD
/-- nothing but the slots ts is stored -/
def Only (ts : List Nat) (σ σ2 : L2.St) : Prop := ∀ vs : List Nat, (∀ i ∈ ts, i ∈ vs) → wipe σ2 vs = wipe σ vs
abbrev repF (W : Wd) (ts : List Nat) (σ : L2.St) : (Addr → Prop) → List Addr → Hp → L2.St → EnvD → Prop := fun S l H σ2 e => RepE W S l H σ2 e ∧ Only ts σ σ2
def tG (W : Wd) (E : XK) (ts : List Nat) (g : GM) : TG := fun v σ H Q => ∃ S l env st u, Rel W S l st H ∧ RepE W S l H σ env ∧ RepU W S l H v u ∧ Post W (repF W ts σ) E S l H Q (g u env st)
def tGs (W : Wd) (E : XK) (ts : List Nat) (g : GsM) : TGs := fun vs σ H Q => ∃ S l env st us, Rel W S l st H ∧ RepE W S l H σ env ∧ RepUs W S l H vs us ∧ Post W (repF W ts σ) E S l H Q (g us env st)
abbrev JG (W : Wd) (E : XK) (X : Cx) (e : Expr) (ts : List Nat) (g : GM) : Prop := PG X e (tG W E ts g)
abbrev JGs (W : Wd) (E : XK) (X : Cx) (es : List Expr) (ts : List Nat) (g : GsM) : Prop := PGs X es (tGs W E ts g)
theorem Only.refl (ts : List Nat) (σ : L2.St) : Only ts σ σ := fun _ _ => rfl
theorem Only.trans {a b : List Nat} {σ σ1 σ2 : L2.St} (x : Only a σ σ1) (y : Only b σ1 σ2) : Only (a ++ b) σ σ2 := fun vs h => (y vs fun i hi => h i (List.mem_append_right _ hi)).trans (x vs fun i hi => h i (List.mem_append_left _ hi))
theorem wipe_get (σ : L2.St) : ∀ (vs : List Nat) (j : Nat), (wipe σ vs)[j]? = if j ∈ vs then (if j < σ.length then some none else none) else σ[j]?
  | [], j => by simp [wipe]
  | v :: vs, j => by
    unfold wipe
    by_cases hj : v = j
    · subst hj
      by_cases hl : v < σ.length
      · rw [List.getElem?_set_self (by rw [wipe_length]; exact hl)]; simp [hl]
      · rw [List.getElem?_eq_none (by simp [wipe_length]; omega)]; simp [hl]
    · rw [List.getElem?_set_ne hj, wipe_get σ vs j]
      have : (j ∈ v :: vs) ↔ j ∈ vs := by simp [Ne.symm hj]
      simp only [this]
theorem Only.set (σ : L2.St) (i : Nat) (x : Option V) : Only [i] σ (σ.set i x) := fun vs h => by
  have hi : i ∈ vs := h i (by simp)
  apply List.ext_getElem?
  intro j
  rw [wipe_get, wipe_get, List.length_set]
  by_cases hj : j ∈ vs
  · rw [if_pos hj, if_pos hj]
  · rw [if_neg hj, if_neg hj, List.getElem?_set_ne (fun e => hj (by rw [← e]; exact hi))]
theorem _root_.L2.PG.imp {X : Cx} {e : Expr} {t t' : TG} (h : PG X e t) (i : ∀ v σ H Q, t' v σ H Q → t v σ H Q) : PG X e t' := ⟨fun pins s σ H v u Q I r q => h.run pins s σ H v u Q I r (i v σ H Q q)⟩
theorem _root_.L2.PGs.imp {X : Cx} {e : List Expr} {t t' : TGs} (h : PGs X e t) (i : ∀ v σ H Q, t' v σ H Q → t v σ H Q) : PGs X e t' := ⟨fun pins s σ H v u Q I r q => h.run pins s σ H v u Q I r (i v σ H Q q)⟩

section
variable {W : Wd} {E : XK} {X : Cx} {S S' : Addr → Prop} {l l' : List Addr} {H H' : Hp} {st st' : Store}

/-! ### targets -/
def gVar (i : Nat) : GM := fun u env st => .ok (env.set i (some u)) st
theorem jg_name {i : Nat} {x : Str} {pos : Pos} (hN : X.N.Nodup) (hi : X.N[i]? = some x) (hx : Loc X.env.scope x) (hf : X.fn x = true ∨ X.env.scope.names.lookup x = some .local := by first | exact .inl rfl | exact .inr rfl | assumption) : JG W E X (.Name x pos) [i] (gVar i) :=
  (pg_name hN hi hx hf).imp fun v σ H Q ⟨S, l, env, st, u, rl, re, p, h⟩ => h.ok rl ⟨re.set i p, Only.set σ i (some v)⟩
def gsNil : GsM := fun us env st => match us with
  | [] => .ok env st
  | _ => .bad
def gsCons (g : GM) (r : GsM) : GsM := fun us env st => match us with
  | u :: t => (g u env st).bind fun env1 st1 => r t env1 st1
  | [] => .bad
theorem jgs_nil : JGs W E X [] [] gsNil := pgs_nil.imp fun vs σ H Q ⟨S, l, env, st, us, rl, re, p, h⟩ => by
  unfold gsNil at h
  split at h
  · cases p
    exact ⟨rfl, h.ok rl ⟨re, Only.refl _ _⟩⟩
  · exact h.elim
theorem jgs_cons {e : Expr} {es : List Expr} {ts us : List Nat} {g : GM} {r : GsM} (h1 : JG W E X e ts g) (h2 : JGs W E X es us r)
    (hs : (assignEach (e :: es) X.env).map (·.2) = assign e X.env :: (assignEach es X.env).map (·.2) := by rfl) : JGs W E X (e :: es) (ts ++ us) (gsCons g r) := (pgs_cons h1 h2 hs).imp (by
  rintro vs σ H Q ⟨S, l, env, st, us, rl, re, p, h⟩
  unfold gsCons at h
  split at h
  · cases p with
    | cons a t =>
      refine ⟨_, _, rfl, S, l, env, st, _, rl, re, a, (Post.bind (rep := repF W ts σ) h).imp ?_⟩
      rintro σ1 H1 ⟨S1, l1, env1, st1, x1, r1, p1, h1⟩
      exact ⟨S1, l1, env1, st1, _, r1, p1.1, t.ext rl x1, h1.repI fun S l H b a z => ⟨z.1, p1.2.trans z.2⟩⟩
  · exact h.elim)
/-- (a, b, ..) = a tuple of that length -/
def gTupM (n : Nat) (g : GsM) : GM := fun u env st => match tupOf u with
  | some ds => if ds.length = n then g (ds.map U.d) env st else .bad
  | none => .bad
theorem jg_tup {es : List Expr} {k : Nat} {ts : List Nat} {g : GsM} {n : Nat} {pos : Pos} (hk : X.K = W.K) (hc : X.calm = true) (h : JGs W E X es ts g) (hn : (assignEach es X.env).length = n := by rfl) (hst : (assignEach es X.env).findIdx? (·.1) = none := by rfl) :
    JG W E X (.Tuple es k pos) ts (gTupM n g) := (pg_tup hc h hn hst).imp (by
  rintro v σ H Q ⟨S, l, env, st, u, rl, re, p, h⟩
  unfold gTupM at h
  split at h
  · rename_i ds e
    split at h
    · rename_i hl
      obtain ⟨a, vs, rfl, q, r⟩ := tupOf_rep p e
      exact ⟨a, vs, rfl, by rw [hk]; exact q, by rw [r.length]; exact hl, S, l, env, st, _, rl, re, r.us, h⟩
    · exact h.elim
  · exact h.elim)
/-- o[i] = .., o a list of the store -/
def gItem (mo mi : EM) : GM := fun u env st => (mo env st).bind fun o st1 => (mi env st1).bind fun i st2 => match o, i with
  | .loc n, .d (.int k) => match st2[n]? with
    | some (.lst us) => match ixN us.length k with
      | some j => .ok env (st2.set n (.lst (us.set j u)))
      | none => .bad
    | _ => .bad
  | _, _ => .bad
theorem jg_item {o i : Expr} {mo mi : EM} {pos : Pos} (ho : JE W E X o mo) (hi : JE W E X i mi)
    (ha : ∀ v, assign (.Subscript o i pos) X.env v = (do
      let ov ← holding [v] (eval o X.env)
      let iv ← holding [v, ov] (eval i X.env)
      standAt pos
      holding [v, ov, iv] (setItem ov iv v)
      release [v, ov, iv] []) := by intro _; rfl) : JG W E X (.Subscript o i pos) [] (gItem mo mi) := (pg_sub ho hi set_list ha).imp (by
  rintro v σ H Q ⟨S, l, env, st, u, rl, re, p, h⟩
  refine ⟨S, l, env, st, rl, re, (Post.bind (rep := repU W) h).imp ?_⟩
  rintro x H1 ⟨S1, l1, o', st1, x1, r1, p1, h1⟩
  refine ⟨S1, l1, env, st1, r1, re.ext rl x1, (Post.bind (rep := repU W) h1).imp ?_⟩
  rintro y H2 ⟨S2, l2, i', st2, x2, r2, p2, h2⟩
  have re2 := (re.ext rl x1).ext r1 x2
  have pu := (p.ext rl x1).ext r1 x2
  have p1 := p1.ext r1 x2
  split at h2
  · split at h2
    · rename_i us e
      split at h2
      · rename_i j ej
        obtain ⟨a, vs, ha, rfl, hv, r⟩ := loc_rep r2 p1 e
        cases p2
        refine ⟨a, vs, _, j, rfl, rfl, hv, by rw [r.length]; exact ej, ?_⟩
        exact h2 _ _ _ _ (Ext.write ha) (r2.write ha (c := .lst (us.set j u)) (RepUs.set (pu.ext r2 (Ext.write ha)) j (r.ext r2 (Ext.write ha)))) ⟨re2.ext r2 (Ext.write ha), Only.refl _ _⟩
      · exact h2.elim
    · exact h2.elim
  · exact h2.elim)

/-! ### statements -/
def sNil : SM := fun env st => .nx env st
def sSeq (a b : SM) : SM := fun env st => match a env st with
  | .nx env1 st1 => b env1 st1
  | r => r
theorem jss_nil : JSs W E X [] sNil := pss_nil.imp fun D σ H ⟨S, l, env, st, rl, re, h⟩ => h σ S l H (Ext.refl S l H) rl re
theorem seq_read {a b : SM} : ∀ D σ H, tS W E (sSeq a b) D σ H → tSeq (tS W E a) (tS W E b) D σ H := by
  rintro D σ H ⟨S, l, env, st, rl, re, h⟩
  refine ⟨S, l, env, st, rl, re, ?_⟩
  unfold sSeq at h
  split at h
  · rename_i env1 st1 e
    rw [e]
    exact fun σ1 S1 l1 H1 x1 r1 p1 => ⟨S1, l1, env1, st1, r1, p1, PostS.ext x1 h⟩
  · rename_i hn
    cases e : a env st with
    | nx env1 st1 => exact absurd e (hn env1 st1)
    | rt u st1 => rw [e] at h; exact h
    | bk u st1 => rw [e] at h; exact h
    | ct u st1 => rw [e] at h; exact h
    | exc u st1 => rw [e] at h; exact h
    | bad => rw [e] at h; exact h
theorem jss_cons {s : Stmt} {r : List Stmt} {a b : SM} (h1 : JS W E X s a) (h2 : JSs W E X r b) : JSs W E X (s :: r) (sSeq a b) := (pss_cons h1 h2).imp seq_read
theorem jss_one {s : Stmt} {a : SM} (h1 : JS W E X s a) : JSs W E X [s] a := pss_one h1
def sPass : SM := fun env st => .nx env st
def sBreak : SM := fun env st => .bk env st
def sCont : SM := fun env st => .ct env st
theorem js_pass {pos : Pos} : JS W E X (.Pass pos) sPass := ps_pass.imp fun D σ H ⟨S, l, env, st, rl, re, h⟩ => h σ S l H (Ext.refl S l H) rl re
theorem js_break {pos : Pos} : JS W E X (.Break pos) sBreak := ps_break.imp fun D σ H ⟨S, l, env, st, rl, re, h⟩ => h σ S l H (Ext.refl S l H) rl re
theorem js_continue {pos : Pos} : JS W E X (.Continue pos) sCont := ps_continue.imp fun D σ H ⟨S, l, env, st, rl, re, h⟩ => h σ S l H (Ext.refl S l H) rl re
/-- what an expression gives, then a statement's end -/
def R.andS {α : Type} : R α → (α → Store → RS) → RS
  | .ok a st, f => f a st
  | .exc x st, _ => .exc x st
  | .bad, _ => .bad
@[simp] theorem R.andS_ok {α : Type} (a : α) (st : Store) (f : α → Store → RS) : (R.ok a st).andS f = f a st := rfl
@[simp] theorem R.andS_exc {α : Type} (x : Exc) (st : Store) (f : α → Store → RS) : (R.exc x st : R α).andS f = .exc x st := rfl
@[simp] theorem R.andS_bad {α : Type} (f : α → Store → RS) : (R.bad : R α).andS f = .bad := rfl
theorem Post.andS {α β : Type} {rep : (Addr → Prop) → List Addr → Hp → β → α → Prop} {D : Ends} {r : R α} {f : α → Store → RS} (h : PostS W E S l H D (r.andS f)) :
    Post W rep E S l H (fun b H1 => ∃ S1 l1 a st1, Ext S l H S1 l1 H1 ∧ Rel W S1 l1 st1 H1 ∧ rep S1 l1 H1 b a ∧ PostS W E S1 l1 H1 D (f a st1)) r := by
  cases r with
  | ok a st' => exact fun b S2 l2 H2 y r2 p => ⟨S2, l2, a, st', y, r2, p, PostS.ext y h⟩
  | exc e st' => exact h
  | bad => exact h
def sExpr (m : EM) : SM := fun env st => (m env st).andS fun _ st1 => .nx env st1
def sRet (m : EM) : SM := fun env st => (m env st).andS fun u st1 => .rt u st1
def sRetN : SM := fun _ st => .rt (.d .non) st
def sIf (t : TM) (a b : SM) : SM := fun env st => (t env st).andS fun c st1 => if c = true then a env st1 else b env st1
def sAsg (m : EM) (g : GM) : SM := fun env st => (m env st).andS fun u st1 => (g u env st1).andS fun env1 st2 => .nx env1 st2
theorem js_expr {e : Expr} {m : EM} {pos : Pos} (he : JE W E X e m) (hs : swapsWith e none pos.line X.env = pure false := by rfl) : JS W E X (.Expr e pos) (sExpr m) := (ps_expr he hs).imp (by
  rintro D σ H ⟨S, l, env, st, rl, re, h⟩
  refine ⟨S, l, env, st, rl, re, (Post.andS (rep := repU W) h).imp ?_⟩
  rintro x H1 ⟨S1, l1, u, st1, x1, r1, p1, h1⟩
  exact h1 σ S1 l1 H1 (Ext.refl _ _ _) r1 (re.ext rl x1))
theorem js_ret {e : Expr} {m : EM} {pos : Pos} (he : JE W E X e m) : JS W E X (.Return (some e) pos) (sRet m) := (ps_ret he).imp (by
  rintro D σ H ⟨S, l, env, st, rl, re, h⟩
  refine ⟨S, l, env, st, rl, re, (Post.andS (rep := repU W) h).imp ?_⟩
  rintro x H1 ⟨S1, l1, u, st1, x1, r1, p1, h1⟩
  exact h1 x S1 l1 H1 (Ext.refl _ _ _) r1 p1)
theorem js_retN {pos : Pos} : JS W E X (.Return none pos) sRetN := ps_retN.imp fun D σ H ⟨S, l, env, st, rl, re, h⟩ => h .non S l H (Ext.refl S l H) rl .non
theorem js_if {c : Expr} {a b : List Stmt} {t : TM} {ma mb : SM} {pos : Pos} (hc : JT W E X c t) (ha : JSs W E X a ma) (hb : JSs W E X b mb) : JS W E X (.If c a b pos) (sIf t ma mb) := (ps_if hc ha hb).imp (by
  rintro D σ H ⟨S, l, env, st, rl, re, h⟩
  refine ⟨S, l, env, st, rl, re, (Post.andS (rep := repB) h).imp ?_⟩
  rintro x H1 ⟨S1, l1, u, st1, x1, r1, p1, h1⟩
  have p1 : x = u := p1
  subst p1
  cases x with
  | true => exact iteT ⟨S1, l1, env, st1, r1, re.ext rl x1, h1⟩
  | false => exact iteF ⟨S1, l1, env, st1, r1, re.ext rl x1, h1⟩)
theorem asg_read {m : EM} {ts : List Nat} {g : GM} : ∀ D σ H, tS W E (sAsg m g) D σ H → tAsg (tE W E m) (tG W E ts g) D σ H := by
  rintro D σ H ⟨S, l, env, st, rl, re, h⟩
  refine ⟨S, l, env, st, rl, re, (Post.andS (rep := repU W) h).imp ?_⟩
  rintro x H1 ⟨S1, l1, u, st1, x1, r1, p1, h1⟩
  refine ⟨S1, l1, env, st1, u, r1, re.ext rl x1, p1, (Post.andS (rep := repF W ts σ) h1).imp ?_⟩
  rintro σ2 H2 ⟨S2, l2, env2, st2, x2, r2, p2, h2⟩
  exact h2 σ2 S2 l2 H2 (Ext.refl _ _ _) r2 p2.1
theorem js_asg {tg e : Expr} {m : EM} {ts : List Nat} {g : GM} {pos : Pos} (he : JE W E X e m) (hg : JG W E X tg ts g) (hs : swapsWithSole [tg] e pos.line X.env = pure false := by rfl) (hw : swappedStores [tg] e X.env = pure none := by rfl)
    (h1 : (assignEach [tg] X.env).map (·.2) = [assign tg X.env] := by rfl) : JS W E X (.Assign [tg] e pos) (sAsg m g) := (ps_asg he hg hs hw h1).imp asg_read
/-- name = value -/
theorem js_set {i : Nat} {x : Str} {e : Expr} {m : EM} {pos pos' : Pos} (hN : X.N.Nodup) (hi : X.N[i]? = some x) (hx : Loc X.env.scope x) (he : JE W E X e m) (hs : swapsWith e (some (.Name x pos')) pos.line X.env = pure false := by rfl)
    (hf : X.fn x = true ∨ X.env.scope.names.lookup x = some .local := by first | exact .inl rfl | exact .inr rfl | assumption) : JS W E X (.Assign [.Name x pos'] e pos) (sAsg m (gVar i)) := (ps_set hN hi hx he hs hf).imp (by
  rintro D σ H ⟨S, l, env, st, rl, re, h⟩
  refine ⟨S, l, env, st, rl, re, (Post.andS (rep := repU W) h).imp ?_⟩
  rintro x H1 ⟨S1, l1, u, st1, x1, r1, p1, h1⟩
  exact h1 _ S1 l1 H1 (Ext.refl _ _ _) r1 ((re.ext rl x1).set i p1))
/-- a, b = e1, e2 with plain local names -/
def sPar (i j : Nat) (a b : EM) : SM := fun env st => (a env st).andS fun u st1 => (b env st1).andS fun v st2 => .nx ((env.set i (some u)).set j (some v)) st2
theorem js_par {i j : Nat} {x y : Str} {a b : Expr} {ma mb : EM} {px py pt pos : Pos} {kt k2 pt2} (hc : X.calm = true) (hN : X.N.Nodup) (hi : X.N[i]? = some x) (hj : X.N[j]? = some y) (hij : i ≠ j)
    (hx : X.env.scope.names.lookup x = some .local) (hy : X.env.scope.names.lookup y = some .local) (ha : JE W E X a ma) (hb : JE W E X b mb)
    (hw : swappedStores [.Tuple [.Name x px, .Name y py] kt pt] (.Tuple [a, b] k2 pt2) X.env = pure (some [x, y]))
    (hs : swapsWithSole [.Tuple [.Name x px, .Name y py] kt pt] (.Tuple [a, b] k2 pt2) pos.line X.env = pure false := by rfl)
    (s1 : starEach [a, b] X.env = (false, eval a X.env) :: starEach [b] X.env := by rfl) (s2 : starEach [b] X.env = (false, eval b X.env) :: starEach [] X.env := by rfl) :
    JS W E X (.Assign [.Tuple [.Name x px, .Name y py] kt pt] (.Tuple [a, b] k2 pt2) pos) (sPar i j ma mb) := (ps_par hc hN hi hj hij hx hy (pa_cons ha (pa_cons hb pa_nil s2) s1) hw hs).imp (by
  rintro D σ H ⟨S, l, env, st, rl, re, h⟩
  refine ⟨S, l, env, st, rl, re, (Post.andS (rep := repU W) h).imp ?_⟩
  rintro x H1 ⟨S1, l1, u, st1, x1, r1, p1, h1⟩
  refine ⟨S1, l1, env, st1, r1, re.ext rl x1, (Post.andS (rep := repU W) h1).imp ?_⟩
  rintro y H2 ⟨S2, l2, v, st2, x2, r2, p2, h2⟩
  refine ⟨_, _, rfl, ?_⟩
  exact h2 _ S2 l2 H2 (Ext.refl _ _ _) r2 ((((re.ext rl x1).ext r1 x2).set i (p1.ext r1 x2)).set j p2))
/-- name += value -/
def sAug (i : Nat) (f : U → U → Store → R U) (m : EM) : SM := fun env st => match env[i]? with
  | some (some u) => (m env st).andS fun v st1 => (f u v st1).andS fun w st2 => .nx (env.set i (some w)) st2
  | _ => .bad
theorem js_aug {i : Nat} {x : Str} {e : Expr} {m : EM} {op : Operator} {g : Int → Int → Int} {pos pos' : Pos} (hN : X.N.Nodup) (hi : X.N[i]? = some x) (hx : Loc X.env.scope x) (he : JE W E X e m) (ho : PIp X op (ipI g))
    (hf : X.fn x = true ∨ X.env.scope.names.lookup x = some .local := by first | exact .inl rfl | exact .inr rfl | assumption) : JS W E X (.AugAssign (.Name x pos') op e pos) (sAug i (fI0 fun i j => .int (g i j)) m) := (ps_aug hN hi hx he ho hf).imp (by
  rintro D σ H ⟨S, l, env, st, rl, re, h⟩
  unfold sAug at h
  split at h
  · rename_i u e
    obtain ⟨v, hσ, p⟩ := re.at_ i u e
    refine ⟨v, hσ, S, l, env, st, rl, re, (Post.andS (rep := repU W) h).imp ?_⟩
    rintro y H1 ⟨S1, l1, w, st1, x1, r1, p1, h1⟩
    have p := p.ext rl x1
    unfold fI0 at h1
    split at h1
    · cases p; cases p1
      refine ⟨_, _, rfl, rfl, ?_⟩
      exact h1 _ S1 l1 H1 (Ext.refl _ _ _) r1 ((re.ext rl x1).set _ (.int _))
    · exact h1.elim
  · exact h.elim)

/-! ### while -/
def FUEL : Nat := 10 ^ 40
def loopW (t : TM) (body : SM) : Nat → EnvD → Store → RS
  | 0, _, _ => .bad
  | k + 1, env, st => (t env st).andS fun c st1 => if c = true then (match body env st1 with
      | .nx e s => loopW t body k e s
      | .ct e s => loopW t body k e s
      | .bk e s => .nx e s
      | r => r) else .nx env st1
def sWhile (t : TM) (body : SM) : SM := fun env st => loopW t body FUEL env st
theorem js_while {c : Expr} {body : List Stmt} {t : TM} {m : SM} {pos : Pos} (hp : PassesOwn (model X.prog X.w) X.A X.env X.xe) (hc : JT W E X c t) (hb : JSs W E X body m) : JS W E X (.While c body [] pos) (sWhile t m) := (ps_while hp hc hb).imp (by
  rintro D σ H ⟨S, l, env, st, rl, re, h⟩
  refine ⟨fun k σ H => ∃ S l env st, Rel W S l st H ∧ RepE W S l H σ env ∧ PostS W E S l H D (loopW t m k env st), ⟨FUEL, S, l, env, st, rl, re, h⟩, ?_⟩
  clear h re rl st env l S
  rintro k σ H ⟨S, l, env, st, rl, re, h⟩
  cases k with
  | zero => exact h.elim
  | succ k =>
    refine ⟨S, l, env, st, rl, re, (Post.andS (rep := repB) h).imp ?_⟩
    rintro b H1 ⟨S1, l1, c, st1, x1, r1, p1, h1⟩
    have p1 : b = c := p1
    subst p1
    cases b with
    | false => exact iteF (h1 σ S1 l1 H1 (Ext.refl _ _ _) r1 (re.ext rl x1))
    | true =>
      rw [if_pos rfl] at h1
      refine iteT ⟨fun σ H => ∃ S l env st, Rel W S l st H ∧ RepE W S l H σ env ∧ PostS W E S l H D (loopW t m k env st), fun σ' H' h' => ⟨k, Nat.lt_succ_self k, h'⟩, S1, l1, env, st1, r1, re.ext rl x1, ?_⟩
      cases e : m env st1 with
      | nx e1 s1 => rw [e] at h1; exact fun σ2 S2 l2 H2 x2 r2 p2 => ⟨S2, l2, e1, s1, r2, p2, PostS.ext x2 h1⟩
      | ct e1 s1 => rw [e] at h1; exact fun σ2 S2 l2 H2 x2 r2 p2 => ⟨S2, l2, e1, s1, r2, p2, PostS.ext x2 h1⟩
      | bk e1 s1 => rw [e] at h1; exact h1
      | rt e1 s1 => rw [e] at h1; exact h1
      | exc e1 s1 => rw [e] at h1; exact h1
      | bad => rw [e] at h1; exact h1)
theorem loopW_more {t : TM} {body : SM} : ∀ {k j : Nat} {env : EnvD} {st : Store} {r : RS}, loopW t body k env st = r → r ≠ .bad → k ≤ j → loopW t body j env st = r
  | 0, _, _, _, _, h, n, _ => absurd h.symm n
  | k + 1, 0, _, _, _, _, _, hj => by omega
  | k + 1, j + 1, env, st, r, h, n, hj => by
    unfold loopW at h ⊢
    cases e : t env st with
    | bad => rw [e] at h; exact h
    | exc x s => rw [e] at h; exact h
    | ok c s =>
      rw [e] at h
      simp only [R.andS_ok] at h ⊢
      split
      · rename_i hc
        rw [if_pos hc] at h
        cases eb : body env s with
        | nx e1 s1 => rw [eb] at h; exact loopW_more h n (by omega)
        | ct e1 s1 => rw [eb] at h; exact loopW_more h n (by omega)
        | bk e1 s1 => rw [eb] at h; exact h
        | rt e1 s1 => rw [eb] at h; exact h
        | exc e1 s1 => rw [eb] at h; exact h
        | bad => rw [eb] at h; exact h
      · rename_i hc
        rw [if_neg hc] at h
        exact h
theorem sWhile_of {t : TM} {body : SM} {k : Nat} {env : EnvD} {st : Store} {r : RS} (h : loopW t body k env st = r) (n : r ≠ .bad) (hk : k ≤ FUEL) : sWhile t body env st = r := loopW_more h n hk

/-! ### what is walked -/
/-- the items at once; the cell that must stand as it is meanwhile -/
abbrev Src := Option (Nat × List U) × List U
abbrev IM := EnvD → Store → R Src
def guarded (g : Option (Nat × List U)) (_ : List U) (st : Store) : Prop := ∀ n us, g = some (n, us) → st[n]? = some (.lst us)
def SrcOk (W : Wd) (S : Addr → Prop) (l : List Addr) (H : Hp) (J : It) (s : Src) : Prop :=
  ∀ S' l' st' H', Ext S l H S' l' H' → Rel W S' l' st' H' → guarded s.1 s.2 st' → ∀ i, (s.2.length = i → J.stop i H') ∧
    ∀ u, s.2[i]? = some u → J.go i H' ∧ ∀ x H'', J.yld i H' x H'' → ∃ S'' l'', Ext S' l' H' S'' l'' H'' ∧ Rel W S'' l'' st' H'' ∧ RepU W S'' l'' H'' x u
theorem SrcOk.ext {J : It} {s : Src} (h : SrcOk W S l H J s) (x : Ext S l H S' l' H') : SrcOk W S' l' H' J s := fun S2 l2 st2 H2 y => h S2 l2 st2 H2 (x.trans y)
abbrev repI (W : Wd) : (Addr → Prop) → List Addr → Hp → It → Src → Prop := fun S l H J s => SrcOk W S l H J s
def tIt (W : Wd) (E : XK) (m : IM) : TI := fun σ H R => ∃ S l env st, Rel W S l st H ∧ RepE W S l H σ env ∧ Post W (repI W) E S l H R (m env st)
abbrev JI (W : Wd) (E : XK) (X : Cx) (tg iter : Expr) (m : IM) : Prop := PI X tg iter (tIt W E m)
theorem _root_.L2.PI.imp {X : Cx} {tg e : Expr} {t t' : TI} (h : PI X tg e t) (i : ∀ σ H Q, t' σ H Q → t σ H Q) : PI X tg e t' := ⟨fun pins s σ H Q I q => h.run pins s σ H Q I (i σ H Q q)⟩

open Classical in
noncomputable def loopF (s : Src) (g : GM) (body : SM) : List U → EnvD → Store → RS
  | [], env, st => if guarded s.1 s.2 st then .nx env st else .bad
  | u :: r, env, st => if guarded s.1 s.2 st then (g u env st).andS fun env1 st1 => (match body env1 st1 with
      | .nx e t => loopF s g body r e t
      | .ct e t => loopF s g body r e t
      | .bk e t => .nx e t
      | z => z) else .bad
noncomputable def sFor (m : IM) (g : GM) (body : SM) : SM := fun env st => (m env st).andS fun s st1 => loopF s g body s.2 env st1
theorem js_for {tg iter : Expr} {body : List Stmt} {mi : IM} {ts : List Nat} {g : GM} {m : SM} {pos : Pos} (hp : PassesOwn (model X.prog X.w) X.A X.env X.xe) (hc : X.calm = true) (hi : JI W E X tg iter mi) (hg : JG W E X tg ts g) (hb : JSs W E X body m)
    (hs : ∀ x, foldedSetIterable iter X.env x = pure x := by intro _; rfl) : JS W E X (.For tg iter body [] pos) (sFor mi g m) := (ps_for hp hc hi hg hb hs).imp (by
  rintro D σ H ⟨S, l, env, st, rl, re, h⟩
  refine ⟨S, l, env, st, rl, re, (Post.andS (rep := repI W) h).imp ?_⟩
  rintro J H1 ⟨S1, l1, s, st1, x1, r1, p1, h1⟩
  have re1 := re.ext rl x1
  clear h re rl x1 st
  refine ⟨fun i k σ H => k = s.2.length - i ∧ ∃ S l env st, Ext S1 l1 H1 S l H ∧ Rel W S l st H ∧ RepE W S l H σ env ∧ i ≤ s.2.length ∧ PostS W E S l H D (loopF s g m (s.2.drop i) env st), ⟨_, rfl, S1, l1, env, st1, Ext.refl _ _ _, r1, re1, Nat.zero_le _, h1⟩, ?_⟩
  clear h1 re1 r1 st1 env
  rintro i k σ H2 ⟨rfl, S2, l2, env, st, x2, r2, re2, hi, h2⟩
  by_cases hil : i < s.2.length
  · right
    have hd : s.2.drop i = s.2[i] :: s.2.drop (i + 1) := List.drop_eq_getElem_cons hil
    rw [hd] at h2
    unfold loopF at h2
    split at h2
    · rename_i hgd
      obtain ⟨_, hit⟩ := p1 S2 l2 st H2 x2 r2 hgd i
      obtain ⟨hgo, hy⟩ := hit s.2[i] (List.getElem?_eq_getElem hil)
      refine ⟨hgo, fun σ H => ∃ S l env st, Ext S1 l1 H1 S l H ∧ Rel W S l st H ∧ RepE W S l H σ env ∧ PostS W E S l H D (loopF s g m (s.2.drop (i + 1)) env st), fun σ' H' ⟨S, l, e, t, a1, a2, a3, a4⟩ => ⟨_, by omega, rfl, S, l, e, t, a1, a2, a3, hil, a4⟩, fun x H3 hyx => ?_⟩
      obtain ⟨S3, l3, x3, r3, p3⟩ := hy x H3 hyx
      refine ⟨S3, l3, env, st, _, r3, re2.ext r2 x3, p3, (Post.andS (rep := repF W ts σ) (PostS.ext x3 h2)).imp ?_⟩
      rintro σ4 H4 ⟨S4, l4, env4, st4, x4, r4, p4, h4⟩
      refine ⟨S4, l4, env4, st4, r4, p4.1, ?_⟩
      have x14 := (x2.trans x3).trans x4
      cases e : m env4 st4 with
      | nx e1 s1 => rw [e] at h4; exact fun σ5 S5 l5 H5 x5 r5 p5 => ⟨S5, l5, e1, s1, x14.trans x5, r5, p5, PostS.ext x5 h4⟩
      | ct e1 s1 => rw [e] at h4; exact fun σ5 S5 l5 H5 x5 r5 p5 => ⟨S5, l5, e1, s1, x14.trans x5, r5, p5, PostS.ext x5 h4⟩
      | bk e1 s1 => rw [e] at h4; exact h4
      | rt e1 s1 => rw [e] at h4; exact h4
      | exc e1 s1 => rw [e] at h4; exact h4
      | bad => rw [e] at h4; exact h4
    · exact h2.elim
  · left
    have hie : s.2.length = i := by omega
    rw [List.drop_of_length_le (by omega)] at h2
    unfold loopF at h2
    split at h2
    · rename_i hgd
      exact ⟨(p1 S2 l2 st H2 x2 r2 hgd i).1 hie, h2 σ S2 l2 H2 (Ext.refl _ _ _) r2 re2⟩
    · exact h2.elim)

/-! sources -/
/-- a list or a tuple -/
def iSeq (m : EM) : IM := fun env st => (m env st).bind fun u st1 => match u with
  | .d (.tup ds) => .ok (none, ds.map U.d) st1
  | .d (.lst ds) => .ok (none, ds.map U.d) st1
  | .d (.frz ds) => .ok (none, ds.map U.d) st1
  | .loc n => match st1[n]? with
    | some (.lst us) => .ok (some (n, us), us) st1
    | _ => .bad
  | _ => .bad
/-- range(lo, lo + n) -/
def rangeU (lo : Int) (n : Nat) : List U := (List.range n).map fun i => U.d (.int (lo + (i : Nat)))
def iRange1 (m : EM) : IM := fun env st => (m env st).bind fun u st1 => match u with
  | .d (.int j) => if -(2 ^ 62) ≤ j ∧ j < 2 ^ 62 then .ok (none, rangeU 0 j.toNat) st1 else .bad
  | _ => .bad
def iRange2 (a b : EM) : IM := fun env st => (a env st).bind fun u st1 => (b env st1).bind fun v st2 => match u, v with
  | .d (.int i), .d (.int j) => if (-(2 ^ 62) ≤ i ∧ i < 2 ^ 62) ∧ -(2 ^ 62) ≤ j ∧ j < 2 ^ 62 then .ok (none, rangeU i (j - i).toNat) st2 else .bad
  | _, _ => .bad
theorem src_range {lo : Int} {n : Nat} : SrcOk W S l H (Itr lo n) (none, rangeU lo n) := by
  intro S' l' st' H' x r _ i
  refine ⟨fun h => ?_, fun u h => ?_⟩
  · show n ≤ i
    rw [← h]
    simp [rangeU]
  · unfold rangeU at h
    simp only [List.getElem?_map] at h
    cases e : (List.range n)[i]? with
    | none => rw [e] at h; cases h
    | some j =>
      rw [e] at h
      cases h
      have hi : i < n := by have := (List.getElem?_eq_some_iff.mp e).1; simpa using this
      have hj : j = i := by have := (List.getElem?_eq_some_iff.mp e).2; simpa using this.symm
      subst hj
      refine ⟨hi, ?_⟩
      rintro x H'' ⟨rfl, rfl⟩
      exact ⟨S', l', Ext.refl _ _ _, r, .int _⟩
end
end Ct
set_option Elab.async false
set_option maxRecDepth 100000
set_option maxHeartbeats 4000000
/-! What is walked; calls of the text's own defs; attributes; built-ins. -/
namespace Ct
open PySem PySem.Spec PyProof.Rows L2
section
variable {W : Wd} {E : XK} {X : Cx} {S S' : Addr → Prop} {l l' : List Addr} {H H' : Hp} {st st' : Store} {tg : Expr}

/-! ### a list or a tuple, walked -/
def iBoth (K : PySem.W.Frag) (te : TE) : TI := fun σ H R => te σ H fun x H1 => ∃ a, x = .ref a ∧ (((∃ xs, SqL K H1 a xs) ∧ R (Itl K a) H1) ∨ ((∃ xs, SqT K H1 a xs) ∧ R (Itt K a) H1))
theorem pi_both {e : Expr} {te : TE} (he : PE X e te) : PI X tg e (iBoth X.K te) := by
  refine ⟨fun ps s σ H R I h => thn (he.run ps s σ H _ I h) fun v t ⟨x, G, J, rv, a, ex, q⟩ => ?_⟩
  subst ex
  cases rv
  have fp : ∀ b ∈ [t.heap.objs.size], FpOk X ps G b := fun b hb => by
    obtain rfl : b = t.heap.objs.size := List.mem_singleton.mp hb
    exact J.fpOk (Nat.le_refl _) (J.hok.fresh (Nat.le_refl _))
  have kp : ∀ (o : Obj), Inv X ps σ G { t with heap := t.heap.push o, toks := t.toks } := fun o => J.kept fun b ob z => Heap.get?_push_of_some _ z
  rcases q with ⟨⟨xs, hx⟩, q⟩ | ⟨⟨xs, hx⟩, q⟩
  · obtain ⟨its, _, pl, _⟩ := J.list hx
    exact wpAny_pyIter_list pl.isList ⟨_, _, _, _, G, rfl, kp _, turn_list a _, ⟨_, Heap.get?_push_size _ rfl, rfl, rfl⟩, fp, q⟩
  · obtain ⟨its, _, pl, _⟩ := J.tuple hx
    exact wpAny_pyIter_tuple (show t.heap.IsTuple a its.toArray from pl) ⟨_, _, _, _, G, rfl, kp _, turn_tuple a _, ⟨_, Heap.get?_push_size _ rfl, rfl, rfl⟩, fp, q⟩
theorem src_list {a : Addr} {us : List U} {g : Option (Nat × List U)} (h : ∀ S' l' st' H', Ext S l H S' l' H' → Rel W S' l' st' H' → guarded g us st' → ∃ vs, SqL W.K H' a vs ∧ RepUs W S' l' H' vs us) : SrcOk W S l H (Itl W.K a) (g, us) := by
  intro S' l' st' H' x r hg i
  obtain ⟨vs, q, p⟩ := h S' l' st' H' x r hg
  refine ⟨fun e => ⟨vs, q, by rw [p.length]; exact Nat.le_of_eq e⟩, fun u e => ?_⟩
  obtain ⟨v, h1, h2⟩ := p.get e
  refine ⟨⟨vs, v, q, h1⟩, ?_⟩
  rintro y H'' ⟨rfl, hy⟩
  have := hy vs q
  rw [h1] at this
  cases this
  exact ⟨S', l', Ext.refl _ _ _, r, h2⟩
theorem src_tup {a : Addr} {vs : List V} {ds : List D} (rl : Rel W S l st H) (q : SqT W.K H a vs) (p : RepL W S H vs ds) : SrcOk W S l H (Itt W.K a) (none, ds.map U.d) := by
  intro S' l' st' H' x r hg i
  have q' := sqT_ext rl x q
  have p' := (p.ext rl x).us (l := l')
  refine ⟨fun e => ⟨vs, q', by rw [p'.length]; exact Nat.le_of_eq e⟩, fun u e => ?_⟩
  obtain ⟨v, h1, h2⟩ := p'.get e
  refine ⟨⟨vs, v, q', h1⟩, ?_⟩
  rintro y H'' ⟨rfl, hy⟩
  have := hy vs q'
  rw [h1] at this
  cases this
  exact ⟨S', l', Ext.refl _ _ _, r, h2⟩
theorem ji_seq {e : Expr} {m : EM} (hk : X.K = W.K) (he : JE W E X e m) : JI W E X tg e (iSeq m) := (pi_both he).imp (by
  rintro σ H R ⟨S, l, env, st, rl, re, h⟩
  refine ⟨S, l, env, st, rl, re, (Post.bind (rep := repU W) h).imp ?_⟩
  rintro x H1 ⟨S1, l1, u, st1, x1, r1, p1, h1⟩
  rw [hk]
  split at h1
  · cases p1 with
    | @tup a vs ds q r => exact ⟨a, rfl, .inr ⟨⟨vs, q⟩, h1.ok r1 (src_tup r1 q r)⟩⟩
  · cases p1 with
    | @lst a vs ds q n r =>
      refine ⟨a, rfl, .inl ⟨⟨vs, .inl (.inl q)⟩, h1.ok r1 (src_list fun S' l' st' H' x r' hg => ⟨vs, .inl (.inl ?_), (RepL.ext r1 x r).us⟩)⟩⟩
      exact x.keep _ _ (fun z => n (r1.sub _ z)) q (fun ps z => by cases z)
  · cases p1 with
    | @frz a vs ds q r =>
      exact ⟨a, rfl, .inl ⟨⟨vs, q.sq⟩, h1.ok r1 (src_list fun S' l' st' H' x r' hg => ⟨vs, (frL_ext r1 x q).sq, (RepL.ext r1 x r).us⟩)⟩⟩
  · split at h1
    · rename_i us e
      obtain ⟨a, vs, ha, rfl, hv, r⟩ := loc_rep r1 p1 e
      refine ⟨a, rfl, .inl ⟨⟨vs, .inl (.inl hv)⟩, h1.ok r1 (src_list fun S' l' st' H' x r' hg => ?_)⟩⟩
      obtain ⟨b, o, h2, h3, h4⟩ := r'.cell _ _ (hg _ _ rfl)
      obtain ⟨r2, e2, _⟩ := x.pre
      rw [e2, List.getElem?_append_left (List.getElem?_eq_some_iff.mp ha).1, ha] at h2
      cases h2
      cases o <;> first | exact h4.elim | exact ⟨_, .inl (.inl h3), h4⟩
    · exact h1.elim
  · exact h1.elim)
theorem ji_range1 {a : Expr} {m : EM} {p pos : Pos} (hg : Gl X "range") (hm : X.mg "range" = none) (ha : JE W E X a m) (hs : starEach [a] X.env = [(false, eval a X.env)] := by rfl) (hs2 : starEach [a] X.env = (false, eval a X.env) :: starEach [] X.env := by rfl) : JI W E X tg (.Call (.Name "range" p) [a] [] pos) (iRange1 m) := (pi_range1 hg hm (pa_cons ha pa_nil hs2) hs).imp (by
  rintro σ H R ⟨S, l, env, st, rl, re, h⟩
  refine ⟨S, l, env, st, rl, re, (Post.bind (rep := repU W) h).imp ?_⟩
  rintro x H1 ⟨S1, l1, u, st1, x1, r1, p1, h1⟩
  split at h1
  · split at h1
    · rename_i hc
      cases p1
      exact ⟨_, rfl, hc.1, hc.2, h1.ok r1 src_range⟩
    · exact h1.elim
  · exact h1.elim)
theorem ji_range2 {a b : Expr} {ma mb : EM} {p pos : Pos} (hg : Gl X "range") (hm : X.mg "range" = none) (ha : JE W E X a ma) (hb : JE W E X b mb) (hs : starEach [a, b] X.env = [(false, eval a X.env), (false, eval b X.env)] := by rfl)
    (hs2 : starEach [a, b] X.env = (false, eval a X.env) :: starEach [b] X.env := by rfl) (hs3 : starEach [b] X.env = (false, eval b X.env) :: starEach [] X.env := by rfl) : JI W E X tg (.Call (.Name "range" p) [a, b] [] pos) (iRange2 ma mb) := (pi_range2 hg hm (pa_cons ha (pa_cons hb pa_nil hs3) hs2) hs hs3).imp (by
  rintro σ H R ⟨S, l, env, st, rl, re, h⟩
  refine ⟨S, l, env, st, rl, re, (Post.bind (rep := repU W) h).imp ?_⟩
  rintro x H1 ⟨S1, l1, u, st1, x1, r1, p1, h1⟩
  refine ⟨S1, l1, env, st1, r1, re.ext rl x1, (Post.bind (rep := repU W) h1).imp ?_⟩
  rintro y H2 ⟨S2, l2, v, st2, x2, r2, p2, h2⟩
  have p1 := p1.ext r1 x2
  split at h2
  · split at h2
    · rename_i hc
      cases p1; cases p2
      exact ⟨_, _, rfl, ⟨hc.1.1, hc.1.2, hc.2.1, hc.2.2⟩, h2.ok r2 src_range⟩
    · exact h2.elim
  · exact h2.elim)

/-! ### freezing: what a call leaves in places of its own, as data -/
def frzUs (f : U → Option D) : List U → Option (List D)
  | [] => some []
  | u :: r => match f u, frzUs f r with
    | some x, some xs => some (x :: xs)
    | _, _ => none
def frzU (n0 : Nat) (st : Store) : Nat → U → Option D
  | _, .d x => some x
  | 0, .loc _ => none
  | k + 1, .loc n => if n < n0 then none else match st[n]? with
    | some (.lst us) => (frzUs (frzU n0 st k) us).map D.lst
    | some (.ins c fs) => if fs.map (·.1) = flds c then (frzUs (frzU n0 st k) (fs.map (·.2))).map (D.obj c) else none
    | _ => none
theorem frzUs_rep {f : U → Option D} (h : ∀ v u d, RepU W S l H v u → f u = some d → RepD W S' H v d) : ∀ {vs : List V} {us : List U} {ds : List D}, RepUs W S l H vs us → frzUs f us = some ds → RepL W S' H vs ds
  | _, _, ds, .nil, e => by cases e; exact .nil
  | _, _, ds, .cons a t, e => by
    unfold frzUs at e
    split at e
    · rename_i x xs e1 e2
      cases e
      exact .cons (h _ _ _ a e1) (frzUs_rep h t e2)
    · cases e
theorem zip_map_fst_snd {α β : Type} : ∀ fs : List (α × β), fs = (fs.map (·.1)).zip (fs.map (·.2))
  | [] => rfl
  | (a, b) :: r => by
    rw [List.map_cons, List.map_cons, List.zip_cons_cons, ← zip_map_fst_snd r]
/-- S: the places of the caller; S': with the callee's own -/
theorem frzU_rep {n0 : Nat} (rl : Rel W S' l st H) (hs : ∀ a, S a → S' a) (hn : ∀ n a, n0 ≤ n → l[n]? = some a → ¬ S a) : ∀ (k : Nat) (v : V) (u : U) (d : D), RepU W S' l H v u → frzU n0 st k u = some d → RepD W S H v d
  | _, v, .d x, d, r, e => by
    have e : some x = some d := by
      rename_i k
      cases k <;> exact e
    cases e
    exact RepD.less hs r
  | 0, v, .loc n, d, r, e => by cases e
  | k + 1, v, .loc n, d, r, e => by
    unfold frzU at e
    split at e
    · cases e
    · rename_i hlt
      split at e
      · rename_i us h1
        obtain ⟨a, ha, rfl⟩ := r
        obtain ⟨b, o, h2, h3, h4⟩ := rl.cell n _ h1
        rw [ha] at h2; cases h2
        cases q : frzUs (frzU n0 st k) us with
        | none => rw [q] at e; cases e
        | some ds =>
          rw [q] at e; cases e
          cases o <;> first | exact h4.elim | exact .lst h3 (hn n _ (by omega) ha) (frzUs_rep (frzU_rep rl hs hn k) h4 q)
      · rename_i c fs h1
        split at e
        · rename_i hf
          obtain ⟨a, ha, rfl⟩ := r
          obtain ⟨b, o, h2, h3, h4⟩ := rl.cell n _ h1
          rw [ha] at h2; cases h2
          cases q : frzUs (frzU n0 st k) (fs.map (·.2)) with
          | none => rw [q] at e; cases e
          | some ds =>
            rw [q] at e; cases e
            cases o <;> first | exact h4.elim | skip
            obtain ⟨rfl, h5, h6⟩ := h4
            rename_i dx gs
            have hg : gs.map (·.1) = flds c := by rw [h5]; exact hf
            refine .obj (vs := gs.map (·.2)) h3 (hn n _ (by omega) ha) ?_ ?_ (frzUs_rep (frzU_rep rl hs hn k) h6 q)
            · rw [← hg]; exact zip_map_fst_snd gs
            · rw [← hg]; simp
        · cases e
      · cases e

/-! ### a def's promise by its function -/
def spF (W : Wd) (n : Nat) (F : FM) : Sp := fun vs H Q E => vs.length = n ∧ ∃ S l us st, Rel W S l st H ∧ RepUs W S l H vs us ∧ Post W (repU W) E S l H Q (F us st)
/-- the body of a def, from its arguments -/
def runB (n : Nat) (body : SM) : FM := fun us st => match body (us.map some ++ List.replicate (n - us.length) none) st with
  | .nx _ st1 => .ok (.d .non) st1
  | .rt u st1 => .ok u st1
  | .exc x st1 => .exc x st1
  | _ => .bad
theorem start_rep {N : List Str} {vs : List V} {us : List U} (r : RepUs W S l H vs us) (h : vs.length ≤ N.length) : RepE W S l H (L2.start N vs) (us.map some ++ List.replicate (N.length - us.length) none) := by
  have hl := r.length
  refine ⟨by simp [L2.start, hl], fun i u e => ?_⟩
  by_cases hi : i < us.length
  · rw [List.getElem?_append_left (by simpa using hi), List.getElem?_map] at e
    cases q : us[i]? with
    | none => rw [q] at e; cases e
    | some w =>
      rw [q] at e
      cases e
      obtain ⟨v, h1, h2⟩ := r.get q
      refine ⟨v, ?_, h2⟩
      unfold L2.start
      rw [List.getElem?_append_left (by simp [hl]; exact hi), List.getElem?_map, h1]
      rfl
  · rw [List.getElem?_append_right (by simpa using hi)] at e
    rw [List.getElem?_replicate] at e
    split at e <;> cases e
theorem body_read {N : List Str} {vs : List V} {Q : VK} {n : Nat} {m : SM} (h : spF W n (runB N.length m) vs H Q E) (hn : n ≤ N.length) : tS W E m { nx := fun _ H' => Q .non H', rt := Q } (L2.start N vs) H := by
  obtain ⟨hl, S, l, us, st, rl, r, h⟩ := h
  refine ⟨S, l, _, st, rl, start_rep r (by omega), ?_⟩
  unfold runB at h
  cases e : m (us.map some ++ List.replicate (N.length - us.length) none) st with
  | nx e1 s1 => rw [e] at h; exact fun σ1 S1 l1 H1 x1 r1 p1 => h _ S1 l1 H1 x1 r1 .non
  | rt u1 s1 => rw [e] at h; exact fun v S1 l1 H1 x1 r1 p1 => h _ S1 l1 H1 x1 r1 p1
  | exc u1 s1 => rw [e] at h; exact h
  | bk e1 s1 => rw [e] at h; exact h.elim
  | ct e1 s1 => rw [e] at h; exact h.elim
  | bad => rw [e] at h; exact h.elim
end
section
variable {W : Wd} {P : Program} {w : World} {mg : Str → Option Value} {base : Heap}
/-- THE RULE for a def -/
theorem fn_ok {x qual : Str} {s : Stmt} {f : Addr} {fd : FuncData} {N ps : List Str} {k : Nat} {m : SM} (F : Fun W.K x qual s f fd) (Sc : FnScope N ps (defScope s))
    (hb : ∀ (cdv : Value) (A : Around) (outer : List Env) (s' : Shared) (H : Hp) (E : XK), Room k (A.deeper (envOfC qual (defScope s) s'.heap.objs.size f cdv)) → JSs W E (cxOf (L2.CX P w) P w W.K mg base N qual (defScope s) f cdv A outer s' H E) (defBody s) m) :
    FnOk P w W.K mg base (L2.CX P w) (k + 1) f fd ps (spF W ps.length (runB N.length m)) := by
  have hpl : ps.length ≤ N.length := by have := congrArg List.length Sc.pre; rw [List.length_take] at this; omega
  exact F.okX Sc (fun vs H Q E h => h.1) fun cdv A outer s' H vs Q E hr h => ⟨_, hb cdv A outer s' H E hr, body_read h hpl⟩
end
end Ct
set_option Elab.async false
set_option maxRecDepth 100000
set_option maxHeartbeats 4000000
/-! Calls of the text's own defs, classes and methods. -/
namespace Ct
open PySem PySem.Spec PyProof.Rows L2
section
variable {W : Wd} {E : XK} {X : Cx} {S S' S2 : Addr → Prop} {l l' l2 : List Addr} {H H' H2 : Hp} {st st' st2 : Store}

/-! ### dropping what a callee made -/
theorem ext_drop {r : List Addr} (x : Ext S r H S' l' H') (hr : ∀ a ∈ r, a ∈ l) : Ext S l H S l H' :=
  ⟨⟨[], by simp, by simp⟩, fun _ h => h, fun _ h => .inl h, fun a o h1 h2 h3 => x.keep a o (fun z => h1 (hr a z)) h2 h3, x.dom⟩
theorem Rel.none_of (h : Rel W S l st H) : Rel W S [] [] H := ⟨rfl, List.nodup_nil, by simp, h.dom, fun n c e => by simp at e, h.tabs⟩
theorem rel_drop (h : Rel W S l st H) (x : Ext S [] H S' l' H') (h' : Rel W S' l' st' H') : Rel W S l st H' := by
  have x2 : Ext S l H S l H' := ext_drop x (by simp)
  refine ⟨h.len, h.nd, h.sub, fun a z => x2.dom a (h.dom a z), fun n c e => ?_, h'.tabs⟩
  obtain ⟨a, o, h1, h2, h3⟩ := h.cell n c e
  exact ⟨a, o, h1, x.keep a o (by simp) h2 (fun ps z => by subst z; exact h3.kind), h3.ext h x2⟩
theorem fresh_not (h : Rel W S l st H) (x : Ext S l2 H S' l' H') {n : Nat} {a : Addr} (hn : l2.length ≤ n) (e : l'[n]? = some a) : ¬ S a := by
  obtain ⟨r, e1, f⟩ := x.pre
  rw [e1, List.getElem?_append_right hn] at e
  exact h.free (f a (List.mem_of_getElem? e))
theorem RepX.less (hs : ∀ a, S a → S' a) {c : Value} {d : Option Addr} {e : Exc} (r : RepX W S' H c d e) : RepX W S H c d e := by
  obtain ⟨h1, a, v, h2, h3, h4⟩ := r
  exact ⟨h1, a, v, h2, h3, RepD.less hs h4⟩

/-! ### f(..), all arguments data -/
/-- what comes back, as data; the caller's store as it stood -/
def backP (r : R U) (st : Store) : R U := match r with
  | .ok u st2 => match frzU 0 st2 8 u with
    | some d => .ok (.d d) st
    | none => .bad
  | .exc x _ => .exc x st
  | .bad => .bad
theorem backP_read {r : R U} {Q : VK} (rl : Rel W S l st H) (h : Post W (repU W) E S l H Q (backP r st)) : Post W (repU W) E S [] H Q r := by
  cases r with
  | ok u st2 =>
    intro v S' l' H' x r' p
    unfold backP at h
    simp only at h
    split at h
    · rename_i d e
      exact h v S l H' (ext_drop x (by simp)) (rel_drop rl x r') (frzU_rep r' x.s1 (fun n a hn e => fresh_not rl x (Nat.zero_le _) e) 8 v u d p e)
    · exact h.elim
  | exc e st2 =>
    intro c d S' l' H' x r' p
    exact h c d S l H' (ext_drop x (by simp)) (rel_drop rl x r') (p.less x.s1)
  | bad => exact h
def mCallP (n : Nat) (F : FM) (ms : AM) (dds : List D) : EM := fun env st => (ms env st).bind fun us st1 => match dsOf us with
  | some ds => if (ds ++ dds).length = n then backP (F ((ds ++ dds).map U.d) []) st1 else .bad
  | none => .bad
theorem callP_read {n : Nat} {F : FM} {ms : AM} {dds : List D} {dvs : List V} (hd : ∀ S H, RepL W S H dvs dds) : ∀ σ H Q, tE W E (mCallP n F ms dds) σ H Q → tCall (spF W n F) dvs E (tA W E ms) σ H Q := by
  rintro σ H Q ⟨S, l, env, st, rl, re, h⟩
  refine ⟨S, l, env, st, rl, re, (Post.bind (rep := repUs W) h).imp ?_⟩
  rintro vs H1 ⟨S1, l1, us, st1, x1, r1, p1, h1⟩
  split at h1
  · rename_i ds e
    split at h1
    · rename_i hl
      rw [dsOf_eq e] at p1
      have q : RepL W S1 H1 (vs ++ dvs) (ds ++ dds) := p1.ds.append (hd _ _)
      exact ⟨by rw [q.length]; exact hl, S1, [], _, [], r1.none_of, q.us, backP_read r1 h1⟩
    · exact h1.elim
  · exact h1.elim
abbrev TakesE (X : Cx) (E : XK) : Prop := Takes X (fun c d _ H => E c d H)
theorem passE (tk : TakesE X E) : Passes (L2.CX X.prog X.w) X E := passes_call tk fun _ _ _ _ h => h
section
variable {k : Nat} {f : Addr} {fd : FuncData} {ps : List Str} {dvs : List V} {ds : List Value} {dds : List D} {x : Str} {p pos : Pos} {e : Expr} {es : List Expr} {F : FM} {ms : AM} {n : Nat}
theorem je_callP (tk : TakesE X E) (G : FnOk X.prog X.w X.K X.mg X.base (L2.CX X.prog X.w) k f fd ps (spF W n F)) (hr : Room k X.A) (hg : Gl X x) (hm : X.mg x = some (.ref f)) (hk : PySem.W.keepIn X.K (.ref f) = true) (hb : Binds X.K fd ps ds) (hd : Vals dvs ds)
    (hdd : ∀ S H, RepL W S H dvs dds) (ha : JA W E X (e :: es) ms) (hdb : (x == ("__debug__" : Str)) = false := by decide) (he : starEach (e :: es) X.env = (false, eval e X.env) :: starEach es X.env := by rfl) (hpl : (backTo pos (starEach es X.env)).any (·.1) = false := by rfl) :
    JE W E X (.Call (.Name x p) (e :: es) [] pos) (mCallP n F ms dds) := (pe_call G hr hg hm hk hb hd (passE tk) ha hdb he hpl).imp (callP_read hdd)
end

/-! ### f(row, ..): the first argument a list of data in the store, that the callee may turn -/
def backR (r : R U) (n : Nat) (st : Store) : R U := match r with
  | .ok u (.lst us :: j) => match dsOf us, frzU 1 (.lst us :: j) 8 u with
    | some _, some d => .ok (.d d) (st.set n (.lst us))
    | _, _ => .bad
  | .exc x (.lst us :: j) => match dsOf us with
    | some _ => .exc x (st.set n (.lst us))
    | none => .bad
  | _ => .bad
theorem rel_row (h : Rel W S l st H) {n : Nat} {a : Addr} {us : List U} (ha : l[n]? = some a) (ds : List D) (e : st[n]? = some (.lst us)) (hu : us = ds.map U.d) : Rel W S [a] [.lst us] H := by
  have am : a ∈ l := List.mem_of_getElem? ha
  refine ⟨rfl, by simp, fun b hb => ?_, h.dom, fun m c q => ?_, h.tabs⟩
  · simp at hb; subst hb; exact h.sub _ am
  · cases m with
    | succ m => simp at q
    | zero =>
      simp at q
      subst q
      obtain ⟨b, o, h1, h2, h3⟩ := h.cell n _ e
      rw [ha] at h1; cases h1
      refine ⟨a, o, rfl, h2, ?_⟩
      cases o <;> first | exact h3.elim | skip
      show RepUs W S [a] H _ us
      have h3 : RepUs W S l H _ us := h3
      rw [hu] at h3 ⊢
      exact h3.ds.us
theorem rel_back (h : Rel W S l st H) {n : Nat} {a : Addr} {us : List U} {j : Store} (ha : l[n]? = some a) (x : Ext S [a] H S' l' H') (h' : Rel W S' l' (.lst us :: j) H') {ds : List D} (hu : us = ds.map U.d) : Ext S l H S l H' ∧ Rel W S l (st.set n (.lst us)) H' := by
  have am : a ∈ l := List.mem_of_getElem? ha
  have x2 : Ext S l H S l H' := ext_drop x (fun b hb => by simp at hb; subst hb; exact am)
  refine ⟨x2, by simp [h.len], h.nd, h.sub, fun b z => x2.dom b (h.dom b z), fun m c q => ?_, h'.tabs⟩
  by_cases hm : n = m
  · subst hm
    have hn : n < st.length := by rw [← h.len]; exact (List.getElem?_eq_some_iff.mp ha).1
    rw [List.getElem?_set_self hn] at q
    cases q
    obtain ⟨b, o, h1, h2, h3⟩ := h'.cell 0 _ rfl
    obtain ⟨r, e1, _⟩ := x.pre
    rw [e1] at h1
    have : b = a := by simpa using h1.symm
    subst this
    refine ⟨b, o, ha, h2, ?_⟩
    cases o <;> first | exact h3.elim | skip
    show RepUs W S l H' _ us
    have h3 : RepUs W S' l' H' _ us := h3
    rw [hu] at h3 ⊢
    exact (RepL.less x.s1 h3.ds).us
  · rw [List.getElem?_set_ne hm] at q
    obtain ⟨b, o, h1, h2, h3⟩ := h.cell m c q
    have nb : b ≠ a := fun z => by
      subst z
      obtain ⟨h4, e4⟩ := List.getElem?_eq_some_iff.mp ha
      obtain ⟨h5, e5⟩ := List.getElem?_eq_some_iff.mp h1
      exact hm ((List.getElem_inj h.nd).mp (e4.trans e5.symm))
    exact ⟨b, o, h1, x.keep b o (by simpa using nb) h2 (fun ps z => by subst z; exact h3.kind), h3.ext h x2⟩
theorem backR_read {r : R U} {Q : VK} {n : Nat} {a : Addr} (rl : Rel W S l st H) (ha : l[n]? = some a) (h : Post W (repU W) E S l H Q (backR r n st)) : Post W (repU W) E S [a] H Q r := by
  unfold backR at h
  split at h
  · rename_i u us j
    split at h
    · rename_i ds d e1 e2
      intro v S' l' H' x r' p
      obtain ⟨x2, r2⟩ := rel_back rl ha x r' (dsOf_eq e1)
      exact h v S l H' x2 r2 (frzU_rep r' x.s1 (fun n a hn e => fresh_not rl x hn e) 8 v u d p e2)
    · exact h.elim
  · rename_i e us j
    split at h
    · rename_i ds e1
      intro c d S' l' H' x r' p
      obtain ⟨x2, r2⟩ := rel_back rl ha x r' (dsOf_eq e1)
      exact h c d S l H' x2 r2 (p.less x.s1)
    · exact h.elim
  · exact h.elim
def mCallR (n : Nat) (F : FM) (ms : AM) (dds : List D) : EM := fun env st => (ms env st).bind fun us st1 => match us with
  | .loc i :: rest => match dsOf rest, st1[i]? with
    | some ds, some (.lst cs) => match dsOf cs with
      | some _ => if (ds ++ dds).length + 1 = n then backR (F (.loc 0 :: (ds ++ dds).map U.d) [.lst cs]) i st1 else .bad
      | none => .bad
    | _, _ => .bad
  | _ => .bad
theorem callR_read {n : Nat} {F : FM} {ms : AM} {dds : List D} {dvs : List V} (hd : ∀ S H, RepL W S H dvs dds) : ∀ σ H Q, tE W E (mCallR n F ms dds) σ H Q → tCall (spF W n F) dvs E (tA W E ms) σ H Q := by
  rintro σ H Q ⟨S, l, env, st, rl, re, h⟩
  refine ⟨S, l, env, st, rl, re, (Post.bind (rep := repUs W) h).imp ?_⟩
  rintro vs H1 ⟨S1, l1, us, st1, x1, r1, p1, h1⟩
  split at h1
  · rename_i i rest
    split at h1
    · rename_i ds cs e1 e2
      split at h1
      · rename_i cds e3
        split at h1
        · rename_i hl
          cases p1 with
          | cons pa pt =>
            obtain ⟨a, ha, rfl⟩ := pa
            rw [dsOf_eq e1] at pt
            have q : RepL W S1 H1 _ (ds ++ dds) := pt.ds.append (hd _ _)
            refine ⟨?_, S1, [a], _, [.lst cs], rel_row r1 ha cds e2 (dsOf_eq e3), .cons (show RepU W S1 [a] H1 (.ref a) (.loc 0) from ⟨a, rfl, rfl⟩) q.us, backR_read r1 ha h1⟩
            rw [← hl, ← q.length]; rfl
        · exact h1.elim
      · exact h1.elim
    · exact h1.elim
  · exact h1.elim
section
variable {k : Nat} {f : Addr} {fd : FuncData} {ps : List Str} {dvs : List V} {ds : List Value} {dds : List D} {x : Str} {p pos : Pos} {e : Expr} {es : List Expr} {F : FM} {ms : AM} {n : Nat}
theorem je_callR (tk : TakesE X E) (G : FnOk X.prog X.w X.K X.mg X.base (L2.CX X.prog X.w) k f fd ps (spF W n F)) (hr : Room k X.A) (hg : Gl X x) (hm : X.mg x = some (.ref f)) (hk : PySem.W.keepIn X.K (.ref f) = true) (hb : Binds X.K fd ps ds) (hd : Vals dvs ds)
    (hdd : ∀ S H, RepL W S H dvs dds) (ha : JA W E X (e :: es) ms) (hdb : (x == ("__debug__" : Str)) = false := by decide) (he : starEach (e :: es) X.env = (false, eval e X.env) :: starEach es X.env := by rfl) (hpl : (backTo pos (starEach es X.env)).any (·.1) = false := by rfl) :
    JE W E X (.Call (.Name x p) (e :: es) [] pos) (mCallR n F ms dds) := (pe_call G hr hg hm hk hb hd (passE tk) ha hdb he hpl).imp (callR_read hdd)
end

/-! ### f(..) over the whole store -/
def mCallW (n : Nat) (F : FM) (ms : AM) (dds : List D) : EM := fun env st => (ms env st).bind fun us st1 => if us.length + dds.length = n then F (us ++ dds.map U.d) st1 else .bad
theorem callW_read {n : Nat} {F : FM} {ms : AM} {dds : List D} {dvs : List V} (hd : ∀ S H, RepL W S H dvs dds) : ∀ σ H Q, tE W E (mCallW n F ms dds) σ H Q → tCall (spF W n F) dvs E (tA W E ms) σ H Q := by
  rintro σ H Q ⟨S, l, env, st, rl, re, h⟩
  refine ⟨S, l, env, st, rl, re, (Post.bind (rep := repUs W) h).imp ?_⟩
  rintro vs H1 ⟨S1, l1, us, st1, x1, r1, p1, h1⟩
  split at h1
  · rename_i hl
    refine ⟨?_, S1, l1, _, st1, r1, p1.append (hd _ _).us, h1⟩
    rw [List.length_append, p1.length, (hd S1 H1).length]; exact hl
  · exact h1.elim
section
variable {k : Nat} {f : Addr} {fd : FuncData} {ps : List Str} {dvs : List V} {ds : List Value} {dds : List D} {x : Str} {p pos : Pos} {e : Expr} {es : List Expr} {F : FM} {ms : AM} {n : Nat}
theorem je_callW (tk : TakesE X E) (G : FnOk X.prog X.w X.K X.mg X.base (L2.CX X.prog X.w) k f fd ps (spF W n F)) (hr : Room k X.A) (hg : Gl X x) (hm : X.mg x = some (.ref f)) (hk : PySem.W.keepIn X.K (.ref f) = true) (hb : Binds X.K fd ps ds) (hd : Vals dvs ds)
    (hdd : ∀ S H, RepL W S H dvs dds) (ha : JA W E X (e :: es) ms) (hdb : (x == ("__debug__" : Str)) = false := by decide) (he : starEach (e :: es) X.env = (false, eval e X.env) :: starEach es X.env := by rfl) (hpl : (backTo pos (starEach es X.env)).any (·.1) = false := by rfl) :
    JE W E X (.Call (.Name x p) (e :: es) [] pos) (mCallW n F ms dds) := (pe_call G hr hg hm hk hb hd (passE tk) ha hdb he hpl).imp (callW_read hdd)
end

/-! ### C(..): a new object, frozen behind its making -/
def backMk (r : R U) (st : Store) : R U := match r with
  | .ok (.d .non) st2 => match frzU 0 st2 8 (.loc 0) with
    | some d => .ok (.d d) st
    | none => .bad
  | .exc x _ => .exc x st
  | _ => .bad
def mMake (c n : Nat) (F : FM) (ms : AM) (dds : List D) : EM := fun env st => (ms env st).bind fun us st1 => match dsOf us with
  | some ds => if (ds ++ dds).length + 1 = n then backMk (F (.loc 0 :: (ds ++ dds).map U.d) [.ins c []]) st1 else .bad
  | none => .bad
theorem make_read {c n : Nat} {F : FM} {ms : AM} {dds : List D} {dvs : List V} (hd : ∀ S H, RepL W S H dvs dds) : ∀ σ H Q, tE W E (mMake c n F ms dds) σ H Q → tMake (W.cls c) (spF W n F) dvs E (tA W E ms) σ H Q := by
  rintro σ H Q ⟨S, l, env, st, rl, re, h⟩
  refine ⟨S, l, env, st, rl, re, (Post.bind (rep := repUs W) h).imp ?_⟩
  rintro vs H1 ⟨S1, l1, us, st1, x1, r1, p1, h1⟩ x dx nx ndx ne
  split at h1
  · rename_i ds e
    split at h1
    · rename_i hl
      rw [dsOf_eq e] at p1
      have q : RepL W S1 H1 (vs ++ dvs) (ds ++ dds) := p1.ds.append (hd _ _)
      have y1 : Ext S1 [] H1 S1 [] (upd H1 dx (.own x)) := Ext.new ndx
      have r2 : Rel W S1 [] [] (upd H1 dx (.own x)) := r1.none_of.new ndx
      have nx2 : upd H1 dx (.own x) x = none := by rw [upd_ne (Ne.symm ne)]; exact nx
      have y2 : Ext S1 [] (upd H1 dx (.own x)) (fun a => S1 a ∨ a = x) ([] ++ [x]) (upd (upd H1 dx (.own x)) x (.ins (W.cls c) dx [])) := Ext.cell nx2
      have r3 : Rel W (fun a => S1 a ∨ a = x) ([] ++ [x]) ([] ++ [.ins c []]) (upd (upd H1 dx (.own x)) x (.ins (W.cls c) dx [])) := r2.newCell nx2 ⟨rfl, rfl, .nil⟩
      refine ⟨?_, _, _, _, _, r3, .cons (show RepU W _ ([] ++ [x]) _ (.ref x) (.loc 0) from ⟨x, rfl, rfl⟩) ((q.ext r1.none_of (y1.trans y2)).us), ?_⟩
      · rw [← hl, ← q.length]; rfl
      · have z : ∀ {S' l' H'}, Ext (fun a => S1 a ∨ a = x) ([] ++ [x]) (upd (upd H1 dx (.own x)) x (.ins (W.cls c) dx [])) S' l' H' → Ext S1 [] H1 S' l' H' := fun y => (y1.trans y2).trans y
        unfold backMk at h1
        show Post W (repU W) E _ _ _ _ (F (.loc 0 :: (ds ++ dds).map U.d) [.ins c []])
        split at h1
        · rename_i st2 er
          split at h1
          · rename_i d ed
            rw [er]
            intro v S' l' H' y r' p
            cases p
            refine ⟨rfl, ?_⟩
            have y' := z y
            obtain ⟨rr, e1, _⟩ := y.pre
            exact h1 _ S1 l1 H' (ext_drop y' (by simp)) (rel_drop r1 y' r') (frzU_rep r' y'.s1 (fun n a hn e => fresh_not r1 y' (Nat.zero_le _) e) 8 _ (.loc 0) d ⟨x, by rw [e1]; rfl, rfl⟩ ed)
          · exact h1.elim
        · rename_i e st2 er
          rw [er]
          intro c d S' l' H' y r' p
          have y' := z y
          exact h1 c d S1 l1 H' (ext_drop y' (by simp)) (rel_drop r1 y' r') (p.less y'.s1)
        · exact h1.elim
    · exact h1.elim
  · exact h1.elim
section
variable {k c : Nat} {f C : Addr} {fd : FuncData} {ps : List Str} {dvs : List V} {ds : List Value} {dds : List D} {x : Str} {p pos : Pos} {e : Expr} {es : List Expr} {F : FM} {ms : AM} {n : Nat}
theorem je_make (tk : TakesE X E) (hc : W.cls c = C) (M : Mk X.K C f) (G : FnOk X.prog X.w X.K X.mg X.base (L2.CX X.prog X.w) k f fd ps (spF W n F)) (hr : Room (k + 1) X.A) (hg : Gl X x) (hm : X.mg x = some (.ref C)) (hb : Binds X.K fd ps ds) (hd : Vals dvs ds)
    (hdd : ∀ S H, RepL W S H dvs dds) (ha : JA W E X (e :: es) ms) (hdb : (x == ("__debug__" : Str)) = false := by decide) (he : starEach (e :: es) X.env = (false, eval e X.env) :: starEach es X.env := by rfl) (hpl : (backTo pos (starEach es X.env)).any (·.1) = false := by rfl) :
    JE W E X (.Call (.Name x p) (e :: es) [] pos) (mMake c n F ms dds) := (pe_make M G hr hg hm hb hd (passE tk) ha hdb he hpl).imp (by subst hc; exact make_read hdd)
end
end
end Ct
set_option Elab.async false
set_option maxRecDepth 100000
set_option maxHeartbeats 4000000
/-! Attributes, methods, built-ins. -/
namespace Ct
open PySem PySem.Spec PyProof.Rows L2
section
variable {W : Wd} {E : XK} {X : Cx} {S S' S2 : Addr → Prop} {l l' l2 : List Addr} {H H' H2 : Hp} {st st' st2 : Store}

/-! ### fields -/
/-- o.f, o an object of the class c: frozen, or in the store -/
def fFld (c : Nat) (f : Str) : U → Store → R U
  | .d (.obj c' ds), st => if c' = c then match ((flds c).zip ds).lookup f with
    | some x => .ok (.d x) st
    | none => .bad else .bad
  | .loc n, st => match st[n]? with
    | some (.ins c' fs) => if c' = c then match fs.lookup f with
      | some u => .ok u st
      | none => .bad else .bad
    | _ => .bad
  | _, _ => .bad
theorem lookup_repL {f : Str} : ∀ {ns : List Str} {vs : List V} {ds : List D} {x : D}, RepL W S H vs ds → (ns.zip ds).lookup f = some x → ∃ v, (ns.zip vs).lookup f = some v ∧ RepD W S H v x
  | [], _, _, _, _, e => by simp at e
  | _ :: _, _, _, _, .nil, e => by simp at e
  | n :: ns, _, _, x, .cons (v := v) a t, e => by
    rw [List.zip_cons_cons, List.lookup_cons] at e ⊢
    cases q : f == n with
    | true => rw [q] at e; cases e; exact ⟨v, rfl, a⟩
    | false => rw [q] at e; exact lookup_repL t e
theorem lookup_repUs {f : Str} : ∀ {us : List (Str × U)} {fs : List (Str × V)} {x : U}, fs.map (·.1) = us.map (·.1) → RepUs W S l H (fs.map (·.2)) (us.map (·.2)) → us.lookup f = some x → ∃ v, fs.lookup f = some v ∧ RepU W S l H v x
  | [], _, _, _, _, e => by simp at e
  | (a, u) :: us, [], _, h, _, _ => by simp at h
  | (a, u) :: us, (b, v) :: fs, x, h, r, e => by
    simp only [List.map_cons, List.cons.injEq] at h
    obtain ⟨rfl, h⟩ := h
    simp only [List.map_cons] at r
    cases r with
    | cons r1 r2 =>
      rw [List.lookup_cons] at e ⊢
      cases q : f == b with
      | true => rw [q] at e; cases e; exact ⟨v, rfl, r1⟩
      | false => rw [q] at e; exact lookup_repUs h r2 e
theorem lookup_none {f : Str} : ∀ {us : List (Str × U)} {fs : List (Str × V)}, fs.map (·.1) = us.map (·.1) → us.lookup f = none → fs.lookup f = none
  | [], [], _, _ => rfl
  | [], _ :: _, h, _ => by simp at h
  | (a, u) :: us, [], h, _ => by simp at h
  | (a, u) :: us, (b, v) :: fs, h, e => by
    simp only [List.map_cons, List.cons.injEq] at h
    obtain ⟨rfl, h⟩ := h
    rw [List.lookup_cons] at e ⊢
    cases q : f == b with
    | true => rw [q] at e; cases e
    | false => rw [q] at e; exact lookup_none h e
theorem fld_rep {c : Nat} {f : Str} {u z : U} {x : V} (rl : Rel W S l st H) (p : RepU W S l H x u) (h : fFld c f u st = .ok z st) : ∃ a dx fs v, x = .ref a ∧ H a = some (.ins (W.cls c) dx fs) ∧ fs.lookup f = some v ∧ RepU W S l H v z := by
  unfold fFld at h
  split at h
  · split at h
    · rename_i hc
      subst hc
      split at h
      · rename_i y e
        cases h
        cases p with
        | obj q n e1 e2 r =>
          subst e1
          obtain ⟨v, h1, h2⟩ := lookup_repL r e
          exact ⟨_, _, _, v, rfl, q, h1, h2⟩
      · cases h
    · cases h
  · split at h
    · rename_i c' fs e
      split at h
      · rename_i hc
        subst hc
        split at h
        · rename_i y e2
          cases h
          obtain ⟨a, ha, rfl⟩ := p
          obtain ⟨b, o, h1, h2, h3⟩ := rl.cell _ _ e
          rw [ha] at h1; cases h1
          cases o <;> first | exact h3.elim | skip
          obtain ⟨rfl, h4, h5⟩ := h3
          obtain ⟨v, h6, h7⟩ := lookup_repUs h4 h5 e2
          exact ⟨a, _, _, v, rfl, h2, h6, h7⟩
        · cases h
      · cases h
    · cases h
  · cases h
theorem fld_ok {c : Nat} {f : Str} {u : U} {x : V} {Q : VK} (rl : Rel W S l st H) (p : RepU W S l H x u) (h : Post W (repU W) E S l H Q (fFld c f u st)) : ∃ a dx fs v, x = .ref a ∧ H a = some (.ins (W.cls c) dx fs) ∧ fs.lookup f = some v ∧ Q v H := by
  have key : ∀ z st', fFld c f u st = .ok z st' → st' = st := by
    intro z st' e
    unfold fFld at e
    repeat' split at e
    all_goals first | cases e; rfl | cases e
  cases e : fFld c f u st with
  | ok z st' =>
    rw [e] at h
    obtain rfl := key z st' e
    obtain ⟨a, dx, fs, v, h1, h2, h3, h4⟩ := fld_rep rl p e
    exact ⟨a, dx, fs, v, h1, h2, h3, h.ok rl h4⟩
  | exc y st' =>
    exfalso
    unfold fFld at e
    repeat' split at e
    all_goals cases e
  | bad => rw [e] at h; exact h.elim
theorem je_fld {c : Nat} {f : Str} {o : Expr} {m : EM} {pos : Pos} (hk : X.K = W.K) (cl : Cls W.K (W.cls c)) (na : NoAttr W.K (W.cls c) f) (ho : JE W E X o m) (hb : attributeBase o f X.env (eval o X.env) = eval o X.env := by rfl) : JE W E X (.Attribute o f pos) (fUn (fFld c f) m) := (pe_fld ho hb).imp (by
  rintro σ H Q ⟨S, l, env, st, rl, re, h⟩
  refine ⟨S, l, env, st, rl, re, (Post.bind (rep := repU W) h).imp ?_⟩
  rintro x H1 ⟨S1, l1, u, st1, x1, r1, p1, h1⟩
  obtain ⟨a, dx, fs, v, e1, e2, e3, e4⟩ := fld_ok r1 p1 h1
  rw [hk]
  exact ⟨a, _, dx, fs, v, e1, e2, cl, na, e3, e4⟩)
/-- o.p, a property that hands out the field f -/
theorem je_prop {c : Nat} {pn f : Str} {o : Expr} {m : EM} {pos : Pos} {k : Nat} {p g : Addr} {fd : FuncData} {ps : List Str} (hk : X.K = W.K) (cl : Cls W.K (W.cls c)) (hp : PropOf W.K (W.cls c) pn p g)
    (G : FnOk X.prog X.w X.K X.mg X.base (L2.CX X.prog X.w) k g fd ps (getSp (W.cls c) f)) (hr : Room (k + 1) X.A) (hbn : Binds X.K fd ps []) (ho : JE W E X o m) (hb : attributeBase o pn X.env (eval o X.env) = eval o X.env := by rfl) :
    JE W E X (.Attribute o pn pos) (fUn (fFld c f) m) := (pe_prop (E := E0) (dvs := []) ho (by rw [hk]; exact cl) (by rw [hk]; exact hp) G hr hbn .nil (passL (X := X.nox)) hb).imp (by
  rintro σ H Q ⟨S, l, env, st, rl, re, h⟩
  refine ⟨S, l, env, st, rl, re, (Post.bind (rep := repU W) h).imp ?_⟩
  rintro x H1 ⟨S1, l1, u, st1, x1, r1, p1, h1⟩
  obtain ⟨a, dx, fs, v, e1, e2, e3, e4⟩ := fld_ok r1 p1 h1
  exact ⟨a, dx, fs, e1, e2, a, dx, fs, v, rfl, e2, e3, e4⟩)
/-- o.f = e, o in the store -/
def putU (f : Str) (u : U) : List (Str × U) → List (Str × U)
  | [] => [(f, u)]
  | (g, w) :: r => if g = f then (g, u) :: r else (g, w) :: putU f u r
def sFldM (c : Nat) (f : Str) (mo m : EM) : SM := fun env st => (m env st).andS fun u st1 => (mo env st1).andS fun o st2 => match o with
  | .loc n => match st2[n]? with
    | some (.ins c' fs) => if c' = c ∧ fs.length ≤ 100 then .nx env (st2.set n (.ins c (putU f u fs))) else .bad
    | _ => .bad
  | _ => .bad
theorem putF_rep {f : Str} {u : U} {v : V} (r : RepU W S l H v u) : ∀ {us : List (Str × U)} {fs : List (Str × V)}, fs.map (·.1) = us.map (·.1) → RepUs W S l H (fs.map (·.2)) (us.map (·.2)) →
    (putF f v fs).map (·.1) = (putU f u us).map (·.1) ∧ RepUs W S l H ((putF f v fs).map (·.2)) ((putU f u us).map (·.2))
  | [], [], _, _ => ⟨rfl, .cons r .nil⟩
  | [], _ :: _, h, _ => by simp at h
  | (a, x) :: us, [], h, _ => by simp at h
  | (a, x) :: us, (b, y) :: fs, h, q => by
    simp only [List.map_cons, List.cons.injEq] at h
    obtain ⟨rfl, h⟩ := h
    simp only [List.map_cons] at q
    cases q with
    | cons q1 q2 =>
      unfold putF putU
      by_cases hb : b = f
      · rw [if_pos hb, if_pos hb]
        exact ⟨by simp [h], .cons r q2⟩
      · rw [if_neg hb, if_neg hb]
        obtain ⟨h1, h2⟩ := putF_rep r h q2
        exact ⟨by simp [h1], .cons q1 h2⟩
theorem js_fld {c : Nat} {f : Str} {o e : Expr} {mo m : EM} {pos pos' : Pos} (hk : X.K = W.K) (cl : Cls W.K (W.cls c)) (na : NoAttr W.K (W.cls c) f) (ho : JE W E X o mo) (he : JE W E X e m) (hs : swapsWith e (some (.Attribute o f pos')) pos.line X.env = pure false := by rfl) :
    JS W E X (.Assign [.Attribute o f pos'] e pos) (sFldM c f mo m) := (ps_fld ho he hs).imp (by
  rintro D σ H ⟨S, l, env, st, rl, re, h⟩
  refine ⟨S, l, env, st, rl, re, (Post.andS (rep := repU W) h).imp ?_⟩
  rintro y H1 ⟨S1, l1, u, st1, x1, r1, p1, h1⟩
  refine ⟨S1, l1, env, st1, r1, re.ext rl x1, (Post.andS (rep := repU W) h1).imp ?_⟩
  rintro x H2 ⟨S2, l2, o', st2, x2, r2, p2, h2⟩
  have re2 := (re.ext rl x1).ext r1 x2
  have p1 := p1.ext r1 x2
  split at h2
  · split at h2
    · rename_i n c' fs e
      split at h2
      · rename_i hc
        obtain ⟨rfl, hl⟩ := hc
        obtain ⟨a, ha, rfl⟩ := p2
        obtain ⟨b, ob, h3, h4, h5⟩ := r2.cell _ _ e
        rw [ha] at h3; cases h3
        cases ob <;> first | exact h5.elim | skip
        rename_i C dx gs
        obtain ⟨rfl, h6, h7⟩ := h5
        have w : Ext S2 l2 H2 S2 l2 (upd H2 a (.ins (W.cls c') dx (putF f y gs))) := Ext.write ha
        obtain ⟨q1, q2⟩ := putF_rep (f := f) (p1.ext r2 w) h6 (h7.ext r2 w)
        rw [hk]
        refine ⟨a, _, dx, gs, rfl, h4, cl, na, ?_, h2 _ _ _ _ w (r2.write ha ⟨rfl, q1, q2⟩) (re2.ext r2 w)⟩
        have : gs.length = fs.length := by have := congrArg List.length h6; simpa using this
        omega
      · exact h2.elim
    · exact h2.elim
  · exact h2.elim)

/-! ### methods -/
/-- what stands at a receiver: an instance of the class c, without a field m of its own -/
def recv (c : Nat) (m : Str) : U → Store → Bool
  | .d (.obj c' ds), _ => decide (c' = c) && (((flds c).zip ds).lookup m).isNone
  | .loc n, st => match st[n]? with
    | some (.ins c' fs) => decide (c' = c) && (fs.lookup m).isNone
    | _ => false
  | _, _ => false
theorem lookup_noneL {f : Str} : ∀ {ns : List Str} {vs : List V} {ds : List D}, RepL W S H vs ds → (ns.zip ds).lookup f = none → (ns.zip vs).lookup f = none
  | [], _, _, _, e => by simp
  | _ :: _, _, _, .nil, e => by simp
  | n :: ns, _, _, .cons a t, e => by
    rw [List.zip_cons_cons, List.lookup_cons] at e ⊢
    cases q : f == n with
    | true => rw [q] at e; cases e
    | false => rw [q] at e; exact lookup_noneL t e
theorem recv_rep {c : Nat} {m : Str} {u : U} {x : V} (rl : Rel W S l st H) (p : RepU W S l H x u) (h : recv c m u st = true) : ∃ a dx fs, x = .ref a ∧ H a = some (.ins (W.cls c) dx fs) ∧ fs.lookup m = none := by
  unfold recv at h
  split at h
  · rw [Bool.and_eq_true, decide_eq_true_eq] at h
    obtain ⟨rfl, h2⟩ := h
    cases p with
    | obj q n e1 e2 r =>
      subst e1
      exact ⟨_, _, _, rfl, q, lookup_noneL r (Option.isNone_iff_eq_none.mp h2)⟩
  · split at h
    · rename_i c' fs e
      rw [Bool.and_eq_true, decide_eq_true_eq] at h
      obtain ⟨rfl, h2⟩ := h
      obtain ⟨a, ha, rfl⟩ := p
      obtain ⟨b, ob, h3, h4, h5⟩ := rl.cell _ _ e
      rw [ha] at h3; cases h3
      cases ob <;> first | exact h5.elim | skip
      obtain ⟨rfl, h6, h7⟩ := h5
      exact ⟨a, _, _, rfl, h4, lookup_none h6 (Option.isNone_iff_eq_none.mp h2)⟩
    · cases h
  · cases h
/-- o.m(..), o and the arguments data -/
def mMethP (c : Nat) (mn : Str) (n : Nat) (F : FM) (mo : EM) (ms : AM) : EM := fun env st => (mo env st).bind fun o st1 => if recv c mn o st1 = true then (ms env st1).bind fun us st2 => match dsOf (o :: us) with
  | some ds => if ds.length = n then backP (F (ds.map U.d) []) st2 else .bad
  | none => .bad else .bad
theorem methP_read {c : Nat} {mn : Str} {n : Nat} {F : FM} {mo : EM} {ms : AM} : ∀ σ H Q, tE W E (mMethP c mn n F mo ms) σ H Q → tMeth (W.cls c) mn (spF W n F) [] E (tE W E mo) (tA W E ms) σ H Q := by
  rintro σ H Q ⟨S, l, env, st, rl, re, h⟩
  refine ⟨S, l, env, st, rl, re, (Post.bind (rep := repU W) h).imp ?_⟩
  rintro x H1 ⟨S1, l1, u, st1, x1, r1, p1, h1⟩
  split at h1
  · rename_i hc
    obtain ⟨a, dx, fs, rfl, e2, e3⟩ := recv_rep r1 p1 hc
    refine ⟨a, dx, fs, rfl, e2, e3, S1, l1, env, st1, r1, re.ext rl x1, (Post.bind (rep := repUs W) h1).imp ?_⟩
    rintro vs H2 ⟨S2, l2, us, st2, x2, r2, p2, h2⟩
    split at h2
    · rename_i ds e
      split at h2
      · rename_i hl
        have q : RepUs W S2 l2 H2 (.ref a :: vs) (u :: us) := .cons (p1.ext r1 x2) p2
        rw [dsOf_eq e] at q
        rw [List.append_nil]
        exact ⟨by rw [q.ds.length]; exact hl, S2, [], _, [], r2.none_of, q.ds.us, backP_read r2 h2⟩
      · exact h2.elim
    · exact h2.elim
  · exact h1.elim
/-- o.m(..) over the whole store -/
def mMethW (c : Nat) (mn : Str) (n : Nat) (F : FM) (mo : EM) (ms : AM) : EM := fun env st => (mo env st).bind fun o st1 => if recv c mn o st1 = true then (ms env st1).bind fun us st2 => if us.length + 1 = n then F (o :: us) st2 else .bad else .bad
theorem methW_read {c : Nat} {mn : Str} {n : Nat} {F : FM} {mo : EM} {ms : AM} : ∀ σ H Q, tE W E (mMethW c mn n F mo ms) σ H Q → tMeth (W.cls c) mn (spF W n F) [] E (tE W E mo) (tA W E ms) σ H Q := by
  rintro σ H Q ⟨S, l, env, st, rl, re, h⟩
  refine ⟨S, l, env, st, rl, re, (Post.bind (rep := repU W) h).imp ?_⟩
  rintro x H1 ⟨S1, l1, u, st1, x1, r1, p1, h1⟩
  split at h1
  · rename_i hc
    obtain ⟨a, dx, fs, rfl, e2, e3⟩ := recv_rep r1 p1 hc
    refine ⟨a, dx, fs, rfl, e2, e3, S1, l1, env, st1, r1, re.ext rl x1, (Post.bind (rep := repUs W) h1).imp ?_⟩
    rintro vs H2 ⟨S2, l2, us, st2, x2, r2, p2, h2⟩
    split at h2
    · rename_i hl
      rw [List.append_nil]
      refine ⟨?_, S2, l2, _, st2, r2, .cons (p1.ext r1 x2) p2, h2⟩
      rw [List.length_cons, p2.length]; exact hl
    · exact h2.elim
  · exact h1.elim
section
variable {k c : Nat} {f : Addr} {fd : FuncData} {ps : List Str} {mn : Str} {apos pos : Pos} {o e : Expr} {es : List Expr} {F : FM} {mo : EM} {ms : AM} {n : Nat} {pl : Sem Bool}
theorem je_methP (hk : X.K = W.K) (tk : TakesE X E) (cl : Cls W.K (W.cls c)) (hm : Meth W.K (W.cls c) mn f) (G : FnOk X.prog X.w X.K X.mg X.base (L2.CX X.prog X.w) k f fd ps (spF W n F)) (hr : Room k X.A) (hb : Binds X.K fd ps []) (ho : JE W E X o mo) (ha : JA W E X (e :: es) ms)
    (hst : starEach (e :: es) X.env = (false, eval e X.env) :: starEach es X.env := by rfl) (hpl : (backTo pos (starEach es X.env)).any (·.1) = false := by rfl)
    (ht : eval (.Call (.Attribute o mn apos) (e :: es) [] pos) X.env = (do
      let ov ← eval o X.env
      standAt apos.atName
      let (f, first) ← holding [ov] (getMethod ov mn pl)
      callWith pos f first (backTo pos (starEach (e :: es) X.env)) (backToKw pos (keywordEach [] X.env))) := by rfl) :
    JE W E X (.Call (.Attribute o mn apos) (e :: es) [] pos) (mMethP c mn n F mo ms) := (pe_meth ho (by rw [hk]; exact cl) (by rw [hk]; exact hm) G hr hb .nil (passE tk) ha hst hpl ht).imp methP_read
theorem je_methP0 (hk : X.K = W.K) (tk : TakesE X E) (cl : Cls W.K (W.cls c)) (hm : Meth W.K (W.cls c) mn f) (G : FnOk X.prog X.w X.K X.mg X.base (L2.CX X.prog X.w) k f fd ps (spF W n F)) (hr : Room k X.A) (hb : Binds X.K fd ps []) (ho : JE W E X o mo)
    (ht : eval (.Call (.Attribute o mn apos) [] [] pos) X.env = (do
      let ov ← eval o X.env
      standAt apos.atName
      let (f, first) ← holding [ov] (getMethod ov mn pl)
      callWith pos f first (backTo pos (starEach [] X.env)) (backToKw pos (keywordEach [] X.env))) := by rfl) :
    JE W E X (.Call (.Attribute o mn apos) [] [] pos) (mMethP c mn n F mo mNil) := (pe_meth0 ho (by rw [hk]; exact cl) (by rw [hk]; exact hm) G hr hb .nil (passE tk) ht).imp fun σ H Q h => by
  obtain ⟨S, l, env, st, rl, re, h⟩ := methP_read σ H Q h
  refine ⟨S, l, env, st, rl, re, h.imp ?_⟩
  rintro x H1 ⟨a, dx, fs, h1, h2, h3, S1, l1, env1, st1, r1, re1, h4⟩
  exact ⟨a, dx, fs, h1, h2, h3, h4.ok r1 .nil⟩
theorem je_methW (hk : X.K = W.K) (tk : TakesE X E) (cl : Cls W.K (W.cls c)) (hm : Meth W.K (W.cls c) mn f) (G : FnOk X.prog X.w X.K X.mg X.base (L2.CX X.prog X.w) k f fd ps (spF W n F)) (hr : Room k X.A) (hb : Binds X.K fd ps []) (ho : JE W E X o mo) (ha : JA W E X (e :: es) ms)
    (hst : starEach (e :: es) X.env = (false, eval e X.env) :: starEach es X.env := by rfl) (hpl : (backTo pos (starEach es X.env)).any (·.1) = false := by rfl)
    (ht : eval (.Call (.Attribute o mn apos) (e :: es) [] pos) X.env = (do
      let ov ← eval o X.env
      standAt apos.atName
      let (f, first) ← holding [ov] (getMethod ov mn pl)
      callWith pos f first (backTo pos (starEach (e :: es) X.env)) (backToKw pos (keywordEach [] X.env))) := by rfl) :
    JE W E X (.Call (.Attribute o mn apos) (e :: es) [] pos) (mMethW c mn n F mo ms) := (pe_meth ho (by rw [hk]; exact cl) (by rw [hk]; exact hm) G hr hb .nil (passE tk) ha hst hpl ht).imp methW_read
theorem je_methW0 (hk : X.K = W.K) (tk : TakesE X E) (cl : Cls W.K (W.cls c)) (hm : Meth W.K (W.cls c) mn f) (G : FnOk X.prog X.w X.K X.mg X.base (L2.CX X.prog X.w) k f fd ps (spF W n F)) (hr : Room k X.A) (hb : Binds X.K fd ps []) (ho : JE W E X o mo)
    (ht : eval (.Call (.Attribute o mn apos) [] [] pos) X.env = (do
      let ov ← eval o X.env
      standAt apos.atName
      let (f, first) ← holding [ov] (getMethod ov mn pl)
      callWith pos f first (backTo pos (starEach [] X.env)) (backToKw pos (keywordEach [] X.env))) := by rfl) :
    JE W E X (.Call (.Attribute o mn apos) [] [] pos) (mMethW c mn n F mo mNil) := (pe_meth0 ho (by rw [hk]; exact cl) (by rw [hk]; exact hm) G hr hb .nil (passE tk) ht).imp fun σ H Q h => by
  obtain ⟨S, l, env, st, rl, re, h⟩ := methW_read σ H Q h
  refine ⟨S, l, env, st, rl, re, h.imp ?_⟩
  rintro x H1 ⟨a, dx, fs, h1, h2, h3, S1, l1, env1, st1, r1, re1, h4⟩
  exact ⟨a, dx, fs, h1, h2, h3, h4.ok r1 .nil⟩
end
end
end Ct
set_option Elab.async false
set_option maxRecDepth 100000
set_option maxHeartbeats 4000000
/-! Built-ins by name. -/
namespace Ct
open PySem PySem.Spec PyProof.Rows L2
section
variable {W : Wd} {E : XK} {X : Cx} {S S' S2 : Addr → Prop} {l l' l2 : List Addr} {H H' H2 : Hp} {st st' st2 : Store}

/-- f of the arguments' values -/
def mCB (f : List U → Store → R U) (ms : AM) : EM := fun env st => (ms env st).bind fun us st1 => f us st1
def AOk (W : Wd) (E : XK) (r : List V → Hp → VK → Prop) (f : List U → Store → R U) : Prop :=
  ∀ S l st H vs us Q, Rel W S l st H → RepUs W S l H vs us → Post W (repU W) E S l H Q (f us st) → r vs H Q
theorem cb_read {r : List V → Hp → VK → Prop} {f : List U → Store → R U} {ms : AM} (k : AOk W E r f) : ∀ σ H Q, tE W E (mCB f ms) σ H Q → tCB r (tA W E ms) σ H Q := by
  rintro σ H Q ⟨S, l, env, st, rl, re, h⟩
  refine ⟨S, l, env, st, rl, re, (Post.bind (rep := repUs W) h).imp ?_⟩
  rintro vs H1 ⟨S1, l1, us, st1, x1, r1, p1, h1⟩
  exact k S1 l1 st1 H1 vs us Q r1 p1 h1
section
variable {id T : String} {r : List V → Hp → VK → Prop} {f : List U → Store → R U} {x : Str} {p pos : Pos} {e : Expr} {es : List Expr} {ms : AM}
theorem je_callB (hc : CallR X (.builtin id) r) (k : AOk W E r f) (hg : Gl X x) (hm : X.mg x = none) (hv : bootBuiltins x = some (.builtin id)) (ha : JA W E X (e :: es) ms) (hn : x ≠ "__name__" := by decide) (hdb : (x == ("__debug__" : Str)) = false := by decide)
    (he : starEach (e :: es) X.env = (false, eval e X.env) :: starEach es X.env := by rfl) (hpl : (backTo pos (starEach es X.env)).any (·.1) = false := by rfl) : JE W E X (.Call (.Name x p) (e :: es) [] pos) (mCB f ms) :=
  (pe_callB hc hg hm hv ha hn hdb he hpl).imp (cb_read k)
theorem je_callTy (hc : CallR X (.type T) r) (k : AOk W E r f) (hg : Gl X x) (hm : X.mg x = none) (hv : bootBuiltins x = some (.type T)) (ha : JA W E X (e :: es) ms) (hn : x ≠ "__name__" := by decide) (hdb : (x == ("__debug__" : Str)) = false := by decide)
    (he : starEach (e :: es) X.env = (false, eval e X.env) :: starEach es X.env := by rfl) (hpl : (backTo pos (starEach es X.env)).any (·.1) = false := by rfl) : JE W E X (.Call (.Name x p) (e :: es) [] pos) (mCB f ms) :=
  (pe_callTy hc hg hm hv ha hn hdb he hpl).imp (cb_read k)
end

/-! ### int, abs, max, min -/
def fInt : List U → Store → R U
  | [.d (.int i)], st => .ok (.d (.int i)) st
  | [.d (.bl b)], st => .ok (.d (.int (if b then 1 else 0))) st
  | _, _ => .bad
theorem int_ok : AOk W E (fun xs H Q => (∃ i, xs = [.int i] ∧ Q (.int i) H) ∨ ∃ k, xs = [.bl k] ∧ Q (.int (if k then 1 else 0)) H) fInt := by
  intro S l st H vs us Q rl p h
  unfold fInt at h
  split at h
  · cases p with
    | cons a t => cases t; cases a; exact .inl ⟨_, rfl, h.ok rl (.int _)⟩
  · cases p with
    | cons a t => cases t; cases a; exact .inr ⟨_, rfl, h.ok rl (.int _)⟩
  · exact h.elim
def fAbs : List U → Store → R U
  | [.d (.int i)], st => .ok (.d (.int (if i < 0 then -i else i))) st
  | _, _ => .bad
theorem abs_ok : AOk W E (fun xs H Q => ∃ i, xs = [.int i] ∧ Q (.int (if i < 0 then -i else i)) H) fAbs := by
  intro S l st H vs us Q rl p h
  unfold fAbs at h
  split at h
  · cases p with
    | cons a t => cases t; cases a; exact ⟨_, rfl, h.ok rl (.int _)⟩
  · exact h.elim
def f2 (g : Int → Int → Int) : List U → Store → R U
  | [.d (.int i), .d (.int j)], st => .ok (.d (.int (g i j))) st
  | _, _ => .bad
theorem f2_ok {g : Int → Int → Int} : AOk W E (fun xs H Q => ∃ i j, xs = [.int i, .int j] ∧ Q (.int (g i j)) H) (f2 g) := by
  intro S l st H vs us Q rl p h
  unfold f2 at h
  split at h
  · cases p with
    | cons a t =>
      cases t with
      | cons b t => cases t; cases a; cases b; exact ⟨_, _, rfl, h.ok rl (.int _)⟩
  · exact h.elim
abbrev fMax2 := f2 fun i j => if j > i then j else i
abbrev fMin2 := f2 fun i j => if j < i then j else i

/-! ### len -/
def fLen : List U → Store → R U
  | [.d (.tup a)], st => .ok (.d (.int a.length)) st
  | [.d (.lst a)], st => .ok (.d (.int a.length)) st
  | [.d (.frz a)], st => .ok (.d (.int a.length)) st
  | [.loc n], st => match st[n]? with
    | some (.lst us) => .ok (.d (.int us.length)) st
    | _ => .bad
  | _, _ => .bad
theorem len_ok : AOk W E (fun xs H Q => ∃ x n, xs = [x] ∧ LenV W.K x H n ∧ Q (.int n) H) fLen := by
  intro S l st H vs us Q rl p h
  unfold fLen at h
  split at h
  · cases p with
    | cons a t =>
      cases t
      cases a with
      | tup q r => exact ⟨_, _, rfl, .inr ⟨_, q, rfl⟩, h.ok rl (by rw [r.length]; exact .int _)⟩
  · cases p with
    | cons a t =>
      cases t
      cases a with
      | lst q n r => exact ⟨_, _, rfl, .inl ⟨_, .inl (.inl q), rfl⟩, h.ok rl (by rw [r.length]; exact .int _)⟩
  · cases p with
    | cons a t =>
      cases t
      cases a with
      | frz q r => exact ⟨_, _, rfl, .inl ⟨_, q.sq, rfl⟩, h.ok rl (by rw [r.length]; exact .int _)⟩
  · split at h
    · rename_i us e
      cases p with
      | cons a t =>
        cases t
        obtain ⟨b, vs, _, rfl, h1, h2⟩ := loc_rep rl a e
        exact ⟨_, _, rfl, .inl ⟨_, .inl (.inl h1), rfl⟩, h.ok rl (by rw [h2.length]; exact .int _)⟩
    · exact h.elim
  · exact h.elim
/-- len of an own object, by its __len__ -/
def rLenO (C : Addr) (sp : Sp) : List V → Hp → VK → Prop := fun xs H Q => ∃ a dx fs, xs = [.ref a] ∧ H a = some (.ins C dx fs) ∧ sp [.ref a] H (fun v H' => ∃ n : Int, v = .int n ∧ (0 ≤ n ∧ n < 2 ^ 63) ∧ Q (.int n) H') E0
theorem call_lenO {k : Nat} {f C : Addr} {fd : FuncData} {ps : List Str} {sp : Sp} (c : PySem.W.findIn X.K (.ref C) "__len__" = some (some (.ref f))) (hf : PySem.W.isFn X.K (.ref f) = true) (G : FnOk X.prog X.w X.K X.mg X.base (L2.CX X.prog X.w) k f fd ps sp) (hr : Room (k + 1) X.A)
    (hb : Binds X.K fd ps []) : CallR X (.builtin "len") (rLenO C sp) := by
  intro pins s σ H xs us Q I r h
  obtain ⟨a, dx, fs, rfl, ea, q⟩ := h
  obtain ⟨u, rfl, rx⟩ := vals1 r
  obtain rfl : u = Value.ref a := rx
  obtain ⟨mA, O, _, _, _, _⟩ := ins_get I.hok ea
  obtain ⟨od, J, _⟩ := O.look
  obtain ⟨m, Fr⟩ := I.fr
  refine PySem.W.len_K Fr I.ok.mod.kin J c hf ?_
  have hl : ([Value.ref a] ++ ([] : List Value)).length = ps.length := by rw [← G.len _ _ _ _ q]; rfl
  refine wpAny_call (codeAny_mono (G.run X.A.in1 X.stack s H ⟨[.ref a], []⟩ ([.ref a] ++ []) [.ref a] _ E0 hr.in1 I.env0.in1 (hb s [.ref a] I.kIn hl) (.cons (show RelV (V.ref a) (Value.ref a) from rfl) .nil) q) fun rr s' hq => ?_)
  cases rr with
  | error e => exact (passL (X := X.nox) pins σ H s e s' (I.wish _) hq).elim
  | ok fl =>
    cases fl with
    | ret w =>
      obtain ⟨v, H', I', rv, n, rfl, hn, q'⟩ := I.after hq
      obtain ⟨t, rfl⟩ := rv
      exact ⟨hn, .int n, H', I'.tok _, ⟨_, rfl⟩, q'⟩
    | next => exact hq.elim
    | brk => exact hq.elim
    | cont => exact hq.elim
theorem callR_or {f : Value} {r r' : List V → Hp → VK → Prop} (h : CallR X f r) (h' : CallR X f r') : CallR X f (fun xs H Q => r xs H Q ∨ r' xs H Q) := fun pins s σ H xs us Q I rv q =>
  q.elim (h pins s σ H xs us Q I rv) (h' pins s σ H xs us Q I rv)
/-- len of anything; c: the class of the own objects, F its __len__ -/
def fLenO (c : Nat) (F : FM) : List U → Store → R U
  | [.d (.obj c' ds)], st => if c' = c then match F [.d (.obj c' ds)] [] with
    | .ok (.d (.int n)) _ => if 0 ≤ n ∧ n < 2 ^ 63 then .ok (.d (.int n)) st else .bad
    | _ => .bad else .bad
  | us, st => fLen us st
theorem lenO_ok {c : Nat} {F : FM} : AOk W E (fun xs H Q => (∃ x n, xs = [x] ∧ LenV W.K x H n ∧ Q (.int n) H) ∨ rLenO (W.cls c) (spF W 1 F) xs H Q) (fLenO c F) := by
  intro S l st H vs us Q rl p h
  unfold fLenO at h
  split at h
  · split at h
    · rename_i c' ds hc
      subst hc
      split at h
      · rename_i n st2 e
        split at h
        · rename_i hn
          cases p with
          | cons a t =>
            cases t
            cases a with
            | obj q n e1 e2 r =>
              refine .inr ⟨_, _, _, rfl, q, rfl, S, [], _, [], rl.none_of, .cons (show RepU W S [] H _ (.d _) from .obj q n e1 e2 r) .nil, ?_⟩
              rw [e]
              intro v S' l' H' x r' p'
              cases p'
              exact ⟨_, rfl, hn, h _ S l H' (ext_drop x (by simp)) (rel_drop rl x r') (.int _)⟩
        · exact h.elim
      · exact h.elim
    · exact h.elim
  · exact .inl (len_ok S l st H vs us Q rl p h)

/-! ### sum, tuple, list -/
def intsOf : List U → Option (List Int)
  | [] => some []
  | .d (.int i) :: r => (intsOf r).map (i :: ·)
  | _ => none
theorem intsOf_rep : ∀ {us : List U} {vs : List V} {ns : List Int}, RepUs W S l H vs us → intsOf us = some ns → vs = ns.map V.int
  | [], _, _, .nil, e => by cases e; rfl
  | .d (.int i) :: r, _, ns, .cons a t, e => by
    unfold intsOf at e
    cases q : intsOf r with
    | none => rw [q] at e; cases e
    | some m =>
      rw [q] at e; cases e
      cases a
      rw [intsOf_rep t q]; rfl
def fSum : List U → Store → R U
  | [u], st => match lstOf u st with
    | some us => match intsOf us with
      | some ns => .ok (.d (.int ns.sum)) st
      | none => .bad
    | none => .bad
  | _, _ => .bad
theorem sum_ok : AOk W E (rSum W.K) fSum := by
  intro S l st H vs us Q rl p h
  unfold fSum at h
  split at h
  · split at h
    · rename_i us e
      split at h
      · rename_i ns e2
        cases p with
        | cons a t =>
          cases t
          obtain ⟨b, ws, rfl, q, r⟩ := lstOf_rep rl a e
          rw [intsOf_rep r e2] at q
          exact ⟨b, ns, rfl, q, h.ok rl (.int _)⟩
      · exact h.elim
    · exact h.elim
  · exact h.elim
/-- tuple(x) of a list or a tuple -/
def fTuple : List U → Store → R U
  | [.d (.tup a)], st => .ok (.d (.tup a)) st
  | [u], st => match lstOf u st with
    | some us => match dsOf us with
      | some ds => .ok (.d (.tup ds)) st
      | none => .bad
    | none => .bad
  | _, _ => .bad
theorem tuple_ok : AOk W E (fun xs H Q => ∃ p ys, xs = [.ref p] ∧ ((SqL W.K H p ys ∧ ∀ l, H l = none → Q (.ref l) (upd H l (.tup ys))) ∨ (SqT W.K H p ys ∧ Q (.ref p) H))) fTuple := by
  intro S l st H vs us Q rl p h
  unfold fTuple at h
  split at h
  · cases p with
    | cons a t =>
      cases t
      cases a with
      | tup q r => exact ⟨_, _, rfl, .inr ⟨q, h.ok rl (.tup q r)⟩⟩
  · split at h
    · rename_i us e
      split at h
      · rename_i ds e2
        cases p with
        | cons a t =>
          cases t
          obtain ⟨b, ws, rfl, q, r⟩ := lstOf_rep rl a e
          rw [dsOf_eq e2] at r
          exact ⟨b, ws, rfl, .inl ⟨q, fun p hp => new_tup h rl r.ds hp⟩⟩
      · exact h.elim
    · exact h.elim
  · exact h.elim
/-- list(x): a frozen list -/
def seqD (u : U) (st : Store) : Option (List D) := match u with
  | .d (.tup a) => some a
  | u => (lstOf u st).bind dsOf
theorem seqD_rep {u : U} {ds : List D} {x : V} (rl : Rel W S l st H) (p : RepU W S l H x u) (h : seqD u st = some ds) : ∃ a vs, x = .ref a ∧ (SqL W.K H a vs ∨ SqT W.K H a vs) ∧ RepL W S H vs ds := by
  unfold seqD at h
  split at h
  · cases h
    cases p with
    | tup q r => exact ⟨_, _, rfl, .inr q, r⟩
  · cases e : lstOf u st with
    | none => rw [e] at h; cases h
    | some us =>
      rw [e] at h
      obtain ⟨b, ws, rfl, q, r⟩ := lstOf_rep rl p e
      rw [dsOf_eq h] at r
      exact ⟨b, ws, rfl, .inl q, r.ds⟩
def fList : List U → Store → R U
  | [u], st => match seqD u st with
    | some ds => .ok (.d (.lst ds)) st
    | none => .bad
  | _, _ => .bad
abbrev rListOf (K : PySem.W.Frag) : List V → Hp → VK → Prop := fun xs H Q => ∃ p ys, xs = [.ref p] ∧ (SqL K H p ys ∨ SqT K H p ys) ∧ ∀ l, H l = none → Q (.ref l) (upd H l (.lst ys))
theorem list_ok : AOk W E (rListOf W.K) fList := by
  intro S l st H vs us Q rl p h
  unfold fList at h
  split at h
  · split at h
    · rename_i ds e
      cases p with
      | cons a t =>
        cases t
        obtain ⟨b, ws, rfl, q, r⟩ := seqD_rep rl a e
        exact ⟨b, ws, rfl, q, fun p hp => new_lst h rl r hp⟩
    · exact h.elim
  · exact h.elim
/-- list(x): a cell -/
def fListC : List U → Store → R U
  | [u], st => match seqD u st with
    | some ds => .ok (.loc st.length) (st ++ [.lst (ds.map U.d)])
    | none => .bad
  | _, _ => .bad
theorem listC_ok : AOk W E (rListOf W.K) fListC := by
  intro S l st H vs us Q rl p h
  unfold fListC at h
  split at h
  · split at h
    · rename_i ds e
      cases p with
      | cons a t =>
        cases t
        obtain ⟨b, ws, rfl, q, r⟩ := seqD_rep rl a e
        exact ⟨b, ws, rfl, q, fun p hp => new_cell h rl r.us hp⟩
    · exact h.elim
  · exact h.elim
section
variable {p pos : Pos} {e : Expr} {es : List Expr} {ms : AM}
theorem je_intB (hg : Gl X "int") (hm : X.mg "int" = none) (ha : JA W E X (e :: es) ms) (he : starEach (e :: es) X.env = (false, eval e X.env) :: starEach es X.env := by rfl) (hpl : (backTo pos (starEach es X.env)).any (·.1) = false := by rfl) : JE W E X (.Call (.Name "int" p) (e :: es) [] pos) (mCB fInt ms) := je_callTy call_int1 int_ok hg hm boot_int ha (by decide) (by decide) he hpl
end

/-! ### xs.append(x) -/
def sApp (mo m : EM) : EM := fun env st => (mo env st).bind fun o st1 => match o with
  | .loc n => match st1[n]? with
    | some (.lst _) => (m env st1).bind fun u st2 => match st2[n]? with
      | some (.lst us) => if us.length < sizeLine then .ok (.d .non) (st2.set n (.lst (us ++ [u]))) else .bad
      | _ => .bad
    | _ => .bad
  | _ => .bad
theorem je_app {o e : Expr} {mo m : EM} {apos cpos : Pos} (hk : X.K = W.K) (ho : JE W E X o mo) (he : JE W E X e m)
    (hbase : attributeBase o "append" X.env (eval o X.env) = eval o X.env := by rfl)
    (hfew : ((backTo cpos (starEach [e] X.env)).all (fun x => !x.1) && (backToKw cpos (keywordEach [] X.env)).all (fun x => x.1.isSome)
      && decide ([e].length + ([] : List Keyword).length + (if ([] : List Keyword).isEmpty then 0 else 1) < 30)) = true := by rfl)
    (hline : (apos.endLine == cpos.line) = true := by rfl) (hs : starEach [e] X.env = (false, eval e X.env) :: starEach [] X.env := by rfl) (hplain : (backTo cpos (starEach [] X.env)).any (·.1) = false := by rfl) :
    JE W E X (.Call (.Attribute o "append" apos) [e] [] cpos) (sApp mo m) := (pe_bm PySem.F.plainAttrs_list PySem.F.slot_list_append PySem.F.type_list_append mt_append ho (pa_cons he pa_nil hs) hbase hfew hline hs hplain).imp (by
  rintro σ H Q ⟨S, l, env, st, rl, re, h⟩
  refine ⟨S, l, env, st, rl, re, (Post.bind (rep := repU W) h).imp ?_⟩
  rintro x H1 ⟨S1, l1, o', st1, x1, r1, p1, h1⟩
  split at h1
  · split at h1
    · rename_i us0 e0
      obtain ⟨a, vs0, ha, rfl, hv0, _⟩ := loc_rep r1 p1 e0
      refine ⟨by rw [hk]; exact .inl ⟨rfl, _, .inl (.inl hv0)⟩, S1, l1, env, st1, r1, re.ext rl x1, (Post.bind (rep := repU W) h1).imp ?_⟩
      rintro y H2 ⟨S2, l2, u, st2, x2, r2, p2, h2⟩
      have p1 := p1.ext r1 x2
      split at h2
      · rename_i us e
        split at h2
        · rename_i hl
          obtain ⟨b, vs, hb, e3, hv, r⟩ := loc_rep r2 p1 e
          cases e3
          have w : Ext S2 l2 H2 S2 l2 (upd H2 a (.lst (vs ++ [y]))) := Ext.write hb
          refine ⟨a, vs, y, rfl, rfl, hv, by rw [r.length]; exact hl, ?_⟩
          exact h2 _ _ _ _ w (r2.write hb (c := .lst (us ++ [u])) ((r.ext r2 w).append (.cons (p2.ext r2 w) .nil))) .non
        · exact h2.elim
      · exact h2.elim
    · exact h1.elim
  · exact h1.elim)
end
end Ct
set_option Elab.async false
set_option maxRecDepth 100000
set_option maxHeartbeats 4000000
/-! isinstance. -/
namespace Ct
open PySem PySem.Spec PyProof.Rows L2
section
variable {W : Wd} {E : XK} {X : Cx} {S S' S2 : Addr → Prop} {l l' l2 : List Addr} {H H' H2 : Hp} {st st' st2 : Store}
/-- the kinds of values -/
inductive Kd where
  | non | bl | int | str | tup | lst | dic | own (c : Nat)
/-- the classes that are asked for -/
inductive Tg where
  | int | bl | str | tup | lst | dic | own (c : Nat)
def kindOf (u : U) (st : Store) : Option Kd := match u with
  | .d .non => some .non
  | .d (.bl _) => some .bl
  | .d (.int _) => some .int
  | .d (.str _) => some .str
  | .d (.tup _) => some .tup
  | .d (.lst _) => some .lst
  | .d (.frz _) => some .lst
  | .d (.obj c _) => some (.own c)
  | .loc n => match st[n]? with
    | some (.lst _) => some .lst
    | some (.dic _) => some .dic
    | some (.ins c _) => some (.own c)
    | none => none
def biK : Kd → Nat
  | .non => 0
  | .bl => 1
  | .int => 2
  | .str => 3
  | .tup => 4
  | .lst => 5
  | .dic => 6
  | .own _ => 7
def biT : Tg → Nat
  | .int => 2
  | .bl => 1
  | .str => 3
  | .tup => 4
  | .lst => 5
  | .dic => 6
  | .own _ => 8
/-- the answer; c0: the class of the own objects -/
def isB (c0 : Nat) (K : Kd) (T : Tg) : Option Bool := match K with
  | .own c => match T with
    | .own d => if c = c0 ∧ d = c0 then some true else none
    | _ => if c = c0 then some false else none
  | K => match T with
    | .own d => if d = c0 then some false else none
    | T => some (biK K == biT T || (biK K == 1 && biT T == 2))
def kdV (W : Wd) : Kd → Value
  | .non => .type "NoneType"
  | .bl => .type "bool"
  | .int => .type "int"
  | .str => .type "str"
  | .tup => .type "tuple"
  | .lst => .type "list"
  | .dic => .type "dict"
  | .own c => .ref (W.cls c)
def tgV (W : Wd) : Tg → Value
  | .int => .type "int"
  | .bl => .type "bool"
  | .str => .type "str"
  | .tup => .type "tuple"
  | .lst => .type "list"
  | .dic => .type "dict"
  | .own c => .ref (W.cls c)
def tgU (W : Wd) : Tg → V
  | .int => .ty "int"
  | .bl => .ty "bool"
  | .str => .ty "str"
  | .tup => .ty "tuple"
  | .lst => .ty "list"
  | .dic => .ty "dict"
  | .own c => .ref (W.cls c)
/-- what isinstance asks of the own class -/
structure IsO (W : Wd) (c : Nat) : Prop where
  cl : Cls W.K (W.cls c)
  ha : PySem.W.findIn W.K (.ref (W.cls c)) "__class__" = some (some (.builtin "object.__class__"))
  hn : PySem.W.specialIn W.K (.builtin "object.__class__") "__get__" = some (some (.builtin "getset_descriptor.__get__"))
  tk : PySem.W.takesIn W.K (.builtin "object.__class__") = some true
  mr : PySem.W.mroIn W.K (W.cls c) (.type "object") = some true
  ne : PySem.W.findIn W.K (.ref (W.cls c)) "__ne__" = some (some (.builtin "object.__ne__"))
  ob : ∀ T : Tg, (∀ d, T ≠ .own d) → PySem.W.kitOne W.K (.ref (W.cls c)) (tgV W T) = some false
  to : ∀ K : Kd, (∀ d, K ≠ .own d) → PySem.W.kitOne W.K (kdV W K) (.ref (W.cls c)) = some false
theorem isB_ok {c0 : Nat} (I : IsO W c0) {K : Kd} {T : Tg} {b : Bool} (h : isB c0 K T = some b) : PySem.W.kitOne W.K (kdV W K) (tgV W T) = some b := by
  have own1 : ∀ {c : Nat} {T : Tg}, (∀ d, T ≠ .own d) → (if c = c0 then some false else none) = some b → PySem.W.kitOne W.K (.ref (W.cls c)) (tgV W T) = some b := by
    intro c T hT h
    split at h
    · rename_i hc
      cases h
      subst hc
      exact I.ob T hT
    · cases h
  have own2 : ∀ {d : Nat} {K : Kd}, (∀ d, K ≠ .own d) → (if d = c0 then some false else none) = some b → PySem.W.kitOne W.K (kdV W K) (.ref (W.cls d)) = some b := by
    intro d K hK h
    split at h
    · rename_i hc
      cases h
      subst hc
      exact I.to K hK
    · cases h
  have own3 : ∀ {c d : Nat}, (if c = c0 ∧ d = c0 then some true else none) = some b → PySem.W.kitOne W.K (.ref (W.cls c)) (.ref (W.cls d)) = some b := by
    intro c d h
    split at h
    · rename_i hc
      cases h
      obtain ⟨h1, h2⟩ := hc
      subst h1
      subst h2
      unfold PySem.W.kitOne
      rw [if_pos]
      simp
    · cases h
  cases K <;> cases T <;> first
    | exact own3 h
    | exact own1 (fun d z => by cases z) h
    | exact own2 (fun d z => by cases z) h
    | (cases h; exact kit_ty (by decide +kernel))
theorem kind_rep {u : U} {x : V} {K : Kd} {c0 : Nat} (I : IsO W c0) (rl : Rel W S l st H) (p : RepU W S l H x u) (h : kindOf u st = some K) (ho : ∀ c, K = .own c → c = c0) : TyX W.K H x (kdV W K) := by
  unfold kindOf at h
  split at h
  · cases h; cases p; exact .base .non
  · cases h; cases p; exact .base (.bl _)
  · cases h; cases p; exact .base (.int _)
  · cases h; cases p; exact .base (.str _)
  · cases h
    cases p with
    | tup q r =>
      rcases q with (q | ⟨o, q⟩) | ⟨o, _, _, q, qc, _⟩
      · exact .base (.tup q)
      · exact .fTuple q
      · exact .kTuple q qc
  · cases h
    cases p with
    | lst q n r => exact .base (.lst q)
  · cases h
    cases p with
    | frz q r =>
      rcases q with ⟨o, q⟩ | ⟨o, its, n, q, qc, _⟩
      · exact .base (.frz q)
      · exact .kList q qc
  · cases h
    cases p with
    | obj q n e1 e2 r =>
      have := ho _ rfl
      subst this
      exact .base (.ins q I.cl I.ha I.hn I.tk I.mr)
  · obtain ⟨a, ha, rfl⟩ := p
    split at h
    · rename_i us e
      cases h
      obtain ⟨b, o, h1, h2, h3⟩ := rl.cell _ _ e
      rw [ha] at h1; cases h1
      cases o <;> first | exact h3.elim | exact .base (.lst h2)
    · rename_i us e
      cases h
      obtain ⟨b, o, h1, h2, h3⟩ := rl.cell _ _ e
      rw [ha] at h1; cases h1
      cases o <;> first | exact h3.elim | exact .base (.dK h2)
    · rename_i c us e
      cases h
      have := ho _ rfl
      subst this
      obtain ⟨b, o, h1, h2, h3⟩ := rl.cell _ _ e
      rw [ha] at h1; cases h1
      cases o <;> first | exact h3.elim | skip
      obtain ⟨rfl, _, _⟩ := h3
      exact .base (.ins h2 I.cl I.ha I.hn I.tk I.mr)
    · cases h
theorem own_of_isB {c0 : Nat} {K : Kd} {T : Tg} {b : Bool} (h : isB c0 K T = some b) : ∀ c, K = .own c → c = c0 := by
  rintro c rfl
  unfold isB at h
  simp only at h
  split at h
  · split at h
    · rename_i hc; exact hc.1
    · cases h
  · split at h
    · rename_i hc; exact hc
    · cases h
/-- isinstance(x, T) -/
def mIsi (c0 : Nat) (T : Tg) (m : EM) : EM := fun env st => (m env st).bind fun u st1 => match kindOf u st1 with
  | some K => match isB c0 K T with
    | some b => .ok (.d (.bl b)) st1
    | none => .bad
  | none => .bad
theorem clsV_tg (T : Tg) : ClsV (tgU W T) (tgV W T) := by
  cases T <;> first | exact .ty _ | exact .own _
theorem je_isi {c0 : Nat} {T : Tg} {x t : Expr} {m : EM} {p pos : Pos} (hk : X.K = W.K) (I : IsO W c0) (hg : Gl X "isinstance") (hm : X.mg "isinstance" = none) (hx : JE W E X x m) (ht : PE X t (tC (tgU W T)))
    (h1 : starEach [x, t] X.env = (false, eval x X.env) :: starEach [t] X.env := by rfl) (h2 : starEach [t] X.env = (false, eval t X.env) :: starEach [] X.env := by rfl) (hpl : (backTo pos (starEach [t] X.env)).any (·.1) = false := by rfl) :
    JE W E X (.Call (.Name "isinstance" p) [x, t] [] pos) (mIsi c0 T m) := (pe_callB call_isi hg hm (by decide +kernel) (pa_cons hx (pa_cons ht pa_nil h2) h1) (by decide) (by decide) h1 hpl).imp (by
  rintro σ H Q ⟨S, l, env, st, rl, re, h⟩
  refine ⟨S, l, env, st, rl, re, (Post.bind (rep := repU W) h).imp ?_⟩
  rintro y H1 ⟨S1, l1, u, st1, x1, r1, p1, h1⟩
  split at h1
  · rename_i K e
    split at h1
    · rename_i b eb
      refine ⟨y, _, kdV W K, tgV W T, b, rfl, clsV_tg T, ?_, ?_, h1.ok r1 (.bl _)⟩
      · rw [hk]; exact kind_rep I r1 p1 e (own_of_isB eb)
      · rw [hk]; exact isB_ok I eb
    · exact h1.elim
  · exact h1.elim)
/-- isinstance(x, (T1, T2)) -/
theorem kitAny2 {c0 : Nat} (I : IsO W c0) {K : Kd} {T1 T2 : Tg} {b1 b2 : Bool} (h1 : isB c0 K T1 = some b1) (h2 : isB c0 K T2 = some b2) : PySem.W.kitAny W.K (kdV W K) [tgV W T1, tgV W T2] = some (b1 || b2) := by
  refine kitAny_cons (isB_ok I h1) (fun e => ?_) (fun e => by rw [e]; rfl)
  rw [e, Bool.false_or]
  refine kitAny_cons (isB_ok I h2) (fun e => ?_) (fun e => e)
  rw [e]
  rfl
def mIsi2 (c0 : Nat) (T1 T2 : Tg) (m : EM) : EM := fun env st => (m env st).bind fun u st1 => match kindOf u st1 with
  | some K => match isB c0 K T1, isB c0 K T2 with
    | some b1, some b2 => .ok (.d (.bl (b1 || b2))) st1
    | _, _ => .bad
  | none => .bad
theorem je_isi2 {c0 : Nat} {T1 T2 : Tg} {x t1 t2 : Expr} {m : EM} {p pos tpos : Pos} {k} (hk : X.K = W.K) (I : IsO W c0) (hg : Gl X "isinstance") (hm : X.mg "isinstance" = none) (hx : JE W E X x m) (ht1 : PE X t1 (tC (tgU W T1))) (ht2 : PE X t2 (tC (tgU W T2)))
    (h1 : starEach [x, .Tuple [t1, t2] k tpos] X.env = (false, eval x X.env) :: starEach [.Tuple [t1, t2] k tpos] X.env := by rfl) (h2 : starEach [.Tuple [t1, t2] k tpos] X.env = (false, eval (.Tuple [t1, t2] k tpos) X.env) :: starEach [] X.env := by rfl)
    (h3 : starEach [t1, t2] X.env = (false, eval t1 X.env) :: starEach [t2] X.env := by rfl) (h4 : starEach [t2] X.env = (false, eval t2 X.env) :: starEach [] X.env := by rfl) (hpl : (backTo pos (starEach [.Tuple [t1, t2] k tpos] X.env)).any (·.1) = false := by rfl) :
    JE W E X (.Call (.Name "isinstance" p) [x, .Tuple [t1, t2] k tpos] [] pos) (mIsi2 c0 T1 T2 m) :=
  (pe_callB call_isiT hg hm (by decide +kernel) (pa_cons hx (pa_cons (pe_tup (pa_cons ht1 (pa_cons ht2 pa_nil h4) h3)) pa_nil h2) h1) (by decide) (by decide) h1 hpl).imp (by
  rintro σ H Q ⟨S, l, env, st, rl, re, h⟩
  refine ⟨S, l, env, st, rl, re, (Post.bind (rep := repU W) h).imp ?_⟩
  rintro y H1 ⟨S1, l1, u, st1, x1, r1, p1, h1⟩
  refine ⟨by show 2 ≤ sizeLine; rw [sizeLine_eq]; decide, fun q hq => ?_⟩
  have r2 : Rel W S1 l1 st1 (upd H1 q (.tup [tgU W T1, tgU W T2])) := r1.new hq
  have p2 := p1.ext r1 (Ext.new (o := .tup [tgU W T1, tgU W T2]) hq)
  split at h1
  · rename_i K e
    split at h1
    · rename_i b1 b2 e1 e2
      refine ⟨y, q, _, kdV W K, [tgV W T1, tgV W T2], _, rfl, upd_same, .cons (clsV_tg T1) (.cons (clsV_tg T2) .nil), ?_, ?_, h1 _ _ _ _ (Ext.new hq) r2 (.bl _)⟩
      · rw [hk]; exact kind_rep I r2 p2 e (own_of_isB e1)
      · rw [hk]; exact kitAny2 I e1 e2
    · exact h1.elim
  · exact h1.elim)
end
end Ct
set_option Elab.async false
set_option maxRecDepth 100000
set_option maxHeartbeats 4000000
/-! List comprehensions. -/
namespace Ct
open PySem PySem.Spec PyProof.Rows L2
section
variable {W : Wd} {E : XK} {X : Cx} {S S' S2 : Addr → Prop} {l l' l2 : List Addr} {H H' H2 : Hp} {st st' st2 : Store}
def wipeE (env : EnvD) : List Nat → EnvD
  | [] => env
  | v :: vs => (wipeE env vs).set v none
theorem RepE.wipe {σ : L2.St} {env : EnvD} (r : RepE W S l H σ env) : ∀ vs : List Nat, RepE W S l H (wipe σ vs) (wipeE env vs)
  | [] => r
  | v :: vs => by
    have q := RepE.wipe r vs
    unfold L2.wipe wipeE
    refine ⟨by simp [q.len], fun i u e => ?_⟩
    by_cases hv : v = i
    · subst hv
      by_cases hl : v < (wipeE env vs).length
      · rw [List.getElem?_set_self hl] at e; cases e
      · rw [List.getElem?_eq_none (by simp; omega)] at e; cases e
    · rw [List.getElem?_set_ne hv] at e
      rw [List.getElem?_set_ne hv]
      exact q.at_ i u e

/-! ### a place that only this construct writes: forbidden to all data -/
mutual
theorem RepD.upd {D : Addr} {o u : HO} (hS : S D) (hD : H D = some u) (k : Kind u) : ∀ {v : V} {d : Ct.D}, RepD W S H v d → RepD W S (upd H D o) v d
  | _, _, .non => .non
  | _, _, .bl b => .bl b
  | _, _, .int i => .int i
  | _, _, .str s => .str s
  | _, _, .tup q r => .tup (by
      have ne : ∀ {a : Addr} {w : HO}, H a = some w → ¬ Kind w → a ≠ D := fun e n z => by rw [z, hD] at e; cases e; exact n k
      rcases q with (q | ⟨b, q⟩) | q
      · exact .inl (.inl (by rw [upd_ne (ne q (fun z => z))]; exact q))
      · exact .inl (.inr ⟨b, by rw [upd_ne (ne q (fun z => z))]; exact q⟩)
      · exact .inr q) (RepL.upd hS hD k r)
  | _, _, .lst q n r => .lst (by rw [upd_ne (fun z => n (by rw [z]; exact hS))]; exact q) n (RepL.upd hS hD k r)
  | _, _, .frz q r => .frz (by
      rcases q with ⟨o, q⟩ | q
      · exact .inl ⟨o, by rw [upd_ne (fun z => by rw [z, hD] at q; cases q; exact k)]; exact q⟩
      · exact .inr q) (RepL.upd hS hD k r)
  | _, _, .obj q n e ll r => .obj (by rw [upd_ne (fun z => n (by rw [z]; exact hS))]; exact q) n e ll (RepL.upd hS hD k r)
theorem RepL.upd {D : Addr} {o u : HO} (hS : S D) (hD : H D = some u) (k : Kind u) : ∀ {vs : List V} {ds : List Ct.D}, RepL W S H vs ds → RepL W S (upd H D o) vs ds
  | _, _, .nil => .nil
  | _, _, .cons a t => .cons (RepD.upd hS hD k a) (RepL.upd hS hD k t)
end
theorem RepU.upd {D : Addr} {o u : HO} (hS : S D) (hD : H D = some u) (k : Kind u) {v : V} : ∀ {x : U}, RepU W S l H v x → RepU W S l (upd H D o) v x
  | .d _, r => RepD.upd hS hD k r
  | .loc _, r => r
theorem RepUs.upd {D : Addr} {o u : HO} (hS : S D) (hD : H D = some u) (k : Kind u) : ∀ {vs : List V} {us : List U}, RepUs W S l H vs us → RepUs W S l (upd H D o) vs us
  | _, _, .nil => .nil
  | _, _, .cons a t => .cons (a.upd hS hD k) (t.upd hS hD k)
theorem RepC.upd {D : Addr} {o u : HO} (hS : S D) (hD : H D = some u) (k : Kind u) {h : HO} {c : Cell} (r : RepC W S l H h c) : RepC W S l (upd H D o) h c := by
  cases h <;> cases c <;> first | exact r.elim | exact RepUs.upd hS hD k r | exact ⟨r.1, RepUs.upd hS hD k r.2⟩ | exact ⟨r.1, r.2.1, RepUs.upd hS hD k r.2.2⟩
theorem Rel.upd {D : Addr} {o u : HO} (h : Rel W S l st H) (hS : S D) (hl : D ∉ l) (hD : H D = some u) (k : Kind u) : Rel W S l st (upd H D o) := by
  refine ⟨h.len, h.nd, h.sub, fun a z => ?_, fun n c e => ?_, tabs_write h.tabs hD k⟩
  · by_cases ha : a = D
    · rw [ha, upd_same]; simp
    · rw [upd_ne ha]; exact h.dom a z
  · obtain ⟨a, w, h1, h2, h3⟩ := h.cell n c e
    refine ⟨a, w, h1, ?_, h3.upd hS hD k⟩
    rw [upd_ne (fun z => hl (by rw [← z]; exact List.mem_of_getElem? h1))]
    exact h2
/-- what an empty new list at D makes of the state -/
theorem rel_hold {D : Addr} (h : Rel W S l st H) (hD : H D = none) : Ext S l H (fun a => S a ∨ a = D) l (upd H D (.lst [])) ∧ Rel W (fun a => S a ∨ a = D) l st (upd H D (.lst [])) := by
  have x : Ext S l H (fun a => S a ∨ a = D) l (upd H D (.lst [])) := ⟨⟨[], by simp, by simp⟩, fun a z => .inl z, fun a z => z.elim .inl (fun e => .inr (by rw [e]; exact hD)), fun a o _ e _ => upd_keeps hD a o e, fun a z => by
    cases q : H a with
    | none => exact absurd q z
    | some u => rw [upd_keeps hD a u q]; simp⟩
  refine ⟨x, h.len, h.nd, fun a z => .inl (h.sub a z), fun a z => ?_, fun n c e => ?_, h.tabs.ext (upd_keeps hD)⟩
  · rcases z with z | z
    · exact x.dom a (h.dom a z)
    · rw [z, upd_same]; simp
  · obtain ⟨a, w, h1, h2, h3⟩ := h.cell n c e
    exact ⟨a, w, h1, upd_keeps hD a w h2, h3.ext h x⟩
/-- the list at D is handed out -/
theorem ext_free {D : Addr} {S1 : Addr → Prop} {l1 : List Addr} {H1 : Hp} (x : Ext S1 l1 H1 S l H) (h1 : ∀ a, S1 a → H1 a ≠ none) (hD : H1 D = none) : Ext S1 l1 H1 (fun a => S a ∧ a ≠ D) l H :=
  ⟨x.pre, fun a z => ⟨x.s1 a z, fun e => h1 a z (by rw [e]; exact hD)⟩, fun a z => x.s2 a z.1, x.keep, x.dom⟩
theorem RepU.less (hs : ∀ a, S' a → S a) {v : V} : ∀ {u : U}, RepU W S l H v u → RepU W S' l H v u
  | .d _, r => RepD.less hs r
  | .loc _, r => r
theorem RepUs.less (hs : ∀ a, S' a → S a) : ∀ {vs : List V} {us : List U}, RepUs W S l H vs us → RepUs W S' l H vs us
  | _, _, .nil => .nil
  | _, _, .cons a t => .cons (a.less hs) (t.less hs)
theorem RepC.less (hs : ∀ a, S' a → S a) {h : HO} {c : Cell} (r : RepC W S l H h c) : RepC W S' l H h c := by
  cases h <;> cases c <;> first | exact r.elim | exact RepUs.less hs r | exact ⟨r.1, RepUs.less hs r.2⟩ | exact ⟨r.1, r.2.1, RepUs.less hs r.2.2⟩
theorem rel_free {D : Addr} (h : Rel W S l st H) (hl : D ∉ l) : Rel W (fun a => S a ∧ a ≠ D) l st H :=
  ⟨h.len, h.nd, fun a z => ⟨h.sub a z, fun e => hl (by rw [← e]; exact z)⟩, fun a z => h.dom a z.1, fun n c e => let ⟨a, o, h1, h2, h3⟩ := h.cell n c e; ⟨a, o, h1, h2, h3.less fun a z => z.1⟩, h.tabs⟩
theorem rel_cellD {D : Addr} {vs : List V} {us : List U} (h : Rel W S l st H) (hS : S D) (hl : D ∉ l) (hD : H D = some (.lst vs)) (r : RepUs W S l H vs us) : Rel W S (l ++ [D]) (st ++ [.lst us]) H := by
  have up : ∀ {v : V} {u : U}, RepU W S l H v u → RepU W S (l ++ [D]) H v u := fun {v u} q => by
    cases u with
    | d x => exact q
    | loc n => obtain ⟨a, e, z⟩ := q; exact ⟨a, by rw [List.getElem?_append_left (List.getElem?_eq_some_iff.mp e).1]; exact e, z⟩
  have ups : ∀ {vs : List V} {us : List U}, RepUs W S l H vs us → RepUs W S (l ++ [D]) H vs us := by
    intro vs us q
    induction q with
    | nil => exact .nil
    | cons a t ih => exact .cons (up a) ih
  refine ⟨by simp [h.len], ?_, fun a z => ?_, h.dom, fun n c e => ?_, h.tabs⟩
  · rw [List.nodup_append]
    refine ⟨h.nd, by simp, fun a ha b hb e => ?_⟩
    simp at hb
    subst hb; subst e
    exact hl ha
  · rcases List.mem_append.mp z with z | z
    · exact h.sub a z
    · simp at z; rw [z]; exact hS
  · by_cases hn : n < st.length
    · rw [List.getElem?_append_left hn] at e
      obtain ⟨a, o, h1, h2, h3⟩ := h.cell n c e
      refine ⟨a, o, by rw [List.getElem?_append_left (by rw [h.len]; exact hn)]; exact h1, h2, ?_⟩
      cases o <;> cases c <;> first | exact h3.elim | exact ups h3 | exact ⟨h3.1, ups h3.2⟩ | exact ⟨h3.1, h3.2.1, ups h3.2.2⟩
    · have hn2 : n < (st ++ [Cell.lst us]).length := (List.getElem?_eq_some_iff.mp e).1
      have : n = st.length := by simp at hn2; omega
      subst this
      rw [List.getElem?_append_right (Nat.le_refl _), Nat.sub_self] at e
      cases e
      exact ⟨D, _, by rw [← h.len, List.getElem?_append_right (Nat.le_refl _), Nat.sub_self]; rfl, hD, ups r⟩

/-! ### the loop -/
/-- what raises nothing -/
def R.nox {α : Type} : R α → R α
  | .exc _ _ => .bad
  | r => r
@[simp] theorem R.nox_ok {α : Type} (a : α) (st : Store) : (R.ok a st).nox = .ok a st := rfl
theorem Post.nox {α β : Type} {rep : (Addr → Prop) → List Addr → Hp → β → α → Prop} {Q : β → Hp → Prop} {r : R α} (h : Post W rep E S l H Q r.nox) : Post W rep E0 S l H Q r := by
  cases r with
  | ok a st' => exact h
  | exc e st' => exact h.elim
  | bad => exact h
open Classical in
noncomputable def lcLoop (s : Src) (g : GM) (t : TM) (e : EM) (env : EnvD) : List U → List U → Store → R (List U)
  | [], acc, st => if guarded s.1 s.2 st then .ok acc st else .bad
  | u :: r, acc, st => if guarded s.1 s.2 st then (g u env st).nox.bind fun env1 st1 => (t env1 st1).nox.bind fun b st2 => if b = true then (e env1 st2).nox.bind fun x st3 => if acc.length < sizeLine then lcLoop s g t e env r (acc ++ [x]) st3 else .bad
      else lcLoop s g t e env r acc st2 else .bad
noncomputable def lcRun (vs : List Nat) (mi : IM) (g : GM) (t : TM) (e : EM) (k : List U → Store → R U) : EM := fun env st => (mi env st).bind fun s st1 => (lcLoop s g t e (wipeE env vs) s.2 [] st1).bind fun us st2 => k us st2
def kFrz : List U → Store → R U := fun us st => match dsOf us with
  | some ds => .ok (.d (.lst ds)) st
  | none => .bad
/-- the list a cell of the store -/
def kCell : List U → Store → R U := fun us st => .ok (.loc st.length) (st ++ [.lst us])
noncomputable def mLc (vs : List Nat) (mi : IM) (g : GM) (t : TM) (e : EM) : EM := lcRun vs mi g t e kFrz
noncomputable def mLcC (vs : List Nat) (mi : IM) (g : GM) (t : TM) (e : EM) : EM := lcRun vs mi g t e kCell
def tTrue : TM := fun _ st => .ok true st
/-- how the list at D ends -/
def KOk (W : Wd) (E : XK) (k : List U → Store → R U) : Prop := ∀ S l st H D vs us Q S1 l1 H1, Ext S1 l1 H1 S l H → (∀ a, S1 a → H1 a ≠ none) → H1 D = none → Rel W S l st H → S D → D ∉ l → H D = some (.lst vs) → RepUs W S l H vs us → Post W (repU W) E S1 l1 H1 Q (k us st) → Q (.ref D) H
theorem kFrz_ok : KOk W E kFrz := by
  intro S l st H D vs us Q S1 l1 H1 x d1 n1 rl hS hl hD r h
  unfold kFrz at h
  split at h
  · rename_i ds e
    refine h _ _ _ _ (ext_free x d1 n1) (rel_free rl hl) (.lst hD (fun z => z.2 rfl) ?_)
    rw [dsOf_eq e] at r
    exact RepL.less (fun a z => z.1) r.ds
  · exact h.elim
theorem kCell_ok : KOk W E kCell := by
  intro S l st H D vs us Q S1 l1 H1 x d1 n1 rl hS hl hD r h
  refine h _ _ _ _ ?_ (rel_cellD rl hS hl hD r) ⟨D, by rw [← rl.len, List.getElem?_append_right (Nat.le_refl _), Nat.sub_self]; rfl, rfl⟩
  obtain ⟨q, e, f⟩ := x.pre
  refine ⟨⟨q ++ [D], by rw [e, List.append_assoc], fun a z => ?_⟩, x.s1, x.s2, x.keep, x.dom⟩
  rcases List.mem_append.mp z with z | z
  · exact f a z
  · simp at z; rw [z]; exact n1
theorem Only.wipe {ts vs : List Nat} {σ σ2 : L2.St} (x : Only ts σ σ2) (h : ∀ i ∈ ts, i ∈ vs) : wipe σ2 vs = wipe σ vs := x vs h
theorem wipe_wipe (σ : L2.St) (vs : List Nat) : wipe (wipe σ vs) vs = wipe σ vs := by
  apply List.ext_getElem?
  intro j
  rw [wipe_get, wipe_length, wipe_get]
  by_cases hj : j ∈ vs
  · rw [if_pos hj, if_pos hj]
  · rw [if_neg hj, if_neg hj]
/-- one more item -/
theorem app_state {D : Addr} {S1 : Addr → Prop} {l1 : List Addr} {H1 : Hp} {vs : List V} {us : List U} {y : V} {u : U} (x : Ext S1 l1 H1 S l H) (n1 : H1 D = none) (rl : Rel W S l st H) (hS : S D) (hl : D ∉ l) (hD : H D = some (.lst vs)) (r : RepUs W S l H vs us) (p : RepU W S l H y u) :
    Ext S1 l1 H1 S l (upd H D (.lst (vs ++ [y]))) ∧ Rel W S l st (upd H D (.lst (vs ++ [y]))) ∧ RepUs W S l (upd H D (.lst (vs ++ [y]))) (vs ++ [y]) (us ++ [u]) := by
  refine ⟨⟨x.pre, x.s1, x.s2, fun a o h1 h2 h3 => ?_, fun a z => ?_⟩, rl.upd hS hl hD trivial, (r.upd hS hD trivial).append (.cons (p.upd hS hD trivial) .nil)⟩
  · rw [upd_ne (fun e => by rw [e, n1] at h2; cases h2)]
    exact x.keep a o h1 h2 h3
  · by_cases ha : a = D
    · rw [ha, upd_same]; simp
    · rw [upd_ne ha]; exact x.dom a z
theorem lc_read {vs ts : List Nat} {mi : IM} {g : GM} {t : TM} {e : EM} {k : List U → Store → R U} (hts : ∀ i ∈ ts, i ∈ vs) (hk : KOk W E k) : ∀ σ H Q, tE W E (lcRun vs mi g t e k) σ H Q → tLc (tIt W E mi) (tG W E0 ts g) (tT W E0 t) (tE W E0 e) vs σ H Q := by
  rintro σ H Q ⟨S0, l0, env, st0, rl0, re0, h⟩
  refine ⟨S0, l0, env, st0, rl0, re0, (Post.bind (rep := repI W) h).imp ?_⟩
  rintro J H1 ⟨S1, l1, s, st1, x1, r1, p1, h1⟩ D n1
  have re1 := (re0.ext rl0 x1).wipe vs
  clear h x1 re0 rl0
  obtain ⟨xh, rh⟩ := rel_hold r1 n1
  -- the invariant
  refine ⟨fun i m G => m = s.2.length - i ∧ i ≤ s.2.length ∧ ∃ S l st acc ws, Ext S1 l1 H1 S l G ∧ Rel W S l st G ∧ S D ∧ D ∉ l ∧ G D = some (.lst ws) ∧ RepUs W S l G ws acc ∧
      Post W (repU W) E S1 l1 H1 Q ((lcLoop s g t e (wipeE env vs) (s.2.drop i) acc st).bind fun us st2 => k us st2),
    ⟨_, rfl, Nat.zero_le _, _, l1, st1, [], [], xh, rh, .inr rfl, fun z => r1.free n1 (r1.sub D z), upd_same, .nil, h1⟩, ?_⟩
  rintro i m G ⟨rfl, hi, S, l, st, acc, ws, x, rl, hS, hl, hD, r, h⟩
  have re := re1.ext r1 x
  by_cases hil : i < s.2.length
  · right
    rw [List.drop_eq_getElem_cons hil] at h
    unfold lcLoop at h
    split at h
    · rename_i hgd
      obtain ⟨hgo, hy⟩ := (p1 S l st G x rl hgd i).2 s.2[i] (List.getElem?_eq_getElem hil)
      refine ⟨hgo, fun G' => i + 1 ≤ s.2.length ∧ ∃ S l st acc ws, Ext S1 l1 H1 S l G' ∧ Rel W S l st G' ∧ S D ∧ D ∉ l ∧ G' D = some (.lst ws) ∧ RepUs W S l G' ws acc ∧
        Post W (repU W) E S1 l1 H1 Q ((lcLoop s g t e (wipeE env vs) (s.2.drop (i + 1)) acc st).bind fun us st2 => k us st2), fun G' z => ⟨_, by omega, rfl, z⟩, fun y G2 hyl => ?_⟩
      obtain ⟨S2, l2, x2, r2, p2⟩ := hy y G2 hyl
      -- from here on: what is known of D goes along
      have go : ∀ {S2 l2 st2 G2}, Ext S l G S2 l2 G2 → Rel W S2 l2 st2 G2 → S2 D ∧ D ∉ l2 ∧ G2 D = some (.lst ws) ∧ RepUs W S2 l2 G2 ws acc := fun {S2 l2 st2 G2} x2 r2 => by
        refine ⟨x2.s1 D hS, fun z => ?_, x2.keep D _ hl hD (fun ps z => by cases z), r.ext rl x2⟩
        obtain ⟨q, e1, f⟩ := x2.pre
        rw [e1] at z
        rcases List.mem_append.mp z with z | z
        · exact hl z
        · rw [f D z] at hD; cases hD
      refine ⟨S2, l2, wipeE env vs, st, _, r2, re.ext rl x2, p2, ?_⟩
      cases eg : g s.2[i] (wipeE env vs) st with
      | bad => rw [eg] at h; exact h.elim
      | exc z q => rw [eg] at h; exact h.elim
      | ok env3 st3 =>
        rw [eg] at h
        rintro σ3 S3 l3 G3 x3 r3 ⟨re3, on3⟩
        refine ⟨by rw [on3.wipe hts, wipe_wipe], S3, l3, env3, st3, r3, re3, ?_⟩
        simp only [R.nox_ok, R.bind_ok] at h
        cases et : t env3 st3 with
        | bad => rw [et] at h; exact h.elim
        | exc z q => rw [et] at h; exact h.elim
        | ok b st4 =>
          rw [et] at h
          simp only [R.nox_ok, R.bind_ok] at h
          rintro b' S4 l4 G4 x4 r4 p4
          have p4 : b' = b := p4
          subst p4
          have x24 := (x2.trans x3).trans x4
          cases b' with
          | false =>
            refine iteF ?_
            rw [if_neg Bool.false_ne_true] at h
            obtain ⟨a1, a2, a3, a4⟩ := go x24 r4
            exact ⟨hil, S4, l4, st4, acc, ws, x.trans x24, r4, a1, a2, a3, a4, h⟩
          | true =>
            refine iteT ?_
            rw [if_pos rfl] at h
            refine ⟨S4, l4, env3, st4, r4, re3.ext r3 x4, ?_⟩
            cases ee : e env3 st4 with
            | bad => rw [ee] at h; exact h.elim
            | exc z q => rw [ee] at h; exact h.elim
            | ok u st5 =>
              rw [ee] at h
              simp only [R.nox_ok, R.bind_ok] at h
              rintro v S5 l5 G5 x5 r5 p5
              have x25 := x24.trans x5
              obtain ⟨a1, a2, a3, a4⟩ := go x25 r5
              split at h
              · rename_i hlen
                obtain ⟨b1, b2, b3⟩ := app_state (x.trans x25) n1 r5 a1 a2 a3 a4 p5
                exact ⟨ws, a3, by rw [a4.length]; exact hlen, hil, S5, l5, st5, acc ++ [u], _, b1, b2, a1, a2, upd_same, b3, h⟩
              · exact h.elim
    · exact h.elim
  · left
    have hie : s.2.length = i := by omega
    rw [List.drop_of_length_le (by omega)] at h
    unfold lcLoop at h
    split at h
    · rename_i hgd
      exact ⟨(p1 S l st G x rl hgd i).1 hie, hk S l st G D ws acc Q S1 l1 H1 x r1.dom n1 rl hS hl hD r h⟩
    · exact h.elim
theorem _root_.L2.PTs.imp {X : Cx} {es : List Expr} {t t' : TT} (h : PTs X es t) (i : ∀ σ H Q, t' σ H Q → t σ H Q) : PTs X es t' := ⟨fun pins s σ H Q I q => h.run pins s σ H Q I (i σ H Q q)⟩
theorem jts_nil : PTs X [] (tT W E tTrue) := pts_nil.imp fun σ H Q ⟨S, l, env, st, rl, re, h⟩ => h.ok rl rfl
theorem jts_one {c : Expr} {t : TM} (h : JT W E X c t) : PTs X [c] (tT W E t) := pts_one h
section
variable {elt tg iter : Expr} {ifs : List Expr} {scope : Scope} {own : List (Str × Nat)} {pos : Pos} {ts : List Nat} {mi : IM} {g : GM} {t : TM} {e : EM} {k : List U → Store → R U}
theorem je_lc (hk : KOk W E k) (hts : ∀ i ∈ ts, i ∈ own.map (·.2)) (hc : X.calm = true) (hN : X.N.Nodup) (hi : JI W E X tg iter mi) (ok : BlkOk X.N X.env.scope scope own)
    (hg : ∀ (s : Shared) (H : Hp) (C : Addr) (cl : List (Str × Addr)) (fp : List Addr), JG W E0 (X.blk s H scope (compEnvC scope cl C X.env) fp) tg ts g) (ht : ∀ (s : Shared) (H : Hp) (C : Addr) (cl : List (Str × Addr)) (fp : List Addr), PTs (X.blk s H scope (compEnvC scope cl C X.env) fp) ifs (tT W E0 t))
    (he : ∀ (s : Shared) (H : Hp) (C : Addr) (cl : List (Str × Addr)) (fp : List Addr), JE W E0 (X.blk s H scope (compEnvC scope cl C X.env) fp) elt e) (hs : ∀ x, foldedSetIterable iter X.env x = pure x := by intro _; rfl) :
    JE W E X (.ListComp elt [⟨tg, iter, ifs, 0⟩] scope pos) (lcRun (own.map (·.2)) mi g t e k) := (pe_lc hc hN hi ok hg ht he hs).imp (lc_read hts hk)
theorem js_setLc {i : Nat} {y : Str} {py spos : Pos} (hk : KOk W E k) (hts : ∀ i ∈ ts, i ∈ own.map (·.2)) (hc : X.calm = true) (hN : X.N.Nodup) (hy : X.N[i]? = some y) (hyl : X.env.scope.names.lookup y = some .local)
    (hsw : swapsWith (.ListComp elt [⟨tg, iter, ifs, 0⟩] scope pos) (some (.Name y py)) spos.line X.env = pure true) (hi : JI W E X tg iter mi) (ok : BlkOk X.N X.env.scope scope own)
    (hg : ∀ (s : Shared) (H : Hp) (C : Addr) (cl : List (Str × Addr)) (fp : List Addr), JG W E0 (X.blk s H scope (compEnvC scope cl C X.env) fp) tg ts g) (ht : ∀ (s : Shared) (H : Hp) (C : Addr) (cl : List (Str × Addr)) (fp : List Addr), PTs (X.blk s H scope (compEnvC scope cl C X.env) fp) ifs (tT W E0 t))
    (he : ∀ (s : Shared) (H : Hp) (C : Addr) (cl : List (Str × Addr)) (fp : List Addr), JE W E0 (X.blk s H scope (compEnvC scope cl C X.env) fp) elt e) (hs : ∀ x, foldedSetIterable iter X.env x = pure x := by intro _; rfl) :
    JS W E X (.Assign [.Name y py] (.ListComp elt [⟨tg, iter, ifs, 0⟩] scope pos) spos) (sAsg (lcRun (own.map (·.2)) mi g t e k) (gVar i)) := (ps_setLc hc hN hy hyl hsw hi ok hg ht he hs).imp (by
  rintro D σ H ⟨S, l, env, st, rl, re, h⟩
  show tLc _ _ _ _ _ σ H _
  refine lc_read hts hk σ H _ ⟨S, l, env, st, rl, re, (Post.andS (rep := repU W) h).imp ?_⟩
  rintro x H1 ⟨S1, l1, u, st1, x1, r1, p1, h1⟩
  exact h1 _ S1 l1 H1 (Ext.refl _ _ _) r1 ((re.ext rl x1).set i p1))
end
/-- within a comprehension nothing is let out -/
theorem takes0E : TakesE X E0 := takes0
end
end Ct
set_option Elab.async false
set_option maxRecDepth 100000
set_option maxHeartbeats 4000000
/-! Generator expressions: making, one turn, consumers. -/
namespace Ct
open PySem PySem.Spec PyProof.Rows L2 GenW

/-- the names of a generator expression's scope -/
structure GxS (N : List Str) (sc scope : Scope) (own : List (Str × Nat)) : Prop where
  kind : scope.kind = .function
  co : scope.isCoroutine = false
  cell : ∀ y ∈ scope.names, y.2 ≠ .cell
  dot : scope.names.lookup (".0" : Str) = some NameKind.local
  ix : ∀ p ∈ own, N[p.2]? = some p.1
  free : ∀ y ∈ scope.names, y.2 = .free → sc.names.lookup y.1 = some .cell ∨ sc.names.lookup y.1 = some .free
  own : ∀ y ∈ scope.names, y.2 = .local → y.1 ∈ own.map (·.1) ∨ y.1 ∉ N
theorem GxS.has {X : Cx} {scope : Scope} {own : List (Str × Nat)} (L : GxS X.N X.env.scope scope own) (ok : X.Ok) : ∀ y ∈ scope.names, y.2 = .free → ∃ c, X.env.cells.lookup y.1 = some c := fun y hy e => by
  rcases L.free y hy e with k | k
  · exact ok.has _ (.inl k)
  · exact ok.has _ (.inr k)
abbrev gxEnv (X : Cx) (scope : Scope) (C : Addr) (code : Value) : Env := genEnv scope (cloFrom X.env.cells scope.names []) C code builtinsNs X.env
/-- its body's context: made at s, run under A -/
abbrev gxCx (X : Cx) (A : Around) (s : Shared) (H : Hp) (scope : Scope) (C : Addr) (code : Value) (fp : List Addr) (pn : List (Addr × Obj)) : Cx :=
  { X with A := A.deeper (gxEnv X scope C code), s_0 := s, H_0 := H, env := gxEnv X scope C code, outer := X.stack, stack := gxEnv X scope C code :: X.stack, ex := fp, fn := fun _ => false, calm := true, pn := pn, xe := fun _ _ => False }
section
variable {X : Cx} {pins : List (Addr × Obj)} {σ : L2.St} {H : Hp} {s : Shared}
theorem gx_start {A : Around} {scope : Scope} {own : List (Str × Nat)} {fp : List Addr} {code : Value} {h' : Heap} {G : Array GenState} {tk : Nat} {it : Value} {a : Addr} {go : Obj}
    (I : Inv X pins σ H s) (ok : GxS X.N X.env.scope scope own) (hN : X.N.Nodup) (hd : A.handled = none) (hfr : A.frames = some X.stack) (hfp : ∀ b ∈ fp, FpOk X pins H b ∧ b < s.heap.objs.size)
    (hns : h'.Ns s.heap.objs.size fun y => if y = ".0" then some it else none) (kp : ∀ b o, s.heap.get? b = some o → h'.get? b = some o) (hG : AllBare G)
    (ha : s.heap.objs.size < a) (hgo : h'.get? a = some go) (hgd : ∀ v, go.data ≠ .cell v) :
    Inv (gxCx X A s H scope s.heap.objs.size code fp [(a, go)]) [] (wipe σ (own.map (·.2))) H { s with heap := h', gens := G, toks := tk } := by
  have hfree := ok.has I.ok
  have e0 := I.env0
  have cm : ∀ {y c}, (cloFrom X.env.cells scope.names []).lookup y = some c → X.env.cells.lookup y = some c := fun {y c} e => by
    rcases cloFrom_mem (PySem.mem_of_lookup e) with hm | ⟨h1, h2⟩
    · cases hm
    · obtain ⟨c1, hc⟩ := hfree _ h1 rfl
      have hc : X.env.cells.lookup y = some c1 := hc
      have e2 : c = c1 := by
        rw [h2, hc] <;> rfl
      rw [e2]
      exact hc
  have look : ∀ {y}, scope.names.lookup y = some .free → ∃ c, (cloFrom X.env.cells scope.names []).lookup y = some c := fun {y} hl => by
    have hy : (y, NameKind.free) ∈ scope.names := PySem.mem_of_lookup hl
    exact mem_lookup (cloFrom_has (cells := X.env.cells) (acc := []) hy)
  have cellK : ∀ {c : Addr} {v : Option Value}, s.heap.IsCell c v → h'.IsCell c v := fun {c v} ⟨o, ho, hd⟩ => ⟨_, kp _ _ ho, hd⟩
  have stk : ∀ b ∈ fp, b ∉ frs X.stack := fun b hb z => by
    rcases List.mem_cons.mp (I.stkSub b z) with z | z
    · exact (hfp b hb).1.2.1 z
    · exact (hfp b hb).1.2.2.1 z
  refine ⟨⟨e0.mod, ok.kind, I.ok.glob, rfl, Nat.le_refl _, fun y z c e1 e2 => I.ok.inj y z c (cm e1) (cm e2), fun y hy => ?_, fun y c z _ => ?_, fun _ => hd, Around.frames_deeper hfr, .inr ⟨rfl, rfl⟩, fun b hb => ⟨?_, fun y c e z => ?_⟩, e0.bs, e0.bsz, fun b o e hb => ?_, stk, e0.funs, e0.frf⟩,
    rfl, hG, Un.kept kp, ⟨_, hns, fun i y v e1 e2 e3 => ?_⟩, fun y c e => ?_, e0.hok.fresh (Nat.le_refl _), fun y c e => ?_, fun q hq => ?_, e0.hok.kept kp, by rw [wipe_length]; exact I.len⟩
  · have hy : scope.names.lookup y = some .cell ∨ scope.names.lookup y = some .free := hy
    rcases hy with hy | hy
    · exact absurd rfl (ok.cell _ (PySem.mem_of_lookup hy))
    · exact look hy
  · have z : false = true := z
    cases z
  · exact Nat.ne_of_lt (hfp b hb).2
  · exact (hfp b hb).1.2.2.2.2.1 y c (cm e) z
  · rcases (hfp b hb).1.2.2.2.1 with z | z
    · exact I.ok.noex b o e z
    · exact absurd (Nat.lt_of_lt_of_le (Heap.lt_size e) (Nat.le_trans I.ok.bsz z)) (Nat.lt_irrefl _)
  · obtain ⟨e2, hne⟩ := wipe_some e2
    have e3 : Vis scope y := e3
    rcases e3 with k | k | k
    · rcases ok.own _ (PySem.mem_of_lookup k) rfl with e' | e'
      · obtain ⟨p, hp, hpy⟩ := List.mem_map.mp e'
        have e4 := ok.ix p hp
        have hpy : p.1 = y := hpy
        rw [hpy] at e4
        exact absurd (List.mem_map.mpr ⟨p, hp, nodup_ix hN e4 e1⟩) hne
      · exact absurd (List.mem_of_getElem? e1) e'
    · exact absurd rfl (ok.cell _ (PySem.mem_of_lookup k))
    · obtain ⟨m, hn, hl⟩ := I.loc
      have hvis : Vis X.env.scope y := (ok.free _ (PySem.mem_of_lookup k) rfl).elim (fun k => .inr (.inl k)) (fun k => .inr (.inr k))
      obtain ⟨w, r, q⟩ := hl i y v e1 e2 hvis
      refine ⟨w, r, .inr ⟨.inr k, ?_⟩⟩
      obtain ⟨c, h1⟩ := look k
      have h2 := cm h1
      rcases q with ⟨k', _⟩ | ⟨_, c', e', z⟩
      · have k' : X.env.scope.names.lookup y = some .local := k'
        rcases ok.free _ (PySem.mem_of_lookup k) rfl with k2 | k2 <;> rw [show X.env.scope.names.lookup y = _ from k2] at k' <;> cases k'
      · rw [h2] at e'; cases e'
        exact ⟨c, h1, cellK z⟩
  · obtain ⟨w, z⟩ := I.cell y c (cm e)
    exact ⟨w, cellK z⟩
  · exact I.freeC y c (cm e)
  · have hq : q ∈ [(a, go)] := by simpa using hq
    rw [List.mem_singleton.mp hq]
    refine ⟨hgo, I.hok.fresh (Nat.le_of_lt ha), Nat.ne_of_gt ha, fun z => ?_, hgd⟩
    have z : a ∈ frs X.stack := z
    rcases List.mem_cons.mp (I.stkSub a z) with z | z
    · have := I.lt
      rw [← z] at this
      exact absurd (Nat.lt_trans this ha) (Nat.lt_irrefl _)
    · exact I.nofs (Nat.le_of_lt ha) z
end

/-! ### one run of it -/
/-- running or asleep: cp: what its consumer holds -/
def GxI (Y : Cx) (tn : Nat → Heap → Prop) (fp : List Addr) (σw : L2.St) (cp : List (Addr × Obj)) (i : Nat) (H : Hp) (s : Shared) : Prop := Inv Y cp σw H s ∧ tn i s.heap ∧ ∀ b ∈ fp, H b = none
def AtH (cp : List (Addr × Obj)) (h : Heap) : Prop := ∀ p ∈ cp, h.get? p.1 = some p.2
/-- what the consumer's own places are -/
structure CsOk (Y : Cx) (fp : List Addr) (cs : List Addr) : Prop where
  young : ∀ c ∈ cs, Y.s_0.heap.objs.size ≤ c
  loc : ∀ c ∈ cs, c ≠ Y.env.locals
  cell : ∀ c ∈ cs, ∀ x d, Y.env.cells.lookup x = some d → d ≠ c
  pn : ∀ c ∈ cs, ∀ p ∈ Y.pn, p.1 ≠ c
  fp : ∀ c ∈ cs, c ∉ fp
structure HoldOk {β : Type} (Hold : β → List (Addr × Obj) → Prop) (cs : List Addr) : Prop where
  at_ : ∀ b cp, Hold b cp → cp.map (·.1) = cs
  nc : ∀ b cp, Hold b cp → ∀ p ∈ cp, ∀ v, p.2.data ≠ .cell v
section
variable {Y : Cx} {tn : Nat → Heap → Prop} {fp cs : List Addr} {σw : L2.St} {β : Type} {Hold : β → List (Addr × Obj) → Prop}
theorem Inv.gens {X : Cx} {pins : List (Addr × Obj)} {σ : L2.St} {H : Hp} {s : Shared} (I : Inv X pins σ H s) {g' : Array GenState} (hg : AllBare g') : Inv X pins σ H { s with gens := g' } :=
  I.call (h' := s.heap) (g' := g') (t' := s.toks) (d' := s.drawn) (ch := []) Un.refl I.hok hg (fun b z => by simp at z)
/-- the consumer has written its own places -/
theorem Inv.woke {Y : Cx} {cs : List Addr} {σw : L2.St} {cp : List (Addr × Obj)} {H : Hp} {s : Shared} {h' : Heap} {G : Array GenState} {tk : Nat} (C : CsOk Y fp cs) (I : Inv Y cp σw H s) (hcp : cp.map (·.1) = cs)
    (k : ∀ x o, x ∉ cs → s.heap.get? x = some o → h'.get? x = some o) (hG : AllBare G) : Inv Y [] σw H { s with heap := h', gens := G, toks := tk } := by
  have I0 : Inv Y [] σw H s := I.pins_of fun p hp => by simp at hp
  have csN : ∀ c ∈ cs, H c = none := fun c hc => by
    rw [← hcp] at hc
    obtain ⟨p, hp, rfl⟩ := List.mem_map.mp hc
    exact (I.pin p (List.mem_append_right _ hp)).2.1
  have nt : ∀ x u, H x = some u → x ∉ cs := fun x u e z => by rw [csN x z] at e; cases e
  refine I0.step (g' := G) (t' := tk) (d' := s.drawn) (ch := cs) (fun c hc => ⟨.inr (C.young c hc), C.loc c hc, C.cell c hc, fun p hp => ?_⟩)
    (fun x o _ _ hx e _ => k x o hx e) (fun x o _ _ hx e _ => ⟨o.slots, k x o hx e⟩) (fun _ _ _ _ n => n) (fun x o hx e => ?_)
    (fun _ _ q => q) (fun _ _ _ q => q) (fun x ps q => ⟨#[], by rw [q]; simp⟩) (fun m hm => ?_) (fun x u q => ?_) hG
  · exact C.pn c hc p (by simpa using hp)
  · exact ⟨o, k x o hx e⟩
  · obtain ⟨o, es, ep, ho, r⟩ := hm
    exact ⟨o, es, ep, k _ o (fun z => (C.loc _ z) rfl) ho, r⟩
  · refine (I0.hok x u q).stay (fun c v hc y => k c v ?_ y) (fun _ y => y) fun _ _ y => y
    rcases hc with y | y
    · rw [y]; exact nt x u q
    · exact nt c _ y
theorem GxI.wake (C : CsOk Y fp cs) (hH : HoldOk Hold cs) (T : ∀ i h h', tn i h → (∀ b ∈ fp, ∀ o, h.get? b = some o → h'.get? b = some o) → tn i h')
    {cp cp' : List (Addr × Obj)} {b b' : β} {i : Nat} {H : Hp} {s : Shared} {h' : Heap} {G : Array GenState} {tk : Nat} (h : GxI Y tn fp σw cp i H s) (h1 : Hold b cp) (h2 : Hold b' cp')
    (k : ∀ x o, x ∉ cs → s.heap.get? x = some o → h'.get? x = some o) (at_ : AtH cp' h') (hG : AllBare G) : GxI Y tn fp σw cp' i H { s with heap := h', gens := G, toks := tk } := by
  obtain ⟨I, ht, hf⟩ := h
  have J : Inv Y [] σw H { s with heap := h', gens := G, toks := tk } := Inv.woke C I (hH.at_ b cp h1) k hG
  refine ⟨J.pins_of fun p hp => ?_, T _ _ _ ht fun x hx o e => k x o (fun z => C.fp x z hx) e, hf⟩
  have hc : p.1 ∈ cs := by rw [← hH.at_ b' cp' h2]; exact List.mem_map.mpr ⟨p, hp, rfl⟩
  have hc2 := hc
  rw [← hH.at_ b cp h1] at hc
  obtain ⟨q, hq, e⟩ := List.mem_map.mp hc
  have := I.pin q (List.mem_append_right _ hq)
  rw [e] at this
  exact ⟨at_ p hp, this.2.1, this.2.2.1, this.2.2.2.1, hH.nc b' cp' h2 p hp⟩
end
section
variable {Y : Cx} {tg elt iter : Expr} {ifs : List Expr} {scope : Scope} {pos : Pos} {J : It} {fp cs : List Addr} {it : Addr} {tn : Nat → Heap → Prop} {g : TG} {tt : TT} {te : TE} {σw : L2.St} {vs : List Nat} {β : Type}
  {W : Nat → Nat → β → Hp → Prop} {stp : β → V → Hp → (β → Hp → Prop) → Prop} {fin : β → Hp → Prop} {Hold : β → List (Addr × Obj) → Prop} {gA : Around}
/-- the consumer's part in a turn -/
def TurnW (J : It) (g : TG) (tt : TT) (te : TE) (σw : L2.St) (vs : List Nat) (W : Nat → Nat → β → Hp → Prop) (stp : β → V → Hp → (β → Hp → Prop) → Prop) (fin : β → Hp → Prop) : Prop :=
  ∀ i m b H, W i m b H → (J.stop i H ∧ fin b H) ∨ (J.go i H ∧ ∃ N : β → Hp → Prop, (∀ b' H', N b' H' → ∃ m', m' < m ∧ W (i + 1) m' b' H') ∧
    ∀ x H', J.yld i H x H' → g x σw H' fun σ2 H2 => wipe σ2 vs = σw ∧ tt σ2 H2 fun c H3 => if c = true then te σ2 H3 fun y H4 => stp b y H4 N else N b H3)
def GxE (Y : Cx) (σw : L2.St) (Hold : β → List (Addr × Obj) → Prop) (fin : β → Hp → Prop) (s₀ s : Shared) : Prop :=
  ∃ b cp H, Hold b cp ∧ AtH cp s₀.heap ∧ Inv Y cp σw H s ∧ fin b H
def GxP (Y : Cx) (tn : Nat → Heap → Prop) (fp cs : List Addr) (σw : L2.St) (Hold : β → List (Addr × Obj) → Prop) (stp : β → V → Hp → (β → Hp → Prop) → Prop) : Protocol := fun n s₀ v s kap =>
  ∃ y b cp i H N, RelV y v ∧ Hold b cp ∧ AtH cp s₀.heap ∧ GxI Y tn fp σw cp i H s ∧ stp b y H N ∧
    ∀ b' cp' h' G tk, N b' H → Hold b' cp' → (∀ x o, x ∉ cs → s.heap.get? x = some o → h'.get? x = some o) → AtH cp' h' → AllBare G → kap (.send .none) { s with heap := h', gens := G, toks := tk }
theorem gx_loop (hA : gA.over (.compLoop (.GeneratorExp elt [⟨tg, iter, ifs, 0⟩] scope pos) 0 (.ref it) .none Y.env) [] = Y.A) (hco : Y.env.scope.isCoroutine = false) (hc : Y.calm = true) (hex : Y.ex = fp) (hxe : Y.xe = fun _ _ => False) (hpn : ∀ p ∈ Y.pn, p.1 ∉ fp)
    (T : Turn Y.prog Y.w Y.K tg J fp it tn) (hg : PG Y tg g) (ht : PTs Y ifs tt) (he : PE Y elt te) (C : CsOk Y fp cs) (hH : HoldOk Hold cs) (turn : TurnW J g tt te σw vs W stp fin) :
    ∀ (m n i : Nat) (b : β) (cp : List (Addr × Obj)) (H : Hp) (s₀ s : Shared), m + 1 ≤ n → W i m b H → Hold b cp → AtH cp s₀.heap → GxI Y tn fp σw cp i H s →
      Seg (model Y.prog Y.w) gA (fun n s₀ r s₁ => r = .ok .next ∧ GxE Y σw Hold fin s₀ s₁) (GxP Y tn fp cs σw Hold stp) n s₀
        (.compLoop (.GeneratorExp elt [⟨tg, iter, ifs, 0⟩] scope pos) 0 (.ref it) .none Y.env)
        ((model Y.prog Y.w).den (.compLoop (.GeneratorExp elt [⟨tg, iter, ifs, 0⟩] scope pos) 0 (.ref it) .none Y.env)) [] s := by
  have stat : ∀ {σ' : L2.St} {H' : Hp} {s' : Shared} {cp : List (Addr × Obj)} {b : β}, Hold b cp → Inv Y cp σ' H' s' → (∀ b ∈ fp, H' b = none) → ∀ b ∈ fp, FpOk Y cp H' b := fun {σ' H' s' cp b0} h0 I' hn b hb => by
    have hb' : b ∈ Y.ex := by rw [hex]; exact hb
    refine ⟨hn b hb, (I'.ok.exf b hb').1, I'.ok.exfs b hb', .inl hb', fun x c e => (I'.ok.exf b hb').2 x c e, fun p hp z => ?_⟩
    rcases List.mem_append.mp hp with hp | hp
    · exact hpn p hp (by rw [z]; exact hb)
    · have : p.1 ∈ cs := by rw [← hH.at_ b0 cp h0]; exact List.mem_map.mpr ⟨p, hp, rfl⟩
      exact C.fp _ this (by rw [z]; exact hb)
  have noE : ∀ {α : Type} {t : Sem α} {Q : α → Shared → Prop} {E : Value → Shared → Prop} {s : Shared}, wpAny (model Y.prog Y.w) Y.A t Q Y.xe s → wpAny (model Y.prog Y.w) Y.A t Q E s := fun {α t Q E s} h =>
    wpAny_mono h (fun _ _ z => z) fun _ _ z => by rw [hxe] at z; exact False.elim z
  intro m
  induction m using Nat.strongRecOn with
  | ind m ih =>
    intro n i b cp H s₀ s hn w hb hat hI
    obtain ⟨n, rfl⟩ : ∃ n', n = n' + 1 := ⟨n - 1, by omega⟩
    obtain ⟨I, st, fr⟩ := hI
    show Seg _ gA _ _ _ s₀ _ ((compTurn (.GeneratorExp elt [⟨tg, iter, ifs, 0⟩] scope pos) 0 (.ref it) .none Y.env).onRaise (leaving Y.env)) [] s
    rw [compTurn_gen, Sem.onRaise_eq_wrap]
    refine seg_bind_wrap (wpAny_standAt ?_)
    rcases turn i m b H w with ⟨stop, qf⟩ | ⟨go, N, hN, step⟩
    · refine seg_bind_wrap ?_
      rw [hA]
      refine wpAny_mono (T.done Y rfl rfl rfl hc i cp s σw H (fun _ _ => False) I (stat hb I fr) st stop) (fun r s1 h1 => ?_) fun _ _ z => z.elim
      obtain ⟨rfl, I1⟩ := h1
      exact seg_end (.ok .next) ⟨rfl, b, cp, H, hb, hat, I1, qf⟩
    · refine seg_bind_wrap ?_
      rw [hA]
      refine wpAny_mono (T.item Y rfl rfl rfl hc i cp s σw H (fun _ _ => False) I (stat hb I fr) st go) (fun r s1 h1 => ?_) fun _ _ z => z.elim
      obtain ⟨u, rfl, h1⟩ := h1
      refine seg_bind_wrap ?_
      rw [hA]
      refine wpAny_mono h1 (fun _ s2 h2 => ?_) fun _ _ z => z.elim
      obtain ⟨x, H2, I2, r2, y2, st2, fr2⟩ := h2
      have I2' := I2.pinned (stat hb I2 fr2) (T.obj _ _ st2)
      refine seg_bind_wrap ?_
      rw [hA]
      refine noE (thn (hg.run _ s2 σw H2 x u _ I2' r2 (step x H2 y2)) fun _ s3 h3 => ?_)
      obtain ⟨σ3, H3, I3, ws, q3⟩ := h3
      refine seg_bind_wrap ?_
      rw [hA]
      refine noE (thn (ht.run _ s3 σ3 H3 _ I3 q3) fun c s4 h4 => ?_)
      obtain ⟨H4, I4, q4⟩ := h4
      -- what a turn leaves
      have back : ∀ {H5 : Hp} {s5 : Shared}, Inv Y (cp ++ pinsAt fp s2.heap) σ3 H5 s5 → GxI Y tn fp σw cp (i + 1) H5 s5 := fun {H5 s5} I5 => by
        refine ⟨?_, T.keep _ _ _ st2 fun b hb o e => (I5.pin (b, o) (List.mem_append_right _ (List.mem_append_right _ (mem_pinsAt hb e)))).1, fun b hb => ?_⟩
        · rw [← ws]
          exact I5.unpinned.weak (wipe_length _ _) fun j v e => (wipe_some e).1
        · obtain ⟨o, e, d⟩ := T.obj _ _ st2 b hb
          exact (I5.pin (b, o) (List.mem_append_right _ (List.mem_append_right _ (mem_pinsAt hb e)))).2.1
      cases c with
      | false =>
        have q4 : N b H4 := q4
        obtain ⟨m', hm, w4⟩ := hN b H4 q4
        show Seg _ gA _ _ _ s₀ _ _ [] s4
        simp only [Bool.false_eq_true, if_false]
        exact seg_again rfl (ih m' hm (n + 1) (i + 1) b cp H4 s₀ s4 (by omega) w4 hb hat (back I4))
      | true =>
        have q4 : te σ3 H4 fun y H5 => stp b y H5 N := q4
        simp only [if_true]
        have hy : ∀ v, yieldOut Y.env v = yieldValue v := fun v => by simp only [yieldOut, hco, Bool.false_eq_true, if_false]
        simp only [hy]
        rw [Sem.bind_eq_wrap', Sem.bind_eq_wrap', Sem.wrap_wrap, Sem.wrap_wrap]
        refine seg_wrap ?_
        rw [hA]
        refine noE (thn (he.run _ s4 σ3 H4 _ I4 q4) fun v s5 h5 => ?_)
        obtain ⟨y, H5, I5, ry, q5⟩ := h5
        refine seg_at (seg_yield rfl rfl rfl ⟨y, b, cp, i + 1, H5, N, ry, hb, hat, back I5, q5, fun b' cp' h' G tk n' hb' k at_ hG => ?_⟩)
        obtain ⟨m', hm, w5⟩ := hN b' H5 n'
        exact seg_again rfl (ih m' hm n (i + 1) b' cp' H5 _ _ (by omega) w5 hb' at_ (GxI.wake C hH T.keep (back I5) hb hb' k at_ hG))
theorem gx_begin (hA1 : gA.over (.compStart (.GeneratorExp elt [⟨tg, iter, ifs, 0⟩] scope pos) 0 (.ref it) .none Y.env) [] = Y.A) (hA : gA.over (.compLoop (.GeneratorExp elt [⟨tg, iter, ifs, 0⟩] scope pos) 0 (.ref it) .none Y.env) [] = Y.A) (hco : Y.env.scope.isCoroutine = false) (hc : Y.calm = true) (hex : Y.ex = fp) (hxe : Y.xe = fun _ _ => False) (hpn : ∀ p ∈ Y.pn, p.1 ∉ fp)
    (T : Turn Y.prog Y.w Y.K tg J fp it tn) (hg : PG Y tg g) (ht : PTs Y ifs tt) (he : PE Y elt te) (C : CsOk Y fp cs) (hH : HoldOk Hold cs) (turn : TurnW J g tt te σw vs W stp fin) :
    ∀ (m n i : Nat) (b : β) (cp : List (Addr × Obj)) (H : Hp) (s₀ s : Shared), m + 1 ≤ n → W i m b H → Hold b cp → AtH cp s₀.heap → GxI Y tn fp σw cp i H s →
      Seg (model Y.prog Y.w) gA (fun n s₀ r s₁ => r = .ok .next ∧ GxE Y σw Hold fin s₀ s₁) (GxP Y tn fp cs σw Hold stp) n s₀
        (.compStart (.GeneratorExp elt [⟨tg, iter, ifs, 0⟩] scope pos) 0 (.ref it) .none Y.env)
        ((model Y.prog Y.w).den (.compStart (.GeneratorExp elt [⟨tg, iter, ifs, 0⟩] scope pos) 0 (.ref it) .none Y.env)) [] s := by
  intro m n i b cp H s₀ s hn w hb hat hI
  have loop := gx_loop hA hco hc hex hxe hpn T hg ht he C hH turn m n i b cp H s₀ s hn w hb hat hI
  show Seg _ gA _ _ _ s₀ _ ((compStart (.GeneratorExp elt [⟨tg, iter, ifs, 0⟩] scope pos) 0 (.ref it) .none Y.env).onRaise (leaving Y.env)) [] s
  unfold compStart
  rw [Sem.onRaise_eq_wrap]
  show Seg _ gA _ _ _ s₀ _ ((ask >>= _).wrap _ _ _ _) [] s
  refine seg_bind_wrap (wpAny_askSetting ?_)
  split
  · exact seg_again rfl loop
  · first
      | exact seg_bind_wrap (wpAny_rule (seg_bind_wrap (wpAny_standAt (seg_bind_wrap (T.self _ i s _ _ hI.2.1 (seg_again rfl loop))))))
      | (refine seg_bind_wrap (wpAny_rule ?_); show Seg _ gA _ _ _ s₀ _ ((standAt iter.pos >>= _).wrap _ _ _ _) [] s; exact seg_bind_wrap (wpAny_standAt (seg_bind_wrap (T.self _ i s _ _ hI.2.1 (seg_again rfl loop)))))

/-- the generator a with the number gn sleeps (or has not begun) -/
def GxC (Y : Cx) (tn : Nat → Heap → Prop) (fp cs : List Addr) (σw : L2.St) (Hold : β → List (Addr × Obj) → Prop) (stp : β → V → Hp → (β → Hp → Prop) → Prop) (fin : β → Hp → Prop) (gA : Around) (a : Addr) (gn : Nat) (n : Nat) (s : Shared) : Prop :=
  s.heap.IsGen a gn ∧ s.heap.NoLimit ∧ ∃ gs, s.gens[gn]? = some gs ∧ gs.Goes (model Y.prog Y.w) gA (fun n s₀ r s₁ => r = .ok .next ∧ GxE Y σw Hold fin s₀ s₁) (GxP Y tn fp cs σw Hold stp) n (.send .none) (s.setGen gn .running)
/-- what next leaves -/
def GxN (Y : Cx) (tn : Nat → Heap → Prop) (fp cs : List Addr) (σw : L2.St) (Hold : β → List (Addr × Obj) → Prop) (stp : β → V → Hp → (β → Hp → Prop) → Prop) (fin : β → Hp → Prop) (gA : Around) (a : Addr) (gn : Nat) (n : Nat) (s : Shared) (r : Option Value) (s' : Shared) : Prop :=
  match r with
  | none => ∃ b cp H, Hold b cp ∧ AtH cp s.heap ∧ Inv Y cp σw H s' ∧ fin b H
  | some v => ∃ y b cp H N, RelV y v ∧ Hold b cp ∧ AtH cp s.heap ∧ Inv Y cp σw H s' ∧ stp b y H N ∧
      ∀ b' cp' h' tk, N b' H → Hold b' cp' → (∀ x o, x ∉ cs → s'.heap.get? x = some o → h'.get? x = some o) → AtH cp' h' → ∃ n', n = n' + 1 ∧ GxC Y tn fp cs σw Hold stp fin gA a gn n' { s' with heap := h', toks := tk }
theorem gx_next {B : Around} {a : Addr} {gn n : Nat} {s : Shared} {go : Obj} {E : Value → Shared → Prop} (hB : B.in1 = gA) (hh : B.handled = none) (hroom : B.depth < recursionLimit) (hpn : Y.pn = [(a, go)]) (C : CsOk Y fp cs)
    (hgo : ∀ h : Heap, h.get? a = some go → h.IsGen a gn) (h : GxC Y tn fp cs σw Hold stp fin gA a gn n s) : wpAny (model Y.prog Y.w) B (pyNext (.ref a)) (GxN Y tn fp cs σw Hold stp fin gA a gn n s) E s := by
  obtain ⟨hg, hl, gs, hgs, hgo'⟩ := h
  subst hB
  have gen : ∀ {cp : List (Addr × Obj)} {σ' : L2.St} {H : Hp} {s' : Shared}, Inv Y cp σ' H s' → s'.heap.get? a = some go := fun {cp σ' H s'} I => (I.pin (a, go) (List.mem_append_left _ (by rw [hpn]; exact List.mem_singleton.mpr rfl))).1
  have hac : a ∉ cs := fun z => C.pn a z (a, go) (by rw [hpn]; exact List.mem_singleton.mpr rfl) rfl
  have hlt : gn < s.gens.size := (Array.getElem?_eq_some_iff.mp hgs).1
  refine wpAny_gsz (n := s.gens.size) (Nat.le_refl _) (wpAny_pyNext_genexpQ (P := fun _ s₀ s₁ => GxE Y σw Hold fin s₀ s₁) hh hl hroom hg hgs hgo' (fun v s₁ gs' hb hv => ?_) (fun s₁ hp h' hk => ?_))
  · intro hsz
    obtain ⟨y, b, cp, i, H, N, ry, hb1, hat, hI, hs, wake⟩ := hv
    have bare1 : AllBare (s₁.setGen gn gs').gens := allBare_setGen hI.1.bare hb
    have lt1 : gn < s₁.gens.size := by
      rw [setGen_size] at hsz
      omega
    refine ⟨y, b, cp, H, N, ry, hb1, hat, Inv.gens hI.1 bare1, hs, fun b' cp' h' tk n' hb' k at_ => ?_⟩
    have kap := wake b' cp' h' ((s₁.setGen gn gs').setGen gn .running).gens tk n' hb' k at_ (allBare_setGen bare1 rfl)
    cases n with
    | zero => exact False.elim kap
    | succ n =>
      have hga := gen hI.1
      refine ⟨n, rfl, hgo _ (k a go hac hga), hI.1.ok.mod.nolimit.keeps fun x o e => k x o (fun z => ?_) (hI.1.bk x o e), gs', setGen_at lt1, kap⟩
      exact absurd (Nat.lt_of_lt_of_le (Heap.lt_size e) (Nat.le_trans hI.1.ok.bsz (C.young x z))) (Nat.lt_irrefl _)
  · intro hsz
    obtain ⟨b, cp, H, hb1, hat, I, hf⟩ := hp
    exact ⟨b, cp, H, hb1, hat, (Inv.gens I (allBare_setGen (x := .finished) (g := gn) I.bare rfl)).kept (t' := _) hk, hf⟩
end

/-! ### handed to a consumer -/
/-- what a consumer knows of the generator a: C n: it sleeps -/
structure GxH (X : Cx) (pins : List (Addr × Obj)) (σ : L2.St) {β : Type} (Hold : β → List (Addr × Obj) → Prop) (cs : List Addr) (stp : β → V → Hp → (β → Hp → Prop) → Prop) (fin : β → Hp → Prop) (a gn : Addr) (C : Nat → Shared → Prop) : Prop where
  self : ∀ n s, C n s → s.heap.IsGen a gn
  next : ∀ (n : Nat) (s : Shared) (E : Value → Shared → Prop), C n s → wpAny (model X.prog X.w) X.A.in4 (pyNext (.ref a)) (fun r s' => match r with
    | none => ∃ b cp H, Hold b cp ∧ AtH cp s.heap ∧ AtH cp s'.heap ∧ (∀ h' tk, (∀ x o, x ∉ cs → s'.heap.get? x = some o → h'.get? x = some o) → Inv X pins σ H { s' with heap := h', toks := tk }) ∧ fin b H
    | some v => ∃ y b cp H N, RelV y v ∧ Hold b cp ∧ AtH cp s.heap ∧ AtH cp s'.heap ∧ (∀ h' tk, (∀ x o, x ∉ cs → s'.heap.get? x = some o → h'.get? x = some o) → Inv X pins σ H { s' with heap := h', toks := tk }) ∧ stp b y H N ∧
        ∀ b' cp' h' tk, N b' H → Hold b' cp' → (∀ x o, x ∉ cs → s'.heap.get? x = some o → h'.get? x = some o) → AtH cp' h' → ∃ n', n = n' + 1 ∧ C n' { s' with heap := h', toks := tk }) E s
/-- it is made -/
def GxM (X : Cx) (pins : List (Addr × Obj)) (σ : L2.St) (J : It) (g : TG) (tt : TT) (te : TE) (vs : List Nat) (H2 : Hp) (a : Addr) (s5 : Shared) : Prop :=
  ∃ gn, s5.heap.IsGen a gn ∧ a < s5.heap.objs.size ∧ ∀ (β : Type) (W : Nat → Nat → β → Hp → Prop) (stp : β → V → Hp → (β → Hp → Prop) → Prop) (fin : β → Hp → Prop) (Hold : β → List (Addr × Obj) → Prop) (cs : List Addr), (∀ c ∈ cs, s5.heap.objs.size ≤ c) → HoldOk Hold cs → TurnW J g tt te (wipe σ vs) vs W stp fin →
    ∃ C, GxH X pins σ Hold cs stp fin a gn C ∧ ∀ m b cp h' tk, W 0 m b H2 → Hold b cp → (∀ x o, s5.heap.get? x = some o → h'.get? x = some o) → AtH cp h' → C (m + 1) { s5 with heap := h', toks := tk }
section
variable {X : Cx} {pins : List (Addr × Obj)} {σ : L2.St} {H : Hp} {s : Shared}
theorem gx_make {elt iter tg : Expr} {ifs : List Expr} {scope : Scope} {gpos : Pos} {own : List (Str × Nat)} {wi : TI} {c P : Addr} {k : Nat} {Q' : Value → Shared → Prop} {R : It → Hp → Prop} {g : TG} {tt : TT} {te : TE}
    (hr : Room (k + 6) X.A) (TB : GxR.TabB X.base X.mg c P) (hcode : X.env.code = .ref c) (ok : GxS X.N X.env.scope scope own) (hN : X.N.Nodup) (hi : PI X tg iter wi)
    (hg : ∀ A s H C code fp pn, Room k (A.deeper (gxEnv X scope C code)) → PG (gxCx X A s H scope C code fp pn) tg g) (ht : ∀ A s H C code fp pn, Room k (A.deeper (gxEnv X scope C code)) → PTs (gxCx X A s H scope C code fp pn) ifs tt)
    (he : ∀ A s H C code fp pn, Room k (A.deeper (gxEnv X scope C code)) → PE (gxCx X A s H scope C code fp pn) elt te) (hs : ∀ v, genFold iter X.env v = pure v)
    (I : Inv X pins σ H s) (h : wi σ H fun J H1 => GxR.TabG H1 P ∧ ∀ H2, GxR.Tabbed P H1 H2 → R J H2)
    (hQ : ∀ a J H2 s5, R J H2 → GxM X pins σ J g tt te (own.map fun p : Str × Nat => p.2) H2 a s5 → Q' (.ref a) s5) :
    wpAny (model X.prog X.w) X.A (eval (.GeneratorExp elt [⟨tg, iter, ifs, 0⟩] scope gpos) X.env) Q' X.xe s := by
  refine wpAny_GeneratorExp_make ok.co (closure_ok (ok.has I.ok)) ok.cell ok.dot ok.kind (by have := hr.dp; omega) (thn (hi.run pins s σ H _ I h) fun xv s1 hx => thn hx fun itv s2 h2 => ?_) hs
  obtain ⟨it, fp, tn, J, H1, rfl, I1, T, st2, f2, ⟨ps, hP, ht3⟩, hR⟩ := h2
  have hPs : s2.heap.get? P = some { cls := .none, data := .fields ps } := I1.hok P _ hP
  have cd : PySem.W.CodeHd s2.heap c P := TB.code.keeps I1.bk
  refine ⟨I1.nolimit, ?_⟩
  have cont : ∀ (code : Value) (h3 : Heap) (tk : Nat) (ps' : Array Value), Heap.ExtBut P s2.heap h3 → s2.heap.objs.size ≤ h3.objs.size → h3.get? P = some { cls := .none, data := .fields ps' } → (∃ more, ps' = ps ++ more) → TriplesOk ps'.toList →
      wpAny (model X.prog X.w) X.A (builtinsFor X.env.globals X.env.builtins) (fun bi s₄ => ∀ h', h'.Ns s₄.heap.objs.size (fun y => if y = ".0" then some (.ref it) else none) → Heap.SameBut s₄.heap.objs.size (s₄.heap.push { cls := .type "frame", data := .dict #[] }) h' →
          Q' (.ref h'.objs.size) { s₄ with
            gens := s₄.gens.push (.fresh (.compStart (.GeneratorExp elt [⟨tg, iter, ifs, 0⟩] scope gpos) 0 (.ref it) .none (genEnv scope (cloFrom X.env.cells scope.names []) s₄.heap.objs.size code bi X.env))),
            toks := s₄.toks + 1 + 1 + 1,
            heap := h'.push { cls := .type "generator", data := .fields #[.int s₄.gens.size 0, .str "<genexpr>" (s₄.toks + 1), .str (X.env.qual ++ "<genexpr>") (s₄.toks + 1 + 1)] } }) X.xe { s2 with heap := h3, toks := tk } := by
    intro code h3 tk ps' hx hsz hP3 hmore ht4
    obtain ⟨bm, ob, e1, e2, e3, e4, e5, e6, e7, e8⟩ := TB.bm
    refine wpAny_builtinsFor (m := X.mg) (by rw [I1.ok.glob]; exact (I1.mod.glob.keeps I1.bk).extBut hx TB.gP) e1 e2 (hx _ _ e4 (I1.bk _ _ e5)) e6 e7 e8 ?_
    obtain ⟨more, em⟩ := hmore
    have I4 : Inv X pins σ (upd H1 P (.tbl ps')) { s2 with heap := h3, toks := tk } := by
      rw [em]
      exact GxR.inv_tab (more := more) (h' := h3) (g' := s2.gens) (d' := s2.drawn) (t' := tk) I1 hP (fun b u hb e => hx b u hb e) (by rw [← em]; exact hP3) I1.bare
    have hT : GxR.Tabbed P H1 (upd H1 P (.tbl ps')) := ⟨⟨ps', upd_same, ht4⟩, fun b hb => upd_ne hb⟩
    have hRJ := hR _ hT
    have fpP : ∀ b ∈ fp, b ≠ P := fun b hb z => by have := (f2 b hb).1; rw [z, hP] at this; cases this
    generalize upd H1 P (.tbl ps') = H4 at I4 hRJ hT
    generalize hs4 : ({ s2 with heap := h3, toks := tk } : Shared) = s4 at I4 ⊢
    have h4h : s4.heap = h3 := by rw [← hs4]
    have st4 : tn 0 s4.heap := by rw [h4h]; exact T.keep _ _ _ st2 fun b hb o e => hx b o (fpP b hb) e
    have f4 : ∀ b ∈ fp, FpOk X pins H4 b ∧ b < s4.heap.objs.size := fun b hb => by
      obtain ⟨o, e, _⟩ := T.obj _ _ st4 b hb
      exact ⟨⟨by rw [hT.2 b (fpP b hb)]; exact (f2 b hb).1, (f2 b hb).2⟩, Heap.lt_size e⟩
    intro h' hn' hs'
    have hsz5 : h'.objs.size = s4.heap.objs.size + 1 := by rw [hs'.1, Heap.size_push]
    have keep' : ∀ b o, s4.heap.get? b = some o → h'.get? b = some o := fun b o e => hs'.extBut b o (Nat.ne_of_lt (Heap.lt_size e)) (Heap.get?_push_of_some _ e)
    generalize hgo : ({ cls := .type "generator", data := .fields #[.int s4.gens.size 0, .str "<genexpr>" (s4.toks + 1), .str (X.env.qual ++ "<genexpr>") (s4.toks + 1 + 1)] } : Obj) = go
    have goG : ∀ h : Heap, h.get? h'.objs.size = some go → h.IsGen h'.objs.size s4.gens.size := fun h e => by
      rw [← hgo] at e
      exact ⟨_, _, _, e, rfl, rfl, rfl⟩
    have gos : (h'.push go).get? h'.objs.size = some go := by
      rw [← hgo]
      exact Heap.get?_push_size _ rfl
    have god : ∀ v, go.data ≠ .cell v := fun v z => by rw [← hgo] at z; cases z
    have I5 := gx_start (A := X.A.in4.in1) (code := code) (tk := s4.toks + 1 + 1 + 1) (G := s4.gens.push (.fresh (.compStart (.GeneratorExp elt [⟨tg, iter, ifs, 0⟩] scope gpos) 0 (.ref it) .none (gxEnv X scope s4.heap.objs.size code)))) (a := h'.objs.size) (go := go)
      I4 ok hN hr.hd I4.ok.frames f4 (hn'.push go) (fun b o e => Heap.get?_push_of_some _ (keep' b o e)) (AllBare.push I4.bare rfl) (by omega) gos god
    refine hQ _ J H4 _ hRJ ?_
    have hroom : Room k (X.A.in4.in1.deeper (gxEnv X scope s4.heap.objs.size code)) := Room.deeper (hr.in1.in1.in1.in1.in1) _
    have pg := hg X.A.in4.in1 s4 H4 s4.heap.objs.size code fp [(h'.objs.size, go)] hroom
    have pt := ht X.A.in4.in1 s4 H4 s4.heap.objs.size code fp [(h'.objs.size, go)] hroom
    have pe := he X.A.in4.in1 s4 H4 s4.heap.objs.size code fp [(h'.objs.size, go)] hroom
    have szp : (h'.push go).objs.size = h'.objs.size + 1 := Heap.size_push ..
    refine ⟨s4.gens.size, goG _ gos, by show h'.objs.size < (h'.push go).objs.size; rw [szp]; exact Nat.lt_succ_self _, fun β W stp fin Hold cs hcs hH turn => ?_⟩
    have hcs : ∀ c ∈ cs, (h'.push go).objs.size ≤ c := hcs
    have csk : CsOk (gxCx X X.A.in4.in1 s4 H4 scope s4.heap.objs.size code fp [(h'.objs.size, go)]) fp cs := by
      refine ⟨fun c hc => ?_, fun c hc => ?_, fun c hc x d e z => ?_, fun c hc p hp z => ?_, fun c hc hb => ?_⟩
      · show s4.heap.objs.size ≤ c
        have := hcs c hc; omega
      · have h0 : s4.heap.objs.size < (h'.push go).objs.size := by omega
        exact Nat.ne_of_gt (Nat.lt_of_lt_of_le h0 (hcs c hc))
      · obtain ⟨w, q⟩ := I5.cell x d e
        have := q.lt
        have h1 := hcs c hc
        have : d < (h'.push go).objs.size := this
        rw [z] at this
        exact absurd (Nat.lt_of_lt_of_le this h1) (Nat.lt_irrefl _)
      · rw [List.mem_singleton.mp (show p ∈ [(h'.objs.size, go)] from hp)] at z
        have z : h'.objs.size = c := z
        have h1 := hcs c hc
        rw [← z, szp] at h1
        exact absurd h1 (Nat.not_succ_le_self _)
      · have h0 : s4.heap.objs.size < (h'.push go).objs.size := by omega
        exact absurd (Nat.lt_trans (f4 c hb).2 h0) (Nat.not_lt_of_le (hcs c hc))
    have hpn : ∀ p ∈ (gxCx X X.A.in4.in1 s4 H4 scope s4.heap.objs.size code fp [(h'.objs.size, go)]).pn, p.1 ∉ fp := fun p hp hb => by
      rw [List.mem_singleton.mp (show p ∈ [(h'.objs.size, go)] from hp)] at hb
      have := (f4 _ hb).2
      have h0 : (h'.objs.size : Nat) < s4.heap.objs.size := this
      omega
    refine ⟨GxC (gxCx X X.A.in4.in1 s4 H4 scope s4.heap.objs.size code fp [(h'.objs.size, go)]) tn fp cs (wipe σ (own.map fun p : Str × Nat => p.2)) Hold stp fin X.A.in4.in1 h'.objs.size s4.gens.size, ⟨fun n s hc => hc.1, fun n s E hc => ?_⟩, fun m b cp h6 tk6 w hb k6 at6 => ?_⟩
    · -- a turn
      refine wpAny_mono (gx_next (Y := gxCx X X.A.in4.in1 s4 H4 scope s4.heap.objs.size code fp [(h'.objs.size, go)]) (go := go) rfl hr.hd (by have := hr.dp; show X.A.depth < _; omega) rfl csk goG hc) (fun r s6 h6 => ?_) fun _ _ e => e
      have back : ∀ {b : β} {cp : List (Addr × Obj)} {H : Hp}, Hold b cp → Inv (gxCx X X.A.in4.in1 s4 H4 scope s4.heap.objs.size code fp [(h'.objs.size, go)]) cp (wipe σ (own.map fun p : Str × Nat => p.2)) H s6 →
          AtH cp s6.heap ∧ ∀ h' tk, (∀ x o, x ∉ cs → s6.heap.get? x = some o → h'.get? x = some o) → Inv X pins σ H { s6 with heap := h', toks := tk } := fun {b cp H} hb I6 => by
        refine ⟨fun p hp => (I6.pin p (List.mem_append_right _ hp)).1, fun h' tk k => ?_⟩
        have J6 := Inv.woke (tk := tk) csk I6 (hH.at_ b cp hb) k I6.bare
        exact I4.call' (ch := fp) J6.os J6.base J6.hok J6.bare fun b hb => ⟨(f4 b hb).1.2.2.2.1, (f4 b hb).1.2.1, (f4 b hb).1.2.2.2.2.1, (f4 b hb).1.2.2.2.2.2⟩
      cases r with
      | none =>
        obtain ⟨b, cp, H6, hb, hat, I6, hf⟩ := h6
        obtain ⟨q1, q2⟩ := back hb I6
        exact ⟨b, cp, H6, hb, hat, q1, q2, hf⟩
      | some v =>
        obtain ⟨y, b, cp, H6, N, ry, hb, hat, I6, hs, wake⟩ := h6
        obtain ⟨q1, q2⟩ := back hb I6
        exact ⟨y, b, cp, H6, N, ry, hb, hat, q1, q2, hs, wake⟩
    · -- it begins
      have k6' : ∀ x o, (h'.push go).get? x = some o → h6.get? x = some o := k6
      have I6 : Inv (gxCx X X.A.in4.in1 s4 H4 scope s4.heap.objs.size code fp [(h'.objs.size, go)]) cp (wipe σ (own.map fun p : Str × Nat => p.2)) H4
          (({ s4 with gens := s4.gens.push (.fresh (.compStart (.GeneratorExp elt [⟨tg, iter, ifs, 0⟩] scope gpos) 0 (.ref it) .none (gxEnv X scope s4.heap.objs.size code))), toks := tk6, heap := h6 } : Shared).setGen s4.gens.size .running) := by
        have J6 := Inv.gens (I5.kept (t' := tk6) k6') (allBare_setGen (s := { s4 with gens := s4.gens.push (.fresh (.compStart (.GeneratorExp elt [⟨tg, iter, ifs, 0⟩] scope gpos) 0 (.ref it) .none (gxEnv X scope s4.heap.objs.size code))), toks := tk6, heap := h6 }) (x := .running) (g := s4.gens.size) I5.bare rfl)
        refine J6.pins_of fun p hp => ?_
        have hc : p.1 ∈ cs := by rw [← hH.at_ b cp hb]; exact List.mem_map.mpr ⟨p, hp, rfl⟩
        exact ⟨at6 p hp, I5.hok.fresh (hcs _ hc), csk.loc _ hc, I5.nofs (hcs _ hc), hH.nc b cp hb p hp⟩
      refine ⟨goG _ (k6' _ _ gos), I4.nolimit.keeps fun x o e => k6' x o (Heap.get?_push_of_some _ (keep' x o e)), _, Array.getElem?_push_size .., rfl, ?_⟩
      exact gx_begin (Y := gxCx X X.A.in4.in1 s4 H4 scope s4.heap.objs.size code fp [(h'.objs.size, go)]) (gA := X.A.in4.in1) rfl rfl ok.co rfl rfl rfl hpn T pg pt pe csk hH turn m (m + 1) 0 b cp H4 _ _ (Nat.le_refl _) w hb at6
        ⟨I6, T.keep _ _ _ st4 fun b _ o e => k6' b o (Heap.get?_push_of_some _ (keep' b o e)), fun b hb => (f4 b hb).1.1⟩
  cases hf : codeAmong gpos ps.toList with
  | none =>
    refine wpAny_genexprCodeX hcode (cd.code hPs ht3) (cd.tab hPs) hf fun c' h' tk hx hge hlt hco' _ htab' _ => ?_
    obtain ⟨o1, vs, f1, tf, fl, tg, inF, tx, tt, op, _, _, _, _, _, _, _, _, _, htr, _⟩ := hco'
    exact cont _ h' tk _ hx (Nat.le_trans hge (Nat.le_of_lt hlt)) htab'.2 ⟨_, rfl⟩ htr
  | some cv =>
    refine wpAny_genexprCode_hit hcode (cd.code hPs ht3) hf ?_
    exact cont cv s2.heap s2.toks ps (Heap.ExtBut.refl _ _) (Nat.le_refl _) hPs ⟨#[], by simp⟩ ht3
end
end Ct
set_option Elab.async false
set_option maxRecDepth 100000
set_option maxHeartbeats 4000000
/-! Consumers of generator expressions. -/
namespace Ct
open PySem PySem.Spec PyProof.Rows L2 GenW
open Sem (wp)
section
variable {X : Cx} {pins : List (Addr × Obj)} {σ : L2.St} {a : Addr} {gn : Nat} {C : Nat → Shared → Prop}

/-! ### all, any -/
def hold0 : Unit → List (Addr × Obj) → Prop := fun _ cp => cp = []
theorem hold0_ok : HoldOk hold0 [] := ⟨fun _ cp h => by rw [h]; rfl, fun _ cp h p hp => by rw [h] at hp; cases hp⟩
def stpAll (Q : Bool → Hp → Prop) : Unit → V → Hp → (Unit → Hp → Prop) → Prop := fun _ y H N => ∃ c, y = .bl c ∧ if c = true then N () H else Q false H
def stpAny (Q : Bool → Hp → Prop) : Unit → V → Hp → (Unit → Hp → Prop) → Prop := fun _ y H N => ∃ c, y = .bl c ∧ if c = true then Q true H else N () H
theorem next_in1 {A : Around} {t : Sem (Option Value)} {M : Model} {Q : Option Value → Shared → Prop} {E : Value → Shared → Prop} {s : Shared} (h : wpAny M A.in4 t Q E s) : wpAny M A.in1 t Q E s :=
  wpAny_of_in1 (A := A.in1) (wpAny_of_in1 (A := A.in1.in1) (wpAny_of_in1 (A := A.in1.in1.in1) h))
theorem all_loop {Q : Bool → Hp → Prop} {R : Result → Shared → Prop} (G : GxH X pins σ hold0 [] (stpAll Q) (fun _ H => Q true H) a gn C) (hR : ∀ c H s', Inv X pins σ H s' → Q c H → R (.ok (.ret (.bool c))) s') :
    ∀ (n : Nat) (s : Shared), C n s → codeAny (model X.prog X.w) X.A (.builtin "all.loop" ⟨[.ref a], []⟩) R s := by
  intro n
  induction n using Nat.strongRecOn with
  | ind n ih =>
    intro s hC
    refine codeAny_builtin F.entry_all_loop ?_
    rw [Around.under_plainId F.plain_all_loop _]
    show wpAny _ X.A.in1 (pyNext (.ref a) >>= _) _ _ s
    refine wpAny_bind (wpAny_mono (next_in1 (G.next n s _ hC)) (fun r s' h => ?_) fun _ _ e => e)
    cases r with
    | none =>
      obtain ⟨b, cp, H, _, _, _, hI, hf⟩ := h
      exact wpAny_bind (wpAny_rule (wpAny_pure (hR true H s' (hI s'.heap s'.toks fun _ _ _ e => e) hf)))
    | some v =>
      obtain ⟨y, b, cp, H, N, ry, _, _, _, hI, ⟨c, rfl, hs⟩, wake⟩ := h
      cases ry
      refine wpAny_bind (wpAny_holding (wpAny_truthy_bool ?_))
      refine wpAny_bind (wpAny_letGo ?_)
      cases c with
      | true =>
        simp only [if_true] at hs ⊢
        obtain ⟨n', e, hC'⟩ := wake () [] s'.heap s'.toks hs rfl (fun _ _ _ e => e) (fun p hp => by cases hp)
        exact wpAny_pure ⟨plainId_quiet F.plain_all_loop _, ih n' (by omega) s' hC'⟩
      | false =>
        simp only [Bool.false_eq_true, if_false] at hs ⊢
        exact wpAny_bind (wpAny_rule (wpAny_pure (hR false H s' (hI s'.heap s'.toks fun _ _ _ e => e) hs)))
theorem any_loop {Q : Bool → Hp → Prop} {R : Result → Shared → Prop} (G : GxH X pins σ hold0 [] (stpAny Q) (fun _ H => Q false H) a gn C) (hR : ∀ c H s', Inv X pins σ H s' → Q c H → R (.ok (.ret (.bool c))) s') :
    ∀ (n : Nat) (s : Shared), C n s → codeAny (model X.prog X.w) X.A (.builtin "any.loop" ⟨[.ref a], []⟩) R s := by
  intro n
  induction n using Nat.strongRecOn with
  | ind n ih =>
    intro s hC
    refine codeAny_builtin F.entry_any_loop ?_
    rw [Around.under_plainId F.plain_any_loop _]
    show wpAny _ X.A.in1 (pyNext (.ref a) >>= _) _ _ s
    refine wpAny_bind (wpAny_mono (next_in1 (G.next n s _ hC)) (fun r s' h => ?_) fun _ _ e => e)
    cases r with
    | none =>
      obtain ⟨b, cp, H, _, _, _, hI, hf⟩ := h
      exact wpAny_bind (wpAny_rule (wpAny_pure (hR false H s' (hI s'.heap s'.toks fun _ _ _ e => e) hf)))
    | some v =>
      obtain ⟨y, b, cp, H, N, ry, _, _, _, hI, ⟨c, rfl, hs⟩, wake⟩ := h
      cases ry
      refine wpAny_bind (wpAny_holding (wpAny_truthy_bool ?_))
      refine wpAny_bind (wpAny_letGo ?_)
      cases c with
      | false =>
        simp only [Bool.false_eq_true, if_false] at hs ⊢
        obtain ⟨n', e, hC'⟩ := wake () [] s'.heap s'.toks hs rfl (fun _ _ _ e => e) (fun p hp => by cases hp)
        exact wpAny_pure ⟨plainId_quiet F.plain_any_loop _, ih n' (by omega) s' hC'⟩
      | true =>
        simp only [if_true] at hs ⊢
        exact wpAny_bind (wpAny_rule (wpAny_pure (hR true H s' (hI s'.heap s'.toks fun _ _ _ e => e) hs)))

/-! ### sum -/
def sumObj (i : Int) (t : Tok) (c : Nat) : Obj := { cls := .type "list", dict := none, data := .seq #[.int i t] c, slots := #[] }
def holdS (S : Addr) : Int → List (Addr × Obj) → Prop := fun i cp => ∃ t c, cp = [(S, sumObj i t c)]
theorem holdS_ok (S : Addr) : HoldOk (holdS S) [S] := ⟨fun _ cp ⟨t, c, h⟩ => by rw [h]; rfl, fun _ cp ⟨t, c, h⟩ p hp v z => by
  rw [h] at hp
  rw [List.mem_singleton.mp hp] at z
  cases z⟩
def stpSum : Int → V → Hp → (Int → Hp → Prop) → Prop := fun b y H N => ∃ j, y = .int j ∧ N (b + j) H
theorem sum_loop {S : Addr} {Q : Int → Hp → Prop} {R : Result → Shared → Prop} (G : GxH X pins σ (holdS S) [S] stpSum Q a gn C) (hR : ∀ i t H s', Inv X pins σ H s' → Q i H → R (.ok (.ret (.int i t))) s') :
    ∀ (n : Nat) (s : Shared) (stage : Int) (i0 : Int) (t0 : Tok) (c0 : Nat), (stage = 0 ∨ stage = 2) → C n s → s.heap.get? S = some (sumObj i0 t0 c0) → codeAny (model X.prog X.w) X.A (.builtin "sum.loop" ⟨[.ref a, .ref S, rawInt stage, rawInt 0], []⟩) R s := by
  intro n
  induction n using Nat.strongRecOn with
  | ind n ih =>
    intro s stage i0 t0 c0 hstage hC hS
    refine codeAny_builtin F.entry_sum_loop ?_
    rw [Around.under_plainId F.plain_sum_loop _]
    show wpAny _ X.A.in1 (seqItems? (.ref S) >>= _) _ _ s
    refine wpAny_bind (wpAny_seqItems hS rfl ?_)
    show wpAny _ X.A.in1 (tryCatch (pyNext (.ref a)) _ >>= _) _ _ s
    refine wpAny_bind (wpAny_tryCatch (wpAny_mono (next_in1 (G.next n s _ hC)) (fun r s' h => ?_) fun _ _ e => e))
    cases r with
    | none =>
      obtain ⟨b, cp, H, ⟨t, c, rfl⟩, hat, _, hI, hf⟩ := h
      have e1 := hat (S, sumObj b t c) (List.mem_singleton.mpr rfl)
      rw [hS] at e1
      cases e1
      exact wpAny_pure (hR i0 t0 H s' (hI s'.heap s'.toks fun _ _ _ e => e) hf)
    | some v =>
      obtain ⟨y, b, cp, H, N, ry, ⟨t, c, rfl⟩, hat, hat', hI, ⟨j, rfl, hn⟩, wake⟩ := h
      have e1 := hat (S, sumObj b t c) (List.mem_singleton.mpr rfl)
      rw [hS] at e1
      cases e1
      obtain ⟨tj, rfl⟩ := ry
      have hS' : s'.heap.get? S = some (sumObj i0 t0 c0) := hat' (S, sumObj i0 t0 c0) (List.mem_singleton.mpr rfl)
      have fin : ∀ (h' : Heap) (tk : Nat) (tt : Tok) (c' : Nat) (stage' : Int), (stage' = 0 ∨ stage' = 2) → (∀ x o, x ≠ S → s'.heap.get? x = some o → h'.get? x = some o) → h'.get? S = some (sumObj (i0 + j) tt c') →
          codeAny (model X.prog X.w) X.A (.builtin "sum.loop" ⟨[.ref a, .ref S, rawInt stage', rawInt 0], []⟩) R { s' with heap := h', toks := tk } := fun h' tk tt c' stage' hs' k e => by
        obtain ⟨n', en, hC'⟩ := wake (i0 + j) [(S, sumObj (i0 + j) tt c')] h' tk hn ⟨tt, c', rfl⟩ (fun x o hx e => k x o (fun z => hx (by rw [z]; exact List.mem_singleton.mpr rfl)) e) (fun p hp => by rw [List.mem_singleton.mp hp]; exact e)
        exact ih n' (by omega) _ stage' (i0 + j) tt c' hs' hC' e
      rcases hstage with rfl | rfl
      · show wpAny _ X.A.in1 (if (_ : Bool) = true then (mkInt (i0 + j) >>= _) else _) _ _ _
        split
        · refine wpAny_bind (wpAny_mkInt ?_)
          show wpAny _ X.A.in1 (updateSeq S (fun _ => #[.int (i0 + j) s'.toks]) >>= _) _ _ _
          refine wpAny_bind ?_
          refine wpAny_updateSeq hS' rfl (wpAny_pure ⟨plainId_quiet F.plain_sum_loop _, fin _ _ s'.toks _ 0 (.inl rfl) (fun x o hx e => (Heap.get?_update_other _ _ (Ne.symm hx)).trans e) (Heap.get?_update_self _ hS' rfl)⟩)
        · refine wpAny_bind (wpAny_rule ?_)
          refine wpAny_bind (wpAny_attempt (wpAny_holding (PySem.P.add_int ?_)))
          show wpAny _ X.A.in1 (updateSeq S (fun _ => #[.int (i0 + j) s'.toks]) >>= _) _ _ _
          refine wpAny_bind ?_
          refine wpAny_updateSeq hS' rfl ?_
          have hS2 := Heap.get?_update_self (Obj.mapSeq fun _ => #[Value.int (i0 + j) s'.toks]) hS' rfl
          refine wpAny_bind (wpAny_letGo ?_)
          refine wpAny_bind ?_
          refine wpAny_updateSeq hS2 rfl (wpAny_pure ⟨plainId_quiet F.plain_sum_loop _, fin _ _ s'.toks _ 2 (.inr rfl) (fun x o hx e => (Heap.get?_update_other _ _ (Ne.symm hx)).trans ((Heap.get?_update_other _ _ (Ne.symm hx)).trans e)) (Heap.get?_update_self _ hS2 rfl)⟩)
      · show wpAny _ X.A.in1 ((holding [Value.int j tj] (binaryOp .Add (.int i0 t0) (.int j tj))).attempt >>= _) _ _ _
        refine wpAny_bind (wpAny_attempt (wpAny_holding (PySem.P.add_int ?_)))
        show wpAny _ X.A.in1 (updateSeq S (fun _ => #[.int (i0 + j) s'.toks]) >>= _) _ _ _
        refine wpAny_bind ?_
        refine wpAny_updateSeq hS' rfl ?_
        have hS2 := Heap.get?_update_self (Obj.mapSeq fun _ => #[Value.int (i0 + j) s'.toks]) hS' rfl
        refine wpAny_bind (wpAny_letGo ?_)
        refine wpAny_bind ?_
        refine wpAny_updateSeq hS2 rfl (wpAny_pure ⟨plainId_quiet F.plain_sum_loop _, fin _ _ s'.toks _ 2 (.inr rfl) (fun x o hx e => (Heap.get?_update_other _ _ (Ne.symm hx)).trans ((Heap.get?_update_other _ _ (Ne.symm hx)).trans e)) (Heap.get?_update_self _ hS2 rfl)⟩)

/-! ### a list of all items (for tuple) -/
def holdT (S : Addr) : List V → List (Addr × Obj) → Prop := fun ys cp => ∃ (acc : Array Value) (c : Nat), cp = [(S, lstObj acc c)] ∧ Vals ys acc.toList
theorem holdT_ok (S : Addr) : HoldOk (holdT S) [S] := ⟨fun _ cp ⟨t, c, h, _⟩ => by rw [h]; rfl, fun _ cp ⟨t, c, h, _⟩ p hp v z => by
  rw [h] at hp
  rw [List.mem_singleton.mp hp] at z
  cases z⟩
def stpT : List V → V → Hp → (List V → Hp → Prop) → Prop := fun ys y H N => ys.length < sizeLine ∧ N (ys ++ [y]) H
theorem next_in3 {A : Around} {t : Sem (Option Value)} {M : Model} {Q : Option Value → Shared → Prop} {E : Value → Shared → Prop} {s : Shared} (h : wpAny M A.in4 t Q E s) : wpAny M A.in1.in1.in1 t Q E s :=
  wpAny_of_in1 (A := A.in1.in1.in1) h
theorem ext_loop {S : Addr} {res : Value} {Q : List V → Hp → Prop} {R : Result → Shared → Prop} (G : GxH X pins σ (holdT S) [S] stpT Q a gn C)
    (hR : ∀ ys acc c H s', s'.heap.get? S = some (lstObj acc c) → Vals ys acc.toList → (∀ h' tk, (∀ x o, x ≠ S → s'.heap.get? x = some o → h'.get? x = some o) → Inv X pins σ H { s' with heap := h', toks := tk }) → Q ys H → R (.ok (.ret res)) s') :
    ∀ (n : Nat) (s : Shared) (acc0 : Array Value) (c0 : Nat), C n s → s.heap.get? S = some (lstObj acc0 c0) → codeAny (model X.prog X.w) X.A.in1.in1 (.builtin "list.extend.loop" ⟨[.ref S, .ref a, res], []⟩) R s := by
  intro n
  induction n using Nat.strongRecOn with
  | ind n ih =>
    intro s acc0 c0 hC hS
    refine codeAny_builtin F.entry_extend_loop ?_
    rw [Around.under_plainId F.plain_extend_loop _]
    show wpAny _ X.A.in1.in1.in1 (pyNext (.ref a) >>= _) _ _ s
    refine wpAny_bind (wpAny_mono (next_in3 (G.next n s _ hC)) (fun r s' h => ?_) fun _ _ e => e)
    have neS : ∀ {x : Addr}, x ∉ [S] → x ≠ S := fun hx z => hx (by rw [z]; exact List.mem_singleton.mpr rfl)
    have meS : ∀ {x : Addr}, x ≠ S → x ∉ [S] := fun hx z => hx (List.mem_singleton.mp z)
    cases r with
    | none =>
      obtain ⟨ys, cp, H, ⟨acc, c, rfl, rv⟩, hat, hat', hI, hf⟩ := h
      exact wpAny_pure (hR ys acc c H s' (hat' (S, lstObj acc c) (List.mem_singleton.mpr rfl)) rv (fun h' tk k => hI h' tk fun x o hx e => k x o (neS hx) e) hf)
    | some v =>
      obtain ⟨y, ys, cp, H, N, ry, ⟨acc, c, rfl, rv⟩, hat, hat', hI, ⟨hl, hn⟩, wake⟩ := h
      have hS' : s'.heap.get? S = some (lstObj acc c) := hat' (S, lstObj acc c) (List.mem_singleton.mpr rfl)
      have hsz : acc.size = ys.length := by
        have e1 := rv.length
        have e2 : acc.toList.length = acc.size := by simp
        omega
      show wpAny _ X.A.in1.in1.in1 (updateSeq S (·.push v) >>= _) _ _ _
      refine wpAny_bind ?_
      have hS2 := Heap.get?_update_self (Obj.mapSeq (·.push v)) hS' rfl
      obtain ⟨n', en, hC'⟩ := wake (ys ++ [y]) [(S, lstObj (acc.push v) _)] _ s'.toks hn ⟨acc.push v, _, rfl, by rw [Array.toList_push]; exact rv.append (.cons ry .nil)⟩ (fun x o hx e => (Heap.get?_update_other _ _ (Ne.symm (neS hx))).trans e)
        (fun p hp => by rw [List.mem_singleton.mp hp]; exact hS2)
      exact wpAny_updateSeq hS' rfl (wpAny_pure ⟨plainId_quiet F.plain_extend_loop _, ih n' (by omega) _ _ _ hC' hS2⟩) (by rw [hsz]; omega) (by show (acc.push v).size ≤ sizeLine + 1; rw [Array.size_push, hsz]; omega)

/-! ### max, min of ints -/
theorem rc_gt {M : Program} {w : World} {A : Around} {E : Value → Shared → Prop} {i j : Int} {t u : Tok} {s : Shared} {Q : Value → Shared → Prop} (h : Q (.bool (decide (i > j))) s) : wpAny (model M w) A (richCompare .Gt (.int i t) (.int j u)) Q E s :=
  richCompare_gives (op := .Gt) (typeIs_int s _ t) (typeIs_int s _ u) F.slot_int_gt F.entry_int_gt (F.args_int_gt_2 _ _) (gives_int_gt _ _ t u) (fun x => nomatch x) h
theorem rc_lt {M : Program} {w : World} {A : Around} {E : Value → Shared → Prop} {i j : Int} {t u : Tok} {s : Shared} {Q : Value → Shared → Prop} (h : Q (.bool (decide (i < j))) s) : wpAny (model M w) A (richCompare .Lt (.int i t) (.int j u)) Q E s :=
  richCompare_gives (op := .Lt) (typeIs_int s _ t) (typeIs_int s _ u) F.slot_int_lt F.entry_int_lt (F.args_int_lt_2 _ _) (gives_int_lt _ _ t u) (fun x => nomatch x) h
def mmObj (b : Option Value) (c : Nat) : Obj := { cls := .type "list", dict := none, data := .seq (match b with | none => #[] | some v => #[v, v]) c, slots := #[] }
def holdM (S : Addr) : Option Int → List (Addr × Obj) → Prop := fun b cp => ∃ (v : Option Value) (c : Nat), cp = [(S, mmObj v c)] ∧ match b with
  | none => v = none
  | some i => ∃ t, v = some (.int i t)
theorem holdM_ok (S : Addr) : HoldOk (holdM S) [S] := ⟨fun _ cp ⟨t, c, h, _⟩ => by rw [h]; rfl, fun _ cp ⟨t, c, h, _⟩ p hp v z => by
  rw [h] at hp
  rw [List.mem_singleton.mp hp] at z
  cases z⟩
def stpM (bt : Int → Int → Bool) : Option Int → V → Hp → (Option Int → Hp → Prop) → Prop := fun b y H N => ∃ j, y = .int j ∧ N (some (match b with | none => j | some i => if bt j i then j else i)) H
theorem max_loop {S : Addr} {Q : Int → Hp → Prop} {R : Result → Shared → Prop} (G : GxH X pins σ (holdM S) [S] (stpM fun j i => decide (j > i)) (fun b H => ∃ i, b = some i ∧ Q i H) a gn C) (hR : ∀ i t H s', Inv X pins σ H s' → Q i H → R (.ok (.ret (.int i t))) s') :
    ∀ (n : Nat) (s : Shared) (v0 : Option Value) (c0 : Nat), C n s → s.heap.get? S = some (mmObj v0 c0) → codeAny (model X.prog X.w) X.A (.builtin "max.loop" ⟨[.ref a, .none, .ref S], []⟩) R s := by
  have hname : (toString "max" ++ toString ".loop" : String) = "max.loop" := by decide
  intro n
  induction n using Nat.strongRecOn with
  | ind n ih =>
    intro s v0 c0 hC hS
    have neS : ∀ {x : Addr}, x ∉ [S] → x ≠ S := fun hx z => hx (by rw [z]; exact List.mem_singleton.mpr rfl)
    have meS : ∀ {x : Addr}, x ≠ S → x ∉ [S] := fun hx z => hx (List.mem_singleton.mp z)
    refine codeAny_builtin F.entry_max_loop ?_
    rw [Around.under_plainId F.plain_max_loop _]
    show wpAny _ X.A.in1 (seqItems? (.ref S) >>= _) _ _ s
    refine wpAny_bind (wpAny_seqItems hS rfl ?_)
    have nx := next_in1 (G.next n s (fun _ _ => False) hC)
    have step : ∀ (s' : Shared) (v : Value) (j : Int) (t : Tok) (c : Nat) (H : Hp) (N : Option Int → Hp → Prop) (b : Option Int), v = .int j t → N (some j) H →
        (∀ b' cp' h' tk, N b' H → holdM S b' cp' → (∀ x o, x ∉ [S] → s'.heap.get? x = some o → h'.get? x = some o) → AtH cp' h' → ∃ n', n = n' + 1 ∧ C n' { s' with heap := h', toks := tk }) →
        ∀ h' c', (∀ x o, x ≠ S → s'.heap.get? x = some o → h'.get? x = some o) → h'.get? S = some (mmObj (some v) c') →
        codeAny (model X.prog X.w) X.A (.builtin "max.loop" ⟨[.ref a, .none, .ref S], []⟩) R { s' with heap := h' } := fun s' v j t c H N b hv hn wake h' c' k e => by
      obtain ⟨n', en, hC'⟩ := wake (some j) [(S, mmObj (some v) c')] h' s'.toks hn ⟨some v, c', rfl, t, by rw [hv]⟩ (fun x o hx e => k x o (neS hx) e) (fun p hp => by rw [List.mem_singleton.mp hp]; exact e)
      exact ih n' (by omega) _ (some v) c' hC' e
    cases v0 with
    | none =>
      show wpAny _ X.A.in1 (tryCatch (pyNext (.ref a)) _ >>= _) _ _ s
      refine wpAny_bind (wpAny_tryCatch (wpAny_mono nx (fun r s' h => ?_) fun _ _ e => e.elim))
      cases r with
      | none =>
        obtain ⟨b, cp, H, ⟨vv, c, rfl, hb⟩, hat, _, hI, i, rfl, hf⟩ := h
        obtain ⟨t, rfl⟩ := hb
        have e1 := hat (S, mmObj (some (.int i t)) c) (List.mem_singleton.mpr rfl)
        rw [hS] at e1
        cases e1
      | some v =>
        obtain ⟨y, b, cp, H, N, ry, ⟨vv, c, rfl, hb⟩, hat, hat', hI, ⟨j, rfl, hn⟩, wake⟩ := h
        cases b with
        | some i =>
          obtain ⟨t, rfl⟩ := hb
          have e1 := hat (S, mmObj (some (.int i t)) c) (List.mem_singleton.mpr rfl)
          rw [hS] at e1
          cases e1
        | none =>
          have hb : vv = none := hb
          subst hb
          obtain ⟨t, rfl⟩ := ry
          have hS' : s'.heap.get? S = some (mmObj none c) := hat' (S, mmObj none c) (List.mem_singleton.mpr rfl)
          show wpAny _ X.A.in1 (updateSeq S (fun _ => #[.int j t, .int j t]) >>= _) _ _ _
          refine wpAny_bind ?_
          refine wpAny_updateSeq hS' rfl ?_
          rw [hname]
          exact wpAny_pure ⟨plainId_quiet F.plain_max_loop _, step s' (.int j t) j t c H N none rfl hn wake _ _ (fun x o hx e => (Heap.get?_update_other _ _ (Ne.symm hx)).trans e) (Heap.get?_update_self _ hS' rfl)⟩
    | some w0 =>
      show wpAny _ X.A.in1 (tryCatch (pyNext (.ref a)) _ >>= _) _ _ s
      refine wpAny_bind (wpAny_tryCatch (wpAny_mono nx (fun r s' h => ?_) fun _ _ e => e.elim))
      cases r with
      | none =>
        obtain ⟨b, cp, H, ⟨vv, c, rfl, hb⟩, hat, hat', hI, i, rfl, hf⟩ := h
        obtain ⟨t, rfl⟩ := hb
        have e1 := hat (S, mmObj (some (.int i t)) c) (List.mem_singleton.mpr rfl)
        rw [hS] at e1
        cases e1
        have hS' : s'.heap.get? S = some (mmObj (some (.int i t)) c0) := hat' (S, mmObj (some (.int i t)) c0) (List.mem_singleton.mpr rfl)
        show wpAny _ X.A.in1 (updateSeq S (fun _ => #[]) >>= _) _ _ _
        refine wpAny_bind ?_
        refine wpAny_updateSeq hS' rfl (wpAny_bind (wpAny_letGo (wpAny_pure ?_)))
        exact hR i t H _ (hI _ s'.toks fun x o hx e => (Heap.get?_update_other _ _ (Ne.symm (neS hx))).trans e) hf
      | some v =>
        obtain ⟨y, b, cp, H, N, ry, ⟨vv, c, rfl, hb⟩, hat, hat', hI, ⟨j, rfl, hn⟩, wake⟩ := h
        cases b with
        | none =>
          have hb : vv = none := hb
          subst hb
          have e1 := hat (S, mmObj none c) (List.mem_singleton.mpr rfl)
          rw [hS] at e1
          cases e1
        | some i =>
          obtain ⟨t, rfl⟩ := hb
          have e1 := hat (S, mmObj (some (.int i t)) c) (List.mem_singleton.mpr rfl)
          rw [hS] at e1
          cases e1
          obtain ⟨tj, rfl⟩ := ry
          have hS' : s'.heap.get? S = some (mmObj (some (.int i t)) c0) := hat' (S, mmObj (some (.int i t)) c0) (List.mem_singleton.mpr rfl)
          show wpAny _ X.A.in1 (tryCatch (holding [.int j tj, .int j tj] (richCompare .Gt (.int j tj) (.int i t) >>= _)) _ >>= _) _ _ _
          refine wpAny_bind (wpAny_tryCatch (wpAny_holding (wpAny_bind (rc_gt ?_))))
          refine wpAny_bind (wpAny_holding (wpAny_truthy_bool ?_))
          refine wpAny_bind (wpAny_letGo (wpAny_pure ?_))
          cases hb : decide (j > i) with
          | true =>
            have hn : N (some j) H := by simpa [hb] using hn
            simp only [if_true]
            refine wpAny_bind ?_
            refine wpAny_updateSeq hS' rfl (wpAny_bind (wpAny_letGo ?_))
            rw [hname]
            exact wpAny_pure ⟨plainId_quiet F.plain_max_loop _, step s' (.int j tj) j tj c0 H N (some i) rfl hn wake _ _ (fun x o hx e => (Heap.get?_update_other _ _ (Ne.symm hx)).trans e) (Heap.get?_update_self _ hS' rfl)⟩
          | false =>
            have hn : N (some i) H := by simpa [hb] using hn
            simp only [Bool.false_eq_true, if_false]
            refine wpAny_bind (wpAny_letGo ?_)
            rw [hname]
            exact wpAny_pure ⟨plainId_quiet F.plain_max_loop _, step s' (.int i t) i t c0 H N (some i) rfl hn wake _ _ (fun x o hx e => e) hS'⟩
theorem min_loop {S : Addr} {Q : Int → Hp → Prop} {R : Result → Shared → Prop} (G : GxH X pins σ (holdM S) [S] (stpM fun j i => decide (j < i)) (fun b H => ∃ i, b = some i ∧ Q i H) a gn C) (hR : ∀ i t H s', Inv X pins σ H s' → Q i H → R (.ok (.ret (.int i t))) s') :
    ∀ (n : Nat) (s : Shared) (v0 : Option Value) (c0 : Nat), C n s → s.heap.get? S = some (mmObj v0 c0) → codeAny (model X.prog X.w) X.A (.builtin "min.loop" ⟨[.ref a, .none, .ref S], []⟩) R s := by
  have hname : (toString "min" ++ toString ".loop" : String) = "min.loop" := by decide
  intro n
  induction n using Nat.strongRecOn with
  | ind n ih =>
    intro s v0 c0 hC hS
    have neS : ∀ {x : Addr}, x ∉ [S] → x ≠ S := fun hx z => hx (by rw [z]; exact List.mem_singleton.mpr rfl)
    have meS : ∀ {x : Addr}, x ≠ S → x ∉ [S] := fun hx z => hx (List.mem_singleton.mp z)
    refine codeAny_builtin F.entry_min_loop ?_
    rw [Around.under_plainId F.plain_min_loop _]
    show wpAny _ X.A.in1 (seqItems? (.ref S) >>= _) _ _ s
    refine wpAny_bind (wpAny_seqItems hS rfl ?_)
    have nx := next_in1 (G.next n s (fun _ _ => False) hC)
    have step : ∀ (s' : Shared) (v : Value) (j : Int) (t : Tok) (c : Nat) (H : Hp) (N : Option Int → Hp → Prop) (b : Option Int), v = .int j t → N (some j) H →
        (∀ b' cp' h' tk, N b' H → holdM S b' cp' → (∀ x o, x ∉ [S] → s'.heap.get? x = some o → h'.get? x = some o) → AtH cp' h' → ∃ n', n = n' + 1 ∧ C n' { s' with heap := h', toks := tk }) →
        ∀ h' c', (∀ x o, x ≠ S → s'.heap.get? x = some o → h'.get? x = some o) → h'.get? S = some (mmObj (some v) c') →
        codeAny (model X.prog X.w) X.A (.builtin "min.loop" ⟨[.ref a, .none, .ref S], []⟩) R { s' with heap := h' } := fun s' v j t c H N b hv hn wake h' c' k e => by
      obtain ⟨n', en, hC'⟩ := wake (some j) [(S, mmObj (some v) c')] h' s'.toks hn ⟨some v, c', rfl, t, by rw [hv]⟩ (fun x o hx e => k x o (neS hx) e) (fun p hp => by rw [List.mem_singleton.mp hp]; exact e)
      exact ih n' (by omega) _ (some v) c' hC' e
    cases v0 with
    | none =>
      show wpAny _ X.A.in1 (tryCatch (pyNext (.ref a)) _ >>= _) _ _ s
      refine wpAny_bind (wpAny_tryCatch (wpAny_mono nx (fun r s' h => ?_) fun _ _ e => e.elim))
      cases r with
      | none =>
        obtain ⟨b, cp, H, ⟨vv, c, rfl, hb⟩, hat, _, hI, i, rfl, hf⟩ := h
        obtain ⟨t, rfl⟩ := hb
        have e1 := hat (S, mmObj (some (.int i t)) c) (List.mem_singleton.mpr rfl)
        rw [hS] at e1
        cases e1
      | some v =>
        obtain ⟨y, b, cp, H, N, ry, ⟨vv, c, rfl, hb⟩, hat, hat', hI, ⟨j, rfl, hn⟩, wake⟩ := h
        cases b with
        | some i =>
          obtain ⟨t, rfl⟩ := hb
          have e1 := hat (S, mmObj (some (.int i t)) c) (List.mem_singleton.mpr rfl)
          rw [hS] at e1
          cases e1
        | none =>
          have hb : vv = none := hb
          subst hb
          obtain ⟨t, rfl⟩ := ry
          have hS' : s'.heap.get? S = some (mmObj none c) := hat' (S, mmObj none c) (List.mem_singleton.mpr rfl)
          show wpAny _ X.A.in1 (updateSeq S (fun _ => #[.int j t, .int j t]) >>= _) _ _ _
          refine wpAny_bind ?_
          refine wpAny_updateSeq hS' rfl ?_
          rw [hname]
          exact wpAny_pure ⟨plainId_quiet F.plain_min_loop _, step s' (.int j t) j t c H N none rfl hn wake _ _ (fun x o hx e => (Heap.get?_update_other _ _ (Ne.symm hx)).trans e) (Heap.get?_update_self _ hS' rfl)⟩
    | some w0 =>
      show wpAny _ X.A.in1 (tryCatch (pyNext (.ref a)) _ >>= _) _ _ s
      refine wpAny_bind (wpAny_tryCatch (wpAny_mono nx (fun r s' h => ?_) fun _ _ e => e.elim))
      cases r with
      | none =>
        obtain ⟨b, cp, H, ⟨vv, c, rfl, hb⟩, hat, hat', hI, i, rfl, hf⟩ := h
        obtain ⟨t, rfl⟩ := hb
        have e1 := hat (S, mmObj (some (.int i t)) c) (List.mem_singleton.mpr rfl)
        rw [hS] at e1
        cases e1
        have hS' : s'.heap.get? S = some (mmObj (some (.int i t)) c0) := hat' (S, mmObj (some (.int i t)) c0) (List.mem_singleton.mpr rfl)
        show wpAny _ X.A.in1 (updateSeq S (fun _ => #[]) >>= _) _ _ _
        refine wpAny_bind ?_
        refine wpAny_updateSeq hS' rfl (wpAny_bind (wpAny_letGo (wpAny_pure ?_)))
        exact hR i t H _ (hI _ s'.toks fun x o hx e => (Heap.get?_update_other _ _ (Ne.symm (neS hx))).trans e) hf
      | some v =>
        obtain ⟨y, b, cp, H, N, ry, ⟨vv, c, rfl, hb⟩, hat, hat', hI, ⟨j, rfl, hn⟩, wake⟩ := h
        cases b with
        | none =>
          have hb : vv = none := hb
          subst hb
          have e1 := hat (S, mmObj none c) (List.mem_singleton.mpr rfl)
          rw [hS] at e1
          cases e1
        | some i =>
          obtain ⟨t, rfl⟩ := hb
          have e1 := hat (S, mmObj (some (.int i t)) c) (List.mem_singleton.mpr rfl)
          rw [hS] at e1
          cases e1
          obtain ⟨tj, rfl⟩ := ry
          have hS' : s'.heap.get? S = some (mmObj (some (.int i t)) c0) := hat' (S, mmObj (some (.int i t)) c0) (List.mem_singleton.mpr rfl)
          show wpAny _ X.A.in1 (tryCatch (holding [.int j tj, .int j tj] (richCompare .Lt (.int j tj) (.int i t) >>= _)) _ >>= _) _ _ _
          refine wpAny_bind (wpAny_tryCatch (wpAny_holding (wpAny_bind (rc_lt ?_))))
          refine wpAny_bind (wpAny_holding (wpAny_truthy_bool ?_))
          refine wpAny_bind (wpAny_letGo (wpAny_pure ?_))
          cases hb : decide (j < i) with
          | true =>
            have hn : N (some j) H := by simpa [hb] using hn
            simp only [if_true]
            refine wpAny_bind ?_
            refine wpAny_updateSeq hS' rfl (wpAny_bind (wpAny_letGo ?_))
            rw [hname]
            exact wpAny_pure ⟨plainId_quiet F.plain_min_loop _, step s' (.int j tj) j tj c0 H N (some i) rfl hn wake _ _ (fun x o hx e => (Heap.get?_update_other _ _ (Ne.symm hx)).trans e) (Heap.get?_update_self _ hS' rfl)⟩
          | false =>
            have hn : N (some i) H := by simpa [hb] using hn
            simp only [Bool.false_eq_true, if_false]
            refine wpAny_bind (wpAny_letGo ?_)
            rw [hname]
            exact wpAny_pure ⟨plainId_quiet F.plain_min_loop _, step s' (.int i t) i t c0 H N (some i) rfl hn wake _ _ (fun x o hx e => e) hS'⟩
end
end Ct
set_option Elab.async false
set_option maxRecDepth 100000
set_option maxHeartbeats 4000000
/-! all(..), any(..), sum(..), max(..), min(..), tuple(..) of generator expressions. -/
namespace Ct
open PySem PySem.Spec PyProof.Rows L2 GenW
open Sem (wp)
/-- what is asked of a consumer's run -/
def tGx {β : Type} (P : Addr) (wi : TI) (g : TG) (tt : TT) (te : TE) (vs : List Nat) (b0 : β) (stp : β → V → Hp → (β → Hp → Prop) → Prop) (fin : β → Hp → Prop) (σ : L2.St) (H : Hp) : Prop :=
  wi σ H fun J H1 => GxR.TabG H1 P ∧ ∀ H2, GxR.Tabbed P H1 H2 → ∃ W : Nat → Nat → β → Hp → Prop, (∃ m, W 0 m b0 H2) ∧ TurnW J g tt te (wipe σ vs) vs W stp fin
/-- what a genexp in X asks -/
structure GxA (X : Cx) (k : Nat) (elt tg iter : Expr) (ifs : List Expr) (scope : Scope) (own : List (Str × Nat)) (c P : Addr) (wi : TI) (g : TG) (tt : TT) (te : TE) : Prop where
  hr : Room (k + 6) X.A
  TB : GxR.TabB X.base X.mg c P
  code : X.env.code = .ref c
  ok : GxS X.N X.env.scope scope own
  nd : X.N.Nodup
  hi : PI X tg iter wi
  hg : ∀ A s H C code fp pn, Room k (A.deeper (gxEnv X scope C code)) → PG (gxCx X A s H scope C code fp pn) tg g
  ht : ∀ A s H C code fp pn, Room k (A.deeper (gxEnv X scope C code)) → PTs (gxCx X A s H scope C code fp pn) ifs tt
  he : ∀ A s H C code fp pn, Room k (A.deeper (gxEnv X scope C code)) → PE (gxCx X A s H scope C code fp pn) elt te
  hs : ∀ v, genFold iter X.env v = pure v
section
variable {X : Cx} {k : Nat} {elt tg iter : Expr} {ifs : List Expr} {scope : Scope} {own : List (Str × Nat)} {c P : Addr} {wi : TI} {g : TG} {tt : TT} {te : TE} {gpos pos p : Pos}
theorem GxA.make {β : Type} {b0 : β} {stp : β → V → Hp → (β → Hp → Prop) → Prop} {fin : β → Hp → Prop} (Gx : GxA X k elt tg iter ifs scope own c P wi g tt te) {pins : List (Addr × Obj)} {σ : L2.St} {H : Hp} {s : Shared} {Q' : Value → Shared → Prop}
    (I : Inv X pins σ H s) (h : tGx P wi g tt te (own.map fun p : Str × Nat => p.2) b0 stp fin σ H)
    (hQ : ∀ a s5, a < s5.heap.objs.size → (∃ gn, s5.heap.IsGen a gn ∧ ∀ (Hold : β → List (Addr × Obj) → Prop) (cs : List Addr), (∀ c ∈ cs, s5.heap.objs.size ≤ c) → HoldOk Hold cs →
      ∃ C m, GxH X pins σ Hold cs stp fin a gn C ∧ ∀ cp h' tk, Hold b0 cp → (∀ x o, s5.heap.get? x = some o → h'.get? x = some o) → AtH cp h' → C m { s5 with heap := h', toks := tk }) → Q' (.ref a) s5) :
    wpAny (model X.prog X.w) X.A (eval (.GeneratorExp elt [⟨tg, iter, ifs, 0⟩] scope gpos) X.env) Q' X.xe s := by
  refine gx_make (own := own) (R := fun J H2 => ∃ W : Nat → Nat → β → Hp → Prop, (∃ m, W 0 m b0 H2) ∧ TurnW J g tt te (wipe σ (own.map fun p : Str × Nat => p.2)) (own.map fun p : Str × Nat => p.2) W stp fin) Gx.hr Gx.TB Gx.code Gx.ok Gx.nd Gx.hi Gx.hg Gx.ht Gx.he Gx.hs I h fun a J H2 s5 hR hM => ?_
  obtain ⟨W, ⟨m, w⟩, turn⟩ := hR
  obtain ⟨gn, hgen, hlt, hM⟩ := hM
  refine hQ a s5 hlt ⟨gn, hgen, fun Hold cs hcs hH => ?_⟩
  obtain ⟨C, hC, h0⟩ := hM β W stp fin Hold cs hcs hH turn
  exact ⟨C, m + 1, hC, fun cp h' tk hb k at_ => h0 m b0 cp h' tk w hb k at_⟩
/-- all(..) -/
theorem pe_allG (Gx : GxA X k elt tg iter ifs scope own c P wi g tt te) (hg : Gl X "all") (hm : X.mg "all" = none)
    (he : starEach [.GeneratorExp elt [⟨tg, iter, ifs, 0⟩] scope gpos] X.env = (false, eval (.GeneratorExp elt [⟨tg, iter, ifs, 0⟩] scope gpos) X.env) :: starEach [] X.env := by rfl) :
    PE X (.Call (.Name "all" p) [.GeneratorExp elt [⟨tg, iter, ifs, 0⟩] scope gpos] [] pos) (fun σ H Q => tGx P wi g tt te (own.map fun p : Str × Nat => p.2) () (stpAll fun c H => Q (.bl c) H) (fun _ H => Q (.bl true) H) σ H) := by
  refine ⟨fun pins s σ H Q I h => ?_⟩
  refine wpAny_Call_Name_kw (ld_blt I hg hm (show bootBuiltins "all" = some (.builtin "all") by decide +kernel) ?_)
  refine PyProof.Rows.callWith_builtin1 ?_ he (by rfl)
  rw [he]
  show wpAny _ _ (spliced ((false, eval (.GeneratorExp elt [⟨tg, iter, ifs, 0⟩] scope gpos) X.env) :: backTo pos (starEach [] X.env))) _ _ s
  refine Calls.spliced_cons (Gx.make I h fun a s5 hlt ⟨gn, hgen, hM⟩ => ?_)
  obtain ⟨C, m, G, h0⟩ := hM hold0 [] (fun _ z => by cases z) hold0_ok
  refine Calls.spliced_nil ?_
  refine call_function_tree F.kind_all F.plain_all F.entry_all (F.args_all1 _) ?_
  unfold Builtin.«all»
  refine wpAny_bind (m := oneArg "all" _) (wpAny_pure ?_)
  refine wpAny_bind (wpAny_pyIter_gen hgen ?_)
  refine wpAny_pure ⟨plainId_quiet F.plain_all_loop _, all_loop (Q := fun c H => Q (.bl c) H) G (fun c H s' I' q => ?_) m _ (h0 [] s5.heap s5.toks rfl (fun _ _ e => e) (fun p hp => by cases hp))⟩
  exact ⟨.bl c, H, I', rfl, q⟩
theorem pe_anyG (Gx : GxA X k elt tg iter ifs scope own c P wi g tt te) (hg : Gl X "any") (hm : X.mg "any" = none)
    (he : starEach [.GeneratorExp elt [⟨tg, iter, ifs, 0⟩] scope gpos] X.env = (false, eval (.GeneratorExp elt [⟨tg, iter, ifs, 0⟩] scope gpos) X.env) :: starEach [] X.env := by rfl) :
    PE X (.Call (.Name "any" p) [.GeneratorExp elt [⟨tg, iter, ifs, 0⟩] scope gpos] [] pos) (fun σ H Q => tGx P wi g tt te (own.map fun p : Str × Nat => p.2) () (stpAny fun c H => Q (.bl c) H) (fun _ H => Q (.bl false) H) σ H) := by
  refine ⟨fun pins s σ H Q I h => ?_⟩
  refine wpAny_Call_Name_kw (ld_blt I hg hm (show bootBuiltins "any" = some (.builtin "any") by decide +kernel) ?_)
  refine PyProof.Rows.callWith_builtin1 ?_ he (by rfl)
  rw [he]
  show wpAny _ _ (spliced ((false, eval (.GeneratorExp elt [⟨tg, iter, ifs, 0⟩] scope gpos) X.env) :: backTo pos (starEach [] X.env))) _ _ s
  refine Calls.spliced_cons (Gx.make I h fun a s5 hlt ⟨gn, hgen, hM⟩ => ?_)
  obtain ⟨C, m, G, h0⟩ := hM hold0 [] (fun _ z => by cases z) hold0_ok
  refine Calls.spliced_nil ?_
  refine call_function_tree F.kind_any F.plain_any F.entry_any (F.args_any1 _) ?_
  unfold Builtin.«any»
  refine wpAny_bind (m := oneArg "any" _) (wpAny_pure ?_)
  refine wpAny_bind (wpAny_pyIter_gen hgen ?_)
  refine wpAny_pure ⟨plainId_quiet F.plain_any_loop _, any_loop (Q := fun c H => Q (.bl c) H) G (fun c H s' I' q => ?_) m _ (h0 [] s5.heap s5.toks rfl (fun _ _ e => e) (fun p hp => by cases hp))⟩
  exact ⟨.bl c, H, I', rfl, q⟩
/-- sum(..) -/
theorem pe_sumG (Gx : GxA X k elt tg iter ifs scope own c P wi g tt te) (hg : Gl X "sum") (hm : X.mg "sum" = none)
    (he : starEach [.GeneratorExp elt [⟨tg, iter, ifs, 0⟩] scope gpos] X.env = (false, eval (.GeneratorExp elt [⟨tg, iter, ifs, 0⟩] scope gpos) X.env) :: starEach [] X.env := by rfl) :
    PE X (.Call (.Name "sum" p) [.GeneratorExp elt [⟨tg, iter, ifs, 0⟩] scope gpos] [] pos) (fun σ H Q => tGx P wi g tt te (own.map fun p : Str × Nat => p.2) (0 : Int) stpSum (fun i H => Q (.int i) H) σ H) := by
  refine ⟨fun pins s σ H Q I h => ?_⟩
  refine wpAny_Call_Name_kw (ld_blt I hg hm (show bootBuiltins "sum" = some (.builtin "sum") by decide +kernel) ?_)
  refine PyProof.Rows.callWith_builtin1 ?_ he (by rfl)
  rw [he]
  show wpAny _ _ (spliced ((false, eval (.GeneratorExp elt [⟨tg, iter, ifs, 0⟩] scope gpos) X.env) :: backTo pos (starEach [] X.env))) _ _ s
  refine Calls.spliced_cons (Gx.make I h fun a s5 hlt ⟨gn, hgen, hM⟩ => ?_)
  obtain ⟨C, m, G, h0⟩ := hM (holdS s5.heap.objs.size) [s5.heap.objs.size] (fun c z => by rw [List.mem_singleton.mp z]; exact Nat.le_refl _) (holdS_ok _)
  refine Calls.spliced_nil ?_
  refine call_function_tree F.kind_sum F.plain_sum F.entry_sum (F.args_sum1 _) ?_
  unfold Builtin.«sum»
  simp only [List.length_cons, List.length_nil]
  rw [if_neg (by decide)]
  refine wpAny_bind (wpAny_of_eq (show Builtin.Builtins.bindParams "sum" ["start"] 0 { } = pure [none] from rfl) ?_)
  refine wpAny_bind (wpAny_pyIter_gen hgen ?_)
  refine wpAny_bind (wpAny_mkInt ?_)
  refine wpAny_bind (wpAny_pure ?_)
  simp only [List.forIn_cons, List.forIn_nil]
  refine wpAny_bind (wpAny_bind (wpAny_bind (wpAny_isInstance (T := "int") (b := false) (typeIs_int _ _ _) PySem.sub_int_str ?_)))
  simp only [Bool.false_eq_true, if_false]
  refine wpAny_pure (wpAny_bind (wpAny_bind (wpAny_isInstance (T := "int") (b := false) (typeIs_int _ _ _) PySem.sub_int_bytes ?_)))
  simp only [Bool.false_eq_true, if_false]
  refine wpAny_pure (wpAny_bind (wpAny_bind (wpAny_isInstance (T := "int") (b := false) (typeIs_int _ _ _) PySem.sub_int_bytearray ?_)))
  simp only [Bool.false_eq_true, if_false]
  refine wpAny_pure (wpAny_pure ?_)
  refine wpAny_bind (wpAny_newObj_type ?_)
  have hS : (s5.heap.push (sumObj 0 s5.toks 0)).get? s5.heap.objs.size = some (sumObj 0 s5.toks 0) := Heap.get?_push_size _ rfl
  refine wpAny_pure ⟨plainId_quiet F.plain_sum_loop _, sum_loop (Q := fun i H => Q (.int i) H) G (fun i t H s' I' q => ⟨.int i, H, I', ⟨t, rfl⟩, q⟩) m _ 0 0 s5.toks 0 (.inl rfl) (h0 [(s5.heap.objs.size, sumObj 0 s5.toks 0)] (s5.heap.push (sumObj 0 s5.toks 0)) _ ⟨_, _, rfl⟩ (fun x o e => Heap.get?_push_of_some _ e) (fun p hp => by
    rw [List.mem_singleton.mp hp]; exact hS)) hS⟩
theorem pe_maxG (Gx : GxA X k elt tg iter ifs scope own c P wi g tt te) (hg : Gl X "max") (hm : X.mg "max" = none)
    (he : starEach [.GeneratorExp elt [⟨tg, iter, ifs, 0⟩] scope gpos] X.env = (false, eval (.GeneratorExp elt [⟨tg, iter, ifs, 0⟩] scope gpos) X.env) :: starEach [] X.env := by rfl) :
    PE X (.Call (.Name "max" p) [.GeneratorExp elt [⟨tg, iter, ifs, 0⟩] scope gpos] [] pos) (fun σ H Q => tGx P wi g tt te (own.map fun p : Str × Nat => p.2) (none : Option Int) (stpM fun j i => decide (j > i)) (fun b H => ∃ i, b = some i ∧ Q (.int i) H) σ H) := by
  refine ⟨fun pins s σ H Q I h => ?_⟩
  refine wpAny_Call_Name_kw (ld_blt I hg hm (show bootBuiltins "max" = some (.builtin "max") by decide +kernel) ?_)
  refine PyProof.Rows.callWith_builtin1 ?_ he (by rfl)
  rw [he]
  show wpAny _ _ (spliced ((false, eval (.GeneratorExp elt [⟨tg, iter, ifs, 0⟩] scope gpos) X.env) :: backTo pos (starEach [] X.env))) _ _ s
  refine Calls.spliced_cons (Gx.make I h fun a s5 hlt ⟨gn, hgen, hM⟩ => ?_)
  obtain ⟨C, m, G, h0⟩ := hM (holdM s5.heap.objs.size) [s5.heap.objs.size] (fun c z => by rw [List.mem_singleton.mp z]; exact Nat.le_refl _) (holdM_ok _)
  refine Calls.spliced_nil ?_
  have hname : (toString "max" ++ toString ".loop" : String) = "max.loop" := by decide
  refine call_function_tree F.kind_max F.plain_max F.entry_max (F.args_max1 _) ?_
  show wpAny _ X.A.in1 (Builtin.Builtins.bindParams "max" ["key", "default"] 0 ⟨[], []⟩ >>= _) _ _ _
  refine wpAny_bind (wpAny_of_eq (show Builtin.Builtins.bindParams "max" ["key", "default"] 0 ⟨[], []⟩ = pure [none, none] from rfl) ?_)
  refine wpAny_bind (wpAny_pure ?_)
  refine wpAny_bind (wpAny_pyIter_gen hgen ?_)
  refine wpAny_bind (wpAny_newObj_type ?_)
  rw [hname]
  have hS : (s5.heap.push (mmObj none 0)).get? s5.heap.objs.size = some (mmObj none 0) := Heap.get?_push_size _ rfl
  refine wpAny_pure ⟨plainId_quiet F.plain_max_loop _, max_loop (Q := fun i H => Q (.int i) H) G (fun i t H s' I' q => ⟨.int i, H, I', ⟨t, rfl⟩, q⟩) m _ none 0 (h0 [(s5.heap.objs.size, mmObj none 0)] (s5.heap.push (mmObj none 0)) s5.toks ⟨none, _, rfl, rfl⟩ (fun x o e => Heap.get?_push_of_some _ e) (fun p hp => by
    rw [List.mem_singleton.mp hp]; exact hS)) hS⟩
theorem pe_minG (Gx : GxA X k elt tg iter ifs scope own c P wi g tt te) (hg : Gl X "min") (hm : X.mg "min" = none)
    (he : starEach [.GeneratorExp elt [⟨tg, iter, ifs, 0⟩] scope gpos] X.env = (false, eval (.GeneratorExp elt [⟨tg, iter, ifs, 0⟩] scope gpos) X.env) :: starEach [] X.env := by rfl) :
    PE X (.Call (.Name "min" p) [.GeneratorExp elt [⟨tg, iter, ifs, 0⟩] scope gpos] [] pos) (fun σ H Q => tGx P wi g tt te (own.map fun p : Str × Nat => p.2) (none : Option Int) (stpM fun j i => decide (j < i)) (fun b H => ∃ i, b = some i ∧ Q (.int i) H) σ H) := by
  refine ⟨fun pins s σ H Q I h => ?_⟩
  refine wpAny_Call_Name_kw (ld_blt I hg hm (show bootBuiltins "min" = some (.builtin "min") by decide +kernel) ?_)
  refine PyProof.Rows.callWith_builtin1 ?_ he (by rfl)
  rw [he]
  show wpAny _ _ (spliced ((false, eval (.GeneratorExp elt [⟨tg, iter, ifs, 0⟩] scope gpos) X.env) :: backTo pos (starEach [] X.env))) _ _ s
  refine Calls.spliced_cons (Gx.make I h fun a s5 hlt ⟨gn, hgen, hM⟩ => ?_)
  obtain ⟨C, m, G, h0⟩ := hM (holdM s5.heap.objs.size) [s5.heap.objs.size] (fun c z => by rw [List.mem_singleton.mp z]; exact Nat.le_refl _) (holdM_ok _)
  refine Calls.spliced_nil ?_
  have hname : (toString "min" ++ toString ".loop" : String) = "min.loop" := by decide
  refine call_function_tree F.kind_min F.plain_min F.entry_min (F.args_min1 _) ?_
  show wpAny _ X.A.in1 (Builtin.Builtins.bindParams "min" ["key", "default"] 0 ⟨[], []⟩ >>= _) _ _ _
  refine wpAny_bind (wpAny_of_eq (show Builtin.Builtins.bindParams "min" ["key", "default"] 0 ⟨[], []⟩ = pure [none, none] from rfl) ?_)
  refine wpAny_bind (wpAny_pure ?_)
  refine wpAny_bind (wpAny_pyIter_gen hgen ?_)
  refine wpAny_bind (wpAny_newObj_type ?_)
  rw [hname]
  have hS : (s5.heap.push (mmObj none 0)).get? s5.heap.objs.size = some (mmObj none 0) := Heap.get?_push_size _ rfl
  refine wpAny_pure ⟨plainId_quiet F.plain_min_loop _, min_loop (Q := fun i H => Q (.int i) H) G (fun i t H s' I' q => ⟨.int i, H, I', ⟨t, rfl⟩, q⟩) m _ none 0 (h0 [(s5.heap.objs.size, mmObj none 0)] (s5.heap.push (mmObj none 0)) s5.toks ⟨none, _, rfl, rfl⟩ (fun x o e => Heap.get?_push_of_some _ e) (fun p hp => by
    rw [List.mem_singleton.mp hp]; exact hS)) hS⟩

/-! ### tuple(..) -/
section
variable {pins : List (Addr × Obj)} {σ : L2.St} {Q : List V → Hp → Prop} {a gn : Addr}
/-- what the making leaves, for tuple -/
def TReady (X : Cx) (pins : List (Addr × Obj)) (σ : L2.St) (Q : List V → Hp → Prop) (a : Addr) (s5 : Shared) : Prop :=
  a < s5.heap.objs.size ∧ ∃ gn, s5.heap.IsGen a gn ∧ ∀ (Hold : List V → List (Addr × Obj) → Prop) (cs : List Addr), (∀ c ∈ cs, s5.heap.objs.size ≤ c) → HoldOk Hold cs →
      ∃ C m, GxH X pins σ Hold cs stpT Q a gn C ∧ ∀ cp h' tk, Hold [] cp → (∀ x o, s5.heap.get? x = some o → h'.get? x = some o) → AtH cp h' → C m { s5 with heap := h', toks := tk }
theorem collect_gx {s5 : Shared} {E : Value → Shared → Prop} {Q' : List Value → Shared → Prop} (h : TReady X pins σ Q a s5)
    (hQ : ∀ ys us H s', Inv X pins σ H s' → Vals ys us → Q ys H → Q' us s') : wpAny (model X.prog X.w) X.A.in1.in1 (collect (.ref a)) Q' E s5 := by
  obtain ⟨hlt, gn, hgen, hM⟩ := h
  obtain ⟨C, m, G, h0⟩ := hM (holdT s5.heap.objs.size) [s5.heap.objs.size] (fun c z => by rw [List.mem_singleton.mp z]; exact Nat.le_refl _) (holdT_ok _)
  have hSI : s5.heap.objs.size ≠ a := Nat.ne_of_gt hlt
  unfold collect
  refine wpAny_bind (wpAny_runValue (codeAny_builtin F.entry_proto_collect ?_))
  rw [Around.under_plainId F.plain_proto_collect _]
  show wpAny _ X.A.in1.in1.in1 (newList [] >>= fun l => again (.builtin "list.__iadd__" ⟨[l, .ref a], []⟩)) _ _ s5
  refine wpAny_bind (wpAny_newObj_type ?_)
  refine wpAny_pure ⟨plainId_quiet F.plain_list_iadd _, codeAny_builtin F.entry_list_iadd ?_⟩
  rw [Around.under_plainId F.plain_list_iadd _]
  have k1 : ∀ b o, s5.heap.get? b = some o → (s5.heap.push { cls := .type "list", data := .seq ([] : List Value).toArray }).get? b = some o := fun b o e => Heap.get?_push_of_some _ e
  have gty : ∀ {h : Heap}, (∀ b o, s5.heap.get? b = some o → h.get? b = some o) → h.IsGen a gn := fun {h} q => hgen.keeps q
  show wpAny _ X.A.in1.in1.in1 (Builtin.List.listExtendWith (.ref s5.heap.objs.size) (.ref a) (.ref s5.heap.objs.size)) _ _ _
  unfold Builtin.List.listExtendWith
  refine wpAny_bind (wpAny_typeOf (Heap.IsGen.typeIs (s := { s5 with heap := _ }) (gty k1)) ?_)
  have h1 : Builtin.List.listSameRef (.ref s5.heap.objs.size) (.ref a) = false := by simp [Builtin.List.listSameRef, hSI]
  have h2 : (Value.type "generator" == Value.type "list") = false := by decide
  have h3 : (Value.type "generator" == Value.type "tuple") = false := by decide
  simp only [h1, h2, h3, Bool.or_false, Bool.false_eq_true, if_false]
  refine wpAny_bind (wpAny_pyIter_gen (s := { s5 with heap := _ }) (gty k1) ?_)
  refine wpAny_bind (wpAny_holding ?_)
  unfold Builtin.List.listLengthHint
  refine wpAny_bind (wpAny_specialOf (Heap.IsGen.typeIs (s := { s5 with heap := _ }) (gty k1)) F.gen_no_len ?_)
  show wpAny _ X.A.in1.in1.in1 (specialOf (Value.ref a) (Str.ofString "__length_hint__") >>= _) _ _ _
  refine wpAny_bind (wpAny_specialOf (Heap.IsGen.typeIs (s := { s5 with heap := _ }) (gty k1)) F.gen_no_hint ?_)
  refine wpAny_pure ?_
  show wpAny _ X.A.in1.in1.in1 (rule "list.extend.makes-room" >>= fun _ => Builtin.List.listTouch (.ref s5.heap.objs.size) >>= fun _ =>
    again (.builtin "list.extend.loop" ⟨[.ref s5.heap.objs.size, .ref a, .ref s5.heap.objs.size], []⟩)) _ _ _
  refine wpAny_bind (wpAny_rule ?_)
  have hS₁ : (s5.heap.push { cls := .type "list", data := .seq ([] : List Value).toArray }).get? s5.heap.objs.size = some { cls := .type "list", data := .seq ([] : List Value).toArray } := Heap.get?_push_size _ rfl
  refine wpAny_bind ?_
  show wpAny _ X.A.in1.in1.in1 (updateSeq s5.heap.objs.size (·.push .none) >>= fun _ => updateSeq s5.heap.objs.size (·.pop)) _ _ _
  refine wpAny_bind (wpAny_updateSeq hS₁ rfl ?_)
  have hS₂ := Heap.get?_update_self (Obj.mapSeq (·.push Value.none)) hS₁ rfl
  refine wpAny_updateSeq hS₂ rfl ?_
  have hS₃ := Heap.get?_update_self (Obj.mapSeq (·.pop)) hS₂ rfl
  have up : ∀ (h : Heap) (f : Obj → Obj), (∀ b o, s5.heap.get? b = some o → h.get? b = some o) → ∀ b o, s5.heap.get? b = some o → (h.update s5.heap.objs.size f).get? b = some o := fun h f q b o e =>
    (Heap.get?_update_other _ _ (Ne.symm (Nat.ne_of_lt (Heap.lt_size e)))).trans (q b o e)
  have k3 := up _ (Obj.mapSeq (·.pop)) (up _ (Obj.mapSeq (·.push Value.none)) k1)
  refine wpAny_pure ⟨plainId_quiet F.plain_extend_loop _, ext_loop (Q := Q) G (fun ys acc c H s' e rv hI q => ?_) m _ #[] _ (h0 [(s5.heap.objs.size, lstObj #[] _)] _ s5.toks ⟨#[], _, rfl, .nil⟩ k3 (fun p hp => by rw [List.mem_singleton.mp hp]; exact hS₃)) hS₃⟩
  show wpAny _ X.A.in1.in1 (load s5.heap.objs.size >>= _) _ _ s'
  refine wpAny_bind (wpAny_load e ?_)
  exact wpAny_pure (hQ ys acc.toList H s' (hI s'.heap s'.toks fun _ _ _ e => e) rv q)
theorem tuple_gx {s5 : Shared} {E : Value → Shared → Prop} {Q' : Value → Shared → Prop} (h : TReady X pins σ Q a s5)
    (hQ : ∀ ys us H s', Inv X pins σ H s' → Vals ys us → Q ys H → ys.length ≤ sizeLine ∧ Q' (.ref s'.heap.objs.size) { s' with heap := s'.heap.push { cls := .type "tuple", data := .seq us.toArray } }) : wpAny (model X.prog X.w) X.A (call (.type "tuple") [.ref a]) Q' E s5 := by
  have hgen := h.2
  obtain ⟨gn, hgen, _⟩ := hgen
  refine callType_codes (Q₁ := fun obj s₁ => s₁.TypeIs obj "tuple" ∧ Q' obj s₁) F.called_tuple (F.typeCall_tuple_1 _) F.entry_object_init ?_ fun obj s₁ h₁ => ?_
  · refine codeAny_of_tree ?_
    show wpAny _ X.A.in1.in1 (do checkBuiltinCall "tuple.__new__" ⟨[.type "tuple", .ref a], []⟩; again (.builtin "tuple.__new__" ⟨[.type "tuple", .ref a], []⟩)) _ _ s5
    refine wpAny_bind (wpAny_of_eq (F.newCall_tuple_1 _) (wpAny_pure ⟨plainId_quiet F.plain_tuple_new _, codeAny_builtin F.entry_tuple_new ?_⟩))
    rw [Around.under_plainId F.plain_tuple_new _]
    have hsub := sub_tuple_self
    have hinit := init_tuple_lookup
    have hmh := madeHere_tuple
    have hTI : s5.TypeIs (.ref a) "generator" := Heap.IsGen.typeIs hgen
    wp_walk using wpAny_typeOf hTI, collect_gx h
    intro ys us H s' I rv q
    obtain ⟨hl, hq⟩ := hQ ys us H s' I rv q
    show wpAny _ _ (Builtin.Tuple.tupleExact us.toArray >>= fun v => ret v) _ _ _
    unfold Builtin.Tuple.tupleExact
    refine wpAny_bind (wpAny_newObj_type ?_ (by show us.toArray.size ≤ sizeLine; rw [List.size_toArray, ← rv.length]; exact hl))
    exact wpAny_pure ⟨⟨_, Heap.get?_push_size _ rfl, rfl⟩, hq⟩
  · exact ⟨h₁.1, F.args_object_init_2 obj _, object_init_meets F.called_tuple.init.lookup F.called_tuple.made (by decide) X.prog X.w X.A.in1 _ s₁ ⟨h₁.1, rfl, h₁.2⟩⟩
end
theorem pe_tupG (Gx : GxA X k elt tg iter ifs scope own c P wi g tt te) (hg : Gl X "tuple") (hm : X.mg "tuple" = none)
    (he : starEach [.GeneratorExp elt [⟨tg, iter, ifs, 0⟩] scope gpos] X.env = (false, eval (.GeneratorExp elt [⟨tg, iter, ifs, 0⟩] scope gpos) X.env) :: starEach [] X.env := by rfl) :
    PE X (.Call (.Name "tuple" p) [.GeneratorExp elt [⟨tg, iter, ifs, 0⟩] scope gpos] [] pos) (fun σ H Q => tGx P wi g tt te (own.map fun p : Str × Nat => p.2) ([] : List V) stpT (fun ys H => ys.length ≤ sizeLine ∧ ∀ p, H p = none → Q (.ref p) (upd H p (.tup ys))) σ H) := by
  refine ⟨fun pins s σ H Q I h => ?_⟩
  refine wpAny_Call_Name_kw (ld_blt I hg hm (show bootBuiltins "tuple" = some (.type "tuple") by decide +kernel) ?_)
  refine PyProof.Rows.callWith_type1 ?_ he (by rfl)
  rw [he]
  show wpAny _ _ (spliced ((false, eval (.GeneratorExp elt [⟨tg, iter, ifs, 0⟩] scope gpos) X.env) :: backTo pos (starEach [] X.env))) _ _ s
  refine Calls.spliced_cons (Gx.make I h fun a s5 hlt hM => ?_)
  refine Calls.spliced_nil ?_
  refine tuple_gx ⟨hlt, hM⟩ fun ys us H s' I' rv q => ⟨q.1, ?_⟩
  have new : s'.heap.get? s'.heap.objs.size = none := Heap.get?_none_of_le (Nat.le_refl _)
  refine ⟨.ref s'.heap.objs.size, upd H s'.heap.objs.size (.tup ys), I'.laid (t' := s'.toks) (fun b o e => Heap.get?_push_of_some _ e) (Nat.le_refl _) ⟨q.1, us, rv, ?_⟩, rfl, q.2 _ (I'.hok.fresh (Nat.le_refl _))⟩
  exact ⟨_, Heap.get?_push_size _ rfl, rfl, _, rfl⟩
end
end Ct
set_option Elab.async false
set_option maxRecDepth 100000
set_option maxHeartbeats 4000000
/-! Generator expressions in all, any, sum, max, min, tuple: by functions. -/
namespace Ct
open PySem PySem.Spec PyProof.Rows L2
section
variable {W : Wd} {E : XK} {X : Cx} {S S' S2 : Addr → Prop} {l l' l2 : List Addr} {H H' H2 : Hp} {st st' st2 : Store}
/-- the table has grown -/
theorem Ext.tabbed {P : Addr} (hT : GxR.Tabbed P H H') (h : GxR.TabG H P) : Ext S l H S l H' := by
  obtain ⟨⟨ps, e, _⟩, k⟩ := hT
  obtain ⟨ps0, e0, _⟩ := h
  refine ⟨⟨[], by simp, by simp⟩, fun _ h => h, fun _ h => .inl h, fun a o _ q n => ?_, fun a q => ?_⟩
  · rw [k a (fun z => by rw [z, e0] at q; cases q; exact n ps0 rfl)]; exact q
  · by_cases z : a = P
    · rw [z, e]; simp
    · rw [k a z]; exact q
theorem Rel.tabbed {P : Addr} (rl : Rel W S l st H) (hT : GxR.Tabbed P H H') (hP : GxR.TabG H P) (hn : ∀ p ∈ W.T, p.1 ≠ P) : Rel W S l st H' := by
  have x : Ext S l H S l H' := Ext.tabbed hT hP
  have nP : ∀ a o, H a = some o → (∀ ps, o ≠ .tbl ps) → H' a = some o := fun a o e n => by
    obtain ⟨ps0, e0, _⟩ := hP
    rw [hT.2 a (fun z => by rw [z, e0] at e; cases e; exact n ps0 rfl)]; exact e
  refine ⟨rl.len, rl.nd, rl.sub, fun a z => x.dom a (rl.dom a z), fun n c e => ?_, fun p hp => ?_, fun P' hP' => ?_⟩
  · obtain ⟨a, o, h1, h2, h3⟩ := rl.cell n c e
    exact ⟨a, o, h1, nP a o h2 (fun ps z => by subst z; exact h3.kind), h3.ext rl x⟩
  · obtain ⟨ps, h1, h2, h3⟩ := rl.tabs.1 p hp
    refine ⟨ps, by rw [hT.2 _ (hn p hp)]; exact h1, h2, fun pos cv e => ?_⟩
    obtain ⟨c, e1, e2⟩ := h3 pos cv e
    exact ⟨c, e1, nP _ _ e2 LamX.codeO_ne⟩
  · by_cases z : P' = P
    · rw [z]; exact hT.1
    · obtain ⟨ps, h1, h2⟩ := rl.tabs.2 P' hP'
      exact ⟨ps, by rw [hT.2 _ z]; exact h1, h2⟩

open Classical in
noncomputable def gxLoop {γ : Type} (s : Src) (g : GM) (t : TM) (e : EM) (env : EnvD) (k : γ → U → Option (γ ⊕ D)) (f : γ → Option D) : List U → γ → Store → R U
  | [], b, st => if guarded s.1 s.2 st then (match f b with | some u => .ok (.d u) st | none => .bad) else .bad
  | u :: r, b, st => if guarded s.1 s.2 st then (g u env st).nox.bind fun env1 st1 => (t env1 st1).nox.bind fun c st2 => if c = true then (e env1 st2).nox.bind fun x st3 => (match k b x with
      | some (.inl b') => gxLoop s g t e env k f r b' st3
      | some (.inr u) => .ok (.d u) st3
      | none => .bad) else gxLoop s g t e env k f r b st2 else .bad
noncomputable def gxRun {γ : Type} (vs : List Nat) (mi : IM) (g : GM) (t : TM) (e : EM) (k : γ → U → Option (γ ⊕ D)) (f : γ → Option D) (b0 : γ) : EM := fun env st => (mi env st).bind fun s st1 => gxLoop s g t e (wipeE env vs) k f s.2 b0 st1
/-- the consumer's rule and its function -/
structure ConsOk (W : Wd) {β γ : Type} (Q : VK) (rep : (Addr → Prop) → Hp → β → γ → Prop) (stp : β → V → Hp → (β → Hp → Prop) → Prop) (fin : β → Hp → Prop) (k : γ → U → Option (γ ⊕ D)) (f : γ → Option D) : Prop where
  ext : ∀ S l st H S' l' H' b c, Rel W S l st H → Ext S l H S' l' H' → rep S H b c → rep S' H' b c
  stp : ∀ S l st H b c y u N z, Rel W S l st H → rep S H b c → RepU W S l H y u → k c u = some z → (match z with
      | .inl c' => ∀ b', rep S H b' c' → N b' H
      | .inr v => ∀ x S' l' H', Ext S l H S' l' H' → Rel W S' l' st H' → RepD W S' H' x v → Q x H') → stp b y H N
  fin : ∀ S l st H b c v, Rel W S l st H → rep S H b c → f c = some v → (∀ x S' l' H', Ext S l H S' l' H' → Rel W S' l' st H' → RepD W S' H' x v → Q x H') → fin b H
theorem gx_read {β γ : Type} {P : Addr} {vs ts : List Nat} {mi : IM} {g : GM} {t : TM} {e : EM} {k : γ → U → Option (γ ⊕ D)} {f : γ → Option D} {b0 : β} {c0 : γ} {rep : (Addr → Prop) → Hp → β → γ → Prop}
    {stp : VK → β → V → Hp → (β → Hp → Prop) → Prop} {fin : VK → β → Hp → Prop}
    (hP : P ∈ W.G) (hn : ∀ p ∈ W.T, p.1 ≠ P) (hts : ∀ i ∈ ts, i ∈ vs) (h0 : ∀ S H, rep S H b0 c0) (C : ∀ Q, ConsOk W Q rep (stp Q) (fin Q) k f) : ∀ σ H Q, tE W E (gxRun vs mi g t e k f c0) σ H Q →
      tGx P (tIt W E mi) (tG W E0 ts g) (tT W E0 t) (tE W E0 e) vs b0 (stp Q) (fin Q) σ H := by
  rintro σ H Q ⟨S0, l0, env, st0, rl0, re0, h⟩
  refine ⟨S0, l0, env, st0, rl0, re0, (Post.bind (rep := repI W) h).imp ?_⟩
  rintro J H1 ⟨S1, l1, s, st1, x1, r1, p1, h1⟩
  have hG := r1.tabs.2 P hP
  refine ⟨hG, fun H2 hT => ?_⟩
  have xT : Ext S1 l1 H1 S1 l1 H2 := Ext.tabbed hT hG
  have r2 := r1.tabbed hT hG hn
  have p2 := SrcOk.ext p1 xT
  have re2 := ((re0.ext rl0 x1).ext r1 xT).wipe vs
  have h2 := Post.ext xT h1
  clear h h1 p1 re0 rl0 x1 xT r1 hG hT
  refine ⟨fun i m b G => m = s.2.length - i ∧ i ≤ s.2.length ∧ ∃ S l st c, Ext S1 l1 H2 S l G ∧ Rel W S l st G ∧ rep S G b c ∧ Post W (repU W) E S1 l1 H2 Q (gxLoop s g t e (wipeE env vs) k f (s.2.drop i) c st),
    ⟨_, rfl, Nat.zero_le _, S1, l1, st1, c0, Ext.refl _ _ _, r2, h0 _ _, h2⟩, ?_⟩
  rintro i m b G ⟨rfl, hi, S, l, st, c, x, rl, rp, h⟩
  have re := re2.ext r2 x
  by_cases hil : i < s.2.length
  · right
    rw [List.drop_eq_getElem_cons hil] at h
    unfold gxLoop at h
    split at h
    · rename_i hgd
      obtain ⟨hgo, hy⟩ := (p2 S l st G x rl hgd i).2 s.2[i] (List.getElem?_eq_getElem hil)
      refine ⟨hgo, fun b' G' => i + 1 ≤ s.2.length ∧ ∃ S l st c, Ext S1 l1 H2 S l G' ∧ Rel W S l st G' ∧ rep S G' b' c ∧ Post W (repU W) E S1 l1 H2 Q (gxLoop s g t e (wipeE env vs) k f (s.2.drop (i + 1)) c st),
        fun b' G' z => ⟨_, by omega, rfl, z⟩, fun y G2 hyl => ?_⟩
      obtain ⟨S2, l2, x2, r3, p3⟩ := hy y G2 hyl
      refine ⟨S2, l2, wipeE env vs, st, _, r3, re.ext rl x2, p3, ?_⟩
      cases eg : g s.2[i] (wipeE env vs) st with
      | bad => rw [eg] at h; exact h.elim
      | exc z q => rw [eg] at h; exact h.elim
      | ok env3 st3 =>
        rw [eg] at h
        rintro σ3 S3 l3 G3 x3 r4 ⟨re3, on3⟩
        refine ⟨by rw [on3.wipe hts, wipe_wipe], S3, l3, env3, st3, r4, re3, ?_⟩
        simp only [R.nox_ok, R.bind_ok] at h
        cases et : t env3 st3 with
        | bad => rw [et] at h; exact h.elim
        | exc z q => rw [et] at h; exact h.elim
        | ok bb st4 =>
          rw [et] at h
          simp only [R.nox_ok, R.bind_ok] at h
          rintro b' S4 l4 G4 x4 r5 p4
          have p4 : b' = bb := p4
          subst p4
          have x24 := (x2.trans x3).trans x4
          cases b' with
          | false =>
            refine iteF ?_
            rw [if_neg Bool.false_ne_true] at h
            exact ⟨hil, S4, l4, st4, c, x.trans x24, r5, (C Q).ext _ _ _ _ _ _ _ _ _ rl x24 rp, h⟩
          | true =>
            refine iteT ?_
            rw [if_pos rfl] at h
            refine ⟨S4, l4, env3, st4, r5, re3.ext r4 x4, ?_⟩
            cases ee : e env3 st4 with
            | bad => rw [ee] at h; exact h.elim
            | exc z q => rw [ee] at h; exact h.elim
            | ok u st5 =>
              rw [ee] at h
              simp only [R.nox_ok, R.bind_ok] at h
              rintro v S5 l5 G5 x5 r6 p5
              have x25 := x24.trans x5
              have rp5 := (C Q).ext _ _ _ _ _ _ _ _ _ rl x25 rp
              split at h
              · rename_i c' ek
                exact (C Q).stp S5 l5 st5 G5 b c v u _ _ r6 rp5 p5 ek fun b' rb => ⟨hil, S5, l5, st5, c', x.trans x25, r6, rb, h⟩
              · rename_i w ek
                exact (C Q).stp S5 l5 st5 G5 b c v u _ _ r6 rp5 p5 ek fun z S' l' H' xx rr rd => h z S' l' H' ((x.trans x25).trans xx) rr rd
              · exact h.elim
    · exact h.elim
  · left
    have hie : s.2.length = i := by omega
    rw [List.drop_of_length_le (by omega)] at h
    unfold gxLoop at h
    split at h
    · rename_i hgd
      refine ⟨(p2 S l st G x rl hgd i).1 hie, ?_⟩
      split at h
      · rename_i u eu
        exact (C Q).fin S l st G b c u rl rp eu fun z S' l' H' xx rr rd => h z S' l' H' (x.trans xx) rr rd
      · exact h.elim
    · exact h.elim

/-! ### the consumers -/
def kAll : Unit → U → Option (Unit ⊕ D)
  | _, .d (.bl true) => some (.inl ())
  | _, .d (.bl false) => some (.inr (.bl false))
  | _, _ => none
def fAll : Unit → Option D := fun _ => some (.bl true)
theorem all_cons (Q : VK) : ConsOk W Q (fun _ _ (_ : Unit) (_ : Unit) => True) (stpAll fun c H => Q (.bl c) H) (fun _ H => Q (.bl true) H) kAll fAll := by
  refine ⟨fun _ _ _ _ _ _ _ _ _ _ _ _ => trivial, fun S l st H b c y u N z rl _ p ek h => ?_, fun S l st H b c v rl _ ef h => ?_⟩
  · unfold kAll at ek
    split at ek
    · cases ek; cases p
      exact ⟨true, rfl, iteT (h () trivial)⟩
    · cases ek; cases p
      exact ⟨false, rfl, iteF (h _ S l H (Ext.refl _ _ _) rl (.bl _))⟩
    · cases ek
  · cases ef
    exact h _ S l H (Ext.refl _ _ _) rl (.bl _)
def kAny : Unit → U → Option (Unit ⊕ D)
  | _, .d (.bl false) => some (.inl ())
  | _, .d (.bl true) => some (.inr (.bl true))
  | _, _ => none
def fAny : Unit → Option D := fun _ => some (.bl false)
theorem any_cons (Q : VK) : ConsOk W Q (fun _ _ (_ : Unit) (_ : Unit) => True) (stpAny fun c H => Q (.bl c) H) (fun _ H => Q (.bl false) H) kAny fAny := by
  refine ⟨fun _ _ _ _ _ _ _ _ _ _ _ _ => trivial, fun S l st H b c y u N z rl _ p ek h => ?_, fun S l st H b c v rl _ ef h => ?_⟩
  · unfold kAny at ek
    split at ek
    · cases ek; cases p
      exact ⟨false, rfl, iteF (h () trivial)⟩
    · cases ek; cases p
      exact ⟨true, rfl, iteT (h _ S l H (Ext.refl _ _ _) rl (.bl _))⟩
    · cases ek
  · cases ef
    exact h _ S l H (Ext.refl _ _ _) rl (.bl _)
def kSum : Int → U → Option (Int ⊕ D)
  | b, .d (.int j) => some (.inl (b + j))
  | _, _ => none
def fSumG : Int → Option D := fun b => some (.int b)
theorem sum_cons (Q : VK) : ConsOk W Q (fun _ _ (b : Int) (c : Int) => b = c) stpSum (fun i H => Q (.int i) H) kSum fSumG := by
  refine ⟨fun _ _ _ _ _ _ _ _ _ _ _ h => h, fun S l st H b c y u N z rl hb p ek h => ?_, fun S l st H b c v rl hb ef h => ?_⟩
  · subst hb
    unfold kSum at ek
    split at ek
    · cases ek; cases p
      exact ⟨_, rfl, h _ rfl⟩
    · cases ek
  · subst hb
    cases ef
    exact h _ S l H (Ext.refl _ _ _) rl (.int _)
def kM (bt : Int → Int → Bool) : Option Int → U → Option (Option Int ⊕ D)
  | b, .d (.int j) => some (.inl (some (match b with | none => j | some i => if bt j i then j else i)))
  | _, _ => none
def fM : Option Int → Option D := fun b => b.map D.int
theorem m_cons (bt : Int → Int → Bool) (Q : VK) : ConsOk W Q (fun _ _ (b : Option Int) (c : Option Int) => b = c) (stpM bt) (fun b H => ∃ i, b = some i ∧ Q (.int i) H) (kM bt) fM := by
  refine ⟨fun _ _ _ _ _ _ _ _ _ _ _ h => h, fun S l st H b c y u N z rl hb p ek h => ?_, fun S l st H b c v rl hb ef h => ?_⟩
  · subst hb
    unfold kM at ek
    split at ek
    · cases ek; cases p
      exact ⟨_, rfl, h _ rfl⟩
    · cases ek
  · subst hb
    cases b with
    | none => cases ef
    | some i =>
      cases ef
      exact ⟨i, rfl, h _ S l H (Ext.refl _ _ _) rl (.int _)⟩
def kTup : List D → U → Option (List D ⊕ D)
  | ds, .d x => if ds.length < sizeLine then some (.inl (ds ++ [x])) else none
  | _, _ => none
def fTup : List D → Option D := fun ds => if ds.length ≤ sizeLine then some (.tup ds) else none
theorem tup_cons (Q : VK) : ConsOk W Q (fun S H (b : List V) (c : List D) => RepL W S H b c) stpT (fun ys H => ys.length ≤ sizeLine ∧ ∀ p, H p = none → Q (.ref p) (upd H p (.tup ys))) kTup fTup := by
  refine ⟨fun _ _ _ _ _ _ _ _ _ rl x h => h.ext rl x, fun S l st H b c y u N z rl hb p ek h => ?_, fun S l st H b c v rl hb ef h => ?_⟩
  · unfold kTup at ek
    split at ek
    · split at ek
      · rename_i hl
        cases ek
        exact ⟨by rw [hb.length]; exact hl, h _ (hb.append (.cons p .nil))⟩
      · cases ek
    · cases ek
  · unfold fTup at ef
    split at ef
    · rename_i hl
      cases ef
      exact ⟨by rw [hb.length]; exact hl, fun p hp => h _ _ _ _ (Ext.new hp) (rl.new hp) (.tup (.inl (.inl upd_same)) (hb.ext rl (Ext.new hp)))⟩
    · cases ef

structure GxJ (W : Wd) (E : XK) (X : Cx) (k : Nat) (elt tg iter : Expr) (ifs : List Expr) (scope : Scope) (own : List (Str × Nat)) (c P : Addr) (mi : IM) (ts : List Nat) (g : GM) (t : TM) (e : EM) : Prop where
  hr : Room (k + 6) X.A
  TB : GxR.TabB X.base X.mg c P
  code : X.env.code = .ref c
  ok : GxS X.N X.env.scope scope own
  nd : X.N.Nodup
  hi : JI W E X tg iter mi
  hg : ∀ A s H C code fp pn, Room k (A.deeper (gxEnv X scope C code)) → JG W E0 (gxCx X A s H scope C code fp pn) tg ts g
  ht : ∀ A s H C code fp pn, Room k (A.deeper (gxEnv X scope C code)) → PTs (gxCx X A s H scope C code fp pn) ifs (tT W E0 t)
  he : ∀ A s H C code fp pn, Room k (A.deeper (gxEnv X scope C code)) → JE W E0 (gxCx X A s H scope C code fp pn) elt e
  hs : ∀ v, genFold iter X.env v = pure v
  hP : P ∈ W.G
  hn : ∀ p ∈ W.T, p.1 ≠ P
  hts : ∀ i ∈ ts, i ∈ own.map fun p : Str × Nat => p.2
section
variable {k : Nat} {elt tg iter : Expr} {ifs : List Expr} {scope : Scope} {own : List (Str × Nat)} {c P : Addr} {mi : IM} {ts : List Nat} {g : GM} {t : TM} {e : EM} {gpos pos p : Pos}
theorem GxJ.a (G : GxJ W E X k elt tg iter ifs scope own c P mi ts g t e) : GxA X k elt tg iter ifs scope own c P (tIt W E mi) (tG W E0 ts g) (tT W E0 t) (tE W E0 e) := ⟨G.hr, G.TB, G.code, G.ok, G.nd, G.hi, G.hg, G.ht, G.he, G.hs⟩
noncomputable def mAllG (vs : List Nat) (mi : IM) (g : GM) (t : TM) (e : EM) : EM := gxRun vs mi g t e kAll fAll ()
noncomputable def mAnyG (vs : List Nat) (mi : IM) (g : GM) (t : TM) (e : EM) : EM := gxRun vs mi g t e kAny fAny ()
noncomputable def mSumG (vs : List Nat) (mi : IM) (g : GM) (t : TM) (e : EM) : EM := gxRun vs mi g t e kSum fSumG 0
noncomputable def mMaxG (vs : List Nat) (mi : IM) (g : GM) (t : TM) (e : EM) : EM := gxRun vs mi g t e (kM fun j i => decide (j > i)) fM none
noncomputable def mMinG (vs : List Nat) (mi : IM) (g : GM) (t : TM) (e : EM) : EM := gxRun vs mi g t e (kM fun j i => decide (j < i)) fM none
noncomputable def mTupG (vs : List Nat) (mi : IM) (g : GM) (t : TM) (e : EM) : EM := gxRun vs mi g t e kTup fTup []
theorem je_allG (G : GxJ W E X k elt tg iter ifs scope own c P mi ts g t e) (hg : Gl X "all") (hm : X.mg "all" = none)
    (he : starEach [.GeneratorExp elt [⟨tg, iter, ifs, 0⟩] scope gpos] X.env = (false, eval (.GeneratorExp elt [⟨tg, iter, ifs, 0⟩] scope gpos) X.env) :: starEach [] X.env := by rfl) :
    JE W E X (.Call (.Name "all" p) [.GeneratorExp elt [⟨tg, iter, ifs, 0⟩] scope gpos] [] pos) (mAllG (own.map fun p : Str × Nat => p.2) mi g t e) :=
  (pe_allG G.a hg hm he).imp (gx_read (stp := fun Q => stpAll fun c H => Q (.bl c) H) (fin := fun Q _ H => Q (.bl true) H) G.hP G.hn G.hts (fun _ _ => trivial) all_cons)
theorem je_anyG (G : GxJ W E X k elt tg iter ifs scope own c P mi ts g t e) (hg : Gl X "any") (hm : X.mg "any" = none)
    (he : starEach [.GeneratorExp elt [⟨tg, iter, ifs, 0⟩] scope gpos] X.env = (false, eval (.GeneratorExp elt [⟨tg, iter, ifs, 0⟩] scope gpos) X.env) :: starEach [] X.env := by rfl) :
    JE W E X (.Call (.Name "any" p) [.GeneratorExp elt [⟨tg, iter, ifs, 0⟩] scope gpos] [] pos) (mAnyG (own.map fun p : Str × Nat => p.2) mi g t e) :=
  (pe_anyG G.a hg hm he).imp (gx_read (stp := fun Q => stpAny fun c H => Q (.bl c) H) (fin := fun Q _ H => Q (.bl false) H) G.hP G.hn G.hts (fun _ _ => trivial) any_cons)
theorem je_sumG (G : GxJ W E X k elt tg iter ifs scope own c P mi ts g t e) (hg : Gl X "sum") (hm : X.mg "sum" = none)
    (he : starEach [.GeneratorExp elt [⟨tg, iter, ifs, 0⟩] scope gpos] X.env = (false, eval (.GeneratorExp elt [⟨tg, iter, ifs, 0⟩] scope gpos) X.env) :: starEach [] X.env := by rfl) :
    JE W E X (.Call (.Name "sum" p) [.GeneratorExp elt [⟨tg, iter, ifs, 0⟩] scope gpos] [] pos) (mSumG (own.map fun p : Str × Nat => p.2) mi g t e) :=
  (pe_sumG G.a hg hm he).imp (gx_read (stp := fun Q => stpSum) (fin := fun Q i H => Q (.int i) H) G.hP G.hn G.hts (fun _ _ => rfl) sum_cons)
theorem je_maxG (G : GxJ W E X k elt tg iter ifs scope own c P mi ts g t e) (hg : Gl X "max") (hm : X.mg "max" = none)
    (he : starEach [.GeneratorExp elt [⟨tg, iter, ifs, 0⟩] scope gpos] X.env = (false, eval (.GeneratorExp elt [⟨tg, iter, ifs, 0⟩] scope gpos) X.env) :: starEach [] X.env := by rfl) :
    JE W E X (.Call (.Name "max" p) [.GeneratorExp elt [⟨tg, iter, ifs, 0⟩] scope gpos] [] pos) (mMaxG (own.map fun p : Str × Nat => p.2) mi g t e) :=
  (pe_maxG G.a hg hm he).imp (gx_read (stp := fun Q => stpM fun j i => decide (j > i)) (fin := fun Q b H => ∃ i, b = some i ∧ Q (.int i) H) G.hP G.hn G.hts (fun _ _ => rfl) (m_cons _))
theorem je_minG (G : GxJ W E X k elt tg iter ifs scope own c P mi ts g t e) (hg : Gl X "min") (hm : X.mg "min" = none)
    (he : starEach [.GeneratorExp elt [⟨tg, iter, ifs, 0⟩] scope gpos] X.env = (false, eval (.GeneratorExp elt [⟨tg, iter, ifs, 0⟩] scope gpos) X.env) :: starEach [] X.env := by rfl) :
    JE W E X (.Call (.Name "min" p) [.GeneratorExp elt [⟨tg, iter, ifs, 0⟩] scope gpos] [] pos) (mMinG (own.map fun p : Str × Nat => p.2) mi g t e) :=
  (pe_minG G.a hg hm he).imp (gx_read (stp := fun Q => stpM fun j i => decide (j < i)) (fin := fun Q b H => ∃ i, b = some i ∧ Q (.int i) H) G.hP G.hn G.hts (fun _ _ => rfl) (m_cons _))
theorem je_tupG (G : GxJ W E X k elt tg iter ifs scope own c P mi ts g t e) (hg : Gl X "tuple") (hm : X.mg "tuple" = none)
    (he : starEach [.GeneratorExp elt [⟨tg, iter, ifs, 0⟩] scope gpos] X.env = (false, eval (.GeneratorExp elt [⟨tg, iter, ifs, 0⟩] scope gpos) X.env) :: starEach [] X.env := by rfl) :
    JE W E X (.Call (.Name "tuple" p) [.GeneratorExp elt [⟨tg, iter, ifs, 0⟩] scope gpos] [] pos) (mTupG (own.map fun p : Str × Nat => p.2) mi g t e) :=
  (pe_tupG G.a hg hm he).imp (gx_read (stp := fun Q => stpT) (fin := fun Q ys H => ys.length ≤ sizeLine ∧ ∀ p, H p = none → Q (.ref p) (upd H p (.tup ys))) G.hP G.hn G.hts (fun _ _ => .nil) tup_cons)
end
end
end Ct
set_option Elab.async false
set_option maxRecDepth 100000
set_option maxHeartbeats 4000000
/-! The text's own exceptions: made and raised. -/
namespace Ct
open PySem PySem.Spec PyProof.Rows L2
open PySem.W PySem.Calls PySem.HandSPX

def xArgs (f : Str) (p1 p2 : Pos) : Arguments := { posonlyargs := [], args := [{ arg := "self", annotation := none, pos := p1 }, { arg := f, annotation := none, pos := p2 }], vararg := none, kwonlyargs := [], kw_defaults := [], kwarg := none, defaults := [] }
def xBody (f pre : Str) (q1 q2 q3 q4 q5 q6 q7 q8 q9 r1 r2 r3 r4 : Pos) : List Stmt :=
  [.Expr (.Call (.Attribute (.Call (.Name "super" q1) [] [] q2) "__init__" q3) [.JoinedStr [.Constant (.str pre) 0 q4, .FormattedValue (.Name f q5) (-1) none q6] q7] [] q8) q9,
   .Assign [.Attribute (.Name "self" r1) f r2] (.Name f r3) r4]
def xScope (f : Str) : Scope := { kind := .function, names := [(PySem.Str.ofString "self", .local), (f, .local), (PySem.Str.ofString "__class__", .free), (PySem.Str.ofString "super", .globalImplicit)], isGenerator := false, isCoroutine := false, more := [] }
/-- what the written part says of an exception class at C, of its __init__ at fI -/
structure XTxt (prog : Program) (K : Frag) (mg : Str → Option Value) (nm f pre : Str) (C fI : Addr) : Prop where
  gC : mg nm = some (.ref C)
  cls : ∃ nm q N bs bm sn sub ab col dd k0 k1 k2 k3 k5, K.lookup C = some (excClassObj nm q C N bs bm true sn sub ab col dd k0 k1 k2 k3 k5 "ValueError.__new__") ∧ PySem.HandSPX.refsVE bm = true
  sa : findIn K (.ref C) "__setattr__" = some (some (.builtin "object.__setattr__"))
  ga : findIn K (.ref C) "__getattribute__" = some (some (.builtin "BaseException.__getattribute__"))
  gg : findIn K (.ref C) "__getattr__" = some none
  noN : findIn K (.ref C) f = some none
  iC : findIn K (.ref C) "__init__" = some (some (.ref fI))
  tC : typeIn K (.ref fI) = some (.type "function")
  kC : keepIn K (.ref C) = true
  exC : subIn K (.ref C) (.type "BaseException") = some true
  tyC : typeIn K (.ref C) = some (.type "type")
  hdC : hasDictIn K C = true
  ini : excInitIn K C veTail "ValueError.__new__" = true
  sup : ks_superIn K C C "__init__" = some (some (.builtin "ValueError.__init__"))
  mro : mroIn K C (.ref C) = some true
  veC : subIn K (.ref C) (.type "ValueError") = some true
  noS : nsIn K cStatics "thirdparty.any" = some none
  gsup : mg "super" = none
  top : (prog.main.scope.names.lookup ("super" : Str)).isSome = false
  fn : ∃ (q : Str) (oc ccl cl : Value) (od cdd cld : Option Addr) (doc pm : Value) (an : Option Addr) (cda cc : Addr) (ct : Value) (osl ccs csl : Array (Option Value)) (vs : Array Value) (file : Str) (tf : Tok) (p1 p2 q1 q2 q3 q4 q5 q6 q7 q8 q9 r1 r2 r3 r4 : Pos),
    K.lookup fI = some ⟨oc, od, .func (ksFn "__init__" q (xArgs f p1 p2) (xBody f pre q1 q2 q3 q4 q5 q6 q7 q8 q9 r1 r2 r3 r4) (xScope f) .none .none doc pm an (.ref cda) ct cc), osl⟩ ∧ codeIn K (.ref cda) q = true ∧
    K.lookup cda = some ⟨ccl, cdd, .fields vs, ccs⟩ ∧ vs[2]? = some (.str file tf) ∧ ((prog.main.file : Str) == file) = true ∧ K.lookup cc = some ⟨cl, cld, .cell (some (.ref C)), csl⟩ ∧ (q3.endLine == q8.line) = true
/-- what __init__ leaves of the exception at x -/
structure XEnd (h h' : Heap) (f : Str) (x C dx t1 : Addr) (v : Value) : Prop where
  keep : ∀ b o, b ≠ x → h.get? b = some o → h'.get? b = some o
  obj : h'.get? x = some { cls := .ref C, dict := some dx, data := .fields #[.ref t1, .none, .none, .none, .bool false, .none] }
  dbig : h.objs.size ≤ dx
  dne : dx ≠ x
  ns : h'.Ns1 dx (fun y => if y = f then some v else none)
/-- v's text may be told -/
def Fmts (prog : Program) (w : World) (h : Heap) (x : Addr) (v : Value) : Prop := ∀ (A : Around) (E : Value → Shared → Prop) (s : Shared) (Q : Value → Shared → Prop), A.units + 8 < cLine → (∀ b o, b ≠ x → h.get? b = some o → s.heap.get? b = some o) →
  (∀ (y : Str) u tk, y.length ≤ 1000000 → Q (.str y u) { s with toks := tk }) → wpAny (model prog w) A (formatField v Str.empty) Q E s
section
variable {prog : Program} {w : World} {A : Around} {E : Value → Shared → Prop} {R : Result → Shared → Prop} {s : Shared} {K : Frag} {mg : Str → Option Value} {base : Heap} {nm f pre : Str} {C fI : Addr}
theorem x_form {env : Env} {e : List Expr} {q1 q2 q3 q7 q8 : Pos} (h : (q3.endLine == q8.line) = true) : eval (.Call (.Attribute (.Call (.Name "super" q1) [] [] q2) "__init__" q3) [.JoinedStr e q7] [] q8) env = (do
      let ov ← attributeBase (.Call (.Name "super" q1) [] [] q2) "__init__" env (eval (.Call (.Name "super" q1) [] [] q2) env)
      standAt q3.atName
      let (f, first) ← holding [ov] (getMethod ov "__init__" (do return (← importBound (.Call (.Name "super" q1) [] [] q2) env).getD true))
      callWith q8 f first (backTo q8 (starEach [.JoinedStr e q7] env)) []) := by
  have e1 : ∀ o : Expr, methodCallPos true o env q3 q8 = pure q8 := fun o => by
    unfold methodCallPos
    rw [if_pos (by simp [h])]
  show (attributeBase (.Call (.Name "super" q1) [] [] q2) "__init__" env (eval (.Call (.Name "super" q1) [] [] q2) env) >>= fun ov => standAt q3.atName >>= fun _ =>
    (holding [ov] (calleeOf true (.Call (.Name "super" q1) [] [] q2) env ov "__init__") >>= fun x => methodCallPos true (.Call (.Name "super" q1) [] [] q2) env q3 q8 >>= fun p => callWith p x.1 x.2 (backTo q8 (starEach [.JoinedStr e q7] env)) [])) = _
  rw [e1]
  rfl
theorem x_init (T : XTxt prog K mg nm f pre C fI) (Md : Mod K mg base) (hb : ∀ b o, base.get? b = some o → s.heap.get? b = some o) {x t0 : Addr} {v : Value} (hx : s.heap.get? x = some (excO C t0)) (hxb : base.get? x = none) (hroom : A.depth < recursionLimit) (hu : A.units + 20 < cLine)
    (hf : f = ("name" : Str) ∨ f = ("ring" : Str)) (hpre : pre.length ≤ 1000) (hv : Fmts prog w s.heap x v)
    (hq : ∀ h' tk dx t1, XEnd s.heap h' f x C dx t1 v → R (.ok (.ret .none)) { s with heap := h', toks := tk }) :
    codeAny (model prog w) A (.call (.ref fI) ⟨[.ref x, v], []⟩) R s := by
  obtain ⟨q, oc, ccl, cl, od, cdd, cld, doc, pm, an, cda, cc, ct, osl, ccs, csl, vs, file, tf, p1, p2, q1, q2, q3, q4, q5, q6, q7, q8, q9, r1, r2, r3, r4, ho, hcd, hcda, hvs, hfile, hcc, hln⟩ := T.fn
  have X : K.In s.heap := Md.kin.keeps hb
  refine ks_codeAny_call_defAt (fd := ksFn "__init__" q (xArgs f p1 p2) (xBody f pre q1 q2 q3 q4 q5 q6 q7 q8 q9 r1 r2 r3 r4) (xScope f) .none .none doc pm an (.ref cda) ct cc) (binds := [("self", .ref x), (f, v)]) hroom (X _ _ ho) rfl (Md.nolimit.keeps hb) (codeRec_of X hcd) rfl ?_ ?_ ?_ (fun h₁ hns hk₁ => ?_) rfl rfl rfl
  · rcases hf with e | e <;> subst e <;> exact BindsTo.of_eq (by first | rfl | with_unfolding_all rfl)
  · rcases hf with e | e <;> subst e
    · exact (show ∀ y ∈ (xScope "name").names, y.2 ≠ NameKind.cell by decide)
    · exact (show ∀ y ∈ (xScope "ring").names, y.2 ≠ NameKind.cell by decide)
  · intro y hy
    rcases List.mem_cons.mp hy with e | hy
    · rw [e]; rcases hf with e | e <;> subst e <;> rfl
    · rw [List.mem_singleton.mp hy]; rcases hf with e | e <;> subst e <;> rfl
  -- the body
  generalize hfd : ksFn "__init__" q (xArgs f p1 p2) (xBody f pre q1 q2 q3 q4 q5 q6 q7 q8 q9 r1 r2 r3 r4) (xScope f) .none .none doc pm an (.ref cda) ct cc = fd at *
  have hce : callEnv fd s.heap.objs.size fI = ksEnv q (xScope f) s.heap.objs.size fI (.ref cda) cc := by subst hfd; rfl
  rw [hce]
  have hmS : (fun y => ([(("self" : Str), Value.ref x), (f, v)] : List (Str × Value)).reverse.lookup y) "self" = some (.ref x) := by
    rcases hf with e | e <;> subst e <;> rfl
  have hmF : (fun y => ([(("self" : Str), Value.ref x), (f, v)] : List (Str × Value)).reverse.lookup y) f = some v := by
    rcases hf with e | e <;> subst e <;> rfl
  generalize hm : (fun y => ([(("self" : Str), Value.ref x), (f, v)] : List (Str × Value)).reverse.lookup y) = m at *
  have hkS : (xScope f).names.lookup ("self" : Str) = some .local := rfl
  have hkF : (xScope f).names.lookup f = some .local := by rcases hf with e | e <;> subst e <;> rfl
  have hkC : (xScope f).names.lookup ("__class__" : Str) = some .free := by rcases hf with e | e <;> subst e <;> rfl
  have hkP : (xScope f).names.lookup ("super" : Str) = some .globalImplicit := by rcases hf with e | e <;> subst e <;> rfl
  have hnd : (f == ("__debug__" : Str)) = false := by rcases hf with e | e <;> subst e <;> decide
  have X1 : K.In h₁ := X.keeps hk₁
  have hx1 : h₁.get? x = some (excO C t0) := hk₁ _ _ hx
  have xlt : x < s.heap.objs.size := Heap.lt_size hx
  -- the ground without the exception
  have g0 : ∀ b o, b ≠ x → s.heap.get? b = some o → (hideAll s.heap [x]).get? b = some o := fun b o hb e => hideAll_get _ e (by simpa using hb)
  have g1 : (hideAll s.heap [x]).get? x = none := hideAll_none _ (by simp)
  have K0 : K.In (hideAll s.heap [x]) := fun a o e => g0 a o (fun z => by
    have := Md.kin a o e
    rw [z, hxb] at this; cases this) (X a o e)
  have b0 : ∀ b o, base.get? b = some o → (hideAll s.heap [x]).get? b = some o := fun b o e => g0 b o (fun z => by rw [z, hxb] at e; cases e) (hb b o e)
  have F1 : Fr (hideAll s.heap [x]) s.heap.objs.size h₁ m := ⟨hns, fun b o e => hk₁ b o (of_hideAll _ e), Nat.le_of_eq (hideAll_size _ _)⟩
  have N1 : News (hideAll s.heap [x]) s.heap.objs.size h₁ [(x, excObj C t0 none .none)] := fun p hp => by
    rw [List.mem_singleton.mp hp]
    exact ⟨hx1, Nat.ne_of_lt xlt, g1⟩
  obtain ⟨nm', q', N', bs, bm, sn, sub, ab, col, dd, k0, k1, k2, k3, k5, hC, hbm⟩ := T.cls
  have hcl : clsIn K C = some { name := nm', bases := bs, mro := .ref C :: bm, ns := N', qualname := q', hasDict := true, slotNames := sn, subclasses := sub, abstract := ab, collection := col, hasDel := false } := by unfold clsIn; rw [hC] <;> rfl
  have hA : (A.deeper (ksEnv q (xScope f) s.heap.objs.size fI (.ref cda) cc)).units + 8 < cLine := by show A.units + 3 + 8 < cLine; omega
  -- super().__init__(f'..')
  show PySem.wpAt _ _ _ (execs _ _) _ _ _
  refine ks_wpAt_execs_cons (ks_wpAt_Expr_any (ks_wpAt_MethodCall ?_ (x_form hln)) rfl rfl)
  refine ks_wpAt_super_base (env := ksEnv q (xScope f) s.heap.objs.size fI (.ref cda) cc) hkP hkC (by decide) rfl (X1 _ _ ho) (by subst hfd; rfl) (by subst hfd; rfl) rfl (X1 _ _ hcda) rfl hvs hfile T.top ?_
  have hb1 : ∀ b o, base.get? b = some o → h₁.get? b = some o := fun b o e => hk₁ b o (hb b o e)
  obtain ⟨mb, hmb, hbt⟩ := Md.blt
  refine ks_loadName_global rfl hkP (loadGlobal_builtin (env := ksEnv q (xScope f) s.heap.objs.size fI (.ref cda) cc) (Md.glob.keeps hb1) T.gsup (hmb.keeps hb1) ((hbt _ (by decide)).trans (show bootBuiltins "super" = some (.type "super") by decide +kernel)) ⟨rfl, ?_⟩)
  refine wpAny_loadName_free rfl hkC rfl ⟨_, X1 _ _ hcc, rfl⟩ ?_
  refine wpAny_loadName_local rfl hkS hns hmS ?_
  have hD1 := X1 _ _ hC
  refine ks_wpAny_isType_cls hD1 rfl ⟨rfl, ?_⟩
  refine ks_wpAny_call_super hD1 rfl hx1 rfl (fun c e => by cases e) (looks_mroIn X1 T.mro) (fun h2 e2 k2 => ?_)
  obtain ⟨F2, N2, l2⟩ := ks_newsPush (s := { s with heap := h₁, toks := s.toks + 2 }) F1 N1 rfl e2 k2
  have I2 : InstAt h2 x (excObj C t0 none .none) C none := ⟨k2 _ _ hx1, rfl, rfl, trivial⟩
  refine kxs_method kxs_ValueError F2 K0 N2 (List.mem_cons_self ..) I2 T.noS T.sup T.veC (by decide) fun u h3 F3 N3 l3 => ?_
  refine kxs_callWith1 N3 (List.mem_cons_self ..) ?_ rfl rfl
  have kx3 : ∀ b o, b ≠ x → s.heap.get? b = some o → h3.get? b = some o := fun b o hb e => F3.keep b o (g0 b o hb e)
  -- the text
  show PySem.wpAny _ _ (spliced ((false, eval (.JoinedStr [.Constant (.str pre) 0 q4, .FormattedValue (.Name f q5) (-1) none q6] q7) _) :: backTo q8 (starEach [] _))) _ _ _
  have lp : ∀ y : Str, y.length ≤ 1000000 → ((Str.empty ++ pre) ++ y).length ≤ sizeLine := fun y hy => by
    rw [strLen_append, strLen_append, sizeLine_eq]
    have : (Str.empty : Str).length = 0 := rfl
    omega
  have lp0 : (Str.empty ++ pre).length ≤ sizeLine := by
    rw [strLen_append, sizeLine_eq]
    have : (Str.empty : Str).length = 0 := rfl
    omega
  refine Calls.spliced_cons (wpAny_JoinedStr ?_)
  show Joins _ _ _ (eval (.Constant (.str pre) 0 q4) _ :: eval (.FormattedValue (.Name f q5) (-1) none q6) _ :: evalEach [] _) _ _ _
  refine Calls.Constant_str ⟨pre, _, rfl, lp0, ?_⟩
  refine wpAny_FormattedValue_plain (wpAny_Name (wpAny_loadName_local rfl hkF F3.ns hmF ?_) hnd)
  refine hv _ _ _ _ hA kx3 fun y ty tk hy => ⟨y, ty, rfl, lp y hy, lp y hy, ?_⟩
  refine Calls.spliced_nil ⟨kxs_at N3 (List.mem_cons_self ..), ?_⟩
  have nu : u ≠ x := fun z => by
    have := l3 (x, excObj C t0 none .none) (by simp)
    rw [z] at this
    exact absurd this (Nat.lt_irrefl _)
  have nso := l2 (x, excObj C t0 none .none) (by simp)
  refine kxs_call F3 K0 N3 F.excBase_ValueError T.ini (List.mem_cons_self ..) (.tail nu (.tail (fun z => ?_) (.head fun p hp => by cases hp))) (by size_fits) fun t' h4 F4 N4 l4 => ?_
  · have z : h₁.objs.size = x := z
    have nso : x < h₁.objs.size := nso
    rw [z] at nso
    exact absurd nso (Nat.lt_irrefl _)
  have hx4 : h4.get? x = some (excObj C t' none .none) := (N4 (x, excObj C t' none .none) (by simp)).1
  have kx4 : ∀ b o, b ≠ x → s.heap.get? b = some o → h4.get? b = some o := fun b o hb e => F4.keep b o (g0 b o hb e)
  have X4 : K.In h4 := K0.keeps F4.keep
  -- self.f = f
  show PySem.wpAt _ _ _ (execs _ _) _ _ _
  refine ks_wpAt_execs_cons (PySem.wpAt_of_wpAny (plainObj_wpAny_Assign_Attribute ?_))
  refine wpAny_Name (wpAny_loadName_local rfl hkF F4.ns hmF ?_) hnd
  refine wpAny_Name (wpAny_loadName_local rfl hkS F4.ns hmS ?_) (by decide)
  refine set_plain X4 (ox := excO C t') (od := none) ⟨hx4, rfl, rfl, trivial⟩ T.sa ?_
  refine PySem.HandSPX.exc_osa X4 hx4 hcl (show PySem.HandSPX.refsVE (.ref C :: bm) = true from hbm) rfl T.noN (fun h5 tk5 dx k5 dn dne hx5 hn5 => ?_)
  show PySem.wpAt _ _ _ (execs [] _) _ _ _
  refine PySem.wpAt_of_wpAny (wpAny_execs_nil ?_)
  have hsz : s.heap.objs.size ≤ h4.objs.size := Nat.le_of_lt F4.ns.lt
  exact hq h5 tk5 dx t' ⟨fun b o hb e => k5 b o hb (kx4 b o hb e), hx5, Nat.le_trans hsz dn, dne, hn5⟩
end
end Ct
set_option Elab.async false
set_option maxRecDepth 100000
set_option maxHeartbeats 4000000
/-! raise of the text's own exceptions. -/
namespace Ct
open PySem PySem.Spec PyProof.Rows L2
open PySem.W PySem.Calls PySem.HandSPX
/-- a made one -/
structure XMade (h h' : Heap) (f : Str) (e C d : Addr) (v : Value) : Prop where
  keep : ∀ b o, h.get? b = some o → h'.get? b = some o
  new : h.objs.size ≤ e
  obj : ∃ oe vs, h'.get? e = some oe ∧ oe.cls = .ref C ∧ oe.dict = some d ∧ oe.data = .fields vs ∧ vs[1]? = some .none
  dbig : h.objs.size ≤ d
  dne : d ≠ e
  ns : h'.Ns1 d (fun y => if y = f then some v else none)
section
variable {prog : Program} {w : World} {A : Around} {E : Value → Shared → Prop} {R : Result → Shared → Prop} {s : Shared} {K : Frag} {mg : Str → Option Value} {base : Heap} {nm f pre : Str} {C fI : Addr}
theorem x_made (T : XTxt prog K mg nm f pre C fI) (Md : Mod K mg base) (hb : ∀ b o, base.get? b = some o → s.heap.get? b = some o) {v : Value} (hroom : A.depth + 1 < recursionLimit) (hu : A.units + 40 < cLine)
    (hf : f = ("name" : Str) ∨ f = ("ring" : Str)) (hpre : pre.length ≤ 1000) (hv : ∀ h x, (∀ b o, s.heap.get? b = some o → h.get? b = some o) → s.heap.objs.size ≤ x → Fmts prog w h x v)
    (hq : ∀ h' tk e d, XMade s.heap h' f e C d v → R (.ok (.ret (.ref e))) { s with heap := h', toks := tk }) :
    codeAny (model prog w) A (.call (.ref C) ⟨[v], []⟩) R s := by
  obtain ⟨nm', q', N', bs, bm, sn, sub, ab, col, dd, k0, k1, k2, k3, k5, hC, hbm⟩ := T.cls
  have X : K.In s.heap := Md.kin.keeps hb
  obtain ⟨hp, g, dr, tk, os⟩ := s
  have k : ∀ b o, hp.get? b = some o → ((hp.push (kdv_tup [v])).push (excO C hp.objs.size)).get? b = some o := fun b o e => Heap.get?_push_of_some _ (Heap.get?_push_of_some _ e)
  have hget : ((hp.push (kdv_tup [v])).push (excO C hp.objs.size)).get? (hp.objs.size + 1) = some (excO C hp.objs.size) := by heap_get
  have hb' : ∀ b o, base.get? b = some o → hp.get? b = some o := hb
  have hxb : base.get? (hp.objs.size + 1) = none := by
    cases e : base.get? (hp.objs.size + 1) with
    | none => rfl
    | some o => exact absurd (Nat.lt_of_succ_lt (Heap.lt_size (hb' _ _ e))) (Nat.lt_irrefl _)
  refine PySem.HandSPX.call_own F.excBase_ValueError (fun X => PySem.HandSPX.refsVE_contains X bm hbm) (X _ _ hC) (looks_findIn X T.iC) (fun self => bind_fn X self T.tC) (show [v].length ≤ sizeLine by rw [sizeLine_eq]; exact (by decide : 1 ≤ 16777216)) ?_
  refine x_init (s := ⟨(hp.push (kdv_tup [v])).push (excO C hp.objs.size), g, dr, tk, os⟩) T Md (fun b o e => k b o (hb' b o e)) hget hxb ?_ ?_ hf hpre ?_ fun h' tk' dx t1 ⟨k', hx, dn, dne, hns⟩ => ?_
  · show A.depth + 1 < recursionLimit
    exact hroom
  · show A.units + 1 + 20 < cLine
    omega
  · exact hv _ _ k (Nat.le_succ _)
  · have old : ∀ b o, hp.get? b = some o → h'.get? b = some o := fun b o e => k' b o (Nat.ne_of_lt (Nat.lt_succ_of_lt (Heap.lt_size e))) (k b o e)
    have z : hp.objs.size ≤ dx := by
      have q := dn
      have e : ({ heap := (hp.push (kdv_tup [v])).push (excO C hp.objs.size), gens := g, drawn := dr, toks := tk, os := os } : Shared).heap.objs.size = hp.objs.size + 1 + 1 := by
        show ((hp.push (kdv_tup [v])).push (excO C hp.objs.size)).objs.size = _
        rw [Heap.size_push, Heap.size_push]
      rw [e] at q
      exact Nat.le_trans (Nat.le_add_right _ 2) q
    exact ⟨rfl, hq h' tk' (hp.objs.size + 1) dx ⟨old, Nat.le_succ _, ⟨_, _, hx, rfl, rfl, rfl, rfl⟩, z, dne, hns⟩⟩
end
theorem relO_one {f : Str} {v : V} {v' : Value} (r : RelV v v') (y : Str) : RelO (List.lookup y [(f, v)]) (if y = f then some v' else none) := by
  by_cases hw : y = f
  · subst hw
    rw [if_pos rfl]
    have q : List.lookup y [(y, v)] = some v := by simp [List.lookup]
    rw [q]
    exact r
  · rw [if_neg hw]
    have qw : (y == f) = false := by simpa using hw
    have q2 : List.lookup y [(f, v)] = none := by simp [List.lookup, qw]
    rw [q2]
    trivial
/-- v's text may be told, by values -/
def FmtV (X : Cx) (H : Hp) (v : V) : Prop := ∀ pins σ s u, Inv X pins σ H s → RelV v u → ∀ h x, (∀ b o, s.heap.get? b = some o → h.get? b = some o) → s.heap.objs.size ≤ x → Fmts X.prog X.w h x u
section
variable {X : Cx} {nm f pre : Str} {C fI : Addr}
/-- C(e) -/
def tMkX (X : Cx) (f : Str) (C : Addr) (ta : TA) : L2.St → Hp → XK → Prop := fun σ H Q => ta σ H fun vs H1 => ∃ v, vs = [v] ∧ FmtV X H1 v ∧ ∀ d, H1 d = none → Q (.ref C) (some d) (upd H1 d (.xd [(f, v)]))
theorem pmk_x {a : Expr} {ta : TA} {p pos : Pos} {k : Nat} (T : XTxt X.prog X.K X.mg nm f pre C fI) (hr : Room k X.A) (hf : f = ("name" : Str) ∨ f = ("ring" : Str)) (hpre : pre.length ≤ 1000) (ha : PA X [a] ta) (hg : Gl X nm)
    (hdb : (nm == ("__debug__" : Str)) = false := by decide) (he : starEach (a :: []) X.env = (false, eval a X.env) :: starEach [] X.env := by rfl) (hpl : (backTo pos (starEach [] X.env)).any (·.1) = false := by rfl) :
    PMk X (.Call (.Name nm p) [a] [] pos) (tMkX X f C ta) := by
  intro pins s σ H Q I h
  refine wpAny_Call_Name_kw (ld_glob I hg T.gC ?_ hdb)
  refine PySem.W.callWith_K (h₀ := X.base) I.ok.mod.kin T.kC (thn (ha.run pos pins s σ H _ I h) fun us s1 hh => ?_) he hpl
  obtain ⟨vs, H1, I1, r1, v, ev, fv, q1⟩ := hh
  subst ev
  refine ⟨I1.kIn, ?_⟩
  cases r1 with
  | cons rv rn =>
    rename_i v' us'
    cases rn
    show PySem.wpAny _ _ (call (.ref C) [v']) _ _ _
    have hbk := I1.bk
    have fv' := fv pins σ s1 v' I1 rv
    obtain ⟨hp, g, dr, tk, os⟩ := s1
    refine wpAny_call (x_made T I1.ok.mod hbk (by have := hr.dp; omega) (by have := hr.un; omega) hf hpre (fun h x k hx => fv' h x k hx) fun h' tk' e d M => ?_)
    show MkP X pins σ Q (.ref e) ⟨h', g, dr, tk', os⟩
    obtain ⟨oe, fv2, hoe, hc, hd, hdat, h1⟩ := M.obj
    have hns := M.ns
    obtain ⟨G', g1, g2⟩ := restrict h' fun b => decide (b ≠ e)
    have gk : ∀ b, b ≠ e → G'.get? b = h'.get? b := fun b hb => g1 b (decide_eq_true hb)
    have ge : G'.get? e = none := g2 e (by simp)
    have old : ∀ b o, hp.get? b = some o → G'.get? b = some o := fun b o q => (gk b (Nat.ne_of_lt (Nat.lt_of_lt_of_le (Heap.lt_size q) M.new))).trans (M.keep b o q)
    have ob : ObjOk X.prog X.w (upd H1 d (.xd [(f, v)])) G' d (.xd [(f, v)]) := ⟨_, hns.at (fun o q => (gk d M.dne).trans q), fun y => relO_one rv y⟩
    have J : Inv X pins σ (upd H1 d (.xd [(f, v)])) ⟨G', g, dr, tk', os⟩ := I1.laid (t' := tk') old M.dbig ob
    refine ⟨e, oe, fv2, ⟨G', g, dr, tk', os⟩, _, .ref C, some d, rfl, J, fun b o q => ?_, ge, hoe, ⟨hc, hd⟩, hdat, h1, ?_, rfl, I1.bare, raises_own T.exC T.tyC, q1 d (I1.hok.fresh M.dbig)⟩
    · by_cases hb : b = e
      · have q' : G'.get? b = some o := q
        rw [hb, ge] at q'; cases q'
      · exact (gk b hb).symm.trans q
    · rw [upd_ne (Ne.symm M.dne)]
      exact I1.hok.fresh M.new
end
end Ct
set_option Elab.async false
set_option maxRecDepth 100000
set_option maxHeartbeats 4000000
/-! try with several clauses `except C as e`; lambdas. -/
namespace Ct
open PySem PySem.Spec PyProof.Rows L2
/-- what the clauses wish, slot i is the name's -/
def wAsN (K : PySem.W.Frag) (i : Nat) (Wout : WX) (D : Ends) : List (Value × (Addr → Value → Option Addr → TS)) → WX
  | [] => Wout
  | (c, ts) :: r => fun cls d σ H => ∃ b, PySem.W.exmOne K cls c = some b ∧ (b = true → ∀ a, H a = none → ts a cls d { nx := fun σ' H' => D.nx (σ'.set i none) H', rt := D.rt, bk := fun σ' H' => D.bk (σ'.set i none) H', ct := fun σ' H' => D.ct (σ'.set i none) H' } (σ.set i (some (.ref a))) H) ∧
      (b = false → wAsN K i Wout D r cls d σ H)
inductive HdsAs (X : Cx) (n : Str) : List ExceptHandler → List (Value × (Addr → Value → Option Addr → TS)) → Prop
  | nil : HdsAs X n [] []
  | cons {x : Str} {c : Value} {ts : Addr → Value → Option Addr → TS} {b₀ : Stmt} {suite : List Stmt} {np pos' : Pos} {hds : List ExceptHandler} {l : List (Value × (Addr → Value → Option Addr → TS))} (hc : Names X x c)
      (hsu : ∀ (a : Addr) (oe : Obj) (cls : Value) (d : Option Addr) (pn : List (Addr × Obj)), Zc cls d oe → (∃ vs, oe.data = .fields vs) → PSs (X.suite a ((a, oe) :: pn)) (b₀ :: suite) (ts a cls d)) (r : HdsAs X n hds l) :
      HdsAs X n (.ExceptHandler (some (.Name x np)) (some n) (b₀ :: suite) pos' :: hds) ((c, ts) :: l)
section
variable {X : Cx} {n : Str} {i : Nat} {body : List Stmt} {h₀ : ExceptHandler} {hds : List ExceptHandler} {l : List (Value × (Addr → Value → Option Addr → TS))} {pos : Pos} {tb : WX → TS} {Wout : WX}
theorem ps_try_asN (hs : X.stack = X.env :: X.outer) (hf : X.env.frame = some X.env.locals) (hN : X.N.Nodup) (hi : X.N[i]? = some n) (hln : X.env.kindOf n = some .local) (tk : Takes X Wout)
    (hb : ∀ (W : WX) (pn : List (Addr × Obj)) (xe : Value → Shared → Prop), Takes (X.tr pn xe) W → PassesOwn (model X.prog X.w) X.A X.env xe → PSs (X.tr pn xe) body (tb W))
    (hh : HdsAs X n (h₀ :: hds) l) : PS X (.Try body (h₀ :: hds) [] [] pos) (fun D σ H => tb (fun cls d σ' H' => σ'.length = X.N.length → wAsN X.K i Wout D l cls d σ' H') D σ H) := by
  refine ⟨fun pins s σ H D I h => ?_⟩
  have ok := I.ok
  have frE : X.A.frames = some (X.env :: X.outer) := by rw [ok.frames, hs]
  have locE : Loc X.env.scope n := .inl hln
  refine wpAny_Try_except ?_
  refine wpAny_mono ((hb (fun cls d σ' H' => σ'.length = X.N.length → wAsN X.K i Wout D l cls d σ' H') (X.pn ++ pins) (fun e t1 => wpAny (model X.prog X.w) X.A (noteFrame e X.env) (fun _ t2 => wpAny (model X.prog X.w) X.A (setFlight e none) (fun _ t3 =>
    wpAny (model X.prog X.w) X.A (handleBy e X.env (h₀ :: hds)) (SP X pins D) X.xe t3) X.xe t2) X.xe t1) (fun u s' xx => ?_) PassesOwn.looking).run [] s σ H D (I.toTry _) h) (fun f s1 hsp => ?_) (fun e s1 he => he)
  · obtain ⟨a, B, sI, pins', σ', H', cls, d, rfl, J', nb, up, sky, na, os, ag, w⟩ := xx
    have J : Inv X pins σ' H' sI := J'.ofTry ok
    have skyE : Sky B (X.env :: X.outer) a (Zc cls d) X.env.locals s'.heap := by rw [← hs]; exact sky
    show wpAny (model X.prog X.w) X.A (noteFrame (.ref a) X.env) _ _ _
    refine Sky.land Zc.steady frE hf skyE fun h3 fl3 up3 => ?_
    have J3 : Inv X pins σ' H' { s' with heap := h3 } := J.landed nb fl3.1 (up.trans up3) os ag
    obtain ⟨oe3, vs3, he3, hz3, hd3⟩ := fl3.there
    have nfr : a ∉ frs (X.env :: X.outer) := fun hm => by
      obtain ⟨_, o', e', hnf⟩ := fl3.2.2.1.mem hm
      rw [he3] at e'; cases e'
      exact hnf _ hd3
    have nL : a ≠ X.env.locals := fun z => nfr (List.mem_filterMap.mpr ⟨X.env, List.mem_cons_self, by rw [hf, z]⟩)
    have nF : a ∉ X.fs := fun hm => by
      obtain ⟨e, he, q⟩ := List.mem_filterMap.mp hm
      exact nfr (List.mem_filterMap.mpr ⟨e, List.mem_cons_of_mem _ he, q⟩)
    have S3 := J3.suite he3 hd3 na nL nF
    have go : ∀ {hds' : List ExceptHandler} {l' : List (Value × (Addr → Value → Option Addr → TS))}, HdsAs X n hds' l' → wAsN X.K i Wout D l' cls d σ' H' →
        wpAny (model X.prog X.w) X.A (handleBy (.ref a) X.env hds') (SP X pins D) X.xe { s' with heap := h3 } := by
      intro hds' l' hk
      induction hk with
      | nil =>
        intro w
        refine wpAny_handleBy_nil ?_
        obtain ⟨k1, k2, k3, oe, vs, T, oT, ts', he, hz, hd, h1, hr⟩ := id fl3
        unfold PySem.passOn
        refine wpAny_bind (wpAny_field he hd h1 ?_)
        rw [if_neg (show ¬ ((Value.ref T == Value.none) = true) from by simp)]
        have fin : wpAny (model X.prog X.w) X.A (setFlight (.ref a) X.env.frame) (fun _ t4 => wpAny (model X.prog X.w) X.A (throw (.ref a) : Sem Flow) (SP X pins D) X.xe t4) X.xe { s' with heap := h3 } := by
          rw [hf]
          refine HandSPX.setFlight_upZ fl3 fun h4 hh4 up4 => wpAny_throw (tk _ _ ?_)
          exact ⟨a, B, sI, pins, σ', H', cls, d, rfl, J, nb, (up.trans up3).trans up4, .inr (.inr (by rw [hs]; exact hh4)), na, os, ag, w⟩
        first
          | exact wpAny_bind (wpAny_pure (wpAny_bind fin))
          | exact wpAny_bind fin
      | @cons x c ts b₀ suite np pos' hds2 l2 hc hsu r ih =>
        intro w
        obtain ⟨b, hb1, hyes, hno⟩ := w
        refine wpAny_handleBy_cons (codeAny_handlers_test ?_) (by intro q; cases q)
        have LT : PySem.W.Looks (model X.prog X.w) h3 (typeOf (.ref a)) cls := fun A Q E s k q => wpAny_typeOf_ref (k _ _ he3) (by rw [hz3.1]; exact q)
        have LM := PySem.W.exm_one (M := model X.prog X.w) (J3.kIn) LT hb1
        have test : ∀ {Q : Value → Shared → Prop} {E : Value → Shared → Prop}, Q c { s' with heap := h3 } → wpAny (model X.prog X.w) (X.A.mark (some (.ref a))) (eval (.Name x np) X.env) Q E { s' with heap := h3 } := fun {Q E} q => by
          obtain ⟨hg, hdbg, hm | ⟨hm, hv, hnn⟩⟩ := hc
          · exact ld_glob (X := X.suite a ((a, oe3) :: (X.pn ++ pins))) S3 hg hm q hdbg
          · exact ld_blt (X := X.suite a ((a, oe3) :: (X.pn ++ pins))) S3 hg hm hv q hnn hdbg
        refine test (LM.here ?_)
        cases b with
        | true =>
          refine codeAny_handlers_suite_as ?_
          refine HandSPX.lands_againZ fl3 fun h4 fl4 up4 => ?_
          have J4 : Inv X pins σ' H' { s' with heap := h4 } := J.landed nb fl4.1 ((up.trans up3).trans up4) os ag
          obtain ⟨oe4, vs4, he4, hz4, hd4⟩ := fl4.there
          have S4 := J4.suite he4 hd4 na nL nF
          refine store_ok (X := X.suite a ((a, oe4) :: (X.pn ++ pins))) (v := .ref a) S4 hN hi locE rfl (fun s5 S5 => ?_) (.inr hln)
          refine wpAny_mono ((hsu a oe4 cls d (X.pn ++ pins) hz4 ⟨_, hd4⟩).run [] s5 _ H' _ S5 (hyes rfl a na)) (fun f s6 hsp => ?_) (fun _ _ z => False.elim z)
          have close : ∀ {σ6 : L2.St} {H6 : Hp} {Q : Shared → Prop}, Inv (X.suite a ((a, oe4) :: (X.pn ++ pins))) [] σ6 H6 s6 → (∀ s7, Inv X pins (σ6.set i none) H6 s7 → Q s7) →
              wpAny (model X.prog X.w) X.A (do bindName X.env n .none; unbindBehindTheSuite X.env n pos') (fun _ s7 => Q s7) X.xe s6 := fun {σ6 H6 Q} S6 hq => gone_ok (S6.unsuite ok) hN hi hln hq
          cases f with
          | next =>
            obtain ⟨σ6, H6, S6, q6⟩ := hsp
            exact close S6 fun s7 J7 => ⟨_, _, J7, q6⟩
          | brk =>
            obtain ⟨σ6, H6, S6, q6⟩ := hsp
            exact close S6 fun s7 J7 => ⟨_, _, J7, q6⟩
          | cont =>
            obtain ⟨σ6, H6, S6, q6⟩ := hsp
            exact close S6 fun s7 J7 => ⟨_, _, J7, q6⟩
          | ret u =>
            obtain ⟨v6, σ6, H6, S6, r6, q6⟩ := hsp
            exact close S6 fun s7 J7 => ⟨_, _, _, J7, r6, q6⟩
        | false =>
          show wpAny _ X.A (handleBy (.ref a) X.env hds2) _ _ _
          exact ih (hno rfl)
    exact go hh (w J.len)
  · cases f with
    | next =>
      obtain ⟨σ', H', J', q⟩ := hsp
      exact wpAny_execs_nil ⟨σ', H', J'.ofTry ok, q⟩
    | brk =>
      obtain ⟨σ', H', J', q⟩ := hsp
      exact ⟨σ', H', J'.ofTry ok, q⟩
    | cont =>
      obtain ⟨σ', H', J', q⟩ := hsp
      exact ⟨σ', H', J'.ofTry ok, q⟩
    | ret u =>
      obtain ⟨v, σ', H', J', r, q⟩ := hsp
      exact ⟨v, σ', H', J'.ofTry ok, r, q⟩
end
/-- isinstance(e, c), e the caught exception (a; its class cls, its dict d) -/
def rIsX (K : PySem.W.Frag) (a : Addr) (cls : Value) (d : Option Addr) : List V → Hp → VK → Prop := fun xs H Q => ∃ (D : Addr) (c : V) (cv : Value) (b : Bool) (dd : Addr) (fs : List (Str × V)), xs = [.ref a, c] ∧ cls = .ref D ∧ ExcC K D ∧ d = some dd ∧ H dd = some (.xd fs) ∧
  (∀ u, RelV c u → u = cv) ∧ PySem.W.kitOne K (.ref D) cv = some b ∧ Q (.bl b) H
theorem call_isX {X : Cx} {a : Addr} {cls : Value} {d : Option Addr} {oe : Obj} {pn : List (Addr × Obj)} (hz : Zc cls d oe) (hf : ∃ vs, oe.data = .fields vs) : CallR (X.suite a ((a, oe) :: pn)) (.builtin "isinstance") (rIsX X.K a cls d) := by
  intro pins s σ H xs us Q I r h
  obtain ⟨D, c, cv, b, dd, fs, rfl, rfl, C, rfl, ea, hcv, e, q⟩ := h
  cases r with
  | cons rx rr =>
    cases rr with
    | cons rt rr =>
      cases rr
      cases rx
      have ec := hcv _ rt
      subst ec
      obtain ⟨hget, _⟩ := I.pin (a, oe) (List.mem_append.mpr (.inl List.mem_cons_self))
      obtain ⟨vs, hv⟩ := hf
      have hx : ObjOk X.prog X.w H s.heap dd (.xd fs) := I.hok dd _ ea
      obtain ⟨mA, ⟨od, es, ep, ho, _⟩, _⟩ := hx
      have J : PySem.W.InstAt s.heap a oe D (some od) := ⟨hget, hz.1, by unfold PySem.W.notCls; rw [hv] <;> rfl, by rw [hz.2]; exact ho⟩
      obtain ⟨cd, hcd, _⟩ := PySem.W.any_some C.hd
      exact PySem.W.kia_one (PySem.W.kitx_exc (by rw [hcd]; rfl) C.hg C.hk C.hs C.ha C.hn C.ht C.hm) I.kIn J e (fun z => nomatch z) fun tk => ⟨.bl b, H, I.kept (t' := tk) fun _ _ z => z, rfl, q⟩
end Ct
set_option Elab.async false
set_option maxRecDepth 100000
set_option maxHeartbeats 4000000
/-! Lambdas handed to the def that hears the text's own exceptions. -/
namespace Ct
open PySem PySem.Spec PyProof.Rows L2
/-- all but the table at P stay -/
def ButP (P : Addr) (H H' : Hp) : Prop := ∀ b o, b ≠ P → H b = some o → H' b = some o
section
variable {X : Cx} {pins : List (Addr × Obj)} {σ : L2.St} {H : Hp} {s : Shared}
theorem lam_make3 {T : List (Addr × Str)} {c P : Addr} {params : Arguments} {body : Expr} {scope : Scope} {pos : Pos} {E : Value → Shared → Prop} {Q : Value → Shared → Prop} (I : Inv X pins σ H s) (TB : LamX.TabB X.base X.mg c P) (hcode : X.env.code = .ref c)
    (hm : (P, X.env.qual ++ "<lambda>") ∈ T) (hu : ∀ p ∈ T, p.1 = P → p.2 = X.env.qual ++ "<lambda>") (hT : LamX.Tabs T H) (hdef : defaultsOf params X.env = ([], [])) (hfree : ∀ y ∈ scope.names, y.2 = .free → ∃ c, X.env.cells.lookup y.1 = some c)
    (h : ∀ (f c' : Addr) (pm ctv : Value) (H1 : Hp) (s' : Shared), Inv X pins σ H1 s' → ButP P H H1 → LamX.Tabs T H1 →
      s'.heap.get? f = some (PySem.W.kla_obj "<lambda>" (X.env.qual ++ "<lambda>") params body scope (cloFrom X.env.cells scope.names []) pm c' ctv) → H1 f = none → f ∉ frs X.stack → H1 c' = some (LamX.CodeO c' (X.env.qual ++ "<lambda>")) → Q (.ref f) s') :
    wpAny (model X.prog X.w) X.A (eval (.Lambda params body scope pos) X.env) Q E s := by
  obtain ⟨ps, hP, ht, ha⟩ := hT _ hm
  refine PySem.W.kla_eval hdef ?_
  have bP : s.heap.BuiltinsAt X.mg P := TB.bm.keeps I.bk
  have atP : s.heap.get? P = some { cls := .none, data := .fields ps } := I.hok P _ hP
  have nofr : ∀ f, s.heap.objs.size ≤ f → f ∉ frs X.stack := fun f hf z => by
    rcases List.mem_cons.mp (I.stkSub _ z) with e | e
    · have := I.lt
      rw [← e] at this
      exact absurd (Nat.lt_of_lt_of_le this hf) (Nat.lt_irrefl _)
    · exact I.nofs hf e
  cases hc : codeAmong pos ps.toList with
  | none =>
    refine PySem.W.kla_makeFunction (mg := X.mg) (c := c) (P := P) (ps := ps) (closure_ok hfree) I.ok.glob (I.mod.glob.keeps I.bk) hcode (TB.code.keeps I.bk) atP ht hc TB.gP bP fun c' ctv h' tk hx hge hlt hrec htb => ?_
    obtain ⟨c2, oc, vs, t, e2, hoc, hd, hv⟩ := hrec
    cases e2
    have szs : s.heap.objs.size ≤ h'.objs.size := Nat.le_trans hge (Nat.le_of_lt hlt)
    have nC : H c' = none := I.hok.fresh hge
    have I1 := LamX.inv_table (t' := tk) (more := #[rawInt pos.line, rawInt pos.col, .ref c']) (h' := h'.push (PySem.W.kla_obj "<lambda>" (X.env.qual ++ "<lambda>") params body scope (cloFrom X.env.cells scope.names []) ((X.mg "__name__").getD .none) c' ctv)) I hP
      (fun b o hb e => Heap.get?_push_of_some _ (hx b o hb e)) (Heap.get?_push_of_some _ htb) hge ⟨oc, vs, t, Heap.get?_push_of_some _ hoc, hd, hv⟩
    have hE : ButP P H (upd (upd H P (.tbl (ps ++ #[rawInt pos.line, rawInt pos.col, .ref c']))) c' (LamX.CodeO c' (X.env.qual ++ "<lambda>"))) := fun b o n e => by
      rw [upd_ne (ne_of_none e nC), upd_ne n]
      exact e
    have notbl : ∀ {b : Addr} {q : Str}, H b = some (LamX.CodeO b q) → b ≠ P := fun {b q} e z => by
      rw [z, hP] at e
      exact LamX.codeO_ne ps (Option.some.inj e).symm
    have eL : (ps ++ #[rawInt pos.line, rawInt pos.col, .ref c']).toList = ps.toList ++ [rawInt pos.line, rawInt pos.col, .ref c'] := by simp
    refine h h'.objs.size c' ((X.mg "__name__").getD .none) ctv _ _ I1 hE (fun p hp => ?_) (Heap.get?_push_size _ rfl) ?_ (nofr _ szs) upd_same
    · by_cases hb : p.1 = P
      · rw [hu p hp hb, hb]
        refine ⟨_, by rw [upd_ne (ne_of_none hP nC), upd_same], by rw [eL]; exact PySem.TriplesOk_snoc _ _ _ _ ht, fun p' cv hcv => ?_⟩
        rw [eL] at hcv
        rcases LamX.among_app _ ht hcv with z | z
        · obtain ⟨c0, e1, e2⟩ := ha p' cv z
          exact ⟨c0, e1, hE _ _ (notbl e2) e2⟩
        · exact ⟨c', z, upd_same⟩
      · obtain ⟨ps', a1, a2, a3⟩ := hT p hp
        refine ⟨ps', by rw [upd_ne (ne_of_none a1 nC), upd_ne hb]; exact a1, a2, fun p' cv hcv => ?_⟩
        obtain ⟨c0, e1, e2⟩ := a3 p' cv hcv
        exact ⟨c0, e1, hE _ _ (notbl e2) e2⟩
    · have n1 : h'.objs.size ≠ c' := Nat.ne_of_gt hlt
      have n2 : h'.objs.size ≠ P := Nat.ne_of_gt (Nat.lt_of_lt_of_le (Heap.lt_size atP) szs)
      rw [upd_ne n1, upd_ne n2]
      exact I.hok.fresh szs
  | some cv =>
    obtain ⟨c', e, hco⟩ := ha pos cv hc
    subst e
    refine PySem.W.kla_makeFunctionHit (mg := X.mg) (c := c) (P := P) (ps := ps) (closure_ok hfree) I.ok.glob (I.mod.glob.keeps I.bk) hcode (TB.code.keeps I.bk) atP ht hc bP fun ctv h' tk hx szs => ?_
    have I1 : Inv X pins σ H { s with heap := h'.push (PySem.W.kla_obj "<lambda>" (X.env.qual ++ "<lambda>") params body scope (cloFrom X.env.cells scope.names []) ((X.mg "__name__").getD .none) c' ctv), toks := tk } := I.kept fun b o e => Heap.get?_push_of_some _ (hx b o e)
    exact h h'.objs.size c' ((X.mg "__name__").getD .none) ctv H _ I1 (fun _ _ _ e => e) hT (Heap.get?_push_size _ rfl) (I.hok.fresh szs) (nofr _ szs) hco
end
def tLam3 (T : List (Addr × Str)) (P : Addr) (TT : (XK → Hp → VK → Prop) → Hp → VK → Prop) (t : XK → TE) : TE := fun σ H Q => LamX.Tabs T H ∧ ∀ H1, ButP P H H1 → LamX.Tabs T H1 → TT (fun E H' Q' => t E σ H' Q') H1 Q
section
variable {X : Cx}
/-- x(lambda: body) -/
theorem pe_lam3 {T : List (Addr × Str)} {TT : (XK → Hp → VK → Prop) → Hp → VK → Prop} {x a : Str} {g c P : Addr} {k : Nat} {pg : Arguments} {bg : List Stmt} {sg : Scope} {dV kV doc pm cdv ct oc : Value} {an od : Option Addr} {osl : Array (Option Value)} {Ng : List Str}
    {params : Arguments} {body : Expr} {scope : Scope} {t : XK → TE} {p lpos pos : Pos} (hg : Gl X x) (hm : X.mg x = some (.ref g)) (hk : PySem.W.keepIn X.K (.ref g) = true)
    (lk : X.K.lookup g = some ⟨oc, od, .func (PySem.W.fnOf x x pg bg sg dV kV doc pm an cdv ct), osl⟩) (hcg : PySem.W.codeIn X.K cdv x = true) (hb : L2.Binds X.K (PySem.W.fnOf x x pg bg sg dV kV doc pm an cdv ct) [a] []) (Sg : FnScope Ng [a] sg) (hNg : Ng[0]? = some a) (hva : Vis sg a)
    (hG : LamX.GivesTo X Ng x sg g cdv bg a (X.env.qual ++ "<lambda>") TT)
    (TB : LamX.TabB X.base X.mg c P) (hcode : X.env.code = .ref c) (hmT : (P, X.env.qual ++ "<lambda>") ∈ T) (hu : ∀ p ∈ T, p.1 = P → p.2 = X.env.qual ++ "<lambda>") (hr : Room (k + 2) X.A) (L : LamX.LamS X.env.scope scope) (hdef : defaultsOf params X.env = ([], []))
    (hbind : ∀ (q : Str) (cl : List (Str × Addr)) (pm cv ctv : Value), bindArgs (PySem.W.kla_fn "<lambda>" q params body scope cl pm cv ctv) ⟨[], []⟩ = pure [])
    (hbody : ∀ (A : Around) (outer : List Env) (s : Shared) (H : Hp) (E : XK) (f c' : Addr), Room k (A.deeper (LamX.lamEnv X scope s.heap.objs.size f c')) → PE (LamX.lamCx X A outer s H E scope f c') body (t E))
    (hdb : (x == ("__debug__" : Str)) = false := by decide) (hd : (a == ("__debug__" : Str)) = false := by decide) (hcd : (a == ("__classdict__" : Str)) = false := by decide) :
    PE X (.Call (.Name x p) [.Lambda params body scope lpos] [] pos) (tLam3 T P TT t) := by
  refine ⟨fun pins s σ H Q I h => ?_⟩
  obtain ⟨hT, h⟩ := h
  refine wpAny_Call_Name_kw (ld_glob I hg hm ?_ hdb)
  refine PySem.W.callWith_K (h₀ := X.base) I.ok.mod.kin hk ?_ (by rfl) (by rfl)
  show wpAny _ _ (spliced ((false, eval (.Lambda params body scope lpos) X.env) :: backTo pos (starEach [] X.env))) _ _ s
  refine Calls.spliced_cons (lam_make3 I TB hcode hmT hu hT hdef (L.has I.ok) fun f c' pm' ctv H1 s' I1 eN T1 hf hfn hfr hco => ?_)
  refine Calls.spliced_nil ⟨I1.kIn, ?_⟩
  have rc : codeAny (model X.prog X.w) X.A (.call (.ref g) ⟨[.ref f], []⟩) (CR C8.CX0 X.stack X.prog X.w H1 s' Q C8.E0) s' := by
    refine LamX.run_ofS (N := Ng) (ps := [a]) (us := [.ref f]) (vs := [.ref f]) lk hcg Sg hr I1.env0 (hb s' [.ref f] I1.kIn rfl) (.cons rfl .nil) rfl fun hr' => ?_
    obtain ⟨t', ht', hq'⟩ := hG f c' s' H1 Q (fun E H' Q' => t E σ H' Q') (fun W pn xe E p1 p2 tk hW => LamX.pe_act (i := 0) I1 L hf hfn hfr (hbind _ _ _ _ _) tk hW hr' (fun A outer s H hr2 => hbody A outer s H E f c' hr2) hNg hva hd hcd) hco (h H1 eN T1)
    exact ⟨t', ht'.nox, hq'⟩
  refine wpAny_call (codeAny_mono rc fun r s2 hq => ?_)
  cases r with
  | error e => exact (show False from hq).elim
  | ok fl =>
    cases fl with
    | ret u => exact I1.after hq
    | next => exact False.elim hq
    | brk => exact False.elim hq
    | cont => exact False.elim hq
end
end Ct
set_option Elab.async false
set_option maxRecDepth 100000
set_option maxHeartbeats 4000000
/-! The def that hears: try: ask() / except BadArgument as e / except NoPlan as e. -/
namespace Ct
open PySem PySem.Spec PyProof.Rows L2
/-- what is asked of the two classes (BadArgument at B, NoPlan at N, CaveError at C) -/
structure HearTxt (K : PySem.W.Frag) (mg : Str → Option Value) (B N C : Addr) : Prop where
  gB : mg "BadArgument" = some (.ref B)
  gN : mg "NoPlan" = some (.ref N)
  gC : mg "CaveError" = some (.ref C)
  gV : mg "ValueError" = none
  gI : mg "isinstance" = none
  cB : ExcC K B
  cN : ExcC K N
  xB : XfC K B
  xN : XfC K N
  nB : PySem.W.findIn K (.ref B) "name" = some none
  nN : PySem.W.findIn K (.ref N) "ring" = some none
  eBB : PySem.W.exmOne K (.ref B) (.ref B) = some true
  eNB : PySem.W.exmOne K (.ref N) (.ref B) = some false
  eNN : PySem.W.exmOne K (.ref N) (.ref N) = some true
  kBN : PySem.W.kitOne K (.ref B) (.ref N) = some false
  kBC : PySem.W.kitOne K (.ref B) (.ref C) = some true
  kBV : PySem.W.kitOne K (.ref B) (.type "ValueError") = some true
  kNC : PySem.W.kitOne K (.ref N) (.ref C) = some true
  kNV : PySem.W.kitOne K (.ref N) (.type "ValueError") = some true
section
variable {q1 q2 q3 q4 q5 q6 q7 q8 q9 : Pos}
def isE (p1 p2 p3 p4 : Pos) (c : Str) : Expr := .Call (.Name "isinstance" p1) [.Name "e" p2, .Name c p3] [] p4
def told (tag fld : Str) (k0 : Nat) (p1 p2 p3 p4 p5 p6 p7 p8 p9 r1 r2 r3 r4 r5 : Pos) : Stmt :=
  .Return (some (.Tuple [.Constant (.str tag) 0 p1, .Attribute (.Name "e" p2) fld p3, .BoolOp .And [isE p4 p5 p6 p7 "CaveError", isE p8 p9 r1 r2 "ValueError"] r3] k0 r4)) r5
def hearBody (b1 b2 b3 b4 b5 : Pos) (h1 h2 : Pos) (i1 i2 i3 i4 i5 i6 i7 i8 : Pos) (s1 s2 s3 : Stmt) (n1 n2 : Pos) (z1 z2 : Pos) (k1 k2 : Nat) : List Stmt :=
  [.Try [.Expr (.Call (.Name "ask" b1) [] [] b2) b3]
    [.ExceptHandler (some (.Name "BadArgument" h1)) (some "e") [.If (isE i1 i2 i3 i4 "NoPlan") [.Return (some (.Tuple [.Constant (.str "two") 0 i5] k1 i6)) i7] [] i8, s1] h2,
     .ExceptHandler (some (.Name "NoPlan" n1)) (some "e") [s2] n2] [] [] b4,
   .Return (some (.Tuple [] k2 z1)) z2]
/-- what such an exception is told as -/
def HearX (K : PySem.W.Frag) (B N : Addr) (Q : VK) : XK := fun cls d H => ∃ dd v, d = some dd ∧
  ((cls = .ref B ∧ H dd = some (.xd [("name", v)]) ∧ ∀ p, H p = none → Q (.ref p) (upd H p (.tup [.str "bad", v, .bl true]))) ∨
   (cls = .ref N ∧ H dd = some (.xd [("ring", v)]) ∧ ∀ p, H p = none → Q (.ref p) (upd H p (.tup [.str "no plan", v, .bl true]))))
def TTHear (K : PySem.W.Frag) (B N : Addr) : (XK → Hp → VK → Prop) → Hp → VK → Prop := fun tl H Q =>
  tl (HearX K B N Q) H (fun _ H1 => ([] : List V).length ≤ sizeLine ∧ ∀ p, H1 p = none → Q (.ref p) (upd H1 p (.tup [])))
section
variable {Y : Cx} {a : Addr} {oe : Obj} {cls : Value} {d : Option Addr} {pn : List (Addr × Obj)} {B N C : Addr}
theorem pe_isE {i : Nat} {c : Str} {v : V} {p1 p2 p3 p4 : Pos} (hz : Zc cls d oe) (hf : ∃ vs, oe.data = .fields vs) (hgI : Gl Y "isinstance") (hmI : Y.mg "isinstance" = none) (hN : Y.N[i]? = some ("e" : Str)) (hv : Vis Y.env.scope "e") (hc : PE (Y.suite a ((a, oe) :: pn)) (.Name c p3) (tC v)) :
    PE (Y.suite a ((a, oe) :: pn)) (isE p1 p2 p3 p4 c) (tCB (rIsX Y.K a cls d) (tCons (tVar i) (tCons (tC v) tNil))) :=
  pe_callB (X := Y.suite a ((a, oe) :: pn)) (call_isX hz hf) hgI hmI (show bootBuiltins "isinstance" = some (.builtin "isinstance") by decide +kernel) (pa_cons (pe_var hN hv) (pa_cons hc pa_nil))
end
theorem vals_ty {c : V} {cv : Value} (h : (∃ n, c = .ty n ∧ cv = .type n) ∨ ∃ r, c = .ref r ∧ cv = .ref r) : ∀ u, RelV c u → u = cv := by
  rcases h with ⟨n, rfl, rfl⟩ | ⟨r, rfl, rfl⟩ <;> exact fun u r => r
/-- the end of a clause: (tag, e.f, True) -/
theorem told_ps {Y : Cx} {a : Addr} {oe : Obj} {cls : Value} {d : Option Addr} {pn : List (Addr × Obj)} {D C : Addr} {tag fld : Str} {i k0 : Nat} {p1 p2 p3 p4 p5 p6 p7 p8 p9 r1 r2 r3 r4 r5 : Pos} (hz : Zc cls d oe) (hf : ∃ vs, oe.data = .fields vs)
    (hgI : Gl Y "isinstance") (hmI : Y.mg "isinstance" = none) (hgC : Gl Y "CaveError") (hmC : Y.mg "CaveError" = some (.ref C)) (hgV : Gl Y "ValueError") (hmV : Y.mg "ValueError" = none) (hN : Y.N[i]? = some ("e" : Str)) (hv : Vis Y.env.scope "e")
    (xC : XfC Y.K D) (hno : PySem.W.findIn Y.K (.ref D) fld = some none) (eC : ExcC Y.K D) (kC : PySem.W.kitOne Y.K (.ref D) (.ref C) = some true) (kV : PySem.W.kitOne Y.K (.ref D) (.type "ValueError") = some true) :
    PS (Y.suite a ((a, oe) :: pn)) (told tag fld k0 p1 p2 p3 p4 p5 p6 p7 p8 p9 r1 r2 r3 r4 r5) (fun E σ H => cls = .ref D ∧ σ[i]? = some (some (.ref a)) ∧ ∃ dd v, d = some dd ∧ H dd = some (.xd [(fld, v)]) ∧ ∀ p, H p = none → E.rt (.ref p) (upd H p (.tup [.str tag, v, .bl true]))) := by
  have t1 := pe_isE (p1 := p4) (p2 := p5) (p3 := p6) (p4 := p7) (pn := pn) hz hf hgI hmI hN hv (pe_glob (X := Y.suite a ((a, oe) :: pn)) hgC hmC (v := .ref C) rfl)
  have t2 := pe_isE (p1 := p8) (p2 := p9) (p3 := r1) (p4 := r2) (pn := pn) hz hf hgI hmI hN hv (pe_bltn (X := Y.suite a ((a, oe) :: pn)) (v := .ty "ValueError") hgV hmV (show bootBuiltins "ValueError" = some (.type "ValueError") by decide +kernel) rfl)
  have t3 := pe_xf (X := Y) (pn := pn) (n := fld) (pos := p3) xC hno hz hf (pe_var (X := Y.suite a ((a, oe) :: pn)) (pos := p2) hN hv)
  refine (ps_ret (pe_tup (pa_cons pe_str (pa_cons t3 (pa_cons (pe_and t1 (pe_one t2)) pa_nil))))).imp ?_
  rintro E σ H ⟨rfl, hs, dd, v, hd, hx, q⟩
  refine ⟨.ref a, hs, rfl, rfl, dd, _, v, hd, hx, by simp [List.lookup], ?_⟩
  refine ⟨.ref a, hs, D, .ref C, .ref C, true, dd, _, rfl, rfl, eC, hd, hx, vals_ty (.inr ⟨C, rfl, rfl⟩), kC, true, rfl, ?_⟩
  rw [if_pos rfl]
  refine ⟨.ref a, hs, D, .ty "ValueError", .type "ValueError", true, dd, _, rfl, rfl, eC, hd, hx, vals_ty (.inl ⟨_, rfl, rfl⟩), kV, ?_⟩
  exact ⟨by show 3 ≤ sizeLine; rw [sizeLine_eq]; decide, q⟩
theorem hear_gives {X : Cx} {x q : Str} {sg : Scope} {g : Addr} {cdg : Value} {B N C : Addr} (T : HearTxt X.K X.mg B N C)
    (hsc : sg.names = [(PySem.Str.ofString "ask", .local), (PySem.Str.ofString "e", .local), (PySem.Str.ofString "BadArgument", .globalImplicit), (PySem.Str.ofString "isinstance", .globalImplicit), (PySem.Str.ofString "NoPlan", .globalImplicit), (PySem.Str.ofString "CaveError", .globalImplicit), (PySem.Str.ofString "ValueError", .globalImplicit)])
    {b1 b2 b3 b4 b5 h1 h2 i1 i2 i3 i4 i5 i6 i7 i8 n1 n2 z1 z2 : Pos} {k1 k2 k3 k4 : Nat} {p1 p2 p3 p4 p5 p6 p7 p8 p9 r1 r2 r3 r4 r5 : Pos} {p1' p2' p3' p4' p5' p6' p7' p8' p9' r1' r2' r3' r4' r5' : Pos} :
    LamX.GivesTo X ["ask", "e"] x sg g cdg (hearBody b1 b2 b3 b4 b5 h1 h2 i1 i2 i3 i4 i5 i6 i7 i8 (told "bad" "name" k3 p1 p2 p3 p4 p5 p6 p7 p8 p9 r1 r2 r3 r4 r5) (told "no plan" "ring" k4 p1' p2' p3' p4' p5' p6' p7' p8' p9' r1' r2' r3' r4' r5') (told "" "" 0 b1 b1 b1 b1 b1 b1 b1 b1 b1 b1 b1 b1 b1 b1) n1 n2 z1 z2 k1 k2)
      "ask" q (TTHear X.K B N) := by
  intro f c' s H Q tl act hc h
  have gl : ∀ y : Str, sg.names.lookup y = some .globalImplicit → Gl (cxOf C8.CX0 X.prog X.w X.K X.mg X.base ["ask", "e"] x sg g cdg X.A X.stack s H C8.E0).nox y := fun y e => e
  have gB := gl "BadArgument" (by rw [hsc]; decide)
  have gN := gl "NoPlan" (by rw [hsc]; decide)
  have gC := gl "CaveError" (by rw [hsc]; decide)
  have gV := gl "ValueError" (by rw [hsc]; decide)
  have gI := gl "isinstance" (by rw [hsc]; decide)
  have hv : Vis sg "e" := .inl (by rw [hsc]; decide)
  let Z := cxOf C8.CX0 X.prog X.w X.K X.mg X.base ["ask", "e"] x sg g cdg X.A X.stack s H C8.E0
  -- the first clause's suite
  have su1 : ∀ (a : Addr) (oe : Obj) (cls : Value) (d : Option Addr) (pn : List (Addr × Obj)), Zc cls d oe → (∃ vs, oe.data = .fields vs) →
      PSs (Z.nox.suite a ((a, oe) :: pn)) [.If (isE i1 i2 i3 i4 "NoPlan") [.Return (some (.Tuple [.Constant (.str "two") 0 i5] k1 i6)) i7] [] i8, told "bad" "name" k3 p1 p2 p3 p4 p5 p6 p7 p8 p9 r1 r2 r3 r4 r5]
        (fun E σ H => cls = .ref B ∧ σ[1]? = some (some (.ref a)) ∧ ∃ dd v, d = some dd ∧ H dd = some (.xd [("name", v)]) ∧ ∀ p, H p = none → E.rt (.ref p) (upd H p (.tup [.str "bad", v, .bl true]))) := fun a oe cls d pn hz hf => by
    have t0 := pe_isE (Y := Z.nox) (i := 1) (p1 := i1) (p2 := i2) (p3 := i3) (p4 := i4) (pn := pn) hz hf gI T.gI rfl hv (pe_glob (X := Z.nox.suite a ((a, oe) :: pn)) (v := .ref N) gN T.gN rfl)
    have tt := told_ps (Y := Z.nox) (a := a) (tag := "bad") (i := 1) (pn := pn) (k0 := k3) (p1 := p1) (p2 := p2) (p3 := p3) (p4 := p4) (p5 := p5) (p6 := p6) (p7 := p7) (p8 := p8) (p9 := p9) (r1 := r1) (r2 := r2) (r3 := r3) (r4 := r4) (r5 := r5) hz hf gI T.gI gC T.gC gV T.gV rfl hv T.xB T.nB T.cB T.kBC T.kBV
    refine (pss_cons (ps_if (pt_val t0) (pss_one (ps_ret (pe_tup (pa_cons pe_str pa_nil)))) pss_nil) (pss_one tt)).imp ?_
    rintro E σ H ⟨rfl, hs, dd, v, hd, hx, q⟩
    refine ⟨.ref a, hs, B, .ref N, .ref N, false, dd, _, rfl, rfl, T.cB, hd, hx, vals_ty (.inr ⟨N, rfl, rfl⟩), T.kBN, false, rfl, ?_⟩
    exact iteF ⟨rfl, hs, dd, v, hd, hx, q⟩
  have su2 : ∀ (a : Addr) (oe : Obj) (cls : Value) (d : Option Addr) (pn : List (Addr × Obj)), Zc cls d oe → (∃ vs, oe.data = .fields vs) →
      PSs (Z.nox.suite a ((a, oe) :: pn)) [told "no plan" "ring" k4 p1' p2' p3' p4' p5' p6' p7' p8' p9' r1' r2' r3' r4' r5']
        (fun E σ H => cls = .ref N ∧ σ[1]? = some (some (.ref a)) ∧ ∃ dd v, d = some dd ∧ H dd = some (.xd [("ring", v)]) ∧ ∀ p, H p = none → E.rt (.ref p) (upd H p (.tup [.str "no plan", v, .bl true]))) := fun a oe cls d pn hz hf =>
    pss_one (told_ps (Y := Z.nox) (tag := "no plan") (i := 1) (pn := pn) hz hf gI T.gI gC T.gC gV T.gV rfl hv T.xN T.nN T.cN T.kNC T.kNV)
  have tr := ps_try_asN (X := Z.nox) (n := "e") (i := 1) (pos := b4) (tb := fun W D σ H => ∃ Ech : XK, (∀ cls d σ' H', Ech cls d H' → W cls d σ' H') ∧ σ[0]? = some (some (.ref f)) ∧ H c' = some (LamX.CodeO c' q) ∧ tl Ech H (fun _ H' => D.nx σ H'))
    rfl rfl (show (["ask", "e"] : List Str).Nodup by decide) rfl (show sg.names.lookup ("e" : Str) = some NameKind.local by rw [hsc]; decide) LamX.takes0
    (fun W pn xe tk _ => (pss_one (.mk fun pins s' σ H' D I h' => by
      obtain ⟨Ech, hW, h1, h2, h3⟩ := h'
      exact (ps_expr (pos := b3) (act W pn xe Ech b1 b2 tk hW)).run pins s' σ H' D I ⟨h1, h2, h3⟩)))
    (HdsAs.cons ⟨gB, by decide, .inl T.gB⟩ su1 (HdsAs.cons (np := n1) (pos' := n2) ⟨gN, by decide, .inl T.gN⟩ su2 .nil)) (h₀ := .ExceptHandler (some (.Name "BadArgument" h1)) (some "e") _ h2)
  refine ⟨_, pss_cons tr (pss_one (ps_ret (pe_tup pa_nil))), ?_⟩
  refine ⟨HearX X.K B N Q, fun cls d σ' H' hx => ?_, rfl, hc, ?_⟩
  · intro hl
    have hl : σ'.length = 2 := hl
    have set1 : ∀ r : V, (σ'.set 1 (some r))[1]? = some (some r) := fun r => List.getElem?_set_self (by omega)
    obtain ⟨dd, v, hd, hx⟩ := hx
    rcases hx with ⟨rfl, e, k⟩ | ⟨rfl, e, k⟩
    · exact ⟨true, T.eBB, fun _ a _ => ⟨rfl, set1 _, dd, v, hd, e, k⟩, fun z => by cases z⟩
    · exact ⟨false, T.eNB, (fun z => Bool.noConfusion z), fun _ => ⟨true, T.eNN, fun _ a _ => ⟨rfl, set1 _, dd, v, hd, e, k⟩, fun z => by cases z⟩⟩
  · exact h
end
end Ct
set_option Elab.async false
set_option maxRecDepth 100000
set_option maxHeartbeats 4000000
/-! By functions: raise, the hearing of a lambda. -/
namespace Ct
open PySem PySem.Spec PyProof.Rows L2
section
variable {W : Wd} {E : XK} {X : Cx} {S S' S2 : Addr → Prop} {l l' l2 : List Addr} {H H' H2 : Hp} {st st' st2 : Store}
/-! ### raise -/
/-- x's text: no longer than L, whatever is under way -/
def ReprB (prog : Program) (w : World) (h₀ : Heap) (d L : Nat) (x : Value) : Prop :=
  ∀ (b : Nat), b + L ≤ sizeLine → ∀ (A : Around) (E : Value → Shared → Prop) (s : Shared) (Q : Str → Shared → Prop), A.units + d < cLine → (∀ a o, h₀.get? a = some o → s.heap.get? a = some o) →
    (∀ t tk, t.length ≤ L → Q t { s with toks := tk }) → wpAny (model prog w) A (pyReprUnder b x) Q E s
theorem ReprB.of {prog : Program} {w : World} {h₀ : Heap} {d L : Nat} {x : Value} {t : Str} (h : ReprIs prog w x t) (hL : t.length ≤ L) : ReprB prog w h₀ d L x :=
  fun b hb A E s Q _ _ hq => h b (by omega) A E s Q fun tk => hq t tk hL
theorem piled_le {L : Nat} : ∀ ts : List Str, (∀ t ∈ ts, t.length ≤ L) → piled ts ≤ ts.length * (L + 2)
  | [], _ => Nat.zero_le _
  | t :: ts, h => by
    have h1 := piled_le ts fun y hy => h y (List.mem_cons_of_mem _ hy)
    have h2 := h t List.mem_cons_self
    rw [piled_cons, List.length_cons, Nat.succ_mul]
    omega
theorem foldB {prog : Program} {w : World} {A : Around} {E : Value → Shared → Prop} {h₀ : Heap} {d L : Nat} (hu : A.units + d < cLine) : ∀ (l : List Value) (acc : Array Str) (n : Nat) (s : Shared) (Q : (Array Str × Nat) → Shared → Prop), (∀ x ∈ l, ReprB prog w h₀ d L x) → n + l.length * (L + 2) ≤ sizeLine → (∀ a o, h₀.get? a = some o → s.heap.get? a = some o) →
    (∀ ts : List Str, ts.length = l.length → (∀ t ∈ ts, t.length ≤ L) → ∀ tk n', Q ⟨acc ++ ts.toArray, n'⟩ { s with toks := tk }) → wpAny (model prog w) A (forIn l (⟨acc, n⟩ : (Array Str × Nat)) tupBody) Q E s := by
  intro l
  induction l with
  | nil =>
    intro acc n s Q hT hn hk h
    have h0 := h [] rfl (by simp) s.toks n
    simp only [List.forIn_nil]
    exact wpAny_pure (by simpa using h0)
  | cons x l ih =>
    intro acc n s Q hT hn hk h
    rw [List.length_cons, Nat.succ_mul] at hn
    rw [List.forIn_cons]
    refine wpAny_bind (wpAny_bind (hT x List.mem_cons_self (n + 1) (by omega) _ _ _ _ hu hk fun t tk ht => wpAny_pure ?_))
    refine ih (acc.push t) (n + (t.length + 2)) _ Q (fun y hy => hT y (List.mem_cons_of_mem _ hy)) (by omega) hk fun ts h1 h2 tk' n' => ?_
    have h3 := h (t :: ts) (by rw [List.length_cons, List.length_cons, h1]) (fun y hy => (List.mem_cons.mp hy).elim (fun e => e ▸ ht) (h2 y)) tk' n'
    simpa using h3
theorem restB {prog : Program} {w : World} {A : Around} {E : Value → Shared → Prop} {h₀ : Heap} {d L : Nat} {s : Shared} {a : Addr} {o : Obj} {items : Array Value} {n b : Nat} {Q : Fin → Shared → Prop} (hu : A.units + d < cLine) (ha : h₀.get? a = some o) (hd : o.data = .seq items n)
    (hT : ∀ x ∈ items.toList, ReprB prog w h₀ d L x) (hk : ∀ a o, h₀.get? a = some o → s.heap.get? a = some o) (h : ∀ t u tk, t.length ≤ items.size * (L + 2) + 5 → Q (.done (.ret (.str t u))) { s with toks := tk }) (hsz : b + items.size * (L + 2) + 5 ≤ sizeLine) :
    wpAny (model prog w) A (tupleReprRest b (.ref a)) Q E s := by
  unfold tupleReprRest Builtin.Tuple.tupleItemsOf
  refine wpAny_bind (wpAny_bind (wpAny_seqItems (hk _ _ ha) hd (wpAny_pure ?_)))
  rw [← Array.forIn_toList]
  refine wpAny_bind (foldB hu _ _ _ _ _ hT (by rw [Array.length_toList]; omega) hk fun ts h1 h2 tk n' => ?_)
  have hp := piled_le ts h2
  have ht := fmt_text ts
  have hlen : ts.length = items.size := by rw [h1, Array.length_toList]
  rw [hlen] at hp
  refine wpAny_bind (wpAny_mkStr (wpAny_pure ?_) ?_)
  · have h3 := h (tupleText ts) tk (tk + 1) (by omega)
    simpa [tupleText, hlen] using h3
  · have h4 : (tupleText ts).length ≤ sizeLine := by omega
    simpa [tupleText, hlen] using h4
theorem atB {prog : Program} {w : World} {A : Around} {E : Value → Shared → Prop} {h₀ : Heap} {d L : Nat} {s : Shared} {a : Addr} {o : Obj} {items : Array Value} {n b : Nat} {Q : Fin → Shared → Prop} (hu : A.units + d < cLine) (ha : h₀.get? a = some o) (hd : o.data = .seq items n)
    (hT : ∀ x ∈ items.toList, ReprB prog w h₀ d L x) (hk : ∀ a o, h₀.get? a = some o → s.heap.get? a = some o) (h : ∀ t u tk, t.length ≤ items.size * (L + 2) + 5 → Q (.done (.ret (.str t u))) { s with toks := tk }) (hsz : b + items.size * (L + 2) + 5 ≤ sizeLine) :
    wpAny (model prog w) A (Builtin.tupleReprAt b ⟨[.ref a], []⟩) Q E s := by
  rw [tuple_repr_tree]
  refine wpAny_bind (fmt_underWay fun c => ?_)
  cases c with
  | true =>
    refine PySem.W.KFB.if_so rfl ?_
    refine wpAny_bind (wpAny_rule ?_)
    refine wpAny_bind (wpAny_mkStr (wpAny_pure ?_) (by decide +kernel))
    exact h "(...)" _ _ (Nat.le_trans fmt_way (Nat.le_add_left _ _))
  | false => exact PySem.W.KFB.if_not rfl (restB hu ha hd hT hk h hsz)
theorem ReprB.tup {prog : Program} {w : World} {h₀ : Heap} {d L : Nat} {a : Addr} {o : Obj} {items : Array Value} {n : Nat} (ha : h₀.get? a = some o) (hc : o.cls = .type "tuple") (hd : o.data = .seq items n) (hT : ∀ x ∈ items.toList, ReprB prog w h₀ d L x) :
    ReprB prog w h₀ (d + 2) (items.size * (L + 2) + 5) (.ref a) := by
  intro b hb A E s Q hu hk hq
  refine wpAny_pyReprUnder_ref (by omega) (wpAny_pyReprObjUnder_twin (twin := "tuple.__repr__.under") ⟨o, hk _ _ ha, hc⟩ F.slot_tuple_repr rfl (by omega) ?_)
  refine call_twin_own (F.quiet_tuple_repr_under _) F.entry_tuple_repr_under F.check_tuple_repr_under ⟨o, hk _ _ ha, hc⟩ F.slot_tuple_repr (F.args_tuple_repr_1 _) (wpOwn_of_wpAny ?_)
  refine atB (d := d) ?_ ha hd hT hk (fun t u tk ht => ⟨⟨_, _, rfl⟩, _, _, rfl, hq t tk ht⟩) (by omega)
  rw [units_under_tuple_repr_under]
  omega
theorem fmtB {prog : Program} {w : World} {A : Around} {E : Value → Shared → Prop} {h₀ : Heap} {d L : Nat} {s : Shared} {a : Addr} {o : Obj} {items : Array Value} {n : Nat} {Q : Value → Shared → Prop} (hu : A.units + (d + 4) < cLine) (ha : h₀.get? a = some o) (hc : o.cls = .type "tuple") (hd : o.data = .seq items n)
    (hT : ∀ x ∈ items.toList, ReprB prog w h₀ d L x) (hk : ∀ a o, h₀.get? a = some o → s.heap.get? a = some o) (h : ∀ t u tk, t.length ≤ items.size * (L + 2) + 5 → Q (.str t u) { s with toks := tk }) (hsz : items.size * (L + 2) + 5 ≤ sizeLine) :
    wpAny (model prog w) A (formatField (.ref a) Str.empty) Q E s := by
  refine wpAny_formatField_slot (fun _ _ => nofun) (by omega) ⟨o, hk _ _ ha, hc⟩ F.slot_tuple_format F.slot_tuple_str F.slot_tuple_repr ?_
  refine wpAny_call (codeAny_call_builtin_own (Code.quiet_builtin _ (by decide +kernel)) F.entry_tuple_repr (F.slot_tuple_repr.check _ _ _ _ _ _ _ _ ⟨o, hk _ _ ha, hc⟩ (F.args_tuple_repr_1 _) (wpOwn_of_wpAny ?_)))
  show wpAny _ _ (Builtin.tupleReprAt 0 ⟨[.ref a], []⟩) _ _ _
  refine atB (d := d) ?_ ha hd hT hk (fun t u tk ht => ⟨_, _, rfl, h t u tk ht⟩) (by omega)
  rw [units_under_tuple_repr]
  show A.units + 1 + 1 + 1 + d < cLine
  omega

/-- what an exception may be made of here -/
def fmtA : D → Bool
  | .int i => decide (i.natAbs < 1000000000)
  | .bl _ => true
  | _ => false
def fmtP : D → Bool
  | .tup xs => decide (xs.length ≤ 4) && xs.all fmtA
  | _ => false
def fmtD : D → Bool
  | .str y => decide (y.length ≤ 1000000)
  | .tup xs => decide (xs.length ≤ 100) && xs.all fmtP
  | _ => false
theorem fmt_str (X : Cx) (H : Hp) {y : Str} (h : y.length ≤ 1000000) : FmtV X H (.str y) := by
  intro pins σ s u I r h0 x k hx A E' s2 Q hu kk hq
  obtain ⟨t, rfl⟩ := r
  exact wpAny_formatField_str (hq y t s2.toks h) (hq y s2.toks (s2.toks + 1) h) (by rw [sizeLine_eq]; omega)
theorem fmtA_ok {prog : Program} {w : World} {h₀ : Heap} {d : Nat} {v : V} {x : D} {u : Value} (r : RepD W S H v x) (h : fmtA x = true) (rv : RelV v u) : ReprB prog w h₀ d 2000 u := by
  unfold fmtA at h
  split at h
  · rename_i i
    cases r
    obtain ⟨t, rfl⟩ := rv
    have h1 := of_decide_eq_true h
    have h2 : i.natAbs.log2 < 1920 := by
      by_cases z : i.natAbs = 0
      · rw [z]; decide
      · exact (Nat.log2_lt z).mpr (Nat.lt_trans h1 (Nat.lt_of_lt_of_le (by decide : 1000000000 < 2 ^ 30) (Nat.pow_le_pow_right (by decide) (by decide))))
    have h3 := int_text_len_1921 h2
    exact ReprB.of (ReprIs.int t h2) (Nat.le_trans h3 (by decide))
  · cases r
    cases rv
    rename_i b
    exact ReprB.of (ReprIs.bool b) (by cases b <;> decide +kernel)
  · cases h
theorem repB_all {P : Value → Prop} {f : D → Bool} (hP : ∀ {v : V} {x : D} {u : Value}, RepD W S H v x → f x = true → RelV v u → P u) : ∀ {vs : List V} {ds : List D} {us : List Value}, RepL W S H vs ds → ds.all f = true → Vals vs us → ∀ u ∈ us, P u
  | _, _, _, .nil, _, r, u, hu => by cases r; cases hu
  | _, _, _, .cons h t, ha, r, u, hu => by
    cases r with
    | cons r1 r2 =>
      rw [List.all_cons, Bool.and_eq_true] at ha
      cases hu with
      | head => exact hP h ha.1 r1
      | tail _ hu => exact repB_all hP t ha.2 r2 u hu
theorem repL_len : ∀ {vs : List V} {ds : List D}, RepL W S H vs ds → vs.length = ds.length
  | _, _, .nil => rfl
  | _, _, .cons _ t => by rw [List.length_cons, List.length_cons, repL_len t]
theorem vals_len : ∀ {vs : List V} {us : List Value}, Vals vs us → us.length = vs.length
  | _, _, .nil => rfl
  | _, _, .cons _ t => by rw [List.length_cons, List.length_cons, vals_len t]
theorem ReprB.le {prog : Program} {w : World} {h₀ : Heap} {d d' L L' : Nat} {x : Value} (h : ReprB prog w h₀ d L x) (hd : d ≤ d') (hL : L ≤ L') : ReprB prog w h₀ d' L' x :=
  fun b hb A E s Q hu hk hq => h b (by omega) A E s Q (by omega) hk fun t tk ht => hq t tk (by omega)
theorem fmtD_ok (X : Cx) (hk : X.K = W.K) {v : V} {x : D} (r : RepD W S H v x) (h : fmtD x = true) : FmtV X H v := by
  unfold fmtD at h
  split at h
  · cases r
    exact fmt_str X H (of_decide_eq_true h)
  · rename_i xs
    rw [Bool.and_eq_true] at h
    obtain ⟨h1, h2⟩ := h
    have h1 := of_decide_eq_true h1
    cases r with
    | tup hs rl =>
      rename_i a vs
      intro pins σ s u I r h0 x k hx A E' s2 Q hu kk hq
      cases r
      rw [← hk] at hs
      obtain ⟨its, rv, ⟨o, ho, hcl, n, hd⟩, _⟩ := I.tuple hs
      have k2 : ∀ b o, s.heap.get? b = some o → s2.heap.get? b = some o := fun b o e => kk b o (Nat.ne_of_lt (Nat.lt_of_lt_of_le (Heap.lt_size e) hx)) (k b o e)
      have hl : its.toArray.size = xs.length := by rw [← repL_len rl, ← vals_len rv]; simp
      have hb : its.toArray.size * (8013 + 2) + 5 ≤ 1000000 := by
        rw [hl]
        have := Nat.mul_le_mul_right (8013 + 2) h1
        omega
      refine fmtB (h₀ := s.heap) (d := 2) (L := 8013) (by omega) ho hcl hd (fun y hy => ?_) k2 (fun t u tk ht => hq t u tk (by omega)) (by rw [sizeLine_eq]; omega)
      refine repB_all (P := fun y => ReprB X.prog X.w s.heap 2 8013 y) (f := fmtP) (fun {v x u} r hf rv => ?_) rl h2 rv y (by simpa using hy)
      unfold fmtP at hf
      split at hf
      · rename_i ys
        rw [Bool.and_eq_true] at hf
        obtain ⟨f1, f2⟩ := hf
        have f1 := of_decide_eq_true f1
        cases r with
        | tup hs' rl' =>
          cases rv
          rw [← hk] at hs'
          obtain ⟨its', rv', ⟨o', ho', hcl', n', hd'⟩, _⟩ := I.tuple hs'
          have hl' : its'.toArray.size = ys.length := by rw [← repL_len rl', ← vals_len rv']; simp
          refine (ReprB.tup (d := 0) (L := 2000) ho' hcl' hd' fun z hz => ?_).le (Nat.le_refl _) ?_
          · exact repB_all (P := fun y => ReprB X.prog X.w s.heap 0 2000 y) (f := fmtA) (fun r hf rv => fmtA_ok r hf rv) rl' f2 rv' z (by simpa using hz)
          · rw [hl']
            have := Nat.mul_le_mul_right (2000 + 2) f1
            omega
      · cases hf
  · cases h
def sRaise (k : Nat) (m : EM) : SM := fun env st => (m env st).andS fun u st1 => match u with
  | .d x => if fmtD x = true then .exc ⟨k, x⟩ st1 else .bad
  | _ => .bad
theorem js_raise {a : Expr} {m : EM} {nm f pre : Str} {fI : Addr} {k c : Nat} {p pos pos2 : Pos} (hk : X.K = W.K) (hc : X.calm = true) (tk : TakesE X E) (T : XTxt X.prog X.K X.mg nm f pre (W.cls c) fI) (hr : Room k X.A) (hf : f = ("name" : Str) ∨ f = ("ring" : Str)) (hpre : pre.length ≤ 1000) (hxf : xf c = f)
    (ha : JE W E X a m) (hg : Gl X nm) (hdb : (nm == ("__debug__" : Str)) = false := by decide) (he : starEach (a :: []) X.env = (false, eval a X.env) :: starEach [] X.env := by rfl) (hpl : (backTo pos (starEach [] X.env)).any (·.1) = false := by rfl) :
    JS W E X (.Raise (some (.Call (.Name nm p) [a] [] pos)) none pos2) (sRaise c m) := (ps_raise hc tk (pmk_x T hr hf hpre (pa_cons ha pa_nil he) hg hdb he hpl)).imp (by
  rintro D σ H ⟨S, l, env, st, rl, re, h⟩
  refine ⟨S, l, env, st, rl, re, (Post.andS (rep := repU W) h).imp ?_⟩
  rintro x H1 ⟨S1, l1, u, st1, x1, r1, p1, h1⟩
  split at h1
  · split at h1
    · rename_i d hd
      refine ⟨x, rfl, fmtD_ok X hk p1 hd, fun q hq => ?_⟩
      have xx : Ext S1 l1 H1 S1 l1 (upd H1 q (.xd [(f, x)])) := Ext.new hq
      exact h1 _ _ S1 l1 _ xx (r1.new hq) ⟨rfl, q, x, rfl, by rw [hxf, upd_same], RepD.ext r1 xx p1⟩
    · exact h1.elim
  · exact h1.elim)

/-! ### the hearing of a lambda -/
def mHeard (m : EM) : EM := fun env st => match m env st with
  | .ok _ st1 => .ok (.d (.tup [])) st1
  | .exc x st1 => if x.k = 11 then .ok (.d (.tup [.str "bad", x.x, .bl true])) st1 else if x.k = 12 then .ok (.d (.tup [.str "no plan", x.x, .bl true])) st1 else .bad
  | .bad => .bad
theorem Ext.butP {P : Addr} (hb : ButP P H H') (h0 : ∃ ps, H P = some (.tbl ps)) (h : H' P ≠ none) : Ext S l H S l H' := by
  obtain ⟨ps0, e0⟩ := h0
  refine ⟨⟨[], by simp, by simp⟩, fun _ h => h, fun _ h => .inl h, fun a o _ q n => hb a o (fun z => by rw [z, e0] at q; cases q; exact n ps0 rfl) q, fun a q => ?_⟩
  by_cases z : a = P
  · rw [z]; exact h
  · cases e : H a with
    | none => exact absurd e q
    | some o => rw [hb a o z e]; simp
theorem Rel.butP {P : Addr} (rl : Rel W S l st H) (hb : ButP P H H') (hT : LamX.Tabs W.T H') (h0 : ∃ ps, H P = some (.tbl ps)) (h : H' P ≠ none) (hG : P ∉ W.G) : Rel W S l st H' := by
  have x : Ext S l H S l H' := Ext.butP hb h0 h
  obtain ⟨ps0, e0⟩ := h0
  refine ⟨rl.len, rl.nd, rl.sub, fun a z => x.dom a (rl.dom a z), fun n c e => ?_, hT, fun P' hP' => ?_⟩
  · obtain ⟨a, o, h1, h2, h3⟩ := rl.cell n c e
    exact ⟨a, o, h1, hb a o (fun z => by rw [z, e0] at h2; cases h2; exact h3.kind) h2, h3.ext rl x⟩
  · obtain ⟨ps, h1, h2⟩ := rl.tabs.2 P' hP'
    exact ⟨ps, hb _ _ (fun z => hG (by rw [← z]; exact hP')) h1, h2⟩
theorem heard_read {P : Addr} {q : Str} {m : EM} (hP : (P, q) ∈ W.T) (hG : P ∉ W.G) : ∀ σ H Q, tE W E (mHeard m) σ H Q → tLam3 W.T P (TTHear W.K (W.cls 11) (W.cls 12)) (fun E' => tE W E' m) σ H Q := by
  rintro σ H Q ⟨S, l, env, st, rl, re, h⟩
  refine ⟨rl.tabs.1, fun H1 hb hT => ?_⟩
  have h0 : ∃ ps, H P = some (.tbl ps) := let ⟨ps, e, _⟩ := rl.tabs.1 _ hP; ⟨ps, e⟩
  have h1 : H1 P ≠ none := by
    obtain ⟨ps, e, _⟩ := hT _ hP
    have e : H1 P = some (.tbl ps) := e
    rw [e]; simp
  have x : Ext S l H S l H1 := Ext.butP hb h0 h1
  have r1 := rl.butP hb hT h0 h1 hG
  have h := Post.ext x h
  refine ⟨S, l, env, st, r1, re.ext rl x, ?_⟩
  unfold mHeard at h
  cases e : m env st with
  | ok u st1 =>
    rw [e] at h
    intro b S' l' H' xx rr pp
    exact ⟨Nat.zero_le _, fun p hp => h _ _ _ _ (xx.trans (Ext.new hp)) (rr.new hp) (.tup (.inl (.inl upd_same)) .nil)⟩
  | bad => rw [e] at h; exact h.elim
  | exc z st1 =>
    rw [e] at h
    rintro c d S' l' H' xx rr ⟨rfl, a, v, rfl, ea, rv⟩
    simp only at h
    split at h
    · rename_i hk
      refine ⟨a, v, rfl, .inl ⟨by rw [hk], by rw [ea, hk]; rfl, fun p hp => ?_⟩⟩
      exact h _ _ _ _ (xx.trans (Ext.new hp)) (rr.new hp) (.tup (.inl (.inl upd_same)) (.cons (.str _) (.cons (RepD.ext rr (Ext.new (l := l') hp) rv) (.cons (.bl _) .nil))))
    · split at h
      · rename_i hk
        refine ⟨a, v, rfl, .inr ⟨by rw [hk], by rw [ea, hk]; rfl, fun p hp => ?_⟩⟩
        exact h _ _ _ _ (xx.trans (Ext.new hp)) (rr.new hp) (.tup (.inl (.inl upd_same)) (.cons (.str _) (.cons (RepD.ext rr (Ext.new (l := l') hp) rv) (.cons (.bl _) .nil))))
      · exact h.elim
/-- what is known of the hearing def at g -/
structure HearFn (K : PySem.W.Frag) (mg : Str → Option Value) (g : Addr) : Prop where
  gH : mg "_law_heard" = some (.ref g)
  kH : PySem.W.keepIn K (.ref g) = true
  fn : ∃ (oc doc pm cdv ct : Value) (an od : Option Addr) (osl : Array (Option Value)) (pg : Arguments) (sg : Scope) (b1 b2 b3 b4 b5 h1 h2 i1 i2 i3 i4 i5 i6 i7 i8 n1 n2 z1 z2 : Pos) (k1 k2 k3 k4 : Nat) (p1 p2 p3 p4 p5 p6 p7 p8 p9 r1 r2 r3 r4 r5 p1' p2' p3' p4' p5' p6' p7' p8' p9' r1' r2' r3' r4' r5' : Pos),
    K.lookup g = some ⟨oc, od, .func (PySem.W.fnOf "_law_heard" "_law_heard" pg (hearBody b1 b2 b3 b4 b5 h1 h2 i1 i2 i3 i4 i5 i6 i7 i8 (told "bad" "name" k3 p1 p2 p3 p4 p5 p6 p7 p8 p9 r1 r2 r3 r4 r5) (told "no plan" "ring" k4 p1' p2' p3' p4' p5' p6' p7' p8' p9' r1' r2' r3' r4' r5') (told "" "" 0 b1 b1 b1 b1 b1 b1 b1 b1 b1 b1 b1 b1 b1 b1) n1 n2 z1 z2 k1 k2) sg .none .none doc pm an cdv ct), osl⟩ ∧
    PySem.W.codeIn K cdv "_law_heard" = true ∧ L2.Binds K (PySem.W.fnOf "_law_heard" "_law_heard" pg (hearBody b1 b2 b3 b4 b5 h1 h2 i1 i2 i3 i4 i5 i6 i7 i8 (told "bad" "name" k3 p1 p2 p3 p4 p5 p6 p7 p8 p9 r1 r2 r3 r4 r5) (told "no plan" "ring" k4 p1' p2' p3' p4' p5' p6' p7' p8' p9' r1' r2' r3' r4' r5') (told "" "" 0 b1 b1 b1 b1 b1 b1 b1 b1 b1 b1 b1 b1 b1 b1) n1 n2 z1 z2 k1 k2) sg .none .none doc pm an cdv ct) ["ask"] [] ∧
    FnScope ["ask", "e"] ["ask"] sg ∧
    sg.names = [(PySem.Str.ofString "ask", .local), (PySem.Str.ofString "e", .local), (PySem.Str.ofString "BadArgument", .globalImplicit), (PySem.Str.ofString "isinstance", .globalImplicit), (PySem.Str.ofString "NoPlan", .globalImplicit), (PySem.Str.ofString "CaveError", .globalImplicit), (PySem.Str.ofString "ValueError", .globalImplicit)]
theorem je_heard {g c P C : Addr} {k : Nat} {params : Arguments} {body : Expr} {scope : Scope} {m : EM} {p lpos pos : Pos} (hk : X.K = W.K) (hg : Gl X "_law_heard") (F : HearFn X.K X.mg g) (T : HearTxt X.K X.mg (W.cls 11) (W.cls 12) C)
    (TB : LamX.TabB X.base X.mg c P) (hcode : X.env.code = .ref c) (hmT : (P, X.env.qual ++ "<lambda>") ∈ W.T) (hu : ∀ p ∈ W.T, p.1 = P → p.2 = X.env.qual ++ "<lambda>") (hG : P ∉ W.G) (hr : Room (k + 2) X.A) (L : LamX.LamS X.env.scope scope) (hdef : defaultsOf params X.env = ([], []))
    (hbind : ∀ (q : Str) (cl : List (Str × Addr)) (pm cv ctv : Value), bindArgs (PySem.W.kla_fn "<lambda>" q params body scope cl pm cv ctv) ⟨[], []⟩ = pure [])
    (hbody : ∀ (A : Around) (outer : List Env) (s : Shared) (H : Hp) (E : XK) (f c' : Addr), Room k (A.deeper (LamX.lamEnv X scope s.heap.objs.size f c')) → JE W E (LamX.lamCx X A outer s H E scope f c') body m) :
    JE W E X (.Call (.Name "_law_heard" p) [.Lambda params body scope lpos] [] pos) (mHeard m) := by
  obtain ⟨oc, doc, pm, cdv, ct, an, od, osl, pg, sg, b1, b2, b3, b4, b5, h1, h2, i1, i2, i3, i4, i5, i6, i7, i8, n1, n2, z1, z2, k1, k2, k3, k4, p1, p2, p3, p4, p5, p6, p7, p8, p9, r1, r2, r3, r4, r5, p1', p2', p3', p4', p5', p6', p7', p8', p9', r1', r2', r3', r4', r5', lk, hcg, hb, Sg, hsc⟩ := F.fn
  have gv := hear_gives (x := "_law_heard") (q := X.env.qual ++ "<lambda>") (sg := sg) (g := g) (cdg := cdv) T hsc (b1 := b1) (b2 := b2) (b3 := b3) (b4 := b4) (b5 := b5) (h1 := h1) (h2 := h2) (i1 := i1) (i2 := i2) (i3 := i3) (i4 := i4) (i5 := i5) (i6 := i6) (i7 := i7) (i8 := i8) (n1 := n1) (n2 := n2) (z1 := z1) (z2 := z2) (k1 := k1) (k2 := k2) (k3 := k3) (k4 := k4)
    (p1 := p1) (p2 := p2) (p3 := p3) (p4 := p4) (p5 := p5) (p6 := p6) (p7 := p7) (p8 := p8) (p9 := p9) (r1 := r1) (r2 := r2) (r3 := r3) (r4 := r4) (r5 := r5) (p1' := p1') (p2' := p2') (p3' := p3') (p4' := p4') (p5' := p5') (p6' := p6') (p7' := p7') (p8' := p8') (p9' := p9') (r1' := r1') (r2' := r2') (r3' := r3') (r4' := r4') (r5' := r5')
  refine (pe_lam3 (X := X) (T := W.T) (t := fun E' => tE W E' m) (a := "ask") hg F.gH F.kH lk hcg hb Sg rfl (.inl (by rw [hsc]; decide)) gv TB hcode hmT hu hr L hdef hbind hbody).imp ?_
  rw [hk]
  exact heard_read hmT hG
end
end Ct
set_option Elab.async false
set_option maxRecDepth 100000
set_option maxHeartbeats 4000000
/-! A def's promise by its place in the text; calls by such promises. -/
namespace Ct
open PySem PySem.Spec PyProof.Rows L2
/-- the def at f keeps the promise of the function F -/
structure Good (P : Program) (w : World) (W : Wd) (mg : Str → Option Value) (base : Heap) (k : Nat) (f : Addr) (ps : List Str) (F : FM) : Prop where
  ex : ∃ fd, FnOk P w W.K mg base (L2.CX P w) k f fd ps (spF W ps.length F) ∧ Binds W.K fd ps []
  kp : PySem.W.keepIn W.K (.ref f) = true
section
variable {P : Program} {w : World} {W : Wd} {mg : Str → Option Value} {base : Heap}
theorem good_of {p : He.Defn} {name qual : Str} {params : Arguments} {body : List Stmt} {scope : Scope} {dvs : List V} {kws : List (Str × V)} {N ps : List Str} {k : Nat} {m : SM}
    (D : ∃ fd, FunD W.K name qual params body scope dvs kws (He.fAd W.K p) fd) (Sc : FnScope N ps scope) (hbd : ∀ fd, FunD W.K name qual params body scope dvs kws (He.fAd W.K p) fd → Binds W.K fd ps [])
    (hb : ∀ (A : Around) (outer : List Env) (s' : Shared) (H : Hp) (E : XK), Room k (A.deeper (envOfC qual scope s'.heap.objs.size (He.fAd W.K p) (.ref (He.codeOf W.K p)))) →
      JSs W E (cxOf (L2.CX P w) P w W.K mg base N qual scope (He.fAd W.K p) (.ref (He.codeOf W.K p)) A outer s' H E) body m) :
    Good P w W mg base (k + 1) (He.fAd W.K p) ps (runB N.length m) := by
  obtain ⟨fd, F⟩ := D
  refine ⟨⟨fd, ?_, hbd fd F⟩, F.kp⟩
  obtain ⟨oc, od, dV, kV, doc, pm, an, cdv, ct, osl, rfl, lk, hcd, _, _⟩ := F.ex
  obtain ⟨c, rfl⟩ := He.codeIn_ref hcd
  have ec : He.codeOf W.K p = c := He.codeOf_eq lk rfl
  subst ec
  have hpl : ps.length ≤ N.length := by have := congrArg List.length Sc.pre; rw [List.length_take] at this; omega
  exact fn_of lk hcd Sc (fun vs H Q E h => h.1) fun A outer s' H vs Q E hr h => ⟨_, hb A outer s' H E hr, body_read h hpl⟩
end
section
variable {W : Wd} {E : XK} {X : Cx} {k n : Nat} {f : Addr} {ps : List Str} {F : FM} {x : Str} {p pos : Pos} {e : Expr} {es : List Expr} {ms : AM}
theorem je_cP (hk : X.K = W.K) (tk : TakesE X E) (G : Good X.prog X.w W X.mg X.base k f ps F) (hn : ps.length = n) (hr : Room k X.A) (hg : Gl X x) (hm : X.mg x = some (.ref f)) (ha : JA W E X (e :: es) ms)
    (hdb : (x == ("__debug__" : Str)) = false := by decide) (he : starEach (e :: es) X.env = (false, eval e X.env) :: starEach es X.env := by rfl) (hpl : (backTo pos (starEach es X.env)).any (·.1) = false := by rfl) :
    JE W E X (.Call (.Name x p) (e :: es) [] pos) (mCallP n F ms []) := by
  subst hn
  obtain ⟨⟨fd, G1, G2⟩, G3⟩ := G
  rw [← hk] at G1 G2 G3
  exact je_callP (dvs := []) (ds := []) tk G1 hr hg hm G3 G2 .nil (fun _ _ => .nil) ha hdb he hpl
theorem je_cR (hk : X.K = W.K) (tk : TakesE X E) (G : Good X.prog X.w W X.mg X.base k f ps F) (hn : ps.length = n) (hr : Room k X.A) (hg : Gl X x) (hm : X.mg x = some (.ref f)) (ha : JA W E X (e :: es) ms)
    (hdb : (x == ("__debug__" : Str)) = false := by decide) (he : starEach (e :: es) X.env = (false, eval e X.env) :: starEach es X.env := by rfl) (hpl : (backTo pos (starEach es X.env)).any (·.1) = false := by rfl) :
    JE W E X (.Call (.Name x p) (e :: es) [] pos) (mCallR n F ms []) := by
  subst hn
  obtain ⟨⟨fd, G1, G2⟩, G3⟩ := G
  rw [← hk] at G1 G2 G3
  exact je_callR (dvs := []) (ds := []) tk G1 hr hg hm G3 G2 .nil (fun _ _ => .nil) ha hdb he hpl
theorem je_cM {c : Nat} {C : Addr} (hk : X.K = W.K) (tk : TakesE X E) (hc : W.cls c = C) (M : Mk W.K C f) (G : Good X.prog X.w W X.mg X.base k f ps F) (hn : ps.length = n) (hr : Room (k + 1) X.A) (hg : Gl X x) (hm : X.mg x = some (.ref C)) (ha : JA W E X (e :: es) ms)
    (hdb : (x == ("__debug__" : Str)) = false := by decide) (he : starEach (e :: es) X.env = (false, eval e X.env) :: starEach es X.env := by rfl) (hpl : (backTo pos (starEach es X.env)).any (·.1) = false := by rfl) :
    JE W E X (.Call (.Name x p) (e :: es) [] pos) (mMake c n F ms []) := by
  subst hn
  obtain ⟨⟨fd, G1, G2⟩, G3⟩ := G
  rw [← hk] at G1 G2 G3 M
  exact je_make (dvs := []) (ds := []) tk hc M G1 hr hg hm G2 .nil (fun _ _ => .nil) ha hdb he hpl
/-- a property -/
structure GProp (P : Program) (w : World) (W : Wd) (mg : Str → Option Value) (base : Heap) (c : Nat) (pn f : Str) : Prop where
  ex : ∃ p g fd, PropOf W.K (W.cls c) pn p g ∧ FnOk P w W.K mg base (L2.CX P w) 1 g fd ["self"] (getSp (W.cls c) f) ∧ Binds W.K fd ["self"] []
theorem je_pr {c : Nat} {pn f : Str} {o : Expr} {m : EM} (hk : X.K = W.K) (cl : Cls W.K (W.cls c)) (G : GProp X.prog X.w W X.mg X.base c pn f) (hr : Room 2 X.A) (ho : JE W E X o m)
    (hb : attributeBase o pn X.env (eval o X.env) = eval o X.env := by rfl) : JE W E X (.Attribute o pn pos) (fUn (fFld c f) m) := by
  obtain ⟨p, g, fd, G1, G2, G3⟩ := G.ex
  rw [← hk] at G2 G3
  exact je_prop hk cl G1 G2 hr G3 ho hb
end
/-! ### what is known of the text -/
def clsName : Nat → Str
  | 0 => "Survey"
  | 1 => "Cave"
  | 2 => "Reach"
  | 3 => "Flow"
  | 4 => "Search"
  | 5 => "Apart"
  | 11 => "BadArgument"
  | _ => "NoPlan"
structure Tx (fa : List He.Fa) (fn : List He.DefD) (gens lams : List (He.Defn × Str)) (props : List (Str × Str)) (c0 : Nat) (P : Program) (w : World) (W : Wd) (mg : Str → Option Value) (base : Heap) : Prop where
  kin : W.K.In base
  ns : base.Ns mainGlobals mg
  fact : ∀ (i : Nat) {f : He.Fa}, fa[i]? = some f → f.ok W.K = true
  def_ : ∀ (i : Nat) {d : He.DefD}, fn[i]? = some d → ∃ fd, FunD W.K d.name d.qual d.params d.body d.scope (d.dvs W.K) (d.kws W.K) (He.fAd W.K d.at_) fd
  gTab : ∀ p ∈ gens, GxR.TabB base mg (He.cT W.K p.1).1 (He.cT W.K p.1).2
  gIn : ∀ p ∈ gens, (He.cT W.K p.1).2 ∈ W.G
  gNo : ∀ p ∈ gens, ∀ q ∈ W.T, q.1 ≠ (He.cT W.K p.1).2
  lTab : ∀ p ∈ lams, LamX.TabB base mg (He.cT W.K p.1).1 (He.cT W.K p.1).2
  lIn : ∀ p ∈ lams, ((He.cT W.K p.1).2, p.2) ∈ W.T
  lU : ∀ p ∈ lams, ∀ q ∈ W.T, q.1 = (He.cT W.K p.1).2 → q.2 = p.2
  lNo : ∀ p ∈ lams, (He.cT W.K p.1).2 ∉ W.G
  cls : ∀ c, W.cls c = He.ga W.K (clsName c)
  prop : ∀ q ∈ props, GProp P w W mg base c0 q.1 q.2
  iso : IsO W c0
  xB : ∃ fI, XTxt P W.K mg "BadArgument" "name" "bad argument: " (W.cls 11) fI
  xN : ∃ fI, XTxt P W.K mg "NoPlan" "ring" "no plan: " (W.cls 12) fI
  hT : HearTxt W.K mg (W.cls 11) (W.cls 12) (He.ga W.K "CaveError")
  hF : HearFn W.K mg (He.ga W.K "_law_heard")
  dfl : ∃ (o : Obj) (n : Nat), W.K.lookup (He.dflAt (clsName c0, some "__init__") 0 W.K) = some o ∧ o.cls = .type "tuple" ∧ o.data = .seq #[] n
section
variable {fa : List He.Fa} {fn : List He.DefD} {gens lams : List (He.Defn × Str)} {props : List (Str × Str)} {c0 : Nat} {P : Program} {w : World} {W : Wd} {mg : Str → Option Value} {base : Heap}
theorem Tx.glo (T : Tx fa fn gens lams props c0 P w W mg base) (i : Nat) {x : Str} (h : fa[i]? = some (.glo x)) : mg x = some (.ref (He.ga W.K x)) := He.glo_ok T.kin T.ns (T.fact i h)
theorem Tx.free (T : Tx fa fn gens lams props c0 P w W mg base) (i : Nat) {x : Str} (h : fa[i]? = some (.free x)) : mg x = none := He.free_ok T.kin T.ns (T.fact i h)
/-- the default () of the own class's __init__ -/
theorem Tx.dflt (T : Tx fa fn gens lams props c0 P w W mg base) (S : Addr → Prop) (H : Hp) : RepL W S H [.ref (He.dflAt (clsName c0, some "__init__") 0 W.K)] [.tup []] := by
  obtain ⟨o, n, h1, h2, h3⟩ := T.dfl
  exact .cons (.tup (.inr ⟨o, #[], n, h1, h2, h3, Nat.zero_le _, .nil⟩) .nil) .nil
/-- a global int -/
theorem je_gi {X : Cx} {E : XK} {x : Str} {i : Int} {pos : Pos} (hg : Gl X x) (hm : ∃ t, X.mg x = some (.int i t)) (hd : (x == ("__debug__" : Str)) = false := by decide) : JE W E X (.Name x pos) (mC (.int i)) := by
  obtain ⟨t, hm⟩ := hm
  exact je_const (pe_glob (v := .int i) hg hm ⟨t, rfl⟩ hd) fun _ _ => .int _
theorem Tx.int (T : Tx fa fn gens lams props c0 P w W mg base) (i : Nat) {x : Str} {n : Int} (h : fa[i]? = some (.int x n)) : ∃ t, mg x = some (.int n t) := He.int_ok T.kin T.ns (T.fact i h)
theorem Tx.gloC (T : Tx fa fn gens lams props c0 P w W mg base) (c i : Nat) (h : fa[i]? = some (.glo (clsName c))) : mg (clsName c) = some (.ref (W.cls c)) := by rw [T.cls]; exact T.glo i h
theorem Tx.clsO (T : Tx fa fn gens lams props c0 P w W mg base) (c i : Nat) (h : fa[i]? = some (.cls (clsName c))) : Cls W.K (W.cls c) := by rw [T.cls]; exact He.cls_ok (T.fact i h)
theorem Tx.noat (T : Tx fa fn gens lams props c0 P w W mg base) (c i : Nat) {f : Str} (h : fa[i]? = some (.noat (clsName c) f)) : NoAttr W.K (W.cls c) f := by rw [T.cls]; exact He.noat_ok (T.fact i h)
theorem Tx.meth (T : Tx fa fn gens lams props c0 P w W mg base) (c i : Nat) {m : Str} (h : fa[i]? = some (.meth (clsName c) m)) : Meth W.K (W.cls c) m (He.fAd W.K (clsName c, some m)) := by rw [T.cls]; exact He.meth_ok (T.fact i h)
theorem Tx.mkr (T : Tx fa fn gens lams props c0 P w W mg base) (c i : Nat) (h : fa[i]? = some (.mkr (clsName c))) : Mk W.K (W.cls c) (He.fAd W.K (clsName c, some "__init__")) := by rw [T.cls]; exact He.mkr_ok (T.fact i h)
end
end Ct
set_option Elab.async false
set_option maxRecDepth 100000
set_option maxHeartbeats 4000000
/-! More calls by name; defs that are not entered; binding behind a default. -/
namespace Ct
open PySem PySem.Spec PyProof.Rows L2
section
variable {P : Program} {w : World} {W : Wd} {mg : Str → Option Value} {base : Heap}
theorem good_bad {d : He.Defn} {name qual : Str} {params : Arguments} {body : List Stmt} {scope : Scope} {dvs : List V} {kws : List (Str × V)} {ps : List Str} {k : Nat}
    (D : ∃ fd, FunD W.K name qual params body scope dvs kws (He.fAd W.K d) fd) (hbd : ∀ fd, FunD W.K name qual params body scope dvs kws (He.fAd W.K d) fd → Binds W.K fd ps []) :
    Good P w W mg base k (He.fAd W.K d) ps (fun _ _ => .bad) := by
  obtain ⟨fd, F⟩ := D
  refine ⟨⟨fd, ⟨fun vs H Q E h => h.1, ?_⟩, hbd fd F⟩, F.kp⟩
  intro A outer s H args us vs Q E hr e0 hb r hsp
  obtain ⟨_, S, l, us, st, _, _, h⟩ := hsp
  exact h.elim
theorem bindsAll {K : PySem.W.Frag} {x qual : Str} {params : Arguments} {body : List Stmt} {scope : Scope} {dvs : List V} {f : Addr} {fd : FuncData} {ps : List Str} (F : FunD K x qual params body scope dvs [] f fd) (hd : dvs ≠ [])
    (h : ∀ (T : Addr) (kV doc pm : Value) (an : Option Addr) (cdv ct : Value) (us its : List Value), us.length = ps.length → its.length = dvs.length →
      ∃ k, bindArgs (PySem.W.fnOf x qual params body scope (.ref T) kV doc pm an cdv ct) ⟨us, []⟩ = seqItems? (.ref T) >>= k ∧ k (some its.toArray) = pure (ps.zip us)) : Binds K fd ps [] := by
  obtain ⟨ds, h1, h2⟩ := F.binds1 (ps := ps) ps.length dvs.length hd (by omega) fun T kV doc pm an cdv ct us its e1 e2 => by
    obtain ⟨k, q1, q2⟩ := h T kV doc pm an cdv ct us its e1 e2
    refine ⟨k, q1, ?_⟩
    rw [← e2, List.drop_length, List.append_nil]
    exact q2
  rw [List.drop_length] at h1
  cases h1
  exact h2
/-- the j-th statement of a class's body -/
def clsStmt (s : Stmt) (j : Nat) : Stmt := match s with
  | .ClassDef _ _ _ body _ _ _ _ _ _ _ => body.getD j (.Pass ⟨0, 0, 0, 0⟩)
  | _ => .Pass ⟨0, 0, 0, 0⟩
end
end Ct
set_option Elab.async false
set_option maxRecDepth 100000
set_option maxHeartbeats 4000000
/-! xs[::-1] of tuples and lists; enumerate of tuples and lists. -/
namespace HT
open PySem PySem.Spec PyProof.Rows
section
variable {prog : Program} {w : World} {A : Around} {E : Value → Shared → Prop} {s : Shared}
theorem fm_congr {α β : Type} {f g : α → Option β} : ∀ {l : List α}, (∀ x ∈ l, f x = g x) → l.filterMap f = l.filterMap g
  | [], _ => rfl
  | a :: r, h => by
    rw [List.filterMap_cons, List.filterMap_cons, h a (by simp), fm_congr fun x hx => h x (by simp [hx])]
theorem rev_pick (xs : Array Value) : (List.range xs.size).filterMap (fun (k : Nat) => xs[(((xs.size : Int) - 1) + (k : Int) * (-1)).toNat]?) = xs.toList.reverse := by
  have e : ∀ k ∈ List.range xs.size, (((xs.size : Int) - 1) + (k : Int) * (-1)).toNat = xs.size - 1 - k := fun k hk => by
    have := List.mem_range.mp hk
    omega
  have e2 : (List.range xs.size).filterMap (fun (k : Nat) => xs[(((xs.size : Int) - 1) + (k : Int) * (-1)).toNat]?) = ((List.range xs.size).map fun k => xs.size - 1 - k).filterMap (xs[·]?) := by
    rw [List.filterMap_map]
    refine fm_congr fun k hk => ?_
    show xs[(((xs.size : Int) - 1) + (k : Int) * (-1)).toNat]? = xs[xs.size - 1 - k]?
    rw [e k hk]
  rw [e2, PySem.W.krv_range, List.filterMap_reverse, PySem.W.krv_all]
theorem sliceApplied_rev {sl : Addr} {vl vu vs : Value} {n : Nat} {Q : Int × Int × Nat → Shared → Prop} (hs : s.heap.IsSliceOf sl vl vu vs) (pl : IsPart vl none) (pu : IsPart vu none) (pv : IsPart vs (some (-1)))
    (h : Q ((n : Int) - 1, -1, n) s) : wpAny (model prog w) A (Builtin.Slice.sliceApplied (.ref sl) (pure (n : Int))) Q E s := by
  obtain ⟨os, hos, hcs, hds⟩ := id hs
  unfold Builtin.Slice.sliceApplied Builtin.Slice.sliceFields
  refine wpAny_bind (wpAny_bind (wpAny_field hos hds (x := vl) rfl (wpAny_bind (wpAny_field hos hds (x := vu) rfl (wpAny_bind (wpAny_field hos hds (x := vs) rfl (wpAny_pure ?_)))))))
  refine wpAny_bind (slicePart_ pv ?_)
  show wpAny _ _ (if ((-1 : Int) == 0) = true then _ else _) _ _ s
  rw [if_neg (by decide)]
  refine wpAny_bind (slicePart_ pl (wpAny_bind (slicePart_ pu (wpAny_bind (wpAny_pure ?_)))))
  show wpAny _ _ (match Builtin.Slice.sliceAdjust none none (-1) (n : Int) with | (lo, hi) => pure (lo, (-1 : Int), Builtin.Slice.slicePlaces lo hi (-1))) _ _ s
  have e1 : Builtin.Slice.sliceAdjust none none (-1) (n : Int) = ((n : Int) - 1, -1) := by
    first
      | rfl
      | simp [Builtin.Slice.sliceAdjust]
  rw [e1]
  show wpAny _ _ (pure ((n : Int) - 1, (-1 : Int), Builtin.Slice.slicePlaces ((n : Int) - 1) (-1) (-1))) _ _ s
  have e2 : Builtin.Slice.slicePlaces ((n : Int) - 1) (-1) (-1) = n := by
    unfold Builtin.Slice.slicePlaces
    have h1 : ¬ ((-1 : Int) > 0) := by decide
    simp only [h1, if_false]
    have h2 : (- -1 : Int) = 1 := by decide
    simp only [h2, Int.ediv_one]
    split <;> omega
  rw [e2]
  exact wpAny_pure h
theorem getItem_tuple_rev {t sl : Addr} {items : Array Value} {vl vu vs : Value} {Q : Value → Shared → Prop} (ht : IsTup s.heap t items) (hs : s.heap.IsSliceOf sl vl vu vs) (pl : IsPart vl none) (pu : IsPart vu none) (pv : IsPart vs (some (-1)))
    (h : Q (.ref s.heap.objs.size) { s with heap := s.heap.push { cls := .type "tuple", data := .seq items.toList.reverse.toArray } })
    (hsz : items.size ≤ sizeLine) : wpAny (model prog w) A (getItem (.ref t) (.ref sl)) Q E s := by
  have htake : sizeOk (.seq items.toList.reverse.toArray) := by
    show items.toList.reverse.toArray.size ≤ sizeLine
    rw [List.size_toArray, List.length_reverse, Array.length_toList]
    exact hsz
  obtain ⟨os, hos, hcs, hds⟩ := id hs
  have hTs : s.TypeIs (.ref sl) "slice" := ⟨os, hos, hcs⟩
  unfold getItem
  try with_reducible refine wpAny_holding ?_
  first | refine wpAny_bind (wpAny_pure ?_) | skip
  refine wpAny_bind (wpAny_sequenceKey ht.typeIs (by decide) ?_)
  refine wpAny_bind (wpAny_callSpecial?_slot (name := Str.ofString "__getitem__") ht.typeIs PyProof.Rows.slot_tuple_getitem
    (wpAny_call_entry PyProof.Rows.slot_tuple_getitem ht.typeIs entry_tuple_getitem ?_ (args_tuple_getitem _ _)))
  show wpAny _ _ (Builtin.Tuple.tupleItemsOf (.ref t) >>= _) _ _ s
  refine wpAny_bind (tupleItemsOf_ ht ?_)
  refine wpAny_bind (wpAny_typeOf hTs ?_)
  rw [if_pos (by decide)]
  refine wpAny_bind (sliceApplied_rev hs pl pu pv ?_)
  have hno : ¬ ((((items.size : Int) - 1) == 0 && (-1 : Int) == 1 && items.size == items.size) = true) := by
    intro q
    rw [Bool.and_eq_true, Bool.and_eq_true] at q
    exact absurd q.1.2 (by decide)
  show wpAny _ _ (if (((items.size : Int) - 1) == 0 && (-1 : Int) == 1 && items.size == items.size) = true then _ else _) _ _ s
  rw [if_neg hno, rev_pick]
  first
    | exact wpAny_bind (m := Builtin.Tuple.tupleExact _) (wpAny_newObj_type (wpAny_pure ⟨_, rfl, wpAny_pure h⟩) htake)
    | exact wpAny_bind (m := Builtin.Tuple.tupleExact _) (wpAny_newObj_type (wpAny_bind (wpAny_pure (wpAny_pure ⟨_, rfl, wpAny_pure h⟩))) htake)
    | exact wpAny_bind (wpAny_bind (m := Builtin.Tuple.tupleExact _) (wpAny_newObj_type (wpAny_pure (wpAny_pure ⟨_, rfl, wpAny_pure h⟩)) htake))
    | exact wpAny_bind (wpAny_bind (m := Builtin.Tuple.tupleExact _) (wpAny_newObj_type (wpAny_pure ⟨_, rfl, wpAny_pure h⟩) htake))
end
end HT
namespace Ct
open PySem PySem.Spec PyProof.Rows L2
/-- xs[::-1]: a list, or a tuple -/
def tRevA (K : PySem.W.Frag) (te : TE) : TE := fun σ H Q => te σ H fun x H1 => ∃ a xs, x = .ref a ∧ ((SqL K H1 a xs ∧ ∀ p, H1 p = none → Q (.ref p) (upd H1 p (.lst xs.reverse))) ∨ (SqT K H1 a xs ∧ ∀ p, H1 p = none → Q (.ref p) (upd H1 p (.tup xs.reverse))))
theorem pe_revA {X : Cx} {e : Expr} {te : TE} {k : Nat} {p1 p2 p3 pos : Pos} (he : PE X e te) : PE X (.Subscript e (.Slice none none (some (.UnaryOp .USub (.Constant (.int 1) k p1) p2)) p3) pos) (tRevA X.K te) := by
  refine ⟨fun pins s σ H Q I h => ?_⟩
  refine Subscript_ (thn (he.run pins s σ H _ I h) fun v s1 ⟨x, H1, I1, r1, q1⟩ => ?_)
  obtain ⟨a, xs, ex, q⟩ := q1
  subst ex
  cases r1
  have hst : PO X (some (.UnaryOp .USub (.Constant (.int 1) k p1) p2)) (tPart (tUn (rU fun i => .int (-i)) (tC (.int 1)))) := po_some (pe_un un_neg pe_int)
  refine wpAny_Slice (thn (po_none.run pins s1 σ H1 (fun o H2 => o = none ∧ H2 = H1) I1 ⟨rfl, rfl⟩) fun vl s2 ⟨l, H2, I2, pl, el, e2⟩ => ?_)
  subst el e2
  refine thn (po_none.run pins s2 σ H2 (fun o H3 => o = none ∧ H3 = H2) I2 ⟨rfl, rfl⟩) fun vu s3 ⟨u, H3, I3, pu, eu, e3⟩ => ?_
  subst eu e3
  refine thn (hst.run pins s3 σ H3 (fun o H4 => o = some (-1) ∧ H4 = H3) I3 ⟨1, rfl, -1, rfl, rfl, rfl⟩) fun vs s4 ⟨o, H4, I4, ps, eo, e4⟩ => ?_
  subst eo e4
  have I5 : Inv X pins σ H4 { s4 with heap := s4.heap.push { cls := .type "slice", data := .fields #[vl, vu, vs] } } := I4.kept (t' := s4.toks) fun b ob q => Heap.get?_push_of_some _ q
  show wpAny (model X.prog X.w) X.A (subscriptTail e (.Slice none none (some (.UnaryOp .USub (.Constant (.int 1) k p1) p2)) p3) (.ref a) (.ref s4.heap.objs.size)) (EP X pins σ Q) X.xe { s4 with heap := s4.heap.push { cls := .type "slice", data := .fields #[vl, vu, vs] } }
  rcases q with ⟨hx, q⟩ | ⟨hx, q⟩
  · obtain ⟨its, r, ht, hz⟩ := I5.list hx
    have hlen := r.length
    refine tail_any (ops := [.ref a, .ref s4.heap.objs.size]) ht.isList.typeIs (PySem.slot_list_getitem.lookup) ?_ (by with_unfolding_all rfl)
    refine wpAny_getItem_list_slice ht.isList (Heap.IsSliceOf.new _ vl vu vs) pl pu ps (by decide) ?_ (by rw [List.size_toArray]; omega)
    rw [PySem.W.krv_pick]
    refine ⟨.ref _, _, I5.laid (t' := s4.toks) (o := .lst xs.reverse) (fun b ob q => Heap.get?_push_of_some _ q) (Nat.le_refl _) ?_, rfl, q _ (I5.hok.fresh (Nat.le_refl _))⟩
    exact ⟨by rw [List.length_reverse]; exact hz, _, 0, r.reverse, Heap.get?_push_size _ rfl⟩
  · obtain ⟨its, r, ht, hz⟩ := I5.tuple hx
    have hlen := r.length
    refine tail_any (ops := [.ref a, .ref s4.heap.objs.size]) ht.typeIs (PyProof.Rows.slot_tuple_getitem.lookup) ?_ (by with_unfolding_all rfl)
    refine HT.getItem_tuple_rev ht (Heap.IsSliceOf.new _ vl vu vs) pl pu ps ?_ (by rw [List.size_toArray]; omega)
    refine ⟨.ref _, _, I5.laid (t' := s4.toks) (o := .tup xs.reverse) (fun b ob q => Heap.get?_push_of_some _ q) (Nat.le_refl _) ?_, rfl, q _ (I5.hok.fresh (Nat.le_refl _))⟩
    exact ⟨by rw [List.length_reverse]; exact hz, _, r.reverse, _, Heap.get?_push_size _ rfl, rfl, _, rfl⟩
section
variable {W : Wd} {E : XK} {X : Cx} {S S' S2 : Addr → Prop} {l l' l2 : List Addr} {H H' H2 : Hp} {st st' st2 : Store}
def mRev (m : EM) : EM := fun env st => (m env st).bind fun u st1 => match u with
  | .d (.tup ds) => .ok (.d (.tup ds.reverse)) st1
  | .d (.lst ds) => .ok (.d (.lst ds.reverse)) st1
  | .d (.frz ds) => .ok (.d (.lst ds.reverse)) st1
  | .loc n => match st1[n]? with
    | some (.lst us) => match dsOf us with
      | some ds => .ok (.d (.lst ds.reverse)) st1
      | none => .bad
    | _ => .bad
  | _ => .bad
theorem je_rev {e : Expr} {m : EM} {k : Nat} {p1 p2 p3 pos : Pos} (hk : X.K = W.K) (he : JE W E X e m) : JE W E X (.Subscript e (.Slice none none (some (.UnaryOp .USub (.Constant (.int 1) k p1) p2)) p3) pos) (mRev m) := (pe_revA he).imp (by
  rintro σ H Q ⟨S, l, env, st, rl, re, h⟩
  refine ⟨S, l, env, st, rl, re, (Post.bind (rep := repU W) h).imp ?_⟩
  rintro x H1 ⟨S1, l1, u, st1, x1, r1, p1, h1⟩
  rw [hk]
  split at h1
  · cases p1 with
    | @tup a vs ds q r =>
      exact ⟨a, vs, rfl, .inr ⟨q, fun p hp => h1 _ _ _ _ (Ext.new hp) (r1.new hp) (.tup (.inl (.inl upd_same)) (r.reverse.ext r1 (Ext.new (l := l1) hp)))⟩⟩
  · cases p1 with
    | @lst a vs ds q n r =>
      exact ⟨a, vs, rfl, .inl ⟨.inl (.inl q), fun p hp => h1 _ _ _ _ (Ext.new hp) (r1.new hp) (.lst upd_same (r1.free hp) (r.reverse.ext r1 (Ext.new (l := l1) hp)))⟩⟩
  · cases p1 with
    | @frz a vs ds q r =>
      exact ⟨a, vs, rfl, .inl ⟨q.sq, fun p hp => h1 _ _ _ _ (Ext.new hp) (r1.new hp) (.lst upd_same (r1.free hp) (r.reverse.ext r1 (Ext.new (l := l1) hp)))⟩⟩
  · split at h1
    · rename_i us e
      split at h1
      · rename_i ds ed
        obtain ⟨b, vs, hb, rfl, hv, r⟩ := loc_rep r1 p1 e
        rw [dsOf_eq ed] at r
        exact ⟨b, vs, rfl, .inl ⟨.inl (.inl hv), fun p hp => h1 _ _ _ _ (Ext.new hp) (r1.new hp) (.lst upd_same (r1.free hp) (r.ds.reverse.ext r1 (Ext.new (l := l1) hp)))⟩⟩
      · exact h1.elim
    · exact h1.elim
  · exact h1.elim)
end
end Ct
set_option Elab.async false
set_option maxRecDepth 100000
set_option maxHeartbeats 4000000
/-! enumerate of tuples and lists. -/
namespace HT
open PySem PySem.Spec PyProof.Rows
set_option maxHeartbeats 1000000 in
theorem meets_enumerate_new1 {v : Value} {o : Obj} {H : Heap → Prop} (B : Begins v o H) :
    Meets (Builtin.«enumerate.__new__» ⟨[.type "enumerate", v], []⟩) (fun _ R s => H s.heap ∧
      R (.ok (.ret (.ref (s.heap.push o).objs.size))) { s with heap := (s.heap.push o).push { cls := .type "enumerate", data := .fields #[.none, .bool false, .ref s.heap.objs.size, rawInt 0, .none, .none] } }) :=
  .of_wp fun prog w A R s h => by
    obtain ⟨hp, g, d, tk, os⟩ := s; obtain ⟨h1, h⟩ := h
    have hsub := sub_enumerate
    have q1 : ∀ {A' : Around} {E : Value → Shared → Prop} {Q : Value → Shared → Prop}, Q (.ref hp.objs.size) ⟨hp.push o, g, d, tk, os⟩ → wpAny (model prog w) A' (pyIter v) Q E ⟨hp, g, d, tk, os⟩ :=
      fun q => B.iter prog w _ _ ⟨hp, g, d, tk, os⟩ _ h1 q
    wp_walk using q1
    refine wpAny_stack_any fun st => wpAny_pure ?_
    split
    · rename_i c _ _ _ _ _
      cases (c == Value.type "enumerate")
      · wp_walk using q1
        exact ⟨_, rfl, h⟩
      · wp_walk using q1
        exact ⟨_, rfl, h⟩
    · wp_walk using q1
      exact ⟨_, rfl, h⟩
theorem enum_begins1 {prog : Program} {w : World} {A : Around} {E : Value → Shared → Prop} {s : Shared} {v : Value} {o : Obj} {H : Heap → Prop} {Q : Value → Shared → Prop} (B : Begins v o H) (h1 : H s.heap)
    (h : ∀ h', IsEnum h' (s.heap.objs.size + 1) s.heap.objs.size 0 .none → h'.get? s.heap.objs.size = some o → h'.objs.size = s.heap.objs.size + 2 →
      (∀ b o, s.heap.get? b = some o → h'.get? b = some o) → Q (.ref (s.heap.objs.size + 1)) { s with heap := h' }) :
    wpAny (model prog w) A (call (.type "enumerate") [v]) Q E s := by
  refine callType_new F.called_enumerate (by decide) (F.typeCall_enumerate_1 _) (F.newCall_enumerate_1 _) (fun obj => F.args_object_init_2 obj _) F.entry_enumerate_new
    (meets_enumerate_new1 B) ⟨h1, ?_⟩
  have hz : (s.heap.push o).objs.size = s.heap.objs.size + 1 := Heap.size_push ..
  show _ ∧ _
  rw [hz]
  have he : IsEnum ((s.heap.push o).push { cls := .type "enumerate", data := .fields #[.none, .bool false, .ref s.heap.objs.size, rawInt 0, .none, .none] }) (s.heap.objs.size + 1) s.heap.objs.size 0 .none := by
    have := Heap.get?_push_size (s.heap.push o) (o := { cls := .type "enumerate", data := .fields #[.none, .bool false, .ref s.heap.objs.size, rawInt 0, .none, .none] }) rfl
    rw [hz] at this; exact this
  refine ⟨⟨_, he, rfl⟩, h _ he (Heap.get?_push_of_some _ (Heap.get?_push_size _ B.free)) (by rw [Heap.size_push, hz]) fun b o x => Heap.get?_push_of_some _ (Heap.get?_push_of_some _ x)⟩
end HT
namespace Ct
open PySem PySem.Spec PyProof.Rows L2
/-- the tuple at a, each item in a new pair -/
def IteT (K : PySem.W.Frag) (a : Addr) : It :=
  ⟨fun i H => ∃ (xs : List V) (x : V), SqT K H a xs ∧ xs[i]? = some x, fun i H v H' => ∃ T x, v = .ref T ∧ H T = none ∧ H' = upd H T (.tup [.int (i : Nat), x]) ∧ ∀ xs, SqT K H a xs → xs[i]? = some x, fun i H => ∃ xs : List V, SqT K H a xs ∧ xs.length ≤ i⟩
theorem turn_enumT {P : Program} {w : World} {K : PySem.W.Frag} {elts : List Expr} {kk : Nat} {tpos : Pos} (a e it : Addr) :
    Turn P w K (.Tuple elts kk tpos) (IteT K a) [e, it] e (fun i h => (∃ old, IsEnum h e it ((i : Nat) : Int) old) ∧ h.IsTupleIter it a i ∧ e ≠ it ∧ a ≠ it ∧ a ≠ e) where
  mem := by simp
  obj := fun i h st b hb => by
    obtain ⟨⟨old, he⟩, ⟨o, ho, hc, hd⟩, _⟩ := st
    have e' : b = e ∨ b = it := by simpa using hb
    rcases e' with z | z
    · rw [z]; exact ⟨_, he, fun v q => nomatch q⟩
    · rw [z]; exact ⟨o, ho, fun v q => by rw [hd] at q; cases q⟩
  keep := fun i h h' st k => let ⟨⟨old, he⟩, hi, hne⟩ := st; ⟨⟨old, k e (by simp) _ he⟩, hi.at fun o q => k it (by simp) o q, hne⟩
  item := by
    intro X hP hw hK hc i pins s σ H E I hf st hg
    subst hP hw hK
    obtain ⟨⟨old, he⟩, hit, hne, hai, hae⟩ := st
    obtain ⟨xs, x, hq, hx⟩ := hg
    obtain ⟨its, rv, p, hz⟩ := I.tuple hq
    obtain ⟨u, hu, ru⟩ := rv.get hx
    have hel : e < s.heap.objs.size := Heap.lt_size he
    have hil : it < s.heap.objs.size := by obtain ⟨_, q, _⟩ := hit; exact Heap.lt_size q
    have hlt : i < its.toArray.size := by
      rw [List.size_toArray]
      exact (List.getElem?_eq_some_iff.mp hu).1
    refine wpAny_pyNext_enum_itemD (Draws.tuple (show X.A.in1.handled = none from I.ok.hd hc) it a hai its.toArray) he ⟨hit, show s.heap.IsTuple a its.toArray from p⟩ hlt hne (by simp [hne, Ne.symm hae]) fun x' h' tk hx' ho hst' hT hsz hk => ?_
    have ex : x' = u := by
      have : its[i]? = some x' := by simpa using hx'
      rw [hu] at this
      exact (Option.some.inj this).symm
    subst ex
    obtain ⟨hit', _⟩ := hst'
    refine ⟨_, rfl, wpAny_letOwnedTupleGo_enum (s := { s with heap := h', toks := tk + 1 }) ho fun h'' he' sb => ?_⟩
    have hT2 : h''.get? s.heap.objs.size = some { cls := .type "tuple", data := .seq #[.int i tk, x'] } := (sb.2 _ (Nat.ne_of_gt hel)).trans hT
    have new : ObjOk X.prog X.w (upd H s.heap.objs.size (.tup [.int (i : Nat), x])) h'' s.heap.objs.size (.tup [.int (i : Nat), x]) :=
      ⟨by show 2 ≤ sizeLine; decide, [.int i tk, x'], .cons ⟨_, rfl⟩ (.cons ru .nil), ⟨_, hT2, rfl, _, rfl⟩⟩
    have I1 : Inv X pins σ (upd H s.heap.objs.size (.tup [.int (i : Nat), x])) { s with heap := h'', toks := tk + 1 } :=
      I.turnedNew (ch := [e, it]) (fun b ob hb q => (sb.2 b (fun z => hb (by simp [z]))).trans (hk b ob (fun z => hb (by simp [z])) (fun z => hb (by simp [z])) q)) hf (Nat.le_refl _) new
    refine ⟨.ref s.heap.objs.size, _, I1, rfl, ⟨_, x, rfl, I.hok.fresh (Nat.le_refl _), rfl, fun ys hy => by rw [I.tuple_inj hy hq]; exact hx⟩, ⟨⟨x', ?_⟩, hit'.at fun o q => (sb.2 it (Ne.symm hne)).trans q, hne, hai, hae⟩, fun b hb => ?_⟩
    · have e1 : ((i + 1 : Nat) : Int) = (i : Int) + 1 := by omega
      rw [e1]; exact he'
    · have hb' : b < s.heap.objs.size := by
        have e' : b = e ∨ b = it := by simpa using hb
        rcases e' with z | z
        · rw [z]; exact hel
        · rw [z]; exact hil
      rw [upd_ne (Nat.ne_of_lt hb')]
      exact (hf b hb).1
  done := by
    intro X hP hw hK hc i pins s σ H E I hf st hg
    subst hP hw hK
    obtain ⟨⟨old, he⟩, hit, hne, hai, hae⟩ := st
    obtain ⟨xs, hq, hx⟩ := hg
    obtain ⟨its, rv, p, hz⟩ := I.tuple hq
    obtain ⟨f0, f1, f2, f3, f4, f5⟩ := hf it (by simp)
    have hl := rv.length
    have hT : s.TypeIs (.ref e) "enumerate" := ⟨_, he, rfl⟩
    unfold pyNext
    refine wpAny_bind (wpAny_attempt (wpAny_callSpecial?_slot (name := Str.ofString "__next__") hT F.slot_enumerate_next
      (wpAny_call_entry F.slot_enumerate_next hT F.entry_enumerate_next ?_ (F.args_enumerate_next_1 _))))
    show wpAny _ _ (field (.ref e) 2 >>= _) _ _ _
    refine wpAny_bind (wpAny_field he rfl (x := .ref it) rfl ?_)
    refine wpAny_bind (wpAny_nextOf_tuple_end (show X.A.in1.handled = none from I.ok.hd hc) hit (show s.heap.IsTuple a its.toArray from p) (by simp; omega) fun h' x he' hx' => ?_)
    obtain ⟨o, ho, hc'⟩ := hx'
    refine wpAny_bind (wpAny_isInstance (T := "StopIteration") (b := true) ⟨o, ho, hc'⟩ isSubtype_stop ?_)
    exact wpAny_pure ⟨rfl, I.turned (t' := s.toks) (fun b o hb q => he' b o hb q) f0 f1 f3 f4 f5⟩
  self := fun A i s Q E st h => let ⟨⟨_, he⟩, _⟩ := st; wpAny_pyIter_enum he h
def iEnumA (K : PySem.W.Frag) (ta : TA) : TI := fun σ H R => ta σ H fun vs H1 => ∃ a, vs = [.ref a] ∧ (((∃ xs, SqL K H1 a xs) ∧ R (Ite K a) H1) ∨ ((∃ xs, SqT K H1 a xs) ∧ R (IteT K a) H1))
theorem pi_enumA {X : Cx} {e : Expr} {ta : TA} {p pos tpos : Pos} {elts : List Expr} {kk : Nat} (hg : Gl X "enumerate") (hm : X.mg "enumerate" = none) (ha : PA X [e] ta) (hs : starEach [e] X.env = [(false, eval e X.env)] := by rfl) :
    PI X (.Tuple elts kk tpos) (.Call (.Name "enumerate" p) [e] [] pos) (iEnumA X.K ta) := by
  refine ⟨fun pins s σ H R I h => ?_⟩
  refine Call_ (ld_blt I hg hm boot_enumerate (PyProof.Rows.callWith_type1 (thn (ha.run pos pins s σ H _ I h) fun us s1 ⟨vs, H1, I1, r1, q1⟩ => ?_) hs rfl))
  obtain ⟨a, ex, q⟩ := q1
  subst ex
  cases r1 with
  | cons r rr =>
    cases rr
    cases r
    have fp : ∀ b ∈ [s1.heap.objs.size + 1, s1.heap.objs.size], FpOk X pins H1 b := fun b hb => by
      have e' : b = s1.heap.objs.size + 1 ∨ b = s1.heap.objs.size := by simpa using hb
      have hle : s1.heap.objs.size ≤ b := by
        rcases e' with z | z
        · rw [z]; exact Nat.le_add_right _ _
        · rw [z]; exact Nat.le_refl _
      exact I1.fpOk hle (I1.hok.fresh hle)
    rcases q with ⟨⟨xs, hq⟩, q⟩ | ⟨⟨xs, hq⟩, q⟩
    · obtain ⟨its, rv, p', hz⟩ := I1.list hq
      refine call_enumerate_list p'.isList fun h' he hit hsz hk => wpAny_pyIter_enum he ?_
      have I2 : Inv X pins σ H1 { s1 with heap := h' } := I1.kept (t' := s1.toks) hk
      exact ⟨s1.heap.objs.size + 1, [s1.heap.objs.size + 1, s1.heap.objs.size], _, _, H1, rfl, I2, turn_enum a (s1.heap.objs.size + 1) s1.heap.objs.size, ⟨⟨.none, he⟩, hit, Nat.succ_ne_self _⟩, fp, q⟩
    · obtain ⟨its, rv, p', hz⟩ := I1.tuple hq
      have p2 : s1.heap.IsTuple a its.toArray := p'
      have ha : a < s1.heap.objs.size := by obtain ⟨o, q, _⟩ := id p2; exact Heap.lt_size q
      refine HT.enum_begins1 (begins_tuple a its.toArray) p2 fun h' he hit hsz hk => wpAny_pyIter_enum he ?_
      have I2 : Inv X pins σ H1 { s1 with heap := h' } := I1.kept (t' := s1.toks) hk
      exact ⟨s1.heap.objs.size + 1, [s1.heap.objs.size + 1, s1.heap.objs.size], _, _, H1, rfl, I2, turn_enumT a (s1.heap.objs.size + 1) s1.heap.objs.size, ⟨⟨.none, he⟩, ⟨_, hit, rfl, rfl⟩, Nat.succ_ne_self _, Nat.ne_of_lt ha, Nat.ne_of_lt (Nat.lt_succ_of_lt ha)⟩, fp, q⟩
section
variable {W : Wd} {E : XK} {X : Cx} {S S' S2 : Addr → Prop} {l l' l2 : List Addr} {H H' H2 : Hp} {st st' st2 : Store}
def enumD (ds : List D) : List D := ds.zipIdx.map fun p => .tup [.int (p.2 : Nat), p.1]
def iEnumM (m : EM) : IM := fun env st => (m env st).bind fun u st1 => match u with
  | .d (.tup ds) => .ok (none, (enumD ds).map U.d) st1
  | .d (.lst ds) => .ok (none, (enumD ds).map U.d) st1
  | .d (.frz ds) => .ok (none, (enumD ds).map U.d) st1
  | _ => .bad
theorem enum_get {ds : List D} {i : Nat} {u : U} (e : ((enumD ds).map U.d)[i]? = some u) : ∃ d, ds[i]? = some d ∧ u = .d (.tup [.int (i : Nat), d]) := by
  unfold enumD at e
  rw [List.map_map, List.getElem?_map, List.getElem?_zipIdx] at e
  cases q : ds[i]? with
  | none => rw [q] at e; cases e
  | some d =>
    rw [q] at e
    refine ⟨d, rfl, ?_⟩
    have e := Option.some.inj e
    rw [← e]
    simp
theorem src_enum {J : It} {ds : List D} {R : Hp → List V → Prop} (hl : ∀ S' l' st' H', Ext S l H S' l' H' → Rel W S' l' st' H' → ∃ vs, R H' vs ∧ RepL W S' H' vs ds)
    (hJ : J = ⟨fun i H => ∃ (xs : List V) (x : V), R H xs ∧ xs[i]? = some x, fun i H v H' => ∃ T x, v = .ref T ∧ H T = none ∧ H' = upd H T (.tup [.int (i : Nat), x]) ∧ ∀ xs, R H xs → xs[i]? = some x, fun i H => ∃ xs : List V, R H xs ∧ xs.length ≤ i⟩) :
    SrcOk W S l H J (none, (enumD ds).map U.d) := by
  subst hJ
  intro S' l' st' H' x r hg i
  obtain ⟨vs, q, p⟩ := hl S' l' st' H' x r
  refine ⟨fun e => ⟨vs, q, by rw [p.length]; simp [enumD] at e; omega⟩, fun u e => ?_⟩
  obtain ⟨d, h1, rfl⟩ := enum_get e
  obtain ⟨v, h2, h3⟩ := p.get h1
  refine ⟨⟨vs, v, q, h2⟩, ?_⟩
  rintro y H'' ⟨T, z, rfl, hT, rfl, hz⟩
  have := hz vs q
  rw [h2] at this
  cases this
  exact ⟨S', l', Ext.new hT, r.new hT, .tup (.inl (.inl upd_same)) (.cons (.int _) (.cons (h3.ext r (Ext.new (l := l') hT)) .nil))⟩
theorem ji_enum {e : Expr} {m : EM} {p pos tpos : Pos} {elts : List Expr} {kk : Nat} (hk : X.K = W.K) (hg : Gl X "enumerate") (hm : X.mg "enumerate" = none) (he : JE W E X e m) (hs : starEach [e] X.env = [(false, eval e X.env)] := by rfl)
    (hs2 : starEach [e] X.env = (false, eval e X.env) :: starEach [] X.env := by rfl) : JI W E X (.Tuple elts kk tpos) (.Call (.Name "enumerate" p) [e] [] pos) (iEnumM m) := (pi_enumA hg hm (pa_cons he pa_nil hs2) hs).imp (by
  rintro σ H R ⟨S, l, env, st, rl, re, h⟩
  refine ⟨S, l, env, st, rl, re, (Post.bind (rep := repU W) h).imp ?_⟩
  rintro x H1 ⟨S1, l1, u, st1, x1, r1, p1, h1⟩
  rw [hk]
  split at h1
  · cases p1 with
    | @tup a vs ds q r => exact ⟨a, rfl, .inr ⟨⟨vs, q⟩, h1.ok r1 (src_enum (R := fun H xs => SqT W.K H a xs) (fun S' l' st' H' x r' => ⟨vs, sqT_ext r1 x q, RepL.ext r1 x r⟩) rfl)⟩⟩
  · cases p1 with
    | @lst a vs ds q n r =>
      exact ⟨a, rfl, .inl ⟨⟨vs, .inl (.inl q)⟩, h1.ok r1 (src_enum (R := fun H xs => SqL W.K H a xs) (fun S' l' st' H' x r' => ⟨vs, .inl (.inl (x.keep _ _ (fun z => n (r1.sub _ z)) q (fun ps z => by cases z))), RepL.ext r1 x r⟩) rfl)⟩⟩
  · cases p1 with
    | @frz a vs ds q r =>
      exact ⟨a, rfl, .inl ⟨⟨vs, q.sq⟩, h1.ok r1 (src_enum (R := fun H xs => SqL W.K H a xs) (fun S' l' st' H' x r' => ⟨vs, (frL_ext r1 x q).sq, RepL.ext r1 x r⟩) rfl)⟩⟩
  · exact h1.elim)

/-! ### len of an own object, sum, tuple, list -/
section
variable {p pos : Pos} {e : Expr} {es : List Expr} {ms : AM}
theorem je_lenO {c k : Nat} {f C : Addr} {F : FM} {ps : List Str} {m : AM} (hk : X.K = W.K) (hps : ps.length = 1) (hg : Gl X "len") (hm : X.mg "len" = none) (hC : W.cls c = C) (M : Meth W.K C "__len__" f) (G : Good X.prog X.w W X.mg X.base k f ps F) (hr : Room (k + 1) X.A)
    (ha : JA W E X (e :: es) m) (he : starEach (e :: es) X.env = (false, eval e X.env) :: starEach es X.env := by rfl) (hpl : (backTo pos (starEach es X.env)).any (·.1) = false := by rfl) : JE W E X (.Call (.Name "len" p) (e :: es) [] pos) (mCB (fLenO c F) m) := by
  obtain ⟨⟨fd, G1, G2⟩, _⟩ := G
  subst hC
  rw [← hk] at G1 G2 M
  rw [hps] at G1
  exact je_callB (callR_or call_len (call_lenO M.at_ M.fn G1 hr G2)) (by rw [hk]; exact lenO_ok) hg hm (by decide +kernel) ha (by decide) (by decide) he hpl
theorem je_sumB (hk : X.K = W.K) (hc : X.calm = true) (hg : Gl X "sum") (hm : X.mg "sum" = none) (ha : JA W E X (e :: es) ms) (he : starEach (e :: es) X.env = (false, eval e X.env) :: starEach es X.env := by rfl) (hpl : (backTo pos (starEach es X.env)).any (·.1) = false := by rfl) :
    JE W E X (.Call (.Name "sum" p) (e :: es) [] pos) (mCB fSum ms) := je_callB (cr_sum hc) (by rw [hk]; exact sum_ok) hg hm (by decide +kernel) ha (by decide) (by decide) he hpl
theorem je_tupleB (hk : X.K = W.K) (hg : Gl X "tuple") (hm : X.mg "tuple" = none) (ha : JA W E X (e :: es) ms) (he : starEach (e :: es) X.env = (false, eval e X.env) :: starEach es X.env := by rfl) (hpl : (backTo pos (starEach es X.env)).any (·.1) = false := by rfl) :
    JE W E X (.Call (.Name "tuple" p) (e :: es) [] pos) (mCB fTuple ms) := je_callTy call_tuple_of (by rw [hk]; exact tuple_ok) hg hm (by decide +kernel) ha (by decide) (by decide) he hpl
theorem je_listB (hk : X.K = W.K) (hg : Gl X "list") (hm : X.mg "list" = none) (ha : JA W E X (e :: es) ms) (he : starEach (e :: es) X.env = (false, eval e X.env) :: starEach es X.env := by rfl) (hpl : (backTo pos (starEach es X.env)).any (·.1) = false := by rfl) :
    JE W E X (.Call (.Name "list" p) (e :: es) [] pos) (mCB fList ms) := je_callTy call_list_of (by rw [hk]; exact list_ok) hg hm (by decide +kernel) ha (by decide) (by decide) he hpl
theorem je_listBC (hk : X.K = W.K) (hg : Gl X "list") (hm : X.mg "list" = none) (ha : JA W E X (e :: es) ms) (he : starEach (e :: es) X.env = (false, eval e X.env) :: starEach es X.env := by rfl) (hpl : (backTo pos (starEach es X.env)).any (·.1) = false := by rfl) :
    JE W E X (.Call (.Name "list" p) (e :: es) [] pos) (mCB fListC ms) := je_callTy call_list_of (by rw [hk]; exact listC_ok) hg hm (by decide +kernel) ha (by decide) (by decide) he hpl
end
end
end Ct
set_option Elab.async false
set_option maxRecDepth 100000
set_option maxHeartbeats 4000000
/-! Looks at scopes. -/
namespace Ct
open PySem PySem.Spec PyProof.Rows L2
def blkB (N : List Str) (sc scope : Scope) (own : List (Str × Nat)) : Bool :=
  decide (scope.kind = .function) && scope.names.all (fun y => decide (scope.names.lookup y.1 = some y.2)) && own.all (fun p => decide (N[p.2]? = some p.1)) &&
    scope.names.all (fun y => !decide (y.2 = .free) || decide (sc.names.lookup y.1 = some .cell) || decide (sc.names.lookup y.1 = some .free)) &&
    scope.names.all (fun y => (!decide (y.2 = .local) && !decide (y.2 = .cell)) || decide (y.1 ∈ own.map (·.1)) || decide (y.1 ∉ N))
theorem blk_by {N : List Str} {sc scope : Scope} {own : List (Str × Nat)} (h : blkB N sc scope own = true) : BlkOk N sc scope own := by
  unfold blkB at h
  simp only [Bool.and_eq_true, decide_eq_true_eq, List.all_eq_true, Bool.or_eq_true, Bool.not_eq_true', decide_eq_false_iff_not] at h
  obtain ⟨⟨⟨⟨h1, h2⟩, h3⟩, h4⟩, h5⟩ := h
  refine ⟨h1, h2, h3, fun y hy e => ?_, fun y hy e => ?_⟩
  · rcases h4 y hy with (q | q) | q
    · exact absurd e q
    · exact .inl q
    · exact .inr q
  · rcases h5 y hy with (q | q) | q
    · exact absurd e (fun z => z.elim q.1 q.2)
    · exact .inl q
    · exact .inr q
def gxsB (N : List Str) (sc scope : Scope) (own : List (Str × Nat)) : Bool :=
  decide (scope.kind = .function) && !scope.isCoroutine && scope.names.all (fun y => !decide (y.2 = .cell)) && decide (scope.names.lookup (".0" : Str) = some NameKind.local) && own.all (fun p => decide (N[p.2]? = some p.1)) &&
    scope.names.all (fun y => !decide (y.2 = .free) || decide (sc.names.lookup y.1 = some .cell) || decide (sc.names.lookup y.1 = some .free)) &&
    scope.names.all (fun y => !decide (y.2 = .local) || decide (y.1 ∈ own.map (·.1)) || decide (y.1 ∉ N))
theorem gxs_by {N : List Str} {sc scope : Scope} {own : List (Str × Nat)} (h : gxsB N sc scope own = true) : GxS N sc scope own := by
  unfold gxsB at h
  simp only [Bool.and_eq_true, decide_eq_true_eq, List.all_eq_true, Bool.or_eq_true, Bool.not_eq_true', decide_eq_false_iff_not] at h
  obtain ⟨⟨⟨⟨⟨⟨h1, h2⟩, h3⟩, h4⟩, h5⟩, h6⟩, h7⟩ := h
  refine ⟨h1, h2, h3, h4, h5, fun y hy e => ?_, fun y hy e => ?_⟩
  · rcases h6 y hy with (q | q) | q
    · exact absurd e q
    · exact .inl q
    · exact .inr q
  · rcases h7 y hy with (q | q) | q
    · exact absurd e q
    · exact .inl q
    · exact .inr q
end Ct
namespace Ct
open PySem PySem.Spec PyProof.Rows L2
section
variable {W : Wd} {E : XK} {X : Cx} {S S' S2 : Addr → Prop} {l l' l2 : List Addr} {H H' H2 : Hp} {st st' st2 : Store}
/-- a, b = e1, e2 by a tuple in between -/
def sParT (n : Nat) (ms : AM) (gs : GsM) : SM := fun env st => (ms env st).andS fun us st1 => if us.length = n ∧ n ≤ 1000 then (gs us env st1).andS fun env1 st2 => .nx env1 st2 else .bad
theorem js_parT {tgs es : List Expr} {k k2 n : Nat} {ms : AM} {ts : List Nat} {gs : GsM} {p p2 pos : Pos} (hc : X.calm = true) (ha : JA W E X es ms) (hg : JGs W E X tgs ts gs)
    (hn : (assignEach tgs X.env).length = n := by rfl) (hst : (assignEach tgs X.env).findIdx? (·.1) = none := by rfl)
    (hs : swapsWithSole [.Tuple tgs k p] (.Tuple es k2 p2) pos.line X.env = pure false := by rfl) (hw : swappedStores [.Tuple tgs k p] (.Tuple es k2 p2) X.env = pure none := by rfl)
    (h1 : (assignEach [.Tuple tgs k p] X.env).map (·.2) = [assign (.Tuple tgs k p) X.env] := by rfl) : JS W E X (.Assign [.Tuple tgs k p] (.Tuple es k2 p2) pos) (sParT n ms gs) := (ps_asg (pe_tup ha) (pg_tup hc hg hn hst) hs hw h1).imp (by
  rintro D σ H ⟨S, l, env, st, rl, re, h⟩
  refine ⟨S, l, env, st, rl, re, (Post.andS (rep := repUs W) h).imp ?_⟩
  rintro vs H1 ⟨S1, l1, us, st1, x1, r1, p1, h1⟩
  split at h1
  · rename_i hl
    refine ⟨by rw [p1.length, hl.1]; exact Nat.le_trans hl.2 (by rw [sizeLine_eq]; decide), fun q hq => ?_⟩
    have y : Ext S1 l1 H1 S1 l1 (upd H1 q (.tup vs)) := Ext.new hq
    have r2 := r1.new (o := .tup vs) hq
    refine ⟨q, vs, rfl, .inl (.inl upd_same), by rw [p1.length]; exact hl.1, S1, l1, env, st1, us, r2, (re.ext rl x1).ext r1 y, p1.ext r1 y, (Post.andS (rep := repF W ts σ) (PostS.ext y h1)).imp ?_⟩
    rintro σ2 H2 ⟨S2, l2, env2, st2, x2, r2, p2, h2⟩
    exact h2 σ2 S2 l2 H2 (Ext.refl _ _ _) r2 p2.1
  · exact h1.elim)
end
end Ct
set_option Elab.async false
set_option maxRecDepth 100000
set_option maxHeartbeats 4000000
/-! What the head's Hook tells: functions by their place, classes, exceptions. -/
namespace Ct
open PySem PySem.Spec PyProof.Rows L2
/-- a function: where it stands, its datum -/
structure FnX where
  at_ : PySem.W.Frag → Addr
  name : Str
  qual : Str
  params : Arguments
  body : List Stmt
  scope : Scope
  cl : List Str
abbrev FxV : Type := Option (Str × Str × Arguments × FuncBody × Scope × Addr × List Str × Value × Value × Addr)
def fxObs (K : PySem.W.Frag) (a : Addr) : FxV := match K.lookup a with
  | some ⟨_, _, .func fd, _⟩ => some (fd.name, fd.qualname, fd.params, fd.body, fd.scope, fd.globals, fd.closure.map (·.1), fd.defaults, fd.kwdefaults, fd.builtins)
  | _ => none
def FnX.val (d : FnX) : FxV := some (d.name, d.qual, d.params, .stmts d.body, d.scope, mainGlobals, d.cl, .none, .none, builtinsNs)
theorem fx_ok {K : PySem.W.Frag} {d : FnX} (e : fxObs K (d.at_ K) = d.val) :
    ∃ oc od osl doc pm an cdv ct cl, K.lookup (d.at_ K) = some ⟨oc, od, .func (PySem.W.fnX d.name d.qual d.params d.body d.scope cl .none .none doc pm an cdv ct), osl⟩ ∧ cl.map (·.1) = d.cl := by
  unfold fxObs at e
  cases q : K.lookup (d.at_ K) with
  | none => rw [q] at e; cases e
  | some o =>
    obtain ⟨oc, od, dt, osl⟩ := o
    rw [q] at e
    cases dt with
    | func fd =>
      obtain ⟨n1, n2, n3, n4, n5, n6, n7, n8, n9, n10, n11, n12, n13, n14, n15⟩ := fd
      have e2 : (some (n1, n2, n3, n4, n5, n6, n7.map (·.1), n8, n9, n15) : FxV) = some (d.name, d.qual, d.params, .stmts d.body, d.scope, mainGlobals, d.cl, .none, .none, builtinsNs) := e
      simp only [Option.some.injEq, Prod.mk.injEq] at e2
      obtain ⟨h1, h2, h3, h4, h5, h6, h7, h8, h9, h10⟩ := e2
      subst h1 h2 h3 h4 h5 h6 h8 h9 h10
      exact ⟨oc, od, osl, n10, n11, n12, n13, n14, n7, rfl, h7⟩
    | _ => cases e
def cdAt (K : PySem.W.Frag) (a : Addr) : Value := match K.lookup a with
  | some ⟨_, _, .func fd, _⟩ => fd.code
  | _ => .none
def ccAt (K : PySem.W.Frag) (a : Addr) : Addr := match K.lookup a with
  | some ⟨_, _, .func fd, _⟩ => (match fd.closure with
    | (_, c) :: _ => c
    | _ => 0)
  | _ => 0
/-! ### an exception class -/
def clsXB (K : PySem.W.Frag) (C : Addr) : Bool := match K.lookup C with
  | some ⟨.type "type", _, .cls cd, sl⟩ => (match cd.mro, sl.toList with
    | .ref C' :: bm, [_, _, _, _, some (.builtin n), _] => C' == C && n == "ValueError.__new__" && !cd.hasDel && cd.hasDict && PySem.HandSPX.refsVE bm
    | _, _ => false)
  | _ => false
theorem clsXB_ok {K : PySem.W.Frag} {C : Addr} (q : clsXB K C = true) : ∃ nm q N bs bm sn sub ab col dd k0 k1 k2 k3 k5, K.lookup C = some (excClassObj nm q C N bs bm true sn sub ab col dd k0 k1 k2 k3 k5 "ValueError.__new__") ∧ PySem.HandSPX.refsVE bm = true := by
  unfold clsXB at q
  split at q
  · rename_i dd cd sl ho
    split at q
    · rename_i C' bm k0 k1 k2 k3 n k5 hm hs
      simp only [Bool.and_eq_true, beq_iff_eq, Bool.not_eq_true'] at q
      obtain ⟨⟨⟨⟨rfl, rfl⟩, hdel⟩, hd⟩, ht⟩ := q
      obtain ⟨nm, bs, mro, ns, qn, hd', sn, sub, ab, col, del⟩ := cd
      dsimp only at hm hdel hd
      subst hm hdel hd
      have hsl : sl = #[k0, k1, k2, k3, some (.builtin "ValueError.__new__"), k5] := by
        obtain ⟨l⟩ := sl
        simp only at hs
        rw [hs]
      subst hsl
      exact ⟨_, _, _, _, _, _, _, _, _, _, _, _, _, _, _, ho, ht⟩
    · cases q
  · cases q
/-- the code object names the file, the closure's cell holds the class -/
def cellB (K : PySem.W.Frag) (a C : Addr) (file qual : Str) : Bool := (match cdAt K a with
  | .ref c => (match K.lookup c with
    | some ⟨_, _, .fields vs, _⟩ => (match vs.toList with
      | _ :: _ :: .str f _ :: _ => file == f
      | _ => false)
    | _ => false)
  | _ => false) && (PySem.W.codeIn K (cdAt K a) qual && (match K.lookup (ccAt K a) with
    | some ⟨_, _, .cell (some (.ref D)), _⟩ => D == C
    | _ => false))
theorem cellB_ok {K : PySem.W.Frag} {a C : Addr} {file qual : Str} (h : cellB K a C file qual = true) : ∃ cda ccl cdd vs ccs f tf cl cld csl, cdAt K a = .ref cda ∧ PySem.W.codeIn K (.ref cda) qual = true ∧
    K.lookup cda = some ⟨ccl, cdd, .fields vs, ccs⟩ ∧ vs[2]? = some (.str f tf) ∧ (file == f) = true ∧ K.lookup (ccAt K a) = some ⟨cl, cld, .cell (some (.ref C)), csl⟩ := by
  unfold cellB at h
  obtain ⟨h1, h2⟩ := Bool.and_eq_true_iff.mp h
  obtain ⟨q2, h3⟩ := Bool.and_eq_true_iff.mp h2
  clear h2
  split at h1
  · rename_i c e
    split at h1
    · rename_i ccl cdd vs ccs hk
      split at h1
      · rename_i x y f tf r hv
        split at h3
        · rename_i cl cld D csl hc
          obtain rfl := beq_iff_eq.mp h3
          rw [e] at q2
          refine ⟨c, ccl, cdd, vs, ccs, f, tf, cl, cld, csl, e, q2, hk, ?_, h1, hc⟩
          rw [← Array.getElem?_toList, hv]
          rfl
        · cases h3
      · cases h1
    · cases h1
  · cases h1
def xsB (K : PySem.W.Frag) (C fI : Addr) (f : Str) : Bool :=
  He.eqO (PySem.W.findIn K (.ref C) "__setattr__") (some (some (.builtin "object.__setattr__"))) && (He.eqO (PySem.W.findIn K (.ref C) "__getattribute__") (some (some (.builtin "BaseException.__getattribute__"))) && (He.eqO (PySem.W.findIn K (.ref C) "__getattr__") (some none) &&
  (He.eqO (PySem.W.findIn K (.ref C) f) (some none) && (He.eqO (PySem.W.findIn K (.ref C) "__init__") (some (some (.ref fI))) && (decide (PySem.W.typeIn K (.ref fI) = some (.type "function")) && (PySem.W.keepIn K (.ref C) && (decide (PySem.W.subIn K (.ref C) (.type "BaseException") = some true) &&
  (decide (PySem.W.typeIn K (.ref C) = some (.type "type")) && (PySem.W.hasDictIn K C && (PySem.W.excInitIn K C PySem.HandSPX.veTail "ValueError.__new__" && (He.eqO (PySem.W.ks_superIn K C C "__init__") (some (some (.builtin "ValueError.__init__"))) && (decide (PySem.W.mroIn K C (.ref C) = some true) &&
  (decide (PySem.W.subIn K (.ref C) (.type "ValueError") = some true) && (He.eqO (PySem.W.nsIn K cStatics "thirdparty.any") (some none) && clsXB K C))))))))))))))
def initX (C f qual : Str) (st : Stmt) : FnX := ⟨fun K => He.fAd K (C, some "__init__"), "__init__", qual, defArgs st, defBody st, defScope st, ["__class__"]⟩
theorem xtxt_of {prog : Program} {K : PySem.W.Frag} {mg : Str → Option Value} {nm f pre qual : Str} {st : Stmt} (gC : mg nm = some (.ref (He.ga K nm))) (gs : mg "super" = none) (tp : (prog.main.scope.names.lookup ("super" : Str)).isSome = false)
    (hb : xsB K (He.ga K nm) (He.fAd K (nm, some "__init__")) f = true) (hc : cellB K (He.fAd K (nm, some "__init__")) (He.ga K nm) prog.main.file qual = true) (hx : fxObs K ((initX nm f qual st).at_ K) = (initX nm f qual st).val)
    (ht : ∃ p1 p2 q1 q2 q3 q4 q5 q6 q7 q8 q9 r1 r2 r3 r4, defArgs st = xArgs f p1 p2 ∧ defBody st = xBody f pre q1 q2 q3 q4 q5 q6 q7 q8 q9 r1 r2 r3 r4 ∧ defScope st = xScope f ∧ (q3.endLine == q8.line) = true) :
    XTxt prog K mg nm f pre (He.ga K nm) (He.fAd K (nm, some "__init__")) := by
  unfold xsB at hb
  simp only [Bool.and_eq_true, decide_eq_true_eq] at hb
  obtain ⟨h1, h2, h3, h4, h5, h6, h7, h8, h9, h10, h11, h12, h13, h14, h15, h16⟩ := hb
  refine ⟨gC, clsXB_ok h16, He.eqO_ok h1, He.eqO_ok h2, He.eqO_ok h3, He.eqO_ok h4, He.eqO_ok h5, h6, h7, h8, h9, h10, h11, He.eqO_ok h12, h13, h14, He.eqO_ok h15, gs, tp, ?_⟩
  obtain ⟨p1, p2, q1, q2, q3, q4, q5, q6, q7, q8, q9, r1, r2, r3, r4, e1, e2, e3, e4⟩ := ht
  obtain ⟨oc, od, osl, doc, pm, an, cdv, ct, cl, lk, hcl⟩ := fx_ok hx
  obtain ⟨cda, ccl, cdd, vs, ccs, file, tf, cl', cld, csl, k1, k2, k3, k4, k5, k6⟩ := cellB_ok hc
  have lk : K.lookup (He.fAd K (nm, some "__init__")) = some ⟨oc, od, .func (PySem.W.fnX "__init__" qual (defArgs st) (defBody st) (defScope st) cl .none .none doc pm an cdv ct), osl⟩ := lk
  have hcl : cl.map (·.1) = [("__class__" : Str)] := hcl
  have ecd : cdAt K (He.fAd K (nm, some "__init__")) = cdv := by unfold cdAt; rw [lk]
  rw [ecd] at k1
  subst k1
  cases cl with
  | nil => cases hcl
  | cons c r =>
    obtain ⟨cn, cc⟩ := c
    cases r with
    | cons a b => simp at hcl
    | nil =>
      have : cn = "__class__" := by simpa using hcl
      subst this
      have ecc : ccAt K (He.fAd K (nm, some "__init__")) = cc := by unfold ccAt; rw [lk]
      rw [ecc] at k6
      rw [e1, e2, e3] at lk
      exact ⟨qual, oc, ccl, cl', od, cdd, cld, doc, pm, an, cda, cc, ct, osl, ccs, csl, vs, file, tf, p1, p2, q1, q2, q3, q4, q5, q6, q7, q8, q9, r1, r2, r3, r4, lk, k2, k3, k4, k5, k6, e4⟩
end Ct
set_option Elab.async false
set_option maxRecDepth 100000
set_option maxHeartbeats 4000000
/-! The Hook; the text's facts from it. -/
namespace Ct
open PySem PySem.Spec PyProof.Rows L2
/-! ### the own class -/
def kinds7 : List Value := [.type "NoneType", .type "bool", .type "int", .type "str", .type "tuple", .type "list", .type "dict"]
def tags6 : List Value := [.type "int", .type "bool", .type "str", .type "tuple", .type "list", .type "dict"]
def isoB (K : PySem.W.Frag) (C : Addr) : Bool :=
  He.eqO (PySem.W.findIn K (.ref C) "__class__") (some (some (.builtin "object.__class__"))) && (He.eqO (PySem.W.specialIn K (.builtin "object.__class__") "__get__") (some (some (.builtin "getset_descriptor.__get__"))) &&
  (decide (PySem.W.takesIn K (.builtin "object.__class__") = some true) && (decide (PySem.W.mroIn K C (.type "object") = some true) && (He.eqO (PySem.W.findIn K (.ref C) "__ne__") (some (some (.builtin "object.__ne__"))) && ((tags6.all fun t => decide (PySem.W.kitOne K (.ref C) t = some false)) && (kinds7.all fun t => decide (PySem.W.kitOne K t (.ref C) = some false)))))))
theorem iso_of {W : Wd} {c : Nat} (hb : isoB W.K (W.cls c) = true) (hc : Cls W.K (W.cls c)) : IsO W c := by
  unfold isoB at hb
  simp only [Bool.and_eq_true, decide_eq_true_eq, List.all_eq_true] at hb
  obtain ⟨h1, h2, h3, h4, h7, h5, h6⟩ := hb
  refine ⟨hc, He.eqO_ok h1, He.eqO_ok h2, h3, h4, He.eqO_ok h7, fun T hT => ?_, fun K hK => ?_⟩
  · cases T <;> first | exact absurd rfl (hT _) | exact h5 _ (by simp [tags6, tgV])
  · cases K <;> first | exact absurd rfl (hK _) | exact h6 _ (by simp [kinds7, kdV])
def dtB (K : PySem.W.Frag) (c : Nat) : Bool := match K.lookup (He.dflAt (clsName c, some "__init__") 0 K) with
  | some o => decide (o.cls = .type "tuple") && (match o.data with | .seq its _ => decide (its = #[]) | _ => false)
  | none => false
theorem dt_of {K : PySem.W.Frag} {c : Nat} (h : dtB K c = true) : ∃ (o : Obj) (n : Nat), K.lookup (He.dflAt (clsName c, some "__init__") 0 K) = some o ∧ o.cls = .type "tuple" ∧ o.data = .seq #[] n := by
  unfold dtB at h
  split at h
  · rename_i o e
    rw [Bool.and_eq_true, decide_eq_true_eq] at h
    obtain ⟨h1, h2⟩ := h
    split at h2
    · rename_i its n ed
      have := of_decide_eq_true h2
      subst this
      exact ⟨o, n, e, h1, ed⟩
    · cases h2
  · cases h
/-! ### the two exceptions as they are heard -/
def exccB (K : PySem.W.Frag) (D : Addr) : Bool :=
  He.eqO (PySem.W.findIn K (.ref D) "__getattribute__") (some (some (.builtin "BaseException.__getattribute__"))) && (He.eqO (PySem.W.findIn K (.ref D) "__getattr__") (some none) && (decide (PySem.W.subIn K (.ref D) (.type "BaseException") = some true) && (PySem.W.hasDictIn K D &&
  (He.eqO (PySem.W.findIn K (.ref D) "__class__") (some (some (.builtin "object.__class__"))) && (He.eqO (PySem.W.specialIn K (.builtin "object.__class__") "__get__") (some (some (.builtin "getset_descriptor.__get__"))) && (decide (PySem.W.takesIn K (.builtin "object.__class__") = some true) && decide (PySem.W.mroIn K D (.type "object") = some true)))))))
theorem excc_of {K : PySem.W.Frag} {D : Addr} (h : exccB K D = true) : ExcC K D := by
  unfold exccB at h
  simp only [Bool.and_eq_true, decide_eq_true_eq] at h
  obtain ⟨h1, h2, h3, h4, h5, h6, h7, h8⟩ := h
  exact ⟨He.eqO_ok h1, He.eqO_ok h2, h3, h4, He.eqO_ok h5, He.eqO_ok h6, h7, h8⟩
theorem xfc_of {K : PySem.W.Frag} {D : Addr} (h : ExcC K D) : XfC K D := ⟨h.hg, h.hk, h.hs, h.hd⟩
def hearB (K : PySem.W.Frag) (B N C : Addr) : Bool :=
  exccB K B && (exccB K N && (He.eqO (PySem.W.findIn K (.ref B) "name") (some none) && (He.eqO (PySem.W.findIn K (.ref N) "ring") (some none) &&
  (decide (PySem.W.exmOne K (.ref B) (.ref B) = some true) && (decide (PySem.W.exmOne K (.ref N) (.ref B) = some false) && (decide (PySem.W.exmOne K (.ref N) (.ref N) = some true) &&
  (decide (PySem.W.kitOne K (.ref B) (.ref N) = some false) && (decide (PySem.W.kitOne K (.ref B) (.ref C) = some true) && (decide (PySem.W.kitOne K (.ref B) (.type "ValueError") = some true) && (decide (PySem.W.kitOne K (.ref N) (.ref C) = some true) && decide (PySem.W.kitOne K (.ref N) (.type "ValueError") = some true)))))))))))
theorem hear_of {K : PySem.W.Frag} {mg : Str → Option Value} {B N C : Addr} (h : hearB K B N C = true) (gB : mg "BadArgument" = some (.ref B)) (gN : mg "NoPlan" = some (.ref N)) (gC : mg "CaveError" = some (.ref C)) (gV : mg "ValueError" = none) (gI : mg "isinstance" = none) : HearTxt K mg B N C := by
  unfold hearB at h
  simp only [Bool.and_eq_true, decide_eq_true_eq] at h
  obtain ⟨h1, h2, h3, h4, h5, h6, h7, h8, h9, h10, h11, h12⟩ := h
  exact ⟨gB, gN, gC, gV, gI, excc_of h1, excc_of h2, xfc_of (excc_of h1), xfc_of (excc_of h2), He.eqO_ok h3, He.eqO_ok h4, h5, h6, h7, h8, h9, h10, h11, h12⟩
def heardX (st : Stmt) : FnX := ⟨fun K => He.ga K "_law_heard", "_law_heard", "_law_heard", defArgs st, defBody st, defScope st, []⟩
theorem hearFn_of {K : PySem.W.Frag} {mg : Str → Option Value} {st : Stmt} (hx : fxObs K (He.ga K "_law_heard") = (heardX st).val) (gH : mg "_law_heard" = some (.ref (He.ga K "_law_heard"))) (kH : PySem.W.keepIn K (.ref (He.ga K "_law_heard")) = true)
    (hc : PySem.W.codeIn K (cdAt K (He.ga K "_law_heard")) "_law_heard" = true)
    (hbd : ∀ doc pm an cdv ct, Binds K (PySem.W.fnOf "_law_heard" "_law_heard" (defArgs st) (defBody st) (defScope st) .none .none doc pm an cdv ct) ["ask"] []) (Sc : FnScope ["ask", "e"] ["ask"] (defScope st))
    (hn : (defScope st).names = [(PySem.Str.ofString "ask", .local), (PySem.Str.ofString "e", .local), (PySem.Str.ofString "BadArgument", .globalImplicit), (PySem.Str.ofString "isinstance", .globalImplicit), (PySem.Str.ofString "NoPlan", .globalImplicit), (PySem.Str.ofString "CaveError", .globalImplicit), (PySem.Str.ofString "ValueError", .globalImplicit)])
    (hs : ∃ (b1 b2 b3 b4 b5 h1 h2 i1 i2 i3 i4 i5 i6 i7 i8 n1 n2 z1 z2 : Pos) (k1 k2 k3 k4 : Nat) (p1 p2 p3 p4 p5 p6 p7 p8 p9 r1 r2 r3 r4 r5 p1' p2' p3' p4' p5' p6' p7' p8' p9' r1' r2' r3' r4' r5' : Pos), defBody st =
      hearBody b1 b2 b3 b4 b5 h1 h2 i1 i2 i3 i4 i5 i6 i7 i8 (told "bad" "name" k3 p1 p2 p3 p4 p5 p6 p7 p8 p9 r1 r2 r3 r4 r5) (told "no plan" "ring" k4 p1' p2' p3' p4' p5' p6' p7' p8' p9' r1' r2' r3' r4' r5') (told "" "" 0 b1 b1 b1 b1 b1 b1 b1 b1 b1 b1 b1 b1 b1 b1) n1 n2 z1 z2 k1 k2) :
    HearFn K mg (He.ga K "_law_heard") := by
  obtain ⟨oc, od, osl, doc, pm, an, cdv, ct, cl, lk, hcl⟩ := fx_ok (d := heardX st) hx
  have hcl : cl.map (·.1) = ([] : List Str) := hcl
  obtain rfl : cl = [] := by cases cl with
    | nil => rfl
    | cons a r => cases hcl
  have lk : K.lookup (He.ga K "_law_heard") = some ⟨oc, od, .func (PySem.W.fnOf "_law_heard" "_law_heard" (defArgs st) (defBody st) (defScope st) .none .none doc pm an cdv ct), osl⟩ := lk
  have ecd : cdAt K (He.ga K "_law_heard") = cdv := by unfold cdAt; rw [lk]
  rw [ecd] at hc
  have hb := hbd doc pm an cdv ct
  obtain ⟨b1, b2, b3, b4, b5, h1, h2, i1, i2, i3, i4, i5, i6, i7, i8, n1, n2, z1, z2, k1, k2, k3, k4, p1, p2, p3, p4, p5, p6, p7, p8, p9, r1, r2, r3, r4, r5, p1', p2', p3', p4', p5', p6', p7', p8', p9', r1', r2', r3', r4', r5', e⟩ := hs
  rw [e] at lk hb
  exact ⟨gH, kH, oc, doc, pm, cdv, ct, an, od, osl, defArgs st, defScope st, b1, b2, b3, b4, b5, h1, h2, i1, i2, i3, i4, i5, i6, i7, i8, n1, n2, z1, z2, k1, k2, k3, k4, p1, p2, p3, p4, p5, p6, p7, p8, p9, r1, r2, r3, r4, r5, p1', p2', p3', p4', p5', p6', p7', p8', p9', r1', r2', r3', r4', r5', lk, hc, hb, Sc, hn⟩
/-! ### properties -/
def gtA (K : PySem.W.Frag) (p : Addr) : Addr := match PySem.W.recIn K p "property" with
  | some (.ref g :: _) => g
  | _ => 0
def getAt (c : Nat) (pn : Str) (K : PySem.W.Frag) : Addr := gtA K (He.fAd K (clsName c, some pn))
def getX (c : Nat) (pn qual : Str) (st : Stmt) : FnX := ⟨getAt c pn, pn, qual, defArgs st, defBody st, defScope st, []⟩
def propB (K : PySem.W.Frag) (c : Nat) (pn f qual : Str) : Bool :=
  He.eqO (PySem.W.findIn K (.ref (He.ga K (clsName c))) pn) (some (some (.ref (He.fAd K (clsName c, some pn))))) && (He.eqO (PySem.W.specialIn K (.ref (He.fAd K (clsName c, some pn))) "__get__") (some (some (.builtin "property.__get__"))) && (decide (PySem.W.takesIn K (.ref (He.fAd K (clsName c, some pn))) = some true) &&
  ((match PySem.W.recIn K (He.fAd K (clsName c, some pn)) "property" with | some (.ref _ :: _) => true | _ => false) && (He.eqO (PySem.W.findIn K (.ref (He.ga K (clsName c))) f) (some none) && PySem.W.codeIn K (cdAt K (getAt c pn K)) qual))))
theorem prop_of {P : Program} {w : World} {W : Wd} {mg : Str → Option Value} {base : Heap} {c : Nat} {pn f qual : Str} {st : Stmt} (hcls : W.cls c = He.ga W.K (clsName c)) (hb : propB W.K c pn f qual = true) (hx : fxObs W.K (getAt c pn W.K) = (getX c pn qual st).val) (cl : Cls W.K (W.cls c))
    (Sc : FnScope ["self"] ["self"] (defScope st)) (hs : ∃ p1 p2 p3, defBody st = [.Return (some (.Attribute (.Name "self" p1) f p2)) p3])
    (hbd : ∀ doc pm an cdv ct, Binds W.K (PySem.W.fnOf pn qual (defArgs st) (defBody st) (defScope st) .none .none doc pm an cdv ct) ["self"] []) : GProp P w W mg base c pn f := by
  unfold propB at hb
  simp only [Bool.and_eq_true, decide_eq_true_eq] at hb
  obtain ⟨h1, h2, h3, h4, h5, h6⟩ := hb
  obtain ⟨oc, od, osl, doc, pm, an, cdv, ct, cll, lk, hcl⟩ := fx_ok (d := getX c pn qual st) hx
  have hcl : cll.map (·.1) = ([] : List Str) := hcl
  obtain rfl : cll = [] := by cases cll with
    | nil => rfl
    | cons a r => cases hcl
  have lk : W.K.lookup (getAt c pn W.K) = some ⟨oc, od, .func (PySem.W.fnOf pn qual (defArgs st) (defBody st) (defScope st) .none .none doc pm an cdv ct), osl⟩ := lk
  have ecd : cdAt W.K (getAt c pn W.K) = cdv := by unfold cdAt; rw [lk]
  rw [ecd] at h6
  obtain ⟨p1, p2, p3, e⟩ := hs
  have hrec : ∃ rest, PySem.W.recIn W.K (He.fAd W.K (clsName c, some pn)) "property" = some (.ref (getAt c pn W.K) :: rest) := by
    unfold getAt gtA
    split at h4
    · rename_i g r e
      exact ⟨r, by rw [e]⟩
    · cases h4
  refine ⟨_, _, _, ⟨by rw [hcls]; exact He.eqO_ok h1, He.eqO_ok h2, h3, hrec⟩, ?_, hbd doc pm an cdv ct⟩
  exact fn_getter (k := 0) lk h6 Sc rfl e cl (by rw [hcls]; exact He.eqO_ok h5)
end Ct
set_option Elab.async false
set_option maxRecDepth 100000
set_option maxHeartbeats 4000000
/-! The Hook, the text's facts from it, the law's end. -/
namespace Ct
open PySem PySem.Spec PyProof.Rows L2
structure Lay where
  fa : List He.Fa
  fn : List He.DefD
  gens : List (He.Defn × Str)
  lams : List (He.Defn × Str)
  props : List (Str × Str)
  c0 : Nat
  file : Str
  sH : Stmt
  sB : Stmt
  sN : Stmt
  gets : List (Str × Str × Str × Stmt)
def faBase (c0 : Nat) : List He.Fa := [.glo "CaveError", .glo "BadArgument", .glo "NoPlan", .glo "_law_heard", .free "ValueError", .free "isinstance", .free "super", .cls (clsName c0), .keep "_law_heard"]
section
variable (L : Lay)
def faAll : List He.Fa := faBase L.c0 ++ L.fa
def tfAll : List He.Defn := (L.gens ++ L.lams).map (·.1)
def xsAll : List FnX := heardX L.sH :: initX "BadArgument" "name" "BadArgument.__init__" L.sB :: initX "NoPlan" "ring" "NoPlan.__init__" L.sN :: L.gets.map fun g => getX L.c0 g.1 g.2.2.1 g.2.2.2
def exB (K : PySem.W.Frag) : Bool :=
  isoB K (He.ga K (clsName L.c0)) && (hearB K (He.ga K "BadArgument") (He.ga K "NoPlan") (He.ga K "CaveError") && (xsB K (He.ga K "BadArgument") (He.fAd K ("BadArgument", some "__init__")) "name" && (cellB K (He.fAd K ("BadArgument", some "__init__")) (He.ga K "BadArgument") L.file "BadArgument.__init__" &&
  (xsB K (He.ga K "NoPlan") (He.fAd K ("NoPlan", some "__init__")) "ring" && (cellB K (He.fAd K ("NoPlan", some "__init__")) (He.ga K "NoPlan") L.file "NoPlan.__init__" && (PySem.W.codeIn K (cdAt K (He.ga K "_law_heard")) "_law_heard" &&
  ((L.gets.all fun g => propB K L.c0 g.1 g.2.1 g.2.2.1) && (decide (((tfAll L).map fun p => (He.cT K p).2).Nodup) && dtB K L.c0))))))))
abbrev AlC : Type := He.AlX × List FxV
/-- what is looked at: what the module's names reach, the statics -/
def asC (g : Addr → Option Obj) (n : Nat) : List Addr := cStatics :: He.asD g n
def obsY (K : PySem.W.Frag) (g : Addr → Option Obj) : AlC := ((He.obsT (faAll L) L.fn [] K, exB L K && He.tabsB g (tfAll L) K), (xsAll L).map fun d => fxObs K (d.at_ K))
def obsC (n : Nat) (g : Addr → Option Obj) : AlC := obsY L (He.frT g (asC g n)) g
def valC (w : World) : AlC := (He.valX L.fn [] w, (xsAll L).map FnX.val)
structure SaysC (w : World) (h : Heap) (K : PySem.W.Frag) : Prop where
  x : He.SaysX (faAll L) L.fn [] (tfAll L) (exB L) w h K
  fx : ∀ d ∈ xsAll L, fxObs K (d.at_ K) = d.val
theorem map_all {α β : Type} {f g : α → β} : ∀ {l : List α}, l.map f = l.map g → ∀ d ∈ l, f d = g d
  | [], _, d, h => by cases h
  | a :: r, e, d, h => by
    have e : f a :: r.map f = g a :: r.map g := e
    injection e with e1 e2
    rcases List.mem_cons.mp h with h | h
    · rw [h]; exact e1
    · exact map_all e2 d h
theorem saysC_of {n : Nat} {w : World} {h : Heap} (e : obsC L n h.get? = valC L w) : SaysC L w h (He.frT h.get? (asC h.get? n)) := by
  have e0 : ((He.obsT (faAll L) L.fn [] (He.frT h.get? (asC h.get? n)), exB L (He.frT h.get? (asC h.get? n)) && He.tabsB h.get? (tfAll L) (He.frT h.get? (asC h.get? n))) : He.AlX) = He.valX L.fn [] w := congrArg (fun z : AlC => z.1) e
  have e1 : He.obsT (faAll L) L.fn [] (He.frT h.get? (asC h.get? n)) = He.valT L.fn [] w := congrArg (fun z : He.AlX => z.1) e0
  have e2 : (exB L (He.frT h.get? (asC h.get? n)) && He.tabsB h.get? (tfAll L) (He.frT h.get? (asC h.get? n))) = true := congrArg (fun z : He.AlX => z.2) e0
  obtain ⟨h1, h2⟩ := Bool.and_eq_true_iff.mp e2
  have key : ∀ p ∈ tfAll L, PySem.W.codeHdIn (He.frT h.get? (asC h.get? n)) (He.cT (He.frT h.get? (asC h.get? n)) p).1 (He.cT (He.frT h.get? (asC h.get? n)) p).2 = true ∧ ∃ o, h.get? (He.cT (He.frT h.get? (asC h.get? n)) p).2 = some o ∧ He.emptyTab o = true := fun p hp => by
    obtain ⟨h3, h4⟩ := Bool.and_eq_true_iff.mp (List.all_eq_true.mp h2 p hp)
    refine ⟨h3, ?_⟩
    cases q : h.get? (He.cT (He.frT h.get? (asC h.get? n)) p).2 with
    | none => rw [q] at h4; cases h4
    | some o => rw [q] at h4; exact ⟨o, rfl, h4⟩
  exact ⟨⟨e1, h1, fun p hp => (key p hp).1, fun p hp => by
    obtain ⟨_, o, q, z⟩ := key p hp
    exact He.frT_none q z, fun p hp => by
    obtain ⟨_, o, q, z⟩ := key p hp
    rw [q, He.emptyTab_eq z]⟩, map_all (congrArg (fun z : AlC => z.2) e)⟩
def hookC (n : Nat) : PySem.W.Hook where
  α := AlC
  obs := fun s => obsC L n s.heap.get?
  val := fun w => valC L w
  says := fun w h => ∃ K : PySem.W.Frag, K.In h ∧ SaysC L w h K
  of := fun _ _ e => ⟨_, He.frT_in, saysC_of L e⟩
  keeps := fun _ _ _ ⟨K, hK, c⟩ k => ⟨K, PySem.W.Frag.In.keeps hK k, ⟨⟨c.x.t, c.x.more, c.x.hd, c.x.out, fun p hp => k _ _ (c.x.empty p hp)⟩, c.fx⟩⟩
theorem obsC_eq {n : Nat} {g : Addr → Option Obj} {s : Shared} (h : ∀ a, g a = s.heap.get? a) : obsC L n g = (hookC L n).obs s := by
  have e : g = s.heap.get? := funext h
  rw [e] <;> rfl
end
/-- what is seen in the text itself -/
structure LayOk (P : Program) (L : Lay) : Prop where
  file : P.main.file = L.file
  tp : (P.main.scope.names.lookup ("super" : Str)).isSome = false
  hB : ∀ (K : PySem.W.Frag) (doc pm : Value) (an : Option Addr) (cdv ct : Value), Binds K (PySem.W.fnOf "_law_heard" "_law_heard" (defArgs L.sH) (defBody L.sH) (defScope L.sH) .none .none doc pm an cdv ct) ["ask"] []
  hS : FnScope ["ask", "e"] ["ask"] (defScope L.sH)
  hN : (defScope L.sH).names = [(PySem.Str.ofString "ask", .local), (PySem.Str.ofString "e", .local), (PySem.Str.ofString "BadArgument", .globalImplicit), (PySem.Str.ofString "isinstance", .globalImplicit), (PySem.Str.ofString "NoPlan", .globalImplicit), (PySem.Str.ofString "CaveError", .globalImplicit), (PySem.Str.ofString "ValueError", .globalImplicit)]
  hT : ∃ (b1 b2 b3 b4 b5 h1 h2 i1 i2 i3 i4 i5 i6 i7 i8 n1 n2 z1 z2 : Pos) (k1 k2 k3 k4 : Nat) (p1 p2 p3 p4 p5 p6 p7 p8 p9 r1 r2 r3 r4 r5 p1' p2' p3' p4' p5' p6' p7' p8' p9' r1' r2' r3' r4' r5' : Pos), defBody L.sH =
      hearBody b1 b2 b3 b4 b5 h1 h2 i1 i2 i3 i4 i5 i6 i7 i8 (told "bad" "name" k3 p1 p2 p3 p4 p5 p6 p7 p8 p9 r1 r2 r3 r4 r5) (told "no plan" "ring" k4 p1' p2' p3' p4' p5' p6' p7' p8' p9' r1' r2' r3' r4' r5') (told "" "" 0 b1 b1 b1 b1 b1 b1 b1 b1 b1 b1 b1 b1 b1 b1) n1 n2 z1 z2 k1 k2
  bT : ∃ p1 p2 q1 q2 q3 q4 q5 q6 q7 q8 q9 r1 r2 r3 r4, defArgs L.sB = xArgs "name" p1 p2 ∧ defBody L.sB = xBody "name" "bad argument: " q1 q2 q3 q4 q5 q6 q7 q8 q9 r1 r2 r3 r4 ∧ defScope L.sB = xScope "name" ∧ (q3.endLine == q8.line) = true
  nT : ∃ p1 p2 q1 q2 q3 q4 q5 q6 q7 q8 q9 r1 r2 r3 r4, defArgs L.sN = xArgs "ring" p1 p2 ∧ defBody L.sN = xBody "ring" "no plan: " q1 q2 q3 q4 q5 q6 q7 q8 q9 r1 r2 r3 r4 ∧ defScope L.sN = xScope "ring" ∧ (q3.endLine == q8.line) = true
  gets : ∀ g ∈ L.gets, FnScope ["self"] ["self"] (defScope g.2.2.2) ∧ (∃ p1 p2 p3, defBody g.2.2.2 = [.Return (some (.Attribute (.Name "self" p1) g.2.1 p2)) p3]) ∧
    ∀ (K : PySem.W.Frag) (doc pm : Value) (an : Option Addr) (cdv ct : Value), Binds K (PySem.W.fnOf g.1 g.2.2.1 (defArgs g.2.2.2) (defBody g.2.2.2) (defScope g.2.2.2) .none .none doc pm an cdv ct) ["self"] []
  props : L.props = L.gets.map fun g => (g.1, g.2.1)
def mkW (L : Lay) (K : PySem.W.Frag) : Wd := ⟨K, fun c => He.ga K (clsName c), L.lams.map fun p => ((He.cT K p.1).2, p.2), L.gens.map fun p => (He.cT K p.1).2⟩
theorem nodup_map_inj {α β : Type} {f : α → β} : ∀ {l : List α}, (l.map f).Nodup → ∀ a ∈ l, ∀ b ∈ l, f a = f b → a = b
  | [], _, a, h, _, _, _ => by cases h
  | x :: r, n, a, ha, b, hb, e => by
    have n : (f x :: r.map f).Nodup := n
    obtain ⟨n1, n2⟩ := List.nodup_cons.mp n
    rcases List.mem_cons.mp ha with ha | ha <;> rcases List.mem_cons.mp hb with hb | hb
    · rw [ha, hb]
    · exact absurd (List.mem_map.mpr ⟨b, hb, by rw [← e, ha]⟩) n1
    · exact absurd (List.mem_map.mpr ⟨a, ha, by rw [e, hb]⟩) n1
    · exact nodup_map_inj n2 a ha b hb e
theorem tx_of {P : Program} {w : World} {L : Lay} {K : PySem.W.Frag} {h base : Heap} {mg : Str → Option Value} (O : LayOk P L) (c : SaysC L w h K) (kin : K.In base) (ns : base.Ns mainGlobals mg) (tab : ∀ p ∈ (tfAll L).map (He.cT K), LamX.TabB base mg p.1 p.2) :
    Tx L.fa L.fn L.gens L.lams L.props L.c0 P w (mkW L K) mg base := by
  have d : He.SaysD (faAll L) L.fn K := c.x.t.d
  have fact : ∀ f ∈ faAll L, f.ok K = true := fun f hf => He.SaysD.facts d hf
  have base_ : ∀ {f : He.Fa}, f ∈ faBase L.c0 → f.ok K = true := fun hf => fact _ (List.mem_append_left _ hf)
  have gC := He.glo_ok kin ns (base_ (f := .glo "CaveError") (by simp [faBase]))
  have gB := He.glo_ok kin ns (base_ (f := .glo "BadArgument") (by simp [faBase]))
  have gN := He.glo_ok kin ns (base_ (f := .glo "NoPlan") (by simp [faBase]))
  have gH := He.glo_ok kin ns (base_ (f := .glo "_law_heard") (by simp [faBase]))
  have fV := He.free_ok kin ns (base_ (f := .free "ValueError") (by simp [faBase]))
  have fI := He.free_ok kin ns (base_ (f := .free "isinstance") (by simp [faBase]))
  have fS := He.free_ok kin ns (base_ (f := .free "super") (by simp [faBase]))
  have cl : Cls K (He.ga K (clsName L.c0)) := He.cls_ok (base_ (f := .cls (clsName L.c0)) (by simp [faBase]))
  have kH := He.keep_ok (base_ (f := .keep "_law_heard") (by simp [faBase]))
  have ex := c.x.more
  unfold exB at ex
  simp only [Bool.and_eq_true, decide_eq_true_eq, List.all_eq_true] at ex
  obtain ⟨e1, e2, e3, e4, e5, e6, e7, e8, e9, e10⟩ := ex
  have nd : ((L.gens ++ L.lams).map fun p => (He.cT K p.1).2).Nodup := by
    have : (tfAll L).map (fun p => (He.cT K p).2) = (L.gens ++ L.lams).map fun p => (He.cT K p.1).2 := by unfold tfAll; rw [List.map_map]; rfl
    rw [← this]; exact e9
  have inj := nodup_map_inj nd
  have gl : ∀ p ∈ L.gens, ∀ q ∈ L.lams, (He.cT K p.1).2 ≠ (He.cT K q.1).2 := by
    rw [List.map_append] at nd
    have := (List.nodup_append.mp nd).2.2
    exact fun p hp q hq => this _ (List.mem_map.mpr ⟨p, hp, rfl⟩) _ (List.mem_map.mpr ⟨q, hq, rfl⟩)
  have tabM : ∀ p ∈ L.gens ++ L.lams, LamX.TabB base mg (He.cT K p.1).1 (He.cT K p.1).2 := fun p hp => tab _ (List.mem_map.mpr ⟨p.1, List.mem_map.mpr ⟨p, hp, rfl⟩, rfl⟩)
  refine ⟨kin, ns, fun i f hf => fact f (List.mem_append_right _ (List.mem_of_getElem? hf)), fun i dd hd => He.SaysD.defs d (List.mem_of_getElem? hd), fun p hp => ?_, fun p hp => List.mem_map.mpr ⟨p, hp, rfl⟩, fun p hp q hq => ?_, fun p hp => tabM p (List.mem_append_right _ hp), fun p hp => List.mem_map.mpr ⟨p, hp, rfl⟩,
    fun p hp q hq e => ?_, fun p hp hq => ?_, fun _ => rfl, fun q hq => ?_, iso_of e1 cl, ⟨_, xtxt_of (qual := "BadArgument.__init__") (st := L.sB) gB fS O.tp e3 (by rw [O.file]; exact e4) (c.fx _ (by simp [xsAll])) O.bT⟩, ⟨_, xtxt_of (qual := "NoPlan.__init__") (st := L.sN) gN fS O.tp e5 (by rw [O.file]; exact e6) (c.fx _ (by simp [xsAll])) O.nT⟩,
    hear_of e2 gB gN gC fV fI, hearFn_of (st := L.sH) (c.fx (heardX L.sH) (by simp [xsAll])) gH kH e7 (O.hB K) O.hS O.hN O.hT, dt_of e10⟩
  · have t := tabM p (List.mem_append_left _ hp)
    exact ⟨t.code, t.bm, t.gP⟩
  · obtain ⟨z, hz, rfl⟩ := List.mem_map.mp hq
    exact Ne.symm (gl p hp z hz)
  · obtain ⟨z, hz, rfl⟩ := List.mem_map.mp hq
    rw [inj z (List.mem_append_right _ hz) p (List.mem_append_right _ hp) e]
  · obtain ⟨z, hz, e⟩ := List.mem_map.mp hq
    exact gl z hz p hp e
  · rw [O.props] at hq
    obtain ⟨g, hg, rfl⟩ := List.mem_map.mp hq
    obtain ⟨o1, o2, o3⟩ := O.gets g hg
    exact prop_of (W := mkW L K) (qual := g.2.2.1) (st := g.2.2.2) rfl (e8 g hg) (c.fx (getX L.c0 g.1 g.2.2.1 g.2.2.2) (by simp [xsAll]; exact .inr (.inr (.inr ⟨_, _, _, _, hg, rfl⟩)))) cl o1 o2 (o3 K)
end Ct
set_option Elab.async false
set_option maxRecDepth 100000
set_option maxHeartbeats 4000000
/-! The law's end. -/
namespace Ct
open PySem PySem.Spec PyProof.Rows L2
theorem good_fd {P : Program} {w : World} {W : Wd} {mg : Str → Option Value} {base : Heap} {p : He.Defn} {name qual : Str} {params : Arguments} {body : List Stmt} {scope : Scope} {dvs : List V} {kws : List (Str × V)} {N ps : List Str} {k : Nat} {m : SM} {fd : FuncData}
    (F : FunD W.K name qual params body scope dvs kws (He.fAd W.K p) fd) (Sc : FnScope N ps scope)
    (hb : ∀ (A : Around) (outer : List Env) (s' : Shared) (H : Hp) (E : XK), Room k (A.deeper (envOfC qual scope s'.heap.objs.size (He.fAd W.K p) (.ref (He.codeOf W.K p)))) →
      JSs W E (cxOf (L2.CX P w) P w W.K mg base N qual scope (He.fAd W.K p) (.ref (He.codeOf W.K p)) A outer s' H E) body m) :
    FnOk P w W.K mg base (L2.CX P w) (k + 1) (He.fAd W.K p) fd ps (spF W ps.length (runB N.length m)) := by
  obtain ⟨oc, od, dV, kV, doc, pm, an, cdv, ct, osl, rfl, lk, hcd, _, _⟩ := F.ex
  obtain ⟨c, rfl⟩ := He.codeIn_ref hcd
  have ec : He.codeOf W.K p = c := He.codeOf_eq lk rfl
  subst ec
  have hpl : ps.length ≤ N.length := by have := congrArg List.length Sc.pre; rw [List.length_take] at this; omega
  exact fn_of lk hcd Sc (fun vs H Q E h => h.1) fun A outer s H vs Q E hr h => ⟨_, hb A outer s H E hr, body_read h hpl⟩
theorem relv_ints {W : Wd} {H : Hp} : ∀ ns : List Int, RepL W (fun _ => False) H (ns.map V.int) (ns.map D.int)
  | [] => .nil
  | n :: ns => .cons (.int n) (relv_ints ns)
theorem law_end {l : PySem.W.OpenLaw} {L : Lay} {w : World} {h : Heap} {mg : Str → Option Value} {fa : Addr} {st : Stmt} {Flaw : FM} {k i n m : Nat} (O : LayOk l.prog L) (hd : L.fn[i]? = some ⟨("law", none), "law", "law", defArgs st, defBody st, defScope st, [], []⟩) (hg : .glo "law" ∈ L.fa)
    (hb : ∀ (kV doc pm : Value) (an : Option Addr) (cdv ct : Value) (us : List Value), us.length = (["script"] : List Str).length → bindArgs (PySem.W.fnOf "law" "law" (defArgs st) (defBody st) (defScope st) .none kV doc pm an cdv ct) ⟨us, []⟩ = pure ((["script"] : List Str).zip us))
    (hok : ∀ (K : PySem.W.Frag) (base : Heap) (fd : FuncData), Tx L.fa L.fn L.gens L.lams L.props L.c0 l.prog w (mkW L K) mg base → FunD K "law" "law" (defArgs st) (defBody st) (defScope st) [] [] (He.fAd K ("law", none)) fd →
      FnOk l.prog w K mg base (L2.CX l.prog w) k (He.fAd K ("law", none)) fd ["script"] (spF (mkW L K) 1 Flaw))
    (hpure : ∀ ns : List Int, ns.length ≤ m → (∀ z ∈ ns, Builtin.Int.intBits z ≤ 1048576) → ∀ s : D, s = .lst (ns.map D.int) ∨ s = .frz (ns.map D.int) → ∃ st', Flaw [.d s] [] = .ok (.d (.bl true)) st')
    (Y : (hookC L n).says w h) (G : h.Ns mainGlobals mg) (hfa : mg ("law" : Str) = some (.ref fa)) : ∃ K : PySem.W.Frag, K.In h ∧ LamX.LawAtS l w K (L2.CX l.prog w) k m "script" mg fa h := by
  obtain ⟨K, KX, c⟩ := Y
  have d : He.SaysD (faAll L) L.fn K := c.x.t.d
  have efa : fa = He.ga K "law" := by
    have := hfa.symm.trans (He.glo_ok KX G (He.SaysD.facts d (f := .glo "law") (List.mem_append_right _ hg)))
    cases this
    rfl
  obtain ⟨fd, F⟩ := He.SaysD.defs d (List.mem_of_getElem? hd)
  refine ⟨K, KX, fd, (tfAll L).map (He.cT K), spF (mkW L K) 1 Flaw, fun p hp => ?_, fun p hp => ?_, fun p hp => ?_, ?_, ?_, ?_⟩
  · obtain ⟨q, hq, rfl⟩ := List.mem_map.mp hp
    exact c.x.empty q hq
  · obtain ⟨q, hq, rfl⟩ := List.mem_map.mp hp
    exact c.x.out q hq
  · obtain ⟨q, hq, rfl⟩ := List.mem_map.mp hp
    exact PySem.W.codeHd_of_K KX (c.x.hd q hq)
  · intro s u
    exact FunD.bindsA (ps := ["script"]) F hb s [u] rfl
  · intro H a ns hl hbits hT hS
    have tabs : TabsOk (mkW L K) H := by
      refine ⟨fun p hp => ?_, fun P hP => ?_⟩
      · obtain ⟨z, hz, rfl⟩ := List.mem_map.mp hp
        refine ⟨#[], hT _ (List.mem_map.mpr ⟨z.1, List.mem_map.mpr ⟨z, List.mem_append_right _ hz, rfl⟩, rfl⟩), ?_, fun pos cv e => ?_⟩
        · unfold TriplesOk; trivial
        · cases e
      · obtain ⟨z, hz, rfl⟩ := List.mem_map.mp hP
        refine ⟨#[], hT _ (List.mem_map.mpr ⟨z.1, List.mem_map.mpr ⟨z, List.mem_append_left _ hz, rfl⟩, rfl⟩), ?_⟩
        unfold TriplesOk; trivial
    have rel : Rel (mkW L K) (fun _ => False) [] [] H := ⟨rfl, List.nodup_nil, by simp, fun a z => z.elim, fun n c e => by simp at e, tabs⟩
    have key : ∀ s : D, RepD (mkW L K) (fun _ => False) H (.ref a) s → (s = .lst (ns.map D.int) ∨ s = .frz (ns.map D.int)) → spF (mkW L K) 1 Flaw [.ref a] H (fun v _ => v = .bl true) fun _ _ _ => False := by
      intro s hs e
      obtain ⟨st', q⟩ := hpure ns hl hbits s e
      refine ⟨rfl, fun _ => False, [], [.d s], [], rel, .cons hs .nil, ?_⟩
      rw [q]
      intro v S' l' H' x r p
      cases p
      rfl
    rcases hS with (hS | ⟨o, hS⟩) | hS
    · exact key (.lst (ns.map D.int)) (.lst hS (fun z => z) (relv_ints ns)) (.inl rfl)
    · exact key (.frz (ns.map D.int)) (.frz (.inl ⟨o, hS⟩) (relv_ints ns)) (.inr rfl)
    · exact key (.frz (ns.map D.int)) (.frz (.inr hS) (relv_ints ns)) (.inr rfl)
  · intro base kin ns tab
    rw [efa]
    exact hok K base fd (tx_of O c kin ns tab) F
theorem cx_no {P : Program} {w : World} {H : Hp} {s : Shared} {e : Value} {s' : Shared} (h : L2.CX P w [] H s (fun _ _ _ => False) e s') : False := by
  obtain ⟨a, B, H', cls, d, _, _, _, _, _, _, _, z⟩ := h
  exact z
end Ct
set_option Elab.async false
set_option maxRecDepth 100000
set_option maxHeartbeats 4000000
/-! Defaults that fill up; methods by their promises. -/
namespace Ct
open PySem PySem.Spec PyProof.Rows L2
/-- the def at f keeps the promise of F, its last parameters filled up by dds -/
structure GoodD (P : Program) (w : World) (W : Wd) (mg : Str → Option Value) (base : Heap) (k : Nat) (f : Addr) (ps : List Str) (dds : List D) (F : FM) : Prop where
  ex : ∃ fd dvs ds, FnOk P w W.K mg base (L2.CX P w) k f fd ps (spF W ps.length F) ∧ Binds W.K fd ps ds ∧ Vals dvs ds ∧ ∀ S H, RepL W S H dvs dds
  kp : PySem.W.keepIn W.K (.ref f) = true
section
variable {P : Program} {w : World} {W : Wd} {mg : Str → Option Value} {base : Heap}
theorem goodD_of {p : He.Defn} {name qual : Str} {params : Arguments} {body : List Stmt} {scope : Scope} {dvs : List V} {N ps : List Str} {k n : Nat} {m : SM} {dds : List Ct.D}
    (D : ∃ fd, FunD W.K name qual params body scope dvs [] (He.fAd W.K p) fd) (Sc : FnScope N ps scope) (hd : dvs ≠ []) (hn : n + dvs.length = ps.length) (hr : ∀ S H, RepL W S H dvs dds)
    (h : ∀ (T : Addr) (kV doc pm : Value) (an : Option Addr) (cdv ct : Value) (us its : List Value), us.length = n → its.length = dvs.length →
      ∃ k, bindArgs (PySem.W.fnOf name qual params body scope (.ref T) kV doc pm an cdv ct) ⟨us, []⟩ = seqItems? (.ref T) >>= k ∧ k (some its.toArray) = pure (ps.zip (us ++ its)))
    (hb : ∀ (A : Around) (outer : List Env) (s' : Shared) (H : Hp) (E : XK), Room k (A.deeper (envOfC qual scope s'.heap.objs.size (He.fAd W.K p) (.ref (He.codeOf W.K p)))) →
      JSs W E (cxOf (L2.CX P w) P w W.K mg base N qual scope (He.fAd W.K p) (.ref (He.codeOf W.K p)) A outer s' H E) body m) :
    GoodD P w W mg base (k + 1) (He.fAd W.K p) ps dds (runB N.length m) := by
  obtain ⟨fd, F⟩ := D
  obtain ⟨ds, q1, q2⟩ := F.binds1 (ps := ps) n 0 hd (by simpa using hn) fun T kV doc pm an cdv ct us its e1 e2 => by
    obtain ⟨k, r1, r2⟩ := h T kV doc pm an cdv ct us its e1 e2
    exact ⟨k, r1, by simpa using r2⟩
  refine ⟨⟨fd, dvs, ds, ?_, q2, by simpa using q1, hr⟩, F.kp⟩
  obtain ⟨oc, od, dV, kV, doc, pm, an, cdv, ct, osl, rfl, lk, hcd, _, _⟩ := F.ex
  obtain ⟨c, rfl⟩ := He.codeIn_ref hcd
  have ec : He.codeOf W.K p = c := He.codeOf_eq lk rfl
  subst ec
  have hpl : ps.length ≤ N.length := by have := congrArg List.length Sc.pre; rw [List.length_take] at this; omega
  exact fn_of lk hcd Sc (fun vs H Q E h => h.1) fun A outer s H vs Q E hr h => ⟨_, hb A outer s H E hr, body_read h hpl⟩
end
section
variable {W : Wd} {E : XK} {X : Cx} {k n : Nat} {f : Addr} {ps : List Str} {F : FM} {x mn : Str} {p pos apos : Pos} {e o : Expr} {es : List Expr} {ms : AM} {mo : EM} {dds : List Ct.D} {c : Nat} {C : Addr} {pl : Sem Bool}
theorem je_cPD (hk : X.K = W.K) (tk : TakesE X E) (G : GoodD X.prog X.w W X.mg X.base k f ps dds F) (hn : ps.length = n) (hr : Room k X.A) (hg : Gl X x) (hm : X.mg x = some (.ref f)) (ha : JA W E X (e :: es) ms)
    (hdb : (x == ("__debug__" : Str)) = false := by decide) (he : starEach (e :: es) X.env = (false, eval e X.env) :: starEach es X.env := by rfl) (hpl : (backTo pos (starEach es X.env)).any (·.1) = false := by rfl) :
    JE W E X (.Call (.Name x p) (e :: es) [] pos) (mCallP n F ms dds) := by
  subst hn
  obtain ⟨⟨fd, dvs, ds, G1, G2, G4, G5⟩, G3⟩ := G
  rw [← hk] at G1 G2 G3
  exact je_callP tk G1 hr hg hm G3 G2 G4 G5 ha hdb he hpl
theorem je_cMD (hk : X.K = W.K) (tk : TakesE X E) (hc : W.cls c = C) (M : Mk W.K C f) (G : GoodD X.prog X.w W X.mg X.base k f ps dds F) (hn : ps.length = n) (hr : Room (k + 1) X.A) (hg : Gl X x) (hm : X.mg x = some (.ref C)) (ha : JA W E X (e :: es) ms)
    (hdb : (x == ("__debug__" : Str)) = false := by decide) (he : starEach (e :: es) X.env = (false, eval e X.env) :: starEach es X.env := by rfl) (hpl : (backTo pos (starEach es X.env)).any (·.1) = false := by rfl) :
    JE W E X (.Call (.Name x p) (e :: es) [] pos) (mMake c n F ms dds) := by
  subst hn
  obtain ⟨⟨fd, dvs, ds, G1, G2, G4, G5⟩, G3⟩ := G
  rw [← hk] at G1 G2 G3 M
  exact je_make tk hc M G1 hr hg hm G2 G4 G5 ha hdb he hpl
theorem je_mP (hk : X.K = W.K) (tk : TakesE X E) (cl : Cls W.K (W.cls c)) (hm : Meth W.K (W.cls c) mn f) (G : Good X.prog X.w W X.mg X.base k f ps F) (hn : ps.length = n) (hr : Room k X.A) (ho : JE W E X o mo) (ha : JA W E X (e :: es) ms)
    (hst : starEach (e :: es) X.env = (false, eval e X.env) :: starEach es X.env := by rfl) (hpl : (backTo pos (starEach es X.env)).any (·.1) = false := by rfl)
    (ht : eval (.Call (.Attribute o mn apos) (e :: es) [] pos) X.env = (do
      let ov ← eval o X.env
      standAt apos.atName
      let (f, first) ← holding [ov] (getMethod ov mn pl)
      callWith pos f first (backTo pos (starEach (e :: es) X.env)) (backToKw pos (keywordEach [] X.env))) := by rfl) :
    JE W E X (.Call (.Attribute o mn apos) (e :: es) [] pos) (mMethP c mn n F mo ms) := by
  subst hn
  obtain ⟨⟨fd, G1, G2⟩, G3⟩ := G
  rw [← hk] at G1 G2
  exact je_methP hk tk cl hm G1 hr G2 ho ha hst hpl ht
theorem je_mP0 (hk : X.K = W.K) (tk : TakesE X E) (cl : Cls W.K (W.cls c)) (hm : Meth W.K (W.cls c) mn f) (G : Good X.prog X.w W X.mg X.base k f ps F) (hn : ps.length = n) (hr : Room k X.A) (ho : JE W E X o mo)
    (ht : eval (.Call (.Attribute o mn apos) [] [] pos) X.env = (do
      let ov ← eval o X.env
      standAt apos.atName
      let (f, first) ← holding [ov] (getMethod ov mn pl)
      callWith pos f first (backTo pos (starEach [] X.env)) (backToKw pos (keywordEach [] X.env))) := by rfl) :
    JE W E X (.Call (.Attribute o mn apos) [] [] pos) (mMethP c mn n F mo mNil) := by
  subst hn
  obtain ⟨⟨fd, G1, G2⟩, G3⟩ := G
  rw [← hk] at G1 G2
  exact je_methP0 hk tk cl hm G1 hr G2 ho ht
theorem je_mW (hk : X.K = W.K) (tk : TakesE X E) (cl : Cls W.K (W.cls c)) (hm : Meth W.K (W.cls c) mn f) (G : Good X.prog X.w W X.mg X.base k f ps F) (hn : ps.length = n) (hr : Room k X.A) (ho : JE W E X o mo) (ha : JA W E X (e :: es) ms)
    (hst : starEach (e :: es) X.env = (false, eval e X.env) :: starEach es X.env := by rfl) (hpl : (backTo pos (starEach es X.env)).any (·.1) = false := by rfl)
    (ht : eval (.Call (.Attribute o mn apos) (e :: es) [] pos) X.env = (do
      let ov ← eval o X.env
      standAt apos.atName
      let (f, first) ← holding [ov] (getMethod ov mn pl)
      callWith pos f first (backTo pos (starEach (e :: es) X.env)) (backToKw pos (keywordEach [] X.env))) := by rfl) :
    JE W E X (.Call (.Attribute o mn apos) (e :: es) [] pos) (mMethW c mn n F mo ms) := by
  subst hn
  obtain ⟨⟨fd, G1, G2⟩, G3⟩ := G
  rw [← hk] at G1 G2
  exact je_methW hk tk cl hm G1 hr G2 ho ha hst hpl ht
theorem je_mW0 (hk : X.K = W.K) (tk : TakesE X E) (cl : Cls W.K (W.cls c)) (hm : Meth W.K (W.cls c) mn f) (G : Good X.prog X.w W X.mg X.base k f ps F) (hn : ps.length = n) (hr : Room k X.A) (ho : JE W E X o mo)
    (ht : eval (.Call (.Attribute o mn apos) [] [] pos) X.env = (do
      let ov ← eval o X.env
      standAt apos.atName
      let (f, first) ← holding [ov] (getMethod ov mn pl)
      callWith pos f first (backTo pos (starEach [] X.env)) (backToKw pos (keywordEach [] X.env))) := by rfl) :
    JE W E X (.Call (.Attribute o mn apos) [] [] pos) (mMethW c mn n F mo mNil) := by
  subst hn
  obtain ⟨⟨fd, G1, G2⟩, G3⟩ := G
  rw [← hk] at G1 G2
  exact je_methW0 hk tk cl hm G1 hr G2 ho ht
end
end Ct
set_option Elab.async false
set_option maxRecDepth 100000
set_option maxHeartbeats 4000000
/-! A tuple, once or not at all. -/
namespace Ct
open PySem PySem.Spec PyProof.Rows L2
theorem tuple_mul1 (l : Addr) (items : Array Value) (n : Nat) (dd : Option Addr) (sl : Array (Option Value)) (u : Tok) :
    Meets (Builtin.«tuple.__mul__» ⟨[.ref l, .int 1 u], []⟩) (fun _ R s => s.heap.get? l = some { cls := .type "tuple", dict := dd, data := .seq items n, slots := sl } ∧
      R (.ok (.ret (Value.ref l))) s) :=
  .of_wp fun prog w A R s h => by
    obtain ⟨hp, g, d, tk, os⟩ := s
    obtain ⟨hl, h⟩ := h
    have f1 := AutoSeq1.idx_int
    wp_walk using wpAny_loadPart' hl
    exact ⟨_, rfl, h⟩
theorem tuple_mul0 (l : Addr) (items : Array Value) (n : Nat) (dd : Option Addr) (sl : Array (Option Value)) (x : Int) (u : Tok) (c0 : (decide (x < -(2 ^ 63)) || decide (x ≥ 2 ^ 63)) = false) (c1 : (items.isEmpty || x == 1) = false) (c2 : (decide (x ≤ 0) || items.isEmpty) = true) :
    Meets (Builtin.«tuple.__mul__» ⟨[.ref l, .int x u], []⟩) (fun _ R s => s.heap.get? l = some { cls := .type "tuple", dict := dd, data := .seq items n, slots := sl } ∧
      R (.ok (.ret (Value.ref s.heap.objs.size))) { s with heap := s.heap.push { cls := Value.type "tuple", data := Data.seq #[] }, toks := s.toks }) :=
  .of_wp fun prog w A R s h => by
    obtain ⟨hp, g, d, tk, os⟩ := s
    obtain ⟨hl, h⟩ := h
    have f1 := AutoSeq1.idx_int
    wp_walk using wpAny_loadPart' hl
    repeat (first
      | (refine wpAny_ite_false (decide_eq_false (by rw [c0]; exact Bool.false_ne_true)) ?_; wp_walk using wpAny_loadPart' hl)
      | (refine wpAny_ite_false (decide_eq_false (by rw [c1]; exact Bool.false_ne_true)) ?_; wp_walk using wpAny_loadPart' hl)
      | (refine wpAny_ite_true (decide_eq_true c2) ?_; wp_walk using wpAny_loadPart' hl))
    exact ⟨_, rfl, h⟩
def rMulT (K : PySem.W.Frag) : R2 := fun x y H Q => ∃ l k xs, x = .ref l ∧ y = .int k ∧ SqT K H l xs ∧ xs ≠ [] ∧ -1000 ≤ k ∧ ((k = 1 ∧ Q (.ref l) H) ∨ (k ≤ 0 ∧ ∀ p, H p = none → Q (.ref p) (upd H p (.tup []))))
section
variable {X : Cx}
theorem op_mulT : OpR X (binaryOp .Mult) (rMulT X.K) := by
  intro pins s σ H x y v u Q I rx ry h
  obtain ⟨l, k, xs, rfl, rfl, hT, hne, h1, q⟩ := h
  cases rx
  obtain ⟨t, rfl⟩ := ry
  obtain ⟨its, r, ⟨⟨cls, dd, data, sl⟩, ho, hc, n, hd⟩, hs⟩ := I.tuple hT
  simp only at hc hd
  subst hc hd
  have hle : its.length = xs.length := r.length.symm
  have hn : its ≠ [] := fun e => hne (by
    rw [e] at hle
    exact List.eq_nil_of_length_eq_zero hle.symm)
  have hi : its.toArray.isEmpty = false := by
    cases its with
    | nil => exact absurd rfl hn
    | cons a b => rfl
  rcases q with ⟨rfl, q⟩ | ⟨h2, q⟩
  · refine wpAny_binaryOp_repeat_ref (T := "tuple") (U := "int") (by decide) ⟨_, ho, rfl⟩ (fun s' => typeIs_int s' 1 t) noFill_tuple_mul F.fills_int_mul F.slot_int_rmul repeat_tuple F.slot_int_index.lookup
      (call_meets F.slot_int_rmul (typeIs_int s 1 t) F.entry_int_rmul (F.args_int_rmul_2 _ _) (int_rmul_tuple 1 t l its.toArray n dd sl)
        ⟨ho, rfl, ⟨_, ho, rfl⟩, call_meets F.slot_tuple_mul ⟨_, ho, rfl⟩ F.entry_tuple_mul (F.args_tuple_mul_2 _ _) (tuple_mul1 l its.toArray n dd sl t) ⟨ho, ?_⟩⟩)
    exact ⟨.ref l, H, I, rfl, q⟩
  · have c0 : (decide (k < -(2 ^ 63)) || decide (k ≥ 2 ^ 63)) = false := by
      rw [decide_eq_false (by omega), decide_eq_false (by omega)] <;> rfl
    have c1 : (its.toArray.isEmpty || k == 1) = false := by
      rw [hi, Bool.false_or]
      exact beq_eq_false_iff_ne.mpr (by omega)
    have c2 : (decide (k ≤ 0) || its.toArray.isEmpty) = true := by
      rw [decide_eq_true h2]; rfl
    refine wpAny_binaryOp_repeat_ref (T := "tuple") (U := "int") (by decide) ⟨_, ho, rfl⟩ (fun s' => typeIs_int s' k t) noFill_tuple_mul F.fills_int_mul F.slot_int_rmul repeat_tuple F.slot_int_index.lookup
      (call_meets F.slot_int_rmul (typeIs_int s k t) F.entry_int_rmul (F.args_int_rmul_2 _ _) (int_rmul_tuple k t l its.toArray n dd sl)
        ⟨ho, rfl, ⟨_, ho, rfl⟩, call_meets F.slot_tuple_mul ⟨_, ho, rfl⟩ F.entry_tuple_mul (F.args_tuple_mul_2 _ _) (tuple_mul0 l its.toArray n dd sl k t c0 c1 c2) ⟨ho, ?_⟩⟩)
    refine ⟨.ref s.heap.objs.size, _, I.laid (t' := s.toks) (o := .tup []) (fun b ob q => Heap.get?_push_of_some _ q) (Nat.le_refl _) ?_, rfl, q _ (I.hok.fresh (Nat.le_refl _))⟩
    exact ⟨by simp, [], .nil, IsTup.new _ _⟩
end
section
variable {W : Wd} {E : XK} {X : Cx}
/-- tuple * int, any int -/
def fMulT : U → U → Store → R U
  | .d (.tup a), .d (.int k), st => if k ≤ 1000 ∧ -1000 ≤ k ∧ a ≠ [] ∧ a.length ≤ 1000 then .ok (.d (.tup (List.replicate k.toNat a).flatten)) st else .bad
  | _, _, _ => .bad
theorem mulT_ok : OpOk W E (rOr (rRepT W.K) (rMulT W.K)) fMulT := by
  intro S l st H x y u v Q rl p1 p2 h
  unfold fMulT at h
  split at h
  · split at h
    · rename_i hc
      cases p1 with
      | @tup a vs ds q1 r1 =>
        cases p2
        rename_i k
        have hne : vs ≠ [] := fun e => by
          subst e
          cases r1
          exact hc.2.2.1 rfl
        by_cases h2 : 2 ≤ k
        · exact .inl ⟨_, k, _, rfl, rfl, q1, hne, h2, hc.1, by rw [r1.length]; exact hc.2.2.2, fun p hp => new_tup h rl (r1.rep _) hp⟩
        · refine .inr ⟨_, k, _, rfl, rfl, q1, hne, hc.2.1, ?_⟩
          by_cases h1 : k = 1
          · subst h1
            refine .inl ⟨rfl, ?_⟩
            have e : ∀ zs : List Ct.D, (List.replicate (1 : Int).toNat zs).flatten = zs := fun zs => by simp
            rw [e] at h
            exact h.ok rl (.tup q1 r1)
          · refine .inr ⟨by omega, fun p hp => ?_⟩
            have e : ∀ zs : List Ct.D, (List.replicate k.toNat zs).flatten = [] := fun zs => by
              rw [show k.toNat = 0 by omega]; rfl
            rw [e] at h
            exact new_tup h rl .nil hp
    · exact h.elim
  · exact h.elim
theorem je_mulT {a b : Expr} {ma mb : EM} {pos : Pos} (hk : X.K = W.K) (ha : JE W E X a ma) (hb : JE W E X b mb) : JE W E X (.BinOp a .Mult b pos) (fBin fMulT ma mb) := je_op (opR_or op_repT op_mulT) (by rw [hk]; exact mulT_ok) ha hb
@[simp] theorem fMulT_tup (a : List Ct.D) (k : Int) (st : Store) : fMulT (.d (.tup a)) (.d (.int k)) st = if k ≤ 1000 ∧ -1000 ≤ k ∧ a ≠ [] ∧ a.length ≤ 1000 then .ok (.d (.tup (List.replicate k.toNat a).flatten)) st else .bad := rfl
/-- a, b, c = e1, e2, e3 with plain local names -/
def par3K (i j l : Nat) (env : EnvD) (us : List U) (st1 : Store) : RS := match us with
  | [u, v, w] => .nx (((env.set i (some u)).set j (some v)).set l (some w)) st1
  | _ => .bad
def sPar3 (i j l : Nat) (ms : AM) : SM := fun env st => (ms env st).andS (par3K i j l env)
theorem js_par3 {i j l : Nat} {x y z : Str} {a b c : Expr} {ms : AM} {px py pz pt pos : Pos} {kt k2 pt2} (hc : X.calm = true) (hN : X.N.Nodup) (hi : X.N[i]? = some x) (hj : X.N[j]? = some y) (hl : X.N[l]? = some z) (hij : i ≠ j) (hil : i ≠ l) (hjl : j ≠ l)
    (hx : X.env.scope.names.lookup x = some .local) (hy : X.env.scope.names.lookup y = some .local) (hz : X.env.scope.names.lookup z = some .local) (ha : JA W E X [a, b, c] ms)
    (hw : swappedStores [.Tuple [.Name x px, .Name y py, .Name z pz] kt pt] (.Tuple [a, b, c] k2 pt2) X.env = pure (some [x, y, z]))
    (hs : swapsWithSole [.Tuple [.Name x px, .Name y py, .Name z pz] kt pt] (.Tuple [a, b, c] k2 pt2) pos.line X.env = pure false := by rfl) :
    JS W E X (.Assign [.Tuple [.Name x px, .Name y py, .Name z pz] kt pt] (.Tuple [a, b, c] k2 pt2) pos) (sPar3 i j l ms) := (ps_par3 hc hN hi hj hl hij hil hjl hx hy hz ha hw hs).imp (by
  rintro D σ H ⟨S, l, env, st, rl, re, h⟩
  refine ⟨S, l, env, st, rl, re, (Post.andS (rep := repUs W) h).imp ?_⟩
  rintro vs H1 ⟨S1, l1, us, st1, x1, r1, p1, h1⟩
  unfold par3K at h1
  split at h1
  · rename_i u v w
    cases p1 with
    | cons q1 t =>
      cases t with
      | cons q2 t =>
        cases t with
        | cons q3 t =>
          cases t
          refine ⟨_, _, _, rfl, ?_⟩
          exact h1 _ S1 l1 H1 (Ext.refl _ _ _) r1 ((((re.ext rl x1).set _ q1).set _ q2).set _ q3)
  · exact h1.elim)
@[simp] theorem ev_par3 (i j l : Nat) (ms : AM) (env : EnvD) (st : Store) : sPar3 i j l ms env st = (ms env st).andS (par3K i j l env) := rfl
@[simp] theorem par3K_e (i j l : Nat) (env : EnvD) (u v w : U) (st : Store) : par3K i j l env [u, v, w] st = .nx (((env.set i (some u)).set j (some v)).set l (some w)) st := rfl
/-! ### == with a list of the store -/
def datU (u : U) (st : Store) : Option Ct.D := match u with
  | .d x => some x
  | .loc n => match st[n]? with
    | some (.lst us) => (dsOf us).map Ct.D.lst
    | _ => none
def fEqC (u v : U) (st : Store) : R U := match datU u st, datU v st with
  | some x, some y => if okD x = true ∧ okD y = true then .ok (.d (.bl (eqD x y))) st else .bad
  | _, _ => .bad
theorem datU_dp {S : Addr → Prop} {l : List Addr} {H : Hp} {st : Store} {u : U} {d : Ct.D} {x : V} (rl : Rel W S l st H) (p : RepU W S l H x u) (h : datU u st = some d) (c : (toP d).canLay0 = true) : Dp W.K H x (toP d) := by
  cases u with
  | d y =>
    cases h
    exact RepD.dp p c
  | loc n =>
    unfold datU at h
    simp only at h
    split at h
    · rename_i us e
      obtain ⟨ds, e2, rfl⟩ := Option.map_eq_some_iff.mp h
      obtain ⟨a, vs, _, rfl, hv, r⟩ := loc_rep rl p e
      rw [dsOf_eq e2] at r
      exact .lst (.inl (.inl hv)) (RepL.dp r.ds c)
    · cases h
theorem eqC_ok : OpOk W E (rEqD W.K) fEqC := by
  intro S l st H x y u v Q rl p1 p2 h
  unfold fEqC at h
  split at h
  · rename_i a b e1 e2
    split at h
    · rename_i hc
      exact ⟨_, _, datU_dp rl p1 e1 (SeqAt.canLay_of_shaped hc.1), datU_dp rl p2 e2 (SeqAt.canLay_of_shaped hc.2), hc.1, hc.2, h.ok rl (.bl _)⟩
    · exact h.elim
  · exact h.elim
theorem je_eqC {a b : Expr} {ma mb : EM} {pos : Pos} (hk : X.K = W.K) (hu : X.A.units + 64 < cLine) (ha : JE W E X a ma) (hb : JE W E X b mb) : JE W E X (.Compare a [.Eq] [b] pos) (fBin fEqC ma mb) := je_cmp (op_eqD hu) (by rw [hk]; exact eqC_ok) ha hb
theorem jt_eqC {a b : Expr} {ma mb : EM} {pos : Pos} (hk : X.K = W.K) (hu : X.A.units + 64 < cLine) (ha : JE W E X a ma) (hb : JE W E X b mb) : JT W E X (.Compare a [.Eq] [b] pos) (tBool (fBin fEqC ma mb)) := jt_cmp (op_eqD hu) (by rw [hk]; exact eqC_ok) ha hb
end
end Ct
set_option Elab.async false
set_option maxRecDepth 100000
set_option maxHeartbeats 4000000
/-! own work: zip of a list and a tuple; zip by functions. -/
namespace Ct
open PySem PySem.Spec PyProof.Rows L2 RZ
section
variable {prog : Program} {w : World} {A : Around} {E : Value → Shared → Prop} {s : Shared}
/-- one turn: a list ahead, a tuple behind -/
theorem zipM_item {z TI TO i1 i2 l1 l2 : Addr} {k : Nat} {xs ys : Array Value} {x y a b : Value} {Q : Value → Shared → Prop} (D : ZipApart z TI TO i1 i2 l1 l2)
    (hz : IsZip s.heap z TI TO .none) (hTI : IsPair s.heap TI (.ref i1) (.ref i2)) (hTO : IsPair s.heap TO a b)
    (h1 : s.heap.IsListIter i1 l1 k) (h2 : s.heap.IsTupleIter i2 l2 k) (hl1 : s.heap.IsList l1 xs) (hl2 : s.heap.IsTuple l2 ys) (hx : xs[k]? = some x) (hy : ys[k]? = some y)
    (hQ : ∀ h', IsZip h' z TI TO (rawInt s.heap.objs.size) → IsPair h' TO x y → h'.IsListIter i1 l1 (k + 1) → h'.IsTupleIter i2 l2 (k + 1) → IsPair h' s.heap.objs.size x y → h'.objs.size = s.heap.objs.size + 1 →
      (∀ c o, c ≠ z → c ≠ TO → c ≠ i1 → c ≠ i2 → s.heap.get? c = some o → h'.get? c = some o) → Q (.ref s.heap.objs.size) { s with heap := h' }) :
    wpAny (model prog w) A (Builtin.«zip.__next__» ⟨[.ref z], []⟩) (fun fin s' => ∃ v, fin = .done (.ret v) ∧ Q v s') E s := by
  show wpAny _ _ (field (.ref z) 2 >>= _) _ _ _
  refine wpAny_bind (wpAny_field hz rfl (x := .bool false) rfl ?_)
  show wpAny _ _ (field (.ref z) 3 >>= _) _ _ _
  refine wpAny_bind (wpAny_field hz rfl (x := .ref TI) rfl (wpAny_bind (wpAny_seqItems hTI rfl ?_)))
  show wpAny _ _ (Builtin.SmallTypes.ownedTupleIsFree (.ref z) >>= _) _ _ _
  refine wpAny_bind ?_
  unfold Builtin.SmallTypes.ownedTupleIsFree
  refine wpAny_bind (wpAny_field hz rfl (x := .none) rfl (wpAny_pure ?_))
  simp only [if_true]
  refine wpAny_bind (wpAny_rule (wpAny_bind (wpAny_field hz rfl (x := .ref TO) rfl (wpAny_bind (wpAny_setField_rec hz (by simp) fun q1 z1 b1 => ?_)))))
  have z1 : IsZip q1 z TI TO .ellipsis := z1
  have e1 := b1.extBut
  refine wpAny_bind ?_
  simp only [List.zipIdx_cons, List.zipIdx_nil, List.forIn_cons, List.forIn_nil]
  refine wpAny_bind (wpAny_bind (wpAny_onRaise ?_))
  show wpAny _ _ (Builtin.SmallTypes.nextOf (.ref i1) >>= _) _ _ _
  refine wpAny_bind (wpAny_nextOf_list_item (h1.extBut e1 D.i1z) (hl1.extBut e1 D.l1z) hx fun q2 n1 b2 => wpAny_pure ?_)
  have e2 := b2.extBut
  have t2 : IsPair q2 TO a b := e2 _ _ D.TOi1 (e1 _ _ D.TOz hTO)
  refine wpAny_bind (wpAny_seqItems t2 rfl (wpAny_bind (wpAny_updateSeq_pair t2 fun q3 t3 b3 => wpAny_bind (wpAny_letGo (wpAny_pure ?_)))))
  have t3 : IsPair q3 TO x b := t3
  have e3 := b3.extBut
  refine wpAny_bind (wpAny_bind (wpAny_onRaise ?_))
  show wpAny _ _ (Builtin.SmallTypes.nextOf (.ref i2) >>= _) _ _ _
  refine wpAny_bind (nextOf_tuple_item (((h2.extBut e1 D.i2z).extBut e2 D.i12.symm).extBut e3 D.TOi2.symm) (((hl2.extBut e1 D.l2z).extBut e2 D.l2i1).extBut e3 D.l2TO) hy fun q4 n2 b4 => wpAny_pure ?_)
  have e4 := b4.extBut
  have t4 : IsPair q4 TO x b := e4 _ _ D.TOi2 t3
  refine wpAny_bind (wpAny_seqItems t4 rfl (wpAny_bind (wpAny_updateSeq_pair t4 fun q5 t5 b5 => wpAny_bind (wpAny_letGo (wpAny_pure (wpAny_pure ?_))))))
  have t5 : IsPair q5 TO x y := t5
  have e5 := b5.extBut
  refine wpAny_bind (wpAny_seqItems t5 rfl (wpAny_bind (wpAny_newTuple ?_)))
  have hsz : q5.objs.size = s.heap.objs.size := by rw [b5.1, b4.1, b3.1, b2.1, b1.1]
  have z5 : IsZip q5 z TI TO .ellipsis := e5 _ _ D.TOz.symm (e4 _ _ D.i2z.symm (e3 _ _ D.TOz.symm (e2 _ _ D.i1z.symm z1)))
  have k5 : ∀ c o, c ≠ z → c ≠ TO → c ≠ i1 → c ≠ i2 → s.heap.get? c = some o → q5.get? c = some o := fun c o c1 c2 c3 c4 e => e5 _ _ c2 (e4 _ _ c4 (e3 _ _ c2 (e2 _ _ c3 (e1 _ _ c1 e))))
  have m1 : q5.IsListIter i1 l1 (k + 1) := ((n1.extBut e3 D.TOi1.symm).extBut e4 D.i12).extBut e5 D.TOi1.symm
  have m2 : q5.IsTupleIter i2 l2 (k + 1) := n2.extBut e5 D.TOi2.symm
  have hzlt : z < q5.objs.size := Heap.lt_size z5
  show wpAny _ _ (Builtin.SmallTypes.ownedTupleHandOut (.ref z) (.ref q5.objs.size) >>= _) _ _ _
  refine wpAny_bind ?_
  unfold Builtin.SmallTypes.ownedTupleHandOut
  have z6 : IsZip (q5.push { cls := .type "tuple", data := .seq #[x, y] }) z TI TO .ellipsis := Heap.get?_push_of_some _ z5
  refine wpAny_bind (wpAny_setField_rec z6 (by simp) fun q7 z7 b7 => ?_)
  have z7 : IsZip q7 z TI TO (rawInt q5.objs.size) := z7
  refine wpAny_setField_rec z7 (by simp) fun q8 z8 b8 => ?_
  have z8 : IsZip q8 z TI TO (rawInt q5.objs.size) := z8
  have up : ∀ c o, c ≠ z → q5.get? c = some o → q8.get? c = some o := fun c o c1 e => b8.extBut _ _ c1 (b7.extBut _ _ c1 (Heap.get?_push_of_some _ e))
  have p8 : IsPair q8 q5.objs.size x y := b8.extBut _ _ (Nat.ne_of_gt hzlt) (b7.extBut _ _ (Nat.ne_of_gt hzlt) (Heap.get?_push_size _ rfl))
  have s8 : q8.objs.size = q5.objs.size + 1 := by rw [b8.1, b7.1, Heap.size_push]
  rw [hsz] at z8 p8 s8
  refine wpAny_pure ⟨_, rfl, ?_⟩
  show Q (.ref q5.objs.size) _
  rw [hsz]
  exact hQ q8 z8 (up _ _ D.TOz t5) (m1.at fun o e => up _ o D.i1z e) (m2.at fun o e => up _ o D.i2z e) p8 s8 fun c o c1 c2 c3 c4 e => up c o c1 (k5 c o c1 c2 c3 c4 e)
theorem zipM_end {z TI TO i1 i2 l1 l2 : Addr} {k : Nat} {xs : Array Value} {a b : Value} {Q : Fin → Shared → Prop} (hh : A.handled = none) (D : ZipApart z TI TO i1 i2 l1 l2)
    (hz : IsZip s.heap z TI TO .none) (hTI : IsPair s.heap TI (.ref i1) (.ref i2)) (hTO : IsPair s.heap TO a b) (h1 : s.heap.IsListIter i1 l1 k) (hl1 : s.heap.IsList l1 xs) (hx : xs[k]? = none)
    (hE : ∀ h' e, (∀ c o, c ≠ z → c ≠ TO → c ≠ i1 → c ≠ i2 → s.heap.get? c = some o → h'.get? c = some o) → (∃ o, h'.get? e = some o ∧ o.cls = .type "StopIteration") → E (.ref e) { s with heap := h' }) :
    wpAny (model prog w) A (Builtin.«zip.__next__» ⟨[.ref z], []⟩) Q E s := by
  show wpAny _ _ (field (.ref z) 2 >>= _) _ _ _
  refine wpAny_bind (wpAny_field hz rfl (x := .bool false) rfl ?_)
  show wpAny _ _ (field (.ref z) 3 >>= _) _ _ _
  refine wpAny_bind (wpAny_field hz rfl (x := .ref TI) rfl (wpAny_bind (wpAny_seqItems hTI rfl ?_)))
  show wpAny _ _ (Builtin.SmallTypes.ownedTupleIsFree (.ref z) >>= _) _ _ _
  refine wpAny_bind ?_
  unfold Builtin.SmallTypes.ownedTupleIsFree
  refine wpAny_bind (wpAny_field hz rfl (x := .none) rfl (wpAny_pure ?_))
  simp only [if_true]
  refine wpAny_bind (wpAny_rule (wpAny_bind (wpAny_field hz rfl (x := .ref TO) rfl (wpAny_bind (wpAny_setField_rec hz (by simp) fun q1 z1 b1 => ?_)))))
  have z1 : IsZip q1 z TI TO .ellipsis := z1
  have e1 := b1.extBut
  refine wpAny_bind ?_
  simp only [List.zipIdx_cons, List.zipIdx_nil, List.forIn_cons, List.forIn_nil]
  refine wpAny_bind (wpAny_bind (wpAny_onRaise ?_))
  show wpAny _ _ (Builtin.SmallTypes.nextOf (.ref i1) >>= _) _ _ _
  refine wpAny_bind (wpAny_nextOf_list_end hh (h1.extBut e1 D.i1z) (hl1.extBut e1 D.l1z) hx fun q2 e e2 he => ?_)
  obtain ⟨oe, hoe, hce⟩ := he
  have z2 : IsZip q2 z TI TO .ellipsis := e2 _ _ D.i1z.symm z1
  have hez : e ≠ z := fun x => by subst x; rw [z2] at hoe; cases hoe; simp at hce
  exact wpAny_setField_rec z2 (by simp) fun q3 _ b3 => hE q3 e (fun c o c1 _ c3 _ x => b3.extBut _ _ c1 (e2 _ _ c3 (e1 _ _ c1 x))) ⟨oe, b3.extBut _ _ hez hoe, hce⟩
end
/-- a list and a tuple, the items in new pairs; the list no longer than the tuple -/
def ItzM (K : PySem.W.Frag) (a b : Addr) : It :=
  ⟨fun i H => ∃ (xs ys : List V) (x y : V), SqL K H a xs ∧ SqT K H b ys ∧ xs[i]? = some x ∧ ys[i]? = some y,
    fun i H v H' => ∃ T x y, v = .ref T ∧ H T = none ∧ H' = upd H T (.tup [x, y]) ∧ (∀ xs, SqL K H a xs → xs[i]? = some x) ∧ ∀ ys, SqT K H b ys → ys[i]? = some y,
    fun i H => ∃ xs : List V, SqL K H a xs ∧ xs.length ≤ i⟩
theorem turn_zipM {P : Program} {w : World} {K : PySem.W.Frag} {elts : List Expr} {kk : Nat} {tpos : Pos} {a b z TI TO i1 i2 : Addr} (D : ZipApart z TI TO i1 i2 a b) :
    Turn P w K (.Tuple elts kk tpos) (ItzM K a b) [z, TI, TO, i1, i2] z (fun i h => IsZip h z TI TO .none ∧ IsPair h TI (.ref i1) (.ref i2) ∧ (∃ x y, IsPair h TO x y) ∧ h.IsListIter i1 a i ∧ h.IsTupleIter i2 b i) where
  mem := by simp
  obj := fun i h st c hc => by
    obtain ⟨hz, hTI, ⟨x, y, hTO⟩, ⟨o1, e1, _, d1⟩, ⟨o2, e2, _, d2⟩⟩ := st
    have e' : c = z ∨ c = TI ∨ c = TO ∨ c = i1 ∨ c = i2 := by simpa using hc
    rcases e' with q | q | q | q | q
    · rw [q]; exact ⟨_, hz, fun v q => nomatch q⟩
    · rw [q]; exact ⟨_, hTI, fun v q => nomatch q⟩
    · rw [q]; exact ⟨_, hTO, fun v q => nomatch q⟩
    · rw [q]; exact ⟨o1, e1, fun v q => by rw [d1] at q; cases q⟩
    · rw [q]; exact ⟨o2, e2, fun v q => by rw [d2] at q; cases q⟩
  keep := fun i h h' st k => by
    obtain ⟨hz, hTI, ⟨x, y, hTO⟩, h1, h2⟩ := st
    exact ⟨k z (by simp) _ hz, k TI (by simp) _ hTI, ⟨x, y, k TO (by simp) _ hTO⟩, h1.at fun o q => k i1 (by simp) o q, h2.at fun o q => k i2 (by simp) o q⟩
  item := by
    intro X hP hw hK hc i pins s σ H E I hf st hg
    subst hP hw hK
    obtain ⟨hz, hTI, ⟨x0, y0, hTO⟩, h1, h2⟩ := st
    obtain ⟨xs, ys, x, y, hqx, hqy, hx, hy⟩ := hg
    obtain ⟨its, rv, p, _⟩ := I.list hqx
    obtain ⟨its2, rv2, p2, _⟩ := I.tuple hqy
    obtain ⟨u, hu, ru⟩ := rv.get hx
    obtain ⟨u2, hu2, ru2⟩ := rv2.get hy
    have hzl : z < s.heap.objs.size := Heap.lt_size hz
    have hT : s.TypeIs (.ref z) "zip" := ⟨_, hz, rfl⟩
    unfold pyNext
    refine wpAny_bind (wpAny_attempt (wpAny_callSpecial?_slot (name := Str.ofString "__next__") hT F.slot_zip_next (wpAny_call_entry F.slot_zip_next hT F.entry_zip_next
      (zipM_item D hz hTI hTO h1 h2 p.isList p2 (x := u) (y := u2) (by simpa using hu) (by simpa using hu2) fun h' z' TO' h1' h2' hT hsz hk => wpAny_pure ?_) (F.args_zip_next_1 _))))
    refine ⟨_, rfl, wpAny_letOwnedTupleGo_zip (s := { s with heap := h' }) z' fun h'' z'' sb => ?_⟩
    have hT2 : h''.get? s.heap.objs.size = some { cls := .type "tuple", data := .seq #[u, u2] } := (sb.2 _ (Nat.ne_of_gt hzl)).trans hT
    have new : ObjOk X.prog X.w (upd H s.heap.objs.size (.tup [x, y])) h'' s.heap.objs.size (.tup [x, y]) :=
      ⟨by show 2 ≤ sizeLine; decide, [u, u2], .cons ru (.cons ru2 .nil), ⟨_, hT2, rfl, _, rfl⟩⟩
    have I1 : Inv X pins σ (upd H s.heap.objs.size (.tup [x, y])) { s with heap := h'' } :=
      I.turnedNew (t' := s.toks) (ch := [z, TI, TO, i1, i2]) (fun c o hb q => (sb.2 c (fun q' => hb (by simp [q']))).trans (hk c o (fun q' => hb (by simp [q'])) (fun q' => hb (by simp [q'])) (fun q' => hb (by simp [q'])) (fun q' => hb (by simp [q'])) q)) hf (Nat.le_refl _) new
    refine ⟨.ref s.heap.objs.size, _, I1, rfl, ⟨_, x, y, rfl, I.hok.fresh (Nat.le_refl _), rfl, fun l hl => by rw [I.list_inj hl hqx]; exact hx, fun l hl => by rw [I.tuple_inj hl hqy]; exact hy⟩, ⟨z'', ?_, ⟨u, u2, ?_⟩, ?_, ?_⟩, fun c hcm => ?_⟩
    · exact (sb.2 _ D.TIz).trans (hk _ _ D.TIz D.TITO D.TIi1 D.TIi2 hTI)
    · exact (sb.2 _ D.TOz).trans TO'
    · exact h1'.at fun o q => (sb.2 _ D.i1z).trans q
    · exact h2'.at fun o q => (sb.2 _ D.i2z).trans q
    · have hlt : c < s.heap.objs.size := by
        have e' : c = z ∨ c = TI ∨ c = TO ∨ c = i1 ∨ c = i2 := by simpa using hcm
        rcases e' with q | q | q | q | q
        · rw [q]; exact hzl
        · rw [q]; exact Heap.lt_size hTI
        · rw [q]; exact Heap.lt_size hTO
        · rw [q]; obtain ⟨_, e1, _⟩ := h1; exact Heap.lt_size e1
        · rw [q]; obtain ⟨_, e2, _⟩ := h2; exact Heap.lt_size e2
      rw [upd_ne (Nat.ne_of_lt hlt)]
      exact (hf c hcm).1
  done := by
    intro X hP hw hK hc i pins s σ H E I hf st hg
    subst hP hw hK
    obtain ⟨hz, hTI, ⟨x0, y0, hTO⟩, h1, h2⟩ := st
    obtain ⟨xs, hqx, hend⟩ := hg
    obtain ⟨its, rv, p, _⟩ := I.list hqx
    have l1 := rv.length
    have hT : s.TypeIs (.ref z) "zip" := ⟨_, hz, rfl⟩
    unfold pyNext
    refine wpAny_bind (wpAny_attempt (wpAny_callSpecial?_slot (name := Str.ofString "__next__") hT F.slot_zip_next (wpAny_call_entry F.slot_zip_next hT F.entry_zip_next
      (zipM_end (show X.A.in1.handled = none from I.ok.hd hc) D hz hTI hTO h1 p.isList (by simp; omega) fun h' e hk he => ?_) (F.args_zip_next_1 _))))
    obtain ⟨o, ho, hc'⟩ := he
    refine wpAny_bind (wpAny_isInstance (T := "StopIteration") (b := true) ⟨o, ho, hc'⟩ isSubtype_stop ?_)
    exact wpAny_pure ⟨rfl, I.turnedL (t' := s.toks) (ch := [z, TI, TO, i1, i2]) (fun c o hb q =>
      hk c o (fun q' => hb (by simp [q'])) (fun q' => hb (by simp [q'])) (fun q' => hb (by simp [q'])) (fun q' => hb (by simp [q'])) q) hf⟩
  self := fun A i s Q E st h => wpAny_pyIter_zip st.1 h
abbrev zmH1 (h : Heap) (l1 : Addr) : Heap := h.push { cls := .type "list_iterator", data := .fields #[.ref l1, .int 0 0] }
abbrev zmH2 (h : Heap) (l1 l2 : Addr) : Heap := (zmH1 h l1).push { cls := .type "tuple_iterator", data := .fields #[.ref l2, .int 0 0] }
abbrev zmH3 (h : Heap) (l1 l2 : Addr) : Heap := (zmH2 h l1 l2).push { cls := .type "tuple", data := .seq #[.ref h.objs.size, .ref (zmH1 h l1).objs.size] }
abbrev zmH4 (h : Heap) (l1 l2 : Addr) : Heap := (zmH3 h l1 l2).push { cls := .type "tuple", data := .seq #[.none, .none] }
abbrev zmH5 (h : Heap) (l1 l2 : Addr) : Heap := (zmH4 h l1 l2).push { cls := .type "zip", data := .fields #[.none, .bool false, .bool false, .ref (zmH2 h l1 l2).objs.size, .ref (zmH3 h l1 l2).objs.size] }
theorem meets_zipM (l1 l2 : Addr) (xs ys : Array Value) :
    Meets (Builtin.«zip.__new__» ⟨[.type "zip", .ref l1, .ref l2], []⟩) (fun _ R s => s.heap.IsList l1 xs ∧ s.heap.IsTuple l2 ys ∧
      R (.ok (.ret (.ref (zmH4 s.heap l1 l2).objs.size))) { s with heap := zmH5 s.heap l1 l2 }) :=
  .of_wp fun prog w A R s h => by
    obtain ⟨hp, g, d, tk, os⟩ := s; obtain ⟨hl1, hl2, h⟩ := h
    have hsub := sub_zip
    have hL1 : Heap.IsList (Shared.heap ⟨hp, g, d, tk, os⟩) l1 xs := hl1
    have hL2 : Heap.IsTuple (Shared.heap ⟨hp.push { cls := .type "list_iterator", data := .fields #[.ref l1, .int 0 0] }, g, d, tk, os⟩) l2 ys := Heap.IsTuple.push hl2 _
    wp_walk using wpAny_pyIter_list hL1, wpAny_pyIter_tuple hL2
    exact ⟨_, rfl, h⟩
section
variable {prog : Program} {w : World} {A : Around} {E : Value → Shared → Prop} {s : Shared}
theorem call_zipM {l1 l2 : Addr} {xs ys : Array Value} {Q : Value → Shared → Prop} (hl1 : s.heap.IsList l1 xs) (hl2 : s.heap.IsTuple l2 ys)
    (h : ∀ h', IsZip h' (s.heap.objs.size + 4) (s.heap.objs.size + 2) (s.heap.objs.size + 3) .none → IsPair h' (s.heap.objs.size + 2) (.ref s.heap.objs.size) (.ref (s.heap.objs.size + 1)) →
      IsPair h' (s.heap.objs.size + 3) .none .none → h'.IsListIter s.heap.objs.size l1 0 → h'.IsTupleIter (s.heap.objs.size + 1) l2 0 → h'.objs.size = s.heap.objs.size + 5 →
      (∀ c o, s.heap.get? c = some o → h'.get? c = some o) → Q (.ref (s.heap.objs.size + 4)) { s with heap := h' }) :
    wpAny (model prog w) A (call (.type "zip") [.ref l1, .ref l2]) Q E s := by
  refine callType_new F.called_zip (by decide) (F.typeCall_zip_2 _ _) (F.newCall_zip_2 _ _) (fun obj => F.args_object_init_3 obj _ _) F.entry_zip_new (meets_zipM l1 l2 xs ys) ⟨hl1, hl2, ?_⟩
  have z1 : (zmH1 s.heap l1).objs.size = s.heap.objs.size + 1 := Heap.size_push ..
  have z2 : (zmH2 s.heap l1 l2).objs.size = s.heap.objs.size + 2 := by rw [Heap.size_push, z1]
  have z3 : (zmH3 s.heap l1 l2).objs.size = s.heap.objs.size + 3 := by rw [Heap.size_push, z2]
  have z4 : (zmH4 s.heap l1 l2).objs.size = s.heap.objs.size + 4 := by rw [Heap.size_push, z3]
  have z5 : (zmH5 s.heap l1 l2).objs.size = s.heap.objs.size + 5 := by rw [Heap.size_push, z4]
  have g5 : (zmH5 s.heap l1 l2).get? (zmH4 s.heap l1 l2).objs.size = some _ := Heap.get?_push_size _ rfl
  have g4 : (zmH5 s.heap l1 l2).get? (zmH3 s.heap l1 l2).objs.size = some _ := Heap.get?_push_of_some _ (Heap.get?_push_size _ rfl)
  have g3 : (zmH5 s.heap l1 l2).get? (zmH2 s.heap l1 l2).objs.size = some _ := Heap.get?_push_of_some _ (Heap.get?_push_of_some _ (Heap.get?_push_size _ rfl))
  have g2 : (zmH5 s.heap l1 l2).get? (zmH1 s.heap l1).objs.size = some _ := Heap.get?_push_of_some _ (Heap.get?_push_of_some _ (Heap.get?_push_of_some _ (Heap.get?_push_size _ rfl)))
  have g1 : (zmH5 s.heap l1 l2).get? s.heap.objs.size = some _ := Heap.get?_push_of_some _ (Heap.get?_push_of_some _ (Heap.get?_push_of_some _ (Heap.get?_push_of_some _ (Heap.get?_push_size _ rfl))))
  show _ ∧ _
  rw [z2, z3, z4] at g5
  rw [z1, z2] at g3
  rw [z3] at g4
  rw [z1] at g2
  rw [z4]
  exact ⟨⟨_, g5, rfl⟩, h _ g5 g3 g4 ⟨_, g1, rfl, rfl⟩ ⟨_, g2, rfl, rfl⟩ z5 fun c o x => Heap.get?_push_of_some _ (Heap.get?_push_of_some _ (Heap.get?_push_of_some _ (Heap.get?_push_of_some _ (Heap.get?_push_of_some _ x))))⟩
end
def iZipB (K : PySem.W.Frag) (ta : TA) : TI := fun σ H R => ta σ H fun vs H1 => ∃ a b xs ys, vs = [.ref a, .ref b] ∧ ((SqL K H1 a xs ∧ SqL K H1 b ys ∧ R (Itz K a b) H1) ∨ (SqT K H1 a xs ∧ SqT K H1 b ys ∧ R (ItzT K a b) H1) ∨ (SqL K H1 a xs ∧ SqT K H1 b ys ∧ R (ItzM K a b) H1))
theorem pi_zipB {X : Cx} {e e2 : Expr} {ta : TA} {p pos tpos : Pos} {elts : List Expr} {kk : Nat} (hg : Gl X "zip") (hm : X.mg "zip" = none) (ha : PA X [e, e2] ta)
    (hs : starEach [e, e2] X.env = (false, eval e X.env) :: starEach [e2] X.env := by rfl) (hpl : (backTo pos (starEach [e2] X.env)).any (·.1) = false := by rfl) :
    PI X (.Tuple elts kk tpos) (.Call (.Name "zip" p) [e, e2] [] pos) (iZipB X.K ta) := by
  refine ⟨fun pins s σ H R I h => ?_⟩
  refine Call_ (ld_blt I hg hm PyProof.Rows.boot_zip (PyProof.Rows.callWith_type1 (thn (ha.run pos pins s σ H _ I h) fun us s1 ⟨vs, H1, I1, r1, q1⟩ => ?_) hs hpl))
  obtain ⟨a, b, xs, ys, ex, q1⟩ := q1
  subst ex
  cases r1 with
  | cons r rr =>
    cases rr with
    | cons r' rr =>
      cases rr
      cases r
      cases r'
      have fresh5 : ∀ c, c ∈ [s1.heap.objs.size + 4, s1.heap.objs.size + 2, s1.heap.objs.size + 3, s1.heap.objs.size, s1.heap.objs.size + 1] → FpOk X pins H1 c := fun c hcm => by
        have e' : c = s1.heap.objs.size + 4 ∨ c = s1.heap.objs.size + 2 ∨ c = s1.heap.objs.size + 3 ∨ c = s1.heap.objs.size ∨ c = s1.heap.objs.size + 1 := by simpa using hcm
        have hle : s1.heap.objs.size ≤ c := by
          rcases e' with z | z | z | z | z
          · rw [z]; exact Nat.le_add_right _ _
          · rw [z]; exact Nat.le_add_right _ _
          · rw [z]; exact Nat.le_add_right _ _
          · rw [z]; exact Nat.le_refl _
          · rw [z]; exact Nat.le_add_right _ _
        exact I1.fpOk hle (I1.hok.fresh hle)
      rcases q1 with ⟨hqx, hqy, q⟩ | ⟨hqx, hqy, q⟩ | ⟨hqx, hqy, q⟩
      · obtain ⟨its, rv, p1, _⟩ := I1.list hqx
        obtain ⟨its2, rv2, p2, _⟩ := I1.list hqy
        refine call_zip_2 p1.isList p2.isList fun h' hz hTI hTO h1 h2 hsz hk => wpAny_pyIter_zip hz ?_
        have I2 : Inv X pins σ H1 { s1 with heap := h' } := I1.kept (t' := s1.toks) hk
        exact ⟨s1.heap.objs.size + 4, [s1.heap.objs.size + 4, s1.heap.objs.size + 2, s1.heap.objs.size + 3, s1.heap.objs.size, s1.heap.objs.size + 1], _, _, H1, rfl, I2, turn_zip (PySem.W.ktu_apart s1.heap.objs.size a b p1.lt p2.lt), ⟨hz, hTI, ⟨_, _, hTO⟩, h1, h2⟩, fresh5, q⟩
      · obtain ⟨its, rv, p1, _⟩ := I1.tuple hqx
        obtain ⟨its2, rv2, p2, _⟩ := I1.tuple hqy
        obtain ⟨o1, ho1, _⟩ := id p1
        obtain ⟨o2, ho2, _⟩ := id p2
        refine call_zipT (show s1.heap.IsTuple a its.toArray from p1) (show s1.heap.IsTuple b its2.toArray from p2) fun h' hz hTI hTO h1 h2 hsz hk => wpAny_pyIter_zip hz ?_
        have I2 : Inv X pins σ H1 { s1 with heap := h' } := I1.kept (t' := s1.toks) hk
        exact ⟨s1.heap.objs.size + 4, [s1.heap.objs.size + 4, s1.heap.objs.size + 2, s1.heap.objs.size + 3, s1.heap.objs.size, s1.heap.objs.size + 1], _, _, H1, rfl, I2, turn_zipT (PySem.W.ktu_apart s1.heap.objs.size a b (Heap.lt_size ho1) (Heap.lt_size ho2)), ⟨hz, hTI, ⟨_, _, hTO⟩, h1, h2⟩, fresh5, q⟩
      · obtain ⟨its, rv, p1, _⟩ := I1.list hqx
        obtain ⟨its2, rv2, p2, _⟩ := I1.tuple hqy
        obtain ⟨o2, ho2, _⟩ := id p2
        refine call_zipM p1.isList (show s1.heap.IsTuple b its2.toArray from p2) fun h' hz hTI hTO h1 h2 hsz hk => wpAny_pyIter_zip hz ?_
        have I2 : Inv X pins σ H1 { s1 with heap := h' } := I1.kept (t' := s1.toks) hk
        exact ⟨s1.heap.objs.size + 4, [s1.heap.objs.size + 4, s1.heap.objs.size + 2, s1.heap.objs.size + 3, s1.heap.objs.size, s1.heap.objs.size + 1], _, _, H1, rfl, I2, turn_zipM (PySem.W.ktu_apart s1.heap.objs.size a b p1.lt (Heap.lt_size ho2)), ⟨hz, hTI, ⟨_, _, hTO⟩, h1, h2⟩, fresh5, q⟩
section
variable {W : Wd} {E : XK} {X : Cx} {S S' S2 : Addr → Prop} {l l' l2 : List Addr} {H H' H2 : Hp} {st st' st2 : Store}
def zipD (as bs : List D) : List D := (as.zip bs).map fun p => .tup [p.1, p.2]
def zipK (us : List U) (st1 : Store) : R Src := match us with
  | [.d (.tup a), .d (.tup b)] => .ok (none, (zipD a b).map U.d) st1
  | [.d (.lst a), .d (.lst b)] => .ok (none, (zipD a b).map U.d) st1
  | [.d (.lst a), .d (.tup b)] => if a.length ≤ b.length then .ok (none, (zipD a b).map U.d) st1 else .bad
  | _ => .bad
def iZip (m n : EM) : IM := fun env st => (mCons m (mCons n mNil) env st).bind zipK
theorem zip_get {as bs : List D} {i : Nat} {u : U} (e : ((zipD as bs).map U.d)[i]? = some u) : ∃ a b, as[i]? = some a ∧ bs[i]? = some b ∧ u = .d (.tup [a, b]) := by
  unfold zipD at e
  rw [List.getElem?_map, List.getElem?_map] at e
  cases q : (as.zip bs)[i]? with
  | none => rw [q] at e; cases e
  | some p =>
    rw [q] at e
    have e := Option.some.inj e
    obtain ⟨h1, h2⟩ := List.getElem?_zip_eq_some.mp q
    exact ⟨p.1, p.2, h1, h2, e.symm⟩
theorem zipD_len (as bs : List D) : ((zipD as bs).map U.d).length = min as.length bs.length := by simp [zipD]
theorem src_zip {J : It} {as bs : List D} {R1 R2 : Hp → List V → Prop} (h1 : ∀ S' l' st' H', Ext S l H S' l' H' → Rel W S' l' st' H' → ∃ vs, R1 H' vs ∧ RepL W S' H' vs as) (h2 : ∀ S' l' st' H', Ext S l H S' l' H' → Rel W S' l' st' H' → ∃ vs, R2 H' vs ∧ RepL W S' H' vs bs)
    (hgo : ∀ i H xs ys x y, R1 H xs → R2 H ys → xs[i]? = some x → ys[i]? = some y → J.go i H)
    (hy : ∀ i H v H', J.yld i H v H' → ∃ T x y, v = .ref T ∧ H T = none ∧ H' = upd H T (.tup [x, y]) ∧ (∀ xs, R1 H xs → xs[i]? = some x) ∧ ∀ ys, R2 H ys → ys[i]? = some y)
    (hs : ∀ i H xs ys, R1 H xs → R2 H ys → xs.length = as.length → ys.length = bs.length → min as.length bs.length ≤ i → J.stop i H) : SrcOk W S l H J (none, (zipD as bs).map U.d) := by
  intro S' l' st' H' x r hg i
  obtain ⟨vs, q, p⟩ := h1 S' l' st' H' x r
  obtain ⟨ws, q2, p2⟩ := h2 S' l' st' H' x r
  refine ⟨fun e => hs i H' vs ws q q2 p.length p2.length (by have := zipD_len as bs; rw [← this]; exact Nat.le_of_eq (by simpa using e)), fun u e => ?_⟩
  obtain ⟨d1, d2, e1, e2, rfl⟩ := zip_get e
  obtain ⟨v1, g1, g2⟩ := p.get e1
  obtain ⟨v2, g3, g4⟩ := p2.get e2
  refine ⟨hgo i H' vs ws v1 v2 q q2 g1 g3, ?_⟩
  intro y H'' hyl
  obtain ⟨T, z1, z2, rfl, hT, rfl, f1, f2⟩ := hy i H' y H'' hyl
  have a1 := f1 vs q
  have a2 := f2 ws q2
  rw [g1] at a1
  rw [g3] at a2
  cases a1
  cases a2
  exact ⟨S', l', Ext.new hT, r.new hT, .tup (.inl (.inl upd_same)) (.cons (g2.ext r (Ext.new (l := l') hT)) (.cons (g4.ext r (Ext.new (l := l') hT)) .nil))⟩
theorem ji_zip {e e2 : Expr} {m n : EM} {p pos tpos : Pos} {elts : List Expr} {kk : Nat} (hk : X.K = W.K) (hg : Gl X "zip") (hm : X.mg "zip" = none) (he : JE W E X e m) (he2 : JE W E X e2 n)
    (hs : starEach [e, e2] X.env = (false, eval e X.env) :: starEach [e2] X.env := by rfl) (hs2 : starEach [e2] X.env = (false, eval e2 X.env) :: starEach [] X.env := by rfl) (hpl : (backTo pos (starEach [e2] X.env)).any (·.1) = false := by rfl) :
    JI W E X (.Tuple elts kk tpos) (.Call (.Name "zip" p) [e, e2] [] pos) (iZip m n) := (pi_zipB hg hm (ja_cons he (ja_cons he2 ja_nil hs2) hs) hs hpl).imp (by
  rintro σ H R ⟨S, l, env, st, rl, re, h⟩
  refine ⟨S, l, env, st, rl, re, (Post.bind (rep := repUs W) h).imp ?_⟩
  rintro xs H1 ⟨S1, l1, us, st1, x1, r1, p1, h1⟩
  rw [hk]
  unfold zipK at h1
  split at h1
  · rename_i a b
    cases p1 with
    | cons pa pr =>
      cases pr with
      | cons pb pn =>
        cases pn
        cases pa with
        | @tup a1 vs _ q r =>
          cases pb with
          | @tup a2 ws _ q2 rr =>
            exact ⟨a1, a2, vs, ws, rfl, .inr (.inl ⟨q, q2, h1.ok r1 (src_zip (R1 := fun H xs => SqT W.K H a1 xs) (R2 := fun H xs => SqT W.K H a2 xs) (fun S' l' st' H' x r' => ⟨vs, sqT_ext r1 x q, RepL.ext r1 x r⟩) (fun S' l' st' H' x r' => ⟨ws, sqT_ext r1 x q2, RepL.ext r1 x rr⟩)
              (fun i H xs ys x y h1 h2 h3 h4 => ⟨xs, ys, x, y, h1, h2, h3, h4⟩) (fun i H v H' h => h) (fun i H xs ys h1 h2 h3 h4 h5 => ⟨xs, ys, h1, h2, by omega⟩))⟩)⟩
  · rename_i a b
    cases p1 with
    | cons pa pr =>
      cases pr with
      | cons pb pn =>
        cases pn
        cases pa with
        | @lst a1 vs _ q n1 r =>
          cases pb with
          | @lst a2 ws _ q2 n2 rr =>
            exact ⟨a1, a2, vs, ws, rfl, .inl ⟨.inl (.inl q), .inl (.inl q2), h1.ok r1 (src_zip (R1 := fun H xs => SqL W.K H a1 xs) (R2 := fun H xs => SqL W.K H a2 xs) (fun S' l' st' H' x r' => ⟨vs, .inl (.inl (x.keep _ _ (fun z => n1 (r1.sub _ z)) q (fun ps z => by cases z))), RepL.ext r1 x r⟩)
              (fun S' l' st' H' x r' => ⟨ws, .inl (.inl (x.keep _ _ (fun z => n2 (r1.sub _ z)) q2 (fun ps z => by cases z))), RepL.ext r1 x rr⟩)
              (fun i H xs ys x y h1 h2 h3 h4 => ⟨xs, ys, x, y, h1, h2, h3, h4⟩) (fun i H v H' h => h) (fun i H xs ys h1 h2 h3 h4 h5 => ⟨xs, ys, h1, h2, by omega⟩))⟩⟩
  · rename_i a b
    split at h1
    · rename_i hle
      cases p1 with
      | cons pa pr =>
        cases pr with
        | cons pb pn =>
          cases pn
          cases pa with
          | @lst a1 vs _ q n1 r =>
            cases pb with
            | @tup a2 ws _ q2 rr =>
              exact ⟨a1, a2, vs, ws, rfl, .inr (.inr ⟨.inl (.inl q), q2, h1.ok r1 (src_zip (R1 := fun H xs => SqL W.K H a1 xs) (R2 := fun H xs => SqT W.K H a2 xs) (fun S' l' st' H' x r' => ⟨vs, .inl (.inl (x.keep _ _ (fun z => n1 (r1.sub _ z)) q (fun ps z => by cases z))), RepL.ext r1 x r⟩)
                (fun S' l' st' H' x r' => ⟨ws, sqT_ext r1 x q2, RepL.ext r1 x rr⟩)
                (fun i H xs ys x y h1 h2 h3 h4 => ⟨xs, ys, x, y, h1, h2, h3, h4⟩) (fun i H v H' h => h) (fun i H xs ys h1 h2 h3 h4 h5 => ⟨xs, h1, by omega⟩))⟩)⟩
    · exact h1.elim
  · exact h1.elim)
end
end Ct
set_option Elab.async false
set_option maxRecDepth 100000
set_option maxHeartbeats 4000000
/-! own work: in, not in, of flat items, by functions. -/
namespace Ct
open PySem PySem.Spec PyProof.Rows L2
section
variable {W : Wd} {E : XK} {X : Cx} {S S' S2 : Addr → Prop} {l l' l2 : List Addr} {H H' H2 : Hp} {st st' st2 : Store}
def flD : D → Option V
  | .non => some .non
  | .bl b => some (.bl b)
  | .int i => some (.int i)
  | .str x => some (.str x)
  | _ => none
def flDs : List D → Option (List V)
  | [] => some []
  | d :: r => match flD d, flDs r with
    | some v, some vs => some (v :: vs)
    | _, _ => none
theorem flD_rep {v a : V} {d : D} (r : RepD W S H v d) (h : flD d = some a) : v = a ∧ flatV a = true := by
  cases d <;> simp only [flD] at h <;> cases h <;> cases r <;> exact ⟨rfl, rfl⟩
theorem flDs_rep : ∀ {ds : List D} {vs as : List V}, RepL W S H vs ds → flDs ds = some as → vs = as ∧ as.all flatV = true
  | [], _, _, .nil, h => by
    simp only [flDs] at h
    cases h; exact ⟨rfl, rfl⟩
  | d :: r, _, _, .cons h1 h2, h => by
    simp only [flDs] at h
    split at h
    · rename_i v vs e1 e2
      cases h
      obtain ⟨rfl, f1⟩ := flD_rep h1 e1
      obtain ⟨rfl, f2⟩ := flDs_rep h2 e2
      exact ⟨rfl, by simp [f1, f2]⟩
    · cases h
def inK (neg : Bool) (x : D) (ds : List D) (st : Store) : R U := match flD x, flDs ds with
  | some a, some as => .ok (.d (.bl (if neg then !inV a as else inV a as))) st
  | _, _ => .bad
def fIn (neg : Bool) : U → U → Store → R U
  | .d x, .d (.tup ds), st => inK neg x ds st
  | .d x, .d (.lst ds), st => inK neg x ds st
  | .d x, .d (.frz ds), st => inK neg x ds st
  | _, _, _ => .bad
theorem in_ok (neg : Bool) : OpOk W E (rIn W.K neg) (fIn neg) := by
  intro S l st H x y u v Q rl p1 p2 h
  have key : ∀ (d : D) (ds : List D) (p : Addr) (xs : List V), RepD W S H x d → y = .ref p → (SqL W.K H p xs ∨ SqT W.K H p xs) → RepL W S H xs ds → Post W (repU W) E S l H Q (inK neg d ds st) → rIn W.K neg x y H Q := by
    intro d ds p xs r1 ey hq r2 h
    unfold inK at h
    split at h
    · rename_i a as e1 e2
      obtain ⟨rfl, f1⟩ := flD_rep r1 e1
      obtain ⟨rfl, f2⟩ := flDs_rep r2 e2
      exact ⟨p, _, ey, hq, f1, f2, h.ok rl (.bl _)⟩
    · exact h.elim
  unfold fIn at h
  split at h
  · cases p2 with
    | tup q r => exact key _ _ _ _ p1 rfl (.inr q) r h
  · cases p2 with
    | lst q n r => exact key _ _ _ _ p1 rfl (.inl (.inl (.inl q))) r h
  · cases p2 with
    | frz q r => exact key _ _ _ _ p1 rfl (.inl q.sq) r h
  · exact h.elim
theorem je_in {a b : Expr} {ma mb : EM} {pos : Pos} (hk : X.K = W.K) (ha : JE W E X a ma) (hb : JE W E X b mb) (hm : behindInMarks .In b = false := by first | exact nobehind _ (by decide) (by decide) | rfl) : JE W E X (.Compare a [.In] [b] pos) (fBin (fIn false) ma mb) := je_cmp op_in_seq (by rw [hk]; exact in_ok false) ha hb hm
theorem je_notin {a b : Expr} {ma mb : EM} {pos : Pos} (hk : X.K = W.K) (ha : JE W E X a ma) (hb : JE W E X b mb) (hm : behindInMarks .NotIn b = false := by first | exact nobehind _ (by decide) (by decide) | rfl) : JE W E X (.Compare a [.NotIn] [b] pos) (fBin (fIn true) ma mb) := je_cmp op_notIn_seq (by rw [hk]; exact in_ok true) ha hb hm
theorem jt_in {a b : Expr} {ma mb : EM} {pos : Pos} (hk : X.K = W.K) (ha : JE W E X a ma) (hb : JE W E X b mb) (hm : behindInMarks .In b = false := by first | exact nobehind _ (by decide) (by decide) | rfl) : JT W E X (.Compare a [.In] [b] pos) (tBool (fBin (fIn false) ma mb)) := jt_cmp op_in_seq (by rw [hk]; exact in_ok false) ha hb hm
theorem jt_notin {a b : Expr} {ma mb : EM} {pos : Pos} (hk : X.K = W.K) (ha : JE W E X a ma) (hb : JE W E X b mb) (hm : behindInMarks .NotIn b = false := by first | exact nobehind _ (by decide) (by decide) | rfl) : JT W E X (.Compare a [.NotIn] [b] pos) (tBool (fBin (fIn true) ma mb)) := jt_cmp op_notIn_seq (by rw [hk]; exact in_ok true) ha hb hm
end
end Ct
set_option Elab.async false
set_option maxRecDepth 100000
set_option maxHeartbeats 4000000
/-! own work: max and min of a list of whole numbers. -/
namespace Ct
open PySem PySem.Spec PyProof.Rows L2
def maxI (n : Int) (ns : List Int) : Int := ns.foldl max n
def minI (n : Int) (ns : List Int) : Int := ns.foldl min n
theorem maxI_ge : ∀ (ns : List Int) (n : Int), n ≤ maxI n ns ∧ ∀ y ∈ ns, y ≤ maxI n ns
  | [], n => ⟨Int.le_refl _, by simp⟩
  | a :: r, n => by
    have h := maxI_ge r (max n a)
    have h1 : maxI n (a :: r) = maxI (max n a) r := rfl
    rw [h1]
    refine ⟨by have := h.1; omega, fun y hy => ?_⟩
    rcases List.mem_cons.mp hy with e | hy
    · have := h.1; omega
    · exact h.2 y hy
theorem minI_le : ∀ (ns : List Int) (n : Int), minI n ns ≤ n ∧ ∀ y ∈ ns, minI n ns ≤ y
  | [], n => ⟨Int.le_refl _, by simp⟩
  | a :: r, n => by
    have h := minI_le r (min n a)
    have h1 : minI n (a :: r) = minI (min n a) r := rfl
    rw [h1]
    refine ⟨by have := h.1; omega, fun y hy => ?_⟩
    rcases List.mem_cons.mp hy with e | hy
    · have := h.1; omega
    · exact h.2 y hy
theorem maxI_mem : ∀ (ns : List Int) (n : Int), maxI n ns ∈ n :: ns
  | [], n => by simp [maxI]
  | a :: r, n => by
    have h := maxI_mem r (max n a)
    have h1 : maxI n (a :: r) = maxI (max n a) r := rfl
    rw [h1]
    rcases List.mem_cons.mp h with e | h
    · rcases Int.le_total n a with z | z
      · rw [e, Int.max_eq_right z]; simp
      · rw [e, Int.max_eq_left z]; simp
    · exact List.mem_cons_of_mem _ (List.mem_cons_of_mem _ h)
theorem minI_mem : ∀ (ns : List Int) (n : Int), minI n ns ∈ n :: ns
  | [], n => by simp [minI]
  | a :: r, n => by
    have h := minI_mem r (min n a)
    have h1 : minI n (a :: r) = minI (min n a) r := rfl
    rw [h1]
    rcases List.mem_cons.mp h with e | h
    · rcases Int.le_total n a with z | z
      · rw [e, Int.min_eq_left z]; simp
      · rw [e, Int.min_eq_right z]; simp
    · exact List.mem_cons_of_mem _ (List.mem_cons_of_mem _ h)
theorem maxI_eq {ns : List Int} {n m : Int} (h : m ∈ n :: ns) (h2 : ∀ y ∈ n :: ns, y ≤ m) : maxI n ns = m := by
  have h3 := h2 _ (maxI_mem ns n)
  have h4 := maxI_ge ns n
  rcases List.mem_cons.mp h with e | e
  · have := h4.1; omega
  · have := h4.2 m e; omega
theorem minI_eq {ns : List Int} {n m : Int} (h : m ∈ n :: ns) (h2 : ∀ y ∈ n :: ns, m ≤ y) : minI n ns = m := by
  have h3 := h2 _ (minI_mem ns n)
  have h4 := minI_le ns n
  rcases List.mem_cons.mp h with e | e
  · have := h4.1; omega
  · have := h4.2 m e; omega
/-- of a list that is not empty -/
def fMM (g : Int → List Int → Int) : List U → Store → R U
  | [u], st => match lstOf u st with
    | some us => match intsOf us with
      | some (n :: ns) => .ok (.d (.int (g n ns))) st
      | _ => .bad
    | none => .bad
  | _, _ => .bad
section
variable {W : Wd} {E : XK} {X : Cx} {S S' : Addr → Prop} {l l' : List Addr} {H H' : Hp} {st st' : Store}
theorem max_ok : AOk W E (rMax W.K) (fMM maxI) := by
  intro S l st H vs us Q rl p h
  unfold fMM at h
  split at h
  · split at h
    · rename_i us e
      split at h
      · rename_i n ns e2
        cases p with
        | cons a t =>
          cases t
          obtain ⟨b, ws, rfl, q, r⟩ := lstOf_rep rl a e
          rw [intsOf_rep r e2] at q
          refine ⟨b, n :: ns, rfl, q, Nat.succ_pos _, fun m hm hle => ?_⟩
          rw [maxI_eq hm hle] at h
          exact h.ok rl (.int _)
      · exact h.elim
    · exact h.elim
  · exact h.elim
theorem min_ok : AOk W E (rMin W.K) (fMM minI) := by
  intro S l st H vs us Q rl p h
  unfold fMM at h
  split at h
  · split at h
    · rename_i us e
      split at h
      · rename_i n ns e2
        cases p with
        | cons a t =>
          cases t
          obtain ⟨b, ws, rfl, q, r⟩ := lstOf_rep rl a e
          rw [intsOf_rep r e2] at q
          refine ⟨b, n :: ns, rfl, q, Nat.succ_pos _, fun m hm hle => ?_⟩
          rw [minI_eq hm hle] at h
          exact h.ok rl (.int _)
      · exact h.elim
    · exact h.elim
  · exact h.elim
variable {p pos : Pos} {e : Expr} {es : List Expr} {ms : AM}
theorem je_maxB (hk : X.K = W.K) (hc : X.calm = true) (hg : Gl X "max") (hm : X.mg "max" = none) (ha : JA W E X (e :: es) ms) (he : starEach (e :: es) X.env = (false, eval e X.env) :: starEach es X.env := by rfl) (hpl : (backTo pos (starEach es X.env)).any (·.1) = false := by rfl) :
    JE W E X (.Call (.Name "max" p) (e :: es) [] pos) (mCB (fMM maxI) ms) := je_callB (cr_max hc) (by rw [hk]; exact max_ok) hg hm (by decide +kernel) ha (by decide) (by decide) he hpl
theorem je_minB (hk : X.K = W.K) (hc : X.calm = true) (hg : Gl X "min") (hm : X.mg "min" = none) (ha : JA W E X (e :: es) ms) (he : starEach (e :: es) X.env = (false, eval e X.env) :: starEach es X.env := by rfl) (hpl : (backTo pos (starEach es X.env)).any (·.1) = false := by rfl) :
    JE W E X (.Call (.Name "min" p) (e :: es) [] pos) (mCB (fMM minI) ms) := je_callB (cr_min hc) (by rw [hk]; exact min_ok) hg hm (by decide +kernel) ha (by decide) (by decide) he hpl
end
end Ct
set_option Elab.async false
set_option maxRecDepth 100000
set_option maxHeartbeats 4000000
/-! own work: dicts of the store (keys ints), by functions; list(range(n)). -/
namespace Ct
open PySem PySem.Spec PyProof.Rows L2
def lkI (us : List (Int × U)) (k : Int) : Option U := (us.find? fun p => decide (p.1 = k)).map (·.2)
def ptI (us : List (Int × U)) (k : Int) (u : U) : List (Int × U) := if (us.any fun p => decide (p.1 = k)) = true then us.map (fun p => if p.1 = k then (p.1, u) else p) else us ++ [(k, u)]
def fDGet : U → U → Store → R U
  | .loc n, .d (.int k), st => match st[n]? with
    | some (.dic us) => match lkI us k with
      | some u => .ok u st
      | none => .bad
    | _ => .bad
  | _, _, _ => .bad
def fDIn (neg : Bool) : U → U → Store → R U
  | .d (.int k), .loc n, st => match st[n]? with
    | some (.dic us) => .ok (.d (.bl (if neg then !(lkI us k).isSome else (lkI us k).isSome))) st
    | _ => .bad
  | _, _, _ => .bad
def sDPutM (mo mk mv : EM) : SM := fun env st => (mv env st).andS fun v st1 => (mo env st1).andS fun o st2 => (mk env st2).andS fun k st3 => match o, k with
  | .loc n, .d (.int i) => match st3[n]? with
    | some (.dic us) => if us.length < sizeLine then .nx env (st3.set n (.dic (ptI us i v))) else .bad
    | _ => .bad
  | _, _ => .bad
/-- {k: v} -/
def mDic1 (mk mv : EM) : EM := fun env st => (mk env (st ++ [.dic []])).bind fun k st1 => (mv env st1).bind fun v st2 => match k with
  | .d (.int i) => match st2[st.length]? with
    | some (.dic []) => .ok (.loc st.length) (st2.set st.length (.dic [(i, v)]))
    | _ => .bad
  | _ => .bad
def mListRg (cell : Bool) (m : EM) : EM := fun env st => (m env st).bind fun u st1 => match u with
  | .d (.int j) => if -(2 ^ 62) ≤ j ∧ j ≤ 2 ^ 24 then (if cell then .ok (.loc st1.length) (st1 ++ [.lst (rangeU 0 j.toNat)]) else .ok (.d (.lst ((List.range j.toNat).map fun i => D.int (i : Nat)))) st1) else .bad
  | _ => .bad
section
variable {W : Wd} {E : XK} {X : Cx} {S S' : Addr → Prop} {l l' : List Addr} {H H' : Hp} {st st' : Store}
theorem dic_rep {n : Nat} {us : List (Int × U)} {x : V} (rl : Rel W S l st H) (p : RepU W S l H x (.loc n)) (h : st[n]? = some (.dic us)) : ∃ a kvs, l[n]? = some a ∧ x = .ref a ∧ H a = some (.dK kvs) ∧ kvs.map (·.1) = us.map (fun p => (Sum.inl p.1 : Key)) ∧ RepUs W S l H (kvs.map (·.2)) (us.map (·.2)) := by
  obtain ⟨a, ha, rfl⟩ := p
  obtain ⟨b, o, h1, h2, h3⟩ := rl.cell n _ h
  rw [ha] at h1; cases h1
  cases o <;> first | exact h3.elim | exact ⟨a, _, ha, rfl, h2, h3.1, h3.2⟩
theorem lk_rep {k : Int} : ∀ {us : List (Int × U)} {kvs : List (Key × V)}, kvs.map (·.1) = us.map (fun p => (Sum.inl p.1 : Key)) → RepUs W S l H (kvs.map (·.2)) (us.map (·.2)) →
    (lkI us k = none ∧ valV kvs (Sum.inl k) = none) ∨ ∃ u v, lkI us k = some u ∧ valV kvs (Sum.inl k) = some v ∧ RepU W S l H v u
  | [], [], _, _ => .inl ⟨rfl, rfl⟩
  | [], _ :: _, h, _ => by simp at h
  | _ :: _, [], h, _ => by simp at h
  | (a, u) :: us, (b, v) :: kvs, h, r => by
    simp only [List.map_cons, List.cons.injEq] at h
    obtain ⟨rfl, h⟩ := h
    simp only [List.map_cons] at r
    cases r with
    | cons r1 r2 =>
      by_cases e : a = k
      · subst e
        exact .inr ⟨u, v, by simp [lkI], by simp [valV], r1⟩
      · have e1 : lkI ((a, u) :: us) k = lkI us k := by simp [lkI, e]
        have e2 : valV (((Sum.inl a : Key), v) :: kvs) (Sum.inl k) = valV kvs (Sum.inl k) := by simp [valV, e]
        rw [e1, e2]
        exact lk_rep h r2
theorem pt_any {k : Int} : ∀ {us : List (Int × U)} {kvs : List (Key × V)}, kvs.map (·.1) = us.map (fun p => (Sum.inl p.1 : Key)) → (kvs.any fun kv => decide (kv.1 = (Sum.inl k : Key))) = us.any fun p => decide (p.1 = k)
  | [], [], _ => rfl
  | [], _ :: _, h => by simp at h
  | _ :: _, [], h => by simp at h
  | (a, u) :: us, (b, v) :: kvs, h => by
    simp only [List.map_cons, List.cons.injEq] at h
    obtain ⟨rfl, h⟩ := h
    rw [List.any_cons, List.any_cons, pt_any h]
    congr 1
    by_cases e : a = k <;> simp [e]
theorem pt_map {k : Int} {u : U} {v : V} (r : RepU W S l H v u) : ∀ {us : List (Int × U)} {kvs : List (Key × V)}, kvs.map (·.1) = us.map (fun p => (Sum.inl p.1 : Key)) → RepUs W S l H (kvs.map (·.2)) (us.map (·.2)) →
    (kvs.map fun kv => if kv.1 = (Sum.inl k : Key) then (kv.1, v) else kv).map (·.1) = (us.map fun p => if p.1 = k then (p.1, u) else p).map (fun p => (Sum.inl p.1 : Key)) ∧
    RepUs W S l H ((kvs.map fun kv => if kv.1 = (Sum.inl k : Key) then (kv.1, v) else kv).map (·.2)) ((us.map fun p => if p.1 = k then (p.1, u) else p).map (·.2))
  | [], [], _, _ => ⟨rfl, .nil⟩
  | [], _ :: _, h, _ => by simp at h
  | _ :: _, [], h, _ => by simp at h
  | (a, x) :: us, (b, y) :: kvs, h, q => by
    simp only [List.map_cons, List.cons.injEq] at h
    obtain ⟨rfl, h⟩ := h
    simp only [List.map_cons] at q
    cases q with
    | cons q1 q2 =>
      obtain ⟨h1, h2⟩ := pt_map r h q2
      by_cases e : a = k
      · simp only [List.map_cons, if_pos e, if_pos (congrArg Sum.inl e : (Sum.inl a : Key) = Sum.inl k), List.cons.injEq]
        exact ⟨⟨trivial, h1⟩, .cons r h2⟩
      · simp only [List.map_cons, if_neg e, if_neg (fun z => e (Sum.inl.inj z) : ¬ (Sum.inl a : Key) = Sum.inl k), List.cons.injEq]
        exact ⟨⟨trivial, h1⟩, .cons q1 h2⟩
theorem pt_rep {k : Int} {u : U} {v : V} (r : RepU W S l H v u) {us : List (Int × U)} {kvs : List (Key × V)} (h : kvs.map (·.1) = us.map (fun p => (Sum.inl p.1 : Key))) (q : RepUs W S l H (kvs.map (·.2)) (us.map (·.2))) :
    (putK kvs (Sum.inl k : Key) v).map (·.1) = (ptI us k u).map (fun p => (Sum.inl p.1 : Key)) ∧ RepUs W S l H ((putK kvs (Sum.inl k : Key) v).map (·.2)) ((ptI us k u).map (·.2)) := by
  unfold putK ptI
  rw [pt_any h]
  by_cases e : (us.any fun p => decide (p.1 = k)) = true
  · rw [if_pos e, if_pos e]
    exact pt_map r h q
  · rw [if_neg e, if_neg e]
    refine ⟨by simp [h], ?_⟩
    rw [List.map_append, List.map_append]
    exact q.append (.cons r .nil)
theorem dget_ok : OpOk W E (fun x y H Q => ∃ a v, x = V.ref a ∧ DGet H a y (some v) ∧ Q v H) fDGet := by
  intro S l st H x y u v Q rl p1 p2 h
  unfold fDGet at h
  split at h
  · rename_i n k
    split at h
    · rename_i us e
      split at h
      · rename_i w ew
        cases p2
        obtain ⟨a, kvs, _, rfl, h1, h2, h3⟩ := dic_rep rl p1 e
        rcases lk_rep (k := k) h2 h3 with ⟨z, _⟩ | ⟨u', v', z1, z2, z3⟩
        · rw [z] at ew; cases ew
        · rw [z1] at ew; cases ew
          exact ⟨a, v', rfl, by rw [← z2]; exact DGet.k (k := (Sum.inl k : Key)) h1, h.ok rl z3⟩
      · exact h.elim
    · exact h.elim
  · exact h.elim
theorem je_dget {a b : Expr} {ma mb : EM} {pos : Pos} (hu : X.A.units + 64 < cLine) (ha : JE W E X a ma) (hb : JE W E X b mb) (hs : NoSl b := by exact fun _ _ => rfl) : JE W E X (.Subscript a b pos) (fBin fDGet ma mb) :=
  (pe_dget (by omega) ha hb hs).imp (bin_read dget_ok)
theorem din_ok (neg : Bool) : OpOk W E (fun y x H Q => ∃ a o, x = V.ref a ∧ DGet H a y o ∧ Q (.bl (if neg then !o.isSome else o.isSome)) H) (fDIn neg) := by
  intro S l st H x y u v Q rl p1 p2 h
  unfold fDIn at h
  split at h
  · rename_i k n
    split at h
    · rename_i us e
      cases p1
      obtain ⟨a, kvs, _, rfl, h1, h2, h3⟩ := dic_rep rl p2 e
      rcases lk_rep (k := k) h2 h3 with ⟨z1, z2⟩ | ⟨u', v', z1, z2, z3⟩
      · rw [z1] at h
        exact ⟨a, none, rfl, by rw [← z2]; exact DGet.k (k := (Sum.inl k : Key)) h1, h.ok rl (.bl _)⟩
      · rw [z1] at h
        exact ⟨a, some v', rfl, by rw [← z2]; exact DGet.k (k := (Sum.inl k : Key)) h1, h.ok rl (.bl _)⟩
    · exact h.elim
  · exact h.elim
theorem je_din {a b : Expr} {ma mb : EM} {pos : Pos} (hu : X.A.units + 64 < cLine) (ha : JE W E X a ma) (hb : JE W E X b mb) (hm : behindInMarks .In b = false := by first | exact nobehind _ (by decide) (by decide) | rfl) : JE W E X (.Compare a [.In] [b] pos) (fBin (fDIn false) ma mb) :=
  (pe_cmp (pc_din (by omega) ha hb) hm).imp (bin_read (din_ok false))
theorem je_dnotin {a b : Expr} {ma mb : EM} {pos : Pos} (hu : X.A.units + 64 < cLine) (ha : JE W E X a ma) (hb : JE W E X b mb) (hm : behindInMarks .NotIn b = false := by first | exact nobehind _ (by decide) (by decide) | rfl) : JE W E X (.Compare a [.NotIn] [b] pos) (fBin (fDIn true) ma mb) :=
  (pe_cmp (pc_dnotin (by omega) ha hb) hm).imp (bin_read (din_ok true))
theorem jt_din {a b : Expr} {ma mb : EM} {pos : Pos} (hu : X.A.units + 64 < cLine) (ha : JE W E X a ma) (hb : JE W E X b mb) (hm : behindInMarks .In b = false := by first | exact nobehind _ (by decide) (by decide) | rfl) : JT W E X (.Compare a [.In] [b] pos) (tBool (fBin (fDIn false) ma mb)) :=
  (pt_cmp (pc_din (by omega) ha hb) hm).imp fun σ H Q z => bin_read (din_ok false) _ _ _ (tst_read z)
theorem jt_dnotin {a b : Expr} {ma mb : EM} {pos : Pos} (hu : X.A.units + 64 < cLine) (ha : JE W E X a ma) (hb : JE W E X b mb) (hm : behindInMarks .NotIn b = false := by first | exact nobehind _ (by decide) (by decide) | rfl) : JT W E X (.Compare a [.NotIn] [b] pos) (tBool (fBin (fDIn true) ma mb)) :=
  (pt_cmp (pc_dnotin (by omega) ha hb) hm).imp fun σ H Q z => bin_read (din_ok true) _ _ _ (tst_read z)
theorem js_dput {o i e : Expr} {mo mi m : EM} {pos pos' : Pos} (hu : X.A.units + 64 < cLine) (ho : JE W E X o mo) (hi : JE W E X i mi) (he : JE W E X e m) (hs : swapsWith e (some (.Subscript o i pos')) pos.line X.env = pure false := by rfl) :
    JS W E X (.Assign [.Subscript o i pos'] e pos) (sDPutM mo mi m) := (ps_dput (by omega) ho hi he hs).imp (by
  rintro D σ H ⟨S, l, env, st, rl, re, h⟩
  refine ⟨S, l, env, st, rl, re, (Post.andS (rep := repU W) h).imp ?_⟩
  rintro v H1 ⟨S1, l1, u, st1, x1, r1, p1, h1⟩
  refine ⟨S1, l1, env, st1, r1, re.ext rl x1, (Post.andS (rep := repU W) h1).imp ?_⟩
  rintro x H2 ⟨S2, l2, o', st2, x2, r2, p2, h2⟩
  refine ⟨S2, l2, env, st2, r2, (re.ext rl x1).ext r1 x2, (Post.andS (rep := repU W) h2).imp ?_⟩
  rintro y H3 ⟨S3, l3, k, st3, x3, r3, p3, h3⟩
  split at h3
  · rename_i n k
    split at h3
    · rename_i us e
      split at h3
      · rename_i hl
        cases p3
        obtain ⟨a, kvs, ha, rfl, g1, g2, g3⟩ := dic_rep r3 (p2.ext r2 x3) e
        have w : Ext S3 l3 H3 S3 l3 (upd H3 a (.dK (putK kvs (Sum.inl k : Key) v))) := Ext.write ha
        have pv := ((p1.ext r1 x2).ext r2 x3).ext r3 w
        have hlen : kvs.length = us.length := by have := congrArg List.length g2; simpa using this
        refine ⟨a, _, rfl, DPut.k (k := (Sum.inl k : Key)) g1 (by rw [hlen]; exact hl), ?_⟩
        exact h3 _ _ _ _ w (r3.write ha (c := .dic (ptI us k u)) (pt_rep pv g2 (g3.ext r3 w))) ((((re.ext rl x1).ext r1 x2).ext r2 x3).ext r3 w)
      · exact h3.elim
    · exact h3.elim
  · exact h3.elim)
theorem je_dic1 {k v : Expr} {mk mv : EM} {pos : Pos} (hk : JE W E X k mk) (hv : JE W E X v mv) : JE W E X (.Dict [some k] [v] pos) (mDic1 mk mv) :=
  (pe_disp (pps_cons hk hv pps_nil) rfl rfl (fun z => by cases z) (by show 1 ≤ 15; decide)).imp (by
  rintro σ H Q ⟨S, l, env, st, rl, re, h⟩
  intro p hp
  have x0 : Ext S l H (fun a => S a ∨ a = p) (l ++ [p]) (upd H p (.dK [])) := Ext.cell hp
  have r0 : Rel W (fun a => S a ∨ a = p) (l ++ [p]) (st ++ [.dic []]) (upd H p (.dK [])) := rl.newCell hp ⟨rfl, .nil⟩
  have h0 := Post.ext x0 h
  refine ⟨_, _, env, _, r0, re.ext rl x0, (Post.bind (rep := repU W) h0).imp ?_⟩
  rintro x H1 ⟨S1, l1, u, st1, x1, r1, p1, h1⟩
  refine ⟨S1, l1, env, st1, r1, (re.ext rl x0).ext r0 x1, (Post.bind (rep := repU W) h1).imp ?_⟩
  rintro y H2 ⟨S2, l2, w, st2, x2, r2, p2, h2⟩
  show _ ∧ _
  have p1 := p1.ext r1 x2
  split at h2
  · rename_i i _
    split at h2
    · rename_i e
      cases p1
      have hpl : l2[st.length]? = some p := by
        obtain ⟨q, e1, _⟩ := (x1.trans x2).pre
        rw [e1, List.append_assoc, List.getElem?_append_right (by rw [rl.len]; omega)]
        simp [rl.len]
      obtain ⟨a, kvs, ha, e2, g1, g2, g3⟩ := dic_rep r2 ⟨p, hpl, rfl⟩ e
      rw [hpl] at ha; cases ha
      have hkv : kvs = [] := by
        have := congrArg List.length g2
        simpa using this
      subst hkv
      refine ⟨g1, [((Sum.inl i : Key), y)], rfl, (by show 1 ≤ 15; decide), ?_⟩
      have wr : Ext S2 l2 H2 S2 l2 (upd H2 p (.dK [((Sum.inl i : Key), y)])) := Ext.write hpl
      exact h2 _ _ _ _ wr (r2.write hpl (c := .dic [(i, w)]) ⟨rfl, .cons (p2.ext r2 wr) .nil⟩) ⟨p, hpl, rfl⟩
    · exact h2.elim
  · exact h2.elim)
theorem je_listRg (cell : Bool) {e : Expr} {m : EM} {p p2 pos pos2 : Pos} (hc : X.calm = true) (hg : Gl X "list") (hm : X.mg "list" = none) (hg2 : Gl X "range") (hm2 : X.mg "range" = none) (he : JE W E X e m)
    (hs : starEach [e] X.env = (false, eval e X.env) :: starEach [] X.env := by rfl) (hs2 : starEach [.Call (.Name "range" p2) [e] [] pos2] X.env = (false, eval (.Call (.Name "range" p2) [e] [] pos2) X.env) :: starEach [] X.env := by rfl) :
    JE W E X (.Call (.Name "list" p) [.Call (.Name "range" p2) [e] [] pos2] [] pos) (mListRg cell m) := (pe_listRg hc hg hm (prg_1 hg2 hm2 he hs) hs2).imp (by
  rintro σ H Q ⟨S, l, env, st, rl, re, h⟩
  refine ⟨S, l, env, st, rl, re, (Post.bind (rep := repU W) h).imp ?_⟩
  rintro x H1 ⟨S1, l1, u, st1, x1, r1, p1, h1⟩
  split at h1
  · rename_i j
    split at h1
    · rename_i hb
      cases p1
      have rp : RepUs W S1 l1 H1 (rgV 0 j) (rangeU 0 j.toNat) := by
        unfold rgV rangeU
        rw [Int.sub_zero]
        generalize List.range j.toNat = ns
        induction ns with
        | nil => exact .nil
        | cons a r ih => exact .cons (.int _) ih
      refine ⟨j, rfl, ⟨by omega, by omega, by omega, by omega, by omega⟩, fun q hq => ?_⟩
      split at h1
      · exact new_cell h1 r1 rp hq
      · have rl2 : RepL W S1 H1 (rgV 0 j) ((List.range j.toNat).map fun i => D.int (i : Nat)) := by
          unfold rgV
          rw [Int.sub_zero]
          generalize List.range j.toNat = ns
          induction ns with
          | nil => exact .nil
          | cons a r ih =>
            refine .cons ?_ ih
            show RepD W S1 H1 (.int (0 + (a : Int))) (.int (a : Int))
            rw [Int.zero_add]
            exact .int _
        exact new_lst h1 r1 rl2 hq
    · exact h1.elim
  · exact h1.elim)
end
/-! ### ways into a def's text -/
def nB (st : Stmt) (k : Nat) : Stmt := (defBody st).getD k (.Pass ⟨0, 0, 0, 0⟩)
def nI (k : Nat) : Stmt → Stmt
  | .For _ _ b _ _ => b.getD k (.Pass ⟨0, 0, 0, 0⟩)
  | .While _ b _ _ => b.getD k (.Pass ⟨0, 0, 0, 0⟩)
  | .If _ b _ _ => b.getD k (.Pass ⟨0, 0, 0, 0⟩)
  | s => s
def noE0 : Expr := .Name "" ⟨0, 0, 0, 0⟩
def nV : Stmt → Expr
  | .Assign _ e _ => e
  | .Return (some e) _ => e
  | .Expr e _ => e
  | .For _ e _ _ _ => e
  | .While e _ _ _ => e
  | .If e _ _ _ => e
  | _ => noE0
def nE (j : Nat) : Expr → Expr
  | .Call _ as _ _ => as.getD j noE0
  | .ListComp e _ _ _ => e
  | .GeneratorExp e _ _ _ => e
  | .BinOp a _ b _ => if j = 0 then a else b
  | .Compare a _ bs _ => (a :: bs).getD j noE0
  | .Tuple es _ _ => es.getD j noE0
  | .List es _ => es.getD j noE0
  | .BoolOp _ es _ => es.getD j noE0
  | .UnaryOp _ e _ => e
  | e => e
def nS : Expr → Scope
  | .ListComp _ _ s _ => s
  | .GeneratorExp _ _ s _ => s
  | .DictComp _ _ _ s _ => s
  | e => defScope (.Pass ⟨0, 0, 0, 0⟩)
/-- a comprehension's scope as it is run within another one -/
def reL (scope sc : Scope) : Scope := { scope with names := scope.names.map fun x => match x with
  | (n, k) => if (k == .free && sc.kind == .function && sc.names.lookup n == some .cell) = true then (n, .cell) else (n, k) }
end Ct
set_option Elab.async false
set_option maxRecDepth 100000
set_option maxHeartbeats 4000000
/-! own work: more by functions: enumerate of a list of the store, in of such a list, slices of lists, o[i] += e, o.f += e, comprehensions of two clauses, len(set(xs)). -/
namespace Ct
open PySem PySem.Spec PyProof.Rows L2
section
variable {W : Wd} {E : XK} {X : Cx} {S S' S2 : Addr → Prop} {l l' l2 : List Addr} {H H' H2 : Hp} {st st' st2 : Store}
/-! ### enumerate(xs), xs a list of the store -/
def iEnumC (m : EM) : IM := fun env st => (m env st).bind fun u st1 => match u with
  | .loc n => match st1[n]? with
    | some (.lst us) => match dsOf us with
      | some ds => .ok (some (n, us), (enumD ds).map U.d) st1
      | none => .bad
    | _ => .bad
  | _ => .bad
theorem src_enumG {J : It} {ds : List D} {gd : Option (Nat × List U)} {R : Hp → List V → Prop} (hl : ∀ S' l' st' H', Ext S l H S' l' H' → Rel W S' l' st' H' → guarded gd ((enumD ds).map U.d) st' → ∃ vs, R H' vs ∧ RepL W S' H' vs ds)
    (hJ : J = ⟨fun i H => ∃ (xs : List V) (x : V), R H xs ∧ xs[i]? = some x, fun i H v H' => ∃ T x, v = .ref T ∧ H T = none ∧ H' = upd H T (.tup [.int (i : Nat), x]) ∧ ∀ xs, R H xs → xs[i]? = some x, fun i H => ∃ xs : List V, R H xs ∧ xs.length ≤ i⟩) :
    SrcOk W S l H J (gd, (enumD ds).map U.d) := by
  subst hJ
  intro S' l' st' H' x r hg i
  obtain ⟨vs, q, p⟩ := hl S' l' st' H' x r hg
  refine ⟨fun e => ⟨vs, q, by rw [p.length]; simp [enumD] at e; omega⟩, fun u e => ?_⟩
  obtain ⟨d, h1, rfl⟩ := enum_get e
  obtain ⟨v, h2, h3⟩ := p.get h1
  refine ⟨⟨vs, v, q, h2⟩, ?_⟩
  rintro y H'' ⟨T, z, rfl, hT, rfl, hz⟩
  have := hz vs q
  rw [h2] at this
  cases this
  exact ⟨S', l', Ext.new hT, r.new hT, .tup (.inl (.inl upd_same)) (.cons (.int _) (.cons (h3.ext r (Ext.new (l := l') hT)) .nil))⟩
theorem ji_enumC {e : Expr} {m : EM} {p pos tpos : Pos} {elts : List Expr} {kk : Nat} (hk : X.K = W.K) (hg : Gl X "enumerate") (hm : X.mg "enumerate" = none) (he : JE W E X e m) (hs : starEach [e] X.env = [(false, eval e X.env)] := by rfl)
    (hs2 : starEach [e] X.env = (false, eval e X.env) :: starEach [] X.env := by rfl) : JI W E X (.Tuple elts kk tpos) (.Call (.Name "enumerate" p) [e] [] pos) (iEnumC m) := (pi_enumA hg hm (pa_cons he pa_nil hs2) hs).imp (by
  rintro σ H R ⟨S, l, env, st, rl, re, h⟩
  refine ⟨S, l, env, st, rl, re, (Post.bind (rep := repU W) h).imp ?_⟩
  rintro x H1 ⟨S1, l1, u, st1, x1, r1, p1, h1⟩
  rw [hk]
  split at h1
  · split at h1
    · rename_i us e
      split at h1
      · rename_i ds ed
        obtain ⟨a, vs, ha, rfl, hv, r⟩ := loc_rep r1 p1 e
        refine ⟨a, rfl, .inl ⟨⟨vs, .inl (.inl hv)⟩, h1.ok r1 (src_enumG (R := fun H xs => SqL W.K H a xs) (fun S' l' st' H' x r' hg => ?_) rfl)⟩⟩
        obtain ⟨b, o, h2, h3, h4⟩ := r'.cell _ _ (hg _ _ rfl)
        obtain ⟨r2, e2, _⟩ := x.pre
        rw [e2, List.getElem?_append_left (List.getElem?_eq_some_iff.mp ha).1, ha] at h2
        cases h2
        cases o with
        | lst ws =>
          have h4 : RepUs W S' l' H' ws us := h4
          rw [dsOf_eq ed] at h4
          exact ⟨ws, .inl (.inl h3), h4.ds⟩
        | _ => exact h4.elim
      · exact h1.elim
    · exact h1.elim
  · exact h1.elim)
/-! ### x in xs, xs a list of the store -/
def fInC (neg : Bool) : U → U → Store → R U
  | .d x, .loc n, st => match st[n]? with
    | some (.lst us) => match dsOf us with
      | some ds => inK neg x ds st
      | none => .bad
    | _ => .bad
  | _, _, _ => .bad
theorem inC_ok (neg : Bool) : OpOk W E (rIn W.K neg) (fInC neg) := by
  intro S l st H x y u v Q rl p1 p2 h
  unfold fInC at h
  split at h
  · split at h
    · rename_i us e
      split at h
      · rename_i ds ed
        obtain ⟨a, vs, ha, rfl, hv, r⟩ := loc_rep rl p2 e
        rw [dsOf_eq ed] at r
        unfold inK at h
        split at h
        · rename_i b as e1 e2
          obtain ⟨rfl, f1⟩ := flD_rep p1 e1
          obtain ⟨rfl, f2⟩ := flDs_rep r.ds e2
          exact ⟨a, _, rfl, .inl (.inl (.inl hv)), f1, f2, h.ok rl (.bl _)⟩
        · exact h.elim
      · exact h.elim
    · exact h.elim
  · exact h.elim
theorem je_inC {a b : Expr} {ma mb : EM} {pos : Pos} (hk : X.K = W.K) (ha : JE W E X a ma) (hb : JE W E X b mb) (hm : behindInMarks .In b = false := by first | exact nobehind _ (by decide) (by decide) | rfl) : JE W E X (.Compare a [.In] [b] pos) (fBin (fInC false) ma mb) := je_cmp op_in_seq (by rw [hk]; exact inC_ok false) ha hb hm
theorem je_notinC {a b : Expr} {ma mb : EM} {pos : Pos} (hk : X.K = W.K) (ha : JE W E X a ma) (hb : JE W E X b mb) (hm : behindInMarks .NotIn b = false := by first | exact nobehind _ (by decide) (by decide) | rfl) : JE W E X (.Compare a [.NotIn] [b] pos) (fBin (fInC true) ma mb) := je_cmp op_notIn_seq (by rw [hk]; exact inC_ok true) ha hb hm
theorem jt_inC {a b : Expr} {ma mb : EM} {pos : Pos} (hk : X.K = W.K) (ha : JE W E X a ma) (hb : JE W E X b mb) (hm : behindInMarks .In b = false := by first | exact nobehind _ (by decide) (by decide) | rfl) : JT W E X (.Compare a [.In] [b] pos) (tBool (fBin (fInC false) ma mb)) := jt_cmp op_in_seq (by rw [hk]; exact inC_ok false) ha hb hm
theorem jt_notinC {a b : Expr} {ma mb : EM} {pos : Pos} (hk : X.K = W.K) (ha : JE W E X a ma) (hb : JE W E X b mb) (hm : behindInMarks .NotIn b = false := by first | exact nobehind _ (by decide) (by decide) | rfl) : JT W E X (.Compare a [.NotIn] [b] pos) (tBool (fBin (fInC true) ma mb)) := jt_cmp op_notIn_seq (by rw [hk]; exact inC_ok true) ha hb hm
/-! ### xs[i:j], xs a list that is data -/
def mSliceL (a : EM) (lo hi : OM) : EM := fun env st => (a env st).bind fun u st1 => (lo env st1).bind fun i st2 => (hi env st2).bind fun j st3 => match u with
  | .d (.lst ds) => .ok (.d (.lst (cut ds i j))) st3
  | _ => .bad
theorem je_sliceL {a : Expr} {lo hi : Option Expr} {ma : EM} {ml mh : OM} {p2 pos : Pos} (hk : X.K = W.K) (ha : JE W E X a ma) (hl : JO W E X lo ml) (hh : JO W E X hi mh) : JE W E X (.Subscript a (.Slice lo hi none p2) pos) (mSliceL ma ml mh) := (pe_slice sl_list ha hl hh).imp (by
  rintro σ H Q ⟨S, l, env, st, rl, re, h⟩
  refine ⟨S, l, env, st, rl, re, (Post.bind (rep := repU W) h).imp ?_⟩
  rintro x H1 ⟨S1, l1, u, st1, x1, r1, p1, h1⟩
  have re1 := re.ext rl x1
  refine ⟨S1, l1, env, st1, r1, re1, (Post.bind (rep := repO) h1).imp ?_⟩
  rintro i H2 ⟨S2, l2, i', st2, x2, r2, p2, h2⟩
  have p2 : i = i' := p2
  subst p2
  refine ⟨S2, l2, env, st2, r2, re1.ext r1 x2, (Post.bind (rep := repO) h2).imp ?_⟩
  rintro j H3 ⟨S3, l3, j', st3, x3, r3, p3, h3⟩
  have p3 : j = j' := p3
  subst p3
  have q := (p1.ext r1 x2).ext r2 x3
  rw [hk]
  split at h3
  · cases q with
    | @lst a vs ds q n r => exact ⟨a, vs, rfl, .inl (.inl q), fun p hp => new_lst h3 r3 (r.cut i j) hp⟩
  · exact h3.elim)
/-! ### o[i] += e, o a list of the store -/
def rGetL (K : PySem.W.Frag) : V → V → Hp → VK → Prop := fun x y H Q => ∃ p xs i v, x = .ref p ∧ y = .int i ∧ 0 ≤ i ∧ SqL K H p xs ∧ xs[i.toNat]? = some v ∧ Q v H
theorem get_listP : PGet X (rGetL X.K) := by
  intro pins s σ H x y v u Q I rx ry h
  obtain ⟨p, xs, i, z, rfl, rfl, h0, hq, he, q⟩ := h
  cases rx
  obtain ⟨t, rfl⟩ := ry
  obtain ⟨its, r, pl, hz⟩ := I.list hq
  obtain ⟨w, ew, rw'⟩ := r.get he
  have hlt := (List.getElem?_eq_some_iff.mp ew).1
  have hn := line63
  have hlx := (List.getElem?_eq_some_iff.mp he).1
  exact wpAny_getItem_list pl.isList h0 (by omega) (by simpa using ew) ⟨z, H, I, rw', q⟩
def sAugI (g : Int → Int → Int) (mo mi m : EM) : SM := fun env st => (mo env st).andS fun o st1 => (mi env st1).andS fun i st2 => match o, i with
  | .loc n, .d (.int k) => match st2[n]? with
    | some (.lst us) => if 0 ≤ k then (match us[k.toNat]? with
      | some (.d (.int x)) => (m env st2).andS fun e st3 => match e with
        | .d (.int y) => match st3[n]? with
          | some (.lst us3) => if k.toNat < us3.length then .nx env (st3.set n (.lst (us3.set k.toNat (.d (.int (g x y)))))) else .bad
          | _ => .bad
        | _ => .bad
      | _ => .bad) else .bad
    | _ => .bad
  | _, _ => .bad
theorem js_augI {g : Int → Int → Int} {op : Operator} {o i e : Expr} {mo mi m : EM} {pos tpos : Pos} (hk : X.K = W.K) (ho : JE W E X o mo) (hi : JE W E X i mi) (he : JE W E X e m) (hop : PIp X op (ipI g))
    (ha : ∀ ov iv new, augStore i ov iv new = (do holding [new, ov, iv] (setItem ov iv new); release [new, ov, iv] []; pure .next) := by intros; rfl) : JS W E X (.AugAssign (.Subscript o i tpos) op e pos) (sAugI g mo mi m) := (ps_augS ho hi get_listP he hop set_list ha).imp (by
  rintro D σ H ⟨S, l, env, st, rl, re, h⟩
  refine ⟨S, l, env, st, rl, re, (Post.andS (rep := repU W) h).imp ?_⟩
  rintro x H1 ⟨S1, l1, u, st1, x1, r1, p1, h1⟩
  refine ⟨S1, l1, env, st1, r1, re.ext rl x1, (Post.andS (rep := repU W) h1).imp ?_⟩
  rintro y H2 ⟨S2, l2, v, st2, x2, r2, p2, h2⟩
  have re2 := (re.ext rl x1).ext r1 x2
  have p1 := p1.ext r1 x2
  split at h2
  · rename_i n k _
    split at h2
    · rename_i us e2
      split at h2
      · rename_i hk0
        split at h2
        · rename_i z ez
          cases p2
          obtain ⟨a, vs, ha, rfl, hv, rr⟩ := loc_rep r2 p1 e2
          obtain ⟨w, ew, rw'⟩ := rr.get ez
          cases rw'
          refine ⟨a, vs, k, _, rfl, rfl, hk0, .inl (.inl (by exact hv)), ew, S2, l2, env, st2, r2, re2, (Post.andS (rep := repU W) h2).imp ?_⟩
          rintro b H3 ⟨S3, l3, eb, st3, x3, r3, p3, h3⟩
          split at h3
          · rename_i yv
            cases p3
            split at h3
            · rename_i us3 e3
              split at h3
              · rename_i hlt
                obtain ⟨a', vs3, ha', e4, hv3, rr3⟩ := loc_rep r3 (p1.ext r2 x3) e3
                cases e4
                have w : Ext S3 l3 H3 S3 l3 (upd H3 a (.lst (vs3.set k.toNat (.int (g z yv))))) := Ext.write ha'
                refine ⟨z, yv, rfl, rfl, a, vs3, k, k.toNat, rfl, rfl, hv3, ?_, ?_⟩
                · have := rr3.length
                  have e5 : k < (vs3.length : Int) := by omega
                  unfold ixN
                  rw [if_pos hk0, if_pos e5]
                · exact h3 _ _ _ _ w (r3.write ha' (c := .lst (us3.set k.toNat (.d (.int (g z yv))))) (RepUs.set (show RepU W S3 l3 _ (.int (g z yv)) (.d (.int (g z yv))) from .int _) _ (rr3.ext r3 w))) ((re2.ext r2 x3).ext r3 w)
              · exact h3.elim
            · exact h3.elim
          · exact h3.elim
        · exact h2.elim
      · exact h2.elim
    · exact h2.elim
  · exact h2.elim)
/-! ### o.f += e -/
def getU (f : Str) : List (Str × U) → Option U
  | [] => none
  | (g, w) :: r => if g = f then some w else getU f r
def sAugF (c : Nat) (f : Str) (mo m : EM) : SM := fun env st => (mo env st).andS fun o st1 => match o with
  | .loc n => match st1[n]? with
    | some (.ins c' fs) => if c' = c then (match getU f fs with
      | some (.d (.int x)) => (m env st1).andS fun e st2 => match e with
        | .d (.int y) => match st2[n]? with
          | some (.ins c2 fs2) => if c2 = c ∧ fs2.length ≤ 100 then .nx env (st2.set n (.ins c (putU f (.d (.int (x + y))) fs2))) else .bad
          | _ => .bad
        | _ => .bad
      | _ => .bad) else .bad
    | _ => .bad
  | _ => .bad
theorem ins_rep {n c : Nat} {us : List (Str × U)} {x : V} (rl : Rel W S l st H) (p : RepU W S l H x (.loc n)) (h : st[n]? = some (.ins c us)) : ∃ a dx fs, l[n]? = some a ∧ x = .ref a ∧ H a = some (.ins (W.cls c) dx fs) ∧ fs.map (·.1) = us.map (·.1) ∧ RepUs W S l H (fs.map (·.2)) (us.map (·.2)) := by
  obtain ⟨a, ha, rfl⟩ := p
  obtain ⟨b, o, h1, h2, h3⟩ := rl.cell n _ h
  rw [ha] at h1; cases h1
  cases o with
  | ins C dx fs =>
    obtain ⟨e, h4, h5⟩ := h3
    subst e
    exact ⟨a, dx, fs, ha, rfl, h2, h4, h5⟩
  | _ => exact h3.elim
theorem getU_rep {f : Str} {u : U} : ∀ {us : List (Str × U)} {fs : List (Str × V)}, fs.map (·.1) = us.map (·.1) → RepUs W S l H (fs.map (·.2)) (us.map (·.2)) → getU f us = some u → ∃ v, fs.lookup f = some v ∧ RepU W S l H v u
  | [], _, _, _, h => by cases h
  | (a, x) :: us, [], h, _, _ => by simp at h
  | (a, x) :: us, (b, y) :: fs, h, q, hu => by
    simp only [List.map_cons, List.cons.injEq] at h
    obtain ⟨rfl, h⟩ := h
    simp only [List.map_cons] at q
    cases q with
    | cons q1 q2 =>
      unfold getU at hu
      by_cases e : b = f
      · subst e
        rw [if_pos rfl] at hu
        cases hu
        exact ⟨y, by simp [List.lookup], q1⟩
      · rw [if_neg e] at hu
        obtain ⟨v, h1, h2⟩ := getU_rep h q2 hu
        have e' : (f == b) = false := by simpa using fun z => e z.symm
        exact ⟨v, by simp only [List.lookup, e']; exact h1, h2⟩
theorem js_augF {c : Nat} {f : Str} {o e : Expr} {mo m : EM} {pos tpos : Pos} (hk : X.K = W.K) (cl : Cls W.K (W.cls c)) (na : NoAttr W.K (W.cls c) f) (ho : JE W E X o mo) (he : JE W E X e m) :
    JS W E X (.AugAssign (.Attribute o f tpos) .Add e pos) (sAugF c f mo m) := (ps_fldaug ho he in_add).imp (by
  rintro D σ H ⟨S, l, env, st, rl, re, h⟩
  refine ⟨S, l, env, st, rl, re, (Post.andS (rep := repU W) h).imp ?_⟩
  rintro x H1 ⟨S1, l1, u, st1, x1, r1, p1, h1⟩
  split at h1
  · rename_i n
    split at h1
    · rename_i c' fs0 e0
      split at h1
      · rename_i hc
        subst hc
        split at h1
        · rename_i z ez
          obtain ⟨a, dx, fs, ha, rfl, hv, k1, k2⟩ := ins_rep r1 p1 e0
          obtain ⟨w, ew, rw'⟩ := getU_rep k1 k2 ez
          cases rw'
          refine ⟨a, _, dx, fs, _, rfl, hv, by rw [hk]; exact cl, by rw [hk]; exact na, ew, S1, l1, env, st1, r1, re.ext rl x1, (Post.andS (rep := repU W) h1).imp ?_⟩
          rintro b H2 ⟨S2, l2, eb, st2, x2, r2, p2, h2⟩
          split at h2
          · rename_i y
            cases p2
            split at h2
            · rename_i c2 fs2 e2
              split at h2
              · rename_i hc2
                obtain ⟨rfl, hl2⟩ := hc2
                obtain ⟨a', dx', gs, ha', e4, hv2, g1, g2⟩ := ins_rep r2 (p1.ext r1 x2) e2
                cases e4
                have hlen : gs.length = fs2.length := by have := congrArg List.length g1; simpa using this
                have wr : Ext S2 l2 H2 S2 l2 (upd H2 a (.ins (W.cls c2) dx' (putF f (.int (z + y)) gs))) := Ext.write ha'
                refine ⟨z, y, rfl, rfl, dx', gs, hv2, by omega, ?_⟩
                obtain ⟨q1, q2⟩ := putF_rep (f := f) (u := .d (.int (z + y))) (v := .int (z + y)) (.int _) g1 (g2.ext r2 wr)
                exact h2 _ _ _ _ wr (r2.write ha' (c := .ins c2 (putU f (.d (.int (z + y))) fs2)) ⟨rfl, q1, q2⟩) (((re.ext rl x1).ext r1 x2).ext r2 wr)
              · exact h2.elim
            · exact h2.elim
          · exact h2.elim
        · exact h1.elim
      · exact h1.elim
    · exact h1.elim
  · exact h1.elim)

def intsD : List D → Option (List Int)
  | [] => some []
  | .int i :: r => (intsD r).map (i :: ·)
  | _ :: _ => none
theorem intsD_eq : ∀ {ds : List D} {ns : List Int}, intsD ds = some ns → ds = ns.map D.int
  | [], _, h => by cases h; rfl
  | .int i :: r, _, h => by
    unfold intsD at h
    cases e : intsD r with
    | none => rw [e] at h; cases h
    | some ns => rw [e] at h; cases h; rw [intsD_eq e]; rfl
  | .non :: _, _, h | .bl _ :: _, _, h | .str _ :: _, _, h | .tup _ :: _, _, h | .lst _ :: _, _, h | .frz _ :: _, _, h | .obj _ _ :: _, _, h => by simp [intsD] at h
theorem intsD_map (ns : List Int) : intsD (ns.map D.int) = some ns := by
  induction ns with
  | nil => rfl
  | cons i r ih => simp [intsD, ih]
theorem repL_ints : ∀ {vs : List V} {ns : List Int}, RepL W S H vs (ns.map D.int) → vs = ns.map V.int
  | [], [], _ => rfl
  | _ :: _, [], r => by cases r
  | [], _ :: _, r => by cases r
  | v :: vs, n :: ns, r => by
    simp only [List.map_cons] at r
    cases r with
    | cons a t => cases a; rw [repL_ints t]; rfl
/-! ### [e for t in xs for t1 in ys] -/
def tupI : U → Store → R (List Int)
  | .d (.tup ds), st => match intsD ds with
    | some ns => .ok ns st
    | none => .bad
  | _, _ => .bad
def tItT (W : Wd) (E : XK) (m : EM) : TI := fun σ H R => ∃ S l env st, Rel W S l st H ∧ RepE W S l H σ env ∧ Post W (fun S l H (J : It) (ns : List Int) => ∃ a, J = Itt W.K a ∧ SqT W.K H a (ns.map V.int)) E S l H R ((m env st).bind tupI)
theorem ji_tupI {e : Expr} {m : EM} (hk : X.K = W.K) (he : JE W E X e m) : PI X tg e (tItT W E m) := (pi_both he).imp (by
  rintro σ H R ⟨S, l, env, st, rl, re, h⟩
  refine ⟨S, l, env, st, rl, re, (Post.bind (rep := repU W) h).imp ?_⟩
  rintro x H1 ⟨S1, l1, u, st1, x1, r1, p1, h1⟩
  rw [hk]
  unfold tupI at h1
  split at h1
  · split at h1
    · rename_i ns e
      rw [intsD_eq e] at p1
      cases p1 with
      | @tup a vs ds q r =>
        rw [repL_ints r] at q
        exact ⟨a, rfl, .inr ⟨⟨_, q⟩, h1.ok r1 ⟨a, rfl, q⟩⟩⟩
    · exact h1.elim
  · exact h1.elim)
theorem sqT_upd {D a : Addr} {o : HO} {xs : List V} {vs : List V} (hD : H D = some (.lst xs)) (q : SqT W.K H a vs) : SqT W.K (upd H D o) a vs := by
  have ne : ∀ {a : Addr} {w : HO}, H a = some w → (∀ xs, w ≠ .lst xs) → a ≠ D := fun e n z => by rw [z, hD] at e; cases e; exact n _ rfl
  rcases q with (q | ⟨b, q⟩) | q
  · exact .inl (.inl (by rw [upd_ne (ne q (fun _ z => by cases z))]; exact q))
  · exact .inl (.inr ⟨b, by rw [upd_ne (ne q (fun _ z => by cases z))]; exact q⟩)
  · exact .inr q
theorem RepE.upd {σ : L2.St} {env : EnvD} {D : Addr} {o u : HO} (hS : S D) (hD : H D = some u) (k : Kind u) (r : RepE W S l H σ env) : RepE W S l (upd H D o) σ env := ⟨r.len, fun i u e => let ⟨v, h1, h2⟩ := r.at_ i u e; ⟨v, h1, h2.upd hS hD k⟩⟩
open Classical in
noncomputable def lc2Loop (s : Src) (g : GM) (t : TM) (mi1 : EM) (g1 : GM) (t1 : TM) (e : EM) (vs1 : List Nat) (env : EnvD) : List U → List U → Store → R (List U)
  | [], acc, st => if guarded s.1 s.2 st then .ok acc st else .bad
  | u :: r, acc, st => if guarded s.1 s.2 st then (g u env st).nox.bind fun env1 st1 => (t env1 st1).nox.bind fun b st2 => if b = true then (mi1 env1 st2).nox.bind fun u1 st3 => (tupI u1 st3).nox.bind fun ns st3 => (lcLoop (none, ns.map fun i => U.d (.int i)) g1 t1 e (wipeE env1 vs1) (ns.map fun i => U.d (.int i)) acc st3).bind fun acc' st4 => lc2Loop s g t mi1 g1 t1 e vs1 env r acc' st4
      else lc2Loop s g t mi1 g1 t1 e vs1 env r acc st2 else .bad
noncomputable def lc2Run (vs vs1 : List Nat) (mi : IM) (g : GM) (t : TM) (mi1 : EM) (g1 : GM) (t1 : TM) (e : EM) (k : List U → Store → R U) : EM := fun env st => (mi env st).bind fun s st1 => (lc2Loop s g t mi1 g1 t1 e vs1 (wipeE env vs) s.2 [] st1).bind fun us st2 => k us st2
theorem srcT {a : Addr} {ns : List Int} (q : SqT W.K H a (ns.map V.int)) (i : Nat) : ((ns.map fun i => U.d (.int i)).length = i → (Itt W.K a).stop i H) ∧ ∀ u, (ns.map fun i => U.d (.int i))[i]? = some u → (Itt W.K a).go i H ∧ ∀ x H'', (Itt W.K a).yld i H x H'' → H = H'' ∧ ∀ S l, RepU W S l H x u := by
  refine ⟨fun e => ⟨_, q, by simp at e ⊢; omega⟩, fun u e => ?_⟩
  have hlt := (List.getElem?_eq_some_iff.mp e).1
  simp at hlt
  have e1 : (ns.map V.int)[i]? = some (.int ns[i]) := by simp [hlt]
  have e2 : u = .d (.int ns[i]) := by simp [hlt] at e; exact e.symm
  subst e2
  refine ⟨⟨_, _, q, e1⟩, ?_⟩
  rintro y H'' ⟨rfl, hy⟩
  have := hy _ q
  rw [e1] at this
  cases this
  exact ⟨rfl, fun S l => .int _⟩
theorem lc2_read {vs vs1 ts ts1 : List Nat} {mi : IM} {mi1 : EM} {g g1 : GM} {t t1 : TM} {e : EM} {k : List U → Store → R U} (hts : ∀ i ∈ ts, i ∈ vs) (hts1 : ∀ i ∈ ts1, i ∈ vs1) (hk : KOk W E k) : ∀ σ H Q, tE W E (lc2Run vs vs1 mi g t mi1 g1 t1 e k) σ H Q → tLc2 (tIt W E mi) (tG W E0 ts g) (tT W E0 t) (tItT W E0 mi1) (tG W E0 ts1 g1) (tT W E0 t1) (tE W E0 e) vs vs1 σ H Q := by
  rintro σ H Q ⟨S0, l0, env, st0, rl0, re0, h⟩
  refine ⟨S0, l0, env, st0, rl0, re0, (Post.bind (rep := repI W) h).imp ?_⟩
  rintro J H1 ⟨S1, l1, s, st1, x1, r1, p1, h1⟩ D n1
  have re1 := (re0.ext rl0 x1).wipe vs
  clear h x1 re0 rl0
  obtain ⟨xh, rh⟩ := rel_hold r1 n1
  refine ⟨fun i m G => m = s.2.length - i ∧ i ≤ s.2.length ∧ ∃ S l st acc ws, Ext S1 l1 H1 S l G ∧ Rel W S l st G ∧ S D ∧ D ∉ l ∧ G D = some (.lst ws) ∧ RepUs W S l G ws acc ∧
      Post W (repU W) E S1 l1 H1 Q ((lc2Loop s g t mi1 g1 t1 e vs1 (wipeE env vs) (s.2.drop i) acc st).bind fun us st2 => k us st2),
    ⟨_, rfl, Nat.zero_le _, _, l1, st1, [], [], xh, rh, .inr rfl, fun z => r1.free n1 (r1.sub D z), upd_same, .nil, h1⟩, ?_⟩
  rintro i m G ⟨rfl, hi, S, l, st, acc, ws, x, rl, hS, hl, hD, r, h⟩
  have re := re1.ext r1 x
  by_cases hil : i < s.2.length
  · right
    rw [List.drop_eq_getElem_cons hil] at h
    unfold lc2Loop at h
    split at h
    · rename_i hgd
      obtain ⟨hgo, hy⟩ := (p1 S l st G x rl hgd i).2 s.2[i] (List.getElem?_eq_getElem hil)
      refine ⟨hgo, fun G' => i + 1 ≤ s.2.length ∧ ∃ S l st acc ws, Ext S1 l1 H1 S l G' ∧ Rel W S l st G' ∧ S D ∧ D ∉ l ∧ G' D = some (.lst ws) ∧ RepUs W S l G' ws acc ∧
        Post W (repU W) E S1 l1 H1 Q ((lc2Loop s g t mi1 g1 t1 e vs1 (wipeE env vs) (s.2.drop (i + 1)) acc st).bind fun us st2 => k us st2), fun G' z => ⟨_, by omega, rfl, z⟩, fun y G2 hyl => ?_⟩
      obtain ⟨S2, l2, x2, r2, p2⟩ := hy y G2 hyl
      have go : ∀ {S l st G ws acc S2 l2 st2 G2}, Rel W S l st G → S D → D ∉ l → G D = some (.lst ws) → RepUs W S l G ws acc → Ext S l G S2 l2 G2 → Rel W S2 l2 st2 G2 → S2 D ∧ D ∉ l2 ∧ G2 D = some (.lst ws) ∧ RepUs W S2 l2 G2 ws acc := fun {S l st G ws acc S2 l2 st2 G2} rl hS hl hD r x2 r2 => by
        refine ⟨x2.s1 D hS, fun z => ?_, x2.keep D _ hl hD (fun ps z => by cases z), r.ext rl x2⟩
        obtain ⟨q, e1, f⟩ := x2.pre
        rw [e1] at z
        rcases List.mem_append.mp z with z | z
        · exact hl z
        · rw [f D z] at hD; cases hD
      refine ⟨S2, l2, wipeE env vs, st, _, r2, re.ext rl x2, p2, ?_⟩
      cases eg : g s.2[i] (wipeE env vs) st with
      | bad => rw [eg] at h; exact h.elim
      | exc z q => rw [eg] at h; exact h.elim
      | ok env3 st3 =>
        rw [eg] at h
        rintro σ3 S3 l3 G3 x3 r3 ⟨re3, on3⟩
        refine ⟨by rw [on3.wipe hts, wipe_wipe], S3, l3, env3, st3, r3, re3, ?_⟩
        simp only [R.nox_ok, R.bind_ok] at h
        cases et : t env3 st3 with
        | bad => rw [et] at h; exact h.elim
        | exc z q => rw [et] at h; exact h.elim
        | ok b st4 =>
          rw [et] at h
          simp only [R.nox_ok, R.bind_ok] at h
          rintro b' S4 l4 G4 x4 r4 p4
          have p4 : b' = b := p4
          subst p4
          have x24 := (x2.trans x3).trans x4
          cases b' with
          | false =>
            refine iteF ?_
            rw [if_neg Bool.false_ne_true] at h
            obtain ⟨a1, a2, a3, a4⟩ := go rl hS hl hD r x24 r4
            exact ⟨hil, S4, l4, st4, acc, ws, x.trans x24, r4, a1, a2, a3, a4, h⟩
          | true =>
            refine iteT ?_
            rw [if_pos rfl] at h
            refine ⟨S4, l4, env3, st4, r4, re3.ext r3 x4, ?_⟩
            cases em : mi1 env3 st4 with
            | bad => rw [em] at h; exact h.elim
            | exc z q => rw [em] at h; exact h.elim
            | ok u1 st45 =>
            cases en : tupI u1 st45 with
            | bad => simp only [em, R.nox_ok, R.bind_ok, en] at h; exact h.elim
            | exc z q => simp only [em, R.nox_ok, R.bind_ok, en] at h; exact h.elim
            | ok ns st5 =>
              simp only [em, R.nox_ok, R.bind_ok, en] at h
              rw [R.bind_ok, en]
              rintro J1 S5 l5 G5 x5 r5 ⟨aT, rfl, p5⟩
              have x25 := x24.trans x5
              have re5 := (((re3.ext r3 x4).ext r4 x5)).wipe vs1
              obtain ⟨a1, a2, a3, a4⟩ := go rl hS hl hD r x25 r5
              -- the inner loop
              refine ⟨fun j m G => m = (ns.map fun i => U.d (.int i)).length - j ∧ j ≤ (ns.map fun i => U.d (.int i)).length ∧ ∃ S l st acc ws, Ext S1 l1 H1 S l G ∧ SqT W.K G aT (ns.map V.int) ∧ RepE W S l G (wipe σ3 vs1) (wipeE env3 vs1) ∧ Rel W S l st G ∧ S D ∧ D ∉ l ∧ G D = some (.lst ws) ∧ RepUs W S l G ws acc ∧
                Post W (repU W) E S1 l1 H1 Q (((lcLoop (none, ns.map fun i => U.d (.int i)) g1 t1 e (wipeE env3 vs1) ((ns.map fun i => U.d (.int i)).drop j) acc st).bind fun acc' st4 => lc2Loop s g t mi1 g1 t1 e vs1 (wipeE env vs) (s.2.drop (i + 1)) acc' st4).bind fun us st2 => k us st2),
                ⟨_, rfl, Nat.zero_le _, S5, l5, st5, acc, ws, x.trans x25, p5, re5, r5, a1, a2, a3, a4, h⟩, ?_⟩
              clear h a1 a2 a3 a4
              rintro j m G' ⟨rfl, hj, Sj, lj, stj, accj, wsj, xj, qj, rej, rlj, hSj, hlj, hDj, rj, h⟩
              by_cases hjl : j < (ns.map fun i => U.d (.int i)).length
              · right
                rw [List.drop_eq_getElem_cons hjl] at h
                unfold lcLoop at h
                split at h
                · rename_i hgd1
                  obtain ⟨hgo1, hy1⟩ := (srcT qj j).2 (ns.map fun i => U.d (.int i))[j] (List.getElem?_eq_getElem hjl)
                  refine ⟨hgo1, fun G => j + 1 ≤ (ns.map fun i => U.d (.int i)).length ∧ ∃ S l st acc ws, Ext S1 l1 H1 S l G ∧ SqT W.K G aT (ns.map V.int) ∧ RepE W S l G (wipe σ3 vs1) (wipeE env3 vs1) ∧ Rel W S l st G ∧ S D ∧ D ∉ l ∧ G D = some (.lst ws) ∧ RepUs W S l G ws acc ∧
                    Post W (repU W) E S1 l1 H1 Q (((lcLoop (none, ns.map fun i => U.d (.int i)) g1 t1 e (wipeE env3 vs1) ((ns.map fun i => U.d (.int i)).drop (j + 1)) acc st).bind fun acc' st4 => lc2Loop s g t mi1 g1 t1 e vs1 (wipeE env vs) (s.2.drop (i + 1)) acc' st4).bind fun us st2 => k us st2), fun G z => ⟨_, by omega, rfl, z⟩, fun y G6 hyl1 => ?_⟩
                  obtain ⟨rfl, p6⟩ := hy1 y G6 hyl1
                  have x6 := Ext.refl Sj lj G'
                  have r6 := rlj
                  refine ⟨Sj, lj, wipeE env3 vs1, stj, _, r6, rej, p6 Sj lj, ?_⟩
                  cases eg1 : g1 (ns.map fun i => U.d (.int i))[j] (wipeE env3 vs1) stj with
                  | bad => rw [eg1] at h; exact h.elim
                  | exc z q => rw [eg1] at h; exact h.elim
                  | ok env7 st7 =>
                    rw [eg1] at h
                    rintro σ7 S7 l7 G7 x7 r7 ⟨re7, on7⟩
                    refine ⟨by rw [on7.wipe hts1, wipe_wipe], S7, l7, env7, st7, r7, re7, ?_⟩
                    simp only [R.nox_ok, R.bind_ok] at h
                    cases et1 : t1 env7 st7 with
                    | bad => rw [et1] at h; exact h.elim
                    | exc z q => rw [et1] at h; exact h.elim
                    | ok b st8 =>
                      rw [et1] at h
                      simp only [R.nox_ok, R.bind_ok] at h
                      rintro b' S8 l8 G8 x8 r8 p8
                      have p8 : b' = b := p8
                      subst p8
                      have x68 := (x6.trans x7).trans x8
                      cases b' with
                      | false =>
                        refine iteF ?_
                        rw [if_neg Bool.false_ne_true] at h
                        obtain ⟨a1, a2, a3, a4⟩ := go rlj hSj hlj hDj rj x68 r8
                        exact ⟨hjl, S8, l8, st8, accj, wsj, xj.trans x68, sqT_ext rlj x68 qj, rej.ext rlj x68, r8, a1, a2, a3, a4, h⟩
                      | true =>
                        refine iteT ?_
                        rw [if_pos rfl] at h
                        refine ⟨S8, l8, env7, st8, r8, re7.ext r7 x8, ?_⟩
                        cases ee : e env7 st8 with
                        | bad => rw [ee] at h; exact h.elim
                        | exc z q => rw [ee] at h; exact h.elim
                        | ok u st9 =>
                          rw [ee] at h
                          simp only [R.nox_ok, R.bind_ok] at h
                          rintro v S9 l9 G9 x9 r9 p9
                          have x69 := x68.trans x9
                          obtain ⟨a1, a2, a3, a4⟩ := go rlj hSj hlj hDj rj x69 r9
                          split at h
                          · rename_i hlen
                            obtain ⟨b1, b2, b3⟩ := app_state (xj.trans x69) n1 r9 a1 a2 a3 a4 p9
                            exact ⟨wsj, a3, by rw [a4.length]; exact hlen, hjl, S9, l9, st9, accj ++ [u], _, b1, sqT_upd a3 (sqT_ext rlj x69 qj), (rej.ext rlj x69).upd a1 a3 trivial, b2, a1, a2, upd_same, b3, h⟩
                          · exact h.elim
                · exact h.elim
              · left
                have hje : (ns.map fun i => U.d (.int i)).length = j := by omega
                rw [List.drop_of_length_le (by omega)] at h
                unfold lcLoop at h
                split at h
                · rename_i hgd1
                  exact ⟨(srcT qj j).1 hje, hil, Sj, lj, stj, accj, wsj, xj, rlj, hSj, hlj, hDj, rj, h⟩
                · exact h.elim
    · exact h.elim
  · left
    have hie : s.2.length = i := by omega
    rw [List.drop_of_length_le (by omega)] at h
    unfold lc2Loop at h
    split at h
    · rename_i hgd
      exact ⟨(p1 S l st G x rl hgd i).1 hie, hk S l st G D ws acc Q S1 l1 H1 x r1.dom n1 rl hS hl hD r h⟩
    · exact h.elim
section
variable {elt tg iter tg1 iter1 : Expr} {ifs ifs1 : List Expr} {scope : Scope} {own : List (Str × Nat)} {pos : Pos} {ts ts1 vs1 : List Nat} {mi : IM} {mi1 : EM} {g g1 : GM} {t t1 : TM} {e : EM} {k : List U → Store → R U}
theorem js_setLc2 {i : Nat} {y : Str} {py spos : Pos} (hk1 : X.K = W.K) (hk : KOk W E k) (hts : ∀ i ∈ ts, i ∈ own.map (·.2)) (hts1 : ∀ i ∈ ts1, i ∈ vs1) (hv : ∀ i ∈ vs1, i ∈ own.map (·.2)) (hc : X.calm = true) (hN : X.N.Nodup) (hy : X.N[i]? = some y) (hyl : X.env.scope.names.lookup y = some .local)
    (hsw : swapsWith (.ListComp elt [⟨tg, iter, ifs, 0⟩, ⟨tg1, iter1, ifs1, 0⟩] scope pos) (some (.Name y py)) spos.line X.env = pure true) (hi : JI W E X tg iter mi) (ok : BlkOk X.N X.env.scope scope own)
    (hg : ∀ (s : Shared) (H : Hp) (C : Addr) (cl : List (Str × Addr)) (fp : List Addr), JG W E0 (X.blk s H scope (compEnvC scope cl C X.env) fp) tg ts g) (ht : ∀ (s : Shared) (H : Hp) (C : Addr) (cl : List (Str × Addr)) (fp : List Addr), PTs (X.blk s H scope (compEnvC scope cl C X.env) fp) ifs (tT W E0 t))
    (hi1 : ∀ (s : Shared) (H : Hp) (C : Addr) (cl : List (Str × Addr)) (fp : List Addr), JE W E0 (X.blk s H scope (compEnvC scope cl C X.env) fp) iter1 mi1)
    (hg1 : ∀ (s : Shared) (H : Hp) (C : Addr) (cl : List (Str × Addr)) (fp : List Addr), JG W E0 (X.blk s H scope (compEnvC scope cl C X.env) fp) tg1 ts1 g1) (ht1 : ∀ (s : Shared) (H : Hp) (C : Addr) (cl : List (Str × Addr)) (fp : List Addr), PTs (X.blk s H scope (compEnvC scope cl C X.env) fp) ifs1 (tT W E0 t1))
    (he : ∀ (s : Shared) (H : Hp) (C : Addr) (cl : List (Str × Addr)) (fp : List Addr), JE W E0 (X.blk s H scope (compEnvC scope cl C X.env) fp) elt e) (hs : ∀ x, foldedSetIterable iter X.env x = pure x := by intro _; rfl) (hs1 : ∀ env x, foldedSetIterable iter1 env x = pure x := by intro _ _; rfl) :
    JS W E X (.Assign [.Name y py] (.ListComp elt [⟨tg, iter, ifs, 0⟩, ⟨tg1, iter1, ifs1, 0⟩] scope pos) spos) (sAsg (lc2Run (own.map (·.2)) vs1 mi g t mi1 g1 t1 e k) (gVar i)) := (ps_setLc2 hc hN hy hyl hsw hi ok hv hg ht (fun s H C cl fp => ji_tupI (hk1) (hi1 s H C cl fp)) hg1 ht1 he hs hs1).imp (by
  rintro D σ H ⟨S, l, env, st, rl, re, h⟩
  show tLc2 _ _ _ _ _ _ _ _ _ σ H _
  refine lc2_read hts hts1 hk σ H _ ⟨S, l, env, st, rl, re, (Post.andS (rep := repU W) h).imp ?_⟩
  rintro x H1 ⟨S1, l1, u, st1, x1, r1, p1, h1⟩
  exact h1 _ S1 l1 H1 (Ext.refl _ _ _) r1 ((re.ext rl x1).set i p1))
end
/-! ### len(set(xs)), xs a list of ints -/
def distI (ns : List Int) : Nat := (PyProof.Rows.firstMet (fun i => ns.getD i 0) ns.length).length
theorem pe_lenSetA {K : PySem.W.Frag} (hk : X.K = K) {a : Expr} {ta : TE} {p p2 q pos : Pos} (hc : X.calm = true) (hg : Gl X "len") (hm : X.mg "len" = none) (hg2 : Gl X "set") (hm2 : X.mg "set" = none) (ha : PE X a ta)
    (na : starEach [a] X.env = (false, eval a X.env) :: starEach [] X.env := by rfl) : PE X (.Call (.Name "len" p) [.Call (.Name "set" p2) [a] [] q] [] pos) (fun σ H Q => ta σ H fun x H1 => ∃ (l : Addr) (ns : List Int), x = V.ref l ∧ SqL K H1 l (ns.map V.int) ∧ ns.length < 4000 ∧ Q (.int (distI ns : Nat)) H1) := by
  subst hk
  refine ⟨fun pins s σ H Q I h => ?_⟩
  refine Call_ (ld_blt I hg hm PySem.boot_len ?_)
  refine PyProof.Rows.callWith_builtin1 (PyProof.Rows.args_cons ?_ rfl) rfl rfl
  refine Call_ (ld_blt I hg2 hm2 PyProof.Rows.boot_set ?_)
  refine PyProof.Rows.callWith_type1 (PyProof.Rows.args_cons (thn (ha.run pins s σ H _ I h) fun v s1 ⟨x, H1, I1, r1, q1⟩ => PyProof.Rows.args_nil ?_) na) na rfl
  obtain ⟨l, ns, rfl, hq, h1, q1⟩ := q1
  cases r1
  obtain ⟨its, r, pl, hz⟩ := I1.list hq
  have hl : its.toArray.size = ns.length := by rw [List.size_toArray, ← r.length, List.length_map]
  refine call_set_list (I1.ok.hd hc) pl.isList (ns := ns) (by simpa using r.ints) (by unfold scanBound; omega) fun h' tk hS hk => ?_
  rw [hl] at hS
  refine PyProof.Rows.args_nil ?_
  obtain ⟨o, es, ep, t, ho, hex, hd, _, _, _, hf, hn⟩ := hS
  have I2 : Inv X pins σ H1 { s1 with heap := h', toks := tk } := I1.kept fun b o e => hk b o (Heap.lt_size e) e
  have hle := PyProof.Rows.firstMet_length_le (fun i => ns.getD i 0) ns.length
  exact call_len_set ho hex hd hf (by rw [hn] <;> omega) ⟨.int (distI ns : Nat), H1, I2.tok _, ⟨_, by rw [hn]; rfl⟩, q1⟩
def mLenSetM (m : EM) : EM := fun env st => (m env st).bind fun u st1 => match u with
  | .d (.lst ds) => match intsD ds with
    | some ns => if ns.length < 4000 then .ok (.d (.int (distI ns : Nat))) st1 else .bad
    | none => .bad
  | _ => .bad
theorem je_lenSet {a : Expr} {m : EM} {p p2 q pos : Pos} (hk : X.K = W.K) (hc : X.calm = true) (hg : Gl X "len") (hm : X.mg "len" = none) (hg2 : Gl X "set") (hm2 : X.mg "set" = none) (ha : JE W E X a m)
    (na : starEach [a] X.env = (false, eval a X.env) :: starEach [] X.env := by rfl) : JE W E X (.Call (.Name "len" p) [.Call (.Name "set" p2) [a] [] q] [] pos) (mLenSetM m) := (pe_lenSetA hk hc hg hm hg2 hm2 ha na).imp (by
  rintro σ H Q ⟨S, l, env, st, rl, re, h⟩
  refine ⟨S, l, env, st, rl, re, (Post.bind (rep := repU W) h).imp ?_⟩
  rintro x H1 ⟨S1, l1, u, st1, x1, r1, p1, h1⟩
  split at h1
  · rename_i ds
    split at h1
    · rename_i ns e
      split at h1
      · rename_i hl
        rw [intsD_eq e] at p1
        cases p1 with
        | @lst a vs ds q n r =>
          rw [repL_ints r] at q
          exact ⟨a, ns, rfl, .inl (.inl q), hl, h1.ok r1 (.int _)⟩
      · exact h1.elim
    · exact h1.elim
  · exact h1.elim)
end
end Ct
set_option Elab.async false
set_option maxRecDepth 100000
set_option maxHeartbeats 4000000
/-! own work: == and != of an instance by the text's own __eq__, whatever it answers. -/
namespace Ct
open PySem PySem.Spec PyProof.Rows L2
section
variable {W : Wd} {E : XK} {X : Cx}
/-- the other value: an instance of the same class, or a tuple -/
def OthV (K : PySem.W.Frag) (C : Addr) (y : V) (H : Hp) : Prop := (∃ b dy gs, y = .ref b ∧ H b = some (.ins C dy gs)) ∨ ∃ b ys, y = .ref b ∧ SqT K H b ys
def rOwn (K : PySem.W.Frag) (C : Addr) (neg : Bool) (sp : Sp) (E : XK) : R2 := fun x y H Q => ∃ a dx fs, x = .ref a ∧ H a = some (.ins C dx fs) ∧ OthV K C y H ∧ sp [x, y] H (fun v H' => ∃ b, v = .bl b ∧ Q (.bl (if neg then !b else b)) H') E
theorem notFirst_tup (K : PySem.W.Frag) (C : Addr) : PySem.W.notFirst K C (.type "tuple") = true := by
  have e : PySem.W.subIn K (.type "tuple") (.ref C) = some false := by
    show (fastBuiltinMro "tuple").map _ = _
    rw [show fastBuiltinMro "tuple" = some [.type "tuple", .type "object"] by kernel_rfl]
    rfl
  unfold PySem.W.notFirst
  rw [e]
  simp
theorem op_eqO {k : Nat} {f C : Addr} {fd : FuncData} {ps : List Str} {sp : Sp} (F : FnOk X.prog X.w X.K X.mg X.base (L2.CX X.prog X.w) k f fd ps sp) (hs : PySem.W.findIn X.K (.ref C) "__eq__" = some (some (.ref f))) (hf : PySem.W.isFn X.K (.ref f) = true)
    (hb : Binds X.K fd ps []) (hx : Passes (L2.CX X.prog X.w) X E) (hr : Room k X.A) : OpR X (compareOp .Eq) (rOwn X.K C false sp E) := by
  intro pins s σ H x y v u Q I rx ry hq
  obtain ⟨a, dx, fs, rfl, ha, ho, hsp⟩ := hq
  show wpAny (model X.prog X.w) X.A (richCompare .Eq v u) (EP X pins σ Q) X.xe s
  cases rx
  obtain ⟨mA, J, _⟩ := ins_get I.hok ha
  obtain ⟨od, J, _⟩ := J.look
  obtain ⟨m, hF⟩ := I.fr
  obtain ⟨b, tb, rfl, hn, hl⟩ : ∃ b tb, y = .ref b ∧ PySem.W.notFirst X.K C tb = true ∧ PySem.W.Looks (model X.prog X.w) s.heap (typeOf (.ref b)) tb := by
    rcases ho with ⟨b, dy, gs, rfl, hb'⟩ | ⟨b, ys, rfl, hb'⟩
    · obtain ⟨mB, J', _⟩ := ins_get I.hok hb'
      obtain ⟨od', J', _⟩ := J'.look
      exact ⟨b, .ref C, rfl, by simp [PySem.W.notFirst], J'.type⟩
    · obtain ⟨its, r, e, z⟩ := I.tuple hb'
      refine ⟨b, .type "tuple", rfl, notFirst_tup _ _, ?_⟩
      obtain ⟨o, ho, hc, n, hd⟩ := id e
      have L : PySem.W.Looks (model X.prog X.w) s.heap (typeOf (.ref b)) o.cls := (PySem.W.Looks.ld (part := none) ho).andThen .now
      rw [hc] at L
      exact L
  cases ry
  refine PySem.W.cmp_K (op := .Eq) (tb := tb) hr.units0 hF I.ok.mod.kin J hl hn hs hf ?_
  have hl := F.len _ _ _ _ hsp
  have r2 : Vals [V.ref a, V.ref b] [Value.ref a, Value.ref b] := .cons rfl (.cons rfl .nil)
  refine wpAny_call (codeAny_mono (F.run X.A X.stack s H ⟨[.ref a, .ref b], []⟩ [.ref a, .ref b] [.ref a, .ref b] _ E hr I.env0 (by
    have := hb s [.ref a, .ref b] I.kIn (by simpa using hl)
    simpa using this) r2 hsp) fun r s' hq => ?_)
  cases r with
  | error e => exact hx pins σ H s e s' I hq
  | ok fl =>
    cases fl with
    | ret w =>
      obtain ⟨z, H', I', rz, b', ez, ex⟩ := I.after hq
      subst ez
      cases rz
      exact ⟨.bl b', H', I', rfl, ex⟩
    | next => exact False.elim hq
    | brk => exact False.elim hq
    | cont => exact False.elim hq

/-! ### != -/
section
variable {prog : Program} {w : World} {A : Around} {Er : Value → Shared → Prop} {s : Shared} {K : PySem.W.Frag} {x C f : Addr} {ox : Obj} {od : Option Obj} {b tb : Value} {Q : Value → Shared → Prop}
/-- the instance is an object -/
theorem check_ne (X : K.In s.heap) (I : PySem.W.InstAt s.heap x ox C od) (hob : PySem.W.mroIn K C (.type "object") = some true) {Q : Unit → Shared → Prop} (hq : Q () s) :
    wpAny (model prog w) A (checkBuiltinCall "object.__ne__" ⟨[.ref x, b], []⟩) Q Er s := by
  simp only [checkBuiltinCall, F.cmpKind_ne, F.cmpSplit_ne]
  refine wpAny_bind ?_
  have L : PySem.W.Looks (model prog w) s.heap (isInstance (.ref x) (.type "object")) true := I.type.andThen (PySem.W.looks_mroIn X hob)
  refine L.here ?_
  simp only [Bool.not_true, Bool.false_eq_true, if_false]
  have ha := F.cmpArgs_ne (.ref x) b
  cases hsig : Manifest.signature? "object.__ne__" with
  | none => exact wpAny_pure hq
  | some sig =>
    simp only [argsOk, hsig] at ha
    have h2 : Bind.checkArgs "object.__ne__" sig ⟨[.ref x, b], []⟩ = pure () := ha
    show wpAny _ A (Bind.checkArgs "object.__ne__" sig ⟨[.ref x, b], []⟩) Q Er _
    rw [h2]; exact wpAny_pure hq
theorem ne_K (hu : A.in1.units < cLine) (hu2 : A.units < cLine) (h₀ : Heap) (X : K.In s.heap) (I : PySem.W.InstAt s.heap x ox C od) (hb : PySem.W.Looks (model prog w) s.heap (typeOf b) tb) (hn : PySem.W.notFirst K C tb = true)
    (hne : PySem.W.findIn K (.ref C) "__ne__" = some (some (.builtin "object.__ne__"))) (hob : PySem.W.mroIn K C (.type "object") = some true) (hs : PySem.W.findIn K (.ref C) "__eq__" = some (some (.ref f))) (hf : PySem.W.isFn K (.ref f) = true)
    (h : wpAny (model prog w) A.in1 (call (.ref f) [.ref x, b]) (fun v s' => ∃ r, v = .bool r ∧ Q (.bool (!r)) s') Er s) : wpAny (model prog w) A (richCompare .NotEq (.ref x) b) Q Er s := by
  have body : wpAny (model prog w) A.in1 (Builtin.«object.__ne__» ⟨[.ref x, b], []⟩) (fun fin s' => match fin with | .done f => wants (fun v s' => ∃ r, v = .bool r ∧ Q (.bool r) s') Er (.ok f) s' | .again c' => c'.quiet = true ∧ codeAny (model prog w) A c' (wants (fun v s' => ∃ r, v = .bool r ∧ Q (.bool r) s') Er) s') Er s := by
    unfold Builtin.«object.__ne__»
    refine wpAny_bind (wpAny_pure ?_)
    refine wpAny_bind (wpAny_cRoomFor hu ?_)
    refine wpAny_bind (PySem.W.ifBound_K X I hs hf (wpAny_mono h (fun v s' hv => ?_) fun _ _ e => e))
    obtain ⟨r, rfl, hq⟩ := hv
    refine wpAny_bind (wpAny_truthy_bool ?_)
    exact wpAny_pure ⟨_, rfl, hq⟩
  have one : wpAny (model prog w) A (tryCompare (.ref x) (cmpInfo .NotEq).2.1 b) (fun r s' => ∃ v, r = some v ∧ Q v s') Er s := by
    unfold tryCompare
    refine wpAny_bind ?_
    simp only [callSpecialIfBound?, bindSpecialIfBound?]
    refine wpAny_holding (wpAny_bind (wpAny_bind (wpAny_bind (I.type.here ((PySem.W.looks_findIn X hne).here ?_)))))
    have call1 : wpAny (model prog w) A (call (.builtin "object.__ne__") [.ref x, b]) (fun v s' => ∃ r, v = .bool r ∧ Q (.bool r) s') Er s :=
      wpAny_call (codeAny_call_builtin F.cmp_object.ne.plain F.cmpEntry_ne (check_ne X I hob body))
    have fin : wpAny (model prog w) A (call (.builtin "object.__ne__") ([.ref x] ++ [b]) >>= fun v => pure (some v)) (fun a s' => wpAny (model prog w) A (match a with
      | some Value.notImplemented => pure none
      | none => pure none
      | some v => pure (some v)) (fun r s' => ∃ v, r = some v ∧ Q v s') Er s') Er s :=
      wpAny_bind (wpAny_mono call1 (fun v s' h' => by
        obtain ⟨r, rfl, hq⟩ := h'
        exact wpAny_pure (wpAny_pure ⟨_, rfl, hq⟩)) fun _ _ h' => h')
    simp only [F.cmp_object.ne.bind]
    refine wpAny_bind (wpAny_askSetting (wpAny_ite ?_))
    split
    · exact wpAny_bind (wpAny_pure (wpAny_pure fin))
    · exact wpAny_tryCatch (wpAny_bind (wpAny_pure (wpAny_pure fin)))
  unfold richCompare
  simp only [oneThing_ref]
  refine wpAny_holding (wpAny_bind (wpAny_cRoomFor hu2 ?_))
  refine wpAny_bind (I.type.here (wpAny_bind (hb.here ?_)))
  split
  · rename_i q
    have e : PySem.W.subIn K tb (.ref C) = some false := by
      rcases Bool.or_eq_true_iff.mp hn with e | e
      · rw [beq_iff_eq.mp e] at q; simp at q
      · exact beq_iff_eq.mp e
    refine wpAny_bind ((PySem.W.looks_subIn X e).here ?_)
    simp only [Bool.false_eq_true, if_false]
    refine wpAny_bind (wpAny_mono one (fun r s' z => ?_) fun _ _ e => e)
    obtain ⟨v, rfl, hq⟩ := z
    exact wpAny_pure hq
  · refine wpAny_bind (wpAny_pure ?_)
    simp only [Bool.false_eq_true, if_false]
    refine wpAny_bind (wpAny_mono one (fun r s' z => ?_) fun _ _ e => e)
    obtain ⟨v, rfl, hq⟩ := z
    exact wpAny_pure hq
end
end
section
variable {W : Wd} {E : XK} {X : Cx}
theorem op_neO {k : Nat} {f C : Addr} {fd : FuncData} {ps : List Str} {sp : Sp} (F : FnOk X.prog X.w X.K X.mg X.base (L2.CX X.prog X.w) k f fd ps sp) (hne : PySem.W.findIn X.K (.ref C) "__ne__" = some (some (.builtin "object.__ne__"))) (hob : PySem.W.mroIn X.K C (.type "object") = some true)
    (hs : PySem.W.findIn X.K (.ref C) "__eq__" = some (some (.ref f))) (hf : PySem.W.isFn X.K (.ref f) = true)
    (hb : Binds X.K fd ps []) (hx : Passes (L2.CX X.prog X.w) X E) (hr : Room (k + 1) X.A) : OpR X (compareOp .NotEq) (rOwn X.K C true sp E) := by
  intro pins s σ H x y v u Q I rx ry hq
  obtain ⟨a, dx, fs, rfl, ha, ho, hsp⟩ := hq
  show wpAny (model X.prog X.w) X.A (richCompare .NotEq v u) (EP X pins σ Q) X.xe s
  cases rx
  obtain ⟨mA, J, _⟩ := ins_get I.hok ha
  obtain ⟨od, J, _⟩ := J.look
  obtain ⟨b, tb, rfl, hn, hl⟩ : ∃ b tb, y = .ref b ∧ PySem.W.notFirst X.K C tb = true ∧ PySem.W.Looks (model X.prog X.w) s.heap (typeOf (.ref b)) tb := by
    rcases ho with ⟨b, dy, gs, rfl, hb'⟩ | ⟨b, ys, rfl, hb'⟩
    · obtain ⟨mB, J', _⟩ := ins_get I.hok hb'
      obtain ⟨od', J', _⟩ := J'.look
      exact ⟨b, .ref C, rfl, by simp [PySem.W.notFirst], J'.type⟩
    · obtain ⟨its, r, e, z⟩ := I.tuple hb'
      refine ⟨b, .type "tuple", rfl, notFirst_tup _ _, ?_⟩
      obtain ⟨o, ho, hc, n, hd⟩ := id e
      have L : PySem.W.Looks (model X.prog X.w) s.heap (typeOf (.ref b)) o.cls := (PySem.W.Looks.ld (part := none) ho).andThen .now
      rw [hc] at L
      exact L
  cases ry
  refine ne_K hr.in1.units0 hr.units0 X.base I.kIn J hl hn hne hob hs hf ?_
  have hl := F.len _ _ _ _ hsp
  have r2 : Vals [V.ref a, V.ref b] [Value.ref a, Value.ref b] := .cons rfl (.cons rfl .nil)
  refine wpAny_call (codeAny_mono (F.run X.A.in1 X.stack s H ⟨[.ref a, .ref b], []⟩ [.ref a, .ref b] [.ref a, .ref b] _ E hr.in1 I.env0.in1 (by
    have := hb s [.ref a, .ref b] I.kIn (by simpa using hl)
    simpa using this) r2 hsp) fun r s' hq => ?_)
  cases r with
  | error e => exact hx pins σ H s e s' I hq
  | ok fl =>
    cases fl with
    | ret w =>
      obtain ⟨z, H', I', rz, b', ez, ex⟩ := I.after hq
      subst ez
      cases rz
      exact ⟨b', rfl, .bl (!b'), H', I', rfl, ex⟩
    | next => exact False.elim hq
    | brk => exact False.elim hq
    | cont => exact False.elim hq
/-! ### as functions -/
def othD (c : Nat) : D → Bool
  | .obj c' _ => decide (c' = c)
  | .tup _ => true
  | _ => false
def negK (neg : Bool) (u : U) (st : Store) : R U := match u with
  | .d (.bl b) => .ok (.d (.bl (if neg then !b else b))) st
  | _ => .bad
@[simp] theorem negK_e (neg b : Bool) (st : Store) : negK neg (.d (.bl b)) st = .ok (.d (.bl (if neg then !b else b))) st := rfl
def fOwn (c : Nat) (F : FM) (neg : Bool) : U → U → Store → R U
  | .d (.obj c' ds), .d y, st => if c' = c ∧ othD c y = true then (backP (F [.d (.obj c' ds), .d y] []) st).bind (negK neg) else .bad
  | _, _, _ => .bad
theorem own_ok {c : Nat} {F : FM} {neg : Bool} : OpOk W E (rOwn W.K (W.cls c) neg (spF W 2 F) E) (fOwn c F neg) := by
  intro S l st H x y u v Q rl p1 p2 h
  unfold fOwn at h
  split at h
  · rename_i c' ds y'
    split at h
    · rename_i hc
      obtain ⟨rfl, ho⟩ := hc
      have p1' := p1
      have p2' := p2
      cases p1 with
      | @obj a dx c fs vs ds ha n ee ll r =>
        refine ⟨a, dx, fs, rfl, ha, ?_, rfl, S, [], [.d (.obj c' ds), .d y'], [], rl.none_of, .cons p1' (.cons p2' .nil), backP_read rl ?_⟩
        · cases y' with
          | obj c2 es =>
            have : c2 = c' := by simpa [othD] using ho
            subst this
            cases p2 with
            | @obj b dy c gs ws es hb n2 e2 l2 r2 => exact .inl ⟨b, dy, gs, rfl, hb⟩
          | tup es =>
            cases p2 with
            | @tup b ws es q r2 => exact .inr ⟨b, ws, rfl, q⟩
          | _ => cases ho
        · cases hb : backP (F [.d (.obj c' ds), .d y'] []) st with
          | bad => rw [hb] at h; exact h.elim
          | exc z t => rw [hb] at h; exact h
          | ok z t =>
            rw [hb] at h
            simp only [R.bind_ok] at h
            unfold negK at h
            split at h
            · rename_i b
              intro w S' l' H' x' r' p'
              cases p'
              exact ⟨b, rfl, h _ _ _ _ x' r' (.bl _)⟩
            · exact h.elim
    · exact h.elim
  · exact h.elim
section
variable {c k : Nat} {f : Addr} {ps : List Str} {F : FM} {a b : Expr} {ma mb : EM} {pos : Pos}
theorem je_eqO (hk : X.K = W.K) (tk : TakesE X E) (M : Meth W.K (W.cls c) "__eq__" f) (G : Good X.prog X.w W X.mg X.base k f ps F) (hps : ps.length = 2) (hr : Room k X.A) (ha : JE W E X a ma) (hb : JE W E X b mb) (hm : behindInMarks .Eq b = false := by first | exact nobehind _ (by decide) (by decide) | rfl) :
    JE W E X (.Compare a [.Eq] [b] pos) (fBin (fOwn c F false) ma mb) := by
  obtain ⟨⟨fd, G1, G2⟩, G3⟩ := G
  rw [hps] at G1
  rw [← hk] at G1 G2 M
  exact je_cmp (op_eqO G1 M.at_ M.fn G2 (passE tk) hr) (by rw [hk]; exact own_ok) ha hb hm
theorem jt_eqO (hk : X.K = W.K) (tk : TakesE X E) (M : Meth W.K (W.cls c) "__eq__" f) (G : Good X.prog X.w W X.mg X.base k f ps F) (hps : ps.length = 2) (hr : Room k X.A) (ha : JE W E X a ma) (hb : JE W E X b mb) (hm : behindInMarks .Eq b = false := by first | exact nobehind _ (by decide) (by decide) | rfl) :
    JT W E X (.Compare a [.Eq] [b] pos) (tBool (fBin (fOwn c F false) ma mb)) := by
  obtain ⟨⟨fd, G1, G2⟩, G3⟩ := G
  rw [hps] at G1
  rw [← hk] at G1 G2 M
  exact jt_cmp (op_eqO G1 M.at_ M.fn G2 (passE tk) hr) (by rw [hk]; exact own_ok) ha hb hm
theorem jt_neO (hk : X.K = W.K) (tk : TakesE X E) (M : Meth W.K (W.cls c) "__eq__" f) (hne : PySem.W.findIn W.K (.ref (W.cls c)) "__ne__" = some (some (.builtin "object.__ne__"))) (hob : PySem.W.mroIn W.K (W.cls c) (.type "object") = some true)
    (G : Good X.prog X.w W X.mg X.base k f ps F) (hps : ps.length = 2) (hr : Room (k + 1) X.A) (ha : JE W E X a ma) (hb : JE W E X b mb) (hm : behindInMarks .NotEq b = false := by first | exact nobehind _ (by decide) (by decide) | rfl) :
    JT W E X (.Compare a [.NotEq] [b] pos) (tBool (fBin (fOwn c F true) ma mb)) := by
  obtain ⟨⟨fd, G1, G2⟩, G3⟩ := G
  rw [hps] at G1
  rw [← hk] at G1 G2 M hne hob
  exact jt_cmp (op_neO G1 hne hob M.at_ M.fn G2 (passE tk) hr) (by rw [hk]; exact own_ok) ha hb hm
end
end
end Ct
set_option Elab.async false
set_option maxRecDepth 100000
set_option maxHeartbeats 4000000
/-! own work: promises that hold where no text of a container is under way (guards = some []): for repr. -/
namespace Ct
open PySem PySem.Spec PyProof.Rows L2
section
variable {P : Program} {w : World} {W : Wd} {mg : Str → Option Value} {base : Heap}
/-- one run of a def, at one place -/
theorem run_at {CX : CXT} {K : PySem.W.Frag} {k : Nat} {f : Addr} {name qual : Str} {params : Arguments} {body : List Stmt} {scope : Scope} {dV kV doc pm cdv ct oc : Value} {an od : Option Addr} {osl : Array (Option Value)} {N ps : List Str}
    (lk : K.lookup f = some ⟨oc, od, .func (PySem.W.fnOf name qual params body scope dV kV doc pm an cdv ct), osl⟩) (hcd : PySem.W.codeIn K cdv qual = true) (Sc : FnScope N ps scope)
    {A : Around} {outer : List Env} {s : Shared} {H : Hp} {args : Args} {us : List Value} {vs : List V} {Q : VK} {E : XK} {t : TS} (hr : Room (k + 1) A) (e0 : Env0 P w K mg base A outer s H)
    (hb : BindsTo s (PySem.W.fnOf name qual params body scope dV kV doc pm an cdv ct) args (ps.zip us)) (r : Vals vs us) (hl : vs.length = ps.length)
    (ht : PSs (cxOf CX P w K mg base N qual scope f cdv A outer s H E) body t) (hq : t { nx := fun _ H' => Q .non H', rt := Q } (start N vs) H) :
    codeAny (model P w) A (.call (.ref f) args) (CR CX outer P w H s Q E) s := by
  have old : ∀ b o, base.get? b = some o → s.heap.get? b = some o := fun b o e => (e0.bs b o e).1
  have KX : K.In s.heap := e0.mod.kin.keeps old
  have kinds : ∀ y ∈ ps.zip us, scope.names.lookup y.1 = some .local ∨ (scope.names.lookup y.1 = some .cell ∧ ((cellsFrom (s.heap.objs.size + 1) scope.names []).lookup y.1).isSome = true) := by
    rintro ⟨n, v⟩ hy
    exact (Sc.par n (List.of_mem_zip hy).1).imp id fun q => ⟨q, PySem.W.cellsFrom_some _ _ _ (.inl q)⟩
  refine codeAny_call_function hr.depth (KX _ _ lk) rfl Sc.co Sc.gen rfl (PySem.W.codeRec_of KX hcd) (hb _ _ _ _ (wpAny_newFunctionEnv_cells Sc.kind kinds fun env he s1 x => ?_))
  subst he
  refine ⟨(e0.mod.nolimit.keeps old).keeps x.toInCall.keep, codeAny_func ?_⟩
  refine wpAny_mono (ht.run [] s1 _ H _ (inv_start Sc hr.hd e0 hl r x) hq) (fun fl s' hs => ?_) fun _ _ z => z
  cases fl <;> first
    | (obtain ⟨v, σ', H', J, rv, q⟩ := hs; exact ⟨v, H', J.os, J.bare, J.base, J.hok, rv, q⟩)
    | (obtain ⟨σ', H', J, q⟩ := hs; exact ⟨.non, H', J.os, J.bare, J.base, J.hok, rfl, q⟩)
    | (obtain ⟨_, _, _, q⟩ := hs; exact q.elim)
/-- as Good, where nothing is under way -/
structure GoodG (P : Program) (w : World) (W : Wd) (mg : Str → Option Value) (base : Heap) (k : Nat) (f : Addr) (ps : List Str) (F : FM) : Prop where
  run : ∀ (A : Around) (outer : List Env) (s : Shared) (H : Hp) (us : List Value) (vs : List V) (Q : VK) (E : XK), Room k A → A.guards = some [] → Env0 P w W.K mg base A outer s H → Vals vs us → spF W ps.length F vs H Q E →
    codeAny (model P w) A (.call (.ref f) ⟨us, []⟩) (CR (L2.CX P w) outer P w H s Q E) s
theorem goodG_of {p : He.Defn} {name qual : Str} {params : Arguments} {body : List Stmt} {scope : Scope} {dvs : List V} {kws : List (Str × V)} {N ps : List Str} {k : Nat} {m : SM}
    (D : ∃ fd, FunD W.K name qual params body scope dvs kws (He.fAd W.K p) fd) (Sc : FnScope N ps scope) (hbd : ∀ fd, FunD W.K name qual params body scope dvs kws (He.fAd W.K p) fd → Binds W.K fd ps [])
    (hb : ∀ (A : Around) (outer : List Env) (s' : Shared) (H : Hp) (E : XK), Room k (A.deeper (envOfC qual scope s'.heap.objs.size (He.fAd W.K p) (.ref (He.codeOf W.K p)))) → A.guards = some [] →
      JSs W E (cxOf (L2.CX P w) P w W.K mg base N qual scope (He.fAd W.K p) (.ref (He.codeOf W.K p)) A outer s' H E) body m) :
    GoodG P w W mg base (k + 1) (He.fAd W.K p) ps (runB N.length m) := by
  obtain ⟨fd, F⟩ := D
  have hbd := hbd fd F
  obtain ⟨oc, od, dV, kV, doc, pm, an, cdv, ct, osl, rfl, lk, hcd, _, _⟩ := F.ex
  obtain ⟨c, rfl⟩ := He.codeIn_ref hcd
  have ec : He.codeOf W.K p = c := He.codeOf_eq lk rfl
  subst ec
  have hpl : ps.length ≤ N.length := by have := congrArg List.length Sc.pre; rw [List.length_take] at this; omega
  refine ⟨fun A outer s H us vs Q E hr hg e0 r hsp => ?_⟩
  have hl : vs.length = ps.length := hsp.1
  have hl2 : us.length = ps.length := by rw [← r.length]; exact hl
  have KX : W.K.In s.heap := e0.mod.kin.keeps fun b o e => (e0.bs b o e).1
  have bb := hbd s us KX (by rw [List.append_nil]; exact hl2)
  rw [List.append_nil] at bb
  exact run_at lk hcd Sc hr e0 bb r hl (hb A outer s H E (hr.deeper _) hg) (body_read hsp hpl)
end
end Ct
namespace Ct
open PySem PySem.Spec PyProof.Rows L2
/-- what is tracked at the law's call: the script (where the row's constants do not hold it), the tables -/
noncomputable def H0 (K : PySem.W.Frag) (a : Addr) (o : Obj) (xs : List V) (T : List Addr) : Hp := open Classical in fun b => if b = a ∧ K.lookup a = none then some (.frz o (.lst xs)) else if b ∈ T then some (.tbl #[]) else none
section
variable {K : PySem.W.Frag} {a : Addr} {o : Obj} {xs : List V} {T : List Addr}
theorem H0_a (h : K.lookup a = none) : H0 K a o xs T a = some (.frz o (.lst xs)) := if_pos ⟨rfl, h⟩
theorem H0_t {b : Addr} (hb : b ∈ T) (ha : a ∉ T) : H0 K a o xs T b = some (.tbl #[]) := (if_neg (fun z : b = a ∧ K.lookup a = none => ha (z.1 ▸ hb))).trans (if_pos hb)
theorem H0_inv {b : Addr} {u : HO} (h : H0 K a o xs T b = some u) : (b = a ∧ K.lookup a = none ∧ u = .frz o (.lst xs)) ∨ (b ∈ T ∧ u = .tbl #[]) := by
  unfold H0 at h
  split at h
  · rename_i z
    cases h
    exact .inl ⟨z.1, z.2, rfl⟩
  · split at h
    · rename_i z
      cases h
      exact .inr ⟨z, rfl⟩
    · cases h
end
/-- the law's call, from what holds at the one place from which it is called -/
theorem call_own {P : Program} {w : World} {K : PySem.W.Frag} {mg mb : Str → Option Value} {fa a : Addr} {cs : List (Addr × Addr)} {s₁ : Shared} {vs : List Value} {ns : List Int}
    (KX : K.In s₁.heap) (hns : s₁.heap.Ns mainGlobals mg) (hb : s₁.heap.Ns builtinsNs mb) (hbb : ∀ x : Str, x ≠ "__name__" → mb x = bootBuiltins x) (hlim : s₁.heap.NoLimit) (hg : s₁.gens = #[])
    (hT : ∀ p ∈ cs, s₁.heap.get? p.2 = some { cls := .none, data := .fields #[] }) (nT : ∀ p ∈ cs, K.lookup p.2 = none) (C : ∀ p ∈ cs, PySem.W.CodeHd s₁.heap p.1 p.2)
    (hbm : ∃ (bm : Addr) (ob : Obj), mg "__builtins__" = some (.ref bm) ∧ bm ≠ builtinsNs ∧ s₁.heap.get? bm = some ob ∧ ob.cls = .type "module" ∧ ob.dict = some builtinsNs ∧ ob.data = .plain)
    (ha : s₁.heap.get? a = some { cls := .type "list", data := .seq vs.toArray }) (hi : IntsAre vs ns) (hl : ns.length ≤ sizeLine)
    (F : ∀ (base : Heap) (H : Hp), Env0 P w K mg base callerA [] s₁ H → (∀ p ∈ cs, LamX.TabB base mg p.1 p.2) → (∀ p ∈ cs, H p.2 = some (.tbl #[])) → SqL K H a (ns.map V.int) →
      codeAny (model P w) callerA (.call (.ref fa) ⟨[.ref a], []⟩) (CR (L2.CX P w) [] P w H s₁ (fun v _ => v = .bl true) fun _ _ _ => False) s₁) :
    codeAny (model P w) callerA (.call (.ref fa) ⟨[.ref a], []⟩) (fun r s' => r = .ok (.ret (.bool true)) ∧ OldK s₁.heap s'.heap ∧ s'.os = s₁.os ∧ AllBare s'.gens) s₁ := by
  have rv := vals_ints hi
  have hle := hi.length
  have inT : ∀ b ∈ cs.map (·.2), ∃ p ∈ cs, p.2 = b := fun b hb => List.mem_map.mp hb
  have atT : ∀ b ∈ cs.map (·.2), s₁.heap.get? b = some { cls := .none, data := .fields #[] } := fun b hb => by
    obtain ⟨p, hp, rfl⟩ := inT b hb
    exact hT p hp
  have aT : a ∉ cs.map (·.2) := fun z => by
    have := (atT a z).symm.trans ha
    cases this
  generalize hH : H0 K a { cls := .type "list", data := .seq vs.toArray } (ns.map V.int) (cs.map (·.2)) = H
  have inv : ∀ {b u}, H b = some u → (b = a ∧ K.lookup a = none ∧ u = .frz { cls := .type "list", data := .seq vs.toArray } (.lst (ns.map V.int))) ∨ (b ∈ cs.map (·.2) ∧ u = .tbl #[]) := fun {b u} h => H0_inv (by rw [hH]; exact h)
  have tb : ∀ p ∈ cs, H p.2 = some (.tbl #[]) := fun p hp => by rw [← hH]; exact H0_t (List.mem_map.mpr ⟨p, hp, rfl⟩) aT
  -- what is neither a list nor an empty record is not tracked
  have noH : ∀ {b : Addr} {ob : Obj}, s₁.heap.get? b = some ob → (∀ vs n, ob.data ≠ .seq vs n) → ob.data ≠ .fields #[] → H b = none := fun {b ob} e h1 h2 => by
    cases q : H b with
    | none => rfl
    | some u =>
      exfalso
      rcases inv q with ⟨rfl, _, _⟩ | ⟨z, _⟩
      · rw [ha] at e; cases e; exact h1 _ _ rfl
      · rw [atT b z] at e; cases e; exact h2 rfl
  have noD : ∀ {b : Addr} {m : Str → Option Value}, s₁.heap.Ns b m → (hidT s₁.heap H).Ns b m := fun {b m} ⟨ob, es, ep, e, d, r⟩ =>
    ⟨ob, es, ep, hidT_get e (noH e (fun vs n z => by rw [d] at z; cases z) fun z => by rw [d] at z; cases z), d, r⟩
  have hok : HOk P w H s₁.heap := fun b u z => by
    rcases inv z with ⟨rfl, _, rfl⟩ | ⟨hb, rfl⟩
    · exact ⟨ha, by rw [List.length_map]; exact hl, vs, _, rv, ha⟩
    · exact atT b hb
  have kin : K.In (hidT s₁.heap H) := fun b ob e => hidT_get (KX b ob e) (by
    cases q : H b with
    | none => rfl
    | some u =>
      exfalso
      rcases inv q with ⟨rfl, z, _⟩ | ⟨z, _⟩
      · rw [z] at e; cases e
      · obtain ⟨p, hp, rfl⟩ := inT b z
        rw [nT p hp] at e; cases e)
  have e0 : Env0 P w K mg (hidT s₁.heap H) callerA [] s₁ H := ⟨rfl, ⟨kin, noD hns, ⟨mb, noD hb, hbb⟩, let ⟨mc, h1, h2⟩ := hlim; ⟨mc, noD h1, h2⟩⟩, fun b ob e => of_hidT e, Nat.le_of_eq (hidT_size _ _), trivial, fun b z => absurd (show b ∈ ([] : List Addr) from z) (by simp), hok, .of_eq hg⟩
  have sq : SqL K H a (ns.map V.int) := by
    cases hk : K.lookup a with
    | none => exact .inl (.inr ⟨_, by rw [← hH]; exact H0_a hk⟩)
    | some ob =>
      have := KX a ob hk
      rw [ha] at this
      cases this
      exact .inr ⟨_, vs.toArray, _, hk, rfl, rfl, rfl, by rw [List.size_toArray, hle]; exact hl, by simpa using rv⟩
  have TB : ∀ p ∈ cs, LamX.TabB (hidT s₁.heap H) mg p.1 p.2 := fun p hp => by
    refine ⟨?_, ?_, fun z => ?_⟩
    · obtain ⟨oc, us, file, tf, flags, tg, inF, text, tt, e1, e2, e3, e4, rest⟩ := C p hp
      exact ⟨oc, us, file, tf, flags, tg, inF, text, tt, hidT_get e1 (noH e1 (fun vs n z => by rw [e3] at z; cases z) fun z => by rw [e3] at z; cases z; simp at e4), e2, e3, e4, rest⟩
    · obtain ⟨bm, ob, b1, b2, b3, b4, b5, b6⟩ := hbm
      refine ⟨bm, ob, b1, b2, fun q => ?_, fun q => ?_, hidT_get b3 (noH b3 (fun vs n z => by rw [b6] at z; cases z) fun z => by rw [b6] at z; cases z), b4, b5, b6⟩
      · obtain ⟨od, es, ep, e, hd, _⟩ := hns
        rw [q, e] at b3; cases b3
        rw [hd] at b6; cases b6
      · rw [q, hT p hp] at b3; cases b3
        cases b6
    · obtain ⟨od, es, ep, e, hd, _⟩ := hns
      rw [z, hT p hp] at e; cases e
      cases hd
  refine codeAny_mono (F _ H e0 TB tb sq) fun r s' h => ?_
  cases r with
  | error e => exact (cx_no h).elim
  | ok fl =>
    cases fl with
    | ret u =>
      obtain ⟨v, H', os, bare, un, hok', rv', q⟩ := h
      have q : v = .bl true := q
      subst q
      cases rv'
      have now : ∀ b ob, s₁.heap.get? b = some ob → asItWas s₁.heap s'.heap b ob ∧ ∃ o', s'.heap.get? b = some o' := fun b ob e => by
        cases hb : H b with
        | none =>
          have := un.keep b ob e hb (fun z => absurd (show b ∈ ([] : List Addr) from z) (by simp)) (by simp)
          exact ⟨.inl this, _, this⟩
        | some u =>
          rcases inv hb with ⟨rfl, _, rfl⟩ | ⟨z, rfl⟩
          · obtain ⟨e1, _⟩ := hok' b _ (un.frzs b _ _ hb)
            rw [ha] at e; cases e
            exact ⟨.inl e1, _, e1⟩
          · obtain ⟨p, hp, rfl⟩ := inT b z
            obtain ⟨more, hm⟩ := un.tbls _ _ hb
            have e1 : s'.heap.get? p.2 = some { cls := .none, data := .fields (#[] ++ more) } := hok' p.2 _ hm
            rw [hT p hp] at e; cases e
            exact ⟨.inr (.inl ⟨((C p hp).tab (hT p hp)).isCodeTable, rfl, #[], more, rfl, e1⟩), _, e1⟩
      exact ⟨rfl, ⟨fun b ob e => (now b ob e).1, fun b ob e => (now b ob e).2⟩, os, bare⟩
    | next => exact False.elim h
    | brk => exact False.elim h
    | cont => exact False.elim h
end Ct
namespace Ct
open PySem PySem.Spec PyProof.Rows L2
def LawAtG (l : PySem.W.OpenLaw) (w : World) (K : PySem.W.Frag) (n : Nat) (mg : Str → Option Value) (fa : Addr) (h : Heap) : Prop :=
  ∃ cs : List (Addr × Addr), (∀ p ∈ cs, h.get? p.2 = some { cls := .none, data := .fields #[] }) ∧ (∀ p ∈ cs, K.lookup p.2 = none) ∧ (∀ p ∈ cs, PySem.W.CodeHd h p.1 p.2) ∧
    ∀ (base : Heap) (H : Hp) (s : Shared) (a : Addr) (ns : List Int), ns.length ≤ n → (∀ z ∈ ns, Builtin.Int.intBits z ≤ 1048576) → Env0 l.prog w K mg base callerA [] s H → (∀ p ∈ cs, LamX.TabB base mg p.1 p.2) → (∀ p ∈ cs, H p.2 = some (.tbl #[])) → SqL K H a (ns.map V.int) →
      codeAny (model l.prog w) callerA (.call (.ref fa) ⟨[.ref a], []⟩) (CR (L2.CX l.prog w) [] l.prog w H s (fun v _ => v = .bl true) fun _ _ _ => False) s
theorem walk_own {l : PySem.W.OpenLaw} {n : Nat} {q : Program} {loose : List Str} {XP : (Str → Option Value) → Heap → Prop} {YP : World → Heap → Prop} {d : DefRec} (hn : l.most = some n) (hn2 : n ≤ sizeLine) (hdf : d.params.defaults = [])
    (F : ∀ (w : World) (mg : Str → Option Value) (fa : Addr) (h : Heap), YP w h → h.Ns mainGlobals mg → mg d.name = some (.ref fa) → ∃ K : PySem.W.Frag, K.In h ∧ LawAtG l w K n mg fa h) :
    PySem.W.WalkO q loose XP YP l.row.toRowW d [] (fun f vs => PySem.call f vs) := by
  refine Att.attach_callB hn hdf fun w s₀ s₁ mg mb fa o pm cd doc a vs ns G Y ho hd hcd hmg hobj hints hlen hbits hg => ?_
  obtain ⟨K, KX, cs, hT, nT, C, hF⟩ := F w mg fa _ Y G.T.g hmg
  exact call_own KX G.T.g G.T.b G.T.builtins G.T.nolimit hg hT nT C G.T.bmain hobj hints (Nat.le_trans hlen hn2) fun base H e0 TB tb sq => hF base H s₁ a ns hlen hbits e0 TB tb sq
theorem law_endG {l : PySem.W.OpenLaw} {L : Lay} {w : World} {h : Heap} {mg : Str → Option Value} {fa : Addr} {Flaw : FM} {k n m : Nat} (O : LayOk l.prog L) (hr : Room k callerA) (hg : .glo "law" ∈ L.fa)
    (hok : ∀ (K : PySem.W.Frag) (base : Heap), Tx L.fa L.fn L.gens L.lams L.props L.c0 l.prog w (mkW L K) mg base → GoodG l.prog w (mkW L K) mg base k (He.fAd K ("law", none)) ["script"] Flaw)
    (hpure : ∀ ns : List Int, ns.length ≤ m → (∀ z ∈ ns, Builtin.Int.intBits z ≤ 1048576) → ∀ s : D, s = .lst (ns.map D.int) ∨ s = .frz (ns.map D.int) → ∃ st', Flaw [.d s] [] = .ok (.d (.bl true)) st')
    (Y : (hookC L n).says w h) (G : h.Ns mainGlobals mg) (hfa : mg ("law" : Str) = some (.ref fa)) : ∃ K : PySem.W.Frag, K.In h ∧ LawAtG l w K m mg fa h := by
  obtain ⟨K, KX, c⟩ := Y
  have d : He.SaysD (faAll L) L.fn K := c.x.t.d
  have efa : fa = He.ga K "law" := by
    have := hfa.symm.trans (He.glo_ok KX G (He.SaysD.facts d (f := .glo "law") (List.mem_append_right _ hg)))
    cases this
    rfl
  subst efa
  refine ⟨K, KX, (tfAll L).map (He.cT K), fun p hp => ?_, fun p hp => ?_, fun p hp => ?_, ?_⟩
  · obtain ⟨q, hq, rfl⟩ := List.mem_map.mp hp
    exact c.x.empty q hq
  · obtain ⟨q, hq, rfl⟩ := List.mem_map.mp hp
    exact c.x.out q hq
  · obtain ⟨q, hq, rfl⟩ := List.mem_map.mp hp
    exact PySem.W.codeHd_of_K KX (c.x.hd q hq)
  intro base H s a ns hl hbits e0 TB hT hS
  have tabs : TabsOk (mkW L K) H := by
    refine ⟨fun p hp => ?_, fun P hP => ?_⟩
    · obtain ⟨z, hz, rfl⟩ := List.mem_map.mp hp
      refine ⟨#[], hT _ (List.mem_map.mpr ⟨z.1, List.mem_map.mpr ⟨z, List.mem_append_right _ hz, rfl⟩, rfl⟩), ?_, fun pos cv e => ?_⟩
      · unfold TriplesOk; trivial
      · cases e
    · obtain ⟨z, hz, rfl⟩ := List.mem_map.mp hP
      refine ⟨#[], hT _ (List.mem_map.mpr ⟨z.1, List.mem_map.mpr ⟨z, List.mem_append_left _ hz, rfl⟩, rfl⟩), ?_⟩
      unfold TriplesOk; trivial
  have rel : Rel (mkW L K) (fun _ => False) [] [] H := ⟨rfl, List.nodup_nil, by simp, fun a z => z.elim, fun n c e => by simp at e, tabs⟩
  have key : ∀ s : D, RepD (mkW L K) (fun _ => False) H (.ref a) s → (s = .lst (ns.map D.int) ∨ s = .frz (ns.map D.int)) → spF (mkW L K) 1 Flaw [.ref a] H (fun v _ => v = .bl true) fun _ _ _ => False := by
    intro s hs e
    obtain ⟨st', q⟩ := hpure ns hl hbits s e
    refine ⟨rfl, fun _ => False, [], [.d s], [], rel, .cons hs .nil, ?_⟩
    rw [q]
    intro v S' l' H' x r p
    cases p
    rfl
  have sp : spF (mkW L K) 1 Flaw [.ref a] H (fun v _ => v = .bl true) fun _ _ _ => False := by
    rcases hS with (hS | ⟨o, hS⟩) | hS
    · exact key (.lst (ns.map D.int)) (.lst hS (fun z => z) (relv_ints ns)) (.inl rfl)
    · exact key (.frz (ns.map D.int)) (.frz (.inl ⟨o, hS⟩) (relv_ints ns)) (.inr rfl)
    · exact key (.frz (ns.map D.int)) (.frz (.inr hS) (relv_ints ns)) (.inr rfl)
  exact (hok K base (tx_of O c e0.mod.kin e0.mod.glob TB)).run callerA [] s H [.ref a] [.ref a] _ _ hr rfl e0 (.cons rfl .nil) sp
end Ct
set_option Elab.async false
set_option maxRecDepth 100000
set_option maxHeartbeats 4000000
/-! own work: repr of ints, of tuples of ints, of own instances; f-strings; where no container's text is under way. -/
namespace Ct
open PySem PySem.Spec PyProof.Rows L2
theorem strOk_of (s : String) : PyData.strOk (Str.ofString s) = true := by
  unfold PyData.strOk Str.ofString
  rw [← Array.all_toList]
  show (cpsOfBytes 0 0 s.toByteArray.data.toList).all _ = true
  rw [cpsOfBytes_string, List.all_map, List.all_eq_true]
  intro c _
  have := c.valid
  simp only [Function.comp, decide_eq_true_eq]
  have h : c.val.toNat.isValidChar := c.valid
  unfold Nat.isValidChar at h
  show c.val.toNat < 1114112
  omega
theorem strOk_app {a b : Str} (ha : PyData.strOk a = true) (hb : PyData.strOk b = true) : PyData.strOk (a ++ b) = true := by
  unfold PyData.strOk at *
  rw [Str.cps_append, Array.all_append, ha, hb]; rfl
/-- data whose text is made here -/
def shA : D → Bool
  | .int i => decide (i.natAbs < 1000000000)
  | _ => false
def shP : D → Bool
  | .tup xs => decide (xs.length ≤ 4) && xs.all shA
  | _ => false
def shD : D → Bool
  | .int i => decide (i.natAbs < 1000000000)
  | .tup xs => decide (xs.length ≤ 100) && xs.all shP
  | _ => false
def shownD (d : D) : Str := PyData.shown (toP d)
section
variable {W : Wd} {E : XK} {X : Cx} {S S' S2 : Addr → Prop} {l l' l2 : List Addr} {H H' H2 : Hp} {st st' st2 : Store} {pins : List (Addr × Obj)} {σ : L2.St} {s : Shared}
theorem reads_A (h : shA x = true) {v : V} {u : Value} (r : RepD W S H v x) (q : RelV v u) : Reads s.heap u (toP x) [] := by
  unfold shA at h
  split at h
  · cases r
    obtain ⟨t, rfl⟩ := q
    exact .int _ t
  · cases h
theorem readsAll {p : D → Bool} (hp : ∀ {x : D} {v : V} {u : Value}, p x = true → RepD W S H v x → RelV v u → Reads s.heap u (toP x) []) : ∀ {vs : List V} {ds : List D} {us : List Value}, ds.all p = true → RepL W S H vs ds → Vals vs us → ReadsAll s.heap us (toPs ds) []
  | _, _, _, _, .nil, q => by cases q; exact .nil
  | _, _, _, h, .cons a t, q => by
    rw [List.all_cons, Bool.and_eq_true] at h
    cases q with
    | cons q1 q2 => exact .cons (as := []) (bs := []) (hp h.1 a q1) (readsAll hp h.2 t q2)
theorem reads_T {p : D → Bool} (hp : ∀ {x : D} {v : V} {u : Value}, p x = true → RepD W S H v x → RelV v u → Reads s.heap u (toP x) []) (I : Inv X pins σ H s) (hk : X.K = W.K) {xs : List D} (h : xs.all p = true) {v : V} {u : Value} (r : RepD W S H v (.tup xs)) (q : RelV v u) : Reads s.heap u (toP (.tup xs)) [] := by
  cases r with
  | @tup a vs ds hs rl =>
    cases q
    rw [← hk] at hs
    obtain ⟨its, r2, e, z⟩ := I.tuple hs
    obtain ⟨o, h1, h2, n, h3⟩ := e
    exact .tuple h1 h2 h3 (by simpa using readsAll hp h rl r2)
theorem reads_P (I : Inv X pins σ H s) (hk : X.K = W.K) {x : D} (h : shP x = true) {v : V} {u : Value} (r : RepD W S H v x) (q : RelV v u) : Reads s.heap u (toP x) [] := by
  unfold shP at h
  split at h
  · rw [Bool.and_eq_true] at h
    exact reads_T (p := shA) (fun h => reads_A h) I hk h.2 r q
  · cases h

theorem shown_A {x : D} (h : shA x = true) : (toP x).shown.length ≤ 2000 ∧ (toP x).showable = true ∧ PyData.strOk (toP x).shown = true := by
  unfold shA at h
  split at h
  · rename_i i
    have h1 := of_decide_eq_true h
    have h2 : i.natAbs.log2 < 1920 := by
      by_cases z : i.natAbs = 0
      · rw [z]; decide
      · exact (Nat.log2_lt z).mpr (Nat.lt_trans h1 (Nat.lt_of_lt_of_le (by decide : 1000000000 < 2 ^ 30) (Nat.pow_le_pow_right (by decide) (by decide))))
    refine ⟨?_, ?_, strOk_of _⟩
    · exact Nat.le_trans (int_text_len_1921 h2) (by decide)
    · simp [toP, PyData.showable, h2]
  · cases h
theorem strOk_join {sep : Str} (hs : PyData.strOk sep = true) : ∀ ts : List Str, (∀ t ∈ ts, PyData.strOk t = true) → PyData.strOk (Str.join sep ts) = true
  | [], _ => by simp [Str.join, PyData.strOk, Str.empty]
  | [x], h => h x (by simp)
  | x :: y :: r, h => strOk_app (strOk_app (h x (by simp)) hs) (strOk_join hs (y :: r) fun t ht => h t (List.mem_cons_of_mem _ ht))
theorem strOk_tup {ts : List Str} (h : ∀ t ∈ ts, PyData.strOk t = true) : PyData.strOk (tupleText ts) = true := by
  unfold tupleText
  refine strOk_app (strOk_app (strOk_of _) (strOk_join (strOk_of _) ts h)) ?_
  exact strOk_of _
theorem shownAll_map : ∀ xs : List D, PyData.shownAll (toPs xs) = xs.map fun x => (toP x).shown
  | [] => rfl
  | x :: r => by rw [toPs, PyData.shownAll, shownAll_map r]; rfl
theorem showAll_of : ∀ xs : List D, (∀ x ∈ xs, (toP x).showable = true) → PyData.showableAll (toPs xs) = true
  | [], _ => rfl
  | x :: r, h => by
    rw [toPs, PyData.showableAll, h x (by simp), showAll_of r fun y hy => h y (List.mem_cons_of_mem _ hy)]; rfl
theorem shown_T {p : D → Bool} {L n : Nat} (hp : ∀ x, p x = true → (toP x).shown.length ≤ L ∧ (toP x).showable = true ∧ PyData.strOk (toP x).shown = true) {xs : List D} (hl : xs.length ≤ n) (h : xs.all p = true) :
    (toP (.tup xs)).shown.length ≤ n * (L + 2) + 2 ∧ (toP (.tup xs)).showable = true ∧ PyData.strOk (toP (.tup xs)).shown = true := by
  rw [List.all_eq_true] at h
  have e : (toP (.tup xs)).shown = tupleText (xs.map fun x => (toP x).shown) := by
    show PyData.shown (.tuple (toPs xs)) = _
    rw [PyData.shown, shownAll_map]
  rw [e]
  refine ⟨?_, ?_, strOk_tup fun t ht => ?_⟩
  · have h1 := fmt_text (xs.map fun x => (toP x).shown)
    have h2 := piled_le (L := L) (xs.map fun x => (toP x).shown) fun t ht => by
      obtain ⟨x, hx, rfl⟩ := List.mem_map.mp ht
      exact (hp x (h x hx)).1
    rw [List.length_map] at h2
    have h3 := Nat.mul_le_mul_right (L + 2) hl
    omega
  · show PyData.showable (.tuple (toPs xs)) = true
    rw [PyData.showable]
    exact showAll_of xs fun x hx => (hp x (h x hx)).2.1
  · obtain ⟨x, hx, rfl⟩ := List.mem_map.mp ht
    exact (hp x (h x hx)).2.2
theorem shown_P {x : D} (h : shP x = true) : (toP x).shown.length ≤ 8010 ∧ (toP x).showable = true ∧ PyData.strOk (toP x).shown = true := by
  unfold shP at h
  split at h
  · rw [Bool.and_eq_true] at h
    exact shown_T (fun x hx => shown_A hx) (of_decide_eq_true h.1) h.2
  · cases h
theorem shown_D {x : D} (h : shD x = true) : (shownD x).length ≤ 1000000 ∧ (toP x).showable = true ∧ PyData.strOk (shownD x) = true := by
  unfold shD at h
  split at h
  · obtain ⟨h1, h2, h3⟩ := shown_A (x := .int _) h
    exact ⟨Nat.le_trans h1 (by decide), h2, h3⟩
  · rw [Bool.and_eq_true] at h
    obtain ⟨h1, h2, h3⟩ := shown_T (fun x hx => shown_P hx) (of_decide_eq_true h.1) h.2
    exact ⟨Nat.le_trans h1 (by decide), h2, h3⟩
  · cases h
theorem depth_T {p : D → Bool} {n : Nat} (hp : ∀ x, p x = true → (toP x).depth ≤ n) : ∀ {xs : List D}, xs.all p = true → PyData.depthAll (toPs xs) ≤ n
  | [], _ => Nat.zero_le _
  | x :: r, h => by
    rw [List.all_cons, Bool.and_eq_true] at h
    have h1 := hp x h.1
    have h2 := depth_T hp h.2
    rw [toPs, PyData.depthAll]
    omega
theorem depth_D {x : D} (h : shD x = true) : (toP x).depth ≤ 10 := by
  have hA : ∀ x, shA x = true → (toP x).depth ≤ 3 := fun x h => by
    unfold shA at h
    split at h
    · simp [toP, PyData.depth]
    · cases h
  have hP : ∀ x, shP x = true → (toP x).depth ≤ 6 := fun x h => by
    unfold shP at h
    split at h
    · rw [Bool.and_eq_true] at h
      have := depth_T hA h.2
      show PyData.depth (.tuple (toPs _)) ≤ 6
      simp only [PyData.depth]
      omega
    · cases h
  unfold shD at h
  split at h
  · simp [toP, PyData.depth]
  · rw [Bool.and_eq_true] at h
    have := depth_T hP h.2
    show PyData.depth (.tuple (toPs _)) ≤ 10
    simp only [PyData.depth]
    omega
  · cases h
/-! ### {e}: an int or a tuple -/
def mFmtG (m : EM) : EM := fun env st => (m env st).bind fun u st1 => match u with
  | .d d => if shD d = true then .ok (.d (.str (shownD d))) st1 else .bad
  | _ => .bad
theorem je_fmtG {e : Expr} {m : EM} {pos : Pos} (hk : X.K = W.K) (hg : X.A.guards = some []) (hr : Room 1 X.A) (he : JE W E X e m) : JE W E X (.FormattedValue e (-1) none pos) (mFmtG m) := by
  refine ⟨fun pins s σ H Q I h => ?_⟩
  obtain ⟨S, l, env, st, rl, re, h⟩ := h
  refine wpAny_FormattedValue_plain (thn (he.run pins s σ H (fun x H1 => ∃ S d, RepD W S H1 x d ∧ shD d = true ∧ Q (.str (shownD d)) H1) I ⟨S, l, env, st, rl, re, (Post.bind (rep := repU W) h).imp ?_⟩) fun v s1 hv => ?_)
  · rintro x H1 ⟨S1, l1, u, st1, x1, r1, p1, h1⟩
    split at h1
    · rename_i d
      split at h1
      · rename_i hd
        exact ⟨S1, d, p1, hd, h1.ok r1 (.str _)⟩
      · exact h1.elim
    · exact h1.elim
  · obtain ⟨x, H1, I1, r1, S1, d, p1, hd, q⟩ := hv
    have hsz := sizeLine_eq
    obtain ⟨hl, hs, _⟩ := shown_D hd
    have hdp := depth_D hd
    have hun := hr.units
    cases d with
    | int i =>
      cases p1
      obtain ⟨t, rfl⟩ := r1
      have h1 := of_decide_eq_true (show decide (i.natAbs < 1000000000) = true from hd)
      have h2 : i.natAbs.log2 < 1920 := by simpa [toP, PyData.showable] using hs
      exact wpAny_formatField_int h2 ⟨.str (toString i), H1, I1.tok _, ⟨_, rfl⟩, q⟩
    | tup xs =>
      have hx : xs.all shP = true := by
        have : (decide (xs.length ≤ 100) && xs.all shP) = true := hd
        rw [Bool.and_eq_true] at this
        exact this.2
      have rd := reads_T (p := shP) (fun h => reads_P I1 hk h) I1 hk hx p1 r1
      obtain ⟨a, rfl⟩ : ∃ a, v = .ref a := by cases p1; cases r1; exact ⟨_, rfl⟩
      refine formatField_of_reads rd hs (fun _ => by simp) hg (by omega) (fun _ _ e => e) (fun h' u tk hk' => ?_) (by show (shownD (.tup xs)).length ≤ sizeLine; omega)
      exact ⟨.str _, H1, I1.kept hk', ⟨_, rfl⟩, q⟩
    | _ => cases hd
/-! ### repr(e) of an int or a tuple -/
def fReprD : List U → Store → R U
  | [.d d], st => if shD d = true then .ok (.d (.str (shownD d))) st else .bad
  | _, _ => .bad
theorem call_reprD (hk : X.K = W.K) (hg : X.A.guards = some []) (hr : Room 1 X.A) : CallR X (.builtin "repr") (fun xs H Q => ∃ (S : Addr → Prop) (x : V) (d : D), xs = [x] ∧ RepD W S H x d ∧ shD d = true ∧ Q (.str (shownD d)) H) := by
  intro pins s σ H xs us Q I r h
  obtain ⟨S, x, d, rfl, p1, hd, q⟩ := h
  obtain ⟨v, rfl, r1⟩ := vals1 r
  have hsz := sizeLine_eq
  obtain ⟨hl, hs, _⟩ := shown_D hd
  have hdp := depth_D hd
  have hun := hr.units
  cases d with
  | int i =>
    cases p1
    obtain ⟨t, rfl⟩ := r1
    have h2 : i.natAbs.log2 < 1920 := by simpa [toP, PyData.showable] using hs
    exact PySem.P.repr_of_int h2 ⟨.str _, H, I.tok _, ⟨_, rfl⟩, q⟩
  | tup xs =>
    have hx : xs.all shP = true := by
      have : (decide (xs.length ≤ 100) && xs.all shP) = true := hd
      rw [Bool.and_eq_true] at this
      exact this.2
    have rd := reads_T (p := shP) (fun h => reads_P I hk h) I hk hx p1 r1
    obtain ⟨a, rfl⟩ : ∃ a, v = .ref a := by cases p1; cases r1; exact ⟨_, rfl⟩
    refine repr_of_reads' rd hs (fun _ => by simp) hg (by omega) (fun _ _ e => e) (fun h' u tk hk' => ?_) (by show (shownD (.tup xs)).length ≤ sizeLine; omega)
    exact ⟨.str _, H, I.kept hk', ⟨_, rfl⟩, q⟩
  | _ => cases hd
theorem reprD_ok : AOk W E (fun xs H Q => ∃ (S : Addr → Prop) (x : V) (d : D), xs = [x] ∧ RepD W S H x d ∧ shD d = true ∧ Q (.str (shownD d)) H) fReprD := by
  intro S l st H vs us Q rl p h
  unfold fReprD at h
  split at h
  · rename_i d
    split at h
    · rename_i hd
      cases p with
      | cons p1 t =>
        cases t
        exact ⟨S, _, d, rfl, p1, hd, h.ok rl (.str _)⟩
    · exact h.elim
  · exact h.elim
/-! ### repr(e) of an own instance -/
def strK (u : U) (st : Store) : R U := match u with
  | .d (.str x) => .ok (.d (.str x)) st
  | _ => .bad
@[simp] theorem strK_e (x : Str) (st : Store) : strK (.d (.str x)) st = .ok (.d (.str x)) st := rfl
def fReprO (c : Nat) (F : FM) : List U → Store → R U
  | [.d (.obj c' ds)], st => if c' = c then (backP (F [.d (.obj c' ds)] []) st).bind strK else .bad
  | _, _ => .bad
theorem call_reprO {k : Nat} {f C : Addr} {F : FM} {ps : List Str} (tk : TakesE X E) (hps : ps.length = 1) (G : GoodG X.prog X.w W X.mg X.base k f ps F) (hk : X.K = W.K) (hg : X.A.guards = some []) (hr : Room (k + 1) X.A) (M : Meth X.K C "__repr__" f) :
    CallR X (.builtin "repr") (fun xs H Q => ∃ a dx fs, xs = [.ref a] ∧ H a = some (.ins C dx fs) ∧ spF W 1 F [.ref a] H (fun v H' => ∃ y, v = .str y ∧ Q v H') E) := by
  intro pins s σ H xs us Q I r h
  obtain ⟨a, dx, fs, rfl, ha, hsp⟩ := h
  obtain ⟨v, rfl, r1⟩ := vals1 r
  cases r1
  obtain ⟨mA, J, _⟩ := ins_get I.hok ha
  obtain ⟨od, J, _⟩ := J.look
  obtain ⟨m, hF⟩ := I.fr
  refine PySem.W.repr_K hr.in1.units0 hF I.ok.mod.kin J M.at_ M.fn ?_
  have e0 : Env0 X.prog X.w W.K X.mg X.base X.A.in1 X.stack s H := by rw [← hk]; exact I.env0.in1
  rw [← hps] at hsp
  refine wpAny_call (codeAny_mono (G.run X.A.in1 X.stack s H [.ref a] [.ref a] _ E hr.in1 hg e0 (.cons rfl .nil) hsp) fun r s' hq => ?_)
  cases r with
  | error e => exact passE tk pins σ H s e s' I hq
  | ok fl =>
    cases fl with
    | ret w =>
      obtain ⟨z, H', I', rz, y, ez, ex⟩ := I.after hq
      subst ez
      obtain ⟨t, rfl⟩ := rz
      exact ⟨.str y, H', I', ⟨t, rfl⟩, ex⟩
    | next => exact False.elim hq
    | brk => exact False.elim hq
    | cont => exact False.elim hq
theorem reprO_ok {c : Nat} {F : FM} : AOk W E (fun xs H Q => ∃ a dx fs, xs = [.ref a] ∧ H a = some (.ins (W.cls c) dx fs) ∧ spF W 1 F [.ref a] H (fun v H' => ∃ y, v = .str y ∧ Q v H') E) (fReprO c F) := by
  intro S l st H vs us Q rl p h
  unfold fReprO at h
  split at h
  · rename_i c' ds
    split at h
    · rename_i hc
      subst hc
      cases p with
      | cons p1 t =>
        cases t
        have p1' := p1
        cases p1 with
        | @obj a dx c fs ws ds ha n ee ll r =>
          refine ⟨a, dx, fs, rfl, ha, rfl, S, [], [.d (.obj c' ds)], [], rl.none_of, .cons p1' .nil, backP_read rl ?_⟩
          cases hb : backP (F [.d (.obj c' ds)] []) st with
          | bad => rw [hb] at h; exact h.elim
          | exc z t => rw [hb] at h; exact h
          | ok z t =>
            rw [hb] at h
            simp only [R.bind_ok] at h
            unfold strK at h
            split at h
            · rename_i b
              intro w S' l' H' x' r' p'
              cases p'
              exact ⟨b, rfl, h _ _ _ _ x' r' (.str _)⟩
            · exact h.elim
    · exact h.elim
  · exact h.elim

/-! ### f'..' -/
def mJs : List EM → Str → EM
  | [], acc => fun _ st => .ok (.d (.str acc)) st
  | m :: r, acc => fun env st => (m env st).bind fun u st1 => match u with
    | .d (.str y) => if (acc ++ y).length ≤ sizeLine then mJs r (acc ++ y) env st1 else .bad
    | _ => .bad
inductive JJ (W : Wd) (E : XK) (X : Cx) : List Expr → List EM → Prop where
  | nil : JJ W E X [] []
  | cons {e : Expr} {m : EM} {es : List Expr} {ms : List EM} (h : JE W E X e m) (r : JJ W E X es ms) : JJ W E X (e :: es) (m :: ms)
theorem JJ.pj {es : List Expr} {ms : List EM} (h : JJ W E X es ms) : PJ X es (ms.map (tE W E)) := by
  induction h with
  | nil => exact .nil
  | cons h _ ih => exact .cons h ih
theorem js_read : ∀ (ms : List EM) (acc : Str) (σ : L2.St) (H : Hp) (Q : VK) (S : Addr → Prop) (l : List Addr) (env : EnvD) (st : Store), Rel W S l st H → RepE W S l H σ env → Post W (repU W) E S l H Q (mJs ms acc env st) → tJs (ms.map (tE W E)) acc σ H fun out H1 => Q (.str out) H1
  | [], acc, σ, H, Q, S, l, env, st, rl, re, h => h.ok rl (.str _)
  | m :: r, acc, σ, H, Q, S, l, env, st, rl, re, h => by
    refine ⟨S, l, env, st, rl, re, (Post.bind (rep := repU W) h).imp ?_⟩
    rintro x H1 ⟨S1, l1, u, st1, x1, r1, p1, h1⟩
    split at h1
    · rename_i y
      split at h1
      · rename_i hl
        cases p1
        exact ⟨y, rfl, hl, js_read r (acc ++ y) σ H1 Q S1 l1 env st1 r1 (re.ext rl x1) h1⟩
      · exact h1.elim
    · exact h1.elim
theorem je_joined {v1 v2 : Expr} {rest : List Expr} {ms : List EM} {pos : Pos} (h : JJ W E X (v1 :: v2 :: rest) ms) : JE W E X (.JoinedStr (v1 :: v2 :: rest) pos) (mJs ms Str.empty) := (pe_joined h.pj).imp (by
  rintro σ H Q ⟨S, l, env, st, rl, re, h⟩
  exact js_read ms Str.empty σ H Q S l env st rl re h)
end
end Ct
set_option Elab.async false
set_option maxRecDepth 100000
set_option maxHeartbeats 4000000
namespace KJ
open PySem PySem.Spec PyProof.Rows L2 Ct
def top (i : Nat) : Stmt := PySem.Challenge.pw_cavetrue_k00_surveys.main.body.getD i (.Pass ⟨0, 0, 0, 0⟩)
def mth (i j : Nat) : Stmt := clsStmt (top i) j
abbrev s__law_taken : Stmt := top 16
abbrev s__law_pick : Stmt := top 17
abbrev s__law_rooms : Stmt := top 18
abbrev s__law_legs : Stmt := top 19
abbrev s_check : Stmt := top 6
abbrev s_is_number : Stmt := top 5
abbrev s_is_leg : Stmt := top 11
abbrev s_are_legs : Stmt := top 12
abbrev s_SurveyD_initD : Stmt := mth 13 0
abbrev s__law_alike : Stmt := top 20
abbrev s_SurveyD_eqD : Stmt := mth 13 4
abbrev s_Survey_with_leg : Stmt := mth 13 6
abbrev s_Survey_without_leg : Stmt := mth 13 7
abbrev s__law_refused : Stmt := top 22
abbrev s_is_survey : Stmt := top 14
abbrev s_SurveyD_reprD : Stmt := mth 13 5
abbrev s_Survey_turned : Stmt := mth 13 8
abbrev s_SurveyD_lenD : Stmt := mth 13 3
abbrev s_law : Stmt := top 23
def fa : List He.Fa := [.free "int", .free "len", .glo "_law_taken", .glo "_law_pick", .free "range", .free "min", .free "tuple", .free "isinstance", .free "bool", .glo "is_number", .int "MOST_RISE" 10000, .int "MOST_LEGS" 60, .glo "is_leg", .free "all", .int "MOST_ROOMS" 24, .glo "check", .glo "are_legs", .cls (clsName 0), .noat (clsName 0) "_rooms", .noat (clsName 0) "_legs", .free "list", .glo "_law_alike", .free "dict", .free "str", .glo (clsName 0), .mkr (clsName 0), .meth (clsName 0) "without_leg", .glo "_law_legs", .meth (clsName 0) "with_leg", .meth (clsName 0) "__eq__", .glo "_law_rooms", .meth (clsName 0) "__len__", .glo "is_survey", .meth (clsName 0) "__repr__", .free "repr", .meth (clsName 0) "turned", .glo "_law_refused", .glo "law"]
def fn : List He.DefD := [⟨("_law_taken", none), "_law_taken", "_law_taken", defArgs s__law_taken, defBody s__law_taken, defScope s__law_taken, [], []⟩,
  ⟨("_law_pick", none), "_law_pick", "_law_pick", defArgs s__law_pick, defBody s__law_pick, defScope s__law_pick, [], []⟩,
  ⟨("_law_rooms", none), "_law_rooms", "_law_rooms", defArgs s__law_rooms, defBody s__law_rooms, defScope s__law_rooms, [], []⟩,
  ⟨("_law_legs", none), "_law_legs", "_law_legs", defArgs s__law_legs, defBody s__law_legs, defScope s__law_legs, [], []⟩,
  ⟨("check", none), "check", "check", defArgs s_check, defBody s_check, defScope s_check, [], []⟩,
  ⟨("is_number", none), "is_number", "is_number", defArgs s_is_number, defBody s_is_number, defScope s_is_number, [], []⟩,
  ⟨("is_leg", none), "is_leg", "is_leg", defArgs s_is_leg, defBody s_is_leg, defScope s_is_leg, [], []⟩,
  ⟨("are_legs", none), "are_legs", "are_legs", defArgs s_are_legs, defBody s_are_legs, defScope s_are_legs, [], []⟩,
  ⟨("Survey", some "__init__"), "__init__", "Survey.__init__", defArgs s_SurveyD_initD, defBody s_SurveyD_initD, defScope s_SurveyD_initD, [.adr (He.dflAt ("Survey", some "__init__") 0)], []⟩,
  ⟨("_law_alike", none), "_law_alike", "_law_alike", defArgs s__law_alike, defBody s__law_alike, defScope s__law_alike, [], []⟩,
  ⟨("Survey", some "__eq__"), "__eq__", "Survey.__eq__", defArgs s_SurveyD_eqD, defBody s_SurveyD_eqD, defScope s_SurveyD_eqD, [], []⟩,
  ⟨("Survey", some "with_leg"), "with_leg", "Survey.with_leg", defArgs s_Survey_with_leg, defBody s_Survey_with_leg, defScope s_Survey_with_leg, [], []⟩,
  ⟨("Survey", some "without_leg"), "without_leg", "Survey.without_leg", defArgs s_Survey_without_leg, defBody s_Survey_without_leg, defScope s_Survey_without_leg, [], []⟩,
  ⟨("_law_refused", none), "_law_refused", "_law_refused", defArgs s__law_refused, defBody s__law_refused, defScope s__law_refused, [], []⟩,
  ⟨("is_survey", none), "is_survey", "is_survey", defArgs s_is_survey, defBody s_is_survey, defScope s_is_survey, [], []⟩,
  ⟨("Survey", some "__repr__"), "__repr__", "Survey.__repr__", defArgs s_SurveyD_reprD, defBody s_SurveyD_reprD, defScope s_SurveyD_reprD, [], []⟩,
  ⟨("Survey", some "turned"), "turned", "Survey.turned", defArgs s_Survey_turned, defBody s_Survey_turned, defScope s_Survey_turned, [], []⟩,
  ⟨("Survey", some "__len__"), "__len__", "Survey.__len__", defArgs s_SurveyD_lenD, defBody s_SurveyD_lenD, defScope s_SurveyD_lenD, [], []⟩,
  ⟨("law", none), "law", "law", defArgs s_law, defBody s_law, defScope s_law, [], []⟩]
def gens : List (He.Defn × Str) := [(("are_legs", none), "are_legs")]
def lams : List (He.Defn × Str) := [(("_law_refused", none), "_law_refused.<locals>.<lambda>")]
theorem gens0 : ((("are_legs", none), "are_legs") : He.Defn × Str) ∈ gens := List.mem_of_getElem? (i := 0) rfl
theorem lams0 : ((("_law_refused", none), "_law_refused.<locals>.<lambda>") : He.Defn × Str) ∈ lams := List.mem_of_getElem? (i := 0) rfl
def props : List (Str × Str) := [("legs", "_legs"), ("rooms", "_rooms")]
abbrev TX (P : Program) (w : World) (W : Wd) (mg : Str → Option Value) (base : Heap) : Prop := Tx fa fn gens lams props 0 P w W mg base
section
variable {P : Program} {w : World} {W : Wd} {mg : Str → Option Value} {base : Heap}
theorem pr_Survey_legs (T : TX P w W mg base) : GProp P w W mg base 0 "legs" "_legs" := T.prop ("legs", "_legs") (List.mem_of_getElem? (i := 0) rfl)
theorem pr_Survey_rooms (T : TX P w W mg base) : GProp P w W mg base 0 "rooms" "_rooms" := T.prop ("rooms", "_rooms") (List.mem_of_getElem? (i := 1) rfl)
theorem sc__law_taken : FnScope ["row", "many", "cell", "found"] ["row", "many"] (defScope s__law_taken) := ⟨rfl, rfl, rfl, by decide +kernel, rfl, by decide +kernel, by decide +kernel⟩
noncomputable def B__law_taken : SM := (sSeq (sIf (tBool (fBin fGt (fBin fIx (mVar 0) (mC (.int 3))) (mC (.int 0)))) (sSeq (sAsg (fBin fMod (mCB fInt (mCons (fBin fIx (mVar 0) (mC (.int 3))) mNil)) (mVar 1)) (gVar 3))
  (sSeq (sAsg (fBin fDiv (fBin fIx (mVar 0) (mC (.int 3))) (mVar 1)) (gItem (mVar 0) (mC (.int 3))))
  (sRet (mVar 3)))) sNil)
  (sSeq (sAsg (fBin fAdd (fBin fIx (mVar 0) (mC (.int 1))) (mC (.int 1))) (gItem (mVar 0) (mC (.int 1))))
  (sSeq (sIf (tBool (fBin fGt (fBin fIx (mVar 0) (mC (.int 1))) (mCB fLen (mCons (fBin fIx (mVar 0) (mC (.int 0))) mNil)))) (sSeq (sAsg (fBin fMod (mCB fInt (mCons (fBin fAdd (fBin fMul (fBin fIx (mVar 0) (mC (.int 2))) (mC (.int 48271))) (mC (.int 11))) mNil)) (mC (.int 2147483647))) (gItem (mVar 0) (mC (.int 2))))
  (sRet (fBin fMod (mCB fInt (mCons (fBin fDiv (fBin fIx (mVar 0) (mC (.int 2))) (mC (.int 7))) mNil)) (mVar 1)))) sNil)
  (sSeq (sAsg (fBin fIx (fBin fIx (mVar 0) (mC (.int 0))) (fBin fSub (fBin fIx (mVar 0) (mC (.int 1))) (mC (.int 1)))) (gVar 2))
  (sSeq (sAsg (fBin fMod (mCB fInt (mCons (fBin fAdd (fBin fAdd (fBin fMul (fBin fIx (mVar 0) (mC (.int 2))) (mC (.int 48271))) (mVar 2)) (mC (.int 11))) mNil)) (mC (.int 2147483647))) (gItem (mVar 0) (mC (.int 2))))
  (sSeq (sIf (tBool (fBin fGe (mVar 2) (fBin fPow (mC (.int 10)) (mC (.int 18))))) (sAsg (fBin fDiv (mVar 2) (mVar 1)) (gItem (mVar 0) (mC (.int 3)))) sNil)
  (sRet (fBin fMod (mCB fInt (mCons (mVar 2) mNil)) (mVar 1)))))))))
noncomputable def F__law_taken : FM := runB 4 B__law_taken
theorem ok__law_taken (T : TX P w W mg base) : Good P w W mg base 1 (He.fAd W.K ("_law_taken", none)) ["row", "many"] F__law_taken := by
  refine good_of (T.def_ 0 rfl) sc__law_taken (fun fd F => F.bindsN fun _ _ _ _ _ _ us hl => match us, hl with | [_, _], _ => rfl) fun A outer s H E hr => ?_
  exact (jss_cons (js_if (jt_gt (je_ix rfl (je_var 0) je_int) je_int) (jss_cons (js_set sc__law_taken.nd (i := 3) rfl (by first | exact Or.inl rfl | exact Or.inr rfl) (je_mod (je_intB rfl (T.free 0 rfl) (ja_cons (je_ix rfl (je_var 0) je_int) ja_nil)) (je_var 1)))
  (jss_cons (js_asg (je_div (je_ix rfl (je_var 0) je_int) (je_var 1)) (jg_item (je_var 0) je_int))
  (jss_one (js_ret (je_var 3))))) jss_nil)
  (jss_cons (js_asg (je_add rfl (je_ix rfl (je_var 0) je_int) je_int) (jg_item (je_var 0) je_int))
  (jss_cons (js_if (jt_gt (je_ix rfl (je_var 0) je_int) (je_callB call_len len_ok rfl (T.free 1 rfl) (by decide +kernel) (ja_cons (je_ix rfl (je_var 0) je_int) ja_nil))) (jss_cons (js_asg (je_mod (je_intB rfl (T.free 0 rfl) (ja_cons (je_add rfl (je_mul rfl (je_ix rfl (je_var 0) je_int) je_int) je_int) ja_nil)) je_int) (jg_item (je_var 0) je_int))
  (jss_one (js_ret (je_mod (je_intB rfl (T.free 0 rfl) (ja_cons (je_div (je_ix rfl (je_var 0) je_int) je_int) ja_nil)) (je_var 1))))) jss_nil)
  (jss_cons (js_set sc__law_taken.nd (i := 2) rfl (by first | exact Or.inl rfl | exact Or.inr rfl) (je_ix rfl (je_ix rfl (je_var 0) je_int) (je_sub (je_ix rfl (je_var 0) je_int) je_int)))
  (jss_cons (js_asg (je_mod (je_intB rfl (T.free 0 rfl) (ja_cons (je_add rfl (je_add rfl (je_mul rfl (je_ix rfl (je_var 0) je_int) je_int) (je_var 2)) je_int) ja_nil)) je_int) (jg_item (je_var 0) je_int))
  (jss_cons (js_if (jt_ge (je_var 2) (je_pow je_int je_int)) (jss_one (js_asg (je_div (je_var 2) (je_var 1)) (jg_item (je_var 0) je_int))) jss_nil)
  (jss_one (js_ret (je_mod (je_intB rfl (T.free 0 rfl) (ja_cons (je_var 2) ja_nil)) (je_var 1))))))))))
theorem sc__law_pick : FnScope ["row", "some"] ["row", "some"] (defScope s__law_pick) := ⟨rfl, rfl, rfl, by decide +kernel, rfl, by decide +kernel, by decide +kernel⟩
noncomputable def B__law_pick : SM := (sRet (fBin fIx (mVar 1) (mCallR 2 F__law_taken (mCons (mVar 0) (mCons (mCB fLen (mCons (mVar 1) mNil)) mNil)) [])))
noncomputable def F__law_pick : FM := runB 2 B__law_pick
theorem ok__law_pick (T : TX P w W mg base) : Good P w W mg base 2 (He.fAd W.K ("_law_pick", none)) ["row", "some"] F__law_pick := by
  refine good_of (T.def_ 1 rfl) sc__law_pick (fun fd F => F.bindsN fun _ _ _ _ _ _ us hl => match us, hl with | [_, _], _ => rfl) fun A outer s H E hr => ?_
  exact (jss_one (js_ret (je_ix rfl (je_var 1) (je_cR rfl (takes_of rfl rfl rfl rfl) (ok__law_taken T) rfl (hr.mono (by decide)) rfl (T.glo 2 rfl) (ja_cons (je_var 0) (ja_cons (je_callB call_len len_ok rfl (T.free 1 rfl) (by decide +kernel) (ja_cons (je_var 1) ja_nil)) ja_nil))))))
theorem sc__law_rooms : FnScope ["row", "many"] ["row", "many"] (defScope s__law_rooms) := ⟨rfl, rfl, rfl, by decide +kernel, rfl, by decide +kernel, by decide +kernel⟩
noncomputable def B__law_rooms : SM := (sRet (mCallR 2 F__law_pick (mCons (mVar 0) (mCons (mLst (mCons (mCallR 2 F__law_taken (mCons (mVar 0) (mCons (mC (.int 4)) mNil)) []) (mCons (mVar 1) (mCons (mCallR 2 F__law_taken (mCons (mVar 0) (mCons (fBin fAdd (mVar 1) (mC (.int 1))) mNil)) []) (mCons (mCallR 2 F__law_taken (mCons (mVar 0) (mCons (fBin fAdd (mVar 1) (mC (.int 1))) mNil)) []) mNil))))) mNil)) []))
noncomputable def F__law_rooms : FM := runB 2 B__law_rooms
theorem ok__law_rooms (T : TX P w W mg base) : Good P w W mg base 3 (He.fAd W.K ("_law_rooms", none)) ["row", "many"] F__law_rooms := by
  refine good_of (T.def_ 2 rfl) sc__law_rooms (fun fd F => F.bindsN fun _ _ _ _ _ _ us hl => match us, hl with | [_, _], _ => rfl) fun A outer s H E hr => ?_
  exact (jss_one (js_ret (je_cR rfl (takes_of rfl rfl rfl rfl) (ok__law_pick T) rfl (hr.mono (by decide)) rfl (T.glo 3 rfl) (ja_cons (je_var 0) (ja_cons (je_lst (ja_cons (je_cR rfl (takes_of rfl rfl rfl rfl) (ok__law_taken T) rfl (hr.mono (by decide)) rfl (T.glo 2 rfl) (ja_cons (je_var 0) (ja_cons je_int ja_nil))) (ja_cons (je_var 1) (ja_cons (je_cR rfl (takes_of rfl rfl rfl rfl) (ok__law_taken T) rfl (hr.mono (by decide)) rfl (T.glo 2 rfl) (ja_cons (je_var 0) (ja_cons (je_add rfl (je_var 1) je_int) ja_nil))) (ja_cons (je_cR rfl (takes_of rfl rfl rfl rfl) (ok__law_taken T) rfl (hr.mono (by decide)) rfl (T.glo 2 rfl) (ja_cons (je_var 0) (ja_cons (je_add rfl (je_var 1) je_int) ja_nil))) ja_nil))))) ja_nil)))))
theorem sc__law_legs : FnScope ["row", "rooms", "many", "heights", "wide", "wrong", "found", "k", "one", "other", "rise", "low", "high", "by"] ["row", "rooms", "many"] (defScope s__law_legs) := ⟨rfl, rfl, rfl, by decide +kernel, rfl, by decide +kernel, by decide +kernel⟩
noncomputable def B__law_legs : SM := (sSeq (sIf (tBool (fBin fLt (mVar 1) (mC (.int 2)))) (sRet (mTup mNil)) sNil)
  (sSeq (sAsg (lcRun [7] (iRange1 (mVar 1)) (gVar 7) tTrue (mCallR 2 F__law_taken (mCons (mVar 0) (mCons (mC (.int 200)) mNil)) []) kFrz) (gVar 3))
  (sSeq (sAsg (mCallR 2 F__law_pick (mCons (mVar 0) (mCons (mLst (mCons (mC (.int 1)) (mCons (mC (.int 3)) (mCons (mC (.int 10)) (mCons (mC (.int 100)) mNil))))) mNil)) []) (gVar 4))
  (sSeq (sAsg (mCallR 2 F__law_pick (mCons (mVar 0) (mCons (mLst (mCons (mC (.int 0)) (mCons (mC (.int 0)) (mCons (mC (.int 0)) (mCons (mC (.int 6)) (mCons (mC (.int 12)) mNil)))))) mNil)) []) (gVar 5))
  (sSeq (sAsg (mLstC mNil) (gVar 6))
  (sSeq (sFor (iRange1 (mCallR 2 F__law_pick (mCons (mVar 0) (mCons (mLst (mCons (mCallR 2 F__law_taken (mCons (mVar 0) (mCons (fBin fAdd (mVar 2) (mC (.int 1))) mNil)) []) (mCons (mCallR 2 F__law_taken (mCons (mVar 0) (mCons (fBin fAdd (mVar 2) (mC (.int 1))) mNil)) []) (mCons (mCB fMin2 (mCons (mVar 2) (mCons (fBin fSub (mVar 1) (mC (.int 1))) mNil))) mNil)))) mNil)) [])) (gVar 7) (sSeq (sAsg (mCallR 2 F__law_taken (mCons (mVar 0) (mCons (mVar 1) mNil)) []) (gVar 8))
  (sSeq (sAsg (fBin fAdd (fBin fAdd (mVar 8) (mC (.int 1))) (mCallR 2 F__law_taken (mCons (mVar 0) (mCons (fBin fSub (mVar 1) (mC (.int 1))) mNil)) [])) (gVar 9))
  (sSeq (sAsg (mIf (tBool (fBin fGe (mVar 9) (mVar 1))) (fBin fSub (mVar 9) (mVar 1)) (mVar 9)) (gVar 9))
  (sSeq (sAsg (fBin fSub (fBin fIx (mVar 3) (mVar 9)) (fBin fIx (mVar 3) (mVar 8))) (gVar 10))
  (sSeq (sPar 11 12 (fBin fSub (mVar 10) (mCallR 2 F__law_taken (mCons (mVar 0) (mCons (mVar 4) mNil)) [])) (fBin fAdd (mVar 10) (mCallR 2 F__law_taken (mCons (mVar 0) (mCons (mVar 4) mNil)) [])))
  (sSeq (sIf (tAndM (tBool (fBin fGt (mVar 5) (mC (.int 0)))) (tBool (fBin fEq (mCallR 2 F__law_taken (mCons (mVar 0) (mCons (mVar 5) mNil)) []) (mC (.int 0))))) (sSeq (sAsg (mCallR 2 F__law_pick (mCons (mVar 0) (mCons (mLst (mCons (mC (.int 30)) (mCons (fUn fNeg (mC (.int 30))) (mCons (mC (.int 5)) (mCons (fUn fNeg (mC (.int 5))) (mCons (mC (.int 9000)) (mCons (fUn fNeg (mC (.int 9000))) mNil))))))) mNil)) []) (gVar 13))
  (sPar 11 12 (fBin fAdd (mVar 11) (mVar 13)) (fBin fAdd (mVar 12) (mVar 13)))) sNil)
  (sExpr (sApp (mVar 6) (mTup (mCons (mVar 8) (mCons (mVar 9) (mCons (mVar 11) (mCons (mVar 12) mNil))))))))))))))
  (sRet (mCB fTuple (mCons (mVar 6) mNil)))))))))
noncomputable def F__law_legs : FM := runB 14 B__law_legs
theorem ok__law_legs (T : TX P w W mg base) : Good P w W mg base 3 (He.fAd W.K ("_law_legs", none)) ["row", "rooms", "many"] F__law_legs := by
  refine good_of (T.def_ 3 rfl) sc__law_legs (fun fd F => F.bindsN fun _ _ _ _ _ _ us hl => match us, hl with | [_, _, _], _ => rfl) fun A outer s H E hr => ?_
  exact (jss_cons (js_if (jt_lt (je_var 1) je_int) (jss_one (js_ret (je_tup ja_nil))) jss_nil)
  (jss_cons (js_setLc (own := [("k", 7)]) (ts := [7]) kFrz_ok (by decide) rfl sc__law_legs.nd (i := 3) rfl rfl rfl (ji_range1 rfl (T.free 4 rfl) (je_var 1)) (blk_by (N := ["row", "rooms", "many", "heights", "wide", "wrong", "found", "k", "one", "other", "rise", "low", "high", "by"]) (sc := (defScope s__law_legs)) (by decide +kernel)) (fun _ _ _ _ _ => (by exact (jg_name sc__law_legs.nd (i := 7) rfl (by first | exact Or.inl rfl | exact Or.inr rfl)))) (fun _ _ _ _ _ => (by exact jts_nil)) (fun _ _ _ _ _ => (by exact (je_cR rfl takes0E (ok__law_taken T) rfl (hr.mono (by decide)) rfl (T.glo 2 rfl) (ja_cons (je_var 0) (ja_cons je_int ja_nil))))))
  (jss_cons (js_set sc__law_legs.nd (i := 4) rfl (by first | exact Or.inl rfl | exact Or.inr rfl) (je_cR rfl (takes_of rfl rfl rfl rfl) (ok__law_pick T) rfl (hr.mono (by decide)) rfl (T.glo 3 rfl) (ja_cons (je_var 0) (ja_cons (je_lst (ja_cons je_int (ja_cons je_int (ja_cons je_int (ja_cons je_int ja_nil))))) ja_nil))))
  (jss_cons (js_set sc__law_legs.nd (i := 5) rfl (by first | exact Or.inl rfl | exact Or.inr rfl) (je_cR rfl (takes_of rfl rfl rfl rfl) (ok__law_pick T) rfl (hr.mono (by decide)) rfl (T.glo 3 rfl) (ja_cons (je_var 0) (ja_cons (je_lst (ja_cons je_int (ja_cons je_int (ja_cons je_int (ja_cons je_int (ja_cons je_int ja_nil)))))) ja_nil))))
  (jss_cons (js_set sc__law_legs.nd (i := 6) rfl (by first | exact Or.inl rfl | exact Or.inr rfl) (je_lstC ja_nil))
  (jss_cons (js_for (passes_of rfl) rfl (ji_range1 rfl (T.free 4 rfl) (je_cR rfl (takes_of rfl rfl rfl rfl) (ok__law_pick T) rfl (hr.mono (by decide)) rfl (T.glo 3 rfl) (ja_cons (je_var 0) (ja_cons (je_lst (ja_cons (je_cR rfl (takes_of rfl rfl rfl rfl) (ok__law_taken T) rfl (hr.mono (by decide)) rfl (T.glo 2 rfl) (ja_cons (je_var 0) (ja_cons (je_add rfl (je_var 2) je_int) ja_nil))) (ja_cons (je_cR rfl (takes_of rfl rfl rfl rfl) (ok__law_taken T) rfl (hr.mono (by decide)) rfl (T.glo 2 rfl) (ja_cons (je_var 0) (ja_cons (je_add rfl (je_var 2) je_int) ja_nil))) (ja_cons (je_callB (call_min2 rfl) f2_ok rfl (T.free 5 rfl) (by decide +kernel) (ja_cons (je_var 2) (ja_cons (je_sub (je_var 1) je_int) ja_nil))) ja_nil)))) ja_nil)))) (jg_name sc__law_legs.nd (i := 7) rfl (by first | exact Or.inl rfl | exact Or.inr rfl)) (jss_cons (js_set sc__law_legs.nd (i := 8) rfl (by first | exact Or.inl rfl | exact Or.inr rfl) (je_cR rfl (takes_of rfl rfl rfl rfl) (ok__law_taken T) rfl (hr.mono (by decide)) rfl (T.glo 2 rfl) (ja_cons (je_var 0) (ja_cons (je_var 1) ja_nil))))
  (jss_cons (js_set sc__law_legs.nd (i := 9) rfl (by first | exact Or.inl rfl | exact Or.inr rfl) (je_add rfl (je_add rfl (je_var 8) je_int) (je_cR rfl (takes_of rfl rfl rfl rfl) (ok__law_taken T) rfl (hr.mono (by decide)) rfl (T.glo 2 rfl) (ja_cons (je_var 0) (ja_cons (je_sub (je_var 1) je_int) ja_nil)))))
  (jss_cons (js_set sc__law_legs.nd (i := 9) rfl (by first | exact Or.inl rfl | exact Or.inr rfl) (je_if (jt_ge (je_var 9) (je_var 1)) (je_sub (je_var 9) (je_var 1)) (je_var 9)))
  (jss_cons (js_set sc__law_legs.nd (i := 10) rfl (by first | exact Or.inl rfl | exact Or.inr rfl) (je_sub (je_ix rfl (je_var 3) (je_var 9)) (je_ix rfl (je_var 3) (je_var 8))))
  (jss_cons (js_par rfl sc__law_legs.nd (i := 11) (j := 12) rfl rfl (by decide) rfl rfl (je_sub (je_var 10) (je_cR rfl (takes_of rfl rfl rfl rfl) (ok__law_taken T) rfl (hr.mono (by decide)) rfl (T.glo 2 rfl) (ja_cons (je_var 0) (ja_cons (je_var 4) ja_nil)))) (je_add rfl (je_var 10) (je_cR rfl (takes_of rfl rfl rfl rfl) (ok__law_taken T) rfl (hr.mono (by decide)) rfl (T.glo 2 rfl) (ja_cons (je_var 0) (ja_cons (je_var 4) ja_nil)))) rfl)
  (jss_cons (js_if (jt_w (jw_and (jt_gt (je_var 5) je_int) (jw_and1 (jt_eq rfl hr.units (je_cR rfl (takes_of rfl rfl rfl rfl) (ok__law_taken T) rfl (hr.mono (by decide)) rfl (T.glo 2 rfl) (ja_cons (je_var 0) (ja_cons (je_var 5) ja_nil))) je_int)))) (jss_cons (js_set sc__law_legs.nd (i := 13) rfl (by first | exact Or.inl rfl | exact Or.inr rfl) (je_cR rfl (takes_of rfl rfl rfl rfl) (ok__law_pick T) rfl (hr.mono (by decide)) rfl (T.glo 3 rfl) (ja_cons (je_var 0) (ja_cons (je_lst (ja_cons je_int (ja_cons (je_neg je_int) (ja_cons je_int (ja_cons (je_neg je_int) (ja_cons je_int (ja_cons (je_neg je_int) ja_nil))))))) ja_nil))))
  (jss_one (js_par rfl sc__law_legs.nd (i := 11) (j := 12) rfl rfl (by decide) rfl rfl (je_add rfl (je_var 11) (je_var 13)) (je_add rfl (je_var 12) (je_var 13)) rfl))) jss_nil)
  (jss_one (js_expr (je_app rfl (je_var 6) (je_tup (ja_cons (je_var 8) (ja_cons (je_var 9) (ja_cons (je_var 11) (ja_cons (je_var 12) ja_nil)))))))))))))))
  (jss_one (js_ret (je_tupleB rfl rfl (T.free 6 rfl) (ja_cons (je_var 6) ja_nil))))))))))
theorem sc_check : FnScope ["is_right", "name"] ["is_right", "name"] (defScope s_check) := ⟨rfl, rfl, rfl, by decide +kernel, rfl, by decide +kernel, by decide +kernel⟩
noncomputable def B_check : SM := (sIf (tNotM (tTruth (mVar 0))) (sRaise 11 (mVar 1)) sNil)
noncomputable def F_check : FM := runB 2 B_check
theorem ok_check (T : TX P w W mg base) : Good P w W mg base 1 (He.fAd W.K ("check", none)) ["is_right", "name"] F_check := by
  obtain ⟨_, xBT⟩ := T.xB
  obtain ⟨_, xNT⟩ := T.xN
  refine good_of (T.def_ 4 rfl) sc_check (fun fd F => F.bindsN fun _ _ _ _ _ _ us hl => match us, hl with | [_, _], _ => rfl) fun A outer s H E hr => ?_
  exact (jss_one (js_if (jt_not (jt_truth rfl (je_var 0))) (jss_one (js_raise rfl rfl (takes_of rfl rfl rfl rfl) xBT hr (by decide) (by decide) rfl (je_var 1) rfl)) jss_nil))
theorem sc_is_number : FnScope ["value", "low", "high"] ["value", "low", "high"] (defScope s_is_number) := ⟨rfl, rfl, rfl, by decide +kernel, rfl, by decide +kernel, by decide +kernel⟩
noncomputable def B_is_number : SM := (sRet (mAnd (mIsi 0 .int (mVar 0)) (mAnd (fUn fNot (mIsi 0 .bl (mVar 0))) (mChain fLe fLe (mVar 1) (mVar 0) (mVar 2)))))
noncomputable def F_is_number : FM := runB 3 B_is_number
theorem ok_is_number (T : TX P w W mg base) : Good P w W mg base 1 (He.fAd W.K ("is_number", none)) ["value", "low", "high"] F_is_number := by
  refine good_of (T.def_ 5 rfl) sc_is_number (fun fd F => F.bindsN fun _ _ _ _ _ _ us hl => match us, hl with | [_, _, _], _ => rfl) fun A outer s H E hr => ?_
  exact (jss_one (js_ret (je_and (je_isi rfl T.iso rfl (T.free 7 rfl) (je_var 0) (pe_bltn (v := .ty "int") rfl (T.free 0 rfl) (by decide +kernel) rfl)) (je_and (je_not (je_isi rfl T.iso rfl (T.free 7 rfl) (je_var 0) (pe_bltn (v := .ty "bool") rfl (T.free 8 rfl) (by decide +kernel) rfl))) (je_one (je_lele (je_var 1) (je_var 0) (je_var 2)))))))
theorem sc_is_leg : FnScope ["value", "rooms", "one", "other", "low", "high"] ["value", "rooms"] (defScope s_is_leg) := ⟨rfl, rfl, rfl, by decide +kernel, rfl, by decide +kernel, by decide +kernel⟩
noncomputable def B_is_leg : SM := (sSeq (sIf (tOrM (tNotM (tTruth (mIsi 0 .tup (mVar 0)))) (tBool (fBin fNe (mCB fLen (mCons (mVar 0) mNil)) (mC (.int 4))))) (sRet (mC (.bl false))) sNil)
  (sSeq (sAsg (mVar 0) (gTupM 4 (gsCons (gVar 2) (gsCons (gVar 3) (gsCons (gVar 4) (gsCons (gVar 5) gsNil))))))
  (sSeq (sIf (tOrM (tNotM (tTruth (mCallP 3 F_is_number (mCons (mVar 2) (mCons (mC (.int 0)) (mCons (fBin fSub (mVar 1) (mC (.int 1))) mNil))) []))) (tOrM (tNotM (tTruth (mCallP 3 F_is_number (mCons (mVar 3) (mCons (mC (.int 0)) (mCons (fBin fSub (mVar 1) (mC (.int 1))) mNil))) []))) (tBool (fBin fEq (mVar 2) (mVar 3))))) (sRet (mC (.bl false))) sNil)
  (sRet (mAnd (mCallP 3 F_is_number (mCons (mVar 4) (mCons (fUn fNeg (mC (.int 10000))) (mCons (mC (.int 10000)) mNil))) []) (mCallP 3 F_is_number (mCons (mVar 5) (mCons (mVar 4) (mCons (mC (.int 10000)) mNil))) []))))))
noncomputable def F_is_leg : FM := runB 6 B_is_leg
theorem ok_is_leg (T : TX P w W mg base) : Good P w W mg base 2 (He.fAd W.K ("is_leg", none)) ["value", "rooms"] F_is_leg := by
  refine good_of (T.def_ 6 rfl) sc_is_leg (fun fd F => F.bindsN fun _ _ _ _ _ _ us hl => match us, hl with | [_, _], _ => rfl) fun A outer s H E hr => ?_
  exact (jss_cons (js_if (jt_w (jw_or (jt_not (jt_truth rfl (je_isi rfl T.iso rfl (T.free 7 rfl) (je_var 0) (pe_bltn (v := .ty "tuple") rfl (T.free 6 rfl) (by decide +kernel) rfl)))) (jw_or1 (jt_ne rfl hr.units (je_callB call_len len_ok rfl (T.free 1 rfl) (by decide +kernel) (ja_cons (je_var 0) ja_nil)) je_int)))) (jss_one (js_ret je_bl)) jss_nil)
  (jss_cons (js_asg (je_var 0) (jg_tup rfl rfl (jgs_cons (jg_name sc_is_leg.nd (i := 2) rfl (by first | exact Or.inl rfl | exact Or.inr rfl)) (jgs_cons (jg_name sc_is_leg.nd (i := 3) rfl (by first | exact Or.inl rfl | exact Or.inr rfl)) (jgs_cons (jg_name sc_is_leg.nd (i := 4) rfl (by first | exact Or.inl rfl | exact Or.inr rfl)) (jgs_cons (jg_name sc_is_leg.nd (i := 5) rfl (by first | exact Or.inl rfl | exact Or.inr rfl)) jgs_nil))))))
  (jss_cons (js_if (jt_w (jw_or (jt_not (jt_truth rfl (je_cP rfl (takes_of rfl rfl rfl rfl) (ok_is_number T) rfl (hr.mono (by decide)) rfl (T.glo 9 rfl) (ja_cons (je_var 2) (ja_cons je_int (ja_cons (je_sub (je_var 1) je_int) ja_nil)))))) (jw_or (jt_not (jt_truth rfl (je_cP rfl (takes_of rfl rfl rfl rfl) (ok_is_number T) rfl (hr.mono (by decide)) rfl (T.glo 9 rfl) (ja_cons (je_var 3) (ja_cons je_int (ja_cons (je_sub (je_var 1) je_int) ja_nil)))))) (jw_or1 (jt_eq rfl hr.units (je_var 2) (je_var 3)))))) (jss_one (js_ret je_bl)) jss_nil)
  (jss_one (js_ret (je_and (je_cP rfl (takes_of rfl rfl rfl rfl) (ok_is_number T) rfl (hr.mono (by decide)) rfl (T.glo 9 rfl) (ja_cons (je_var 4) (ja_cons (je_neg (je_gi rfl (T.int 10 rfl))) (ja_cons (je_gi rfl (T.int 10 rfl)) ja_nil)))) (je_one (je_cP rfl (takes_of rfl rfl rfl rfl) (ok_is_number T) rfl (hr.mono (by decide)) rfl (T.glo 9 rfl) (ja_cons (je_var 5) (ja_cons (je_var 4) (ja_cons (je_gi rfl (T.int 10 rfl)) ja_nil)))))))))))
theorem sc_are_legs : FnScope ["value", "rooms", "leg"] ["value", "rooms"] (defScope s_are_legs) := ⟨rfl, rfl, rfl, by decide +kernel, rfl, by decide +kernel, by decide +kernel⟩
noncomputable def B_are_legs : SM := (sSeq (sIf (tOrM (tNotM (tTruth (mIsi 0 .tup (mVar 0)))) (tBool (fBin fGt (mCB fLen (mCons (mVar 0) mNil)) (mC (.int 60))))) (sRet (mC (.bl false))) sNil)
  (sRet (mAllG [2] (iSeq (mVar 0)) (gVar 2) tTrue (mCallP 2 F_is_leg (mCons (mVar 2) (mCons (mVar 1) mNil)) []))))
noncomputable def F_are_legs : FM := runB 3 B_are_legs
theorem ok_are_legs (T : TX P w W mg base) : Good P w W mg base 9 (He.fAd W.K ("are_legs", none)) ["value", "rooms"] F_are_legs := by
  refine good_of (T.def_ 7 rfl) sc_are_legs (fun fd F => F.bindsN fun _ _ _ _ _ _ us hl => match us, hl with | [_, _], _ => rfl) fun A outer s H E hr => ?_
  exact (jss_cons (js_if (jt_w (jw_or (jt_not (jt_truth rfl (je_isi rfl T.iso rfl (T.free 7 rfl) (je_var 0) (pe_bltn (v := .ty "tuple") rfl (T.free 6 rfl) (by decide +kernel) rfl)))) (jw_or1 (jt_gt (je_callB call_len len_ok rfl (T.free 1 rfl) (by decide +kernel) (ja_cons (je_var 0) ja_nil)) (je_gi rfl (T.int 11 rfl)))))) (jss_one (js_ret je_bl)) jss_nil)
  (jss_one (js_ret (je_allG (own := [("leg", 2)]) (ts := [2]) (k := 2) ⟨(hr.mono (by decide)), T.gTab _ gens0, rfl, gxs_by (N := ["value", "rooms", "leg"]) (sc := (defScope s_are_legs)) (by decide +kernel), sc_are_legs.nd, (ji_seq rfl (je_var 0)), fun A s H C code fp pn hrG => (by exact (jg_name sc_are_legs.nd (i := 2) rfl (by first | exact Or.inl rfl | exact Or.inr rfl))), fun A s H C code fp pn hrG => (by exact jts_nil), fun A s H C code fp pn hrG => (by exact (je_cP rfl takes0E (ok_is_leg T) rfl (hrG.mono (by decide)) rfl (T.glo 12 rfl) (ja_cons (je_var 2) (ja_cons (je_var 1) ja_nil)))), fun _ => rfl, T.gIn _ gens0, T.gNo _ gens0, by decide⟩ rfl (T.free 13 rfl)))))
theorem sc_SurveyD_initD : FnScope ["self", "rooms", "legs"] ["self", "rooms", "legs"] (defScope s_SurveyD_initD) := ⟨rfl, rfl, rfl, by decide +kernel, rfl, by decide +kernel, by decide +kernel⟩
noncomputable def B_SurveyD_initD : SM := (sSeq (sExpr (mCallP 2 F_check (mCons (mCallP 3 F_is_number (mCons (mVar 1) (mCons (mC (.int 0)) (mCons (mC (.int 24)) mNil))) []) (mCons (mC (.str "rooms")) mNil)) []))
  (sSeq (sExpr (mCallP 2 F_check (mCons (mCallP 2 F_are_legs (mCons (mVar 2) (mCons (mVar 1) mNil)) []) (mCons (mC (.str "legs")) mNil)) []))
  (sSeq (sFldM 0 "_rooms" (mVar 0) (mVar 1))
  (sFldM 0 "_legs" (mVar 0) (mVar 2)))))
noncomputable def F_SurveyD_initD : FM := runB 3 B_SurveyD_initD
theorem ok_SurveyD_initD (T : TX P w W mg base) : Good P w W mg base 10 (He.fAd W.K ("Survey", some "__init__")) ["self", "rooms", "legs"] F_SurveyD_initD := by
  refine good_of (T.def_ 8 rfl) sc_SurveyD_initD (fun fd F => bindsAll F (List.cons_ne_nil _ _) fun _ _ _ _ _ _ _ us its h1 h2 => match us, its, h1, h2 with | [_, _, _], [_], _, _ => ⟨_, rfl, rfl⟩) fun A outer s H E hr => ?_
  exact (jss_cons (js_expr (je_cP rfl (takes_of rfl rfl rfl rfl) (ok_check T) rfl (hr.mono (by decide)) rfl (T.glo 15 rfl) (ja_cons (je_cP rfl (takes_of rfl rfl rfl rfl) (ok_is_number T) rfl (hr.mono (by decide)) rfl (T.glo 9 rfl) (ja_cons (je_var 1) (ja_cons je_int (ja_cons (je_gi rfl (T.int 14 rfl)) ja_nil)))) (ja_cons je_str ja_nil))))
  (jss_cons (js_expr (je_cP rfl (takes_of rfl rfl rfl rfl) (ok_check T) rfl (hr.mono (by decide)) rfl (T.glo 15 rfl) (ja_cons (je_cP rfl (takes_of rfl rfl rfl rfl) (ok_are_legs T) rfl (hr.mono (by decide)) rfl (T.glo 16 rfl) (ja_cons (je_var 2) (ja_cons (je_var 1) ja_nil))) (ja_cons je_str ja_nil))))
  (jss_cons (js_fld rfl (T.clsO 0 17 rfl) (T.noat 0 18 rfl) (je_var 0) (je_var 1))
  (jss_one (js_fld rfl (T.clsO 0 17 rfl) (T.noat 0 19 rfl) (je_var 0) (je_var 2))))))
theorem okd_SurveyD_initD (T : TX P w W mg base) : GoodD P w W mg base 10 (He.fAd W.K ("Survey", some "__init__")) ["self", "rooms", "legs"] [.tup []] F_SurveyD_initD := by
  refine goodD_of (T.def_ 8 rfl) sc_SurveyD_initD (List.cons_ne_nil _ _) rfl (fun S H => T.dflt S H) (fun _ _ _ _ _ _ _ us its h1 h2 => match us, its, h1, h2 with | [_, _], [_], _, _ => ⟨_, rfl, rfl⟩) fun A outer s H E hr => ?_
  exact (jss_cons (js_expr (je_cP rfl (takes_of rfl rfl rfl rfl) (ok_check T) rfl (hr.mono (by decide)) rfl (T.glo 15 rfl) (ja_cons (je_cP rfl (takes_of rfl rfl rfl rfl) (ok_is_number T) rfl (hr.mono (by decide)) rfl (T.glo 9 rfl) (ja_cons (je_var 1) (ja_cons je_int (ja_cons (je_gi rfl (T.int 14 rfl)) ja_nil)))) (ja_cons je_str ja_nil))))
  (jss_cons (js_expr (je_cP rfl (takes_of rfl rfl rfl rfl) (ok_check T) rfl (hr.mono (by decide)) rfl (T.glo 15 rfl) (ja_cons (je_cP rfl (takes_of rfl rfl rfl rfl) (ok_are_legs T) rfl (hr.mono (by decide)) rfl (T.glo 16 rfl) (ja_cons (je_var 2) (ja_cons (je_var 1) ja_nil))) (ja_cons je_str ja_nil))))
  (jss_cons (js_fld rfl (T.clsO 0 17 rfl) (T.noat 0 18 rfl) (je_var 0) (je_var 1))
  (jss_one (js_fld rfl (T.clsO 0 17 rfl) (T.noat 0 19 rfl) (je_var 0) (je_var 2))))))
theorem sc__law_alike : FnScope ["found", "due", "k", "key"] ["found", "due"] (defScope s__law_alike) := ⟨rfl, rfl, rfl, by decide +kernel, rfl, by decide +kernel, by decide +kernel⟩
noncomputable def B__law_alike (F : FM) : SM := (sSeq (sIf (tTruth (mIsi2 0 .tup .lst (mVar 1))) (sSeq (sIf (tOrM (tNotM (tTruth (mIsi2 0 .tup .lst (mVar 0)))) (tBool (fBin fNe (mIsi 0 .lst (mVar 0)) (mIsi 0 .lst (mVar 1))))) (sRet (mC (.bl false))) sNil)
  (sSeq (sIf (tBool (fBin fNe (mCB fLen (mCons (mVar 0) mNil)) (mCB fLen (mCons (mVar 1) mNil)))) (sRet (mC (.bl false))) sNil)
  (sRet (fBin fEq (lcRun [2] (iRange1 (mCB fLen (mCons (mVar 1) mNil))) (gVar 2) (tNotM (tTruth (mCallP 2 F (mCons (fBin fIx (mVar 0) (mVar 2)) (mCons (fBin fIx (mVar 1) (mVar 2)) mNil)) []))) (mVar 2) kFrz) (mLst mNil))))) sNil)
  (sSeq (sIf (tTruth (mIsi 0 .dic (mVar 1))) (sSeq (sIf (tOrM (tNotM (tTruth (mIsi 0 .dic (mVar 0)))) (tBool (fBin fNe (mCB fList (mCons (mVar 0) mNil)) (mCB fList (mCons (mVar 1) mNil))))) (sRet (mC (.bl false))) sNil)
  (sRet (fBin fEq (lcRun [3] (iSeq (mVar 1)) (gVar 3) (tNotM (tTruth (mCallP 2 F (mCons (fBin fIx (mVar 0) (mVar 3)) (mCons (fBin fIx (mVar 1) (mVar 3)) mNil)) []))) (mVar 3) kFrz) (mLst mNil)))) sNil)
  (sSeq (sIf (tOrM (tBool (fBin (fIs false) (mVar 1) (mC .non))) (tTruth (mIsi 0 .str (mVar 1)))) (sRet (mAnd (fBin fEq (mVar 0) (mVar 1)) (fBin fEq (mIsi 0 .str (mVar 0)) (mIsi 0 .str (mVar 1))))) sNil)
  (sRet (mAnd (mIsi 0 .int (mVar 0)) (mAnd (fBin fEq (mIsi 0 .bl (mVar 0)) (mIsi 0 .bl (mVar 1))) (fBin fEq (mVar 0) (mVar 1))))))))
noncomputable def F__law_alike : Nat → FM
  | 0 => fun _ _ => .bad
  | k + 1 => runB 4 (B__law_alike (F__law_alike k))
theorem st__law_alike (T : TX P w W mg base) {k : Nat} {F : FM} (hk : 1 ≤ k) (G : Good P w W mg base k (He.fAd W.K ("_law_alike", none)) ["found", "due"] F) : Good P w W mg base (k + 1) (He.fAd W.K ("_law_alike", none)) ["found", "due"] (runB 4 (B__law_alike F)) := by
  refine good_of (T.def_ 9 rfl) sc__law_alike (fun fd F => F.bindsN fun _ _ _ _ _ _ us hl => match us, hl with | [_, _], _ => rfl) fun A outer s H E hr => ?_
  exact (jss_cons (js_if (jt_truth rfl (je_isi2 rfl T.iso rfl (T.free 7 rfl) (je_var 1) (pe_bltn (v := .ty "tuple") rfl (T.free 6 rfl) (by decide +kernel) rfl) (pe_bltn (v := .ty "list") rfl (T.free 20 rfl) (by decide +kernel) rfl))) (jss_cons (js_if (jt_w (jw_or (jt_not (jt_truth rfl (je_isi2 rfl T.iso rfl (T.free 7 rfl) (je_var 0) (pe_bltn (v := .ty "tuple") rfl (T.free 6 rfl) (by decide +kernel) rfl) (pe_bltn (v := .ty "list") rfl (T.free 20 rfl) (by decide +kernel) rfl)))) (jw_or1 (jt_ne rfl hr.units (je_isi rfl T.iso rfl (T.free 7 rfl) (je_var 0) (pe_bltn (v := .ty "list") rfl (T.free 20 rfl) (by decide +kernel) rfl)) (je_isi rfl T.iso rfl (T.free 7 rfl) (je_var 1) (pe_bltn (v := .ty "list") rfl (T.free 20 rfl) (by decide +kernel) rfl)))))) (jss_one (js_ret je_bl)) jss_nil)
  (jss_cons (js_if (jt_ne rfl hr.units (je_callB call_len len_ok rfl (T.free 1 rfl) (by decide +kernel) (ja_cons (je_var 0) ja_nil)) (je_callB call_len len_ok rfl (T.free 1 rfl) (by decide +kernel) (ja_cons (je_var 1) ja_nil))) (jss_one (js_ret je_bl)) jss_nil)
  (jss_one (js_ret (je_eq rfl hr.units (je_lc (own := [("k", 2)]) (ts := [2]) kFrz_ok (by decide) rfl sc__law_alike.nd (ji_range1 rfl (T.free 4 rfl) (je_callB call_len len_ok rfl (T.free 1 rfl) (by decide +kernel) (ja_cons (je_var 1) ja_nil))) (blk_by (N := ["found", "due", "k", "key"]) (sc := (defScope s__law_alike)) (by decide +kernel)) (fun _ _ _ _ _ => (by exact (jg_name sc__law_alike.nd (i := 2) rfl (by first | exact Or.inl rfl | exact Or.inr rfl)))) (fun _ _ _ _ _ => (by exact (jts_one (jt_not (jt_truth rfl (je_cP rfl takes0E G rfl hr rfl (T.glo 21 rfl) (ja_cons (je_ix rfl (je_var 0) (je_var 2)) (ja_cons (je_ix rfl (je_var 1) (je_var 2)) ja_nil)))))))) (fun _ _ _ _ _ => (by exact (je_var 2)))) (je_lst ja_nil)))))) jss_nil)
  (jss_cons (js_if (jt_truth rfl (je_isi rfl T.iso rfl (T.free 7 rfl) (je_var 1) (pe_bltn (v := .ty "dict") rfl (T.free 22 rfl) (by decide +kernel) rfl))) (jss_cons (js_if (jt_w (jw_or (jt_not (jt_truth rfl (je_isi rfl T.iso rfl (T.free 7 rfl) (je_var 0) (pe_bltn (v := .ty "dict") rfl (T.free 22 rfl) (by decide +kernel) rfl)))) (jw_or1 (jt_ne rfl hr.units (je_listB rfl rfl (T.free 20 rfl) (ja_cons (je_var 0) ja_nil)) (je_listB rfl rfl (T.free 20 rfl) (ja_cons (je_var 1) ja_nil)))))) (jss_one (js_ret je_bl)) jss_nil)
  (jss_one (js_ret (je_eq rfl hr.units (je_lc (own := [("key", 3)]) (ts := [3]) kFrz_ok (by decide) rfl sc__law_alike.nd (ji_seq rfl (je_var 1)) (blk_by (N := ["found", "due", "k", "key"]) (sc := (defScope s__law_alike)) (by decide +kernel)) (fun _ _ _ _ _ => (by exact (jg_name sc__law_alike.nd (i := 3) rfl (by first | exact Or.inl rfl | exact Or.inr rfl)))) (fun _ _ _ _ _ => (by exact (jts_one (jt_not (jt_truth rfl (je_cP rfl takes0E G rfl hr rfl (T.glo 21 rfl) (ja_cons (je_ix rfl (je_var 0) (je_var 3)) (ja_cons (je_ix rfl (je_var 1) (je_var 3)) ja_nil)))))))) (fun _ _ _ _ _ => (by exact (je_var 3)))) (je_lst ja_nil))))) jss_nil)
  (jss_cons (js_if (jt_w (jw_or (jt_is (je_var 1) je_non) (jw_or1 (jt_truth rfl (je_isi rfl T.iso rfl (T.free 7 rfl) (je_var 1) (pe_bltn (v := .ty "str") rfl (T.free 23 rfl) (by decide +kernel) rfl)))))) (jss_one (js_ret (je_and (je_eq rfl hr.units (je_var 0) (je_var 1)) (je_one (je_eq rfl hr.units (je_isi rfl T.iso rfl (T.free 7 rfl) (je_var 0) (pe_bltn (v := .ty "str") rfl (T.free 23 rfl) (by decide +kernel) rfl)) (je_isi rfl T.iso rfl (T.free 7 rfl) (je_var 1) (pe_bltn (v := .ty "str") rfl (T.free 23 rfl) (by decide +kernel) rfl))))))) jss_nil)
  (jss_one (js_ret (je_and (je_isi rfl T.iso rfl (T.free 7 rfl) (je_var 0) (pe_bltn (v := .ty "int") rfl (T.free 0 rfl) (by decide +kernel) rfl)) (je_and (je_eq rfl hr.units (je_isi rfl T.iso rfl (T.free 7 rfl) (je_var 0) (pe_bltn (v := .ty "bool") rfl (T.free 8 rfl) (by decide +kernel) rfl)) (je_isi rfl T.iso rfl (T.free 7 rfl) (je_var 1) (pe_bltn (v := .ty "bool") rfl (T.free 8 rfl) (by decide +kernel) rfl))) (je_one (je_eq rfl hr.units (je_var 0) (je_var 1))))))))))
theorem ok__law_alike (T : TX P w W mg base) : ∀ k : Nat, Good P w W mg base (k + 1) (He.fAd W.K ("_law_alike", none)) ["found", "due"] (F__law_alike k)
  | 0 => (good_bad (T.def_ 9 rfl) (fun fd F => F.bindsN fun _ _ _ _ _ _ us hl => match us, hl with | [_, _], _ => rfl))
  | k + 1 => by
    have h := st__law_alike T (Nat.le_add_left 1 k) (ok__law_alike T k)
    rw [Nat.add_right_comm] at h
    exact h
theorem sc_SurveyD_eqD : FnScope ["self", "other"] ["self", "other"] (defScope s_SurveyD_eqD) := ⟨rfl, rfl, rfl, by decide +kernel, rfl, by decide +kernel, by decide +kernel⟩
noncomputable def B_SurveyD_eqD : SM := (sRet (mAnd (mIsi 0 (.own 0) (mVar 1)) (mAnd (fBin fEq (fUn (fFld 0 "_rooms") (mVar 0)) (fUn (fFld 0 "_rooms") (mVar 1))) (fBin fEq (fUn (fFld 0 "_legs") (mVar 0)) (fUn (fFld 0 "_legs") (mVar 1))))))
noncomputable def F_SurveyD_eqD : FM := runB 2 B_SurveyD_eqD
theorem ok_SurveyD_eqD (T : TX P w W mg base) : Good P w W mg base 3 (He.fAd W.K ("Survey", some "__eq__")) ["self", "other"] F_SurveyD_eqD := by
  refine good_of (T.def_ 10 rfl) sc_SurveyD_eqD (fun fd F => F.bindsN fun _ _ _ _ _ _ us hl => match us, hl with | [_, _], _ => rfl) fun A outer s H E hr => ?_
  exact (jss_one (js_ret (je_and (je_isi rfl T.iso rfl (T.free 7 rfl) (je_var 1) (pe_glob (v := .ref (W.cls 0)) rfl (T.gloC 0 24 rfl) rfl)) (je_and (je_eq rfl hr.units (je_fld rfl (T.clsO 0 17 rfl) (T.noat 0 18 rfl) (je_var 0)) (je_pr rfl (T.clsO 0 17 rfl) (pr_Survey_rooms T) (hr.mono (by decide)) (je_var 1))) (je_one (je_eq rfl hr.units (je_fld rfl (T.clsO 0 17 rfl) (T.noat 0 19 rfl) (je_var 0)) (je_pr rfl (T.clsO 0 17 rfl) (pr_Survey_legs T) (hr.mono (by decide)) (je_var 1))))))))
theorem sc_Survey_with_leg : FnScope ["self", "leg"] ["self", "leg"] (defScope s_Survey_with_leg) := ⟨rfl, rfl, rfl, by decide +kernel, rfl, by decide +kernel, by decide +kernel⟩
noncomputable def B_Survey_with_leg : SM := (sSeq (sExpr (mCallP 2 F_check (mCons (mAnd (mCallP 2 F_is_leg (mCons (mVar 1) (mCons (fUn (fFld 0 "_rooms") (mVar 0)) mNil)) []) (fBin fLt (mCB fLen (mCons (fUn (fFld 0 "_legs") (mVar 0)) mNil)) (mC (.int 60)))) (mCons (mC (.str "leg")) mNil)) []))
  (sRet (mMake 0 3 F_SurveyD_initD (mCons (fUn (fFld 0 "_rooms") (mVar 0)) (mCons (fBin fAdd (fUn (fFld 0 "_legs") (mVar 0)) (mTup (mCons (mVar 1) mNil))) mNil)) [])))
noncomputable def F_Survey_with_leg : FM := runB 2 B_Survey_with_leg
theorem ok_Survey_with_leg (T : TX P w W mg base) : Good P w W mg base 12 (He.fAd W.K ("Survey", some "with_leg")) ["self", "leg"] F_Survey_with_leg := by
  refine good_of (T.def_ 11 rfl) sc_Survey_with_leg (fun fd F => F.bindsN fun _ _ _ _ _ _ us hl => match us, hl with | [_, _], _ => rfl) fun A outer s H E hr => ?_
  exact (jss_cons (js_expr (je_cP rfl (takes_of rfl rfl rfl rfl) (ok_check T) rfl (hr.mono (by decide)) rfl (T.glo 15 rfl) (ja_cons (je_and (je_cP rfl (takes_of rfl rfl rfl rfl) (ok_is_leg T) rfl (hr.mono (by decide)) rfl (T.glo 12 rfl) (ja_cons (je_var 1) (ja_cons (je_fld rfl (T.clsO 0 17 rfl) (T.noat 0 18 rfl) (je_var 0)) ja_nil))) (je_one (je_lt (je_callB call_len len_ok rfl (T.free 1 rfl) (by decide +kernel) (ja_cons (je_fld rfl (T.clsO 0 17 rfl) (T.noat 0 19 rfl) (je_var 0)) ja_nil)) (je_gi rfl (T.int 11 rfl))))) (ja_cons je_str ja_nil))))
  (jss_one (js_ret (je_cM rfl (takes_of rfl rfl rfl rfl) rfl (T.mkr 0 25 rfl) (ok_SurveyD_initD T) rfl (hr.mono (by decide)) rfl (T.gloC 0 24 rfl) (ja_cons (je_fld rfl (T.clsO 0 17 rfl) (T.noat 0 18 rfl) (je_var 0)) (ja_cons (je_add rfl (je_fld rfl (T.clsO 0 17 rfl) (T.noat 0 19 rfl) (je_var 0)) (je_tup (ja_cons (je_var 1) ja_nil))) ja_nil))))))
theorem sc_Survey_without_leg : FnScope ["self", "number"] ["self", "number"] (defScope s_Survey_without_leg) := ⟨rfl, rfl, rfl, by decide +kernel, rfl, by decide +kernel, by decide +kernel⟩
noncomputable def B_Survey_without_leg : SM := (sSeq (sExpr (mCallP 2 F_check (mCons (mCallP 3 F_is_number (mCons (mVar 1) (mCons (mC (.int 0)) (mCons (fBin fSub (mCB fLen (mCons (fUn (fFld 0 "_legs") (mVar 0)) mNil)) (mC (.int 1))) mNil))) []) (mCons (mC (.str "number")) mNil)) []))
  (sRet (mMake 0 3 F_SurveyD_initD (mCons (fUn (fFld 0 "_rooms") (mVar 0)) (mCons (fBin fAdd (mSlice (fUn (fFld 0 "_legs") (mVar 0)) mNoPart (mPart (mVar 1))) (mSlice (fUn (fFld 0 "_legs") (mVar 0)) (mPart (fBin fAdd (mVar 1) (mC (.int 1)))) mNoPart)) mNil)) [])))
noncomputable def F_Survey_without_leg : FM := runB 2 B_Survey_without_leg
theorem ok_Survey_without_leg (T : TX P w W mg base) : Good P w W mg base 12 (He.fAd W.K ("Survey", some "without_leg")) ["self", "number"] F_Survey_without_leg := by
  refine good_of (T.def_ 12 rfl) sc_Survey_without_leg (fun fd F => F.bindsN fun _ _ _ _ _ _ us hl => match us, hl with | [_, _], _ => rfl) fun A outer s H E hr => ?_
  exact (jss_cons (js_expr (je_cP rfl (takes_of rfl rfl rfl rfl) (ok_check T) rfl (hr.mono (by decide)) rfl (T.glo 15 rfl) (ja_cons (je_cP rfl (takes_of rfl rfl rfl rfl) (ok_is_number T) rfl (hr.mono (by decide)) rfl (T.glo 9 rfl) (ja_cons (je_var 1) (ja_cons je_int (ja_cons (je_sub (je_callB call_len len_ok rfl (T.free 1 rfl) (by decide +kernel) (ja_cons (je_fld rfl (T.clsO 0 17 rfl) (T.noat 0 19 rfl) (je_var 0)) ja_nil)) je_int) ja_nil)))) (ja_cons je_str ja_nil))))
  (jss_one (js_ret (je_cM rfl (takes_of rfl rfl rfl rfl) rfl (T.mkr 0 25 rfl) (ok_SurveyD_initD T) rfl (hr.mono (by decide)) rfl (T.gloC 0 24 rfl) (ja_cons (je_fld rfl (T.clsO 0 17 rfl) (T.noat 0 18 rfl) (je_var 0)) (ja_cons (je_add rfl (je_slice rfl (je_fld rfl (T.clsO 0 17 rfl) (T.noat 0 19 rfl) (je_var 0)) jo_none (jo_some (je_var 1))) (je_slice rfl (je_fld rfl (T.clsO 0 17 rfl) (T.noat 0 19 rfl) (je_var 0)) (jo_some (je_add rfl (je_var 1) je_int)) jo_none)) ja_nil))))))
theorem sc__law_refused : FnScope ["row", "rooms", "legs", "survey", "bad", "more", "leg", "wrong"] ["row", "rooms", "legs", "survey"] (defScope s__law_refused) := ⟨rfl, rfl, rfl, by decide +kernel, rfl, by decide +kernel, by decide +kernel⟩
noncomputable def B__law_refused : SM := (sSeq (sAsg (mCallR 2 F__law_pick (mCons (mVar 0) (mCons (mLst (mCons (mC .non) (mCons (fUn fNeg (mC (.int 1))) (mCons (mCB fLen (mCons (mVar 2) mNil)) (mCons (mC (.bl true)) (mCons (mC (.str "0")) mNil)))))) mNil)) []) (gVar 4))
  (sSeq (sIf (tNotM (tTruth (mCallP 2 (F__law_alike 6) (mCons (mHeard (mMethP 0 "without_leg" 2 F_Survey_without_leg (mVar 3) (mCons (mVar 4) mNil))) (mCons (mTup (mCons (mC (.str "bad")) (mCons (mC (.str "number")) (mCons (mC (.bl true)) mNil)))) mNil)) []))) (sRet (mC (.bl false))) sNil)
  (sSeq (sAsg (mCallR 3 F__law_legs (mCons (mVar 0) (mCons (mVar 1) (mCons (mC (.int 1)) mNil))) []) (gVar 5))
  (sSeq (sIf (tAndM (tBool (fBin fNe (mVar 5) (mTup mNil))) (tAndM (tBool (fBin fLt (mCB fLen (mCons (mVar 2) mNil)) (mC (.int 60)))) (tBool (fBin fNe (fUn (fFld 0 "_legs") (mMethP 0 "with_leg" 2 F_Survey_with_leg (mVar 3) (mCons (fBin fIx (mVar 5) (mC (.int 0))) mNil))) (fBin fAdd (mVar 2) (mVar 5)))))) (sRet (mC (.bl false))) sNil)
  (sSeq (sIf (tAndM (tBool (fBin fNe (mVar 5) (mTup mNil))) (tAndM (tBool (fBin fEq (mCB fLen (mCons (mVar 2) mNil)) (mC (.int 60)))) (tNotM (tTruth (mCallP 2 (F__law_alike 6) (mCons (mHeard (mMethP 0 "with_leg" 2 F_Survey_with_leg (mVar 3) (mCons (fBin fIx (mVar 5) (mC (.int 0))) mNil))) (mCons (mTup (mCons (mC (.str "bad")) (mCons (mC (.str "leg")) (mCons (mC (.bl true)) mNil)))) mNil)) []))))) (sRet (mC (.bl false))) sNil)
  (sSeq (sAsg (mCallR 2 F__law_pick (mCons (mVar 0) (mCons (mLst (mCons (mC .non) (mCons (mTup (mCons (mC (.int 0)) (mCons (mC (.int 0)) (mCons (mC (.int 0)) (mCons (mC (.int 0)) mNil))))) (mCons (mTup (mCons (mC (.int 0)) (mCons (mVar 1) (mCons (mC (.int 0)) (mCons (mC (.int 0)) mNil))))) (mCons (mTup (mCons (mC (.int 0)) (mCons (mC (.int 1)) (mCons (mC (.int 1)) (mCons (mC (.int 0)) mNil))))) (mCons (mTup (mCons (mC (.int 0)) (mCons (mC (.int 1)) (mCons (mC (.int 0)) mNil)))) (mCons (mTup (mCons (mC (.int 0)) (mCons (mC (.int 1)) (mCons (mC (.int 0)) (mCons (mC (.int 10001)) mNil))))) (mCons (mTup (mCons (mC (.int 0)) (mCons (mC (.int 1)) (mCons (fUn fNeg (mC (.int 10001))) (mCons (mC (.int 0)) mNil))))) (mCons (mLst (mCons (mC (.int 0)) (mCons (mC (.int 1)) (mCons (mC (.int 0)) (mCons (mC (.int 0)) mNil))))) (mCons (mTup (mCons (mC (.int 0)) (mCons (mC (.int 1)) (mCons (mC (.int 0)) (mCons (mC (.bl true)) mNil))))) (mCons (mTup (mCons (fUn fNeg (mC (.int 1))) (mCons (mC (.int 0)) (mCons (mC (.int 0)) (mCons (mC (.int 0)) mNil))))) mNil))))))))))) mNil)) []) (gVar 6))
  (sSeq (sIf (tNotM (tTruth (mCallP 2 (F__law_alike 6) (mCons (mHeard (mMethP 0 "with_leg" 2 F_Survey_with_leg (mVar 3) (mCons (mVar 6) mNil))) (mCons (mTup (mCons (mC (.str "bad")) (mCons (mC (.str "leg")) (mCons (mC (.bl true)) mNil)))) mNil)) []))) (sRet (mC (.bl false))) sNil)
  (sSeq (sAsg (mCallR 2 F__law_pick (mCons (mVar 0) (mCons (mLst (mCons (mCB fList (mCons (mVar 2) mNil)) (mCons (fBin fAdd (mVar 2) (mTup (mCons (mVar 6) mNil))) (mCons (mC .non) (mCons (fBin fMulT (mTup (mCons (mTup (mCons (mC (.int 0)) (mCons (mC (.int 1)) (mCons (mC (.int 0)) (mCons (mC (.int 0)) mNil))))) mNil)) (mC (.int 61))) (mCons (mC (.int 0)) mNil)))))) mNil)) []) (gVar 7))
  (sSeq (sIf (tNotM (tTruth (mCallP 2 (F__law_alike 6) (mCons (mHeard (mMake 0 3 F_SurveyD_initD (mCons (mVar 1) (mCons (mVar 7) mNil)) [])) (mCons (mTup (mCons (mC (.str "bad")) (mCons (mC (.str "legs")) (mCons (mC (.bl true)) mNil)))) mNil)) []))) (sRet (mC (.bl false))) sNil)
  (sSeq (sAsg (mCallR 2 F__law_pick (mCons (mVar 0) (mCons (mLst (mCons (mC (.int 25)) (mCons (fUn fNeg (mC (.int 1))) (mCons (mC .non) (mCons (mC (.bl true)) (mCons (mC (.str "3")) mNil)))))) mNil)) []) (gVar 7))
  (sRet (mAnd (mCallP 2 (F__law_alike 6) (mCons (mHeard (mMake 0 3 F_SurveyD_initD (mCons (mVar 7) (mCons (mC .non) mNil)) [])) (mCons (mTup (mCons (mC (.str "bad")) (mCons (mC (.str "rooms")) (mCons (mC (.bl true)) mNil)))) mNil)) []) (fBin (fOwn 0 F_SurveyD_eqD false) (mMake 0 3 F_SurveyD_initD (mCons (mVar 1) mNil) [.tup []]) (mMake 0 3 F_SurveyD_initD (mCons (mVar 1) (mCons (mTup mNil) mNil)) []))))))))))))))
noncomputable def F__law_refused : FM := runB 8 B__law_refused
theorem ok__law_refused (T : TX P w W mg base) : Good P w W mg base 15 (He.fAd W.K ("_law_refused", none)) ["row", "rooms", "legs", "survey"] F__law_refused := by
  refine good_of (T.def_ 13 rfl) sc__law_refused (fun fd F => F.bindsN fun _ _ _ _ _ _ us hl => match us, hl with | [_, _, _, _], _ => rfl) fun A outer s H E hr => ?_
  exact (jss_cons (js_set sc__law_refused.nd (i := 4) rfl (by first | exact Or.inl rfl | exact Or.inr rfl) (je_cR rfl (takes_of rfl rfl rfl rfl) (ok__law_pick T) rfl (hr.mono (by decide)) rfl (T.glo 3 rfl) (ja_cons (je_var 0) (ja_cons (je_lst (ja_cons je_non (ja_cons (je_neg je_int) (ja_cons (je_callB call_len len_ok rfl (T.free 1 rfl) (by decide +kernel) (ja_cons (je_var 2) ja_nil)) (ja_cons je_bl (ja_cons je_str ja_nil)))))) ja_nil))))
  (jss_cons (js_if (jt_not (jt_truth rfl (je_cP rfl (takes_of rfl rfl rfl rfl) (ok__law_alike T 6) rfl (hr.mono (by decide)) rfl (T.glo 21 rfl) (ja_cons (je_heard (k := 12) rfl rfl T.hF T.hT (T.lTab _ lams0) rfl (T.lIn _ lams0) (T.lU _ lams0) (T.lNo _ lams0) (hr.mono (by decide)) (LamX.lamS_by (sc := defScope s__law_refused) (by decide +kernel)) rfl (fun _ _ _ _ _ => rfl) fun _ _ _ _ _ _ _ hrL => (by exact (je_mP rfl (takes_of rfl rfl rfl rfl) (T.clsO 0 17 rfl) (T.meth 0 26 rfl) (ok_Survey_without_leg T) rfl (hrL.mono (by decide)) (je_var 3) (ja_cons (je_var 4) ja_nil)))) (ja_cons (je_tup (ja_cons je_str (ja_cons je_str (ja_cons je_bl ja_nil)))) ja_nil))))) (jss_one (js_ret je_bl)) jss_nil)
  (jss_cons (js_set sc__law_refused.nd (i := 5) rfl (by first | exact Or.inl rfl | exact Or.inr rfl) (je_cR rfl (takes_of rfl rfl rfl rfl) (ok__law_legs T) rfl (hr.mono (by decide)) rfl (T.glo 27 rfl) (ja_cons (je_var 0) (ja_cons (je_var 1) (ja_cons je_int ja_nil)))))
  (jss_cons (js_if (jt_w (jw_and (jt_ne rfl hr.units (je_var 5) (je_tup ja_nil)) (jw_and (jt_lt (je_callB call_len len_ok rfl (T.free 1 rfl) (by decide +kernel) (ja_cons (je_var 2) ja_nil)) je_int) (jw_and1 (jt_ne rfl hr.units (je_pr rfl (T.clsO 0 17 rfl) (pr_Survey_legs T) (hr.mono (by decide)) (je_mP rfl (takes_of rfl rfl rfl rfl) (T.clsO 0 17 rfl) (T.meth 0 28 rfl) (ok_Survey_with_leg T) rfl (hr.mono (by decide)) (je_var 3) (ja_cons (je_ix rfl (je_var 5) je_int) ja_nil))) (je_add rfl (je_var 2) (je_var 5))))))) (jss_one (js_ret je_bl)) jss_nil)
  (jss_cons (js_if (jt_w (jw_and (jt_ne rfl hr.units (je_var 5) (je_tup ja_nil)) (jw_and (jt_eq rfl hr.units (je_callB call_len len_ok rfl (T.free 1 rfl) (by decide +kernel) (ja_cons (je_var 2) ja_nil)) je_int) (jw_and1 (jt_not (jt_truth rfl (je_cP rfl (takes_of rfl rfl rfl rfl) (ok__law_alike T 6) rfl (hr.mono (by decide)) rfl (T.glo 21 rfl) (ja_cons (je_heard (k := 12) rfl rfl T.hF T.hT (T.lTab _ lams0) rfl (T.lIn _ lams0) (T.lU _ lams0) (T.lNo _ lams0) (hr.mono (by decide)) (LamX.lamS_by (sc := defScope s__law_refused) (by decide +kernel)) rfl (fun _ _ _ _ _ => rfl) fun _ _ _ _ _ _ _ hrL => (by exact (je_mP rfl (takes_of rfl rfl rfl rfl) (T.clsO 0 17 rfl) (T.meth 0 28 rfl) (ok_Survey_with_leg T) rfl (hrL.mono (by decide)) (je_var 3) (ja_cons (je_ix rfl (je_var 5) je_int) ja_nil)))) (ja_cons (je_tup (ja_cons je_str (ja_cons je_str (ja_cons je_bl ja_nil)))) ja_nil))))))))) (jss_one (js_ret je_bl)) jss_nil)
  (jss_cons (js_set sc__law_refused.nd (i := 6) rfl (by first | exact Or.inl rfl | exact Or.inr rfl) (je_cR rfl (takes_of rfl rfl rfl rfl) (ok__law_pick T) rfl (hr.mono (by decide)) rfl (T.glo 3 rfl) (ja_cons (je_var 0) (ja_cons (je_lst (ja_cons je_non (ja_cons (je_tup (ja_cons je_int (ja_cons je_int (ja_cons je_int (ja_cons je_int ja_nil))))) (ja_cons (je_tup (ja_cons je_int (ja_cons (je_var 1) (ja_cons je_int (ja_cons je_int ja_nil))))) (ja_cons (je_tup (ja_cons je_int (ja_cons je_int (ja_cons je_int (ja_cons je_int ja_nil))))) (ja_cons (je_tup (ja_cons je_int (ja_cons je_int (ja_cons je_int ja_nil)))) (ja_cons (je_tup (ja_cons je_int (ja_cons je_int (ja_cons je_int (ja_cons je_int ja_nil))))) (ja_cons (je_tup (ja_cons je_int (ja_cons je_int (ja_cons (je_neg je_int) (ja_cons je_int ja_nil))))) (ja_cons (je_lst (ja_cons je_int (ja_cons je_int (ja_cons je_int (ja_cons je_int ja_nil))))) (ja_cons (je_tup (ja_cons je_int (ja_cons je_int (ja_cons je_int (ja_cons je_bl ja_nil))))) (ja_cons (je_tup (ja_cons (je_neg je_int) (ja_cons je_int (ja_cons je_int (ja_cons je_int ja_nil))))) ja_nil))))))))))) ja_nil))))
  (jss_cons (js_if (jt_not (jt_truth rfl (je_cP rfl (takes_of rfl rfl rfl rfl) (ok__law_alike T 6) rfl (hr.mono (by decide)) rfl (T.glo 21 rfl) (ja_cons (je_heard (k := 12) rfl rfl T.hF T.hT (T.lTab _ lams0) rfl (T.lIn _ lams0) (T.lU _ lams0) (T.lNo _ lams0) (hr.mono (by decide)) (LamX.lamS_by (sc := defScope s__law_refused) (by decide +kernel)) rfl (fun _ _ _ _ _ => rfl) fun _ _ _ _ _ _ _ hrL => (by exact (je_mP rfl (takes_of rfl rfl rfl rfl) (T.clsO 0 17 rfl) (T.meth 0 28 rfl) (ok_Survey_with_leg T) rfl (hrL.mono (by decide)) (je_var 3) (ja_cons (je_var 6) ja_nil)))) (ja_cons (je_tup (ja_cons je_str (ja_cons je_str (ja_cons je_bl ja_nil)))) ja_nil))))) (jss_one (js_ret je_bl)) jss_nil)
  (jss_cons (js_set sc__law_refused.nd (i := 7) rfl (by first | exact Or.inl rfl | exact Or.inr rfl) (je_cR rfl (takes_of rfl rfl rfl rfl) (ok__law_pick T) rfl (hr.mono (by decide)) rfl (T.glo 3 rfl) (ja_cons (je_var 0) (ja_cons (je_lst (ja_cons (je_listB rfl rfl (T.free 20 rfl) (ja_cons (je_var 2) ja_nil)) (ja_cons (je_add rfl (je_var 2) (je_tup (ja_cons (je_var 6) ja_nil))) (ja_cons je_non (ja_cons (je_mulT rfl (je_tup (ja_cons (je_tup (ja_cons je_int (ja_cons je_int (ja_cons je_int (ja_cons je_int ja_nil))))) ja_nil)) je_int) (ja_cons je_int ja_nil)))))) ja_nil))))
  (jss_cons (js_if (jt_not (jt_truth rfl (je_cP rfl (takes_of rfl rfl rfl rfl) (ok__law_alike T 6) rfl (hr.mono (by decide)) rfl (T.glo 21 rfl) (ja_cons (je_heard (k := 11) rfl rfl T.hF T.hT (T.lTab _ lams0) rfl (T.lIn _ lams0) (T.lU _ lams0) (T.lNo _ lams0) (hr.mono (by decide)) (LamX.lamS_by (sc := defScope s__law_refused) (by decide +kernel)) rfl (fun _ _ _ _ _ => rfl) fun _ _ _ _ _ _ _ hrL => (by exact (je_cM rfl (takes_of rfl rfl rfl rfl) rfl (T.mkr 0 25 rfl) (ok_SurveyD_initD T) rfl (hrL.mono (by decide)) rfl (T.gloC 0 24 rfl) (ja_cons (je_var 1) (ja_cons (je_var 7) ja_nil))))) (ja_cons (je_tup (ja_cons je_str (ja_cons je_str (ja_cons je_bl ja_nil)))) ja_nil))))) (jss_one (js_ret je_bl)) jss_nil)
  (jss_cons (js_set sc__law_refused.nd (i := 7) rfl (by first | exact Or.inl rfl | exact Or.inr rfl) (je_cR rfl (takes_of rfl rfl rfl rfl) (ok__law_pick T) rfl (hr.mono (by decide)) rfl (T.glo 3 rfl) (ja_cons (je_var 0) (ja_cons (je_lst (ja_cons je_int (ja_cons (je_neg je_int) (ja_cons je_non (ja_cons je_bl (ja_cons je_str ja_nil)))))) ja_nil))))
  (jss_one (js_ret (je_and (je_cP rfl (takes_of rfl rfl rfl rfl) (ok__law_alike T 6) rfl (hr.mono (by decide)) rfl (T.glo 21 rfl) (ja_cons (je_heard (k := 11) rfl rfl T.hF T.hT (T.lTab _ lams0) rfl (T.lIn _ lams0) (T.lU _ lams0) (T.lNo _ lams0) (hr.mono (by decide)) (LamX.lamS_by (sc := defScope s__law_refused) (by decide +kernel)) rfl (fun _ _ _ _ _ => rfl) fun _ _ _ _ _ _ _ hrL => (by exact (je_cM rfl (takes_of rfl rfl rfl rfl) rfl (T.mkr 0 25 rfl) (ok_SurveyD_initD T) rfl (hrL.mono (by decide)) rfl (T.gloC 0 24 rfl) (ja_cons (je_var 7) (ja_cons je_non ja_nil))))) (ja_cons (je_tup (ja_cons je_str (ja_cons je_str (ja_cons je_bl ja_nil)))) ja_nil))) (je_one (je_eqO (c := 0) rfl (takes_of rfl rfl rfl rfl) (T.meth 0 29 rfl) (ok_SurveyD_eqD T) rfl (hr.mono (by decide)) (je_cMD rfl (takes_of rfl rfl rfl rfl) rfl (T.mkr 0 25 rfl) (okd_SurveyD_initD T) rfl (hr.mono (by decide)) rfl (T.gloC 0 24 rfl) (ja_cons (je_var 1) ja_nil)) (je_cM rfl (takes_of rfl rfl rfl rfl) rfl (T.mkr 0 25 rfl) (ok_SurveyD_initD T) rfl (hr.mono (by decide)) rfl (T.gloC 0 24 rfl) (ja_cons (je_var 1) (ja_cons (je_tup ja_nil) ja_nil))))))))))))))))))
theorem sc_is_survey : FnScope ["value"] ["value"] (defScope s_is_survey) := ⟨rfl, rfl, rfl, by decide +kernel, rfl, by decide +kernel, by decide +kernel⟩
noncomputable def B_is_survey : SM := (sRet (mIsi 0 (.own 0) (mVar 0)))
noncomputable def F_is_survey : FM := runB 1 B_is_survey
theorem ok_is_survey (T : TX P w W mg base) : Good P w W mg base 1 (He.fAd W.K ("is_survey", none)) ["value"] F_is_survey := by
  refine good_of (T.def_ 14 rfl) sc_is_survey (fun fd F => F.bindsN fun _ _ _ _ _ _ us hl => match us, hl with | [_], _ => rfl) fun A outer s H E hr => ?_
  exact (jss_one (js_ret (je_isi rfl T.iso rfl (T.free 7 rfl) (je_var 0) (pe_glob (v := .ref (W.cls 0)) rfl (T.gloC 0 24 rfl) rfl))))
theorem sc_SurveyD_reprD : FnScope ["self"] ["self"] (defScope s_SurveyD_reprD) := ⟨rfl, rfl, rfl, by decide +kernel, rfl, by decide +kernel, by decide +kernel⟩
noncomputable def B_SurveyD_reprD : SM := (sRet (mJs [(mC (.str "Survey(")), (mFmtG (fUn (fFld 0 "_rooms") (mVar 0))), (mC (.str ", ")), (mFmtG (fUn (fFld 0 "_legs") (mVar 0))), (mC (.str ")"))] Str.empty))
noncomputable def F_SurveyD_reprD : FM := runB 1 B_SurveyD_reprD
theorem okg_SurveyD_reprD (T : TX P w W mg base) : GoodG P w W mg base 2 (He.fAd W.K ("Survey", some "__repr__")) ["self"] F_SurveyD_reprD := by
  refine goodG_of (T.def_ 15 rfl) sc_SurveyD_reprD (fun fd F => F.bindsN fun _ _ _ _ _ _ us hl => match us, hl with | [_], _ => rfl) fun A outer s H E hr hgA => ?_
  exact (jss_one (js_ret (je_joined (.cons je_str (.cons (je_fmtG rfl hgA (hr.mono (by decide)) (je_fld rfl (T.clsO 0 17 rfl) (T.noat 0 18 rfl) (je_var 0))) (.cons je_str (.cons (je_fmtG rfl hgA (hr.mono (by decide)) (je_fld rfl (T.clsO 0 17 rfl) (T.noat 0 19 rfl) (je_var 0))) (.cons je_str .nil))))))))
theorem sc_Survey_turned : FnScope ["self", "one", "other", "low", "high"] ["self"] (defScope s_Survey_turned) := ⟨rfl, rfl, rfl, by decide +kernel, rfl, by decide +kernel, by decide +kernel⟩
noncomputable def B_Survey_turned : SM := (sRet (mMake 0 3 F_SurveyD_initD (mCons (fUn (fFld 0 "_rooms") (mVar 0)) (mCons (mCB fTuple (mCons (lcRun [1, 2, 3, 4] (iSeq (fUn (fFld 0 "_legs") (mVar 0))) (gTupM 4 (gsCons (gVar 1) (gsCons (gVar 2) (gsCons (gVar 3) (gsCons (gVar 4) gsNil))))) tTrue (mTup (mCons (mVar 2) (mCons (mVar 1) (mCons (fUn fNeg (mVar 4)) (mCons (fUn fNeg (mVar 3)) mNil))))) kFrz) mNil)) mNil)) []))
noncomputable def F_Survey_turned : FM := runB 5 B_Survey_turned
theorem ok_Survey_turned (T : TX P w W mg base) : Good P w W mg base 12 (He.fAd W.K ("Survey", some "turned")) ["self"] F_Survey_turned := by
  refine good_of (T.def_ 16 rfl) sc_Survey_turned (fun fd F => F.bindsN fun _ _ _ _ _ _ us hl => match us, hl with | [_], _ => rfl) fun A outer s H E hr => ?_
  exact (jss_one (js_ret (je_cM rfl (takes_of rfl rfl rfl rfl) rfl (T.mkr 0 25 rfl) (ok_SurveyD_initD T) rfl (hr.mono (by decide)) rfl (T.gloC 0 24 rfl) (ja_cons (je_fld rfl (T.clsO 0 17 rfl) (T.noat 0 18 rfl) (je_var 0)) (ja_cons (je_tupleB rfl rfl (T.free 6 rfl) (ja_cons (je_lc (own := [("one", 1), ("other", 2), ("low", 3), ("high", 4)]) (ts := [1, 2, 3, 4]) kFrz_ok (by decide) rfl sc_Survey_turned.nd (ji_seq rfl (je_fld rfl (T.clsO 0 17 rfl) (T.noat 0 19 rfl) (je_var 0))) (blk_by (N := ["self", "one", "other", "low", "high"]) (sc := (defScope s_Survey_turned)) (by decide +kernel)) (fun _ _ _ _ _ => (by exact (jg_tup rfl rfl (jgs_cons (jg_name sc_Survey_turned.nd (i := 1) rfl (by first | exact Or.inl rfl | exact Or.inr rfl)) (jgs_cons (jg_name sc_Survey_turned.nd (i := 2) rfl (by first | exact Or.inl rfl | exact Or.inr rfl)) (jgs_cons (jg_name sc_Survey_turned.nd (i := 3) rfl (by first | exact Or.inl rfl | exact Or.inr rfl)) (jgs_cons (jg_name sc_Survey_turned.nd (i := 4) rfl (by first | exact Or.inl rfl | exact Or.inr rfl)) jgs_nil))))))) (fun _ _ _ _ _ => (by exact jts_nil)) (fun _ _ _ _ _ => (by exact (je_tup (ja_cons (je_var 2) (ja_cons (je_var 1) (ja_cons (je_neg (je_var 4)) (ja_cons (je_neg (je_var 3)) ja_nil)))))))) ja_nil)) ja_nil)))))
theorem sc_SurveyD_lenD : FnScope ["self"] ["self"] (defScope s_SurveyD_lenD) := ⟨rfl, rfl, rfl, by decide +kernel, rfl, by decide +kernel, by decide +kernel⟩
noncomputable def B_SurveyD_lenD : SM := (sRet (mCB fLen (mCons (fUn (fFld 0 "_legs") (mVar 0)) mNil)))
noncomputable def F_SurveyD_lenD : FM := runB 1 B_SurveyD_lenD
theorem ok_SurveyD_lenD (T : TX P w W mg base) : Good P w W mg base 1 (He.fAd W.K ("Survey", some "__len__")) ["self"] F_SurveyD_lenD := by
  refine good_of (T.def_ 17 rfl) sc_SurveyD_lenD (fun fd F => F.bindsN fun _ _ _ _ _ _ us hl => match us, hl with | [_], _ => rfl) fun A outer s H E hr => ?_
  exact (jss_one (js_ret (je_callB call_len len_ok rfl (T.free 1 rfl) (by decide +kernel) (ja_cons (je_fld rfl (T.clsO 0 17 rfl) (T.noat 0 19 rfl) (je_var 0)) ja_nil))))
theorem sc_law : FnScope ["script", "row", "rooms", "legs", "survey", "at", "one", "other", "low", "high"] ["script"] (defScope s_law) := ⟨rfl, rfl, rfl, by decide +kernel, rfl, by decide +kernel, by decide +kernel⟩
noncomputable def B_law : SM := (sSeq (sAsg (mLstC (mCons (mVar 0) (mCons (mC (.int 0)) (mCons (mC (.int 17293000)) (mCons (mC (.int 0)) mNil))))) (gVar 1))
  (sSeq (sAsg (mCallR 2 F__law_rooms (mCons (mVar 1) (mCons (mCallR 2 F__law_pick (mCons (mVar 1) (mCons (mLst (mCons (mC (.int 4)) (mCons (mC (.int 9)) (mCons (mC (.int 24)) mNil)))) mNil)) []) mNil)) []) (gVar 2))
  (sSeq (sAsg (mCallR 3 F__law_legs (mCons (mVar 1) (mCons (mVar 2) (mCons (mCallR 2 F__law_pick (mCons (mVar 1) (mCons (mLst (mCons (mC (.int 6)) (mCons (mC (.int 20)) (mCons (mC (.int 60)) mNil)))) mNil)) []) mNil))) []) (gVar 3))
  (sSeq (sAsg (mMake 0 3 F_SurveyD_initD (mCons (mVar 2) (mCons (mVar 3) mNil)) []) (gVar 4))
  (sSeq (sIf (tOrM (tNotM (tTruth (mCallP 2 (F__law_alike 6) (mCons (fUn (fFld 0 "_rooms") (mVar 4)) (mCons (mVar 2) mNil)) []))) (tOrM (tNotM (tTruth (mCallP 2 (F__law_alike 6) (mCons (fUn (fFld 0 "_legs") (mVar 4)) (mCons (mVar 3) mNil)) []))) (tNotM (tTruth (mCallP 2 (F__law_alike 6) (mCons (mCB (fLenO 0 F_SurveyD_lenD) (mCons (mVar 4) mNil)) (mCons (mCB fLen (mCons (mVar 3) mNil)) mNil)) []))))) (sRet (mC (.bl false))) sNil)
  (sSeq (sIf (tOrM (tBool (fBin (fOwn 0 F_SurveyD_eqD true) (mVar 4) (mMake 0 3 F_SurveyD_initD (mCons (mVar 2) (mCons (mVar 3) mNil)) []))) (tOrM (tBool (fBin (fOwn 0 F_SurveyD_eqD false) (mVar 4) (mVar 3))) (tOrM (tBool (fBin (fIs true) (mCallP 1 F_is_survey (mCons (mVar 4) mNil) []) (mC (.bl true)))) (tBool (fBin (fIs true) (mCallP 1 F_is_survey (mCons (mVar 3) mNil) []) (mC (.bl false))))))) (sRet (mC (.bl false))) sNil)
  (sSeq (sIf (tNotM (tTruth (mCallP 2 (F__law_alike 6) (mCons (mCB (fReprO 0 F_SurveyD_reprD) (mCons (mVar 4) mNil)) (mCons (fBin fAdd (fBin fAdd (fBin fAdd (fBin fAdd (mC (.str "Survey(")) (mCB fReprD (mCons (mVar 2) mNil))) (mC (.str ", "))) (mCB fReprD (mCons (mVar 3) mNil))) (mC (.str ")"))) mNil)) []))) (sRet (mC (.bl false))) sNil)
  (sSeq (sIf (tAndM (tBool (fBin fNe (mVar 3) (mTup mNil))) (tOrM (tBool (fBin (fOwn 0 F_SurveyD_eqD false) (mVar 4) (mMake 0 3 F_SurveyD_initD (mCons (mVar 2) (mCons (mSlice (mVar 3) (mPart (mC (.int 1))) mNoPart) mNil)) []))) (tAndM (tBool (fBin fNe (mVar 3) (mRev (mVar 3)))) (tBool (fBin (fOwn 0 F_SurveyD_eqD false) (mVar 4) (mMake 0 3 F_SurveyD_initD (mCons (mVar 2) (mCons (mRev (mVar 3)) mNil)) [])))))) (sRet (mC (.bl false))) sNil)
  (sSeq (sIf (tAndM (tBool (fBin fLt (mVar 2) (mC (.int 24)))) (tBool (fBin (fOwn 0 F_SurveyD_eqD false) (mVar 4) (mMake 0 3 F_SurveyD_initD (mCons (fBin fAdd (mVar 2) (mC (.int 1))) (mCons (mVar 3) mNil)) [])))) (sRet (mC (.bl false))) sNil)
  (sSeq (sIf (tBool (fBin fNe (fUn (fFld 0 "_legs") (mMethP 0 "turned" 1 F_Survey_turned (mVar 4) mNil)) (mCB fTuple (mCons (lcRun [6, 7, 8, 9] (iSeq (mVar 3)) (gTupM 4 (gsCons (gVar 6) (gsCons (gVar 7) (gsCons (gVar 8) (gsCons (gVar 9) gsNil))))) tTrue (mTup (mCons (mVar 7) (mCons (mVar 6) (mCons (fUn fNeg (mVar 9)) (mCons (fUn fNeg (mVar 8)) mNil))))) kFrz) mNil)))) (sRet (mC (.bl false))) sNil)
  (sSeq (sIf (tBool (fBin fNe (mVar 3) (mTup mNil))) (sSeq (sAsg (mCallR 2 F__law_taken (mCons (mVar 1) (mCons (mCB fLen (mCons (mVar 3) mNil)) mNil)) []) (gVar 5))
  (sIf (tOrM (tBool (fBin fNe (fUn (fFld 0 "_legs") (mMethP 0 "without_leg" 2 F_Survey_without_leg (mVar 4) (mCons (mVar 5) mNil))) (fBin fAdd (mSlice (mVar 3) mNoPart (mPart (mVar 5))) (mSlice (mVar 3) (mPart (fBin fAdd (mVar 5) (mC (.int 1)))) mNoPart)))) (tBool (fBin fNe (fUn (fFld 0 "_rooms") (mMethP 0 "without_leg" 2 F_Survey_without_leg (mVar 4) (mCons (mVar 5) mNil))) (mVar 2)))) (sRet (mC (.bl false))) sNil)) sNil)
  (sRet (mCallR 4 F__law_refused (mCons (mVar 1) (mCons (mVar 2) (mCons (mVar 3) (mCons (mVar 4) mNil)))) [])))))))))))))
noncomputable def F_law : FM := runB 10 B_law
theorem okg_law (T : TX P w W mg base) : GoodG P w W mg base 16 (He.fAd W.K ("law", none)) ["script"] F_law := by
  refine goodG_of (T.def_ 18 rfl) sc_law (fun fd F => F.bindsN fun _ _ _ _ _ _ us hl => match us, hl with | [_], _ => rfl) fun A outer s H E hr hgA => ?_
  exact (jss_cons (js_set sc_law.nd (i := 1) rfl (by first | exact Or.inl rfl | exact Or.inr rfl) (je_lstC (ja_cons (je_var 0) (ja_cons je_int (ja_cons je_int (ja_cons je_int ja_nil))))))
  (jss_cons (js_set sc_law.nd (i := 2) rfl (by first | exact Or.inl rfl | exact Or.inr rfl) (je_cR rfl (takes_of rfl rfl rfl rfl) (ok__law_rooms T) rfl (hr.mono (by decide)) rfl (T.glo 30 rfl) (ja_cons (je_var 1) (ja_cons (je_cR rfl (takes_of rfl rfl rfl rfl) (ok__law_pick T) rfl (hr.mono (by decide)) rfl (T.glo 3 rfl) (ja_cons (je_var 1) (ja_cons (je_lst (ja_cons je_int (ja_cons je_int (ja_cons je_int ja_nil)))) ja_nil))) ja_nil))))
  (jss_cons (js_set sc_law.nd (i := 3) rfl (by first | exact Or.inl rfl | exact Or.inr rfl) (je_cR rfl (takes_of rfl rfl rfl rfl) (ok__law_legs T) rfl (hr.mono (by decide)) rfl (T.glo 27 rfl) (ja_cons (je_var 1) (ja_cons (je_var 2) (ja_cons (je_cR rfl (takes_of rfl rfl rfl rfl) (ok__law_pick T) rfl (hr.mono (by decide)) rfl (T.glo 3 rfl) (ja_cons (je_var 1) (ja_cons (je_lst (ja_cons je_int (ja_cons je_int (ja_cons je_int ja_nil)))) ja_nil))) ja_nil)))))
  (jss_cons (js_set sc_law.nd (i := 4) rfl (by first | exact Or.inl rfl | exact Or.inr rfl) (je_cM rfl (takes_of rfl rfl rfl rfl) rfl (T.mkr 0 25 rfl) (ok_SurveyD_initD T) rfl (hr.mono (by decide)) rfl (T.gloC 0 24 rfl) (ja_cons (je_var 2) (ja_cons (je_var 3) ja_nil))))
  (jss_cons (js_if (jt_w (jw_or (jt_not (jt_truth rfl (je_cP rfl (takes_of rfl rfl rfl rfl) (ok__law_alike T 6) rfl (hr.mono (by decide)) rfl (T.glo 21 rfl) (ja_cons (je_pr rfl (T.clsO 0 17 rfl) (pr_Survey_rooms T) (hr.mono (by decide)) (je_var 4)) (ja_cons (je_var 2) ja_nil))))) (jw_or (jt_not (jt_truth rfl (je_cP rfl (takes_of rfl rfl rfl rfl) (ok__law_alike T 6) rfl (hr.mono (by decide)) rfl (T.glo 21 rfl) (ja_cons (je_pr rfl (T.clsO 0 17 rfl) (pr_Survey_legs T) (hr.mono (by decide)) (je_var 4)) (ja_cons (je_var 3) ja_nil))))) (jw_or1 (jt_not (jt_truth rfl (je_cP rfl (takes_of rfl rfl rfl rfl) (ok__law_alike T 6) rfl (hr.mono (by decide)) rfl (T.glo 21 rfl) (ja_cons (je_lenO rfl rfl rfl (T.free 1 rfl) rfl (T.meth 0 31 rfl) (ok_SurveyD_lenD T) (hr.mono (by decide)) (ja_cons (je_var 4) ja_nil)) (ja_cons (je_callB call_len len_ok rfl (T.free 1 rfl) (by decide +kernel) (ja_cons (je_var 3) ja_nil)) ja_nil))))))))) (jss_one (js_ret je_bl)) jss_nil)
  (jss_cons (js_if (jt_w (jw_or (jt_neO (c := 0) rfl (takes_of rfl rfl rfl rfl) (T.meth 0 29 rfl) T.iso.ne T.iso.mr (ok_SurveyD_eqD T) rfl (hr.mono (by decide)) (je_var 4) (je_cM rfl (takes_of rfl rfl rfl rfl) rfl (T.mkr 0 25 rfl) (ok_SurveyD_initD T) rfl (hr.mono (by decide)) rfl (T.gloC 0 24 rfl) (ja_cons (je_var 2) (ja_cons (je_var 3) ja_nil)))) (jw_or (jt_eqO (c := 0) rfl (takes_of rfl rfl rfl rfl) (T.meth 0 29 rfl) (ok_SurveyD_eqD T) rfl (hr.mono (by decide)) (je_var 4) (je_var 3)) (jw_or (jt_isnot (je_cP rfl (takes_of rfl rfl rfl rfl) (ok_is_survey T) rfl (hr.mono (by decide)) rfl (T.glo 32 rfl) (ja_cons (je_var 4) ja_nil)) je_bl) (jw_or1 (jt_isnot (je_cP rfl (takes_of rfl rfl rfl rfl) (ok_is_survey T) rfl (hr.mono (by decide)) rfl (T.glo 32 rfl) (ja_cons (je_var 3) ja_nil)) je_bl)))))) (jss_one (js_ret je_bl)) jss_nil)
  (jss_cons (js_if (jt_not (jt_truth rfl (je_cP rfl (takes_of rfl rfl rfl rfl) (ok__law_alike T 6) rfl (hr.mono (by decide)) rfl (T.glo 21 rfl) (ja_cons (je_callB (call_reprO (takes_of rfl rfl rfl rfl) rfl (okg_SurveyD_reprD T) rfl hgA (hr.mono (by decide)) (T.meth 0 33 rfl)) reprO_ok rfl (T.free 34 rfl) (by decide +kernel) (ja_cons (je_var 4) ja_nil)) (ja_cons (je_add rfl (je_add rfl (je_add rfl (je_add rfl je_str (je_callB (call_reprD rfl hgA (hr.mono (by decide))) reprD_ok rfl (T.free 34 rfl) (by decide +kernel) (ja_cons (je_var 2) ja_nil))) je_str) (je_callB (call_reprD rfl hgA (hr.mono (by decide))) reprD_ok rfl (T.free 34 rfl) (by decide +kernel) (ja_cons (je_var 3) ja_nil))) je_str) ja_nil))))) (jss_one (js_ret je_bl)) jss_nil)
  (jss_cons (js_if (jt_w (jw_and (jt_ne rfl hr.units (je_var 3) (je_tup ja_nil)) (jw_and1 (jt_w (jw_or (jt_eqO (c := 0) rfl (takes_of rfl rfl rfl rfl) (T.meth 0 29 rfl) (ok_SurveyD_eqD T) rfl (hr.mono (by decide)) (je_var 4) (je_cM rfl (takes_of rfl rfl rfl rfl) rfl (T.mkr 0 25 rfl) (ok_SurveyD_initD T) rfl (hr.mono (by decide)) rfl (T.gloC 0 24 rfl) (ja_cons (je_var 2) (ja_cons (je_slice rfl (je_var 3) (jo_some je_int) jo_none) ja_nil)))) (jw_or1 (jt_w (jw_and (jt_ne rfl hr.units (je_var 3) (je_rev rfl (je_var 3))) (jw_and1 (jt_eqO (c := 0) rfl (takes_of rfl rfl rfl rfl) (T.meth 0 29 rfl) (ok_SurveyD_eqD T) rfl (hr.mono (by decide)) (je_var 4) (je_cM rfl (takes_of rfl rfl rfl rfl) rfl (T.mkr 0 25 rfl) (ok_SurveyD_initD T) rfl (hr.mono (by decide)) rfl (T.gloC 0 24 rfl) (ja_cons (je_var 2) (ja_cons (je_rev rfl (je_var 3)) ja_nil))))))))))))) (jss_one (js_ret je_bl)) jss_nil)
  (jss_cons (js_if (jt_w (jw_and (jt_lt (je_var 2) je_int) (jw_and1 (jt_eqO (c := 0) rfl (takes_of rfl rfl rfl rfl) (T.meth 0 29 rfl) (ok_SurveyD_eqD T) rfl (hr.mono (by decide)) (je_var 4) (je_cM rfl (takes_of rfl rfl rfl rfl) rfl (T.mkr 0 25 rfl) (ok_SurveyD_initD T) rfl (hr.mono (by decide)) rfl (T.gloC 0 24 rfl) (ja_cons (je_add rfl (je_var 2) je_int) (ja_cons (je_var 3) ja_nil))))))) (jss_one (js_ret je_bl)) jss_nil)
  (jss_cons (js_if (jt_ne rfl hr.units (je_pr rfl (T.clsO 0 17 rfl) (pr_Survey_legs T) (hr.mono (by decide)) (je_mP0 rfl (takes_of rfl rfl rfl rfl) (T.clsO 0 17 rfl) (T.meth 0 35 rfl) (ok_Survey_turned T) rfl (hr.mono (by decide)) (je_var 4))) (je_tupleB rfl rfl (T.free 6 rfl) (ja_cons (je_lc (own := [("one", 6), ("other", 7), ("low", 8), ("high", 9)]) (ts := [6, 7, 8, 9]) kFrz_ok (by decide) rfl sc_law.nd (ji_seq rfl (je_var 3)) (blk_by (N := ["script", "row", "rooms", "legs", "survey", "at", "one", "other", "low", "high"]) (sc := (defScope s_law)) (by decide +kernel)) (fun _ _ _ _ _ => (by exact (jg_tup rfl rfl (jgs_cons (jg_name sc_law.nd (i := 6) rfl (by first | exact Or.inl rfl | exact Or.inr rfl)) (jgs_cons (jg_name sc_law.nd (i := 7) rfl (by first | exact Or.inl rfl | exact Or.inr rfl)) (jgs_cons (jg_name sc_law.nd (i := 8) rfl (by first | exact Or.inl rfl | exact Or.inr rfl)) (jgs_cons (jg_name sc_law.nd (i := 9) rfl (by first | exact Or.inl rfl | exact Or.inr rfl)) jgs_nil))))))) (fun _ _ _ _ _ => (by exact jts_nil)) (fun _ _ _ _ _ => (by exact (je_tup (ja_cons (je_var 7) (ja_cons (je_var 6) (ja_cons (je_neg (je_var 9)) (ja_cons (je_neg (je_var 8)) ja_nil)))))))) ja_nil))) (jss_one (js_ret je_bl)) jss_nil)
  (jss_cons (js_if (jt_ne rfl hr.units (je_var 3) (je_tup ja_nil)) (jss_cons (js_set sc_law.nd (i := 5) rfl (by first | exact Or.inl rfl | exact Or.inr rfl) (je_cR rfl (takes_of rfl rfl rfl rfl) (ok__law_taken T) rfl (hr.mono (by decide)) rfl (T.glo 2 rfl) (ja_cons (je_var 1) (ja_cons (je_callB call_len len_ok rfl (T.free 1 rfl) (by decide +kernel) (ja_cons (je_var 3) ja_nil)) ja_nil))))
  (jss_one (js_if (jt_w (jw_or (jt_ne rfl hr.units (je_pr rfl (T.clsO 0 17 rfl) (pr_Survey_legs T) (hr.mono (by decide)) (je_mP rfl (takes_of rfl rfl rfl rfl) (T.clsO 0 17 rfl) (T.meth 0 26 rfl) (ok_Survey_without_leg T) rfl (hr.mono (by decide)) (je_var 4) (ja_cons (je_var 5) ja_nil))) (je_add rfl (je_slice rfl (je_var 3) jo_none (jo_some (je_var 5))) (je_slice rfl (je_var 3) (jo_some (je_add rfl (je_var 5) je_int)) jo_none))) (jw_or1 (jt_ne rfl hr.units (je_pr rfl (T.clsO 0 17 rfl) (pr_Survey_rooms T) (hr.mono (by decide)) (je_mP rfl (takes_of rfl rfl rfl rfl) (T.clsO 0 17 rfl) (T.meth 0 26 rfl) (ok_Survey_without_leg T) rfl (hr.mono (by decide)) (je_var 4) (ja_cons (je_var 5) ja_nil))) (je_var 2))))) (jss_one (js_ret je_bl)) jss_nil))) jss_nil)
  (jss_one (js_ret (je_cR rfl (takes_of rfl rfl rfl rfl) (ok__law_refused T) rfl (hr.mono (by decide)) rfl (T.glo 36 rfl) (ja_cons (je_var 1) (ja_cons (je_var 2) (ja_cons (je_var 3) (ja_cons (je_var 4) ja_nil))))))))))))))))))
end
end KJ
set_option Elab.async false
set_option maxRecDepth 100000
set_option maxHeartbeats 4000000
/-! The functions evaluated: rules for simp. -/
namespace Ct
open PySem PySem.Spec PyProof.Rows L2
@[simp] theorem andS_ok {α : Type} (a : α) (st : Store) (f : α → Store → RS) : (R.ok a st).andS f = f a st := rfl
@[simp] theorem andS_exc {α : Type} (x : Exc) (st : Store) (f : α → Store → RS) : (R.exc x st : R α).andS f = .exc x st := rfl
@[simp] theorem andS_bad {α : Type} (f : α → Store → RS) : (R.bad : R α).andS f = .bad := rfl
@[simp] theorem nox_ok' {α : Type} (a : α) (st : Store) : (R.ok a st).nox = .ok a st := rfl
def RS.seq : RS → SM → RS
  | .nx e s, f => f e s
  | r, _ => r
@[simp] theorem seq_nx (e : EnvD) (s : Store) (f : SM) : (RS.nx e s).seq f = f e s := rfl
@[simp] theorem seq_rt (e : U) (s : Store) (f : SM) : (RS.rt e s).seq f = .rt e s := rfl
@[simp] theorem seq_bk (e : EnvD) (s : Store) (f : SM) : (RS.bk e s).seq f = .bk e s := rfl
@[simp] theorem seq_ct (e : EnvD) (s : Store) (f : SM) : (RS.ct e s).seq f = .ct e s := rfl
@[simp] theorem seq_exc (e : Exc) (s : Store) (f : SM) : (RS.exc e s).seq f = .exc e s := rfl
@[simp] theorem seq_bad (f : SM) : RS.bad.seq f = .bad := rfl
@[simp] theorem ev_seq (a b : SM) (env : EnvD) (st : Store) : sSeq a b env st = (a env st).seq b := by
  unfold sSeq RS.seq
  cases a env st <;> rfl
@[simp] theorem andS_okrt (u : U) (st : Store) : (R.ok u st).andS RS.rt = .rt u st := rfl
@[simp] theorem andS_oknx (u : EnvD) (st : Store) : (R.ok u st).andS RS.nx = .nx u st := rfl
def RS.fin : RS → R U
  | .nx _ st1 => .ok (.d .non) st1
  | .rt u st1 => .ok u st1
  | .exc x st1 => .exc x st1
  | _ => .bad
@[simp] theorem fin_nx (e : EnvD) (s : Store) : (RS.nx e s).fin = .ok (.d .non) s := rfl
@[simp] theorem fin_rt (u : U) (s : Store) : (RS.rt u s).fin = .ok u s := rfl
@[simp] theorem fin_exc (x : Exc) (s : Store) : (RS.exc x s).fin = .exc x s := rfl
@[simp] theorem ev_runB (n : Nat) (b : SM) (us : List U) (st : Store) : runB n b us st = (b (us.map some ++ List.replicate (n - us.length) none) st).fin := by
  unfold runB RS.fin
  cases b (us.map some ++ List.replicate (n - us.length) none) st <;> rfl
section
variable (env : EnvD) (st : Store)
def varK (o : Option (Option U)) (st : Store) : R U := match o with
  | some (some u) => .ok u st
  | _ => .bad
@[simp] theorem varK_some (u : U) : varK (some (some u)) st = .ok u st := rfl
@[simp] theorem ev_var (i : Nat) : mVar i env st = varK env[i]? st := by
  rfl
@[simp] theorem ev_C (x : D) : mC x env st = .ok (.d x) st := rfl
def binK (f : U → U → Store → R U) (b : EM) (env : EnvD) (u : U) (s1 : Store) : R U := (b env s1).bind (f u)
@[simp] theorem binK_e (f : U → U → Store → R U) (b : EM) (u : U) : binK f b env u st = (b env st).bind (f u) := rfl
@[simp] theorem ev_bin (f : U → U → Store → R U) (a b : EM) : fBin f a b env st = (a env st).bind (binK f b env) := rfl
@[simp] theorem ev_un (f : U → Store → R U) (a : EM) : fUn f a env st = (a env st).bind f := rfl
@[simp] theorem ev_cb (f : List U → Store → R U) (a : AM) : mCB f a env st = (a env st).bind f := rfl
@[simp] theorem ev_nil : mNil env st = .ok [] st := rfl
def consK2 (u : U) (us : List U) (s2 : Store) : R (List U) := .ok (u :: us) s2
def consK (r : AM) (env : EnvD) (u : U) (s1 : Store) : R (List U) := (r env s1).bind (consK2 u)
@[simp] theorem consK2_e (u : U) (us : List U) : consK2 u us st = .ok (u :: us) st := rfl
@[simp] theorem consK_e (r : AM) (u : U) : consK r env u st = (r env st).bind (consK2 u) := rfl
@[simp] theorem ev_cons (a : EM) (r : AM) : mCons a r env st = (a env st).bind (consK r env) := rfl
def andK (b : EM) (env : EnvD) (u : U) (st : Store) : R U := match u with
  | .d (.bl true) => b env st
  | .d (.bl false) => .ok (.d (.bl false)) st
  | _ => .bad
def orK (b : EM) (env : EnvD) (u : U) (st : Store) : R U := match u with
  | .d (.bl true) => .ok (.d (.bl true)) st
  | .d (.bl false) => b env st
  | _ => .bad
@[simp] theorem andK_t (b : EM) : andK b env (.d (.bl true)) st = b env st := rfl
@[simp] theorem andK_f (b : EM) : andK b env (.d (.bl false)) st = .ok (.d (.bl false)) st := rfl
@[simp] theorem orK_t (b : EM) : orK b env (.d (.bl true)) st = .ok (.d (.bl true)) st := rfl
@[simp] theorem orK_f (b : EM) : orK b env (.d (.bl false)) st = b env st := rfl
@[simp] theorem ev_and (a b : EM) : mAnd a b env st = (a env st).bind (andK b env) := rfl
@[simp] theorem ev_or (a b : EM) : mOr a b env st = (a env st).bind (orK b env) := by
  rfl
def ifK {β : Type} (a b : EnvD → Store → β) (env : EnvD) (c : Bool) (s1 : Store) : β := if c = true then a env s1 else b env s1
@[simp] theorem ifK_e {β : Type} (a b : EnvD → Store → β) (c : Bool) : ifK a b env c st = if c = true then a env st else b env st := rfl
@[simp] theorem ev_if (t : TM) (a b : EM) : mIf t a b env st = (t env st).bind (ifK a b env) := rfl
def okF (_ : EnvD) (s1 : Store) : R Bool := .ok false s1
def okT (_ : EnvD) (s1 : Store) : R Bool := .ok true s1
@[simp] theorem okF_e : okF env st = .ok false st := rfl
@[simp] theorem okT_e : okT env st = .ok true st := rfl
def notK (c : Bool) (s1 : Store) : R Bool := .ok (!c) s1
@[simp] theorem notK_e (c : Bool) : notK c st = .ok (!c) st := rfl
@[simp] theorem ev_tAnd (a b : TM) : tAndM a b env st = (a env st).bind (ifK b okF env) := rfl
@[simp] theorem ev_tOr (a b : TM) : tOrM a b env st = (a env st).bind (ifK okT b env) := rfl
@[simp] theorem ev_tNot (a : TM) : tNotM a env st = (a env st).bind notK := rfl
@[simp] theorem ev_tTrue : tTrue env st = .ok true st := rfl
def boolK (u : U) (st : Store) : R Bool := match u with
  | .d (.bl b) => .ok b st
  | _ => .bad
@[simp] theorem boolK_bl (b : Bool) : boolK (.d (.bl b)) st = .ok b st := rfl
@[simp] theorem ev_tBool (a : EM) : tBool a env st = (a env st).bind boolK := rfl
def truthK (u : U) (st : Store) : R Bool := match truth u st with
  | some b => .ok b st
  | none => .bad
@[simp] theorem truthK_bl (b : Bool) : truthK (.d (.bl b)) st = .ok b st := rfl
@[simp] theorem truthK_non : truthK (.d .non) st = .ok false st := rfl
@[simp] theorem truthK_int (i : Int) : truthK (.d (.int i)) st = .ok (i != 0) st := rfl
@[simp] theorem truthK_tup (a : List D) : truthK (.d (.tup a)) st = .ok (!a.isEmpty) st := rfl
@[simp] theorem truthK_lst (a : List D) : truthK (.d (.lst a)) st = .ok (!a.isEmpty) st := rfl
@[simp] theorem ev_tTruth (a : EM) : tTruth a env st = (a env st).bind truthK := rfl
@[simp] theorem fI0_int (g : Int → Int → D) (i j : Int) : fI0 g (.d (.int i)) (.d (.int j)) st = .ok (.d (g i j)) st := rfl
@[simp] theorem fI_int (C : Int → Int → Prop) [∀ i j, Decidable (C i j)] (g : Int → Int → D) (i j : Int) : fI C g (.d (.int i)) (.d (.int j)) st = if C i j then .ok (.d (g i j)) st else .bad := rfl
@[simp] theorem fNeg_int (i : Int) : fNeg (.d (.int i)) st = .ok (.d (.int (-i))) st := rfl
@[simp] theorem fNot_bl (b : Bool) : fNot (.d (.bl b)) st = .ok (.d (.bl (!b))) st := rfl
@[simp] theorem fAdd_int (i j : Int) : fAdd (.d (.int i)) (.d (.int j)) st = .ok (.d (.int (i + j))) st := rfl
@[simp] theorem fAdd_tup (a b : List D) : fAdd (.d (.tup a)) (.d (.tup b)) st = if a.length + b.length ≤ sizeLine then .ok (.d (.tup (a ++ b))) st else .bad := rfl
@[simp] theorem fAdd_lst (a b : List D) : fAdd (.d (.lst a)) (.d (.lst b)) st = if a.length + b.length ≤ sizeLine then .ok (.d (.lst (a ++ b))) st else .bad := rfl
@[simp] theorem fMul_int (i j : Int) : fMul (.d (.int i)) (.d (.int j)) st = if i.natAbs.log2 + j.natAbs.log2 < 1000000 then .ok (.d (.int (i * j))) st else .bad := rfl
@[simp] theorem fMul_lst (a : List D) (k : Int) : fMul (.d (.lst a)) (.d (.int k)) st = if k ≤ 1000 ∧ -1000 ≤ k ∧ a.length ≤ 1000 then .ok (.d (.lst (List.replicate k.toNat a).flatten)) st else .bad := rfl
@[simp] theorem fInt_int (i : Int) : fInt [.d (.int i)] st = .ok (.d (.int i)) st := rfl
@[simp] theorem f2_int (g : Int → Int → Int) (i j : Int) : f2 g [.d (.int i), .d (.int j)] st = .ok (.d (.int (g i j))) st := rfl
@[simp] theorem fLen_tup (a : List D) : fLen [.d (.tup a)] st = .ok (.d (.int a.length)) st := rfl
@[simp] theorem fLen_lst (a : List D) : fLen [.d (.lst a)] st = .ok (.d (.int a.length)) st := rfl
@[simp] theorem fLen_frz (a : List D) : fLen [.d (.frz a)] st = .ok (.d (.int a.length)) st := rfl
@[simp] theorem dsOf_nil : dsOf [] = some [] := rfl
@[simp] theorem dsOf_cons (x : D) (r : List U) : dsOf (.d x :: r) = (dsOf r).map (x :: ·) := rfl
def tupK (us : List U) (st : Store) : R U := match dsOf us with
  | some ds => if ds.length ≤ 1000 then .ok (.d (.tup ds)) st else .bad
  | none => .bad
def lstK (us : List U) (st : Store) : R U := match dsOf us with
  | some ds => if ds.length ≤ 1000 then .ok (.d (.lst ds)) st else .bad
  | none => .bad
@[simp] theorem ev_tup (a : AM) : mTup a env st = (a env st).bind tupK := rfl
@[simp] theorem ev_lst (a : AM) : mLst a env st = (a env st).bind lstK := rfl
def lstCK (us : List U) (s1 : Store) : R U := if us.length ≤ 1000 then .ok (.loc s1.length) (s1 ++ [.lst us]) else .bad
@[simp] theorem lstCK_nil : lstCK [] st = .ok (.loc st.length) (st ++ [.lst []]) := rfl
@[simp] theorem lstCK_cons (u : U) (us : List U) : lstCK (u :: us) st = if us.length + 1 ≤ 1000 then .ok (.loc st.length) (st ++ [.lst (u :: us)]) else .bad := rfl
@[simp] theorem ev_lstC (a : AM) : mLstC a env st = (a env st).bind lstCK := rfl
def chainK (g : U → U → Store → R U) (c : EM) (env : EnvD) (v : U) (z : U) (st : Store) : R U := match z with
  | .d (.bl true) => (c env st).bind fun w s4 => g v w s4
  | .d (.bl false) => .ok (.d (.bl false)) st
  | _ => .bad
def chK (f g : U → U → Store → R U) (b c : EM) (env : EnvD) (u : U) (s1 : Store) : R U := (b env s1).bind fun v s2 => (f u v s2).bind (chainK g c env v)
def chK2 (f g : U → U → Store → R U) (c : EM) (env : EnvD) (u v : U) (s2 : Store) : R U := (f u v s2).bind (chainK g c env v)
@[simp] theorem chK_e (f g : U → U → Store → R U) (b c : EM) (u : U) : chK f g b c env u st = (b env st).bind (chK2 f g c env u) := rfl
@[simp] theorem chK2_e (f g : U → U → Store → R U) (c : EM) (u v : U) : chK2 f g c env u v st = (f u v st).bind (chainK g c env v) := rfl
@[simp] theorem ev_chain (f g : U → U → Store → R U) (a b c : EM) : mChain f g a b c env st = (a env st).bind (chK f g b c env) := rfl
@[simp] theorem chainK_t (g : U → U → Store → R U) (c : EM) (v : U) : chainK g c env v (.d (.bl true)) st = (c env st).bind (g v) := rfl
@[simp] theorem chainK_f (g : U → U → Store → R U) (c : EM) (v : U) : chainK g c env v (.d (.bl false)) st = .ok (.d (.bl false)) st := rfl
@[simp] theorem ev_ret (m : EM) : sRet m env st = (m env st).andS RS.rt := rfl
@[simp] theorem ev_retN : sRetN env st = .rt (.d .non) st := rfl
def exK (env : EnvD) (_ : U) (s1 : Store) : RS := .nx env s1
@[simp] theorem exK_e (u : U) : exK env u st = .nx env st := rfl
@[simp] theorem ev_expr (m : EM) : sExpr m env st = (m env st).andS (exK env) := rfl
@[simp] theorem ev_snil : sNil env st = .nx env st := rfl
@[simp] theorem ev_pass : sPass env st = .nx env st := rfl
@[simp] theorem ev_break : sBreak env st = .bk env st := rfl
@[simp] theorem ev_cont : sCont env st = .ct env st := rfl
@[simp] theorem ev_sif (t : TM) (a b : SM) : sIf t a b env st = (t env st).andS (ifK a b env) := rfl
def asgK (g : GM) (env : EnvD) (u : U) (s1 : Store) : RS := (g u env s1).andS RS.nx
@[simp] theorem asgK_e (g : GM) (u : U) : asgK g env u st = (g u env st).andS RS.nx := rfl
@[simp] theorem ev_asg (m : EM) (g : GM) : sAsg m g env st = (m env st).andS (asgK g env) := rfl
def parK2 (i j : Nat) (env : EnvD) (u v : U) (s2 : Store) : RS := .nx ((env.set i (some u)).set j (some v)) s2
def parK (i j : Nat) (b : EM) (env : EnvD) (u : U) (s1 : Store) : RS := (b env s1).andS (parK2 i j env u)
@[simp] theorem parK2_e (i j : Nat) (u v : U) : parK2 i j env u v st = .nx ((env.set i (some u)).set j (some v)) st := rfl
@[simp] theorem parK_e (i j : Nat) (b : EM) (u : U) : parK i j b env u st = (b env st).andS (parK2 i j env u) := rfl
@[simp] theorem ev_par (i j : Nat) (a b : EM) : sPar i j a b env st = (a env st).andS (parK i j b env) := rfl
def parTK2 (e : EnvD) (s : Store) : RS := .nx e s
@[simp] theorem parTK2_e : parTK2 env st = .nx env st := rfl
def parTK (n : Nat) (gs : GsM) (env : EnvD) (us : List U) (s1 : Store) : RS := if us.length = n ∧ n ≤ 1000 then (gs us env s1).andS parTK2 else .bad
@[simp] theorem parTK_e (n : Nat) (gs : GsM) (u : U) (us : List U) : parTK n gs env (u :: us) st = if us.length + 1 = n ∧ n ≤ 1000 then (gs (u :: us) env st).andS parTK2 else .bad := rfl
@[simp] theorem ev_parT (n : Nat) (ms : AM) (gs : GsM) : sParT n ms gs env st = (ms env st).andS (parTK n gs env) := rfl
@[simp] theorem ev_gVar (i : Nat) (u : U) : gVar i u env st = .ok (env.set i (some u)) st := rfl
@[simp] theorem ev_gsNil : gsNil [] env st = .ok env st := rfl
@[simp] theorem ev_gsCons (g : GM) (r : GsM) (u : U) (t : List U) : gsCons g r (u :: t) env st = (g u env st).bind (r t) := rfl
@[simp] theorem ev_gTup (n : Nat) (g : GsM) (ds : List D) : gTupM n g (.d (.tup ds)) env st = if ds.length = n then g (ds.map U.d) env st else .bad := rfl
def callPK2 (n : Nat) (F : FM) (dds : List D) (o : Option (List D)) (st1 : Store) : R U := match o with
  | some ds => if (ds ++ dds).length = n then backP (F ((ds ++ dds).map U.d) []) st1 else .bad
  | none => .bad
def callPK (n : Nat) (F : FM) (dds : List D) (us : List U) (st1 : Store) : R U := callPK2 n F dds (dsOf us) st1
@[simp] theorem callPK_nil (n : Nat) (F : FM) (dds : List D) : callPK n F dds [] st = callPK2 n F dds (dsOf []) st := rfl
@[simp] theorem callPK_cons (n : Nat) (F : FM) (dds : List D) (u : U) (us : List U) : callPK n F dds (u :: us) st = callPK2 n F dds (dsOf (u :: us)) st := rfl
@[simp] theorem callPK2_e (n : Nat) (F : FM) (dds : List D) (ds : List D) : callPK2 n F dds (some ds) st = if (ds ++ dds).length = n then backP (F ((ds ++ dds).map U.d) []) st else .bad := rfl
@[simp] theorem ev_callP (n : Nat) (F : FM) (ms : AM) (dds : List D) : mCallP n F ms dds env st = (ms env st).bind (callPK n F dds) := rfl
@[simp] theorem backP_d (x : D) (s2 : Store) : backP (.ok (.d x) s2) st = .ok (.d x) st := rfl
@[simp] theorem backP_exc (x : Exc) (s2 : Store) : backP (.exc x s2) st = .exc x st := rfl
theorem backP_congr {r r' : R U} {s : Store} (h : r = r') : backP r s = backP r' s := by rw [h]
theorem fIx_tup (a : List D) (i : Int) : fIx (.d (.tup a)) (.d (.int i)) st = (match atI a i with | some x => .ok (.d x) st | none => .bad) := rfl
def isiK (c0 : Nat) (T : Tg) (u : U) (s1 : Store) : R U := match kindOf u s1 with
  | some K => match isB c0 K T with
    | some b => .ok (.d (.bl b)) s1
    | none => .bad
  | none => .bad
def isiK2 (c0 : Nat) (T1 T2 : Tg) (u : U) (s1 : Store) : R U := match kindOf u s1 with
  | some K => match isB c0 K T1, isB c0 K T2 with
    | some b1, some b2 => .ok (.d (.bl (b1 || b2))) s1
    | _, _ => .bad
  | none => .bad
@[simp] theorem ev_isi (c0 : Nat) (T : Tg) (m : EM) : mIsi c0 T m env st = (m env st).bind (isiK c0 T) := rfl
@[simp] theorem ev_isi2 (c0 : Nat) (T1 T2 : Tg) (m : EM) : mIsi2 c0 T1 T2 m env st = (m env st).bind (isiK2 c0 T1 T2) := rfl
@[simp] theorem isi_non_int (c0 : Nat)  : isiK c0 .int (.d .non) st = .ok (.d (.bl false)) st := rfl
@[simp] theorem isi_non_bl (c0 : Nat)  : isiK c0 .bl (.d .non) st = .ok (.d (.bl false)) st := rfl
@[simp] theorem isi_non_str (c0 : Nat)  : isiK c0 .str (.d .non) st = .ok (.d (.bl false)) st := rfl
@[simp] theorem isi_non_tup (c0 : Nat)  : isiK c0 .tup (.d .non) st = .ok (.d (.bl false)) st := rfl
@[simp] theorem isi_non_lst (c0 : Nat)  : isiK c0 .lst (.d .non) st = .ok (.d (.bl false)) st := rfl
@[simp] theorem isi_non_dic (c0 : Nat)  : isiK c0 .dic (.d .non) st = .ok (.d (.bl false)) st := rfl
@[simp] theorem isi_non_own (c0 c : Nat)  : isiK c0 (.own c) (.d .non) st = if c = c0 then .ok (.d (.bl false)) st else .bad := by unfold isiK isB kindOf; simp; split <;> simp_all
@[simp] theorem isi2_non (c0 : Nat)  : isiK2 c0 .tup .lst (.d .non) st = .ok (.d (.bl false)) st := rfl
@[simp] theorem isi_bl_int (c0 : Nat) (b : Bool) : isiK c0 .int (.d (.bl b)) st = .ok (.d (.bl true)) st := rfl
@[simp] theorem isi_bl_bl (c0 : Nat) (b : Bool) : isiK c0 .bl (.d (.bl b)) st = .ok (.d (.bl true)) st := rfl
@[simp] theorem isi_bl_str (c0 : Nat) (b : Bool) : isiK c0 .str (.d (.bl b)) st = .ok (.d (.bl false)) st := rfl
@[simp] theorem isi_bl_tup (c0 : Nat) (b : Bool) : isiK c0 .tup (.d (.bl b)) st = .ok (.d (.bl false)) st := rfl
@[simp] theorem isi_bl_lst (c0 : Nat) (b : Bool) : isiK c0 .lst (.d (.bl b)) st = .ok (.d (.bl false)) st := rfl
@[simp] theorem isi_bl_dic (c0 : Nat) (b : Bool) : isiK c0 .dic (.d (.bl b)) st = .ok (.d (.bl false)) st := rfl
@[simp] theorem isi_bl_own (c0 c : Nat) (b : Bool) : isiK c0 (.own c) (.d (.bl b)) st = if c = c0 then .ok (.d (.bl false)) st else .bad := by unfold isiK isB kindOf; simp; split <;> simp_all
@[simp] theorem isi2_bl (c0 : Nat) (b : Bool) : isiK2 c0 .tup .lst (.d (.bl b)) st = .ok (.d (.bl false)) st := rfl
@[simp] theorem isi_int_int (c0 : Nat) (b : Int) : isiK c0 .int (.d (.int b)) st = .ok (.d (.bl true)) st := rfl
@[simp] theorem isi_int_bl (c0 : Nat) (b : Int) : isiK c0 .bl (.d (.int b)) st = .ok (.d (.bl false)) st := rfl
@[simp] theorem isi_int_str (c0 : Nat) (b : Int) : isiK c0 .str (.d (.int b)) st = .ok (.d (.bl false)) st := rfl
@[simp] theorem isi_int_tup (c0 : Nat) (b : Int) : isiK c0 .tup (.d (.int b)) st = .ok (.d (.bl false)) st := rfl
@[simp] theorem isi_int_lst (c0 : Nat) (b : Int) : isiK c0 .lst (.d (.int b)) st = .ok (.d (.bl false)) st := rfl
@[simp] theorem isi_int_dic (c0 : Nat) (b : Int) : isiK c0 .dic (.d (.int b)) st = .ok (.d (.bl false)) st := rfl
@[simp] theorem isi_int_own (c0 c : Nat) (b : Int) : isiK c0 (.own c) (.d (.int b)) st = if c = c0 then .ok (.d (.bl false)) st else .bad := by unfold isiK isB kindOf; simp; split <;> simp_all
@[simp] theorem isi2_int (c0 : Nat) (b : Int) : isiK2 c0 .tup .lst (.d (.int b)) st = .ok (.d (.bl false)) st := rfl
@[simp] theorem isi_str_int (c0 : Nat) (b : Str) : isiK c0 .int (.d (.str b)) st = .ok (.d (.bl false)) st := rfl
@[simp] theorem isi_str_bl (c0 : Nat) (b : Str) : isiK c0 .bl (.d (.str b)) st = .ok (.d (.bl false)) st := rfl
@[simp] theorem isi_str_str (c0 : Nat) (b : Str) : isiK c0 .str (.d (.str b)) st = .ok (.d (.bl true)) st := rfl
@[simp] theorem isi_str_tup (c0 : Nat) (b : Str) : isiK c0 .tup (.d (.str b)) st = .ok (.d (.bl false)) st := rfl
@[simp] theorem isi_str_lst (c0 : Nat) (b : Str) : isiK c0 .lst (.d (.str b)) st = .ok (.d (.bl false)) st := rfl
@[simp] theorem isi_str_dic (c0 : Nat) (b : Str) : isiK c0 .dic (.d (.str b)) st = .ok (.d (.bl false)) st := rfl
@[simp] theorem isi_str_own (c0 c : Nat) (b : Str) : isiK c0 (.own c) (.d (.str b)) st = if c = c0 then .ok (.d (.bl false)) st else .bad := by unfold isiK isB kindOf; simp; split <;> simp_all
@[simp] theorem isi2_str (c0 : Nat) (b : Str) : isiK2 c0 .tup .lst (.d (.str b)) st = .ok (.d (.bl false)) st := rfl
@[simp] theorem isi_tup_int (c0 : Nat) (b : List D) : isiK c0 .int (.d (.tup b)) st = .ok (.d (.bl false)) st := rfl
@[simp] theorem isi_tup_bl (c0 : Nat) (b : List D) : isiK c0 .bl (.d (.tup b)) st = .ok (.d (.bl false)) st := rfl
@[simp] theorem isi_tup_str (c0 : Nat) (b : List D) : isiK c0 .str (.d (.tup b)) st = .ok (.d (.bl false)) st := rfl
@[simp] theorem isi_tup_tup (c0 : Nat) (b : List D) : isiK c0 .tup (.d (.tup b)) st = .ok (.d (.bl true)) st := rfl
@[simp] theorem isi_tup_lst (c0 : Nat) (b : List D) : isiK c0 .lst (.d (.tup b)) st = .ok (.d (.bl false)) st := rfl
@[simp] theorem isi_tup_dic (c0 : Nat) (b : List D) : isiK c0 .dic (.d (.tup b)) st = .ok (.d (.bl false)) st := rfl
@[simp] theorem isi_tup_own (c0 c : Nat) (b : List D) : isiK c0 (.own c) (.d (.tup b)) st = if c = c0 then .ok (.d (.bl false)) st else .bad := by unfold isiK isB kindOf; simp; split <;> simp_all
@[simp] theorem isi2_tup (c0 : Nat) (b : List D) : isiK2 c0 .tup .lst (.d (.tup b)) st = .ok (.d (.bl true)) st := rfl
@[simp] theorem isi_lst_int (c0 : Nat) (b : List D) : isiK c0 .int (.d (.lst b)) st = .ok (.d (.bl false)) st := rfl
@[simp] theorem isi_lst_bl (c0 : Nat) (b : List D) : isiK c0 .bl (.d (.lst b)) st = .ok (.d (.bl false)) st := rfl
@[simp] theorem isi_lst_str (c0 : Nat) (b : List D) : isiK c0 .str (.d (.lst b)) st = .ok (.d (.bl false)) st := rfl
@[simp] theorem isi_lst_tup (c0 : Nat) (b : List D) : isiK c0 .tup (.d (.lst b)) st = .ok (.d (.bl false)) st := rfl
@[simp] theorem isi_lst_lst (c0 : Nat) (b : List D) : isiK c0 .lst (.d (.lst b)) st = .ok (.d (.bl true)) st := rfl
@[simp] theorem isi_lst_dic (c0 : Nat) (b : List D) : isiK c0 .dic (.d (.lst b)) st = .ok (.d (.bl false)) st := rfl
@[simp] theorem isi_lst_own (c0 c : Nat) (b : List D) : isiK c0 (.own c) (.d (.lst b)) st = if c = c0 then .ok (.d (.bl false)) st else .bad := by unfold isiK isB kindOf; simp; split <;> simp_all
@[simp] theorem isi2_lst (c0 : Nat) (b : List D) : isiK2 c0 .tup .lst (.d (.lst b)) st = .ok (.d (.bl true)) st := rfl
@[simp] theorem isi_frz_int (c0 : Nat) (b : List D) : isiK c0 .int (.d (.frz b)) st = .ok (.d (.bl false)) st := rfl
@[simp] theorem isi_frz_bl (c0 : Nat) (b : List D) : isiK c0 .bl (.d (.frz b)) st = .ok (.d (.bl false)) st := rfl
@[simp] theorem isi_frz_str (c0 : Nat) (b : List D) : isiK c0 .str (.d (.frz b)) st = .ok (.d (.bl false)) st := rfl
@[simp] theorem isi_frz_tup (c0 : Nat) (b : List D) : isiK c0 .tup (.d (.frz b)) st = .ok (.d (.bl false)) st := rfl
@[simp] theorem isi_frz_lst (c0 : Nat) (b : List D) : isiK c0 .lst (.d (.frz b)) st = .ok (.d (.bl true)) st := rfl
@[simp] theorem isi_frz_dic (c0 : Nat) (b : List D) : isiK c0 .dic (.d (.frz b)) st = .ok (.d (.bl false)) st := rfl
@[simp] theorem isi_frz_own (c0 c : Nat) (b : List D) : isiK c0 (.own c) (.d (.frz b)) st = if c = c0 then .ok (.d (.bl false)) st else .bad := by unfold isiK isB kindOf; simp; split <;> simp_all
@[simp] theorem isi2_frz (c0 : Nat) (b : List D) : isiK2 c0 .tup .lst (.d (.frz b)) st = .ok (.d (.bl true)) st := rfl
@[simp] theorem isi_obj_int (c0 c : Nat) (b : List D) : isiK c0 .int (.d (.obj c b)) st = if c = c0 then .ok (.d (.bl false)) st else .bad := by unfold isiK isB kindOf; simp; split <;> simp_all
@[simp] theorem isi_obj_bl (c0 c : Nat) (b : List D) : isiK c0 .bl (.d (.obj c b)) st = if c = c0 then .ok (.d (.bl false)) st else .bad := by unfold isiK isB kindOf; simp; split <;> simp_all
@[simp] theorem isi_obj_str (c0 c : Nat) (b : List D) : isiK c0 .str (.d (.obj c b)) st = if c = c0 then .ok (.d (.bl false)) st else .bad := by unfold isiK isB kindOf; simp; split <;> simp_all
@[simp] theorem isi_obj_tup (c0 c : Nat) (b : List D) : isiK c0 .tup (.d (.obj c b)) st = if c = c0 then .ok (.d (.bl false)) st else .bad := by unfold isiK isB kindOf; simp; split <;> simp_all
@[simp] theorem isi_obj_lst (c0 c : Nat) (b : List D) : isiK c0 .lst (.d (.obj c b)) st = if c = c0 then .ok (.d (.bl false)) st else .bad := by unfold isiK isB kindOf; simp; split <;> simp_all
@[simp] theorem isi_obj_dic (c0 c : Nat) (b : List D) : isiK c0 .dic (.d (.obj c b)) st = if c = c0 then .ok (.d (.bl false)) st else .bad := by unfold isiK isB kindOf; simp; split <;> simp_all
@[simp] theorem isi_obj_own (c0 c d : Nat) (b : List D) : isiK c0 (.own d) (.d (.obj c b)) st = if c = c0 ∧ d = c0 then .ok (.d (.bl true)) st else .bad := by unfold isiK isB kindOf; simp; split <;> simp_all
@[simp] theorem isi2_obj (c0 c : Nat) (b : List D) : isiK2 c0 .tup .lst (.d (.obj c b)) st = if c = c0 then .ok (.d (.bl false)) st else .bad := by unfold isiK2 isB kindOf; simp; split <;> simp_all
@[simp] theorem ev_noPart : mNoPart env st = .ok none st := rfl
def partK (u : U) (st : Store) : R (Option Int) := match u with
  | .d (.int i) => .ok (some i) st
  | _ => .bad
@[simp] theorem partK_int (i : Int) : partK (.d (.int i)) st = .ok (some i) st := rfl
@[simp] theorem ev_part (m : EM) : mPart m env st = (m env st).bind partK := rfl
def sliceK (i j : Option Int) (u : U) (st : Store) : R U := match u with
  | .d (.tup ds) => .ok (.d (.tup (cut ds i j))) st
  | _ => .bad
def slcK2 (u : U) (i : Option Int) (j : Option Int) (s3 : Store) : R U := sliceK i j u s3
def slcK1 (hi : OM) (env : EnvD) (u : U) (i : Option Int) (s2 : Store) : R U := (hi env s2).bind (slcK2 u i)
def slcK (lo hi : OM) (env : EnvD) (u : U) (s1 : Store) : R U := (lo env s1).bind (slcK1 hi env u)
@[simp] theorem slcK2_e (u : U) (i j : Option Int) : slcK2 u i j st = sliceK i j u st := rfl
@[simp] theorem slcK1_e (hi : OM) (u : U) (i : Option Int) : slcK1 hi env u i st = (hi env st).bind (slcK2 u i) := rfl
@[simp] theorem slcK_e (lo hi : OM) (u : U) : slcK lo hi env u st = (lo env st).bind (slcK1 hi env u) := rfl
@[simp] theorem ev_slice (a : EM) (lo hi : OM) : mSlice a lo hi env st = (a env st).bind (slcK lo hi env) := rfl
@[simp] theorem sliceK_tup (i j : Option Int) (ds : List D) : sliceK i j (.d (.tup ds)) st = .ok (.d (.tup (cut ds i j))) st := rfl
end
end Ct
namespace Ct
open PySem PySem.Spec PyProof.Rows L2
/-! ### loops -/
theorem guard_none (us : List U) (st : Store) : guarded none us st := fun n us h => by cases h
def RS.lk : RS → SM → RS
  | .nx e t, f => f e t
  | .ct e t, f => f e t
  | .bk e t, _ => .nx e t
  | z, _ => z
@[simp] theorem lk_nx (e : EnvD) (s : Store) (f : SM) : (RS.nx e s).lk f = f e s := rfl
@[simp] theorem lk_ct (e : EnvD) (s : Store) (f : SM) : (RS.ct e s).lk f = f e s := rfl
@[simp] theorem lk_bk (e : EnvD) (s : Store) (f : SM) : (RS.bk e s).lk f = .nx e s := rfl
@[simp] theorem lk_rt (u : U) (s : Store) (f : SM) : (RS.rt u s).lk f = .rt u s := rfl
@[simp] theorem lk_exc (u : Exc) (s : Store) (f : SM) : (RS.exc u s).lk f = .exc u s := rfl
theorem loop_nil (us : List U) (g : GM) (b : SM) (env : EnvD) (st : Store) : loopF (none, us) g b [] env st = .nx env st := by
  unfold loopF
  rw [if_pos (guard_none _ _)]
theorem loop_cons (us : List U) (g : GM) (b : SM) (u : U) (r : List U) (env : EnvD) (st : Store) : loopF (none, us) g b (u :: r) env st = ((g u env st).andS b).lk (loopF (none, us) g b r) := by
  rw [loopF, if_pos (guard_none _ _)]
  cases g u env st with
  | ok e1 s1 =>
    show (match b e1 s1 with | .nx e t => loopF (none, us) g b r e t | .ct e t => loopF (none, us) g b r e t | .bk e t => .nx e t | z => z) = (b e1 s1).lk _
    cases b e1 s1 <;> rfl
  | exc x s1 => rfl
  | bad => rfl
noncomputable def forK (g : GM) (b : SM) (env : EnvD) (s : Src) (s1 : Store) : RS := loopF s g b s.2 env s1
@[simp] theorem forK_e (g : GM) (b : SM) (env : EnvD) (o : Option (Nat × List U)) (us : List U) (s1 : Store) : forK g b env (o, us) s1 = loopF (o, us) g b us env s1 := rfl
@[simp] theorem ev_for (m : IM) (g : GM) (b : SM) (env : EnvD) (st : Store) : sFor m g b env st = (m env st).andS (forK g b env) := rfl
def seqK (u : U) (st1 : Store) : R Src := match u with
  | .d (.tup ds) => .ok (none, ds.map U.d) st1
  | .d (.lst ds) => .ok (none, ds.map U.d) st1
  | .d (.frz ds) => .ok (none, ds.map U.d) st1
  | .loc n => match st1[n]? with
    | some (.lst us) => .ok (some (n, us), us) st1
    | _ => .bad
  | _ => .bad
@[simp] theorem ev_iSeq (m : EM) (env : EnvD) (st : Store) : iSeq m env st = (m env st).bind seqK := rfl
@[simp] theorem seqK_tup (ds : List D) (st : Store) : seqK (.d (.tup ds)) st = .ok (none, ds.map U.d) st := rfl
@[simp] theorem seqK_lst (ds : List D) (st : Store) : seqK (.d (.lst ds)) st = .ok (none, ds.map U.d) st := rfl
/-- a loop that ends early by a value, or goes through -/
theorem loop_check {g : GM} {b : SM} {I : EnvD → Prop} {p : U → Bool} {r : U} {st : Store} {us0 : List U} : ∀ (us : List U) (env : EnvD), I env →
    (∀ u ∈ us, ∀ e, I e → ∃ e1, I e1 ∧ (g u e st).andS b = if p u = true then .nx e1 st else .rt r st) → ∃ e1, I e1 ∧ loopF (none, us0) g b us env st = if us.all p = true then .nx e1 st else .rt r st
  | [], env, h0, _ => ⟨env, h0, by rw [loop_nil]; rfl⟩
  | u :: us, env, h0, h => by
    obtain ⟨e1, h1, q⟩ := h u (by simp) env h0
    rw [loop_cons, q]
    by_cases hp : p u = true
    · rw [if_pos hp]
      obtain ⟨e2, h2, q2⟩ := loop_check (us0 := us0) us e1 h1 (fun v hv => h v (by simp [hv]))
      exact ⟨e2, h2, by rw [lk_nx, q2]; simp [hp]⟩
    · rw [if_neg hp]
      exact ⟨e1, h1, by simp [hp]⟩
/-! ### generator expressions -/
theorem gx_nil {γ : Type} (us : List U) (g : GM) (t : TM) (e : EM) (env : EnvD) (k : γ → U → Option (γ ⊕ D)) (f : γ → Option D) (b : γ) (st : Store) : gxLoop (none, us) g t e env k f [] b st = (match f b with | some u => .ok (.d u) st | none => .bad) := by
  rw [gxLoop, if_pos (guard_none _ _)]
  try rfl
theorem gx_cons {γ : Type} (us : List U) (g : GM) (t : TM) (e : EM) (env : EnvD) (k : γ → U → Option (γ ⊕ D)) (f : γ → Option D) (u : U) (r : List U) (b : γ) (st : Store) : gxLoop (none, us) g t e env k f (u :: r) b st =
    (g u env st).nox.bind fun env1 st1 => (t env1 st1).nox.bind fun c st2 => if c = true then (e env1 st2).nox.bind fun x st3 => (match k b x with
      | some (.inl b') => gxLoop (none, us) g t e env k f r b' st3
      | some (.inr u) => .ok (.d u) st3
      | none => .bad) else gxLoop (none, us) g t e env k f r b st2 := by
  rw [gxLoop, if_pos (guard_none _ _)]
  try rfl
theorem all_gx {g : GM} {t : TM} {e : EM} {env : EnvD} {st : Store} {p : U → Bool} {us0 : List U} : ∀ us : List U, (∀ u ∈ us, ∃ e1, g u env st = .ok e1 st ∧ t e1 st = .ok true st ∧ e e1 st = .ok (.d (.bl (p u))) st) → gxLoop (none, us0) g t e env kAll fAll us () st = .ok (.d (.bl (us.all p))) st
  | [], _ => by rw [gx_nil]; rfl
  | u :: us, h => by
    obtain ⟨e1, h1, h2, h3⟩ := h u (by simp)
    rw [gx_cons, h1]
    simp only [nox_ok', R.bind_ok, h2, if_true, h3]
    cases hp : p u with
    | true =>
      show gxLoop (none, us0) g t e env kAll fAll us () st = _
      rw [all_gx us (fun v hv => h v (by simp [hv]))]
      simp [hp]
    | false => simp [kAll, hp]
theorem sum_gx {g : GM} {t : TM} {e : EM} {env : EnvD} {st : Store} {p : U → Int} {us0 : List U} : ∀ (us : List U) (b : Int), (∀ u ∈ us, ∃ e1, g u env st = .ok e1 st ∧ t e1 st = .ok true st ∧ e e1 st = .ok (.d (.int (p u))) st) → gxLoop (none, us0) g t e env kSum fSumG us b st = .ok (.d (.int (b + (us.map p).sum))) st
  | [], b, _ => by rw [gx_nil]; simp [fSumG]
  | u :: us, b, h => by
    obtain ⟨e1, h1, h2, h3⟩ := h u (by simp)
    rw [gx_cons, h1]
    simp only [nox_ok', R.bind_ok, h2, if_true, h3]
    show gxLoop (none, us0) g t e env kSum fSumG us (b + p u) st = _
    rw [sum_gx us (b + p u) (fun v hv => h v (by simp [hv]))]
    simp [Int.add_assoc]
/-! ### list comprehensions -/
theorem lc_nil (us : List U) (g : GM) (t : TM) (e : EM) (env : EnvD) (acc : List U) (st : Store) : lcLoop (none, us) g t e env [] acc st = .ok acc st := by
  rw [lcLoop, if_pos (guard_none _ _)]
theorem lc_cons (us : List U) (g : GM) (t : TM) (e : EM) (env : EnvD) (u : U) (r : List U) (acc : List U) (st : Store) : lcLoop (none, us) g t e env (u :: r) acc st =
    (g u env st).nox.bind fun env1 st1 => (t env1 st1).nox.bind fun b st2 => if b = true then (e env1 st2).nox.bind fun x st3 => if acc.length < sizeLine then lcLoop (none, us) g t e env r (acc ++ [x]) st3 else .bad
      else lcLoop (none, us) g t e env r acc st2 := by
  rw [lcLoop, if_pos (guard_none _ _)]
/-- all items taken, a pure element -/
theorem map_lc {g : GM} {t : TM} {e : EM} {env : EnvD} {st : Store} {q : U → Bool} {p : U → U} {us0 : List U} : ∀ (us acc : List U), acc.length + us.length ≤ 100000 → (∀ u ∈ us, ∃ e1, g u env st = .ok e1 st ∧ t e1 st = .ok (q u) st ∧ (q u = true → e e1 st = .ok (p u) st)) →
    lcLoop (none, us0) g t e env us acc st = .ok (acc ++ (us.filter q).map p) st
  | [], acc, _, _ => by rw [lc_nil]; simp
  | u :: us, acc, hl, h => by
    obtain ⟨e1, h1, h2, h3⟩ := h u (by simp)
    rw [lc_cons, h1]
    simp only [nox_ok', R.bind_ok, h2]
    simp only [List.length_cons] at hl
    cases hq : q u with
    | true =>
      rw [if_pos rfl, h3 hq]
      simp only [nox_ok', R.bind_ok]
      rw [if_pos (by rw [sizeLine_eq]; omega), map_lc us (acc ++ [p u]) (by simp; omega) (fun v hv => h v (by simp [hv]))]
      simp [hq]
    | false =>
      rw [if_neg (by simp), map_lc us acc (by omega) (fun v hv => h v (by simp [hv]))]
      simp [hq]
theorem ev_lenO {c : Nat} {F : FM} {ds : List D} {n : Int} {s2 st : Store} (h : F [.d (.obj c ds)] [] = .ok (.d (.int n)) s2) (h0 : 0 ≤ n ∧ n < 2 ^ 63) : fLenO c F [.d (.obj c ds)] st = .ok (.d (.int n)) st := by
  unfold fLenO
  simp only [if_true, h]
  exact if_pos h0
/-- a loop that keeps something, to its end or to a break -/
theorem loop_inv {g : GM} {b : SM} {I : EnvD → Store → Prop} {us0 : List U} : ∀ (us : List U) (env : EnvD) (st : Store), I env st →
    (∀ u ∈ us, ∀ e t, I e t → ∃ e1 t1, I e1 t1 ∧ ((g u e t).andS b = .nx e1 t1 ∨ (g u e t).andS b = .ct e1 t1 ∨ (g u e t).andS b = .bk e1 t1)) → ∃ e1 t1, I e1 t1 ∧ loopF (none, us0) g b us env st = .nx e1 t1
  | [], env, st, h0, _ => ⟨env, st, h0, loop_nil _ _ _ _ _⟩
  | u :: us, env, st, h0, h => by
    obtain ⟨e1, t1, h1, q⟩ := h u (by simp) env st h0
    rw [loop_cons]
    rcases q with q | q | q
    · rw [q, lk_nx]
      exact loop_inv us e1 t1 h1 fun v hv => h v (by simp [hv])
    · rw [q, lk_ct]
      exact loop_inv us e1 t1 h1 fun v hv => h v (by simp [hv])
    · rw [q, lk_bk]
      exact ⟨e1, t1, h1, rfl⟩
/-- a comprehension whose element turns the store -/
theorem lc_inv {g : GM} {t : TM} {e : EM} {env : EnvD} {J : Store → Prop} {Q : D → Prop} {us0 : List U} : ∀ (us acc : List U) (st : Store), J st → acc.length + us.length ≤ 100000 →
    (∀ u ∈ us, ∀ s, J s → ∃ e1 d s1, g u env s = .ok e1 s ∧ t e1 s = .ok true s ∧ e e1 s = .ok (.d d) s1 ∧ Q d ∧ J s1) →
    ∃ (ds : List D) (s1 : Store), ds.length = us.length ∧ (∀ d ∈ ds, Q d) ∧ J s1 ∧ lcLoop (none, us0) g t e env us acc st = .ok (acc ++ ds.map U.d) s1
  | [], acc, st, h0, _, _ => ⟨[], st, rfl, by simp, h0, by rw [lc_nil]; simp⟩
  | u :: us, acc, st, h0, hl, h => by
    simp only [List.length_cons] at hl
    obtain ⟨e1, d, s1, q1, q2, q3, hQ, hJ⟩ := h u (by simp) st h0
    obtain ⟨ds, s2, a1, a2, a3, a4⟩ := lc_inv (us0 := us0) us (acc ++ [.d d]) s1 hJ (by simp; omega) fun v hv => h v (by simp [hv])
    refine ⟨d :: ds, s2, by simp [a1], fun x hx => ?_, a3, ?_⟩
    · rcases List.mem_cons.mp hx with hx | hx
      · rw [hx]; exact hQ
      · exact a2 x hx
    · rw [lc_cons, q1]
      simp only [nox_ok', R.bind_ok, q2, if_true, q3]
      rw [if_pos (by rw [sizeLine_eq]; omega), a4]
      simp
/-- .. counted -/
theorem loop_invN {g : GM} {b : SM} {I : Nat → EnvD → Store → Prop} {us0 : List U} : ∀ (us : List U) (n : Nat) (env : EnvD) (st : Store), I n env st →
    (∀ u ∈ us, ∀ k e t, k < n + us.length → I k e t → ∃ e1 t1, I (k + 1) e1 t1 ∧ ((g u e t).andS b = .nx e1 t1 ∨ (g u e t).andS b = .ct e1 t1 ∨ (g u e t).andS b = .bk e1 t1)) →
    ∃ k e1 t1, k ≤ n + us.length ∧ I k e1 t1 ∧ loopF (none, us0) g b us env st = .nx e1 t1
  | [], n, env, st, h0, _ => ⟨n, env, st, by simp, h0, loop_nil _ _ _ _ _⟩
  | u :: us, n, env, st, h0, h => by
    obtain ⟨e1, t1, h1, q⟩ := h u (by simp) n env st (by simp) h0
    have next : ∃ k e2 t2, k ≤ n + (u :: us).length ∧ I k e2 t2 ∧ loopF (none, us0) g b us e1 t1 = .nx e2 t2 := by
      obtain ⟨k, e2, t2, a1, a2, a3⟩ := loop_invN (us0 := us0) us (n + 1) e1 t1 h1 fun v hv k e t hk => h v (by simp [hv]) k e t (by simp; omega)
      exact ⟨k, e2, t2, by simp; omega, a2, a3⟩
    rw [loop_cons]
    rcases q with q | q | q
    · rw [q, lk_nx]; exact next
    · rw [q, lk_ct]; exact next
    · rw [q, lk_bk]
      exact ⟨n + 1, e1, t1, by simp, h1, rfl⟩
end Ct
set_option Elab.async false
set_option maxRecDepth 100000
set_option maxHeartbeats 4000000
namespace Ct
open PySem
@[simp] theorem okD_int (i : Int) : okD (.int i) = true := rfl
@[simp] theorem okD_non : okD .non = true := rfl
@[simp] theorem okD_bl (b : Bool) : okD (.bl b) = true := rfl
@[simp] theorem okD_nilT : okD (.tup []) = true := rfl
@[simp] theorem okD_nilL : okD (.lst []) = true := rfl
@[simp] theorem eqD_int (i j : Int) : eqD (.int i) (.int j) = decide (i = j) := by
  unfold eqD
  simp [toP, PyData.eqv]
  try rfl
@[simp] theorem fEq_int (i j : Int) (st : Store) : fEq (.d (.int i)) (.d (.int j)) st = .ok (.d (.bl (decide (i = j)))) st := by
  unfold fEq; simp
@[simp] theorem fNe_int (i j : Int) (st : Store) : fNe (.d (.int i)) (.d (.int j)) st = .ok (.d (.bl (!decide (i = j)))) st := by
  unfold fNe; simp
@[simp] theorem fNe_lenT (a : List D) (i : Int) (st : Store) : fNe (.d (.int a.length)) (.d (.int i)) st = .ok (.d (.bl (!decide ((a.length : Int) = i)))) st := fNe_int _ _ _
theorem fFld_obj (c : Nat) (f : Str) (ds : List D) (st : Store) : fFld c f (.d (.obj c ds)) st = (match ((flds c).zip ds).lookup f with | some x => .ok (.d x) st | none => .bad) := by
  unfold fFld; simp; try rfl
theorem atI_nat {α : Type} (xs : List α) (i : Int) (h0 : 0 ≤ i) (h1 : i < xs.length) : L2.atI xs i = xs[i.toNat]? := by
  unfold L2.atI L2.ixN
  have : ¬ i < 0 := by omega
  simp [this, h0, h1]
end Ct
/-! What a run ends in, by wishes: the calls by what is known of them, the loops by what they keep. -/
namespace Ct
open PySem PySem.Spec PyProof.Rows L2
def noX : Exc → Store → Prop := fun _ _ => False
def noE : EnvD → Store → Prop := fun _ _ => False
def noV : U → Store → Prop := fun _ _ => False
@[irreducible] def wR {α : Type} (r : R α) (Q : α → Store → Prop) (X : Exc → Store → Prop) : Prop := match r with
  | .ok a s => Q a s
  | .exc x s => X x s
  | .bad => False
/-- next, continue, break, return, raise -/
@[irreducible] def wS (r : RS) (N C B : EnvD → Store → Prop) (T : U → Store → Prop) (X : Exc → Store → Prop) : Prop := match r with
  | .nx e s => N e s
  | .ct e s => C e s
  | .bk e s => B e s
  | .rt u s => T u s
  | .exc x s => X x s
  | .bad => False
section
variable {α β : Type} {N C B : EnvD → Store → Prop} {T : U → Store → Prop} {X : Exc → Store → Prop} {Q : α → Store → Prop} {P : β → Store → Prop}
@[simp] theorem wR_ok (a : α) (s : Store) : wR (.ok a s) Q X = Q a s := by unfold wR; rfl
@[simp] theorem wR_exc (x : Exc) (s : Store) : wR (.exc x s : R α) Q X = X x s := by unfold wR; rfl
@[simp] theorem wR_bad : wR (.bad : R α) Q X = False := by unfold wR; rfl
@[simp] theorem wS_nx (e : EnvD) (s : Store) : wS (.nx e s) N C B T X = N e s := by unfold wS; rfl
@[simp] theorem wS_ct (e : EnvD) (s : Store) : wS (.ct e s) N C B T X = C e s := by unfold wS; rfl
@[simp] theorem wS_bk (e : EnvD) (s : Store) : wS (.bk e s) N C B T X = B e s := by unfold wS; rfl
@[simp] theorem wS_rt (u : U) (s : Store) : wS (.rt u s) N C B T X = T u s := by unfold wS; rfl
@[simp] theorem wS_exc (x : Exc) (s : Store) : wS (.exc x s) N C B T X = X x s := by unfold wS; rfl
@[simp] theorem wS_bad : wS .bad N C B T X = False := by unfold wS; rfl
/-- what is left to be done behind a value -/
def wK (f : β → Store → R α) (Q : α → Store → Prop) (X : Exc → Store → Prop) (a : β) (s : Store) : Prop := wR (f a s) Q X
@[simp] theorem wK_e (f : β → Store → R α) (a : β) (s : Store) : wK f Q X a s = wR (f a s) Q X := rfl
@[simp] theorem wR_bind (r : R β) (f : β → Store → R α) : wR (r.bind f) Q X = wR r (wK f Q X) X := by cases r <;> simp [R.bind, wK]
def wFin (Q : U → Store → Prop) (_ : EnvD) (s : Store) : Prop := Q (.d .non) s
@[simp] theorem wFin_e (Q : U → Store → Prop) (e : EnvD) (s : Store) : wFin Q e s = Q (.d .non) s := rfl
@[simp] theorem wR_fin (r : RS) {Q : U → Store → Prop} : wR r.fin Q X = wS r (wFin Q) noE noE Q X := by cases r <;> simp [RS.fin, noE, wFin]
def wKS (f : α → Store → RS) (N C B : EnvD → Store → Prop) (T : U → Store → Prop) (X : Exc → Store → Prop) (a : α) (s : Store) : Prop := wS (f a s) N C B T X
@[simp] theorem wKS_e (f : α → Store → RS) (a : α) (s : Store) : wKS f N C B T X a s = wS (f a s) N C B T X := rfl
@[simp] theorem wS_andS (r : R α) (f : α → Store → RS) : wS (r.andS f) N C B T X = wR r (wKS f N C B T X) X := by cases r <;> simp [R.andS, wKS]
@[simp high] theorem wS_ret (r : R U) : wS (r.andS RS.rt) N C B T X = wR r T X := by cases r <;> simp [R.andS]
@[simp high] theorem wS_put (r : R EnvD) : wS (r.andS RS.nx) N C B T X = wR r N X := by cases r <;> simp [R.andS]
@[simp] theorem wS_seq (r : RS) (f : SM) : wS (r.seq f) N C B T X = wS r (wKS f N C B T X) C B T X := by cases r <;> simp [RS.seq, wKS]
theorem wR_imp {r : R α} {Q' : α → Store → Prop} {X' : Exc → Store → Prop} (h : wR r Q X) (i : ∀ a s, Q a s → Q' a s) (j : ∀ a s, X a s → X' a s) : wR r Q' X' := by
  unfold wR at h ⊢
  cases r with
  | ok a s => exact i _ _ h
  | exc x s => exact j _ _ h
  | bad => exact h
theorem wS_imp {r : RS} {N' C' B' : EnvD → Store → Prop} {T' : U → Store → Prop} {X' : Exc → Store → Prop} (h : wS r N C B T X) (i : ∀ a s, N a s → N' a s) (ic : ∀ a s, C a s → C' a s) (ib : ∀ a s, B a s → B' a s) (it : ∀ a s, T a s → T' a s) (j : ∀ a s, X a s → X' a s) : wS r N' C' B' T' X' := by
  unfold wS at h ⊢
  cases r with
  | nx e s => exact i _ _ h
  | ct e s => exact ic _ _ h
  | bk e s => exact ib _ _ h
  | rt u s => exact it _ _ h
  | exc x s => exact j _ _ h
  | bad => exact h
/-- by what is known of the value -/
theorem wR_of {r : R α} {a : α} {s : Store} (e : r = .ok a s) (h : Q a s) : wR r Q X := by rw [e, wR_ok]; exact h
theorem wR_ite {c : Prop} [Decidable c] {a b : R α} (h : c → wR a Q X) (k : ¬ c → wR b Q X) : wR (if c then a else b) Q X := by
  by_cases z : c
  · rw [if_pos z]; exact h z
  · rw [if_neg z]; exact k z
theorem wS_ite {c : Prop} [Decidable c] {a b : RS} (h : c → wS a N C B T X) (k : ¬ c → wS b N C B T X) : wS (if c then a else b) N C B T X := by
  by_cases z : c
  · rw [if_pos z]; exact h z
  · rw [if_neg z]; exact k z
theorem wR_get {r : R α} (h : wR r Q noX) : ∃ a s, r = .ok a s ∧ Q a s := by
  unfold wR at h
  cases r with
  | ok a s => exact ⟨a, s, rfl, h⟩
  | exc x s => exact h.elim
  | bad => exact h.elim
/-- a loop: I k holds ahead of the turn k -/
theorem wS_loopN {g : GM} {b : SM} {I : Nat → EnvD → Store → Prop} {us0 : List U} : ∀ (us : List U) (n : Nat) (env : EnvD) (st : Store), I n env st →
    (∀ k u, us[k]? = some u → ∀ e t, I (n + k) e t → wS ((g u e t).andS b) (I (n + k + 1)) (I (n + k + 1)) N T X) →
    (∀ e t, I (n + us.length) e t → N e t) →
    wS (loopF (none, us0) g b us env st) N C B T X
  | [], n, env, st, h0, _, hN => by rw [loop_nil, wS_nx]; exact hN _ _ h0
  | u :: us, n, env, st, h0, h, hN => by
    rw [loop_cons]
    have q := h 0 u rfl env st h0
    have next : ∀ e t, I (n + 1) e t → wS (loopF (none, us0) g b us e t) N C B T X := fun e t h1 =>
      wS_loopN (us0 := us0) us (n + 1) e t h1 (fun k v hv e t hI => by
        have := h (k + 1) v (by simpa using hv) e t (by rw [show n + (k + 1) = n + 1 + k by omega]; exact hI)
        rw [show n + (k + 1) + 1 = n + 1 + k + 1 by omega] at this
        exact this) (fun e t hI => hN e t (by rw [List.length_cons, show n + (us.length + 1) = n + 1 + us.length by omega]; exact hI))
    cases e : (g u env st).andS b with
    | nx e1 t1 => rw [e, wS_nx] at q; exact next _ _ q
    | ct e1 t1 => rw [e, wS_ct] at q; exact next _ _ q
    | bk e1 t1 => rw [e, wS_bk] at q; rw [lk_bk, wS_nx]; exact q
    | rt u1 t1 => rw [e, wS_rt] at q; rw [lk_rt, wS_rt]; exact q
    | exc x1 t1 => rw [e, wS_exc] at q; rw [lk_exc, wS_exc]; exact q
    | bad => rw [e, wS_bad] at q; exact q.elim
/-- .. that keeps I -/
theorem wS_loop {g : GM} {b : SM} {I : EnvD → Store → Prop} {us0 us : List U} {env : EnvD} {st : Store} (h0 : I env st)
    (h : ∀ u ∈ us, ∀ e t, I e t → wS ((g u e t).andS b) I I N T X) (hN : ∀ e t, I e t → N e t) : wS (loopF (none, us0) g b us env st) N C B T X :=
  wS_loopN (I := fun _ => I) us 0 env st h0 (fun k u hu e t hI => h u (List.mem_of_getElem? hu) e t hI) hN
/-- .. over what is done and what is left -/
theorem wS_loopL {g : GM} {b : SM} {I : List U → EnvD → Store → Prop} {us0 : List U} : ∀ (us ds : List U) (env : EnvD) (st : Store), I ds env st →
    (∀ ds' u r, ds ++ us = ds' ++ u :: r → ∀ e t, I ds' e t → wS ((g u e t).andS b) (I (ds' ++ [u])) (I (ds' ++ [u])) N T X) →
    (∀ e t, I (ds ++ us) e t → N e t) →
    wS (loopF (none, us0) g b us env st) N C B T X
  | [], ds, env, st, h0, _, hN => by rw [loop_nil, wS_nx]; exact hN _ _ (by rw [List.append_nil]; exact h0)
  | u :: us, ds, env, st, h0, h, hN => by
    rw [loop_cons]
    have q := h ds u us rfl env st h0
    have next : ∀ e t, I (ds ++ [u]) e t → wS (loopF (none, us0) g b us e t) N C B T X := fun e t h1 =>
      wS_loopL (us0 := us0) us (ds ++ [u]) e t h1 (fun ds' v r hv e t hI => h ds' v r (by simpa using hv) e t hI) (fun e t hI => hN e t (by simpa using hI))
    cases e : (g u env st).andS b with
    | nx e1 t1 => rw [e, wS_nx] at q; exact next _ _ q
    | ct e1 t1 => rw [e, wS_ct] at q; exact next _ _ q
    | bk e1 t1 => rw [e, wS_bk] at q; rw [lk_bk, wS_nx]; exact q
    | rt u1 t1 => rw [e, wS_rt] at q; rw [lk_rt, wS_rt]; exact q
    | exc x1 t1 => rw [e, wS_exc] at q; rw [lk_exc, wS_exc]; exact q
    | bad => rw [e, wS_bad] at q; exact q.elim
end
@[simp] theorem wR_nox {α : Type} (r : R α) (Q : α → Store → Prop) : wR r.nox Q noX = wR r Q noX := by cases r <;> simp [R.nox, noX]
def lcP3 (J : List U → Store → Prop) (acc : List U) (x : U) (s3 : Store) : Prop := J (acc ++ [x]) s3
def lcP2 (e : EM) (J : List U → Store → Prop) (acc : List U) (e1 : EnvD) (b : Bool) (s2 : Store) : Prop := (b = true → wR (e e1 s2) (lcP3 J acc) noX) ∧ (b = false → J acc s2)
def lcP (t : TM) (e : EM) (J : List U → Store → Prop) (acc : List U) (e1 : EnvD) (s1 : Store) : Prop := wR (t e1 s1) (lcP2 e J acc e1) noX
@[simp] theorem lcP3_e (J : List U → Store → Prop) (acc : List U) (x : U) (s3 : Store) : lcP3 J acc x s3 = J (acc ++ [x]) s3 := rfl
@[simp] theorem lcP2_t (e : EM) (J : List U → Store → Prop) (acc : List U) (e1 : EnvD) (s2 : Store) : lcP2 e J acc e1 true s2 = wR (e e1 s2) (lcP3 J acc) noX := by simp [lcP2]
@[simp] theorem lcP2_f (e : EM) (J : List U → Store → Prop) (acc : List U) (e1 : EnvD) (s2 : Store) : lcP2 e J acc e1 false s2 = J acc s2 := by simp [lcP2]
theorem lcP2_of {e : EM} {J : List U → Store → Prop} {acc : List U} {e1 : EnvD} {b : Bool} {s2 : Store} (h : b = true → wR (e e1 s2) (lcP3 J acc) noX) (k : b = false → J acc s2) : lcP2 e J acc e1 b s2 := ⟨h, k⟩
@[simp] theorem lcP_e (t : TM) (e : EM) (J : List U → Store → Prop) (acc : List U) (e1 : EnvD) (s1 : Store) : lcP t e J acc e1 s1 = wR (t e1 s1) (lcP2 e J acc e1) noX := rfl
/-- a comprehension: J k holds ahead of the item k -/
theorem wR_lc {g : GM} {t : TM} {e : EM} {env : EnvD} {J : Nat → List U → Store → Prop} {X : Exc → Store → Prop} {Q : List U → Store → Prop} {us0 : List U} : ∀ (us acc : List U) (n : Nat) (st : Store), J n acc st → acc.length + us.length ≤ 100000 →
    (∀ k u, us[k]? = some u → ∀ acc s, J (n + k) acc s → wR (g u env s) (lcP t e (J (n + k + 1)) acc) noX) →
    (∀ acc s, J (n + us.length) acc s → Q acc s) →
    wR (lcLoop (none, us0) g t e env us acc st) Q X
  | [], acc, n, st, h0, _, _, hQ => by rw [lc_nil, wR_ok]; exact hQ _ _ h0
  | u :: us, acc, n, st, h0, hl, h, hQ => by
    simp only [List.length_cons] at hl
    rw [lc_cons]
    obtain ⟨e1, s1, a1, q1⟩ := wR_get (h 0 u rfl acc st h0)
    obtain ⟨b, s2, a2, q2⟩ := wR_get q1
    rw [a1]
    simp only [nox_ok', R.bind_ok, a2]
    have hh : ∀ k v, us[k]? = some v → ∀ acc s, J (n + 1 + k) acc s → wR (g v env s) (lcP t e (J (n + 1 + k + 1)) acc) noX := fun k v hv acc s hJ => by
      have := h (k + 1) v (by simpa using hv) acc s (by rw [show n + (k + 1) = n + 1 + k by omega]; exact hJ)
      rw [show n + (k + 1) + 1 = n + 1 + k + 1 by omega] at this
      exact this
    have hQ' : ∀ acc s, J (n + 1 + us.length) acc s → Q acc s := fun acc s hJ => hQ acc s (by rw [List.length_cons, show n + (us.length + 1) = n + 1 + us.length by omega]; exact hJ)
    cases b with
    | true =>
      obtain ⟨x, s3, a3, q3⟩ := wR_get (q2.1 rfl)
      rw [if_pos rfl, a3]
      simp only [nox_ok', R.bind_ok]
      rw [if_pos (by rw [sizeLine_eq]; omega)]
      exact wR_lc us (acc ++ [x]) (n + 1) s3 q3 (by simp; omega) hh hQ'
    | false =>
      rw [if_neg (by simp)]
      exact wR_lc us acc (n + 1) s2 (q2.2 rfl) (by omega) hh hQ'
noncomputable def lcRK (vs : List Nat) (g : GM) (t : TM) (e : EM) (k : List U → Store → R U) (env : EnvD) (s : Src) (st1 : Store) : R U := (lcLoop s g t e (wipeE env vs) s.2 [] st1).bind k
@[simp] theorem lcRK_e (vs : List Nat) (g : GM) (t : TM) (e : EM) (k : List U → Store → R U) (env : EnvD) (o : Option (Nat × List U)) (us : List U) (st1 : Store) : lcRK vs g t e k env (o, us) st1 = (lcLoop (o, us) g t e (wipeE env vs) us [] st1).bind k := rfl
@[simp] theorem ev_lcRun (vs : List Nat) (mi : IM) (g : GM) (t : TM) (e : EM) (k : List U → Store → R U) (env : EnvD) (st : Store) : lcRun vs mi g t e k env st = (mi env st).bind (lcRK vs g t e k env) := rfl
@[simp] theorem kFrz_map (ds : List D) (st : Store) : kFrz (ds.map U.d) st = .ok (.d (.lst ds)) st := by unfold kFrz; rw [dsOf_map]
@[simp] theorem kFrz_nil (st : Store) : kFrz [] st = .ok (.d (.lst [])) st := rfl
/-- an undecided way: first the condition -/
theorem iteRS_congr {c c' : Prop} [Decidable c] [Decidable c'] {a b : RS} (h : c = c') : (if c then a else b) = if c' then a else b := by subst h; congr
theorem iteR_congr {α : Type} {c c' : Prop} [Decidable c] [Decidable c'] {a b : R α} (h : c = c') : (if c then a else b) = if c' then a else b := by subst h; congr
theorem wR_iteOk {α : Type} {c : Prop} [Decidable c] {a b : α} {s : Store} {Q : α → Store → Prop} {X : Exc → Store → Prop} (h : ∀ x, (c → x = a) → (¬ c → x = b) → Q x s) : wR (if c then .ok a s else .ok b s) Q X := by
  by_cases z : c
  · rw [if_pos z, wR_ok]; exact h a (fun _ => rfl) (fun k => absurd z k)
  · rw [if_neg z, wR_ok]; exact h b (fun k => absurd k z) (fun _ => rfl)
/-! ### a list of the store grows -/
def appK2 (n : Nat) (u : U) (st2 : Store) : R U := match st2[n]? with
  | some (.lst us) => if us.length < sizeLine then .ok (.d .non) (st2.set n (.lst (us ++ [u]))) else .bad
  | _ => .bad
def appK (m : EM) (env : EnvD) (o : U) (st1 : Store) : R U := match o with
  | .loc n => match st1[n]? with
    | some (.lst _) => (m env st1).bind (appK2 n)
    | _ => .bad
  | _ => .bad
@[simp] theorem ev_app (mo m : EM) (env : EnvD) (st : Store) : sApp mo m env st = (mo env st).bind (appK m env) := rfl
@[simp] theorem appK_loc0 (m : EM) (env : EnvD) (us : List U) (st : Store) : appK m env (.loc 0) (.lst us :: st) = (m env (.lst us :: st)).bind (appK2 0) := rfl
@[simp] theorem appK_loc1 (m : EM) (env : EnvD) (us : List U) (a : Cell) (st : Store) : appK m env (.loc 1) (a :: .lst us :: st) = (m env (a :: .lst us :: st)).bind (appK2 1) := rfl
theorem w_app {n : Nat} {u : U} {st : Store} {us : List U} {Q : U → Store → Prop} {X : Exc → Store → Prop} (h : st[n]? = some (.lst us)) (hl : us.length ≤ 1000000) (k : Q (.d .non) (st.set n (.lst (us ++ [u])))) : wR (appK2 n u st) Q X := by
  unfold appK2
  rw [h]
  show wR (if us.length < sizeLine then R.ok (.d .non) (st.set n (.lst (us ++ [u]))) else .bad) Q X
  rw [if_pos (by rw [sizeLine_eq]; omega), wR_ok]
  exact k
@[simp] theorem tup_loc0 (us : List D) (t : Store) : fTuple [.loc 0] (.lst (us.map U.d) :: t) = .ok (U.d (.tup us)) (.lst (us.map U.d) :: t) := by
  show (match dsOf (us.map U.d) with | some ds => R.ok (U.d (.tup ds)) _ | none => .bad) = _
  rw [dsOf_map]
@[simp] theorem tup_loc1 (us : List D) (a : Cell) (t : Store) : fTuple [.loc 1] (a :: .lst (us.map U.d) :: t) = .ok (U.d (.tup us)) (a :: .lst (us.map U.d) :: t) := by
  show (match dsOf (us.map U.d) with | some ds => R.ok (U.d (.tup ds)) _ | none => .bad) = _
  rw [dsOf_map]
@[simp] theorem tup_tup (us : List D) (st : Store) : fTuple [.d (.tup us)] st = .ok (.d (.tup us)) st := rfl
@[simp] theorem tup_lst (us : List D) (st : Store) : fTuple [.d (.lst us)] st = .ok (.d (.tup us)) st := by
  show (match dsOf (us.map U.d) with | some ds => R.ok (U.d (.tup ds)) _ | none => .bad) = _
  rw [dsOf_map]
theorem tupK_ds (us : List D) (st : Store) (h : us.length ≤ 1000) : tupK (us.map U.d) st = .ok (.d (.tup us)) st := by
  unfold tupK; rw [dsOf_map]; exact if_pos h
def range1K (u : U) (st1 : Store) : R Src := match u with
  | .d (.int j) => if -(2 ^ 62) ≤ j ∧ j < 2 ^ 62 then .ok (none, rangeU 0 j.toNat) st1 else .bad
  | _ => .bad
theorem ev_range1 (m : EM) (env : EnvD) (st : Store) : iRange1 m env st = (m env st).bind range1K := rfl
theorem range1_int (j : Int) (st : Store) (h0 : -1000000 ≤ j) (h1 : j ≤ 1000000) : range1K (.d (.int j)) st = .ok (none, rangeU 0 j.toNat) st := by
  unfold range1K
  exact if_pos ⟨by omega, by omega⟩
/-! ### plain data -/
inductive Pl : Nat → D → Prop where
  | non {n} : Pl n .non
  | bl {n b} : Pl n (.bl b)
  | int {n i} : Pl n (.int i)
  | str {n x} (h : PyData.strOk x = true) : Pl n (.str x)
  | tup {n l} (hl : l.length ≤ 100000) (h : ∀ d ∈ l, Pl n d) : Pl (n + 1) (.tup l)
  | lst {n l} (hl : l.length ≤ 100000) (h : ∀ d ∈ l, Pl n d) : Pl (n + 1) (.lst l)
theorem canAll : ∀ {l : List D}, (∀ d ∈ l, (toP d).canLay0 = true) → PyData.canLayAll0 (toPs l) = true
  | [], _ => rfl
  | d :: l, h => by
    show ((toP d).canLay0 && PyData.canLayAll0 (toPs l)) = true
    rw [h d (by simp), canAll fun x hx => h x (by simp [hx])]
    rfl
theorem depAll {n : Nat} : ∀ {l : List D}, (∀ d ∈ l, (toP d).depth ≤ n) → PyData.depthAll (toPs l) ≤ n
  | [], _ => Nat.zero_le _
  | d :: l, h => by
    show max (toP d).depth (PyData.depthAll (toPs l)) ≤ n
    exact Nat.max_le.mpr ⟨h d (by simp), depAll fun x hx => h x (by simp [hx])⟩
theorem Pl.can {n : Nat} {d : D} (h : Pl n d) : (toP d).canLay0 = true := by
  induction h with
  | non => rfl
  | bl => rfl
  | int => rfl
  | str h => exact h
  | tup _ _ ih => exact canAll ih
  | lst _ _ ih => exact canAll ih
theorem Pl.dep {n : Nat} {d : D} (h : Pl n d) : (toP d).depth ≤ n + 1 := by
  induction h with
  | non => simp [toP, PyData.depth]
  | bl => simp [toP, PyData.depth]
  | int => simp [toP, PyData.depth]
  | str h => simp [toP, PyData.depth]
  | tup _ _ ih => simp only [toP, PyData.depth]; have := depAll ih; omega
  | lst _ _ ih => simp only [toP, PyData.depth]; have := depAll ih; omega
theorem Pl.okD {n : Nat} {d : D} (h : Pl n d) (hn : n ≤ 60) : Ct.okD d = true := by
  unfold Ct.okD SeqAt.shaped
  have := h.dep
  rw [h.can, decide_eq_true (by omega)]
  rfl
theorem eqvAll_refl : ∀ {l : List D}, (∀ d ∈ l, PyData.eqv (toP d) (toP d) = true) → PyData.eqvAll (toPs l) (toPs l) = true
  | [], _ => by simp [toPs, PyData.eqvAll]
  | d :: l, h => by
    simp only [toPs, PyData.eqvAll]
    rw [h d (by simp), eqvAll_refl fun x hx => h x (by simp [hx])]
    rfl
theorem Pl.refl {n : Nat} {d : D} (h : Pl n d) : eqD d d = true := by
  unfold eqD
  induction h with
  | non => simp [toP, PyData.eqv]
  | bl => simp [toP, PyData.eqv]
  | int => simp [toP, PyData.eqv]
  | str h => simp [toP, PyData.eqv]
  | tup _ _ ih => simp only [toP, PyData.eqv]; exact eqvAll_refl ih
  | lst _ _ ih => simp only [toP, PyData.eqv]; exact eqvAll_refl ih
theorem fEq_pl {x y : D} {n m : Nat} {st : Store} (hx : Pl n x) (hy : Pl m y) (hn : n ≤ 60) (hm : m ≤ 60) : fEq (.d x) (.d y) st = .ok (.d (.bl (eqD x y))) st := by
  unfold fEq
  simp only [hx.okD hn, hy.okD hm]
  rfl
theorem fNe_pl {x y : D} {n m : Nat} {st : Store} (hx : Pl n x) (hy : Pl m y) (hn : n ≤ 60) (hm : m ≤ 60) : fNe (.d x) (.d y) st = .ok (.d (.bl (!eqD x y))) st := by
  unfold fNe
  simp only [hx.okD hn, hy.okD hm]
  rfl
theorem eqD_nilT (l : List D) : eqD (.tup l) (.tup []) = l.isEmpty := by
  unfold eqD
  cases l <;> simp [toP, toPs, PyData.eqv, PyData.eqvAll]
theorem eqD_nilL (l : List D) : eqD (.lst l) (.lst []) = l.isEmpty := by
  unfold eqD
  cases l <;> simp [toP, toPs, PyData.eqv, PyData.eqvAll]
/-! ### more rules of evaluation -/
section
variable (st : Store) (neg : Bool)
@[simp] theorem fIs_non_non  : fIs neg (.d .non) (.d .non) st = .ok (.d (.bl (!neg))) st := rfl
@[simp] theorem fIs_bl_non (b : Bool) : fIs neg (.d (.bl b)) (.d .non) st = .ok (.d (.bl neg)) st := rfl
@[simp] theorem fIs_int_non (b : Int) : fIs neg (.d (.int b)) (.d .non) st = .ok (.d (.bl neg)) st := rfl
@[simp] theorem fIs_str_non (b : Str) : fIs neg (.d (.str b)) (.d .non) st = .ok (.d (.bl neg)) st := rfl
@[simp] theorem fIs_tup_non (b : List D) : fIs neg (.d (.tup b)) (.d .non) st = .ok (.d (.bl neg)) st := rfl
@[simp] theorem fIs_lst_non (b : List D) : fIs neg (.d (.lst b)) (.d .non) st = .ok (.d (.bl neg)) st := rfl
@[simp] theorem fIs_frz_non (b : List D) : fIs neg (.d (.frz b)) (.d .non) st = .ok (.d (.bl neg)) st := rfl
@[simp] theorem fIs_obj_non (c : Nat) (b : List D) : fIs neg (.d (.obj c b)) (.d .non) st = .ok (.d (.bl neg)) st := rfl
@[simp] theorem fIs_loc_non (n : Nat) : fIs neg (.loc n) (.d .non) st = .ok (.d (.bl neg)) st := rfl
@[simp] theorem fIs_bl_bl (a b : Bool) : fIs neg (.d (.bl a)) (.d (.bl b)) st = .ok (.d (.bl (if neg then !decide (a = b) else decide (a = b)))) st := rfl
@[simp] theorem fEq_non_non   : fEq (.d .non) (.d .non) st = .ok (.d (.bl true)) st := by unfold fEq eqD; simp [toP, toPs, PyData.eqv, PyData.eqvAll]
@[simp] theorem fNe_non_non   : fNe (.d .non) (.d .non) st = .ok (.d (.bl (!true))) st := by unfold fNe eqD; simp [toP, toPs, PyData.eqv, PyData.eqvAll]
@[simp] theorem fEq_non_bl  (b : Bool) : fEq (.d .non) (.d (.bl b)) st = .ok (.d (.bl false)) st := by unfold fEq eqD; simp [toP, toPs, PyData.eqv, PyData.eqvAll]
@[simp] theorem fNe_non_bl  (b : Bool) : fNe (.d .non) (.d (.bl b)) st = .ok (.d (.bl (!false))) st := by unfold fNe eqD; simp [toP, toPs, PyData.eqv, PyData.eqvAll]
@[simp] theorem fEq_non_int  (b : Int) : fEq (.d .non) (.d (.int b)) st = .ok (.d (.bl false)) st := by unfold fEq eqD; simp [toP, toPs, PyData.eqv, PyData.eqvAll]
@[simp] theorem fNe_non_int  (b : Int) : fNe (.d .non) (.d (.int b)) st = .ok (.d (.bl (!false))) st := by unfold fNe eqD; simp [toP, toPs, PyData.eqv, PyData.eqvAll]
@[simp] theorem fEq_non_tup   : fEq (.d .non) (.d (.tup [])) st = .ok (.d (.bl false)) st := by unfold fEq eqD; simp [toP, toPs, PyData.eqv, PyData.eqvAll]
@[simp] theorem fNe_non_tup   : fNe (.d .non) (.d (.tup [])) st = .ok (.d (.bl (!false))) st := by unfold fNe eqD; simp [toP, toPs, PyData.eqv, PyData.eqvAll]
@[simp] theorem fEq_non_lst   : fEq (.d .non) (.d (.lst [])) st = .ok (.d (.bl false)) st := by unfold fEq eqD; simp [toP, toPs, PyData.eqv, PyData.eqvAll]
@[simp] theorem fNe_non_lst   : fNe (.d .non) (.d (.lst [])) st = .ok (.d (.bl (!false))) st := by unfold fNe eqD; simp [toP, toPs, PyData.eqv, PyData.eqvAll]
@[simp] theorem fEq_bl_non (a : Bool)  : fEq (.d (.bl a)) (.d .non) st = .ok (.d (.bl false)) st := by unfold fEq eqD; simp [toP, toPs, PyData.eqv, PyData.eqvAll]
@[simp] theorem fNe_bl_non (a : Bool)  : fNe (.d (.bl a)) (.d .non) st = .ok (.d (.bl (!false))) st := by unfold fNe eqD; simp [toP, toPs, PyData.eqv, PyData.eqvAll]
@[simp] theorem fEq_bl_bl (a : Bool) (b : Bool) : fEq (.d (.bl a)) (.d (.bl b)) st = .ok (.d (.bl (a == b))) st := by unfold fEq eqD; simp [toP, toPs, PyData.eqv, PyData.eqvAll]
@[simp] theorem fNe_bl_bl (a : Bool) (b : Bool) : fNe (.d (.bl a)) (.d (.bl b)) st = .ok (.d (.bl (!(a == b)))) st := by unfold fNe eqD; simp [toP, toPs, PyData.eqv, PyData.eqvAll]
@[simp] theorem fEq_bl_int (a : Bool) (b : Int) : fEq (.d (.bl a)) (.d (.int b)) st = .ok (.d (.bl ((if a then (1 : Int) else 0) == b))) st := by unfold fEq eqD; simp [toP, toPs, PyData.eqv, PyData.eqvAll]
@[simp] theorem fNe_bl_int (a : Bool) (b : Int) : fNe (.d (.bl a)) (.d (.int b)) st = .ok (.d (.bl (!((if a then (1 : Int) else 0) == b)))) st := by unfold fNe eqD; simp [toP, toPs, PyData.eqv, PyData.eqvAll]
@[simp] theorem fEq_bl_tup (a : Bool)  : fEq (.d (.bl a)) (.d (.tup [])) st = .ok (.d (.bl false)) st := by unfold fEq eqD; simp [toP, toPs, PyData.eqv, PyData.eqvAll]
@[simp] theorem fNe_bl_tup (a : Bool)  : fNe (.d (.bl a)) (.d (.tup [])) st = .ok (.d (.bl (!false))) st := by unfold fNe eqD; simp [toP, toPs, PyData.eqv, PyData.eqvAll]
@[simp] theorem fEq_bl_lst (a : Bool)  : fEq (.d (.bl a)) (.d (.lst [])) st = .ok (.d (.bl false)) st := by unfold fEq eqD; simp [toP, toPs, PyData.eqv, PyData.eqvAll]
@[simp] theorem fNe_bl_lst (a : Bool)  : fNe (.d (.bl a)) (.d (.lst [])) st = .ok (.d (.bl (!false))) st := by unfold fNe eqD; simp [toP, toPs, PyData.eqv, PyData.eqvAll]
@[simp] theorem fEq_int_non (a : Int)  : fEq (.d (.int a)) (.d .non) st = .ok (.d (.bl false)) st := by unfold fEq eqD; simp [toP, toPs, PyData.eqv, PyData.eqvAll]
@[simp] theorem fNe_int_non (a : Int)  : fNe (.d (.int a)) (.d .non) st = .ok (.d (.bl (!false))) st := by unfold fNe eqD; simp [toP, toPs, PyData.eqv, PyData.eqvAll]
@[simp] theorem fEq_int_bl (a : Int) (b : Bool) : fEq (.d (.int a)) (.d (.bl b)) st = .ok (.d (.bl (a == (if b then (1 : Int) else 0)))) st := by unfold fEq eqD; simp [toP, toPs, PyData.eqv, PyData.eqvAll]
@[simp] theorem fNe_int_bl (a : Int) (b : Bool) : fNe (.d (.int a)) (.d (.bl b)) st = .ok (.d (.bl (!(a == (if b then (1 : Int) else 0))))) st := by unfold fNe eqD; simp [toP, toPs, PyData.eqv, PyData.eqvAll]
@[simp] theorem fEq_int_tup (a : Int)  : fEq (.d (.int a)) (.d (.tup [])) st = .ok (.d (.bl false)) st := by unfold fEq eqD; simp [toP, toPs, PyData.eqv, PyData.eqvAll]
@[simp] theorem fNe_int_tup (a : Int)  : fNe (.d (.int a)) (.d (.tup [])) st = .ok (.d (.bl (!false))) st := by unfold fNe eqD; simp [toP, toPs, PyData.eqv, PyData.eqvAll]
@[simp] theorem fEq_int_lst (a : Int)  : fEq (.d (.int a)) (.d (.lst [])) st = .ok (.d (.bl false)) st := by unfold fEq eqD; simp [toP, toPs, PyData.eqv, PyData.eqvAll]
@[simp] theorem fNe_int_lst (a : Int)  : fNe (.d (.int a)) (.d (.lst [])) st = .ok (.d (.bl (!false))) st := by unfold fNe eqD; simp [toP, toPs, PyData.eqv, PyData.eqvAll]
@[simp] theorem fEq_tup_non   : fEq (.d (.tup [])) (.d .non) st = .ok (.d (.bl false)) st := by unfold fEq eqD; simp [toP, toPs, PyData.eqv, PyData.eqvAll]
@[simp] theorem fNe_tup_non   : fNe (.d (.tup [])) (.d .non) st = .ok (.d (.bl (!false))) st := by unfold fNe eqD; simp [toP, toPs, PyData.eqv, PyData.eqvAll]
@[simp] theorem fEq_tup_bl  (b : Bool) : fEq (.d (.tup [])) (.d (.bl b)) st = .ok (.d (.bl false)) st := by unfold fEq eqD; simp [toP, toPs, PyData.eqv, PyData.eqvAll]
@[simp] theorem fNe_tup_bl  (b : Bool) : fNe (.d (.tup [])) (.d (.bl b)) st = .ok (.d (.bl (!false))) st := by unfold fNe eqD; simp [toP, toPs, PyData.eqv, PyData.eqvAll]
@[simp] theorem fEq_tup_int  (b : Int) : fEq (.d (.tup [])) (.d (.int b)) st = .ok (.d (.bl false)) st := by unfold fEq eqD; simp [toP, toPs, PyData.eqv, PyData.eqvAll]
@[simp] theorem fNe_tup_int  (b : Int) : fNe (.d (.tup [])) (.d (.int b)) st = .ok (.d (.bl (!false))) st := by unfold fNe eqD; simp [toP, toPs, PyData.eqv, PyData.eqvAll]
@[simp] theorem fEq_lst_non   : fEq (.d (.lst [])) (.d .non) st = .ok (.d (.bl false)) st := by unfold fEq eqD; simp [toP, toPs, PyData.eqv, PyData.eqvAll]
@[simp] theorem fNe_lst_non   : fNe (.d (.lst [])) (.d .non) st = .ok (.d (.bl (!false))) st := by unfold fNe eqD; simp [toP, toPs, PyData.eqv, PyData.eqvAll]
@[simp] theorem fEq_lst_bl  (b : Bool) : fEq (.d (.lst [])) (.d (.bl b)) st = .ok (.d (.bl false)) st := by unfold fEq eqD; simp [toP, toPs, PyData.eqv, PyData.eqvAll]
@[simp] theorem fNe_lst_bl  (b : Bool) : fNe (.d (.lst [])) (.d (.bl b)) st = .ok (.d (.bl (!false))) st := by unfold fNe eqD; simp [toP, toPs, PyData.eqv, PyData.eqvAll]
@[simp] theorem fEq_lst_int  (b : Int) : fEq (.d (.lst [])) (.d (.int b)) st = .ok (.d (.bl false)) st := by unfold fEq eqD; simp [toP, toPs, PyData.eqv, PyData.eqvAll]
@[simp] theorem fNe_lst_int  (b : Int) : fNe (.d (.lst [])) (.d (.int b)) st = .ok (.d (.bl (!false))) st := by unfold fNe eqD; simp [toP, toPs, PyData.eqv, PyData.eqvAll]
@[simp] theorem fEq_nilL : fEq (.d (.lst [])) (.d (.lst [])) st = .ok (.d (.bl true)) st := by unfold fEq eqD; simp [toP, toPs, PyData.eqv, PyData.eqvAll]
@[simp] theorem fEq_nilT : fEq (.d (.tup [])) (.d (.tup [])) st = .ok (.d (.bl true)) st := by unfold fEq eqD; simp [toP, toPs, PyData.eqv, PyData.eqvAll]
@[simp] theorem fNe_nilT : fNe (.d (.tup [])) (.d (.tup [])) st = .ok (.d (.bl false)) st := by unfold fNe eqD; simp [toP, toPs, PyData.eqv, PyData.eqvAll]
theorem fEq_tupNil {l : List D} {n : Nat} (h : Pl n (.tup l)) (hn : n ≤ 60) : fEq (.d (.tup l)) (.d (.tup [])) st = .ok (.d (.bl l.isEmpty)) st := by
  rw [fEq_pl h (.tup (n := 0) (by simp) (by simp)) hn (by decide), eqD_nilT]
theorem fNe_tupNil {l : List D} {n : Nat} (h : Pl n (.tup l)) (hn : n ≤ 60) : fNe (.d (.tup l)) (.d (.tup [])) st = .ok (.d (.bl (!l.isEmpty))) st := by
  rw [fNe_pl h (.tup (n := 0) (by simp) (by simp)) hn (by decide), eqD_nilT]
theorem fEq_lstNil {l : List D} {n : Nat} (h : Pl n (.lst l)) (hn : n ≤ 60) : fEq (.d (.lst l)) (.d (.lst [])) st = .ok (.d (.bl l.isEmpty)) st := by
  rw [fEq_pl h (.lst (n := 0) (by simp) (by simp)) hn (by decide), eqD_nilL]
@[simp] theorem frz_d (n : Nat) (s : Store) (k : Nat) (d : D) : frzU n s k (.d d) = some d := by cases k <;> rfl
theorem eqP_of {F : FM} {us : List U} {x : D} {st : Store} (h : wR (F us []) (fun u s => frzU 0 s 8 u = some x) noX) : backP (F us []) st = .ok (.d x) st := by
  obtain ⟨u, s, e, q⟩ := wR_get h
  rw [e]
  unfold backP
  simp only [q]
theorem excP_of {F : FM} {us : List U} {x : Exc} {st : Store} (h : wR (F us []) (fun _ _ => False) (fun y _ => y = x)) : backP (F us []) st = .exc x st := by
  cases e : F us [] with
  | ok a s => rw [e, wR_ok] at h; exact h.elim
  | exc y s => rw [e, wR_exc] at h; cases h; rfl
  | bad => rw [e, wR_bad] at h; exact h.elim
theorem w_callP {F : FM} {us : List U} {P : D → Prop} {st : Store} {Q : U → Store → Prop} {X : Exc → Store → Prop} (h : wR (F us []) (fun u s => ∃ d, frzU 0 s 8 u = some d ∧ P d) noX) (k : ∀ d, P d → Q (.d d) st) : wR (backP (F us []) st) Q X := by
  obtain ⟨u, s, e, d, q, hp⟩ := wR_get h
  rw [e]
  unfold backP
  simp only [q, wR_ok]
  exact k d hp
theorem enum_at {ds : List D} {i : Nat} {u : U} (e : ((enumD ds).map U.d)[i]? = some u) : ∃ d, ds[i]? = some d ∧ u = .d (.tup [.int (i : Nat), d]) := enum_get e
@[simp] theorem ix_tup0 (a : D) (r : List D) : fIx (.d (.tup (a :: r))) (.d (.int 0)) st = .ok (.d a) st := by
  rw [fIx_tup, L2.atI, L2.ixN]; simp
@[simp] theorem ix_tup1 (a b : D) (r : List D) : fIx (.d (.tup (a :: b :: r))) (.d (.int 1)) st = .ok (.d b) st := by
  rw [fIx_tup, atI_nat _ _ (by omega) (by simp; omega)]; rfl
@[simp] theorem ix_tup2 (a b c : D) (r : List D) : fIx (.d (.tup (a :: b :: c :: r))) (.d (.int 2)) st = .ok (.d c) st := by
  rw [fIx_tup, atI_nat _ _ (by omega) (by simp; omega)]; rfl
theorem ix_tupN {a : List D} {k : Nat} {x : D} {st : Store} (h : a[k]? = some x) : fIx (.d (.tup a)) (.d (.int k)) st = .ok (.d x) st := by
  have hk := (List.getElem?_eq_some_iff.mp h).1
  rw [fIx_tup, atI_nat _ _ (by omega) (by omega)]
  simp [h]
theorem ix_lstN {a : List D} {k : Nat} {x : D} {st : Store} (h : a[k]? = some x) : fIx (.d (.lst a)) (.d (.int k)) st = .ok (.d x) st := by
  have hk := (List.getElem?_eq_some_iff.mp h).1
  show (match L2.atI (a.map U.d) (k : Int) with | some x => R.ok x st | none => .bad) = _
  rw [atI_nat _ _ (by omega) (by simp; omega)]
  simp [h]
theorem range_at {n k : Nat} {u : U} (h : (rangeU 0 n)[k]? = some u) : k < n ∧ u = .d (.int k) := by
  unfold rangeU at h
  rw [List.getElem?_map] at h
  cases e : (List.range n)[k]? with
  | none => rw [e] at h; cases h
  | some v =>
    rw [e] at h
    have h1 := (List.getElem?_eq_some_iff.mp e).1
    rw [List.getElem?_range (by simpa using h1)] at e
    cases e
    simp at h h1
    exact ⟨h1, h.symm⟩
@[simp] theorem rangeU_len (lo : Int) (n : Nat) : (rangeU lo n).length = n := by simp [rangeU]
end
/-! ### generator expressions -/
def gxK {γ : Type} (N : γ → Store → Prop) (Q : U → Store → Prop) (r : Option (γ ⊕ D)) (s : Store) : Prop := match r with
  | some (.inl b') => N b' s
  | some (.inr u) => Q (.d u) s
  | none => False
@[simp] theorem gxK_l {γ : Type} (N : γ → Store → Prop) (Q : U → Store → Prop) (b : γ) (s : Store) : gxK N Q (some (.inl b)) s = N b s := rfl
@[simp] theorem gxK_r {γ : Type} (N : γ → Store → Prop) (Q : U → Store → Prop) (b : D) (s : Store) : gxK N Q (some (.inr b) : Option (γ ⊕ D)) s = Q (.d b) s := rfl
@[simp] theorem kAll_t (x : Unit) : kAll x (.d (.bl true)) = some (.inl ()) := rfl
@[simp] theorem kAll_f (x : Unit) : kAll x (.d (.bl false)) = some (.inr (.bl false)) := rfl
@[simp] theorem kAny_t (x : Unit) : kAny x (.d (.bl true)) = some (.inr (.bl true)) := rfl
@[simp] theorem kAny_f (x : Unit) : kAny x (.d (.bl false)) = some (.inl ()) := rfl
@[simp] theorem kSum_i (x j : Int) : kSum x (.d (.int j)) = some (.inl (x + j)) := rfl
@[simp] theorem fAll_e : fAll () = some (.bl true) := rfl
@[simp] theorem fAny_e : fAny () = some (.bl false) := rfl
@[simp] theorem fSumG_e (i : Int) : fSumG i = some (.int i) := rfl
theorem kTup_e {ds : List D} {x : D} (h : ds.length ≤ 1000000) : kTup ds (.d x) = some (.inl (ds ++ [x])) := if_pos (by rw [sizeLine_eq]; omega)
theorem fTup_e {ds : List D} (h : ds.length ≤ 1000000) : fTup ds = some (.tup ds) := if_pos (by rw [sizeLine_eq]; omega)
section
variable {γ : Type} (t : TM) (e : EM) (kk : γ → U → Option (γ ⊕ D)) (J : γ → Store → Prop) (Q : U → Store → Prop) (b : γ)
def gxP3 (x : U) (s3 : Store) : Prop := gxK J Q (kk b x) s3
def gxP2 (e1 : EnvD) (c : Bool) (s2 : Store) : Prop := (c = true → wR (e e1 s2) (gxP3 kk J Q b) noX) ∧ (c = false → J b s2)
def gxP (e1 : EnvD) (s1 : Store) : Prop := wR (t e1 s1) (gxP2 e kk J Q b e1) noX
@[simp] theorem gxP3_e (x : U) (s3 : Store) : gxP3 kk J Q b x s3 = gxK J Q (kk b x) s3 := rfl
@[simp] theorem gxP2_t (e1 : EnvD) (s2 : Store) : gxP2 e kk J Q b e1 true s2 = wR (e e1 s2) (gxP3 kk J Q b) noX := by simp [gxP2]
@[simp] theorem gxP2_f (e1 : EnvD) (s2 : Store) : gxP2 e kk J Q b e1 false s2 = J b s2 := by simp [gxP2]
@[simp] theorem gxP_e (e1 : EnvD) (s1 : Store) : gxP t e kk J Q b e1 s1 = wR (t e1 s1) (gxP2 e kk J Q b e1) noX := rfl
end
theorem gxP2_of {γ : Type} {e : EM} {kk : γ → U → Option (γ ⊕ D)} {J : γ → Store → Prop} {Q : U → Store → Prop} {b : γ} {e1 : EnvD} {c : Bool} {s2 : Store} (h : c = true → wR (e e1 s2) (gxP3 kk J Q b) noX) (k : c = false → J b s2) : gxP2 e kk J Q b e1 c s2 := ⟨h, k⟩
/-- J k holds ahead of the item k -/
theorem wR_gx {γ : Type} {g : GM} {t : TM} {e : EM} {env : EnvD} {kk : γ → U → Option (γ ⊕ D)} {f : γ → Option D} {J : Nat → γ → Store → Prop} {X : Exc → Store → Prop} {Q : U → Store → Prop} {us0 : List U} : ∀ (us : List U) (n : Nat) (b : γ) (st : Store), J n b st →
    (∀ k u, us[k]? = some u → ∀ b s, J (n + k) b s → wR (g u env s) (gxP t e kk (J (n + k + 1)) Q b) noX) →
    (∀ b s, J (n + us.length) b s → ∃ u, f b = some u ∧ Q (.d u) s) →
    wR (gxLoop (none, us0) g t e env kk f us b st) Q X
  | [], n, b, st, h0, _, hQ => by
    obtain ⟨u, h1, h2⟩ := hQ b st h0
    rw [gx_nil, h1]
    simp only [wR_ok]
    exact h2
  | u :: us, n, b, st, h0, h, hQ => by
    rw [gx_cons]
    obtain ⟨e1, s1, a1, q1⟩ := wR_get (h 0 u rfl b st h0)
    obtain ⟨c, s2, a2, q2⟩ := wR_get q1
    rw [a1]
    simp only [nox_ok', R.bind_ok, a2]
    have hh : ∀ k v, us[k]? = some v → ∀ b s, J (n + 1 + k) b s → wR (g v env s) (gxP t e kk (J (n + 1 + k + 1)) Q b) noX := fun k v hv b s hJ => by
      have := h (k + 1) v (by simpa using hv) b s (by rw [show n + (k + 1) = n + 1 + k by omega]; exact hJ)
      rw [show n + (k + 1) + 1 = n + 1 + k + 1 by omega] at this
      exact this
    have hQ' : ∀ b s, J (n + 1 + us.length) b s → ∃ u, f b = some u ∧ Q (.d u) s := fun b s hJ => hQ b s (by rw [List.length_cons, show n + (us.length + 1) = n + 1 + us.length by omega]; exact hJ)
    cases c with
    | true =>
      obtain ⟨x, s3, a3, q3⟩ := wR_get (q2.1 rfl)
      rw [if_pos rfl, a3]
      simp only [nox_ok', R.bind_ok]
      cases ez : kk b x with
      | none => rw [gxP3_e, ez] at q3; exact q3.elim
      | some z =>
        rw [gxP3_e, ez] at q3
        cases z with
        | inl b' => exact wR_gx us (n + 1) b' s3 q3 hh hQ'
        | inr u => simp only [wR_ok]; exact q3
    | false =>
      rw [if_neg (by simp)]
      exact wR_gx us (n + 1) b s2 (q2.2 rfl) hh hQ'
noncomputable def gxRK {γ : Type} (vs : List Nat) (g : GM) (t : TM) (e : EM) (k : γ → U → Option (γ ⊕ D)) (f : γ → Option D) (b0 : γ) (env : EnvD) (s : Src) (st1 : Store) : R U := gxLoop s g t e (wipeE env vs) k f s.2 b0 st1
@[simp] theorem gxRK_e {γ : Type} (vs : List Nat) (g : GM) (t : TM) (e : EM) (k : γ → U → Option (γ ⊕ D)) (f : γ → Option D) (b0 : γ) (env : EnvD) (o : Option (Nat × List U)) (us : List U) (st1 : Store) : gxRK vs g t e k f b0 env (o, us) st1 = gxLoop (o, us) g t e (wipeE env vs) k f us b0 st1 := rfl
@[simp] theorem ev_gxRun {γ : Type} (vs : List Nat) (mi : IM) (g : GM) (t : TM) (e : EM) (k : γ → U → Option (γ ⊕ D)) (f : γ → Option D) (b0 : γ) (env : EnvD) (st : Store) : gxRun vs mi g t e k f b0 env st = (mi env st).bind (gxRK vs g t e k f b0 env) := rfl
@[simp] theorem ev_allG (vs : List Nat) (mi : IM) (g : GM) (t : TM) (e : EM) : mAllG vs mi g t e = gxRun vs mi g t e kAll fAll () := rfl
@[simp] theorem ev_anyG (vs : List Nat) (mi : IM) (g : GM) (t : TM) (e : EM) : mAnyG vs mi g t e = gxRun vs mi g t e kAny fAny () := rfl
@[simp] theorem ev_sumG (vs : List Nat) (mi : IM) (g : GM) (t : TM) (e : EM) : mSumG vs mi g t e = gxRun vs mi g t e kSum fSumG 0 := rfl
@[simp] theorem ev_maxG (vs : List Nat) (mi : IM) (g : GM) (t : TM) (e : EM) : mMaxG vs mi g t e = gxRun vs mi g t e (kM fun j i => decide (j > i)) fM none := rfl
@[simp] theorem ev_minG (vs : List Nat) (mi : IM) (g : GM) (t : TM) (e : EM) : mMinG vs mi g t e = gxRun vs mi g t e (kM fun j i => decide (j < i)) fM none := rfl
@[simp] theorem ev_tupG (vs : List Nat) (mi : IM) (g : GM) (t : TM) (e : EM) : mTupG vs mi g t e = gxRun vs mi g t e kTup fTup [] := rfl
def enumK (u : U) (st1 : Store) : R Src := match u with
  | .d (.tup ds) => .ok (none, (enumD ds).map U.d) st1
  | .d (.lst ds) => .ok (none, (enumD ds).map U.d) st1
  | .d (.frz ds) => .ok (none, (enumD ds).map U.d) st1
  | _ => .bad
@[simp] theorem ev_enum (m : EM) (env : EnvD) (st : Store) : iEnumM m env st = (m env st).bind enumK := rfl
@[simp] theorem enumK_tup (ds : List D) (st : Store) : enumK (.d (.tup ds)) st = .ok (none, (enumD ds).map U.d) st := rfl
@[simp] theorem enumK_lst (ds : List D) (st : Store) : enumK (.d (.lst ds)) st = .ok (none, (enumD ds).map U.d) st := rfl
@[simp] theorem enumD_len (ds : List D) : (enumD ds).length = ds.length := by simp [enumD]
theorem drop_at {α : Type} {l : List α} {k : Nat} {x : α} (h : l[k]? = some x) : l.drop k = x :: l.drop (k + 1) := by
  obtain ⟨hk, e⟩ := List.getElem?_eq_some_iff.mp h
  rw [← e, List.drop_eq_getElem_cons hk]
theorem take_at {α : Type} {l : List α} {k : Nat} {x : α} (h : l[k]? = some x) : l.take (k + 1) = l.take k ++ [x] := by
  rw [List.take_succ, h]; rfl
theorem intsOf_map (xs : List Int) : intsOf ((xs.map D.int).map U.d) = some xs := by
  induction xs with
  | nil => rfl
  | cons x r ih => simp only [List.map_cons, intsOf, ih]; rfl
theorem sum_lst (xs : List Int) (st : Store) : fSum [.d (.lst (xs.map D.int))] st = .ok (.d (.int xs.sum)) st := by
  show (match intsOf ((xs.map D.int).map U.d) with | some ns => R.ok (U.d (.int ns.sum)) st | none => .bad) = _
  rw [intsOf_map]
end Ct
namespace Ct
open PySem PySem.Spec PyProof.Rows L2
def heardK (r : R U) : R U := match r with
  | .ok _ st1 => .ok (.d (.tup [])) st1
  | .exc x st1 => if x.k = 11 then .ok (.d (.tup [.str "bad", x.x, .bl true])) st1 else if x.k = 12 then .ok (.d (.tup [.str "no plan", x.x, .bl true])) st1 else .bad
  | .bad => .bad
@[simp] theorem ev_heard (m : EM) (env : EnvD) (st : Store) : mHeard m env st = heardK (m env st) := rfl
@[simp] theorem heardK_ok (u : U) (st : Store) : heardK (.ok u st) = .ok (.d (.tup [])) st := rfl
@[simp] theorem heardK_bad (x : D) (st : Store) : heardK (.exc ⟨11, x⟩ st) = .ok (.d (.tup [.str "bad", x, .bl true])) st := rfl
@[simp] theorem heardK_np (x : D) (st : Store) : heardK (.exc ⟨12, x⟩ st) = .ok (.d (.tup [.str "no plan", x, .bl true])) st := rfl
def makeK2 (c n : Nat) (F : FM) (dds : List D) (o : Option (List D)) (st1 : Store) : R U := match o with
  | some ds => if (ds ++ dds).length + 1 = n then backMk (F (.loc 0 :: (ds ++ dds).map U.d) [.ins c []]) st1 else .bad
  | none => .bad
def makeK (c n : Nat) (F : FM) (dds : List D) (us : List U) (st1 : Store) : R U := makeK2 c n F dds (dsOf us) st1
@[simp] theorem makeK_nil (c n : Nat) (F : FM) (dds : List D) (st : Store) : makeK c n F dds [] st = makeK2 c n F dds (dsOf []) st := rfl
@[simp] theorem makeK_cons (c n : Nat) (F : FM) (dds : List D) (u : U) (us : List U) (st : Store) : makeK c n F dds (u :: us) st = makeK2 c n F dds (dsOf (u :: us)) st := rfl
@[simp] theorem makeK2_e (c n : Nat) (F : FM) (dds : List D) (ds : List D) (st : Store) : makeK2 c n F dds (some ds) st = if (ds ++ dds).length + 1 = n then backMk (F (.loc 0 :: (ds ++ dds).map U.d) [.ins c []]) st else .bad := rfl
@[simp] theorem ev_make (c n : Nat) (F : FM) (ms : AM) (dds : List D) (env : EnvD) (st : Store) : mMake c n F ms dds env st = (ms env st).bind (makeK c n F dds) := rfl
mutual
def plB : D → Nat → Bool
  | .non, _ => true
  | .bl _, _ => true
  | .int _, _ => true
  | .str x, _ => PyData.strOk x
  | .tup l, n + 1 => decide (l.length ≤ 100000) && plsB l n
  | .lst l, n + 1 => decide (l.length ≤ 100000) && plsB l n
  | .tup _, 0 => false
  | .lst _, 0 => false
  | .frz _, _ => false
  | .obj _ _, _ => false
def plsB : List D → Nat → Bool
  | [], _ => true
  | d :: r, n => plB d n && plsB r n
end
mutual
theorem Pl_of : ∀ (d : D) (n : Nat), plB d n = true → Pl n d
  | .non, _, _ => .non
  | .bl _, _, _ => .bl
  | .int _, _, _ => .int
  | .str x, _, h => .str (by simpa [plB] using h)
  | .tup l, n + 1, h => by
    simp only [plB, Bool.and_eq_true, decide_eq_true_eq] at h
    exact .tup h.1 (Pls_of l n h.2)
  | .lst l, n + 1, h => by
    simp only [plB, Bool.and_eq_true, decide_eq_true_eq] at h
    exact .lst h.1 (Pls_of l n h.2)
  | .tup _, 0, h => by simp [plB] at h
  | .lst _, 0, h => by simp [plB] at h
  | .frz _, _, h => by simp [plB] at h
  | .obj _ _, _, h => by simp [plB] at h
theorem Pls_of : ∀ (l : List D) (n : Nat), plsB l n = true → ∀ d ∈ l, Pl n d
  | [], _, _ => by simp
  | d :: r, n, h => by
    simp only [plsB, Bool.and_eq_true] at h
    intro x hx
    rcases List.mem_cons.mp hx with e | hx
    · rw [e]; exact Pl_of d n h.1
    · exact Pls_of r n h.2 x hx
end
end Ct
namespace Ct
open PySem PySem.Spec PyProof.Rows L2
theorem mem_cut {α : Type} {xs : List α} {lo hi : Option Int} {d : α} (h : d ∈ cut xs lo hi) : d ∈ xs := List.mem_of_mem_drop (List.mem_of_mem_take h)
theorem len_cut {α : Type} (xs : List α) (lo hi : Option Int) : (cut xs lo hi).length ≤ xs.length := by
  unfold cut
  simp
  omega
theorem w_if {α : Type} {c : Prop} [Decidable c] {a b : R α} {Q : α → Store → Prop} {X : Exc → Store → Prop} (hc : c) (h : wR a Q X) : wR (if c then a else b) Q X := by
  rw [if_pos hc]
  exact h
theorem ix_tupI {a : List D} {i : Int} {x : D} {st : Store} (h0 : 0 ≤ i) (h : a[i.toNat]? = some x) : fIx (.d (.tup a)) (.d (.int i)) st = .ok (.d x) st := by
  have e : i = (i.toNat : Int) := by omega
  have := ix_tupN (st := st) h
  rw [← e] at this
  exact this
def revK (u : U) (st1 : Store) : R U := match u with
  | .d (.tup ds) => .ok (.d (.tup ds.reverse)) st1
  | .d (.lst ds) => .ok (.d (.lst ds.reverse)) st1
  | .d (.frz ds) => .ok (.d (.lst ds.reverse)) st1
  | .loc n => match st1[n]? with
    | some (.lst us) => match dsOf us with
      | some ds => .ok (.d (.lst ds.reverse)) st1
      | none => .bad
    | _ => .bad
  | _ => .bad
@[simp] theorem ev_rev (m : EM) (env : EnvD) (st : Store) : mRev m env st = (m env st).bind revK := rfl
@[simp] theorem revK_tup (l : List D) (st : Store) : revK (.d (.tup l)) st = .ok (.d (.tup l.reverse)) st := rfl
@[simp] theorem revK_lst (l : List D) (st : Store) : revK (.d (.lst l)) st = .ok (.d (.lst l.reverse)) st := rfl
@[simp] theorem list_tup (l : List D) (st : Store) : fList [.d (.tup l)] st = .ok (.d (.lst l)) st := rfl
end Ct
set_option Elab.async false
set_option maxRecDepth 100000
set_option maxHeartbeats 4000000
/-! Loops over a list of the store; while; methods; fields; items. -/
namespace Ct
open PySem PySem.Spec PyProof.Rows L2
section
variable {N C B : EnvD → Store → Prop} {T : U → Store → Prop} {X : Exc → Store → Prop}
theorem loop_nilG {gd : Option (Nat × List U)} {us : List U} {g : GM} {b : SM} {env : EnvD} {st : Store} (h : guarded gd us st) : loopF (gd, us) g b [] env st = .nx env st := by
  unfold loopF
  rw [if_pos h]
theorem loop_consG {gd : Option (Nat × List U)} {us : List U} {g : GM} {b : SM} {u : U} {r : List U} {env : EnvD} {st : Store} (h : guarded gd us st) : loopF (gd, us) g b (u :: r) env st = ((g u env st).andS b).lk (loopF (gd, us) g b r) := by
  rw [loopF, if_pos h]
  cases g u env st with
  | ok e1 s1 =>
    show (match b e1 s1 with | .nx e t => loopF (gd, us) g b r e t | .ct e t => loopF (gd, us) g b r e t | .bk e t => .nx e t | z => z) = (b e1 s1).lk _
    cases b e1 s1 <;> rfl
  | exc x s1 => rfl
  | bad => rfl
theorem guard_some {n : Nat} {us : List U} {st : Store} (h : st[n]? = some (.lst us)) : guarded (some (n, us)) us st := fun m u e => by cases e; exact h
theorem wS_loopG {gd : Option (Nat × List U)} {g : GM} {b : SM} {I : Nat → EnvD → Store → Prop} {us0 : List U} (hg : ∀ k e t, I k e t → guarded gd us0 t) : ∀ (us : List U) (n : Nat) (env : EnvD) (st : Store), I n env st →
    (∀ k u, us[k]? = some u → ∀ e t, I (n + k) e t → wS ((g u e t).andS b) (I (n + k + 1)) (I (n + k + 1)) N T X) →
    (∀ e t, I (n + us.length) e t → N e t) →
    wS (loopF (gd, us0) g b us env st) N C B T X
  | [], n, env, st, h0, _, hN => by rw [loop_nilG (hg _ _ _ h0), wS_nx]; exact hN _ _ h0
  | u :: us, n, env, st, h0, h, hN => by
    rw [loop_consG (hg _ _ _ h0)]
    have q := h 0 u rfl env st h0
    have next : ∀ e t, I (n + 1) e t → wS (loopF (gd, us0) g b us e t) N C B T X := fun e t h1 =>
      wS_loopG hg us (n + 1) e t h1 (fun k v hv e t hI => by
        have := h (k + 1) v (by simpa using hv) e t (by rw [show n + (k + 1) = n + 1 + k by omega]; exact hI)
        rw [show n + (k + 1) + 1 = n + 1 + k + 1 by omega] at this
        exact this) (fun e t hI => hN e t (by rw [List.length_cons, show n + (us.length + 1) = n + 1 + us.length by omega]; exact hI))
    cases e : (g u env st).andS b with
    | nx e1 t1 => rw [e, wS_nx] at q; exact next _ _ q
    | ct e1 t1 => rw [e, wS_ct] at q; exact next _ _ q
    | bk e1 t1 => rw [e, wS_bk] at q; rw [lk_bk, wS_nx]; exact q
    | rt u1 t1 => rw [e, wS_rt] at q; rw [lk_rt, wS_rt]; exact q
    | exc x1 t1 => rw [e, wS_exc] at q; rw [lk_exc, wS_exc]; exact q
    | bad => rw [e, wS_bad] at q; exact q.elim
theorem wS_forG {gd : Option (Nat × List U)} {g : GM} {b : SM} {I : Nat → EnvD → Store → Prop} {us0 us : List U} {env : EnvD} {st : Store} (hg : ∀ k e t, I k e t → guarded gd us0 t) (h0 : I 0 env st)
    (h : ∀ k u, us[k]? = some u → ∀ e t, I k e t → wS ((g u e t).andS b) (I (k + 1)) (I (k + 1)) N T X) (hN : ∀ e t, I us.length e t → N e t) : wS (loopF (gd, us0) g b us env st) N C B T X :=
  wS_loopG hg us 0 env st h0 (fun k u hu e t hI => by rw [Nat.zero_add] at hI ⊢; exact h k u hu e t hI) (fun e t hI => hN e t (by rw [Nat.zero_add] at hI; exact hI))
theorem wS_for {g : GM} {b : SM} {I : Nat → EnvD → Store → Prop} {us0 us : List U} {env : EnvD} {st : Store} (h0 : I 0 env st)
    (h : ∀ k u, us[k]? = some u → ∀ e t, I k e t → wS ((g u e t).andS b) (I (k + 1)) (I (k + 1)) N T X) (hN : ∀ e t, I us.length e t → N e t) : wS (loopF (none, us0) g b us env st) N C B T X :=
  wS_forG (fun _ _ _ _ => guard_none _ _) h0 h hN
/-! ### while: I n holds ahead of a turn, n goes down -/
def whP (body : SM) (I N : EnvD → Store → Prop) (T : U → Store → Prop) (X : Exc → Store → Prop) (e : EnvD) (c : Bool) (s : Store) : Prop := (c = true → wS (body e s) I I N T X) ∧ (c = false → N e s)
@[simp] theorem whP_t (body : SM) (I N : EnvD → Store → Prop) (T : U → Store → Prop) (X : Exc → Store → Prop) (e : EnvD) (s : Store) : whP body I N T X e true s = wS (body e s) I I N T X := by simp [whP]
@[simp] theorem whP_f (body : SM) (I N : EnvD → Store → Prop) (T : U → Store → Prop) (X : Exc → Store → Prop) (e : EnvD) (s : Store) : whP body I N T X e false s = N e s := by simp [whP]
theorem whP_of {body : SM} {I N : EnvD → Store → Prop} {T : U → Store → Prop} {X : Exc → Store → Prop} {e : EnvD} {c : Bool} {s : Store} (h : c = true → wS (body e s) I I N T X) (k : c = false → N e s) : whP body I N T X e c s := ⟨h, k⟩
def Less (I : Nat → EnvD → Store → Prop) (n : Nat) (e : EnvD) (s : Store) : Prop := ∃ n', n' < n ∧ I n' e s
theorem wS_loopW {t : TM} {body : SM} {I : Nat → EnvD → Store → Prop} (h : ∀ n e s, I n e s → wR (t e s) (whP body (Less I n) N T X e) X) : ∀ (n k : Nat) (env : EnvD) (st : Store), n < k → I n env st → wS (loopW t body k env st) N C B T X := by
  intro n
  induction n using Nat.strongRecOn with
  | ind n ih =>
    intro k env st hk hI
    cases k with
    | zero => omega
    | succ k =>
      have q := h n env st hI
      unfold loopW
      cases e : t env st with
      | ok c st1 =>
        rw [e, wR_ok] at q
        simp only [andS_ok]
        cases c with
        | true =>
          rw [if_pos rfl]
          have q1 := q.1 rfl
          cases e2 : body env st1 with
          | nx e3 s3 => rw [e2, wS_nx] at q1; obtain ⟨n', h1, h2⟩ := q1; exact ih n' h1 k e3 s3 (by omega) h2
          | ct e3 s3 => rw [e2, wS_ct] at q1; obtain ⟨n', h1, h2⟩ := q1; exact ih n' h1 k e3 s3 (by omega) h2
          | bk e3 s3 => rw [e2, wS_bk] at q1; simp only [wS_nx]; exact q1
          | rt e3 s3 => rw [e2, wS_rt] at q1; simp only [wS_rt]; exact q1
          | exc e3 s3 => rw [e2, wS_exc] at q1; simp only [wS_exc]; exact q1
          | bad => rw [e2, wS_bad] at q1; exact q1.elim
        | false =>
          rw [if_neg (by simp), wS_nx]
          exact q.2 rfl
      | exc x st1 => rw [e, wR_exc] at q; simp only [andS_exc, wS_exc]; exact q
      | bad => rw [e, wR_bad] at q; exact q.elim
theorem wS_while {t : TM} {body : SM} {I : Nat → EnvD → Store → Prop} {env : EnvD} {st : Store} (n : Nat) (hn : n ≤ 1000000000) (h0 : I n env st) (h : ∀ n e s, I n e s → wR (t e s) (whP body (Less I n) N T X e) X) : wS (sWhile t body env st) N C B T X :=
  wS_loopW h n FUEL env st (Nat.lt_of_le_of_lt hn (by unfold FUEL; decide +kernel)) h0
end
section
variable (env : EnvD) (st : Store)
/-! ### comprehensions from their start -/
end
theorem wR_lc0 {g : GM} {t : TM} {e : EM} {env : EnvD} {J : Nat → List U → Store → Prop} {X : Exc → Store → Prop} {Q : List U → Store → Prop} {us0 us : List U} {st : Store} (h0 : J 0 [] st) (hl : us.length ≤ 100000)
    (h : ∀ k u, us[k]? = some u → ∀ acc s, J k acc s → wR (g u env s) (lcP t e (J (k + 1)) acc) noX) (hQ : ∀ acc s, J us.length acc s → Q acc s) : wR (lcLoop (none, us0) g t e env us [] st) Q X :=
  wR_lc us [] 0 st h0 (by simpa using hl) (fun k u hu acc s hJ => by rw [Nat.zero_add] at hJ ⊢; exact h k u hu acc s hJ) (fun acc s hJ => hQ acc s (by rw [Nat.zero_add] at hJ; exact hJ))
theorem wR_gx0 {γ : Type} {g : GM} {t : TM} {e : EM} {env : EnvD} {kk : γ → U → Option (γ ⊕ D)} {f : γ → Option D} {J : Nat → γ → Store → Prop} {X : Exc → Store → Prop} {Q : U → Store → Prop} {us0 us : List U} {b0 : γ} {st : Store} (h0 : J 0 b0 st)
    (h : ∀ k u, us[k]? = some u → ∀ b s, J k b s → wR (g u env s) (gxP t e kk (J (k + 1)) Q b) noX) (hQ : ∀ b s, J us.length b s → ∃ u, f b = some u ∧ Q (.d u) s) : wR (gxLoop (none, us0) g t e env kk f us b0 st) Q X :=
  wR_gx us 0 b0 st h0 (fun k u hu b s hJ => by rw [Nat.zero_add] at hJ ⊢; exact h k u hu b s hJ) (fun b s hJ => hQ b s (by rw [Nat.zero_add] at hJ; exact hJ))
section
variable (env : EnvD) (st : Store)
/-! ### methods -/
def methWK2 (n : Nat) (F : FM) (o : U) (us : List U) (st2 : Store) : R U := if us.length + 1 = n then F (o :: us) st2 else .bad
def methWK (c : Nat) (mn : Str) (n : Nat) (F : FM) (ms : AM) (env : EnvD) (o : U) (st1 : Store) : R U := if recv c mn o st1 = true then (ms env st1).bind (methWK2 n F o) else .bad
@[simp] theorem ev_methW (c : Nat) (mn : Str) (n : Nat) (F : FM) (mo : EM) (ms : AM) : mMethW c mn n F mo ms env st = (mo env st).bind (methWK c mn n F ms env) := rfl
theorem methWK_of {c : Nat} {mn : Str} {n : Nat} {F : FM} {ms : AM} {o : U} (h : recv c mn o st = true) : methWK c mn n F ms env o st = (ms env st).bind (methWK2 n F o) := if_pos h
@[simp] theorem methWK2_nil (n : Nat) (F : FM) (o : U) : methWK2 n F o [] st = if 1 = n then F [o] st else .bad := rfl
@[simp] theorem methWK2_cons (n : Nat) (F : FM) (o u : U) (us : List U) : methWK2 n F o (u :: us) st = if us.length + 2 = n then F (o :: u :: us) st else .bad := rfl
def methPK2 (n : Nat) (F : FM) (o : Option (List D)) (st2 : Store) : R U := match o with
  | some ds => if ds.length = n then backP (F (ds.map U.d) []) st2 else .bad
  | none => .bad
def methPK1 (n : Nat) (F : FM) (o : U) (us : List U) (st2 : Store) : R U := methPK2 n F (dsOf (o :: us)) st2
def methPK (c : Nat) (mn : Str) (n : Nat) (F : FM) (ms : AM) (env : EnvD) (o : U) (st1 : Store) : R U := if recv c mn o st1 = true then (ms env st1).bind (methPK1 n F o) else .bad
@[simp] theorem methPK2_e (n : Nat) (F : FM) (ds : List D) : methPK2 n F (some ds) st = if ds.length = n then backP (F (ds.map U.d) []) st else .bad := rfl
@[simp] theorem methPK1_nil (n : Nat) (F : FM) (o : U) : methPK1 n F o [] st = methPK2 n F (dsOf [o]) st := rfl
@[simp] theorem methPK1_cons (n : Nat) (F : FM) (o u : U) (us : List U) : methPK1 n F o (u :: us) st = methPK2 n F (dsOf (o :: u :: us)) st := rfl
@[simp] theorem ev_methP (c : Nat) (mn : Str) (n : Nat) (F : FM) (mo : EM) (ms : AM) : mMethP c mn n F mo ms env st = (mo env st).bind (methPK c mn n F ms env) := rfl
theorem methPK_of {c : Nat} {mn : Str} {n : Nat} {F : FM} {ms : AM} {o : U} (h : recv c mn o st = true) : methPK c mn n F ms env o st = (ms env st).bind (methPK1 n F o) := if_pos h
/-! ### fields -/
def fldMK2 (c : Nat) (f : Str) (env : EnvD) (u o : U) (st2 : Store) : RS := match o with
  | .loc n => match st2[n]? with
    | some (.ins c' fs) => if c' = c ∧ fs.length ≤ 100 then .nx env (st2.set n (.ins c (putU f u fs))) else .bad
    | _ => .bad
  | _ => .bad
def fldMK (c : Nat) (f : Str) (mo : EM) (env : EnvD) (u : U) (st1 : Store) : RS := (mo env st1).andS (fldMK2 c f env u)
@[simp] theorem ev_fldM (c : Nat) (f : Str) (mo m : EM) : sFldM c f mo m env st = (m env st).andS (fldMK c f mo env) := rfl
@[simp] theorem fldMK_e (c : Nat) (f : Str) (mo : EM) (u : U) : fldMK c f mo env u st = (mo env st).andS (fldMK2 c f env u) := rfl
theorem fldMK2_0 {c : Nat} {f : Str} {u : U} {fs : List (Str × U)} {t : Store} (h : fs.length ≤ 100) : fldMK2 c f env u (.loc 0) (.ins c fs :: t) = .nx env (.ins c (putU f u fs) :: t) := by
  show (if c = c ∧ fs.length ≤ 100 then RS.nx env (.ins c (putU f u fs) :: t) else .bad) = _
  rw [if_pos ⟨rfl, h⟩]
end
/-! ### items -/
def itemK2 (u : U) (env : EnvD) (o i : U) (st2 : Store) : R EnvD := match o, i with
  | .loc n, .d (.int k) => match st2[n]? with
    | some (.lst us) => match ixN us.length k with
      | some j => .ok env (st2.set n (.lst (us.set j u)))
      | none => .bad
    | _ => .bad
  | _, _ => .bad
def itemK (mi : EM) (u : U) (env : EnvD) (o : U) (st1 : Store) : R EnvD := (mi env st1).bind (itemK2 u env o)
theorem ev_item (mo mi : EM) (u : U) (env : EnvD) (st : Store) : gItem mo mi u env st = (mo env st).bind (itemK mi u env) := rfl
@[simp] theorem itemK_e (mi : EM) (u : U) (env : EnvD) (o : U) (st1 : Store) : itemK mi u env o st1 = (mi env st1).bind (itemK2 u env o) := rfl
theorem item_at {u : U} {env : EnvD} {n : Nat} {k : Int} {st : Store} {us : List U} (h : st[n]? = some (.lst us)) (h0 : 0 ≤ k) (h1 : k < us.length) : itemK2 u env (.loc n) (.d (.int k)) st = .ok env (st.set n (.lst (us.set k.toNat u))) := by
  unfold itemK2
  simp only [h]
  unfold L2.ixN
  rw [if_pos h0, if_pos h1]
theorem ix_loc {n : Nat} {st : Store} {us : List U} {i : Int} {u : U} (h : st[n]? = some (.lst us)) (h0 : 0 ≤ i) (hu : us[i.toNat]? = some u) : fIx (.loc n) (.d (.int i)) st = .ok u st := by
  have hk := (List.getElem?_eq_some_iff.mp hu).1
  have hl : lstOf (.loc n) st = some us := by unfold lstOf; simp only [h]
  show (match lstOf (.loc n) st with | some us => (match L2.atI us i with | some x => R.ok x st | none => .bad) | none => .bad) = _
  rw [hl]
  simp only
  rw [atI_nat _ _ h0 (by omega), hu]
theorem seqK_loc {n : Nat} {st : Store} {us : List U} (h : st[n]? = some (.lst us)) : seqK (.loc n) st = .ok (some (n, us), us) st := by
  unfold seqK
  simp only [h]
@[simp] theorem kCell_e (us : List U) (st : Store) : kCell us st = .ok (.loc st.length) (st ++ [.lst us]) := rfl
theorem mulC_e {a : D} {k : Int} {st : Store} (h0 : 0 ≤ k) (h1 : k ≤ 1000) : fMulC (.d (.lst [a])) (.d (.int k)) st = .ok (.loc st.length) (st ++ [.lst ((List.replicate k.toNat a).map U.d)]) := by
  show (if k ≤ 1000 ∧ -1000 ≤ k ∧ [a].length ≤ 1000 then R.ok (U.loc st.length) (st ++ [.lst ((List.replicate k.toNat [a]).flatten.map U.d)]) else .bad) = _
  rw [if_pos ⟨h1, by omega, by simp⟩]
  congr 6
  induction k.toNat with
  | zero => rfl
  | succ n ih => rw [List.replicate_succ, List.replicate_succ, List.flatten_cons, ih]; rfl
/-! ### lists by functions -/
def tab {α : Type} (m : Int) (f : Int → α) : List α := (List.range m.toNat).map fun i => f (i : Nat)
@[simp] theorem tab_len {α : Type} (m : Int) (f : Int → α) : (tab m f).length = m.toNat := by simp [tab]
theorem tab_at {α : Type} {m : Int} (f : Int → α) {i : Int} (h0 : 0 ≤ i) (h1 : i < m) : (tab m f)[i.toNat]? = some (f i) := by
  unfold tab
  rw [List.getElem?_map, List.getElem?_range (by omega)]
  simp only [Option.map_some]
  rw [show ((i.toNat : Nat) : Int) = i by omega]
theorem tab_map {α β : Type} (m : Int) (f : Int → α) (g : α → β) : (tab m f).map g = tab m (fun i => g (f i)) := by
  unfold tab
  rw [List.map_map]; rfl
theorem tab_set {α : Type} {m : Int} (f : Int → α) {i : Int} (x : α) (h0 : 0 ≤ i) (h1 : i < m) : (tab m f).set i.toNat x = tab m (fun j => if j = i then x else f j) := by
  apply List.ext_getElem?
  intro n
  by_cases hn : n < m.toNat
  · by_cases e : i.toNat = n
    · subst e
      rw [List.getElem?_set_self (by simpa using hn), tab_at (i := i) _ h0 h1, if_pos rfl]
    · rw [List.getElem?_set_ne e]
      have hn0 : (0 : Int) ≤ (n : Nat) := by omega
      have hn1 : ((n : Nat) : Int) < m := by omega
      have a := tab_at f hn0 hn1
      have b := tab_at (fun j => if j = i then x else f j) hn0 hn1
      rw [Int.toNat_natCast] at a b
      rw [a, b, if_neg (by omega)]
  · rw [List.getElem?_eq_none (by simpa using hn), List.getElem?_eq_none (by simpa using hn)]
theorem tab_mem {α : Type} {m : Int} {f : Int → α} {x : α} (h : x ∈ tab m f) : ∃ i, 0 ≤ i ∧ i < m ∧ x = f i := by
  unfold tab at h
  obtain ⟨n, hn, rfl⟩ := List.mem_map.mp h
  have := List.mem_range.mp hn
  exact ⟨n, by omega, by omega, rfl⟩
def optD : Option Int → D
  | some i => .int i
  | none => .non
@[simp] theorem optD_some (i : Int) : optD (some i) = .int i := rfl
@[simp] theorem optD_none : optD none = .non := rfl
theorem truthK_at {n : Nat} {st : Store} {us : List U} (h : st[n]? = some (.lst us)) : truthK (.loc n) st = .ok (!us.isEmpty) st := by
  unfold truthK truth
  simp only [h]
theorem app_at {n : Nat} {m : EM} {env : EnvD} {st : Store} {us : List U} (h : st[n]? = some (.lst us)) : appK m env (.loc n) st = (m env st).bind (appK2 n) := by
  unfold appK
  simp only [h]
theorem tup_at {n : Nat} {st : Store} {ds : List D} (h : st[n]? = some (.lst (ds.map U.d))) : fTuple [.loc n] st = .ok (.d (.tup ds)) st := by
  have hl : lstOf (.loc n) st = some (ds.map U.d) := by unfold lstOf; simp only [h]
  show (match lstOf (.loc n) st with | some us => (match dsOf us with | some ds => R.ok (U.d (.tup ds)) st | none => .bad) | none => .bad) = _
  rw [hl]
  simp only [dsOf_map]
theorem rev_at {n : Nat} {st : Store} {ds : List D} (h : st[n]? = some (.lst (ds.map U.d))) : revK (.loc n) st = .ok (.d (.lst ds.reverse)) st := by
  unfold revK
  simp only [h, dsOf_map]
theorem rep_one {α : Type} (x : α) : ∀ n, (List.replicate n [x]).flatten = List.replicate n x
  | 0 => rfl
  | n + 1 => by rw [List.replicate_succ, List.replicate_succ, List.flatten_cons, rep_one x n]; rfl
@[simp] theorem fNe_nilL (st : Store) : fNe (.d (.lst [])) (.d (.lst [])) st = .ok (.d (.bl false)) st := by unfold fNe eqD; simp [toP, toPs, PyData.eqv, PyData.eqvAll]
def nilS (st0 : Store) (k : Nat) (acc : List U) (st : Store) : Prop := acc = [] ∧ st = st0
end Ct
set_option Elab.async false
set_option maxRecDepth 100000
set_option maxHeartbeats 4000000
/-! Shortest ways by rounds, in plain Lean: what holds when a round changes nothing, and which ring is found when the last one does. -/
namespace BF
abbrev Tg := Int × Bool
structure Arc where
  u : Int
  v : Int
  r : Int
  t : Tg
structure St where
  most : Int → Option Int
  came : Int → Option (Int × Tg)
  found : Option Int
def upF {α : Type} (f : Int → α) (i : Int) (x : α) : Int → α := fun j => if j = i then x else f j
theorem upF_same {α : Type} (f : Int → α) (i : Int) (x : α) : upF f i x i = x := if_pos rfl
theorem upF_ne {α : Type} (f : Int → α) {i j : Int} (x : α) (h : j ≠ i) : upF f i x j = f j := if_neg h
def upd (s : St) (a : Arc) (m : Int) : St := ⟨upF s.most a.v (some (m + a.r)), upF s.came a.v (some (a.u, a.t)), some a.v⟩
def relax (s : St) (a : Arc) : St := match s.most a.u with
  | none => s
  | some m => match s.most a.v with
    | none => upd s a m
    | some w => if m + a.r < w then upd s a m else s
theorem relax_0 {s : St} {a : Arc} (h : s.most a.u = none) : relax s a = s := by unfold relax; rw [h]
theorem relax_1 {s : St} {a : Arc} {m : Int} (h : s.most a.u = some m) (hw : ∀ w, s.most a.v = some w → m + a.r < w) : relax s a = upd s a m := by
  unfold relax
  simp only [h]
  cases e : s.most a.v with
  | none => rfl
  | some w => exact if_pos (hw w e)
theorem relax_2 {s : St} {a : Arc} {m w : Int} (h : s.most a.u = some m) (hw : s.most a.v = some w) (hn : ¬ m + a.r < w) : relax s a = s := by
  unfold relax
  simp only [h, hw]
  exact if_neg hn
def pass (arcs : List Arc) (s : St) : St := arcs.foldl relax { s with found := none }
def init (b : Option Int) (v : Int) : Option Int := if b = none ∨ b = some v then some 0 else none
def start (b : Option Int) : St := ⟨init b, fun _ => none, none⟩
def run (arcs : List Arc) : Nat → St → St
  | 0, s => s
  | n + 1, s => if (pass arcs s).found = none then pass arcs s else run arcs n (pass arcs s)
structure Inv (arcs : List Arc) (b : Option Int) (k j : Nat) (s : St) (T tm : Int → Nat) (clk : Nat) : Prop where
  st0 : ∀ v, T v = 0 → s.came v = none ∧ s.most v = init b v
  pos : ∀ v, T v ≠ 0 → ∃ a ∈ arcs, a.v = v ∧ s.came v = some (a.u, a.t) ∧ T v ≤ T a.u + 1 ∧ ∃ mu mv, s.most a.u = some mu ∧ s.most v = some mv ∧ (mv = mu + a.r ∧ tm a.u < tm v ∨ mu + a.r < mv)
  tmc : ∀ v, tm v ≤ clk
  le : ∀ v, T v ≤ k
  fnd : s.found = none → ∀ v, T v + 1 ≤ k
  fnd2 : ∀ x, s.found = some x → T x = k
  arc : ∀ i a, arcs[i]? = some a → (∀ mu, s.most a.u = some mu → ∃ mv, s.most a.v = some mv ∧ mv ≤ mu + a.r) ∨ k ≤ T a.u + (if i < j then 0 else 1)
  up : b = none → ∀ v, ∃ mv, s.most v = some mv ∧ mv ≤ 0
theorem Inv.upd {arcs : List Arc} {b : Option Int} {k j : Nat} {s : St} {T tm : Int → Nat} {clk : Nat} (h : Inv arcs b k j s T tm clk) {a : Arc} (ha : arcs[j]? = some a) (hne : a.u ≠ a.v) (hk : 1 ≤ k) {m : Int} (hm : s.most a.u = some m) (hw : ∀ w, s.most a.v = some w → m + a.r < w) :
    Inv arcs b k (j + 1) (BF.upd s a m) (upF T a.v k) (upF tm a.v (clk + 1)) (clk + 1) := by
  have hT : k ≤ T a.u + 1 := by
    rcases h.arc j a ha with q | q
    · obtain ⟨mv, h1, h2⟩ := q m hm
      have := hw mv h1
      omega
    · simpa using q
  have hTle : ∀ v, T v ≤ upF T a.v k v := fun v => by
    by_cases e : v = a.v
    · rw [e, upF_same]; exact h.le _
    · rw [upF_ne _ _ e]; exact Nat.le_refl _
  refine ⟨fun v hv => ?_, fun v hv => ?_, fun v => ?_, fun v => ?_, fun hf => ?_, fun x hx => ?_, fun i a' hi => ?_, fun hb v => ?_⟩
  · by_cases e : v = a.v
    · rw [e, upF_same] at hv; omega
    · rw [upF_ne _ _ e] at hv
      obtain ⟨h1, h2⟩ := h.st0 v hv
      exact ⟨by show upF s.came a.v _ v = none; rw [upF_ne _ _ e]; exact h1, by show upF s.most a.v _ v = _; rw [upF_ne _ _ e]; exact h2⟩
  · by_cases e : v = a.v
    · subst e
      refine ⟨a, List.mem_of_getElem? ha, rfl, upF_same _ _ _, ?_, m, m + a.r, ?_, upF_same _ _ _, .inl ⟨rfl, ?_⟩⟩
      · rw [upF_same, upF_ne _ _ hne]; exact hT
      · show upF s.most a.v _ a.u = _
        rw [upF_ne _ _ hne]; exact hm
      · rw [upF_same, upF_ne _ _ hne]
        have := h.tmc a.u
        omega
    · rw [upF_ne _ _ e] at hv ⊢
      obtain ⟨a0, m0, e0, c0, t0, mu, mv, h1, h2, h3⟩ := h.pos v hv
      have cv : (BF.upd s a m).came v = some (a0.u, a0.t) := by
        show upF s.came a.v _ v = _
        rw [upF_ne _ _ e]; exact c0
      have mvv : (BF.upd s a m).most v = some mv := by
        show upF s.most a.v _ v = _
        rw [upF_ne _ _ e]; exact h2
      by_cases q : a0.u = a.v
      · have hlt := hw mu (by rw [← q]; exact h1)
        refine ⟨a0, m0, e0, cv, Nat.le_trans t0 (Nat.add_le_add_right (hTle _) 1), m + a.r, mv, by rw [q]; exact upF_same _ _ _, mvv, .inr ?_⟩
        rcases h3 with h3 | h3 <;> omega
      · refine ⟨a0, m0, e0, cv, Nat.le_trans t0 (Nat.add_le_add_right (hTle _) 1), mu, mv, ?_, mvv, ?_⟩
        · show upF s.most a.v _ a0.u = _
          rw [upF_ne _ _ q]; exact h1
        · rw [upF_ne _ _ q, upF_ne _ _ e]; exact h3
  · by_cases e : v = a.v
    · rw [e, upF_same]; exact Nat.le_refl _
    · rw [upF_ne _ _ e]; exact Nat.le_succ_of_le (h.tmc v)
  · by_cases e : v = a.v
    · rw [e, upF_same]; exact Nat.le_refl _
    · rw [upF_ne _ _ e]; exact h.le v
  · cases hf
  · cases hx
    exact upF_same _ _ _
  · by_cases e : a'.u = a.v
    · right
      rw [e, upF_same]; omega
    · have mu' : ∀ mu, (BF.upd s a m).most a'.u = some mu → s.most a'.u = some mu := fun mu hmu => by
        have : upF s.most a.v (some (m + a.r)) a'.u = some mu := hmu
        rw [upF_ne _ _ e] at this; exact this
      by_cases hij : i = j
      · subst hij
        rw [ha] at hi; cases hi
        left
        intro mu hmu
        have := mu' mu hmu
        rw [hm] at this; cases this
        exact ⟨m + a.r, upF_same _ _ _, Int.le_refl _⟩
      · rcases h.arc i a' hi with q | q
        · left
          intro mu hmu
          obtain ⟨mv, h1, h2⟩ := q mu (mu' mu hmu)
          by_cases e2 : a'.v = a.v
          · have := hw mv (by rw [← e2]; exact h1)
            exact ⟨m + a.r, by rw [e2]; exact upF_same _ _ _, by omega⟩
          · exact ⟨mv, by show upF s.most a.v _ a'.v = _; rw [upF_ne _ _ e2]; exact h1, h2⟩
        · right
          have e1 : (if i < j + 1 then 0 else 1) = (if i < j then 0 else 1 : Nat) := by
            split <;> split <;> omega
          rw [e1]
          exact Nat.le_trans q (Nat.add_le_add_right (hTle _) _)
  · obtain ⟨mv, h1, h2⟩ := h.up hb v
    by_cases e : v = a.v
    · obtain ⟨mw, h3, h4⟩ := h.up hb a.v
      have := hw mw h3
      exact ⟨m + a.r, by rw [e]; exact upF_same _ _ _, by omega⟩
    · exact ⟨mv, by show upF s.most a.v _ v = _; rw [upF_ne _ _ e]; exact h1, h2⟩
theorem Inv.same {arcs : List Arc} {b : Option Int} {k j : Nat} {s : St} {T tm : Int → Nat} {clk : Nat} (h : Inv arcs b k j s T tm clk) {a : Arc} (ha : arcs[j]? = some a)
    (hw : ∀ mu, s.most a.u = some mu → ∃ mv, s.most a.v = some mv ∧ mv ≤ mu + a.r) : Inv arcs b k (j + 1) s T tm clk := by
  refine ⟨h.st0, h.pos, h.tmc, h.le, h.fnd, h.fnd2, fun i a' hi => ?_, h.up⟩
  by_cases hij : i = j
  · subst hij
    rw [ha] at hi; cases hi
    exact .inl hw
  · rcases h.arc i a' hi with q | q
    · exact .inl q
    · right
      have e1 : (if i < j + 1 then 0 else 1) = (if i < j then 0 else 1 : Nat) := by
        split <;> split <;> omega
      rw [e1]; exact q
theorem Inv.relax {arcs : List Arc} {b : Option Int} {k j : Nat} {s : St} {T tm : Int → Nat} {clk : Nat} (h : Inv arcs b k j s T tm clk) {a : Arc} (ha : arcs[j]? = some a) (hne : a.u ≠ a.v) (hk : 1 ≤ k) :
    ∃ T' tm' clk', Inv arcs b k (j + 1) (BF.relax s a) T' tm' clk' := by
  unfold BF.relax
  cases hm : s.most a.u with
  | none => exact ⟨T, tm, clk, h.same ha (fun mu e => by rw [hm] at e; cases e)⟩
  | some m =>
    simp only
    cases hw : s.most a.v with
    | none => exact ⟨_, _, _, h.upd ha hne hk hm (fun w e => by rw [hw] at e; cases e)⟩
    | some w =>
      simp only
      by_cases q : m + a.r < w
      · rw [if_pos q]
        exact ⟨_, _, _, h.upd ha hne hk hm (fun w' e => by rw [hw] at e; cases e; exact q)⟩
      · rw [if_neg q]
        exact ⟨T, tm, clk, h.same ha (fun mu e => by rw [hm] at e; cases e; exact ⟨w, hw, by omega⟩)⟩
theorem Inv.fold {arcs : List Arc} {b : Option Int} {k : Nat} (hk : 1 ≤ k) (hne : ∀ a ∈ arcs, a.u ≠ a.v) : ∀ (rest : List Arc) (j : Nat) (s : St) (T tm : Int → Nat) (clk : Nat), arcs.drop j = rest → Inv arcs b k j s T tm clk →
    ∃ T' tm' clk', Inv arcs b k (j + rest.length) (rest.foldl BF.relax s) T' tm' clk'
  | [], j, s, T, tm, clk, _, h => ⟨T, tm, clk, h⟩
  | a :: r, j, s, T, tm, clk, e, h => by
    have ha : arcs[j]? = some a := by
      have : (arcs.drop j)[0]? = some a := by rw [e]; rfl
      simpa using this
    obtain ⟨T', tm', clk', h'⟩ := h.relax ha (hne a (List.mem_of_getElem? ha)) hk
    have e2 : arcs.drop (j + 1) = r := by
      rw [← List.drop_drop, e]; rfl
    obtain ⟨T2, tm2, clk2, h2⟩ := Inv.fold hk hne r (j + 1) _ T' tm' clk' e2 h'
    refine ⟨T2, tm2, clk2, ?_⟩
    rw [List.length_cons, show j + (r.length + 1) = j + 1 + r.length by omega]
    exact h2
/-- between two rounds -/
def Bet (arcs : List Arc) (b : Option Int) (k : Nat) (s : St) : Prop := ∃ T tm clk, Inv arcs b (k + 1) 0 { s with found := none } T tm clk
theorem Bet.start (arcs : List Arc) (b : Option Int) : Bet arcs b 0 (BF.start b) := by
  refine ⟨fun _ => 0, fun _ => 0, 0, fun _ _ => ⟨rfl, rfl⟩, fun _ h => absurd rfl h, fun _ => Nat.le_refl _, fun _ => by omega, fun _ _ => by omega, fun _ h => (by cases h), fun i a hi => .inr (by simp), fun hb v => ⟨0, ?_, Int.le_refl _⟩⟩
  show BF.init b v = some 0
  unfold BF.init
  rw [if_pos (.inl hb)]
theorem Bet.pass {arcs : List Arc} {b : Option Int} {k : Nat} {s : St} (hne : ∀ a ∈ arcs, a.u ≠ a.v) (h : Bet arcs b k s) : ∃ T tm clk, Inv arcs b (k + 1) arcs.length (BF.pass arcs s) T tm clk := by
  obtain ⟨T, tm, clk, h0⟩ := h
  obtain ⟨T', tm', clk', h'⟩ := Inv.fold (by omega) hne arcs 0 _ T tm clk rfl h0
  rw [Nat.zero_add] at h'
  exact ⟨T', tm', clk', h'⟩
theorem Inv.bet {arcs : List Arc} {b : Option Int} {k : Nat} {s : St} {T tm : Int → Nat} {clk : Nat} (h : Inv arcs b k arcs.length s T tm clk) : Bet arcs b k s := by
  refine ⟨T, tm, clk, h.st0, h.pos, h.tmc, fun v => Nat.le_succ_of_le (h.le v), fun _ v => Nat.succ_le_succ (h.le v), fun x hx => (by cases hx), fun i a hi => ?_, h.up⟩
  rcases h.arc i a hi with q | q
  · exact .inl q
  · right
    have hi' := (List.getElem?_eq_some_iff.mp hi).1
    rw [if_pos hi'] at q
    rw [if_neg (by omega)]
    omega
/-- nothing can be made less -/
def Fix (arcs : List Arc) (s : St) : Prop := ∀ a ∈ arcs, ∀ mu, s.most a.u = some mu → ∃ mv, s.most a.v = some mv ∧ mv ≤ mu + a.r
/-- how the came pointers stand when nothing can be made less: each stands for the very value, and they go back in time -/
structure Tree (arcs : List Arc) (b : Option Int) (s : St) (tm : Int → Nat) : Prop where
  root : ∀ v, s.came v = none → s.most v = init b v
  step : ∀ v u t, s.came v = some (u, t) → ∃ a ∈ arcs, a.u = u ∧ a.v = v ∧ a.t = t ∧ tm u < tm v ∧ ∃ mu, s.most u = some mu ∧ s.most v = some (mu + a.r)
  up : b = none → ∀ v, ∃ mv, s.most v = some mv ∧ mv ≤ 0
theorem Inv.done {arcs : List Arc} {b : Option Int} {k : Nat} {s : St} {T tm : Int → Nat} {clk : Nat} (h : Inv arcs b k arcs.length s T tm clk) (hf : s.found = none) : Fix arcs s ∧ Tree arcs b s tm := by
  have fx : Fix arcs s := fun a ha => by
    obtain ⟨i, hi⟩ := List.getElem?_of_mem ha
    rcases h.arc i a hi with q | q
    · exact q
    · have hi' := (List.getElem?_eq_some_iff.mp hi).1
      rw [if_pos hi'] at q
      have := h.fnd hf a.u
      omega
  refine ⟨fx, fun v hv => ?_, fun v u t hv => ?_, h.up⟩
  · by_cases e : T v = 0
    · exact (h.st0 v e).2
    · obtain ⟨a, _, _, c, _⟩ := h.pos v e
      rw [hv] at c; cases c
  · by_cases e : T v = 0
    · rw [(h.st0 v e).1] at hv; cases hv
    · obtain ⟨a, ma, ea, c, _, mu, mv, h1, h2, h3⟩ := h.pos v e
      rw [hv] at c; cases c
      obtain ⟨mv', h4, h5⟩ := fx a ma mu h1
      rw [ea, h2] at h4; cases h4
      refine ⟨a, ma, rfl, ea, rfl, ?_, mu, h1, ?_⟩
      · rcases h3 with ⟨_, h3⟩ | h3
        · exact h3
        · omega
      · rw [h2]
        congr 1
        rcases h3 with ⟨h3, _⟩ | h3 <;> omega
/-- how the rounds end -/
inductive End (arcs : List Arc) (b : Option Int) (n : Nat) (s : St) : Prop where
  | plan (hf : s.found = none) (fx : Fix arcs s) (tm : Int → Nat) (tr : Tree arcs b s tm) : End arcs b n s
  | ring (x : Int) (hf : s.found = some x) (T tm : Int → Nat) (clk : Nat) (h : Inv arcs b n arcs.length s T tm clk) : End arcs b n s
theorem run_end {arcs : List Arc} {b : Option Int} (hne : ∀ a ∈ arcs, a.u ≠ a.v) : ∀ (n k : Nat) (s : St), Bet arcs b k s → (n = 0 → s.found ≠ none ∧ ∃ T tm clk, Inv arcs b k arcs.length s T tm clk) → End arcs b (k + n) (run arcs n s)
  | 0, k, s, _, h0 => by
    obtain ⟨h1, T, tm, clk, h2⟩ := h0 rfl
    cases hf : s.found with
    | none => exact absurd hf h1
    | some x => exact .ring x hf T tm clk h2
  | n + 1, k, s, h, _ => by
    obtain ⟨T, tm, clk, h'⟩ := h.pass hne
    unfold run
    by_cases hf : (BF.pass arcs s).found = none
    · rw [if_pos hf]
      obtain ⟨fx, tr⟩ := h'.done hf
      exact .plan hf fx tm tr
    · rw [if_neg hf]
      have := run_end hne n (k + 1) _ h'.bet (fun _ => ⟨hf, T, tm, clk, h'⟩)
      rw [show k + (n + 1) = k + 1 + n by omega]
      exact this
theorem run_start {arcs : List Arc} {b : Option Int} (hne : ∀ a ∈ arcs, a.u ≠ a.v) (n : Nat) (h0 : n = 0 → arcs = []) : End arcs b n (run arcs n (BF.start b)) := by
  cases n with
  | zero =>
    have e := h0 rfl
    subst e
    refine .plan rfl (fun a ha => (by cases ha)) (fun _ => 0) ⟨fun v _ => rfl, fun v u t h => (by cases h), fun hb v => ⟨0, ?_, Int.le_refl _⟩⟩
    show BF.init b v = some 0
    unfold BF.init
    rw [if_pos (.inl hb)]
  | succ n =>
    have := run_end hne (n + 1) 0 _ (Bet.start arcs b) (fun h => by omega)
    rw [Nat.zero_add] at this
    exact this
/-! ### how low -/
theorem countP_lt {α : Type} {p q : α → Bool} {y : α} : ∀ {l : List α}, (∀ x ∈ l, p x = true → q x = true) → y ∈ l → p y = false → q y = true → l.countP p + 1 ≤ l.countP q
  | [], _, hy, _, _ => by cases hy
  | x :: l, h, hy, hp, hq => by
    have le : l.countP p ≤ l.countP q := List.countP_mono_left fun z hz => h z (by simp [hz])
    rcases List.mem_cons.mp hy with e | hy
    · subst e
      rw [List.countP_cons_of_neg (by simp [hp]), List.countP_cons_of_pos hq]
      omega
    · have ih := countP_lt (fun z hz => h z (by simp [hz])) hy hp hq
      rw [List.countP_cons, List.countP_cons]
      by_cases e : p x = true
      · have := h x (by simp) e
        simp only [e, this, if_true]
        omega
      · have e' : p x = false := by simpa using e
        cases hq2 : q x <;> simp [e'] <;> omega
def rank (m : Nat) (tm : Int → Nat) (v : Int) : Nat := (List.range m).countP fun u => decide (tm (u : Nat) < tm v)
theorem rank_lt {m : Nat} {tm : Int → Nat} {u v : Int} (h0 : 0 ≤ u) (h1 : u < m) (h : tm u < tm v) : rank m tm u + 1 ≤ rank m tm v := by
  refine countP_lt (y := u.toNat) (fun x _ hx => ?_) (by simp; omega) ?_ ?_
  · simp at hx ⊢; omega
  · rw [show ((u.toNat : Nat) : Int) = u by omega]; simp
  · rw [show ((u.toNat : Nat) : Int) = u by omega]; simpa using h
theorem rank_le (m : Nat) (tm : Int → Nat) (v : Int) : rank m tm v ≤ m := by
  have := List.countP_le_length (p := fun u : Nat => decide (tm (u : Nat) < tm v)) (l := List.range m)
  simpa [rank] using this
theorem Tree.low {arcs : List Arc} {b : Option Int} {s : St} {tm : Int → Nat} (h : Tree arcs b s tm) {m : Nat} {R : Int} (hR : 0 ≤ R) (hin : ∀ a ∈ arcs, 0 ≤ a.u ∧ a.u < m ∧ -R ≤ a.r) :
    ∀ (N : Nat) (v : Int), tm v ≤ N → ∀ mv, s.most v = some mv → -(R * rank m tm v) ≤ mv := by
  have nn : ∀ v, 0 ≤ R * (rank m tm v : Int) := fun v => Int.mul_nonneg hR (by omega)
  intro N
  induction N with
  | zero =>
    intro v hv mv hm
    cases hc : s.came v with
    | none =>
      rw [h.root v hc] at hm
      unfold init at hm
      split at hm
      · cases hm; have := nn v; omega
      · cases hm
    | some p =>
      obtain ⟨u, t⟩ := p
      obtain ⟨a, _, _, _, _, hlt, _⟩ := h.step v u t hc
      omega
  | succ N ih =>
    intro v hv mv hm
    cases hc : s.came v with
    | none =>
      rw [h.root v hc] at hm
      unfold init at hm
      split at hm
      · cases hm; have := nn v; omega
      · cases hm
    | some p =>
      obtain ⟨u, t⟩ := p
      obtain ⟨a, ma, ea, _, _, hlt, mu, h1, h2⟩ := h.step v u t hc
      rw [hm] at h2; cases h2
      have i1 := ih u (by omega) mu h1
      obtain ⟨b0, b1, b2⟩ := hin a ma
      rw [ea] at b0 b1
      have r1 := rank_lt b0 b1 hlt
      have : R * ((rank m tm u : Int) + 1) ≤ R * (rank m tm v : Int) := Int.mul_le_mul_of_nonneg_left (by omega) hR
      rw [Int.mul_add] at this
      omega
theorem Tree.low' {arcs : List Arc} {b : Option Int} {s : St} {tm : Int → Nat} (h : Tree arcs b s tm) {m : Nat} {R : Int} (hR : 0 ≤ R) (hin : ∀ a ∈ arcs, 0 ≤ a.u ∧ a.u < m ∧ -R ≤ a.r) {v mv : Int} (hm : s.most v = some mv) : -(R * m) ≤ mv := by
  have h1 := h.low hR hin _ v (Nat.le_refl _) mv hm
  have : R * (rank m tm v : Int) ≤ R * (m : Int) := Int.mul_le_mul_of_nonneg_left (by have := rank_le m tm v; omega) hR
  omega
/-! ### the ring -/
inductive Chain (s : St) : Int → List Tg → Int → Prop where
  | nil (v : Int) : Chain s v [] v
  | cons {v u w : Int} {t : Tg} {ts : List Tg} (h : s.came v = some (u, t)) (r : Chain s u ts w) : Chain s v (t :: ts) w
theorem Chain.snoc {s : St} {v w u : Int} {t : Tg} {ts : List Tg} (c : Chain s v ts w) (h : s.came w = some (u, t)) : Chain s v (ts ++ [t]) u := by
  induction c with
  | nil v => exact .cons h (.nil _)
  | cons h' _ ih => exact .cons h' (ih h)
theorem php : ∀ (n : Nat) (f : Nat → Nat), (∀ i, i ≤ n → f i < n) → ∃ i j, i < j ∧ j ≤ n ∧ f i = f j
  | 0, f, h => by have := h 0 (Nat.le_refl _); omega
  | n + 1, f, h => by
    by_cases q : ∃ i, i ≤ n ∧ f i = f (n + 1)
    · obtain ⟨i, h1, h2⟩ := q
      exact ⟨i, n + 1, by omega, Nat.le_refl _, h2⟩
    · have ne : ∀ i, i ≤ n → f i ≠ f (n + 1) := fun i hi e => q ⟨i, hi, e⟩
      have hl := h (n + 1) (Nat.le_refl _)
      obtain ⟨i, j, h1, h2, h3⟩ := php n (fun i => if f i < f (n + 1) then f i else f i - 1) (fun i hi => by
        have h1 := h i (by omega)
        have h2 := ne i hi
        split <;> omega)
      refine ⟨i, j, h1, by omega, ?_⟩
      have a := ne i (by omega)
      have b := ne j (by omega)
      split at h3 <;> split at h3 <;> omega
def pr (s : St) (v : Int) : Int := match s.came v with
  | some p => p.1
  | none => v
def tg (s : St) (v : Int) : Tg := match s.came v with
  | some p => p.2
  | none => (0, false)
def ch (s : St) (x : Int) : Nat → Int
  | 0 => x
  | k + 1 => pr s (ch s x k)
theorem ch_shift {s : St} {x : Int} {i j : Nat} (h : ch s x i = ch s x j) : ∀ k, ch s x (i + k) = ch s x (j + k)
  | 0 => h
  | k + 1 => congrArg (pr s) (ch_shift h k)
theorem least {P : Nat → Prop} : ∀ n, P n → ∃ k, P k ∧ k ≤ n ∧ ∀ j, j < k → ¬ P j := by
  intro n
  induction n using Nat.strongRecOn with
  | ind n ih =>
    intro h
    by_cases q : ∃ j, j < n ∧ P j
    · obtain ⟨j, h1, h2⟩ := q
      obtain ⟨k, a, b, c⟩ := ih j h1 h2
      exact ⟨k, a, by omega, c⟩
    · exact ⟨n, h, Nat.le_refl _, fun j hj hp => q ⟨j, hj, hp⟩⟩
structure Ring (s : St) (x : Int) (n L : Nat) : Prop where
  came : ∀ k, ∃ t, s.came (ch s x k) = some (ch s x (k + 1), t)
  pos : 1 ≤ L
  le : L ≤ n
  back : ch s x (n + L) = ch s x n
  first : ∀ k, 1 ≤ k → k < L → ch s x (n + k) ≠ ch s x n
  dom : ∀ k, 0 ≤ ch s x k ∧ ch s x k < n
theorem Inv.ring {arcs : List Arc} {b : Option Int} {n kk : Nat} {s : St} {T tm : Int → Nat} {clk : Nat} (h : Inv arcs b kk arcs.length s T tm clk) (hn : 1 ≤ n) (hkn : n ≤ kk) (hin : ∀ a ∈ arcs, (0 ≤ a.u ∧ a.u < n) ∧ (0 ≤ a.v ∧ a.v < n)) {x : Int} (hx : s.found = some x) :
    ∃ L, Ring s x n L := by
  have stp : ∀ v, T v ≠ 0 → ∃ t, s.came v = some (pr s v, t) ∧ T v ≤ T (pr s v) + 1 ∧ (0 ≤ v ∧ v < n) ∧ (0 ≤ pr s v ∧ pr s v < n) := fun v hv => by
    obtain ⟨a, ma, ea, c, t0, _⟩ := h.pos v hv
    have e : pr s v = a.u := by unfold pr; rw [c]
    rw [e]
    exact ⟨a.t, c, t0, by rw [← ea]; exact (hin a ma).2, (hin a ma).1⟩
  have hT : ∀ i, i ≤ n → n ≤ T (ch s x i) + i := by
    intro i
    induction i with
    | zero => intro _; have := h.fnd2 x hx; show n ≤ T x + 0; omega
    | succ i ih =>
      intro hi
      have h1 := ih (by omega)
      obtain ⟨t, _, h2, _⟩ := stp (ch s x i) (by omega)
      show n ≤ T (pr s (ch s x i)) + (i + 1)
      omega
  have c1 : ∀ i, i < n → ∃ t, s.came (ch s x i) = some (ch s x (i + 1), t) := fun i hi => by
    obtain ⟨t, h1, _⟩ := stp (ch s x i) (by have := hT i (by omega); omega)
    exact ⟨t, h1⟩
  have d1 : ∀ i, i ≤ n → 0 ≤ ch s x i ∧ ch s x i < n := fun i hi => by
    cases i with
    | zero =>
      obtain ⟨t, _, _, h3, _⟩ := stp x (by have := h.fnd2 x hx; omega)
      exact h3
    | succ i =>
      obtain ⟨t, _, _, _, h4⟩ := stp (ch s x i) (by have := hT i (by omega); omega)
      exact h4
  obtain ⟨i, j, hij, hj, e⟩ := php n (fun i => (ch s x i).toNat) (fun i hi => by have := d1 i hi; omega)
  have e' : ch s x i = ch s x j := by
    have a := d1 i (by omega)
    have b := d1 j hj
    omega
  have sh := ch_shift e'
  have c2 : ∀ k, (∃ t, s.came (ch s x k) = some (ch s x (k + 1), t)) ∧ 0 ≤ ch s x k ∧ ch s x k < n := by
    intro k
    induction k using Nat.strongRecOn with
    | ind k ih =>
      by_cases hk : k < n
      · exact ⟨c1 k hk, d1 k (by omega)⟩
      · have q1 := sh (k - j)
        rw [show j + (k - j) = k by omega] at q1
        have q2 := sh (k - j + 1)
        rw [show j + (k - j + 1) = k + 1 by omega, show i + (k - j + 1) = i + (k - j) + 1 by omega] at q2
        have := ih (i + (k - j)) (by omega)
        rw [q1, q2] at this
        exact this
  obtain ⟨L, ⟨hL1, hL2⟩, hLle, hL3⟩ := least (P := fun L => 1 ≤ L ∧ ch s x (n + L) = ch s x n) (j - i) ⟨by omega, by
    have := sh (n - i)
    rw [show i + (n - i) = n by omega, show j + (n - i) = n + (j - i) by omega] at this
    exact this.symm⟩
  exact ⟨L, fun k => (c2 k).1, hL1, by omega, hL2, fun k h1 h2 e => hL3 k h2 ⟨h1, e⟩, fun k => (c2 k).2⟩
/-- the tags of k steps back -/
def tags (s : St) (x : Int) (n : Nat) : Nat → List Tg
  | 0 => []
  | k + 1 => tags s x n k ++ [tg s (ch s x (n + k))]
theorem Ring.tag {s : St} {x : Int} {n L : Nat} (R : Ring s x n L) (k : Nat) : s.came (ch s x k) = some (ch s x (k + 1), tg s (ch s x k)) := by
  obtain ⟨t, h⟩ := R.came k
  have : tg s (ch s x k) = t := by unfold tg; rw [h]
  rw [this]; exact h
theorem Ring.chain {s : St} {x : Int} {n L : Nat} (R : Ring s x n L) : ∀ k, Chain s (ch s x n) (tags s x n k) (ch s x (n + k))
  | 0 => .nil _
  | k + 1 => (R.chain k).snoc (R.tag (n + k))
theorem tags_len (s : St) (x : Int) (n : Nat) : ∀ k, (tags s x n k).length = k
  | 0 => rfl
  | k + 1 => by rw [tags, List.length_append, tags_len s x n k]; rfl
theorem Chain.sum {arcs : List Arc} {b : Option Int} {k j : Nat} {s : St} {T tm : Int → Nat} {clk : Nat} (h : Inv arcs b k j s T tm clk) {ρ : Tg → Int} (hr : ∀ a ∈ arcs, a.r = ρ a.t) {v w : Int} {ts : List Tg} (c : Chain s v ts w) (hts : ts ≠ []) :
    ∃ mv mw, s.most v = some mv ∧ s.most w = some mw ∧ (ts.map ρ).sum + mw ≤ mv ∧ ((ts.map ρ).sum + mw = mv → tm w < tm v) := by
  induction c with
  | nil v => exact absurd rfl hts
  | @cons v u w t ts hc r ih =>
    have hv : T v ≠ 0 := fun e => by rw [(h.st0 v e).1] at hc; cases hc
    obtain ⟨a, ma, _, c0, _, mu, mv, h1, h2, h3⟩ := h.pos v hv
    rw [hc] at c0; cases c0
    have er := hr a ma
    by_cases e : ts = []
    · subst e
      cases r
      refine ⟨mv, mu, h2, h1, ?_, ?_⟩
      · simp; rcases h3 with ⟨h3, _⟩ | h3 <;> omega
      · simp; intro q; rcases h3 with ⟨_, h3⟩ | h3
        · exact h3
        · omega
    · obtain ⟨mu', mw, i1, i2, i3, i4⟩ := ih e
      rw [h1] at i1; cases i1
      refine ⟨mv, mw, h2, i2, ?_, ?_⟩
      · simp only [List.map_cons, List.sum_cons]
        rcases h3 with ⟨h3, _⟩ | h3 <;> omega
      · simp only [List.map_cons, List.sum_cons]
        intro q
        rcases h3 with ⟨h3, h4⟩ | h3
        · have := i4 (by omega)
          omega
        · omega
/-- the ring rises less than nothing -/
theorem Ring.neg {arcs : List Arc} {b : Option Int} {k j : Nat} {s : St} {T tm : Int → Nat} {clk : Nat} (h : Inv arcs b k j s T tm clk) {ρ : Tg → Int} (hr : ∀ a ∈ arcs, a.r = ρ a.t) {x : Int} {n L : Nat} (R : Ring s x n L) : ((tags s x n L).map ρ).sum < 0 := by
  have ne : tags s x n L ≠ [] := fun e => by have h1 := tags_len s x n L; rw [e] at h1; have h2 := R.pos; have h3 : (0 : Nat) = L := h1; omega
  obtain ⟨mv, mw, h1, h2, h3, h4⟩ := (R.chain L).sum h hr ne
  rw [R.back, h1] at h2; cases h2
  rw [R.back] at h4
  by_cases q : ((tags s x n L).map ρ).sum + mv = mv
  · have := h4 q; omega
  · omega
end BF
set_option Elab.async false
set_option maxRecDepth 100000
set_option maxHeartbeats 4000000
/-! The rounds of the law's own search: a round that changes nothing is a fixed point; how such rounds tell whether there is a short ring. -/
namespace BF
/-- a value became less, or came to be -/
def Chg (s0 s : St) (v : Int) : Prop := (s0.most v = none ∧ ∃ m, s.most v = some m) ∨ ∃ m m', s0.most v = some m ∧ s.most v = some m' ∧ m' < m
theorem relax_keep {s : St} {a : Arc} (s0 : St) (v : Int) (h : Chg s0 s v) : Chg s0 (relax s a) v := by
  unfold relax
  split
  · exact h
  · rename_i m hm
    have up : (∀ w, s.most a.v = some w → m + a.r < w) → Chg s0 (upd s a m) v := fun hw => by
      by_cases e : v = a.v
      · have ev : (upd s a m).most v = some (m + a.r) := by rw [e]; exact upF_same _ _ _
        rcases h with ⟨h1, m1, h2⟩ | ⟨m1, m2, h1, h2, h3⟩
        · exact .inl ⟨h1, _, ev⟩
        · have := hw m2 (by rw [← e]; exact h2)
          exact .inr ⟨m1, _, h1, ev, by omega⟩
      · have ev : (upd s a m).most v = s.most v := upF_ne _ _ e
        rcases h with ⟨h1, m1, h2⟩ | ⟨m1, m2, h1, h2, h3⟩
        · exact .inl ⟨h1, m1, by rw [ev]; exact h2⟩
        · exact .inr ⟨m1, m2, h1, by rw [ev]; exact h2, h3⟩
    split
    · rename_i hn
      exact up (fun w e => by rw [hn] at e; cases e)
    · rename_i w hw
      split
      · rename_i hlt
        exact up (fun w' e => by rw [hw] at e; cases e; exact hlt)
      · exact h
/-- where a round is: nothing changed yet, or something did -/
def Mid (arcs : List Arc) (s0 s : St) : Prop := (s.found = none ∧ s.most = s0.most) ∨ (s.found ≠ none ∧ ∃ a ∈ arcs, Chg s0 s a.v)
theorem relax_mid {arcs : List Arc} {s0 s : St} {a : Arc} (ha : a ∈ arcs) (h : Mid arcs s0 s) : Mid arcs s0 (relax s a) := by
  rcases h with ⟨h1, h2⟩ | ⟨h1, a0, m0, h2⟩
  · unfold relax
    split
    · exact .inl ⟨h1, h2⟩
    · rename_i m hm
      split
      · rename_i hn
        refine .inr ⟨by unfold upd; simp, a, ha, .inl ⟨by rw [← h2]; exact hn, m + a.r, upF_same _ _ _⟩⟩
      · rename_i w hw
        split
        · rename_i hlt
          exact .inr ⟨by unfold upd; simp, a, ha, .inr ⟨w, m + a.r, by rw [← h2]; exact hw, upF_same _ _ _, hlt⟩⟩
        · exact .inl ⟨h1, h2⟩
  · refine .inr ⟨?_, a0, m0, relax_keep s0 _ h2⟩
    unfold relax
    split
    · exact h1
    · split
      · unfold upd; simp
      · split
        · unfold upd; simp
        · exact h1
theorem fold_mid {arcs : List Arc} {s0 : St} : ∀ (rest : List Arc) (s : St), (∀ a ∈ rest, a ∈ arcs) → Mid arcs s0 s → Mid arcs s0 (rest.foldl relax s)
  | [], _, _, h => h
  | a :: r, s, hr, h => fold_mid r _ (fun b hb => hr b (by simp [hb])) (relax_mid (hr a (by simp)) h)
theorem pass_mid (arcs : List Arc) (s : St) : Mid arcs s (pass arcs s) := fold_mid arcs _ (fun _ h => h) (.inl ⟨rfl, rfl⟩)
/-- a round that finds nothing changes nothing -/
theorem pass_same {arcs : List Arc} {s : St} (h : (pass arcs s).found = none) : (pass arcs s).most = s.most := by
  rcases pass_mid arcs s with ⟨_, h2⟩ | ⟨h1, _⟩
  · exact h2
  · exact absurd h h1
theorem pass_diff {arcs : List Arc} {s : St} (h : (pass arcs s).found ≠ none) : ∃ a ∈ arcs, (pass arcs s).most a.v ≠ s.most a.v := by
  rcases pass_mid arcs s with ⟨h1, _⟩ | ⟨_, a, ma, h2⟩
  · exact absurd h1 h
  · refine ⟨a, ma, fun e => ?_⟩
    rcases h2 with ⟨h3, m, h4⟩ | ⟨m, m', h3, h4, h5⟩
    · rw [e, h3] at h4; cases h4
    · rw [e, h3] at h4; cases h4; omega
/-- rounds till one finds nothing, at most n; whether one did -/
def far (arcs : List Arc) : Nat → St → Option St
  | 0, _ => none
  | n + 1, s => if (pass arcs s).found = none then some (pass arcs s) else far arcs n (pass arcs s)
theorem far_end {arcs : List Arc} {b : Option Int} (hne : ∀ a ∈ arcs, a.u ≠ a.v) : ∀ (n k : Nat) (s : St), Bet arcs b k s → (n = 0 → s.found ≠ none ∧ ∃ T tm clk, Inv arcs b k arcs.length s T tm clk) →
    (∃ s' tm, far arcs n s = some s' ∧ Fix arcs s' ∧ Tree arcs b s' tm) ∨ (far arcs n s = none ∧ ∃ s' T tm clk, s'.found ≠ none ∧ Inv arcs b (k + n) arcs.length s' T tm clk)
  | 0, k, s, _, h0 => by
    obtain ⟨h1, T, tm, clk, h2⟩ := h0 rfl
    exact .inr ⟨rfl, s, T, tm, clk, h1, h2⟩
  | n + 1, k, s, h, _ => by
    obtain ⟨T, tm, clk, h'⟩ := h.pass hne
    unfold far
    by_cases hf : (BF.pass arcs s).found = none
    · rw [if_pos hf]
      obtain ⟨fx, tr⟩ := h'.done hf
      exact .inl ⟨_, tm, rfl, fx, tr⟩
    · rw [if_neg hf, show k + (n + 1) = k + 1 + n by omega]
      exact far_end hne n (k + 1) _ h'.bet (fun _ => ⟨hf, T, tm, clk, h'⟩)
theorem far_start {arcs : List Arc} {b : Option Int} (hne : ∀ a ∈ arcs, a.u ≠ a.v) (n : Nat) (hn : n ≠ 0) :
    (∃ s' tm, far arcs n (start b) = some s' ∧ Fix arcs s' ∧ Tree arcs b s' tm) ∨ (far arcs n (start b) = none ∧ ∃ s' T tm clk, s'.found ≠ none ∧ Inv arcs b n arcs.length s' T tm clk) := by
  have := far_end hne n 0 _ (Bet.start arcs b) (fun h => absurd h hn)
  rw [Nat.zero_add] at this
  exact this
end BF
set_option Elab.async false
set_option maxRecDepth 100000
set_option maxHeartbeats 4000000
/-! own work: two searches from one begin end alike. -/
namespace BF
theorem relax_down (s : St) (a : Arc) {v m : Int} (h : s.most v = some m) : ∃ m1, (relax s a).most v = some m1 ∧ m1 ≤ m := by
  unfold relax
  split
  · exact ⟨m, h, Int.le_refl _⟩
  · rename_i mu hmu
    have up : (∀ w, s.most a.v = some w → mu + a.r < w) → ∃ m1, (upd s a mu).most v = some m1 ∧ m1 ≤ m := fun hw => by
      by_cases e : v = a.v
      · have := hw m (by rw [← e]; exact h)
        exact ⟨mu + a.r, by rw [e]; exact upF_same _ _ _, by omega⟩
      · exact ⟨m, by show upF s.most a.v _ v = _; rw [upF_ne _ _ e]; exact h, Int.le_refl _⟩
    split
    · rename_i hn
      exact up (fun w e => by rw [hn] at e; cases e)
    · rename_i w hw
      split
      · rename_i hlt
        exact up (fun w' e => by rw [hw] at e; cases e; exact hlt)
      · exact ⟨m, h, Int.le_refl _⟩
theorem fold_down : ∀ (rest : List Arc) (s : St) (v m : Int), s.most v = some m → ∃ m', (rest.foldl relax s).most v = some m' ∧ m' ≤ m
  | [], s, v, m, h => ⟨m, h, Int.le_refl _⟩
  | a :: r, s, v, m, h => by
    obtain ⟨m1, h1, h2⟩ := relax_down s a h
    obtain ⟨m2, h3, h4⟩ := fold_down r _ v m1 h1
    exact ⟨m2, h3, by omega⟩
theorem pass_down (arcs : List Arc) (s : St) (v m : Int) (h : s.most v = some m) : ∃ m', (pass arcs s).most v = some m' ∧ m' ≤ m := fold_down arcs { s with found := none } v m h
theorem run_down {arcs : List Arc} : ∀ (n : Nat) (s : St) (v m : Int), s.most v = some m → ∃ m', (run arcs n s).most v = some m' ∧ m' ≤ m
  | 0, s, v, m, h => ⟨m, h, Int.le_refl _⟩
  | n + 1, s, v, m, h => by
    obtain ⟨m1, h1, h2⟩ := pass_down arcs s v m h
    unfold run
    split
    · exact ⟨m1, h1, h2⟩
    · obtain ⟨m2, h3, h4⟩ := run_down n _ v m1 h1
      exact ⟨m2, h3, by omega⟩
theorem far_down {arcs : List Arc} : ∀ {n : Nat} {s s' : St} {v m : Int}, far arcs n s = some s' → s.most v = some m → ∃ m', s'.most v = some m' ∧ m' ≤ m
  | 0, s, s', v, m, h, _ => by cases h
  | n + 1, s, s', v, m, h, hm => by
    obtain ⟨m1, h1, h2⟩ := pass_down arcs s v m hm
    unfold far at h
    split at h
    · cases h
      exact ⟨m1, h1, h2⟩
    · obtain ⟨m2, h3, h4⟩ := far_down h h1
      exact ⟨m2, h3, by omega⟩
/-- a tree's values are no less than a fixed point's -/
theorem tree_fix {as as' : List Arc} {b : Option Int} {s s' : St} {tm : Int → Nat} (hsub : ∀ a ∈ as, a ∈ as') (tr : Tree as b s tm) (fx : Fix as' s') (h0 : ∀ v m, init b v = some m → ∃ m', s'.most v = some m' ∧ m' ≤ m) :
    ∀ (N : Nat) (v : Int), tm v ≤ N → ∀ mv, s.most v = some mv → ∃ m', s'.most v = some m' ∧ m' ≤ mv := by
  intro N
  induction N with
  | zero =>
    intro v hv mv hm
    cases hc : s.came v with
    | none => exact h0 v mv (by rw [← tr.root v hc]; exact hm)
    | some p =>
      obtain ⟨u, t⟩ := p
      obtain ⟨a, _, _, _, _, hlt, _⟩ := tr.step v u t hc
      omega
  | succ N ih =>
    intro v hv mv hm
    cases hc : s.came v with
    | none => exact h0 v mv (by rw [← tr.root v hc]; exact hm)
    | some p =>
      obtain ⟨u, t⟩ := p
      obtain ⟨a, ma, ea, ev, _, hlt, mu, h1, h2⟩ := tr.step v u t hc
      rw [hm] at h2; cases h2
      obtain ⟨m1, h3, h4⟩ := ih u (by omega) mu h1
      obtain ⟨m2, h5, h6⟩ := fx a (hsub a ma) m1 (by rw [ea]; exact h3)
      rw [ev] at h5
      exact ⟨m2, h5, by omega⟩
theorem most_same {as as' : List Arc} {b : Option Int} {s s' : St} {tm tm' : Int → Nat} (hs : ∀ a, a ∈ as ↔ a ∈ as') (tr : Tree as b s tm) (fx : Fix as s) (tr' : Tree as' b s' tm') (fx' : Fix as' s')
    (h0 : ∀ v m, init b v = some m → ∃ m', s.most v = some m' ∧ m' ≤ m) (h0' : ∀ v m, init b v = some m → ∃ m', s'.most v = some m' ∧ m' ≤ m) : s.most = s'.most := by
  funext v
  have k1 := tree_fix (fun a h => (hs a).mp h) tr fx' h0' _ v (Nat.le_refl _)
  have k2 := tree_fix (fun a h => (hs a).mpr h) tr' fx h0 _ v (Nat.le_refl _)
  cases h : s.most v with
  | none =>
    cases h' : s'.most v with
    | none => rfl
    | some m' =>
      obtain ⟨m, h1, _⟩ := k2 m' h'
      rw [h] at h1; cases h1
  | some m =>
    obtain ⟨m', h1, h2⟩ := k1 m h
    obtain ⟨m2, h3, h4⟩ := k2 m' h1
    rw [h] at h3; cases h3
    rw [h1]
    congr 1
    omega
end BF
set_option Elab.async false
set_option maxRecDepth 100000
set_option maxHeartbeats 4000000
/-! own work: searches over arcs that rise no less than 0; least heads. -/
namespace BF
theorem sum_nonneg {ρ : Tg → Int} (h0 : ∀ t, 0 ≤ ρ t) : ∀ l : List Tg, 0 ≤ (l.map ρ).sum
  | [] => Int.le_refl _
  | t :: l => by
    have h1 := sum_nonneg h0 l
    have h2 := h0 t
    rw [List.map_cons, List.sum_cons]
    omega
theorem far_nonneg {arcs : List Arc} {m : Nat} (hm : 1 ≤ m) (dom : ∀ a ∈ arcs, (0 ≤ a.u ∧ a.u < m) ∧ (0 ≤ a.v ∧ a.v < m)) (hne : ∀ a ∈ arcs, a.u ≠ a.v) {ρ : Tg → Int} (hr : ∀ a ∈ arcs, a.r = ρ a.t) (h0 : ∀ t, 0 ≤ ρ t) (b : Int) :
    ∃ s tm, far arcs (m + 1) (start (some b)) = some s ∧ Fix arcs s ∧ Tree arcs (some b) s tm := by
  rcases far_start (b := some b) hne (m + 1) (by omega) with ⟨s, tm, e, fx, tr⟩ | ⟨_, s, T, tm, clk, hf, hI⟩
  · exact ⟨s, tm, e, fx, tr⟩
  · obtain ⟨x, hx⟩ := Option.ne_none_iff_exists'.mp hf
    obtain ⟨L, R⟩ := hI.ring hm (by omega) dom hx
    have h1 := R.neg hI hr
    have h2 := sum_nonneg h0 (tags s x m L)
    omega
theorem tree_ge {arcs : List Arc} {b : Option Int} {s : St} {tm : Int → Nat} (tr : Tree arcs b s tm) {m : Nat} (hin : ∀ a ∈ arcs, 0 ≤ a.u ∧ a.u < m ∧ 0 ≤ a.r) {v mv : Int} (h : s.most v = some mv) : 0 ≤ mv := by
  have := tr.low' (m := m) (R := 0) (Int.le_refl _) (fun a ha => by have := hin a ha; omega) h
  omega
theorem tree_le {arcs : List Arc} {b : Option Int} {s : St} {tm : Int → Nat} (tr : Tree arcs b s tm) {m : Nat} {R : Int} (hR : 0 ≤ R) (hin : ∀ a ∈ arcs, 0 ≤ a.u ∧ a.u < m ∧ a.r ≤ R) : ∀ (N : Nat) (v : Int), tm v ≤ N → ∀ mv, s.most v = some mv → mv ≤ R * rank m tm v := by
  have nn : ∀ v, 0 ≤ R * (rank m tm v : Int) := fun v => Int.mul_nonneg hR (by omega)
  have base : ∀ v mv, s.came v = none → s.most v = some mv → mv ≤ R * rank m tm v := fun v mv hc hm => by
    rw [tr.root v hc] at hm
    unfold init at hm
    split at hm
    · cases hm; exact nn v
    · cases hm
  intro N
  induction N with
  | zero =>
    intro v hv mv hm
    cases hc : s.came v with
    | none => exact base v mv hc hm
    | some p =>
      obtain ⟨u, t⟩ := p
      obtain ⟨a, _, _, _, _, hlt, _⟩ := tr.step v u t hc
      omega
  | succ N ih =>
    intro v hv mv hm
    cases hc : s.came v with
    | none => exact base v mv hc hm
    | some p =>
      obtain ⟨u, t⟩ := p
      obtain ⟨a, ma, ea, _, _, hlt, mu, h1, h2⟩ := tr.step v u t hc
      rw [hm] at h2; cases h2
      have i1 := ih u (by omega) mu h1
      obtain ⟨b0, b1, b2⟩ := hin a ma
      rw [ea] at b0 b1
      have r1 := rank_lt b0 b1 hlt
      have : R * ((rank m tm u : Int) + 1) ≤ R * (rank m tm v : Int) := Int.mul_le_mul_of_nonneg_left (by omega) hR
      rw [Int.mul_add] at this
      omega
/-! ### least heads -/
/-- one leg: both ends get the lesser head -/
def hd1 (f : Int → Int) (p : Int × Int) : Int → Int := fun v => if v = p.1 ∨ v = p.2 then min (f p.1) (f p.2) else f v
def hdR (ps : List (Int × Int)) (f : Int → Int) : Int → Int := ps.foldl hd1 f
def hdN (ps : List (Int × Int)) : Nat → Int → Int
  | 0 => fun v => v
  | n + 1 => hdR ps (hdN ps n)
theorem hd1_le (f : Int → Int) (p : Int × Int) (v : Int) : hd1 f p v ≤ f v := by
  unfold hd1
  split
  · rename_i h
    rcases h with h | h <;> subst h <;> omega
  · exact Int.le_refl _
theorem hdR_le : ∀ (ps : List (Int × Int)) (f : Int → Int) (v : Int), hdR ps f v ≤ f v
  | [], f, v => Int.le_refl _
  | p :: r, f, v => Int.le_trans (hdR_le r (hd1 f p) v) (hd1_le f p v)
/-- a leg of the list brings the head of one end to the other -/
theorem hdR_leg : ∀ (ps : List (Int × Int)) (f : Int → Int) {p : Int × Int}, p ∈ ps → hdR ps f p.1 ≤ f p.2 ∧ hdR ps f p.2 ≤ f p.1
  | q :: r, f, p, h => by
    rcases List.mem_cons.mp h with e | e
    · subst e
      have h1 := hdR_le r (hd1 f p) p.1
      have h2 := hdR_le r (hd1 f p) p.2
      have e1 : hd1 f p p.1 = min (f p.1) (f p.2) := if_pos (.inl rfl)
      have e2 : hd1 f p p.2 = min (f p.1) (f p.2) := if_pos (.inr rfl)
      rw [e1] at h1
      rw [e2] at h2
      exact ⟨Int.le_trans h1 (by omega), Int.le_trans h2 (by omega)⟩
    · have ih := hdR_leg r (hd1 f q) e
      exact ⟨Int.le_trans ih.1 (hd1_le f q p.2), Int.le_trans ih.2 (hd1_le f q p.1)⟩
/-- what holds of rooms that are joined and goes from room to room holds of each head -/
theorem hdN_in {ps : List (Int × Int)} {J : Int → Int → Prop} (refl : ∀ v, J v v) (trans : ∀ u v w, J u v → J v w → J u w) (leg : ∀ p ∈ ps, J p.1 p.2 ∧ J p.2 p.1) : ∀ n v, J v (hdN ps n v) := by
  have one : ∀ (qs : List (Int × Int)) (f : Int → Int), (∀ q ∈ qs, q ∈ ps) → (∀ v, J v (f v)) → ∀ v, J v (hdR qs f v) := by
    intro qs
    induction qs with
    | nil => intro f _ h v; exact h v
    | cons q r ih =>
      intro f hq h v
      refine ih (hd1 f q) (fun x hx => hq x (List.mem_cons_of_mem _ hx)) (fun v => ?_) v
      unfold hd1
      have lq := leg q (hq q List.mem_cons_self)
      split
      · rename_i e
        rcases Int.le_total (f q.1) (f q.2) with z | z
        · rw [Int.min_eq_left z]
          rcases e with e | e
          · rw [e]; exact h q.1
          · rw [e]; exact trans _ _ _ lq.2 (h q.1)
        · rw [Int.min_eq_right z]
          rcases e with e | e
          · rw [e]; exact trans _ _ _ lq.1 (h q.2)
          · rw [e]; exact h q.2
      · exact h v
  intro n
  induction n with
  | zero => intro v; exact refl v
  | succ n ih => exact one ps (hdN ps n) (fun _ h => h) ih
theorem hdN_mono (ps : List (Int × Int)) {n k : Nat} (h : n ≤ k) (v : Int) : hdN ps k v ≤ hdN ps n v := by
  induction k with
  | zero => rw [Nat.le_zero.mp h]; exact Int.le_refl _
  | succ k ih =>
    rcases Nat.lt_or_ge n (k + 1) with q | q
    · exact Int.le_trans (hdR_le ps _ v) (ih (by omega))
    · rw [Nat.le_antisymm h q]; exact Int.le_refl _
/-- a tree's rooms get a head no greater than the root -/
theorem hdN_tree {ps : List (Int × Int)} {arcs : List Arc} {b : Int} {s : St} {tm : Int → Nat} {m : Nat} (tr : Tree arcs (some b) s tm) (dom : ∀ a ∈ arcs, 0 ≤ a.u ∧ a.u < m) (hp : ∀ a ∈ arcs, (a.u, a.v) ∈ ps ∨ (a.v, a.u) ∈ ps) :
    ∀ (N : Nat) (v : Int), rank m tm v ≤ N → s.most v ≠ none → hdN ps N v ≤ b := by
  have base : ∀ N v, s.came v = none → s.most v ≠ none → hdN ps N v ≤ b := fun N v hc hm => by
    rw [tr.root v hc] at hm
    unfold init at hm
    split at hm
    · rename_i q
      rcases q with q | q
      · cases q
      · cases q
        exact hdN_mono ps (Nat.zero_le N) _
    · exact absurd rfl hm
  intro N
  induction N with
  | zero =>
    intro v hv hm
    cases hc : s.came v with
    | none => exact base 0 v hc hm
    | some p =>
      obtain ⟨u, t⟩ := p
      obtain ⟨a, ma, ea, _, _, hlt, _⟩ := tr.step v u t hc
      have d := dom a ma
      rw [ea] at d
      have := rank_lt d.1 d.2 hlt
      omega
  | succ N ih =>
    intro v hv hm
    cases hc : s.came v with
    | none => exact base (N + 1) v hc hm
    | some p =>
      obtain ⟨u, t⟩ := p
      obtain ⟨a, ma, ea, ev, _, hlt, mu, h1, _⟩ := tr.step v u t hc
      have d := dom a ma
      rw [ea] at d
      have r1 := rank_lt d.1 d.2 hlt
      have i1 := ih u (by omega) (by rw [h1]; simp)
      have e : hdN ps (N + 1) v ≤ hdN ps N u := by
        show hdR ps (hdN ps N) v ≤ _
        rcases hp a ma with q | q
        · have := (hdR_leg ps (hdN ps N) q).2
          rw [ea, ev] at this; exact this
        · have := (hdR_leg ps (hdN ps N) q).1
          rw [ea, ev] at this; exact this
      exact Int.le_trans e i1
end BF
set_option Elab.async false
set_option maxRecDepth 100000
set_option maxHeartbeats 4000000
/-! own work: raise, by a named continuation; items of lists. -/
namespace Ct
open PySem PySem.Spec PyProof.Rows L2
def raiseK (k : Nat) (u : U) (st : Store) : RS := match u with
  | .d x => if fmtD x = true then .exc ⟨k, x⟩ st else .bad
  | _ => .bad
@[simp] theorem ev_raise (k : Nat) (m : EM) (env : EnvD) (st : Store) : sRaise k m env st = (m env st).andS (raiseK k) := rfl
theorem raiseK_d {k : Nat} {x : D} {st : Store} (h : fmtD x = true) : raiseK k (.d x) st = .exc ⟨k, x⟩ st := by
  show (if fmtD x = true then RS.exc ⟨k, x⟩ st else .bad) = _
  rw [if_pos h]
theorem ix_lstI {a : List D} {i : Int} {x : D} {st : Store} (h0 : 0 ≤ i) (h : a[i.toNat]? = some x) : fIx (.d (.lst a)) (.d (.int i)) st = .ok (.d x) st := by
  have e : i = ((i.toNat : Nat) : Int) := by omega
  rw [e]
  exact ix_lstN h
theorem ix_tab {m : Int} {f : Int → D} {i : Int} {st : Store} (h0 : 0 ≤ i) (h1 : i < m) : fIx (.d (.lst (tab m f))) (.d (.int i)) st = .ok (.d (f i)) st := ix_lstI h0 (tab_at f h0 h1)
theorem fmt_pairs {α : Type} (f : α → D) (l : List α) (hl : l.length ≤ 100) (h : ∀ x ∈ l, ∃ (i : Int) (b : Bool), f x = .tup [.int i, .bl b] ∧ i.natAbs < 1000000000) : fmtD (.tup (l.map f)) = true := by
  unfold fmtD
  rw [Bool.and_eq_true]
  refine ⟨decide_eq_true (by simpa using hl), ?_⟩
  rw [List.all_eq_true]
  intro d hd
  obtain ⟨x, hx, rfl⟩ := List.mem_map.mp hd
  obtain ⟨i, b, e, hi⟩ := h x hx
  rw [e]
  simp [fmtP, fmtA, hi]
theorem wR_gxG {γ : Type} {g : GM} {t : TM} {e : EM} {env : EnvD} {kk : γ → U → Option (γ ⊕ D)} {f : γ → Option D} {J : Nat → γ → Store → Prop} {X : Exc → Store → Prop} {Q : U → Store → Prop} {gd : Option (Nat × List U)} {us0 : List U} (hg : ∀ k b s, J k b s → guarded gd us0 s) : ∀ (us : List U) (n : Nat) (b : γ) (st : Store), J n b st →
    (∀ k u, us[k]? = some u → ∀ b s, J (n + k) b s → wR (g u env s) (gxP t e kk (J (n + k + 1)) Q b) noX) →
    (∀ b s, J (n + us.length) b s → ∃ u, f b = some u ∧ Q (.d u) s) →
    wR (gxLoop (gd, us0) g t e env kk f us b st) Q X
  | [], n, b, st, h0, _, hQ => by
    obtain ⟨u, h1, h2⟩ := hQ b st h0
    rw [gxLoop, if_pos (hg _ _ _ h0), h1]
    simp only [wR_ok]
    exact h2
  | u :: us, n, b, st, h0, h, hQ => by
    rw [gxLoop, if_pos (hg _ _ _ h0)]
    obtain ⟨e1, s1, a1, q1⟩ := wR_get (h 0 u rfl b st h0)
    obtain ⟨c, s2, a2, q2⟩ := wR_get q1
    rw [a1]
    simp only [nox_ok', R.bind_ok, a2]
    have hh : ∀ k v, us[k]? = some v → ∀ b s, J (n + 1 + k) b s → wR (g v env s) (gxP t e kk (J (n + 1 + k + 1)) Q b) noX := fun k v hv b s hJ => by
      have := h (k + 1) v (by simpa using hv) b s (by rw [show n + (k + 1) = n + 1 + k by omega]; exact hJ)
      rw [show n + (k + 1) + 1 = n + 1 + k + 1 by omega] at this
      exact this
    have hQ' : ∀ b s, J (n + 1 + us.length) b s → ∃ u, f b = some u ∧ Q (.d u) s := fun b s hJ => hQ b s (by rw [List.length_cons, show n + (us.length + 1) = n + 1 + us.length by omega]; exact hJ)
    cases c with
    | true =>
      obtain ⟨x, s3, a3, q3⟩ := wR_get (q2.1 rfl)
      rw [if_pos rfl, a3]
      simp only [nox_ok', R.bind_ok]
      cases ez : kk b x with
      | none => rw [gxP3_e, ez] at q3; exact q3.elim
      | some z =>
        rw [gxP3_e, ez] at q3
        cases z with
        | inl b' => exact wR_gxG hg us (n + 1) b' s3 q3 hh hQ'
        | inr u => simp only [wR_ok]; exact q3
    | false =>
      rw [if_neg (by simp)]
      exact wR_gxG hg us (n + 1) b s2 (q2.2 rfl) hh hQ'
theorem wR_gxG0 {γ : Type} {g : GM} {t : TM} {e : EM} {env : EnvD} {kk : γ → U → Option (γ ⊕ D)} {f : γ → Option D} {J : Nat → γ → Store → Prop} {X : Exc → Store → Prop} {Q : U → Store → Prop} {gd : Option (Nat × List U)} {us0 us : List U} {b0 : γ} {st : Store} (hg : ∀ k b s, J k b s → guarded gd us0 s) (h0 : J 0 b0 st)
    (h : ∀ k u, us[k]? = some u → ∀ b s, J k b s → wR (g u env s) (gxP t e kk (J (k + 1)) Q b) noX) (hQ : ∀ b s, J us.length b s → ∃ u, f b = some u ∧ Q (.d u) s) : wR (gxLoop (gd, us0) g t e env kk f us b0 st) Q X :=
  wR_gxG hg us 0 b0 st h0 (fun k u hu b s hJ => by rw [Nat.zero_add] at hJ ⊢; exact h k u hu b s hJ) (fun b s hJ => hQ b s (by rw [Nat.zero_add] at hJ; exact hJ))
end Ct
namespace Ct
open PySem PySem.Spec PyProof.Rows L2
theorem fNe_lstNil {l : List D} {n : Nat} (st : Store) (h : Pl n (.lst l)) (hn : n ≤ 60) : fNe (.d (.lst l)) (.d (.lst [])) st = .ok (.d (.bl (!l.isEmpty))) st := by
  rw [fNe_pl h (.lst (n := 0) (by simp) (by simp)) hn (by decide), eqD_nilL]
theorem fAdd_locL {n : Nat} {a b : List D} {st : Store} (h : st[n]? = some (.lst (a.map U.d))) : fAdd (.loc n) (.d (.lst b)) st = if a.length + b.length ≤ sizeLine then .ok (.d (.lst (a ++ b))) st else .bad := by
  unfold fAdd
  simp only [h, dsOf_map]
end Ct
namespace Ct
theorem ix_lst0 {a : D} {r : List D} {st : Store} : fIx (.d (.lst (a :: r))) (.d (.int 0)) st = .ok (.d a) st := ix_lstI (Int.le_refl 0) rfl
end Ct
namespace Ct
theorem fNe_strS {x : PySem.Str} {st : Store} (h : PySem.PyData.strOk x = true) : fNe (.d (.str x)) (.d (.str x)) st = .ok (.d (.bl false)) st := by
  rw [fNe_pl (n := 0) (m := 0) (.str h) (.str h) (by decide) (by decide)]
  unfold eqD
  simp [toP, PySem.PyData.eqv]
theorem fNe_np {st : Store} : fNe (.d (.str "no plan")) (.d (.str "no plan")) st = .ok (.d (.bl false)) st := fNe_strS (by decide +kernel)
end Ct
set_option Elab.async false
set_option maxRecDepth 100000
set_option maxHeartbeats 4000000
/-! own work: tuples of whole numbers: in, slices. -/
namespace Ct
open PySem PySem.Spec PyProof.Rows L2
def nmT (ks : List Int) : List D := ks.map D.int
theorem flDs_nmT : ∀ ks : List Int, flDs (nmT ks) = some (ks.map V.int)
  | [] => rfl
  | k :: r => by
    show (match flD (.int k), flDs (nmT r) with | some v, some vs => some (v :: vs) | _, _ => none) = _
    rw [flDs_nmT r]; rfl
theorem inV_nmT (i : Int) : ∀ ks : List Int, inV (.int i) (ks.map V.int) = decide (i ∈ ks)
  | [] => by simp [inV]
  | k :: r => by
    have ih := inV_nmT i r
    simp only [inV, List.map_cons, List.any_cons] at ih ⊢
    rw [ih, Bool.eq_iff_iff]
    simp [eqV]
    constructor
    · rintro (e | e)
      · exact .inl e.symm
      · exact .inr e
    · rintro (e | e)
      · exact .inl e.symm
      · exact .inr e
theorem fIn_nmT (neg : Bool) (i : Int) (ks : List Int) (st : Store) : fIn neg (.d (.int i)) (.d (.tup (nmT ks))) st = .ok (.d (.bl (if neg then !decide (i ∈ ks) else decide (i ∈ ks)))) st := by
  show inK neg (.int i) (nmT ks) st = _
  unfold inK
  rw [flDs_nmT]
  simp only [flD, inV_nmT]
theorem fIn_nmL (neg : Bool) (i : Int) (ks : List Int) (st : Store) : fIn neg (.d (.int i)) (.d (.lst (nmT ks))) st = .ok (.d (.bl (if neg then !decide (i ∈ ks) else decide (i ∈ ks)))) st := by
  show inK neg (.int i) (nmT ks) st = _
  unfold inK
  rw [flDs_nmT]
  simp only [flD, inV_nmT]
theorem cut_takeI {α : Type} {xs : List α} {k : Int} (h0 : 0 ≤ k) (h1 : k ≤ xs.length) : cut xs none (some k) = xs.take k.toNat := by
  have e : k = (k.toNat : Int) := by omega
  unfold cut
  rw [HT.sIx_none, show HT.sIx xs.length xs.length (some k) = k.toNat by rw [e, HT.sIx_nat]; omega]
  simp
theorem cut_dropI {α : Type} {xs : List α} {k : Int} (h0 : 0 ≤ k) (h1 : k ≤ xs.length) : cut xs (some k) none = xs.drop k.toNat := by
  have e : k = (k.toNat : Int) := by omega
  unfold cut
  rw [HT.sIx_none, show HT.sIx xs.length 0 (some k) = k.toNat by rw [e, HT.sIx_nat]; omega]
  rw [List.take_of_length_le (by simp)]
theorem f2_eI {g : Int → Int → Int} {i j : Int} {st : Store} : f2 g [.d (.int i), .d (.int j)] st = .ok (.d (.int (g i j))) st := rfl
theorem frzI_map (n : Nat) (st : Store) (k : Nat) : ∀ ds : List D, frzUs (frzU n st k) (ds.map U.d) = some ds
  | [] => rfl
  | d :: r => by
    simp only [List.map_cons, frzUs, frz_d, frzI_map n st k r]
theorem frzI_lst {n : Nat} {st : Store} {k i : Nat} {ds : List D} (h : st[i]? = some (.lst (ds.map U.d))) (hi : n ≤ i) : frzU n st (k + 1) (.loc i) = some (.lst ds) := by
  unfold frzU
  rw [if_neg (by omega), h]
  simp only [frzI_map]
  rfl
theorem Pl_nmT {ks : List Int} (h : ks.length ≤ 100000) : Pl 1 (.tup (nmT ks)) := .tup (by simpa [nmT] using h) fun d hd => by
  obtain ⟨k, _, rfl⟩ := List.mem_map.mp hd
  exact .int
theorem Pl_nmL {ks : List Int} (h : ks.length ≤ 100000) : Pl 1 (.lst (nmT ks)) := .lst (by simpa [nmT] using h) fun d hd => by
  obtain ⟨k, _, rfl⟩ := List.mem_map.mp hd
  exact .int
def augK2 (i : Nat) (env : EnvD) (w : U) (st2 : Store) : RS := .nx (env.set i (some w)) st2
@[simp] theorem augK2_e (i : Nat) (env : EnvD) (w : U) (st2 : Store) : augK2 i env w st2 = .nx (env.set i (some w)) st2 := rfl
def augK1 (i : Nat) (f : U → U → Store → R U) (env : EnvD) (u v : U) (st1 : Store) : RS := (f u v st1).andS (augK2 i env)
@[simp] theorem augK1_e (i : Nat) (f : U → U → Store → R U) (env : EnvD) (u v : U) (st1 : Store) : augK1 i f env u v st1 = (f u v st1).andS (augK2 i env) := rfl
def augK (i : Nat) (f : U → U → Store → R U) (m : EM) (env : EnvD) (o : Option (Option U)) (st : Store) : RS := match o with
  | some (some u) => (m env st).andS (augK1 i f env u)
  | _ => .bad
@[simp] theorem augK_e (i : Nat) (f : U → U → Store → R U) (m : EM) (env : EnvD) (u : U) (st : Store) : augK i f m env (some (some u)) st = (m env st).andS (augK1 i f env u) := rfl
@[simp] theorem ev_aug (i : Nat) (f : U → U → Store → R U) (m : EM) (env : EnvD) (st : Store) : sAug i f m env st = augK i f m env env[i]? st := by
  unfold sAug augK
  rfl
end Ct
set_option Elab.async false
set_option maxRecDepth 100000
set_option maxHeartbeats 4000000
namespace KJ
open PySem Ct
/-- is_number -/
def numB (v : D) (lo hi : Int) : Bool := match v with
  | .int i => decide (lo ≤ i) && decide (i ≤ hi)
  | _ => false
def plainV : D → Bool
  | .obj c _ => decide (c = 0)
  | _ => true
@[simp] theorem plainV_int (i : Int) : plainV (.int i) = true := rfl
@[simp] theorem numB_int (i lo hi : Int) : numB (.int i) lo hi = (decide (lo ≤ i) && decide (i ≤ hi)) := rfl
theorem ev_is_number (v : D) (lo hi : Int) (hv : plainV v = true) (st : Store) : F_is_number [.d v, .d (.int lo), .d (.int hi)] st = .ok (.d (.bl (numB v lo hi))) st := by
  cases v <;> simp [F_is_number, B_is_number, numB, kindOf, isB, biK, biT]
  case int i => by_cases h : lo ≤ i <;> simp [h]
  case obj c l => simp [plainV] at hv; simp [hv]
@[simp] theorem num_int (a lo hi : Int) (st : Store) : F_is_number [.d (.int a), .d (.int lo), .d (.int hi)] st = .ok (.d (.bl (decide (lo ≤ a) && decide (a ≤ hi)))) st := ev_is_number _ lo hi rfl st
@[simp] theorem num_non (lo hi : Int) (st : Store) : F_is_number [.d .non, .d (.int lo), .d (.int hi)] st = .ok (.d (.bl false)) st := ev_is_number _ lo hi rfl st
@[simp] theorem num_bl (b : Bool) (lo hi : Int) (st : Store) : F_is_number [.d (.bl b), .d (.int lo), .d (.int hi)] st = .ok (.d (.bl false)) st := ev_is_number _ lo hi rfl st
@[simp] theorem num_str (b : Str) (lo hi : Int) (st : Store) : F_is_number [.d (.str b), .d (.int lo), .d (.int hi)] st = .ok (.d (.bl false)) st := ev_is_number _ lo hi rfl st
theorem ev_check_t (n : Str) (st : Store) : F_check [.d (.bl true), .d (.str n)] st = .ok (.d .non) st := by
  simp [F_check, B_check]
theorem ev_check_f (n : Str) (st : Store) (hn : n.length ≤ 1000000) : F_check [.d (.bl false), .d (.str n)] st = .exc ⟨11, .str n⟩ st := by
  simp [F_check, B_check, sRaise, fmtD, hn]
structure Leg where
  a : Int
  b : Int
  lo : Int
  hi : Int
def Leg.d (l : Leg) : D := .tup [.int l.a, .int l.b, .int l.lo, .int l.hi]
structure Leg.Ok (m : Int) (l : Leg) : Prop where
  a0 : 0 ≤ l.a
  a1 : l.a < m
  b0 : 0 ≤ l.b
  b1 : l.b < m
  ne : l.a ≠ l.b
  lo0 : -10000 ≤ l.lo
  lohi : l.lo ≤ l.hi
  hi1 : l.hi ≤ 10000
theorem ev_is_leg (m : Int) (l : Leg) (h : l.Ok m) : F_is_leg [.d l.d, .d (.int m)] [] = .ok (.d (.bl true)) [] := by
  obtain ⟨h1, h2, h3, h4, h5, h6, h7, h8⟩ := h
  have q1 : l.a ≤ m - 1 := by omega
  have q2 : l.b ≤ m - 1 := by omega
  have q3 : l.lo ≤ 10000 := by omega
  simp [F_is_leg, B_is_leg, Leg.d, kindOf, isB, biK, biT, h1, h3, h5, h6, h7, h8, q1, q2, q3]

@[simp] theorem check_t (n : Str) (st : Store) : F_check [.d (.bl true), .d (.str n)] st = .ok (.d .non) st := ev_check_t n st
theorem legs_all {m : Int} {ls : List Leg} (h : ∀ l ∈ ls, l.Ok m) : F_are_legs [.d (.tup (ls.map Leg.d)), .d (.int m)] [] = if ls.length ≤ 60 then .ok (.d (.bl true)) [] else .ok (.d (.bl false)) [] := by
  by_cases hl : ls.length ≤ 60
  · have hl' : ¬ (60 : Int) < ls.length := by omega
    have key := all_gx (g := gVar 2) (t := tTrue) (e := mCallP 2 F_is_leg (mCons (mVar 2) (mCons (mVar 1) mNil)) []) (env := [some (.d (.tup (ls.map Leg.d))), some (.d (.int m)), none]) (st := []) (p := fun _ => true) (us0 := (ls.map Leg.d).map U.d) ((ls.map Leg.d).map U.d) (by
      intro u hu
      simp only [List.mem_map] at hu
      obtain ⟨d, ⟨l, hm, rfl⟩, rfl⟩ := hu
      exact ⟨_, rfl, rfl, by simp [ev_is_leg m l (h l hm)]⟩)
    simp [F_are_legs, B_are_legs, kindOf, isB, biK, biT, hl, hl', mAllG, gxRun, wipeE] at key ⊢
    rw [key]
    simp
  · have hl' : (60 : Int) < ls.length := by omega
    simp [F_are_legs, B_are_legs, kindOf, isB, biK, biT, hl, hl']
def svD (m : Int) (ls : List Leg) : D := .obj 0 [.int m, .tup (ls.map Leg.d)]
structure SvOk (m : Int) (ls : List Leg) : Prop where
  m0 : 0 ≤ m
  m1 : m ≤ 24
  n1 : ls.length ≤ 60
  ok : ∀ l ∈ ls, l.Ok m
theorem mk_survey {m : Int} {ls : List Leg} (h : SvOk m ls) : F_SurveyD_initD [.loc 0, .d (.int m), .d (.tup (ls.map Leg.d))] [.ins 0 []] = .ok (.d .non) [.ins 0 [("_rooms", .d (.int m)), ("_legs", .d (.tup (ls.map Leg.d)))]] := by
  have hl := legs_all h.ok
  rw [if_pos h.n1] at hl
  simp [F_SurveyD_initD, B_SurveyD_initD, h.m0, h.m1, hl, sFldM, putU]
  decide
@[simp] theorem is_sv (m : Int) (ls : List Leg) (st : Store) : F_is_survey [.d (svD m ls)] st = .ok (.d (.bl true)) st := by
  simp [F_is_survey, B_is_survey, svD, kindOf, isB]
@[simp] theorem fld_rooms (m : Int) (ls : List Leg) (st : Store) : fFld 0 "_rooms" (.d (svD m ls)) st = .ok (.d (.int m)) st := rfl
@[simp] theorem fld_legs (m : Int) (ls : List Leg) (st : Store) : fFld 0 "_legs" (.d (svD m ls)) st = .ok (.d (.tup (ls.map Leg.d))) st := rfl
@[simp] theorem sv_len (m : Int) (ls : List Leg) (st : Store) : F_SurveyD_lenD [.d (svD m ls)] st = .ok (.d (.int ls.length)) st := by
  simp [F_SurveyD_lenD, B_SurveyD_lenD]
theorem fLenO_sv (m : Int) (ls : List Leg) (st : Store) (h : ls.length ≤ 60) : fLenO 0 F_SurveyD_lenD [.d (svD m ls)] st = .ok (.d (.int ls.length)) st := by
  exact ev_lenO (sv_len m ls []) ⟨by omega, by omega⟩
/-- the ends of a pair (k, forward) -/
def endsL (l : Leg) (f : Bool) : D := if f then .tup [.int l.a, .int l.b, .int l.hi] else .tup [.int l.b, .int l.a, .int (-l.lo)]
theorem ix_legs (ls : List Leg) (k : Int) (st : Store) (h0 : 0 ≤ k) (h1 : k < ls.length) : ∃ l ∈ ls, ls[k.toNat]? = some l ∧ fIx (.d (.tup (ls.map Leg.d))) (.d (.int k)) st = .ok (.d l.d) st := by
  have hk : k.toNat < ls.length := by omega
  refine ⟨ls[k.toNat], List.getElem_mem hk, List.getElem?_eq_getElem hk, ?_⟩
  rw [fIx_tup, atI_nat _ _ h0 (by simpa using h1)]
  simp [hk]
@[simp] theorem ix_pair0 (a b : D) (st : Store) : fIx (.d (.tup [a, b])) (.d (.int 0)) st = .ok (.d a) st := rfl
@[simp] theorem ix_pair1 (a b : D) (st : Store) : fIx (.d (.tup [a, b])) (.d (.int 1)) st = .ok (.d b) st := rfl
/-- a pair of a bent walk -/
def PG (p : D) : Prop := ∃ k, (∃ f, p = .tup [.int k, .bl f]) ∨ ∃ i, p = .tup [.int k, .int i]
def pairB (n : Nat) : D → Bool
  | .tup [.int k, .bl _] => decide (0 ≤ k) && decide (k ≤ n - 1)
  | _ => false
def uB (f : D → Bool) : U → Bool
  | .d x => f x
  | _ => false
def walkB (n : Nat) : D → Bool
  | .tup l => l.all (pairB n)
  | _ => false
/-- a bent walk -/
def WV (v : D) : Prop := v = .non ∨ ∃ l, (v = .tup l ∨ v = .lst l) ∧ ∀ p ∈ l, PG p
theorem all_uB (f : D → Bool) (l : List D) : (l.map U.d).all (uB f) = l.all f := by
  induction l with
  | nil => rfl
  | cons x r ih => simp [uB, ih]
noncomputable def apBody : SM := (sSeq (sIf (tOrM (tNotM (tTruth (mIsi 0 .tup (mVar 2)))) (tOrM (tBool (fBin fNe (mCB fLen (mCons (mVar 2) mNil)) (mC (.int 2)))) (tNotM (tTruth (mIsi 0 .bl (fBin fIx (mVar 2) (mC (.int 1)))))))) (sRet (mC (.bl false))) sNil)
        (sIf (tNotM (tTruth (mCallP 3 F_is_number (mCons (fBin fIx (mVar 2) (mC (.int 0))) (mCons (mC (.int 0)) (mCons (fBin fSub (mCB (fLenO 0 F_SurveyD_lenD) (mCons (mVar 0) mNil)) (mC (.int 1))) mNil))) []))) (sRet (mC (.bl false))) sNil))
theorem ap1 (m : Int) (ls : List Leg) (hl : ls.length ≤ 60) (l : List D) (k : Int) (f : Bool) : apBody [some (.d (svD m ls)), some (.d (.tup l)), some (.d (.tup [.int k, .bl f]))] [] = if (decide (0 ≤ k) && decide (k ≤ (ls.length : Int) - 1)) = true then .nx [some (.d (svD m ls)), some (.d (.tup l)), some (.d (.tup [.int k, .bl f]))] [] else .rt (.d (.bl false)) [] := by
  unfold apBody
  simp -implicitDefEqProofs [kindOf, isB, biK, biT, fLenO_sv m ls [] hl]
  by_cases h1 : 0 ≤ k <;> by_cases h2 : k ≤ (ls.length : Int) - 1 <;> simp [h1, h2]
theorem ap2 (m : Int) (ls : List Leg) (l : List D) (k i : Int) : apBody [some (.d (svD m ls)), some (.d (.tup l)), some (.d (.tup [.int k, .int i]))] [] = .rt (.d (.bl false)) [] := by
  unfold apBody
  simp [kindOf, isB, biK, biT]
end KJ
set_option Elab.async false
set_option maxRecDepth 100000
set_option maxHeartbeats 4000000
namespace KJ
open PySem Ct
abbrev rowC (s : D) (p q r : Int) : Cell := .lst [.d s, .d (.int p), .d (.int q), .d (.int r)]
@[simp] theorem ix_row0 (a b c d : U) (t : Store) : fIx (.loc 0) (.d (.int 0)) (.lst [a, b, c, d] :: t) = .ok a (.lst [a, b, c, d] :: t) := rfl
@[simp] theorem ix_row1 (a b c d : U) (t : Store) : fIx (.loc 0) (.d (.int 1)) (.lst [a, b, c, d] :: t) = .ok b (.lst [a, b, c, d] :: t) := rfl
@[simp] theorem ix_row2 (a b c d : U) (t : Store) : fIx (.loc 0) (.d (.int 2)) (.lst [a, b, c, d] :: t) = .ok c (.lst [a, b, c, d] :: t) := rfl
@[simp] theorem ix_row3 (a b c d : U) (t : Store) : fIx (.loc 0) (.d (.int 3)) (.lst [a, b, c, d] :: t) = .ok d (.lst [a, b, c, d] :: t) := rfl
@[simp] theorem set_row1 (a b c d u : U) (env : EnvD) (t : Store) : gItem (mVar 0) (mC (.int 1)) u (some (.loc 0) :: env) (.lst [a, b, c, d] :: t) = .ok (some (.loc 0) :: env) (.lst [a, u, c, d] :: t) := rfl
@[simp] theorem set_row2 (a b c d u : U) (env : EnvD) (t : Store) : gItem (mVar 0) (mC (.int 2)) u (some (.loc 0) :: env) (.lst [a, b, c, d] :: t) = .ok (some (.loc 0) :: env) (.lst [a, b, u, d] :: t) := rfl
@[simp] theorem set_row3 (a b c d u : U) (env : EnvD) (t : Store) : gItem (mVar 0) (mC (.int 3)) u (some (.loc 0) :: env) (.lst [a, b, c, d] :: t) = .ok (some (.loc 0) :: env) (.lst [a, b, c, u] :: t) := rfl
structure Scr (s : D) (ns : List Int) : Prop where
  len : ∀ st, fLen [.d s] st = .ok (.d (.int ns.length)) st
  ix : ∀ (i : Int), 0 ≤ i → i < ns.length → ∃ z, ∀ st, fIx (.d s) (.d (.int i)) st = .ok (.d (.int z)) st
theorem scr_lst (ns : List Int) : Scr (.lst (ns.map D.int)) ns := by
  refine ⟨fun st => by simp, fun i h0 h1 => ?_⟩
  have hk : i.toNat < ns.length := by omega
  refine ⟨ns[i.toNat], fun st => ?_⟩
  show (match L2.atI ((ns.map D.int).map U.d) i with | some x => R.ok x st | none => .bad) = _
  rw [atI_nat _ _ h0 (by simpa using h1)]
  simp [hk]
theorem scr_frz (ns : List Int) : Scr (.frz (ns.map D.int)) ns := by
  refine ⟨fun st => by simp, fun i h0 h1 => ?_⟩
  have hk : i.toNat < ns.length := by omega
  refine ⟨ns[i.toNat], fun st => ?_⟩
  show (match L2.atI ((ns.map D.int).map U.d) i with | some x => R.ok x st | none => .bad) = _
  rw [atI_nat _ _ h0 (by simpa using h1)]
  simp [hk]
theorem log2_small {n : Int} {k : Nat} (h0 : 0 ≤ n) (h : n < 2 ^ 40) : n.natAbs.log2 < 9000 := by
  by_cases hz : n.natAbs = 0
  · rw [hz]; decide
  · have h1 : n.natAbs < 2 ^ 40 := by omega
    have := (Nat.log2_lt hz).mpr h1
    omega
theorem taken_ok {s : D} {ns : List Int} (S : Scr s ns) (p q r many : Int) (hp : 0 ≤ p) (hq : 0 ≤ q) (hq2 : q < 2147483648) (hm : 0 < many) (hm2 : many < 2 ^ 40) :
    ∃ k p' q' r', F__law_taken [.loc 0, .d (.int many)] [rowC s p q r] = .ok (.d (.int k)) [rowC s p' q' r'] ∧ 0 ≤ k ∧ k < many ∧ 0 ≤ p' ∧ 0 ≤ q' ∧ q' < 2147483648 := by
  have hml : many.natAbs.log2 < 9000 := log2_small (k := 0) (by omega) hm2
  have hql : q.natAbs.log2 < 9000 := log2_small (k := 0) hq (by omega)
  have hmm : ∀ x : Int, 0 ≤ x % many ∧ x % many < many := fun x => ⟨Int.emod_nonneg _ (by omega), Int.emod_lt_of_pos _ hm⟩
  have hqq : ∀ x : Int, 0 ≤ x % 2147483647 ∧ x % 2147483647 < 2147483648 := fun x => ⟨Int.emod_nonneg _ (by omega), by have := Int.emod_lt_of_pos x (show (0 : Int) < 2147483647 by omega); omega⟩
  have hc : q.natAbs.log2 + Nat.log2 48271 < 1000000 := by
    have : Nat.log2 48271 = 15 := by decide +kernel
    omega
  have h7 : Nat.log2 7 < 9000 := by decide +kernel
  by_cases h3 : 0 < r
  · refine ⟨r % many, p, q, r / many, ?_, (hmm r).1, (hmm r).2, hp, hq, hq2⟩
    simp -implicitDefEqProofs [F__law_taken, B__law_taken, h3, hm, hml]
  · by_cases h1 : (ns.length : Int) < p + 1
    · refine ⟨((q * 48271 + 11) % 2147483647 / 7) % many, p + 1, (q * 48271 + 11) % 2147483647, r, ?_, (hmm _).1, (hmm _).2, by omega, (hqq _).1, (hqq _).2⟩
      simp -implicitDefEqProofs [F__law_taken, B__law_taken, h3, hm, hml, S.len, h1, hc, h7]
    · obtain ⟨z, hz⟩ := S.ix p (by omega) (by omega)
      by_cases h8 : (1000000000000000000 : Int) ≤ z
      · refine ⟨z % many, p + 1, (q * 48271 + z + 11) % 2147483647, z / many, ?_, (hmm _).1, (hmm _).2, by omega, (hqq _).1, (hqq _).2⟩
        simp -implicitDefEqProofs [F__law_taken, B__law_taken, h3, hm, hml, S.len, h1, hc, h7, hz, h8]
      · refine ⟨z % many, p + 1, (q * 48271 + z + 11) % 2147483647, r, ?_, (hmm _).1, (hmm _).2, by omega, (hqq _).1, (hqq _).2⟩
        simp -implicitDefEqProofs [F__law_taken, B__law_taken, h3, hm, hml, S.len, h1, hc, h7, hz, h8]
end KJ
namespace KJ
open PySem Ct
/-- a call of _law_taken in an expression: row in slot 0's place -/
theorem backR_row {s : D} {p q r k p' q' r' : Int} {st : Store} {F : FM} {us : List U} (h : F us [rowC s p q r] = .ok (.d (.int k)) [rowC s p' q' r']) : backR (F us [rowC s p q r]) 0 st = .ok (.d (.int k)) (st.set 0 (rowC s p' q' r')) := by
  rw [h]
  rfl
end KJ

namespace KJ
open PySem Ct
def RowI (s : D) (c : Cell) : Prop := ∃ p q r, c = rowC s p q r ∧ 0 ≤ p ∧ 0 ≤ q ∧ q < 2147483648
def callRK (n : Nat) (F : FM) (dds : List D) (us : List U) (st1 : Store) : R U := match us with
  | .loc i :: rest => match dsOf rest, st1[i]? with
    | some ds, some (.lst cs) => match dsOf cs with
      | some _ => if (ds ++ dds).length + 1 = n then backR (F (.loc 0 :: (ds ++ dds).map U.d) [.lst cs]) i st1 else .bad
      | none => .bad
    | _, _ => .bad
  | _ => .bad
theorem ev_callR (n : Nat) (F : FM) (ms : AM) (dds : List D) (env : EnvD) (st : Store) : mCallR n F ms dds env st = (ms env st).bind (callRK n F dds) := rfl
/-- what a def that takes the row gives -/
def CallsR (s : D) (n : Nat) (F : FM) (ds : List D) (Q : D → Prop) : Prop := ∀ c, RowI s c → ∃ d c', RowI s c' ∧ Q d ∧ ∀ t : Store, callRK n F [] (.loc 0 :: ds.map U.d) (c :: t) = .ok (.d d) (c' :: t)
theorem callsR_of {s : D} {n : Nat} {F : FM} {ds : List D} {Q : D → Prop} (hn : ds.length + 1 = n) (h : ∀ p q r, 0 ≤ p → 0 ≤ q → q < 2147483648 → ∃ d c' j, RowI s c' ∧ Q d ∧ F (.loc 0 :: ds.map U.d) [rowC s p q r] = .ok (.d d) (c' :: j)) : CallsR s n F ds Q := by
  rintro c ⟨p, q, r, rfl, h1, h2, h3⟩
  obtain ⟨d, c', j, hc, hQ, e⟩ := h p q r h1 h2 h3
  refine ⟨d, c', hc, hQ, fun t => ?_⟩
  obtain ⟨p', q', r', rfl, _⟩ := hc
  unfold callRK
  simp only [dsOf_map, List.getElem?_cons_zero, List.append_nil]
  show (if ds.length + 1 = n then backR (F (.loc 0 :: ds.map U.d) [rowC s p q r]) 0 (rowC s p q r :: t) else .bad) = _
  rw [if_pos hn, e]
  rfl
theorem taken_R {s : D} {ns : List Int} (S : Scr s ns) (many : Int) (hm : 0 < many) (hm2 : many < 2 ^ 40) : CallsR s 2 F__law_taken [.int many] (fun d => ∃ k, d = .int k ∧ 0 ≤ k ∧ k < many) := by
  refine callsR_of rfl fun p q r h1 h2 h3 => ?_
  obtain ⟨k, p', q', r', e, k0, k1, a, b, c⟩ := taken_ok S p q r many h1 h2 h3 hm hm2
  exact ⟨_, _, [], ⟨p', q', r', rfl, a, b, c⟩, ⟨k, rfl, k0, k1⟩, e⟩
end KJ

namespace KJ
open PySem Ct
/-- an item of a list -/
theorem pick_R {s : D} {ns : List Int} (S : Scr s ns) (l : List D) (hl : l ≠ []) (hn : l.length < 1000) : CallsR s 2 F__law_pick [.lst l] (fun d => d ∈ l) := by
  have h0 : 0 < (l.length : Int) := by
    have : l.length ≠ 0 := fun e => hl (List.eq_nil_of_length_eq_zero e)
    omega
  rintro c hc
  have T := taken_R S l.length h0 (by omega)
  refine callsR_of rfl (fun p q r h1 h2 h3 => ?_) c hc
  obtain ⟨d, c', hc', ⟨k, rfl, k0, k1⟩, e⟩ := T (rowC s p q r) ⟨p, q, r, rfl, h1, h2, h3⟩
  have hk : k.toNat < l.length := by omega
  refine ⟨l[k.toNat], c', [], hc', List.getElem_mem hk, ?_⟩
  have hix : fIx (.d (.lst l)) (.d (.int k)) [c'] = .ok (.d l[k.toNat]) [c'] := by
    show (match L2.atI (l.map U.d) k with | some x => R.ok x [c'] | none => .bad) = _
    rw [atI_nat _ _ k0 (by simpa using k1)]
    simp [hk]
  simp only [List.map_cons, List.map_nil] at e
  simp -implicitDefEqProofs [F__law_pick, B__law_pick, ev_callR, e, hix]
end KJ
set_option Elab.async false
set_option maxRecDepth 100000
set_option maxHeartbeats 4000000
namespace KJ
open PySem PySem.Spec PyProof.Rows L2 Ct
/-- the row kept, a value with Q -/
def PostR (s : D) (Q : D → Prop) (u : U) (st : Store) : Prop := ∃ (d : D) (c : Cell) (j : Store), u = .d d ∧ st = c :: j ∧ RowI s c ∧ Q d
theorem PostR.mk {s : D} {Q : D → Prop} {d : D} {c : Cell} {j : Store} (hc : RowI s c) (h : Q d) : PostR s Q (.d d) (c :: j) := ⟨d, c, j, rfl, rfl, hc, h⟩
theorem callsR_w {s : D} {n : Nat} {F : FM} {ds : List D} {Q : D → Prop} (hn : ds.length + 1 = n) (h : ∀ c, RowI s c → wR (F (.loc 0 :: ds.map U.d) [c]) (PostR s Q) noX) : CallsR s n F ds Q := by
  refine callsR_of hn fun p q r h1 h2 h3 => ?_
  obtain ⟨u, st, e, d, c', j, rfl, rfl, hc, hQ⟩ := wR_get (h _ ⟨p, q, r, rfl, h1, h2, h3⟩)
  exact ⟨d, c', j, hc, hQ, e⟩
theorem w_callR {s : D} {n : Nat} {F : FM} {ds : List D} {P : D → Prop} {t : Store} {Q : U → Store → Prop} {X : Exc → Store → Prop} (h : CallsR s n F ds P) {c : Cell} (hc : RowI s c) (k : ∀ d c', RowI s c' → P d → Q (.d d) (c' :: t)) : wR (callRK n F [] (.loc 0 :: ds.map U.d) (c :: t)) Q X := by
  obtain ⟨d, c', h1, h2, e⟩ := h c hc
  rw [e, wR_ok]
  exact k d c' h1 h2
theorem w_taken {s : D} {ns : List Int} (S : Scr s ns) {many : Int} {t : Store} {Q : U → Store → Prop} {X : Exc → Store → Prop} {c : Cell} (hc : RowI s c) (hm : 0 < many) (hm2 : many < 2 ^ 40) (k : ∀ k c', RowI s c' → 0 ≤ k → k < many → Q (.d (.int k)) (c' :: t)) : wR (callRK 2 F__law_taken [] [.loc 0, .d (.int many)] (c :: t)) Q X :=
  w_callR (taken_R S many hm hm2) hc fun d c' h1 ⟨i, e, h2, h3⟩ => by subst e; exact k i c' h1 h2 h3
theorem w_pick {s : D} {ns : List Int} (S : Scr s ns) {l : List D} {t : Store} {Q : U → Store → Prop} {X : Exc → Store → Prop} {c : Cell} (hc : RowI s c) (hl : l ≠ []) (hn : l.length < 1000) (k : ∀ d c', RowI s c' → d ∈ l → Q (.d d) (c' :: t)) : wR (callRK 2 F__law_pick [] [.loc 0, .d (.lst l)] (c :: t)) Q X :=
  w_callR (pick_R S l hl hn) hc k
theorem ix_int {hs : List Int} {i : Int} {st : Store} (h0 : 0 ≤ i) (h1 : i < hs.length) : fIx (.d (.lst (hs.map D.int))) (.d (.int i)) st = .ok (.d (.int (hs.getD i.toNat 0))) st := by
  have hk : i.toNat < hs.length := by omega
  show (match L2.atI ((hs.map D.int).map U.d) i with | some x => R.ok x st | none => .bad) = _
  rw [atI_nat _ _ h0 (by simpa using h1)]
  simp [hk]
def LegsP (m many : Int) (d : D) : Prop := ∃ ls : List Leg, d = .tup (ls.map Leg.d) ∧ (ls.length : Int) ≤ many ∧ ∀ l ∈ ls, l.Ok m
def heightsJ (s : D) (k : Nat) (acc : List U) (st : Store) : Prop := ∃ (c : Cell) (hs : List Int), RowI s c ∧ st = [c] ∧ acc = (hs.map D.int).map U.d ∧ hs.length = k ∧ ∀ h ∈ hs, 0 ≤ h ∧ h < 200
def LegsT (m many : Int) (d : D) : Prop := ∃ ls : List Leg, d = .tup (ls.map Leg.d) ∧ (ls.length : Int) ≤ many ∧ ∀ l ∈ ls, l.Ok m ∧ -9300 ≤ l.lo ∧ l.hi ≤ 9300
def legsI (s : D) (m : Int) (e1 : List U) (k : Nat) (e : EnvD) (st : Store) : Prop := ∃ (c : Cell) (ls : List Leg) (o7 o8 o9 o10 o11 o12 o13 : Option U), RowI s c ∧ st = [c, .lst ((ls.map Leg.d).map U.d)] ∧ ls.length ≤ k ∧ (∀ l ∈ ls, l.Ok m ∧ -9300 ≤ l.lo ∧ l.hi ≤ 9300) ∧ e = e1.map some ++ [o7, o8, o9, o10, o11, o12, o13]
theorem legs_T {s : D} {ns : List Int} (S : Scr s ns) (m many : Int) (hm : 0 ≤ m) (hm2 : m ≤ 24) (hn : 0 ≤ many) (hn2 : many ≤ 60) : CallsR s 3 F__law_legs [.int m, .int many] (LegsT m many) := by
  refine callsR_w rfl fun c hc => ?_
  (try simp -implicitDefEqProofs [-List.map_map, ev_callR, ev_range1, lstK, tupK, wipeE, F__law_legs, B__law_legs, wipeE])
  refine wS_ite (fun h => ?_) (fun h => ?_)
  · (try simp -implicitDefEqProofs [-List.map_map, ev_callR, ev_range1, lstK, tupK, wipeE])
    exact .mk hc ⟨[], rfl, by simpa using hn, by simp⟩
  · (try simp -implicitDefEqProofs [-List.map_map, ev_callR, ev_range1, lstK, tupK, wipeE])
    rw [range1_int m _ (by omega) (by omega)]
    (try simp -implicitDefEqProofs [-List.map_map, ev_callR, ev_range1, lstK, tupK, wipeE])
    refine wR_lc (J := heightsJ s) _ [] 0 [c] ⟨c, [], hc, rfl, rfl, rfl, by simp⟩ (by simp [rangeU]; omega) (fun k u hu acc st hJ => ?_) (fun acc st hJ => ?_)
    · obtain ⟨c, hs, hc, rfl, rfl, hl, hh⟩ := hJ
      (try simp -implicitDefEqProofs [-List.map_map, ev_callR, ev_range1, lstK, tupK, wipeE])
      refine w_taken S hc (by omega) (by omega) fun i c' hc' h0 h1 => ?_
      exact ⟨c', hs ++ [i], hc', rfl, by simp, by simp; omega, by
        intro h hh'
        rcases List.mem_append.mp hh' with q | q
        · exact hh h q
        · simp at q; subst q; exact ⟨h0, h1⟩⟩
    · obtain ⟨c, hs, hc, rfl, rfl, hl, hh⟩ := hJ
      have hl' : (hs.length : Int) = m := by simp [rangeU] at hl; omega
      clear hl
      (try simp -implicitDefEqProofs [-List.map_map, ev_callR, ev_range1, lstK, tupK, wipeE])
      refine w_pick S hc (by simp) (by simp) fun d1 c hc h1 => ?_; (try simp -implicitDefEqProofs [-List.map_map, ev_callR, ev_range1, lstK, tupK, wipeE])
      obtain ⟨w, rfl, w0, w1⟩ : ∃ w, d1 = .int w ∧ 0 < w ∧ w ≤ 100 := by
        simp at h1
        rcases h1 with rfl | rfl | rfl | rfl <;> exact ⟨_, rfl, by decide, by decide⟩
      refine w_pick S hc (by simp) (by simp) fun d2 c hc h2 => ?_; (try simp -implicitDefEqProofs [-List.map_map, ev_callR, ev_range1, lstK, tupK, wipeE])
      obtain ⟨g, rfl, g0, g1⟩ : ∃ g, d2 = .int g ∧ 0 ≤ g ∧ g ≤ 12 := by
        simp at h2
        rcases h2 with rfl | rfl | rfl <;> exact ⟨_, rfl, by decide, by decide⟩
      clear h1 h2
      (try simp -implicitDefEqProofs [-List.map_map, ev_callR, ev_range1, lstK, tupK, wipeE])
      refine w_taken S hc (by omega) (by omega) fun i1 c hc a0 a1 => ?_; (try simp -implicitDefEqProofs [-List.map_map, ev_callR, ev_range1, lstK, tupK, wipeE])
      refine w_taken S hc (by omega) (by omega) fun i2 c hc b0 b1 => ?_; (try simp -implicitDefEqProofs [-List.map_map, ev_callR, ev_range1, lstK, tupK, wipeE])
      (try simp -implicitDefEqProofs [-List.map_map, ev_callR, ev_range1, lstK, tupK, wipeE])
      refine w_pick S hc (by simp) (by simp) fun d3 c hc h3 => ?_; (try simp -implicitDefEqProofs [-List.map_map, ev_callR, ev_range1, lstK, tupK, wipeE])
      obtain ⟨t, rfl, t0, t1⟩ : ∃ t, d3 = .int t ∧ 0 ≤ t ∧ t ≤ many := by
        simp at h3
        rcases h3 with rfl | rfl | rfl
        · exact ⟨_, rfl, by omega, by omega⟩
        · exact ⟨_, rfl, by omega, by omega⟩
        · refine ⟨_, rfl, ?_, ?_⟩ <;> split <;> omega
      clear h3
      rw [range1_int t _ (by omega) (by omega)]
      (try simp -implicitDefEqProofs [-List.map_map, ev_callR, ev_range1, lstK, tupK, wipeE])
      refine wS_loopN (I := legsI s m [.loc 0, .d (.int m), .d (.int many), .d (.lst (hs.map D.int)), .d (.int w), .d (.int g), .loc 1]) _ 0 _ _ ⟨c, [], none, none, none, none, none, none, none, hc, rfl, by simp, by simp, rfl⟩ (fun k u hu e st hI => ?_) (fun e st hI => ?_)
      · obtain ⟨c, ls, o7, o8, o9, o10, o11, o12, o13, hc, rfl, hk, hls, rfl⟩ := hI
        have hkt : k < t.toNat := by
          have := (List.getElem?_eq_some_iff.mp hu).1
          simpa [rangeU] using this
        (try simp -implicitDefEqProofs [-List.map_map, ev_callR, ev_range1, lstK, tupK, wipeE])
        refine w_taken S hc (by omega) (by omega) fun one c hc p0 p1 => ?_; (try simp -implicitDefEqProofs [-List.map_map, ev_callR, ev_range1, lstK, tupK, wipeE])
        (try simp -implicitDefEqProofs [-List.map_map, ev_callR, ev_range1, lstK, tupK, wipeE])
        refine w_taken S hc (by omega) (by omega) fun ot c hc q0 q1 => ?_; (try simp -implicitDefEqProofs [-List.map_map, ev_callR, ev_range1, lstK, tupK, wipeE])
        (try simp -implicitDefEqProofs [-List.map_map, ev_callR, ev_range1, lstK, tupK, wipeE])
        refine wR_iteOk fun x hx hy => ?_
        obtain ⟨o, rfl, o0, o1, oe⟩ : ∃ o, x = .d (.int o) ∧ 0 ≤ o ∧ o < m ∧ one ≠ o := by
          by_cases z : m ≤ one + 1 + ot
          · exact ⟨_, hx z, by omega, by omega, by omega⟩
          · exact ⟨_, hy z, by omega, by omega, by omega⟩
        clear hx hy
        have hgt : ∀ i : Int, 0 ≤ i → i < m → ∃ h : Int, 0 ≤ h ∧ h < 200 ∧ ∀ st, fIx (.d (.lst (hs.map D.int))) (.d (.int i)) st = .ok (.d (.int h)) st := fun i h0 h1 => by
          have hi : i.toNat < hs.length := by omega
          have := hh hs[i.toNat] (List.getElem_mem hi)
          refine ⟨hs.getD i.toNat 0, by simpa [hi] using this.1, by simpa [hi] using this.2, fun st => ix_int h0 (by omega)⟩
        obtain ⟨ho, go, go', eo⟩ := hgt o o0 o1
        obtain ⟨hn, gn, gn', en⟩ := hgt one p0 p1
        (try simp -implicitDefEqProofs [-List.map_map, ev_callR, ev_range1, lstK, tupK, wipeE, eo, en])
        refine w_taken S hc (by omega) (by omega) fun x1 c hc x0 x2 => ?_; (try simp -implicitDefEqProofs [-List.map_map, ev_callR, ev_range1, lstK, tupK, wipeE])
        (try simp -implicitDefEqProofs [-List.map_map, ev_callR, ev_range1, lstK, tupK, wipeE])
        refine w_taken S hc (by omega) (by omega) fun y1 c hc y0 y2 => ?_; (try simp -implicitDefEqProofs [-List.map_map, ev_callR, ev_range1, lstK, tupK, wipeE])
        (try simp -implicitDefEqProofs [-List.map_map, ev_callR, ev_range1, lstK, tupK, wipeE])
        have fin : ∀ (lo hi : Int) (c : Cell), RowI s c → -9300 ≤ lo → lo ≤ hi → hi ≤ 9300 → ∀ o7 o10 o13, legsI s m [U.loc 0, U.d (D.int m), U.d (D.int many), U.d (D.lst (List.map D.int hs)), U.d (D.int w), U.d (D.int g), U.loc 1] (k + 1) [some (U.loc 0), some (U.d (D.int m)), some (U.d (D.int many)), some (U.d (D.lst (List.map D.int hs))), some (U.d (D.int w)), some (U.d (D.int g)), some (U.loc 1), o7, some (.d (.int one)), some (.d (.int o)), o10, some (.d (.int lo)), some (.d (.int hi)), o13] [c, .lst ((ls.map Leg.d).map U.d ++ [.d (.tup [.int one, .int o, .int lo, .int hi])])] := by
          intro lo hi c hc l1 l2 l3 o7 o10 o13
          refine ⟨c, ls ++ [⟨one, o, lo, hi⟩], _, _, _, _, _, _, _, hc, by simp [Leg.d], by simp; omega, fun l hl => ?_, rfl⟩
          rcases List.mem_append.mp hl with q | q
          · exact hls l q
          · simp at q
            subst q
            exact ⟨⟨p0, p1, o0, o1, oe, by simp only; omega, l2, by simp only; omega⟩, l1, l3⟩
        refine wR_ite (fun hg => ?_) (fun hg => ?_)
        · (try simp -implicitDefEqProofs [-List.map_map, ev_callR, ev_range1, lstK, tupK, wipeE])
          refine w_taken S hc (by omega) (by omega) fun z1 c hc z0 z2 => ?_; (try simp -implicitDefEqProofs [-List.map_map, ev_callR, ev_range1, lstK, tupK, wipeE])
          (try simp -implicitDefEqProofs [-List.map_map, ev_callR, ev_range1, lstK, tupK, wipeE])
          refine wS_ite (fun hz => ?_) (fun hz => ?_)
          · (try simp -implicitDefEqProofs [-List.map_map, ev_callR, ev_range1, lstK, tupK, wipeE])
            refine w_pick S hc (by simp) (by simp) fun by_ c hc hb => ?_; (try simp -implicitDefEqProofs [-List.map_map, ev_callR, ev_range1, lstK, tupK, wipeE])
            obtain ⟨by_, rfl, by0, by1⟩ : ∃ i, by_ = .int i ∧ -9000 ≤ i ∧ i ≤ 9000 := by
              simp at hb
              rcases hb with rfl | rfl | rfl | rfl | rfl | rfl <;> exact ⟨_, rfl, by decide, by decide⟩
            (try simp -implicitDefEqProofs [-List.map_map, ev_callR, ev_range1, lstK, tupK, wipeE, tupK])
            refine w_app (us := (ls.map Leg.d).map U.d) rfl (by simp; omega) ?_
            (try simp -implicitDefEqProofs [-List.map_map, ev_callR, ev_range1, lstK, tupK, wipeE])
            exact fin _ _ c hc (by omega) (by omega) (by omega) _ _ _
          · (try simp -implicitDefEqProofs [-List.map_map, ev_callR, ev_range1, lstK, tupK, wipeE, tupK])
            refine w_app (us := (ls.map Leg.d).map U.d) rfl (by simp; omega) ?_
            (try simp -implicitDefEqProofs [-List.map_map, ev_callR, ev_range1, lstK, tupK, wipeE])
            exact fin _ _ c hc (by omega) (by omega) (by omega) _ _ _
        · (try simp -implicitDefEqProofs [-List.map_map, ev_callR, ev_range1, lstK, tupK, wipeE, tupK])
          refine w_app (us := (ls.map Leg.d).map U.d) rfl (by simp; omega) ?_
          (try simp -implicitDefEqProofs [-List.map_map, ev_callR, ev_range1, lstK, tupK, wipeE])
          exact fin _ _ c hc (by omega) (by omega) (by omega) _ _ _
      · obtain ⟨c, ls, o7, o8, o9, o10, o11, o12, o13, hc, rfl, hk, hls, rfl⟩ := hI
        have hkt : ls.length ≤ t.toNat := by simpa [rangeU] using hk
        (try simp -implicitDefEqProofs [-List.map_map, ev_callR, ev_range1, lstK, tupK, wipeE])
        exact .mk hc ⟨ls, rfl, by omega, hls⟩
theorem legs_R {s : D} {ns : List Int} (S : Scr s ns) (m many : Int) (hm : 0 ≤ m) (hm2 : m ≤ 24) (hn : 0 ≤ many) (hn2 : many ≤ 60) : CallsR s 3 F__law_legs [.int m, .int many] (LegsP m many) := fun c hc => by
  obtain ⟨d, c', h1, ⟨ls, h2, h3, h4⟩, h5⟩ := legs_T S m many hm hm2 hn hn2 c hc
  exact ⟨d, c', h1, ⟨ls, h2, h3, fun l hl => (h4 l hl).1⟩, h5⟩
theorem make_sv {m : Int} {ls : List Leg} (h : SvOk m ls) (st : Store) : backMk (F_SurveyD_initD [.loc 0, .d (.int m), .d (.tup (ls.map Leg.d))] [.ins 0 []]) st = .ok (.d (svD m ls)) st := by
  rw [mk_survey h]; rfl
end KJ
set_option Elab.async false
set_option maxRecDepth 100000
set_option maxHeartbeats 4000000
namespace KJ
open PySem PySem.Spec PyProof.Rows L2 Ct
/-! ### alike: a value and itself -/
def nilJ (k : Nat) (acc : List U) (st : Store) : Prop := acc = [] ∧ st = []
theorem alike_refl : ∀ (k : Nat) (n : Nat) (d : D) (st : Store), Pl n d → n < k → n ≤ 60 → backP (F__law_alike k [.d d, .d d] []) st = .ok (.d (.bl true)) st := by
  intro k
  induction k with
  | zero => intro n d st _ h; omega
  | succ k ih =>
    intro n d st hp hk hn
    refine eqP_of ?_
    have hr := hp.refl
    cases hp with
    | non => (try simp -implicitDefEqProofs [-List.map_map, ev_callR, ev_range1, lstK, tupK, wipeE, F__law_alike, B__law_alike])
    | bl => (try simp -implicitDefEqProofs [-List.map_map, ev_callR, ev_range1, lstK, tupK, wipeE, F__law_alike, B__law_alike])
    | int => (try simp -implicitDefEqProofs [-List.map_map, ev_callR, ev_range1, lstK, tupK, wipeE, F__law_alike, B__law_alike])
    | str h =>
      (try simp -implicitDefEqProofs [-List.map_map, ev_callR, ev_range1, lstK, tupK, wipeE, F__law_alike, B__law_alike])
      rw [fEq_pl (.str h) (.str h) hn hn, hr]
      (try simp -implicitDefEqProofs [-List.map_map, ev_callR, ev_range1, lstK, tupK, wipeE])
    | @tup m l hl h => 
      (try simp -implicitDefEqProofs [-List.map_map, ev_callR, ev_range1, lstK, tupK, wipeE, F__law_alike, B__law_alike, wipeE])
      rw [range1_int _ _ (by omega) (by omega)]
      (try simp -implicitDefEqProofs [-List.map_map, ev_callR, ev_range1, lstK, tupK, wipeE])
      refine wR_lc (J := nilJ) _ [] 0 _ ⟨rfl, rfl⟩ (by simp; omega) (fun i u hu acc st hJ => ?_) (fun acc st hJ => ?_)
      · obtain ⟨rfl, rfl⟩ := hJ
        obtain ⟨hi, rfl⟩ := range_at hu
        have hx : l[i]? = some l[i] := List.getElem?_eq_getElem hi
        (try simp -implicitDefEqProofs [-List.map_map, ev_callR, ev_range1, lstK, tupK, wipeE, ix_tupN hx, ih m l[i] [] (h _ (List.getElem_mem hi)) (by omega) (by omega)])
        exact ⟨rfl, rfl⟩
      · obtain ⟨rfl, rfl⟩ := hJ
        (try simp -implicitDefEqProofs [-List.map_map, ev_callR, ev_range1, lstK, tupK, wipeE])
    | @lst m l hl h =>
      (try simp -implicitDefEqProofs [-List.map_map, ev_callR, ev_range1, lstK, tupK, wipeE, F__law_alike, B__law_alike, wipeE])
      rw [range1_int _ _ (by omega) (by omega)]
      (try simp -implicitDefEqProofs [-List.map_map, ev_callR, ev_range1, lstK, tupK, wipeE])
      refine wR_lc (J := nilJ) _ [] 0 _ ⟨rfl, rfl⟩ (by simp; omega) (fun i u hu acc st hJ => ?_) (fun acc st hJ => ?_)
      · obtain ⟨rfl, rfl⟩ := hJ
        obtain ⟨hi, rfl⟩ := range_at hu
        have hx : l[i]? = some l[i] := List.getElem?_eq_getElem hi
        (try simp -implicitDefEqProofs [-List.map_map, ev_callR, ev_range1, lstK, tupK, wipeE, ix_lstN hx, ih m l[i] [] (h _ (List.getElem_mem hi)) (by omega) (by omega)])
        exact ⟨rfl, rfl⟩
      · obtain ⟨rfl, rfl⟩ := hJ
        (try simp -implicitDefEqProofs [-List.map_map, ev_callR, ev_range1, lstK, tupK, wipeE])
@[simp] theorem alike_int (i : Int) (st : Store) : backP (F__law_alike 6 [.d (.int i), .d (.int i)] []) st = .ok (.d (.bl true)) st := alike_refl 6 0 _ st .int (by decide) (by decide)
@[simp] theorem alike_bl (i : Bool) (st : Store) : backP (F__law_alike 6 [.d (.bl i), .d (.bl i)] []) st = .ok (.d (.bl true)) st := alike_refl 6 0 _ st .bl (by decide) (by decide)
end KJ
set_option Elab.async false
set_option maxRecDepth 100000
set_option maxHeartbeats 4000000
namespace KJ
open PySem PySem.Spec PyProof.Rows L2 Ct
abbrev Stp := Int × Bool
def sd (p : Stp) : D := .tup [.int p.1, .bl p.2]
def lg (ls : List Leg) (k : Int) : Leg := ls.getD k.toNat ⟨0, 0, 0, 0⟩
def sFrom (ls : List Leg) (p : Stp) : Int := if p.2 then (lg ls p.1).a else (lg ls p.1).b
def sTo (ls : List Leg) (p : Stp) : Int := if p.2 then (lg ls p.1).b else (lg ls p.1).a
def sUp (ls : List Leg) (p : Stp) : Int := if p.2 then (lg ls p.1).hi else -(lg ls p.1).lo
def endD (ls : List Leg) (p : Stp) : D := .tup [.int (sFrom ls p), .int (sTo ls p), .int (sUp ls p)]
def In (ls : List Leg) (p : Stp) : Prop := 0 ≤ p.1 ∧ p.1 < ls.length
theorem lg_at {ls : List Leg} {k : Int} (h0 : 0 ≤ k) (h1 : k < ls.length) : ls[k.toNat]? = some (lg ls k) := by
  have hk : k.toNat < ls.length := by omega
  unfold lg
  simp [hk]
theorem lg_mem {ls : List Leg} {k : Int} (h0 : 0 ≤ k) (h1 : k < ls.length) : lg ls k ∈ ls := List.mem_of_getElem? (lg_at h0 h1)
theorem ix_lg {ls : List Leg} {k : Int} {st : Store} (h0 : 0 ≤ k) (h1 : k < ls.length) : fIx (.d (.tup (ls.map Leg.d))) (.d (.int k)) st = .ok (.d (lg ls k).d) st := by
  have e := lg_at h0 h1
  have : k = (k.toNat : Int) := by omega
  rw [this]
  refine ix_tupN ?_
  rw [List.getElem?_map, show (k.toNat : Int) = k by omega, e]; rfl
/-- walks -/
def wkB (ls : List Leg) : Int → List Stp → Int → Bool
  | a, [], b => decide (a = b)
  | a, p :: r, b => decide (sFrom ls p = a) && wkB ls (sTo ls p) r b
def upL (ls : List Leg) (ps : List Stp) : Int := (ps.map (sUp ls)).sum
def AllIn (ls : List Leg) (ps : List Stp) : Prop := ∀ p ∈ ps, In ls p
def walkI (sv : D) (ls : List Leg) (one other : Int) (ps : List Stp) (n : Nat) (k : Nat) (e : EnvD) (st : Store) : Prop := ∃ (here : Int) (os : List (Option U)), os.length = n ∧ e = some (.d sv) :: some (.d (.int one)) :: some (.d (.int other)) :: some (.d (.tup (ps.map sd))) :: some (.d (.int here)) :: os ∧ wkB ls one ps other = wkB ls here (ps.drop k) other ∧ st = []
theorem sd_at {ps : List Stp} {k : Nat} {u : U} (h : ((ps.map sd).map U.d)[k]? = some u) : ∃ p, ps[k]? = some p ∧ u = .d (.tup [.int p.1, .bl p.2]) := by
  rw [List.getElem?_map, List.getElem?_map] at h
  cases e : ps[k]? with
  | none => rw [e] at h; cases h
  | some p => rw [e] at h; cases h; exact ⟨p, rfl, rfl⟩
/-! ### which values are steps -/
theorem PG.cases' {p : D} (h : PG p) {n : Nat} : (∃ q : Stp, p = sd q ∧ 0 ≤ q.1 ∧ q.1 < n ∧ pairB n p = true) ∨ pairB n p = false := by
  obtain ⟨k, ⟨f, rfl⟩ | ⟨i, rfl⟩⟩ := h
  · by_cases h0 : 0 ≤ k
    · by_cases h1 : k ≤ (n : Int) - 1
      · exact .inl ⟨(k, f), rfl, h0, by show k < n; omega, by simp [pairB, h0, h1]⟩
      · exact .inr (by simp [pairB, h1])
    · exact .inr (by simp [pairB, h0])
  · exact .inr rfl
theorem steps_of {l : List D} {n : Nat} (h : ∀ p ∈ l, PG p) (hw : walkB n (.tup l) = true) : ∃ ps : List Stp, l = ps.map sd ∧ ∀ p ∈ ps, 0 ≤ p.1 ∧ p.1 < n := by
  induction l with
  | nil => exact ⟨[], rfl, by simp⟩
  | cons d l ih =>
    simp only [walkB, List.all_cons, Bool.and_eq_true] at hw
    obtain ⟨ps, rfl, hp⟩ := ih (fun p hp => h p (by simp [hp])) hw.2
    rcases (h d (by simp)).cases' (n := n) with ⟨q, rfl, h0, h1, _⟩ | hf
    · refine ⟨q :: ps, rfl, fun p hm => ?_⟩
      rcases List.mem_cons.mp hm with rfl | hm
      · exact ⟨h0, h1⟩
      · exact hp p hm
    · rw [hf] at hw; cases hw.1
theorem walkB_in {ls : List Leg} {ps : List Stp} (h : AllIn ls ps) : walkB ls.length (.tup (ps.map sd)) = true := by
  unfold walkB
  rw [List.all_eq_true]
  intro d hd
  obtain ⟨p, hp, rfl⟩ := List.mem_map.mp hd
  have := h p hp
  have h2 : p.1 ≤ (ls.length : Int) - 1 := by have := this.2; omega
  simp [sd, pairB, this.1, h2]
def stepsI (sv : D) (l : List D) (n : Nat) (k : Nat) (e : EnvD) (st : Store) : Prop := ∃ o, e = [some (.d sv), some (.d (.tup l)), o] ∧ st = [] ∧ walkB n (.tup l) = (l.drop k).all (pairB n)
theorem leg_at {ls : List Leg} {k : Nat} {d : D} (h : (ls.map Leg.d)[k]? = some d) : d = (lg ls k).d ∧ k < ls.length := by
  rw [List.getElem?_map] at h
  obtain ⟨l, e, rfl⟩ := Option.map_eq_some_iff.mp h
  have hk := (List.getElem?_eq_some_iff.mp e).1
  refine ⟨?_, hk⟩
  unfold lg
  simp only [Int.toNat_natCast]
  rw [List.getD_eq_getElem?_getD, e]; rfl
end KJ
set_option Elab.async false
set_option maxRecDepth 100000
set_option maxHeartbeats 4000000
namespace KJ
open PySem PySem.Spec PyProof.Rows L2 Ct
/-! ### ==, repr -/
theorem eqv_len : ∀ {a b : List D}, a.length ≠ b.length → PyData.eqvAll (toPs a) (toPs b) = false
  | [], [], h => absurd rfl h
  | [], y :: b, _ => by simp [toPs, PyData.eqvAll]
  | x :: a, [], _ => by simp [toPs, PyData.eqvAll]
  | x :: a, y :: b, h => by
    simp only [toPs, PyData.eqvAll]
    rw [eqv_len (a := a) (b := b) (fun e => h (by simp [e]))]
    simp
theorem eqD_len {a b : List D} (h : a.length ≠ b.length) : eqD (.tup a) (.tup b) = false := by
  unfold eqD
  simp only [toP, PyData.eqv]
  exact eqv_len h
theorem Pl_lg (l : Leg) : Pl 1 l.d := .tup (by simp) fun d hd => by
  simp at hd
  rcases hd with rfl | rfl | rfl | rfl <;> exact .int
theorem Pl_lgs {ls : List Leg} (h : ls.length ≤ 100) : Pl 2 (.tup (ls.map Leg.d)) := .tup (by simp; omega) fun d hd => by
  obtain ⟨l, _, rfl⟩ := List.mem_map.mp hd
  exact Pl_lg l
section
variable {m m' : Int} {ls ls' : List Leg}
theorem isi_sv (st : Store) : isiK 0 (.own 0) (.d (svD m ls)) st = .ok (.d (.bl true)) st := rfl
theorem isi_tup (l : List D) (st : Store) : isiK 0 (.own 0) (.d (.tup l)) st = .ok (.d (.bl false)) st := rfl
theorem eq_sv (h : ls.length ≤ 60) (h' : ls'.length ≤ 60) : F_SurveyD_eqD [.d (svD m ls), .d (svD m' ls')] [] = .ok (.d (.bl (decide (m = m') && eqD (.tup (ls.map Leg.d)) (.tup (ls'.map Leg.d))))) [] := by
  have e := fEq_pl (st := []) (Pl_lgs (ls := ls) (by omega)) (Pl_lgs (ls := ls') (by omega)) (by decide) (by decide)
  by_cases q : m = m'
  · simp [F_SurveyD_eqD, B_SurveyD_eqD, isi_sv, q, e]
  · simp [F_SurveyD_eqD, B_SurveyD_eqD, isi_sv, q]
theorem eq_tup (l : List D) : F_SurveyD_eqD [.d (svD m ls), .d (.tup l)] [] = .ok (.d (.bl false)) [] := by
  simp [F_SurveyD_eqD, B_SurveyD_eqD, isi_tup]
theorem own_sv (h : ls.length ≤ 60) (h' : ls'.length ≤ 60) (neg : Bool) (st : Store) : fOwn 0 F_SurveyD_eqD neg (.d (svD m ls)) (.d (svD m' ls')) st = .ok (.d (.bl (if neg then !(decide (m = m') && eqD (.tup (ls.map Leg.d)) (.tup (ls'.map Leg.d))) else (decide (m = m') && eqD (.tup (ls.map Leg.d)) (.tup (ls'.map Leg.d)))))) st := by
  show (if (0 : Nat) = 0 ∧ othD 0 (svD m' ls') = true then (backP (F_SurveyD_eqD [.d (svD m ls), .d (svD m' ls')] []) st).bind (negK neg) else .bad) = _
  rw [if_pos ⟨rfl, rfl⟩, eq_sv h h']
  rfl
theorem own_tup (l : List D) (neg : Bool) (st : Store) : fOwn 0 F_SurveyD_eqD neg (.d (svD m ls)) (.d (.tup l)) st = .ok (.d (.bl (if neg then !false else false))) st := by
  show (if (0 : Nat) = 0 ∧ othD 0 (.tup l) = true then (backP (F_SurveyD_eqD [.d (svD m ls), .d (.tup l)] []) st).bind (negK neg) else .bad) = _
  rw [if_pos ⟨rfl, rfl⟩, eq_tup]
  rfl
/-! ### texts -/
theorem sh_leg {l : Leg} (h : l.Ok m) (hm : m ≤ 100) : shP l.d = true := by
  have h1 := h.a0
  have h2 := h.a1
  have h3 := h.b0
  have h4 := h.b1
  have h5 := h.lohi
  have h6 := h.lo0
  have h7 := h.hi1
  unfold shP Leg.d
  simp only [List.length_cons, List.length_nil, List.all_cons, List.all_nil, shA, Bool.and_eq_true, decide_eq_true_eq, Bool.and_true]
  omega
theorem sh_legs (h : SvOk m ls) : shD (.tup (ls.map Leg.d)) = true := by
  have h1 := h.n1
  have h2 := h.m1
  unfold shD
  rw [Bool.and_eq_true, decide_eq_true_eq, List.length_map]
  refine ⟨by omega, ?_⟩
  rw [List.all_eq_true]
  intro d hd
  obtain ⟨l, hl, rfl⟩ := List.mem_map.mp hd
  exact sh_leg (h.ok l hl) (by omega)
theorem sh_int {i : Int} (h0 : 0 ≤ i) (h1 : i ≤ 100) : shD (.int i) = true := by
  unfold shD
  simp only [decide_eq_true_eq]
  omega
theorem reprD_e {d : D} (h : shD d = true) (st : Store) : fReprD [.d d] st = .ok (.d (.str (shownD d))) st := if_pos h
def rpS (m : Int) (ls : List Leg) : Str := (((("Survey(" : Str) ++ shownD (.int m)) ++ (", " : Str)) ++ shownD (.tup (ls.map Leg.d))) ++ (")" : Str)
def jsK (r : List EM) (acc : Str) (env : EnvD) (u : U) (st1 : Store) : R U := match u with
  | .d (.str y) => if (acc ++ y).length ≤ sizeLine then mJs r (acc ++ y) env st1 else .bad
  | _ => .bad
theorem js_cons (m : EM) (r : List EM) (acc : Str) (env : EnvD) (st : Store) : mJs (m :: r) acc env st = (m env st).bind (jsK r acc env) := rfl
theorem js_nil (acc : Str) (env : EnvD) (st : Store) : mJs [] acc env st = .ok (.d (.str acc)) st := rfl
theorem jsK_e {r : List EM} {acc y : Str} {env : EnvD} {st : Store} (h : (acc ++ y).length ≤ sizeLine) : jsK r acc env (.d (.str y)) st = mJs r (acc ++ y) env st := if_pos h
def fmtK (u : U) (st1 : Store) : R U := match u with
  | .d d => if shD d = true then .ok (.d (.str (shownD d))) st1 else .bad
  | _ => .bad
theorem fmt_e (m : EM) (env : EnvD) (st : Store) : mFmtG m env st = (m env st).bind fmtK := rfl
theorem fmtK_e {d : D} {st : Store} (h : shD d = true) : fmtK (.d d) st = .ok (.d (.str (shownD d))) st := if_pos h
theorem len_app (a b : Str) : (a ++ b).length = a.length + b.length := Str.length_append a b
theorem repr_sv (h : SvOk m ls) : F_SurveyD_reprD [.d (svD m ls)] [] = .ok (.d (.str (rpS m ls))) [] := by
  have h1 := sh_legs h
  have h2 := sh_int h.m0 (by have := h.m1; omega)
  obtain ⟨l1, _, _⟩ := shown_D h1
  obtain ⟨l2, _, _⟩ := shown_D h2
  have hsz := sizeLine_eq
  have c1 : ("Survey(" : Str).length = 7 := rfl
  have c2 : (", " : Str).length = 2 := rfl
  have c3 : (")" : Str).length = 1 := rfl
  have key : wR (F_SurveyD_reprD [.d (svD m ls)] []) (fun u t => u = .d (.str (rpS m ls)) ∧ t = []) noX := by
    (try simp -implicitDefEqProofs [-List.map_map, ev_callR, ev_range1, lstK, tupK, wipeE, F_SurveyD_reprD, B_SurveyD_reprD, js_cons])
    rw [jsK_e (by rw [len_app]; show 0 + 7 ≤ sizeLine; omega), Str.empty_append]
    (try simp -implicitDefEqProofs [-List.map_map, ev_callR, ev_range1, lstK, tupK, wipeE, js_cons, fmt_e])
    rw [fmtK_e h2]
    (try simp -implicitDefEqProofs [-List.map_map, ev_callR, ev_range1, lstK, tupK, wipeE])
    rw [jsK_e (by simp only [len_app]; omega)]
    (try simp -implicitDefEqProofs [-List.map_map, ev_callR, ev_range1, lstK, tupK, wipeE, js_cons, fmt_e])
    rw [jsK_e (by simp only [len_app]; omega)]
    (try simp -implicitDefEqProofs [-List.map_map, ev_callR, ev_range1, lstK, tupK, wipeE, js_cons, fmt_e])
    rw [fmtK_e h1]
    (try simp -implicitDefEqProofs [-List.map_map, ev_callR, ev_range1, lstK, tupK, wipeE])
    rw [jsK_e (by simp only [len_app]; omega)]
    (try simp -implicitDefEqProofs [-List.map_map, ev_callR, ev_range1, lstK, tupK, wipeE, js_cons, fmt_e])
    rw [jsK_e (by simp only [len_app]; omega)]
    (try simp -implicitDefEqProofs [-List.map_map, ev_callR, ev_range1, lstK, tupK, wipeE, js_nil])
    rfl
  obtain ⟨u, t, e, rfl, rfl⟩ := wR_get key
  exact e
end
end KJ
set_option Elab.async false
set_option maxRecDepth 100000
set_option maxHeartbeats 4000000
namespace KJ
open PySem PySem.Spec PyProof.Rows L2 Ct
/-! ### with_leg, without_leg, turned -/
theorem leg_at2 {ls : List Leg} {k : Nat} {u : U} (h : ((ls.map Leg.d).map U.d)[k]? = some u) : ∃ l, ls[k]? = some l ∧ u = .d (.tup [.int l.a, .int l.b, .int l.lo, .int l.hi]) := by
  rw [List.getElem?_map, List.getElem?_map] at h
  cases e : ls[k]? with
  | none => rw [e] at h; cases h
  | some l => rw [e] at h; cases h; exact ⟨l, rfl, rfl⟩
theorem checkf_leg (st : Store) : backP (F_check [.d (.bl false), .d (.str "leg")] []) st = .exc ⟨11, .str "leg"⟩ st := by rw [show F_check [.d (.bl false), .d (.str "leg")] [] = _ from ev_check_f _ _ (by decide)]; rfl
theorem checkf_num (st : Store) : backP (F_check [.d (.bl false), .d (.str "number")] []) st = .exc ⟨11, .str "number"⟩ st := by rw [show F_check [.d (.bl false), .d (.str "number")] [] = _ from ev_check_f _ _ (by decide)]; rfl
theorem checkf_rooms (st : Store) : backP (F_check [.d (.bl false), .d (.str "rooms")] []) st = .exc ⟨11, .str "rooms"⟩ st := by rw [show F_check [.d (.bl false), .d (.str "rooms")] [] = _ from ev_check_f _ _ (by decide)]; rfl
theorem checkf_legs (st : Store) : backP (F_check [.d (.bl false), .d (.str "legs")] []) st = .exc ⟨11, .str "legs"⟩ st := by rw [show F_check [.d (.bl false), .d (.str "legs")] [] = _ from ev_check_f _ _ (by decide)]; rfl
section
variable {m : Int} {ls : List Leg}
theorem rec_with (st : Store) : recv 0 "with_leg" (.d (svD m ls)) st = true := rfl
theorem rec_without (st : Store) : recv 0 "without_leg" (.d (svD m ls)) st = true := rfl
theorem rec_turned (st : Store) : recv 0 "turned" (.d (svD m ls)) st = true := rfl
theorem with_ok (h : SvOk m ls) {l : Leg} (hl : l.Ok m) (hn : ls.length < 60) (st : Store) : backP (F_Survey_with_leg [.d (svD m ls), .d l.d] []) st = .ok (.d (svD m (ls ++ [l]))) st := by
  have hsz := sizeLine_eq
  have h1 : ∀ st, backP (F_is_leg [.d l.d, .d (.int m)] []) st = .ok (.d (.bl true)) st := fun st => eqP_of (wR_of (ev_is_leg m l hl) rfl)
  have hn' : (ls.length : Int) < 60 := by omega
  have mk : ∀ st, backMk (F_SurveyD_initD [.loc 0, .d (.int m), .d (.tup (ls.map Leg.d ++ [l.d]))] [.ins 0 []]) st = .ok (.d (svD m (ls ++ [l]))) st := fun st => by
    have := make_sv (m := m) (ls := ls ++ [l]) ⟨h.m0, h.m1, by simp; omega, fun x hx => by
      rcases List.mem_append.mp hx with q | q
      · exact h.ok x q
      · simp at q; subst q; exact hl⟩ st
    rw [List.map_append] at this
    exact this
  refine eqP_of ?_
  (try simp -implicitDefEqProofs [-List.map_map, ev_callR, ev_range1, lstK, tupK, wipeE, F_Survey_with_leg, B_Survey_with_leg, h1, hn'])
  refine w_if (by omega) ?_
  (try simp -implicitDefEqProofs [-List.map_map, ev_callR, ev_range1, lstK, tupK, wipeE, mk])
theorem with_bad {d : D} (hb : F_is_leg [.d d, .d (.int m)] [] = .ok (.d (.bl false)) []) (st : Store) : backP (F_Survey_with_leg [.d (svD m ls), .d d] []) st = .exc ⟨11, .str "leg"⟩ st := by
  have h1 : ∀ st, backP (F_is_leg [.d d, .d (.int m)] []) st = .ok (.d (.bl false)) st := fun st => eqP_of (wR_of hb rfl)
  refine excP_of ?_
  (try simp -implicitDefEqProofs [-List.map_map, ev_callR, ev_range1, lstK, tupK, wipeE, F_Survey_with_leg, B_Survey_with_leg, h1])
  rw [checkf_leg]
  (try simp -implicitDefEqProofs [-List.map_map, ev_callR, ev_range1, lstK, tupK, wipeE])
theorem with_full {l : Leg} (hl : l.Ok m) (hn : ls.length = 60) (st : Store) : backP (F_Survey_with_leg [.d (svD m ls), .d l.d] []) st = .exc ⟨11, .str "leg"⟩ st := by
  have h1 : ∀ st, backP (F_is_leg [.d l.d, .d (.int m)] []) st = .ok (.d (.bl true)) st := fun st => eqP_of (wR_of (ev_is_leg m l hl) rfl)
  have hn' : ¬ (ls.length : Int) < 60 := by omega
  refine excP_of ?_
  (try simp -implicitDefEqProofs [-List.map_map, ev_callR, ev_range1, lstK, tupK, wipeE, F_Survey_with_leg, B_Survey_with_leg, h1, hn'])
  rw [checkf_leg]
  (try simp -implicitDefEqProofs [-List.map_map, ev_callR, ev_range1, lstK, tupK, wipeE])
def wo (ls : List Leg) (k : Int) : List Leg := ls.take k.toNat ++ ls.drop (k.toNat + 1)
theorem without_ok (h : SvOk m ls) {k : Int} (k0 : 0 ≤ k) (k1 : k < ls.length) (st : Store) : backP (F_Survey_without_leg [.d (svD m ls), .d (.int k)] []) st = .ok (.d (svD m (wo ls k))) st := by
  have hsz := sizeLine_eq
  have hn1 := h.n1
  have k2 : k ≤ (ls.length : Int) - 1 := by omega
  have mk : ∀ st, backMk (F_SurveyD_initD [.loc 0, .d (.int m), .d (.tup ((ls.map Leg.d).take k.toNat ++ (ls.map Leg.d).drop (k + 1).toNat))] [.ins 0 []]) st = .ok (.d (svD m (wo ls k))) st := fun st => by
    have := make_sv (m := m) (ls := wo ls k) ⟨h.m0, h.m1, by unfold wo; simp; omega, fun x hx => by
      unfold wo at hx
      rcases List.mem_append.mp hx with q | q
      · exact h.ok x (List.mem_of_mem_take q)
      · exact h.ok x (List.mem_of_mem_drop q)⟩ st
    unfold wo at this ⊢
    rw [List.map_append, List.map_take, List.map_drop] at this
    rw [show (k + 1).toNat = k.toNat + 1 by omega]
    exact this
  refine eqP_of ?_
  (try simp -implicitDefEqProofs [-List.map_map, ev_callR, ev_range1, lstK, tupK, wipeE, F_Survey_without_leg, B_Survey_without_leg, k0, k2])
  rw [cut_takeI k0 (by simp; omega), cut_dropI (by omega) (by simp; omega)]
  refine w_if (by simp; omega) ?_
  (try simp -implicitDefEqProofs [-List.map_map, ev_callR, ev_range1, lstK, tupK, wipeE, mk])
theorem without_bad {d : D} (hb : ∀ st, F_is_number [.d d, .d (.int 0), .d (.int ((ls.length : Int) - 1))] st = .ok (.d (.bl false)) st) (st : Store) : backP (F_Survey_without_leg [.d (svD m ls), .d d] []) st = .exc ⟨11, .str "number"⟩ st := by
  refine excP_of ?_
  (try simp -implicitDefEqProofs [-List.map_map, ev_callR, ev_range1, lstK, tupK, wipeE, F_Survey_without_leg, B_Survey_without_leg, hb])
  rw [checkf_num]
  (try simp -implicitDefEqProofs [-List.map_map, ev_callR, ev_range1, lstK, tupK, wipeE])
def trn (l : Leg) : Leg := ⟨l.b, l.a, -l.hi, -l.lo⟩
theorem trn_ok {l : Leg} (h : l.Ok m) : (trn l).Ok m := ⟨h.b0, h.b1, h.a0, h.a1, fun z => h.ne z.symm, by have := h.hi1; simp only [trn]; omega, by have := h.lohi; simp only [trn]; omega, by have := h.lo0; simp only [trn]; omega⟩
def tuJ (ls : List Leg) (st0 : Store) (k : Nat) (acc : List U) (st : Store) : Prop := acc = (((ls.take k).map trn).map Leg.d).map U.d ∧ st = st0
theorem turned_ok (h : SvOk m ls) (st : Store) : backP (F_Survey_turned [.d (svD m ls)] []) st = .ok (.d (svD m (ls.map trn))) st := by
  have hn1 := h.n1
  have mk := make_sv (m := m) (ls := ls.map trn) ⟨h.m0, h.m1, by simpa using hn1, fun x hx => by
    obtain ⟨l, hl, rfl⟩ := List.mem_map.mp hx
    exact trn_ok (h.ok l hl)⟩
  refine eqP_of ?_
  (try simp -implicitDefEqProofs [-List.map_map, ev_callR, ev_range1, lstK, tupK, wipeE, F_Survey_turned, B_Survey_turned])
  refine wR_lc0 (J := tuJ ls _) ⟨by simp, rfl⟩ (by simp; omega) (fun k u hu acc st hJ => ?_) (fun acc st hJ => ?_)
  · obtain ⟨rfl, rfl⟩ := hJ
    obtain ⟨l, hl, rfl⟩ := leg_at2 hu
    (try simp -implicitDefEqProofs [-List.map_map, ev_callR, ev_range1, lstK, tupK, wipeE, tupK])
    exact ⟨by rw [Ct.take_at hl]; simp [trn, Leg.d], rfl⟩
  obtain ⟨rfl, rfl⟩ := hJ
  rw [List.take_of_length_le (by simp)]
  (try simp -implicitDefEqProofs [-List.map_map, ev_callR, ev_range1, lstK, tupK, wipeE, mk])
end
end KJ
set_option Elab.async false
set_option maxRecDepth 100000
set_option maxHeartbeats 4000000
namespace KJ
open PySem PySem.Spec PyProof.Rows L2 Ct
/-! ### refused -/
def bads (m : Int) : List D := [.non, .tup [.int 0, .int 0, .int 0, .int 0], .tup [.int 0, .int m, .int 0, .int 0], .tup [.int 0, .int 1, .int 1, .int 0], .tup [.int 0, .int 1, .int 0], .tup [.int 0, .int 1, .int 0, .int 10001], .tup [.int 0, .int 1, .int (-10001), .int 0], .lst [.int 0, .int 1, .int 0, .int 0], .tup [.int 0, .int 1, .int 0, .bl true], .tup [.int (-1), .int 0, .int 0, .int 0]]
theorem bad_leg {m : Int} (hm : 0 ≤ m) {d : D} (h : d ∈ bads m) : F_is_leg [.d d, .d (.int m)] [] = .ok (.d (.bl false)) [] := by
  have key : wR (F_is_leg [.d d, .d (.int m)] []) (fun u t => u = .d (.bl false) ∧ t = []) noX := by
    unfold bads at h
    simp only [List.mem_cons, List.not_mem_nil, or_false] at h
    have n1 : ¬ m ≤ m - 1 := by omega
    by_cases m0 : m < 1
    · rcases h with rfl | rfl | rfl | rfl | rfl | rfl | rfl | rfl | rfl | rfl <;> (try simp -implicitDefEqProofs [-List.map_map, ev_callR, ev_range1, lstK, tupK, wipeE, F_is_leg, B_is_leg, m0, n1])
    by_cases m1 : m - 1 < 1
    · rcases h with rfl | rfl | rfl | rfl | rfl | rfl | rfl | rfl | rfl | rfl <;> (try simp -implicitDefEqProofs [-List.map_map, ev_callR, ev_range1, lstK, tupK, wipeE, F_is_leg, B_is_leg, m0, m1, n1])
    · rcases h with rfl | rfl | rfl | rfl | rfl | rfl | rfl | rfl | rfl | rfl <;> (try simp -implicitDefEqProofs [-List.map_map, ev_callR, ev_range1, lstK, tupK, wipeE, F_is_leg, B_is_leg, m0, m1, n1])
  obtain ⟨u, t, e, rfl, rfl⟩ := wR_get key
  exact e
def apJ (n : Nat) (st0 : Store) (k : Nat) (b : Unit) (st : Store) : Prop := st = st0 ∧ k ≤ n
theorem bad_app {m : Int} {ls : List Leg} (hl : ∀ l ∈ ls, l.Ok m) {d : D} (hd : F_is_leg [.d d, .d (.int m)] [] = .ok (.d (.bl false)) []) : F_are_legs [.d (.tup (ls.map Leg.d ++ [d])), .d (.int m)] [] = .ok (.d (.bl false)) [] := by
  have hq : ∀ st, backP (F_is_leg [.d d, .d (.int m)] []) st = .ok (.d (.bl false)) st := fun st => eqP_of (wR_of hd rfl)
  have key : wR (F_are_legs [.d (.tup (ls.map Leg.d ++ [d])), .d (.int m)] []) (fun u t => u = .d (.bl false) ∧ t = []) noX := by
    by_cases hn : 60 < ls.length + 1
    · have hn' : (60 : Int) < (ls.length : Int) + 1 := by omega
      (try simp -implicitDefEqProofs [-List.map_map, ev_callR, ev_range1, lstK, tupK, wipeE, F_are_legs, B_are_legs, hn'])
    · have hn' : ¬ (60 : Int) < (ls.length : Int) + 1 := by omega
      (try simp -implicitDefEqProofs [-List.map_map, ev_callR, ev_range1, lstK, tupK, wipeE, F_are_legs, B_are_legs, hn'])
      refine wR_gx0 (J := apJ ls.length []) ⟨rfl, Nat.zero_le _⟩ (fun k u hu acc st hJ => ?_) (fun acc st hJ => ?_)
      · obtain ⟨rfl, _⟩ := hJ
        by_cases hk : k < ls.length
        · rw [List.getElem?_append_left (by simpa using hk)] at hu
          obtain ⟨e, he, rfl⟩ : ∃ l, ls[k]? = some l ∧ u = .d l.d := by
            rw [List.getElem?_map, List.getElem?_map] at hu
            cases e : ls[k]? with
            | none => rw [e] at hu; cases hu
            | some l => rw [e] at hu; cases hu; exact ⟨l, rfl, rfl⟩
          have h1 := ev_is_leg m e (hl e (List.mem_of_getElem? he))
          have h2 : ∀ st, backP (F_is_leg [.d e.d, .d (.int m)] []) st = .ok (.d (.bl true)) st := fun st => eqP_of (wR_of h1 rfl)
          (try simp -implicitDefEqProofs [-List.map_map, ev_callR, ev_range1, lstK, tupK, wipeE, h2])
          exact ⟨rfl, hk⟩
        · have hlt := (List.getElem?_eq_some_iff.mp hu).1
          have : k = (List.map U.d (List.map Leg.d ls)).length := by simp at hlt ⊢; omega
          subst this
          rw [List.getElem?_append_right (Nat.le_refl _), Nat.sub_self] at hu
          cases hu
          (try simp -implicitDefEqProofs [-List.map_map, ev_callR, ev_range1, lstK, tupK, wipeE, hq])
      · exfalso
        have := hJ.2
        simp at this
        omega
  obtain ⟨u, t, e, rfl, rfl⟩ := wR_get key
  exact e
theorem bad_many {m i : Int} {l : List D} {w : D} (h : w = .lst l ∨ w = .non ∨ w = .int i ∨ (∃ l, w = .tup l ∧ 60 < l.length)) : F_are_legs [.d w, .d (.int m)] [] = .ok (.d (.bl false)) [] := by
  have key : wR (F_are_legs [.d w, .d (.int m)] []) (fun u t => u = .d (.bl false) ∧ t = []) noX := by
    rcases h with rfl | rfl | rfl | ⟨l, rfl, hl⟩
    · (try simp -implicitDefEqProofs [-List.map_map, ev_callR, ev_range1, lstK, tupK, wipeE, F_are_legs, B_are_legs])
    · (try simp -implicitDefEqProofs [-List.map_map, ev_callR, ev_range1, lstK, tupK, wipeE, F_are_legs, B_are_legs])
    · (try simp -implicitDefEqProofs [-List.map_map, ev_callR, ev_range1, lstK, tupK, wipeE, F_are_legs, B_are_legs])
    · have hl' : (60 : Int) < (l.length : Int) := by omega
      (try simp -implicitDefEqProofs [-List.map_map, ev_callR, ev_range1, lstK, tupK, wipeE, F_are_legs, B_are_legs, hl'])
  obtain ⟨u, t, e, rfl, rfl⟩ := wR_get key
  exact e
theorem mk_legs {m : Int} (h0 : 0 ≤ m) (h1 : m ≤ 24) {w : D} (h : F_are_legs [.d w, .d (.int m)] [] = .ok (.d (.bl false)) []) (st : Store) : backMk (F_SurveyD_initD [.loc 0, .d (.int m), .d w] [.ins 0 []]) st = .exc ⟨11, .str "legs"⟩ st := by
  have hq : ∀ st, backP (F_are_legs [.d w, .d (.int m)] []) st = .ok (.d (.bl false)) st := fun st => eqP_of (wR_of h rfl)
  have key : wR (F_SurveyD_initD [.loc 0, .d (.int m), .d w] [.ins 0 []]) (fun _ _ => False) (fun x _ => x = ⟨11, .str "legs"⟩) := by
    (try simp -implicitDefEqProofs [-List.map_map, ev_callR, ev_range1, lstK, tupK, wipeE, F_SurveyD_initD, B_SurveyD_initD, h0, h1, hq])
    rw [checkf_legs]
    (try simp -implicitDefEqProofs [-List.map_map, ev_callR, ev_range1, lstK, tupK, wipeE])
  cases e : F_SurveyD_initD [.loc 0, .d (.int m), .d w] [.ins 0 []] with
  | ok u t => rw [e, wR_ok] at key; exact key.elim
  | bad => rw [e, wR_bad] at key; exact key.elim
  | exc x t => rw [e, wR_exc] at key; subst key; rfl
theorem mk_rooms {r : D} (h : ∀ st, F_is_number [.d r, .d (.int 0), .d (.int 24)] st = .ok (.d (.bl false)) st) (w : D) (st : Store) : backMk (F_SurveyD_initD [.loc 0, .d r, .d w] [.ins 0 []]) st = .exc ⟨11, .str "rooms"⟩ st := by
  have key : wR (F_SurveyD_initD [.loc 0, .d r, .d w] [.ins 0 []]) (fun _ _ => False) (fun x _ => x = ⟨11, .str "rooms"⟩) := by
    (try simp -implicitDefEqProofs [-List.map_map, ev_callR, ev_range1, lstK, tupK, wipeE, F_SurveyD_initD, B_SurveyD_initD, h])
    rw [checkf_rooms]
    (try simp -implicitDefEqProofs [-List.map_map, ev_callR, ev_range1, lstK, tupK, wipeE])
  cases e : F_SurveyD_initD [.loc 0, .d r, .d w] [.ins 0 []] with
  | ok u t => rw [e, wR_ok] at key; exact key.elim
  | bad => rw [e, wR_bad] at key; exact key.elim
  | exc x t => rw [e, wR_exc] at key; subst key; rfl
theorem refused_R {s : D} {ns : List Int} (S : Scr s ns) {m : Int} {ls : List Leg} (h : SvOk m ls) : CallsR s 4 F__law_refused [.int m, .tup (ls.map Leg.d), svD m ls] (fun d => d = .bl true) := by
  have hn1 := h.n1
  have hm1 := h.m1
  have hm0 := h.m0
  have mk0 : ∀ st, backMk (F_SurveyD_initD [.loc 0, .d (.int m), .d (.tup [])] [.ins 0 []]) st = .ok (.d (svD m [])) st := make_sv (ls := []) ⟨h.m0, h.m1, by simp, by simp⟩
  refine callsR_w rfl fun c hc => ?_
  have hsz := sizeLine_eq
  (try simp -implicitDefEqProofs [-List.map_map, ev_callR, ev_range1, lstK, tupK, wipeE, F__law_refused, B__law_refused])
  refine w_pick S hc (by simp) (by simp) fun bad c hc hb => ?_; (try simp -implicitDefEqProofs [-List.map_map, ev_callR, ev_range1, lstK, tupK, wipeE])
  have n0 : ∀ st, F_is_number [.d bad, .d (.int 0), .d (.int ((ls.length : Int) - 1))] st = .ok (.d (.bl false)) st := fun st => by
    simp at hb
    rcases hb with rfl | rfl | rfl | rfl | rfl
    · simp
    · simp
    · have : ¬ (ls.length : Int) ≤ (ls.length : Int) - 1 := by omega
      simp [this]
    · simp
    · simp
  clear hb
  (try simp -implicitDefEqProofs [-List.map_map, ev_callR, ev_range1, lstK, tupK, wipeE])
  rw [methPK_of _ _ (rec_without _)]
  (try simp -implicitDefEqProofs [-List.map_map, ev_callR, ev_range1, lstK, tupK, wipeE, without_bad n0])
  rw [alike_refl 6 2 _ _ (Pl_of _ _ (by decide +kernel)) (by decide) (by decide)]
  (try simp -implicitDefEqProofs [-List.map_map, ev_callR, ev_range1, lstK, tupK, wipeE])
  refine w_callR (legs_R S m 1 h.m0 h.m1 (by omega) (by omega)) ‹_› fun d c hc hd => ?_
  obtain ⟨ms, rfl, hml, hmo⟩ := hd
  cases ms with
  | nil =>
    (try simp -implicitDefEqProofs [-List.map_map, ev_callR, ev_range1, lstK, tupK, wipeE])
    refine w_pick S hc (by simp) (by simp) fun leg c hc hs => ?_; (try simp -implicitDefEqProofs [-List.map_map, ev_callR, ev_range1, lstK, tupK, wipeE])
    have hbp := bad_leg h.m0 (d := leg) (by unfold bads; exact hs)
    clear hs
    (try simp -implicitDefEqProofs [-List.map_map, ev_callR, ev_range1, lstK, tupK, wipeE])
    rw [methPK_of _ _ (rec_with _)]
    (try simp -implicitDefEqProofs [-List.map_map, ev_callR, ev_range1, lstK, tupK, wipeE, with_bad hbp])
    rw [alike_refl 6 2 _ _ (Pl_of _ _ (by decide +kernel)) (by decide) (by decide)]
    (try simp -implicitDefEqProofs [-List.map_map, ev_callR, ev_range1, lstK, tupK, wipeE])
    refine w_if (by omega) ?_
    (try simp -implicitDefEqProofs [-List.map_map, ev_callR, ev_range1, lstK, tupK, wipeE, tupK])
    refine w_pick S hc (by simp) (by simp) fun wr c hc hw => ?_; (try simp -implicitDefEqProofs [-List.map_map, ev_callR, ev_range1, lstK, tupK, wipeE])
    have hbw : F_are_legs [.d wr, .d (.int m)] [] = .ok (.d (.bl false)) [] := by
      simp only [List.mem_cons, List.not_mem_nil, or_false] at hw
      rcases hw with rfl | rfl | rfl | rfl | rfl
      · exact bad_many (.inl rfl) (i := 0)
      · exact bad_app h.ok hbp
      · exact bad_many (l := []) (i := 0) (.inr (.inl rfl))
      · exact bad_many (l := []) (i := 0) (.inr (.inr (.inr ⟨_, rfl, by simp⟩)))
      · exact bad_many (l := []) (i := 0) (.inr (.inr (.inl rfl)))
    clear hw
    (try simp -implicitDefEqProofs [-List.map_map, ev_callR, ev_range1, lstK, tupK, wipeE, mk_legs h.m0 hm1 hbw])
    rw [alike_refl 6 2 _ _ (Pl_of _ _ (by decide +kernel)) (by decide) (by decide)]
    (try simp -implicitDefEqProofs [-List.map_map, ev_callR, ev_range1, lstK, tupK, wipeE])
    refine w_pick S hc (by simp) (by simp) fun wr2 c hc hw => ?_; (try simp -implicitDefEqProofs [-List.map_map, ev_callR, ev_range1, lstK, tupK, wipeE])
    have hbr : ∀ st, F_is_number [.d wr2, .d (.int 0), .d (.int 24)] st = .ok (.d (.bl false)) st := fun st => by
      simp at hw
      rcases hw with rfl | rfl | rfl | rfl | rfl <;> simp
    clear hw
    (try simp -implicitDefEqProofs [-List.map_map, ev_callR, ev_range1, lstK, tupK, wipeE, mk_rooms hbr])
    rw [alike_refl 6 2 _ _ (Pl_of _ _ (by decide +kernel)) (by decide) (by decide)]
    (try simp -implicitDefEqProofs [-List.map_map, ev_callR, ev_range1, lstK, tupK, wipeE, mk0])
    rw [own_sv (by simp) (by simp)]
    (try simp -implicitDefEqProofs [-List.map_map, ev_callR, ev_range1, lstK, tupK, wipeE])
    have e0 : eqD (.tup []) (.tup []) = true := (Pl_lgs (ls := []) (by simp)).refl
    rw [e0]
    exact .mk ‹_› rfl
  | cons l r =>
    obtain rfl : r = [] := by
      cases r with
      | nil => rfl
      | cons _ _ => simp at hml; omega
    have hl : l.Ok m := hmo l (by simp)
    have pl1 : Pl 2 (.tup [l.d]) := Pl_lgs (ls := [l]) (by simp)
    have e1 : ([l.d] : List D).isEmpty = false := rfl
    (try simp -implicitDefEqProofs [-List.map_map, ev_callR, ev_range1, lstK, tupK, wipeE])
    rw [fNe_tupNil _ pl1 (by decide)]
    (try simp -implicitDefEqProofs [-List.map_map, ev_callR, ev_range1, lstK, tupK, wipeE, e1])
    by_cases hn : ls.length < 60
    · have hn' : (ls.length : Int) < 60 := by omega
      have hn2 : ¬ (ls.length : Int) = 60 := by omega
      have plA := Pl_lgs (ls := ls ++ [l]) (by simp; omega)
      have plB : Pl 2 (.tup (ls.map Leg.d ++ [l.d])) := by
        rw [List.map_append] at plA
        exact plA
      (try simp -implicitDefEqProofs [-List.map_map, ev_callR, ev_range1, lstK, tupK, wipeE, hn'])
      rw [methPK_of _ _ (rec_with _)]
      (try simp -implicitDefEqProofs [-List.map_map, ev_callR, ev_range1, lstK, tupK, wipeE, with_ok h hl hn])
      refine w_if (by omega) ?_
      (try simp -implicitDefEqProofs [-List.map_map, ev_callR, ev_range1, lstK, tupK, wipeE])
      rw [fNe_pl plB plB (by decide) (by decide), plB.refl]
      (try simp -implicitDefEqProofs [-List.map_map, ev_callR, ev_range1, lstK, tupK, wipeE])
      rw [fNe_tupNil _ pl1 (by decide)]
      (try simp -implicitDefEqProofs [-List.map_map, ev_callR, ev_range1, lstK, tupK, wipeE, e1, hn2])
      refine w_pick S hc (by simp) (by simp) fun leg c hc hs => ?_; (try simp -implicitDefEqProofs [-List.map_map, ev_callR, ev_range1, lstK, tupK, wipeE])
      have hbp := bad_leg h.m0 (d := leg) (by unfold bads; exact hs)
      clear hs
      (try simp -implicitDefEqProofs [-List.map_map, ev_callR, ev_range1, lstK, tupK, wipeE])
      rw [methPK_of _ _ (rec_with _)]
      (try simp -implicitDefEqProofs [-List.map_map, ev_callR, ev_range1, lstK, tupK, wipeE, with_bad hbp])
      rw [alike_refl 6 2 _ _ (Pl_of _ _ (by decide +kernel)) (by decide) (by decide)]
      (try simp -implicitDefEqProofs [-List.map_map, ev_callR, ev_range1, lstK, tupK, wipeE])
      refine w_if (by omega) ?_
      (try simp -implicitDefEqProofs [-List.map_map, ev_callR, ev_range1, lstK, tupK, wipeE, tupK])
      refine w_pick S hc (by simp) (by simp) fun wr c hc hw => ?_; (try simp -implicitDefEqProofs [-List.map_map, ev_callR, ev_range1, lstK, tupK, wipeE])
      have hbw : F_are_legs [.d wr, .d (.int m)] [] = .ok (.d (.bl false)) [] := by
        simp only [List.mem_cons, List.not_mem_nil, or_false] at hw
        rcases hw with rfl | rfl | rfl | rfl | rfl
        · exact bad_many (.inl rfl) (i := 0)
        · exact bad_app h.ok hbp
        · exact bad_many (l := []) (i := 0) (.inr (.inl rfl))
        · exact bad_many (l := []) (i := 0) (.inr (.inr (.inr ⟨_, rfl, by simp⟩)))
        · exact bad_many (l := []) (i := 0) (.inr (.inr (.inl rfl)))
      clear hw
      (try simp -implicitDefEqProofs [-List.map_map, ev_callR, ev_range1, lstK, tupK, wipeE, mk_legs h.m0 hm1 hbw])
      rw [alike_refl 6 2 _ _ (Pl_of _ _ (by decide +kernel)) (by decide) (by decide)]
      (try simp -implicitDefEqProofs [-List.map_map, ev_callR, ev_range1, lstK, tupK, wipeE])
      refine w_pick S hc (by simp) (by simp) fun wr2 c hc hw => ?_; (try simp -implicitDefEqProofs [-List.map_map, ev_callR, ev_range1, lstK, tupK, wipeE])
      have hbr : ∀ st, F_is_number [.d wr2, .d (.int 0), .d (.int 24)] st = .ok (.d (.bl false)) st := fun st => by
        simp at hw
        rcases hw with rfl | rfl | rfl | rfl | rfl <;> simp
      clear hw
      (try simp -implicitDefEqProofs [-List.map_map, ev_callR, ev_range1, lstK, tupK, wipeE, mk_rooms hbr])
      rw [alike_refl 6 2 _ _ (Pl_of _ _ (by decide +kernel)) (by decide) (by decide)]
      (try simp -implicitDefEqProofs [-List.map_map, ev_callR, ev_range1, lstK, tupK, wipeE, mk0])
      rw [own_sv (by simp) (by simp)]
      (try simp -implicitDefEqProofs [-List.map_map, ev_callR, ev_range1, lstK, tupK, wipeE])
      have e0 : eqD (.tup []) (.tup []) = true := (Pl_lgs (ls := []) (by simp)).refl
      rw [e0]
      exact .mk ‹_› rfl
    · have hn' : ¬ (ls.length : Int) < 60 := by omega
      have hn2 : (ls.length : Int) = 60 := by omega
      (try simp -implicitDefEqProofs [-List.map_map, ev_callR, ev_range1, lstK, tupK, wipeE, hn'])
      rw [fNe_tupNil _ pl1 (by decide)]
      (try simp -implicitDefEqProofs [-List.map_map, ev_callR, ev_range1, lstK, tupK, wipeE, e1, hn2])
      rw [methPK_of _ _ (rec_with _)]
      have hx : ∀ st, fIx (.d (.tup [l.d])) (.d (.int 0)) st = .ok (.d l.d) st := fun _ => rfl
      have wf := with_full (ls := ls) hl (by omega)
      (try simp -implicitDefEqProofs [-List.map_map, ev_callR, ev_range1, lstK, tupK, wipeE, hx, wf])
      rw [alike_refl 6 2 _ _ (Pl_of _ _ (by decide +kernel)) (by decide) (by decide)]
      (try simp -implicitDefEqProofs [-List.map_map, ev_callR, ev_range1, lstK, tupK, wipeE])
      refine w_pick S hc (by simp) (by simp) fun leg c hc hs => ?_; (try simp -implicitDefEqProofs [-List.map_map, ev_callR, ev_range1, lstK, tupK, wipeE])
      have hbp := bad_leg h.m0 (d := leg) (by unfold bads; exact hs)
      clear hs
      (try simp -implicitDefEqProofs [-List.map_map, ev_callR, ev_range1, lstK, tupK, wipeE])
      rw [methPK_of _ _ (rec_with _)]
      (try simp -implicitDefEqProofs [-List.map_map, ev_callR, ev_range1, lstK, tupK, wipeE, with_bad hbp])
      rw [alike_refl 6 2 _ _ (Pl_of _ _ (by decide +kernel)) (by decide) (by decide)]
      (try simp -implicitDefEqProofs [-List.map_map, ev_callR, ev_range1, lstK, tupK, wipeE])
      refine w_if (by omega) ?_
      (try simp -implicitDefEqProofs [-List.map_map, ev_callR, ev_range1, lstK, tupK, wipeE, tupK])
      refine w_pick S hc (by simp) (by simp) fun wr c hc hw => ?_; (try simp -implicitDefEqProofs [-List.map_map, ev_callR, ev_range1, lstK, tupK, wipeE])
      have hbw : F_are_legs [.d wr, .d (.int m)] [] = .ok (.d (.bl false)) [] := by
        simp only [List.mem_cons, List.not_mem_nil, or_false] at hw
        rcases hw with rfl | rfl | rfl | rfl | rfl
        · exact bad_many (.inl rfl) (i := 0)
        · exact bad_app h.ok hbp
        · exact bad_many (l := []) (i := 0) (.inr (.inl rfl))
        · exact bad_many (l := []) (i := 0) (.inr (.inr (.inr ⟨_, rfl, by simp⟩)))
        · exact bad_many (l := []) (i := 0) (.inr (.inr (.inl rfl)))
      clear hw
      (try simp -implicitDefEqProofs [-List.map_map, ev_callR, ev_range1, lstK, tupK, wipeE, mk_legs h.m0 hm1 hbw])
      rw [alike_refl 6 2 _ _ (Pl_of _ _ (by decide +kernel)) (by decide) (by decide)]
      (try simp -implicitDefEqProofs [-List.map_map, ev_callR, ev_range1, lstK, tupK, wipeE])
      refine w_pick S hc (by simp) (by simp) fun wr2 c hc hw => ?_; (try simp -implicitDefEqProofs [-List.map_map, ev_callR, ev_range1, lstK, tupK, wipeE])
      have hbr : ∀ st, F_is_number [.d wr2, .d (.int 0), .d (.int 24)] st = .ok (.d (.bl false)) st := fun st => by
        simp at hw
        rcases hw with rfl | rfl | rfl | rfl | rfl <;> simp
      clear hw
      (try simp -implicitDefEqProofs [-List.map_map, ev_callR, ev_range1, lstK, tupK, wipeE, mk_rooms hbr])
      rw [alike_refl 6 2 _ _ (Pl_of _ _ (by decide +kernel)) (by decide) (by decide)]
      (try simp -implicitDefEqProofs [-List.map_map, ev_callR, ev_range1, lstK, tupK, wipeE, mk0])
      rw [own_sv (by simp) (by simp)]
      (try simp -implicitDefEqProofs [-List.map_map, ev_callR, ev_range1, lstK, tupK, wipeE])
      have e0 : eqD (.tup []) (.tup []) = true := (Pl_lgs (ls := []) (by simp)).refl
      rw [e0]
      exact .mk ‹_› rfl
end KJ
set_option Elab.async false
set_option maxRecDepth 100000
set_option maxHeartbeats 4000000
namespace KJ
open PySem PySem.Spec PyProof.Rows L2 Ct
def RoomsP (many : Int) (d : D) : Prop := ∃ r, d = .int r ∧ 0 ≤ r ∧ r ≤ 24
theorem rooms_R {s : D} {ns : List Int} (S : Scr s ns) (many : Int) (h0 : 0 ≤ many) (h1 : many ≤ 24) : CallsR s 2 F__law_rooms [.int many] (RoomsP many) := by
  refine callsR_w rfl fun c hc => ?_
  (try simp -implicitDefEqProofs [-List.map_map, ev_callR, ev_range1, lstK, tupK, wipeE, F__law_rooms, B__law_rooms])
  refine w_taken S hc (by omega) (by omega) fun a c hc a0 a1 => ?_; (try simp -implicitDefEqProofs [-List.map_map, ev_callR, ev_range1, lstK, tupK, wipeE])
  refine w_taken S hc (by omega) (by omega) fun b c hc b0 b1 => ?_; (try simp -implicitDefEqProofs [-List.map_map, ev_callR, ev_range1, lstK, tupK, wipeE])
  refine w_taken S hc (by omega) (by omega) fun e c hc e0 e1 => ?_; (try simp -implicitDefEqProofs [-List.map_map, ev_callR, ev_range1, lstK, tupK, wipeE])
  refine w_pick S hc (by simp) (by simp) fun d c hc hd => ?_; (try simp -implicitDefEqProofs [-List.map_map, ev_callR, ev_range1, lstK, tupK, wipeE])
  refine .mk hc ?_
  simp at hd
  rcases hd with rfl | rfl | rfl | rfl
  · exact ⟨_, rfl, by omega, by omega⟩
  · exact ⟨_, rfl, by omega, by omega⟩
  · exact ⟨_, rfl, by omega, by omega⟩
  · exact ⟨_, rfl, by omega, by omega⟩
theorem cut_tail {α : Type} (xs : List α) : cut xs (some 1) none = xs.drop 1 := by
  unfold cut
  rw [HT.sIx_none, show (some (1 : Int)) = some ((1 : Nat) : Int) from rfl, HT.sIx_nat]
  rcases Nat.lt_or_ge xs.length 1 with z | z
  · have : xs = [] := List.length_eq_zero_iff.mp (by omega)
    subst this
    simp
  · rw [Nat.min_eq_left z, List.take_of_length_le (by simp)]
theorem okS {m : Int} {l : Leg} (h : l.Ok m) : l.Ok (m + 1) := ⟨h.a0, by have := h.a1; omega, h.b0, by have := h.b1; omega, h.ne, h.lo0, h.lohi, h.hi1⟩
theorem reprO_e {m : Int} {ls : List Leg} (h : SvOk m ls) (st : Store) : fReprO 0 F_SurveyD_reprD [.d (svD m ls)] st = .ok (.d (.str (rpS m ls))) st := by
  show (if (0 : Nat) = 0 then (backP (F_SurveyD_reprD [.d (svD m ls)] []) st).bind strK else .bad) = _
  rw [if_pos rfl, repr_sv h]
  rfl
theorem strOk_rp {m : Int} {ls : List Leg} (h : SvOk m ls) : PyData.strOk (rpS m ls) = true := by
  have h1 := sh_legs h
  have h2 := sh_int h.m0 (by have := h.m1; omega)
  exact strOk_app (strOk_app (strOk_app (strOk_app (strOk_of _) (shown_D h2).2.2) (strOk_of _)) (shown_D h1).2.2) (strOk_of _)
theorem law_ok {s : D} {ns : List Int} (S : Scr s ns) : ∃ st', F_law [.d s] [] = .ok (.d (.bl true)) st' := by
  have key : wR (F_law [.d s] []) (fun u _ => u = .d (.bl true)) noX := by
    (try simp -implicitDefEqProofs [-List.map_map, ev_callR, ev_range1, lstK, tupK, wipeE, F_law, B_law])
    have hc : RowI s (.lst [.d s, .d (.int 0), .d (.int 17293000), .d (.int 0)]) := ⟨_, _, _, rfl, by decide, by decide, by decide⟩
    refine w_pick S hc (by simp) (by simp) fun d1 c hc h1 => ?_; (try simp -implicitDefEqProofs [-List.map_map, ev_callR, ev_range1, lstK, tupK, wipeE])
    obtain ⟨r0, rfl, r1, r2⟩ : ∃ r, d1 = .int r ∧ 0 ≤ r ∧ r ≤ 24 := by
      simp at h1
      rcases h1 with rfl | rfl | rfl <;> exact ⟨_, rfl, by decide, by decide⟩
    clear h1
    refine w_callR (rooms_R S r0 r1 r2) hc fun d c hc hd => ?_
    obtain ⟨m, rfl, m0, m1⟩ := hd
    (try simp -implicitDefEqProofs [-List.map_map, ev_callR, ev_range1, lstK, tupK, wipeE])
    refine w_pick S hc (by simp) (by simp) fun d1 c hc h1 => ?_; (try simp -implicitDefEqProofs [-List.map_map, ev_callR, ev_range1, lstK, tupK, wipeE])
    obtain ⟨many, rfl, n0, n1⟩ : ∃ r, d1 = .int r ∧ 0 ≤ r ∧ r ≤ 60 := by
      simp at h1
      rcases h1 with rfl | rfl | rfl <;> exact ⟨_, rfl, by decide, by decide⟩
    clear h1
    refine w_callR (legs_R S m many m0 m1 n0 n1) hc fun d c hc hd => ?_
    obtain ⟨ls, rfl, hl, hls⟩ := hd
    have hl60 : ls.length ≤ 60 := by omega
    have h : SvOk m ls := ⟨m0, m1, hl60, hls⟩
    have hn1 := h.n1
    have hm2 := h.m1
    have hsz := sizeLine_eq
    (try simp -implicitDefEqProofs [-List.map_map, ev_callR, ev_range1, lstK, tupK, wipeE, make_sv h])
    rw [alike_refl 6 2 _ _ (Pl_lgs (ls := ls) (by omega)) (by decide) (by decide)]
    (try simp -implicitDefEqProofs [-List.map_map, ev_callR, ev_range1, lstK, tupK, wipeE, fLenO_sv m ls _ hn1, make_sv h])
    have pl0 := Pl_lgs (ls := ls) (by omega)
    have er := pl0.refl
    have s1 : ∀ st, F_is_survey [.d (.tup (ls.map Leg.d))] st = .ok (.d (.bl false)) st := fun st => by simp [F_is_survey, B_is_survey]
    rw [own_sv hn1 hn1, er]
    (try simp -implicitDefEqProofs [-List.map_map, ev_callR, ev_range1, lstK, tupK, wipeE])
    rw [own_tup]
    (try simp -implicitDefEqProofs [-List.map_map, ev_callR, ev_range1, lstK, tupK, wipeE, s1])
    rw [reprO_e h]
    (try simp -implicitDefEqProofs [-List.map_map, ev_callR, ev_range1, lstK, tupK, wipeE])
    rw [reprD_e (sh_int h.m0 (by omega))]
    have l1 := (shown_D (sh_legs h)).1
    have l2 := (shown_D (sh_int h.m0 (by omega : m ≤ 100))).1
    have c1 : ("Survey(" : Str).length = 7 := rfl
    have c2 : (", " : Str).length = 2 := rfl
    have c3 : (")" : Str).length = 1 := rfl
    (try simp -implicitDefEqProofs [-List.map_map, ev_callR, ev_range1, lstK, tupK, wipeE])
    refine w_if (by omega) ?_
    (try simp -implicitDefEqProofs [-List.map_map, ev_callR, ev_range1, lstK, tupK, wipeE])
    refine w_if (by simp only [len_app]; omega) ?_
    (try simp -implicitDefEqProofs [-List.map_map, ev_callR, ev_range1, lstK, tupK, wipeE])
    rw [reprD_e (sh_legs h)]
    (try simp -implicitDefEqProofs [-List.map_map, ev_callR, ev_range1, lstK, tupK, wipeE])
    refine w_if (by simp only [len_app]; omega) ?_
    (try simp -implicitDefEqProofs [-List.map_map, ev_callR, ev_range1, lstK, tupK, wipeE])
    refine w_if (by simp only [len_app]; omega) ?_
    (try simp -implicitDefEqProofs [-List.map_map, ev_callR, ev_range1, lstK, tupK, wipeE])
    rw [show (Str.ofString "Survey(" ++ shownD (D.int m) ++ Str.ofString ", " ++ shownD (D.tup (List.map Leg.d ls)) ++ Str.ofString ")") = rpS m ls from rfl]
    rw [alike_refl 6 0 _ _ (.str (strOk_rp h)) (by decide) (by decide)]
    (try simp -implicitDefEqProofs [-List.map_map, ev_callR, ev_range1, lstK, tupK, wipeE])
    rw [fNe_tupNil _ pl0 (by decide)]
    have mk1 : ∀ st, backMk (F_SurveyD_initD [.loc 0, .d (.int m), .d (.tup ((ls.map Leg.d).tail))] [.ins 0 []]) st = .ok (.d (svD m ls.tail)) st := fun st => by
      rw [← List.map_tail]
      exact make_sv ⟨h.m0, h.m1, by simp; omega, fun l hl => h.ok l (List.mem_of_mem_tail hl)⟩ st
    have mkR : ∀ st, backMk (F_SurveyD_initD [.loc 0, .d (.int m), .d (.tup ((ls.map Leg.d).reverse))] [.ins 0 []]) st = .ok (.d (svD m ls.reverse)) st := fun st => by
      rw [← List.map_reverse]
      exact make_sv ⟨h.m0, h.m1, by simp; omega, fun l hl => h.ok l (by simpa using hl)⟩ st
    have plR : Pl 2 (.tup ((ls.map Leg.d).reverse)) := by
      rw [← List.map_reverse]
      exact Pl_lgs (by simp; omega)
    have plT : Pl 2 (.tup ((ls.map trn).map Leg.d)) := Pl_lgs (ls := ls.map trn) (by simp; omega)
    have n1' : ¬ m = m + 1 := by omega
    by_cases hE : ls = []
    · have e2 : (ls.map Leg.d).isEmpty = true := by simp [hE]
      (try simp -implicitDefEqProofs [-List.map_map, ev_callR, ev_range1, lstK, tupK, wipeE, e2])
      by_cases h24 : m < 24
      · have mk2 : ∀ st, backMk (F_SurveyD_initD [.loc 0, .d (.int (m + 1)), .d (.tup (ls.map Leg.d))] [.ins 0 []]) st = .ok (.d (svD (m + 1) ls)) st := make_sv ⟨by omega, by omega, hn1, fun l hl => okS (h.ok l hl)⟩
        (try simp -implicitDefEqProofs [-List.map_map, ev_callR, ev_range1, lstK, tupK, wipeE, h24, mk2])
        rw [own_sv hn1 hn1]
        (try simp -implicitDefEqProofs [-List.map_map, ev_callR, ev_range1, lstK, tupK, wipeE, n1'])
        rw [methPK_of _ _ (rec_turned _)]
        (try simp -implicitDefEqProofs [-List.map_map, ev_callR, ev_range1, lstK, tupK, wipeE, turned_ok h])
        refine wR_lc0 (J := tuJ ls _) ⟨by simp, rfl⟩ (by simp; omega) (fun k u hu acc st hJ => ?_) (fun acc st hJ => ?_)
        · obtain ⟨rfl, rfl⟩ := hJ
          obtain ⟨l, hl, rfl⟩ := leg_at2 hu
          (try simp -implicitDefEqProofs [-List.map_map, ev_callR, ev_range1, lstK, tupK, wipeE, tupK])
          exact ⟨by rw [Ct.take_at hl]; simp [trn, Leg.d], rfl⟩
        obtain ⟨rfl, rfl⟩ := hJ
        rw [List.take_of_length_le (by simp)]
        (try simp -implicitDefEqProofs [-List.map_map, ev_callR, ev_range1, lstK, tupK, wipeE])
        rw [fNe_pl plT plT (by decide) (by decide), plT.refl]
        (try simp -implicitDefEqProofs [-List.map_map, ev_callR, ev_range1, lstK, tupK, wipeE])
        rw [fNe_tupNil _ pl0 (by decide)]
        (try simp -implicitDefEqProofs [-List.map_map, ev_callR, ev_range1, lstK, tupK, wipeE, e2])
        refine w_callR (refused_R S h) ‹_› fun d c hc hd => ?_
        subst hd
        (try simp -implicitDefEqProofs [-List.map_map, ev_callR, ev_range1, lstK, tupK, wipeE])
      · (try simp -implicitDefEqProofs [-List.map_map, ev_callR, ev_range1, lstK, tupK, wipeE, h24])
        rw [methPK_of _ _ (rec_turned _)]
        (try simp -implicitDefEqProofs [-List.map_map, ev_callR, ev_range1, lstK, tupK, wipeE, turned_ok h])
        refine wR_lc0 (J := tuJ ls _) ⟨by simp, rfl⟩ (by simp; omega) (fun k u hu acc st hJ => ?_) (fun acc st hJ => ?_)
        · obtain ⟨rfl, rfl⟩ := hJ
          obtain ⟨l, hl, rfl⟩ := leg_at2 hu
          (try simp -implicitDefEqProofs [-List.map_map, ev_callR, ev_range1, lstK, tupK, wipeE, tupK])
          exact ⟨by rw [Ct.take_at hl]; simp [trn, Leg.d], rfl⟩
        obtain ⟨rfl, rfl⟩ := hJ
        rw [List.take_of_length_le (by simp)]
        (try simp -implicitDefEqProofs [-List.map_map, ev_callR, ev_range1, lstK, tupK, wipeE])
        rw [fNe_pl plT plT (by decide) (by decide), plT.refl]
        (try simp -implicitDefEqProofs [-List.map_map, ev_callR, ev_range1, lstK, tupK, wipeE])
        rw [fNe_tupNil _ pl0 (by decide)]
        (try simp -implicitDefEqProofs [-List.map_map, ev_callR, ev_range1, lstK, tupK, wipeE, e2])
        refine w_callR (refused_R S h) ‹_› fun d c hc hd => ?_
        subst hd
        (try simp -implicitDefEqProofs [-List.map_map, ev_callR, ev_range1, lstK, tupK, wipeE])
    · have e2 : (ls.map Leg.d).isEmpty = false := by
        cases ls with
        | nil => exact absurd rfl hE
        | cons _ _ => rfl
      have hpos : 0 < ls.length := List.length_pos_iff.mpr hE
      (try simp -implicitDefEqProofs [-List.map_map, ev_callR, ev_range1, lstK, tupK, wipeE, e2])
      rw [cut_tail]
      (try simp -implicitDefEqProofs [-List.map_map, ev_callR, ev_range1, lstK, tupK, wipeE, mk1])
      rw [own_sv hn1 (by simp; omega), eqD_len (by simp; omega)]
      (try simp -implicitDefEqProofs [-List.map_map, ev_callR, ev_range1, lstK, tupK, wipeE])
      rw [fNe_pl pl0 plR (by decide) (by decide)]
      cases hq : eqD (.tup (ls.map Leg.d)) (.tup ((ls.map Leg.d).reverse)) with
      | true =>
        (try simp -implicitDefEqProofs [-List.map_map, ev_callR, ev_range1, lstK, tupK, wipeE])
        by_cases h24 : m < 24
        · have mk2 : ∀ st, backMk (F_SurveyD_initD [.loc 0, .d (.int (m + 1)), .d (.tup (ls.map Leg.d))] [.ins 0 []]) st = .ok (.d (svD (m + 1) ls)) st := make_sv ⟨by omega, by omega, hn1, fun l hl => okS (h.ok l hl)⟩
          (try simp -implicitDefEqProofs [-List.map_map, ev_callR, ev_range1, lstK, tupK, wipeE, h24, mk2])
          rw [own_sv hn1 hn1]
          (try simp -implicitDefEqProofs [-List.map_map, ev_callR, ev_range1, lstK, tupK, wipeE, n1'])
          rw [methPK_of _ _ (rec_turned _)]
          (try simp -implicitDefEqProofs [-List.map_map, ev_callR, ev_range1, lstK, tupK, wipeE, turned_ok h])
          refine wR_lc0 (J := tuJ ls _) ⟨by simp, rfl⟩ (by simp; omega) (fun k u hu acc st hJ => ?_) (fun acc st hJ => ?_)
          · obtain ⟨rfl, rfl⟩ := hJ
            obtain ⟨l, hl, rfl⟩ := leg_at2 hu
            (try simp -implicitDefEqProofs [-List.map_map, ev_callR, ev_range1, lstK, tupK, wipeE, tupK])
            exact ⟨by rw [Ct.take_at hl]; simp [trn, Leg.d], rfl⟩
          obtain ⟨rfl, rfl⟩ := hJ
          rw [List.take_of_length_le (by simp)]
          (try simp -implicitDefEqProofs [-List.map_map, ev_callR, ev_range1, lstK, tupK, wipeE])
          rw [fNe_pl plT plT (by decide) (by decide), plT.refl]
          (try simp -implicitDefEqProofs [-List.map_map, ev_callR, ev_range1, lstK, tupK, wipeE])
          rw [fNe_tupNil _ pl0 (by decide)]
          (try simp -implicitDefEqProofs [-List.map_map, ev_callR, ev_range1, lstK, tupK, wipeE, e2])
          refine w_taken S hc (by omega) (by omega) fun at_ c hc a0 a1 => ?_; (try simp -implicitDefEqProofs [-List.map_map, ev_callR, ev_range1, lstK, tupK, wipeE])
          (try simp -implicitDefEqProofs [-List.map_map, ev_callR, ev_range1, lstK, tupK, wipeE])
          rw [methPK_of _ _ (rec_without _)]
          (try simp -implicitDefEqProofs [-List.map_map, ev_callR, ev_range1, lstK, tupK, wipeE, without_ok h a0 a1])
          rw [cut_takeI a0 (by simp; omega), cut_dropI (by omega) (by simp; omega)]
          refine w_if (by simp; omega) ?_
          have ew : (ls.map Leg.d).take at_.toNat ++ (ls.map Leg.d).drop (at_ + 1).toNat = (wo ls at_).map Leg.d := by
            unfold wo
            rw [show (at_ + 1).toNat = at_.toNat + 1 by omega]
            simp
          rw [ew]
          have plW : Pl 2 (.tup ((wo ls at_).map Leg.d)) := Pl_lgs (by unfold wo; simp; omega)
          (try simp -implicitDefEqProofs [-List.map_map, ev_callR, ev_range1, lstK, tupK, wipeE])
          rw [fNe_pl plW plW (by decide) (by decide), plW.refl]
          (try simp -implicitDefEqProofs [-List.map_map, ev_callR, ev_range1, lstK, tupK, wipeE])
          rw [methPK_of _ _ (rec_without _)]
          (try simp -implicitDefEqProofs [-List.map_map, ev_callR, ev_range1, lstK, tupK, wipeE, without_ok h a0 a1])
          refine w_callR (refused_R S h) ‹_› fun d c hc hd => ?_
          subst hd
          (try simp -implicitDefEqProofs [-List.map_map, ev_callR, ev_range1, lstK, tupK, wipeE])
        · (try simp -implicitDefEqProofs [-List.map_map, ev_callR, ev_range1, lstK, tupK, wipeE, h24])
          rw [methPK_of _ _ (rec_turned _)]
          (try simp -implicitDefEqProofs [-List.map_map, ev_callR, ev_range1, lstK, tupK, wipeE, turned_ok h])
          refine wR_lc0 (J := tuJ ls _) ⟨by simp, rfl⟩ (by simp; omega) (fun k u hu acc st hJ => ?_) (fun acc st hJ => ?_)
          · obtain ⟨rfl, rfl⟩ := hJ
            obtain ⟨l, hl, rfl⟩ := leg_at2 hu
            (try simp -implicitDefEqProofs [-List.map_map, ev_callR, ev_range1, lstK, tupK, wipeE, tupK])
            exact ⟨by rw [Ct.take_at hl]; simp [trn, Leg.d], rfl⟩
          obtain ⟨rfl, rfl⟩ := hJ
          rw [List.take_of_length_le (by simp)]
          (try simp -implicitDefEqProofs [-List.map_map, ev_callR, ev_range1, lstK, tupK, wipeE])
          rw [fNe_pl plT plT (by decide) (by decide), plT.refl]
          (try simp -implicitDefEqProofs [-List.map_map, ev_callR, ev_range1, lstK, tupK, wipeE])
          rw [fNe_tupNil _ pl0 (by decide)]
          (try simp -implicitDefEqProofs [-List.map_map, ev_callR, ev_range1, lstK, tupK, wipeE, e2])
          refine w_taken S hc (by omega) (by omega) fun at_ c hc a0 a1 => ?_; (try simp -implicitDefEqProofs [-List.map_map, ev_callR, ev_range1, lstK, tupK, wipeE])
          (try simp -implicitDefEqProofs [-List.map_map, ev_callR, ev_range1, lstK, tupK, wipeE])
          rw [methPK_of _ _ (rec_without _)]
          (try simp -implicitDefEqProofs [-List.map_map, ev_callR, ev_range1, lstK, tupK, wipeE, without_ok h a0 a1])
          rw [cut_takeI a0 (by simp; omega), cut_dropI (by omega) (by simp; omega)]
          refine w_if (by simp; omega) ?_
          have ew : (ls.map Leg.d).take at_.toNat ++ (ls.map Leg.d).drop (at_ + 1).toNat = (wo ls at_).map Leg.d := by
            unfold wo
            rw [show (at_ + 1).toNat = at_.toNat + 1 by omega]
            simp
          rw [ew]
          have plW : Pl 2 (.tup ((wo ls at_).map Leg.d)) := Pl_lgs (by unfold wo; simp; omega)
          (try simp -implicitDefEqProofs [-List.map_map, ev_callR, ev_range1, lstK, tupK, wipeE])
          rw [fNe_pl plW plW (by decide) (by decide), plW.refl]
          (try simp -implicitDefEqProofs [-List.map_map, ev_callR, ev_range1, lstK, tupK, wipeE])
          rw [methPK_of _ _ (rec_without _)]
          (try simp -implicitDefEqProofs [-List.map_map, ev_callR, ev_range1, lstK, tupK, wipeE, without_ok h a0 a1])
          refine w_callR (refused_R S h) ‹_› fun d c hc hd => ?_
          subst hd
          (try simp -implicitDefEqProofs [-List.map_map, ev_callR, ev_range1, lstK, tupK, wipeE])
      | false =>
        (try simp -implicitDefEqProofs [-List.map_map, ev_callR, ev_range1, lstK, tupK, wipeE, mkR])
        rw [own_sv hn1 (by simp; omega), List.map_reverse, hq]
        (try simp -implicitDefEqProofs [-List.map_map, ev_callR, ev_range1, lstK, tupK, wipeE])
        by_cases h24 : m < 24
        · have mk2 : ∀ st, backMk (F_SurveyD_initD [.loc 0, .d (.int (m + 1)), .d (.tup (ls.map Leg.d))] [.ins 0 []]) st = .ok (.d (svD (m + 1) ls)) st := make_sv ⟨by omega, by omega, hn1, fun l hl => okS (h.ok l hl)⟩
          (try simp -implicitDefEqProofs [-List.map_map, ev_callR, ev_range1, lstK, tupK, wipeE, h24, mk2])
          rw [own_sv hn1 hn1]
          (try simp -implicitDefEqProofs [-List.map_map, ev_callR, ev_range1, lstK, tupK, wipeE, n1'])
          rw [methPK_of _ _ (rec_turned _)]
          (try simp -implicitDefEqProofs [-List.map_map, ev_callR, ev_range1, lstK, tupK, wipeE, turned_ok h])
          refine wR_lc0 (J := tuJ ls _) ⟨by simp, rfl⟩ (by simp; omega) (fun k u hu acc st hJ => ?_) (fun acc st hJ => ?_)
          · obtain ⟨rfl, rfl⟩ := hJ
            obtain ⟨l, hl, rfl⟩ := leg_at2 hu
            (try simp -implicitDefEqProofs [-List.map_map, ev_callR, ev_range1, lstK, tupK, wipeE, tupK])
            exact ⟨by rw [Ct.take_at hl]; simp [trn, Leg.d], rfl⟩
          obtain ⟨rfl, rfl⟩ := hJ
          rw [List.take_of_length_le (by simp)]
          (try simp -implicitDefEqProofs [-List.map_map, ev_callR, ev_range1, lstK, tupK, wipeE])
          rw [fNe_pl plT plT (by decide) (by decide), plT.refl]
          (try simp -implicitDefEqProofs [-List.map_map, ev_callR, ev_range1, lstK, tupK, wipeE])
          rw [fNe_tupNil _ pl0 (by decide)]
          (try simp -implicitDefEqProofs [-List.map_map, ev_callR, ev_range1, lstK, tupK, wipeE, e2])
          refine w_taken S hc (by omega) (by omega) fun at_ c hc a0 a1 => ?_; (try simp -implicitDefEqProofs [-List.map_map, ev_callR, ev_range1, lstK, tupK, wipeE])
          (try simp -implicitDefEqProofs [-List.map_map, ev_callR, ev_range1, lstK, tupK, wipeE])
          rw [methPK_of _ _ (rec_without _)]
          (try simp -implicitDefEqProofs [-List.map_map, ev_callR, ev_range1, lstK, tupK, wipeE, without_ok h a0 a1])
          rw [cut_takeI a0 (by simp; omega), cut_dropI (by omega) (by simp; omega)]
          refine w_if (by simp; omega) ?_
          have ew : (ls.map Leg.d).take at_.toNat ++ (ls.map Leg.d).drop (at_ + 1).toNat = (wo ls at_).map Leg.d := by
            unfold wo
            rw [show (at_ + 1).toNat = at_.toNat + 1 by omega]
            simp
          rw [ew]
          have plW : Pl 2 (.tup ((wo ls at_).map Leg.d)) := Pl_lgs (by unfold wo; simp; omega)
          (try simp -implicitDefEqProofs [-List.map_map, ev_callR, ev_range1, lstK, tupK, wipeE])
          rw [fNe_pl plW plW (by decide) (by decide), plW.refl]
          (try simp -implicitDefEqProofs [-List.map_map, ev_callR, ev_range1, lstK, tupK, wipeE])
          rw [methPK_of _ _ (rec_without _)]
          (try simp -implicitDefEqProofs [-List.map_map, ev_callR, ev_range1, lstK, tupK, wipeE, without_ok h a0 a1])
          refine w_callR (refused_R S h) ‹_› fun d c hc hd => ?_
          subst hd
          (try simp -implicitDefEqProofs [-List.map_map, ev_callR, ev_range1, lstK, tupK, wipeE])
        · (try simp -implicitDefEqProofs [-List.map_map, ev_callR, ev_range1, lstK, tupK, wipeE, h24])
          rw [methPK_of _ _ (rec_turned _)]
          (try simp -implicitDefEqProofs [-List.map_map, ev_callR, ev_range1, lstK, tupK, wipeE, turned_ok h])
          refine wR_lc0 (J := tuJ ls _) ⟨by simp, rfl⟩ (by simp; omega) (fun k u hu acc st hJ => ?_) (fun acc st hJ => ?_)
          · obtain ⟨rfl, rfl⟩ := hJ
            obtain ⟨l, hl, rfl⟩ := leg_at2 hu
            (try simp -implicitDefEqProofs [-List.map_map, ev_callR, ev_range1, lstK, tupK, wipeE, tupK])
            exact ⟨by rw [Ct.take_at hl]; simp [trn, Leg.d], rfl⟩
          obtain ⟨rfl, rfl⟩ := hJ
          rw [List.take_of_length_le (by simp)]
          (try simp -implicitDefEqProofs [-List.map_map, ev_callR, ev_range1, lstK, tupK, wipeE])
          rw [fNe_pl plT plT (by decide) (by decide), plT.refl]
          (try simp -implicitDefEqProofs [-List.map_map, ev_callR, ev_range1, lstK, tupK, wipeE])
          rw [fNe_tupNil _ pl0 (by decide)]
          (try simp -implicitDefEqProofs [-List.map_map, ev_callR, ev_range1, lstK, tupK, wipeE, e2])
          refine w_taken S hc (by omega) (by omega) fun at_ c hc a0 a1 => ?_; (try simp -implicitDefEqProofs [-List.map_map, ev_callR, ev_range1, lstK, tupK, wipeE])
          (try simp -implicitDefEqProofs [-List.map_map, ev_callR, ev_range1, lstK, tupK, wipeE])
          rw [methPK_of _ _ (rec_without _)]
          (try simp -implicitDefEqProofs [-List.map_map, ev_callR, ev_range1, lstK, tupK, wipeE, without_ok h a0 a1])
          rw [cut_takeI a0 (by simp; omega), cut_dropI (by omega) (by simp; omega)]
          refine w_if (by simp; omega) ?_
          have ew : (ls.map Leg.d).take at_.toNat ++ (ls.map Leg.d).drop (at_ + 1).toNat = (wo ls at_).map Leg.d := by
            unfold wo
            rw [show (at_ + 1).toNat = at_.toNat + 1 by omega]
            simp
          rw [ew]
          have plW : Pl 2 (.tup ((wo ls at_).map Leg.d)) := Pl_lgs (by unfold wo; simp; omega)
          (try simp -implicitDefEqProofs [-List.map_map, ev_callR, ev_range1, lstK, tupK, wipeE])
          rw [fNe_pl plW plW (by decide) (by decide), plW.refl]
          (try simp -implicitDefEqProofs [-List.map_map, ev_callR, ev_range1, lstK, tupK, wipeE])
          rw [methPK_of _ _ (rec_without _)]
          (try simp -implicitDefEqProofs [-List.map_map, ev_callR, ev_range1, lstK, tupK, wipeE, without_ok h a0 a1])
          refine w_callR (refused_R S h) ‹_› fun d c hc hd => ?_
          subst hd
          (try simp -implicitDefEqProofs [-List.map_map, ev_callR, ev_range1, lstK, tupK, wipeE])
  obtain ⟨u, st, e, rfl⟩ := wR_get key
  exact ⟨st, e⟩
theorem pure_law (ns : List Int) (_ : ns.length ≤ 63) (_ : ∀ z ∈ ns, Builtin.Int.intBits z ≤ 1048576) (s : D) (hs : s = .lst (ns.map D.int) ∨ s = .frz (ns.map D.int)) : ∃ st', F_law [.d s] [] = .ok (.d (.bl true)) st' := by
  rcases hs with rfl | rfl
  · exact law_ok (scr_lst ns)
  · exact law_ok (scr_frz ns)
end KJ
set_option Elab.async false
set_option maxRecDepth 100000
set_option maxHeartbeats 0
namespace KJ
open PySem PySem.Spec PyProof.Rows L2 Ct
def lay : Lay := ⟨fa, fn, gens, lams, props, 0, PySem.Challenge.pw_cavetrue_k00_surveys.main.file, top 21, mth 2 0, mth 3 0, [("legs", "_legs", "Survey.legs", mth 13 2), ("rooms", "_rooms", "Survey.rooms", mth 13 1)]⟩
theorem getsOk : ∀ g ∈ lay.gets, FnScope ["self"] ["self"] (defScope g.2.2.2) ∧ (∃ p1 p2 p3, defBody g.2.2.2 = [.Return (some (.Attribute (.Name "self" p1) g.2.1 p2)) p3]) ∧
    ∀ (K : PySem.W.Frag) (doc pm : Value) (an : Option Addr) (cdv ct : Value), Binds K (PySem.W.fnOf g.1 g.2.2.1 (defArgs g.2.2.2) (defBody g.2.2.2) (defScope g.2.2.2) .none .none doc pm an cdv ct) ["self"] [] := by
  intro g hg
  rcases List.mem_cons.mp hg with e | hg
  · subst e
    exact ⟨⟨rfl, rfl, rfl, by decide +kernel, rfl, by decide +kernel, by decide +kernel⟩, ⟨_, _, _, rfl⟩, fun K doc pm an cdv ct => .all fun us hl => match us, hl with | [_], _ => rfl⟩
  rcases List.mem_cons.mp hg with e | hg
  · subst e
    exact ⟨⟨rfl, rfl, rfl, by decide +kernel, rfl, by decide +kernel, by decide +kernel⟩, ⟨_, _, _, rfl⟩, fun K doc pm an cdv ct => .all fun us hl => match us, hl with | [_], _ => rfl⟩
  cases hg
theorem layOk : LayOk (PySem.Challenge.rw_cavetrue_k00_surveys).prog lay := ⟨rfl, by decide +kernel, fun K doc pm an cdv ct => .all fun us hl => match us, hl with | [_], _ => rfl, ⟨rfl, rfl, rfl, by decide +kernel, rfl, by decide +kernel, by decide +kernel⟩, rfl, (by (repeat apply Exists.intro); rfl; all_goals exact (⟨0, 0, 0, 0⟩ : Pos)), (by (repeat apply Exists.intro); exact ⟨rfl, rfl, rfl, rfl⟩), (by (repeat apply Exists.intro); exact ⟨rfl, rfl, rfl, rfl⟩), getsOk, rfl⟩
abbrev R : PySem.W.OpenRow := PySem.W.OpenLaw.row PySem.Challenge.rw_cavetrue_k00_surveys
abbrev hk : PySem.W.Hook := hookC lay 5
def ob (s : PySem.W.SharedT) : AlC := obsC lay 5 (HandSHeadRun.getT s)
theorem ob_eq (s : PySem.W.SharedT) : ob s = hk.obs s.abs := obsC_eq lay (HandSHeadRun.getT_eq s)
def names : List Str := "CaveError" :: "BadArgument" :: "NoPlan" :: "is_number" :: "check" :: "MOST_ROOMS" :: "MOST_LEGS" :: "MOST_RISE" :: "is_leg" :: "are_legs" :: "Survey" :: "is_survey" :: "_law_taken" :: "_law_pick" :: "_law_rooms" :: "_law_legs" :: "_law_alike" :: "_law_heard" :: "_law_refused" :: []
theorem run (w : World) : HandSHeadRun.RunEq R (PySem.W.view R.prog [23]) hk ob 3000 names w := by
  intro os
  kernel_rfl
end KJ
set_option Elab.async false
set_option maxRecDepth 100000
set_option maxHeartbeats 0
open PySem PySem.W PySem.Calls PyProof.Rows
theorem PySem.Challenge.cw_cavetrue_k00_surveys_holds : PySem.Challenge.rw_cavetrue_k00_surveys.Holds := by
  w_on; o_law
  refine HandSHeadRun.head_any (r := OpenLaw.row PySem.Challenge.rw_cavetrue_k00_surveys) (q := view (OpenLaw.row PySem.Challenge.rw_cavetrue_k00_surveys).prog [23]) (H := KJ.hk) (ob := KJ.ob) (M := 3000) (loose := KJ.names) (d := HandSHeadRun.topDef (OpenLaw.row PySem.Challenge.rw_cavetrue_k00_surveys).prog 23) (kwd := []) KJ.ob_eq
    (by kernel_rfl) (fun s => by kernel_rfl) KJ.run (by kernel_rfl) (by kernel_rfl) (by kernel_rfl) (by rfl) (by first | assumption | decide +kernel) (by decide +kernel) ⟨rfl, rfl, rfl, rfl, rfl, by decide +kernel⟩ ?hw ?hc
  case hw => w_witness2
  case hc =>
    refine Ct.walk_own (l := PySem.Challenge.rw_cavetrue_k00_surveys) (n := 63) rfl (by decide) (by kernel_rfl) ?F
    intro w mg fa h Y G hmg0
    have hmg : mg ("law" : PySem.Str) = some (.ref fa) := by
      have e : (HandSHeadRun.topDef (OpenLaw.row PySem.Challenge.rw_cavetrue_k00_surveys).prog 23).name = ("law" : PySem.Str) := by kernel_rfl
      rw [← e]
      exact hmg0
    exact Ct.law_endG (L := KJ.lay) (Flaw := KJ.F_law) (k := 16) KJ.layOk ⟨rfl, by decide, by decide⟩ (List.mem_of_getElem? (i := 37) rfl) (fun K base T => KJ.okg_law T) (fun ns hl hb s hs => KJ.pure_law ns hl hb s hs) Y G hmg
