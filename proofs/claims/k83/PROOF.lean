import PyProof.Rows.All
import Wide.All
import OpenK.AllK
import Wide.FinOn
import HandS.ForMost
import HandS.ForExc
import HandS.TryMany
import HandS.CallSlots
import HandS.Lambda
import HandS.Zip
import HandS.TryOnly
import HandS.ExcIs
import HandS.ExcField
import HandS.Wide
import HandS.TupAny
import HandS.RaiseMore
import HandS.SetFor
import HandS.IsInst
import HandS.Codes
import HandS.Style
import HandS.EndTab
import PySem.Challenge.RW_piledoors_k83_stacks_and_rules_as_texts
import HandS.Text
set_option Elab.async false
set_option linter.all false
set_option maxRecDepth 100000
set_option maxHeartbeats 1000000
/-! DD1: deep values, what they stand for over the abstract heap; results. -/
namespace DD
open PySem PySem.Spec L2

/-- a deep value: what a program's value is worth, tuples and frozen lists opened -/
inductive D where
  | non | bl (b : Bool) | int (i : Int) | str (x : Str)
  | tup (l : List D) | lst (l : List D)
  | ref (i : Nat)
  deriving Inhabited

/-- a mutable object that is shared -/
inductive MO where
  | lst (l : List D)
  deriving Inhabited
abbrev Mem := List MO

/-- what a slot holds: nothing told, a value, a list of the frame's own, the exception in hand, a thunk -/
inductive SV where
  | emp | val (d : D) | own (l : List D) | hnd (c : Str) (fs : List (Str × D)) | thk
  deriving Inhabited
abbrev Sl := List SV

inductive R (α : Type) where
  | ok (a : α) (M : Mem) | exc (c : Str) (fs : List (Str × D)) (M : Mem) | bad
def R.bind {α β : Type} (r : R α) (k : α → Mem → R β) : R β := match r with
  | .ok a M => k a M
  | .exc c fs M => .exc c fs M
  | .bad => .bad
@[simp] theorem R.bind_ok {α β : Type} (a : α) (M : Mem) (k : α → Mem → R β) : (R.ok a M).bind k = k a M := rfl
@[simp] theorem R.bind_exc {α β : Type} (c fs) (M : Mem) (k : α → Mem → R β) : (R.exc c fs M : R α).bind k = .exc c fs M := rfl
@[simp] theorem R.bind_bad {α β : Type} (k : α → Mem → R β) : (R.bad : R α).bind k = .bad := rfl
def ofO {α : Type} (o : Option α) (M : Mem) : R α := match o with
  | some a => .ok a M
  | none => .bad
@[simp] theorem ofO_some {α : Type} (a : α) (M : Mem) : ofO (some a) M = .ok a M := rfl
@[simp] theorem ofO_none {α : Type} (M : Mem) : ofO (none : Option α) M = .bad := rfl

inductive RS where
  | nx (ρ : Sl) (M : Mem) | rt (d : D) (M : Mem) | bk (ρ : Sl) (M : Mem) | ct (ρ : Sl) (M : Mem) | exc (c : Str) (fs : List (Str × D)) (ρ : Sl) (M : Mem) | bad

/-- nothing but a table may stand there -/
def Nil (H : Hp) (a : Addr) : Prop := ∀ o, H a = some o → ∃ ps, o = .tbl ps
theorem Nil.of {H : Hp} {a : Addr} (h : H a = none) : Nil H a := fun o e => by rw [h] at e; cases e
theorem Nil.no {H : Hp} {a : Addr} {o : HO} (z : Nil H a) (h : H a = some o) (n : ∀ ps, o ≠ .tbl ps) : False := let ⟨ps, e⟩ := z o h; n ps e
theorem Nil.lst {H : Hp} {a : Addr} {xs : List V} (z : Nil H a) (h : H a = some (.lst xs)) : False := z.no h fun ps e => by cases e
abbrev Av := Addr → Prop
/-- a tuple of the written part -/
def KT (K : PySem.W.Frag) (a : Addr) (xs : List V) : Prop :=
  ∃ (o : Obj) (its : Array Value) (n : Nat), K.lookup a = some o ∧ o.cls = .type "tuple" ∧ o.data = .seq its n ∧ its.size ≤ sizeLine ∧ Vals xs its.toList
/-- a list of the written part -/
def KL (K : PySem.W.Frag) (a : Addr) (xs : List V) : Prop := ∀ H : Hp, SqL K H a xs
mutual
inductive DRel (K : PySem.W.Frag) (μ : List Addr) (av : Av) (H : Hp) : D → V → Prop
  | non : DRel K μ av H .non .non
  | bl (b : Bool) : DRel K μ av H (.bl b) (.bl b)
  | int (i : Int) : DRel K μ av H (.int i) (.int i)
  | str (x : Str) : x.length ≤ sizeLine → DRel K μ av H (.str x) (.str x)
  | tup {ds : List D} {a : Addr} {xs : List V} : Rd H a (.tup xs) → a ∉ μ → ¬ av a → xs.length ≤ sizeLine → DRels K μ av H ds xs → DRel K μ av H (.tup ds) (.ref a)
  | tupK {ds : List D} {a : Addr} {xs : List V} : KT K a xs → xs.length ≤ sizeLine → DRels K μ av H ds xs → DRel K μ av H (.tup ds) (.ref a)
  | lst {ds : List D} {a : Addr} {xs : List V} : Rd H a (.lst xs) → a ∉ μ → ¬ av a → xs.length ≤ sizeLine → DRels K μ av H ds xs → DRel K μ av H (.lst ds) (.ref a)
  | lstK {ds : List D} {a : Addr} {xs : List V} : KL K a xs → xs.length ≤ sizeLine → DRels K μ av H ds xs → DRel K μ av H (.lst ds) (.ref a)
  | ref {i : Nat} {a : Addr} : μ[i]? = some a → DRel K μ av H (.ref i) (.ref a)
inductive DRels (K : PySem.W.Frag) (μ : List Addr) (av : Av) (H : Hp) : List D → List V → Prop
  | nil : DRels K μ av H [] []
  | cons {d : D} {v : V} {ds : List D} {vs : List V} : DRel K μ av H d v → DRels K μ av H ds vs → DRels K μ av H (d :: ds) (v :: vs)
end

inductive MORel (K : PySem.W.Frag) (μ : List Addr) (av : Av) (H : Hp) : MO → Addr → Prop
  | lst {ds : List D} {a : Addr} {xs : List V} : H a = some (.lst xs) → xs.length ≤ sizeLine → DRels K μ av H ds xs → MORel K μ av H (.lst ds) a

/-- the tables of code objects that the written part's defs with lambdas have: a table, the name of its lambdas -/
class Tbs (K : PySem.W.Frag) where
  T : List (Addr × Str)
abbrev TabsK (K : PySem.W.Frag) [Tbs K] (H : Hp) : Prop := LamX.Tabs (Tbs.T K) H
structure MemRel (K : PySem.W.Frag) [Tbs K] (μ : List Addr) (av : Av) (H : Hp) (M : Mem) : Prop where
  len : μ.length = M.length
  nd : μ.Nodup
  at_ : ∀ (i : Nat) (a : Addr) (m : MO), μ[i]? = some a → M[i]? = some m → MORel K μ av H m a
  avs : ∀ a, av a → ¬ Nil H a
  dis : ∀ a ∈ μ, ¬ av a
  tab : TabsK K H

/-- all but what may be written is kept; new shared objects are fresh -/
structure Ext (μ : List Addr) (wr : Av) (H : Hp) (μ' : List Addr) (H' : Hp) : Prop where
  pre : ∃ ν, μ' = μ ++ ν ∧ ∀ a ∈ ν, Nil H a
  keep : ∀ a o, a ∉ μ → ¬ wr a → H a = some o → (∀ ps, o ≠ .tbl ps) → H' a = some o
  dom : ∀ a, Nil H' a → Nil H a
abbrev No : Av := fun _ => False

section
variable {K : PySem.W.Frag} [Tbs K] {μ μ' μ'' : List Addr} {av av' wr wr' : Av} {H H' H'' : Hp} {d : D} {v : V} {ds : List D} {vs : List V} {M : Mem} {m : MO} {a p : Addr} {o : HO}

theorem Ext.refl : Ext μ wr H μ H := ⟨⟨[], by simp, by simp⟩, fun _ _ _ _ h _ => h, fun _ h => h⟩
theorem Ext.out (e : Ext μ wr H μ' H') (h : H a = some o) (n : a ∉ μ) (t : ∀ ps, o ≠ .tbl ps := by intro ps z; cases z) : a ∉ μ' := by
  obtain ⟨ν, rfl, hf⟩ := e.pre
  intro hm
  rcases List.mem_append.mp hm with q | q
  · exact n q
  · exact (hf a q).no h t
theorem Ext.trans (e : Ext μ wr H μ' H') (f : Ext μ' wr' H' μ'' H'') (hw : ∀ a, wr' a → wr a ∨ Nil H a) : Ext μ wr H μ'' H'' := by
  obtain ⟨ν, hν, hf⟩ := id e.pre
  obtain ⟨ν', hν', hf'⟩ := id f.pre
  refine ⟨⟨ν ++ ν', by rw [hν', hν, List.append_assoc], fun a ha => ?_⟩, fun a o hn hnw h hp => ?_, fun a h => e.dom a (f.dom a h)⟩
  · rcases List.mem_append.mp ha with q | q
    · exact hf a q
    · exact e.dom a (hf' a q)
  · refine f.keep a o (e.out h hn hp) (fun q => ?_) (e.keep a o hn hnw h hp) hp
    rcases hw a q with q | q
    · exact hnw q
    · exact q.no h hp
theorem Ext.there (e : Ext μ wr H μ' H') (h : ¬ Nil H a) : ¬ Nil H' a := fun z => h (e.dom a z)
theorem Ext.mono (e : Ext μ wr H μ' H') (hw : ∀ a, wr a → wr' a) : Ext μ wr' H μ' H' := ⟨e.pre, fun a o hn hnw h hp => e.keep a o hn (fun q => hnw (hw a q)) h hp, e.dom⟩
theorem Ext.trans0 (e : Ext μ No H μ' H') (f : Ext μ' No H' μ'' H'') : Ext μ No H μ'' H'' := e.trans f fun _ z => z.elim
theorem Ext.get (e : Ext μ wr H μ' H') {i : Nat} (h : μ[i]? = some a) : μ'[i]? = some a := by
  obtain ⟨ν, rfl, _⟩ := e.pre
  have hi := (List.getElem?_eq_some_iff.mp h).1
  rw [List.getElem?_append_left hi]; exact h
/-- a list is written: the tables stay -/
theorem tab_wr {xs ys : List V} (ha : H a = some (.lst xs)) : ∀ P q, LamX.TabS H P q → LamX.TabS (upd H a (.lst ys)) P q := fun P q ⟨ps, h1, h2, h3⟩ => by
  refine ⟨ps, ?_, h2, fun pos cv hc => ?_⟩
  · rw [upd_ne (ne_of h1 ha (by intro z; cases z))]; exact h1
  · obtain ⟨c, e1, e2⟩ := h3 pos cv hc
    exact ⟨c, e1, by rw [upd_ne (ne_of e2 ha (by intro z; unfold LamX.CodeO at z; cases z))]; exact e2⟩
theorem tab_new (hp : H p = none) : ∀ P q, LamX.TabS H P q → LamX.TabS (upd H p o) P q := fun P q h => h.ext fun b u e => by
  rw [upd_ne (ne_of_none e hp)]; exact e
/-- a new object that no one shares -/
theorem Ext.new (hp : H p = none) : Ext μ wr H μ (upd H p o) := ⟨⟨[], by simp, by simp⟩, fun a u _ _ h _ => by
  rw [upd_ne (ne_of_none h hp)]; exact h, fun a h => by
  by_cases e : a = p
  · rw [e]; exact .of hp
  · exact fun o q => h o (by rw [upd_ne e]; exact q)⟩
theorem rd_keep (e : Ext μ wr H μ' H') {u : HO} (h : Rd H a u) (n : a ∉ μ) (w : ¬ wr a) (hu : ∀ ps, u ≠ .tbl ps) : Rd H' a u := by
  rcases h with h | ⟨o, h⟩
  · exact .inl (e.keep a u n w h hu)
  · exact .inr ⟨o, e.keep a _ n w h fun ps z => by cases z⟩
theorem rd_some {u : HO} (h : Rd H a u) (t : ∀ ps, u ≠ .tbl ps := by intro ps z; cases z) : ∃ o, H a = some o ∧ ∀ ps, o ≠ .tbl ps := by
  rcases h with h | ⟨o, h⟩
  · exact ⟨_, h, t⟩
  · exact ⟨_, h, fun ps z => by cases z⟩

mutual
theorem DRel.mono (e : Ext μ wr H μ' H') (hw : ∀ a, wr a → av a) (ha : ∀ a, av' a → av a ∨ Nil H a) : ∀ {d : D} {v : V}, DRel K μ av H d v → DRel K μ' av' H' d v
  | _, _, .non => .non
  | _, _, .bl b => .bl b
  | _, _, .int i => .int i
  | _, _, .str x h => .str x h
  | _, _, .tup h n nv z r => by
    obtain ⟨o, ho, ht⟩ := rd_some h
    refine .tup (rd_keep e h n (fun q => nv (hw _ q)) fun ps z => by cases z) (e.out ho n ht) (fun q => ?_) z (DRels.mono e hw ha r)
    rcases ha _ q with q | q
    · exact nv q
    · exact q.no ho ht
  | _, _, .tupK h z r => .tupK h z (DRels.mono e hw ha r)
  | _, _, .lstK h z r => .lstK h z (DRels.mono e hw ha r)
  | _, _, .lst h n nv z r => by
    obtain ⟨o, ho, ht⟩ := rd_some h
    refine .lst (rd_keep e h n (fun q => nv (hw _ q)) fun ps z => by cases z) (e.out ho n ht) (fun q => ?_) z (DRels.mono e hw ha r)
    rcases ha _ q with q | q
    · exact nv q
    · exact q.no ho ht
  | _, _, .ref h => .ref (e.get h)
theorem DRels.mono (e : Ext μ wr H μ' H') (hw : ∀ a, wr a → av a) (ha : ∀ a, av' a → av a ∨ Nil H a) : ∀ {ds : List D} {vs : List V}, DRels K μ av H ds vs → DRels K μ' av' H' ds vs
  | _, _, .nil => .nil
  | _, _, .cons h t => .cons (DRel.mono e hw ha h) (DRels.mono e hw ha t)
end
theorem DRel.up (e : Ext μ No H μ' H') (h : DRel K μ av H d v) : DRel K μ' av H' d v := h.mono e (fun _ z => z.elim) fun _ z => .inl z
theorem DRels.up (e : Ext μ No H μ' H') (h : DRels K μ av H ds vs) : DRels K μ' av H' ds vs := h.mono e (fun _ z => z.elim) fun _ z => .inl z
theorem DRel.avm (ha : ∀ a, av' a → av a ∨ Nil H a) (h : DRel K μ av H d v) : DRel K μ av' H d v := h.mono (wr := No) .refl (fun _ z => z.elim) ha
theorem DRels.avm (ha : ∀ a, av' a → av a ∨ Nil H a) (h : DRels K μ av H ds vs) : DRels K μ av' H ds vs := h.mono (wr := No) .refl (fun _ z => z.elim) ha
theorem DRels.length : ∀ {ds : List D} {vs : List V}, DRels K μ av H ds vs → ds.length = vs.length
  | _, _, .nil => rfl
  | _, _, .cons _ t => by simp [DRels.length t]
theorem DRels.get : ∀ {ds : List D} {vs : List V} {i : Nat} {d : D}, DRels K μ av H ds vs → ds[i]? = some d → ∃ v, vs[i]? = some v ∧ DRel K μ av H d v
  | _, _, _, _, .nil, e => by simp at e
  | _, _, 0, _, .cons h _, e => by simp at e; subst e; exact ⟨_, rfl, h⟩
  | _, _, i + 1, d, .cons _ t, e => by
    obtain ⟨v, e1, r⟩ := DRels.get (i := i) (d := d) t (by simpa using e)
    exact ⟨v, by simpa using e1, r⟩
theorem DRels.get' : ∀ {ds : List D} {vs : List V} {i : Nat} {v : V}, DRels K μ av H ds vs → vs[i]? = some v → ∃ d, ds[i]? = some d ∧ DRel K μ av H d v
  | _, _, _, _, .nil, e => by simp at e
  | _, _, 0, _, .cons h _, e => by simp at e; subst e; exact ⟨_, rfl, h⟩
  | _, _, i + 1, d, .cons _ t, e => by
    obtain ⟨v, e1, r⟩ := DRels.get' (i := i) (v := d) t (by simpa using e)
    exact ⟨v, by simpa using e1, r⟩
theorem DRels.append : ∀ {ds es : List D} {vs ws : List V}, DRels K μ av H ds vs → DRels K μ av H es ws → DRels K μ av H (ds ++ es) (vs ++ ws)
  | _, _, _, _, .nil, s => s
  | _, _, _, _, .cons h t, s => .cons h (DRels.append t s)
theorem DRels.take : ∀ {ds : List D} {vs : List V} (n : Nat), DRels K μ av H ds vs → DRels K μ av H (ds.take n) (vs.take n)
  | _, _, 0, _ => .nil
  | _, _, _ + 1, .nil => .nil
  | _, _, n + 1, .cons h t => .cons h (DRels.take n t)
theorem DRels.drop : ∀ {ds : List D} {vs : List V} (n : Nat), DRels K μ av H ds vs → DRels K μ av H (ds.drop n) (vs.drop n)
  | _, _, 0, r => r
  | _, _, _ + 1, .nil => .nil
  | _, _, n + 1, .cons _ t => DRels.drop n t
theorem DRels.set : ∀ {ds : List D} {vs : List V} (i : Nat), DRels K μ av H ds vs → DRel K μ av H d v → DRels K μ av H (ds.set i d) (vs.set i v)
  | _, _, _, .nil, _ => .nil
  | _, _, 0, .cons _ t, h => .cons h t
  | _, _, i + 1, .cons q t, h => .cons q (DRels.set i t h)
theorem DRels.one (h : DRel K μ av H d v) : DRels K μ av H [d] [v] := .cons h .nil

/-- what may stand at a shared address -/
def isMO : HO → Bool
  | .lst _ => true
  | _ => false
theorem MORel.kind (h : MORel K μ av H m a) : ∃ o, H a = some o ∧ isMO o = true := by cases h with | lst h _ _ => exact ⟨_, h, rfl⟩
theorem MORel.a_some (h : MORel K μ av H m a) : ∃ o, H a = some o ∧ ∀ ps, o ≠ .tbl ps := by cases h with | lst h _ _ => exact ⟨_, h, fun ps z => by cases z⟩
theorem MemRel.some' (h : MemRel K μ av H M) (ha : a ∈ μ) : ∃ o, H a = some o ∧ ∀ ps, o ≠ .tbl ps := by
  obtain ⟨i, hi, e⟩ := List.getElem_of_mem ha
  have hi' : i < M.length := by rw [← h.len]; exact hi
  exact (h.at_ i a M[i] (by rw [List.getElem?_eq_getElem hi, e]) (List.getElem?_eq_getElem hi')).a_some
theorem MemRel.fresh (h : MemRel K μ av H M) (hp : H p = none) : p ∉ μ := fun hm => by
  obtain ⟨o, e, _⟩ := h.some' hm
  rw [hp] at e; cases e
/-- the shared objects stand, H may have grown, the avoided may have turned -/
theorem MemRel.mono (h : MemRel K μ av H M) (e : Ext μ wr H μ H') (hs : ∀ a ∈ μ, ∀ o, H a = some o → H' a = some o) (hw : ∀ a, wr a → av a) (ha : ∀ a, av' a → av a ∨ Nil H a) (hd : ∀ a, av' a → ¬ Nil H' a) (ht : TabsK K H') : MemRel K μ av' H' M := by
  refine ⟨h.len, h.nd, fun i a m e1 e2 => ?_, hd, fun a hm z => ?_, ht⟩
  rotate_left
  · rcases ha a z with z | z
    · exact h.dis a hm z
    · obtain ⟨o, e, t⟩ := h.some' hm
      exact z.no e t
  cases h.at_ i a m e1 e2 with
  | lst q z r => exact .lst (hs a (List.mem_of_getElem? e1) _ q) z (r.mono e hw ha)
theorem MemRel.new (h : MemRel K μ av H M) (hp : H p = none) : MemRel K μ av (upd H p o) M :=
  h.mono (wr := No) (.new hp) (fun a ha u e => by rw [upd_ne (ne_of_none e hp)]; exact e) (fun _ z => z.elim) (fun _ z => .inl z) (fun a z => (Ext.new (wr := No) (μ := μ) hp).there (h.avs a z)) fun p hp' => tab_new hp _ _ (h.tab p hp')
theorem MemRel.avm (h : MemRel K μ av H M) (ha : ∀ a, av' a → av a) : MemRel K μ av' H M :=
  h.mono (wr := No) .refl (fun _ _ _ e => e) (fun _ z => z.elim) (fun a z => .inl (ha a z)) (fun a z => h.avs a (ha a z)) h.tab
/-- a shared list is written -/
theorem MemRel.write (h : MemRel K μ av H M) {i : Nat} (hi : μ[i]? = some a) {xs xs0 : List V} (h0 : H a = some (.lst xs0)) (hz : xs.length ≤ sizeLine) (r : DRels K μ av (upd H a (.lst xs)) ds xs) : MemRel K μ av (upd H a (.lst xs)) (M.set i (.lst ds)) := by
  have hm : a ∈ μ := List.mem_of_getElem? hi
  have ex : Ext μ No H μ (upd H a (.lst xs)) := ⟨⟨[], by simp, by simp⟩, fun b o n _ e _ => by
    rw [upd_ne (fun z : b = a => n (z ▸ hm))]; exact e, fun b e => by
    by_cases q : b = a
    · exact ((show Nil _ a from q ▸ e).lst upd_same).elim
    · exact fun o q' => e o (by rw [upd_ne q]; exact q')⟩
  refine ⟨by simpa using h.len, h.nd, fun j b m e1 e2 => ?_, fun b z => ex.there (h.avs b z), h.dis, fun p hp => tab_wr h0 _ _ (h.tab p hp)⟩
  by_cases hj : j = i
  · subst hj
    rw [hi] at e1; cases e1
    have hl : j < M.length := by rw [← h.len]; exact (List.getElem?_eq_some_iff.mp hi).1
    rw [List.getElem?_set_self hl] at e2; cases e2
    exact .lst upd_same hz r
  · rw [List.getElem?_set_ne (Ne.symm hj)] at e2
    have hb : b ≠ a := fun z => by
      subst z
      exact hj (nodup_ix' h.nd e1 hi)
    cases h.at_ j b m e1 e2 with
    | lst q z r => exact .lst (by rw [upd_ne hb]; exact q) z (r.up ex)
where
  nodup_ix' {μ : List Addr} (hN : μ.Nodup) {i j : Nat} {x : Addr} (a : μ[i]? = some x) (b : μ[j]? = some x) : i = j := by
    rcases List.getElem?_eq_some_iff.mp a with ⟨ha, ea⟩
    rcases List.getElem?_eq_some_iff.mp b with ⟨hb, eb⟩
    exact (List.getElem_inj hN).mp (ea.trans eb.symm)
/-- a new shared list -/
theorem MemRel.push (h : MemRel K μ av H M) (hp : H p = none) (hav : ¬ av p) {xs : List V} (hz : xs.length ≤ sizeLine) (r : DRels K μ av H ds xs) : MemRel K (μ ++ [p]) av (upd H p (.lst xs)) (M ++ [.lst ds]) ∧ Ext μ No H (μ ++ [p]) (upd H p (.lst xs)) := by
  have ex : Ext μ No H (μ ++ [p]) (upd H p (.lst xs)) := ⟨⟨[p], rfl, by simpa using Nil.of hp⟩, (Ext.new (wr := No) (μ := μ) hp).keep, (Ext.new (wr := No) (μ := μ) hp).dom⟩
  refine ⟨⟨by simp [h.len], ?_, fun j b m e1 e2 => ?_, fun b z => ex.there (h.avs b z), fun b hb z => ?_, fun q hq => tab_new hp _ _ (h.tab q hq)⟩, ex⟩
  rotate_right
  · rcases List.mem_append.mp hb with q | q
    · exact h.dis b q z
    · have : b = p := by simpa using q
      subst this
      exact hav z
  · rw [List.nodup_append]
    refine ⟨h.nd, by simp, fun a ha b hb => ?_⟩
    have : b = p := by simpa using hb
    subst this
    exact fun z => h.fresh hp (z ▸ ha)
  · by_cases hj : j < μ.length
    · rw [List.getElem?_append_left hj] at e1
      rw [List.getElem?_append_left (by rw [← h.len]; exact hj)] at e2
      have hb : b ≠ p := fun z => h.fresh hp (z ▸ List.mem_of_getElem? e1)
      cases h.at_ j b m e1 e2 with
      | lst q z r => exact .lst (by rw [upd_ne hb]; exact q) z (r.up ex)
    · have hl := (List.getElem?_eq_some_iff.mp e1).1
      have e : j = μ.length := by simp at hl; omega
      subst e
      rw [List.getElem?_append_right (Nat.le_refl _)] at e1
      rw [h.len, List.getElem?_append_right (Nat.le_refl _)] at e2
      simp at e1 e2
      subst e1 e2
      exact .lst upd_same hz (r.up ex)
end
end DD

set_option Elab.async false
set_option linter.all false
set_option autoImplicit false
set_option maxRecDepth 100000
set_option maxHeartbeats 1000000
/-! DD2: what a piece of syntax is worth by a plain function of the slots and the shared objects: expressions. -/
namespace DD
open PySem PySem.Spec L2

/-- what stays through a body: the callers' own lists, the thunk's place, the exception in hand -/
structure Y where
  om : Av
  thk : Option Addr
  hnd : Option (Addr × Value × Option Addr)
  μ0 : List Addr
  H0 : Hp

def ownA (ρ : Sl) (σ : St) (a : Addr) : Prop := ∃ (i : Nat) (l : List D), ρ[i]? = some (SV.own l) ∧ σ[i]? = some (some (V.ref a))
def avS (om : Av) (ρ : Sl) (σ : St) : Av := fun a => om a ∨ ownA ρ σ a

structure XRel (K : PySem.W.Frag) (mg : Str → Option Value) (μ : List Addr) (av : Av) (H : Hp) (c : Str) (fs : List (Str × D)) (cls : Value) (dx : Option Addr) : Prop where
  cls : mg c = some cls
  nd : fs = [] → dx = none
  fs : ∀ f d, fs.lookup f = some d → ∃ dd l v, dx = some dd ∧ H dd = some (.xd l) ∧ dd ∉ μ ∧ ¬ av dd ∧ l.lookup f = some v ∧ DRel K μ av H d v

structure SRel (K : PySem.W.Frag) (mg : Str → Option Value) (Z : Y) (μ : List Addr) (H : Hp) (ρ : Sl) (σ : St) : Prop where
  len : ρ.length = σ.length
  base : Ext Z.μ0 No Z.H0 μ H
  ownN : ∀ a, ownA ρ σ a → Nil Z.H0 a
  val : ∀ (i : Nat) (d : D), ρ[i]? = some (SV.val d) → ∃ v, σ[i]? = some (some v) ∧ DRel K μ (avS Z.om ρ σ) H d v
  own : ∀ (i : Nat) (l : List D), ρ[i]? = some (SV.own l) → ∃ a xs, σ[i]? = some (some (V.ref a)) ∧ H a = some (.lst xs) ∧ xs.length ≤ sizeLine ∧ DRels K μ (avS Z.om ρ σ) H l xs ∧ a ∉ μ ∧ ¬ Z.om a
  inj : ∀ (i j : Nat) (l m : List D) (a : Addr), ρ[i]? = some (SV.own l) → ρ[j]? = some (SV.own m) → σ[i]? = some (some (V.ref a)) → σ[j]? = some (some (V.ref a)) → i = j
  thk : ∀ (i : Nat), ρ[i]? = some SV.thk → ∃ f, Z.thk = some f ∧ σ[i]? = some (some (V.ref f))
  hnd : ∀ (i : Nat) (c : Str) (fs : List (Str × D)), ρ[i]? = some (SV.hnd c fs) → ∃ a cls dx, Z.hnd = some (a, cls, dx) ∧ σ[i]? = some (some (V.ref a)) ∧ XRel K mg μ (avS Z.om ρ σ) H c fs cls dx

/-- a value for an operation: told in full, or a list of the frame's own as it stands -/
def BRel (K : PySem.W.Frag) (μ : List Addr) (av : Av) (H : Hp) (d : D) (v : V) : Prop :=
  DRel K μ av H d v ∨ ∃ l a xs, d = .lst l ∧ v = .ref a ∧ H a = some (.lst xs) ∧ a ∉ μ ∧ xs.length ≤ sizeLine ∧ DRels K μ av H l xs

section
variable {X : Cx} [Tbs X.K] {Z : Y} {K : PySem.W.Frag} [Tbs K] {μ μ' μ'' : List Addr} {av av' wr wr' : Av} {H H' H'' : Hp} {d : D} {v : V} {ds : List D} {vs : List V} {M : Mem} {ρ : Sl} {σ : St} {c : Str} {fs : List (Str × D)} {cls : Value} {dx : Option Addr}
theorem XRel.mono (h : XRel X.K X.mg μ av H c fs cls dx) (e : Ext μ wr H μ' H') (hw : ∀ a, wr a → av a) (ha : ∀ a, av' a → av a ∨ Nil H a) : XRel X.K X.mg μ' av' H' c fs cls dx :=
  ⟨h.cls, h.nd, fun f d q => by
    obtain ⟨dd, l, v, e1, e2, e3, e4, e5, r⟩ := h.fs f d q
    refine ⟨dd, l, v, e1, e.keep _ _ e3 (fun z => e4 (hw _ z)) e2 (fun ps z => by cases z), e.out e2 e3 (fun ps z => by cases z), fun z => ?_, e5, r.mono e hw ha⟩
    rcases ha _ z with z | z
    · exact e4 z
    · exact z.no e2 fun ps z => by cases z⟩
theorem XRel.up (h : XRel X.K X.mg μ av H c fs cls dx) (e : Ext μ No H μ' H') : XRel X.K X.mg μ' av H' c fs cls dx := h.mono e (fun _ z => z.elim) fun _ z => .inl z
theorem SRel.up (h : SRel X.K X.mg Z μ H ρ σ) (e : Ext μ No H μ' H') : SRel X.K X.mg Z μ' H' ρ σ where
  len := h.len
  base := h.base.trans0 e
  ownN := h.ownN
  val := fun i d q => let ⟨v, e1, r⟩ := h.val i d q; ⟨v, e1, r.up e⟩
  own := fun i l q => by
    obtain ⟨a, xs, e1, e2, z, r, n, no⟩ := h.own i l q
    exact ⟨a, xs, e1, e.keep _ _ n (fun z => z) e2 (fun ps z => by cases z), z, r.up e, e.out e2 n, no⟩
  inj := h.inj
  thk := h.thk
  hnd := fun i c fs q => let ⟨a, cls, dx, e1, e2, r⟩ := h.hnd i c fs q; ⟨a, cls, dx, e1, e2, r.up e⟩
theorem BRel.of (h : DRel K μ av H d v) : BRel K μ av H d v := .inl h
theorem BRel.up (h : BRel K μ av H d v) (e : Ext μ No H μ' H') : BRel K μ' av H' d v := by
  rcases h with h | ⟨l, a, xs, e1, e2, e3, n, z, r⟩
  · exact .inl (h.up e)
  · exact .inr ⟨l, a, xs, e1, e2, e.keep _ _ n (fun z => z) e3 (fun ps z => by cases z), e.out e3 n, z, r.up e⟩

/-- what is wanted of a result -/
def ResG {α β : Type} (rel : List Addr → Hp → α → β → Prop) (X : Cx) [Tbs X.K] (W : WX) (av : Av) (μ : List Addr) (H : Hp) (σ : St) (r : R α) (Q : β → Hp → Prop) : Prop := match r with
  | .ok d M' => ∀ v μ' H', Ext μ No H μ' H' → MemRel X.K μ' av H' M' → rel μ' H' d v → Q v H'
  | .exc c fs M' => ∀ cls dx μ' H', Ext μ No H μ' H' → MemRel X.K μ' av H' M' → XRel X.K X.mg μ' av H' c fs cls dx → W cls dx σ H'
  | .bad => False
variable {α β γ δ : Type} {rel : List Addr → Hp → α → β → Prop} {rel' : List Addr → Hp → γ → δ → Prop} {W : WX} {r : R α}
theorem ResG.imp {Q Q' : β → Hp → Prop} (h : ResG rel X W av μ H σ r Q) (hq : ∀ v H', Q v H' → Q' v H') : ResG rel X W av μ H σ r Q' := by
  cases r with
  | ok d M' => exact fun v μ' H' e m q => hq _ _ (h v μ' H' e m q)
  | exc c fs M' => exact h
  | bad => exact h
theorem ResG.later {Q : β → Hp → Prop} (h : ResG rel X W av μ H σ r Q) (e : Ext μ No H μ' H') : ResG rel X W av μ' H' σ r Q := by
  cases r with
  | ok d M' => exact fun v μ'' H'' e' m q => h v μ'' H'' (e.trans0 e') m q
  | exc c fs M' => exact fun cls dx μ'' H'' e' m q => h cls dx μ'' H'' (e.trans0 e') m q
  | bad => exact h
theorem ResG.bind {k : α → Mem → R γ} {Q : δ → Hp → Prop} (h : ResG rel' X W av μ H σ (r.bind k) Q) :
    ResG rel X W av μ H σ r fun v H1 => ∃ d M1 μ1, Ext μ No H μ1 H1 ∧ MemRel X.K μ1 av H1 M1 ∧ rel μ1 H1 d v ∧ ResG rel' X W av μ1 H1 σ (k d M1) Q := by
  cases r with
  | ok d M' => exact fun v μ' H' e m q => ⟨d, M', μ', e, m, q, ResG.later (r := k d M') h e⟩
  | exc c fs M' => exact h
  | bad => exact h
theorem ResG.ok {d : α} {Q : β → Hp → Prop} (h : ∀ v μ' H', Ext μ No H μ' H' → MemRel X.K μ' av H' M → rel μ' H' d v → Q v H') : ResG rel X W av μ H σ (.ok d M) Q := h
end

abbrev SE := Sl → Mem → R D
abbrev SB := Sl → Mem → R Bool
abbrev SA := Sl → Mem → R (List D)
def tG {α β : Type} (rel : PySem.W.Frag → Av → List Addr → Hp → α → β → Prop) (X : Cx) [Tbs X.K] (Z : Y) (W : WX) (f : Sl → Mem → R α) : St → Hp → (β → Hp → Prop) → Prop := fun σ H Q =>
  ∃ ρ M μ, SRel X.K X.mg Z μ H ρ σ ∧ MemRel X.K μ (avS Z.om ρ σ) H M ∧ ResG (rel X.K (avS Z.om ρ σ)) X W (avS Z.om ρ σ) μ H σ (f ρ M) Q
abbrev relD (K : PySem.W.Frag) (av : Av) (μ : List Addr) (H : Hp) : D → V → Prop := DRel K μ av H
abbrev relB (K : PySem.W.Frag) (av : Av) (μ : List Addr) (H : Hp) : D → V → Prop := BRel K μ av H
abbrev relA (K : PySem.W.Frag) (av : Av) (μ : List Addr) (H : Hp) : List D → List V → Prop := DRels K μ av H
abbrev relT (_ : PySem.W.Frag) (_ : Av) (_ : List Addr) (_ : Hp) : Bool → Bool → Prop := fun a b => a = b
inductive BRels (K : PySem.W.Frag) (μ : List Addr) (av : Av) (H : Hp) : List D → List V → Prop
  | nil : BRels K μ av H [] []
  | cons {d : D} {v : V} {ds : List D} {vs : List V} : BRel K μ av H d v → BRels K μ av H ds vs → BRels K μ av H (d :: ds) (v :: vs)
abbrev relBA (K : PySem.W.Frag) (av : Av) (μ : List Addr) (H : Hp) : List D → List V → Prop := BRels K μ av H
/-- an expression is worth f; the same for an operation; a test; arguments -/
def DE (X : Cx) [Tbs X.K] (Z : Y) (W : WX) (e : Expr) (f : SE) : Prop := PE X e (tG relD X Z W f)
def BE (X : Cx) [Tbs X.K] (Z : Y) (W : WX) (e : Expr) (f : SE) : Prop := PE X e (tG relB X Z W f)
def DT (X : Cx) [Tbs X.K] (Z : Y) (W : WX) (e : Expr) (f : SB) : Prop := PT X e (tG relT X Z W f)
def DA (X : Cx) [Tbs X.K] (Z : Y) (W : WX) (es : List Expr) (f : SA) : Prop := PA X es (tG relA X Z W f)
def BA (X : Cx) [Tbs X.K] (Z : Y) (W : WX) (es : List Expr) (f : SA) : Prop := PA X es (tG relBA X Z W f)
theorem PE.imp {X : Cx} {e : Expr} {t t' : TE} (h : PE X e t) (i : ∀ σ H Q, t' σ H Q → t σ H Q) : PE X e t' := ⟨fun pins s σ H Q I q => h.run pins s σ H Q I (i _ _ _ q)⟩
theorem PT.imp {X : Cx} {e : Expr} {t t' : TT} (h : PT X e t) (i : ∀ σ H Q, t' σ H Q → t σ H Q) : PT X e t' := ⟨fun pins s σ H Q I q => h.run pins s σ H Q I (i _ _ _ q)⟩
theorem PW.imp {X : Cx} {e : Expr} {t t' : TT} (h : PW X e t) (i : ∀ σ H Q, t' σ H Q → t σ H Q) : PW X e t' := ⟨fun wh pins s σ H Q I q => h.run wh pins s σ H Q I (i _ _ _ q)⟩
theorem PA.imp {X : Cx} {es : List Expr} {t t' : TA} (h : PA X es t) (i : ∀ σ H Q, t' σ H Q → t σ H Q) : PA X es t' := ⟨fun pos pins s σ H Q I q => h.run pos pins s σ H Q I (i _ _ _ q)⟩

section
variable {X : Cx} [Tbs X.K] {Z : Y} {W : WX} {a b c e : Expr} {es : List Expr} {fa fb fc : SE} {pos : Pos}
theorem DE.toB (h : DE X Z W e fa) : BE X Z W e fa := PE.imp h fun σ H Q ⟨ρ, M, μ, S, m, r⟩ => ⟨ρ, M, μ, S, m, by
  cases q : fa ρ M with
  | ok d M' => rw [q] at r; exact fun v μ' H' e m q => r v μ' H' e m (.inl q)
  | exc c fs M' => rw [q] at r; exact r
  | bad => rw [q] at r; exact r⟩

/-! ### names, constants -/
def eVar (i : Nat) : SE := fun ρ M => match ρ[i]? with
  | some (SV.val d) => .ok d M
  | _ => .bad
def eBor (i : Nat) : SE := fun ρ M => match ρ[i]? with
  | some (SV.val d) => .ok d M
  | some (SV.own l) => .ok (.lst l) M
  | _ => .bad
def eC (d : D) : SE := fun _ M => .ok d M
theorem de_var {i : Nat} {x : Str} (hN : X.N[i]? = some x := by rfl) (hv : Vis X.env.scope x := by first | exact Or.inl rfl | exact Or.inr (Or.inl rfl) | exact Or.inr (Or.inr rfl)) (hd : (x == ("__debug__" : Str)) = false := by decide)
    (hcd : (x == ("__classdict__" : Str)) = false := by decide) : DE X Z W (.Name x pos) (eVar i) :=
  PE.imp (pe_var hN hv hd hcd) fun σ H Q ⟨ρ, M, μ, S, m, r⟩ => by
    unfold eVar at r
    cases q : ρ[i]? with
    | none => rw [q] at r; exact r.elim
    | some sv =>
      rw [q] at r
      cases sv with
      | val d =>
        obtain ⟨v, e, rv⟩ := S.val i d q
        exact ⟨v, e, r v μ H .refl m rv⟩
      | emp => exact r.elim
      | own l => exact r.elim
      | hnd c fs => exact r.elim
      | thk => exact r.elim
theorem be_var {i : Nat} {x : Str} (hN : X.N[i]? = some x := by rfl) (hv : Vis X.env.scope x := by first | exact Or.inl rfl | exact Or.inr (Or.inl rfl) | exact Or.inr (Or.inr rfl)) (hd : (x == ("__debug__" : Str)) = false := by decide)
    (hcd : (x == ("__classdict__" : Str)) = false := by decide) : BE X Z W (.Name x pos) (eBor i) :=
  PE.imp (pe_var hN hv hd hcd) fun σ H Q ⟨ρ, M, μ, S, m, r⟩ => by
    unfold eBor at r
    cases q : ρ[i]? with
    | none => rw [q] at r; exact r.elim
    | some sv =>
      rw [q] at r
      cases sv with
      | val d =>
        obtain ⟨v, e, rv⟩ := S.val i d q
        exact ⟨v, e, r v μ H .refl m (.inl rv)⟩
      | own l =>
        obtain ⟨a, xs, e1, e2, z, rr, n, no⟩ := S.own i l q
        exact ⟨_, e1, r _ μ H .refl m (.inr ⟨l, a, xs, rfl, rfl, e2, n, z, rr⟩)⟩
      | emp => exact r.elim
      | hnd c fs => exact r.elim
      | thk => exact r.elim
theorem de_c {v : V} {d : D} (h : PE X e (tC v)) (hd : ∀ μ av H, DRel X.K μ av H d v) : DE X Z W e (eC d) :=
  PE.imp h fun σ H Q ⟨ρ, M, μ, S, m, r⟩ => r v μ H .refl m (hd _ _ _)
theorem de_int {i : Int} {j : Nat} : DE X Z W (.Constant (.int i) j pos) (eC (.int i)) := de_c pe_int fun _ _ _ => .int i
theorem de_bl {b : Bool} {j : Nat} : DE X Z W (.Constant (.bool b) j pos) (eC (.bl b)) := de_c pe_bl fun _ _ _ => .bl b
theorem de_non {j : Nat} : DE X Z W (.Constant .none j pos) (eC .non) := de_c pe_non fun _ _ _ => .non
theorem de_str {x : Str} {j : Nat} (h : x.length ≤ sizeLine := by decide) : DE X Z W (.Constant (.str x) j pos) (eC (.str x)) := de_c pe_str fun _ _ _ => .str x h
/-- a module's constant -/
theorem de_glob {x : Str} {v : V} {u : Value} {d : D} (hg : Gl X x) (hm : X.mg x = some u) (r : RelV v u) (hd : ∀ μ av H, DRel X.K μ av H d v) (hdb : (x == ("__debug__" : Str)) = false := by decide) : DE X Z W (.Name x pos) (eC d) :=
  de_c (pe_glob hg hm r hdb) hd

/-! ### operators -/
structure Op2 (X : Cx) [Tbs X.K] (f : Value → Value → Sem Value) (g : Mem → D → D → Option D) : Prop where
  ex : ∃ r, OpR X f r ∧ ∀ (μ : List Addr) (av : Av) (H : Hp) (M : Mem) (x y : D) (v w : V) (d : D) (Q : VK), MemRel X.K μ av H M → BRel X.K μ av H x v → BRel X.K μ av H y w → g M x y = some d →
    (∀ u H', Ext μ No H μ H' → MemRel X.K μ av H' M → DRel X.K μ av H' d u → Q u H') → r v w H Q
def eBin (g : Mem → D → D → Option D) (fa fb : SE) : SE := fun ρ M => (fa ρ M).bind fun x M1 => (fb ρ M1).bind fun y M2 => ofO (g M2 x y) M2
/-- two values in a row, then an operation -/
theorem tOp_of {f : Value → Value → Sem Value} {g : Mem → D → D → Option D} {r : R2}
    (hr : ∀ (μ : List Addr) (av : Av) (H : Hp) (M : Mem) (x y : D) (v w : V) (d : D) (Q : VK), MemRel X.K μ av H M → BRel X.K μ av H x v → BRel X.K μ av H y w → g M x y = some d →
    (∀ u H', Ext μ No H μ H' → MemRel X.K μ av H' M → DRel X.K μ av H' d u → Q u H') → r v w H Q) {σ : St} {H : Hp} {Q : VK} (h : tG relD X Z W (eBin g fa fb) σ H Q) : tOp r (tG relB X Z W fa) (tG relB X Z W fb) σ H Q := by
  obtain ⟨ρ, M, μ, S, m, h⟩ := h
  refine ⟨ρ, M, μ, S, m, ResG.imp (ResG.bind h) ?_⟩
  rintro v H1 ⟨x, M1, μ1, e1, m1, r1, h1⟩
  refine ⟨ρ, M1, μ1, S.up e1, m1, ResG.imp (ResG.bind h1) ?_⟩
  rintro w H2 ⟨y, M2, μ2, e2, m2, r2, h2⟩
  cases q : g M2 x y with
  | none => rw [q] at h2; exact h2.elim
  | some d =>
    rw [q] at h2
    exact hr μ2 _ H2 M2 x y v w d Q m2 (r1.up e2) r2 q fun u H' e' m' r' => h2 u μ2 H' e' m' r'
theorem de_bin {op : Operator} {g : Mem → D → D → Option D} (ho : Op2 X (binaryOp op) g) (ha : BE X Z W a fa) (hb : BE X Z W b fb) : DE X Z W (.BinOp a op b pos) (eBin g fa fb) := by
  obtain ⟨r, hr, h⟩ := ho.ex
  exact PE.imp (pe_op hr ha hb) fun σ H Q q => tOp_of (f := binaryOp op) h q
theorem de_cmp {op : CmpOp} {g : Mem → D → D → Option D} (ho : Op2 X (compareOp op) g) (ha : BE X Z W a fa) (hb : BE X Z W b fb) (hm : behindInMarks op b = false := by first | exact nobehind _ (by decide) (by decide) | with_unfolding_all rfl) : DE X Z W (.Compare a [op] [b] pos) (eBin g fa fb) := by
  obtain ⟨r, hr, h⟩ := ho.ex
  exact PE.imp (pe_cmpR hr ha hb hm) fun σ H Q q => tOp_of (f := compareOp op) h q
/-- a value as a test that must be a bool -/
def bOf : D → Option Bool
  | .bl b => some b
  | _ => none
def eTest (f : SE) : SB := fun ρ M => (f ρ M).bind fun x M1 => ofO (bOf x) M1
theorem dt_cmp {op : CmpOp} {g : Mem → D → D → Option D} (ho : Op2 X (compareOp op) g) (ha : BE X Z W a fa) (hb : BE X Z W b fb) (hm : behindInMarks op b = false := by first | exact nobehind _ (by decide) (by decide) | with_unfolding_all rfl) : DT X Z W (.Compare a [op] [b] pos) (eTest (eBin g fa fb)) := by
  obtain ⟨r, hr, h⟩ := ho.ex
  refine PT.imp (pt_cmpR hr ha hb hm) fun σ H Q ⟨ρ, M, μ, S, m, q⟩ => ?_
  refine tOp_of (f := compareOp op) h ⟨ρ, M, μ, S, m, ResG.imp (ResG.bind (rel := relD X.K (avS Z.om ρ σ)) q) ?_⟩
  rintro v H1 ⟨x, M1, μ1, e1, m1, r1, h1⟩
  cases x with
  | bl k => cases r1; exact ⟨k, rfl, h1 k μ1 H1 .refl m1 rfl⟩
  | _ => exact h1.elim
end
end DD

set_option Elab.async false
set_option linter.all false
set_option autoImplicit false
set_option maxRecDepth 100000
set_option maxHeartbeats 1000000
/-! DD3: tests, and | or | not, displays, arguments, calls of built-ins and of methods of built-in types, subscripts. -/
namespace DD
open PySem PySem.Spec L2

def lstOf (M : Mem) : D → Option (List D)
  | .lst l => some l
  | .ref k => match M[k]? with
    | some (.lst l) => some l
    | _ => none
  | _ => none
def tupOf : D → Option (List D)
  | .tup l => some l
  | _ => none
/-- a list or a tuple -/
def seqOf (M : Mem) : D → Option (List D)
  | .tup l => some l
  | d => lstOf M d

section
variable {X : Cx} [Tbs X.K] {K : PySem.W.Frag} [Tbs K] {μ : List Addr} {av : Av} {H : Hp} {M : Mem} {d : D} {v : V} {l : List D}
theorem kt_sq {a : Addr} {xs : List V} (h : KT K a xs) : SqT K H a xs := .inr h
theorem lst_of (m : MemRel K μ av H M) (r : BRel K μ av H d v) (e : lstOf M d = some l) : ∃ a xs, v = .ref a ∧ SqL K H a xs ∧ xs.length ≤ sizeLine ∧ DRels K μ av H l xs := by
  rcases r with r | ⟨l', a, xs, rfl, rfl, e3, n, z, rr⟩
  · cases r with
    | lst h n nv z r => cases e; exact ⟨_, _, rfl, .inl h, z, r⟩
    | lstK h z r => cases e; exact ⟨_, _, rfl, h H, z, r⟩
    | ref h =>
      rename_i i a
      unfold lstOf at e
      cases q : M[i]? with
      | none => simp [q] at e
      | some mo =>
        cases mo with
        | lst l0 =>
          simp [q] at e
          subst e
          cases m.at_ i a _ h q with
          | lst h1 z r => exact ⟨_, _, rfl, .of h1, z, r⟩
    | _ => cases e
  · cases e
    exact ⟨_, _, rfl, .of e3, z, rr⟩
theorem tup_of (r : BRel K μ av H d v) (e : tupOf d = some l) : ∃ a xs, v = .ref a ∧ SqT K H a xs ∧ xs.length ≤ sizeLine ∧ DRels K μ av H l xs := by
  rcases r with r | ⟨l', a, xs, rfl, rfl, e3, n, z, rr⟩
  · cases r with
    | tup h n nv z r => cases e; exact ⟨_, _, rfl, .inl h, z, r⟩
    | tupK h z r => cases e; exact ⟨_, _, rfl, .inr h, z, r⟩
    | _ => cases e
  · cases e
theorem seq_of (m : MemRel K μ av H M) (r : BRel K μ av H d v) (e : seqOf M d = some l) : ∃ a xs, v = .ref a ∧ (SqL K H a xs ∨ SqT K H a xs) ∧ xs.length ≤ sizeLine ∧ DRels K μ av H l xs := by
  by_cases q : ∃ k, d = .tup k
  · obtain ⟨k, rfl⟩ := q
    obtain ⟨a, xs, h1, h2, h3, h4⟩ := tup_of (l := l) r (by simpa [seqOf, tupOf] using e)
    exact ⟨a, xs, h1, .inr h2, h3, h4⟩
  · have e' : lstOf M d = some l := by
      cases d <;> first | exact e | exact absurd ⟨_, rfl⟩ q
    obtain ⟨a, xs, h1, h2, h3, h4⟩ := lst_of m r e'
    exact ⟨a, xs, h1, .inl h2, h3, h4⟩
theorem BRel.int_inv {i : Int} (r : BRel K μ av H (.int i) v) : v = .int i := by
  rcases r with r | ⟨_, _, _, z, _⟩
  · cases r; rfl
  · cases z
theorem BRel.bl_inv {b : Bool} (r : BRel K μ av H (.bl b) v) : v = .bl b := by
  rcases r with r | ⟨_, _, _, z, _⟩
  · cases r; rfl
  · cases z
theorem BRel.str_inv {x : Str} (r : BRel K μ av H (.str x) v) : v = .str x ∧ x.length ≤ sizeLine := by
  rcases r with r | ⟨_, _, _, z, _⟩
  · cases r with | str _ h => exact ⟨rfl, h⟩
  · cases z
theorem BRel.non_inv (r : BRel K μ av H .non v) : v = .non := by
  rcases r with r | ⟨_, _, _, z, _⟩
  · cases r; rfl
  · cases z
/-- every value but None is another V than None -/
theorem BRel.non_iff (r : BRel K μ av H d v) : v = .non ↔ d = .non := by
  rcases r with r | ⟨_, _, _, rfl, rfl, _⟩
  · cases r <;> simp
  · simp
theorem BRels.of : ∀ {ds : List D} {vs : List V}, DRels K μ av H ds vs → BRels K μ av H ds vs
  | _, _, .nil => .nil
  | _, _, .cons h t => .cons (.inl h) (BRels.of t)
theorem BRels.up {μ' : List Addr} {H' : Hp} (e : Ext μ No H μ' H') : ∀ {ds : List D} {vs : List V}, BRels K μ av H ds vs → BRels K μ' av H' ds vs
  | _, _, .nil => .nil
  | _, _, .cons h t => .cons (h.up e) (BRels.up e t)
theorem BRels.length : ∀ {ds : List D} {vs : List V}, BRels K μ av H ds vs → ds.length = vs.length
  | _, _, .nil => rfl
  | _, _, .cons _ t => by simp [BRels.length t]
end

/-! ### truth -/
def truD (M : Mem) : D → Option Bool
  | .non => some false
  | .bl b => some b
  | .int i => some (i != 0)
  | .str x => some ((x.length : Int) != 0)
  | d => (seqOf M d).map fun l => !l.isEmpty
theorem truD_ok {K : PySem.W.Frag} [Tbs K] {μ : List Addr} {av : Av} {H : Hp} {M : Mem} {d : D} {v : V} {k : Bool} (m : MemRel K μ av H M) (r : BRel K μ av H d v) (e : truD M d = some k) : TruV K v H k := by
  have sq : ∀ l, seqOf M d = some l → k = !l.isEmpty → TruV K v H k := fun l hl hk => by
    obtain ⟨a, xs, rfl, h, z, rr⟩ := seq_of m r hl
    have : l.isEmpty = xs.isEmpty := by cases rr <;> rfl
    rw [hk, this]
    rcases h with h | h
    · exact .inl ⟨xs, h, rfl⟩
    · exact .inr (.inl ⟨xs, h, rfl⟩)
  cases d with
  | non => rw [r.non_inv]; exact (Option.some.inj e).symm
  | bl b => rw [r.bl_inv]; exact (Option.some.inj e).symm
  | int i => rw [r.int_inv]; exact (Option.some.inj e).symm
  | str x =>
    obtain ⟨rfl, h⟩ := r.str_inv
    exact ⟨h, (Option.some.inj e).symm⟩
  | tup l => simp only [truD, seqOf, Option.map_some, Option.some.injEq] at e; exact sq l rfl e.symm
  | lst l => simp only [truD, seqOf, lstOf, Option.map_some, Option.some.injEq] at e; exact sq l rfl e.symm
  | ref i =>
    unfold truD at e
    cases q : seqOf M (.ref i) with
    | none => simp [q] at e
    | some l => simp [q] at e; exact sq l q (by simpa [Bool.eq_not] using e.symm)
def eTru (f : SE) : SB := fun ρ M => (f ρ M).bind fun x M1 => ofO (truD M1 x) M1
def eNot (f : SB) : SB := fun ρ M => (f ρ M).bind fun b M1 => .ok (!b) M1
def eAnd (f g : SB) : SB := fun ρ M => (f ρ M).bind fun b M1 => if b = true then g ρ M1 else .ok false M1
def eOr (f g : SB) : SB := fun ρ M => (f ρ M).bind fun b M1 => if b = true then .ok true M1 else g ρ M1
/-- a test's answer as a value -/
def eBV (f : SB) : SE := fun ρ M => (f ρ M).bind fun b M1 => .ok (.bl b) M1
def eIf (c : SB) (f g : SE) : SE := fun ρ M => (c ρ M).bind fun b M1 => if b = true then f ρ M1 else g ρ M1

section
variable {X : Cx} [Tbs X.K] {Z : Y} {W : WX} {a b c e : Expr} {es rest : List Expr} {fa fb fc : SE} {ga gb : SB} {pos : Pos}
/-- any expression whose test is its value's truth -/
theorem dt_tru (h : BE X Z W a fa) (he : ∀ whole, isTrue a X.env whole = (do let v ← whole; standAt a.pos; holding [v] (truthy v)) := by intro _; rfl) : DT X Z W a (eTru fa) := by
  refine PT.imp (pt_truth h he) fun σ H Q ⟨ρ, M, μ, S, m, q⟩ => ⟨ρ, M, μ, S, m, ResG.imp (ResG.bind q) ?_⟩
  rintro v H1 ⟨x, M1, μ1, e1, m1, r1, h1⟩
  cases q : truD M1 x with
  | none => rw [q] at h1; exact h1.elim
  | some k => rw [q] at h1; exact ⟨k, truD_ok m1 r1 q, h1 k μ1 H1 .refl m1 rfl⟩
theorem dt_not (h : DT X Z W a ga) : DT X Z W (.UnaryOp .Not a pos) (eNot ga) := by
  refine PT.imp (pt_not h) fun σ H Q ⟨ρ, M, μ, S, m, q⟩ => ⟨ρ, M, μ, S, m, ResG.imp (ResG.bind q) ?_⟩
  rintro v H1 ⟨x, M1, μ1, e1, m1, r1, h1⟩
  cases r1
  exact h1 _ μ1 H1 .refl m1 rfl
def DW (X : Cx) [Tbs X.K] (Z : Y) (W : WX) (e : Expr) (f : SB) : Prop := PW X e (tG relT X Z W f)
theorem DW.t (h : DW X Z W a ga) : DT X Z W a ga := L2.PW.pt h
theorem dw_and1 (h : DT X Z W a ga) : DW X Z W (.BoolOp .And [a] pos) ga := pw_and1 h
theorem dw_or1 (h : DT X Z W a ga) : DW X Z W (.BoolOp .Or [a] pos) ga := pw_or1 h
theorem dw_and (ha : DT X Z W a ga) (hb : DW X Z W (.BoolOp .And (b :: rest) pos) gb) : DW X Z W (.BoolOp .And (a :: b :: rest) pos) (eAnd ga gb) := by
  refine PW.imp (pw_and ha hb) fun σ H Q ⟨ρ, M, μ, S, m, q⟩ => ⟨ρ, M, μ, S, m, ResG.imp (ResG.bind q) ?_⟩
  rintro v H1 ⟨x, M1, μ1, e1, m1, r1, h1⟩
  cases r1
  cases v with
  | true => exact ⟨ρ, M1, μ1, S.up e1, m1, h1⟩
  | false => exact h1 false μ1 H1 .refl m1 rfl
theorem dw_or (ha : DT X Z W a ga) (hb : DW X Z W (.BoolOp .Or (b :: rest) pos) gb) : DW X Z W (.BoolOp .Or (a :: b :: rest) pos) (eOr ga gb) := by
  refine PW.imp (pw_or ha hb) fun σ H Q ⟨ρ, M, μ, S, m, q⟩ => ⟨ρ, M, μ, S, m, ResG.imp (ResG.bind q) ?_⟩
  rintro v H1 ⟨x, M1, μ1, e1, m1, r1, h1⟩
  cases r1
  cases v with
  | false => exact ⟨ρ, M1, μ1, S.up e1, m1, h1⟩
  | true => exact h1 true μ1 H1 .refl m1 rfl
/-! .. as values -/
def eNotV (f : SE) : SE := fun ρ M => (f ρ M).bind fun x M1 => (ofO (bOf x) M1).bind fun b M2 => .ok (.bl (!b)) M2
def eAndV (f g : SE) : SE := fun ρ M => (f ρ M).bind fun x M1 => (ofO (bOf x) M1).bind fun b M2 => if b = true then g ρ M2 else .ok (.bl false) M2
def eOrV (f g : SE) : SE := fun ρ M => (f ρ M).bind fun x M1 => (ofO (bOf x) M1).bind fun b M2 => if b = true then .ok (.bl true) M2 else g ρ M2
theorem de_not (h : DE X Z W a fa) : DE X Z W (.UnaryOp .Not a pos) (eNotV fa) := by
  refine PE.imp (pe_not h) fun σ H Q ⟨ρ, M, μ, S, m, q⟩ => ⟨ρ, M, μ, S, m, ResG.imp (ResG.bind q) ?_⟩
  rintro v H1 ⟨x, M1, μ1, e1, m1, r1, h1⟩
  cases x with
  | bl k => cases r1; exact ⟨k, rfl, h1 _ μ1 H1 .refl m1 (.bl _)⟩
  | _ => exact h1.elim
theorem de_one {op : BoolOp} (h : DE X Z W a fa) : DE X Z W (.BoolOp op [a] pos) fa := pe_one h
theorem de_and (ha : DE X Z W a fa) (hb : DE X Z W (.BoolOp .And (b :: rest) pos) fb) : DE X Z W (.BoolOp .And (a :: b :: rest) pos) (eAndV fa fb) := by
  refine PE.imp (pe_and ha hb) fun σ H Q ⟨ρ, M, μ, S, m, q⟩ => ⟨ρ, M, μ, S, m, ResG.imp (ResG.bind q) ?_⟩
  rintro v H1 ⟨x, M1, μ1, e1, m1, r1, h1⟩
  cases x with
  | bl k =>
    cases r1
    refine ⟨k, rfl, ?_⟩
    cases k with
    | true => exact ⟨ρ, M1, μ1, S.up e1, m1, h1⟩
    | false => exact h1 _ μ1 H1 .refl m1 (.bl _)
  | _ => exact h1.elim
theorem de_or (ha : DE X Z W a fa) (hb : DE X Z W (.BoolOp .Or (b :: rest) pos) fb) : DE X Z W (.BoolOp .Or (a :: b :: rest) pos) (eOrV fa fb) := by
  refine PE.imp (pe_or ha hb) fun σ H Q ⟨ρ, M, μ, S, m, q⟩ => ⟨ρ, M, μ, S, m, ResG.imp (ResG.bind q) ?_⟩
  rintro v H1 ⟨x, M1, μ1, e1, m1, r1, h1⟩
  cases x with
  | bl k =>
    cases r1
    refine ⟨k, rfl, ?_⟩
    cases k with
    | false => exact ⟨ρ, M1, μ1, S.up e1, m1, h1⟩
    | true => exact h1 _ μ1 H1 .refl m1 (.bl _)
  | _ => exact h1.elim
theorem de_if (hc : DT X Z W c ga) (ha : DE X Z W a fa) (hb : DE X Z W b fb) : DE X Z W (.IfExp c a b pos) (eIf ga fa fb) := by
  refine PE.imp (pe_ifExp hc ha hb) fun σ H Q ⟨ρ, M, μ, S, m, q⟩ => ⟨ρ, M, μ, S, m, ResG.imp (ResG.bind q) ?_⟩
  rintro v H1 ⟨x, M1, μ1, e1, m1, r1, h1⟩
  cases r1
  cases v with
  | true => exact ⟨ρ, M1, μ1, S.up e1, m1, h1⟩
  | false => exact ⟨ρ, M1, μ1, S.up e1, m1, h1⟩
/-- a op1 b op2 c -/
def eChain (g g' : Mem → D → D → Option D) (fa fb fc : SE) : SE := fun ρ M => (fa ρ M).bind fun x M1 => (fb ρ M1).bind fun y M2 => (ofO ((g M2 x y).bind bOf) M2).bind fun k M3 =>
  if k = true then (fc ρ M3).bind fun z M4 => ofO (g' M4 y z) M4 else .ok (.bl false) M3
theorem tChain_of {f f' : Value → Value → Sem Value} {g g' : Mem → D → D → Option D} {r r' : R2}
    (hr : ∀ (μ : List Addr) (av : Av) (H : Hp) (M : Mem) (x y : D) (v w : V) (d : D) (Q : VK), MemRel X.K μ av H M → BRel X.K μ av H x v → BRel X.K μ av H y w → g M x y = some d →
    (∀ u H', Ext μ No H μ H' → MemRel X.K μ av H' M → DRel X.K μ av H' d u → Q u H') → r v w H Q)
    (hr' : ∀ (μ : List Addr) (av : Av) (H : Hp) (M : Mem) (x y : D) (v w : V) (d : D) (Q : VK), MemRel X.K μ av H M → BRel X.K μ av H x v → BRel X.K μ av H y w → g' M x y = some d →
    (∀ u H', Ext μ No H μ H' → MemRel X.K μ av H' M → DRel X.K μ av H' d u → Q u H') → r' v w H Q) {σ : L2.St} {H : Hp} {Q : VK} (h : tG relD X Z W (eChain g g' fa fb fc) σ H Q) : tChain r r' (tG relB X Z W fa) (tG relB X Z W fb) (tG relB X Z W fc) σ H Q := by
  obtain ⟨ρ, M, μ, S, m, h⟩ := h
  refine ⟨ρ, M, μ, S, m, ResG.imp (ResG.bind h) ?_⟩
  rintro v H1 ⟨x, M1, μ1, e1, m1, r1, h1⟩
  refine ⟨ρ, M1, μ1, S.up e1, m1, ResG.imp (ResG.bind h1) ?_⟩
  rintro w H2 ⟨y, M2, μ2, e2, m2, r2, h2⟩
  cases q : g M2 x y with
  | none => rw [q] at h2; exact h2.elim
  | some d =>
    rw [q] at h2
    cases d with
    | bl k =>
      refine hr μ2 _ H2 M2 x y v w _ _ m2 (r1.up e2) r2 q fun u H3 e3 m3 r3 => ?_
      cases r3
      refine ⟨k, rfl, ?_⟩
      cases k with
      | false => exact h2 _ μ2 H3 e3 m3 (.bl _)
      | true =>
        have h3 := ResG.later (r := (fc ρ M2).bind fun z M4 => ofO (g' M4 y z) M4) h2 e3
        refine ⟨ρ, M2, μ2, (S.up (e1.trans0 e2)).up e3, m3, ResG.imp (ResG.bind h3) ?_⟩
        rintro w3 H4 ⟨z, M4, μ4, e4, m4, r4, h4⟩
        cases q' : g' M4 y z with
        | none => rw [q'] at h4; exact h4.elim
        | some d =>
          rw [q'] at h4
          exact hr' μ4 _ H4 M4 y z w w3 d Q m4 ((r2.up e3).up e4) r4 q' fun u H' e' m' r' => h4 u μ4 H' e' m' r'
    | _ => exact h2.elim
theorem de_chain {op op' : CmpOp} {g g' : Mem → D → D → Option D} (ho : Op2 X (compareOp op) g) (ho' : Op2 X (compareOp op') g') (ha : BE X Z W a fa) (hb : BE X Z W b fb) (hc : BE X Z W c fc)
    (hm : lastMarks [op, op'] [b, c] = false := by with_unfolding_all rfl) : DE X Z W (.Compare a [op, op'] [b, c] pos) (eChain g g' fa fb fc) := by
  obtain ⟨r, hr, h⟩ := ho.ex
  obtain ⟨r', hr', h'⟩ := ho'.ex
  exact PE.imp (pe_chain hr hr' ha hb hc hm) fun σ H Q q => tChain_of (f := compareOp op) (f' := compareOp op') h h' q
theorem dt_chain {op op' : CmpOp} {g g' : Mem → D → D → Option D} (ho : Op2 X (compareOp op) g) (ho' : Op2 X (compareOp op') g') (ha : BE X Z W a fa) (hb : BE X Z W b fb) (hc : BE X Z W c fc)
    (hm : lastMarks [op, op'] [b, c] = false := by with_unfolding_all rfl) : DT X Z W (.Compare a [op, op'] [b, c] pos) (eTest (eChain g g' fa fb fc)) := by
  obtain ⟨r, hr, h⟩ := ho.ex
  obtain ⟨r', hr', h'⟩ := ho'.ex
  refine PT.imp (pt_chain hr hr' ha hb hc hm) fun σ H Q ⟨ρ, M, μ, S, m, q⟩ => ?_
  refine tChain_of (f := compareOp op) (f' := compareOp op') h h' ⟨ρ, M, μ, S, m, ResG.imp (ResG.bind (rel := relD X.K (avS Z.om ρ σ)) q) ?_⟩
  rintro v H1 ⟨x, M1, μ1, e1, m1, r1, h1⟩
  cases x with
  | bl k => cases r1; exact ⟨k, rfl, h1 k μ1 H1 .refl m1 rfl⟩
  | _ => exact h1.elim

/-! ### arguments, displays -/
def aNil : SA := fun _ M => .ok [] M
def aCons (f : SE) (g : SA) : SA := fun ρ M => (f ρ M).bind fun x M1 => (g ρ M1).bind fun xs M2 => .ok (x :: xs) M2
theorem da_nil : DA X Z W [] aNil := PA.imp pa_nil fun σ H Q ⟨ρ, M, μ, S, m, q⟩ => q [] μ H .refl m .nil
theorem da_cons {g : SA} (ha : DE X Z W e fa) (hr : DA X Z W es g) (hs : starEach (e :: es) X.env = (false, eval e X.env) :: starEach es X.env := by rfl) : DA X Z W (e :: es) (aCons fa g) := by
  refine PA.imp (pa_cons ha hr hs) fun σ H Q ⟨ρ, M, μ, S, m, q⟩ => ⟨ρ, M, μ, S, m, ResG.imp (ResG.bind q) ?_⟩
  rintro v H1 ⟨x, M1, μ1, e1, m1, r1, h1⟩
  refine ⟨ρ, M1, μ1, S.up e1, m1, ResG.imp (ResG.bind h1) ?_⟩
  rintro vs H2 ⟨xs, M2, μ2, e2, m2, r2, h2⟩
  exact h2 _ μ2 H2 .refl m2 (.cons (r1.up e2) r2)
theorem ba_nil : BA X Z W [] aNil := PA.imp pa_nil fun σ H Q ⟨ρ, M, μ, S, m, q⟩ => q [] μ H .refl m .nil
theorem ba_cons {g : SA} (ha : BE X Z W e fa) (hr : BA X Z W es g) (hs : starEach (e :: es) X.env = (false, eval e X.env) :: starEach es X.env := by rfl) : BA X Z W (e :: es) (aCons fa g) := by
  refine PA.imp (pa_cons ha hr hs) fun σ H Q ⟨ρ, M, μ, S, m, q⟩ => ⟨ρ, M, μ, S, m, ResG.imp (ResG.bind q) ?_⟩
  rintro v H1 ⟨x, M1, μ1, e1, m1, r1, h1⟩
  refine ⟨ρ, M1, μ1, S.up e1, m1, ResG.imp (ResG.bind h1) ?_⟩
  rintro vs H2 ⟨xs, M2, μ2, e2, m2, r2, h2⟩
  exact h2 _ μ2 H2 .refl m2 (.cons (r1.up e2) r2)
/-- a new tuple, a new list that is never changed -/
theorem new_tup {μ : List Addr} {av : Av} {H : Hp} {M : Mem} {ds : List D} {vs : List V} {p : Addr} (m : MemRel X.K μ av H M) (hp : H p = none) (z : vs.length ≤ sizeLine) (r : DRels X.K μ av H ds vs) :
    Ext μ No H μ (upd H p (.tup vs)) ∧ MemRel X.K μ av (upd H p (.tup vs)) M ∧ DRel X.K μ av (upd H p (.tup vs)) (.tup ds) (.ref p) :=
  ⟨.new hp, m.new hp, .tup (.inl upd_same) (m.fresh hp) (fun q => m.avs _ q (.of hp)) z (r.up (.new hp))⟩
theorem new_lst {μ : List Addr} {av : Av} {H : Hp} {M : Mem} {ds : List D} {vs : List V} {p : Addr} (m : MemRel X.K μ av H M) (hp : H p = none) (z : vs.length ≤ sizeLine) (r : DRels X.K μ av H ds vs) :
    Ext μ No H μ (upd H p (.lst vs)) ∧ MemRel X.K μ av (upd H p (.lst vs)) M ∧ DRel X.K μ av (upd H p (.lst vs)) (.lst ds) (.ref p) :=
  ⟨.new hp, m.new hp, .lst (.inl upd_same) (m.fresh hp) (fun q => m.avs _ q (.of hp)) z (r.up (.new hp))⟩
end
end DD

set_option Elab.async false
set_option linter.all false
set_option autoImplicit false
set_option maxRecDepth 100000
set_option maxHeartbeats 1000000
/-! DD4: argument lists, displays, calls of built-ins, of methods of built-in types, of defs; subscripts, slices. -/
namespace DD
open PySem PySem.Spec L2

def aSeq : List SE → SA
  | [] => aNil
  | f :: fs => aCons f (aSeq fs)
theorem aSeq_len : ∀ (fs : List SE) (ρ : Sl) (M : Mem) (ds : List D) (M' : Mem), aSeq fs ρ M = .ok ds M' → ds.length = fs.length
  | [], _, _, _, _, h => by cases h; rfl
  | f :: fs, ρ, M, ds, M', h => by
    simp only [aSeq, aCons] at h
    cases q : f ρ M with
    | ok x M1 =>
      rw [q] at h
      simp only [R.bind_ok] at h
      cases q2 : aSeq fs ρ M1 with
      | ok xs M2 =>
        rw [q2] at h
        simp only [R.bind_ok] at h
        cases h
        simp [aSeq_len fs ρ M1 xs M' q2]
      | exc c fs M2 => rw [q2] at h; cases h
      | bad => rw [q2] at h; cases h
    | exc c fs M2 => rw [q] at h; cases h
    | bad => rw [q] at h; cases h
def eTup (fs : List SE) : SE := fun ρ M => (aSeq fs ρ M).bind fun ds M1 => .ok (.tup ds) M1
def eLst (fs : List SE) : SE := fun ρ M => (aSeq fs ρ M).bind fun ds M1 => .ok (.lst ds) M1
def eCall (g : Mem → List D → Option D) (fs : List SE) : SE := fun ρ M => (aSeq fs ρ M).bind fun ds M1 => ofO (g M1 ds) M1
def eFn (F : List D → Mem → R D) (fs : List SE) : SE := fun ρ M => (aSeq fs ρ M).bind fun ds M1 => F ds M1
def eMeth (isT : Mem → D → Bool) (g : Mem → D → List D → Option D) (fo : SE) (fs : List SE) : SE := fun ρ M => (fo ρ M).bind fun x M1 => if isT M1 x = true then (aSeq fs ρ M1).bind fun ds M2 => ofO (g M2 x ds) M2 else .bad

/-- what is wanted of an operation's answer o at (μ, H, M) by a reading k -/
def Ans (X : Cx) [Tbs X.K] (μ : List Addr) (av : Av) (H : Hp) (M : Mem) (d : D) (Q : VK) : Prop := ∀ u H', Ext μ No H μ H' → MemRel X.K μ av H' M → DRel X.K μ av H' d u → Q u H'
section
variable {X : Cx} [Tbs X.K] {μ : List Addr} {av : Av} {H : Hp} {M : Mem} {Q : VK}
theorem Ans.here {d : D} {v : V} (h : Ans X μ av H M d Q) (m : MemRel X.K μ av H M) (r : DRel X.K μ av H d v) : Q v H := h v H .refl m r
theorem Ans.tup {ds : List D} {vs : List V} (h : Ans X μ av H M (.tup ds) Q) (m : MemRel X.K μ av H M) (z : vs.length ≤ sizeLine) (r : DRels X.K μ av H ds vs) : ∀ p, H p = none → Q (.ref p) (upd H p (.tup vs)) := fun p hp => by
  obtain ⟨e, m', r'⟩ := new_tup m hp z r
  exact h _ _ e m' r'
theorem Ans.lst {ds : List D} {vs : List V} (h : Ans X μ av H M (.lst ds) Q) (m : MemRel X.K μ av H M) (z : vs.length ≤ sizeLine) (r : DRels X.K μ av H ds vs) : ∀ p, H p = none → Q (.ref p) (upd H p (.lst vs)) := fun p hp => by
  obtain ⟨e, m', r'⟩ := new_lst m hp z r
  exact h _ _ e m' r'
end

structure CallD (X : Cx) [Tbs X.K] (f : Value) (g : Mem → List D → Option D) : Prop where
  ex : ∃ r, CallR X f r ∧ ∀ (μ : List Addr) (av : Av) (H : Hp) (M : Mem) (ds : List D) (vs : List V) (d : D) (Q : VK), MemRel X.K μ av H M → BRels X.K μ av H ds vs → g M ds = some d → Ans X μ av H M d Q → r vs H Q
structure MethD (X : Cx) [Tbs X.K] (T id : String) (isT : Mem → D → Bool) (g : Mem → D → List D → Option D) : Prop where
  ty : ∀ (μ : List Addr) (av : Av) (H : Hp) (M : Mem) (x : D) (v : V), MemRel X.K μ av H M → BRel X.K μ av H x v → isT M x = true → tyV X.K T v H
  ex : ∃ r, MtR X id r ∧ ∀ (μ : List Addr) (av : Av) (H : Hp) (M : Mem) (x : D) (v : V) (ds : List D) (vs : List V) (d : D) (Q : VK), MemRel X.K μ av H M → BRel X.K μ av H x v → BRels X.K μ av H ds vs → g M x ds = some d → Ans X μ av H M d Q → r v vs H Q
structure IxD (X : Cx) [Tbs X.K] (g : Mem → D → D → Option D) : Prop where
  ex : ∃ r, IxR X r ∧ ∀ (μ : List Addr) (av : Av) (H : Hp) (M : Mem) (x y : D) (v w : V) (d : D) (Q : VK), MemRel X.K μ av H M → BRel X.K μ av H x v → BRel X.K μ av H y w → g M x y = some d →
    (∀ u H', Ext μ No H μ H' → MemRel X.K μ av H' M → DRel X.K μ av H' d u → Q u H') → r v w H Q
structure SlD (X : Cx) [Tbs X.K] (g : Mem → D → Option Int → Option Int → Option D) : Prop where
  ex : ∃ r, SlR X r ∧ ∀ (μ : List Addr) (av : Av) (H : Hp) (M : Mem) (x : D) (v : V) (lo hi : Option Int) (d : D) (Q : VK), MemRel X.K μ av H M → BRel X.K μ av H x v → g M x lo hi = some d → Ans X μ av H M d Q → r v lo hi H Q

section
variable {X : Cx} [Tbs X.K] {Z : Y} {W : WX} {a b c e o : Expr} {es : List Expr} {fa fb fc : SE} {fs : List SE} {pos p apos cpos : Pos} {x name : Str} {id T : String}
theorem das_nil : DA X Z W [] (aSeq []) := da_nil
theorem das_cons (ha : DE X Z W e fa) (hr : DA X Z W es (aSeq fs)) (hs : starEach (e :: es) X.env = (false, eval e X.env) :: starEach es X.env := by rfl) : DA X Z W (e :: es) (aSeq (fa :: fs)) := da_cons ha hr hs
theorem bas_nil : BA X Z W [] (aSeq []) := ba_nil
theorem bas_cons (ha : BE X Z W e fa) (hr : BA X Z W es (aSeq fs)) (hs : starEach (e :: es) X.env = (false, eval e X.env) :: starEach es X.env := by rfl) : BA X Z W (e :: es) (aSeq (fa :: fs)) := ba_cons ha hr hs
/-- the number of values is that of the expressions -/
theorem ResG.len {α β : Type} {rel : List Addr → Hp → α → β → Prop} {av : Av} {μ : List Addr} {H : Hp} {σ : L2.St} {r : R α} {Q : β → Hp → Prop} {P : α → Prop} (hP : ∀ a M, r = .ok a M → P a)
    (h : ResG (fun μ H a b => rel μ H a b ∧ P a) X W av μ H σ r Q) : ResG rel X W av μ H σ r Q := by
  cases r with
  | ok d M' => exact fun v μ' H' e m q => h v μ' H' e m ⟨q, hP _ _ rfl⟩
  | exc c fs M' => exact h
  | bad => exact h
theorem de_tup {k : Nat} (h : DA X Z W es (aSeq fs)) (hl : fs.length ≤ sizeLine := by decide) : DE X Z W (.Tuple es k pos) (eTup fs) := by
  refine PE.imp (pe_tup h) fun σ H Q ⟨ρ, M, μ, S, m, q⟩ => ⟨ρ, M, μ, S, m, ResG.len (P := fun ds => ds.length = fs.length) (fun ds M' z => aSeq_len fs ρ M ds M' z) (ResG.imp (ResG.bind q) ?_)⟩
  rintro vs H1 ⟨ds, M1, μ1, e1, m1, ⟨r1, l1⟩, h1⟩
  have z : vs.length ≤ sizeLine := by rw [← r1.length, l1]; exact hl
  refine ⟨z, fun p hp => ?_⟩
  obtain ⟨e', m', r'⟩ := new_tup m1 hp z r1
  exact h1 _ μ1 _ e' m' r'
theorem de_lst (h : DA X Z W es (aSeq fs)) (hl : fs.length ≤ sizeLine := by decide) : DE X Z W (.List es pos) (eLst fs) := by
  refine PE.imp (pe_lst h) fun σ H Q ⟨ρ, M, μ, S, m, q⟩ => ⟨ρ, M, μ, S, m, ResG.len (P := fun ds => ds.length = fs.length) (fun ds M' z => aSeq_len fs ρ M ds M' z) (ResG.imp (ResG.bind q) ?_)⟩
  rintro vs H1 ⟨ds, M1, μ1, e1, m1, ⟨r1, l1⟩, h1⟩
  have z : vs.length ≤ sizeLine := by rw [← r1.length, l1]; exact hl
  refine ⟨z, fun p hp => ?_⟩
  obtain ⟨e', m', r'⟩ := new_lst m1 hp z r1
  exact h1 _ μ1 _ e' m' r'
theorem call_imp {g : Mem → List D → Option D} {r : List V → Hp → VK → Prop}
    (h : ∀ (μ : List Addr) (av : Av) (H : Hp) (M : Mem) (ds : List D) (vs : List V) (d : D) (Q : VK), MemRel X.K μ av H M → BRels X.K μ av H ds vs → g M ds = some d → Ans X μ av H M d Q → r vs H Q) (σ : L2.St) (H : Hp) (Q : VK) (q : tG relD X Z W (eCall g fs) σ H Q) :
    tCB r (tG relBA X Z W (aSeq fs)) σ H Q := by
  obtain ⟨ρ, M, μ, S, m, q⟩ := q
  refine ⟨ρ, M, μ, S, m, ResG.imp (ResG.bind q) ?_⟩
  rintro vs H1 ⟨ds, M1, μ1, e1, m1, r1, h1⟩
  cases q : g M1 ds with
  | none => rw [q] at h1; exact h1.elim
  | some d =>
    rw [q] at h1
    exact h μ1 _ H1 M1 ds vs d Q m1 r1 q fun u H' e' m' r' => h1 u μ1 H' e' m' r'
/-- f(e, ..), f a built-in function; a built-in type -/
theorem de_callB {g : Mem → List D → Option D} (hc : CallD X (.builtin id) g) (hg : Gl X x) (hm : X.mg x = none) (hv : bootBuiltins x = some (.builtin id)) (ha : BA X Z W (e :: es) (aSeq fs)) (hn : x ≠ "__name__" := by decide) (hdb : (x == ("__debug__" : Str)) = false := by decide)
    (he : starEach (e :: es) X.env = (false, eval e X.env) :: starEach es X.env := by rfl) (hpl : (backTo pos (starEach es X.env)).any (·.1) = false := by rfl) : DE X Z W (.Call (.Name x p) (e :: es) [] pos) (eCall g fs) := by
  obtain ⟨r, hr, h⟩ := hc.ex
  exact PE.imp (pe_callB hr hg hm hv ha hn hdb he hpl) (call_imp h)
theorem de_callTy {g : Mem → List D → Option D} (hc : CallD X (.type T) g) (hg : Gl X x) (hm : X.mg x = none) (hv : bootBuiltins x = some (.type T)) (ha : BA X Z W (e :: es) (aSeq fs)) (hn : x ≠ "__name__" := by decide) (hdb : (x == ("__debug__" : Str)) = false := by decide)
    (he : starEach (e :: es) X.env = (false, eval e X.env) :: starEach es X.env := by rfl) (hpl : (backTo pos (starEach es X.env)).any (·.1) = false := by rfl) : DE X Z W (.Call (.Name x p) (e :: es) [] pos) (eCall g fs) := by
  obtain ⟨r, hr, h⟩ := hc.ex
  exact PE.imp (pe_callTy hr hg hm hv ha hn hdb he hpl) (call_imp h)
/-- o.m(e, ..) -/
theorem de_meth {isT : Mem → D → Bool} {g : Mem → D → List D → Option D} (hm : MethD X T id isT g) (pa : PlainAttrs T) (slot : Slot T name id) (hty : typeOf (.builtin id) = pure (.type "method_descriptor")) (ho : BE X Z W o fa) (ha : BA X Z W (e :: es) (aSeq fs))
    (hbase : attributeBase o name X.env (eval o X.env) = eval o X.env := by rfl)
    (hfew : ((backTo cpos (starEach (e :: es) X.env)).all (fun x => !x.1) && (backToKw cpos (keywordEach [] X.env)).all (fun x => x.1.isSome)
      && decide ((e :: es).length + ([] : List Keyword).length + (if ([] : List Keyword).isEmpty then 0 else 1) < 30)) = true := by rfl)
    (hline : (apos.endLine == cpos.line) = true := by rfl) (hs : starEach (e :: es) X.env = (false, eval e X.env) :: starEach es X.env := by rfl) (hplain : (backTo cpos (starEach es X.env)).any (·.1) = false := by rfl) :
    DE X Z W (.Call (.Attribute o name apos) (e :: es) [] cpos) (eMeth isT g fa fs) := by
  obtain ⟨r, hr, h⟩ := hm.ex
  refine PE.imp (pe_bm pa slot hty hr ho ha hbase hfew hline hs hplain) fun σ H Q ⟨ρ, M, μ, S, m, q⟩ => ⟨ρ, M, μ, S, m, ResG.imp (ResG.bind q) ?_⟩
  rintro v H1 ⟨y, M1, μ1, e1, m1, r1, h1⟩
  cases t : isT M1 y with
  | false => rw [t] at h1; exact h1.elim
  | true =>
    rw [t, if_pos rfl] at h1
    refine ⟨hm.ty μ1 _ H1 M1 y v m1 r1 t, ρ, M1, μ1, S.up e1, m1, ResG.imp (ResG.bind h1) ?_⟩
    rintro vs H2 ⟨ds, M2, μ2, e2, m2, r2, h2⟩
    cases q : g M2 y ds with
    | none => rw [q] at h2; exact h2.elim
    | some d =>
      rw [q] at h2
      exact h μ2 _ H2 M2 y v ds vs d Q m2 (r1.up e2) r2 q fun u H' e' m' r' => h2 u μ2 H' e' m' r'
/-- o[i] -/
theorem de_ix {g : Mem → D → D → Option D} (hi : IxD X g) (ha : BE X Z W a fa) (hb : BE X Z W b fb) (hs : PlainIx b := by exact fun _ _ => rfl) : DE X Z W (.Subscript a b pos) (eBin g fa fb) := by
  obtain ⟨r, hr, h⟩ := hi.ex
  exact PE.imp (pe_ix hr ha hb hs) fun σ H Q q => tOp_of (f := fun _ _ => .raise .none) h q
/-- the parts of a slice -/
def relO (_ : PySem.W.Frag) (_ : Av) (_ : List Addr) (_ : Hp) : Option Int → Option Int → Prop := fun a b => a = b
abbrev SO := Sl → Mem → R (Option Int)
def DO (X : Cx) [Tbs X.K] (Z : Y) (W : WX) (e : Option Expr) (f : SO) : Prop := PO X e (tG relO X Z W f)
def oNone : SO := fun _ M => .ok none M
def iOf : D → Option Int
  | .int i => some i
  | _ => none
def oSome (f : SE) : SO := fun ρ M => (f ρ M).bind fun x M1 => (ofO (iOf x) M1).bind fun i M2 => .ok (some i) M2
theorem do_none : DO X Z W none oNone := by
  have h : PO X none tNoPart := po_none
  exact ⟨fun pins s σ H Q I ⟨ρ, M, μ, S, m, q⟩ => h.run pins s σ H Q I (q none μ H .refl m rfl)⟩
theorem do_some (h : BE X Z W e fa) : DO X Z W (some e) (oSome fa) := by
  have h' := po_some h
  refine ⟨fun pins s σ H Q I ⟨ρ, M, μ, S, m, q⟩ => h'.run pins s σ H Q I ⟨ρ, M, μ, S, m, ResG.imp (ResG.bind q) ?_⟩⟩
  rintro v H1 ⟨y, M1, μ1, e1, m1, r1, h1⟩
  cases y with
  | int i => exact ⟨i, r1.int_inv, h1 (some i) μ1 H1 .refl m1 rfl⟩
  | _ => exact h1.elim
def eSl (g : Mem → D → Option Int → Option Int → Option D) (fa : SE) (fl fh : SO) : SE := fun ρ M => (fa ρ M).bind fun x M1 => (fl ρ M1).bind fun l M2 => (fh ρ M2).bind fun h M3 => ofO (g M3 x l h) M3
theorem de_sl {lo hi : Option Expr} {fl fh : SO} {p2 : Pos} {g : Mem → D → Option Int → Option Int → Option D} (hs : SlD X g) (ha : BE X Z W a fa) (hl : DO X Z W lo fl) (hh : DO X Z W hi fh) : DE X Z W (.Subscript a (.Slice lo hi none p2) pos) (eSl g fa fl fh) := by
  obtain ⟨r, hr, h⟩ := hs.ex
  refine PE.imp (pe_slice hr ha hl hh) fun σ H Q ⟨ρ, M, μ, S, m, q⟩ => ⟨ρ, M, μ, S, m, ResG.imp (ResG.bind q) ?_⟩
  rintro v H1 ⟨y, M1, μ1, e1, m1, r1, h1⟩
  refine ⟨ρ, M1, μ1, S.up e1, m1, ResG.imp (ResG.bind h1) ?_⟩
  rintro l H2 ⟨l', M2, μ2, e2, m2, r2, h2⟩
  cases r2
  refine ⟨ρ, M2, μ2, (S.up e1).up e2, m2, ResG.imp (ResG.bind h2) ?_⟩
  rintro u H3 ⟨u', M3, μ3, e3, m3, r3, h3⟩
  cases r3
  cases q : g M3 y l u with
  | none => rw [q] at h3; exact h3.elim
  | some d =>
    rw [q] at h3
    exact h μ3 _ H3 M3 y v l u d Q m3 ((r1.up e2).up e3) q fun u H' e' m' r' => h3 u μ3 H' e' m' r'

/-! ### a def's promise -/
/-- hands back what F says -/
def spD (K : PySem.W.Frag) [Tbs K] (mg : Str → Option Value) (n : Nat) (F : List D → Mem → R D) : Sp := fun vs H Q E => vs.length = n ∧ ∃ ds M μ av, DRels K μ av H ds vs ∧ MemRel K μ av H M ∧ (match F ds M with
  | .ok d M' => ∀ v μ' H', Ext μ No H μ' H' → MemRel K μ' av H' M' → DRel K μ' av H' d v → Q v H'
  | .exc c fs M' => ∀ cls dx μ' H', Ext μ No H μ' H' → MemRel K μ' av H' M' → XRel K mg μ' av H' c fs cls dx → E cls dx H'
  | .bad => False)
/-- a def keeps the promise sp wherever no display is under way -/
structure FnG (P : Program) (w : World) (K : PySem.W.Frag) (mg : Str → Option Value) (base : Heap) (k : Nat) (f : Addr) (fd : FuncData) (ps : List Str) (sp : Sp) : Prop where
  len : ∀ vs H Q E, sp vs H Q E → vs.length = ps.length
  run : ∀ (A : Around) (outer : List PySem.Env) (s : Shared) (H : Hp) (args : Args) (us : List Value) (vs : List V) (Q : VK) (E : XK), Room k A → A.guards = some [] → Env0 P w K mg base A outer s H → BindsTo s fd args (ps.zip us) → Vals vs us → sp vs H Q E →
    codeAny (model P w) A (.call (.ref f) args) (CR (L2.CX P w) outer P w H s Q E) s
/-- the def called by the name x hands back what F says; dvs: its defaults -/
structure CalD (P : Program) (w : World) (K : PySem.W.Frag) [Tbs K] (mg : Str → Option Value) (base : Heap) (k : Nat) (x : Str) (n : Nat) (F : List D → Mem → R D) (dfs : List D) : Prop where
  ex : ∃ f fd ps ds dvs, mg x = some (.ref f) ∧ PySem.W.keepIn K (.ref f) = true ∧ FnG P w K mg base k f fd ps (spD K mg n F) ∧ Binds K fd ps ds ∧ Vals dvs ds ∧ ∀ μ av H, DRels K μ av H dfs dvs
theorem run_g {k : Nat} {f : Addr} {fd : FuncData} {ps : List Str} {sp : Sp} {dvs : List V} {ds us : List Value} {vs : List V} {E : L2.St → XK} {pins : List (Addr × Obj)} {σ : L2.St} {H : Hp} {s : Shared} {Q : VK} (F : FnG X.prog X.w X.K X.mg X.base k f fd ps sp) (hr : Room k X.A) (hG : X.A.guards = some [])
    (hb : Binds X.K fd ps ds) (hd : Vals dvs ds) (hx : PassesAt (L2.CX X.prog X.w) X σ (E σ)) (I : Inv X pins σ H s) (r : Vals vs us) (h : sp (vs ++ dvs) H Q (E σ)) : wpAny (model X.prog X.w) X.A (call (.ref f) us) (EP X pins σ Q) X.xe s := by
  have ra := r.append hd
  have hl : (us ++ ds).length = ps.length := ra.length.symm.trans (F.len _ _ _ _ h)
  have cd := F.run X.A X.stack s H ⟨us, []⟩ (us ++ ds) (vs ++ dvs) Q (E σ) hr hG I.env0 (hb s us I.kIn hl) ra h
  refine wpAny_call (codeAny_mono cd fun res s' hq => ?_)
  rcases res with e | fl
  · exact hx pins H s e s' I hq
  · cases fl <;> first | exact I.after hq | exact False.elim hq
theorem pe_callG {k : Nat} {f : Addr} {fd : FuncData} {ps : List Str} {sp : Sp} {dvs : List V} {ds : List Value} {E : L2.St → XK} {t : TA} (F : FnG X.prog X.w X.K X.mg X.base k f fd ps sp) (hr : Room k X.A) (hG : X.A.guards = some []) (hg : Gl X x) (hm : X.mg x = some (.ref f)) (hk : PySem.W.keepIn X.K (.ref f) = true)
    (hb : Binds X.K fd ps ds) (hd : Vals dvs ds) (hx : ∀ σ, PassesAt (L2.CX X.prog X.w) X σ (E σ)) (ha : PA X (e :: es) t) (hdb : (x == ("__debug__" : Str)) = false) (he : starEach (e :: es) X.env = (false, eval e X.env) :: starEach es X.env) (hpl : (backTo pos (starEach es X.env)).any (·.1) = false) :
    PE X (.Call (.Name x p) (e :: es) [] pos) (tCallSD sp dvs E t) :=
  ⟨fun pins s σ H Q I h => wpAny_Call_Name_kw (ld_glob I hg hm (PySem.W.callWith_K (h₀ := X.base) I.ok.mod.kin hk (thn (ha.run pos pins s σ H _ I h) fun us s1 ⟨vs, H1, I1, r, q⟩ => ⟨I1.kIn, run_g F hr hG hb hd (hx σ) I1 r q⟩) he hpl) hdb)⟩
theorem de_call {k j n : Nat} {F : List D → Mem → R D} {dfs : List D} (c : CalD X.prog X.w X.K X.mg X.base k x n F dfs) (tk : Takes X W) (hr : Room j X.A) (hG : X.A.guards = some []) (hk : k ≤ j) (hg : Gl X x) (ha : DA X Z W (e :: es) (aSeq fs)) (hn : fs.length + dfs.length = n := by rfl)
    (hdb : (x == ("__debug__" : Str)) = false := by decide) (he : starEach (e :: es) X.env = (false, eval e X.env) :: starEach es X.env := by rfl) (hpl : (backTo pos (starEach es X.env)).any (·.1) = false := by rfl) :
    DE X Z W (.Call (.Name x p) (e :: es) [] pos) (eFn (fun ds => F (ds ++ dfs)) fs) := by
  obtain ⟨f, fd, ps, ds', dvs, hm, hkp, Fn, hb, hd, hdf⟩ := c.ex
  refine PE.imp (pe_callG Fn (hr.mono hk) hG hg hm hkp hb hd (fun σ => passAt tk σ) ha hdb he hpl) fun σ H Q ⟨ρ, M, μ, S, m, q⟩ => ⟨ρ, M, μ, S, m, ResG.len (P := fun ds => ds.length = fs.length) (fun ds M' z => aSeq_len fs ρ M ds M' z) (ResG.imp (ResG.bind q) ?_)⟩
  rintro vs H1 ⟨ds, M1, μ1, e1, m1, ⟨r1, l1⟩, h1⟩
  have r2 := r1.append (hdf μ1 (avS Z.om ρ σ) H1)
  refine ⟨by rw [← r2.length, List.length_append, l1]; exact hn, _, M1, μ1, avS Z.om ρ σ, r2, m1, ?_⟩
  have h1 : ResG (relD X.K (avS Z.om ρ σ)) X W (avS Z.om ρ σ) μ1 H1 σ (F (ds ++ dfs) M1) Q := h1
  cases q : F (ds ++ dfs) M1 with
  | ok d M' => rw [q] at h1; exact h1
  | exc c fs M' => rw [q] at h1; exact h1
  | bad => rw [q] at h1; exact h1.elim
theorem de_call0 {k j n : Nat} {F : List D → Mem → R D} (c : CalD X.prog X.w X.K X.mg X.base k x n F []) (tk : Takes X W) (hr : Room j X.A) (hG : X.A.guards = some []) (hk : k ≤ j) (hg : Gl X x) (ha : DA X Z W (e :: es) (aSeq fs)) (hn : fs.length = n := by rfl)
    (hdb : (x == ("__debug__" : Str)) = false := by decide) (he : starEach (e :: es) X.env = (false, eval e X.env) :: starEach es X.env := by rfl) (hpl : (backTo pos (starEach es X.env)).any (·.1) = false := by rfl) :
    DE X Z W (.Call (.Name x p) (e :: es) [] pos) (eFn F fs) := by
  have h := de_call (e := e) (es := es) (p := p) c tk hr hG hk hg ha hn hdb he hpl
  have q : (fun ds => F (ds ++ [])) = F := by funext ds; rw [List.append_nil]
  rw [q] at h
  exact h
end
end DD

set_option Elab.async false
set_option linter.all false
set_option autoImplicit false
set_option maxRecDepth 100000
set_option maxHeartbeats 1000000
/-! DD5: statements: assignment, if, return, lists of the frame's own, shared lists, what is walked, for. -/
namespace DD
open PySem PySem.Spec L2

abbrev SS := Sl → Mem → RS
/-- what is wanted behind a statement, told from (μ, H), where wr might be written -/
def SResG (X : Cx) [Tbs X.K] (Z : Y) (W : WX) (μ : List Addr) (H : Hp) (wr : Av) (r : RS) (D : Ends) : Prop := match r with
  | .nx ρ' M' => ∀ σ' μ' H', Ext μ wr H μ' H' → (∀ a, ownA ρ' σ' a → wr a ∨ Nil H a) → MemRel X.K μ' (avS Z.om ρ' σ') H' M' → SRel X.K X.mg Z μ' H' ρ' σ' → D.nx σ' H'
  | .bk ρ' M' => ∀ σ' μ' H', Ext μ wr H μ' H' → (∀ a, ownA ρ' σ' a → wr a ∨ Nil H a) → MemRel X.K μ' (avS Z.om ρ' σ') H' M' → SRel X.K X.mg Z μ' H' ρ' σ' → D.bk σ' H'
  | .ct ρ' M' => ∀ σ' μ' H', Ext μ wr H μ' H' → (∀ a, ownA ρ' σ' a → wr a ∨ Nil H a) → MemRel X.K μ' (avS Z.om ρ' σ') H' M' → SRel X.K X.mg Z μ' H' ρ' σ' → D.ct σ' H'
  | .rt d M' => ∀ v μ' H', Ext μ wr H μ' H' → MemRel X.K μ' Z.om H' M' → DRel X.K μ' Z.om H' d v → D.rt v H'
  | .exc c fs ρ' M' => ∀ cls dx σ' μ' H', Ext μ wr H μ' H' → (∀ a, ownA ρ' σ' a → wr a ∨ Nil H a) → MemRel X.K μ' (avS Z.om ρ' σ') H' M' → SRel X.K X.mg Z μ' H' ρ' σ' → XRel X.K X.mg μ' (avS Z.om ρ' σ') H' c fs cls dx → W cls dx σ' H'
  | .bad => False
def tS (X : Cx) [Tbs X.K] (Z : Y) (W : WX) (f : SS) : TS := fun D σ H => ∃ ρ M μ, SRel X.K X.mg Z μ H ρ σ ∧ MemRel X.K μ (avS Z.om ρ σ) H M ∧ SResG X Z W μ H (ownA ρ σ) (f ρ M) D
def DS (X : Cx) [Tbs X.K] (Z : Y) (W : WX) (st : Stmt) (f : SS) : Prop := PS X st (tS X Z W f)
def DSs (X : Cx) [Tbs X.K] (Z : Y) (W : WX) (st : List Stmt) (f : SS) : Prop := PSs X st (tS X Z W f)
theorem PS.imp {X : Cx} {st : Stmt} {t t' : TS} (h : PS X st t) (i : ∀ D σ H, t' D σ H → t D σ H) : PS X st t' := ⟨fun pins s σ H D I q => h.run pins s σ H D I (i _ _ _ q)⟩
theorem PSs.imp {X : Cx} {st : List Stmt} {t t' : TS} (h : PSs X st t) (i : ∀ D σ H, t' D σ H → t D σ H) : PSs X st t' := ⟨fun pins s σ H D I q => h.run pins s σ H D I (i _ _ _ q)⟩

section
variable {X : Cx} [Tbs X.K] {Z : Y} {W : WX} {μ μ' : List Addr} {H H' : Hp} {wr wr' : Av} {ρ ρ' : Sl} {σ σ' : L2.St} {M : Mem} {D D' : Ends} {r : RS}
theorem SResG.later (h : SResG X Z W μ H wr r D) (e : Ext μ wr H μ' H') (hw : ∀ a, wr' a → wr a ∨ Nil H a) : SResG X Z W μ' H' wr' r D := by
  have ow : ∀ {ρ'' : Sl} {σ'' : L2.St}, (∀ a, ownA ρ'' σ'' a → wr' a ∨ Nil H' a) → ∀ a, ownA ρ'' σ'' a → wr a ∨ Nil H a := fun q a z => by
    rcases q a z with q | q
    · exact hw a q
    · exact .inr (e.dom a q)
  cases r with
  | nx ρ' M' => exact fun σ' μ'' H'' e' o m s => h σ' μ'' H'' (e.trans e' hw) (ow o) m s
  | bk ρ' M' => exact fun σ' μ'' H'' e' o m s => h σ' μ'' H'' (e.trans e' hw) (ow o) m s
  | ct ρ' M' => exact fun σ' μ'' H'' e' o m s => h σ' μ'' H'' (e.trans e' hw) (ow o) m s
  | rt d M' => exact fun v μ'' H'' e' m q => h v μ'' H'' (e.trans e' hw) m q
  | exc c fs ρ' M' => exact fun cls dx σ' μ'' H'' e' o m s x => h cls dx σ' μ'' H'' (e.trans e' hw) (ow o) m s x
  | bad => exact h
theorem avS_own (ho : ∀ a, ownA ρ' σ' a → ownA ρ σ a) : ∀ a, avS Z.om ρ' σ' a → avS Z.om ρ σ a := fun a z => by
  rcases z with z | z
  · exact .inl z
  · exact .inr (ho a z)
/-- what an expression raises -/
theorem SResG.exc {c : Str} {fs : List (Str × DD.D)} {M' : Mem} (h : SResG X Z W μ H (ownA ρ σ) (.exc c fs ρ M') D) (S : SRel X.K X.mg Z μ H ρ σ) {cls : Value} {dx : Option Addr} {μ' : List Addr} {H' : Hp}
    (e : Ext μ No H μ' H') (m : MemRel X.K μ' (avS Z.om ρ σ) H' M') (x : XRel X.K X.mg μ' (avS Z.om ρ σ) H' c fs cls dx) : W cls dx σ H' :=
  h cls dx σ μ' H' (e.mono fun _ z => z.elim) (fun a z => .inl z) m (S.up e) x

/-! ### blocks -/
def sNext : SS := fun ρ M => .nx ρ M
def sSeq (f g : SS) : SS := fun ρ M => match f ρ M with
  | .nx ρ' M' => g ρ' M'
  | r => r
variable {st : Stmt} {rest : List Stmt} {f g : SS} {e c o : Expr} {fe fo fi : SE} {gc : SB} {pos : Pos}
theorem dss_nil : DSs X Z W [] sNext := PSs.imp pss_nil fun D σ H ⟨ρ, M, μ, S, m, h⟩ => h σ μ H .refl (fun a z => .inl z) m S
theorem dss_one (h : DS X Z W st f) : DSs X Z W [st] f := pss_one h
theorem dss_cons (h1 : DS X Z W st f) (h2 : DSs X Z W rest g) : DSs X Z W (st :: rest) (sSeq f g) := by
  refine PSs.imp (pss_cons h1 h2) fun D σ H ⟨ρ, M, μ, S, m, h⟩ => ⟨ρ, M, μ, S, m, ?_⟩
  unfold sSeq at h
  cases q : f ρ M with
  | nx ρ' M' =>
    rw [q] at h
    exact fun σ' μ' H' e o m' s' => ⟨ρ', M', μ', s', m', SResG.later h e o⟩
  | bk ρ' M' => rw [q] at h; exact h
  | ct ρ' M' => rw [q] at h; exact h
  | rt d M' => rw [q] at h; exact h
  | exc c fs ρ' M' => rw [q] at h; exact h
  | bad => rw [q] at h; exact h
def sIf (c : SB) (f g : SS) : SS := fun ρ M => match c ρ M with
  | .ok b M1 => if b = true then f ρ M1 else g ρ M1
  | .exc c fs M1 => .exc c fs ρ M1
  | .bad => .bad
theorem ds_if {a b : List Stmt} (hc : DT X Z W c gc) (ha : DSs X Z W a f) (hb : DSs X Z W b g) : DS X Z W (.If c a b pos) (sIf gc f g) := by
  refine PS.imp (ps_if hc ha hb) fun D σ H ⟨ρ, M, μ, S, m, h⟩ => ⟨ρ, M, μ, S, m, ?_⟩
  unfold sIf at h
  cases q : gc ρ M with
  | ok b M1 =>
    rw [q] at h
    rintro v μ' H' e m' rfl
    have h := SResG.later (r := if b = true then f ρ M1 else g ρ M1) (wr' := ownA ρ σ) h (e.mono fun _ z => z.elim) fun a z => .inl z
    cases b with
    | true => exact ⟨ρ, M1, μ', S.up e, m', h⟩
    | false => exact ⟨ρ, M1, μ', S.up e, m', h⟩
  | exc c fs M1 => rw [q] at h; exact fun cls dx μ' H' e m' x => SResG.exc h S e m' x
  | bad => rw [q] at h; exact h.elim
/-- an expression, then what is made of its value -/
def sBind (fe : SE) (k : Sl → Mem → DD.D → RS) : SS := fun ρ M => match fe ρ M with
  | .ok d M1 => k ρ M1 d
  | .exc c fs M1 => .exc c fs ρ M1
  | .bad => .bad
theorem sBind_res {k : Sl → Mem → DD.D → RS} {Q : VK} (S : SRel X.K X.mg Z μ H ρ σ) (h : SResG X Z W μ H (ownA ρ σ) (sBind fe k ρ M) D)
    (hq : ∀ d M1, fe ρ M = .ok d M1 → ∀ v μ' H', Ext μ No H μ' H' → MemRel X.K μ' (avS Z.om ρ σ) H' M1 → DRel X.K μ' (avS Z.om ρ σ) H' d v → SRel X.K X.mg Z μ' H' ρ σ → SResG X Z W μ' H' (ownA ρ σ) (k ρ M1 d) D → Q v H') :
    ResG (relD X.K (avS Z.om ρ σ)) X W (avS Z.om ρ σ) μ H σ (fe ρ M) Q := by
  unfold sBind at h
  cases q : fe ρ M with
  | ok d M1 =>
    rw [q] at h
    exact fun v μ' H' e m' r => hq d M1 q v μ' H' e m' r (S.up e) (SResG.later (r := k ρ M1 d) h (e.mono fun _ z => z.elim) fun a z => .inl z)
  | exc c fs M1 => rw [q] at h; exact fun cls dx μ' H' e m' x => SResG.exc h S e m' x
  | bad => rw [q] at h; exact h.elim
def sRet (fe : SE) : SS := sBind fe fun _ M d => .rt d M
def sRetN : SS := fun _ M => .rt .non M
def sExpr (fe : SE) : SS := sBind fe fun ρ M _ => .nx ρ M
theorem ds_ret (he : DE X Z W e fe) : DS X Z W (.Return (some e) pos) (sRet fe) := by
  refine PS.imp (ps_ret he) fun D σ H ⟨ρ, M, μ, S, m, h⟩ => ⟨ρ, M, μ, S, m, sBind_res S h fun d M1 q v μ' H' e' m' r S' h' => ?_⟩
  exact h' v μ' H' .refl (m'.avm fun a z => .inl z) (r.avm fun a z => .inl (.inl z))
theorem ds_retN : DS X Z W (.Return none pos) sRetN := PS.imp ps_retN fun D σ H ⟨ρ, M, μ, S, m, h⟩ => h .non μ H .refl (m.avm fun a z => .inl z) .non
theorem ds_expr (he : DE X Z W e fe) (hs : swapsWith e none pos.line X.env = pure false := by rfl) : DS X Z W (.Expr e pos) (sExpr fe) := by
  refine PS.imp (ps_expr he hs) fun D σ H ⟨ρ, M, μ, S, m, h⟩ => ⟨ρ, M, μ, S, m, sBind_res S h fun d M1 q v μ' H' e' m' r S' h' => ?_⟩
  exact h' σ μ' H' .refl (fun a z => .inl z) m' S'
def sPass : SS := sNext
theorem ds_pass : DS X Z W (.Pass pos) sPass := PS.imp ps_pass fun D σ H ⟨ρ, M, μ, S, m, h⟩ => h σ μ H .refl (fun a z => .inl z) m S
def sBreak : SS := fun ρ M => .bk ρ M
def sCont : SS := fun ρ M => .ct ρ M
theorem ds_break : DS X Z W (.Break pos) sBreak := PS.imp ps_break fun D σ H ⟨ρ, M, μ, S, m, h⟩ => h σ μ H .refl (fun a z => .inl z) m S
theorem ds_cont : DS X Z W (.Continue pos) sCont := PS.imp ps_continue fun D σ H ⟨ρ, M, μ, S, m, h⟩ => h σ μ H .refl (fun a z => .inl z) m S

/-! ### slots -/
theorem getset {α : Type} {l : List α} {i j : Nat} {x y : α} (h : (l.set i x)[j]? = some y) : (i = j ∧ y = x ∧ j < l.length) ∨ (i ≠ j ∧ l[j]? = some y) := by
  rw [List.getElem?_set] at h
  by_cases e : i = j
  · rw [if_pos e] at h
    split at h
    · rename_i hl
      exact .inl ⟨e, (Option.some.inj h).symm, e ▸ hl⟩
    · cases h
  · rw [if_neg e] at h
    exact .inr ⟨e, h⟩
theorem setget {α : Type} {l : List α} {i j : Nat} {x : α} (h : i ≠ j) : (l.set i x)[j]? = l[j]? := List.getElem?_set_ne h
theorem setself {α : Type} {l : List α} {i : Nat} {x : α} (h : i < l.length) : (l.set i x)[i]? = some x := List.getElem?_set_self h
theorem own_set {i : Nat} {sv : SV} {u : Option V} (hn : ∀ l, sv ≠ .own l) : ∀ a, ownA (ρ.set i sv) (σ.set i u) a → ownA ρ σ a := fun a ⟨j, l, h1, h2⟩ => by
  rcases getset h1 with ⟨e, q, _⟩ | ⟨e, q⟩
  · exact absurd q.symm (hn l)
  · rw [setget e] at h2
    exact ⟨j, l, q, h2⟩
/-- a slot that is no list of its own -/
theorem SRel.set (S : SRel X.K X.mg Z μ H ρ σ) {i : Nat} {sv : SV} {u : Option V} (hn : ∀ l, sv ≠ .own l)
    (hv : ∀ d, sv = .val d → ∃ v, u = some v ∧ DRel X.K μ (avS Z.om (ρ.set i sv) (σ.set i u)) H d v)
    (ht : sv = .thk → ∃ f, Z.thk = some f ∧ u = some (V.ref f))
    (hh : ∀ c fs, sv = .hnd c fs → ∃ a cls dx, Z.hnd = some (a, cls, dx) ∧ u = some (V.ref a) ∧ XRel X.K X.mg μ (avS Z.om (ρ.set i sv) (σ.set i u)) H c fs cls dx) : SRel X.K X.mg Z μ H (ρ.set i sv) (σ.set i u) := by
  have ho := own_set (ρ := ρ) (σ := σ) (i := i) (u := u) hn
  have av := fun a z => avS_own (Z := Z) ho a z
  have il : ∀ {j}, j < ρ.length → j < σ.length := fun h => by rw [← S.len]; exact h
  refine ⟨by simpa using S.len, S.base, fun a z => S.ownN a (ho a z), fun j d h => ?_, fun j l h => ?_, fun j k l m a h1 h2 h3 h4 => ?_, fun j h => ?_, fun j c fs h => ?_⟩
  · rcases getset h with ⟨rfl, q, hl⟩ | ⟨e, q⟩
    · obtain ⟨v, rfl, r⟩ := hv d q.symm
      exact ⟨v, setself (il hl), r⟩
    · obtain ⟨v, e1, r⟩ := S.val j d q
      exact ⟨v, by rw [setget e]; exact e1, r.avm fun a z => .inl (av a z)⟩
  · rcases getset h with ⟨rfl, q, hl⟩ | ⟨e, q⟩
    · exact absurd q.symm (hn l)
    · obtain ⟨a, xs, e1, e2, z, r, n, no⟩ := S.own j l q
      exact ⟨a, xs, by rw [setget e]; exact e1, e2, z, r.avm fun a z => .inl (av a z), n, no⟩
  · rcases getset h1 with ⟨rfl, q, hl⟩ | ⟨e, q⟩
    · exact absurd q.symm (hn l)
    · rcases getset h2 with ⟨rfl, q', hl⟩ | ⟨e', q'⟩
      · exact absurd q'.symm (hn m)
      · rw [setget e] at h3
        rw [setget e'] at h4
        exact S.inj j k l m a q q' h3 h4
  · rcases getset h with ⟨rfl, q, hl⟩ | ⟨e, q⟩
    · obtain ⟨f, e1, rfl⟩ := ht q.symm
      exact ⟨f, e1, setself (il hl)⟩
    · obtain ⟨f, e1, e2⟩ := S.thk j q
      exact ⟨f, e1, by rw [setget e]; exact e2⟩
  · rcases getset h with ⟨rfl, q, hl⟩ | ⟨e, q⟩
    · obtain ⟨a, cls, dx, e1, rfl, r⟩ := hh c fs q.symm
      exact ⟨a, cls, dx, e1, setself (il hl), r⟩
    · obtain ⟨a, cls, dx, e1, e2, r⟩ := S.hnd j c fs q
      exact ⟨a, cls, dx, e1, by rw [setget e]; exact e2, r.mono (wr := No) .refl (fun _ z => z.elim) fun a z => .inl (av a z)⟩
theorem SRel.setV (S : SRel X.K X.mg Z μ H ρ σ) {i : Nat} {d : DD.D} {v : V} (r : DRel X.K μ (avS Z.om ρ σ) H d v) : SRel X.K X.mg Z μ H (ρ.set i (.val d)) (σ.set i (some v)) ∧ ∀ a, ownA (ρ.set i (.val d)) (σ.set i (some v)) a → ownA ρ σ a := by
  have ho : ∀ a, ownA (ρ.set i (.val d)) (σ.set i (some v)) a → ownA ρ σ a := own_set fun l z => by cases z
  refine ⟨S.set (fun l z => by cases z) (fun d' z => ?_) (fun z => by cases z) (fun c fs z => by cases z), ho⟩
  cases z
  exact ⟨v, rfl, r.avm fun a z => .inl (avS_own (Z := Z) ho a z)⟩
theorem SRel.setE (S : SRel X.K X.mg Z μ H ρ σ) {i : Nat} {u : Option V} : SRel X.K X.mg Z μ H (ρ.set i .emp) (σ.set i u) ∧ ∀ a, ownA (ρ.set i .emp) (σ.set i u) a → ownA ρ σ a :=
  ⟨S.set (fun l z => by cases z) (fun d' z => by cases z) (fun z => by cases z) (fun c fs z => by cases z), own_set fun l z => by cases z⟩
/-- name = e -/
def sSet (i : Nat) (fe : SE) : SS := sBind fe fun ρ M d => .nx (ρ.set i (.val d)) M
theorem ds_set {i : Nat} {x : Str} {pos' : Pos} (hN : X.N.Nodup) (he : DE X Z W e fe) (hi : X.N[i]? = some x := by rfl) (hx : Loc X.env.scope x := by first | exact Or.inl rfl | exact Or.inr rfl) (hs : swapsWith e (some (.Name x pos')) pos.line X.env = pure false := by rfl) (hf : X.fn x = true ∨ X.env.scope.names.lookup x = some .local := by first | exact .inl rfl | exact .inr rfl) :
    DS X Z W (.Assign [.Name x pos'] e pos) (sSet i fe) := by
  refine PS.imp (ps_set (i := i) hN hi hx he hs hf) fun D σ H ⟨ρ, M, μ, S, m, h⟩ => ⟨ρ, M, μ, S, m, sBind_res S h fun d M1 q v μ' H' e' m' r S' h' => ?_⟩
  obtain ⟨S2, ho⟩ := S'.setV (i := i) r
  exact h' _ μ' H' .refl (fun a z => .inl (ho a z)) (m'.avm (avS_own ho)) S2

/-! ### targets -/
/-- what a target does: the slots vs alone are turned -/
def TgSem (K : PySem.W.Frag) (mg : Str → Option Value) (Z : Y) (g : TG) (bind : Sl → DD.D → Option Sl) (vs : List Nat) : Prop :=
  ∀ (μ : List Addr) (H : Hp) (ρ : Sl) (σ : L2.St) (d : DD.D) (v : V) (ρ' : Sl) (Q : L2.St → Hp → Prop), SRel K mg Z μ H ρ σ → DRel K μ (avS Z.om ρ σ) H d v → bind ρ d = some ρ' →
    (∀ σ', SRel K mg Z μ H ρ' σ' → (∀ a, ownA ρ' σ' a → ownA ρ σ a) → σ'.length = σ.length → (∀ j, j ∉ vs → σ'[j]? = σ[j]? ∧ ρ'[j]? = ρ[j]?) → Q σ' H) → g v σ H Q
def TgsSem (K : PySem.W.Frag) (mg : Str → Option Value) (Z : Y) (g : TGs) (bind : Sl → List DD.D → Option Sl) (vs : List Nat) : Prop :=
  ∀ (μ : List Addr) (H : Hp) (ρ : Sl) (σ : L2.St) (ds : List DD.D) (us : List V) (ρ' : Sl) (Q : L2.St → Hp → Prop), SRel K mg Z μ H ρ σ → DRels K μ (avS Z.om ρ σ) H ds us → bind ρ ds = some ρ' →
    (∀ σ', SRel K mg Z μ H ρ' σ' → (∀ a, ownA ρ' σ' a → ownA ρ σ a) → σ'.length = σ.length → (∀ j, j ∉ vs → σ'[j]? = σ[j]? ∧ ρ'[j]? = ρ[j]?) → Q σ' H) → g us σ H Q
def bName (i : Nat) : Sl → DD.D → Option Sl := fun ρ d => some (ρ.set i (.val d))
def bNil : Sl → List DD.D → Option Sl := fun ρ ds => match ds with
  | [] => some ρ
  | _ => none
def bCons (b : Sl → DD.D → Option Sl) (bs : Sl → List DD.D → Option Sl) : Sl → List DD.D → Option Sl := fun ρ ds => match ds with
  | d :: ds => (b ρ d).bind fun ρ' => bs ρ' ds
  | [] => none
def bTup (n : Nat) (bs : Sl → List DD.D → Option Sl) : Sl → DD.D → Option Sl := fun ρ d => match d with
  | .tup l => if l.length = n then bs ρ l else none
  | _ => none
theorem sem_name (i : Nat) : TgSem X.K X.mg Z (gName i) (bName i) [i] := fun μ H ρ σ d v ρ' Q S r e h => by
  cases e
  obtain ⟨S2, ho⟩ := S.setV (i := i) r
  have hj : ∀ j, j ∉ [i] → i ≠ j := fun j hj z => hj (by simp [z])
  exact h _ S2 ho (by simp) fun j q => ⟨setget (hj j q), setget (hj j q)⟩
theorem sem_nil : TgsSem X.K X.mg Z gNil bNil [] := fun μ H ρ σ ds us ρ' Q S r e h => by
  cases r with
  | nil => cases e; exact ⟨rfl, h _ S (fun a z => z) rfl fun j _ => ⟨rfl, rfl⟩⟩
  | cons _ _ => cases e
theorem sem_cons {g : TG} {gs : TGs} {b : Sl → DD.D → Option Sl} {bs : Sl → List DD.D → Option Sl} {vs ws : List Nat} (h1 : TgSem X.K X.mg Z g b vs) (h2 : TgsSem X.K X.mg Z gs bs ws) : TgsSem X.K X.mg Z (gCons g gs) (bCons b bs) (vs ++ ws) := fun μ H ρ σ ds us ρ' Q S r e h => by
  cases r with
  | nil => cases e
  | cons r rr =>
    rename_i d v ds us
    unfold bCons at e
    cases q : b ρ d with
    | none => simp [q] at e
    | some ρ1 =>
      simp [q] at e
      refine ⟨v, us, rfl, h1 μ H ρ σ d v ρ1 _ S r q fun σ1 S1 o1 l1 k1 => ?_⟩
      exact h2 μ H ρ1 σ1 ds us ρ' Q S1 (rr.avm fun a z => .inl (avS_own o1 a z)) e fun σ' S' o' l' k' => h σ' S' (fun a z => o1 a (o' a z)) (l'.trans l1) fun j hj => ⟨(k' j fun z => hj (List.mem_append_right _ z)).1.trans (k1 j fun z => hj (List.mem_append_left _ z)).1, (k' j fun z => hj (List.mem_append_right _ z)).2.trans (k1 j fun z => hj (List.mem_append_left _ z)).2⟩
theorem sem_tup {n : Nat} {gs : TGs} {bs : Sl → List DD.D → Option Sl} {vs : List Nat} (h1 : TgsSem X.K X.mg Z gs bs vs) : TgSem X.K X.mg Z (gTup X.K n gs) (bTup n bs) vs := fun μ H ρ σ d v ρ' Q S r e h => by
  unfold bTup at e
  cases d with
  | tup l =>
    simp only at e
    split at e
    · rename_i hl
      obtain ⟨a, xs, rfl, hq, z, rr⟩ := tup_of (l := l) (.inl r) rfl
      exact ⟨a, xs, rfl, hq, by rw [← rr.length]; exact hl, h1 μ H ρ σ l xs ρ' Q S rr e h⟩
    · cases e
  | _ => cases e
structure TgD (X : Cx) [Tbs X.K] (Z : Y) (tg : Expr) (bind : Sl → DD.D → Option Sl) : Prop where
  ex : ∃ g vs, PG X tg g ∧ TgSem X.K X.mg Z g bind vs
structure TgsD (X : Cx) [Tbs X.K] (Z : Y) (tgs : List Expr) (bind : Sl → List DD.D → Option Sl) : Prop where
  ex : ∃ g vs, PGs X tgs g ∧ TgsSem X.K X.mg Z g bind vs
theorem tg_name {i : Nat} {x : Str} (hN : X.N.Nodup) (hi : X.N[i]? = some x := by rfl) (hx : Loc X.env.scope x := by first | exact Or.inl rfl | exact Or.inr rfl) (hf : X.fn x = true ∨ X.env.scope.names.lookup x = some .local := by first | exact .inl rfl | exact .inr rfl) : TgD X Z (.Name x pos) (bName i) :=
  ⟨_, _, pg_name hN hi hx hf, sem_name i⟩
theorem tgs_nil : TgsD X Z [] bNil := ⟨_, _, pgs_nil, sem_nil⟩
theorem tgs_cons {e : Expr} {es : List Expr} {b : Sl → DD.D → Option Sl} {bs : Sl → List DD.D → Option Sl} (h1 : TgD X Z e b) (h2 : TgsD X Z es bs)
    (hs : (assignEach (e :: es) X.env).map (·.2) = assign e X.env :: (assignEach es X.env).map (·.2) := by rfl) : TgsD X Z (e :: es) (bCons b bs) := by
  obtain ⟨g, vs, hg, k⟩ := h1.ex
  obtain ⟨gs, ws, hgs, ks⟩ := h2.ex
  exact ⟨_, _, pgs_cons hg hgs hs, sem_cons k ks⟩
theorem tg_tup {es : List Expr} {k n : Nat} {bs : Sl → List DD.D → Option Sl} (hc : X.calm = true) (h : TgsD X Z es bs)
    (hn : (assignEach es X.env).length = n := by rfl) (hst : (assignEach es X.env).findIdx? (·.1) = none := by rfl) : TgD X Z (.Tuple es k pos) (bTup n bs) := by
  obtain ⟨gs, ws, hgs, ks⟩ := h.ex
  exact ⟨_, _, pg_tup hc hgs hn hst, sem_tup ks⟩
/-- target = e -/
def sTg (bind : Sl → DD.D → Option Sl) (fe : SE) : SS := sBind fe fun ρ M d => match bind ρ d with
  | some ρ' => .nx ρ' M
  | none => .bad
theorem ds_tg {tg : Expr} {bind : Sl → DD.D → Option Sl} (hg : TgD X Z tg bind) (he : DE X Z W e fe) (hs : swapsWithSole [tg] e pos.line X.env = pure false := by rfl) (hw : swappedStores [tg] e X.env = pure none := by rfl)
    (h1 : (assignEach [tg] X.env).map (·.2) = [assign tg X.env] := by rfl) : DS X Z W (.Assign [tg] e pos) (sTg bind fe) := by
  obtain ⟨g, vs, hg, k⟩ := hg.ex
  refine PS.imp (ps_asg he hg hs hw h1) fun D σ H ⟨ρ, M, μ, S, m, h⟩ => ⟨ρ, M, μ, S, m, sBind_res S h fun d M1 q v μ' H' e' m' r S' h' => ?_⟩
  cases q' : bind ρ d with
  | none => rw [q'] at h'; exact h'.elim
  | some ρ' =>
    rw [q'] at h'
    exact k μ' H' ρ σ d v ρ' _ S' r q' fun σ' S2 o _ _ => h' σ' μ' H' .refl (fun a z => .inl (o a z)) (m'.avm (avS_own o)) S2
end
end DD

set_option Elab.async false
set_option linter.all false
set_option autoImplicit false
set_option maxRecDepth 100000
set_option maxHeartbeats 1000000
/-! DD6: new lists (frozen, the frame's own, shared), append, item stores; what is walked; for; list comprehensions. -/
namespace DD
open PySem PySem.Spec L2

abbrev avP (av : Av) (a : Addr) : Av := fun x => av x ∨ x = a
/-- what is wanted of a list just made -/
def ResF (X : Cx) [Tbs X.K] (W : WX) (av : Av) (μ : List Addr) (H : Hp) (σ : L2.St) (r : R (List D)) (Q : VK) : Prop := match r with
  | .ok l M' => ∀ a xs μ' H', Ext μ No H μ' H' → Nil H a → H' a = some (.lst xs) → xs.length ≤ sizeLine → a ∉ μ' → ¬ av a → MemRel X.K μ' (avP av a) H' M' → DRels X.K μ' (avP av a) H' l xs → Q (.ref a) H'
  | .exc c fs M' => ∀ cls dx μ' H', Ext μ No H μ' H' → MemRel X.K μ' av H' M' → XRel X.K X.mg μ' av H' c fs cls dx → W cls dx σ H'
  | .bad => False
abbrev SL := Sl → Mem → R (List D)
def DF (X : Cx) [Tbs X.K] (Z : Y) (W : WX) (e : Expr) (f : SL) : Prop := PE X e fun σ H Q => ∃ ρ M μ, SRel X.K X.mg Z μ H ρ σ ∧ MemRel X.K μ (avS Z.om ρ σ) H M ∧ ResF X W (avS Z.om ρ σ) μ H σ (f ρ M) Q
section
variable {X : Cx} [Tbs X.K] {Z : Y} {W : WX} {μ μ' : List Addr} {av : Av} {H H' H1 : Hp} {ρ ρ' : Sl} {σ σ' : L2.St} {M : Mem} {Ds : Ends} {e o : Expr} {es : List Expr} {fl : SL} {fe fo fi : SE} {fs : List SE} {pos : Pos} {a p : Addr} {l : List D} {xs : List V}
/-- a list at p just made at H1, with what stood there -/
theorem fresh_lst (e : Ext μ No H μ' H1) (m : MemRel X.K μ' av H1 M) (hp : H1 p = none) (r : DRels X.K μ' av H1 l xs) :
    Ext μ No H μ' (upd H1 p (.lst xs)) ∧ Nil H p ∧ p ∉ μ' ∧ ¬ av p ∧ MemRel X.K μ' (avP av p) (upd H1 p (.lst xs)) M ∧ DRels X.K μ' (avP av p) (upd H1 p (.lst xs)) l xs := by
  have hx : Ext μ' No H1 μ' (upd H1 p (.lst xs)) := .new hp
  have nav : ¬ av p := fun z => m.avs p z (.of hp)
  have ha : ∀ b, avP av p b → av b ∨ Nil H1 b := fun b z => by
    rcases z with z | z
    · exact .inl z
    · exact .inr (z ▸ .of hp)
  refine ⟨e.trans0 hx, e.dom p (.of hp), m.fresh hp, nav, ?_, r.mono hx (fun _ z => z.elim) ha⟩
  refine m.mono hx (fun b hb o q => by rw [upd_ne (ne_of_none q hp)]; exact q) (fun _ z => z.elim) ha (fun b z => ?_) fun q hq => tab_new hp _ _ (m.tab q hq)
  rcases z with z | z
  · exact hx.there (m.avs b z)
  · rw [z]; exact fun q => q.lst upd_same
theorem df_lst (h : DA X Z W es (aSeq fs)) (hl : fs.length ≤ sizeLine := by decide) : DF X Z W (.List es pos) (aSeq fs) := by
  refine PE.imp (pe_lst h) fun σ H Q ⟨ρ, M, μ, S, m, q⟩ => ⟨ρ, M, μ, S, m, ?_⟩
  cases z : aSeq fs ρ M with
  | ok l M' =>
    rw [z] at q
    intro vs μ' H1 e' m' r
    have hz : vs.length ≤ sizeLine := by rw [← DRels.length r, aSeq_len fs ρ M l M' z]; exact hl
    refine ⟨hz, fun p hp => ?_⟩
    obtain ⟨e2, h2, h3, h4, h5, h6⟩ := fresh_lst e' m' hp r
    exact q p vs μ' _ e2 h2 upd_same hz h3 h4 h5 h6
  | exc c fs M' => rw [z] at q; exact q
  | bad => rw [z] at q; exact q
/-- it is never changed -/
def eFrz (fl : SL) : SE := fun ρ M => (fl ρ M).bind fun l M1 => .ok (.lst l) M1
theorem DF.frz (h : DF X Z W e fl) : DE X Z W e (eFrz fl) := by
  refine PE.imp h fun σ H Q ⟨ρ, M, μ, S, m, q⟩ => ⟨ρ, M, μ, S, m, ?_⟩
  unfold eFrz at q
  cases z : fl ρ M with
  | ok l M' =>
    rw [z] at q
    exact fun a xs μ' H' e' h0 h1 hz hn hv m' r => q _ μ' H' e' (m'.avm fun b z => .inl z) (.lst (.inl h1) hn hv hz (r.avm fun b z => .inl (.inl z)))
  | exc c fs M' => rw [z] at q; exact q
  | bad => rw [z] at q; exact q
/-- it is shared from now on -/
def eShr (fl : SL) : SE := fun ρ M => (fl ρ M).bind fun l M1 => .ok (.ref M1.length) (M1 ++ [.lst l])
theorem DF.shr (h : DF X Z W e fl) : DE X Z W e (eShr fl) := by
  refine PE.imp h fun σ H Q ⟨ρ, M, μ, S, m, q⟩ => ⟨ρ, M, μ, S, m, ?_⟩
  unfold eShr at q
  cases z : fl ρ M with
  | ok l M' =>
    rw [z] at q
    intro a xs μ' H' e' h0 h1 hz hn hv m' r
    have m1 : MemRel X.K μ' (avS Z.om ρ σ) H' M' := m'.avm fun b z => .inl z
    have r1 : DRels X.K μ' (avS Z.om ρ σ) H' l xs := r.avm fun b z => .inl (.inl z)
    obtain ⟨ν, hν, hf⟩ := id e'.pre
    have ex : Ext μ' No H' (μ' ++ [a]) H' → True := fun _ => trivial
    have e2 : Ext μ No H (μ' ++ [a]) H' := ⟨⟨ν ++ [a], by rw [hν, List.append_assoc], fun b hb => by
      rcases List.mem_append.mp hb with q | q
      · exact hf b q
      · have : b = a := by simpa using q
        rw [this]; exact h0⟩, e'.keep, e'.dom⟩
    have up : ∀ {d v}, DRel X.K μ' (avP (avS Z.om ρ σ) a) H' d v → DRel X.K (μ' ++ [a]) (avS Z.om ρ σ) H' d v := fun {d v} q => DRel.grow q
    have ups : ∀ {ds vs}, DRels X.K μ' (avP (avS Z.om ρ σ) a) H' ds vs → DRels X.K (μ' ++ [a]) (avS Z.om ρ σ) H' ds vs := fun {ds vs} q => DRels.grow q
    refine q _ (μ' ++ [a]) H' e2 ⟨by simp [m1.len], ?_, fun j b mo e1 e2 => ?_, m1.avs, fun b hb z => ?_, m1.tab⟩ (.ref ?_)
    · rw [List.nodup_append]
      refine ⟨m1.nd, by simp, fun b hb c hc => ?_⟩
      have : c = a := by simpa using hc
      subst this
      exact fun z => hn (z ▸ hb)
    · by_cases hj : j < μ'.length
      · rw [List.getElem?_append_left hj] at e1
        rw [List.getElem?_append_left (by rw [← m1.len]; exact hj)] at e2
        cases m'.at_ j b mo e1 e2 with
        | lst q z r => exact .lst q z (ups r)
      · have hl := (List.getElem?_eq_some_iff.mp e1).1
        have e : j = μ'.length := by simp at hl; omega
        subst e
        rw [List.getElem?_append_right (Nat.le_refl _)] at e1
        rw [m1.len, List.getElem?_append_right (Nat.le_refl _)] at e2
        simp at e1 e2
        subst e1 e2
        exact .lst h1 hz (ups r)
    · rcases List.mem_append.mp hb with q | q
      · exact m1.dis b q z
      · have : b = a := by simpa using q
        subst this
        exact hv z
    · rw [← m1.len, List.getElem?_append_right (Nat.le_refl _)]; simp
  | exc c fs M' => rw [z] at q; exact q
  | bad => rw [z] at q; exact q
where
  DRel.grow {μ' : List Addr} {av : Av} {H' : Hp} {a : Addr} : ∀ {d : D} {v : V}, DRel X.K μ' (avP av a) H' d v → DRel X.K (μ' ++ [a]) av H' d v := fun {d v} q => (grow2 (K := X.K) μ' av H' a).1 d v q
  DRels.grow {μ' : List Addr} {av : Av} {H' : Hp} {a : Addr} : ∀ {ds : List D} {vs : List V}, DRels X.K μ' (avP av a) H' ds vs → DRels X.K (μ' ++ [a]) av H' ds vs := fun {ds vs} q => (grow2 (K := X.K) μ' av H' a).2 ds vs q
  grow2 {K : PySem.W.Frag} (μ' : List Addr) (av : Av) (H' : Hp) (a : Addr) : (∀ d v, DRel K μ' (avP av a) H' d v → DRel K (μ' ++ [a]) av H' d v) ∧ (∀ ds vs, DRels K μ' (avP av a) H' ds vs → DRels K (μ' ++ [a]) av H' ds vs) := by
    have nm : ∀ b, b ∉ μ' → ¬ avP av a b → b ∉ μ' ++ [a] := fun b h1 h2 h3 => by
      rcases List.mem_append.mp h3 with q | q
      · exact h1 q
      · exact h2 (.inr (by simpa using q))
    have ng : ∀ {i : Nat} {b : Addr}, μ'[i]? = some b → (μ' ++ [a])[i]? = some b := fun {i b} h => by
      have hi := (List.getElem?_eq_some_iff.mp h).1
      rw [List.getElem?_append_left hi]; exact h
    constructor
    · intro d v h
      refine DRel.rec (motive_1 := fun d v _ => DRel K (μ' ++ [a]) av H' d v) (motive_2 := fun ds vs _ => DRels K (μ' ++ [a]) av H' ds vs) .non (fun b => .bl b) (fun i => .int i) (fun x h => .str x h)
        (fun h n nv z _ ih => .tup h (nm _ n nv) (fun q => nv (.inl q)) z ih) (fun h z _ ih => .tupK h z ih) (fun h n nv z _ ih => .lst h (nm _ n nv) (fun q => nv (.inl q)) z ih) (fun h z _ ih => .lstK h z ih) (fun h => .ref (ng h)) .nil (fun _ _ i1 i2 => .cons i1 i2) h
    · intro d v h
      refine DRels.rec (motive_1 := fun d v _ => DRel K (μ' ++ [a]) av H' d v) (motive_2 := fun ds vs _ => DRels K (μ' ++ [a]) av H' ds vs) .non (fun b => .bl b) (fun i => .int i) (fun x h => .str x h)
        (fun h n nv z _ ih => .tup h (nm _ n nv) (fun q => nv (.inl q)) z ih) (fun h z _ ih => .tupK h z ih) (fun h n nv z _ ih => .lst h (nm _ n nv) (fun q => nv (.inl q)) z ih) (fun h z _ ih => .lstK h z ih) (fun h => .ref (ng h)) .nil (fun _ _ i1 i2 => .cons i1 i2) h
/-- a slot gets a list of its own -/
theorem SRel.setOwn (S : SRel X.K X.mg Z μ H ρ σ) (ex : Ext μ No H μ' H') {i : Nat} (h0 : Nil H a) (h1 : H' a = some (.lst xs)) (hz : xs.length ≤ sizeLine) (hn : a ∉ μ') (hv : ¬ avS Z.om ρ σ a) (r : DRels X.K μ' (avP (avS Z.om ρ σ) a) H' l xs) :
    SRel X.K X.mg Z μ' H' (ρ.set i (.own l)) (σ.set i (some (.ref a))) ∧ ∀ b, ownA (ρ.set i (.own l)) (σ.set i (some (.ref a))) b → ownA ρ σ b ∨ b = a := by
  have ho : ∀ b, ownA (ρ.set i (.own l)) (σ.set i (some (.ref a))) b → ownA ρ σ b ∨ b = a := fun b ⟨j, l', q1, q2⟩ => by
    rcases getset q1 with ⟨rfl, q, hl⟩ | ⟨ne, q⟩
    · rw [setself (by rw [← S.len]; exact hl)] at q2
      cases q2
      exact .inr rfl
    · rw [setget ne] at q2
      exact .inl ⟨j, l', q, q2⟩
  have hav : ∀ b, avS Z.om (ρ.set i (.own l)) (σ.set i (some (.ref a))) b → avS Z.om ρ σ b ∨ b = a := fun b z => by
    rcases z with z | z
    · exact .inl (.inl z)
    · rcases ho b z with z | z
      · exact .inl (.inr z)
      · exact .inr z
  have hav0 : ∀ b, avS Z.om (ρ.set i (.own l)) (σ.set i (some (.ref a))) b → avS Z.om ρ σ b ∨ Nil H b := fun b z => by
    rcases hav b z with z | z
    · exact .inl z
    · exact .inr (z ▸ h0)
  have il : ∀ {j}, j < ρ.length → j < σ.length := fun h => by rw [← S.len]; exact h
  refine ⟨⟨by simpa using S.len, S.base.trans0 ex, fun b z => (ho b z).elim (S.ownN b) fun q => S.base.dom b (q ▸ h0), fun j d h => ?_, fun j l' h => ?_, fun j k l' m' b q1 q2 q3 q4 => ?_, fun j h => ?_, fun j c fs h => ?_⟩, ho⟩
  · rcases getset h with ⟨rfl, q, hl⟩ | ⟨ne, q⟩
    · cases q
    · obtain ⟨v, e1, r⟩ := S.val j d q
      exact ⟨v, by rw [setget ne]; exact e1, r.mono ex (fun _ z => z.elim) hav0⟩
  · rcases getset h with ⟨rfl, q, hl⟩ | ⟨ne, q⟩
    · cases q
      exact ⟨a, xs, setself (il hl), h1, hz, r.avm fun b z => .inl (hav b z), hn, fun z => hv (.inl z)⟩
    · obtain ⟨b, ys, e1, e2, z, r, n, no⟩ := S.own j l' q
      exact ⟨b, ys, by rw [setget ne]; exact e1, ex.keep _ _ n (fun z => z) e2 (fun ps z => by cases z), z, r.mono ex (fun _ z => z.elim) hav0, ex.out e2 n, no⟩
  · have cont : ∀ {j : Nat} {l' : List D} {b : Addr}, i ≠ j → ρ[j]? = some (SV.own l') → (σ.set i (some (V.ref a)))[j]? = some (some (V.ref b)) → b ≠ a := fun {j l' b} ne q q' e => by
      subst e
      rw [setget ne] at q'
      exact hv (.inr ⟨j, l', q, q'⟩)
    rcases getset q1 with ⟨rfl, q, hl⟩ | ⟨ne, q⟩
    · rcases getset q2 with ⟨rfl, q', hl'⟩ | ⟨ne', q'⟩
      · rfl
      · rw [setself (il hl)] at q3
        cases q3
        exact absurd rfl (cont ne' q' q4)
    · rcases getset q2 with ⟨rfl, q', hl'⟩ | ⟨ne', q'⟩
      · rw [setself (il hl')] at q4
        cases q4
        exact absurd rfl (cont ne q q3)
      · rw [setget ne] at q3
        rw [setget ne'] at q4
        exact S.inj j k l' m' b q q' q3 q4
  · rcases getset h with ⟨rfl, q, hl⟩ | ⟨ne, q⟩
    · cases q
    · obtain ⟨f, e1, e2⟩ := S.thk j q
      exact ⟨f, e1, by rw [setget ne]; exact e2⟩
  · rcases getset h with ⟨rfl, q, hl⟩ | ⟨ne, q⟩
    · cases q
    · obtain ⟨b, cls, dx, e1, e2, r⟩ := S.hnd j c fs q
      exact ⟨b, cls, dx, e1, by rw [setget ne]; exact e2, r.mono ex (fun _ z => z.elim) hav0⟩
/-- name = a new list, the frame's own -/
def sOwn (i : Nat) (fl : SL) : SS := fun ρ M => match fl ρ M with
  | .ok l M1 => .nx (ρ.set i (.own l)) M1
  | .exc c fs M1 => .exc c fs ρ M1
  | .bad => .bad
theorem ds_own {i : Nat} {x : Str} {pos' : Pos} (hN : X.N.Nodup) (he : DF X Z W e fl) (hi : X.N[i]? = some x := by rfl) (hx : Loc X.env.scope x := by first | exact Or.inl rfl | exact Or.inr rfl) (hs : swapsWith e (some (.Name x pos')) pos.line X.env = pure false := by rfl) (hf : X.fn x = true ∨ X.env.scope.names.lookup x = some .local := by first | exact .inl rfl | exact .inr rfl) :
    DS X Z W (.Assign [.Name x pos'] e pos) (sOwn i fl) := by
  refine PS.imp (ps_set (i := i) hN hi hx he hs hf) fun D σ H ⟨ρ, M, μ, S, m, h⟩ => ⟨ρ, M, μ, S, m, ?_⟩
  unfold sOwn at h
  cases q : fl ρ M with
  | ok l M1 =>
    rw [q] at h
    intro a xs μ' H' ex h0 h1 hz hn hv m' r
    obtain ⟨S2, ho⟩ := S.setOwn ex (i := i) h0 h1 hz hn hv r
    refine h _ μ' H' (ex.mono fun _ z => z.elim) (fun b z => ?_) (m'.avm fun b z => ?_) S2
    · rcases ho b z with z | z
      · exact .inl z
      · exact .inr (z ▸ h0)
    · rcases z with z | z
      · exact .inl (.inl z)
      · rcases ho b z with z | z
        · exact .inl (.inr z)
        · exact .inr z
  | exc c fs M1 => rw [q] at h; exact fun cls dx μ' H' e m' x => SResG.exc h S e m' x
  | bad => rw [q] at h; exact h.elim
/-- the frame's own list at slot i is written -/
theorem SRel.wrOwn (S : SRel X.K X.mg Z μ H ρ σ) (m : MemRel X.K μ (avS Z.om ρ σ) H M) {i : Nat} {l l' : List D} {ys : List V} (hi : ρ[i]? = some (.own l)) (ha : σ[i]? = some (some (V.ref a))) (hz : ys.length ≤ sizeLine) (r : DRels X.K μ (avS Z.om ρ σ) H l' ys) :
    SRel X.K X.mg Z μ (upd H a (.lst ys)) (ρ.set i (.own l')) σ ∧ MemRel X.K μ (avS Z.om (ρ.set i (.own l')) σ) (upd H a (.lst ys)) M ∧ Ext μ (ownA ρ σ) H μ (upd H a (.lst ys)) ∧ ∀ b, ownA (ρ.set i (.own l')) σ b → ownA ρ σ b := by
  obtain ⟨a', xs, ea, e2, z, _, na, no⟩ := S.own i l hi
  rw [ha] at ea
  cases ea
  have oa : ownA ρ σ a := ⟨i, l, hi, ha⟩
  have ho : ∀ b, ownA (ρ.set i (.own l')) σ b → ownA ρ σ b := fun b ⟨j, m', q1, q2⟩ => by
    rcases getset q1 with ⟨rfl, q, hl⟩ | ⟨ne, q⟩
    · exact ⟨i, l, hi, q2⟩
    · exact ⟨j, m', q, q2⟩
  have hav : ∀ b, avS Z.om (ρ.set i (.own l')) σ b → avS Z.om ρ σ b := fun b z => avS_own ho b z
  have ex : Ext μ (ownA ρ σ) H μ (upd H a (.lst ys)) := ⟨⟨[], by simp, by simp⟩, fun b o _ nw q _ => by
    rw [upd_ne (fun z : b = a => nw (z ▸ oa))]; exact q, fun b q => by
    by_cases z : b = a
    · exact ((show Nil _ a from z ▸ q).lst upd_same).elim
    · exact fun o q' => q o (by rw [upd_ne z]; exact q')⟩
  have wa : ∀ b, ownA ρ σ b → avS Z.om ρ σ b := fun b z => .inr z
  refine ⟨⟨by simpa using S.len, S.base.trans ex (fun b z => .inr (S.ownN b z)), fun b z => S.ownN b (ho b z), fun j d h => ?_, fun j l' h => ?_, fun j k l' m' b q1 q2 q3 q4 => ?_, fun j h => ?_, fun j c fs h => ?_⟩, ?_, ex, ho⟩
  · rcases getset h with ⟨rfl, q, hl⟩ | ⟨ne, q⟩
    · cases q
    · obtain ⟨v, e1, r⟩ := S.val j d q
      exact ⟨v, e1, r.mono ex wa fun b z => .inl (hav b z)⟩
  · rcases getset h with ⟨rfl, q, hl⟩ | ⟨ne, q⟩
    · cases q
      exact ⟨a, ys, ha, upd_same, hz, r.mono ex wa (fun b z => .inl (hav b z)), na, no⟩
    · obtain ⟨b, zs, e1, e3, z, r, n, no⟩ := S.own j l' q
      have nb : b ≠ a := fun z => ne (S.inj i j l l' a hi q ha (z ▸ e1))
      exact ⟨b, zs, e1, by rw [upd_ne nb]; exact e3, z, r.mono ex wa (fun b z => .inl (hav b z)), n, no⟩
  · rcases getset q1 with ⟨rfl, q, hl⟩ | ⟨ne, q⟩
    · rcases getset q2 with ⟨rfl, q', hl'⟩ | ⟨ne', q'⟩
      · rfl
      · exact S.inj _ k l m' b hi q' q3 q4
    · rcases getset q2 with ⟨rfl, q', hl'⟩ | ⟨ne', q'⟩
      · exact S.inj j _ l' l b q hi q3 q4
      · exact S.inj j k l' m' b q q' q3 q4
  · rcases getset h with ⟨rfl, q, hl⟩ | ⟨ne, q⟩
    · cases q
    · exact S.thk j q
  · rcases getset h with ⟨rfl, q, hl⟩ | ⟨ne, q⟩
    · cases q
    · obtain ⟨b, cls, dx, e1, e2, r⟩ := S.hnd j c fs q
      exact ⟨b, cls, dx, e1, e2, r.mono ex wa fun b z => .inl (hav b z)⟩
  · refine m.mono ex (fun b hb o q => ?_) wa (fun b z => .inl (hav b z)) (fun b z => ex.there (m.avs b (hav b z))) fun q hq => tab_wr e2 _ _ (m.tab q hq)
    rw [upd_ne (fun z : b = a => na (z ▸ hb))]; exact q
/-- name.append(e), name a list of the frame's own -/
def sApp (i : Nat) (fe : SE) : SS := fun ρ M => match ρ[i]? with
  | some (.own l) => (match fe ρ M with
    | .ok d M1 => if l.length < sizeLine then .nx (ρ.set i (.own (l ++ [d]))) M1 else .bad
    | .exc c fs M1 => .exc c fs ρ M1
    | .bad => .bad)
  | _ => .bad
theorem ds_app {i : Nat} {x : Str} {p1 apos cpos : Pos} (he : DE X Z W e fe) (hi : X.N[i]? = some x := by rfl) (hv : Vis X.env.scope x := by first | exact Or.inl rfl | exact Or.inr (Or.inl rfl) | exact Or.inr (Or.inr rfl)) (hd : (x == ("__debug__" : Str)) = false := by decide)
    (hcd : (x == ("__classdict__" : Str)) = false := by decide)
    (hbase : attributeBase (.Name x p1) "append" X.env (eval (.Name x p1) X.env) = eval (.Name x p1) X.env := by rfl)
    (hfew : ((backTo cpos (starEach [e] X.env)).all (fun x => !x.1) && (backToKw cpos (keywordEach [] X.env)).all (fun x => x.1.isSome)
      && decide ([e].length + ([] : List Keyword).length + (if ([] : List Keyword).isEmpty then 0 else 1) < 30)) = true := by rfl)
    (hline : (apos.endLine == cpos.line) = true := by rfl) (hs : starEach [e] X.env = (false, eval e X.env) :: starEach [] X.env := by rfl) (hplain : (backTo cpos (starEach [] X.env)).any (·.1) = false := by rfl)
    (hsw : swapsWith (.Call (.Attribute (.Name x p1) "append" apos) [e] [] cpos) none pos.line X.env = pure false := by rfl) :
    DS X Z W (.Expr (.Call (.Attribute (.Name x p1) "append" apos) [e] [] cpos) pos) (sApp i fe) := by
  refine PS.imp (ps_expr (pe_bm (name := "append") (id := "list.append") (T := "list") PySem.F.plainAttrs_list PySem.F.slot_list_append PySem.F.type_list_append mt_append (pe_var hi hv hd hcd) (pa_cons he pa_nil hs) hbase hfew hline hs hplain) hsw) fun D σ H ⟨ρ, M, μ, S, m, h⟩ => ?_
  unfold sApp at h
  cases q0 : ρ[i]? with
  | none => rw [q0] at h; exact h.elim
  | some sv =>
    rw [q0] at h
    cases sv with
    | own l =>
      obtain ⟨a, xs, ea, e2, z, r, na, no⟩ := S.own i l q0
      refine ⟨V.ref a, ea, .inl ⟨rfl, xs, .of e2⟩, ρ, M, μ, S, m, ?_⟩
      cases q : fe ρ M with
      | ok d M1 =>
        rw [q] at h
        intro v μ' H' ex m' rd
        have S' := S.up ex
        have e2' := ex.keep _ _ na (fun z => z) e2 (fun ps z => by cases z)
        simp only at h
        split at h
        · rename_i hlt
          have lx : l.length = xs.length := DRels.length r
          refine ⟨a, xs, v, rfl, rfl, e2', by rw [← lx]; exact hlt, ?_⟩
          obtain ⟨S2, m2, ex2, ho⟩ := S'.wrOwn m' q0 ea (l' := l ++ [d]) (ys := xs ++ [v]) (by simp; omega) ((r.up ex).append (.one rd))
          exact h σ μ' _ (Ext.trans (wr := ownA ρ σ) (ex.mono fun _ z => z.elim) ex2 fun b z => .inl z) (fun b z => .inl (ho b z)) m2 S2
        · exact h.elim
      | exc c fs M1 => rw [q] at h; exact fun cls dx μ' H' e m' x => SResG.exc h S e m' x
      | bad => rw [q] at h; exact h.elim
    | emp => exact h.elim
    | val d => exact h.elim
    | hnd c fs => exact h.elim
    | thk => exact h.elim
/-- o[i] = e, o a shared list -/
def sStore (fo fi fe : SE) : SS := sBind fe fun ρ M x => sBind fo (fun ρ M o => sBind fi (fun ρ M j => match o, j with
  | .ref k, .int n => (match M[k]? with
    | some (.lst l) => (match ixN l.length n with
      | some t => .nx ρ (M.set k (.lst (l.set t x)))
      | none => .bad)
    | _ => .bad)
  | _, _ => .bad) ρ M) ρ M
theorem ds_store {i : Expr} {p1 : Pos} (ho : DE X Z W o fo) (hi : DE X Z W i fi) (he : DE X Z W e fe)
    (ha : ∀ v, assign (.Subscript o i p1) X.env v = (do
      let ov ← holding [v] (eval o X.env)
      let iv ← holding [v, ov] (eval i X.env)
      standAt p1
      holding [v, ov, iv] (setItem ov iv v)
      release [v, ov, iv] []) := by intro _; rfl)
    (hs : swapsWithSole [.Subscript o i p1] e pos.line X.env = pure false := by rfl) (hw : swappedStores [.Subscript o i p1] e X.env = pure none := by rfl)
    (h1 : (assignEach [.Subscript o i p1] X.env).map (·.2) = [assign (.Subscript o i p1) X.env] := by rfl) : DS X Z W (.Assign [.Subscript o i p1] e pos) (sStore fo fi fe) := by
  refine PS.imp (ps_asg he (pg_sub ho hi set_list ha) hs hw h1) fun D σ H ⟨ρ, M, μ, S, m, h⟩ => ⟨ρ, M, μ, S, m, sBind_res S h fun x M1 q v μ1 H1 e1 m1 r1 S1 h1 => ?_⟩
  refine ⟨ρ, M1, μ1, S1, m1, sBind_res S1 h1 fun ob M2 q2 vo μ2 H2 e2 m2 r2 S2 h2 => ?_⟩
  refine ⟨ρ, M2, μ2, S2, m2, sBind_res S2 h2 fun j M3 q3 vj μ3 H3 e3 m3 r3 S3 h3 => ?_⟩
  cases r2 with
  | ref hk =>
    rename_i k a
    cases j with
    | int n =>
      cases r3
      cases q4 : M3[k]? with
      | none => simp [q4] at h3; exact h3.elim
      | some mo =>
        cases mo with
        | lst l =>
          simp only [q4] at h3
          have hk3 := e3.get hk
          cases m3.at_ k a _ hk3 q4 with
          | lst q5 z r =>
            rename_i xs
            have lx := DRels.length r
            cases q6 : ixN l.length n with
            | none => simp [q6] at h3; exact h3.elim
            | some t =>
              simp only [q6] at h3
              refine ⟨a, xs, n, t, rfl, rfl, q5, by rw [← lx]; exact q6, ?_⟩
              have am : a ∈ μ3 := List.mem_of_getElem? hk3
              have ex : Ext μ3 No H3 μ3 (upd H3 a (.lst (xs.set t v))) := ⟨⟨[], by simp, by simp⟩, fun b o n _ e _ => by
                rw [upd_ne (fun z : b = a => n (z ▸ am))]; exact e, fun b e => by
                by_cases z : b = a
                · exact ((show Nil _ a from z ▸ e).lst upd_same).elim
                · exact fun o q' => e o (by rw [upd_ne z]; exact q')⟩
              have rx := ((r1.up (e2.trans0 e3)))
              have mm := m3.write hk3 q5 (xs := xs.set t v) (ds := l.set t x) (by simpa using z) ((r.set t rx).up ex)
              exact h3 σ μ3 _ (ex.mono fun _ z => z.elim) (fun b z => .inl z) mm (S3.up ex)
    | _ => exact h3.elim
  | _ => exact h3.elim
end
end DD

set_option Elab.async false
set_option linter.all false
set_option autoImplicit false
set_option maxRecDepth 100000
set_option maxHeartbeats 1000000
/-! DD7: what is walked; for; list comprehensions; a def by its body. -/
namespace DD
open PySem PySem.Spec L2

instance (X : Cx) [h : Tbs X.K] (s : Shared) (H : Hp) (scope : Scope) (cenv : PySem.Env) (fp : List Addr) : Tbs (X.blk s H scope cenv fp).K := h
instance (X : Cx) [h : Tbs X.K] (pn : List (Addr × Obj)) (xe : Value → Shared → Prop) : Tbs (X.tr pn xe).K := h
instance (X : Cx) [h : Tbs X.K] (a : Addr) (pn : List (Addr × Obj)) : Tbs (X.suite a pn).K := h
instance (X : Cx) [h : Tbs X.K] : Tbs X.nox.K := h
instance (CX : CXT) (P : Program) (w : World) (K : PySem.W.Frag) [h : Tbs K] (mg : Str → Option Value) (base : Heap) (N : List Str) (qual : Str) (scope : Scope) (f : Addr) (cd : Value) (A : Around) (outer : List PySem.Env) (s : Shared) (H : Hp) (E : XK) : Tbs (cxOf CX P w K mg base N qual scope f cd A outer s H E).K := h
instance (X : Cx) [h : Tbs X.K] (A : Around) (outer : List PySem.Env) (s : Shared) (H : Hp) (E : XK) (scope : Scope) (f c' : Addr) : Tbs (LamX.lamCx X A outer s H E scope f c').K := h
/-- J walks the values l, from (μ1, H1) on, whatever happens to what av1 tells -/
structure ItD (K : PySem.W.Frag) [Tbs K] (l : List D) (μ1 : List Addr) (av1 : Av) (H1 : Hp) (J : It) : Prop where
  len : l.length ≤ sizeLine
  go : ∀ μ H, Ext μ1 av1 H1 μ H → ∀ i, i < l.length → J.go i H
  stop : ∀ μ H, Ext μ1 av1 H1 μ H → J.stop l.length H
  yld : ∀ μ H, Ext μ1 av1 H1 μ H → ∀ i x H', J.yld i H x H' → ∀ av M, MemRel K μ av H M → (∀ a, av a → av1 a ∨ Nil H1 a) → ∀ d, l[i]? = some d → Ext μ No H μ H' ∧ MemRel K μ av H' M ∧ DRel K μ av H' d x
abbrev relI (K : PySem.W.Frag) [Tbs K] (av : Av) (μ : List Addr) (H : Hp) : List D → It → Prop := fun l J => ItD K l μ av H J
def DI (X : Cx) [Tbs X.K] (Z : Y) (W : WX) (tg iter : Expr) (f : SL) : Prop := PI X tg iter (tG (fun _ av μ H l J => relI X.K av μ H l J) X Z W f)
theorem PI.imp {X : Cx} {tg iter : Expr} {t t' : TI} (h : PI X tg iter t) (i : ∀ σ H Q, t' σ H Q → t σ H Q) : PI X tg iter t' := ⟨fun pins s σ H Q I q => h.run pins s σ H Q I (i _ _ _ q)⟩
section
variable {X : Cx} [Tbs X.K] {Z : Y} {W : WX} {K : PySem.W.Frag} [Tbs K] {μ μ' : List Addr} {av : Av} {H H' H1 : Hp} {ρ ρ' : Sl} {σ σ' : L2.St} {M : Mem} {e tg : Expr} {fe : SE} {fs : List SE} {pos p : Pos} {a : Addr} {l : List D} {xs : List V}
theorem itd_list (h : (Rd H1 a (.lst xs) ∧ a ∉ μ ∧ ¬ av a) ∨ KL K a xs) (z : xs.length ≤ sizeLine) (r : DRels K μ av H1 l xs) : ItD K l μ av H1 (Itl K a) := by
  have sq : ∀ μ' H', Ext μ av H1 μ' H' → SqL K H' a xs := fun μ' H' e => by
    rcases h with ⟨h, n, nv⟩ | h
    · exact .inl (rd_keep e h n nv fun ps z => by cases z)
    · exact h H'
  refine ⟨by rw [r.length]; exact z, fun μ' H' e i hi => ?_, fun μ' H' e => ⟨xs, sq _ _ e, by rw [r.length]; exact Nat.le_refl _⟩, fun μ' H' e i x H'' y av' M m ha d hd => ?_⟩
  · rw [r.length] at hi
    exact ⟨xs, xs[i], sq _ _ e, List.getElem?_eq_getElem hi⟩
  · obtain ⟨rfl, y⟩ := y
    have hx := y xs (sq _ _ e)
    obtain ⟨v, hv, rv⟩ := r.get hd
    rw [hx] at hv; cases hv
    exact ⟨.refl, m, rv.mono e (fun _ z => z) ha⟩
theorem itd_tup (h : (Rd H1 a (.tup xs) ∧ a ∉ μ ∧ ¬ av a) ∨ KT K a xs) (z : xs.length ≤ sizeLine) (r : DRels K μ av H1 l xs) : ItD K l μ av H1 (Itt K a) := by
  have sq : ∀ μ' H', Ext μ av H1 μ' H' → SqT K H' a xs := fun μ' H' e => by
    rcases h with ⟨h, n, nv⟩ | h
    · exact .inl (rd_keep e h n nv fun ps z => by cases z)
    · exact .inr h
  refine ⟨by rw [r.length]; exact z, fun μ' H' e i hi => ?_, fun μ' H' e => ⟨xs, sq _ _ e, by rw [r.length]; exact Nat.le_refl _⟩, fun μ' H' e i x H'' y av' M m ha d hd => ?_⟩
  · rw [r.length] at hi
    exact ⟨xs, xs[i], sq _ _ e, List.getElem?_eq_getElem hi⟩
  · obtain ⟨rfl, y⟩ := y
    have hx := y xs (sq _ _ e)
    obtain ⟨v, hv, rv⟩ := r.get hd
    rw [hx] at hv; cases hv
    exact ⟨.refl, m, rv.mono e (fun _ z => z) ha⟩
/-- over a frozen list; over a tuple -/
def iLst (fe : SE) : SL := fun ρ M => (fe ρ M).bind fun d M1 => match d with
  | .lst l => .ok l M1
  | _ => .bad
def iTup' (fe : SE) : SL := fun ρ M => (fe ρ M).bind fun d M1 => match d with
  | .tup l => .ok l M1
  | _ => .bad
theorem di_list (he : DE X Z W e fe) : DI X Z W tg e (iLst fe) := by
  refine PI.imp (pi_list he) fun σ H Q ⟨ρ, M, μ, S, m, q⟩ => ⟨ρ, M, μ, S, m, ResG.imp (ResG.bind q) ?_⟩
  rintro v H1 ⟨d, M1, μ1, e1, m1, r1, h1⟩
  cases r1 with
  | lst h n nv z r => exact ⟨_, rfl, ⟨_, .inl h⟩, h1 _ μ1 H1 .refl m1 (itd_list (.inl ⟨h, n, nv⟩) z r)⟩
  | lstK h z r => exact ⟨_, rfl, ⟨_, h H1⟩, h1 _ μ1 H1 .refl m1 (itd_list (.inr h) z r)⟩
  | _ => exact h1.elim
theorem di_tup (he : DE X Z W e fe) : DI X Z W tg e (iTup' fe) := by
  refine PI.imp (pi_tup he) fun σ H Q ⟨ρ, M, μ, S, m, q⟩ => ⟨ρ, M, μ, S, m, ResG.imp (ResG.bind q) ?_⟩
  rintro v H1 ⟨d, M1, μ1, e1, m1, r1, h1⟩
  cases r1 with
  | tup h n nv z r => exact ⟨_, rfl, ⟨_, .inl h⟩, h1 _ μ1 H1 .refl m1 (itd_tup (.inl ⟨h, n, nv⟩) z r)⟩
  | tupK h z r => exact ⟨_, rfl, ⟨_, .inr h⟩, h1 _ μ1 H1 .refl m1 (itd_tup (.inr h) z r)⟩
  | _ => exact h1.elim
/-- over a text, sign by sign -/
def signs (x : Str) : List D := x.cps.toList.map fun c => .str ⟨#[c]⟩
def iStr' (fe : SE) : SL := fun ρ M => (fe ρ M).bind fun d M1 => match d with
  | .str x => .ok (signs x) M1
  | _ => .bad
theorem di_str (he : DE X Z W e fe) : DI X Z W tg e (iStr' fe) := by
  refine PI.imp (pi_str he) fun σ H Q ⟨ρ, M, μ, S, m, q⟩ => ⟨ρ, M, μ, S, m, ResG.imp (ResG.bind q) ?_⟩
  rintro v H1 ⟨d, M1, μ1, e1, m1, r1, h1⟩
  cases r1 with
  | str x hx =>
    refine ⟨x, rfl, h1 _ μ1 H1 .refl m1 ⟨?_, fun μ' H' e i hi => ?_, fun μ' H' e => ?_, fun μ' H' e i y H'' hy av' M m ha d hd => ?_⟩⟩
    · simpa [signs, Str.length] using hx
    · simpa [signs, Its] using hi
    · simp [signs, Its]
    · obtain ⟨rfl, c, hc, rfl⟩ := hy
      have e2 : x.cps.toList[i]? = some c := by simpa using hc
      simp only [signs, List.getElem?_map, e2, Option.map_some, Option.some.injEq] at hd
      subst hd
      refine ⟨.refl, m, .str _ ?_⟩
      show 1 ≤ sizeLine
      decide
  | _ => exact h1.elim
/-- over range(n), range(i, j) -/
def rngD (i : Int) (n : Nat) : List D := (List.range n).map fun k => .int (i + (k : Nat))
def iRange1 (fs : List SE) : SL := fun ρ M => (aSeq fs ρ M).bind fun ds M1 => match ds with
  | [.int j] => if -4611686018427387904 ≤ j ∧ j ≤ 16777216 then .ok (rngD 0 j.toNat) M1 else .bad
  | _ => .bad
theorem itd_range {i : Int} {n : Nat} (hn : n ≤ sizeLine) : ItD K (rngD i n) μ av H1 (Itr i n) where
  len := by simpa [rngD] using hn
  go := fun μ' H' e k hk => by simpa [rngD, Itr] using hk
  stop := fun μ' H' e => by simp [rngD, Itr]
  yld := fun μ' H' e k x H'' y av' M m ha d hd => by
    obtain ⟨rfl, rfl⟩ := y
    simp only [rngD, List.getElem?_map] at hd
    cases q : (List.range n)[k]? with
    | none => rw [q] at hd; cases hd
    | some k' =>
      rw [q] at hd
      have : k' = k := by
        rw [List.getElem?_eq_some_iff] at q
        obtain ⟨h, e⟩ := q
        simpa using e.symm
      subst this
      simp only [Option.map_some, Option.some.injEq] at hd
      subst hd
      exact ⟨.refl, m, .int _⟩
theorem di_range1 {a : Expr} (hg : Gl X "range") (hm : X.mg "range" = none) (ha : BA X Z W [a] (aSeq fs)) (hs : starEach [a] X.env = [(false, eval a X.env)] := by rfl) : DI X Z W tg (.Call (.Name "range" p) [a] [] pos) (iRange1 fs) := by
  refine PI.imp (pi_range1 hg hm ha hs) fun σ H Q ⟨ρ, M, μ, S, m, q⟩ => ⟨ρ, M, μ, S, m, ResG.imp (ResG.bind q) ?_⟩
  rintro vs H1 ⟨ds, M1, μ1, e1, m1, r1, h1⟩
  cases r1 with
  | nil => exact h1.elim
  | cons r rr =>
    rename_i d v ds vs
    cases rr with
    | cons _ _ => cases d <;> exact h1.elim
    | nil =>
      cases d with
      | int j =>
        simp only at h1
        split at h1
        · rename_i hj
          have hs : sizeLine = 16777216 := sizeLine_eq
          exact ⟨j, by rw [r.int_inv], by omega, by omega, h1 _ μ1 H1 .refl m1 (itd_range (by omega))⟩
        · exact h1.elim
      | _ => exact h1.elim

/-! ### for -/
def forL (bind : Sl → D → Option Sl) (body : SS) : List D → SS
  | [], ρ, M => .nx ρ M
  | x :: xs, ρ, M => match bind ρ x with
    | none => .bad
    | some ρ1 => match body ρ1 M with
      | .nx ρ2 M2 => forL bind body xs ρ2 M2
      | .ct ρ2 M2 => forL bind body xs ρ2 M2
      | .bk ρ2 M2 => .nx ρ2 M2
      | r => r
def sFor (fl : SL) (bind : Sl → D → Option Sl) (body : SS) : SS := fun ρ M => match fl ρ M with
  | .ok l M1 => forL bind body l ρ M1
  | .exc c fs M1 => .exc c fs ρ M1
  | .bad => .bad
theorem ds_for {iter : Expr} {body : List Stmt} {fl : SL} {bind : Sl → D → Option Sl} {fb : SS} (hp : PassesOwn (model X.prog X.w) X.A X.env X.xe) (hc : X.calm = true) (hi : DI X Z W tg iter fl) (hg : TgD X Z tg bind) (hb : DSs X Z W body fb)
    (hs : ∀ x, foldedSetIterable iter X.env x = pure x := by intro _; rfl) : DS X Z W (.For tg iter body [] pos) (sFor fl bind fb) := by
  obtain ⟨g, vs, hg, kg⟩ := hg.ex
  refine PS.imp (ps_for hp hc hi hg hb hs) fun Dn σ H ⟨ρ, M, μ, S, m, h⟩ => ⟨ρ, M, μ, S, m, ?_⟩
  unfold sFor at h
  cases q : fl ρ M with
  | exc c fs M1 => rw [q] at h; exact fun cls dx μ' H' e m' x => SResG.exc h S e m' x
  | bad => rw [q] at h; exact h.elim
  | ok l M1 =>
    rw [q] at h
    intro J μ1 H1 e1 m1 I
    have h : SResG X Z W μ1 H1 (ownA ρ σ) (forL bind fb l ρ M1) Dn := SResG.later (wr := ownA ρ σ) h (e1.mono fun _ z => z.elim) fun a z => .inl z
    refine ⟨fun i m σ2 H2 => m = l.length - i ∧ i ≤ l.length ∧ ∃ ρ2 M2 μ2, SRel X.K X.mg Z μ2 H2 ρ2 σ2 ∧ MemRel X.K μ2 (avS Z.om ρ2 σ2) H2 M2 ∧ Ext μ1 (ownA ρ σ) H1 μ2 H2 ∧ (∀ a, ownA ρ2 σ2 a → ownA ρ σ a ∨ Nil H1 a) ∧
      SResG X Z W μ1 H1 (ownA ρ σ) (forL bind fb (l.drop i) ρ2 M2) Dn, ⟨l.length, by simp, Nat.zero_le _, ρ, M1, μ1, S.up e1, m1, .refl, fun a z => .inl z, by simpa using h⟩, ?_⟩
    rintro i _ σ2 H2 ⟨rfl, hi, ρ2, M2, μ2, S2, m2, e2, o2, h2⟩
    have e2a : Ext μ1 (avS Z.om ρ σ) H1 μ2 H2 := e2.mono fun a z => .inr z
    have av2 : ∀ a, avS Z.om ρ2 σ2 a → avS Z.om ρ σ a ∨ Nil H1 a := fun a z => by
      rcases z with z | z
      · exact .inl (.inl z)
      · rcases o2 a z with z | z
        · exact .inl (.inr z)
        · exact .inr z
    by_cases hlt : i < l.length
    · right
      refine ⟨I.go μ2 H2 e2a i hlt, ?_⟩
      have hd : l.drop i = l[i] :: l.drop (i + 1) := List.drop_eq_getElem_cons hlt
      rw [hd] at h2
      unfold forL at h2
      cases qb : bind ρ2 l[i] with
      | none => simp [qb] at h2; exact h2.elim
      | some ρ3 =>
        simp only [qb] at h2
        refine ⟨fun σ' H' => ∃ ρ' M' μ', SRel X.K X.mg Z μ' H' ρ' σ' ∧ MemRel X.K μ' (avS Z.om ρ' σ') H' M' ∧ Ext μ1 (ownA ρ σ) H1 μ' H' ∧ (∀ a, ownA ρ' σ' a → ownA ρ σ a ∨ Nil H1 a) ∧
          SResG X Z W μ1 H1 (ownA ρ σ) (forL bind fb (l.drop (i + 1)) ρ' M') Dn, fun σ' H' ⟨ρ', M', μ', z1, z2, z3, z4, z5⟩ => ⟨l.length - (i + 1), by omega, rfl, hlt, ρ', M', μ', z1, z2, z3, z4, z5⟩, fun x H' y => ?_⟩
        obtain ⟨e3, m3, r3⟩ := I.yld μ2 H2 e2a i x H' y _ M2 m2 av2 l[i] (List.getElem?_eq_getElem hlt)
        refine kg μ2 H' ρ2 σ2 l[i] x ρ3 _ (S2.up e3) r3 qb fun σ3 S3 o3 _ _ => ?_
        have e4 : Ext μ1 (ownA ρ σ) H1 μ2 H' := e2.trans e3 fun _ z => z.elim
        have o4 : ∀ a, ownA ρ3 σ3 a → ownA ρ σ a ∨ Nil H1 a := fun a z => o2 a (o3 a z)
        refine ⟨ρ3, M2, μ2, S3, m3.avm (avS_own o3), ?_⟩
        cases qf : fb ρ3 M2 with
        | nx ρ4 M4 =>
          simp only [qf] at h2
          exact fun σ4 μ4 H4 e o m s => ⟨ρ4, M4, μ4, s, m, e4.trans e o4, fun a z => by
            rcases o a z with z | z
            · exact o4 a z
            · exact .inr (e4.dom a z), h2⟩
        | ct ρ4 M4 =>
          simp only [qf] at h2
          exact fun σ4 μ4 H4 e o m s => ⟨ρ4, M4, μ4, s, m, e4.trans e o4, fun a z => by
            rcases o a z with z | z
            · exact o4 a z
            · exact .inr (e4.dom a z), h2⟩
        | bk ρ4 M4 =>
          simp only [qf] at h2
          exact SResG.later (r := .nx ρ4 M4) h2 e4 o4
        | rt d M4 =>
          simp only [qf] at h2
          exact SResG.later (r := .rt d M4) h2 e4 o4
        | exc c fs ρ4 M4 =>
          simp only [qf] at h2
          exact SResG.later (r := .exc c fs ρ4 M4) h2 e4 o4
        | bad =>
          simp only [qf] at h2
          exact h2.elim
    · left
      have e : i = l.length := by omega
      subst e
      refine ⟨I.stop μ2 H2 e2a, ?_⟩
      rw [List.drop_length] at h2
      exact h2 σ2 μ2 H2 e2 o2 m2 S2

/-! ### list comprehensions -/
def wipeR (ρ : Sl) : List Nat → Sl
  | [] => ρ
  | v :: vs => (wipeR ρ vs).set v .emp
theorem SRel.wipe (S : SRel X.K X.mg Z μ H ρ σ) : ∀ vs : List Nat, SRel X.K X.mg Z μ H (wipeR ρ vs) (L2.wipe σ vs) ∧ ∀ a, ownA (wipeR ρ vs) (L2.wipe σ vs) a → ownA ρ σ a
  | [] => ⟨S, fun a z => z⟩
  | v :: vs => by
    obtain ⟨S1, o1⟩ := SRel.wipe S vs
    obtain ⟨S2, o2⟩ := S1.setE (i := v) (u := none)
    exact ⟨S2, fun a z => o1 a (o2 a z)⟩
def W0 : WX := fun _ _ _ _ => False
/-- one turn after another: bind, tests, the element -/
def compL (bind : Sl → D → Option Sl) (tst : SB) (elt : SE) (ρ : Sl) : List D → List D → Mem → R (List D)
  | [], acc, M => .ok acc M
  | x :: xs, acc, M => match bind ρ x with
    | none => .bad
    | some ρ1 => match tst ρ1 M with
      | .ok true M1 => (match elt ρ1 M1 with
        | .ok y M2 => compL bind tst elt ρ xs (acc ++ [y]) M2
        | _ => .bad)
      | .ok false M1 => compL bind tst elt ρ xs acc M1
      | _ => .bad
/-- the slots hold no list of the frame's own -/
def noOwn (ρ : Sl) (vs : List Nat) : Bool := vs.all fun i => match ρ[i]? with
  | some (.own _) => false
  | _ => true
def eComp (fl : SL) (bind : Sl → D → Option Sl) (tst : SB) (elt : SE) (vs : List Nat) : SL := fun ρ M => (fl ρ M).bind fun l M1 => if noOwn ρ vs = true then compL bind tst elt (wipeR ρ vs) l [] M1 else .bad
abbrev Y.more (Z : Y) (om : Av) : Y := { Z with om := om }
def bYes : SB := fun _ M => .ok true M
def DTs (X : Cx) [Tbs X.K] (Z : Y) (W : WX) (ifs : List Expr) (f : SB) : Prop := PTs X ifs (tG relT X Z W f)
theorem dts_nil : DTs X Z W [] bYes := ⟨fun pins s σ H Q I ⟨ρ, M, μ, S, m, q⟩ => (pts_nil (X := X)).run pins s σ H Q I (q true μ H .refl m rfl)⟩
theorem dts_one {c : Expr} {f : SB} (h : DT X Z W c f) : DTs X Z W [c] f := pts_one h
theorem wipe_get {σ : L2.St} : ∀ {vs : List Nat} {j : Nat}, (L2.wipe σ vs)[j]? = if j ∈ vs then (if j < σ.length then some none else none) else σ[j]?
  | [], j => by simp [L2.wipe]
  | v :: vs, j => by
    unfold L2.wipe
    rw [List.getElem?_set]
    by_cases e : v = j
    · subst e
      rw [if_pos rfl, L2.wipe_length]
      simp
    · rw [if_neg e, wipe_get]
      have : (j ∈ v :: vs) ↔ j ∈ vs := by simp [Ne.symm e]
      simp only [this]
theorem wipe_same {σ σ' : L2.St} {vs : List Nat} (hl : σ'.length = σ.length) (h : ∀ j, j ∉ vs → σ'[j]? = σ[j]?) : L2.wipe σ' vs = L2.wipe σ vs := by
  apply List.ext_getElem?
  intro j
  rw [wipe_get, wipe_get, hl]
  by_cases e : j ∈ vs
  · rw [if_pos e, if_pos e]
  · rw [if_neg e, if_neg e, h j e]
theorem wipe_wipe {σ : L2.St} (vs : List Nat) : L2.wipe (L2.wipe σ vs) vs = L2.wipe σ vs := by
  apply List.ext_getElem?
  intro j
  rw [wipe_get, L2.wipe_length]
  by_cases e : j ∈ vs
  · rw [if_pos e, wipe_get, if_pos e]
  · rw [if_neg e]
theorem SRel.more (S : SRel X.K X.mg Z μ H ρ σ) (e : Ext μ No H μ' H') {L : Addr} (hL : Nil H L) : SRel X.K X.mg (Z.more (avP Z.om L)) μ' H' ρ σ := by
  have ha : ∀ b, avS (avP Z.om L) ρ σ b → avS Z.om ρ σ b ∨ Nil H b := fun b z => by
    rcases z with (z | z) | z
    · exact .inl (.inl z)
    · exact .inr (z ▸ hL)
    · exact .inl (.inr z)
  refine ⟨S.len, S.base.trans0 e, S.ownN, fun j d h => ?_, fun j l h => ?_, S.inj, S.thk, fun j c fs h => ?_⟩
  · obtain ⟨v, e1, r⟩ := S.val j d h
    exact ⟨v, e1, r.mono e (fun _ z => z.elim) ha⟩
  · obtain ⟨b, ys, e1, e2, z, r, n, no⟩ := S.own j l h
    refine ⟨b, ys, e1, e.keep _ _ n (fun z => z) e2 (fun ps z => by cases z), z, r.mono e (fun _ z => z.elim) ha, e.out e2 n, fun z => ?_⟩
    rcases z with z | z
    · exact no z
    · exact (show Nil H b from z ▸ hL).lst e2
  · obtain ⟨b, cls, dx, e1, e2, r⟩ := S.hnd j c fs h
    exact ⟨b, cls, dx, e1, e2, r.mono e (fun _ z => z.elim) ha⟩
theorem wipeR_get {ρ : Sl} : ∀ {vs : List Nat} {j : Nat}, j ∉ vs → (wipeR ρ vs)[j]? = ρ[j]?
  | [], j, _ => rfl
  | v :: vs, j, h => by
    simp only [List.mem_cons, not_or] at h
    unfold wipeR
    rw [setget (Ne.symm h.1), wipeR_get h.2]
theorem noOwn_not {ρ : Sl} {vs : List Nat} (h : noOwn ρ vs = true) {i : Nat} {l : List D} (hi : ρ[i]? = some (SV.own l)) : i ∉ vs := fun hm => by
  have := List.all_eq_true.mp h i hm
  rw [hi] at this
  cases this
theorem df_comp {elt iter : Expr} {ifs : List Expr} {scope : Scope} {own : List (Str × Nat)} {g : TG} {bind : Sl → D → Option Sl} {fl : SL} {ft : SB} {felt : SE} {vs : List Nat} (hc : X.calm = true) (hN : X.N.Nodup) (hi : DI X Z W tg iter fl) (ok : BlkOk X.N X.env.scope scope own)
    (hg : ∀ (s : Shared) (H : Hp) (C : Addr) (cl : List (Str × Addr)) (fp : List Addr), PG (X.blk s H scope (compEnvC scope cl C X.env) fp) tg g) (sem : ∀ om, TgSem X.K X.mg (Z.more om) g bind vs) (hvs : ∀ j ∈ vs, j ∈ own.map (·.2))
    (ht : ∀ (om : Av) (s : Shared) (H : Hp) (C : Addr) (cl : List (Str × Addr)) (fp : List Addr), DTs (X.blk s H scope (compEnvC scope cl C X.env) fp) (Z.more om) W0 ifs ft)
    (he : ∀ (om : Av) (s : Shared) (H : Hp) (C : Addr) (cl : List (Str × Addr)) (fp : List Addr), DE (X.blk s H scope (compEnvC scope cl C X.env) fp) (Z.more om) W0 elt felt) (hs : ∀ x, foldedSetIterable iter X.env x = pure x := by intro _; rfl) :
    DF X Z W (.ListComp elt [⟨tg, iter, ifs, 0⟩] scope pos) (eComp fl bind ft felt (own.map (·.2))) := by
  have hT : ∀ (s : Shared) (H : Hp) (C : Addr) (cl : List (Str × Addr)) (fp : List Addr), PTs (X.blk s H scope (compEnvC scope cl C X.env) fp) ifs (fun σ H Q => ∃ om, tG relT X (Z.more om) W0 ft σ H Q) := fun s H C cl fp =>
    ⟨fun pins s1 σ1 H1 Q I ⟨om, q⟩ => (ht om s H C cl fp).run pins s1 σ1 H1 Q I q⟩
  have hE : ∀ (s : Shared) (H : Hp) (C : Addr) (cl : List (Str × Addr)) (fp : List Addr), PE (X.blk s H scope (compEnvC scope cl C X.env) fp) elt (fun σ H Q => ∃ om, tG relD X (Z.more om) W0 felt σ H Q) := fun s H C cl fp =>
    ⟨fun pins s1 σ1 H1 Q I ⟨om, q⟩ => (he om s H C cl fp).run pins s1 σ1 H1 Q I q⟩
  refine PE.imp (pe_lc hc hN hi ok hg hT hE hs) fun σ H Q ⟨ρ, M, μ, S, m, h⟩ => ⟨ρ, M, μ, S, m, ?_⟩
  unfold eComp at h
  cases q : fl ρ M with
  | exc c fs M1 => rw [q] at h; exact h
  | bad => rw [q] at h; exact h.elim
  | ok l M1 =>
    rw [q] at h
    intro J μ1 H1 e1 m1 I L hL
    have h : ResF X W (avS Z.om ρ σ) μ H σ (if noOwn ρ (own.map (·.2)) = true then compL bind ft felt (wipeR ρ (own.map (·.2))) l [] M1 else .bad) Q := h
    by_cases hno : noOwn ρ (own.map (·.2)) = true
    rotate_left
    · rw [if_neg hno] at h; exact h.elim
    rw [if_pos hno] at h
    obtain ⟨Sw, ow⟩ := S.wipe (own.map (·.2))
    have avw : ∀ a, avS Z.om (wipeR ρ (own.map (·.2))) (L2.wipe σ (own.map (·.2))) a → avS Z.om ρ σ a := fun a z => avS_own ow a z
    have hLav : ¬ avS Z.om ρ σ L := fun z => m1.avs L z (.of hL)
    have eL : Ext μ1 No H1 μ1 (upd H1 L (.lst [])) := .new hL
    refine ⟨fun i k H2 => k = l.length - i ∧ i ≤ l.length ∧ ∃ M2 μ2 acc ys, H2 L = some (.lst ys) ∧ ys.length ≤ i ∧ DRels X.K μ2 (avP (avS Z.om ρ σ) L) H2 acc ys ∧ MemRel X.K μ2 (avP (avS Z.om ρ σ) L) H2 M2 ∧ Ext μ1 No H1 μ2 H2 ∧ L ∉ μ2 ∧
      ResF X W (avS Z.om ρ σ) μ H σ (compL bind ft felt (wipeR ρ (own.map (·.2))) (l.drop i) acc M2) Q, ⟨l.length, by simp, Nat.zero_le _, M1, μ1, [], [], upd_same, Nat.le_refl _, .nil, (fresh_lst (l := []) .refl m1 hL .nil).2.2.2.2.1, eL, m1.fresh hL, by simpa using h⟩, ?_⟩
    rintro i _ H2 ⟨rfl, hi, M2, μ2, acc, ys, hy, hyl, racc, m2, e2, nL, h2⟩
    have e2a : Ext μ1 (avS Z.om ρ σ) H1 μ2 H2 := e2.mono fun _ z => z.elim
    have m2' : MemRel X.K μ2 (avS Z.om ρ σ) H2 M2 := m2.avm fun a z => .inl z
    by_cases hlt : i < l.length
    · right
      refine ⟨I.go μ2 H2 e2a i hlt, ?_⟩
      have hd : l.drop i = l[i] :: l.drop (i + 1) := List.drop_eq_getElem_cons hlt
      rw [hd] at h2
      unfold compL at h2
      cases qb : bind (wipeR ρ (own.map (·.2))) l[i] with
      | none => simp [qb] at h2; exact h2.elim
      | some ρ3 =>
        simp only [qb] at h2
        refine ⟨fun H3 => ∃ M3 μ3 acc ys, H3 L = some (.lst ys) ∧ ys.length ≤ i + 1 ∧ DRels X.K μ3 (avP (avS Z.om ρ σ) L) H3 acc ys ∧ MemRel X.K μ3 (avP (avS Z.om ρ σ) L) H3 M3 ∧ Ext μ1 No H1 μ3 H3 ∧ L ∉ μ3 ∧
          ResF X W (avS Z.om ρ σ) μ H σ (compL bind ft felt (wipeR ρ (own.map (·.2))) (l.drop (i + 1)) acc M3) Q, fun H3 ⟨M3, μ3, acc, ys, z1, z2, z3, z4, z5, z6, z7⟩ => ⟨l.length - (i + 1), by omega, rfl, hlt, M3, μ3, acc, ys, z1, z2, z3, z4, z5, z6, z7⟩, fun x H3 y => ?_⟩
        have avI : ∀ a, avP (avS Z.om ρ σ) L a → avS Z.om ρ σ a ∨ Nil H1 a := fun a z => by
          rcases z with z | z
          · exact .inl z
          · exact .inr (z ▸ .of hL)
        obtain ⟨e3, m3, r3⟩ := I.yld μ2 H2 e2a i x H3 y _ M2 m2 avI l[i] (List.getElem?_eq_getElem hlt)
        have hL0 : Nil H L := e1.dom L (.of hL)
        have exx : Ext μ No H μ2 H3 := (e1.trans0 e2).trans0 e3
        obtain ⟨Sw3, ow3⟩ := (S.more exx hL0).wipe (own.map (·.2))
        have avW : ∀ a, avS (avP Z.om L) (wipeR ρ (own.map (·.2))) (L2.wipe σ (own.map (·.2))) a → avP (avS Z.om ρ σ) L a := fun a z => by
          rcases z with (z | z) | z
          · exact .inl (.inl z)
          · exact .inr z
          · exact .inl (.inr (ow3 a z))
        refine sem (avP Z.om L) μ2 H3 _ _ l[i] x ρ3 _ Sw3 (r3.avm fun a z => .inl (avW a z)) qb fun σ3 S3 o3 l3 k3 => ?_
        have ws : L2.wipe σ3 (own.map (·.2)) = L2.wipe σ (own.map (·.2)) := by
          rw [wipe_same l3 fun j hj => (k3 j fun z => hj (hvs j z)).1, wipe_wipe]
        have av3 : ∀ a, avS (avP Z.om L) ρ3 σ3 a → avP (avS Z.om ρ σ) L a := fun a z => avW a (avS_own (Z := Z.more (avP Z.om L)) o3 a z)
        have av3' : ∀ a, avP (avS Z.om ρ σ) L a → avS (avP Z.om L) ρ3 σ3 a := fun a z => by
          rcases z with (z | ⟨j, l', q1, q2⟩) | z
          · exact .inl (.inl z)
          · have hj := noOwn_not hno q1
            have hj' : j ∉ vs := fun z => hj (hvs j z)
            refine .inr ⟨j, l', ?_, ?_⟩
            · rw [(k3 j hj').2, wipeR_get hj, q1]
            · rw [(k3 j hj').1, wipe_get, if_neg hj, q2]
          · exact .inl (.inr z)
        refine ⟨ws, avP Z.om L, ρ3, M2, μ2, S3, m3.avm av3, ?_⟩
        cases qt : ft ρ3 M2 with
        | exc c fs M3 => simp only [qt] at h2; exact h2.elim
        | bad => simp only [qt] at h2; exact h2.elim
        | ok b M3 =>
          rintro b' μ4 H4 e4 m4 rfl
          have hy4 : H4 L = some (.lst ys) := (e3.trans0 e4).keep _ _ nL (fun z => z) hy fun ps z => by cases z
          cases b with
          | false =>
            simp only [qt] at h2
            exact ⟨M3, μ4, acc, ys, hy4, by omega, racc.up (e3.trans0 e4), m4.avm av3', (e2.trans0 e3).trans0 e4, (e3.trans0 e4).out hy nL, h2⟩
          | true =>
            simp only [qt] at h2
            refine ⟨avP Z.om L, ρ3, M3, μ4, S3.up e4, m4, ?_⟩
            cases qe : felt ρ3 M3 with
            | exc c fs M4 => simp only [qe] at h2; exact h2.elim
            | bad => simp only [qe] at h2; exact h2.elim
            | ok y M4 =>
              simp only [qe] at h2
              intro v μ5 H5 e5 m5 r5
              have e35 := (e3.trans0 e4).trans0 e5
              have hy5 : H5 L = some (.lst ys) := e35.keep _ _ nL (fun z => z) hy fun ps z => by cases z
              have nL5 := e35.out hy nL
              have m5' : MemRel X.K μ5 (avP (avS Z.om ρ σ) L) H5 M4 := m5.avm av3'
              have exL : Ext μ5 (fun a => a = L) H5 μ5 (upd H5 L (.lst (ys ++ [v]))) := ⟨⟨[], by simp, by simp⟩, fun b o _ nw q _ => by
                rw [upd_ne nw]; exact q, fun b q => by
                by_cases z : b = L
                · exact ((show Nil _ L from z ▸ q).lst upd_same).elim
                · exact fun o q' => q o (by rw [upd_ne z]; exact q')⟩
              have wL : ∀ a, a = L → avP (avS Z.om ρ σ) L a := fun a z => .inr z
              have hlen := I.len
              refine ⟨ys, hy5, by omega, M4, μ5, acc ++ [y], ys ++ [v], upd_same, by simp; omega, ((racc.up e35).append (.one (r5.avm fun a z => .inl (av3' a z)))).mono exL wL (fun a z => .inl z), ?_, ?_, nL5, h2⟩
              · refine m5'.mono exL (fun b hb o q => ?_) wL (fun a z => .inl z) (fun a z => exL.there (m5'.avs a z)) fun q hq => tab_wr hy5 _ _ (m5'.tab q hq)
                rw [upd_ne (fun z : b = L => nL5 (z ▸ hb))]; exact q
              · have e25 := e2.trans0 e35
                refine ⟨e25.pre, fun a o n w q t => ?_, fun a q => e25.dom a (exL.dom a q)⟩
                rw [upd_ne (fun z : a = L => by rw [z, hL] at q; cases q)]
                exact e25.keep a o n w q t
    · left
      have e : i = l.length := by omega
      subst e
      refine ⟨I.stop μ2 H2 e2a, ?_⟩
      rw [List.drop_length] at h2
      exact h2 L ys μ2 H2 (e1.trans0 e2) (e1.dom L (.of hL)) hy (Nat.le_trans hyl I.len) nL hLav m2 racc
end
end DD

set_option Elab.async false
set_option linter.all false
set_option autoImplicit false
set_option maxRecDepth 100000
set_option maxHeartbeats 2000000
/-! DD8: try with several clauses, named or not. -/
namespace DD
open PySem PySem.Spec L2

/-- a clause: its class, the slot of its name, its suite's reading -/
structure Cl where
  cls : Value
  slot : Option Nat
  suite : Addr → Value → Option Addr → TS
def Cl.inn (q : Cl) (σ : L2.St) (a : Addr) : L2.St := match q.slot with
  | some i => σ.set i (some (.ref a))
  | none => σ
def Cl.out (q : Cl) (σ : L2.St) : L2.St := match q.slot with
  | some i => σ.set i none
  | none => σ
def Cl.ends (q : Cl) (D : Ends) : Ends := { nx := fun σ H => D.nx (q.out σ) H, rt := D.rt, bk := fun σ H => D.bk (q.out σ) H, ct := fun σ H => D.ct (q.out σ) H }
/-- what the clauses want of an exception, one clause after another -/
def wCl (K : PySem.W.Frag) (Wo : WX) (D : Ends) : List Cl → WX
  | [] => Wo
  | q :: qs => fun cls dx σ H => ∃ yes, PySem.W.exmOne K cls q.cls = some yes ∧
    (yes = true → ∀ a, H a = none → q.suite a cls dx (q.ends D) (q.inn σ a) H) ∧ (yes = false → wCl K Wo D qs cls dx σ H)
/-- the clauses as they are written -/
inductive Hds (X : Cx) [Tbs X.K] : List ExceptHandler → List Cl → Prop
  | nil : Hds X [] []
  | plain {x : Str} {c : Value} {t : Addr → Value → Option Addr → TS} {s0 : Stmt} {ss : List Stmt} {p1 p2 : Pos} {hs : List ExceptHandler} {qs : List Cl} : Names X x c →
      (∀ (a : Addr) (o : Obj) (cls : Value) (dx : Option Addr) (pn : List (Addr × Obj)), Zc cls dx o → (∃ vs, o.data = .fields vs) → PSs (X.suite a ((a, o) :: pn)) (s0 :: ss) (t a cls dx)) → Hds X hs qs →
      Hds X (.ExceptHandler (some (.Name x p1)) none (s0 :: ss) p2 :: hs) (⟨c, none, t⟩ :: qs)
  | named {x n : Str} {c : Value} {i : Nat} {t : Addr → Value → Option Addr → TS} {s0 : Stmt} {ss : List Stmt} {p1 p2 : Pos} {hs : List ExceptHandler} {qs : List Cl} : Names X x c → X.N[i]? = some n → X.env.kindOf n = some .local →
      (∀ (a : Addr) (o : Obj) (cls : Value) (dx : Option Addr) (pn : List (Addr × Obj)), Zc cls dx o → (∃ vs, o.data = .fields vs) → PSs (X.suite a ((a, o) :: pn)) (s0 :: ss) (t a cls dx)) → Hds X hs qs →
      Hds X (.ExceptHandler (some (.Name x p1)) (some n) (s0 :: ss) p2 :: hs) (⟨c, some i, t⟩ :: qs)

section
variable {X : Cx} [Tbs X.K] {pins : List (Addr × Obj)} {σ : L2.St} {H : Hp} {sI s' : Shared} {B h3 : Heap} {a : Addr} {cls : Value} {dx : Option Addr} {Wo : WX} {D : Ends}
/-- a caught exception on the ground -/
structure Down (X : Cx) [Tbs X.K] (pins : List (Addr × Obj)) (σ : L2.St) (H : Hp) (sI s' : Shared) (B : Heap) (a : Addr) (cls : Value) (dx : Option Addr) (h3 : Heap) : Prop where
  inv : Inv X pins σ H sI
  nb : ∀ b o, sI.heap.get? b = some o → b ∉ frs X.stack → B.get? b = some o
  fl : HandSPX.FlyingZ B (X.env :: X.outer) a (Zc cls dx) h3
  up : sI.heap.UpToSlots h3
  na : H a = none
  os : s'.os = sI.os
  ag : PyProof.Rows.AllBare s'.gens
theorem Down.here (q : Down X pins σ H sI s' B a cls dx h3) : Inv X pins σ H { s' with heap := h3 } := q.inv.landed q.nb q.fl.1 q.up q.os q.ag
theorem Down.off (q : Down X pins σ H sI s' B a cls dx h3) (frm : X.env.frame = some X.env.locals) : a ≠ X.env.locals ∧ a ∉ X.fs := by
  obtain ⟨o, vs, ho, _, hd⟩ := q.fl.there
  have no : a ∉ frs (X.env :: X.outer) := fun hm => by
    obtain ⟨_, o2, ho2, hn⟩ := q.fl.2.2.1.mem hm
    cases ho.symm.trans ho2
    exact hn _ hd
  refine ⟨fun z => no ?_, fun hm => no ?_⟩
  · exact List.mem_filterMap.mpr ⟨X.env, List.mem_cons_self, by rw [frm, z]⟩
  · obtain ⟨env, he, z⟩ := List.mem_filterMap.mp hm
    exact List.mem_filterMap.mpr ⟨env, List.mem_cons_of_mem _ he, z⟩
theorem Down.suite (q : Down X pins σ H sI s' B a cls dx h3) (frm : X.env.frame = some X.env.locals) : ∃ o, Zc cls dx o ∧ (∃ vs, o.data = .fields vs) ∧ Inv (X.suite a ((a, o) :: (X.pn ++ pins))) [] σ H { s' with heap := h3 } := by
  obtain ⟨o, vs, ho, hz, hd⟩ := q.fl.there
  obtain ⟨n1, n2⟩ := q.off frm
  exact ⟨o, hz, ⟨vs, hd⟩, q.here.suite ho hd q.na n1 n2⟩
/-- the clauses are asked -/
theorem Down.asked (stk : X.stack = X.env :: X.outer) (frm : X.env.frame = some X.env.locals) (hN : X.N.Nodup) (tk : Takes X Wo) {hs : List ExceptHandler} {qs : List Cl} (hh : Hds X hs qs) (q : Down X pins σ H sI s' B a cls dx h3)
    (w : wCl X.K Wo D qs cls dx σ H) : wpAny (model X.prog X.w) X.A (handleBy (.ref a) X.env hs) (SP X pins D) X.xe { s' with heap := h3 } := by
  have ok := q.inv.ok
  have ask : ∀ {x : Str} {c : Value} {p : Pos} {Q : Value → Shared → Prop} {E : Value → Shared → Prop}, Names X x c → Q c { s' with heap := h3 } → wpAny (model X.prog X.w) (X.A.mark (some (.ref a))) (eval (.Name x p) X.env) Q E { s' with heap := h3 } := fun {x c p Q E} hx hq => by
    obtain ⟨o, hz, hd, S⟩ := q.suite frm
    obtain ⟨h1, h2, h3 | ⟨h3, h4, h5⟩⟩ := hx
    · exact ld_glob (X := X.suite a ((a, o) :: (X.pn ++ pins))) S h1 h3 hq h2
    · exact ld_blt (X := X.suite a ((a, o) :: (X.pn ++ pins))) S h1 h3 h4 hq h5 h2
  have looks : ∀ {c : Value} {yes : Bool}, PySem.W.exmOne X.K cls c = some yes → PySem.W.Looks (model X.prog X.w) h3 (PySem.excMatches (.ref a) c) yes := fun {c yes} e => by
    obtain ⟨o, vs, ho, hz, hd⟩ := q.fl.there
    exact PySem.W.exm_one (M := model X.prog X.w) q.here.kIn (fun A Q E s k z => wpAny_typeOf_ref (k _ _ ho) (by rw [hz.1]; exact z)) e
  /- the suite runs on the ground that is left -/
  have lands : ∀ {Q : Unit → Shared → Prop} {E : Value → Shared → Prop}, (∀ h4, Down X pins σ H sI s' B a cls dx h4 → Q () { s' with heap := h4 }) → wpAny (model X.prog X.w) (X.A.mark (some (.ref a))) (setFlight (.ref a) none) Q E { s' with heap := h3 } := fun {Q E} k =>
    HandSPX.lands_againZ q.fl fun h4 fl4 up4 => k h4 ⟨q.inv, q.nb, fl4, q.up.trans up4, q.na, q.os, q.ag⟩
  induction hh with
  | nil =>
    refine wpAny_handleBy_nil ?_
    obtain ⟨_, _, _, o, vs, T, _, _, ho, _, hd, h1, _⟩ := id q.fl
    unfold PySem.passOn
    refine wpAny_bind (wpAny_field ho hd h1 ?_)
    rw [if_neg (show ¬ ((Value.ref T == Value.none) = true) from by simp)]
    have go : wpAny (model X.prog X.w) X.A (setFlight (.ref a) X.env.frame) (fun _ s4 => wpAny (model X.prog X.w) X.A (throw (.ref a) : Sem Flow) (SP X pins D) X.xe s4) X.xe { s' with heap := h3 } := by
      rw [frm]
      refine HandSPX.setFlight_upZ q.fl fun h4 hh4 up4 => wpAny_throw (tk _ _ ?_)
      exact ⟨a, B, sI, pins, σ, H, cls, dx, rfl, q.inv, q.nb, q.up.trans up4, .inr (.inr (by rw [stk]; exact hh4)), q.na, q.os, q.ag, w⟩
    first
      | exact wpAny_bind (wpAny_pure (wpAny_bind go))
      | exact wpAny_bind go
  | @plain x c t s0 ss p1 p2 hs2 qs2 hx hsu r ih =>
    obtain ⟨yes, e, hyes, hno⟩ := w
    refine wpAny_handleBy_cons (codeAny_handlers_test ?_) (by intro z; cases z)
    refine ask hx ((looks e).here ?_)
    cases yes with
    | false => exact ih (hno rfl)
    | true =>
      refine codeAny_handlers_suite (lands fun h4 q4 => ?_)
      obtain ⟨o, hz, hd, S4⟩ := q4.suite frm
      refine wpAny_mono ((hsu a o cls dx (X.pn ++ pins) hz hd).run [] _ _ H _ S4 (hyes rfl a q4.na)) (fun f s6 z => ?_) fun _ _ z => z.elim
      cases f with
      | ret u => exact let ⟨v, σ6, H6, S6, r6, q6⟩ := z; ⟨v, σ6, H6, S6.unsuite ok, r6, q6⟩
      | _ => exact let ⟨σ6, H6, S6, q6⟩ := z; ⟨σ6, H6, S6.unsuite ok, q6⟩
  | @named x n c i t s0 ss p1 p2 hs2 qs2 hx hi hl hsu r ih =>
    obtain ⟨yes, e, hyes, hno⟩ := w
    refine wpAny_handleBy_cons (codeAny_handlers_test ?_) (by intro z; cases z)
    refine ask hx ((looks e).here ?_)
    cases yes with
    | false => exact ih (hno rfl)
    | true =>
      refine codeAny_handlers_suite_as (lands fun h4 q4 => ?_)
      obtain ⟨o, hz, hd, S4⟩ := q4.suite frm
      refine store_ok (X := X.suite a ((a, o) :: (X.pn ++ pins))) (v := .ref a) S4 hN hi (.inl hl) rfl (fun s5 S5 => ?_) (.inr hl)
      refine wpAny_mono ((hsu a o cls dx (X.pn ++ pins) hz hd).run [] s5 _ H _ S5 (hyes rfl a q4.na)) (fun f s6 z => ?_) fun _ _ z => z.elim
      cases f with
      | ret u => exact let ⟨v, σ6, H6, S6, r6, q6⟩ := z; gone_ok (S6.unsuite ok) hN hi hl fun s7 J7 => ⟨v, _, H6, J7, r6, q6⟩
      | _ => exact let ⟨σ6, H6, S6, q6⟩ := z; gone_ok (S6.unsuite ok) hN hi hl fun s7 J7 => ⟨_, H6, J7, q6⟩
theorem try_many {body : List Stmt} {hd0 : ExceptHandler} {hs : List ExceptHandler} {qs : List Cl} {pos : Pos} {tb : WX → TS} (stk : X.stack = X.env :: X.outer) (frm : X.env.frame = some X.env.locals) (hN : X.N.Nodup) (tk : Takes X Wo)
    (hb : ∀ (W : WX) (pn : List (Addr × Obj)) (xe : Value → Shared → Prop), Takes (X.tr pn xe) W → PassesOwn (model X.prog X.w) X.A X.env xe → PSs (X.tr pn xe) body (tb W)) (hh : Hds X (hd0 :: hs) qs) :
    PS X (.Try body (hd0 :: hs) [] [] pos) (fun D σ H => tb (wCl X.K Wo D qs) D σ H) := by
  refine ⟨fun pins s σ H D I h => wpAny_Try_except ?_⟩
  have fr : X.A.frames = some (X.env :: X.outer) := by rw [I.ok.frames, stk]
  let xe : Value → Shared → Prop := fun e s1 => wpAny (model X.prog X.w) X.A (noteFrame e X.env) (fun _ s2 => wpAny (model X.prog X.w) X.A (setFlight e none) (fun _ s3 => wpAny (model X.prog X.w) X.A (handleBy e X.env (hd0 :: hs)) (SP X pins D) X.xe s3) X.xe s2) X.xe s1
  have caught : Takes (X.tr (X.pn ++ pins) xe) (wCl X.K Wo D qs) := fun u s1 z => by
    obtain ⟨a, B, sI, pins', σ1, H1, cls, dx, rfl, J, nb, up, sky, na, os, ag, w⟩ := z
    rw [show (X.tr (X.pn ++ pins) xe).stack = X.env :: X.outer from stk] at sky
    exact Sky.land Zc.steady fr frm sky fun h3 fl3 up3 => Down.asked stk frm hN tk hh (q := ⟨J.ofTry I.ok, nb, fl3, up.trans up3, na, os, ag⟩) w
  refine wpAny_mono ((hb _ (X.pn ++ pins) xe caught PassesOwn.looking).run [] s σ H D (I.toTry _) h) (fun f s1 z => ?_) fun e s1 z => z
  cases f with
  | next => exact let ⟨σ1, H1, J, q⟩ := z; wpAny_execs_nil ⟨σ1, H1, J.ofTry I.ok, q⟩
  | ret u => exact let ⟨v, σ1, H1, J, r, q⟩ := z; ⟨v, σ1, H1, J.ofTry I.ok, r, q⟩
  | brk => exact let ⟨σ1, H1, J, q⟩ := z; ⟨σ1, H1, J.ofTry I.ok, q⟩
  | cont => exact let ⟨σ1, H1, J, q⟩ := z; ⟨σ1, H1, J.ofTry I.ok, q⟩
end
end DD

set_option Elab.async false
set_option linter.all false
set_option autoImplicit false
set_option maxRecDepth 100000
set_option maxHeartbeats 2000000
/-! DD9: a def by its body; raise; try; the exception in hand. -/
namespace DD
open PySem PySem.Spec L2

/-! ### a def by its body -/
def runB (k : Nat) (f : SS) : List D → Mem → R D := fun ds M => match f (ds.map SV.val ++ List.replicate k SV.emp) M with
  | .rt d M' => .ok d M'
  | .nx _ M' => .ok .non M'
  | .exc c fs _ M' => .exc c fs M'
  | _ => .bad
section
variable {P : Program} {w : World} {K : PySem.W.Frag} [Tbs K] {mg : Str → Option Value} {base : Heap}
theorem SRel.start {X : Cx} [Tbs X.K] {μ : List Addr} {om : Av} {H : Hp} {ds : List D} {vs : List V} {N : List Str} {k : Nat} {th : Option Addr} {hd : Option (Addr × Value × Option Addr)} (r : DRels X.K μ om H ds vs) (hk : N.length - vs.length = k) :
    SRel X.K X.mg ⟨om, th, hd, μ, H⟩ μ H (ds.map SV.val ++ List.replicate k SV.emp) (L2.start N vs) ∧ ∀ a, ¬ ownA (ds.map SV.val ++ List.replicate k SV.emp) (L2.start N vs) a := by
  have hl := r.length
  have at_ : ∀ (j : Nat) (sv : SV), (ds.map SV.val ++ List.replicate k SV.emp)[j]? = some sv → (∃ d, sv = .val d ∧ ds[j]? = some d ∧ j < ds.length) ∨ sv = .emp := fun j sv h => by
    by_cases q : j < ds.length
    · rw [List.getElem?_append_left (by simpa using q), List.getElem?_map] at h
      cases e : ds[j]? with
      | none => rw [e] at h; cases h
      | some d => rw [e] at h; cases h; exact .inl ⟨d, rfl, rfl, q⟩
    · rw [List.getElem?_append_right (by simpa using q), List.getElem?_replicate] at h
      split at h
      · cases h; exact .inr rfl
      · cases h
  have no : ∀ a, ¬ ownA (ds.map SV.val ++ List.replicate k SV.emp) (L2.start N vs) a := fun a ⟨j, l, h, _⟩ => by
    rcases at_ j _ h with ⟨d, e, _⟩ | e <;> cases e
  refine ⟨⟨?_, .refl, fun a z => absurd z (no a), fun j d h => ?_, fun j l h => ?_, fun i j l m a h => ?_, fun j h => ?_, fun j c fs h => ?_⟩, no⟩
  · unfold L2.start
    simp [hl, hk]
  · rcases at_ j _ h with ⟨d', e, e2, hj⟩ | e
    · cases e
      obtain ⟨v, e3, rv⟩ := r.get e2
      refine ⟨v, ?_, rv.avm fun a z => .inl (z.elim id fun q => absurd q (no a))⟩
      unfold L2.start
      rw [List.getElem?_append_left (by simpa [← hl] using hj), List.getElem?_map, e3]
      rfl
    · cases e
  · rcases at_ j _ h with ⟨d, e, _⟩ | e <;> cases e
  · rcases at_ i _ h with ⟨d, e, _⟩ | e <;> cases e
  · rcases at_ j _ h with ⟨d, e, _⟩ | e <;> cases e
  · rcases at_ j _ h with ⟨d, e, _⟩ | e <;> cases e
/-- the body's end is the def's -/
theorem run_end {X : Cx} [Tbs X.K] {Z : Y} {W : WX} {μ : List Addr} {H : Hp} {wr : Av} {r : RS} {Q : VK} {E : XK} (hw : ∀ a, ¬ wr a) (hW : ∀ cls d σ H, E cls d H → W cls d σ H)
    (h : match (match r with
      | .rt d M' => R.ok d M'
      | .nx _ M' => .ok .non M'
      | .exc c fs _ M' => .exc c fs M'
      | _ => .bad) with
      | .ok d M' => ∀ v μ' H', Ext μ No H μ' H' → MemRel X.K μ' Z.om H' M' → DRel X.K μ' Z.om H' d v → Q v H'
      | .exc c fs M' => ∀ cls dx μ' H', Ext μ No H μ' H' → MemRel X.K μ' Z.om H' M' → XRel X.K X.mg μ' Z.om H' c fs cls dx → E cls dx H'
      | .bad => False) : SResG X Z W μ H wr r { nx := fun _ H' => Q .non H', rt := Q } := by
  cases r with
  | nx ρ' M' => exact fun σ' μ' H' e o m s => h .non μ' H' (e.mono fun a z => hw a z) (m.avm fun a z => .inl z) .non
  | rt d M' => exact fun v μ' H' e m q => h v μ' H' (e.mono fun a z => hw a z) m q
  | exc c fs ρ' M' => exact fun cls dx σ' μ' H' e o m s x => hW _ _ _ _ (h cls dx μ' H' (e.mono fun a z => hw a z) (m.avm fun a z => .inl z) (x.mono (wr := No) .refl (fun _ z => z.elim) fun a z => .inl (.inl z)))
  | bk ρ' M' => exact h.elim
  | ct ρ' M' => exact h.elim
  | bad => exact h.elim
theorem fn_d {x qual : Str} {st : Stmt} {f : Addr} {fd : FuncData} {N ps : List Str} {k n loc : Nat} {body : SS} (F : Fun K x qual st f fd) (S : FnScope N ps (defScope st)) (hn : ps.length = n) (hl : N.length = n + loc)
    (hb : ∀ (cdv : Value) (A : Around) (outer : List PySem.Env) (s : Shared) (H : Hp) (E : XK) (om : Av) (μ : List Addr), Room k (A.deeper (PyProof.Rows.envOfC qual (defScope st) s.heap.objs.size f cdv)) → A.guards = some [] →
      Takes (cxOf (L2.CX P w) P w K mg base N qual (defScope st) f cdv A outer s H E) (fun cls d _ H => E cls d H) →
      PassesOwn (model P w) (A.deeper (PyProof.Rows.envOfC qual (defScope st) s.heap.objs.size f cdv)) (PyProof.Rows.envOfC qual (defScope st) s.heap.objs.size f cdv) (cxOf (L2.CX P w) P w K mg base N qual (defScope st) f cdv A outer s H E).xe →
      DSs (cxOf (L2.CX P w) P w K mg base N qual (defScope st) f cdv A outer s H E) ⟨om, none, none, μ, H⟩ (fun cls d _ H => E cls d H) (defBody st) body) :
    FnG P w K mg base (k + 1) f fd ps (spD K mg n (runB loc body)) := by
  obtain ⟨oc, od, kV, doc, pm, an, cdv, ct, osl, rfl, lk, hcd⟩ := F.ex
  refine ⟨fun vs H Q E h => by rw [h.1, hn], fun A outer s H args us vs Q E hr hG e0 hbd hvs h => LamX.run_ofS lk hcd S hr e0 hbd hvs (by rw [h.1, hn]) fun hr => ?_⟩
  obtain ⟨hv, ds, M, μ, om, r, m, h⟩ := h
  obtain ⟨S0, no⟩ := SRel.start (X := cxOf (L2.CX P w) P w K mg base N qual (defScope st) f cdv A outer s H E) (th := none) (hd := none) (N := N) (k := loc) r (by rw [hl, hv]; omega)
  refine ⟨_, hb cdv A outer s H E om μ hr hG (takes_of rfl rfl rfl rfl) (passes_of (X := cxOf (L2.CX P w) P w K mg base N qual (defScope st) f cdv A outer s H E) rfl), _, M, μ, S0, m.avm fun a z => z.elim id fun q => absurd q (no a), ?_⟩
  exact run_end (X := cxOf (L2.CX P w) P w K mg base N qual (defScope st) f cdv A outer s H E) (Z := ⟨om, none, none, μ, H⟩) no (fun _ _ _ _ z => z) h
end

/-! ### raise -/
section
variable {X : Cx} [Tbs X.K] {Z : Y} {W : WX} {pos : Pos}
/-- an own exception class without an __init__ of its own -/
structure ExcAt (K : PySem.W.Frag) (mg : Str → Option Value) (x : Str) (bm : List Value) (newId : String) : Prop where
  ex : ∃ C, mg x = some (.ref C) ∧ PySem.W.excIn K C bm newId = true ∧ PySem.W.keepIn K (.ref C) = true ∧ PySem.W.subIn K (.ref C) (.type "BaseException") = some true ∧ PySem.W.typeIn K (.ref C) = some (.type "type")
def sRaise (c : Str) : SS := fun ρ M => .exc c [] ρ M
theorem ds_raise {x m : Str} {j : Nat} {p p2 p3 : Pos} {bm : List Value} {B newId initId : String} (hc : X.calm = true) (tk : Takes X W) (F : ExcBaseFacts B newId initId bm) (T : ExcAt X.K X.mg x bm newId) (hg : Gl X x) (hdb : (x == ("__debug__" : Str)) = false := by decide) :
    DS X Z W (.Raise (some (.Call (.Name x p) [.Constant (.str m) j p2] [] p3)) none pos) (sRaise x) := by
  obtain ⟨C, gC, xC, kC, bC, tC⟩ := T.ex
  refine PS.imp (ps_raise hc tk (pmk_own F xC gC kC (raises_own bC tC) hg hdb)) fun D σ H ⟨ρ, M, μ, S, m, h⟩ => ?_
  exact h (.ref C) none σ μ H .refl (fun a z => .inl z) m S ⟨gC, fun _ => rfl, fun f d z => by cases z⟩
end
end DD

set_option Elab.async false
set_option linter.all false
set_option autoImplicit false
set_option maxRecDepth 100000
set_option maxHeartbeats 2000000
/-! DD10: try; the exception in hand; a thunk handed to a def. -/
namespace DD
open PySem PySem.Spec L2

/-! ### try -/
def noHnd (ρ : Sl) : Bool := ρ.all fun sv => match sv with
  | .hnd _ _ => false
  | _ => true
/-- a clause: whether it takes an exception of the class, the slot of its name, its suite -/
structure HD where
  exm : Str → Option Bool
  slot : Option Nat
  suite : SS
def HD.inn (h : HD) (ρ : Sl) (c : Str) (fs : List (Str × D)) : Sl := match h.slot with
  | some i => ρ.set i (.hnd c fs)
  | none => ρ
def HD.outE (h : HD) (ρ : Sl) : Sl := match h.slot with
  | some i => ρ.set i .emp
  | none => ρ
def HD.fin (h : HD) (r : RS) : RS := match r with
  | .rt d M => .rt d M
  | .nx ρ M => cond (noHnd (h.outE ρ)) (.nx (h.outE ρ) M) .bad
  | _ => .bad
def hdl : List HD → Str → List (Str × D) → Sl → Mem → RS
  | [], c, fs, ρ, M => .exc c fs ρ M
  | h :: hs, c, fs, ρ, M => match h.exm c with
    | some true => h.fin (h.suite (h.inn ρ c fs) M)
    | some false => hdl hs c fs ρ M
    | none => .bad
def sTry (body : SS) (hs : List HD) : SS := fun ρ M => match body ρ M with
  | .exc c fs ρ1 M1 => cond (noHnd ρ1) (hdl hs c fs ρ1 M1) .bad
  | r => r
abbrev Y.hold (Z : Y) (a : Addr) (cls : Value) (dx : Option Addr) : Y := { Z with hnd := some (a, cls, dx) }
/-- what K says of a clause's class -/
def ExmOk (X : Cx) [Tbs X.K] (cv : Value) (exm : Str → Option Bool) : Prop := ∀ c cls b, X.mg c = some cls → exm c = some b → PySem.W.exmOne X.K cls cv = some b
inductive HdsD (X : Cx) [Tbs X.K] (Z : Y) : List ExceptHandler → List HD → Prop
  | nil : HdsD X Z [] []
  | plain {x : Str} {cv : Value} {exm : Str → Option Bool} {f : SS} {s0 : Stmt} {ss : List Stmt} {p1 p2 : Pos} {hs : List ExceptHandler} {qs : List HD} : Names X x cv → ExmOk X cv exm →
      (∀ (a : Addr) (o : Obj) (cls : Value) (dx : Option Addr) (pn : List (Addr × Obj)), Zc cls dx o → (∃ vs, o.data = .fields vs) → DSs (X.suite a ((a, o) :: pn)) (Z.hold a cls dx) W0 (s0 :: ss) f) → HdsD X Z hs qs →
      HdsD X Z (.ExceptHandler (some (.Name x p1)) none (s0 :: ss) p2 :: hs) (⟨exm, none, f⟩ :: qs)
  | named {x n : Str} {cv : Value} {exm : Str → Option Bool} {i : Nat} {f : SS} {s0 : Stmt} {ss : List Stmt} {p1 p2 : Pos} {hs : List ExceptHandler} {qs : List HD} : Names X x cv → ExmOk X cv exm → X.N[i]? = some n → X.env.kindOf n = some .local →
      (∀ (a : Addr) (o : Obj) (cls : Value) (dx : Option Addr) (pn : List (Addr × Obj)), Zc cls dx o → (∃ vs, o.data = .fields vs) → DSs (X.suite a ((a, o) :: pn)) (Z.hold a cls dx) W0 (s0 :: ss) f) → HdsD X Z hs qs →
      HdsD X Z (.ExceptHandler (some (.Name x p1)) (some n) (s0 :: ss) p2 :: hs) (⟨exm, some i, f⟩ :: qs)
section
variable {X : Cx} [Tbs X.K] {Z : Y} {W : WX} {μ μ' : List Addr} {H H' : Hp} {wr : Av} {ρ ρ' : Sl} {σ σ' : L2.St} {M : Mem} {D : Ends} {c : Str} {fs : List (Str × DD.D)} {cls : Value} {dx : Option Addr} {a : Addr}
theorem noHnd_get (h : noHnd ρ = true) {i : Nat} {c : Str} {fs : List (Str × DD.D)} (q : ρ[i]? = some (SV.hnd c fs)) : False := by
  have := List.all_eq_true.mp h _ (List.mem_of_getElem? q)
  simp at this
theorem SRel.holds (S : SRel X.K X.mg Z μ H ρ σ) (h : noHnd ρ = true) (a : Addr) (cls : Value) (dx : Option Addr) : SRel X.K X.mg (Z.hold a cls dx) μ H ρ σ :=
  ⟨S.len, S.base, S.ownN, S.val, S.own, S.inj, S.thk, fun i c fs q => (noHnd_get h q).elim⟩
theorem SRel.lets (S : SRel X.K X.mg (Z.hold a cls dx) μ H ρ σ) (h : noHnd ρ = true) : SRel X.K X.mg Z μ H ρ σ :=
  ⟨S.len, S.base, S.ownN, S.val, S.own, S.inj, S.thk, fun i c fs q => (noHnd_get h q).elim⟩
theorem hdl_res {hs : List ExceptHandler} {qs : List HD} (hh : HdsD X Z hs qs) : ∃ cs, Hds X hs cs ∧ ∀ (D : Ends) (c : Str) (fs : List (Str × DD.D)) (ρ1 : Sl) (M1 : Mem), noHnd ρ1 = true → SResG X Z W μ H wr (hdl qs c fs ρ1 M1) D →
    ∀ cls dx σ1 μ1 H1, Ext μ wr H μ1 H1 → (∀ a, ownA ρ1 σ1 a → wr a ∨ Nil H a) → MemRel X.K μ1 (avS Z.om ρ1 σ1) H1 M1 → SRel X.K X.mg Z μ1 H1 ρ1 σ1 → XRel X.K X.mg μ1 (avS Z.om ρ1 σ1) H1 c fs cls dx → wCl X.K W D cs cls dx σ1 H1 := by
  induction hh with
  | nil => exact ⟨[], .nil, fun D c fs ρ1 M1 hno h cls dx σ1 μ1 H1 e o m s x => h cls dx σ1 μ1 H1 e o m s x⟩
  | @plain x cv exm f s0 ss p1 p2 hs qs hx hex hsu r ih =>
    obtain ⟨cs, hcs, ih⟩ := ih
    refine ⟨⟨cv, none, fun a cls dx => tS X (Z.hold a cls dx) W0 f⟩ :: cs, .plain hx (fun a o cls dx pn hz hv => hsu a o cls dx pn hz hv) hcs, fun D c fs ρ1 M1 hno h cls dx σ1 μ1 H1 e o m s x => ?_⟩
    unfold hdl at h
    simp only at h
    cases q : exm c with
    | none => rw [q] at h; exact h.elim
    | some b =>
      rw [q] at h
      refine ⟨b, hex _ _ _ x.cls q, fun hb a ha => ?_, fun hb => ?_⟩
      · subst hb
        refine ⟨ρ1, M1, μ1, s.holds hno a cls dx, m, ?_⟩
        simp only [HD.inn, HD.fin, HD.outE] at h
        cases q2 : f ρ1 M1 with
        | nx ρ2 M2 =>
          simp only [q2] at h
          cases h0 : noHnd ρ2
          rotate_left
          · rw [h0] at h
            exact fun σ2 μ2 H2 e2 o2 m2 s2 => SResG.later (r := .nx ρ2 M2) h e o σ2 μ2 H2 e2 o2 m2 (s2.lets h0)
          · rw [h0] at h; exact h.elim
        | rt d M2 => simp only [q2] at h; exact SResG.later (r := .rt d M2) h e o
        | bk ρ2 M2 => simp only [q2] at h; exact h.elim
        | ct ρ2 M2 => simp only [q2] at h; exact h.elim
        | exc c fs ρ2 M2 => simp only [q2] at h; exact h.elim
        | bad => simp only [q2] at h; exact h.elim
      · subst hb
        exact ih D c fs ρ1 M1 hno h cls dx σ1 μ1 H1 e o m s x
  | @named x n cv exm i f s0 ss p1 p2 hs qs hx hex hi hl hsu r ih =>
    obtain ⟨cs, hcs, ih⟩ := ih
    refine ⟨⟨cv, some i, fun a cls dx => tS X (Z.hold a cls dx) W0 f⟩ :: cs, .named hx hi hl (fun a o cls dx pn hz hv => hsu a o cls dx pn hz hv) hcs, fun D c fs ρ1 M1 hno h cls dx σ1 μ1 H1 e o m s x => ?_⟩
    unfold hdl at h
    simp only at h
    cases q : exm c with
    | none => rw [q] at h; exact h.elim
    | some b =>
      rw [q] at h
      refine ⟨b, hex _ _ _ x.cls q, fun hb a ha => ?_, fun hb => ?_⟩
      · subst hb
        have ho : ∀ b, ownA (ρ1.set i (.hnd c fs)) (σ1.set i (some (.ref a))) b → ownA ρ1 σ1 b := own_set fun l z => by cases z
        have hav := fun b z => avS_own (Z := Z) ho b z
        have S2 : SRel X.K X.mg (Z.hold a cls dx) μ1 H1 (ρ1.set i (.hnd c fs)) (σ1.set i (some (.ref a))) := by
          refine (s.holds hno a cls dx).set (fun l z => by cases z) (fun d z => by cases z) (fun z => by cases z) fun c' fs' z => ?_
          cases z
          exact ⟨a, cls, dx, rfl, rfl, x.mono (wr := No) .refl (fun _ z => z.elim) fun b z => .inl (hav b z)⟩
        refine ⟨ρ1.set i (.hnd c fs), M1, μ1, S2, m.avm hav, ?_⟩
        simp only [HD.inn, HD.fin, HD.outE] at h
        have ow : ∀ b, ownA (ρ1.set i (.hnd c fs)) (σ1.set i (some (.ref a))) b → wr b ∨ Nil H b := fun b z => o b (ho b z)
        cases q2 : f (ρ1.set i (.hnd c fs)) M1 with
        | nx ρ2 M2 =>
          simp only [q2] at h
          cases h0 : noHnd (ρ2.set i .emp)
          rotate_left
          · rw [h0] at h
            intro σ2 μ2 H2 e2 o2 m2 s2
            obtain ⟨s3, o3⟩ := s2.setE (i := i) (u := none)
            exact SResG.later (r := .nx (ρ2.set i .emp) M2) h e ow (σ2.set i none) μ2 H2 e2 (fun b z => o2 b (o3 b z)) (m2.avm (avS_own (Z := Z) o3)) (s3.lets h0)
          · rw [h0] at h; exact h.elim
        | rt d M2 => simp only [q2] at h; exact SResG.later (r := .rt d M2) h e ow
        | bk ρ2 M2 => simp only [q2] at h; exact h.elim
        | ct ρ2 M2 => simp only [q2] at h; exact h.elim
        | exc c fs ρ2 M2 => simp only [q2] at h; exact h.elim
        | bad => simp only [q2] at h; exact h.elim
      · subst hb
        exact ih D c fs ρ1 M1 hno h cls dx σ1 μ1 H1 e o m s x
theorem ds_try {body : List Stmt} {hd0 : ExceptHandler} {hs : List ExceptHandler} {qs : List HD} {fb : SS} {pos : Pos} (stk : X.stack = X.env :: X.outer) (frm : X.env.frame = some X.env.locals) (hN : X.N.Nodup) (tk : Takes X W)
    (hb : ∀ (W : WX) (pn : List (Addr × Obj)) (xe : Value → Shared → Prop), Takes (X.tr pn xe) W → PassesOwn (model X.prog X.w) X.A X.env xe → DSs (X.tr pn xe) Z W body fb) (hh : HdsD X Z (hd0 :: hs) qs) :
    DS X Z W (.Try body (hd0 :: hs) [] [] pos) (sTry fb qs) := by
  refine ⟨fun pins s σ H D I ⟨ρ, M, μ, S, m, h⟩ => ?_⟩
  obtain ⟨cs, hcs, res⟩ := hdl_res (W := W) (μ := μ) (H := H) (wr := ownA ρ σ) hh
  refine (try_many (tb := fun W => tS X Z W fb) stk frm hN tk (fun W pn xe t p => hb W pn xe t p) hcs (pos := pos)).run pins s σ H D I ⟨ρ, M, μ, S, m, ?_⟩
  unfold sTry at h
  cases q : fb ρ M with
  | exc c fs ρ1 M1 =>
    rw [q] at h
    simp only at h
    cases h0 : noHnd ρ1
    rotate_left
    · rw [h0] at h
      exact fun cls dx σ1 μ1 H1 e o m s x => res D c fs ρ1 M1 h0 h cls dx σ1 μ1 H1 e o m s x
    · rw [h0] at h; exact h.elim
  | nx ρ1 M1 => rw [q] at h; exact h
  | rt d M1 => rw [q] at h; exact h
  | bk ρ1 M1 => rw [q] at h; exact h
  | ct ρ1 M1 => rw [q] at h; exact h
  | bad => rw [q] at h; exact h.elim

end
end DD

set_option Elab.async false
set_option linter.all false
set_option autoImplicit false
set_option maxRecDepth 100000
set_option maxHeartbeats 2000000
/-! DD11: the exception in hand; a thunk handed to a def. -/
namespace DD
open PySem PySem.Spec L2

section
variable {X : Cx} [Tbs X.K] {Z : Y} {W : WX} {pos : Pos}
/-! ### the exception in hand -/
/-- isinstance(e, C): e holds an exception without fields -/
def eIsE (i : Nat) (sub : Str → Option Bool) : SE := fun ρ M => match ρ[i]? with
  | some (.hnd c []) => ofO ((sub c).map .bl) M
  | _ => .bad
def IsOk (X : Cx) [Tbs X.K] (cv : Value) (sub : Str → Option Bool) : Prop := ∀ c cls b, X.mg c = some cls → sub c = some b → ∃ C, cls = .ref C ∧ ExcC X.K C ∧ PySem.W.kitOne X.K (.ref C) cv = some b
theorem de_isE {a : Addr} {o : Obj} {cls : Value} {dx : Option Addr} {pn : List (Addr × Obj)} {e c : Str} {i : Nat} {sub : Str → Option Bool} {C : Addr} {p p1 p2 : Pos} (hz : Zc cls dx o) (hf : ∃ vs, o.data = .fields vs)
    (hI : IsOk X (.ref C) sub) (hg : Gl X "isinstance") (hm : X.mg "isinstance" = none) (hC : Gl X c) (hmC : X.mg c = some (.ref C)) (hN : X.N[i]? = some e := by rfl) (hv : Vis X.env.scope e := by first | exact Or.inl rfl | exact Or.inr (Or.inl rfl) | exact Or.inr (Or.inr rfl))
    (hd : (e == ("__debug__" : Str)) = false := by decide) (hcd : (e == ("__classdict__" : Str)) = false := by decide) (hdc : (c == ("__debug__" : Str)) = false := by decide) :
    DE (X.suite a ((a, o) :: pn)) (Z.hold a cls dx) W0 (.Call (.Name "isinstance" p) [.Name e p1, .Name c p2] [] pos) (eIsE i sub) := by
  refine ⟨fun pins s σ H Q I ⟨ρ, M, μ, S, m, q⟩ => ?_⟩
  unfold eIsE at q
  cases q1 : ρ[i]? with
  | none => rw [q1] at q; exact q.elim
  | some sv =>
    rw [q1] at q
    cases sv with
    | hnd c0 fs =>
      cases fs with
      | cons _ _ => exact q.elim
      | nil =>
        obtain ⟨a', cls', dx', e1, e2, x⟩ := S.hnd i c0 [] q1
        cases e1
        have hdx := x.nd rfl
        subst hdx
        cases q2 : sub c0 with
        | none => simp [q2] at q; exact q.elim
        | some b =>
          simp only [q2, Option.map_some, ofO_some] at q
          obtain ⟨C0, rfl, hE, hk⟩ := hI c0 cls b x.cls q2
          have r := pe_callB (X := X.suite a ((a, o) :: pn)) (p := p) (pos := pos) (call_isE hE hz hf) hg hm PyProof.Rows.boot_isinstance (pa_cons (pe_var (pos := p1) (i := i) hN hv hd hcd) (pa_cons (pe_glob (pos := p2) (v := V.ref C) hC hmC rfl hdc) pa_nil))
          exact r.run pins s σ H Q I ⟨_, e2, _, _, b, rfl, fun u hu => hu, hk, q (.bl b) μ H .refl m (.bl b)⟩
    | emp => exact q.elim
    | val d => exact q.elim
    | own l => exact q.elim
    | thk => exact q.elim
/-- e.f -/
def eXf (i : Nat) (f : Str) (ok : Str → Bool) : SE := fun ρ M => match ρ[i]? with
  | some (.hnd c fs) => (match fs.lookup f with
    | some d => cond (ok c) (.ok d M) .bad
    | none => .bad)
  | _ => .bad
def XfOk (X : Cx) [Tbs X.K] (f : Str) (ok : Str → Bool) : Prop := ∀ c cls, X.mg c = some cls → ok c = true → ∃ C, cls = .ref C ∧ XfC X.K C ∧ PySem.W.findIn X.K (.ref C) f = some none
theorem de_xf {a : Addr} {o : Obj} {cls : Value} {dx : Option Addr} {pn : List (Addr × Obj)} {e f : Str} {i : Nat} {ok : Str → Bool} {p1 : Pos} (hz : Zc cls dx o) (hf : ∃ vs, o.data = .fields vs) (hX : XfOk X f ok)
    (hN : X.N[i]? = some e := by rfl) (hv : Vis X.env.scope e := by first | exact Or.inl rfl | exact Or.inr (Or.inl rfl) | exact Or.inr (Or.inr rfl))
    (hd : (e == ("__debug__" : Str)) = false := by decide) (hcd : (e == ("__classdict__" : Str)) = false := by decide) (hb : attributeBase (.Name e p1) f X.env (eval (.Name e p1) X.env) = eval (.Name e p1) X.env := by rfl) :
    DE (X.suite a ((a, o) :: pn)) (Z.hold a cls dx) W0 (.Attribute (.Name e p1) f pos) (eXf i f ok) := by
  refine ⟨fun pins s σ H Q I ⟨ρ, M, μ, S, m, q⟩ => ?_⟩
  unfold eXf at q
  cases q1 : ρ[i]? with
  | none => rw [q1] at q; exact q.elim
  | some sv =>
    rw [q1] at q
    cases sv with
    | hnd c0 fs =>
      obtain ⟨a', cls', dx', e1, e2, x⟩ := S.hnd i c0 fs q1
      cases e1
      cases q2 : fs.lookup f with
      | none => simp [q2] at q; exact q.elim
      | some d =>
        simp only [q2] at q
        cases q3 : ok c0 with
        | false => rw [q3] at q; exact q.elim
        | true =>
          rw [q3] at q
          obtain ⟨C0, rfl, hE, hk⟩ := hX c0 cls x.cls q3
          obtain ⟨dd, l, v, rfl, h2, _, _, h5, r⟩ := x.fs f d q2
          have r' := pe_xf (X := X) (pos := pos) hE hk hz hf (pe_var (X := X.suite a ((a, o) :: pn)) (pos := p1) (i := i) hN hv hd hcd) hb
          exact r'.run pins s σ H Q I ⟨_, e2, rfl, rfl, dd, l, v, rfl, h2, h5, q v μ H .refl m r⟩
    | emp => exact q.elim
    | val d => exact q.elim
    | own l => exact q.elim
    | thk => exact q.elim
end

/-! ### a thunk -/
/-- what the slot's thunk hands back -/
def eThk (i : Nat) (th : Mem → R D) : SE := fun ρ M => match ρ[i]? with
  | some .thk => th M
  | _ => .bad
section
variable {X : Cx} [Tbs X.K] {pins : List (Addr × Obj)} {σ : L2.St} {H : Hp} {s : Shared}
/-- a(), in the def g that was handed the lambda at f as its parameter a; what is raised is told at g's slots -/
theorem act_at {Ng : List Str} {qg : Str} {sg : Scope} {g f c' : Addr} {cdg pm ctv : Value} {params : Arguments} {body : Expr} {scope : Scope} {k i : Nat} {a : Str} {pn : List (Addr × Obj)} {xe : Value → Shared → Prop} {W : WX} {tb : XK → TE} {p1 p2 : Pos} {CXg : CXT} {Eg : XK}
    (I : Inv X pins σ H s) (L : LamX.LamS X.env.scope scope) (hf : s.heap.get? f = some (PySem.W.kla_obj "<lambda>" (X.env.qual ++ "<lambda>") params body scope (cloFrom X.env.cells scope.names []) pm c' ctv)) (nf : H f = none) (nfr : f ∉ frs X.stack)
    (hbind : bindArgs (PySem.W.kla_fn "<lambda>" (X.env.qual ++ "<lambda>") params body scope (cloFrom X.env.cells scope.names []) pm (.ref c') ctv) ⟨[], []⟩ = pure [])
    (tk : Takes ((cxOf CXg X.prog X.w X.K X.mg X.base Ng qg sg g cdg X.A X.stack s H Eg).tr pn xe) W) (hr : Room (k + 1) (X.A.deeper (PyProof.Rows.envOfC qg sg s.heap.objs.size g cdg))) (hGd : X.A.guards = some [])
    (hbody : ∀ (A : Around) (outer : List PySem.Env) (s : Shared) (H : Hp) (E : XK), Room k (A.deeper (LamX.lamEnv X scope s.heap.objs.size f c')) → A.guards = some [] → PE (LamX.lamCx X A outer s H E scope f c') body (tb E))
    (hN : Ng[i]? = some a) (hv : Vis sg a) (hd : (a == ("__debug__" : Str)) = false) (hcd : (a == ("__classdict__" : Str)) = false) :
    PE ((cxOf CXg X.prog X.w X.K X.mg X.base Ng qg sg g cdg X.A X.stack s H Eg).tr pn xe) (.Call (.Name a p1) [] [] p2)
      (fun τ J Q => τ[i]? = some (some (.ref f)) ∧ J c' = some (LamX.CodeO c' (X.env.qual ++ "<lambda>")) ∧ tb (WE W τ) σ J Q) := by
  refine ⟨fun ps st τ J Q IJ ⟨h1, h2, h3⟩ => wpAny_Call_Name_kw (thn ((pe_var (pos := p1) (i := i) hN hv hd hcd).run ps st τ J (fun v J' => v = .ref f ∧ J' = J) IJ ⟨_, h1, rfl, rfl⟩) fun u s1 ⟨v, J', I1, rv, ev, eJ⟩ => ?_)⟩
  subst ev
  rw [eJ] at I1
  cases rv
  have there : s1.heap.get? f = some _ := I1.base.keep f _ hf nf nfr (fun z => nomatch (show f ∈ ([] : List Addr) from z))
  obtain ⟨⟨oc, vs, t, ho, hdt, hvt⟩, _, _⟩ := I1.hok c' _ h2
  refine PySem.W.callWith_F0 ⟨_, _, _, _, there⟩ (wpAny_call (codeAny_mono (R := CR (L2.CX X.prog X.w) (PyProof.Rows.envOfC qg sg s.heap.objs.size g cdg :: X.stack) X.prog X.w J s1 Q (WE W τ)) ?_ fun r s2 hq => ?_))
  · show codeAny _ _ (.call (.ref f) ⟨[], []⟩) _ _
    refine PySem.W.kla_callFunE hr.depth there rfl L.co L.gen rfl ⟨c', oc, vs, t, rfl, ho, hdt, hvt⟩ ?_
    rw [hbind]
    refine wpAny_pure (wpAny_newFunctionEnv (fun y hy => (L.own y hy).2) (fun y hy => absurd hy (by simp)) (fun h1 hns hsb => ⟨I1.nolimit.fresh _ hsb, ?_⟩) L.kind)
    have kept : ∀ b o, s1.heap.get? b = some o → h1.get? b = some o := fun b o z => hsb.extBut b o (Nat.ne_of_lt (Heap.lt_size z)) (Heap.get?_push_of_some _ z)
    have J0 := LamX.lam_start2 (c' := c') (f := f) (E := WE W τ) (tk := s1.toks + ([] : List (Str × Value)).length) I L I1.env0 hr.hd I1.base hns kept
    refine PySem.W.kla_codeExpr (wpAny_mono ((hbody _ _ s1 J (WE W τ) (hr.deeper _) hGd).run [] _ _ J Q J0 h3) (fun v s2 hq => ?_) fun e s2 hq => hq)
    exact let ⟨v', J', I', rv', q'⟩ := hq; ⟨v', J', I'.os, I'.bare, I'.base, I'.hok, rv', q'⟩
  · cases r with
    | error e => exact passAt tk τ ps J s1 e s2 I1 hq
    | ok fl =>
      cases fl with
      | ret u => exact I1.after hq
      | next => exact hq.elim
      | brk => exact hq.elim
      | cont => exact hq.elim
/-- the def g that calls what it got, at its first slot -/
def Gives (X : Cx) [Tbs X.K] (kg : Nat) (Ng : List Str) (x : Str) (sg : Scope) (g : Addr) (cdg : Value) (bg : List Stmt) (a : Str) (q : Str) (TT : (XK → Hp → VK → Prop) → Hp → VK → Prop) : Prop :=
  ∀ (f c' : Addr) (s : Shared) (H : Hp) (Q : VK) (tl : XK → Hp → VK → Prop), Room kg (X.A.deeper (PyProof.Rows.envOfC x sg s.heap.objs.size g cdg)) → X.A.guards = some [] →
    (∀ (W : WX) (pn : List (Addr × Obj)) (xe : Value → Shared → Prop) (p1 p2 : Pos), Takes ((cxOf CX0 X.prog X.w X.K X.mg X.base Ng x sg g cdg X.A X.stack s H E0).tr pn xe) W →
      PE ((cxOf CX0 X.prog X.w X.K X.mg X.base Ng x sg g cdg X.A X.stack s H E0).tr pn xe) (.Call (.Name a p1) [] [] p2) (fun τ J Q => τ[0]? = some (some (.ref f)) ∧ J c' = some (LamX.CodeO c' q) ∧ tl (WE W τ) J Q)) →
    H c' = some (LamX.CodeO c' q) → TT tl H Q →
    ∃ t, PSs (cxOf CX0 X.prog X.w X.K X.mg X.base Ng x sg g cdg X.A X.stack s H E0).nox bg t ∧ t { nx := fun _ H' => Q .non H', rt := Q } (L2.start Ng [.ref f]) H
/-- x(lambda: body) -/
theorem pe_lam {T : List (Addr × Str)} {TT : (XK → Hp → VK → Prop) → Hp → VK → Prop} {x a : Str} {g c P : Addr} {k kg : Nat} {pg : Arguments} {bg : List Stmt} {sg : Scope} {dV kV doc pm cdv ct oc : Value} {an od : Option Addr} {osl : Array (Option Value)} {Ng : List Str}
    {params : Arguments} {body : Expr} {scope : Scope} {t : XK → TE} {p lpos pos : Pos} (hg : Gl X x) (hm : X.mg x = some (.ref g)) (hk : PySem.W.keepIn X.K (.ref g) = true)
    (lk : X.K.lookup g = some ⟨oc, od, .func (PySem.W.fnOf x x pg bg sg dV kV doc pm an cdv ct), osl⟩) (hcg : PySem.W.codeIn X.K cdv x = true) (hb : Binds X.K (PySem.W.fnOf x x pg bg sg dV kV doc pm an cdv ct) [a] []) (Sg : FnScope Ng [a] sg) (hNg : Ng[0]? = some a) (hva : Vis sg a)
    (hkg : kg ≤ k + 1) (hG : Gives X kg Ng x sg g cdv bg a (X.env.qual ++ "<lambda>") TT)
    (TB : LamX.TabB X.base X.mg c P) (hcode : X.env.code = .ref c) (hmT : (P, X.env.qual ++ "<lambda>") ∈ T) (hu : ∀ p ∈ T, p.1 = P → p.2 = X.env.qual ++ "<lambda>") (hr : Room (k + 2) X.A) (hGd : X.A.guards = some []) (L : LamX.LamS X.env.scope scope) (hdef : defaultsOf params X.env = ([], []))
    (hbind : ∀ (q : Str) (cl : List (Str × Addr)) (pm cv ctv : Value), bindArgs (PySem.W.kla_fn "<lambda>" q params body scope cl pm cv ctv) ⟨[], []⟩ = pure [])
    (hbody : ∀ (A : Around) (outer : List PySem.Env) (s : Shared) (H : Hp) (E : XK) (f c' : Addr), Room k (A.deeper (LamX.lamEnv X scope s.heap.objs.size f c')) → A.guards = some [] → PE (LamX.lamCx X A outer s H E scope f c') body (t E))
    (hdb : (x == ("__debug__" : Str)) = false) (hd : (a == ("__debug__" : Str)) = false) (hcd : (a == ("__classdict__" : Str)) = false) :
    PE X (.Call (.Name x p) [.Lambda params body scope lpos] [] pos) (LamX.tLam T TT t) := by
  refine ⟨fun pins s σ H Q I ⟨hT, h⟩ => wpAny_Call_Name_kw (ld_glob I hg hm (PySem.W.callWith_K (h₀ := X.base) I.ok.mod.kin hk ?_ (by rfl) (by rfl)) hdb)⟩
  show wpAny _ _ (spliced ((false, eval (.Lambda params body scope lpos) X.env) :: backTo pos (starEach [] X.env))) _ _ s
  refine PySem.Calls.spliced_cons (LamX.lam_make2 I TB hcode hmT hu hT hdef (L.has I.ok) fun f c' pm' ctv H1 s' I1 eN T1 hf hfn hfr hco => PySem.Calls.spliced_nil ⟨I1.kIn, ?_⟩)
  refine wpAny_call (codeAny_mono (LamX.run_ofS (CX := CX0) (Q := Q) (E := E0) (N := Ng) (ps := [a]) (us := [.ref f]) (vs := [.ref f]) lk hcg Sg hr I1.env0 (hb s' [.ref f] I1.kIn rfl) (.cons rfl .nil) rfl fun hr' => ?_) fun r s2 hq => ?_)
  · obtain ⟨t', ht', hq'⟩ := hG f c' s' H1 Q (fun E J Q' => t E σ J Q') (hr'.mono hkg) hGd (fun W pn xe p1 p2 tk => act_at (i := 0) (tb := t) I1 L hf hfn hfr (hbind _ _ _ _ _) tk hr' hGd (fun A outer s H E hr2 hG2 => hbody A outer s H E f c' hr2 hG2) hNg hva hd hcd) hco (h H1 eN T1)
    exact ⟨t', ht'.nox, hq'⟩
  · cases r with
    | error e => exact (show False from hq).elim
    | ok fl =>
      cases fl with
      | ret u => exact I1.after hq
      | next => exact hq.elim
      | brk => exact hq.elim
      | cont => exact hq.elim
end
end DD

set_option Elab.async false
set_option linter.all false
set_option autoImplicit false
set_option maxRecDepth 100000
set_option maxHeartbeats 2000000
/-! DD12: a def that is handed a lambda, and its call. -/
namespace DD
open PySem PySem.Spec L2

/-- what a def makes of the thunk in its first slot; nothing is raised out -/
def runT (k : Nat) (f : SS) : Mem → R D := fun M => match f (SV.thk :: List.replicate k SV.emp) M with
  | .rt d M' => .ok d M'
  | .nx _ M' => .ok .non M'
  | _ => .bad
/-- the thunk th is what tl tells, from (μ, H) on -/
def ThkOk (K : PySem.W.Frag) [Tbs K] (mg : Str → Option Value) (μ : List Addr) (av : Av) (H : Hp) (th : Mem → R D) (tl : XK → Hp → VK → Prop) : Prop :=
  ∀ (E : XK) (J : Hp) (Q : VK) (μ' : List Addr) (M' : Mem) (av' : Av), Ext μ No H μ' J → (∀ a, av a → av' a) → (∀ a, av' a → av a ∨ Nil H a) → MemRel K μ' av' J M' → (match th M' with
    | .ok d M2 => ∀ v μ2 H2, Ext μ' No J μ2 H2 → MemRel K μ2 av' H2 M2 → DRel K μ2 av' H2 d v → Q v H2
    | .exc c fs M2 => ∀ cls dx μ2 H2, Ext μ' No J μ2 H2 → MemRel K μ2 av' H2 M2 → XRel K mg μ2 av' H2 c fs cls dx → E cls dx H2
    | .bad => False) → tl E J Q
def TTd (K : PySem.W.Frag) [Tbs K] (mg : Str → Option Value) (G : (Mem → R D) → Mem → R D) : (XK → Hp → VK → Prop) → Hp → VK → Prop := fun tl H Q =>
  ∃ (μ : List Addr) (M : Mem) (av : Av) (th : Mem → R D), MemRel K μ av H M ∧ ThkOk K mg μ av H th tl ∧ (match G th M with
    | .ok d M' => ∀ v μ' H', Ext μ No H μ' H' → MemRel K μ' av H' M' → DRel K μ' av H' d v → Q v H'
    | _ => False)
section
variable {X : Cx} [Tbs X.K] {Z : Y} {W : WX} {μ μ' : List Addr} {H H' : Hp} {ρ : Sl} {σ : L2.St} {M : Mem}
theorem SRel.startT {μ : List Addr} {om : Av} {H : Hp} {N : List Str} {k : Nat} {f : Addr} (hk : N.length = k + 1) :
    SRel X.K X.mg ⟨om, some f, none, μ, H⟩ μ H (SV.thk :: List.replicate k SV.emp) (L2.start N [V.ref f]) ∧ ∀ a, ¬ ownA (SV.thk :: List.replicate k SV.emp) (L2.start N [V.ref f]) a := by
  have at_ : ∀ (j : Nat) (sv : SV), (SV.thk :: List.replicate k SV.emp)[j]? = some sv → (sv = .thk ∧ j = 0) ∨ sv = .emp := fun j sv h => by
    cases j with
    | zero => simp at h; exact .inl ⟨h.symm, rfl⟩
    | succ j =>
      rw [List.getElem?_cons_succ, List.getElem?_replicate] at h
      split at h
      · cases h; exact .inr rfl
      · cases h
  have no : ∀ a, ¬ ownA (SV.thk :: List.replicate k SV.emp) (L2.start N [V.ref f]) a := fun a ⟨j, l, h, _⟩ => by
    rcases at_ j _ h with ⟨e, _⟩ | e <;> cases e
  refine ⟨⟨?_, .refl, fun a z => absurd z (no a), fun j d h => ?_, fun j l h => ?_, fun i j l m a h => ?_, fun j h => ?_, fun j c fs h => ?_⟩, no⟩
  · unfold L2.start
    simp [hk]
  · rcases at_ j _ h with ⟨e, _⟩ | e <;> cases e
  · rcases at_ j _ h with ⟨e, _⟩ | e <;> cases e
  · rcases at_ i _ h with ⟨e, _⟩ | e <;> cases e
  · rcases at_ j _ h with ⟨_, rfl⟩ | e
    · exact ⟨f, rfl, rfl⟩
    · cases e
  · rcases at_ j _ h with ⟨e, _⟩ | e <;> cases e
/-- the rule for a def that is handed a thunk: its body, and the thunk's call within it -/
theorem gives_of {kg : Nat} {Ng : List Str} {x a q : Str} {sg : Scope} {g : Addr} {cdg : Value} {bg : List Stmt} {fg : (Mem → R D) → SS} {k : Nat} (hk : Ng.length = k + 1)
    (hb : ∀ (f : Addr) (s : Shared) (H : Hp) (om : Av) (μ : List Addr) (th : Mem → R D), Room kg (X.A.deeper (PyProof.Rows.envOfC x sg s.heap.objs.size g cdg)) → X.A.guards = some [] →
      (∀ (W : WX) (pn : List (Addr × Obj)) (xe : Value → Shared → Prop) (p1 p2 : Pos), Takes ((cxOf CX0 X.prog X.w X.K X.mg X.base Ng x sg g cdg X.A X.stack s H E0).tr pn xe) W → DE ((cxOf CX0 X.prog X.w X.K X.mg X.base Ng x sg g cdg X.A X.stack s H E0).tr pn xe) ⟨om, some f, none, μ, H⟩ W (.Call (.Name a p1) [] [] p2) (eThk 0 th)) →
      DSs (cxOf CX0 X.prog X.w X.K X.mg X.base Ng x sg g cdg X.A X.stack s H E0).nox ⟨om, some f, none, μ, H⟩ W0 bg (fg th)) :
    Gives X kg Ng x sg g cdg bg a q (TTd X.K X.mg (fun th => runT k (fg th))) := by
  intro f c' s H Q tl hr hG act hc ⟨μ, M, av, th, m, ok, h⟩
  have key : ∀ (W : WX) (pn : List (Addr × Obj)) (xe : Value → Shared → Prop) (p1 p2 : Pos), Takes ((cxOf CX0 X.prog X.w X.K X.mg X.base Ng x sg g cdg X.A X.stack s H E0).tr pn xe) W → DE ((cxOf CX0 X.prog X.w X.K X.mg X.base Ng x sg g cdg X.A X.stack s H E0).tr pn xe) ⟨av, some f, none, μ, H⟩ W (.Call (.Name a p1) [] [] p2) (eThk 0 th) := by
    intro W pn xe p1 p2 tk
    refine PE.imp (act W pn xe p1 p2 tk) fun τ J Q2 ⟨ρ, M', μ', S, m', r⟩ => ?_
    unfold eThk at r
    cases q1 : ρ[0]? with
    | none => rw [q1] at r; exact r.elim
    | some sv =>
      rw [q1] at r
      cases sv with
      | thk =>
        obtain ⟨f', e1, e2⟩ := S.thk 0 q1
        cases e1
        have nc : c' ∉ μ := fun hm => by
          obtain ⟨j, hj, e⟩ := List.getElem_of_mem hm
          obtain ⟨o, z, k⟩ := (m.at_ j c' _ (by rw [List.getElem?_eq_getElem hj, e]) (List.getElem?_eq_getElem (by rw [← m.len]; exact hj))).kind
          rw [hc] at z
          cases z
          cases k
        refine ⟨e2, S.base.keep c' _ nc (fun z => z) hc (fun ps => LamX.codeO_ne ps), ok (WE W τ) J Q2 μ' M' (avS av ρ τ) S.base (fun b z => .inl z) (fun b z => z.elim .inl fun z => .inr (S.ownN b z)) m' ?_⟩
        have r : ResG (relD X.K (avS av ρ τ)) X W (avS av ρ τ) μ' J τ (th M') Q2 := r
        cases q2 : th M' with
        | ok d M2 => rw [q2] at r; exact r
        | exc c fs M2 => rw [q2] at r; exact r
        | bad => rw [q2] at r; exact r
      | emp => exact r.elim
      | val d => exact r.elim
      | own l => exact r.elim
      | hnd c fs => exact r.elim
  obtain ⟨S0, no⟩ := SRel.startT (X := X) (om := av) (μ := μ) (f := f) hk
  refine ⟨_, hb f s H av μ th hr hG key, _, M, μ, S0, m.avm fun a z => z.elim id fun q => absurd q (no a), ?_⟩
  simp only [runT] at h
  cases q1 : fg th (SV.thk :: List.replicate k SV.emp) M with
  | rt d M' => rw [q1] at h; exact fun v μ' H' e m q => h v μ' H' (e.mono fun a z => no a z) m q
  | nx ρ' M' => rw [q1] at h; exact fun σ' μ' H' e o m s => h .non μ' H' (e.mono fun a z => no a z) (m.avm fun a z => .inl z) .non
  | bk ρ' M' => rw [q1] at h; exact h.elim
  | ct ρ' M' => rw [q1] at h; exact h.elim
  | exc c fs ρ' M' => rw [q1] at h; exact h.elim
  | bad => rw [q1] at h; exact h.elim

/-! ### the call -/
def eLam (G : (Mem → R D) → Mem → R D) (fb : SE) : SE := fun ρ M => match G (fun M' => fb ρ M') M with
  | .ok d M1 => .ok d M1
  | _ => .bad
theorem SRel.more2 (S : SRel X.K X.mg Z μ H ρ σ) (e : Ext μ No H μ' H') {om : Av} (h1 : ∀ a, om a → Z.om a ∨ Nil H a) (h2 : ∀ a, ownA ρ σ a → ¬ om a) : SRel X.K X.mg (Z.more om) μ' H' ρ σ := by
  have ha : ∀ b, avS om ρ σ b → avS Z.om ρ σ b ∨ Nil H b := fun b z => by
    rcases z with z | z
    · exact (h1 b z).elim (fun q => .inl (.inl q)) .inr
    · exact .inl (.inr z)
  refine ⟨S.len, S.base.trans0 e, S.ownN, fun j d h => ?_, fun j l h => ?_, S.inj, S.thk, fun j c fs h => ?_⟩
  · obtain ⟨v, e1, r⟩ := S.val j d h
    exact ⟨v, e1, r.mono e (fun _ z => z.elim) ha⟩
  · obtain ⟨b, ys, e1, e2, z, r, n, no⟩ := S.own j l h
    exact ⟨b, ys, e1, e.keep _ _ n (fun z => z) e2 (fun ps z => by cases z), z, r.mono e (fun _ z => z.elim) ha, e.out e2 n, h2 b ⟨j, l, h, e1⟩⟩
  · obtain ⟨b, cls, dx, e1, e2, r⟩ := S.hnd j c fs h
    exact ⟨b, cls, dx, e1, e2, r.mono e (fun _ z => z.elim) ha⟩
theorem de_lam {x a : Str} {st : Stmt} {g c P : Addr} {fd : FuncData} {k kg : Nat} {Ng : List Str} {params : Arguments} {body : Expr} {scope : Scope} {p lpos pos : Pos} {G : (Mem → R D) → Mem → R D} {fb : SE} (hg : Gl X x) (hm : X.mg x = some (.ref g)) (F : Fun X.K x x st g fd)
    (hb : Binds X.K fd [a] []) (Sg : FnScope Ng [a] (defScope st)) (hNg : Ng[0]? = some a) (hva : Vis (defScope st) a)
    (hkg : kg ≤ k + 1) (hG : ∀ cdv, Gives X kg Ng x (defScope st) g cdv (defBody st) a (X.env.qual ++ "<lambda>") (TTd X.K X.mg G))
    (TB : LamX.TabB X.base X.mg c P) (hcode : X.env.code = .ref c) (hmT : (P, X.env.qual ++ "<lambda>") ∈ Tbs.T X.K) (hu : ∀ p ∈ Tbs.T X.K, p.1 = P → p.2 = X.env.qual ++ "<lambda>") (hr : Room (k + 2) X.A) (hGd : X.A.guards = some []) (L : LamX.LamS X.env.scope scope) (hdef : defaultsOf params X.env = ([], []))
    (hbind : ∀ (q : Str) (cl : List (Str × Addr)) (pm cv ctv : Value), bindArgs (PySem.W.kla_fn "<lambda>" q params body scope cl pm cv ctv) ⟨[], []⟩ = pure [])
    (hbody : ∀ (A : Around) (outer : List PySem.Env) (s : Shared) (H : Hp) (E : XK) (f c' : Addr) (om : Av), Room k (A.deeper (LamX.lamEnv X scope s.heap.objs.size f c')) → A.guards = some [] → Takes (LamX.lamCx X A outer s H E scope f c') (fun cls d _ H => E cls d H) → DE (LamX.lamCx X A outer s H E scope f c') (Z.more om) (fun cls d _ H => E cls d H) body fb)
    (hdb : (x == ("__debug__" : Str)) = false := by decide) (hd : (a == ("__debug__" : Str)) = false := by decide) (hcd : (a == ("__classdict__" : Str)) = false := by decide) :
    DE X Z W (.Call (.Name x p) [.Lambda params body scope lpos] [] pos) (eLam G fb) := by
  obtain ⟨oc, od, kV, doc, pm, an, cdv, ct, osl, rfl, lk, hcd'⟩ := F.ex
  have hB : ∀ (A : Around) (outer : List PySem.Env) (s : Shared) (H : Hp) (E : XK) (f c' : Addr), Room k (A.deeper (LamX.lamEnv X scope s.heap.objs.size f c')) → A.guards = some [] → PE (LamX.lamCx X A outer s H E scope f c') body (fun σ J Q => ∃ om, tG relD X (Z.more om) (fun cls d _ H => E cls d H) fb σ J Q) := fun A outer s H E f c' hr hG2 =>
    ⟨fun pins s1 σ1 H1 Q I ⟨om, q⟩ => (hbody A outer s H E f c' om hr hG2 (takes_of rfl rfl rfl rfl)).run pins s1 σ1 H1 Q I q⟩
  refine PE.imp (pe_lam (k := k) (t := fun E σ J Q => ∃ om, tG relD X (Z.more om) (fun cls d _ H => E cls d H) fb σ J Q) (Ng := Ng) hg hm F.kp lk hcd' hb Sg hNg hva hkg (hG cdv) TB hcode hmT hu hr hGd L hdef hbind hB hdb hd hcd) fun σ H Q ⟨ρ, M, μ, S, m, h⟩ => ⟨m.tab, fun H1 eN T1 => ?_⟩
  have ex : Ext μ No H μ H1 := ⟨⟨[], by simp, by simp⟩, fun a o _ _ z t => eN a o z t, fun a z o q => by
    by_cases ht : ∃ ps, o = .tbl ps
    · exact ht
    · exact absurd (z o (eN a o q fun ps e => ht ⟨ps, e⟩)) ht⟩
  · have m1 : MemRel X.K μ (avS Z.om ρ σ) H1 M := m.mono ex (fun a ha o q => by
      obtain ⟨o', q', t⟩ := m.some' ha
      rw [q] at q'; cases q'
      exact eN a o q t) (fun _ z => z.elim) (fun a z => .inl z) (fun a z => ex.there (m.avs a z)) T1
    refine ⟨μ, M, avS Z.om ρ σ, fun M' => fb ρ M', m1, fun E J Q2 μ' M' av' e1 hav hav2 m2 r => ?_, ?_⟩
    · let om : Av := fun a => Z.om a ∨ (av' a ∧ ¬ ownA ρ σ a)
      have h1 : ∀ a, avS om ρ σ a → av' a := fun a z => by
        rcases z with (z | z) | z
        · exact hav a (.inl z)
        · exact z.1
        · exact hav a (.inr z)
      have h2 : ∀ a, av' a → avS om ρ σ a := fun a z => by
        by_cases q : ownA ρ σ a
        · exact .inr q
        · exact .inl (.inr ⟨z, q⟩)
      have S2 : SRel X.K X.mg (Z.more om) μ' J ρ σ := S.more2 (ex.trans0 e1) (fun a z => by
        rcases z with z | ⟨z, nz⟩
        · exact .inl z
        · rcases hav2 a z with z | z
          · exact z.elim .inl fun z => absurd z nz
          · exact .inr (ex.dom a z)) fun a z q => by
        rcases q with q | q
        · obtain ⟨j, l, q1, q2⟩ := z
          obtain ⟨b, ys, e1, e2, z, r, n, no⟩ := S.own j l q1
          rw [q2] at e1; cases e1
          exact no q
        · exact q.2 z
      refine ⟨om, ρ, M', μ', S2, m2.avm h1, ?_⟩
      dsimp only at r
      cases q : fb ρ M' with
      | ok d M2 => rw [q] at r; exact fun v μ2 H2 e m r' => r v μ2 H2 e (m.avm h2) (r'.avm fun a z => .inl (h2 a z))
      | exc c fs M2 => rw [q] at r; exact fun cls dx μ2 H2 e m x => r cls dx μ2 H2 e (m.avm h2) (x.mono (wr := No) .refl (fun _ z => z.elim) fun a z => .inl (h2 a z))
      | bad => rw [q] at r; exact r
    · unfold eLam at h
      cases q : G (fun M' => fb ρ M') M with
      | ok d M' => rw [q] at h; exact fun v μ' H' e m r => h v μ' H' (ex.trans0 e) m r
      | exc c fs M' => rw [q] at h; exact h.elim
      | bad => rw [q] at h; exact h.elim
end
end DD

set_option Elab.async false
set_option linter.all false
set_option autoImplicit false
set_option maxRecDepth 100000
set_option maxHeartbeats 2000000
/-! DD13: deep values as they lie in the heap; equality, membership, text. -/
namespace DD
open PySem PySem.Spec L2

mutual
inductive HRel (h : Heap) : D → Value → Prop
  | non : HRel h .non .none
  | bl (b : Bool) : HRel h (.bl b) (.bool b)
  | int (i : Int) (t : Tok) : HRel h (.int i) (.int i t)
  | str (x : Str) (t : Tok) : HRel h (.str x) (.str x t)
  | lst {a : Addr} {vs : Array Value} {ds : List D} : h.IsList a vs → HRels h ds vs.toList → HRel h (.lst ds) (.ref a)
  | tup {a : Addr} {vs : Array Value} {ds : List D} : h.IsTuple a vs → HRels h ds vs.toList → HRel h (.tup ds) (.ref a)
inductive HRels (h : Heap) : List D → List Value → Prop
  | nil : HRels h [] []
  | cons {d : D} {v : Value} {ds : List D} {vs : List Value} : HRel h d v → HRels h ds vs → HRels h (d :: ds) (v :: vs)
end
mutual
/-- nothing shared in it -/
def cln : D → Bool
  | .non | .bl _ | .int _ | .str _ => true
  | .tup l | .lst l => clns l
  | .ref _ => false
def clns : List D → Bool
  | [] => true
  | d :: ds => cln d && clns ds
end
mutual
def dep : D → Nat
  | .non | .bl _ | .int _ | .str _ | .ref _ => 0
  | .tup l | .lst l => deps l + 1
def deps : List D → Nat
  | [] => 0
  | d :: ds => max (dep d) (deps ds)
end
mutual
/-- == -/
def eqv : D → D → Bool
  | .non, .non => true
  | .bl a, .bl b => a == b
  | .bl a, .int j => (if a then 1 else 0) == j
  | .int i, .bl b => i == (if b then 1 else 0)
  | .int i, .int j => i == j
  | .str x, .str y => x == y
  | .lst xs, .lst ys => eqvs xs ys
  | .tup xs, .tup ys => eqvs xs ys
  | .ref i, .ref j => i == j
  | _, _ => false
def eqvs : List D → List D → Bool
  | [], [] => true
  | x :: xs, y :: ys => eqv x y && eqvs xs ys
  | _, _ => false
end
section
variable {X : Cx} [Tbs X.K] {pins : List (Addr × Obj)} {σ : L2.St} {H : Hp} {s : Shared} {μ : List Addr} {av : Av}
theorem HRels.length {h : Heap} : ∀ {ds : List D} {vs : List Value}, HRels h ds vs → ds.length = vs.length
  | _, _, .nil => rfl
  | _, _, .cons _ t => by simp [HRels.length t]
theorem HRels.at_ {h : Heap} : ∀ {ds : List D} {vs : List Value}, HRels h ds vs → ∀ (j : Nat) (h1 : j < ds.length) (h2 : j < vs.length), HRel h ds[j] vs[j]
  | _, _, .nil, _, h1, _ => absurd h1 (Nat.not_lt_zero _)
  | _, _, .cons q _, 0, _, _ => q
  | _, _, .cons _ t, j + 1, h1, h2 => HRels.at_ t j (Nat.lt_of_succ_lt_succ h1) (Nat.lt_of_succ_lt_succ h2)
mutual
theorem DRel.hr (I : Inv X pins σ H s) : ∀ {d : D} {v : V}, DRel X.K μ av H d v → ∀ {u : Value}, cln d = true → RelV v u → HRel s.heap d u
  | _, _, .non, _, _, r => by cases r; exact .non
  | _, _, .bl b, _, _, r => by cases r; exact .bl b
  | _, _, .int i, _, _, r => by obtain ⟨t, rfl⟩ := r; exact .int i t
  | _, _, .str x h, _, _, r => by obtain ⟨t, rfl⟩ := r; exact .str x t
  | _, _, .tup h n nv z rr, _, c, r => by
    cases r
    obtain ⟨us, r1, p1, _⟩ := I.tuple (.inl h)
    exact .tup p1 (by simpa using DRels.hrs I rr (by simpa [cln] using c) r1)
  | _, _, .tupK h z rr, _, c, r => by
    cases r
    obtain ⟨us, r1, p1, _⟩ := I.tuple (.inr h)
    exact .tup p1 (by simpa using DRels.hrs I rr (by simpa [cln] using c) r1)
  | _, _, .lst h n nv z rr, _, c, r => by
    cases r
    obtain ⟨us, r1, p1, _⟩ := I.list (.inl h)
    exact .lst p1.isList (by simpa using DRels.hrs I rr (by simpa [cln] using c) r1)
  | _, _, .lstK h z rr, _, c, r => by
    cases r
    obtain ⟨us, r1, p1, _⟩ := I.list (h H)
    exact .lst p1.isList (by simpa using DRels.hrs I rr (by simpa [cln] using c) r1)
  | _, _, .ref _, _, c, _ => by cases c
theorem DRels.hrs (I : Inv X pins σ H s) : ∀ {ds : List D} {vs : List V}, DRels X.K μ av H ds vs → ∀ {us : List Value}, clns ds = true → Vals vs us → HRels s.heap ds us
  | _, _, .nil, _, _, r => by cases r; exact .nil
  | _, _, .cons h t, _, c, r => by
    cases r with
    | cons r1 r2 =>
      simp only [clns, Bool.and_eq_true] at c
      exact .cons (DRel.hr I h c.1 r1) (DRels.hrs I t c.2 r2)
end
theorem BRel.hr (I : Inv X pins σ H s) {d : D} {v : V} {u : Value} (h : BRel X.K μ av H d v) (c : cln d = true) (r : RelV v u) : HRel s.heap d u := by
  rcases h with h | ⟨l, a, xs, rfl, rfl, e3, n, z, rr⟩
  · exact h.hr I c r
  · cases r
    obtain ⟨us, r1, p1, _⟩ := I.list (.of e3)
    exact .lst p1.isList (by simpa using DRels.hrs I rr (by simpa [cln] using c) r1)
mutual
theorem eqv_refl : ∀ d : D, eqv d d = true
  | .non => rfl
  | .bl b => by simp [eqv]
  | .int i => by simp [eqv]
  | .str x => by simp [eqv]
  | .ref x => by simp [eqv]
  | .lst xs => by simp only [eqv]; exact eqvs_refl xs
  | .tup xs => by simp only [eqv]; exact eqvs_refl xs
theorem eqvs_refl : ∀ xs : List D, eqvs xs xs = true
  | [] => rfl
  | x :: xs => by simp only [eqvs, eqv_refl x, eqvs_refl xs, Bool.and_self]
end
theorem eqvs_len : ∀ {xs ys : List D}, xs.length ≠ ys.length → eqvs xs ys = false
  | [], [], h => absurd rfl h
  | [], _ :: _, _ => rfl
  | _ :: _, [], _ => rfl
  | x :: xs, y :: ys, h => by simp only [eqvs, eqvs_len (xs := xs) (ys := ys) (by simpa using h), Bool.and_false]
theorem eqvs_pairs : ∀ (xs ys : List D), eqvs xs ys = ((List.range (min xs.length ys.length)).all (fun j => eqv (xs.getD j .non) (ys.getD j .non)) && xs.length == ys.length)
  | [], [] => rfl
  | [], _ :: _ => by simp [eqvs]
  | _ :: _, [] => by simp [eqvs]
  | x :: xs, y :: ys => by
    have ih := eqvs_pairs xs ys
    simp only [eqvs, ih, List.length_cons, Nat.succ_min_succ, List.range_succ_eq_map, List.all_cons, List.all_map, List.getD_cons_zero]
    rw [Bool.and_assoc]
    congr 1
    congr 1
    simp
theorem hl_same {h : Heap} {a : Addr} {xs ys : Array Value} (p : h.IsList a xs) (q : h.IsList a ys) : xs = ys := by
  obtain ⟨o, e, c, n, d⟩ := p
  obtain ⟨o', e', c', n', d'⟩ := q
  rw [e] at e'; cases e'
  rw [d] at d'; cases d'
  rfl
theorem ht_same {h : Heap} {a : Addr} {xs ys : Array Value} (p : h.IsTuple a xs) (q : h.IsTuple a ys) : xs = ys := by
  obtain ⟨o, e, c, n, d⟩ := p
  obtain ⟨o', e', c', n', d'⟩ := q
  rw [e] at e'; cases e'
  rw [d] at d'; cases d'
  rfl
mutual
theorem HRel.uniq {h : Heap} : ∀ (d e : D) (v : Value), HRel h d v → HRel h e v → d = e
  | .non, e, v, p, q => by cases p; cases q; rfl
  | .bl b, e, v, p, q => by cases p; cases q; rfl
  | .int b, e, v, p, q => by cases p; cases q; rfl
  | .str b, e, v, p, q => by cases p; cases q; rfl
  | .lst l, e, v, p, q => by
    cases p with
    | lst h1 h2 =>
      cases q with
      | lst k1 k2 => rw [hl_same h1 k1] at h2; rw [HRels.uniq l _ _ h2 k2]
      | tup k1 k2 =>
        obtain ⟨o, e, c, _⟩ := h1
        obtain ⟨o', e', c', _⟩ := k1
        rw [e] at e'; cases e'
        rw [c] at c'; simp at c'
  | .tup l, e, v, p, q => by
    cases p with
    | tup h1 h2 =>
      cases q with
      | tup k1 k2 => rw [ht_same h1 k1] at h2; rw [HRels.uniq l _ _ h2 k2]
      | lst k1 k2 =>
        obtain ⟨o, e, c, _⟩ := h1
        obtain ⟨o', e', c', _⟩ := k1
        rw [e] at e'; cases e'
        rw [c] at c'; simp at c'
  | .ref i, e, v, p, _ => by cases p
theorem HRels.uniq {h : Heap} : ∀ (ds es : List D) (vs : List Value), HRels h ds vs → HRels h es vs → ds = es
  | [], es, vs, p, q => by cases p; cases q; rfl
  | d :: ds, es, vs, p, q => by
    cases p with
    | cons p1 p2 =>
      cases q with
      | cons q1 q2 => rw [HRel.uniq d _ _ p1 q1, HRels.uniq ds _ _ p2 q2]
end
open SeqAt in
theorem eqv_run : ∀ (n : Nat) (d e : D) (A : Around) (s : Shared) (v u : Value), dep d ≤ n → HRel s.heap d v → HRel s.heap e u → A.units + n < cLine → EqAt A s v u (eqv d e)
  | n, d, e, A, s, v, u, hn, p, q, hu => by
    have h0 : A.units < cLine := by omega
    cases p with
    | non =>
      cases q with
      | non => exact EqAt.same _
      | bl b => exact EqAt.none_bool b
      | int i t => exact EqAt.none_int i t
      | str i t => exact EqAt.none_str i t
      | lst h _ => exact EqAt.none_list h h0
      | tup h _ => exact EqAt.none_tuple h h0
    | bl a =>
      cases q with
      | non => exact EqAt.bool_none a
      | bl b => exact EqAt.bool_bool a b
      | int i t => exact EqAt.bool_int a i t
      | str i t => exact EqAt.bool_str a i t
      | lst h _ => exact EqAt.bool_list a h h0
      | tup h _ => exact EqAt.bool_tuple a h h0
    | int a t0 =>
      cases q with
      | non => exact EqAt.int_none a t0
      | bl b => exact EqAt.int_bool a t0 b
      | int i t => exact EqAt.int_int a t0 i t
      | str i t => exact EqAt.int_str a t0 i t
      | lst h _ => exact EqAt.int_list a t0 h h0
      | tup h _ => exact EqAt.int_tuple a t0 h h0
    | str a t0 =>
      cases q with
      | non => exact EqAt.str_none a t0
      | bl b => exact EqAt.str_bool a t0 b
      | int i t => exact EqAt.str_int a t0 i t
      | str i t => exact EqAt.str_str a t0 i t
      | lst h _ => exact EqAt.str_list a t0 h h0
      | tup h _ => exact EqAt.str_tuple a t0 h h0
    | @lst a vs xs h hr =>
      cases q with
      | non => exact EqAt.list_none h h0
      | bl b => exact EqAt.list_bool b h h0
      | int i t => exact EqAt.list_int i t h h0
      | str i t => exact EqAt.list_str i t h h0
      | tup k _ => exact EqAt.list_tuple h k h0
      | @lst b ws ys k kr =>
        have n1 : vs.size = xs.length := by simpa using hr.length.symm
        have n2 : ws.size = ys.length := by simpa using kr.length.symm
        by_cases hab : a = b
        · subst hab
          have e := HRel.uniq _ _ _ (.lst h hr) (.lst k kr)
          rw [e, eqv_refl]
          exact EqAt.same _
        · simp only [eqv]
          by_cases hsz : vs.size = ws.size
          · have e := eqvs_pairs xs ys
            rw [show xs.length = ys.length by omega, Nat.min_self, beq_self_eq_true, Bool.and_true, ← n2, ← hsz] at e
            rw [e]
            refine EqAt.of_refs hab (RcAt.lists h k hsz h0 fun j j1 j2 => ?_)
            have hj1 : j < xs.length := by omega
            have hj2 : j < ys.length := by omega
            have hd : dep xs[j] ≤ deps xs := dep_le hj1
            have hde : dep (D.lst xs) = deps xs + 1 := by simp [dep]
            have := eqv_run (n - 1) xs[j] ys[j] A.in1 s vs.toList[j] ws.toList[j] (by omega) (hr.at_ j hj1 (by simpa using j1)) (kr.at_ j hj2 (by simpa using j2)) (by
              show A.units + 1 + _ < _
              omega)
            simpa [List.getD_eq_getElem?_getD, hj1, hj2] using this
          · rw [eqvs_len (by omega)]
            exact EqAt.of_refs hab (RcAt.lists_lengths h k (by simpa using hsz) h0)
    | @tup a vs xs h hr =>
      cases q with
      | non => exact EqAt.tuple_none h h0
      | bl b => exact EqAt.tuple_bool b h h0
      | int i t => exact EqAt.tuple_int i t h h0
      | str i t => exact EqAt.tuple_str i t h h0
      | lst k _ => exact EqAt.tuple_list h k h0
      | @tup b ws ys k kr =>
        have n1 : vs.size = xs.length := by simpa using hr.length.symm
        have n2 : ws.size = ys.length := by simpa using kr.length.symm
        by_cases hab : a = b
        · subst hab
          have e := HRel.uniq _ _ _ (.tup h hr) (.tup k kr)
          rw [e, eqv_refl]
          exact EqAt.same _
        · simp only [eqv]
          rw [eqvs_pairs, ← n1, ← n2]
          refine EqAt.of_refs hab (RcAt.tuples h k h0 fun j j1 j2 => ?_)
          have hj1 : j < xs.length := by omega
          have hj2 : j < ys.length := by omega
          have hd : dep xs[j] ≤ deps xs := dep_le hj1
          have hde : dep (D.tup xs) = deps xs + 1 := by simp [dep]
          have := eqv_run (n - 1) xs[j] ys[j] A.in1 s vs.toList[j] ws.toList[j] (by omega) (hr.at_ j hj1 (by simpa using j1)) (kr.at_ j hj2 (by simpa using j2)) (by
            show A.units + 1 + _ < _
            omega)
          simpa [List.getD_eq_getElem?_getD, hj1, hj2] using this
termination_by n => n
decreasing_by all_goals omega
where
  dep_le : ∀ {xs : List D} {j : Nat} (h : j < xs.length), dep xs[j] ≤ deps xs
    | x :: xs, 0, _ => Nat.le_max_left _ _
    | x :: xs, j + 1, h => Nat.le_trans (dep_le (xs := xs) (j := j) (Nat.lt_of_succ_lt_succ h)) (Nat.le_max_right _ _)
theorem pair_run {xs ys : List D} {vs ws : Array Value} {s : Shared} {n : Nat} (hr : HRels s.heap xs vs.toList) (kr : HRels s.heap ys ws.toList) (hd : deps xs + 1 ≤ n) {A : Around} (hu : A.units + n < cLine) :
    ∀ j (h1 : j < vs.size) (h2 : j < ws.size), SeqAt.EqAt A.in1 s vs[j] ws[j] (eqv (xs.getD j .non) (ys.getD j .non)) := fun j j1 j2 => by
  have n1 : vs.size = xs.length := by simpa using hr.length.symm
  have n2 : ws.size = ys.length := by simpa using kr.length.symm
  have hj1 : j < xs.length := by omega
  have hj2 : j < ys.length := by omega
  have hd' : dep xs[j] ≤ deps xs := eqv_run.dep_le hj1
  have := eqv_run (n - 1) xs[j] ys[j] A.in1 s vs.toList[j] ws.toList[j] (by omega) (hr.at_ j hj1 (by simpa using j1)) (kr.at_ j hj2 (by simpa using j2)) (by
    show A.units + 1 + _ < _
    omega)
  simpa [List.getD_eq_getElem?_getD, hj1, hj2] using this
open SeqAt in
theorem rc_run (n : Nat) (d e : D) (A : Around) (s : Shared) (v u : Value) (hn : dep d ≤ n) (p : HRel s.heap d v) (q : HRel s.heap e u) (hu : A.units + n < cLine) : RcAt A s v u (eqv d e) := by
    have h0 : A.units < cLine := by omega
    cases p with
    | non =>
      cases q with
      | non => exact RcAt.none_none
      | bl b => exact RcAt.none_bool b
      | int i t => exact RcAt.none_int i t
      | str i t => exact RcAt.none_str i t
      | lst k _ => exact RcAt.none_list k h0
      | tup k _ => exact RcAt.none_tuple k h0
    | bl a =>
      cases q with
      | non => exact RcAt.bool_none a
      | bl b => exact RcAt.bool_bool a b
      | int i t => exact RcAt.bool_int a i t
      | str i t => exact RcAt.bool_str a i t
      | lst k _ => exact RcAt.bool_list a k h0
      | tup k _ => exact RcAt.bool_tuple a k h0
    | int a t0 =>
      cases q with
      | non => exact RcAt.int_none a t0
      | bl b => exact RcAt.int_bool a t0 b
      | int i t => exact RcAt.int_int a t0 i t
      | str i t => exact RcAt.int_str a t0 i t
      | lst k _ => exact RcAt.int_list a t0 k h0
      | tup k _ => exact RcAt.int_tuple a t0 k h0
    | str a t0 =>
      cases q with
      | non => exact RcAt.str_none a t0
      | bl b => exact RcAt.str_bool a t0 b
      | int i t => exact RcAt.str_int a t0 i t
      | str i t => exact RcAt.str_str a t0 i t
      | lst k _ => exact RcAt.str_list a t0 k h0
      | tup k _ => exact RcAt.str_tuple a t0 k h0
    | @lst a vs xs h hr =>
      cases q with
      | non => exact RcAt.list_none h h0
      | bl b => exact RcAt.list_bool b h h0
      | int i t => exact RcAt.list_int i t h h0
      | str i t => exact RcAt.list_str i t h h0
      | tup k _ => exact RcAt.list_tuple h k h0
      | @lst b ws ys k kr =>
        have he := pair_run hr kr (n := n) (by simp only [dep] at hn; omega) (A := A) hu
        have n1 : vs.size = xs.length := by simpa using hr.length.symm
        have n2 : ws.size = ys.length := by simpa using kr.length.symm
        simp only [eqv]
        by_cases hsz : vs.size = ws.size
        · have e := eqvs_pairs xs ys
          rw [show xs.length = ys.length by omega, Nat.min_self, beq_self_eq_true, Bool.and_true, ← n2, ← hsz] at e
          rw [e]
          exact RcAt.lists h k hsz h0 he
        · rw [eqvs_len (by omega)]
          exact RcAt.lists_lengths h k (by simpa using hsz) h0
    | @tup a vs xs h hr =>
      cases q with
      | non => exact RcAt.tuple_none h h0
      | bl b => exact RcAt.tuple_bool b h h0
      | int i t => exact RcAt.tuple_int i t h h0
      | str i t => exact RcAt.tuple_str i t h h0
      | lst k _ => exact RcAt.tuple_list h k h0
      | @tup b ws ys k kr =>
        have he := pair_run hr kr (n := n) (by simp only [dep] at hn; omega) (A := A) hu
        have n1 : vs.size = xs.length := by simpa using hr.length.symm
        have n2 : ws.size = ys.length := by simpa using kr.length.symm
        simp only [eqv]
        rw [eqvs_pairs, ← n1, ← n2]
        exact RcAt.tuples h k h0 he
open SeqAt in
theorem ne_run (n : Nat) (d e : D) (A : Around) (s : Shared) (v u : Value) (hn : dep d ≤ n) (p : HRel s.heap d v) (q : HRel s.heap e u) (hu : A.units + n < cLine) : RcNeAt A s v u (!eqv d e) := by
    have h0 : A.units < cLine := by omega
    cases p with
    | non =>
      cases q with
      | non => exact RcNeAt.none_none
      | bl b => exact RcNeAt.none_bool b
      | int i t => exact RcNeAt.none_int i t
      | str i t => exact RcNeAt.none_str i t
      | lst k _ => exact RcNeAt.none_list k h0
      | tup k _ => exact RcNeAt.none_tuple k h0
    | bl a =>
      cases q with
      | non => exact RcNeAt.bool_none a
      | bl b => exact RcNeAt.bool_bool a b
      | int i t => exact RcNeAt.bool_int a i t
      | str i t => exact RcNeAt.bool_str a i t
      | lst k _ => exact RcNeAt.bool_list a k h0
      | tup k _ => exact RcNeAt.bool_tuple a k h0
    | int a t0 =>
      cases q with
      | non => exact RcNeAt.int_none a t0
      | bl b => exact RcNeAt.int_bool a t0 b
      | int i t => exact RcNeAt.int_int a t0 i t
      | str i t => exact RcNeAt.int_str a t0 i t
      | lst k _ => exact RcNeAt.int_list a t0 k h0
      | tup k _ => exact RcNeAt.int_tuple a t0 k h0
    | str a t0 =>
      cases q with
      | non => exact RcNeAt.str_none a t0
      | bl b => exact RcNeAt.str_bool a t0 b
      | int i t => exact RcNeAt.str_int a t0 i t
      | str i t => exact RcNeAt.str_str a t0 i t
      | lst k _ => exact RcNeAt.str_list a t0 k h0
      | tup k _ => exact RcNeAt.str_tuple a t0 k h0
    | @lst a vs xs h hr =>
      cases q with
      | non => exact RcNeAt.list_none h h0
      | bl b => exact RcNeAt.list_bool b h h0
      | int i t => exact RcNeAt.list_int i t h h0
      | str i t => exact RcNeAt.list_str i t h h0
      | tup k _ => exact RcNeAt.list_tuple h k h0
      | @lst b ws ys k kr =>
        have he := pair_run hr kr (n := n) (by simp only [dep] at hn; omega) (A := A) hu
        have n1 : vs.size = xs.length := by simpa using hr.length.symm
        have n2 : ws.size = ys.length := by simpa using kr.length.symm
        simp only [eqv]
        by_cases hsz : vs.size = ws.size
        · have e := eqvs_pairs xs ys
          rw [show xs.length = ys.length by omega, Nat.min_self, beq_self_eq_true, Bool.and_true, ← n2, ← hsz] at e
          rw [e]
          exact RcNeAt.lists h k hsz h0 he
        · rw [eqvs_len (by omega)]
          exact RcNeAt.lists_lengths h k (by simpa using hsz) h0
    | @tup a vs xs h hr =>
      cases q with
      | non => exact RcNeAt.tuple_none h h0
      | bl b => exact RcNeAt.tuple_bool b h h0
      | int i t => exact RcNeAt.tuple_int i t h h0
      | str i t => exact RcNeAt.tuple_str i t h h0
      | lst k _ => exact RcNeAt.tuple_list h k h0
      | @tup b ws ys k kr =>
        have he := pair_run hr kr (n := n) (by simp only [dep] at hn; omega) (A := A) hu
        have n1 : vs.size = xs.length := by simpa using hr.length.symm
        have n2 : ws.size = ys.length := by simpa using kr.length.symm
        simp only [eqv]
        rw [eqvs_pairs, ← n1, ← n2]
        exact RcNeAt.tuples h k h0 he
end
end DD

set_option Elab.async false
set_option linter.all false
set_option autoImplicit false
set_option maxRecDepth 100000
set_option maxHeartbeats 2000000
/-! DD14: operators. -/
namespace DD
open PySem PySem.Spec L2

def sz (n : Nat) (d : D) : Option D := if n ≤ sizeLine then some d else none
def gAdd (M : Mem) : D → D → Option D
  | .int i, .int j => some (.int (i + j))
  | .str a, .str b => sz (a.length + b.length) (.str (a ++ b))
  | .tup l, .tup m => sz (l.length + m.length) (.tup (l ++ m))
  | x, y => match lstOf M x, lstOf M y with
    | some l, some m => sz (l.length + m.length) (.lst (l ++ m))
    | _, _ => none
def gSub (_ : Mem) : D → D → Option D
  | .int i, .int j => some (.int (i - j))
  | _, _ => none
instance {i j : Int} : Decidable (CMul i j) := by unfold CMul; infer_instance
instance {i j : Int} : Decidable (CMulW i j) := by unfold CMulW; infer_instance
instance {i j : Int} : Decidable (CDiv i j) := by unfold CDiv; infer_instance
instance {i j : Int} : Decidable (CDivW i j) := by unfold CDivW; infer_instance
def gMul (_ : Mem) : D → D → Option D
  | .int i, .int j => if CMul i j ∨ CMulW i j then some (.int (i * j)) else none
  | _, _ => none
def gDiv (_ : Mem) : D → D → Option D
  | .int i, .int j => if CDiv i j ∨ CDivW i j then some (.int (i / j)) else none
  | _, _ => none
def gMod (_ : Mem) : D → D → Option D
  | .int i, .int j => if 0 < j then some (.int (i % j)) else none
  | _, _ => none
def gPow (_ : Mem) : D → D → Option D
  | .int i, .int j => if 0 ≤ j ∧ (Builtin.Int.intBits i : Int) * j ≤ 2 ^ 27 then some (.int (i ^ j.toNat)) else none
  | _, _ => none
def gLt (_ : Mem) : D → D → Option D
  | .int i, .int j => some (.bl (decide (i < j)))
  | .str a, .str b => some (.bl (decide (a.cps.toList < b.cps.toList)))
  | _, _ => none
def gLe (_ : Mem) : D → D → Option D
  | .int i, .int j => some (.bl (decide (i ≤ j)))
  | .str a, .str b => some (.bl (!decide (b.cps.toList < a.cps.toList)))
  | _, _ => none
def gGt (_ : Mem) : D → D → Option D
  | .int i, .int j => some (.bl (decide (j < i)))
  | .str a, .str b => some (.bl (decide (b.cps.toList < a.cps.toList)))
  | _, _ => none
def gGe (_ : Mem) : D → D → Option D
  | .int i, .int j => some (.bl (decide (j ≤ i)))
  | .str a, .str b => some (.bl (!decide (a.cps.toList < b.cps.toList)))
  | _, _ => none
def plainD (d : D) : Bool := cln d && decide (dep d ≤ 60)
def gEq (_ : Mem) (x y : D) : Option D := if plainD x && plainD y then some (.bl (eqv x y)) else none
def gNe (_ : Mem) (x y : D) : Option D := if plainD x && plainD y then some (.bl (!eqv x y)) else none
def isNon : D → Bool
  | .non => true
  | _ => false
def gIs (_ : Mem) (x y : D) : Option D := if isNon y then some (.bl (isNon x)) else none
def gIsNot (_ : Mem) (x y : D) : Option D := if isNon y then some (.bl (!isNon x)) else none
/-- a text within a text -/
def strIn (i j : Str) : Bool := match i.cps.toList with
  | [c] => decide (c ∈ j.cps.toList)
  | _ => !(Builtin.Str.occurrences j i 0 j.length 1).isEmpty
def gIn (M : Mem) (x y : D) : Option D := match x, y with
  | .str i, .str j => some (.bl (strIn i j))
  | x, y => match seqOf M y with
    | some l => if plainD x && l.all plainD then some (.bl (l.any fun z => eqv z x)) else none
    | none => none
def gNotIn (M : Mem) (x y : D) : Option D := match x, y with
  | .str i, .str j => some (.bl (!strIn i j))
  | x, y => match seqOf M y with
    | some l => if plainD x && l.all plainD then some (.bl (!l.any fun z => eqv z x)) else none
    | none => none

section
variable {X : Cx} [Tbs X.K] {μ : List Addr} {av : Av} {H : Hp} {M : Mem} {x y d : D} {v w : V} {Q : VK}
theorem sz_some {n : Nat} {d e : D} (h : sz n d = some e) : n ≤ sizeLine ∧ e = d := by
  unfold sz at h
  split at h
  · rename_i q; exact ⟨q, (Option.some.inj h).symm⟩
  · cases h
/-- list + list, wherever they lie -/
theorem op_catQ : OpR X (binaryOp .Add) (fun x y H Q => ∃ l b xs zs, x = .ref l ∧ y = .ref b ∧ SqL X.K H l xs ∧ SqL X.K H b zs ∧ xs.length + zs.length ≤ sizeLine ∧ ∀ p, H p = none → Q (.ref p) (upd H p (.lst (xs ++ zs)))) := by
  intro pins s σ H x y v u Q I rx ry h
  obtain ⟨l, b, xs, zs, rfl, rfl, h1, h2, hz, q⟩ := h
  cases rx
  cases ry
  obtain ⟨its, r1, ⟨⟨cls, dd, data, sl⟩, n, e1, c1, d1, t1⟩, _⟩ := I.list h1
  obtain ⟨its2, r2, ⟨⟨cls2, dd2, data2, sl2⟩, n2, e2, c2, d2, t2⟩, _⟩ := I.list h2
  simp only at c1 t1 c2 t2
  subst c1 t1 c2 t2
  have k1 := r1.length
  have k2 := r2.length
  refine concat_meets ⟨_, e1, rfl⟩ ⟨_, e2, rfl⟩ noFill_list_add seq_list_add PySem.F.slot_list_add PySem.F.entry_list_add (PySem.F.args_list_add_2 _ _) (PyProof.Rows.list_addW l b its.toArray its2.toArray n n2 dd dd2 sl sl2 (by simp; omega)) ⟨e1, e2, ?_⟩
  rw [show its.toArray ++ its2.toArray = (its ++ its2).toArray by simp]
  exact ⟨.ref _, _, I.lnew (t' := s.toks) (r1.append r2) (by rw [List.length_append]; omega), rfl, q _ I.fresh⟩
theorem BRel.tup_inv {l : List D} (r : BRel X.K μ av H (.tup l) v) : ∃ a xs, v = .ref a ∧ SqT X.K H a xs ∧ xs.length ≤ sizeLine ∧ DRels X.K μ av H l xs := tup_of r rfl
theorem o2_add : Op2 X (binaryOp .Add) gAdd := ⟨_, op_add.or (op_add_str.or (op_catQ.or op_catA)), fun μ av H M x y v w d Q m rx ry e h => by
  unfold gAdd at e
  split at e
  · cases e
    exact .inl ⟨_, _, rx.int_inv, ry.int_inv, h _ H .refl m (.int _)⟩
  · obtain ⟨q, rfl⟩ := sz_some e
    obtain ⟨rfl, h1⟩ := rx.str_inv
    obtain ⟨rfl, h2⟩ := ry.str_inv
    exact .inr (.inl ⟨_, _, rfl, rfl, q, h _ H .refl m (.str _ (by rw [strLen_append]; exact q))⟩)
  · rename_i l k
    obtain ⟨q, rfl⟩ := sz_some e
    obtain ⟨a, xs, rfl, sa, za, ra⟩ := rx.tup_inv
    obtain ⟨b, ys, rfl, sb, zb, rb⟩ := ry.tup_inv
    have la := ra.length
    have lb := rb.length
    refine .inr (.inr (.inr ⟨a, b, xs, ys, rfl, rfl, sa, sb, by omega, fun z => ?_, fun z1 z2 => ?_, fun z1 z2 => ?_⟩))
    · subst z
      cases ra
      rcases ry with ry | ⟨_, _, _, z, _⟩
      · exact h _ H .refl m ry
      · cases z
    · subst z2
      cases rb
      rcases rx with rx | ⟨_, _, _, z, _⟩
      · rw [List.append_nil] at h
        exact h _ H .refl m rx
      · cases z
    · exact Ans.tup (X := X) h m (by rw [List.length_append]; omega) (ra.append rb)
  · split at e
    · rename_i l k hl hk
      obtain ⟨q, rfl⟩ := sz_some e
      obtain ⟨a, xs, rfl, sa, za, ra⟩ := lst_of m rx hl
      obtain ⟨b, ys, rfl, sb, zb, rb⟩ := lst_of m ry hk
      have la := ra.length
      have lb := rb.length
      exact .inr (.inr (.inl ⟨a, b, xs, ys, rfl, rfl, sa, sb, by omega, Ans.lst (X := X) h m (by rw [List.length_append]; omega) (ra.append rb)⟩))
    · cases e⟩
theorem o2_sub : Op2 X (binaryOp .Sub) gSub := ⟨_, op_sub, fun μ av H M x y v w d Q m rx ry e h => by
  unfold gSub at e
  split at e
  · cases e; exact ⟨_, _, rx.int_inv, ry.int_inv, h _ H .refl m (.int _)⟩
  · cases e⟩
theorem o2_mul : Op2 X (binaryOp .Mult) gMul := ⟨_, op_mul.or op_mulW, fun μ av H M x y v w d Q m rx ry e h => by
  unfold gMul at e
  split at e
  · split at e
    · rename_i q
      cases e
      rcases q with q | q
      · exact .inl ⟨_, _, rx.int_inv, ry.int_inv, q, h _ H .refl m (.int _)⟩
      · exact .inr ⟨_, _, rx.int_inv, ry.int_inv, q, h _ H .refl m (.int _)⟩
    · cases e
  · cases e⟩
theorem o2_fdiv : Op2 X (binaryOp .FloorDiv) gDiv := ⟨_, op_fdiv.or op_fdivW, fun μ av H M x y v w d Q m rx ry e h => by
  unfold gDiv at e
  split at e
  · split at e
    · rename_i q
      cases e
      rcases q with q | q
      · exact .inl ⟨_, _, rx.int_inv, ry.int_inv, q, h _ H .refl m (.int _)⟩
      · exact .inr ⟨_, _, rx.int_inv, ry.int_inv, q, h _ H .refl m (.int _)⟩
    · cases e
  · cases e⟩
theorem o2_mod : Op2 X (binaryOp .Mod) gMod := ⟨_, op_mod, fun μ av H M x y v w d Q m rx ry e h => by
  unfold gMod at e
  split at e
  · split at e
    · rename_i q
      cases e
      exact ⟨_, _, rx.int_inv, ry.int_inv, q, h _ H .refl m (.int _)⟩
    · cases e
  · cases e⟩
theorem op_powW : OpR X (binaryOp .Pow) (rI (fun i j => 0 ≤ j ∧ (Builtin.Int.intBits i : Int) * j ≤ 2 ^ 27) fun i j => .int (i ^ j.toNat)) := opI fun _ _ _ _ _ _ _ hc q => PyProof.Rows.pow_int hc.1 hc.2 q
theorem o2_pow : Op2 X (binaryOp .Pow) gPow := ⟨_, op_powW, fun μ av H M x y v w d Q m rx ry e h => by
  unfold gPow at e
  split at e
  · split at e
    · rename_i q
      cases e
      exact ⟨_, _, rx.int_inv, ry.int_inv, q, h _ H .refl m (.int _)⟩
    · cases e
  · cases e⟩
theorem o2_lt : Op2 X (compareOp .Lt) gLt := ⟨_, op_lt.or op_lt_str, fun μ av H M x y v w d Q m rx ry e h => by
  unfold gLt at e
  split at e
  · cases e; exact .inl ⟨_, _, rx.int_inv, ry.int_inv, h _ H .refl m (.bl _)⟩
  · cases e; exact .inr ⟨_, _, rx.str_inv.1, ry.str_inv.1, h _ H .refl m (.bl _)⟩
  · cases e⟩
theorem o2_le : Op2 X (compareOp .LtE) gLe := ⟨_, op_le.or op_le_str, fun μ av H M x y v w d Q m rx ry e h => by
  unfold gLe at e
  split at e
  · cases e; exact .inl ⟨_, _, rx.int_inv, ry.int_inv, h _ H .refl m (.bl _)⟩
  · cases e; exact .inr ⟨_, _, rx.str_inv.1, ry.str_inv.1, h _ H .refl m (.bl _)⟩
  · cases e⟩
theorem o2_gt : Op2 X (compareOp .Gt) gGt := ⟨_, op_gt.or op_gt_str, fun μ av H M x y v w d Q m rx ry e h => by
  unfold gGt at e
  split at e
  · cases e; exact .inl ⟨_, _, rx.int_inv, ry.int_inv, h _ H .refl m (.bl _)⟩
  · cases e; exact .inr ⟨_, _, rx.str_inv.1, ry.str_inv.1, h _ H .refl m (.bl _)⟩
  · cases e⟩
theorem o2_ge : Op2 X (compareOp .GtE) gGe := ⟨_, op_ge.or op_ge_str, fun μ av H M x y v w d Q m rx ry e h => by
  unfold gGe at e
  split at e
  · cases e; exact .inl ⟨_, _, rx.int_inv, ry.int_inv, h _ H .refl m (.bl _)⟩
  · cases e; exact .inr ⟨_, _, rx.str_inv.1, ry.str_inv.1, h _ H .refl m (.bl _)⟩
  · cases e⟩
theorem isNon_iff (r : BRel X.K μ av H d v) : decide (v = .non) = isNon d := by
  have := r.non_iff
  cases d <;> simp_all [isNon]
theorem isNon_eq (h : isNon d = true) : d = .non := by cases d <;> first | rfl | cases h
theorem o2_is : Op2 X (compareOp .Is) gIs := ⟨_, op_isN, fun μ av H M x y v w d Q m rx ry e h => by
  unfold gIs at e
  split at e
  · rename_i q
    cases e
    rw [isNon_eq q] at ry
    refine ⟨ry.non_inv, ?_⟩
    rw [isNon_iff rx]
    exact h _ H .refl m (.bl _)
  · cases e⟩
theorem o2_isnot : Op2 X (compareOp .IsNot) gIsNot := ⟨_, op_notN, fun μ av H M x y v w d Q m rx ry e h => by
  unfold gIsNot at e
  split at e
  · rename_i q
    cases e
    rw [isNon_eq q] at ry
    refine ⟨ry.non_inv, ?_⟩
    rw [isNon_iff rx]
    exact h _ H .refl m (.bl _)
  · cases e⟩
theorem plainD_cln (h : plainD d = true) : cln d = true := (Bool.and_eq_true_iff.mp h).1
theorem plainD_dep (h : plainD d = true) : dep d ≤ 60 := of_decide_eq_true (Bool.and_eq_true_iff.mp h).2
theorem hrel_of {pins : List (Addr × Obj)} {σ : L2.St} {s : Shared} {u : Value} (I : Inv X pins σ H s) (h : BRel X.K μ av H d v) (p : plainD d = true) (r : RelV v u) : HRel s.heap d u := h.hr I (plainD_cln p) r
theorem o2_eq (hu : X.A.units + 64 < cLine) : Op2 X (compareOp .Eq) gEq := ⟨fun v w H Q => ∃ (μ : List Addr) (av : Av) (x y : D), BRel X.K μ av H x v ∧ BRel X.K μ av H y w ∧ plainD x = true ∧ plainD y = true ∧ Q (.bl (eqv x y)) H,
  fun pins s σ H x y v u Q I rx ry h => by
    obtain ⟨μ, av, dx, dy, bx, by', px, py, q⟩ := h
    exact rc_run 60 dx dy X.A s v u (plainD_dep px) (hrel_of I bx px rx) (hrel_of I by' py ry) (by omega) X.prog X.w X.xe _ ⟨.bl _, H, I, rfl, q⟩,
  fun μ av H M x y v w d Q m rx ry e h => by
    unfold gEq at e
    split at e
    · rename_i q
      cases e
      rw [Bool.and_eq_true] at q
      exact ⟨μ, av, x, y, rx, ry, q.1, q.2, h _ H .refl m (.bl _)⟩
    · cases e⟩
theorem o2_ne (hu : X.A.units + 64 < cLine) : Op2 X (compareOp .NotEq) gNe := ⟨fun v w H Q => ∃ (μ : List Addr) (av : Av) (x y : D), BRel X.K μ av H x v ∧ BRel X.K μ av H y w ∧ plainD x = true ∧ plainD y = true ∧ Q (.bl (!eqv x y)) H,
  fun pins s σ H x y v u Q I rx ry h => by
    obtain ⟨μ, av, dx, dy, bx, by', px, py, q⟩ := h
    exact ne_run 60 dx dy X.A s v u (plainD_dep px) (hrel_of I bx px rx) (hrel_of I by' py ry) (by omega) X.prog X.w X.xe _ ⟨.bl _, H, I, rfl, q⟩,
  fun μ av H M x y v w d Q m rx ry e h => by
    unfold gNe at e
    split at e
    · rename_i q
      cases e
      rw [Bool.and_eq_true] at q
      exact ⟨μ, av, x, y, rx, ry, q.1, q.2, h _ H .refl m (.bl _)⟩
    · cases e⟩
theorem found_strIn (i j : Str) : (!(Builtin.Str.occurrences j i 0 j.length 1).isEmpty) = strIn i j := by
  unfold strIn
  split
  · rename_i c hc
    have e : i = ⟨#[c]⟩ := by
      cases i with
      | mk cps => simp at hc; rw [← hc]
    rw [e]
    exact PySem.StrLaws.found_one j c
  · rfl
open Classical in
/-- what a value is equal to, told by what lies in the heap -/
noncomputable def eqOf (h : Heap) (d : D) (v : Value) : Bool := if q : ∃ z, HRel h z v then eqv q.choose d else false
theorem eqOf_is {h : Heap} {z d : D} {v : Value} (r : HRel h z v) : eqOf h d v = eqv z d := by
  have q : ∃ z, HRel h z v := ⟨z, r⟩
  unfold eqOf
  rw [dif_pos q, HRel.uniq _ _ _ q.choose_spec r]
theorem any_eqOf {h : Heap} {d : D} : ∀ {l : List D} {vs : List Value}, HRels h l vs → vs.any (eqOf h d) = l.any fun z => eqv z d
  | _, _, .nil => rfl
  | _, _, .cons r t => by simp only [List.any_cons, eqOf_is r, any_eqOf t]
theorem mem_hr {h : Heap} : ∀ {l : List D} {vs : List Value}, HRels h l vs → ∀ v ∈ vs, ∃ z ∈ l, HRel h z v
  | _, _, .nil, v, q => by cases q
  | _, _, .cons r t, v, q => by
    rcases List.mem_cons.mp q with rfl | q
    · exact ⟨_, List.mem_cons_self, r⟩
    · obtain ⟨z, hz, r⟩ := mem_hr t v q
      exact ⟨z, List.mem_cons_of_mem _ hz, r⟩
theorem clns_all : ∀ {l : List D}, l.all plainD = true → clns l = true
  | [], _ => rfl
  | d :: l, h => by
    rw [List.all_cons, Bool.and_eq_true] at h
    simp only [clns, plainD_cln h.1, clns_all h.2, Bool.and_self]
theorem in_run {pins : List (Addr × Obj)} {σ : L2.St} {s : Shared} (hu : X.A.units + 64 < cLine) (I : Inv X pins σ H s) {l : List D} {vs : List Value} {u : Value} (p : l.all plainD = true) (hr : HRels s.heap l vs) (hx : HRel s.heap d u) : ∀ y, y ∈ vs.toArray → SeqAt.EqAt X.A.in1 s y u (eqOf s.heap d y) := fun y hy => by
  obtain ⟨z, hz, r⟩ := mem_hr hr y (by simpa using hy)
  rw [eqOf_is r]
  exact eqv_run 60 z d X.A.in1 s y u (plainD_dep (List.all_eq_true.mp p z hz)) r hx (by show X.A.units + 1 + 60 < _; omega)
def rInQ (X : Cx) [Tbs X.K] (f : Bool → Bool) : R2 := fun v w H Q => (∃ i j, v = .str i ∧ w = .str j ∧ Q (.bl (f (strIn i j))) H) ∨
  ∃ (μ : List Addr) (av : Av) (x : D) (l : List D) (a : Addr) (xs : List V), BRel X.K μ av H x v ∧ w = .ref a ∧ (SqL X.K H a xs ∨ SqT X.K H a xs) ∧ DRels X.K μ av H l xs ∧ plainD x = true ∧ l.all plainD = true ∧ Q (.bl (f (l.any fun z => eqv z x))) H
theorem op_inQ (hu : X.A.units + 64 < cLine) : OpR X (compareOp .In) (rInQ X id) := fun pins s σ H x y v u Q I rx ry h => by
  rcases h with ⟨i, j, rfl, rfl, q⟩ | ⟨μ, av, dx, l, a, xs, bx, rfl, sq, rr, px, pl, q⟩
  · obtain ⟨t, rfl⟩ := rx
    obtain ⟨t', rfl⟩ := ry
    refine PyProof.Rows.in_str ?_
    rw [found_strIn]
    exact ⟨.bl _, H, I, rfl, q⟩
  · cases ry
    have hx := hrel_of I bx px rx
    rcases sq with sq | sq
    · obtain ⟨us, r1, p1, _⟩ := I.list sq
      have hr := DRels.hrs I rr (clns_all pl) r1
      refine SeqAt.in_listAt (eqOf s.heap dx) p1.isList (in_run hu I pl hr hx) ?_
      rw [show us.toArray.any (eqOf s.heap dx) = us.any (eqOf s.heap dx) by simp, any_eqOf hr]
      exact ⟨.bl _, H, I, rfl, q⟩
    · obtain ⟨us, r1, p1, _⟩ := I.tuple sq
      have hr := DRels.hrs I rr (clns_all pl) r1
      refine SeqAt.in_tupleAt (eqOf s.heap dx) p1 (in_run hu I pl hr hx) ?_
      rw [show us.toArray.any (eqOf s.heap dx) = us.any (eqOf s.heap dx) by simp, any_eqOf hr]
      exact ⟨.bl _, H, I, rfl, q⟩
theorem op_notInQ (hu : X.A.units + 64 < cLine) : OpR X (compareOp .NotIn) (rInQ X not) := fun pins s σ H x y v u Q I rx ry h => by
  rcases h with ⟨i, j, rfl, rfl, q⟩ | ⟨μ, av, dx, l, a, xs, bx, rfl, sq, rr, px, pl, q⟩
  · obtain ⟨t, rfl⟩ := rx
    obtain ⟨t', rfl⟩ := ry
    refine PyProof.Rows.notIn_str ?_
    rw [found_strIn]
    exact ⟨.bl _, H, I, rfl, q⟩
  · cases ry
    have hx := hrel_of I bx px rx
    rcases sq with sq | sq
    · obtain ⟨us, r1, p1, _⟩ := I.list sq
      have hr := DRels.hrs I rr (clns_all pl) r1
      refine SeqAt.notIn_listAt (eqOf s.heap dx) p1.isList (in_run hu I pl hr hx) ?_
      rw [show us.toArray.any (eqOf s.heap dx) = us.any (eqOf s.heap dx) by simp, any_eqOf hr]
      exact ⟨.bl _, H, I, rfl, q⟩
    · obtain ⟨us, r1, p1, _⟩ := I.tuple sq
      have hr := DRels.hrs I rr (clns_all pl) r1
      refine SeqAt.notIn_tupleAt (eqOf s.heap dx) p1 (in_run hu I pl hr hx) ?_
      rw [show us.toArray.any (eqOf s.heap dx) = us.any (eqOf s.heap dx) by simp, any_eqOf hr]
      exact ⟨.bl _, H, I, rfl, q⟩
theorem o2_in (hu : X.A.units + 64 < cLine) : Op2 X (compareOp .In) gIn := ⟨_, op_inQ hu, fun μ av H M x y v w d Q m rx ry e h => by
  unfold gIn at e
  split at e
  · cases e
    exact .inl ⟨_, _, rx.str_inv.1, ry.str_inv.1, h _ H .refl m (.bl _)⟩
  · split at e
    · rename_i l hl
      split at e
      · rename_i q
        cases e
        rw [Bool.and_eq_true] at q
        obtain ⟨a, xs, e1, e2, z, rr⟩ := seq_of m ry hl
        exact .inr ⟨μ, av, x, l, a, xs, rx, e1, e2, rr, q.1, q.2, h _ H .refl m (.bl _)⟩
      · cases e
    · cases e⟩
theorem o2_notin (hu : X.A.units + 64 < cLine) : Op2 X (compareOp .NotIn) gNotIn := ⟨_, op_notInQ hu, fun μ av H M x y v w d Q m rx ry e h => by
  unfold gNotIn at e
  split at e
  · cases e
    exact .inl ⟨_, _, rx.str_inv.1, ry.str_inv.1, h _ H .refl m (.bl _)⟩
  · split at e
    · rename_i l hl
      split at e
      · rename_i q
        cases e
        rw [Bool.and_eq_true] at q
        obtain ⟨a, xs, e1, e2, z, rr⟩ := seq_of m ry hl
        exact .inr ⟨μ, av, x, l, a, xs, rx, e1, e2, rr, q.1, q.2, h _ H .refl m (.bl _)⟩
      · cases e
    · cases e⟩

/-! ### list + list as a new list of one's own -/
def fCat (fa fb : SE) : SL := fun ρ M => (fa ρ M).bind fun x M1 => (fb ρ M1).bind fun y M2 => match lstOf M2 x, lstOf M2 y with
  | some l, some k => if l.length + k.length ≤ sizeLine then .ok (l ++ k) M2 else .bad
  | _, _ => .bad
theorem df_cat {Z : Y} {W : WX} {a b : Expr} {fa fb : SE} {pos : Pos} (ha : BE X Z W a fa) (hb : BE X Z W b fb) : DF X Z W (.BinOp a .Add b pos) (fCat fa fb) := by
  refine PE.imp (pe_op op_catQ ha hb) fun σ H Q ⟨ρ, M, μ, S, m, q⟩ => ⟨ρ, M, μ, S, m, ?_⟩
  unfold fCat at q
  cases e1 : fa ρ M with
  | exc c fs M' => rw [e1] at q; exact q
  | bad => rw [e1] at q; exact q
  | ok x M1 =>
    rw [e1] at q
    intro v μ1 H1 x1 m1 r1
    refine ⟨ρ, M1, μ1, S.up x1, m1, ?_⟩
    simp only [R.bind_ok] at q
    cases e2 : fb ρ M1 with
    | exc c fs M' =>
      rw [e2] at q
      exact fun cls dx μ2 H2 e m x => q cls dx μ2 H2 (x1.trans0 e) m x
    | bad => rw [e2] at q; exact q
    | ok y M2 =>
      rw [e2] at q
      intro w μ2 H2 x2 m2 r2
      simp only [R.bind_ok] at q
      split at q
      · rename_i l k hl hk
        split at q
        · rename_i hz
          obtain ⟨a, xs, rfl, sa, za, ra⟩ := lst_of m2 (r1.up x2) hl
          obtain ⟨b, ys, rfl, sb, zb, rb⟩ := lst_of m2 r2 hk
          have la := ra.length
          have lb := rb.length
          refine ⟨a, b, xs, ys, rfl, rfl, sa, sb, by omega, fun p hp => ?_⟩
          obtain ⟨f1, f2, f3, f4, f5, f6⟩ := fresh_lst (x1.trans0 x2) m2 hp (ra.append rb)
          exact q p _ μ2 _ f1 f2 upd_same (by rw [List.length_append]; omega) f3 f4 f5 f6
        · exact q.elim
      · exact q.elim
end
end DD

set_option Elab.async false
set_option linter.all false
set_option autoImplicit false
set_option maxRecDepth 100000
set_option maxHeartbeats 2000000
/-! DD15: calls of built-ins. -/
namespace DD
open PySem PySem.Spec L2

def bsOf : List D → Option (List Bool)
  | [] => some []
  | .bl b :: l => (bsOf l).map (b :: ·)
  | _ :: _ => none
def ssOf : List D → Option (List Str)
  | [] => some []
  | .str b :: l => (ssOf l).map (b :: ·)
  | _ :: _ => none
def isOf : List D → Option (List Int)
  | [] => some []
  | .int b :: l => (isOf l).map (b :: ·)
  | _ :: _ => none
def kLen (M : Mem) : List D → Option D
  | [.str x] => some (.int x.length)
  | [x] => (seqOf M x).map fun l => .int l.length
  | _ => none
def kAll (M : Mem) : List D → Option D
  | [x] => (lstOf M x).bind fun l => (bsOf l).map fun bs => .bl (bs.all id)
  | _ => none
def kAny (M : Mem) : List D → Option D
  | [x] => (lstOf M x).bind fun l => (bsOf l).map fun bs => .bl (bs.any id)
  | _ => none
def kAbs (_ : Mem) : List D → Option D
  | [.int i] => some (.int (if i < 0 then -i else i))
  | _ => none
def kMax (_ : Mem) : List D → Option D
  | [.int i, .int j] => some (.int (if j > i then j else i))
  | _ => none
def kMin (_ : Mem) : List D → Option D
  | [.int i, .int j] => some (.int (if j < i then j else i))
  | _ => none
def kInt (_ : Mem) : List D → Option D
  | [.int i] => some (.int i)
  | [.bl b] => some (.int (if b then 1 else 0))
  | [.str a] => if a.length ≤ 640 then (PySem.intText? a).map .int else none
  | _ => none
def kStr (_ : Mem) : List D → Option D
  | [.int i] => if i.natAbs.log2 < 1920 then some (.str (toString i)) else none
  | [.str a] => some (.str a)
  | _ => none
def kTuple (M : Mem) : List D → Option D
  | [x] => (seqOf M x).map .tup
  | _ => none
def leS (a b : Str) : Bool := !PySem.Spec.ltCps b.cps.toList a.cps.toList
def sortS (l : List Str) : List Str := l.mergeSort leS
def kSorted (M : Mem) : List D → Option D
  | [x] => (lstOf M x).bind fun l => (ssOf l).bind fun ss => if ss.length < 64 then some (.lst ((sortS ss).map .str)) else none
  | _ => none
mutual
def toP : D → PyData
  | .non => .none
  | .bl b => .bool b
  | .int i => .int i
  | .str x => .str x
  | .tup l => .tuple (toPs l)
  | .lst l => .list (toPs l)
  | .ref _ => .none
def toPs : List D → List PyData
  | [] => []
  | d :: ds => toP d :: toPs ds
end
def showD (d : D) : Str := (toP d).shown
def kRepr (_ : Mem) : List D → Option D
  | [x] => if plainD x ∧ (toP x).showable = true ∧ (showD x).length ≤ sizeLine then some (.str (showD x)) else none
  | _ => none

section
variable {X : Cx} [Tbs X.K] {K : PySem.W.Frag} {μ : List Addr} {av : Av} {H : Hp} {M : Mem} {x y d : D} {v w : V} {ds l : List D} {vs xs : List V} {Q : VK}
theorem BRels.one_inv (h : BRels K μ av H [d] vs) : ∃ v, vs = [v] ∧ BRel K μ av H d v := by
  cases h with
  | cons h t => cases t; exact ⟨_, rfl, h⟩
theorem BRels.two_inv (h : BRels K μ av H [d, x] vs) : ∃ v w, vs = [v, w] ∧ BRel K μ av H d v ∧ BRel K μ av H x w := by
  cases h with
  | cons h t =>
    obtain ⟨w, rfl, h2⟩ := t.one_inv
    exact ⟨_, _, rfl, h, h2⟩
theorem DRels.bs : ∀ {l : List D} {xs : List V} {bs : List Bool}, DRels K μ av H l xs → bsOf l = some bs → xs = bs.map V.bl
  | _, _, _, .nil, e => by cases e; rfl
  | _, _, _, .cons h t, e => by
    cases h with
    | bl b =>
      simp only [bsOf, Option.map_eq_some_iff] at e
      obtain ⟨cs, e, rfl⟩ := e
      rw [t.bs e]; rfl
    | _ => simp [bsOf] at e
theorem DRels.ss : ∀ {l : List D} {xs : List V} {bs : List Str}, DRels K μ av H l xs → ssOf l = some bs → xs = bs.map V.str ∧ (∀ b ∈ bs, b.length ≤ sizeLine)
  | _, _, _, .nil, e => by cases e; exact ⟨rfl, fun b h => by cases h⟩
  | _, _, _, .cons h t, e => by
    cases h with
    | str b hb =>
      simp only [ssOf, Option.map_eq_some_iff] at e
      obtain ⟨cs, e, rfl⟩ := e
      obtain ⟨e1, e2⟩ := t.ss e
      rw [e1]
      refine ⟨rfl, fun c hc => ?_⟩
      rcases List.mem_cons.mp hc with rfl | hc
      · exact hb
      · exact e2 c hc
    | _ => simp [ssOf] at e
theorem DRels.of_ss : ∀ {bs : List Str}, (∀ b ∈ bs, b.length ≤ sizeLine) → DRels K μ av H (bs.map .str) (bs.map V.str)
  | [], _ => .nil
  | b :: bs, h => .cons (.str b (h b List.mem_cons_self)) (DRels.of_ss fun c hc => h c (List.mem_cons_of_mem _ hc))
theorem k_len : CallD X (.builtin "len") kLen := ⟨_, call_len, fun μ av H M ds vs d Q m r e h => by
  unfold kLen at e
  split at e
  · cases e
    obtain ⟨v, rfl, r1⟩ := r.one_inv
    obtain ⟨rfl, hz⟩ := r1.str_inv
    exact ⟨_, _, rfl, ⟨hz, rfl⟩, h.here m (.int _)⟩
  · simp only [Option.map_eq_some_iff] at e
    obtain ⟨l, e, rfl⟩ := e
    obtain ⟨v, rfl, r1⟩ := r.one_inv
    obtain ⟨a, xs, rfl, sq, z, rr⟩ := seq_of m r1 e
    refine ⟨_, l.length, rfl, ?_, h.here m (.int _)⟩
    rw [rr.length]
    rcases sq with sq | sq
    · exact .inl ⟨xs, sq, rfl⟩
    · exact .inr ⟨xs, sq, rfl⟩
  · cases e⟩
theorem k_all (hc : X.calm = true) : CallD X (.builtin "all") kAll := ⟨_, cr_all hc, fun μ av H M ds vs d Q m r e h => by
  unfold kAll at e
  split at e
  · simp only [Option.bind_eq_some_iff, Option.map_eq_some_iff] at e
    obtain ⟨l, e1, bs, e2, rfl⟩ := e
    obtain ⟨v, rfl, r1⟩ := r.one_inv
    obtain ⟨a, xs, rfl, sq, z, rr⟩ := lst_of m r1 e1
    have e3 := rr.bs e2
    subst e3
    exact ⟨a, bs, rfl, sq, h.here m (.bl _)⟩
  · cases e⟩
theorem k_any (hc : X.calm = true) : CallD X (.builtin "any") kAny := ⟨_, cr_any hc, fun μ av H M ds vs d Q m r e h => by
  unfold kAny at e
  split at e
  · simp only [Option.bind_eq_some_iff, Option.map_eq_some_iff] at e
    obtain ⟨l, e1, bs, e2, rfl⟩ := e
    obtain ⟨v, rfl, r1⟩ := r.one_inv
    obtain ⟨a, xs, rfl, sq, z, rr⟩ := lst_of m r1 e1
    have e3 := rr.bs e2
    subst e3
    exact ⟨a, bs, rfl, sq, h.here m (.bl _)⟩
  · cases e⟩
theorem k_abs : CallD X (.builtin "abs") kAbs := ⟨_, call_abs, fun μ av H M ds vs d Q m r e h => by
  unfold kAbs at e
  split at e
  · cases e
    obtain ⟨v, rfl, r1⟩ := r.one_inv
    rw [r1.int_inv]
    exact ⟨_, rfl, h.here m (.int _)⟩
  · cases e⟩
theorem k_max (hc : X.calm = true) : CallD X (.builtin "max") kMax := ⟨_, call_max2 hc, fun μ av H M ds vs d Q m r e h => by
  unfold kMax at e
  split at e
  · cases e
    obtain ⟨v, w, rfl, r1, r2⟩ := r.two_inv
    rw [r1.int_inv, r2.int_inv]
    exact ⟨_, _, rfl, h.here m (.int _)⟩
  · cases e⟩
theorem k_min (hc : X.calm = true) : CallD X (.builtin "min") kMin := ⟨_, call_min2 hc, fun μ av H M ds vs d Q m r e h => by
  unfold kMin at e
  split at e
  · cases e
    obtain ⟨v, w, rfl, r1, r2⟩ := r.two_inv
    rw [r1.int_inv, r2.int_inv]
    exact ⟨_, _, rfl, h.here m (.int _)⟩
  · cases e⟩
theorem k_int : CallD X (.type "int") kInt := ⟨_, call_int1.or call_int_str, fun μ av H M ds vs d Q m r e h => by
  unfold kInt at e
  split at e
  · cases e
    obtain ⟨v, rfl, r1⟩ := r.one_inv
    rw [r1.int_inv]
    exact .inl (.inl ⟨_, rfl, h.here m (.int _)⟩)
  · cases e
    obtain ⟨v, rfl, r1⟩ := r.one_inv
    rw [r1.bl_inv]
    exact .inl (.inr ⟨_, rfl, h.here m (.int _)⟩)
  · split at e
    · rename_i hz
      simp only [Option.map_eq_some_iff] at e
      obtain ⟨i, e, rfl⟩ := e
      obtain ⟨v, rfl, r1⟩ := r.one_inv
      rw [r1.str_inv.1]
      exact .inr ⟨_, _, rfl, e, hz, h.here m (.int _)⟩
    · cases e
  · cases e⟩
theorem log_fits {i : Int} (h : i.natAbs.log2 < 1920) : (toString i : Str).length ≤ sizeLine := PySem.int_text_fits h
theorem k_str : CallD X (.type "str") kStr := ⟨_, call_str_int.or SkE.call_str_str, fun μ av H M ds vs d Q m r e h => by
  unfold kStr at e
  split at e
  · split at e
    · rename_i hz
      cases e
      obtain ⟨v, rfl, r1⟩ := r.one_inv
      rw [r1.int_inv]
      exact .inl ⟨_, rfl, hz, h.here m (.str _ (log_fits hz))⟩
    · cases e
  · cases e
    obtain ⟨v, rfl, r1⟩ := r.one_inv
    obtain ⟨rfl, hz⟩ := r1.str_inv
    exact .inr ⟨_, rfl, h.here m (.str _ hz)⟩
  · cases e⟩
theorem k_tuple : CallD X (.type "tuple") kTuple := ⟨_, call_tuple_of, fun μ av H M ds vs d Q m r e h => by
  unfold kTuple at e
  split at e
  · rename_i x
    simp only [Option.map_eq_some_iff] at e
    obtain ⟨l, e, rfl⟩ := e
    obtain ⟨v, rfl, r1⟩ := r.one_inv
    by_cases q : ∃ k, x = .tup k
    · obtain ⟨k, rfl⟩ := q
      cases e
      obtain ⟨a, xs, rfl, sq, z, rr⟩ := r1.tup_inv
      refine ⟨a, xs, rfl, .inr ⟨sq, ?_⟩⟩
      rcases r1 with r1 | ⟨_, _, _, z, _⟩
      · exact h.here m r1
      · cases z
    · have e' : lstOf M x = some l := by
        cases x <;> first | exact e | exact absurd ⟨_, rfl⟩ q
      obtain ⟨a, xs, rfl, sq, z, rr⟩ := lst_of m r1 e'
      exact ⟨a, xs, rfl, .inl ⟨sq, h.tup m z rr⟩⟩
  · cases e⟩
theorem ltCps_iff : ∀ (a b : List Nat), PySem.Spec.ltCps a b = decide (a < b)
  | [], [] => by simp [PySem.Spec.ltCps]
  | [], _ :: _ => by simp [PySem.Spec.ltCps]
  | _ :: _, [] => by simp [PySem.Spec.ltCps]
  | a :: r, b :: t => by
    rw [PySem.Spec.ltCps, ltCps_iff r t]
    have e : (a :: r < b :: t) ↔ a < b ∨ a = b ∧ r < t := List.cons_lt_cons_iff
    by_cases h1 : a < b
    · simp [e, h1]
    · by_cases h2 : a = b
      · subst h2; simp
      · simp [e, h1, h2]
theorem leS_iff (a b : Str) : leS a b = true ↔ a.cps.toList ≤ b.cps.toList := by
  unfold leS
  rw [ltCps_iff]
  simp
theorem Str.eq_of {a b : Str} (h : a.cps.toList = b.cps.toList) : a = b := by
  cases a; cases b
  simp only [Str.mk.injEq]
  exact Array.toList_inj.mp h
theorem rising_pw : ∀ (p : Str) (l : List Str), PyProof.Rows.risingS p l = true → List.Pairwise (fun a b => leS a b = true) (p :: l)
  | p, [], _ => by simp
  | p, x :: r, h => by
    have h' : leS p x = true ∧ PyProof.Rows.risingS x r = true := by simpa [PyProof.Rows.risingS, leS] using h
    have ih := rising_pw x r h'.2
    refine List.pairwise_cons.mpr ⟨fun y hy => ?_, ih⟩
    rcases List.mem_cons.mp hy with rfl | hy
    · exact h'.1
    · have := (List.pairwise_cons.mp ih).1 y hy
      rw [leS_iff] at *
      exact List.le_trans h'.1 this
theorem sorted_pw {l : List Str} (h : PyProof.Rows.sortedS l = true) : l.Pairwise (fun a b => leS a b = true) := by
  cases l with
  | nil => exact .nil
  | cons x r => exact rising_pw x r h
theorem sortS_pw (l : List Str) : (sortS l).Pairwise (fun a b => leS a b = true) := List.pairwise_mergeSort (fun a b c h1 h2 => by
    rw [leS_iff] at *
    exact List.le_trans h1 h2) (fun a b => by
    rw [Bool.or_eq_true, leS_iff, leS_iff]
    exact List.le_total _ _) l
theorem sortS_uniq {l m : List Str} (p : m.Perm l) (h : PyProof.Rows.sortedS m = true) : m = sortS l :=
  List.Perm.eq_of_pairwise (le := fun a b => leS a b = true) (fun a b _ _ h1 h2 => by
    rw [leS_iff] at h1 h2
    exact Str.eq_of (List.le_antisymm h1 h2)) (sorted_pw h) (sortS_pw l) (p.trans (List.mergeSort_perm l leS).symm)
theorem k_sorted : CallD X (.builtin "sorted") kSorted := ⟨_, cr_sortedS, fun μ av H M ds vs d Q m r e h => by
  unfold kSorted at e
  split at e
  · simp only [Option.bind_eq_some_iff] at e
    obtain ⟨l, e1, ss, e2, e3⟩ := e
    split at e3
    · rename_i h64
      cases e3
      obtain ⟨v, rfl, r1⟩ := r.one_inv
      obtain ⟨a, xs, rfl, sq, z, rr⟩ := lst_of m r1 e1
      obtain ⟨rfl, hz⟩ := rr.ss e2
      refine ⟨a, ss, rfl, sq, h64, fun ys p hp hs hf => ?_⟩
      have e4 := sortS_uniq hp hs
      subst e4
      have hl : ∀ b ∈ sortS ss, b.length ≤ sizeLine := fun b hb => hz b ((List.mergeSort_perm ss leS).mem_iff.mp hb)
      exact Ans.lst (X := X) h m (by rw [List.length_map, hp.length_eq]; simpa using z) (DRels.of_ss hl) p hf
    · cases e3
  · cases e⟩
mutual
theorem HRel.reads {h : Heap} : ∀ {d : D} {v : Value}, HRel h d v → ∃ as, Reads h v (toP d) as
  | _, _, .non => ⟨_, .none⟩
  | _, _, .bl b => ⟨_, .bool b⟩
  | _, _, .int i t => ⟨_, .int i t⟩
  | _, _, .str x t => ⟨_, .str x t⟩
  | _, _, .lst ⟨o, e, c, n, dt⟩ r => let ⟨as, q⟩ := HRels.readsAll r; ⟨_, .list e c dt q⟩
  | _, _, .tup ⟨o, e, c, n, dt⟩ r => let ⟨as, q⟩ := HRels.readsAll r; ⟨_, .tuple e c dt q⟩
theorem HRels.readsAll {h : Heap} : ∀ {ds : List D} {vs : List Value}, HRels h ds vs → ∃ as, ReadsAll h vs (toPs ds) as
  | _, _, .nil => ⟨_, .nil⟩
  | _, _, .cons r t => let ⟨as, q⟩ := HRel.reads r; let ⟨bs, q2⟩ := HRels.readsAll t; ⟨_, .cons q q2⟩
end
mutual
theorem toP_noDict : ∀ d : D, (toP d).hasDict = false
  | .non | .bl _ | .int _ | .str _ | .ref _ => by simp [toP, PyData.hasDict]
  | .lst l => by simp only [toP, PyData.hasDict]; exact toPs_noDict l
  | .tup l => by simp only [toP, PyData.hasDict]; exact toPs_noDict l
theorem toPs_noDict : ∀ l : List D, PyData.hasDictAll (toPs l) = false
  | [] => rfl
  | d :: l => by simp only [toPs, PyData.hasDictAll, toP_noDict d, toPs_noDict l, Bool.or_self]
end
mutual
theorem toP_depth : ∀ d : D, (toP d).depth = dep d
  | .non | .bl _ | .int _ | .str _ | .ref _ => by simp [toP, PyData.depth, dep]
  | .lst l => by simp only [toP, PyData.depth, dep, toPs_depth l]
  | .tup l => by simp only [toP, PyData.depth, dep, toPs_depth l]
theorem toPs_depth : ∀ l : List D, PyData.depthAll (toPs l) = deps l
  | [] => rfl
  | d :: l => by simp only [toPs, PyData.depthAll, deps, toP_depth d, toPs_depth l]
end
theorem k_repr (hG : X.A.guards = some []) (hu : X.A.units + 70 < cLine) : CallD X (.builtin "repr") kRepr := ⟨fun vs H Q => ∃ (μ : List Addr) (av : Av) (d : D) (v : V), vs = [v] ∧ BRel X.K μ av H d v ∧ plainD d = true ∧ (toP d).showable = true ∧ (showD d).length ≤ sizeLine ∧ Q (.str (showD d)) H,
  fun pins s σ H xs us Q I r h => by
    obtain ⟨μ, av, d, v, rfl, b, p, sh, hz, q⟩ := h
    obtain ⟨u, rfl, ru⟩ := vals1 r
    have hr := hrel_of I b p ru
    obtain ⟨as, rd⟩ := hr.reads
    have fin : ∀ (t : Str) (tk tk' : Nat) (h' : Heap), t = showD d → (∀ b o, s.heap.get? b = some o → h'.get? b = some o) → EP X pins σ Q (.str t tk) { s with heap := h', toks := tk' } := fun t tk tk' h' e k => by
      subst e
      exact ⟨.str (showD d), H, I.kept k, ⟨_, rfl⟩, q⟩
    cases hr with
    | non => exact PySem.P.repr_of_none (fin _ _ _ s.heap (by simp [showD, toP, PyData.shown]) fun _ _ z => z)
    | bl b => exact PySem.P.repr_of_bool (fin _ _ _ s.heap (by simp only [showD, toP, PyData.shown]) fun _ _ z => z)
    | int i t =>
      have hl : i.natAbs.log2 < 1920 := by simpa [toP, PyData.showable] using sh
      exact PySem.P.repr_of_int hl (fin _ _ _ s.heap (by simp only [showD, toP, PyData.shown]) fun _ _ z => z)
    | str y t => exact PySem.P.repr_of_str (fin _ _ _ s.heap (by simp only [showD, toP, PyData.shown]) fun _ _ z => z) (by simpa [showD, toP, PyData.shown] using hz)
    | lst hl hr => exact repr_of_reads' rd sh (fun z => by rw [toP_noDict] at z; cases z) hG (by rw [toP_depth]; have := plainD_dep p; omega) (fun _ _ z => z) (fun h' u tk k => fin _ _ _ h' rfl k) hz
    | tup hl hr => exact repr_of_reads' rd sh (fun z => by rw [toP_noDict] at z; cases z) hG (by rw [toP_depth]; have := plainD_dep p; omega) (fun _ _ z => z) (fun h' u tk k => fin _ _ _ h' rfl k) hz,
  fun μ av H M ds vs d Q m r e h => by
    unfold kRepr at e
    split at e
    · split at e
      · rename_i x q
        cases e
        obtain ⟨v, rfl, r1⟩ := r.one_inv
        exact ⟨μ, av, _, v, rfl, r1, q.1, q.2.1, q.2.2, h.here m (.str _ q.2.2)⟩
      · cases e
    · cases e⟩

/-! ### isinstance(e, T), T a built-in type -/
def tyN (M : Mem) : D → Option String
  | .non => some "NoneType"
  | .bl _ => some "bool"
  | .int _ => some "int"
  | .str _ => some "str"
  | .tup _ => some "tuple"
  | d => (lstOf M d).map fun _ => "list"
theorem tyx_of (m : MemRel X.K μ av H M) (r : BRel X.K μ av H d v) {T : String} (e : tyN M d = some T) : TyX X.K H v (.type T) := by
  have L : ∀ {l : List D}, lstOf M d = some l → TyX X.K H v (.type "list") := fun {l} e => by
    obtain ⟨a, xs, rfl, sq, z, rr⟩ := lst_of m r e
    rcases sq with (sq | ⟨o, sq⟩) | ⟨o, its, n, hk, hc, _⟩
    · exact .base (.lst sq)
    · exact .base (.frz sq)
    · exact .kList hk hc
  cases d with
  | non => cases e; rw [r.non_inv]; exact .base .non
  | bl b => cases e; rw [r.bl_inv]; exact .base (.bl b)
  | int b => cases e; rw [r.int_inv]; exact .base (.int b)
  | str b => cases e; rw [r.str_inv.1]; exact .base (.str b)
  | tup l =>
    cases e
    obtain ⟨a, xs, rfl, sq, z, rr⟩ := r.tup_inv
    rcases sq with (sq | ⟨o, sq⟩) | ⟨o, its, n, hk, hc, _⟩
    · exact .base (.tup sq)
    · exact .fTuple sq
    · exact .kTuple hk hc
  | lst l => cases e; exact L (l := l) rfl
  | ref i =>
    simp only [tyN, Option.map_eq_some_iff] at e
    obtain ⟨l, e, rfl⟩ := e
    exact L e
/-- the built-in types' kin -/
def kinD (a b : String) : Option Bool := match a with
  | "NoneType" | "int" | "str" | "tuple" | "list" => if b ∈ ["int", "str", "tuple", "list", "bool", "dict"] then some (decide (a = b)) else none
  | "bool" => if b ∈ ["int", "str", "tuple", "list", "bool", "dict"] then some (decide (b = "bool" ∨ b = "int")) else none
  | _ => none
def eIsi (T : String) (f : SE) : SE := fun ρ M => (f ρ M).bind fun d M1 => ofO (((tyN M1 d).bind fun a => kinD a T).map .bl) M1
theorem kinD_ok {a b : String} {k : Bool} (h : kinD a b = some k) : kitB a b = some k := by
  unfold kinD at h
  split at h
  all_goals first
    | (cases h; done)
    | (split at h
       · rename_i hb
         simp only [List.mem_cons, List.not_mem_nil, or_false] at hb
         rcases hb with rfl | rfl | rfl | rfl | rfl | rfl <;> (rw [← h]; decide +kernel)
       · cases h)
theorem de_isi {Z : Y} {W : WX} {e : Expr} {fe : SE} {T : Str} {T' : String} {p p2 pos : Pos} (he : BE X Z W e fe) (hg : Gl X "isinstance") (hm : X.mg "isinstance" = none) (hgT : Gl X T) (hmT : X.mg T = none) (hv : bootBuiltins T = some (.type T'))
    (hs : starEach [e, .Name T p2] X.env = (false, eval e X.env) :: starEach [.Name T p2] X.env := by rfl) (hn : T ≠ "__name__" := by decide) (hd : (T == ("__debug__" : Str)) = false := by decide) :
    DE X Z W (.Call (.Name "isinstance" p) [e, .Name T p2] [] pos) (eIsi T' fe) := by
  refine PE.imp (pe_callB call_isi hg hm PyProof.Rows.boot_isinstance (pa_cons he (pa_cons (pe_bltn (v := V.ty T') hgT hmT hv rfl hn hd) pa_nil rfl) hs) (by decide) (by decide) hs) fun σ H Q ⟨ρ, M, μ, S, m, q⟩ => ⟨ρ, M, μ, S, m, ResG.imp (ResG.bind q) ?_⟩
  rintro v H1 ⟨d, M1, μ1, e1, m1, r1, h1⟩
  cases q1 : tyN M1 d with
  | none => rw [q1] at h1; exact h1.elim
  | some a =>
    rw [q1] at h1
    simp only [Option.bind_some] at h1
    cases q2 : kinD a T' with
    | none => rw [q2] at h1; exact h1.elim
    | some k =>
      rw [q2] at h1
      exact ⟨_, _, _, _, k, rfl, .ty T', tyx_of m1 r1 q1, kit_ty (kinD_ok q2), h1 _ μ1 H1 .refl m1 (.bl k)⟩
end
end DD

set_option Elab.async false
set_option linter.all false
set_option autoImplicit false
set_option maxRecDepth 100000
set_option maxHeartbeats 2000000
/-! DD16: methods of built-in types, subscripts, slices, zip, parallel assignment. -/
namespace DD
open PySem PySem.Spec L2

def isStr (_ : Mem) : D → Bool
  | .str _ => true
  | _ => false
def isLst (M : Mem) (d : D) : Bool := (lstOf M d).isSome
def mSplit (_ : Mem) (x : D) (l : List D) : Option D := match x, l with
  | .str a, [.str b] => if b.length ≠ 0 ∧ a.length + 2 ≤ sizeLine ∧ (Txt.split a b).all (fun y => decide (y.length ≤ sizeLine)) = true ∧ (Txt.split a b).length ≤ sizeLine then some (.lst ((Txt.split a b).map .str)) else none
  | _, _ => none
def mJoin (M : Mem) (x : D) (l : List D) : Option D := match x, l with
  | .str a, [y] => (seqOf M y).bind fun l => (ssOf l).bind fun ys => if (ys.map (·.length)).sum + ys.length * a.length ≤ 16777216 ∧ (Txt.join a ys).length ≤ sizeLine then some (.str (Txt.join a ys)) else none
  | _, _ => none
def mStarts (_ : Mem) (x : D) (l : List D) : Option D := match x, l with
  | .str a, [.str b] => some (.bl (Txt.startswith a b))
  | _, _ => none
def mEnds (_ : Mem) (x : D) (l : List D) : Option D := match x, l with
  | .str a, [.str b] => some (.bl (Txt.endswith a b))
  | _, _ => none
def mPart (_ : Mem) (x : D) (l : List D) : Option D := match x, l with
  | .str a, [.str b] => if b.length ≠ 0 ∧ a.length ≤ sizeLine ∧ (Txt.partition a b).1.length ≤ sizeLine ∧ (Txt.partition a b).2.1.length ≤ sizeLine ∧ (Txt.partition a b).2.2.length ≤ sizeLine then some (.tup [.str (Txt.partition a b).1, .str (Txt.partition a b).2.1, .str (Txt.partition a b).2.2]) else none
  | _, _ => none
def mCount (M : Mem) (x : D) (l : List D) : Option D := match l with
  | [y] => (lstOf M x).bind fun l => if plainD y && l.all plainD then some (.int (l.countP fun z => eqv z y)) else none
  | _ => none
def mIndex (M : Mem) (x : D) (l : List D) : Option D := match l with
  | [y] => (lstOf M x).bind fun l => if plainD y && l.all plainD then (l.findIdx? fun z => eqv z y).map fun j => .int (j : Nat) else none
  | _ => none
def gIx (M : Mem) (x y : D) : Option D := match y with
  | .int i => (match x with
    | .str z => (atI z.cps.toList i).map fun c => .str ⟨#[c]⟩
    | x => (seqOf M x).bind fun l => atI l i)
  | _ => none
def cutD {α : Type} (l : List α) (lo hi : Option Int) : List α := (l.drop (HT.sIx l.length 0 lo)).take (HT.sIx l.length l.length hi - HT.sIx l.length 0 lo)
def gSl (M : Mem) (x : D) (lo hi : Option Int) : Option D := match x with
  | .str z => some (.str (cutS z lo hi))
  | .tup l => some (.tup (cutD l lo hi))
  | x => (lstOf M x).map fun l => .lst (cutD l lo hi)

section
variable {X : Cx} [Tbs X.K] {K : PySem.W.Frag} [Tbs K] {μ : List Addr} {av : Av} {H : Hp} {M : Mem} {x y d : D} {v w : V} {ds l : List D} {vs xs : List V} {Q : VK}
theorem ty_str (r : BRel K μ av H d v) (e : isStr M d = true) : tyV K "str" v H := by
  cases d with
  | str x =>
    have : v = .str x := by
      rcases r with r | ⟨_, _, _, z, _⟩
      · cases r; rfl
      · cases z
    rw [this]; rfl
  | _ => cases e
theorem ty_lst (m : MemRel X.K μ av H M) (r : BRel X.K μ av H d v) (e : isLst M d = true) : tyV X.K "list" v H := by
  unfold isLst at e
  obtain ⟨l, e⟩ := Option.isSome_iff_exists.mp e
  obtain ⟨a, xs, rfl, sq, z, rr⟩ := lst_of m r e
  exact .inl ⟨rfl, xs, sq⟩
theorem m_split : MethD X "str" "str.split" isStr mSplit := ⟨fun μ av H M x v m r e => ty_str r e, _, mt_split, fun μ av H M x v ds vs d Q m r rs e h => by
  unfold mSplit at e
  split at e
  · split at e
    · rename_i q
      cases e
      obtain ⟨w, rfl, r2⟩ := rs.one_inv
      rw [r.str_inv.1, r2.str_inv.1]
      refine ⟨_, _, rfl, rfl, by simpa using q.1, q.2.1, Ans.lst (X := X) h m (by simpa using q.2.2.2) (DRels.of_ss fun b hb => ?_)⟩
      simpa using List.all_eq_true.mp q.2.2.1 b hb
    · cases e
  · cases e⟩
theorem m_join : MethD X "str" "str.join" isStr mJoin := ⟨fun μ av H M x v m r e => ty_str r e, _, mt_join, fun μ av H M x v ds vs d Q m r rs e h => by
  unfold mJoin at e
  split at e
  · simp only [Option.bind_eq_some_iff] at e
    obtain ⟨l, e1, ys, e2, e3⟩ := e
    split at e3
    · rename_i q
      cases e3
      obtain ⟨w, rfl, r2⟩ := rs.one_inv
      obtain ⟨a, xs, rfl, sq, z, rr⟩ := seq_of m r2 e1
      obtain ⟨rfl, hz⟩ := rr.ss e2
      rw [r.str_inv.1]
      exact ⟨_, a, ys, rfl, rfl, sq, q.1, h.here m (.str _ q.2)⟩
    · cases e3
  · cases e⟩
theorem m_starts : MethD X "str" "str.startswith" isStr mStarts := ⟨fun μ av H M x v m r e => ty_str r e, _, mt_startswith, fun μ av H M x v ds vs d Q m r rs e h => by
  unfold mStarts at e
  split at e
  · cases e
    obtain ⟨w, rfl, r2⟩ := rs.one_inv
    rw [r.str_inv.1, r2.str_inv.1]
    exact ⟨_, _, rfl, rfl, h.here m (.bl _)⟩
  · cases e⟩
theorem m_ends : MethD X "str" "str.endswith" isStr mEnds := ⟨fun μ av H M x v m r e => ty_str r e, _, mt_endswith, fun μ av H M x v ds vs d Q m r rs e h => by
  unfold mEnds at e
  split at e
  · cases e
    obtain ⟨w, rfl, r2⟩ := rs.one_inv
    rw [r.str_inv.1, r2.str_inv.1]
    exact ⟨_, _, rfl, rfl, h.here m (.bl _)⟩
  · cases e⟩
theorem m_part : MethD X "str" "str.partition" isStr mPart := ⟨fun μ av H M x v m r e => ty_str r e, _, mt_partition, fun μ av H M x v ds vs d Q m r rs e h => by
  unfold mPart at e
  split at e
  · split at e
    · rename_i q
      cases e
      obtain ⟨w, rfl, r2⟩ := rs.one_inv
      rw [r.str_inv.1, r2.str_inv.1]
      exact ⟨_, _, rfl, rfl, by simpa using q.1, q.2.1, Ans.tup (X := X) h m (show 3 ≤ sizeLine by decide) (.cons (.str _ q.2.2.1) (.cons (.str _ q.2.2.2.1) (.cons (.str _ q.2.2.2.2) .nil)))⟩
    · cases e
  · cases e⟩
theorem count_eqOf {h : Heap} {d : D} : ∀ {l : List D} {vs : List Value}, HRels h l vs → vs.countP (eqOf h d) = l.countP fun z => eqv z d
  | _, _, .nil => rfl
  | _, _, .cons r t => by simp only [List.countP_cons, eqOf_is r, count_eqOf t]
theorem m_count (hu : X.A.units + 64 < cLine) : MethD X "list" "list.count" isLst mCount := ⟨fun μ av H M x v m r e => ty_lst m r e,
  fun v vs H Q => ∃ (μ : List Addr) (av : Av) (y : D) (w : V) (l : List D) (a : Addr) (xs : List V), v = .ref a ∧ vs = [w] ∧ SqL X.K H a xs ∧ DRels X.K μ av H l xs ∧ BRel X.K μ av H y w ∧ plainD y = true ∧ l.all plainD = true ∧ Q (.int (l.countP fun z => eqv z y)) H,
  fun pins s σ H x xs v us Q I rx rs h => by
    obtain ⟨μ, av, dy, wv, l, a, xs, rfl, rfl, sq, rr, by', py, pl, q⟩ := h
    cases rx
    obtain ⟨u, rfl, ru⟩ := vals1 rs
    obtain ⟨its, rv, ⟨⟨cls, dd, data, sl⟩, n, ho, hc, hdn, hd⟩, hlen⟩ := I.list sq
    simp only at hc hd
    subst hc hd
    have hr := DRels.hrs I rr (clns_all pl) rv
    refine call_meets PySem.F.slot_list_count ⟨_, ho, rfl⟩ PySem.F.entry_list_count (PySem.F.args_list_count_2 _ _)
      (SeqAt.list_countAt a its.toArray n dd sl u (eqOf s.heap dy)) ⟨ho, in_run hu I pl hr (hrel_of I by' py ru), ?_⟩
    refine ⟨.int _, H, I.tok _, ⟨s.toks, ?_⟩, q⟩
    rw [List.toList_toArray, count_eqOf hr],
  fun μ av H M x v ds vs d Q m r rs e h => by
    unfold mCount at e
    split at e
    · simp only [Option.bind_eq_some_iff] at e
      obtain ⟨l, e1, e2⟩ := e
      split at e2
      · rename_i q
        cases e2
        rw [Bool.and_eq_true] at q
        obtain ⟨w, rfl, r2⟩ := rs.one_inv
        obtain ⟨a, xs, rfl, sq, z, rr⟩ := lst_of m r e1
        exact ⟨μ, av, _, w, l, a, xs, rfl, rfl, sq, rr, r2, q.1, q.2, h.here m (.int _)⟩
      · cases e2
    · cases e⟩
theorem m_index (hu : X.A.units + 64 < cLine) : MethD X "list" "list.index" isLst mIndex := ⟨fun μ av H M x v m r e => ty_lst m r e,
  fun v vs H Q => ∃ (μ : List Addr) (av : Av) (y : D) (w : V) (l : List D) (a : Addr) (xs : List V) (j : Nat), v = .ref a ∧ vs = [w] ∧ SqL X.K H a xs ∧ DRels X.K μ av H l xs ∧ BRel X.K μ av H y w ∧ plainD y = true ∧ l.all plainD = true ∧ (l.findIdx? fun z => eqv z y) = some j ∧ Q (.int j) H,
  fun pins s σ H x xs v us Q I rx rs h => by
    obtain ⟨μ, av, dy, wv, l, a, xs, j, rfl, rfl, sq, rr, by', py, pl, hj, q⟩ := h
    cases rx
    obtain ⟨u, rfl, ru⟩ := vals1 rs
    obtain ⟨its, rv, ⟨⟨cls, dd, data, sl⟩, n, ho, hc, hdn, hd⟩, hlen⟩ := I.list sq
    simp only at hc hd
    subst hc hd
    have hr := DRels.hrs I rr (clns_all pl) rv
    have hl := hr.length
    have hvl := rv.length
    have hsl := sizeLine_eq
    rw [List.findIdx?_eq_some_iff_getElem] at hj
    obtain ⟨hjl, hje, hjn⟩ := hj
    have e_at : ∀ (k : Nat) (h1 : k < l.length) (h2 : k < its.length), eqOf s.heap dy its[k] = eqv l[k] dy := fun k h1 h2 => eqOf_is (hr.at_ k h1 h2)
    refine call_meets PySem.F.slot_list_index ⟨_, ho, rfl⟩ PySem.F.entry_list_index (PySem.F.args_list_index_2 _ _)
      (SeqAt.list_indexAt a its.toArray n dd sl u (eqOf s.heap dy) j (by simp; omega) (by omega) ?_ ?_) ⟨ho, in_run hu I pl hr (hrel_of I by' py ru), ?_⟩
    · have := e_at j hjl (by omega)
      simpa [hje] using this
    · intro k hk hkj
      have := e_at k (by omega) (by simpa using hk)
      have h2 := hjn k hkj
      simp only [Bool.not_eq_true] at h2
      simpa [h2] using this
    · exact ⟨.int _, H, I.tok _, ⟨s.toks, rfl⟩, q⟩,
  fun μ av H M x v ds vs d Q m r rs e h => by
    unfold mIndex at e
    split at e
    · simp only [Option.bind_eq_some_iff] at e
      obtain ⟨l, e1, e2⟩ := e
      split at e2
      · rename_i q
        simp only [Option.map_eq_some_iff] at e2
        obtain ⟨j, e2, rfl⟩ := e2
        rw [Bool.and_eq_true] at q
        obtain ⟨w, rfl, r2⟩ := rs.one_inv
        obtain ⟨a, xs, rfl, sq, z, rr⟩ := lst_of m r e1
        exact ⟨μ, av, _, w, l, a, xs, j, rfl, rfl, sq, rr, r2, q.1, q.2, e2, h.here m (.int _)⟩
      · cases e2
    · cases e⟩
theorem DRels.atI : ∀ {l : List D} {xs : List V} {i : Int} {d : D}, DRels K μ av H l xs → L2.atI l i = some d → ∃ v, L2.atI xs i = some v ∧ DRel K μ av H d v := fun {l xs i d} r e => by
  unfold L2.atI at *
  rw [← r.length]
  cases q : ixN l.length i with
  | none => rw [q] at e; cases e
  | some j =>
    rw [q] at e
    obtain ⟨v, e1, e2⟩ := r.get e
    exact ⟨v, e1, e2⟩
theorem i_ix : IxD X gIx := ⟨_, ix_seq, fun μ av H M x y v w d Q m rx ry e h => by
  unfold gIx at e
  split at e
  · rename_i i
    rw [ry.int_inv]
    split at e
    · simp only [Option.map_eq_some_iff] at e
      obtain ⟨c, e, rfl⟩ := e
      obtain ⟨rfl, hz⟩ := rx.str_inv
      exact .inr (.inr ⟨_, i, c, rfl, rfl, hz, e, h _ H .refl m (.str _ (by show 1 ≤ sizeLine; decide))⟩)
    · simp only [Option.bind_eq_some_iff] at e
      obtain ⟨l, e1, e2⟩ := e
      obtain ⟨a, xs, rfl, sq, z, rr⟩ := seq_of m rx e1
      obtain ⟨u, e3, r3⟩ := rr.atI e2
      rcases sq with sq | sq
      · exact .inl ⟨a, xs, i, u, rfl, rfl, sq, e3, h _ H .refl m r3⟩
      · exact .inr (.inl ⟨a, xs, i, u, rfl, rfl, sq, e3, h _ H .refl m r3⟩)
  · cases e⟩
theorem cutV_cut (xs : List V) (lo hi : Option Int) : cutV xs lo hi = cutD xs lo hi := rfl
theorem DRels.cut (r : DRels K μ av H l xs) (lo hi : Option Int) : DRels K μ av H (cutD l lo hi) (cutV xs lo hi) := by
  unfold cutD cutV
  rw [r.length]
  exact (r.drop _).take _
theorem s_sl : SlD X gSl := ⟨_, sl_str.or (sl_tupA.or sl_list), fun μ av H M x v lo hi d Q m rx e h => by
  unfold gSl at e
  split at e
  · cases e
    obtain ⟨rfl, hz⟩ := rx.str_inv
    exact .inl ⟨_, rfl, hz, h.here m (.str _ (Nat.le_trans (cutS_length _ _ _) hz))⟩
  · cases e
    rename_i l
    obtain ⟨a, xs, rfl, sq, z, rr⟩ := rx.tup_inv
    refine .inr (.inl ⟨a, xs, rfl, sq, fun q => ?_, fun q => h.tup m (Nat.le_trans (cutV_length xs lo hi) z) (rr.cut lo hi)⟩)
    have e : cutD l lo hi = l := by
      unfold cutD
      rw [rr.length, q.1, q.2, ← rr.length]
      simp
    rw [e] at h
    rcases rx with rx | ⟨_, _, _, z, _⟩
    · exact h.here m rx
    · cases z
  · simp only [Option.map_eq_some_iff] at e
    obtain ⟨l, e, rfl⟩ := e
    obtain ⟨a, xs, rfl, sq, z, rr⟩ := lst_of m rx e
    exact .inr (.inr ⟨a, xs, rfl, sq, h.lst m (Nat.le_trans (cutV_length xs lo hi) z) (rr.cut lo hi)⟩)⟩

/-! ### zip -/
def zipD : List D → List D → List D
  | x :: xs, y :: ys => .tup [x, y] :: zipD xs ys
  | _, _ => []
theorem zipD_len : ∀ (l k : List D), (zipD l k).length = min l.length k.length
  | [], k => by simp [zipD]
  | _ :: _, [] => by simp [zipD]
  | x :: xs, y :: ys => by simp [zipD, zipD_len xs ys]
theorem zipD_get : ∀ (l k : List D) (i : Nat) (d : D), (zipD l k)[i]? = some d → ∃ x y, d = .tup [x, y] ∧ l[i]? = some x ∧ k[i]? = some y
  | [], k, i, d, h => by simp [zipD] at h
  | _ :: _, [], i, d, h => by simp [zipD] at h
  | x :: xs, y :: ys, 0, d, h => by simp [zipD] at h; exact ⟨x, y, h.symm, rfl, rfl⟩
  | x :: xs, y :: ys, i + 1, d, h => by
    obtain ⟨a, b, e, e1, e2⟩ := zipD_get xs ys i d (by simpa [zipD] using h)
    exact ⟨a, b, e, by simpa using e1, by simpa using e2⟩
def iZip (fa fb : SE) : SL := fun ρ M => (fa ρ M).bind fun x M1 => (fb ρ M1).bind fun y M2 => match x, y with
  | .lst l, .lst k => .ok (zipD l k) M2
  | .tup l, .tup k => .ok (zipD l k) M2
  | _, _ => .bad
/-- what lies in a frozen list or a tuple stays there -/
def Stays (K : PySem.W.Frag) (μ : List Addr) (av : Av) (H : Hp) (S : Hp → Addr → List V → Prop) (a : Addr) (xs : List V) : Prop := ∀ μ' H', Ext μ av H μ' H' → S H' a xs
theorem stays_lst {a : Addr} (h : DRel K μ av H (.lst l) (.ref a)) : ∃ xs, Stays K μ av H (SqL K) a xs ∧ DRels K μ av H l xs ∧ xs.length ≤ sizeLine := by
  cases h with
  | lst h n nv z r => exact ⟨_, fun μ' H' e => .inl (rd_keep e h n nv fun ps z => by cases z), r, z⟩
  | lstK h z r => exact ⟨_, fun μ' H' e => h H', r, z⟩
theorem stays_tup {a : Addr} (h : DRel K μ av H (.tup l) (.ref a)) : ∃ xs, Stays K μ av H (SqT K) a xs ∧ DRels K μ av H l xs ∧ xs.length ≤ sizeLine := by
  cases h with
  | tup h n nv z r => exact ⟨_, fun μ' H' e => .inl (rd_keep e h n nv fun ps z => by cases z), r, z⟩
  | tupK h z r => exact ⟨_, fun μ' H' e => .inr h, r, z⟩
theorem itd_zip {l k : List D} {a b : Addr} {xs ys : List V} {J : It} (S : Hp → Addr → List V → Prop) (hgo : ∀ i H, J.go i H ↔ ∃ (xs ys : List V) (x y : V), S H a xs ∧ S H b ys ∧ xs[i]? = some x ∧ ys[i]? = some y)
    (hyld : ∀ i H v H', J.yld i H v H' ↔ ∃ T x y, v = .ref T ∧ H T = none ∧ H' = upd H T (.tup [x, y]) ∧ (∀ xs, S H a xs → xs[i]? = some x) ∧ ∀ ys, S H b ys → ys[i]? = some y)
    (hstop : ∀ i H, J.stop i H ↔ ∃ xs ys : List V, S H a xs ∧ S H b ys ∧ (xs.length ≤ i ∨ ys.length ≤ i))
    (h1 : Stays X.K μ av H S a xs) (h2 : Stays X.K μ av H S b ys) (r1 : DRels X.K μ av H l xs) (r2 : DRels X.K μ av H k ys) (z : xs.length ≤ sizeLine) : ItD X.K (zipD l k) μ av H J := by
  have l1 := r1.length
  have l2 := r2.length
  refine ⟨by rw [zipD_len]; omega, fun μ' H' e i hi => ?_, fun μ' H' e => ?_, fun μ' H' e i v H'' y av' M m ha d hd => ?_⟩
  · rw [zipD_len] at hi
    exact (hgo i H').mpr ⟨xs, ys, xs[i]'(by omega), ys[i]'(by omega), h1 _ _ e, h2 _ _ e, List.getElem?_eq_getElem _, List.getElem?_eq_getElem _⟩
  · exact (hstop _ H').mpr ⟨xs, ys, h1 _ _ e, h2 _ _ e, by rw [zipD_len]; omega⟩
  · obtain ⟨T, x, y, rfl, hT, rfl, e1, e2⟩ := (hyld _ _ _ _).mp y
    obtain ⟨a, b, rfl, q1, q2⟩ := zipD_get l k i d hd
    obtain ⟨u1, g1, s1⟩ := r1.get q1
    obtain ⟨u2, g2, s2⟩ := r2.get q2
    have f1 := e1 xs (h1 _ _ e)
    have f2 := e2 ys (h2 _ _ e)
    rw [g1] at f1; cases f1
    rw [g2] at f2; cases f2
    exact new_tup m hT (show 2 ≤ sizeLine by decide) (.cons (s1.mono e (fun _ z => z) ha) (.cons (s2.mono e (fun _ z => z) ha) .nil))
theorem di_zip {Z : Y} {W : WX} {a b : Expr} {fa fb : SE} {p pos tpos : Pos} {elts : List Expr} {kk : Nat} (hg : Gl X "zip") (hm : X.mg "zip" = none) (ha : DE X Z W a fa) (hb : DE X Z W b fb)
    (hs : starEach [a, b] X.env = (false, eval a X.env) :: starEach [b] X.env := by rfl) (hs2 : starEach [b] X.env = (false, eval b X.env) :: starEach [] X.env := by rfl) (hpl : (backTo pos (starEach [b] X.env)).any (·.1) = false := by rfl) :
    DI X Z W (.Tuple elts kk tpos) (.Call (.Name "zip" p) [a, b] [] pos) (iZip fa fb) := by
  refine PI.imp (RZ.pi_zipA hg hm (pa_cons ha (pa_cons hb pa_nil hs2) hs) hs hpl) fun σ H Q ⟨ρ, M, μ, S, m, q⟩ => ⟨ρ, M, μ, S, m, ResG.imp (ResG.bind q) ?_⟩
  rintro v H1 ⟨x, M1, μ1, e1, m1, r1, h1⟩
  refine ⟨ρ, M1, μ1, S.up e1, m1, ResG.imp (ResG.bind h1) ?_⟩
  rintro w H2 ⟨y, M2, μ2, e2, m2, r2, h2⟩
  have r1' := r1.up e2
  have keep : ∀ μ' H', Ext μ2 (avS Z.om ρ σ) H2 μ' H' → True := fun _ _ _ => trivial
  split at h2
  · obtain ⟨xa, za, qa⟩ : ∃ a, v = .ref a ∧ True := by cases r1' <;> exact ⟨_, rfl, trivial⟩
    subst za
    obtain ⟨xb, zb, qb⟩ : ∃ a, w = .ref a ∧ True := by cases r2 <;> exact ⟨_, rfl, trivial⟩
    subst zb
    obtain ⟨xs, sa, ra, z1⟩ := stays_lst r1'
    obtain ⟨ys, sb, rb, z2⟩ := stays_lst r2
    exact ⟨xa, xb, xs, ys, rfl, .inl ⟨sa _ _ .refl, sb _ _ .refl, h2 _ μ2 H2 .refl m2 (itd_zip (SqL X.K) (fun _ _ => Iff.rfl) (fun _ _ _ _ => Iff.rfl) (fun _ _ => Iff.rfl) sa sb ra rb z1)⟩⟩
  · obtain ⟨xa, za, qa⟩ : ∃ a, v = .ref a ∧ True := by cases r1' <;> exact ⟨_, rfl, trivial⟩
    subst za
    obtain ⟨xb, zb, qb⟩ : ∃ a, w = .ref a ∧ True := by cases r2 <;> exact ⟨_, rfl, trivial⟩
    subst zb
    obtain ⟨xs, sa, ra, z1⟩ := stays_tup r1'
    obtain ⟨ys, sb, rb, z2⟩ := stays_tup r2
    exact ⟨xa, xb, xs, ys, rfl, .inr ⟨sa _ _ .refl, sb _ _ .refl, h2 _ μ2 H2 .refl m2 (itd_zip (SqT X.K) (fun _ _ => Iff.rfl) (fun _ _ _ _ => Iff.rfl) (fun _ _ => Iff.rfl) sa sb ra rb z1)⟩⟩
  · exact h2.elim

/-! ### a, b = x, y -/
def aBind (fa : SA) (k : Sl → Mem → List D → RS) : SS := fun ρ M => match fa ρ M with
  | .ok d M1 => k ρ M1 d
  | .exc c fs M1 => .exc c fs ρ M1
  | .bad => .bad
def sPar (i j : Nat) (fs : List SE) : SS := aBind (aSeq fs) fun ρ M ds => match ds with
  | [x, y] => .nx ((ρ.set i (.val x)).set j (.val y)) M
  | _ => .bad
theorem ds_par {Z : Y} {W : WX} {i j : Nat} {xn yn : Str} {a b : Expr} {fs : List SE} {px py pt pos : Pos} {kt : Nat} {k2 : Nat} {pt2 : Pos} (hc : X.calm = true) (hN : X.N.Nodup) (ha : DA X Z W [a, b] (aSeq fs)) (hi : X.N[i]? = some xn := by rfl) (hj : X.N[j]? = some yn := by rfl) (hij : i ≠ j := by decide)
    (hx : X.env.scope.names.lookup xn = some .local := by rfl) (hy : X.env.scope.names.lookup yn = some .local := by rfl)
    (hw : swappedStores [.Tuple [.Name xn px, .Name yn py] kt pt] (.Tuple [a, b] k2 pt2) X.env = pure (some [xn, yn]) := by rfl)
    (hs : swapsWithSole [.Tuple [.Name xn px, .Name yn py] kt pt] (.Tuple [a, b] k2 pt2) pos.line X.env = pure false := by rfl) :
    DS X Z W (.Assign [.Tuple [.Name xn px, .Name yn py] kt pt] (.Tuple [a, b] k2 pt2) pos) (sPar i j fs) := by
  refine PS.imp (ps_par hc hN hi hj hij hx hy ha hw hs) fun D σ H ⟨ρ, M, μ, S, m, h⟩ => ⟨ρ, M, μ, S, m, ?_⟩
  unfold sPar aBind at h
  cases q : aSeq fs ρ M with
  | exc c fs M1 => rw [q] at h; exact fun cls dx μ' H' e m' x => SResG.exc h S e m' x
  | bad => rw [q] at h; exact h.elim
  | ok ds M1 =>
    rw [q] at h
    intro vs μ1 H1 e1 m1 r1
    simp only at h
    split at h
    · cases r1 with
      | cons ra t =>
        cases t with
        | cons rb t =>
          cases t
          refine ⟨_, _, rfl, ?_⟩
          obtain ⟨S2, o2⟩ := (S.up e1).setV (i := i) ra
          obtain ⟨S3, o3⟩ := S2.setV (i := j) (rb.avm fun a z => .inl (avS_own o2 a z))
          exact h _ μ1 H1 (e1.mono fun _ z => z.elim) (fun a z => .inl (o2 a (o3 a z))) (m1.avm fun a z => avS_own o2 a (avS_own o3 a z)) S3
    · exact h.elim
end
end DD

set_option Elab.async false
set_option linter.all false
set_option autoImplicit false
set_option maxRecDepth 100000
set_option maxHeartbeats 2000000
/-! DD17: what the printed texts lean on. -/
namespace DD
open PySem PySem.Spec L2

theorem _root_.L2.Room.u64 {k : Nat} {A : Around} (r : Room k A) : A.units + 64 < cLine := by have := r.un; omega
theorem _root_.L2.Room.u70 {k : Nat} {A : Around} (r : Room k A) : A.units + 70 < cLine := by have := r.un; omega
theorem tk0 {X : Cx} : Takes X W0 := fun _ _ ⟨_, _, _, _, _, _, _, _, _, _, _, _, _, _, _, _, z⟩ => z.elim
section
variable {X : Cx} [Tbs X.K] {Z : Y} {W : WX} {pos p : Pos} {x : Str}
theorem de_gi {i : Int} (hg : Gl X x) (h : ∃ t, X.mg x = some (.int i t)) (hdb : (x == ("__debug__" : Str)) = false := by decide) : DE X Z W (.Name x pos) (eC (.int i)) := by
  obtain ⟨t, h⟩ := h
  exact de_glob (v := .int i) hg h ⟨t, rfl⟩ (fun _ _ _ => .int i) hdb
theorem de_gs {y : Str} (hg : Gl X x) (h : ∃ t, X.mg x = some (.str y t)) (hl : y.length ≤ sizeLine) (hdb : (x == ("__debug__" : Str)) = false := by decide) : DE X Z W (.Name x pos) (eC (.str y)) := by
  obtain ⟨t, h⟩ := h
  exact de_glob (v := .str y) hg h ⟨t, rfl⟩ (fun _ _ _ => .str y hl) hdb
theorem de_call00 {k j : Nat} {F : List D → Mem → R D} (c : CalD X.prog X.w X.K X.mg X.base k x 0 F []) (tk : Takes X W) (hr : Room j X.A) (hG : X.A.guards = some []) (hk : k ≤ j) (hg : Gl X x) (hdb : (x == ("__debug__" : Str)) = false := by decide) :
    DE X Z W (.Call (.Name x p) [] [] pos) (eFn F []) := by
  obtain ⟨f, fd, ps, ds', dvs, hm, hkp, Fn, hb, hd, hdf⟩ := c.ex
  refine ⟨fun pins s σ H Q I ⟨ρ, M, μ, S, m, q⟩ => wpAny_Call_Name_kw (ld_glob I hg hm (PySem.W.callWith_K0 I.kIn hkp (run_g (vs := []) (us := []) (E := WE W) Fn (hr.mono hk) hG hb hd (passAt tk σ) I .nil ?_)) hdb)⟩
  have rd := hdf μ (avS Z.om ρ σ) H
  refine ⟨by rw [List.nil_append, ← rd.length]; rfl, _, M, μ, avS Z.om ρ σ, by simpa using rd, m, ?_⟩
  have q : ResG (relD X.K (avS Z.om ρ σ)) X W (avS Z.om ρ σ) μ H σ (F [] M) Q := q
  cases e : F [] M with
  | ok d M' => rw [e] at q; exact q
  | exc c fs M' => rw [e] at q; exact q
  | bad => rw [e] at q; exact q.elim
/-- over a frozen list, a tuple, a text -/
def iAny (fe : SE) : SL := fun ρ M => (fe ρ M).bind fun d M1 => match d with
  | .lst l => .ok l M1
  | .tup l => .ok l M1
  | .str x => .ok (signs x) M1
  | _ => .bad
theorem di_any {tg e : Expr} {fe : SE} (he : DE X Z W e fe) : DI X Z W tg e (iAny fe) := by
  refine ⟨fun pins s σ H Q I ⟨ρ, M, μ, S, m, q⟩ => ?_⟩
  unfold iAny at q
  cases e1 : fe ρ M with
  | bad => rw [e1] at q; exact q.elim
  | exc c fs M1 =>
    rw [e1] at q
    refine (di_list (tg := tg) he).run pins s σ H Q I ⟨ρ, M, μ, S, m, ?_⟩
    unfold iLst
    rw [e1]
    exact q
  | ok d M1 =>
    rw [e1] at q
    simp only [R.bind_ok] at q
    cases d with
    | lst l =>
      refine (di_list (tg := tg) he).run pins s σ H Q I ⟨ρ, M, μ, S, m, ?_⟩
      unfold iLst
      rw [e1]
      exact q
    | tup l =>
      refine (di_tup (tg := tg) he).run pins s σ H Q I ⟨ρ, M, μ, S, m, ?_⟩
      unfold iTup'
      rw [e1]
      exact q
    | str l =>
      refine (di_str (tg := tg) he).run pins s σ H Q I ⟨ρ, M, μ, S, m, ?_⟩
      unfold iStr'
      rw [e1]
      exact q
    | _ => exact q.elim
theorem pg_nm {i : Nat} (hN : X.N.Nodup) (hi : X.N[i]? = some x := by rfl) (hx : Loc X.env.scope x := by first | exact Or.inl rfl | exact Or.inr rfl) (hf : X.fn x = true ∨ X.env.scope.names.lookup x = some .local := by first | exact .inl rfl | exact .inr rfl) : PG X (.Name x pos) (gName i) :=
  pg_name hN hi hx hf
end

/-! ### a def that makes lambdas -/
structure FunL (K : PySem.W.Frag) (x : Str) (st : Stmt) (f : Addr) (fd : FuncData) (c : Addr) : Prop where
  ex : ∃ (oc : Value) (od : Option Addr) (kV doc pm : Value) (an : Option Addr) (ct : Value) (osl : Array (Option Value)),
    fd = PySem.W.fnOf x x (defArgs st) (defBody st) (defScope st) .none kV doc pm an (.ref c) ct ∧ K.lookup f = some ⟨oc, od, .func fd, osl⟩ ∧ PySem.W.codeIn K (.ref c) x = true
  kp : PySem.W.keepIn K (.ref f) = true
structure LamT (K : PySem.W.Frag) [Tbs K] (mg : Str → Option Value) (base : Heap) (x : Str) (c : Addr) : Prop where
  ex : ∃ P, LamX.TabB base mg c P ∧ (P, (x ++ ".<locals>.") ++ "<lambda>") ∈ Tbs.T K ∧ ∀ p ∈ Tbs.T K, p.1 = P → p.2 = (x ++ ".<locals>.") ++ "<lambda>"
section
variable {P : Program} {w : World} {K : PySem.W.Frag} [Tbs K] {mg : Str → Option Value} {base : Heap}
theorem FunL.binds {K : PySem.W.Frag} {x : Str} {st : Stmt} {f c : Addr} {fd : FuncData} {ps : List Str} (F : FunL K x st f fd c)
    (h : ∀ (kV doc pm : Value) (an : Option Addr) (cdv ct : Value) (us : List Value), us.length = ps.length → bindArgs (PySem.W.fnOf x x (defArgs st) (defBody st) (defScope st) .none kV doc pm an cdv ct) ⟨us, []⟩ = pure (ps.zip us)) : Binds K fd ps [] := by
  obtain ⟨oc, od, kV, doc, pm, an, ct, osl, rfl, lk, hcd⟩ := F.ex
  exact .all (h kV doc pm an (.ref c) ct)
theorem fn_dL {x : Str} {st : Stmt} {f c : Addr} {fd : FuncData} {N ps : List Str} {k n loc : Nat} {body : SS} (F : FunL K x st f fd c) (S : FnScope N ps (defScope st)) (hn : ps.length = n) (hl : N.length = n + loc)
    (hb : ∀ (A : Around) (outer : List PySem.Env) (s : Shared) (H : Hp) (E : XK) (om : Av) (μ : List Addr), Room k (A.deeper (PyProof.Rows.envOfC x (defScope st) s.heap.objs.size f (.ref c))) → A.guards = some [] →
      Takes (cxOf (L2.CX P w) P w K mg base N x (defScope st) f (.ref c) A outer s H E) (fun cls d _ H => E cls d H) →
      PassesOwn (model P w) (A.deeper (PyProof.Rows.envOfC x (defScope st) s.heap.objs.size f (.ref c))) (PyProof.Rows.envOfC x (defScope st) s.heap.objs.size f (.ref c)) (cxOf (L2.CX P w) P w K mg base N x (defScope st) f (.ref c) A outer s H E).xe →
      DSs (cxOf (L2.CX P w) P w K mg base N x (defScope st) f (.ref c) A outer s H E) ⟨om, none, none, μ, H⟩ (fun cls d _ H => E cls d H) (defBody st) body) :
    FnG P w K mg base (k + 1) f fd ps (spD K mg n (runB loc body)) := by
  obtain ⟨oc, od, kV, doc, pm, an, ct, osl, rfl, lk, hcd⟩ := F.ex
  refine ⟨fun vs H Q E h => by rw [h.1, hn], fun A outer s H args us vs Q E hr hG e0 hbd hvs h => LamX.run_ofS lk hcd S hr e0 hbd hvs (by rw [h.1, hn]) fun hr => ?_⟩
  obtain ⟨hv, ds, M, μ, om, r, m, h⟩ := h
  obtain ⟨S0, no⟩ := SRel.start (X := cxOf (L2.CX P w) P w K mg base N x (defScope st) f (.ref c) A outer s H E) (th := none) (hd := none) (N := N) (k := loc) r (by rw [hl, hv]; omega)
  refine ⟨_, hb A outer s H E om μ hr hG (takes_of rfl rfl rfl rfl) (passes_of (X := cxOf (L2.CX P w) P w K mg base N x (defScope st) f (.ref c) A outer s H E) rfl), _, M, μ, S0, m.avm fun a z => z.elim id fun q => absurd q (no a), ?_⟩
  exact run_end (X := cxOf (L2.CX P w) P w K mg base N x (defScope st) f (.ref c) A outer s H E) (Z := ⟨om, none, none, μ, H⟩) no (fun _ _ _ _ z => z) h
end
end DD

set_option Elab.async false
set_option linter.all false
set_option autoImplicit false
set_option maxRecDepth 100000
set_option maxHeartbeats 2000000
/-! DD18: the head: a law's def is called with the script. -/
namespace DD
open PySem PySem.Spec L2 PyProof.Rows

/-- what is tracked when the law is called: the tables, the script where it is no object of the written part -/
def hp0 (K : PySem.W.Frag) (tabs : List Addr) (a : Addr) (ob : Obj) (ns : List Int) : Hp := fun b => if b ∈ tabs then some (.tbl #[]) else if b = a ∧ K.lookup a = none then some (.frz ob (.lst (ns.map V.int))) else none
section
variable {P : Program} {w : World} {K : PySem.W.Frag} {mg mb : Str → Option Value} {k : Nat} {fa a : Addr} {cs : List (Addr × Addr)} {fd : FuncData} {x : Str} {s₁ : Shared} {vs : List Value} {ns : List Int} {tabs : List Addr} {ob : Obj}
theorem hp0_cases {b : Addr} (q : hp0 K tabs a ob ns b ≠ none) : b ∈ tabs ∧ hp0 K tabs a ob ns b = some (.tbl #[]) ∨ b ∉ tabs ∧ b = a ∧ K.lookup a = none ∧ hp0 K tabs a ob ns b = some (.frz ob (.lst (ns.map V.int))) := by
  unfold hp0 at *
  by_cases h : b ∈ tabs
  · exact .inl ⟨h, by rw [if_pos h]⟩
  · rw [if_neg h] at q ⊢
    by_cases h2 : b = a ∧ K.lookup a = none
    · exact .inr ⟨h, h2.1, h2.2, by rw [if_pos h2]⟩
    · rw [if_neg h2] at q
      exact absurd rfl q
theorem call_law {T : List (Addr × Str)} {F : List D → Mem → R D} {M : Mem}
    (KX : K.In s₁.heap) (hns : s₁.heap.Ns mainGlobals mg) (hb : s₁.heap.Ns builtinsNs mb) (hbb : ∀ x : Str, x ≠ "__name__" → mb x = bootBuiltins x) (hlim : s₁.heap.NoLimit) (hg : s₁.gens = #[])
    (hT : ∀ p ∈ cs, s₁.heap.get? p.2 = some { cls := .none, data := .fields #[] }) (nT : ∀ p ∈ cs, K.lookup p.2 = none) (C : ∀ p ∈ cs, PySem.W.CodeHd s₁.heap p.1 p.2)
    (hbm : ∃ (bm : Addr) (ob : Obj), mg "__builtins__" = some (.ref bm) ∧ bm ≠ builtinsNs ∧ s₁.heap.get? bm = some ob ∧ ob.cls = .type "module" ∧ ob.dict = some builtinsNs ∧ ob.data = .plain)
    (ha : s₁.heap.get? a = some { cls := .type "list", data := .seq vs.toArray }) (hi : IntsAre vs ns) (hl : ns.length ≤ sizeLine) (hr : Room k callerA) (hTc : ∀ p ∈ T, p.1 ∈ cs.map (·.2))
    (hF : ∀ base : Heap, K.In base → base.Ns mainGlobals mg → (∀ p ∈ cs, LamX.TabB base mg p.1 p.2) → FnG P w K mg base k fa fd [x] (@spD K ⟨T⟩ mg 1 F)) (hbind : ∀ (s : Shared) (u : Value), BindsTo s fd ⟨[u], []⟩ [(x, u)])
    (law : F [.lst (ns.map .int)] [] = .ok (.bl true) M) :
    codeAny (model P w) callerA (.call (.ref fa) ⟨[.ref a], []⟩) (fun r s' => r = .ok (.ret (.bool true)) ∧ OldK s₁.heap s'.heap ∧ s'.os = s₁.os ∧ AllBare s'.gens) s₁ := by
  letI : Tbs K := ⟨T⟩
  let tabs := cs.map (·.2)
  let ob : Obj := { cls := .type "list", data := .seq vs.toArray }
  let H := hp0 K tabs a ob ns
  have rv := vals_ints hi
  have lv := hi.length
  have tab_obj : ∀ b ∈ tabs, s₁.heap.get? b = some { cls := .none, data := .fields #[] } ∧ K.lookup b = none := fun b hb => by
    obtain ⟨p, hp, rfl⟩ := List.mem_map.mp hb
    exact ⟨hT p hp, nT p hp⟩
  have aT : a ∉ tabs := fun z => by
    have q := (tab_obj a z).1
    rw [ha] at q
    simp at q
  have hc : ∀ b, H b ≠ none → b ∈ tabs ∧ H b = some (.tbl #[]) ∨ b ∉ tabs ∧ b = a ∧ K.lookup a = none ∧ H b = some (.frz ob (.lst (ns.map V.int))) := fun b q => hp0_cases q
  have Ht : ∀ b ∈ tabs, H b = some (.tbl #[]) := fun b hb => if_pos hb
  have hok : HOk P w H s₁.heap := fun b o e => by
    rcases hc b (by rw [e]; simp) with ⟨h1, h2⟩ | ⟨h1, rfl, h3, h4⟩
    · rw [h2] at e; cases e
      exact (tab_obj b h1).1
    · rw [h4] at e; cases e
      exact ⟨ha, by rw [List.length_map]; exact hl, vs, _, rv, ha⟩
  -- what is no list and no table is as it was
  have keepN : ∀ {b : Addr} {o : Obj}, s₁.heap.get? b = some o → (∀ its n, o.data ≠ .seq its n) → o.data ≠ .fields #[] → (hidT s₁.heap H).get? b = some o := fun {b o} e n1 n2 => hidT_get e (by
    cases q : H b with
    | none => rfl
    | some u =>
      rcases hc b (by rw [q]; simp) with ⟨h1, _⟩ | ⟨_, rfl, _, _⟩
      · rw [(tab_obj b h1).1] at e; cases e; exact absurd rfl n2
      · rw [ha] at e; cases e; exact absurd rfl (n1 _ _))
  have nsK : ∀ {b : Addr} {m : Str → Option Value}, s₁.heap.Ns b m → (hidT s₁.heap H).Ns b m := fun {b m} ⟨o, es, ep, e, d, r⟩ =>
    ⟨o, es, ep, keepN e (fun its n z => by rw [d] at z; cases z) (fun z => by rw [d] at z; cases z), d, r⟩
  have hK : K.In (hidT s₁.heap H) := fun b o e => hidT_get (KX b o e) (by
    cases q : H b with
    | none => rfl
    | some u =>
      rcases hc b (by rw [q]; simp) with ⟨h1, _⟩ | ⟨_, rfl, h3, _⟩
      · rw [(tab_obj b h1).2] at e; cases e
      · rw [h3] at e; cases e)
  have TB : ∀ p ∈ cs, LamX.TabB (hidT s₁.heap H) mg p.1 p.2 := fun p hp => by
    have hTp := hT p hp
    refine ⟨?_, ?_, fun z => ?_⟩
    · obtain ⟨o, us, file, tf, flags, tg, inF, text, tt, e1, r1, r2, r⟩ := C p hp
      refine ⟨o, us, file, tf, flags, tg, inF, text, tt, keepN e1 (fun its n z => by rw [r2] at z; cases z) (fun z => ?_), r1, r2, r⟩
      rw [r2] at z
      cases z
      exact absurd r.1 (by simp)
    · obtain ⟨bm, o, b1, b2, b3, b4, b5, b6⟩ := hbm
      have nP : bm ≠ p.2 := fun q => by rw [q, hTp] at b3; cases b3; cases b6
      have nG : bm ≠ mainGlobals := fun q => by
        obtain ⟨o', es, ep, e, hd, _⟩ := hns
        rw [q, e] at b3; cases b3
        rw [hd] at b6; cases b6
      exact ⟨bm, o, b1, b2, nG, nP, keepN b3 (fun its n z => by rw [b6] at z; cases z) (fun z => by rw [b6] at z; cases z), b4, b5, b6⟩
    · obtain ⟨o, es, ep, e, hd, _⟩ := hns
      rw [z, hTp] at e; cases e
      cases hd
  have e0 : Env0 P w K mg (hidT s₁.heap H) callerA [] s₁ H := ⟨rfl, ⟨hK, nsK hns, ⟨mb, nsK hb, hbb⟩, let ⟨mc, h1, h2⟩ := hlim; ⟨mc, nsK h1, h2⟩⟩, fun b o e => of_hidT e, Nat.le_of_eq (hidT_size _ _), trivial, fun b hb => absurd hb (by simp [frs]), hok, .of_eq hg⟩
  have rints : ∀ (ns : List Int), DRels K [] No H (ns.map D.int) (ns.map V.int) := fun ns => by
    induction ns with
    | nil => exact .nil
    | cons i ns ih => exact .cons (.int i) ih
  have rs : DRel K [] No H (.lst (ns.map D.int)) (.ref a) := by
    cases hk : K.lookup a with
    | none =>
      have hH : H a = some (.frz ob (.lst (ns.map V.int))) := (if_neg aT).trans (if_pos ⟨rfl, hk⟩)
      exact .lst (.inr ⟨ob, hH⟩) (by simp) (fun z => z) (by simpa using hl) (rints ns)
    | some o =>
      have e := KX a o hk
      rw [ha] at e; cases e
      exact .lstK (fun H' => .inr ⟨_, vs.toArray, _, hk, rfl, rfl, rfl, by rw [List.size_toArray, lv]; exact hl, by simpa using rv⟩) (by simpa using hl) (rints ns)
  have tb : TabsK K H := fun p hp => ⟨#[], Ht p.1 (hTc p hp), trivial, fun pos cv z => by cases z⟩
  have mr : MemRel K [] No H [] := ⟨rfl, by simp, fun i b m e => by simp at e, fun b z => z.elim, fun b z => by simp at z, tb⟩
  refine codeAny_mono ((hF _ hK (nsK hns) TB).run callerA [] s₁ H ⟨[.ref a], []⟩ [.ref a] [.ref a] (fun v _ => v = .bl true) (fun _ _ _ => False) hr rfl e0 (hbind s₁ (.ref a)) (.cons rfl .nil) ⟨rfl, [.lst (ns.map .int)], [], [], No, .cons rs .nil, mr, ?_⟩) fun r s' h => ?_
  · rw [law]
    exact fun v μ' H' _ _ q => by cases q; rfl
  · rcases r with e | fl
    · obtain ⟨_, _, _, _, _, _, _, _, _, _, _, _, z⟩ := h
      exact z.elim
    · cases fl with
      | next => exact False.elim h
      | brk => exact False.elim h
      | cont => exact False.elim h
      | ret u =>
        obtain ⟨v, H', os, bare, un, hok', r', rfl⟩ := h
        cases r'
        have grown : ∀ b ∈ tabs, ∃ more : Array Value, s'.heap.get? b = some { cls := .none, data := .fields more } := fun b hb => by
          obtain ⟨more, z⟩ := un.tbls b #[] (Ht b hb)
          exact ⟨_, hok' b _ z⟩
        have stay : ∀ b o, b ∉ tabs → s₁.heap.get? b = some o → s'.heap.get? b = some o := fun b o nb e => by
          by_cases q : H b = none
          · exact un.keep b o e q (by intro z; exact absurd z (by simp [frs])) (by simp)
          · rcases hc b q with ⟨h1, _⟩ | ⟨_, rfl, _, h4⟩
            · exact absurd h1 nb
            · obtain ⟨e2, _⟩ := hok' b _ (un.frzs b ob _ h4)
              rw [ha] at e; cases e
              exact e2
        refine ⟨rfl, ⟨fun b o e => ?_, fun b o e => ?_⟩, os, bare⟩
        · by_cases hb : b ∈ tabs
          · obtain ⟨p, hp, rfl⟩ := List.mem_map.mp hb
            obtain ⟨more, hm⟩ := grown _ hb
            rw [hT p hp] at e; cases e
            exact .inr (.inl ⟨((C p hp).tab (hT p hp)).isCodeTable, rfl, #[], more, rfl, by rw [Array.empty_append]; exact hm⟩)
          · exact .inl (stay b o hb e)
        · by_cases hb : b ∈ tabs
          · exact (grown b hb).elim fun more hm => ⟨_, hm⟩
          · exact ⟨o, stay b o hb e⟩
/-- what is known of the law at the head -/
def LawG (l : PySem.W.OpenLaw) (w : World) (K : PySem.W.Frag) (k n : Nat) (x : Str) (mg : Str → Option Value) (fa : Addr) (h : Heap) : Prop :=
  ∃ (fd : FuncData) (cs : List (Addr × Addr)) (T : List (Addr × Str)) (F : List D → Mem → R D), (∀ p ∈ cs, h.get? p.2 = some { cls := .none, data := .fields #[] }) ∧ (∀ p ∈ cs, K.lookup p.2 = none) ∧ (∀ p ∈ cs, PySem.W.CodeHd h p.1 p.2) ∧ (∀ (s : Shared) (u : Value), BindsTo s fd ⟨[u], []⟩ [(x, u)]) ∧
    (∀ p ∈ T, p.1 ∈ cs.map (·.2)) ∧ (∀ (ns : List Int), ns.length ≤ n → (∀ z ∈ ns, Builtin.Int.intBits z ≤ 1048576) → ∃ M, F [.lst (ns.map .int)] [] = .ok (.bl true) M) ∧
    ∀ base : Heap, K.In base → base.Ns mainGlobals mg → (∀ p ∈ cs, LamX.TabB base mg p.1 p.2) → FnG l.prog w K mg base k fa fd [x] (@spD K ⟨T⟩ mg 1 F)
theorem walk_G {l : PySem.W.OpenLaw} {n k : Nat} {q : Program} {loose : List Str} {XP : (Str → Option Value) → Heap → Prop} {YP : World → Heap → Prop} {d : DefRec} {K : Params → PySem.W.Frag} {x : Str}
    (hn : l.most = some n) (hn2 : n ≤ sizeLine) (hdf : d.params.defaults = []) (hr : Room k callerA) (hY : ∀ (w : World) (h : Heap), YP w h → (K w.params).In h)
    (F : ∀ (w : World) (mg : Str → Option Value) (fa : Addr) (h : Heap), YP w h → (K w.params).In h → h.Ns mainGlobals mg → mg d.name = some (.ref fa) → LawG l w (K w.params) k n x mg fa h) :
    PySem.W.WalkO q loose XP YP l.row.toRowW d [] (fun f vs => PySem.call f vs) := by
  refine Att.attach_callB hn hdf fun w s₀ s₁ mg mb fa o pm cd doc a vs ns G Y ho hd hcd hmg hobj hints hlen hbits hg => ?_
  have KX := hY w _ Y
  obtain ⟨fd, cs, T, Fl, h1, h2, h3, h4, h5, h6, h7⟩ := F w mg fa _ Y KX G.T.g hmg
  obtain ⟨M, hM⟩ := h6 ns hlen hbits
  exact call_law KX G.T.g G.T.b G.T.builtins G.T.nolimit hg h1 h2 h3 G.T.bmain hobj hints (Nat.le_trans hlen hn2) hr h5 h7 h4 hM
end
end DD

set_option Elab.async false
set_option linter.all false
set_option autoImplicit false
set_option maxRecDepth 100000
set_option maxHeartbeats 2000000
/-! DD19: reckoning with the plain functions. -/
namespace DD
open PySem PySem.Spec L2

theorem ix0 (n : Nat) : ixN (n + 1) 0 = some 0 := by simp [ixN]
/-! ### comprehensions -/
theorem compL_map {bind : Sl → D → Option Sl} {elt : SE} {ρ : Sl} {f : D → D} {M : Mem} : ∀ (l acc : List D), (∀ x ∈ l, ∃ ρ1, bind ρ x = some ρ1 ∧ elt ρ1 M = .ok (f x) M) → compL bind bYes elt ρ l acc M = .ok (acc ++ l.map f) M
  | [], acc, _ => by simp [compL]
  | x :: l, acc, h => by
    obtain ⟨ρ1, h1, h2⟩ := h x List.mem_cons_self
    rw [compL, h1]
    simp only [bYes, h2]
    rw [compL_map l _ fun y hy => h y (List.mem_cons_of_mem _ hy)]
    simp
theorem compL_filter {bind : Sl → D → Option Sl} {tst : SB} {elt : SE} {ρ : Sl} {f : D → D} {p : D → Bool} {M : Mem} : ∀ (l acc : List D), (∀ x ∈ l, ∃ ρ1, bind ρ x = some ρ1 ∧ tst ρ1 M = .ok (p x) M ∧ (p x = true → elt ρ1 M = .ok (f x) M)) → compL bind tst elt ρ l acc M = .ok (acc ++ (l.filter p).map f) M
  | [], acc, _ => by simp [compL]
  | x :: l, acc, h => by
    obtain ⟨ρ1, h1, h2, h3⟩ := h x List.mem_cons_self
    rw [compL, h1]
    simp only [h2]
    have ih := fun acc => compL_filter (bind := bind) (tst := tst) (elt := elt) (ρ := ρ) (f := f) (p := p) (M := M) l acc fun y hy => h y (List.mem_cons_of_mem _ hy)
    cases e : p x with
    | false => simp only [ih, List.filter_cons, e]; simp
    | true => simp only [h3 e, ih, List.filter_cons, e]; simp
theorem compL_ex {bind : Sl → D → Option Sl} {elt : SE} {ρ : Sl} {I : Mem → Prop} {Q : D → Prop} : ∀ (l acc : List D) (M : Mem), (∀ x ∈ l, ∀ M, I M → ∃ ρ1 y M', bind ρ x = some ρ1 ∧ elt ρ1 M = .ok y M' ∧ Q y ∧ I M') → I M →
    ∃ l' M', compL bind bYes elt ρ l acc M = .ok (acc ++ l') M' ∧ l'.length = l.length ∧ (∀ y ∈ l', Q y) ∧ I M'
  | [], acc, M, _, i => ⟨[], M, by simp [compL], rfl, by simp, i⟩
  | x :: l, acc, M, h, i => by
    obtain ⟨ρ1, y, M1, h1, h2, h3, h4⟩ := h x List.mem_cons_self M i
    obtain ⟨l', M', e, e2, e3, e4⟩ := compL_ex l (acc ++ [y]) M1 (fun z hz => h z (List.mem_cons_of_mem _ hz)) h4
    refine ⟨y :: l', M', ?_, by simp [e2], ?_, e4⟩
    · rw [compL, h1]
      simp only [bYes, h2, e]
      simp
    · intro z hz
      rcases List.mem_cons.mp hz with rfl | hz
      · exact h3
      · exact e3 z hz

/-! ### the length of a display -/
mutual
def cst : D → Nat
  | .non | .bl _ | .ref _ => 5
  | .int i => i.natAbs + 2
  | .str x => 10 * x.length + 2
  | .tup l | .lst l => csts l + 3
def csts : List D → Nat
  | [] => 0
  | d :: ds => cst d + 2 + csts ds
end
mutual
/-- signs and ints that are not great -/
def sg : D → Bool
  | .non | .bl _ | .ref _ => true
  | .int i => decide (i.natAbs.log2 < 1920)
  | .str x => x.cps.toList.all fun c => decide (c < 16 ^ 8)
  | .tup l | .lst l => sgs l
def sgs : List D → Bool
  | [] => true
  | d :: ds => sg d && sgs ds
end
theorem len_lst (ts : List Str) : (listText ts).length ≤ (ts.map (·.length)).sum + 2 * ts.length + 3 := listText_len_le ts
theorem len_tup (ts : List Str) : (tupleText ts).length ≤ (ts.map (·.length)).sum + 2 * ts.length + 3 := tupleText_len_le ts
mutual
theorem show_le : ∀ d : D, sg d = true → (toP d).shown.length ≤ cst d
  | .non, _ => by simp only [toP, PyData.shown, cst]; decide +kernel
  | .ref _, _ => by simp only [toP, PyData.shown, cst]; decide +kernel
  | .bl b, _ => by cases b <;> (simp only [toP, PyData.shown, cst]; decide +kernel)
  | .int i, _ => by
    simp only [toP, PyData.shown, cst]
    have := PyProof.Rows.len_str_of_int i
    omega
  | .str x, h => by
    simp only [toP, PyData.shown, cst]
    exact StrLaws.reprText_len x fun c hc => by
      simp only [sg] at h
      exact of_decide_eq_true (List.all_eq_true.mp h c hc)
  | .lst l, h => by
    simp only [toP, PyData.shown, cst]
    have h1 := len_lst (PyData.shownAll (toPs l))
    have h2 := shows_le l (by simpa [sg] using h)
    omega
  | .tup l, h => by
    simp only [toP, PyData.shown, cst]
    have h1 := len_tup (PyData.shownAll (toPs l))
    have h2 := shows_le l (by simpa [sg] using h)
    omega
theorem shows_le : ∀ l : List D, sgs l = true → ((PyData.shownAll (toPs l)).map (·.length)).sum + 2 * (PyData.shownAll (toPs l)).length ≤ csts l
  | [], _ => by simp [toPs, PyData.shownAll, csts]
  | d :: l, h => by
    simp only [sgs, Bool.and_eq_true] at h
    have h1 := show_le d h.1
    have h2 := shows_le l h.2
    simp only [toPs, PyData.shownAll, List.map_cons, List.sum_cons, List.length_cons, csts] at *
    omega
end
mutual
theorem sg_show : ∀ d : D, sg d = true → (toP d).showable = true
  | .non, _ => by simp [toP, PyData.showable]
  | .ref _, _ => by simp [toP, PyData.showable]
  | .bl b, _ => by simp [toP, PyData.showable]
  | .int i, h => by simpa [toP, PyData.showable, sg] using h
  | .str x, _ => by simp [toP, PyData.showable]
  | .lst l, h => by simp only [toP, PyData.showable]; exact sgs_show l (by simpa [sg] using h)
  | .tup l, h => by simp only [toP, PyData.showable]; exact sgs_show l (by simpa [sg] using h)
theorem sgs_show : ∀ l : List D, sgs l = true → PyData.showableAll (toPs l) = true
  | [], _ => by simp [toPs, PyData.showableAll]
  | d :: l, h => by
    simp only [sgs, Bool.and_eq_true] at h
    simp only [toPs, PyData.showableAll, sg_show d h.1, sgs_show l h.2, Bool.and_self]
end
theorem k_repr_ok {M : Mem} {d : D} (p : plainD d = true) (s : sg d = true) (c : cst d ≤ sizeLine) : kRepr M [d] = some (.str (showD d)) := by
  simp only [kRepr]
  rw [if_pos ⟨p, sg_show d s, Nat.le_trans (show_le d s) c⟩]
end DD

set_option Elab.async false
set_option linter.all false
set_option autoImplicit false
set_option maxRecDepth 100000
set_option maxHeartbeats 4000000
namespace K83
open PySem PySem.Spec L2 DD
def top (i : Nat) : Stmt := PySem.Challenge.pw_piledoors_k83_stacks_and_rules_as_texts.main.body.getD i (.Pass ⟨0, 0, 0, 0⟩)
structure Gs (K : PySem.W.Frag) (mg : Str → Option Value) where
  b_abs : mg "abs" = none
  b_all : mg "all" = none
  b_bool : mg "bool" = none
  b_int : mg "int" = none
  b_isinstance : mg "isinstance" = none
  b_len : mg "len" = none
  b_max : mg "max" = none
  b_min : mg "min" = none
  b_range : mg "range" = none
  b_repr : mg "repr" = none
  b_sorted : mg "sorted" = none
  b_str : mg "str" = none
  b_tuple : mg "tuple" = none
  b_zip : mg "zip" = none
  c_ARROW : ∃ t, mg "ARROW" = some (.str "->" t)
  c_DIGITS : ∃ t, mg "DIGITS" = some (.str "0123456789" t)
  c_EMPTY : ∃ t, mg "EMPTY" = some (.str "" t)
  c_LETTERS : ∃ t, mg "LETTERS" = some (.str "abcdefghijklmnopqrstuvwxyz" t)
  c_MAX_DIGITS : ∃ t, mg "MAX_DIGITS" = some (.int 400 t)
  c_MAX_LABELS : ∃ t, mg "MAX_LABELS" = some (.int 12 t)
  c_MAX_LETTERS : ∃ t, mg "MAX_LETTERS" = some (.int 8 t)
  c_MAX_PUSH : ∃ t, mg "MAX_PUSH" = some (.int 20 t)
  c_MAX_STATES : ∃ t, mg "MAX_STATES" = some (.int 100 t)
  c_NONE : ∃ t, mg "NONE" = some (.str "-" t)
  a_InvalidInterface : Addr
  e_InvalidInterface : mg "InvalidInterface" = some (.ref a_InvalidInterface)
  a_InvalidLabels : Addr
  e_InvalidLabels : mg "InvalidLabels" = some (.ref a_InvalidLabels)
  a_InvalidModule : Addr
  e_InvalidModule : mg "InvalidModule" = some (.ref a_InvalidModule)
  a_InvalidRule : Addr
  e_InvalidRule : mg "InvalidRule" = some (.ref a_InvalidRule)
  a_InvalidStack : Addr
  e_InvalidStack : mg "InvalidStack" = some (.ref a_InvalidStack)
  a_InvalidWires : Addr
  e_InvalidWires : mg "InvalidWires" = some (.ref a_InvalidWires)
  a_ParseError : Addr
  e_ParseError : mg "ParseError" = some (.ref a_ParseError)
  a_PileError : Addr
  e_PileError : mg "PileError" = some (.ref a_PileError)
  a_TooLarge : Addr
  e_TooLarge : mg "TooLarge" = some (.ref a_TooLarge)
  x_InvalidLabels : ExcAt K mg "InvalidLabels" [.type "ValueError", .type "Exception", .type "BaseException", .type "object"] "ValueError.__new__"
  k_InvalidLabels : ExcC K a_InvalidLabels
  xm_InvalidLabels_PileError : PySem.W.exmOne K (.ref a_InvalidLabels) (.ref a_PileError) = some true
  xm_InvalidLabels_TooLarge : PySem.W.exmOne K (.ref a_InvalidLabels) (.ref a_TooLarge) = some false
  ki_InvalidLabels_InvalidInterface : PySem.W.kitOne K (.ref a_InvalidLabels) (.ref a_InvalidInterface) = some false
  ki_InvalidLabels_InvalidLabels : PySem.W.kitOne K (.ref a_InvalidLabels) (.ref a_InvalidLabels) = some true
  ki_InvalidLabels_InvalidModule : PySem.W.kitOne K (.ref a_InvalidLabels) (.ref a_InvalidModule) = some false
  ki_InvalidLabels_InvalidRule : PySem.W.kitOne K (.ref a_InvalidLabels) (.ref a_InvalidRule) = some false
  ki_InvalidLabels_InvalidStack : PySem.W.kitOne K (.ref a_InvalidLabels) (.ref a_InvalidStack) = some false
  ki_InvalidLabels_InvalidWires : PySem.W.kitOne K (.ref a_InvalidLabels) (.ref a_InvalidWires) = some false
  ki_InvalidLabels_ParseError : PySem.W.kitOne K (.ref a_InvalidLabels) (.ref a_ParseError) = some false
  x_InvalidRule : ExcAt K mg "InvalidRule" [.type "ValueError", .type "Exception", .type "BaseException", .type "object"] "ValueError.__new__"
  k_InvalidRule : ExcC K a_InvalidRule
  xm_InvalidRule_PileError : PySem.W.exmOne K (.ref a_InvalidRule) (.ref a_PileError) = some true
  xm_InvalidRule_TooLarge : PySem.W.exmOne K (.ref a_InvalidRule) (.ref a_TooLarge) = some false
  ki_InvalidRule_InvalidInterface : PySem.W.kitOne K (.ref a_InvalidRule) (.ref a_InvalidInterface) = some false
  ki_InvalidRule_InvalidLabels : PySem.W.kitOne K (.ref a_InvalidRule) (.ref a_InvalidLabels) = some false
  ki_InvalidRule_InvalidModule : PySem.W.kitOne K (.ref a_InvalidRule) (.ref a_InvalidModule) = some false
  ki_InvalidRule_InvalidRule : PySem.W.kitOne K (.ref a_InvalidRule) (.ref a_InvalidRule) = some true
  ki_InvalidRule_InvalidStack : PySem.W.kitOne K (.ref a_InvalidRule) (.ref a_InvalidStack) = some false
  ki_InvalidRule_InvalidWires : PySem.W.kitOne K (.ref a_InvalidRule) (.ref a_InvalidWires) = some false
  ki_InvalidRule_ParseError : PySem.W.kitOne K (.ref a_InvalidRule) (.ref a_ParseError) = some false
  x_InvalidStack : ExcAt K mg "InvalidStack" [.type "ValueError", .type "Exception", .type "BaseException", .type "object"] "ValueError.__new__"
  k_InvalidStack : ExcC K a_InvalidStack
  xm_InvalidStack_PileError : PySem.W.exmOne K (.ref a_InvalidStack) (.ref a_PileError) = some true
  xm_InvalidStack_TooLarge : PySem.W.exmOne K (.ref a_InvalidStack) (.ref a_TooLarge) = some false
  ki_InvalidStack_InvalidInterface : PySem.W.kitOne K (.ref a_InvalidStack) (.ref a_InvalidInterface) = some false
  ki_InvalidStack_InvalidLabels : PySem.W.kitOne K (.ref a_InvalidStack) (.ref a_InvalidLabels) = some false
  ki_InvalidStack_InvalidModule : PySem.W.kitOne K (.ref a_InvalidStack) (.ref a_InvalidModule) = some false
  ki_InvalidStack_InvalidRule : PySem.W.kitOne K (.ref a_InvalidStack) (.ref a_InvalidRule) = some false
  ki_InvalidStack_InvalidStack : PySem.W.kitOne K (.ref a_InvalidStack) (.ref a_InvalidStack) = some true
  ki_InvalidStack_InvalidWires : PySem.W.kitOne K (.ref a_InvalidStack) (.ref a_InvalidWires) = some false
  ki_InvalidStack_ParseError : PySem.W.kitOne K (.ref a_InvalidStack) (.ref a_ParseError) = some false
  x_ParseError : ExcAt K mg "ParseError" [.type "ValueError", .type "Exception", .type "BaseException", .type "object"] "ValueError.__new__"
  k_ParseError : ExcC K a_ParseError
  xm_ParseError_PileError : PySem.W.exmOne K (.ref a_ParseError) (.ref a_PileError) = some true
  xm_ParseError_TooLarge : PySem.W.exmOne K (.ref a_ParseError) (.ref a_TooLarge) = some false
  ki_ParseError_InvalidInterface : PySem.W.kitOne K (.ref a_ParseError) (.ref a_InvalidInterface) = some false
  ki_ParseError_InvalidLabels : PySem.W.kitOne K (.ref a_ParseError) (.ref a_InvalidLabels) = some false
  ki_ParseError_InvalidModule : PySem.W.kitOne K (.ref a_ParseError) (.ref a_InvalidModule) = some false
  ki_ParseError_InvalidRule : PySem.W.kitOne K (.ref a_ParseError) (.ref a_InvalidRule) = some false
  ki_ParseError_InvalidStack : PySem.W.kitOne K (.ref a_ParseError) (.ref a_InvalidStack) = some false
  ki_ParseError_InvalidWires : PySem.W.kitOne K (.ref a_ParseError) (.ref a_InvalidWires) = some false
  ki_ParseError_ParseError : PySem.W.kitOne K (.ref a_ParseError) (.ref a_ParseError) = some true
def exm_PileError : Str → Option Bool := fun c => if c = "InvalidLabels" then some true else if c = "InvalidRule" then some true else if c = "InvalidStack" then some true else if c = "ParseError" then some true else none
theorem ok_exm_PileError {K : PySem.W.Frag} {mg : Str → Option Value} (G : Gs K mg) : ∀ c cls b, mg c = some cls → exm_PileError c = some b → PySem.W.exmOne K cls (.ref G.a_PileError) = some b := by
  intro c cls b h1 h2
  unfold exm_PileError at h2
  split at h2
  · rename_i e; subst e; rw [G.e_InvalidLabels] at h1; cases h1; cases h2; exact G.xm_InvalidLabels_PileError
  split at h2
  · rename_i e; subst e; rw [G.e_InvalidRule] at h1; cases h1; cases h2; exact G.xm_InvalidRule_PileError
  split at h2
  · rename_i e; subst e; rw [G.e_InvalidStack] at h1; cases h1; cases h2; exact G.xm_InvalidStack_PileError
  split at h2
  · rename_i e; subst e; rw [G.e_ParseError] at h1; cases h1; cases h2; exact G.xm_ParseError_PileError
  cases h2
def exm_TooLarge : Str → Option Bool := fun c => if c = "InvalidLabels" then some false else if c = "InvalidRule" then some false else if c = "InvalidStack" then some false else if c = "ParseError" then some false else none
theorem ok_exm_TooLarge {K : PySem.W.Frag} {mg : Str → Option Value} (G : Gs K mg) : ∀ c cls b, mg c = some cls → exm_TooLarge c = some b → PySem.W.exmOne K cls (.ref G.a_TooLarge) = some b := by
  intro c cls b h1 h2
  unfold exm_TooLarge at h2
  split at h2
  · rename_i e; subst e; rw [G.e_InvalidLabels] at h1; cases h1; cases h2; exact G.xm_InvalidLabels_TooLarge
  split at h2
  · rename_i e; subst e; rw [G.e_InvalidRule] at h1; cases h1; cases h2; exact G.xm_InvalidRule_TooLarge
  split at h2
  · rename_i e; subst e; rw [G.e_InvalidStack] at h1; cases h1; cases h2; exact G.xm_InvalidStack_TooLarge
  split at h2
  · rename_i e; subst e; rw [G.e_ParseError] at h1; cases h1; cases h2; exact G.xm_ParseError_TooLarge
  cases h2
def sub_InvalidInterface : Str → Option Bool := fun c => if c = "InvalidLabels" then some false else if c = "InvalidRule" then some false else if c = "InvalidStack" then some false else if c = "ParseError" then some false else none
theorem is_InvalidInterface {K : PySem.W.Frag} {mg : Str → Option Value} (G : Gs K mg) : ∀ c cls b, mg c = some cls → sub_InvalidInterface c = some b → ∃ C, cls = .ref C ∧ ExcC K C ∧ PySem.W.kitOne K (.ref C) (.ref G.a_InvalidInterface) = some b := by
  intro c cls b h1 h2
  unfold sub_InvalidInterface at h2
  split at h2
  · rename_i e; subst e; rw [G.e_InvalidLabels] at h1; cases h1; cases h2; exact ⟨_, rfl, G.k_InvalidLabels, G.ki_InvalidLabels_InvalidInterface⟩
  split at h2
  · rename_i e; subst e; rw [G.e_InvalidRule] at h1; cases h1; cases h2; exact ⟨_, rfl, G.k_InvalidRule, G.ki_InvalidRule_InvalidInterface⟩
  split at h2
  · rename_i e; subst e; rw [G.e_InvalidStack] at h1; cases h1; cases h2; exact ⟨_, rfl, G.k_InvalidStack, G.ki_InvalidStack_InvalidInterface⟩
  split at h2
  · rename_i e; subst e; rw [G.e_ParseError] at h1; cases h1; cases h2; exact ⟨_, rfl, G.k_ParseError, G.ki_ParseError_InvalidInterface⟩
  cases h2
def sub_InvalidLabels : Str → Option Bool := fun c => if c = "InvalidLabels" then some true else if c = "InvalidRule" then some false else if c = "InvalidStack" then some false else if c = "ParseError" then some false else none
theorem is_InvalidLabels {K : PySem.W.Frag} {mg : Str → Option Value} (G : Gs K mg) : ∀ c cls b, mg c = some cls → sub_InvalidLabels c = some b → ∃ C, cls = .ref C ∧ ExcC K C ∧ PySem.W.kitOne K (.ref C) (.ref G.a_InvalidLabels) = some b := by
  intro c cls b h1 h2
  unfold sub_InvalidLabels at h2
  split at h2
  · rename_i e; subst e; rw [G.e_InvalidLabels] at h1; cases h1; cases h2; exact ⟨_, rfl, G.k_InvalidLabels, G.ki_InvalidLabels_InvalidLabels⟩
  split at h2
  · rename_i e; subst e; rw [G.e_InvalidRule] at h1; cases h1; cases h2; exact ⟨_, rfl, G.k_InvalidRule, G.ki_InvalidRule_InvalidLabels⟩
  split at h2
  · rename_i e; subst e; rw [G.e_InvalidStack] at h1; cases h1; cases h2; exact ⟨_, rfl, G.k_InvalidStack, G.ki_InvalidStack_InvalidLabels⟩
  split at h2
  · rename_i e; subst e; rw [G.e_ParseError] at h1; cases h1; cases h2; exact ⟨_, rfl, G.k_ParseError, G.ki_ParseError_InvalidLabels⟩
  cases h2
def sub_InvalidModule : Str → Option Bool := fun c => if c = "InvalidLabels" then some false else if c = "InvalidRule" then some false else if c = "InvalidStack" then some false else if c = "ParseError" then some false else none
theorem is_InvalidModule {K : PySem.W.Frag} {mg : Str → Option Value} (G : Gs K mg) : ∀ c cls b, mg c = some cls → sub_InvalidModule c = some b → ∃ C, cls = .ref C ∧ ExcC K C ∧ PySem.W.kitOne K (.ref C) (.ref G.a_InvalidModule) = some b := by
  intro c cls b h1 h2
  unfold sub_InvalidModule at h2
  split at h2
  · rename_i e; subst e; rw [G.e_InvalidLabels] at h1; cases h1; cases h2; exact ⟨_, rfl, G.k_InvalidLabels, G.ki_InvalidLabels_InvalidModule⟩
  split at h2
  · rename_i e; subst e; rw [G.e_InvalidRule] at h1; cases h1; cases h2; exact ⟨_, rfl, G.k_InvalidRule, G.ki_InvalidRule_InvalidModule⟩
  split at h2
  · rename_i e; subst e; rw [G.e_InvalidStack] at h1; cases h1; cases h2; exact ⟨_, rfl, G.k_InvalidStack, G.ki_InvalidStack_InvalidModule⟩
  split at h2
  · rename_i e; subst e; rw [G.e_ParseError] at h1; cases h1; cases h2; exact ⟨_, rfl, G.k_ParseError, G.ki_ParseError_InvalidModule⟩
  cases h2
def sub_InvalidRule : Str → Option Bool := fun c => if c = "InvalidLabels" then some false else if c = "InvalidRule" then some true else if c = "InvalidStack" then some false else if c = "ParseError" then some false else none
theorem is_InvalidRule {K : PySem.W.Frag} {mg : Str → Option Value} (G : Gs K mg) : ∀ c cls b, mg c = some cls → sub_InvalidRule c = some b → ∃ C, cls = .ref C ∧ ExcC K C ∧ PySem.W.kitOne K (.ref C) (.ref G.a_InvalidRule) = some b := by
  intro c cls b h1 h2
  unfold sub_InvalidRule at h2
  split at h2
  · rename_i e; subst e; rw [G.e_InvalidLabels] at h1; cases h1; cases h2; exact ⟨_, rfl, G.k_InvalidLabels, G.ki_InvalidLabels_InvalidRule⟩
  split at h2
  · rename_i e; subst e; rw [G.e_InvalidRule] at h1; cases h1; cases h2; exact ⟨_, rfl, G.k_InvalidRule, G.ki_InvalidRule_InvalidRule⟩
  split at h2
  · rename_i e; subst e; rw [G.e_InvalidStack] at h1; cases h1; cases h2; exact ⟨_, rfl, G.k_InvalidStack, G.ki_InvalidStack_InvalidRule⟩
  split at h2
  · rename_i e; subst e; rw [G.e_ParseError] at h1; cases h1; cases h2; exact ⟨_, rfl, G.k_ParseError, G.ki_ParseError_InvalidRule⟩
  cases h2
def sub_InvalidStack : Str → Option Bool := fun c => if c = "InvalidLabels" then some false else if c = "InvalidRule" then some false else if c = "InvalidStack" then some true else if c = "ParseError" then some false else none
theorem is_InvalidStack {K : PySem.W.Frag} {mg : Str → Option Value} (G : Gs K mg) : ∀ c cls b, mg c = some cls → sub_InvalidStack c = some b → ∃ C, cls = .ref C ∧ ExcC K C ∧ PySem.W.kitOne K (.ref C) (.ref G.a_InvalidStack) = some b := by
  intro c cls b h1 h2
  unfold sub_InvalidStack at h2
  split at h2
  · rename_i e; subst e; rw [G.e_InvalidLabels] at h1; cases h1; cases h2; exact ⟨_, rfl, G.k_InvalidLabels, G.ki_InvalidLabels_InvalidStack⟩
  split at h2
  · rename_i e; subst e; rw [G.e_InvalidRule] at h1; cases h1; cases h2; exact ⟨_, rfl, G.k_InvalidRule, G.ki_InvalidRule_InvalidStack⟩
  split at h2
  · rename_i e; subst e; rw [G.e_InvalidStack] at h1; cases h1; cases h2; exact ⟨_, rfl, G.k_InvalidStack, G.ki_InvalidStack_InvalidStack⟩
  split at h2
  · rename_i e; subst e; rw [G.e_ParseError] at h1; cases h1; cases h2; exact ⟨_, rfl, G.k_ParseError, G.ki_ParseError_InvalidStack⟩
  cases h2
def sub_InvalidWires : Str → Option Bool := fun c => if c = "InvalidLabels" then some false else if c = "InvalidRule" then some false else if c = "InvalidStack" then some false else if c = "ParseError" then some false else none
theorem is_InvalidWires {K : PySem.W.Frag} {mg : Str → Option Value} (G : Gs K mg) : ∀ c cls b, mg c = some cls → sub_InvalidWires c = some b → ∃ C, cls = .ref C ∧ ExcC K C ∧ PySem.W.kitOne K (.ref C) (.ref G.a_InvalidWires) = some b := by
  intro c cls b h1 h2
  unfold sub_InvalidWires at h2
  split at h2
  · rename_i e; subst e; rw [G.e_InvalidLabels] at h1; cases h1; cases h2; exact ⟨_, rfl, G.k_InvalidLabels, G.ki_InvalidLabels_InvalidWires⟩
  split at h2
  · rename_i e; subst e; rw [G.e_InvalidRule] at h1; cases h1; cases h2; exact ⟨_, rfl, G.k_InvalidRule, G.ki_InvalidRule_InvalidWires⟩
  split at h2
  · rename_i e; subst e; rw [G.e_InvalidStack] at h1; cases h1; cases h2; exact ⟨_, rfl, G.k_InvalidStack, G.ki_InvalidStack_InvalidWires⟩
  split at h2
  · rename_i e; subst e; rw [G.e_ParseError] at h1; cases h1; cases h2; exact ⟨_, rfl, G.k_ParseError, G.ki_ParseError_InvalidWires⟩
  cases h2
def sub_ParseError : Str → Option Bool := fun c => if c = "InvalidLabels" then some false else if c = "InvalidRule" then some false else if c = "InvalidStack" then some false else if c = "ParseError" then some true else none
theorem is_ParseError {K : PySem.W.Frag} {mg : Str → Option Value} (G : Gs K mg) : ∀ c cls b, mg c = some cls → sub_ParseError c = some b → ∃ C, cls = .ref C ∧ ExcC K C ∧ PySem.W.kitOne K (.ref C) (.ref G.a_ParseError) = some b := by
  intro c cls b h1 h2
  unfold sub_ParseError at h2
  split at h2
  · rename_i e; subst e; rw [G.e_InvalidLabels] at h1; cases h1; cases h2; exact ⟨_, rfl, G.k_InvalidLabels, G.ki_InvalidLabels_ParseError⟩
  split at h2
  · rename_i e; subst e; rw [G.e_InvalidRule] at h1; cases h1; cases h2; exact ⟨_, rfl, G.k_InvalidRule, G.ki_InvalidRule_ParseError⟩
  split at h2
  · rename_i e; subst e; rw [G.e_InvalidStack] at h1; cases h1; cases h2; exact ⟨_, rfl, G.k_InvalidStack, G.ki_InvalidStack_ParseError⟩
  split at h2
  · rename_i e; subst e; rw [G.e_ParseError] at h1; cases h1; cases h2; exact ⟨_, rfl, G.k_ParseError, G.ki_ParseError_ParseError⟩
  cases h2
def ok_limit : Str → Bool := fun _ => false
theorem xf_limit {K : PySem.W.Frag} {mg : Str → Option Value} (G : Gs K mg) : ∀ c cls, mg c = some cls → ok_limit c = true → ∃ C, cls = .ref C ∧ XfC K C ∧ PySem.W.findIn K (.ref C) "limit" = some none := fun c cls _ h => by cases h
def sis_integer : SS := (sRet (eAndV (eIsi "int" (eBor 0)) (eNotV (eIsi "bool" (eBor 0)))))
def Fis_integer : List D → Mem → R D := runB 0 sis_integer
theorem scis_integer : FnScope ["value"] ["value"] (defScope (top 17)) := ⟨rfl, rfl, rfl, by decide +kernel, rfl, by decide +kernel, by decide +kernel⟩
def sis_name : SS := (sRet (eAndV (eIsi "str" (eBor 0)) (eAndV (eChain gLe gLe (eC (.int 1)) (eCall kLen [(eBor 0)]) (eC (.int 8))) (eCall kAll [(eFrz (eComp (iAny (eVar 0)) (bName 1) bYes (eBin gIn (eBor 1) (eC (.str "abcdefghijklmnopqrstuvwxyz"))) [1]))]))))
def Fis_name : List D → Mem → R D := runB 1 sis_name
theorem scis_name : FnScope ["value", "letter"] ["value"] (defScope (top 18)) := ⟨rfl, rfl, rfl, by decide +kernel, rfl, by decide +kernel, by decide +kernel⟩
def sis_ascending : SS := (sRet (eCall kAll [(eFrz (eComp (iZip (eVar 0) (eSl gSl (eBor 0) (oSome (eC (.int 1))) oNone)) (bTup 2 (bCons (bName 1) (bCons (bName 2) bNil))) bYes (eBin gLt (eBor 1) (eBor 2)) [1, 2]))]))
def Fis_ascending : List D → Mem → R D := runB 2 sis_ascending
theorem scis_ascending : FnScope ["values", "one", "other"] ["values"] (defScope (top 19)) := ⟨rfl, rfl, rfl, by decide +kernel, rfl, by decide +kernel, by decide +kernel⟩
def sare_names : SS := (sRet (eAndV (eIsi "tuple" (eBor 0)) (eAndV (eCall kAll [(eFrz (eComp (iAny (eVar 0)) (bName 1) bYes (eFn Fis_name [(eVar 1)]) [1]))]) (eFn Fis_ascending [(eVar 0)]))))
def Fare_names : List D → Mem → R D := runB 1 sare_names
theorem scare_names : FnScope ["value", "name"] ["value"] (defScope (top 20)) := ⟨rfl, rfl, rfl, by decide +kernel, rfl, by decide +kernel, by decide +kernel⟩
def sis_word : SS := (sRet (eAndV (eIsi "tuple" (eBor 1)) (eCall kAll [(eFrz (eComp (iAny (eVar 1)) (bName 2) bYes (eAndV (eIsi "str" (eBor 2)) (eBin gIn (eBor 2) (eBor 0))) [2]))])))
def Fis_word : List D → Mem → R D := runB 1 sis_word
theorem scis_word : FnScope ["labels", "value", "label"] ["labels", "value"] (defScope (top 21)) := ⟨rfl, rfl, rfl, by decide +kernel, rfl, by decide +kernel, by decide +kernel⟩
def sis_labels : SS := (sRet (eAndV (eFn Fare_names [(eVar 0)]) (eChain gLe gLe (eC (.int 1)) (eCall kLen [(eBor 0)]) (eC (.int 12)))))
def Fis_labels : List D → Mem → R D := runB 0 sis_labels
theorem scis_labels : FnScope ["value"] ["value"] (defScope (top 22)) := ⟨rfl, rfl, rfl, by decide +kernel, rfl, by decide +kernel, by decide +kernel⟩
def srequire_labels : SS := (sIf (eNot (eTru (eFn Fis_labels [(eVar 0)]))) (sRaise "InvalidLabels") sNext)
def Frequire_labels : List D → Mem → R D := runB 0 srequire_labels
theorem screquire_labels : FnScope ["labels"] ["labels"] (defScope (top 23)) := ⟨rfl, rfl, rfl, by decide +kernel, rfl, by decide +kernel, by decide +kernel⟩
def snumber_in : SS := (sSeq (sSet 1 (eIf (eTru (eMeth isStr mStarts (eBor 0) [(eC (.str "-"))])) (eSl gSl (eBor 0) (oSome (eC (.int 1))) oNone) (eVar 0)))
  (sSeq (sIf (eOr (eTest (eBin gEq (eBor 1) (eC (.str "")))) (eOr (eTest (eBin gGt (eCall kLen [(eBor 1)]) (eC (.int 400)))) (eNot (eTru (eCall kAll [(eFrz (eComp (iAny (eVar 1)) (bName 2) bYes (eBin gIn (eBor 2) (eC (.str "0123456789"))) [2]))]))))) (sRaise "ParseError") sNext)
  (sRet (eCall kInt [(eBor 0)]))))
def Fnumber_in : List D → Mem → R D := runB 2 snumber_in
theorem scnumber_in : FnScope ["part", "digits", "sign"] ["part"] (defScope (top 29)) := ⟨rfl, rfl, rfl, by decide +kernel, rfl, by decide +kernel, by decide +kernel⟩
def sparts_text : SS := (sRet (eIf (eTest (eBin gGt (eCall kLen [(eBor 0)]) (eC (.int 0)))) (eMeth isStr mJoin (eC (.str " ")) [(eBor 0)]) (eC (.str "-"))))
def Fparts_text : List D → Mem → R D := runB 0 sparts_text
theorem scparts_text : FnScope ["parts"] ["parts"] (defScope (top 30)) := ⟨rfl, rfl, rfl, by decide +kernel, rfl, by decide +kernel, by decide +kernel⟩
def sparts_in : SS := (sRet (eIf (eTest (eBin gEq (eBor 0) (eLst [(eC (.str "-"))]))) (eTup []) (eCall kTuple [(eBor 0)])))
def Fparts_in : List D → Mem → R D := runB 0 sparts_in
theorem scparts_in : FnScope ["parts"] ["parts"] (defScope (top 31)) := ⟨rfl, rfl, rfl, by decide +kernel, rfl, by decide +kernel, by decide +kernel⟩
def sparts_of : SS := (sSeq (sIf (eOr (eNot (eTru (eIsi "str" (eBor 0)))) (eTest (eBin gIn (eC (.str "\n")) (eBor 0)))) (sRaise "ParseError") sNext)
  (sRet (eMeth isStr mSplit (eBor 0) [(eC (.str " "))])))
def Fparts_of : List D → Mem → R D := runB 0 sparts_of
theorem scparts_of : FnScope ["text"] ["text"] (defScope (top 32)) := ⟨rfl, rfl, rfl, by decide +kernel, rfl, by decide +kernel, by decide +kernel⟩
def schecked : SS := (sSeq (sIf (eTest (eBin gNe (eBor 1) (eBor 2))) (sRaise "ParseError") sNext)
  (sRet (eVar 0)))
def Fchecked : List D → Mem → R D := runB 0 schecked
theorem scchecked : FnScope ["value", "found", "text"] ["value", "found", "text"] (defScope (top 33)) := ⟨rfl, rfl, rfl, by decide +kernel, rfl, by decide +kernel, by decide +kernel⟩
def stop_text : SS := (sRet (eIf (eTest (eBin gEq (eBor 0) (eC (.str "")))) (eC (.str "-")) (eVar 0)))
def Ftop_text : List D → Mem → R D := runB 0 stop_text
theorem sctop_text : FnScope ["top"] ["top"] (defScope (top 34)) := ⟨rfl, rfl, rfl, by decide +kernel, rfl, by decide +kernel, by decide +kernel⟩
def sis_target : SS := (sRet (eIf (eTru (eFn Fis_integer [(eVar 0)])) (eChain gLe gLt (eC (.int 0)) (eBor 0) (eC (.int 100))) (eFn Fis_name [(eVar 0)])))
def Fis_target : List D → Mem → R D := runB 0 sis_target
theorem scis_target : FnScope ["value"] ["value"] (defScope (top 35)) := ⟨rfl, rfl, rfl, by decide +kernel, rfl, by decide +kernel, by decide +kernel⟩
def sis_formed_rule : SS := (sSeq (sIf (eOr (eNot (eTru (eIsi "tuple" (eBor 0)))) (eTest (eBin gNe (eCall kLen [(eBor 0)]) (eC (.int 4))))) (sRet (eC (.bl false))) sNext)
  (sSeq (sTg (bTup 4 (bCons (bName 2) (bCons (bName 3) (bCons (bName 4) (bCons (bName 5) bNil))))) (eVar 0))
  (sSeq (sIf (eOr (eNot (eTru (eFn Fis_integer [(eVar 2)]))) (eOr (eNot (eTru (eFn Fis_target [(eVar 2)]))) (eOr (eNot (eTru (eFn Fis_target [(eVar 4)]))) (eNot (eTru (eIsi "tuple" (eBor 5))))))) (sRet (eC (.bl false))) sNext)
  (sSeq (sSet 1 (eOrV (eAndV (eIsi "str" (eBor 3)) (eBin gEq (eBor 3) (eC (.str "")))) (eFn Fis_name [(eVar 3)])))
  (sRet (eAndV (eVar 1) (eAndV (eBin gLe (eCall kLen [(eBor 5)]) (eC (.int 20))) (eCall kAll [(eFrz (eComp (iAny (eVar 5)) (bName 6) bYes (eFn Fis_name [(eVar 6)]) [6]))]))))))))
def Fis_formed_rule : List D → Mem → R D := runB 6 sis_formed_rule
theorem scis_formed_rule : FnScope ["value", "is_top", "state", "top", "target", "push", "label"] ["value"] (defScope (top 36)) := ⟨rfl, rfl, rfl, by decide +kernel, rfl, by decide +kernel, by decide +kernel⟩
def srule_text : SS := (sSeq (sTg (bTup 4 (bCons (bName 1) (bCons (bName 2) (bCons (bName 3) (bCons (bName 4) bNil))))) (eVar 0))
  (sRet (eMeth isStr mJoin (eC (.str " ")) [(eLst [(eCall kStr [(eBor 1)]), (eFn Ftop_text [(eVar 2)]), (eC (.str "->")), (eCall kStr [(eBor 3)]), (eFn Fparts_text [(eVar 4)])])])))
def Frule_text : List D → Mem → R D := runB 4 srule_text
theorem scrule_text : FnScope ["rule", "state", "top", "target", "push"] ["rule"] (defScope (top 37)) := ⟨rfl, rfl, rfl, by decide +kernel, rfl, by decide +kernel, by decide +kernel⟩
def starget_in : SS := (sRet (eIf (eTest (eBin gIn (eSl gSl (eBor 0) oNone (oSome (eC (.int 1)))) (eC (.str "0123456789")))) (eFn Fnumber_in [(eVar 0)]) (eVar 0)))
def Ftarget_in : List D → Mem → R D := runB 0 starget_in
theorem sctarget_in : FnScope ["part"] ["part"] (defScope (top 38)) := ⟨rfl, rfl, rfl, by decide +kernel, rfl, by decide +kernel, by decide +kernel⟩
def srule_in : SS := (sSeq (sSet 1 (eFn Fparts_of [(eVar 0)]))
  (sSeq (sIf (eOr (eTest (eBin gLt (eCall kLen [(eBor 1)]) (eC (.int 5)))) (eOr (eTest (eBin gNe (eBin gIx (eBor 1) (eC (.int 2))) (eC (.str "->")))) (eTest (eBin gIn (eC (.str "")) (eBor 1))))) (sRaise "ParseError") sNext)
  (sSeq (sSet 2 (eIf (eTest (eBin gEq (eBin gIx (eBor 1) (eC (.int 1))) (eC (.str "-")))) (eC (.str "")) (eBin gIx (eBor 1) (eC (.int 1)))))
  (sSeq (sSet 3 (eTup [(eFn Fnumber_in [(eBin gIx (eBor 1) (eC (.int 0)))]), (eVar 2), (eFn Ftarget_in [(eBin gIx (eBor 1) (eC (.int 3)))]), (eFn Fparts_in [(eSl gSl (eBor 1) (oSome (eC (.int 4))) oNone)])]))
  (sSeq (sIf (eNot (eTru (eFn Fis_formed_rule [(eVar 3)]))) (sRaise "ParseError") sNext)
  (sRet (eFn Fchecked [(eVar 3), (eFn Frule_text [(eVar 3)]), (eVar 0)])))))))
def Frule_in : List D → Mem → R D := runB 3 srule_in
theorem scrule_in : FnScope ["line", "parts", "top", "rule"] ["line"] (defScope (top 39)) := ⟨rfl, rfl, rfl, by decide +kernel, rfl, by decide +kernel, by decide +kernel⟩
def sformat_stack : SS := (sSeq (sExpr (eFn Frequire_labels [(eVar 0)]))
  (sSeq (sIf (eNot (eTru (eFn Fis_word [(eVar 0), (eVar 1)]))) (sRaise "InvalidStack") sNext)
  (sRet (eFn Fparts_text [(eVar 1)]))))
def Fformat_stack : List D → Mem → R D := runB 0 sformat_stack
theorem scformat_stack : FnScope ["labels", "stack"] ["labels", "stack"] (defScope (top 40)) := ⟨rfl, rfl, rfl, by decide +kernel, rfl, by decide +kernel, by decide +kernel⟩
def sparse_stack : SS := (sSeq (sExpr (eFn Frequire_labels [(eVar 0)]))
  (sSeq (sSet 2 (eFn Fparts_in [(eFn Fparts_of [(eVar 1)])]))
  (sSeq (sIf (eNot (eTru (eFn Fis_word [(eVar 0), (eVar 2)]))) (sRaise "ParseError") sNext)
  (sRet (eVar 2)))))
def Fparse_stack : List D → Mem → R D := runB 1 sparse_stack
theorem scparse_stack : FnScope ["labels", "text", "stack"] ["labels", "text"] (defScope (top 41)) := ⟨rfl, rfl, rfl, by decide +kernel, rfl, by decide +kernel, by decide +kernel⟩
def sformat_rule : SS := (sSeq (sIf (eNot (eTru (eFn Fis_formed_rule [(eVar 0)]))) (sRaise "InvalidRule") sNext)
  (sRet (eFn Frule_text [(eVar 0)])))
def Fformat_rule : List D → Mem → R D := runB 0 sformat_rule
theorem scformat_rule : FnScope ["rule"] ["rule"] (defScope (top 42)) := ⟨rfl, rfl, rfl, by decide +kernel, rfl, by decide +kernel, by decide +kernel⟩
def sparse_rule : SS := (sRet (eFn Frule_in [(eVar 0)]))
def Fparse_rule : List D → Mem → R D := runB 0 sparse_rule
theorem scparse_rule : FnScope ["text"] ["text"] (defScope (top 43)) := ⟨rfl, rfl, rfl, by decide +kernel, rfl, by decide +kernel, by decide +kernel⟩
def s_law_stream : SS := (sSeq (sSet 2 (eBin gAdd (eBin gMul (eC (.int 7)) (eBor 1)) (eC (.int 2))))
  (sSeq (sIf (eTest (eBin gLt (eBor 1) (eCall kLen [(eBor 0)]))) (sSet 2 (eBin gIx (eBor 0) (eBor 1))) sNext)
  (sSeq (sSet 3 (eBin gMod (eCall kAbs [(eBor 2)]) (eBin gPow (eBin gPow (eC (.int 10)) (eC (.int 60))) (eC (.int 11)))))
  (sRet (eShr (aSeq [(eCall kMax [(eC (.int 0)), (eBin gAdd (eBin gSub (eBor 3) (eBin gPow (eC (.int 10)) (eC (.int 18)))) (eC (.int 1)))]), (eBin gMod (eBin gAdd (eBin gAdd (eBin gAdd (eBin gMul (eBor 3) (eC (.int 7046029267))) (eBin gMul (eC (.int 804379)) (eBor 1))) (eBin gMul (eC (.int 5)) (eCall kInt [(eBin gLt (eBor 2) (eC (.int 0)))]))) (eC (.int 3))) (eC (.int 4294967161))), (eC (.int 0))]))))))
def F_law_stream : List D → Mem → R D := runB 2 s_law_stream
theorem sc_law_stream : FnScope ["script", "at", "cell", "great"] ["script", "at"] (defScope (top 45)) := ⟨rfl, rfl, rfl, by decide +kernel, rfl, by decide +kernel, by decide +kernel⟩
def s_law_draw : SS := (sSeq (sIf (eTest (eBin gGt (eBin gIx (eBor 0) (eC (.int 0))) (eC (.int 0)))) (sSeq (sSet 5 (eBin gMod (eBin gIx (eBor 0) (eC (.int 0))) (eBor 1)))
  (sSeq (sStore (eVar 0) (eC (.int 0)) (eBin gDiv (eBin gIx (eBor 0) (eC (.int 0))) (eBor 1)))
  (sRet (eVar 5)))) sNext)
  (sSeq (sStore (eVar 0) (eC (.int 2)) (eBin gAdd (eBin gIx (eBor 0) (eC (.int 2))) (eC (.int 1))))
  (sSeq (sSet 2 (eBin gMod (eBin gAdd (eBin gIx (eBor 0) (eC (.int 1))) (eBin gMul (eC (.int 1327217887)) (eBin gIx (eBor 0) (eC (.int 2))))) (eC (.int 4294967143))))
  (sSeq (sSet 3 (eBin gAdd (eBin gMul (eBin gMod (eBin gMul (eBor 2) (eBor 2)) (eC (.int 4294967111))) (eBor 2)) (eBin gMul (eC (.int 15013)) (eBin gIx (eBor 0) (eC (.int 2))))))
  (sSeq (sSet 4 (eBin gMod (eBin gAdd (eBor 3) (eBin gMod (eBin gIx (eBor 0) (eC (.int 1))) (eC (.int 65521)))) (eC (.int 4294967087))))
  (sRet (eBin gMod (eBin gAdd (eBin gDiv (eBin gMod (eBin gMul (eBor 4) (eBor 4)) (eC (.int 4294967029))) (eC (.int 128))) (eBin gMul (eBin gMul (eBor 2) (eC (.int 33554432))) (eCall kInt [(eBin gGt (eBor 1) (eBin gPow (eC (.int 10)) (eC (.int 6))))]))) (eBor 1))))))))
def F_law_draw : List D → Mem → R D := runB 4 s_law_draw
theorem sc_law_draw : FnScope ["stream", "total", "one", "stir", "two", "found"] ["stream", "total"] (defScope (top 46)) := ⟨rfl, rfl, rfl, by decide +kernel, rfl, by decide +kernel, by decide +kernel⟩
def s_law_letters : SS := (sRet (eMeth isStr mJoin (eC (.str "")) [(eFrz (eComp (iRange1 [(eBor 1)]) (bName 2) bYes (eBin gIx (eC (.str "abc")) (eFn F_law_draw [(eVar 0), (eC (.int 3))])) [2]))]))
def F_law_letters : List D → Mem → R D := runB 1 s_law_letters
theorem sc_law_letters : FnScope ["stream", "total", "turn"] ["stream", "total"] (defScope (top 47)) := ⟨rfl, rfl, rfl, by decide +kernel, rfl, by decide +kernel, by decide +kernel⟩
def s_law_names : SS := (sSeq (sOwn 2 (aSeq []))
  (sSeq (sFor (iRange1 [(eBor 1)]) (bName 3) (sSeq (sSet 4 (eFn F_law_letters [(eVar 0), (eBin gIx (eLst [(eC (.int 0)), (eC (.int 0)), (eC (.int 1)), (eC (.int 3))]) (eFn F_law_draw [(eVar 0), (eC (.int 4))]))]))
  (sSeq (sSet 5 (eFn F_law_letters [(eVar 0), (eBin gIx (eLst [(eC (.int 0)), (eC (.int 0)), (eC (.int 1)), (eC (.int 4))]) (eFn F_law_draw [(eVar 0), (eC (.int 4))]))]))
  (sApp 2 (eBin gAdd (eBin gAdd (eBor 4) (eBin gIx (eC (.str "defghijklmno")) (eBor 3))) (eBor 5))))))
  (sRet (eCall kTuple [(eCall kSorted [(eBor 2)])]))))
def F_law_names : List D → Mem → R D := runB 4 s_law_names
theorem sc_law_names : FnScope ["stream", "total", "found", "at", "ahead", "behind"] ["stream", "total"] (defScope (top 48)) := ⟨rfl, rfl, rfl, by decide +kernel, rfl, by decide +kernel, by decide +kernel⟩
def s_law_word : SS := (sRet (eCall kTuple [(eFrz (eComp (iRange1 [(eFn F_law_draw [(eVar 0), (eBin gAdd (eBor 2) (eC (.int 1)))])]) (bName 3) bYes (eBin gIx (eBor 1) (eFn F_law_draw [(eVar 0), (eCall kLen [(eBor 1)])])) [3]))]))
def F_law_word : List D → Mem → R D := runB 1 s_law_word
theorem sc_law_word : FnScope ["stream", "labels", "most", "turn"] ["stream", "labels", "most"] (defScope (top 49)) := ⟨rfl, rfl, rfl, by decide +kernel, rfl, by decide +kernel, by decide +kernel⟩
def s_law_spelled : SS := (sRet (eIf (eTest (eBin gGt (eCall kLen [(eBor 0)]) (eC (.int 0)))) (eMeth isStr mJoin (eC (.str " ")) [(eBor 0)]) (eC (.str "-"))))
def F_law_spelled : List D → Mem → R D := runB 0 s_law_spelled
theorem sc_law_spelled : FnScope ["parts"] ["parts"] (defScope (top 50)) := ⟨rfl, rfl, rfl, by decide +kernel, rfl, by decide +kernel, by decide +kernel⟩
def s_law_is_name : SS := (sRet (eAndV (eChain gLe gLe (eC (.int 1)) (eCall kLen [(eBor 0)]) (eC (.int 8))) (eBin gEq (eFrz (eComp (iAny (eVar 0)) (bName 1) (eTest (eBin gNotIn (eBor 1) (eC (.str "abcdefghijklmnopqrstuvwxyz")))) (eC (.int 1)) [1])) (eLst []))))
def F_law_is_name : List D → Mem → R D := runB 1 s_law_is_name
theorem sc_law_is_name : FnScope ["part", "sign"] ["part"] (defScope (top 51)) := ⟨rfl, rfl, rfl, by decide +kernel, rfl, by decide +kernel, by decide +kernel⟩
def s_law_integer : SS := (sSeq (sSet 1 (eIf (eTest (eBin gEq (eSl gSl (eBor 0) oNone (oSome (eC (.int 1)))) (eC (.str "-")))) (eSl gSl (eBor 0) (oSome (eC (.int 1))) oNone) (eVar 0)))
  (sSeq (sIf (eOr (eTest (eBin gEq (eBor 1) (eC (.str "")))) (eOr (eTest (eBin gGt (eCall kLen [(eBor 1)]) (eC (.int 400)))) (eTest (eBin gNe (eFrz (eComp (iAny (eVar 1)) (bName 2) (eTest (eBin gNotIn (eBor 2) (eC (.str "0123456789")))) (eC (.int 1)) [2])) (eLst []))))) (sRet (eC .non)) sNext)
  (sRet (eIf (eTest (eBin gEq (eCall kStr [(eCall kInt [(eBor 0)])]) (eBor 0))) (eCall kInt [(eBor 0)]) (eC .non)))))
def F_law_integer : List D → Mem → R D := runB 2 s_law_integer
theorem sc_law_integer : FnScope ["part", "digits", "sign"] ["part"] (defScope (top 52)) := ⟨rfl, rfl, rfl, by decide +kernel, rfl, by decide +kernel, by decide +kernel⟩
def s_law_names_in : SS := (sSeq (sIf (eTest (eBin gEq (eBor 0) (eLst [(eC (.str "-"))]))) (sRet (eTup [])) sNext)
  (sRet (eIf (eTest (eBin gEq (eFrz (eComp (iAny (eVar 0)) (bName 1) (eNot (eTru (eFn F_law_is_name [(eVar 1)]))) (eC (.int 1)) [1])) (eLst []))) (eCall kTuple [(eBor 0)]) (eC .non))))
def F_law_names_in : List D → Mem → R D := runB 1 s_law_names_in
theorem sc_law_names_in : FnScope ["parts", "part"] ["parts"] (defScope (top 53)) := ⟨rfl, rfl, rfl, by decide +kernel, rfl, by decide +kernel, by decide +kernel⟩
def s_law_rule_in : SS := (sSeq (sSet 1 (eMeth isStr mSplit (eBor 0) [(eC (.str " "))]))
  (sSeq (sIf (eOr (eTest (eBin gLt (eCall kLen [(eBor 1)]) (eC (.int 5)))) (eOr (eTest (eBin gNe (eBin gIx (eBor 1) (eC (.int 2))) (eC (.str "->")))) (eNot (eOr (eTest (eBin gEq (eBin gIx (eBor 1) (eC (.int 1))) (eC (.str "-")))) (eTru (eFn F_law_is_name [(eBin gIx (eBor 1) (eC (.int 1)))])))))) (sRet (eC .non)) sNext)
  (sSeq (sPar 3 4 [(eFn F_law_integer [(eBin gIx (eBor 1) (eC (.int 0)))]), (eFn F_law_integer [(eBin gIx (eBor 1) (eC (.int 3)))])])
  (sSeq (sSet 2 (eFn F_law_names_in [(eSl gSl (eBor 1) (oSome (eC (.int 4))) oNone)]))
  (sSeq (sIf (eAnd (eTest (eBin gIs (eBor 4) (eC .non))) (eTru (eFn F_law_is_name [(eBin gIx (eBor 1) (eC (.int 3)))]))) (sSet 4 (eBin gIx (eBor 1) (eC (.int 3)))) sNext)
  (sSeq (sIf (eOr (eTest (eBin gIs (eBor 3) (eC .non))) (eOr (eTest (eBin gIs (eBor 4) (eC .non))) (eOr (eTest (eBin gIs (eBor 2) (eC .non))) (eTest (eBin gGt (eCall kLen [(eBor 2)]) (eC (.int 20))))))) (sRet (eC .non)) sNext)
  (sSeq (sIf (eOr (eNot (eTest (eChain gLe gLt (eC (.int 0)) (eBor 3) (eC (.int 100))))) (eAnd (eTru (eIsi "int" (eBor 4))) (eNot (eTest (eChain gLe gLt (eC (.int 0)) (eBor 4) (eC (.int 100))))))) (sRet (eC .non)) sNext)
  (sRet (eTup [(eVar 3), (eIf (eTest (eBin gEq (eBin gIx (eBor 1) (eC (.int 1))) (eC (.str "-")))) (eC (.str "")) (eBin gIx (eBor 1) (eC (.int 1)))), (eVar 4), (eVar 2)])))))))))
def F_law_rule_in : List D → Mem → R D := runB 4 s_law_rule_in
theorem sc_law_rule_in : FnScope ["line", "parts", "push", "state", "target"] ["line"] (defScope (top 54)) := ⟨rfl, rfl, rfl, by decide +kernel, rfl, by decide +kernel, by decide +kernel⟩
def s_law_rule_text : SS := (sSeq (sTg (bTup 4 (bCons (bName 1) (bCons (bName 2) (bCons (bName 3) (bCons (bName 4) bNil))))) (eVar 0))
  (sRet (eMeth isStr mJoin (eC (.str " ")) [(eLst [(eCall kStr [(eBor 1)]), (eIf (eTest (eBin gEq (eBor 2) (eC (.str "")))) (eC (.str "-")) (eVar 2)), (eC (.str "->")), (eCall kStr [(eBor 3)]), (eFn F_law_spelled [(eVar 4)])])])))
def F_law_rule_text : List D → Mem → R D := runB 4 s_law_rule_text
theorem sc_law_rule_text : FnScope ["rule", "state", "top", "target", "push"] ["rule"] (defScope (top 55)) := ⟨rfl, rfl, rfl, by decide +kernel, rfl, by decide +kernel, by decide +kernel⟩
def s_law_rule : SS := (sSeq (sSet 1 (eFn F_law_names [(eVar 0), (eC (.int 3))]))
  (sSeq (sSet 2 (eBin gIx (eLst [(eFn F_law_draw [(eVar 0), (eC (.int 100))]), (eC (.int 0)), (eC (.int 99)), (eBin gIx (eBor 1) (eC (.int 0)))]) (eFn F_law_draw [(eVar 0), (eC (.int 4))])))
  (sSeq (sSet 3 (eBin gIx (eLst [(eC (.int 0)), (eC (.int 1)), (eC (.int 2)), (eC (.int 20)), (eFn F_law_draw [(eVar 0), (eC (.int 21))])]) (eFn F_law_draw [(eVar 0), (eC (.int 5))])))
  (sSeq (sSet 4 (eCall kTuple [(eFrz (eComp (iRange1 [(eBor 3)]) (bName 5) bYes (eBin gIx (eBor 1) (eFn F_law_draw [(eVar 0), (eC (.int 3))])) [5]))]))
  (sRet (eTup [(eFn F_law_draw [(eVar 0), (eC (.int 100))]), (eBin gIx (eLst [(eC (.str "")), (eBin gIx (eBor 1) (eC (.int 1)))]) (eFn F_law_draw [(eVar 0), (eC (.int 2))])), (eVar 2), (eVar 4)]))))))
def F_law_rule : List D → Mem → R D := runB 5 s_law_rule
theorem sc_law_rule : FnScope ["stream", "name", "target", "size", "push", "turn"] ["stream"] (defScope (top 56)) := ⟨rfl, rfl, rfl, by decide +kernel, rfl, by decide +kernel, by decide +kernel⟩
def s_law_bent : SS := (sSeq (sSet 2 (eFn F_law_draw [(eVar 0), (eBin gAdd (eCall kLen [(eBor 1)]) (eC (.int 1)))]))
  (sSeq (sSet 3 (eBin gIx (eLst [(eC (.str " ")), (eC (.str "-")), (eC (.str "0")), (eC (.str "a")), (eC (.str "\n")), (eC (.str "1")), (eC (.str "=")), (eC (.str ".")), (eC (.str ">")), (eC (.str "A")), (eC (.str "z")), (eC (.str "9"))]) (eFn F_law_draw [(eVar 0), (eC (.int 12))])))
  (sSeq (sSet 4 (eLst [(eBin gAdd (eSl gSl (eBor 1) oNone (oSome (eBor 2))) (eSl gSl (eBor 1) (oSome (eBin gAdd (eBor 2) (eC (.int 1)))) oNone)), (eBin gAdd (eBin gAdd (eSl gSl (eBor 1) oNone (oSome (eBor 2))) (eBor 3)) (eSl gSl (eBor 1) (oSome (eBor 2)) oNone)), (eBin gAdd (eBin gAdd (eSl gSl (eBor 1) oNone (oSome (eBor 2))) (eBor 3)) (eSl gSl (eBor 1) (oSome (eBin gAdd (eBor 2) (eC (.int 1)))) oNone)), (eBin gAdd (eBor 1) (eBor 3))]))
  (sSeq (sPar 5 6 [(eSl gSl (eBor 1) (oSome (eBor 2)) (oSome (eBin gAdd (eBor 2) (eC (.int 1))))), (eSl gSl (eBor 1) (oSome (eBin gAdd (eBor 2) (eC (.int 1)))) (oSome (eBin gAdd (eBor 2) (eC (.int 2)))))])
  (sSeq (sSet 4 (eBin gAdd (eBor 4) (eLst [(eBin gAdd (eBor 3) (eBor 1)), (eBin gAdd (eBin gAdd (eBin gAdd (eSl gSl (eBor 1) oNone (oSome (eBor 2))) (eBor 6)) (eBor 5)) (eSl gSl (eBor 1) (oSome (eBin gAdd (eBor 2) (eC (.int 2)))) oNone)), (eSl gSl (eBor 1) oNone (oSome (eBor 2)))])))
  (sRet (eBin gIx (eBor 4) (eFn F_law_draw [(eVar 0), (eC (.int 7))]))))))))
def F_law_bent : List D → Mem → R D := runB 5 s_law_bent
theorem sc_law_bent : FnScope ["stream", "text", "at", "sign", "some", "one", "other"] ["stream", "text"] (defScope (top 57)) := ⟨rfl, rfl, rfl, by decide +kernel, rfl, by decide +kernel, by decide +kernel⟩
def s_law_met (th : Mem → R D) : SS := (sTry (sRet (eLst [(eC (.str "told")), (eThk 0 th)])) [⟨exm_TooLarge, some 1, (sRet (eLst [(eC (.str "large")), (eXf 1 "limit" ok_limit)]))⟩, ⟨exm_PileError, some 1, (sSeq (sOwn 2 (aSeq [(eIsE 1 sub_InvalidLabels), (eIsE 1 sub_InvalidStack), (eIsE 1 sub_InvalidRule)]))
  (sSeq (sOwn 2 (fCat (eBor 2) (eLst [(eIsE 1 sub_InvalidWires), (eIsE 1 sub_InvalidModule), (eIsE 1 sub_InvalidInterface)])))
  (sSeq (sApp 2 (eIsE 1 sub_ParseError))
  (sSeq (sSet 3 (eLst [(eC (.str "labels")), (eC (.str "stack")), (eC (.str "rule")), (eC (.str "wires")), (eC (.str "module")), (eC (.str "interface")), (eC (.str "parse"))]))
  (sRet (eLst [(eIf (eTest (eBin gEq (eMeth isLst mCount (eBor 2) [(eC (.bl true))]) (eC (.int 1)))) (eBin gIx (eBor 3) (eMeth isLst mIndex (eBor 2) [(eC (.bl true))])) (eC (.str "odd")))]))))))⟩])
def G_law_met : (Mem → R D) → Mem → R D := fun th => runT 3 (s_law_met th)
theorem sc_law_met : FnScope ["call", "e", "kinds", "words"] ["call"] (defScope (top 58)) := ⟨rfl, rfl, rfl, by decide +kernel, rfl, by decide +kernel, by decide +kernel⟩
def s_law_due : SS := (sRet (eIf (eTest (eBin gIs (eBor 0) (eC .non))) (eCall kRepr [(eLst [(eC (.str "parse"))])]) (eCall kRepr [(eLst [(eC (.str "told")), (eVar 0)])])))
def F_law_due : List D → Mem → R D := runB 0 s_law_due
theorem sc_law_due : FnScope ["value"] ["value"] (defScope (top 59)) := ⟨rfl, rfl, rfl, by decide +kernel, rfl, by decide +kernel, by decide +kernel⟩
def s_law_stack_right : SS := (sSeq (sSet 1 (eFn F_law_names [(eVar 0), (eBin gAdd (eC (.int 1)) (eFn F_law_draw [(eVar 0), (eC (.int 12))]))]))
  (sSeq (sSet 2 (eFn F_law_word [(eVar 0), (eVar 1), (eC (.int 12))]))
  (sSeq (sSet 3 (eFn F_law_spelled [(eVar 2)]))
  (sSeq (sIf (eTest (eBin gNe (eLam G_law_met (eFn Fformat_stack [(eVar 1), (eVar 2)])) (eLst [(eC (.str "told")), (eVar 3)]))) (sRet (eC (.bl false))) sNext)
  (sSeq (sFor (iAny (eBin gAdd (eLst [(eVar 3), (eVar 3)]) (eFrz (eComp (iRange1 [(eC (.int 4))]) (bName 7) bYes (eFn F_law_bent [(eVar 0), (eVar 3)]) [7])))) (bName 4) (sSeq (sSet 5 (eIf (eTest (eBin gEq (eBor 4) (eC (.str "-")))) (eTup []) (eCall kTuple [(eMeth isStr mSplit (eBor 4) [(eC (.str " "))])])))
  (sSeq (sSet 6 (eBin gEq (eFrz (eComp (iAny (eVar 5)) (bName 8) (eTest (eBin gNotIn (eBor 8) (eBor 1))) (eC (.int 1)) [8])) (eLst [])))
  (sIf (eTest (eBin gNe (eCall kRepr [(eLam G_law_met (eFn Fparse_stack [(eVar 1), (eVar 4)]))]) (eFn F_law_due [(eIf (eTru (eBor 6)) (eVar 5) (eC .non))]))) (sRet (eC (.bl false))) sNext))))
  (sRet (eC (.bl true))))))))
def F_law_stack_right : List D → Mem → R D := runB 8 s_law_stack_right
theorem sc_law_stack_right : FnScope ["stream", "labels", "stack", "text", "other", "parts", "known", "turn", "part"] ["stream"] (defScope (top 60)) := ⟨rfl, rfl, rfl, by decide +kernel, rfl, by decide +kernel, by decide +kernel⟩
def s_law_rule_right : SS := (sSeq (sSet 1 (eFn F_law_rule [(eVar 0)]))
  (sSeq (sSet 2 (eFn F_law_rule_text [(eVar 1)]))
  (sSeq (sIf (eOr (eTest (eBin gNe (eLam G_law_met (eFn Fformat_rule [(eVar 1)])) (eLst [(eC (.str "told")), (eVar 2)]))) (eTest (eBin gNe (eCall kRepr [(eFn F_law_rule_in [(eVar 2)])]) (eCall kRepr [(eBor 1)])))) (sRet (eC (.bl false))) sNext)
  (sSeq (sFor (iAny (eBin gAdd (eLst [(eVar 2), (eVar 2)]) (eFrz (eComp (iRange1 [(eC (.int 6))]) (bName 4) bYes (eFn F_law_bent [(eVar 0), (eVar 2)]) [4])))) (bName 3) (sIf (eTest (eBin gNe (eCall kRepr [(eLam G_law_met (eFn Fparse_rule [(eVar 3)]))]) (eFn F_law_due [(eFn F_law_rule_in [(eVar 3)])]))) (sRet (eC (.bl false))) sNext))
  (sRet (eC (.bl true)))))))
def F_law_rule_right : List D → Mem → R D := runB 4 s_law_rule_right
theorem sc_law_rule_right : FnScope ["stream", "rule", "text", "other", "turn"] ["stream"] (defScope (top 61)) := ⟨rfl, rfl, rfl, by decide +kernel, rfl, by decide +kernel, by decide +kernel⟩
def s_law_words_right : SS := (sSeq (sTg (bTup 2 (bCons (bName 0) (bCons (bName 1) bNil))) (eTup [(eTup [(eC (.int 10)), (eC (.str "class")), (eC (.str "never")), (eTup [(eC (.str "labels")), (eC (.str "class"))])]), (eTup [(eC (.str "class")), (eC (.str "entry")), (eC (.str "never"))])]))
  (sSeq (sIf (eTest (eBin gNe (eLam G_law_met (eFn Fformat_rule [(eVar 0)])) (eLst [(eC (.str "told")), (eC (.str "10 class -> never labels class"))]))) (sRet (eC (.bl false))) sNext)
  (sSeq (sIf (eTest (eBin gNe (eLam G_law_met (eFn Fparse_rule [(eC (.str "10 class -> never labels class"))])) (eLst [(eC (.str "told")), (eVar 0)]))) (sRet (eC (.bl false))) sNext)
  (sRet (eBin gEq (eLam G_law_met (eFn Fparse_stack [(eVar 1), (eC (.str "never class"))])) (eLst [(eC (.str "told")), (eTup [(eC (.str "never")), (eC (.str "class"))])]))))))
def F_law_words_right : List D → Mem → R D := runB 2 s_law_words_right
theorem sc_law_words_right : FnScope ["rule", "labels"] [] (defScope (top 62)) := ⟨rfl, rfl, rfl, by decide +kernel, rfl, by decide +kernel, by decide +kernel⟩
def slaw : SS := (sSeq (sFor (iRange1 [(eCall kMax [(eC (.int 1)), (eCall kMin [(eC (.int 8)), (eCall kLen [(eBor 0)])])])]) (bName 1) (sSeq (sSet 2 (eFn F_law_stream [(eVar 0), (eVar 1)]))
  (sIf (eOr (eNot (eTru (eFn F_law_stack_right [(eVar 2)]))) (eNot (eTru (eFn F_law_rule_right [(eVar 2)])))) (sRet (eC (.bl false))) sNext)))
  (sRet (eFn F_law_words_right [])))
def Flaw : List D → Mem → R D := runB 2 slaw
theorem sclaw : FnScope ["script", "at", "stream"] ["script"] (defScope (top 63)) := ⟨rfl, rfl, rfl, by decide +kernel, rfl, by decide +kernel, by decide +kernel⟩
end K83

set_option Elab.async false
set_option linter.all false
set_option autoImplicit false
set_option maxRecDepth 100000
set_option maxHeartbeats 4000000
namespace K83
open PySem PySem.Spec L2 DD
theorem fnis_integer {P : Program} {w : World} {K : PySem.W.Frag} [Tbs K] {mg : Str → Option Value} {base : Heap} {f : Addr} {fd : FuncData} (F : Fun K "is_integer" "is_integer" (top 17) f fd) (G : Gs K mg) : FnG P w K mg base 1 f fd ["value"] (spD K mg 1 Fis_integer) :=
  fn_d F scis_integer rfl rfl fun cdv A outer s H E om μ hr hG tk hp => have hN := scis_integer.nd; (dss_one (ds_ret (de_and (de_isi (be_var (i := 0)) rfl G.b_isinstance rfl G.b_int (by decide +kernel)) (de_one (de_not (de_isi (be_var (i := 0)) rfl G.b_isinstance rfl G.b_bool (by decide +kernel)))))))
theorem bis_integer {K : PySem.W.Frag} {f : Addr} {fd : FuncData} (F : Fun K "is_integer" "is_integer" (top 17) f fd) : Binds K fd ["value"] [] := F.binds fun _ _ _ _ _ _ us hl => match us, hl with | [_], _ => rfl
theorem fnis_name {P : Program} {w : World} {K : PySem.W.Frag} [Tbs K] {mg : Str → Option Value} {base : Heap} {f : Addr} {fd : FuncData} (F : Fun K "is_name" "is_name" (top 18) f fd) (G : Gs K mg) : FnG P w K mg base 1 f fd ["value"] (spD K mg 1 Fis_name) :=
  fn_d F scis_name rfl rfl fun cdv A outer s H E om μ hr hG tk hp => have hN := scis_name.nd; (dss_one (ds_ret (de_and (de_isi (be_var (i := 0)) rfl G.b_isinstance rfl G.b_str (by decide +kernel)) (de_and (de_chain o2_le o2_le (DE.toB de_int) (DE.toB (de_callB k_len rfl G.b_len PySem.boot_len (bas_cons (be_var (i := 0)) bas_nil))) (DE.toB (de_gi rfl G.c_MAX_LETTERS))) (de_one (de_callB (k_all rfl) rfl G.b_all (by decide +kernel) (bas_cons (DE.toB (DF.frz (df_comp (own := [("letter", 1)]) rfl hN (di_any (de_var (i := 0))) (blkOk_by (by with_unfolding_all rfl)) (fun _ _ _ _ _ => (pg_nm hN (i := 1))) (fun om => (sem_name 1)) (fun _ h => h) (let tk := @tk0; fun om s H C cl fp => dts_nil) (let tk := @tk0; fun om s H C cl fp => (de_cmp (o2_in hr.u64) (be_var (i := 1)) (DE.toB (de_gs rfl G.c_LETTERS (by decide +kernel)))))))) bas_nil)))))))
theorem bis_name {K : PySem.W.Frag} {f : Addr} {fd : FuncData} (F : Fun K "is_name" "is_name" (top 18) f fd) : Binds K fd ["value"] [] := F.binds fun _ _ _ _ _ _ us hl => match us, hl with | [_], _ => rfl
theorem fnis_ascending {P : Program} {w : World} {K : PySem.W.Frag} [Tbs K] {mg : Str → Option Value} {base : Heap} {f : Addr} {fd : FuncData} (F : Fun K "is_ascending" "is_ascending" (top 19) f fd) (G : Gs K mg) : FnG P w K mg base 1 f fd ["values"] (spD K mg 1 Fis_ascending) :=
  fn_d F scis_ascending rfl rfl fun cdv A outer s H E om μ hr hG tk hp => have hN := scis_ascending.nd; (dss_one (ds_ret (de_callB (k_all rfl) rfl G.b_all (by decide +kernel) (bas_cons (DE.toB (DF.frz (df_comp (own := [("one", 1), ("other", 2)]) rfl hN (di_zip rfl G.b_zip (de_var (i := 0)) (de_sl s_sl (be_var (i := 0)) (do_some (DE.toB de_int)) do_none)) (blkOk_by (by with_unfolding_all rfl)) (fun _ _ _ _ _ => (pg_tup rfl (pgs_cons (pg_nm hN (i := 1)) (pgs_cons (pg_nm hN (i := 2)) pgs_nil rfl) rfl) rfl rfl)) (fun om => (sem_tup (sem_cons (sem_name 1) (sem_cons (sem_name 2) sem_nil)))) (fun _ h => h) (let tk := @tk0; fun om s H C cl fp => dts_nil) (let tk := @tk0; fun om s H C cl fp => (de_cmp o2_lt (be_var (i := 1)) (be_var (i := 2))))))) bas_nil))))
theorem bis_ascending {K : PySem.W.Frag} {f : Addr} {fd : FuncData} (F : Fun K "is_ascending" "is_ascending" (top 19) f fd) : Binds K fd ["values"] [] := F.binds fun _ _ _ _ _ _ us hl => match us, hl with | [_], _ => rfl
theorem fnare_names {P : Program} {w : World} {K : PySem.W.Frag} [Tbs K] {mg : Str → Option Value} {base : Heap} {f : Addr} {fd : FuncData} (F : Fun K "are_names" "are_names" (top 20) f fd) (G : Gs K mg) (cis_name : CalD P w K mg base 1 "is_name" 1 Fis_name []) (cis_ascending : CalD P w K mg base 1 "is_ascending" 1 Fis_ascending []) : FnG P w K mg base 2 f fd ["value"] (spD K mg 1 Fare_names) :=
  fn_d F scare_names rfl rfl fun cdv A outer s H E om μ hr hG tk hp => have hN := scare_names.nd; (dss_one (ds_ret (de_and (de_isi (be_var (i := 0)) rfl G.b_isinstance rfl G.b_tuple (by decide +kernel)) (de_and (de_callB (k_all rfl) rfl G.b_all (by decide +kernel) (bas_cons (DE.toB (DF.frz (df_comp (own := [("name", 1)]) rfl hN (di_any (de_var (i := 0))) (blkOk_by (by with_unfolding_all rfl)) (fun _ _ _ _ _ => (pg_nm hN (i := 1))) (fun om => (sem_name 1)) (fun _ h => h) (let tk := @tk0; fun om s H C cl fp => dts_nil) (let tk := @tk0; fun om s H C cl fp => (de_call0 cis_name tk hr hG (by decide) rfl (das_cons (de_var (i := 1)) das_nil)))))) bas_nil)) (de_one (de_call0 cis_ascending tk hr hG (by decide) rfl (das_cons (de_var (i := 0)) das_nil)))))))
theorem bare_names {K : PySem.W.Frag} {f : Addr} {fd : FuncData} (F : Fun K "are_names" "are_names" (top 20) f fd) : Binds K fd ["value"] [] := F.binds fun _ _ _ _ _ _ us hl => match us, hl with | [_], _ => rfl
theorem fnis_word {P : Program} {w : World} {K : PySem.W.Frag} [Tbs K] {mg : Str → Option Value} {base : Heap} {f : Addr} {fd : FuncData} (F : Fun K "is_word" "is_word" (top 21) f fd) (G : Gs K mg) : FnG P w K mg base 1 f fd ["labels", "value"] (spD K mg 2 Fis_word) :=
  fn_d F scis_word rfl rfl fun cdv A outer s H E om μ hr hG tk hp => have hN := scis_word.nd; (dss_one (ds_ret (de_and (de_isi (be_var (i := 1)) rfl G.b_isinstance rfl G.b_tuple (by decide +kernel)) (de_one (de_callB (k_all rfl) rfl G.b_all (by decide +kernel) (bas_cons (DE.toB (DF.frz (df_comp (own := [("label", 2)]) rfl hN (di_any (de_var (i := 1))) (blkOk_by (by with_unfolding_all rfl)) (fun _ _ _ _ _ => (pg_nm hN (i := 2))) (fun om => (sem_name 2)) (fun _ h => h) (let tk := @tk0; fun om s H C cl fp => dts_nil) (let tk := @tk0; fun om s H C cl fp => (de_and (de_isi (be_var (i := 2)) rfl G.b_isinstance rfl G.b_str (by decide +kernel)) (de_one (de_cmp (o2_in hr.u64) (be_var (i := 2)) (be_var (i := 0))))))))) bas_nil))))))
theorem bis_word {K : PySem.W.Frag} {f : Addr} {fd : FuncData} (F : Fun K "is_word" "is_word" (top 21) f fd) : Binds K fd ["labels", "value"] [] := F.binds fun _ _ _ _ _ _ us hl => match us, hl with | [_, _], _ => rfl
theorem fnis_labels {P : Program} {w : World} {K : PySem.W.Frag} [Tbs K] {mg : Str → Option Value} {base : Heap} {f : Addr} {fd : FuncData} (F : Fun K "is_labels" "is_labels" (top 22) f fd) (G : Gs K mg) (care_names : CalD P w K mg base 2 "are_names" 1 Fare_names []) : FnG P w K mg base 3 f fd ["value"] (spD K mg 1 Fis_labels) :=
  fn_d F scis_labels rfl rfl fun cdv A outer s H E om μ hr hG tk hp => have hN := scis_labels.nd; (dss_one (ds_ret (de_and (de_call0 care_names tk hr hG (by decide) rfl (das_cons (de_var (i := 0)) das_nil)) (de_one (de_chain o2_le o2_le (DE.toB de_int) (DE.toB (de_callB k_len rfl G.b_len PySem.boot_len (bas_cons (be_var (i := 0)) bas_nil))) (DE.toB (de_gi rfl G.c_MAX_LABELS)))))))
theorem bis_labels {K : PySem.W.Frag} {f : Addr} {fd : FuncData} (F : Fun K "is_labels" "is_labels" (top 22) f fd) : Binds K fd ["value"] [] := F.binds fun _ _ _ _ _ _ us hl => match us, hl with | [_], _ => rfl
theorem fnrequire_labels {P : Program} {w : World} {K : PySem.W.Frag} [Tbs K] {mg : Str → Option Value} {base : Heap} {f : Addr} {fd : FuncData} (F : Fun K "require_labels" "require_labels" (top 23) f fd) (G : Gs K mg) (cis_labels : CalD P w K mg base 3 "is_labels" 1 Fis_labels []) : FnG P w K mg base 4 f fd ["labels"] (spD K mg 1 Frequire_labels) :=
  fn_d F screquire_labels rfl rfl fun cdv A outer s H E om μ hr hG tk hp => have hN := screquire_labels.nd; (dss_one (ds_if (dt_not (dt_tru (DE.toB (de_call0 cis_labels tk hr hG (by decide) rfl (das_cons (de_var (i := 0)) das_nil))))) (dss_one (ds_raise rfl tk PySem.F.excBase_ValueError G.x_InvalidLabels rfl)) dss_nil))
theorem brequire_labels {K : PySem.W.Frag} {f : Addr} {fd : FuncData} (F : Fun K "require_labels" "require_labels" (top 23) f fd) : Binds K fd ["labels"] [] := F.binds fun _ _ _ _ _ _ us hl => match us, hl with | [_], _ => rfl
theorem fnnumber_in {P : Program} {w : World} {K : PySem.W.Frag} [Tbs K] {mg : Str → Option Value} {base : Heap} {f : Addr} {fd : FuncData} (F : Fun K "number_in" "number_in" (top 29) f fd) (G : Gs K mg) : FnG P w K mg base 1 f fd ["part"] (spD K mg 1 Fnumber_in) :=
  fn_d F scnumber_in rfl rfl fun cdv A outer s H E om μ hr hG tk hp => have hN := scnumber_in.nd; (dss_cons (ds_set (i := 1) hN (de_if (dt_tru (DE.toB (de_meth m_starts PySem.F.plainAttrs_str PySem.F.slot_str_startswith PySem.F.type_str_startswith (be_var (i := 0)) (bas_cons (DE.toB (de_str (by decide +kernel))) bas_nil)))) (de_sl s_sl (be_var (i := 0)) (do_some (DE.toB de_int)) do_none) (de_var (i := 0))))
  (dss_cons (ds_if (DW.t (dw_or (dt_cmp (o2_eq hr.u64) (be_var (i := 1)) (DE.toB (de_str (by decide +kernel)))) (dw_or (dt_cmp o2_gt (DE.toB (de_callB k_len rfl G.b_len PySem.boot_len (bas_cons (be_var (i := 1)) bas_nil))) (DE.toB (de_gi rfl G.c_MAX_DIGITS))) (dw_or1 (dt_not (dt_tru (DE.toB (de_callB (k_all rfl) rfl G.b_all (by decide +kernel) (bas_cons (DE.toB (DF.frz (df_comp (own := [("sign", 2)]) rfl hN (di_any (de_var (i := 1))) (blkOk_by (by with_unfolding_all rfl)) (fun _ _ _ _ _ => (pg_nm hN (i := 2))) (fun om => (sem_name 2)) (fun _ h => h) (let tk := @tk0; fun om s H C cl fp => dts_nil) (let tk := @tk0; fun om s H C cl fp => (de_cmp (o2_in hr.u64) (be_var (i := 2)) (DE.toB (de_gs rfl G.c_DIGITS (by decide +kernel)))))))) bas_nil))))))))) (dss_one (ds_raise rfl tk PySem.F.excBase_ValueError G.x_ParseError rfl)) dss_nil)
  (dss_one (ds_ret (de_callTy k_int rfl G.b_int (by decide +kernel) (bas_cons (be_var (i := 0)) bas_nil))))))
theorem bnumber_in {K : PySem.W.Frag} {f : Addr} {fd : FuncData} (F : Fun K "number_in" "number_in" (top 29) f fd) : Binds K fd ["part"] [] := F.binds fun _ _ _ _ _ _ us hl => match us, hl with | [_], _ => rfl
theorem fnparts_text {P : Program} {w : World} {K : PySem.W.Frag} [Tbs K] {mg : Str → Option Value} {base : Heap} {f : Addr} {fd : FuncData} (F : Fun K "parts_text" "parts_text" (top 30) f fd) (G : Gs K mg) : FnG P w K mg base 1 f fd ["parts"] (spD K mg 1 Fparts_text) :=
  fn_d F scparts_text rfl rfl fun cdv A outer s H E om μ hr hG tk hp => have hN := scparts_text.nd; (dss_one (ds_ret (de_if (dt_cmp o2_gt (DE.toB (de_callB k_len rfl G.b_len PySem.boot_len (bas_cons (be_var (i := 0)) bas_nil))) (DE.toB de_int)) (de_meth m_join PySem.F.plainAttrs_str PySem.F.slot_str_join PySem.F.type_str_join (DE.toB (de_str (by decide +kernel))) (bas_cons (be_var (i := 0)) bas_nil)) (de_gs rfl G.c_NONE (by decide +kernel)))))
theorem bparts_text {K : PySem.W.Frag} {f : Addr} {fd : FuncData} (F : Fun K "parts_text" "parts_text" (top 30) f fd) : Binds K fd ["parts"] [] := F.binds fun _ _ _ _ _ _ us hl => match us, hl with | [_], _ => rfl
theorem fnparts_in {P : Program} {w : World} {K : PySem.W.Frag} [Tbs K] {mg : Str → Option Value} {base : Heap} {f : Addr} {fd : FuncData} (F : Fun K "parts_in" "parts_in" (top 31) f fd) (G : Gs K mg) : FnG P w K mg base 1 f fd ["parts"] (spD K mg 1 Fparts_in) :=
  fn_d F scparts_in rfl rfl fun cdv A outer s H E om μ hr hG tk hp => have hN := scparts_in.nd; (dss_one (ds_ret (de_if (dt_cmp (o2_eq hr.u64) (be_var (i := 0)) (DE.toB (de_lst (das_cons (de_gs rfl G.c_NONE (by decide +kernel)) das_nil) (show 1 ≤ sizeLine by decide)))) (de_tup das_nil (show 0 ≤ sizeLine by decide)) (de_callTy k_tuple rfl G.b_tuple (by decide +kernel) (bas_cons (be_var (i := 0)) bas_nil)))))
theorem bparts_in {K : PySem.W.Frag} {f : Addr} {fd : FuncData} (F : Fun K "parts_in" "parts_in" (top 31) f fd) : Binds K fd ["parts"] [] := F.binds fun _ _ _ _ _ _ us hl => match us, hl with | [_], _ => rfl
theorem fnparts_of {P : Program} {w : World} {K : PySem.W.Frag} [Tbs K] {mg : Str → Option Value} {base : Heap} {f : Addr} {fd : FuncData} (F : Fun K "parts_of" "parts_of" (top 32) f fd) (G : Gs K mg) : FnG P w K mg base 1 f fd ["text"] (spD K mg 1 Fparts_of) :=
  fn_d F scparts_of rfl rfl fun cdv A outer s H E om μ hr hG tk hp => have hN := scparts_of.nd; (dss_cons (ds_if (DW.t (dw_or (dt_not (dt_tru (DE.toB (de_isi (be_var (i := 0)) rfl G.b_isinstance rfl G.b_str (by decide +kernel))))) (dw_or1 (dt_cmp (o2_in hr.u64) (DE.toB (de_str (by decide +kernel))) (be_var (i := 0)))))) (dss_one (ds_raise rfl tk PySem.F.excBase_ValueError G.x_ParseError rfl)) dss_nil)
  (dss_one (ds_ret (de_meth m_split PySem.F.plainAttrs_str PySem.F.slot_str_split PySem.F.type_str_split (be_var (i := 0)) (bas_cons (DE.toB (de_str (by decide +kernel))) bas_nil)))))
theorem bparts_of {K : PySem.W.Frag} {f : Addr} {fd : FuncData} (F : Fun K "parts_of" "parts_of" (top 32) f fd) : Binds K fd ["text"] [] := F.binds fun _ _ _ _ _ _ us hl => match us, hl with | [_], _ => rfl
theorem fnchecked {P : Program} {w : World} {K : PySem.W.Frag} [Tbs K] {mg : Str → Option Value} {base : Heap} {f : Addr} {fd : FuncData} (F : Fun K "checked" "checked" (top 33) f fd) (G : Gs K mg) : FnG P w K mg base 1 f fd ["value", "found", "text"] (spD K mg 3 Fchecked) :=
  fn_d F scchecked rfl rfl fun cdv A outer s H E om μ hr hG tk hp => have hN := scchecked.nd; (dss_cons (ds_if (dt_cmp (o2_ne hr.u64) (be_var (i := 1)) (be_var (i := 2))) (dss_one (ds_raise rfl tk PySem.F.excBase_ValueError G.x_ParseError rfl)) dss_nil)
  (dss_one (ds_ret (de_var (i := 0)))))
theorem bchecked {K : PySem.W.Frag} {f : Addr} {fd : FuncData} (F : Fun K "checked" "checked" (top 33) f fd) : Binds K fd ["value", "found", "text"] [] := F.binds fun _ _ _ _ _ _ us hl => match us, hl with | [_, _, _], _ => rfl
theorem fntop_text {P : Program} {w : World} {K : PySem.W.Frag} [Tbs K] {mg : Str → Option Value} {base : Heap} {f : Addr} {fd : FuncData} (F : Fun K "top_text" "top_text" (top 34) f fd) (G : Gs K mg) : FnG P w K mg base 1 f fd ["top"] (spD K mg 1 Ftop_text) :=
  fn_d F sctop_text rfl rfl fun cdv A outer s H E om μ hr hG tk hp => have hN := sctop_text.nd; (dss_one (ds_ret (de_if (dt_cmp (o2_eq hr.u64) (be_var (i := 0)) (DE.toB (de_gs rfl G.c_EMPTY (by decide +kernel)))) (de_gs rfl G.c_NONE (by decide +kernel)) (de_var (i := 0)))))
theorem btop_text {K : PySem.W.Frag} {f : Addr} {fd : FuncData} (F : Fun K "top_text" "top_text" (top 34) f fd) : Binds K fd ["top"] [] := F.binds fun _ _ _ _ _ _ us hl => match us, hl with | [_], _ => rfl
theorem fnis_target {P : Program} {w : World} {K : PySem.W.Frag} [Tbs K] {mg : Str → Option Value} {base : Heap} {f : Addr} {fd : FuncData} (F : Fun K "is_target" "is_target" (top 35) f fd) (G : Gs K mg) (cis_integer : CalD P w K mg base 1 "is_integer" 1 Fis_integer []) (cis_name : CalD P w K mg base 1 "is_name" 1 Fis_name []) : FnG P w K mg base 2 f fd ["value"] (spD K mg 1 Fis_target) :=
  fn_d F scis_target rfl rfl fun cdv A outer s H E om μ hr hG tk hp => have hN := scis_target.nd; (dss_one (ds_ret (de_if (dt_tru (DE.toB (de_call0 cis_integer tk hr hG (by decide) rfl (das_cons (de_var (i := 0)) das_nil)))) (de_chain o2_le o2_lt (DE.toB de_int) (be_var (i := 0)) (DE.toB (de_gi rfl G.c_MAX_STATES))) (de_call0 cis_name tk hr hG (by decide) rfl (das_cons (de_var (i := 0)) das_nil)))))
theorem bis_target {K : PySem.W.Frag} {f : Addr} {fd : FuncData} (F : Fun K "is_target" "is_target" (top 35) f fd) : Binds K fd ["value"] [] := F.binds fun _ _ _ _ _ _ us hl => match us, hl with | [_], _ => rfl
theorem fnis_formed_rule {P : Program} {w : World} {K : PySem.W.Frag} [Tbs K] {mg : Str → Option Value} {base : Heap} {f : Addr} {fd : FuncData} (F : Fun K "is_formed_rule" "is_formed_rule" (top 36) f fd) (G : Gs K mg) (cis_integer : CalD P w K mg base 1 "is_integer" 1 Fis_integer []) (cis_name : CalD P w K mg base 1 "is_name" 1 Fis_name []) (cis_target : CalD P w K mg base 2 "is_target" 1 Fis_target []) : FnG P w K mg base 3 f fd ["value"] (spD K mg 1 Fis_formed_rule) :=
  fn_d F scis_formed_rule rfl rfl fun cdv A outer s H E om μ hr hG tk hp => have hN := scis_formed_rule.nd; (dss_cons (ds_if (DW.t (dw_or (dt_not (dt_tru (DE.toB (de_isi (be_var (i := 0)) rfl G.b_isinstance rfl G.b_tuple (by decide +kernel))))) (dw_or1 (dt_cmp (o2_ne hr.u64) (DE.toB (de_callB k_len rfl G.b_len PySem.boot_len (bas_cons (be_var (i := 0)) bas_nil))) (DE.toB de_int))))) (dss_one (ds_ret de_bl)) dss_nil)
  (dss_cons (ds_tg (tg_tup rfl (tgs_cons (tg_name hN (i := 2)) (tgs_cons (tg_name hN (i := 3)) (tgs_cons (tg_name hN (i := 4)) (tgs_cons (tg_name hN (i := 5)) tgs_nil))))) (de_var (i := 0)))
  (dss_cons (ds_if (DW.t (dw_or (dt_not (dt_tru (DE.toB (de_call0 cis_integer tk hr hG (by decide) rfl (das_cons (de_var (i := 2)) das_nil))))) (dw_or (dt_not (dt_tru (DE.toB (de_call0 cis_target tk hr hG (by decide) rfl (das_cons (de_var (i := 2)) das_nil))))) (dw_or (dt_not (dt_tru (DE.toB (de_call0 cis_target tk hr hG (by decide) rfl (das_cons (de_var (i := 4)) das_nil))))) (dw_or1 (dt_not (dt_tru (DE.toB (de_isi (be_var (i := 5)) rfl G.b_isinstance rfl G.b_tuple (by decide +kernel)))))))))) (dss_one (ds_ret de_bl)) dss_nil)
  (dss_cons (ds_set (i := 1) hN (de_or (de_and (de_isi (be_var (i := 3)) rfl G.b_isinstance rfl G.b_str (by decide +kernel)) (de_one (de_cmp (o2_eq hr.u64) (be_var (i := 3)) (DE.toB (de_gs rfl G.c_EMPTY (by decide +kernel)))))) (de_one (de_call0 cis_name tk hr hG (by decide) rfl (das_cons (de_var (i := 3)) das_nil)))))
  (dss_one (ds_ret (de_and (de_var (i := 1)) (de_and (de_cmp o2_le (DE.toB (de_callB k_len rfl G.b_len PySem.boot_len (bas_cons (be_var (i := 5)) bas_nil))) (DE.toB (de_gi rfl G.c_MAX_PUSH))) (de_one (de_callB (k_all rfl) rfl G.b_all (by decide +kernel) (bas_cons (DE.toB (DF.frz (df_comp (own := [("label", 6)]) rfl hN (di_any (de_var (i := 5))) (blkOk_by (by with_unfolding_all rfl)) (fun _ _ _ _ _ => (pg_nm hN (i := 6))) (fun om => (sem_name 6)) (fun _ h => h) (let tk := @tk0; fun om s H C cl fp => dts_nil) (let tk := @tk0; fun om s H C cl fp => (de_call0 cis_name tk hr hG (by decide) rfl (das_cons (de_var (i := 6)) das_nil)))))) bas_nil)))))))))))
theorem bis_formed_rule {K : PySem.W.Frag} {f : Addr} {fd : FuncData} (F : Fun K "is_formed_rule" "is_formed_rule" (top 36) f fd) : Binds K fd ["value"] [] := F.binds fun _ _ _ _ _ _ us hl => match us, hl with | [_], _ => rfl
theorem fnrule_text {P : Program} {w : World} {K : PySem.W.Frag} [Tbs K] {mg : Str → Option Value} {base : Heap} {f : Addr} {fd : FuncData} (F : Fun K "rule_text" "rule_text" (top 37) f fd) (G : Gs K mg) (cparts_text : CalD P w K mg base 1 "parts_text" 1 Fparts_text []) (ctop_text : CalD P w K mg base 1 "top_text" 1 Ftop_text []) : FnG P w K mg base 2 f fd ["rule"] (spD K mg 1 Frule_text) :=
  fn_d F scrule_text rfl rfl fun cdv A outer s H E om μ hr hG tk hp => have hN := scrule_text.nd; (dss_cons (ds_tg (tg_tup rfl (tgs_cons (tg_name hN (i := 1)) (tgs_cons (tg_name hN (i := 2)) (tgs_cons (tg_name hN (i := 3)) (tgs_cons (tg_name hN (i := 4)) tgs_nil))))) (de_var (i := 0)))
  (dss_one (ds_ret (de_meth m_join PySem.F.plainAttrs_str PySem.F.slot_str_join PySem.F.type_str_join (DE.toB (de_str (by decide +kernel))) (bas_cons (DE.toB (de_lst (das_cons (de_callTy k_str rfl G.b_str (by decide +kernel) (bas_cons (be_var (i := 1)) bas_nil)) (das_cons (de_call0 ctop_text tk hr hG (by decide) rfl (das_cons (de_var (i := 2)) das_nil)) (das_cons (de_gs rfl G.c_ARROW (by decide +kernel)) (das_cons (de_callTy k_str rfl G.b_str (by decide +kernel) (bas_cons (be_var (i := 3)) bas_nil)) (das_cons (de_call0 cparts_text tk hr hG (by decide) rfl (das_cons (de_var (i := 4)) das_nil)) das_nil))))) (show 5 ≤ sizeLine by decide))) bas_nil)))))
theorem brule_text {K : PySem.W.Frag} {f : Addr} {fd : FuncData} (F : Fun K "rule_text" "rule_text" (top 37) f fd) : Binds K fd ["rule"] [] := F.binds fun _ _ _ _ _ _ us hl => match us, hl with | [_], _ => rfl
theorem fntarget_in {P : Program} {w : World} {K : PySem.W.Frag} [Tbs K] {mg : Str → Option Value} {base : Heap} {f : Addr} {fd : FuncData} (F : Fun K "target_in" "target_in" (top 38) f fd) (G : Gs K mg) (cnumber_in : CalD P w K mg base 1 "number_in" 1 Fnumber_in []) : FnG P w K mg base 2 f fd ["part"] (spD K mg 1 Ftarget_in) :=
  fn_d F sctarget_in rfl rfl fun cdv A outer s H E om μ hr hG tk hp => have hN := sctarget_in.nd; (dss_one (ds_ret (de_if (dt_cmp (o2_in hr.u64) (DE.toB (de_sl s_sl (be_var (i := 0)) do_none (do_some (DE.toB de_int)))) (DE.toB (de_gs rfl G.c_DIGITS (by decide +kernel)))) (de_call0 cnumber_in tk hr hG (by decide) rfl (das_cons (de_var (i := 0)) das_nil)) (de_var (i := 0)))))
theorem btarget_in {K : PySem.W.Frag} {f : Addr} {fd : FuncData} (F : Fun K "target_in" "target_in" (top 38) f fd) : Binds K fd ["part"] [] := F.binds fun _ _ _ _ _ _ us hl => match us, hl with | [_], _ => rfl
theorem fnrule_in {P : Program} {w : World} {K : PySem.W.Frag} [Tbs K] {mg : Str → Option Value} {base : Heap} {f : Addr} {fd : FuncData} (F : Fun K "rule_in" "rule_in" (top 39) f fd) (G : Gs K mg) (cnumber_in : CalD P w K mg base 1 "number_in" 1 Fnumber_in []) (cparts_in : CalD P w K mg base 1 "parts_in" 1 Fparts_in []) (cparts_of : CalD P w K mg base 1 "parts_of" 1 Fparts_of []) (cchecked : CalD P w K mg base 1 "checked" 3 Fchecked []) (cis_formed_rule : CalD P w K mg base 3 "is_formed_rule" 1 Fis_formed_rule []) (crule_text : CalD P w K mg base 2 "rule_text" 1 Frule_text []) (ctarget_in : CalD P w K mg base 2 "target_in" 1 Ftarget_in []) : FnG P w K mg base 4 f fd ["line"] (spD K mg 1 Frule_in) :=
  fn_d F scrule_in rfl rfl fun cdv A outer s H E om μ hr hG tk hp => have hN := scrule_in.nd; (dss_cons (ds_set (i := 1) hN (de_call0 cparts_of tk hr hG (by decide) rfl (das_cons (de_var (i := 0)) das_nil)))
  (dss_cons (ds_if (DW.t (dw_or (dt_cmp o2_lt (DE.toB (de_callB k_len rfl G.b_len PySem.boot_len (bas_cons (be_var (i := 1)) bas_nil))) (DE.toB de_int)) (dw_or (dt_cmp (o2_ne hr.u64) (DE.toB (de_ix i_ix (be_var (i := 1)) (DE.toB de_int))) (DE.toB (de_gs rfl G.c_ARROW (by decide +kernel)))) (dw_or1 (dt_cmp (o2_in hr.u64) (DE.toB (de_str (by decide +kernel))) (be_var (i := 1))))))) (dss_one (ds_raise rfl tk PySem.F.excBase_ValueError G.x_ParseError rfl)) dss_nil)
  (dss_cons (ds_set (i := 2) hN (de_if (dt_cmp (o2_eq hr.u64) (DE.toB (de_ix i_ix (be_var (i := 1)) (DE.toB de_int))) (DE.toB (de_gs rfl G.c_NONE (by decide +kernel)))) (de_gs rfl G.c_EMPTY (by decide +kernel)) (de_ix i_ix (be_var (i := 1)) (DE.toB de_int))))
  (dss_cons (ds_set (i := 3) hN (de_tup (das_cons (de_call0 cnumber_in tk hr hG (by decide) rfl (das_cons (de_ix i_ix (be_var (i := 1)) (DE.toB de_int)) das_nil)) (das_cons (de_var (i := 2)) (das_cons (de_call0 ctarget_in tk hr hG (by decide) rfl (das_cons (de_ix i_ix (be_var (i := 1)) (DE.toB de_int)) das_nil)) (das_cons (de_call0 cparts_in tk hr hG (by decide) rfl (das_cons (de_sl s_sl (be_var (i := 1)) (do_some (DE.toB de_int)) do_none) das_nil)) das_nil)))) (show 4 ≤ sizeLine by decide)))
  (dss_cons (ds_if (dt_not (dt_tru (DE.toB (de_call0 cis_formed_rule tk hr hG (by decide) rfl (das_cons (de_var (i := 3)) das_nil))))) (dss_one (ds_raise rfl tk PySem.F.excBase_ValueError G.x_ParseError rfl)) dss_nil)
  (dss_one (ds_ret (de_call0 cchecked tk hr hG (by decide) rfl (das_cons (de_var (i := 3)) (das_cons (de_call0 crule_text tk hr hG (by decide) rfl (das_cons (de_var (i := 3)) das_nil)) (das_cons (de_var (i := 0)) das_nil)))))))))))
theorem brule_in {K : PySem.W.Frag} {f : Addr} {fd : FuncData} (F : Fun K "rule_in" "rule_in" (top 39) f fd) : Binds K fd ["line"] [] := F.binds fun _ _ _ _ _ _ us hl => match us, hl with | [_], _ => rfl
theorem fnformat_stack {P : Program} {w : World} {K : PySem.W.Frag} [Tbs K] {mg : Str → Option Value} {base : Heap} {f : Addr} {fd : FuncData} (F : Fun K "format_stack" "format_stack" (top 40) f fd) (G : Gs K mg) (cis_word : CalD P w K mg base 1 "is_word" 2 Fis_word []) (crequire_labels : CalD P w K mg base 4 "require_labels" 1 Frequire_labels []) (cparts_text : CalD P w K mg base 1 "parts_text" 1 Fparts_text []) : FnG P w K mg base 5 f fd ["labels", "stack"] (spD K mg 2 Fformat_stack) :=
  fn_d F scformat_stack rfl rfl fun cdv A outer s H E om μ hr hG tk hp => have hN := scformat_stack.nd; (dss_cons (ds_expr (de_call0 crequire_labels tk hr hG (by decide) rfl (das_cons (de_var (i := 0)) das_nil)))
  (dss_cons (ds_if (dt_not (dt_tru (DE.toB (de_call0 cis_word tk hr hG (by decide) rfl (das_cons (de_var (i := 0)) (das_cons (de_var (i := 1)) das_nil)))))) (dss_one (ds_raise rfl tk PySem.F.excBase_ValueError G.x_InvalidStack rfl)) dss_nil)
  (dss_one (ds_ret (de_call0 cparts_text tk hr hG (by decide) rfl (das_cons (de_var (i := 1)) das_nil))))))
theorem bformat_stack {K : PySem.W.Frag} {f : Addr} {fd : FuncData} (F : Fun K "format_stack" "format_stack" (top 40) f fd) : Binds K fd ["labels", "stack"] [] := F.binds fun _ _ _ _ _ _ us hl => match us, hl with | [_, _], _ => rfl
theorem fnparse_stack {P : Program} {w : World} {K : PySem.W.Frag} [Tbs K] {mg : Str → Option Value} {base : Heap} {f : Addr} {fd : FuncData} (F : Fun K "parse_stack" "parse_stack" (top 41) f fd) (G : Gs K mg) (cis_word : CalD P w K mg base 1 "is_word" 2 Fis_word []) (crequire_labels : CalD P w K mg base 4 "require_labels" 1 Frequire_labels []) (cparts_in : CalD P w K mg base 1 "parts_in" 1 Fparts_in []) (cparts_of : CalD P w K mg base 1 "parts_of" 1 Fparts_of []) : FnG P w K mg base 5 f fd ["labels", "text"] (spD K mg 2 Fparse_stack) :=
  fn_d F scparse_stack rfl rfl fun cdv A outer s H E om μ hr hG tk hp => have hN := scparse_stack.nd; (dss_cons (ds_expr (de_call0 crequire_labels tk hr hG (by decide) rfl (das_cons (de_var (i := 0)) das_nil)))
  (dss_cons (ds_set (i := 2) hN (de_call0 cparts_in tk hr hG (by decide) rfl (das_cons (de_call0 cparts_of tk hr hG (by decide) rfl (das_cons (de_var (i := 1)) das_nil)) das_nil)))
  (dss_cons (ds_if (dt_not (dt_tru (DE.toB (de_call0 cis_word tk hr hG (by decide) rfl (das_cons (de_var (i := 0)) (das_cons (de_var (i := 2)) das_nil)))))) (dss_one (ds_raise rfl tk PySem.F.excBase_ValueError G.x_ParseError rfl)) dss_nil)
  (dss_one (ds_ret (de_var (i := 2)))))))
theorem bparse_stack {K : PySem.W.Frag} {f : Addr} {fd : FuncData} (F : Fun K "parse_stack" "parse_stack" (top 41) f fd) : Binds K fd ["labels", "text"] [] := F.binds fun _ _ _ _ _ _ us hl => match us, hl with | [_, _], _ => rfl
theorem fnformat_rule {P : Program} {w : World} {K : PySem.W.Frag} [Tbs K] {mg : Str → Option Value} {base : Heap} {f : Addr} {fd : FuncData} (F : Fun K "format_rule" "format_rule" (top 42) f fd) (G : Gs K mg) (cis_formed_rule : CalD P w K mg base 3 "is_formed_rule" 1 Fis_formed_rule []) (crule_text : CalD P w K mg base 2 "rule_text" 1 Frule_text []) : FnG P w K mg base 4 f fd ["rule"] (spD K mg 1 Fformat_rule) :=
  fn_d F scformat_rule rfl rfl fun cdv A outer s H E om μ hr hG tk hp => have hN := scformat_rule.nd; (dss_cons (ds_if (dt_not (dt_tru (DE.toB (de_call0 cis_formed_rule tk hr hG (by decide) rfl (das_cons (de_var (i := 0)) das_nil))))) (dss_one (ds_raise rfl tk PySem.F.excBase_ValueError G.x_InvalidRule rfl)) dss_nil)
  (dss_one (ds_ret (de_call0 crule_text tk hr hG (by decide) rfl (das_cons (de_var (i := 0)) das_nil)))))
theorem bformat_rule {K : PySem.W.Frag} {f : Addr} {fd : FuncData} (F : Fun K "format_rule" "format_rule" (top 42) f fd) : Binds K fd ["rule"] [] := F.binds fun _ _ _ _ _ _ us hl => match us, hl with | [_], _ => rfl
theorem fnparse_rule {P : Program} {w : World} {K : PySem.W.Frag} [Tbs K] {mg : Str → Option Value} {base : Heap} {f : Addr} {fd : FuncData} (F : Fun K "parse_rule" "parse_rule" (top 43) f fd) (G : Gs K mg) (crule_in : CalD P w K mg base 4 "rule_in" 1 Frule_in []) : FnG P w K mg base 5 f fd ["text"] (spD K mg 1 Fparse_rule) :=
  fn_d F scparse_rule rfl rfl fun cdv A outer s H E om μ hr hG tk hp => have hN := scparse_rule.nd; (dss_one (ds_ret (de_call0 crule_in tk hr hG (by decide) rfl (das_cons (de_var (i := 0)) das_nil))))
theorem bparse_rule {K : PySem.W.Frag} {f : Addr} {fd : FuncData} (F : Fun K "parse_rule" "parse_rule" (top 43) f fd) : Binds K fd ["text"] [] := F.binds fun _ _ _ _ _ _ us hl => match us, hl with | [_], _ => rfl
theorem fn_law_stream {P : Program} {w : World} {K : PySem.W.Frag} [Tbs K] {mg : Str → Option Value} {base : Heap} {f : Addr} {fd : FuncData} (F : Fun K "_law_stream" "_law_stream" (top 45) f fd) (G : Gs K mg) : FnG P w K mg base 1 f fd ["script", "at"] (spD K mg 2 F_law_stream) :=
  fn_d F sc_law_stream rfl rfl fun cdv A outer s H E om μ hr hG tk hp => have hN := sc_law_stream.nd; (dss_cons (ds_set (i := 2) hN (de_bin o2_add (DE.toB (de_bin o2_mul (DE.toB de_int) (be_var (i := 1)))) (DE.toB de_int)))
  (dss_cons (ds_if (dt_cmp o2_lt (be_var (i := 1)) (DE.toB (de_callB k_len rfl G.b_len PySem.boot_len (bas_cons (be_var (i := 0)) bas_nil)))) (dss_one (ds_set (i := 2) hN (de_ix i_ix (be_var (i := 0)) (be_var (i := 1))))) dss_nil)
  (dss_cons (ds_set (i := 3) hN (de_bin o2_mod (DE.toB (de_callB k_abs rfl G.b_abs (by decide +kernel) (bas_cons (be_var (i := 2)) bas_nil))) (DE.toB (de_bin o2_pow (DE.toB (de_bin o2_pow (DE.toB de_int) (DE.toB de_int))) (DE.toB de_int)))))
  (dss_one (ds_ret (DF.shr (df_lst (das_cons (de_callB (k_max rfl) rfl G.b_max (by decide +kernel) (bas_cons (DE.toB de_int) (bas_cons (DE.toB (de_bin o2_add (DE.toB (de_bin o2_sub (be_var (i := 3)) (DE.toB (de_bin o2_pow (DE.toB de_int) (DE.toB de_int))))) (DE.toB de_int))) bas_nil))) (das_cons (de_bin o2_mod (DE.toB (de_bin o2_add (DE.toB (de_bin o2_add (DE.toB (de_bin o2_add (DE.toB (de_bin o2_mul (be_var (i := 3)) (DE.toB de_int))) (DE.toB (de_bin o2_mul (DE.toB de_int) (be_var (i := 1)))))) (DE.toB (de_bin o2_mul (DE.toB de_int) (DE.toB (de_callTy k_int rfl G.b_int (by decide +kernel) (bas_cons (DE.toB (de_cmp o2_lt (be_var (i := 2)) (DE.toB de_int))) bas_nil))))))) (DE.toB de_int))) (DE.toB de_int)) (das_cons de_int das_nil))) (show 3 ≤ sizeLine by decide))))))))
theorem b_law_stream {K : PySem.W.Frag} {f : Addr} {fd : FuncData} (F : Fun K "_law_stream" "_law_stream" (top 45) f fd) : Binds K fd ["script", "at"] [] := F.binds fun _ _ _ _ _ _ us hl => match us, hl with | [_, _], _ => rfl
theorem fn_law_draw {P : Program} {w : World} {K : PySem.W.Frag} [Tbs K] {mg : Str → Option Value} {base : Heap} {f : Addr} {fd : FuncData} (F : Fun K "_law_draw" "_law_draw" (top 46) f fd) (G : Gs K mg) : FnG P w K mg base 1 f fd ["stream", "total"] (spD K mg 2 F_law_draw) :=
  fn_d F sc_law_draw rfl rfl fun cdv A outer s H E om μ hr hG tk hp => have hN := sc_law_draw.nd; (dss_cons (ds_if (dt_cmp o2_gt (DE.toB (de_ix i_ix (be_var (i := 0)) (DE.toB de_int))) (DE.toB de_int)) (dss_cons (ds_set (i := 5) hN (de_bin o2_mod (DE.toB (de_ix i_ix (be_var (i := 0)) (DE.toB de_int))) (be_var (i := 1))))
  (dss_cons (ds_store (de_var (i := 0)) de_int (de_bin o2_fdiv (DE.toB (de_ix i_ix (be_var (i := 0)) (DE.toB de_int))) (be_var (i := 1))))
  (dss_one (ds_ret (de_var (i := 5)))))) dss_nil)
  (dss_cons (ds_store (de_var (i := 0)) de_int (de_bin o2_add (DE.toB (de_ix i_ix (be_var (i := 0)) (DE.toB de_int))) (DE.toB de_int)))
  (dss_cons (ds_set (i := 2) hN (de_bin o2_mod (DE.toB (de_bin o2_add (DE.toB (de_ix i_ix (be_var (i := 0)) (DE.toB de_int))) (DE.toB (de_bin o2_mul (DE.toB de_int) (DE.toB (de_ix i_ix (be_var (i := 0)) (DE.toB de_int))))))) (DE.toB de_int)))
  (dss_cons (ds_set (i := 3) hN (de_bin o2_add (DE.toB (de_bin o2_mul (DE.toB (de_bin o2_mod (DE.toB (de_bin o2_mul (be_var (i := 2)) (be_var (i := 2)))) (DE.toB de_int))) (be_var (i := 2)))) (DE.toB (de_bin o2_mul (DE.toB de_int) (DE.toB (de_ix i_ix (be_var (i := 0)) (DE.toB de_int)))))))
  (dss_cons (ds_set (i := 4) hN (de_bin o2_mod (DE.toB (de_bin o2_add (be_var (i := 3)) (DE.toB (de_bin o2_mod (DE.toB (de_ix i_ix (be_var (i := 0)) (DE.toB de_int))) (DE.toB de_int))))) (DE.toB de_int)))
  (dss_one (ds_ret (de_bin o2_mod (DE.toB (de_bin o2_add (DE.toB (de_bin o2_fdiv (DE.toB (de_bin o2_mod (DE.toB (de_bin o2_mul (be_var (i := 4)) (be_var (i := 4)))) (DE.toB de_int))) (DE.toB de_int))) (DE.toB (de_bin o2_mul (DE.toB (de_bin o2_mul (be_var (i := 2)) (DE.toB de_int))) (DE.toB (de_callTy k_int rfl G.b_int (by decide +kernel) (bas_cons (DE.toB (de_cmp o2_gt (be_var (i := 1)) (DE.toB (de_bin o2_pow (DE.toB de_int) (DE.toB de_int))))) bas_nil))))))) (be_var (i := 1))))))))))
theorem b_law_draw {K : PySem.W.Frag} {f : Addr} {fd : FuncData} (F : Fun K "_law_draw" "_law_draw" (top 46) f fd) : Binds K fd ["stream", "total"] [] := F.binds fun _ _ _ _ _ _ us hl => match us, hl with | [_, _], _ => rfl
theorem fn_law_letters {P : Program} {w : World} {K : PySem.W.Frag} [Tbs K] {mg : Str → Option Value} {base : Heap} {f : Addr} {fd : FuncData} (F : Fun K "_law_letters" "_law_letters" (top 47) f fd) (G : Gs K mg) (c_law_draw : CalD P w K mg base 1 "_law_draw" 2 F_law_draw []) : FnG P w K mg base 2 f fd ["stream", "total"] (spD K mg 2 F_law_letters) :=
  fn_d F sc_law_letters rfl rfl fun cdv A outer s H E om μ hr hG tk hp => have hN := sc_law_letters.nd; (dss_one (ds_ret (de_meth m_join PySem.F.plainAttrs_str PySem.F.slot_str_join PySem.F.type_str_join (DE.toB (de_str (by decide +kernel))) (bas_cons (DE.toB (DF.frz (df_comp (own := [("turn", 2)]) rfl hN (di_range1 rfl G.b_range (bas_cons (be_var (i := 1)) bas_nil)) (blkOk_by (by with_unfolding_all rfl)) (fun _ _ _ _ _ => (pg_nm hN (i := 2))) (fun om => (sem_name 2)) (fun _ h => h) (let tk := @tk0; fun om s H C cl fp => dts_nil) (let tk := @tk0; fun om s H C cl fp => (de_ix i_ix (DE.toB (de_str (by decide +kernel))) (DE.toB (de_call0 c_law_draw tk hr hG (by decide) rfl (das_cons (de_var (i := 0)) (das_cons de_int das_nil))))))))) bas_nil))))
theorem b_law_letters {K : PySem.W.Frag} {f : Addr} {fd : FuncData} (F : Fun K "_law_letters" "_law_letters" (top 47) f fd) : Binds K fd ["stream", "total"] [] := F.binds fun _ _ _ _ _ _ us hl => match us, hl with | [_, _], _ => rfl
theorem fn_law_names {P : Program} {w : World} {K : PySem.W.Frag} [Tbs K] {mg : Str → Option Value} {base : Heap} {f : Addr} {fd : FuncData} (F : Fun K "_law_names" "_law_names" (top 48) f fd) (G : Gs K mg) (c_law_draw : CalD P w K mg base 1 "_law_draw" 2 F_law_draw []) (c_law_letters : CalD P w K mg base 2 "_law_letters" 2 F_law_letters []) : FnG P w K mg base 3 f fd ["stream", "total"] (spD K mg 2 F_law_names) :=
  fn_d F sc_law_names rfl rfl fun cdv A outer s H E om μ hr hG tk hp => have hN := sc_law_names.nd; (dss_cons (ds_own (i := 2) hN (df_lst das_nil (show 0 ≤ sizeLine by decide)))
  (dss_cons (ds_for hp rfl (di_range1 rfl G.b_range (bas_cons (be_var (i := 1)) bas_nil)) (tg_name hN (i := 3)) (dss_cons (ds_set (i := 4) hN (de_call0 c_law_letters tk hr hG (by decide) rfl (das_cons (de_var (i := 0)) (das_cons (de_ix i_ix (DE.toB (de_lst (das_cons de_int (das_cons de_int (das_cons de_int (das_cons de_int das_nil)))) (show 4 ≤ sizeLine by decide))) (DE.toB (de_call0 c_law_draw tk hr hG (by decide) rfl (das_cons (de_var (i := 0)) (das_cons de_int das_nil))))) das_nil))))
  (dss_cons (ds_set (i := 5) hN (de_call0 c_law_letters tk hr hG (by decide) rfl (das_cons (de_var (i := 0)) (das_cons (de_ix i_ix (DE.toB (de_lst (das_cons de_int (das_cons de_int (das_cons de_int (das_cons de_int das_nil)))) (show 4 ≤ sizeLine by decide))) (DE.toB (de_call0 c_law_draw tk hr hG (by decide) rfl (das_cons (de_var (i := 0)) (das_cons de_int das_nil))))) das_nil))))
  (dss_one (ds_app (i := 2) (de_bin o2_add (DE.toB (de_bin o2_add (be_var (i := 4)) (DE.toB (de_ix i_ix (DE.toB (de_str (by decide +kernel))) (be_var (i := 3)))))) (be_var (i := 5))))))))
  (dss_one (ds_ret (de_callTy k_tuple rfl G.b_tuple (by decide +kernel) (bas_cons (DE.toB (de_callB k_sorted rfl G.b_sorted (by decide +kernel) (bas_cons (be_var (i := 2)) bas_nil))) bas_nil))))))
theorem b_law_names {K : PySem.W.Frag} {f : Addr} {fd : FuncData} (F : Fun K "_law_names" "_law_names" (top 48) f fd) : Binds K fd ["stream", "total"] [] := F.binds fun _ _ _ _ _ _ us hl => match us, hl with | [_, _], _ => rfl
theorem fn_law_word {P : Program} {w : World} {K : PySem.W.Frag} [Tbs K] {mg : Str → Option Value} {base : Heap} {f : Addr} {fd : FuncData} (F : Fun K "_law_word" "_law_word" (top 49) f fd) (G : Gs K mg) (c_law_draw : CalD P w K mg base 1 "_law_draw" 2 F_law_draw []) : FnG P w K mg base 2 f fd ["stream", "labels", "most"] (spD K mg 3 F_law_word) :=
  fn_d F sc_law_word rfl rfl fun cdv A outer s H E om μ hr hG tk hp => have hN := sc_law_word.nd; (dss_one (ds_ret (de_callTy k_tuple rfl G.b_tuple (by decide +kernel) (bas_cons (DE.toB (DF.frz (df_comp (own := [("turn", 3)]) rfl hN (di_range1 rfl G.b_range (bas_cons (DE.toB (de_call0 c_law_draw tk hr hG (by decide) rfl (das_cons (de_var (i := 0)) (das_cons (de_bin o2_add (be_var (i := 2)) (DE.toB de_int)) das_nil)))) bas_nil)) (blkOk_by (by with_unfolding_all rfl)) (fun _ _ _ _ _ => (pg_nm hN (i := 3))) (fun om => (sem_name 3)) (fun _ h => h) (let tk := @tk0; fun om s H C cl fp => dts_nil) (let tk := @tk0; fun om s H C cl fp => (de_ix i_ix (be_var (i := 1)) (DE.toB (de_call0 c_law_draw tk hr hG (by decide) rfl (das_cons (de_var (i := 0)) (das_cons (de_callB k_len rfl G.b_len PySem.boot_len (bas_cons (be_var (i := 1)) bas_nil)) das_nil))))))))) bas_nil))))
theorem b_law_word {K : PySem.W.Frag} {f : Addr} {fd : FuncData} (F : Fun K "_law_word" "_law_word" (top 49) f fd) : Binds K fd ["stream", "labels", "most"] [] := F.binds fun _ _ _ _ _ _ us hl => match us, hl with | [_, _, _], _ => rfl
theorem fn_law_spelled {P : Program} {w : World} {K : PySem.W.Frag} [Tbs K] {mg : Str → Option Value} {base : Heap} {f : Addr} {fd : FuncData} (F : Fun K "_law_spelled" "_law_spelled" (top 50) f fd) (G : Gs K mg) : FnG P w K mg base 1 f fd ["parts"] (spD K mg 1 F_law_spelled) :=
  fn_d F sc_law_spelled rfl rfl fun cdv A outer s H E om μ hr hG tk hp => have hN := sc_law_spelled.nd; (dss_one (ds_ret (de_if (dt_cmp o2_gt (DE.toB (de_callB k_len rfl G.b_len PySem.boot_len (bas_cons (be_var (i := 0)) bas_nil))) (DE.toB de_int)) (de_meth m_join PySem.F.plainAttrs_str PySem.F.slot_str_join PySem.F.type_str_join (DE.toB (de_str (by decide +kernel))) (bas_cons (be_var (i := 0)) bas_nil)) (de_str (by decide +kernel)))))
theorem b_law_spelled {K : PySem.W.Frag} {f : Addr} {fd : FuncData} (F : Fun K "_law_spelled" "_law_spelled" (top 50) f fd) : Binds K fd ["parts"] [] := F.binds fun _ _ _ _ _ _ us hl => match us, hl with | [_], _ => rfl
theorem fn_law_is_name {P : Program} {w : World} {K : PySem.W.Frag} [Tbs K] {mg : Str → Option Value} {base : Heap} {f : Addr} {fd : FuncData} (F : Fun K "_law_is_name" "_law_is_name" (top 51) f fd) (G : Gs K mg) : FnG P w K mg base 1 f fd ["part"] (spD K mg 1 F_law_is_name) :=
  fn_d F sc_law_is_name rfl rfl fun cdv A outer s H E om μ hr hG tk hp => have hN := sc_law_is_name.nd; (dss_one (ds_ret (de_and (de_chain o2_le o2_le (DE.toB de_int) (DE.toB (de_callB k_len rfl G.b_len PySem.boot_len (bas_cons (be_var (i := 0)) bas_nil))) (DE.toB de_int)) (de_one (de_cmp (o2_eq hr.u64) (DE.toB (DF.frz (df_comp (own := [("sign", 1)]) rfl hN (di_any (de_var (i := 0))) (blkOk_by (by with_unfolding_all rfl)) (fun _ _ _ _ _ => (pg_nm hN (i := 1))) (fun om => (sem_name 1)) (fun _ h => h) (let tk := @tk0; fun om s H C cl fp => (dts_one (dt_cmp (o2_notin hr.u64) (be_var (i := 1)) (DE.toB (de_str (by decide +kernel)))))) (let tk := @tk0; fun om s H C cl fp => de_int)))) (DE.toB (de_lst das_nil (show 0 ≤ sizeLine by decide))))))))
theorem b_law_is_name {K : PySem.W.Frag} {f : Addr} {fd : FuncData} (F : Fun K "_law_is_name" "_law_is_name" (top 51) f fd) : Binds K fd ["part"] [] := F.binds fun _ _ _ _ _ _ us hl => match us, hl with | [_], _ => rfl
theorem fn_law_integer {P : Program} {w : World} {K : PySem.W.Frag} [Tbs K] {mg : Str → Option Value} {base : Heap} {f : Addr} {fd : FuncData} (F : Fun K "_law_integer" "_law_integer" (top 52) f fd) (G : Gs K mg) : FnG P w K mg base 1 f fd ["part"] (spD K mg 1 F_law_integer) :=
  fn_d F sc_law_integer rfl rfl fun cdv A outer s H E om μ hr hG tk hp => have hN := sc_law_integer.nd; (dss_cons (ds_set (i := 1) hN (de_if (dt_cmp (o2_eq hr.u64) (DE.toB (de_sl s_sl (be_var (i := 0)) do_none (do_some (DE.toB de_int)))) (DE.toB (de_str (by decide +kernel)))) (de_sl s_sl (be_var (i := 0)) (do_some (DE.toB de_int)) do_none) (de_var (i := 0))))
  (dss_cons (ds_if (DW.t (dw_or (dt_cmp (o2_eq hr.u64) (be_var (i := 1)) (DE.toB (de_str (by decide +kernel)))) (dw_or (dt_cmp o2_gt (DE.toB (de_callB k_len rfl G.b_len PySem.boot_len (bas_cons (be_var (i := 1)) bas_nil))) (DE.toB de_int)) (dw_or1 (dt_cmp (o2_ne hr.u64) (DE.toB (DF.frz (df_comp (own := [("sign", 2)]) rfl hN (di_any (de_var (i := 1))) (blkOk_by (by with_unfolding_all rfl)) (fun _ _ _ _ _ => (pg_nm hN (i := 2))) (fun om => (sem_name 2)) (fun _ h => h) (let tk := @tk0; fun om s H C cl fp => (dts_one (dt_cmp (o2_notin hr.u64) (be_var (i := 2)) (DE.toB (de_str (by decide +kernel)))))) (let tk := @tk0; fun om s H C cl fp => de_int)))) (DE.toB (de_lst das_nil (show 0 ≤ sizeLine by decide)))))))) (dss_one (ds_ret de_non)) dss_nil)
  (dss_one (ds_ret (de_if (dt_cmp (o2_eq hr.u64) (DE.toB (de_callTy k_str rfl G.b_str (by decide +kernel) (bas_cons (DE.toB (de_callTy k_int rfl G.b_int (by decide +kernel) (bas_cons (be_var (i := 0)) bas_nil))) bas_nil))) (be_var (i := 0))) (de_callTy k_int rfl G.b_int (by decide +kernel) (bas_cons (be_var (i := 0)) bas_nil)) de_non)))))
theorem b_law_integer {K : PySem.W.Frag} {f : Addr} {fd : FuncData} (F : Fun K "_law_integer" "_law_integer" (top 52) f fd) : Binds K fd ["part"] [] := F.binds fun _ _ _ _ _ _ us hl => match us, hl with | [_], _ => rfl
theorem fn_law_names_in {P : Program} {w : World} {K : PySem.W.Frag} [Tbs K] {mg : Str → Option Value} {base : Heap} {f : Addr} {fd : FuncData} (F : Fun K "_law_names_in" "_law_names_in" (top 53) f fd) (G : Gs K mg) (c_law_is_name : CalD P w K mg base 1 "_law_is_name" 1 F_law_is_name []) : FnG P w K mg base 2 f fd ["parts"] (spD K mg 1 F_law_names_in) :=
  fn_d F sc_law_names_in rfl rfl fun cdv A outer s H E om μ hr hG tk hp => have hN := sc_law_names_in.nd; (dss_cons (ds_if (dt_cmp (o2_eq hr.u64) (be_var (i := 0)) (DE.toB (de_lst (das_cons (de_str (by decide +kernel)) das_nil) (show 1 ≤ sizeLine by decide)))) (dss_one (ds_ret (de_tup das_nil (show 0 ≤ sizeLine by decide)))) dss_nil)
  (dss_one (ds_ret (de_if (dt_cmp (o2_eq hr.u64) (DE.toB (DF.frz (df_comp (own := [("part", 1)]) rfl hN (di_any (de_var (i := 0))) (blkOk_by (by with_unfolding_all rfl)) (fun _ _ _ _ _ => (pg_nm hN (i := 1))) (fun om => (sem_name 1)) (fun _ h => h) (let tk := @tk0; fun om s H C cl fp => (dts_one (dt_not (dt_tru (DE.toB (de_call0 c_law_is_name tk hr hG (by decide) rfl (das_cons (de_var (i := 1)) das_nil))))))) (let tk := @tk0; fun om s H C cl fp => de_int)))) (DE.toB (de_lst das_nil (show 0 ≤ sizeLine by decide)))) (de_callTy k_tuple rfl G.b_tuple (by decide +kernel) (bas_cons (be_var (i := 0)) bas_nil)) de_non))))
theorem b_law_names_in {K : PySem.W.Frag} {f : Addr} {fd : FuncData} (F : Fun K "_law_names_in" "_law_names_in" (top 53) f fd) : Binds K fd ["parts"] [] := F.binds fun _ _ _ _ _ _ us hl => match us, hl with | [_], _ => rfl
theorem fn_law_rule_in {P : Program} {w : World} {K : PySem.W.Frag} [Tbs K] {mg : Str → Option Value} {base : Heap} {f : Addr} {fd : FuncData} (F : Fun K "_law_rule_in" "_law_rule_in" (top 54) f fd) (G : Gs K mg) (c_law_is_name : CalD P w K mg base 1 "_law_is_name" 1 F_law_is_name []) (c_law_integer : CalD P w K mg base 1 "_law_integer" 1 F_law_integer []) (c_law_names_in : CalD P w K mg base 2 "_law_names_in" 1 F_law_names_in []) : FnG P w K mg base 3 f fd ["line"] (spD K mg 1 F_law_rule_in) :=
  fn_d F sc_law_rule_in rfl rfl fun cdv A outer s H E om μ hr hG tk hp => have hN := sc_law_rule_in.nd; (dss_cons (ds_set (i := 1) hN (de_meth m_split PySem.F.plainAttrs_str PySem.F.slot_str_split PySem.F.type_str_split (be_var (i := 0)) (bas_cons (DE.toB (de_str (by decide +kernel))) bas_nil)))
  (dss_cons (ds_if (DW.t (dw_or (dt_cmp o2_lt (DE.toB (de_callB k_len rfl G.b_len PySem.boot_len (bas_cons (be_var (i := 1)) bas_nil))) (DE.toB de_int)) (dw_or (dt_cmp (o2_ne hr.u64) (DE.toB (de_ix i_ix (be_var (i := 1)) (DE.toB de_int))) (DE.toB (de_str (by decide +kernel)))) (dw_or1 (dt_not (DW.t (dw_or (dt_cmp (o2_eq hr.u64) (DE.toB (de_ix i_ix (be_var (i := 1)) (DE.toB de_int))) (DE.toB (de_str (by decide +kernel)))) (dw_or1 (dt_tru (DE.toB (de_call0 c_law_is_name tk hr hG (by decide) rfl (das_cons (de_ix i_ix (be_var (i := 1)) (DE.toB de_int)) das_nil)))))))))))) (dss_one (ds_ret de_non)) dss_nil)
  (dss_cons (ds_par (i := 3) (j := 4) rfl hN (das_cons (de_call0 c_law_integer tk hr hG (by decide) rfl (das_cons (de_ix i_ix (be_var (i := 1)) (DE.toB de_int)) das_nil)) (das_cons (de_call0 c_law_integer tk hr hG (by decide) rfl (das_cons (de_ix i_ix (be_var (i := 1)) (DE.toB de_int)) das_nil)) das_nil)))
  (dss_cons (ds_set (i := 2) hN (de_call0 c_law_names_in tk hr hG (by decide) rfl (das_cons (de_sl s_sl (be_var (i := 1)) (do_some (DE.toB de_int)) do_none) das_nil)))
  (dss_cons (ds_if (DW.t (dw_and (dt_cmp o2_is (be_var (i := 4)) (DE.toB de_non)) (dw_and1 (dt_tru (DE.toB (de_call0 c_law_is_name tk hr hG (by decide) rfl (das_cons (de_ix i_ix (be_var (i := 1)) (DE.toB de_int)) das_nil))))))) (dss_one (ds_set (i := 4) hN (de_ix i_ix (be_var (i := 1)) (DE.toB de_int)))) dss_nil)
  (dss_cons (ds_if (DW.t (dw_or (dt_cmp o2_is (be_var (i := 3)) (DE.toB de_non)) (dw_or (dt_cmp o2_is (be_var (i := 4)) (DE.toB de_non)) (dw_or (dt_cmp o2_is (be_var (i := 2)) (DE.toB de_non)) (dw_or1 (dt_cmp o2_gt (DE.toB (de_callB k_len rfl G.b_len PySem.boot_len (bas_cons (be_var (i := 2)) bas_nil))) (DE.toB de_int))))))) (dss_one (ds_ret de_non)) dss_nil)
  (dss_cons (ds_if (DW.t (dw_or (dt_not (dt_chain o2_le o2_lt (DE.toB de_int) (be_var (i := 3)) (DE.toB de_int))) (dw_or1 (DW.t (dw_and (dt_tru (DE.toB (de_isi (be_var (i := 4)) rfl G.b_isinstance rfl G.b_int (by decide +kernel)))) (dw_and1 (dt_not (dt_chain o2_le o2_lt (DE.toB de_int) (be_var (i := 4)) (DE.toB de_int))))))))) (dss_one (ds_ret de_non)) dss_nil)
  (dss_one (ds_ret (de_tup (das_cons (de_var (i := 3)) (das_cons (de_if (dt_cmp (o2_eq hr.u64) (DE.toB (de_ix i_ix (be_var (i := 1)) (DE.toB de_int))) (DE.toB (de_str (by decide +kernel)))) (de_str (by decide +kernel)) (de_ix i_ix (be_var (i := 1)) (DE.toB de_int))) (das_cons (de_var (i := 4)) (das_cons (de_var (i := 2)) das_nil)))) (show 4 ≤ sizeLine by decide)))))))))))
theorem b_law_rule_in {K : PySem.W.Frag} {f : Addr} {fd : FuncData} (F : Fun K "_law_rule_in" "_law_rule_in" (top 54) f fd) : Binds K fd ["line"] [] := F.binds fun _ _ _ _ _ _ us hl => match us, hl with | [_], _ => rfl
theorem fn_law_rule_text {P : Program} {w : World} {K : PySem.W.Frag} [Tbs K] {mg : Str → Option Value} {base : Heap} {f : Addr} {fd : FuncData} (F : Fun K "_law_rule_text" "_law_rule_text" (top 55) f fd) (G : Gs K mg) (c_law_spelled : CalD P w K mg base 1 "_law_spelled" 1 F_law_spelled []) : FnG P w K mg base 2 f fd ["rule"] (spD K mg 1 F_law_rule_text) :=
  fn_d F sc_law_rule_text rfl rfl fun cdv A outer s H E om μ hr hG tk hp => have hN := sc_law_rule_text.nd; (dss_cons (ds_tg (tg_tup rfl (tgs_cons (tg_name hN (i := 1)) (tgs_cons (tg_name hN (i := 2)) (tgs_cons (tg_name hN (i := 3)) (tgs_cons (tg_name hN (i := 4)) tgs_nil))))) (de_var (i := 0)))
  (dss_one (ds_ret (de_meth m_join PySem.F.plainAttrs_str PySem.F.slot_str_join PySem.F.type_str_join (DE.toB (de_str (by decide +kernel))) (bas_cons (DE.toB (de_lst (das_cons (de_callTy k_str rfl G.b_str (by decide +kernel) (bas_cons (be_var (i := 1)) bas_nil)) (das_cons (de_if (dt_cmp (o2_eq hr.u64) (be_var (i := 2)) (DE.toB (de_str (by decide +kernel)))) (de_str (by decide +kernel)) (de_var (i := 2))) (das_cons (de_str (by decide +kernel)) (das_cons (de_callTy k_str rfl G.b_str (by decide +kernel) (bas_cons (be_var (i := 3)) bas_nil)) (das_cons (de_call0 c_law_spelled tk hr hG (by decide) rfl (das_cons (de_var (i := 4)) das_nil)) das_nil))))) (show 5 ≤ sizeLine by decide))) bas_nil)))))
theorem b_law_rule_text {K : PySem.W.Frag} {f : Addr} {fd : FuncData} (F : Fun K "_law_rule_text" "_law_rule_text" (top 55) f fd) : Binds K fd ["rule"] [] := F.binds fun _ _ _ _ _ _ us hl => match us, hl with | [_], _ => rfl
theorem fn_law_rule {P : Program} {w : World} {K : PySem.W.Frag} [Tbs K] {mg : Str → Option Value} {base : Heap} {f : Addr} {fd : FuncData} (F : Fun K "_law_rule" "_law_rule" (top 56) f fd) (G : Gs K mg) (c_law_draw : CalD P w K mg base 1 "_law_draw" 2 F_law_draw []) (c_law_names : CalD P w K mg base 3 "_law_names" 2 F_law_names []) : FnG P w K mg base 4 f fd ["stream"] (spD K mg 1 F_law_rule) :=
  fn_d F sc_law_rule rfl rfl fun cdv A outer s H E om μ hr hG tk hp => have hN := sc_law_rule.nd; (dss_cons (ds_set (i := 1) hN (de_call0 c_law_names tk hr hG (by decide) rfl (das_cons (de_var (i := 0)) (das_cons de_int das_nil))))
  (dss_cons (ds_set (i := 2) hN (de_ix i_ix (DE.toB (de_lst (das_cons (de_call0 c_law_draw tk hr hG (by decide) rfl (das_cons (de_var (i := 0)) (das_cons de_int das_nil))) (das_cons de_int (das_cons de_int (das_cons (de_ix i_ix (be_var (i := 1)) (DE.toB de_int)) das_nil)))) (show 4 ≤ sizeLine by decide))) (DE.toB (de_call0 c_law_draw tk hr hG (by decide) rfl (das_cons (de_var (i := 0)) (das_cons de_int das_nil))))))
  (dss_cons (ds_set (i := 3) hN (de_ix i_ix (DE.toB (de_lst (das_cons de_int (das_cons de_int (das_cons de_int (das_cons de_int (das_cons (de_call0 c_law_draw tk hr hG (by decide) rfl (das_cons (de_var (i := 0)) (das_cons de_int das_nil))) das_nil))))) (show 5 ≤ sizeLine by decide))) (DE.toB (de_call0 c_law_draw tk hr hG (by decide) rfl (das_cons (de_var (i := 0)) (das_cons de_int das_nil))))))
  (dss_cons (ds_set (i := 4) hN (de_callTy k_tuple rfl G.b_tuple (by decide +kernel) (bas_cons (DE.toB (DF.frz (df_comp (own := [("turn", 5)]) rfl hN (di_range1 rfl G.b_range (bas_cons (be_var (i := 3)) bas_nil)) (blkOk_by (by with_unfolding_all rfl)) (fun _ _ _ _ _ => (pg_nm hN (i := 5))) (fun om => (sem_name 5)) (fun _ h => h) (let tk := @tk0; fun om s H C cl fp => dts_nil) (let tk := @tk0; fun om s H C cl fp => (de_ix i_ix (be_var (i := 1)) (DE.toB (de_call0 c_law_draw tk hr hG (by decide) rfl (das_cons (de_var (i := 0)) (das_cons de_int das_nil))))))))) bas_nil)))
  (dss_one (ds_ret (de_tup (das_cons (de_call0 c_law_draw tk hr hG (by decide) rfl (das_cons (de_var (i := 0)) (das_cons de_int das_nil))) (das_cons (de_ix i_ix (DE.toB (de_lst (das_cons (de_str (by decide +kernel)) (das_cons (de_ix i_ix (be_var (i := 1)) (DE.toB de_int)) das_nil)) (show 2 ≤ sizeLine by decide))) (DE.toB (de_call0 c_law_draw tk hr hG (by decide) rfl (das_cons (de_var (i := 0)) (das_cons de_int das_nil))))) (das_cons (de_var (i := 2)) (das_cons (de_var (i := 4)) das_nil)))) (show 4 ≤ sizeLine by decide))))))))
theorem b_law_rule {K : PySem.W.Frag} {f : Addr} {fd : FuncData} (F : Fun K "_law_rule" "_law_rule" (top 56) f fd) : Binds K fd ["stream"] [] := F.binds fun _ _ _ _ _ _ us hl => match us, hl with | [_], _ => rfl
theorem fn_law_bent {P : Program} {w : World} {K : PySem.W.Frag} [Tbs K] {mg : Str → Option Value} {base : Heap} {f : Addr} {fd : FuncData} (F : Fun K "_law_bent" "_law_bent" (top 57) f fd) (G : Gs K mg) (c_law_draw : CalD P w K mg base 1 "_law_draw" 2 F_law_draw []) : FnG P w K mg base 2 f fd ["stream", "text"] (spD K mg 2 F_law_bent) :=
  fn_d F sc_law_bent rfl rfl fun cdv A outer s H E om μ hr hG tk hp => have hN := sc_law_bent.nd; (dss_cons (ds_set (i := 2) hN (de_call0 c_law_draw tk hr hG (by decide) rfl (das_cons (de_var (i := 0)) (das_cons (de_bin o2_add (DE.toB (de_callB k_len rfl G.b_len PySem.boot_len (bas_cons (be_var (i := 1)) bas_nil))) (DE.toB de_int)) das_nil))))
  (dss_cons (ds_set (i := 3) hN (de_ix i_ix (DE.toB (de_lst (das_cons (de_str (by decide +kernel)) (das_cons (de_str (by decide +kernel)) (das_cons (de_str (by decide +kernel)) (das_cons (de_str (by decide +kernel)) (das_cons (de_str (by decide +kernel)) (das_cons (de_str (by decide +kernel)) (das_cons (de_str (by decide +kernel)) (das_cons (de_str (by decide +kernel)) (das_cons (de_str (by decide +kernel)) (das_cons (de_str (by decide +kernel)) (das_cons (de_str (by decide +kernel)) (das_cons (de_str (by decide +kernel)) das_nil)))))))))))) (show 12 ≤ sizeLine by decide))) (DE.toB (de_call0 c_law_draw tk hr hG (by decide) rfl (das_cons (de_var (i := 0)) (das_cons de_int das_nil))))))
  (dss_cons (ds_set (i := 4) hN (de_lst (das_cons (de_bin o2_add (DE.toB (de_sl s_sl (be_var (i := 1)) do_none (do_some (be_var (i := 2))))) (DE.toB (de_sl s_sl (be_var (i := 1)) (do_some (DE.toB (de_bin o2_add (be_var (i := 2)) (DE.toB de_int)))) do_none))) (das_cons (de_bin o2_add (DE.toB (de_bin o2_add (DE.toB (de_sl s_sl (be_var (i := 1)) do_none (do_some (be_var (i := 2))))) (be_var (i := 3)))) (DE.toB (de_sl s_sl (be_var (i := 1)) (do_some (be_var (i := 2))) do_none))) (das_cons (de_bin o2_add (DE.toB (de_bin o2_add (DE.toB (de_sl s_sl (be_var (i := 1)) do_none (do_some (be_var (i := 2))))) (be_var (i := 3)))) (DE.toB (de_sl s_sl (be_var (i := 1)) (do_some (DE.toB (de_bin o2_add (be_var (i := 2)) (DE.toB de_int)))) do_none))) (das_cons (de_bin o2_add (be_var (i := 1)) (be_var (i := 3))) das_nil)))) (show 4 ≤ sizeLine by decide)))
  (dss_cons (ds_par (i := 5) (j := 6) rfl hN (das_cons (de_sl s_sl (be_var (i := 1)) (do_some (be_var (i := 2))) (do_some (DE.toB (de_bin o2_add (be_var (i := 2)) (DE.toB de_int))))) (das_cons (de_sl s_sl (be_var (i := 1)) (do_some (DE.toB (de_bin o2_add (be_var (i := 2)) (DE.toB de_int)))) (do_some (DE.toB (de_bin o2_add (be_var (i := 2)) (DE.toB de_int))))) das_nil)))
  (dss_cons (ds_set (i := 4) hN (de_bin o2_add (be_var (i := 4)) (DE.toB (de_lst (das_cons (de_bin o2_add (be_var (i := 3)) (be_var (i := 1))) (das_cons (de_bin o2_add (DE.toB (de_bin o2_add (DE.toB (de_bin o2_add (DE.toB (de_sl s_sl (be_var (i := 1)) do_none (do_some (be_var (i := 2))))) (be_var (i := 6)))) (be_var (i := 5)))) (DE.toB (de_sl s_sl (be_var (i := 1)) (do_some (DE.toB (de_bin o2_add (be_var (i := 2)) (DE.toB de_int)))) do_none))) (das_cons (de_sl s_sl (be_var (i := 1)) do_none (do_some (be_var (i := 2)))) das_nil))) (show 3 ≤ sizeLine by decide)))))
  (dss_one (ds_ret (de_ix i_ix (be_var (i := 4)) (DE.toB (de_call0 c_law_draw tk hr hG (by decide) rfl (das_cons (de_var (i := 0)) (das_cons de_int das_nil))))))))))))
theorem b_law_bent {K : PySem.W.Frag} {f : Addr} {fd : FuncData} (F : Fun K "_law_bent" "_law_bent" (top 57) f fd) : Binds K fd ["stream", "text"] [] := F.binds fun _ _ _ _ _ _ us hl => match us, hl with | [_, _], _ => rfl
theorem b_law_met {K : PySem.W.Frag} {g : Addr} {fd : FuncData} (F : Fun K "_law_met" "_law_met" (top 58) g fd) : Binds K fd ["call"] [] := F.binds fun _ _ _ _ _ _ us hl => match us, hl with | [_], _ => rfl
theorem gv_law_met {X : Cx} [Tbs X.K] (G : Gs X.K X.mg) {g : Addr} {cdv : Value} {q : Str} : Gives X 0 ["call", "e", "kinds", "words"] "_law_met" (defScope (top 58)) g cdv (defBody (top 58)) "call" q (TTd X.K X.mg G_law_met) :=
  gives_of rfl fun f s H om μ th hr hG hth => have hN := sc_law_met.nd; let tk := @tk0; (dss_one (ds_try rfl rfl hN tk (fun W pn xe tk hp => (dss_one (ds_ret (de_lst (das_cons (de_str (by decide +kernel)) (das_cons (hth _ _ _ _ _ tk) das_nil)) (show 2 ≤ sizeLine by decide))))) (HdsD.named ⟨rfl, by decide, .inl G.e_TooLarge⟩ (ok_exm_TooLarge G) rfl rfl (let tk := @tk0; fun a o cls dx pn hz hv => (dss_one (ds_ret (de_lst (das_cons (de_str (by decide +kernel)) (das_cons (de_xf (i := 1) hz hv (xf_limit G)) das_nil)) (show 2 ≤ sizeLine by decide))))) (HdsD.named ⟨rfl, by decide, .inl G.e_PileError⟩ (ok_exm_PileError G) rfl rfl (let tk := @tk0; fun a o cls dx pn hz hv => (dss_cons (ds_own (i := 2) hN (df_lst (das_cons (de_isE (i := 1) hz hv (is_InvalidLabels G) rfl G.b_isinstance rfl G.e_InvalidLabels) (das_cons (de_isE (i := 1) hz hv (is_InvalidStack G) rfl G.b_isinstance rfl G.e_InvalidStack) (das_cons (de_isE (i := 1) hz hv (is_InvalidRule G) rfl G.b_isinstance rfl G.e_InvalidRule) das_nil))) (show 3 ≤ sizeLine by decide)))
  (dss_cons (ds_own (i := 2) hN (df_cat (be_var (i := 2)) (DE.toB (de_lst (das_cons (de_isE (i := 1) hz hv (is_InvalidWires G) rfl G.b_isinstance rfl G.e_InvalidWires) (das_cons (de_isE (i := 1) hz hv (is_InvalidModule G) rfl G.b_isinstance rfl G.e_InvalidModule) (das_cons (de_isE (i := 1) hz hv (is_InvalidInterface G) rfl G.b_isinstance rfl G.e_InvalidInterface) das_nil))) (show 3 ≤ sizeLine by decide)))))
  (dss_cons (ds_app (i := 2) (de_isE (i := 1) hz hv (is_ParseError G) rfl G.b_isinstance rfl G.e_ParseError))
  (dss_cons (ds_set (i := 3) hN (de_lst (das_cons (de_str (by decide +kernel)) (das_cons (de_str (by decide +kernel)) (das_cons (de_str (by decide +kernel)) (das_cons (de_str (by decide +kernel)) (das_cons (de_str (by decide +kernel)) (das_cons (de_str (by decide +kernel)) (das_cons (de_str (by decide +kernel)) das_nil))))))) (show 7 ≤ sizeLine by decide)))
  (dss_one (ds_ret (de_lst (das_cons (de_if (dt_cmp (o2_eq hr.u64) (DE.toB (de_meth (m_count hr.u64) PySem.F.plainAttrs_list PySem.F.slot_list_count PySem.F.type_list_count (be_var (i := 2)) (bas_cons (DE.toB de_bl) bas_nil))) (DE.toB de_int)) (de_ix i_ix (be_var (i := 3)) (DE.toB (de_meth (m_index hr.u64) PySem.F.plainAttrs_list PySem.F.slot_list_index PySem.F.type_list_index (be_var (i := 2)) (bas_cons (DE.toB de_bl) bas_nil)))) (de_str (by decide +kernel))) das_nil) (show 1 ≤ sizeLine by decide))))))))) HdsD.nil))))
theorem fn_law_due {P : Program} {w : World} {K : PySem.W.Frag} [Tbs K] {mg : Str → Option Value} {base : Heap} {f : Addr} {fd : FuncData} (F : Fun K "_law_due" "_law_due" (top 59) f fd) (G : Gs K mg) : FnG P w K mg base 1 f fd ["value"] (spD K mg 1 F_law_due) :=
  fn_d F sc_law_due rfl rfl fun cdv A outer s H E om μ hr hG tk hp => have hN := sc_law_due.nd; (dss_one (ds_ret (de_if (dt_cmp o2_is (be_var (i := 0)) (DE.toB de_non)) (de_callB (k_repr hG hr.u70) rfl G.b_repr (by decide +kernel) (bas_cons (DE.toB (de_lst (das_cons (de_str (by decide +kernel)) das_nil) (show 1 ≤ sizeLine by decide))) bas_nil)) (de_callB (k_repr hG hr.u70) rfl G.b_repr (by decide +kernel) (bas_cons (DE.toB (de_lst (das_cons (de_str (by decide +kernel)) (das_cons (de_var (i := 0)) das_nil)) (show 2 ≤ sizeLine by decide))) bas_nil)))))
theorem b_law_due {K : PySem.W.Frag} {f : Addr} {fd : FuncData} (F : Fun K "_law_due" "_law_due" (top 59) f fd) : Binds K fd ["value"] [] := F.binds fun _ _ _ _ _ _ us hl => match us, hl with | [_], _ => rfl
theorem fn_law_stack_right {P : Program} {w : World} {K : PySem.W.Frag} [Tbs K] {mg : Str → Option Value} {base : Heap} {f c gm : Addr} {fd fdm : FuncData} (F : FunL K "_law_stack_right" (top 60) f fd c) (G : Gs K mg) (LT : LamT K mg base "_law_stack_right" c) (FM : Fun K "_law_met" "_law_met" (top 58) gm fdm) (mM : mg "_law_met" = some (.ref gm)) (cformat_stack : CalD P w K mg base 5 "format_stack" 2 Fformat_stack []) (cparse_stack : CalD P w K mg base 5 "parse_stack" 2 Fparse_stack []) (c_law_draw : CalD P w K mg base 1 "_law_draw" 2 F_law_draw []) (c_law_names : CalD P w K mg base 3 "_law_names" 2 F_law_names []) (c_law_word : CalD P w K mg base 2 "_law_word" 3 F_law_word []) (c_law_spelled : CalD P w K mg base 1 "_law_spelled" 1 F_law_spelled []) (c_law_bent : CalD P w K mg base 2 "_law_bent" 2 F_law_bent []) (c_law_due : CalD P w K mg base 1 "_law_due" 1 F_law_due []) : FnG P w K mg base 8 f fd ["stream"] (spD K mg 1 F_law_stack_right) := by
  obtain ⟨Pt, TB, hmT, hu⟩ := LT.ex
  exact fn_dL F sc_law_stack_right rfl rfl fun A outer s H E om μ hr hG tk hp => have hN := sc_law_stack_right.nd; (dss_cons (ds_set (i := 1) hN (de_call0 c_law_names tk hr hG (by decide) rfl (das_cons (de_var (i := 0)) (das_cons (de_bin o2_add (DE.toB de_int) (DE.toB (de_call0 c_law_draw tk hr hG (by decide) rfl (das_cons (de_var (i := 0)) (das_cons de_int das_nil))))) das_nil))))
  (dss_cons (ds_set (i := 2) hN (de_call0 c_law_word tk hr hG (by decide) rfl (das_cons (de_var (i := 0)) (das_cons (de_var (i := 1)) (das_cons de_int das_nil)))))
  (dss_cons (ds_set (i := 3) hN (de_call0 c_law_spelled tk hr hG (by decide) rfl (das_cons (de_var (i := 2)) das_nil)))
  (dss_cons (ds_if (dt_cmp (o2_ne hr.u64) (DE.toB (de_lam (k := 5) rfl mM FM (b_law_met FM) sc_law_met rfl (Or.inl rfl) (Nat.zero_le _) (fun cdv => gv_law_met G) TB rfl hmT hu (hr.mono (by decide)) hG (LamX.lamS_by (by with_unfolding_all rfl)) rfl (fun _ _ _ _ _ => rfl) (fun A outer s H E f c' om hr hG tk => (de_call0 cformat_stack tk hr hG (by decide) rfl (das_cons (de_var (i := 1)) (das_cons (de_var (i := 2)) das_nil)))))) (DE.toB (de_lst (das_cons (de_str (by decide +kernel)) (das_cons (de_var (i := 3)) das_nil)) (show 2 ≤ sizeLine by decide)))) (dss_one (ds_ret de_bl)) dss_nil)
  (dss_cons (ds_for hp rfl (di_any (de_bin o2_add (DE.toB (de_lst (das_cons (de_var (i := 3)) (das_cons (de_var (i := 3)) das_nil)) (show 2 ≤ sizeLine by decide))) (DE.toB (DF.frz (df_comp (own := [("turn", 7)]) rfl hN (di_range1 rfl G.b_range (bas_cons (DE.toB de_int) bas_nil)) (blkOk_by (by with_unfolding_all rfl)) (fun _ _ _ _ _ => (pg_nm hN (i := 7))) (fun om => (sem_name 7)) (fun _ h => h) (let tk := @tk0; fun om s H C cl fp => dts_nil) (let tk := @tk0; fun om s H C cl fp => (de_call0 c_law_bent tk hr hG (by decide) rfl (das_cons (de_var (i := 0)) (das_cons (de_var (i := 3)) das_nil))))))))) (tg_name hN (i := 4)) (dss_cons (ds_set (i := 5) hN (de_if (dt_cmp (o2_eq hr.u64) (be_var (i := 4)) (DE.toB (de_str (by decide +kernel)))) (de_tup das_nil (show 0 ≤ sizeLine by decide)) (de_callTy k_tuple rfl G.b_tuple (by decide +kernel) (bas_cons (DE.toB (de_meth m_split PySem.F.plainAttrs_str PySem.F.slot_str_split PySem.F.type_str_split (be_var (i := 4)) (bas_cons (DE.toB (de_str (by decide +kernel))) bas_nil))) bas_nil))))
  (dss_cons (ds_set (i := 6) hN (de_cmp (o2_eq hr.u64) (DE.toB (DF.frz (df_comp (own := [("part", 8)]) rfl hN (di_any (de_var (i := 5))) (blkOk_by (by with_unfolding_all rfl)) (fun _ _ _ _ _ => (pg_nm hN (i := 8))) (fun om => (sem_name 8)) (fun _ h => h) (let tk := @tk0; fun om s H C cl fp => (dts_one (dt_cmp (o2_notin hr.u64) (be_var (i := 8)) (be_var (i := 1))))) (let tk := @tk0; fun om s H C cl fp => de_int)))) (DE.toB (de_lst das_nil (show 0 ≤ sizeLine by decide)))))
  (dss_one (ds_if (dt_cmp (o2_ne hr.u64) (DE.toB (de_callB (k_repr hG hr.u70) rfl G.b_repr (by decide +kernel) (bas_cons (DE.toB (de_lam (k := 5) rfl mM FM (b_law_met FM) sc_law_met rfl (Or.inl rfl) (Nat.zero_le _) (fun cdv => gv_law_met G) TB rfl hmT hu (hr.mono (by decide)) hG (LamX.lamS_by (by with_unfolding_all rfl)) rfl (fun _ _ _ _ _ => rfl) (fun A outer s H E f c' om hr hG tk => (de_call0 cparse_stack tk hr hG (by decide) rfl (das_cons (de_var (i := 1)) (das_cons (de_var (i := 4)) das_nil)))))) bas_nil))) (DE.toB (de_call0 c_law_due tk hr hG (by decide) rfl (das_cons (de_if (dt_tru (be_var (i := 6))) (de_var (i := 5)) de_non) das_nil)))) (dss_one (ds_ret de_bl)) dss_nil)))))
  (dss_one (ds_ret de_bl)))))))
theorem b_law_stack_right {K : PySem.W.Frag} {f : Addr} {fd : FuncData} {c : Addr} (F : FunL K "_law_stack_right" (top 60) f fd c) : Binds K fd ["stream"] [] := F.binds fun _ _ _ _ _ _ us hl => match us, hl with | [_], _ => rfl
theorem fn_law_rule_right {P : Program} {w : World} {K : PySem.W.Frag} [Tbs K] {mg : Str → Option Value} {base : Heap} {f c gm : Addr} {fd fdm : FuncData} (F : FunL K "_law_rule_right" (top 61) f fd c) (G : Gs K mg) (LT : LamT K mg base "_law_rule_right" c) (FM : Fun K "_law_met" "_law_met" (top 58) gm fdm) (mM : mg "_law_met" = some (.ref gm)) (cformat_rule : CalD P w K mg base 4 "format_rule" 1 Fformat_rule []) (cparse_rule : CalD P w K mg base 5 "parse_rule" 1 Fparse_rule []) (c_law_rule_in : CalD P w K mg base 3 "_law_rule_in" 1 F_law_rule_in []) (c_law_rule_text : CalD P w K mg base 2 "_law_rule_text" 1 F_law_rule_text []) (c_law_rule : CalD P w K mg base 4 "_law_rule" 1 F_law_rule []) (c_law_bent : CalD P w K mg base 2 "_law_bent" 2 F_law_bent []) (c_law_due : CalD P w K mg base 1 "_law_due" 1 F_law_due []) : FnG P w K mg base 8 f fd ["stream"] (spD K mg 1 F_law_rule_right) := by
  obtain ⟨Pt, TB, hmT, hu⟩ := LT.ex
  exact fn_dL F sc_law_rule_right rfl rfl fun A outer s H E om μ hr hG tk hp => have hN := sc_law_rule_right.nd; (dss_cons (ds_set (i := 1) hN (de_call0 c_law_rule tk hr hG (by decide) rfl (das_cons (de_var (i := 0)) das_nil)))
  (dss_cons (ds_set (i := 2) hN (de_call0 c_law_rule_text tk hr hG (by decide) rfl (das_cons (de_var (i := 1)) das_nil)))
  (dss_cons (ds_if (DW.t (dw_or (dt_cmp (o2_ne hr.u64) (DE.toB (de_lam (k := 4) rfl mM FM (b_law_met FM) sc_law_met rfl (Or.inl rfl) (Nat.zero_le _) (fun cdv => gv_law_met G) TB rfl hmT hu (hr.mono (by decide)) hG (LamX.lamS_by (by with_unfolding_all rfl)) rfl (fun _ _ _ _ _ => rfl) (fun A outer s H E f c' om hr hG tk => (de_call0 cformat_rule tk hr hG (by decide) rfl (das_cons (de_var (i := 1)) das_nil))))) (DE.toB (de_lst (das_cons (de_str (by decide +kernel)) (das_cons (de_var (i := 2)) das_nil)) (show 2 ≤ sizeLine by decide)))) (dw_or1 (dt_cmp (o2_ne hr.u64) (DE.toB (de_callB (k_repr hG hr.u70) rfl G.b_repr (by decide +kernel) (bas_cons (DE.toB (de_call0 c_law_rule_in tk hr hG (by decide) rfl (das_cons (de_var (i := 2)) das_nil))) bas_nil))) (DE.toB (de_callB (k_repr hG hr.u70) rfl G.b_repr (by decide +kernel) (bas_cons (be_var (i := 1)) bas_nil))))))) (dss_one (ds_ret de_bl)) dss_nil)
  (dss_cons (ds_for hp rfl (di_any (de_bin o2_add (DE.toB (de_lst (das_cons (de_var (i := 2)) (das_cons (de_var (i := 2)) das_nil)) (show 2 ≤ sizeLine by decide))) (DE.toB (DF.frz (df_comp (own := [("turn", 4)]) rfl hN (di_range1 rfl G.b_range (bas_cons (DE.toB de_int) bas_nil)) (blkOk_by (by with_unfolding_all rfl)) (fun _ _ _ _ _ => (pg_nm hN (i := 4))) (fun om => (sem_name 4)) (fun _ h => h) (let tk := @tk0; fun om s H C cl fp => dts_nil) (let tk := @tk0; fun om s H C cl fp => (de_call0 c_law_bent tk hr hG (by decide) rfl (das_cons (de_var (i := 0)) (das_cons (de_var (i := 2)) das_nil))))))))) (tg_name hN (i := 3)) (dss_one (ds_if (dt_cmp (o2_ne hr.u64) (DE.toB (de_callB (k_repr hG hr.u70) rfl G.b_repr (by decide +kernel) (bas_cons (DE.toB (de_lam (k := 5) rfl mM FM (b_law_met FM) sc_law_met rfl (Or.inl rfl) (Nat.zero_le _) (fun cdv => gv_law_met G) TB rfl hmT hu (hr.mono (by decide)) hG (LamX.lamS_by (by with_unfolding_all rfl)) rfl (fun _ _ _ _ _ => rfl) (fun A outer s H E f c' om hr hG tk => (de_call0 cparse_rule tk hr hG (by decide) rfl (das_cons (de_var (i := 3)) das_nil))))) bas_nil))) (DE.toB (de_call0 c_law_due tk hr hG (by decide) rfl (das_cons (de_call0 c_law_rule_in tk hr hG (by decide) rfl (das_cons (de_var (i := 3)) das_nil)) das_nil)))) (dss_one (ds_ret de_bl)) dss_nil)))
  (dss_one (ds_ret de_bl))))))
theorem b_law_rule_right {K : PySem.W.Frag} {f : Addr} {fd : FuncData} {c : Addr} (F : FunL K "_law_rule_right" (top 61) f fd c) : Binds K fd ["stream"] [] := F.binds fun _ _ _ _ _ _ us hl => match us, hl with | [_], _ => rfl
theorem fn_law_words_right {P : Program} {w : World} {K : PySem.W.Frag} [Tbs K] {mg : Str → Option Value} {base : Heap} {f c gm : Addr} {fd fdm : FuncData} (F : FunL K "_law_words_right" (top 62) f fd c) (G : Gs K mg) (LT : LamT K mg base "_law_words_right" c) (FM : Fun K "_law_met" "_law_met" (top 58) gm fdm) (mM : mg "_law_met" = some (.ref gm)) (cparse_stack : CalD P w K mg base 5 "parse_stack" 2 Fparse_stack []) (cformat_rule : CalD P w K mg base 4 "format_rule" 1 Fformat_rule []) (cparse_rule : CalD P w K mg base 5 "parse_rule" 1 Fparse_rule []) : FnG P w K mg base 8 f fd [] (spD K mg 0 F_law_words_right) := by
  obtain ⟨Pt, TB, hmT, hu⟩ := LT.ex
  exact fn_dL F sc_law_words_right rfl rfl fun A outer s H E om μ hr hG tk hp => have hN := sc_law_words_right.nd; (dss_cons (ds_tg (tg_tup rfl (tgs_cons (tg_name hN (i := 0)) (tgs_cons (tg_name hN (i := 1)) tgs_nil))) (de_tup (das_cons (de_tup (das_cons de_int (das_cons (de_str (by decide +kernel)) (das_cons (de_str (by decide +kernel)) (das_cons (de_tup (das_cons (de_str (by decide +kernel)) (das_cons (de_str (by decide +kernel)) das_nil)) (show 2 ≤ sizeLine by decide)) das_nil)))) (show 4 ≤ sizeLine by decide)) (das_cons (de_tup (das_cons (de_str (by decide +kernel)) (das_cons (de_str (by decide +kernel)) (das_cons (de_str (by decide +kernel)) das_nil))) (show 3 ≤ sizeLine by decide)) das_nil)) (show 2 ≤ sizeLine by decide)))
  (dss_cons (ds_if (dt_cmp (o2_ne hr.u64) (DE.toB (de_lam (k := 4) rfl mM FM (b_law_met FM) sc_law_met rfl (Or.inl rfl) (Nat.zero_le _) (fun cdv => gv_law_met G) TB rfl hmT hu (hr.mono (by decide)) hG (LamX.lamS_by (by with_unfolding_all rfl)) rfl (fun _ _ _ _ _ => rfl) (fun A outer s H E f c' om hr hG tk => (de_call0 cformat_rule tk hr hG (by decide) rfl (das_cons (de_var (i := 0)) das_nil))))) (DE.toB (de_lst (das_cons (de_str (by decide +kernel)) (das_cons (de_str (by decide +kernel)) das_nil)) (show 2 ≤ sizeLine by decide)))) (dss_one (ds_ret de_bl)) dss_nil)
  (dss_cons (ds_if (dt_cmp (o2_ne hr.u64) (DE.toB (de_lam (k := 5) rfl mM FM (b_law_met FM) sc_law_met rfl (Or.inl rfl) (Nat.zero_le _) (fun cdv => gv_law_met G) TB rfl hmT hu (hr.mono (by decide)) hG (LamX.lamS_by (by with_unfolding_all rfl)) rfl (fun _ _ _ _ _ => rfl) (fun A outer s H E f c' om hr hG tk => (de_call0 cparse_rule tk hr hG (by decide) rfl (das_cons (de_str (by decide +kernel)) das_nil))))) (DE.toB (de_lst (das_cons (de_str (by decide +kernel)) (das_cons (de_var (i := 0)) das_nil)) (show 2 ≤ sizeLine by decide)))) (dss_one (ds_ret de_bl)) dss_nil)
  (dss_one (ds_ret (de_cmp (o2_eq hr.u64) (DE.toB (de_lam (k := 5) rfl mM FM (b_law_met FM) sc_law_met rfl (Or.inl rfl) (Nat.zero_le _) (fun cdv => gv_law_met G) TB rfl hmT hu (hr.mono (by decide)) hG (LamX.lamS_by (by with_unfolding_all rfl)) rfl (fun _ _ _ _ _ => rfl) (fun A outer s H E f c' om hr hG tk => (de_call0 cparse_stack tk hr hG (by decide) rfl (das_cons (de_var (i := 1)) (das_cons (de_str (by decide +kernel)) das_nil)))))) (DE.toB (de_lst (das_cons (de_str (by decide +kernel)) (das_cons (de_tup (das_cons (de_str (by decide +kernel)) (das_cons (de_str (by decide +kernel)) das_nil)) (show 2 ≤ sizeLine by decide)) das_nil)) (show 2 ≤ sizeLine by decide)))))))))
theorem b_law_words_right {K : PySem.W.Frag} {f : Addr} {fd : FuncData} {c : Addr} (F : FunL K "_law_words_right" (top 62) f fd c) : Binds K fd [] [] := F.binds fun _ _ _ _ _ _ us hl => match us, hl with | [], _ => rfl
theorem fnlaw {P : Program} {w : World} {K : PySem.W.Frag} [Tbs K] {mg : Str → Option Value} {base : Heap} {f : Addr} {fd : FuncData} (F : Fun K "law" "law" (top 63) f fd) (G : Gs K mg) (c_law_stream : CalD P w K mg base 1 "_law_stream" 2 F_law_stream []) (c_law_stack_right : CalD P w K mg base 8 "_law_stack_right" 1 F_law_stack_right []) (c_law_rule_right : CalD P w K mg base 8 "_law_rule_right" 1 F_law_rule_right []) (c_law_words_right : CalD P w K mg base 8 "_law_words_right" 0 F_law_words_right []) : FnG P w K mg base 9 f fd ["script"] (spD K mg 1 Flaw) :=
  fn_d F sclaw rfl rfl fun cdv A outer s H E om μ hr hG tk hp => have hN := sclaw.nd; (dss_cons (ds_for hp rfl (di_range1 rfl G.b_range (bas_cons (DE.toB (de_callB (k_max rfl) rfl G.b_max (by decide +kernel) (bas_cons (DE.toB de_int) (bas_cons (DE.toB (de_callB (k_min rfl) rfl G.b_min (by decide +kernel) (bas_cons (DE.toB de_int) (bas_cons (DE.toB (de_callB k_len rfl G.b_len PySem.boot_len (bas_cons (be_var (i := 0)) bas_nil))) bas_nil)))) bas_nil)))) bas_nil)) (tg_name hN (i := 1)) (dss_cons (ds_set (i := 2) hN (de_call0 c_law_stream tk hr hG (by decide) rfl (das_cons (de_var (i := 0)) (das_cons (de_var (i := 1)) das_nil))))
  (dss_one (ds_if (DW.t (dw_or (dt_not (dt_tru (DE.toB (de_call0 c_law_stack_right tk hr hG (by decide) rfl (das_cons (de_var (i := 2)) das_nil))))) (dw_or1 (dt_not (dt_tru (DE.toB (de_call0 c_law_rule_right tk hr hG (by decide) rfl (das_cons (de_var (i := 2)) das_nil)))))))) (dss_one (ds_ret de_bl)) dss_nil))))
  (dss_one (ds_ret (de_call00 c_law_words_right tk hr hG (by decide) rfl))))
theorem blaw {K : PySem.W.Frag} {f : Addr} {fd : FuncData} (F : Fun K "law" "law" (top 63) f fd) : Binds K fd ["script"] [] := F.binds fun _ _ _ _ _ _ us hl => match us, hl with | [_], _ => rfl
end K83

set_option Elab.async false
set_option linter.all false
set_option autoImplicit false
set_option maxRecDepth 100000
set_option maxHeartbeats 1000000
namespace K83
open PySem PySem.Spec L2 DD
/-- the stream lies at k -/
def St (k : Nat) (M : Mem) : Prop := ∃ a b c : Int, M[k]? = some (.lst [.int a, .int b, .int c])
theorem mul_l {M : Mem} {i j : Int} (h : -(2 ^ 64) < i ∧ i < 2 ^ 64) : gMul M (.int i) (.int j) = some (.int (i * j)) := by simp only [gMul]; rw [if_pos (.inl (.inl h))]
theorem mul_r {M : Mem} {i j : Int} (h : -(2 ^ 64) < j ∧ j < 2 ^ 64) : gMul M (.int i) (.int j) = some (.int (i * j)) := by simp only [gMul]; rw [if_pos (.inl (.inr h))]
theorem mod_small (x m : Int) (h : 0 < m) (h2 : m < 2 ^ 64) : -(2 ^ 64) < x % m ∧ x % m < 2 ^ 64 := ⟨Int.lt_of_lt_of_le (by decide) (Int.emod_nonneg x (by omega)), Int.lt_trans (Int.emod_lt_of_pos x h) h2⟩
theorem mm1 {M : Mem} {x j : Int} : gMul M (.int (x % 4294967143)) (.int j) = some (.int (x % 4294967143 * j)) := mul_l (mod_small _ _ (by decide) (by decide))
theorem mm2 {M : Mem} {x j : Int} : gMul M (.int (x % 4294967111)) (.int j) = some (.int (x % 4294967111 * j)) := mul_l (mod_small _ _ (by decide) (by decide))
theorem mm3 {M : Mem} {x j : Int} : gMul M (.int (x % 4294967087)) (.int j) = some (.int (x % 4294967087 * j)) := mul_l (mod_small _ _ (by decide) (by decide))
theorem mm4 {M : Mem} {j : Int} : gMul M (.int 1327217887) (.int j) = some (.int (1327217887 * j)) := mul_l (by decide)
theorem mm5 {M : Mem} {j : Int} : gMul M (.int 15013) (.int j) = some (.int (15013 * j)) := mul_l (by decide)
theorem mm6 {M : Mem} {j : Int} {P : Prop} [Decidable P] : gMul M (.int j) (.int (if P then 1 else 0)) = some (.int (j * (if P then 1 else 0))) := mul_r (by split <;> decide)
theorem div128 {M : Mem} {i : Int} : gDiv M (.int i) (.int 128) = some (.int (i / 128)) := by simp [gDiv, CDiv]
theorem pow106 {M : Mem} : gPow M (.int 10) (.int 6) = some (.int 1000000) := by
  simp only [gPow]
  rw [if_pos ⟨by decide, by decide⟩]
  rfl
theorem draw {k : Nat} {t : Int} {M : Mem} (h : St k M) (h0 : 0 < t) (h1 : t < 1073741824) : ∃ r M', F_law_draw [.ref k, .int t] M = .ok (.int r) M' ∧ 0 ≤ r ∧ r < t ∧ St k M' := by
  obtain ⟨a, b, c, h⟩ := h
  have hk : k < M.length := (List.getElem?_eq_some_iff.mp h).1
  by_cases ha : 0 < a
  · refine ⟨a % t, M.set k (.lst [.int (a / t), .int b, .int c]), ?_, Int.emod_nonneg _ (by omega), Int.emod_lt_of_pos _ h0, a / t, b, c, by simp [hk]⟩
    simp [runB, runT, sSeq, sIf, sRet, sRetN, sBind, sSet, sExpr, sNext, sPass, eVar, eBor, eC, eBin, eTest, eTru, eNot, eAnd, eOr, eIf, eNotV, eAndV, eOrV, eChain, aSeq, aNil, aCons, eTup, eLst, eCall, eFn, eMeth, eSl, oNone, oSome, eIsi, bOf, iOf, sRaise, sPar, aBind, sTg, bName, bNil, bCons, bTup, iAny, iRange1, DD.iZip, eFrz, eShr, eComp, sFor, DD.gSub, gIx, gLt, gLe, gGt, gGe, lstOf, tupOf, seqOf, isStr, isLst, tyN, kinD, truD, DD.isNon, gIs, gIsNot, wipeR, noOwn, bYes, sStore, sApp, sOwn, kLen, kAbs, kMax, kMin, kStr, eLam, sTry, hdl, HD.inn, HD.outE, HD.fin, noHnd, eThk, eIsE, fCat, F_law_draw, s_law_draw, h, ha, atI, ixN, gMod, gDiv, h0, CDiv, h1]
  · obtain ⟨y, hy⟩ : ∃ y, y = F_law_draw [.ref k, .int t] M := ⟨_, rfl⟩
    have e := hy
    have hs : ∀ x, (M.set k x)[k]? = some x := fun x => by simp [hk]
    simp [runB, runT, sSeq, sIf, sRet, sRetN, sBind, sSet, sExpr, sNext, sPass, eVar, eBor, eC, eBin, eTest, eTru, eNot, eAnd, eOr, eIf, eNotV, eAndV, eOrV, eChain, aSeq, aNil, aCons, eTup, eLst, eCall, eFn, eMeth, eSl, oNone, oSome, eIsi, bOf, iOf, sRaise, sPar, aBind, sTg, bName, bNil, bCons, bTup, iAny, iRange1, DD.iZip, eFrz, eShr, eComp, sFor, DD.gSub, gIx, gLt, gLe, gGt, gGe, lstOf, tupOf, seqOf, isStr, isLst, tyN, kinD, truD, DD.isNon, gIs, gIsNot, wipeR, noOwn, bYes, sStore, sApp, sOwn, kLen, kAbs, kMax, kMin, kStr, eLam, sTry, hdl, HD.inn, HD.outE, HD.fin, noHnd, eThk, eIsE, fCat, F_law_draw, s_law_draw, h, ha, atI, ixN, gMod, gAdd, hs, mm1, mm2, mm3, mm4, mm5, mm6, div128, pow106, kInt, h0] at e
    exact ⟨_, _, hy.symm.trans e, Int.emod_nonneg _ (by omega), Int.emod_lt_of_pos _ h0, a, b, c + 1, by simp [hk]⟩
end K83

set_option Elab.async false
set_option linter.all false
set_option autoImplicit false
set_option maxRecDepth 100000
set_option maxHeartbeats 1000000
namespace K83
open PySem PySem.Spec L2 DD
abbrev ch (s : Str) : List Nat := s.cps.toList
def lets : List Nat := ch "abcdefghijklmnopqrstuvwxyz"
def digs : List Nat := ch "0123456789"
def isNm (s : Str) : Bool := decide (1 ≤ s.length) && decide (s.length ≤ 8) && (ch s).all fun c => decide (c ∈ lets)
theorem len_ch (s : Str) : s.length = (ch s).length := by simp [Str.length]
theorem strIn1 (c : Nat) (j : Str) : strIn ⟨#[c]⟩ j = decide (c ∈ ch j) := rfl
theorem bs_map {α : Type} (f : α → Bool) : ∀ l : List α, bsOf (l.map fun x => .bl (f x)) = some (l.map f)
  | [] => rfl
  | x :: l => by simp [bsOf, bs_map f l]
theorem ss_map : ∀ l : List Str, ssOf (l.map .str) = some l
  | [] => rfl
  | x :: l => by simp [ssOf, ss_map l]
theorem all_id (l : List Bool) : l.all id = l.all fun b => b := rfl
/-- a list of tests over signs, over texts -/
theorem comp_signs {bind : Sl → D → Option Sl} {elt : SE} {ρ : Sl} {f : Nat → Bool} {M : Mem} (s : Str) (h : ∀ c ∈ ch s, ∃ ρ1, bind ρ (.str ⟨#[c]⟩) = some ρ1 ∧ elt ρ1 M = .ok (.bl (f c)) M) : compL bind bYes elt ρ (signs s) [] M = .ok ((ch s).map fun c => .bl (f c)) M := by
  have := compL_map (bind := bind) (elt := elt) (ρ := ρ) (M := M) (f := fun d => match d with | .str x => .bl (f (x.cps.getD 0 0)) | d => d) (signs s) [] (fun x hx => by
    simp only [signs, List.mem_map] at hx
    obtain ⟨c, hc, rfl⟩ := hx
    exact h c hc)
  rw [this]
  simp [signs, Function.comp_def]
theorem comp_strs {bind : Sl → D → Option Sl} {elt : SE} {ρ : Sl} {f : Str → Bool} {M : Mem} (l : List Str) (h : ∀ c ∈ l, ∃ ρ1, bind ρ (.str c) = some ρ1 ∧ elt ρ1 M = .ok (.bl (f c)) M) : compL bind bYes elt ρ (l.map .str) [] M = .ok (l.map fun c => .bl (f c)) M := by
  have := compL_map (bind := bind) (elt := elt) (ρ := ρ) (M := M) (f := fun d => match d with | .str x => .bl (f x) | d => d) (l.map .str) [] (fun x hx => by
    simp only [List.mem_map] at hx
    obtain ⟨c, hc, rfl⟩ := hx
    exact h c hc)
  rw [this]
  simp [Function.comp_def]
theorem is_name (s : Str) (M : Mem) : Fis_name [.str s] M = .ok (.bl (isNm s)) M := by
  have h : ∀ ρ : Sl, ρ.length = 2 → compL (bName 1) bYes (eBin gIn (eBor 1) (eC (.str "abcdefghijklmnopqrstuvwxyz"))) ρ (signs s) [] M = .ok ((ch s).map fun c => .bl (decide (c ∈ lets))) M := fun ρ hρ =>
    comp_signs s fun c hc => ⟨ρ.set 1 (.val (.str ⟨#[c]⟩)), rfl, by simp [runB, runT, sSeq, sIf, sRet, sRetN, sBind, sSet, sExpr, sNext, sPass, eVar, eBor, eC, eBin, eTest, eTru, eNot, eAnd, eOr, eIf, eNotV, eAndV, eOrV, eChain, aSeq, aNil, aCons, eTup, eLst, eCall, eFn, eMeth, eSl, oNone, oSome, eIsi, bOf, iOf, sRaise, sPar, aBind, sTg, bName, bNil, bCons, bTup, iAny, iRange1, DD.iZip, eFrz, eShr, eComp, sFor, DD.gSub, gIx, gLt, gLe, gGt, gGe, lstOf, tupOf, seqOf, isStr, isLst, tyN, kinD, truD, DD.isNon, gIs, gIsNot, wipeR, noOwn, bYes, sStore, sApp, sOwn, kLen, kAbs, kMax, kMin, kStr, eLam, sTry, hdl, HD.inn, HD.outE, HD.fin, noHnd, eThk, eIsE, fCat, gIn, hρ, strIn1, lets]⟩
  by_cases h1 : (1 : Int) ≤ (s.length : Nat)
  · have h1' : 1 ≤ s.length := by omega
    by_cases h2 : ((s.length : Nat) : Int) ≤ 8
    · have h2' : s.length ≤ 8 := by omega
      simp [runB, runT, sSeq, sIf, sRet, sRetN, sBind, sSet, sExpr, sNext, sPass, eVar, eBor, eC, eBin, eTest, eTru, eNot, eAnd, eOr, eIf, eNotV, eAndV, eOrV, eChain, aSeq, aNil, aCons, eTup, eLst, eCall, eFn, eMeth, eSl, oNone, oSome, eIsi, bOf, iOf, sRaise, sPar, aBind, sTg, bName, bNil, bCons, bTup, iAny, iRange1, DD.iZip, eFrz, eShr, eComp, sFor, DD.gSub, gIx, gLt, gLe, gGt, gGe, lstOf, tupOf, seqOf, isStr, isLst, tyN, kinD, truD, DD.isNon, gIs, gIsNot, wipeR, noOwn, bYes, sStore, sApp, sOwn, kLen, kAbs, kMax, kMin, kStr, eLam, sTry, hdl, HD.inn, HD.outE, HD.fin, noHnd, eThk, eIsE, fCat, Fis_name, sis_name, h, kAll, bs_map, isNm, h1, h2, h1', h2', Function.comp_def]
    · have h2' : ¬ s.length ≤ 8 := by omega
      simp [runB, runT, sSeq, sIf, sRet, sRetN, sBind, sSet, sExpr, sNext, sPass, eVar, eBor, eC, eBin, eTest, eTru, eNot, eAnd, eOr, eIf, eNotV, eAndV, eOrV, eChain, aSeq, aNil, aCons, eTup, eLst, eCall, eFn, eMeth, eSl, oNone, oSome, eIsi, bOf, iOf, sRaise, sPar, aBind, sTg, bName, bNil, bCons, bTup, iAny, iRange1, DD.iZip, eFrz, eShr, eComp, sFor, DD.gSub, gIx, gLt, gLe, gGt, gGe, lstOf, tupOf, seqOf, isStr, isLst, tyN, kinD, truD, DD.isNon, gIs, gIsNot, wipeR, noOwn, bYes, sStore, sApp, sOwn, kLen, kAbs, kMax, kMin, kStr, eLam, sTry, hdl, HD.inn, HD.outE, HD.fin, noHnd, eThk, eIsE, fCat, Fis_name, sis_name, h, kAll, bs_map, isNm, h1, h2, h1', h2']
  · have h1' : ¬ 1 ≤ s.length := by omega
    simp [runB, runT, sSeq, sIf, sRet, sRetN, sBind, sSet, sExpr, sNext, sPass, eVar, eBor, eC, eBin, eTest, eTru, eNot, eAnd, eOr, eIf, eNotV, eAndV, eOrV, eChain, aSeq, aNil, aCons, eTup, eLst, eCall, eFn, eMeth, eSl, oNone, oSome, eIsi, bOf, iOf, sRaise, sPar, aBind, sTg, bName, bNil, bCons, bTup, iAny, iRange1, DD.iZip, eFrz, eShr, eComp, sFor, DD.gSub, gIx, gLt, gLe, gGt, gGe, lstOf, tupOf, seqOf, isStr, isLst, tyN, kinD, truD, DD.isNon, gIs, gIsNot, wipeR, noOwn, bYes, sStore, sApp, sOwn, kLen, kAbs, kMax, kMin, kStr, eLam, sTry, hdl, HD.inn, HD.outE, HD.fin, noHnd, eThk, eIsE, fCat, Fis_name, sis_name, h, kAll, bs_map, isNm, h1, h1']
theorem is_name_int (i : Int) (M : Mem) : Fis_name [.int i] M = .ok (.bl false) M := by simp [runB, runT, sSeq, sIf, sRet, sRetN, sBind, sSet, sExpr, sNext, sPass, eVar, eBor, eC, eBin, eTest, eTru, eNot, eAnd, eOr, eIf, eNotV, eAndV, eOrV, eChain, aSeq, aNil, aCons, eTup, eLst, eCall, eFn, eMeth, eSl, oNone, oSome, eIsi, bOf, iOf, sRaise, sPar, aBind, sTg, bName, bNil, bCons, bTup, iAny, iRange1, DD.iZip, eFrz, eShr, eComp, sFor, DD.gSub, gIx, gLt, gLe, gGt, gGe, lstOf, tupOf, seqOf, isStr, isLst, tyN, kinD, truD, DD.isNon, gIs, gIsNot, wipeR, noOwn, bYes, sStore, sApp, sOwn, kLen, kAbs, kMax, kMin, kStr, eLam, sTry, hdl, HD.inn, HD.outE, HD.fin, noHnd, eThk, eIsE, fCat, Fis_name, sis_name]
theorem is_integer_int (i : Int) (M : Mem) : Fis_integer [.int i] M = .ok (.bl true) M := by simp [runB, runT, sSeq, sIf, sRet, sRetN, sBind, sSet, sExpr, sNext, sPass, eVar, eBor, eC, eBin, eTest, eTru, eNot, eAnd, eOr, eIf, eNotV, eAndV, eOrV, eChain, aSeq, aNil, aCons, eTup, eLst, eCall, eFn, eMeth, eSl, oNone, oSome, eIsi, bOf, iOf, sRaise, sPar, aBind, sTg, bName, bNil, bCons, bTup, iAny, iRange1, DD.iZip, eFrz, eShr, eComp, sFor, DD.gSub, gIx, gLt, gLe, gGt, gGe, lstOf, tupOf, seqOf, isStr, isLst, tyN, kinD, truD, DD.isNon, gIs, gIsNot, wipeR, noOwn, bYes, sStore, sApp, sOwn, kLen, kAbs, kMax, kMin, kStr, eLam, sTry, hdl, HD.inn, HD.outE, HD.fin, noHnd, eThk, eIsE, fCat, Fis_integer, sis_integer]
theorem is_integer_str (i : Str) (M : Mem) : Fis_integer [.str i] M = .ok (.bl false) M := by simp [runB, runT, sSeq, sIf, sRet, sRetN, sBind, sSet, sExpr, sNext, sPass, eVar, eBor, eC, eBin, eTest, eTru, eNot, eAnd, eOr, eIf, eNotV, eAndV, eOrV, eChain, aSeq, aNil, aCons, eTup, eLst, eCall, eFn, eMeth, eSl, oNone, oSome, eIsi, bOf, iOf, sRaise, sPar, aBind, sTg, bName, bNil, bCons, bTup, iAny, iRange1, DD.iZip, eFrz, eShr, eComp, sFor, DD.gSub, gIx, gLt, gLe, gGt, gGe, lstOf, tupOf, seqOf, isStr, isLst, tyN, kinD, truD, DD.isNon, gIs, gIsNot, wipeR, noOwn, bYes, sStore, sApp, sOwn, kLen, kAbs, kMax, kMin, kStr, eLam, sTry, hdl, HD.inn, HD.outE, HD.fin, noHnd, eThk, eIsE, fCat, Fis_integer, sis_integer]
end K83

set_option Elab.async false
set_option linter.all false
set_option autoImplicit false
set_option maxRecDepth 100000
set_option maxHeartbeats 1000000
namespace K83
open PySem PySem.Spec L2 DD
/-! ### equal, within, of texts -/
theorem eqv_str (a b : Str) : eqv (.str a) (.str b) = decide (a = b) := by
  simp only [eqv]
  by_cases h : a = b
  · simp [h]
  · simp [h]
theorem eqvs_strs : ∀ (l m : List Str), eqvs (l.map .str) (m.map .str) = decide (l = m)
  | [], [] => by simp [eqvs]
  | [], _ :: _ => by simp [eqvs]
  | _ :: _, [] => by simp [eqvs]
  | a :: l, b :: m => by
    simp only [List.map_cons, eqvs, eqv_str, eqvs_strs l m, List.cons.injEq]
    by_cases h1 : a = b <;> by_cases h2 : l = m <;> simp [h1, h2]
theorem any_strs (w : Str) : ∀ l : List Str, (l.map D.str).any (fun z => eqv z (.str w)) = decide (w ∈ l)
  | [] => by simp
  | a :: l => by
    have ih := any_strs w l
    rw [List.map_cons, List.any_cons, ih, eqv_str]
    by_cases h1 : w = a
    · subst h1; simp
    · have : ¬ a = w := fun z => h1 z.symm
      simp [h1, this]
theorem plain_str (s : Str) : plainD (.str s) = true := by simp [plainD, cln, dep]
theorem plain_strs (l : List Str) : (l.map D.str).all plainD = true := by simp [plain_str]
theorem cln_strs : ∀ l : List Str, clns (l.map D.str) = true
  | [] => rfl
  | a :: l => by simp only [List.map_cons, clns, cln, cln_strs l, Bool.and_self]
theorem dep_strs : ∀ l : List Str, deps (l.map D.str) = 0
  | [] => rfl
  | a :: l => by simp only [List.map_cons, deps, dep, dep_strs l]; rfl
theorem plain_tup (l : List Str) : plainD (.tup (l.map .str)) = true := by simp [plainD, cln, dep, cln_strs, dep_strs]
theorem plain_lst (l : List Str) : plainD (.lst (l.map .str)) = true := by simp [plainD, cln, dep, cln_strs, dep_strs]
theorem in_tup (M : Mem) (w : Str) (l : List Str) : gIn M (.str w) (.tup (l.map .str)) = some (.bl (decide (w ∈ l))) := by
  simp only [gIn, seqOf, plain_str, plain_strs, Bool.and_self, if_true, any_strs]
theorem in_lst (M : Mem) (w : Str) (l : List Str) : gIn M (.str w) (.lst (l.map .str)) = some (.bl (decide (w ∈ l))) := by
  simp only [gIn, seqOf, lstOf, plain_str, plain_strs, Bool.and_self, if_true, any_strs]
theorem eq_lst (M : Mem) (l m : List Str) : gEq M (.lst (l.map .str)) (.lst (m.map .str)) = some (.bl (decide (l = m))) := by
  simp only [gEq, plain_lst, Bool.and_self, if_true, eqv, eqvs_strs]
theorem eq_str (M : Mem) (a b : Str) : gEq M (.str a) (.str b) = some (.bl (decide (a = b))) := by
  simp only [gEq, plain_str, Bool.and_self, if_true, eqv_str]
theorem ne_str (M : Mem) (a b : Str) : gNe M (.str a) (.str b) = some (.bl (!decide (a = b))) := by
  simp only [gNe, plain_str, Bool.and_self, if_true, eqv_str]
/-! ### joined texts -/
theorem join_len (y : Str) : ∀ l : List Str, (Str.join y l).length + (if l = [] then 0 else y.length) = (l.map (·.length)).sum + l.length * y.length
  | [] => by simp [Str.join]; rfl
  | [x] => by simp [Str.join]
  | x :: z :: r => by
    have ih := join_len y (z :: r)
    rw [if_neg (by simp)] at ih
    rw [if_neg (by simp)]
    show ((x ++ y ++ Str.join y (z :: r))).length + y.length = _
    rw [strLen_append, strLen_append]
    simp only [List.map_cons, List.sum_cons, List.length_cons, Nat.add_mul] at *
    omega
theorem tj (y : Str) (l : List Str) : Txt.join y l = Str.join y l := StrLaws.glued_eq_join y l
theorem sum_mem {w : Str} : ∀ {l : List Str}, w ∈ l → w.length ≤ (l.map (·.length)).sum
  | a :: l, h => by
    rcases List.mem_cons.mp h with rfl | h
    · simp
    · have := sum_mem h; simp; omega
theorem sum_le {B : Nat} : ∀ {l : List Str}, (∀ w ∈ l, w.length ≤ B) → (l.map (·.length)).sum ≤ l.length * B
  | [], _ => by simp
  | a :: l, h => by
    have := sum_le (l := l) fun w hw => h w (List.mem_cons_of_mem _ hw)
    have := h a List.mem_cons_self
    simp [Nat.add_mul]; omega
theorem sp_len : (" " : Str).length = 1 := by decide +kernel
theorem join_mem_len {l : List Str} {w : Str} (h : w ∈ l) : w.length ≤ (Str.join " " l).length := by
  have := join_len " " l
  have h2 := sum_mem h
  rw [sp_len] at this
  split at this
  · rename_i e; subst e; cases h
  · have : 1 ≤ l.length := by cases l <;> simp_all
    omega
theorem join_count {l : List Str} : l.length ≤ (Str.join " " l).length + 1 := by
  have := join_len " " l
  rw [sp_len] at this
  split at this
  · rename_i e; subst e; simp
  · omega
theorem split_ok (s : Str) : (∀ p ∈ Txt.split s " ", p.length ≤ s.length) ∧ (Txt.split s " ").length ≤ s.length + 1 := by
  have e : Str.join " " (Txt.split s " ") = s := StrLaws.join_split s " "
  refine ⟨fun p hp => ?_, ?_⟩
  · have := join_mem_len hp; rw [e] at this; exact this
  · have := join_count (l := Txt.split s " "); rw [e] at this; exact this
/-- few and short -/
def Sm (l : List Str) : Prop := l.length ≤ 1000 ∧ ∀ w ∈ l, w.length ≤ 1000
theorem Sm.join {l : List Str} (h : Sm l) : (l.map (·.length)).sum + l.length * (" " : Str).length ≤ 16777216 ∧ (Txt.join " " l).length ≤ sizeLine := by
  have h1 := sum_le h.2
  have h2 := join_len " " l
  have hs : sizeLine = 16777216 := sizeLine_eq
  have h3 : l.length * 1000 ≤ 1000 * 1000 := Nat.mul_le_mul_right _ h.1
  have h4 := h.1
  rw [sp_len] at *
  rw [tj]
  omega
theorem m_join (M : Mem) {l : List Str} (h : Sm l) : mJoin M (.str " ") [.lst (l.map .str)] = some (.str (Txt.join " " l)) ∧ mJoin M (.str " ") [.tup (l.map .str)] = some (.str (Txt.join " " l)) := by
  have := h.join
  constructor <;> simp only [mJoin, seqOf, lstOf, Option.bind_some, ss_map] <;> rw [if_pos this]
def sp (l : List Str) : Str := if l = [] then "-" else Txt.join " " l
def un (l : List Str) : List Str := if l = [("-" : Str)] then [] else l
theorem parts_text (M : Mem) {l : List Str} (h : Sm l) : Fparts_text [.tup (l.map .str)] M = .ok (.str (sp l)) M := by
  by_cases e : l = []
  · subst e; simp [runB, runT, sSeq, sIf, sRet, sRetN, sBind, sSet, sExpr, sNext, sPass, eVar, eBor, eC, eBin, eTest, eTru, eNot, eAnd, eOr, eIf, eNotV, eAndV, eOrV, eChain, aSeq, aNil, aCons, eTup, eLst, eCall, eFn, eMeth, eSl, oNone, oSome, eIsi, bOf, iOf, sRaise, sPar, aBind, sTg, bName, bNil, bCons, bTup, iAny, iRange1, DD.iZip, eFrz, eShr, eComp, sFor, DD.gSub, gIx, gLt, gLe, gGt, gGe, lstOf, tupOf, seqOf, isStr, isLst, tyN, kinD, truD, DD.isNon, gIs, gIsNot, wipeR, noOwn, bYes, sStore, sApp, sOwn, kLen, kAbs, kMax, kMin, kStr, eLam, sTry, hdl, HD.inn, HD.outE, HD.fin, noHnd, eThk, eIsE, fCat, Fparts_text, sparts_text, sp]
  · have : (0 : Int) < (l.length : Nat) := by have := List.length_pos_iff.mpr e; omega
    have e2 : 0 < l.length := by omega
    simp [runB, runT, sSeq, sIf, sRet, sRetN, sBind, sSet, sExpr, sNext, sPass, eVar, eBor, eC, eBin, eTest, eTru, eNot, eAnd, eOr, eIf, eNotV, eAndV, eOrV, eChain, aSeq, aNil, aCons, eTup, eLst, eCall, eFn, eMeth, eSl, oNone, oSome, eIsi, bOf, iOf, sRaise, sPar, aBind, sTg, bName, bNil, bCons, bTup, iAny, iRange1, DD.iZip, eFrz, eShr, eComp, sFor, DD.gSub, gIx, gLt, gLe, gGt, gGe, lstOf, tupOf, seqOf, isStr, isLst, tyN, kinD, truD, DD.isNon, gIs, gIsNot, wipeR, noOwn, bYes, sStore, sApp, sOwn, kLen, kAbs, kMax, kMin, kStr, eLam, sTry, hdl, HD.inn, HD.outE, HD.fin, noHnd, eThk, eIsE, fCat, Fparts_text, sparts_text, sp, e, this, e2, (m_join M h).2]
theorem law_spelled (M : Mem) {l : List Str} (h : Sm l) : F_law_spelled [.tup (l.map .str)] M = .ok (.str (sp l)) M := by
  by_cases e : l = []
  · subst e; simp [runB, runT, sSeq, sIf, sRet, sRetN, sBind, sSet, sExpr, sNext, sPass, eVar, eBor, eC, eBin, eTest, eTru, eNot, eAnd, eOr, eIf, eNotV, eAndV, eOrV, eChain, aSeq, aNil, aCons, eTup, eLst, eCall, eFn, eMeth, eSl, oNone, oSome, eIsi, bOf, iOf, sRaise, sPar, aBind, sTg, bName, bNil, bCons, bTup, iAny, iRange1, DD.iZip, eFrz, eShr, eComp, sFor, DD.gSub, gIx, gLt, gLe, gGt, gGe, lstOf, tupOf, seqOf, isStr, isLst, tyN, kinD, truD, DD.isNon, gIs, gIsNot, wipeR, noOwn, bYes, sStore, sApp, sOwn, kLen, kAbs, kMax, kMin, kStr, eLam, sTry, hdl, HD.inn, HD.outE, HD.fin, noHnd, eThk, eIsE, fCat, F_law_spelled, s_law_spelled, sp]
  · have : (0 : Int) < (l.length : Nat) := by have := List.length_pos_iff.mpr e; omega
    have e2 : 0 < l.length := by omega
    simp [runB, runT, sSeq, sIf, sRet, sRetN, sBind, sSet, sExpr, sNext, sPass, eVar, eBor, eC, eBin, eTest, eTru, eNot, eAnd, eOr, eIf, eNotV, eAndV, eOrV, eChain, aSeq, aNil, aCons, eTup, eLst, eCall, eFn, eMeth, eSl, oNone, oSome, eIsi, bOf, iOf, sRaise, sPar, aBind, sTg, bName, bNil, bCons, bTup, iAny, iRange1, DD.iZip, eFrz, eShr, eComp, sFor, DD.gSub, gIx, gLt, gLe, gGt, gGe, lstOf, tupOf, seqOf, isStr, isLst, tyN, kinD, truD, DD.isNon, gIs, gIsNot, wipeR, noOwn, bYes, sStore, sApp, sOwn, kLen, kAbs, kMax, kMin, kStr, eLam, sTry, hdl, HD.inn, HD.outE, HD.fin, noHnd, eThk, eIsE, fCat, F_law_spelled, s_law_spelled, sp, e, this, e2, (m_join M h).2]
theorem parts_in (M : Mem) (l : List Str) : Fparts_in [.lst (l.map .str)] M = .ok (.tup ((un l).map .str)) M := by
  have h := eq_lst M l ["-"]
  simp only [List.map_cons, List.map_nil] at h
  by_cases e : l = [("-" : Str)]
  · have h2 : decide (l = [("-" : Str)]) = true := decide_eq_true e
    rw [h2] at h
    have h3 : un l = [] := if_pos e
    rw [h3]
    simp [runB, runT, sSeq, sIf, sRet, sRetN, sBind, sSet, sExpr, sNext, sPass, eVar, eBor, eC, eBin, eTest, eTru, eNot, eAnd, eOr, eIf, eNotV, eAndV, eOrV, eChain, aSeq, aNil, aCons, eTup, eLst, eCall, eFn, eMeth, eSl, oNone, oSome, eIsi, bOf, iOf, sRaise, sPar, aBind, sTg, bName, bNil, bCons, bTup, iAny, iRange1, DD.iZip, eFrz, eShr, eComp, sFor, DD.gSub, gIx, gLt, gLe, gGt, gGe, lstOf, tupOf, seqOf, isStr, isLst, tyN, kinD, truD, DD.isNon, gIs, gIsNot, wipeR, noOwn, bYes, sStore, sApp, sOwn, kLen, kAbs, kMax, kMin, kStr, eLam, sTry, hdl, HD.inn, HD.outE, HD.fin, noHnd, eThk, eIsE, fCat, Fparts_in, sparts_in, h]
  · have h2 : decide (l = [("-" : Str)]) = false := decide_eq_false e
    rw [h2] at h
    have h3 : un l = l := if_neg e
    rw [h3]
    simp [runB, runT, sSeq, sIf, sRet, sRetN, sBind, sSet, sExpr, sNext, sPass, eVar, eBor, eC, eBin, eTest, eTru, eNot, eAnd, eOr, eIf, eNotV, eAndV, eOrV, eChain, aSeq, aNil, aCons, eTup, eLst, eCall, eFn, eMeth, eSl, oNone, oSome, eIsi, bOf, iOf, sRaise, sPar, aBind, sTg, bName, bNil, bCons, bTup, iAny, iRange1, DD.iZip, eFrz, eShr, eComp, sFor, DD.gSub, gIx, gLt, gLe, gGt, gGe, lstOf, tupOf, seqOf, isStr, isLst, tyN, kinD, truD, DD.isNon, gIs, gIsNot, wipeR, noOwn, bYes, sStore, sApp, sOwn, kLen, kAbs, kMax, kMin, kStr, eLam, sTry, hdl, HD.inn, HD.outE, HD.fin, noHnd, eThk, eIsE, fCat, Fparts_in, sparts_in, h, kTuple]
theorem nl_in (s : Str) : strIn "\n" s = decide (10 ∈ ch s) := rfl
theorem parts_of (M : Mem) {s : Str} (h : s.length ≤ 10000) : Fparts_of [.str s] M = if 10 ∈ ch s then .exc "ParseError" [] M else .ok (.lst ((Txt.split s " ").map .str)) M := by
  have hs : sizeLine = 16777216 := sizeLine_eq
  have h1 := split_ok s
  have e : mSplit M (.str s) [.str " "] = some (.lst ((Txt.split s " ").map .str)) := by
    simp only [mSplit]
    rw [if_pos ⟨by decide +kernel, by omega, List.all_eq_true.mpr fun p hp => decide_eq_true (by have := h1.1 p hp; omega), by omega⟩]
  by_cases q : 10 ∈ ch s
  · simp [runB, runT, sSeq, sIf, sRet, sRetN, sBind, sSet, sExpr, sNext, sPass, eVar, eBor, eC, eBin, eTest, eTru, eNot, eAnd, eOr, eIf, eNotV, eAndV, eOrV, eChain, aSeq, aNil, aCons, eTup, eLst, eCall, eFn, eMeth, eSl, oNone, oSome, eIsi, bOf, iOf, sRaise, sPar, aBind, sTg, bName, bNil, bCons, bTup, iAny, iRange1, DD.iZip, eFrz, eShr, eComp, sFor, DD.gSub, gIx, gLt, gLe, gGt, gGe, lstOf, tupOf, seqOf, isStr, isLst, tyN, kinD, truD, DD.isNon, gIs, gIsNot, wipeR, noOwn, bYes, sStore, sApp, sOwn, kLen, kAbs, kMax, kMin, kStr, eLam, sTry, hdl, HD.inn, HD.outE, HD.fin, noHnd, eThk, eIsE, fCat, Fparts_of, sparts_of, gIn, nl_in, q]
  · simp [runB, runT, sSeq, sIf, sRet, sRetN, sBind, sSet, sExpr, sNext, sPass, eVar, eBor, eC, eBin, eTest, eTru, eNot, eAnd, eOr, eIf, eNotV, eAndV, eOrV, eChain, aSeq, aNil, aCons, eTup, eLst, eCall, eFn, eMeth, eSl, oNone, oSome, eIsi, bOf, iOf, sRaise, sPar, aBind, sTg, bName, bNil, bCons, bTup, iAny, iRange1, DD.iZip, eFrz, eShr, eComp, sFor, DD.gSub, gIx, gLt, gLe, gGt, gGe, lstOf, tupOf, seqOf, isStr, isLst, tyN, kinD, truD, DD.isNon, gIs, gIsNot, wipeR, noOwn, bYes, sStore, sApp, sOwn, kLen, kAbs, kMax, kMin, kStr, eLam, sTry, hdl, HD.inn, HD.outE, HD.fin, noHnd, eThk, eIsE, fCat, Fparts_of, sparts_of, gIn, nl_in, q, e]
end K83

set_option Elab.async false
set_option linter.all false
set_option autoImplicit false
set_option maxRecDepth 100000
set_option maxHeartbeats 1000000
namespace K83
open PySem PySem.Spec L2 DD
/-! ### labels -/
def ltS (a b : Str) : Bool := decide (ch a < ch b)
def adj : List Str → List Bool
  | a :: b :: r => ltS a b :: adj (b :: r)
  | _ => []
theorem zip_adj : ∀ (l : List Str), zipD (l.map .str) ((l.drop 1).map .str) = (List.zip l (l.drop 1)).map fun p => .tup [.str p.1, .str p.2] := fun l => by
  have : ∀ (a b : List Str), zipD (a.map .str) (b.map .str) = (List.zip a b).map fun p => .tup [.str p.1, .str p.2] := by
    intro a
    induction a with
    | nil => intro b; simp [zipD]
    | cons x a ih =>
      intro b
      cases b with
      | nil => simp [zipD]
      | cons y b => simp [zipD, ih]
  exact this l (l.drop 1)
theorem adj_zip : ∀ (l : List Str), (List.zip l (l.drop 1)).map (fun p => ltS p.1 p.2) = adj l
  | [] => rfl
  | [a] => rfl
  | a :: b :: r => by
    have ih := adj_zip (b :: r)
    simp only [List.drop_succ_cons, List.drop_zero, List.zip_cons_cons, List.map_cons, adj] at *
    rw [ih]
def asc (l : List Str) : Bool := (adj l).all id
theorem is_ascending (M : Mem) (l : List Str) : Fis_ascending [.tup (l.map .str)] M = .ok (.bl (asc l)) M := by
  have hc : cutD (l.map D.str) (some 1) none = (l.drop 1).map D.str := by
    unfold cutD
    have h1 : HT.sIx (l.map D.str).length 0 (some 1) = min 1 l.length := by
      have := HT.sIx_nat (l.map D.str).length 0 1
      simpa using this
    have h2 : HT.sIx (l.map D.str).length (l.map D.str).length none = l.length := by simp [HT.sIx]
    rw [h1, h2]
    cases l with
    | nil => rfl
    | cons a l => simp [List.take_of_length_le]
  have h : ∀ ρ : Sl, ρ.length = 3 → compL (bTup 2 (bCons (bName 1) (bCons (bName 2) bNil))) bYes (eBin gLt (eBor 1) (eBor 2)) ρ (zipD (l.map .str) ((l.drop 1).map .str)) [] M = .ok ((adj l).map .bl) M := fun ρ hρ => by
    rw [zip_adj]
    have := compL_map (bind := bTup 2 (bCons (bName 1) (bCons (bName 2) bNil))) (elt := eBin gLt (eBor 1) (eBor 2)) (ρ := ρ) (M := M) (f := fun d => match d with | .tup [.str a, .str b] => .bl (ltS a b) | d => d) ((List.zip l (l.drop 1)).map fun p => .tup [.str p.1, .str p.2]) [] (fun x hx => by
      simp only [List.mem_map] at hx
      obtain ⟨p, hp, rfl⟩ := hx
      refine ⟨_, rfl, ?_⟩
      simp [runB, runT, sSeq, sIf, sRet, sRetN, sBind, sSet, sExpr, sNext, sPass, eVar, eBor, eC, eBin, eTest, eTru, eNot, eAnd, eOr, eIf, eNotV, eAndV, eOrV, eChain, aSeq, aNil, aCons, eTup, eLst, eCall, eFn, eMeth, eSl, oNone, oSome, eIsi, bOf, iOf, sRaise, sPar, aBind, sTg, bName, bNil, bCons, bTup, iAny, iRange1, DD.iZip, eFrz, eShr, eComp, sFor, DD.gSub, gIx, gLt, gLe, gGt, gGe, lstOf, tupOf, seqOf, isStr, isLst, tyN, kinD, truD, DD.isNon, gIs, gIsNot, wipeR, noOwn, bYes, sStore, sApp, sOwn, kLen, kAbs, kMax, kMin, kStr, eLam, sTry, hdl, HD.inn, HD.outE, HD.fin, noHnd, eThk, eIsE, fCat, hρ, ltS])
    rw [this, ← adj_zip]
    simp [Function.comp_def]
  have hb := bs_map (fun b : Bool => b) (adj l)
  have e : bsOf ((adj l).map D.bl) = some (adj l) := by simpa using hb
  have hz : (l.drop 1).map D.str = (l.map D.str).tail := by simp
  simp only [hz] at hc h
  simp [runB, runT, sSeq, sIf, sRet, sRetN, sBind, sSet, sExpr, sNext, sPass, eVar, eBor, eC, eBin, eTest, eTru, eNot, eAnd, eOr, eIf, eNotV, eAndV, eOrV, eChain, aSeq, aNil, aCons, eTup, eLst, eCall, eFn, eMeth, eSl, oNone, oSome, eIsi, bOf, iOf, sRaise, sPar, aBind, sTg, bName, bNil, bCons, bTup, iAny, iRange1, DD.iZip, eFrz, eShr, eComp, sFor, DD.gSub, gIx, gLt, gLe, gGt, gGe, lstOf, tupOf, seqOf, isStr, isLst, tyN, kinD, truD, DD.isNon, gIs, gIsNot, wipeR, noOwn, bYes, sStore, sApp, sOwn, kLen, kAbs, kMax, kMin, kStr, eLam, sTry, hdl, HD.inn, HD.outE, HD.fin, noHnd, eThk, eIsE, fCat, Fis_ascending, sis_ascending, gSl, hc, h, kAll, asc, e]
theorem are_names (M : Mem) (l : List Str) : Fare_names [.tup (l.map .str)] M = .ok (.bl (l.all isNm && asc l)) M := by
  have h : ∀ ρ : Sl, ρ.length = 2 → compL (bName 1) bYes (eFn Fis_name [eVar 1]) ρ (l.map .str) [] M = .ok (l.map fun c => .bl (isNm c)) M := fun ρ hρ =>
    comp_strs l fun c hc => ⟨ρ.set 1 (.val (.str c)), rfl, by simp [runB, runT, sSeq, sIf, sRet, sRetN, sBind, sSet, sExpr, sNext, sPass, eVar, eBor, eC, eBin, eTest, eTru, eNot, eAnd, eOr, eIf, eNotV, eAndV, eOrV, eChain, aSeq, aNil, aCons, eTup, eLst, eCall, eFn, eMeth, eSl, oNone, oSome, eIsi, bOf, iOf, sRaise, sPar, aBind, sTg, bName, bNil, bCons, bTup, iAny, iRange1, DD.iZip, eFrz, eShr, eComp, sFor, DD.gSub, gIx, gLt, gLe, gGt, gGe, lstOf, tupOf, seqOf, isStr, isLst, tyN, kinD, truD, DD.isNon, gIs, gIsNot, wipeR, noOwn, bYes, sStore, sApp, sOwn, kLen, kAbs, kMax, kMin, kStr, eLam, sTry, hdl, HD.inn, HD.outE, HD.fin, noHnd, eThk, eIsE, fCat, hρ, is_name]⟩
  cases e : l.all isNm with
  | true => 
    have e2 : (l.map isNm).all id = true := by rw [List.all_map]; exact e
    simp [runB, runT, sSeq, sIf, sRet, sRetN, sBind, sSet, sExpr, sNext, sPass, eVar, eBor, eC, eBin, eTest, eTru, eNot, eAnd, eOr, eIf, eNotV, eAndV, eOrV, eChain, aSeq, aNil, aCons, eTup, eLst, eCall, eFn, eMeth, eSl, oNone, oSome, eIsi, bOf, iOf, sRaise, sPar, aBind, sTg, bName, bNil, bCons, bTup, iAny, iRange1, DD.iZip, eFrz, eShr, eComp, sFor, DD.gSub, gIx, gLt, gLe, gGt, gGe, lstOf, tupOf, seqOf, isStr, isLst, tyN, kinD, truD, DD.isNon, gIs, gIsNot, wipeR, noOwn, bYes, sStore, sApp, sOwn, kLen, kAbs, kMax, kMin, kStr, eLam, sTry, hdl, HD.inn, HD.outE, HD.fin, noHnd, eThk, eIsE, fCat, Fare_names, sare_names, h, kAll, bs_map, e2, is_ascending]
  | false =>
    have e2 : (l.map isNm).all id = false := by rw [List.all_map]; exact e
    simp [runB, runT, sSeq, sIf, sRet, sRetN, sBind, sSet, sExpr, sNext, sPass, eVar, eBor, eC, eBin, eTest, eTru, eNot, eAnd, eOr, eIf, eNotV, eAndV, eOrV, eChain, aSeq, aNil, aCons, eTup, eLst, eCall, eFn, eMeth, eSl, oNone, oSome, eIsi, bOf, iOf, sRaise, sPar, aBind, sTg, bName, bNil, bCons, bTup, iAny, iRange1, DD.iZip, eFrz, eShr, eComp, sFor, DD.gSub, gIx, gLt, gLe, gGt, gGe, lstOf, tupOf, seqOf, isStr, isLst, tyN, kinD, truD, DD.isNon, gIs, gIsNot, wipeR, noOwn, bYes, sStore, sApp, sOwn, kLen, kAbs, kMax, kMin, kStr, eLam, sTry, hdl, HD.inn, HD.outE, HD.fin, noHnd, eThk, eIsE, fCat, Fare_names, sare_names, h, kAll, bs_map, e2]
/-- labels as the law draws them -/
structure Good (l : List Str) : Prop where
  pos : 1 ≤ l.length
  few : l.length ≤ 12
  nms : ∀ w ∈ l, isNm w = true
  asc : asc l = true
theorem require_labels (M : Mem) {l : List Str} (g : Good l) : Frequire_labels [.tup (l.map .str)] M = .ok .non M := by
  have e : l.all isNm = true := List.all_eq_true.mpr g.nms
  have h1 : (1 : Int) ≤ (l.length : Nat) := by have := g.pos; omega
  have h2 : ((l.length : Nat) : Int) ≤ 12 := by have := g.few; omega
  have h3 : 1 ≤ l.length := g.pos
  have k : Fis_labels [.tup (l.map .str)] M = .ok (.bl true) M := by
    simp [runB, runT, sSeq, sIf, sRet, sRetN, sBind, sSet, sExpr, sNext, sPass, eVar, eBor, eC, eBin, eTest, eTru, eNot, eAnd, eOr, eIf, eNotV, eAndV, eOrV, eChain, aSeq, aNil, aCons, eTup, eLst, eCall, eFn, eMeth, eSl, oNone, oSome, eIsi, bOf, iOf, sRaise, sPar, aBind, sTg, bName, bNil, bCons, bTup, iAny, iRange1, DD.iZip, eFrz, eShr, eComp, sFor, DD.gSub, gIx, gLt, gLe, gGt, gGe, lstOf, tupOf, seqOf, isStr, isLst, tyN, kinD, truD, DD.isNon, gIs, gIsNot, wipeR, noOwn, bYes, sStore, sApp, sOwn, kLen, kAbs, kMax, kMin, kStr, eLam, sTry, hdl, HD.inn, HD.outE, HD.fin, noHnd, eThk, eIsE, fCat, Fis_labels, sis_labels, are_names, e, g.asc, h1, h2, h3]
  simp [runB, runT, sSeq, sIf, sRet, sRetN, sBind, sSet, sExpr, sNext, sPass, eVar, eBor, eC, eBin, eTest, eTru, eNot, eAnd, eOr, eIf, eNotV, eAndV, eOrV, eChain, aSeq, aNil, aCons, eTup, eLst, eCall, eFn, eMeth, eSl, oNone, oSome, eIsi, bOf, iOf, sRaise, sPar, aBind, sTg, bName, bNil, bCons, bTup, iAny, iRange1, DD.iZip, eFrz, eShr, eComp, sFor, DD.gSub, gIx, gLt, gLe, gGt, gGe, lstOf, tupOf, seqOf, isStr, isLst, tyN, kinD, truD, DD.isNon, gIs, gIsNot, wipeR, noOwn, bYes, sStore, sApp, sOwn, kLen, kAbs, kMax, kMin, kStr, eLam, sTry, hdl, HD.inn, HD.outE, HD.fin, noHnd, eThk, eIsE, fCat, Frequire_labels, srequire_labels, k]
theorem is_word (M : Mem) (l ws : List Str) : Fis_word [.tup (l.map .str), .tup (ws.map .str)] M = .ok (.bl (ws.all fun w => decide (w ∈ l))) M := by
  have h : ∀ ρ : Sl, ρ.length = 3 → ρ[0]? = some (.val (.tup (l.map .str))) → compL (bName 2) bYes (eAndV (eIsi "str" (eBor 2)) (eBin gIn (eBor 2) (eBor 0))) ρ (ws.map .str) [] M = .ok (ws.map fun c => .bl (decide (c ∈ l))) M := fun ρ hρ h0 =>
    comp_strs ws fun c hc => ⟨ρ.set 2 (.val (.str c)), rfl, by
      have a1 : (ρ.set 2 (.val (.str c)))[2]? = some (.val (.str c)) := by rw [List.getElem?_set_self (by omega)]
      have a2 : (ρ.set 2 (.val (.str c)))[0]? = some (.val (.tup (l.map .str))) := by rw [List.getElem?_set_ne (by decide), h0]
      simp [runB, runT, sSeq, sIf, sRet, sRetN, sBind, sSet, sExpr, sNext, sPass, eVar, eBor, eC, eBin, eTest, eTru, eNot, eAnd, eOr, eIf, eNotV, eAndV, eOrV, eChain, aSeq, aNil, aCons, eTup, eLst, eCall, eFn, eMeth, eSl, oNone, oSome, eIsi, bOf, iOf, sRaise, sPar, aBind, sTg, bName, bNil, bCons, bTup, iAny, iRange1, DD.iZip, eFrz, eShr, eComp, sFor, DD.gSub, gIx, gLt, gLe, gGt, gGe, lstOf, tupOf, seqOf, isStr, isLst, tyN, kinD, truD, DD.isNon, gIs, gIsNot, wipeR, noOwn, bYes, sStore, sApp, sOwn, kLen, kAbs, kMax, kMin, kStr, eLam, sTry, hdl, HD.inn, HD.outE, HD.fin, noHnd, eThk, eIsE, fCat, a1, a2, in_tup]⟩
  simp [runB, runT, sSeq, sIf, sRet, sRetN, sBind, sSet, sExpr, sNext, sPass, eVar, eBor, eC, eBin, eTest, eTru, eNot, eAnd, eOr, eIf, eNotV, eAndV, eOrV, eChain, aSeq, aNil, aCons, eTup, eLst, eCall, eFn, eMeth, eSl, oNone, oSome, eIsi, bOf, iOf, sRaise, sPar, aBind, sTg, bName, bNil, bCons, bTup, iAny, iRange1, DD.iZip, eFrz, eShr, eComp, sFor, DD.gSub, gIx, gLt, gLe, gGt, gGe, lstOf, tupOf, seqOf, isStr, isLst, tyN, kinD, truD, DD.isNon, gIs, gIsNot, wipeR, noOwn, bYes, sStore, sApp, sOwn, kLen, kAbs, kMax, kMin, kStr, eLam, sTry, hdl, HD.inn, HD.outE, HD.fin, noHnd, eThk, eIsE, fCat, Fis_word, sis_word, h, kAll, bs_map, Function.comp_def]
/-! ### stacks as texts -/
theorem format_stack (M : Mem) {l ws : List Str} (g : Good l) (h : Sm ws) (hw : ∀ w ∈ ws, w ∈ l) : Fformat_stack [.tup (l.map .str), .tup (ws.map .str)] M = .ok (.str (sp ws)) M := by
  have e : (ws.all fun w => decide (w ∈ l)) = true := List.all_eq_true.mpr fun w hm => decide_eq_true (hw w hm)
  simp [runB, runT, sSeq, sIf, sRet, sRetN, sBind, sSet, sExpr, sNext, sPass, eVar, eBor, eC, eBin, eTest, eTru, eNot, eAnd, eOr, eIf, eNotV, eAndV, eOrV, eChain, aSeq, aNil, aCons, eTup, eLst, eCall, eFn, eMeth, eSl, oNone, oSome, eIsi, bOf, iOf, sRaise, sPar, aBind, sTg, bName, bNil, bCons, bTup, iAny, iRange1, DD.iZip, eFrz, eShr, eComp, sFor, DD.gSub, gIx, gLt, gLe, gGt, gGe, lstOf, tupOf, seqOf, isStr, isLst, tyN, kinD, truD, DD.isNon, gIs, gIsNot, wipeR, noOwn, bYes, sStore, sApp, sOwn, kLen, kAbs, kMax, kMin, kStr, eLam, sTry, hdl, HD.inn, HD.outE, HD.fin, noHnd, eThk, eIsE, fCat, Fformat_stack, sformat_stack, require_labels M g, is_word, e, parts_text M h]
theorem parse_stack (M : Mem) {l : List Str} (g : Good l) {s : Str} (hs : s.length ≤ 10000) : Fparse_stack [.tup (l.map .str), .str s] M =
    if 10 ∈ ch s ∨ ¬ ∀ w ∈ un (Txt.split s " "), w ∈ l then .exc "ParseError" [] M else .ok (.tup ((un (Txt.split s " ")).map .str)) M := by
  have hp := parts_of M hs
  by_cases q : 10 ∈ ch s
  · rw [if_pos q] at hp
    rw [if_pos (.inl q)]
    simp [runB, runT, sSeq, sIf, sRet, sRetN, sBind, sSet, sExpr, sNext, sPass, eVar, eBor, eC, eBin, eTest, eTru, eNot, eAnd, eOr, eIf, eNotV, eAndV, eOrV, eChain, aSeq, aNil, aCons, eTup, eLst, eCall, eFn, eMeth, eSl, oNone, oSome, eIsi, bOf, iOf, sRaise, sPar, aBind, sTg, bName, bNil, bCons, bTup, iAny, iRange1, DD.iZip, eFrz, eShr, eComp, sFor, DD.gSub, gIx, gLt, gLe, gGt, gGe, lstOf, tupOf, seqOf, isStr, isLst, tyN, kinD, truD, DD.isNon, gIs, gIsNot, wipeR, noOwn, bYes, sStore, sApp, sOwn, kLen, kAbs, kMax, kMin, kStr, eLam, sTry, hdl, HD.inn, HD.outE, HD.fin, noHnd, eThk, eIsE, fCat, Fparse_stack, sparse_stack, require_labels M g, hp]
  · rw [if_neg q] at hp
    by_cases q2 : ∀ w ∈ un (Txt.split s " "), w ∈ l
    · have e : ((un (Txt.split s " ")).all fun w => decide (w ∈ l)) = true := List.all_eq_true.mpr fun w hm => decide_eq_true (q2 w hm)
      rw [if_neg (fun z => z.elim q (fun z => z q2))]
      simp [runB, runT, sSeq, sIf, sRet, sRetN, sBind, sSet, sExpr, sNext, sPass, eVar, eBor, eC, eBin, eTest, eTru, eNot, eAnd, eOr, eIf, eNotV, eAndV, eOrV, eChain, aSeq, aNil, aCons, eTup, eLst, eCall, eFn, eMeth, eSl, oNone, oSome, eIsi, bOf, iOf, sRaise, sPar, aBind, sTg, bName, bNil, bCons, bTup, iAny, iRange1, DD.iZip, eFrz, eShr, eComp, sFor, DD.gSub, gIx, gLt, gLe, gGt, gGe, lstOf, tupOf, seqOf, isStr, isLst, tyN, kinD, truD, DD.isNon, gIs, gIsNot, wipeR, noOwn, bYes, sStore, sApp, sOwn, kLen, kAbs, kMax, kMin, kStr, eLam, sTry, hdl, HD.inn, HD.outE, HD.fin, noHnd, eThk, eIsE, fCat, Fparse_stack, sparse_stack, require_labels M g, hp, parts_in, is_word, e]
    · have e : ((un (Txt.split s " ")).all fun w => decide (w ∈ l)) = false := by
        rw [← Bool.not_eq_true, List.all_eq_true]
        exact fun z => q2 fun w hm => of_decide_eq_true (z w hm)
      rw [if_pos (.inr q2)]
      simp [runB, runT, sSeq, sIf, sRet, sRetN, sBind, sSet, sExpr, sNext, sPass, eVar, eBor, eC, eBin, eTest, eTru, eNot, eAnd, eOr, eIf, eNotV, eAndV, eOrV, eChain, aSeq, aNil, aCons, eTup, eLst, eCall, eFn, eMeth, eSl, oNone, oSome, eIsi, bOf, iOf, sRaise, sPar, aBind, sTg, bName, bNil, bCons, bTup, iAny, iRange1, DD.iZip, eFrz, eShr, eComp, sFor, DD.gSub, gIx, gLt, gLe, gGt, gGe, lstOf, tupOf, seqOf, isStr, isLst, tyN, kinD, truD, DD.isNon, gIs, gIsNot, wipeR, noOwn, bYes, sStore, sApp, sOwn, kLen, kAbs, kMax, kMin, kStr, eLam, sTry, hdl, HD.inn, HD.outE, HD.fin, noHnd, eThk, eIsE, fCat, Fparse_stack, sparse_stack, require_labels M g, hp, parts_in, is_word, e]
/-! ### what is told -/
theorem met_told {th : Mem → R D} {M M' : Mem} {d : D} (h : th M = .ok d M') : G_law_met th M = .ok (.lst [.str "told", d]) M' := by
  simp [runB, runT, sSeq, sIf, sRet, sRetN, sBind, sSet, sExpr, sNext, sPass, eVar, eBor, eC, eBin, eTest, eTru, eNot, eAnd, eOr, eIf, eNotV, eAndV, eOrV, eChain, aSeq, aNil, aCons, eTup, eLst, eCall, eFn, eMeth, eSl, oNone, oSome, eIsi, bOf, iOf, sRaise, sPar, aBind, sTg, bName, bNil, bCons, bTup, iAny, iRange1, DD.iZip, eFrz, eShr, eComp, sFor, DD.gSub, gIx, gLt, gLe, gGt, gGe, lstOf, tupOf, seqOf, isStr, isLst, tyN, kinD, truD, DD.isNon, gIs, gIsNot, wipeR, noOwn, bYes, sStore, sApp, sOwn, kLen, kAbs, kMax, kMin, kStr, eLam, sTry, hdl, HD.inn, HD.outE, HD.fin, noHnd, eThk, eIsE, fCat, G_law_met, s_law_met, h]
theorem x1 : exm_TooLarge "ParseError" = some false := by decide +kernel
theorem x2 : exm_PileError "ParseError" = some true := by decide +kernel
theorem x3 : sub_InvalidLabels "ParseError" = some false := by decide +kernel
theorem x4 : sub_InvalidStack "ParseError" = some false := by decide +kernel
theorem x5 : sub_InvalidRule "ParseError" = some false := by decide +kernel
theorem x6 : sub_InvalidWires "ParseError" = some false := by decide +kernel
theorem x7 : sub_InvalidModule "ParseError" = some false := by decide +kernel
theorem x8 : sub_InvalidInterface "ParseError" = some false := by decide +kernel
theorem x9 : sub_ParseError "ParseError" = some true := by decide +kernel
theorem met_parse {th : Mem → R D} {M M' : Mem} (h : th M = .exc "ParseError" [] M') : G_law_met th M = .ok (.lst [.str "parse"]) M' := by
  have hs : 6 < sizeLine := by decide
  have hs2 : 6 ≤ sizeLine := by decide
  simp [runB, runT, sSeq, sIf, sRet, sRetN, sBind, sSet, sExpr, sNext, sPass, eVar, eBor, eC, eBin, eTest, eTru, eNot, eAnd, eOr, eIf, eNotV, eAndV, eOrV, eChain, aSeq, aNil, aCons, eTup, eLst, eCall, eFn, eMeth, eSl, oNone, oSome, eIsi, bOf, iOf, sRaise, sPar, aBind, sTg, bName, bNil, bCons, bTup, iAny, iRange1, DD.iZip, eFrz, eShr, eComp, sFor, DD.gSub, gIx, gLt, gLe, gGt, gGe, lstOf, tupOf, seqOf, isStr, isLst, tyN, kinD, truD, DD.isNon, gIs, gIsNot, wipeR, noOwn, bYes, sStore, sApp, sOwn, kLen, kAbs, kMax, kMin, kStr, eLam, sTry, hdl, HD.inn, HD.outE, HD.fin, noHnd, eThk, eIsE, fCat, G_law_met, s_law_met, h, x1, x2, x3, x4, x5, x6, x7, x8, x9, hs, hs2, gEq, List.findIdx?_cons, mCount, mIndex, plainD, cln, dep, eqv, atI, ixN]
end K83

set_option Elab.async false
set_option linter.all false
set_option autoImplicit false
set_option maxRecDepth 100000
set_option maxHeartbeats 1000000
namespace K83
open PySem PySem.Spec L2 DD
/-! ### loops -/
theorem forL_inv {bind : Sl → D → Option Sl} {body : SS} {l : List D} (I : Nat → Sl → Mem → Prop) (step : ∀ (i : Nat) (d : D) (ρ : Sl) (M : Mem), l[i]? = some d → I i ρ M → ∃ ρ1, bind ρ d = some ρ1 ∧ ∃ ρ' M', body ρ1 M = .nx ρ' M' ∧ I (i + 1) ρ' M') :
    ∀ (k i : Nat) (ρ : Sl) (M : Mem), l.length = i + k → I i ρ M → ∃ ρ' M', forL bind body (l.drop i) ρ M = .nx ρ' M' ∧ I l.length ρ' M'
  | 0, i, ρ, M, hk, h => by
    rw [List.drop_of_length_le (by omega)]
    exact ⟨ρ, M, rfl, by rw [hk]; exact h⟩
  | k + 1, i, ρ, M, hk, h => by
    have hi : i < l.length := by omega
    obtain ⟨ρ1, h1, ρ', M', h2, h3⟩ := step i l[i] ρ M (List.getElem?_eq_getElem hi) h
    obtain ⟨ρ2, M2, e, h4⟩ := forL_inv I step k (i + 1) ρ' M' (by omega) h3
    refine ⟨ρ2, M2, ?_, h4⟩
    rw [List.drop_eq_getElem_cons hi, forL, h1]
    simp only [h2]
    exact e
theorem forL_inv0 {bind : Sl → D → Option Sl} {body : SS} {l : List D} (I : Nat → Sl → Mem → Prop) {ρ : Sl} {M : Mem} (h0 : I 0 ρ M) (step : ∀ (i : Nat) (d : D) (ρ : Sl) (M : Mem), l[i]? = some d → I i ρ M → ∃ ρ1, bind ρ d = some ρ1 ∧ ∃ ρ' M', body ρ1 M = .nx ρ' M' ∧ I (i + 1) ρ' M') :
    ∃ ρ' M', forL bind body l ρ M = .nx ρ' M' ∧ I l.length ρ' M' := by
  have := forL_inv I step l.length 0 ρ M (by omega) h0
  simpa using this
theorem rng_get {n i : Nat} {d : D} (h : (rngD 0 n)[i]? = some d) : d = .int i ∧ i < n := by
  simp only [rngD, List.getElem?_map] at h
  cases q : (List.range n)[i]? with
  | none => rw [q] at h; cases h
  | some k =>
    rw [q] at h
    rw [List.getElem?_eq_some_iff] at q
    obtain ⟨h1, h2⟩ := q
    simp at h1 h2 h
    subst h2
    exact ⟨h.symm, h1⟩
theorem rng_len (n : Nat) : (rngD 0 n).length = n := by simp [rngD]
/-! ### one sign after another -/
theorem signs_of {A : List Nat} : ∀ {l : List D}, (∀ y ∈ l, ∃ c ∈ A, y = D.str ⟨#[c]⟩) → ∃ cs : List Nat, l = cs.map (fun c => D.str ⟨#[c]⟩) ∧ ∀ c ∈ cs, c ∈ A
  | [], _ => ⟨[], rfl, by simp⟩
  | y :: l, h => by
    obtain ⟨c, hc, rfl⟩ := h y List.mem_cons_self
    obtain ⟨cs, rfl, h2⟩ := signs_of (l := l) fun z hz => h z (List.mem_cons_of_mem _ hz)
    exact ⟨c :: cs, rfl, fun x hx => by
      rcases List.mem_cons.mp hx with rfl | hx
      · exact hc
      · exact h2 x hx⟩
theorem ch_app (a b : Str) : ch (a ++ b) = ch a ++ ch b := by
  show (a.cps ++ b.cps).toList = _
  simp
theorem join_signs : ∀ cs : List Nat, ch (Str.join "" (cs.map fun c => (⟨#[c]⟩ : Str))) = cs
  | [] => rfl
  | [c] => rfl
  | c :: d :: cs => by
    have ih := join_signs (d :: cs)
    show ch ((⟨#[c]⟩ : Str) ++ "" ++ Str.join "" ((d :: cs).map fun c => (⟨#[c]⟩ : Str))) = _
    rw [ch_app, ch_app, ih]
    rfl
theorem ss_signs (cs : List Nat) : ssOf (cs.map fun c => D.str ⟨#[c]⟩) = some (cs.map fun c => (⟨#[c]⟩ : Str)) := by
  have := ss_map (cs.map fun c => (⟨#[c]⟩ : Str))
  simpa [Function.comp_def] using this
theorem sum_signs : ∀ cs : List Nat, ((cs.map fun c => (⟨#[c]⟩ : Str)).map (·.length)).sum = cs.length
  | [] => rfl
  | c :: cs => by
    have ih := sum_signs cs
    simp only [List.map_cons, List.sum_cons, List.length_cons, ih]
    show 1 + _ = _
    omega
theorem join_empty (M : Mem) {cs : List Nat} (h : cs.length ≤ 1000) : ∃ s : Str, mJoin M (.str "") [.lst (cs.map fun c => D.str ⟨#[c]⟩)] = some (.str s) ∧ ch s = cs := by
  refine ⟨Txt.join "" (cs.map fun c => (⟨#[c]⟩ : Str)), ?_, by rw [tj, join_signs]⟩
  have hs : sizeLine = 16777216 := sizeLine_eq
  have e : (Txt.join "" (cs.map fun c => (⟨#[c]⟩ : Str))).length = cs.length := by rw [len_ch, tj, join_signs]
  have e2 : ("" : Str).length = 0 := rfl
  simp only [mJoin, seqOf, lstOf, Option.bind_some, ss_signs]
  rw [if_pos]
  rw [sum_signs, e, e2]
  omega
def abc : List Nat := [97, 98, 99]
theorem ix_abc {M : Mem} {r : Int} (h0 : 0 ≤ r) (h1 : r < 3) : ∃ c ∈ abc, gIx M (.str "abc") (.int r) = some (.str ⟨#[c]⟩) := by
  have : r = 0 ∨ r = 1 ∨ r = 2 := by omega
  rcases this with rfl | rfl | rfl
  · exact ⟨97, by decide, rfl⟩
  · exact ⟨98, by decide, rfl⟩
  · exact ⟨99, by decide, rfl⟩
theorem letters {k : Nat} {M : Mem} (h : St k M) {t : Int} (h0 : 0 ≤ t) (h1 : t ≤ 100) : ∃ s M', F_law_letters [.ref k, .int t] M = .ok (.str s) M' ∧ (ch s).length = t.toNat ∧ (∀ c ∈ ch s, c ∈ abc) ∧ St k M' := by
  have key : ∀ ρ : Sl, ρ.length = 3 → ρ[0]? = some (.val (.ref k)) → ∃ l' M', compL (bName 2) bYes (eBin gIx (eC (.str "abc")) (eFn F_law_draw [(eVar 0), (eC (.int 3))])) ρ (rngD 0 t.toNat) [] M = .ok ([] ++ l') M' ∧ l'.length = (rngD 0 t.toNat).length ∧ (∀ y ∈ l', ∃ c ∈ abc, y = D.str ⟨#[c]⟩) ∧ St k M' := fun ρ hρ hr =>
    compL_ex (I := St k) (rngD 0 t.toNat) [] M (fun x hx M i => by
      obtain ⟨r, M1, e, r0, r1, s1⟩ := draw (t := 3) i (by decide) (by decide)
      obtain ⟨c, hc, e2⟩ := ix_abc (M := M1) r0 r1
      refine ⟨ρ.set 2 (.val x), .str ⟨#[c]⟩, M1, rfl, ?_, ⟨c, hc, rfl⟩, s1⟩
      have a0 : (ρ.set 2 (.val x))[0]? = some (.val (.ref k)) := by rw [List.getElem?_set_ne (by decide), hr]
      simp only [eBin, eC, eFn, aSeq, aCons, aNil, eVar, R.bind_ok, a0, e, e2, ofO_some]) h
  obtain ⟨l', M', e, hl, hy, hs⟩ := key [.val (.ref k), .val (.int t), .emp] rfl rfl
  obtain ⟨cs, rfl, hcs⟩ := signs_of hy
  have hlen : cs.length = t.toNat := by rw [rng_len] at hl; simpa using hl
  obtain ⟨s, e2, hch⟩ := join_empty M' (cs := cs) (by omega)
  refine ⟨s, M', ?_, by rw [hch, hlen], by rw [hch]; exact hcs, hs⟩
  have hb : -4611686018427387904 ≤ t ∧ t ≤ 16777216 := by omega
  simp only [List.nil_append] at e
  simp [F_law_letters, s_law_letters, runB, sRet, sBind, eMeth, eC, eFrz, eComp, iRange1, aSeq, aCons, aNil, eBor, hb, noOwn, wipeR, e, isStr, e2]
end K83

set_option Elab.async false
set_option linter.all false
set_option autoImplicit false
set_option maxRecDepth 100000
set_option maxHeartbeats 1000000
namespace K83
open PySem PySem.Spec L2 DD
/-! ### names -/
/-- the j-th name: its own sign stands in it once, among signs of abc -/
structure It (j : Nat) (s : Str) : Prop where
  has : 100 + j ∈ ch s
  only : ∀ c ∈ ch s, c ∈ abc ∨ c = 100 + j
  few : s.length ≤ 8
theorem It.nm {j : Nat} {s : Str} (h : It j s) (hj : j < 12) : isNm s = true := by
  have h1 : 1 ≤ s.length := by
    rw [len_ch]
    exact List.length_pos_of_mem h.has
  have h2 : ((ch s).all fun c => decide (c ∈ lets)) = true := List.all_eq_true.mpr fun c hc => by
    have key : ∀ c, c < 127 → 97 ≤ c → c ≤ 122 → decide (c ∈ lets) = true := by decide +kernel
    rcases h.only c hc with q | q
    · have : c = 97 ∨ c = 98 ∨ c = 99 := by simpa [abc] using q
      exact key c (by omega) (by omega) (by omega)
    · exact key c (by omega) (by omega) (by omega)
  simp [isNm, h1, h.few, h2]
theorem It.ne {i j : Nat} {s t : Str} (h : It i s) (g : It j t) (hij : i ≠ j) : s ≠ t := fun e => by
  subst e
  rcases g.only _ h.has with q | q
  · have : 100 + i = 97 ∨ 100 + i = 98 ∨ 100 + i = 99 := by simpa [abc] using q
    omega
  · omega
theorem asc_of : ∀ {l : List Str}, l.Pairwise (fun a b => leS a b = true) → l.Nodup → asc l = true
  | [], _, _ => rfl
  | [a], _, _ => rfl
  | a :: b :: r, h, n => by
    have ih := asc_of (l := b :: r) (List.pairwise_cons.mp h).2 (List.nodup_cons.mp n).2
    have h1 : leS a b = true := (List.pairwise_cons.mp h).1 b List.mem_cons_self
    have h2 : a ≠ b := fun z => (List.nodup_cons.mp n).1 (z ▸ List.mem_cons_self)
    have h3 : ltS a b = true := by
      rw [leS_iff] at h1
      refine decide_eq_true ?_
      rcases List.le_iff_lt_or_eq.mp h1 with q | q
      · exact q
      · exact absurd (Str.eq_of q) h2
    simp only [asc, adj, List.all_cons, id, h3, Bool.true_and] at *
    exact ih
theorem ix_def {M : Mem} {j : Nat} (h : j < 12) : gIx M (.str "defghijklmno") (.int j) = some (.str ⟨#[100 + j]⟩) := by
  have key : ∀ j : Nat, j < 12 → atI (ch "defghijklmno") (j : Int) = some (100 + j) := by decide +kernel
  show (atI (ch "defghijklmno") (j : Int)).map (fun c => D.str ⟨#[c]⟩) = _
  rw [key j h]; rfl
theorem add_str (M : Mem) {a b : Str} (h : a.length + b.length ≤ 16777216) : gAdd M (.str a) (.str b) = some (.str (a ++ b)) := by
  have hs : sizeLine = 16777216 := sizeLine_eq
  simp only [gAdd, sz]
  rw [if_pos (by omega)]
theorem ix4 {M : Mem} {a b c d : Int} {r : Int} (h0 : 0 ≤ r) (h1 : r < 4) : ∃ x, x ∈ [a, b, c, d] ∧ gIx M (.lst [.int a, .int b, .int c, .int d]) (.int r) = some (.int x) := by
  have : r = 0 ∨ r = 1 ∨ r = 2 ∨ r = 3 := by omega
  rcases this with rfl | rfl | rfl | rfl
  · exact ⟨a, by simp, rfl⟩
  · exact ⟨b, by simp, rfl⟩
  · exact ⟨c, by simp, rfl⟩
  · exact ⟨d, by simp, rfl⟩
/-- found so far -/
structure Fo (k i : Nat) (t : Int) (ρ : Sl) (M : Mem) : Prop where
  st : St k M
  sl : ∃ (fs : List Str) (c d e : SV), ρ = [.val (.ref k), .val (.int t), .own (fs.map .str), c, d, e] ∧ fs.length = i ∧ ∀ (j : Nat) (s : Str), fs[j]? = some s → It j s
theorem names_step {k i : Nat} {t : Int} {d : D} {ρ : Sl} {M : Mem} (hi : i < 12) (hd : d = .int i) (h : Fo k i t ρ M) : ∃ ρ1, bName 3 ρ d = some ρ1 ∧ ∃ ρ' M', (sSeq (sSet 4 (eFn F_law_letters [(eVar 0), (eBin gIx (eLst [(eC (.int 0)), (eC (.int 0)), (eC (.int 1)), (eC (.int 3))]) (eFn F_law_draw [(eVar 0), (eC (.int 4))]))]))
  (sSeq (sSet 5 (eFn F_law_letters [(eVar 0), (eBin gIx (eLst [(eC (.int 0)), (eC (.int 0)), (eC (.int 1)), (eC (.int 4))]) (eFn F_law_draw [(eVar 0), (eC (.int 4))]))]))
  (sApp 2 (eBin gAdd (eBin gAdd (eBor 4) (eBin gIx (eC (.str "defghijklmno")) (eBor 3))) (eBor 5))))) ρ1 M = .nx ρ' M' ∧ Fo k (i + 1) t ρ' M' := by
  obtain ⟨hs, fs, c, d', e', rfl, hl, hit⟩ := h
  subst hd
  refine ⟨_, rfl, ?_⟩
  obtain ⟨r, M1, e1, r0, r1, s1⟩ := draw (t := 4) hs (by decide) (by decide)
  obtain ⟨x, hx, e2⟩ := ix4 (M := M1) (a := 0) (b := 0) (c := 1) (d := 3) r0 r1
  have hx0 : 0 ≤ x ∧ x ≤ 3 := by
    have : x = 0 ∨ x = 1 ∨ x = 3 := by simpa using hx
    omega
  obtain ⟨a, M2, e3, la, ca, s2⟩ := letters s1 hx0.1 (by omega)
  obtain ⟨r', M3, e4, r0', r1', s3⟩ := draw (t := 4) s2 (by decide) (by decide)
  obtain ⟨y, hy, e5⟩ := ix4 (M := M3) (a := 0) (b := 0) (c := 1) (d := 4) r0' r1'
  have hy0 : 0 ≤ y ∧ y ≤ 4 := by
    have : y = 0 ∨ y = 1 ∨ y = 4 := by simpa using hy
    omega
  obtain ⟨b, M4, e6, lb, cb, s4⟩ := letters s3 hy0.1 (by omega)
  have la' : a.length ≤ 3 := by rw [len_ch, la]; omega
  have lb' : b.length ≤ 4 := by rw [len_ch, lb]; omega
  have l1 : (⟨#[100 + i]⟩ : Str).length = 1 := rfl
  have g1 : gAdd M4 (.str a) (.str ⟨#[100 + i]⟩) = some (.str (a ++ ⟨#[100 + i]⟩)) := add_str M4 (by omega)
  have g2 : gAdd M4 (.str (a ++ ⟨#[100 + i]⟩)) (.str b) = some (.str (a ++ ⟨#[100 + i]⟩ ++ b)) := add_str M4 (by rw [strLen_append]; omega)
  have hsz : fs.length < sizeLine := by have : sizeLine = 16777216 := sizeLine_eq; omega
  refine ⟨_, M4, ?_, s4, fs ++ [a ++ ⟨#[100 + i]⟩ ++ b], .val (.int i), .val (.str a), .val (.str b), rfl, by simp [hl], fun j s hj => ?_⟩
  · simp [sSeq, sSet, sBind, eFn, aSeq, aCons, aNil, eVar, eBor, eBin, eLst, eC, sApp, e1, e2, e3, e4, e5, e6, ix_def hi, g1, g2, hsz]
  · by_cases q : j < fs.length
    · rw [List.getElem?_append_left q] at hj
      exact hit j s hj
    · rw [List.getElem?_append_right (by omega)] at hj
      have ej : j = fs.length := by
        have := (List.getElem?_eq_some_iff.mp hj).1
        simp at this; omega
      subst ej
      simp at hj
      subst hj
      rw [hl]
      refine ⟨by rw [ch_app, ch_app]; simp, fun c hc => ?_, by rw [strLen_append, strLen_append]; omega⟩
      rw [ch_app, ch_app] at hc
      simp only [List.mem_append] at hc
      rcases hc with (hc | hc) | hc
      · exact .inl (ca c hc)
      · exact .inr (by simpa using hc)
      · exact .inl (cb c hc)
theorem names {k : Nat} {M : Mem} (h : St k M) {n : Nat} (h0 : 1 ≤ n) (h1 : n ≤ 12) : ∃ l M', F_law_names [.ref k, .int n] M = .ok (.tup (l.map .str)) M' ∧ Good l ∧ (∀ w ∈ l, w.length ≤ 8) ∧ l.length = n ∧ St k M' := by
  obtain ⟨ρ', M', e, h2⟩ := forL_inv0 (bind := bName 3) (body := (sSeq (sSet 4 (eFn F_law_letters [(eVar 0), (eBin gIx (eLst [(eC (.int 0)), (eC (.int 0)), (eC (.int 1)), (eC (.int 3))]) (eFn F_law_draw [(eVar 0), (eC (.int 4))]))]))
  (sSeq (sSet 5 (eFn F_law_letters [(eVar 0), (eBin gIx (eLst [(eC (.int 0)), (eC (.int 0)), (eC (.int 1)), (eC (.int 4))]) (eFn F_law_draw [(eVar 0), (eC (.int 4))]))]))
  (sApp 2 (eBin gAdd (eBin gAdd (eBor 4) (eBin gIx (eC (.str "defghijklmno")) (eBor 3))) (eBor 5)))))) (l := rngD 0 n) (fun i ρ M => Fo k i (n : Int) ρ M) (ρ := [.val (.ref k), .val (.int n), .own [], .emp, .emp, .emp]) (M := M) ⟨h, [], .emp, .emp, .emp, rfl, rfl, by simp⟩ (fun i d ρ M hd hI => by
      obtain ⟨hd, hi⟩ := rng_get hd
      exact names_step (by omega) hd hI)
  rw [rng_len] at h2
  obtain ⟨hs, fs, c, d, e', rfl, hl, hit⟩ := h2
  have hp : (sortS fs).Perm fs := List.mergeSort_perm fs leS
  have nd : fs.Nodup := by
    refine List.pairwise_iff_getElem.mpr fun i j hi hj hij => ?_
    exact (hit i _ (List.getElem?_eq_getElem hi)).ne (hit j _ (List.getElem?_eq_getElem hj)) (by omega)
  have mem : ∀ w ∈ sortS fs, ∃ j, j < 12 ∧ It j w := fun w hw => by
    obtain ⟨j, hj, e⟩ := List.getElem_of_mem (hp.mem_iff.mp hw)
    exact ⟨j, by omega, hit j w (by rw [List.getElem?_eq_getElem hj, e])⟩
  refine ⟨sortS fs, M', ?_, ⟨by rw [hp.length_eq]; omega, by rw [hp.length_eq]; omega, fun w hw => ?_, asc_of (sortS_pw fs) (hp.nodup_iff.mpr nd)⟩, fun w hw => ?_, by rw [hp.length_eq, hl], hs⟩
  · have hb : -4611686018427387904 ≤ (n : Int) ∧ (n : Int) ≤ 16777216 := by omega
    have h64 : fs.length < 64 := by omega
    have ek : kSorted M' [.lst (fs.map .str)] = some (.lst ((sortS fs).map .str)) := by
      simp only [kSorted, lstOf, Option.bind_some, ss_map]
      rw [if_pos h64]
    simp [F_law_names, s_law_names, runB, sSeq, sOwn, aSeq, aNil, sFor, iRange1, aCons, eBor, hb, e, sRet, sBind, eCall, ek, kTuple, seqOf, lstOf]
  · obtain ⟨j, hj, it⟩ := mem w hw
    exact it.nm hj
  · obtain ⟨j, hj, it⟩ := mem w hw
    exact it.few
end K83

set_option Elab.async false
set_option linter.all false
set_option autoImplicit false
set_option maxRecDepth 100000
set_option maxHeartbeats 2000000
namespace K83
open PySem PySem.Spec L2 DD
theorem atI_get {α : Type} {l : List α} {r : Int} (h0 : 0 ≤ r) (h1 : r < l.length) : ∃ x ∈ l, atI l r = some x := by
  have hi : r.toNat < l.length := by omega
  refine ⟨l[r.toNat], List.getElem_mem hi, ?_⟩
  simp only [atI, ixN]
  rw [if_pos h0, if_pos h1]
  simp [hi]
theorem ix_strs {M : Mem} {l : List Str} {r : Int} (h0 : 0 ≤ r) (h1 : r < l.length) : ∃ x ∈ l, gIx M (.lst (l.map .str)) (.int r) = some (.str x) ∧ gIx M (.tup (l.map .str)) (.int r) = some (.str x) := by
  obtain ⟨d, hd, e⟩ := atI_get (l := l.map D.str) h0 (by simpa using h1)
  obtain ⟨x, hx, rfl⟩ := List.mem_map.mp hd
  exact ⟨x, hx, by simp [gIx, seqOf, lstOf, e], by simp [gIx, seqOf, e]⟩
theorem word {k : Nat} {M : Mem} (h : St k M) {l : List Str} (g : Good l) {n : Nat} (hn : n ≤ 100) : ∃ (ws : List Str) (M' : Mem), F_law_word [.ref k, .tup (l.map .str), .int n] M = .ok (.tup (ws.map .str)) M' ∧ ws.length ≤ n ∧ (∀ w ∈ ws, w ∈ l) ∧ St k M' := by
  obtain ⟨r, M1, e1, r0, r1, s1⟩ := draw (t := (n : Int) + 1) h (by omega) (by omega)
  have key : ∀ ρ : Sl, ρ.length = 4 → ρ[0]? = some (.val (.ref k)) → ρ[1]? = some (.val (.tup (l.map .str))) → ∃ l' M', compL (bName 3) bYes (eBin gIx (eBor 1) (eFn F_law_draw [(eVar 0), (eCall kLen [(eBor 1)])])) ρ (rngD 0 r.toNat) [] M1 = .ok ([] ++ l') M' ∧ l'.length = (rngD 0 r.toNat).length ∧ (∀ y ∈ l', ∃ w ∈ l, y = D.str w) ∧ St k M' := fun ρ hρ hr hr1 =>
    compL_ex (I := St k) (rngD 0 r.toNat) [] M1 (fun x hx M i => by
      have g1 := g.pos
      have g2 := g.few
      obtain ⟨q, M2, e, q0, q1, s2⟩ := draw (t := (l.length : Nat)) i (by omega) (by omega)
      obtain ⟨w, hw, _, e2⟩ := ix_strs (M := M2) (l := l) q0 q1
      refine ⟨ρ.set 3 (.val x), .str w, M2, rfl, ?_, ⟨w, hw, rfl⟩, s2⟩
      have a0 : (ρ.set 3 (.val x))[0]? = some (.val (.ref k)) := by rw [List.getElem?_set_ne (by decide), hr]
      have a1 : (ρ.set 3 (.val x))[1]? = some (.val (.tup (l.map .str))) := by rw [List.getElem?_set_ne (by decide), hr1]
      have kl : kLen M [.tup (l.map .str)] = some (.int (l.length : Nat)) := by simp [kLen, seqOf]
      simp only [eBin, eBor, eFn, aSeq, aCons, aNil, eVar, eCall, R.bind_ok, a0, a1, kl, e, e2, ofO_some]) s1
  obtain ⟨l', M', e, hl, hy, hs⟩ := key [.val (.ref k), .val (.tup (l.map .str)), .val (.int n), .emp] rfl rfl rfl
  have ex : ∀ {l' : List D}, (∀ y ∈ l', ∃ w ∈ l, y = D.str w) → ∃ ws : List Str, l' = ws.map .str ∧ ∀ w ∈ ws, w ∈ l := by
    intro l'
    induction l' with
    | nil => intro _; exact ⟨[], rfl, by simp⟩
    | cons y l' ih =>
      intro h
      obtain ⟨w, hw, rfl⟩ := h y List.mem_cons_self
      obtain ⟨ws, rfl, h2⟩ := ih fun z hz => h z (List.mem_cons_of_mem _ hz)
      exact ⟨w :: ws, rfl, fun x hx => by
        rcases List.mem_cons.mp hx with rfl | hx
        · exact hw
        · exact h2 x hx⟩
  obtain ⟨ws, rfl, hws⟩ := ex hy
  rw [rng_len] at hl
  have hw2 : ws.length = r.toNat := by simpa using hl
  refine ⟨ws, M', ?_, by omega, hws, hs⟩
  have hb : -4611686018427387904 ≤ r ∧ r ≤ 16777216 := by omega
  have ga : gAdd M (.int n) (.int 1) = some (.int ((n : Int) + 1)) := by simp [gAdd]
  simp only [List.nil_append] at e
  simp [F_law_word, s_law_word, runB, sRet, sBind, eCall, eC, eFrz, eComp, iRange1, aSeq, aCons, aNil, eBor, eFn, eVar, eBin, ga, e1, hb, noOwn, wipeR, e, kTuple, seqOf, lstOf]
/-! ### bent texts -/
def As (s : Str) : Prop := ∀ c ∈ ch s, c < 128
theorem As.app {a b : Str} (h : As a) (g : As b) : As (a ++ b) := fun c hc => by
  rw [ch_app] at hc
  rcases List.mem_append.mp hc with q | q
  · exact h c q
  · exact g c q
theorem As.cut {s : Str} (h : As s) (lo hi : Option Int) : As (cutS s lo hi) := fun c hc => by
  have : c ∈ ((ch s).drop (HT.sIx s.length 0 lo)).take (HT.sIx s.length s.length hi - HT.sIx s.length 0 lo) := by simpa [ch, cutS] using hc
  exact h c (List.mem_of_mem_drop (List.mem_of_mem_take this))
def sgns : List Str := [" ", "-", "0", "a", "\n", "1", "=", ".", ">", "A", "z", "9"]
theorem sgns_ok : ∀ g ∈ sgns, g.length = 1 ∧ As g := by
  intro g hg
  simp only [sgns, List.mem_cons, List.not_mem_nil, or_false] at hg
  rcases hg with rfl | rfl | rfl | rfl | rfl | rfl | rfl | rfl | rfl | rfl | rfl | rfl <;> exact ⟨rfl, by show ∀ c ∈ _, c < 128; decide +kernel⟩
theorem bent {k : Nat} {M : Mem} (h : St k M) {s : Str} (hs : s.length ≤ 2000) (ha : As s) : ∃ t M', F_law_bent [.ref k, .str s] M = .ok (.str t) M' ∧ t.length ≤ 8001 ∧ As t ∧ St k M' := by
  obtain ⟨p, M1, e1, p0, p1, s1⟩ := draw (t := (s.length : Nat) + 1) h (by omega) (by omega)
  obtain ⟨r, M2, e2, r0, r1, s2⟩ := draw (t := 12) s1 (by decide) (by decide)
  obtain ⟨g, hg, e3, _⟩ := ix_strs (M := M2) (l := sgns) r0 r1
  obtain ⟨lg, ag⟩ := sgns_ok g hg
  obtain ⟨q, M3, e4, q0, q1, s3⟩ := draw (t := 7) s2 (by decide) (by decide)
  have c1 := fun lo hi => cutS_length s lo hi
  have cA := c1 none (some p)
  have cB := c1 (some (p + 1)) none
  have cC := c1 (some p) none
  have cD := c1 (some p) (some (p + 1))
  have cE := c1 (some (p + 1)) (some (p + 2))
  have cF := c1 (some (p + 2)) none
  let ts : List Str := [cutS s none (some p) ++ cutS s (some (p + 1)) none, cutS s none (some p) ++ g ++ cutS s (some p) none, cutS s none (some p) ++ g ++ cutS s (some (p + 1)) none, s ++ g,
    g ++ s, cutS s none (some p) ++ cutS s (some (p + 1)) (some (p + 2)) ++ cutS s (some p) (some (p + 1)) ++ cutS s (some (p + 2)) none, cutS s none (some p)]
  have ht : ∀ t ∈ ts, t.length ≤ 8001 ∧ As t := fun t ht => by
    simp only [ts, List.mem_cons, List.not_mem_nil, or_false] at ht
    rcases ht with rfl | rfl | rfl | rfl | rfl | rfl | rfl
    · exact ⟨by rw [strLen_append]; omega, (ha.cut _ _).app (ha.cut _ _)⟩
    · exact ⟨by rw [strLen_append, strLen_append]; omega, ((ha.cut _ _).app ag).app (ha.cut _ _)⟩
    · exact ⟨by rw [strLen_append, strLen_append]; omega, ((ha.cut _ _).app ag).app (ha.cut _ _)⟩
    · exact ⟨by rw [strLen_append]; omega, ha.app ag⟩
    · exact ⟨by rw [strLen_append]; omega, ag.app ha⟩
    · exact ⟨by rw [strLen_append, strLen_append, strLen_append]; omega, (((ha.cut _ _).app (ha.cut _ _)).app (ha.cut _ _)).app (ha.cut _ _)⟩
    · exact ⟨by omega, ha.cut _ _⟩
  obtain ⟨t, hm, e5, _⟩ := ix_strs (M := M3) (l := ts) q0 q1
  refine ⟨t, M3, ?_, (ht t hm).1, (ht t hm).2, s3⟩
  have gA : gAdd M2 (.str (cutS s none (some p))) (.str (cutS s (some (p + 1)) none)) = _ := add_str M2 (by omega)
  have gB : gAdd M2 (.str (cutS s none (some p))) (.str g) = _ := add_str M2 (by omega)
  have gC : gAdd M2 (.str (cutS s none (some p) ++ g)) (.str (cutS s (some p) none)) = _ := add_str M2 (by rw [strLen_append]; omega)
  have gD : gAdd M2 (.str (cutS s none (some p) ++ g)) (.str (cutS s (some (p + 1)) none)) = _ := add_str M2 (by rw [strLen_append]; omega)
  have gE : gAdd M2 (.str s) (.str g) = _ := add_str M2 (by omega)
  have gF : gAdd M2 (.str g) (.str s) = _ := add_str M2 (by omega)
  have gG : gAdd M2 (.str (cutS s none (some p))) (.str (cutS s (some (p + 1)) (some (p + 2)))) = _ := add_str M2 (by omega)
  have gH : gAdd M2 (.str (cutS s none (some p) ++ cutS s (some (p + 1)) (some (p + 2)))) (.str (cutS s (some p) (some (p + 1)))) = _ := add_str M2 (by rw [strLen_append]; omega)
  have gI : gAdd M2 (.str (cutS s none (some p) ++ cutS s (some (p + 1)) (some (p + 2)) ++ cutS s (some p) (some (p + 1)))) (.str (cutS s (some (p + 2)) none)) = _ := add_str M2 (by rw [strLen_append, strLen_append]; omega)
  have g0 : ∀ M (i j : Int), gAdd M (.int i) (.int j) = some (.int (i + j)) := fun M i j => by simp [gAdd]
  have gL : ∀ M (l m : List D), l.length + m.length ≤ 100 → gAdd M (.lst l) (.lst m) = some (.lst (l ++ m)) := fun M l m h => by
    have hs : sizeLine = 16777216 := sizeLine_eq
    simp only [gAdd, lstOf, sz]
    rw [if_pos (by omega)]
  have e3' : gIx M2 (.lst [.str " ", .str "-", .str "0", .str "a", .str "\n", .str "1", .str "=", .str ".", .str ">", .str "A", .str "z", .str "9"]) (.int r) = some (.str g) := e3
  simp only [ts, List.map_cons, List.map_nil] at e5
  simp [F_law_bent, s_law_bent, runB, sSeq, sSet, sBind, sRet, sPar, aBind, eFn, eBin, eLst, eC, eBor, eVar, eCall, aSeq, aCons, aNil, eSl, oSome, oNone, iOf, gSl, kLen, g0, e1, e2, e3', e4, gA, gB, gC, gD, gE, gF, gG, gH, gI, gL, e5]
end K83

set_option Elab.async false
set_option linter.all false
set_option autoImplicit false
set_option maxRecDepth 100000
set_option maxHeartbeats 2000000
namespace K83
open PySem PySem.Spec L2 DD
theorem ne_same (M : Mem) {d : D} (h : plainD d = true) : gNe M d d = some (.bl false) := by
  simp only [gNe, h, Bool.and_self, if_true, eqv_refl, Bool.not_true]
theorem plain_two (a : Str) {d : D} (h : plainD d = true) (h2 : dep d ≤ 50) : plainD (.lst [.str a, d]) = true := by
  have := plainD_cln h
  simp only [plainD, cln, clns, this, Bool.and_self, Bool.true_and, dep, deps]
  exact decide_eq_true (by omega)
theorem plain_one (a : Str) : plainD (.lst [.str a]) = true := by
  simp [plainD, cln, clns, dep, deps]
theorem dep_tup (l : List Str) : dep (.tup (l.map .str)) = 1 := by simp [dep, dep_strs]
theorem sg_strs : ∀ {l : List Str}, (∀ w ∈ l, As w) → sgs (l.map .str) = true
  | [], _ => rfl
  | a :: l, h => by
    have h1 : sg (.str a) = true := by
      simp only [sg]
      exact List.all_eq_true.mpr fun c hc => decide_eq_true (by have := h a List.mem_cons_self c hc; omega)
    simp only [List.map_cons, sgs, h1, sg_strs fun w hw => h w (List.mem_cons_of_mem _ hw), Bool.and_self]
theorem cst_strs {B : Nat} : ∀ {l : List Str}, (∀ w ∈ l, w.length ≤ B) → csts (l.map .str) ≤ l.length * (10 * B + 4)
  | [], _ => by simp [csts]
  | a :: l, h => by
    have h1 := h a List.mem_cons_self
    have h2 := cst_strs (l := l) fun w hw => h w (List.mem_cons_of_mem _ hw)
    simp only [List.map_cons, csts, cst, List.length_cons, Nat.add_mul]
    omega
theorem As_told : As "told" := by show ∀ c ∈ _, c < 128; decide +kernel
theorem As_parse : As "parse" := by show ∀ c ∈ _, c < 128; decide +kernel
theorem sg_str {a : Str} (h : As a) : sg (.str a) = true := by
  have := sg_strs (l := [a]) (by simpa using h)
  simpa [sgs] using this
theorem repr_told (M : Mem) {d : D} (h : plainD d = true) (h2 : dep d ≤ 50) (hs : sg d = true) (hc : cst d ≤ 16000000) : kRepr M [.lst [.str "told", d]] = some (.str (showD (.lst [.str "told", d]))) := by
  have hz : sizeLine = 16777216 := sizeLine_eq
  have l : ("told" : Str).length = 4 := rfl
  refine k_repr_ok (plain_two _ h h2) (by show (sg (.str "told") && (sg d && true)) = true; rw [sg_str As_told, hs]; rfl) ?_
  simp only [cst, csts, l]
  omega
theorem repr_parse (M : Mem) : kRepr M [.lst [.str "parse"]] = some (.str (showD (.lst [.str "parse"]))) := by
  have hz : sizeLine = 16777216 := sizeLine_eq
  have l : ("parse" : Str).length = 5 := rfl
  refine k_repr_ok (plain_one _) (by show (sg (.str "parse") && true) = true; rw [sg_str As_parse]; rfl) ?_
  simp only [cst, csts, l]
  omega
theorem due_non (M : Mem) : F_law_due [.non] M = .ok (.str (showD (.lst [.str "parse"]))) M := by
  simp [runB, runT, sSeq, sIf, sRet, sRetN, sBind, sSet, sExpr, sNext, sPass, eVar, eBor, eC, eBin, eTest, eTru, eNot, eAnd, eOr, eIf, eNotV, eAndV, eOrV, eChain, aSeq, aNil, aCons, eTup, eLst, eCall, eFn, eMeth, eSl, oNone, oSome, eIsi, bOf, iOf, sRaise, sPar, aBind, sTg, bName, bNil, bCons, bTup, iAny, iRange1, DD.iZip, eFrz, eShr, eComp, sFor, DD.gSub, gIx, gLt, gLe, gGt, gGe, lstOf, tupOf, seqOf, isStr, isLst, tyN, kinD, truD, DD.isNon, gIs, gIsNot, wipeR, noOwn, bYes, sStore, sApp, sOwn, kLen, kAbs, kMax, kMin, kStr, eLam, sTry, hdl, HD.inn, HD.outE, HD.fin, noHnd, eThk, eIsE, fCat, F_law_due, s_law_due, repr_parse]
theorem due_some (M : Mem) {d : D} (hn : isNon d = false) (h : plainD d = true) (h2 : dep d ≤ 50) (hs : sg d = true) (hc : cst d ≤ 16000000) : F_law_due [d] M = .ok (.str (showD (.lst [.str "told", d]))) M := by
  have e : gIs M d .non = some (.bl false) := by simp [gIs, hn]; rfl
  simp [F_law_due, s_law_due, runB, sRet, sBind, eIf, eTest, eBin, eBor, eC, eVar, eCall, eLst, aSeq, aCons, aNil, e, bOf, repr_told M h h2 hs hc]
/-! ### split texts -/
theorem join_mem {c : Nat} (hc : c ≠ 32) : ∀ {l : List Str}, c ∈ ch (Str.join " " l) → ∃ p ∈ l, c ∈ ch p
  | [], h => by
    have : ch (Str.join " " []) = [] := rfl
    rw [this] at h; cases h
  | [x], h => ⟨x, List.mem_cons_self, h⟩
  | x :: y :: r, h => by
    have e : ch (Str.join " " (x :: y :: r)) = ch x ++ [32] ++ ch (Str.join " " (y :: r)) := by
      show ch (x ++ " " ++ Str.join " " (y :: r)) = _
      rw [ch_app, ch_app]; rfl
    rw [e] at h
    simp only [List.mem_append, List.mem_singleton] at h
    rcases h with (h | h) | h
    · exact ⟨x, List.mem_cons_self, h⟩
    · exact absurd h hc
    · obtain ⟨p, hp, q⟩ := join_mem hc h
      exact ⟨p, List.mem_cons_of_mem _ hp, q⟩
theorem split_mem {c : Nat} (hc : c ≠ 32) {s : Str} (h : c ∈ ch s) : ∃ p ∈ Txt.split s " ", c ∈ ch p := by
  have e : Str.join " " (Txt.split s " ") = s := StrLaws.join_split s " "
  rw [← e] at h
  exact join_mem hc h
theorem mem_join {c : Nat} {p : Str} : ∀ {l : List Str}, p ∈ l → c ∈ ch p → c ∈ ch (Str.join " " l)
  | [x], hp, h => by
    rcases List.mem_cons.mp hp with rfl | hp
    · exact h
    · cases hp
  | x :: y :: r, hp, h => by
    have e : ch (Str.join " " (x :: y :: r)) = ch x ++ [32] ++ ch (Str.join " " (y :: r)) := by
      show ch (x ++ " " ++ Str.join " " (y :: r)) = _
      rw [ch_app, ch_app]; rfl
    rw [e]
    rcases List.mem_cons.mp hp with rfl | hp
    · exact List.mem_append_left _ (List.mem_append_left _ h)
    · exact List.mem_append_right _ (mem_join hp h)
theorem split_sub {c : Nat} {s p : Str} (hp : p ∈ Txt.split s " ") (h : c ∈ ch p) : c ∈ ch s := by
  have e : Str.join " " (Txt.split s " ") = s := StrLaws.join_split s " "
  rw [← e]
  exact mem_join hp h
theorem split_dash : Txt.split "-" " " = [("-" : Str)] := by decide +kernel
theorem split_eq_dash {s : Str} : Txt.split s " " = [("-" : Str)] ↔ s = "-" := by
  constructor
  · intro h
    have e : Str.join " " (Txt.split s " ") = s := StrLaws.join_split s " "
    rw [h] at e
    exact e.symm
  · intro h; rw [h]; exact split_dash
theorem un_split (s : Str) : un (Txt.split s " ") = if s = "-" then [] else Txt.split s " " := by
  unfold un
  by_cases h : s = "-"
  · rw [if_pos h, if_pos (split_eq_dash.mpr h)]
  · rw [if_neg h, if_neg fun z => h (split_eq_dash.mp z)]
theorem nm_letters {w : Str} (h : isNm w = true) : ∀ c ∈ ch w, 97 ≤ c ∧ c ≤ 122 := fun c hc => by
  simp only [isNm, Bool.and_eq_true] at h
  have h2 := of_decide_eq_true (List.all_eq_true.mp h.2 c hc)
  have key : ∀ c ∈ lets, 97 ≤ c ∧ c ≤ 122 := by decide +kernel
  exact key c h2
theorem nm_len {w : Str} (h : isNm w = true) : 1 ≤ w.length ∧ w.length ≤ 8 := by
  simp only [isNm, Bool.and_eq_true, decide_eq_true_eq] at h
  exact h.1
theorem nm_as {w : Str} (h : isNm w = true) : As w := fun c hc => by have := nm_letters h c hc; omega
/-- a text with a line's end is no stack -/
theorem nl_not {l : List Str} (g : ∀ w ∈ l, isNm w = true) {s : Str} (h : 10 ∈ ch s) : ¬ ∀ w ∈ un (Txt.split s " "), w ∈ l := fun z => by
  obtain ⟨p, hp, hc⟩ := split_mem (by decide) h
  have hu : un (Txt.split s " ") = Txt.split s " " := by
    rw [un_split, if_neg]
    intro e
    subst e
    exact absurd h (by decide +kernel)
  rw [hu] at z
  have := nm_letters (g p (z p hp)) 10 hc
  omega
/-- [1 for part in parts if part not in labels] -/
theorem comp_notin {M : Mem} {l : List Str} {i : Nat} : ∀ (ws : List Str) (ρ : Sl), ρ[1]? = some (.val (.tup (l.map .str))) → i < ρ.length → i ≠ 1 → compL (bName i) (eTest (eBin gNotIn (eBor i) (eBor 1))) (eC (.int 1)) ρ (ws.map .str) [] M = .ok ((ws.filter fun w => !decide (w ∈ l)).map fun _ => .int 1) M := fun ws ρ h hi hne => by
  have := compL_filter (bind := bName i) (tst := eTest (eBin gNotIn (eBor i) (eBor 1))) (elt := eC (.int 1)) (ρ := ρ) (f := fun _ => .int 1) (p := fun d => match d with | .str w => !decide (w ∈ l) | _ => false) (M := M) (ws.map .str) [] (fun x hx => by
    obtain ⟨w, hw, rfl⟩ := List.mem_map.mp hx
    refine ⟨_, rfl, ?_, fun _ => rfl⟩
    have a1 : (ρ.set i (.val (.str w)))[i]? = some (.val (.str w)) := List.getElem?_set_self hi
    have a2 : (ρ.set i (.val (.str w)))[1]? = some (.val (.tup (l.map .str))) := by rw [List.getElem?_set_ne hne, h]
    have gn : gNotIn M (.str w) (.tup (l.map .str)) = some (.bl (!decide (w ∈ l))) := by
      simp only [gNotIn, seqOf, plain_str, plain_strs, Bool.and_self, if_true, any_strs]
    simp only [eTest, eBin, eBor, R.bind_ok, a1, a2, gn, ofO_some, bOf])
  rw [this, List.filter_map]
  simp [Function.comp_def]
theorem eq_ones (M : Mem) {α : Type} (l : List α) : gEq M (.lst (l.map fun _ => D.int 1)) (.lst []) = some (.bl (decide (l = []))) := by
  have h1 : ∀ l : List α, clns (l.map fun _ => D.int 1) = true ∧ deps (l.map fun _ => D.int 1) = 0 := fun l => by
    induction l with
    | nil => exact ⟨rfl, rfl⟩
    | cons a l ih => simp only [List.map_cons, clns, deps, cln, dep, ih.1, ih.2]; exact ⟨rfl, rfl⟩
  have p : plainD (.lst (l.map fun _ => D.int 1)) = true := by simp [plainD, cln, dep, (h1 l).1, (h1 l).2]
  have p2 : plainD (.lst []) = true := by simp [plainD, cln, clns, dep, deps]
  simp only [gEq, p, p2, Bool.and_self, if_true]
  cases l with
  | nil => rfl
  | cons a l => simp [eqv, eqvs]
end K83

set_option Elab.async false
set_option linter.all false
set_option autoImplicit false
set_option maxRecDepth 100000
set_option maxHeartbeats 2000000
namespace K83
open PySem PySem.Spec L2 DD
/-- the slots while the others are walked -/
structure Sk (k : Nat) (l ws : List Str) (t : Str) (ρ : Sl) (M : Mem) : Prop where
  st : St k M
  sl : ∃ a b c : SV, ρ = [.val (.ref k), .val (.tup (l.map .str)), .val (.tup (ws.map .str)), .val (.str t), a, b, c, .emp, .emp]
theorem split_m (M : Mem) {s : Str} (h : s.length ≤ 10000) : mSplit M (.str s) [.str " "] = some (.lst ((Txt.split s " ").map .str)) := by
  have hs : sizeLine = 16777216 := sizeLine_eq
  have h1 := split_ok s
  simp only [mSplit]
  rw [if_pos ⟨by decide +kernel, by omega, List.all_eq_true.mpr fun p hp => decide_eq_true (by have := h1.1 p hp; omega), by omega⟩]
theorem others_step {k : Nat} {l ws : List Str} {t o : Str} {ρ : Sl} {M : Mem} (g : Good l) (ho : o.length ≤ 8001) (h : Sk k l ws t ρ M) : ∃ ρ1, bName 4 ρ (.str o) = some ρ1 ∧ ∃ ρ' M', (sSeq (sSet 5 (eIf (eTest (eBin gEq (eBor 4) (eC (.str "-")))) (eTup []) (eCall kTuple [(eMeth isStr mSplit (eBor 4) [(eC (.str " "))])])))
  (sSeq (sSet 6 (eBin gEq (eFrz (eComp (iAny (eVar 5)) (bName 8) (eTest (eBin gNotIn (eBor 8) (eBor 1))) (eC (.int 1)) [8])) (eLst [])))
  (sIf (eTest (eBin gNe (eCall kRepr [(eLam G_law_met (eFn Fparse_stack [(eVar 1), (eVar 4)]))]) (eFn F_law_due [(eIf (eTru (eBor 6)) (eVar 5) (eC .non))]))) (sRet (eC (.bl false))) sNext))) ρ1 M = .nx ρ' M' ∧ Sk k l ws t ρ' M' := by
  obtain ⟨hs, a, b, c, rfl⟩ := h
  refine ⟨_, rfl, ?_⟩
  let pl := un (Txt.split o " ")
  let kn := decide ((pl.filter fun w => !decide (w ∈ l)) = [])
  have hkn : kn = true ↔ ∀ w ∈ pl, w ∈ l := by
    simp only [kn, decide_eq_true_eq, List.filter_eq_nil_iff, Bool.not_eq_true, Bool.not_eq_false', decide_eq_true_eq]
  let ρ0 : Sl := [.val (.ref k), .val (.tup (l.map .str)), .val (.tup (ws.map .str)), .val (.str t), .val (.str o), .val (.tup (pl.map .str)), c, .emp, .emp]
  have s1 : (sSet 5 (eIf (eTest (eBin gEq (eBor 4) (eC (.str "-")))) (eTup []) (eCall kTuple [(eMeth isStr mSplit (eBor 4) [(eC (.str " "))])]))) [.val (.ref k), .val (.tup (l.map .str)), .val (.tup (ws.map .str)), .val (.str t), .val (.str o), b, c, .emp, .emp] M = .nx ρ0 M := by
    have e1 := eq_str M o "-"
    have e2 := split_m M (s := o) (by omega)
    by_cases q : o = "-"
    · have e3 : pl = [] := by show un _ = []; rw [un_split, if_pos q]
      have d : decide (o = ("-" : Str)) = true := decide_eq_true q
      rw [d] at e1
      simp [sSet, sBind, eIf, eTest, eBin, eBor, eC, eTup, aSeq, aNil, aCons, e1, bOf, ρ0, e3]
    · have e3 : pl = Txt.split o " " := by show un _ = _; rw [un_split, if_neg q]
      have d : decide (o = ("-" : Str)) = false := decide_eq_false q
      rw [d] at e1
      simp [sSet, sBind, eIf, eTest, eBin, eBor, eC, eCall, eMeth, isStr, aSeq, aNil, aCons, e1, e2, bOf, ρ0, e3, kTuple, seqOf, lstOf]
  have hc := comp_notin (M := M) (l := l) (i := 8) pl [.val (.ref k), .val (.tup (l.map .str)), .val (.tup (ws.map .str)), .val (.str t), .val (.str o), .val (.tup (pl.map .str)), c, .emp, .emp] rfl (show 8 < 9 by decide) (by decide)
  have s2 : (sSet 6 (eBin gEq (eFrz (eComp (iAny (eVar 5)) (bName 8) (eTest (eBin gNotIn (eBor 8) (eBor 1))) (eC (.int 1)) [8])) (eLst []))) ρ0 M = .nx (ρ0.set 6 (.val (.bl kn))) M := by
    simp [sSet, sBind, eBin, eFrz, eComp, iAny, eVar, eLst, aSeq, aNil, ρ0, noOwn, wipeR, hc, eq_ones, kn]
  have s3 : (sIf (eTest (eBin gNe (eCall kRepr [(eLam G_law_met (eFn Fparse_stack [(eVar 1), (eVar 4)]))]) (eFn F_law_due [(eIf (eTru (eBor 6)) (eVar 5) (eC .non))]))) (sRet (eC (.bl false))) sNext) (ρ0.set 6 (.val (.bl kn))) M = .nx (ρ0.set 6 (.val (.bl kn))) M := by
    have ps := parse_stack M g (s := o) (by omega)
    cases hk : kn with
    | true =>
      have hw := hkn.mp hk
      rw [if_neg (fun z => z.elim (fun z => nl_not g.nms z hw) (fun z => z hw))] at ps
      have met := met_told (th := fun M' => eFn Fparse_stack [eVar 1, eVar 4] (ρ0.set 6 (.val (.bl true))) M') (M := M) (M' := M) (d := .tup (pl.map .str)) (by simp [eFn, aSeq, aCons, aNil, eVar, ρ0, ps, pl])
      have hl : pl.length ≤ 8002 := by
        have := (split_ok o).2
        show (un _).length ≤ _
        unfold un
        split
        · simp
        · omega
      have hsg : sg (.tup (pl.map .str)) = true := by
        show sgs _ = true
        exact sg_strs fun w hm => nm_as (g.nms w (hw w hm))
      have hcs : cst (.tup (pl.map .str)) ≤ 16000000 := by
        have := cst_strs (B := 8) (l := pl) fun w hm => (nm_len (g.nms w (hw w hm))).2
        have : pl.length * (10 * 8 + 4) ≤ 8002 * (10 * 8 + 4) := Nat.mul_le_mul_right _ hl
        show csts _ + 3 ≤ _
        omega
      have r1 := repr_told M (plain_tup pl) (by rw [dep_tup]; decide) hsg hcs
      have r2 := due_some M (d := .tup (pl.map .str)) rfl (plain_tup pl) (by rw [dep_tup]; decide) hsg hcs
      have ne := ne_same M (plain_str (showD (.lst [.str "told", .tup (pl.map .str)])))
      simp only [ρ0, List.set_cons_succ, List.set_cons_zero] at met ⊢
      simp only [sIf, eTest, eBin, eCall, aSeq, aCons, aNil, eLam, met, R.bind_ok, ofO_some, r1]
      simp [eFn, eIf, eTru, eBor, truD, eVar, aSeq, aCons, aNil, r2, ne, bOf, sNext]
    | false =>
      have hw : ¬ ∀ w ∈ pl, w ∈ l := fun z => by rw [hkn.mpr z] at hk; cases hk
      rw [if_pos (.inr hw)] at ps
      have met := met_parse (th := fun M' => eFn Fparse_stack [eVar 1, eVar 4] (ρ0.set 6 (.val (.bl false))) M') (M := M) (M' := M) (by simp [eFn, aSeq, aCons, aNil, eVar, ρ0, ps])
      have ne := ne_same M (plain_str (showD (.lst [.str "parse"])))
      simp only [ρ0, List.set_cons_succ, List.set_cons_zero] at met ⊢
      simp only [sIf, eTest, eBin, eCall, aSeq, aCons, aNil, eLam, met, R.bind_ok, ofO_some, repr_parse]
      simp [eFn, eIf, eTru, eBor, truD, eC, aSeq, aCons, aNil, due_non, ne, bOf, sNext]
  refine ⟨ρ0.set 6 (.val (.bl kn)), M, ?_, hs, .val (.str o), .val (.tup (pl.map .str)), .val (.bl kn), rfl⟩
  show sSeq _ _ [.val (.ref k), .val (.tup (l.map .str)), .val (.tup (ws.map .str)), .val (.str t), .val (.str o), b, c, .emp, .emp] M = _
  unfold sSeq
  rw [s1]
  show sSeq _ _ ρ0 M = _
  unfold sSeq
  rw [s2]
  exact s3

theorem names_as {l : List Str} (g : Good l) {ws : List Str} (h : ∀ w ∈ ws, w ∈ l) : As (sp ws) := fun c hc => by
  unfold sp at hc
  split at hc
  · exact (show ∀ c ∈ ch "-", c < 128 by decide +kernel) c hc
  · rw [tj] at hc
    by_cases q : c = 32
    · omega
    · obtain ⟨p, hp, h2⟩ := join_mem q hc
      exact nm_as (g.nms p (h p hp)) c h2
theorem sp_le {ws : List Str} {n : Nat} (h : ∀ w ∈ ws, w.length ≤ 8) (hn : ws.length ≤ n) : (sp ws).length ≤ 9 * n + 1 := by
  unfold sp
  split
  · show 1 ≤ _; omega
  · have h1 := join_len " " ws
    have h2 := sum_le h
    rw [sp_len] at h1
    rw [tj]
    split at h1 <;> omega
theorem bents {k : Nat} {M : Mem} (h : St k M) {s : Str} (hs : s.length ≤ 2000) (ha : As s) {n : Nat} (ρ : Sl) {i j : Nat} (h0 : ρ[0]? = some (.val (.ref k))) (hj : ρ[j]? = some (.val (.str s))) (h0i : i ≠ 0) (hij : i ≠ j) :
    ∃ (ts : List Str) (M' : Mem), compL (bName i) bYes (eFn F_law_bent [(eVar 0), (eVar j)]) ρ (rngD 0 n) [] M = .ok (ts.map .str) M' ∧ ts.length = n ∧ (∀ t ∈ ts, t.length ≤ 8001) ∧ St k M' := by
  obtain ⟨l', M', e, hl, hy, hs⟩ := compL_ex (bind := bName i) (elt := eFn F_law_bent [(eVar 0), (eVar j)]) (ρ := ρ) (I := St k) (Q := fun y => ∃ t : Str, y = .str t ∧ t.length ≤ 8001) (rngD 0 n) [] M (fun x hx M I => by
    obtain ⟨t, M1, e, ht, _, s1⟩ := bent I hs ha
    refine ⟨_, .str t, M1, rfl, ?_, ⟨t, rfl, ht⟩, s1⟩
    have a0 : (ρ.set i (.val x))[0]? = some (.val (.ref k)) := by rw [List.getElem?_set_ne h0i, h0]
    have a1 : (ρ.set i (.val x))[j]? = some (.val (.str s)) := by rw [List.getElem?_set_ne hij, hj]
    simp only [eFn, aSeq, aCons, aNil, eVar, R.bind_ok, a0, a1, e]) h
  have ex : ∀ {l' : List D}, (∀ y ∈ l', ∃ t : Str, y = .str t ∧ t.length ≤ 8001) → ∃ ts : List Str, l' = ts.map .str ∧ ∀ t ∈ ts, t.length ≤ 8001 := by
    intro l'
    induction l' with
    | nil => intro _; exact ⟨[], rfl, by simp⟩
    | cons y l' ih =>
      intro h
      obtain ⟨w, rfl, hw⟩ := h y List.mem_cons_self
      obtain ⟨ws, rfl, h2⟩ := ih fun z hz => h z (List.mem_cons_of_mem _ hz)
      exact ⟨w :: ws, rfl, fun x hx => by
        rcases List.mem_cons.mp hx with rfl | hx
        · exact hw
        · exact h2 x hx⟩
  obtain ⟨ts, rfl, hts⟩ := ex hy
  exact ⟨ts, M', by simpa using e, by rw [rng_len] at hl; simpa using hl, hts, hs⟩
theorem lst_get {l : List Str} {i : Nat} {d : D} (h : (l.map D.str)[i]? = some d) : ∃ s ∈ l, d = .str s := by
  rw [List.getElem?_map] at h
  cases q : l[i]? with
  | none => rw [q] at h; cases h
  | some s =>
    rw [q] at h
    exact ⟨s, List.mem_of_getElem? q, (Option.some.inj h).symm⟩
theorem cat_l (M : Mem) {l m : List Str} (h : l.length + m.length ≤ 1000) : gAdd M (.lst (l.map .str)) (.lst (m.map .str)) = some (.lst ((l ++ m).map .str)) := by
  have hs : sizeLine = 16777216 := sizeLine_eq
  simp only [gAdd, lstOf, sz, List.length_map]
  rw [if_pos (by omega), List.map_append]
theorem plain_told (a : Str) : plainD (.lst [.str "told", .str a]) = true := plain_two _ (plain_str a) (by simp [dep])
theorem stack_right {k : Nat} {M : Mem} (h : St k M) : ∃ M', F_law_stack_right [.ref k] M = .ok (.bl true) M' ∧ St k M' := by
  obtain ⟨r, M1, e1, r0, r1, s1⟩ := draw (t := 12) h (by decide) (by decide)
  obtain ⟨n, rfl⟩ : ∃ n : Nat, r = (n : Int) := ⟨r.toNat, by omega⟩
  obtain ⟨l, M2, e2, g, l8, ln, s2⟩ := names s1 (n := 1 + n) (by omega) (by omega)
  obtain ⟨ws, M3, e3, wn, wm, s3⟩ := word s2 g (n := 12) (by decide)
  have w8 : ∀ w ∈ ws, w.length ≤ 8 := fun w hw => l8 w (wm w hw)
  have sm : Sm ws := ⟨by omega, fun w hw => by have := w8 w hw; omega⟩
  have e4 := law_spelled M3 sm
  have tl := sp_le w8 wn
  have ta := names_as g wm
  let ρ : Sl := [.val (.ref k), .val (.tup (l.map .str)), .val (.tup (ws.map .str)), .val (.str (sp ws)), .emp, .emp, .emp, .emp, .emp]
  have met := met_told (th := fun M' => eFn Fformat_stack [eVar 1, eVar 2] ρ M') (M := M3) (M' := M3) (d := .str (sp ws)) (by simp [eFn, aSeq, aCons, aNil, eVar, ρ, format_stack M3 g sm wm])
  have ne := ne_same M3 (plain_told (sp ws))
  obtain ⟨ts, M4, e5, tn, tb, s4⟩ := bents s3 (s := sp ws) (by omega) ta (n := 4) ρ (i := 7) (j := 3) rfl rfl (by decide) (by decide)
  have ec := cat_l M4 (l := [sp ws, sp ws]) (m := ts) (by simp; omega)
  obtain ⟨ρ', M', e6, hk⟩ := forL_inv0 (l := ([sp ws, sp ws] ++ ts).map D.str) (fun _ ρ M => Sk k l ws (sp ws) ρ M) (ρ := ρ) (M := M4) ⟨s4, .emp, .emp, .emp, rfl⟩ (fun i d ρ M hd hI => by
    obtain ⟨o, ho, rfl⟩ := lst_get hd
    refine others_step g ?_ hI
    simp only [List.cons_append, List.nil_append, List.mem_cons] at ho
    rcases ho with rfl | rfl | ho
    · omega
    · omega
    · exact tb o ho)
  refine ⟨M', ?_, hk.st⟩
  have g0 : gAdd M1 (.int 1) (.int n) = some (.int ((1 + n : Nat) : Int)) := by simp [gAdd]
  have e3' : F_law_word [.ref k, .tup (l.map .str), .int 12] M2 = .ok (.tup (ws.map .str)) M3 := e3
  simp only [List.map_cons, List.map_nil] at ec
  simp only [ρ] at met e5 e6
  have hb : (-4611686018427387904 : Int) ≤ 4 ∧ (4 : Int) ≤ 16777216 := by decide
  have hit : iAny (eBin gAdd (eLst [(eVar 3), (eVar 3)]) (eFrz (eComp (iRange1 [(eC (.int 4))]) (bName 7) bYes (eFn F_law_bent [(eVar 0), (eVar 3)]) [7]))) [.val (.ref k), .val (.tup (l.map .str)), .val (.tup (ws.map .str)), .val (.str (sp ws)), .emp, .emp, .emp, .emp, .emp] M3 = .ok (([sp ws, sp ws] ++ ts).map D.str) M4 := by
    simp [iAny, eFrz, eComp, iRange1, eBin, eLst, eC, eVar, aSeq, aCons, aNil, noOwn, wipeR, e5, ec]
  have hfor : ∀ body, (∃ x, forL (bName 4) body (([sp ws, sp ws] ++ ts).map D.str) [.val (.ref k), .val (.tup (l.map .str)), .val (.tup (ws.map .str)), .val (.str (sp ws)), .emp, .emp, .emp, .emp, .emp] M4 = x) → sFor (iAny (eBin gAdd (eLst [(eVar 3), (eVar 3)]) (eFrz (eComp (iRange1 [(eC (.int 4))]) (bName 7) bYes (eFn F_law_bent [(eVar 0), (eVar 3)]) [7])))) (bName 4) body [.val (.ref k), .val (.tup (l.map .str)), .val (.tup (ws.map .str)), .val (.str (sp ws)), .emp, .emp, .emp, .emp, .emp] M3 = forL (bName 4) body (([sp ws, sp ws] ++ ts).map D.str) [.val (.ref k), .val (.tup (l.map .str)), .val (.tup (ws.map .str)), .val (.str (sp ws)), .emp, .emp, .emp, .emp, .emp] M4 := fun body _ => by
    unfold sFor
    rw [hit]
  have hall := (hfor _ ⟨_, rfl⟩).trans e6
  unfold F_law_stack_right s_law_stack_right
  generalize sFor _ _ _ = FB at hall ⊢
  simp only [runB, List.map_cons, List.map_nil, List.replicate, List.cons_append, List.nil_append]
  simp only [sSeq, sSet, sBind, eFn, eBin, eC, eVar, aSeq, aCons, aNil, R.bind_ok, List.getElem?_cons_zero, List.getElem?_cons_succ, List.set_cons_zero, List.set_cons_succ, e1, g0, ofO_some, e2, e3', e4]
  simp only [sIf, eTest, eBin, eLam, met, eLst, aSeq, aCons, aNil, eC, eVar, R.bind_ok, List.getElem?_cons_zero, List.getElem?_cons_succ, ne, ofO_some, bOf, sNext]
  simp [hall, sRet, sBind, eC]
end K83

set_option Elab.async false
set_option linter.all false
set_option autoImplicit false
set_option maxRecDepth 100000
set_option maxHeartbeats 2000000
namespace K83
open PySem PySem.Spec L2 DD
/-! ### whole numbers as texts -/
def dg (l : List Nat) : List Nat := match l with
  | 45 :: r => r
  | l => l
def allDg (l : List Nat) : Bool := l.all fun c => decide (c ∈ digs)
def numOk (p : Str) : Prop := dg (ch p) ≠ [] ∧ (dg (ch p)).length ≤ 400 ∧ allDg (dg (ch p)) = true
instance (p : Str) : Decidable (numOk p) := by unfold numOk; infer_instance
def numQ (p : Str) : Option Int := if numOk p then intText? p else none
theorem starts45 (p : Str) : Txt.startswith p "-" = decide ((ch p).head? = some 45) := by
  have h1 : ("-" : Str).length = 1 := rfl
  obtain ⟨⟨l⟩⟩ := p
  cases l with
  | nil => rfl
  | cons c r =>
    unfold Txt.startswith
    by_cases hc : c = 45
    · subst hc
      simp [Builtin.Str.subAt, Str.length, h1]
      rfl
    · have hd : ("-" : Str).cps = #[45] := rfl
      have e : ((⟨⟨c :: r⟩⟩ : Str).cps.extract 0 (0 + ("-" : Str).length) == ("-" : Str).cps) = false := by
        rw [hd, h1]
        apply beq_eq_false_iff_ne.mpr
        intro z
        have := congrArg Array.toList z
        simp at this
        exact hc this
      unfold Builtin.Str.subAt
      rw [e]
      have hh : ¬ (ch ⟨⟨c :: r⟩⟩).head? = some 45 := by show ¬ some c = some 45; simpa using hc
      simp [hh]
theorem cut_tail (p : Str) : ch (cutS p (some 1) none) = (ch p).tail := by
  have h1 : HT.sIx p.length 0 (some 1) = min 1 p.length := by
    have := HT.sIx_nat p.length 0 1
    simpa using this
  have h2 : HT.sIx p.length p.length none = p.length := by simp [HT.sIx]
  unfold cutS
  rw [h1, h2]
  show ((p.cps.toList.drop (min 1 p.length)).take (p.length - min 1 p.length)) = _
  rw [len_ch]
  cases h : ch p with
  | nil => show ((ch p).drop _).take _ = _; rw [h]; rfl
  | cons c r => show ((ch p).drop _).take _ = _; rw [h]; simp
theorem cut_head (p : Str) : ch (cutS p none (some 1)) = (ch p).take 1 := by
  have h1 : HT.sIx p.length p.length (some 1) = min 1 p.length := by
    have := HT.sIx_nat p.length p.length 1
    simpa using this
  have h2 : HT.sIx p.length 0 none = 0 := by simp [HT.sIx]
  unfold cutS
  rw [h1, h2]
  show ((p.cps.toList.drop 0).take (min 1 p.length - 0)) = _
  rw [len_ch]
  cases h : ch p with
  | nil => show ((ch p).drop _).take _ = _; rw [h]; rfl
  | cons c r => show ((ch p).drop _).take _ = _; rw [h]; simp
theorem eq_dash_head (p : Str) : (cutS p none (some 1) = "-") ↔ (ch p).head? = some 45 := by
  constructor
  · intro h
    have := congrArg ch h
    rw [cut_head] at this
    have e : ch "-" = [45] := rfl
    rw [e] at this
    cases q : ch p with
    | nil => rw [q] at this; cases this
    | cons c r => rw [q] at this; simp at this; simp [this]
  · intro h
    apply Str.eq_of
    show ch _ = ch "-"
    rw [cut_head]
    cases q : ch p with
    | nil => rw [q] at h; cases h
    | cons c r => rw [q] at h; simp at h; simp [h]; rfl
/-- the digits as a text -/
def dgS (p : Str) : Str := if (ch p).head? = some 45 then cutS p (some 1) none else p
theorem ch_dgS (p : Str) : ch (dgS p) = dg (ch p) := by
  unfold dgS
  cases h : ch p with
  | nil => simp [h, dg]
  | cons c r =>
    by_cases q : c = 45
    · subst q
      simp [cut_tail, h, dg]
    · have : dg (c :: r) = c :: r := by unfold dg; split <;> simp_all
      simp [h, q, this]
theorem allDg_iff {l : List Nat} (h : allDg l = true) : NumText.AllDigits l := fun c hc => by
  have key : ∀ c ∈ digs, 48 ≤ c ∧ c ≤ 57 := by decide +kernel
  exact key c (of_decide_eq_true (List.all_eq_true.mp h c hc))
theorem numOk_some {p : Str} (h : numOk p) : ∃ n, intText? p = some n ∧ p.length ≤ 401 := by
  obtain ⟨h1, h2, h3⟩ := h
  have hd := allDg_iff h3
  cases e : ch p with
  | nil => rw [e] at h1; exact absurd rfl h1
  | cons c r =>
    have hl : p.length = r.length + 1 := by rw [len_ch, e]; rfl
    by_cases q : c = 45
    · subst q
      rw [e] at h1 h2 h3 hd
      have h2' : r.length ≤ 400 := h2
      exact ⟨_, intText_neg (x := p) e hd h1 (by omega), by omega⟩
    · have d : dg (c :: r) = c :: r := by unfold dg; split <;> simp_all
      rw [e, d] at h1 h2 h3 hd
      have h2' : r.length + 1 ≤ 400 := h2
      refine ⟨_, intText_digits (x := p) ?_ ?_ (by omega), by omega⟩
      · show NumText.AllDigits (ch p); rw [e]; exact hd
      · show ch p ≠ []; rw [e]; exact h1
theorem digs_comp {M : Mem} (s : Str) (ρ : Sl) (hρ : 2 < ρ.length) : compL (bName 2) bYes (eBin gIn (eBor 2) (eC (.str "0123456789"))) ρ (signs s) [] M = .ok ((ch s).map fun c => .bl (decide (c ∈ digs))) M :=
  comp_signs s fun c hc => ⟨ρ.set 2 (.val (.str ⟨#[c]⟩)), rfl, by
    have a : (ρ.set 2 (.val (.str ⟨#[c]⟩)))[2]? = some (.val (.str ⟨#[c]⟩)) := List.getElem?_set_self hρ
    simp [eBin, eBor, eC, a, gIn, strIn1, digs]⟩
theorem empty_iff (s : Str) : s = "" ↔ ch s = [] := by
  constructor
  · intro h; rw [h]; rfl
  · intro h; exact Str.eq_of h
theorem number_in (M : Mem) (p : Str) : Fnumber_in [.str p] M = match numQ p with
    | some n => .ok (.int n) M
    | none => .exc "ParseError" [] M := by
  have e1 : (eIf (eTru (eMeth isStr mStarts (eBor 0) [(eC (.str "-"))])) (eSl gSl (eBor 0) (oSome (eC (.int 1))) oNone) (eVar 0)) [.val (.str p), .emp, .emp] M = .ok (.str (dgS p)) M := by
    by_cases h : (ch p).head? = some 45
    · simp [eIf, eTru, eMeth, isStr, mStarts, eBor, eC, eSl, oSome, oNone, iOf, eVar, aSeq, aCons, aNil, starts45, truD, gSl, dgS, h]
    · simp [eIf, eTru, eMeth, isStr, mStarts, eBor, eC, eSl, oSome, oNone, iOf, eVar, aSeq, aCons, aNil, starts45, truD, gSl, dgS, h]
  have hq := eq_str M (dgS p) ""
  have hc := digs_comp (M := M) (dgS p) [.val (.str p), .val (.str (dgS p)), .emp] (show 2 < 3 by decide)
  have hl : (dgS p).length = (dg (ch p)).length := by rw [len_ch, ch_dgS]
  have ha : ((ch (dgS p)).map fun c => decide (c ∈ digs)).all id = allDg (dg (ch p)) := by rw [ch_dgS, List.all_map]; rfl
  by_cases h0 : dg (ch p) = []
  · have d : decide (dgS p = ("" : Str)) = true := decide_eq_true ((empty_iff _).mpr (by rw [ch_dgS, h0]))
    have n : numQ p = none := if_neg fun z => z.1 h0
    rw [d] at hq
    rw [n]
    simp [Fnumber_in, snumber_in, runB, sSeq, sSet, sBind, e1, sIf, eOr, eTest, eBin, eBor, eC, hq, bOf, sRaise]
  · have d : decide (dgS p = ("" : Str)) = false := decide_eq_false fun z => h0 (by rw [← ch_dgS]; exact (empty_iff _).mp z)
    rw [d] at hq
    by_cases h1 : (dg (ch p)).length ≤ 400
    · have g : ¬ (400 : Int) < ((dgS p).length : Nat) := by omega
      cases h2 : allDg (dg (ch p)) with
      | true =>
        obtain ⟨n, en, hn⟩ := numOk_some ⟨h0, h1, h2⟩
        have nq : numQ p = some n := by unfold numQ; rw [if_pos ⟨h0, h1, h2⟩, en]
        rw [nq]
        have hn' : p.length ≤ 640 := by omega
        rw [h2] at ha
        simp [Fnumber_in, snumber_in, runB, sSeq, sSet, sBind, e1, sIf, eOr, eTest, eBin, eBor, eC, hq, bOf, sRaise, sNext, eCall, kLen, gGt, g, eNot, eTru, kAll, eFrz, eComp, iAny, eVar, noOwn, wipeR, hc, lstOf, bs_map, ha, truD, sRet, kInt, hn', en, aSeq, aCons, aNil]
      | false =>
        have n : numQ p = none := if_neg fun z => by have := z.2.2; rw [h2] at this; cases this
        rw [n]
        rw [h2] at ha
        simp [Fnumber_in, snumber_in, runB, sSeq, sSet, sBind, e1, sIf, eOr, eTest, eBin, eBor, eC, hq, bOf, sRaise, sNext, eCall, kLen, gGt, g, eNot, eTru, kAll, eFrz, eComp, iAny, eVar, noOwn, wipeR, hc, lstOf, bs_map, ha, truD, aSeq, aCons, aNil]
    · have g : (400 : Int) < ((dgS p).length : Nat) := by omega
      have n : numQ p = none := if_neg fun z => h1 z.2.1
      rw [n]
      simp [Fnumber_in, snumber_in, runB, sSeq, sSet, sBind, e1, sIf, eOr, eTest, eBin, eBor, eC, hq, bOf, sRaise, eCall, kLen, gGt, g, aSeq, aCons, aNil]
end K83

set_option Elab.async false
set_option linter.all false
set_option autoImplicit false
set_option maxRecDepth 100000
set_option maxHeartbeats 2000000
namespace K83
open PySem PySem.Spec L2 DD
/-- [1 for x in s if not ..] -/
theorem comp_ones {bind : Sl → D → Option Sl} {tst : SB} {ρ : Sl} {f : Nat → Bool} {M : Mem} (s : Str) (h : ∀ c ∈ ch s, ∃ ρ1, bind ρ (.str ⟨#[c]⟩) = some ρ1 ∧ tst ρ1 M = .ok (f c) M) : compL bind tst (eC (.int 1)) ρ (signs s) [] M = .ok (((ch s).filter f).map fun _ => .int 1) M := by
  have := compL_filter (bind := bind) (tst := tst) (elt := eC (.int 1)) (ρ := ρ) (f := fun _ => .int 1) (p := fun d => match d with | .str x => f (x.cps.getD 0 0) | _ => false) (M := M) (signs s) [] (fun x hx => by
    simp only [signs, List.mem_map] at hx
    obtain ⟨c, hc, rfl⟩ := hx
    obtain ⟨ρ1, h1, h2⟩ := h c hc
    exact ⟨ρ1, h1, h2, fun _ => rfl⟩)
  rw [this, signs, List.filter_map]
  simp [Function.comp_def]
theorem comp_ones_s {bind : Sl → D → Option Sl} {tst : SB} {ρ : Sl} {f : Str → Bool} {M : Mem} (l : List Str) (h : ∀ c ∈ l, ∃ ρ1, bind ρ (.str c) = some ρ1 ∧ tst ρ1 M = .ok (f c) M) : compL bind tst (eC (.int 1)) ρ (l.map .str) [] M = .ok ((l.filter f).map fun _ => .int 1) M := by
  have := compL_filter (bind := bind) (tst := tst) (elt := eC (.int 1)) (ρ := ρ) (f := fun _ => .int 1) (p := fun d => match d with | .str x => f x | _ => false) (M := M) (l.map .str) [] (fun x hx => by
    simp only [List.mem_map] at hx
    obtain ⟨c, hc, rfl⟩ := hx
    obtain ⟨ρ1, h1, h2⟩ := h c hc
    exact ⟨ρ1, h1, h2, fun _ => rfl⟩)
  rw [this, List.filter_map]
  simp [Function.comp_def]
theorem filter_all (l : List Nat) (A : List Nat) : decide ((l.filter fun c => !decide (c ∈ A)) = []) = l.all fun c => decide (c ∈ A) := by
  by_cases h : ∀ c ∈ l, c ∈ A
  · have h1 : (l.filter fun c => !decide (c ∈ A)) = [] := List.filter_eq_nil_iff.mpr fun c hc => by simp [h c hc]
    have h2 : (l.all fun c => decide (c ∈ A)) = true := List.all_eq_true.mpr fun c hc => decide_eq_true (h c hc)
    rw [h1, h2]; rfl
  · have h1 : ¬ (l.filter fun c => !decide (c ∈ A)) = [] := fun z => h fun c hc => by
      have := List.filter_eq_nil_iff.mp z c hc
      simpa using this
    have h2 : (l.all fun c => decide (c ∈ A)) = false := by
      rw [← Bool.not_eq_true, List.all_eq_true]
      exact fun z => h fun c hc => of_decide_eq_true (z c hc)
    rw [h2]; exact decide_eq_false h1
theorem ne_ones (M : Mem) {α : Type} (l : List α) : gNe M (.lst (l.map fun _ => D.int 1)) (.lst []) = some (.bl (!decide (l = []))) := by
  have h1 : ∀ l : List α, clns (l.map fun _ => D.int 1) = true ∧ deps (l.map fun _ => D.int 1) = 0 := fun l => by
    induction l with
    | nil => exact ⟨rfl, rfl⟩
    | cons a l ih => simp only [List.map_cons, clns, deps, cln, dep, ih.1, ih.2]; exact ⟨rfl, rfl⟩
  have p : plainD (.lst (l.map fun _ => D.int 1)) = true := by simp [plainD, cln, dep, (h1 l).1, (h1 l).2]
  have p2 : plainD (.lst []) = true := by simp [plainD, cln, clns, dep, deps]
  simp only [gNe, p, p2, Bool.and_self, if_true]
  cases l with
  | nil => rfl
  | cons a l => simp [eqv, eqvs]
theorem notin_sign (M : Mem) (c : Nat) (A : Str) : gNotIn M (.str ⟨#[c]⟩) (.str A) = some (.bl (!decide (c ∈ ch A))) := rfl
theorem law_is_name (M : Mem) (s : Str) : F_law_is_name [.str s] M = .ok (.bl (isNm s)) M := by
  have hc : compL (bName 1) (eTest (eBin gNotIn (eBor 1) (eC (.str "abcdefghijklmnopqrstuvwxyz")))) (eC (.int 1)) [.val (.str s), .emp] (signs s) [] M = .ok (((ch s).filter fun c => !decide (c ∈ lets)).map fun _ => .int 1) M :=
    comp_ones s fun c hc => ⟨_, rfl, by
      simp [eTest, eBin, eBor, eC, notin_sign, bOf, lets]⟩
  have he := eq_ones M ((ch s).filter fun c => !decide (c ∈ lets))
  rw [filter_all] at he
  by_cases h1 : (1 : Int) ≤ (s.length : Nat)
  · have h1' : 1 ≤ s.length := by omega
    by_cases h2 : ((s.length : Nat) : Int) ≤ 8
    · have h2' : s.length ≤ 8 := by omega
      simp [F_law_is_name, s_law_is_name, runB, sRet, sBind, eAndV, eChain, eC, eCall, eBor, kLen, gLe, bOf, h1, h2, h1', h2', eBin, eFrz, eComp, iAny, eVar, noOwn, wipeR, hc, eLst, aSeq, aCons, aNil, he, isNm]
    · have h2' : ¬ s.length ≤ 8 := by omega
      simp [F_law_is_name, s_law_is_name, runB, sRet, sBind, eAndV, eChain, eC, eCall, eBor, kLen, gLe, bOf, h1, h2, h1', h2', aSeq, aCons, aNil, isNm]
  · have h1' : ¬ 1 ≤ s.length := by omega
    simp [F_law_is_name, s_law_is_name, runB, sRet, sBind, eAndV, eChain, eC, eCall, eBor, kLen, gLe, bOf, h1, h1', aSeq, aCons, aNil, isNm]
def tS (n : Int) : Str := Str.ofString (toString n)
def canQ (p : Str) : Option Int := (numQ p).bind fun n => if tS n = p then some n else none
def oD : Option Int → D
  | some n => .int n
  | none => .non
theorem val_lt : ∀ (cs : List Nat) (a : Nat), NumText.AllDigits cs → cs.foldl (fun acc c => acc * 10 + (c - 48)) a < (a + 1) * 10 ^ cs.length
  | [], a, _ => by simp
  | c :: cs, a, h => by
    have ih := val_lt cs (a * 10 + (c - 48)) h.tail
    have hc := h.head
    rw [List.foldl_cons, List.length_cons, Nat.pow_succ]
    refine Nat.lt_of_lt_of_le ih ?_
    rw [show (a + 1) * (10 ^ cs.length * 10) = ((a + 1) * 10) * 10 ^ cs.length by rw [Nat.mul_comm (10 ^ cs.length) 10, Nat.mul_assoc]]
    exact Nat.mul_le_mul_right _ (by omega)
theorem val_log {cs : List Nat} (h : NumText.AllDigits cs) (hl : cs.length ≤ 400) : (NumText.digitsVal cs).log2 < 1920 := by
  have h1 := val_lt cs 0 h
  have h2 : (0 + 1) * 10 ^ cs.length ≤ 10 ^ 400 := by rw [Nat.zero_add, Nat.one_mul]; exact Nat.pow_le_pow_right (by decide) hl
  have h3 : (10 : Nat) ^ 400 ≤ 2 ^ 1920 := by decide +kernel
  have h4 : NumText.digitsVal cs < 2 ^ 1920 := Nat.lt_of_lt_of_le (Nat.lt_of_lt_of_le h1 h2) h3
  by_cases z : NumText.digitsVal cs = 0
  · rw [z]; decide
  · exact (Nat.log2_lt z).mpr h4
theorem log_401 {p : Str} {n : Int} (h : numQ p = some n) : n.natAbs.log2 < 1920 := by
  unfold numQ at h
  split at h
  · rename_i ok
    obtain ⟨h1, h2, h3⟩ := ok
    have hd := allDg_iff h3
    cases e : ch p with
    | nil => rw [e] at h1; exact absurd rfl h1
    | cons c r =>
      have hl : p.length = r.length + 1 := by rw [len_ch, e]; rfl
      by_cases q : c = 45
      · subst q
        rw [e] at h1 h2 h3 hd
        have h2' : r.length ≤ 400 := h2
        have e2 := intText_neg (x := p) e hd h1 (by omega)
        rw [h] at e2
        cases e2
        rw [Int.natAbs_neg]
        exact val_log hd h2'
      · have d : dg (c :: r) = c :: r := by unfold dg; split <;> simp_all
        rw [e, d] at h1 h2 h3 hd
        have h2' : r.length + 1 ≤ 400 := h2
        have hd' : NumText.AllDigits p.cps.toList := by show NumText.AllDigits (ch p); rw [e]; exact hd
        have e2 := intText_digits (x := p) hd' (by show ch p ≠ []; rw [e]; exact h1) (by omega)
        rw [h] at e2
        cases e2
        exact val_log hd' (by show (ch p).length ≤ 400; rw [e]; exact h2')
  · cases h
theorem law_integer (M : Mem) (p : Str) : F_law_integer [.str p] M = .ok (oD (canQ p)) M := by
  have e1 : (eIf (eTest (eBin gEq (eSl gSl (eBor 0) oNone (oSome (eC (.int 1)))) (eC (.str "-")))) (eSl gSl (eBor 0) (oSome (eC (.int 1))) oNone) (eVar 0)) [.val (.str p), .emp, .emp] M = .ok (.str (dgS p)) M := by
    have hq := eq_str M (cutS p none (some 1)) "-"
    by_cases h : (ch p).head? = some 45
    · rw [decide_eq_true ((eq_dash_head p).mpr h)] at hq
      simp [eIf, eTest, eBin, eBor, eC, eSl, oSome, oNone, iOf, eVar, gSl, hq, bOf, dgS, h]
    · rw [decide_eq_false (fun z => h ((eq_dash_head p).mp z))] at hq
      simp [eIf, eTest, eBin, eBor, eC, eSl, oSome, oNone, iOf, eVar, gSl, hq, bOf, dgS, h]
  have hq := eq_str M (dgS p) ""
  unfold F_law_integer s_law_integer
  generalize (eIf (eTest (eBin gEq (eSl gSl (eBor 0) oNone (oSome (eC (.int 1)))) (eC (.str "-")))) (eSl gSl (eBor 0) (oSome (eC (.int 1))) oNone) (eVar 0)) = E at e1 ⊢
  have hc : compL (bName 2) (eTest (eBin gNotIn (eBor 2) (eC (.str "0123456789")))) (eC (.int 1)) [.val (.str p), .val (.str (dgS p)), .emp] (signs (dgS p)) [] M = .ok (((ch (dgS p)).filter fun c => !decide (c ∈ digs)).map fun _ => .int 1) M :=
    comp_ones (dgS p) fun c hc => ⟨_, rfl, by
      simp [eTest, eBin, eBor, eC, notin_sign, bOf, digs]⟩
  have he := ne_ones M ((ch (dgS p)).filter fun c => !decide (c ∈ digs))
  rw [filter_all, show ((ch (dgS p)).all fun c => decide (c ∈ digs)) = allDg (dg (ch p)) by rw [ch_dgS]; rfl] at he
  have hl : (dgS p).length = (dg (ch p)).length := by rw [len_ch, ch_dgS]
  by_cases h0 : dg (ch p) = []
  · have d : decide (dgS p = ("" : Str)) = true := decide_eq_true ((empty_iff _).mpr (by rw [ch_dgS, h0]))
    have n : canQ p = none := by unfold canQ; rw [show numQ p = none from if_neg fun z => z.1 h0]; rfl
    rw [d] at hq
    rw [n]
    simp [runB, sSeq, sSet, sBind, e1, sIf, eOr, eTest, eBin, eBor, eC, hq, bOf, sRet, oD]
  · have d : decide (dgS p = ("" : Str)) = false := decide_eq_false fun z => h0 (by rw [← ch_dgS]; exact (empty_iff _).mp z)
    rw [d] at hq
    by_cases h1 : (dg (ch p)).length ≤ 400
    · have g : ¬ (400 : Int) < ((dgS p).length : Nat) := by omega
      cases h2 : allDg (dg (ch p)) with
      | true =>
        obtain ⟨n, en, hn⟩ := numOk_some ⟨h0, h1, h2⟩
        have nq : numQ p = some n := by unfold numQ; rw [if_pos ⟨h0, h1, h2⟩, en]
        have hlog := log_401 nq
        have hn' : p.length ≤ 640 := by omega
        have hs := eq_str M (tS n) p
        rw [h2] at he
        unfold canQ
        rw [nq]
        have ks : kStr M [.int n] = some (.str (tS n)) := by simp only [kStr]; rw [if_pos hlog]; rfl
        by_cases hp : tS n = p
        · rw [decide_eq_true hp, hp] at hs
          simp [runB, sSeq, sSet, sBind, e1, sIf, eOr, eTest, eBin, eBor, eC, hq, bOf, sNext, eCall, kLen, gGt, g, eFrz, eComp, iAny, eVar, noOwn, wipeR, hc, he, sRet, eLst, eIf, kInt, hn', en, ks, hs, aSeq, aCons, aNil, oD, hp]
        · rw [decide_eq_false hp] at hs
          simp [runB, sSeq, sSet, sBind, e1, sIf, eOr, eTest, eBin, eBor, eC, hq, bOf, sNext, eCall, kLen, gGt, g, eFrz, eComp, iAny, eVar, noOwn, wipeR, hc, he, sRet, eLst, eIf, kInt, hn', en, ks, hs, aSeq, aCons, aNil, oD, hp]
      | false =>
        have n : canQ p = none := by unfold canQ; rw [show numQ p = none from if_neg fun z => by have := z.2.2; rw [h2] at this; cases this]; rfl
        rw [n]
        rw [h2] at he
        simp [runB, sSeq, sSet, sBind, e1, sIf, eOr, eTest, eBin, eBor, eC, hq, bOf, sNext, eCall, kLen, gGt, g, eFrz, eComp, iAny, eVar, noOwn, wipeR, hc, he, sRet, eLst, aSeq, aCons, aNil, oD]
    · have g : (400 : Int) < ((dgS p).length : Nat) := by omega
      have n : canQ p = none := by unfold canQ; rw [show numQ p = none from if_neg fun z => h1 z.2.1]; rfl
      rw [n]
      simp [runB, sSeq, sSet, sBind, e1, sIf, eOr, eTest, eBin, eBor, eC, hq, bOf, sRet, eCall, kLen, gGt, g, aSeq, aCons, aNil, oD]
def namesQ (l : List Str) : Option (List Str) := if l = [("-" : Str)] then some [] else if l.all isNm = true then some l else none
def oT : Option (List Str) → D
  | some l => .tup (l.map .str)
  | none => .non
theorem law_names_in (M : Mem) (l : List Str) : F_law_names_in [.lst (l.map .str)] M = .ok (oT (namesQ l)) M := by
  have h := eq_lst M l ["-"]
  simp only [List.map_cons, List.map_nil] at h
  have hc : compL (bName 1) (eNot (eTru (eFn F_law_is_name [(eVar 1)]))) (eC (.int 1)) [.val (.lst (l.map .str)), .emp] (l.map .str) [] M = .ok ((l.filter fun w => !isNm w).map fun _ => .int 1) M :=
    comp_ones_s l fun c hc => ⟨_, rfl, by simp [eNot, eTru, eFn, eVar, aSeq, aCons, aNil, law_is_name, truD]⟩
  have he := eq_ones M (l.filter fun w => !isNm w)
  by_cases e : l = [("-" : Str)]
  · rw [decide_eq_true e] at h
    have n : namesQ l = some [] := if_pos e
    rw [n]
    simp [F_law_names_in, s_law_names_in, runB, sSeq, sIf, eTest, eBin, eBor, eLst, eC, aSeq, aCons, aNil, h, bOf, sRet, sBind, eTup, oT]
  · rw [decide_eq_false e] at h
    cases a : l.all isNm with
    | true =>
      have n : namesQ l = some l := by unfold namesQ; rw [if_neg e, if_pos a]
      have f : (l.filter fun w => !isNm w) = [] := List.filter_eq_nil_iff.mpr fun w hw => by simp [List.all_eq_true.mp a w hw]
      rw [n]
      rw [decide_eq_true f] at he
      simp [F_law_names_in, s_law_names_in, runB, sSeq, sIf, eTest, eBin, eBor, eLst, eC, aSeq, aCons, aNil, h, bOf, sRet, sBind, sNext, eIf, eFrz, eComp, iAny, eVar, noOwn, wipeR, hc, he, eCall, kTuple, seqOf, lstOf, oT]
    | false =>
      have n : namesQ l = none := by unfold namesQ; rw [if_neg e, if_neg (by rw [a]; decide)]
      have f : ¬ (l.filter fun w => !isNm w) = [] := fun z => by
        have : l.all isNm = true := List.all_eq_true.mpr fun w hw => by
          have := List.filter_eq_nil_iff.mp z w hw
          simpa using this
        rw [this] at a; cases a
      rw [n]
      rw [decide_eq_false f] at he
      simp [F_law_names_in, s_law_names_in, runB, sSeq, sIf, eTest, eBin, eBor, eLst, eC, aSeq, aCons, aNil, h, bOf, sRet, sBind, sNext, eIf, eFrz, eComp, iAny, eVar, noOwn, wipeR, hc, he, oT]
end K83

set_option Elab.async false
set_option linter.all false
set_option autoImplicit false
set_option maxRecDepth 100000
set_option maxHeartbeats 2000000
namespace K83
open PySem PySem.Spec L2 DD
inductive Tg where
  | n (m : Int) | s (w : Str)
def Tg.d : Tg → D
  | .n m => .int m
  | .s w => .str w
def Tg.txt : Tg → Str
  | .n m => tS m
  | .s w => w
def Tg.ok : Tg → Bool
  | .n m => decide (0 ≤ m) && decide (m < 100)
  | .s w => isNm w
structure Rule where
  n : Int
  top : Str
  t : Tg
  push : List Str
def Rule.d (r : Rule) : D := .tup [.int r.n, .str r.top, r.t.d, .tup (r.push.map .str)]
def Rule.ok (r : Rule) : Bool := (decide (0 ≤ r.n) && decide (r.n < 100)) && (r.t.ok && ((decide (r.top = "") || isNm r.top) && (decide (r.push.length ≤ 20) && r.push.all isNm)))
def topT (s : Str) : Str := if s = "" then "-" else s
def Rule.txt (r : Rule) : Str := Txt.join " " [tS r.n, topT r.top, "->", r.t.txt, sp r.push]
theorem is_target (M : Mem) (t : Tg) : Fis_target [t.d] M = .ok (.bl t.ok) M := by
  cases t with
  | n m =>
    by_cases h1 : 0 ≤ m
    · simp [Fis_target, sis_target, runB, sRet, sBind, eIf, eTru, eFn, eVar, aSeq, aCons, aNil, is_integer_int, truD, eChain, eC, eBor, gLe, gLt, bOf, Tg.d, Tg.ok, h1]
    · simp [Fis_target, sis_target, runB, sRet, sBind, eIf, eTru, eFn, eVar, aSeq, aCons, aNil, is_integer_int, truD, eChain, eC, eBor, gLe, gLt, bOf, Tg.d, Tg.ok, h1]
  | s w => simp [Fis_target, sis_target, runB, sRet, sBind, eIf, eTru, eFn, eVar, aSeq, aCons, aNil, is_integer_str, truD, is_name, Tg.d, Tg.ok]
theorem formed (M : Mem) (r : Rule) : Fis_formed_rule [r.d] M = .ok (.bl r.ok) M := by
  obtain ⟨n, top, t, push⟩ := r
  have h1 := is_target M (.n n)
  have h2 := is_target M t
  have h3 := eq_str M top ""
  have hc : ∀ ρ : Sl, 6 < ρ.length → compL (bName 6) bYes (eFn Fis_name [(eVar 6)]) ρ (push.map .str) [] M = .ok (push.map fun c => .bl (isNm c)) M := fun ρ hρ =>
    comp_strs push fun c hc => ⟨ρ.set 6 (.val (.str c)), rfl, by
      have a : (ρ.set 6 (.val (.str c)))[6]? = some (.val (.str c)) := List.getElem?_set_self hρ
      simp [eFn, eVar, aSeq, aCons, aNil, a, is_name]⟩
  have ha : (push.map isNm).all id = push.all isNm := by rw [List.all_map]; rfl
  have hl : (decide (((push.length : Nat) : Int) ≤ 20)) = decide (push.length ≤ 20) := by
    by_cases z : push.length ≤ 20
    · rw [decide_eq_true z]; exact decide_eq_true (by omega)
    · rw [decide_eq_false z]; exact decide_eq_false (by omega)
  simp only [Tg.d, Tg.ok] at h1
  have n4 : gNe M (.int 4) (.int 4) = some (.bl false) := rfl
  have step1 : ∀ f g, sSeq (sIf (eOr (eNot (eTru (eIsi "tuple" (eBor 0)))) (eTest (eBin gNe (eCall kLen [(eBor 0)]) (eC (.int 4))))) f sNext) (sSeq (sTg (bTup 4 (bCons (bName 2) (bCons (bName 3) (bCons (bName 4) (bCons (bName 5) bNil))))) (eVar 0)) g) [.val (.tup [.int n, .str top, t.d, .tup (push.map .str)]), .emp, .emp, .emp, .emp, .emp, .emp] M = g [.val (.tup [.int n, .str top, t.d, .tup (push.map .str)]), .emp, .val (.int n), .val (.str top), .val t.d, .val (.tup (push.map .str)), .emp] M := fun f g => by
    simp [sSeq, sIf, eOr, eNot, eTru, eIsi, eBor, tyN, kinD, truD, eTest, eBin, eCall, aSeq, aCons, aNil, kLen, seqOf, eC, n4, bOf, sNext, sTg, sBind, eVar, bTup, bCons, bName, bNil]
  unfold Fis_formed_rule sis_formed_rule Rule.d runB
  simp only [List.map_cons, List.map_nil, List.replicate, List.cons_append, List.nil_append]
  rw [step1]
  cases b1 : (decide (0 ≤ n) && decide (n < 100)) with
  | false =>
    rw [b1] at h1
    simp [sSeq, sIf, eOr, eNot, eTru, eFn, eVar, aSeq, aCons, aNil, is_integer_int, truD, h1, sRet, sBind, eC, Rule.ok, b1]
  | true =>
    rw [b1] at h1
    cases b2 : t.ok with
    | false =>
      rw [b2] at h2
      simp [sSeq, sIf, eOr, eNot, eTru, eFn, eVar, aSeq, aCons, aNil, is_integer_int, truD, h1, h2, sRet, sBind, eC, Rule.ok, b1, b2]
    | true =>
      rw [b2] at h2
      cases b3 : (decide (top = ("" : Str)) || isNm top) with
      | false =>
        have z : decide (top = ("" : Str)) = false ∧ isNm top = false := by simpa using b3
        have z1 : ¬ top = ("" : Str) := of_decide_eq_false z.1
        rw [z.1] at h3
        simp [z1, sSeq, sIf, eOr, eNot, eTru, eFn, eVar, aSeq, aCons, aNil, is_integer_int, truD, h1, h2, sRet, sBind, eC, sNext, eIsi, eBor, tyN, kinD, sSet, eOrV, eAndV, eBin, h3, bOf, is_name, z.2, Rule.ok, b1, b2, b3]
      | true =>
        have e : ∀ ρ : Sl, ρ[3]? = some (.val (.str top)) → (eOrV (eAndV (eIsi "str" (eBor 3)) (eBin gEq (eBor 3) (eC (.str "")))) (eFn Fis_name [(eVar 3)])) ρ M = .ok (.bl true) M := fun ρ hρ => by
          by_cases z : top = ("" : Str)
          · rw [decide_eq_true z] at h3
            simp [eOrV, eAndV, eIsi, eBor, hρ, tyN, kinD, eBin, eC, h3, bOf]
          · rw [decide_eq_false z] at h3
            have z2 : isNm top = true := by simpa [z] using b3
            simp [eOrV, eAndV, eIsi, eBor, hρ, tyN, kinD, eBin, eC, h3, bOf, eFn, aSeq, aCons, aNil, eVar, is_name, z2]
        generalize (eOrV (eAndV (eIsi "str" (eBor 3)) (eBin gEq (eBor 3) (eC (.str "")))) (eFn Fis_name [(eVar 3)])) = E at e ⊢
        have e' := e [.val (.tup [.int n, .str top, t.d, .tup (push.map .str)]), .emp, .val (.int n), .val (.str top), .val t.d, .val (.tup (push.map .str)), .emp] rfl
        cases b4 : decide (push.length ≤ 20) with
        | false =>
          rw [b4] at hl
          have hl' : ¬ ((push.length : Nat) : Int) ≤ 20 := of_decide_eq_false hl
          simp [sSeq, sIf, eOr, eNot, eTru, eFn, eVar, aSeq, aCons, aNil, is_integer_int, truD, h1, h2, sRet, sBind, eC, sNext, eIsi, eBor, tyN, kinD, sSet, e', eAndV, eBin, bOf, eCall, kLen, seqOf, gLe, hl', Rule.ok, b1, b2, b3, b4]
        | true =>
          rw [b4] at hl
          have hl' : ((push.length : Nat) : Int) ≤ 20 := of_decide_eq_true hl
          simp [sSeq, sIf, eOr, eNot, eTru, eFn, eVar, aSeq, aCons, aNil, is_integer_int, truD, h1, h2, sRet, sBind, eC, sNext, eIsi, eBor, tyN, kinD, sSet, e', eAndV, eBin, bOf, eCall, kLen, seqOf, gLe, hl', kAll, lstOf, eFrz, eComp, iAny, noOwn, wipeR, hc, bs_map, ha, Rule.ok, b1, b2, b3, b4]
end K83

set_option Elab.async false
set_option linter.all false
set_option autoImplicit false
set_option maxRecDepth 100000
set_option maxHeartbeats 2000000
namespace K83
open PySem PySem.Spec L2 DD
structure Rule.Ok (r : Rule) : Prop where
  n0 : 0 ≤ r.n
  n1 : r.n < 100
  t : r.t.ok = true
  top : r.top = "" ∨ isNm r.top = true
  few : r.push.length ≤ 20
  nms : ∀ w ∈ r.push, isNm w = true
theorem Rule.ok_iff (r : Rule) : r.ok = true ↔ r.Ok := by
  simp only [Rule.ok, Bool.and_eq_true, Bool.or_eq_true, decide_eq_true_eq, List.all_eq_true]
  exact ⟨fun ⟨⟨a, b⟩, c, d, e, f⟩ => ⟨a, b, c, d, e, f⟩, fun h => ⟨⟨h.n0, h.n1⟩, h.t, h.top, h.few, h.nms⟩⟩
theorem tS_len {m : Int} (h0 : 0 ≤ m) (h1 : m < 100) : (tS m).length ≤ 101 := by
  have := PyProof.Rows.len_str_of_int m
  unfold tS
  omega
theorem k_str (M : Mem) {m : Int} (h0 : 0 ≤ m) (h1 : m < 100) : kStr M [.int m] = some (.str (tS m)) := by
  simp only [kStr]
  rw [if_pos]
  · rfl
  · have : m.natAbs.log2 ≤ m.natAbs := Nat.log2_le_self _
    omega
theorem k_strT (M : Mem) {t : Tg} (h : t.ok = true) : kStr M [t.d] = some (.str t.txt) ∧ t.txt.length ≤ 101 := by
  cases t with
  | n m =>
    simp only [Tg.ok, Bool.and_eq_true, decide_eq_true_eq] at h
    exact ⟨k_str M h.1 h.2, tS_len h.1 h.2⟩
  | s w =>
    have := nm_len h
    exact ⟨rfl, by show w.length ≤ 101; omega⟩
theorem top_text (M : Mem) (s : Str) : Ftop_text [.str s] M = .ok (.str (topT s)) M := by
  have h := eq_str M s ""
  by_cases z : s = ("" : Str)
  · rw [decide_eq_true z] at h
    have tt : topT s = "-" := if_pos z
    simp [Ftop_text, stop_text, runB, sRet, sBind, eIf, eTest, eBin, eBor, eC, h, bOf, tt]
  · rw [decide_eq_false z] at h
    have tt : topT s = s := if_neg z
    simp [Ftop_text, stop_text, runB, sRet, sBind, eIf, eTest, eBin, eBor, eC, h, bOf, tt, eVar]
theorem topT_len {r : Rule} (h : r.Ok) : (topT r.top).length ≤ 8 := by
  unfold topT
  split
  · decide +kernel
  · rename_i z
    rcases h.top with q | q
    · exact absurd q z
    · exact (nm_len q).2
theorem push_sm {r : Rule} (h : r.Ok) : Sm r.push := ⟨by have := h.few; omega, fun w hw => by have := nm_len (h.nms w hw); omega⟩
theorem parts_sm {r : Rule} (h : r.Ok) : Sm [tS r.n, topT r.top, "->", r.t.txt, sp r.push] := by
  refine ⟨by simp, fun w hw => ?_⟩
  have h1 := tS_len h.n0 h.n1
  have h2 := topT_len h
  have h3 := (k_strT [] h.t).2
  have h4 := sp_le (ws := r.push) (fun w hw => (nm_len (h.nms w hw)).2) h.few
  have h5 : ("->" : Str).length = 2 := rfl
  simp only [List.mem_cons, List.not_mem_nil, or_false] at hw
  rcases hw with rfl | rfl | rfl | rfl | rfl <;> omega
theorem rule_text (M : Mem) {r : Rule} (h : r.Ok) : Frule_text [r.d] M = .ok (.str r.txt) M := by
  have e1 := k_str M h.n0 h.n1
  have e2 := (k_strT M h.t).1
  have e3 := parts_text M (push_sm h)
  have e4 := (m_join M (parts_sm h)).1
  simp only [List.map_cons, List.map_nil] at e4
  simp [Frule_text, srule_text, runB, Rule.d, sSeq, sTg, sBind, eVar, bTup, bCons, bName, bNil, sRet, eMeth, eC, isStr, eLst, eCall, eBor, aSeq, aCons, aNil, eFn, e1, e2, e3, top_text, e4, Rule.txt]
theorem law_rule_text (M : Mem) {r : Rule} (h : r.Ok) : F_law_rule_text [r.d] M = .ok (.str r.txt) M := by
  have e1 := k_str M h.n0 h.n1
  have e2 := (k_strT M h.t).1
  have e3 := law_spelled M (push_sm h)
  have e4 := (m_join M (parts_sm h)).1
  simp only [List.map_cons, List.map_nil] at e4
  have e5 : (eIf (eTest (eBin gEq (eBor 2) (eC (.str "")))) (eC (.str "-")) (eVar 2)) [.val r.d, .val (.int r.n), .val (.str r.top), .val r.t.d, .val (.tup (r.push.map .str))] M = .ok (.str (topT r.top)) M := by
    have h := eq_str M r.top ""
    by_cases z : r.top = ("" : Str)
    · rw [decide_eq_true z] at h
      have tt : topT r.top = "-" := if_pos z
      simp [eIf, eTest, eBin, eBor, eC, h, bOf, tt]
    · rw [decide_eq_false z] at h
      have tt : topT r.top = r.top := if_neg z
      simp [eIf, eTest, eBin, eBor, eC, h, bOf, tt, eVar]
  unfold F_law_rule_text s_law_rule_text
  generalize (eIf (eTest (eBin gEq (eBor 2) (eC (.str "")))) (eC (.str "-")) (eVar 2)) = E at e5 ⊢
  simp only [Rule.d] at e5
  simp [runB, Rule.d, sSeq, sTg, sBind, eVar, bTup, bCons, bName, bNil, sRet, eMeth, eC, isStr, eLst, eCall, eBor, aSeq, aCons, aNil, eFn, e1, e2, e3, e5, e4, Rule.txt]
/-! ### a line as a rule: the program -/
def firstDg (p : Str) : Bool := match ch p with
  | c :: _ => decide (c ∈ digs)
  | [] => true
def tgtQ (p : Str) : Option Tg := if firstDg p = true then (numQ p).map .n else some (.s p)
theorem target_in (M : Mem) (p : Str) : Ftarget_in [.str p] M = match tgtQ p with
    | some t => .ok t.d M
    | none => .exc "ParseError" [] M := by
  have e : strIn (cutS p none (some 1)) "0123456789" = firstDg p := by
    have h := cut_head p
    unfold firstDg
    cases q : ch p with
    | nil =>
      rw [q] at h
      have : cutS p none (some 1) = "" := Str.eq_of h
      rw [this]
      decide +kernel
    | cons c r =>
      rw [q] at h
      have : cutS p none (some 1) = ⟨#[c]⟩ := Str.eq_of h
      rw [this]
      rfl
  have hn := number_in M p
  cases b : firstDg p with
  | true =>
    rw [b] at e
    have t : tgtQ p = (numQ p).map .n := if_pos b
    rw [t]
    cases q : numQ p with
    | none =>
      rw [q] at hn
      simp [Ftarget_in, starget_in, runB, sRet, sBind, eIf, eTest, eBin, eSl, eBor, oSome, oNone, iOf, eC, gSl, gIn, e, bOf, eFn, aSeq, aCons, aNil, eVar, hn]
    | some n =>
      rw [q] at hn
      simp [Ftarget_in, starget_in, runB, sRet, sBind, eIf, eTest, eBin, eSl, eBor, oSome, oNone, iOf, eC, gSl, gIn, e, bOf, eFn, aSeq, aCons, aNil, eVar, hn, Tg.d]
  | false =>
    rw [b] at e
    have t : tgtQ p = some (.s p) := if_neg (by rw [b]; decide)
    rw [t]
    simp [Ftarget_in, starget_in, runB, sRet, sBind, eIf, eTest, eBin, eSl, eBor, oSome, oNone, iOf, eC, gSl, gIn, e, bOf, eVar, Tg.d]
theorem checked (M : Mem) (d : D) (a b : Str) : Fchecked [d, .str a, .str b] M = if a = b then .ok d M else .exc "ParseError" [] M := by
  have h := ne_str M a b
  by_cases z : a = b
  · rw [decide_eq_true z] at h
    rw [if_pos z]
    simp [Fchecked, schecked, runB, sSeq, sIf, eTest, eBin, eBor, h, bOf, sNext, sRet, sBind, eVar]
  · rw [decide_eq_false z] at h
    rw [if_neg z]
    simp [Fchecked, schecked, runB, sSeq, sIf, eTest, eBin, eBor, h, bOf, sRaise]
end K83

set_option Elab.async false
set_option linter.all false
set_option autoImplicit false
set_option maxRecDepth 100000
set_option maxHeartbeats 2000000
namespace K83
open PySem PySem.Spec L2 DD
def topOf (p : Str) : Str := if p = "-" then "" else p
def progQ (line : Str) : Option Rule :=
  if 10 ∈ ch line then none else match Txt.split line " " with
  | p0 :: p1 :: p2 :: p3 :: p4 :: r => if p2 ≠ "->" ∨ ("" : Str) ∈ p0 :: p1 :: p2 :: p3 :: p4 :: r then none else (numQ p0).bind fun n => (tgtQ p3).bind fun t =>
    if (Rule.mk n (topOf p1) t (un (p4 :: r))).ok = true ∧ (Rule.mk n (topOf p1) t (un (p4 :: r))).txt = line then some ⟨n, topOf p1, t, un (p4 :: r)⟩ else none
  | _ => none
theorem five {l : List Str} (h : ¬ l.length < 5) : ∃ p0 p1 p2 p3 p4 r, l = p0 :: p1 :: p2 :: p3 :: p4 :: r := by
  match l, h with
  | p0 :: p1 :: p2 :: p3 :: p4 :: r, _ => exact ⟨p0, p1, p2, p3, p4, r, rfl⟩
  | [], h => exact absurd (by simp) h
  | [_], h => exact absurd (by simp) h
  | [_, _], h => exact absurd (by simp) h
  | [_, _, _], h => exact absurd (by simp) h
  | [_, _, _, _], h => exact absurd (by simp) h
theorem ixl (M : Mem) (l : List Str) (i : Nat) {p : Str} (h : l[i]? = some p) : gIx M (.lst (l.map .str)) (.int i) = some (.str p) := by
  have hi := (List.getElem?_eq_some_iff.mp h).1
  simp only [gIx, seqOf, lstOf, Option.bind_some, atI, ixN, List.length_map]
  rw [if_pos (by omega), if_pos (by omega)]
  simp [h]
theorem cut4 (M : Mem) {l : List Str} (h : 4 ≤ l.length) : gSl M (.lst (l.map .str)) (some 4) none = some (.lst ((l.drop 4).map .str)) := by
  have h1 : HT.sIx (l.map D.str).length 0 (some 4) = 4 := by
    have := HT.sIx_nat (l.map D.str).length 0 4
    rw [show ((4 : Nat) : Int) = 4 from rfl] at this
    rw [this, List.length_map]
    omega
  have h2 : HT.sIx (l.map D.str).length (l.map D.str).length none = l.length := by simp [HT.sIx]
  simp only [gSl, lstOf, Option.map_some, cutD]
  rw [h1, h2, ← List.map_drop]
  congr 2
  rw [List.take_of_length_le (by simp)]
theorem raise_seq {f g : SS} {ρ ρ' : Sl} {M M' : Mem} {c : Str} {fs : List (Str × D)} (h : f ρ M = .exc c fs ρ' M') : sSeq f g ρ M = .exc c fs ρ' M' := by unfold sSeq; rw [h]
theorem next_seq {f g : SS} {ρ ρ' : Sl} {M M' : Mem} (h : f ρ M = .nx ρ' M') : sSeq f g ρ M = g ρ' M' := by unfold sSeq; rw [h]
def enc (o : Option Rule) (M : Mem) : R D := match o with
  | some r => .ok r.d M
  | none => .exc "ParseError" [] M
theorem rule_in (M : Mem) {line : Str} (hl : line.length ≤ 10000) : Frule_in [.str line] M = enc (progQ line) M := by
  have hp := parts_of M hl
  by_cases q : 10 ∈ ch line
  · rw [if_pos q] at hp
    have e : progQ line = none := if_pos q
    rw [e]
    simp [Frule_in, srule_in, runB, sSeq, sSet, sBind, eFn, eVar, aSeq, aCons, aNil, hp, enc]
  rw [if_neg q] at hp
  have t1 : sSet 1 (eFn Fparts_of [(eVar 0)]) [.val (.str line), .emp, .emp, .emp] M = .nx [.val (.str line), .val (.lst ((Txt.split line " ").map .str)), .emp, .emp] M := by
    simp [sSet, sBind, eFn, eVar, aSeq, aCons, aNil, hp]
  unfold Frule_in srule_in runB
  simp only [List.map_cons, List.map_nil, List.replicate, List.cons_append, List.nil_append]
  rw [next_seq t1]
  by_cases h5 : (Txt.split line " ").length < 5
  · have e : progQ line = none := by
      unfold progQ
      rw [if_neg q]
      split
      · rename_i hs; rw [hs] at h5; simp at h5; omega
      · rfl
    have g : ((Txt.split line " ").length : Int) < 5 := by omega
    rw [e, raise_seq (c := "ParseError") (fs := []) (ρ' := [.val (.str line), .val (.lst ((Txt.split line " ").map .str)), .emp, .emp]) (M' := M) (by
      simp [sIf, eOr, eTest, eBin, eCall, eBor, aSeq, aCons, aNil, kLen, seqOf, lstOf, gLt, eC, bOf, g, sRaise])]
    rfl
  obtain ⟨p0, p1, p2, p3, p4, r, hs⟩ := five h5
  have g5 : ¬ ((Txt.split line " ").length : Int) < 5 := by omega
  have i0 : gIx M (.lst ((Txt.split line " ").map .str)) (.int 0) = some (.str p0) := ixl M (Txt.split line " ") 0 (p := p0) (by rw [hs]; rfl)
  have i1 : gIx M (.lst ((Txt.split line " ").map .str)) (.int 1) = some (.str p1) := ixl M (Txt.split line " ") 1 (p := p1) (by rw [hs]; rfl)
  have i2 : gIx M (.lst ((Txt.split line " ").map .str)) (.int 2) = some (.str p2) := ixl M (Txt.split line " ") 2 (p := p2) (by rw [hs]; rfl)
  have i3 : gIx M (.lst ((Txt.split line " ").map .str)) (.int 3) = some (.str p3) := ixl M (Txt.split line " ") 3 (p := p3) (by rw [hs]; rfl)
  have c4 := cut4 M (l := Txt.split line " ") (by omega)
  rw [show (Txt.split line " ").drop 4 = p4 :: r by rw [hs]; rfl] at c4
  have n2 := ne_str M p2 "->"
  have in0 := in_lst M "" (Txt.split line " ")
  have eP : progQ line = if p2 ≠ "->" ∨ ("" : Str) ∈ p0 :: p1 :: p2 :: p3 :: p4 :: r then none else (numQ p0).bind fun n => (tgtQ p3).bind fun t =>
      if (Rule.mk n (topOf p1) t (un (p4 :: r))).ok = true ∧ (Rule.mk n (topOf p1) t (un (p4 :: r))).txt = line then some ⟨n, topOf p1, t, un (p4 :: r)⟩ else none := by
    unfold progQ
    rw [if_neg q, hs]
  rw [hs] at in0
  have kl : kLen M [.lst ((Txt.split line " ").map .str)] = some (.int ((Txt.split line " ").length : Nat)) := by simp [kLen, seqOf, lstOf]
  rw [eP]
  have L : (Txt.split line " ").map D.str = (p0 :: p1 :: p2 :: p3 :: p4 :: r).map D.str := by rw [hs]
  by_cases h2 : p2 = "->"
  · rw [decide_eq_true h2] at n2
    by_cases h0 : ("" : Str) ∈ p0 :: p1 :: p2 :: p3 :: p4 :: r
    · rw [if_pos (.inr h0)]
      rw [decide_eq_true h0, ← L] at in0
      rw [raise_seq (c := "ParseError") (fs := []) (ρ' := [.val (.str line), .val (.lst ((Txt.split line " ").map .str)), .emp, .emp]) (M' := M) (by
        simp [sIf, eOr, eTest, eBin, eCall, eBor, aSeq, aCons, aNil, kl, gLt, eC, bOf, g5, i2, n2, in0, sRaise])]
      rfl
    · rw [if_neg (fun z => z.elim (fun z => z h2) h0)]
      rw [decide_eq_false h0, ← L] at in0
      rw [next_seq (ρ' := [.val (.str line), .val (.lst ((Txt.split line " ").map .str)), .emp, .emp]) (M' := M) (by
        simp [sIf, eOr, eTest, eBin, eCall, eBor, aSeq, aCons, aNil, kl, gLt, eC, bOf, g5, i2, n2, in0, sNext])]
      have e1 := eq_str M p1 "-"
      rw [next_seq (ρ' := [.val (.str line), .val (.lst ((Txt.split line " ").map .str)), .val (.str (topOf p1)), .emp]) (M' := M) (by
        by_cases z : p1 = ("-" : Str)
        · rw [decide_eq_true z] at e1
          have tt : topOf p1 = "" := if_pos z
          simp [sSet, sBind, eIf, eTest, eBin, eBor, eC, i1, e1, bOf, tt]
        · rw [decide_eq_false z] at e1
          have tt : topOf p1 = p1 := if_neg z
          simp [sSet, sBind, eIf, eTest, eBin, eBor, eC, i1, e1, bOf, tt])]
      have hn := number_in M p0
      have ht := target_in M p3
      have hu : Fparts_in [.lst (.str p4 :: r.map .str)] M = .ok (.tup ((un (p4 :: r)).map .str)) M := parts_in M (p4 :: r)
      cases qn : numQ p0 with
      | none =>
        rw [qn] at hn
        rw [raise_seq (c := "ParseError") (fs := []) (ρ' := [.val (.str line), .val (.lst ((Txt.split line " ").map .str)), .val (.str (topOf p1)), .emp]) (M' := M) (by
          simp [sSet, sBind, eTup, aSeq, aCons, aNil, eFn, eBin, eBor, eC, i0, hn])]
        rfl
      | some n =>
        rw [qn] at hn
        cases qt : tgtQ p3 with
        | none =>
          rw [qt] at ht
          rw [raise_seq (c := "ParseError") (fs := []) (ρ' := [.val (.str line), .val (.lst ((Txt.split line " ").map .str)), .val (.str (topOf p1)), .emp]) (M' := M) (by
            simp [sSet, sBind, eTup, aSeq, aCons, aNil, eFn, eBin, eBor, eC, i0, hn, eVar, i3, ht])]
          rfl
        | some t =>
          rw [qt] at ht
          let ru : Rule := ⟨n, topOf p1, t, un (p4 :: r)⟩
          rw [next_seq (ρ' := [.val (.str line), .val (.lst ((Txt.split line " ").map .str)), .val (.str (topOf p1)), .val ru.d]) (M' := M) (by
            simp [sSet, sBind, eTup, aSeq, aCons, aNil, eFn, eBin, eBor, eC, i0, hn, eVar, i3, ht, eSl, oSome, oNone, iOf, c4, hu, ru, Rule.d])]
          have hf := formed M ru
          show _ = enc (if ru.ok = true ∧ ru.txt = line then some ru else none) M
          cases ok : ru.ok with
          | false =>
            rw [ok] at hf
            rw [raise_seq (c := "ParseError") (fs := []) (ρ' := [.val (.str line), .val (.lst ((Txt.split line " ").map .str)), .val (.str (topOf p1)), .val ru.d]) (M' := M) (by
              simp [sIf, eNot, eTru, eFn, eVar, aSeq, aCons, aNil, hf, truD, sRaise])]
            simp [enc]
          | true =>
            rw [ok] at hf
            have hT := rule_text M ((Rule.ok_iff ru).mp ok)
            have hC := checked M ru.d ru.txt line
            rw [next_seq (ρ' := [.val (.str line), .val (.lst ((Txt.split line " ").map .str)), .val (.str (topOf p1)), .val ru.d]) (M' := M) (by
              simp [sIf, eNot, eTru, eFn, eVar, aSeq, aCons, aNil, hf, truD, sNext])]
            by_cases z : ru.txt = line
            · rw [if_pos z] at hC
              rw [if_pos ⟨rfl, z⟩]
              simp [sRet, sBind, eFn, eVar, aSeq, aCons, aNil, hT, hC, enc]
            · rw [if_neg z] at hC
              rw [if_neg (fun y => z y.2)]
              simp [sRet, sBind, eFn, eVar, aSeq, aCons, aNil, hT, hC, enc]
  · rw [decide_eq_false h2] at n2
    rw [if_pos (.inl h2)]
    rw [raise_seq (c := "ParseError") (fs := []) (ρ' := [.val (.str line), .val (.lst ((Txt.split line " ").map .str)), .emp, .emp]) (M' := M) (by
      simp [sIf, eOr, eTest, eBin, eCall, eBor, aSeq, aCons, aNil, kl, gLt, eC, bOf, g5, i2, n2, sRaise])]
    rfl
end K83

set_option Elab.async false
set_option linter.all false
set_option autoImplicit false
set_option maxRecDepth 100000
set_option maxHeartbeats 2000000
namespace K83
open PySem PySem.Spec L2 DD
def tgL (p : Str) : Option Tg := match canQ p with
  | some m => some (.n m)
  | none => if isNm p = true then some (.s p) else none
def tgIn : Tg → Bool
  | .n m => decide (0 ≤ m) && decide (m < 100)
  | .s _ => true
def lawQ5 (p0 p1 p2 p3 : Str) (rest : List Str) : Option Rule := if p2 ≠ "->" ∨ ¬ (p1 = "-" ∨ isNm p1 = true) then none else
  match canQ p0, tgL p3, namesQ rest with
  | some n, some t, some push => if push.length ≤ 20 ∧ (0 ≤ n ∧ n < 100) ∧ tgIn t = true then some ⟨n, topOf p1, t, push⟩ else none
  | _, _, _ => none
def lawQ (line : Str) : Option Rule := match Txt.split line " " with
  | p0 :: p1 :: p2 :: p3 :: p4 :: r => lawQ5 p0 p1 p2 p3 (p4 :: r)
  | _ => none
def encL : Option Rule → D
  | some r => r.d
  | none => .non
theorem ret_seq {f g : SS} {ρ : Sl} {M M' : Mem} {d : D} (h : f ρ M = .rt d M') : sSeq f g ρ M = .rt d M' := by unfold sSeq; rw [h]
theorem is_non (M : Mem) (d : D) : gIs M d .non = some (.bl (isNon d)) := by simp [gIs]; rfl
theorem nI (i : Int) : DD.isNon (.int i) = false := rfl
theorem nT (l : List D) : DD.isNon (.tup l) = false := rfl
theorem nN : DD.isNon .non = true := rfl
theorem law_rule_in (M : Mem) {line : Str} (hl : line.length ≤ 10000) : F_law_rule_in [.str line] M = .ok (encL (lawQ line)) M := by
  have sp := split_m M hl
  have t1 : sSet 1 (eMeth isStr mSplit (eBor 0) [(eC (.str " "))]) [.val (.str line), .emp, .emp, .emp, .emp] M = .nx [.val (.str line), .val (.lst ((Txt.split line " ").map .str)), .emp, .emp, .emp] M := by
    simp [sSet, sBind, eMeth, isStr, eBor, eC, aSeq, aCons, aNil, sp]
  unfold F_law_rule_in s_law_rule_in runB
  simp only [List.map_cons, List.map_nil, List.replicate, List.cons_append, List.nil_append]
  rw [next_seq t1]
  have kl : kLen M [.lst ((Txt.split line " ").map .str)] = some (.int ((Txt.split line " ").length : Nat)) := by simp [kLen, seqOf, lstOf]
  by_cases h5 : (Txt.split line " ").length < 5
  · have e : lawQ line = none := by
      unfold lawQ
      split
      · rename_i hs; rw [hs] at h5; simp at h5; omega
      · rfl
    have g : ((Txt.split line " ").length : Int) < 5 := by omega
    rw [e, ret_seq (d := .non) (M' := M) (by
      simp [sIf, eOr, eTest, eBin, eCall, eBor, aSeq, aCons, aNil, kl, gLt, eC, bOf, g, sRet, sBind])]
    rfl
  obtain ⟨p0, p1, p2, p3, p4, r, hs⟩ := five h5
  have eQ : lawQ line = lawQ5 p0 p1 p2 p3 (p4 :: r) := by unfold lawQ; rw [hs]
  rw [eQ]
  have g5 : ¬ ((Txt.split line " ").length : Int) < 5 := by omega
  have i0 : gIx M (.lst ((Txt.split line " ").map .str)) (.int 0) = some (.str p0) := ixl M (Txt.split line " ") 0 (p := p0) (by rw [hs]; rfl)
  have i1 : gIx M (.lst ((Txt.split line " ").map .str)) (.int 1) = some (.str p1) := ixl M (Txt.split line " ") 1 (p := p1) (by rw [hs]; rfl)
  have i2 : gIx M (.lst ((Txt.split line " ").map .str)) (.int 2) = some (.str p2) := ixl M (Txt.split line " ") 2 (p := p2) (by rw [hs]; rfl)
  have i3 : gIx M (.lst ((Txt.split line " ").map .str)) (.int 3) = some (.str p3) := ixl M (Txt.split line " ") 3 (p := p3) (by rw [hs]; rfl)
  have c4 := cut4 M (l := Txt.split line " ") (by omega)
  rw [show (Txt.split line " ").drop 4 = p4 :: r by rw [hs]; rfl] at c4
  generalize (Txt.split line " ").map D.str = PS at *
  have n2 := ne_str M p2 "->"
  have e1 := eq_str M p1 "-"
  have nm1 := law_is_name M p1
  have nm3 := law_is_name M p3
  have k0 := law_integer M p0
  have k3 := law_integer M p3
  have kn : F_law_names_in [.lst (.str p4 :: r.map .str)] M = .ok (oT (namesQ (p4 :: r))) M := law_names_in M (p4 :: r)
  by_cases h2 : p2 = "->"
  rotate_left
  · rw [decide_eq_false h2] at n2
    have e : lawQ5 p0 p1 p2 p3 (p4 :: r) = none := if_pos (.inl h2)
    rw [e, ret_seq (d := .non) (M' := M) (by
      simp [sIf, eOr, eTest, eBin, eCall, eBor, aSeq, aCons, aNil, kl, gLt, eC, bOf, g5, i2, n2, sRet, sBind])]
    rfl
  rw [decide_eq_true h2] at n2
  by_cases h1 : p1 = "-" ∨ isNm p1 = true
  rotate_left
  · have e : lawQ5 p0 p1 p2 p3 (p4 :: r) = none := if_pos (.inr h1)
    have z1 : ¬ p1 = ("-" : Str) := fun z => h1 (.inl z)
    have z2 : isNm p1 = false := by
      cases q : isNm p1 with
      | true => exact absurd (.inr q) h1
      | false => rfl
    rw [decide_eq_false z1] at e1
    rw [z2] at nm1
    rw [e, ret_seq (d := .non) (M' := M) (by
      simp [sIf, eOr, eNot, eTru, eFn, eTest, eBin, eCall, eBor, aSeq, aCons, aNil, kl, gLt, eC, bOf, g5, i1, i2, n2, e1, nm1, truD, sRet, sBind])]
    rfl
  rw [next_seq (ρ' := [.val (.str line), .val (.lst PS), .emp, .emp, .emp]) (M' := M) (by
    by_cases z1 : p1 = ("-" : Str)
    · rw [decide_eq_true z1] at e1
      simp [sIf, eOr, eNot, eTru, eFn, eTest, eBin, eCall, eBor, aSeq, aCons, aNil, kl, gLt, eC, bOf, g5, i1, i2, n2, e1, nm1, truD, sNext]
    · rw [decide_eq_false z1] at e1
      have z2 : isNm p1 = true := h1.resolve_left z1
      rw [z2] at nm1
      simp [sIf, eOr, eNot, eTru, eFn, eTest, eBin, eCall, eBor, aSeq, aCons, aNil, kl, gLt, eC, bOf, g5, i1, i2, n2, e1, nm1, truD, sNext])]
  rw [next_seq (ρ' := [.val (.str line), .val (.lst PS), .emp, .val (oD (canQ p0)), .val (oD (canQ p3))]) (M' := M) (by
    simp [sPar, aBind, eFn, eBin, eBor, eC, aSeq, aCons, aNil, i0, i3, k0, k3])]
  rw [next_seq (ρ' := [.val (.str line), .val (.lst PS), .val (oT (namesQ (p4 :: r))), .val (oD (canQ p0)), .val (oD (canQ p3))]) (M' := M) (by
    simp [sSet, sBind, eFn, eBor, eC, aSeq, aCons, aNil, eSl, oSome, oNone, iOf, c4, kn])]
  let td : D := match tgL p3 with
    | some t => t.d
    | none => .non
  rw [next_seq (ρ' := [.val (.str line), .val (.lst PS), .val (oT (namesQ (p4 :: r))), .val (oD (canQ p0)), .val td]) (M' := M) (by
    cases q3 : canQ p3 with
    | some m =>
      have ht : td = .int m := by simp only [td, tgL, q3]; rfl
      rw [ht]
      simp [sIf, eAnd, eTest, eBin, eBor, eC, is_non, oD, DD.isNon, bOf, sNext]
    | none =>
      cases b : isNm p3 with
      | true =>
        have ht : td = .str p3 := by simp only [td, tgL, q3, b, if_true]; rfl
        rw [b] at nm3
        rw [ht]
        simp [sIf, eAnd, eTest, eBin, eBor, eC, is_non, oD, DD.isNon, bOf, eTru, eFn, aSeq, aCons, aNil, i3, nm3, truD, sSet, sBind]
      | false =>
        have ht : td = .non := by simp only [td, tgL, q3, b]; rfl
        rw [b] at nm3
        rw [ht]
        simp [sIf, eAnd, eTest, eBin, eBor, eC, is_non, oD, DD.isNon, bOf, eTru, eFn, aSeq, aCons, aNil, i3, nm3, truD, sNext])]
  have e5 : lawQ5 p0 p1 p2 p3 (p4 :: r) = match canQ p0, tgL p3, namesQ (p4 :: r) with
      | some n, some t, some push => if push.length ≤ 20 ∧ (0 ≤ n ∧ n < 100) ∧ tgIn t = true then some ⟨n, topOf p1, t, push⟩ else none
      | _, _, _ => none := by
    unfold lawQ5
    rw [if_neg]
    exact fun z => z.elim (fun z => z h2) (fun z => z h1)
  rw [e5]
  have ht : ∀ t : Tg, isNon t.d = false := fun t => by cases t <;> rfl
  cases q0 : canQ p0 with
  | none =>
    rw [ret_seq (d := .non) (M' := M) (by
      simp [sIf, eOr, eTest, eBin, eBor, eC, is_non, oD, DD.isNon, bOf, sRet, sBind])]
    rfl
  | some n =>
    cases q3 : tgL p3 with
    | none =>
      have htd : td = .non := by simp only [td, q3]
      rw [htd, ret_seq (d := .non) (M' := M) (by
        simp [sIf, eOr, eTest, eBin, eBor, eC, is_non, oD, DD.isNon, bOf, sRet, sBind])]
      rfl
    | some t =>
      have htd : td = t.d := by simp only [td, q3]
      rw [htd]
      cases qn : namesQ (p4 :: r) with
      | none =>
        rw [ret_seq (d := .non) (M' := M) (by
          simp [sIf, eOr, eTest, eBin, eBor, eC, is_non, oD, oT, ht, nI, nT, nN, bOf, sRet, sBind])]
        rfl
      | some push =>
        have kp : kLen M [.tup (push.map .str)] = some (.int (push.length : Nat)) := by simp [kLen, seqOf]
        by_cases h20 : push.length ≤ 20
        rotate_left
        · have g : (20 : Int) < (push.length : Nat) := by omega
          simp only []
          rw [if_neg (fun z => h20 z.1), ret_seq (d := .non) (M' := M) (by
            simp [sIf, eOr, eTest, eBin, eBor, eC, is_non, oD, oT, ht, nI, nT, nN, bOf, eCall, aSeq, aCons, aNil, kp, gGt, g, sRet, sBind])]
          rfl
        have g : ¬ (20 : Int) < (push.length : Nat) := by omega
        rw [next_seq (ρ' := [.val (.str line), .val (.lst PS), .val (.tup (push.map .str)), .val (.int n), .val t.d]) (M' := M) (by
          simp [sIf, eOr, eTest, eBin, eBor, eC, is_non, oD, oT, ht, nI, nT, nN, bOf, eCall, aSeq, aCons, aNil, kp, gGt, g, sNext])]
        have fin : (sRet (eTup [(eVar 3), (eIf (eTest (eBin gEq (eBin gIx (eBor 1) (eC (.int 1))) (eC (.str "-")))) (eC (.str "")) (eBin gIx (eBor 1) (eC (.int 1)))), (eVar 4), (eVar 2)])) [.val (.str line), .val (.lst PS), .val (.tup (push.map .str)), .val (.int n), .val t.d] M = .rt (Rule.mk n (topOf p1) t push).d M := by
          by_cases z : p1 = ("-" : Str)
          · rw [decide_eq_true z] at e1
            have tt : topOf p1 = "" := if_pos z
            simp [sRet, sBind, eTup, aSeq, aCons, aNil, eVar, eIf, eTest, eBin, eBor, eC, i1, e1, bOf, tt, Rule.d]
          · rw [decide_eq_false z] at e1
            have tt : topOf p1 = p1 := if_neg z
            simp [sRet, sBind, eTup, aSeq, aCons, aNil, eVar, eIf, eTest, eBin, eBor, eC, i1, e1, bOf, tt, Rule.d]
        simp only []
        by_cases hn : 0 ≤ n ∧ n < 100
        rotate_left
        · rw [if_neg (fun z => hn z.2.1), ret_seq (d := .non) (M' := M) (by
            by_cases z : 0 ≤ n
            · have z2 : ¬ n < 100 := fun y => hn ⟨z, y⟩
              simp [sIf, eOr, eNot, eTest, eChain, eBor, eC, gLe, gLt, bOf, z, z2, sRet, sBind]
            · simp [sIf, eOr, eNot, eTest, eChain, eBor, eC, gLe, gLt, bOf, z, sRet, sBind])]
          rfl
        cases ti : tgIn t with
        | false =>
          rw [if_neg (fun z => by cases z.2.2), ret_seq (d := .non) (M' := M) (by
            cases t with
            | s w => cases ti
            | n m =>
              have tm : ¬ (0 ≤ m ∧ m < 100) := fun y => by
                simp only [tgIn, y.1, y.2, decide_true, Bool.and_self] at ti
                cases ti
              by_cases z : 0 ≤ m
              · have z2 : ¬ m < 100 := fun y => tm ⟨z, y⟩
                simp [sIf, eOr, eAnd, eNot, eTru, eTest, eChain, eBor, eC, gLe, gLt, bOf, hn.1, hn.2, eIsi, Tg.d, tyN, kinD, truD, z, z2, sRet, sBind]
              · simp [sIf, eOr, eAnd, eNot, eTru, eTest, eChain, eBor, eC, gLe, gLt, bOf, hn.1, hn.2, eIsi, Tg.d, tyN, kinD, truD, z, sRet, sBind])]
          rfl
        | true =>
          rw [if_pos ⟨h20, hn, rfl⟩, next_seq (ρ' := [.val (.str line), .val (.lst PS), .val (.tup (push.map .str)), .val (.int n), .val t.d]) (M' := M) (by
            cases t with
            | s w => simp [sIf, eOr, eAnd, eNot, eTru, eTest, eChain, eBor, eC, gLe, gLt, bOf, hn.1, hn.2, eIsi, Tg.d, tyN, kinD, truD, sNext]
            | n m =>
              simp only [tgIn, Bool.and_eq_true, decide_eq_true_eq] at ti
              simp [sIf, eOr, eAnd, eNot, eTru, eTest, eChain, eBor, eC, gLe, gLt, bOf, hn.1, hn.2, eIsi, Tg.d, tyN, kinD, truD, ti.1, ti.2, sNext]), fin]
          rfl
end K83

set_option Elab.async false
set_option linter.all false
set_option autoImplicit false
set_option maxRecDepth 100000
set_option maxHeartbeats 2000000
namespace K83
open PySem PySem.Spec L2 DD
/-! ### the program's reading is the law's -/
theorem join_nest (a b c d : Str) {l : List Str} (h : l ≠ []) : Str.join " " [a, b, c, d, Str.join " " l] = Str.join " " (a :: b :: c :: d :: l) := by
  cases l with
  | nil => exact absurd rfl h
  | cons x l => rfl
/-- the words behind a rule's text -/
def wordsOf (l : List Str) : List Str := if l = [] then [("-" : Str)] else l
theorem sp_words (l : List Str) : sp l = Str.join " " (wordsOf l) := by
  unfold sp wordsOf
  split
  · rfl
  · rw [tj]
theorem words_ne (l : List Str) : wordsOf l ≠ [] := by
  unfold wordsOf
  split <;> simp_all
theorem txt_join (r : Rule) : r.txt = Str.join " " (tS r.n :: topT r.top :: "->" :: r.t.txt :: wordsOf r.push) := by
  unfold Rule.txt
  rw [tj, sp_words, join_nest _ _ _ _ (words_ne _)]
theorem split_words {l : List Str} (hne : l ≠ []) (h : ∀ p ∈ l, 32 ∉ ch p) : Txt.split (Str.join " " l) " " = l := by
  have := TL.split_join (y := " ") (s := 32) (S := []) rfl (by decide +kernel) hne h
  rwa [tj] at this
theorem tS_ch {n : Int} (h : 0 ≤ n) : ch (tS n) = TL.numL n.toNat := by
  obtain ⟨k, rfl⟩ : ∃ k : Nat, n = k := ⟨n.toNat, by omega⟩
  exact TL.tl_num k
theorem num_dg (k : Nat) : dg (TL.numL k) = TL.numL k := by
  have h := TL.numL_digits k
  unfold dg
  split
  · rename_i r e
    have := h 45 (by rw [e]; exact List.mem_cons_self)
    omega
  · rfl
theorem dg_digs {c : Nat} (h : 48 ≤ c ∧ c ≤ 57) : c ∈ digs := by
  have key : ∀ c, c < 58 → 48 ≤ c → c ∈ digs := by decide +kernel
  exact key c (by omega) h.1
theorem numL_len {n : Int} (h0 : 0 ≤ n) (h1 : n < 100) : (TL.numL n.toNat).length ≤ 101 := by
  rw [← tS_ch h0, ← len_ch]
  exact tS_len h0 h1
theorem canQ_tS {n : Int} (h0 : 0 ≤ n) (h1 : n < 100) : numQ (tS n) = some n := by
  obtain ⟨k, rfl⟩ : ∃ k : Nat, n = k := ⟨n.toNat, by omega⟩
  have hc : ch (tS k) = TL.numL k := tS_ch h0
  have hl : (TL.numL k).length ≤ 101 := numL_len h0 h1
  have ok : numOk (tS k) := by
    refine ⟨?_, ?_, ?_⟩
    · rw [hc, num_dg]; exact TL.numL_ne k
    · rw [hc, num_dg]; omega
    · rw [hc, num_dg]
      exact List.all_eq_true.mpr fun c h => decide_eq_true (dg_digs (TL.numL_digits k c h))
  unfold numQ
  rw [if_pos ok]
  exact TL.int_num (by omega)
theorem nm_first {w : Str} (h : isNm w = true) : firstDg w = false ∧ numQ w = none := by
  have h1 := nm_letters h
  have h2 := (nm_len h).1
  rw [len_ch] at h2
  cases e : ch w with
  | nil => rw [e] at h2; simp at h2
  | cons c r =>
    rw [e] at h1
    have hc := h1 c List.mem_cons_self
    have nd : c ∉ digs := fun z => by
      have key : ∀ c ∈ digs, 48 ≤ c ∧ c ≤ 57 := by decide +kernel
      have := key c z
      omega
    refine ⟨by unfold firstDg; rw [e]; exact decide_eq_false nd, if_neg fun z => ?_⟩
    have d : dg (ch w) = c :: r := by rw [e]; unfold dg; split <;> simp_all
    have := z.2.2
    rw [d] at this
    exact nd (of_decide_eq_true (List.all_eq_true.mp this c List.mem_cons_self))
theorem tS_first {n : Int} (h0 : 0 ≤ n) : firstDg (tS n) = true := by
  obtain ⟨k, rfl⟩ : ∃ k : Nat, n = k := ⟨n.toNat, by omega⟩
  unfold firstDg
  cases e : ch (tS k) with
  | nil => rfl
  | cons c r =>
    have hc : ch (tS k) = TL.numL k := tS_ch h0
    exact decide_eq_true (dg_digs (TL.numL_digits k c (by rw [← hc, e]; exact List.mem_cons_self)))
theorem can_some {p : Str} {n : Int} (h : canQ p = some n) : numQ p = some n ∧ tS n = p := by
  unfold canQ at h
  cases e : numQ p with
  | none => rw [e] at h; cases h
  | some m =>
    rw [e] at h
    simp only [Option.bind_some] at h
    split at h
    · rename_i q; cases h; exact ⟨rfl, q⟩
    · cases h
theorem can_of {p : Str} {n : Int} (h : numQ p = some n) (h2 : tS n = p) : canQ p = some n := by
  unfold canQ
  rw [h]
  exact if_pos h2
theorem un_words (l : List Str) (h : ∀ w ∈ l, isNm w = true) : un (wordsOf l) = l := by
  unfold wordsOf
  split
  · rename_i e; rw [e]; exact if_pos rfl
  · rename_i e
    refine if_neg fun z => ?_
    have := nm_letters (h "-" (by rw [z]; exact List.mem_cons_self)) 45 (by show 45 ∈ ch "-"; decide +kernel)
    omega
theorem names_words (l : List Str) (h : ∀ w ∈ l, isNm w = true) : namesQ (wordsOf l) = some l := by
  unfold namesQ
  have u := un_words l h
  unfold un at u
  split at u
  · rename_i e; rw [if_pos e, ← u]
  · rename_i e
    rw [if_neg e, if_pos]
    · rw [u]
    · rw [u]; exact List.all_eq_true.mpr h
theorem top_back {s : Str} (h : s = "" ∨ isNm s = true) : topOf (topT s) = s := by
  unfold topT
  split
  · rename_i e; rw [e]; exact if_pos rfl
  · rename_i e
    refine if_neg fun z => ?_
    rcases h with h | h
    · exact e h
    · have := nm_letters h 45 (by rw [z]; show 45 ∈ ch "-"; decide +kernel)
      omega
theorem top_name {s : Str} (h : s = "" ∨ isNm s = true) : topT s = "-" ∨ isNm (topT s) = true := by
  unfold topT
  split
  · exact .inl rfl
  · rename_i e; exact .inr (h.resolve_left e)
theorem tg_back {t : Tg} (h : t.ok = true) : tgL t.txt = some t ∧ tgtQ t.txt = some t := by
  cases t with
  | n m =>
    simp only [Tg.ok, Bool.and_eq_true, decide_eq_true_eq] at h
    have q := canQ_tS h.1 h.2
    refine ⟨?_, ?_⟩
    · show tgL (tS m) = _
      unfold tgL
      rw [can_of q rfl]
    · show tgtQ (tS m) = _
      unfold tgtQ
      rw [if_pos (tS_first h.1), q]; rfl
  | s w =>
    have h : isNm w = true := h
    obtain ⟨h1, h2⟩ := nm_first h
    refine ⟨?_, ?_⟩
    · show tgL w = _
      unfold tgL canQ
      rw [h2]
      exact if_pos h
    · show tgtQ w = _
      unfold tgtQ
      rw [if_neg (by rw [h1]; decide)]
/-- no sign of a rule's words is a space or a line's end, no word is empty -/
structure Wd (p : Str) : Prop where
  sp : 32 ∉ ch p
  nl : 10 ∉ ch p
  ne : p ≠ ""
theorem nm_wd {w : Str} (h : isNm w = true) : Wd w := by
  have h1 := nm_letters h
  refine ⟨fun z => ?_, fun z => ?_, fun z => ?_⟩
  · have := h1 32 z; omega
  · have := h1 10 z; omega
  · have := (nm_len h).1
    rw [z] at this
    exact absurd this (by decide +kernel)
theorem lit_wd {w : Str} (h1 : 32 ∉ ch w) (h2 : 10 ∉ ch w) (h3 : ch w ≠ []) : Wd w := ⟨h1, h2, fun z => h3 (by rw [z]; rfl)⟩
theorem dash_wd : Wd "-" := lit_wd (by decide +kernel) (by decide +kernel) (by decide +kernel)
theorem arrow_wd : Wd "->" := lit_wd (by decide +kernel) (by decide +kernel) (by decide +kernel)
theorem tS_wd {n : Int} (h : 0 ≤ n) : Wd (tS n) := by
  have hd := TL.numL_digits n.toNat
  have hc := tS_ch h
  refine lit_wd (fun z => ?_) (fun z => ?_) (by rw [hc]; exact TL.numL_ne _)
  · rw [hc] at z; have := hd 32 z; omega
  · rw [hc] at z; have := hd 10 z; omega
theorem rule_wd {r : Rule} (h : r.Ok) : ∀ p ∈ tS r.n :: topT r.top :: "->" :: r.t.txt :: wordsOf r.push, Wd p := fun p hp => by
  simp only [List.mem_cons] at hp
  rcases hp with rfl | rfl | rfl | rfl | hp
  · exact tS_wd h.n0
  · rcases top_name h.top with z | z
    · rw [z]; exact dash_wd
    · exact nm_wd z
  · exact arrow_wd
  · have ht := h.t
    cases q : r.t with
    | n m =>
      rw [q] at ht
      simp only [Tg.ok, Bool.and_eq_true, decide_eq_true_eq] at ht
      exact tS_wd ht.1
    | s w => rw [q] at ht; exact nm_wd ht
  · unfold wordsOf at hp
    split at hp
    · rw [List.mem_singleton.mp hp]; exact dash_wd
    · exact nm_wd (h.nms p hp)
theorem split_txt {r : Rule} (h : r.Ok) : Txt.split r.txt " " = tS r.n :: topT r.top :: "->" :: r.t.txt :: wordsOf r.push := by
  rw [txt_join]
  exact split_words (by simp) fun p hp => (rule_wd h p hp).sp
theorem nl_txt {r : Rule} (h : r.Ok) : 10 ∉ ch r.txt := fun z => by
  rw [txt_join] at z
  obtain ⟨p, hp, q⟩ := join_mem (by decide) z
  exact (rule_wd h p hp).nl q
theorem words_cons (l : List Str) : ∃ x r, wordsOf l = x :: r := by
  cases h : wordsOf l with
  | nil => exact absurd h (words_ne l)
  | cons x r => exact ⟨x, r, rfl⟩
theorem tgIn_ok {t : Tg} (h : t.ok = true) : tgIn t = true := by
  cases t with
  | n m => exact h
  | s w => rfl
/-- both read a well-formed rule's text back -/
theorem back {r : Rule} (h : r.Ok) : lawQ r.txt = some r ∧ progQ r.txt = some r := by
  obtain ⟨x, xs, hx⟩ := words_cons r.push
  have hs := split_txt h
  rw [hx] at hs
  have q0 := canQ_tS h.n0 h.n1
  have tb := tg_back h.t
  have nw := names_words r.push h.nms
  have uw := un_words r.push h.nms
  rw [hx] at nw uw
  have tp := top_back h.top
  constructor
  · unfold lawQ
    rw [hs]
    show lawQ5 _ _ _ _ _ = _
    unfold lawQ5
    rw [if_neg (fun z => z.elim (fun z => z rfl) (fun z => z (top_name h.top))), can_of q0 rfl, tb.1, nw]
    simp only []
    rw [if_pos ⟨h.few, ⟨h.n0, h.n1⟩, tgIn_ok h.t⟩, tp]
  · unfold progQ
    rw [if_neg (nl_txt h), hs]
    simp only []
    rw [if_neg, q0, tb.2, uw, tp]
    · simp only [Option.bind_some]
      exact if_pos ⟨(Rule.ok_iff r).mpr h, trivial⟩
    · intro z
      rcases z with z | z
      · exact z rfl
      · have := rule_wd h "" (by rw [hx]; exact z)
        exact this.ne rfl
theorem prog_law {line : Str} {r : Rule} (h : progQ line = some r) : lawQ line = some r := by
  have key : r.Ok ∧ r.txt = line := by
    unfold progQ at h
    split at h
    · cases h
    · split at h
      · split at h
        · cases h
        · simp only [Option.bind_eq_some_iff] at h
          obtain ⟨n, _, t, _, h⟩ := h
          split at h
          · rename_i q
            cases h
            exact ⟨(Rule.ok_iff _).mp q.1, q.2⟩
          · cases h
      · cases h
  rw [← key.2]
  exact (back key.1).1
theorem law_prog {line : Str} {r : Rule} (h : lawQ line = some r) : progQ line = some r := by
  have key : r.Ok ∧ r.txt = line := by
    unfold lawQ at h
    split at h
    · rename_i p0 p1 p2 p3 p4 rs hs
      unfold lawQ5 at h
      split at h
      · cases h
      · rename_i hq
        split at h
        · rename_i n t push q0 q3 qn
          split at h
          · rename_i q
            cases h
            have h2 : p2 = "->" := Classical.byContradiction fun z => hq (.inl z)
            have h1 : p1 = "-" ∨ isNm p1 = true := Classical.byContradiction fun z => hq (.inr z)
            obtain ⟨a0, a1⟩ := can_some q0
            have ht : t.ok = true ∧ t.txt = p3 := by
              unfold tgL at q3
              split at q3
              · rename_i m qm
                cases q3
                exact ⟨q.2.2, (can_some qm).2⟩
              · split at q3
                · rename_i z; cases q3; exact ⟨z, rfl⟩
                · cases q3
            have hp : (∀ w ∈ push, isNm w = true) ∧ wordsOf push = p4 :: rs := by
              unfold namesQ at qn
              split at qn
              · rename_i z; cases qn; exact ⟨by simp, z.symm⟩
              · split at qn
                · rename_i z; cases qn; exact ⟨List.all_eq_true.mp z, if_neg (by simp)⟩
                · cases qn
            have htop : (topOf p1 = "" ∨ isNm (topOf p1) = true) ∧ topT (topOf p1) = p1 := by
              unfold topOf
              by_cases z : p1 = ("-" : Str)
              · rw [if_pos z]; exact ⟨.inl rfl, by rw [z]; exact if_pos rfl⟩
              · rw [if_neg z]
                have nm := h1.resolve_left z
                exact ⟨.inr nm, if_neg (nm_wd nm).ne⟩
            have ok : (Rule.mk n (topOf p1) t push).Ok := ⟨q.2.1.1, q.2.1.2, ht.1, htop.1, q.1, hp.1⟩
            refine ⟨ok, ?_⟩
            rw [txt_join]
            show Str.join " " (tS n :: topT (topOf p1) :: "->" :: t.txt :: wordsOf push) = line
            rw [a1, htop.2, ht.2, hp.2, ← h2, ← hs]
            exact StrLaws.join_split line " "
          · cases h
        · cases h
    · cases h
  rw [← key.2]
  exact (back key.1).2
theorem same {line : Str} : progQ line = lawQ line := by
  cases h : progQ line with
  | some r => exact (prog_law h).symm
  | none =>
    cases h2 : lawQ line with
    | none => rfl
    | some r => rw [law_prog h2] at h; cases h
end K83

set_option Elab.async false
set_option linter.all false
set_option autoImplicit false
set_option maxRecDepth 100000
set_option maxHeartbeats 2000000
namespace K83
open PySem PySem.Spec L2 DD
theorem format_rule (M : Mem) {r : Rule} (h : r.Ok) : Fformat_rule [r.d] M = .ok (.str r.txt) M := by
  have hf := formed M r
  rw [(Rule.ok_iff r).mpr h] at hf
  simp [Fformat_rule, sformat_rule, runB, sSeq, sIf, eNot, eTru, eFn, eVar, aSeq, aCons, aNil, hf, truD, sNext, sRet, sBind, rule_text M h]
theorem parse_rule (M : Mem) {line : Str} (hl : line.length ≤ 10000) : Fparse_rule [.str line] M = enc (lawQ line) M := by
  have h := rule_in M hl
  rw [same] at h
  cases q : lawQ line with
  | none => rw [q] at h; simp [Fparse_rule, sparse_rule, runB, sRet, sBind, eFn, eVar, aSeq, aCons, aNil, h, enc]
  | some r => rw [q] at h; simp [Fparse_rule, sparse_rule, runB, sRet, sBind, eFn, eVar, aSeq, aCons, aNil, h, enc]
theorem law_ok {line : Str} {r : Rule} (h : lawQ line = some r) : r.Ok := by
  have h2 := law_prog h
  unfold progQ at h2
  split at h2
  · cases h2
  · split at h2
    · split at h2
      · cases h2
      · simp only [Option.bind_eq_some_iff] at h2
        obtain ⟨n, _, t, _, h2⟩ := h2
        split at h2
        · rename_i q
          cases h2
          exact (Rule.ok_iff _).mp q.1
        · cases h2
    · cases h2
theorem plain_rule (r : Rule) : plainD r.d = true ∧ dep r.d ≤ 50 := by
  have h : clns (r.push.map D.str) = true := cln_strs r.push
  have h2 : deps (r.push.map D.str) = 0 := dep_strs r.push
  obtain ⟨n, top, t, push⟩ := r
  cases t <;> simp [Rule.d, Tg.d, plainD, cln, clns, dep, deps, h, h2] <;> omega
theorem small_log {m : Int} (h0 : 0 ≤ m) (h1 : m < 100) : m.natAbs.log2 < 1920 := by
  have : m.natAbs.log2 ≤ m.natAbs := Nat.log2_le_self _
  omega
theorem as_top {r : Rule} (h : r.Ok) : As r.top := by
  rcases h.top with z | z
  · rw [z]; intro c hc; cases hc
  · exact nm_as z
theorem sg_rule {r : Rule} (h : r.Ok) : sg r.d = true := by
  have h1 : sg (.int r.n) = true := by simp only [sg]; exact decide_eq_true (small_log h.n0 h.n1)
  have h2 : sg (.str r.top) = true := sg_str (as_top h)
  have h3 : sg r.t.d = true := by
    have ht := h.t
    cases q : r.t with
    | n m =>
      rw [q] at ht
      simp only [Tg.ok, Bool.and_eq_true, decide_eq_true_eq] at ht
      show sg (.int m) = true
      simp only [sg]; exact decide_eq_true (small_log ht.1 ht.2)
    | s w => rw [q] at ht; exact sg_str (nm_as ht)
  have h4 : sg (.tup (r.push.map .str)) = true := by
    show sgs _ = true
    exact sg_strs fun w hw => nm_as (h.nms w hw)
  show (sg (.int r.n) && (sg (.str r.top) && (sg r.t.d && (sg (.tup (r.push.map .str)) && true)))) = true
  rw [h1, h2, h3, h4]; rfl
theorem cst_rule {r : Rule} (h : r.Ok) : cst r.d ≤ 16000000 := by
  have h1 : cst (.int r.n) ≤ 102 := by have := h.n0; have := h.n1; simp only [cst]; omega
  have h2 : cst (.str r.top) ≤ 82 := by
    simp only [cst]
    rcases h.top with z | z
    · rw [z]; decide +kernel
    · have := nm_len z; omega
  have h3 : cst r.t.d ≤ 102 := by
    have ht := h.t
    cases q : r.t with
    | n m =>
      rw [q] at ht
      simp only [Tg.ok, Bool.and_eq_true, decide_eq_true_eq] at ht
      show cst (.int m) ≤ 102
      simp only [cst]; omega
    | s w =>
      rw [q] at ht
      have := nm_len ht
      show cst (.str w) ≤ 102
      simp only [cst]; omega
  have h4 := cst_strs (B := 8) (l := r.push) fun w hw => (nm_len (h.nms w hw)).2
  have h5 : r.push.length * (10 * 8 + 4) ≤ 20 * 84 := Nat.mul_le_mul_right _ h.few
  have h6 : cst (.tup (r.push.map .str)) = csts (r.push.map .str) + 3 := by simp only [cst]
  show csts [D.int r.n, .str r.top, r.t.d, .tup (r.push.map .str)] + 3 ≤ _
  simp only [csts]
  omega
theorem due_rule (M : Mem) {r : Rule} (h : r.Ok) : F_law_due [r.d] M = .ok (.str (showD (.lst [.str "told", r.d]))) M :=
  due_some M rfl (plain_rule r).1 (plain_rule r).2 (sg_rule h) (cst_rule h)
theorem txt_le {r : Rule} (h : r.Ok) : r.txt.length ≤ 2000 := by
  have h1 := tS_len h.n0 h.n1
  have h2 := topT_len h
  have h3 := (k_strT [] h.t).2
  have h4 := sp_le (ws := r.push) (fun w hw => (nm_len (h.nms w hw)).2) h.few
  have h5 : ("->" : Str).length = 2 := rfl
  have h6 := join_len " " [tS r.n, topT r.top, "->", r.t.txt, sp r.push]
  rw [if_neg (by simp), sp_len] at h6
  show (Txt.join " " _).length ≤ _
  rw [tj]
  simp only [List.map_cons, List.map_nil, List.sum_cons, List.sum_nil, List.length_cons, List.length_nil] at h6
  omega
theorem txt_as {r : Rule} (h : r.Ok) : As r.txt := fun c hc => by
  rw [txt_join] at hc
  by_cases q : c = 32
  · omega
  · obtain ⟨p, hp, h2⟩ := join_mem q hc
    simp only [List.mem_cons] at hp
    have num : ∀ {n : Int}, 0 ≤ n → c ∈ ch (tS n) → c < 128 := fun h0 z => by
      rw [tS_ch h0] at z
      have := TL.numL_digits _ c z
      omega
    have dash : c ∈ ch "-" → c < 128 := (show ∀ c ∈ ch "-", c < 128 by decide +kernel) c
    rcases hp with rfl | rfl | rfl | rfl | hp
    · exact num h.n0 h2
    · rcases top_name h.top with z | z
      · rw [z] at h2; exact dash h2
      · exact nm_as z c h2
    · exact (show ∀ c ∈ ch "->", c < 128 by decide +kernel) c h2
    · have ht := h.t
      cases qt : r.t with
      | n m =>
        rw [qt] at ht h2
        simp only [Tg.ok, Bool.and_eq_true, decide_eq_true_eq] at ht
        exact num ht.1 h2
      | s w => rw [qt] at ht h2; exact nm_as ht c h2
    · unfold wordsOf at hp
      split at hp
      · rw [List.mem_singleton.mp hp] at h2; exact dash h2
      · exact nm_as (h.nms p hp) c h2
/-! ### the loop over the bent texts -/
structure Rk (k : Nat) (r : Rule) (ρ : Sl) (M : Mem) : Prop where
  st : St k M
  sl : ∃ a : SV, ρ = [.val (.ref k), .val r.d, .val (.str r.txt), a, .emp]
theorem rules_step {k : Nat} {r : Rule} {o : Str} {ρ : Sl} {M : Mem} (ho : o.length ≤ 8001) (h : Rk k r ρ M) : ∃ ρ1, bName 3 ρ (.str o) = some ρ1 ∧ ∃ ρ' M', (sIf (eTest (eBin gNe (eCall kRepr [(eLam G_law_met (eFn Fparse_rule [(eVar 3)]))]) (eFn F_law_due [(eFn F_law_rule_in [(eVar 3)])]))) (sRet (eC (.bl false))) sNext) ρ1 M = .nx ρ' M' ∧ Rk k r ρ' M' := by
  obtain ⟨hs, a, rfl⟩ := h
  refine ⟨_, rfl, [.val (.ref k), .val r.d, .val (.str r.txt), .val (.str o), .emp], M, ?_, hs, .val (.str o), rfl⟩
  have hp := parse_rule M (line := o) (by omega)
  have hl := law_rule_in M (line := o) (by omega)
  simp only [List.set_cons_succ, List.set_cons_zero]
  cases q : lawQ o with
  | none =>
    rw [q] at hp hl
    have met := met_parse (th := fun M' => eFn Fparse_rule [eVar 3] [.val (.ref k), .val r.d, .val (.str r.txt), .val (.str o), .emp] M') (M := M) (M' := M) (by simp [eFn, aSeq, aCons, aNil, eVar, hp, enc])
    have ne := ne_same M (plain_str (showD (.lst [.str "parse"])))
    have hl' : F_law_rule_in [.str o] M = .ok .non M := hl
    simp only [sIf, eTest, eBin, eCall, aSeq, aCons, aNil, eLam, met, R.bind_ok, ofO_some, repr_parse]
    simp [eFn, eVar, aSeq, aCons, aNil, hl', due_non, ne, bOf, sNext]
  | some v =>
    rw [q] at hp hl
    have ok := law_ok q
    have met := met_told (th := fun M' => eFn Fparse_rule [eVar 3] [.val (.ref k), .val r.d, .val (.str r.txt), .val (.str o), .emp] M') (M := M) (M' := M) (d := v.d) (by simp [eFn, aSeq, aCons, aNil, eVar, hp, enc])
    have r1 := repr_told M (plain_rule v).1 (plain_rule v).2 (sg_rule ok) (cst_rule ok)
    have r2 := due_rule M ok
    have ne := ne_same M (plain_str (showD (.lst [.str "told", v.d])))
    have hl' : F_law_rule_in [.str o] M = .ok v.d M := hl
    simp only [sIf, eTest, eBin, eCall, aSeq, aCons, aNil, eLam, met, R.bind_ok, ofO_some, r1]
    simp [eFn, eVar, aSeq, aCons, aNil, hl', r2, ne, bOf, sNext]
end K83

set_option Elab.async false
set_option linter.all false
set_option autoImplicit false
set_option maxRecDepth 100000
set_option maxHeartbeats 2000000
namespace K83
open PySem PySem.Spec L2 DD
theorem strs_of {Q : Str → Prop} : ∀ {l' : List D}, (∀ y ∈ l', ∃ w : Str, Q w ∧ y = .str w) → ∃ ws : List Str, l' = ws.map .str ∧ ∀ w ∈ ws, Q w
  | [], _ => ⟨[], rfl, by simp⟩
  | y :: l', h => by
    obtain ⟨w, hw, rfl⟩ := h y List.mem_cons_self
    obtain ⟨ws, rfl, h2⟩ := strs_of (Q := Q) (l' := l') fun z hz => h z (List.mem_cons_of_mem _ hz)
    exact ⟨w :: ws, rfl, fun x hx => by
      rcases List.mem_cons.mp hx with rfl | hx
      · exact hw
      · exact h2 x hx⟩
theorem rule {k : Nat} {M : Mem} (h : St k M) : ∃ (r : Rule) (M' : Mem), F_law_rule [.ref k] M = .ok r.d M' ∧ r.Ok ∧ St k M' := by
  obtain ⟨l, M1, e1, g, _, ln, s1⟩ := names h (n := 3) (by decide) (by decide)
  obtain ⟨a, b, c, rfl⟩ : ∃ a b c, l = [a, b, c] := by
    match l, ln with
    | [a, b, c], _ => exact ⟨a, b, c, rfl⟩
  have na := g.nms a (by simp)
  have nb := g.nms b (by simp)
  have nc := g.nms c (by simp)
  obtain ⟨t0, M2, e2, t1, t2, s2⟩ := draw (t := 100) s1 (by decide) (by decide)
  obtain ⟨q, M3, e3, q0, q1, s3⟩ := draw (t := 4) s2 (by decide) (by decide)
  have x0 : ∀ M, gIx M (.tup [.str a, .str b, .str c]) (.int 0) = some (.str a) := fun M => rfl
  have x1 : ∀ M, gIx M (.tup [.str a, .str b, .str c]) (.int 1) = some (.str b) := fun M => rfl
  obtain ⟨t, ht, et⟩ : ∃ t : Tg, t.ok = true ∧ gIx M3 (.lst [.int t0, .int 0, .int 99, .str a]) (.int q) = some t.d := by
    have : q = 0 ∨ q = 1 ∨ q = 2 ∨ q = 3 := by omega
    rcases this with rfl | rfl | rfl | rfl
    · exact ⟨.n t0, by simp [Tg.ok, t1, t2], rfl⟩
    · exact ⟨.n 0, by decide, rfl⟩
    · exact ⟨.n 99, by decide, rfl⟩
    · exact ⟨.s a, na, rfl⟩
  obtain ⟨d0, M4, e4, d1, d2, s4⟩ := draw (t := 21) s3 (by decide) (by decide)
  obtain ⟨p, M5, e5, p0, p1, s5⟩ := draw (t := 5) s4 (by decide) (by decide)
  obtain ⟨z, z0, z1, ez⟩ : ∃ z : Int, 0 ≤ z ∧ z ≤ 20 ∧ gIx M5 (.lst [.int 0, .int 1, .int 2, .int 20, .int d0]) (.int p) = some (.int z) := by
    have : p = 0 ∨ p = 1 ∨ p = 2 ∨ p = 3 ∨ p = 4 := by omega
    rcases this with rfl | rfl | rfl | rfl | rfl
    · exact ⟨0, by decide, by decide, rfl⟩
    · exact ⟨1, by decide, by decide, rfl⟩
    · exact ⟨2, by decide, by decide, rfl⟩
    · exact ⟨20, by decide, by decide, rfl⟩
    · exact ⟨d0, d1, by omega, rfl⟩
  let ρ : Sl := [.val (.ref k), .val (.tup [.str a, .str b, .str c]), .val t.d, .val (.int z), .emp, .emp]
  obtain ⟨l', M6, e6, hl, hy, s6⟩ := compL_ex (bind := bName 5) (elt := eBin gIx (eBor 1) (eFn F_law_draw [(eVar 0), (eC (.int 3))])) (ρ := ρ) (I := St k) (Q := fun y => ∃ w : Str, isNm w = true ∧ y = .str w) (rngD 0 z.toNat) [] M5 (fun x hx M i => by
    obtain ⟨q, M2, e, q0, q1, s2⟩ := draw (t := 3) i (by decide) (by decide)
    obtain ⟨w, hw, _, e2⟩ := ix_strs (M := M2) (l := [a, b, c]) q0 q1
    refine ⟨_, .str w, M2, rfl, ?_, ⟨w, g.nms w hw, rfl⟩, s2⟩
    simp only [List.map_cons, List.map_nil] at e2
    simp [eBin, eBor, eFn, aSeq, aCons, aNil, eVar, eC, ρ, e, e2]) s5
  obtain ⟨push, rfl, hpush⟩ := strs_of hy
  have pl : push.length ≤ 20 := by
    rw [rng_len] at hl
    have : push.length = z.toNat := by simpa using hl
    omega
  obtain ⟨n, M7, e7, n0, n1, s7⟩ := draw (t := 100) s6 (by decide) (by decide)
  obtain ⟨u, M8, e8, u0, u1, s8⟩ := draw (t := 2) s7 (by decide) (by decide)
  obtain ⟨top, htop, eu⟩ : ∃ top : Str, (top = "" ∨ isNm top = true) ∧ gIx M8 (.lst [.str "", .str b]) (.int u) = some (.str top) := by
    have : u = 0 ∨ u = 1 := by omega
    rcases this with rfl | rfl
    · exact ⟨"", .inl rfl, rfl⟩
    · exact ⟨b, .inr nb, rfl⟩
  refine ⟨⟨n, top, t, push⟩, M8, ?_, ⟨n0, n1, ht, htop, pl, hpush⟩, s8⟩
  have e1' : F_law_names [.ref k, .int 3] M = .ok (.tup [.str a, .str b, .str c]) M1 := e1
  have hb : -4611686018427387904 ≤ z ∧ z ≤ 16777216 := by omega
  simp only [ρ, List.nil_append] at e6
  simp [F_law_rule, s_law_rule, runB, sSeq, sSet, sBind, eFn, eVar, eC, aSeq, aCons, aNil, e1', eBin, eLst, eBor, e2, e3, x0, x1, et, e4, e5, ez, eCall, eFrz, eComp, iRange1, hb, noOwn, wipeR, e6, kTuple, seqOf, lstOf, sRet, eTup, e7, e8, eu, Rule.d]
theorem repr_rule (M : Mem) {r : Rule} (h : r.Ok) : kRepr M [r.d] = some (.str (showD r.d)) := by
  have hz : sizeLine = 16777216 := sizeLine_eq
  have := cst_rule h
  exact k_repr_ok (plain_rule r).1 (sg_rule h) (by omega)
theorem rule_right {k : Nat} {M : Mem} (h : St k M) : ∃ M', F_law_rule_right [.ref k] M = .ok (.bl true) M' ∧ St k M' := by
  obtain ⟨r, M1, e1, ok, s1⟩ := rule h
  have e2 := law_rule_text M1 ok
  have tl := txt_le ok
  have ta := txt_as ok
  let ρ : Sl := [.val (.ref k), .val r.d, .val (.str r.txt), .emp, .emp]
  have met := met_told (th := fun M' => eFn Fformat_rule [eVar 1] ρ M') (M := M1) (M' := M1) (d := .str r.txt) (by simp [eFn, aSeq, aCons, aNil, eVar, ρ, format_rule M1 ok])
  have ne := ne_same M1 (plain_told r.txt)
  have ne2 := ne_same M1 (plain_str (showD r.d))
  have lr : F_law_rule_in [.str r.txt] M1 = .ok r.d M1 := by
    rw [law_rule_in M1 (by omega), (back ok).1]; rfl
  have rr := repr_rule M1 ok
  obtain ⟨ts, M4, e5, tn, tb, s4⟩ := bents s1 (s := r.txt) tl ta (n := 6) ρ (i := 4) (j := 2) rfl rfl (by decide) (by decide)
  have ec := cat_l M4 (l := [r.txt, r.txt]) (m := ts) (by simp; omega)
  obtain ⟨ρ', M', e6, hk⟩ := forL_inv0 (l := ([r.txt, r.txt] ++ ts).map D.str) (fun _ ρ M => Rk k r ρ M) (ρ := ρ) (M := M4) ⟨s4, .emp, rfl⟩ (fun i d ρ M hd hI => by
    obtain ⟨o, ho, rfl⟩ := lst_get hd
    refine rules_step ?_ hI
    simp only [List.cons_append, List.nil_append, List.mem_cons] at ho
    rcases ho with rfl | rfl | ho
    · omega
    · omega
    · exact tb o ho)
  refine ⟨M', ?_, hk.st⟩
  simp only [List.map_cons, List.map_nil] at ec
  simp only [ρ] at met e5 e6
  have hit : iAny (eBin gAdd (eLst [(eVar 2), (eVar 2)]) (eFrz (eComp (iRange1 [(eC (.int 6))]) (bName 4) bYes (eFn F_law_bent [(eVar 0), (eVar 2)]) [4]))) [.val (.ref k), .val r.d, .val (.str r.txt), .emp, .emp] M1 = .ok (([r.txt, r.txt] ++ ts).map D.str) M4 := by
    simp [iAny, eFrz, eComp, iRange1, eBin, eLst, eC, eVar, aSeq, aCons, aNil, noOwn, wipeR, e5, ec]
  have hfor : ∀ body, sFor (iAny (eBin gAdd (eLst [(eVar 2), (eVar 2)]) (eFrz (eComp (iRange1 [(eC (.int 6))]) (bName 4) bYes (eFn F_law_bent [(eVar 0), (eVar 2)]) [4])))) (bName 3) body [.val (.ref k), .val r.d, .val (.str r.txt), .emp, .emp] M1 = forL (bName 3) body (([r.txt, r.txt] ++ ts).map D.str) [.val (.ref k), .val r.d, .val (.str r.txt), .emp, .emp] M4 := fun body => by
    unfold sFor
    rw [hit]
  have hall := (hfor _).trans e6
  unfold F_law_rule_right s_law_rule_right
  generalize sFor _ _ _ = FB at hall ⊢
  simp only [runB, List.map_cons, List.map_nil, List.replicate, List.cons_append, List.nil_append]
  simp only [sSeq, sSet, sBind, eFn, eVar, aSeq, aCons, aNil, R.bind_ok, List.getElem?_cons_zero, List.getElem?_cons_succ, List.set_cons_zero, List.set_cons_succ, e1, e2]
  simp only [sIf, eOr, eTest, eBin, eLam, met, eLst, aSeq, aCons, aNil, eC, eVar, R.bind_ok, List.getElem?_cons_zero, List.getElem?_cons_succ, ne, ofO_some, bOf, sNext]
  simp [eCall, eFn, aSeq, aCons, aNil, eVar, eBor, lr, rr, ne2, hall, sRet, sBind, eC]
end K83

set_option Elab.async false
set_option linter.all false
set_option autoImplicit false
set_option maxRecDepth 100000
set_option maxHeartbeats 2000000
namespace K83
open PySem PySem.Spec L2 DD
def R0 : Rule := ⟨10, "class", .s "never", ["labels", "class"]⟩
theorem R0_ok : R0.Ok := (Rule.ok_iff R0).mp (by decide +kernel)
theorem R0_txt : R0.txt = "10 class -> never labels class" := by decide +kernel
theorem L0_good : Good ["class", "entry", "never"] := ⟨by decide, by decide, by decide +kernel, by decide +kernel⟩
theorem words_right (M : Mem) : F_law_words_right [] M = .ok (.bl true) M := by
  have hf := format_rule M R0_ok
  have hp := parse_rule M (line := R0.txt) (by have := txt_le R0_ok; omega)
  rw [(back R0_ok).1] at hp
  rw [R0_txt] at hf hp
  have hs := parse_stack M L0_good (s := "never class") (by decide +kernel)
  have sp0 : un (Txt.split "never class" " ") = [("never" : Str), "class"] := by decide +kernel
  rw [if_neg (by rw [sp0]; decide +kernel), sp0] at hs
  let ρ : Sl := [.val R0.d, .val (.tup [.str "class", .str "entry", .str "never"])]
  have m1 := met_told (th := fun M' => eFn Fformat_rule [eVar 0] ρ M') (M := M) (M' := M) (d := .str "10 class -> never labels class") (by simp [eFn, aSeq, aCons, aNil, eVar, ρ, hf])
  have m2 := met_told (th := fun M' => eFn Fparse_rule [eC (.str "10 class -> never labels class")] ρ M') (M := M) (M' := M) (d := R0.d) (by simp [eFn, aSeq, aCons, aNil, eC, hp, enc])
  have m3 := met_told (th := fun M' => eFn Fparse_stack [eVar 1, eC (.str "never class")] ρ M') (M := M) (M' := M) (d := .tup [.str "never", .str "class"]) (by
    simp only [List.map_cons, List.map_nil] at hs
    simp [eFn, aSeq, aCons, aNil, eC, eVar, ρ, hs])
  have n1 := ne_same M (plain_told "10 class -> never labels class")
  have n2 := ne_same M (plain_two "told" (plain_rule R0).1 (plain_rule R0).2)
  have n3 : gEq M (.lst [.str "told", .tup [.str "never", .str "class"]]) (.lst [.str "told", .tup [.str "never", .str "class"]]) = some (.bl true) := by
    have p : plainD (.lst [.str "told", .tup [.str "never", .str "class"]]) = true := plain_two "told" (plain_tup ["never", "class"]) (by decide)
    simp only [gEq, p, Bool.and_self, if_true, eqv_refl]
  have t1 : sTg (bTup 2 (bCons (bName 0) (bCons (bName 1) bNil))) (eTup [(eTup [(eC (.int 10)), (eC (.str "class")), (eC (.str "never")), (eTup [(eC (.str "labels")), (eC (.str "class"))])]), (eTup [(eC (.str "class")), (eC (.str "entry")), (eC (.str "never"))])]) [.emp, .emp] M = .nx ρ M := rfl
  unfold F_law_words_right s_law_words_right runB
  simp only [List.map_nil, List.replicate, List.nil_append]
  rw [next_seq t1]
  rw [next_seq (ρ' := ρ) (M' := M) (by
    simp only [sIf, eTest, eBin, eLam, m1, R.bind_ok, eLst, aSeq, aCons, aNil, eC, n1, ofO_some, bOf]
    rfl)]
  rw [next_seq (ρ' := ρ) (M' := M) (by
    have v0 : eVar 0 ρ M = .ok R0.d M := rfl
    simp only [sIf, eTest, eBin, eLam, m2, R.bind_ok, eLst, aSeq, aCons, aNil, eC, v0, n2, ofO_some, bOf]
    rfl)]
  simp only [sRet, sBind, eBin, eLam, m3, R.bind_ok, eLst, eTup, aSeq, aCons, aNil, eC, n3, ofO_some]
theorem log_big {n : Int} : CMul n 7046029267 := .inr ⟨by decide, by decide⟩
theorem stream {ns : List Int} {i : Nat} {M : Mem} : ∃ M', F_law_stream [.lst (ns.map .int), .int i] M = .ok (.ref M.length) M' ∧ St M.length M' := by
  obtain ⟨C, p18⟩ : ∃ C : Int, ∀ M, gPow M (.int 10) (.int 18) = some (.int C) := ⟨10 ^ 18, fun M => by
    simp only [gPow]; rw [if_pos ⟨by decide, by decide +kernel⟩]; rfl⟩
  obtain ⟨A, B, p60, p11, B0⟩ : ∃ A B : Int, (∀ M, gPow M (.int 10) (.int 60) = some (.int A)) ∧ (∀ M, gPow M (.int A) (.int 11) = some (.int B)) ∧ 0 < B := ⟨10 ^ 60, (10 ^ 60) ^ 11, fun M => by
    simp only [gPow]; rw [if_pos ⟨by decide, by decide +kernel⟩]; rfl, fun M => by
    simp only [gPow]; rw [if_pos ⟨by decide, by decide +kernel⟩]; rfl, by decide +kernel⟩
  have m1 : ∀ M (x : Int), gMul M (.int 7) (.int x) = some (.int (7 * x)) := fun M x => mul_l (by decide)
  have m2 : ∀ M (x : Int), gMul M (.int x) (.int 7046029267) = some (.int (x * 7046029267)) := fun M x => mul_r (by decide)
  have m3 : ∀ M (x : Int), gMul M (.int 804379) (.int x) = some (.int (804379 * x)) := fun M x => mul_l (by decide)
  have m4 : ∀ M (x : Int), gMul M (.int 5) (.int x) = some (.int (5 * x)) := fun M x => mul_l (by decide)
  have a0 : ∀ M (x y : Int), gAdd M (.int x) (.int y) = some (.int (x + y)) := fun M x y => by simp [gAdd]
  have mo : ∀ M (x : Int), gMod M (.int x) (.int B) = some (.int (x % B)) := fun M x => by
    simp only [gMod]; rw [if_pos B0]
  have mo2 : ∀ M (x : Int), gMod M (.int x) (.int 4294967161) = some (.int (x % 4294967161)) := fun M x => by
    simp only [gMod]; rw [if_pos (by decide)]
  have kl : ∀ M, kLen M [.lst (ns.map .int)] = some (.int (ns.length : Nat)) := fun M => by simp [kLen, seqOf, lstOf]
  have cell : ∃ c : Int, sSeq (sSet 2 (eBin gAdd (eBin gMul (eC (.int 7)) (eBor 1)) (eC (.int 2)))) (sIf (eTest (eBin gLt (eBor 1) (eCall kLen [(eBor 0)]))) (sSet 2 (eBin gIx (eBor 0) (eBor 1))) sNext) [.val (.lst (ns.map .int)), .val (.int i), .emp, .emp] M = .nx [.val (.lst (ns.map .int)), .val (.int i), .val (.int c), .emp] M := by
    by_cases h : i < ns.length
    · have h' : (i : Int) < (ns.length : Nat) := by omega
      have ix : gIx M (.lst (ns.map .int)) (.int i) = some (.int ns[i]) := by
        simp only [gIx, seqOf, lstOf, Option.bind_some, atI, ixN, List.length_map]
        rw [if_pos (by omega), if_pos (by omega)]
        simp [h]
      exact ⟨ns[i], by simp [sSeq, sSet, sBind, eBin, eC, eBor, m1, a0, sIf, eTest, eCall, aSeq, aCons, aNil, kl, gLt, h, h', bOf, ix]⟩
    · have h' : ¬ (i : Int) < (ns.length : Nat) := by omega
      exact ⟨7 * i + 2, by simp [sSeq, sSet, sBind, eBin, eC, eBor, m1, a0, sIf, eTest, eCall, aSeq, aCons, aNil, kl, gLt, h, h', bOf, sNext]⟩
  obtain ⟨c, hc⟩ := cell
  have assoc : ∀ (f g h : SS) (ρ : Sl) (M : Mem), sSeq f (sSeq g h) ρ M = sSeq (sSeq f g) h ρ M := fun f g h ρ M => by
    unfold sSeq
    cases f ρ M <;> rfl
  obtain ⟨y, hy⟩ : ∃ y, y = F_law_stream [.lst (ns.map .int), .int i] M := ⟨_, rfl⟩
  have e := hy
  unfold F_law_stream s_law_stream runB at e
  simp only [List.map_cons, List.map_nil, List.replicate, List.cons_append, List.nil_append] at e
  rw [assoc, next_seq hc] at e
  simp [sSeq, sSet, sBind, eBin, eC, eBor, eCall, kAbs, aSeq, aCons, aNil, p60, p11, mo, sRet, eShr, kMax, p18, DD.gSub, a0, m2, m3, m4, mo2, gLt, kInt] at e
  exact ⟨_, hy.symm.trans e, _, _, _, (List.getElem?_append_right (Nat.le_refl _)).trans (by rw [Nat.sub_self]; rfl)⟩
theorem law_true : ∀ (ns : List Int), ns.length ≤ 63 → (∀ z ∈ ns, Builtin.Int.intBits z ≤ 1048576) → ∃ M, Flaw [.lst (ns.map .int)] [] = .ok (.bl true) M := fun ns hn _ => by
  have kl : ∀ M, kLen M [.lst (ns.map .int)] = some (.int (ns.length : Nat)) := fun M => by simp [kLen, seqOf, lstOf]
  obtain ⟨z, hz, z0, z1⟩ : ∃ z : Int, (iRange1 [(eCall kMax [(eC (.int 1)), (eCall kMin [(eC (.int 8)), (eCall kLen [(eBor 0)])])])]) [.val (.lst (ns.map .int)), .emp, .emp] [] = .ok (rngD 0 z.toNat) [] ∧ 0 ≤ z ∧ z ≤ 8 := by
    refine ⟨if (if (ns.length : Int) < 8 then (ns.length : Int) else 8) > 1 then (if (ns.length : Int) < 8 then (ns.length : Int) else 8) else 1, ?_, ?_, ?_⟩
    · have hb : -4611686018427387904 ≤ (if (if (ns.length : Int) < 8 then (ns.length : Int) else 8) > 1 then (if (ns.length : Int) < 8 then (ns.length : Int) else 8) else 1) ∧ (if (if (ns.length : Int) < 8 then (ns.length : Int) else 8) > 1 then (if (ns.length : Int) < 8 then (ns.length : Int) else 8) else 1) ≤ 16777216 := by
        constructor <;> (split <;> (try split) <;> omega)
      simp only [iRange1, eCall, aSeq, aCons, aNil, eC, eBor, R.bind_ok, List.getElem?_cons_zero, kl, ofO_some, kMin, kMax]
      rw [if_pos hb]
    · split <;> (try split) <;> omega
    · split <;> (try split) <;> omega
  obtain ⟨ρ', M', e, hI⟩ := forL_inv0 (l := rngD 0 z.toNat) (bind := bName 1) (body := (sSeq (sSet 2 (eFn F_law_stream [(eVar 0), (eVar 1)]))
    (sIf (eOr (eNot (eTru (eFn F_law_stack_right [(eVar 2)]))) (eNot (eTru (eFn F_law_rule_right [(eVar 2)])))) (sRet (eC (.bl false))) sNext))) (fun _ ρ M => ∃ a b : SV, ρ = [.val (.lst (ns.map .int)), a, b]) (ρ := [.val (.lst (ns.map .int)), .emp, .emp]) (M := []) ⟨_, _, rfl⟩ (fun i d ρ M hd hI => by
    obtain ⟨a, b, rfl⟩ := hI
    obtain ⟨rfl, hi⟩ := rng_get hd
    obtain ⟨M1, e1, s1⟩ := stream (ns := ns) (i := i) (M := M)
    obtain ⟨M2, e2, s2⟩ := stack_right s1
    obtain ⟨M3, e3, s3⟩ := rule_right s2
    refine ⟨_, rfl, [.val (.lst (ns.map .int)), .val (.int i), .val (.ref M.length)], M3, ?_, _, _, rfl⟩
    simp [sSeq, sSet, sBind, eFn, aSeq, aCons, aNil, eVar, e1, sIf, eOr, eNot, eTru, e2, e3, truD, sNext])
  refine ⟨M', ?_⟩
  have hfor : sFor (iRange1 [(eCall kMax [(eC (.int 1)), (eCall kMin [(eC (.int 8)), (eCall kLen [(eBor 0)])])])]) (bName 1) (sSeq (sSet 2 (eFn F_law_stream [(eVar 0), (eVar 1)]))
    (sIf (eOr (eNot (eTru (eFn F_law_stack_right [(eVar 2)]))) (eNot (eTru (eFn F_law_rule_right [(eVar 2)])))) (sRet (eC (.bl false))) sNext)) [.val (.lst (ns.map .int)), .emp, .emp] [] = .nx ρ' M' := by
    unfold sFor
    rw [hz]
    exact e
  unfold Flaw slaw
  generalize sFor _ _ _ = FB at hfor ⊢
  simp [runB, sSeq, hfor, sRet, sBind, eFn, aSeq, aNil, words_right]
end K83

set_option Elab.async false
set_option linter.all false
set_option autoImplicit false
set_option maxRecDepth 100000
set_option maxHeartbeats 4000000
namespace K83
open PySem PySem.Spec L2 DD
theorem all_mk {l : PySem.W.OpenLaw} {w : World} {K : PySem.W.Frag} {h : Heap} {mg : Str → Option Value} {fa : Addr} (X : K.In h) (GG : h.Ns PySem.mainGlobals mg) (hfa : mg "law" = some (.ref fa))
    {A_InvalidInterface A_InvalidLabels A_InvalidModule A_InvalidRule A_InvalidStack A_InvalidWires A_ParseError A_PileError A_TooLarge fis_integer fis_name fis_ascending fare_names fis_word fis_labels frequire_labels fnumber_in fparts_text fparts_in fparts_of fchecked ftop_text fis_target fis_formed_rule frule_text ftarget_in frule_in fformat_stack fparse_stack fformat_rule fparse_rule f_law_stream f_law_draw f_law_letters f_law_names f_law_word f_law_spelled f_law_is_name f_law_integer f_law_names_in f_law_rule_in f_law_rule_text f_law_rule f_law_bent f_law_met f_law_due f_law_stack_right f_law_rule_right f_law_words_right flaw : Addr}
    {T_ARROW T_DIGITS T_EMPTY T_LETTERS T_MAX_DIGITS T_MAX_LABELS T_MAX_LETTERS T_MAX_PUSH T_MAX_STATES T_NONE : Tok}
    {odis_integer anis_integer : Option Addr} {slis_integer : Array (Option Value)} {ocis_integer kVis_integer dcis_integer pmis_integer cdis_integer ctis_integer : Value}
    {odis_name anis_name : Option Addr} {slis_name : Array (Option Value)} {ocis_name kVis_name dcis_name pmis_name cdis_name ctis_name : Value}
    {odis_ascending anis_ascending : Option Addr} {slis_ascending : Array (Option Value)} {ocis_ascending kVis_ascending dcis_ascending pmis_ascending cdis_ascending ctis_ascending : Value}
    {odare_names anare_names : Option Addr} {slare_names : Array (Option Value)} {ocare_names kVare_names dcare_names pmare_names cdare_names ctare_names : Value}
    {odis_word anis_word : Option Addr} {slis_word : Array (Option Value)} {ocis_word kVis_word dcis_word pmis_word cdis_word ctis_word : Value}
    {odis_labels anis_labels : Option Addr} {slis_labels : Array (Option Value)} {ocis_labels kVis_labels dcis_labels pmis_labels cdis_labels ctis_labels : Value}
    {odrequire_labels anrequire_labels : Option Addr} {slrequire_labels : Array (Option Value)} {ocrequire_labels kVrequire_labels dcrequire_labels pmrequire_labels cdrequire_labels ctrequire_labels : Value}
    {odnumber_in annumber_in : Option Addr} {slnumber_in : Array (Option Value)} {ocnumber_in kVnumber_in dcnumber_in pmnumber_in cdnumber_in ctnumber_in : Value}
    {odparts_text anparts_text : Option Addr} {slparts_text : Array (Option Value)} {ocparts_text kVparts_text dcparts_text pmparts_text cdparts_text ctparts_text : Value}
    {odparts_in anparts_in : Option Addr} {slparts_in : Array (Option Value)} {ocparts_in kVparts_in dcparts_in pmparts_in cdparts_in ctparts_in : Value}
    {odparts_of anparts_of : Option Addr} {slparts_of : Array (Option Value)} {ocparts_of kVparts_of dcparts_of pmparts_of cdparts_of ctparts_of : Value}
    {odchecked anchecked : Option Addr} {slchecked : Array (Option Value)} {occhecked kVchecked dcchecked pmchecked cdchecked ctchecked : Value}
    {odtop_text antop_text : Option Addr} {sltop_text : Array (Option Value)} {octop_text kVtop_text dctop_text pmtop_text cdtop_text cttop_text : Value}
    {odis_target anis_target : Option Addr} {slis_target : Array (Option Value)} {ocis_target kVis_target dcis_target pmis_target cdis_target ctis_target : Value}
    {odis_formed_rule anis_formed_rule : Option Addr} {slis_formed_rule : Array (Option Value)} {ocis_formed_rule kVis_formed_rule dcis_formed_rule pmis_formed_rule cdis_formed_rule ctis_formed_rule : Value}
    {odrule_text anrule_text : Option Addr} {slrule_text : Array (Option Value)} {ocrule_text kVrule_text dcrule_text pmrule_text cdrule_text ctrule_text : Value}
    {odtarget_in antarget_in : Option Addr} {sltarget_in : Array (Option Value)} {octarget_in kVtarget_in dctarget_in pmtarget_in cdtarget_in cttarget_in : Value}
    {odrule_in anrule_in : Option Addr} {slrule_in : Array (Option Value)} {ocrule_in kVrule_in dcrule_in pmrule_in cdrule_in ctrule_in : Value}
    {odformat_stack anformat_stack : Option Addr} {slformat_stack : Array (Option Value)} {ocformat_stack kVformat_stack dcformat_stack pmformat_stack cdformat_stack ctformat_stack : Value}
    {odparse_stack anparse_stack : Option Addr} {slparse_stack : Array (Option Value)} {ocparse_stack kVparse_stack dcparse_stack pmparse_stack cdparse_stack ctparse_stack : Value}
    {odformat_rule anformat_rule : Option Addr} {slformat_rule : Array (Option Value)} {ocformat_rule kVformat_rule dcformat_rule pmformat_rule cdformat_rule ctformat_rule : Value}
    {odparse_rule anparse_rule : Option Addr} {slparse_rule : Array (Option Value)} {ocparse_rule kVparse_rule dcparse_rule pmparse_rule cdparse_rule ctparse_rule : Value}
    {od_law_stream an_law_stream : Option Addr} {sl_law_stream : Array (Option Value)} {oc_law_stream kV_law_stream dc_law_stream pm_law_stream cd_law_stream ct_law_stream : Value}
    {od_law_draw an_law_draw : Option Addr} {sl_law_draw : Array (Option Value)} {oc_law_draw kV_law_draw dc_law_draw pm_law_draw cd_law_draw ct_law_draw : Value}
    {od_law_letters an_law_letters : Option Addr} {sl_law_letters : Array (Option Value)} {oc_law_letters kV_law_letters dc_law_letters pm_law_letters cd_law_letters ct_law_letters : Value}
    {od_law_names an_law_names : Option Addr} {sl_law_names : Array (Option Value)} {oc_law_names kV_law_names dc_law_names pm_law_names cd_law_names ct_law_names : Value}
    {od_law_word an_law_word : Option Addr} {sl_law_word : Array (Option Value)} {oc_law_word kV_law_word dc_law_word pm_law_word cd_law_word ct_law_word : Value}
    {od_law_spelled an_law_spelled : Option Addr} {sl_law_spelled : Array (Option Value)} {oc_law_spelled kV_law_spelled dc_law_spelled pm_law_spelled cd_law_spelled ct_law_spelled : Value}
    {od_law_is_name an_law_is_name : Option Addr} {sl_law_is_name : Array (Option Value)} {oc_law_is_name kV_law_is_name dc_law_is_name pm_law_is_name cd_law_is_name ct_law_is_name : Value}
    {od_law_integer an_law_integer : Option Addr} {sl_law_integer : Array (Option Value)} {oc_law_integer kV_law_integer dc_law_integer pm_law_integer cd_law_integer ct_law_integer : Value}
    {od_law_names_in an_law_names_in : Option Addr} {sl_law_names_in : Array (Option Value)} {oc_law_names_in kV_law_names_in dc_law_names_in pm_law_names_in cd_law_names_in ct_law_names_in : Value}
    {od_law_rule_in an_law_rule_in : Option Addr} {sl_law_rule_in : Array (Option Value)} {oc_law_rule_in kV_law_rule_in dc_law_rule_in pm_law_rule_in cd_law_rule_in ct_law_rule_in : Value}
    {od_law_rule_text an_law_rule_text : Option Addr} {sl_law_rule_text : Array (Option Value)} {oc_law_rule_text kV_law_rule_text dc_law_rule_text pm_law_rule_text cd_law_rule_text ct_law_rule_text : Value}
    {od_law_rule an_law_rule : Option Addr} {sl_law_rule : Array (Option Value)} {oc_law_rule kV_law_rule dc_law_rule pm_law_rule cd_law_rule ct_law_rule : Value}
    {od_law_bent an_law_bent : Option Addr} {sl_law_bent : Array (Option Value)} {oc_law_bent kV_law_bent dc_law_bent pm_law_bent cd_law_bent ct_law_bent : Value}
    {od_law_met an_law_met : Option Addr} {sl_law_met : Array (Option Value)} {oc_law_met kV_law_met dc_law_met pm_law_met cd_law_met ct_law_met : Value}
    {od_law_due an_law_due : Option Addr} {sl_law_due : Array (Option Value)} {oc_law_due kV_law_due dc_law_due pm_law_due cd_law_due ct_law_due : Value}
    {od_law_stack_right an_law_stack_right : Option Addr} {sl_law_stack_right : Array (Option Value)} {oc_law_stack_right kV_law_stack_right dc_law_stack_right pm_law_stack_right ct_law_stack_right : Value} {C_law_stack_right P_law_stack_right : Addr}
    {od_law_rule_right an_law_rule_right : Option Addr} {sl_law_rule_right : Array (Option Value)} {oc_law_rule_right kV_law_rule_right dc_law_rule_right pm_law_rule_right ct_law_rule_right : Value} {C_law_rule_right P_law_rule_right : Addr}
    {od_law_words_right an_law_words_right : Option Addr} {sl_law_words_right : Array (Option Value)} {oc_law_words_right kV_law_words_right dc_law_words_right pm_law_words_right ct_law_words_right : Value} {C_law_words_right P_law_words_right : Addr}
    {odlaw anlaw : Option Addr} {sllaw : Array (Option Value)} {oclaw kVlaw dclaw pmlaw cdlaw ctlaw : Value}
    (hA_InvalidInterface : PySem.W.nsIn K PySem.mainGlobals "InvalidInterface" = some (some (.ref A_InvalidInterface)))
    (hA_InvalidLabels : PySem.W.nsIn K PySem.mainGlobals "InvalidLabels" = some (some (.ref A_InvalidLabels)))
    (hA_InvalidModule : PySem.W.nsIn K PySem.mainGlobals "InvalidModule" = some (some (.ref A_InvalidModule)))
    (hA_InvalidRule : PySem.W.nsIn K PySem.mainGlobals "InvalidRule" = some (some (.ref A_InvalidRule)))
    (hA_InvalidStack : PySem.W.nsIn K PySem.mainGlobals "InvalidStack" = some (some (.ref A_InvalidStack)))
    (hA_InvalidWires : PySem.W.nsIn K PySem.mainGlobals "InvalidWires" = some (some (.ref A_InvalidWires)))
    (hA_ParseError : PySem.W.nsIn K PySem.mainGlobals "ParseError" = some (some (.ref A_ParseError)))
    (hA_PileError : PySem.W.nsIn K PySem.mainGlobals "PileError" = some (some (.ref A_PileError)))
    (hA_TooLarge : PySem.W.nsIn K PySem.mainGlobals "TooLarge" = some (some (.ref A_TooLarge)))
    (hB_abs : PySem.W.nsIn K PySem.mainGlobals "abs" = some none)
    (hB_all : PySem.W.nsIn K PySem.mainGlobals "all" = some none)
    (hB_bool : PySem.W.nsIn K PySem.mainGlobals "bool" = some none)
    (hB_int : PySem.W.nsIn K PySem.mainGlobals "int" = some none)
    (hB_isinstance : PySem.W.nsIn K PySem.mainGlobals "isinstance" = some none)
    (hB_len : PySem.W.nsIn K PySem.mainGlobals "len" = some none)
    (hB_max : PySem.W.nsIn K PySem.mainGlobals "max" = some none)
    (hB_min : PySem.W.nsIn K PySem.mainGlobals "min" = some none)
    (hB_range : PySem.W.nsIn K PySem.mainGlobals "range" = some none)
    (hB_repr : PySem.W.nsIn K PySem.mainGlobals "repr" = some none)
    (hB_sorted : PySem.W.nsIn K PySem.mainGlobals "sorted" = some none)
    (hB_str : PySem.W.nsIn K PySem.mainGlobals "str" = some none)
    (hB_tuple : PySem.W.nsIn K PySem.mainGlobals "tuple" = some none)
    (hB_zip : PySem.W.nsIn K PySem.mainGlobals "zip" = some none)
    (hC_ARROW : PySem.W.nsIn K PySem.mainGlobals "ARROW" = some (some (.str "->" T_ARROW)))
    (hC_DIGITS : PySem.W.nsIn K PySem.mainGlobals "DIGITS" = some (some (.str "0123456789" T_DIGITS)))
    (hC_EMPTY : PySem.W.nsIn K PySem.mainGlobals "EMPTY" = some (some (.str "" T_EMPTY)))
    (hC_LETTERS : PySem.W.nsIn K PySem.mainGlobals "LETTERS" = some (some (.str "abcdefghijklmnopqrstuvwxyz" T_LETTERS)))
    (hC_MAX_DIGITS : PySem.W.nsIn K PySem.mainGlobals "MAX_DIGITS" = some (some (.int 400 T_MAX_DIGITS)))
    (hC_MAX_LABELS : PySem.W.nsIn K PySem.mainGlobals "MAX_LABELS" = some (some (.int 12 T_MAX_LABELS)))
    (hC_MAX_LETTERS : PySem.W.nsIn K PySem.mainGlobals "MAX_LETTERS" = some (some (.int 8 T_MAX_LETTERS)))
    (hC_MAX_PUSH : PySem.W.nsIn K PySem.mainGlobals "MAX_PUSH" = some (some (.int 20 T_MAX_PUSH)))
    (hC_MAX_STATES : PySem.W.nsIn K PySem.mainGlobals "MAX_STATES" = some (some (.int 100 T_MAX_STATES)))
    (hC_NONE : PySem.W.nsIn K PySem.mainGlobals "NONE" = some (some (.str "-" T_NONE)))
    (hX_InvalidLabels : PySem.W.excIn K A_InvalidLabels [.type "ValueError", .type "Exception", .type "BaseException", .type "object"] "ValueError.__new__" = true)
    (hK_InvalidLabels : PySem.W.keepIn K (.ref A_InvalidLabels) = true)
    (hS_InvalidLabels : PySem.W.subIn K (.ref A_InvalidLabels) (.type "BaseException") = some true)
    (hT_InvalidLabels : PySem.W.typeIn K (.ref A_InvalidLabels) = some (.type "type"))
    (h1_InvalidLabels : PySem.W.findIn K (.ref A_InvalidLabels) "__getattribute__" = some (some (.builtin "BaseException.__getattribute__")))
    (h2_InvalidLabels : PySem.W.findIn K (.ref A_InvalidLabels) "__getattr__" = some none)
    (h4_InvalidLabels : PySem.W.hasDictIn K A_InvalidLabels = true)
    (h5_InvalidLabels : PySem.W.findIn K (.ref A_InvalidLabels) "__class__" = some (some (.builtin "object.__class__")))
    (h8_InvalidLabels : PySem.W.mroIn K A_InvalidLabels (.type "object") = some true)
    (xm_InvalidLabels_PileError : PySem.W.exmOne K (.ref A_InvalidLabels) (.ref A_PileError) = some true)
    (xm_InvalidLabels_TooLarge : PySem.W.exmOne K (.ref A_InvalidLabels) (.ref A_TooLarge) = some false)
    (ki_InvalidLabels_InvalidInterface : PySem.W.kitOne K (.ref A_InvalidLabels) (.ref A_InvalidInterface) = some false)
    (ki_InvalidLabels_InvalidLabels : PySem.W.kitOne K (.ref A_InvalidLabels) (.ref A_InvalidLabels) = some true)
    (ki_InvalidLabels_InvalidModule : PySem.W.kitOne K (.ref A_InvalidLabels) (.ref A_InvalidModule) = some false)
    (ki_InvalidLabels_InvalidRule : PySem.W.kitOne K (.ref A_InvalidLabels) (.ref A_InvalidRule) = some false)
    (ki_InvalidLabels_InvalidStack : PySem.W.kitOne K (.ref A_InvalidLabels) (.ref A_InvalidStack) = some false)
    (ki_InvalidLabels_InvalidWires : PySem.W.kitOne K (.ref A_InvalidLabels) (.ref A_InvalidWires) = some false)
    (ki_InvalidLabels_ParseError : PySem.W.kitOne K (.ref A_InvalidLabels) (.ref A_ParseError) = some false)
    (hX_InvalidRule : PySem.W.excIn K A_InvalidRule [.type "ValueError", .type "Exception", .type "BaseException", .type "object"] "ValueError.__new__" = true)
    (hK_InvalidRule : PySem.W.keepIn K (.ref A_InvalidRule) = true)
    (hS_InvalidRule : PySem.W.subIn K (.ref A_InvalidRule) (.type "BaseException") = some true)
    (hT_InvalidRule : PySem.W.typeIn K (.ref A_InvalidRule) = some (.type "type"))
    (h1_InvalidRule : PySem.W.findIn K (.ref A_InvalidRule) "__getattribute__" = some (some (.builtin "BaseException.__getattribute__")))
    (h2_InvalidRule : PySem.W.findIn K (.ref A_InvalidRule) "__getattr__" = some none)
    (h4_InvalidRule : PySem.W.hasDictIn K A_InvalidRule = true)
    (h5_InvalidRule : PySem.W.findIn K (.ref A_InvalidRule) "__class__" = some (some (.builtin "object.__class__")))
    (h8_InvalidRule : PySem.W.mroIn K A_InvalidRule (.type "object") = some true)
    (xm_InvalidRule_PileError : PySem.W.exmOne K (.ref A_InvalidRule) (.ref A_PileError) = some true)
    (xm_InvalidRule_TooLarge : PySem.W.exmOne K (.ref A_InvalidRule) (.ref A_TooLarge) = some false)
    (ki_InvalidRule_InvalidInterface : PySem.W.kitOne K (.ref A_InvalidRule) (.ref A_InvalidInterface) = some false)
    (ki_InvalidRule_InvalidLabels : PySem.W.kitOne K (.ref A_InvalidRule) (.ref A_InvalidLabels) = some false)
    (ki_InvalidRule_InvalidModule : PySem.W.kitOne K (.ref A_InvalidRule) (.ref A_InvalidModule) = some false)
    (ki_InvalidRule_InvalidRule : PySem.W.kitOne K (.ref A_InvalidRule) (.ref A_InvalidRule) = some true)
    (ki_InvalidRule_InvalidStack : PySem.W.kitOne K (.ref A_InvalidRule) (.ref A_InvalidStack) = some false)
    (ki_InvalidRule_InvalidWires : PySem.W.kitOne K (.ref A_InvalidRule) (.ref A_InvalidWires) = some false)
    (ki_InvalidRule_ParseError : PySem.W.kitOne K (.ref A_InvalidRule) (.ref A_ParseError) = some false)
    (hX_InvalidStack : PySem.W.excIn K A_InvalidStack [.type "ValueError", .type "Exception", .type "BaseException", .type "object"] "ValueError.__new__" = true)
    (hK_InvalidStack : PySem.W.keepIn K (.ref A_InvalidStack) = true)
    (hS_InvalidStack : PySem.W.subIn K (.ref A_InvalidStack) (.type "BaseException") = some true)
    (hT_InvalidStack : PySem.W.typeIn K (.ref A_InvalidStack) = some (.type "type"))
    (h1_InvalidStack : PySem.W.findIn K (.ref A_InvalidStack) "__getattribute__" = some (some (.builtin "BaseException.__getattribute__")))
    (h2_InvalidStack : PySem.W.findIn K (.ref A_InvalidStack) "__getattr__" = some none)
    (h4_InvalidStack : PySem.W.hasDictIn K A_InvalidStack = true)
    (h5_InvalidStack : PySem.W.findIn K (.ref A_InvalidStack) "__class__" = some (some (.builtin "object.__class__")))
    (h8_InvalidStack : PySem.W.mroIn K A_InvalidStack (.type "object") = some true)
    (xm_InvalidStack_PileError : PySem.W.exmOne K (.ref A_InvalidStack) (.ref A_PileError) = some true)
    (xm_InvalidStack_TooLarge : PySem.W.exmOne K (.ref A_InvalidStack) (.ref A_TooLarge) = some false)
    (ki_InvalidStack_InvalidInterface : PySem.W.kitOne K (.ref A_InvalidStack) (.ref A_InvalidInterface) = some false)
    (ki_InvalidStack_InvalidLabels : PySem.W.kitOne K (.ref A_InvalidStack) (.ref A_InvalidLabels) = some false)
    (ki_InvalidStack_InvalidModule : PySem.W.kitOne K (.ref A_InvalidStack) (.ref A_InvalidModule) = some false)
    (ki_InvalidStack_InvalidRule : PySem.W.kitOne K (.ref A_InvalidStack) (.ref A_InvalidRule) = some false)
    (ki_InvalidStack_InvalidStack : PySem.W.kitOne K (.ref A_InvalidStack) (.ref A_InvalidStack) = some true)
    (ki_InvalidStack_InvalidWires : PySem.W.kitOne K (.ref A_InvalidStack) (.ref A_InvalidWires) = some false)
    (ki_InvalidStack_ParseError : PySem.W.kitOne K (.ref A_InvalidStack) (.ref A_ParseError) = some false)
    (hX_ParseError : PySem.W.excIn K A_ParseError [.type "ValueError", .type "Exception", .type "BaseException", .type "object"] "ValueError.__new__" = true)
    (hK_ParseError : PySem.W.keepIn K (.ref A_ParseError) = true)
    (hS_ParseError : PySem.W.subIn K (.ref A_ParseError) (.type "BaseException") = some true)
    (hT_ParseError : PySem.W.typeIn K (.ref A_ParseError) = some (.type "type"))
    (h1_ParseError : PySem.W.findIn K (.ref A_ParseError) "__getattribute__" = some (some (.builtin "BaseException.__getattribute__")))
    (h2_ParseError : PySem.W.findIn K (.ref A_ParseError) "__getattr__" = some none)
    (h4_ParseError : PySem.W.hasDictIn K A_ParseError = true)
    (h5_ParseError : PySem.W.findIn K (.ref A_ParseError) "__class__" = some (some (.builtin "object.__class__")))
    (h8_ParseError : PySem.W.mroIn K A_ParseError (.type "object") = some true)
    (xm_ParseError_PileError : PySem.W.exmOne K (.ref A_ParseError) (.ref A_PileError) = some true)
    (xm_ParseError_TooLarge : PySem.W.exmOne K (.ref A_ParseError) (.ref A_TooLarge) = some false)
    (ki_ParseError_InvalidInterface : PySem.W.kitOne K (.ref A_ParseError) (.ref A_InvalidInterface) = some false)
    (ki_ParseError_InvalidLabels : PySem.W.kitOne K (.ref A_ParseError) (.ref A_InvalidLabels) = some false)
    (ki_ParseError_InvalidModule : PySem.W.kitOne K (.ref A_ParseError) (.ref A_InvalidModule) = some false)
    (ki_ParseError_InvalidRule : PySem.W.kitOne K (.ref A_ParseError) (.ref A_InvalidRule) = some false)
    (ki_ParseError_InvalidStack : PySem.W.kitOne K (.ref A_ParseError) (.ref A_InvalidStack) = some false)
    (ki_ParseError_InvalidWires : PySem.W.kitOne K (.ref A_ParseError) (.ref A_InvalidWires) = some false)
    (ki_ParseError_ParseError : PySem.W.kitOne K (.ref A_ParseError) (.ref A_ParseError) = some true)
    (h6 : PySem.W.specialIn K (.builtin "object.__class__") "__get__" = some (some (.builtin "getset_descriptor.__get__")))
    (h7 : PySem.W.takesIn K (.builtin "object.__class__") = some true)
    (hais_integer : PySem.W.nsIn K PySem.mainGlobals "is_integer" = some (some (.ref fis_integer)))
    (hlis_integer : K.lookup fis_integer = some ⟨ocis_integer, odis_integer, .func (PySem.W.fnOf "is_integer" "is_integer" (defArgs (top 17)) (defBody (top 17)) (defScope (top 17)) .none kVis_integer dcis_integer pmis_integer anis_integer cdis_integer ctis_integer), slis_integer⟩)
    (hcis_integer : PySem.W.codeIn K cdis_integer "is_integer" = true)
    (hkis_integer : PySem.W.keepIn K (.ref fis_integer) = true)
    (hais_name : PySem.W.nsIn K PySem.mainGlobals "is_name" = some (some (.ref fis_name)))
    (hlis_name : K.lookup fis_name = some ⟨ocis_name, odis_name, .func (PySem.W.fnOf "is_name" "is_name" (defArgs (top 18)) (defBody (top 18)) (defScope (top 18)) .none kVis_name dcis_name pmis_name anis_name cdis_name ctis_name), slis_name⟩)
    (hcis_name : PySem.W.codeIn K cdis_name "is_name" = true)
    (hkis_name : PySem.W.keepIn K (.ref fis_name) = true)
    (hais_ascending : PySem.W.nsIn K PySem.mainGlobals "is_ascending" = some (some (.ref fis_ascending)))
    (hlis_ascending : K.lookup fis_ascending = some ⟨ocis_ascending, odis_ascending, .func (PySem.W.fnOf "is_ascending" "is_ascending" (defArgs (top 19)) (defBody (top 19)) (defScope (top 19)) .none kVis_ascending dcis_ascending pmis_ascending anis_ascending cdis_ascending ctis_ascending), slis_ascending⟩)
    (hcis_ascending : PySem.W.codeIn K cdis_ascending "is_ascending" = true)
    (hkis_ascending : PySem.W.keepIn K (.ref fis_ascending) = true)
    (haare_names : PySem.W.nsIn K PySem.mainGlobals "are_names" = some (some (.ref fare_names)))
    (hlare_names : K.lookup fare_names = some ⟨ocare_names, odare_names, .func (PySem.W.fnOf "are_names" "are_names" (defArgs (top 20)) (defBody (top 20)) (defScope (top 20)) .none kVare_names dcare_names pmare_names anare_names cdare_names ctare_names), slare_names⟩)
    (hcare_names : PySem.W.codeIn K cdare_names "are_names" = true)
    (hkare_names : PySem.W.keepIn K (.ref fare_names) = true)
    (hais_word : PySem.W.nsIn K PySem.mainGlobals "is_word" = some (some (.ref fis_word)))
    (hlis_word : K.lookup fis_word = some ⟨ocis_word, odis_word, .func (PySem.W.fnOf "is_word" "is_word" (defArgs (top 21)) (defBody (top 21)) (defScope (top 21)) .none kVis_word dcis_word pmis_word anis_word cdis_word ctis_word), slis_word⟩)
    (hcis_word : PySem.W.codeIn K cdis_word "is_word" = true)
    (hkis_word : PySem.W.keepIn K (.ref fis_word) = true)
    (hais_labels : PySem.W.nsIn K PySem.mainGlobals "is_labels" = some (some (.ref fis_labels)))
    (hlis_labels : K.lookup fis_labels = some ⟨ocis_labels, odis_labels, .func (PySem.W.fnOf "is_labels" "is_labels" (defArgs (top 22)) (defBody (top 22)) (defScope (top 22)) .none kVis_labels dcis_labels pmis_labels anis_labels cdis_labels ctis_labels), slis_labels⟩)
    (hcis_labels : PySem.W.codeIn K cdis_labels "is_labels" = true)
    (hkis_labels : PySem.W.keepIn K (.ref fis_labels) = true)
    (harequire_labels : PySem.W.nsIn K PySem.mainGlobals "require_labels" = some (some (.ref frequire_labels)))
    (hlrequire_labels : K.lookup frequire_labels = some ⟨ocrequire_labels, odrequire_labels, .func (PySem.W.fnOf "require_labels" "require_labels" (defArgs (top 23)) (defBody (top 23)) (defScope (top 23)) .none kVrequire_labels dcrequire_labels pmrequire_labels anrequire_labels cdrequire_labels ctrequire_labels), slrequire_labels⟩)
    (hcrequire_labels : PySem.W.codeIn K cdrequire_labels "require_labels" = true)
    (hkrequire_labels : PySem.W.keepIn K (.ref frequire_labels) = true)
    (hanumber_in : PySem.W.nsIn K PySem.mainGlobals "number_in" = some (some (.ref fnumber_in)))
    (hlnumber_in : K.lookup fnumber_in = some ⟨ocnumber_in, odnumber_in, .func (PySem.W.fnOf "number_in" "number_in" (defArgs (top 29)) (defBody (top 29)) (defScope (top 29)) .none kVnumber_in dcnumber_in pmnumber_in annumber_in cdnumber_in ctnumber_in), slnumber_in⟩)
    (hcnumber_in : PySem.W.codeIn K cdnumber_in "number_in" = true)
    (hknumber_in : PySem.W.keepIn K (.ref fnumber_in) = true)
    (haparts_text : PySem.W.nsIn K PySem.mainGlobals "parts_text" = some (some (.ref fparts_text)))
    (hlparts_text : K.lookup fparts_text = some ⟨ocparts_text, odparts_text, .func (PySem.W.fnOf "parts_text" "parts_text" (defArgs (top 30)) (defBody (top 30)) (defScope (top 30)) .none kVparts_text dcparts_text pmparts_text anparts_text cdparts_text ctparts_text), slparts_text⟩)
    (hcparts_text : PySem.W.codeIn K cdparts_text "parts_text" = true)
    (hkparts_text : PySem.W.keepIn K (.ref fparts_text) = true)
    (haparts_in : PySem.W.nsIn K PySem.mainGlobals "parts_in" = some (some (.ref fparts_in)))
    (hlparts_in : K.lookup fparts_in = some ⟨ocparts_in, odparts_in, .func (PySem.W.fnOf "parts_in" "parts_in" (defArgs (top 31)) (defBody (top 31)) (defScope (top 31)) .none kVparts_in dcparts_in pmparts_in anparts_in cdparts_in ctparts_in), slparts_in⟩)
    (hcparts_in : PySem.W.codeIn K cdparts_in "parts_in" = true)
    (hkparts_in : PySem.W.keepIn K (.ref fparts_in) = true)
    (haparts_of : PySem.W.nsIn K PySem.mainGlobals "parts_of" = some (some (.ref fparts_of)))
    (hlparts_of : K.lookup fparts_of = some ⟨ocparts_of, odparts_of, .func (PySem.W.fnOf "parts_of" "parts_of" (defArgs (top 32)) (defBody (top 32)) (defScope (top 32)) .none kVparts_of dcparts_of pmparts_of anparts_of cdparts_of ctparts_of), slparts_of⟩)
    (hcparts_of : PySem.W.codeIn K cdparts_of "parts_of" = true)
    (hkparts_of : PySem.W.keepIn K (.ref fparts_of) = true)
    (hachecked : PySem.W.nsIn K PySem.mainGlobals "checked" = some (some (.ref fchecked)))
    (hlchecked : K.lookup fchecked = some ⟨occhecked, odchecked, .func (PySem.W.fnOf "checked" "checked" (defArgs (top 33)) (defBody (top 33)) (defScope (top 33)) .none kVchecked dcchecked pmchecked anchecked cdchecked ctchecked), slchecked⟩)
    (hcchecked : PySem.W.codeIn K cdchecked "checked" = true)
    (hkchecked : PySem.W.keepIn K (.ref fchecked) = true)
    (hatop_text : PySem.W.nsIn K PySem.mainGlobals "top_text" = some (some (.ref ftop_text)))
    (hltop_text : K.lookup ftop_text = some ⟨octop_text, odtop_text, .func (PySem.W.fnOf "top_text" "top_text" (defArgs (top 34)) (defBody (top 34)) (defScope (top 34)) .none kVtop_text dctop_text pmtop_text antop_text cdtop_text cttop_text), sltop_text⟩)
    (hctop_text : PySem.W.codeIn K cdtop_text "top_text" = true)
    (hktop_text : PySem.W.keepIn K (.ref ftop_text) = true)
    (hais_target : PySem.W.nsIn K PySem.mainGlobals "is_target" = some (some (.ref fis_target)))
    (hlis_target : K.lookup fis_target = some ⟨ocis_target, odis_target, .func (PySem.W.fnOf "is_target" "is_target" (defArgs (top 35)) (defBody (top 35)) (defScope (top 35)) .none kVis_target dcis_target pmis_target anis_target cdis_target ctis_target), slis_target⟩)
    (hcis_target : PySem.W.codeIn K cdis_target "is_target" = true)
    (hkis_target : PySem.W.keepIn K (.ref fis_target) = true)
    (hais_formed_rule : PySem.W.nsIn K PySem.mainGlobals "is_formed_rule" = some (some (.ref fis_formed_rule)))
    (hlis_formed_rule : K.lookup fis_formed_rule = some ⟨ocis_formed_rule, odis_formed_rule, .func (PySem.W.fnOf "is_formed_rule" "is_formed_rule" (defArgs (top 36)) (defBody (top 36)) (defScope (top 36)) .none kVis_formed_rule dcis_formed_rule pmis_formed_rule anis_formed_rule cdis_formed_rule ctis_formed_rule), slis_formed_rule⟩)
    (hcis_formed_rule : PySem.W.codeIn K cdis_formed_rule "is_formed_rule" = true)
    (hkis_formed_rule : PySem.W.keepIn K (.ref fis_formed_rule) = true)
    (harule_text : PySem.W.nsIn K PySem.mainGlobals "rule_text" = some (some (.ref frule_text)))
    (hlrule_text : K.lookup frule_text = some ⟨ocrule_text, odrule_text, .func (PySem.W.fnOf "rule_text" "rule_text" (defArgs (top 37)) (defBody (top 37)) (defScope (top 37)) .none kVrule_text dcrule_text pmrule_text anrule_text cdrule_text ctrule_text), slrule_text⟩)
    (hcrule_text : PySem.W.codeIn K cdrule_text "rule_text" = true)
    (hkrule_text : PySem.W.keepIn K (.ref frule_text) = true)
    (hatarget_in : PySem.W.nsIn K PySem.mainGlobals "target_in" = some (some (.ref ftarget_in)))
    (hltarget_in : K.lookup ftarget_in = some ⟨octarget_in, odtarget_in, .func (PySem.W.fnOf "target_in" "target_in" (defArgs (top 38)) (defBody (top 38)) (defScope (top 38)) .none kVtarget_in dctarget_in pmtarget_in antarget_in cdtarget_in cttarget_in), sltarget_in⟩)
    (hctarget_in : PySem.W.codeIn K cdtarget_in "target_in" = true)
    (hktarget_in : PySem.W.keepIn K (.ref ftarget_in) = true)
    (harule_in : PySem.W.nsIn K PySem.mainGlobals "rule_in" = some (some (.ref frule_in)))
    (hlrule_in : K.lookup frule_in = some ⟨ocrule_in, odrule_in, .func (PySem.W.fnOf "rule_in" "rule_in" (defArgs (top 39)) (defBody (top 39)) (defScope (top 39)) .none kVrule_in dcrule_in pmrule_in anrule_in cdrule_in ctrule_in), slrule_in⟩)
    (hcrule_in : PySem.W.codeIn K cdrule_in "rule_in" = true)
    (hkrule_in : PySem.W.keepIn K (.ref frule_in) = true)
    (haformat_stack : PySem.W.nsIn K PySem.mainGlobals "format_stack" = some (some (.ref fformat_stack)))
    (hlformat_stack : K.lookup fformat_stack = some ⟨ocformat_stack, odformat_stack, .func (PySem.W.fnOf "format_stack" "format_stack" (defArgs (top 40)) (defBody (top 40)) (defScope (top 40)) .none kVformat_stack dcformat_stack pmformat_stack anformat_stack cdformat_stack ctformat_stack), slformat_stack⟩)
    (hcformat_stack : PySem.W.codeIn K cdformat_stack "format_stack" = true)
    (hkformat_stack : PySem.W.keepIn K (.ref fformat_stack) = true)
    (haparse_stack : PySem.W.nsIn K PySem.mainGlobals "parse_stack" = some (some (.ref fparse_stack)))
    (hlparse_stack : K.lookup fparse_stack = some ⟨ocparse_stack, odparse_stack, .func (PySem.W.fnOf "parse_stack" "parse_stack" (defArgs (top 41)) (defBody (top 41)) (defScope (top 41)) .none kVparse_stack dcparse_stack pmparse_stack anparse_stack cdparse_stack ctparse_stack), slparse_stack⟩)
    (hcparse_stack : PySem.W.codeIn K cdparse_stack "parse_stack" = true)
    (hkparse_stack : PySem.W.keepIn K (.ref fparse_stack) = true)
    (haformat_rule : PySem.W.nsIn K PySem.mainGlobals "format_rule" = some (some (.ref fformat_rule)))
    (hlformat_rule : K.lookup fformat_rule = some ⟨ocformat_rule, odformat_rule, .func (PySem.W.fnOf "format_rule" "format_rule" (defArgs (top 42)) (defBody (top 42)) (defScope (top 42)) .none kVformat_rule dcformat_rule pmformat_rule anformat_rule cdformat_rule ctformat_rule), slformat_rule⟩)
    (hcformat_rule : PySem.W.codeIn K cdformat_rule "format_rule" = true)
    (hkformat_rule : PySem.W.keepIn K (.ref fformat_rule) = true)
    (haparse_rule : PySem.W.nsIn K PySem.mainGlobals "parse_rule" = some (some (.ref fparse_rule)))
    (hlparse_rule : K.lookup fparse_rule = some ⟨ocparse_rule, odparse_rule, .func (PySem.W.fnOf "parse_rule" "parse_rule" (defArgs (top 43)) (defBody (top 43)) (defScope (top 43)) .none kVparse_rule dcparse_rule pmparse_rule anparse_rule cdparse_rule ctparse_rule), slparse_rule⟩)
    (hcparse_rule : PySem.W.codeIn K cdparse_rule "parse_rule" = true)
    (hkparse_rule : PySem.W.keepIn K (.ref fparse_rule) = true)
    (ha_law_stream : PySem.W.nsIn K PySem.mainGlobals "_law_stream" = some (some (.ref f_law_stream)))
    (hl_law_stream : K.lookup f_law_stream = some ⟨oc_law_stream, od_law_stream, .func (PySem.W.fnOf "_law_stream" "_law_stream" (defArgs (top 45)) (defBody (top 45)) (defScope (top 45)) .none kV_law_stream dc_law_stream pm_law_stream an_law_stream cd_law_stream ct_law_stream), sl_law_stream⟩)
    (hc_law_stream : PySem.W.codeIn K cd_law_stream "_law_stream" = true)
    (hk_law_stream : PySem.W.keepIn K (.ref f_law_stream) = true)
    (ha_law_draw : PySem.W.nsIn K PySem.mainGlobals "_law_draw" = some (some (.ref f_law_draw)))
    (hl_law_draw : K.lookup f_law_draw = some ⟨oc_law_draw, od_law_draw, .func (PySem.W.fnOf "_law_draw" "_law_draw" (defArgs (top 46)) (defBody (top 46)) (defScope (top 46)) .none kV_law_draw dc_law_draw pm_law_draw an_law_draw cd_law_draw ct_law_draw), sl_law_draw⟩)
    (hc_law_draw : PySem.W.codeIn K cd_law_draw "_law_draw" = true)
    (hk_law_draw : PySem.W.keepIn K (.ref f_law_draw) = true)
    (ha_law_letters : PySem.W.nsIn K PySem.mainGlobals "_law_letters" = some (some (.ref f_law_letters)))
    (hl_law_letters : K.lookup f_law_letters = some ⟨oc_law_letters, od_law_letters, .func (PySem.W.fnOf "_law_letters" "_law_letters" (defArgs (top 47)) (defBody (top 47)) (defScope (top 47)) .none kV_law_letters dc_law_letters pm_law_letters an_law_letters cd_law_letters ct_law_letters), sl_law_letters⟩)
    (hc_law_letters : PySem.W.codeIn K cd_law_letters "_law_letters" = true)
    (hk_law_letters : PySem.W.keepIn K (.ref f_law_letters) = true)
    (ha_law_names : PySem.W.nsIn K PySem.mainGlobals "_law_names" = some (some (.ref f_law_names)))
    (hl_law_names : K.lookup f_law_names = some ⟨oc_law_names, od_law_names, .func (PySem.W.fnOf "_law_names" "_law_names" (defArgs (top 48)) (defBody (top 48)) (defScope (top 48)) .none kV_law_names dc_law_names pm_law_names an_law_names cd_law_names ct_law_names), sl_law_names⟩)
    (hc_law_names : PySem.W.codeIn K cd_law_names "_law_names" = true)
    (hk_law_names : PySem.W.keepIn K (.ref f_law_names) = true)
    (ha_law_word : PySem.W.nsIn K PySem.mainGlobals "_law_word" = some (some (.ref f_law_word)))
    (hl_law_word : K.lookup f_law_word = some ⟨oc_law_word, od_law_word, .func (PySem.W.fnOf "_law_word" "_law_word" (defArgs (top 49)) (defBody (top 49)) (defScope (top 49)) .none kV_law_word dc_law_word pm_law_word an_law_word cd_law_word ct_law_word), sl_law_word⟩)
    (hc_law_word : PySem.W.codeIn K cd_law_word "_law_word" = true)
    (hk_law_word : PySem.W.keepIn K (.ref f_law_word) = true)
    (ha_law_spelled : PySem.W.nsIn K PySem.mainGlobals "_law_spelled" = some (some (.ref f_law_spelled)))
    (hl_law_spelled : K.lookup f_law_spelled = some ⟨oc_law_spelled, od_law_spelled, .func (PySem.W.fnOf "_law_spelled" "_law_spelled" (defArgs (top 50)) (defBody (top 50)) (defScope (top 50)) .none kV_law_spelled dc_law_spelled pm_law_spelled an_law_spelled cd_law_spelled ct_law_spelled), sl_law_spelled⟩)
    (hc_law_spelled : PySem.W.codeIn K cd_law_spelled "_law_spelled" = true)
    (hk_law_spelled : PySem.W.keepIn K (.ref f_law_spelled) = true)
    (ha_law_is_name : PySem.W.nsIn K PySem.mainGlobals "_law_is_name" = some (some (.ref f_law_is_name)))
    (hl_law_is_name : K.lookup f_law_is_name = some ⟨oc_law_is_name, od_law_is_name, .func (PySem.W.fnOf "_law_is_name" "_law_is_name" (defArgs (top 51)) (defBody (top 51)) (defScope (top 51)) .none kV_law_is_name dc_law_is_name pm_law_is_name an_law_is_name cd_law_is_name ct_law_is_name), sl_law_is_name⟩)
    (hc_law_is_name : PySem.W.codeIn K cd_law_is_name "_law_is_name" = true)
    (hk_law_is_name : PySem.W.keepIn K (.ref f_law_is_name) = true)
    (ha_law_integer : PySem.W.nsIn K PySem.mainGlobals "_law_integer" = some (some (.ref f_law_integer)))
    (hl_law_integer : K.lookup f_law_integer = some ⟨oc_law_integer, od_law_integer, .func (PySem.W.fnOf "_law_integer" "_law_integer" (defArgs (top 52)) (defBody (top 52)) (defScope (top 52)) .none kV_law_integer dc_law_integer pm_law_integer an_law_integer cd_law_integer ct_law_integer), sl_law_integer⟩)
    (hc_law_integer : PySem.W.codeIn K cd_law_integer "_law_integer" = true)
    (hk_law_integer : PySem.W.keepIn K (.ref f_law_integer) = true)
    (ha_law_names_in : PySem.W.nsIn K PySem.mainGlobals "_law_names_in" = some (some (.ref f_law_names_in)))
    (hl_law_names_in : K.lookup f_law_names_in = some ⟨oc_law_names_in, od_law_names_in, .func (PySem.W.fnOf "_law_names_in" "_law_names_in" (defArgs (top 53)) (defBody (top 53)) (defScope (top 53)) .none kV_law_names_in dc_law_names_in pm_law_names_in an_law_names_in cd_law_names_in ct_law_names_in), sl_law_names_in⟩)
    (hc_law_names_in : PySem.W.codeIn K cd_law_names_in "_law_names_in" = true)
    (hk_law_names_in : PySem.W.keepIn K (.ref f_law_names_in) = true)
    (ha_law_rule_in : PySem.W.nsIn K PySem.mainGlobals "_law_rule_in" = some (some (.ref f_law_rule_in)))
    (hl_law_rule_in : K.lookup f_law_rule_in = some ⟨oc_law_rule_in, od_law_rule_in, .func (PySem.W.fnOf "_law_rule_in" "_law_rule_in" (defArgs (top 54)) (defBody (top 54)) (defScope (top 54)) .none kV_law_rule_in dc_law_rule_in pm_law_rule_in an_law_rule_in cd_law_rule_in ct_law_rule_in), sl_law_rule_in⟩)
    (hc_law_rule_in : PySem.W.codeIn K cd_law_rule_in "_law_rule_in" = true)
    (hk_law_rule_in : PySem.W.keepIn K (.ref f_law_rule_in) = true)
    (ha_law_rule_text : PySem.W.nsIn K PySem.mainGlobals "_law_rule_text" = some (some (.ref f_law_rule_text)))
    (hl_law_rule_text : K.lookup f_law_rule_text = some ⟨oc_law_rule_text, od_law_rule_text, .func (PySem.W.fnOf "_law_rule_text" "_law_rule_text" (defArgs (top 55)) (defBody (top 55)) (defScope (top 55)) .none kV_law_rule_text dc_law_rule_text pm_law_rule_text an_law_rule_text cd_law_rule_text ct_law_rule_text), sl_law_rule_text⟩)
    (hc_law_rule_text : PySem.W.codeIn K cd_law_rule_text "_law_rule_text" = true)
    (hk_law_rule_text : PySem.W.keepIn K (.ref f_law_rule_text) = true)
    (ha_law_rule : PySem.W.nsIn K PySem.mainGlobals "_law_rule" = some (some (.ref f_law_rule)))
    (hl_law_rule : K.lookup f_law_rule = some ⟨oc_law_rule, od_law_rule, .func (PySem.W.fnOf "_law_rule" "_law_rule" (defArgs (top 56)) (defBody (top 56)) (defScope (top 56)) .none kV_law_rule dc_law_rule pm_law_rule an_law_rule cd_law_rule ct_law_rule), sl_law_rule⟩)
    (hc_law_rule : PySem.W.codeIn K cd_law_rule "_law_rule" = true)
    (hk_law_rule : PySem.W.keepIn K (.ref f_law_rule) = true)
    (ha_law_bent : PySem.W.nsIn K PySem.mainGlobals "_law_bent" = some (some (.ref f_law_bent)))
    (hl_law_bent : K.lookup f_law_bent = some ⟨oc_law_bent, od_law_bent, .func (PySem.W.fnOf "_law_bent" "_law_bent" (defArgs (top 57)) (defBody (top 57)) (defScope (top 57)) .none kV_law_bent dc_law_bent pm_law_bent an_law_bent cd_law_bent ct_law_bent), sl_law_bent⟩)
    (hc_law_bent : PySem.W.codeIn K cd_law_bent "_law_bent" = true)
    (hk_law_bent : PySem.W.keepIn K (.ref f_law_bent) = true)
    (ha_law_met : PySem.W.nsIn K PySem.mainGlobals "_law_met" = some (some (.ref f_law_met)))
    (hl_law_met : K.lookup f_law_met = some ⟨oc_law_met, od_law_met, .func (PySem.W.fnOf "_law_met" "_law_met" (defArgs (top 58)) (defBody (top 58)) (defScope (top 58)) .none kV_law_met dc_law_met pm_law_met an_law_met cd_law_met ct_law_met), sl_law_met⟩)
    (hc_law_met : PySem.W.codeIn K cd_law_met "_law_met" = true)
    (hk_law_met : PySem.W.keepIn K (.ref f_law_met) = true)
    (ha_law_due : PySem.W.nsIn K PySem.mainGlobals "_law_due" = some (some (.ref f_law_due)))
    (hl_law_due : K.lookup f_law_due = some ⟨oc_law_due, od_law_due, .func (PySem.W.fnOf "_law_due" "_law_due" (defArgs (top 59)) (defBody (top 59)) (defScope (top 59)) .none kV_law_due dc_law_due pm_law_due an_law_due cd_law_due ct_law_due), sl_law_due⟩)
    (hc_law_due : PySem.W.codeIn K cd_law_due "_law_due" = true)
    (hk_law_due : PySem.W.keepIn K (.ref f_law_due) = true)
    (ha_law_stack_right : PySem.W.nsIn K PySem.mainGlobals "_law_stack_right" = some (some (.ref f_law_stack_right)))
    (hl_law_stack_right : K.lookup f_law_stack_right = some ⟨oc_law_stack_right, od_law_stack_right, .func (PySem.W.fnOf "_law_stack_right" "_law_stack_right" (defArgs (top 60)) (defBody (top 60)) (defScope (top 60)) .none kV_law_stack_right dc_law_stack_right pm_law_stack_right an_law_stack_right (.ref C_law_stack_right) ct_law_stack_right), sl_law_stack_right⟩)
    (hc_law_stack_right : PySem.W.codeIn K (.ref C_law_stack_right) "_law_stack_right" = true)
    (hk_law_stack_right : PySem.W.keepIn K (.ref f_law_stack_right) = true)
    (hi_law_stack_right : PySem.W.codeHdIn K C_law_stack_right P_law_stack_right = true)
    (hj_law_stack_right : K.lookup P_law_stack_right = none)
    (ht_law_stack_right : h.get? P_law_stack_right = some (PySem.W.tabObj #[]))
    (ha_law_rule_right : PySem.W.nsIn K PySem.mainGlobals "_law_rule_right" = some (some (.ref f_law_rule_right)))
    (hl_law_rule_right : K.lookup f_law_rule_right = some ⟨oc_law_rule_right, od_law_rule_right, .func (PySem.W.fnOf "_law_rule_right" "_law_rule_right" (defArgs (top 61)) (defBody (top 61)) (defScope (top 61)) .none kV_law_rule_right dc_law_rule_right pm_law_rule_right an_law_rule_right (.ref C_law_rule_right) ct_law_rule_right), sl_law_rule_right⟩)
    (hc_law_rule_right : PySem.W.codeIn K (.ref C_law_rule_right) "_law_rule_right" = true)
    (hk_law_rule_right : PySem.W.keepIn K (.ref f_law_rule_right) = true)
    (hi_law_rule_right : PySem.W.codeHdIn K C_law_rule_right P_law_rule_right = true)
    (hj_law_rule_right : K.lookup P_law_rule_right = none)
    (ht_law_rule_right : h.get? P_law_rule_right = some (PySem.W.tabObj #[]))
    (ha_law_words_right : PySem.W.nsIn K PySem.mainGlobals "_law_words_right" = some (some (.ref f_law_words_right)))
    (hl_law_words_right : K.lookup f_law_words_right = some ⟨oc_law_words_right, od_law_words_right, .func (PySem.W.fnOf "_law_words_right" "_law_words_right" (defArgs (top 62)) (defBody (top 62)) (defScope (top 62)) .none kV_law_words_right dc_law_words_right pm_law_words_right an_law_words_right (.ref C_law_words_right) ct_law_words_right), sl_law_words_right⟩)
    (hc_law_words_right : PySem.W.codeIn K (.ref C_law_words_right) "_law_words_right" = true)
    (hk_law_words_right : PySem.W.keepIn K (.ref f_law_words_right) = true)
    (hi_law_words_right : PySem.W.codeHdIn K C_law_words_right P_law_words_right = true)
    (hj_law_words_right : K.lookup P_law_words_right = none)
    (ht_law_words_right : h.get? P_law_words_right = some (PySem.W.tabObj #[]))
    (halaw : PySem.W.nsIn K PySem.mainGlobals "law" = some (some (.ref flaw)))
    (hllaw : K.lookup flaw = some ⟨oclaw, odlaw, .func (PySem.W.fnOf "law" "law" (defArgs (top 63)) (defBody (top 63)) (defScope (top 63)) .none kVlaw dclaw pmlaw anlaw cdlaw ctlaw), sllaw⟩)
    (hclaw : PySem.W.codeIn K cdlaw "law" = true)
    (hklaw : PySem.W.keepIn K (.ref flaw) = true)
    (ne_law_stack_right_law_rule_right : P_law_stack_right ≠ P_law_rule_right)
    (ne_law_stack_right_law_words_right : P_law_stack_right ≠ P_law_words_right)
    (ne_law_rule_right_law_words_right : P_law_rule_right ≠ P_law_words_right)
    : LawG l w K 9 63 "script" mg fa h := by
  let P : Program := l.prog
  have G0 : Gs K mg := { b_abs := PySem.W.mg_none_of X GG hB_abs, b_all := PySem.W.mg_none_of X GG hB_all, b_bool := PySem.W.mg_none_of X GG hB_bool, b_int := PySem.W.mg_none_of X GG hB_int, b_isinstance := PySem.W.mg_none_of X GG hB_isinstance, b_len := PySem.W.mg_none_of X GG hB_len, b_max := PySem.W.mg_none_of X GG hB_max, b_min := PySem.W.mg_none_of X GG hB_min, b_range := PySem.W.mg_none_of X GG hB_range, b_repr := PySem.W.mg_none_of X GG hB_repr, b_sorted := PySem.W.mg_none_of X GG hB_sorted, b_str := PySem.W.mg_none_of X GG hB_str, b_tuple := PySem.W.mg_none_of X GG hB_tuple, b_zip := PySem.W.mg_none_of X GG hB_zip, c_ARROW := ⟨_, PySem.W.mg_of X GG hC_ARROW⟩, c_DIGITS := ⟨_, PySem.W.mg_of X GG hC_DIGITS⟩, c_EMPTY := ⟨_, PySem.W.mg_of X GG hC_EMPTY⟩, c_LETTERS := ⟨_, PySem.W.mg_of X GG hC_LETTERS⟩, c_MAX_DIGITS := ⟨_, PySem.W.mg_of X GG hC_MAX_DIGITS⟩, c_MAX_LABELS := ⟨_, PySem.W.mg_of X GG hC_MAX_LABELS⟩, c_MAX_LETTERS := ⟨_, PySem.W.mg_of X GG hC_MAX_LETTERS⟩, c_MAX_PUSH := ⟨_, PySem.W.mg_of X GG hC_MAX_PUSH⟩, c_MAX_STATES := ⟨_, PySem.W.mg_of X GG hC_MAX_STATES⟩, c_NONE := ⟨_, PySem.W.mg_of X GG hC_NONE⟩, a_InvalidInterface := A_InvalidInterface, e_InvalidInterface := PySem.W.mg_of X GG hA_InvalidInterface, a_InvalidLabels := A_InvalidLabels, e_InvalidLabels := PySem.W.mg_of X GG hA_InvalidLabels, a_InvalidModule := A_InvalidModule, e_InvalidModule := PySem.W.mg_of X GG hA_InvalidModule, a_InvalidRule := A_InvalidRule, e_InvalidRule := PySem.W.mg_of X GG hA_InvalidRule, a_InvalidStack := A_InvalidStack, e_InvalidStack := PySem.W.mg_of X GG hA_InvalidStack, a_InvalidWires := A_InvalidWires, e_InvalidWires := PySem.W.mg_of X GG hA_InvalidWires, a_ParseError := A_ParseError, e_ParseError := PySem.W.mg_of X GG hA_ParseError, a_PileError := A_PileError, e_PileError := PySem.W.mg_of X GG hA_PileError, a_TooLarge := A_TooLarge, e_TooLarge := PySem.W.mg_of X GG hA_TooLarge, x_InvalidLabels := ⟨A_InvalidLabels, PySem.W.mg_of X GG hA_InvalidLabels, hX_InvalidLabels, hK_InvalidLabels, hS_InvalidLabels, hT_InvalidLabels⟩, k_InvalidLabels := ⟨h1_InvalidLabels, h2_InvalidLabels, hS_InvalidLabels, h4_InvalidLabels, h5_InvalidLabels, h6, h7, h8_InvalidLabels⟩, xm_InvalidLabels_PileError := xm_InvalidLabels_PileError, xm_InvalidLabels_TooLarge := xm_InvalidLabels_TooLarge, ki_InvalidLabels_InvalidInterface := ki_InvalidLabels_InvalidInterface, ki_InvalidLabels_InvalidLabels := ki_InvalidLabels_InvalidLabels, ki_InvalidLabels_InvalidModule := ki_InvalidLabels_InvalidModule, ki_InvalidLabels_InvalidRule := ki_InvalidLabels_InvalidRule, ki_InvalidLabels_InvalidStack := ki_InvalidLabels_InvalidStack, ki_InvalidLabels_InvalidWires := ki_InvalidLabels_InvalidWires, ki_InvalidLabels_ParseError := ki_InvalidLabels_ParseError, x_InvalidRule := ⟨A_InvalidRule, PySem.W.mg_of X GG hA_InvalidRule, hX_InvalidRule, hK_InvalidRule, hS_InvalidRule, hT_InvalidRule⟩, k_InvalidRule := ⟨h1_InvalidRule, h2_InvalidRule, hS_InvalidRule, h4_InvalidRule, h5_InvalidRule, h6, h7, h8_InvalidRule⟩, xm_InvalidRule_PileError := xm_InvalidRule_PileError, xm_InvalidRule_TooLarge := xm_InvalidRule_TooLarge, ki_InvalidRule_InvalidInterface := ki_InvalidRule_InvalidInterface, ki_InvalidRule_InvalidLabels := ki_InvalidRule_InvalidLabels, ki_InvalidRule_InvalidModule := ki_InvalidRule_InvalidModule, ki_InvalidRule_InvalidRule := ki_InvalidRule_InvalidRule, ki_InvalidRule_InvalidStack := ki_InvalidRule_InvalidStack, ki_InvalidRule_InvalidWires := ki_InvalidRule_InvalidWires, ki_InvalidRule_ParseError := ki_InvalidRule_ParseError, x_InvalidStack := ⟨A_InvalidStack, PySem.W.mg_of X GG hA_InvalidStack, hX_InvalidStack, hK_InvalidStack, hS_InvalidStack, hT_InvalidStack⟩, k_InvalidStack := ⟨h1_InvalidStack, h2_InvalidStack, hS_InvalidStack, h4_InvalidStack, h5_InvalidStack, h6, h7, h8_InvalidStack⟩, xm_InvalidStack_PileError := xm_InvalidStack_PileError, xm_InvalidStack_TooLarge := xm_InvalidStack_TooLarge, ki_InvalidStack_InvalidInterface := ki_InvalidStack_InvalidInterface, ki_InvalidStack_InvalidLabels := ki_InvalidStack_InvalidLabels, ki_InvalidStack_InvalidModule := ki_InvalidStack_InvalidModule, ki_InvalidStack_InvalidRule := ki_InvalidStack_InvalidRule, ki_InvalidStack_InvalidStack := ki_InvalidStack_InvalidStack, ki_InvalidStack_InvalidWires := ki_InvalidStack_InvalidWires, ki_InvalidStack_ParseError := ki_InvalidStack_ParseError, x_ParseError := ⟨A_ParseError, PySem.W.mg_of X GG hA_ParseError, hX_ParseError, hK_ParseError, hS_ParseError, hT_ParseError⟩, k_ParseError := ⟨h1_ParseError, h2_ParseError, hS_ParseError, h4_ParseError, h5_ParseError, h6, h7, h8_ParseError⟩, xm_ParseError_PileError := xm_ParseError_PileError, xm_ParseError_TooLarge := xm_ParseError_TooLarge, ki_ParseError_InvalidInterface := ki_ParseError_InvalidInterface, ki_ParseError_InvalidLabels := ki_ParseError_InvalidLabels, ki_ParseError_InvalidModule := ki_ParseError_InvalidModule, ki_ParseError_InvalidRule := ki_ParseError_InvalidRule, ki_ParseError_InvalidStack := ki_ParseError_InvalidStack, ki_ParseError_InvalidWires := ki_ParseError_InvalidWires, ki_ParseError_ParseError := ki_ParseError_ParseError }
  have e := hfa.symm.trans (PySem.W.mg_of X GG halaw)
  cases e
  refine ⟨PySem.W.fnOf "law" "law" (defArgs (top 63)) (defBody (top 63)) (defScope (top 63)) .none kVlaw dclaw pmlaw anlaw cdlaw ctlaw, [(C_law_stack_right, P_law_stack_right), (C_law_rule_right, P_law_rule_right), (C_law_words_right, P_law_words_right)], [(P_law_stack_right, (("_law_stack_right" : Str) ++ ".<locals>.") ++ "<lambda>"), (P_law_rule_right, (("_law_rule_right" : Str) ++ ".<locals>.") ++ "<lambda>"), (P_law_words_right, (("_law_words_right" : Str) ++ ".<locals>.") ++ "<lambda>")], Flaw, ?_, ?_, ?_, fun s v => .of_eq rfl, ?_, law_true, fun base hK hN TB => ?_⟩
  · simp only [List.mem_cons, List.not_mem_nil, or_false, forall_eq_or_imp, forall_eq]; exact ⟨ht_law_stack_right, ht_law_rule_right, ht_law_words_right⟩
  · simp only [List.mem_cons, List.not_mem_nil, or_false, forall_eq_or_imp, forall_eq]; exact ⟨hj_law_stack_right, hj_law_rule_right, hj_law_words_right⟩
  · simp only [List.mem_cons, List.not_mem_nil, or_false, forall_eq_or_imp, forall_eq]; exact ⟨PySem.W.codeHd_of_K X hi_law_stack_right, PySem.W.codeHd_of_K X hi_law_rule_right, PySem.W.codeHd_of_K X hi_law_words_right⟩
  · simp
  letI : Tbs K := ⟨[(P_law_stack_right, (("_law_stack_right" : Str) ++ ".<locals>.") ++ "<lambda>"), (P_law_rule_right, (("_law_rule_right" : Str) ++ ".<locals>.") ++ "<lambda>"), (P_law_words_right, (("_law_words_right" : Str) ++ ".<locals>.") ++ "<lambda>")]⟩
  have Wis_integer := fun_mk (st := top 17) (qual := "is_integer") hlis_integer hcis_integer hkis_integer
  have cis_integer : CalD P w K mg base 1 "is_integer" 1 Fis_integer [] := ⟨fis_integer, _, _, [], [], PySem.W.mg_of X GG hais_integer, hkis_integer, fnis_integer Wis_integer G0, bis_integer Wis_integer, .nil, fun _ _ _ => .nil⟩
  have Wis_name := fun_mk (st := top 18) (qual := "is_name") hlis_name hcis_name hkis_name
  have cis_name : CalD P w K mg base 1 "is_name" 1 Fis_name [] := ⟨fis_name, _, _, [], [], PySem.W.mg_of X GG hais_name, hkis_name, fnis_name Wis_name G0, bis_name Wis_name, .nil, fun _ _ _ => .nil⟩
  have Wis_ascending := fun_mk (st := top 19) (qual := "is_ascending") hlis_ascending hcis_ascending hkis_ascending
  have cis_ascending : CalD P w K mg base 1 "is_ascending" 1 Fis_ascending [] := ⟨fis_ascending, _, _, [], [], PySem.W.mg_of X GG hais_ascending, hkis_ascending, fnis_ascending Wis_ascending G0, bis_ascending Wis_ascending, .nil, fun _ _ _ => .nil⟩
  have Ware_names := fun_mk (st := top 20) (qual := "are_names") hlare_names hcare_names hkare_names
  have care_names : CalD P w K mg base 2 "are_names" 1 Fare_names [] := ⟨fare_names, _, _, [], [], PySem.W.mg_of X GG haare_names, hkare_names, fnare_names Ware_names G0 cis_name cis_ascending, bare_names Ware_names, .nil, fun _ _ _ => .nil⟩
  have Wis_word := fun_mk (st := top 21) (qual := "is_word") hlis_word hcis_word hkis_word
  have cis_word : CalD P w K mg base 1 "is_word" 2 Fis_word [] := ⟨fis_word, _, _, [], [], PySem.W.mg_of X GG hais_word, hkis_word, fnis_word Wis_word G0, bis_word Wis_word, .nil, fun _ _ _ => .nil⟩
  have Wis_labels := fun_mk (st := top 22) (qual := "is_labels") hlis_labels hcis_labels hkis_labels
  have cis_labels : CalD P w K mg base 3 "is_labels" 1 Fis_labels [] := ⟨fis_labels, _, _, [], [], PySem.W.mg_of X GG hais_labels, hkis_labels, fnis_labels Wis_labels G0 care_names, bis_labels Wis_labels, .nil, fun _ _ _ => .nil⟩
  have Wrequire_labels := fun_mk (st := top 23) (qual := "require_labels") hlrequire_labels hcrequire_labels hkrequire_labels
  have crequire_labels : CalD P w K mg base 4 "require_labels" 1 Frequire_labels [] := ⟨frequire_labels, _, _, [], [], PySem.W.mg_of X GG harequire_labels, hkrequire_labels, fnrequire_labels Wrequire_labels G0 cis_labels, brequire_labels Wrequire_labels, .nil, fun _ _ _ => .nil⟩
  have Wnumber_in := fun_mk (st := top 29) (qual := "number_in") hlnumber_in hcnumber_in hknumber_in
  have cnumber_in : CalD P w K mg base 1 "number_in" 1 Fnumber_in [] := ⟨fnumber_in, _, _, [], [], PySem.W.mg_of X GG hanumber_in, hknumber_in, fnnumber_in Wnumber_in G0, bnumber_in Wnumber_in, .nil, fun _ _ _ => .nil⟩
  have Wparts_text := fun_mk (st := top 30) (qual := "parts_text") hlparts_text hcparts_text hkparts_text
  have cparts_text : CalD P w K mg base 1 "parts_text" 1 Fparts_text [] := ⟨fparts_text, _, _, [], [], PySem.W.mg_of X GG haparts_text, hkparts_text, fnparts_text Wparts_text G0, bparts_text Wparts_text, .nil, fun _ _ _ => .nil⟩
  have Wparts_in := fun_mk (st := top 31) (qual := "parts_in") hlparts_in hcparts_in hkparts_in
  have cparts_in : CalD P w K mg base 1 "parts_in" 1 Fparts_in [] := ⟨fparts_in, _, _, [], [], PySem.W.mg_of X GG haparts_in, hkparts_in, fnparts_in Wparts_in G0, bparts_in Wparts_in, .nil, fun _ _ _ => .nil⟩
  have Wparts_of := fun_mk (st := top 32) (qual := "parts_of") hlparts_of hcparts_of hkparts_of
  have cparts_of : CalD P w K mg base 1 "parts_of" 1 Fparts_of [] := ⟨fparts_of, _, _, [], [], PySem.W.mg_of X GG haparts_of, hkparts_of, fnparts_of Wparts_of G0, bparts_of Wparts_of, .nil, fun _ _ _ => .nil⟩
  have Wchecked := fun_mk (st := top 33) (qual := "checked") hlchecked hcchecked hkchecked
  have cchecked : CalD P w K mg base 1 "checked" 3 Fchecked [] := ⟨fchecked, _, _, [], [], PySem.W.mg_of X GG hachecked, hkchecked, fnchecked Wchecked G0, bchecked Wchecked, .nil, fun _ _ _ => .nil⟩
  have Wtop_text := fun_mk (st := top 34) (qual := "top_text") hltop_text hctop_text hktop_text
  have ctop_text : CalD P w K mg base 1 "top_text" 1 Ftop_text [] := ⟨ftop_text, _, _, [], [], PySem.W.mg_of X GG hatop_text, hktop_text, fntop_text Wtop_text G0, btop_text Wtop_text, .nil, fun _ _ _ => .nil⟩
  have Wis_target := fun_mk (st := top 35) (qual := "is_target") hlis_target hcis_target hkis_target
  have cis_target : CalD P w K mg base 2 "is_target" 1 Fis_target [] := ⟨fis_target, _, _, [], [], PySem.W.mg_of X GG hais_target, hkis_target, fnis_target Wis_target G0 cis_integer cis_name, bis_target Wis_target, .nil, fun _ _ _ => .nil⟩
  have Wis_formed_rule := fun_mk (st := top 36) (qual := "is_formed_rule") hlis_formed_rule hcis_formed_rule hkis_formed_rule
  have cis_formed_rule : CalD P w K mg base 3 "is_formed_rule" 1 Fis_formed_rule [] := ⟨fis_formed_rule, _, _, [], [], PySem.W.mg_of X GG hais_formed_rule, hkis_formed_rule, fnis_formed_rule Wis_formed_rule G0 cis_integer cis_name cis_target, bis_formed_rule Wis_formed_rule, .nil, fun _ _ _ => .nil⟩
  have Wrule_text := fun_mk (st := top 37) (qual := "rule_text") hlrule_text hcrule_text hkrule_text
  have crule_text : CalD P w K mg base 2 "rule_text" 1 Frule_text [] := ⟨frule_text, _, _, [], [], PySem.W.mg_of X GG harule_text, hkrule_text, fnrule_text Wrule_text G0 cparts_text ctop_text, brule_text Wrule_text, .nil, fun _ _ _ => .nil⟩
  have Wtarget_in := fun_mk (st := top 38) (qual := "target_in") hltarget_in hctarget_in hktarget_in
  have ctarget_in : CalD P w K mg base 2 "target_in" 1 Ftarget_in [] := ⟨ftarget_in, _, _, [], [], PySem.W.mg_of X GG hatarget_in, hktarget_in, fntarget_in Wtarget_in G0 cnumber_in, btarget_in Wtarget_in, .nil, fun _ _ _ => .nil⟩
  have Wrule_in := fun_mk (st := top 39) (qual := "rule_in") hlrule_in hcrule_in hkrule_in
  have crule_in : CalD P w K mg base 4 "rule_in" 1 Frule_in [] := ⟨frule_in, _, _, [], [], PySem.W.mg_of X GG harule_in, hkrule_in, fnrule_in Wrule_in G0 cnumber_in cparts_in cparts_of cchecked cis_formed_rule crule_text ctarget_in, brule_in Wrule_in, .nil, fun _ _ _ => .nil⟩
  have Wformat_stack := fun_mk (st := top 40) (qual := "format_stack") hlformat_stack hcformat_stack hkformat_stack
  have cformat_stack : CalD P w K mg base 5 "format_stack" 2 Fformat_stack [] := ⟨fformat_stack, _, _, [], [], PySem.W.mg_of X GG haformat_stack, hkformat_stack, fnformat_stack Wformat_stack G0 cis_word crequire_labels cparts_text, bformat_stack Wformat_stack, .nil, fun _ _ _ => .nil⟩
  have Wparse_stack := fun_mk (st := top 41) (qual := "parse_stack") hlparse_stack hcparse_stack hkparse_stack
  have cparse_stack : CalD P w K mg base 5 "parse_stack" 2 Fparse_stack [] := ⟨fparse_stack, _, _, [], [], PySem.W.mg_of X GG haparse_stack, hkparse_stack, fnparse_stack Wparse_stack G0 cis_word crequire_labels cparts_in cparts_of, bparse_stack Wparse_stack, .nil, fun _ _ _ => .nil⟩
  have Wformat_rule := fun_mk (st := top 42) (qual := "format_rule") hlformat_rule hcformat_rule hkformat_rule
  have cformat_rule : CalD P w K mg base 4 "format_rule" 1 Fformat_rule [] := ⟨fformat_rule, _, _, [], [], PySem.W.mg_of X GG haformat_rule, hkformat_rule, fnformat_rule Wformat_rule G0 cis_formed_rule crule_text, bformat_rule Wformat_rule, .nil, fun _ _ _ => .nil⟩
  have Wparse_rule := fun_mk (st := top 43) (qual := "parse_rule") hlparse_rule hcparse_rule hkparse_rule
  have cparse_rule : CalD P w K mg base 5 "parse_rule" 1 Fparse_rule [] := ⟨fparse_rule, _, _, [], [], PySem.W.mg_of X GG haparse_rule, hkparse_rule, fnparse_rule Wparse_rule G0 crule_in, bparse_rule Wparse_rule, .nil, fun _ _ _ => .nil⟩
  have W_law_stream := fun_mk (st := top 45) (qual := "_law_stream") hl_law_stream hc_law_stream hk_law_stream
  have c_law_stream : CalD P w K mg base 1 "_law_stream" 2 F_law_stream [] := ⟨f_law_stream, _, _, [], [], PySem.W.mg_of X GG ha_law_stream, hk_law_stream, fn_law_stream W_law_stream G0, b_law_stream W_law_stream, .nil, fun _ _ _ => .nil⟩
  have W_law_draw := fun_mk (st := top 46) (qual := "_law_draw") hl_law_draw hc_law_draw hk_law_draw
  have c_law_draw : CalD P w K mg base 1 "_law_draw" 2 F_law_draw [] := ⟨f_law_draw, _, _, [], [], PySem.W.mg_of X GG ha_law_draw, hk_law_draw, fn_law_draw W_law_draw G0, b_law_draw W_law_draw, .nil, fun _ _ _ => .nil⟩
  have W_law_letters := fun_mk (st := top 47) (qual := "_law_letters") hl_law_letters hc_law_letters hk_law_letters
  have c_law_letters : CalD P w K mg base 2 "_law_letters" 2 F_law_letters [] := ⟨f_law_letters, _, _, [], [], PySem.W.mg_of X GG ha_law_letters, hk_law_letters, fn_law_letters W_law_letters G0 c_law_draw, b_law_letters W_law_letters, .nil, fun _ _ _ => .nil⟩
  have W_law_names := fun_mk (st := top 48) (qual := "_law_names") hl_law_names hc_law_names hk_law_names
  have c_law_names : CalD P w K mg base 3 "_law_names" 2 F_law_names [] := ⟨f_law_names, _, _, [], [], PySem.W.mg_of X GG ha_law_names, hk_law_names, fn_law_names W_law_names G0 c_law_draw c_law_letters, b_law_names W_law_names, .nil, fun _ _ _ => .nil⟩
  have W_law_word := fun_mk (st := top 49) (qual := "_law_word") hl_law_word hc_law_word hk_law_word
  have c_law_word : CalD P w K mg base 2 "_law_word" 3 F_law_word [] := ⟨f_law_word, _, _, [], [], PySem.W.mg_of X GG ha_law_word, hk_law_word, fn_law_word W_law_word G0 c_law_draw, b_law_word W_law_word, .nil, fun _ _ _ => .nil⟩
  have W_law_spelled := fun_mk (st := top 50) (qual := "_law_spelled") hl_law_spelled hc_law_spelled hk_law_spelled
  have c_law_spelled : CalD P w K mg base 1 "_law_spelled" 1 F_law_spelled [] := ⟨f_law_spelled, _, _, [], [], PySem.W.mg_of X GG ha_law_spelled, hk_law_spelled, fn_law_spelled W_law_spelled G0, b_law_spelled W_law_spelled, .nil, fun _ _ _ => .nil⟩
  have W_law_is_name := fun_mk (st := top 51) (qual := "_law_is_name") hl_law_is_name hc_law_is_name hk_law_is_name
  have c_law_is_name : CalD P w K mg base 1 "_law_is_name" 1 F_law_is_name [] := ⟨f_law_is_name, _, _, [], [], PySem.W.mg_of X GG ha_law_is_name, hk_law_is_name, fn_law_is_name W_law_is_name G0, b_law_is_name W_law_is_name, .nil, fun _ _ _ => .nil⟩
  have W_law_integer := fun_mk (st := top 52) (qual := "_law_integer") hl_law_integer hc_law_integer hk_law_integer
  have c_law_integer : CalD P w K mg base 1 "_law_integer" 1 F_law_integer [] := ⟨f_law_integer, _, _, [], [], PySem.W.mg_of X GG ha_law_integer, hk_law_integer, fn_law_integer W_law_integer G0, b_law_integer W_law_integer, .nil, fun _ _ _ => .nil⟩
  have W_law_names_in := fun_mk (st := top 53) (qual := "_law_names_in") hl_law_names_in hc_law_names_in hk_law_names_in
  have c_law_names_in : CalD P w K mg base 2 "_law_names_in" 1 F_law_names_in [] := ⟨f_law_names_in, _, _, [], [], PySem.W.mg_of X GG ha_law_names_in, hk_law_names_in, fn_law_names_in W_law_names_in G0 c_law_is_name, b_law_names_in W_law_names_in, .nil, fun _ _ _ => .nil⟩
  have W_law_rule_in := fun_mk (st := top 54) (qual := "_law_rule_in") hl_law_rule_in hc_law_rule_in hk_law_rule_in
  have c_law_rule_in : CalD P w K mg base 3 "_law_rule_in" 1 F_law_rule_in [] := ⟨f_law_rule_in, _, _, [], [], PySem.W.mg_of X GG ha_law_rule_in, hk_law_rule_in, fn_law_rule_in W_law_rule_in G0 c_law_is_name c_law_integer c_law_names_in, b_law_rule_in W_law_rule_in, .nil, fun _ _ _ => .nil⟩
  have W_law_rule_text := fun_mk (st := top 55) (qual := "_law_rule_text") hl_law_rule_text hc_law_rule_text hk_law_rule_text
  have c_law_rule_text : CalD P w K mg base 2 "_law_rule_text" 1 F_law_rule_text [] := ⟨f_law_rule_text, _, _, [], [], PySem.W.mg_of X GG ha_law_rule_text, hk_law_rule_text, fn_law_rule_text W_law_rule_text G0 c_law_spelled, b_law_rule_text W_law_rule_text, .nil, fun _ _ _ => .nil⟩
  have W_law_rule := fun_mk (st := top 56) (qual := "_law_rule") hl_law_rule hc_law_rule hk_law_rule
  have c_law_rule : CalD P w K mg base 4 "_law_rule" 1 F_law_rule [] := ⟨f_law_rule, _, _, [], [], PySem.W.mg_of X GG ha_law_rule, hk_law_rule, fn_law_rule W_law_rule G0 c_law_draw c_law_names, b_law_rule W_law_rule, .nil, fun _ _ _ => .nil⟩
  have W_law_bent := fun_mk (st := top 57) (qual := "_law_bent") hl_law_bent hc_law_bent hk_law_bent
  have c_law_bent : CalD P w K mg base 2 "_law_bent" 2 F_law_bent [] := ⟨f_law_bent, _, _, [], [], PySem.W.mg_of X GG ha_law_bent, hk_law_bent, fn_law_bent W_law_bent G0 c_law_draw, b_law_bent W_law_bent, .nil, fun _ _ _ => .nil⟩
  have W_law_met := fun_mk (st := top 58) (qual := "_law_met") hl_law_met hc_law_met hk_law_met
  have W_law_due := fun_mk (st := top 59) (qual := "_law_due") hl_law_due hc_law_due hk_law_due
  have c_law_due : CalD P w K mg base 1 "_law_due" 1 F_law_due [] := ⟨f_law_due, _, _, [], [], PySem.W.mg_of X GG ha_law_due, hk_law_due, fn_law_due W_law_due G0, b_law_due W_law_due, .nil, fun _ _ _ => .nil⟩
  have W_law_stack_right : FunL K "_law_stack_right" (top 60) f_law_stack_right _ C_law_stack_right := ⟨⟨oc_law_stack_right, od_law_stack_right, kV_law_stack_right, dc_law_stack_right, pm_law_stack_right, an_law_stack_right, ct_law_stack_right, sl_law_stack_right, rfl, hl_law_stack_right, hc_law_stack_right⟩, hk_law_stack_right⟩
  have L_law_stack_right : LamT K mg base "_law_stack_right" C_law_stack_right := ⟨P_law_stack_right, TB (C_law_stack_right, P_law_stack_right) (by simp), by show (_ : Addr × Str) ∈ ([(P_law_stack_right, (("_law_stack_right" : Str) ++ ".<locals>.") ++ "<lambda>"), (P_law_rule_right, (("_law_rule_right" : Str) ++ ".<locals>.") ++ "<lambda>"), (P_law_words_right, (("_law_words_right" : Str) ++ ".<locals>.") ++ "<lambda>")] : List (Addr × Str)); simp, by intro p hp e; change p ∈ ([(P_law_stack_right, (("_law_stack_right" : Str) ++ ".<locals>.") ++ "<lambda>"), (P_law_rule_right, (("_law_rule_right" : Str) ++ ".<locals>.") ++ "<lambda>"), (P_law_words_right, (("_law_words_right" : Str) ++ ".<locals>.") ++ "<lambda>")] : List (Addr × Str)) at hp; simp only [List.mem_cons, List.not_mem_nil, or_false] at hp; rcases hp with rfl | rfl | rfl; exact rfl; exact (ne_law_stack_right_law_rule_right e.symm).elim; exact (ne_law_stack_right_law_words_right e.symm).elim⟩
  have c_law_stack_right : CalD P w K mg base 8 "_law_stack_right" 1 F_law_stack_right [] := ⟨f_law_stack_right, _, _, [], [], PySem.W.mg_of X GG ha_law_stack_right, hk_law_stack_right, fn_law_stack_right W_law_stack_right G0 L_law_stack_right W_law_met (PySem.W.mg_of X GG ha_law_met) cformat_stack cparse_stack c_law_draw c_law_names c_law_word c_law_spelled c_law_bent c_law_due, b_law_stack_right W_law_stack_right, .nil, fun _ _ _ => .nil⟩
  have W_law_rule_right : FunL K "_law_rule_right" (top 61) f_law_rule_right _ C_law_rule_right := ⟨⟨oc_law_rule_right, od_law_rule_right, kV_law_rule_right, dc_law_rule_right, pm_law_rule_right, an_law_rule_right, ct_law_rule_right, sl_law_rule_right, rfl, hl_law_rule_right, hc_law_rule_right⟩, hk_law_rule_right⟩
  have L_law_rule_right : LamT K mg base "_law_rule_right" C_law_rule_right := ⟨P_law_rule_right, TB (C_law_rule_right, P_law_rule_right) (by simp), by show (_ : Addr × Str) ∈ ([(P_law_stack_right, (("_law_stack_right" : Str) ++ ".<locals>.") ++ "<lambda>"), (P_law_rule_right, (("_law_rule_right" : Str) ++ ".<locals>.") ++ "<lambda>"), (P_law_words_right, (("_law_words_right" : Str) ++ ".<locals>.") ++ "<lambda>")] : List (Addr × Str)); simp, by intro p hp e; change p ∈ ([(P_law_stack_right, (("_law_stack_right" : Str) ++ ".<locals>.") ++ "<lambda>"), (P_law_rule_right, (("_law_rule_right" : Str) ++ ".<locals>.") ++ "<lambda>"), (P_law_words_right, (("_law_words_right" : Str) ++ ".<locals>.") ++ "<lambda>")] : List (Addr × Str)) at hp; simp only [List.mem_cons, List.not_mem_nil, or_false] at hp; rcases hp with rfl | rfl | rfl; exact (ne_law_stack_right_law_rule_right e).elim; exact rfl; exact (ne_law_rule_right_law_words_right e.symm).elim⟩
  have c_law_rule_right : CalD P w K mg base 8 "_law_rule_right" 1 F_law_rule_right [] := ⟨f_law_rule_right, _, _, [], [], PySem.W.mg_of X GG ha_law_rule_right, hk_law_rule_right, fn_law_rule_right W_law_rule_right G0 L_law_rule_right W_law_met (PySem.W.mg_of X GG ha_law_met) cformat_rule cparse_rule c_law_rule_in c_law_rule_text c_law_rule c_law_bent c_law_due, b_law_rule_right W_law_rule_right, .nil, fun _ _ _ => .nil⟩
  have W_law_words_right : FunL K "_law_words_right" (top 62) f_law_words_right _ C_law_words_right := ⟨⟨oc_law_words_right, od_law_words_right, kV_law_words_right, dc_law_words_right, pm_law_words_right, an_law_words_right, ct_law_words_right, sl_law_words_right, rfl, hl_law_words_right, hc_law_words_right⟩, hk_law_words_right⟩
  have L_law_words_right : LamT K mg base "_law_words_right" C_law_words_right := ⟨P_law_words_right, TB (C_law_words_right, P_law_words_right) (by simp), by show (_ : Addr × Str) ∈ ([(P_law_stack_right, (("_law_stack_right" : Str) ++ ".<locals>.") ++ "<lambda>"), (P_law_rule_right, (("_law_rule_right" : Str) ++ ".<locals>.") ++ "<lambda>"), (P_law_words_right, (("_law_words_right" : Str) ++ ".<locals>.") ++ "<lambda>")] : List (Addr × Str)); simp, by intro p hp e; change p ∈ ([(P_law_stack_right, (("_law_stack_right" : Str) ++ ".<locals>.") ++ "<lambda>"), (P_law_rule_right, (("_law_rule_right" : Str) ++ ".<locals>.") ++ "<lambda>"), (P_law_words_right, (("_law_words_right" : Str) ++ ".<locals>.") ++ "<lambda>")] : List (Addr × Str)) at hp; simp only [List.mem_cons, List.not_mem_nil, or_false] at hp; rcases hp with rfl | rfl | rfl; exact (ne_law_stack_right_law_words_right e).elim; exact (ne_law_rule_right_law_words_right e).elim; exact rfl⟩
  have c_law_words_right : CalD P w K mg base 8 "_law_words_right" 0 F_law_words_right [] := ⟨f_law_words_right, _, _, [], [], PySem.W.mg_of X GG ha_law_words_right, hk_law_words_right, fn_law_words_right W_law_words_right G0 L_law_words_right W_law_met (PySem.W.mg_of X GG ha_law_met) cparse_stack cformat_rule cparse_rule, b_law_words_right W_law_words_right, .nil, fun _ _ _ => .nil⟩
  have Wlaw := fun_mk (st := top 63) (qual := "law") hllaw hclaw hklaw
  exact fnlaw Wlaw G0 c_law_stream c_law_stack_right c_law_rule_right c_law_words_right
end K83

set_option Elab.async false
set_option linter.all false
set_option autoImplicit false
set_option maxRecDepth 100000
set_option maxHeartbeats 4000000
open PySem PySem.W PyProof.Rows
set_option maxRecDepth 100000 in
set_option maxHeartbeats 0 in
theorem PySem.Challenge.cw_piledoors_k83_stacks_and_rules_as_texts_holds : PySem.Challenge.rw_piledoors_k83_stacks_and_rules_as_texts.Holds := by
  w_on; o_law; k_head; (case hw => w_witness2)
  k_fill
  refine DD.walk_G (l := PySem.Challenge.rw_piledoors_k83_stacks_and_rules_as_texts) (n := 63) (k := 9) (x := "script") rfl (by decide) rfl ⟨rfl, by decide, by decide⟩ (fun w h Y => PySem.W.km_in_of Y) ?F
  case F =>
    intro w mg fa h Y KX G hmg
    refine' K83.all_mk KX G hmg ?hA_InvalidInterface ?hA_InvalidLabels ?hA_InvalidModule ?hA_InvalidRule ?hA_InvalidStack ?hA_InvalidWires ?hA_ParseError ?hA_PileError ?hA_TooLarge ?hB_abs ?hB_all ?hB_bool ?hB_int ?hB_isinstance ?hB_len ?hB_max ?hB_min ?hB_range ?hB_repr ?hB_sorted ?hB_str ?hB_tuple ?hB_zip ?hC_ARROW ?hC_DIGITS ?hC_EMPTY ?hC_LETTERS ?hC_MAX_DIGITS ?hC_MAX_LABELS ?hC_MAX_LETTERS ?hC_MAX_PUSH ?hC_MAX_STATES ?hC_NONE ?hX_InvalidLabels ?hK_InvalidLabels ?hS_InvalidLabels ?hT_InvalidLabels ?h1_InvalidLabels ?h2_InvalidLabels ?h4_InvalidLabels ?h5_InvalidLabels ?h8_InvalidLabels ?xm_InvalidLabels_PileError ?xm_InvalidLabels_TooLarge ?ki_InvalidLabels_InvalidInterface ?ki_InvalidLabels_InvalidLabels ?ki_InvalidLabels_InvalidModule ?ki_InvalidLabels_InvalidRule ?ki_InvalidLabels_InvalidStack ?ki_InvalidLabels_InvalidWires ?ki_InvalidLabels_ParseError ?hX_InvalidRule ?hK_InvalidRule ?hS_InvalidRule ?hT_InvalidRule ?h1_InvalidRule ?h2_InvalidRule ?h4_InvalidRule ?h5_InvalidRule ?h8_InvalidRule ?xm_InvalidRule_PileError ?xm_InvalidRule_TooLarge ?ki_InvalidRule_InvalidInterface ?ki_InvalidRule_InvalidLabels ?ki_InvalidRule_InvalidModule ?ki_InvalidRule_InvalidRule ?ki_InvalidRule_InvalidStack ?ki_InvalidRule_InvalidWires ?ki_InvalidRule_ParseError ?hX_InvalidStack ?hK_InvalidStack ?hS_InvalidStack ?hT_InvalidStack ?h1_InvalidStack ?h2_InvalidStack ?h4_InvalidStack ?h5_InvalidStack ?h8_InvalidStack ?xm_InvalidStack_PileError ?xm_InvalidStack_TooLarge ?ki_InvalidStack_InvalidInterface ?ki_InvalidStack_InvalidLabels ?ki_InvalidStack_InvalidModule ?ki_InvalidStack_InvalidRule ?ki_InvalidStack_InvalidStack ?ki_InvalidStack_InvalidWires ?ki_InvalidStack_ParseError ?hX_ParseError ?hK_ParseError ?hS_ParseError ?hT_ParseError ?h1_ParseError ?h2_ParseError ?h4_ParseError ?h5_ParseError ?h8_ParseError ?xm_ParseError_PileError ?xm_ParseError_TooLarge ?ki_ParseError_InvalidInterface ?ki_ParseError_InvalidLabels ?ki_ParseError_InvalidModule ?ki_ParseError_InvalidRule ?ki_ParseError_InvalidStack ?ki_ParseError_InvalidWires ?ki_ParseError_ParseError ?h6 ?h7 ?hais_integer ?hlis_integer ?hcis_integer ?hkis_integer ?hais_name ?hlis_name ?hcis_name ?hkis_name ?hais_ascending ?hlis_ascending ?hcis_ascending ?hkis_ascending ?haare_names ?hlare_names ?hcare_names ?hkare_names ?hais_word ?hlis_word ?hcis_word ?hkis_word ?hais_labels ?hlis_labels ?hcis_labels ?hkis_labels ?harequire_labels ?hlrequire_labels ?hcrequire_labels ?hkrequire_labels ?hanumber_in ?hlnumber_in ?hcnumber_in ?hknumber_in ?haparts_text ?hlparts_text ?hcparts_text ?hkparts_text ?haparts_in ?hlparts_in ?hcparts_in ?hkparts_in ?haparts_of ?hlparts_of ?hcparts_of ?hkparts_of ?hachecked ?hlchecked ?hcchecked ?hkchecked ?hatop_text ?hltop_text ?hctop_text ?hktop_text ?hais_target ?hlis_target ?hcis_target ?hkis_target ?hais_formed_rule ?hlis_formed_rule ?hcis_formed_rule ?hkis_formed_rule ?harule_text ?hlrule_text ?hcrule_text ?hkrule_text ?hatarget_in ?hltarget_in ?hctarget_in ?hktarget_in ?harule_in ?hlrule_in ?hcrule_in ?hkrule_in ?haformat_stack ?hlformat_stack ?hcformat_stack ?hkformat_stack ?haparse_stack ?hlparse_stack ?hcparse_stack ?hkparse_stack ?haformat_rule ?hlformat_rule ?hcformat_rule ?hkformat_rule ?haparse_rule ?hlparse_rule ?hcparse_rule ?hkparse_rule ?ha_law_stream ?hl_law_stream ?hc_law_stream ?hk_law_stream ?ha_law_draw ?hl_law_draw ?hc_law_draw ?hk_law_draw ?ha_law_letters ?hl_law_letters ?hc_law_letters ?hk_law_letters ?ha_law_names ?hl_law_names ?hc_law_names ?hk_law_names ?ha_law_word ?hl_law_word ?hc_law_word ?hk_law_word ?ha_law_spelled ?hl_law_spelled ?hc_law_spelled ?hk_law_spelled ?ha_law_is_name ?hl_law_is_name ?hc_law_is_name ?hk_law_is_name ?ha_law_integer ?hl_law_integer ?hc_law_integer ?hk_law_integer ?ha_law_names_in ?hl_law_names_in ?hc_law_names_in ?hk_law_names_in ?ha_law_rule_in ?hl_law_rule_in ?hc_law_rule_in ?hk_law_rule_in ?ha_law_rule_text ?hl_law_rule_text ?hc_law_rule_text ?hk_law_rule_text ?ha_law_rule ?hl_law_rule ?hc_law_rule ?hk_law_rule ?ha_law_bent ?hl_law_bent ?hc_law_bent ?hk_law_bent ?ha_law_met ?hl_law_met ?hc_law_met ?hk_law_met ?ha_law_due ?hl_law_due ?hc_law_due ?hk_law_due ?ha_law_stack_right ?hl_law_stack_right ?hc_law_stack_right ?hk_law_stack_right ?hi_law_stack_right ?hj_law_stack_right ?ht_law_stack_right ?ha_law_rule_right ?hl_law_rule_right ?hc_law_rule_right ?hk_law_rule_right ?hi_law_rule_right ?hj_law_rule_right ?ht_law_rule_right ?ha_law_words_right ?hl_law_words_right ?hc_law_words_right ?hk_law_words_right ?hi_law_words_right ?hj_law_words_right ?ht_law_words_right ?halaw ?hllaw ?hclaw ?hklaw ?ne_law_stack_right_law_rule_right ?ne_law_stack_right_law_words_right ?ne_law_rule_right_law_words_right
    (case hA_InvalidInterface => k_is)
    (case hA_InvalidLabels => k_is)
    (case hA_InvalidModule => k_is)
    (case hA_InvalidRule => k_is)
    (case hA_InvalidStack => k_is)
    (case hA_InvalidWires => k_is)
    (case hA_ParseError => k_is)
    (case hA_PileError => k_is)
    (case hA_TooLarge => k_is)
    (case hB_abs => k_is)
    (case hB_all => k_is)
    (case hB_bool => k_is)
    (case hB_int => k_is)
    (case hB_isinstance => k_is)
    (case hB_len => k_is)
    (case hB_max => k_is)
    (case hB_min => k_is)
    (case hB_range => k_is)
    (case hB_repr => k_is)
    (case hB_sorted => k_is)
    (case hB_str => k_is)
    (case hB_tuple => k_is)
    (case hB_zip => k_is)
    (case hC_ARROW => k_is)
    (case hC_DIGITS => k_is)
    (case hC_EMPTY => k_is)
    (case hC_LETTERS => k_is)
    (case hC_MAX_DIGITS => k_is)
    (case hC_MAX_LABELS => k_is)
    (case hC_MAX_LETTERS => k_is)
    (case hC_MAX_PUSH => k_is)
    (case hC_MAX_STATES => k_is)
    (case hC_NONE => k_is)
    (case hX_InvalidLabels => k_exc)
    (case hK_InvalidLabels => k_is)
    (case hS_InvalidLabels => k_is)
    (case hT_InvalidLabels => k_is)
    (case h1_InvalidLabels => k_is)
    (case h2_InvalidLabels => k_is)
    (case h4_InvalidLabels => k_is)
    (case h5_InvalidLabels => k_is)
    (case h8_InvalidLabels => k_is)
    (case xm_InvalidLabels_PileError => first | k_is | rfl)
    (case xm_InvalidLabels_TooLarge => first | k_is | rfl)
    (case ki_InvalidLabels_InvalidInterface => first | k_is | rfl)
    (case ki_InvalidLabels_InvalidLabels => first | k_is | rfl)
    (case ki_InvalidLabels_InvalidModule => first | k_is | rfl)
    (case ki_InvalidLabels_InvalidRule => first | k_is | rfl)
    (case ki_InvalidLabels_InvalidStack => first | k_is | rfl)
    (case ki_InvalidLabels_InvalidWires => first | k_is | rfl)
    (case ki_InvalidLabels_ParseError => first | k_is | rfl)
    (case hX_InvalidRule => k_exc)
    (case hK_InvalidRule => k_is)
    (case hS_InvalidRule => k_is)
    (case hT_InvalidRule => k_is)
    (case h1_InvalidRule => k_is)
    (case h2_InvalidRule => k_is)
    (case h4_InvalidRule => k_is)
    (case h5_InvalidRule => k_is)
    (case h8_InvalidRule => k_is)
    (case xm_InvalidRule_PileError => first | k_is | rfl)
    (case xm_InvalidRule_TooLarge => first | k_is | rfl)
    (case ki_InvalidRule_InvalidInterface => first | k_is | rfl)
    (case ki_InvalidRule_InvalidLabels => first | k_is | rfl)
    (case ki_InvalidRule_InvalidModule => first | k_is | rfl)
    (case ki_InvalidRule_InvalidRule => first | k_is | rfl)
    (case ki_InvalidRule_InvalidStack => first | k_is | rfl)
    (case ki_InvalidRule_InvalidWires => first | k_is | rfl)
    (case ki_InvalidRule_ParseError => first | k_is | rfl)
    (case hX_InvalidStack => k_exc)
    (case hK_InvalidStack => k_is)
    (case hS_InvalidStack => k_is)
    (case hT_InvalidStack => k_is)
    (case h1_InvalidStack => k_is)
    (case h2_InvalidStack => k_is)
    (case h4_InvalidStack => k_is)
    (case h5_InvalidStack => k_is)
    (case h8_InvalidStack => k_is)
    (case xm_InvalidStack_PileError => first | k_is | rfl)
    (case xm_InvalidStack_TooLarge => first | k_is | rfl)
    (case ki_InvalidStack_InvalidInterface => first | k_is | rfl)
    (case ki_InvalidStack_InvalidLabels => first | k_is | rfl)
    (case ki_InvalidStack_InvalidModule => first | k_is | rfl)
    (case ki_InvalidStack_InvalidRule => first | k_is | rfl)
    (case ki_InvalidStack_InvalidStack => first | k_is | rfl)
    (case ki_InvalidStack_InvalidWires => first | k_is | rfl)
    (case ki_InvalidStack_ParseError => first | k_is | rfl)
    (case hX_ParseError => k_exc)
    (case hK_ParseError => k_is)
    (case hS_ParseError => k_is)
    (case hT_ParseError => k_is)
    (case h1_ParseError => k_is)
    (case h2_ParseError => k_is)
    (case h4_ParseError => k_is)
    (case h5_ParseError => k_is)
    (case h8_ParseError => k_is)
    (case xm_ParseError_PileError => first | k_is | rfl)
    (case xm_ParseError_TooLarge => first | k_is | rfl)
    (case ki_ParseError_InvalidInterface => first | k_is | rfl)
    (case ki_ParseError_InvalidLabels => first | k_is | rfl)
    (case ki_ParseError_InvalidModule => first | k_is | rfl)
    (case ki_ParseError_InvalidRule => first | k_is | rfl)
    (case ki_ParseError_InvalidStack => first | k_is | rfl)
    (case ki_ParseError_InvalidWires => first | k_is | rfl)
    (case ki_ParseError_ParseError => first | k_is | rfl)
    (case h6 => k_is)
    (case h7 => k_is)
    (case hais_integer => k_is)
    (case hlis_integer => k_is)
    (case hcis_integer => k_is)
    (case hkis_integer => k_is)
    (case hais_name => k_is)
    (case hlis_name => k_is)
    (case hcis_name => k_is)
    (case hkis_name => k_is)
    (case hais_ascending => k_is)
    (case hlis_ascending => k_is)
    (case hcis_ascending => k_is)
    (case hkis_ascending => k_is)
    (case haare_names => k_is)
    (case hlare_names => k_is)
    (case hcare_names => k_is)
    (case hkare_names => k_is)
    (case hais_word => k_is)
    (case hlis_word => k_is)
    (case hcis_word => k_is)
    (case hkis_word => k_is)
    (case hais_labels => k_is)
    (case hlis_labels => k_is)
    (case hcis_labels => k_is)
    (case hkis_labels => k_is)
    (case harequire_labels => k_is)
    (case hlrequire_labels => k_is)
    (case hcrequire_labels => k_is)
    (case hkrequire_labels => k_is)
    (case hanumber_in => k_is)
    (case hlnumber_in => k_is)
    (case hcnumber_in => k_is)
    (case hknumber_in => k_is)
    (case haparts_text => k_is)
    (case hlparts_text => k_is)
    (case hcparts_text => k_is)
    (case hkparts_text => k_is)
    (case haparts_in => k_is)
    (case hlparts_in => k_is)
    (case hcparts_in => k_is)
    (case hkparts_in => k_is)
    (case haparts_of => k_is)
    (case hlparts_of => k_is)
    (case hcparts_of => k_is)
    (case hkparts_of => k_is)
    (case hachecked => k_is)
    (case hlchecked => k_is)
    (case hcchecked => k_is)
    (case hkchecked => k_is)
    (case hatop_text => k_is)
    (case hltop_text => k_is)
    (case hctop_text => k_is)
    (case hktop_text => k_is)
    (case hais_target => k_is)
    (case hlis_target => k_is)
    (case hcis_target => k_is)
    (case hkis_target => k_is)
    (case hais_formed_rule => k_is)
    (case hlis_formed_rule => k_is)
    (case hcis_formed_rule => k_is)
    (case hkis_formed_rule => k_is)
    (case harule_text => k_is)
    (case hlrule_text => k_is)
    (case hcrule_text => k_is)
    (case hkrule_text => k_is)
    (case hatarget_in => k_is)
    (case hltarget_in => k_is)
    (case hctarget_in => k_is)
    (case hktarget_in => k_is)
    (case harule_in => k_is)
    (case hlrule_in => k_is)
    (case hcrule_in => k_is)
    (case hkrule_in => k_is)
    (case haformat_stack => k_is)
    (case hlformat_stack => k_is)
    (case hcformat_stack => k_is)
    (case hkformat_stack => k_is)
    (case haparse_stack => k_is)
    (case hlparse_stack => k_is)
    (case hcparse_stack => k_is)
    (case hkparse_stack => k_is)
    (case haformat_rule => k_is)
    (case hlformat_rule => k_is)
    (case hcformat_rule => k_is)
    (case hkformat_rule => k_is)
    (case haparse_rule => k_is)
    (case hlparse_rule => k_is)
    (case hcparse_rule => k_is)
    (case hkparse_rule => k_is)
    (case ha_law_stream => k_is)
    (case hl_law_stream => k_is)
    (case hc_law_stream => k_is)
    (case hk_law_stream => k_is)
    (case ha_law_draw => k_is)
    (case hl_law_draw => k_is)
    (case hc_law_draw => k_is)
    (case hk_law_draw => k_is)
    (case ha_law_letters => k_is)
    (case hl_law_letters => k_is)
    (case hc_law_letters => k_is)
    (case hk_law_letters => k_is)
    (case ha_law_names => k_is)
    (case hl_law_names => k_is)
    (case hc_law_names => k_is)
    (case hk_law_names => k_is)
    (case ha_law_word => k_is)
    (case hl_law_word => k_is)
    (case hc_law_word => k_is)
    (case hk_law_word => k_is)
    (case ha_law_spelled => k_is)
    (case hl_law_spelled => k_is)
    (case hc_law_spelled => k_is)
    (case hk_law_spelled => k_is)
    (case ha_law_is_name => k_is)
    (case hl_law_is_name => k_is)
    (case hc_law_is_name => k_is)
    (case hk_law_is_name => k_is)
    (case ha_law_integer => k_is)
    (case hl_law_integer => k_is)
    (case hc_law_integer => k_is)
    (case hk_law_integer => k_is)
    (case ha_law_names_in => k_is)
    (case hl_law_names_in => k_is)
    (case hc_law_names_in => k_is)
    (case hk_law_names_in => k_is)
    (case ha_law_rule_in => k_is)
    (case hl_law_rule_in => k_is)
    (case hc_law_rule_in => k_is)
    (case hk_law_rule_in => k_is)
    (case ha_law_rule_text => k_is)
    (case hl_law_rule_text => k_is)
    (case hc_law_rule_text => k_is)
    (case hk_law_rule_text => k_is)
    (case ha_law_rule => k_is)
    (case hl_law_rule => k_is)
    (case hc_law_rule => k_is)
    (case hk_law_rule => k_is)
    (case ha_law_bent => k_is)
    (case hl_law_bent => k_is)
    (case hc_law_bent => k_is)
    (case hk_law_bent => k_is)
    (case ha_law_met => k_is)
    (case hl_law_met => k_is)
    (case hc_law_met => k_is)
    (case hk_law_met => k_is)
    (case ha_law_due => k_is)
    (case hl_law_due => k_is)
    (case hc_law_due => k_is)
    (case hk_law_due => k_is)
    (case ha_law_stack_right => k_is)
    (case hl_law_stack_right => k_is)
    (case hc_law_stack_right => k_is)
    (case hk_law_stack_right => k_is)
    (case hi_law_stack_right => exact (show PySem.W.codeHdIn _ _ 368 = true by kernel_rfl))
    (case hj_law_stack_right => kernel_rfl)
    (case ht_law_stack_right => exact PySem.W.km_tabs_of Y _ (by decide))
    (case ha_law_rule_right => k_is)
    (case hl_law_rule_right => k_is)
    (case hc_law_rule_right => k_is)
    (case hk_law_rule_right => k_is)
    (case hi_law_rule_right => exact (show PySem.W.codeHdIn _ _ 373 = true by kernel_rfl))
    (case hj_law_rule_right => kernel_rfl)
    (case ht_law_rule_right => exact PySem.W.km_tabs_of Y _ (by decide))
    (case ha_law_words_right => k_is)
    (case hl_law_words_right => k_is)
    (case hc_law_words_right => k_is)
    (case hk_law_words_right => k_is)
    (case hi_law_words_right => exact (show PySem.W.codeHdIn _ _ 378 = true by kernel_rfl))
    (case hj_law_words_right => kernel_rfl)
    (case ht_law_words_right => exact PySem.W.km_tabs_of Y _ (by decide))
    (case halaw => k_is)
    (case hllaw => k_is)
    (case hclaw => k_is)
    (case hklaw => k_is)
    (case ne_law_stack_right_law_rule_right => decide)
    (case ne_law_stack_right_law_words_right => decide)
    (case ne_law_rule_right_law_words_right => decide)
#print axioms PySem.Challenge.cw_piledoors_k83_stacks_and_rules_as_texts_holds

