import PyProof.Rows.All
import Wide.All
import OpenK.AllK
import Wide.FinOn
import HandS.ForMost
import HandS.ForExc
import HandS.IsInst
import HandS.TupAny
import HandS.TupMul
import HandS.Style
import HandS.Wide
import HandS.Zip
import HandS.RaiseMore
import PyProof.ReprRoads
import KE.GoesMore
import HandS.Text
import HandS.StrMore
import HandS.FStr
import HandS.HeadHook1
import HandS.TryOnly
import HandS.Defaults
import HandS.Head0
import HandS.Head1
import HandS.Head2
import HandS.HeadEnd
import HandS.HeadHook2
import PySem.Challenge.RW_steadytime_k04_texts_of_statements
set_option Elab.async false
set_option linter.all false
set_option maxRecDepth 100000
set_option maxHeartbeats 0
/-! Z layer, part A: plain data, stores, what they stand for on HandS's abstract heap. -/
namespace Z
open PySem PySem.Spec PyProof.Rows L2

/-- plain data: tuples and lists that nobody changes as trees; fro: a list that was there before (the script); loc n: the n-th changeable object of the store -/
inductive D where
  | non | bl (b : Bool) | int (i : Int) | str (x : Str) | tup (xs : List D) | lst (xs : List D) | fro (xs : List D) | loc (n : Nat)

/-- a changeable object: a list; an instance of the c-th class -/
inductive MO where
  | lst (xs : List D)
  | ins (c : Nat) (fs : List (Str × D))
  | dic (kvs : List (Key × D))
  | dit (kvs : List (List Key × D))

abbrev Sto := List MO
/-- where the store's objects stand; addresses that no datum may stand at -/
structure Rg where
  l : List Addr
  p : List Addr
def Rg.add (r : Rg) (a : Addr) : Rg := ⟨r.l ++ [a], r.p⟩
def Rg.hide (r : Rg) (a : Addr) : Rg := ⟨r.l, a :: r.p⟩
abbrev Sl := List (Option D)
abbrev St := L2.St
abbrev XF := Option (List (Str × D))

/-- what an expression comes to -/
inductive Out (T : Type) where
  | ok (a : T) (S : Sto)
  | exc (c : Nat) (fs : XF) (S : Sto)
  | bad
def Out.bind {T U : Type} (o : Out T) (f : T → Sto → Out U) : Out U := match o with
  | .ok a S => f a S
  | .exc c fs S => .exc c fs S
  | .bad => .bad

section
variable (K : PySem.W.Frag) (ca : Nat → Addr) (H : Hp) (r : Rg)

def KL (a : Addr) (xs : List V) : Prop :=
  ∃ (o : Obj) (its : Array Value) (n : Nat), K.lookup a = some o ∧ o.cls = .type "list" ∧ o.dict = none ∧ o.data = .seq its n ∧ its.size ≤ sizeLine ∧ Vals xs its.toList

def FL (a : Addr) (xs : List V) : Prop := (∃ o, H a = some (.frz o (.lst xs))) ∨ KL K a xs

mutual
/-- the datum d stands at the value v -/
inductive Rep : D → V → Prop
  | non : Rep .non .non
  | bl (b : Bool) : Rep (.bl b) (.bl b)
  | int (i : Int) : Rep (.int i) (.int i)
  | str (x : Str) : Rep (.str x) (.str x)
  | tup {a : Addr} {vs : List V} {ds : List D} : SqT K H a vs → Reps ds vs → Rep (.tup ds) (.ref a)
  | lst {a : Addr} {vs : List V} {ds : List D} : H a = some (.lst vs) → a ∉ r.l → a ∉ r.p → Reps ds vs → Rep (.lst ds) (.ref a)
  | fro {a : Addr} {vs : List V} {ds : List D} : FL K H a vs → Reps ds vs → Rep (.fro ds) (.ref a)
  | loc {n : Nat} {a : Addr} : r.l[n]? = some a → Rep (.loc n) (.ref a)
inductive Reps : List D → List V → Prop
  | nil : Reps [] []
  | cons {d : D} {ds : List D} {v : V} {vs : List V} : Rep d v → Reps ds vs → Reps (d :: ds) (v :: vs)
end

/-- fields by name -/
inductive RepF {κ : Type} : List (κ × D) → List (κ × V) → Prop
  | nil : RepF [] []
  | cons {f : κ} {d : D} {v : V} {ds : List (κ × D)} {vs : List (κ × V)} : Rep K H r d v → RepF ds vs → RepF ((f, d) :: ds) ((f, v) :: vs)

def ORep (o : MO) (a : Addr) : Prop := match o with
  | .lst ds => ∃ vs, H a = some (.lst vs) ∧ Reps K H r ds vs
  | .ins c fs => ∃ dx gs, H a = some (.ins (ca c) dx gs) ∧ RepF K H r fs gs
  | .dic ds => ∃ vs, H a = some (.dK vs) ∧ RepF K H r ds vs
  | .dit ds => ∃ vs, H a = some (.dT vs) ∧ RepF K H r ds vs

structure Sim (S : Sto) : Prop where
  len : r.l.length = S.length
  nd : r.l.Nodup
  obj : ∀ (n : Nat) (o : MO), S[n]? = some o → ∃ a, r.l[n]? = some a ∧ ORep K ca H r o a
  prv : ∀ a ∈ r.p, H a ≠ none
end

/-- never changed -/
def Imm : HO → Prop
  | .tup _ => True
  | .frz _ _ => True
  | _ => False

structure Ext (H : Hp) (r : Rg) (H' : Hp) (r' : Rg) : Prop where
  more : ∃ l, r' = ⟨r.l ++ l, r.p⟩ ∧ ∀ a ∈ l, H a = none
  keep : ∀ b o, H b = some o → b ∉ r.l → H' b = some o
  imm : ∀ b o, H b = some o → Imm o → H' b = some o
  there : ∀ b, H b ≠ none → H' b ≠ none

theorem Ext.refl (H : Hp) (r : Rg) : Ext H r H r := ⟨⟨[], by simp, by simp⟩, fun _ _ h _ => h, fun _ _ h _ => h, fun _ h => h⟩
theorem Ext.trans {H H1 H2 : Hp} {r r1 r2 : Rg} (a : Ext H r H1 r1) (b : Ext H1 r1 H2 r2) : Ext H r H2 r2 := by
  obtain ⟨l1, e1, n1⟩ := a.more
  obtain ⟨l2, e2, n2⟩ := b.more
  refine ⟨⟨l1 ++ l2, by rw [e2, e1]; simp [List.append_assoc], fun x hx => ?_⟩, fun x o h hn => b.keep x o (a.keep x o h hn) ?_, fun x o h hi => b.imm x o (a.imm x o h hi) hi, fun x h => b.there x (a.there x h)⟩
  · rcases List.mem_append.mp hx with hx | hx
    · exact n1 x hx
    · have := n2 x hx
      cases e : H x with
      | none => rfl
      | some o => exact absurd this (a.there x (by rw [e]; simp))
  · rw [e1]
    intro hm
    rcases List.mem_append.mp hm with hm | hm
    · exact hn hm
    · rw [n1 x hm] at h; cases h

section
variable {K : PySem.W.Frag} {ca : Nat → Addr} {H H' : Hp} {r r' : Rg}

theorem Ext.rdT {a : Addr} {xs : List V} (e : Ext H r H' r') (h : SqT K H a xs) : SqT K H' a xs := by
  rcases h with (h | ⟨o, h⟩) | h
  · exact .inl (.inl (e.imm _ _ h trivial))
  · exact .inl (.inr ⟨o, e.imm _ _ h trivial⟩)
  · exact .inr h
theorem Ext.notin {a : Addr} (e : Ext H r H' r') (h : H a ≠ none) (hn : a ∉ r.l) : a ∉ r'.l := by
  obtain ⟨l, rfl, hl⟩ := e.more
  intro hm
  rcases List.mem_append.mp hm with hm | hm
  · exact hn hm
  · exact h (hl a hm)
theorem ne_of_some {a : Addr} {u : HO} (h : H a = some u) : H a ≠ none := by rw [h]; simp
theorem Ext.fl {a : Addr} {xs : List V} (e : Ext H r H' r') (h : FL K H a xs) : FL K H' a xs := by
  rcases h with ⟨o, h⟩ | h
  · exact .inl ⟨o, e.imm _ _ h trivial⟩
  · exact .inr h
theorem FL.sq {a : Addr} {xs : List V} (h : FL K H a xs) : SqL K H a xs := by
  rcases h with ⟨o, h⟩ | h
  · exact .inl (.inr ⟨o, h⟩)
  · exact .inr h
theorem Ext.prv (e : Ext H r H' r') : r'.p = r.p := by
  obtain ⟨l, rfl, hl⟩ := e.more
  rfl
theorem Ext.at {n : Nat} {a : Addr} (e : Ext H r H' r') (h : r.l[n]? = some a) : r'.l[n]? = some a := by
  obtain ⟨l, rfl, hl⟩ := e.more
  show (r.l ++ l)[n]? = some a
  rw [List.getElem?_append_left (List.getElem?_eq_some_iff.mp h).1]
  exact h

mutual
theorem Rep.mono (e : Ext H r H' r') : ∀ {d : D} {v : V}, Rep K H r d v → Rep K H' r' d v
  | _, _, .non => .non
  | _, _, .bl b => .bl b
  | _, _, .int i => .int i
  | _, _, .str x => .str x
  | _, _, .tup h hs => .tup (e.rdT h) (Reps.mono e hs)
  | _, _, .lst h hn hp hs => .lst (e.keep _ _ h hn) (e.notin (ne_of_some h) hn) (by rw [e.prv]; exact hp) (Reps.mono e hs)
  | _, _, .fro h hs => .fro (e.fl h) (Reps.mono e hs)
  | _, _, .loc h => .loc (e.at h)
theorem Reps.mono (e : Ext H r H' r') : ∀ {ds : List D} {vs : List V}, Reps K H r ds vs → Reps K H' r' ds vs
  | _, _, .nil => .nil
  | _, _, .cons h hs => .cons (Rep.mono e h) (Reps.mono e hs)
end
theorem RepF.mono {κ : Type} (e : Ext H r H' r') : ∀ {ds : List (κ × D)} {vs : List (κ × V)}, RepF K H r ds vs → RepF K H' r' ds vs
  | _, _, .nil => .nil
  | _, _, .cons h hs => .cons (h.mono e) (RepF.mono e hs)

theorem Reps.length : ∀ {ds : List D} {vs : List V}, Reps K H r ds vs → ds.length = vs.length
  | _, _, .nil => rfl
  | _, _, .cons _ hs => congrArg (· + 1) (Reps.length hs)
theorem Reps.get : ∀ {ds : List D} {vs : List V} {i : Nat} {d : D}, Reps K H r ds vs → ds[i]? = some d → ∃ v, vs[i]? = some v ∧ Rep K H r d v
  | _, _, _, _, .nil, e => by simp at e
  | _, _, 0, _, .cons h _, e => by simp at e; subst e; exact ⟨_, rfl, h⟩
  | _, _, i + 1, d, .cons _ hs, e => by
    obtain ⟨v, h1, h2⟩ := Reps.get (i := i) (d := d) hs (by simpa using e)
    exact ⟨v, by simpa using h1, h2⟩
theorem Reps.get' : ∀ {ds : List D} {vs : List V} {i : Nat} {v : V}, Reps K H r ds vs → vs[i]? = some v → ∃ d, ds[i]? = some d ∧ Rep K H r d v
  | _, _, _, _, .nil, e => by simp at e
  | _, _, 0, _, .cons h _, e => by simp at e; subst e; exact ⟨_, rfl, h⟩
  | _, _, i + 1, v, .cons _ hs, e => by
    obtain ⟨d, h1, h2⟩ := Reps.get' (i := i) (v := v) hs (by simpa using e)
    exact ⟨d, by simpa using h1, h2⟩
theorem Reps.append : ∀ {ds es : List D} {vs us : List V}, Reps K H r ds vs → Reps K H r es us → Reps K H r (ds ++ es) (vs ++ us)
  | _, _, _, _, .nil, q => q
  | _, _, _, _, .cons h hs, q => .cons h (Reps.append hs q)
theorem Reps.take : ∀ {ds : List D} {vs : List V} (n : Nat), Reps K H r ds vs → Reps K H r (ds.take n) (vs.take n)
  | _, _, 0, _ => .nil
  | _, _, _ + 1, .nil => .nil
  | _, _, n + 1, .cons h hs => .cons h (Reps.take n hs)
theorem Reps.drop : ∀ {ds : List D} {vs : List V} (n : Nat), Reps K H r ds vs → Reps K H r (ds.drop n) (vs.drop n)
  | _, _, 0, h => h
  | _, _, _ + 1, .nil => .nil
  | _, _, n + 1, .cons _ hs => Reps.drop n hs
theorem Reps.set {d : D} {v : V} (q : Rep K H r d v) : ∀ {ds : List D} {vs : List V} (n : Nat), Reps K H r ds vs → Reps K H r (ds.set n d) (vs.set n v)
  | _, _, _, .nil => .nil
  | _, _, 0, .cons _ hs => .cons q hs
  | _, _, n + 1, .cons h hs => .cons h (Reps.set q n hs)
theorem Reps.rep {ds : List D} {vs : List V} (h : Reps K H r ds vs) : ∀ n : Nat, Reps K H r (List.replicate n ds).flatten (List.replicate n vs).flatten
  | 0 => .nil
  | n + 1 => by
    rw [List.replicate_succ, List.replicate_succ, List.flatten_cons, List.flatten_cons]
    exact h.append (Reps.rep h n)
theorem Reps.reverse {ds : List D} {vs : List V} (h : Reps K H r ds vs) : Reps K H r ds.reverse vs.reverse := by
  induction h using Reps.rec (motive_1 := fun _ _ _ => True) with
  | nil => exact .nil
  | cons h hs _ ih => rw [List.reverse_cons, List.reverse_cons]; exact ih.append (.cons h .nil)
  | _ => trivial
theorem Reps.dropLast : ∀ {ds : List D} {vs : List V}, Reps K H r ds vs → Reps K H r ds.dropLast vs.dropLast
  | _, _, .nil => .nil
  | _, _, .cons h .nil => .nil
  | _, _, .cons h (.cons h2 hs) => .cons h (Reps.dropLast (.cons h2 hs))

/-- slots -/
structure Slots (K : PySem.W.Frag) (H : Hp) (r : Rg) (sd : Sl) (s : St) : Prop where
  len : sd.length = s.length
  at_ : ∀ (i : Nat) (d : D), sd[i]? = some (some d) → ∃ v, s[i]? = some (some v) ∧ Rep K H r d v
theorem Slots.mono {sd : Sl} {s : St} (e : Ext H r H' r') (h : Slots K H r sd s) : Slots K H' r' sd s :=
  ⟨h.len, fun i d q => let ⟨v, h1, h2⟩ := h.at_ i d q; ⟨v, h1, h2.mono e⟩⟩
theorem Slots.set {sd : Sl} {s : St} {i : Nat} {d : D} {v : V} (h : Slots K H r sd s) (q : Rep K H r d v) : Slots K H r (sd.set i (some d)) (s.set i (some v)) := by
  refine ⟨by rw [List.length_set, List.length_set, h.len], fun j e he => ?_⟩
  by_cases hj : i = j
  · subst hj
    by_cases hl : i < sd.length
    · rw [List.getElem?_set_self hl] at he
      cases he
      exact ⟨v, by rw [List.getElem?_set_self (by rw [← h.len]; exact hl)], q⟩
    · rw [List.getElem?_eq_none (by simpa using hl)] at he
      cases he
  · rw [List.getElem?_set_ne hj] at he
    obtain ⟨u, h1, h2⟩ := h.at_ j e he
    exact ⟨u, by rw [List.getElem?_set_ne hj]; exact h1, h2⟩
theorem Slots.weak {sd sd' : Sl} {s s' : St} (h : Slots K H r sd s) (hl : sd'.length = s'.length) (w : ∀ (i : Nat) (d : D), sd'[i]? = some (some d) → sd[i]? = some (some d)) (w' : ∀ (i : Nat) (d : D), sd'[i]? = some (some d) → s'[i]? = s[i]?) : Slots K H r sd' s' :=
  ⟨hl, fun i d q => let ⟨v, h1, h2⟩ := h.at_ i d (w i d q); ⟨v, by rw [w' i d q]; exact h1, h2⟩⟩

/-! ### changes of the heap -/
theorem Ext.new {p : Addr} {o : HO} (hp : H p = none) : Ext H r (upd H p o) r := by
  have k : ∀ b u, H b = some u → upd H p o b = some u := fun b u h => by rw [upd_ne (ne_of_none h hp)]; exact h
  refine ⟨⟨[], by simp, by simp⟩, fun b u h _ => k b u h, fun b u h _ => k b u h, fun b h => ?_⟩
  cases e : H b with
  | none => exact absurd e h
  | some u => rw [k b u e]; simp
theorem Ext.newLoc {p : Addr} {o : HO} (hp : H p = none) : Ext H r (upd H p o) (r.add p) := by
  have k : ∀ b u, H b = some u → upd H p o b = some u := fun b u h => by rw [upd_ne (ne_of_none h hp)]; exact h
  refine ⟨⟨[p], rfl, by simpa using hp⟩, fun b u h _ => k b u h, fun b u h _ => k b u h, fun b h => ?_⟩
  cases e : H b with
  | none => exact absurd e h
  | some u => rw [k b u e]; simp
theorem Ext.write {p : Addr} {o u : HO} (hp : H p = some u) (hi : ¬ Imm u) (hm : p ∈ r.l) : Ext H r (upd H p o) r := by
  refine ⟨⟨[], by simp, by simp⟩, fun b x h hn => ?_, fun b x h hx => ?_, fun b h => ?_⟩
  · rw [upd_ne (show b ≠ p from fun e => hn (by rw [e]; exact hm))]; exact h
  · by_cases e : b = p
    · subst e; rw [hp] at h; cases h; exact absurd hx hi
    · rw [upd_ne e]; exact h
  · by_cases e : b = p
    · subst e; rw [upd_same]; simp
    · rw [upd_ne e]; exact h

theorem ORep.mono {o : MO} {a : Addr} (e : Ext H r H' r') (h : ORep K ca H r o a) (k : H' a = H a) : ORep K ca H' r' o a := by
  cases o with
  | lst ds => obtain ⟨vs, h1, h2⟩ := h; exact ⟨vs, by rw [k]; exact h1, h2.mono e⟩
  | ins c fs => obtain ⟨dx, gs, h1, h2⟩ := h; exact ⟨dx, gs, by rw [k]; exact h1, h2.mono e⟩
  | dic ds => obtain ⟨vs, h1, h2⟩ := h; exact ⟨vs, by rw [k]; exact h1, h2.mono e⟩
  | dit ds => obtain ⟨vs, h1, h2⟩ := h; exact ⟨vs, by rw [k]; exact h1, h2.mono e⟩
theorem ORep.some {o : MO} {a : Addr} (h : ORep K ca H r o a) : ∃ u, H a = some u ∧ ¬ Imm u := by
  cases o with
  | lst ds => obtain ⟨vs, h1, h2⟩ := h; exact ⟨_, h1, id⟩
  | ins c fs => obtain ⟨dx, gs, h1, h2⟩ := h; exact ⟨_, h1, id⟩
  | dic ds => obtain ⟨vs, h1, h2⟩ := h; exact ⟨_, h1, id⟩
  | dit ds => obtain ⟨vs, h1, h2⟩ := h; exact ⟨_, h1, id⟩
theorem Sim.tracked {S : Sto} (m : Sim K ca H r S) {a : Addr} (h : a ∈ r.l) : H a ≠ none := by
  obtain ⟨i, hi, e⟩ := List.getElem_of_mem h
  have hs : i < S.length := by rw [← m.len]; exact hi
  obtain ⟨b, h1, h2⟩ := m.obj i S[i] (List.getElem?_eq_getElem hs)
  rw [List.getElem?_eq_getElem hi, e] at h1
  cases h1
  obtain ⟨u, hu, _⟩ := h2.some
  rw [hu]; simp
/-- a new object that is no store's -/
theorem Sim.new {S : Sto} {p : Addr} {o : HO} (m : Sim K ca H r S) (hp : H p = none) : Sim K ca (upd H p o) r S :=
  ⟨m.len, m.nd, fun n u h => let ⟨a, h1, h2⟩ := m.obj n u h; ⟨a, h1, h2.mono (Ext.new hp) (upd_ne fun e => m.tracked (e ▸ List.mem_of_getElem? h1) hp)⟩, fun a ha => (Ext.new (r := r) hp).there a (m.prv a ha)⟩
theorem Sim.newLoc {S : Sto} {p : Addr} {o : HO} {q : MO} (m : Sim K ca H r S) (hp : H p = none) (hq : ORep K ca (upd H p o) (r.add p) q p) : Sim K ca (upd H p o) (r.add p) (S ++ [q]) := by
  have hn : p ∉ r.l := fun h => m.tracked h hp
  refine ⟨by simp [Rg.add, m.len], List.nodup_append.mpr ⟨m.nd, by simp, fun a ha b hb => by simp at hb; subst hb; exact fun e => hn (e ▸ ha)⟩, fun n u h => ?_, fun a ha => (Ext.new (r := r) hp).there a (m.prv a ha)⟩
  by_cases hl : n < S.length
  · rw [List.getElem?_append_left hl] at h
    obtain ⟨a, h1, h2⟩ := m.obj n u h
    exact ⟨a, (Ext.newLoc (o := o) hp).at h1, h2.mono (Ext.newLoc hp) (upd_ne fun e => hn (e ▸ List.mem_of_getElem? h1))⟩
  · rw [List.getElem?_append_right (by omega)] at h
    have hz : n - S.length = 0 := by
      have := (List.getElem?_eq_some_iff.mp h).1
      simp at this; omega
    rw [hz] at h
    simp at h
    subst h
    refine ⟨p, ?_, hq⟩
    show (r.l ++ [p])[n]? = some p
    rw [List.getElem?_append_right (by rw [m.len]; omega), m.len, hz]; rfl
/-- the object n is changed -/
theorem Sim.write {S : Sto} {p : Addr} {o : HO} {q : MO} {n : Nat} (m : Sim K ca H r S) (hn : r.l[n]? = some p) (hq : ORep K ca (upd H p o) r q p) : Sim K ca (upd H p o) r (S.set n q) := by
  have hl : n < r.l.length := (List.getElem?_eq_some_iff.mp hn).1
  have hls : n < S.length := by rw [← m.len]; exact hl
  obtain ⟨a0, h0, ho⟩ := m.obj n S[n] (List.getElem?_eq_getElem hls)
  rw [hn] at h0; cases h0
  obtain ⟨u0, hu0, hi0⟩ := ho.some
  have ex : Ext H r (upd H p o) r := Ext.write hu0 hi0 (List.mem_of_getElem? hn)
  refine ⟨by simp [m.len], m.nd, fun j u h => ?_, fun a ha => ex.there a (m.prv a ha)⟩
  by_cases hj : n = j
  · subst hj
    rw [List.getElem?_set_self hls] at h
    cases h
    exact ⟨p, hn, hq⟩
  · rw [List.getElem?_set_ne hj] at h
    obtain ⟨a, h1, h2⟩ := m.obj j u h
    refine ⟨a, h1, h2.mono ex (upd_ne fun e => hj ?_)⟩
    subst e
    obtain ⟨l1, e1⟩ := List.getElem?_eq_some_iff.mp hn
    obtain ⟨l2, e2⟩ := List.getElem?_eq_some_iff.mp h1
    exact (List.getElem_inj m.nd).mp (e1.trans e2.symm)
theorem Sim.writeExt {S : Sto} {p : Addr} {o : HO} {n : Nat} (m : Sim K ca H r S) (hn : r.l[n]? = some p) : Ext H r (upd H p o) r := by
  have hl : n < r.l.length := (List.getElem?_eq_some_iff.mp hn).1
  have hls : n < S.length := by rw [← m.len]; exact hl
  obtain ⟨a0, h0, ho⟩ := m.obj n S[n] (List.getElem?_eq_getElem hls)
  rw [hn] at h0; cases h0
  obtain ⟨u0, hu0, hi0⟩ := ho.some
  exact Ext.write hu0 hi0 (List.mem_of_getElem? hn)
theorem Sim.loc {S : Sto} {n : Nat} {o : MO} {v : V} (m : Sim K ca H r S) (h : Rep K H r (.loc n) v) (e : S[n]? = some o) : ∃ a, v = .ref a ∧ r.l[n]? = some a ∧ ORep K ca H r o a := by
  cases h with
  | loc hr =>
    obtain ⟨b, h1, h2⟩ := m.obj n o e
    rw [hr] at h1; cases h1
    exact ⟨_, rfl, hr, h2⟩
end
end Z

/-! Z layer, part B: landings; the operators on plain data and what HandS's rules ask for them. -/
namespace Z
open PySem PySem.Spec PyProof.Rows L2

def XRep (K : PySem.W.Frag) (ca : Nat → Addr) (H : Hp) (r : Rg) (c : Nat) (fs : XF) (cls : Value) (d : Option Addr) : Prop :=
  cls = .ref (ca c) ∧ match fs with
    | none => d = none
    | some gs => ∃ dd vs, d = some dd ∧ H dd = some (.xd vs) ∧ RepF K H r gs vs

abbrev RR (T A : Type) := Hp → Rg → T → A → Prop

section
variable (K : PySem.W.Frag) (ca : Nat → Addr)
def Ln {T A : Type} (R : RR T A) (H : Hp) (r : Rg) (o : Out T) (Q : A → Hp → Prop) (W : XK) : Prop := match o with
  | .ok d S => ∀ v H' r', Ext H r H' r' → Sim K ca H' r' S → R H' r' d v → Q v H'
  | .exc c fs S => ∀ cls d H' r', Ext H r H' r' → Sim K ca H' r' S → XRep K ca H' r' c fs cls d → W cls d H'
  | .bad => False
abbrev rV : RR D V := fun H r => Rep K H r
abbrev rB : RR Bool Bool := fun _ _ a b => a = b
abbrev rL : RR (List D) (List V) := fun H r => Reps K H r

def rE (W : WX) (m : Sl → Sto → Out D) : TE := fun s H Q => ∃ sd r S, Slots K H r sd s ∧ Sim K ca H r S ∧ Ln K ca (rV K) H r (m sd S) Q (fun c d H' => W c d s H')
def rT (W : WX) (m : Sl → Sto → Out Bool) : TT := fun s H Q => ∃ sd r S, Slots K H r sd s ∧ Sim K ca H r S ∧ Ln K ca rB H r (m sd S) Q (fun c d H' => W c d s H')
def rA (W : WX) (m : Sl → Sto → Out (List D)) : TA := fun s H Q => ∃ sd r S, Slots K H r sd s ∧ Sim K ca H r S ∧ Ln K ca (rL K) H r (m sd S) Q (fun c d H' => W c d s H')
end

section
variable {K : PySem.W.Frag} {ca : Nat → Addr} {H H1 : Hp} {r r1 : Rg}
theorem Ln.ext {T A : Type} {R : RR T A} {o : Out T} {Q : A → Hp → Prop} {W : XK} (e : Ext H r H1 r1) (h : Ln K ca R H r o Q W) : Ln K ca R H1 r1 o Q W := by
  cases o with
  | ok d S => exact fun v H' r' x => h v H' r' (e.trans x)
  | exc c fs S => exact fun cls d H' r' x => h cls d H' r' (e.trans x)
  | bad => exact h
theorem Ln.bind {T U A B : Type} {R : RR T A} {R' : RR U B} {o : Out T} {f : T → Sto → Out U} {Q : B → Hp → Prop} {Q1 : A → Hp → Prop} {W : XK} (h : Ln K ca R' H r (o.bind f) Q W)
    (k : ∀ d S v H1 r1, Ext H r H1 r1 → Sim K ca H1 r1 S → R H1 r1 d v → Ln K ca R' H1 r1 (f d S) Q W → Q1 v H1) : Ln K ca R H r o Q1 W := by
  cases o with
  | ok d S => exact fun v H' r' x m q => k d S v H' r' x m q (Ln.ext x h)
  | exc c fs S => exact h
  | bad => exact h
theorem Ln.ok {T A : Type} {R : RR T A} {d : T} {S : Sto} {v : A} {Q : A → Hp → Prop} {W : XK} (h : Ln K ca R H r (.ok d S) Q W) (m : Sim K ca H r S) (q : R H r d v) : Q v H := h v H r (Ext.refl H r) m q
end

def lift {T : Type} (o : Option T) (S : Sto) : Out T := match o with
  | some d => .ok d S
  | none => .bad
theorem lift_ln {K : PySem.W.Frag} {ca : Nat → Addr} {H : Hp} {r : Rg} {T A : Type} {R : RR T A} {o : Option T} {S : Sto} {Q : A → Hp → Prop} {W : XK} (h : Ln K ca R H r (lift o S) Q W) :
    ∃ d, o = some d ∧ ∀ v H' r', Ext H r H' r' → Sim K ca H' r' S → R H' r' d v → Q v H' := by
  cases o with
  | none => exact h.elim
  | some d => exact ⟨d, rfl, h⟩

/-! ### what a datum is -/
def asL (S : Sto) : D → Option (List D)
  | .lst xs => some xs
  | .loc n => match S[n]? with
    | some (.lst xs) => some xs
    | _ => none
  | _ => none
def asQ (S : Sto) : D → Option (List D)
  | .tup xs => some xs
  | .fro xs => some xs
  | d => asL S d
def asLF (S : Sto) : D → Option (List D)
  | .fro xs => some xs
  | d => asL S d

section
variable {K : PySem.W.Frag} {ca : Nat → Addr} {H : Hp} {r : Rg} {S : Sto}
theorem asL_rep {x : D} {v : V} {ds : List D} (m : Sim K ca H r S) (hx : Rep K H r x v) (e : asL S x = some ds) : ∃ a vs, v = .ref a ∧ H a = some (.lst vs) ∧ Reps K H r ds vs := by
  cases hx with
  | lst h hn hp hs => cases e; exact ⟨_, _, rfl, h, hs⟩
  | @loc n a h =>
    simp only [asL] at e
    split at e
    · rename_i xs he
      cases e
      obtain ⟨b, h1, h2⟩ := m.obj n _ he
      rw [h] at h1; cases h1
      obtain ⟨vs, h3, h4⟩ := h2
      exact ⟨_, vs, rfl, h3, h4⟩
    · cases e
  | _ => simp [asL] at e
theorem asLF_rep {x : D} {v : V} {ds : List D} (m : Sim K ca H r S) (hx : Rep K H r x v) (e : asLF S x = some ds) : ∃ a vs, v = .ref a ∧ SqL K H a vs ∧ Reps K H r ds vs := by
  cases hx with
  | fro h hs => cases e; exact ⟨_, _, rfl, h.sq, hs⟩
  | lst h hn hp hs => cases e; exact ⟨_, _, rfl, .of h, hs⟩
  | loc h =>
    obtain ⟨a, vs, h1, h2, h3⟩ := asL_rep m (.loc h) (show asL S _ = some ds from e)
    exact ⟨a, vs, h1, .of h2, h3⟩
  | _ => simp [asLF, asL] at e
theorem asQ_rep {x : D} {v : V} {ds : List D} (m : Sim K ca H r S) (hx : Rep K H r x v) (e : asQ S x = some ds) : ∃ a vs, v = .ref a ∧ (SqL K H a vs ∨ SqT K H a vs) ∧ Reps K H r ds vs := by
  cases hx with
  | tup h hs => cases e; exact ⟨_, _, rfl, .inr h, hs⟩
  | fro h hs => cases e; exact ⟨_, _, rfl, .inl h.sq, hs⟩
  | lst h hn hp hs => cases e; exact ⟨_, _, rfl, .inl (.of h), hs⟩
  | loc h =>
    obtain ⟨a, vs, h1, h2, h3⟩ := asL_rep m (.loc h) (show asL S _ = some ds from e)
    exact ⟨a, vs, h1, .inl (.of h2), h3⟩
  | _ => simp [asQ, asL] at e
theorem newTup {p : Addr} {ds : List D} {vs : List V} (hp : H p = none) (hs : Reps K H r ds vs) : Rep K (upd H p (.tup vs)) r (.tup ds) (.ref p) := .tup (.of upd_same) (hs.mono (Ext.new hp))
theorem newLst {p : Addr} {ds : List D} {vs : List V} (m : Sim K ca H r S) (hp : H p = none) (hs : Reps K H r ds vs) : Rep K (upd H p (.lst vs)) r (.lst ds) (.ref p) :=
  .lst upd_same (fun h => m.tracked h hp) (fun h => m.prv _ h hp) (hs.mono (Ext.new hp))
theorem Reps.nil_iff {ds : List D} {vs : List V} (h : Reps K H r ds vs) : vs = [] ↔ ds = [] := by cases h <;> simp
theorem Reps.nil_of {vs : List V} (h : Reps K H r [] vs) : vs = [] := by cases h; rfl
end

/-- a rule by values, of two data -/
def OpZ (K : PySem.W.Frag) (ca : Nat → Addr) (R : R2) (f : Sto → D → D → Option D) : Prop :=
  ∀ {H : Hp} {r : Rg} {S : Sto} {x y : D} {vx vy : V} {d : D} {Q : VK}, Sim K ca H r S → Rep K H r x vx → Rep K H r y vy → f S x y = some d →
    (∀ v H', Ext H r H' r → Sim K ca H' r S → Rep K H' r d v → Q v H') → R vx vy H Q
/-- .. of a list of arguments -/
def CallZ (K : PySem.W.Frag) (ca : Nat → Addr) (R : List V → Hp → VK → Prop) (f : Sto → List D → Option D) : Prop :=
  ∀ {H : Hp} {r : Rg} {S : Sto} {xs : List D} {vs : List V} {d : D} {Q : VK}, Sim K ca H r S → Reps K H r xs vs → f S xs = some d →
    (∀ v H', Ext H r H' r → Sim K ca H' r S → Rep K H' r d v → Q v H') → R vs H Q

def rOr (a b : R2) : R2 := fun x y H Q => a x y H Q ∨ b x y H Q

/-! ### + -/
def addP (S : Sto) (x y : D) : Option D := match x, y with
  | .int i, .int j => some (.int (i + j))
  | .str a, .str b => if a.length + b.length ≤ 16777216 then some (.str (a ++ b)) else none
  | .tup xs, .tup ys => if xs.length + ys.length ≤ 16777216 then some (.tup (xs ++ ys)) else none
  | x, y => match asL S x, asL S y with
    | some xs, some ys => if xs.length + ys.length ≤ 16777216 then some (.lst (xs ++ ys)) else none
    | _, _ => none
def rStrCat : R2 := fun x y H Q => ∃ i j, x = .str i ∧ y = .str j ∧ i.length + j.length ≤ sizeLine ∧ Q (.str (i ++ j)) H
def rAddI : R2 := rI0 fun i j => .int (i + j)
def rAdd (K : PySem.W.Frag) : R2 := rOr rAddI (rOr rStrCat (rOr (rCatA K) rCat))
theorem or_add {X : Cx} : OpR X (binaryOp .Add) (rAdd X.K) := op_add.or (op_add_str.or (op_catA.or op_cat))
section
variable {K : PySem.W.Frag} {ca : Nat → Addr}
theorem oz_add : OpZ K ca (rAdd K) addP := by
  intro H r S x y vx vy d Q m hx hy e q
  unfold addP at e
  split at e
  · cases hx; cases hy; cases e
    exact .inl ⟨_, _, rfl, rfl, q _ _ (Ext.refl ..) m (.int _)⟩
  · cases hx; cases hy
    split at e
    · cases e
      exact .inr (.inl ⟨_, _, rfl, rfl, by rw [sizeLine_eq]; assumption, q _ _ (Ext.refl ..) m (.str _)⟩)
    · cases e
  · cases hx with
    | tup h1 s1 =>
      cases hy with
      | tup h2 s2 =>
        split at e
        · rename_i hl
          cases e
          refine .inr (.inr (.inl ⟨_, _, _, _, rfl, rfl, h1, h2, by rw [sizeLine_eq, ← s1.length, ← s2.length]; exact hl, fun z => ?_, fun z z2 => ?_, fun z z2 p hp => ?_⟩))
          · have := s1.nil_iff.mp z; subst this
            exact q _ _ (Ext.refl ..) m (.tup h2 s2)
          · have := s2.nil_iff.mp z2; subst this
            rw [List.append_nil] at q
            exact q _ _ (Ext.refl ..) m (.tup h1 s1)
          · exact q _ _ (Ext.new hp) (m.new hp) (newTup hp (s1.append s2))
        · cases e
  · split at e
    · rename_i xs ys e1 e2
      split at e
      · rename_i hl
        cases e
        obtain ⟨a, vs, rfl, h1, s1⟩ := asL_rep m hx e1
        obtain ⟨b, us, rfl, h2, s2⟩ := asL_rep m hy e2
        exact .inr (.inr (.inr ⟨_, _, _, _, rfl, rfl, h1, h2, by rw [sizeLine_eq, ← s1.length, ← s2.length]; exact hl, fun p hp => q _ _ (Ext.new hp) (m.new hp) (newLst m hp (s1.append s2))⟩))
      · cases e
    · cases e

/-! ### -, //, %, ** of ints -/
def intP (f : Int → Int → Option Int) (_ : Sto) (x y : D) : Option D := match x, y with
  | .int i, .int j => (f i j).map .int
  | _, _ => none
theorem oz_int {C : Int → Int → Prop} {g : Int → Int → Int} {f : Int → Int → Option Int} (h : ∀ i j k, f i j = some k → C i j ∧ g i j = k) : OpZ K ca (rI C fun i j => .int (g i j)) (intP f) := by
  intro H r S x y vx vy d Q m hx hy e q
  unfold intP at e
  split at e
  · rename_i i j
    cases hx; cases hy
    cases e2 : f i j with
    | none => rw [e2] at e; cases e
    | some k =>
      rw [e2] at e
      cases e
      obtain ⟨hc, rfl⟩ := h i j k e2
      exact ⟨_, _, rfl, rfl, hc, q _ _ (Ext.refl ..) m (.int _)⟩
  · cases e
def subI (i j : Int) : Option Int := some (i - j)
def rSubI : R2 := rI (fun _ _ => True) fun i j => .int (i - j)
theorem or_sub {X : Cx} : OpR X (binaryOp .Sub) rSubI := fun pins s σ H x y v u Q I rx ry ⟨i, j, e1, e2, _, q⟩ => op_sub pins s σ H x y v u Q I rx ry ⟨i, j, e1, e2, q⟩
theorem oz_sub : OpZ K ca rSubI (intP subI) := oz_int fun i j k e => ⟨trivial, Option.some.inj e⟩
def fdivI (i j : Int) : Option Int := if 0 < j ∧ j < 1073741824 then some (i / j) else none
theorem oz_fdiv : OpZ K ca (rI CDiv fun i j => .int (i / j)) (intP fdivI) := oz_int fun i j k e => by
  unfold fdivI at e; split at e
  · rename_i h; exact ⟨h, Option.some.inj e⟩
  · cases e
def modI (i j : Int) : Option Int := if 0 < j then some (i % j) else none
theorem oz_mod : OpZ K ca (rI (fun _ j => 0 < j) fun i j => .int (i % j)) (intP modI) := oz_int fun i j k e => by
  unfold modI at e; split at e
  · rename_i h; exact ⟨h, Option.some.inj e⟩
  · cases e
def powI (i j : Int) : Option Int := if 0 ≤ j ∧ j ≤ 1000000 ∧ i.natAbs < 18446744073709551616 then some (i ^ j.toNat) else none
theorem oz_pow : OpZ K ca (rI CPow fun i j => .int (i ^ j.toNat)) (intP powI) := oz_int fun i j k e => by
  unfold powI at e; split at e
  · rename_i h; exact ⟨⟨h.1, h.2.1, by have := h.2.2; simpa using this⟩, Option.some.inj e⟩
  · cases e
end
end Z

/-! Z layer: tuple * n where n is below 2, or the tuple is empty. -/
namespace Z
open PySem PySem.Spec PyProof.Rows L2
theorem tup_rep_same (l : Addr) (items : Array Value) (n : Nat) (dd : Option Addr) (sl : Array (Option Value)) (x : Int) (u : Tok) (c0 : (decide (x < -(2 ^ 63)) || decide (x ≥ 2 ^ 63)) = false) (c1 : (items.isEmpty || x == 1) = true) :
    Meets (Builtin.«tuple.__mul__» ⟨[.ref l, .int x u], []⟩) (fun _ R s => s.heap.get? l = some { cls := .type "tuple", dict := dd, data := .seq items n, slots := sl } ∧ R (.ok (.ret (Value.ref l))) s) :=
  .of_wp fun prog w A R s h => by
    obtain ⟨hp, g, d, tk, os⟩ := s
    obtain ⟨hl, h⟩ := h
    have f1 := AutoSeq1.idx_int
    wp_walk using wpAny_loadPart' hl
    repeat (first
      | (refine wpAny_ite_false (decide_eq_false (by rw [c0]; exact Bool.false_ne_true)) ?_; wp_walk using wpAny_loadPart' hl)
      | (refine wpAny_ite_true (decide_eq_true c1) ?_; wp_walk using wpAny_loadPart' hl))
    exact ⟨_, rfl, h⟩
theorem tup_rep_none (l : Addr) (items : Array Value) (n : Nat) (dd : Option Addr) (sl : Array (Option Value)) (x : Int) (u : Tok) (c0 : (decide (x < -(2 ^ 63)) || decide (x ≥ 2 ^ 63)) = false) (c1 : (items.isEmpty || x == 1) = false) (c2 : (decide (x ≤ 0) || items.isEmpty) = true) :
    Meets (Builtin.«tuple.__mul__» ⟨[.ref l, .int x u], []⟩) (fun _ R s => s.heap.get? l = some { cls := .type "tuple", dict := dd, data := .seq items n, slots := sl } ∧
      R (.ok (.ret (Value.ref s.heap.objs.size))) { s with heap := s.heap.push { cls := Value.type "tuple", data := Data.seq #[] }, toks := s.toks }) :=
  .of_wp fun prog w A R s h => by
    obtain ⟨hp, g, d, tk, os⟩ := s
    obtain ⟨hl, h⟩ := h
    have f1 := AutoSeq1.idx_int
    wp_walk using wpAny_loadPart' hl
    repeat (first
      | (refine wpAny_ite_false (decide_eq_false (by rw [c0]; exact Bool.false_ne_true)) ?_; wp_walk using wpAny_loadPart' hl)
      | (refine wpAny_ite_false (decide_eq_false (by rw [c1]; exact Bool.false_ne_true)) ?_; wp_walk using wpAny_loadPart' hl)
      | (refine wpAny_ite_true (decide_eq_true c2) ?_; wp_walk using wpAny_loadPart' hl))
    exact ⟨_, rfl, h⟩
def rRepS (K : PySem.W.Frag) : R2 := fun x y H Q => ∃ l k xs, x = .ref l ∧ y = .int k ∧ SqT K H l xs ∧ -(2 ^ 63) ≤ k ∧ k < 2 ^ 63 ∧
  (((xs = [] ∨ k = 1) ∧ Q (.ref l) H) ∨ (xs ≠ [] ∧ k ≤ 0 ∧ ∀ p, H p = none → Q (.ref p) (upd H p (.tup []))))
section
variable {X : Cx}
theorem op_repS : OpR X (binaryOp .Mult) (rRepS X.K) := by
  intro pins s σ H x y v u Q I rx ry h
  obtain ⟨l, k, xs, rfl, rfl, hT, h1, h2, h⟩ := h
  cases rx
  obtain ⟨t, rfl⟩ := ry
  obtain ⟨its, r, ⟨⟨cls, dd, data, sl⟩, ho, hc, n, hd⟩, hs⟩ := I.tuple hT
  simp only at hc hd
  subst hc hd
  have c0 : (decide (k < -(2 ^ 63)) || decide (k ≥ 2 ^ 63)) = false := by
    rw [decide_eq_false (by omega), decide_eq_false (by omega)] <;> rfl
  have he : its.toArray.isEmpty = xs.isEmpty := by cases r <;> simp
  refine wpAny_binaryOp_repeat_ref (T := "tuple") (U := "int") (by decide) ⟨_, ho, rfl⟩ (fun s' => typeIs_int s' k t) noFill_tuple_mul F.fills_int_mul F.slot_int_rmul repeat_tuple F.slot_int_index.lookup
    (call_meets F.slot_int_rmul (typeIs_int s k t) F.entry_int_rmul (F.args_int_rmul_2 _ _) (int_rmul_tuple k t l its.toArray n dd sl)
      ⟨ho, rfl, ⟨_, ho, rfl⟩, ?_⟩)
  rcases h with ⟨hk, q⟩ | ⟨hne, hk, q⟩
  · have c1 : (its.toArray.isEmpty || k == 1) = true := by
      rw [he]
      rcases hk with rfl | rfl <;> simp
    exact call_meets F.slot_tuple_mul ⟨_, ho, rfl⟩ F.entry_tuple_mul (F.args_tuple_mul_2 _ _) (tup_rep_same l its.toArray n dd sl k t c0 c1) ⟨ho, .ref l, H, I, rfl, q⟩
  · have e1 : xs.isEmpty = false := by cases xs <;> simp at hne ⊢
    have c1 : (its.toArray.isEmpty || k == 1) = false := by
      rw [he, e1, Bool.false_or]
      exact beq_eq_false_iff_ne.mpr (by omega)
    have c2 : (decide (k ≤ 0) || its.toArray.isEmpty) = true := by rw [decide_eq_true hk]; rfl
    exact call_meets F.slot_tuple_mul ⟨_, ho, rfl⟩ F.entry_tuple_mul (F.args_tuple_mul_2 _ _) (tup_rep_none l its.toArray n dd sl k t c0 c1 c2)
      ⟨ho, .ref s.heap.objs.size, _, I.laid (t' := s.toks) (o := .tup []) (fun b ob q => Heap.get?_push_of_some _ q) (Nat.le_refl _) ⟨Nat.zero_le _, _, .nil, IsTup.new _ _⟩, rfl, q _ (I.hok.fresh (Nat.le_refl _))⟩
end
end Z

/-! Z layer, part C: products, comparisons, in, subscripts, slices, truth, isinstance, built-ins. -/
namespace Z
open PySem PySem.Spec PyProof.Rows L2

/-! ### products -/
def mulI (i j : Int) : Option Int := if (-18446744073709551616 < i ∧ i < 18446744073709551616) ∨ (-18446744073709551616 < j ∧ j < 18446744073709551616) then some (i * j) else if i.natAbs.log2 + j.natAbs.log2 < 1000000 then some (i * j) else none
def mulP (S : Sto) (x y : D) : Option D := match x, y with
  | .int i, .int j => (mulI i j).map .int
  | .tup xs, .int k => if k ≤ 1000 ∧ -1000000 ≤ k ∧ xs.length ≤ 1000 then some (.tup (List.replicate k.toNat xs).flatten) else none
  | x, .int k => match asL S x with
    | some xs => if -9223372036854775808 ≤ k ∧ k < 9223372036854775808 ∧ xs.length * k.toNat ≤ 16777216 then some (.lst (List.replicate k.toNat xs).flatten) else none
    | none => none
  | _, _ => none
def rMulI : R2 := rOr (rI CMul fun i j => .int (i * j)) (rI CMulW fun i j => .int (i * j))
def rMulA (K : PySem.W.Frag) : R2 := rOr rMulI (rOr (rRepT K) (rOr (rRepS K) rRep))
theorem or_mul {X : Cx} : OpR X (binaryOp .Mult) (rMulA X.K) := (op_mul.or op_mulW).or (op_repT.or (op_repS.or op_rep))
section
variable {K : PySem.W.Frag} {ca : Nat → Addr}
theorem rep_one {α : Type} (xs : List α) : (List.replicate (1 : Int).toNat xs).flatten = xs := by show [xs].flatten = xs; simp
theorem rep_nil {α : Type} (n : Nat) : (List.replicate n ([] : List α)).flatten = [] := by induction n <;> simp [List.replicate_succ, *]
theorem oz_mulI {H : Hp} {r : Rg} {S : Sto} {i j : Int} {d : D} {Q : VK} (m : Sim K ca H r S) (e : (mulI i j).map D.int = some d) (q : ∀ v H', Ext H r H' r → Sim K ca H' r S → Rep K H' r d v → Q v H') : rMulI (.int i) (.int j) H Q := by
  unfold mulI at e
  split at e
  · rename_i hc; cases e; exact .inl ⟨_, _, rfl, rfl, by unfold CMul; simpa using hc, q _ _ (Ext.refl ..) m (.int _)⟩
  · split at e
    · rename_i hc; cases e; exact .inr ⟨_, _, rfl, rfl, hc, q _ _ (Ext.refl ..) m (.int _)⟩
    · cases e
theorem oz_mul : OpZ K ca (rMulA K) mulP := by
  intro H r S x y vx vy d Q m hx hy e q
  unfold mulP at e
  split at e
  · cases hx; cases hy
    exact .inl (oz_mulI m e q)
  · rename_i xs k
    cases hx with
    | @tup a vs _ h1 s1 =>
    cases hy
    split at e
    · rename_i hc
      cases e
      by_cases h0 : xs = [] ∨ k = 1
      · refine .inr (.inr (.inl ⟨_, _, _, rfl, rfl, h1, by omega, by omega, .inl ⟨?_, ?_⟩⟩))
        · rcases h0 with z | z
          · exact .inl (s1.nil_iff.mpr z)
          · exact .inr z
        · have e0 : (List.replicate k.toNat xs).flatten = xs := by
            rcases h0 with z | z
            · subst z; exact rep_nil _
            · subst z; exact rep_one _
          rw [e0] at q
          exact q _ _ (Ext.refl ..) m (.tup h1 s1)
      · have h0 : xs ≠ [] ∧ k ≠ 1 := ⟨fun z => h0 (.inl z), fun z => h0 (.inr z)⟩
        by_cases hk : k ≤ 0
        · refine .inr (.inr (.inl ⟨_, _, _, rfl, rfl, h1, by omega, by omega, .inr ⟨fun z => h0.1 (s1.nil_iff.mp z), hk, fun p hp => ?_⟩⟩))
          have e0 : (List.replicate k.toNat xs).flatten = [] := by rw [show k.toNat = 0 by omega]; rfl
          rw [e0] at q
          exact q _ _ (Ext.new hp) (m.new hp) (newTup hp .nil)
        · refine .inr (.inl ⟨_, _, _, rfl, rfl, h1, fun z => h0.1 (s1.nil_iff.mp z), by omega, by omega, by rw [← s1.length]; omega, fun p hp => ?_⟩)
          exact q _ _ (Ext.new hp) (m.new hp) (newTup hp (s1.rep _))
    · cases e
  · split at e
    · rename_i xs e1
      obtain ⟨a, vs, rfl, h1, s1⟩ := asL_rep m hx e1
      cases hy
      split at e
      · rename_i hc
        cases e
        exact .inr (.inr (.inr ⟨_, _, _, rfl, rfl, h1, by omega, by omega, by rw [sizeLine_eq, ← s1.length]; omega, fun p hp => q _ _ (Ext.new hp) (m.new hp) (newLst m hp (s1.rep _))⟩))
      · cases e
    · cases e
  · cases e

/-! ### order of ints -/
def cmpI (f : Int → Int → Bool) (_ : Sto) (x y : D) : Option D := match x, y with
  | .int i, .int j => some (.bl (f i j))
  | _, _ => none
theorem oz_cmp {g : Int → Int → Bool} : OpZ K ca (rI0 fun i j => .bl (g i j)) (cmpI g) := by
  intro H r S x y vx vy d Q m hx hy e q
  unfold cmpI at e
  split at e
  · cases hx; cases hy; cases e
    exact ⟨_, _, rfl, rfl, q _ _ (Ext.refl ..) m (.bl _)⟩
  · cases e

/-! ### is None -/
def isNP (neg : Bool) (_ : Sto) (x y : D) : Option D := match y with
  | .non => some (.bl (match x with | .non => !neg | _ => neg))
  | _ => none
theorem oz_isN : OpZ K ca (fun x y H Q => y = .non ∧ Q (.bl (decide (x = .non))) H) (isNP false) := by
  intro H r S x y vx vy d Q m hx hy e q
  unfold isNP at e
  split at e
  · cases hy; cases e
    refine ⟨rfl, q _ _ (Ext.refl ..) m ?_⟩
    cases hx <;> exact .bl _
  · cases e
theorem oz_notN : OpZ K ca (fun x y H Q => y = .non ∧ Q (.bl (!decide (x = .non))) H) (isNP true) := by
  intro H r S x y vx vy d Q m hx hy e q
  unfold isNP at e
  split at e
  · cases hy; cases e
    refine ⟨rfl, q _ _ (Ext.refl ..) m ?_⟩
    cases hx <;> exact .bl _
  · cases e
end

/-! ### data -/
mutual
def toP0 : D → Option PyData
  | .non => some .none
  | .bl b => some (.bool b)
  | .int i => some (.int i)
  | .str x => some (.str x)
  | .tup xs => (toPs0 xs).map .tuple
  | .lst xs => (toPs0 xs).map .list
  | .fro xs => (toPs0 xs).map .list
  | .loc _ => none
def toPs0 : List D → Option (List PyData)
  | [] => some []
  | d :: ds => match toP0 d, toPs0 ds with
    | some p, some ps => some (p :: ps)
    | _, _ => none
end
def toP (S : Sto) (d : D) : Option PyData := match d with
  | .loc n => match S[n]? with
    | some (.lst ds) => (toPs0 ds).map .list
    | _ => none
  | d => toP0 d
section
variable {K : PySem.W.Frag} {ca : Nat → Addr} {H : Hp} {r : Rg} {S : Sto}
mutual
theorem toP0_dp : ∀ {d : D} {v : V} {p : PyData}, Rep K H r d v → toP0 d = some p → Dp K H v p
  | _, _, _, .non, e => by simp only [toP0] at e; cases e; exact .non
  | _, _, _, .bl b, e => by simp only [toP0] at e; cases e; exact .bl b
  | _, _, _, .int i, e => by simp only [toP0] at e; cases e; exact .int i
  | _, _, _, .str x, e => by simp only [toP0] at e; cases e; exact .str x
  | _, _, _, .tup h hs, e => by
    simp only [toP0, Option.map_eq_some_iff] at e
    obtain ⟨ps, e1, rfl⟩ := e
    exact .tup h (toPs0_dp hs e1)
  | _, _, _, .lst h _ _ hs, e => by
    simp only [toP0, Option.map_eq_some_iff] at e
    obtain ⟨ps, e1, rfl⟩ := e
    exact .lst (.of h) (toPs0_dp hs e1)
  | _, _, _, .fro h hs, e => by
    simp only [toP0, Option.map_eq_some_iff] at e
    obtain ⟨ps, e1, rfl⟩ := e
    exact .lst h.sq (toPs0_dp hs e1)
  | _, _, _, .loc _, e => by simp only [toP0] at e; cases e
theorem toPs0_dp : ∀ {ds : List D} {vs : List V} {ps : List PyData}, Reps K H r ds vs → toPs0 ds = some ps → DpAll K H vs ps
  | _, _, _, .nil, e => by simp only [toPs0] at e; cases e; exact .nil
  | _, _, _, .cons h hs, e => by
    simp only [toPs0] at e
    split at e
    · rename_i p ps e1 e2
      cases e
      exact .cons (toP0_dp h e1) (toPs0_dp hs e2)
    · cases e
end
theorem toP_dp {d : D} {v : V} {p : PyData} (m : Sim K ca H r S) (h : Rep K H r d v) (e : toP S d = some p) : Dp K H v p := by
  unfold toP at e
  split at e
  · split at e
    · rename_i n ds he
      obtain ⟨a, rfl, _, vs, h1, h2⟩ := m.loc h he
      rw [Option.map_eq_some_iff] at e
      obtain ⟨ps, e1, rfl⟩ := e
      exact .lst (.of h1) (toPs0_dp h2 e1)
    · cases e
  · exact toP0_dp h e
end

/-! ### == and != -/
def eqS : D → D → Option Bool
  | .int i, .int j => some (decide (i = j))
  | .bl i, .bl j => some (decide (i = j))
  | .str i, .str j => some (decide (i = j))
  | .non, .non => some true
  | .non, .int _ => some false
  | .int _, .non => some false
  | .non, .bl _ => some false
  | .bl _, .non => some false
  | .non, .str _ => some false
  | .str _, .non => some false
  | .int _, .str _ => some false
  | .str _, .int _ => some false
  | .bl _, .str _ => some false
  | .str _, .bl _ => some false
  | _, _ => none
/-- a list and an empty one -/
def eqE (S : Sto) (x y : D) : Option Bool := match asLF S x, y with
  | some (_ :: _), .lst [] => some false
  | _, _ => none
/-- tuples whose items are scalars as far as both go -/
def eqZ : List D → List D → Option Bool
  | [], [] => some true
  | [], _ :: _ => some false
  | _ :: _, [] => some false
  | x :: xs, y :: ys => match eqS x y, eqZ xs ys with
    | some b, some c => some (b && c)
    | _, _ => none
def eqT (x y : D) : Option Bool := match x, y with
  | .tup xs, .tup ys => eqZ xs ys
  | _, _ => none
def eqP (S : Sto) (x y : D) : Option Bool := match eqS x y with
  | some b => some b
  | none => match eqE S x y with
    | some b => some b
    | none => match eqT x y with
     | some b => some b
     | none => match toP S x, toP S y with
      | some p, some q => if SeqAt.shaped p = true ∧ SeqAt.shaped q = true then some (PyData.eqv p q) else none
      | _, _ => none
def eqD (S : Sto) (x y : D) : Option D := (eqP S x y).map .bl
def neD (S : Sto) (x y : D) : Option D := (eqP S x y).map fun b => .bl (!b)
def rEmp (K : PySem.W.Frag) (k : Bool) : R2 := fun x y H Q => ∃ a b xs, x = .ref a ∧ y = .ref b ∧ SqL K H a xs ∧ SqL K H b [] ∧ xs ≠ [] ∧ Q (.bl k) H
theorem op_eqEmp {X : Cx} (hu : X.A.units < cLine) : OpR X (compareOp .Eq) (rEmp X.K false) := by
  intro pins s σ H x y v u Q I rx ry h
  obtain ⟨a, b, xs, rfl, rfl, ha, hb, hne, q⟩ := h
  cases rx; cases ry
  obtain ⟨its, r1, p1, _⟩ := I.list ha
  obtain ⟨its2, r2, p2, _⟩ := I.list hb
  cases r2
  refine SeqAt.eq_list_lengthsAt p1.isList p2.isList ?_ hu ⟨.bl false, H, I, rfl, q⟩
  cases r1 with
  | nil => exact absurd rfl hne
  | cons _ _ => rfl
theorem op_neEmp {X : Cx} (hu : X.A.units < cLine) : OpR X (compareOp .NotEq) (rEmp X.K true) := by
  intro pins s σ H x y v u Q I rx ry h
  obtain ⟨a, b, xs, rfl, rfl, ha, hb, hne, q⟩ := h
  cases rx; cases ry
  obtain ⟨its, r1, p1, _⟩ := I.list ha
  obtain ⟨its2, r2, p2, _⟩ := I.list hb
  cases r2
  have hsz : (its.toArray.size != ([] : List Value).toArray.size) = true := by
    cases r1 with
    | nil => exact absurd rfl hne
    | cons _ _ => rfl
  obtain ⟨⟨cls, dd, data, sl⟩, ho, hc, n, hd⟩ := p1.isList
  obtain ⟨⟨cls2, dd2, data2, sl2⟩, ho2, hc2, n2, hd2⟩ := p2.isList
  simp only at hc hd hc2 hd2
  subst hc hd hc2 hd2
  exact richCompare_meets_room (op := .NotEq) ⟨_, ho, rfl⟩ ⟨_, ho2, rfl⟩ F.slot_list_ne F.entry_list_ne (F.args_list_ne_2 _ _) (SeqAt.list_ne_lengthsAt a b _ _ n n2 dd dd2 sl sl2 hsz)
    ⟨ho, ho2, (fun x => nomatch x), .bl true, H, I, rfl, q⟩ hu
theorem scal_at {A : Around} {s : Shared} {x y : V} {u v : Value} (h : scal x y = true) (hb : ∀ b, x ≠ .byt b) (ru : RelV x u) (rv : RelV y v) : SeqAt.EqAt A s u v (decide (x = y)) := by
  unfold scal at h
  split at h <;> first | (cases h; done) | skip
  · cases ru; cases rv; exact SeqAt.EqAt.same _
  · obtain ⟨t, rfl⟩ := rv; cases ru; exact SeqAt.EqAt.none_int _ _
  · obtain ⟨t, rfl⟩ := ru; cases rv; exact SeqAt.EqAt.int_none _ _
  · cases ru; cases rv; exact SeqAt.EqAt.none_bool _
  · cases ru; cases rv; exact SeqAt.EqAt.bool_none _
  · obtain ⟨t, rfl⟩ := rv; cases ru; exact SeqAt.EqAt.none_str _ _
  · obtain ⟨t, rfl⟩ := ru; cases rv; exact SeqAt.EqAt.str_none _ _
  · obtain ⟨t, rfl⟩ := ru; obtain ⟨t2, rfl⟩ := rv; rw [dec_int]; exact SeqAt.EqAt.int_int _ _ _ _
  · cases ru; cases rv; rw [dec_bl]; exact SeqAt.EqAt.bool_bool _ _
  · obtain ⟨t, rfl⟩ := ru; obtain ⟨t2, rfl⟩ := rv; rw [dec_str]; exact SeqAt.EqAt.str_str _ _ _ _
  · exact absurd rfl (hb _)
  · obtain ⟨t, rfl⟩ := ru; obtain ⟨t2, rfl⟩ := rv; exact SeqAt.EqAt.int_str _ _ _ _
  · obtain ⟨t, rfl⟩ := ru; obtain ⟨t2, rfl⟩ := rv; exact SeqAt.EqAt.str_int _ _ _ _
  · obtain ⟨t, rfl⟩ := rv; cases ru; exact SeqAt.EqAt.bool_str _ _ _
  · obtain ⟨t, rfl⟩ := ru; cases rv; exact SeqAt.EqAt.str_bool _ _ _
/-- items that are scalars as far as both go; whether they are equal -/
inductive ScZ : List V → List V → Bool → Prop
  | nn : ScZ [] [] true
  | nc (y : V) (ys : List V) : ScZ [] (y :: ys) false
  | cn (x : V) (xs : List V) : ScZ (x :: xs) [] false
  | cc {x y : V} {xs ys : List V} {b : Bool} : scal x y = true → (∀ c, x ≠ .byt c) → ScZ xs ys b → ScZ (x :: xs) (y :: ys) (decide (x = y) && b)
def ScZ.e : List V → List V → Nat → Bool
  | x :: xs, y :: ys, j => match j with
    | 0 => decide (x = y)
    | j + 1 => ScZ.e xs ys j
  | _, _, _ => false
theorem ScZ.all {xs ys : List V} {b : Bool} (h : ScZ xs ys b) : ((List.range (min xs.length ys.length)).all (ScZ.e xs ys) && xs.length == ys.length) = b := by
  induction h with
  | nn => rfl
  | nc y ys => simp
  | cn x xs => simp
  | @cc x y xs ys b h1 h2 h3 ih =>
    rw [← ih]
    have e : min (x :: xs).length (y :: ys).length = min xs.length ys.length + 1 := by simp [Nat.succ_min_succ]
    rw [e, List.range_succ_eq_map, List.all_cons, List.all_map]
    have e2 : (ScZ.e (x :: xs) (y :: ys) ∘ Nat.succ) = ScZ.e xs ys := rfl
    rw [e2]
    show (decide (x = y) && _ && _) = _
    rw [Bool.and_assoc]
    congr 2
    simp
theorem ScZ.at {A : Around} {s : Shared} {xs ys : List V} {b : Bool} (h : ScZ xs ys b) : ∀ {us vs : List Value}, Vals xs us → Vals ys vs → ∀ (j : Nat) (h1 : j < us.length) (h2 : j < vs.length), SeqAt.EqAt A s us[j] vs[j] (ScZ.e xs ys j) := by
  induction h with
  | nn => intro us vs r1 r2 j h1; cases r1; cases h1
  | nc y ys => intro us vs r1 r2 j h1; cases r1; cases h1
  | cn x xs => intro us vs r1 r2 j h1 h2; cases r2; cases h2
  | @cc x y xs ys b h1 h2 h3 ih =>
    intro us vs r1 r2 j l1 l2
    cases r1 with
    | cons p1 q1 =>
      cases r2 with
      | cons p2 q2 =>
        cases j with
        | zero => exact scal_at h1 h2 p1 p2
        | succ j => exact ih q1 q2 j (by simpa using l1) (by simpa using l2)
def rTupZ (K : PySem.W.Frag) (k : Bool) : R2 := fun x y H Q => ∃ a b xs ys c, x = .ref a ∧ y = .ref b ∧ SqT K H a xs ∧ SqT K H b ys ∧ ScZ xs ys c ∧ Q (.bl (if k then !c else c)) H
theorem op_eqZ {X : Cx} (hu : X.A.units < cLine) : OpR X (compareOp .Eq) (rTupZ X.K false) := by
  intro pins s σ H x y v u Q I rx ry h
  obtain ⟨a, b, xs, ys, c, rfl, rfl, ha, hb, hz, q⟩ := h
  cases rx; cases ry
  obtain ⟨its, r1, p1, _⟩ := I.tuple ha
  obtain ⟨its2, r2, p2, _⟩ := I.tuple hb
  refine SeqAt.eq_tupleAt (e := ScZ.e xs ys) p1 p2 hu (fun j h1 h2 => ?_) ⟨.bl c, H, I, ?_, q⟩
  · have := hz.at (A := X.A.in1) (s := s) r1 r2 j (by simpa using h1) (by simpa using h2)
    simpa using this
  · have e := hz.all
    show Value.bool _ = Value.bool c
    rw [← e]
    simp only [List.size_toArray, ← r1.length, ← r2.length]
theorem op_neZ {X : Cx} (hu : X.A.units < cLine) : OpR X (compareOp .NotEq) (rTupZ X.K true) := by
  intro pins s σ H x y v u Q I rx ry h
  obtain ⟨a, b, xs, ys, c, rfl, rfl, ha, hb, hz, q⟩ := h
  cases rx; cases ry
  obtain ⟨its, r1, p1, _⟩ := I.tuple ha
  obtain ⟨its2, r2, p2, _⟩ := I.tuple hb
  refine SeqAt.RcNeAt.tuples (e := ScZ.e xs ys) p1 p2 hu (fun j h1 h2 => ?_) X.prog X.w X.xe _ ⟨.bl (!c), H, I, ?_, q⟩
  · have := hz.at (A := X.A.in1) (s := s) r1 r2 j (by simpa using h1) (by simpa using h2)
    simpa using this
  · have e := hz.all
    show Value.bool _ = Value.bool (!c)
    rw [← e]
    simp only [List.size_toArray, ← r1.length, ← r2.length]
def rEqA (K : PySem.W.Frag) : R2 := rOr rEq (rOr (rEmp K false) (rOr (rTupZ K false) (rEqD K)))
def rNeA (K : PySem.W.Frag) : R2 := rOr rNe (rOr (rEmp K true) (rOr (rTupZ K true) (rNeD K)))
theorem or_eq {X : Cx} (hu : X.A.units + 64 < cLine) : OpR X (compareOp .Eq) (rEqA X.K) := op_eq.or ((op_eqEmp (by omega)).or ((op_eqZ (by omega)).or (op_eqD hu)))
theorem or_ne {X : Cx} (hu : X.A.units + 64 < cLine) : OpR X (compareOp .NotEq) (rNeA X.K) := op_ne.or ((op_neEmp (by omega)).or ((op_neZ (by omega)).or (op_neD hu)))
section
variable {K : PySem.W.Frag} {ca : Nat → Addr} {H : Hp} {r : Rg} {S : Sto}
theorem eqS_scal {x y : D} {vx vy : V} {b : Bool} (hx : Rep K H r x vx) (hy : Rep K H r y vy) (e : eqS x y = some b) : scal vx vy = true ∧ decide (vx = vy) = b := by
  unfold eqS at e
  split at e <;> first | (cases e; done) | (cases hx; cases hy; cases e; refine ⟨rfl, ?_⟩; simp)
theorem eqE_rep {x y : D} {vx vy : V} {b : Bool} (m : Sim K ca H r S) (hx : Rep K H r x vx) (hy : Rep K H r y vy) (e : eqE S x y = some b) : b = false ∧ ∃ a c xs, vx = .ref a ∧ vy = .ref c ∧ SqL K H a xs ∧ SqL K H c [] ∧ xs ≠ [] := by
  unfold eqE at e
  split at e
  · rename_i z zs e1
    cases e
    obtain ⟨a, vs, rfl, h1, s1⟩ := asLF_rep m hx e1
    cases hy with
    | lst h2 _ _ s2 =>
      have := s2.nil_of; subst this
      exact ⟨rfl, _, _, _, rfl, rfl, h1, .of h2, fun z => by have := s1.nil_iff.mp z; cases this⟩
  · cases e
theorem eqZ_rep : ∀ {xs ys : List D} {vs us : List V} {b : Bool}, Reps K H r xs vs → Reps K H r ys us → eqZ xs ys = some b → ScZ vs us b
  | [], [], _, _, b, .nil, .nil, e => by simp only [eqZ] at e; cases e; exact .nn
  | [], _ :: _, _, _, b, .nil, .cons _ _, e => by simp only [eqZ] at e; cases e; exact .nc _ _
  | _ :: _, [], _, _, b, .cons _ _, .nil, e => by simp only [eqZ] at e; cases e; exact .cn _ _
  | x :: xs, y :: ys, _, _, b, .cons h1 t1, .cons h2 t2, e => by
    simp only [eqZ] at e
    split at e
    · rename_i b1 c1 e1 e2
      cases e
      obtain ⟨s1, s2⟩ := eqS_scal h1 h2 e1
      rw [← s2]
      refine .cc s1 (fun c z => ?_) (eqZ_rep t1 t2 e2)
      subst z
      cases h1
    · cases e
theorem eqT_rep {x y : D} {vx vy : V} {b : Bool} (hx : Rep K H r x vx) (hy : Rep K H r y vy) (e : eqT x y = some b) : ∃ a c xs ys, vx = .ref a ∧ vy = .ref c ∧ SqT K H a xs ∧ SqT K H c ys ∧ ScZ xs ys b := by
  unfold eqT at e
  split at e
  · cases hx with
    | tup h1 s1 =>
      cases hy with
      | tup h2 s2 => exact ⟨_, _, _, _, rfl, rfl, h1, h2, eqZ_rep s1 s2 e⟩
  · cases e
theorem oz_eq : OpZ K ca (rEqA K) eqD := by
  intro H r S x y vx vy d Q m hx hy e q
  unfold eqD at e
  rw [Option.map_eq_some_iff] at e
  obtain ⟨b, e, rfl⟩ := e
  have q' := q _ _ (Ext.refl ..) m (.bl b)
  unfold eqP at e
  split at e
  · rename_i b' e1
    cases e
    obtain ⟨h1, h2⟩ := eqS_scal hx hy e1
    exact .inl ⟨h1, by rw [h2]; exact q'⟩
  · split at e
    · rename_i b' e1
      cases e
      obtain ⟨rfl, a, c, xs, h1, h2, h3, h4, h5⟩ := eqE_rep m hx hy e1
      exact .inr (.inl ⟨a, c, xs, h1, h2, h3, h4, h5, q'⟩)
    · split at e
      · rename_i b' e1
        cases e
        obtain ⟨a, c, xs, ys, h1, h2, h3, h4, h5⟩ := eqT_rep hx hy e1
        exact .inr (.inr (.inl ⟨a, c, xs, ys, _, h1, h2, h3, h4, h5, q'⟩))
      · split at e
        · rename_i p p' e1 e2
          split at e
          · rename_i hs
            cases e
            exact .inr (.inr (.inr ⟨p, p', toP_dp m hx e1, toP_dp m hy e2, hs.1, hs.2, q'⟩))
          · cases e
        · cases e
theorem oz_ne : OpZ K ca (rNeA K) neD := by
  intro H r S x y vx vy d Q m hx hy e q
  unfold neD at e
  rw [Option.map_eq_some_iff] at e
  obtain ⟨b, e, rfl⟩ := e
  have q' := q _ _ (Ext.refl ..) m (.bl (!b))
  unfold eqP at e
  split at e
  · rename_i b' e1
    cases e
    obtain ⟨h1, h2⟩ := eqS_scal hx hy e1
    exact .inl ⟨h1, by rw [h2]; exact q'⟩
  · split at e
    · rename_i b' e1
      cases e
      obtain ⟨rfl, a, c, xs, h1, h2, h3, h4, h5⟩ := eqE_rep m hx hy e1
      exact .inr (.inl ⟨a, c, xs, h1, h2, h3, h4, h5, q'⟩)
    · split at e
      · rename_i b' e1
        cases e
        obtain ⟨a, c, xs, ys, h1, h2, h3, h4, h5⟩ := eqT_rep hx hy e1
        exact .inr (.inr (.inl ⟨a, c, xs, ys, _, h1, h2, h3, h4, h5, q'⟩))
      · split at e
        · rename_i p p' e1 e2
          split at e
          · rename_i hs
            cases e
            exact .inr (.inr (.inr ⟨p, p', toP_dp m hx e1, toP_dp m hy e2, hs.1, hs.2, q'⟩))
          · cases e
        · cases e
end
end Z

/-! Z layer, part D: in, subscripts, slices, truth, isinstance, built-in functions. -/
namespace Z
open PySem PySem.Spec PyProof.Rows L2

/-! ### in -/
def flatD : D → Bool
  | .non => true
  | .bl _ => true
  | .int _ => true
  | .str _ => true
  | _ => false
def eqF : D → D → Bool
  | .non, .non => true
  | .bl a, .bl b => a == b
  | .bl a, .int b => (if a then 1 else 0) == b
  | .int a, .bl b => a == (if b then 1 else 0)
  | .int a, .int b => a == b
  | .str a, .str b => a == b
  | _, _ => false
def inP (S : Sto) (x y : D) : Option Bool := match x, y with
  | .str ⟨⟨[c]⟩⟩, .str z => some (decide (c ∈ z.cps.toList))
  | .str i, .str j => some (!(Builtin.Str.occurrences j i 0 j.length 1).isEmpty)
  | x, y => match asQ S y with
    | some ds => if flatD x && ds.all flatD then some (ds.any fun d => eqF d x) else none
    | none => none
def inD (S : Sto) (x y : D) : Option D := (inP S x y).map .bl
def notInD (S : Sto) (x y : D) : Option D := (inP S x y).map fun b => .bl (!b)
def rSign (neg : Bool) : R2 := fun x y H Q => ∃ (c : Nat) (z : Str), x = .str ⟨#[c]⟩ ∧ y = .str z ∧ Q (.bl (if neg then !decide (c ∈ z.cps.toList) else decide (c ∈ z.cps.toList))) H
def rOcc (neg : Bool) : R2 := fun x y H Q => ∃ i j, x = .str i ∧ y = .str j ∧ Q (.bl (if neg then !(!(Builtin.Str.occurrences j i 0 j.length 1).isEmpty) else !(Builtin.Str.occurrences j i 0 j.length 1).isEmpty)) H
def rInA (K : PySem.W.Frag) (neg : Bool) : R2 := rOr (rSign neg) (rOr (rOcc neg) (rIn K neg))
theorem or_in {X : Cx} : OpR X (compareOp .In) (rInA X.K false) := op_in_sign.or (op_in_str.or op_in_seq)
theorem or_notIn {X : Cx} : OpR X (compareOp .NotIn) (rInA X.K true) := op_notIn_sign.or (op_notin_str.or op_notIn_seq)
section
variable {K : PySem.W.Frag} {ca : Nat → Addr} {H : Hp} {r : Rg} {S : Sto}
theorem flat_rep {x : D} {v : V} (h : Rep K H r x v) (f : flatD x = true) : flatV v = true := by
  cases h <;> first | rfl | (simp [flatD] at f)
theorem flats_rep : ∀ {ds : List D} {vs : List V}, Reps K H r ds vs → ds.all flatD = true → vs.all flatV = true
  | _, _, .nil, _ => rfl
  | _, _, .cons h hs, f => by
    rw [List.all_cons, Bool.and_eq_true] at f ⊢
    exact ⟨flat_rep h f.1, flats_rep hs f.2⟩
theorem eqF_rep {x y : D} {v u : V} (h : Rep K H r x v) (h' : Rep K H r y u) (f : flatD x = true) (f' : flatD y = true) : eqV v u = eqF x y := by
  cases h <;> first | (simp [flatD] at f; done) | (cases h' <;> first | rfl | (simp [flatD] at f'; done))
theorem any_rep {x : D} {u : V} (h' : Rep K H r x u) (f' : flatD x = true) : ∀ {ds : List D} {vs : List V}, Reps K H r ds vs → ds.all flatD = true → inV u vs = ds.any fun d => eqF d x
  | _, _, .nil, _ => rfl
  | _, _, .cons h hs, f => by
    rw [List.all_cons, Bool.and_eq_true] at f
    have ih := any_rep h' f' hs f.2
    unfold inV at ih ⊢
    rw [List.any_cons, List.any_cons, ih, eqF_rep h h' f.1 f']
theorem oz_inB {neg b : Bool} {x y : D} {vx vy : V} {Q : VK} (m : Sim K ca H r S) (hx : Rep K H r x vx) (hy : Rep K H r y vy) (e : inP S x y = some b) (q : Q (.bl (if neg then !b else b)) H) : rInA K neg vx vy H Q := by
  unfold inP at e
  split at e
  · rename_i c z; cases hx; cases hy; cases e; exact .inl ⟨c, z, rfl, rfl, q⟩
  · cases hx; cases hy; cases e; exact .inr (.inl ⟨_, _, rfl, rfl, q⟩)
  · split at e
    · rename_i ds e1
      split at e
      · rename_i f
        rw [Bool.and_eq_true] at f
        cases e
        obtain ⟨a, vs, rfl, h1, s1⟩ := asQ_rep m hy e1
        refine .inr (.inr ⟨a, vs, rfl, h1, flat_rep hx f.1, flats_rep s1 f.2, ?_⟩)
        rw [any_rep hx f.1 s1 f.2]
        exact q
      · cases e
    · cases e
theorem oz_in : OpZ K ca (rInA K false) inD := by
  intro H r S x y vx vy d Q m hx hy e q
  unfold inD at e
  rw [Option.map_eq_some_iff] at e
  obtain ⟨b, e, rfl⟩ := e
  exact oz_inB m hx hy e (q _ _ (Ext.refl ..) m (.bl b))
theorem oz_notIn : OpZ K ca (rInA K true) notInD := by
  intro H r S x y vx vy d Q m hx hy e q
  unfold notInD at e
  rw [Option.map_eq_some_iff] at e
  obtain ⟨b, e, rfl⟩ := e
  exact oz_inB m hx hy e (q _ _ (Ext.refl ..) m (.bl (!b)))

/-! ### items -/
theorem Reps.atI {ds : List D} {vs : List V} {i : Int} {d : D} (h : Reps K H r ds vs) (e : L2.atI ds i = some d) : ∃ v, L2.atI vs i = some v ∧ Rep K H r d v := by
  unfold L2.atI at e ⊢
  rw [h.length] at e
  cases q : ixN vs.length i with
  | none => rw [q] at e; cases e
  | some j =>
    rw [q] at e
    exact h.get (show ds[j]? = some d from e)
end
def ixP (S : Sto) (x y : D) : Option D := match x, y with
  | .str z, .int i => if z.length ≤ 16777216 then (L2.atI z.cps.toList i).map fun c => .str ⟨#[c]⟩ else none
  | x, .int i => match asQ S x with
    | some ds => L2.atI ds i
    | none => none
  | _, _ => none
section
variable {K : PySem.W.Frag} {ca : Nat → Addr} {H : Hp} {r : Rg} {S : Sto}
theorem oz_ix : OpZ K ca (rIx K) ixP := by
  intro H r S x y vx vy d Q m hx hy e q
  unfold ixP at e
  split at e
  · rename_i z i
    cases hx; cases hy
    split at e
    · rename_i hl
      rw [Option.map_eq_some_iff] at e
      obtain ⟨c, e, rfl⟩ := e
      exact .inr (.inr ⟨z, i, c, rfl, rfl, by rw [sizeLine_eq]; exact hl, e, q _ _ (Ext.refl ..) m (.str _)⟩)
    · cases e
  · split at e
    · rename_i ds e1
      cases hy
      obtain ⟨a, vs, rfl, h1, s1⟩ := asQ_rep m hx e1
      obtain ⟨v, h2, h3⟩ := s1.atI e
      rcases h1 with h1 | h1
      · exact .inl ⟨a, vs, _, v, rfl, rfl, h1, h2, q _ _ (Ext.refl ..) m h3⟩
      · exact .inr (.inl ⟨a, vs, _, v, rfl, rfl, h1, h2, q _ _ (Ext.refl ..) m h3⟩)
    · cases e
  · cases e
end

/-! ### slices -/
def cutG {α : Type} (xs : List α) (lo hi : Option Int) : List α := (xs.drop (HT.sIx xs.length 0 lo)).take (HT.sIx xs.length xs.length hi - HT.sIx xs.length 0 lo)
def slP (S : Sto) (x : D) (lo hi : Option Int) : Option D := match x with
  | .str z => if z.length ≤ 16777216 then some (.str (cutS z lo hi)) else none
  | .tup xs => some (.tup (cutG xs lo hi))
  | x => (asLF S x).map fun ds => .lst (cutG ds lo hi)
def rSlAll (K : PySem.W.Frag) : V → Option Int → Option Int → Hp → VK → Prop := fun x lo hi H Q => rSlS x lo hi H Q ∨ (rSlA K x lo hi H Q ∨ rSlL K x lo hi H Q)
theorem or_sl {X : Cx} : SlR X (rSlAll X.K) := sl_str.or (sl_tupA.or sl_list)
section
variable {K : PySem.W.Frag} {ca : Nat → Addr} {H : Hp} {r : Rg} {S : Sto}
theorem Reps.cut {ds : List D} {vs : List V} (h : Reps K H r ds vs) (lo hi : Option Int) : Reps K H r (cutG ds lo hi) (cutV vs lo hi) := by
  unfold cutG cutV
  rw [h.length]
  exact (h.drop _).take _
theorem cutG_whole {α : Type} {xs : List α} {lo hi : Option Int} (h : HT.sIx xs.length 0 lo = 0 ∧ HT.sIx xs.length xs.length hi = xs.length) : cutG xs lo hi = xs := by
  unfold cutG
  rw [h.1, h.2]
  simp
theorem oz_sl {x : D} {vx : V} {d : D} {lo hi : Option Int} {Q : VK} (m : Sim K ca H r S) (hx : Rep K H r x vx) (e : slP S x lo hi = some d)
    (q : ∀ v H', Ext H r H' r → Sim K ca H' r S → Rep K H' r d v → Q v H') : rSlAll K vx lo hi H Q := by
  unfold slP at e
  split at e
  · cases hx
    split at e
    · rename_i hl
      cases e
      exact .inl ⟨_, rfl, by rw [sizeLine_eq]; exact hl, q _ _ (Ext.refl ..) m (.str _)⟩
    · cases e
  · cases hx with
    | tup h1 s1 =>
      cases e
      refine .inr (.inl ⟨_, _, rfl, h1, fun hw => ?_, fun _ p hp => q _ _ (Ext.new hp) (m.new hp) (newTup hp (s1.cut lo hi))⟩)
      rw [← s1.length] at hw
      rw [cutG_whole hw] at q
      exact q _ _ (Ext.refl ..) m (.tup h1 s1)
  · rw [Option.map_eq_some_iff] at e
    obtain ⟨ds, e1, rfl⟩ := e
    obtain ⟨a, vs, rfl, h1, s1⟩ := asLF_rep m hx e1
    exact .inr (.inr ⟨a, vs, rfl, h1, fun p hp => q _ _ (Ext.new hp) (m.new hp) (newLst m hp (s1.cut lo hi))⟩)
end

/-! ### truth, len -/
def truP (S : Sto) (x : D) : Option Bool := match x with
  | .non => some false
  | .bl b => some b
  | .int i => some (i != 0)
  | .str y => if y.length ≤ 16777216 then some ((y.length : Int) != 0) else none
  | x => (asQ S x).map fun ds => !ds.isEmpty
def lenP (S : Sto) (x : D) : Option Nat := match x with
  | .str y => if y.length ≤ 16777216 then some y.length else none
  | x => (asQ S x).map List.length
section
variable {K : PySem.W.Frag} {ca : Nat → Addr} {H : Hp} {r : Rg} {S : Sto}
theorem tru_rep {x : D} {v : V} {b : Bool} (m : Sim K ca H r S) (hx : Rep K H r x v) (e : truP S x = some b) : TruV K v H b := by
  unfold truP at e
  split at e
  · cases hx; cases e; rfl
  · cases hx; cases e; rfl
  · cases hx; cases e; rfl
  · cases hx
    split at e
    · rename_i hl; cases e; exact ⟨by rw [sizeLine_eq]; exact hl, rfl⟩
    · cases e
  · rw [Option.map_eq_some_iff] at e
    obtain ⟨ds, e1, rfl⟩ := e
    obtain ⟨a, vs, rfl, h1, s1⟩ := asQ_rep m hx e1
    have he : (!ds.isEmpty) = !vs.isEmpty := by cases s1 <;> rfl
    rcases h1 with h1 | h1
    · exact .inl ⟨vs, h1, he⟩
    · exact .inr (.inl ⟨vs, h1, he⟩)
theorem len_rep {x : D} {v : V} {n : Nat} (m : Sim K ca H r S) (hx : Rep K H r x v) (e : lenP S x = some n) : LenV K v H n := by
  unfold lenP at e
  split at e
  · cases hx
    split at e
    · rename_i hl; cases e; exact ⟨by rw [sizeLine_eq]; exact hl, rfl⟩
    · cases e
  · rw [Option.map_eq_some_iff] at e
    obtain ⟨ds, e1, rfl⟩ := e
    obtain ⟨a, vs, rfl, h1, s1⟩ := asQ_rep m hx e1
    rcases h1 with h1 | h1
    · exact .inl ⟨vs, h1, s1.length⟩
    · exact .inr ⟨vs, h1, s1.length⟩
end

/-! ### isinstance -/
def tyN (S : Sto) (x : D) : Option String := match x with
  | .non => some "NoneType"
  | .bl _ => some "bool"
  | .int _ => some "int"
  | .str _ => some "str"
  | .tup _ => some "tuple"
  | .lst _ => some "list"
  | .fro _ => some "list"
  | .loc n => match S[n]? with
    | some (.lst _) => some "list"
    | some (.dic _) => some "dict"
    | some (.dit _) => some "dict"
    | _ => none
/-- built-in classes that are asked for -/
inductive Ty where
  | int | bool | str | tuple | list
def Ty.nm : Ty → String
  | .int => "int" | .bool => "bool" | .str => "str" | .tuple => "tuple" | .list => "list"
def isTab (n : String) (t : Ty) : Option Bool :=
  if n = "NoneType" then some false
  else if n = "bool" then some (match t with | .bool => true | .int => true | _ => false)
  else if n = "int" then some (match t with | .int => true | _ => false)
  else if n = "str" then some (match t with | .str => true | _ => false)
  else if n = "tuple" then some (match t with | .tuple => true | _ => false)
  else if n = "list" then some (match t with | .list => true | _ => false)
  else if n = "dict" then some false
  else none
def isiD (S : Sto) (x : D) (t : Ty) : Option Bool := match x with
  | .non => some false
  | .bl _ => some (match t with | .bool => true | .int => true | _ => false)
  | .int _ => some (match t with | .int => true | _ => false)
  | .str _ => some (match t with | .str => true | _ => false)
  | .tup _ => some (match t with | .tuple => true | _ => false)
  | .lst _ => some (match t with | .list => true | _ => false)
  | .fro _ => some (match t with | .list => true | _ => false)
  | .loc n => match S[n]? with
    | some (.lst _) => some (match t with | .list => true | _ => false)
    | some (.dic _) => some false
    | some (.dit _) => some false
    | _ => none
theorem kit_tab : ∀ n ∈ ["NoneType", "bool", "int", "str", "tuple", "list", "dict"], ∀ t : Ty, kitB n t.nm = isTab n t := by
  intro n hn t
  simp only [List.mem_cons, List.not_mem_nil, or_false] at hn
  rcases hn with rfl | rfl | rfl | rfl | rfl | rfl | rfl <;> cases t <;> decide +kernel
section
variable {K : PySem.W.Frag} {ca : Nat → Addr} {H : Hp} {r : Rg} {S : Sto}
theorem SqT.tyx {a : Addr} {xs : List V} (h : SqT K H a xs) : TyX K H (.ref a) (.type "tuple") := by
  rcases h with (h | ⟨o, h⟩) | ⟨o, its, n, h, c, _⟩
  · exact .base (.tup h)
  · exact .fTuple h
  · exact .kTuple h c
theorem FL.tyx {a : Addr} {xs : List V} (h : FL K H a xs) : TyX K H (.ref a) (.type "list") := by
  rcases h with ⟨o, h⟩ | ⟨o, its, n, h, c, _⟩
  · exact .base (.frz h)
  · exact .kList h c
theorem isi_rep {x : D} {v : V} {t : Ty} {b : Bool} (m : Sim K ca H r S) (hx : Rep K H r x v) (e : isiD S x t = some b) : ∃ n, TyX K H v (.type n) ∧ PySem.W.kitOne K (.type n) (.type t.nm) = some b := by
  cases hx with
  | non => exact ⟨_, .base .non, kit_ty (by rw [kit_tab _ (by simp)]; exact e)⟩
  | bl y => exact ⟨_, .base (.bl y), kit_ty (by rw [kit_tab _ (by simp)]; exact e)⟩
  | int y => exact ⟨_, .base (.int y), kit_ty (by rw [kit_tab _ (by simp)]; exact e)⟩
  | str y => exact ⟨_, .base (.str y), kit_ty (by rw [kit_tab _ (by simp)]; exact e)⟩
  | tup h _ => exact ⟨_, SqT.tyx h, kit_ty (by rw [kit_tab _ (by simp)]; exact e)⟩
  | lst h _ _ _ => exact ⟨_, .base (.lst h), kit_ty (by rw [kit_tab _ (by simp)]; exact e)⟩
  | fro h _ => exact ⟨_, FL.tyx h, kit_ty (by rw [kit_tab _ (by simp)]; exact e)⟩
  | @loc n a h =>
    simp only [isiD] at e
    split at e
    · rename_i xs he
      obtain ⟨b', h1, vs, h2, _⟩ := m.obj n _ he
      rw [h] at h1; cases h1
      exact ⟨_, .base (.lst h2), kit_ty (by rw [kit_tab _ (by simp)]; exact e)⟩
    · rename_i xs he
      obtain ⟨b', h1, vs, h2, _⟩ := m.obj n _ he
      rw [h] at h1; cases h1
      exact ⟨_, .base (.dK h2), kit_ty (by rw [kit_tab _ (by simp)]; exact e)⟩
    · rename_i xs he
      obtain ⟨b', h1, vs, h2, _⟩ := m.obj n _ he
      rw [h] at h1; cases h1
      exact ⟨_, .base (.dT h2), kit_ty (by rw [kit_tab _ (by simp)]; exact e)⟩
    · cases e
theorem isi_rep2 {x : D} {v : V} {t t' : Ty} {b b' : Bool} (m : Sim K ca H r S) (hx : Rep K H r x v) (e : isiD S x t = some b) (e' : isiD S x t' = some b') : ∃ n, TyX K H v (.type n) ∧ PySem.W.kitAny K (.type n) [.type t.nm, .type t'.nm] = some (b || b') := by
  have key : ∀ n : String, n ∈ ["NoneType", "bool", "int", "str", "tuple", "list", "dict"] → isTab n t = some b → isTab n t' = some b' → PySem.W.kitAny K (.type n) [.type t.nm, .type t'.nm] = some (b || b') := fun n hn h1 h2 => by
    refine kitAny_cons (b := b) (kit_ty (by rw [kit_tab _ hn]; exact h1)) (fun hb => kitAny_cons (b := b') (kit_ty (by rw [kit_tab _ hn]; exact h2)) (fun hb' => by rw [hb, hb']; rfl) (fun hb' => by rw [hb, hb']; rfl)) (fun hb => by rw [hb]; rfl)
  cases hx with
  | non => exact ⟨_, .base .non, key _ (by simp) e e'⟩
  | bl y => exact ⟨_, .base (.bl y), key _ (by simp) e e'⟩
  | int y => exact ⟨_, .base (.int y), key _ (by simp) e e'⟩
  | str y => exact ⟨_, .base (.str y), key _ (by simp) e e'⟩
  | tup h _ => exact ⟨_, SqT.tyx h, key _ (by simp) e e'⟩
  | lst h _ _ _ => exact ⟨_, .base (.lst h), key _ (by simp) e e'⟩
  | fro h _ => exact ⟨_, FL.tyx h, key _ (by simp) e e'⟩
  | @loc n a h =>
    simp only [isiD] at e e'
    split at e
    · rename_i xs he
      obtain ⟨b', h1, vs, h2, _⟩ := m.obj n _ he
      rw [h] at h1; cases h1
      simp only [he] at e'
      exact ⟨_, .base (.lst h2), key _ (by simp) e e'⟩
    · rename_i xs he
      obtain ⟨b', h1, vs, h2, _⟩ := m.obj n _ he
      rw [h] at h1; cases h1
      simp only [he] at e'
      exact ⟨_, .base (.dK h2), key _ (by simp) e e'⟩
    · rename_i xs he
      obtain ⟨b', h1, vs, h2, _⟩ := m.obj n _ he
      rw [h] at h1; cases h1
      simp only [he] at e'
      exact ⟨_, .base (.dT h2), key _ (by simp) e e'⟩
    · cases e
end
/-! ### sum, max, min of lists of intsOf -/
def intsOf : List D → Option (List Int)
  | [] => some []
  | .int i :: ds => (intsOf ds).map (i :: ·)
  | _ => none
def sumD (S : Sto) (x : D) : Option D := match asLF S x with
  | some ds => (intsOf ds).map fun is => .int is.sum
  | none => none
def maxL : List Int → Int
  | [] => 0
  | i :: is => is.foldl (fun m j => if j > m then j else m) i
def minL : List Int → Int
  | [] => 0
  | i :: is => is.foldl (fun m j => if j < m then j else m) i
def max1D (S : Sto) (x : D) : Option D := match asLF S x with
  | some ds => match intsOf ds with
    | some (i :: is) => some (.int (maxL (i :: is)))
    | _ => none
  | none => none
def min1D (S : Sto) (x : D) : Option D := match asLF S x with
  | some ds => match intsOf ds with
    | some (i :: is) => some (.int (minL (i :: is)))
    | _ => none
  | none => none
theorem foldl_max (is : List Int) : ∀ i : Int, (is.foldl (fun m j => if j > m then j else m) i) ∈ i :: is ∧ ∀ y ∈ i :: is, y ≤ is.foldl (fun m j => if j > m then j else m) i := by
  induction is with
  | nil => intro i; simp
  | cons j is ih =>
    intro i
    rw [List.foldl_cons]
    obtain ⟨h1, h2⟩ := ih (if j > i then j else i)
    refine ⟨?_, fun y hy => ?_⟩
    · rcases List.mem_cons.mp h1 with h | h
      · rw [h]; split <;> simp
      · simp [h]
    · have h3 := h2 (if j > i then j else i) (by simp)
      have h4 : i ≤ (if j > i then j else i) ∧ j ≤ (if j > i then j else i) := by split <;> omega
      generalize (if j > i then j else i) = t at h3 h4 h2
      rcases List.mem_cons.mp hy with rfl | hy
      · omega
      · rcases List.mem_cons.mp hy with rfl | hy
        · omega
        · exact h2 y (by simp [hy])
theorem foldl_min (is : List Int) : ∀ i : Int, (is.foldl (fun m j => if j < m then j else m) i) ∈ i :: is ∧ ∀ y ∈ i :: is, is.foldl (fun m j => if j < m then j else m) i ≤ y := by
  induction is with
  | nil => intro i; simp
  | cons j is ih =>
    intro i
    rw [List.foldl_cons]
    obtain ⟨h1, h2⟩ := ih (if j < i then j else i)
    refine ⟨?_, fun y hy => ?_⟩
    · rcases List.mem_cons.mp h1 with h | h
      · rw [h]; split <;> simp
      · simp [h]
    · have h3 := h2 (if j < i then j else i) (by simp)
      have h4 : (if j < i then j else i) ≤ i ∧ (if j < i then j else i) ≤ j := by split <;> omega
      generalize (if j < i then j else i) = t at h3 h4 h2
      rcases List.mem_cons.mp hy with rfl | hy
      · omega
      · rcases List.mem_cons.mp hy with rfl | hy
        · omega
        · exact h2 y (by simp [hy])
section
variable {K : PySem.W.Frag} {ca : Nat → Addr} {H : Hp} {r : Rg} {S : Sto}
theorem ints_rep : ∀ {ds : List D} {vs : List V} {is : List Int}, Reps K H r ds vs → intsOf ds = some is → vs = is.map V.int
  | _, _, _, .nil, e => by simp only [intsOf] at e; cases e; rfl
  | _, _, _, .cons h hs, e => by
    cases h with
    | int i =>
      simp only [intsOf, Option.map_eq_some_iff] at e
      obtain ⟨is, e1, rfl⟩ := e
      rw [ints_rep hs e1]; rfl
    | _ => cases e
end

/-! ### built-in functions -/
def call1 (f : Sto → D → Option D) (S : Sto) (xs : List D) : Option D := match xs with
  | [x] => f S x
  | _ => none
def lenD (S : Sto) (x : D) : Option D := (lenP S x).map fun (n : Nat) => D.int (n : Int)
def absD (_ : Sto) (x : D) : Option D := match x with
  | .int i => some (.int (if i < 0 then -i else i))
  | _ => none
def intD (_ : Sto) (x : D) : Option D := match x with
  | .int i => some (.int i)
  | .bl k => some (.int (if k then 1 else 0))
  | .str a => match PySem.intText? a with
    | some n => if a.length ≤ 640 then some (.int n) else none
    | none => none
  | _ => none
def strD (_ : Sto) (x : D) : Option D := match x with
  | .int i => if i.natAbs.log2 < 1920 then some (.str (toString i)) else none
  | .str x => some (.str x)
  | _ => none
def tupD (S : Sto) (x : D) : Option D := match x with
  | .tup xs => some (.tup xs)
  | x => (asLF S x).map .tup
def lstD (S : Sto) (x : D) : Option D := (asQ S x).map .lst
def max2D (_ : Sto) (xs : List D) : Option D := match xs with
  | [.int i, .int j] => some (.int (if j > i then j else i))
  | _ => none
def min2D (_ : Sto) (xs : List D) : Option D := match xs with
  | [.int i, .int j] => some (.int (if j < i then j else i))
  | _ => none
def rLen1 (K : PySem.W.Frag) : List V → Hp → VK → Prop := fun xs H Q => ∃ (x : V) (n : Nat), xs = [x] ∧ LenV K x H n ∧ Q (.int n) H
def rInt1 : List V → Hp → VK → Prop := fun xs H Q => ((∃ i, xs = [.int i] ∧ Q (.int i) H) ∨ ∃ k, xs = [.bl k] ∧ Q (.int (if k then 1 else 0)) H) ∨ ∃ a n, xs = [.str a] ∧ PySem.intText? a = some n ∧ a.length ≤ 640 ∧ Q (.int n) H
theorem or_int {X : Cx} : CallR X (.type "int") rInt1 := call_int1.or call_int_str
section
variable {K : PySem.W.Frag} {ca : Nat → Addr}
theorem cz_sum : CallZ K ca (rSum K) (call1 sumD) := by
  intro H r S xs vs d Q m hx e q
  unfold call1 at e
  split at e
  · unfold sumD at e
    split at e
    · rename_i ds e1
      rw [Option.map_eq_some_iff] at e
      obtain ⟨is, e2, rfl⟩ := e
      cases hx with
      | cons h t =>
        cases t
        obtain ⟨a, vs, rfl, h1, s1⟩ := asLF_rep m h e1
        have := ints_rep s1 e2
        subst this
        exact ⟨a, is, rfl, h1, q _ _ (Ext.refl ..) m (.int _)⟩
    · cases e
  · cases e
theorem cz_max1 : CallZ K ca (rMax K) (call1 max1D) := by
  intro H r S xs vs d Q m hx e q
  unfold call1 at e
  split at e
  · unfold max1D at e
    split at e
    · rename_i ds e1
      split at e
      · rename_i i is e2
        cases e
        cases hx with
        | cons h t =>
          cases t
          obtain ⟨a, vs, rfl, h1, s1⟩ := asLF_rep m h e1
          have := ints_rep s1 e2
          subst this
          obtain ⟨g1, g2⟩ := foldl_max is i
          refine ⟨a, i :: is, rfl, h1, by simp, fun y hy hb => ?_⟩
          have ey : y = maxL (i :: is) := Int.le_antisymm (g2 y hy) (hb _ g1)
          subst ey
          exact q _ _ (Ext.refl ..) m (.int _)
      · cases e
    · cases e
  · cases e
theorem cz_min1 : CallZ K ca (rMin K) (call1 min1D) := by
  intro H r S xs vs d Q m hx e q
  unfold call1 at e
  split at e
  · unfold min1D at e
    split at e
    · rename_i ds e1
      split at e
      · rename_i i is e2
        cases e
        cases hx with
        | cons h t =>
          cases t
          obtain ⟨a, vs, rfl, h1, s1⟩ := asLF_rep m h e1
          have := ints_rep s1 e2
          subst this
          obtain ⟨g1, g2⟩ := foldl_min is i
          refine ⟨a, i :: is, rfl, h1, by simp, fun y hy hb => ?_⟩
          have ey : y = minL (i :: is) := Int.le_antisymm (hb _ g1) (g2 y hy)
          subst ey
          exact q _ _ (Ext.refl ..) m (.int _)
      · cases e
    · cases e
  · cases e
theorem cz_len : CallZ K ca (rLen1 K) (call1 lenD) := by
  intro H r S xs vs d Q m hs e q
  unfold call1 at e
  split at e
  · unfold lenD at e
    rw [Option.map_eq_some_iff] at e
    obtain ⟨n, e, rfl⟩ := e
    cases hs with
    | cons h hs =>
      cases hs
      exact ⟨_, n, rfl, len_rep m h e, q _ _ (Ext.refl ..) m (.int _)⟩
  · cases e
theorem cz_abs : CallZ K ca (fun xs H Q => ∃ i, xs = [.int i] ∧ Q (.int (if i < 0 then -i else i)) H) (call1 absD) := by
  intro H r S xs vs d Q m hs e q
  unfold call1 at e
  split at e
  · unfold absD at e
    split at e
    · cases e
      cases hs with
      | cons h hs =>
        cases hs; cases h
        exact ⟨_, rfl, q _ _ (Ext.refl ..) m (.int _)⟩
    · cases e
  · cases e
theorem cz_int : CallZ K ca rInt1 (call1 intD) := by
  intro H r S xs vs d Q m hs e q
  unfold call1 at e
  split at e
  · cases hs with
    | cons h hs =>
      cases hs
      unfold intD at e
      split at e
      · cases h; cases e; exact .inl (.inl ⟨_, rfl, q _ _ (Ext.refl ..) m (.int _)⟩)
      · cases h; cases e; exact .inl (.inr ⟨_, rfl, q _ _ (Ext.refl ..) m (.int _)⟩)
      · split at e
        · rename_i n hn
          split at e
          · rename_i hl
            cases h; cases e; exact .inr ⟨_, n, rfl, hn, hl, q _ _ (Ext.refl ..) m (.int _)⟩
          · cases e
        · cases e
      · cases e
  · cases e
theorem cz_str : CallZ K ca (fun xs H Q => (∃ i, xs = [.int i] ∧ i.natAbs.log2 < 1920 ∧ Q (.str (toString i)) H) ∨ ∃ a, xs = [.str a] ∧ Q (.str a) H) (call1 strD) := by
  intro H r S xs vs d Q m hs e q
  unfold call1 at e
  split at e
  · unfold strD at e
    split at e
    · split at e
      · rename_i hl
        cases e
        cases hs with
        | cons h hs =>
          cases hs; cases h
          exact .inl ⟨_, rfl, hl, q _ _ (Ext.refl ..) m (.str _)⟩
      · cases e
    · cases e
      cases hs with
      | cons h hs =>
        cases hs; cases h
        exact .inr ⟨_, rfl, q _ _ (Ext.refl ..) m (.str _)⟩
    · cases e
  · cases e
theorem cz_tup : CallZ K ca (fun xs H Q => ∃ p ys, xs = [.ref p] ∧ ((SqL K H p ys ∧ ∀ l, H l = none → Q (.ref l) (upd H l (.tup ys))) ∨ (SqT K H p ys ∧ Q (.ref p) H))) (call1 tupD) := by
  intro H r S xs vs d Q m hs e q
  unfold call1 at e
  split at e
  · cases hs with
    | cons h hs =>
      cases hs
      unfold tupD at e
      split at e
      · cases e
        cases h with
        | tup h1 s1 => exact ⟨_, _, rfl, .inr ⟨h1, q _ _ (Ext.refl ..) m (.tup h1 s1)⟩⟩
      · rw [Option.map_eq_some_iff] at e
        obtain ⟨ds, e1, rfl⟩ := e
        obtain ⟨a, us, rfl, h1, s1⟩ := asLF_rep m h e1
        exact ⟨a, us, rfl, .inl ⟨h1, fun p hp => q _ _ (Ext.new hp) (m.new hp) (newTup hp s1)⟩⟩
  · cases e
theorem cz_lst : CallZ K ca (fun xs H Q => ∃ p ys, xs = [.ref p] ∧ (SqL K H p ys ∨ SqT K H p ys) ∧ ∀ l, H l = none → Q (.ref l) (upd H l (.lst ys))) (call1 lstD) := by
  intro H r S xs vs d Q m hs e q
  unfold call1 at e
  split at e
  · cases hs with
    | cons h hs =>
      cases hs
      unfold lstD at e
      rw [Option.map_eq_some_iff] at e
      obtain ⟨ds, e1, rfl⟩ := e
      obtain ⟨a, us, rfl, h1, s1⟩ := asQ_rep m h e1
      exact ⟨a, us, rfl, h1, fun p hp => q _ _ (Ext.new hp) (m.new hp) (newLst m hp s1)⟩
  · cases e
theorem cz_max2 : CallZ K ca (fun xs H Q => ∃ i j, xs = [.int i, .int j] ∧ Q (.int (if j > i then j else i)) H) max2D := by
  intro H r S xs vs d Q m hs e q
  unfold max2D at e
  split at e
  · cases e
    cases hs with
    | cons h hs =>
      cases hs with
      | cons h2 hs => cases hs; cases h; cases h2; exact ⟨_, _, rfl, q _ _ (Ext.refl ..) m (.int _)⟩
  · cases e
theorem cz_min2 : CallZ K ca (fun xs H Q => ∃ i j, xs = [.int i, .int j] ∧ Q (.int (if j < i then j else i)) H) min2D := by
  intro H r S xs vs d Q m hs e q
  unfold min2D at e
  split at e
  · cases e
    cases hs with
    | cons h hs =>
      cases hs with
      | cons h2 hs => cases hs; cases h; cases h2; exact ⟨_, _, rfl, q _ _ (Ext.refl ..) m (.int _)⟩
  · cases e
end

/-! ### repr -/
def reprD (S : Sto) (x : D) : Option D := match toP S x with
  | some p => if p.showable = true ∧ p.hasDict = false ∧ p.depth ≤ 60 ∧ p.shown.length ≤ 16777216 then some (.str p.shown) else none
  | none => none
def rRepr (K : PySem.W.Frag) : List V → Hp → VK → Prop := fun xs H Q => ∃ x p, xs = [x] ∧ Dp K H x p ∧ p.showable = true ∧ p.hasDict = false ∧ p.depth ≤ 60 ∧ p.shown.length ≤ sizeLine ∧ Q (.str p.shown) H
theorem cr_repr {X : Cx} (hg : X.A.guards = some []) (hu : X.A.units + 64 < cLine) : CallR X (.builtin "repr") (rRepr X.K) := by
  intro pins s σ H xs us Q I rv h
  obtain ⟨x, p, rfl, hd, h1, h2, h3, h4, q⟩ := h
  obtain ⟨u, rfl, ru⟩ := vals1 rv
  cases hd with
  | non => cases ru; exact P.repr_of_none ⟨.str _, H, I.tok _, ⟨_, rfl⟩, by rw [show (PyData.none).shown = ("None" : Str) by simp only [PyData.shown]] at q; exact q⟩
  | bl b => cases ru; exact P.repr_of_bool ⟨.str _, H, I.tok _, ⟨_, rfl⟩, by rw [PyData.shown_bool] at q; exact q⟩
  | int i =>
    obtain ⟨t, rfl⟩ := ru
    have hs : i.natAbs.log2 < 1920 := by simpa [PyData.showable] using h1
    exact P.repr_of_int hs ⟨.str _, H, I.tok _, ⟨_, rfl⟩, by rw [PyData.shown_int] at q; exact q⟩
  | str y =>
    obtain ⟨t, rfl⟩ := ru
    rw [PyData.shown_str] at q h4
    exact P.repr_of_str ⟨.str _, H, I.tok _, ⟨_, rfl⟩, q⟩ h4
  | @lst a vs ds hq ha =>
    cases ru
    obtain ⟨as, rd⟩ := Dp.reads I _ _ (.ref a) (Dp.lst hq ha) rfl
    exact repr_of_reads' rd h1 (fun z => by rw [h2] at z; cases z) hg (by omega) (fun b o e => e) (fun h' t tk hk => ⟨.str _, H, I.kept hk, ⟨_, rfl⟩, q⟩) h4
  | @tup a vs ds hq ha =>
    cases ru
    obtain ⟨as, rd⟩ := Dp.reads I _ _ (.ref a) (Dp.tup hq ha) rfl
    exact repr_of_reads' rd h1 (fun z => by rw [h2] at z; cases z) hg (by omega) (fun b o e => e) (fun h' t tk hk => ⟨.str _, H, I.kept hk, ⟨_, rfl⟩, q⟩) h4
section
variable {K : PySem.W.Frag} {ca : Nat → Addr}
theorem cz_repr : CallZ K ca (rRepr K) (call1 reprD) := by
  intro H r S xs vs d Q m hs e q
  unfold call1 at e
  split at e
  · cases hs with
    | cons h hs =>
      cases hs
      unfold reprD at e
      split at e
      · rename_i p e1
        split at e
        · rename_i hc
          cases e
          exact ⟨_, p, rfl, toP_dp m h e1, hc.1, hc.2.1, hc.2.2.1, by rw [sizeLine_eq]; exact hc.2.2.2, q _ _ (Ext.refl ..) m (.str _)⟩
        · cases e
      · cases e
  · cases e
end
end Z

/-! Z layer, part F: expressions, one lemma a construct, over readings that are made of plain functions. -/
namespace Z
open PySem PySem.Spec PyProof.Rows L2

theorem PE.imp {X : Cx} {e : Expr} {t t' : TE} (h : PE X e t) (i : ∀ s H Q, t' s H Q → t s H Q) : PE X e t' := ⟨fun pins s σ H Q I w => h.run pins s σ H Q I (i σ H Q w)⟩
theorem PT.imp {X : Cx} {e : Expr} {t t' : TT} (h : PT X e t) (i : ∀ s H Q, t' s H Q → t s H Q) : PT X e t' := ⟨fun pins s σ H Q I w => h.run pins s σ H Q I (i σ H Q w)⟩
theorem PW.imp {X : Cx} {e : Expr} {t t' : TT} (h : PW X e t) (i : ∀ s H Q, t' s H Q → t s H Q) : PW X e t' := ⟨fun wh pins s σ H Q I w => h.run wh pins s σ H Q I (i σ H Q w)⟩
theorem PA.imp {X : Cx} {e : List Expr} {t t' : TA} (h : PA X e t) (i : ∀ s H Q, t' s H Q → t s H Q) : PA X e t' := ⟨fun pos pins s σ H Q I w => h.run pos pins s σ H Q I (i σ H Q w)⟩
theorem PO.imp {X : Cx} {e : Option Expr} {t t' : TO} (h : PO X e t) (i : ∀ s H Q, t' s H Q → t s H Q) : PO X e t' := ⟨fun pins s σ H Q I w => h.run pins s σ H Q I (i σ H Q w)⟩

abbrev M (T : Type) := Sl → Sto → Out T
def mVar (i : Nat) : M D := fun sd S => match sd[i]? with
  | some (some d) => .ok d S
  | _ => .bad
def mC (d : D) : M D := fun _ S => .ok d S
def mBin (f : Sto → D → D → Option D) (a b : M D) : M D := fun sd S => (a sd S).bind fun x S1 => (b sd S1).bind fun y S2 => lift (f S2 x y) S2
def toB (x : D) (S : Sto) : Out Bool := match x with
  | .bl k => .ok k S
  | _ => .bad
def mBl (a : M D) : M Bool := fun sd S => (a sd S).bind toB
def mTru (a : M D) : M Bool := fun sd S => (a sd S).bind fun x S1 => lift (truP S1 x) S1
def mNotT (a : M Bool) : M Bool := fun sd S => (a sd S).bind fun k S1 => .ok (!k) S1
def mAndT (a b : M Bool) : M Bool := fun sd S => (a sd S).bind fun k S1 => if k then b sd S1 else .ok false S1
def mOrT (a b : M Bool) : M Bool := fun sd S => (a sd S).bind fun k S1 => if k then .ok true S1 else b sd S1
def mNot (a : M D) : M D := fun sd S => (a sd S).bind fun x S1 => match x with
  | .bl k => .ok (.bl (!k)) S1
  | _ => .bad
def mAnd (a b : M D) : M D := fun sd S => (a sd S).bind fun x S1 => match x with
  | .bl true => b sd S1
  | .bl false => .ok (.bl false) S1
  | _ => .bad
def mOr (a b : M D) : M D := fun sd S => (a sd S).bind fun x S1 => match x with
  | .bl true => .ok (.bl true) S1
  | .bl false => b sd S1
  | _ => .bad
def mIf (t : M Bool) (a b : M D) : M D := fun sd S => (t sd S).bind fun k S1 => if k then a sd S1 else b sd S1
def mChain (f g : Sto → D → D → Option D) (a b c : M D) : M D := fun sd S => (a sd S).bind fun x S1 => (b sd S1).bind fun y S2 => (lift (f S2 x y) S2).bind fun z S3 => match z with
  | .bl true => (c sd S3).bind fun w S4 => lift (g S4 y w) S4
  | .bl false => .ok (.bl false) S3
  | _ => .bad
def mNil : M (List D) := fun _ S => .ok [] S
def mCons (a : M D) (b : M (List D)) : M (List D) := fun sd S => (a sd S).bind fun x S1 => (b sd S1).bind fun xs S2 => .ok (x :: xs) S2
def mTup (a : M (List D)) : M D := fun sd S => (a sd S).bind fun xs S1 => if xs.length ≤ 16777216 then .ok (.tup xs) S1 else .bad
def mLst (a : M (List D)) : M D := fun sd S => (a sd S).bind fun xs S1 => if xs.length ≤ 16777216 then .ok (.lst xs) S1 else .bad
def mLstM (a : M (List D)) : M D := fun sd S => (a sd S).bind fun xs S1 => if xs.length ≤ 16777216 then .ok (.loc S1.length) (S1 ++ [.lst xs]) else .bad
def mCall (f : Sto → List D → Option D) (a : M (List D)) : M D := fun sd S => (a sd S).bind fun xs S1 => lift (f S1 xs) S1
def mIsi (a : M D) (t : Ty) : M D := fun sd S => (a sd S).bind fun x S1 => lift ((isiD S1 x t).map .bl) S1
def mIsiT (a : M D) (t t' : Ty) : M D := fun sd S => (a sd S).bind fun x S1 => lift (match isiD S1 x t, isiD S1 x t' with
  | some b, some c => some (.bl (b || c))
  | _, _ => none) S1
def mDicE : M D := fun _ S => .ok (.loc S.length) (S ++ [.dic []])
def mNo : M (Option Int) := fun _ S => .ok none S
def mPart (a : M D) : M (Option Int) := fun sd S => (a sd S).bind fun x S1 => match x with
  | .int i => .ok (some i) S1
  | _ => .bad
def mSl (a : M D) (lo hi : M (Option Int)) : M D := fun sd S => (a sd S).bind fun x S1 => (lo sd S1).bind fun l S2 => (hi sd S2).bind fun h S3 => lift (slP S3 x l h) S3

abbrev rO : RR (Option Int) (Option Int) := fun _ _ a b => a = b
def rP (K : PySem.W.Frag) (ca : Nat → Addr) (W : WX) (m : M (Option Int)) : TO := fun s H Q => ∃ sd r S, Slots K H r sd s ∧ Sim K ca H r S ∧ Ln K ca rO H r (m sd S) Q (fun c d H' => W c d s H')

section
variable {X : Cx} {ca : Nat → Addr} {W : WX} {a b c : Expr} {ma mb mc : M D} {pos : Pos}

theorem z_var {i : Nat} {x : Str} (h : PE X (.Name x pos) (tVar i)) : PE X (.Name x pos) (rE X.K ca W (mVar i)) := PE.imp h fun s H Q ⟨sd, r, S, hs, m, h⟩ => by
  unfold mVar at h
  split at h
  · rename_i d e
    obtain ⟨v, h1, h2⟩ := hs.at_ i d e
    exact ⟨v, h1, h.ok m h2⟩
  · exact h.elim
theorem z_c {e : Expr} {v : V} {d : D} (h : PE X e (tC v)) (hd : ∀ H r, Rep X.K H r d v) : PE X e (rE X.K ca W (mC d)) := PE.imp h fun s H Q ⟨sd, r, S, hs, m, h⟩ => h.ok m (hd H r)
theorem z_bin {op : Operator} {R : R2} {f : Sto → D → D → Option D} (ho : OpR X (binaryOp op) R) (hz : OpZ X.K ca R f) (ha : PE X a (rE X.K ca W ma)) (hb : PE X b (rE X.K ca W mb)) :
    PE X (.BinOp a op b pos) (rE X.K ca W (mBin f ma mb)) := PE.imp (pe_op ho ha hb) fun s H Q ⟨sd, r, S, hs, m, h⟩ =>
  ⟨sd, r, S, hs, m, h.bind fun d1 S1 v1 H1 r1 x1 m1 q1 h1 => ⟨sd, r1, S1, hs.mono x1, m1, h1.bind fun d2 S2 v2 H2 r2 x2 m2 q2 h2 => by
    obtain ⟨d, e, k⟩ := lift_ln h2
    exact hz m2 (q1.mono x2) q2 e fun v H' => k v H' r2⟩⟩
theorem z_cmp {op : CmpOp} {R : R2} {f : Sto → D → D → Option D} (ho : OpR X (compareOp op) R) (hz : OpZ X.K ca R f) (ha : PE X a (rE X.K ca W ma)) (hb : PE X b (rE X.K ca W mb)) (hm : behindInMarks op b = false) :
    PE X (.Compare a [op] [b] pos) (rE X.K ca W (mBin f ma mb)) := PE.imp (pe_cmpR ho ha hb hm) fun s H Q ⟨sd, r, S, hs, m, h⟩ =>
  ⟨sd, r, S, hs, m, h.bind fun d1 S1 v1 H1 r1 x1 m1 q1 h1 => ⟨sd, r1, S1, hs.mono x1, m1, h1.bind fun d2 S2 v2 H2 r2 x2 m2 q2 h2 => by
    obtain ⟨d, e, k⟩ := lift_ln h2
    exact hz m2 (q1.mono x2) q2 e fun v H' => k v H' r2⟩⟩
theorem toB_ln {K : PySem.W.Frag} {H : Hp} {r : Rg} {S : Sto} {x : D} {v : V} {Q : Bool → Hp → Prop} {Wx : XK} (m : Sim K ca H r S) (hx : Rep K H r x v) (h : Ln K ca rB H r (toB x S) Q Wx) : ∃ k, v = .bl k ∧ Q k H := by
  unfold toB at h
  split at h
  · cases hx; exact ⟨_, rfl, h.ok m rfl⟩
  · exact h.elim
theorem z_tcmp {op : CmpOp} {R : R2} {f : Sto → D → D → Option D} (ho : OpR X (compareOp op) R) (hz : OpZ X.K ca R f) (ha : PE X a (rE X.K ca W ma)) (hb : PE X b (rE X.K ca W mb)) (hm : behindInMarks op b = false) :
    PT X (.Compare a [op] [b] pos) (rT X.K ca W (mBl (mBin f ma mb))) := PT.imp (pt_cmpR ho ha hb hm) fun s H Q ⟨sd, r, S, hs, m, h⟩ => by
  have h' := h.bind (R := rV X.K) (Q1 := fun x H' => ∃ k, x = .bl k ∧ Q k H') fun d S1 v H1 r1 x1 m1 q1 h1 => toB_ln m1 q1 h1
  exact ⟨sd, r, S, hs, m, h'.bind fun d1 S1 v1 H1 r1 x1 m1 q1 h1 => ⟨sd, r1, S1, hs.mono x1, m1, h1.bind fun d2 S2 v2 H2 r2 x2 m2 q2 h2 => by
    obtain ⟨d, e, k⟩ := lift_ln h2
    exact hz m2 (q1.mono x2) q2 e fun v H' => k v H' r2⟩⟩
theorem z_ttru (ha : PE X a (rE X.K ca W ma)) (he : ∀ whole, isTrue a X.env whole = (do let v ← whole; standAt a.pos; holding [v] (truthy v))) : PT X a (rT X.K ca W (mTru ma)) :=
  PT.imp (pt_truth ha he) fun s H Q ⟨sd, r, S, hs, m, h⟩ => ⟨sd, r, S, hs, m, h.bind fun d S1 v H1 r1 x1 m1 q1 h1 => by
    obtain ⟨k, e, h2⟩ := lift_ln h1
    exact ⟨k, tru_rep m1 q1 e, h2 k H1 r1 (Ext.refl ..) m1 rfl⟩⟩
theorem z_tnot {m0 : M Bool} (ha : PT X a (rT X.K ca W m0)) : PT X (.UnaryOp .Not a pos) (rT X.K ca W (mNotT m0)) :=
  PT.imp (pt_not ha) fun s H Q ⟨sd, r, S, hs, m, h⟩ => ⟨sd, r, S, hs, m, h.bind fun d S1 v H1 r1 x1 m1 q1 h1 => by cases q1; exact h1.ok m1 rfl⟩
theorem z_wand {m0 m1 : M Bool} {rest : List Expr} (ha : PT X a (rT X.K ca W m0)) (hb : PW X (.BoolOp .And (b :: rest) pos) (rT X.K ca W m1)) : PW X (.BoolOp .And (a :: b :: rest) pos) (rT X.K ca W (mAndT m0 m1)) :=
  PW.imp (pw_and ha hb) fun s H Q ⟨sd, r, S, hs, m, h⟩ => ⟨sd, r, S, hs, m, h.bind fun d S1 v H1 r1 x1 m1 q1 h1 => by
    cases q1
    cases d with
    | true => exact ⟨sd, r1, S1, hs.mono x1, m1, h1⟩
    | false => exact h1.ok m1 rfl⟩
theorem z_wor {m0 m1 : M Bool} {rest : List Expr} (ha : PT X a (rT X.K ca W m0)) (hb : PW X (.BoolOp .Or (b :: rest) pos) (rT X.K ca W m1)) : PW X (.BoolOp .Or (a :: b :: rest) pos) (rT X.K ca W (mOrT m0 m1)) :=
  PW.imp (pw_or ha hb) fun s H Q ⟨sd, r, S, hs, m, h⟩ => ⟨sd, r, S, hs, m, h.bind fun d S1 v H1 r1 x1 m1 q1 h1 => by
    cases q1
    cases d with
    | true => exact h1.ok m1 rfl
    | false => exact ⟨sd, r1, S1, hs.mono x1, m1, h1⟩⟩
theorem z_not (ha : PE X a (rE X.K ca W ma)) : PE X (.UnaryOp .Not a pos) (rE X.K ca W (mNot ma)) :=
  PE.imp (pe_not ha) fun s H Q ⟨sd, r, S, hs, m, h⟩ => ⟨sd, r, S, hs, m, h.bind fun d S1 v H1 r1 x1 m1 q1 h1 => by
    split at h1
    · cases q1; exact ⟨_, rfl, h1.ok m1 (.bl _)⟩
    · exact h1.elim⟩
theorem z_and {rest : List Expr} (ha : PE X a (rE X.K ca W ma)) (hb : PE X (.BoolOp .And (b :: rest) pos) (rE X.K ca W mb)) : PE X (.BoolOp .And (a :: b :: rest) pos) (rE X.K ca W (mAnd ma mb)) :=
  PE.imp (pe_and ha hb) fun s H Q ⟨sd, r, S, hs, m, h⟩ => ⟨sd, r, S, hs, m, h.bind fun d S1 v H1 r1 x1 m1 q1 h1 => by
    split at h1
    · cases q1; exact ⟨true, rfl, iteT ⟨sd, r1, S1, hs.mono x1, m1, h1⟩⟩
    · cases q1; exact ⟨false, rfl, iteF (h1.ok m1 (.bl _))⟩
    · exact h1.elim⟩
theorem z_or {rest : List Expr} (ha : PE X a (rE X.K ca W ma)) (hb : PE X (.BoolOp .Or (b :: rest) pos) (rE X.K ca W mb)) : PE X (.BoolOp .Or (a :: b :: rest) pos) (rE X.K ca W (mOr ma mb)) :=
  PE.imp (pe_or ha hb) fun s H Q ⟨sd, r, S, hs, m, h⟩ => ⟨sd, r, S, hs, m, h.bind fun d S1 v H1 r1 x1 m1 q1 h1 => by
    split at h1
    · cases q1; exact ⟨true, rfl, iteT (h1.ok m1 (.bl _))⟩
    · cases q1; exact ⟨false, rfl, iteF ⟨sd, r1, S1, hs.mono x1, m1, h1⟩⟩
    · exact h1.elim⟩
theorem z_ifx {m0 : M Bool} (hc : PT X c (rT X.K ca W m0)) (ha : PE X a (rE X.K ca W ma)) (hb : PE X b (rE X.K ca W mb)) : PE X (.IfExp c a b pos) (rE X.K ca W (mIf m0 ma mb)) :=
  PE.imp (pe_ifExp hc ha hb) fun s H Q ⟨sd, r, S, hs, m, h⟩ => ⟨sd, r, S, hs, m, h.bind fun d S1 v H1 r1 x1 m1 q1 h1 => by
    cases q1
    cases d with
    | true => exact ⟨sd, r1, S1, hs.mono x1, m1, h1⟩
    | false => exact ⟨sd, r1, S1, hs.mono x1, m1, h1⟩⟩
theorem chain_in {K : PySem.W.Frag} {R R' : R2} {f g : Sto → D → D → Option D} {tc : TE} {s : St} {sd : Sl} {H : Hp} {r : Rg} {S : Sto} {Q : VK} (hz : OpZ K ca R f) (hz' : OpZ K ca R' g) {ta tb : TE}
    (ha : ∀ Q, (∃ sd r S, Slots K H r sd s ∧ Sim K ca H r S ∧ Ln K ca (rV K) H r (ma sd S) Q (fun c d H' => W c d s H')) → ta s H Q)
    (hb : ∀ H Q, (∃ sd r S, Slots K H r sd s ∧ Sim K ca H r S ∧ Ln K ca (rV K) H r (mb sd S) Q (fun c d H' => W c d s H')) → tb s H Q)
    (hc : ∀ H Q, (∃ sd r S, Slots K H r sd s ∧ Sim K ca H r S ∧ Ln K ca (rV K) H r (mc sd S) Q (fun c d H' => W c d s H')) → tc s H Q)
    (hs : Slots K H r sd s) (m : Sim K ca H r S) (h : Ln K ca (rV K) H r (mChain f g ma mb mc sd S) Q (fun c d H' => W c d s H')) : tChain R R' ta tb tc s H Q := by
  refine ha _ ⟨sd, r, S, hs, m, h.bind fun d1 S1 v1 H1 r1 x1 m1 q1 h1 => hb _ _ ⟨sd, r1, S1, hs.mono x1, m1, h1.bind fun d2 S2 v2 H2 r2 x2 m2 q2 h2 => ?_⟩⟩
  cases e : f S2 d1 d2 with
  | none => rw [e] at h2; exact h2.elim
  | some z =>
    rw [e] at h2
    refine hz m2 (q1.mono x2) q2 e fun v H' x' m' q' => ?_
    have h2 := Ln.ext x' h2
    simp only [lift, Out.bind] at h2
    split at h2
    · cases q'
      refine ⟨true, rfl, iteT (hc _ _ ⟨sd, r2, S2, (hs.mono x1).mono (x2.trans x'), m', h2.bind fun d4 S4 v4 H4 r4 x4 m4 q4 h4 => ?_⟩)⟩
      obtain ⟨d, e', k⟩ := lift_ln h4
      exact hz' m4 (q2.mono (x'.trans x4)) q4 e' fun v H' => k v H' r4
    · cases q'
      exact ⟨false, rfl, iteF (h2.ok m' (.bl _))⟩
    · exact h2.elim
theorem z_chain {op op' : CmpOp} {R R' : R2} {f g : Sto → D → D → Option D} (ho : OpR X (compareOp op) R) (ho' : OpR X (compareOp op') R') (hz : OpZ X.K ca R f) (hz' : OpZ X.K ca R' g)
    (ha : PE X a (rE X.K ca W ma)) (hb : PE X b (rE X.K ca W mb)) (hc : PE X c (rE X.K ca W mc)) (hm : lastMarks [op, op'] [b, c] = false) : PE X (.Compare a [op, op'] [b, c] pos) (rE X.K ca W (mChain f g ma mb mc)) :=
  PE.imp (pe_chain ho ho' ha hb hc hm) fun s H Q ⟨sd, r, S, hs, m, h⟩ => chain_in hz hz' (fun _ h => h) (fun _ _ h => h) (fun _ _ h => h) hs m h
theorem z_tchain {op op' : CmpOp} {R R' : R2} {f g : Sto → D → D → Option D} (ho : OpR X (compareOp op) R) (ho' : OpR X (compareOp op') R') (hz : OpZ X.K ca R f) (hz' : OpZ X.K ca R' g)
    (ha : PE X a (rE X.K ca W ma)) (hb : PE X b (rE X.K ca W mb)) (hc : PE X c (rE X.K ca W mc)) (hm : lastMarks [op, op'] [b, c] = false) : PT X (.Compare a [op, op'] [b, c] pos) (rT X.K ca W (mBl (mChain f g ma mb mc))) :=
  PT.imp (pt_chain ho ho' ha hb hc hm) fun s H Q ⟨sd, r, S, hs, m, h⟩ => by
    have h' := h.bind (R := rV X.K) (Q1 := fun x H' => ∃ k, x = .bl k ∧ Q k H') fun d S1 v H1 r1 x1 m1 q1 h1 => toB_ln m1 q1 h1
    exact chain_in hz hz' (fun _ h => h) (fun _ _ h => h) (fun _ _ h => h) hs m h'

/-! ### arguments, displays -/
theorem z_anil : PA X [] (rA X.K ca W mNil) := PA.imp pa_nil fun s H Q ⟨sd, r, S, hs, m, h⟩ => h.ok m .nil
theorem z_acons {es : List Expr} {ml : M (List D)} (ha : PE X a (rE X.K ca W ma)) (hl : PA X es (rA X.K ca W ml)) (hs : starEach (a :: es) X.env = (false, eval a X.env) :: starEach es X.env) : PA X (a :: es) (rA X.K ca W (mCons ma ml)) :=
  PA.imp (pa_cons ha hl hs) fun s H Q ⟨sd, r, S, hs, m, h⟩ => ⟨sd, r, S, hs, m, h.bind fun d1 S1 v1 H1 r1 x1 m1 q1 h1 => ⟨sd, r1, S1, hs.mono x1, m1, h1.bind fun d2 S2 v2 H2 r2 x2 m2 q2 h2 => h2.ok m2 (.cons (q1.mono x2) q2)⟩⟩
theorem z_tup {es : List Expr} {k : Nat} {ml : M (List D)} (h : PA X es (rA X.K ca W ml)) : PE X (.Tuple es k pos) (rE X.K ca W (mTup ml)) :=
  PE.imp (pe_tup h) fun s H Q ⟨sd, r, S, hs, m, h⟩ => ⟨sd, r, S, hs, m, h.bind fun d1 S1 v1 H1 r1 x1 m1 q1 h1 => by
    split at h1
    · rename_i hl
      refine ⟨by rw [sizeLine_eq, ← q1.length]; exact hl, fun p hp => ?_⟩
      exact h1 _ _ r1 (Ext.new hp) (m1.new hp) (newTup hp q1)
    · exact h1.elim⟩
theorem z_lst {es : List Expr} {ml : M (List D)} (h : PA X es (rA X.K ca W ml)) : PE X (.List es pos) (rE X.K ca W (mLst ml)) :=
  PE.imp (pe_lst h) fun s H Q ⟨sd, r, S, hs, m, h⟩ => ⟨sd, r, S, hs, m, h.bind fun d1 S1 v1 H1 r1 x1 m1 q1 h1 => by
    split at h1
    · rename_i hl
      refine ⟨by rw [sizeLine_eq, ← q1.length]; exact hl, fun p hp => ?_⟩
      exact h1 _ _ r1 (Ext.new hp) (m1.new hp) (newLst m1 hp q1)
    · exact h1.elim⟩
theorem newLoc {K : PySem.W.Frag} {H : Hp} {r : Rg} {S : Sto} {p : Addr} {ds : List D} {vs : List V} (m : Sim K ca H r S) (hp : H p = none) (hs : Reps K H r ds vs) : Sim K ca (upd H p (.lst vs)) (r.add p) (S ++ [.lst ds]) ∧ Rep K (upd H p (.lst vs)) (r.add p) (.loc S.length) (.ref p) := by
  refine ⟨m.newLoc hp ⟨vs, upd_same, hs.mono (Ext.newLoc hp)⟩, .loc ?_⟩
  show (r.l ++ [p])[S.length]? = some p
  rw [← m.len, List.getElem?_append_right (Nat.le_refl _), Nat.sub_self]; rfl
theorem z_lstM {es : List Expr} {ml : M (List D)} (h : PA X es (rA X.K ca W ml)) : PE X (.List es pos) (rE X.K ca W (mLstM ml)) :=
  PE.imp (pe_lst h) fun s H Q ⟨sd, r, S, hs, m, h⟩ => ⟨sd, r, S, hs, m, h.bind fun d1 S1 v1 H1 r1 x1 m1 q1 h1 => by
    split at h1
    · rename_i hl
      refine ⟨by rw [sizeLine_eq, ← q1.length]; exact hl, fun p hp => ?_⟩
      obtain ⟨n1, n2⟩ := newLoc m1 hp q1
      exact h1 _ _ _ (Ext.newLoc hp) n1 n2
    · exact h1.elim⟩

/-! ### subscripts -/
theorem z_ix (ha : PE X a (rE X.K ca W ma)) (hb : PE X b (rE X.K ca W mb)) (hs : PlainIx b) : PE X (.Subscript a b pos) (rE X.K ca W (mBin ixP ma mb)) := PE.imp (pe_ix ix_seq ha hb hs) fun s H Q ⟨sd, r, S, hs, m, h⟩ =>
  ⟨sd, r, S, hs, m, h.bind fun d1 S1 v1 H1 r1 x1 m1 q1 h1 => ⟨sd, r1, S1, hs.mono x1, m1, h1.bind fun d2 S2 v2 H2 r2 x2 m2 q2 h2 => by
    obtain ⟨d, e, k⟩ := lift_ln h2
    exact oz_ix m2 (q1.mono x2) q2 e fun v H' => k v H' r2⟩⟩
theorem z_pno : PO X none (rP X.K ca W mNo) := PO.imp po_none fun s H Q ⟨sd, r, S, hs, m, h⟩ => h.ok m rfl
theorem z_psome (ha : PE X a (rE X.K ca W ma)) : PO X (some a) (rP X.K ca W (mPart ma)) := PO.imp (po_some ha) fun s H Q ⟨sd, r, S, hs, m, h⟩ =>
  ⟨sd, r, S, hs, m, h.bind fun d1 S1 v1 H1 r1 x1 m1 q1 h1 => by
    split at h1
    · cases q1; exact ⟨_, rfl, h1.ok m1 rfl⟩
    · exact h1.elim⟩
theorem z_sl {lo hi : Option Expr} {m1 m2 : M (Option Int)} {p2 : Pos} (ha : PE X a (rE X.K ca W ma)) (hl : PO X lo (rP X.K ca W m1)) (hh : PO X hi (rP X.K ca W m2)) : PE X (.Subscript a (.Slice lo hi none p2) pos) (rE X.K ca W (mSl ma m1 m2)) :=
  PE.imp (pe_slice or_sl ha hl hh) fun s H Q ⟨sd, r, S, hs, m, h⟩ => ⟨sd, r, S, hs, m, h.bind fun d1 S1 v1 H1 r1 x1 m1 q1 h1 => ⟨sd, r1, S1, hs.mono x1, m1, h1.bind fun d2 S2 v2 H2 r2 x2 m2 q2 h2 => by
    cases q2
    exact ⟨sd, r2, S2, (hs.mono x1).mono x2, m2, h2.bind fun d3 S3 v3 H3 r3 x3 m3 q3 h3 => by
      cases q3
      obtain ⟨d, e, k⟩ := lift_ln h3
      exact oz_sl m3 ((q1.mono x2).mono x3) e fun v H' => k v H' r3⟩⟩⟩

/-! ### built-in functions -/
theorem z_callB {x : Str} {id : String} {es : List Expr} {p : Pos} {R : List V → Hp → VK → Prop} {f : Sto → List D → Option D} {ml : M (List D)} (hc : CallR X (.builtin id) R) (hz : CallZ X.K ca R f) (hg : Gl X x) (hm : X.mg x = none) (hv : bootBuiltins x = some (.builtin id))
    (ha : PA X (a :: es) (rA X.K ca W ml)) (hn : x ≠ "__name__") (hdb : (x == ("__debug__" : Str)) = false) (he : starEach (a :: es) X.env = (false, eval a X.env) :: starEach es X.env) (hpl : (backTo pos (starEach es X.env)).any (·.1) = false) :
    PE X (.Call (.Name x p) (a :: es) [] pos) (rE X.K ca W (mCall f ml)) := PE.imp (pe_callB hc hg hm hv ha hn hdb he hpl) fun s H Q ⟨sd, r, S, hs, m, h⟩ =>
  ⟨sd, r, S, hs, m, h.bind fun d1 S1 v1 H1 r1 x1 m1 q1 h1 => by
    obtain ⟨d, e, k⟩ := lift_ln h1
    exact hz m1 q1 e fun v H' => k v H' r1⟩
theorem z_callT {x : Str} {id : String} {es : List Expr} {p : Pos} {R : List V → Hp → VK → Prop} {f : Sto → List D → Option D} {ml : M (List D)} (hc : CallR X (.type id) R) (hz : CallZ X.K ca R f) (hg : Gl X x) (hm : X.mg x = none) (hv : bootBuiltins x = some (.type id))
    (ha : PA X (a :: es) (rA X.K ca W ml)) (hn : x ≠ "__name__") (hdb : (x == ("__debug__" : Str)) = false) (he : starEach (a :: es) X.env = (false, eval a X.env) :: starEach es X.env) (hpl : (backTo pos (starEach es X.env)).any (·.1) = false) :
    PE X (.Call (.Name x p) (a :: es) [] pos) (rE X.K ca W (mCall f ml)) := PE.imp (pe_callTy hc hg hm hv ha hn hdb he hpl) fun s H Q ⟨sd, r, S, hs, m, h⟩ =>
  ⟨sd, r, S, hs, m, h.bind fun d1 S1 v1 H1 r1 x1 m1 q1 h1 => by
    obtain ⟨d, e, k⟩ := lift_ln h1
    exact hz m1 q1 e fun v H' => k v H' r1⟩
theorem z_isi {x tn : Str} {t : Ty} {p p2 : Pos} (hg : Gl X "isinstance") (hm : X.mg "isinstance" = none) (hgt : Gl X tn) (hmt : X.mg tn = none) (hvt : bootBuiltins tn = some (.type t.nm)) (hnt : tn ≠ "__name__") (hdt : (tn == ("__debug__" : Str)) = false)
    (ha : PE X a (rE X.K ca W ma)) (hs1 : starEach [a, .Name tn p2] X.env = (false, eval a X.env) :: starEach [.Name tn p2] X.env) : PE X (.Call (.Name "isinstance" p) [a, .Name tn p2] [] pos) (rE X.K ca W (mIsi ma t)) :=
  PE.imp (pe_callB call_isi hg hm (by decide +kernel) (pa_cons ha (pa_cons (pe_bltn (v := .ty t.nm) hgt hmt hvt rfl hnt hdt) pa_nil) hs1) (he := hs1)) fun s H Q ⟨sd, r, S, hs, m, h⟩ =>
  ⟨sd, r, S, hs, m, h.bind fun d1 S1 v1 H1 r1 x1 m1 q1 h1 => by
    obtain ⟨d, e, k⟩ := lift_ln h1
    rw [Option.map_eq_some_iff] at e
    obtain ⟨bb, e, rfl⟩ := e
    obtain ⟨n, t1, t2⟩ := isi_rep m1 q1 e
    exact ⟨v1, .ty t.nm, .type n, .type t.nm, bb, rfl, .ty _, t1, t2, k _ _ r1 (Ext.refl ..) m1 (.bl _)⟩⟩
theorem z_isiT {tn tn' : Str} {t t' : Ty} {p p2 p3 p4 : Pos} {k : Nat} (hg : Gl X "isinstance") (hm : X.mg "isinstance" = none) (hgt : Gl X tn) (hmt : X.mg tn = none) (hvt : bootBuiltins tn = some (.type t.nm)) (hnt : tn ≠ "__name__") (hdt : (tn == ("__debug__" : Str)) = false)
    (hgt' : Gl X tn') (hmt' : X.mg tn' = none) (hvt' : bootBuiltins tn' = some (.type t'.nm)) (hnt' : tn' ≠ "__name__") (hdt' : (tn' == ("__debug__" : Str)) = false)
    (ha : PE X a (rE X.K ca W ma)) (hs1 : starEach [a, .Tuple [.Name tn p2, .Name tn' p3] k p4] X.env = (false, eval a X.env) :: starEach [.Tuple [.Name tn p2, .Name tn' p3] k p4] X.env) : PE X (.Call (.Name "isinstance" p) [a, .Tuple [.Name tn p2, .Name tn' p3] k p4] [] pos) (rE X.K ca W (mIsiT ma t t')) :=
  PE.imp (pe_callB call_isiT hg hm (by decide +kernel) (pa_cons ha (pa_cons (pe_tup (pa_cons (pe_bltn (v := .ty t.nm) hgt hmt hvt rfl hnt hdt) (pa_cons (pe_bltn (v := .ty t'.nm) hgt' hmt' hvt' rfl hnt' hdt') pa_nil))) pa_nil) hs1) (he := hs1)) fun s H Q ⟨sd, r, S, hs, m, h⟩ =>
  ⟨sd, r, S, hs, m, h.bind fun d1 S1 v1 H1 r1 x1 m1 q1 h1 => by
    obtain ⟨d, e, kk⟩ := lift_ln h1
    split at e
    · rename_i b c e1 e2
      cases e
      refine ⟨by rw [sizeLine_eq]; show 2 ≤ 16777216; decide, fun tp htp => ?_⟩
      obtain ⟨n, t1, t2⟩ := isi_rep2 (m1.new (o := .tup [.ty t.nm, .ty t'.nm]) htp) (q1.mono (Ext.new htp)) e1 e2
      exact ⟨v1, tp, [.ty t.nm, .ty t'.nm], .type n, [.type t.nm, .type t'.nm], _, rfl, upd_same .., .cons (.ty _) (.cons (.ty _) .nil), t1, t2, kk _ _ r1 (Ext.new htp) (m1.new htp) (.bl _)⟩
    · cases e⟩
theorem z_dicE : PE X (.Dict [] [] pos) (rE X.K ca W mDicE) := PE.imp pe_dnewK fun s H Q ⟨sd, r, S, hs, m, h⟩ p hp =>
  h _ _ (r.add p) (Ext.newLoc hp) (m.newLoc hp ⟨[], upd_same .., .nil⟩) (.loc (by show (r.l ++ [p])[S.length]? = some p; rw [List.getElem?_append_right (by rw [m.len]; exact Nat.le_refl _), m.len, Nat.sub_self]; rfl))
end
end Z

/-! Z layer, part G: what is walked (sources), targets, comprehensions. -/
namespace Z
open PySem PySem.Spec PyProof.Rows L2

/-! ### facts that stay -/
def Ch (H : Hp) (a : Addr) : Prop := ∃ w, H a = some w ∧ ¬ Imm w
structure Stb (P : Hp → Rg → Prop) : Prop where
  mono : ∀ {H : Hp} {r : Rg} {H' : Hp} {r' : Rg}, Ext H r H' r' → P H r → P H' r'
  hide : ∀ {H : Hp} {r : Rg} {a : Addr} {o : HO}, H a = none → P H r → P (upd H a o) (r.hide a)
  chg : ∀ {H : Hp} {r : Rg} {a : Addr} {o : HO}, Ch H a → a ∈ r.p → P H r → P (upd H a o) r
theorem Stb.const {p : Prop} : Stb fun _ _ => p := ⟨fun _ h => h, fun _ h => h, fun _ _ h => h⟩
theorem Stb.and {P Q : Hp → Rg → Prop} (a : Stb P) (b : Stb Q) : Stb fun H r => P H r ∧ Q H r := ⟨fun e h => ⟨a.mono e h.1, b.mono e h.2⟩, fun e h => ⟨a.hide e h.1, b.hide e h.2⟩, fun e i h => ⟨a.chg e i h.1, b.chg e i h.2⟩⟩
section
variable {K : PySem.W.Frag} {ca : Nat → Addr}
theorem ne_upd {H : Hp} {a b : Addr} {o u : HO} (h : H b = some u) (ha : Ch H a) (hu : Imm u) : upd H a o b = some u := by
  obtain ⟨w, h1, h2⟩ := ha
  rw [upd_ne (fun e => by rw [e, h1] at h; cases h; exact h2 hu)]; exact h
theorem stb_sqt {a : Addr} {xs : List V} : Stb fun H _ => SqT K H a xs := by
  refine ⟨fun e h => e.rdT h, fun hn h => (Ext.new (r := ⟨[], []⟩) hn).rdT h, fun ha _ h => ?_⟩
  rcases h with (h | ⟨o, h⟩) | h
  · exact .inl (.inl (ne_upd h ha trivial))
  · exact .inl (.inr ⟨o, ne_upd h ha trivial⟩)
  · exact .inr h
theorem stb_fl {a : Addr} {xs : List V} : Stb fun H _ => FL K H a xs := by
  refine ⟨fun e h => e.fl h, fun hn h => (Ext.new (r := ⟨[], []⟩) hn).fl h, fun ha _ h => ?_⟩
  rcases h with ⟨o, h⟩ | h
  · exact .inl ⟨o, ne_upd h ha trivial⟩
  · exact .inr h
mutual
theorem Rep.hide {H : Hp} {r : Rg} {a : Addr} {o : HO} (ha : H a = none) : ∀ {d : D} {v : V}, Rep K H r d v → Rep K (upd H a o) (r.hide a) d v
  | _, _, .non => .non
  | _, _, .bl b => .bl b
  | _, _, .int i => .int i
  | _, _, .str x => .str x
  | _, _, .tup h hs => .tup (stb_sqt.hide (r := r) ha h) (Reps.hide ha hs)
  | _, _, .lst h hn hp hs => .lst (by rw [upd_ne (ne_of_none h ha)]; exact h) hn (fun z => by
      rcases List.mem_cons.mp z with z | z
      · subst z; rw [ha] at h; cases h
      · exact hp z) (Reps.hide ha hs)
  | _, _, .fro h hs => .fro (stb_fl.hide (r := r) ha h) (Reps.hide ha hs)
  | _, _, .loc h => .loc h
theorem Reps.hide {H : Hp} {r : Rg} {a : Addr} {o : HO} (ha : H a = none) : ∀ {ds : List D} {vs : List V}, Reps K H r ds vs → Reps K (upd H a o) (r.hide a) ds vs
  | _, _, .nil => .nil
  | _, _, .cons h hs => .cons (Rep.hide ha h) (Reps.hide ha hs)
end
mutual
theorem Rep.chg {H : Hp} {r : Rg} {a : Addr} {o : HO} (ha : Ch H a) (hm : a ∈ r.p) : ∀ {d : D} {v : V}, Rep K H r d v → Rep K (upd H a o) r d v
  | _, _, .non => .non
  | _, _, .bl b => .bl b
  | _, _, .int i => .int i
  | _, _, .str x => .str x
  | _, _, .tup h hs => .tup (stb_sqt.chg ha hm h) (Reps.chg ha hm hs)
  | _, _, .lst h hn hp hs => .lst (by rw [upd_ne (fun e => hp (by rw [e]; exact hm))]; exact h) hn hp (Reps.chg ha hm hs)
  | _, _, .fro h hs => .fro (stb_fl.chg ha hm h) (Reps.chg ha hm hs)
  | _, _, .loc h => .loc h
theorem Reps.chg {H : Hp} {r : Rg} {a : Addr} {o : HO} (ha : Ch H a) (hm : a ∈ r.p) : ∀ {ds : List D} {vs : List V}, Reps K H r ds vs → Reps K (upd H a o) r ds vs
  | _, _, .nil => .nil
  | _, _, .cons h hs => .cons (Rep.chg ha hm h) (Reps.chg ha hm hs)
end
/-- r' knows all that r knows, and forbids no address that r lets a list stand at -/
structure Mv (r r' : Rg) : Prop where
  at_ : ∀ (n : Nat) (a : Addr), r.l[n]? = some a → r'.l[n]? = some a
  out : ∀ a, a ∉ r.l → a ∉ r.p → a ∉ r'.l ∧ a ∉ r'.p
mutual
theorem Rep.move {H : Hp} {r r' : Rg} (e : Mv r r') : ∀ {d : D} {v : V}, Rep K H r d v → Rep K H r' d v
  | _, _, .non => .non
  | _, _, .bl b => .bl b
  | _, _, .int i => .int i
  | _, _, .str x => .str x
  | _, _, .tup h hs => .tup h (Reps.move e hs)
  | _, _, .lst h hn hq hs => .lst h (e.out _ hn hq).1 (e.out _ hn hq).2 (Reps.move e hs)
  | _, _, .fro h hs => .fro h (Reps.move e hs)
  | _, _, .loc h => .loc (e.at_ _ _ h)
theorem Reps.move {H : Hp} {r r' : Rg} (e : Mv r r') : ∀ {ds : List D} {vs : List V}, Reps K H r ds vs → Reps K H r' ds vs
  | _, _, .nil => .nil
  | _, _, .cons h hs => .cons (Rep.move e h) (Reps.move e hs)
end
theorem stb_rep {d : D} {v : V} : Stb fun H r => Rep K H r d v := ⟨fun e h => h.mono e, fun e h => h.hide e, fun e i h => h.chg e i⟩
theorem stb_reps {ds : List D} {vs : List V} : Stb fun H r => Reps K H r ds vs := ⟨fun e h => h.mono e, fun e h => h.hide e, fun e i h => h.chg e i⟩
theorem RepF.hide {κ : Type} {H : Hp} {r : Rg} {a : Addr} {o : HO} (ha : H a = none) : ∀ {ds : List (κ × D)} {vs : List (κ × V)}, RepF K H r ds vs → RepF K (upd H a o) (r.hide a) ds vs
  | _, _, .nil => .nil
  | _, _, .cons h hs => .cons (h.hide ha) (RepF.hide ha hs)
theorem RepF.chg {κ : Type} {H : Hp} {r : Rg} {a : Addr} {o : HO} (ha : Ch H a) (hm : a ∈ r.p) : ∀ {ds : List (κ × D)} {vs : List (κ × V)}, RepF K H r ds vs → RepF K (upd H a o) r ds vs
  | _, _, .nil => .nil
  | _, _, .cons h hs => .cons (h.chg ha hm) (RepF.chg ha hm hs)
theorem RepF.move {κ : Type} {H : Hp} {r r' : Rg} (e : Mv r r') : ∀ {ds : List (κ × D)} {vs : List (κ × V)}, RepF K H r ds vs → RepF K H r' ds vs
  | _, _, .nil => .nil
  | _, _, .cons h hs => .cons (h.move e) (RepF.move e hs)
theorem ORep.move {H : Hp} {r r' : Rg} {o : MO} {a : Addr} (e : Mv r r') (h : ORep K ca H r o a) : ORep K ca H r' o a := by
  cases o with
  | lst ds => obtain ⟨vs, h3, h4⟩ := h; exact ⟨vs, h3, h4.move e⟩
  | ins c fs => obtain ⟨dx, gs, h3, h4⟩ := h; exact ⟨dx, gs, h3, h4.move e⟩
  | dic ds => obtain ⟨vs, h3, h4⟩ := h; exact ⟨vs, h3, h4.move e⟩
  | dit ds => obtain ⟨vs, h3, h4⟩ := h; exact ⟨vs, h3, h4.move e⟩
theorem stb_slots {sd : Sl} {s : St} : Stb fun H r => Slots K H r sd s :=
  ⟨fun e h => h.mono e, fun e h => ⟨h.len, fun i d q => let ⟨v, h1, h2⟩ := h.at_ i d q; ⟨v, h1, h2.hide e⟩⟩, fun e i h => ⟨h.len, fun j d q => let ⟨v, h1, h2⟩ := h.at_ j d q; ⟨v, h1, h2.chg e i⟩⟩⟩
theorem Sim.hide {H : Hp} {r : Rg} {S : Sto} {a : Addr} {o : HO} (m : Sim K ca H r S) (ha : H a = none) : Sim K ca (upd H a o) (r.hide a) S := by
  refine ⟨m.len, m.nd, fun n u h => ?_, fun b hb => ?_⟩
  · obtain ⟨b, h1, h2⟩ := m.obj n u h
    have hb : upd H a o b = H b := upd_ne fun e => m.tracked (e ▸ List.mem_of_getElem? h1) ha
    refine ⟨b, h1, ?_⟩
    cases u with
    | lst ds => obtain ⟨vs, h3, h4⟩ := h2; exact ⟨vs, by rw [hb]; exact h3, h4.hide ha⟩
    | ins c fs => obtain ⟨dx, gs, h3, h4⟩ := h2; exact ⟨dx, gs, by rw [hb]; exact h3, h4.hide ha⟩
    | dic ds => obtain ⟨vs, h3, h4⟩ := h2; exact ⟨vs, by rw [hb]; exact h3, h4.hide ha⟩
    | dit ds => obtain ⟨vs, h3, h4⟩ := h2; exact ⟨vs, by rw [hb]; exact h3, h4.hide ha⟩
  · rcases List.mem_cons.mp hb with rfl | hb
    · rw [upd_same]; simp
    · exact (Ext.new (r := r) ha).there b (m.prv b hb)
theorem Sim.chg {H : Hp} {r : Rg} {S : Sto} {a : Addr} {o : HO} (m : Sim K ca H r S) (ha : Ch H a) (hm : a ∈ r.p) (hl : a ∉ r.l) : Sim K ca (upd H a o) r S := by
  refine ⟨m.len, m.nd, fun n u h => ?_, fun b hb => ?_⟩
  · obtain ⟨b, h1, h2⟩ := m.obj n u h
    have hb : upd H a o b = H b := upd_ne fun e => hl (e ▸ List.mem_of_getElem? h1)
    refine ⟨b, h1, ?_⟩
    cases u with
    | lst ds => obtain ⟨vs, h3, h4⟩ := h2; exact ⟨vs, by rw [hb]; exact h3, h4.chg ha hm⟩
    | ins c fs => obtain ⟨dx, gs, h3, h4⟩ := h2; exact ⟨dx, gs, by rw [hb]; exact h3, h4.chg ha hm⟩
    | dic ds => obtain ⟨vs, h3, h4⟩ := h2; exact ⟨vs, by rw [hb]; exact h3, h4.chg ha hm⟩
    | dit ds => obtain ⟨vs, h3, h4⟩ := h2; exact ⟨vs, by rw [hb]; exact h3, h4.chg ha hm⟩
  · by_cases e : b = a
    · subst e; rw [upd_same]; simp
    · rw [upd_ne e]; exact m.prv b hb
theorem Sim.move {H : Hp} {r r' : Rg} {S : Sto} (m : Sim K ca H r S) (e : Mv r r') (hl : r'.l = r.l) (hp : ∀ a ∈ r'.p, a ∈ r.p) : Sim K ca H r' S := by
  refine ⟨by rw [hl]; exact m.len, by rw [hl]; exact m.nd, fun n u h => ?_, fun b hb => m.prv b (hp b hb)⟩
  obtain ⟨b, h1, h2⟩ := m.obj n u h
  exact ⟨b, e.at_ _ _ h1, h2.move e⟩
end

/-! ### sources -/
inductive Src where
  | vals (ds : List D)
  | cell (n len : Nat)
  | zip (a b : Src)
  | enum (a : Src)
def Src.len : Src → Nat
  | .vals ds => ds.length
  | .cell _ k => k
  | .zip a b => min a.len b.len
  | .enum a => a.len
def Src.at (s : Src) (S : Sto) (i : Nat) : Option D := match s with
  | .vals ds => ds[i]?
  | .cell n k => match S[n]? with
    | some (.lst xs) => if xs.length = k then xs[i]? else none
    | _ => none
  | .zip a b => match a.at S i, b.at S i with
    | some x, some y => some (.tup [x, y])
    | _, _ => none
  | .enum a => match a.at S i with
    | some x => some (.tup [.int i, x])
    | none => none
def Src.fin (s : Src) (S : Sto) : Bool := match s with
  | .vals _ => true
  | .cell n k => match S[n]? with
    | some (.lst xs) => decide (xs.length = k)
    | _ => false
  | .zip a b => a.fin S && b.fin S
  | .enum a => a.fin S
def SrcAt (K : PySem.W.Frag) (ca : Nat → Addr) (H : Hp) (r : Rg) (s : Src) (J : It) : Prop :=
  ∃ P : Hp → Rg → Prop, Stb P ∧ P H r ∧ ∀ H r S, P H r → Sim K ca H r S → ∀ i,
    (∀ d, s.at S i = some d → J.go i H ∧ ∀ x H', J.yld i H x H' → Ext H r H' r ∧ Sim K ca H' r S ∧ Rep K H' r d x) ∧ (i = s.len → s.fin S = true → J.stop i H)
def rI (K : PySem.W.Frag) (ca : Nat → Addr) (W : WX) (m : M Src) : TI := fun s H R => ∃ sd r S, Slots K H r sd s ∧ Sim K ca H r S ∧ Ln K ca (SrcAt K ca) H r (m sd S) R (fun c d H' => W c d s H')

section
variable {K : PySem.W.Frag} {ca : Nat → Addr} {H : Hp} {r : Rg}
theorem srcT {a : Addr} {ds : List D} {vs : List V} (h : SqT K H a vs) (hs : Reps K H r ds vs) : SrcAt K ca H r (.vals ds) (Itt K a) := by
  refine ⟨fun H r => SqT K H a vs ∧ Reps K H r ds vs, stb_sqt.and stb_reps, ⟨h, hs⟩, fun H r S p m i => ⟨fun d e => ?_, fun e _ => ⟨vs, p.1, ?_⟩⟩⟩
  · obtain ⟨v, h1, h2⟩ := p.2.get e
    refine ⟨⟨vs, v, p.1, h1⟩, fun x H' y => ?_⟩
    obtain ⟨rfl, y⟩ := y
    have := y vs p.1
    rw [h1] at this; cases this
    exact ⟨Ext.refl .., m, h2⟩
  · rw [e]; exact Nat.le_of_eq p.2.length.symm
theorem srcF {a : Addr} {ds : List D} {vs : List V} (h : FL K H a vs) (hs : Reps K H r ds vs) : SrcAt K ca H r (.vals ds) (Itl K a) := by
  refine ⟨fun H r => FL K H a vs ∧ Reps K H r ds vs, stb_fl.and stb_reps, ⟨h, hs⟩, fun H r S p m i => ⟨fun d e => ?_, fun e _ => ⟨vs, p.1.sq, ?_⟩⟩⟩
  · obtain ⟨v, h1, h2⟩ := p.2.get e
    refine ⟨⟨vs, v, p.1.sq, h1⟩, fun x H' y => ?_⟩
    obtain ⟨rfl, y⟩ := y
    have := y vs p.1.sq
    rw [h1] at this; cases this
    exact ⟨Ext.refl .., m, h2⟩
  · rw [e]; exact Nat.le_of_eq p.2.length.symm
theorem srcL {a : Addr} {ds : List D} {vs : List V} (h : H a = some (.lst vs)) (hn : a ∉ r.l) (hp : a ∉ r.p) (hs : Reps K H r ds vs) : SrcAt K ca H r (.vals ds) (Itl K a) := by
  refine ⟨fun H r => Rep K H r (.lst ds) (.ref a), stb_rep, .lst h hn hp hs, fun H r S p m i => ?_⟩
  cases p with
  | @lst _ ws _ h hn hp hs =>
    refine ⟨fun d e => ?_, fun e _ => ⟨ws, .of h, ?_⟩⟩
    · obtain ⟨v, h1, h2⟩ := hs.get e
      refine ⟨⟨ws, v, .of h, h1⟩, fun x H' y => ?_⟩
      obtain ⟨rfl, y⟩ := y
      have := y ws (.of h)
      rw [h1] at this; cases this
      exact ⟨Ext.refl .., m, h2⟩
    · rw [e]; exact Nat.le_of_eq hs.length.symm
theorem srcC {a : Addr} {n k : Nat} (h : r.l[n]? = some a) : SrcAt K ca H r (.cell n k) (Itl K a) := by
  refine ⟨fun _ r => r.l[n]? = some a, ⟨fun e h => e.at h, fun _ h => h, fun _ _ h => h⟩, h, fun H r S p m i => ⟨fun d e => ?_, fun e f => ?_⟩⟩
  · simp only [Src.at] at e
    split at e
    · rename_i xs e1
      split at e
      · obtain ⟨b, h1, vs, h2, h3⟩ := m.obj n _ e1
        rw [p] at h1; cases h1
        obtain ⟨v, h4, h5⟩ := h3.get e
        refine ⟨⟨vs, v, .of h2, h4⟩, fun x H' y => ?_⟩
        obtain ⟨rfl, y⟩ := y
        have := y vs (.of h2)
        rw [h4] at this; cases this
        exact ⟨Ext.refl .., m, h5⟩
      · cases e
    · cases e
  · simp only [Src.fin] at f
    split at f
    · rename_i xs e1
      obtain ⟨b, h1, vs, h2, h3⟩ := m.obj n _ e1
      rw [p] at h1; cases h1
      have hk := of_decide_eq_true f
      refine ⟨vs, .of h2, ?_⟩
      rw [e, ← h3.length, hk]
      exact Nat.le_refl _
    · cases f
theorem srcS {x : Str} : SrcAt K ca H r (.vals (x.cps.toList.map fun c => D.str ⟨#[c]⟩)) (Its x) := by
  refine ⟨fun _ _ => True, Stb.const, trivial, fun H r S _ m i => ⟨fun d e => ?_, fun e _ => ?_⟩⟩
  · simp only [Src.at, List.getElem?_map, Option.map_eq_some_iff] at e
    obtain ⟨c, e1, rfl⟩ := e
    rw [Array.getElem?_toList] at e1
    have hi : i < x.cps.size := (Array.getElem?_eq_some_iff.mp e1).1
    refine ⟨hi, fun y H' z => ?_⟩
    obtain ⟨rfl, c', e2, rfl⟩ := z
    rw [e1] at e2; cases e2
    exact ⟨Ext.refl .., m, .str _⟩
  · show x.cps.size ≤ i
    rw [e]; simp [Src.len]
theorem srcR {lo : Int} {n : Nat} : SrcAt K ca H r (.vals ((List.range n).map fun (i : Nat) => D.int (lo + (i : Int)))) (Itr lo n) := by
  refine ⟨fun _ _ => True, Stb.const, trivial, fun H r S _ m i => ⟨fun d e => ?_, fun e _ => ?_⟩⟩
  · simp only [Src.at, List.getElem?_map] at e
    by_cases hi : i < n
    · rw [List.getElem?_range hi] at e
      cases e
      refine ⟨hi, fun x H' y => ?_⟩
      obtain ⟨rfl, rfl⟩ := y
      exact ⟨Ext.refl .., m, .int _⟩
    · rw [List.getElem?_eq_none (by simpa using hi)] at e; cases e
  · show n ≤ i
    rw [e]; simp [Src.len]
end

def signsD (x : Str) : List D := x.cps.toList.map fun c => D.str ⟨#[c]⟩
def srcOf (S : Sto) (x : D) : Option Src := match x with
  | .str z => some (.vals (signsD z))
  | .tup ds => some (.vals ds)
  | .lst ds => some (.vals ds)
  | .fro ds => some (.vals ds)
  | .loc n => match S[n]? with
    | some (.lst xs) => some (.cell n xs.length)
    | _ => none
  | _ => none
def mSeq (a : M D) : M Src := fun sd S => (a sd S).bind fun x S1 => lift (srcOf S1 x) S1
def rngV (lo hi : Int) : Option Src := if -4611686018427387904 ≤ lo ∧ lo < 4611686018427387904 ∧ -4611686018427387904 ≤ hi ∧ hi < 4611686018427387904 then some (.vals ((List.range (hi - lo).toNat).map fun (i : Nat) => D.int (lo + (i : Int)))) else none
def rng1 (xs : List D) : Option Src := match xs with
  | [.int j] => rngV 0 j
  | _ => none
def rng2 (xs : List D) : Option Src := match xs with
  | [.int i, .int j] => rngV i j
  | _ => none
def mRng (f : List D → Option Src) (a : M (List D)) : M Src := fun sd S => (a sd S).bind fun xs S1 => lift (f xs) S1

section
variable {X : Cx} {ca : Nat → Addr} {W : WX} {tg : Expr}
theorem PI.imp {it : Expr} {t t' : TI} (h : PI X tg it t) (i : ∀ s H Q, t' s H Q → t s H Q) : PI X tg it t' := ⟨fun pins s σ H Q I w => h.run pins s σ H Q I (i σ H Q w)⟩
theorem z_seq {a : Expr} {ma : M D} (ha : PE X a (rE X.K ca W ma)) : PI X tg a (rI X.K ca W (mSeq ma)) := by
  refine ⟨fun pins s σ H R I ⟨sd, r, S, hs, m, h⟩ => ?_⟩
  have key : iTup X.K (rE X.K ca W ma) σ H R ∨ iList X.K (rE X.K ca W ma) σ H R ∨ iStr (rE X.K ca W ma) σ H R := by
    unfold mSeq at h
    cases e : ma sd S with
    | bad => rw [e] at h; exact h.elim
    | exc c fs S1 =>
      left
      exact ⟨sd, r, S, hs, m, by rw [e]; rw [e] at h; exact h⟩
    | ok d S1 =>
      rw [e] at h
      obtain ⟨src, e1, k⟩ := lift_ln (show Ln X.K ca (SrcAt X.K ca) H r (lift (srcOf S1 d) S1) R _ from h)
      have ln : ∀ Q, (∀ v H' r', Ext H r H' r' → Sim X.K ca H' r' S1 → Rep X.K H' r' d v → Q v H') → rE X.K ca W ma σ H Q := fun Q q => ⟨sd, r, S, hs, m, by rw [e]; exact q⟩
      unfold srcOf at e1
      split at e1
      · right; right; cases e1
        refine ln _ fun v H' r' x m' q => ?_
        cases q
        exact ⟨_, rfl, k _ H' r' x m' srcS⟩
      · left; cases e1
        refine ln _ fun v H' r' x m' q => ?_
        cases q with
        | tup h1 s1 => exact ⟨_, rfl, ⟨_, h1⟩, k _ H' r' x m' (srcT h1 s1)⟩
      · right; left; cases e1
        refine ln _ fun v H' r' x m' q => ?_
        cases q with
        | lst h1 hn hp s1 => exact ⟨_, rfl, ⟨_, .of h1⟩, k _ H' r' x m' (srcL h1 hn hp s1)⟩
      · right; left; cases e1
        refine ln _ fun v H' r' x m' q => ?_
        cases q with
        | fro h1 s1 => exact ⟨_, rfl, ⟨_, h1.sq⟩, k _ H' r' x m' (srcF h1 s1)⟩
      · right; left
        split at e1
        · rename_i n xs e2
          cases e1
          refine ln _ fun v H' r' x m' q => ?_
          obtain ⟨a, rfl, h1, vs, h2, h3⟩ := m'.loc q e2
          exact ⟨_, rfl, ⟨_, .of h2⟩, k _ H' r' x m' (srcC h1)⟩
        · cases e1
      · cases e1
  rcases key with k | k | k
  · exact (pi_tup ha).run pins s σ H R I k
  · exact (pi_list ha).run pins s σ H R I k
  · exact (pi_str ha).run pins s σ H R I k
theorem rng_ln {K : PySem.W.Frag} {H : Hp} {r : Rg} {S : Sto} {lo hi : Int} {R : It → Hp → Prop} {src : Src} (m : Sim K ca H r S) (e : rngV lo hi = some src) (k : ∀ v H' r', Ext H r H' r' → Sim K ca H' r' S → SrcAt K ca H' r' src v → R v H') :
    (-(2 ^ 62) ≤ lo ∧ lo < 2 ^ 62 ∧ -(2 ^ 62) ≤ hi ∧ hi < 2 ^ 62) ∧ R (Itr lo (hi - lo).toNat) H := by
  unfold rngV at e
  split at e
  · rename_i hb
    cases e
    exact ⟨by omega, k _ H r (Ext.refl ..) m srcR⟩
  · cases e
theorem z_rng1 {a : Expr} {p pos : Pos} {ml : M (List D)} (hg : Gl X "range") (hm : X.mg "range" = none) (ha : PA X [a] (rA X.K ca W ml)) (hs : starEach [a] X.env = [(false, eval a X.env)]) : PI X tg (.Call (.Name "range" p) [a] [] pos) (rI X.K ca W (mRng rng1 ml)) :=
  PI.imp (pi_range1 hg hm ha hs) fun s H R ⟨sd, r, S, hs, m, h⟩ => ⟨sd, r, S, hs, m, h.bind fun d1 S1 v1 H1 r1 x1 m1 q1 h1 => by
    obtain ⟨src, e, k⟩ := lift_ln h1
    unfold rng1 at e
    split at e
    · cases q1 with
      | cons h hs =>
        cases hs; cases h
        obtain ⟨b, q⟩ := rng_ln m1 e k
        exact ⟨_, rfl, b.2.2.1, b.2.2.2, by rw [Int.sub_zero] at q; exact q⟩
    · cases e⟩
theorem z_rng2 {a b : Expr} {p pos : Pos} {ml : M (List D)} (hg : Gl X "range") (hm : X.mg "range" = none) (ha : PA X [a, b] (rA X.K ca W ml)) (hs : starEach [a, b] X.env = [(false, eval a X.env), (false, eval b X.env)]) (hs2 : starEach [b] X.env = [(false, eval b X.env)]) :
    PI X tg (.Call (.Name "range" p) [a, b] [] pos) (rI X.K ca W (mRng rng2 ml)) :=
  PI.imp (pi_range2 hg hm ha hs hs2) fun s H R ⟨sd, r, S, hs, m, h⟩ => ⟨sd, r, S, hs, m, h.bind fun d1 S1 v1 H1 r1 x1 m1 q1 h1 => by
    obtain ⟨src, e, k⟩ := lift_ln h1
    unfold rng2 at e
    split at e
    · cases q1 with
      | cons h hs =>
        cases hs with
        | cons h2 hs =>
          cases hs; cases h; cases h2
          obtain ⟨b, q⟩ := rng_ln m1 e k
          exact ⟨_, _, rfl, b, q⟩
    · cases e⟩
end

/-! ### targets -/
abbrev GM := D → Sl → Sto → Option (Sl × Sto)
def rG (K : PySem.W.Frag) (ca : Nat → Addr) (ts : List Nat) (g : GM) : TG := fun v s H Q => ∃ sd r S d sd' S', Slots K H r sd s ∧ Sim K ca H r S ∧ Rep K H r d v ∧ g d sd S = some (sd', S') ∧
  ∀ s' H' r', Ext H r H' r' → Sim K ca H' r' S' → Slots K H' r' sd' s' → (∀ j, j ∉ ts → s'[j]? = s[j]?) → s'.length = s.length → Q s' H'
def rGs (K : PySem.W.Frag) (ca : Nat → Addr) (ts : List Nat) (g : List D → Sl → Sto → Option (Sl × Sto)) : TGs := fun vs s H Q => ∃ sd r S ds sd' S', Slots K H r sd s ∧ Sim K ca H r S ∧ Reps K H r ds vs ∧ g ds sd S = some (sd', S') ∧
  ∀ s' H' r', Ext H r H' r' → Sim K ca H' r' S' → Slots K H' r' sd' s' → (∀ j, j ∉ ts → s'[j]? = s[j]?) → s'.length = s.length → Q s' H'
def gNm (i : Nat) : GM := fun d sd S => some (sd.set i (some d), S)
def gsNil : List D → Sl → Sto → Option (Sl × Sto) := fun ds sd S => match ds with
  | [] => some (sd, S)
  | _ => none
def gsCons (g : GM) (gs : List D → Sl → Sto → Option (Sl × Sto)) : List D → Sl → Sto → Option (Sl × Sto) := fun ds sd S => match ds with
  | d :: ds => match g d sd S with
    | some (sd1, S1) => gs ds sd1 S1
    | none => none
  | [] => none
def gTp (n : Nat) (gs : List D → Sl → Sto → Option (Sl × Sto)) : GM := fun d sd S => match d with
  | .tup ds => if ds.length = n then gs ds sd S else none
  | _ => none
section
variable {X : Cx} {ca : Nat → Addr}
theorem PG.imp {tg : Expr} {t t' : TG} (h : PG X tg t) (i : ∀ v s H Q, t' v s H Q → t v s H Q) : PG X tg t' := ⟨fun pins s σ H v u Q I rv w => h.run pins s σ H v u Q I rv (i v σ H Q w)⟩
theorem PGs.imp {tg : List Expr} {t t' : TGs} (h : PGs X tg t) (i : ∀ v s H Q, t' v s H Q → t v s H Q) : PGs X tg t' := ⟨fun pins s σ H v u Q I rv w => h.run pins s σ H v u Q I rv (i v σ H Q w)⟩
theorem z_gname {i : Nat} {x : Str} {pos : Pos} (h : PG X (.Name x pos) (gName i)) : PG X (.Name x pos) (rG X.K ca [i] (gNm i)) := PG.imp h fun v s H Q ⟨sd, r, S, d, sd', S', hs, m, q, e, k⟩ => by
  cases e
  refine k _ H r (Ext.refl ..) m (hs.set q) (fun j hj => ?_) (List.length_set ..)
  exact List.getElem?_set_ne (fun e => hj (by simp [e]))
theorem z_gsnil : PGs X [] (rGs X.K ca [] gsNil) := PGs.imp pgs_nil fun vs s H Q ⟨sd, r, S, ds, sd', S', hs, m, q, e, k⟩ => by
  unfold gsNil at e
  split at e
  · cases e
    exact ⟨q.nil_of, k _ H r (Ext.refl ..) m hs (fun _ _ => rfl) rfl⟩
  · cases e
theorem z_gscons {a : Expr} {es : List Expr} {ts us : List Nat} {g : GM} {gs : List D → Sl → Sto → Option (Sl × Sto)} (h1 : PG X a (rG X.K ca ts g)) (h2 : PGs X es (rGs X.K ca us gs))
    (hs : (assignEach (a :: es) X.env).map (·.2) = assign a X.env :: (assignEach es X.env).map (·.2)) : PGs X (a :: es) (rGs X.K ca (ts ++ us) (gsCons g gs)) := PGs.imp (pgs_cons h1 h2 hs) fun vs s H Q ⟨sd, r, S, ds, sd', S', hs, m, q, e, k⟩ => by
  unfold gsCons at e
  split at e
  · split at e
    · rename_i sd1 S1 e1
      cases q with
      | cons q1 q2 =>
        refine ⟨_, _, rfl, sd, r, S, _, sd1, S1, hs, m, q1, e1, fun s1 H1 r1 x1 m1 hs1 f1 l1 => ?_⟩
        refine ⟨sd1, r1, S1, _, sd', S', hs1, m1, q2.mono x1, e, fun s2 H2 r2 x2 m2 hs2 f2 l2 => ?_⟩
        exact k s2 H2 r2 (x1.trans x2) m2 hs2 (fun j hj => by rw [f2 j fun z => hj (by simp [z]), f1 j fun z => hj (by simp [z])]) (l2.trans l1)
    · cases e
  · cases e
theorem z_gtup {es : List Expr} {k n : Nat} {pos : Pos} {ts : List Nat} {gs : List D → Sl → Sto → Option (Sl × Sto)} (hc : X.calm = true) (h : PGs X es (rGs X.K ca ts gs)) (hn : (assignEach es X.env).length = n) (hst : (assignEach es X.env).findIdx? (·.1) = none) :
    PG X (.Tuple es k pos) (rG X.K ca ts (gTp n gs)) := PG.imp (pg_tup hc h hn hst) fun v s H Q ⟨sd, r, S, d, sd', S', hs, m, q, e, k⟩ => by
  unfold gTp at e
  split at e
  · split at e
    · rename_i hl
      cases q with
      | tup h1 s1 => exact ⟨_, _, rfl, h1, by rw [← s1.length]; exact hl, sd, r, S, _, sd', S', hs, m, s1, e, k⟩
    · cases e
  · cases e
end

/-! ### comprehensions -/
def wipeD (sd : Sl) : List Nat → Sl
  | [] => sd
  | v :: vs => (wipeD sd vs).set v none
theorem wipeD_len (sd : Sl) : ∀ vs : List Nat, (wipeD sd vs).length = sd.length
  | [] => rfl
  | v :: vs => by unfold wipeD; rw [List.length_set, wipeD_len sd vs]
theorem wipeD_get (sd : Sl) (j : Nat) : ∀ vs : List Nat, (wipeD sd vs)[j]? = if j ∈ vs then (sd[j]?).map fun _ => none else sd[j]?
  | [] => by simp [wipeD]
  | v :: vs => by
    unfold wipeD
    by_cases h : v = j
    · subst h
      rw [List.getElem?_set]
      simp only [wipeD_len, ↓reduceIte, List.mem_cons, true_or]
      by_cases hl : v < sd.length
      · simp [hl]
      · simp [hl]
    · rw [List.getElem?_set_ne h, wipeD_get sd j vs]
      have : (j ∈ v :: vs) ↔ j ∈ vs := by
        rw [List.mem_cons]
        exact ⟨fun z => z.elim (fun e => absurd e.symm h) id, .inr⟩
      simp only [this]
theorem wipe_get (s : St) (j : Nat) : ∀ vs : List Nat, (wipe s vs)[j]? = if j ∈ vs then (s[j]?).map fun _ => none else s[j]?
  | [] => by simp [wipe]
  | v :: vs => by
    unfold wipe
    by_cases h : v = j
    · subst h
      rw [List.getElem?_set]
      simp only [wipe_length, ↓reduceIte, List.mem_cons, true_or]
      by_cases hl : v < s.length
      · simp [hl]
      · simp [hl]
    · rw [List.getElem?_set_ne h, wipe_get s j vs]
      have : (j ∈ v :: vs) ↔ j ∈ vs := by
        rw [List.mem_cons]
        exact ⟨fun z => z.elim (fun e => absurd e.symm h) id, .inr⟩
      simp only [this]
theorem Slots.wipe {K : PySem.W.Frag} {H : Hp} {r : Rg} {sd : Sl} {s : St} (h : Slots K H r sd s) (vs : List Nat) : Slots K H r (wipeD sd vs) (L2.wipe s vs) := by
  refine ⟨by rw [wipeD_len, wipe_length]; exact h.len, fun i d q => ?_⟩
  rw [wipeD_get] at q
  split at q
  · cases e : sd[i]? with
    | none => rw [e] at q; cases q
    | some z => rw [e] at q; cases q
  · rename_i hi
    rw [wipe_get, if_neg hi]
    exact h.at_ i d q
theorem wipe_frame {s s2 : St} {vs ts : List Nat} (f : ∀ j, j ∉ ts → s2[j]? = (wipe s vs)[j]?) (hl : s2.length = (wipe s vs).length) (hts : ∀ t ∈ ts, t ∈ vs) : wipe s2 vs = wipe s vs := by
  refine List.ext_getElem? fun j => ?_
  rw [wipe_get, wipe_get]
  have hl' : s2.length = s.length := by rw [hl, wipe_length]
  split
  · by_cases h : j < s.length
    · rw [List.getElem?_eq_getElem h, List.getElem?_eq_getElem (by rw [hl']; exact h)]; rfl
    · rw [List.getElem?_eq_none (by omega), List.getElem?_eq_none (by omega)]
  · rename_i hj
    rw [f j fun z => hj (hts j z), wipe_get, if_neg hj]

def lcGo (src : Src) (g : GM) (c : M Bool) (e : M D) (sw : Sl) : Nat → Nat → List D → Sto → Out (List D)
  | 0, _, acc, S => if src.fin S then .ok acc S else .bad
  | k + 1, i, acc, S => match src.at S i with
    | none => .bad
    | some d => match g d sw S with
      | none => .bad
      | some (sd, S1) => match c sd S1 with
        | .ok true S2 => match e sd S2 with
          | .ok y S3 => if acc.length < 16777216 then lcGo src g c e sw k (i + 1) (acc ++ [y]) S3 else .bad
          | _ => .bad
        | .ok false S2 => lcGo src g c e sw k (i + 1) acc S2
        | _ => .bad
def mLcL (mi : M Src) (g : GM) (vs : List Nat) (c : M Bool) (e : M D) : M (List D) := fun sd S => (mi sd S).bind fun src S1 => lcGo src g c e (wipeD sd vs) src.len 0 [] S1
def mLc (mi : M Src) (g : GM) (vs : List Nat) (c : M Bool) (e : M D) : M D := fun sd S => (mLcL mi g vs c e sd S).bind fun acc S2 => .ok (.lst acc) S2
def mLcM (mi : M Src) (g : GM) (vs : List Nat) (c : M Bool) (e : M D) : M D := fun sd S => (mLcL mi g vs c e sd S).bind fun acc S2 => .ok (.loc S2.length) (S2 ++ [.lst acc])

theorem Ext.unhide {H H' : Hp} {r r' : Rg} (e : Ext H r H' r') (p : List Addr) : Ext H ⟨r.l, p⟩ H' ⟨r'.l, p⟩ := by
  obtain ⟨l, rfl, hl⟩ := e.more
  exact ⟨⟨l, rfl, hl⟩, e.keep, e.imm, e.there⟩
theorem Ext.chg {H H' : Hp} {r r' : Rg} {a : Addr} {o : HO} (e : Ext H r H' r') (ha : H a = none) : Ext H r (upd H' a o) r' := by
  have k : ∀ b u, H b = some u → b ≠ a := fun b u h z => by rw [z, ha] at h; cases h
  refine ⟨e.more, fun b u h hn => by rw [upd_ne (k b u h)]; exact e.keep b u h hn, fun b u h hi => by rw [upd_ne (k b u h)]; exact e.imm b u h hi, fun b h => ?_⟩
  by_cases z : b = a
  · subst z; rw [upd_same]; simp
  · rw [upd_ne z]; exact e.there b h

section
variable {X : Cx} {ca : Nat → Addr} {W : WX}
abbrev W0 : WX := fun _ _ _ _ => False
/-- the loop of a comprehension -/
theorem lc_loop {K : PySem.W.Frag} {mi : M Src} {g : GM} {vs ts : List Nat} {mc : M Bool} {me : M D} {fin : List D → Sto → Out D} {s : St} {H : Hp} {Q : VK} (hts : ∀ t ∈ ts, t ∈ vs)
    (hfin : ∀ H1 r1 H rh S acc accV p, rh.p = p :: r1.p → Ext H1 r1 H ⟨rh.l, r1.p⟩ → H1 p = none → Sim K ca H rh S → H p = some (.lst accV) → p ∉ rh.l → p ∉ r1.p → Reps K H rh acc accV → Ln K ca (rV K) H1 r1 (fin acc S) Q (fun c d H' => W c d s H') → Q (.ref p) H)
    (h : ∃ sd r S, Slots K H r sd s ∧ Sim K ca H r S ∧ Ln K ca (rV K) H r ((mLcL mi g vs mc me sd S).bind fin) Q (fun c d H' => W c d s H')) :
    tLc (rI K ca W mi) (rG K ca ts g) (rT K ca W0 mc) (rE K ca W0 me) vs s H Q := by
  obtain ⟨sd, r, S, hs, m, h⟩ := h
  have h' : Ln K ca (rV K) H r ((mi sd S).bind fun src S1 => (lcGo src g mc me (wipeD sd vs) src.len 0 [] S1).bind fin) Q (fun c d H' => W c d s H') := by
    unfold mLcL at h
    cases e : mi sd S <;> (rw [e] at h; exact h)
  refine ⟨sd, r, S, hs, m, h'.bind fun src S1 J H1 r1 x1 m1 hsrc h1 => ?_⟩
  intro p hp
  obtain ⟨P, stb, hP, turn⟩ := hsrc
  have hp1 : p ∉ r1.p := fun z => m1.prv p z hp
  have hl1 : p ∉ r1.l := fun z => m1.tracked z hp
  refine ⟨fun i k H => k = src.len - i ∧ i ≤ src.len ∧ ∃ rh S acc accV, rh.p = p :: r1.p ∧ Ext H1 r1 H ⟨rh.l, r1.p⟩ ∧ p ∉ rh.l ∧ H p = some (.lst accV) ∧ Sim K ca H rh S ∧ Reps K H rh acc accV ∧
      Slots K H rh (wipeD sd vs) (L2.wipe s vs) ∧ P H rh ∧ Ln K ca (rV K) H1 r1 ((lcGo src g mc me (wipeD sd vs) (src.len - i) i acc S).bind fin) Q (fun c d H' => W c d s H'),
    ⟨src.len, by simp, Nat.zero_le _, r1.hide p, S1, [], [], rfl, ⟨⟨[], by simp [Rg.hide], by simp⟩, (Ext.new (r := r1) hp).keep, (Ext.new (r := r1) hp).imm, (Ext.new (r := r1) hp).there⟩, hl1, upd_same, m1.hide hp, .nil, stb_slots.hide hp ((hs.mono x1).wipe vs), stb.hide hp hP, by simpa using h1⟩, ?_⟩
  rintro i k H ⟨rfl, hi, rh, S2, acc, accV, hrp, ex, hpl, hpa, m2, ha, hsl, hPH, hln⟩
  have hpm : p ∈ rh.p := by rw [hrp]; simp
  by_cases hlt : i < src.len
  · obtain ⟨j, hj⟩ : ∃ j, src.len - i = j + 1 := ⟨src.len - i - 1, by omega⟩
    rw [hj] at hln
    unfold lcGo at hln
    split at hln
    · exact hln.elim
    rename_i d ed
    split at hln
    · exact hln.elim
    rename_i sd1 S3 eg
    obtain ⟨go, yl⟩ := (turn H rh S2 hPH m2 i).1 d ed
    refine .inr ⟨go, fun H' => ∃ rh S acc accV, rh.p = p :: r1.p ∧ Ext H1 r1 H' ⟨rh.l, r1.p⟩ ∧ p ∉ rh.l ∧ H' p = some (.lst accV) ∧ Sim K ca H' rh S ∧ Reps K H' rh acc accV ∧
      Slots K H' rh (wipeD sd vs) (L2.wipe s vs) ∧ P H' rh ∧ Ln K ca (rV K) H1 r1 ((lcGo src g mc me (wipeD sd vs) (src.len - (i + 1)) (i + 1) acc S).bind fin) Q (fun c d H' => W c d s H'), fun H' w => ⟨src.len - (i + 1), by omega, rfl, hlt, w⟩, fun x H' y => ?_⟩
    have hj' : src.len - (i + 1) = j := by omega
    rw [hj']
    obtain ⟨x3, m3, q3⟩ := yl x H' y
    refine ⟨wipeD sd vs, rh, S2, d, sd1, S3, hsl.mono x3, m3, q3, eg, fun s4 H4 r4 x4 m4 hs4 f4 l4 => ⟨wipe_frame f4 l4 hts, ?_⟩⟩
    -- the test
    have x34 := x3.trans x4
    refine ⟨sd1, r4, S3, hs4, m4, ?_⟩
    cases ec : mc sd1 S3 with
    | bad => rw [ec] at hln; exact hln.elim
    | exc c fs S4 => rw [ec] at hln; exact hln.elim
    | ok b S4 =>
      rw [ec] at hln
      intro b' H5 r5 x5 m5 q5
      cases q5
      have x35 := x34.trans x5
      cases b with
      | false =>
        refine iteF ⟨r5, S4, acc, accV, by rw [x35.prv, hrp], ex.trans (x35.unhide _), x35.notin (ne_of_some hpa) hpl, x35.keep _ _ hpa hpl, m5, ha.mono x35, hsl.mono x35, stb.mono x35 hPH, hln⟩
      | true =>
        refine iteT ⟨sd1, r5, S4, hs4.mono x5, m5, ?_⟩
        cases ee : me sd1 S4 with
        | bad => simp only [ee] at hln; exact hln.elim
        | exc c fs S5 => simp only [ee] at hln; exact hln.elim
        | ok y S5 =>
          simp only [ee] at hln
          intro v H6 r6 x6 m6 q6
          have x36 := x35.trans x6
          split at hln
          · rename_i hz
            have hpa6 : H6 p = some (.lst accV) := x36.keep _ _ hpa hpl
            have hpm6 : p ∈ r6.p := by rw [x36.prv]; exact hpm
            have hpl6 : p ∉ r6.l := x36.notin (ne_of_some hpa) hpl
            have ha6 := ha.mono x36
            refine ⟨accV, hpa6, by rw [sizeLine_eq, ← ha6.length]; exact hz, r6, S5, acc ++ [y], accV ++ [v], by rw [x36.prv, hrp], (ex.trans (x36.unhide _)).chg hp, hpl6, upd_same, m6.chg ⟨_, hpa6, id⟩ hpm6 hpl6, (ha6.append (.cons q6 .nil)).chg ⟨_, hpa6, id⟩ hpm6,
              stb_slots.chg ⟨_, hpa6, id⟩ hpm6 (hsl.mono x36), stb.chg ⟨_, hpa6, id⟩ hpm6 (stb.mono x36 hPH), hln⟩
          · exact hln.elim
  · have e : i = src.len := by omega
    subst e
    rw [Nat.sub_self] at hln
    unfold lcGo at hln
    split at hln
    · rename_i hf
      refine .inl ⟨(turn H rh S2 hPH m2 _).2 rfl hf, ?_⟩
      exact hfin H1 r1 H rh S2 acc accV p hrp ex hp m2 hpa hpl hp1 ha hln
    · exact hln.elim
variable {elt tg iter : Expr} {ifs : List Expr} {scope : Scope} {own : List (Str × Nat)} {pos : Pos} {mi : M Src} {g : GM} {ts : List Nat} {mc : M Bool} {me : M D}
theorem mv_show {r1 rh : Rg} {p : Addr} (e : rh.p = p :: r1.p) : Mv rh ⟨rh.l, r1.p⟩ := ⟨fun _ _ h => h, fun a h1 h2 => ⟨h1, fun z => h2 (by rw [e]; exact List.mem_cons_of_mem _ z)⟩⟩
theorem mv_add {r1 rh : Rg} {p : Addr} (e : rh.p = p :: r1.p) : Mv rh ⟨rh.l ++ [p], r1.p⟩ := by
  refine ⟨fun n a h => ?_, fun a h1 h2 => ⟨fun z => ?_, fun z => h2 (by rw [e]; exact List.mem_cons_of_mem _ z)⟩⟩
  · show (rh.l ++ [p])[n]? = some a
    rw [List.getElem?_append_left (List.getElem?_eq_some_iff.mp h).1]; exact h
  · rcases List.mem_append.mp z with z | z
    · exact h1 z
    · simp at z; exact h2 (by rw [e, z]; simp)
theorem fin_val {K : PySem.W.Frag} {s : St} {Q : VK} (H1 : Hp) (r1 : Rg) (H : Hp) (rh : Rg) (S : Sto) (acc : List D) (accV : List V) (p : Addr) (e : rh.p = p :: r1.p) (ex : Ext H1 r1 H ⟨rh.l, r1.p⟩) (_ : H1 p = none) (m : Sim K ca H rh S) (hp : H p = some (.lst accV)) (hl : p ∉ rh.l) (hr : p ∉ r1.p) (ha : Reps K H rh acc accV)
    (h : Ln K ca (rV K) H1 r1 (.ok (.lst acc) S) Q (fun c d H' => W c d s H')) : Q (.ref p) H :=
  h _ H _ ex (m.move (mv_show e) rfl fun a ha => by rw [e]; exact List.mem_cons_of_mem _ ha) (.lst hp hl hr (ha.move (mv_show e)))
theorem fin_loc {K : PySem.W.Frag} {s : St} {Q : VK} (H1 : Hp) (r1 : Rg) (H : Hp) (rh : Rg) (S : Sto) (acc : List D) (accV : List V) (p : Addr) (e : rh.p = p :: r1.p) (ex : Ext H1 r1 H ⟨rh.l, r1.p⟩) (hn : H1 p = none) (m : Sim K ca H rh S) (hp : H p = some (.lst accV)) (hl : p ∉ rh.l) (hr : p ∉ r1.p) (ha : Reps K H rh acc accV)
    (h : Ln K ca (rV K) H1 r1 (.ok (.loc S.length) (S ++ [.lst acc])) Q (fun c d H' => W c d s H')) : Q (.ref p) H := by
  have hat : (rh.l ++ [p])[S.length]? = some p := by rw [← m.len, List.getElem?_append_right (Nat.le_refl _), Nat.sub_self]; rfl
  refine h _ H ⟨rh.l ++ [p], r1.p⟩ ?_ ?_ (.loc hat)
  · obtain ⟨l, e', hl'⟩ := ex.more
    refine ⟨⟨l ++ [p], ?_, fun a ha' => ?_⟩, ex.keep, ex.imm, ex.there⟩
    · have : rh.l = r1.l ++ l := by injection e'
      rw [this]; simp
    · rcases List.mem_append.mp ha' with z | z
      · exact hl' a z
      · simp at z; rw [z]; exact hn
  · refine ⟨by simp [m.len], List.nodup_append.mpr ⟨m.nd, by simp, fun a ha b hb => by simp at hb; subst hb; exact fun z => hl (z ▸ ha)⟩, fun n u hu => ?_, fun a ha => m.prv a (by rw [e]; exact List.mem_cons_of_mem _ ha)⟩
    by_cases hlt : n < S.length
    · rw [List.getElem?_append_left hlt] at hu
      obtain ⟨b, h1, h2⟩ := m.obj n u hu
      exact ⟨b, (mv_add e).at_ _ _ h1, h2.move (mv_add e)⟩
    · rw [List.getElem?_append_right (by omega)] at hu
      have hz : n - S.length = 0 := by
        have := (List.getElem?_eq_some_iff.mp hu).1
        simp at this; omega
      rw [hz] at hu
      simp at hu
      subst hu
      have hn' : n = S.length := by omega
      subst hn'
      exact ⟨p, hat, accV, hp, ha.move (mv_add e)⟩
theorem z_lc (hc : X.calm = true) (hN : X.N.Nodup) (hi : PI X tg iter (rI X.K ca W mi)) (ok : BlkOk X.N X.env.scope scope own) (hts : ∀ t ∈ ts, t ∈ own.map (·.2))
    (hg : ∀ (s : Shared) (H : Hp) (C : Addr) (cl : List (Str × Addr)) (fp : List Addr), PG (X.blk s H scope (compEnvC scope cl C X.env) fp) tg (rG X.K ca ts g)) (ht : ∀ (s : Shared) (H : Hp) (C : Addr) (cl : List (Str × Addr)) (fp : List Addr), PTs (X.blk s H scope (compEnvC scope cl C X.env) fp) ifs (rT X.K ca W0 mc))
    (he : ∀ (s : Shared) (H : Hp) (C : Addr) (cl : List (Str × Addr)) (fp : List Addr), PE (X.blk s H scope (compEnvC scope cl C X.env) fp) elt (rE X.K ca W0 me)) (hs : ∀ x, foldedSetIterable iter X.env x = pure x) :
    PE X (.ListComp elt [⟨tg, iter, ifs, 0⟩] scope pos) (rE X.K ca W (mLc mi g (own.map (·.2)) mc me)) := PE.imp (pe_lc hc hN hi ok hg ht he hs) fun s H Q h => lc_loop hts fin_val h
theorem z_lcM (hc : X.calm = true) (hN : X.N.Nodup) (hi : PI X tg iter (rI X.K ca W mi)) (ok : BlkOk X.N X.env.scope scope own) (hts : ∀ t ∈ ts, t ∈ own.map (·.2))
    (hg : ∀ (s : Shared) (H : Hp) (C : Addr) (cl : List (Str × Addr)) (fp : List Addr), PG (X.blk s H scope (compEnvC scope cl C X.env) fp) tg (rG X.K ca ts g)) (ht : ∀ (s : Shared) (H : Hp) (C : Addr) (cl : List (Str × Addr)) (fp : List Addr), PTs (X.blk s H scope (compEnvC scope cl C X.env) fp) ifs (rT X.K ca W0 mc))
    (he : ∀ (s : Shared) (H : Hp) (C : Addr) (cl : List (Str × Addr)) (fp : List Addr), PE (X.blk s H scope (compEnvC scope cl C X.env) fp) elt (rE X.K ca W0 me)) (hs : ∀ x, foldedSetIterable iter X.env x = pure x) :
    PE X (.ListComp elt [⟨tg, iter, ifs, 0⟩] scope pos) (rE X.K ca W (mLcM mi g (own.map (·.2)) mc me)) := PE.imp (pe_lc hc hN hi ok hg ht he hs) fun s H Q h => lc_loop hts fin_loc h
end
end Z

/-! Z layer, part H: statements. -/
namespace Z
open PySem PySem.Spec PyProof.Rows L2

inductive Fl where
  | nx | rt (d : D) | bk | ct
inductive OutS where
  | ok (f : Fl) (sd : Sl) (S : Sto)
  | exc (c : Nat) (fs : XF) (sd : Sl) (S : Sto)
  | bad
abbrev MS := Sl → Sto → OutS
def Out.toS {T : Type} (o : Out T) (sd : Sl) (f : T → Sto → OutS) : OutS := match o with
  | .ok a S => f a S
  | .exc c fs S => .exc c fs sd S
  | .bad => .bad

section
variable (K : PySem.W.Frag) (ca : Nat → Addr)
def LnS (H : Hp) (r : Rg) (o : OutS) (D : Ends) (W : WX) : Prop := match o with
  | .ok .nx sd S => ∀ s H' r', Ext H r H' r' → Sim K ca H' r' S → Slots K H' r' sd s → D.nx s H'
  | .ok .bk sd S => ∀ s H' r', Ext H r H' r' → Sim K ca H' r' S → Slots K H' r' sd s → D.bk s H'
  | .ok .ct sd S => ∀ s H' r', Ext H r H' r' → Sim K ca H' r' S → Slots K H' r' sd s → D.ct s H'
  | .ok (.rt d) _ S => ∀ v H' r', Ext H r H' r' → Sim K ca H' r' S → Rep K H' r' d v → D.rt v H'
  | .exc c fs sd S => ∀ cls d s H' r', Ext H r H' r' → Sim K ca H' r' S → Slots K H' r' sd s → XRep K ca H' r' c fs cls d → W cls d s H'
  | .bad => False
def rS (W : WX) (m : MS) : TS := fun D s H => ∃ sd r S, Slots K H r sd s ∧ Sim K ca H r S ∧ LnS K ca H r (m sd S) D W
end
section
variable {K : PySem.W.Frag} {ca : Nat → Addr} {H H1 : Hp} {r r1 : Rg} {D : Ends} {W : WX}
theorem LnS.ext {o : OutS} (e : Ext H r H1 r1) (h : LnS K ca H r o D W) : LnS K ca H1 r1 o D W := by
  cases o with
  | ok f sd S => cases f with
    | nx => exact fun s H' r' x => h s H' r' (e.trans x)
    | bk => exact fun s H' r' x => h s H' r' (e.trans x)
    | ct => exact fun s H' r' x => h s H' r' (e.trans x)
    | rt d => exact fun s H' r' x => h s H' r' (e.trans x)
  | exc c fs sd S => exact fun cls d s H' r' x => h cls d s H' r' (e.trans x)
  | bad => exact h
theorem LnS.bindE {T A : Type} {R : RR T A} {o : Out T} {sd : Sl} {s : St} {f : T → Sto → OutS} {Q1 : A → Hp → Prop} (hs : Slots K H r sd s) (h : LnS K ca H r (o.toS sd f) D W)
    (k : ∀ d S v H1 r1, Ext H r H1 r1 → Sim K ca H1 r1 S → R H1 r1 d v → LnS K ca H1 r1 (f d S) D W → Q1 v H1) : Ln K ca R H r o Q1 (fun c d H' => W c d s H') := by
  cases o with
  | ok d S => exact fun v H' r' x m q => k d S v H' r' x m q (LnS.ext x h)
  | exc c fs S => exact fun cls d H' r' x m q => h cls d s H' r' x m (hs.mono x) q
  | bad => exact h
theorem LnS.nx_ {sd : Sl} {S : Sto} {s : St} (h : LnS K ca H r (.ok .nx sd S) D W) (m : Sim K ca H r S) (hs : Slots K H r sd s) : D.nx s H := h s H r (Ext.refl ..) m hs
end

def mSkip : MS := fun sd S => .ok .nx sd S
def mThen (a b : MS) : MS := fun sd S => match a sd S with
  | .ok .nx sd1 S1 => b sd1 S1
  | o => o
def mExpr (a : M D) : MS := fun sd S => (a sd S).toS sd fun _ S1 => .ok .nx sd S1
def mRet (a : M D) : MS := fun sd S => (a sd S).toS sd fun d S1 => .ok (.rt d) sd S1
def mRetN : MS := fun sd S => .ok (.rt .non) sd S
def mAsg (a : M D) (g : GM) : MS := fun sd S => (a sd S).toS sd fun d S1 => match g d sd S1 with
  | some (sd2, S2) => .ok .nx sd2 S2
  | none => .bad
def mAug (i : Nat) (f : Sto → D → D → Option D) (a : M D) : MS := fun sd S => match sd[i]? with
  | some (some x) => (a sd S).toS sd fun y S1 => match f S1 x y with
    | some z => .ok .nx (sd.set i (some z)) S1
    | none => .bad
  | _ => .bad
def mIte (c : M Bool) (a b : MS) : MS := fun sd S => (c sd S).toS sd fun k S1 => if k then a sd S1 else b sd S1
def mBrk : MS := fun sd S => .ok .bk sd S
def mCnt : MS := fun sd S => .ok .ct sd S
def forGo (src : Src) (g : GM) (b : MS) : Nat → Nat → Sl → Sto → OutS
  | 0, _, sd, S => if src.fin S then .ok .nx sd S else .bad
  | k + 1, i, sd, S => match src.at S i with
    | none => .bad
    | some d => match g d sd S with
      | none => .bad
      | some (sd1, S1) => match b sd1 S1 with
        | .ok .nx sd2 S2 => forGo src g b k (i + 1) sd2 S2
        | .ok .ct sd2 S2 => forGo src g b k (i + 1) sd2 S2
        | .ok .bk sd2 S2 => .ok .nx sd2 S2
        | .ok (.rt d) sd2 S2 => .ok (.rt d) sd2 S2
        | .exc c fs sd2 S2 => .exc c fs sd2 S2
        | .bad => .bad
def mFor (mi : M Src) (g : GM) (b : MS) : MS := fun sd S => (mi sd S).toS sd fun src S1 => forGo src g b src.len 0 sd S1
def whGo (c : M Bool) (b : MS) : Nat → Sl → Sto → OutS
  | 0, _, _ => .bad
  | k + 1, sd, S => (c sd S).toS sd fun t S1 => if t then match b sd S1 with
      | .ok .nx sd2 S2 => whGo c b k sd2 S2
      | .ok .ct sd2 S2 => whGo c b k sd2 S2
      | .ok .bk sd2 S2 => .ok .nx sd2 S2
      | .ok (.rt d) sd2 S2 => .ok (.rt d) sd2 S2
      | .exc c fs sd2 S2 => .exc c fs sd2 S2
      | .bad => .bad
    else .ok .nx sd S1

section
variable {X : Cx} {ca : Nat → Addr} {W : WX} {pos : Pos}
theorem PS.imp {e : Stmt} {t t' : TS} (h : PS X e t) (i : ∀ D s H, t' D s H → t D s H) : PS X e t' := ⟨fun pins s σ H D I w => h.run pins s σ H D I (i D σ H w)⟩
theorem PSs.imp {e : List Stmt} {t t' : TS} (h : PSs X e t) (i : ∀ D s H, t' D s H → t D s H) : PSs X e t' := ⟨fun pins s σ H D I w => h.run pins s σ H D I (i D σ H w)⟩
theorem s_nil : PSs X [] (rS X.K ca W mSkip) := PSs.imp pss_nil fun D s H ⟨sd, r, S, hs, m, h⟩ => h.nx_ m hs
theorem s_cons {a : Stmt} {es : List Stmt} {m1 m2 : MS} (h1 : PS X a (rS X.K ca W m1)) (h2 : PSs X es (rS X.K ca W m2)) : PSs X (a :: es) (rS X.K ca W (mThen m1 m2)) := PSs.imp (pss_cons h1 h2) fun D s H ⟨sd, r, S, hs, m, h⟩ => by
  refine ⟨sd, r, S, hs, m, ?_⟩
  unfold mThen at h
  cases e : m1 sd S with
  | bad => rw [e] at h; exact h.elim
  | exc c fs sd1 S1 => rw [e] at h; exact h
  | ok f sd1 S1 =>
    rw [e] at h
    cases f with
    | nx => exact fun s' H' r' x m' q => ⟨sd1, r', S1, q, m', LnS.ext x h⟩
    | bk => exact h
    | ct => exact h
    | rt d => exact h
theorem s_expr {a : Expr} {ma : M D} (ha : PE X a (rE X.K ca W ma)) (hs : swapsWith a none pos.line X.env = pure false) : PS X (.Expr a pos) (rS X.K ca W (mExpr ma)) := PS.imp (ps_expr ha hs) fun D s H ⟨sd, r, S, hs, m, h⟩ =>
  ⟨sd, r, S, hs, m, LnS.bindE hs h fun d S1 v H1 r1 x1 m1 q1 h1 => h1.nx_ m1 (hs.mono x1)⟩
theorem s_doc {x : Str} {j : Nat} {p : Pos} : PS X (.Expr (.Constant (.str x) j p) pos) (rS X.K ca W mSkip) := PS.imp ps_doc fun D s H ⟨sd, r, S, hs, m, h⟩ => h.nx_ m hs
theorem s_pass : PS X (.Pass pos) (rS X.K ca W mSkip) := PS.imp ps_pass fun D s H ⟨sd, r, S, hs, m, h⟩ => h.nx_ m hs
theorem s_brk : PS X (.Break pos) (rS X.K ca W mBrk) := PS.imp ps_break fun D s H ⟨sd, r, S, hs, m, h⟩ => h s H r (Ext.refl ..) m hs
theorem s_cnt : PS X (.Continue pos) (rS X.K ca W mCnt) := PS.imp ps_continue fun D s H ⟨sd, r, S, hs, m, h⟩ => h s H r (Ext.refl ..) m hs
theorem s_ret {a : Expr} {ma : M D} (ha : PE X a (rE X.K ca W ma)) : PS X (.Return (some a) pos) (rS X.K ca W (mRet ma)) := PS.imp (ps_ret ha) fun D s H ⟨sd, r, S, hs, m, h⟩ =>
  ⟨sd, r, S, hs, m, LnS.bindE hs h fun d S1 v H1 r1 x1 m1 q1 h1 => h1 v H1 r1 (Ext.refl ..) m1 q1⟩
theorem s_retN : PS X (.Return none pos) (rS X.K ca W mRetN) := PS.imp ps_retN fun D s H ⟨sd, r, S, hs, m, h⟩ => h .non H r (Ext.refl ..) m .non
theorem asg_in {K : PySem.W.Frag} {ma : M D} {g : GM} {ts : List Nat} {D : Ends} {s : St} {sd : Sl} {H : Hp} {r : Rg} {S : Sto} (hs : Slots K H r sd s) (m : Sim K ca H r S) (h : LnS K ca H r (mAsg ma g sd S) D W) : tAsg (rE K ca W ma) (rG K ca ts g) D s H :=
  ⟨sd, r, S, hs, m, LnS.bindE hs h fun d S1 v H1 r1 x1 m1 q1 h1 => by
    split at h1
    · rename_i sd2 S2 e
      exact ⟨sd, r1, S1, d, sd2, S2, hs.mono x1, m1, q1, e, fun s' H' r' x m' hs' _ _ => h1 s' H' r' x m' hs'⟩
    · exact h1.elim⟩
theorem s_asg {tg a : Expr} {ma : M D} {g : GM} {ts : List Nat} (ha : PE X a (rE X.K ca W ma)) (hg : PG X tg (rG X.K ca ts g)) (hs : swapsWithSole [tg] a pos.line X.env = pure false) (hw : swappedStores [tg] a X.env = pure none)
    (h1 : (assignEach [tg] X.env).map (·.2) = [assign tg X.env]) : PS X (.Assign [tg] a pos) (rS X.K ca W (mAsg ma g)) := PS.imp (ps_asg ha hg hs hw h1) fun D s H ⟨sd, r, S, hs, m, h⟩ => asg_in hs m h
theorem s_aug {i : Nat} {x : Str} {a : Expr} {ma : M D} {op : Operator} {R : R2} {f : Sto → D → D → Option D} {p : Pos} (hN : X.N.Nodup) (hi : X.N[i]? = some x) (hx : Loc X.env.scope x) (ha : PE X a (rE X.K ca W ma)) (ho : OpR X (inplaceOp op) R) (hz : OpZ X.K ca R f)
    (hf : X.fn x = true ∨ X.env.scope.names.lookup x = some .local) : PS X (.AugAssign (.Name x p) op a pos) (rS X.K ca W (mAug i f ma)) := PS.imp (ps_aug hN hi hx ha ho hf) fun D s H ⟨sd, r, S, hs, m, h⟩ => by
  unfold mAug at h
  split at h
  · rename_i d e
    obtain ⟨v, h1, h2⟩ := hs.at_ i d e
    refine ⟨v, h1, sd, r, S, hs, m, LnS.bindE hs h fun y S1 u H1 r1 x1 m1 q1 h3 => ?_⟩
    split at h3
    · rename_i z e2
      exact hz m1 (h2.mono x1) q1 e2 fun w H' x' m' q' => h3 _ H' r1 x' m' (((hs.mono x1).mono x').set q')
    · exact h3.elim
  · exact h.elim
theorem s_ite {c : Expr} {a b : List Stmt} {mc : M Bool} {m1 m2 : MS} (hc : PT X c (rT X.K ca W mc)) (ha : PSs X a (rS X.K ca W m1)) (hb : PSs X b (rS X.K ca W m2)) : PS X (.If c a b pos) (rS X.K ca W (mIte mc m1 m2)) := PS.imp (ps_if hc ha hb) fun D s H ⟨sd, r, S, hs, m, h⟩ =>
  ⟨sd, r, S, hs, m, LnS.bindE hs h fun d S1 v H1 r1 x1 m1 q1 h1 => by
    cases q1
    cases d with
    | true => exact iteT ⟨sd, r1, S1, hs.mono x1, m1, h1⟩
    | false => exact iteF ⟨sd, r1, S1, hs.mono x1, m1, h1⟩⟩
theorem s_for {tg iter : Expr} {body : List Stmt} {mi : M Src} {g : GM} {ts : List Nat} {mb : MS} (hp : PassesOwn (model X.prog X.w) X.A X.env X.xe) (hc : X.calm = true) (hi : PI X tg iter (rI X.K ca W mi)) (hg : PG X tg (rG X.K ca ts g)) (hb : PSs X body (rS X.K ca W mb))
    (hs : ∀ x, foldedSetIterable iter X.env x = pure x) : PS X (.For tg iter body [] pos) (rS X.K ca W (mFor mi g mb)) := PS.imp (ps_for hp hc hi hg hb hs) fun D s H ⟨sd, r, S, hs, m, h⟩ =>
  ⟨sd, r, S, hs, m, LnS.bindE hs h fun src S1 J H1 r1 x1 m1 hsrc h1 => by
    obtain ⟨P, stb, hP, turn⟩ := hsrc
    refine ⟨fun i k s H => k = src.len - i ∧ i ≤ src.len ∧ ∃ sd r S, Slots X.K H r sd s ∧ Sim X.K ca H r S ∧ P H r ∧ LnS X.K ca H r (forGo src g mb (src.len - i) i sd S) D W, ⟨src.len, by simp, Nat.zero_le _, sd, r1, S1, hs.mono x1, m1, hP, by simpa using h1⟩, ?_⟩
    rintro i k s2 H2 ⟨rfl, hi, sd2, r2, S2, hs2, m2, hP2, h2⟩
    by_cases hlt : i < src.len
    · obtain ⟨j, hj⟩ : ∃ j, src.len - i = j + 1 := ⟨src.len - i - 1, by omega⟩
      rw [hj] at h2
      unfold forGo at h2
      split at h2
      · exact h2.elim
      rename_i d ed
      split at h2
      · exact h2.elim
      rename_i sd3 S3 eg
      obtain ⟨go, yl⟩ := (turn H2 r2 S2 hP2 m2 i).1 d ed
      refine .inr ⟨go, fun s' H' => ∃ sd r S, Slots X.K H' r sd s' ∧ Sim X.K ca H' r S ∧ P H' r ∧ LnS X.K ca H' r (forGo src g mb (src.len - (i + 1)) (i + 1) sd S) D W, fun s' H' w => ⟨src.len - (i + 1), by omega, rfl, hlt, w⟩, fun x H' y => ?_⟩
      have hj' : src.len - (i + 1) = j := by omega
      rw [hj']
      obtain ⟨x3, m3, q3⟩ := yl x H' y
      refine ⟨sd2, r2, S2, d, sd3, S3, hs2.mono x3, m3, q3, eg, fun s4 H4 r4 x4 m4 hs4 f4 l4 => ⟨sd3, r4, S3, hs4, m4, ?_⟩⟩
      have x34 := x3.trans x4
      cases eb : mb sd3 S3 with
      | bad => rw [eb] at h2; exact h2.elim
      | exc c fs sd5 S5 => rw [eb] at h2; exact LnS.ext x34 h2
      | ok f sd5 S5 =>
        rw [eb] at h2
        cases f with
        | nx => exact fun s5 H5 r5 x5 m5 hs5 => ⟨sd5, r5, S5, hs5, m5, stb.mono (x34.trans x5) hP2, LnS.ext (x34.trans x5) h2⟩
        | ct => exact fun s5 H5 r5 x5 m5 hs5 => ⟨sd5, r5, S5, hs5, m5, stb.mono (x34.trans x5) hP2, LnS.ext (x34.trans x5) h2⟩
        | bk => exact fun s5 H5 r5 x5 m5 hs5 => h2 s5 H5 r5 (x34.trans x5) m5 hs5
        | rt d => exact fun v H5 r5 x5 m5 q5 => h2 v H5 r5 (x34.trans x5) m5 q5
    · have e : i = src.len := by omega
      subst e
      rw [Nat.sub_self] at h2
      unfold forGo at h2
      split at h2
      · rename_i hf
        exact .inl ⟨(turn H2 r2 S2 hP2 m2 _).2 rfl hf, h2.nx_ m2 hs2⟩
      · exact h2.elim⟩
theorem s_whl {c : Expr} {body : List Stmt} {mc : M Bool} {mb : MS} {k : Nat} (hp : PassesOwn (model X.prog X.w) X.A X.env X.xe) (hc : PT X c (rT X.K ca W mc)) (hb : PSs X body (rS X.K ca W mb)) :
    PS X (.While c body [] pos) (rS X.K ca W (whGo mc mb k)) := PS.imp (ps_while hp hc hb) fun D s H ⟨sd, r, S, hs, m, h⟩ => by
  refine ⟨fun k s H => ∃ sd r S, Slots X.K H r sd s ∧ Sim X.K ca H r S ∧ LnS X.K ca H r (whGo mc mb k sd S) D W, ⟨k, sd, r, S, hs, m, h⟩, ?_⟩
  rintro k s2 H2 ⟨sd2, r2, S2, hs2, m2, h2⟩
  cases k with
  | zero => exact h2.elim
  | succ k =>
    unfold whGo at h2
    refine ⟨sd2, r2, S2, hs2, m2, LnS.bindE hs2 h2 fun t S3 v H3 r3 x3 m3 q3 h3 => ?_⟩
    cases q3
    cases t with
    | false => exact iteF (h3.nx_ m3 (hs2.mono x3))
    | true =>
      refine iteT ⟨fun s' H' => ∃ sd r S, Slots X.K H' r sd s' ∧ Sim X.K ca H' r S ∧ LnS X.K ca H' r (whGo mc mb k sd S) D W, fun s' H' w => ⟨k, Nat.lt_succ_self _, w⟩, sd2, r3, S3, hs2.mono x3, m3, ?_⟩
      simp only [↓reduceIte] at h3
      cases eb : mb sd2 S3 with
      | bad => rw [eb] at h3; exact h3.elim
      | exc c fs sd5 S5 => rw [eb] at h3; exact h3
      | ok f sd5 S5 =>
        rw [eb] at h3
        cases f with
        | nx => exact fun s5 H5 r5 x5 m5 hs5 => ⟨sd5, r5, S5, hs5, m5, LnS.ext x5 h3⟩
        | ct => exact fun s5 H5 r5 x5 m5 hs5 => ⟨sd5, r5, S5, hs5, m5, LnS.ext x5 h3⟩
        | bk => exact fun s5 H5 r5 x5 m5 hs5 => h3 s5 H5 r5 x5 m5 hs5
        | rt d => exact fun v H5 r5 x5 m5 q5 => h3 v H5 r5 x5 m5 q5
end
end Z

/-! Z layer, part I: assignments of other forms, list methods, calls of defs. -/
namespace Z
open PySem PySem.Spec PyProof.Rows L2

/-! ### o[i] = v -/
def gSubM (mo mi : M D) : GM := fun d sd S => match mo sd S with
  | .ok (.loc n) S1 => match mi sd S1 with
    | .ok (.int k) S2 => match S2[n]? with
      | some (.lst xs) => match ixN xs.length k with
        | some j => some (sd, S2.set n (.lst (xs.set j d)))
        | none => none
      | _ => none
    | _ => none
  | _ => none
section
variable {X : Cx} {ca : Nat → Addr} {W : WX} {pos : Pos}
theorem z_gsub {o i : Expr} {mo mi : M D} (ho : PE X o (rE X.K ca W mo)) (hi : PE X i (rE X.K ca W mi))
    (ha : ∀ v, assign (.Subscript o i pos) X.env v = (do
      let ov ← holding [v] (eval o X.env)
      let iv ← holding [v, ov] (eval i X.env)
      standAt pos
      holding [v, ov, iv] (setItem ov iv v)
      release [v, ov, iv] [])) : PG X (.Subscript o i pos) (rG X.K ca [] (gSubM mo mi)) := PG.imp (pg_sub ho hi set_list ha) fun v s H Q ⟨sd, r, S, d, sd', S', hs, m, q, e, k⟩ => by
  unfold gSubM at e
  split at e
  · rename_i n S1 e1
    split at e
    · rename_i ki S2 e2
      split at e
      · rename_i xs e3
        split at e
        · rename_i j e4
          cases e
          refine ⟨sd, r, S, hs, m, ?_⟩
          rw [e1]
          intro v1 H1 r1 x1 m1 q1
          refine ⟨sd, r1, S1, hs.mono x1, m1, ?_⟩
          rw [e2]
          intro v2 H2 r2 x2 m2 q2
          cases q2
          obtain ⟨a, rfl, h1, vs, h2, h3⟩ := m2.loc (q1.mono x2) e3
          refine ⟨a, vs, ki, j, rfl, rfl, h2, by rw [← h3.length]; exact e4, ?_⟩
          have ex : Ext H2 r2 (upd H2 a (.lst (vs.set j v))) r2 := m2.writeExt h1
          have q' := q.mono (x1.trans x2)
          refine k s _ r2 ((x1.trans x2).trans ex) (m2.write h1 ⟨vs.set j v, upd_same, (h3.mono ex).set (q'.mono ex) j⟩) ((hs.mono (x1.trans x2)).mono ex) (fun _ _ => rfl) rfl
        · cases e
      · cases e
    · cases e
  · cases e
end

/-! ### xs.append(y), xs.extend(ys) -/
def mApp (o : M D) (a : M (List D)) : M D := fun sd S => (o sd S).bind fun x S1 => match x with
  | .loc n => match S1[n]? with
    | some (.lst _) => (a sd S1).bind fun ys S2 => match ys, S2[n]? with
      | [y], some (.lst xs) => if xs.length < 16777216 then .ok .non (S2.set n (.lst (xs ++ [y]))) else .bad
      | _, _ => .bad
    | _ => .bad
  | _ => .bad
def mExt (o : M D) (a : M (List D)) : M D := fun sd S => (o sd S).bind fun x S1 => match x with
  | .loc n => match S1[n]? with
    | some (.lst _) => (a sd S1).bind fun ys S2 => match ys, S2[n]? with
      | [y], some (.lst xs) => match asL S2 y with
        | some zs => if xs.length + zs.length ≤ 16777216 then .ok .non (S2.set n (.lst (xs ++ zs))) else .bad
        | none => .bad
      | _, _ => .bad
    | _ => .bad
  | _ => .bad
section
variable {X : Cx} {ca : Nat → Addr} {W : WX}
theorem app_in {K : PySem.W.Frag} {mo : M D} {ml : M (List D)} {s : St} {H : Hp} {Q : VK} (h : rE K ca W (mApp mo ml) s H Q) : tBM K "list" rAppend (rE K ca W mo) (rA K ca W ml) s H Q := by
  obtain ⟨sd, r, S, hs, m, h⟩ := h
  refine ⟨sd, r, S, hs, m, h.bind fun d1 S1 v1 H1 r1 x1 m1 q1 h1 => ?_⟩
  split at h1
  · rename_i n
    split at h1
    · rename_i xs0 e0
      obtain ⟨a, rfl, ha, vs0, hv0, _⟩ := m1.loc q1 e0
      refine ⟨.inl ⟨rfl, vs0, .of hv0⟩, sd, r1, S1, hs.mono x1, m1, h1.bind fun ys S2 vs H2 r2 x2 m2 q2 h2 => ?_⟩
      split at h2
      · rename_i y xs e2
        split at h2
        · rename_i hl
          obtain ⟨b, hb, hb2, us, hu, hru⟩ := m2.loc (q1.mono x2) e2
          cases hb
          cases q2 with
          | @cons _ _ vy _ qy qn =>
            cases qn
            refine ⟨a, us, vy, rfl, rfl, hu, by rw [sizeLine_eq, ← hru.length]; exact hl, ?_⟩
            have ex := m2.writeExt (o := .lst (us ++ [vy])) hb2
            exact h2 _ _ r2 ex (m2.write hb2 ⟨_, upd_same, (hru.mono ex).append (.cons (qy.mono ex) .nil)⟩) .non
        · exact h2.elim
      · exact h2.elim
    · exact h1.elim
  · exact h1.elim
theorem ext_in {K : PySem.W.Frag} {mo : M D} {ml : M (List D)} {s : St} {H : Hp} {Q : VK} (h : rE K ca W (mExt mo ml) s H Q) : tBM K "list" rExtend (rE K ca W mo) (rA K ca W ml) s H Q := by
  obtain ⟨sd, r, S, hs, m, h⟩ := h
  refine ⟨sd, r, S, hs, m, h.bind fun d1 S1 v1 H1 r1 x1 m1 q1 h1 => ?_⟩
  split at h1
  · rename_i n
    split at h1
    · rename_i xs0 e0
      obtain ⟨a, rfl, ha, vs0, hv0, _⟩ := m1.loc q1 e0
      refine ⟨.inl ⟨rfl, vs0, .of hv0⟩, sd, r1, S1, hs.mono x1, m1, h1.bind fun ys S2 vs H2 r2 x2 m2 q2 h2 => ?_⟩
      split at h2
      · rename_i y xs e2
        split at h2
        · rename_i zs e3
          split at h2
          · rename_i hl
            obtain ⟨b, hb, hb2, us, hu, hru⟩ := m2.loc (q1.mono x2) e2
            cases hb
            cases q2 with
            | cons qy qn =>
              cases qn
              obtain ⟨c, ws, rfl, hc, hrw⟩ := asL_rep m2 qy e3
              refine ⟨a, c, us, ws, rfl, rfl, hu, hc, by rw [sizeLine_eq, ← hru.length, ← hrw.length]; exact hl, ?_⟩
              have ex := m2.writeExt (o := .lst (us ++ ws)) hb2
              exact h2 _ _ r2 ex (m2.write hb2 ⟨_, upd_same, (hru.mono ex).append (hrw.mono ex)⟩) .non
          · exact h2.elim
        · exact h2.elim
      · exact h2.elim
    · exact h1.elim
  · exact h1.elim
end

/-! ### y = [..]; a, b = x, y -/
def mPar (is : List Nat) (a : M (List D)) : MS := fun sd S => (a sd S).toS sd fun ds S1 => match is, ds with
  | [i, j], [x, y] => .ok .nx ((sd.set i (some x)).set j (some y)) S1
  | [i, j, l], [x, y, z] => .ok .nx (((sd.set i (some x)).set j (some y)).set l (some z)) S1
  | _, _ => .bad
section
variable {X : Cx} {ca : Nat → Addr} {W : WX} {pos : Pos}
theorem par_in {K : PySem.W.Frag} {i j : Nat} {ml : M (List D)} {D : Ends} {s : St} {H : Hp} (h : rS K ca W (mPar [i, j] ml) D s H) : tPar i j (rA K ca W ml) D s H := by
  obtain ⟨sd, r, S, hs, m, h⟩ := h
  refine ⟨sd, r, S, hs, m, LnS.bindE hs h fun ds S1 vs H1 r1 x1 m1 q1 h1 => ?_⟩
  split at h1
  · rename_i i' j' x y e1
    cases e1
    cases q1 with
    | cons qx q =>
      cases q with
      | cons qy q =>
        cases q
        exact ⟨_, _, rfl, h1.nx_ m1 (((hs.mono x1).set qx).set qy)⟩
  · rename_i e1; cases e1
  · exact h1.elim
theorem par3_in {K : PySem.W.Frag} {i j l : Nat} {ml : M (List D)} {D : Ends} {s : St} {H : Hp} (h : rS K ca W (mPar [i, j, l] ml) D s H) : tPar3 i j l (rA K ca W ml) D s H := by
  obtain ⟨sd, r, S, hs, m, h⟩ := h
  refine ⟨sd, r, S, hs, m, LnS.bindE hs h fun ds S1 vs H1 r1 x1 m1 q1 h1 => ?_⟩
  split at h1
  · rename_i e1; cases e1
  · rename_i i' j' l' x y z e1
    cases e1
    cases q1 with
    | cons qx q =>
      cases q with
      | cons qy q =>
        cases q with
        | cons qz q =>
          cases q
          exact ⟨_, _, _, rfl, h1.nx_ m1 ((((hs.mono x1).set qx).set qy).set qz)⟩
  · exact h1.elim
variable {elt tg iter : Expr} {ifs : List Expr} {scope : Scope} {own : List (Str × Nat)} {mi : M Src} {g : GM} {ts : List Nat} {mc : M Bool} {me : M D} {i : Nat} {y : Str} {py spos : Pos}
theorem setLc_in {K : PySem.W.Frag} {vs : List Nat} {fin : List D → Sto → Out D} (hts : ∀ t ∈ ts, t ∈ vs) {D : Ends} {s : St} {H : Hp}
    (hfin : ∀ (Q : VK) H1 r1 H rh S acc accV p, rh.p = p :: r1.p → Ext H1 r1 H ⟨rh.l, r1.p⟩ → H1 p = none → Sim K ca H rh S → H p = some (.lst accV) → p ∉ rh.l → p ∉ r1.p → Reps K H rh acc accV → Ln K ca (rV K) H1 r1 (fin acc S) Q (fun c d H' => W c d s H') → Q (.ref p) H)
    (h : rS K ca W (mAsg (fun sd S => (mLcL mi g vs mc me sd S).bind fin) (gNm i)) D s H) : tAsg (tLc (rI K ca W mi) (rG K ca ts g) (rT K ca W0 mc) (rE K ca W0 me) vs) (gName i) D s H := by
  obtain ⟨sd, r, S, hs, m, h⟩ := h
  refine lc_loop (fin := fin) hts (hfin _) ⟨sd, r, S, hs, m, LnS.bindE hs h fun d S1 v H1 r1 x1 m1 q1 h1 => ?_⟩
  exact h1.nx_ m1 ((hs.mono x1).set q1)
theorem s_setLc (mt : Bool) (hc : X.calm = true) (hN : X.N.Nodup) (hy : X.N[i]? = some y) (hyl : X.env.scope.names.lookup y = some .local)
    (hsw : swapsWith (.ListComp elt [⟨tg, iter, ifs, 0⟩] scope pos) (some (.Name y py)) spos.line X.env = pure true) (hi : PI X tg iter (rI X.K ca W mi)) (ok : BlkOk X.N X.env.scope scope own) (hts : ∀ t ∈ ts, t ∈ own.map (·.2))
    (hg : ∀ (s : Shared) (H : Hp) (C : Addr) (cl : List (Str × Addr)) (fp : List Addr), PG (X.blk s H scope (compEnvC scope cl C X.env) fp) tg (rG X.K ca ts g)) (ht : ∀ (s : Shared) (H : Hp) (C : Addr) (cl : List (Str × Addr)) (fp : List Addr), PTs (X.blk s H scope (compEnvC scope cl C X.env) fp) ifs (rT X.K ca W0 mc))
    (he : ∀ (s : Shared) (H : Hp) (C : Addr) (cl : List (Str × Addr)) (fp : List Addr), PE (X.blk s H scope (compEnvC scope cl C X.env) fp) elt (rE X.K ca W0 me)) (hs : ∀ x, foldedSetIterable iter X.env x = pure x) :
    PS X (.Assign [.Name y py] (.ListComp elt [⟨tg, iter, ifs, 0⟩] scope pos) spos) (rS X.K ca W (mAsg (if mt then mLcM mi g (own.map (·.2)) mc me else mLc mi g (own.map (·.2)) mc me) (gNm i))) := PS.imp (ps_setLc hc hN hy hyl hsw hi ok hg ht he hs) fun D s H h => by
  cases mt with
  | false => exact setLc_in hts (fun _ => fin_val) h
  | true => exact setLc_in hts (fun _ => fin_loc) h
end

/-! ### defs: as HandS's FnOk, where no repr is running around -/
structure FnZ (P : Program) (w : World) (K : PySem.W.Frag) (mg : Str → Option Value) (base : Heap) (k : Nat) (f : Addr) (fd : FuncData) (ps : List Str) (sp : Sp) : Prop where
  len : ∀ vs H Q E, sp vs H Q E → vs.length = ps.length
  run : ∀ (A : Around) (outer : List Env) (s : Shared) (H : Hp) (args : Args) (us : List Value) (vs : List V) (Q : VK) (E : XK), Room k A → A.guards = some [] →
    Env0 P w K mg base A outer s H → BindsTo s fd args (ps.zip us) → Vals vs us → sp vs H Q E → codeAny (model P w) A (.call (.ref f) args) (CR (L2.CX P w) outer P w H s Q E) s
section
variable {X : Cx} {k : Nat} {f : Addr} {fd : FuncData} {ps : List Str} {sp : Sp} {W : WX} {x : Str} {p pos : Pos} {e : Expr} {es : List Expr} {t : TA}
theorem run_fnZ {pins : List (Addr × Obj)} {σ : L2.St} {H : Hp} {s : Shared} {Q : VK} {us : List Value} {vs : List V} (F : FnZ X.prog X.w X.K X.mg X.base k f fd ps sp) (room : Room k X.A) (gd : X.A.guards = some []) (bn : Binds X.K fd ps []) (tk : Takes X W)
    (I : Inv X pins σ H s) (rv : Vals vs us) (h : sp vs H Q (WE W σ)) : wpAny (model X.prog X.w) X.A (call (.ref f) us) (EP X pins σ Q) X.xe s := by
  have n : us.length = ps.length := rv.length.symm.trans (F.len _ _ _ _ h)
  have bt : BindsTo s fd ⟨us, []⟩ (ps.zip us) := by simpa using bn s us I.kIn (by simpa using n)
  refine wpAny_call (codeAny_mono (F.run X.A X.stack s H ⟨us, []⟩ us vs Q (WE W σ) room gd I.env0 bt rv h) fun res s' hres => ?_)
  match res, hres with
  | .error x, hres => exact passAt tk σ pins H s x s' I hres
  | .ok (.ret u), hres => exact I.after hres
  | .ok .next, hres => exact False.elim hres
  | .ok .brk, hres => exact False.elim hres
  | .ok .cont, hres => exact False.elim hres
theorem pe_callZ (F : FnZ X.prog X.w X.K X.mg X.base k f fd ps sp) (room : Room k X.A) (gd : X.A.guards = some []) (hg : Gl X x) (hm : X.mg x = some (.ref f)) (kp : PySem.W.keepIn X.K (.ref f) = true) (bn : Binds X.K fd ps []) (tk : Takes X W)
    (ha : PA X (e :: es) t) (hdb : (x == ("__debug__" : Str)) = false) (he : starEach (e :: es) X.env = (false, eval e X.env) :: starEach es X.env) (hpl : (backTo pos (starEach es X.env)).any (·.1) = false) :
    PE X (.Call (.Name x p) (e :: es) [] pos) (tCallS sp (WE W) t) := ⟨fun pins s σ H Q I h => wpAny_Call_Name_kw (ld_glob I hg hm (PySem.W.callWith_K (h₀ := X.base) I.ok.mod.kin kp
      (thn (ha.run pos pins s σ H _ I h) fun us s1 ⟨vs, H1, I1, rv, q⟩ => ⟨I1.kIn, run_fnZ F room gd bn tk I1 rv q⟩) he hpl) hdb)⟩
theorem pe_callZ0 (F : FnZ X.prog X.w X.K X.mg X.base k f fd ps sp) (room : Room k X.A) (gd : X.A.guards = some []) (hg : Gl X x) (hm : X.mg x = some (.ref f)) (kp : PySem.W.keepIn X.K (.ref f) = true) (bn : Binds X.K fd ps []) (tk : Takes X W)
    (hdb : (x == ("__debug__" : Str)) = false) : PE X (.Call (.Name x p) [] [] pos) (tCallS sp (WE W) tNil) :=
  ⟨fun pins s σ H Q I h => wpAny_Call_Name_kw (ld_glob I hg hm (PySem.W.callWith_K0 I.kIn kp (run_fnZ (us := []) F room gd bn tk I .nil h)) hdb)⟩
end
/-- what a def of the program promises: that it comes to what the plain function says -/
def spOf (K : PySem.W.Frag) (ca : Nat → Addr) (n : Nat) (m : List D → Sto → Out D) : Sp := fun vs H Q E => vs.length = n ∧ ∃ ds r S, Reps K H r ds vs ∧ Sim K ca H r S ∧ Ln K ca (rV K) H r (m ds S) Q E
def mFn (f : List D → Sto → Out D) (a : M (List D)) : M D := fun sd S => (a sd S).bind fun xs S1 => f xs S1
section
variable {X : Cx} {ca : Nat → Addr} {k n : Nat} {f : Addr} {fd : FuncData} {ps : List Str} {W : WX} {x : Str} {p pos : Pos} {e : Expr} {es : List Expr} {ml : M (List D)} {m : List D → Sto → Out D}
theorem fn_in {K : PySem.W.Frag} {s : St} {H : Hp} {Q : VK} (hn : ∀ sd S ds S1, ml sd S = .ok ds S1 → ds.length = n) (h : rE K ca W (mFn m ml) s H Q) : tCallS (spOf K ca n m) (WE W) (rA K ca W ml) s H Q := by
  obtain ⟨sd, r, S, hs, mm, h⟩ := h
  refine ⟨sd, r, S, hs, mm, ?_⟩
  unfold mFn at h
  cases e1 : ml sd S with
  | bad => rw [e1] at h; exact h.elim
  | exc c fs S1 => rw [e1] at h; exact h
  | ok ds S1 =>
    rw [e1] at h
    intro vs H1 r1 x1 m1 q1
    exact ⟨by rw [← q1.length]; exact hn sd S ds S1 e1, ds, r1, S1, q1, m1, Ln.ext x1 h⟩
end
end Z

/-! Z layer, part Ic: instances: fields, methods, making. -/
namespace Z
open PySem PySem.Spec PyProof.Rows L2
/-- constants of the module, fields and methods of its classes -/
structure Ev where
  g : List D
  cf : List (List Str)
  mt : List (List (Str × Nat))
  ex : List (List Nat)
  dc : List (List (Str × D))
def Ev.fld (G : Ev) (c : Nat) (f : Str) : Bool := (G.cf.getD c []).contains f
def Ev.mth (G : Ev) (c : Nat) (m : Str) : Option Nat := (G.mt.getD c []).lookup m
def putZ (f : Str) (d : D) : List (Str × D) → List (Str × D)
  | [] => [(f, d)]
  | (g, x) :: r => if g = f then (g, d) :: r else (g, x) :: putZ f d r
section
variable {K : PySem.W.Frag} {H : Hp} {r : Rg}
theorem RepF.lookup {f : Str} {d : D} : ∀ {ds : List (Str × D)} {vs : List (Str × V)}, RepF K H r ds vs → ds.lookup f = some d → ∃ v, vs.lookup f = some v ∧ Rep K H r d v
  | _, _, .nil, e => by cases e
  | _, _, .cons (f := g) h hs, e => by
    rw [List.lookup_cons] at e ⊢
    cases q : (f == g) with
    | true => simp only [q] at e ⊢; cases e; exact ⟨_, rfl, h⟩
    | false => simp only [q] at e ⊢; exact RepF.lookup hs e
theorem RepF.none {f : Str} : ∀ {ds : List (Str × D)} {vs : List (Str × V)}, RepF K H r ds vs → ds.lookup f = none → vs.lookup f = none
  | _, _, .nil, e => rfl
  | _, _, .cons (f := g) h hs, e => by
    rw [List.lookup_cons] at e ⊢
    cases q : (f == g) with
    | true => simp only [q] at e; cases e
    | false => simp only [q] at e ⊢; exact RepF.none hs e
theorem RepF.put {f : Str} {d : D} {v : V} (h : Rep K H r d v) : ∀ {ds : List (Str × D)} {vs : List (Str × V)}, RepF K H r ds vs → RepF K H r (putZ f d ds) (putF f v vs)
  | _, _, .nil => .cons h .nil
  | _, _, .cons (f := g) q qs => by
    unfold putZ putF
    split
    · exact .cons h qs
    · exact .cons q (RepF.put h qs)
theorem RepF.length {κ : Type} : ∀ {ds : List (κ × D)} {vs : List (κ × V)}, RepF K H r ds vs → ds.length = vs.length
  | _, _, .nil => rfl
  | _, _, .cons _ qs => by rw [List.length_cons, List.length_cons, RepF.length qs]
end
def mFld (G : Ev) (a : M D) (f : Str) : M D := fun sd S => (a sd S).bind fun x S1 => match x with
  | .loc n => match S1[n]? with
    | some (.ins c fs) => if G.fld c f then lift (fs.lookup f) S1 else .bad
    | _ => .bad
  | _ => .bad
/-- e.f = value: the value first -/
def mSetF (G : Ev) (a b : M D) (f : Str) : MS := fun sd S => (b sd S).toS sd fun y S1 => (a sd S1).toS sd fun x S2 => match x with
  | .loc n => match S2[n]? with
    | some (.ins c fs) => if G.fld c f = true ∧ fs.length < 1000 then .ok .nx sd (S2.set n (.ins c (putZ f y fs))) else .bad
    | _ => .bad
  | _ => .bad
/-- what is known of the classes -/
structure ClsZ (K : PySem.W.Frag) (ca fa : Nat → Addr) (G : Ev) : Prop where
  cl : ∀ c f, G.fld c f = true → Cls K (ca c) ∧ NoAttr K (ca c) f
  mt : ∀ c m i, G.mth c m = some i → Cls K (ca c) ∧ Meth K (ca c) m (fa i)
section
variable {X : Cx} {ca fa : Nat → Addr} {W : WX} {G : Ev} {o value : Expr} {ma mb : M D} {f : Str} {pos pos' : Pos}
theorem z_fld (cz : ClsZ X.K ca fa G) (he : PE X o (rE X.K ca W ma)) (hb : attributeBase o f X.env (eval o X.env) = eval o X.env) : PE X (.Attribute o f pos) (rE X.K ca W (mFld G ma f)) :=
  PE.imp (pe_fld he hb) fun s H Q ⟨sd, r, S, hs, m, h⟩ => ⟨sd, r, S, hs, m, h.bind fun d1 S1 v1 H1 r1 x1 m1 q1 h1 => by
    split at h1
    · split at h1
      · rename_i n _ c fs e1
        split at h1
        · rename_i hf
          obtain ⟨a, rfl, _, dx, gs, ha, hg⟩ := m1.loc q1 e1
          obtain ⟨d, e2, k⟩ := lift_ln h1
          obtain ⟨v, l, rv⟩ := hg.lookup e2
          obtain ⟨c1, c2⟩ := cz.cl c f hf
          exact ⟨a, ca c, dx, gs, v, rfl, ha, c1, c2, l, k v H1 r1 (Ext.refl ..) m1 rv⟩
        · exact h1.elim
      · exact h1.elim
    · exact h1.elim⟩
theorem s_setf (cz : ClsZ X.K ca fa G) (ha : PE X o (rE X.K ca W ma)) (hv : PE X value (rE X.K ca W mb)) (hw : swapsWith value (some (.Attribute o f pos')) pos.line X.env = pure false) :
    PS X (.Assign [.Attribute o f pos'] value pos) (rS X.K ca W (mSetF G ma mb f)) :=
  PS.imp (ps_fld ha hv hw) fun D s H ⟨sd, r, S, hs, m, h⟩ => ⟨sd, r, S, hs, m, LnS.bindE hs h fun y S1 vy H1 r1 x1 m1 q1 h1 => ⟨sd, r1, S1, hs.mono x1, m1, LnS.bindE (hs.mono x1) h1 fun x S2 vx H2 r2 x2 m2 q2 h2 => by
    split at h2
    · split at h2
      · rename_i n _ c fs e1
        split at h2
        · rename_i hf
          obtain ⟨a, rfl, hn, dx, gs, hA, hg⟩ := m2.loc q2 e1
          obtain ⟨c1, c2⟩ := cz.cl c f hf.1
          have ex : Ext H2 r2 (upd H2 a (.ins (ca c) dx (putF f vy gs))) r2 := m2.writeExt hn
          refine ⟨a, ca c, dx, gs, rfl, hA, c1, c2, by rw [← hg.length]; exact hf.2, ?_⟩
          refine h2 _ _ r2 ex (m2.write hn ⟨dx, _, upd_same .., ?_⟩) (((hs.mono x1).mono x2).mono ex)
          exact RepF.put ((q1.mono x2).mono ex) (hg.mono ex)
        · exact h2.elim
      · exact h2.elim
    · exact h2.elim⟩⟩
end
/-! ### methods and making -/
def mMth (G : Ev) (C : Nat → List D → Sto → Out D) (o : M D) (m : Str) (a : M (List D)) : M D := fun sd S => (o sd S).bind fun x S1 => match x with
  | .loc n => match S1[n]? with
    | some (.ins c fs) => match G.mth c m, fs.lookup m with
      | some i, none => (a sd S1).bind fun xs S2 => C i (.loc n :: xs) S2
      | _, _ => .bad
    | _ => .bad
  | _ => .bad
def mMk (G : Ev) (C : Nat → List D → Sto → Out D) (c : Nat) (a : M (List D)) : M D := fun sd S => (a sd S).bind fun xs S1 => match G.mth c "__init__" with
  | some i => (C i (.loc S1.length :: xs) (S1 ++ [.ins c []])).bind fun v S2 => match v with
    | .non => .ok (.loc S1.length) S2
    | _ => .bad
  | none => .bad
section
variable {X : Cx} {k : Nat} {W : WX} {x m : Str} {p pos apos : Pos} {e o : Expr} {es : List Expr} {ta : TE} {t : TA}
def tMethZ (X : Cx) (k : Nat) (W : WX) (m : Str) (ta : TE) (t : TA) : TE := fun σ H Q => ta σ H fun x H1 => ∃ (a C dx : Addr) (fs : List (Str × V)) (f : Addr) (fd : FuncData) (ps : List Str) (sp : Sp), x = .ref a ∧ H1 a = some (.ins C dx fs) ∧ Cls X.K C ∧ Meth X.K C m f ∧ fs.lookup m = none ∧
  FnZ X.prog X.w X.K X.mg X.base k f fd ps sp ∧ Binds X.K fd ps [] ∧ t σ H1 fun vs H2 => sp (.ref a :: vs) H2 Q (WE W σ)
theorem pe_methZ {pl : Sem Bool} (he : PE X o ta) (room : Room k X.A) (gd : X.A.guards = some []) (tk : Takes X W) (ha : PA X (e :: es) t)
    (hst : starEach (e :: es) X.env = (false, eval e X.env) :: starEach es X.env) (hpl : (backTo pos (starEach es X.env)).any (·.1) = false)
    (ht : eval (.Call (.Attribute o m apos) (e :: es) [] pos) X.env = (do
      let ov ← eval o X.env
      standAt apos.atName
      let (f, first) ← holding [ov] (getMethod ov m pl)
      callWith pos f first (backTo pos (starEach (e :: es) X.env)) (backToKw pos (keywordEach [] X.env)))) :
    PE X (.Call (.Attribute o m apos) (e :: es) [] pos) (tMethZ X k W m ta t) := by
  refine ⟨fun pins s σ H Q I h => ?_⟩
  refine PySem.W.methodCall_KW (pl := pl) (thn (he.run pins s σ H _ I h) fun u s1 ⟨x, H1, I1, rx, a, C, dx, fs, f, fd, ps, sp, ex, ea, c, hm, l, F, bn, q⟩ => ?_) ht
  subst ex
  obtain rfl : u = Value.ref a := rx
  refine getmeth_ok I1 ea c hm l ?_
  refine PySem.W.callWith_K (first := [.ref a]) (h₀ := X.base) I.ok.mod.kin hm.kp (thn (ha.run pos pins s1 σ H1 _ I1 q) fun us s2 ⟨vs, H2, I2, r, q2⟩ => ⟨I2.kIn, ?_⟩) hst hpl
  exact run_fnZ (us := .ref a :: us) (vs := .ref a :: vs) F room gd bn tk I2 (.cons rfl r) q2
theorem pe_methZ0 {pl : Sem Bool} (he : PE X o ta) (room : Room k X.A) (gd : X.A.guards = some []) (tk : Takes X W)
    (ht : eval (.Call (.Attribute o m apos) [] [] pos) X.env = (do
      let ov ← eval o X.env
      standAt apos.atName
      let (f, first) ← holding [ov] (getMethod ov m pl)
      callWith pos f first (backTo pos (starEach [] X.env)) (backToKw pos (keywordEach [] X.env)))) :
    PE X (.Call (.Attribute o m apos) [] [] pos) (tMethZ X k W m ta tNil) := by
  refine ⟨fun pins s σ H Q I h => ?_⟩
  refine PySem.W.methodCall_KW (pl := pl) (thn (he.run pins s σ H _ I h) fun u s1 ⟨x, H1, I1, rx, a, C, dx, fs, f, fd, ps, sp, ex, ea, c, hm, l, F, bn, q⟩ => ?_) ht
  subst ex
  obtain rfl : u = Value.ref a := rx
  refine getmeth_ok I1 ea c hm l ?_
  exact PySem.W.callWith_K0 (first := [.ref a]) I1.kIn hm.kp (run_fnZ (us := [.ref a]) (vs := [.ref a]) F room gd bn tk I1 (.cons rfl .nil) q)
theorem run_makeZ {C f : Addr} {fd : FuncData} {ps : List Str} {sp : Sp} {pins : List (Addr × Obj)} {σ : L2.St} {H : Hp} {s : Shared} {Q : VK} {us : List Value} {vs : List V} (M : Mk X.K C f) (F : FnZ X.prog X.w X.K X.mg X.base k f fd ps sp) (room : Room (k + 1) X.A) (gd : X.A.guards = some []) (bn : Binds X.K fd ps []) (tk : Takes X W)
    (I : Inv X pins σ H s) (r : Vals vs us)
    (h : ∀ x dx, H x = none → H dx = none → dx ≠ x → sp (.ref x :: vs) (upd (upd H dx (.own x)) x (.ins C dx [])) (fun v H2 => v = .non ∧ Q (.ref x) H2) (WE W σ)) :
    wpAny (model X.prog X.w) X.A (call (.ref C) us) (EP X pins σ Q) X.xe s := by
  have hq := h (s.heap.objs.size + 1) s.heap.objs.size (I.hok.fresh (Nat.le_succ _)) (I.hok.fresh (Nat.le_refl _)) (Nat.ne_of_lt (Nat.lt_succ_self _))
  have I2 := Inv.made (C := C) I
  have r2 : Vals (V.ref (s.heap.objs.size + 1) :: vs) (Value.ref (s.heap.objs.size + 1) :: us) := .cons rfl r
  have hl : (Value.ref (s.heap.objs.size + 1) :: us).length = ps.length := by
    have e := r2.length
    rw [F.len _ _ _ _ hq] at e
    exact e.symm
  have bt : BindsTo { s with heap := (s.heap.push PySem.W.emptyDict).push (PySem.W.instObj C s.heap.objs.size) } fd ⟨Value.ref (s.heap.objs.size + 1) :: us, []⟩ (ps.zip (Value.ref (s.heap.objs.size + 1) :: us)) := by
    simpa using bn _ (Value.ref (s.heap.objs.size + 1) :: us) I2.kIn (by simpa using hl)
  have gd2 : (X.A.under (.builtin "type.__call__" ⟨.ref C :: us, []⟩)).guards = some [] := by
    unfold Around.under
    simp only [gd]
    rfl
  refine wpAny_call (make_map (f := f) I.kIn M.makes M.init (beq_iff_eq.mp M.fn) (codeAny_mono (F.run _ X.stack _ _ ⟨Value.ref (s.heap.objs.size + 1) :: us, []⟩ (Value.ref (s.heap.objs.size + 1) :: us) _ _ (WE W σ) (room.make C us []) gd2
    (I2.env0.make C us []) bt r2 hq) fun r s' hq' => ?_))
  cases r with
  | error e => exact passAt tk σ pins _ _ e s' I2 hq'
  | ok fl =>
    cases fl with
    | ret u =>
      obtain ⟨v, H', I3, rv, ev, q3⟩ := I2.after hq'
      subst ev
      exact ⟨rv, ⟨V.ref (s.heap.objs.size + 1), H', I3, rfl, q3⟩⟩
    | next => exact False.elim hq'
    | brk => exact False.elim hq'
    | cont => exact False.elim hq'
def tMakeZ (C : Addr) (sp : Sp) (W : WX) (t : TA) : TE := fun σ H Q => t σ H fun vs H1 => ∀ x dx, H1 x = none → H1 dx = none → dx ≠ x →
  sp (.ref x :: vs) (upd (upd H1 dx (.own x)) x (.ins C dx [])) (fun v H2 => v = .non ∧ Q (.ref x) H2) (WE W σ)
theorem pe_makeZ {C f : Addr} {fd : FuncData} {ps : List Str} {sp : Sp} (M : Mk X.K C f) (F : FnZ X.prog X.w X.K X.mg X.base k f fd ps sp) (room : Room (k + 1) X.A) (gd : X.A.guards = some []) (hg : Gl X x) (hm : X.mg x = some (.ref C)) (bn : Binds X.K fd ps []) (tk : Takes X W)
    (ha : PA X (e :: es) t) (hdb : (x == ("__debug__" : Str)) = false) (he : starEach (e :: es) X.env = (false, eval e X.env) :: starEach es X.env) (hpl : (backTo pos (starEach es X.env)).any (·.1) = false) :
    PE X (.Call (.Name x p) (e :: es) [] pos) (tMakeZ C sp W t) := ⟨fun pins s σ H Q I h => wpAny_Call_Name_kw (ld_glob I hg hm (PySem.W.callWith_K (h₀ := X.base) I.ok.mod.kin M.kp
      (thn (ha.run pos pins s σ H _ I h) fun us s1 ⟨vs, H1, I1, rv, q⟩ => ⟨I1.kIn, run_makeZ M F room gd bn tk I1 rv q⟩) he hpl) hdb)⟩
theorem pe_makeZ0 {C f : Addr} {fd : FuncData} {ps : List Str} {sp : Sp} (M : Mk X.K C f) (F : FnZ X.prog X.w X.K X.mg X.base k f fd ps sp) (room : Room (k + 1) X.A) (gd : X.A.guards = some []) (hg : Gl X x) (hm : X.mg x = some (.ref C)) (bn : Binds X.K fd ps []) (tk : Takes X W)
    (hdb : (x == ("__debug__" : Str)) = false) : PE X (.Call (.Name x p) [] [] pos) (tMakeZ C sp W tNil) :=
  ⟨fun pins s σ H Q I h => wpAny_Call_Name_kw (ld_glob I hg hm (PySem.W.callWith_K0 I.kIn M.kp (run_makeZ (us := []) M F room gd bn tk I .nil h)) hdb)⟩
end
/-! ### from the plain meaning -/
/-- the defs by their numbers -/
structure FnsZ (X : Cx) (ca fa : Nat → Addr) (k : Nat) (ar : Nat → Option Nat) (call : Nat → List D → Sto → Out D) : Prop where
  ok : ∀ i n, ar i = some n → ∃ (fd : FuncData) (ps : List Str), ps.length = n ∧ Binds X.K fd ps [] ∧ FnZ X.prog X.w X.K X.mg X.base k (fa i) fd ps (spOf X.K ca n (call i))
  bad : ∀ i n ds S, ar i = some n → ds.length ≠ n → call i ds S = .bad
  no : ∀ i ds S, ar i = none → call i ds S = .bad
section
variable {X : Cx} {ca fa : Nat → Addr} {k : Nat} {ar : Nat → Option Nat} {call : Nat → List D → Sto → Out D} {W : WX} {G : Ev} {ma : M D} {ml : M (List D)}
theorem FnsZ.sp (F : FnsZ X ca fa k ar call) {i : Nat} {ds : List D} {vs : List V} {S : Sto} {H : Hp} {r : Rg} {Q : VK} {E : XK} (hr : Reps X.K H r ds vs) (m : Sim X.K ca H r S) (h : Ln X.K ca (rV X.K) H r (call i ds S) Q E) :
    ∃ (n : Nat) (fd : FuncData) (ps : List Str), Binds X.K fd ps [] ∧ FnZ X.prog X.w X.K X.mg X.base k (fa i) fd ps (spOf X.K ca n (call i)) ∧ spOf X.K ca n (call i) vs H Q E := by
  cases e : ar i with
  | none => rw [F.no i ds S e] at h; exact h.elim
  | some n =>
    by_cases hl : ds.length = n
    · obtain ⟨fd, ps, _, bn, f⟩ := F.ok i n e
      exact ⟨n, fd, ps, bn, f, by rw [← hr.length]; exact hl, ds, r, S, hr, m, h⟩
    · rw [F.bad i n ds S e hl] at h; exact h.elim
theorem FnsZ.len (F : FnsZ X ca fa k ar call) {i n : Nat} (e : ar i = some n) {ds : List D} {vs : List V} {S : Sto} {H : Hp} {r : Rg} {Q : VK} {E : XK} (hr : Reps X.K H r ds vs) (m : Sim X.K ca H r S) (h : Ln X.K ca (rV X.K) H r (call i ds S) Q E) : spOf X.K ca n (call i) vs H Q E := by
  by_cases hl : ds.length = n
  · exact ⟨by rw [← hr.length]; exact hl, ds, r, S, hr, m, h⟩
  · rw [F.bad i n ds S e hl] at h; exact h.elim
/-- the methods are defs of the table -/
def MtZ (G : Ev) (ar : Nat → Option Nat) : Prop := ∀ c m i, G.mth c m = some i → ∃ n, ar i = some n
variable {o e : Expr} {es : List Expr} {m x : Str} {p pos apos : Pos}
theorem mth_in (cz : ClsZ X.K ca fa G) (F : FnsZ X ca fa k ar call) (hM : MtZ G ar) {s : St} {H : Hp} {Q : VK} (h : rE X.K ca W (mMth G call ma m ml) s H Q) : tMethZ X k W m (rE X.K ca W ma) (rA X.K ca W ml) s H Q := by
  obtain ⟨sd, r, S, hs, mm, h⟩ := h
  refine ⟨sd, r, S, hs, mm, h.bind fun d1 S1 v1 H1 r1 x1 m1 q1 h1 => ?_⟩
  split at h1
  · split at h1
    · rename_i n _ c fs e1
      split at h1
      · rename_i i e2 e3
        obtain ⟨a, rfl, hn, dx, gs, hA, hg⟩ := m1.loc q1 e1
        obtain ⟨c1, c2⟩ := cz.mt c m i e2
        obtain ⟨n', en⟩ := hM c m i e2
        obtain ⟨fd, ps, _, bn, f⟩ := F.ok i n' en
        refine ⟨a, ca c, dx, gs, fa i, fd, ps, _, rfl, hA, c1, c2, hg.none e3, f, bn, sd, r1, S1, hs.mono x1, m1, h1.bind fun xs S2 vs H2 r2 x2 m2 q2 h2 => ?_⟩
        exact F.len en (.cons (q1.mono x2) q2) m2 h2
      · exact h1.elim
    · exact h1.elim
  · exact h1.elim
theorem mk_in (F : FnsZ X ca fa k ar call) {c i n : Nat} (hi : G.mth c "__init__" = some i) (en : ar i = some n) {s : St} {H : Hp} {Q : VK} (h : rE X.K ca W (mMk G call c ml) s H Q) : tMakeZ (ca c) (spOf X.K ca n (call i)) W (rA X.K ca W ml) s H Q := by
  obtain ⟨sd, r, S, hs, mm, h⟩ := h
  refine ⟨sd, r, S, hs, mm, h.bind fun xs S1 vs H1 r1 x1 m1 q1 h1 x dx hx hdx hne => ?_⟩
  simp only [hi] at h1
  have hx' : upd H1 dx (.own x) x = none := by rw [upd_ne (Ne.symm hne)]; exact hx
  have m2 : Sim X.K ca (upd H1 dx (.own x)) r1 S1 := m1.new hdx
  have ex : Ext H1 r1 (upd (upd H1 dx (.own x)) x (.ins (ca c) dx [])) (r1.add x) := (Ext.new hdx).trans (Ext.newLoc hx')
  have m3 : Sim X.K ca (upd (upd H1 dx (.own x)) x (.ins (ca c) dx [])) (r1.add x) (S1 ++ [.ins c []]) := m2.newLoc hx' ⟨dx, [], upd_same .., .nil⟩
  have hl : (r1.add x).l[S1.length]? = some x := by
    show (r1.l ++ [x])[S1.length]? = some x
    rw [List.getElem?_append_right (by rw [m1.len]; exact Nat.le_refl _), m1.len, Nat.sub_self]; rfl
  refine F.len en (.cons (.loc hl) (q1.mono ex)) m3 ((Ln.ext ex h1).bind fun v S2 u H2 r2 x2 m4 q2 h2 => ?_)
  split at h2
  · cases q2
    exact ⟨rfl, h2 (.ref x) H2 r2 (Ext.refl ..) m4 (.loc (x2.at hl))⟩
  · exact h2.elim
theorem mth_in0 (cz : ClsZ X.K ca fa G) (F : FnsZ X ca fa k ar call) (hM : MtZ G ar) {s : St} {H : Hp} {Q : VK} (h : rE X.K ca W (mMth G call ma m mNil) s H Q) : tMethZ X k W m (rE X.K ca W ma) tNil s H Q := by
  obtain ⟨sd, r, S, hs, mm, h⟩ := mth_in cz F hM h
  refine ⟨sd, r, S, hs, mm, ?_⟩
  cases e : ma sd S with
  | bad => rw [e] at h; exact h
  | exc c fs S1 => rw [e] at h; exact h
  | ok d S1 =>
    rw [e] at h
    intro v H' r' x' m' q'
    obtain ⟨a, C, dx, gs, f, fd, ps, sp, h1, h2, h3, h4, h5, h6, h7, sd2, r2, S2, _, m2, h8⟩ := h v H' r' x' m' q'
    exact ⟨a, C, dx, gs, f, fd, ps, sp, h1, h2, h3, h4, h5, h6, h7, h8 [] H' r2 (Ext.refl ..) m2 .nil⟩
theorem mk_in0 (F : FnsZ X ca fa k ar call) {c i n : Nat} (hi : G.mth c "__init__" = some i) (en : ar i = some n) {s : St} {H : Hp} {Q : VK} (h : rE X.K ca W (mMk G call c mNil) s H Q) : tMakeZ (ca c) (spOf X.K ca n (call i)) W tNil s H Q := by
  obtain ⟨sd, r, S, hs, mm, h⟩ := mk_in F hi en h
  exact h [] H r (Ext.refl ..) mm .nil
end
end Z

/-! Z layer, part It: zip and enumerate over lists, tuples and texts, in any mix. -/
namespace Z
open PySem PySem.Spec PyProof.Rows L2

/-- what zip and enumerate may walk -/
inductive Sk where
  | l (a : Addr) | t (a : Addr) | s (x : Str)
def Sk.v : Sk → V
  | .l a => .ref a
  | .t a => .ref a
  | .s x => .str x
def signsV (x : Str) : List V := x.cps.toList.map fun c => V.str ⟨#[c]⟩
def Sk.has (K : PySem.W.Frag) (H : Hp) (k : Sk) (vs : List V) : Prop := match k with
  | .l a => SqL K H a vs
  | .t a => SqT K H a vs
  | .s x => vs = signsV x
def Sk.apart (k : Sk) (b : Addr) : Prop := match k with
  | .l a => a ≠ b
  | .t a => a ≠ b
  | .s _ => True
def Sk.itr (k : Sk) (h : Heap) (it : Addr) (i : Nat) : Prop := match k with
  | .l a => h.IsListIter it a i
  | .t a => h.IsTupleIter it a i
  | .s x => ∃ t, h.IsStrIter it (strIterType x) x t i
theorem Sk.itr_at {k : Sk} {h h' : Heap} {it : Addr} {i : Nat} (x : k.itr h it i) (e : ∀ o, h.get? it = some o → h'.get? it = some o) : k.itr h' it i := by
  cases k with
  | l a => exact Heap.IsListIter.at x e
  | t a => exact Heap.IsTupleIter.at x e
  | s x0 => obtain ⟨t, o, ho, r⟩ := x; exact ⟨t, o, e o ho, r⟩
theorem Sk.itr_obj {k : Sk} {h : Heap} {it : Addr} {i : Nat} (x : k.itr h it i) : ∃ o, h.get? it = some o ∧ ∀ v, o.data ≠ .cell v := by
  cases k with
  | l a => obtain ⟨o, h1, h2, h3⟩ := x; exact ⟨o, h1, fun v q => by rw [h3] at q; cases q⟩
  | t a => obtain ⟨o, h1, h2, h3⟩ := x; exact ⟨o, h1, fun v q => by rw [h3] at q; cases q⟩
  | s x0 => obtain ⟨t, o, h1, h2, h3⟩ := x; exact ⟨o, h1, fun v q => by rw [h3] at q; cases q⟩
theorem vals_back {xs : List V} {us : List Value} {j : Nat} {u : Value} (r : Vals xs us) (e : us[j]? = some u) : ∃ x, xs[j]? = some x ∧ RelV x u := by
  have hl : j < us.length := (List.getElem?_eq_some_iff.mp e).1
  have hx : xs[j]? = some (xs[j]'(by rw [r.length]; exact hl)) := List.getElem?_eq_getElem _
  obtain ⟨u', h1, h2⟩ := r.get hx
  rw [e] at h1
  cases h1
  exact ⟨_, hx, h2⟩
theorem Sk.inj {X : Cx} {pins : List (Addr × Obj)} {σ : L2.St} {H : Hp} {s : Shared} {k : Sk} {xs ys : List V} (I : Inv X pins σ H s) (h1 : k.has X.K H xs) (h2 : k.has X.K H ys) : xs = ys := by
  cases k with
  | l a => exact I.list_inj h1 h2
  | t a => exact I.tuple_inj h1 h2
  | s x => exact h1.trans h2.symm
theorem Sk.draws {X : Cx} {pins : List (Addr × Obj)} {σ : L2.St} {H : Hp} {s : Shared} {k : Sk} {xs : List V} {A : Around} {it : Addr} {i : Nat} (I : Inv X pins σ H s) (hh : A.handled = none) (hk : k.has X.K H xs) (hit : k.itr s.heap it i) (hne : k.apart it) :
    ∃ (fp : List Addr) (P : Nat → Value → Prop) (Sx : Nat → Heap → Prop), Draws X.prog X.w A it fp xs.length P Sx ∧ it ∈ fp ∧ Sx i s.heap ∧ (∀ j h, Sx j h → k.itr h it j) ∧ (∀ j v, P j v → ∃ x, xs[j]? = some x ∧ RelV x v) ∧ ∀ b ∈ fp, b = it ∨ ¬ k.apart b := by
  cases k with
  | l a =>
    obtain ⟨its, rv, p, _⟩ := I.list hk
    have D := Draws.list (prog := X.prog) (w := X.w) (A := A) hh it a hne its.toArray
    rw [show its.toArray.size = xs.length by rw [List.size_toArray, rv.length]] at D
    refine ⟨_, _, _, D, by simp, ⟨hit, p.isList⟩, fun j h q => q.1, fun j v q => vals_back rv (by simpa using q), fun b hb => ?_⟩
    have : b = it ∨ b = a := by simpa using hb
    rcases this with z | z
    · exact .inl z
    · exact .inr fun y => y z.symm
  | t a =>
    obtain ⟨its, rv, p, _⟩ := I.tuple hk
    have D := Draws.tuple (prog := X.prog) (w := X.w) (A := A) hh it a hne its.toArray
    rw [show its.toArray.size = xs.length by rw [List.size_toArray, rv.length]] at D
    refine ⟨_, _, _, D, by simp, ⟨hit, p⟩, fun j h q => q.1, fun j v q => vals_back rv (by simpa using q), fun b hb => ?_⟩
    have : b = it ∨ b = a := by simpa using hb
    rcases this with z | z
    · exact .inl z
    · exact .inr fun y => y z.symm
  | s x =>
    obtain ⟨t, hit⟩ := hit
    have hk : xs = signsV x := hk
    subst hk
    have D := Draws.text (prog := X.prog) (w := X.w) (A := A) hh it x t
    rw [show x.cps.size = (signsV x).length by simp [signsV]] at D
    refine ⟨_, _, _, D, by simp, hit, fun j h q => ⟨t, q⟩, fun j v q => ?_, fun b hb => .inl (by simpa using hb)⟩
    obtain ⟨c, u, h1, rfl⟩ := q
    refine ⟨.str ⟨#[c]⟩, ?_, ⟨u, rfl⟩⟩
    unfold signsV
    rw [List.getElem?_map, Array.getElem?_toList, h1]; rfl
/-- pairs -/
def ItzG (K : PySem.W.Frag) (k1 k2 : Sk) : L2.It :=
  ⟨fun i H => ∃ (xs ys : List V) (x y : V), k1.has K H xs ∧ k2.has K H ys ∧ xs[i]? = some x ∧ ys[i]? = some y,
    fun i H v H' => ∃ T x y, v = .ref T ∧ H T = none ∧ H' = upd H T (.tup [x, y]) ∧ (∀ xs, k1.has K H xs → xs[i]? = some x) ∧ ∀ ys, k2.has K H ys → ys[i]? = some y,
    fun i H => ∃ xs ys : List V, k1.has K H xs ∧ k2.has K H ys ∧ i ≤ xs.length ∧ i ≤ ys.length ∧ (i = xs.length ∨ i = ys.length)⟩
structure Sep5 (z TI TO i1 i2 : Addr) (k1 k2 : Sk) : Prop where
  TIz : TI ≠ z
  TOz : TO ≠ z
  TITO : TI ≠ TO
  TIi1 : TI ≠ i1
  TIi2 : TI ≠ i2
  zi1 : z ≠ i1
  zi2 : z ≠ i2
  TOi1 : TO ≠ i1
  TOi2 : TO ≠ i2
  i12 : i1 ≠ i2
  a1 : ∀ b ∈ [z, TI, TO, i1, i2], k1.apart b
  a2 : ∀ b ∈ [z, TI, TO, i1, i2], k2.apart b
theorem Sep5.sep {z TI TO i1 i2 : Addr} {k1 k2 : Sk} (D : Sep5 z TI TO i1 i2 k1 k2) {fp1 fp2 : List Addr} (m1 : i1 ∈ fp1) (m2 : i2 ∈ fp2) (f1 : ∀ b ∈ fp1, b = i1 ∨ ¬ k1.apart b) (f2 : ∀ b ∈ fp2, b = i2 ∨ ¬ k2.apart b) : ZipSep2 z TI TO i1 i2 fp1 fp2 := by
  have o1 : ∀ b ∈ [z, TI, TO, i1, i2], b ≠ i1 → b ∉ fp1 := fun b hb hn hm => by
    rcases f1 b hm with e | e
    · exact hn e
    · exact e (D.a1 b hb)
  have o2 : ∀ b ∈ [z, TI, TO, i1, i2], b ≠ i2 → b ∉ fp2 := fun b hb hn hm => by
    rcases f2 b hm with e | e
    · exact hn e
    · exact e (D.a2 b hb)
  exact ⟨D.TIz, D.TOz, D.TITO, D.TIi1, m1, o1 z (by simp) D.zi1, o1 TO (by simp) D.TOi1, D.TIi2, m2, o2 z (by simp) D.zi2, o2 TO (by simp) D.TOi2, o2 i1 (by simp) D.i12, o1 i2 (by simp) D.i12.symm⟩
theorem turn_zipG {P : Program} {w : World} {K : PySem.W.Frag} {elts : List Expr} {kk : Nat} {tpos : Pos} {k1 k2 : Sk} {z TI TO i1 i2 : Addr} (D : Sep5 z TI TO i1 i2 k1 k2) :
    Turn P w K (.Tuple elts kk tpos) (ItzG K k1 k2) [z, TI, TO, i1, i2] z (fun i h => IsZip h z TI TO .none ∧ IsTupOf2 h TI (.ref i1) (.ref i2) ∧ (∃ x y, IsTupOf2 h TO x y) ∧ k1.itr h i1 i ∧ k2.itr h i2 i) where
  mem := by simp
  obj := fun i h st c hc => by
    obtain ⟨hz, hTI, ⟨x, y, hTO⟩, h1, h2⟩ := st
    have e' : c = z ∨ c = TI ∨ c = TO ∨ c = i1 ∨ c = i2 := by simpa using hc
    rcases e' with q | q | q | q | q
    · rw [q]; exact ⟨_, hz, fun v q => nomatch q⟩
    · rw [q]; exact ⟨_, hTI, fun v q => nomatch q⟩
    · rw [q]; exact ⟨_, hTO, fun v q => nomatch q⟩
    · rw [q]; exact Sk.itr_obj h1
    · rw [q]; exact Sk.itr_obj h2
  keep := fun i h h' st k => by
    obtain ⟨hz, hTI, ⟨x, y, hTO⟩, h1, h2⟩ := st
    exact ⟨k z (by simp) _ hz, k TI (by simp) _ hTI, ⟨x, y, k TO (by simp) _ hTO⟩, Sk.itr_at h1 fun o q => k i1 (by simp) o q, Sk.itr_at h2 fun o q => k i2 (by simp) o q⟩
  item := by
    intro X hP hw hK hc i pins s σ H E I hf st hg
    subst hP hw hK
    obtain ⟨hz, hTI, ⟨x0, y0, hTO⟩, h1, h2⟩ := st
    obtain ⟨xs, ys, x, y, hqx, hqy, hx, hy⟩ := hg
    have hh : X.A.in1.handled = none := I.ok.hd hc
    obtain ⟨fp1, P1, S1, D1, m1, s1, t1, p1, f1⟩ := Sk.draws I hh hqx h1 (D.a1 i1 (by simp))
    obtain ⟨fp2, P2, S2, D2, m2, s2, t2, p2, f2⟩ := Sk.draws I hh hqy h2 (D.a2 i2 (by simp))
    have hzl : z < s.heap.objs.size := Heap.lt_size hz
    have lx : i < xs.length := (List.getElem?_eq_some_iff.mp hx).1
    have ly : i < ys.length := (List.getElem?_eq_some_iff.mp hy).1
    refine wpAny_pyNext_zipD2_item (D.sep m1 m2 f1 f2) D1 D2 hz hTI hTO s1 s2 lx ly fun u u2 h' tk q1 q2 z' TO' g1 g2 hT hsz hk => ?_
    obtain ⟨x', ex, ru⟩ := p1 i u q1
    obtain ⟨y', ey, ru2⟩ := p2 i u2 q2
    rw [hx] at ex; cases ex
    rw [hy] at ey; cases ey
    refine ⟨_, rfl, wpAny_letOwnedTupleGo_zip (s := { s with heap := h', toks := tk }) z' fun h'' z'' sb => ?_⟩
    have hT2 : h''.get? s.heap.objs.size = some { cls := .type "tuple", data := .seq #[u, u2] } := (sb.2 _ (Nat.ne_of_gt hzl)).trans hT
    have new : ObjOk X.prog X.w (upd H s.heap.objs.size (.tup [x, y])) h'' s.heap.objs.size (.tup [x, y]) :=
      ⟨by show 2 ≤ sizeLine; decide, [u, u2], .cons ru (.cons ru2 .nil), ⟨_, hT2, rfl, _, rfl⟩⟩
    have I1 : Inv X pins σ (upd H s.heap.objs.size (.tup [x, y])) { s with heap := h'', toks := tk } :=
      I.turnedNew (t' := tk) (ch := [z, TI, TO, i1, i2]) (fun c o hb q => (sb.2 c (fun q' => hb (by simp [q']))).trans (hk c o (fun q' => hb (by simp [q'])) (fun q' => hb (by simp [q'])) (fun q' => hb (by simp [q'])) (fun q' => hb (by simp [q'])) q)) hf (Nat.le_refl _) new
    refine ⟨.ref s.heap.objs.size, _, I1, rfl, ⟨_, x, y, rfl, I.hok.fresh (Nat.le_refl _), rfl, fun l hl => by rw [Sk.inj I hl hqx]; exact hx, fun l hl => by rw [Sk.inj I hl hqy]; exact hy⟩, ⟨z'', ?_, ⟨u, u2, ?_⟩, ?_, ?_⟩, fun c hcm => ?_⟩
    · exact (sb.2 _ D.TIz).trans (hk _ _ D.TIz D.TITO D.TIi1 D.TIi2 hTI)
    · exact (sb.2 _ D.TOz).trans TO'
    · exact Sk.itr_at (t1 _ _ g1) fun o q => (sb.2 _ D.zi1.symm).trans q
    · exact Sk.itr_at (t2 _ _ g2) fun o q => (sb.2 _ D.zi2.symm).trans q
    · have hlt : c < s.heap.objs.size := by
        have e' : c = z ∨ c = TI ∨ c = TO ∨ c = i1 ∨ c = i2 := by simpa using hcm
        rcases e' with q | q | q | q | q
        · rw [q]; exact hzl
        · rw [q]; exact Heap.lt_size hTI
        · rw [q]; exact Heap.lt_size hTO
        · rw [q]; obtain ⟨_, e1, _⟩ := Sk.itr_obj h1; exact Heap.lt_size e1
        · rw [q]; obtain ⟨_, e2, _⟩ := Sk.itr_obj h2; exact Heap.lt_size e2
      rw [upd_ne (Nat.ne_of_lt hlt)]
      exact (hf c hcm).1
  done := by
    intro X hP hw hK hc i pins s σ H E I hf st hg
    subst hP hw hK
    obtain ⟨hz, hTI, ⟨x0, y0, hTO⟩, h1, h2⟩ := st
    obtain ⟨xs, ys, hqx, hqy, le1, le2, hend⟩ := hg
    have hh : X.A.in1.handled = none := I.ok.hd hc
    obtain ⟨fp1, P1, S1, D1, m1, s1, t1, p1, f1⟩ := Sk.draws I hh hqx h1 (D.a1 i1 (by simp))
    obtain ⟨fp2, P2, S2, D2, m2, s2, t2, p2, f2⟩ := Sk.draws I hh hqy h2 (D.a2 i2 (by simp))
    exact wpAny_pyNext_zipD2_end (D.sep m1 m2 f1 f2) D1 D2 hz hTI hTO s1 s2 le1 le2 hend fun h' tk hk => ⟨rfl, I.turnedL (t' := tk) (ch := [z, TI, TO, i1, i2]) (fun c o hb q =>
      hk c o (fun q' => hb (by simp [q'])) (fun q' => hb (by simp [q'])) (fun q' => hb (by simp [q'])) (fun q' => hb (by simp [q'])) q) hf⟩
  self := fun A i s Q E st h => wpAny_pyIter_zip st.1 h
theorem nnn {n m : Nat} (h : n ≠ m) : @Ne Addr n m := h
theorem sep_new {n : Nat} {k1 k2 : Sk} (a1 : ∀ b ∈ ([n + 4, n + 2, n + 3, n, n + 1] : List Addr), k1.apart b) (a2 : ∀ b ∈ ([n + 4, n + 2, n + 3, n, n + 1] : List Addr), k2.apart b) : Sep5 (n + 4) (n + 2) (n + 3) n (n + 1) k1 k2 :=
  ⟨nnn (by omega), nnn (by omega), nnn (by omega), nnn (by omega), nnn (by omega), nnn (by omega), nnn (by omega), nnn (by omega), nnn (by omega), nnn (by omega), a1, a2⟩
theorem le_new {n : Nat} (c : Nat) (h : c ∈ ([n + 4, n + 2, n + 3, n, n + 1] : List Nat)) : n ≤ c := by
  have e' : c = n + 4 ∨ c = n + 2 ∨ c = n + 3 ∨ c = n ∨ c = n + 1 := by simpa using h
  omega
theorem Sk.begin {X : Cx} {pins : List (Addr × Obj)} {σ : L2.St} {H : Hp} {s : Shared} {k : Sk} {xs : List V} {u : Value} (I : Inv X pins σ H s) (hk : k.has X.K H xs) (ru : RelV k.v u) : ∃ (o : Obj) (G : Heap → Prop), Begins u o G ∧ G s.heap ∧ (∀ h it, h.get? it = some o → k.itr h it 0) ∧ ∀ b, s.heap.objs.size ≤ b → k.apart b := by
  cases k with
  | l a =>
    cases ru
    obtain ⟨its, rv, p, _⟩ := I.list hk
    exact ⟨_, _, begins_list a its.toArray, p.isList, fun h it e => ⟨_, e, rfl, rfl⟩, fun b hb z => Nat.lt_irrefl _ (Nat.lt_of_lt_of_le (by rw [← z]; exact p.lt) hb)⟩
  | t a =>
    cases ru
    obtain ⟨its, rv, p, _⟩ := I.tuple hk
    exact ⟨_, _, begins_tuple a its.toArray, p, fun h it e => ⟨_, e, rfl, rfl⟩, fun b hb z => by obtain ⟨o, ho, _⟩ := p; exact Nat.lt_irrefl _ (Nat.lt_of_lt_of_le (by rw [← z]; exact Heap.lt_size ho) hb)⟩
  | s x =>
    obtain ⟨t, rfl⟩ := ru
    exact ⟨_, _, begins_text x t, trivial, fun h it e => ⟨t, _, e, rfl, rfl⟩, fun _ _ => trivial⟩
def iZipG (K : PySem.W.Frag) (ta : TA) : TI := fun σ H R => ta σ H fun vs H1 => ∃ (k1 k2 : Sk) (xs ys : List V), vs = [k1.v, k2.v] ∧ k1.has K H1 xs ∧ k2.has K H1 ys ∧ R (ItzG K k1 k2) H1
theorem pi_zipG {X : Cx} {e e2 : Expr} {ta : TA} {p pos tpos : Pos} {elts : List Expr} {kk : Nat} (hg : Gl X "zip") (hm : X.mg "zip" = none) (ha : PA X [e, e2] ta)
    (hs : starEach [e, e2] X.env = (false, eval e X.env) :: starEach [e2] X.env) (hpl : (backTo pos (starEach [e2] X.env)).any (·.1) = false) :
    PI X (.Tuple elts kk tpos) (.Call (.Name "zip" p) [e, e2] [] pos) (iZipG X.K ta) := by
  refine ⟨fun pins s σ H R I h => ?_⟩
  refine Call_ (ld_blt I hg hm PyProof.Rows.boot_zip (PyProof.Rows.callWith_type1 (thn (ha.run pos pins s σ H _ I h) fun us s1 ⟨vs, H1, I1, r1, q1⟩ => ?_) hs hpl))
  obtain ⟨k1, k2, xs, ys, ex, hqx, hqy, q⟩ := q1
  subst ex
  cases r1 with
  | cons r rr =>
    cases rr with
    | cons r' rr =>
      cases rr
      obtain ⟨o1, G1, B1, g1, j1, a1⟩ := Sk.begin I1 hqx r
      obtain ⟨o2, G2, B2, g2, j2, a2⟩ := Sk.begin I1 hqy r'
      refine zip_begins2 B1 B2 g1 g2 fun h' hz hTI hTO h1 h2 hsz hk => wpAny_pyIter_zip hz ?_
      have I2 : Inv X pins σ H1 { s1 with heap := h' } := I1.kept (t' := s1.toks) hk
      have le5 : ∀ c ∈ ([s1.heap.objs.size + 4, s1.heap.objs.size + 2, s1.heap.objs.size + 3, s1.heap.objs.size, s1.heap.objs.size + 1] : List Addr), s1.heap.objs.size ≤ c := fun c hcm => le_new c hcm
      refine ⟨s1.heap.objs.size + 4, [s1.heap.objs.size + 4, s1.heap.objs.size + 2, s1.heap.objs.size + 3, s1.heap.objs.size, s1.heap.objs.size + 1], _, _, H1, rfl, I2, turn_zipG (k1 := k1) (k2 := k2) (sep_new (fun b hb => a1 b (le5 b hb)) fun b hb => a2 b (le5 b hb)),
        ⟨hz, hTI, ⟨_, _, hTO⟩, j1 _ _ h1, j2 _ _ h2⟩, fun c hcm => I1.fpOk (le5 c hcm) (I1.hok.fresh (le5 c hcm)), q⟩

/-! ### enumerate -/
def ItE (K : PySem.W.Frag) (k : Sk) : L2.It :=
  ⟨fun i H => ∃ (xs : List V) (x : V), k.has K H xs ∧ xs[i]? = some x,
    fun i H v H' => ∃ T x, v = .ref T ∧ H T = none ∧ H' = upd H T (.tup [.int (i : Nat), x]) ∧ ∀ xs, k.has K H xs → xs[i]? = some x,
    fun i H => ∃ xs : List V, k.has K H xs ∧ i = xs.length⟩
theorem turn_enumG {P : Program} {w : World} {K : PySem.W.Frag} {elts : List Expr} {kk : Nat} {tpos : Pos} {k : Sk} {e it : Addr} (hne : e ≠ it) (ae : k.apart e) (ai : k.apart it) :
    Turn P w K (.Tuple elts kk tpos) (ItE K k) [e, it] e (fun i h => (∃ old, IsEnum h e it i old) ∧ k.itr h it i) where
  mem := by simp
  obj := fun i h st b hb => by
    obtain ⟨⟨old, he⟩, h1⟩ := st
    have e' : b = e ∨ b = it := by simpa using hb
    rcases e' with q | q
    · rw [q]; exact ⟨_, he, fun v q => nomatch q⟩
    · rw [q]; exact Sk.itr_obj h1
  keep := fun i h h' st kp => by
    obtain ⟨⟨old, he⟩, h1⟩ := st
    exact ⟨⟨old, kp e (by simp) _ he⟩, Sk.itr_at h1 fun o q => kp it (by simp) o q⟩
  item := by
    intro X hP hw hK hc i pins s σ H E I hf st hg
    subst hP hw hK
    obtain ⟨⟨old, he⟩, h1⟩ := st
    obtain ⟨xs, x, hq, hx⟩ := hg
    have hh : X.A.in1.handled = none := I.ok.hd hc
    obtain ⟨fp, P1, S1, D1, m1, s1, t1, p1, f1⟩ := Sk.draws I hh hq h1 ai
    have hel : e < s.heap.objs.size := Heap.lt_size he
    have hil : it < s.heap.objs.size := by obtain ⟨_, q, _⟩ := Sk.itr_obj h1; exact Heap.lt_size q
    have lx : i < xs.length := (List.getElem?_eq_some_iff.mp hx).1
    have hef : e ∉ fp := fun z => by
      rcases f1 e z with q | q
      · exact hne q
      · exact q ae
    refine wpAny_pyNext_enum_itemD D1 he s1 lx hne hef fun u h' tk q1 ho hit' hT hsz hk => ?_
    obtain ⟨x', ex, ru⟩ := p1 i u q1
    rw [hx] at ex; cases ex
    refine ⟨_, rfl, wpAny_letOwnedTupleGo_enum (s := { s with heap := h', toks := tk + 1 }) ho fun h'' he' sb => ?_⟩
    have hT2 : h''.get? s.heap.objs.size = some { cls := .type "tuple", data := .seq #[.int i tk, u] } := (sb.2 _ (Nat.ne_of_gt hel)).trans hT
    have new : ObjOk X.prog X.w (upd H s.heap.objs.size (.tup [.int (i : Nat), x])) h'' s.heap.objs.size (.tup [.int (i : Nat), x]) :=
      ⟨by show 2 ≤ sizeLine; decide, [.int i tk, u], .cons ⟨_, rfl⟩ (.cons ru .nil), ⟨_, hT2, rfl, _, rfl⟩⟩
    have I1 : Inv X pins σ (upd H s.heap.objs.size (.tup [.int (i : Nat), x])) { s with heap := h'', toks := tk + 1 } :=
      I.turnedNew (ch := [e, it]) (fun b ob hb q => (sb.2 b (fun z => hb (by simp [z]))).trans (hk b ob (fun z => hb (by simp [z])) (fun z => hb (by simp [z])) q)) hf (Nat.le_refl _) new
    refine ⟨.ref s.heap.objs.size, _, I1, rfl, ⟨_, x, rfl, I.hok.fresh (Nat.le_refl _), rfl, fun ys hy => by rw [Sk.inj I hy hq]; exact hx⟩, ⟨⟨u, ?_⟩, Sk.itr_at (t1 _ _ hit') fun o q => (sb.2 it (Ne.symm hne)).trans q⟩, fun b hb => ?_⟩
    · have e1 : ((i + 1 : Nat) : Int) = (i : Int) + 1 := by omega
      rw [e1]; exact he'
    · have hb' : b < s.heap.objs.size := by
        have e' : b = e ∨ b = it := by simpa using hb
        rcases e' with z | z
        · rw [z]; exact hel
        · rw [z]; exact hil
      rw [upd_ne (Nat.ne_of_lt hb')]
      exact (hf b hb).1
  done := by
    intro X hP hw hK hc i pins s σ H E I hf st hg
    subst hP hw hK
    obtain ⟨⟨old, he⟩, h1⟩ := st
    obtain ⟨xs, hq, rfl⟩ := hg
    have hh : X.A.in1.handled = none := I.ok.hd hc
    obtain ⟨fp, P1, S1, D1, m1, s1, t1, p1, f1⟩ := Sk.draws I hh hq h1 ai
    obtain ⟨f0, f1, f2, f3, f4, f5⟩ := hf it (by simp)
    exact wpAny_pyNext_enum_endD D1 he s1 fun h' eb => ⟨rfl, I.turned (t' := s.toks) (fun b o hb q => eb b o hb q) f0 f1 f3 f4 f5⟩
  self := fun A i s Q E st h => let ⟨⟨_, he⟩, _⟩ := st; wpAny_pyIter_enum he h
theorem meets_enum1 {v : Value} {o : Obj} {G : Heap → Prop} (B : Begins v o G) :
    Meets (Builtin.«enumerate.__new__» ⟨[.type "enumerate", v], []⟩) (fun _ R s => G s.heap ∧
      R (.ok (.ret (.ref (s.heap.push o).objs.size))) { s with heap := (s.heap.push o).push { cls := .type "enumerate", data := .fields #[.none, .bool false, .ref s.heap.objs.size, rawInt 0, .none, .none] } }) :=
  .of_wp fun prog w A R s h => by
    obtain ⟨hp, g, d, tk, os⟩ := s
    obtain ⟨hG, h⟩ := h
    have hsub := sub_enumerate
    have qq : ∀ {A' : Around} {E : Value → Shared → Prop} {Q : Value → Shared → Prop}, Q (.ref hp.objs.size) ⟨(hp.push o), g, d, tk, os⟩ → wpAny (model prog w) A' (pyIter v) Q E ⟨hp, g, d, tk, os⟩ :=
      fun q => B.iter prog w _ _ ⟨hp, g, d, tk, os⟩ _ hG q
    wp_walk
    refine wpAny_stack_any fun st => wpAny_pure ?_
    split
    · rename_i c _ _ _ _ _
      cases (c == Value.type "enumerate")
      · wp_walk using qq
        exact ⟨_, rfl, h⟩
      · wp_walk using qq
        exact ⟨_, rfl, h⟩
    · wp_walk using qq
      exact ⟨_, rfl, h⟩
theorem enum1_begins {prog : Program} {w : World} {A : Around} {E : Value → Shared → Prop} {s : Shared} {v : Value} {o : Obj} {G : Heap → Prop} {Q : Value → Shared → Prop} (B : Begins v o G) (hG : G s.heap)
    (h : ∀ h', IsEnum h' (s.heap.objs.size + 1) s.heap.objs.size 0 .none → h'.get? s.heap.objs.size = some o → h'.objs.size = s.heap.objs.size + 2 → (∀ b o, s.heap.get? b = some o → h'.get? b = some o) → Q (.ref (s.heap.objs.size + 1)) { s with heap := h' }) :
    wpAny (model prog w) A (call (.type "enumerate") [v]) Q E s := by
  refine callType_new F.called_enumerate (by decide) (F.typeCall_enumerate_1 _) (F.newCall_enumerate_1 _) (fun obj => F.args_object_init_2 obj _) F.entry_enumerate_new (meets_enum1 B) ⟨hG, ?_⟩
  have hz : (s.heap.push o).objs.size = s.heap.objs.size + 1 := Heap.size_push ..
  have he : IsEnum ((s.heap.push o).push { cls := .type "enumerate", data := .fields #[.none, .bool false, .ref s.heap.objs.size, rawInt 0, .none, .none] }) (s.heap.objs.size + 1) s.heap.objs.size 0 .none := by
    have := Heap.get?_push_size (s.heap.push o) (o := { cls := .type "enumerate", data := .fields #[.none, .bool false, .ref s.heap.objs.size, rawInt 0, .none, .none] }) rfl
    rw [hz] at this; exact this
  show _ ∧ _
  rw [hz]
  exact ⟨⟨_, he, rfl⟩, h _ he (Heap.get?_push_of_some _ (Heap.get?_push_size _ B.free)) (by rw [Heap.size_push, hz]) fun b ob x => Heap.get?_push_of_some _ (Heap.get?_push_of_some _ x)⟩
def iEnumG (K : PySem.W.Frag) (ta : TA) : TI := fun σ H R => ta σ H fun vs H1 => ∃ (k : Sk) (xs : List V), vs = [k.v] ∧ k.has K H1 xs ∧ R (ItE K k) H1
theorem pi_enumG {X : Cx} {e : Expr} {ta : TA} {p pos tpos : Pos} {elts : List Expr} {kk : Nat} (hg : Gl X "enumerate") (hm : X.mg "enumerate" = none) (ha : PA X [e] ta) (hs : starEach [e] X.env = [(false, eval e X.env)]) :
    PI X (.Tuple elts kk tpos) (.Call (.Name "enumerate" p) [e] [] pos) (iEnumG X.K ta) := by
  refine ⟨fun pins s σ H R I h => ?_⟩
  refine Call_ (ld_blt I hg hm boot_enumerate (PyProof.Rows.callWith_type1 (thn (ha.run pos pins s σ H _ I h) fun us s1 ⟨vs, H1, I1, r1, q1⟩ => ?_) hs rfl))
  obtain ⟨k, xs, ex, hq, q⟩ := q1
  subst ex
  cases r1 with
  | cons r rr =>
    cases rr
    obtain ⟨o1, G1, B1, g1, j1, a1⟩ := Sk.begin I1 hq r
    refine enum1_begins B1 g1 fun h' he hit hsz hk => wpAny_pyIter_enum he ?_
    have I2 : Inv X pins σ H1 { s1 with heap := h' } := I1.kept (t' := s1.toks) hk
    have le2 : ∀ c ∈ ([s1.heap.objs.size + 1, s1.heap.objs.size] : List Addr), s1.heap.objs.size ≤ c := fun c hcm => by
      have e' : c = s1.heap.objs.size + 1 ∨ c = s1.heap.objs.size := by simpa using hcm
      rcases e' with z | z
      · rw [z]; exact Nat.le_add_right _ _
      · rw [z]; exact Nat.le_refl _
    exact ⟨s1.heap.objs.size + 1, [s1.heap.objs.size + 1, s1.heap.objs.size], _, _, H1, rfl, I2, turn_enumG (k := k) (Nat.succ_ne_self _) (a1 _ (Nat.le_add_right _ _)) (a1 _ (Nat.le_refl _)), ⟨⟨.none, he⟩, j1 _ _ hit⟩, fun c hcm => I1.fpOk (le2 c hcm) (I1.hok.fresh (le2 c hcm)), q⟩

/-! ### sources -/
/-- what a source reads of the thing k -/
def SkAt (K : PySem.W.Frag) (ca : Nat → Addr) (H : Hp) (r : Rg) (s : Src) (k : Sk) : Prop :=
  ∃ P : Hp → Rg → Prop, Stb P ∧ P H r ∧ ∀ H r S, P H r → Sim K ca H r S → (∀ i d, s.at S i = some d → ∃ vs v, k.has K H vs ∧ vs[i]? = some v ∧ Rep K H r d v) ∧ (s.fin S = true → ∃ vs, k.has K H vs ∧ vs.length = s.len)
section
variable {K : PySem.W.Frag} {ca : Nat → Addr} {H : Hp} {r : Rg} {S : Sto}
theorem srcOf_sk {x : D} {v : V} {s : Src} (m : Sim K ca H r S) (hx : Rep K H r x v) (e : srcOf S x = some s) : ∃ k : Sk, v = k.v ∧ (∃ vs, k.has K H vs) ∧ SkAt K ca H r s k := by
  unfold srcOf at e
  split at e
  · cases e; cases hx
    rename_i z
    refine ⟨.s z, rfl, ⟨_, rfl⟩, fun _ _ => True, Stb.const, trivial, fun H r S _ m => ⟨fun i d e => ?_, fun _ => ⟨_, rfl, by simp [signsV, signsD, Src.len]⟩⟩⟩
    simp only [Src.at, signsD, List.getElem?_map, Option.map_eq_some_iff] at e
    obtain ⟨c, e1, rfl⟩ := e
    exact ⟨_, .str ⟨#[c]⟩, rfl, by unfold signsV; rw [List.getElem?_map, e1]; rfl, .str _⟩
  · cases e
    cases hx with
    | @tup a vs _ h1 s1 =>
      exact ⟨.t a, rfl, ⟨vs, h1⟩, fun H r => SqT K H a vs ∧ Reps K H r _ vs, stb_sqt.and stb_reps, ⟨h1, s1⟩, fun H r S p m => ⟨fun i d e => let ⟨v, g1, g2⟩ := p.2.get e; ⟨vs, v, p.1, g1, g2⟩, fun _ => ⟨vs, p.1, p.2.length.symm⟩⟩⟩
  · cases e
    cases hx with
    | @lst a vs _ h1 hn hp s1 =>
      rename_i ds
      refine ⟨.l a, rfl, ⟨vs, .of h1⟩, fun H r => Rep K H r (.lst ds) (.ref a), stb_rep, .lst h1 hn hp s1, fun H r S p m => ?_⟩
      cases p with
      | @lst _ ws _ h hn hp hs =>
        exact ⟨fun i d e => let ⟨v, g1, g2⟩ := hs.get e; ⟨ws, v, .of h, g1, g2⟩, fun _ => ⟨ws, .of h, hs.length.symm⟩⟩
  · cases e
    cases hx with
    | @fro a vs _ h1 s1 =>
      exact ⟨.l a, rfl, ⟨vs, h1.sq⟩, fun H r => FL K H a vs ∧ Reps K H r _ vs, stb_fl.and stb_reps, ⟨h1, s1⟩, fun H r S p m => ⟨fun i d e => let ⟨v, g1, g2⟩ := p.2.get e; ⟨vs, v, p.1.sq, g1, g2⟩, fun _ => ⟨vs, p.1.sq, p.2.length.symm⟩⟩⟩
  · split at e
    · rename_i n _ xs e2
      cases e
      obtain ⟨a, rfl, h1, vs, h2, h3⟩ := m.loc hx e2
      refine ⟨.l a, rfl, ⟨vs, .of h2⟩, fun _ r => r.l[n]? = some a, ⟨fun e h => e.at h, fun _ h => h, fun _ _ h => h⟩, h1, fun H r S p m => ⟨fun i d e => ?_, fun f => ?_⟩⟩
      · simp only [Src.at] at e
        split at e
        · rename_i ys e1
          split at e
          · obtain ⟨b, g1, ws, g2, g3⟩ := m.obj n _ e1
            rw [p] at g1; cases g1
            obtain ⟨v, g4, g5⟩ := g3.get e
            exact ⟨ws, v, .of g2, g4, g5⟩
          · cases e
        · cases e
      · simp only [Src.fin] at f
        split at f
        · rename_i ys e1
          obtain ⟨b, g1, ws, g2, g3⟩ := m.obj n _ e1
          rw [p] at g1; cases g1
          exact ⟨ws, .of g2, by rw [← g3.length]; exact of_decide_eq_true f⟩
        · cases f
    · cases e
  · cases e
theorem SkAt.zip {s1 s2 : Src} {k1 k2 : Sk} (a : SkAt K ca H r s1 k1) (b : SkAt K ca H r s2 k2) : SrcAt K ca H r (.zip s1 s2) (ItzG K k1 k2) := by
  obtain ⟨P1, st1, p1, t1⟩ := a
  obtain ⟨P2, st2, p2, t2⟩ := b
  refine ⟨fun H r => P1 H r ∧ P2 H r, st1.and st2, ⟨p1, p2⟩, fun H r S p m i => ⟨fun d e => ?_, fun e f => ?_⟩⟩
  · simp only [Src.at] at e
    split at e
    · rename_i x y e1 e2
      cases e
      obtain ⟨vs, v, g1, g2, g3⟩ := (t1 H r S p.1 m).1 i x e1
      obtain ⟨us, u, g4, g5, g6⟩ := (t2 H r S p.2 m).1 i y e2
      refine ⟨⟨vs, us, v, u, g1, g4, g2, g5⟩, fun z H' yl => ?_⟩
      obtain ⟨T, v', u', rfl, hT, rfl, w1, w2⟩ := yl
      have := w1 vs g1; rw [g2] at this; cases this
      have := w2 us g4; rw [g5] at this; cases this
      exact ⟨Ext.new hT, m.new hT, newTup hT (.cons g3 (.cons g6 .nil))⟩
    · cases e
  · simp only [Src.fin, Bool.and_eq_true] at f
    simp only [Src.len] at e
    obtain ⟨vs, g1, g2⟩ := (t1 H r S p.1 m).2 f.1
    obtain ⟨us, g3, g4⟩ := (t2 H r S p.2 m).2 f.2
    exact ⟨vs, us, g1, g3, by omega, by omega, by omega⟩
theorem SkAt.enum {s : Src} {k : Sk} (a : SkAt K ca H r s k) : SrcAt K ca H r (.enum s) (ItE K k) := by
  obtain ⟨P1, st1, p1, t1⟩ := a
  refine ⟨P1, st1, p1, fun H r S p m i => ⟨fun d e => ?_, fun e f => ?_⟩⟩
  · simp only [Src.at] at e
    split at e
    · rename_i x e1
      cases e
      obtain ⟨vs, v, g1, g2, g3⟩ := (t1 H r S p m).1 i x e1
      refine ⟨⟨vs, v, g1, g2⟩, fun z H' yl => ?_⟩
      obtain ⟨T, v', rfl, hT, rfl, w1⟩ := yl
      have := w1 vs g1; rw [g2] at this; cases this
      exact ⟨Ext.new hT, m.new hT, newTup hT (.cons (.int _) (.cons g3 .nil))⟩
    · cases e
  · obtain ⟨vs, g1, g2⟩ := (t1 H r S p m).2 f
    exact ⟨vs, g1, by rw [e]; exact g2.symm⟩
theorem SrcAt.same {s s' : Src} {J : L2.It} (a : SrcAt K ca H r s J) (h1 : ∀ S i, s'.at S i = s.at S i) (h2 : s'.len = s.len) (h3 : ∀ S, s'.fin S = s.fin S) : SrcAt K ca H r s' J := by
  obtain ⟨P, st, p, t⟩ := a
  exact ⟨P, st, p, fun H r S p m i => ⟨fun d e => (t H r S p m i).1 d (by rw [← h1]; exact e), fun e f => (t H r S p m i).2 (by rw [e, h2]) (by rw [← h3]; exact f)⟩⟩
end
def zipS (a b : Src) : Src := match a, b with
  | .vals xs, .vals ys => .vals (List.zipWith (fun x y => .tup [x, y]) xs ys)
  | a, b => .zip a b
def enumS (a : Src) : Src := match a with
  | .vals xs => .vals (xs.zipIdx.map fun p => .tup [.int (p.2 : Nat), p.1])
  | a => .enum a
theorem zipS_same (a b : Src) : (∀ S i, (zipS a b).at S i = (Src.zip a b).at S i) ∧ (zipS a b).len = (Src.zip a b).len ∧ ∀ S, (zipS a b).fin S = (Src.zip a b).fin S := by
  unfold zipS
  split
  · rename_i xs ys
    refine ⟨fun S i => ?_, by simp [Src.len], fun S => rfl⟩
    simp only [Src.at, List.getElem?_zipWith]
    cases xs[i]? <;> cases ys[i]? <;> rfl
  · exact ⟨fun _ _ => rfl, rfl, fun _ => rfl⟩
theorem enumS_same (a : Src) : (∀ S i, (enumS a).at S i = (Src.enum a).at S i) ∧ (enumS a).len = (Src.enum a).len ∧ ∀ S, (enumS a).fin S = (Src.enum a).fin S := by
  unfold enumS
  split
  · rename_i xs
    refine ⟨fun S i => ?_, by simp [Src.len], fun S => rfl⟩
    simp only [Src.at, List.getElem?_map, List.getElem?_zipIdx]
    cases xs[i]? <;> simp
  · exact ⟨fun _ _ => rfl, rfl, fun _ => rfl⟩
def mZip (a : M (List D)) : M Src := fun sd S => (a sd S).bind fun xs S1 => match xs with
  | [x, y] => match srcOf S1 x, srcOf S1 y with
    | some s, some t => .ok (zipS s t) S1
    | _, _ => .bad
  | _ => .bad
def mEnum (a : M (List D)) : M Src := fun sd S => (a sd S).bind fun xs S1 => match xs with
  | [x] => match srcOf S1 x with
    | some s => .ok (enumS s) S1
    | none => .bad
  | _ => .bad
section
variable {X : Cx} {ca : Nat → Addr} {W : WX} {elts : List Expr} {kk : Nat} {tpos p pos : Pos} {a b : Expr} {ml : M (List D)}
theorem z_zip (hg : Gl X "zip") (hm : X.mg "zip" = none) (ha : PA X [a, b] (rA X.K ca W ml)) (hs : starEach [a, b] X.env = (false, eval a X.env) :: starEach [b] X.env) (hpl : (backTo pos (starEach [b] X.env)).any (·.1) = false) :
    PI X (.Tuple elts kk tpos) (.Call (.Name "zip" p) [a, b] [] pos) (rI X.K ca W (mZip ml)) := PI.imp (pi_zipG hg hm ha hs hpl) fun s H R ⟨sd, r, S, hs, m, h⟩ => ⟨sd, r, S, hs, m, h.bind fun d1 S1 v1 H1 r1 x1 m1 q1 h1 => by
    split at h1
    · split at h1
      · rename_i x y _ s t e1 e2
        cases q1 with
        | cons g1 q =>
          cases q with
          | cons g2 q =>
            cases q
            obtain ⟨k1, rfl, ⟨vs, w1⟩, c1⟩ := srcOf_sk m1 g1 e1
            obtain ⟨k2, rfl, ⟨us, w2⟩, c2⟩ := srcOf_sk m1 g2 e2
            obtain ⟨y1, y2, y3⟩ := zipS_same s t
            exact ⟨k1, k2, vs, us, rfl, w1, w2, h1 _ H1 r1 (Ext.refl ..) m1 ((c1.zip c2).same y1 y2 y3)⟩
      · exact h1.elim
    · exact h1.elim⟩
theorem z_enum (hg : Gl X "enumerate") (hm : X.mg "enumerate" = none) (ha : PA X [a] (rA X.K ca W ml)) (hs : starEach [a] X.env = [(false, eval a X.env)]) :
    PI X (.Tuple elts kk tpos) (.Call (.Name "enumerate" p) [a] [] pos) (rI X.K ca W (mEnum ml)) := PI.imp (pi_enumG hg hm ha hs) fun s H R ⟨sd, r, S, hs, m, h⟩ => ⟨sd, r, S, hs, m, h.bind fun d1 S1 v1 H1 r1 x1 m1 q1 h1 => by
    split at h1
    · split at h1
      · rename_i x _ s e1
        cases q1 with
        | cons g1 q =>
          cases q
          obtain ⟨k1, rfl, ⟨vs, w1⟩, c1⟩ := srcOf_sk m1 g1 e1
          obtain ⟨y1, y2, y3⟩ := enumS_same s
          exact ⟨k1, vs, rfl, w1, h1 _ H1 r1 (Ext.refl ..) m1 (c1.enum.same y1 y2 y3)⟩
      · exact h1.elim
    · exact h1.elim⟩
end
end Z

/-! Z layer, part Ie: a[i] op= e; lists that are made to be changed; methods of texts; a value chosen by a key; f-strings; texts walked. -/
namespace Z
open PySem PySem.Spec PyProof.Rows L2

/-! ### a[i] op= e -/
def mAugS (mo mi : M D) (f : Sto → D → D → Option D) (me : M D) : MS := fun sd S => (mo sd S).toS sd fun o S1 => (mi sd S1).toS sd fun i S2 => match o, i with
  | .loc n, .int k => match S2[n]? with
    | some (.lst xs) => match L2.atI xs k with
      | some x => (me sd S2).toS sd fun y S3 => match f S3 x y with
        | some z => match S3[n]? with
          | some (.lst ys) => match ixN ys.length k with
            | some j => .ok .nx sd (S3.set n (.lst (ys.set j z)))
            | none => .bad
          | _ => .bad
        | none => .bad
      | none => .bad
    | _ => .bad
  | _, _ => .bad
section
variable {X : Cx} {ca : Nat → Addr} {W : WX} {pos tpos : Pos}
theorem pget_list : PGet X (rIxL X.K) := by
  intro pins s σ H x y v u Q I rx ry h
  obtain ⟨p, xs, i, z, rfl, rfl, hq, he, q⟩ := h
  cases rx
  obtain ⟨t, rfl⟩ := ry
  obtain ⟨its, r, pl, hz⟩ := I.list hq
  obtain ⟨j, h1, h2, h3, h4, h5⟩ := atI_get he
  obtain ⟨w, ew, rw'⟩ := r.get h2
  have hl := r.length
  have hn := line63
  have fin : EP X pins σ Q w s := ⟨z, H, I, rw', q⟩
  by_cases h0 : 0 ≤ i
  · have hj : i.toNat = j := by
      rw [seqIndex_of h0 h5] at h1
      exact Option.some.inj h1
    exact wpAny_getItem_list pl.isList h0 (by omega) (by rw [hj]; simpa using ew) fin
  · have hj : (i + (its.toArray.size : Int)).toNat = j := by
      rw [seqIndex_neg (by omega) h4] at h1
      rw [List.size_toArray, ← hl]
      exact Option.some.inj h1
    exact wpAny_getItem_list_neg pl.isList (by omega) (by rw [List.size_toArray] <;> omega) (by omega) (by rw [hj]; simpa using ew) fin
theorem s_augS {o i e : Expr} {mo mi me : M D} {op : Operator} {R : R2} {f : Sto → D → D → Option D} (ho : PE X o (rE X.K ca W mo)) (hi : PE X i (rE X.K ca W mi)) (he : PE X e (rE X.K ca W me)) (hp : OpR X (inplaceOp op) R) (hz : OpZ X.K ca R f)
    (ha : ∀ ov iv new, augStore i ov iv new = (do holding [new, ov, iv] (setItem ov iv new); release [new, ov, iv] []; pure .next)) :
    PS X (.AugAssign (.Subscript o i tpos) op e pos) (rS X.K ca W (mAugS mo mi f me)) := PS.imp (ps_augS ho hi pget_list he hp set_list ha) fun D s H ⟨sd, r, S, hs, m, h⟩ =>
  ⟨sd, r, S, hs, m, LnS.bindE hs h fun o S1 vo H1 r1 x1 m1 q1 h1 => ⟨sd, r1, S1, hs.mono x1, m1, LnS.bindE (hs.mono x1) h1 fun i S2 vi H2 r2 x2 m2 q2 h2 => by
    split at h2
    · rename_i n k
      split at h2
      · rename_i xs e1
        split at h2
        · rename_i x e2
          obtain ⟨a, rfl, hn, vs, hA, hr⟩ := m2.loc (q1.mono x2) e1
          cases q2
          obtain ⟨v, a1, a2⟩ := hr.atI e2
          refine ⟨a, vs, k, v, rfl, rfl, .of hA, a1, sd, r2, S2, (hs.mono x1).mono x2, m2, LnS.bindE ((hs.mono x1).mono x2) h2 fun y S3 vy H3 r3 x3 m3 q3 h3 => ?_⟩
          split at h3
          · rename_i z e3
            refine hz m3 (a2.mono x3) q3 e3 fun w H' x' m' q' => ?_
            split at h3
            · rename_i ys e4
              split at h3
              · rename_i j e5
                obtain ⟨b, eb, hb, us, hB, hru⟩ := m'.loc (((q1.mono x2).mono x3).mono x') e4
                cases eb
                refine ⟨a, us, k, j, rfl, rfl, hB, by rw [← hru.length]; exact e5, ?_⟩
                have ex := m'.writeExt (o := .lst (us.set j w)) hb
                exact h3 _ _ r3 (x'.trans ex) (m'.write hb ⟨_, upd_same, (hru.mono ex).set (q'.mono ex) j⟩) (((((hs.mono x1).mono x2).mono x3).mono x').mono ex)
              · exact h3.elim
            · exact h3.elim
          · exact h3.elim
        · exact h2.elim
      · exact h2.elim
    · exact h2.elim⟩⟩
end

/-! ### lists made to be changed -/
def mOwn (f : Sto → D → D → Option (List D)) (a b : M D) : M D := fun sd S => (a sd S).bind fun x S1 => (b sd S1).bind fun y S2 => match f S2 x y with
  | some xs => .ok (.loc S2.length) (S2 ++ [.lst xs])
  | none => .bad
def repL (S : Sto) (x y : D) : Option (List D) := match y with
  | .int k => match asL S x with
    | some xs => if -9223372036854775808 ≤ k ∧ k < 9223372036854775808 ∧ xs.length * k.toNat ≤ 16777216 then some (List.replicate k.toNat xs).flatten else none
    | none => none
  | _ => none
def catL (S : Sto) (x y : D) : Option (List D) := match asL S x, asL S y with
  | some xs, some ys => if xs.length + ys.length ≤ 16777216 then some (xs ++ ys) else none
  | _, _ => none
def mLstC (a : M D) : M D := fun sd S => (a sd S).bind fun x S1 => match asQ S1 x with
  | some xs => .ok (.loc S1.length) (S1 ++ [.lst xs])
  | none => .bad
section
variable {X : Cx} {ca : Nat → Addr} {W : WX} {pos : Pos} {a b : Expr} {ma mb : M D}
theorem z_repM (ha : PE X a (rE X.K ca W ma)) (hb : PE X b (rE X.K ca W mb)) : PE X (.BinOp a .Mult b pos) (rE X.K ca W (mOwn repL ma mb)) := PE.imp (pe_op op_rep ha hb) fun s H Q ⟨sd, r, S, hs, m, h⟩ =>
  ⟨sd, r, S, hs, m, h.bind fun d1 S1 v1 H1 r1 x1 m1 q1 h1 => ⟨sd, r1, S1, hs.mono x1, m1, h1.bind fun d2 S2 v2 H2 r2 x2 m2 q2 h2 => by
    split at h2
    · rename_i xs e
      unfold repL at e
      split at e
      · split at e
        · rename_i k _ ys e1
          split at e
          · rename_i hc
            cases e
            obtain ⟨p, vs, rfl, g1, s1⟩ := asL_rep m2 (q1.mono x2) e1
            cases q2
            refine ⟨p, k, vs, rfl, rfl, g1, by omega, by omega, by rw [sizeLine_eq, ← s1.length]; omega, fun l hl => ?_⟩
            obtain ⟨n1, n2⟩ := newLoc m2 hl (s1.rep k.toNat)
            exact h2 _ _ _ (Ext.newLoc hl) n1 n2
          · cases e
        · cases e
      · cases e
    · exact h2.elim⟩⟩
theorem z_catM (ha : PE X a (rE X.K ca W ma)) (hb : PE X b (rE X.K ca W mb)) : PE X (.BinOp a .Add b pos) (rE X.K ca W (mOwn catL ma mb)) := PE.imp (pe_op op_cat ha hb) fun s H Q ⟨sd, r, S, hs, m, h⟩ =>
  ⟨sd, r, S, hs, m, h.bind fun d1 S1 v1 H1 r1 x1 m1 q1 h1 => ⟨sd, r1, S1, hs.mono x1, m1, h1.bind fun d2 S2 v2 H2 r2 x2 m2 q2 h2 => by
    split at h2
    · rename_i xs e
      unfold catL at e
      split at e
      · rename_i ys zs e1 e2
        split at e
        · rename_i hc
          cases e
          obtain ⟨p, vs, rfl, g1, s1⟩ := asL_rep m2 (q1.mono x2) e1
          obtain ⟨p2, us, rfl, g2, s2⟩ := asL_rep m2 q2 e2
          refine ⟨p, p2, vs, us, rfl, rfl, g1, g2, by rw [sizeLine_eq, ← s1.length, ← s2.length]; omega, fun l hl => ?_⟩
          obtain ⟨n1, n2⟩ := newLoc m2 hl (s1.append s2)
          exact h2 _ _ _ (Ext.newLoc hl) n1 n2
        · cases e
      · cases e
    · exact h2.elim⟩⟩
theorem z_lstC {x : Str} {p : Pos} {es : List Expr} (hg : Gl X "list") (hm : X.mg "list" = none) (ha : PE X a (rE X.K ca W ma)) (he : starEach [a] X.env = (false, eval a X.env) :: starEach [] X.env) :
    PE X (.Call (.Name "list" p) [a] [] pos) (rE X.K ca W (mLstC ma)) := PE.imp (pe_callTy call_list_of hg hm (by decide +kernel) (pa_cons ha pa_nil he) (by decide) (by decide) he rfl) fun s H Q ⟨sd, r, S, hs, m, h⟩ =>
  ⟨sd, r, S, hs, m, h.bind fun d1 S1 v1 H1 r1 x1 m1 q1 h1 => by
    split at h1
    · rename_i xs e
      obtain ⟨a, us, rfl, g1, s1⟩ := asQ_rep m1 q1 e
      refine ⟨a, us, rfl, g1, fun l hl => ?_⟩
      obtain ⟨n1, n2⟩ := newLoc m1 hl s1
      exact h1 _ _ _ (Ext.newLoc hl) n1 n2
    · exact h1.elim⟩
end

/-! ### methods of texts, of one argument -/
inductive Sm where
  | join | split | startswith | partition | strip
def Sm.nm : Sm → String
  | .join => "join" | .split => "split" | .startswith => "startswith" | .partition => "partition" | .strip => "strip"
def strsOf : List D → Option (List Str)
  | [] => some []
  | .str x :: ds => (strsOf ds).map (x :: ·)
  | _ => none
def joinD (S : Sto) (x y : D) : Option D := match x with
  | .str a => match asQ S y with
    | some ds => match strsOf ds with
      | some ys => if (ys.map (·.length)).sum + ys.length * a.length ≤ 16777216 then some (.str (Txt.join a ys)) else none
      | none => none
    | none => none
  | _ => none
def splitD (_ : Sto) (x y : D) : Option D := match x, y with
  | .str a, .str b => if (b.length == 0) = false ∧ a.length + 2 ≤ 16777216 then some (.lst ((Txt.split a b).map .str)) else none
  | _, _ => none
def startsD (_ : Sto) (x y : D) : Option D := match x, y with
  | .str a, .str b => some (.bl (Txt.startswith a b))
  | _, _ => none
def partD (_ : Sto) (x y : D) : Option D := match x, y with
  | .str a, .str b => if (b.length == 0) = false ∧ a.length ≤ 16777216 then some (.tup [.str (Txt.partition a b).1, .str (Txt.partition a b).2.1, .str (Txt.partition a b).2.2]) else none
  | _, _ => none
def stripD (_ : Sto) (x y : D) : Option D := match x, y with
  | .str a, .str b => if a.length ≤ 16777216 then some (.str (Txt.stripChars a b)) else none
  | _, _ => none
def smF : Sm → Sto → D → D → Option D
  | .join => joinD
  | .split => splitD
  | .startswith => startsD
  | .partition => partD
  | .strip => stripD
def mSm (m : Sm) (a b : M D) : M D := fun sd S => (a sd S).bind fun x S1 => match x with
  | .str _ => (b sd S1).bind fun y S2 => lift (smF m S2 x y) S2
  | _ => .bad
section
variable {K : PySem.W.Frag} {ca : Nat → Addr} {H : Hp} {r : Rg} {S : Sto}
theorem strs_rep : ∀ {ds : List D} {vs : List V} {ys : List Str}, Reps K H r ds vs → strsOf ds = some ys → vs = ys.map V.str
  | _, _, _, .nil, e => by simp only [strsOf] at e; cases e; rfl
  | _, _, _, .cons h hs, e => by
    cases h with
    | str i =>
      simp only [strsOf, Option.map_eq_some_iff] at e
      obtain ⟨is, e1, rfl⟩ := e
      rw [strs_rep hs e1]; rfl
    | _ => cases e
theorem reps_strs : ∀ ys : List Str, Reps K H r (ys.map D.str) (ys.map V.str)
  | [] => .nil
  | y :: ys => .cons (.str y) (reps_strs ys)
end
section
variable {X : Cx} {ca : Nat → Addr} {W : WX} {a b : Expr} {ma mb : M D} {apos pos : Pos}
theorem z_sm (sm : Sm) (ha : PE X a (rE X.K ca W ma)) (hb : PE X b (rE X.K ca W mb)) (hs : starEach [b] X.env = [(false, eval b X.env)]) (hbase : attributeBase a (Str.ofString sm.nm) X.env (eval a X.env) = eval a X.env) (hline : (apos.endLine == pos.line) = true) :
    PE X (.Call (.Attribute a (Str.ofString sm.nm) apos) [b] [] pos) (rE X.K ca W (mSm sm ma mb)) := by
  have key : ∀ {R : V → List V → Hp → VK → Prop}, (∀ {H : Hp} {r : Rg} {S : Sto} {x y : D} {vx vy : V} {d : D} {Q : VK}, Sim X.K ca H r S → Rep X.K H r x vx → Rep X.K H r y vy → smF sm S x y = some d → (∀ v H', Ext H r H' r → Sim X.K ca H' r S → Rep X.K H' r d v → Q v H') → R vx [vy] H Q) →
      PE X (.Call (.Attribute a (Str.ofString sm.nm) apos) [b] [] pos) (tM1 R (rE X.K ca W ma) (rE X.K ca W mb)) → PE X (.Call (.Attribute a (Str.ofString sm.nm) apos) [b] [] pos) (rE X.K ca W (mSm sm ma mb)) := by
    intro R hR hp
    refine PE.imp hp fun s H Q ⟨sd, r, S, hs, m, h⟩ => ⟨sd, r, S, hs, m, h.bind fun d1 S1 v1 H1 r1 x1 m1 q1 h1 => ?_⟩
    split at h1
    · refine ⟨by cases q1; exact ⟨_, rfl⟩, sd, r1, S1, hs.mono x1, m1, h1.bind fun d2 S2 v2 H2 r2 x2 m2 q2 h2 => ?_⟩
      obtain ⟨d, e, k⟩ := lift_ln h2
      exact hR m2 (q1.mono x2) q2 e fun v H' => k v H' r2
    · exact h1.elim
  cases sm with
  | join =>
    refine key (fun {H r S x y vx vy d Q} m hx hy e q => ?_) (pe_m1 PySem.F.slot_str_join PySem.F.type_str_join mt_join ha hb hs hbase hline)
    replace e : joinD S x y = some d := e
    unfold joinD at e
    split at e <;> first | (cases e; done) | skip
    split at e
    · rename_i ds e3
      split at e
      · rename_i ys e4
        split at e
        · rename_i hl
          cases e
          cases hx
          obtain ⟨p, vs, rfl, g1, s1⟩ := asQ_rep m hy e3
          have := strs_rep s1 e4
          subst this
          exact ⟨_, p, ys, rfl, rfl, g1, hl, q _ _ (Ext.refl ..) m (.str _)⟩
        · cases e
      · cases e
    · cases e
  | split =>
    refine key (fun {H r S x y vx vy d Q} m hx hy e q => ?_) (pe_m1 PySem.F.slot_str_split PySem.F.type_str_split mt_split ha hb hs hbase hline)
    replace e : splitD S x y = some d := e
    unfold splitD at e
    split at e <;> first | (cases e; done) | skip
    split at e
    · rename_i hl
      cases e; cases hx; cases hy
      exact ⟨_, _, rfl, rfl, hl.1, by rw [sizeLine_eq]; exact hl.2, fun p hp => q _ _ (Ext.new hp) (m.new hp) (newLst m hp (reps_strs _))⟩
    · cases e
  | startswith =>
    refine key (fun {H r S x y vx vy d Q} m hx hy e q => ?_) (pe_m1 PySem.F.slot_str_startswith PySem.F.type_str_startswith mt_startswith ha hb hs hbase hline)
    replace e : startsD S x y = some d := e
    unfold startsD at e
    split at e <;> first | (cases e; done) | skip
    cases e; cases hx; cases hy
    exact ⟨_, _, rfl, rfl, q _ _ (Ext.refl ..) m (.bl _)⟩
  | partition =>
    refine key (fun {H r S x y vx vy d Q} m hx hy e q => ?_) (pe_m1 PySem.F.slot_str_partition PySem.F.type_str_partition mt_partition ha hb hs hbase hline)
    replace e : partD S x y = some d := e
    unfold partD at e
    split at e <;> first | (cases e; done) | skip
    split at e
    · rename_i hl
      cases e; cases hx; cases hy
      exact ⟨_, _, rfl, rfl, hl.1, by rw [sizeLine_eq]; exact hl.2, fun p hp => q _ _ (Ext.new hp) (m.new hp) (newTup hp (.cons (.str _) (.cons (.str _) (.cons (.str _) .nil))))⟩
    · cases e
  | strip =>
    refine key (fun {H r S x y vx vy d Q} m hx hy e q => ?_) (pe_m1 PySem.F.slot_str_strip PySem.F.type_str_strip mt_stripChars ha hb hs hbase hline)
    replace e : stripD S x y = some d := e
    unfold stripD at e
    split at e <;> first | (cases e; done) | skip
    split at e
    · rename_i hl
      cases e; cases hx; cases hy
      exact ⟨_, _, rfl, rfl, by rw [sizeLine_eq]; exact hl, q _ _ (Ext.refl ..) m (.str _)⟩
    · cases e
end

/-! ### {"a": x, ..}[k] -/
def mDsel (ks : List Str) (a : M (List D)) (b : M D) : M D := fun sd S => (a sd S).bind fun xs S1 => (b sd S1).bind fun y S2 => match y with
  | .str k => lift ((ks.zip xs).lookup k) S2
  | _ => .bad
theorem merge_nodup : ∀ (more kvs : List (Key × V)), (more.map (·.1)).Nodup → (∀ k ∈ more.map (·.1), valV kvs k = none) → mergeK kvs more = kvs ++ more
  | [], kvs, _, _ => by simp [mergeK]
  | p :: more, kvs, hn, hk => by
    rw [List.map_cons, List.nodup_cons] at hn
    have e : mergeK kvs (p :: more) = mergeK (putK kvs p.1 p.2) more := rfl
    rw [e, putK_new p.2 (hk p.1 (by simp)), merge_nodup more _ hn.2 fun k hm => ?_]
    · simp
    · rw [valV_snoc _ _ _ _ (hk p.1 (by simp)), if_neg (fun z => hn.1 (by rw [← z]; exact hm))]
      exact hk k (by simp [hm])
theorem valV_zip {K : PySem.W.Frag} {H : Hp} {r : Rg} {k : Str} {d : D} : ∀ {ks : List Str} {xs : List D} {vs : List V}, Reps K H r xs vs → (ks.zip xs).lookup k = some d → ∃ v, valV ((ks.zip vs).map fun p => ((Sum.inr p.1 : Key), p.2)) (Sum.inr k) = some v ∧ Rep K H r d v
  | [], _, _, _, e => by simp at e
  | _ :: _, _, _, .nil, e => by simp at e
  | c :: ks, _, _, .cons (d := x) (v := v) h hs, e => by
    rw [List.zip_cons_cons, List.lookup_cons] at e
    rw [List.zip_cons_cons, List.map_cons]
    cases q : (k == c) with
    | true =>
      simp only [q] at e
      cases e
      have : c = k := (eq_of_beq q).symm
      exact ⟨v, valV_pos (by rw [this]), h⟩
    | false =>
      simp only [q] at e
      obtain ⟨v', g1, g2⟩ := valV_zip (ks := ks) hs e
      exact ⟨v', by rw [valV_neg (by intro z; have := Sum.inr.inj z; simp only at this; rw [this] at q; simp at q)]; exact g1, g2⟩
/-- the pairs of a display whose keys are written texts -/
structure PD (X : Cx) (ca : Nat → Addr) (W : WX) (pos : Pos) (ks : List Str) (keys : List (Option Expr)) (values : List Expr) (ml : M (List D)) : Prop where
  ex : ∃ trs, PPs X pos keys values trs ∧ keys.length = ks.length ∧ values.length = ks.length ∧ keys.all (·.isSome) = true ∧ ∀ (s : St) (H : Hp) (Q : List (V × V) → Hp → Prop),
    (∃ sd r S, Slots X.K H r sd s ∧ Sim X.K ca H r S ∧ Ln X.K ca (rL X.K) H r (ml sd S) (fun vs H' => vs.length = ks.length → Q ((ks.zip vs).map fun p => (V.str p.1, p.2)) H') (fun c d H' => W c d s H')) → tPairs trs s H Q
section
variable {X : Cx} {ca : Nat → Addr} {W : WX} {pos pos2 : Pos} {ks : List Str} {keys : List (Option Expr)} {values : List Expr} {ml : M (List D)} {b : Expr} {mb : M D}
theorem pd_nil : PD X ca W pos [] [] [] mNil := ⟨[], pps_nil, rfl, rfl, rfl, fun s H Q ⟨sd, r, S, hs, m, h⟩ => h.ok m .nil rfl⟩
theorem pd_cons {k : Str} {n : Nat} {p : Pos} {e : Expr} {me : M D} (he : PE X e (rE X.K ca W me)) (hr : PD X ca W pos ks keys values ml) : PD X ca W pos (k :: ks) (some (.Constant (.str k) n p) :: keys) (e :: values) (mCons me ml) := by
  obtain ⟨trs, h1, h2, h3, h4, h5⟩ := hr.ex
  refine ⟨(tC (.str k), rE X.K ca W me) :: trs, pps_cons pe_str he h1, by simp [h2], by simp [h3], by simp [h4], fun s H Q ⟨sd, r, S, hs, m, h⟩ => ?_⟩
  refine ⟨sd, r, S, hs, m, h.bind fun d1 S1 v1 H1 r1 x1 m1 q1 g1 => h5 _ _ _ ⟨sd, r1, S1, hs.mono x1, m1, g1.bind fun d2 S2 v2 H2 r2 x2 m2 q2 g2 hl => ?_⟩⟩
  exact g2.ok (v := v1 :: v2) m2 (.cons (q1.mono x2) q2) (by simp [hl])
theorem z_dsel (hu : X.A.units + 1 < cLine) (hp : PD X ca W pos ks keys values ml) (hn : ks.Nodup) (h0 : ks ≠ []) (h15 : ks.length ≤ 15) (hlen : ∀ sd S ds S1, ml sd S = .ok ds S1 → ds.length = ks.length) (hb : PE X b (rE X.K ca W mb)) (hs : NoSl b) :
    PE X (.Subscript (.Dict keys values pos) b pos2) (rE X.K ca W (mDsel ks ml mb)) := by
  obtain ⟨trs, h1, h2, h3, h4, h5⟩ := hp.ex
  have hk0 : keys ≠ [] := fun z => h0 (by rw [z] at h2; exact List.length_eq_zero_iff.mp h2.symm)
  refine PE.imp (pe_dget hu (pe_disp h1 h4 (h2.trans h3.symm) hk0 (by omega)) hb hs) fun s H Q ⟨sd, r, S, hs, m, h⟩ p hp => ?_
  have np : p ∉ r.l := fun z => m.tracked z hp
  have hpp : p ∉ r.p := fun z => m.prv _ z hp
  have xn : Ext H r (upd H p (.dK [])) r := Ext.new hp
  refine h5 _ _ _ ⟨sd, r.hide p, S, stb_slots.hide hp hs, m.hide hp, ?_⟩
  unfold mDsel at h
  cases e1 : ml sd S with
  | bad => rw [e1] at h; exact h.elim
  | exc c fs S1 =>
    rw [e1] at h
    intro cls d H1 r1 x1 m1 q1
    have e : r1.p = p :: r.p := x1.prv
    refine h cls d H1 ⟨r1.l, r.p⟩ (xn.trans (x1.unhide r.p)) (m1.move (mv_show e) rfl fun a ha => by rw [e]; exact List.mem_cons_of_mem _ ha) ⟨q1.1, ?_⟩
    have q2 := q1.2
    cases fs with
    | none => exact q2
    | some gs =>
      obtain ⟨dd, vs, g1, g2, g3⟩ := q2
      exact ⟨dd, vs, g1, g2, g3.move (mv_show e)⟩
  | ok xs S1 =>
    rw [e1] at h
    intro vs H1 r1 x1 m1 q1 hl
    have e : r1.p = p :: r.p := x1.prv
    have hp1 : H1 p = some (.dK []) := x1.keep _ _ (upd_same ..) np
    have np1 : p ∉ r1.l := x1.notin (ne_of_some (upd_same ..)) np
    have hpm : p ∈ r1.p := by rw [e]; simp
    refine ⟨hp1, (ks.zip vs).map (fun q => ((Sum.inr q.1 : Key), q.2)), by simp [kV, Function.comp_def], by simp; omega, ?_⟩
    have ekeys : ((ks.zip vs).map fun q => ((Sum.inr q.1 : Key), q.2)).map (·.1) = ks.map fun x => (Sum.inr x : Key) := by
      rw [List.map_map]
      have : ((fun x : Key × V => x.1) ∘ fun q : Str × V => ((Sum.inr q.1 : Key), q.2)) = (fun x : Str => (Sum.inr x : Key)) ∘ Prod.fst := rfl
      rw [this, ← List.map_map, List.map_fst_zip (by omega)]
    have em : mergeK [] ((ks.zip vs).map fun q => ((Sum.inr q.1 : Key), q.2)) = (ks.zip vs).map fun q => ((Sum.inr q.1 : Key), q.2) := by
      rw [merge_nodup _ [] (by rw [ekeys]; exact List.pairwise_map.mpr (hn.imp fun hab z => hab (Sum.inr.inj z))) (fun k _ => rfl)]; rfl
    rw [em]
    have x2 : Ext H r (upd H1 p (.dK ((ks.zip vs).map fun q => ((Sum.inr q.1 : Key), q.2)))) ⟨r1.l, r.p⟩ := (xn.trans (x1.unhide r.p)).chg hp
    have m2 : Sim X.K ca (upd H1 p (.dK ((ks.zip vs).map fun q => ((Sum.inr q.1 : Key), q.2)))) ⟨r1.l, r.p⟩ S1 := (m1.chg ⟨_, hp1, id⟩ hpm np1).move (mv_show e) rfl fun a ha => by rw [e]; exact List.mem_cons_of_mem _ ha
    have q2 : Reps X.K (upd H1 p (.dK ((ks.zip vs).map fun q => ((Sum.inr q.1 : Key), q.2)))) ⟨r1.l, r.p⟩ xs vs := (q1.chg ⟨_, hp1, id⟩ hpm).move (mv_show e)
    refine ⟨sd, _, S1, hs.mono x2, m2, Ln.bind (Ln.ext x2 h) fun y S2 vy H3 r3 x3 m3 q3 h3 => ?_⟩
    split at h3
    · rename_i k
      cases q3
      obtain ⟨d, g1, g2⟩ := lift_ln h3
      obtain ⟨v, g3, g4⟩ := valV_zip (q2.mono x3) g1
      have hp3 : H3 p = some (.dK ((ks.zip vs).map fun q => ((Sum.inr q.1 : Key), q.2))) := x3.keep _ _ (upd_same ..) np1
      refine ⟨p, v, rfl, ?_, g2 v H3 r3 (Ext.refl ..) m3 g4⟩
      rw [← g3]
      exact DGet.k (k := Sum.inr k) hp3
    · exact h3.elim
end

/-! ### f-strings -/
def fmtD (x : D) : Option D := match x with
  | .str y => if y.length ≤ 16777216 then some (.str y) else none
  | .int i => if i.natAbs.log2 < 1920 then some (.str (toString i)) else none
  | _ => none
def mFmt (a : M D) : M D := fun sd S => (a sd S).bind fun x S1 => lift (fmtD x) S1
def mFc (a : M D) (m : Str → M D) (acc : Str) : M D := fun sd S => (a sd S).bind fun x S1 => match x with
  | .str y => if (acc ++ y).length ≤ 16777216 then m (acc ++ y) sd S1 else .bad
  | _ => .bad
section
variable {X : Cx} {ca : Nat → Addr} {W : WX} {pos : Pos} {a : Expr} {ma : M D}
theorem z_fmt (ha : PE X a (rE X.K ca W ma)) : PE X (.FormattedValue a (-1) none pos) (rE X.K ca W (mFmt ma)) := PE.imp (pe_fmt ha) fun s H Q ⟨sd, r, S, hs, m, h⟩ =>
  ⟨sd, r, S, hs, m, h.bind fun d1 S1 v1 H1 r1 x1 m1 q1 h1 => by
    obtain ⟨d, e, k⟩ := lift_ln h1
    unfold fmtD at e
    split at e
    · split at e
      · rename_i hl
        cases e; cases q1
        exact .inl ⟨_, rfl, by rw [sizeLine_eq]; exact hl, k _ _ r1 (Ext.refl ..) m1 (.str _)⟩
      · cases e
    · split at e
      · rename_i hl
        cases e; cases q1
        exact .inr ⟨_, rfl, hl, k _ _ r1 (Ext.refl ..) m1 (.str _)⟩
      · cases e
    · cases e⟩
/-- the parts of an f-string -/
structure PF2 (X : Cx) (ca : Nat → Addr) (W : WX) (es : List Expr) (m : Str → M D) : Prop where
  ex : ∃ ts, PJ X es ts ∧ ∀ (acc : Str) (s : St) (H : Hp) (Q : Str → Hp → Prop), rE X.K ca W (m acc) s H (fun v H' => ∀ z, v = .str z → Q z H') → tJs ts acc s H Q
theorem pf_nil : PF2 X ca W [] (fun acc => mC (.str acc)) := ⟨[], .nil, fun acc s H Q ⟨sd, r, S, hs, m, h⟩ => h.ok (v := .str acc) m (.str acc) acc rfl⟩
theorem pf_cons {e : Expr} {es : List Expr} {me : M D} {m : Str → M D} (he : PE X e (rE X.K ca W me)) (hr : PF2 X ca W es m) : PF2 X ca W (e :: es) (mFc me m) := by
  obtain ⟨ts, h1, h2⟩ := hr.ex
  refine ⟨rE X.K ca W me :: ts, .cons he h1, fun acc s H Q ⟨sd, r, S, hs, mm, h⟩ => ⟨sd, r, S, hs, mm, h.bind fun d1 S1 v1 H1 r1 x1 m1 q1 g1 => ?_⟩⟩
  split at g1
  · split at g1
    · rename_i y hl
      cases q1
      exact ⟨y, rfl, by rw [sizeLine_eq]; exact hl, h2 _ _ _ _ ⟨sd, r1, S1, hs.mono x1, m1, g1⟩⟩
    · exact g1.elim
  · exact g1.elim
theorem z_fs {e1 e2 : Expr} {es : List Expr} {m : Str → M D} (h : PF2 X ca W (e1 :: e2 :: es) m) (hm : ∀ acc sd S d S1, m acc sd S = .ok d S1 → ∃ z, d = .str z) : PE X (.JoinedStr (e1 :: e2 :: es) pos) (rE X.K ca W (m Str.empty)) := by
  obtain ⟨ts, h1, h2⟩ := h.ex
  refine PE.imp (pe_joined h1) fun s H Q ⟨sd, r, S, hs, mm, hh⟩ => h2 _ _ _ _ ⟨sd, r, S, hs, mm, ?_⟩
  cases e : m Str.empty sd S with
  | bad => rw [e] at hh; exact hh.elim
  | exc c fs S1 => rw [e] at hh; exact hh
  | ok d S1 =>
    rw [e] at hh
    intro v H1 r1 x1 m1 q1 z hz
    subst hz
    exact hh _ H1 r1 x1 m1 q1
end
end Z

/-! Z layer, part If: dicts that stand at the module's top (texts as keys), read. -/
namespace Z
open PySem PySem.Spec PyProof.Rows L2

def vFlat : D → Option V
  | .str x => some (.str x)
  | .int i => some (.int i)
  | _ => none
def kvV (kvs : List (Str × D)) : List (Key × V) := kvs.map fun p => (Sum.inr p.1, (vFlat p.2).getD .non)
/-- the dict kvs stands at a, whatever the heap is -/
structure DKZ (P : Program) (w : World) (K : PySem.W.Frag) (a : Addr) (kvs : List (Str × D)) : Prop where
  sys : (a == sysModules) = false
  flat : kvs.all (fun p => (vFlat p.2).isSome) = true
  at_ : ∀ h : Heap, K.In h → ∃ us, KV (kvV kvs) us ∧ h.DictOf (mixKind P w) a us
theorem vflat_rep {K : PySem.W.Frag} {H : Hp} {r : Rg} {d : D} (h : (vFlat d).isSome = true) : Rep K H r d ((vFlat d).getD .non) := by
  cases d <;> first | exact .str _ | exact .int _ | (simp [vFlat] at h)
theorem valV_kvs {kvs : List (Str × D)} {k : Str} (hf : kvs.all (fun p => (vFlat p.2).isSome) = true) : (∀ d, kvs.lookup k = some d → ∃ v, valV (kvV kvs) (Sum.inr k) = some v ∧ ∀ K H r, Rep K H r d v) ∧ (kvs.lookup k = none → valV (kvV kvs) (Sum.inr k) = none) := by
  induction kvs with
  | nil => exact ⟨fun d e => by simp at e, fun _ => rfl⟩
  | cons p kvs ih =>
    simp only [List.all_cons, Bool.and_eq_true] at hf
    obtain ⟨i1, i2⟩ := ih hf.2
    have hv : valV (kvV (p :: kvs)) (Sum.inr k) = if p.1 = k then some ((vFlat p.2).getD .non) else valV (kvV kvs) (Sum.inr k) := by
      unfold valV kvV
      rw [List.map_cons, List.find?_cons]
      by_cases e : p.1 = k
      · subst e; simp
      · have e2 : ¬ ((Sum.inr p.1 : Key) = Sum.inr k) := fun z => e (Sum.inr.inj z)
        simp [e, e2]
    rw [hv, List.lookup_cons]
    by_cases e : p.1 = k
    · subst e
      simp only [beq_self_eq_true, ↓reduceIte]
      exact ⟨fun d z => by cases z; exact ⟨_, rfl, fun K H r => vflat_rep hf.1⟩, fun z => by cases z⟩
    · have e2 : (k == p.1) = false := by simpa using fun z => e z.symm
      simp only [e2, e, ↓reduceIte]
      exact ⟨i1, i2⟩
def tKGet (vs : List (Key × V)) (ty : TE) : TE := fun σ H Q => ty σ H fun y H1 => ∃ k v, y = .str k ∧ valV vs (Sum.inr k) = some v ∧ Q v H1
def tKIn (neg : Bool) (vs : List (Key × V)) (ty : TE) : TE := fun σ H Q => ty σ H fun y H1 => ∃ k, y = .str k ∧ Q (.bl (if neg then !(valV vs (Sum.inr k)).isSome else (valV vs (Sum.inr k)).isSome)) H1
def tKGet2 (vs : List (Key × V)) (ty tx : TE) : TE := fun σ H Q => ty σ H fun y H1 => tx σ H1 fun z H2 => ∃ k, y = .str k ∧ Q ((valV vs (Sum.inr k)).getD z) H2
section
variable {X : Cx} {i e f : Expr} {pos apos cpos p : Pos} {ty tx : TE} {x : Str} {a : Addr} {kvs : List (Str × D)}
theorem pe_kget (hg : Gl X x) (hm : X.mg x = some (.ref a)) (hdb : (x == ("__debug__" : Str)) = false) (D : DKZ X.prog X.w X.K a kvs) (hi : PE X i ty) (hs : NoSl i) : PE X (.Subscript (.Name x p) i pos) (tKGet (kvV kvs) ty) := by
  have ho : PE X (.Name x p) (tC (.ref a)) := pe_glob hg hm rfl hdb
  refine ⟨fun pins s σ H Q I h => ?_⟩
  refine subD_of PySem.F.slot_dict_getitem.lookup hs (thn (ho.run pins s σ H (fun v H1 => v = .ref a ∧ H1 = H) I ⟨rfl, rfl⟩) fun u s1 ⟨x1, H1, I1, rx, e1, e2⟩ => ?_)
  subst e1 e2
  obtain rfl : u = Value.ref a := rx
  refine thn (hi.run pins s1 σ H1 _ I1 h) fun iv s2 ⟨y, H2, I2, ry, k, v, ey, hv, q2⟩ => ?_
  subst ey
  obtain ⟨us, rel, dd⟩ := D.at_ _ I2.kIn
  refine ⟨dd.typeIs, ?_⟩
  obtain ⟨w', hw, rw'⟩ := RelO.some_of (v := v) (o := valueAt us (Sum.inr k)) (by rw [← hv]; exact rel.val _)
  exact wpAny_getItem_of (kV_is (k := Sum.inr k) ry) dd.mapOf hw ⟨v, H2, I2.tok _, rw', q2⟩
theorem pc_kin (hg : Gl X x) (hm : X.mg x = some (.ref a)) (hdb : (x == ("__debug__" : Str)) = false) (D : DKZ X.prog X.w X.K a kvs) (hi : PE X i ty) : PC X .In i (.Name x p) (tKIn false (kvV kvs) ty) := by
  have ho : PE X (.Name x p) (tC (.ref a)) := pe_glob hg hm rfl hdb
  refine ⟨fun pins s σ H Q I h => ?_⟩
  refine thn (hi.run pins s σ H _ I h) fun iv s1 ⟨y, H1, I1, ry, k, ey, q1⟩ => thn (ho.run pins s1 σ H1 (fun v H2 => v = .ref a ∧ H2 = H1) I1 ⟨rfl, rfl⟩) fun u s2 ⟨x2, H2, I2, rx, e1, e2⟩ => ?_
  subst ey e1 e2
  obtain rfl : u = Value.ref a := rx
  obtain ⟨us, rel, dd⟩ := D.at_ _ I2.kIn
  refine wpAny_in_of (kV_is (k := Sum.inr k) ry) D.sys dd.mapOf ?_
  rw [← (rel.val (Sum.inr k)).isSome_eq]
  exact ⟨.bl _, H2, I2.tok _, rfl, q1⟩
theorem pc_knotin (hg : Gl X x) (hm : X.mg x = some (.ref a)) (hdb : (x == ("__debug__" : Str)) = false) (D : DKZ X.prog X.w X.K a kvs) (hi : PE X i ty) : PC X .NotIn i (.Name x p) (tKIn true (kvV kvs) ty) := by
  have ho : PE X (.Name x p) (tC (.ref a)) := pe_glob hg hm rfl hdb
  refine ⟨fun pins s σ H Q I h => ?_⟩
  refine thn (hi.run pins s σ H _ I h) fun iv s1 ⟨y, H1, I1, ry, k, ey, q1⟩ => thn (ho.run pins s1 σ H1 (fun v H2 => v = .ref a ∧ H2 = H1) I1 ⟨rfl, rfl⟩) fun u s2 ⟨x2, H2, I2, rx, e1, e2⟩ => ?_
  subst ey e1 e2
  obtain rfl : u = Value.ref a := rx
  obtain ⟨us, rel, dd⟩ := D.at_ _ I2.kIn
  refine wpAny_notIn_of (kV_is (k := Sum.inr k) ry) D.sys dd.mapOf ?_
  rw [← (rel.val (Sum.inr k)).isSome_eq]
  exact ⟨.bl _, H2, I2.tok _, rfl, q1⟩
theorem pe_kget2 (hg : Gl X x) (hm : X.mg x = some (.ref a)) (hdb : (x == ("__debug__" : Str)) = false) (D : DKZ X.prog X.w X.K a kvs) (he : PE X e ty) (hf : PE X f tx) (m : M2 X (.Name x p) "get" apos e f cpos) : PE X (.Call (.Attribute (.Name x p) "get" apos) [e, f] [] cpos) (tKGet2 (kvV kvs) ty tx) := by
  have ho : PE X (.Name x p) (tC (.ref a)) := pe_glob hg hm rfl hdb
  refine ⟨fun pins s σ H Q I h => ?_⟩
  refine wpAny_Call_method m.base m.few m.line PySem.F.plainAttrs_dict PySem.F.slot_dict_get PySem.F.type_dict_get (thn (ho.run pins s σ H (fun v H1 => v = .ref a ∧ H1 = H) I ⟨rfl, rfl⟩) fun u s1 ⟨x1, H1, I1, rx, e1, e2⟩ => ?_)
  subst e1 e2
  obtain rfl : u = Value.ref a := rx
  obtain ⟨us0, _, dd0⟩ := D.at_ _ I1.kIn
  refine ⟨dd0.typeIs, fun b q => ?_, ?_⟩
  · cases q
    obtain ⟨ob, _, _, h1, h2, _⟩ := dd0
    exact ⟨ob, h1, h2.2.1⟩
  rw [m.trees]
  refine Calls.callWith_builtin rfl (Calls.evalArgs_plain (Calls.spliced_cons (thn (he.run pins s1 σ H1 _ I1 h) fun iv s2 ⟨y, H2, I2, ry, q2⟩ =>
    Calls.spliced_cons (thn (hf.run pins s2 σ H2 _ I2 q2) fun fv s3 ⟨z, H3, I3, rz, k, ey, q3⟩ => Calls.spliced_nil ?_))))
  subst ey
  obtain ⟨us, rel, dd⟩ := D.at_ _ I3.kIn
  refine call_meetsIn PySem.F.slot_dict_get dd.typeIs PySem.F.entry_dict_get (PySem.F.args_dict_get_3 _ _ _) (meets_dict_get_default (mixKind X.prog X.w) a (kV_is (k := Sum.inr k) ry) D.sys fv) ⟨_, dd.mapOf, ?_⟩
  exact ⟨_, H3, I3.tok _, (rel.val (Sum.inr k)).getD rz, q3⟩
end

def mDgt (kvs : List (Str × D)) (a : M D) : M D := fun sd S => (a sd S).bind fun x S1 => match x with
  | .str k => lift (kvs.lookup k) S1
  | _ => .bad
def mDin (neg : Bool) (kvs : List (Str × D)) (a : M D) : M D := fun sd S => (a sd S).bind fun x S1 => match x with
  | .str k => .ok (.bl (if neg then !(kvs.lookup k).isSome else (kvs.lookup k).isSome)) S1
  | _ => .bad
def mDgd (kvs : List (Str × D)) (a b : M D) : M D := fun sd S => (a sd S).bind fun x S1 => (b sd S1).bind fun y S2 => match x with
  | .str k => .ok ((kvs.lookup k).getD y) S2
  | _ => .bad
section
variable {X : Cx} {ca : Nat → Addr} {W : WX} {i e f : Expr} {pos apos cpos p : Pos} {x : Str} {a : Addr} {kvs : List (Str × D)} {ma mb : M D}
theorem z_dgt (hg : Gl X x) (hm : X.mg x = some (.ref a)) (hdb : (x == ("__debug__" : Str)) = false) (D : DKZ X.prog X.w X.K a kvs) (hi : PE X i (rE X.K ca W ma)) (hs : NoSl i) : PE X (.Subscript (.Name x p) i pos) (rE X.K ca W (mDgt kvs ma)) :=
  PE.imp (pe_kget hg hm hdb D hi hs) fun s H Q ⟨sd, r, S, hs, m, h⟩ => ⟨sd, r, S, hs, m, h.bind fun d1 S1 v1 H1 r1 x1 m1 q1 h1 => by
    split at h1
    · rename_i k
      cases q1
      obtain ⟨d, e, hq⟩ := lift_ln h1
      obtain ⟨v, hv, rv⟩ := (valV_kvs D.flat).1 d e
      exact ⟨k, v, rfl, hv, hq _ _ r1 (Ext.refl ..) m1 (rv _ _ _)⟩
    · exact h1.elim⟩
theorem din_in {K : PySem.W.Frag} {neg : Bool} {s : St} {H : Hp} {Q : VK} (hf : kvs.all (fun p => (vFlat p.2).isSome) = true) (h : rE K ca W (mDin neg kvs ma) s H Q) : tKIn neg (kvV kvs) (rE K ca W ma) s H Q := by
  obtain ⟨sd, r, S, hs, m, h⟩ := h
  refine ⟨sd, r, S, hs, m, h.bind fun d1 S1 v1 H1 r1 x1 m1 q1 h1 => ?_⟩
  split at h1
  · rename_i k
    cases q1
    have e : (valV (kvV kvs) (Sum.inr k)).isSome = (kvs.lookup k).isSome := by
      cases e : kvs.lookup k with
      | none => rw [(valV_kvs hf).2 e]; rfl
      | some d => obtain ⟨v, hv, _⟩ := (valV_kvs hf).1 d e; rw [hv]; rfl
    refine ⟨k, rfl, ?_⟩
    rw [e]
    exact h1 _ _ r1 (Ext.refl ..) m1 (.bl _)
  · exact h1.elim
theorem z_din (neg : Bool) (hg : Gl X x) (hm : X.mg x = some (.ref a)) (hdb : (x == ("__debug__" : Str)) = false) (D : DKZ X.prog X.w X.K a kvs) (hi : PE X i (rE X.K ca W ma)) :
    PE X (.Compare i [if neg then .NotIn else .In] [.Name x p] pos) (rE X.K ca W (mDin neg kvs ma)) ∧ PT X (.Compare i [if neg then .NotIn else .In] [.Name x p] pos) (rT X.K ca W (mBl (mDin neg kvs ma))) := by
  have hb : ∀ {s : St} {H : Hp} {Q : Bool → Hp → Prop}, rT X.K ca W (mBl (mDin neg kvs ma)) s H Q → tKIn neg (kvV kvs) (rE X.K ca W ma) s H (fun v H' => ∃ b, v = .bl b ∧ Q b H') := fun {s H Q} ⟨sd, r, S, hs, m, h⟩ =>
    din_in D.flat ⟨sd, r, S, hs, m, h.bind fun d1 S1 v1 H1 r1 x1 m1 q1 h1 => by
      obtain ⟨b, e1, e2⟩ := toB_ln m1 q1 h1
      exact ⟨b, e1, e2⟩⟩
  cases neg with
  | false => exact ⟨PE.imp (pe_cmp (pc_kin hg hm hdb D hi) rfl) fun s H Q h => din_in D.flat h, PT.imp (pt_cmp (pc_kin hg hm hdb D hi)) fun s H Q h => hb h⟩
  | true => exact ⟨PE.imp (pe_cmp (pc_knotin hg hm hdb D hi) rfl) fun s H Q h => din_in D.flat h, PT.imp (pt_cmp (pc_knotin hg hm hdb D hi)) fun s H Q h => hb h⟩
theorem z_dgd (hg : Gl X x) (hm : X.mg x = some (.ref a)) (hdb : (x == ("__debug__" : Str)) = false) (D : DKZ X.prog X.w X.K a kvs) (he : PE X e (rE X.K ca W ma)) (hf : PE X f (rE X.K ca W mb)) (m2 : M2 X (.Name x p) "get" apos e f cpos) :
    PE X (.Call (.Attribute (.Name x p) "get" apos) [e, f] [] cpos) (rE X.K ca W (mDgd kvs ma mb)) :=
  PE.imp (pe_kget2 hg hm hdb D he hf m2) fun s H Q ⟨sd, r, S, hs, m, h⟩ => ⟨sd, r, S, hs, m, h.bind fun d1 S1 v1 H1 r1 x1 m1 q1 h1 => ⟨sd, r1, S1, hs.mono x1, m1, h1.bind fun d2 S2 v2 H2 r2 x2 m2 q2 h2 => by
    split at h2
    · rename_i k
      cases q1
      refine ⟨k, rfl, ?_⟩
      cases e : kvs.lookup k with
      | none =>
        rw [(valV_kvs D.flat).2 e]
        rw [e] at h2
        exact h2 _ _ r2 (Ext.refl ..) m2 q2
      | some d =>
        obtain ⟨v, hv, rv⟩ := (valV_kvs D.flat).1 d e
        rw [hv]
        rw [e] at h2
        exact h2 _ _ r2 (Ext.refl ..) m2 (rv _ _ _)
    · exact h2.elim⟩⟩
end
end Z

/-! Z layer, part J: the programs that are read: expressions. -/
namespace Z
open PySem PySem.Spec PyProof.Rows L2

inductive Bf where
  | len | abs | int | str | tup | lst | max2 | min2 | repr | sum | max1 | min1
mutual
inductive E where
  | v (i : Nat) | c (d : D) | g (j : Nat)
  | op (o : Operator) (a b : E) | neg (a : E)
  | cmp (o : CmpOp) (a b : E) | ch (o o' : CmpOp) (a b c : E)
  | bo (o : BoolOp) (es : Es) | not (a : E) | ifx (t : Tt) (a b : E)
  | tup (es : Es) | lst (mt : Bool) (es : Es)
  | ix (a b : E) | sl (a : E) (lo hi : Oe)
  | call (f : Nat) (es : Es) | bf (f : Bf) (es : Es) | isi (a : E) (t : Ty) | isiT (a : E) (t t' : Ty) | dicE
  | fld (o : E) (f : Str) | mth (o : E) (m : Str) (es : Es) | mk (c : Nat) (es : Es)
  | app (o : E) (es : Es) | ext (o : E) (es : Es)
  | lc (mt : Bool) (t : Tg) (it : It) (c : Ot) (e : E) (own : List (Str × Nat))
  | dgt (j : Nat) (a : E) | din (neg : Bool) (a : E) (j : Nat) | dgd (j : Nat) (a b : E)
  | opM (o : Operator) (a b : E) | lstC (a : E) | sm (m : Sm) (a b : E) | dsel (ks : List Str) (es : Es) (k : E) | fmt (a : E) | fs (es : Es)
inductive Es where
  | nil | cons (e : E) (es : Es)
inductive Oe where
  | none | some (e : E)
inductive Tt where
  | din (neg : Bool) (a : E) (j : Nat)
  | bo (o : BoolOp) (ts : Tts) | not (a : Tt) | cmp (o : CmpOp) (a b : E) | ch (o o' : CmpOp) (a b c : E) | tru (e : E)
inductive Tts where
  | nil | cons (t : Tt) (ts : Tts)
inductive Ot where
  | none | some (t : Tt)
inductive Tg where
  | nm (i : Nat) | tup (ts : Tgs) | sub (o i : E)
inductive Tgs where
  | nil | cons (t : Tg) (ts : Tgs)
inductive It where
  | seq (e : E) | rng1 (a : Es) | rng2 (a : Es) | zip (a : Es) | enum (a : Es)
end

/-! ### what it means -/
def opF : Operator → Sto → D → D → Option D
  | .Add => addP
  | .Sub => intP subI
  | .Mult => mulP
  | .FloorDiv => intP fdivI
  | .Mod => intP modI
  | .Pow => intP powI
  | _ => fun _ _ _ => none
def cmpF : CmpOp → Sto → D → D → Option D
  | .Eq => eqD
  | .NotEq => neD
  | .Lt => cmpI fun i j => decide (i < j)
  | .LtE => cmpI fun i j => decide (i ≤ j)
  | .Gt => cmpI fun i j => decide (j < i)
  | .GtE => cmpI fun i j => decide (j ≤ i)
  | .Is => isNP false
  | .IsNot => isNP true
  | .In => inD
  | .NotIn => notInD
def bfF : Bf → Sto → List D → Option D
  | .len => call1 lenD
  | .abs => call1 absD
  | .int => call1 intD
  | .str => call1 strD
  | .tup => call1 tupD
  | .lst => call1 lstD
  | .max2 => max2D
  | .min2 => min2D
  | .repr => call1 reprD
  | .sum => call1 sumD
  | .max1 => call1 max1D
  | .min1 => call1 min1D
def negD (x : D) : Option D := match x with
  | .int i => some (.int (-i))
  | _ => none
def mNeg (a : M D) : M D := fun sd S => (a sd S).bind fun x S1 => lift (negD x) S1
def mYes : M Bool := fun _ S => .ok true S
def mG (G : Ev) (j : Nat) : M D := fun _ S => lift G.g[j]? S
def ownF : Operator → Sto → D → D → Option (List D)
  | .Add => catL
  | .Mult => repL
  | _ => fun _ _ _ => none
mutual
def tgSl : Tg → List Nat
  | .nm i => [i]
  | .tup ts => tgsSl ts
  | .sub _ _ => []
def tgsSl : Tgs → List Nat
  | .nil => []
  | .cons t ts => tgSl t ++ tgsSl ts
end
def tgsLen : Tgs → Nat
  | .nil => 0
  | .cons _ ts => tgsLen ts + 1
section
variable (G : Ev) (C : Nat → List D → Sto → Out D)
mutual
def dE : E → M D
  | .v i => mVar i
  | .c d => mC d
  | .g j => mG G j
  | .op o a b => mBin (opF o) (dE a) (dE b)
  | .neg a => mNeg (dE a)
  | .cmp o a b => mBin (cmpF o) (dE a) (dE b)
  | .ch o o' a b c => mChain (cmpF o) (cmpF o') (dE a) (dE b) (dE c)
  | .bo o es => dB o es
  | .not a => mNot (dE a)
  | .ifx t a b => mIf (dT t) (dE a) (dE b)
  | .tup es => mTup (dL es)
  | .lst mt es => if mt then mLstM (dL es) else mLst (dL es)
  | .ix a b => mBin ixP (dE a) (dE b)
  | .sl a lo hi => mSl (dE a) (dO lo) (dO hi)
  | .call f es => mFn (C f) (dL es)
  | .bf f es => mCall (bfF f) (dL es)
  | .isi a t => mIsi (dE a) t
  | .isiT a t t' => mIsiT (dE a) t t'
  | .dicE => mDicE
  | .fld o f => mFld G (dE o) f
  | .mth o m es => mMth G C (dE o) m (dL es)
  | .mk c es => mMk G C c (dL es)
  | .app o es => mApp (dE o) (dL es)
  | .ext o es => mExt (dE o) (dL es)
  | .lc mt t it c e own => if mt then mLcM (dI it) (dG t) (own.map (·.2)) (dC c) (dE e) else mLc (dI it) (dG t) (own.map (·.2)) (dC c) (dE e)
  | .dgt j a => mDgt (G.dc.getD j []) (dE a)
  | .din neg a j => mDin neg (G.dc.getD j []) (dE a)
  | .dgd j a b => mDgd (G.dc.getD j []) (dE a) (dE b)
  | .opM o a b => mOwn (ownF o) (dE a) (dE b)
  | .lstC a => mLstC (dE a)
  | .sm m a b => mSm m (dE a) (dE b)
  | .dsel ks es k => mDsel ks (dL es) (dE k)
  | .fmt a => mFmt (dE a)
  | .fs es => dF es Str.empty
def dF : Es → Str → M D
  | .nil => fun acc => mC (.str acc)
  | .cons e es => mFc (dE e) (dF es)
def dL : Es → M (List D)
  | .nil => mNil
  | .cons e es => mCons (dE e) (dL es)
def dB (o : BoolOp) : Es → M D
  | .nil => fun _ _ => .bad
  | .cons e es => match es with
    | .nil => dE e
    | .cons _ _ => match o with
      | .And => mAnd (dE e) (dB o es)
      | .Or => mOr (dE e) (dB o es)
def dO : Oe → M (Option Int)
  | .none => mNo
  | .some e => mPart (dE e)
def dT : Tt → M Bool
  | .din neg a j => mBl (mDin neg (G.dc.getD j []) (dE a))
  | .bo o ts => dTB o ts
  | .not a => mNotT (dT a)
  | .cmp o a b => mBl (mBin (cmpF o) (dE a) (dE b))
  | .ch o o' a b c => mBl (mChain (cmpF o) (cmpF o') (dE a) (dE b) (dE c))
  | .tru e => mTru (dE e)
def dTB (o : BoolOp) : Tts → M Bool
  | .nil => fun _ _ => .bad
  | .cons t ts => match ts with
    | .nil => dT t
    | .cons _ _ => match o with
      | .And => mAndT (dT t) (dTB o ts)
      | .Or => mOrT (dT t) (dTB o ts)
def dC : Ot → M Bool
  | .none => mYes
  | .some t => dT t
def dG : Tg → GM
  | .nm i => gNm i
  | .tup ts => gTp (tgsLen ts) (dGs ts)
  | .sub o i => gSubM (dE o) (dE i)
def dGs : Tgs → List D → Sl → Sto → Option (Sl × Sto)
  | .nil => gsNil
  | .cons t ts => gsCons (dG t) (dGs ts)
def dI : It → M Src
  | .seq e => mSeq (dE e)
  | .rng1 a => mRng rng1 (dL a)
  | .rng2 a => mRng rng2 (dL a)
  | .zip a => mZip (dL a)
  | .enum a => mEnum (dL a)
end
end

/-! ### that it is what the text says -/
structure Tab where
  fns : List (Option Str × Nat)
  gl : List (Str × D)
  cls : List (Str × List Str × List (Str × Nat))
  exs : List (Str × List Nat)
  dcs : List (Str × List (Str × D))
def Tab.G (C : Tab) : Ev := ⟨C.gl.map (·.2), C.cls.map (·.2.1), C.cls.map (·.2.2), C.exs.map (·.2), C.dcs.map (·.2)⟩
def Tab.isD (C : Tab) (j : Nat) (y : Str) : Bool := match C.dcs[j]? with | some (z, _) => decide (z = y) | none => false
/-- exceptions are numbered behind the classes -/
def Tab.isX (C : Tab) (c : Nat) (y : Str) : Bool := decide (C.cls.length ≤ c) && (match C.exs[c - C.cls.length]? with | some (z, _) => decide (z = y) | none => false)
def Ev.xok (G : Ev) (c : Nat) : Bool := decide (G.cf.length ≤ c) && decide (c - G.cf.length < G.ex.length)
/-- of which classes the exception c is -/
def Ev.xin (G : Ev) (c j : Nat) : Bool := (G.ex.getD (c - G.cf.length) []).contains j
def Tab.ar (C : Tab) (i : Nat) : Option Nat := (C.fns[i]?).map (·.2)
def nmIs (y : Str) (s : String) : Bool := decide (y = Str.ofString s)
def dbgN (y : Str) : Bool := !(y == ("__debug__" : Str)) && !(y == ("__classdict__" : Str)) && !(y == ("__name__" : Str))
def visN (sc : Scope) (y : Str) : Bool := match sc.names.lookup y with
  | some .local => true
  | some .cell => true
  | some .free => true
  | _ => false
def gloN (sc : Scope) (y : Str) : Bool := decide (sc.names.lookup y = some .globalImplicit)
/-- a name that may be stored: a local; at a def's own level a cell too -/
def stoN (fl : Bool) (sc : Scope) (y : Str) : Bool := match sc.names.lookup y with
  | some .local => true
  | some .cell => fl
  | _ => false
def bfN : Bf → String
  | .len => "len" | .abs => "abs" | .int => "int" | .str => "str" | .tup => "tuple" | .lst => "list" | .max2 => "max" | .min2 => "min" | .repr => "repr" | .sum => "sum" | .max1 => "max" | .min1 => "min"
def bfTy : Bf → Bool
  | .int => true | .str => true | .tup => true | .lst => true | _ => false
/-- no star, no slice, no set display, no comprehension but a list's .. -/
def okX : Expr → Bool
  | .Name .. => true | .Constant .. => true | .BinOp .. => true | .UnaryOp .. => true | .Compare .. => true | .BoolOp .. => true | .IfExp .. => true
  | .Tuple .. => true | .List .. => true | .Subscript .. => true | .Call .. => true | .ListComp .. => true | .Attribute .. => true | .JoinedStr .. => true | .Dict .. => true | .FormattedValue .. => true
  | _ => false
/-- its truth is its value's -/
def okTru : Expr → Bool
  | .Name .. => true | .Constant .. => true | .BinOp .. => true | .Tuple .. => true | .List .. => true | .Subscript .. => true | .Call .. => true | .Attribute .. => true
  | _ => false
def noCall : Expr → Bool
  | .Name .. => true | .Subscript .. => true | .Attribute .. => true | .Constant .. => true | .BinOp .. => true
  | _ => false
def isTupX : Expr → Bool
  | .Tuple .. => true
  | _ => false
def keysB : List Str → List (Option Expr) → Bool
  | [], [] => true
  | k :: ks, some (.Constant (.str x) _ _) :: es => decide (x = k) && keysB ks es
  | _, _ => false
def okOp : Operator → Bool
  | .Add => true | .Sub => true | .Mult => true | .FloorDiv => true | .Mod => true | .Pow => true | _ => false
def cEq (d : D) (k : Const) : Bool := match d, k with
  | .int i, .int j => decide (i = j)
  | .str i, .str j => decide (i = j)
  | .bl i, .bool j => decide (i = j)
  | .non, .none => true
  | _, _ => false
section
variable (C : Tab) (N : List Str)
mutual
def chkE (fl : Bool) (sc : Scope) : E → Expr → Bool
  | .v i, x => match x with
    | .Name y _ => decide (N[i]? = some y) && visN sc y && dbgN y
    | _ => false
  | .c d, x => match x with
    | .Constant k _ _ => cEq d k
    | _ => false
  | .g j, x => match x with
    | .Name y _ => (match C.gl[j]? with | some (z, _) => decide (z = y) | none => false) && gloN sc y && dbgN y
    | _ => false
  | .op o a b, x => match x with
    | .BinOp l o' r _ => decide (o = o') && okOp o && chkE fl sc a l && chkE fl sc b r
    | _ => false
  | .neg a, x => match x with
    | .UnaryOp .USub l _ => chkE fl sc a l
    | _ => false
  | .cmp o a b, x => match x with
    | .Compare l [o'] [r] _ => decide (o = o') && chkE fl sc a l && chkE fl sc b r
    | _ => false
  | .ch o1 o2 a b c, x => match x with
    | .Compare l [p1, p2] [r, t] _ => decide (o1 = p1) && decide (o2 = p2) && chkE fl sc a l && chkE fl sc b r && chkE fl sc c t
    | _ => false
  | .bo o es, x => match x with
    | .BoolOp o' l _ => decide (o = o') && chkL fl sc es l
    | _ => false
  | .not a, x => match x with
    | .UnaryOp .Not l _ => chkE fl sc a l
    | _ => false
  | .ifx t a b, x => match x with
    | .IfExp c l r _ => chkT fl sc t c && chkE fl sc a l && chkE fl sc b r
    | _ => false
  | .tup es, x => match x with
    | .Tuple l _ _ => chkL fl sc es l
    | _ => false
  | .lst _ es, x => match x with
    | .List l _ => chkL fl sc es l
    | _ => false
  | .ix a b, x => match x with
    | .Subscript l r _ => chkE fl sc a l && chkE fl sc b r
    | _ => false
  | .sl a lo hi, x => match x with
    | .Subscript l (.Slice p q none _) _ => chkE fl sc a l && chkO fl sc lo p && chkO fl sc hi q
    | _ => false
  | .call f es, x => match x with
    | .Call (.Name y _) l [] _ => (match C.fns[f]? with | some (some z, n) => decide (z = y) && decide (l.length = n) | _ => false) && gloN sc y && dbgN y && chkL fl sc es l
    | _ => false
  | .bf f es, x => match x with
    | .Call (.Name y _) (l :: ls) [] _ => nmIs y (bfN f) && gloN sc y && chkL fl sc es (l :: ls)
    | _ => false
  | .isi a t, x => match x with
    | .Call (.Name y _) [l, .Name z _] [] _ => nmIs y "isinstance" && nmIs z t.nm && gloN sc y && gloN sc z && chkE fl sc a l
    | _ => false
  | .isiT a t t', x => match x with
    | .Call (.Name y _) [l, .Tuple [.Name z _, .Name z' _] _ _] [] _ => nmIs y "isinstance" && nmIs z t.nm && nmIs z' t'.nm && gloN sc y && gloN sc z && gloN sc z' && chkE fl sc a l
    | _ => false
  | .fld o f, x => match x with
    | .Attribute l g _ => decide (g = f) && noCall l && chkE fl sc o l
    | _ => false
  | .mth o m es, x => match x with
    | .Call (.Attribute l g ap) ys [] cp => decide (g = m) && noCall l && (ap.endLine == cp.line) && decide (ys.length < 20) && chkE fl sc o l && chkL fl sc es ys
    | _ => false
  | .mk c es, x => match x with
    | .Call (.Name y _) l [] _ => (match C.cls[c]? with | some (z, _, ms) => decide (z = y) && (ms.lookup ("__init__" : Str)).isSome | none => false) && gloN sc y && dbgN y && chkL fl sc es l
    | _ => false
  | .dicE, x => match x with
    | .Dict [] [] _ => true
    | _ => false
  | .app o es, x => match x with
    | .Call (.Attribute l m ap) [y] [] cp => nmIs m "append" && noCall l && (ap.endLine == cp.line) && chkE fl sc o l && chkL fl sc es [y]
    | _ => false
  | .ext o es, x => match x with
    | .Call (.Attribute l m ap) [y] [] cp => nmIs m "extend" && noCall l && (ap.endLine == cp.line) && chkE fl sc o l && chkL fl sc es [y]
    | _ => false
  | .lc _ t it c e own, x => match x with
    | .ListComp el [⟨tg, iter, ifs, as⟩] scope _ => decide (as = 0) && blkC N sc scope own && (tgSl t).all (fun i => (own.map (·.2)).contains i) && chkI fl sc it tg iter && chkG false (relS scope sc) t tg && chkC false (relS scope sc) c ifs && chkE false (relS scope sc) e el
    | _ => false
  | .dgt j a, x => match x with
    | .Subscript (.Name y _) r _ => C.isD j y && gloN sc y && dbgN y && chkE fl sc a r
    | _ => false
  | .din neg a j, x => match x with
    | .Compare l [o] [.Name y _] _ => decide (o = if neg then .NotIn else .In) && C.isD j y && gloN sc y && dbgN y && chkE fl sc a l
    | _ => false
  | .dgd j a b, x => match x with
    | .Call (.Attribute (.Name y _) g ap) [l, r] [] cp => nmIs g "get" && (ap.endLine == cp.line) && C.isD j y && gloN sc y && dbgN y && chkE fl sc a l && chkE fl sc b r
    | _ => false
  | .opM o a b, x => match x with
    | .BinOp l o' r _ => decide (o = o') && (match o with | .Add => true | .Mult => true | _ => false) && chkE fl sc a l && chkE fl sc b r
    | _ => false
  | .lstC a, x => match x with
    | .Call (.Name y _) [l] [] _ => nmIs y "list" && gloN sc y && chkE fl sc a l
    | _ => false
  | .sm m a b, x => match x with
    | .Call (.Attribute l g ap) [y] [] cp => nmIs g m.nm && noCall l && (ap.endLine == cp.line) && chkE fl sc a l && chkE fl sc b y
    | _ => false
  | .dsel ks es k, x => match x with
    | .Subscript (.Dict keys vals _) r _ => keysB ks keys && decide (ks.Nodup) && decide (ks ≠ []) && decide (ks.length ≤ 15) && decide (vals.length = ks.length) && chkL fl sc es vals && chkE fl sc k r
    | _ => false
  | .fmt a, x => match x with
    | .FormattedValue l (-1) none _ => chkE fl sc a l
    | _ => false
  | .fs es, x => match x with
    | .JoinedStr (l1 :: l2 :: ls) _ => chkL fl sc es (l1 :: l2 :: ls)
    | _ => false
def chkL (fl : Bool) (sc : Scope) : Es → List Expr → Bool
  | .nil, xs => xs.isEmpty
  | .cons e es, xs => match xs with
    | x :: rest => chkE fl sc e x && chkL fl sc es rest
    | [] => false
def chkO (fl : Bool) (sc : Scope) : Oe → Option Expr → Bool
  | .none, x => x.isNone
  | .some e, x => match x with
    | some y => chkE fl sc e y
    | none => false
def chkT (fl : Bool) (sc : Scope) : Tt → Expr → Bool
  | .din neg a j, x => match x with
    | .Compare l [o] [.Name y _] _ => decide (o = if neg then .NotIn else .In) && C.isD j y && gloN sc y && dbgN y && chkE fl sc a l
    | _ => false
  | .bo o ts, x => match x with
    | .BoolOp o' l _ => decide (o = o') && chkTs fl sc ts l
    | _ => false
  | .not a, x => match x with
    | .UnaryOp .Not l _ => chkT fl sc a l
    | _ => false
  | .cmp o a b, x => match x with
    | .Compare l [o'] [r] _ => decide (o = o') && chkE fl sc a l && chkE fl sc b r
    | _ => false
  | .ch o1 o2 a b c, x => match x with
    | .Compare l [p1, p2] [r, t] _ => decide (o1 = p1) && decide (o2 = p2) && chkE fl sc a l && chkE fl sc b r && chkE fl sc c t
    | _ => false
  | .tru e, x => okTru x && chkE fl sc e x
def chkTs (fl : Bool) (sc : Scope) : Tts → List Expr → Bool
  | .nil, xs => xs.isEmpty
  | .cons t ts, xs => match xs with
    | x :: rest => chkT fl sc t x && chkTs fl sc ts rest
    | [] => false
def chkC (fl : Bool) (sc : Scope) : Ot → List Expr → Bool
  | .none, xs => xs.isEmpty
  | .some t, xs => match xs with
    | [x] => chkT fl sc t x
    | _ => false
def chkG (fl : Bool) (sc : Scope) : Tg → Expr → Bool
  | .nm i, x => match x with
    | .Name y _ => decide (N[i]? = some y) && stoN fl sc y
    | _ => false
  | .tup ts, x => match x with
    | .Tuple l _ _ => chkGs fl sc ts l
    | _ => false
  | .sub o i, x => match x with
    | .Subscript l r _ => chkE fl sc o l && chkE fl sc i r
    | _ => false
def chkGs (fl : Bool) (sc : Scope) : Tgs → List Expr → Bool
  | .nil, xs => xs.isEmpty
  | .cons t ts, xs => match xs with
    | x :: rest => chkG fl sc t x && chkGs fl sc ts rest
    | [] => false
def chkI (fl : Bool) (sc : Scope) : It → Expr → Expr → Bool
  | .seq e, _, x => chkE fl sc e x
  | .rng1 a, _, x => match x with
    | .Call (.Name y _) [l] [] _ => nmIs y "range" && gloN sc y && chkL fl sc a [l]
    | _ => false
  | .rng2 a, _, x => match x with
    | .Call (.Name y _) [l, r] [] _ => nmIs y "range" && gloN sc y && chkL fl sc a [l, r]
    | _ => false
  | .zip a, tg, x => match x with
    | .Call (.Name y _) [l, r] [] _ => isTupX tg && nmIs y "zip" && gloN sc y && chkL fl sc a [l, r]
    | _ => false
  | .enum a, tg, x => match x with
    | .Call (.Name y _) [l] [] _ => isTupX tg && nmIs y "enumerate" && gloN sc y && chkL fl sc a [l]
    | _ => false
end
end
end Z

/-! Z layer, part K: expressions keep what their meaning says. -/
namespace Z
open PySem PySem.Spec PyProof.Rows L2

def bltN : List String := ["len", "abs", "int", "str", "tuple", "list", "max", "min", "repr", "isinstance", "range", "bool", "sum", "zip", "enumerate", "sorted"]
/-- facts of the exception classes -/
structure ExcZ (K : PySem.W.Frag) (mg : Str → Option Value) (C : Tab) (ca : Nat → Addr) : Prop where
  at_ : ∀ (c : Nat) (x : Str), C.isX c x = true → mg x = some (.ref (ca c)) ∧ PySem.W.excIn K (ca c) He.veBase "ValueError.__new__" = true ∧ PySem.W.keepIn K (.ref (ca c)) = true ∧ PySem.W.subIn K (.ref (ca c)) (.type "BaseException") = some true ∧ PySem.W.typeIn K (.ref (ca c)) = some (.type "type")
  exm : ∀ (c j : Nat) (x y : Str), C.isX c x = true → C.isX j y = true → PySem.W.exmOne K (.ref (ca c)) (.ref (ca j)) = some (C.G.xin c j)
/-- facts of the module's dicts -/
def DcZ (P : Program) (w : World) (K : PySem.W.Frag) (mg : Str → Option Value) (C : Tab) : Prop := ∀ (j : Nat) (y : Str), C.isD j y = true → ∃ a, mg y = some (.ref a) ∧ DKZ P w K a (C.G.dc.getD j [])
structure Cxt (C : Tab) (ca fa : Nat → Addr) (call : Nat → List D → Sto → Out D) (k : Nat) (N : List Str) (fl : Bool) (sc : Scope) (X : Cx) (W : WX) : Prop where
  scp : X.env.scope = sc
  kind : sc.kind = .function
  calm : X.calm = true
  nm : X.N = N
  nd : N.Nodup
  fn : fl = true → ∀ x, X.fn x = true
  room : Room (k + 1) X.A
  gd : X.A.guards = some []
  tk : Takes X W
  po : PassesOwn (model X.prog X.w) X.A X.env X.xe
  blt : ∀ x ∈ bltN, X.mg (Str.ofString x) = none
  gl : ∀ (j : Nat) (x : Str) (d : D), C.gl[j]? = some (x, d) → ∃ u v, X.mg x = some u ∧ RelV v u ∧ ∀ H r, Rep X.K H r d v
  fz : FnsZ X ca fa k C.ar call
  fg : ∀ (f : Nat) (x : Str) (n : Nat), C.fns[f]? = some (some x, n) → X.mg x = some (.ref (fa f)) ∧ PySem.W.keepIn X.K (.ref (fa f)) = true
  cz : ClsZ X.K ca fa C.G
  mz : MtZ C.G C.ar
  cg : ∀ (c : Nat) (x : Str) (fs : List Str) (ms : List (Str × Nat)) (i : Nat), C.cls[c]? = some (x, fs, ms) → ms.lookup ("__init__" : Str) = some i → X.mg x = some (.ref (ca c)) ∧ Mk X.K (ca c) (fa i)
  st : fl = true → X.stack = X.env :: X.outer ∧ X.env.frame = some X.env.locals
  xz : ExcZ X.K X.mg C ca
  dz : DcZ X.prog X.w X.K X.mg C

theorem okX_of {C : Tab} {N : List Str} {fl : Bool} {sc : Scope} {e : E} {x : Expr} (h : chkE C N fl sc e x = true) : okX x = true := by
  cases e <;> (unfold chkE at h; split at h <;> first | rfl | (cases h; done))
theorem star_ok {x : Expr} (h : okX x = true) (es : List Expr) (env : Env) : starEach (x :: es) env = (false, eval x env) :: starEach es env := by
  cases x <;> first | rfl | (cases h; done)
theorem ix_ok {x : Expr} (h : okX x = true) : PlainIx x := by
  cases x <;> first | exact (fun _ _ => rfl) | (cases h; done)
theorem mark_ok {x : Expr} (h : okX x = true) (o : CmpOp) : behindInMarks o x = false := by
  cases x <;> first | rfl | (cases h; done)
theorem last_ok {x y : Expr} (h : okX y = true) (o o' : CmpOp) : lastMarks [o, o'] [x, y] = false := mark_ok h o'
theorem fold_ok {x : Expr} (h : okX x = true) (env : Env) (v : Value) : foldedSetIterable x env v = pure v := by
  cases x <;> first | rfl | (cases h; done)
theorem tru_ok {x : Expr} (h : okTru x = true) (env : Env) (wh : Sem Value) : isTrue x env wh = (do let v ← wh; standAt x.pos; holding [v] (truthy v)) := by
  cases x <;> first | rfl | (cases h; done)
theorem base_ok {x : Expr} (h : noCall x = true) (m : Str) (env : Env) : attributeBase x m env (eval x env) = eval x env := by
  cases x <;> first | rfl | (cases h; done)
theorem meth_ok {o : Expr} (h : noCall o = true) (m : Str) (ap pos : Pos) (args : List Expr) (env : Env) (hst : (backTo pos (starEach args env)).all (fun x => !x.1) = true) (hl : args.length < 20) (hp : (ap.endLine == pos.line) = true) : ∃ pl : Sem Bool, eval (.Call (.Attribute o m ap) args [] pos) env = (do
      let ov ← eval o env
      standAt ap.atName
      let (f, first) ← holding [ov] (getMethod ov m pl)
      callWith pos f first (backTo pos (starEach args env)) (backToKw pos (keywordEach [] env))) := by
  have few : methodCallForm (args.length + ([] : List Keyword).length) (backTo pos (starEach args env)) (backToKw pos (keywordEach [] env)) = true := by
    unfold methodCallForm
    rw [hst]
    show (true && true && decide (args.length + 0 + 0 < 30)) = true
    simp; omega
  refine ⟨(do return (← importBound o env).getD true), ?_⟩
  rw [arm_eval_Call, base_ok h]
  unfold methodCall
  rw [few]
  unfold calleeOf methodCallPos
  simp only [hp, Bool.not_true, Bool.false_or, ↓reduceIte, pure_bind]
theorem asub_ok {o i : Expr} (h : okX i = true) (pos : Pos) (env : Env) (v : Value) : assign (.Subscript o i pos) env v = (do
      let ov ← holding [v] (eval o env)
      let iv ← holding [v, ov] (eval i env)
      standAt pos
      holding [v, ov, iv] (setItem ov iv v)
      release [v, ov, iv] []) := by
  cases i <;> first | rfl | (cases h; done)
theorem vis_of {sc : Scope} {y : Str} (h : visN sc y = true) : Vis sc y := by
  unfold visN at h
  split at h <;> first | exact .inl (by assumption) | exact .inr (.inl (by assumption)) | exact .inr (.inr (by assumption)) | (cases h; done)
theorem sto_of {fl : Bool} {sc : Scope} {y : Str} (h : stoN fl sc y = true) : Loc sc y ∧ (fl = true ∨ sc.names.lookup y = some .local) := by
  unfold stoN at h
  split at h
  · rename_i e; exact ⟨.inl e, .inr e⟩
  · rename_i e; exact ⟨.inr e, .inl h⟩
  · cases h
theorem dbg_of {y : Str} (h : dbgN y = true) : (y == ("__debug__" : Str)) = false ∧ (y == ("__classdict__" : Str)) = false ∧ y ≠ "__name__" := by
  unfold dbgN at h
  simp only [Bool.and_eq_true, Bool.not_eq_true'] at h
  exact ⟨h.1.1, h.1.2, fun e => by have := h.2; rw [e] at this; simp at this⟩

section
variable {C : Tab} {ca fa : Nat → Addr} {call : Nat → List D → Sto → Out D} {k : Nat}

theorem chkL_len {N : List Str} {fl : Bool} {sc : Scope} : ∀ {es : Es} {xs : List Expr}, chkL C N fl sc es xs = true → ∀ sd S ds S1, dL C.G call es sd S = .ok ds S1 → ds.length = xs.length
  | .nil, xs, h, sd, S, ds, S1, e => by
    unfold chkL at h
    unfold dL at e
    cases xs with
    | nil => unfold mNil at e; cases e; rfl
    | cons _ _ => cases h
  | .cons a es, xs, h, sd, S, ds, S1, e => by
    unfold chkL at h
    split at h
    · rename_i x rest
      rw [Bool.and_eq_true] at h
      unfold dL mCons at e
      cases e1 : dE C.G call a sd S with
      | bad => rw [e1] at e; cases e
      | exc _ _ _ => rw [e1] at e; cases e
      | ok d S2 =>
        rw [e1] at e
        simp only [Out.bind] at e
        cases e2 : dL C.G call es sd S2 with
        | bad => rw [e2] at e; cases e
        | exc _ _ _ => rw [e2] at e; cases e
        | ok ds2 S3 =>
          rw [e2] at e
          cases e
          rw [List.length_cons, List.length_cons, chkL_len h.2 sd S2 ds2 _ e2]
    · cases h
theorem back_ok {N : List Str} {fl : Bool} {sc : Scope} : ∀ {es : Es} {xs : List Expr}, chkL C N fl sc es xs = true → ∀ (pos : Pos) (env : Env), (backTo pos (starEach xs env)).any (·.1) = false
  | .nil, xs, h, pos, env => by
    unfold chkL at h
    cases xs with
    | nil => rfl
    | cons _ _ => cases h
  | .cons a es, xs, h, pos, env => by
    unfold chkL at h
    split at h
    · rename_i x rest
      rw [Bool.and_eq_true] at h
      rw [star_ok (okX_of h.1)]
      exact back_ok h.2 pos env
    · cases h
theorem asgE_ok {N : List Str} {fl : Bool} {sc : Scope} : ∀ {ts : Tgs} {xs : List Expr}, chkGs C N fl sc ts xs = true → ∀ (env : Env), (assignEach xs env).length = tgsLen ts ∧ (assignEach xs env).findIdx? (·.1) = none
  | .nil, xs, h, env => by
    unfold chkGs at h
    cases xs with
    | nil => exact ⟨rfl, rfl⟩
    | cons _ _ => cases h
  | .cons t ts, xs, h, env => by
    unfold chkGs at h
    split at h
    · rename_i x rest
      rw [Bool.and_eq_true] at h
      have hx : assignEach (x :: rest) env = (false, assign x env) :: assignEach rest env := by
        have := h.1
        cases t <;> (unfold chkG at this; split at this <;> first | rfl | (cases this; done))
      obtain ⟨h1, h2⟩ := asgE_ok h.2 env
      rw [hx]
      refine ⟨by rw [List.length_cons, h1]; rfl, ?_⟩
      rw [List.findIdx?_cons]
      simp [h2]
    · cases h
theorem asg1_ok {N : List Str} {fl : Bool} {sc : Scope} {t : Tg} {x : Expr} (h : chkG C N fl sc t x = true) (rest : List Expr) (env : Env) : assignEach (x :: rest) env = (false, assign x env) :: assignEach rest env := by
  cases t <;> (unfold chkG at h; split at h <;> first | rfl | (cases h; done))

theorem okI {it : It} {N : List Str} {fl : Bool} {sc : Scope} {tg x : Expr} (h : chkI C N fl sc it tg x = true) : okX x = true := by
  cases it with
  | seq e => unfold chkI at h; exact okX_of h
  | rng1 a => unfold chkI at h; split at h <;> first | rfl | (cases h; done)
  | rng2 a => unfold chkI at h; split at h <;> first | rfl | (cases h; done)
  | zip a => unfold chkI at h; split at h <;> first | rfl | (cases h; done)
  | enum a => unfold chkI at h; split at h <;> first | rfl | (cases h; done)
theorem dF_str : ∀ (es : Es) (acc : Str) (sd : Sl) (S : Sto) (d : D) (S1 : Sto), dF C.G call es acc sd S = .ok d S1 → ∃ z, d = .str z
  | .nil, acc, sd, S, d, S1, h => by unfold dF at h; cases h; exact ⟨_, rfl⟩
  | .cons e es, acc, sd, S, d, S1, h => by
    unfold dF mFc at h
    cases e1 : dE C.G call e sd S with
    | bad => rw [e1] at h; cases h
    | exc _ _ _ => rw [e1] at h; cases h
    | ok x S2 =>
      rw [e1] at h
      simp only [Out.bind] at h
      split at h
      · split at h
        · exact dF_str es _ sd S2 d S1 h
        · cases h
      · cases h
theorem cmp_rule {X : Cx} (hu : X.A.units + 64 < cLine) (o : CmpOp) : ∃ R, OpR X (compareOp o) R ∧ OpZ X.K ca R (cmpF o) := by
  cases o with
  | Eq => exact ⟨_, or_eq hu, oz_eq⟩
  | NotEq => exact ⟨_, or_ne hu, oz_ne⟩
  | Lt => exact ⟨_, op_lt, oz_cmp⟩
  | LtE => exact ⟨_, op_le, oz_cmp⟩
  | Gt => exact ⟨_, op_gt, oz_cmp⟩
  | GtE => exact ⟨_, op_ge, oz_cmp⟩
  | Is => exact ⟨_, op_isN, oz_isN⟩
  | IsNot => exact ⟨_, op_notN, oz_notN⟩
  | In => exact ⟨_, or_in, oz_in⟩
  | NotIn => exact ⟨_, or_notIn, oz_notIn⟩
theorem op_rule {X : Cx} (o : Operator) (h : okOp o = true) : ∃ R, OpR X (binaryOp o) R ∧ OpZ X.K ca R (opF o) := by
  cases o with
  | Add => exact ⟨_, or_add, oz_add⟩
  | Sub => exact ⟨_, or_sub, oz_sub⟩
  | Mult => exact ⟨_, or_mul, oz_mul⟩
  | FloorDiv => exact ⟨_, op_fdiv, oz_fdiv⟩
  | Mod => exact ⟨_, op_mod, oz_mod⟩
  | Pow => exact ⟨_, op_pow, oz_pow⟩
  | _ => cases h
theorem z_neg {X : Cx} {W : WX} {a : Expr} {ma : M D} {pos : Pos} (ha : PE X a (rE X.K ca W ma)) : PE X (.UnaryOp .USub a pos) (rE X.K ca W (mNeg ma)) := PE.imp (pe_un un_neg ha) fun s H Q ⟨sd, r, S, hs, m, h⟩ =>
  ⟨sd, r, S, hs, m, h.bind fun d1 S1 v1 H1 r1 x1 m1 q1 h1 => by
    obtain ⟨d, e, kk⟩ := lift_ln h1
    unfold negD at e
    split at e
    · cases e; cases q1
      exact ⟨_, rfl, kk _ _ r1 (Ext.refl ..) m1 (.int _)⟩
    · cases e⟩
theorem bf_rule {X : Cx} {fl : Bool} {sc : Scope} {W : WX} {N : List Str} (cx : Cxt C ca fa call k N fl sc X W) (f : Bf) {y : Str} {p pos : Pos} {l : Expr} {ls : List Expr} {ml : M (List D)} (hy : y = Str.ofString (bfN f)) (hg : Gl X y) (ha : PA X (l :: ls) (rA X.K ca W ml))
    (he : starEach (l :: ls) X.env = (false, eval l X.env) :: starEach ls X.env) (hpl : (backTo pos (starEach ls X.env)).any (·.1) = false) : PE X (.Call (.Name y p) (l :: ls) [] pos) (rE X.K ca W (mCall (bfF f) ml)) := by
  have hu := cx.room.units
  have hm : X.mg y = none := by rw [hy]; exact cx.blt _ (by cases f <;> simp [bltN, bfN])
  cases f with
  | len => subst hy; exact z_callB (id := "len") call_len cz_len hg hm (by decide +kernel) ha (by decide) (by decide) he hpl
  | abs => subst hy; exact z_callB (id := "abs") call_abs cz_abs hg hm (by decide +kernel) ha (by decide) (by decide) he hpl
  | int => subst hy; exact z_callT (id := "int") or_int cz_int hg hm (by decide +kernel) ha (by decide) (by decide) he hpl
  | str => subst hy; exact z_callT (id := "str") (call_str_int.or SkE.call_str_str) cz_str hg hm (by decide +kernel) ha (by decide) (by decide) he hpl
  | tup => subst hy; exact z_callT (id := "tuple") call_tuple_of cz_tup hg hm (by decide +kernel) ha (by decide) (by decide) he hpl
  | lst => subst hy; exact z_callT (id := "list") call_list_of cz_lst hg hm (by decide +kernel) ha (by decide) (by decide) he hpl
  | max2 => subst hy; exact z_callB (id := "max") (call_max2 cx.calm) cz_max2 hg hm (by decide +kernel) ha (by decide) (by decide) he hpl
  | min2 => subst hy; exact z_callB (id := "min") (call_min2 cx.calm) cz_min2 hg hm (by decide +kernel) ha (by decide) (by decide) he hpl
  | sum => subst hy; exact z_callB (id := "sum") (cr_sum cx.calm) cz_sum hg hm (by decide +kernel) ha (by decide) (by decide) he hpl
  | max1 => subst hy; exact z_callB (id := "max") (cr_max cx.calm) cz_max1 hg hm (by decide +kernel) ha (by decide) (by decide) he hpl
  | min1 => subst hy; exact z_callB (id := "min") (cr_min cx.calm) cz_min1 hg hm (by decide +kernel) ha (by decide) (by decide) he hpl
  | repr => subst hy; exact z_callB (id := "repr") (cr_repr cx.gd hu) cz_repr hg hm (by decide +kernel) ha (by decide) (by decide) he hpl
theorem Cxt.blk {N : List Str} {fl : Bool} {sc : Scope} {X : Cx} {W : WX} (cx : Cxt C ca fa call k N fl sc X W) (s : Shared) (H : Hp) (scope : Scope) (hk : scope.kind = .function) (cl : List (Str × Addr)) (A : Addr) (fp : List Addr) :
    Cxt C ca fa call k N false (relS scope sc) (X.blk s H scope (compEnvC scope cl A X.env) fp) W0 := by
  obtain rfl := cx.scp
  exact ⟨rfl, hk, cx.calm, cx.nm, cx.nd, fun z => (by cases z), cx.room, cx.gd, takes0, PassesOwn.never, cx.blt, cx.gl, ⟨cx.fz.ok, cx.fz.bad, cx.fz.no⟩, cx.fg, cx.cz, cx.mz, cx.cg, fun z => (by cases z), cx.xz, cx.dz⟩

mutual
theorem soundE : ∀ (e : E) {N : List Str} {fl : Bool} {sc : Scope} {X : Cx} {W : WX} {x : Expr}, Cxt C ca fa call k N fl sc X W → chkE C N fl sc e x = true → PE X x (rE X.K ca W (dE C.G call e))
  | .v i, N, fl, sc, X, W, x, cx, h => by
    unfold chkE at h
    split at h
    · simp only [Bool.and_eq_true, decide_eq_true_eq] at h
      obtain ⟨⟨h1, h2⟩, h3⟩ := h
      obtain ⟨d1, d2, _⟩ := dbg_of h3
      exact z_var (pe_var (by rw [cx.nm]; exact h1) (by rw [cx.scp]; exact vis_of h2) d1 d2)
    · cases h
  | .c d, N, fl, sc, X, W, x, cx, h => by
    unfold chkE at h
    split at h
    · unfold cEq at h
      split at h
      · have := of_decide_eq_true h; subst this; exact z_c pe_int fun _ _ => .int _
      · have := of_decide_eq_true h; subst this; exact z_c pe_str fun _ _ => .str _
      · have := of_decide_eq_true h; subst this; exact z_c pe_bl fun _ _ => .bl _
      · exact z_c pe_non fun _ _ => .non
      · cases h
    · cases h
  | .g j, N, fl, sc, X, W, x, cx, h => by
    unfold chkE at h
    split at h
    · rename_i y p
      simp only [Bool.and_eq_true] at h
      obtain ⟨⟨h1, h2⟩, h3⟩ := h
      split at h1
      · rename_i z d e
        have := of_decide_eq_true h1
        subst this
        obtain ⟨u, v, hm, rv, rp⟩ := cx.gl j z d e
        have hG : C.G.g[j]? = some d := by show (C.gl.map (·.2))[j]? = _; rw [List.getElem?_map, e]; rfl
        refine PE.imp (pe_glob (v := v) (u := u) (by unfold Gl Env.kindOf; rw [cx.scp]; exact of_decide_eq_true h2) hm rv (dbg_of h3).1) fun s H Q ⟨sd, r, S, hs, m, hh⟩ => ?_
        unfold dE mG at hh
        rw [hG] at hh
        exact hh.ok m (rp H r)
      · cases h1
    · cases h
  | .op o a b, N, fl, sc, X, W, x, cx, h => by
    unfold chkE at h
    split at h
    · simp only [Bool.and_eq_true, decide_eq_true_eq] at h
      obtain ⟨⟨⟨h0, h1⟩, h2⟩, h3⟩ := h
      subst h0
      obtain ⟨R, r1, r2⟩ := op_rule (X := X) (ca := ca) o h1
      exact z_bin r1 r2 (soundE a cx h2) (soundE b cx h3)
    · cases h
  | .neg a, N, fl, sc, X, W, x, cx, h => by
    unfold chkE at h
    split at h
    · exact z_neg (soundE a cx h)
    · cases h
  | .cmp o a b, N, fl, sc, X, W, x, cx, h => by
    unfold chkE at h
    split at h
    · simp only [Bool.and_eq_true, decide_eq_true_eq] at h
      obtain ⟨⟨h0, h2⟩, h3⟩ := h
      subst h0
      obtain ⟨R, r1, r2⟩ := cmp_rule (X := X) (ca := ca) cx.room.units o
      exact z_cmp r1 r2 (soundE a cx h2) (soundE b cx h3) (mark_ok (okX_of h3) o)
    · cases h
  | .ch o o' a b c, N, fl, sc, X, W, x, cx, h => by
    unfold chkE at h
    split at h
    · simp only [Bool.and_eq_true, decide_eq_true_eq] at h
      obtain ⟨⟨⟨⟨h0, h1⟩, h2⟩, h3⟩, h4⟩ := h
      subst h0 h1
      obtain ⟨R, r1, r2⟩ := cmp_rule (X := X) (ca := ca) cx.room.units o
      obtain ⟨R', r1', r2'⟩ := cmp_rule (X := X) (ca := ca) cx.room.units o'
      exact z_chain r1 r1' r2 r2' (soundE a cx h2) (soundE b cx h3) (soundE c cx h4) (last_ok (okX_of h4) o o')
    · cases h
  | .bo o es, N, fl, sc, X, W, x, cx, h => by
    unfold chkE at h
    split at h
    · simp only [Bool.and_eq_true, decide_eq_true_eq] at h
      obtain ⟨h0, h1⟩ := h
      subst h0
      exact soundB o es cx h1
    · cases h
  | .not a, N, fl, sc, X, W, x, cx, h => by
    unfold chkE at h
    split at h
    · exact z_not (soundE a cx h)
    · cases h
  | .ifx t a b, N, fl, sc, X, W, x, cx, h => by
    unfold chkE at h
    split at h
    · simp only [Bool.and_eq_true] at h
      exact z_ifx (soundT t cx h.1.1) (soundE a cx h.1.2) (soundE b cx h.2)
    · cases h
  | .tup es, N, fl, sc, X, W, x, cx, h => by
    unfold chkE at h
    split at h
    · exact z_tup (soundL es cx h)
    · cases h
  | .lst mt es, N, fl, sc, X, W, x, cx, h => by
    unfold chkE at h
    split at h
    · unfold dE
      cases mt with
      | true => exact z_lstM (soundL es cx h)
      | false => exact z_lst (soundL es cx h)
    · cases h
  | .ix a b, N, fl, sc, X, W, x, cx, h => by
    unfold chkE at h
    split at h
    · simp only [Bool.and_eq_true] at h
      exact z_ix (soundE a cx h.1) (soundE b cx h.2) (ix_ok (okX_of h.2))
    · cases h
  | .sl a lo hi, N, fl, sc, X, W, x, cx, h => by
    unfold chkE at h
    split at h
    · simp only [Bool.and_eq_true] at h
      exact z_sl (soundE a cx h.1.1) (soundO lo cx h.1.2) (soundO hi cx h.2)
    · cases h
  | .call f es, N, fl, sc, X, W, x, cx, h => by
    unfold chkE at h
    split at h
    · rename_i y p l pos
      simp only [Bool.and_eq_true] at h
      obtain ⟨⟨⟨h1, h2⟩, h3⟩, h4⟩ := h
      split at h1
      · rename_i z n e
        rw [Bool.and_eq_true, decide_eq_true_eq, decide_eq_true_eq] at h1
        obtain ⟨rfl, hl⟩ := h1
        obtain ⟨hm, kp⟩ := cx.fg f z n e
        obtain ⟨fd, ps, hp, bn, F⟩ := cx.fz.ok f n (by unfold Tab.ar; rw [e]; rfl)
        have room := cx.room.mono (Nat.le_succ k)
        have hg : Gl X z := by unfold Gl Env.kindOf; rw [cx.scp]; exact of_decide_eq_true h2
        have hn : ∀ sd S ds S1, dL C.G call es sd S = .ok ds S1 → ds.length = n := fun sd S ds S1 e1 => by rw [chkL_len h4 sd S ds S1 e1]; exact hl
        have hL := soundL es (X := X) (W := W) cx h4
        cases l with
        | nil =>
          cases es with
          | cons _ _ => unfold chkL at h4; cases h4
          | nil =>
            refine PE.imp (pe_callZ0 F room cx.gd hg hm kp bn cx.tk (dbg_of h3).1) fun s H Q hh => ?_
            obtain ⟨sd, r, S, hs, m, hh⟩ := hh
            unfold dE dL mFn mNil at hh
            exact ⟨by rw [← hl]; rfl, [], r, S, .nil, m, hh⟩
        | cons l0 ls =>
          have hok : okX l0 = true := by
            cases es with
            | nil => unfold chkL at h4; cases h4
            | cons e0 es0 =>
              unfold chkL at h4
              rw [Bool.and_eq_true] at h4
              exact okX_of h4.1
          have hb : (backTo pos (starEach ls X.env)).any (·.1) = false := by
            cases es with
            | nil => unfold chkL at h4; cases h4
            | cons e0 es0 =>
              unfold chkL at h4
              rw [Bool.and_eq_true] at h4
              exact back_ok h4.2 pos X.env
          exact PE.imp (pe_callZ F room cx.gd hg hm kp bn cx.tk hL (dbg_of h3).1 (star_ok hok ls X.env) hb) fun s H Q hh => fn_in hn hh
      · cases h1
    · cases h
  | .bf f es, N, fl, sc, X, W, x, cx, h => by
    unfold chkE at h
    split at h
    · rename_i y p l ls pos
      simp only [Bool.and_eq_true] at h
      obtain ⟨⟨h1, h2⟩, h4⟩ := h
      have hg : Gl X y := by unfold Gl Env.kindOf; rw [cx.scp]; exact of_decide_eq_true h2
      have hL := soundL es (X := X) (W := W) cx h4
      have hok : okX l = true ∧ (backTo pos (starEach ls X.env)).any (·.1) = false := by
        cases es with
        | nil => unfold chkL at h4; cases h4
        | cons e0 es0 =>
          unfold chkL at h4
          rw [Bool.and_eq_true] at h4
          exact ⟨okX_of h4.1, back_ok h4.2 pos X.env⟩
      exact bf_rule cx f (of_decide_eq_true h1) hg hL (star_ok hok.1 ls X.env) hok.2
    · cases h
  | .isi a t, N, fl, sc, X, W, x, cx, h => by
    unfold chkE at h
    split at h
    · rename_i y p l z p2 pos
      simp only [Bool.and_eq_true] at h
      obtain ⟨⟨⟨⟨h1, h2⟩, h3⟩, h4⟩, h5⟩ := h
      have hg : Gl X y := by unfold Gl Env.kindOf; rw [cx.scp]; exact of_decide_eq_true h3
      have hg2 : Gl X z := by unfold Gl Env.kindOf; rw [cx.scp]; exact of_decide_eq_true h4
      have e1 := of_decide_eq_true h1
      have e2 := of_decide_eq_true h2
      subst e1 e2
      refine z_isi (x := "isinstance") hg (cx.blt "isinstance" (by decide)) hg2 (cx.blt t.nm (by cases t <;> decide)) ?_ ?_ ?_ (soundE a cx h5) (star_ok (okX_of h5) _ _)
      · cases t <;> decide +kernel
      · cases t <;> decide
      · cases t <;> decide
    · cases h
  | .isiT a t t', N, fl, sc, X, W, x, cx, h => by
    unfold chkE at h
    split at h
    · rename_i y p l z p2 z' p3 k p4 pos
      simp only [Bool.and_eq_true] at h
      obtain ⟨⟨⟨⟨⟨⟨h1, h2⟩, h2'⟩, h3⟩, h4⟩, h4'⟩, h5⟩ := h
      have hg : Gl X y := by unfold Gl Env.kindOf; rw [cx.scp]; exact of_decide_eq_true h3
      have hg2 : Gl X z := by unfold Gl Env.kindOf; rw [cx.scp]; exact of_decide_eq_true h4
      have hg3 : Gl X z' := by unfold Gl Env.kindOf; rw [cx.scp]; exact of_decide_eq_true h4'
      have e1 := of_decide_eq_true h1
      have e2 := of_decide_eq_true h2
      have e3 := of_decide_eq_true h2'
      subst e1 e2 e3
      refine z_isiT hg (cx.blt "isinstance" (by decide)) hg2 (cx.blt t.nm (by cases t <;> decide)) ?_ ?_ ?_ hg3 (cx.blt t'.nm (by cases t' <;> decide)) ?_ ?_ ?_ (soundE a cx h5) (star_ok (okX_of h5) _ _)
      · cases t <;> decide +kernel
      · cases t <;> decide
      · cases t <;> decide
      · cases t' <;> decide +kernel
      · cases t' <;> decide
      · cases t' <;> decide
    · cases h
  | .fld o f, N, fl, sc, X, W, x, cx, h => by
    unfold chkE at h
    split at h
    · rename_i l g p
      simp only [Bool.and_eq_true, decide_eq_true_eq] at h
      obtain ⟨⟨rfl, h2⟩, h3⟩ := h
      exact z_fld cx.cz (soundE o cx h3) (base_ok h2 _ _)
    · cases h
  | .mth o m es, N, fl, sc, X, W, x, cx, h => by
    unfold chkE at h
    split at h
    · rename_i l g ap ys cp
      simp only [Bool.and_eq_true, decide_eq_true_eq] at h
      obtain ⟨⟨⟨⟨⟨rfl, h2⟩, h3⟩, h6⟩, h4⟩, h5⟩ := h
      have hL := soundL es (X := X) (W := W) cx h5
      have room := cx.room.mono (Nat.le_succ k)
      cases ys with
      | nil =>
        cases es with
        | cons _ _ => unfold chkL at h5; cases h5
        | nil =>
          obtain ⟨pl, ht⟩ := meth_ok h2 g ap cp [] X.env rfl (by simp) h3
          exact PE.imp (pe_methZ0 (soundE o cx h4) room cx.gd cx.tk ht) fun s H Q hh => mth_in0 cx.cz cx.fz cx.mz hh
      | cons y0 ys =>
        have hok : okX y0 = true := by
          cases es with
          | nil => unfold chkL at h5; cases h5
          | cons e0 es0 => unfold chkL at h5; rw [Bool.and_eq_true] at h5; exact okX_of h5.1
        have hb : (backTo cp (starEach ys X.env)).any (·.1) = false := by
          cases es with
          | nil => unfold chkL at h5; cases h5
          | cons e0 es0 => unfold chkL at h5; rw [Bool.and_eq_true] at h5; exact back_ok h5.2 cp X.env
        have hall : (backTo cp (starEach (y0 :: ys) X.env)).all (fun x => !x.1) = true := by
          rw [star_ok hok ys X.env]
          show (true && (backTo cp (starEach ys X.env)).all (fun x => !x.1)) = true
          rw [Bool.true_and, List.all_eq_true]
          intro z hz
          have := List.any_eq_false.mp hb z hz
          simpa using this
        obtain ⟨pl, ht⟩ := meth_ok h2 g ap cp (y0 :: ys) X.env hall h6 h3
        exact PE.imp (pe_methZ (soundE o cx h4) room cx.gd cx.tk hL (star_ok hok ys X.env) hb ht) fun s H Q hh => mth_in cx.cz cx.fz cx.mz hh
    · cases h
  | .mk c es, N, fl, sc, X, W, x, cx, h => by
    unfold chkE at h
    split at h
    · rename_i y p l pos
      simp only [Bool.and_eq_true] at h
      obtain ⟨⟨⟨h1, h2⟩, h3⟩, h4⟩ := h
      split at h1
      · rename_i z fs ms e
        rw [Bool.and_eq_true, decide_eq_true_eq] at h1
        obtain ⟨rfl, hI⟩ := h1
        obtain ⟨i, hi⟩ := Option.isSome_iff_exists.mp hI
        obtain ⟨hm, M⟩ := cx.cg c z fs ms i e hi
        have hi' : C.G.mth c "__init__" = some i := by
          unfold Ev.mth
          have : C.G.mt.getD c [] = ms := by
            show (C.cls.map (·.2.2)).getD c [] = ms
            rw [List.getD_eq_getElem?_getD, List.getElem?_map, e]; rfl
          rw [this]; exact hi
        obtain ⟨n, en⟩ := cx.mz c _ i hi'
        obtain ⟨fd, ps, _, bn, F⟩ := cx.fz.ok i n en
        have hg : Gl X z := by unfold Gl Env.kindOf; rw [cx.scp]; exact of_decide_eq_true h2
        have hL := soundL es (X := X) (W := W) cx h4
        cases l with
        | nil =>
          cases es with
          | cons _ _ => unfold chkL at h4; cases h4
          | nil => exact PE.imp (pe_makeZ0 M F cx.room cx.gd hg hm bn cx.tk (dbg_of h3).1) fun s H Q hh => mk_in0 cx.fz hi' en hh
        | cons l0 ls =>
          have hok : okX l0 = true := by
            cases es with
            | nil => unfold chkL at h4; cases h4
            | cons e0 es0 => unfold chkL at h4; rw [Bool.and_eq_true] at h4; exact okX_of h4.1
          have hb : (backTo pos (starEach ls X.env)).any (·.1) = false := by
            cases es with
            | nil => unfold chkL at h4; cases h4
            | cons e0 es0 => unfold chkL at h4; rw [Bool.and_eq_true] at h4; exact back_ok h4.2 pos X.env
          exact PE.imp (pe_makeZ M F cx.room cx.gd hg hm bn cx.tk hL (dbg_of h3).1 (star_ok hok ls X.env) hb) fun s H Q hh => mk_in cx.fz hi' en hh
      · cases h1
    · cases h
  | .dicE, N, fl, sc, X, W, x, cx, h => by
    unfold chkE at h
    split at h
    · exact z_dicE
    · cases h
  | .app o es, N, fl, sc, X, W, x, cx, h => by
    unfold chkE at h
    split at h
    · rename_i l m ap y cp
      simp only [Bool.and_eq_true] at h
      obtain ⟨⟨⟨⟨h1, h2⟩, h3⟩, h4⟩, h5⟩ := h
      have e1 := of_decide_eq_true h1
      subst e1
      have hL := soundL es (X := X) (W := W) cx h5
      have hok : okX y = true := by
        cases es with
        | nil => unfold chkL at h5; cases h5
        | cons e0 es0 => unfold chkL at h5; rw [Bool.and_eq_true] at h5; exact okX_of h5.1
      have hst : starEach [y] X.env = (false, eval y X.env) :: starEach [] X.env := star_ok hok [] X.env
      exact PE.imp (pe_bm PySem.F.plainAttrs_list PySem.F.slot_list_append PySem.F.type_list_append mt_append (soundE o cx h4) hL (base_ok h2 _ _) (by rw [hst]; rfl) h3 hst rfl) fun s H Q hh => app_in hh
    · cases h
  | .ext o es, N, fl, sc, X, W, x, cx, h => by
    unfold chkE at h
    split at h
    · rename_i l m ap y cp
      simp only [Bool.and_eq_true] at h
      obtain ⟨⟨⟨⟨h1, h2⟩, h3⟩, h4⟩, h5⟩ := h
      have e1 := of_decide_eq_true h1
      subst e1
      have hL := soundL es (X := X) (W := W) cx h5
      have hok : okX y = true := by
        cases es with
        | nil => unfold chkL at h5; cases h5
        | cons e0 es0 => unfold chkL at h5; rw [Bool.and_eq_true] at h5; exact okX_of h5.1
      have hst : starEach [y] X.env = (false, eval y X.env) :: starEach [] X.env := star_ok hok [] X.env
      exact PE.imp (pe_bm PySem.F.plainAttrs_list PySem.F.slot_list_extend PySem.F.type_list_extend mt_extend (soundE o cx h4) hL (base_ok h2 _ _) (by rw [hst]; rfl) h3 hst rfl) fun s H Q hh => ext_in hh
    · cases h
  | .lc mt t it c e own, N, fl, sc, X, W, x, cx, h => by
    unfold chkE at h
    split at h
    · rename_i el tg iter ifs as scope pos
      simp only [Bool.and_eq_true, decide_eq_true_eq] at h
      obtain ⟨⟨⟨⟨⟨⟨h0, h1⟩, h2⟩, h3⟩, h4⟩, h5⟩, h6⟩ := h
      subst h0
      have ok : BlkOk N sc scope own := blkOk_by h1
      have ok' : BlkOk X.N X.env.scope scope own := by rw [cx.nm, cx.scp]; exact ok
      have hts : ∀ i ∈ tgSl t, i ∈ own.map (·.2) := fun i hi => by
        have := List.all_eq_true.mp h2 i hi
        exact List.contains_iff_mem.mp this
      have hI := soundI it (X := X) (W := W) (tg := tg) cx h3
      have hfo : okX iter = true := okI h3
      unfold dE
      cases mt with
      | true => exact z_lcM cx.calm (by rw [cx.nm]; exact cx.nd) hI ok' hts (fun s H A cl fp => soundG t (cx.blk s H scope ok.kind cl A fp) h4) (fun s H A cl fp => soundC c (cx.blk s H scope ok.kind cl A fp) h5) (fun s H A cl fp => soundE e (cx.blk s H scope ok.kind cl A fp) h6) (fold_ok hfo X.env)
      | false => exact z_lc cx.calm (by rw [cx.nm]; exact cx.nd) hI ok' hts (fun s H A cl fp => soundG t (cx.blk s H scope ok.kind cl A fp) h4) (fun s H A cl fp => soundC c (cx.blk s H scope ok.kind cl A fp) h5) (fun s H A cl fp => soundE e (cx.blk s H scope ok.kind cl A fp) h6) (fold_ok hfo X.env)
    · cases h
  | .dgt j a, N, fl, sc, X, W, x, cx, h => by
    unfold chkE at h
    split at h
    · simp only [Bool.and_eq_true] at h
      obtain ⟨⟨⟨h1, h2⟩, h3⟩, h4⟩ := h
      obtain ⟨ad, g1, g2⟩ := cx.dz _ _ h1
      exact z_dgt (by unfold Gl Env.kindOf; rw [cx.scp]; exact of_decide_eq_true h2) g1 (dbg_of h3).1 g2 (soundE a cx h4) (ix_ok (okX_of h4))
    · cases h
  | .din neg a j, N, fl, sc, X, W, x, cx, h => by
    unfold chkE at h
    split at h
    · simp only [Bool.and_eq_true, decide_eq_true_eq] at h
      obtain ⟨⟨⟨⟨h0, h1⟩, h2⟩, h3⟩, h4⟩ := h
      subst h0
      obtain ⟨ad, g1, g2⟩ := cx.dz _ _ h1
      exact (z_din neg (by unfold Gl Env.kindOf; rw [cx.scp]; exact of_decide_eq_true h2) g1 (dbg_of h3).1 g2 (soundE a cx h4)).1
    · cases h
  | .dgd j a b, N, fl, sc, X, W, x, cx, h => by
    unfold chkE at h
    split at h
    · rename_i y p g ap l r cp
      simp only [Bool.and_eq_true] at h
      obtain ⟨⟨⟨⟨⟨⟨h0, h01⟩, h1⟩, h2⟩, h3⟩, h4⟩, h5⟩ := h
      have hg := of_decide_eq_true h0
      subst hg
      obtain ⟨ad, g1, g2⟩ := cx.dz _ _ h1
      have s1 := star_ok (okX_of h4) [r] X.env
      have s2 := star_ok (okX_of h5) [] X.env
      have e2 : starEach [l, r] X.env = [(false, eval l X.env), (false, eval r X.env)] := by rw [s1, s2]; rfl
      have bk : backTo cp (starEach [l, r] X.env) = [(false, eval l X.env), (false, eval r X.env)] := by rw [e2]; rfl
      refine z_dgd (by unfold Gl Env.kindOf; rw [cx.scp]; exact of_decide_eq_true h2) g1 (dbg_of h3).1 g2 (soundE a cx h4) (soundE b cx h5) ⟨rfl, ?_, h01, bk⟩
      rw [bk]
      rfl
    · cases h
  | .opM o a b, N, fl, sc, X, W, x, cx, h => by
    unfold chkE at h
    split at h
    · simp only [Bool.and_eq_true, decide_eq_true_eq] at h
      obtain ⟨⟨⟨h0, h1⟩, h2⟩, h3⟩ := h
      subst h0
      unfold dE
      split at h1
      · exact z_catM (soundE a cx h2) (soundE b cx h3)
      · exact z_repM (soundE a cx h2) (soundE b cx h3)
      · cases h1
    · cases h
  | .lstC a, N, fl, sc, X, W, x, cx, h => by
    unfold chkE at h
    split at h
    · rename_i y p l pos
      simp only [Bool.and_eq_true] at h
      obtain ⟨⟨h1, h2⟩, h4⟩ := h
      have e1 := of_decide_eq_true h1
      subst e1
      exact z_lstC (x := "list") (es := []) (by unfold Gl Env.kindOf; rw [cx.scp]; exact of_decide_eq_true h2) (cx.blt "list" (by decide)) (soundE a cx h4) (star_ok (okX_of h4) [] X.env)
    · cases h
  | .sm m a b, N, fl, sc, X, W, x, cx, h => by
    unfold chkE at h
    split at h
    · rename_i l g ap y cp
      simp only [Bool.and_eq_true] at h
      obtain ⟨⟨⟨⟨h1, h2⟩, h3⟩, h4⟩, h5⟩ := h
      have e1 := of_decide_eq_true h1
      subst e1
      exact z_sm m (soundE a cx h4) (soundE b cx h5) (star_ok (okX_of h5) [] X.env) (base_ok h2 _ _) h3
    · cases h
  | .dsel ks es k0, N, fl, sc, X, W, x, cx, h => by
    unfold chkE at h
    split at h
    · rename_i keys vals dpos rr pos
      simp only [Bool.and_eq_true, decide_eq_true_eq] at h
      obtain ⟨⟨⟨⟨⟨⟨h1, h2⟩, h3⟩, h4⟩, h5⟩, h6⟩, h7⟩ := h
      have hp : PD X ca W dpos ks keys vals (dL C.G call es) := by
        have hL := soundD es (X := X) (W := W) (pos := dpos) (ks := ks) (keys := keys) cx h1 h6 h5
        exact hL
      exact z_dsel (by have := cx.room.units; omega) hp h2 h3 h4 (fun sd S ds S1 e => by rw [chkL_len h6 sd S ds S1 e]; exact h5) (soundE k0 cx h7) (ix_ok (okX_of h7))
    · cases h
  | .fmt a, N, fl, sc, X, W, x, cx, h => by
    unfold chkE at h
    split at h
    · exact z_fmt (soundE a cx h)
    · cases h
  | .fs es, N, fl, sc, X, W, x, cx, h => by
    unfold chkE at h
    split at h
    · exact z_fs (soundF es cx h) (dF_str es)
    · cases h
theorem soundD : ∀ (es : Es) {N : List Str} {fl : Bool} {sc : Scope} {X : Cx} {W : WX} {pos : Pos} {ks : List Str} {keys : List (Option Expr)} {vals : List Expr}, Cxt C ca fa call k N fl sc X W → keysB ks keys = true → chkL C N fl sc es vals = true → vals.length = ks.length → PD X ca W pos ks keys vals (dL C.G call es)
  | .nil, N, fl, sc, X, W, pos, ks, keys, vals, cx, h1, h2, h3 => by
    unfold chkL at h2
    cases vals with
    | cons _ _ => cases h2
    | nil =>
      have : ks = [] := List.length_eq_zero_iff.mp h3.symm
      subst this
      cases keys with
      | nil => unfold dL; exact pd_nil
      | cons _ _ => unfold keysB at h1; cases h1
  | .cons e es, N, fl, sc, X, W, pos, ks, keys, vals, cx, h1, h2, h3 => by
    unfold chkL at h2
    split at h2
    · rename_i v rest
      rw [Bool.and_eq_true] at h2
      cases ks with
      | nil => cases h3
      | cons k1 ks =>
        unfold keysB at h1
        split at h1
        · rename_i e0; cases e0
        · rename_i k' ks' x n p es' e0
          cases e0
          rw [Bool.and_eq_true, decide_eq_true_eq] at h1
          obtain ⟨rfl, h1⟩ := h1
          unfold dL
          exact pd_cons (soundE e cx h2.1) (soundD es cx h1 h2.2 (by simpa using h3))
        · cases h1
    · cases h2
theorem soundF : ∀ (es : Es) {N : List Str} {fl : Bool} {sc : Scope} {X : Cx} {W : WX} {xs : List Expr}, Cxt C ca fa call k N fl sc X W → chkL C N fl sc es xs = true → PF2 X ca W xs (dF C.G call es)
  | .nil, N, fl, sc, X, W, xs, cx, h => by
    unfold chkL at h
    cases xs with
    | nil => unfold dF; exact pf_nil
    | cons _ _ => cases h
  | .cons e es, N, fl, sc, X, W, xs, cx, h => by
    unfold chkL at h
    split at h
    · rw [Bool.and_eq_true] at h
      unfold dF
      exact pf_cons (soundE e cx h.1) (soundF es cx h.2)
    · cases h
theorem soundL : ∀ (es : Es) {N : List Str} {fl : Bool} {sc : Scope} {X : Cx} {W : WX} {xs : List Expr}, Cxt C ca fa call k N fl sc X W → chkL C N fl sc es xs = true → PA X xs (rA X.K ca W (dL C.G call es))
  | .nil, N, fl, sc, X, W, xs, cx, h => by
    unfold chkL at h
    cases xs with
    | nil => exact z_anil
    | cons _ _ => cases h
  | .cons e es, N, fl, sc, X, W, xs, cx, h => by
    unfold chkL at h
    split at h
    · rw [Bool.and_eq_true] at h
      exact z_acons (soundE e cx h.1) (soundL es cx h.2) (star_ok (okX_of h.1) _ _)
    · cases h
theorem soundB (o : BoolOp) : ∀ (es : Es) {N : List Str} {fl : Bool} {sc : Scope} {X : Cx} {W : WX} {xs : List Expr} {pos : Pos}, Cxt C ca fa call k N fl sc X W → chkL C N fl sc es xs = true → PE X (.BoolOp o xs pos) (rE X.K ca W (dB C.G call o es))
  | .nil, N, fl, sc, X, W, xs, pos, cx, h => ⟨fun _ _ _ _ _ _ ⟨_, _, _, _, _, z⟩ => z.elim⟩
  | .cons e es, N, fl, sc, X, W, xs, pos, cx, h => by
    unfold chkL at h
    split at h
    · rename_i x rest
      rw [Bool.and_eq_true] at h
      cases es with
      | nil =>
        have h2 := h.2
        unfold chkL at h2
        cases rest with
        | nil => unfold dB; exact pe_one (soundE e cx h.1)
        | cons _ _ => cases h2
      | cons e2 es2 =>
        have ih := soundB o (.cons e2 es2) (X := X) (W := W) (pos := pos) cx h.2
        have h2 := h.2
        unfold chkL at h2
        split at h2
        · unfold dB
          cases o with
          | And => exact z_and (soundE e cx h.1) ih
          | Or => exact z_or (soundE e cx h.1) ih
        · cases h2
    · cases h
theorem soundO : ∀ (o : Oe) {N : List Str} {fl : Bool} {sc : Scope} {X : Cx} {W : WX} {x : Option Expr}, Cxt C ca fa call k N fl sc X W → chkO C N fl sc o x = true → PO X x (rP X.K ca W (dO C.G call o))
  | .none, N, fl, sc, X, W, x, cx, h => by
    unfold chkO at h
    cases x with
    | none => exact z_pno
    | some _ => cases h
  | .some e, N, fl, sc, X, W, x, cx, h => by
    unfold chkO at h
    split at h
    · exact z_psome (soundE e cx h)
    · cases h
theorem soundT : ∀ (t : Tt) {N : List Str} {fl : Bool} {sc : Scope} {X : Cx} {W : WX} {x : Expr}, Cxt C ca fa call k N fl sc X W → chkT C N fl sc t x = true → PT X x (rT X.K ca W (dT C.G call t))
  | .din neg a j, N, fl, sc, X, W, x, cx, h => by
    unfold chkT at h
    split at h
    · simp only [Bool.and_eq_true, decide_eq_true_eq] at h
      obtain ⟨⟨⟨⟨h0, h1⟩, h2⟩, h3⟩, h4⟩ := h
      subst h0
      obtain ⟨ad, g1, g2⟩ := cx.dz _ _ h1
      exact (z_din neg (by unfold Gl Env.kindOf; rw [cx.scp]; exact of_decide_eq_true h2) g1 (dbg_of h3).1 g2 (soundE a cx h4)).2
    · cases h
  | .bo o ts, N, fl, sc, X, W, x, cx, h => by
    unfold chkT at h
    split at h
    · simp only [Bool.and_eq_true, decide_eq_true_eq] at h
      obtain ⟨h0, h1⟩ := h
      subst h0
      exact (soundTB o ts cx h1).pt
    · cases h
  | .not a, N, fl, sc, X, W, x, cx, h => by
    unfold chkT at h
    split at h
    · exact z_tnot (soundT a cx h)
    · cases h
  | .cmp o a b, N, fl, sc, X, W, x, cx, h => by
    unfold chkT at h
    split at h
    · simp only [Bool.and_eq_true, decide_eq_true_eq] at h
      obtain ⟨⟨h0, h2⟩, h3⟩ := h
      subst h0
      obtain ⟨R, r1, r2⟩ := cmp_rule (X := X) (ca := ca) cx.room.units o
      exact z_tcmp r1 r2 (soundE a cx h2) (soundE b cx h3) (mark_ok (okX_of h3) o)
    · cases h
  | .ch o o' a b c, N, fl, sc, X, W, x, cx, h => by
    unfold chkT at h
    split at h
    · simp only [Bool.and_eq_true, decide_eq_true_eq] at h
      obtain ⟨⟨⟨⟨h0, h1⟩, h2⟩, h3⟩, h4⟩ := h
      subst h0 h1
      obtain ⟨R, r1, r2⟩ := cmp_rule (X := X) (ca := ca) cx.room.units o
      obtain ⟨R', r1', r2'⟩ := cmp_rule (X := X) (ca := ca) cx.room.units o'
      exact z_tchain r1 r1' r2 r2' (soundE a cx h2) (soundE b cx h3) (soundE c cx h4) (last_ok (okX_of h4) o o')
    · cases h
  | .tru e, N, fl, sc, X, W, x, cx, h => by
    unfold chkT at h
    rw [Bool.and_eq_true] at h
    exact z_ttru (soundE e cx h.2) (tru_ok h.1 X.env)
theorem soundTB (o : BoolOp) : ∀ (ts : Tts) {N : List Str} {fl : Bool} {sc : Scope} {X : Cx} {W : WX} {xs : List Expr} {pos : Pos}, Cxt C ca fa call k N fl sc X W → chkTs C N fl sc ts xs = true → PW X (.BoolOp o xs pos) (rT X.K ca W (dTB C.G call o ts))
  | .nil, N, fl, sc, X, W, xs, pos, cx, h => ⟨fun _ _ _ _ _ _ _ ⟨_, _, _, _, _, z⟩ => z.elim⟩
  | .cons t ts, N, fl, sc, X, W, xs, pos, cx, h => by
    unfold chkTs at h
    split at h
    · rename_i x rest
      rw [Bool.and_eq_true] at h
      cases ts with
      | nil =>
        have h2 := h.2
        unfold chkTs at h2
        cases rest with
        | nil =>
          unfold dTB
          cases o with
          | And => exact pw_and1 (soundT t cx h.1)
          | Or => exact pw_or1 (soundT t cx h.1)
        | cons _ _ => cases h2
      | cons t2 ts2 =>
        have ih := soundTB o (.cons t2 ts2) (X := X) (W := W) (pos := pos) cx h.2
        have h2 := h.2
        unfold chkTs at h2
        split at h2
        · unfold dTB
          cases o with
          | And => exact z_wand (soundT t cx h.1) ih
          | Or => exact z_wor (soundT t cx h.1) ih
        · cases h2
    · cases h
theorem soundC : ∀ (c : Ot) {N : List Str} {fl : Bool} {sc : Scope} {X : Cx} {W : WX} {xs : List Expr}, Cxt C ca fa call k N fl sc X W → chkC C N fl sc c xs = true → PTs X xs (rT X.K ca W (dC C.G call c))
  | .none, N, fl, sc, X, W, xs, cx, h => by
    unfold chkC at h
    cases xs with
    | nil => exact ⟨fun pins s σ H Q I ⟨sd, r, S, hs, m, z⟩ => pts_nil.run pins s σ H Q I (z.ok m rfl)⟩
    | cons _ _ => cases h
  | .some t, N, fl, sc, X, W, xs, cx, h => by
    unfold chkC at h
    split at h
    · exact pts_one (soundT t cx h)
    · cases h
theorem soundG : ∀ (t : Tg) {N : List Str} {fl : Bool} {sc : Scope} {X : Cx} {W : WX} {x : Expr}, Cxt C ca fa call k N fl sc X W → chkG C N fl sc t x = true → PG X x (rG X.K ca (tgSl t) (dG C.G call t))
  | .nm i, N, fl, sc, X, W, x, cx, h => by
    unfold chkG at h
    split at h
    · simp only [Bool.and_eq_true, decide_eq_true_eq] at h
      obtain ⟨l, f⟩ := sto_of h.2
      refine z_gname (pg_name (by rw [cx.nm]; exact cx.nd) (by rw [cx.nm]; exact h.1) (by rw [cx.scp]; exact l) ?_)
      rcases f with f | f
      · exact .inl (cx.fn f _)
      · exact .inr (by rw [cx.scp]; exact f)
    · cases h
  | .tup ts, N, fl, sc, X, W, x, cx, h => by
    unfold chkG at h
    split at h
    · exact z_gtup cx.calm (soundGs ts cx h) (asgE_ok h X.env).1 (asgE_ok h X.env).2
    · cases h
  | .sub o i, N, fl, sc, X, W, x, cx, h => by
    unfold chkG at h
    split at h
    · rw [Bool.and_eq_true] at h
      exact z_gsub (soundE o cx h.1) (soundE i cx h.2) (asub_ok (okX_of h.2) _ _)
    · cases h
theorem soundGs : ∀ (ts : Tgs) {N : List Str} {fl : Bool} {sc : Scope} {X : Cx} {W : WX} {xs : List Expr}, Cxt C ca fa call k N fl sc X W → chkGs C N fl sc ts xs = true → PGs X xs (rGs X.K ca (tgsSl ts) (dGs C.G call ts))
  | .nil, N, fl, sc, X, W, xs, cx, h => by
    unfold chkGs at h
    cases xs with
    | nil => exact z_gsnil
    | cons _ _ => cases h
  | .cons t ts, N, fl, sc, X, W, xs, cx, h => by
    unfold chkGs at h
    split at h
    · rw [Bool.and_eq_true] at h
      exact z_gscons (soundG t cx h.1) (soundGs ts cx h.2) (by rw [asg1_ok h.1]; rfl)
    · cases h
theorem soundI : ∀ (it : It) {N : List Str} {fl : Bool} {sc : Scope} {X : Cx} {W : WX} {tg x : Expr}, Cxt C ca fa call k N fl sc X W → chkI C N fl sc it tg x = true → PI X tg x (rI X.K ca W (dI C.G call it))
  | .seq e, N, fl, sc, X, W, tg, x, cx, h => by
    unfold chkI at h
    exact z_seq (soundE e cx h)
  | .rng1 a, N, fl, sc, X, W, tg, x, cx, h => by
    unfold chkI at h
    split at h
    · rename_i y p l pos
      simp only [Bool.and_eq_true] at h
      obtain ⟨⟨h1, h2⟩, h4⟩ := h
      have e1 := of_decide_eq_true h1
      subst e1
      have hL := soundL a (X := X) (W := W) cx h4
      have hok : okX l = true := by
        cases a with
        | nil => unfold chkL at h4; cases h4
        | cons e0 es0 => unfold chkL at h4; rw [Bool.and_eq_true] at h4; exact okX_of h4.1
      exact z_rng1 (by unfold Gl Env.kindOf; rw [cx.scp]; exact of_decide_eq_true h2) (cx.blt "range" (by decide)) hL (star_ok hok [] X.env)
    · cases h
  | .rng2 a, N, fl, sc, X, W, tg, x, cx, h => by
    unfold chkI at h
    split at h
    · rename_i y p l r0 pos
      simp only [Bool.and_eq_true] at h
      obtain ⟨⟨h1, h2⟩, h4⟩ := h
      have e1 := of_decide_eq_true h1
      subst e1
      have hL := soundL a (X := X) (W := W) cx h4
      have hok : okX l = true ∧ okX r0 = true := by
        cases a with
        | nil => unfold chkL at h4; cases h4
        | cons e0 es0 =>
          unfold chkL at h4; rw [Bool.and_eq_true] at h4
          refine ⟨okX_of h4.1, ?_⟩
          have h5 := h4.2
          cases es0 with
          | nil => unfold chkL at h5; cases h5
          | cons e1 es1 => unfold chkL at h5; rw [Bool.and_eq_true] at h5; exact okX_of h5.1
      exact z_rng2 (by unfold Gl Env.kindOf; rw [cx.scp]; exact of_decide_eq_true h2) (cx.blt "range" (by decide)) hL (by rw [star_ok hok.1, star_ok hok.2]; rfl) (star_ok hok.2 [] X.env)
    · cases h
  | .zip a, N, fl, sc, X, W, tg, x, cx, h => by
    unfold chkI at h
    split at h
    · rename_i y p l r0 pos
      simp only [Bool.and_eq_true] at h
      obtain ⟨⟨⟨h0, h1⟩, h2⟩, h4⟩ := h
      have e1 := of_decide_eq_true h1
      subst e1
      have hL := soundL a (X := X) (W := W) cx h4
      have hok : okX l = true ∧ okX r0 = true := by
        cases a with
        | nil => unfold chkL at h4; cases h4
        | cons e0 es0 =>
          unfold chkL at h4; rw [Bool.and_eq_true] at h4
          refine ⟨okX_of h4.1, ?_⟩
          have h5 := h4.2
          cases es0 with
          | nil => unfold chkL at h5; cases h5
          | cons e1 es1 => unfold chkL at h5; rw [Bool.and_eq_true] at h5; exact okX_of h5.1
      cases tg <;> first
        | (exact z_zip (by unfold Gl Env.kindOf; rw [cx.scp]; exact of_decide_eq_true h2) (cx.blt "zip" (by decide)) hL (star_ok hok.1 _ X.env) (by rw [star_ok hok.2]; rfl))
        | (cases h0; done)
    · cases h
  | .enum a, N, fl, sc, X, W, tg, x, cx, h => by
    unfold chkI at h
    split at h
    · rename_i y p l pos
      simp only [Bool.and_eq_true] at h
      obtain ⟨⟨⟨h0, h1⟩, h2⟩, h4⟩ := h
      have e1 := of_decide_eq_true h1
      subst e1
      have hL := soundL a (X := X) (W := W) cx h4
      have hok : okX l = true := by
        cases a with
        | nil => unfold chkL at h4; cases h4
        | cons e0 es0 => unfold chkL at h4; rw [Bool.and_eq_true] at h4; exact okX_of h4.1
      cases tg <;> first
        | (exact z_enum (by unfold Gl Env.kindOf; rw [cx.scp]; exact of_decide_eq_true h2) (cx.blt "enumerate" (by decide)) hL (star_ok hok [] X.env))
        | (cases h0; done)
    · cases h
end
end
end Z

/-! Z layer, part L: statements that are read, their meaning, and that the text keeps it. -/
namespace Z
open PySem PySem.Spec PyProof.Rows L2

/-- what an except clause does -/
inductive Hd where
  | set (i : Nat) (d : D) | ret (d : D)
def mHd : Hd → MS
  | .set i d => fun sd S => .ok .nx (sd.set i (some d)) S
  | .ret d => fun sd S => .ok (.rt d) sd S
def mTry (b : MS) (ok p : Nat → Bool) (h : MS) : MS := fun sd S => match b sd S with
  | .exc c fs sd1 S1 => if ok c then (if p c then h sd1 S1 else .exc c fs sd1 S1) else .bad
  | o => o
mutual
inductive S1 where
  | ex (e : E) | doc | pass | brk | cnt | ret (e : E) | retN
  | asg (t : Tg) (e : E) | aug (i : Nat) (o : Operator) (e : E) | par (is : List Nat) (es : Es)
  | ite (c : Tt) (a b : Ss) | for_ (t : Tg) (it : It) (b : Ss) | whl (c : Tt) (b : Ss)
  | setf (o : E) (f : Str) (e : E) | augS (o i : E) (p : Operator) (e : E)
  | rais (c : Nat) | tryC (b : Ss) (c : Nat) (h : Hd)
inductive Ss where
  | nil | cons (s : S1) (ss : Ss)
end
def iaddP (_ : Sto) (x y : D) : Option D := match x, y with
  | .int i, .int j => some (.int (i + j))
  | .str a, .str b => if a.length + b.length ≤ 16777216 then some (.str (a ++ b)) else none
  | _, _ => none
def imulI (i j : Int) : Option Int := if (-18446744073709551616 < i ∧ i < 18446744073709551616) ∨ (-18446744073709551616 < j ∧ j < 18446744073709551616) then some (i * j) else none
def iopF : Operator → Sto → D → D → Option D
  | .Add => iaddP
  | .Sub => intP subI
  | .Mult => intP imulI
  | _ => fun _ _ _ => none
section
variable (G : Ev) (C : Nat → List D → Sto → Out D) (wf : Nat)
mutual
def dS : S1 → MS
  | .ex e => mExpr (dE G C e)
  | .doc => mSkip
  | .pass => mSkip
  | .brk => mBrk
  | .cnt => mCnt
  | .ret e => mRet (dE G C e)
  | .retN => mRetN
  | .asg t e => mAsg (dE G C e) (dG G C t)
  | .aug i o e => mAug i (iopF o) (dE G C e)
  | .par is es => mPar is (dL G C es)
  | .ite c a b => mIte (dT G C c) (dSs a) (dSs b)
  | .for_ t it b => mFor (dI G C it) (dG G C t) (dSs b)
  | .whl c b => whGo (dT G C c) (dSs b) wf
  | .setf o f e => mSetF G (dE G C o) (dE G C e) f
  | .augS o i p e => mAugS (dE G C o) (dE G C i) (iopF p) (dE G C e)
  | .rais c => fun sd S => .exc c none sd S
  | .tryC b c h => mTry (dSs b) G.xok (fun j => G.xin j c) (mHd h)
def dSs : Ss → MS
  | .nil => mSkip
  | .cons s ss => mThen (dS s) (dSs ss)
end
end

/-! ### the check -/
def swP (ts vs : List Expr) (sc : Scope) : Option (Option (List Str)) :=
  if (!(ts.length == 2 || ts.length == 3) || vs.length != ts.length) = true then some none
  else if (vs.any fun | .Starred .. => true | _ => false) = true then some none
  else
    let line := (ts.head?.map (·.pos.line)).getD 0
    let names := ts.filterMap fun
      | .Name id pos => if (sc.names.lookup id == some .local && pos.line == line) = true then some id else none
      | _ => none
    if (names.length != ts.length || names.eraseDups.length != names.length) = true then some none
    else if vs.all (foldedForSure 8) = true then some none
    else if vs.all (constantsAlone 8) = true then none
    else some (some names)
def swOk (sc : Scope) : Expr → Expr → Bool
  | .Tuple ts _ _, .Tuple vs _ _ => decide (swP ts vs sc = some none)
  | .List .., _ => false
  | _, _ => true
def noLc : Expr → Bool
  | .ListComp .. => false | .SetComp .. => false | .DictComp .. => false | _ => true
def okAug : Operator → Bool
  | .Add => true | .Sub => true | .Mult => true | _ => false
def chkH (N : List Str) (fl : Bool) (sc : Scope) : Hd → Stmt → Bool
  | .set i d, s => match s with
    | .Assign [.Name z _] (.Constant k _ _) _ => decide (N[i]? = some z) && stoN fl sc z && cEq d k
    | _ => false
  | .ret d, s => match s with
    | .Return (some (.Constant k _ _)) _ => cEq d k
    | _ => false
section
variable (C : Tab) (N : List Str)
mutual
def chkS (fl : Bool) (sc : Scope) : S1 → Stmt → Bool
  | .ex e, s => match s with
    | .Expr x _ => noLc x && chkE C N fl sc e x
    | _ => false
  | .doc, s => match s with
    | .Expr (.Constant (.str _) _ _) _ => true
    | _ => false
  | .pass, s => match s with
    | .Pass _ => true
    | _ => false
  | .brk, s => match s with
    | .Break _ => true
    | _ => false
  | .cnt, s => match s with
    | .Continue _ => true
    | _ => false
  | .ret e, s => match s with
    | .Return (some x) _ => chkE C N fl sc e x
    | _ => false
  | .retN, s => match s with
    | .Return none _ => true
    | _ => false
  | .asg t e, s => match s with
    | .Assign [tg] x _ => chkG C N fl sc t tg && chkE C N fl sc e x && swOk sc tg x
    | _ => false
  | .aug i o e, s => match s with
    | .AugAssign (.Name y _) o' x _ => decide (o = o') && okAug o && decide (N[i]? = some y) && stoN fl sc y && chkE C N fl sc e x
    | _ => false
  | .par is es, s => match s with
    | .Assign [.Tuple ts _ _] (.Tuple vs _ _) _ => (match is, ts, vs with
      | [i, j], [.Name x _, .Name y _], [_, _] => decide (i ≠ j) && decide (N[i]? = some x) && decide (N[j]? = some y) && decide (sc.names.lookup x = some .local) && decide (sc.names.lookup y = some .local) && decide (swP ts vs sc = some (some [x, y]))
      | [i, j, l], [.Name x _, .Name y _, .Name z _], [_, _, _] => decide (i ≠ j) && decide (i ≠ l) && decide (j ≠ l) && decide (N[i]? = some x) && decide (N[j]? = some y) && decide (N[l]? = some z) && decide (sc.names.lookup x = some .local) && decide (sc.names.lookup y = some .local) && decide (sc.names.lookup z = some .local) && decide (swP ts vs sc = some (some [x, y, z]))
      | _, _, _ => false) && chkL C N fl sc es vs
    | _ => false
  | .ite c a b, s => match s with
    | .If x y z _ => chkT C N fl sc c x && chkSs fl sc a y && chkSs fl sc b z
    | _ => false
  | .for_ t it b, s => match s with
    | .For tg iter body [] _ => chkG C N fl sc t tg && chkI C N fl sc it tg iter && chkSs fl sc b body
    | _ => false
  | .whl c b, s => match s with
    | .While x body [] _ => chkT C N fl sc c x && chkSs fl sc b body
    | _ => false
  | .setf o f e, s => match s with
    | .Assign [.Attribute l g _] x _ => decide (g = f) && noLc x && chkE C N fl sc o l && chkE C N fl sc e x
    | _ => false
  | .augS o i p e, s => match s with
    | .AugAssign (.Subscript l r _) p' x _ => decide (p = p') && okAug p && chkE C N fl sc o l && chkE C N fl sc i r && chkE C N fl sc e x
    | _ => false
  | .rais c, s => match s with
    | .Raise (some (.Call (.Name y _) [] [] _)) none _ => C.isX c y && gloN sc y && dbgN y
    | _ => false
  | .tryC b c h, s => match s with
    | .Try body [.ExceptHandler (some (.Name y _)) none [hs] _] [] [] _ => fl && C.isX c y && gloN sc y && dbgN y && chkSs fl sc b body && chkH N fl sc h hs
    | _ => false
def chkSs (fl : Bool) (sc : Scope) : Ss → List Stmt → Bool
  | .nil, xs => xs.isEmpty
  | .cons s ss, xs => match xs with
    | x :: rest => chkS fl sc s x && chkSs fl sc ss rest
    | [] => false
end
end

theorem swP_ok {env : Env} {ts vs : List Expr} {k k2 : Nat} {p p2 : Pos} {o : Option (List Str)} (hk : env.scope.kind = .function) (h : swP ts vs env.scope = some o) : swappedStores [.Tuple ts k p] (.Tuple vs k2 p2) env = pure o := by
  have hb : env.blockKind = .function := by unfold Env.blockKind; rw [hk]; rfl
  have e0 : (env.blockKind != .function) = false := by rw [hb]; rfl
  unfold swP at h
  unfold swappedStores
  simp only [e0, Bool.or_false]
  have kf : ∀ id, env.kindOf id = env.scope.names.lookup id := fun _ => rfl
  simp only [kf]
  split at h
  · rename_i c; cases h; exact if_pos c
  · rename_i c
    refine (if_neg c).trans ?_
    split at h
    · rename_i c2; cases h; exact if_pos c2
    · rename_i c2
      refine (if_neg c2).trans ?_
      simp only at h
      split at h
      · rename_i c3; cases h; exact if_pos c3
      · rename_i c3
        refine (if_neg c3).trans ?_
        split at h
        · rename_i c4; cases h; exact if_pos c4
        · rename_i c4
          refine (if_neg c4).trans ?_
          split at h
          · cases h
          · rename_i c5
            cases h
            exact if_neg c5
theorem sw_none {env : Env} {tg x : Expr} (hk : env.scope.kind = .function) (h : swOk env.scope tg x = true) : swappedStores [tg] x env = pure none := by
  cases tg <;> first
    | rfl
    | (cases h; done)
    | (cases x <;> first | rfl | exact swP_ok hk (of_decide_eq_true h))
theorem swaps_no {x : Expr} (h : noLc x = true) (t : Option Expr) (l : Nat) (env : Env) : swapsWith x t l env = pure false := by
  cases x <;> first | rfl | (cases h; done)
theorem swaps_lc {elt : Expr} {gs : List Comprehension} {scope : Scope} {pos py : Pos} {y : Str} {l : Nat} {env : Env} (hk : env.scope.kind = .function) :
    swapsWith (.ListComp elt gs scope pos) (some (.Name y py)) l env = pure (decide (env.scope.names.lookup y = some .local) && (py.line == pos.line) && !(scope.names.any fun (n, k) => n == y && (k == .local || k == .cell))) := by
  have hb : env.blockKind = .function := by unfold Env.blockKind; rw [hk]; rfl
  have kf : env.kindOf y = env.scope.names.lookup y := rfl
  unfold swapsWith
  simp only [hb, kf]
  have e : (env.scope.names.lookup y == some NameKind.local) = decide (env.scope.names.lookup y = some .local) := by
    rw [Bool.eq_iff_iff]; simp
  rw [← e]
  rfl

section
variable {C : Tab} {ca fa : Nat → Addr} {call : Nat → List D → Sto → Out D} {k wf : Nat}
theorem oz_iadd {K : PySem.W.Frag} : OpZ K ca (rOr rAddI rStrCat) iaddP := by
  intro H r S x y vx vy d Q m hx hy e q
  unfold iaddP at e
  split at e
  · cases hx; cases hy; cases e; exact .inl ⟨_, _, rfl, rfl, q _ _ (Ext.refl ..) m (.int _)⟩
  · cases hx; cases hy
    split at e
    · cases e; exact .inr ⟨_, _, rfl, rfl, by rw [sizeLine_eq]; assumption, q _ _ (Ext.refl ..) m (.str _)⟩
    · cases e
  · cases e
theorem oz_imul {K : PySem.W.Frag} : OpZ K ca (L2.rI CMul fun i j => .int (i * j)) (intP imulI) := oz_int fun i j k e => by
  unfold imulI at e; split at e
  · rename_i h; exact ⟨by unfold CMul; simpa using h, Option.some.inj e⟩
  · cases e
theorem iop_rule {X : Cx} (o : Operator) (h : okAug o = true) : ∃ R, OpR X (inplaceOp o) R ∧ OpZ X.K ca R (iopF o) := by
  cases o with
  | Add => exact ⟨_, iop_add.or iop_add_str, oz_iadd⟩
  | Sub => exact ⟨rSubI, fun pins s σ H x y v u Q I rx ry ⟨i, j, e1, e2, _, q⟩ => iop_sub pins s σ H x y v u Q I rx ry ⟨i, j, e1, e2, q⟩, oz_sub⟩
  | Mult => exact ⟨_, iop_mul, oz_imul⟩
  | _ => cases h
theorem aug_ok {i : Expr} (h : okX i = true) (ov iv new : Value) : augStore i ov iv new = (do holding [new, ov, iv] (setItem ov iv new); release [new, ov, iv] []; pure .next) := by
  cases i <;> first | rfl | (cases h; done)
theorem isX_of {C : Tab} {j : Nat} (h : C.G.xok j = true) : ∃ z, C.isX j z = true := by
  unfold Ev.xok Tab.G at h
  simp only [Bool.and_eq_true, decide_eq_true_eq, List.length_map] at h
  refine ⟨(C.exs[j - C.cls.length]'h.2).1, ?_⟩
  unfold Tab.isX
  rw [List.getElem?_eq_getElem h.2]
  simp [h.1]
theorem pmk_own0 {X : Cx} {C : Addr} {bmB : List Value} {B newId initId : String} {x : Str} {p pos : Pos} (F : ExcBaseFacts B newId initId bmB) (q : PySem.W.excIn X.K C bmB newId = true) (gC : X.mg x = some (.ref C)) (kC : PySem.W.keepIn X.K (.ref C) = true) (r : Raises X (.ref C)) (hg : Gl X x)
    (hdb : (x == ("__debug__" : Str)) = false) : PMk X (.Call (.Name x p) [] [] pos) (fun _ H Q => Q (.ref C) none H) := by
  intro pins s σ H Q I h
  refine wpAny_Call_Name_kw (ld_glob I hg gC ?_ hdb)
  refine PySem.W.callWith_K0 I.kIn kC ?_
  show wpAny _ _ (PySem.call (.ref C) []) _ _ _
  obtain ⟨bm, N, nm, qn, bs, hdct, sn, sub, ab, col, dd, k0, k1, k2, k3, k5, mN, hC, hN, hni, T⟩ := exc_obj I.kIn q
  refine wpAny_call_exc_subT F T hC hN hni (fun h' e hm => ?_) (Nat.zero_le _)
  exact mk_of I hm r h (I.hok.gone hm.new)
theorem s_rais {X : Cx} {W : WX} {c : Nat} {y : Str} {p p2 pos : Pos} (hc : X.calm = true) (tk : Takes X W) (g1 : X.mg y = some (.ref (ca c))) (g2 : PySem.W.excIn X.K (ca c) He.veBase "ValueError.__new__" = true) (g3 : PySem.W.keepIn X.K (.ref (ca c)) = true)
    (g4 : PySem.W.subIn X.K (.ref (ca c)) (.type "BaseException") = some true) (g5 : PySem.W.typeIn X.K (.ref (ca c)) = some (.type "type")) (hg : Gl X y) (hdb : (y == ("__debug__" : Str)) = false) :
    PS X (.Raise (some (.Call (.Name y p) [] [] p2)) none pos) (rS X.K ca W (fun sd S => .exc c none sd S)) :=
  PS.imp (ps_raise hc tk (pmk_own0 PySem.F.excBase_ValueError g2 g1 g3 (raises_own g4 g5) hg hdb)) fun D s H ⟨sd, r, S, hs, m, h⟩ => h _ none s H r (Ext.refl ..) m hs ⟨rfl, rfl⟩
/-- the reading of a suite -/
structure HdT (K : PySem.W.Frag) (ca : Nat → Addr) (h : MS) (t : TS) : Prop where
  ok : ∀ (W : WX) (D : Ends) (s : St) (H : Hp) (r : Rg) (sd : Sl) (S : Sto), Slots K H r sd s → Sim K ca H r S → LnS K ca H r (h sd S) D W → t D s H
theorem s_try {X : Cx} {W : WX} {c : Nat} {y : Str} {p pos pos' : Pos} {body : List Stmt} {hst : Stmt} {mb mh : MS} {ok pr : Nat → Bool} {t : TS} (hs : X.stack = X.env :: X.outer) (hf : X.env.frame = some X.env.locals) (hn : Names X y (.ref (ca c))) (tk : Takes X W)
    (hb : ∀ (W : WX) (pn : List (Addr × Obj)) (xe : Value → Shared → Prop), Takes (X.tr pn xe) W → PassesOwn (model X.prog X.w) X.A X.env xe → PSs (X.tr pn xe) body (rS X.K ca W mb))
    (hsu : ∀ (a : Addr) (pn : List (Addr × Obj)), PSs (X.suite a pn) [hst] t) (ht : HdT X.K ca mh t) (hx : ∀ j, ok j = true → PySem.W.exmOne X.K (.ref (ca j)) (.ref (ca c)) = some (pr j)) :
    PS X (.Try body [.ExceptHandler (some (.Name y p)) none [hst] pos'] [] [] pos) (rS X.K ca W (mTry mb ok pr mh)) := by
  refine PS.imp (ps_try_only hs hf hn tk hb (fun a oe cls d pn _ _ => hsu a _)) fun D s H ⟨sd, r, S, hs, m, h⟩ => ⟨sd, r, S, hs, m, ?_⟩
  unfold mTry at h
  cases e : mb sd S with
  | bad => rw [e] at h; exact h
  | ok f sd1 S1 => rw [e] at h; cases f <;> exact h
  | exc j fs sd1 S1 =>
    rw [e] at h
    intro cls d s1 H1 r1 x1 m1 s1' q
    obtain ⟨rfl, q2⟩ := id q
    cases hk : ok j with
    | false => simp only [hk, Bool.false_eq_true, ↓reduceIte] at h; exact h.elim
    | true =>
      simp only [hk, ↓reduceIte] at h
      refine ⟨pr j, hx j hk, fun hp a na => ?_, fun hp => ?_⟩
      · simp only [hp, ↓reduceIte] at h
        exact ht.ok W D s1 H1 r1 sd1 S1 s1' m1 (h.ext x1)
      · simp only [hp, Bool.false_eq_true, ↓reduceIte] at h
        exact h _ _ _ _ _ x1 m1 s1' q
theorem pe_const {X : Cx} {d : D} {kc : Const} {j : Nat} {pos : Pos} (h : cEq d kc = true) : ∃ v, PE X (.Constant kc j pos) (tC v) ∧ ∀ H r, Rep X.K H r d v := by
  unfold cEq at h
  split at h
  · have := of_decide_eq_true h; subst this; exact ⟨_, pe_int, fun _ _ => .int _⟩
  · have := of_decide_eq_true h; subst this; exact ⟨_, pe_str, fun _ _ => .str _⟩
  · have := of_decide_eq_true h; subst this; exact ⟨_, pe_bl, fun _ _ => .bl _⟩
  · exact ⟨_, pe_non, fun _ _ => .non⟩
  · cases h
theorem Cxt.tr {N : List Str} {fl : Bool} {sc : Scope} {X : Cx} {W W' : WX} (cx : Cxt C ca fa call k N fl sc X W) (pn : List (Addr × Obj)) (xe : Value → Shared → Prop) (tk : Takes (X.tr pn xe) W') (po : PassesOwn (model X.prog X.w) X.A X.env xe) : Cxt C ca fa call k N fl sc (X.tr pn xe) W' :=
  ⟨cx.scp, cx.kind, cx.calm, cx.nm, cx.nd, cx.fn, cx.room, cx.gd, tk, po, cx.blt, cx.gl, ⟨cx.fz.ok, cx.fz.bad, cx.fz.no⟩, cx.fg, cx.cz, cx.mz, cx.cg, cx.st, cx.xz, cx.dz⟩
theorem hd_ok {N : List Str} {fl : Bool} {sc : Scope} {X : Cx} {W : WX} (cx : Cxt C ca fa call k N fl sc X W) {hd : Hd} {x : Stmt} (h : chkH N fl sc hd x = true) : ∃ t, (∀ (a : Addr) (pn : List (Addr × Obj)), PSs (X.suite a pn) [x] t) ∧ HdT X.K ca (mHd hd) t := by
  cases hd with
  | set i d =>
    simp only [chkH] at h
    split at h
    · simp only [Bool.and_eq_true, decide_eq_true_eq] at h
      obtain ⟨⟨h1, h2⟩, h3⟩ := h
      rename_i z p kc j p2 p3
      obtain ⟨v, _, rv⟩ := pe_const (X := X) (j := j) (pos := p2) h3
      obtain ⟨l, f⟩ := sto_of h2
      refine ⟨tAsg (tC v) (gName i), fun a pn => ?_, ⟨fun W D s H r sd S hs m hh => ?_⟩⟩
      · obtain ⟨v', pv, rv'⟩ := pe_const (X := X.suite a pn) (j := j) (pos := p2) h3
        have ev : v' = v := by
          have a1 := rv' (fun _ => none) ⟨[], []⟩
          have a2 := rv (fun _ => none) ⟨[], []⟩
          cases a1 <;> cases a2 <;> first | rfl | (cases h3; done)
        subst ev
        exact pss_one (ps_set (i := i) (by show X.N.Nodup; rw [cx.nm]; exact cx.nd) (by show X.N[i]? = _; rw [cx.nm]; exact h1) (by show Loc X.env.scope _; rw [cx.scp]; exact l) pv rfl (by
          rcases f with f | f
          · exact .inl (cx.fn f _)
          · exact .inr (by show X.env.scope.names.lookup _ = _; rw [cx.scp]; exact f)))
      · exact hh _ H r (Ext.refl ..) m (hs.set (rv H r))
    · cases h
  | ret d =>
    simp only [chkH] at h
    split at h
    · rename_i kc j p2 p3
      obtain ⟨v, _, rv⟩ := pe_const (X := X) (j := j) (pos := p2) h
      refine ⟨tRet (tC v), fun a pn => ?_, ⟨fun W D s H r sd S hs m hh => hh v H r (Ext.refl ..) m (rv H r)⟩⟩
      obtain ⟨v', pv, rv'⟩ := pe_const (X := X.suite a pn) (j := j) (pos := p2) h
      have ev : v' = v := by
        have a1 := rv' (fun _ => none) ⟨[], []⟩
        have a2 := rv (fun _ => none) ⟨[], []⟩
        cases a1 <;> cases a2 <;> first | rfl | (cases h; done)
      subst ev
      exact pss_one (ps_ret pv)
    · cases h
theorem sound_asg {N : List Str} {fl : Bool} {sc : Scope} {X : Cx} {W : WX} {tg x : Expr} {pos : Pos} {t : Tg} {e : E} (cx : Cxt C ca fa call k N fl sc X W) (h1 : chkG C N fl sc t tg = true) (h2 : chkE C N fl sc e x = true) (h3 : swOk sc tg x = true) :
    PS X (.Assign [tg] x pos) (rS X.K ca W (mAsg (dE C.G call e) (dG C.G call t))) := by
  have hk : X.env.scope.kind = .function := by rw [cx.scp]; exact cx.kind
  have hw : swappedStores [tg] x X.env = pure none := sw_none hk (by rw [cx.scp]; exact h3)
  have ha : (assignEach [tg] X.env).map (·.2) = [assign tg X.env] := by rw [asg1_ok h1]; rfl
  have hE := soundE e (X := X) (W := W) cx h2
  have hG := soundG t (X := X) (W := W) cx h1
  by_cases hn : noLc x = true
  · exact s_asg hE hG (swaps_no hn _ _ _) hw ha
  · -- a comprehension
    cases e with
    | lc mt t2 it c el own =>
      have h2' := h2
      unfold chkE at h2'
      split at h2'
      · rename_i el2 tg2 iter ifs as scope pos2
        simp only [Bool.and_eq_true, decide_eq_true_eq] at h2'
        obtain ⟨⟨⟨⟨⟨⟨g0, g1⟩, g2⟩, g3⟩, g4⟩, g5⟩, g6⟩ := h2'
        subst g0
        cases t with
        | nm i =>
          have h1' := h1
          unfold chkG at h1'
          split at h1'
          · rename_i y py
            simp only [Bool.and_eq_true, decide_eq_true_eq] at h1'
            have hs := swaps_lc (elt := el2) (gs := [⟨tg2, iter, ifs, 0⟩]) (scope := scope) (pos := pos2) (py := py) (y := y) (l := pos.line) (env := X.env) hk
            generalize hb : (decide (X.env.scope.names.lookup y = some .local) && (py.line == pos2.line) && !(scope.names.any fun (n, k) => n == y && (k == .local || k == .cell))) = b at hs
            cases b with
            | false => exact s_asg hE hG hs hw ha
            | true =>
              have hl : X.env.scope.names.lookup y = some .local := by
                simp only [Bool.and_eq_true, decide_eq_true_eq] at hb
                exact hb.1.1
              have ok : BlkOk N sc scope own := blkOk_by g1
              have ok' : BlkOk X.N X.env.scope scope own := by rw [cx.nm, cx.scp]; exact ok
              have hts : ∀ i ∈ tgSl t2, i ∈ own.map (·.2) := fun i hi => List.contains_iff_mem.mp (List.all_eq_true.mp g2 i hi)
              rw [show dE C.G call (.lc mt t2 it c el own) = (if mt = true then mLcM (dI C.G call it) (dG C.G call t2) (own.map (·.2)) (dC C.G call c) (dE C.G call el) else mLc (dI C.G call it) (dG C.G call t2) (own.map (·.2)) (dC C.G call c) (dE C.G call el)) from by rw [dE], show dG C.G call (.nm i) = gNm i from by rw [dG]]
              exact s_setLc mt cx.calm (by rw [cx.nm]; exact cx.nd) (by rw [cx.nm]; exact h1'.1) hl hs (soundI it cx g3) ok' hts (fun s H A cl fp => soundG t2 (cx.blk s H scope ok.kind cl A fp) g4) (fun s H A cl fp => soundC c (cx.blk s H scope ok.kind cl A fp) g5) (fun s H A cl fp => soundE el (cx.blk s H scope ok.kind cl A fp) g6) (fold_ok (okI g3) X.env)
          · cases h1'
        | tup ts =>
          have h1' := h1
          unfold chkG at h1'
          split at h1'
          · exact s_asg hE hG rfl hw ha
          · cases h1'
        | sub o i =>
          have h1' := h1
          unfold chkG at h1'
          split at h1'
          · exact s_asg hE hG rfl hw ha
          · cases h1'
      · cases h2'
    | _ => exact absurd (by unfold chkE at h2; split at h2 <;> first | rfl | (cases h2; done)) hn

mutual
theorem soundS : ∀ (s : S1) {N : List Str} {fl : Bool} {sc : Scope} {X : Cx} {W : WX} {x : Stmt}, Cxt C ca fa call k N fl sc X W → chkS C N fl sc s x = true → PS X x (rS X.K ca W (dS C.G call wf s))
  | .ex e, N, fl, sc, X, W, x, cx, h => by
    unfold chkS at h
    split at h
    · rw [Bool.and_eq_true] at h
      exact s_expr (soundE e cx h.2) (swaps_no h.1 _ _ _)
    · cases h
  | .doc, N, fl, sc, X, W, x, cx, h => by
    unfold chkS at h
    split at h
    · exact s_doc
    · cases h
  | .pass, N, fl, sc, X, W, x, cx, h => by
    unfold chkS at h
    split at h
    · exact s_pass
    · cases h
  | .brk, N, fl, sc, X, W, x, cx, h => by
    unfold chkS at h
    split at h
    · exact s_brk
    · cases h
  | .cnt, N, fl, sc, X, W, x, cx, h => by
    unfold chkS at h
    split at h
    · exact s_cnt
    · cases h
  | .ret e, N, fl, sc, X, W, x, cx, h => by
    unfold chkS at h
    split at h
    · exact s_ret (soundE e cx h)
    · cases h
  | .retN, N, fl, sc, X, W, x, cx, h => by
    unfold chkS at h
    split at h
    · exact s_retN
    · cases h
  | .asg t e, N, fl, sc, X, W, x, cx, h => by
    unfold chkS at h
    split at h
    · simp only [Bool.and_eq_true] at h
      exact sound_asg cx h.1.1 h.1.2 h.2
    · cases h
  | .aug i o e, N, fl, sc, X, W, x, cx, h => by
    unfold chkS at h
    split at h
    · simp only [Bool.and_eq_true, decide_eq_true_eq] at h
      obtain ⟨⟨⟨⟨h0, h1⟩, h2⟩, h3⟩, h4⟩ := h
      subst h0
      obtain ⟨R, r1, r2⟩ := iop_rule (X := X) (ca := ca) o h1
      obtain ⟨l, f⟩ := sto_of h3
      refine s_aug (by rw [cx.nm]; exact cx.nd) (by rw [cx.nm]; exact h2) (by rw [cx.scp]; exact l) (soundE e cx h4) r1 r2 ?_
      rcases f with f | f
      · exact .inl (cx.fn f _)
      · exact .inr (by rw [cx.scp]; exact f)
    · cases h
  | .par is es, N, fl, sc, X, W, x, cx, h => by
    have hk : X.env.scope.kind = .function := by rw [cx.scp]; exact cx.kind
    have hnd : X.N.Nodup := by rw [cx.nm]; exact cx.nd
    unfold chkS at h
    split at h
    · rename_i ts _ _ vs _ _ pos
      rw [Bool.and_eq_true] at h
      obtain ⟨h, hl⟩ := h
      have hL := soundL es (X := X) (W := W) cx hl
      split at h
      · simp only [Bool.and_eq_true, decide_eq_true_eq] at h
        obtain ⟨⟨⟨⟨⟨h0, h1⟩, h2⟩, h3⟩, h4⟩, h5⟩ := h
        exact PS.imp (ps_par cx.calm hnd (by rw [cx.nm]; exact h1) (by rw [cx.nm]; exact h2) h0 (by rw [cx.scp]; exact h3) (by rw [cx.scp]; exact h4) hL (swP_ok hk (by rw [cx.scp]; exact h5)) rfl) fun D s H hh => par_in hh
      · simp only [Bool.and_eq_true, decide_eq_true_eq] at h
        obtain ⟨⟨⟨⟨⟨⟨⟨⟨⟨h0, h01⟩, h02⟩, h1⟩, h2⟩, h21⟩, h3⟩, h4⟩, h41⟩, h5⟩ := h
        exact PS.imp (ps_par3 cx.calm hnd (by rw [cx.nm]; exact h1) (by rw [cx.nm]; exact h2) (by rw [cx.nm]; exact h21) h0 h01 h02 (by rw [cx.scp]; exact h3) (by rw [cx.scp]; exact h4) (by rw [cx.scp]; exact h41) hL (swP_ok hk (by rw [cx.scp]; exact h5)) rfl) fun D s H hh => par3_in hh
      · cases h
    · cases h
  | .ite c a b, N, fl, sc, X, W, x, cx, h => by
    unfold chkS at h
    split at h
    · simp only [Bool.and_eq_true] at h
      exact s_ite (soundT c cx h.1.1) (soundSs a cx h.1.2) (soundSs b cx h.2)
    · cases h
  | .for_ t it b, N, fl, sc, X, W, x, cx, h => by
    unfold chkS at h
    split at h
    · simp only [Bool.and_eq_true] at h
      exact s_for cx.po cx.calm (soundI it cx h.1.2) (soundG t cx h.1.1) (soundSs b cx h.2) (fold_ok (okI h.1.2) X.env)
    · cases h
  | .whl c b, N, fl, sc, X, W, x, cx, h => by
    unfold chkS at h
    split at h
    · simp only [Bool.and_eq_true] at h
      exact s_whl cx.po (soundT c cx h.1) (soundSs b cx h.2)
    · cases h
  | .setf o f e, N, fl, sc, X, W, x, cx, h => by
    unfold chkS at h
    split at h
    · simp only [Bool.and_eq_true, decide_eq_true_eq] at h
      obtain ⟨⟨⟨h0, h1⟩, h2⟩, h3⟩ := h
      subst h0
      exact s_setf cx.cz (soundE o cx h2) (soundE e cx h3) (swaps_no h1 _ _ _)
    · cases h
  | .augS o i p e, N, fl, sc, X, W, x, cx, h => by
    unfold chkS at h
    split at h
    · simp only [Bool.and_eq_true, decide_eq_true_eq] at h
      obtain ⟨⟨⟨⟨h0, h1⟩, h2⟩, h3⟩, h4⟩ := h
      subst h0
      obtain ⟨R, r1, r2⟩ := iop_rule (X := X) (ca := ca) p h1
      exact s_augS (soundE o cx h2) (soundE i cx h3) (soundE e cx h4) r1 r2 (aug_ok (okX_of h3))
    · cases h
  | .rais c, N, fl, sc, X, W, x, cx, h => by
    unfold chkS at h
    split at h
    · simp only [Bool.and_eq_true] at h
      obtain ⟨⟨h1, h2⟩, h3⟩ := h
      obtain ⟨g1, g2, g3, g4, g5⟩ := cx.xz.at_ _ _ h1
      exact s_rais cx.calm cx.tk g1 g2 g3 g4 g5 (by unfold Gl Env.kindOf; rw [cx.scp]; exact of_decide_eq_true h2) (dbg_of h3).1
    · cases h
  | .tryC b c hd, N, fl, sc, X, W, x, cx, h => by
    unfold chkS at h
    split at h
    · simp only [Bool.and_eq_true] at h
      obtain ⟨⟨⟨⟨⟨h0, h1⟩, h2⟩, h3⟩, h4⟩, h5⟩ := h
      obtain ⟨g1, _⟩ := cx.xz.at_ _ _ h1
      have hn : Names X _ (.ref (ca c)) := ⟨by unfold Gl Env.kindOf; rw [cx.scp]; exact of_decide_eq_true h2, (dbg_of h3).1, .inl g1⟩
      obtain ⟨ts, t1, t2⟩ := hd_ok cx h5
      refine s_try (cx.st h0).1 (cx.st h0).2 hn cx.tk (fun W' pn xe tk po => soundSs b (cx.tr pn xe tk po) h4) t1 t2 ?_
      intro j hj
      obtain ⟨z, hz⟩ := isX_of hj
      exact cx.xz.exm j c z _ hz h1
    · cases h
theorem soundSs : ∀ (ss : Ss) {N : List Str} {fl : Bool} {sc : Scope} {X : Cx} {W : WX} {xs : List Stmt}, Cxt C ca fa call k N fl sc X W → chkSs C N fl sc ss xs = true → PSs X xs (rS X.K ca W (dSs C.G call wf ss))
  | .nil, N, fl, sc, X, W, xs, cx, h => by
    unfold chkSs at h
    cases xs with
    | nil => exact s_nil
    | cons _ _ => cases h
  | .cons s ss, N, fl, sc, X, W, xs, cx, h => by
    unfold chkSs at h
    split at h
    · rw [Bool.and_eq_true] at h
      exact s_cons (soundS s cx h.1) (soundSs ss cx h.2)
    · cases h
end
end
end Z

/-! Z layer, part M: defs by their bodies; the law's end. -/
namespace Z
open PySem PySem.Spec PyProof.Rows L2

structure Fn where
  np : Nat
  ns : Nat
  body : Ss
def fnEnd (o : OutS) : Out D := match o with
  | .ok .nx _ S => .ok .non S
  | .ok (.rt d) _ S => .ok d S
  | .exc c fs _ S => .exc c fs S
  | _ => .bad
def slots0 (ns : Nat) (args : List D) : Sl := args.map some ++ List.replicate (ns - args.length) none
/-- a call of the f-th def; k: how deep calls may go; wf: how many turns a while may take -/
def run (T : List Fn) (G : Ev) (wf : Nat) : Nat → Nat → List D → Sto → Out D
  | 0, _, _, _ => .bad
  | k + 1, f, args, S => match T[f]? with
    | some fn => if args.length = fn.np then fnEnd (dSs G (run T G wf k) wf fn.body (slots0 fn.ns args) S) else .bad
    | none => .bad

/-- the body of a def, with what is known of its scope -/
structure FnText (C : Tab) (fn : Fn) (N ps : List Str) (sc : Scope) (body : List Stmt) : Prop where
  scope : FnScope N ps sc
  np : ps.length = fn.np
  ns : N.length = fn.ns
  chk : chkSs C N true sc fn.body body = true

section
variable {P : Program} {w : World} {K : PySem.W.Frag} {mg : Str → Option Value} {base : Heap} {C : Tab} {ca : Nat → Addr} {T : List Fn} {wf : Nat}
theorem slots_start {H : Hp} {r : Rg} {ds : List D} {vs : List V} {N : List Str} {ns : Nat} (h : Reps K H r ds vs) (hn : N.length = ns) (hl : ds.length ≤ ns) : Slots K H r (slots0 ns ds) (start N vs) := by
  have e := h.length
  refine ⟨by unfold slots0 L2.start; simp; omega, fun i d hd => ?_⟩
  unfold slots0 at hd
  unfold L2.start
  by_cases hi : i < ds.length
  · rw [List.getElem?_append_left (by simpa using hi), List.getElem?_map] at hd
    cases q : ds[i]? with
    | none => rw [q] at hd; cases hd
    | some d' =>
      rw [q] at hd
      cases hd
      obtain ⟨v, h1, h2⟩ := h.get q
      exact ⟨v, by rw [List.getElem?_append_left (by simpa [← e] using hi), List.getElem?_map, h1]; rfl, h2⟩
  · rw [List.getElem?_append_right (by simpa using hi), List.getElem?_replicate] at hd
    split at hd <;> cases hd
theorem fnEnd_ln {H : Hp} {r : Rg} {o : OutS} {Q : VK} {E : XK} (h : Ln K ca (rV K) H r (fnEnd o) Q E) : LnS K ca H r o { nx := fun _ H' => Q .non H', rt := Q } (fun c d _ H' => E c d H') := by
  cases o with
  | bad => exact h
  | exc c fs sd S => exact fun cls d s H' r' x m _ q => h cls d H' r' x m q
  | ok f sd S => cases f with
    | nx => exact fun s H' r' x m _ => h .non H' r' x m .non
    | rt d => exact fun v H' r' x m q => h v H' r' x m q
    | bk => exact h.elim
    | ct => exact h.elim
/-- facts of the module that every body may use -/
structure ModOk (P : Program) (w : World) (K : PySem.W.Frag) (mg : Str → Option Value) (C : Tab) (ca fa : Nat → Addr) : Prop where
  blt : ∀ x ∈ bltN, mg (Str.ofString x) = none
  gl : ∀ (j : Nat) (x : Str) (d : D), C.gl[j]? = some (x, d) → ∃ u v, mg x = some u ∧ RelV v u ∧ ∀ H r, Rep K H r d v
  fg : ∀ (f : Nat) (x : Str) (n : Nat), C.fns[f]? = some (some x, n) → mg x = some (.ref (fa f)) ∧ PySem.W.keepIn K (.ref (fa f)) = true
  cz : ClsZ K ca fa C.G
  mz : MtZ C.G C.ar
  cg : ∀ (c : Nat) (x : Str) (fs : List Str) (ms : List (Str × Nat)) (i : Nat), C.cls[c]? = some (x, fs, ms) → ms.lookup ("__init__" : Str) = some i → mg x = some (.ref (ca c)) ∧ Mk K (ca c) (fa i)
  xz : ExcZ K mg C ca
  dz : DcZ P w K mg C
/-- a def of the text, as it stands behind the top -/
structure DefOk (K : PySem.W.Frag) (C : Tab) (fn : Fn) (f : Addr) (fd : FuncData) (ps : List Str) : Prop where
  bn : Binds K fd ps []
  ex : ∃ (N : List Str) (x qual : Str) (params : Arguments) (body : List Stmt) (scope : Scope), FnText C fn N ps scope body ∧ FunD K x qual params body scope [] [] f fd
/-- the table of the defs fits the table of their bodies -/
structure TabOk (C : Tab) (T : List Fn) : Prop where
  len : C.fns.length = T.length
  np : ∀ (i n : Nat) (fn : Fn), C.ar i = some n → T[i]? = some fn → fn.np = n
theorem run_bad {k : Nat} (tb : TabOk C T) (i n : Nat) (ds : List D) (S : Sto) (e : C.ar i = some n) (h : ds.length ≠ n) : run T C.G wf k i ds S = .bad := by
  cases k with
  | zero => rfl
  | succ k =>
    rw [run]
    split
    · rename_i fn e1
      rw [if_neg (by rw [tb.np i n fn e e1]; exact h)]
    · rfl
theorem run_no {k : Nat} (tb : TabOk C T) (i : Nat) (ds : List D) (S : Sto) (e : C.ar i = none) : run T C.G wf k i ds S = .bad := by
  cases k with
  | zero => rfl
  | succ k =>
    rw [run]
    have : T[i]? = none := by
      unfold Tab.ar at e
      rw [Option.map_eq_none_iff, List.getElem?_eq_none_iff] at e
      rw [List.getElem?_eq_none_iff, ← tb.len]; exact e
    rw [this]
theorem fn_ok {fa : Nat → Addr} {fn : Fn} {f : Addr} {fd : FuncData} {ps : List Str} {k i : Nat} (tb : TabOk C T) (M : ModOk P w K mg C ca fa) (Dk : DefOk K C fn f fd ps) (hi : T[i]? = some fn)
    (fns : ∀ (i n : Nat), C.ar i = some n → ∃ (fd : FuncData) (ps : List Str), ps.length = n ∧ Binds K fd ps [] ∧ FnZ P w K mg base (2 * k) (fa i) fd ps (spOf K ca n (run T C.G wf k i))) :
    FnZ P w K mg base (2 * k + 2) f fd ps (spOf K ca fn.np (run T C.G wf (k + 1) i)) := by
  obtain ⟨N, x, qual, params, body, scope, tx, F⟩ := Dk.ex
  obtain ⟨oc, od, dV, kV, doc, pm, an, cdv, ct, osl, rfl, lk, hcd, _, _⟩ := F.ex
  have SC := tx.scope
  refine ⟨fun vs H Q E h => by rw [h.1, tx.np], fun A outer s H args us vs Q E room gd e0 bt rv hsp => ?_⟩
  obtain ⟨hl, ds, r, S, hr, m, hq⟩ := hsp
  have KX : K.In s.heap := e0.mod.kin.keeps fun b o e => (e0.bs b o e).1
  have lim : s.heap.NoLimit := e0.mod.nolimit.keeps fun b o e => (e0.bs b o e).1
  have hlen : vs.length = ps.length := by rw [hl, tx.np]
  have kinds : ∀ y ∈ ps.zip us, scope.names.lookup y.1 = some .local ∨ (scope.names.lookup y.1 = some .cell ∧ ((cellsFrom (s.heap.objs.size + 1) scope.names []).lookup y.1).isSome = true) := by
    rintro ⟨n, v⟩ hy
    cases SC.par n (List.of_mem_zip hy).1 with
    | inl q => exact .inl q
    | inr q => exact .inr ⟨q, PySem.W.cellsFrom_some _ _ _ (.inl q)⟩
  refine codeAny_call_function room.depth (KX _ _ lk) rfl SC.co SC.gen rfl (PySem.W.codeRec_of KX hcd) (bt _ _ _ _ ?_)
  refine wpAny_newFunctionEnv_cells SC.kind kinds fun env he s1 inc => ?_
  subst he
  refine ⟨lim.keeps inc.toInCall.keep, codeAny_func ?_⟩
  have I : Inv (cxOf (L2.CX P w) P w K mg base N qual scope f cdv A outer s H E) [] (start N vs) H s1 := inv_start SC room.hd e0 hlen rv inc
  have cx : Cxt C ca fa (run T C.G wf k) (2 * k) N true scope (cxOf (L2.CX P w) P w K mg base N qual scope f cdv A outer s H E) (fun c d _ H' => E c d H') :=
    ⟨rfl, SC.kind, rfl, rfl, SC.nd, fun _ _ => rfl, room.deeper _, gd, takes_of rfl rfl rfl rfl, passes_of rfl, M.blt, M.gl, ⟨fns, fun i n ds S e h => run_bad tb i n ds S e h, fun i ds S e => run_no tb i ds S e⟩, M.fg, M.cz, M.mz, M.cg, fun _ => ⟨rfl, rfl⟩, M.xz, M.dz⟩
  have B := soundSs (wf := wf) fn.body cx tx.chk
  have hds : ds.length = fn.np := by rw [hr.length]; exact hl
  have hsub : ps.length ≤ N.length := by
    have := congrArg List.length SC.pre
    rw [List.length_take] at this; omega
  simp only [run, hi, hds, ↓reduceIte] at hq
  have rd : rS K ca (fun c d _ H' => E c d H') (dSs C.G (run T C.G wf k) wf fn.body) { nx := fun _ H' => Q .non H', rt := Q } (start N vs) H :=
    ⟨slots0 fn.ns ds, r, S, slots_start hr tx.ns (by rw [hds, ← tx.np, ← tx.ns]; exact hsub), m, fnEnd_ln hq⟩
  refine wpAny_mono (B.run [] s1 (start N vs) H _ I rd) (fun fl s' hs => ?_) fun e s' hs => hs
  have ret : ∀ {σ' : L2.St} {H' : Hp} {v : V} {u : Value}, Inv (cxOf (L2.CX P w) P w K mg base N qual scope f cdv A outer s H E) [] σ' H' s' → RelV v u → Q v H' → CE outer P w H s Q u s' :=
    fun J ru q => ⟨_, _, J.os, J.bare, J.base, J.hok, ru, q⟩
  match fl, hs with
  | .ret u, ⟨v, σ', H', J, ru, q⟩ => exact ret J ru q
  | .next, ⟨σ', H', J, q⟩ => exact ret (v := V.non) (u := Value.none) J rfl q
  | .brk, ⟨_, _, _, q⟩ => exact False.elim q
  | .cont, ⟨_, _, _, q⟩ => exact False.elim q
/-- all defs at once -/
theorem all_ok {fa : Nat → Addr} (tb : TabOk C T) (M : ModOk P w K mg C ca fa) (defs : ∀ (f : Nat) (n : Nat) (fn : Fn), C.ar f = some n → T[f]? = some fn → ∃ (fd : FuncData) (ps : List Str), DefOk K C fn (fa f) fd ps ∧ ps.length = n) :
    ∀ (k f n : Nat), C.ar f = some n → ∃ (fd : FuncData) (ps : List Str), ps.length = n ∧ Binds K fd ps [] ∧ FnZ P w K mg base (2 * k) (fa f) fd ps (spOf K ca n (run T C.G wf k f))
  | 0, f, n, e => by
    have hl : f < T.length := by
      rw [← tb.len]
      unfold Tab.ar at e
      rw [Option.map_eq_some_iff] at e
      obtain ⟨_, e, _⟩ := e
      exact (List.getElem?_eq_some_iff.mp e).1
    obtain ⟨fd, ps, Dk, hp⟩ := defs f n T[f] e (List.getElem?_eq_getElem hl)
    exact ⟨fd, ps, hp, Dk.bn, fun vs H Q E h => by rw [h.1, hp], fun A outer s H args us vs Q E _ _ _ _ _ h => by obtain ⟨_, _, _, _, _, _, z⟩ := h; exact z.elim⟩
  | k + 1, f, n, e => by
    have hl : f < T.length := by
      rw [← tb.len]
      unfold Tab.ar at e
      rw [Option.map_eq_some_iff] at e
      obtain ⟨_, e, _⟩ := e
      exact (List.getElem?_eq_some_iff.mp e).1
    obtain ⟨fd, ps, Dk, hp⟩ := defs f n T[f] e (List.getElem?_eq_getElem hl)
    refine ⟨fd, ps, hp, Dk.bn, ?_⟩
    have := fn_ok (P := P) (w := w) (base := base) (ca := ca) (wf := wf) tb M Dk (List.getElem?_eq_getElem hl) (all_ok tb M defs k)
    rw [tb.np f n T[f] e (List.getElem?_eq_getElem hl)] at this
    exact this
end

/-! ### the end -/
section
variable {P : Program} {w : World} {K : PySem.W.Frag} {mg mb : Str → Option Value} {k : Nat} {fa a : Addr} {fd : FuncData} {x : Str} {sp : Sp} {s1 : Shared} {vs : List Value} {ns : List Int}
theorem law_from (H : Hp) (only : Only H) (sq : SqL K H a (ns.map V.int)) (hok : HOk P w H s1.heap) (here : ∀ b, H b ≠ none → b = a) (out : H a ≠ none → K.lookup a = none)
    (KX : K.In s1.heap) (g : s1.heap.Ns mainGlobals mg) (b : s1.heap.Ns builtinsNs mb) (bb : ∀ x : Str, x ≠ "__name__" → mb x = bootBuiltins x) (lim : s1.heap.NoLimit) (gens : s1.gens = #[])
    (ha : s1.heap.get? a = some { cls := .type "list", data := .seq vs.toArray }) (room : Room k callerA) (F : ∀ base : Heap, K.In base → base.Ns mainGlobals mg → FnZ P w K mg base k fa fd [x] sp)
    (bind : ∀ (s : Shared) (u : Value), BindsTo s fd ⟨[u], []⟩ [(x, u)]) (hsp : sp [.ref a] H (fun v _ => v = .bl true) fun _ _ _ => False) :
    codeAny (model P w) callerA (.call (.ref fa) ⟨[.ref a], []⟩) (fun r s' => r = .ok (.ret (.bool true)) ∧ OldK s1.heap s'.heap ∧ s'.os = s1.os ∧ AllBare s'.gens) s1 := by
  have plain : ∀ {c : Addr} {o : Obj} {es : Array DictEntry} {ep : Nat}, s1.heap.get? c = some o → o.data = .dict es ep → H c = none := by
    intro c o es ep hc hd
    refine Classical.byContradiction fun z => ?_
    have hca := here c z
    subst hca
    rw [ha] at hc
    cases hc
    exact nomatch (show Data.seq vs.toArray _ = Data.dict es ep from hd)
  have nsK : ∀ {c : Addr} {m : Str → Option Value}, s1.heap.Ns c m → (hidT s1.heap H).Ns c m := by
    rintro c m ⟨o, es, ep, hc, hd, rest⟩
    exact ⟨o, es, ep, hidT_get hc (plain hc hd), hd, rest⟩
  have kin : K.In (hidT s1.heap H) := fun c o hc => hidT_get (KX c o hc) (Classical.byContradiction fun z => by
    have hca := here c z
    subst hca
    have := out z
    rw [hc] at this
    cases this)
  have hmod : Mod K mg (hidT s1.heap H) := ⟨kin, nsK g, ⟨mb, nsK b, bb⟩, by obtain ⟨mc, h1, h2⟩ := lim; exact ⟨mc, nsK h1, h2⟩⟩
  have env : Env0 P w K mg (hidT s1.heap H) callerA [] s1 H := ⟨rfl, hmod, fun _ _ e => of_hidT e, Nat.le_of_eq (hidT_size _ _), trivial, fun c z => absurd (show c ∈ ([] : List Addr) from z) List.not_mem_nil, hok, .of_eq gens⟩
  refine codeAny_mono ((F _ kin (nsK g)).run callerA [] s1 H ⟨[.ref a], []⟩ [.ref a] [.ref a] _ _ room rfl env (bind s1 (.ref a)) (.cons rfl .nil) hsp) fun res s' hres => ?_
  match res, hres with
  | .error e, hres =>
    obtain ⟨_, _, _, _, _, _, _, _, _, _, _, _, z⟩ := hres
    exact z.elim
  | .ok .next, hres => exact False.elim hres
  | .ok .brk, hres => exact False.elim hres
  | .ok .cont, hres => exact False.elim hres
  | .ok (.ret u), hres =>
    obtain ⟨v, H', os, bare, un, hok', rv, q⟩ := hres
    have q' : v = .bl true := q
    subst q'
    have hu : u = Value.bool true := rv
    subst hu
    refine ⟨rfl, OldK.of_keep fun c o hc => ?_, os, bare⟩
    rcases only c with z | ⟨ob, xs, z⟩
    · exact un.keep c o hc z (fun y => absurd (show c ∈ ([] : List Addr) from y) List.not_mem_nil) List.not_mem_nil
    · have e1 := (hok c _ z).1
      have e2 := (hok' c _ (un.frzs c ob _ z)).1
      rw [hc] at e1
      cases e1
      exact e2
theorem law_callZ (KX : K.In s1.heap) (g : s1.heap.Ns mainGlobals mg) (b : s1.heap.Ns builtinsNs mb) (bb : ∀ x : Str, x ≠ "__name__" → mb x = bootBuiltins x) (lim : s1.heap.NoLimit) (gens : s1.gens = #[])
    (ha : s1.heap.get? a = some { cls := .type "list", data := .seq vs.toArray }) (hi : IntsAre vs ns) (hl : ns.length ≤ sizeLine) (room : Room k callerA) (F : ∀ base : Heap, K.In base → base.Ns mainGlobals mg → FnZ P w K mg base k fa fd [x] sp)
    (bind : ∀ (s : Shared) (u : Value), BindsTo s fd ⟨[u], []⟩ [(x, u)]) (hsp : ∀ H : Hp, Only H → FL K H a (ns.map V.int) → sp [.ref a] H (fun v _ => v = .bl true) fun _ _ _ => False) :
    codeAny (model P w) callerA (.call (.ref fa) ⟨[.ref a], []⟩) (fun r s' => r = .ok (.ret (.bool true)) ∧ OldK s1.heap s'.heap ∧ s'.os = s1.os ∧ AllBare s'.gens) s1 := by
  have rv := vals_ints hi
  cases hk : K.lookup a with
  | some o =>
    have e := KX a o hk
    rw [ha] at e
    cases e
    have kl : KL K a (ns.map V.int) := ⟨_, vs.toArray, _, hk, rfl, rfl, rfl, by rw [List.size_toArray, hi.length]; exact hl, by simpa using rv⟩
    exact law_from (fun _ => none) (fun _ => .inl rfl) (.inr kl) (fun c u z => nomatch (show (none : Option HO) = some u from z)) (fun _ z => absurd rfl z) (fun z => absurd rfl z) KX g b bb lim gens ha room F bind (hsp _ (fun _ => .inl rfl) (.inr kl))
  | none =>
    let H : Hp := fun c => if c = a then some (.frz { cls := .type "list", data := .seq vs.toArray } (.lst (ns.map V.int))) else none
    have hat : H a = some (.frz { cls := .type "list", data := .seq vs.toArray } (.lst (ns.map V.int))) := if_pos rfl
    have hno : ∀ c, c ≠ a → H c = none := fun c z => if_neg z
    have only : Only H := fun c => by
      by_cases z : c = a
      · exact .inr ⟨_, _, if_pos z⟩
      · exact .inl (hno c z)
    refine law_from H only (.inl (.inr ⟨_, hat⟩)) (fun c u z => ?_) (fun c z => Classical.byContradiction fun y => z (hno c y)) (fun _ => hk) KX g b bb lim gens ha room F bind (hsp H only (.inl ⟨_, hat⟩))
    by_cases y : c = a
    · subst y
      rw [hat] at z
      cases z
      exact ⟨ha, by rw [List.length_map]; exact hl, vs, _, rv, ha⟩
    · rw [hno c y] at z
      cases z
end
end Z

/-! Z layer, part N: rows of defs, the head. -/
namespace Z
open PySem PySem.Spec PyProof.Rows L2

theorem lookup_zip {ps : List Str} (nd : ps.Nodup) : ∀ {us : List Value}, us.length = ps.length → ∀ n ∈ ps, ((ps.zip us).lookup n).isNone = false := by
  induction ps with
  | nil => intro us _ n hn; cases hn
  | cons p ps ih =>
    intro us hl n hn
    cases us with
    | nil => cases hl
    | cons u us =>
      rw [List.zip_cons_cons, List.lookup_cons]
      by_cases e : n = p
      · subst e; simp
      · have : (n == p) = false := by simpa using e
        rw [this]
        rcases List.mem_cons.mp hn with h | h
        · exact absurd h e
        · exact ih (List.nodup_cons.mp nd).2 (by simpa using hl) n h
theorem fm_congr {α β : Type} {f g : α → Option β} : ∀ {l : List α}, (∀ a ∈ l, f a = g a) → l.filterMap f = l.filterMap g
  | [], _ => rfl
  | a :: l, h => by
    rw [List.filterMap_cons, List.filterMap_cons, h a (by simp), fm_congr fun b hb => h b (by simp [hb])]
theorem filterMap_zip {ps : List Str} (nd : ps.Nodup) : ∀ {us : List Value}, us.length = ps.length → ps.filterMap (fun n => ((ps.zip us).lookup n).map (n, ·)) = ps.zip us := by
  induction ps with
  | nil => intro us _; rfl
  | cons p ps ih =>
    intro us hl
    cases us with
    | nil => cases hl
    | cons u us =>
      rw [List.zip_cons_cons, List.filterMap_cons, List.lookup_cons]
      simp only [beq_self_eq_true, Option.map_some]
      congr 1
      rw [← ih (List.nodup_cons.mp nd).2 (show us.length = ps.length by simpa using hl)]
      refine fm_congr fun n hn => ?_
      have : (n == p) = false := by
        have : n ≠ p := fun e => (List.nodup_cons.mp nd).1 (e ▸ hn)
        simpa using this
      rw [List.lookup_cons, this, ih (List.nodup_cons.mp nd).2 (show us.length = ps.length by simpa using hl)]
theorem bind_plain {x qual : Str} {as : List Arg} {body : List Stmt} {scope : Scope} {kV doc pm : Value} {an : Option Addr} {cdv ct : Value} {ps : List Str} (hps : as.map (·.arg) = ps) (nd : ps.Nodup) (us : List Value) (hl : us.length = ps.length) :
    bindArgs (PySem.W.fnOf x qual ⟨[], as, none, [], [], none, []⟩ body scope .none kV doc pm an cdv ct) ⟨us, []⟩ = pure (ps.zip us) := by
  have h1 := lookup_zip nd hl
  have h2 := filterMap_zip nd hl
  have h3 : ps.filter (fun n => ((ps.zip us).lookup n).isNone) = [] := List.filter_eq_nil_iff.mpr fun n hn => by rw [h1 n hn]; simp
  have h4 : ¬ us.length > ps.length := by omega
  have e1 : seqItems? Value.none = pure none := rfl
  unfold bindArgs PySem.W.fnOf
  simp only [hps, List.map_nil, List.nil_append, List.append_nil, e1, List.forIn_nil, pure_bind, Option.getD_none, List.length_nil, Nat.zero_sub, List.drop_zero, Nat.sub_zero, List.take_length, h3, h4, h2, List.isEmpty_nil, Bool.not_true, Bool.false_eq_true, ↓reduceIte, decide_false, Bool.false_and, List.drop_length, List.zip_nil_left, List.drop_nil]

/-! ### one row a def -/
def clsBodyZ : Stmt → List Stmt
  | .ClassDef _ _ _ body _ _ _ _ _ _ _ => body
  | _ => []
structure Row where
  at_ : Str × Option Str
  ps : List Str
  N : List Str
  fn : Fn
  st : Stmt
def Row.nm (r : Row) : Str := match r.at_.2 with
  | none => r.at_.1
  | some m => m
def Row.qual (r : Row) : Str := match r.at_.2 with
  | none => r.at_.1
  | some m => r.at_.1 ++ "." ++ m
def Row.gn (r : Row) : Option Str := match r.at_.2 with
  | none => some r.at_.1
  | some _ => none
def Row.dfd (r : Row) : He.DefD := ⟨r.at_, r.nm, r.qual, defArgs r.st, defBody r.st, defScope r.st, [], []⟩
abbrev CRow := Str × List Str × List (Str × Nat)
abbrev XRow := Str × List Nat
abbrev DRow := Str × List (Str × D)
def tabOf (rows : List Row) (gl : List (Str × D)) (cls : List CRow) (exs : List XRow) (dcs : List DRow) : Tab := ⟨rows.map fun r => (r.gn, r.ps.length), gl, cls, exs, dcs⟩
def argsOk (p : Arguments) (ps : List Str) : Bool := match p with
  | ⟨[], as, none, [], [], none, []⟩ => decide (as.map (·.arg) = ps)
  | _ => false
def scOk (N ps : List Str) (sc : Scope) : Bool := (match sc.kind with | .function => true | _ => false) && !sc.isCoroutine && !sc.isGenerator && decide N.Nodup && decide (N.take ps.length = ps) &&
  (ps.all fun x => match sc.names.lookup x with | some .local => true | some .cell => true | _ => false) && (sc.names.all fun y => match y.2 with | .free => false | _ => true)
def rowOk (C : Tab) (r : Row) : Bool := scOk r.N r.ps (defScope r.st) && decide (r.ps.length = r.fn.np) && decide (r.N.length = r.fn.ns) && argsOk (defArgs r.st) r.ps && chkSs C r.N true (defScope r.st) r.fn.body (defBody r.st)
theorem scOk_ok {N ps : List Str} {sc : Scope} (h : scOk N ps sc = true) : FnScope N ps sc := by
  unfold scOk at h
  simp only [Bool.and_eq_true, decide_eq_true_eq, Bool.not_eq_true'] at h
  obtain ⟨⟨⟨⟨⟨⟨h1, h2⟩, h3⟩, h4⟩, h5⟩, h6⟩, h7⟩ := h
  refine ⟨?_, h2, h3, h4, h5, fun x hx => ?_, fun y hy e => ?_⟩
  · split at h1
    · assumption
    · cases h1
  · have := List.all_eq_true.mp h6 x hx
    split at this <;> first | exact .inl (by assumption) | exact .inr (by assumption) | (cases this; done)
  · have := List.all_eq_true.mp h7 y hy
    rw [e] at this
    cases this
theorem rowOk_text {C : Tab} {r : Row} (h : rowOk C r = true) : FnText C r.fn r.N r.ps (defScope r.st) (defBody r.st) ∧ argsOk (defArgs r.st) r.ps = true := by
  unfold rowOk at h
  simp only [Bool.and_eq_true, decide_eq_true_eq] at h
  obtain ⟨⟨⟨⟨h1, h2⟩, h3⟩, h4⟩, h5⟩ := h
  exact ⟨⟨scOk_ok h1, h2, h3, h5⟩, h4⟩
theorem FnScope.psnd {N ps : List Str} {sc : Scope} (S : FnScope N ps sc) : ps.Nodup := by
  rw [← S.pre]; exact S.nd.sublist (List.take_sublist _ _)
theorem row_binds {K : PySem.W.Frag} {x qual : Str} {p : Arguments} {body : List Stmt} {scope : Scope} {f : Addr} {fd : FuncData} {ps : List Str} (F : FunD K x qual p body scope [] [] f fd) (h : argsOk p ps = true) (nd : ps.Nodup) :
    Binds K fd ps [] ∧ ∀ (s : Shared) (us : List Value), us.length = ps.length → BindsTo s fd ⟨us, []⟩ (ps.zip us) := by
  unfold argsOk at h
  split at h
  · have e := of_decide_eq_true h
    exact ⟨F.bindsN fun kV doc pm an cdv ct us hl => bind_plain e nd us hl, fun s us hl => F.bindsA (fun kV doc pm an cdv ct us hl => bind_plain e nd us hl) s us hl⟩
  · cases h

/-! ### values of the module's names -/
section
variable (K : PySem.W.Frag)
mutual
def repB : D → Value → Bool
  | .non, u => (match u with | .none => true | _ => false)
  | .bl b, u => (match u with | .bool c => b == c | _ => false)
  | .int i, u => (match u with | .int j _ => decide (i = j) | _ => false)
  | .str x, u => (match u with | .str y _ => decide (x = y) | _ => false)
  | .tup ds, u => (match u with
    | .ref a => (match K.lookup a with
      | some ⟨.type c, _, .seq its _, _⟩ => decide (c = "tuple") && decide (its.size ≤ 16777216) && repsB ds its.toList
      | _ => false)
    | _ => false)
  | .lst _, _ => false
  | .fro _, _ => false
  | .loc _, _ => false
def repsB : List D → List Value → Bool
  | [], us => us.isEmpty
  | d :: ds, us => match us with
    | u :: us => repB d u && repsB ds us
    | [] => false
end
def gloB (x : Str) (d : D) : Bool := match PySem.W.nsIn K mainGlobals x with
  | some (some u) => repB K d u
  | _ => false
end
section
variable {K : PySem.W.Frag}
mutual
theorem repB_ok : ∀ {d : D} {u : Value}, repB K d u = true → ∃ v, RelV v u ∧ ∀ H r, Rep K H r d v
  | .non, u, h => by
    unfold repB at h
    split at h
    · exact ⟨.non, rfl, fun _ _ => .non⟩
    · cases h
  | .bl b, u, h => by
    unfold repB at h
    split at h
    · rename_i c
      have e : b = c := eq_of_beq h
      subst e
      exact ⟨.bl b, rfl, fun _ _ => .bl b⟩
    · cases h
  | .int i, u, h => by
    unfold repB at h
    split at h
    · have e := of_decide_eq_true h
      subst e
      exact ⟨.int i, ⟨_, rfl⟩, fun _ _ => .int i⟩
    · cases h
  | .str x, u, h => by
    unfold repB at h
    split at h
    · have e := of_decide_eq_true h
      subst e
      exact ⟨.str x, ⟨_, rfl⟩, fun _ _ => .str x⟩
    · cases h
  | .tup ds, u, h => by
    unfold repB at h
    split at h
    · rename_i a
      split at h
      · rename_i c od its n sl e
        simp only [Bool.and_eq_true, decide_eq_true_eq] at h
        obtain ⟨⟨h1, h2⟩, h3⟩ := h
        obtain ⟨vs, r1, r2⟩ := repsB_ok h3
        exact ⟨.ref a, rfl, fun H r => .tup (.inr ⟨_, its, n, e, by rw [h1], rfl, by rw [sizeLine_eq]; exact h2, r1⟩) (r2 H r)⟩
      · cases h
    · cases h
  | .lst _, u, h => by unfold repB at h; cases h
  | .fro _, u, h => by unfold repB at h; cases h
  | .loc _, u, h => by unfold repB at h; cases h
theorem repsB_ok : ∀ {ds : List D} {us : List Value}, repsB K ds us = true → ∃ vs, Vals vs us ∧ ∀ H r, Reps K H r ds vs
  | [], us, h => by
    unfold repsB at h
    cases us with
    | nil => exact ⟨[], .nil, fun _ _ => .nil⟩
    | cons _ _ => cases h
  | d :: ds, us, h => by
    unfold repsB at h
    split at h
    · rw [Bool.and_eq_true] at h
      obtain ⟨v, r1, r2⟩ := repB_ok h.1
      obtain ⟨vs, s1, s2⟩ := repsB_ok h.2
      exact ⟨v :: vs, .cons r1 s1, fun H r => .cons (r2 H r) (s2 H r)⟩
    · cases h
end
end

/-! ### the head's facts -/
def clsB (fn : List He.DefD) (K : PySem.W.Frag) (c : CRow) : Bool := (He.Fa.cls c.1).ok K && (c.2.1.all fun f => (He.Fa.noat c.1 f).ok K) &&
  (c.2.2.all fun p => (He.Fa.meth c.1 p.1).ok K && (match fn[p.2]? with | some d => decide (He.ma K (He.ga K c.1) p.1 = He.fAd K d.at_) | none => false)) &&
  (!(c.2.2.lookup ("__init__" : Str)).isSome || ((He.Fa.mkr c.1).ok K && (He.Fa.glo c.1).ok K))
def fnB (K : PySem.W.Frag) (d : He.DefD) : Bool := d.ok K && (match d.at_.2 with | none => (He.Fa.glo d.at_.1).ok K | some _ => true)
/-- an exception class: its facts; which of the others it is of (numbers behind n classes) -/
def excB (n : Nat) (xs : List XRow) (K : PySem.W.Frag) (x : XRow) : Bool := (He.Fa.exc x.1).ok K && (He.Fa.glo x.1).ok K &&
  ((List.range xs.length).all fun j => match xs[j]? with | some y => (He.Fa.exm x.1 y.1 (x.2.contains (n + j))).ok K | none => false)
/-- a dict of the module's top: its entries; their hashes are told apart -/
def entB : List (Str × D) → List DictEntry → Bool
  | [], es => es.isEmpty
  | (k, d) :: kvs, es => match es with
    | ⟨_, .str x _, v⟩ :: es => decide (x = k) && (match d, v with
        | .str y, .str z _ => decide (y = z)
        | .int y, .int z _ => decide (y = z)
        | _, _ => false) && entB kvs es
    | _ => false
def dctA (K : PySem.W.Frag) (x : Str) : Addr := match PySem.W.nsIn K mainGlobals x with
  | some (some (.ref a)) => a
  | _ => 0
def dctE (K : PySem.W.Frag) (x : Str) : List DictEntry := match K.lookup (dctA K x) with
  | some ⟨_, _, .dict es _, _⟩ => es.toList
  | _ => []
def dctB (K : PySem.W.Frag) (r : DRow) : Bool := (match K.lookup (dctA K r.1) with
  | some ⟨.type c, none, .dict _ _, sl⟩ => decide (c = "dict") && sl.isEmpty
  | _ => false) && decide (PySem.W.nsIn K mainGlobals r.1 = some (some (.ref (dctA K r.1)))) && !(dctA K r.1 == sysModules) && decide ((r.2.map (·.1)).Nodup) && entB r.2 (dctE K r.1)
structure HdD where
  fr : List Str
  gl : List (Str × D)
  fn : List He.DefD
  cls : List CRow
  exs : List XRow
  dcs : List DRow
abbrev AlZ : Type := He.AlD × List (List Int)
def obsZ (h : HdD) (K : PySem.W.Frag) : AlZ :=
  (((h.fr.all fun x => (He.Fa.free x).ok K) && (h.gl.all fun p => gloB K p.1 p.2) && (h.fn.all (fnB K)) && (h.cls.all (clsB h.fn K)) && (h.exs.all (excB h.cls.length h.exs K)) && (h.dcs.all (dctB K)), h.fn.map fun d => He.fnW K d.at_), h.dcs.map fun r => (dctE K r.1).map (·.hash))
def valZ (h : HdD) (w : World) : AlZ := ((true, h.fn.map He.DefD.val), h.dcs.map fun r => r.2.map fun p => hashStr w p.1)
def SaysZ (h : HdD) (w : World) (K : PySem.W.Frag) : Prop := obsZ h K = valZ h w
def obsZG (n : Nat) (h : HdD) (g : Addr → Option Obj) : AlZ := obsZ h (He.frG g (He.asD g n))
def hookZ (n : Nat) (h : HdD) : PySem.W.Hook where
  α := AlZ
  obs := fun s => obsZG n h s.heap.get?
  val := fun w => valZ h w
  says := fun w hp => ∃ K : PySem.W.Frag, K.In hp ∧ SaysZ h w K
  of := fun _ _ e => ⟨_, He.frG_in, e⟩
  keeps := fun _ _ _ ⟨K, hK, c⟩ k => ⟨K, PySem.W.Frag.In.keeps hK k, c⟩
theorem obsZG_eq {n : Nat} {h : HdD} {g : Addr → Option Obj} {s : Shared} (e : ∀ a, g a = s.heap.get? a) : obsZG n h g = (hookZ n h).obs s := by
  rw [show g = s.heap.get? from funext e]; rfl
def hdOf (fr : List Str) (gl : List (Str × D)) (rows : List Row) (cls : List CRow) (exs : List XRow) (dcs : List DRow) : HdD := ⟨fr, gl, rows.map Row.dfd, cls, exs, dcs⟩
/-- methods are defs of the table -/
def mtB (n : Nat) (cls : List CRow) : Bool := cls.all fun c => c.2.2.all fun p => decide (p.2 < n)
theorem lookup_mem {α : Type} {k : Str} {a : α} : ∀ {l : List (Str × α)}, l.lookup k = some a → (k, a) ∈ l
  | [], h => by cases h
  | p :: l, h => by
    rw [List.lookup_cons] at h
    cases e : (k == p.1) with
    | true =>
      simp only [e] at h
      cases h
      have : k = p.1 := eq_of_beq e
      rw [this]; exact List.mem_cons_self
    | false =>
      simp only [e] at h
      exact List.mem_cons_of_mem _ (lookup_mem h)

theorem ent_flat : ∀ {kvs : List (Str × D)} {es : List DictEntry}, entB kvs es = true → kvs.all (fun p => (vFlat p.2).isSome) = true
  | [], _, _ => rfl
  | (k, d) :: kvs, es, h => by
    unfold entB at h
    split at h
    · simp only [Bool.and_eq_true] at h
      rw [List.all_cons, ent_flat h.2, Bool.and_true]
      have h2 := h.1.2
      split at h2 <;> first | rfl | (cases h2; done)
    · cases h
theorem ent_ok {P : Program} {w : World} : ∀ {kvs : List (Str × D)} {es : List DictEntry}, entB kvs es = true → es.map (·.hash) = (kvs.map fun p => hashStr w p.1) → ∃ us, KV (kvV kvs) us ∧ Pairs (mixKind P w) es us ∧ (∀ e ∈ es, ∃ k, (mixKind P w).is k e.key = true ∧ e.hash = (mixKind P w).hash k) ∧ us.map (·.1) = kvs.map fun p => Sum.inr p.1
  | [], es, h, _ => by
    unfold entB at h
    cases es with
    | nil => exact ⟨[], .nil, .nil, ⟨fun e he => by simp at he, rfl⟩⟩
    | cons _ _ => cases h
  | (k, d) :: kvs, es, h, hh => by
    unfold entB at h
    split at h
    · rename_i hs x t v es
      simp only [Bool.and_eq_true, decide_eq_true_eq] at h
      obtain ⟨⟨h1, h2⟩, h3⟩ := h
      subst h1
      simp only [List.map_cons, List.cons.injEq] at hh
      obtain ⟨us, r1, r2, r3, r4⟩ := ent_ok (P := P) (w := w) h3 hh.2
      have hv : RelV ((vFlat d).getD .non) v := by
        split at h2
        · have := of_decide_eq_true h2; subst this; exact ⟨_, rfl⟩
        · have := of_decide_eq_true h2; subst this; exact ⟨_, rfl⟩
        · cases h2
      refine ⟨(Sum.inr x, v) :: us, .cons ⟨rfl, hv⟩ r1, .cons (mixKind_str P w x t) rfl r2, fun e he => ?_, by simp [r4]⟩
      rcases List.mem_cons.mp he with e1 | e1
      · subst e1; exact ⟨Sum.inr x, mixKind_str P w x t, hh.1⟩
      · exact r3 e e1
    · cases h
theorem dct_ok {P : Program} {w : World} {K : PySem.W.Frag} {h0 : Heap} {mg : Str → Option Value} {r : DRow} (KX : K.In h0) (G : h0.Ns mainGlobals mg) (h : dctB K r = true) (hh : (dctE K r.1).map (·.hash) = r.2.map fun p => hashStr w p.1) : ∃ a, mg r.1 = some (.ref a) ∧ DKZ P w K a r.2 := by
  unfold dctB at h
  simp only [Bool.and_eq_true, decide_eq_true_eq, Bool.not_eq_true'] at h
  obtain ⟨⟨⟨⟨h1, h2⟩, h3⟩, h4⟩, h5⟩ := h
  refine ⟨dctA K r.1, PySem.W.mg_of KX G h2, h3, ent_flat h5, fun hp hK => ?_⟩
  obtain ⟨us, r1, r2, r3, r4⟩ := ent_ok (P := P) (w := w) h5 hh
  refine ⟨us, r1, ?_⟩
  have e0 : dctE K r.1 = (match K.lookup (dctA K r.1) with | some ⟨_, _, .dict es _, _⟩ => es.toList | _ => []) := rfl
  split at h1
  · rename_i c es ep sl e
    simp only [Bool.and_eq_true, decide_eq_true_eq] at h1
    obtain ⟨rfl, hsl⟩ := h1
    rw [e] at e0
    simp only at e0
    refine ⟨_, es, ep, hK _ _ e, ⟨rfl, rfl, by simpa using hsl⟩, rfl, fun x hx => ?_, by rw [← e0]; exact r2, ?_⟩
    · exact r3 x (by rw [e0]; exact Array.mem_toList_iff.mpr hx)
    · rw [r4]
      have : (r.2.map fun p => (Sum.inr p.1 : Key)) = (r.2.map (·.1)).map Sum.inr := by simp
      rw [this]
      exact List.Pairwise.map _ (fun a b z q => z (Sum.inr.inj q)) h4
  · cases h1

/-- THE END: what is left of a law is a statement about run -/
theorem walk_ofZ {l : PySem.W.OpenLaw} {n k : Nat} {q : Program} {loose : List Str} {XP : (Str → Option Value) → Heap → Prop} {YP : World → Heap → Prop} {d : DefRec} {x : Str} {fr : List Str} {gl : List (Str × D)} {rows : List Row} {cls : List CRow} {exs : List XRow} {dcs : List DRow} {i : Nat} {row : Row}
    (hn : l.most = some n) (hn2 : n ≤ sizeLine) (hdf : d.params.defaults = []) (room : Room (2 * k) callerA) (hY : ∀ w h, YP w h → ∃ K : PySem.W.Frag, K.In h ∧ SaysZ (hdOf fr gl rows cls exs dcs) w K)
    (hfr : (bltN.all fun x => fr.contains (Str.ofString x)) = true) (hmt : mtB rows.length cls = true) (hi : rows[i]? = some row) (hname : row.at_ = (d.name, none)) (hps : row.ps = [x]) (hrows : (rows.all (rowOk (tabOf rows gl cls exs dcs))) = true)
    (math : ∀ ns : List Int, ns.length ≤ n → ∃ wf S', run (rows.map Row.fn) (tabOf rows gl cls exs dcs).G wf k i [.fro (ns.map .int)] [] = .ok (.bl true) S') :
    PySem.W.WalkO q loose XP YP l.row.toRowW d [] (fun f vs => PySem.call f vs) := by
  refine Att.attach_call hn hdf fun w s₀ s₁ mg mb fa0 o pm cd doc a vs ns G Y ho hd hcd hmg hobj hints hlen hg => ?_
  obtain ⟨K, KX, says⟩ := hY w _ Y
  have c1 : ((fr.all fun x => (He.Fa.free x).ok K) && (gl.all fun p => gloB K p.1 p.2) && ((rows.map Row.dfd).all (fnB K)) && (cls.all (clsB (rows.map Row.dfd) K)) && (exs.all (excB cls.length exs K)) && (dcs.all (dctB K))) = true := congrArg (fun z : AlZ => z.1.1) says
  have c2 : (rows.map Row.dfd).map (fun d => He.fnW K d.at_) = (rows.map Row.dfd).map He.DefD.val := congrArg (fun z : AlZ => z.1.2) says
  have c3 : (dcs.map fun r => (dctE K r.1).map (·.hash)) = dcs.map fun r => r.2.map fun p => hashStr w p.1 := congrArg (fun z : AlZ => z.2) says
  simp only [Bool.and_eq_true] at c1
  obtain ⟨⟨⟨⟨⟨f1, f2⟩, f3⟩, f4⟩, f5⟩, f6⟩ := c1
  let C : Tab := tabOf rows gl cls exs dcs
  let fa : Nat → Addr := fun j => match rows[j]? with
    | some r => He.fAd K r.at_
    | none => 0
  let ca : Nat → Addr := fun c => match cls[c]? with
    | some r => He.ga K r.1
    | none => match exs[c - cls.length]? with
      | some x => He.ga K x.1
      | none => 0
  have faE : ∀ {j : Nat} {r : Row}, rows[j]? = some r → fa j = He.fAd K r.at_ := fun e => by simp only [fa, e]
  have caE : ∀ {c : Nat} {r : CRow}, cls[c]? = some r → ca c = He.ga K r.1 := fun e => by simp only [ca, e]
  have xsE : ∀ {c : Nat} {x : Str}, C.isX c x = true → ∃ r, exs[c - cls.length]? = some r ∧ cls.length ≤ c ∧ r.1 = x ∧ ca c = He.ga K x := by
    intro c x h
    unfold Tab.isX at h
    rw [Bool.and_eq_true] at h
    have h1 : cls.length ≤ c := of_decide_eq_true h.1
    have h2 := h.2
    have e0 : C.exs[c - C.cls.length]? = exs[c - cls.length]? := rfl
    rw [e0] at h2
    cases e : exs[c - cls.length]? with
    | none => rw [e] at h2; cases h2
    | some r =>
      rw [e] at h2
      have e1 : r.1 = x := of_decide_eq_true h2
      refine ⟨r, rfl, h1, e1, ?_⟩
      have e2 : cls[c]? = none := List.getElem?_eq_none h1
      simp only [ca, e2, e, e1]
  have clsF : ∀ {c : Nat} {r : CRow}, cls[c]? = some r → clsB (rows.map Row.dfd) K r = true := fun e => List.all_eq_true.mp f4 _ (List.mem_of_getElem? e)
  have funs : ∀ (j : Nat) (r : Row), rows[j]? = some r → FnText C r.fn r.N r.ps (defScope r.st) (defBody r.st) ∧ argsOk (defArgs r.st) r.ps = true ∧ (∀ y, r.gn = some y → mg y = some (.ref (fa j))) ∧ ∃ fd, FunD K r.nm r.qual (defArgs r.st) (defBody r.st) (defScope r.st) [] [] (fa j) fd := by
    intro j r hj
    have hm : r ∈ rows := List.mem_of_getElem? hj
    obtain ⟨tx, ha⟩ := rowOk_text (List.all_eq_true.mp hrows r hm)
    have h3 := List.all_eq_true.mp f3 r.dfd (List.mem_map_of_mem hm)
    unfold fnB at h3
    rw [Bool.and_eq_true] at h3
    have e2 : ((rows.map Row.dfd).map fun d => He.fnW K d.at_)[j]? = ((rows.map Row.dfd).map He.DefD.val)[j]? := by rw [c2]
    simp only [List.getElem?_map, hj, Option.map_some] at e2
    obtain ⟨fd, F⟩ := He.DefD.funD (d := r.dfd) (Option.some.inj e2) h3.1
    refine ⟨tx, ha, fun y hy => ?_, fd, by rw [faE hj]; exact F⟩
    unfold Row.gn at hy
    have h4 := h3.2
    split at hy
    · rename_i e0
      cases hy
      have e1 : r.dfd.at_.2 = none := e0
      rw [e1] at h4
      have := He.glo_ok KX G.T.g h4
      rw [faE hj]
      have e3 : He.fAd K r.at_ = He.ga K r.at_.1 := by
        obtain ⟨⟨x1, x2⟩, _, _, _, _⟩ := r
        simp only at e0
        subst e0
        rfl
      rw [e3]
      exact this
    · cases hy
  have M : ModOk l.prog w K mg C ca fa := by
    refine ⟨fun y hy => ?_, fun j z dd e => ?_, fun f z m e => ?_, ⟨fun c f h => ?_, fun c m j h => ?_⟩, fun c m j h => ?_, fun c z fs ms j e h => ?_, ⟨fun c x h => ?_, fun c j x y h h' => ?_⟩, fun j y h => ?_⟩
    · have h1 := List.all_eq_true.mp hfr y hy
      exact He.free_ok KX G.T.g (List.all_eq_true.mp f1 _ (List.contains_iff_mem.mp h1))
    · have h1 := List.all_eq_true.mp f2 (z, dd) (List.mem_of_getElem? e)
      unfold gloB at h1
      split at h1
      · rename_i u eu
        obtain ⟨v, r1, r2⟩ := repB_ok h1
        exact ⟨u, v, PySem.W.mg_of KX G.T.g eu, r1, r2⟩
      · cases h1
    · have e' : (rows.map fun r => (r.gn, r.ps.length))[f]? = some (some z, m) := e
      rw [List.getElem?_map, Option.map_eq_some_iff] at e'
      obtain ⟨r, hr, e'⟩ := e'
      have e1 : r.gn = some z := congrArg Prod.fst e'
      obtain ⟨tx, ha, g, fd, F⟩ := funs f r hr
      exact ⟨g z e1, F.kp⟩
    · unfold Ev.fld at h
      have e' : ((cls.map (·.2.1)).getD c []).contains f = true := h
      rw [List.getD_eq_getElem?_getD, List.getElem?_map] at e'
      cases e : cls[c]? with
      | none => rw [e] at e'; cases e'
      | some r =>
        rw [e] at e'
        have h4 := clsF e
        unfold clsB at h4
        simp only [Bool.and_eq_true] at h4
        rw [caE e]
        exact ⟨He.cls_ok h4.1.1.1, He.noat_ok (List.all_eq_true.mp h4.1.1.2 f (List.contains_iff_mem.mp e'))⟩
    · unfold Ev.mth at h
      have e' : ((cls.map (·.2.2)).getD c []).lookup m = some j := h
      rw [List.getD_eq_getElem?_getD, List.getElem?_map] at e'
      cases e : cls[c]? with
      | none => rw [e] at e'; cases e'
      | some r =>
        rw [e] at e'
        have h4 := clsF e
        unfold clsB at h4
        simp only [Bool.and_eq_true] at h4
        have h5 := List.all_eq_true.mp h4.1.2 (m, j) (lookup_mem e')
        rw [Bool.and_eq_true] at h5
        refine ⟨by rw [caE e]; exact He.cls_ok h4.1.1.1, ?_⟩
        have h6 := h5.2
        simp only [List.getElem?_map] at h6
        cases e2 : rows[j]? with
        | none => rw [e2] at h6; cases h6
        | some r2 =>
          rw [e2] at h6
          have e3 : He.ma K (He.ga K r.1) m = He.fAd K r2.at_ := of_decide_eq_true h6
          rw [caE e, faE e2, ← e3]
          exact He.meth_ok h5.1
    · unfold Ev.mth at h
      have e' : ((cls.map (·.2.2)).getD c []).lookup m = some j := h
      rw [List.getD_eq_getElem?_getD, List.getElem?_map] at e'
      cases e : cls[c]? with
      | none => rw [e] at e'; cases e'
      | some r =>
        rw [e] at e'
        have h5 := List.all_eq_true.mp (List.all_eq_true.mp hmt r (List.mem_of_getElem? e)) (m, j) (lookup_mem e')
        have hj : j < rows.length := of_decide_eq_true h5
        refine ⟨rows[j].ps.length, ?_⟩
        show ((rows.map fun r => (r.gn, r.ps.length))[j]?).map (·.2) = _
        rw [List.getElem?_map, List.getElem?_eq_getElem hj]; rfl
    · have e' : cls[c]? = some (z, fs, ms) := e
      have h4 := clsF e'
      unfold clsB at h4
      simp only [Bool.and_eq_true] at h4
      have h5 := h4.2
      simp only [h, Option.isSome_some, Bool.not_true, Bool.false_or, Bool.and_eq_true] at h5
      refine ⟨by rw [caE e']; exact He.glo_ok KX G.T.g h5.2, ?_⟩
      have h6 := (List.all_eq_true.mp h4.1.2 (("__init__" : Str), j) (lookup_mem h))
      rw [Bool.and_eq_true] at h6
      have h7 := h6.2
      simp only [List.getElem?_map] at h7
      cases e2 : rows[j]? with
      | none => rw [e2] at h7; cases h7
      | some r2 =>
        rw [e2] at h7
        have e3 : He.ma K (He.ga K z) "__init__" = He.fAd K r2.at_ := of_decide_eq_true h7
        rw [caE e', faE e2, ← e3]
        exact He.mkr_ok h5.1
    · obtain ⟨r, e, h1, rfl, e4⟩ := xsE h
      have h2 := List.all_eq_true.mp f5 r (List.mem_of_getElem? e)
      unfold excB at h2
      simp only [Bool.and_eq_true] at h2
      rw [e4]
      exact ⟨He.glo_ok KX G.T.g h2.1.2, He.exc_ok h2.1.1⟩
    · obtain ⟨r, e, h1, rfl, e4⟩ := xsE h
      obtain ⟨r', e', h1', rfl, e4'⟩ := xsE h'
      have h2 := List.all_eq_true.mp f5 r (List.mem_of_getElem? e)
      unfold excB at h2
      simp only [Bool.and_eq_true] at h2
      have h3 := List.all_eq_true.mp h2.2 (j - cls.length) (List.mem_range.mpr (List.getElem?_eq_some_iff.mp e').1)
      rw [e'] at h3
      rw [e4, e4', He.exm_ok h3]
      congr 1
      show r.2.contains (cls.length + (j - cls.length)) = (((exs.map (·.2)).getD (c - (cls.map (·.2.1)).length) []).contains j)
      rw [List.length_map, List.getD_eq_getElem?_getD, List.getElem?_map, e, show cls.length + (j - cls.length) = j by omega]
      rfl
    · have h' : (match dcs[j]? with | some (z, _) => decide (z = y) | none => false) = true := h
      cases e : dcs[j]? with
      | none => rw [e] at h'; cases h'
      | some r =>
        rw [e] at h'
        have e1 : r.1 = y := of_decide_eq_true h'
        subst e1
        have h2 := List.all_eq_true.mp f6 r (List.mem_of_getElem? e)
        have h3 : (dctE K r.1).map (·.hash) = r.2.map fun p => hashStr w p.1 := by
          have := congrArg (fun z => z[j]?) c3
          simp only [List.getElem?_map, e, Option.map_some] at this
          exact Option.some.inj this
        have e5 : C.G.dc.getD j [] = r.2 := by
          show (dcs.map (·.2)).getD j [] = r.2
          rw [List.getD_eq_getElem?_getD, List.getElem?_map, e]; rfl
        rw [e5]
        exact dct_ok KX G.T.g h2 h3
  have arE : ∀ {j m : Nat}, C.ar j = some m → ∃ r, rows[j]? = some r ∧ r.ps.length = m := by
    intro j m e
    have e' : ((rows.map fun r => (r.gn, r.ps.length))[j]?).map (·.2) = some m := e
    rw [List.getElem?_map] at e'
    cases e2 : rows[j]? with
    | none => rw [e2] at e'; cases e'
    | some r => rw [e2] at e'; exact ⟨r, rfl, Option.some.inj e'⟩
  have tb : TabOk C (rows.map Row.fn) := by
    refine ⟨by simp [C, tabOf], fun j m fn e1 e2 => ?_⟩
    obtain ⟨r, hr, hp⟩ := arE e1
    rw [List.getElem?_map, hr] at e2
    cases e2
    rw [← (funs j r hr).1.np]; exact hp
  have defs : ∀ (f m : Nat) (fn : Fn), C.ar f = some m → (rows.map Row.fn)[f]? = some fn → ∃ (fd : FuncData) (ps : List Str), DefOk K C fn (fa f) fd ps ∧ ps.length = m := by
    intro f m fn e1 e2
    obtain ⟨r, hr, hp⟩ := arE e1
    rw [List.getElem?_map, hr] at e2
    cases e2
    obtain ⟨tx, ha, _, fd, F⟩ := funs f r hr
    exact ⟨fd, r.ps, ⟨(row_binds F ha (FnScope.psnd tx.scope)).1, r.N, r.nm, r.qual, _, _, _, tx, F⟩, hp⟩
  obtain ⟨tx, ha, hg2, fd0, F0⟩ := funs i row hi
  have hgn : row.gn = some d.name := by unfold Row.gn; rw [hname]
  have efa : fa i = fa0 := by
    have := hg2 d.name hgn
    rw [this] at hmg
    injection hmg with e
    injection e
  -- the function object at the law's own address, fixed ahead of the base
  have hF : ∀ base : Heap, K.In base → base.Ns mainGlobals mg → FnZ l.prog w K mg base (2 * k) fa0 fd0 [x] (fun vs H Q E => ∃ wf, spOf K ca 1 (run (rows.map Row.fn) C.G wf k i) vs H Q E) := by
    intro base _ _
    have one : ∀ wf, FnZ l.prog w K mg base (2 * k) fa0 fd0 [x] (spOf K ca 1 (run (rows.map Row.fn) C.G wf k i)) := by
      intro wf
      cases k with
      | zero => exact ⟨fun vs H Q E h => by rw [h.1]; rfl, fun A outer s H args us vs Q E _ _ _ _ _ h => by obtain ⟨_, _, _, _, _, _, z⟩ := h; exact z.elim⟩
      | succ k =>
        have hfn := fn_ok (P := l.prog) (w := w) (base := base) (ca := ca) (fa := fa) (wf := wf) (T := rows.map Row.fn) (i := i) (fn := row.fn) (k := k) tb M ⟨(row_binds F0 ha (FnScope.psnd tx.scope)).1, row.N, row.nm, row.qual, _, _, _, tx, F0⟩ (by rw [List.getElem?_map, hi]; rfl) (all_ok tb M defs k)
        rw [← tx.np, hps, efa] at hfn
        exact hfn
    exact ⟨fun vs H Q E ⟨wf, h⟩ => (one wf).len vs H Q E h, fun A outer s H args us vs Q E r g e b v ⟨wf, h⟩ => (one wf).run A outer s H args us vs Q E r g e b v h⟩
  refine law_callZ KX G.T.g G.T.b G.T.builtins G.T.nolimit hg hobj hints (Nat.le_trans hlen hn2) room hF (fun s u => ?_) fun H _ hFL => ?_
  · have := (row_binds F0 ha (FnScope.psnd tx.scope)).2 s [u] (by rw [hps]; rfl)
    rw [hps] at this
    exact this
  · obtain ⟨wf, S', e⟩ := math ns hlen
    refine ⟨wf, rfl, [.fro (ns.map .int)], ⟨[], []⟩, [], .cons (.fro hFL ?_) .nil, ⟨rfl, List.nodup_nil, fun n o h => by simp at h, fun a ha => by simp at ha⟩, ?_⟩
    · clear e hFL hlen hints
      induction ns with
      | nil => exact .nil
      | cons m ms ih => exact .cons (.int m) ih
    · have e' : run (rows.map Row.fn) C.G wf k i [.fro (ns.map .int)] [] = .ok (.bl true) S' := e
      rw [e']
      intro v H' r' _ _ hv
      cases hv
      rfl
end Z

/-! Z layer, part P: how a run is read; deck and draw; loops. -/
namespace Z
open PySem PySem.Spec PyProof.Rows L2

theorem run_succ {T : List Fn} {G : Ev} {wf k f : Nat} {args : List D} {S : Sto} {fn : Fn} (h : T[f]? = some fn) (hl : args.length = fn.np) :
    run T G wf (k + 1) f args S = fnEnd (dSs G (run T G wf k) wf fn.body (slots0 fn.ns args) S) := by
  rw [run, h]; simp only [hl, ↓reduceIte]
theorem then_nx {a b : MS} {sd sd1 : Sl} {S S1 : Sto} (h : a sd S = .ok .nx sd1 S1) : mThen a b sd S = b sd1 S1 := by
  unfold mThen; rw [h]
theorem then_rt {a b : MS} {sd sd1 : Sl} {S S1 : Sto} {d : D} (h : a sd S = .ok (.rt d) sd1 S1) : mThen a b sd S = .ok (.rt d) sd1 S1 := by
  unfold mThen; rw [h]
@[simp] theorem q_ev {G : Ev} {C : Nat → List D → Sto → Out D} {i : Nat} : dE G C (.v i) = mVar i := rfl
@[simp] theorem q_ec {G : Ev} {C : Nat → List D → Sto → Out D} {d : D} : dE G C (.c d) = mC d := rfl
@[simp] theorem q_eg {G : Ev} {C : Nat → List D → Sto → Out D} {j : Nat} : dE G C (.g j) = mG G j := rfl
@[simp] theorem q_eop {G : Ev} {C : Nat → List D → Sto → Out D} {o : Operator} {a b : E} : dE G C (.op o a b) = mBin (opF o) (dE G C a) (dE G C b) := rfl
@[simp] theorem q_eneg {G : Ev} {C : Nat → List D → Sto → Out D} {a : E} : dE G C (.neg a) = mNeg (dE G C a) := rfl
@[simp] theorem q_ecmp {G : Ev} {C : Nat → List D → Sto → Out D} {o : CmpOp} {a b : E} : dE G C (.cmp o a b) = mBin (cmpF o) (dE G C a) (dE G C b) := rfl
@[simp] theorem q_ech {G : Ev} {C : Nat → List D → Sto → Out D} {o o' : CmpOp} {a b c : E} : dE G C (.ch o o' a b c) = mChain (cmpF o) (cmpF o') (dE G C a) (dE G C b) (dE G C c) := rfl
@[simp] theorem q_ebo {G : Ev} {C : Nat → List D → Sto → Out D} {o : BoolOp} {es : Es} : dE G C (.bo o es) = dB G C o es := rfl
@[simp] theorem q_enot {G : Ev} {C : Nat → List D → Sto → Out D} {a : E} : dE G C (.not a) = mNot (dE G C a) := rfl
@[simp] theorem q_eifx {G : Ev} {C : Nat → List D → Sto → Out D} {t : Tt} {a b : E} : dE G C (.ifx t a b) = mIf (dT G C t) (dE G C a) (dE G C b) := rfl
@[simp] theorem q_etup {G : Ev} {C : Nat → List D → Sto → Out D} {es : Es} : dE G C (.tup es) = mTup (dL G C es) := rfl
@[simp] theorem q_elstT {G : Ev} {C : Nat → List D → Sto → Out D} {es : Es} : dE G C (.lst true es) = mLstM (dL G C es) := rfl
@[simp] theorem q_elstF {G : Ev} {C : Nat → List D → Sto → Out D} {es : Es} : dE G C (.lst false es) = mLst (dL G C es) := rfl
@[simp] theorem q_eix {G : Ev} {C : Nat → List D → Sto → Out D} {a b : E} : dE G C (.ix a b) = mBin ixP (dE G C a) (dE G C b) := rfl
@[simp] theorem q_esl {G : Ev} {C : Nat → List D → Sto → Out D} {a : E} {lo hi : Oe} : dE G C (.sl a lo hi) = mSl (dE G C a) (dO G C lo) (dO G C hi) := rfl
@[simp] theorem q_ecall {G : Ev} {C : Nat → List D → Sto → Out D} {f : Nat} {es : Es} : dE G C (.call f es) = mFn (C f) (dL G C es) := rfl
@[simp] theorem q_ebf {G : Ev} {C : Nat → List D → Sto → Out D} {f : Bf} {es : Es} : dE G C (.bf f es) = mCall (bfF f) (dL G C es) := rfl
@[simp] theorem q_eisi {G : Ev} {C : Nat → List D → Sto → Out D} {a : E} {t : Ty} : dE G C (.isi a t) = mIsi (dE G C a) t := rfl
@[simp] theorem q_eisiT {G : Ev} {C : Nat → List D → Sto → Out D} {a : E} {t t' : Ty} : dE G C (.isiT a t t') = mIsiT (dE G C a) t t' := rfl
@[simp] theorem q_edicE {G : Ev} {C : Nat → List D → Sto → Out D}  : dE G C (.dicE) = mDicE := rfl
@[simp] theorem q_eapp {G : Ev} {C : Nat → List D → Sto → Out D} {o : E} {es : Es} : dE G C (.app o es) = mApp (dE G C o) (dL G C es) := rfl
@[simp] theorem q_eext {G : Ev} {C : Nat → List D → Sto → Out D} {o : E} {es : Es} : dE G C (.ext o es) = mExt (dE G C o) (dL G C es) := rfl
@[simp] theorem q_efld {G : Ev} {C : Nat → List D → Sto → Out D} {o : E} {f : Str} : dE G C (.fld o f) = mFld G (dE G C o) f := rfl
@[simp] theorem q_emth {G : Ev} {C : Nat → List D → Sto → Out D} {o : E} {m : Str} {es : Es} : dE G C (.mth o m es) = mMth G C (dE G C o) m (dL G C es) := rfl
@[simp] theorem q_emk {G : Ev} {C : Nat → List D → Sto → Out D} {c : Nat} {es : Es} : dE G C (.mk c es) = mMk G C c (dL G C es) := rfl
@[simp] theorem q_eopM {G : Ev} {C : Nat → List D → Sto → Out D} {o : Operator} {a b : E} : dE G C (.opM o a b) = mOwn (ownF o) (dE G C a) (dE G C b) := rfl
@[simp] theorem q_elstC {G : Ev} {C : Nat → List D → Sto → Out D} {a : E} : dE G C (.lstC a) = mLstC (dE G C a) := rfl
@[simp] theorem q_esm {G : Ev} {C : Nat → List D → Sto → Out D} {m : Sm} {a b : E} : dE G C (.sm m a b) = mSm m (dE G C a) (dE G C b) := rfl
@[simp] theorem q_edsel {G : Ev} {C : Nat → List D → Sto → Out D} {ks : List Str} {es : Es} {k : E} : dE G C (.dsel ks es k) = mDsel ks (dL G C es) (dE G C k) := rfl
@[simp] theorem q_efmt {G : Ev} {C : Nat → List D → Sto → Out D} {a : E} : dE G C (.fmt a) = mFmt (dE G C a) := rfl
@[simp] theorem q_efs {G : Ev} {C : Nat → List D → Sto → Out D} {es : Es} : dE G C (.fs es) = dF G C es Str.empty := rfl
@[simp] theorem q_elcT {G : Ev} {C : Nat → List D → Sto → Out D} {t : Tg} {it : It} {c : Ot} {e : E} {own : List (Str × Nat)} : dE G C (.lc true t it c e own) = mLcM (dI G C it) (dG G C t) (own.map (·.2)) (dC G C c) (dE G C e) := rfl
@[simp] theorem q_elcF {G : Ev} {C : Nat → List D → Sto → Out D} {t : Tg} {it : It} {c : Ot} {e : E} {own : List (Str × Nat)} : dE G C (.lc false t it c e own) = mLc (dI G C it) (dG G C t) (own.map (·.2)) (dC G C c) (dE G C e) := rfl
@[simp] theorem q_lnil {G : Ev} {C : Nat → List D → Sto → Out D} : dL G C .nil = mNil := rfl
@[simp] theorem q_lcons {G : Ev} {C : Nat → List D → Sto → Out D} {e : E} {es : Es} : dL G C (.cons e es) = mCons (dE G C e) (dL G C es) := rfl
@[simp] theorem q_fnil {G : Ev} {C : Nat → List D → Sto → Out D} : dF G C .nil = fun acc => mC (.str acc) := rfl
@[simp] theorem q_fcons {G : Ev} {C : Nat → List D → Sto → Out D} {e : E} {es : Es} : dF G C (.cons e es) = mFc (dE G C e) (dF G C es) := rfl
@[simp] theorem q_b1 {G : Ev} {C : Nat → List D → Sto → Out D} {o : BoolOp} {e : E} : dB G C o (.cons e .nil) = dE G C e := rfl
@[simp] theorem q_bA {G : Ev} {C : Nat → List D → Sto → Out D} {e e2 : E} {es : Es} : dB G C .And (.cons e (.cons e2 es)) = mAnd (dE G C e) (dB G C .And (.cons e2 es)) := rfl
@[simp] theorem q_bO {G : Ev} {C : Nat → List D → Sto → Out D} {e e2 : E} {es : Es} : dB G C .Or (.cons e (.cons e2 es)) = mOr (dE G C e) (dB G C .Or (.cons e2 es)) := rfl
@[simp] theorem q_oN {G : Ev} {C : Nat → List D → Sto → Out D} : dO G C .none = mNo := rfl
@[simp] theorem q_oS {G : Ev} {C : Nat → List D → Sto → Out D} {e : E} : dO G C (.some e) = mPart (dE G C e) := rfl
@[simp] theorem q_tbo {G : Ev} {C : Nat → List D → Sto → Out D} {o : BoolOp} {ts : Tts} : dT G C (.bo o ts) = dTB G C o ts := rfl
@[simp] theorem q_tnot {G : Ev} {C : Nat → List D → Sto → Out D} {a : Tt} : dT G C (.not a) = mNotT (dT G C a) := rfl
@[simp] theorem q_tcmp {G : Ev} {C : Nat → List D → Sto → Out D} {o : CmpOp} {a b : E} : dT G C (.cmp o a b) = mBl (mBin (cmpF o) (dE G C a) (dE G C b)) := rfl
@[simp] theorem q_tch {G : Ev} {C : Nat → List D → Sto → Out D} {o o' : CmpOp} {a b c : E} : dT G C (.ch o o' a b c) = mBl (mChain (cmpF o) (cmpF o') (dE G C a) (dE G C b) (dE G C c)) := rfl
@[simp] theorem q_ttru {G : Ev} {C : Nat → List D → Sto → Out D} {e : E} : dT G C (.tru e) = mTru (dE G C e) := rfl
@[simp] theorem q_tb1 {G : Ev} {C : Nat → List D → Sto → Out D} {o : BoolOp} {e : Tt} : dTB G C o (.cons e .nil) = dT G C e := rfl
@[simp] theorem q_tbA {G : Ev} {C : Nat → List D → Sto → Out D} {e e2 : Tt} {es : Tts} : dTB G C .And (.cons e (.cons e2 es)) = mAndT (dT G C e) (dTB G C .And (.cons e2 es)) := rfl
@[simp] theorem q_tbO {G : Ev} {C : Nat → List D → Sto → Out D} {e e2 : Tt} {es : Tts} : dTB G C .Or (.cons e (.cons e2 es)) = mOrT (dT G C e) (dTB G C .Or (.cons e2 es)) := rfl
@[simp] theorem q_cN {G : Ev} {C : Nat → List D → Sto → Out D} : dC G C .none = mYes := rfl
@[simp] theorem q_cS {G : Ev} {C : Nat → List D → Sto → Out D} {t : Tt} : dC G C (.some t) = dT G C t := rfl
@[simp] theorem q_gnm {G : Ev} {C : Nat → List D → Sto → Out D} {i : Nat} : dG G C (.nm i) = gNm i := rfl
@[simp] theorem q_gtup {G : Ev} {C : Nat → List D → Sto → Out D} {ts : Tgs} : dG G C (.tup ts) = gTp (tgsLen ts) (dGs G C ts) := rfl
@[simp] theorem q_gsub {G : Ev} {C : Nat → List D → Sto → Out D} {o i : E} : dG G C (.sub o i) = gSubM (dE G C o) (dE G C i) := rfl
@[simp] theorem q_gsn {G : Ev} {C : Nat → List D → Sto → Out D} : dGs G C .nil = gsNil := rfl
@[simp] theorem q_gsc {G : Ev} {C : Nat → List D → Sto → Out D} {t : Tg} {ts : Tgs} : dGs G C (.cons t ts) = gsCons (dG G C t) (dGs G C ts) := rfl
@[simp] theorem q_tl0  : tgsLen .nil = 0 := rfl
@[simp] theorem q_tl1 {t : Tg} {ts : Tgs} : tgsLen (.cons t ts) = tgsLen ts + 1 := rfl
@[simp] theorem q_iseq {G : Ev} {C : Nat → List D → Sto → Out D} {e : E} : dI G C (.seq e) = mSeq (dE G C e) := rfl
@[simp] theorem q_ir1 {G : Ev} {C : Nat → List D → Sto → Out D} {a : Es} : dI G C (.rng1 a) = mRng rng1 (dL G C a) := rfl
@[simp] theorem q_ir2 {G : Ev} {C : Nat → List D → Sto → Out D} {a : Es} : dI G C (.rng2 a) = mRng rng2 (dL G C a) := rfl
@[simp] theorem q_izip {G : Ev} {C : Nat → List D → Sto → Out D} {a : Es} : dI G C (.zip a) = mZip (dL G C a) := rfl
@[simp] theorem q_ienum {G : Ev} {C : Nat → List D → Sto → Out D} {a : Es} : dI G C (.enum a) = mEnum (dL G C a) := rfl
@[simp] theorem q_sex {G : Ev} {C : Nat → List D → Sto → Out D} {wf : Nat} {e : E} : dS G C wf (.ex e) = mExpr (dE G C e) := rfl
@[simp] theorem q_sdoc {G : Ev} {C : Nat → List D → Sto → Out D} {wf : Nat}  : dS G C wf (.doc) = mSkip := rfl
@[simp] theorem q_spass {G : Ev} {C : Nat → List D → Sto → Out D} {wf : Nat}  : dS G C wf (.pass) = mSkip := rfl
@[simp] theorem q_sbrk {G : Ev} {C : Nat → List D → Sto → Out D} {wf : Nat}  : dS G C wf (.brk) = mBrk := rfl
@[simp] theorem q_scnt {G : Ev} {C : Nat → List D → Sto → Out D} {wf : Nat}  : dS G C wf (.cnt) = mCnt := rfl
@[simp] theorem q_sret {G : Ev} {C : Nat → List D → Sto → Out D} {wf : Nat} {e : E} : dS G C wf (.ret e) = mRet (dE G C e) := rfl
@[simp] theorem q_sretN {G : Ev} {C : Nat → List D → Sto → Out D} {wf : Nat}  : dS G C wf (.retN) = mRetN := rfl
@[simp] theorem q_sasg {G : Ev} {C : Nat → List D → Sto → Out D} {wf : Nat} {t : Tg} {e : E} : dS G C wf (.asg t e) = mAsg (dE G C e) (dG G C t) := rfl
@[simp] theorem q_saug {G : Ev} {C : Nat → List D → Sto → Out D} {wf : Nat} {i : Nat} {o : Operator} {e : E} : dS G C wf (.aug i o e) = mAug i (iopF o) (dE G C e) := rfl
@[simp] theorem q_spar {G : Ev} {C : Nat → List D → Sto → Out D} {wf : Nat} {is : List Nat} {es : Es} : dS G C wf (.par is es) = mPar is (dL G C es) := rfl
@[simp] theorem q_site {G : Ev} {C : Nat → List D → Sto → Out D} {wf : Nat} {c : Tt} {a b : Ss} : dS G C wf (.ite c a b) = mIte (dT G C c) (dSs G C wf a) (dSs G C wf b) := rfl
@[simp] theorem q_sfor {G : Ev} {C : Nat → List D → Sto → Out D} {wf : Nat} {t : Tg} {it : It} {b : Ss} : dS G C wf (.for_ t it b) = mFor (dI G C it) (dG G C t) (dSs G C wf b) := rfl
@[simp] theorem q_swhl {G : Ev} {C : Nat → List D → Sto → Out D} {wf : Nat} {c : Tt} {b : Ss} : dS G C wf (.whl c b) = whGo (dT G C c) (dSs G C wf b) wf := rfl
@[simp] theorem q_ssetf {G : Ev} {C : Nat → List D → Sto → Out D} {wf : Nat} {o : E} {f : Str} {e : E} : dS G C wf (.setf o f e) = mSetF G (dE G C o) (dE G C e) f := rfl
@[simp] theorem q_saugS {G : Ev} {C : Nat → List D → Sto → Out D} {wf : Nat} {o i : E} {p : Operator} {e : E} : dS G C wf (.augS o i p e) = mAugS (dE G C o) (dE G C i) (iopF p) (dE G C e) := rfl
@[simp] theorem q_snil {G : Ev} {C : Nat → List D → Sto → Out D} {wf : Nat} : dSs G C wf .nil = mSkip := rfl
@[simp] theorem q_scons {G : Ev} {C : Nat → List D → Sto → Out D} {wf : Nat} {s : S1} {ss : Ss} : dSs G C wf (.cons s ss) = mThen (dS G C wf s) (dSs G C wf ss) := rfl
@[simp] theorem q_mC {d : D} {sd : Sl} {S : Sto} : mC d sd S = .ok d S := by kernel_rfl
@[simp] theorem q_mG {G : Ev} {j : Nat} {sd : Sl} {S : Sto} : mG G j sd S = lift G.g[j]? S := by kernel_rfl
@[simp] theorem q_mBin {a b : M D} {f : Sto → D → D → Option D} {sd : Sl} {S : Sto} : mBin f a b sd S = (match a sd S with | .ok x S1 => (match b sd S1 with | .ok y S2 => lift (f S2 x y) S2 | .exc c fs S0 => .exc c fs S0 | .bad => .bad) | .exc c fs S0 => .exc c fs S0 | .bad => .bad) := by kernel_rfl
@[simp] theorem q_mBl {a : M D}  {sd : Sl} {S : Sto} : mBl a sd S = (match a sd S with | .ok x S1 => toB x S1 | .exc c fs S0 => .exc c fs S0 | .bad => .bad) := by kernel_rfl
@[simp] theorem q_mTru {a : M D}  {sd : Sl} {S : Sto} : mTru a sd S = (match a sd S with | .ok x S1 => lift (truP S1 x) S1 | .exc c fs S0 => .exc c fs S0 | .bad => .bad) := by kernel_rfl
@[simp] theorem q_mNotT {ta : M Bool}  {sd : Sl} {S : Sto} : mNotT ta sd S = (match ta sd S with | .ok k S1 => .ok (!k) S1 | .exc c fs S0 => .exc c fs S0 | .bad => .bad) := by kernel_rfl
@[simp] theorem q_mAndT {ta tb : M Bool}  {sd : Sl} {S : Sto} : mAndT ta tb sd S = (match ta sd S with | .ok k S1 => if k then tb sd S1 else .ok false S1 | .exc c fs S0 => .exc c fs S0 | .bad => .bad) := by kernel_rfl
@[simp] theorem q_mOrT {ta tb : M Bool}  {sd : Sl} {S : Sto} : mOrT ta tb sd S = (match ta sd S with | .ok k S1 => if k then .ok true S1 else tb sd S1 | .exc c fs S0 => .exc c fs S0 | .bad => .bad) := by kernel_rfl
@[simp] theorem q_mNot {a : M D}  {sd : Sl} {S : Sto} : mNot a sd S = (match a sd S with | .ok x S1 => (match x with | .bl k => .ok (.bl (!k)) S1 | _ => .bad) | .exc c fs S0 => .exc c fs S0 | .bad => .bad) := by kernel_rfl
@[simp] theorem q_mAnd {a b : M D}  {sd : Sl} {S : Sto} : mAnd a b sd S = (match a sd S with | .ok x S1 => (match x with | .bl true => b sd S1 | .bl false => .ok (.bl false) S1 | _ => .bad) | .exc c fs S0 => .exc c fs S0 | .bad => .bad) := by kernel_rfl
@[simp] theorem q_mOr {a b : M D}  {sd : Sl} {S : Sto} : mOr a b sd S = (match a sd S with | .ok x S1 => (match x with | .bl true => .ok (.bl true) S1 | .bl false => b sd S1 | _ => .bad) | .exc c fs S0 => .exc c fs S0 | .bad => .bad) := by kernel_rfl
@[simp] theorem q_mIf {a b : M D} {ta : M Bool}  {sd : Sl} {S : Sto} : mIf ta a b sd S = (match ta sd S with | .ok k S1 => if k then a sd S1 else b sd S1 | .exc c fs S0 => .exc c fs S0 | .bad => .bad) := by kernel_rfl
@[simp] theorem q_mChain {a b c : M D} {f g : Sto → D → D → Option D} {sd : Sl} {S : Sto} : mChain f g a b c sd S = (match a sd S with | .ok x S1 => (match b sd S1 with | .ok y S2 => (match lift (f S2 x y) S2 with | .ok z S3 => (match z with | .bl true => (match c sd S3 with | .ok w S4 => lift (g S4 y w) S4 | .exc c fs S0 => .exc c fs S0 | .bad => .bad) | .bl false => .ok (.bl false) S3 | _ => .bad) | .exc c fs S0 => .exc c fs S0 | .bad => .bad) | .exc c fs S0 => .exc c fs S0 | .bad => .bad) | .exc c fs S0 => .exc c fs S0 | .bad => .bad) := by kernel_rfl
@[simp] theorem q_mNil  {sd : Sl} {S : Sto} : mNil sd S = .ok [] S := by kernel_rfl
@[simp] theorem q_mCons {a : M D} {la : M (List D)}  {sd : Sl} {S : Sto} : mCons a la sd S = (match a sd S with | .ok x S1 => (match la sd S1 with | .ok xs S2 => .ok (x :: xs) S2 | .exc c fs S0 => .exc c fs S0 | .bad => .bad) | .exc c fs S0 => .exc c fs S0 | .bad => .bad) := by kernel_rfl
@[simp] theorem q_mTup {la : M (List D)}  {sd : Sl} {S : Sto} : mTup la sd S = (match la sd S with | .ok xs S1 => if xs.length ≤ 16777216 then .ok (.tup xs) S1 else .bad | .exc c fs S0 => .exc c fs S0 | .bad => .bad) := by kernel_rfl
@[simp] theorem q_mLst {la : M (List D)}  {sd : Sl} {S : Sto} : mLst la sd S = (match la sd S with | .ok xs S1 => if xs.length ≤ 16777216 then .ok (.lst xs) S1 else .bad | .exc c fs S0 => .exc c fs S0 | .bad => .bad) := by kernel_rfl
@[simp] theorem q_mLstM {la : M (List D)}  {sd : Sl} {S : Sto} : mLstM la sd S = (match la sd S with | .ok xs S1 => if xs.length ≤ 16777216 then .ok (.loc S1.length) (S1 ++ [.lst xs]) else .bad | .exc c fs S0 => .exc c fs S0 | .bad => .bad) := by kernel_rfl
@[simp] theorem q_mCall {la : M (List D)} {f : Sto → List D → Option D} {sd : Sl} {S : Sto} : mCall f la sd S = (match la sd S with | .ok xs S1 => lift (f S1 xs) S1 | .exc c fs S0 => .exc c fs S0 | .bad => .bad) := by kernel_rfl
@[simp] theorem q_mFn {la : M (List D)} {f : List D → Sto → Out D} {sd : Sl} {S : Sto} : mFn f la sd S = (match la sd S with | .ok xs S1 => f xs S1 | .exc c fs S0 => .exc c fs S0 | .bad => .bad) := by kernel_rfl
@[simp] theorem q_mIsi {a : M D} {t : Ty} {sd : Sl} {S : Sto} : mIsi a t sd S = (match a sd S with | .ok x S1 => lift ((isiD S1 x t).map .bl) S1 | .exc c fs S0 => .exc c fs S0 | .bad => .bad) := by kernel_rfl
@[simp] theorem q_mIsiT {a : M D} {t t' : Ty} {sd : Sl} {S : Sto} : mIsiT a t t' sd S = (match a sd S with | .ok x S1 => lift (match isiD S1 x t, isiD S1 x t' with | some b, some c => some (.bl (b || c)) | _, _ => none) S1 | .exc c fs S0 => .exc c fs S0 | .bad => .bad) := by kernel_rfl
@[simp] theorem q_mDicE  {sd : Sl} {S : Sto} : mDicE sd S = .ok (.loc S.length) (S ++ [.dic []]) := by kernel_rfl
@[simp] theorem q_mNo  {sd : Sl} {S : Sto} : mNo sd S = .ok none S := by kernel_rfl
@[simp] theorem q_mPart {a : M D}  {sd : Sl} {S : Sto} : mPart a sd S = (match a sd S with | .ok x S1 => (match x with | .int i => .ok (some i) S1 | _ => .bad) | .exc c fs S0 => .exc c fs S0 | .bad => .bad) := by kernel_rfl
@[simp] theorem q_mSl {a : M D} {lo hi : M (Option Int)} {sd : Sl} {S : Sto} : mSl a lo hi sd S = (match a sd S with | .ok x S1 => (match lo sd S1 with | .ok l S2 => (match hi sd S2 with | .ok h S3 => lift (slP S3 x l h) S3 | .exc c fs S0 => .exc c fs S0 | .bad => .bad) | .exc c fs S0 => .exc c fs S0 | .bad => .bad) | .exc c fs S0 => .exc c fs S0 | .bad => .bad) := by kernel_rfl
@[simp] theorem q_mNeg {a : M D}  {sd : Sl} {S : Sto} : mNeg a sd S = (match a sd S with | .ok x S1 => lift (negD x) S1 | .exc c fs S0 => .exc c fs S0 | .bad => .bad) := by kernel_rfl
@[simp] theorem q_mFld {a : M D} {G : Ev} {f : Str} {sd : Sl} {S : Sto} : mFld G a f sd S = (match a sd S with | .ok x S1 => (match x with | .loc n => (match S1[n]? with | some (.ins c fs) => if G.fld c f then lift (fs.lookup f) S1 else .bad | _ => .bad) | _ => .bad) | .exc c fs S0 => .exc c fs S0 | .bad => .bad) := by kernel_rfl
@[simp] theorem q_mMth {a : M D} {la : M (List D)} {G : Ev} {C : Nat → List D → Sto → Out D} {m : Str} {sd : Sl} {S : Sto} : mMth G C a m la sd S = (match a sd S with | .ok x S1 => (match x with | .loc n => (match S1[n]? with | some (.ins c fs) => (match G.mth c m, fs.lookup m with | some i, none => (match la sd S1 with | .ok xs S2 => C i (.loc n :: xs) S2 | .exc c fs S0 => .exc c fs S0 | .bad => .bad) | _, _ => .bad) | _ => .bad) | _ => .bad) | .exc c fs S0 => .exc c fs S0 | .bad => .bad) := by kernel_rfl
@[simp] theorem q_mMk {la : M (List D)} {G : Ev} {C : Nat → List D → Sto → Out D} {c : Nat} {sd : Sl} {S : Sto} : mMk G C c la sd S = (match la sd S with | .ok xs S1 => (match G.mth c "__init__" with | some i => (match C i (.loc S1.length :: xs) (S1 ++ [.ins c []]) with | .ok v S2 => (match v with | .non => .ok (.loc S1.length) S2 | _ => .bad) | .exc c fs S0 => .exc c fs S0 | .bad => .bad) | none => .bad) | .exc c fs S0 => .exc c fs S0 | .bad => .bad) := by kernel_rfl
@[simp] theorem q_mOwn {a b : M D} {f : Sto → D → D → Option (List D)} {sd : Sl} {S : Sto} : mOwn f a b sd S = (match a sd S with | .ok x S1 => (match b sd S1 with | .ok y S2 => (match f S2 x y with | some xs => .ok (.loc S2.length) (S2 ++ [.lst xs]) | none => .bad) | .exc c fs S0 => .exc c fs S0 | .bad => .bad) | .exc c fs S0 => .exc c fs S0 | .bad => .bad) := by kernel_rfl
@[simp] theorem q_mLstC {a : M D}  {sd : Sl} {S : Sto} : mLstC a sd S = (match a sd S with | .ok x S1 => (match asQ S1 x with | some xs => .ok (.loc S1.length) (S1 ++ [.lst xs]) | none => .bad) | .exc c fs S0 => .exc c fs S0 | .bad => .bad) := by kernel_rfl
@[simp] theorem q_mSm {a b : M D} {sm : Sm} {sd : Sl} {S : Sto} : mSm sm a b sd S = (match a sd S with | .ok x S1 => (match x with | .str _ => (match b sd S1 with | .ok y S2 => lift (smF sm S2 x y) S2 | .exc c fs S0 => .exc c fs S0 | .bad => .bad) | _ => .bad) | .exc c fs S0 => .exc c fs S0 | .bad => .bad) := by kernel_rfl
@[simp] theorem q_mDsel {a : M D} {la : M (List D)} {ks : List Str} {sd : Sl} {S : Sto} : mDsel ks la a sd S = (match la sd S with | .ok xs S1 => (match a sd S1 with | .ok y S2 => (match y with | .str k => lift ((ks.zip xs).lookup k) S2 | _ => .bad) | .exc c fs S0 => .exc c fs S0 | .bad => .bad) | .exc c fs S0 => .exc c fs S0 | .bad => .bad) := by kernel_rfl
@[simp] theorem q_mFmt {a : M D}  {sd : Sl} {S : Sto} : mFmt a sd S = (match a sd S with | .ok x S1 => lift (fmtD x) S1 | .exc c fs S0 => .exc c fs S0 | .bad => .bad) := by kernel_rfl
@[simp] theorem q_mFc {a : M D} {m : Str → M D} {acc : Str} {sd : Sl} {S : Sto} : mFc a m acc sd S = (match a sd S with | .ok x S1 => (match x with | .str y => if (acc ++ y).length ≤ 16777216 then m (acc ++ y) sd S1 else .bad | _ => .bad) | .exc c fs S0 => .exc c fs S0 | .bad => .bad) := by kernel_rfl
@[simp] theorem q_mZip {la : M (List D)}  {sd : Sl} {S : Sto} : mZip la sd S = (match la sd S with | .ok xs S1 => (match xs with | [x, y] => (match srcOf S1 x, srcOf S1 y with | some s, some t => .ok (zipS s t) S1 | _, _ => .bad) | _ => .bad) | .exc c fs S0 => .exc c fs S0 | .bad => .bad) := by kernel_rfl
@[simp] theorem q_mEnum {la : M (List D)}  {sd : Sl} {S : Sto} : mEnum la sd S = (match la sd S with | .ok xs S1 => (match xs with | [x] => (match srcOf S1 x with | some s => .ok (enumS s) S1 | none => .bad) | _ => .bad) | .exc c fs S0 => .exc c fs S0 | .bad => .bad) := by kernel_rfl
@[simp] theorem q_mYes  {sd : Sl} {S : Sto} : mYes sd S = .ok true S := by kernel_rfl
@[simp] theorem q_mSeq {a : M D}  {sd : Sl} {S : Sto} : mSeq a sd S = (match a sd S with | .ok x S1 => lift (srcOf S1 x) S1 | .exc c fs S0 => .exc c fs S0 | .bad => .bad) := by kernel_rfl
@[simp] theorem q_mRng {la : M (List D)} {f : List D → Option Src} {sd : Sl} {S : Sto} : mRng f la sd S = (match la sd S with | .ok xs S1 => lift (f xs) S1 | .exc c fs S0 => .exc c fs S0 | .bad => .bad) := by kernel_rfl
@[simp] theorem q_mLc {a : M D} {ta : M Bool} {mi : M Src} {g : GM} {vs : List Nat} {sd : Sl} {S : Sto} : mLc mi g vs ta a sd S = (match mLcL mi g vs ta a sd S with | .ok acc S2 => .ok (.lst acc) S2 | .exc c fs S0 => .exc c fs S0 | .bad => .bad) := by kernel_rfl
@[simp] theorem q_mLcM {a : M D} {ta : M Bool} {mi : M Src} {g : GM} {vs : List Nat} {sd : Sl} {S : Sto} : mLcM mi g vs ta a sd S = (match mLcL mi g vs ta a sd S with | .ok acc S2 => .ok (.loc S2.length) (S2 ++ [.lst acc]) | .exc c fs S0 => .exc c fs S0 | .bad => .bad) := by kernel_rfl
@[simp] theorem q_mLcL {a : M D} {ta : M Bool} {mi : M Src} {g : GM} {vs : List Nat} {sd : Sl} {S : Sto} : mLcL mi g vs ta a sd S = (match mi sd S with | .ok src S1 => lcGo src g ta a (wipeD sd vs) src.len 0 [] S1 | .exc c fs S0 => .exc c fs S0 | .bad => .bad) := by kernel_rfl
@[simp] theorem q_mSkip  {sd : Sl} {S : Sto} : mSkip sd S = .ok .nx sd S := by kernel_rfl
@[simp] theorem q_mThen {p q : MS}  {sd : Sl} {S : Sto} : mThen p q sd S = (match p sd S with | .ok .nx sd1 S1 => q sd1 S1 | o => o) := by kernel_rfl
@[simp] theorem q_mExpr {a : M D}  {sd : Sl} {S : Sto} : mExpr a sd S = (match a sd S with | .ok _ S1 => .ok .nx sd S1 | .exc c fs S0 => .exc c fs sd S0 | .bad => .bad) := by unfold mExpr; cases a sd S <;> rfl
@[simp] theorem q_mRet {a : M D}  {sd : Sl} {S : Sto} : mRet a sd S = (match a sd S with | .ok d S1 => .ok (.rt d) sd S1 | .exc c fs S0 => .exc c fs sd S0 | .bad => .bad) := by unfold mRet; cases a sd S <;> rfl
@[simp] theorem q_mRetN  {sd : Sl} {S : Sto} : mRetN sd S = .ok (.rt .non) sd S := by kernel_rfl
@[simp] theorem q_mAsg {a : M D} {g : GM} {sd : Sl} {S : Sto} : mAsg a g sd S = (match a sd S with | .ok d S1 => (match g d sd S1 with | some (sd2, S2) => .ok .nx sd2 S2 | none => .bad) | .exc c fs S0 => .exc c fs sd S0 | .bad => .bad) := by unfold mAsg; cases a sd S <;> rfl
@[simp] theorem q_mIte {ta : M Bool} {p q : MS}  {sd : Sl} {S : Sto} : mIte ta p q sd S = (match ta sd S with | .ok k S1 => if k then p sd S1 else q sd S1 | .exc c fs S0 => .exc c fs sd S0 | .bad => .bad) := by unfold mIte; cases ta sd S <;> rfl
@[simp] theorem q_mBrk  {sd : Sl} {S : Sto} : mBrk sd S = .ok .bk sd S := by kernel_rfl
@[simp] theorem q_mCnt  {sd : Sl} {S : Sto} : mCnt sd S = .ok .ct sd S := by kernel_rfl
@[simp] theorem q_mFor {p : MS} {mi : M Src} {g : GM} {sd : Sl} {S : Sto} : mFor mi g p sd S = (match mi sd S with | .ok src S1 => forGo src g p src.len 0 sd S1 | .exc c fs S0 => .exc c fs sd S0 | .bad => .bad) := by unfold mFor; cases mi sd S <;> rfl
@[simp] theorem q_gNm {i : Nat} {d : D} {sd : Sl} {S : Sto} : gNm i d sd S = some (sd.set i (some d), S) := by kernel_rfl
@[simp] theorem q_mVar {i : Nat} {sd : Sl} {S : Sto} {d : D} (h : sd[i]? = some (some d)) : mVar i sd S = .ok d S := by unfold mVar; rw [h]
@[simp] theorem q_mAug {i : Nat} {sd : Sl} {S : Sto} {x : D} {f : Sto → D → D → Option D} {a : M D} (h : sd[i]? = some (some x)) : mAug i f a sd S = (match a sd S with | .ok y S1 => (match f S1 x y with | some z => .ok .nx (sd.set i (some z)) S1 | none => .bad) | .exc c fs S0 => .exc c fs sd S0 | .bad => .bad) := by unfold mAug; rw [h]; cases a sd S <;> rfl
@[simp] theorem q_liftS {T : Type} {x : T} {S : Sto} : lift (some x) S = .ok x S := rfl
@[simp] theorem q_toB {k : Bool} {S : Sto} : toB (.bl k) S = .ok k S := rfl
@[simp] theorem q_vLen {ds : List D} : (Src.vals ds).len = ds.length := rfl
@[simp] theorem q_vFin {ds : List D} {S : Sto} : (Src.vals ds).fin S = true := rfl
@[simp] theorem q_vAt {ds : List D} {S : Sto} {i : Nat} : (Src.vals ds).at S i = ds[i]? := rfl
@[simp] theorem q_opAdd  : opF .Add = addP := rfl
@[simp] theorem q_opSub  : opF .Sub = intP subI := rfl
@[simp] theorem q_opMult  : opF .Mult = mulP := rfl
@[simp] theorem q_opFloorDiv  : opF .FloorDiv = intP fdivI := rfl
@[simp] theorem q_opMod  : opF .Mod = intP modI := rfl
@[simp] theorem q_opPow  : opF .Pow = intP powI := rfl
@[simp] theorem q_cmEq  : cmpF .Eq = eqD := rfl
@[simp] theorem q_cmNotEq  : cmpF .NotEq = neD := rfl
@[simp] theorem q_cmIs  : cmpF .Is = isNP false := rfl
@[simp] theorem q_cmIsNot  : cmpF .IsNot = isNP true := rfl
@[simp] theorem q_cmIn  : cmpF .In = inD := rfl
@[simp] theorem q_cmNotIn  : cmpF .NotIn = notInD := rfl
@[simp] theorem q_cmLt {S : Sto} {i j : Int} : cmpF .Lt S (.int i) (.int j) = some (.bl (decide (i < j))) := rfl
@[simp] theorem q_cmLtE {S : Sto} {i j : Int} : cmpF .LtE S (.int i) (.int j) = some (.bl (decide (i ≤ j))) := rfl
@[simp] theorem q_cmGt {S : Sto} {i j : Int} : cmpF .Gt S (.int i) (.int j) = some (.bl (decide (j < i))) := rfl
@[simp] theorem q_cmGtE {S : Sto} {i j : Int} : cmpF .GtE S (.int i) (.int j) = some (.bl (decide (j ≤ i))) := rfl
@[simp] theorem q_bflen  : bfF .len = call1 lenD := rfl
@[simp] theorem q_bfabs  : bfF .abs = call1 absD := rfl
@[simp] theorem q_bfint  : bfF .int = call1 intD := rfl
@[simp] theorem q_bfstr  : bfF .str = call1 strD := rfl
@[simp] theorem q_bftup  : bfF .tup = call1 tupD := rfl
@[simp] theorem q_bflst  : bfF .lst = call1 lstD := rfl
@[simp] theorem q_bfmax2  : bfF .max2 = max2D := rfl
@[simp] theorem q_bfmin2  : bfF .min2 = min2D := rfl
@[simp] theorem q_bfrepr  : bfF .repr = call1 reprD := rfl
@[simp] theorem q_bfsum  : bfF .sum = call1 sumD := rfl
@[simp] theorem q_bfmax1  : bfF .max1 = call1 max1D := rfl
@[simp] theorem q_bfmin1  : bfF .min1 = call1 min1D := rfl
@[simp] theorem q_call1 {f : Sto → D → Option D} {S : Sto} {x : D} : call1 f S [x] = f S x := rfl
@[simp] theorem q_addI {S : Sto} {i j : Int} : addP S (.int i) (.int j) = some (.int (i + j)) := rfl
@[simp] theorem q_subI {S : Sto} {i j : Int} : intP subI S (.int i) (.int j) = some (.int (i - j)) := rfl
@[simp] theorem q_absI {S : Sto} {i : Int} : absD S (.int i) = some (.int (if i < 0 then -i else i)) := rfl
@[simp] theorem q_intI {S : Sto} {i : Int} : intD S (.int i) = some (.int i) := rfl
@[simp] theorem q_negI {i : Int} : negD (.int i) = some (.int (-i)) := rfl
@[simp] theorem q_iaddI {S : Sto} {i j : Int} : iopF .Add S (.int i) (.int j) = some (.int (i + j)) := rfl
@[simp] theorem q_owA  : ownF .Add = catL := rfl
@[simp] theorem q_owM  : ownF .Mult = repL := rfl
@[simp] theorem q_smjoin  : smF .join = joinD := rfl
@[simp] theorem q_smsplit  : smF .split = splitD := rfl
@[simp] theorem q_smstartswith  : smF .startswith = startsD := rfl
@[simp] theorem q_smpartition  : smF .partition = partD := rfl
@[simp] theorem q_smstrip  : smF .strip = stripD := rfl
@[simp] theorem q_fmtS {i : Int} : fmtD (.int i) = if i.natAbs.log2 < 1920 then some (.str (toString i)) else none := rfl
@[simp] theorem q_gsNil {sd : Sl} {S : Sto} : gsNil [] sd S = some (sd, S) := rfl
@[simp] theorem q_mod {S : Sto} {i j : Int} (h : 0 < j) : intP modI S (.int i) (.int j) = some (.int (i % j)) := by simp [intP, modI, h]
@[simp] theorem q_fdiv {S : Sto} {i j : Int} (h : 0 < j) (h2 : j < 1073741824) : intP fdivI S (.int i) (.int j) = some (.int (i / j)) := by simp [intP, fdivI, h, h2]
theorem q_mul {S : Sto} {i j : Int} (h : -18446744073709551616 < i ∧ i < 18446744073709551616) : mulP S (.int i) (.int j) = some (.int (i * j)) := by simp [mulP, mulI, h]
theorem q_pow {S : Sto} {i j : Int} (h : 0 ≤ j ∧ j ≤ 1000000) (h2 : i.natAbs < 18446744073709551616) : intP powI S (.int i) (.int j) = some (.int (i ^ j.toNat)) := by simp [intP, powI, h, h2]

theorem ixN_in {n : Nat} {i : Int} (h0 : 0 ≤ i) (h1 : i < n) : ixN n i = some i.toNat := by
  unfold ixN
  rw [if_pos h0, if_pos h1]
theorem atI_in {α : Type} {xs : List α} {i : Int} (h0 : 0 ≤ i) (h1 : i < xs.length) : L2.atI xs i = xs[i.toNat]? := by
  unfold L2.atI
  rw [ixN_in h0 h1]
  rfl

/-! ### the deck -/
structure Dk (S : Sto) (a b : Nat) (n : Int) : Prop where
  ne : a ≠ b
  cells : ∃ xs : List Int, S[a]? = some (.lst (xs.map D.int)) ∧ ∀ x ∈ xs, 0 ≤ x
  at_ : S[b]? = some (.lst [.loc a, .int n])
def drawB (p q t u : Int) : Ss := (.cons (.asg (.sub (.v 0) (.c (.int 1))) (.op .Add (.ix (.v 0) (.c (.int 1))) (.c (.int 1)))) (.cons (.asg (.tup (.cons (.nm 3) (.cons (.nm 4) .nil))) (.tup (.cons (.c (.int 0)) (.cons (.neg (.c (.int 1))) .nil)))) (.cons (.ite (.cmp .Gt (.bf .len (.cons (.ix (.v 0) (.c (.int 0))) .nil)) (.c (.int 0))) (.cons (.asg (.nm 4) (.op .Mod (.bf .int (.cons (.ix (.v 0) (.c (.int 1))) .nil)) (.bf .len (.cons (.ix (.v 0) (.c (.int 0))) .nil)))) (.cons (.asg (.nm 3) (.ix (.ix (.v 0) (.c (.int 0))) (.v 4))) .nil)) .nil) (.cons (.ite (.cmp .GtE (.v 3) (.op .Pow (.c (.int 10)) (.c (.int 18)))) (.cons (.asg (.sub (.ix (.v 0) (.c (.int 0))) (.v 4)) (.op .FloorDiv (.bf .int (.cons (.v 3) .nil)) (.v 1))) (.cons (.ret (.op .Mod (.bf .int (.cons (.v 3) .nil)) (.v 1))) .nil)) .nil) (.cons (.asg (.nm 2) (.op .Add (.op .Add (.op .Mod (.bf .int (.cons (.v 3) .nil)) (.c (.int p))) (.op .Mult (.c (.int q)) (.ix (.v 0) (.c (.int 1))))) (.c (.int t)))) (.cons (.ret (.op .Mod (.bf .int (.cons (.op .Mod (.bf .int (.cons (.op .Pow (.v 2) (.c (.int 5))) .nil)) (.c (.int u))) .nil)) (.v 1))) .nil))))))
theorem ix_loc {S : Sto} {b : Nat} {xs : List D} {i : Int} (h : S[b]? = some (.lst xs)) (h0 : 0 ≤ i) (h1 : i < xs.length) : ixP S (.loc b) (.int i) = xs[i.toNat]? := by
  simp [ixP, asQ, asL, h, atI_in h0 h1]
theorem len_loc {S : Sto} {b : Nat} {xs : List D} (h : S[b]? = some (.lst xs)) : lenD S (.loc b) = some (.int xs.length) := by
  simp [lenD, lenP, asQ, asL, h]
structure Fr (S S' : Sto) (a b : Nat) : Prop where
  len : S'.length = S.length
  oth : ∀ c, c ≠ a → c ≠ b → S'[c]? = S[c]?
section
variable {G : Ev} {C : Nat → List D → Sto → Out D} {wf : Nat} {p q t u : Int}
theorem draw_ok {S : Sto} {a b : Nat} {n m : Int} (h : Dk S a b n) (hn : 0 ≤ n) (hn2 : n < 1000000) (hm : 0 < m) (hm2 : m < 1073741824) (hp : 0 < p) (hp2 : p < 1000000000000) (hq : 0 < q) (hq2 : q < 1000000) (ht : 0 ≤ t) (ht2 : t < 1000000) (hu : 0 < u) :
    ∃ r S', fnEnd (dSs G C wf (drawB p q t u) (slots0 5 [.loc b, .int m]) S) = .ok (.int r) S' ∧ 0 ≤ r ∧ r < m ∧ Dk S' a b (n + 1) ∧ Fr S S' a b := by
  obtain ⟨ne, ⟨xs, hx, hpos⟩, hb⟩ := h
  have lb : b < S.length := (List.getElem?_eq_some_iff.mp hb).1
  have la : a < S.length := (List.getElem?_eq_some_iff.mp hx).1
  have hb1 : (S.set b (.lst [.loc a, .int (n + 1)]))[b]? = some (.lst [.loc a, .int (n + 1)]) := by simp [lb]
  have hx1 : (S.set b (.lst [.loc a, .int (n + 1)]))[a]? = some (.lst (xs.map D.int)) := by rw [List.getElem?_set_ne ne.symm]; exact hx
  generalize hS1 : S.set b (.lst [.loc a, .int (n + 1)]) = S1 at hb1 hx1
  have l1 : S1.length = S.length := by rw [← hS1]; simp
  have o1 : ∀ c, c ≠ a → c ≠ b → S1[c]? = S[c]? := fun c _ z => by rw [← hS1, List.getElem?_set_ne (Ne.symm z)]
  have dk1 : Dk S1 a b (n + 1) := ⟨ne, ⟨xs, hx1, hpos⟩, hb1⟩
  have i0 : ixP S1 (.loc b) (.int 0) = some (.loc a) := by rw [ix_loc hb1 (by decide) (by simp)]; rfl
  have i1 : ixP S1 (.loc b) (.int 1) = some (.int (n + 1)) := by rw [ix_loc hb1 (by decide) (by simp)]; rfl
  have j1 : ixP S (.loc b) (.int 1) = some (.int n) := by rw [ix_loc hb (by decide) (by simp)]; rfl
  have ln : lenD S1 (.loc a) = some (.int xs.length) := by rw [len_loc hx1]; simp
  have pw : intP powI S1 (.int 10) (.int 18) = some (.int (10 ^ 18)) := rfl
  -- the first two statements
  have s1 : dS G C wf (.asg (.sub (.v 0) (.c (.int 1))) (.op .Add (.ix (.v 0) (.c (.int 1))) (.c (.int 1)))) (slots0 5 [.loc b, .int m]) S = .ok .nx [some (.loc b), some (.int m), none, none, none] S1 := by
    simp [slots0, j1, gSubM, hb, ixN, ← hS1]
  have s2 : dS G C wf (.asg (.tup (.cons (.nm 3) (.cons (.nm 4) .nil))) (.tup (.cons (.c (.int 0)) (.cons (.neg (.c (.int 1))) .nil)))) [some (.loc b), some (.int m), none, none, none] S1 = .ok .nx [some (.loc b), some (.int m), none, some (.int 0), some (.int (-1))] S1 := by
    simp [gTp, gsCons]
  -- the third
  have s3 : ∃ (x : Int) (at_ : Int), 0 ≤ x ∧ (x ≠ 0 → 0 ≤ at_ ∧ at_ < xs.length) ∧ dS G C wf (.ite (.cmp .Gt (.bf .len (.cons (.ix (.v 0) (.c (.int 0))) .nil)) (.c (.int 0))) (.cons (.asg (.nm 4) (.op .Mod (.bf .int (.cons (.ix (.v 0) (.c (.int 1))) .nil)) (.bf .len (.cons (.ix (.v 0) (.c (.int 0))) .nil)))) (.cons (.asg (.nm 3) (.ix (.ix (.v 0) (.c (.int 0))) (.v 4))) .nil)) .nil) [some (.loc b), some (.int m), none, some (.int 0), some (.int (-1))] S1 = .ok .nx [some (.loc b), some (.int m), none, some (.int x), some (.int at_)] S1 := by
    by_cases hl : 0 < xs.length
    · have hl' : (0 : Int) < xs.length := by omega
      have m0 := Int.emod_nonneg (n + 1) (b := (xs.length : Int)) (by omega)
      have m1 := Int.emod_lt_of_pos (n + 1) hl'
      have hk : ((n + 1) % (xs.length : Int)).toNat < xs.length := by omega
      refine ⟨xs[((n + 1) % (xs.length : Int)).toNat], (n + 1) % xs.length, hpos _ (List.getElem_mem hk), fun _ => ⟨m0, m1⟩, ?_⟩
      have ia : ixP S1 (.loc a) (.int ((n + 1) % xs.length)) = some (.int xs[((n + 1) % (xs.length : Int)).toNat]) := by
        rw [ix_loc hx1 m0 (by simpa using m1), List.getElem?_map, List.getElem?_eq_getElem hk]; rfl
      simp [i0, i1, ln, hl, ia]
    · have e : xs = [] := by cases xs with | nil => rfl | cons _ _ => simp at hl
      subst e
      refine ⟨0, -1, by decide, fun z => absurd rfl z, ?_⟩
      simp [i0, ln]
  obtain ⟨x, at_, hx0, hat, s3⟩ := s3
  unfold drawB
  rw [q_scons, then_nx s1, q_scons, then_nx s2, q_scons, then_nx s3, q_scons]
  by_cases big : 10 ^ 18 ≤ x
  · have hat := hat (by omega)
    have ix : ixN xs.length at_ = some at_.toNat := ixN_in hat.1 hat.2
    refine ⟨x % m, S1.set a (.lst ((xs.map D.int).set at_.toNat (.int (x / m)))), ?_, Int.emod_nonneg _ (by omega), Int.emod_lt_of_pos _ hm, ⟨ne, ⟨xs.set at_.toNat (x / m), ?_, fun y hy => ?_⟩, ?_⟩, ?_, fun c c1 c2 => ?_⟩
    · have big' : (1000000000000000000 : Int) ≤ x := big
      simp [pw, big', i0, gSubM, hx1, ix, hm, hm2, fnEnd]
    · rw [List.map_set]; simp [l1, la]
    · rcases List.mem_or_eq_of_mem_set hy with z | z
      · exact hpos _ z
      · rw [z]; exact Int.ediv_nonneg hx0 (by omega)
    · rw [List.getElem?_set_ne ne]; exact hb1
    · simp [l1]
    · rw [List.getElem?_set_ne (Ne.symm c1)]; exact o1 c c1 c2
  · have small : ¬ (1000000000000000000 : Int) ≤ x := big
    have s4 : dS G C wf (.ite (.cmp .GtE (.v 3) (.op .Pow (.c (.int 10)) (.c (.int 18)))) (.cons (.asg (.sub (.ix (.v 0) (.c (.int 0))) (.v 4)) (.op .FloorDiv (.bf .int (.cons (.v 3) .nil)) (.v 1))) (.cons (.ret (.op .Mod (.bf .int (.cons (.v 3) .nil)) (.v 1))) .nil)) .nil) [some (.loc b), some (.int m), none, some (.int x), some (.int at_)] S1 = .ok .nx [some (.loc b), some (.int m), none, some (.int x), some (.int at_)] S1 := by
      simp [pw, small]
    rw [then_nx s4]
    have x0 := Int.emod_nonneg x (b := p) (by omega)
    have x1 := Int.emod_lt_of_pos x hp
    have q0 : 0 ≤ q * (n + 1) := Int.mul_nonneg (by omega) (by omega)
    have q1 : q * (n + 1) ≤ 1000000 * 1000001 := Int.mul_le_mul (by omega) (by omega) (by omega) (by omega)
    refine ⟨(x % p + q * (n + 1) + t) ^ 5 % u % m, S1, ?_, Int.emod_nonneg _ (by omega), Int.emod_lt_of_pos _ hm, dk1, l1, o1⟩
    have hb64 : (x % p + q * (n + 1) + t).natAbs < 18446744073709551616 := by omega
    have pw2 : intP powI S1 (.int (x % p + q * (n + 1) + t)) (.int 5) = some (.int ((x % p + q * (n + 1) + t) ^ 5)) := q_pow (by decide) hb64
    have mu : mulP S1 (.int q) (.int (n + 1)) = some (.int (q * (n + 1))) := q_mul (by omega)
    simp [hp, mu, i1, pw2, hu, hm, fnEnd]
end
end Z

/-! Z layer, part Q: loops, the deck made. -/
namespace Z
open PySem PySem.Spec PyProof.Rows L2

/-- a comprehension that leaves the store alone -/
theorem lc_pure {ds : List D} {g : GM} {c : M Bool} {e : M D} {sw : Sl} {S : Sto} {p : D → Bool} {h : D → D}
    (hy : ∀ d ∈ ds, ∃ sd, g d sw S = some (sd, S) ∧ c sd S = .ok (p d) S ∧ (p d = true → e sd S = .ok (h d) S)) :
    ∀ (n i : Nat) (acc : List D), i + n = ds.length → acc.length + n ≤ 16777216 → lcGo (.vals ds) g c e sw n i acc S = .ok (acc ++ ((ds.drop i).filter p).map h) S
  | 0, i, acc, hi, _ => by
    have : ds.drop i = [] := List.drop_eq_nil_of_le (by omega)
    rw [this]; simp [lcGo]
  | n + 1, i, acc, hi, hl => by
    have hlt : i < ds.length := by omega
    obtain ⟨sd, h1, h2, h3⟩ := hy ds[i] (List.getElem_mem hlt)
    have hd : ds.drop i = ds[i] :: ds.drop (i + 1) := (List.drop_eq_getElem_cons hlt)
    have e0 : (Src.vals ds).at S i = some ds[i] := List.getElem?_eq_getElem hlt
    unfold lcGo
    simp only [e0, h1, h2]
    cases hp : p ds[i] with
    | true =>
      simp only [h3 hp]
      rw [if_pos (by omega), lc_pure hy n (i + 1) (acc ++ [h ds[i]]) (by omega) (by simp; omega), hd, List.filter_cons_of_pos (by simp [hp]), List.map_cons, List.append_assoc]
      rfl
    | false =>
      simp only []
      rw [lc_pure hy n (i + 1) acc (by omega) (by omega), hd, List.filter_cons_of_neg (by simp [hp])]
/-- a comprehension with something kept -/
theorem lc_inv {ds : List D} {g : GM} {c : M Bool} {e : M D} {sw : Sl} (P : Nat → List D → Sto → Prop)
    (st : ∀ i d acc S, ds[i]? = some d → P i acc S → ∃ sd S1, g d sw S = some (sd, S1) ∧ ((∃ S2, c sd S1 = .ok false S2 ∧ P (i + 1) acc S2) ∨ ∃ S2 y S3, c sd S1 = .ok true S2 ∧ e sd S2 = .ok y S3 ∧ P (i + 1) (acc ++ [y]) S3)) :
    ∀ (n i : Nat) (acc : List D) (S : Sto), i + n = ds.length → acc.length + n ≤ 16777216 → P i acc S → ∃ acc' S', lcGo (.vals ds) g c e sw n i acc S = .ok acc' S' ∧ P ds.length acc' S'
  | 0, i, acc, S, hi, _, h => ⟨acc, S, by simp [lcGo], by rw [← hi]; exact h⟩
  | n + 1, i, acc, S, hi, hl, h => by
    have hlt : i < ds.length := by omega
    have e0 : (Src.vals ds).at S i = some ds[i] := List.getElem?_eq_getElem hlt
    obtain ⟨sd, S1, h1, h2⟩ := st i ds[i] acc S (List.getElem?_eq_getElem hlt) h
    unfold lcGo
    simp only [e0, h1]
    rcases h2 with ⟨S2, h2, h3⟩ | ⟨S2, y, S3, h2, h3, h4⟩
    · simp only [h2]
      exact lc_inv P st n (i + 1) acc S2 (by omega) (by omega) h3
    · simp only [h2, h3]
      rw [if_pos (by omega)]
      exact lc_inv P st n (i + 1) (acc ++ [y]) S3 (by omega) (by simp; omega) h4
theorem for_inv {ds : List D} {g : GM} {b : MS} (P : Nat → Sl → Sto → Prop)
    (st : ∀ i d sd S, ds[i]? = some d → P i sd S → ∃ sd1 S1, g d sd S = some (sd1, S1) ∧ ∃ sd2 S2, (b sd1 S1 = .ok .nx sd2 S2 ∨ b sd1 S1 = .ok .ct sd2 S2) ∧ P (i + 1) sd2 S2) :
    ∀ (n i : Nat) (sd : Sl) (S : Sto), i + n = ds.length → P i sd S → ∃ sd' S', forGo (.vals ds) g b n i sd S = .ok .nx sd' S' ∧ P ds.length sd' S'
  | 0, i, sd, S, hi, h => ⟨sd, S, by simp [forGo], by rw [← hi]; exact h⟩
  | n + 1, i, sd, S, hi, h => by
    have hlt : i < ds.length := by omega
    have e0 : (Src.vals ds).at S i = some ds[i] := List.getElem?_eq_getElem hlt
    obtain ⟨sd1, S1, h1, sd2, S2, h2, h3⟩ := st i ds[i] sd S (List.getElem?_eq_getElem hlt) h
    unfold forGo
    simp only [e0, h1]
    rcases h2 with h2 | h2 <;> simp only [h2] <;> exact for_inv P st n (i + 1) sd2 S2 (by omega) h3

def Ss.app : Ss → Ss → Ss
  | .nil, b => b
  | .cons s a, b => .cons s (Ss.app a b)
theorem app_nx {G : Ev} {C : Nat → List D → Sto → Out D} {wf : Nat} : ∀ {a b : Ss} {sd sd1 : Sl} {S S1 : Sto}, dSs G C wf a sd S = .ok .nx sd1 S1 → dSs G C wf (a.app b) sd S = dSs G C wf b sd1 S1
  | .nil, b, sd, sd1, S, S1, h => by
    rw [q_snil, q_mSkip] at h
    cases h
    rfl
  | .cons s a, b, sd, sd1, S, S1, h => by
    show mThen (dS G C wf s) (dSs G C wf (a.app b)) sd S = _
    rw [q_scons] at h
    unfold mThen at h ⊢
    split at h
    · exact app_nx h
    · rename_i o hno
      exact absurd h (hno _ _)
/-! ### the deck made -/
def deckB (nm : Str) : Ss := (.cons (.ret (.lst true (.cons (.lc true (.nm 1) (.seq (.sl (.v 0) .none (.some (.c (.int 63))))) .none (.bf .abs (.cons (.v 1) .nil)) [(nm, 1)]) (.cons (.c (.int 0)) .nil)))) .nil)
theorem deck_ok {G : Ev} {C : Nat → List D → Sto → Out D} {wf : Nat} {nm : Str} {S : Sto} {ns : List Int} (hl : ns.length ≤ 63) :
    ∃ S', fnEnd (dSs G C wf (deckB nm) (slots0 2 [.fro (ns.map .int)]) S) = .ok (.loc (S.length + 1)) S' ∧ S'.length = S.length + 2 ∧ Dk S' S.length (S.length + 1) 0 ∧ ∀ c, c < S.length → S'[c]? = S[c]? := by
  have hc : cutG (ns.map D.int) none (some 63) = ns.map D.int := by
    have e : HT.sIx (ns.map D.int).length (ns.map D.int).length (some 63) = ns.length := by
      show min (63 : Int).toNat _ = _
      rw [List.length_map]; omega
    have e0 : HT.sIx (ns.map D.int).length 0 none = 0 := rfl
    unfold cutG
    rw [e, e0]
    simp only [List.drop_zero, Nat.sub_zero]
    exact List.take_of_length_le (by simp)
  have hsl : slP S (.fro (ns.map .int)) none (some 63) = some (.lst (ns.map .int)) := by
    simp [slP, asLF, hc]
  have hlc : lcGo (.vals (ns.map D.int)) (gNm 1) mYes (dE G C (.bf .abs (.cons (.v 1) .nil))) [some (.fro (ns.map .int)), none] (ns.map D.int).length 0 [] S = .ok (ns.map fun i => .int (if i < 0 then -i else i)) S := by
    rw [lc_pure (p := fun _ => true) (h := fun d => match d with | .int i => .int (if i < 0 then -i else i) | d => d) (fun d hd => ?_) _ 0 [] (by simp) (by simp; omega)]
    · rw [List.drop_zero, List.filter_eq_self.mpr fun _ _ => rfl, List.map_map]; rfl
    · obtain ⟨i, _, rfl⟩ := List.mem_map.mp hd
      exact ⟨_, rfl, rfl, fun _ => by simp⟩
  refine ⟨S ++ [.lst (ns.map fun i => .int (if i < 0 then -i else i))] ++ [.lst [.loc S.length, .int 0]], ?_, by simp, ⟨by omega, ⟨ns.map fun i => if i < 0 then -i else i, by simp, fun x hx => ?_⟩, by simp⟩, fun c hc => ?_⟩
  · have hw : wipeD [some (D.fro (ns.map .int)), none] [1] = [some (.fro (ns.map .int)), none] := rfl
    simp only [q_ebf, q_bfabs] at hlc
    simp [deckB, slots0, hsl, srcOf, hw, hlc, fnEnd]
    simp [q_lcons, q_lnil, q_ev] at hlc
    simp [hlc]
  · obtain ⟨i, _, rfl⟩ := List.mem_map.mp hx
    split <;> omega
  · rw [List.getElem?_append_left (by simp; omega), List.getElem?_append_left hc]
end Z

/-! Z layer, part R: frames, draws by name of the def, changes of the store. -/
namespace Z
open PySem PySem.Spec PyProof.Rows L2
theorem app_ok {o : M D} {a : M (List D)} {sd : Sl} {S S2 : Sto} {n : Nat} {xs xs0 : List D} {y : D} (h1 : o sd S = .ok (.loc n) S) (h0 : S[n]? = some (.lst xs0)) (h2 : a sd S = .ok [y] S2) (h3 : S2[n]? = some (.lst xs)) (hl : xs.length < 16777216) :
    mApp o a sd S = .ok .non (S2.set n (.lst (xs ++ [y]))) := by
  unfold mApp; simp [h1, h0, Out.bind, h2, h3, hl]
theorem ext_ok {o : M D} {a : M (List D)} {sd : Sl} {S S2 : Sto} {n : Nat} {xs xs0 zs : List D} {y : D} (h1 : o sd S = .ok (.loc n) S) (h0 : S[n]? = some (.lst xs0)) (h2 : a sd S = .ok [y] S2) (h3 : S2[n]? = some (.lst xs)) (h4 : asL S2 y = some zs) (hl : xs.length + zs.length ≤ 16777216) :
    mExt o a sd S = .ok .non (S2.set n (.lst (xs ++ zs))) := by
  unfold mExt; simp [h1, h0, Out.bind, h2, h3, h4, hl]
theorem par2_ok {i j : Nat} {a : M (List D)} {sd : Sl} {S S1 : Sto} {x y : D} (h : a sd S = .ok [x, y] S1) : mPar [i, j] a sd S = .ok .nx ((sd.set i (some x)).set j (some y)) S1 := by
  unfold mPar; rw [h]; rfl
theorem par3_ok {i j l : Nat} {a : M (List D)} {sd : Sl} {S S1 : Sto} {x y z : D} (h : a sd S = .ok [x, y, z] S1) : mPar [i, j, l] a sd S = .ok .nx (((sd.set i (some x)).set j (some y)).set l (some z)) S1 := by
  unfold mPar; rw [h]; rfl
/-- all but deck and the objects of m stay -/
structure Kp (S S' : Sto) (m : Nat → Prop) : Prop where
  len : S.length ≤ S'.length
  oth : ∀ c, 2 ≤ c → c < S.length → ¬ m c → S'[c]? = S[c]?
theorem Kp.refl (S : Sto) (m : Nat → Prop) : Kp S S m := ⟨Nat.le_refl _, fun _ _ _ _ => rfl⟩
theorem Kp.trans {S S1 S2 : Sto} {m : Nat → Prop} (a : Kp S S1 m) (b : Kp S1 S2 m) : Kp S S2 m :=
  ⟨Nat.le_trans a.len b.len, fun c h1 h2 h3 => (b.oth c h1 (Nat.lt_of_lt_of_le h2 a.len) h3).trans (a.oth c h1 h2 h3)⟩
theorem Kp.more {S S1 : Sto} {m m' : Nat → Prop} (a : Kp S S1 m) (h : ∀ c, c < S.length → m c → m' c) : Kp S S1 m' := ⟨a.len, fun c h1 h2 h3 => a.oth c h1 h2 fun z => h3 (h c h2 z)⟩
theorem Kp.at {S S' : Sto} {m : Nat → Prop} (a : Kp S S' m) {c : Nat} {o : MO} (h : S[c]? = some o) (h2 : 2 ≤ c) (h3 : ¬ m c) : S'[c]? = some o := by
  rw [a.oth c h2 (List.getElem?_eq_some_iff.mp h).1 h3]; exact h
theorem Kp.set {S : Sto} {m : Nat → Prop} {c : Nat} {o : MO} (h : m c) : Kp S (S.set c o) m :=
  ⟨by simp, fun d h1 h2 h3 => List.getElem?_set_ne fun (e : c = d) => h3 (by rw [← e]; exact h)⟩
theorem Kp.push {S : Sto} {m : Nat → Prop} {l : List MO} : Kp S (S ++ l) m := ⟨by simp, fun c _ h2 _ => List.getElem?_append_left h2⟩
theorem Dk.set {S : Sto} {n : Int} {c : Nat} {o : MO} (h : Dk S 0 1 n) (hc : 2 ≤ c) : Dk (S.set c o) 0 1 n := by
  obtain ⟨ne, ⟨xs, h1, h2⟩, h3⟩ := h
  exact ⟨ne, ⟨xs, by rw [List.getElem?_set_ne (by omega)]; exact h1, h2⟩, by rw [List.getElem?_set_ne (by omega)]; exact h3⟩
theorem Dk.push {S : Sto} {n : Int} {l : List MO} (h : Dk S 0 1 n) : Dk (S ++ l) 0 1 n := by
  obtain ⟨ne, ⟨xs, h1, h2⟩, h3⟩ := h
  exact ⟨ne, ⟨xs, by rw [List.getElem?_append_left (List.getElem?_eq_some_iff.mp h1).1]; exact h1, h2⟩, by rw [List.getElem?_append_left (List.getElem?_eq_some_iff.mp h3).1]; exact h3⟩
theorem Dk.len {S : Sto} {n : Int} (h : Dk S 0 1 n) : 2 ≤ S.length := (List.getElem?_eq_some_iff.mp h.at_).1
theorem drwG {T : List Fn} {G : Ev} {wf k f : Nat} {p q t u : Int} (hT : T[f]? = some ⟨2, 5, drawB p q t u⟩) (hp : 0 < p ∧ p < 1000000000000 ∧ 0 < q ∧ q < 1000000 ∧ 0 ≤ t ∧ t < 1000000 ∧ 0 < u) {S : Sto} {n : Int} {m : Nat} (h : Dk S 0 1 n) (hn : 0 ≤ n) (hn2 : n < 1000000) (hm : 0 < m) (hm2 : m < 1000000) :
    ∃ (r : Nat) (S' : Sto), run T G wf (k + 1) f [.loc 1, .int m] S = .ok (.int r) S' ∧ r < m ∧ Dk S' 0 1 (n + 1) ∧ ∀ X, Kp S S' X := by
  obtain ⟨p1, p2, p3, p4, p5, p6, p7⟩ := hp
  obtain ⟨r, S', h1, h2, h3, h4, h5⟩ := draw_ok (G := G) (C := run T G wf k) (wf := wf) (m := m) h hn (by omega) (by omega) (by omega) p1 p2 p3 p4 p5 p6 p7
  refine ⟨r.toNat, S', ?_, by omega, h4, fun X => ⟨Nat.le_of_eq h5.len.symm, fun c c1 c2 _ => h5.oth c (by omega) (by omega)⟩⟩
  rw [show ((r.toNat : Nat) : Int) = r by omega]
  exact (run_succ hT rfl).trans h1
def oneB (f : Nat) : Ss := (.cons (.ret (.ix (.v 1) (.call f (.cons (.v 0) (.cons (.bf .len (.cons (.v 1) .nil)) .nil))))) .nil)
theorem oneG {T : List Fn} {G : Ev} {wf k f f1 : Nat} {p q t u : Int} (hT : T[f]? = some ⟨2, 5, drawB p q t u⟩) (hT1 : T[f1]? = some ⟨2, 2, oneB f⟩) (hp : 0 < p ∧ p < 1000000000000 ∧ 0 < q ∧ q < 1000000 ∧ 0 ≤ t ∧ t < 1000000 ∧ 0 < u) {S : Sto} {n : Int} {xs : List D} (h : Dk S 0 1 n) (hn : 0 ≤ n) (hn2 : n < 1000000) (hm : 0 < xs.length) (hm2 : xs.length < 1000000) :
    ∃ (d : D) (S' : Sto), run T G wf (k + 2) f1 [.loc 1, .lst xs] S = .ok d S' ∧ d ∈ xs ∧ Dk S' 0 1 (n + 1) ∧ ∀ X, Kp S S' X := by
  obtain ⟨r, S', h1, h2, h3, h4⟩ := drwG (wf := wf) (k := k) (G := G) hT hp h hn hn2 hm hm2
  refine ⟨xs[r], S', (run_succ hT1 rfl).trans ?_, List.getElem_mem h2, h3, h4⟩
  have ln : lenD S (.lst xs) = some (.int xs.length) := rfl
  have ix : ixP S' (.lst xs) (.int r) = some xs[r] := by
    show L2.atI xs (r : Int) = _
    rw [atI_in (by omega) (by omega)]
    exact List.getElem?_eq_getElem h2
  simp [oneB, slots0, fnEnd, ln, h1, ix]
/-- items in the store -/
theorem oneL {T : List Fn} {G : Ev} {wf k f f1 : Nat} {p q t u : Int} (hT : T[f]? = some ⟨2, 5, drawB p q t u⟩) (hT1 : T[f1]? = some ⟨2, 2, oneB f⟩) (hp : 0 < p ∧ p < 1000000000000 ∧ 0 < q ∧ q < 1000000 ∧ 0 ≤ t ∧ t < 1000000 ∧ 0 < u) {S : Sto} {n : Int} {c : Nat} {xs : List D} (h : Dk S 0 1 n) (hn : 0 ≤ n) (hn2 : n < 1000000) (hc : S[c]? = some (.lst xs)) (hc2 : 2 ≤ c) (hm : 0 < xs.length) (hm2 : xs.length < 1000000) :
    ∃ (d : D) (S' : Sto), run T G wf (k + 2) f1 [.loc 1, .loc c] S = .ok d S' ∧ d ∈ xs ∧ Dk S' 0 1 (n + 1) ∧ ∀ X, Kp S S' X := by
  obtain ⟨r, S', h1, h2, h3, h4⟩ := drwG (wf := wf) (k := k) (G := G) hT hp h hn hn2 hm hm2
  refine ⟨xs[r], S', (run_succ hT1 rfl).trans ?_, List.getElem_mem h2, h3, h4⟩
  have ln : lenD S (.loc c) = some (.int xs.length) := len_loc hc
  have ix : ixP S' (.loc c) (.int r) = some xs[r] := by
    rw [ix_loc ((h4 fun _ => False).at hc hc2 id) (by omega) (by omega)]
    exact List.getElem?_eq_getElem h2
  simp [oneB, slots0, fnEnd, ln, h1, ix]
end Z

/-! program_error, parts: for any law that has these defs. Printed by mkzpe.py. -/
namespace PE
open PySem PySem.Spec PyProof.Rows L2 Z
structure Px where
  is_integer : Nat
  is_tuple : Nat
  is_cell : Nat
  is_sum : Nat
  is_statement : Nat
  is_block : Nat
  are_cells : Nat
  stands_of : Nat
  sum_parts : Nat
  block_parts : Nat
  parts : Nat
  program_error : Nat
  gMAX_NUMBER : Nat
  gMAX_LETTERS : Nat
  gMAX_WORKS : Nat
  gMAX_CELLS : Nat
  gMAX_SIZE : Nat
  gMAX_STANDS : Nat
  gMAX_PARTS : Nat
  gMAX_LEVEL : Nat
  gKNOWN : Nat
  gSECRET : Nat
  gOPERATORS : Nat
def B_is_integer (px : Px) : Ss := (.cons (.ret (.bo .And (.cons (.isi (.v 0) .int) (.cons (.not (.isi (.v 0) .bool)) (.cons (.ch .LtE .LtE (.v 1) (.v 0) (.v 2)) .nil))))) .nil)
def B_is_tuple (px : Px) : Ss := (.cons (.ret (.bo .And (.cons (.isi (.v 0) .tuple) (.cons (.cmp .Eq (.bf .len (.cons (.v 0) .nil)) (.v 2)) (.cons (.isi (.ix (.v 0) (.c (.int 0))) .str) (.cons (.cmp .Eq (.ix (.v 0) (.c (.int 0))) (.v 1)) .nil)))))) .nil)
def B_is_cell (px : Px) : Ss := (.cons (.ret (.call px.is_integer (.cons (.v 0) (.cons (.c (.int 0)) (.cons (.op .Sub (.v 1) (.c (.int 1))) .nil))))) .nil)
def B_is_sum (px : Px) : Ss := (.cons (.ite (.cmp .Gt (.v 2) (.g px.gMAX_LEVEL)) (.cons (.ret (.c (.bl false))) .nil) .nil) (.cons (.ite (.tru (.isi (.v 0) .str)) (.cons (.ret (.cmp .In (.v 0) (.tup (.cons (.g px.gKNOWN) (.cons (.g px.gSECRET) .nil))))) .nil) .nil) (.cons (.ite (.not (.tru (.isi (.v 0) .tuple))) (.cons (.ret (.call px.is_integer (.cons (.v 0) (.cons (.c (.int 0)) (.cons (.g px.gMAX_NUMBER) .nil))))) .nil) .nil) (.cons (.ite (.tru (.call px.is_tuple (.cons (.v 0) (.cons (.c (.str "cell")) (.cons (.c (.int 2)) .nil))))) (.cons (.ret (.call px.is_cell (.cons (.ix (.v 0) (.c (.int 1))) (.cons (.v 1) .nil)))) .nil) .nil) (.cons (.ite (.bo .Or (.cons (.cmp .NotEq (.bf .len (.cons (.v 0) .nil)) (.c (.int 3))) (.cons (.not (.tru (.isi (.ix (.v 0) (.c (.int 0))) .str))) (.cons (.cmp .NotIn (.ix (.v 0) (.c (.int 0))) (.g px.gOPERATORS)) .nil)))) (.cons (.ret (.c (.bl false))) .nil) .nil) (.cons (.ret (.bo .And (.cons (.call px.is_sum (.cons (.ix (.v 0) (.c (.int 1))) (.cons (.v 1) (.cons (.op .Add (.v 2) (.c (.int 1))) .nil)))) (.cons (.call px.is_sum (.cons (.ix (.v 0) (.c (.int 2))) (.cons (.v 1) (.cons (.op .Add (.v 2) (.c (.int 1))) .nil)))) .nil)))) .nil))))))
def B_is_statement (px : Px) : Ss := (.cons (.ite (.cmp .Gt (.v 3) (.g px.gMAX_LEVEL)) (.cons (.ret (.c (.bl false))) .nil) .nil) (.cons (.ite (.tru (.call px.is_tuple (.cons (.v 0) (.cons (.c (.str "do")) (.cons (.c (.int 2)) .nil))))) (.cons (.ret (.call px.is_integer (.cons (.ix (.v 0) (.c (.int 1))) (.cons (.c (.int 0)) (.cons (.op .Sub (.v 1) (.c (.int 1))) .nil))))) .nil) .nil) (.cons (.ite (.tru (.call px.is_tuple (.cons (.v 0) (.cons (.c (.str "set")) (.cons (.c (.int 3)) .nil))))) (.cons (.ret (.bo .And (.cons (.call px.is_cell (.cons (.ix (.v 0) (.c (.int 1))) (.cons (.v 2) .nil))) (.cons (.call px.is_sum (.cons (.ix (.v 0) (.c (.int 2))) (.cons (.v 2) (.cons (.op .Add (.v 3) (.c (.int 1))) .nil)))) .nil)))) .nil) .nil) (.cons (.ite (.tru (.call px.is_tuple (.cons (.v 0) (.cons (.c (.str "if")) (.cons (.c (.int 4)) .nil))))) (.cons (.ite (.not (.tru (.call px.is_sum (.cons (.ix (.v 0) (.c (.int 1))) (.cons (.v 2) (.cons (.op .Add (.v 3) (.c (.int 1))) .nil)))))) (.cons (.ret (.c (.bl false))) .nil) .nil) (.cons (.ret (.bo .And (.cons (.call px.is_block (.cons (.ix (.v 0) (.c (.int 2))) (.cons (.v 1) (.cons (.v 2) (.cons (.op .Add (.v 3) (.c (.int 1))) .nil))))) (.cons (.call px.is_block (.cons (.ix (.v 0) (.c (.int 3))) (.cons (.v 1) (.cons (.v 2) (.cons (.op .Add (.v 3) (.c (.int 1))) .nil))))) .nil)))) .nil)) .nil) (.cons (.ret (.call px.is_tuple (.cons (.v 0) (.cons (.c (.str "stop")) (.cons (.c (.int 1)) .nil))))) .nil)))))
def B_is_block (px : Px) : Ss := (.cons (.ite (.not (.tru (.isi (.v 0) .tuple))) (.cons (.ret (.c (.bl false))) .nil) .nil) (.cons (.ret (.cmp .Eq (.lc false (.nm 4) (.seq (.v 0)) (.some (.not (.tru (.call px.is_statement (.cons (.v 4) (.cons (.v 1) (.cons (.v 2) (.cons (.v 3) .nil)))))))) (.v 4) [("one", 4)]) (.lst false .nil))) .nil))
def B_are_cells (px : Px) : Ss := (.cons (.ite (.bo .Or (.cons (.not (.tru (.isi (.v 0) .tuple))) (.cons (.not (.ch .LtE .LtE (.c (.int 1)) (.bf .len (.cons (.v 0) .nil)) (.g px.gMAX_CELLS))) .nil))) (.cons (.ret (.c (.bl false))) .nil) .nil) (.cons (.ite (.cmp .NotEq (.lc false (.nm 1) (.seq (.v 0)) (.some (.not (.tru (.call px.is_integer (.cons (.v 1) (.cons (.c (.int 2)) (.cons (.g px.gMAX_SIZE) .nil))))))) (.v 1) [("size", 1)]) (.lst false .nil)) (.cons (.ret (.c (.bl false))) .nil) .nil) (.cons (.ret (.cmp .LtE (.call px.stands_of (.cons (.v 0) .nil)) (.g px.gMAX_STANDS))) .nil)))
def B_stands_of (px : Px) : Ss := (.cons (.asg (.nm 1) (.c (.int 1))) (.cons (.for_ (.nm 2) (.seq (.v 0)) (.cons (.aug 1 .Mult (.v 2)) .nil)) (.cons (.ret (.v 1)) .nil)))
def B_sum_parts (px : Px) : Ss := (.cons (.ite (.bo .And (.cons (.tru (.isi (.v 0) .tuple)) (.cons (.cmp .Eq (.bf .len (.cons (.v 0) .nil)) (.c (.int 3))) .nil))) (.cons (.ret (.op .Add (.op .Add (.c (.int 1)) (.call px.sum_parts (.cons (.ix (.v 0) (.c (.int 1))) .nil))) (.call px.sum_parts (.cons (.ix (.v 0) (.c (.int 2))) .nil)))) .nil) .nil) (.cons (.ret (.c (.int 1))) .nil))
def B_block_parts (px : Px) : Ss := (.cons (.asg (.nm 1) (.c (.int 0))) (.cons (.for_ (.nm 2) (.seq (.v 0)) (.cons (.aug 1 .Add (.c (.int 1))) (.cons (.ite (.cmp .Eq (.ix (.v 2) (.c (.int 0))) (.c (.str "set"))) (.cons (.aug 1 .Add (.call px.sum_parts (.cons (.ix (.v 2) (.c (.int 2))) .nil))) .nil) (.cons (.ite (.cmp .Eq (.ix (.v 2) (.c (.int 0))) (.c (.str "if"))) (.cons (.aug 1 .Add (.op .Add (.op .Add (.call px.sum_parts (.cons (.ix (.v 2) (.c (.int 1))) .nil)) (.call px.block_parts (.cons (.ix (.v 2) (.c (.int 2))) .nil))) (.call px.block_parts (.cons (.ix (.v 2) (.c (.int 3))) .nil)))) .nil) .nil) .nil)) .nil))) (.cons (.ret (.v 1)) .nil)))
def B_parts (px : Px) : Ss := (.cons (.ret (.op .Add (.call px.block_parts (.cons (.ix (.v 0) (.c (.int 4))) .nil)) (.call px.block_parts (.cons (.ix (.v 0) (.c (.int 5))) .nil)))) .nil)
def B_program_error (px : Px) : Ss := (.cons (.ite (.bo .Or (.cons (.not (.tru (.isi (.v 0) .tuple))) (.cons (.cmp .NotEq (.bf .len (.cons (.v 0) .nil)) (.c (.int 6))) .nil))) (.cons (.ret (.c (.str "program"))) .nil) .nil) (.cons (.asg (.tup (.cons (.nm 1) (.cons (.nm 2) (.cons (.nm 3) (.cons (.nm 4) (.cons (.nm 5) (.cons (.nm 6) .nil))))))) (.v 0)) (.cons (.ite (.bo .Or (.cons (.not (.tru (.call px.is_integer (.cons (.v 1) (.cons (.c (.int 1)) (.cons (.g px.gMAX_LETTERS) .nil)))))) (.cons (.not (.tru (.call px.is_integer (.cons (.v 2) (.cons (.c (.int 1)) (.cons (.g px.gMAX_LETTERS) .nil)))))) .nil))) (.cons (.ret (.c (.str "letters"))) .nil) .nil) (.cons (.ite (.not (.tru (.call px.is_integer (.cons (.v 3) (.cons (.c (.int 1)) (.cons (.g px.gMAX_WORKS) .nil)))))) (.cons (.ret (.c (.str "works"))) .nil) .nil) (.cons (.ite (.not (.tru (.call px.are_cells (.cons (.v 4) .nil)))) (.cons (.ret (.c (.str "cells"))) .nil) .nil) (.cons (.ite (.not (.tru (.call px.is_block (.cons (.v 5) (.cons (.v 3) (.cons (.bf .len (.cons (.v 4) .nil)) (.cons (.c (.int 1)) .nil))))))) (.cons (.ret (.c (.str "body"))) .nil) .nil) (.cons (.ite (.not (.tru (.call px.is_block (.cons (.v 6) (.cons (.v 3) (.cons (.bf .len (.cons (.v 4) .nil)) (.cons (.c (.int 1)) .nil))))))) (.cons (.ret (.c (.str "tail"))) .nil) .nil) (.cons (.ret (.ifx (.cmp .Gt (.call px.parts (.cons (.v 0) .nil)) (.g px.gMAX_PARTS)) (.c (.str "parts")) (.c .non))) .nil))))))))
structure ProgA (T : List Fn) (G : Ev) (px : Px) : Prop where
  is_integer : T[px.is_integer]? = some ⟨3, 3, B_is_integer px⟩
  is_tuple : T[px.is_tuple]? = some ⟨3, 3, B_is_tuple px⟩
  is_cell : T[px.is_cell]? = some ⟨2, 2, B_is_cell px⟩
  is_sum : T[px.is_sum]? = some ⟨3, 3, B_is_sum px⟩
  is_statement : T[px.is_statement]? = some ⟨4, 4, B_is_statement px⟩
  is_block : T[px.is_block]? = some ⟨4, 5, B_is_block px⟩
  are_cells : T[px.are_cells]? = some ⟨1, 2, B_are_cells px⟩
  stands_of : T[px.stands_of]? = some ⟨1, 3, B_stands_of px⟩
  sum_parts : T[px.sum_parts]? = some ⟨1, 1, B_sum_parts px⟩
  block_parts : T[px.block_parts]? = some ⟨1, 3, B_block_parts px⟩
  parts : T[px.parts]? = some ⟨1, 1, B_parts px⟩
  program_error : T[px.program_error]? = some ⟨1, 7, B_program_error px⟩
  g0 : G.g[px.gMAX_NUMBER]? = some (.int 9)
  g1 : G.g[px.gMAX_LETTERS]? = some (.int 3)
  g2 : G.g[px.gMAX_WORKS]? = some (.int 5)
  g3 : G.g[px.gMAX_CELLS]? = some (.int 4)
  g4 : G.g[px.gMAX_SIZE]? = some (.int 4)
  g5 : G.g[px.gMAX_STANDS]? = some (.int 24)
  g6 : G.g[px.gMAX_PARTS]? = some (.int 400)
  g7 : G.g[px.gMAX_LEVEL]? = some (.int 12)
  g8 : G.g[px.gKNOWN]? = some (.str "known")
  g9 : G.g[px.gSECRET]? = some (.str "secret")
  g10 : G.g[px.gOPERATORS]? = some (.tup [.str "plus", .str "times", .str "less", .str "same"])
def pe0 (px : Px) : S1 := (.ite (.bo .Or (.cons (.not (.tru (.isi (.v 0) .tuple))) (.cons (.cmp .NotEq (.bf .len (.cons (.v 0) .nil)) (.c (.int 6))) .nil))) (.cons (.ret (.c (.str "program"))) .nil) .nil)
def pe1 (px : Px) : S1 := (.asg (.tup (.cons (.nm 1) (.cons (.nm 2) (.cons (.nm 3) (.cons (.nm 4) (.cons (.nm 5) (.cons (.nm 6) .nil))))))) (.v 0))
def pe2 (px : Px) : S1 := (.ite (.bo .Or (.cons (.not (.tru (.call px.is_integer (.cons (.v 1) (.cons (.c (.int 1)) (.cons (.g px.gMAX_LETTERS) .nil)))))) (.cons (.not (.tru (.call px.is_integer (.cons (.v 2) (.cons (.c (.int 1)) (.cons (.g px.gMAX_LETTERS) .nil)))))) .nil))) (.cons (.ret (.c (.str "letters"))) .nil) .nil)
def pe3 (px : Px) : S1 := (.ite (.not (.tru (.call px.is_integer (.cons (.v 3) (.cons (.c (.int 1)) (.cons (.g px.gMAX_WORKS) .nil)))))) (.cons (.ret (.c (.str "works"))) .nil) .nil)
def pe4 (px : Px) : S1 := (.ite (.not (.tru (.call px.are_cells (.cons (.v 4) .nil)))) (.cons (.ret (.c (.str "cells"))) .nil) .nil)
def pe5 (px : Px) : S1 := (.ite (.not (.tru (.call px.is_block (.cons (.v 5) (.cons (.v 3) (.cons (.bf .len (.cons (.v 4) .nil)) (.cons (.c (.int 1)) .nil))))))) (.cons (.ret (.c (.str "body"))) .nil) .nil)
def pe6 (px : Px) : S1 := (.ite (.not (.tru (.call px.is_block (.cons (.v 6) (.cons (.v 3) (.cons (.bf .len (.cons (.v 4) .nil)) (.cons (.c (.int 1)) .nil))))))) (.cons (.ret (.c (.str "tail"))) .nil) .nil)
def pe7 (px : Px) : S1 := (.ret (.ifx (.cmp .Gt (.call px.parts (.cons (.v 0) .nil)) (.g px.gMAX_PARTS)) (.c (.str "parts")) (.c .non)))
theorem pe_is (px : Px) : B_program_error px = (.cons (pe0 px) (.cons (pe1 px) (.cons (pe2 px) (.cons (pe3 px) (.cons (pe4 px) (.cons (pe5 px) (.cons (pe6 px) (.cons (pe7 px) .nil)))))))) := rfl
def ac0 (px : Px) : S1 := (.ite (.bo .Or (.cons (.not (.tru (.isi (.v 0) .tuple))) (.cons (.not (.ch .LtE .LtE (.c (.int 1)) (.bf .len (.cons (.v 0) .nil)) (.g px.gMAX_CELLS))) .nil))) (.cons (.ret (.c (.bl false))) .nil) .nil)
def ac1 (px : Px) : S1 := (.ite (.cmp .NotEq (.lc false (.nm 1) (.seq (.v 0)) (.some (.not (.tru (.call px.is_integer (.cons (.v 1) (.cons (.c (.int 2)) (.cons (.g px.gMAX_SIZE) .nil))))))) (.v 1) [("size", 1)]) (.lst false .nil)) (.cons (.ret (.c (.bl false))) .nil) .nil)
def ac2 (px : Px) : S1 := (.ret (.cmp .LtE (.call px.stands_of (.cons (.v 0) .nil)) (.g px.gMAX_STANDS)))
theorem ac_is (px : Px) : B_are_cells px = (.cons (ac0 px) (.cons (ac1 px) (.cons (ac2 px) .nil))) := rfl
/-- a datum whose type can be told -/
def Nt (S : Sto) : D → Prop
  | .loc n => ∃ kvs, S[n]? = some (.dic kvs)
  | _ => True
theorem isi_loc {S : Sto} {n : Nat} {t : Ty} (h : Nt S (.loc n)) : isiD S (.loc n) t = some false := by
  obtain ⟨kvs, h⟩ := h
  simp [isiD, h]
def isInt (lo hi : Int) : D → Bool
  | .int i => decide (lo ≤ i) && decide (i ≤ hi)
  | _ => false
def isTup (w : Str) (n : Nat) : D → Bool
  | .tup (.str h :: t) => decide (t.length + 1 = n) && decide (h = w)
  | _ => false
@[simp] theorem isi_non {S : Sto} {t : Ty} : isiD S .non t = some false := rfl
@[simp] theorem isi_int {S : Sto} {i : Int} {t : Ty} : isiD S (.int i) t = some (match t with | .int => true | _ => false) := rfl
@[simp] theorem isi_bl {S : Sto} {b : Bool} {t : Ty} : isiD S (.bl b) t = some (match t with | .bool => true | .int => true | _ => false) := rfl
@[simp] theorem isi_str {S : Sto} {x : Str} {t : Ty} : isiD S (.str x) t = some (match t with | .str => true | _ => false) := rfl
@[simp] theorem isi_tup {S : Sto} {xs : List D} {t : Ty} : isiD S (.tup xs) t = some (match t with | .tuple => true | _ => false) := rfl
@[simp] theorem isi_lst {S : Sto} {xs : List D} {t : Ty} : isiD S (.lst xs) t = some (match t with | .list => true | _ => false) := rfl
@[simp] theorem isi_fro {S : Sto} {xs : List D} {t : Ty} : isiD S (.fro xs) t = some (match t with | .list => true | _ => false) := rfl
@[simp] theorem truB {S : Sto} {b : Bool} : truP S (.bl b) = some b := rfl
@[simp] theorem eqI {S : Sto} {i j : Int} : eqD S (.int i) (.int j) = some (.bl (decide (i = j))) := rfl
@[simp] theorem neI {S : Sto} {i j : Int} : neD S (.int i) (.int j) = some (.bl (!decide (i = j))) := rfl
@[simp] theorem eqSt {S : Sto} {i j : Str} : eqD S (.str i) (.str j) = some (.bl (decide (i = j))) := rfl
@[simp] theorem neSt {S : Sto} {i j : Str} : neD S (.str i) (.str j) = some (.bl (!decide (i = j))) := rfl
@[simp] theorem lenT {S : Sto} {xs : List D} : lenD S (.tup xs) = some (.int xs.length) := rfl
theorem eqT0 {S : Sto} {xs : List D} : eqD S (.tup xs) (.tup []) = some (.bl xs.isEmpty) := by
  cases xs <;> rfl
theorem neT0 {S : Sto} {xs : List D} : neD S (.tup xs) (.tup []) = some (.bl (!xs.isEmpty)) := by
  cases xs <;> rfl
theorem ixT {S : Sto} {xs : List D} {i : Nat} {d : D} (h : xs[i]? = some d) : ixP S (.tup xs) (.int i) = some d := by
  have hl := (List.getElem?_eq_some_iff.mp h).1
  show L2.atI xs (i : Int) = _
  rw [atI_in (by omega) (by omega)]
  simpa using h
theorem ix0 {S : Sto} {x : D} {xs : List D} : ixP S (.tup (x :: xs)) (.int 0) = some x := ixT (i := 0) rfl
theorem ix1 {S : Sto} {x y : D} {xs : List D} : ixP S (.tup (x :: y :: xs)) (.int 1) = some y := ixT (i := 1) rfl
theorem ix2 {S : Sto} {x y z : D} {xs : List D} : ixP S (.tup (x :: y :: z :: xs)) (.int 2) = some z := ixT (i := 2) rfl
theorem ix3 {S : Sto} {x y z u : D} {xs : List D} : ixP S (.tup (x :: y :: z :: u :: xs)) (.int 3) = some u := ixT (i := 3) rfl

theorem int_ok {T : List Fn} {G : Ev} {wf : Nat} {px : Px} (F : ProgA T G px) {k : Nat} {S : Sto} {d : D} {lo hi : Int} (h : Nt S d) : run T G wf (k + 1) px.is_integer [d, .int lo, .int hi] S = .ok (.bl (isInt lo hi d)) S := by
  rw [run_succ (fn := ⟨3, 3, B_is_integer px⟩) F.is_integer rfl]
  cases d with
  | loc n => simp [B_is_integer, slots0, isi_loc h, fnEnd, isInt]
  | int i =>
    by_cases z : lo ≤ i <;> simp [B_is_integer, slots0, fnEnd, isInt, z]
  | _ => simp [B_is_integer, slots0, fnEnd, isInt]
theorem cell_ok {T : List Fn} {G : Ev} {wf : Nat} {px : Px} (F : ProgA T G px) {k : Nat} {S : Sto} {d : D} {w : Int} (h : Nt S d) : run T G wf (k + 2) px.is_cell [d, .int w] S = .ok (.bl (isInt 0 (w - 1) d)) S := by
  rw [run_succ (fn := ⟨2, 2, B_is_cell px⟩) F.is_cell rfl]
  have e := int_ok (wf := wf) F (k := k) (lo := 0) (hi := w - 1) h
  simp [B_is_cell, slots0, fnEnd, e]
theorem tup_ok {T : List Fn} {G : Ev} {wf : Nat} {px : Px} (F : ProgA T G px) {k : Nat} {S : Sto} {d : D} {w : Str} {n : Nat} (hn : 0 < n) (h : Nt S d) (hi : ∀ x xs, d = .tup (x :: xs) → Nt S x) : run T G wf (k + 1) px.is_tuple [d, .str w, .int n] S = .ok (.bl (isTup w n d)) S := by
  rw [run_succ (fn := ⟨3, 3, B_is_tuple px⟩) F.is_tuple rfl]
  cases d with
  | loc m => simp [B_is_tuple, slots0, isi_loc h, fnEnd, isTup]
  | tup xs =>
    cases xs with
    | nil =>
      have z : ¬ ((0 : Int) = n) := by omega
      simp [B_is_tuple, slots0, fnEnd, isTup, z]
    | cons x xs =>
      have hx := hi x xs rfl
      by_cases z : ((xs.length : Int) + 1 = n)
      · have z' : xs.length + 1 = n := by omega
        cases x with
        | loc m => simp [B_is_tuple, slots0, fnEnd, isTup, z, ix0, isi_loc hx]
        | str s => simp [B_is_tuple, slots0, fnEnd, isTup, z, z', ix0]
        | _ => simp [B_is_tuple, slots0, fnEnd, isTup, z, ix0]
      · have z' : ¬ (xs.length + 1 = n) := by omega
        cases x <;> simp [B_is_tuple, slots0, fnEnd, isTup, z, z']
  | _ => simp [B_is_tuple, slots0, fnEnd, isTup]
mutual
def okD (S : Sto) (B : Nat) : D → Bool
  | .tup xs => decide (xs.length ≤ B) && okDs S B xs
  | .loc n => (match S[n]? with | some (.dic _) => true | _ => false)
  | .fro _ => false
  | _ => true
def okDs (S : Sto) (B : Nat) : List D → Bool
  | [] => true
  | x :: xs => okD S B x && okDs S B xs
end
theorem okD_nt {S : Sto} {B : Nat} {d : D} (h : okD S B d = true) : Nt S d := by
  cases d with
  | loc n =>
    unfold okD at h
    split at h
    · rename_i kvs e; exact ⟨kvs, e⟩
    · cases h
  | _ => trivial
theorem okDs_mem {S : Sto} {B : Nat} : ∀ {xs : List D}, okDs S B xs = true → ∀ d ∈ xs, okD S B d = true
  | x :: xs, h, d, hd => by
    unfold okDs at h
    rw [Bool.and_eq_true] at h
    rcases List.mem_cons.mp hd with rfl | hd
    · exact h.1
    · exact okDs_mem h.2 d hd
theorem okDs_of {S : Sto} {B : Nat} : ∀ {xs : List D}, (∀ d ∈ xs, okD S B d = true) → okDs S B xs = true
  | [], _ => by unfold okDs; rfl
  | x :: xs, h => by unfold okDs; rw [h x (by simp), okDs_of fun d hd => h d (by simp [hd])]; rfl
theorem okD_tup {S : Sto} {B : Nat} {xs : List D} : okD S B (.tup xs) = true ↔ xs.length ≤ B ∧ ∀ d ∈ xs, okD S B d = true := by
  constructor
  · intro h
    unfold okD at h
    rw [Bool.and_eq_true] at h
    exact ⟨of_decide_eq_true h.1, okDs_mem h.2⟩
  · rintro ⟨h1, h2⟩
    unfold okD
    rw [okDs_of h2, decide_eq_true h1]; rfl
def isOp (h : Str) : Bool := decide (h = "plus") || (decide (h = "times") || (decide (h = "less") || decide (h = "same")))
def okS : Nat → Int → D → Bool
  | 0, _, _ => false
  | n + 1, w, d => match d with
    | .str s => decide (s = "known") || decide (s = "secret")
    | .tup xs => if isTup "cell" 2 d then (match xs with | [_, y] => isInt 0 (w - 1) y | _ => false) else (match xs with | [.str h, y, z] => isOp h && (okS n w y && okS n w z) | _ => false)
    | d => isInt 0 9 d
theorem beqS {a s : Str} : (a == s) = decide (s = a) := by
  by_cases h : s = a
  · subst h; simp
  · rw [decide_eq_false h]; exact beq_eq_false_iff_ne.mpr (Ne.symm h)
theorem in_ks {S : Sto} {s : Str} : inD S (.str s) (.tup [.str "known", .str "secret"]) = some (.bl (decide (s = "known") || decide (s = "secret"))) := by
  simp [inD, inP, asQ, flatD, eqF, beqS]
theorem in_op {S : Sto} {s : Str} : notInD S (.str s) (.tup [.str "plus", .str "times", .str "less", .str "same"]) = some (.bl (!isOp s)) := by
  simp [notInD, inP, asQ, flatD, eqF, isOp, beqS]
theorem isi_of {S : Sto} {B : Nat} {x : D} {xs : List D} (h : okD S B (.tup xs) = true) (hx : x ∈ xs) : Nt S x := okD_nt ((okD_tup.mp h).2 x hx)
@[simp] theorem isTup_nil {w : Str} {n : Nat} : isTup w n (.tup []) = false := rfl
@[simp] theorem isTup_str {w h : Str} {n : Nat} {t : List D} : isTup w n (.tup (.str h :: t)) = (decide (t.length + 1 = n) && decide (h = w)) := rfl
theorem sum_ok {T : List Fn} {G : Ev} {wf : Nat} {px : Px} (F : ProgA T G px) {B : Nat} {w : Int} {S : Sto} : ∀ (n k : Nat) (d : D) (lv : Int), okD S B d = true → lv + n = 13 → run T G wf (k + n + 3) px.is_sum [d, .int w, .int lv] S = .ok (.bl (okS n w d)) S
  | 0, k, d, lv, h, hl => by
    rw [run_succ (fn := ⟨3, 3, B_is_sum px⟩) F.is_sum rfl]
    have z : (12 : Int) < lv := by omega
    simp [B_is_sum, slots0, F.g7, z, fnEnd, okS]
  | n + 1, k, d, lv, h, hl => by
    rw [show k + (n + 1) + 3 = (k + n + 3) + 1 by omega, run_succ (fn := ⟨3, 3, B_is_sum px⟩) F.is_sum rfl]
    have z : ¬ (12 : Int) < lv := by omega
    have ei : run T G wf (k + n + 3) px.is_integer [d, .int 0, .int 9] S = .ok (.bl (isInt 0 9 d)) S := int_ok (wf := wf) F (okD_nt h)
    have et : run T G wf (k + n + 3) px.is_tuple [d, .str "cell", .int 2] S = .ok (.bl (isTup "cell" 2 d)) S := tup_ok (wf := wf) F (n := 2) (by decide) (okD_nt h) (fun x xs e => by subst e; exact isi_of h (by simp))
    cases d with
    | loc m => simp [B_is_sum, slots0, F.g7, F.g8, F.g9, F.g0, z, fnEnd, okS, isi_loc (okD_nt h), ei]
    | str s => simp [B_is_sum, slots0, F.g7, F.g8, F.g9, F.g0, z, fnEnd, okS, in_ks]
    | tup xs =>
      match xs, h, et with
      | [], h, et => simp [B_is_sum, slots0, F.g7, F.g8, F.g9, F.g0, z, fnEnd, okS, et]
      | [x], h, et =>
        cases x <;> simp [B_is_sum, slots0, F.g7, F.g8, F.g9, F.g0, z, fnEnd, okS, et, isTup]
      | [x, y], h, et =>
        have ec : run T G wf (k + n + 3) px.is_cell [y, .int w] S = .ok (.bl (isInt 0 (w - 1) y)) S := cell_ok (wf := wf) F (isi_of h (x := y) (by simp))
        cases x with
        | str s =>
          by_cases zs : s = "cell"
          · subst zs
            simp [B_is_sum, slots0, F.g7, F.g8, F.g9, F.g0, z, fnEnd, okS, et, isTup, ix1, ec]
          · simp [B_is_sum, slots0, F.g7, F.g8, F.g9, F.g0, z, fnEnd, okS, et, isTup, zs]
        | _ => simp [B_is_sum, slots0, F.g7, F.g8, F.g9, F.g0, z, fnEnd, okS, et, isTup]
      | [x, y, u], h, et =>
        have h1 := sum_ok (wf := wf) F (w := w) n k y (lv + 1) ((okD_tup.mp h).2 y (by simp)) (by omega)
        have h2 := sum_ok (wf := wf) F (w := w) n k u (lv + 1) ((okD_tup.mp h).2 u (by simp)) (by omega)
        cases x with
        | str s =>
          have ez : isTup "cell" 2 (.tup [.str s, y, u]) = false := by simp [isTup]
          rw [ez] at et
          cases zs : isOp s with
          | true => cases zo : okS n w y <;> simp [B_is_sum, slots0, F.g7, F.g8, F.g9, F.g0, F.g10, z, fnEnd, okS, et, ez, ix0, ix1, ix2, in_op, zs, h1, h2, zo]
          | false => simp [B_is_sum, slots0, F.g7, F.g8, F.g9, F.g0, F.g10, z, fnEnd, okS, et, ez, ix0, in_op, zs]
        | loc m =>
          have := isi_of h (x := .loc m) (by simp)
          simp [B_is_sum, slots0, F.g7, F.g8, F.g9, F.g0, z, fnEnd, okS, et, isTup, ix0, isi_loc this]
        | _ => simp [B_is_sum, slots0, F.g7, F.g8, F.g9, F.g0, z, fnEnd, okS, et, isTup, ix0]
      | x :: y :: u :: v :: t, h, et =>
        have zl : ¬ ((t.length : Int) + 1 + 1 + 1 + 1 = 3) := by omega
        have ez : isTup "cell" 2 (.tup (x :: y :: u :: v :: t)) = false := by cases x <;> simp [isTup]
        rw [ez] at et
        simp [B_is_sum, slots0, F.g7, F.g8, F.g9, F.g0, z, fnEnd, okS, et, ez, zl]
    | _ => simp [B_is_sum, slots0, F.g7, F.g8, F.g9, F.g0, z, fnEnd, okS, ei]
def okBk (f : D → Bool) : D → Bool
  | .tup ds => ds.all f
  | _ => false
def okSt : Nat → Int → Int → D → Bool
  | 0, _, _, _ => false
  | n + 1, p, w, d => if isTup "do" 2 d then (match d with | .tup [_, y] => isInt 0 (p - 1) y | _ => false)
    else if isTup "set" 3 d then (match d with | .tup [_, y, z] => isInt 0 (w - 1) y && okS n w z | _ => false)
    else if isTup "if" 4 d then (match d with | .tup [_, x, y, z] => okS n w x && (okBk (okSt n p w) y && okBk (okSt n p w) z) | _ => false)
    else isTup "stop" 1 d
theorem eqL0 {S : Sto} {xs : List D} : eqD S (.lst xs) (.lst []) = some (.bl xs.isEmpty) := by
  cases xs <;> rfl
theorem neL0 {S : Sto} {xs : List D} : neD S (.lst xs) (.lst []) = some (.bl (!xs.isEmpty)) := by
  cases xs <;> rfl
theorem filt_all {α : Type} {f : α → Bool} : ∀ {xs : List α}, (xs.filter fun x => !f x).isEmpty = xs.all f
  | [] => rfl
  | x :: xs => by
    rw [List.filter_cons, List.all_cons]
    cases f x with
    | true => simpa using filt_all (f := f) (xs := xs)
    | false => rfl
theorem blk_ok {T : List Fn} {G : Ev} {wf : Nat} {px : Px} (F : ProgA T G px) {B k : Nat} {p w lv : Int} {S : Sto} {f : D → Bool} (d : D) (h : okD S B d = true) (hB : B ≤ 1000000) (ih : ∀ x, okD S B x = true → run T G wf k px.is_statement [x, .int p, .int w, .int lv] S = .ok (.bl (f x)) S) : run T G wf (k + 1) px.is_block [d, .int p, .int w, .int lv] S = .ok (.bl (okBk f d)) S := by
  rw [run_succ (fn := ⟨4, 5, B_is_block px⟩) F.is_block rfl]
  cases d with
  | loc m => simp [B_is_block, slots0, fnEnd, isi_loc (okD_nt h), okBk]
  | tup ds =>
    obtain ⟨hl, hd⟩ := okD_tup.mp h
    have e : lcGo (.vals ds) (gNm 4) (dT G (run T G wf k) (.not (.tru (.call px.is_statement (.cons (.v 4) (.cons (.v 1) (.cons (.v 2) (.cons (.v 3) .nil)))))))) (mVar 4) [some (.tup ds), some (.int p), some (.int w), some (.int lv), none] ds.length 0 [] S = .ok (ds.filter fun x => !f x) S := by
      rw [lc_pure (p := fun x => !f x) (h := id) (fun x hx => ⟨[some (.tup ds), some (.int p), some (.int w), some (.int lv), some x], by simp, by
        have := ih x (hd x hx)
        simp [this], fun _ => by simp⟩) _ 0 [] (by simp) (by simp; omega)]
      simp
    have hw : wipeD [some (D.tup ds), some (.int p), some (.int w), some (.int lv), none] [4] = [some (.tup ds), some (.int p), some (.int w), some (.int lv), none] := rfl
    simp only [q_tnot, q_ttru, q_ecall, q_lcons, q_lnil, q_ev] at e
    simp [B_is_block, slots0, fnEnd, srcOf, hw, e, eqL0, okBk, filt_all]
  | _ => simp [B_is_block, slots0, fnEnd, okBk]
theorem st_ok {T : List Fn} {G : Ev} {wf : Nat} {px : Px} (F : ProgA T G px) {B : Nat} {p w : Int} {S : Sto} (hB : B ≤ 1000000) : ∀ (n k : Nat) (d : D) (lv : Int), okD S B d = true → lv + n = 13 → run T G wf (k + 2 * n + 4) px.is_statement [d, .int p, .int w, .int lv] S = .ok (.bl (okSt n p w d)) S
  | 0, k, d, lv, h, hl => by
    rw [run_succ (fn := ⟨4, 4, B_is_statement px⟩) F.is_statement rfl]
    have z : (12 : Int) < lv := by omega
    simp [B_is_statement, slots0, F.g7, z, fnEnd, okSt]
  | n + 1, k, d, lv, h, hl => by
    rw [show k + 2 * (n + 1) + 4 = (k + 2 * n + 5) + 1 by omega, run_succ (fn := ⟨4, 4, B_is_statement px⟩) F.is_statement rfl]
    have z : ¬ (12 : Int) < lv := by omega
    have hx : ∀ x xs, d = .tup (x :: xs) → Nt S x := fun x xs e => by subst e; exact isi_of h (by simp)
    have t1 : run T G wf (k + 2 * n + 5) px.is_tuple [d, .str "do", .int 2] S = .ok (.bl (isTup "do" 2 d)) S := tup_ok (wf := wf) F (n := 2) (by decide) (okD_nt h) hx
    have t2 : run T G wf (k + 2 * n + 5) px.is_tuple [d, .str "set", .int 3] S = .ok (.bl (isTup "set" 3 d)) S := tup_ok (wf := wf) F (n := 3) (by decide) (okD_nt h) hx
    have t3 : run T G wf (k + 2 * n + 5) px.is_tuple [d, .str "if", .int 4] S = .ok (.bl (isTup "if" 4 d)) S := tup_ok (wf := wf) F (n := 4) (by decide) (okD_nt h) hx
    have t4 : run T G wf (k + 2 * n + 5) px.is_tuple [d, .str "stop", .int 1] S = .ok (.bl (isTup "stop" 1 d)) S := tup_ok (wf := wf) F (n := 1) (by decide) (okD_nt h) hx
    cases b1 : isTup "do" 2 d with
    | true =>
      rw [b1] at t1
      unfold okSt
      rw [b1, if_pos rfl]
      unfold isTup at b1
      split at b1
      · rename_i s t
        simp only [Bool.and_eq_true, decide_eq_true_eq] at b1
        obtain ⟨hl2, hs⟩ := b1
        match t, hl2, h, t1 with
        | [y], _, h, t1 =>
          have ei : run T G wf (k + 2 * n + 5) px.is_integer [y, .int 0, .int (p - 1)] S = .ok (.bl (isInt 0 (p - 1) y)) S := int_ok (wf := wf) F (isi_of h (by simp))
          simp [B_is_statement, slots0, fnEnd, F.g7, z, t1, ix1, ei]
      · cases b1
    | false =>
      rw [b1] at t1
      cases b2 : isTup "set" 3 d with
      | true =>
        rw [b2] at t2
        unfold okSt
        rw [b1, b2, if_neg (by decide), if_pos rfl]
        unfold isTup at b2
        split at b2
        · rename_i s t
          simp only [Bool.and_eq_true, decide_eq_true_eq] at b2
          obtain ⟨hl2, hs⟩ := b2
          match t, hl2, h, t1, t2 with
          | [y, u], _, h, t1, t2 =>
            have ec : run T G wf (k + 2 * n + 5) px.is_cell [y, .int w] S = .ok (.bl (isInt 0 (w - 1) y)) S := cell_ok (wf := wf) F (isi_of h (x := y) (by simp))
            have es : run T G wf (k + 2 * n + 5) px.is_sum [u, .int w, .int (lv + 1)] S = .ok (.bl (okS n w u)) S := by
              have := sum_ok (wf := wf) F (w := w) n (k + n + 2) u (lv + 1) ((okD_tup.mp h).2 u (by simp)) (by omega)
              rw [show k + n + 2 + n + 3 = k + 2 * n + 5 by omega] at this
              exact this
            cases zi : isInt 0 (w - 1) y <;> simp [B_is_statement, slots0, fnEnd, F.g7, z, t1, t2, ix1, ix2, ec, es, zi]
        · cases b2
      | false =>
        rw [b2] at t2
        cases b3 : isTup "if" 4 d with
        | true =>
          rw [b3] at t3
          unfold okSt
          rw [b1, b2, b3, if_neg (by decide), if_neg (by decide), if_pos rfl]
          unfold isTup at b3
          split at b3
          · rename_i s t
            simp only [Bool.and_eq_true, decide_eq_true_eq] at b3
            obtain ⟨hl2, hs⟩ := b3
            match t, hl2, h, t1, t2, t3 with
            | [x, y, u], _, h, t1, t2, t3 =>
              have es : run T G wf (k + 2 * n + 5) px.is_sum [x, .int w, .int (lv + 1)] S = .ok (.bl (okS n w x)) S := by
                have := sum_ok (wf := wf) F (w := w) n (k + n + 2) x (lv + 1) ((okD_tup.mp h).2 x (by simp)) (by omega)
                rw [show k + n + 2 + n + 3 = k + 2 * n + 5 by omega] at this
                exact this
              have e1 : run T G wf (k + 2 * n + 5) px.is_block [y, .int p, .int w, .int (lv + 1)] S = .ok (.bl (okBk (okSt n p w) y)) S := blk_ok (wf := wf) F y ((okD_tup.mp h).2 y (by simp)) hB fun x hx => st_ok (wf := wf) F hB n k x (lv + 1) hx (by omega)
              have e2 : run T G wf (k + 2 * n + 5) px.is_block [u, .int p, .int w, .int (lv + 1)] S = .ok (.bl (okBk (okSt n p w) u)) S := blk_ok (wf := wf) F u ((okD_tup.mp h).2 u (by simp)) hB fun x hx => st_ok (wf := wf) F hB n k x (lv + 1) hx (by omega)
              cases zi : okS n w x with
              | false => simp [B_is_statement, slots0, fnEnd, F.g7, z, t1, t2, t3, ix1, es, zi]
              | true => cases zj : okBk (okSt n p w) y <;> simp [B_is_statement, slots0, fnEnd, F.g7, z, t1, t2, t3, ix1, ix2, ix3, es, zi, e1, e2, zj]
          · cases b3
        | false =>
          rw [b3] at t3
          unfold okSt
          rw [b1, b2, b3, if_neg (by decide), if_neg (by decide), if_neg (by decide)]
          simp [B_is_statement, slots0, fnEnd, F.g7, z, t1, t2, t3, t4]
theorem bk_ok {T : List Fn} {G : Ev} {wf : Nat} {px : Px} (F : ProgA T G px) {B : Nat} {p w : Int} {S : Sto} (hB : B ≤ 1000000) (n k : Nat) (d : D) (lv : Int) (h : okD S B d = true) (hl : lv + n = 13) : run T G wf (k + 2 * n + 5) px.is_block [d, .int p, .int w, .int lv] S = .ok (.bl (okBk (okSt n p w) d)) S :=
  blk_ok (wf := wf) F d h hB fun x hx => st_ok (wf := wf) F hB n k x lv hx hl
/-- parts of sums -/
def nS : Nat → D → Nat
  | 0, _ => 1
  | n + 1, d => match d with
    | .tup [_, y, z] => 1 + nS n y + nS n z
    | _ => 1
def nT : Nat → D → Nat
  | 0, _ => 1
  | n + 1, d => match d with
    | .tup [_, _, z] => 1 + nS n z
    | .tup [_, x, .tup ys, .tup zs] => 1 + nS n x + (ys.map (nT n)).sum + (zs.map (nT n)).sum
    | _ => 1
def nB (n : Nat) : D → Nat
  | .tup ds => (ds.map (nT n)).sum
  | _ => 0
theorem ints_map : ∀ (is : List Int), intsOf (is.map D.int) = some is
  | [] => rfl
  | i :: is => by rw [List.map_cons, intsOf, ints_map is]; rfl
theorem sum_lst {S : Sto} {is : List Int} : sumD S (.lst (is.map D.int)) = some (.int is.sum) := by
  have : asLF S (.lst (is.map D.int)) = some (is.map D.int) := rfl
  unfold sumD
  rw [this]
  simp [ints_map]
/-- what a valid sum looks like -/
theorem isTup_get {w : Str} {n : Nat} {d : D} (h : isTup w n d = true) : ∃ t, d = .tup (.str w :: t) ∧ t.length + 1 = n := by
  cases d with
  | tup xs =>
    cases xs with
    | nil => cases h
    | cons x t =>
      cases x with
      | str s =>
        simp only [isTup_str, Bool.and_eq_true, decide_eq_true_eq] at h
        obtain ⟨h1, rfl⟩ := h
        exact ⟨t, rfl, h1⟩
      | _ => cases h
  | _ => cases h
theorem okS_cases {n : Nat} {w : Int} {d : D} (h : okS (n + 1) w d = true) : (∃ s, d = .str s) ∨ (∃ i, d = .int i) ∨ (∃ y, d = .tup [.str "cell", y]) ∨ ∃ s y z, d = .tup [.str s, y, z] ∧ isOp s = true ∧ okS n w y = true ∧ okS n w z = true := by
  cases d with
  | str s => exact .inl ⟨_, rfl⟩
  | int i => exact .inr (.inl ⟨i, rfl⟩)
  | tup xs =>
    unfold okS at h
    simp only [] at h
    split at h
    · rename_i ht
      obtain ⟨t, e, hl⟩ := isTup_get ht
      cases e
      match t, hl with
      | [y], _ => exact .inr (.inr (.inl ⟨y, rfl⟩))
    · split at h
      · rename_i s y z _
        simp only [Bool.and_eq_true] at h
        exact .inr (.inr (.inr ⟨s, y, z, rfl, h.1, h.2.1, h.2.2⟩))
      · cases h
  | _ => simp [okS, isInt] at h
theorem sp_ok {T : List Fn} {G : Ev} {wf : Nat} {px : Px} (F : ProgA T G px) {w : Int} {S : Sto} : ∀ (n k : Nat) (d : D), okS n w d = true → run T G wf (k + n) px.sum_parts [d] S = .ok (.int (nS n d)) S
  | 0, k, d, h => by simp [okS] at h
  | n + 1, k, d, h => by
    rw [show k + (n + 1) = (k + n) + 1 by omega, run_succ (fn := ⟨1, 1, B_sum_parts px⟩) F.sum_parts rfl]
    rcases okS_cases h with ⟨s, rfl⟩ | ⟨i, rfl⟩ | ⟨y, rfl⟩ | ⟨s, y, z, rfl, h1, h2, h3⟩
    · simp [B_sum_parts, slots0, fnEnd, nS]
    · simp [B_sum_parts, slots0, fnEnd, nS]
    · simp [B_sum_parts, slots0, fnEnd, nS]
    · have e1 := sp_ok (wf := wf) F n k y h2 (S := S)
      have e2 := sp_ok (wf := wf) F n k z h3 (S := S)
      simp [B_sum_parts, slots0, fnEnd, nS, ix1, ix2, e1, e2]
theorem op_not {s : Str} (h : isOp s = true) : s ≠ "do" ∧ s ≠ "stop" ∧ s ≠ "cell" ∧ s ≠ "set" := by
  refine ⟨?_, ?_, ?_, ?_⟩ <;> (rintro rfl; revert h; decide +kernel)
@[simp] theorem ne_do_set : (("do" : Str) = "set") = False := eq_false (by decide +kernel)
@[simp] theorem ne_do_if : (("do" : Str) = "if") = False := eq_false (by decide +kernel)
@[simp] theorem ne_do_stop : (("do" : Str) = "stop") = False := eq_false (by decide +kernel)
@[simp] theorem ne_do_cell : (("do" : Str) = "cell") = False := eq_false (by decide +kernel)
@[simp] theorem ne_set_do : (("set" : Str) = "do") = False := eq_false (by decide +kernel)
@[simp] theorem ne_set_if : (("set" : Str) = "if") = False := eq_false (by decide +kernel)
@[simp] theorem ne_set_stop : (("set" : Str) = "stop") = False := eq_false (by decide +kernel)
@[simp] theorem ne_set_cell : (("set" : Str) = "cell") = False := eq_false (by decide +kernel)
@[simp] theorem ne_if_do : (("if" : Str) = "do") = False := eq_false (by decide +kernel)
@[simp] theorem ne_if_set : (("if" : Str) = "set") = False := eq_false (by decide +kernel)
@[simp] theorem ne_if_stop : (("if" : Str) = "stop") = False := eq_false (by decide +kernel)
@[simp] theorem ne_if_cell : (("if" : Str) = "cell") = False := eq_false (by decide +kernel)
@[simp] theorem ne_stop_do : (("stop" : Str) = "do") = False := eq_false (by decide +kernel)
@[simp] theorem ne_stop_set : (("stop" : Str) = "set") = False := eq_false (by decide +kernel)
@[simp] theorem ne_stop_if : (("stop" : Str) = "if") = False := eq_false (by decide +kernel)
@[simp] theorem ne_stop_cell : (("stop" : Str) = "cell") = False := eq_false (by decide +kernel)
@[simp] theorem ne_cell_do : (("cell" : Str) = "do") = False := eq_false (by decide +kernel)
@[simp] theorem ne_cell_set : (("cell" : Str) = "set") = False := eq_false (by decide +kernel)
@[simp] theorem ne_cell_if : (("cell" : Str) = "if") = False := eq_false (by decide +kernel)
@[simp] theorem ne_cell_stop : (("cell" : Str) = "stop") = False := eq_false (by decide +kernel)
theorem okBk_get {f : D → Bool} {d : D} (h : okBk f d = true) : ∃ ds, d = .tup ds ∧ ∀ x ∈ ds, f x = true := by
  cases d with
  | tup ds => exact ⟨ds, rfl, fun x hx => List.all_eq_true.mp h x hx⟩
  | _ => cases h
theorem okSt_cases {n : Nat} {p w : Int} {d : D} (h : okSt (n + 1) p w d = true) : (∃ y, d = .tup [.str "do", y]) ∨ (∃ y z, d = .tup [.str "set", y, z] ∧ okS n w z = true) ∨
    (∃ x ys zs, d = .tup [.str "if", x, .tup ys, .tup zs] ∧ okS n w x = true ∧ (∀ y ∈ ys, okSt n p w y = true) ∧ ∀ z ∈ zs, okSt n p w z = true) ∨ d = .tup [.str "stop"] := by
  unfold okSt at h
  split at h
  · rename_i ht
    obtain ⟨t, rfl, hl⟩ := isTup_get ht
    match t, hl with
    | [y], _ => exact .inl ⟨y, rfl⟩
  · split at h
    · rename_i ht
      obtain ⟨t, rfl, hl⟩ := isTup_get ht
      match t, hl with
      | [y, z], _ =>
        simp only [Bool.and_eq_true] at h
        exact .inr (.inl ⟨y, z, rfl, h.2⟩)
    · split at h
      · rename_i ht
        obtain ⟨t, rfl, hl⟩ := isTup_get ht
        match t, hl with
        | [x, y, z], _ =>
          simp only [Bool.and_eq_true] at h
          obtain ⟨ys, rfl, hy⟩ := okBk_get h.2.1
          obtain ⟨zs, rfl, hz⟩ := okBk_get h.2.2
          exact .inr (.inr (.inl ⟨x, ys, zs, rfl, h.1, hy, hz⟩))
      · obtain ⟨t, rfl, hl⟩ := isTup_get h
        match t, hl with
        | [], _ => exact .inr (.inr (.inr rfl))
def bpB (px : Px) : Ss := (.cons (.aug 1 .Add (.c (.int 1))) (.cons (.ite (.cmp .Eq (.ix (.v 2) (.c (.int 0))) (.c (.str "set"))) (.cons (.aug 1 .Add (.call px.sum_parts (.cons (.ix (.v 2) (.c (.int 2))) .nil))) .nil) (.cons (.ite (.cmp .Eq (.ix (.v 2) (.c (.int 0))) (.c (.str "if"))) (.cons (.aug 1 .Add (.op .Add (.op .Add (.call px.sum_parts (.cons (.ix (.v 2) (.c (.int 1))) .nil)) (.call px.block_parts (.cons (.ix (.v 2) (.c (.int 2))) .nil))) (.call px.block_parts (.cons (.ix (.v 2) (.c (.int 3))) .nil)))) .nil) .nil) .nil)) .nil))
theorem bpt_ok {T : List Fn} {G : Ev} {wf : Nat} {px : Px} (F : ProgA T G px) {k : Nat} {ds : List D} {S : Sto} {w : D → Nat} (h : ∀ d ∈ ds, ∀ (x : Int) (o : Option D), dSs G (run T G wf k) wf (bpB px) [o, some (.int x), some d] S = .ok .nx [o, some (.int (x + w d)), some d] S) :
    run T G wf (k + 1) px.block_parts [.tup ds] S = .ok (.int ((ds.map w).sum : Nat)) S := by
  rw [run_succ (fn := ⟨1, 3, B_block_parts px⟩) F.block_parts rfl]
  obtain ⟨sd', S', e1, e2⟩ := for_inv (ds := ds) (g := gNm 2) (b := dSs G (run T G wf k) wf (bpB px))
    (fun i sd S' => S' = S ∧ ∃ o p, sd = [o, some (.int (((ds.take i).map w).sum : Nat)), p])
    (fun i d sd S' hd hP => by
      obtain ⟨rfl, o, p, rfl⟩ := hP
      refine ⟨[o, some (.int (((ds.take i).map w).sum : Nat)), some d], S', by simp, _, _, .inl (h d (List.mem_of_getElem? hd) _ o), rfl, o, some d, ?_⟩
      have : ds.take (i + 1) = ds.take i ++ [d] := by rw [List.take_add_one, hd]; rfl
      rw [this]
      simp) ds.length 0 [some (.tup ds), some (.int 0), none] S (by simp) ⟨rfl, _, _, rfl⟩
  obtain ⟨rfl, o, p, rfl⟩ := e2
  have a1 : dSs G (run T G wf k) wf (B_block_parts px) (slots0 3 [.tup ds]) S' = mThen (mFor (mSeq (mVar 0)) (gNm 2) (dSs G (run T G wf k) wf (bpB px))) (mThen (mRet (mVar 1)) mSkip) [some (.tup ds), some (.int 0), none] S' := rfl
  rw [a1]
  have a2 : mFor (mSeq (mVar 0)) (gNm 2) (dSs G (run T G wf k) wf (bpB px)) [some (.tup ds), some (.int 0), none] S' = .ok .nx [o, some (.int (((ds.take ds.length).map w).sum : Nat)), p] S' := by
    rw [q_mFor]
    have : mSeq (mVar 0) [some (D.tup ds), some (.int 0), none] S' = .ok (.vals ds) S' := rfl
    rw [this]
    exact e1
  rw [then_nx a2, List.take_length]
  rfl
theorem bp_ok {T : List Fn} {G : Ev} {wf : Nat} {px : Px} (F : ProgA T G px) {p w : Int} {S : Sto} : ∀ (n k : Nat) (ds : List D), (∀ d ∈ ds, okSt n p w d = true) → run T G wf (k + n + 1) px.block_parts [.tup ds] S = .ok (.int ((ds.map (nT n)).sum : Nat)) S
  | 0, k, ds, h => bpt_ok (wf := wf) F fun d hd => by have := h d hd; simp [okSt] at this
  | n + 1, k, ds, h => by
    refine bpt_ok (wf := wf) F fun d hd x o => ?_
    rcases okSt_cases (h d hd) with ⟨y, rfl⟩ | ⟨y, z, rfl, h1⟩ | ⟨y, ys, zs, rfl, h1, h2, h3⟩ | rfl
    · simp [bpB, ix0, nT]
    · have e1 := sp_ok (wf := wf) F n (k + 1) z h1 (S := S)
      rw [show k + 1 + n = k + (n + 1) by omega] at e1
      simp [bpB, ix0, ix2, nT, e1]
      omega
    · have e1 := sp_ok (wf := wf) F n (k + 1) y h1 (S := S)
      rw [show k + 1 + n = k + (n + 1) by omega] at e1
      have e2 := bp_ok (wf := wf) F n k ys h2 (S := S)
      have e3 := bp_ok (wf := wf) F n k zs h3 (S := S)
      rw [show k + n + 1 = k + (n + 1) by omega] at e2 e3
      simp [bpB, ix0, ix1, ix2, ix3, nT, e1, e2, e3]
      generalize ((ys.map (nT n)).sum : Int) = aa
      omega
    · simp [bpB, ix0, nT]
def intOf : D → Int
  | .int i => i
  | _ => 0
def prodD (xs : List D) : Int := xs.foldl (fun a x => a * intOf x) 1
def okC : D → Bool
  | .tup xs => decide (1 ≤ xs.length) && (decide (xs.length ≤ 4) && (xs.all (isInt 2 4) && decide (prodD xs ≤ 24)))
  | _ => false
def lenOf : D → Nat
  | .tup xs => xs.length
  | _ => 0
def errD : D → D
  | .tup [a, b, c, e, f, g] => if !isInt 1 3 a || !isInt 1 3 b then .str "letters" else if !isInt 1 5 c then .str "works" else if !okC e then .str "cells"
    else if !okBk (okSt 12 (intOf c) (lenOf e)) f then .str "body" else if !okBk (okSt 12 (intOf c) (lenOf e)) g then .str "tail" else if 400 < nB 12 f + nB 12 g then .str "parts" else .non
  | _ => .str "program"
theorem isInt_get {lo hi : Int} {d : D} (h : isInt lo hi d = true) : ∃ i, d = .int i ∧ lo ≤ i ∧ i ≤ hi := by
  cases d with
  | int i =>
    simp only [isInt, Bool.and_eq_true, decide_eq_true_eq] at h
    exact ⟨i, rfl, h.1, h.2⟩
  | _ => cases h
theorem prod_snoc {xs : List D} {d : D} : prodD (xs ++ [d]) = prodD xs * intOf d := by
  unfold prodD; rw [List.foldl_append]; rfl
theorem stands_ok {T : List Fn} {G : Ev} {wf : Nat} {px : Px} (F : ProgA T G px) {k : Nat} {S : Sto} {xs : List D} (h : ∀ x ∈ xs, isInt 2 4 x = true) : run T G wf (k + 1) px.stands_of [.tup xs] S = .ok (.int (prodD xs)) S := by
  rw [run_succ (fn := ⟨1, 3, B_stands_of px⟩) F.stands_of rfl]
  obtain ⟨sd', S', e1, e2⟩ := for_inv (ds := xs) (g := gNm 2) (b := dSs G (run T G wf k) wf (.cons (.aug 1 .Mult (.v 2)) .nil))
    (fun i sd S' => S' = S ∧ ∃ o p, sd = [o, some (.int (prodD (xs.take i))), p])
    (fun i d sd S' hd hP => by
      obtain ⟨rfl, o, p, rfl⟩ := hP
      obtain ⟨j, rfl, h1, h2⟩ := isInt_get (h d (List.mem_of_getElem? hd))
      have mu : iopF .Mult S' (.int (prodD (xs.take i))) (.int j) = some (.int (prodD (xs.take i) * j)) := by
        have : -18446744073709551616 < j ∧ j < 18446744073709551616 := by omega
        simp [iopF, intP, imulI, this]
      refine ⟨[o, some (.int (prodD (xs.take i))), some (.int j)], S', by simp, [o, some (.int (prodD (xs.take i) * j)), some (.int j)], S', .inl (by simp [mu]), rfl, o, some (.int j), ?_⟩
      have : xs.take (i + 1) = xs.take i ++ [.int j] := by rw [List.take_add_one, hd]; rfl
      rw [this, prod_snoc]; rfl) xs.length 0 [some (.tup xs), some (.int 1), none] S (by simp) ⟨rfl, _, _, rfl⟩
  obtain ⟨rfl, o, p, rfl⟩ := e2
  have s1 : dS G (run T G wf k) wf (.for_ (.nm 2) (.seq (.v 0)) (.cons (.aug 1 .Mult (.v 2)) .nil)) [some (.tup xs), some (.int 1), none] S' = .ok .nx [o, some (.int (prodD (xs.take xs.length))), p] S' := by
    simp only [q_sfor, q_mFor, q_iseq, q_mSeq, q_ev]
    exact e1
  have s0 : dSs G (run T G wf k) wf (B_stands_of px) (slots0 3 [.tup xs]) S' = mThen (dS G (run T G wf k) wf (.for_ (.nm 2) (.seq (.v 0)) (.cons (.aug 1 .Mult (.v 2)) .nil))) (mThen (mRet (mVar 1)) mSkip) [some (.tup xs), some (.int 1), none] S' := rfl
  rw [s0, then_nx s1, List.take_length]
  rfl
theorem cells_ok {T : List Fn} {G : Ev} {wf : Nat} {px : Px} (F : ProgA T G px) {B k : Nat} {S : Sto} {d : D} (hB : B ≤ 1000000) (h : okD S B d = true) : run T G wf (k + 2) px.are_cells [d] S = .ok (.bl (okC d)) S := by
  rw [run_succ (fn := ⟨1, 2, B_are_cells px⟩) F.are_cells rfl, ac_is]
  cases d with
  | loc m => simp [ac0, slots0, fnEnd, isi_loc (okD_nt h), okC]
  | tup xs =>
    obtain ⟨hl, hd⟩ := okD_tup.mp h
    have e : lcGo (.vals xs) (gNm 1) (dT G (run T G wf (k + 1)) (.not (.tru (.call px.is_integer (.cons (.v 1) (.cons (.c (.int 2)) (.cons (.g px.gMAX_SIZE) .nil))))))) (mVar 1) [some (.tup xs), none] xs.length 0 [] S = .ok (xs.filter fun x => !isInt 2 4 x) S := by
      rw [lc_pure (p := fun x => !isInt 2 4 x) (h := id) (fun x hx => ⟨[some (.tup xs), some x], by simp, by
        have := int_ok (wf := wf) F (k := k) (lo := 2) (hi := 4) (okD_nt (hd x hx))
        simp [this, F.g4], fun _ => by simp⟩) _ 0 [] (by simp) (by simp; omega)]
      simp
    have hw : wipeD [some (D.tup xs), none] [1] = [some (.tup xs), none] := rfl
    simp only [q_tnot, q_ttru, q_ecall, q_lcons, q_lnil, q_ev, q_ec, q_eg] at e
    by_cases z1 : (1 : Int) ≤ xs.length
    · have z1' : 1 ≤ xs.length := by omega
      by_cases z2 : (xs.length : Int) ≤ 4
      · have z2' : xs.length ≤ 4 := by omega
        have s0 : dS G (run T G wf (k + 1)) wf (ac0 px) (slots0 2 [.tup xs]) S = .ok .nx [some (.tup xs), none] S := by
          simp [ac0, slots0, F.g3, z1, z2]
        rw [q_scons, then_nx s0, q_scons]
        cases za : xs.all (isInt 2 4) with
        | false =>
          have s1 : dS G (run T G wf (k + 1)) wf (ac1 px) [some (.tup xs), none] S = .ok (.rt (.bl false)) [some (.tup xs), none] S := by
            simp [ac1, srcOf, hw, e, neL0, filt_all, za]
          rw [then_rt s1]
          simp [fnEnd, okC, za]
        | true =>
          have s1 : dS G (run T G wf (k + 1)) wf (ac1 px) [some (.tup xs), none] S = .ok .nx [some (.tup xs), none] S := by
            simp [ac1, srcOf, hw, e, neL0, filt_all, za]
          have st := stands_ok (wf := wf) F (k := k) (S := S) (fun x hx => List.all_eq_true.mp za x hx)
          rw [then_nx s1]
          simp [ac2, F.g5, st, fnEnd, okC, za, z1', z2']
      · have z2' : ¬ xs.length ≤ 4 := by omega
        have s0 : dS G (run T G wf (k + 1)) wf (ac0 px) (slots0 2 [.tup xs]) S = .ok (.rt (.bl false)) [some (.tup xs), none] S := by
          simp [ac0, slots0, F.g3, z1, z2]
        rw [q_scons, then_rt s0]
        simp [fnEnd, okC, z2']
    · have z1' : ¬ 1 ≤ xs.length := by omega
      have s0 : dS G (run T G wf (k + 1)) wf (ac0 px) (slots0 2 [.tup xs]) S = .ok (.rt (.bl false)) [some (.tup xs), none] S := by
        simp [ac0, slots0, F.g3, z1]
      rw [q_scons, then_rt s0]
      have : xs.length = 0 := by omega
      simp [fnEnd, okC, this]
  | _ => simp [ac0, slots0, fnEnd, okC]
/-! ### both tell the same -/
theorem six {α : Type} {xs : List α} (h : xs.length = 6) : ∃ a b c e f g, xs = [a, b, c, e, f, g] := by
  match xs, h with
  | [a, b, c, e, f, g], _ => exact ⟨a, b, c, e, f, g, rfl⟩
theorem errD_not6 {xs : List D} (h : ¬ xs.length = 6) : errD (.tup xs) = .str "program" := by
  unfold errD
  split
  · rename_i heq
    cases heq
    exact absurd rfl h
  · rfl
theorem errD6 {a b c e f g : D} : errD (.tup [a, b, c, e, f, g]) = (if (!isInt 1 3 a || !isInt 1 3 b) = true then .str "letters" else if (!isInt 1 5 c) = true then .str "works" else if (!okC e) = true then .str "cells"
    else if (!okBk (okSt 12 (intOf c) (lenOf e)) f) = true then .str "body" else if (!okBk (okSt 12 (intOf c) (lenOf e)) g) = true then .str "tail" else if 400 < nB 12 f + nB 12 g then .str "parts" else .non) := rfl
theorem er_l {a b c e f g : D} (za : (!isInt 1 3 a || !isInt 1 3 b) = true) : errD (.tup [a, b, c, e, f, g]) = .str "letters" := by rw [errD6, if_pos za]
theorem er_w {a b c e f g : D} (za : (!isInt 1 3 a || !isInt 1 3 b) = false) (zc : isInt 1 5 c = false) : errD (.tup [a, b, c, e, f, g]) = .str "works" := by rw [errD6, if_neg (by rw [za]; decide), if_pos (by rw [zc]; rfl)]
theorem er_c {a b c e f g : D} (za : (!isInt 1 3 a || !isInt 1 3 b) = false) (zc : isInt 1 5 c = true) (ze : okC e = false) : errD (.tup [a, b, c, e, f, g]) = .str "cells" := by rw [errD6, if_neg (by rw [za]; decide), if_neg (by rw [zc]; decide), if_pos (by rw [ze]; rfl)]
theorem er_b {a b f g : D} {p : Int} {es : List D} (za : (!isInt 1 3 a || !isInt 1 3 b) = false) (zc : isInt 1 5 (.int p) = true) (ze : okC (.tup es) = true) (zf : okBk (okSt 12 p es.length) f = false) : errD (.tup [a, b, .int p, .tup es, f, g]) = .str "body" := by
  rw [errD6, if_neg (by rw [za]; decide), if_neg (by rw [zc]; decide), if_neg (by rw [ze]; decide), if_pos (by show (!okBk (okSt 12 p es.length) f) = true; rw [zf]; rfl)]
theorem er_t {a b f g : D} {p : Int} {es : List D} (za : (!isInt 1 3 a || !isInt 1 3 b) = false) (zc : isInt 1 5 (.int p) = true) (ze : okC (.tup es) = true) (zf : okBk (okSt 12 p es.length) f = true) (zg : okBk (okSt 12 p es.length) g = false) : errD (.tup [a, b, .int p, .tup es, f, g]) = .str "tail" := by
  rw [errD6, if_neg (by rw [za]; decide), if_neg (by rw [zc]; decide), if_neg (by rw [ze]; decide), if_neg (by show ¬ (!okBk (okSt 12 p es.length) f) = true; rw [zf]; decide), if_pos (by show (!okBk (okSt 12 p es.length) g) = true; rw [zg]; rfl)]
theorem er_p {a b f g : D} {p : Int} {es : List D} (za : (!isInt 1 3 a || !isInt 1 3 b) = false) (zc : isInt 1 5 (.int p) = true) (ze : okC (.tup es) = true) (zf : okBk (okSt 12 p es.length) f = true) (zg : okBk (okSt 12 p es.length) g = true) : errD (.tup [a, b, .int p, .tup es, f, g]) = if 400 < nB 12 f + nB 12 g then .str "parts" else .non := by
  rw [errD6, if_neg (by rw [za]; decide), if_neg (by rw [zc]; decide), if_neg (by rw [ze]; decide), if_neg (by show ¬ (!okBk (okSt 12 p es.length) f) = true; rw [zf]; decide), if_neg (by show ¬ (!okBk (okSt 12 p es.length) g) = true; rw [zg]; decide)]
theorem parts_ok {T : List Fn} {G : Ev} {wf : Nat} {px : Px} (F : ProgA T G px) {p w : Int} {k : Nat} {S : Sto} {a b c e f g : D} (hf : okBk (okSt 12 p w) f = true) (hg : okBk (okSt 12 p w) g = true) : run T G wf (k + 14) px.parts [.tup [a, b, c, e, f, g]] S = .ok (.int (nB 12 f + nB 12 g : Nat)) S := by
  rw [run_succ (fn := ⟨1, 1, B_parts px⟩) F.parts rfl]
  obtain ⟨ys, rfl, h1⟩ := okBk_get hf
  obtain ⟨zs, rfl, h2⟩ := okBk_get hg
  have i4 : ixP S (.tup [a, b, c, e, .tup ys, .tup zs]) (.int 4) = some (.tup ys) := ixT (i := 4) rfl
  have i5 : ixP S (.tup [a, b, c, e, .tup ys, .tup zs]) (.int 5) = some (.tup zs) := ixT (i := 5) rfl
  have e1 := bp_ok (wf := wf) F 12 k ys h1 (S := S)
  have e2 := bp_ok (wf := wf) F 12 k zs h2 (S := S)
  rw [show k + 12 + 1 = k + 13 by omega] at e1 e2
  simp [B_parts, slots0, i4, i5, e1, e2, fnEnd, nB]
theorem perr_ok {T : List Fn} {G : Ev} {wf : Nat} {px : Px} (F : ProgA T G px) {B k : Nat} {S : Sto} {d : D} (hB : B ≤ 1000000) (h : okD S B d = true) : run T G wf (k + 40) px.program_error [d] S = .ok (errD d) S := by
  rw [run_succ (fn := ⟨1, 7, B_program_error px⟩) F.program_error rfl, pe_is]
  cases d with
  | loc m => simp [pe0, slots0, fnEnd, isi_loc (okD_nt h), errD]
  | tup xs =>
    by_cases z : (xs.length : Int) = 6
    · obtain ⟨a, b, c, e, f, g, rfl⟩ := six (show xs.length = 6 by omega)
      have hm := (okD_tup.mp h).2
      have s0 : dS G (run T G wf (k + 39)) wf (pe0 px) (slots0 7 [.tup [a, b, c, e, f, g]]) S = .ok .nx [some (.tup [a, b, c, e, f, g]), none, none, none, none, none, none] S := by kernel_rfl
      have s1 : dS G (run T G wf (k + 39)) wf (pe1 px) [some (.tup [a, b, c, e, f, g]), none, none, none, none, none, none] S = .ok .nx [some (.tup [a, b, c, e, f, g]), some a, some b, some c, some e, some f, some g] S := by kernel_rfl
      rw [q_scons, then_nx s0, q_scons, then_nx s1, q_scons]
      have ea : run T G wf (k + 39) px.is_integer [a, .int 1, .int 3] S = .ok (.bl (isInt 1 3 a)) S := int_ok (wf := wf) F (okD_nt (hm a (by simp)))
      have eb : run T G wf (k + 39) px.is_integer [b, .int 1, .int 3] S = .ok (.bl (isInt 1 3 b)) S := int_ok (wf := wf) F (okD_nt (hm b (by simp)))
      have ec : run T G wf (k + 39) px.is_integer [c, .int 1, .int 5] S = .ok (.bl (isInt 1 5 c)) S := int_ok (wf := wf) F (okD_nt (hm c (by simp)))
      have ee : run T G wf (k + 39) px.are_cells [e] S = .ok (.bl (okC e)) S := cells_ok (wf := wf) F hB (hm e (by simp))
      cases za : (!isInt 1 3 a || !isInt 1 3 b) with
      | true =>
        have s2 : dS G (run T G wf (k + 39)) wf (pe2 px) [some (.tup [a, b, c, e, f, g]), some a, some b, some c, some e, some f, some g] S = .ok (.rt (.str "letters")) [some (.tup [a, b, c, e, f, g]), some a, some b, some c, some e, some f, some g] S := by
          cases ia : isInt 1 3 a with
          | false => simp [pe2, F.g1, ea, ia]
          | true =>
            have ib : isInt 1 3 b = false := by rw [ia] at za; simpa using za
            simp [pe2, F.g1, ea, ia, eb, ib]
        rw [then_rt s2, er_l za]; rfl
      | false =>
        have ia : isInt 1 3 a = true ∧ isInt 1 3 b = true := by simpa using za
        have s2 : dS G (run T G wf (k + 39)) wf (pe2 px) [some (.tup [a, b, c, e, f, g]), some a, some b, some c, some e, some f, some g] S = .ok .nx [some (.tup [a, b, c, e, f, g]), some a, some b, some c, some e, some f, some g] S := by
          simp [pe2, F.g1, ea, eb, ia]
        rw [then_nx s2, q_scons]
        cases zc : isInt 1 5 c with
        | false =>
          have s3 : dS G (run T G wf (k + 39)) wf (pe3 px) [some (.tup [a, b, c, e, f, g]), some a, some b, some c, some e, some f, some g] S = .ok (.rt (.str "works")) [some (.tup [a, b, c, e, f, g]), some a, some b, some c, some e, some f, some g] S := by
            simp [pe3, F.g2, ec, zc]
          rw [then_rt s3, er_w za zc]; rfl
        | true =>
          have s3 : dS G (run T G wf (k + 39)) wf (pe3 px) [some (.tup [a, b, c, e, f, g]), some a, some b, some c, some e, some f, some g] S = .ok .nx [some (.tup [a, b, c, e, f, g]), some a, some b, some c, some e, some f, some g] S := by
            simp [pe3, F.g2, ec, zc]
          rw [then_nx s3, q_scons]
          cases ze : okC e with
          | false =>
            have s4 : dS G (run T G wf (k + 39)) wf (pe4 px) [some (.tup [a, b, c, e, f, g]), some a, some b, some c, some e, some f, some g] S = .ok (.rt (.str "cells")) [some (.tup [a, b, c, e, f, g]), some a, some b, some c, some e, some f, some g] S := by
              simp [pe4, ee, ze]
            rw [then_rt s4, er_c za zc ze]; rfl
          | true =>
            have s4 : dS G (run T G wf (k + 39)) wf (pe4 px) [some (.tup [a, b, c, e, f, g]), some a, some b, some c, some e, some f, some g] S = .ok .nx [some (.tup [a, b, c, e, f, g]), some a, some b, some c, some e, some f, some g] S := by
              simp [pe4, ee, ze]
            rw [then_nx s4, q_scons]
            obtain ⟨p, rfl, _, _⟩ := isInt_get zc
            have hw : ∃ es, e = .tup es := by
              cases e with
              | tup es => exact ⟨es, rfl⟩
              | _ => cases ze
            obtain ⟨es, rfl⟩ := hw
            have ef : run T G wf (k + 39) px.is_block [f, .int p, .int es.length, .int 1] S = .ok (.bl (okBk (okSt 12 p es.length) f)) S := bk_ok (wf := wf) F (k := k + 10) hB 12 f 1 (hm f (by simp)) (by decide)
            have eg : run T G wf (k + 39) px.is_block [g, .int p, .int es.length, .int 1] S = .ok (.bl (okBk (okSt 12 p es.length) g)) S := bk_ok (wf := wf) F (k := k + 10) hB 12 g 1 (hm g (by simp)) (by decide)
            cases zf : okBk (okSt 12 p es.length) f with
            | false =>
              have s5 : dS G (run T G wf (k + 39)) wf (pe5 px) [some (.tup [a, b, .int p, .tup es, f, g]), some a, some b, some (.int p), some (.tup es), some f, some g] S = .ok (.rt (.str "body")) [some (.tup [a, b, .int p, .tup es, f, g]), some a, some b, some (.int p), some (.tup es), some f, some g] S := by
                simp [pe5, ef, zf]
              rw [then_rt s5, er_b za zc ze zf]; rfl
            | true =>
              have s5 : dS G (run T G wf (k + 39)) wf (pe5 px) [some (.tup [a, b, .int p, .tup es, f, g]), some a, some b, some (.int p), some (.tup es), some f, some g] S = .ok .nx [some (.tup [a, b, .int p, .tup es, f, g]), some a, some b, some (.int p), some (.tup es), some f, some g] S := by
                simp [pe5, ef, zf]
              rw [then_nx s5, q_scons]
              cases zg : okBk (okSt 12 p es.length) g with
              | false =>
                have s6 : dS G (run T G wf (k + 39)) wf (pe6 px) [some (.tup [a, b, .int p, .tup es, f, g]), some a, some b, some (.int p), some (.tup es), some f, some g] S = .ok (.rt (.str "tail")) [some (.tup [a, b, .int p, .tup es, f, g]), some a, some b, some (.int p), some (.tup es), some f, some g] S := by
                  simp [pe6, eg, zg]
                rw [then_rt s6, er_t za zc ze zf zg]; rfl
              | true =>
                have s6 : dS G (run T G wf (k + 39)) wf (pe6 px) [some (.tup [a, b, .int p, .tup es, f, g]), some a, some b, some (.int p), some (.tup es), some f, some g] S = .ok .nx [some (.tup [a, b, .int p, .tup es, f, g]), some a, some b, some (.int p), some (.tup es), some f, some g] S := by
                  simp [pe6, eg, zg]
                rw [then_nx s6, q_scons]
                have ep : run T G wf (k + 39) px.parts [.tup [a, b, .int p, .tup es, f, g]] S = .ok (.int (nB 12 f + nB 12 g : Nat)) S := parts_ok (wf := wf) F (k := k + 25) zf zg
                rw [er_p za zc ze zf zg]
                by_cases zp : 400 < nB 12 f + nB 12 g
                · have zp' : (400 : Int) < (nB 12 f + nB 12 g : Nat) := by omega
                  rw [if_pos zp]
                  simp only [Int.natCast_add] at zp' ep
                  simp [pe7, ep, F.g6, zp', fnEnd]
                · have zp' : ¬ (400 : Int) < (nB 12 f + nB 12 g : Nat) := by omega
                  rw [if_neg zp]
                  simp only [Int.natCast_add] at zp' ep
                  simp [pe7, ep, F.g6, zp', fnEnd]
    · rw [errD_not6 (by omega)]
      simp [pe0, slots0, fnEnd, z]
  | _ => simp [pe0, slots0, fnEnd, errD]
end PE

namespace K04
open PySem PySem.Spec PyProof.Rows L2 Z
abbrev pw : PySem.Program := PySem.Challenge.pw_steadytime_k04_texts_of_statements
def topS (i : Nat) : Stmt := pw.main.body.getD i (.Pass ⟨0, 0, 0, 0⟩)
def mthS (i j : Nat) : Stmt := (clsBodyZ (topS i)).getD j (.Pass ⟨0, 0, 0, 0⟩)
def gl : List (Str × D) := [("MAX_NUMBER", (.int 9)), ("MAX_LETTERS", (.int 3)), ("MAX_WORKS", (.int 5)), ("MAX_CELLS", (.int 4)), ("MAX_SIZE", (.int 4)), ("MAX_STANDS", (.int 24)), ("MAX_PARTS", (.int 400)), ("MAX_LEVEL", (.int 12)), ("KNOWN", (.str "known")), ("SECRET", (.str "secret")), ("OPERATORS", (.tup [(.str "plus"), (.str "times"), (.str "less"), (.str "same")])), ("DIGITS", (.str "0123456789")), ("DEEPEST", (.int 13))]
def b_is_integer : Ss := (.cons (.ret (.bo .And (.cons (.isi (.v 0) .int) (.cons (.not (.isi (.v 0) .bool)) (.cons (.ch .LtE .LtE (.v 1) (.v 0) (.v 2)) .nil))))) .nil)
def r_is_integer : Z.Row := ⟨("is_integer", none), ["value", "least", "most"], ["value", "least", "most"], ⟨3, 3, b_is_integer⟩, topS 15⟩
def b_is_tuple : Ss := (.cons (.ret (.bo .And (.cons (.isi (.v 0) .tuple) (.cons (.cmp .Eq (.bf .len (.cons (.v 0) .nil)) (.v 2)) (.cons (.isi (.ix (.v 0) (.c (.int 0))) .str) (.cons (.cmp .Eq (.ix (.v 0) (.c (.int 0))) (.v 1)) .nil)))))) .nil)
def r_is_tuple : Z.Row := ⟨("is_tuple", none), ["value", "word", "size"], ["value", "word", "size"], ⟨3, 3, b_is_tuple⟩, topS 16⟩
def b_is_cell : Ss := (.cons (.ret (.call 0 (.cons (.v 0) (.cons (.c (.int 0)) (.cons (.op .Sub (.v 1) (.c (.int 1))) .nil))))) .nil)
def r_is_cell : Z.Row := ⟨("is_cell", none), ["value", "many"], ["value", "many"], ⟨2, 2, b_is_cell⟩, topS 17⟩
def b_is_sum : Ss := (.cons (.ite (.cmp .Gt (.v 2) (.g 7)) (.cons (.ret (.c (.bl false))) .nil) .nil) (.cons (.ite (.tru (.isi (.v 0) .str)) (.cons (.ret (.cmp .In (.v 0) (.tup (.cons (.g 8) (.cons (.g 9) .nil))))) .nil) .nil) (.cons (.ite (.not (.tru (.isi (.v 0) .tuple))) (.cons (.ret (.call 0 (.cons (.v 0) (.cons (.c (.int 0)) (.cons (.g 0) .nil))))) .nil) .nil) (.cons (.ite (.tru (.call 1 (.cons (.v 0) (.cons (.c (.str "cell")) (.cons (.c (.int 2)) .nil))))) (.cons (.ret (.call 2 (.cons (.ix (.v 0) (.c (.int 1))) (.cons (.v 1) .nil)))) .nil) .nil) (.cons (.ite (.bo .Or (.cons (.cmp .NotEq (.bf .len (.cons (.v 0) .nil)) (.c (.int 3))) (.cons (.not (.tru (.isi (.ix (.v 0) (.c (.int 0))) .str))) (.cons (.cmp .NotIn (.ix (.v 0) (.c (.int 0))) (.g 10)) .nil)))) (.cons (.ret (.c (.bl false))) .nil) .nil) (.cons (.ret (.bo .And (.cons (.call 3 (.cons (.ix (.v 0) (.c (.int 1))) (.cons (.v 1) (.cons (.op .Add (.v 2) (.c (.int 1))) .nil)))) (.cons (.call 3 (.cons (.ix (.v 0) (.c (.int 2))) (.cons (.v 1) (.cons (.op .Add (.v 2) (.c (.int 1))) .nil)))) .nil)))) .nil))))))
def r_is_sum : Z.Row := ⟨("is_sum", none), ["value", "many", "level"], ["value", "many", "level"], ⟨3, 3, b_is_sum⟩, topS 18⟩
def b_is_statement : Ss := (.cons (.ite (.cmp .Gt (.v 3) (.g 7)) (.cons (.ret (.c (.bl false))) .nil) .nil) (.cons (.ite (.tru (.call 1 (.cons (.v 0) (.cons (.c (.str "do")) (.cons (.c (.int 2)) .nil))))) (.cons (.ret (.call 0 (.cons (.ix (.v 0) (.c (.int 1))) (.cons (.c (.int 0)) (.cons (.op .Sub (.v 1) (.c (.int 1))) .nil))))) .nil) .nil) (.cons (.ite (.tru (.call 1 (.cons (.v 0) (.cons (.c (.str "set")) (.cons (.c (.int 3)) .nil))))) (.cons (.ret (.bo .And (.cons (.call 2 (.cons (.ix (.v 0) (.c (.int 1))) (.cons (.v 2) .nil))) (.cons (.call 3 (.cons (.ix (.v 0) (.c (.int 2))) (.cons (.v 2) (.cons (.op .Add (.v 3) (.c (.int 1))) .nil)))) .nil)))) .nil) .nil) (.cons (.ite (.tru (.call 1 (.cons (.v 0) (.cons (.c (.str "if")) (.cons (.c (.int 4)) .nil))))) (.cons (.ite (.not (.tru (.call 3 (.cons (.ix (.v 0) (.c (.int 1))) (.cons (.v 2) (.cons (.op .Add (.v 3) (.c (.int 1))) .nil)))))) (.cons (.ret (.c (.bl false))) .nil) .nil) (.cons (.ret (.bo .And (.cons (.call 5 (.cons (.ix (.v 0) (.c (.int 2))) (.cons (.v 1) (.cons (.v 2) (.cons (.op .Add (.v 3) (.c (.int 1))) .nil))))) (.cons (.call 5 (.cons (.ix (.v 0) (.c (.int 3))) (.cons (.v 1) (.cons (.v 2) (.cons (.op .Add (.v 3) (.c (.int 1))) .nil))))) .nil)))) .nil)) .nil) (.cons (.ret (.call 1 (.cons (.v 0) (.cons (.c (.str "stop")) (.cons (.c (.int 1)) .nil))))) .nil)))))
def r_is_statement : Z.Row := ⟨("is_statement", none), ["value", "works", "many", "level"], ["value", "works", "many", "level"], ⟨4, 4, b_is_statement⟩, topS 19⟩
def b_is_block : Ss := (.cons (.ite (.not (.tru (.isi (.v 0) .tuple))) (.cons (.ret (.c (.bl false))) .nil) .nil) (.cons (.ret (.cmp .Eq (.lc false (.nm 4) (.seq (.v 0)) (.some (.not (.tru (.call 4 (.cons (.v 4) (.cons (.v 1) (.cons (.v 2) (.cons (.v 3) .nil)))))))) (.v 4) [("one", 4)]) (.lst false .nil))) .nil))
def r_is_block : Z.Row := ⟨("is_block", none), ["value", "works", "many", "level"], ["value", "works", "many", "level", "one"], ⟨4, 5, b_is_block⟩, topS 20⟩
def b_are_cells : Ss := (.cons (.ite (.bo .Or (.cons (.not (.tru (.isi (.v 0) .tuple))) (.cons (.not (.ch .LtE .LtE (.c (.int 1)) (.bf .len (.cons (.v 0) .nil)) (.g 3))) .nil))) (.cons (.ret (.c (.bl false))) .nil) .nil) (.cons (.ite (.cmp .NotEq (.lc false (.nm 1) (.seq (.v 0)) (.some (.not (.tru (.call 0 (.cons (.v 1) (.cons (.c (.int 2)) (.cons (.g 4) .nil))))))) (.v 1) [("size", 1)]) (.lst false .nil)) (.cons (.ret (.c (.bl false))) .nil) .nil) (.cons (.ret (.cmp .LtE (.call 7 (.cons (.v 0) .nil)) (.g 5))) .nil)))
def r_are_cells : Z.Row := ⟨("are_cells", none), ["value"], ["value", "size"], ⟨1, 2, b_are_cells⟩, topS 21⟩
def b_stands_of : Ss := (.cons (.asg (.nm 1) (.c (.int 1))) (.cons (.for_ (.nm 2) (.seq (.v 0)) (.cons (.aug 1 .Mult (.v 2)) .nil)) (.cons (.ret (.v 1)) .nil)))
def r_stands_of : Z.Row := ⟨("stands_of", none), ["cells"], ["cells", "found", "size"], ⟨1, 3, b_stands_of⟩, topS 22⟩
def b_sum_parts : Ss := (.cons (.ite (.bo .And (.cons (.tru (.isi (.v 0) .tuple)) (.cons (.cmp .Eq (.bf .len (.cons (.v 0) .nil)) (.c (.int 3))) .nil))) (.cons (.ret (.op .Add (.op .Add (.c (.int 1)) (.call 8 (.cons (.ix (.v 0) (.c (.int 1))) .nil))) (.call 8 (.cons (.ix (.v 0) (.c (.int 2))) .nil)))) .nil) .nil) (.cons (.ret (.c (.int 1))) .nil))
def r_sum_parts : Z.Row := ⟨("sum_parts", none), ["value"], ["value"], ⟨1, 1, b_sum_parts⟩, topS 23⟩
def b_block_parts : Ss := (.cons (.asg (.nm 1) (.c (.int 0))) (.cons (.for_ (.nm 2) (.seq (.v 0)) (.cons (.aug 1 .Add (.c (.int 1))) (.cons (.ite (.cmp .Eq (.ix (.v 2) (.c (.int 0))) (.c (.str "set"))) (.cons (.aug 1 .Add (.call 8 (.cons (.ix (.v 2) (.c (.int 2))) .nil))) .nil) (.cons (.ite (.cmp .Eq (.ix (.v 2) (.c (.int 0))) (.c (.str "if"))) (.cons (.aug 1 .Add (.op .Add (.op .Add (.call 8 (.cons (.ix (.v 2) (.c (.int 1))) .nil)) (.call 9 (.cons (.ix (.v 2) (.c (.int 2))) .nil))) (.call 9 (.cons (.ix (.v 2) (.c (.int 3))) .nil)))) .nil) .nil) .nil)) .nil))) (.cons (.ret (.v 1)) .nil)))
def r_block_parts : Z.Row := ⟨("block_parts", none), ["block"], ["block", "found", "statement"], ⟨1, 3, b_block_parts⟩, topS 24⟩
def b_parts : Ss := (.cons (.ret (.op .Add (.call 9 (.cons (.ix (.v 0) (.c (.int 4))) .nil)) (.call 9 (.cons (.ix (.v 0) (.c (.int 5))) .nil)))) .nil)
def r_parts : Z.Row := ⟨("parts", none), ["program"], ["program"], ⟨1, 1, b_parts⟩, topS 25⟩
def b_program_error : Ss := (.cons (.ite (.bo .Or (.cons (.not (.tru (.isi (.v 0) .tuple))) (.cons (.cmp .NotEq (.bf .len (.cons (.v 0) .nil)) (.c (.int 6))) .nil))) (.cons (.ret (.c (.str "program"))) .nil) .nil) (.cons (.asg (.tup (.cons (.nm 1) (.cons (.nm 2) (.cons (.nm 3) (.cons (.nm 4) (.cons (.nm 5) (.cons (.nm 6) .nil))))))) (.v 0)) (.cons (.ite (.bo .Or (.cons (.not (.tru (.call 0 (.cons (.v 1) (.cons (.c (.int 1)) (.cons (.g 1) .nil)))))) (.cons (.not (.tru (.call 0 (.cons (.v 2) (.cons (.c (.int 1)) (.cons (.g 1) .nil)))))) .nil))) (.cons (.ret (.c (.str "letters"))) .nil) .nil) (.cons (.ite (.not (.tru (.call 0 (.cons (.v 3) (.cons (.c (.int 1)) (.cons (.g 2) .nil)))))) (.cons (.ret (.c (.str "works"))) .nil) .nil) (.cons (.ite (.not (.tru (.call 6 (.cons (.v 4) .nil)))) (.cons (.ret (.c (.str "cells"))) .nil) .nil) (.cons (.ite (.not (.tru (.call 5 (.cons (.v 5) (.cons (.v 3) (.cons (.bf .len (.cons (.v 4) .nil)) (.cons (.c (.int 1)) .nil))))))) (.cons (.ret (.c (.str "body"))) .nil) .nil) (.cons (.ite (.not (.tru (.call 5 (.cons (.v 6) (.cons (.v 3) (.cons (.bf .len (.cons (.v 4) .nil)) (.cons (.c (.int 1)) .nil))))))) (.cons (.ret (.c (.str "tail"))) .nil) .nil) (.cons (.ret (.ifx (.cmp .Gt (.call 10 (.cons (.v 0) .nil)) (.g 6)) (.c (.str "parts")) (.c .non))) .nil))))))))
def r_program_error : Z.Row := ⟨("program_error", none), ["value"], ["value", "known", "secret", "works", "cells", "body", "tail"], ⟨1, 7, b_program_error⟩, topS 26⟩
def b_sum_text : Ss := (.cons (.ite (.tru (.isi (.v 0) .int)) (.cons (.ret (.bf .str (.cons (.v 0) .nil))) .nil) .nil) (.cons (.ite (.tru (.isi (.v 0) .str)) (.cons (.ret (.dgt 2 (.v 0))) .nil) .nil) (.cons (.ite (.cmp .Eq (.ix (.v 0) (.c (.int 0))) (.c (.str "cell"))) (.cons (.ret (.op .Add (.c (.str "c")) (.bf .str (.cons (.ix (.v 0) (.c (.int 1))) .nil)))) .nil) .nil) (.cons (.ret (.op .Add (.op .Add (.op .Add (.op .Add (.c (.str "(")) (.call 12 (.cons (.ix (.v 0) (.c (.int 1))) .nil))) (.dgt 0 (.ix (.v 0) (.c (.int 0))))) (.call 12 (.cons (.ix (.v 0) (.c (.int 2))) .nil))) (.c (.str ")")))) .nil))))
def r_sum_text : Z.Row := ⟨("sum_text", none), ["value"], ["value"], ⟨1, 1, b_sum_text⟩, topS 34⟩
def b_statement_text : Ss := (.cons (.asg (.nm 1) (.ix (.v 0) (.c (.int 0)))) (.cons (.ite (.cmp .Eq (.v 1) (.c (.str "do"))) (.cons (.ret (.fs (.cons (.c (.str "do ")) (.cons (.fmt (.ix (.v 0) (.c (.int 1)))) .nil)))) .nil) .nil) (.cons (.ite (.cmp .Eq (.v 1) (.c (.str "set"))) (.cons (.ret (.fs (.cons (.c (.str "set ")) (.cons (.fmt (.ix (.v 0) (.c (.int 1)))) (.cons (.c (.str " ")) (.cons (.fmt (.call 12 (.cons (.ix (.v 0) (.c (.int 2))) .nil))) .nil)))))) .nil) .nil) (.cons (.ite (.cmp .Eq (.v 1) (.c (.str "stop"))) (.cons (.ret (.v 1)) .nil) .nil) (.cons (.par [2, 3] (.cons (.call 14 (.cons (.ix (.v 0) (.c (.int 2))) .nil)) (.cons (.call 14 (.cons (.ix (.v 0) (.c (.int 3))) .nil)) .nil))) (.cons (.ret (.op .Add (.op .Add (.op .Add (.op .Add (.op .Add (.op .Add (.c (.str "if ")) (.call 12 (.cons (.ix (.v 0) (.c (.int 1))) .nil))) (.c (.str " {"))) (.v 2)) (.c (.str "} {"))) (.v 3)) (.c (.str "}")))) .nil))))))
def r_statement_text : Z.Row := ⟨("statement_text", none), ["statement"], ["statement", "word", "first", "second"], ⟨1, 4, b_statement_text⟩, topS 35⟩
def b_block_text : Ss := (.cons (.ret (.sm .join (.c (.str "; ")) (.lc false (.nm 1) (.seq (.v 0)) .none (.call 13 (.cons (.v 1) .nil)) [("statement", 1)]))) .nil)
def r_block_text : Z.Row := ⟨("block_text", none), ["block"], ["block", "statement"], ⟨1, 2, b_block_text⟩, topS 36⟩
def b_digit_at : Ss := (.cons (.asg (.nm 2) (.sl (.v 0) (.some (.v 1)) (.some (.op .Add (.v 1) (.c (.int 1)))))) (.cons (.ret (.ifx (.bo .And (.cons (.cmp .NotEq (.v 2) (.c (.str ""))) (.cons (.cmp .In (.v 2) (.g 11)) .nil))) (.lst false (.cons (.bf .int (.cons (.v 2) .nil)) .nil)) (.lst false .nil))) .nil))
def r_digit_at : Z.Row := ⟨("digit_at", none), ["text", "at"], ["text", "at", "sign"], ⟨2, 3, b_digit_at⟩, topS 37⟩
def b_read_sum : Ss := (.cons (.par [4, 5] (.cons (.sl (.v 0) (.some (.v 1)) (.some (.op .Add (.v 1) (.c (.int 1))))) (.cons (.call 15 (.cons (.v 0) (.cons (.v 1) .nil))) .nil))) (.cons (.ite (.cmp .NotEq (.v 5) (.lst false .nil)) (.cons (.ret (.tup (.cons (.ix (.v 5) (.c (.int 0))) (.cons (.op .Add (.v 1) (.c (.int 1))) .nil)))) .nil) .nil) (.cons (.ite (.din false (.v 4) 3) (.cons (.ret (.tup (.cons (.dgt 3 (.v 4)) (.cons (.op .Add (.v 1) (.c (.int 1))) .nil)))) .nil) .nil) (.cons (.ite (.cmp .Eq (.v 4) (.c (.str "c"))) (.cons (.asg (.nm 6) (.call 15 (.cons (.v 0) (.cons (.op .Add (.v 1) (.c (.int 1))) .nil)))) (.cons (.ret (.ifx (.cmp .NotEq (.v 6) (.lst false .nil)) (.tup (.cons (.tup (.cons (.c (.str "cell")) (.cons (.ix (.v 6) (.c (.int 0))) .nil))) (.cons (.op .Add (.v 1) (.c (.int 2))) .nil))) (.tup (.cons (.c .non) (.cons (.v 1) .nil))))) .nil)) .nil) (.cons (.ite (.bo .Or (.cons (.cmp .NotEq (.v 4) (.c (.str "("))) (.cons (.cmp .GtE (.v 2) (.g 12)) .nil))) (.cons (.ret (.tup (.cons (.c .non) (.cons (.v 1) .nil)))) .nil) .nil) (.cons (.asg (.tup (.cons (.nm 7) (.cons (.nm 8) .nil))) (.call 16 (.cons (.v 0) (.cons (.op .Add (.v 1) (.c (.int 1))) (.cons (.op .Add (.v 2) (.c (.int 1))) .nil))))) (.cons (.asg (.nm 3) (.dgd 1 (.sl (.v 0) (.some (.v 8)) (.some (.op .Add (.v 8) (.c (.int 1))))) (.c (.str "")))) (.cons (.ite (.bo .Or (.cons (.cmp .Is (.v 7) (.c .non)) (.cons (.cmp .Eq (.v 3) (.c (.str ""))) .nil))) (.cons (.ret (.tup (.cons (.c .non) (.cons (.v 1) .nil)))) .nil) .nil) (.cons (.asg (.tup (.cons (.nm 9) (.cons (.nm 10) .nil))) (.call 16 (.cons (.v 0) (.cons (.op .Add (.v 8) (.c (.int 1))) (.cons (.op .Add (.v 2) (.c (.int 1))) .nil))))) (.cons (.ite (.bo .Or (.cons (.cmp .Is (.v 9) (.c .non)) (.cons (.cmp .NotEq (.sl (.v 0) (.some (.v 10)) (.some (.op .Add (.v 10) (.c (.int 1))))) (.c (.str ")"))) .nil))) (.cons (.ret (.tup (.cons (.c .non) (.cons (.v 1) .nil)))) .nil) .nil) (.cons (.ret (.tup (.cons (.tup (.cons (.v 3) (.cons (.v 7) (.cons (.v 9) .nil)))) (.cons (.op .Add (.v 10) (.c (.int 1))) .nil)))) .nil)))))))))))
def r_read_sum : Z.Row := ⟨("read_sum", none), ["text", "at", "deep"], ["text", "at", "deep", "name", "sign", "digit", "number", "first", "middle", "second", "end"], ⟨3, 11, b_read_sum⟩, topS 38⟩
def b_read_block : Ss := (.cons (.ite (.cmp .In (.sl (.v 0) (.some (.v 1)) (.some (.op .Add (.v 1) (.c (.int 1))))) (.tup (.cons (.c (.str "")) (.cons (.c (.str "}")) .nil)))) (.cons (.ret (.tup (.cons (.tup .nil) (.cons (.v 1) .nil)))) .nil) .nil) (.cons (.par [4, 5] (.cons (.lst true .nil) (.cons (.c .non) .nil))) (.cons (.for_ (.nm 3) (.rng1 (.cons (.op .Add (.bf .len (.cons (.v 0) .nil)) (.c (.int 1))) .nil)) (.cons (.asg (.tup (.cons (.nm 5) (.cons (.nm 1) .nil))) (.call 20 (.cons (.v 0) (.cons (.v 1) (.cons (.v 2) .nil))))) (.cons (.ex (.app (.v 4) (.cons (.v 5) .nil))) (.cons (.ite (.bo .Or (.cons (.cmp .Is (.v 5) (.c .non)) (.cons (.cmp .NotEq (.sl (.v 0) (.some (.v 1)) (.some (.op .Add (.v 1) (.c (.int 2))))) (.c (.str "; "))) .nil))) (.cons .brk .nil) .nil) (.cons (.asg (.nm 1) (.op .Add (.v 1) (.c (.int 2)))) .nil))))) (.cons (.ret (.tup (.cons (.ifx (.cmp .Is (.v 5) (.c .non)) (.c .non) (.bf .tup (.cons (.v 4) .nil))) (.cons (.v 1) .nil)))) .nil))))
def r_read_block : Z.Row := ⟨("read_block", none), ["text", "at", "deep"], ["text", "at", "deep", "turn", "found", "statement"], ⟨3, 6, b_read_block⟩, topS 39⟩
def b_read_braced : Ss := (.cons (.ite (.bo .Or (.cons (.cmp .NotEq (.sl (.v 0) (.some (.v 1)) (.some (.op .Add (.v 1) (.c (.int 2))))) (.c (.str " {"))) (.cons (.cmp .GtE (.v 2) (.g 12)) .nil))) (.cons (.ret (.tup (.cons (.c .non) (.cons (.v 1) .nil)))) .nil) .nil) (.cons (.asg (.tup (.cons (.nm 3) (.cons (.nm 4) .nil))) (.call 17 (.cons (.v 0) (.cons (.op .Add (.v 1) (.c (.int 2))) (.cons (.op .Add (.v 2) (.c (.int 1))) .nil))))) (.cons (.ret (.ifx (.bo .And (.cons (.cmp .IsNot (.v 3) (.c .non)) (.cons (.cmp .Eq (.sl (.v 0) (.some (.v 4)) (.some (.op .Add (.v 4) (.c (.int 1))))) (.c (.str "}"))) .nil))) (.tup (.cons (.v 3) (.cons (.op .Add (.v 4) (.c (.int 1))) .nil))) (.tup (.cons (.c .non) (.cons (.v 1) .nil))))) .nil)))
def r_read_braced : Z.Row := ⟨("read_braced", none), ["text", "at", "deep"], ["text", "at", "deep", "block", "end"], ⟨3, 5, b_read_braced⟩, topS 40⟩
def b_read_if : Ss := (.cons (.asg (.tup (.cons (.nm 3) (.cons (.nm 4) .nil))) (.call 16 (.cons (.v 0) (.cons (.v 1) (.cons (.op .Add (.v 2) (.c (.int 1))) .nil))))) (.cons (.ite (.cmp .Is (.v 3) (.c .non)) (.cons (.ret (.tup (.cons (.c .non) (.cons (.v 1) .nil)))) .nil) .nil) (.cons (.asg (.tup (.cons (.nm 5) (.cons (.nm 6) .nil))) (.call 18 (.cons (.v 0) (.cons (.v 4) (.cons (.v 2) .nil))))) (.cons (.ite (.cmp .Is (.v 5) (.c .non)) (.cons (.ret (.tup (.cons (.c .non) (.cons (.v 1) .nil)))) .nil) .nil) (.cons (.asg (.tup (.cons (.nm 7) (.cons (.nm 8) .nil))) (.call 18 (.cons (.v 0) (.cons (.v 6) (.cons (.v 2) .nil))))) (.cons (.ret (.ifx (.cmp .Is (.v 7) (.c .non)) (.tup (.cons (.c .non) (.cons (.v 1) .nil))) (.tup (.cons (.tup (.cons (.c (.str "if")) (.cons (.v 3) (.cons (.v 5) (.cons (.v 7) .nil))))) (.cons (.v 8) .nil))))) .nil))))))
def r_read_if : Z.Row := ⟨("read_if", none), ["text", "at", "deep"], ["text", "at", "deep", "test", "middle", "first", "second_at", "second", "end"], ⟨3, 9, b_read_if⟩, topS 41⟩
def b_read_statement : Ss := (.cons (.ite (.cmp .Eq (.sl (.v 0) (.some (.v 1)) (.some (.op .Add (.v 1) (.c (.int 4))))) (.c (.str "stop"))) (.cons (.ret (.tup (.cons (.tup (.cons (.c (.str "stop")) .nil)) (.cons (.op .Add (.v 1) (.c (.int 4))) .nil)))) .nil) .nil) (.cons (.ite (.cmp .Eq (.sl (.v 0) (.some (.v 1)) (.some (.op .Add (.v 1) (.c (.int 3))))) (.c (.str "if "))) (.cons (.ret (.call 19 (.cons (.v 0) (.cons (.op .Add (.v 1) (.c (.int 3))) (.cons (.v 2) .nil))))) .nil) .nil) (.cons (.ite (.cmp .Eq (.sl (.v 0) (.some (.v 1)) (.some (.op .Add (.v 1) (.c (.int 3))))) (.c (.str "do "))) (.cons (.asg (.nm 4) (.call 15 (.cons (.v 0) (.cons (.op .Add (.v 1) (.c (.int 3))) .nil)))) (.cons (.ret (.ifx (.cmp .NotEq (.v 4) (.lst false .nil)) (.tup (.cons (.tup (.cons (.c (.str "do")) (.cons (.ix (.v 4) (.c (.int 0))) .nil))) (.cons (.op .Add (.v 1) (.c (.int 4))) .nil))) (.tup (.cons (.c .non) (.cons (.v 1) .nil))))) .nil)) .nil) (.cons (.asg (.nm 3) (.call 15 (.cons (.v 0) (.cons (.op .Add (.v 1) (.c (.int 4))) .nil)))) (.cons (.ite (.bo .Or (.cons (.cmp .NotEq (.sl (.v 0) (.some (.v 1)) (.some (.op .Add (.v 1) (.c (.int 4))))) (.c (.str "set "))) (.cons (.cmp .Eq (.v 3) (.lst false .nil)) (.cons (.cmp .NotEq (.sl (.v 0) (.some (.op .Add (.v 1) (.c (.int 5)))) (.some (.op .Add (.v 1) (.c (.int 6))))) (.c (.str " "))) .nil)))) (.cons (.ret (.tup (.cons (.c .non) (.cons (.v 1) .nil)))) .nil) .nil) (.cons (.asg (.tup (.cons (.nm 5) (.cons (.nm 6) .nil))) (.call 16 (.cons (.v 0) (.cons (.op .Add (.v 1) (.c (.int 6))) (.cons (.op .Add (.v 2) (.c (.int 1))) .nil))))) (.cons (.ret (.ifx (.cmp .Is (.v 5) (.c .non)) (.tup (.cons (.c .non) (.cons (.v 1) .nil))) (.tup (.cons (.tup (.cons (.c (.str "set")) (.cons (.ix (.v 3) (.c (.int 0))) (.cons (.v 5) .nil)))) (.cons (.v 6) .nil))))) .nil)))))))
def r_read_statement : Z.Row := ⟨("read_statement", none), ["text", "at", "deep"], ["text", "at", "deep", "cell", "work", "value", "end"], ⟨3, 7, b_read_statement⟩, topS 42⟩
def b_need_text : Ss := (.cons (.ite (.not (.tru (.v 0))) (.cons (.rais 0) .nil) .nil) .nil)
def r_need_text : Z.Row := ⟨("need_text", none), ["holds"], ["holds"], ⟨1, 1, b_need_text⟩, topS 43⟩
def b_parse_statement : Ss := (.cons (.ex (.call 21 (.cons (.isi (.v 0) .str) .nil))) (.cons (.asg (.tup (.cons (.nm 1) (.cons (.nm 2) .nil))) (.call 20 (.cons (.v 0) (.cons (.c (.int 0)) (.cons (.c (.int 1)) .nil))))) (.cons (.ex (.call 21 (.cons (.bo .And (.cons (.cmp .IsNot (.v 1) (.c .non)) (.cons (.cmp .Eq (.v 2) (.bf .len (.cons (.v 0) .nil))) .nil))) .nil))) (.cons (.ex (.call 21 (.cons (.call 23 (.cons (.v 1) .nil)) .nil))) (.cons (.ret (.v 1)) .nil)))))
def r_parse_statement : Z.Row := ⟨("parse_statement", none), ["value"], ["value", "statement", "end"], ⟨1, 3, b_parse_statement⟩, topS 44⟩
def b_stands_somewhere : Ss := (.cons (.asg (.nm 1) (.op .Mult (.tup (.cons (.c (.int 2)) .nil)) (.g 3))) (.cons (.ret (.cmp .Is (.call 11 (.cons (.tup (.cons (.g 1) (.cons (.g 1) (.cons (.g 2) (.cons (.v 1) (.cons (.tup (.cons (.v 0) .nil)) (.cons (.tup .nil) .nil))))))) .nil)) (.c .non))) .nil))
def r_stands_somewhere : Z.Row := ⟨("stands_somewhere", none), ["statement"], ["statement", "cells"], ⟨1, 2, b_stands_somewhere⟩, topS 45⟩
def b_law_deck : Ss := (.cons (.ret (.lst true (.cons (.lc true (.nm 1) (.seq (.sl (.v 0) .none (.some (.c (.int 63))))) .none (.bf .abs (.cons (.v 1) .nil)) [("_law_cell", 1)]) (.cons (.c (.int 0)) .nil)))) .nil)
def r_law_deck : Z.Row := ⟨("_law_deck", none), ["_law_script"], ["_law_script", "_law_cell"], ⟨1, 2, b_law_deck⟩, topS 47⟩
def b_law_draw : Ss := (.cons (.asg (.sub (.v 0) (.c (.int 1))) (.op .Add (.ix (.v 0) (.c (.int 1))) (.c (.int 1)))) (.cons (.asg (.tup (.cons (.nm 3) (.cons (.nm 4) .nil))) (.tup (.cons (.c (.int 0)) (.cons (.neg (.c (.int 1))) .nil)))) (.cons (.ite (.cmp .Gt (.bf .len (.cons (.ix (.v 0) (.c (.int 0))) .nil)) (.c (.int 0))) (.cons (.asg (.nm 4) (.op .Mod (.bf .int (.cons (.ix (.v 0) (.c (.int 1))) .nil)) (.bf .len (.cons (.ix (.v 0) (.c (.int 0))) .nil)))) (.cons (.asg (.nm 3) (.ix (.ix (.v 0) (.c (.int 0))) (.v 4))) .nil)) .nil) (.cons (.ite (.cmp .GtE (.v 3) (.op .Pow (.c (.int 10)) (.c (.int 18)))) (.cons (.asg (.sub (.ix (.v 0) (.c (.int 0))) (.v 4)) (.op .FloorDiv (.bf .int (.cons (.v 3) .nil)) (.v 1))) (.cons (.ret (.op .Mod (.bf .int (.cons (.v 3) .nil)) (.v 1))) .nil)) .nil) (.cons (.asg (.nm 2) (.op .Add (.op .Add (.op .Mod (.bf .int (.cons (.v 3) .nil)) (.c (.int 2147483563))) (.op .Mult (.c (.int 8117)) (.ix (.v 0) (.c (.int 1))))) (.c (.int 3)))) (.cons (.ret (.op .Mod (.bf .int (.cons (.op .Mod (.bf .int (.cons (.op .Pow (.v 2) (.c (.int 5))) .nil)) (.c (.int 2147483629))) .nil)) (.v 1))) .nil))))))
def r_law_draw : Z.Row := ⟨("_law_draw", none), ["_law_deck_here", "_law_many"], ["_law_deck_here", "_law_many", "_law_mixed", "_law_cell", "_law_at"], ⟨2, 5, b_law_draw⟩, topS 48⟩
def b_law_one : Ss := (.cons (.ret (.ix (.v 1) (.call 25 (.cons (.v 0) (.cons (.bf .len (.cons (.v 1) .nil)) .nil))))) .nil)
def r_law_one : Z.Row := ⟨("_law_one", none), ["_law_deck_here", "_law_items"], ["_law_deck_here", "_law_items"], ⟨2, 2, b_law_one⟩, topS 49⟩
def b_law_sum : Ss := (.cons (.asg (.nm 3) (.call 25 (.cons (.v 0) (.cons (.c (.int 8)) .nil)))) (.cons (.ite (.cmp .Lt (.v 3) (.c (.int 3))) (.cons (.ret (.ix (.lst false (.cons (.c (.str "secret")) (.cons (.c (.str "known")) (.cons (.call 25 (.cons (.v 0) (.cons (.c (.int 10)) .nil))) .nil)))) (.v 3))) .nil) .nil) (.cons (.ite (.bo .Or (.cons (.cmp .Eq (.v 3) (.c (.int 3))) (.cons (.cmp .Lt (.v 2) (.c (.int 2))) .nil))) (.cons (.ret (.tup (.cons (.c (.str "cell")) (.cons (.call 25 (.cons (.v 0) (.cons (.v 1) .nil))) .nil)))) .nil) .nil) (.cons (.asg (.nm 4) (.call 26 (.cons (.v 0) (.cons (.lst false (.cons (.c (.str "plus")) (.cons (.c (.str "less")) (.cons (.c (.str "same")) (.cons (.c (.str "same")) (.cons (.c (.str "times")) .nil)))))) .nil)))) (.cons (.asg (.nm 5) (.call 27 (.cons (.v 0) (.cons (.v 1) (.cons (.op .Sub (.v 2) (.c (.int 1))) .nil))))) (.cons (.ret (.tup (.cons (.v 4) (.cons (.v 5) (.cons (.call 27 (.cons (.v 0) (.cons (.v 1) (.cons (.op .Sub (.v 2) (.c (.int 1))) .nil)))) .nil))))) .nil))))))
def r_law_sum : Z.Row := ⟨("_law_sum", none), ["_law_deck_here", "_law_cells", "_law_deep"], ["_law_deck_here", "_law_cells", "_law_deep", "_law_way", "_law_word", "_law_first"], ⟨3, 6, b_law_sum⟩, topS 50⟩
def b_law_statement : Ss := (.cons (.asg (.nm 4) (.call 25 (.cons (.v 0) (.cons (.c (.int 9)) .nil)))) (.cons (.ite (.bo .Or (.cons (.cmp .Lt (.v 4) (.c (.int 3))) (.cons (.bo .And (.cons (.cmp .Lt (.v 3) (.c (.int 2))) (.cons (.cmp .Gt (.v 4) (.c (.int 5))) .nil))) .nil))) (.cons (.ret (.tup (.cons (.c (.str "do")) (.cons (.call 25 (.cons (.v 0) (.cons (.v 1) .nil))) .nil)))) .nil) .nil) (.cons (.ite (.cmp .Lt (.v 4) (.c (.int 6))) (.cons (.ret (.tup (.cons (.c (.str "set")) (.cons (.call 25 (.cons (.v 0) (.cons (.v 2) .nil))) (.cons (.call 27 (.cons (.v 0) (.cons (.v 2) (.cons (.c (.int 2)) .nil)))) .nil))))) .nil) .nil) (.cons (.ite (.cmp .Eq (.v 4) (.c (.int 6))) (.cons (.ret (.tup (.cons (.c (.str "stop")) .nil))) .nil) .nil) (.cons (.par [5, 6] (.cons (.call 27 (.cons (.v 0) (.cons (.v 2) (.cons (.c (.int 2)) .nil)))) (.cons (.call 29 (.cons (.v 0) (.cons (.v 1) (.cons (.v 2) (.cons (.c (.int 2)) (.cons (.op .Sub (.v 3) (.c (.int 1))) .nil)))))) .nil))) (.cons (.ret (.tup (.cons (.c (.str "if")) (.cons (.v 5) (.cons (.v 6) (.cons (.call 29 (.cons (.v 0) (.cons (.v 1) (.cons (.v 2) (.cons (.c (.int 2)) (.cons (.op .Sub (.v 3) (.c (.int 1))) .nil)))))) .nil)))))) .nil))))))
def r_law_statement : Z.Row := ⟨("_law_statement", none), ["_law_deck_here", "_law_works", "_law_cells", "_law_deep"], ["_law_deck_here", "_law_works", "_law_cells", "_law_deep", "_law_way", "_law_test", "_law_first"], ⟨4, 7, b_law_statement⟩, topS 51⟩
def b_law_block : Ss := (.cons (.ret (.bf .tup (.cons (.lc false (.nm 5) (.rng1 (.cons (.call 25 (.cons (.v 0) (.cons (.op .Add (.v 3) (.c (.int 1))) .nil))) .nil)) .none (.call 28 (.cons (.v 0) (.cons (.v 1) (.cons (.v 2) (.cons (.v 4) .nil))))) [("_law_k", 5)]) .nil))) .nil)
def r_law_block : Z.Row := ⟨("_law_block", none), ["_law_deck_here", "_law_works", "_law_cells", "_law_most", "_law_deep"], ["_law_deck_here", "_law_works", "_law_cells", "_law_most", "_law_deep", "_law_k"], ⟨5, 6, b_law_block⟩, topS 52⟩
def b_law_sum_text : Ss := (.cons (.ite (.tru (.isi (.v 0) .int)) (.cons (.ret (.bf .str (.cons (.v 0) .nil))) .nil) .nil) (.cons (.ite (.tru (.isi (.v 0) .str)) (.cons (.ret (.ix (.v 0) (.c (.int 0)))) .nil) .nil) (.cons (.ite (.cmp .Eq (.bf .len (.cons (.v 0) .nil)) (.c (.int 2))) (.cons (.ret (.op .Add (.c (.str "c")) (.bf .str (.cons (.ix (.v 0) (.c (.int 1))) .nil)))) .nil) .nil) (.cons (.asg (.nm 1) (.dsel ["plus", "times", "less", "same"] (.cons (.c (.str "+")) (.cons (.c (.str "*")) (.cons (.c (.str "<")) (.cons (.c (.str "=")) .nil)))) (.ix (.v 0) (.c (.int 0))))) (.cons (.ret (.op .Add (.op .Add (.op .Add (.op .Add (.c (.str "(")) (.call 30 (.cons (.ix (.v 0) (.c (.int 1))) .nil))) (.v 1)) (.call 30 (.cons (.ix (.v 0) (.c (.int 2))) .nil))) (.c (.str ")")))) .nil)))))
def r_law_sum_text : Z.Row := ⟨("_law_sum_text", none), ["_law_value"], ["_law_value", "_law_sign"], ⟨1, 2, b_law_sum_text⟩, topS 53⟩
def b_law_statement_text : Ss := (.cons (.ite (.cmp .Eq (.ix (.v 0) (.c (.int 0))) (.c (.str "if"))) (.cons (.asg (.nm 2) (.lc false (.nm 4) (.seq (.sl (.v 0) (.some (.c (.int 2))) .none)) .none (.op .Add (.op .Add (.c (.str " {")) (.call 32 (.cons (.v 4) .nil))) (.c (.str "}"))) [("_law_block_here", 4)])) (.cons (.ret (.op .Add (.op .Add (.c (.str "if ")) (.call 30 (.cons (.ix (.v 0) (.c (.int 1))) .nil))) (.sm .join (.c (.str "")) (.v 2)))) .nil)) .nil) (.cons (.asg (.nm 1) (.lc false (.nm 3) (.seq (.sl (.v 0) .none (.some (.c (.int 2))))) .none (.bf .str (.cons (.v 3) .nil)) [("_law_part", 3)])) (.cons (.ret (.sm .join (.c (.str " ")) (.op .Add (.v 1) (.lc false (.nm 5) (.seq (.sl (.v 0) (.some (.c (.int 2))) .none)) .none (.call 30 (.cons (.v 5) .nil)) [("_law_value", 5)])))) .nil)))
def r_law_statement_text : Z.Row := ⟨("_law_statement_text", none), ["_law_statement_here"], ["_law_statement_here", "_law_words", "_law_blocks", "_law_part", "_law_block_here", "_law_value"], ⟨1, 6, b_law_statement_text⟩, topS 54⟩
def b_law_block_text : Ss := (.cons (.ret (.sm .join (.c (.str "; ")) (.lc false (.nm 1) (.seq (.v 0)) .none (.call 31 (.cons (.v 1) .nil)) [("_law_statement_here", 1)]))) .nil)
def r_law_block_text : Z.Row := ⟨("_law_block_text", none), ["_law_block_here"], ["_law_block_here", "_law_statement_here"], ⟨1, 2, b_law_block_text⟩, topS 55⟩
def b_law_sum_at : Ss := (.cons (.par [5, 6] (.cons (.sl (.v 0) (.some (.v 1)) (.some (.op .Add (.v 1) (.c (.int 1))))) (.cons (.sl (.v 0) (.some (.op .Add (.v 1) (.c (.int 1)))) (.some (.op .Add (.v 1) (.c (.int 2))))) .nil))) (.cons (.ite (.cmp .In (.v 5) (.tup (.cons (.c (.str "k")) (.cons (.c (.str "s")) .nil)))) (.cons (.ret (.tup (.cons (.ifx (.cmp .Eq (.v 5) (.c (.str "k"))) (.c (.str "known")) (.c (.str "secret"))) (.cons (.op .Add (.v 1) (.c (.int 1))) .nil)))) .nil) .nil) (.cons (.ite (.bo .And (.cons (.cmp .NotEq (.v 5) (.c (.str ""))) (.cons (.cmp .In (.v 5) (.c (.str "0123456789"))) .nil))) (.cons (.ret (.tup (.cons (.bf .int (.cons (.v 5) .nil)) (.cons (.op .Add (.v 1) (.c (.int 1))) .nil)))) .nil) .nil) (.cons (.ite (.cmp .Eq (.v 5) (.c (.str "c"))) (.cons (.ret (.ifx (.bo .And (.cons (.cmp .NotEq (.v 6) (.c (.str ""))) (.cons (.cmp .In (.v 6) (.c (.str "0123456789"))) .nil))) (.tup (.cons (.tup (.cons (.c (.str "cell")) (.cons (.bf .int (.cons (.v 6) .nil)) .nil))) (.cons (.op .Add (.v 1) (.c (.int 2))) .nil))) (.c .non))) .nil) .nil) (.cons (.asg (.nm 2) (.ifx (.cmp .Eq (.v 5) (.c (.str "("))) (.call 33 (.cons (.v 0) (.cons (.op .Add (.v 1) (.c (.int 1))) .nil))) (.c .non))) (.cons (.ite (.bo .Or (.cons (.cmp .Is (.v 2) (.c .non)) (.cons (.cmp .NotIn (.sl (.v 0) (.some (.ix (.v 2) (.c (.int 1)))) (.some (.op .Add (.ix (.v 2) (.c (.int 1))) (.c (.int 1))))) (.tup (.cons (.c (.str "+")) (.cons (.c (.str "*")) (.cons (.c (.str "<")) (.cons (.c (.str "=")) .nil)))))) .nil))) (.cons (.ret (.c .non)) .nil) .nil) (.cons (.asg (.nm 3) (.dsel ["+", "*", "<", "="] (.cons (.c (.str "plus")) (.cons (.c (.str "times")) (.cons (.c (.str "less")) (.cons (.c (.str "same")) .nil)))) (.ix (.v 0) (.ix (.v 2) (.c (.int 1)))))) (.cons (.asg (.nm 4) (.call 33 (.cons (.v 0) (.cons (.op .Add (.ix (.v 2) (.c (.int 1))) (.c (.int 1))) .nil)))) (.cons (.ite (.bo .Or (.cons (.cmp .Is (.v 4) (.c .non)) (.cons (.cmp .NotEq (.sl (.v 0) (.some (.ix (.v 4) (.c (.int 1)))) (.some (.op .Add (.ix (.v 4) (.c (.int 1))) (.c (.int 1))))) (.c (.str ")"))) .nil))) (.cons (.ret (.c .non)) .nil) .nil) (.cons (.ret (.tup (.cons (.tup (.cons (.v 3) (.cons (.ix (.v 2) (.c (.int 0))) (.cons (.ix (.v 4) (.c (.int 0))) .nil)))) (.cons (.op .Add (.ix (.v 4) (.c (.int 1))) (.c (.int 1))) .nil)))) .nil))))))))))
def r_law_sum_at : Z.Row := ⟨("_law_sum_at", none), ["_law_text_here", "_law_at"], ["_law_text_here", "_law_at", "_law_first", "_law_word", "_law_second", "_law_sign", "_law_more"], ⟨2, 7, b_law_sum_at⟩, topS 57⟩
def b_law_braced_at : Ss := (.cons (.asg (.nm 2) (.ifx (.cmp .Eq (.sl (.v 0) (.some (.v 1)) (.some (.op .Add (.v 1) (.c (.int 2))))) (.c (.str " {"))) (.call 37 (.cons (.v 0) (.cons (.op .Add (.v 1) (.c (.int 2))) .nil))) (.c .non))) (.cons (.ite (.bo .Or (.cons (.cmp .Is (.v 2) (.c .non)) (.cons (.cmp .NotEq (.sl (.v 0) (.some (.ix (.v 2) (.c (.int 1)))) (.some (.op .Add (.ix (.v 2) (.c (.int 1))) (.c (.int 1))))) (.c (.str "}"))) .nil))) (.cons (.ret (.c .non)) .nil) .nil) (.cons (.ret (.tup (.cons (.ix (.v 2) (.c (.int 0))) (.cons (.op .Add (.ix (.v 2) (.c (.int 1))) (.c (.int 1))) .nil)))) .nil)))
def r_law_braced_at : Z.Row := ⟨("_law_braced_at", none), ["_law_text_here", "_law_at"], ["_law_text_here", "_law_at", "_law_found"], ⟨2, 3, b_law_braced_at⟩, topS 58⟩
def b_law_if_at : Ss := (.cons (.asg (.nm 2) (.call 33 (.cons (.v 0) (.cons (.v 1) .nil)))) (.cons (.asg (.nm 3) (.ifx (.cmp .IsNot (.v 2) (.c .non)) (.call 34 (.cons (.v 0) (.cons (.ix (.v 2) (.c (.int 1))) .nil))) (.c .non))) (.cons (.asg (.nm 4) (.ifx (.cmp .IsNot (.v 3) (.c .non)) (.call 34 (.cons (.v 0) (.cons (.ix (.v 3) (.c (.int 1))) .nil))) (.c .non))) (.cons (.ret (.ifx (.cmp .IsNot (.v 4) (.c .non)) (.tup (.cons (.tup (.cons (.c (.str "if")) (.cons (.ix (.v 2) (.c (.int 0))) (.cons (.ix (.v 3) (.c (.int 0))) (.cons (.ix (.v 4) (.c (.int 0))) .nil))))) (.cons (.ix (.v 4) (.c (.int 1))) .nil))) (.c .non))) .nil))))
def r_law_if_at : Z.Row := ⟨("_law_if_at", none), ["_law_text_here", "_law_at"], ["_law_text_here", "_law_at", "_law_test", "_law_first", "_law_second"], ⟨2, 5, b_law_if_at⟩, topS 59⟩
def b_law_statement_at : Ss := (.cons (.ite (.cmp .Eq (.sl (.v 0) (.some (.v 1)) (.some (.op .Add (.v 1) (.c (.int 4))))) (.c (.str "stop"))) (.cons (.ret (.tup (.cons (.tup (.cons (.c (.str "stop")) .nil)) (.cons (.op .Add (.v 1) (.c (.int 4))) .nil)))) .nil) .nil) (.cons (.ite (.cmp .Eq (.sl (.v 0) (.some (.v 1)) (.some (.op .Add (.v 1) (.c (.int 3))))) (.c (.str "if "))) (.cons (.ret (.call 35 (.cons (.v 0) (.cons (.op .Add (.v 1) (.c (.int 3))) .nil)))) .nil) .nil) (.cons (.asg (.tup (.cons (.nm 3) (.cons (.nm 4) .nil))) (.ifx (.cmp .Eq (.sl (.v 0) (.some (.v 1)) (.some (.op .Add (.v 1) (.c (.int 1))))) (.c (.str "d"))) (.tup (.cons (.sl (.v 0) (.some (.v 1)) (.some (.op .Add (.v 1) (.c (.int 3))))) (.cons (.sl (.v 0) (.some (.op .Add (.v 1) (.c (.int 3)))) (.some (.op .Add (.v 1) (.c (.int 4))))) .nil))) (.tup (.cons (.c (.str "")) (.cons (.sl (.v 0) (.some (.op .Add (.v 1) (.c (.int 4)))) (.some (.op .Add (.v 1) (.c (.int 5))))) .nil))))) (.cons (.ite (.bo .Or (.cons (.cmp .Eq (.v 4) (.c (.str ""))) (.cons (.cmp .NotIn (.v 4) (.c (.str "0123456789"))) .nil))) (.cons (.ret (.c .non)) .nil) .nil) (.cons (.ite (.cmp .Eq (.v 3) (.c (.str "do "))) (.cons (.ret (.tup (.cons (.tup (.cons (.c (.str "do")) (.cons (.bf .int (.cons (.v 4) .nil)) .nil))) (.cons (.op .Add (.v 1) (.c (.int 4))) .nil)))) .nil) .nil) (.cons (.ite (.bo .Or (.cons (.cmp .NotEq (.v 3) (.c (.str ""))) (.cons (.cmp .NotEq (.sl (.v 0) (.some (.v 1)) (.some (.op .Add (.v 1) (.c (.int 4))))) (.c (.str "set "))) (.cons (.cmp .NotEq (.sl (.v 0) (.some (.op .Add (.v 1) (.c (.int 5)))) (.some (.op .Add (.v 1) (.c (.int 6))))) (.c (.str " "))) .nil)))) (.cons (.ret (.c .non)) .nil) .nil) (.cons (.asg (.nm 2) (.call 33 (.cons (.v 0) (.cons (.op .Add (.v 1) (.c (.int 6))) .nil)))) (.cons (.ret (.ifx (.cmp .IsNot (.v 2) (.c .non)) (.tup (.cons (.tup (.cons (.c (.str "set")) (.cons (.bf .int (.cons (.v 4) .nil)) (.cons (.ix (.v 2) (.c (.int 0))) .nil)))) (.cons (.ix (.v 2) (.c (.int 1))) .nil))) (.c .non))) .nil))))))))
def r_law_statement_at : Z.Row := ⟨("_law_statement_at", none), ["_law_text_here", "_law_at"], ["_law_text_here", "_law_at", "_law_value", "_law_word", "_law_sign"], ⟨2, 5, b_law_statement_at⟩, topS 60⟩
def b_law_block_at : Ss := (.cons (.asg (.nm 2) (.lst true .nil)) (.cons (.ite (.cmp .In (.sl (.v 0) (.some (.v 1)) (.some (.op .Add (.v 1) (.c (.int 1))))) (.tup (.cons (.c (.str "")) (.cons (.c (.str "}")) .nil)))) (.cons (.ret (.tup (.cons (.tup .nil) (.cons (.v 1) .nil)))) .nil) .nil) (.cons (.for_ (.nm 3) (.rng1 (.cons (.bf .len (.cons (.v 0) .nil)) .nil)) (.cons (.asg (.nm 4) (.call 36 (.cons (.v 0) (.cons (.v 1) .nil)))) (.cons (.ite (.cmp .Is (.v 4) (.c .non)) (.cons (.ret (.c .non)) .nil) .nil) (.cons (.ex (.app (.v 2) (.cons (.ix (.v 4) (.c (.int 0))) .nil))) (.cons (.asg (.nm 1) (.ix (.v 4) (.c (.int 1)))) (.cons (.ite (.cmp .NotEq (.sl (.v 0) (.some (.v 1)) (.some (.op .Add (.v 1) (.c (.int 2))))) (.c (.str "; "))) (.cons .brk .nil) .nil) (.cons (.asg (.nm 1) (.op .Add (.v 1) (.c (.int 2)))) .nil))))))) (.cons (.ret (.tup (.cons (.bf .tup (.cons (.v 2) .nil)) (.cons (.v 1) .nil)))) .nil))))
def r_law_block_at : Z.Row := ⟨("_law_block_at", none), ["_law_text_here", "_law_at"], ["_law_text_here", "_law_at", "_law_found", "_law_turn", "_law_one_here"], ⟨2, 5, b_law_block_at⟩, topS 61⟩
def b_law_changed : Ss := (.cons (.par [4, 5] (.cons (.call 25 (.cons (.v 0) (.cons (.op .Add (.bf .len (.cons (.v 1) .nil)) (.c (.int 1))) .nil))) (.cons (.call 26 (.cons (.v 0) (.cons (.v 2) .nil))) .nil))) (.cons (.asg (.nm 3) (.call 25 (.cons (.v 0) (.cons (.c (.int 4)) .nil)))) (.cons (.ite (.cmp .Eq (.v 3) (.c (.int 0))) (.cons (.ret (.op .Add (.sl (.v 1) .none (.some (.v 4))) (.sl (.v 1) (.some (.op .Add (.v 4) (.c (.int 1)))) .none))) .nil) .nil) (.cons (.ite (.bo .And (.cons (.cmp .Eq (.v 3) (.c (.int 1))) (.cons (.cmp .Lt (.v 4) (.bf .len (.cons (.v 1) .nil))) .nil))) (.cons (.ret (.op .Add (.op .Add (.sl (.v 1) .none (.some (.v 4))) (.ix (.v 1) (.v 4))) (.sl (.v 1) (.some (.v 4)) .none))) .nil) .nil) (.cons (.ret (.op .Add (.op .Add (.sl (.v 1) .none (.some (.v 4))) (.v 5)) (.sl (.v 1) (.some (.op .Add (.v 4) (.bf .int (.cons (.cmp .Eq (.v 3) (.c (.int 2))) .nil)))) .none))) .nil)))))
def r_law_changed : Z.Row := ⟨("_law_changed", none), ["_law_deck_here", "_law_text_here", "_law_pool"], ["_law_deck_here", "_law_text_here", "_law_pool", "_law_way", "_law_at", "_law_more"], ⟨3, 6, b_law_changed⟩, topS 62⟩
def b_law_due : Ss := (.cons (.asg (.nm 1) (.call 36 (.cons (.v 0) (.cons (.c (.int 0)) .nil)))) (.cons (.ite (.bo .Or (.cons (.cmp .Is (.v 1) (.c .non)) (.cons (.cmp .NotEq (.ix (.v 1) (.c (.int 1))) (.bf .len (.cons (.v 0) .nil))) .nil))) (.cons (.ret (.c .non)) .nil) .nil) (.cons (.ret (.ifx (.cmp .Is (.call 11 (.cons (.tup (.cons (.c (.int 3)) (.cons (.c (.int 3)) (.cons (.c (.int 5)) (.cons (.tup (.cons (.c (.int 2)) (.cons (.c (.int 2)) (.cons (.c (.int 2)) (.cons (.c (.int 2)) .nil))))) (.cons (.tup (.cons (.ix (.v 1) (.c (.int 0))) .nil)) (.cons (.tup .nil) .nil))))))) .nil)) (.c .non)) (.ix (.v 1) (.c (.int 0))) (.c .non))) .nil)))
def r_law_due : Z.Row := ⟨("_law_due", none), ["_law_text_here"], ["_law_text_here", "_law_found"], ⟨1, 2, b_law_due⟩, topS 63⟩
def b_law_told : Ss := (.cons (.tryC (.cons (.asg (.nm 1) (.call 22 (.cons (.v 0) .nil))) .nil) 0 (.set 1 .non)) (.cons (.ret (.v 1)) .nil))
def r_law_told : Z.Row := ⟨("_law_told", none), ["_law_text_here"], ["_law_text_here", "_law_found"], ⟨1, 2, b_law_told⟩, topS 64⟩
def b_law : Ss := (.cons (.asg (.nm 1) (.call 24 (.cons (.v 0) .nil))) (.cons (.asg (.nm 2) (.lst true (.cons (.c (.str "")) (.cons (.c (.str "do")) (.cons (.c (.str "do 5")) (.cons (.c (.str "do 4")) (.cons (.c (.str "set 3 9")) (.cons (.c (.str "set 4 9")) (.cons (.c (.str "stop")) (.cons (.c (.str "stop ")) (.cons (.c (.str " stop")) (.cons (.c (.str "do 0; do 1")) (.cons (.c (.str "if 1 {} {}")) .nil))))))))))))) (.cons (.asg (.nm 2) (.opM .Add (.v 2) (.lst false (.cons (.c (.str "if 1 {}")) (.cons (.c (.str "if c4 {} {}")) (.cons (.c (.str "set 0 c3")) (.cons (.c (.str "body do 0")) (.cons (.c (.str "do 0\n")) (.cons (.c (.str "do -1")) (.cons (.c (.str "set 0 x")) .nil)))))))))) (.cons (.ex (.app (.v 2) (.cons (.c (.str "if (s=k) {stop; stop} {if 0 {} {}}")) .nil))) (.cons (.for_ (.nm 3) (.rng1 (.cons (.c (.int 12)) .nil)) (.cons (.asg (.nm 4) (.call 28 (.cons (.v 1) (.cons (.c (.int 5)) (.cons (.c (.int 4)) (.cons (.c (.int 4)) .nil)))))) (.cons (.ite (.cmp .Eq (.call 25 (.cons (.v 1) (.cons (.c (.int 3)) .nil))) (.c (.int 0))) (.cons (.asg (.nm 4) (.tup (.cons (.c (.str "set")) (.cons (.call 25 (.cons (.v 1) (.cons (.c (.int 4)) .nil))) (.cons (.call 27 (.cons (.v 1) (.cons (.c (.int 4)) (.cons (.c (.int 5)) .nil)))) .nil))))) .nil) .nil) (.cons (.asg (.nm 5) (.call 31 (.cons (.v 4) .nil))) (.cons (.for_ (.nm 6) (.seq (.lst false (.cons (.v 5) (.cons (.call 26 (.cons (.v 1) (.cons (.v 2) .nil))) .nil)))) (.cons (.for_ (.nm 7) (.rng1 (.cons (.call 26 (.cons (.v 1) (.cons (.lst false (.cons (.c (.int 0)) (.cons (.c (.int 1)) (.cons (.c (.int 1)) (.cons (.c (.int 2)) .nil))))) .nil))) .nil)) (.cons (.asg (.nm 6) (.call 38 (.cons (.v 1) (.cons (.v 6) (.cons (.c (.str "dosetif kc01234{}();+<=*p")) .nil))))) .nil)) (.cons (.asg (.nm 8) (.call 39 (.cons (.v 6) .nil))) (.cons (.ite (.cmp .NotEq (.bf .repr (.cons (.lst false (.cons (.call 40 (.cons (.v 6) .nil)) (.cons (.call 40 (.cons (.v 6) .nil)) .nil))) .nil)) (.bf .repr (.cons (.lst false (.cons (.v 8) (.cons (.v 8) .nil))) .nil))) (.cons (.ret (.c (.bl false))) .nil) .nil) (.cons (.ite (.bo .And (.cons (.cmp .IsNot (.v 8) (.c .non)) (.cons (.cmp .NotEq (.call 13 (.cons (.v 8) .nil)) (.v 6)) .nil))) (.cons (.ret (.c (.bl false))) .nil) .nil) .nil))))) .nil))))) (.cons (.ret (.cmp .Is (.call 40 (.cons (.call 26 (.cons (.v 1) (.cons (.lst false (.cons (.c .non) (.cons (.c (.int 7)) (.cons (.tup (.cons (.c (.str "do")) (.cons (.c (.int 0)) .nil))) (.cons (.lst false .nil) (.cons .dicE (.cons (.c (.bl true)) (.cons (.tup (.cons (.c (.str "stop")) .nil)) (.cons (.op .Pow (.c (.int 10)) (.c (.int 30))) .nil))))))))) .nil))) .nil)) (.c .non))) .nil))))))
def r_law : Z.Row := ⟨("law", none), ["_law_script"], ["_law_script", "_law_deck_here", "_law_some", "_law_turn", "_law_made", "_law_text_here", "_law_told_here", "_law_k", "_law_due_here"], ⟨1, 9, b_law⟩, topS 65⟩
def rows : List Z.Row := [r_is_integer, r_is_tuple, r_is_cell, r_is_sum, r_is_statement, r_is_block, r_are_cells, r_stands_of, r_sum_parts, r_block_parts, r_parts, r_program_error, r_sum_text, r_statement_text, r_block_text, r_digit_at, r_read_sum, r_read_block, r_read_braced, r_read_if, r_read_statement, r_need_text, r_parse_statement, r_stands_somewhere, r_law_deck, r_law_draw, r_law_one, r_law_sum, r_law_statement, r_law_block, r_law_sum_text, r_law_statement_text, r_law_block_text, r_law_sum_at, r_law_braced_at, r_law_if_at, r_law_statement_at, r_law_block_at, r_law_changed, r_law_due, r_law_told, r_law]
def cls : List CRow := []
def exs : List XRow := [("BadText", [0])]
def dcs : List DRow := [("SIGNS", [("plus", (.str "+")), ("times", (.str "*")), ("less", (.str "<")), ("same", (.str "="))]), ("NAMES", [("+", (.str "plus")), ("*", (.str "times")), ("<", (.str "less")), ("=", (.str "same"))]), ("LETTERS", [("known", (.str "k")), ("secret", (.str "s"))]), ("SUMS", [("k", (.str "known")), ("s", (.str "secret"))])]
def loose0 : List Str := ["MAX_NUMBER", "MAX_LETTERS", "MAX_WORKS", "MAX_CELLS", "MAX_SIZE", "MAX_STANDS", "MAX_PARTS", "MAX_LEVEL", "TimeError", "BadText", "KNOWN", "SECRET", "OPERATORS", "is_integer", "is_tuple", "is_cell", "is_sum", "is_statement", "is_block", "are_cells"]
def loose1 : List Str := ["stands_of", "sum_parts", "block_parts", "parts", "program_error", "SIGNS", "NAMES", "LETTERS", "SUMS", "DIGITS", "DEEPEST", "sum_text", "statement_text", "block_text", "digit_at", "read_sum", "read_block", "read_braced", "read_if", "read_statement"]
def loose2 : List Str := ["need_text", "parse_statement", "stands_somewhere", "_law_deck", "_law_draw", "_law_one", "_law_sum", "_law_statement", "_law_block", "_law_sum_text", "_law_statement_text", "_law_block_text", "_law_text", "_law_sum_at", "_law_braced_at", "_law_if_at", "_law_statement_at", "_law_block_at", "_law_changed", "_law_due"]
def loose3 : List Str := ["_law_told"]
def loose : List Str := loose0 ++ loose1 ++ loose2 ++ loose3
def C : Tab := tabOf rows gl cls exs dcs
def T : List Fn := rows.map Z.Row.fn
def G : Ev := (tabOf rows gl cls exs dcs).G
theorem ok_r_is_integer : rowOk C r_is_integer = true := by decide +kernel
theorem ok_r_is_tuple : rowOk C r_is_tuple = true := by decide +kernel
theorem ok_r_is_cell : rowOk C r_is_cell = true := by decide +kernel
theorem ok_r_is_sum : rowOk C r_is_sum = true := by decide +kernel
theorem ok_r_is_statement : rowOk C r_is_statement = true := by decide +kernel
theorem ok_r_is_block : rowOk C r_is_block = true := by decide +kernel
theorem ok_r_are_cells : rowOk C r_are_cells = true := by decide +kernel
theorem ok_r_stands_of : rowOk C r_stands_of = true := by decide +kernel
theorem ok_r_sum_parts : rowOk C r_sum_parts = true := by decide +kernel
theorem ok_r_block_parts : rowOk C r_block_parts = true := by decide +kernel
theorem ok_r_parts : rowOk C r_parts = true := by decide +kernel
theorem ok_r_program_error : rowOk C r_program_error = true := by decide +kernel
theorem ok_r_sum_text : rowOk C r_sum_text = true := by decide +kernel
theorem ok_r_statement_text : rowOk C r_statement_text = true := by decide +kernel
theorem ok_r_block_text : rowOk C r_block_text = true := by decide +kernel
theorem ok_r_digit_at : rowOk C r_digit_at = true := by decide +kernel
theorem ok_r_read_sum : rowOk C r_read_sum = true := by decide +kernel
theorem ok_r_read_block : rowOk C r_read_block = true := by decide +kernel
theorem ok_r_read_braced : rowOk C r_read_braced = true := by decide +kernel
theorem ok_r_read_if : rowOk C r_read_if = true := by decide +kernel
theorem ok_r_read_statement : rowOk C r_read_statement = true := by decide +kernel
theorem ok_r_need_text : rowOk C r_need_text = true := by decide +kernel
theorem ok_r_parse_statement : rowOk C r_parse_statement = true := by decide +kernel
theorem ok_r_stands_somewhere : rowOk C r_stands_somewhere = true := by decide +kernel
theorem ok_r_law_deck : rowOk C r_law_deck = true := by decide +kernel
theorem ok_r_law_draw : rowOk C r_law_draw = true := by decide +kernel
theorem ok_r_law_one : rowOk C r_law_one = true := by decide +kernel
theorem ok_r_law_sum : rowOk C r_law_sum = true := by decide +kernel
theorem ok_r_law_statement : rowOk C r_law_statement = true := by decide +kernel
theorem ok_r_law_block : rowOk C r_law_block = true := by decide +kernel
theorem ok_r_law_sum_text : rowOk C r_law_sum_text = true := by decide +kernel
theorem ok_r_law_statement_text : rowOk C r_law_statement_text = true := by decide +kernel
theorem ok_r_law_block_text : rowOk C r_law_block_text = true := by decide +kernel
theorem ok_r_law_sum_at : rowOk C r_law_sum_at = true := by decide +kernel
theorem ok_r_law_braced_at : rowOk C r_law_braced_at = true := by decide +kernel
theorem ok_r_law_if_at : rowOk C r_law_if_at = true := by decide +kernel
theorem ok_r_law_statement_at : rowOk C r_law_statement_at = true := by decide +kernel
theorem ok_r_law_block_at : rowOk C r_law_block_at = true := by decide +kernel
theorem ok_r_law_changed : rowOk C r_law_changed = true := by decide +kernel
theorem ok_r_law_due : rowOk C r_law_due = true := by decide +kernel
theorem ok_r_law_told : rowOk C r_law_told = true := by decide +kernel
theorem ok_r_law : rowOk C r_law = true := by decide +kernel
end K04

/-! Z layer, part Qa: loops over a list that is known, as recursion over that list. -/
namespace Z
open PySem PySem.Spec PyProof.Rows L2
/-- what a source goes over, whatever the store -/
structure Sta (s : Src) (ds : List D) : Prop where
  len : s.len = ds.length
  get : ∀ S i, i < ds.length → s.at S i = ds[i]?
  fin : ∀ S, s.fin S = true
theorem sta_vals (ds : List D) : Sta (.vals ds) ds := ⟨rfl, fun _ _ _ => rfl, fun _ => rfl⟩
theorem sta_zip {s t : Src} {xs ys : List D} (a : Sta s xs) (b : Sta t ys) : Sta (.zip s t) (List.zipWith (fun x y => D.tup [x, y]) xs ys) := by
  refine ⟨?_, fun S i hi => ?_, fun S => ?_⟩
  · show min s.len t.len = _
    rw [a.len, b.len, List.length_zipWith]
  · rw [List.length_zipWith] at hi
    show (match s.at S i, t.at S i with | some x, some y => some (D.tup [x, y]) | _, _ => none) = _
    rw [a.get S i (by omega), b.get S i (by omega), List.getElem?_eq_getElem (by omega), List.getElem?_eq_getElem (by omega), List.getElem?_eq_getElem (by rw [List.length_zipWith]; omega), List.getElem_zipWith]
  · show (s.fin S && t.fin S) = true
    rw [a.fin, b.fin]; rfl
def forL (g : GM) (b : MS) : List D → Sl → Sto → OutS
  | [], sd, S => .ok .nx sd S
  | d :: l, sd, S => match g d sd S with
    | none => .bad
    | some (sd1, S1) => match b sd1 S1 with
      | .ok .nx sd2 S2 => forL g b l sd2 S2
      | .ok .ct sd2 S2 => forL g b l sd2 S2
      | .ok .bk sd2 S2 => .ok .nx sd2 S2
      | .ok (.rt d) sd2 S2 => .ok (.rt d) sd2 S2
      | .exc c fs sd2 S2 => .exc c fs sd2 S2
      | .bad => .bad
theorem forGo_list {s : Src} {ds : List D} (h : Sta s ds) {g : GM} {b : MS} : ∀ (n i : Nat) (sd : Sl) (S : Sto), i + n = ds.length → forGo s g b n i sd S = forL g b (ds.drop i) sd S
  | 0, i, sd, S, hi => by
    rw [List.drop_eq_nil_of_le (by omega)]
    simp [forGo, forL, h.fin]
  | n + 1, i, sd, S, hi => by
    have hlt : i < ds.length := by omega
    rw [List.drop_eq_getElem_cons hlt]
    unfold forGo forL
    rw [h.get S i hlt, List.getElem?_eq_getElem hlt]
    simp only []
    cases g ds[i] sd S with
    | none => rfl
    | some q =>
      obtain ⟨sd1, S1⟩ := q
      simp only []
      cases b sd1 S1 with
      | ok f sd2 S2 => cases f <;> simp only [forGo_list h n (i + 1) sd2 S2 (by omega)]
      | exc _ _ _ _ => rfl
      | bad => rfl
theorem for_list {s : Src} {ds : List D} (h : Sta s ds) {g : GM} {b : MS} {sd : Sl} {S : Sto} : forGo s g b s.len 0 sd S = forL g b ds sd S := by
  rw [forGo_list h s.len 0 sd S (by rw [h.len]; omega), List.drop_zero]
theorem forV {ds : List D} {g : GM} {b : MS} {sd : Sl} {S : Sto} : forGo (.vals ds) g b ds.length 0 sd S = forL g b ds sd S := for_list (sta_vals ds)
def lcL (g : GM) (c : M Bool) (e : M D) (sw : Sl) : List D → Sto → Out (List D)
  | [], S => .ok [] S
  | d :: l, S => match g d sw S with
    | none => .bad
    | some (sd, S1) => match c sd S1 with
      | .ok true S2 => match e sd S2 with
        | .ok y S3 => match lcL g c e sw l S3 with
          | .ok ys S4 => .ok (y :: ys) S4
          | _ => .bad
        | _ => .bad
      | .ok false S2 => lcL g c e sw l S2
      | _ => .bad
def preO (acc : List D) : Out (List D) → Out (List D)
  | .ok ys S => .ok (acc ++ ys) S
  | _ => .bad
theorem lcGo_list {s : Src} {ds : List D} (h : Sta s ds) {g : GM} {c : M Bool} {e : M D} {sw : Sl} : ∀ (n i : Nat) (acc : List D) (S : Sto), i + n = ds.length → acc.length + n ≤ 16777216 → lcGo s g c e sw n i acc S = preO acc (lcL g c e sw (ds.drop i) S)
  | 0, i, acc, S, hi, _ => by
    rw [List.drop_eq_nil_of_le (by omega)]
    simp [lcGo, lcL, h.fin, preO]
  | n + 1, i, acc, S, hi, hl => by
    have hlt : i < ds.length := by omega
    rw [List.drop_eq_getElem_cons hlt]
    unfold lcGo lcL
    rw [h.get S i hlt, List.getElem?_eq_getElem hlt]
    simp only []
    cases g ds[i] sw S with
    | none => rfl
    | some q =>
      obtain ⟨sd1, S1⟩ := q
      simp only []
      cases c sd1 S1 with
      | ok f S2 =>
        cases f with
        | false => simp only [lcGo_list h n (i + 1) acc S2 (by omega) (by omega)]
        | true =>
          simp only []
          cases e sd1 S2 with
          | ok y S3 =>
            simp only []
            rw [if_pos (by omega), lcGo_list h n (i + 1) (acc ++ [y]) S3 (by omega) (by simp; omega)]
            cases lcL g c e sw (ds.drop (i + 1)) S3 with
            | ok ys S4 => simp [preO]
            | exc _ _ _ => rfl
            | bad => rfl
          | exc _ _ _ => rfl
          | bad => rfl
      | exc _ _ _ => rfl
      | bad => rfl
theorem lc_list {s : Src} {ds : List D} (h : Sta s ds) (hl : ds.length ≤ 16777216) {g : GM} {c : M Bool} {e : M D} {sw : Sl} {S : Sto} {ys : List D} {S' : Sto} (hy : lcL g c e sw ds S = .ok ys S') : lcGo s g c e sw s.len 0 [] S = .ok ys S' := by
  rw [lcGo_list h s.len 0 [] S (by rw [h.len]; omega) (by rw [h.len]; simpa using hl), List.drop_zero, hy]
  rfl
/-- a comprehension that leaves the store alone -/
theorem lcL_pure {g : GM} {c : M Bool} {e : M D} {sw : Sl} {S : Sto} {h : D → D} : ∀ {ds : List D}, (∀ d ∈ ds, ∃ sd, g d sw S = some (sd, S) ∧ c sd S = .ok true S ∧ e sd S = .ok (h d) S) → lcL g c e sw ds S = .ok (ds.map h) S
  | [], _ => rfl
  | d :: l, hy => by
    obtain ⟨sd, h1, h2, h3⟩ := hy d (.head _)
    unfold lcL
    simp only [h1, h2, h3, lcL_pure (ds := l) fun d hd => hy d (.tail _ hd), List.map_cons]
end Z

/-! Z layer, part R1: statements one by one; the store's older part. -/
namespace Z
open PySem PySem.Spec PyProof.Rows L2
def Ss.at : Ss → Nat → S1
  | .nil, _ => .pass
  | .cons s _, 0 => s
  | .cons _ b, i + 1 => b.at i
def Ss.fr : Ss → Nat → Ss
  | b, 0 => b
  | .nil, _ => .nil
  | .cons _ b, i + 1 => b.fr i
theorem stp {G : Ev} {C : Nat → List D → Sto → Out D} {wf : Nat} {b : Ss} {i : Nat} {sd sd1 : Sl} {S S1 : Sto} (hs : b.fr i = .cons (b.at i) (b.fr (i + 1))) (h : dS G C wf (b.at i) sd S = .ok .nx sd1 S1) :
    dSs G C wf (b.fr i) sd S = dSs G C wf (b.fr (i + 1)) sd1 S1 := by
  rw [hs, q_scons, then_nx h]
theorem stp0 {G : Ev} {C : Nat → List D → Sto → Out D} {wf : Nat} {b : Ss} {sd sd1 : Sl} {S S1 : Sto} (hs : b = .cons (b.at 0) (b.fr 1)) (h : dS G C wf (b.at 0) sd S = .ok .nx sd1 S1) :
    dSs G C wf b sd S = dSs G C wf (b.fr 1) sd1 S1 := by
  rw [hs, q_scons, ← hs, then_nx h]
/-- the older part of the store stays -/
structure Pre (S S' : Sto) : Prop where
  len : S.length ≤ S'.length
  get : ∀ i, i < S.length → S'[i]? = S[i]?
theorem Pre.refl (S : Sto) : Pre S S := ⟨Nat.le_refl _, fun _ _ => rfl⟩
theorem Pre.trans {S S1 S2 : Sto} (a : Pre S S1) (b : Pre S1 S2) : Pre S S2 := ⟨Nat.le_trans a.len b.len, fun i hi => (b.get i (Nat.lt_of_lt_of_le hi a.len)).trans (a.get i hi)⟩
theorem Pre.kp {S S' : Sto} (h : Pre S S') (X : Nat → Prop) : Kp S S' X := ⟨h.len, fun c _ h2 _ => h.get c h2⟩
theorem Pre.dk {S S' : Sto} (h : Pre S S') {n : Int} (d : Dk S 0 1 n) : Dk S' 0 1 n := by
  obtain ⟨ne, ⟨xs, h1, h2⟩, h3⟩ := d
  exact ⟨ne, ⟨xs, by rw [h.get 0 (List.getElem?_eq_some_iff.mp h1).1]; exact h1, h2⟩, by rw [h.get 1 (List.getElem?_eq_some_iff.mp h3).1]; exact h3⟩
theorem Pre.push {S : Sto} {l : List MO} : Pre S (S ++ l) := ⟨by simp, fun i hi => List.getElem?_append_left hi⟩
theorem Pre.set {S S' : Sto} (h : Pre S S') {n : Nat} {o : MO} (hn : S.length ≤ n) : Pre S (S'.set n o) := ⟨by simpa using h.len, fun i hi => by rw [List.getElem?_set_ne (by omega)]; exact h.get i hi⟩
theorem ite_t {c : M Bool} {a b : MS} {sd : Sl} {S S1 : Sto} (h : c sd S = .ok true S1) : mIte c a b sd S = a sd S1 := by rw [q_mIte, h]; rfl
theorem ite_f {c : M Bool} {a b : MS} {sd : Sl} {S S1 : Sto} (h : c sd S = .ok false S1) : mIte c a b sd S = b sd S1 := by rw [q_mIte, h]; rfl
theorem par_2 {G : Ev} {C : Nat → List D → Sto → Out D} {wf : Nat} {sd : Sl} {S S1 S2 : Sto} {i j : Nat} {e e2 : E} {x y : D} (h1 : dE G C e sd S = .ok x S1) (h2 : dE G C e2 sd S1 = .ok y S2) : dS G C wf (.par [i, j] (.cons e (.cons e2 .nil))) sd S = .ok .nx ((sd.set i (some x)).set j (some y)) S2 := by
  rw [q_spar, par2_ok]
  rw [q_lcons, q_mCons, h1]
  simp only []
  rw [q_lcons, q_mCons, h2]
  rfl
theorem dl2 {G : Ev} {C : Nat → List D → Sto → Out D} {e e2 : E} {sd : Sl} {S S1 S2 : Sto} {a b : D} (h1 : dE G C e sd S = .ok a S1) (h2 : dE G C e2 sd S1 = .ok b S2) : dL G C (.cons e (.cons e2 .nil)) sd S = .ok [a, b] S2 := by
  rw [q_lcons, q_mCons, h1]
  simp only []
  rw [q_lcons, q_mCons, h2]
  rfl
theorem asg_ok {m : M D} {i : Nat} {sd : Sl} {S S1 : Sto} {d : D} (h : m sd S = .ok d S1) : mAsg m (gNm i) sd S = .ok .nx (sd.set i (some d)) S1 := by
  rw [q_mAsg, h]
  rfl
theorem lst2 {G : Ev} {C : Nat → List D → Sto → Out D} {sd : Sl} {S S1 S2 : Sto} {e e2 : E} {a b : D} (h1 : dE G C e sd S = .ok a S1) (h2 : dE G C e2 sd S1 = .ok b S2) : dE G C (.lst false (.cons e (.cons e2 .nil))) sd S = .ok (.lst [a, b]) S2 := by
  rw [q_elstF, q_mLst, dl2 h1 h2]
  rfl
@[simp] theorem q_edgt {G : Ev} {C : Nat → List D → Sto → Out D} {j : Nat} {a : E} : dE G C (.dgt j a) = mDgt (G.dc.getD j []) (dE G C a) := rfl
@[simp] theorem q_edin {G : Ev} {C : Nat → List D → Sto → Out D} {neg : Bool} {j : Nat} {a : E} : dE G C (.din neg a j) = mDin neg (G.dc.getD j []) (dE G C a) := rfl
@[simp] theorem q_edgd {G : Ev} {C : Nat → List D → Sto → Out D} {j : Nat} {a b : E} : dE G C (.dgd j a b) = mDgd (G.dc.getD j []) (dE G C a) (dE G C b) := rfl
@[simp] theorem q_tdin {G : Ev} {C : Nat → List D → Sto → Out D} {neg : Bool} {j : Nat} {a : E} : dT G C (.din neg a j) = mBl (mDin neg (G.dc.getD j []) (dE G C a)) := rfl
@[simp] theorem q_mDgt {kvs : List (Str × D)} {a : M D} {sd : Sl} {S : Sto} : mDgt kvs a sd S = (match a sd S with | .ok x S1 => (match x with | .str k => lift (kvs.lookup k) S1 | _ => .bad) | .exc c fs S0 => .exc c fs S0 | .bad => .bad) := by kernel_rfl
@[simp] theorem q_mDin {neg : Bool} {kvs : List (Str × D)} {a : M D} {sd : Sl} {S : Sto} : mDin neg kvs a sd S = (match a sd S with | .ok x S1 => (match x with | .str k => .ok (.bl (if neg then !(kvs.lookup k).isSome else (kvs.lookup k).isSome)) S1 | _ => .bad) | .exc c fs S0 => .exc c fs S0 | .bad => .bad) := by kernel_rfl
@[simp] theorem q_mDgd {kvs : List (Str × D)} {a b : M D} {sd : Sl} {S : Sto} : mDgd kvs a b sd S = (match a sd S with | .ok x S1 => (match b sd S1 with | .ok y S2 => (match x with | .str k => .ok ((kvs.lookup k).getD y) S2 | _ => .bad) | .exc c fs S0 => .exc c fs S0 | .bad => .bad) | .exc c fs S0 => .exc c fs S0 | .bad => .bad) := by kernel_rfl
@[simp] theorem q_srais {G : Ev} {C : Nat → List D → Sto → Out D} {wf c : Nat} {sd : Sl} {S : Sto} : dS G C wf (.rais c) sd S = .exc c none sd S := rfl
theorem q_stry {G : Ev} {C : Nat → List D → Sto → Out D} {wf c : Nat} {b : Ss} {h : Hd} : dS G C wf (.tryC b c h) = mTry (dSs G C wf b) G.xok (fun j => G.xin j c) (mHd h) := rfl
theorem try_ok {b h : MS} {ok p : Nat → Bool} {sd sd1 : Sl} {S S1 : Sto} {f : Fl} (e : b sd S = .ok f sd1 S1) : mTry b ok p h sd S = .ok f sd1 S1 := by unfold mTry; rw [e]
theorem try_exc {b h : MS} {ok p : Nat → Bool} {sd sd1 : Sl} {S S1 : Sto} {c : Nat} {fs : XF} (e : b sd S = .exc c fs sd1 S1) (h1 : ok c = true) (h2 : p c = true) : mTry b ok p h sd S = h sd1 S1 := by unfold mTry; rw [e]; simp [h1, h2]
theorem then_ex {a b : MS} {sd sd1 : Sl} {S S1 : Sto} {c : Nat} {fs : XF} (h : a sd S = .exc c fs sd1 S1) : mThen a b sd S = .exc c fs sd1 S1 := by unfold mThen; rw [h]
/-- a comprehension that leaves the store -/
theorem lcP {G : Ev} {C : Nat → List D → Sto → Out D} {i : Nat} {it : It} {c : Ot} {e : E} {own : List (Str × Nat)} {sd : Sl} {S : Sto} {ds : List D} (p : D → Bool) (h : D → D) (hi : dI G C it sd S = .ok (.vals ds) S) (hl : ds.length ≤ 16777216)
    (hd : ∀ d ∈ ds, dC G C c ((wipeD sd (own.map (·.2))).set i (some d)) S = .ok (p d) S ∧ (p d = true → dE G C e ((wipeD sd (own.map (·.2))).set i (some d)) S = .ok (h d) S)) :
    dE G C (.lc false (.nm i) it c e own) sd S = .ok (.lst ((ds.filter p).map h)) S := by
  rw [q_elcF, q_mLc, q_mLcL, hi]
  simp only []
  have key := lc_pure (ds := ds) (g := gNm i) (c := dC G C c) (e := dE G C e) (sw := wipeD sd (own.map (·.2))) (S := S) (p := p) (h := h) (fun d hm => ⟨_, rfl, (hd d hm).1, (hd d hm).2⟩) ds.length 0 [] (by simp) (by simp; omega)
  rw [show (Src.vals ds).len = ds.length from rfl, q_gnm, key]
  simp
section
variable {G : Ev} {C : Nat → List D → Sto → Out D} {wf : Nat} {sd : Sl} {S S1 S2 : Sto}
theorem t_orF {a b : Tt} (h1 : dT G C a sd S = .ok false S1) : dT G C (.bo .Or (.cons a (.cons b .nil))) sd S = dT G C b sd S1 := by rw [q_tbo, q_tbO, q_mOrT, h1]; rfl
theorem t_orT {a : Tt} {b : Tts} {b0 : Tt} (h1 : dT G C a sd S = .ok true S1) : dT G C (.bo .Or (.cons a (.cons b0 b))) sd S = .ok true S1 := by rw [q_tbo, q_tbO, q_mOrT, h1]; rfl
theorem t_andT {a b : Tt} (h1 : dT G C a sd S = .ok true S1) : dT G C (.bo .And (.cons a (.cons b .nil))) sd S = dT G C b sd S1 := by rw [q_tbo, q_tbA, q_mAndT, h1]; rfl
theorem t_andF {a : Tt} {b : Tts} {b0 : Tt} (h1 : dT G C a sd S = .ok false S1) : dT G C (.bo .And (.cons a (.cons b0 b))) sd S = .ok false S1 := by rw [q_tbo, q_tbA, q_mAndT, h1]; rfl
theorem t_cmp {o : CmpOp} {a b : E} {x y : D} {k : Bool} (h1 : dE G C a sd S = .ok x S1) (h2 : dE G C b sd S1 = .ok y S2) (h3 : cmpF o S2 x y = some (.bl k)) : dT G C (.cmp o a b) sd S = .ok k S2 := by
  rw [q_tcmp, q_mBl, q_mBin, h1]
  simp only [h2, h3, q_liftS, q_toB]
theorem e_cmp {o : CmpOp} {a b : E} {x y z : D} (h1 : dE G C a sd S = .ok x S1) (h2 : dE G C b sd S1 = .ok y S2) (h3 : cmpF o S2 x y = some z) : dE G C (.cmp o a b) sd S = .ok z S2 := by
  rw [q_ecmp, q_mBin, h1]
  simp only [h2, h3, q_liftS]
theorem e_op {o : Operator} {a b : E} {x y z : D} (h1 : dE G C a sd S = .ok x S1) (h2 : dE G C b sd S1 = .ok y S2) (h3 : opF o S2 x y = some z) : dE G C (.op o a b) sd S = .ok z S2 := by
  rw [q_eop, q_mBin, h1]
  simp only [h2, h3, q_liftS]
theorem e_bf1 {f : Bf} {a : E} {x z : D} (h1 : dE G C a sd S = .ok x S1) (h3 : bfF f S1 [x] = some z) : dE G C (.bf f (.cons a .nil)) sd S = .ok z S1 := by
  rw [q_ebf, q_mCall, q_lcons, q_mCons, h1]
  simp only [q_lnil, q_mNil, h3, q_liftS]
theorem e_sm {m : Sm} {a b : E} {x : Str} {y z : D} (h1 : dE G C a sd S = .ok (.str x) S1) (h2 : dE G C b sd S1 = .ok y S2) (h3 : smF m S2 (.str x) y = some z) : dE G C (.sm m a b) sd S = .ok z S2 := by
  rw [q_esm, q_mSm, h1]
  simp only [h2, h3, q_liftS]
theorem e_ifT {t : Tt} {a b : E} (h1 : dT G C t sd S = .ok true S1) : dE G C (.ifx t a b) sd S = dE G C a sd S1 := by rw [q_eifx, q_mIf, h1]; rfl
theorem e_ifF {t : Tt} {a b : E} (h1 : dT G C t sd S = .ok false S1) : dE G C (.ifx t a b) sd S = dE G C b sd S1 := by rw [q_eifx, q_mIf, h1]; rfl
theorem e_call1 {f : Nat} {a : E} {x z : D} (h1 : dE G C a sd S = .ok x S1) (h3 : C f [x] S1 = .ok z S2) : dE G C (.call f (.cons a .nil)) sd S = .ok z S2 := by
  rw [q_ecall, q_mFn, q_lcons, q_mCons, h1]
  simp only [q_lnil, q_mNil, h3]
theorem e_call2 {f : Nat} {a b : E} {S3 : Sto} {x y z : D} (h1 : dE G C a sd S = .ok x S1) (h2 : dE G C b sd S1 = .ok y S2) (h3 : C f [x, y] S2 = .ok z S3) : dE G C (.call f (.cons a (.cons b .nil))) sd S = .ok z S3 := by
  rw [q_ecall, q_mFn, dl2 h1 h2]
  simp only [h3]
theorem e_callX {f : Nat} {a : E} {x : D} {c : Nat} {fs : XF} (h1 : dE G C a sd S = .ok x S1) (h3 : C f [x] S1 = .exc c fs S2) : dE G C (.call f (.cons a .nil)) sd S = .exc c fs S2 := by
  rw [q_ecall, q_mFn, q_lcons, q_mCons, h1]
  simp only [q_lnil, q_mNil, h3]
theorem s_asg1 {i : Nat} {a : E} {x : D} (h1 : dE G C a sd S = .ok x S1) : dS G C wf (.asg (.nm i) a) sd S = .ok .nx (sd.set i (some x)) S1 := asg_ok h1
theorem s_ret1 {a : E} {x : D} (h1 : dE G C a sd S = .ok x S1) : dS G C wf (.ret a) sd S = .ok (.rt x) sd S1 := by rw [q_sret, q_mRet, h1]
theorem s_iteT {c : Tt} {a b : Ss} (h1 : dT G C c sd S = .ok true S1) : dS G C wf (.ite c a b) sd S = dSs G C wf a sd S1 := by rw [q_site, ite_t h1]
theorem s_iteF {c : Tt} {a b : Ss} (h1 : dT G C c sd S = .ok false S1) : dS G C wf (.ite c a b) sd S = dSs G C wf b sd S1 := by rw [q_site, ite_f h1]
theorem e_ret {a : Ss} {b : Ss} {s : Z.S1} {x : D} (hs : b = .cons s a) (h : dS G C wf s sd S = .ok (.rt x) sd S1) : fnEnd (dSs G C wf b sd S) = .ok x S1 := by
  rw [hs, q_scons, then_rt h]; rfl
theorem t_not {a : Tt} {k : Bool} (h1 : dT G C a sd S = .ok k S1) : dT G C (.not a) sd S = .ok (!k) S1 := by rw [q_tnot, q_mNotT, h1]
theorem t_tru {a : E} {x : D} {k : Bool} (h1 : dE G C a sd S = .ok x S1) (h2 : truP S1 x = some k) : dT G C (.tru a) sd S = .ok k S1 := by
  rw [q_ttru, q_mTru, h1]
  simp only [h2, q_liftS]
end
end Z

/-! Programs as plain data: sums, statements, blocks; what they come to. -/
namespace Z
open PySem PySem.Spec PyProof.Rows L2
@[simp] theorem isi_non {S : Sto} {t : Ty} : isiD S .non t = some false := rfl
@[simp] theorem isi_int {S : Sto} {i : Int} {t : Ty} : isiD S (.int i) t = some (match t with | .int => true | _ => false) := rfl
@[simp] theorem isi_bl {S : Sto} {b : Bool} {t : Ty} : isiD S (.bl b) t = some (match t with | .bool => true | .int => true | _ => false) := rfl
@[simp] theorem isi_str {S : Sto} {x : Str} {t : Ty} : isiD S (.str x) t = some (match t with | .str => true | _ => false) := rfl
@[simp] theorem isi_tup {S : Sto} {xs : List D} {t : Ty} : isiD S (.tup xs) t = some (match t with | .tuple => true | _ => false) := rfl
@[simp] theorem isi_lst {S : Sto} {xs : List D} {t : Ty} : isiD S (.lst xs) t = some (match t with | .list => true | _ => false) := rfl
@[simp] theorem isi_fro {S : Sto} {xs : List D} {t : Ty} : isiD S (.fro xs) t = some (match t with | .list => true | _ => false) := rfl
@[simp] theorem truB {S : Sto} {b : Bool} : truP S (.bl b) = some b := rfl
@[simp] theorem eqI {S : Sto} {i j : Int} : eqD S (.int i) (.int j) = some (.bl (decide (i = j))) := rfl
@[simp] theorem neI {S : Sto} {i j : Int} : neD S (.int i) (.int j) = some (.bl (!decide (i = j))) := rfl
@[simp] theorem eqSt {S : Sto} {i j : Str} : eqD S (.str i) (.str j) = some (.bl (decide (i = j))) := rfl
@[simp] theorem neSt {S : Sto} {i j : Str} : neD S (.str i) (.str j) = some (.bl (!decide (i = j))) := rfl
@[simp] theorem lenT {S : Sto} {xs : List D} : lenD S (.tup xs) = some (.int xs.length) := rfl
@[simp] theorem w_do_set : (("do" : Str) = "set") = False := eq_false (by decide +kernel)
@[simp] theorem w_do_if : (("do" : Str) = "if") = False := eq_false (by decide +kernel)
@[simp] theorem w_do_stop : (("do" : Str) = "stop") = False := eq_false (by decide +kernel)
@[simp] theorem w_do_cell : (("do" : Str) = "cell") = False := eq_false (by decide +kernel)
@[simp] theorem w_do_known : (("do" : Str) = "known") = False := eq_false (by decide +kernel)
@[simp] theorem w_do_secret : (("do" : Str) = "secret") = False := eq_false (by decide +kernel)
@[simp] theorem w_do_plus : (("do" : Str) = "plus") = False := eq_false (by decide +kernel)
@[simp] theorem w_do_times : (("do" : Str) = "times") = False := eq_false (by decide +kernel)
@[simp] theorem w_do_less : (("do" : Str) = "less") = False := eq_false (by decide +kernel)
@[simp] theorem w_do_same : (("do" : Str) = "same") = False := eq_false (by decide +kernel)
@[simp] theorem w_set_do : (("set" : Str) = "do") = False := eq_false (by decide +kernel)
@[simp] theorem w_set_if : (("set" : Str) = "if") = False := eq_false (by decide +kernel)
@[simp] theorem w_set_stop : (("set" : Str) = "stop") = False := eq_false (by decide +kernel)
@[simp] theorem w_set_cell : (("set" : Str) = "cell") = False := eq_false (by decide +kernel)
@[simp] theorem w_set_known : (("set" : Str) = "known") = False := eq_false (by decide +kernel)
@[simp] theorem w_set_secret : (("set" : Str) = "secret") = False := eq_false (by decide +kernel)
@[simp] theorem w_set_plus : (("set" : Str) = "plus") = False := eq_false (by decide +kernel)
@[simp] theorem w_set_times : (("set" : Str) = "times") = False := eq_false (by decide +kernel)
@[simp] theorem w_set_less : (("set" : Str) = "less") = False := eq_false (by decide +kernel)
@[simp] theorem w_set_same : (("set" : Str) = "same") = False := eq_false (by decide +kernel)
@[simp] theorem w_if_do : (("if" : Str) = "do") = False := eq_false (by decide +kernel)
@[simp] theorem w_if_set : (("if" : Str) = "set") = False := eq_false (by decide +kernel)
@[simp] theorem w_if_stop : (("if" : Str) = "stop") = False := eq_false (by decide +kernel)
@[simp] theorem w_if_cell : (("if" : Str) = "cell") = False := eq_false (by decide +kernel)
@[simp] theorem w_if_known : (("if" : Str) = "known") = False := eq_false (by decide +kernel)
@[simp] theorem w_if_secret : (("if" : Str) = "secret") = False := eq_false (by decide +kernel)
@[simp] theorem w_if_plus : (("if" : Str) = "plus") = False := eq_false (by decide +kernel)
@[simp] theorem w_if_times : (("if" : Str) = "times") = False := eq_false (by decide +kernel)
@[simp] theorem w_if_less : (("if" : Str) = "less") = False := eq_false (by decide +kernel)
@[simp] theorem w_if_same : (("if" : Str) = "same") = False := eq_false (by decide +kernel)
@[simp] theorem w_stop_do : (("stop" : Str) = "do") = False := eq_false (by decide +kernel)
@[simp] theorem w_stop_set : (("stop" : Str) = "set") = False := eq_false (by decide +kernel)
@[simp] theorem w_stop_if : (("stop" : Str) = "if") = False := eq_false (by decide +kernel)
@[simp] theorem w_stop_cell : (("stop" : Str) = "cell") = False := eq_false (by decide +kernel)
@[simp] theorem w_stop_known : (("stop" : Str) = "known") = False := eq_false (by decide +kernel)
@[simp] theorem w_stop_secret : (("stop" : Str) = "secret") = False := eq_false (by decide +kernel)
@[simp] theorem w_stop_plus : (("stop" : Str) = "plus") = False := eq_false (by decide +kernel)
@[simp] theorem w_stop_times : (("stop" : Str) = "times") = False := eq_false (by decide +kernel)
@[simp] theorem w_stop_less : (("stop" : Str) = "less") = False := eq_false (by decide +kernel)
@[simp] theorem w_stop_same : (("stop" : Str) = "same") = False := eq_false (by decide +kernel)
@[simp] theorem w_cell_do : (("cell" : Str) = "do") = False := eq_false (by decide +kernel)
@[simp] theorem w_cell_set : (("cell" : Str) = "set") = False := eq_false (by decide +kernel)
@[simp] theorem w_cell_if : (("cell" : Str) = "if") = False := eq_false (by decide +kernel)
@[simp] theorem w_cell_stop : (("cell" : Str) = "stop") = False := eq_false (by decide +kernel)
@[simp] theorem w_cell_known : (("cell" : Str) = "known") = False := eq_false (by decide +kernel)
@[simp] theorem w_cell_secret : (("cell" : Str) = "secret") = False := eq_false (by decide +kernel)
@[simp] theorem w_cell_plus : (("cell" : Str) = "plus") = False := eq_false (by decide +kernel)
@[simp] theorem w_cell_times : (("cell" : Str) = "times") = False := eq_false (by decide +kernel)
@[simp] theorem w_cell_less : (("cell" : Str) = "less") = False := eq_false (by decide +kernel)
@[simp] theorem w_cell_same : (("cell" : Str) = "same") = False := eq_false (by decide +kernel)
@[simp] theorem w_known_do : (("known" : Str) = "do") = False := eq_false (by decide +kernel)
@[simp] theorem w_known_set : (("known" : Str) = "set") = False := eq_false (by decide +kernel)
@[simp] theorem w_known_if : (("known" : Str) = "if") = False := eq_false (by decide +kernel)
@[simp] theorem w_known_stop : (("known" : Str) = "stop") = False := eq_false (by decide +kernel)
@[simp] theorem w_known_cell : (("known" : Str) = "cell") = False := eq_false (by decide +kernel)
@[simp] theorem w_known_secret : (("known" : Str) = "secret") = False := eq_false (by decide +kernel)
@[simp] theorem w_known_plus : (("known" : Str) = "plus") = False := eq_false (by decide +kernel)
@[simp] theorem w_known_times : (("known" : Str) = "times") = False := eq_false (by decide +kernel)
@[simp] theorem w_known_less : (("known" : Str) = "less") = False := eq_false (by decide +kernel)
@[simp] theorem w_known_same : (("known" : Str) = "same") = False := eq_false (by decide +kernel)
@[simp] theorem w_secret_do : (("secret" : Str) = "do") = False := eq_false (by decide +kernel)
@[simp] theorem w_secret_set : (("secret" : Str) = "set") = False := eq_false (by decide +kernel)
@[simp] theorem w_secret_if : (("secret" : Str) = "if") = False := eq_false (by decide +kernel)
@[simp] theorem w_secret_stop : (("secret" : Str) = "stop") = False := eq_false (by decide +kernel)
@[simp] theorem w_secret_cell : (("secret" : Str) = "cell") = False := eq_false (by decide +kernel)
@[simp] theorem w_secret_known : (("secret" : Str) = "known") = False := eq_false (by decide +kernel)
@[simp] theorem w_secret_plus : (("secret" : Str) = "plus") = False := eq_false (by decide +kernel)
@[simp] theorem w_secret_times : (("secret" : Str) = "times") = False := eq_false (by decide +kernel)
@[simp] theorem w_secret_less : (("secret" : Str) = "less") = False := eq_false (by decide +kernel)
@[simp] theorem w_secret_same : (("secret" : Str) = "same") = False := eq_false (by decide +kernel)
@[simp] theorem w_plus_do : (("plus" : Str) = "do") = False := eq_false (by decide +kernel)
@[simp] theorem w_plus_set : (("plus" : Str) = "set") = False := eq_false (by decide +kernel)
@[simp] theorem w_plus_if : (("plus" : Str) = "if") = False := eq_false (by decide +kernel)
@[simp] theorem w_plus_stop : (("plus" : Str) = "stop") = False := eq_false (by decide +kernel)
@[simp] theorem w_plus_cell : (("plus" : Str) = "cell") = False := eq_false (by decide +kernel)
@[simp] theorem w_plus_known : (("plus" : Str) = "known") = False := eq_false (by decide +kernel)
@[simp] theorem w_plus_secret : (("plus" : Str) = "secret") = False := eq_false (by decide +kernel)
@[simp] theorem w_plus_times : (("plus" : Str) = "times") = False := eq_false (by decide +kernel)
@[simp] theorem w_plus_less : (("plus" : Str) = "less") = False := eq_false (by decide +kernel)
@[simp] theorem w_plus_same : (("plus" : Str) = "same") = False := eq_false (by decide +kernel)
@[simp] theorem w_times_do : (("times" : Str) = "do") = False := eq_false (by decide +kernel)
@[simp] theorem w_times_set : (("times" : Str) = "set") = False := eq_false (by decide +kernel)
@[simp] theorem w_times_if : (("times" : Str) = "if") = False := eq_false (by decide +kernel)
@[simp] theorem w_times_stop : (("times" : Str) = "stop") = False := eq_false (by decide +kernel)
@[simp] theorem w_times_cell : (("times" : Str) = "cell") = False := eq_false (by decide +kernel)
@[simp] theorem w_times_known : (("times" : Str) = "known") = False := eq_false (by decide +kernel)
@[simp] theorem w_times_secret : (("times" : Str) = "secret") = False := eq_false (by decide +kernel)
@[simp] theorem w_times_plus : (("times" : Str) = "plus") = False := eq_false (by decide +kernel)
@[simp] theorem w_times_less : (("times" : Str) = "less") = False := eq_false (by decide +kernel)
@[simp] theorem w_times_same : (("times" : Str) = "same") = False := eq_false (by decide +kernel)
@[simp] theorem w_less_do : (("less" : Str) = "do") = False := eq_false (by decide +kernel)
@[simp] theorem w_less_set : (("less" : Str) = "set") = False := eq_false (by decide +kernel)
@[simp] theorem w_less_if : (("less" : Str) = "if") = False := eq_false (by decide +kernel)
@[simp] theorem w_less_stop : (("less" : Str) = "stop") = False := eq_false (by decide +kernel)
@[simp] theorem w_less_cell : (("less" : Str) = "cell") = False := eq_false (by decide +kernel)
@[simp] theorem w_less_known : (("less" : Str) = "known") = False := eq_false (by decide +kernel)
@[simp] theorem w_less_secret : (("less" : Str) = "secret") = False := eq_false (by decide +kernel)
@[simp] theorem w_less_plus : (("less" : Str) = "plus") = False := eq_false (by decide +kernel)
@[simp] theorem w_less_times : (("less" : Str) = "times") = False := eq_false (by decide +kernel)
@[simp] theorem w_less_same : (("less" : Str) = "same") = False := eq_false (by decide +kernel)
@[simp] theorem w_same_do : (("same" : Str) = "do") = False := eq_false (by decide +kernel)
@[simp] theorem w_same_set : (("same" : Str) = "set") = False := eq_false (by decide +kernel)
@[simp] theorem w_same_if : (("same" : Str) = "if") = False := eq_false (by decide +kernel)
@[simp] theorem w_same_stop : (("same" : Str) = "stop") = False := eq_false (by decide +kernel)
@[simp] theorem w_same_cell : (("same" : Str) = "cell") = False := eq_false (by decide +kernel)
@[simp] theorem w_same_known : (("same" : Str) = "known") = False := eq_false (by decide +kernel)
@[simp] theorem w_same_secret : (("same" : Str) = "secret") = False := eq_false (by decide +kernel)
@[simp] theorem w_same_plus : (("same" : Str) = "plus") = False := eq_false (by decide +kernel)
@[simp] theorem w_same_times : (("same" : Str) = "times") = False := eq_false (by decide +kernel)
@[simp] theorem w_same_less : (("same" : Str) = "less") = False := eq_false (by decide +kernel)
inductive Opr | plus | times | less | same
deriving DecidableEq
def Opr.s : Opr → Str
  | .plus => "plus" | .times => "times" | .less => "less" | .same => "same"
def Opr.ap : Opr → Int → Int → Int
  | .plus, a, b => a + b
  | .times, a, b => a * b
  | .less, a, b => if a < b then 1 else 0
  | .same, a, b => if a = b then 1 else 0
inductive Fm | num (n : Nat) | known | secret | cell (i : Nat) | op (o : Opr) (a b : Fm)
deriving DecidableEq
namespace Fm
def d : Fm → D
  | .num n => .int n
  | .known => .str "known"
  | .secret => .str "secret"
  | .cell i => .tup [.str "cell", .int i]
  | .op o a b => .tup [.str o.s, a.d, b.d]
/-- cells below w, numbers below ten -/
def ok (w : Nat) : Fm → Bool
  | .num n => n < 10
  | .known => true
  | .secret => true
  | .cell i => i < w
  | .op _ a b => a.ok w && b.ok w
def dep : Fm → Nat
  | .op _ a b => max a.dep b.dep + 1
  | _ => 0
def sz : Fm → Nat
  | .op _ a b => a.sz + b.sz + 1
  | _ => 1
def val (kn se : Int) (cs : List Int) : Fm → Int
  | .num n => n
  | .known => kn
  | .secret => se
  | .cell i => cs.getD i 0
  | .op o a b => o.ap (a.val kn se cs) (b.val kn se cs)
theorem sz_pos : ∀ f : Fm, 0 < f.sz
  | .num _ => by simp [sz] | .known => by simp [sz] | .secret => by simp [sz] | .cell _ => by simp [sz] | .op _ _ _ => by simp [sz]
theorem sz_dep : ∀ f : Fm, f.sz + 1 ≤ 2 ^ (f.dep + 1)
  | .num _ => by simp [sz, dep] | .known => by simp [sz, dep] | .secret => by simp [sz, dep] | .cell _ => by simp [sz, dep]
  | .op _ a b => by
    have h1 := sz_dep a
    have h2 := sz_dep b
    have e1 : 2 ^ (a.dep + 1) ≤ 2 ^ (max a.dep b.dep + 1) := Nat.pow_le_pow_right (by decide) (by omega)
    have e2 : 2 ^ (b.dep + 1) ≤ 2 ^ (max a.dep b.dep + 1) := Nat.pow_le_pow_right (by decide) (by omega)
    have e3 : 2 ^ (max a.dep b.dep + 1 + 1) = 2 ^ (max a.dep b.dep + 1) * 2 := Nat.pow_succ ..
    simp only [sz, dep, e3]
    omega
theorem val_bd {kn se : Int} {cs : List Int} (hk : 0 ≤ kn ∧ kn < 16) (hs : 0 ≤ se ∧ se < 16) (hc : ∀ c ∈ cs, 0 ≤ c ∧ c < 16) {w : Nat} : ∀ f : Fm, f.ok w = true → 0 ≤ f.val kn se cs ∧ f.val kn se cs < 2 ^ (4 * f.sz)
  | .num n, h => by
    simp [ok] at h
    exact ⟨by simp [val], by simp [val, sz]; omega⟩
  | .known, h => by simp [val, sz]; omega
  | .secret, h => by simp [val, sz]; omega
  | .cell i, h => by
    simp only [val, sz, List.getD]
    cases e : cs[i]? with
    | none => simp
    | some c => have := hc c (List.mem_of_getElem? e); simp; omega
  | .op o a b, h => by
    simp only [ok, Bool.and_eq_true] at h
    obtain ⟨a0, a1⟩ := val_bd hk hs hc a h.1
    obtain ⟨b0, b1⟩ := val_bd hk hs hc b h.2
    have e : (2 : Int) ^ (4 * (a.sz + b.sz + 1)) = 2 ^ (4 * a.sz) * 2 ^ (4 * b.sz) * 16 := by
      rw [show 4 * (a.sz + b.sz + 1) = 4 * a.sz + 4 * b.sz + 4 by omega, Int.pow_add, Int.pow_add]; rfl
    have pa : (1 : Int) ≤ 2 ^ (4 * a.sz) := by
      have : (0 : Int) < 2 ^ (4 * a.sz) := Int.pow_pos (by decide)
      omega
    have pb : (1 : Int) ≤ 2 ^ (4 * b.sz) := by
      have : (0 : Int) < 2 ^ (4 * b.sz) := Int.pow_pos (by decide)
      omega
    simp only [val, sz, e]
    generalize (2 : Int) ^ (4 * a.sz) = p at *
    generalize (2 : Int) ^ (4 * b.sz) = q at *
    generalize a.val kn se cs = x at *
    generalize b.val kn se cs = y at *
    have pq : 1 ≤ p * q := by
      have := Int.mul_le_mul pa pb (by decide) (by omega)
      omega
    have xy : x * y ≤ p * q := Int.mul_le_mul (by omega) (by omega) b0 (by omega)
    have xp : p ≤ p * q := by
      have := Int.mul_le_mul_of_nonneg_left pb (show 0 ≤ p by omega)
      omega
    have yq : q ≤ p * q := by
      have := Int.mul_le_mul_of_nonneg_right pa (show 0 ≤ q by omega)
      omega
    cases o with
    | plus => simp only [Opr.ap]; omega
    | times => simp only [Opr.ap]; exact ⟨Int.mul_nonneg a0 b0, by omega⟩
    | less => simp only [Opr.ap]; split <;> omega
    | same => simp only [Opr.ap]; split <;> omega
end Fm
mutual
inductive Stm | do_ (i : Nat) | set (i : Nat) (x : Fm) | stop | iff (x : Fm) (a b : Blk)
inductive Blk | nil | cons (s : Stm) (b : Blk)
end
mutual
def Stm.d : Stm → D
  | .do_ i => .tup [.str "do", .int i]
  | .set i x => .tup [.str "set", .int i, x.d]
  | .stop => .tup [.str "stop"]
  | .iff x a b => .tup [.str "if", x.d, .tup a.ds, .tup b.ds]
def Blk.ds : Blk → List D
  | .nil => []
  | .cons s b => s.d :: b.ds
end
mutual
def Stm.ok (p w : Nat) : Stm → Bool
  | .do_ i => i < p
  | .set i x => i < w && x.ok w
  | .stop => true
  | .iff x a b => x.ok w && a.ok p w && b.ok p w
def Blk.ok (p w : Nat) : Blk → Bool
  | .nil => true
  | .cons s b => s.ok p w && b.ok p w
end
mutual
/-- how deep ifs lie -/
def Stm.dep : Stm → Nat
  | .iff _ a b => max a.dep b.dep + 1
  | _ => 0
def Blk.dep : Blk → Nat
  | .nil => 0
  | .cons s b => max s.dep b.dep
end
mutual
/-- how deep the sums are at most -/
def Stm.fd : Stm → Nat
  | .set _ x => x.dep
  | .iff x a b => max x.dep (max a.fd b.fd)
  | _ => 0
def Blk.fd : Blk → Nat
  | .nil => 0
  | .cons s b => max s.fd b.fd
end
mutual
/-- parts -/
def Stm.sz : Stm → Nat
  | .set _ x => 1 + x.sz
  | .iff x a b => 1 + x.sz + a.sz + b.sz
  | _ => 1
def Blk.sz : Blk → Nat
  | .nil => 0
  | .cons s b => s.sz + b.sz
end
mutual
/-- the longest block -/
def Stm.wd : Stm → Nat
  | .iff _ a b => max a.wd b.wd
  | _ => 0
def Blk.wd : Blk → Nat
  | .nil => 0
  | .cons s b => max (max s.wd b.wd) (b.ds.length + 1)
end
def Blk.app : Blk → Blk → Blk
  | .nil, c => c
  | .cons s b, c => .cons s (b.app c)
theorem Blk.app_ds : ∀ a b : Blk, (a.app b).ds = a.ds ++ b.ds
  | .nil, b => by simp [Blk.app, Blk.ds]
  | .cons s a, b => by simp [Blk.app, Blk.ds, Blk.app_ds a b]
theorem Blk.app_ok {p w : Nat} : ∀ {a b : Blk}, a.ok p w = true → b.ok p w = true → (a.app b).ok p w = true
  | .nil, b, _, h => by simpa [Blk.app] using h
  | .cons s a, b, h, h2 => by
    simp only [Blk.app, Blk.ok, Bool.and_eq_true] at h ⊢
    exact ⟨h.1, Blk.app_ok h.2 h2⟩
theorem Blk.app_dep : ∀ a b : Blk, (a.app b).dep = max a.dep b.dep
  | .nil, b => by simp [Blk.app, Blk.dep]
  | .cons s a, b => by simp [Blk.app, Blk.dep, Blk.app_dep a b]
theorem Blk.app_fd : ∀ a b : Blk, (a.app b).fd = max a.fd b.fd
  | .nil, b => by simp [Blk.app, Blk.fd]
  | .cons s a, b => by simp [Blk.app, Blk.fd, Blk.app_fd a b]
theorem Blk.app_sz : ∀ a b : Blk, (a.app b).sz = a.sz + b.sz
  | .nil, b => by simp [Blk.app, Blk.sz]
  | .cons s a, b => by simp [Blk.app, Blk.sz, Blk.app_sz a b]; omega
/-- what a run has done -/
structure Rn where
  cnt : List Int
  cel : List Int
  stp : Bool
def incr : List Int → Nat → List Int
  | [], _ => []
  | x :: xs, 0 => (x + 1) :: xs
  | x :: xs, i + 1 => x :: incr xs i
mutual
def Stm.go (sz : List Int) (kn se : Int) : Stm → Rn → Rn
  | .do_ i, r => ⟨incr r.cnt i, r.cel, false⟩
  | .set i x, r => ⟨r.cnt, r.cel.set i (x.val kn se r.cel % sz.getD i 1), false⟩
  | .stop, r => ⟨r.cnt, r.cel, true⟩
  | .iff x a b, r => if x.val kn se r.cel ≠ 0 then a.go sz kn se r else b.go sz kn se r
def Blk.go (sz : List Int) (kn se : Int) : Blk → Rn → Rn
  | .nil, r => r
  | .cons s b, r => if (s.go sz kn se r).stp then s.go sz kn se r else b.go sz kn se (s.go sz kn se r)
end
structure Prog where
  kn : Nat
  se : Nat
  p : Nat
  cells : List Nat
  body : Blk
  tail : Blk
def Prog.d (P : Prog) : D := .tup [.int P.kn, .int P.se, .int P.p, .tup (P.cells.map fun (c : Nat) => D.int c), .tup P.body.ds, .tup P.tail.ds]
end Z

/-! Texts of programs as lists of signs: written, read; both ways. No program in sight. -/
namespace Z
open PySem PySem.Spec PyProof.Rows L2
abbrev Cs := List Nat
def dg (c : Nat) : Bool := decide (48 ≤ c) && decide (c ≤ 57)
def Opr.c : Opr → Nat
  | .plus => 43 | .times => 42 | .less => 60 | .same => 61
def opOf (c : Nat) : Option Opr := if c = 43 then some .plus else if c = 42 then some .times else if c = 60 then some .less else if c = 61 then some .same else none
theorem opOf_c (o : Opr) : opOf o.c = some o := by cases o <;> rfl
theorem opOf_some {c : Nat} {o : Opr} (h : opOf c = some o) : c = o.c := by
  unfold opOf at h
  split at h
  · cases h; assumption
  · split at h
    · cases h; assumption
    · split at h
      · cases h; assumption
      · split at h
        · cases h; assumption
        · cases h
def Fm.tx : Fm → Cs
  | .num n => [48 + n]
  | .known => [107]
  | .secret => [115]
  | .cell i => [99, 48 + i]
  | .op o a b => 40 :: (a.tx ++ o.c :: (b.tx ++ [41]))
def Fm.dig : Fm → Bool
  | .num n => decide (n < 10)
  | .cell i => decide (i < 10)
  | .op _ a b => a.dig && b.dig
  | _ => true
def Fm.lv : Fm → Nat
  | .op _ a b => max a.lv b.lv + 1
  | _ => 0
def pLeaf : Cs → Option (Fm × Cs)
  | [] => none
  | c :: l => if dg c then some (.num (c - 48), l) else if c = 107 then some (.known, l) else if c = 115 then some (.secret, l)
    else if c = 99 then (match l with | d :: l' => if dg d then some (.cell (d - 48), l') else none | [] => none) else none
/-- a sum, n levels of brackets at most -/
def pSum : Nat → Cs → Option (Fm × Cs)
  | 0, l => pLeaf l
  | n + 1, l => match l with
    | [] => none
    | c :: l0 => if c = 40 then (match pSum n l0 with
        | some (a, s :: l1) => (match opOf s with
          | some o => (match pSum n l1 with
            | some (b, e :: l2) => if e = 41 then some (.op o a b, l2) else none
            | _ => none)
          | none => none)
        | _ => none) else pLeaf l
theorem dg_of {c : Nat} (h : dg c = true) : 48 ≤ c ∧ c ≤ 57 := by simpa [dg] using h
theorem dg_add {n : Nat} (h : n < 10) : dg (48 + n) = true := by simp [dg]; omega
theorem pLeaf_sound {l r : Cs} {f : Fm} (h : pLeaf l = some (f, r)) : l = f.tx ++ r ∧ f.lv = 0 ∧ f.dig = true := by
  unfold pLeaf at h
  split at h
  · cases h
  · rename_i c l
    split at h
    · rename_i hd
      cases h
      have := dg_of hd
      refine ⟨by simp only [Fm.tx, List.cons_append, List.nil_append]; congr 1; omega, rfl, by simp [Fm.dig]; omega⟩
    · split at h
      · rename_i e; cases h; subst e; exact ⟨rfl, rfl, rfl⟩
      · split at h
        · rename_i e; cases h; subst e; exact ⟨rfl, rfl, rfl⟩
        · split at h
          · rename_i e
            subst e
            split at h
            · split at h
              · rename_i hd
                cases h
                have := dg_of hd
                refine ⟨by simp only [Fm.tx, List.cons_append, List.nil_append]; congr 2; omega, rfl, by simp [Fm.dig]; omega⟩
              · cases h
            · cases h
          · cases h
theorem pSum_sound : ∀ {n : Nat} {l r : Cs} {f : Fm}, pSum n l = some (f, r) → l = f.tx ++ r ∧ f.lv ≤ n ∧ f.dig = true
  | 0, l, r, f, h => by
    obtain ⟨h1, h2, h3⟩ := pLeaf_sound h
    exact ⟨h1, by omega, h3⟩
  | n + 1, l, r, f, h => by
    unfold pSum at h
    split at h
    · cases h
    · rename_i c l0
      split at h
      · rename_i e
        subst e
        split at h
        · rename_i a s l1 e1
          split at h
          · rename_i o e2
            split at h
            · rename_i b e3 l2 e4
              split at h
              · rename_i e5
                cases h
                subst e5
                obtain ⟨a1, a2, a3⟩ := pSum_sound e1
                obtain ⟨b1, b2, b3⟩ := pSum_sound e4
                refine ⟨?_, by simp only [Fm.lv]; omega, by simp [Fm.dig, a3, b3]⟩
                rw [a1, opOf_some e2, b1]
                simp [Fm.tx]
              · cases h
            · cases h
          · cases h
        · cases h
      · obtain ⟨h1, h2, h3⟩ := pLeaf_sound h
        exact ⟨h1, by omega, h3⟩
theorem pLeaf_num {n : Nat} {r : Cs} (h : n < 10) : pLeaf ((48 + n) :: r) = some (.num n, r) := by
  simp [pLeaf, dg_add h]
theorem pLeaf_cell {n : Nat} {r : Cs} (h : n < 10) : pLeaf (99 :: (48 + n) :: r) = some (.cell n, r) := by
  have e : dg 99 = false := rfl
  simp [pLeaf, dg_add h, e]
theorem pSum_leaf {n c : Nat} {l : Cs} (h : c ≠ 40) : pSum n (c :: l) = pLeaf (c :: l) := by
  cases n with
  | zero => rfl
  | succ n => simp [pSum, h]
theorem pSum_complete : ∀ {f : Fm} {n : Nat} {r : Cs}, f.dig = true → f.lv ≤ n → pSum n (f.tx ++ r) = some (f, r)
  | .num m, n, r, h, _ => by
    have hm : m < 10 := by simpa [Fm.dig] using h
    show pSum n ((48 + m) :: r) = _
    rw [pSum_leaf (by omega), pLeaf_num hm]
  | .known, n, r, _, _ => by
    show pSum n (107 :: r) = _
    rw [pSum_leaf (by decide)]; rfl
  | .secret, n, r, _, _ => by
    show pSum n (115 :: r) = _
    rw [pSum_leaf (by decide)]; rfl
  | .cell i, n, r, h, _ => by
    have hm : i < 10 := by simpa [Fm.dig] using h
    show pSum n (99 :: (48 + i) :: r) = _
    rw [pSum_leaf (by decide), pLeaf_cell hm]
  | .op o a b, 0, r, h, hn => by simp [Fm.lv] at hn
  | .op o a b, n + 1, r, h, hn => by
    simp only [Fm.dig, Bool.and_eq_true] at h
    simp only [Fm.lv] at hn
    have e1 : (Fm.op o a b).tx ++ r = 40 :: (a.tx ++ (o.c :: (b.tx ++ (41 :: r)))) := by simp [Fm.tx]
    have h1 := pSum_complete (n := n) (r := o.c :: (b.tx ++ (41 :: r))) h.1 (by omega)
    have h2 := pSum_complete (n := n) (r := 41 :: r) h.2 (by omega)
    rw [e1, pSum]
    simp only [↓reduceIte, h1, opOf_c, h2]
theorem Fm.tx_ne (f : Fm) : ∃ c l, f.tx = c :: l := by cases f <;> exact ⟨_, _, rfl⟩
/-! ### statements and blocks -/
mutual
def Stm.tx : Stm → Cs
  | .do_ i => [100, 111, 32, 48 + i]
  | .set i x => [115, 101, 116, 32, 48 + i, 32] ++ x.tx
  | .stop => [115, 116, 111, 112]
  | .iff x a b => [105, 102, 32] ++ (x.tx ++ ([32, 123] ++ (a.tx ++ ([125, 32, 123] ++ (b.tx ++ [125])))))
def Blk.tx : Blk → Cs
  | .nil => []
  | .cons s b => match b with
    | .nil => s.tx
    | .cons _ _ => s.tx ++ (59 :: 32 :: b.tx)
end
mutual
/-- within n levels; digits -/
def Stm.fits (n : Nat) : Stm → Bool
  | .do_ i => decide (i < 10)
  | .set i x => decide (i < 10) && x.dig && decide (x.lv ≤ n - 1)
  | .stop => true
  | .iff x a b => x.dig && decide (x.lv ≤ n - 1) && decide (0 < n) && a.fits (n - 1) && b.fits (n - 1)
def Blk.fits (n : Nat) : Blk → Bool
  | .nil => true
  | .cons s b => s.fits n && b.fits n
end
abbrev RdS := Cs → Option (Stm × Cs)
def pBk (f : RdS) : Nat → Cs → Option (Blk × Cs)
  | 0, _ => none
  | m + 1, l => match f l with
    | none => none
    | some (s, r) => match r with
      | 59 :: 32 :: r' => (match pBk f m r' with
        | some (b, r2) => some (.cons s b, r2)
        | none => none)
      | r => some (.cons s .nil, r)
def pBlk (f : RdS) (l : Cs) : Option (Blk × Cs) := match l with
  | [] => some (.nil, [])
  | c :: l' => if c = 125 then some (.nil, c :: l') else pBk f ((c :: l').length + 1) (c :: l')
/-- the block between " {" and "}" -/
def pBr (f : RdS) : Cs → Option (Blk × Cs)
  | 32 :: 123 :: l => (match pBlk f l with
    | some (b, 125 :: r) => some (b, r)
    | _ => none)
  | _ => none
/-- do, set -/
def pDo : Cs → Option (Stm × Cs)
  | d :: r => if dg d then some (.do_ (d - 48), r) else none
  | [] => none
def pSet (n : Nat) : Cs → Option (Stm × Cs)
  | 115 :: 101 :: 116 :: 32 :: d :: 32 :: l => if dg d then (match pSum (n - 1) l with | some (x, r) => some (.set (d - 48) x, r) | none => none) else none
  | _ => none
def pIf (n : Nat) (f : RdS) (l : Cs) : Option (Stm × Cs) := match pSum (n - 1) l with
  | none => none
  | some (x, r) => match pBr f r with
    | none => none
    | some (a, r2) => match pBr f r2 with
      | none => none
      | some (b, r3) => some (.iff x a b, r3)
def pSt : Nat → RdS
  | 0, l => match l with
    | 115 :: 116 :: 111 :: 112 :: r => some (.stop, r)
    | 105 :: 102 :: 32 :: _ => none
    | 100 :: 111 :: 32 :: r => pDo r
    | l => pSet 0 l
  | n + 1, l => match l with
    | 115 :: 116 :: 111 :: 112 :: r => some (.stop, r)
    | 105 :: 102 :: 32 :: r => pIf (n + 1) (pSt n) r
    | 100 :: 111 :: 32 :: r => pDo r
    | l => pSet (n + 1) l
theorem Stm.tx_ge : ∀ s : Stm, 4 ≤ s.tx.length
  | .do_ _ => by simp [Stm.tx]
  | .set _ _ => by simp [Stm.tx]
  | .stop => by simp [Stm.tx]
  | .iff _ _ _ => by simp [Stm.tx]; omega
theorem pDo_sound {l r : Cs} {s : Stm} (h : pDo l = some (s, r)) : 100 :: 111 :: 32 :: l = s.tx ++ r ∧ ∀ n, s.fits n = true := by
  unfold pDo at h
  split at h
  · split at h
    · rename_i hd
      cases h
      have := dg_of hd
      refine ⟨by simp only [Stm.tx, List.cons_append, List.nil_append]; congr 4; omega, fun n => by simp [Stm.fits]; omega⟩
    · cases h
  · cases h
theorem pSet_sound {n : Nat} {l r : Cs} {s : Stm} (h : pSet n l = some (s, r)) : l = s.tx ++ r ∧ s.fits n = true := by
  unfold pSet at h
  split at h
  · split at h
    · rename_i hd
      split at h
      · rename_i x r2 e
        cases h
        obtain ⟨h1, h2, h3⟩ := pSum_sound e
        have := dg_of hd
        refine ⟨?_, by simp [Stm.fits, h3, h2]; omega⟩
        rw [h1]
        simp only [Stm.tx, List.cons_append, List.nil_append]
        congr 5
        omega
      · cases h
    · cases h
  · cases h
theorem Blk.tx_cons (s : Stm) (b : Blk) (h : b ≠ .nil) : (Blk.cons s b).tx = s.tx ++ (59 :: 32 :: b.tx) := by
  cases b with
  | nil => exact absurd rfl h
  | cons _ _ => simp only [Blk.tx]
theorem Blk.tx_one (s : Stm) : (Blk.cons s .nil).tx = s.tx := by simp only [Blk.tx]
theorem pBk_sound {f : RdS} {n : Nat} (hf : ∀ l s r, f l = some (s, r) → l = s.tx ++ r ∧ s.fits n = true) : ∀ {m : Nat} {l r : Cs} {b : Blk}, pBk f m l = some (b, r) → l = b.tx ++ r ∧ b.fits n = true ∧ b ≠ .nil ∧ ∀ r', r ≠ 59 :: 32 :: r'
  | 0, l, r, b, h => by cases h
  | m + 1, l, r, b, h => by
    unfold pBk at h
    split at h
    · cases h
    · rename_i s r1 e
      obtain ⟨h1, h2⟩ := hf _ _ _ e
      split at h
      · rename_i r'
        split at h
        · rename_i b2 r2 e2
          cases h
          obtain ⟨g1, g2, g3, g4⟩ := pBk_sound hf e2
          refine ⟨?_, by simp [Blk.fits, h2, g2], by simp, g4⟩
          rw [h1, g1, Blk.tx_cons _ _ g3]
          simp
        · cases h
      · rename_i hn
        cases h
        exact ⟨by rw [Blk.tx_one]; exact h1, by simp [Blk.fits, h2], by simp, fun r' e => hn r' e⟩
theorem pBlk_sound {f : RdS} {n : Nat} (hf : ∀ l s r, f l = some (s, r) → l = s.tx ++ r ∧ s.fits n = true) {l r : Cs} {b : Blk} (h : pBlk f l = some (b, r)) : l = b.tx ++ r ∧ b.fits n = true := by
  unfold pBlk at h
  split at h
  · cases h; exact ⟨rfl, by simp [Blk.fits]⟩
  · split at h
    · cases h; exact ⟨by simp [Blk.tx], by simp [Blk.fits]⟩
    · obtain ⟨h1, h2, _⟩ := pBk_sound hf h
      exact ⟨h1, h2⟩
theorem pBr_sound {f : RdS} {n : Nat} (hf : ∀ l s r, f l = some (s, r) → l = s.tx ++ r ∧ s.fits n = true) {l r : Cs} {b : Blk} (h : pBr f l = some (b, r)) : l = 32 :: 123 :: (b.tx ++ 125 :: r) ∧ b.fits n = true := by
  unfold pBr at h
  split at h
  · split at h
    · rename_i b2 r2 e
      cases h
      obtain ⟨h1, h2⟩ := pBlk_sound hf e
      exact ⟨by rw [h1], h2⟩
    · cases h
  · cases h
theorem pIf_sound {f : RdS} {n : Nat} (hf : ∀ l s r, f l = some (s, r) → l = s.tx ++ r ∧ s.fits n = true) {l r : Cs} {s : Stm} (h : pIf (n + 1) f l = some (s, r)) : 105 :: 102 :: 32 :: l = s.tx ++ r ∧ s.fits (n + 1) = true := by
  unfold pIf at h
  split at h
  · cases h
  · rename_i x r1 e1
    split at h
    · cases h
    · rename_i a r2 e2
      split at h
      · cases h
      · rename_i b r3 e3
        cases h
        obtain ⟨x1, x2, x3⟩ := pSum_sound e1
        obtain ⟨a1, a2⟩ := pBr_sound hf e2
        obtain ⟨b1, b2⟩ := pBr_sound hf e3
        refine ⟨?_, by simp [Stm.fits, x3, a2, b2]; exact x2⟩
        rw [x1, a1, b1]
        simp [Stm.tx]
theorem pSt_sound : ∀ {n : Nat} {l r : Cs} {s : Stm}, pSt n l = some (s, r) → l = s.tx ++ r ∧ s.fits n = true
  | 0, l, r, s, h => by
    unfold pSt at h
    split at h
    · cases h; exact ⟨rfl, rfl⟩
    · cases h
    · obtain ⟨h1, h2⟩ := pDo_sound h; exact ⟨h1, h2 0⟩
    · exact pSet_sound h
  | n + 1, l, r, s, h => by
    unfold pSt at h
    split at h
    · cases h; exact ⟨rfl, rfl⟩
    · exact pIf_sound (fun l s r h => pSt_sound h) h
    · obtain ⟨h1, h2⟩ := pDo_sound h; exact ⟨h1, h2 _⟩
    · exact pSet_sound h
theorem pBk_fuel {f : RdS} {n : Nat} (hf : ∀ l s r, f l = some (s, r) → l = s.tx ++ r ∧ s.fits n = true) : ∀ {m m' : Nat} {l : Cs}, l.length < m → l.length < m' → pBk f m l = pBk f m' l
  | 0, _, _, h, _ => by omega
  | m + 1, 0, _, _, h => by omega
  | m + 1, m' + 1, l, h, h' => by
    rw [pBk, pBk]
    cases q : f l with
    | none => rfl
    | some sr =>
      obtain ⟨s, r⟩ := sr
      obtain ⟨el, _⟩ := hf l s r q
      have h4 := s.tx_ge
      have ll : l.length = s.tx.length + r.length := by rw [el, List.length_append]
      simp only []
      split
      · rename_i r'
        simp only [List.length_cons] at ll
        rw [pBk_fuel hf (m := m) (m' := m') (by omega) (by omega)]
      · rfl
/-! ### what is written is read -/
def Blk.n : Blk → Nat
  | .nil => 0
  | .cons _ b => b.n + 1
theorem Stm.tx_hd (s : Stm) : ∃ c l, s.tx = c :: l ∧ c ≠ 125 := by cases s <;> exact ⟨_, _, by simp [Stm.tx]; exact ⟨rfl, rfl⟩, by decide⟩
theorem Blk.n_le : ∀ b : Blk, b.n ≤ b.tx.length
  | .nil => by simp [Blk.n]
  | .cons s .nil => by
    have := s.tx_ge
    rw [Blk.tx_one]; simp [Blk.n]; omega
  | .cons s (.cons s2 b) => by
    have := s.tx_ge
    have := Blk.n_le (.cons s2 b)
    rw [Blk.tx_cons _ _ (by simp)]
    simp [Blk.n] at this ⊢
    omega
theorem pBk_complete {f : RdS} {n : Nat} (hf : ∀ s r, s.fits n = true → f (s.tx ++ r) = some (s, r)) : ∀ {b : Blk} {m : Nat} {r : Cs}, b.fits n = true → b ≠ .nil → b.n ≤ m → (∀ r', r ≠ 59 :: 32 :: r') → pBk f m (b.tx ++ r) = some (b, r)
  | .nil, m, r, _, h, _, _ => absurd rfl h
  | .cons s b, 0, r, _, _, h, _ => by simp [Blk.n] at h
  | .cons s .nil, m + 1, r, hb, _, hm, hr => by
    simp only [Blk.fits, Bool.and_eq_true] at hb
    rw [Blk.tx_one, pBk, hf s r hb.1]
    show (match r with | 59 :: 32 :: r' => _ | r => some (Blk.cons s .nil, r)) = _
    split
    · rename_i r'; exact absurd rfl (hr r')
    · rfl
  | .cons s (.cons s2 b), m + 1, r, hb, _, hm, hr => by
    rw [Blk.fits, Bool.and_eq_true] at hb
    have ih := pBk_complete hf (b := .cons s2 b) (m := m) (r := r) hb.2 (by simp) (by simp [Blk.n] at hm ⊢; omega) hr
    rw [Blk.tx_cons _ _ (by simp), List.append_assoc, pBk, hf s _ hb.1]
    simp only [List.cons_append, ih]
theorem pBlk_complete {f : RdS} {n : Nat} (hf : ∀ s r, s.fits n = true → f (s.tx ++ r) = some (s, r)) {b : Blk} {r : Cs} (hb : b.fits n = true) (h0 : b = .nil → r = [] ∨ ∃ r', r = 125 :: r') (h1 : b ≠ .nil → ∀ r', r ≠ 59 :: 32 :: r') : pBlk f (b.tx ++ r) = some (b, r) := by
  cases b with
  | nil =>
    show pBlk f r = _
    rcases h0 rfl with rfl | ⟨r', rfl⟩ <;> rfl
  | cons s b =>
    have hn : Blk.cons s b ≠ .nil := by simp
    have hc := pBk_complete hf (b := .cons s b) (m := ((Blk.cons s b).tx ++ r).length + 1) (r := r) hb hn (by have := Blk.n_le (.cons s b); rw [List.length_append]; omega) (h1 hn)
    obtain ⟨c, l, e, hne⟩ := s.tx_hd
    have e2 : ∃ l', (Blk.cons s b).tx ++ r = c :: l' := by
      cases b with
      | nil => rw [Blk.tx_one, e]; exact ⟨_, rfl⟩
      | cons _ _ => rw [Blk.tx_cons _ _ (by simp), e]; exact ⟨_, rfl⟩
    obtain ⟨l', e2⟩ := e2
    rw [e2] at hc ⊢
    simp only [pBlk, hne, ↓reduceIte]
    exact hc
theorem pBr_complete {f : RdS} {n : Nat} (hf : ∀ s r, s.fits n = true → f (s.tx ++ r) = some (s, r)) {b : Blk} {r : Cs} (hb : b.fits n = true) : pBr f (32 :: 123 :: (b.tx ++ 125 :: r)) = some (b, r) := by
  have h := pBlk_complete hf (b := b) (r := 125 :: r) hb (fun _ => .inr ⟨r, rfl⟩) (fun _ r' e => by injection e with e1; exact absurd e1 (by decide))
  simp only [pBr, h]
theorem pSt_if {n : Nat} {r : Cs} : pSt (n + 1) (105 :: 102 :: 32 :: r) = pIf (n + 1) (pSt n) r := rfl
theorem pSt_complete : ∀ {n : Nat} {s : Stm} {r : Cs}, s.fits n = true → pSt n (s.tx ++ r) = some (s, r)
  | n, .do_ i, r, h => by
    have hi : i < 10 := by simpa [Stm.fits] using h
    show pSt n (100 :: 111 :: 32 :: (48 + i) :: r) = _
    have e : pSt n (100 :: 111 :: 32 :: (48 + i) :: r) = pDo ((48 + i) :: r) := by cases n <;> rfl
    rw [e]
    simp [pDo, dg_add hi]
  | n, .set i x, r, h => by
    simp only [Stm.fits, Bool.and_eq_true, decide_eq_true_eq] at h
    obtain ⟨⟨h1, h2⟩, h3⟩ := h
    have e : (Stm.set i x).tx ++ r = 115 :: 101 :: 116 :: 32 :: (48 + i) :: 32 :: (x.tx ++ r) := by simp [Stm.tx]
    have e2 : pSt n (115 :: 101 :: 116 :: 32 :: (48 + i) :: 32 :: (x.tx ++ r)) = pSet n (115 :: 101 :: 116 :: 32 :: (48 + i) :: 32 :: (x.tx ++ r)) := by cases n <;> rfl
    rw [e, e2]
    simp [pSet, dg_add h1, pSum_complete h2 h3]
  | n, .stop, r, h => by cases n <;> rfl
  | 0, .iff x a b, r, h => by simp [Stm.fits] at h
  | n + 1, .iff x a b, r, h => by
    simp only [Stm.fits, Bool.and_eq_true, decide_eq_true_eq, Nat.add_sub_cancel] at h
    obtain ⟨⟨⟨⟨h1, h2⟩, _⟩, h3⟩, h4⟩ := h
    have e : (Stm.iff x a b).tx ++ r = 105 :: 102 :: 32 :: (x.tx ++ (32 :: 123 :: (a.tx ++ 125 :: (32 :: 123 :: (b.tx ++ 125 :: r))))) := by simp [Stm.tx]
    have hf : ∀ s r, s.fits n = true → pSt n (s.tx ++ r) = some (s, r) := fun s r h => pSt_complete h
    rw [e, pSt_if]
    simp only [pIf, Nat.add_sub_cancel, pSum_complete h1 h2, pBr_complete hf h3, pBr_complete hf h4]
end Z

/-! Texts as Str: slices, digits, joins. -/
namespace Z
open PySem PySem.Spec PyProof.Rows L2
def sl (l : Cs) : Str := ⟨l.toArray⟩
theorem sl_inj {a b : Cs} : (sl a = sl b) ↔ a = b := by
  constructor
  · intro h; have := congrArg (fun z => z.cps.toList) h; simpa [sl] using this
  · rintro rfl; rfl
theorem sl_of (x : Str) : x = sl x.cps.toList := by cases x; simp [sl]
theorem sl_len (a : Cs) : (sl a).length = a.length := by simp [sl, Str.length]
theorem sl_app (a b : Cs) : sl a ++ sl b = sl (a ++ b) := by
  show Str.mk (a.toArray ++ b.toArray) = _
  simp [sl]
theorem sl_cut {t : Cs} {i j : Nat} : cutS (sl t) (some (i : Int)) (some (j : Int)) = sl ((t.take j).drop i) := by
  unfold cutS
  rw [sl_len, HT.sIx_nat, HT.sIx_nat]
  show sl _ = _
  rw [sl_inj]
  simp only [sl]
  apply List.ext_getElem?
  intro k
  simp only [List.getElem?_take, List.getElem?_drop]
  by_cases h1 : i + k < t.length
  · by_cases h2 : i + k < j
    · rw [if_pos (by omega), if_pos h2, show min i t.length + k = i + k by omega]
    · rw [if_neg (by omega), if_neg h2]
  · have : t[i + k]? = none := List.getElem?_eq_none (by omega)
    rw [this]
    split
    · rw [List.getElem?_eq_none (by omega)]; split <;> rfl
    · split <;> rfl
theorem cut_at {p l : Cs} {k : Nat} : ((p ++ l).take (p.length + k)).drop p.length = l.take k := by
  rw [List.take_append, List.drop_append]
  simp
theorem sl_sl {p l : Cs} {S : Sto} {k : Nat} (h : (p ++ l).length ≤ 16777216) : slP S (.str (sl (p ++ l))) (some (p.length : Int)) (some ((p.length : Int) + (k : Int))) = some (.str (sl (l.take k))) := by
  unfold slP
  simp only [sl_len, h, ↓reduceIte]
  rw [show ((p.length : Int) + (k : Int)) = ((p.length + k : Nat) : Int) by omega, sl_cut, cut_at]
theorem sl_sl2 {p l : Cs} {S : Sto} {i j : Nat} (h : (p ++ l).length ≤ 16777216) : slP S (.str (sl (p ++ l))) (some ((p.length : Int) + (i : Int))) (some ((p.length : Int) + (j : Int))) = some (.str (sl ((l.take j).drop i))) := by
  unfold slP
  simp only [sl_len, h, ↓reduceIte]
  rw [show ((p.length : Int) + (i : Int)) = ((p.length + i : Nat) : Int) by omega, show ((p.length : Int) + (j : Int)) = ((p.length + j : Nat) : Int) by omega, sl_cut]
  congr 3
  rw [List.take_append, List.drop_append]
  simp
/-! ### digits -/
def digC : Cs := [48, 49, 50, 51, 52, 53, 54, 55, 56, 57]
theorem digits_eq : ("0123456789" : Str) = sl digC := by decide +kernel
theorem empty_eq : ("" : Str) = sl [] := by decide +kernel
theorem dg_mem {c : Nat} : decide (c ∈ digC) = dg c := by
  rw [Bool.eq_iff_iff]
  simp [digC, dg]
  omega
theorem in_dig {S : Sto} {c : Nat} : inD S (.str (sl [c])) (.str "0123456789") = some (.bl (dg c)) := by
  rw [digits_eq]
  show some (D.bl (decide (c ∈ (sl digC).cps.toList))) = _
  rw [show (sl digC).cps.toList = digC by simp [sl], dg_mem]
theorem notin_dig {S : Sto} {c : Nat} : notInD S (.str (sl [c])) (.str "0123456789") = some (.bl (!dg c)) := by
  rw [digits_eq]
  show some (D.bl (!decide (c ∈ (sl digC).cps.toList))) = _
  rw [show (sl digC).cps.toList = digC by simp [sl], dg_mem]
theorem int_dig {S : Sto} {c : Nat} (h : dg c = true) : intD S (.str (sl [c])) = some (.int ((c - 48 : Nat) : Int)) := by
  obtain ⟨h1, h2⟩ := dg_of h
  have : c = 48 ∨ c = 49 ∨ c = 50 ∨ c = 51 ∨ c = 52 ∨ c = 53 ∨ c = 54 ∨ c = 55 ∨ c = 56 ∨ c = 57 := by omega
  rcases this with rfl | rfl | rfl | rfl | rfl | rfl | rfl | rfl | rfl | rfl <;> kernel_rfl
theorem str_dig {S : Sto} {n : Nat} (h : n < 10) : strD S (.int (n : Int)) = some (.str (sl [48 + n])) := by
  have : n = 0 ∨ n = 1 ∨ n = 2 ∨ n = 3 ∨ n = 4 ∨ n = 5 ∨ n = 6 ∨ n = 7 ∨ n = 8 ∨ n = 9 := by omega
  rcases this with rfl | rfl | rfl | rfl | rfl | rfl | rfl | rfl | rfl | rfl <;> kernel_rfl
theorem fmt_dig {n : Nat} (h : n < 10) : fmtD (.int (n : Int)) = some (.str (sl [48 + n])) := by
  have : n = 0 ∨ n = 1 ∨ n = 2 ∨ n = 3 ∨ n = 4 ∨ n = 5 ∨ n = 6 ∨ n = 7 ∨ n = 8 ∨ n = 9 := by omega
  rcases this with rfl | rfl | rfl | rfl | rfl | rfl | rfl | rfl | rfl | rfl <;> kernel_rfl
end Z

/-! The defs of the module texts, for any law that has them. Printed by mkztc.py. -/
namespace Z
open PySem PySem.Spec PyProof.Rows L2
structure Tx where
  digit_at : Nat
  read_sum : Nat
  read_block : Nat
  read_braced : Nat
  read_if : Nat
  read_statement : Nat
  read_numbers : Nat
  read_line : Nat
  need_text : Nat
  parse_program : Nat
  parse_statement : Nat
  stands_somewhere : Nat
  sum_text : Nat
  statement_text : Nat
  block_text : Nat
  line_of : Nat
  program_text : Nat
  program_error : Nat
  gDIGITS : Nat
  gDEEPEST : Nat
  gMAX_CELLS : Nat
  gMAX_LETTERS : Nat
  gMAX_WORKS : Nat
  dSIGNS : Nat
  dNAMES : Nat
  dLETTERS : Nat
  dSUMS : Nat
  eBadText : Nat
def B_digit_at (tx : Tx) : Ss := (.cons (.asg (.nm 2) (.sl (.v 0) (.some (.v 1)) (.some (.op .Add (.v 1) (.c (.int 1)))))) (.cons (.ret (.ifx (.bo .And (.cons (.cmp .NotEq (.v 2) (.c (.str ""))) (.cons (.cmp .In (.v 2) (.g tx.gDIGITS)) .nil))) (.lst false (.cons (.bf .int (.cons (.v 2) .nil)) .nil)) (.lst false .nil))) .nil))
def B_read_sum (tx : Tx) : Ss := (.cons (.par [4, 5] (.cons (.sl (.v 0) (.some (.v 1)) (.some (.op .Add (.v 1) (.c (.int 1))))) (.cons (.call tx.digit_at (.cons (.v 0) (.cons (.v 1) .nil))) .nil))) (.cons (.ite (.cmp .NotEq (.v 5) (.lst false .nil)) (.cons (.ret (.tup (.cons (.ix (.v 5) (.c (.int 0))) (.cons (.op .Add (.v 1) (.c (.int 1))) .nil)))) .nil) .nil) (.cons (.ite (.din false (.v 4) tx.dSUMS) (.cons (.ret (.tup (.cons (.dgt tx.dSUMS (.v 4)) (.cons (.op .Add (.v 1) (.c (.int 1))) .nil)))) .nil) .nil) (.cons (.ite (.cmp .Eq (.v 4) (.c (.str "c"))) (.cons (.asg (.nm 6) (.call tx.digit_at (.cons (.v 0) (.cons (.op .Add (.v 1) (.c (.int 1))) .nil)))) (.cons (.ret (.ifx (.cmp .NotEq (.v 6) (.lst false .nil)) (.tup (.cons (.tup (.cons (.c (.str "cell")) (.cons (.ix (.v 6) (.c (.int 0))) .nil))) (.cons (.op .Add (.v 1) (.c (.int 2))) .nil))) (.tup (.cons (.c .non) (.cons (.v 1) .nil))))) .nil)) .nil) (.cons (.ite (.bo .Or (.cons (.cmp .NotEq (.v 4) (.c (.str "("))) (.cons (.cmp .GtE (.v 2) (.g tx.gDEEPEST)) .nil))) (.cons (.ret (.tup (.cons (.c .non) (.cons (.v 1) .nil)))) .nil) .nil) (.cons (.asg (.tup (.cons (.nm 7) (.cons (.nm 8) .nil))) (.call tx.read_sum (.cons (.v 0) (.cons (.op .Add (.v 1) (.c (.int 1))) (.cons (.op .Add (.v 2) (.c (.int 1))) .nil))))) (.cons (.asg (.nm 3) (.dgd tx.dNAMES (.sl (.v 0) (.some (.v 8)) (.some (.op .Add (.v 8) (.c (.int 1))))) (.c (.str "")))) (.cons (.ite (.bo .Or (.cons (.cmp .Is (.v 7) (.c .non)) (.cons (.cmp .Eq (.v 3) (.c (.str ""))) .nil))) (.cons (.ret (.tup (.cons (.c .non) (.cons (.v 1) .nil)))) .nil) .nil) (.cons (.asg (.tup (.cons (.nm 9) (.cons (.nm 10) .nil))) (.call tx.read_sum (.cons (.v 0) (.cons (.op .Add (.v 8) (.c (.int 1))) (.cons (.op .Add (.v 2) (.c (.int 1))) .nil))))) (.cons (.ite (.bo .Or (.cons (.cmp .Is (.v 9) (.c .non)) (.cons (.cmp .NotEq (.sl (.v 0) (.some (.v 10)) (.some (.op .Add (.v 10) (.c (.int 1))))) (.c (.str ")"))) .nil))) (.cons (.ret (.tup (.cons (.c .non) (.cons (.v 1) .nil)))) .nil) .nil) (.cons (.ret (.tup (.cons (.tup (.cons (.v 3) (.cons (.v 7) (.cons (.v 9) .nil)))) (.cons (.op .Add (.v 10) (.c (.int 1))) .nil)))) .nil)))))))))))
def B_read_block (tx : Tx) : Ss := (.cons (.ite (.cmp .In (.sl (.v 0) (.some (.v 1)) (.some (.op .Add (.v 1) (.c (.int 1))))) (.tup (.cons (.c (.str "")) (.cons (.c (.str "}")) .nil)))) (.cons (.ret (.tup (.cons (.tup .nil) (.cons (.v 1) .nil)))) .nil) .nil) (.cons (.par [4, 5] (.cons (.lst true .nil) (.cons (.c .non) .nil))) (.cons (.for_ (.nm 3) (.rng1 (.cons (.op .Add (.bf .len (.cons (.v 0) .nil)) (.c (.int 1))) .nil)) (.cons (.asg (.tup (.cons (.nm 5) (.cons (.nm 1) .nil))) (.call tx.read_statement (.cons (.v 0) (.cons (.v 1) (.cons (.v 2) .nil))))) (.cons (.ex (.app (.v 4) (.cons (.v 5) .nil))) (.cons (.ite (.bo .Or (.cons (.cmp .Is (.v 5) (.c .non)) (.cons (.cmp .NotEq (.sl (.v 0) (.some (.v 1)) (.some (.op .Add (.v 1) (.c (.int 2))))) (.c (.str "; "))) .nil))) (.cons .brk .nil) .nil) (.cons (.asg (.nm 1) (.op .Add (.v 1) (.c (.int 2)))) .nil))))) (.cons (.ret (.tup (.cons (.ifx (.cmp .Is (.v 5) (.c .non)) (.c .non) (.bf .tup (.cons (.v 4) .nil))) (.cons (.v 1) .nil)))) .nil))))
def B_read_braced (tx : Tx) : Ss := (.cons (.ite (.bo .Or (.cons (.cmp .NotEq (.sl (.v 0) (.some (.v 1)) (.some (.op .Add (.v 1) (.c (.int 2))))) (.c (.str " {"))) (.cons (.cmp .GtE (.v 2) (.g tx.gDEEPEST)) .nil))) (.cons (.ret (.tup (.cons (.c .non) (.cons (.v 1) .nil)))) .nil) .nil) (.cons (.asg (.tup (.cons (.nm 3) (.cons (.nm 4) .nil))) (.call tx.read_block (.cons (.v 0) (.cons (.op .Add (.v 1) (.c (.int 2))) (.cons (.op .Add (.v 2) (.c (.int 1))) .nil))))) (.cons (.ret (.ifx (.bo .And (.cons (.cmp .IsNot (.v 3) (.c .non)) (.cons (.cmp .Eq (.sl (.v 0) (.some (.v 4)) (.some (.op .Add (.v 4) (.c (.int 1))))) (.c (.str "}"))) .nil))) (.tup (.cons (.v 3) (.cons (.op .Add (.v 4) (.c (.int 1))) .nil))) (.tup (.cons (.c .non) (.cons (.v 1) .nil))))) .nil)))
def B_read_if (tx : Tx) : Ss := (.cons (.asg (.tup (.cons (.nm 3) (.cons (.nm 4) .nil))) (.call tx.read_sum (.cons (.v 0) (.cons (.v 1) (.cons (.op .Add (.v 2) (.c (.int 1))) .nil))))) (.cons (.ite (.cmp .Is (.v 3) (.c .non)) (.cons (.ret (.tup (.cons (.c .non) (.cons (.v 1) .nil)))) .nil) .nil) (.cons (.asg (.tup (.cons (.nm 5) (.cons (.nm 6) .nil))) (.call tx.read_braced (.cons (.v 0) (.cons (.v 4) (.cons (.v 2) .nil))))) (.cons (.ite (.cmp .Is (.v 5) (.c .non)) (.cons (.ret (.tup (.cons (.c .non) (.cons (.v 1) .nil)))) .nil) .nil) (.cons (.asg (.tup (.cons (.nm 7) (.cons (.nm 8) .nil))) (.call tx.read_braced (.cons (.v 0) (.cons (.v 6) (.cons (.v 2) .nil))))) (.cons (.ret (.ifx (.cmp .Is (.v 7) (.c .non)) (.tup (.cons (.c .non) (.cons (.v 1) .nil))) (.tup (.cons (.tup (.cons (.c (.str "if")) (.cons (.v 3) (.cons (.v 5) (.cons (.v 7) .nil))))) (.cons (.v 8) .nil))))) .nil))))))
def B_read_statement (tx : Tx) : Ss := (.cons (.ite (.cmp .Eq (.sl (.v 0) (.some (.v 1)) (.some (.op .Add (.v 1) (.c (.int 4))))) (.c (.str "stop"))) (.cons (.ret (.tup (.cons (.tup (.cons (.c (.str "stop")) .nil)) (.cons (.op .Add (.v 1) (.c (.int 4))) .nil)))) .nil) .nil) (.cons (.ite (.cmp .Eq (.sl (.v 0) (.some (.v 1)) (.some (.op .Add (.v 1) (.c (.int 3))))) (.c (.str "if "))) (.cons (.ret (.call tx.read_if (.cons (.v 0) (.cons (.op .Add (.v 1) (.c (.int 3))) (.cons (.v 2) .nil))))) .nil) .nil) (.cons (.ite (.cmp .Eq (.sl (.v 0) (.some (.v 1)) (.some (.op .Add (.v 1) (.c (.int 3))))) (.c (.str "do "))) (.cons (.asg (.nm 4) (.call tx.digit_at (.cons (.v 0) (.cons (.op .Add (.v 1) (.c (.int 3))) .nil)))) (.cons (.ret (.ifx (.cmp .NotEq (.v 4) (.lst false .nil)) (.tup (.cons (.tup (.cons (.c (.str "do")) (.cons (.ix (.v 4) (.c (.int 0))) .nil))) (.cons (.op .Add (.v 1) (.c (.int 4))) .nil))) (.tup (.cons (.c .non) (.cons (.v 1) .nil))))) .nil)) .nil) (.cons (.asg (.nm 3) (.call tx.digit_at (.cons (.v 0) (.cons (.op .Add (.v 1) (.c (.int 4))) .nil)))) (.cons (.ite (.bo .Or (.cons (.cmp .NotEq (.sl (.v 0) (.some (.v 1)) (.some (.op .Add (.v 1) (.c (.int 4))))) (.c (.str "set "))) (.cons (.cmp .Eq (.v 3) (.lst false .nil)) (.cons (.cmp .NotEq (.sl (.v 0) (.some (.op .Add (.v 1) (.c (.int 5)))) (.some (.op .Add (.v 1) (.c (.int 6))))) (.c (.str " "))) .nil)))) (.cons (.ret (.tup (.cons (.c .non) (.cons (.v 1) .nil)))) .nil) .nil) (.cons (.asg (.tup (.cons (.nm 5) (.cons (.nm 6) .nil))) (.call tx.read_sum (.cons (.v 0) (.cons (.op .Add (.v 1) (.c (.int 6))) (.cons (.op .Add (.v 2) (.c (.int 1))) .nil))))) (.cons (.ret (.ifx (.cmp .Is (.v 5) (.c .non)) (.tup (.cons (.c .non) (.cons (.v 1) .nil))) (.tup (.cons (.tup (.cons (.c (.str "set")) (.cons (.ix (.v 3) (.c (.int 0))) (.cons (.v 5) .nil)))) (.cons (.v 6) .nil))))) .nil)))))))
def B_read_numbers (tx : Tx) : Ss := (.cons (.asg (.nm 2) (.sm .split (.v 0) (.c (.str " ")))) (.cons (.ite (.bo .Or (.cons (.cmp .NotEq (.ix (.v 2) (.c (.int 0))) (.v 1)) (.cons (.cmp .NotEq (.lc false (.nm 3) (.seq (.sl (.v 2) (.some (.c (.int 1))) .none)) (.some (.bo .Or (.cons (.cmp .NotEq (.bf .len (.cons (.v 3) .nil)) (.c (.int 1))) (.cons (.cmp .NotIn (.v 3) (.g tx.gDIGITS)) .nil)))) (.v 3) [("one", 3)]) (.lst false .nil)) .nil))) (.cons (.ret (.tup .nil)) .nil) .nil) (.cons (.ret (.bf .tup (.cons (.lc false (.nm 3) (.seq (.sl (.v 2) (.some (.c (.int 1))) .none)) .none (.bf .int (.cons (.v 3) .nil)) [("one", 3)]) .nil))) .nil)))
def B_read_line (tx : Tx) : Ss := (.cons (.ite (.cmp .Eq (.v 0) (.v 1)) (.cons (.ret (.tup .nil)) .nil) .nil) (.cons (.ite (.bo .Or (.cons (.not (.tru (.sm .startswith (.v 0) (.op .Add (.v 1) (.c (.str " ")))))) (.cons (.cmp .Eq (.bf .len (.cons (.v 0) .nil)) (.op .Add (.bf .len (.cons (.v 1) .nil)) (.c (.int 1)))) .nil))) (.cons (.ret (.c .non)) .nil) .nil) (.cons (.asg (.tup (.cons (.nm 2) (.cons (.nm 3) .nil))) (.call tx.read_block (.cons (.v 0) (.cons (.op .Add (.bf .len (.cons (.v 1) .nil)) (.c (.int 1))) (.cons (.c (.int 1)) .nil))))) (.cons (.ret (.ifx (.cmp .Eq (.v 3) (.bf .len (.cons (.v 0) .nil))) (.v 2) (.c .non))) .nil))))
def B_need_text (tx : Tx) : Ss := (.cons (.ite (.not (.tru (.v 0))) (.cons (.rais tx.eBadText) .nil) .nil) .nil)
def B_parse_program (tx : Tx) : Ss := (.cons (.ex (.call tx.need_text (.cons (.isi (.v 0) .str) .nil))) (.cons (.asg (.nm 1) (.sm .split (.v 0) (.c (.str "\n")))) (.cons (.ex (.call tx.need_text (.cons (.cmp .Eq (.bf .len (.cons (.v 1) .nil)) (.c (.int 5))) .nil))) (.cons (.par [3, 4] (.cons (.call tx.read_numbers (.cons (.ix (.v 1) (.c (.int 0))) (.cons (.c (.str "letters")) .nil))) (.cons (.call tx.read_numbers (.cons (.ix (.v 1) (.c (.int 1))) (.cons (.c (.str "works")) .nil))) .nil))) (.cons (.ex (.call tx.need_text (.cons (.bo .And (.cons (.cmp .Eq (.bf .len (.cons (.v 3) .nil)) (.c (.int 2))) (.cons (.cmp .Eq (.bf .len (.cons (.v 4) .nil)) (.c (.int 1))) .nil))) .nil))) (.cons (.par [5, 6, 7] (.cons (.call tx.read_numbers (.cons (.ix (.v 1) (.c (.int 2))) (.cons (.c (.str "cells")) .nil))) (.cons (.call tx.read_line (.cons (.ix (.v 1) (.c (.int 3))) (.cons (.c (.str "body")) .nil))) (.cons (.call tx.read_line (.cons (.ix (.v 1) (.c (.int 4))) (.cons (.c (.str "tail")) .nil))) .nil)))) (.cons (.ex (.call tx.need_text (.cons (.bo .And (.cons (.cmp .IsNot (.v 6) (.c .non)) (.cons (.cmp .IsNot (.v 7) (.c .non)) .nil))) .nil))) (.cons (.asg (.nm 2) (.tup (.cons (.ix (.v 3) (.c (.int 0))) (.cons (.ix (.v 3) (.c (.int 1))) (.cons (.ix (.v 4) (.c (.int 0))) (.cons (.v 5) (.cons (.v 6) (.cons (.v 7) .nil)))))))) (.cons (.ex (.call tx.need_text (.cons (.cmp .Is (.call tx.program_error (.cons (.v 2) .nil)) (.c .non)) .nil))) (.cons (.ret (.v 2)) .nil))))))))))
def B_parse_statement (tx : Tx) : Ss := (.cons (.ex (.call tx.need_text (.cons (.isi (.v 0) .str) .nil))) (.cons (.asg (.tup (.cons (.nm 1) (.cons (.nm 2) .nil))) (.call tx.read_statement (.cons (.v 0) (.cons (.c (.int 0)) (.cons (.c (.int 1)) .nil))))) (.cons (.ex (.call tx.need_text (.cons (.bo .And (.cons (.cmp .IsNot (.v 1) (.c .non)) (.cons (.cmp .Eq (.v 2) (.bf .len (.cons (.v 0) .nil))) .nil))) .nil))) (.cons (.ex (.call tx.need_text (.cons (.call tx.stands_somewhere (.cons (.v 1) .nil)) .nil))) (.cons (.ret (.v 1)) .nil)))))
def B_stands_somewhere (tx : Tx) : Ss := (.cons (.asg (.nm 1) (.op .Mult (.tup (.cons (.c (.int 2)) .nil)) (.g tx.gMAX_CELLS))) (.cons (.ret (.cmp .Is (.call tx.program_error (.cons (.tup (.cons (.g tx.gMAX_LETTERS) (.cons (.g tx.gMAX_LETTERS) (.cons (.g tx.gMAX_WORKS) (.cons (.v 1) (.cons (.tup (.cons (.v 0) .nil)) (.cons (.tup .nil) .nil))))))) .nil)) (.c .non))) .nil))
def B_sum_text (tx : Tx) : Ss := (.cons (.ite (.tru (.isi (.v 0) .int)) (.cons (.ret (.bf .str (.cons (.v 0) .nil))) .nil) .nil) (.cons (.ite (.tru (.isi (.v 0) .str)) (.cons (.ret (.dgt tx.dLETTERS (.v 0))) .nil) .nil) (.cons (.ite (.cmp .Eq (.ix (.v 0) (.c (.int 0))) (.c (.str "cell"))) (.cons (.ret (.op .Add (.c (.str "c")) (.bf .str (.cons (.ix (.v 0) (.c (.int 1))) .nil)))) .nil) .nil) (.cons (.ret (.op .Add (.op .Add (.op .Add (.op .Add (.c (.str "(")) (.call tx.sum_text (.cons (.ix (.v 0) (.c (.int 1))) .nil))) (.dgt tx.dSIGNS (.ix (.v 0) (.c (.int 0))))) (.call tx.sum_text (.cons (.ix (.v 0) (.c (.int 2))) .nil))) (.c (.str ")")))) .nil))))
def B_statement_text (tx : Tx) : Ss := (.cons (.asg (.nm 1) (.ix (.v 0) (.c (.int 0)))) (.cons (.ite (.cmp .Eq (.v 1) (.c (.str "do"))) (.cons (.ret (.fs (.cons (.c (.str "do ")) (.cons (.fmt (.ix (.v 0) (.c (.int 1)))) .nil)))) .nil) .nil) (.cons (.ite (.cmp .Eq (.v 1) (.c (.str "set"))) (.cons (.ret (.fs (.cons (.c (.str "set ")) (.cons (.fmt (.ix (.v 0) (.c (.int 1)))) (.cons (.c (.str " ")) (.cons (.fmt (.call tx.sum_text (.cons (.ix (.v 0) (.c (.int 2))) .nil))) .nil)))))) .nil) .nil) (.cons (.ite (.cmp .Eq (.v 1) (.c (.str "stop"))) (.cons (.ret (.v 1)) .nil) .nil) (.cons (.par [2, 3] (.cons (.call tx.block_text (.cons (.ix (.v 0) (.c (.int 2))) .nil)) (.cons (.call tx.block_text (.cons (.ix (.v 0) (.c (.int 3))) .nil)) .nil))) (.cons (.ret (.op .Add (.op .Add (.op .Add (.op .Add (.op .Add (.op .Add (.c (.str "if ")) (.call tx.sum_text (.cons (.ix (.v 0) (.c (.int 1))) .nil))) (.c (.str " {"))) (.v 2)) (.c (.str "} {"))) (.v 3)) (.c (.str "}")))) .nil))))))
def B_block_text (tx : Tx) : Ss := (.cons (.ret (.sm .join (.c (.str "; ")) (.lc false (.nm 1) (.seq (.v 0)) .none (.call tx.statement_text (.cons (.v 1) .nil)) [("statement", 1)]))) .nil)
def B_line_of (tx : Tx) : Ss := (.cons (.ret (.ifx (.cmp .Eq (.v 1) (.tup .nil)) (.v 0) (.op .Add (.op .Add (.v 0) (.c (.str " "))) (.call tx.block_text (.cons (.v 1) .nil))))) .nil)
def B_program_text (tx : Tx) : Ss := (.cons (.asg (.nm 1) (.sm .join (.c (.str " ")) (.lc false (.nm 3) (.seq (.ix (.v 0) (.c (.int 3)))) .none (.bf .str (.cons (.v 3) .nil)) [("size", 3)]))) (.cons (.asg (.nm 2) (.lst false (.cons (.fs (.cons (.c (.str "letters ")) (.cons (.fmt (.ix (.v 0) (.c (.int 0)))) (.cons (.c (.str " ")) (.cons (.fmt (.ix (.v 0) (.c (.int 1)))) .nil))))) (.cons (.fs (.cons (.c (.str "works ")) (.cons (.fmt (.ix (.v 0) (.c (.int 2)))) .nil))) (.cons (.op .Add (.c (.str "cells ")) (.v 1)) .nil))))) (.cons (.ret (.sm .join (.c (.str "\n")) (.op .Add (.v 2) (.lst false (.cons (.call tx.line_of (.cons (.c (.str "body")) (.cons (.ix (.v 0) (.c (.int 4))) .nil))) (.cons (.call tx.line_of (.cons (.c (.str "tail")) (.cons (.ix (.v 0) (.c (.int 5))) .nil))) .nil)))))) .nil)))
structure RdA (T : List Fn) (G : Ev) (tx : Tx) : Prop where
  digit_at : T[tx.digit_at]? = some ⟨2, 3, B_digit_at tx⟩
  read_sum : T[tx.read_sum]? = some ⟨3, 11, B_read_sum tx⟩
  read_block : T[tx.read_block]? = some ⟨3, 6, B_read_block tx⟩
  read_braced : T[tx.read_braced]? = some ⟨3, 5, B_read_braced tx⟩
  read_if : T[tx.read_if]? = some ⟨3, 9, B_read_if tx⟩
  read_statement : T[tx.read_statement]? = some ⟨3, 7, B_read_statement tx⟩
  need_text : T[tx.need_text]? = some ⟨1, 1, B_need_text tx⟩
  gDIGITS : G.g[tx.gDIGITS]? = some (.str "0123456789")
  gDEEPEST : G.g[tx.gDEEPEST]? = some (.int 13)
  dNAMES : G.dc[tx.dNAMES]?.getD [] = ([("+", .str "plus"), ("*", .str "times"), ("<", .str "less"), ("=", .str "same")] : List (Str × D))
  dSUMS : G.dc[tx.dSUMS]?.getD [] = ([("k", .str "known"), ("s", .str "secret")] : List (Str × D))
structure PpA (T : List Fn) (G : Ev) (tx : Tx) : Prop extends RdA T G tx where
  read_numbers : T[tx.read_numbers]? = some ⟨2, 4, B_read_numbers tx⟩
  read_line : T[tx.read_line]? = some ⟨2, 4, B_read_line tx⟩
  parse_program : T[tx.parse_program]? = some ⟨1, 8, B_parse_program tx⟩
structure PsA (T : List Fn) (G : Ev) (tx : Tx) : Prop extends RdA T G tx where
  parse_statement : T[tx.parse_statement]? = some ⟨1, 3, B_parse_statement tx⟩
  stands_somewhere : T[tx.stands_somewhere]? = some ⟨1, 2, B_stands_somewhere tx⟩
  gMAX_CELLS : G.g[tx.gMAX_CELLS]? = some (.int 4)
  gMAX_LETTERS : G.g[tx.gMAX_LETTERS]? = some (.int 3)
  gMAX_WORKS : G.g[tx.gMAX_WORKS]? = some (.int 5)
structure WsA (T : List Fn) (G : Ev) (tx : Tx) : Prop where
  sum_text : T[tx.sum_text]? = some ⟨1, 1, B_sum_text tx⟩
  statement_text : T[tx.statement_text]? = some ⟨1, 4, B_statement_text tx⟩
  block_text : T[tx.block_text]? = some ⟨1, 2, B_block_text tx⟩
  dSIGNS : G.dc[tx.dSIGNS]?.getD [] = ([("plus", .str "+"), ("times", .str "*"), ("less", .str "<"), ("same", .str "=")] : List (Str × D))
  dLETTERS : G.dc[tx.dLETTERS]?.getD [] = ([("known", .str "k"), ("secret", .str "s")] : List (Str × D))
structure WpA (T : List Fn) (G : Ev) (tx : Tx) : Prop extends WsA T G tx where
  line_of : T[tx.line_of]? = some ⟨2, 2, B_line_of tx⟩
  program_text : T[tx.program_text]? = some ⟨1, 4, B_program_text tx⟩
instance {T : List Fn} {G : Ev} {tx : Tx} : CoeOut (PpA T G tx) (RdA T G tx) := ⟨PpA.toRdA⟩
instance {T : List Fn} {G : Ev} {tx : Tx} : CoeOut (PsA T G tx) (RdA T G tx) := ⟨PsA.toRdA⟩
instance {T : List Fn} {G : Ev} {tx : Tx} : CoeOut (WpA T G tx) (WsA T G tx) := ⟨WpA.toWsA⟩
end Z

/-! Sums read. -/
namespace Z
open PySem PySem.Spec PyProof.Rows L2
theorem l_c : ("c" : Str) = sl [99] := by decide +kernel
theorem l_po : ("(" : Str) = sl [40] := by decide +kernel
theorem l_pc : (")" : Str) = sl [41] := by decide +kernel
theorem l_k : ("k" : Str) = sl [107] := by decide +kernel
theorem l_s : ("s" : Str) = sl [115] := by decide +kernel
theorem l_plus : ("+" : Str) = sl [43] := by decide +kernel
theorem l_times : ("*" : Str) = sl [42] := by decide +kernel
theorem l_less : ("<" : Str) = sl [60] := by decide +kernel
theorem l_same : ("=" : Str) = sl [61] := by decide +kernel
theorem beq_sl {a b : Cs} : (sl a == sl b) = decide (a = b) := by
  by_cases h : a = b
  · subst h; simp
  · rw [decide_eq_false h]; exact beq_eq_false_iff_ne.mpr fun e => h (sl_inj.mp e)
def sumL (c : Nat) : Option D := if c = 107 then some (.str "known") else if c = 115 then some (.str "secret") else none
theorem look_sums {l : Cs} : ([(("k" : Str), D.str "known"), ("s", .str "secret")] : List (Str × D)).lookup (sl l) = match l with | [c] => sumL c | _ => none := by
  rw [l_k, l_s]
  simp only [List.lookup_cons, List.lookup_nil, beq_sl]
  match l with
  | [] => rfl
  | [c] =>
    by_cases h1 : c = 107
    · subst h1; rfl
    · by_cases h2 : c = 115
      · subst h2; rfl
      · simp [sumL, h1, h2]
  | a :: b :: l => simp
theorem look_names {l : Cs} {y : D} : (([(("+" : Str), D.str "plus"), ("*", .str "times"), ("<", .str "less"), ("=", .str "same")] : List (Str × D)).lookup (sl l)).getD y = match l with | [c] => (match opOf c with | some o => .str o.s | none => y) | _ => y := by
  rw [l_plus, l_times, l_less, l_same]
  simp only [List.lookup_cons, List.lookup_nil, beq_sl]
  match l with
  | [] => rfl
  | [c] =>
    by_cases h1 : c = 43
    · subst h1; rfl
    · by_cases h2 : c = 42
      · subst h2; rfl
      · by_cases h3 : c = 60
        · subst h3; rfl
        · by_cases h4 : c = 61
          · subst h4; rfl
          · simp [opOf, h1, h2, h3, h4]
  | a :: b :: l => simp
def digL : Cs → List D
  | c :: _ => if dg c then [.int ((c - 48 : Nat) : Int)] else []
  | [] => []
section
variable {T : List Fn} {G : Ev} {wf : Nat} {tx : Tx}
theorem dig_ok (A : RdA T G tx) {k : Nat} {S : Sto} {p l : Cs} {i : Nat} (h : (p ++ l).length ≤ 16777216) : run T G wf (k + 1) tx.digit_at [.str (sl (p ++ l)), .int ((p.length : Int) + (i : Int))] S = .ok (.lst (digL (l.drop i))) S := by
  rw [run_succ (fn := ⟨2, 3, B_digit_at tx⟩) A.digit_at rfl]
  have c1 : slP S (.str (sl (p ++ l))) (some ((p.length : Int) + (i : Int))) (some ((p.length : Int) + (i : Int) + 1)) = some (.str (sl ((l.drop i).take 1))) := by
    have := sl_sl2 (S := S) (i := i) (j := i + 1) h
    rw [show ((p.length : Int) + ((i + 1 : Nat) : Int)) = (p.length : Int) + (i : Int) + 1 by omega] at this
    rw [this, List.drop_take, Nat.add_sub_cancel_left]
  generalize l.drop i = m at *
  cases m with
  | nil =>
    have e : ("" : Str) = sl [] := empty_eq
    simp [B_digit_at, slots0, fnEnd, c1, e, digL]
  | cons c m =>
    have e : (sl [c] = ("" : Str)) = False := by rw [empty_eq, sl_inj]; simp
    cases hd : dg c with
    | true => simp [B_digit_at, slots0, fnEnd, c1, e, A.gDIGITS, in_dig, hd, int_dig hd, digL]
    | false => simp [B_digit_at, slots0, fnEnd, c1, e, A.gDIGITS, in_dig, hd, digL]
theorem dig_ok0 (A : RdA T G tx) {k : Nat} {S : Sto} {p l : Cs} (h : (p ++ l).length ≤ 16777216) : run T G wf (k + 1) tx.digit_at [.str (sl (p ++ l)), .int (p.length : Int)] S = .ok (.lst (digL l)) S := by
  have := dig_ok (wf := wf) A (k := k) (S := S) (i := 0) h
  simpa using this
end
end Z

/-! Sums read: the def. -/
namespace Z
open PySem PySem.Spec PyProof.Rows L2
def rsD (p : Cs) : Option (Fm × Cs) → D
  | some (f, _) => .tup [f.d, .int ((p.length + f.tx.length : Nat) : Int)]
  | none => .tup [.non, .int (p.length : Int)]
theorem neL0' {S : Sto} {xs : List D} : neD S (.lst xs) (.lst []) = some (.bl (!xs.isEmpty)) := by cases xs <;> rfl
theorem eqL0' {S : Sto} {xs : List D} : eqD S (.lst xs) (.lst []) = some (.bl xs.isEmpty) := by cases xs <;> rfl
theorem ixL0 {S : Sto} {x : D} {xs : List D} : ixP S (.lst (x :: xs)) (.int 0) = some x := by
  show L2.atI (x :: xs) 0 = _
  rw [atI_in (by omega) (by simp)]; rfl
theorem ne_e1 {c : Nat} : (sl [c] = ("" : Str)) = False := by rw [empty_eq, sl_inj]; simp
theorem eq_c {l : Cs} : (sl l = ("c" : Str)) = (l = [99]) := by rw [l_c, sl_inj]
theorem eq_po {l : Cs} : (sl l = ("(" : Str)) = (l = [40]) := by rw [l_po, sl_inj]
theorem eq_pc {l : Cs} : (sl l = (")" : Str)) = (l = [41]) := by rw [l_pc, sl_inj]
theorem isN_non {S : Sto} : isNP false S .non .non = some (.bl true) := rfl
theorem isN_tup {S : Sto} {xs : List D} {b : Bool} : isNP b S (.tup xs) .non = some (.bl b) := by cases b <;> rfl
theorem isN_fm {S : Sto} {f : Fm} {b : Bool} : isNP b S f.d .non = some (.bl b) := by cases f <;> cases b <;> rfl
theorem isN_non' {S : Sto} {b : Bool} : isNP b S .non .non = some (.bl (!b)) := by cases b <;> rfl
theorem opr_ne {o : Opr} : (o.s = ("" : Str)) = False := by cases o <;> exact eq_false (by decide +kernel)
section
variable {T : List Fn} {G : Ev} {wf : Nat} {tx : Tx}
theorem rs_0 {C : Nat → List D → Sto → Out D} {S : Sto} {t deep a b : D} {i : Int} (c1 : slP S t (some i) (some (i + 1)) = some a) (d0 : C tx.digit_at [t, .int i] S = .ok b S) :
    dS G C wf ((B_read_sum tx).at 0) [some t, some (.int i), some deep, none, none, none, none, none, none, none, none] S = .ok .nx [some t, some (.int i), some deep, none, some a, some b, none, none, none, none, none] S := by
  have w1 : dE G C (.sl (.v 0) (.some (.v 1)) (.some (.op .Add (.v 1) (.c (.int 1))))) [some t, some (.int i), some deep, none, none, none, none, none, none, none, none] S = .ok a S := by simp [c1]
  have w2 : dE G C (.call tx.digit_at (.cons (.v 0) (.cons (.v 1) .nil))) [some t, some (.int i), some deep, none, none, none, none, none, none, none, none] S = .ok b S := by simp [d0]
  exact par_2 (i := 4) (j := 5) w1 w2
theorem rs_leaf (A : RdA T G tx) {n k deep : Nat} {p l : Cs} {S : Sto} (hl : (p ++ l).length ≤ 1000000) (h : ∀ l0, l = 40 :: l0 → 13 ≤ deep) : run T G wf (k + 2) tx.read_sum [.str (sl (p ++ l)), .int (p.length : Int), .int (deep : Int)] S = .ok (rsD p (pLeaf l)) S := by
  rw [run_succ (fn := ⟨3, 11, B_read_sum tx⟩) A.read_sum rfl]
  have c1 : slP S (.str (sl (p ++ l))) (some (p.length : Int)) (some ((p.length : Int) + 1)) = some (.str (sl (l.take 1))) := sl_sl (k := 1) (by omega)
  have d0 : run T G wf (k + 1) tx.digit_at [.str (sl (p ++ l)), .int (p.length : Int)] S = .ok (.lst (digL l)) S := dig_ok0 A (by omega)
  have d1 : run T G wf (k + 1) tx.digit_at [.str (sl (p ++ l)), .int ((p.length : Int) + 1)] S = .ok (.lst (digL (l.drop 1))) S := dig_ok A (i := 1) (by omega)
  rw [show slots0 (Fn.mk 3 11 (B_read_sum tx)).ns [.str (sl (p ++ l)), .int (p.length : Int), .int (deep : Int)] = [some (.str (sl (p ++ l))), some (.int (p.length : Int)), some (.int (deep : Int)), none, none, none, none, none, none, none, none] from rfl, stp0 rfl (rs_0 c1 d0)]
  cases l with
  | nil => simp [B_read_sum, Ss.fr, fnEnd, c1, d0, digL, neL0', A.dSUMS, look_sums, eq_c, eq_po, pLeaf, rsD]
  | cons c l =>
    cases hd : dg c with
    | true => simp [B_read_sum, Ss.fr, fnEnd, c1, d0, digL, neL0', ixL0, hd, pLeaf, rsD, Fm.d, Fm.tx]
    | false =>
      by_cases h1 : c = 107
      · subst h1; simp [B_read_sum, Ss.fr, fnEnd, c1, d0, digL, neL0', hd, A.dSUMS, look_sums, sumL, pLeaf, rsD, Fm.d, Fm.tx]
      · by_cases h2 : c = 115
        · subst h2; simp [B_read_sum, Ss.fr, fnEnd, c1, d0, digL, neL0', hd, A.dSUMS, look_sums, sumL, pLeaf, rsD, Fm.d, Fm.tx]
        · by_cases h3 : c = 99
          · subst h3
            cases l with
            | nil => simp [B_read_sum, Ss.fr, fnEnd, c1, d0, d1, digL, neL0', hd, A.dSUMS, look_sums, sumL, eq_c, pLeaf, rsD]
            | cons d l =>
              cases hd2 : dg d with
              | true => simp [B_read_sum, Ss.fr, fnEnd, c1, d0, d1, digL, neL0', ixL0, hd, hd2, A.dSUMS, look_sums, sumL, eq_c, pLeaf, rsD, Fm.d, Fm.tx]
              | false => simp [B_read_sum, Ss.fr, fnEnd, c1, d0, d1, digL, neL0', hd, hd2, A.dSUMS, look_sums, sumL, eq_c, pLeaf, rsD]
          · by_cases h4 : c = 40
            · subst h4
              have := h l rfl
              have z : (13 : Int) ≤ deep := by omega
              simp [B_read_sum, Ss.fr, fnEnd, c1, d0, digL, neL0', hd, A.dSUMS, look_sums, sumL, eq_c, eq_po, A.gDEEPEST, z, pLeaf, rsD]
            · simp [B_read_sum, Ss.fr, fnEnd, c1, d0, digL, neL0', hd, A.dSUMS, look_sums, sumL, eq_c, eq_po, h1, h2, h3, h4, pLeaf, rsD]
theorem rs_ok (A : RdA T G tx) : ∀ (n : Nat) (p l : Cs) (deep k : Nat) (S : Sto), n = 13 - deep → (p ++ l).length ≤ 1000000 → run T G wf (k + n + 2) tx.read_sum [.str (sl (p ++ l)), .int (p.length : Int), .int (deep : Int)] S = .ok (rsD p (pSum n l)) S
  | 0, p, l, deep, k, S, hn, hl => by
    rw [pSum]
    exact rs_leaf A (n := 0) hl fun _ _ => by omega
  | n + 1, p, l, deep, k, S, hn, hl => by
    cases l with
    | nil => exact rs_leaf (k := k + (n + 1)) A (n := 0) hl fun _ e => by cases e
    | cons c l =>
      by_cases hc : c = 40
      · subst hc
        rw [show k + (n + 1) + 2 = (k + n + 2) + 1 by omega, run_succ (fn := ⟨3, 11, B_read_sum tx⟩) A.read_sum rfl]
        have c1 : slP S (.str (sl (p ++ 40 :: l))) (some (p.length : Int)) (some ((p.length : Int) + 1)) = some (.str (sl [40])) := sl_sl (k := 1) (by omega)
        have d0 : run T G wf (k + n + 2) tx.digit_at [.str (sl (p ++ 40 :: l)), .int (p.length : Int)] S = .ok (.lst []) S := dig_ok0 A (by omega)
        have hd : ¬ (13 : Int) ≤ deep := by omega
        have pe : p ++ 40 :: l = (p ++ [40]) ++ l := by simp
        have e1 : run T G wf (k + n + 2) tx.read_sum [.str (sl (p ++ 40 :: l)), .int ((p.length : Int) + 1), .int ((deep : Int) + 1)] S = .ok (rsD (p ++ [40]) (pSum n l)) S := by
          have := rs_ok A n (p ++ [40]) l (deep + 1) k S (by omega) (by rw [← pe]; exact hl)
          rw [← pe] at this
          simpa using this
        rw [show slots0 (Fn.mk 3 11 (B_read_sum tx)).ns [.str (sl (p ++ 40 :: l)), .int (p.length : Int), .int (deep : Int)] = [some (.str (sl (p ++ 40 :: l))), some (.int (p.length : Int)), some (.int (deep : Int)), none, none, none, none, none, none, none, none] from rfl, stp0 rfl (rs_0 c1 d0)]
        rw [pSum]
        simp only [↓reduceIte]
        cases q1 : pSum n l with
        | none =>
          have c2 : slP S (.str (sl (p ++ 40 :: l))) (some ((p.length : Int) + 1)) (some ((p.length : Int) + 1 + 1)) = some (.str (sl (l.take 1))) := by
            have := sl_sl (p := p ++ [40]) (l := l) (S := S) (k := 1) (by rw [← pe]; omega)
            rw [← pe] at this
            simpa using this
          rw [q1] at e1
          simp only [rsD, List.length_append, List.length_cons, List.length_nil] at e1
          simp at e1
          simp [B_read_sum, Ss.fr, fnEnd, c1, d0, neL0', A.dSUMS, look_sums, sumL, eq_c, eq_po, A.gDEEPEST, hd, e1, gTp, gsCons, tgsLen, dGs, dG, gNm, gsNil, c2, isN_non', rsD]
        | some ar =>
          obtain ⟨a, r⟩ := ar
          obtain ⟨el, _, _⟩ := pSum_sound q1
          rw [q1] at e1
          have p2 : p ++ 40 :: l = (p ++ 40 :: a.tx) ++ r := by rw [el]; simp
          have n2 : (p ++ 40 :: a.tx).length = p.length + 1 + a.tx.length := by simp; omega
          have c2 : slP S (.str (sl (p ++ 40 :: l))) (some ((p.length : Int) + 1 + a.tx.length)) (some ((p.length : Int) + 1 + a.tx.length + 1)) = some (.str (sl (r.take 1))) := by
            have := sl_sl (p := p ++ 40 :: a.tx) (l := r) (S := S) (k := 1) (by rw [← p2]; omega)
            rw [← p2, n2] at this
            simpa using this
          simp only [rsD, List.length_append, List.length_cons, List.length_nil] at e1
          simp at e1
          cases r with
          | nil => simp [B_read_sum, Ss.fr, fnEnd, c1, d0, neL0', A.dSUMS, A.dNAMES, look_sums, look_names, sumL, eq_c, eq_po, A.gDEEPEST, hd, e1, gTp, gsCons, tgsLen, dGs, dG, gNm, gsNil, c2, isN_fm, rsD]
          | cons s r1 =>
            simp only [List.take_succ_cons, List.take_zero] at c2
            cases q2 : opOf s with
            | none => simp [B_read_sum, Ss.fr, fnEnd, c1, d0, neL0', A.dSUMS, A.dNAMES, look_sums, look_names, sumL, eq_c, eq_po, A.gDEEPEST, hd, e1, gTp, gsCons, tgsLen, dGs, dG, gNm, gsNil, c2, isN_fm, rsD, q2]
            | some o =>
              have p3 : p ++ 40 :: l = (p ++ 40 :: (a.tx ++ [s])) ++ r1 := by rw [p2]; simp
              have n3 : (p ++ 40 :: (a.tx ++ [s])).length = p.length + 1 + a.tx.length + 1 := by simp; omega
              have e2 : run T G wf (k + n + 2) tx.read_sum [.str (sl (p ++ 40 :: l)), .int ((p.length : Int) + 1 + a.tx.length + 1), .int ((deep : Int) + 1)] S = .ok (rsD (p ++ 40 :: (a.tx ++ [s])) (pSum n r1)) S := by
                have := rs_ok A n (p ++ 40 :: (a.tx ++ [s])) r1 (deep + 1) k S (by omega) (by rw [← p3]; exact hl)
                rw [← p3, n3] at this
                simpa using this
              cases q3 : pSum n r1 with
              | none =>
                rw [q3] at e2
                simp only [rsD, n3] at e2
                simp [B_read_sum, Ss.fr, fnEnd, c1, d0, neL0', A.dSUMS, A.dNAMES, look_sums, look_names, sumL, eq_c, eq_po, A.gDEEPEST, hd, e1, e2, gTp, gsCons, tgsLen, dGs, dG, gNm, gsNil, c2, isN_fm, isN_non', rsD, q2, q3, opr_ne]
              | some br =>
                obtain ⟨b, r2⟩ := br
                obtain ⟨el2, _, _⟩ := pSum_sound q3
                rw [q3] at e2
                have p4 : p ++ 40 :: l = (p ++ 40 :: (a.tx ++ s :: b.tx)) ++ r2 := by rw [p3, el2]; simp
                have n4 : (p ++ 40 :: (a.tx ++ s :: b.tx)).length = p.length + 1 + a.tx.length + 1 + b.tx.length := by simp; omega
                have c3 : slP S (.str (sl (p ++ 40 :: l))) (some ((p.length : Int) + 1 + a.tx.length + 1 + b.tx.length)) (some ((p.length : Int) + 1 + a.tx.length + 1 + b.tx.length + 1)) = some (.str (sl (r2.take 1))) := by
                  have := sl_sl (p := p ++ 40 :: (a.tx ++ s :: b.tx)) (l := r2) (S := S) (k := 1) (by rw [← p4]; omega)
                  rw [← p4, n4] at this
                  simpa using this
                simp only [rsD, n3] at e2
                simp at e2
                cases r2 with
                | nil => simp [B_read_sum, Ss.fr, fnEnd, c1, d0, neL0', A.dSUMS, A.dNAMES, look_sums, look_names, sumL, eq_c, eq_po, eq_pc, A.gDEEPEST, hd, e1, e2, gTp, gsCons, tgsLen, dGs, dG, gNm, gsNil, c2, c3, isN_fm, rsD, q2, q3, opr_ne]
                | cons e r3 =>
                  simp only [List.take_succ_cons, List.take_zero] at c3
                  by_cases q4 : e = 41
                  · subst q4
                    simp [B_read_sum, Ss.fr, fnEnd, c1, d0, neL0', A.dSUMS, A.dNAMES, look_sums, look_names, sumL, eq_c, eq_po, eq_pc, A.gDEEPEST, hd, e1, e2, gTp, gsCons, tgsLen, dGs, dG, gNm, gsNil, c2, c3, isN_fm, rsD, q2, q3, opr_ne, Fm.d, Fm.tx]
                    omega
                  · simp [B_read_sum, Ss.fr, fnEnd, c1, d0, neL0', A.dSUMS, A.dNAMES, look_sums, look_names, sumL, eq_c, eq_po, eq_pc, A.gDEEPEST, hd, e1, e2, gTp, gsCons, tgsLen, dGs, dG, gNm, gsNil, c2, c3, isN_fm, rsD, q2, q3, opr_ne, q4]
      · rw [pSum]
        simp only [hc, ↓reduceIte]
        exact rs_leaf (k := k + (n + 1)) A (n := 0) hl fun _ e => by cases e; exact absurd rfl hc
end
end Z

/-! Blocks and statements read: the defs. -/
namespace Z
open PySem PySem.Spec PyProof.Rows L2
def RsT (p : Cs) (o : Option (Stm × Cs)) (d : D) : Prop := match o with
  | some (s, _) => d = .tup [s.d, .int ((p.length : Int) + (s.tx.length : Int))]
  | none => ∃ e : Int, d = .tup [.non, .int e]
def RsB (p : Cs) (o : Option (Blk × Cs)) (d : D) : Prop := match o with
  | some (b, _) => d = .tup [.tup b.ds, .int ((p.length : Int) + (b.tx.length : Int))]
  | none => ∃ e : Int, d = .tup [.non, .int e]
theorem isN_stm {S : Sto} {s : Stm} {b : Bool} : isNP b S s.d .non = some (.bl b) := by cases s <;> cases b <;> rfl
theorem l_sc : ("; " : Str) = sl [59, 32] := by decide +kernel
theorem l_br : (" {" : Str) = sl [32, 123] := by decide +kernel
theorem l_bc : ("}" : Str) = sl [125] := by decide +kernel
theorem l_stop : ("stop" : Str) = sl [115, 116, 111, 112] := by decide +kernel
theorem l_if : ("if " : Str) = sl [105, 102, 32] := by decide +kernel
theorem l_do : ("do " : Str) = sl [100, 111, 32] := by decide +kernel
theorem l_set : ("set " : Str) = sl [115, 101, 116, 32] := by decide +kernel
theorem l_sp : (" " : Str) = sl [32] := by decide +kernel
theorem eq_sc {l : Cs} : (sl l = ("; " : Str)) = (l = [59, 32]) := by rw [l_sc, sl_inj]
theorem eq_br {l : Cs} : (sl l = (" {" : Str)) = (l = [32, 123]) := by rw [l_br, sl_inj]
theorem eq_bc {l : Cs} : (sl l = ("}" : Str)) = (l = [125]) := by rw [l_bc, sl_inj]
theorem eq_stop {l : Cs} : (sl l = ("stop" : Str)) = (l = [115, 116, 111, 112]) := by rw [l_stop, sl_inj]
theorem eq_if {l : Cs} : (sl l = ("if " : Str)) = (l = [105, 102, 32]) := by rw [l_if, sl_inj]
theorem eq_do {l : Cs} : (sl l = ("do " : Str)) = (l = [100, 111, 32]) := by rw [l_do, sl_inj]
theorem eq_set {l : Cs} : (sl l = ("set " : Str)) = (l = [115, 101, 116, 32]) := by rw [l_set, sl_inj]
theorem eq_sp {l : Cs} : (sl l = (" " : Str)) = (l = [32]) := by rw [l_sp, sl_inj]
theorem in_eb {S : Sto} {l : Cs} : inD S (.str (sl l)) (.tup [.str "", .str "}"]) = some (.bl (decide (l = [] ∨ l = [125]))) := by
  have e : inD S (.str (sl l)) (.tup [.str "", .str "}"]) = some (.bl ((("" : Str) == sl l) || (("}" : Str) == sl l))) := by
    simp [inD, inP, asQ, flatD, eqF]
  rw [e, empty_eq, l_bc, beq_sl, beq_sl]
  congr 2
  rw [Bool.eq_iff_iff]
  simp only [Bool.or_eq_true, decide_eq_true_eq]
  exact ⟨fun h => h.imp Eq.symm Eq.symm, fun h => h.imp Eq.symm Eq.symm⟩
def rbB (tx : Tx) : Ss := match (B_read_block tx).at 2 with
  | .for_ _ _ b => b
  | _ => .nil
/-- a way to read statements -/
def StR (C : Nat → List D → Sto → Out D) (tx : Tx) (deep : Nat) (f : RdS) : Prop := ∀ (p l : Cs) (S : Sto), (p ++ l).length ≤ 1000000 →
  ∃ d S', C tx.read_statement [.str (sl (p ++ l)), .int (p.length : Int), .int (deep : Int)] S = .ok d S' ∧ RsT p (f l) d ∧ Pre S S'
section
variable {T : List Fn} {G : Ev} {wf : Nat} {tx : Tx} {C : Nat → List D → Sto → Out D}
theorem tup2 {i j : Nat} {x y : D} {sd : Sl} {S : Sto} : dG G C (.tup (.cons (.nm i) (.cons (.nm j) .nil))) (.tup [x, y]) sd S = some ((sd.set i (some x)).set j (some y), S) := rfl
theorem asg2 {i j : Nat} {e : E} {x y : D} {sd : Sl} {S S1 : Sto} (h : dE G C e sd S = .ok (.tup [x, y]) S1) : dS G C wf (.asg (.tup (.cons (.nm i) (.cons (.nm j) .nil))) e) sd S = .ok .nx ((sd.set i (some x)).set j (some y)) S1 := by
  show mAsg (dE G C e) (dG G C (.tup (.cons (.nm i) (.cons (.nm j) .nil)))) sd S = _
  unfold mAsg
  rw [h]
  rfl
theorem blk_for {f : RdS} {n deep : Nat} (hf : ∀ l s r, f l = some (s, r) → l = s.tx ++ r ∧ s.fits n = true) (H : StR C tx deep f) {c : Nat} : ∀ (ts : List D) (p l : Cs) (acc : List D) (S : Sto) (x3 x5 : Option D), (p ++ l).length ≤ 1000000 → S[c]? = some (.lst acc) → acc.length + l.length ≤ 1000000 → l.length < ts.length →
    ∃ (x3' : Option D) (e : Int) (st : D) (S' : Sto), forL (gNm 3) (dSs G C wf (rbB tx)) ts [some (.str (sl (p ++ l))), some (.int (p.length : Int)), some (.int (deep : Int)), x3, some (.loc c), x5] S = .ok .nx [some (.str (sl (p ++ l))), some (.int e), some (.int (deep : Int)), x3', some (.loc c), some st] S' ∧
      (match pBk f ts.length l with
        | some (b, _) => e = (p.length : Int) + (b.tx.length : Int) ∧ (∀ S k, isNP k S st .non = some (.bl k)) ∧ S'[c]? = some (.lst (acc ++ b.ds)) ∧ acc.length + b.ds.length ≤ 1000000
        | none => st = .non) ∧ S.length ≤ S'.length ∧ (∀ i, i < S.length → i ≠ c → S'[i]? = S[i]?)
  | [], p, l, acc, S, x3, x5, _, _, _, h => by simp at h
  | t :: ts, p, l, acc, S, x3, x5, hl, hc, ha, hm => by
    obtain ⟨d, S1, e1, r1, p1⟩ := H p l S hl
    have hcl : c < S.length := (List.getElem?_eq_some_iff.mp hc).1
    have hc1 : S1[c]? = some (.lst acc) := by rw [p1.get c hcl]; exact hc
    rw [forL, List.length_cons]
    have g : gNm 3 t [some (.str (sl (p ++ l))), some (.int (p.length : Int)), some (.int (deep : Int)), x3, some (.loc c), x5] S = some ([some (.str (sl (p ++ l))), some (.int (p.length : Int)), some (.int (deep : Int)), some t, some (.loc c), x5], S) := rfl
    simp only [g]
    have ev : ∀ d5 d1, d = .tup [d5, d1] → dS G C wf ((rbB tx).at 0) [some (.str (sl (p ++ l))), some (.int (p.length : Int)), some (.int (deep : Int)), some t, some (.loc c), x5] S = .ok .nx [some (.str (sl (p ++ l))), some d1, some (.int (deep : Int)), some t, some (.loc c), some d5] S1 := fun d5 d1 ed => by
      subst ed
      have w : dE G C (.call tx.read_statement (.cons (.v 0) (.cons (.v 1) (.cons (.v 2) .nil)))) [some (.str (sl (p ++ l))), some (.int (p.length : Int)), some (.int (deep : Int)), some t, some (.loc c), x5] S = .ok (.tup [d5, d1]) S1 := by simp [e1]
      exact asg2 (i := 5) (j := 1) w
    have ap : ∀ d5 d1, acc.length < 16777216 → dS G C wf ((rbB tx).at 1) [some (.str (sl (p ++ l))), some d1, some (.int (deep : Int)), some t, some (.loc c), some d5] S1 = .ok .nx [some (.str (sl (p ++ l))), some d1, some (.int (deep : Int)), some t, some (.loc c), some d5] (S1.set c (.lst (acc ++ [d5]))) := fun d5 d1 hb => by
      show dS G C wf (.ex (.app (.v 4) (.cons (.v 5) .nil))) _ _ = _
      rw [q_sex, q_mExpr, q_eapp, app_ok (n := c) (xs := acc) (xs0 := acc) (y := d5) (S2 := S1) (by simp) hc1 (by simp) hc1 hb]
    have hcl1 : c < S1.length := (List.getElem?_eq_some_iff.mp hc1).1
    cases q : f l with
    | none =>
      rw [q] at r1
      obtain ⟨e, rfl⟩ := r1
      have hp : pBk f (ts.length + 1) l = none := by rw [pBk, q]
      rw [hp]
      refine ⟨some t, e, .non, S1.set c (.lst (acc ++ [.non])), ?_, rfl, by simpa using p1.len, fun i hi hn => by rw [List.getElem?_set_ne (Ne.symm hn)]; exact p1.get i hi⟩
      have s2 : dS G C wf ((rbB tx).at 2) [some (.str (sl (p ++ l))), some (.int e), some (.int (deep : Int)), some t, some (.loc c), some .non] (S1.set c (.lst (acc ++ [.non]))) = .ok .bk [some (.str (sl (p ++ l))), some (.int e), some (.int (deep : Int)), some t, some (.loc c), some .non] (S1.set c (.lst (acc ++ [.non]))) := by
        simp [rbB, B_read_block, Ss.at, isN_non']
      have go : dSs G C wf (rbB tx) [some (.str (sl (p ++ l))), some (.int (p.length : Int)), some (.int (deep : Int)), some t, some (.loc c), x5] S = .ok .bk [some (.str (sl (p ++ l))), some (.int e), some (.int (deep : Int)), some t, some (.loc c), some .non] (S1.set c (.lst (acc ++ [.non]))) := by
        rw [stp0 rfl (ev .non (.int e) rfl), stp rfl (ap .non (.int e) (by omega))]
        show dSs G C wf (.cons ((rbB tx).at 2) ((rbB tx).fr 3)) _ _ = _
        rw [q_scons]
        unfold mThen
        rw [s2]
      simp only [go]
    | some sr =>
      obtain ⟨s, r⟩ := sr
      rw [q] at r1
      have r1 : d = .tup [s.d, .int ((p.length : Int) + (s.tx.length : Int))] := r1
      obtain ⟨el, _⟩ := hf l s r q
      have h4 := s.tx_ge
      have ll : l.length = s.tx.length + r.length := by rw [el, List.length_append]
      have pe : p ++ l = (p ++ s.tx) ++ r := by rw [el]; simp
      have c2 : ∀ S, slP S (.str (sl (p ++ l))) (some ((p.length : Int) + (s.tx.length : Int))) (some ((p.length : Int) + (s.tx.length : Int) + 2)) = some (.str (sl (r.take 2))) := fun S => by
        have := sl_sl (p := p ++ s.tx) (l := r) (S := S) (k := 2) (by rw [← pe]; omega)
        rw [← pe] at this
        simpa using this
      have goN : (∀ r', r ≠ 59 :: 32 :: r') → dSs G C wf (rbB tx) [some (.str (sl (p ++ l))), some (.int (p.length : Int)), some (.int (deep : Int)), some t, some (.loc c), x5] S = .ok .bk [some (.str (sl (p ++ l))), some (.int ((p.length : Int) + (s.tx.length : Int))), some (.int (deep : Int)), some t, some (.loc c), some s.d] (S1.set c (.lst (acc ++ [s.d]))) := fun hr => by
        have hz : ¬ r.take 2 = [59, 32] := fun z => by
          match r, z with
          | a :: b :: r', z =>
            simp at z
            obtain ⟨rfl, rfl⟩ := z
            exact hr r' rfl
        have s2 : dS G C wf ((rbB tx).at 2) [some (.str (sl (p ++ l))), some (.int ((p.length : Int) + (s.tx.length : Int))), some (.int (deep : Int)), some t, some (.loc c), some s.d] (S1.set c (.lst (acc ++ [s.d]))) = .ok .bk [some (.str (sl (p ++ l))), some (.int ((p.length : Int) + (s.tx.length : Int))), some (.int (deep : Int)), some t, some (.loc c), some s.d] (S1.set c (.lst (acc ++ [s.d]))) := by
          simp [rbB, B_read_block, Ss.at, isN_stm, c2, eq_sc, hz]
        rw [stp0 rfl (ev s.d _ r1), stp rfl (ap s.d _ (by omega))]
        show dSs G C wf (.cons ((rbB tx).at 2) ((rbB tx).fr 3)) _ _ = _
        rw [q_scons]
        unfold mThen
        rw [s2]
      by_cases hr : ∃ r', r = 59 :: 32 :: r'
      · obtain ⟨r', rfl⟩ := hr
        have s2 : dS G C wf ((rbB tx).at 2) [some (.str (sl (p ++ l))), some (.int ((p.length : Int) + (s.tx.length : Int))), some (.int (deep : Int)), some t, some (.loc c), some s.d] (S1.set c (.lst (acc ++ [s.d]))) = .ok .nx [some (.str (sl (p ++ l))), some (.int ((p.length : Int) + (s.tx.length : Int))), some (.int (deep : Int)), some t, some (.loc c), some s.d] (S1.set c (.lst (acc ++ [s.d]))) := by
          simp [rbB, B_read_block, Ss.at, isN_stm, c2, eq_sc]
        have s3 : dS G C wf ((rbB tx).at 3) [some (.str (sl (p ++ l))), some (.int ((p.length : Int) + (s.tx.length : Int))), some (.int (deep : Int)), some t, some (.loc c), some s.d] (S1.set c (.lst (acc ++ [s.d]))) = .ok .nx [some (.str (sl (p ++ l))), some (.int ((p.length : Int) + (s.tx.length : Int) + 2)), some (.int (deep : Int)), some t, some (.loc c), some s.d] (S1.set c (.lst (acc ++ [s.d]))) := by
          simp [rbB, B_read_block, Ss.at]
        have go : dSs G C wf (rbB tx) [some (.str (sl (p ++ l))), some (.int (p.length : Int)), some (.int (deep : Int)), some t, some (.loc c), x5] S = .ok .nx [some (.str (sl (p ++ l))), some (.int ((p.length : Int) + (s.tx.length : Int) + 2)), some (.int (deep : Int)), some t, some (.loc c), some s.d] (S1.set c (.lst (acc ++ [s.d]))) := by
          rw [stp0 rfl (ev s.d _ r1), stp rfl (ap s.d _ (by omega)), stp rfl s2, stp rfl s3]
          rfl
        have p2 : p ++ l = (p ++ (s.tx ++ [59, 32])) ++ r' := by rw [el]; simp
        have n2 : ((p ++ (s.tx ++ [59, 32])).length : Int) = (p.length : Int) + (s.tx.length : Int) + 2 := by simp; omega
        simp only [List.length_cons] at ll hm
        obtain ⟨x3', e, st, S2, f1, f2, f3, f4⟩ := blk_for hf H ts (p ++ (s.tx ++ [59, 32])) r' (acc ++ [s.d]) (S1.set c (.lst (acc ++ [s.d]))) (some t) (some s.d) (by rw [← p2]; exact hl) (List.getElem?_set_self hcl1) (by simp; omega) (by omega)
        rw [← p2, n2] at f1
        have hp : pBk f (ts.length + 1) l = (match pBk f ts.length r' with | some (b, r2) => some (.cons s b, r2) | none => none) := by rw [pBk, q]; rfl
        rw [hp]
        simp only [go, f1]
        refine ⟨x3', e, st, S2, rfl, ?_, by have := p1.len; simp at f3; omega, fun i hi hn => ?_⟩
        · cases q2 : pBk f ts.length r' with
          | none => rw [q2] at f2; exact f2
          | some br =>
            obtain ⟨b, r2⟩ := br
            rw [q2] at f2
            obtain ⟨g1, g2, g3, g4⟩ := f2
            obtain ⟨_, _, hb, _⟩ := pBk_sound hf q2
            refine ⟨?_, g2, by rw [g3]; simp [Blk.ds], by simp [Blk.ds] at g4 ⊢; omega⟩
            rw [g1, Blk.tx_cons _ _ hb]
            simp
            omega
        · rw [f4 i (by have := p1.len; simp; omega) hn, List.getElem?_set_ne (Ne.symm hn)]
          exact p1.get i hi
      · have hr' : ∀ r', r ≠ 59 :: 32 :: r' := fun r' e => hr ⟨r', e⟩
        have hp : pBk f (ts.length + 1) l = some (.cons s .nil, r) := by
          rw [pBk, q]
          show (match r with
            | 59 :: 32 :: r' => (match pBk f ts.length r' with
              | some (b, r2) => some (Blk.cons s b, r2)
              | none => none)
            | r => some (.cons s .nil, r)) = _
          split
          · rename_i r'; exact absurd rfl (hr' r')
          · rfl
        rw [hp]
        simp only [goN hr']
        refine ⟨some t, _, s.d, _, rfl, ?_, by simpa using p1.len, fun i hi hn => by rw [List.getElem?_set_ne (Ne.symm hn)]; exact p1.get i hi⟩
        refine ⟨by rw [Blk.tx_one], fun S k => isN_stm, by rw [List.getElem?_set_self hcl1]; simp [Blk.ds], by simp [Blk.ds]; omega⟩
end
end Z

/-! Blocks, ifs, statements read: all levels. -/
namespace Z
open PySem PySem.Spec PyProof.Rows L2
theorem rng_big {q : Nat} (h : q ≤ 10000000) : rng1 [.int (q : Int)] = some (.vals ((List.range' 0 q).map fun (i : Nat) => D.int i)) := by
  simp only [rng1, rngV]
  rw [if_pos (by omega), show ((q : Int) - 0).toNat = q by omega, List.range_eq_range']
  simp
section
variable {T : List Fn} {G : Ev} {wf : Nat} {tx : Tx}
/-- a block, its statements being read by f -/
theorem rb_ok (A : RdA T G tx) {f : RdS} {n deep k : Nat} (hf : ∀ l s r, f l = some (s, r) → l = s.tx ++ r ∧ s.fits n = true) (H : StR (run T G wf k) tx deep f) {p l : Cs} {S : Sto} (hl : (p ++ l).length ≤ 1000000) :
    ∃ d S', run T G wf (k + 1) tx.read_block [.str (sl (p ++ l)), .int (p.length : Int), .int (deep : Int)] S = .ok d S' ∧ RsB p (pBlk f l) d ∧ Pre S S' := by
  rw [run_succ (fn := ⟨3, 6, B_read_block tx⟩) A.read_block rfl]
  have sl0 : slots0 (Fn.mk 3 6 (B_read_block tx)).ns [.str (sl (p ++ l)), .int (p.length : Int), .int (deep : Int)] = [some (.str (sl (p ++ l))), some (.int (p.length : Int)), some (.int (deep : Int)), none, none, none] := rfl
  rw [sl0]
  have c1 : slP S (.str (sl (p ++ l))) (some (p.length : Int)) (some ((p.length : Int) + 1)) = some (.str (sl (l.take 1))) := sl_sl (k := 1) (by omega)
  by_cases he : l.take 1 = [] ∨ l.take 1 = [125]
  · have ie : inD S (.str (sl (l.take 1))) (.tup [.str "", .str "}"]) = some (.bl true) := by rw [in_eb, decide_eq_true he]
    refine ⟨.tup [.tup [], .int (p.length : Int)], S, ?_, ?_, Pre.refl S⟩
    · have s0 : dS G (run T G wf k) wf ((B_read_block tx).at 0) [some (.str (sl (p ++ l))), some (.int (p.length : Int)), some (.int (deep : Int)), none, none, none] S = .ok (.rt (.tup [.tup [], .int (p.length : Int)])) [some (.str (sl (p ++ l))), some (.int (p.length : Int)), some (.int (deep : Int)), none, none, none] S := by
        simp [B_read_block, Ss.at, c1, ie]
      rw [show B_read_block tx = .cons ((B_read_block tx).at 0) ((B_read_block tx).fr 1) from rfl, q_scons, then_rt s0]
      rfl
    · match l, he with
      | [], _ => show RsB p (some (.nil, [])) _; simp [RsB, Blk.ds, Blk.tx]
      | c :: l, he =>
        have hc : c = 125 := by simpa using he
        subst hc
        show RsB p (some (.nil, 125 :: l)) _
        simp [RsB, Blk.ds, Blk.tx]
  · have ie : inD S (.str (sl (l.take 1))) (.tup [.str "", .str "}"]) = some (.bl false) := by rw [in_eb, decide_eq_false he]
    have s0 : dS G (run T G wf k) wf ((B_read_block tx).at 0) [some (.str (sl (p ++ l))), some (.int (p.length : Int)), some (.int (deep : Int)), none, none, none] S = .ok .nx [some (.str (sl (p ++ l))), some (.int (p.length : Int)), some (.int (deep : Int)), none, none, none] S := by
      simp [B_read_block, Ss.at, c1, ie]
    have s1 : dS G (run T G wf k) wf ((B_read_block tx).at 1) [some (.str (sl (p ++ l))), some (.int (p.length : Int)), some (.int (deep : Int)), none, none, none] S = .ok .nx [some (.str (sl (p ++ l))), some (.int (p.length : Int)), some (.int (deep : Int)), none, some (.loc S.length), some .non] (S ++ [.lst []]) :=
      par_2 (i := 4) (j := 5) (S1 := S ++ [.lst []]) (by simp) (by simp)
    let ts : List D := (List.range' 0 ((p ++ l).length + 1)).map fun (i : Nat) => D.int i
    have tl : ts.length = (p ++ l).length + 1 := by simp [ts]
    obtain ⟨x3', e, st, S2, f1, f2, f3, f4⟩ := blk_for (G := G) (wf := wf) hf H (c := S.length) ts p l [] (S ++ [.lst []]) none (some .non) hl (by simp) (by simp at hl ⊢; omega) (by rw [tl]; simp; omega)
    have s2 : dS G (run T G wf k) wf ((B_read_block tx).at 2) [some (.str (sl (p ++ l))), some (.int (p.length : Int)), some (.int (deep : Int)), none, some (.loc S.length), some .non] (S ++ [.lst []]) = .ok .nx [some (.str (sl (p ++ l))), some (.int e), some (.int (deep : Int)), x3', some (.loc S.length), some st] S2 := by
      have it : dI G (run T G wf k) (.rng1 (.cons (.op .Add (.bf .len (.cons (.v 0) .nil)) (.c (.int 1))) .nil)) [some (.str (sl (p ++ l))), some (.int (p.length : Int)), some (.int (deep : Int)), none, some (.loc S.length), some .non] (S ++ [.lst []]) = .ok (.vals ts) (S ++ [.lst []]) := by
        have lz : ∀ S, lenD S (.str (sl (p ++ l))) = some (.int ((p ++ l).length : Int)) := fun S => by
          unfold lenD lenP
          simp only [sl_len]
          rw [if_pos (by omega)]; rfl
        have rg := rng_big (q := (p ++ l).length + 1) (by omega)
        have e1 : (((p ++ l).length + 1 : Nat) : Int) = ((p ++ l).length : Int) + 1 := by omega
        rw [e1] at rg
        simp [lz, rg, ts, -List.length_append]
      show dS G (run T G wf k) wf (.for_ (.nm 3) (.rng1 (.cons (.op .Add (.bf .len (.cons (.v 0) .nil)) (.c (.int 1))) .nil)) (rbB tx)) _ _ = _
      rw [q_sfor, q_mFor, it]
      simp only []
      rw [show (Src.vals ts).len = ts.length from rfl, forV, q_gnm]
      exact f1
    have pr : Pre S S2 := ⟨by simp at f3; omega, fun i hi => by rw [f4 i (by simp; omega) (by omega), List.getElem?_append_left hi]⟩
    have hpb : pBlk f l = pBk f (l.length + 1) l := by
      match l, he with
      | [], he => simp at he
      | c :: l, he =>
        have hc : ¬ c = 125 := fun z => he (.inr (by simp [z]))
        simp [pBlk, hc]
    have hfuel : pBk f ts.length l = pBk f (l.length + 1) l := pBk_fuel hf (by rw [tl]; simp; omega) (by omega)
    rw [hpb, ← hfuel]
    cases q : pBk f ts.length l with
    | none =>
      rw [q] at f2
      have f2 : st = .non := f2
      subst f2
      refine ⟨.tup [.non, .int e], S2, ?_, ⟨e, rfl⟩, pr⟩
      rw [stp0 rfl s0, stp rfl s1, stp rfl s2]
      simp [B_read_block, Ss.fr, fnEnd, isN_non']
    | some br =>
      obtain ⟨b, r⟩ := br
      rw [q] at f2
      obtain ⟨g1, g2, g3, g4⟩ := f2
      refine ⟨.tup [.tup b.ds, .int e], S2, ?_, by show _ = _; rw [g1], pr⟩
      have tp : tupD S2 (.loc S.length) = some (.tup b.ds) := by
        unfold tupD asLF asL
        simp [g3]
      rw [stp0 rfl s0, stp rfl s1, stp rfl s2]
      simp [B_read_block, Ss.fr, fnEnd, g2, tp]
theorem rbr_ok (A : RdA T G tx) {f : RdS} {n deep k : Nat} (hd : deep < 13) (hf : ∀ l s r, f l = some (s, r) → l = s.tx ++ r ∧ s.fits n = true) (H : StR (run T G wf k) tx (deep + 1) f) {p l : Cs} {S : Sto} (hl : (p ++ l).length ≤ 1000000) :
    ∃ d S', run T G wf (k + 2) tx.read_braced [.str (sl (p ++ l)), .int (p.length : Int), .int (deep : Int)] S = .ok d S' ∧ (match pBr f l with
      | some (b, r) => d = .tup [.tup b.ds, .int ((p.length : Int) + (b.tx.length : Int) + 3)]
      | none => ∃ e : Int, d = .tup [.non, .int e]) ∧ Pre S S' := by
  rw [run_succ (fn := ⟨3, 5, B_read_braced tx⟩) A.read_braced rfl]
  have c1 : slP S (.str (sl (p ++ l))) (some (p.length : Int)) (some ((p.length : Int) + 2)) = some (.str (sl (l.take 2))) := sl_sl (k := 2) (by omega)
  have hd' : ¬ (13 : Int) ≤ deep := by omega
  by_cases he : l.take 2 = [32, 123]
  · obtain ⟨l2, rfl⟩ : ∃ l2, l = 32 :: 123 :: l2 := by
      match l, he with
      | a :: b :: l, he =>
        simp at he
        obtain ⟨rfl, rfl⟩ := he
        exact ⟨l, rfl⟩
    have pe : p ++ 32 :: 123 :: l2 = (p ++ [32, 123]) ++ l2 := by simp
    have ne : ((p ++ [32, 123]).length : Int) = (p.length : Int) + 2 := by simp
    obtain ⟨d, S1, e1, r1, p1⟩ := rb_ok A hf H (p := p ++ [32, 123]) (l := l2) (S := S) (by rw [← pe]; exact hl)
    rw [← pe, ne] at e1
    have e1' : run T G wf (k + 1) tx.read_block [.str (sl (p ++ 32 :: 123 :: l2)), .int ((p.length : Int) + 2), .int ((deep : Int) + 1)] S = .ok d S1 := by simpa using e1
    show ∃ (d : D) (S' : Sto), _ ∧ (match (match pBlk f l2 with | some (b, 125 :: r) => some (b, r) | _ => none) with
      | some (b, r) => d = .tup [.tup b.ds, .int ((p.length : Int) + (b.tx.length : Int) + 3)]
      | none => ∃ e : Int, d = .tup [.non, .int e]) ∧ Pre S S'
    cases q : pBlk f l2 with
    | none =>
      rw [q] at r1
      obtain ⟨e, rfl⟩ := r1
      refine ⟨.tup [.non, .int (p.length : Int)], S1, ?_, ⟨_, rfl⟩, p1⟩
      simp [B_read_braced, slots0, fnEnd, c1, eq_br, A.gDEEPEST, hd', e1', gTp, gsCons, tgsLen, dGs, dG, gNm, gsNil, isN_non']
    | some br =>
      obtain ⟨b, r⟩ := br
      rw [q] at r1
      have r1 : d = .tup [.tup b.ds, .int (((p ++ [32, 123]).length : Int) + (b.tx.length : Int))] := r1
      rw [ne] at r1
      subst r1
      obtain ⟨el, _⟩ := pBlk_sound hf q
      have p2 : p ++ 32 :: 123 :: l2 = (p ++ 32 :: 123 :: b.tx) ++ r := by rw [el]; simp
      have n2 : ((p ++ 32 :: 123 :: b.tx).length : Int) = (p.length : Int) + 2 + (b.tx.length : Int) := by simp; omega
      have c2 : slP S1 (.str (sl (p ++ 32 :: 123 :: l2))) (some ((p.length : Int) + 2 + (b.tx.length : Int))) (some ((p.length : Int) + 2 + (b.tx.length : Int) + 1)) = some (.str (sl (r.take 1))) := by
        have := sl_sl (p := p ++ 32 :: 123 :: b.tx) (l := r) (S := S1) (k := 1) (by rw [← p2]; omega)
        rw [← p2, n2] at this
        simpa using this
      by_cases hr : ∃ r', r = 125 :: r'
      · obtain ⟨r', rfl⟩ := hr
        refine ⟨.tup [.tup b.ds, .int ((p.length : Int) + (b.tx.length : Int) + 3)], S1, ?_, rfl, p1⟩
        simp [B_read_braced, slots0, fnEnd, c1, eq_br, A.gDEEPEST, hd', e1', gTp, gsCons, tgsLen, dGs, dG, gNm, gsNil, isN_tup, c2, eq_bc]
        omega
      · have hz : ¬ r.take 1 = [125] := fun z => by
          match r, z with
          | a :: r', z =>
            simp at z
            exact hr ⟨r', by rw [z]⟩
        have hm : (match some (b, r) with | some (b, 125 :: r) => some (b, r) | _ => (none : Option (Blk × Cs))) = none := by
          split
          · rename_i e
            cases e
            exact absurd ⟨_, rfl⟩ hr
          · rfl
        rw [hm]
        refine ⟨.tup [.non, .int (p.length : Int)], S1, ?_, ⟨_, rfl⟩, p1⟩
        simp [B_read_braced, slots0, fnEnd, c1, eq_br, A.gDEEPEST, hd', e1', gTp, gsCons, tgsLen, dGs, dG, gNm, gsNil, isN_tup, c2, eq_bc, hz]
  · have hm : pBr f l = none := by
      unfold pBr
      split
      · rename_i l2
        exact absurd rfl he
      · rfl
    rw [hm]
    refine ⟨.tup [.non, .int (p.length : Int)], S, ?_, ⟨_, rfl⟩, Pre.refl S⟩
    simp [B_read_braced, slots0, fnEnd, c1, eq_br, he]
theorem rbr_13 (A : RdA T G tx) {k : Nat} {p l : Cs} {S : Sto} (hl : (p ++ l).length ≤ 1000000) : run T G wf (k + 1) tx.read_braced [.str (sl (p ++ l)), .int (p.length : Int), .int 13] S = .ok (.tup [.non, .int (p.length : Int)]) S := by
  rw [run_succ (fn := ⟨3, 5, B_read_braced tx⟩) A.read_braced rfl]
  have c1 : slP S (.str (sl (p ++ l))) (some (p.length : Int)) (some ((p.length : Int) + 2)) = some (.str (sl (l.take 2))) := sl_sl (k := 2) (by omega)
  by_cases he : l.take 2 = [32, 123] <;> simp [B_read_braced, slots0, fnEnd, c1, eq_br, A.gDEEPEST, he]
end
end Z

/-! Statements read: all levels. -/
namespace Z
open PySem PySem.Spec PyProof.Rows L2
theorem take3 {a b c : Nat} {l : Cs} (h : l.take 3 = [a, b, c]) : ∃ r, l = a :: b :: c :: r := by
  match l, h with
  | x :: y :: z :: r, h => simp at h; obtain ⟨rfl, rfl, rfl⟩ := h; exact ⟨r, rfl⟩
theorem take4 {a b c d : Nat} {l : Cs} (h : l.take 4 = [a, b, c, d]) : ∃ r, l = a :: b :: c :: d :: r := by
  match l, h with
  | x :: y :: z :: w :: r, h => simp at h; obtain ⟨rfl, rfl, rfl, rfl⟩ := h; exact ⟨r, rfl⟩
theorem pSt_else {n : Nat} {l : Cs} (h1 : ¬ l.take 4 = [115, 116, 111, 112]) (h2 : ¬ l.take 3 = [105, 102, 32]) (h3 : ¬ l.take 3 = [100, 111, 32]) : pSt n l = pSet n l := by
  cases n with
  | zero =>
    unfold pSt
    split
    · exact absurd rfl h1
    · exact absurd rfl h2
    · exact absurd rfl h3
    · rfl
  | succ n =>
    unfold pSt
    split
    · exact absurd rfl h1
    · exact absurd rfl h2
    · exact absurd rfl h3
    · rfl
section
variable {T : List Fn} {G : Ev} {wf : Nat} {tx : Tx}
theorem rif_ok (A : RdA T G tx) {n deep k : Nat} (hn : n + 1 = 13 - deep) (H : StR (run T G wf (k + n)) tx (deep + 1) (pSt n)) {p l : Cs} {S : Sto} (hl : (p ++ l).length ≤ 1000000) :
    ∃ d S', run T G wf (k + n + 3) tx.read_if [.str (sl (p ++ l)), .int (p.length : Int), .int (deep : Int)] S = .ok d S' ∧ (match pIf (n + 1) (pSt n) l with
      | some (s, _) => d = .tup [s.d, .int ((p.length : Int) + (s.tx.length : Int) - 3)]
      | none => ∃ e : Int, d = .tup [.non, .int e]) ∧ Pre S S' := by
  rw [run_succ (fn := ⟨3, 9, B_read_if tx⟩) A.read_if rfl]
  have e1 := rs_ok (wf := wf) A n p l (deep + 1) k S (by omega) hl
  have hf : ∀ l s r, pSt n l = some (s, r) → l = s.tx ++ r ∧ s.fits n = true := fun l s r h => pSt_sound h
  rw [show ((deep + 1 : Nat) : Int) = (deep : Int) + 1 by omega] at e1
  cases q1 : pSum n l with
  | none =>
    have hp : pIf (n + 1) (pSt n) l = none := by simp [pIf, q1]
    rw [hp]
    rw [q1] at e1
    refine ⟨.tup [.non, .int (p.length : Int)], S, ?_, ⟨_, rfl⟩, Pre.refl S⟩
    simp only [rsD] at e1
    simp [B_read_if, slots0, fnEnd, e1, gTp, gsCons, tgsLen, dGs, dG, gNm, gsNil, isN_non']
  | some xr =>
    obtain ⟨x, r⟩ := xr
    rw [q1] at e1
    obtain ⟨el, _, _⟩ := pSum_sound q1
    have pe : p ++ l = (p ++ x.tx) ++ r := by rw [el]; simp
    have ne : ((p ++ x.tx).length : Int) = (p.length : Int) + (x.tx.length : Int) := by simp
    obtain ⟨d2, S2, e2, r2, p2⟩ := rbr_ok A (show deep < 13 by omega) hf H (p := p ++ x.tx) (l := r) (S := S) (by rw [← pe]; exact hl)
    rw [← pe, ne] at e2
    simp only [rsD] at e1
    simp at e1
    cases q2 : pBr (pSt n) r with
    | none =>
      have hp : pIf (n + 1) (pSt n) l = none := by simp [pIf, q1, q2]
      rw [hp]
      rw [q2] at r2
      obtain ⟨e, rfl⟩ := r2
      refine ⟨.tup [.non, .int (p.length : Int)], S2, ?_, ⟨_, rfl⟩, p2⟩
      simp [B_read_if, slots0, fnEnd, e1, e2, gTp, gsCons, tgsLen, dGs, dG, gNm, gsNil, isN_non', isN_fm]
    | some ar =>
      obtain ⟨a, ra⟩ := ar
      rw [q2] at r2
      have r2 : d2 = .tup [.tup a.ds, .int (((p ++ x.tx).length : Int) + (a.tx.length : Int) + 3)] := r2
      rw [ne] at r2
      subst r2
      obtain ⟨el2, _⟩ := pBr_sound hf q2
      have pe2 : p ++ l = (p ++ (x.tx ++ 32 :: 123 :: (a.tx ++ [125]))) ++ ra := by rw [pe, el2]; simp
      have ne2 : ((p ++ (x.tx ++ 32 :: 123 :: (a.tx ++ [125]))).length : Int) = (p.length : Int) + (x.tx.length : Int) + (a.tx.length : Int) + 3 := by simp; omega
      obtain ⟨d3, S3, e3, r3, p3⟩ := rbr_ok A (show deep < 13 by omega) hf H (p := p ++ (x.tx ++ 32 :: 123 :: (a.tx ++ [125]))) (l := ra) (S := S2) (by rw [← pe2]; exact hl)
      rw [← pe2, ne2] at e3
      cases q3 : pBr (pSt n) ra with
      | none =>
        have hp : pIf (n + 1) (pSt n) l = none := by simp [pIf, q1, q2, q3]
        rw [hp]
        rw [q3] at r3
        obtain ⟨e, rfl⟩ := r3
        refine ⟨.tup [.non, .int (p.length : Int)], S3, ?_, ⟨_, rfl⟩, p2.trans p3⟩
        simp [B_read_if, slots0, fnEnd, e1, e2, e3, gTp, gsCons, tgsLen, dGs, dG, gNm, gsNil, isN_non', isN_fm, isN_tup]
      | some br =>
        obtain ⟨b, rb⟩ := br
        rw [q3] at r3
        have r3 : d3 = .tup [.tup b.ds, .int (((p ++ (x.tx ++ 32 :: 123 :: (a.tx ++ [125]))).length : Int) + (b.tx.length : Int) + 3)] := r3
        rw [ne2] at r3
        subst r3
        have hp : pIf (n + 1) (pSt n) l = some (.iff x a b, rb) := by simp [pIf, q1, q2, q3]
        rw [hp]
        refine ⟨.tup [(Stm.iff x a b).d, .int ((p.length : Int) + ((Stm.iff x a b).tx.length : Int) - 3)], S3, ?_, rfl, p2.trans p3⟩
        simp [B_read_if, slots0, fnEnd, e1, e2, e3, gTp, gsCons, tgsLen, dGs, dG, gNm, gsNil, isN_non', isN_fm, isN_tup, Stm.d, Stm.tx]
        omega
theorem rif_13 (A : RdA T G tx) {k : Nat} {p l : Cs} {S : Sto} (hl : (p ++ l).length ≤ 1000000) : ∃ e : Int, run T G wf (k + 3) tx.read_if [.str (sl (p ++ l)), .int (p.length : Int), .int 13] S = .ok (.tup [.non, .int e]) S := by
  rw [run_succ (fn := ⟨3, 9, B_read_if tx⟩) A.read_if rfl]
  have e1 := rs_ok (wf := wf) A 0 p l 14 k S (by omega) hl
  simp only [Nat.add_zero] at e1
  have e1 : run T G wf (k + 2) tx.read_sum [.str (sl (p ++ l)), .int (p.length : Int), .int 14] S = .ok (rsD p (pSum 0 l)) S := e1
  cases q1 : pSum 0 l with
  | none =>
    rw [q1] at e1
    simp only [rsD] at e1
    exact ⟨_, by simp [B_read_if, slots0, fnEnd, e1, gTp, gsCons, tgsLen, dGs, dG, gNm, gsNil, isN_non']; rfl⟩
  | some xr =>
    obtain ⟨x, r⟩ := xr
    rw [q1] at e1
    obtain ⟨el, _, _⟩ := pSum_sound q1
    have pe : p ++ l = (p ++ x.tx) ++ r := by rw [el]; simp
    have ne : ((p ++ x.tx).length : Int) = (p.length : Int) + (x.tx.length : Int) := by simp
    have e2 := rbr_13 (wf := wf) A (k := k + 1) (p := p ++ x.tx) (l := r) (S := S) (by rw [← pe]; exact hl)
    rw [← pe, ne] at e2
    simp only [rsD] at e1
    simp at e1
    exact ⟨_, by simp [B_read_if, slots0, fnEnd, e1, e2, gTp, gsCons, tgsLen, dGs, dG, gNm, gsNil, isN_non', isN_fm]; rfl⟩
/-- do, set, stop -/
theorem rst_of (A : RdA T G tx) {n deep k : Nat} (hn : n = 13 - deep) (hif : ∀ (p l : Cs) (S : Sto), (p ++ l).length ≤ 1000000 → ∃ d S', run T G wf (k + n + 3) tx.read_if [.str (sl (p ++ l)), .int (p.length : Int), .int (deep : Int)] S = .ok d S' ∧ (match pSt n (105 :: 102 :: 32 :: l) with
      | some (s, _) => d = .tup [s.d, .int ((p.length : Int) + (s.tx.length : Int) - 3)]
      | none => ∃ e : Int, d = .tup [.non, .int e]) ∧ Pre S S') : StR (run T G wf (k + n + 4)) tx deep (pSt n) := by
  intro p l S hl
  rw [run_succ (fn := ⟨3, 7, B_read_statement tx⟩) A.read_statement rfl]
  have c4 : slP S (.str (sl (p ++ l))) (some (p.length : Int)) (some ((p.length : Int) + 4)) = some (.str (sl (l.take 4))) := sl_sl (k := 4) (by omega)
  have c3 : slP S (.str (sl (p ++ l))) (some (p.length : Int)) (some ((p.length : Int) + 3)) = some (.str (sl (l.take 3))) := sl_sl (k := 3) (by omega)
  have c5 : slP S (.str (sl (p ++ l))) (some ((p.length : Int) + 5)) (some ((p.length : Int) + 6)) = some (.str (sl ((l.take 6).drop 5))) := sl_sl2 (i := 5) (j := 6) (by omega)
  have d3 : run T G wf (k + n + 3) tx.digit_at [.str (sl (p ++ l)), .int ((p.length : Int) + 3)] S = .ok (.lst (digL (l.drop 3))) S := dig_ok A (i := 3) (by omega)
  have d4 : run T G wf (k + n + 3) tx.digit_at [.str (sl (p ++ l)), .int ((p.length : Int) + 4)] S = .ok (.lst (digL (l.drop 4))) S := dig_ok A (i := 4) (by omega)
  by_cases h1 : l.take 4 = [115, 116, 111, 112]
  · obtain ⟨r, rfl⟩ := take4 h1
    have e : pSt n (115 :: 116 :: 111 :: 112 :: r) = some (.stop, r) := by cases n <;> rfl
    rw [e]
    exact ⟨.tup [.tup [.str "stop"], .int ((p.length : Int) + 4)], S, by simp [B_read_statement, slots0, fnEnd, c4, eq_stop], by simp [RsT, Stm.d, Stm.tx], Pre.refl S⟩
  · by_cases h2 : l.take 3 = [105, 102, 32]
    · obtain ⟨r, rfl⟩ := take3 h2
      have pe : p ++ 105 :: 102 :: 32 :: r = (p ++ [105, 102, 32]) ++ r := by simp
      have ne : ((p ++ [105, 102, 32]).length : Int) = (p.length : Int) + 3 := by simp
      obtain ⟨d, S1, e1, r1, p1⟩ := hif (p ++ [105, 102, 32]) r S (by rw [← pe]; exact hl)
      rw [← pe, ne] at e1
      refine ⟨d, S1, by simp [B_read_statement, slots0, fnEnd, c4, c3, eq_stop, eq_if, h1, e1], ?_, p1⟩
      cases q : pSt n (105 :: 102 :: 32 :: r) with
      | none => rw [q] at r1; exact r1
      | some sr =>
        obtain ⟨s, r2⟩ := sr
        rw [q] at r1
        have r1 : d = .tup [s.d, .int (((p ++ [105, 102, 32]).length : Int) + (s.tx.length : Int) - 3)] := r1
        rw [ne] at r1
        show d = _
        rw [r1, show (p.length : Int) + 3 + (s.tx.length : Int) - 3 = (p.length : Int) + (s.tx.length : Int) by omega]
    · by_cases h3 : l.take 3 = [100, 111, 32]
      · obtain ⟨r, rfl⟩ := take3 h3
        have e : pSt n (100 :: 111 :: 32 :: r) = pDo r := by cases n <;> rfl
        rw [e]
        simp only [List.drop_succ_cons, List.drop_zero] at d3
        cases r with
        | nil => exact ⟨.tup [.non, .int (p.length : Int)], S, by simp [B_read_statement, slots0, fnEnd, c4, c3, eq_stop, eq_if, eq_do, h1, d3, digL, neL0'], ⟨_, rfl⟩, Pre.refl S⟩
        | cons d r =>
          cases hd : dg d with
          | true => exact ⟨.tup [.tup [.str "do", .int ((d - 48 : Nat) : Int)], .int ((p.length : Int) + 4)], S, by simp [B_read_statement, slots0, fnEnd, c4, c3, eq_stop, eq_if, eq_do, h1, d3, digL, neL0', hd, ixL0], by simp [pDo, hd, RsT, Stm.d, Stm.tx], Pre.refl S⟩
          | false => exact ⟨.tup [.non, .int (p.length : Int)], S, by simp [B_read_statement, slots0, fnEnd, c4, c3, eq_stop, eq_if, eq_do, h1, d3, digL, neL0', hd], by simp [pDo, hd, RsT], Pre.refl S⟩
      · rw [pSt_else h1 h2 h3]
        by_cases h4 : l.take 4 = [115, 101, 116, 32]
        · obtain ⟨r, rfl⟩ := take4 h4
          simp only [List.drop_succ_cons, List.drop_zero, List.take_succ_cons] at d4 c5
          have non : (∀ d r2, r = d :: 32 :: r2 → dg d = false) → ∃ d S', fnEnd (dSs G (run T G wf (k + n + 3)) wf (Fn.mk 3 7 (B_read_statement tx)).body (slots0 (Fn.mk 3 7 (B_read_statement tx)).ns [.str (sl (p ++ 115 :: 101 :: 116 :: 32 :: r)), .int (p.length : Int), .int (deep : Int)]) S) = .ok d S' ∧ RsT p (pSet n (115 :: 101 :: 116 :: 32 :: r)) d ∧ Pre S S' := fun hz => by
            have hp : pSet n (115 :: 101 :: 116 :: 32 :: r) = none := by
              unfold pSet
              split
              · rename_i d l2 e
                cases e
                simp [hz d l2 rfl]
              · rfl
            rw [hp]
            refine ⟨.tup [.non, .int (p.length : Int)], S, ?_, ⟨_, rfl⟩, Pre.refl S⟩
            cases r with
            | nil => simp [B_read_statement, slots0, fnEnd, c4, c3, eq_stop, eq_if, eq_do, eq_set, d4, digL, eqL0']
            | cons d r2 =>
              cases hd : dg d with
              | false => simp [B_read_statement, slots0, fnEnd, c4, c3, eq_stop, eq_if, eq_do, eq_set, d4, digL, eqL0', hd]
              | true =>
                have hr2 : ¬ r2.take 1 = [32] := fun z => by
                  match r2, z with
                  | c :: r3, z =>
                    simp at z
                    subst z
                    have := hz d r3 rfl
                    rw [hd] at this
                    cases this
                simp only [List.take_succ_cons, List.drop_zero] at c5
                simp [B_read_statement, slots0, fnEnd, c4, c3, eq_stop, eq_if, eq_do, eq_set, eq_sp, d4, digL, eqL0', hd, c5, hr2]
          by_cases hr : ∃ d r2, r = d :: 32 :: r2 ∧ dg d = true
          · obtain ⟨d, r2, rfl, hd⟩ := hr
            have pe : p ++ 115 :: 101 :: 116 :: 32 :: d :: 32 :: r2 = (p ++ [115, 101, 116, 32, d, 32]) ++ r2 := by simp
            have ne : ((p ++ [115, 101, 116, 32, d, 32]).length : Int) = (p.length : Int) + 6 := by simp
            have e1 := rs_ok (wf := wf) A (13 - (deep + 1)) (p ++ [115, 101, 116, 32, d, 32]) r2 (deep + 1) (k + n + 1 - (13 - (deep + 1))) S rfl (by rw [← pe]; exact hl)
            rw [← pe, ne, show k + n + 1 - (13 - (deep + 1)) + (13 - (deep + 1)) + 2 = k + n + 3 by omega, show ((deep + 1 : Nat) : Int) = (deep : Int) + 1 by omega, show 13 - (deep + 1) = n - 1 by omega] at e1
            simp only [List.take_succ_cons, List.take_zero, List.drop_zero] at c5
            have hp : pSet n (115 :: 101 :: 116 :: 32 :: d :: 32 :: r2) = (match pSum (n - 1) r2 with | some (x, r) => some (.set (d - 48) x, r) | none => none) := by
              show (if dg d = true then _ else none) = _
              refine (if_pos hd).trans ?_
              cases pSum (n - 1) r2 <;> rfl
            rw [hp]
            cases q : pSum (n - 1) r2 with
            | none =>
              rw [q] at e1
              simp only [rsD, ne] at e1
              exact ⟨.tup [.non, .int (p.length : Int)], S, by simp [B_read_statement, slots0, fnEnd, c4, c3, eq_stop, eq_if, eq_do, eq_set, eq_sp, d4, digL, eqL0', hd, c5, e1, gTp, gsCons, tgsLen, dGs, dG, gNm, gsNil, isN_non'], ⟨_, rfl⟩, Pre.refl S⟩
            | some xr =>
              obtain ⟨x, r3⟩ := xr
              rw [q] at e1
              simp only [rsD] at e1
              rw [show (((p ++ [115, 101, 116, 32, d, 32]).length + x.tx.length : Nat) : Int) = (p.length : Int) + 6 + (x.tx.length : Int) by simp] at e1
              refine ⟨.tup [(Stm.set (d - 48) x).d, .int ((p.length : Int) + ((Stm.set (d - 48) x).tx.length : Int))], S, ?_, rfl, Pre.refl S⟩
              simp [B_read_statement, slots0, fnEnd, c4, c3, eq_stop, eq_if, eq_do, eq_set, eq_sp, d4, digL, eqL0', hd, c5, e1, gTp, gsCons, tgsLen, dGs, dG, gNm, gsNil, isN_fm, ixL0, Stm.d, Stm.tx]
              try omega
          · exact non fun d r2 e => by
              cases hd : dg d with
              | false => rfl
              | true => exact absurd ⟨d, r2, e, hd⟩ hr
        · have hp : pSet n l = none := by
            unfold pSet
            split
            · exact absurd rfl h4
            · rfl
          rw [hp]
          exact ⟨.tup [.non, .int (p.length : Int)], S, by simp [B_read_statement, slots0, fnEnd, c4, c3, eq_stop, eq_if, eq_do, eq_set, h1, h2, h3, h4, d4], ⟨_, rfl⟩, Pre.refl S⟩
theorem st_ok (A : RdA T G tx) : ∀ (n deep k : Nat), n = 13 - deep → deep ≤ 13 → StR (run T G wf (k + 4 * n + 4)) tx deep (pSt n)
  | 0, deep, k, hn, hd => by
    have hd : deep = 13 := by omega
    subst hd
    have := rst_of (wf := wf) A (n := 0) (deep := 13) (k := k) rfl fun p l S hl => by
      obtain ⟨e, h⟩ := rif_13 (wf := wf) A (k := k) (p := p) (l := l) (S := S) hl
      exact ⟨_, S, h, ⟨e, rfl⟩, Pre.refl S⟩
    exact this
  | n + 1, deep, k, hn, hd => by
    have ih := st_ok A n (deep + 1) k (by omega) (by omega)
    have := rst_of (wf := wf) A (n := n + 1) (deep := deep) (k := k + 3 * n + 3) hn fun p l S hl => by
      have h := rif_ok A (n := n) (deep := deep) (k := k + 3 * n + 4) (by omega) (by rw [show k + 3 * n + 4 + n = k + 4 * n + 4 by omega]; exact ih) (p := p) (l := l) (S := S) hl
      rw [show k + 3 * n + 4 + n + 3 = k + 3 * n + 3 + (n + 1) + 3 by omega] at h
      exact h
    rw [show k + 3 * n + 3 + (n + 1) + 4 = k + 4 * (n + 1) + 4 by omega] at this
    exact this
end
end Z

/-! How deep brackets go in a text. -/
namespace Z
/-- how many signs o more than signs e can stand behind one another -/
def mx (o e : Nat) : Cs → Nat
  | [] => 0
  | c :: l => if c = o then mx o e l + 1 else if c = e then mx o e l - 1 else mx o e l
variable {o e : Nat}
theorem mx_up (c : Nat) (l : Cs) : mx o e (c :: l) ≤ mx o e l + 1 := by
  simp only [mx]; split
  · omega
  · split <;> omega
theorem mx_dn (c : Nat) (l : Cs) : mx o e l ≤ mx o e (c :: l) + 1 := by
  simp only [mx]; split
  · omega
  · split <;> omega
theorem mx_no {c : Nat} {l : Cs} (h1 : c ≠ o) (h2 : c ≠ e) : mx o e (c :: l) = mx o e l := by simp [mx, h1, h2]
theorem mx_app {l l' : Cs} {k : Nat} (h : mx o e l ≤ mx o e l' + k) : ∀ a : Cs, mx o e (a ++ l) ≤ mx o e (a ++ l') + k
  | [] => h
  | c :: a => by
    have := mx_app h a
    simp only [List.cons_append, mx]
    split
    · omega
    · split <;> omega
theorem mx_le {l l' : Cs} (h : mx o e l ≤ mx o e l') (a : Cs) : mx o e (a ++ l) ≤ mx o e (a ++ l') := by
  have := mx_app (k := 0) (by simpa using h) a
  simpa using this
theorem mx_open {l : Cs} : mx o e (o :: l) = mx o e l + 1 := by simp [mx]
theorem mx_close {l : Cs} (h : e ≠ o) : mx o e (e :: l) = mx o e l - 1 := by simp [mx, h]
theorem mx_len : ∀ l : Cs, mx o e l ≤ l.length
  | [] => by simp [mx]
  | c :: l => by
    have := mx_len l
    have := mx_up (o := o) (e := e) c l
    simp only [List.length_cons]; omega
/-- signs that are none of both -/
theorem mx_skip {r : Cs} : ∀ {a : Cs}, (∀ c ∈ a, c ≠ o ∧ c ≠ e) → mx o e (a ++ r) = mx o e r
  | [], _ => rfl
  | c :: a, h => by
    rw [List.cons_append, mx_no (h c (.head _)).1 (h c (.head _)).2, mx_skip fun c hc => h c (.tail _ hc)]
abbrev mxp := mx 40 41
abbrev mxb := mx 123 125
theorem opc_no {o : Opr} : o.c ≠ 40 ∧ o.c ≠ 41 ∧ o.c ≠ 123 ∧ o.c ≠ 125 := by cases o <;> decide
theorem fm_nob : ∀ {f : Fm}, f.dig = true → ∀ c ∈ f.tx, c ≠ 123 ∧ c ≠ 125
  | .num n, h, c, hc => by simp [Fm.dig] at h; simp [Fm.tx] at hc; omega
  | .known, _, c, hc => by simp [Fm.tx] at hc; omega
  | .secret, _, c, hc => by simp [Fm.tx] at hc; omega
  | .cell i, h, c, hc => by simp [Fm.dig] at h; simp [Fm.tx] at hc; omega
  | .op o a b, h, c, hc => by
    simp only [Fm.dig, Bool.and_eq_true] at h
    simp only [Fm.tx, List.mem_cons, List.mem_append, List.not_mem_nil, or_false] at hc
    rcases hc with rfl | hc | rfl | hc | rfl
    · decide
    · exact fm_nob h.1 c hc
    · exact ⟨opc_no.2.2.1, opc_no.2.2.2⟩
    · exact fm_nob h.2 c hc
    · decide
theorem fm_mxb {f : Fm} (h : f.dig = true) {r : Cs} : mxb (f.tx ++ r) = mxb r := mx_skip (fm_nob h)
theorem op_tx {o : Opr} {a b : Fm} {r : Cs} : (Fm.op o a b).tx ++ r = 40 :: (a.tx ++ o.c :: (b.tx ++ 41 :: r)) := by simp [Fm.tx]
/-- a sum leaves the depth behind it -/
theorem fm_ge : ∀ {f : Fm}, f.dig = true → ∀ {r : Cs}, mxp r ≤ mxp (f.tx ++ r)
  | .num n, h, r => by
    have hn : n < 10 := by simpa [Fm.dig] using h
    show mxp r ≤ mxp ((48 + n) :: r)
    rw [show mxp ((48 + n) :: r) = mxp r from mx_no (by omega) (by omega)]; exact Nat.le_refl _
  | .known, _, r => by show mxp r ≤ mxp (107 :: r); rw [show mxp (107 :: r) = mxp r from mx_no (by decide) (by decide)]; exact Nat.le_refl _
  | .secret, _, r => by show mxp r ≤ mxp (115 :: r); rw [show mxp (115 :: r) = mxp r from mx_no (by decide) (by decide)]; exact Nat.le_refl _
  | .cell i, h, r => by
    have hn : i < 10 := by simpa [Fm.dig] using h
    show mxp r ≤ mxp (99 :: (48 + i) :: r)
    rw [show mxp (99 :: (48 + i) :: r) = mxp ((48 + i) :: r) from mx_no (by decide) (by decide), show mxp ((48 + i) :: r) = mxp r from mx_no (by omega) (by omega)]; exact Nat.le_refl _
  | .op o a b, h, r => by
    simp only [Fm.dig, Bool.and_eq_true] at h
    rw [op_tx]
    have h1 := fm_ge h.1 (r := o.c :: (b.tx ++ 41 :: r))
    have h2 := fm_ge h.2 (r := 41 :: r)
    have e1 : mxp (40 :: (a.tx ++ o.c :: (b.tx ++ 41 :: r))) = mxp (a.tx ++ o.c :: (b.tx ++ 41 :: r)) + 1 := mx_open
    have e2 : mxp (o.c :: (b.tx ++ 41 :: r)) = mxp (b.tx ++ 41 :: r) := mx_no opc_no.1 opc_no.2.1
    have e3 : mxp (41 :: r) = mxp r - 1 := mx_close (by decide)
    omega
theorem fm_le : ∀ {f : Fm}, f.dig = true → ∀ {r : Cs}, mxp (f.tx ++ r) ≤ max f.lv (mxp r)
  | .num n, h, r => by
    have hn : n < 10 := by simpa [Fm.dig] using h
    show mxp ((48 + n) :: r) ≤ _
    rw [show mxp ((48 + n) :: r) = mxp r from mx_no (by omega) (by omega)]; omega
  | .known, _, r => by show mxp (107 :: r) ≤ _; rw [show mxp (107 :: r) = mxp r from mx_no (by decide) (by decide)]; omega
  | .secret, _, r => by show mxp (115 :: r) ≤ _; rw [show mxp (115 :: r) = mxp r from mx_no (by decide) (by decide)]; omega
  | .cell i, h, r => by
    have hn : i < 10 := by simpa [Fm.dig] using h
    show mxp (99 :: (48 + i) :: r) ≤ _
    rw [show mxp (99 :: (48 + i) :: r) = mxp ((48 + i) :: r) from mx_no (by decide) (by decide), show mxp ((48 + i) :: r) = mxp r from mx_no (by omega) (by omega)]; omega
  | .op o a b, h, r => by
    simp only [Fm.dig, Bool.and_eq_true] at h
    rw [op_tx]
    have h1 := fm_le h.1 (r := o.c :: (b.tx ++ 41 :: r))
    have h2 := fm_le h.2 (r := 41 :: r)
    have e1 : mxp (40 :: (a.tx ++ o.c :: (b.tx ++ 41 :: r))) = mxp (a.tx ++ o.c :: (b.tx ++ 41 :: r)) + 1 := mx_open
    have e2 : mxp (o.c :: (b.tx ++ 41 :: r)) = mxp (b.tx ++ 41 :: r) := mx_no opc_no.1 opc_no.2.1
    have e3 : mxp (41 :: r) = mxp r - 1 := mx_close (by decide)
    simp only [Fm.lv]
    omega
theorem iff_tx {x : Fm} {a b : Blk} {r : Cs} : (Stm.iff x a b).tx ++ r = [105, 102, 32] ++ (x.tx ++ ([32] ++ 123 :: (a.tx ++ 125 :: ([32] ++ 123 :: (b.tx ++ 125 :: r))))) := by simp [Stm.tx]
theorem tx_cons2 {s t : Stm} {b : Blk} {r : Cs} : (Blk.cons s (.cons t b)).tx ++ r = s.tx ++ ([59, 32] ++ ((Blk.cons t b).tx ++ r)) := by
  rw [show (Blk.cons s (.cons t b)).tx = s.tx ++ (59 :: 32 :: (Blk.cons t b).tx) from rfl]
  simp
theorem mxp_w (a : Cs) {r : Cs} (h : ∀ c ∈ a, c ≠ 40 ∧ c ≠ 41 := by decide) : mxp (a ++ r) = mxp r := mx_skip h
theorem mxb_w (a : Cs) {r : Cs} (h : ∀ c ∈ a, c ≠ 123 ∧ c ≠ 125 := by decide) : mxb (a ++ r) = mxb r := mx_skip h
theorem mxp_1 {c : Nat} {r : Cs} (h : c ≠ 40 := by decide) (h2 : c ≠ 41 := by decide) : mxp (c :: r) = mxp r := mx_no h h2
theorem mxb_o {r : Cs} : mxb (123 :: r) = mxb r + 1 := mx_open
theorem mxb_c {r : Cs} : mxb (125 :: r) = mxb r - 1 := mx_close (by decide)
theorem do_w {i : Nat} (h : i < 10) : ∀ c ∈ [100, 111, 32, 48 + i], c ≠ 40 ∧ c ≠ 41 ∧ c ≠ 123 ∧ c ≠ 125 := by intro c hc; simp at hc; omega
theorem set_w {i : Nat} (h : i < 10) : ∀ c ∈ [115, 101, 116, 32, 48 + i, 32], c ≠ 40 ∧ c ≠ 41 ∧ c ≠ 123 ∧ c ≠ 125 := by intro c hc; simp at hc; omega
mutual
theorem st_gep {n : Nat} : ∀ (s : Stm), s.fits n = true → ∀ {r : Cs}, mxp r ≤ mxp (s.tx ++ r)
  | .do_ i, h, r => by
    have hi : i < 10 := by simpa [Stm.fits] using h
    exact Nat.le_of_eq (mxp_w [100, 111, 32, 48 + i] fun c hc => ⟨(do_w hi c hc).1, (do_w hi c hc).2.1⟩).symm
  | .set i x, h, r => by
    simp only [Stm.fits, Bool.and_eq_true, decide_eq_true_eq] at h
    have e : (Stm.set i x).tx ++ r = [115, 101, 116, 32, 48 + i, 32] ++ (x.tx ++ r) := by simp [Stm.tx]
    rw [e, mxp_w _ fun c hc => ⟨(set_w h.1.1 c hc).1, (set_w h.1.1 c hc).2.1⟩]
    exact fm_ge h.1.2
  | .stop, _, r => Nat.le_of_eq (mxp_w [115, 116, 111, 112]).symm
  | .iff x a b, h, r => by
    simp only [Stm.fits, Bool.and_eq_true, decide_eq_true_eq] at h
    rw [iff_tx, mxp_w [105, 102, 32]]
    refine Nat.le_trans ?_ (fm_ge h.1.1.1.1)
    rw [mxp_w [32], mxp_1]
    refine Nat.le_trans ?_ (bl_gep a h.1.2)
    rw [mxp_1, mxp_w [32], mxp_1]
    refine Nat.le_trans ?_ (bl_gep b h.2)
    rw [mxp_1]; exact Nat.le_refl _
theorem bl_gep {n : Nat} : ∀ (b : Blk), b.fits n = true → ∀ {r : Cs}, mxp r ≤ mxp (b.tx ++ r)
  | .nil, _, r => Nat.le_refl _
  | .cons s .nil, h, r => by
    simp only [Blk.fits, Bool.and_eq_true] at h
    rw [Blk.tx_one]; exact st_gep s h.1
  | .cons s (.cons t b), h, r => by
    have h' : s.fits n = true ∧ (Blk.cons t b).fits n = true := by simpa [Blk.fits] using h
    rw [tx_cons2]
    refine Nat.le_trans ?_ (st_gep s h'.1)
    rw [mxp_w [59, 32]]
    exact bl_gep (.cons t b) h'.2
end
mutual
theorem st_geb {n : Nat} : ∀ (s : Stm), s.fits n = true → ∀ {r : Cs}, mxb r ≤ mxb (s.tx ++ r)
  | .do_ i, h, r => by
    have hi : i < 10 := by simpa [Stm.fits] using h
    exact Nat.le_of_eq (mxb_w [100, 111, 32, 48 + i] fun c hc => ⟨(do_w hi c hc).2.2.1, (do_w hi c hc).2.2.2⟩).symm
  | .set i x, h, r => by
    simp only [Stm.fits, Bool.and_eq_true, decide_eq_true_eq] at h
    have e : (Stm.set i x).tx ++ r = [115, 101, 116, 32, 48 + i, 32] ++ (x.tx ++ r) := by simp [Stm.tx]
    rw [e, mxb_w _ fun c hc => ⟨(set_w h.1.1 c hc).2.2.1, (set_w h.1.1 c hc).2.2.2⟩, fm_mxb h.1.2]
    exact Nat.le_refl _
  | .stop, _, r => Nat.le_of_eq (mxb_w [115, 116, 111, 112]).symm
  | .iff x a b, h, r => by
    simp only [Stm.fits, Bool.and_eq_true, decide_eq_true_eq] at h
    have h1 := bl_geb a h.1.2 (r := 125 :: ([32] ++ 123 :: (b.tx ++ 125 :: r)))
    have h2 := bl_geb b h.2 (r := 125 :: r)
    rw [iff_tx, mxb_w [105, 102, 32], fm_mxb h.1.1.1.1, mxb_w [32], mxb_o]
    rw [mxb_c, mxb_w [32], mxb_o] at h1
    rw [mxb_c] at h2
    omega
theorem bl_geb {n : Nat} : ∀ (b : Blk), b.fits n = true → ∀ {r : Cs}, mxb r ≤ mxb (b.tx ++ r)
  | .nil, _, r => Nat.le_refl _
  | .cons s .nil, h, r => by
    simp only [Blk.fits, Bool.and_eq_true] at h
    rw [Blk.tx_one]; exact st_geb s h.1
  | .cons s (.cons t b), h, r => by
    have h' : s.fits n = true ∧ (Blk.cons t b).fits n = true := by simpa [Blk.fits] using h
    rw [tx_cons2]
    refine Nat.le_trans ?_ (st_geb s h'.1)
    rw [mxb_w [59, 32]]
    exact bl_geb (.cons t b) h'.2
end
/-! ### texts written -/
mutual
/-- sums of levels d at most -/
def Stm.inp (d : Nat) : Stm → Bool
  | .set _ x => decide (x.lv ≤ d)
  | .iff x a b => decide (x.lv ≤ d) && a.inp d && b.inp d
  | _ => true
def Blk.inp (d : Nat) : Blk → Bool
  | .nil => true
  | .cons s b => s.inp d && b.inp d
end
mutual
/-- braces of levels d at most -/
def Stm.inb : Nat → Stm → Bool
  | 0, .iff _ _ _ => false
  | d + 1, .iff _ a b => a.inb d && b.inb d
  | _, _ => true
def Blk.inb : Nat → Blk → Bool
  | _, .nil => true
  | d, .cons s b => s.inb d && b.inb d
end
mutual
theorem st_lep {n d : Nat} : ∀ (s : Stm), s.fits n = true → s.inp d = true → ∀ {r : Cs}, mxp (s.tx ++ r) ≤ max d (mxp r)
  | .do_ i, h, _, r => by
    have hi : i < 10 := by simpa [Stm.fits] using h
    have := mxp_w [100, 111, 32, 48 + i] (r := r) fun c hc => ⟨(do_w hi c hc).1, (do_w hi c hc).2.1⟩
    show mxp ([100, 111, 32, 48 + i] ++ r) ≤ _
    omega
  | .set i x, h, hd, r => by
    simp only [Stm.fits, Bool.and_eq_true, decide_eq_true_eq] at h
    simp only [Stm.inp, decide_eq_true_eq] at hd
    have e : (Stm.set i x).tx ++ r = [115, 101, 116, 32, 48 + i, 32] ++ (x.tx ++ r) := by simp [Stm.tx]
    rw [e, mxp_w _ fun c hc => ⟨(set_w h.1.1 c hc).1, (set_w h.1.1 c hc).2.1⟩]
    have := fm_le h.1.2 (r := r)
    omega
  | .stop, _, _, r => by
    have := mxp_w [115, 116, 111, 112] (r := r)
    show mxp ([115, 116, 111, 112] ++ r) ≤ _
    omega
  | .iff x a b, h, hd, r => by
    simp only [Stm.fits, Bool.and_eq_true, decide_eq_true_eq] at h
    simp only [Stm.inp, Bool.and_eq_true, decide_eq_true_eq] at hd
    rw [iff_tx, mxp_w [105, 102, 32]]
    have h1 := fm_le h.1.1.1.1 (r := [32] ++ 123 :: (a.tx ++ 125 :: ([32] ++ 123 :: (b.tx ++ 125 :: r))))
    have h2 := bl_lep a h.1.2 hd.1.2 (r := 125 :: ([32] ++ 123 :: (b.tx ++ 125 :: r)))
    have h3 := bl_lep b h.2 hd.2 (r := 125 :: r)
    rw [mxp_w [32], mxp_1] at h1
    rw [mxp_1, mxp_w [32], mxp_1] at h2
    rw [mxp_1] at h3
    omega
theorem bl_lep {n d : Nat} : ∀ (b : Blk), b.fits n = true → b.inp d = true → ∀ {r : Cs}, mxp (b.tx ++ r) ≤ max d (mxp r)
  | .nil, _, _, r => by show mxp r ≤ _; omega
  | .cons s .nil, h, hd, r => by
    simp only [Blk.fits, Bool.and_eq_true] at h
    simp only [Blk.inp, Bool.and_eq_true] at hd
    rw [Blk.tx_one]; exact st_lep s h.1 hd.1
  | .cons s (.cons t b), h, hd, r => by
    have h' : s.fits n = true ∧ (Blk.cons t b).fits n = true := by simpa [Blk.fits] using h
    have hd' : s.inp d = true ∧ (Blk.cons t b).inp d = true := by simpa [Blk.inp] using hd
    rw [tx_cons2]
    have h1 := st_lep s h'.1 hd'.1 (r := [59, 32] ++ ((Blk.cons t b).tx ++ r))
    have h2 := bl_lep (.cons t b) h'.2 hd'.2 (r := r)
    rw [mxp_w [59, 32]] at h1
    omega
end
mutual
theorem st_leb {n : Nat} : ∀ (s : Stm) {d : Nat}, s.fits n = true → s.inb d = true → ∀ {r : Cs}, mxb (s.tx ++ r) ≤ max d (mxb r)
  | .do_ i, d, h, _, r => by
    have hi : i < 10 := by simpa [Stm.fits] using h
    have := mxb_w [100, 111, 32, 48 + i] (r := r) fun c hc => ⟨(do_w hi c hc).2.2.1, (do_w hi c hc).2.2.2⟩
    show mxb ([100, 111, 32, 48 + i] ++ r) ≤ _
    omega
  | .set i x, d, h, hd, r => by
    simp only [Stm.fits, Bool.and_eq_true, decide_eq_true_eq] at h
    have e : (Stm.set i x).tx ++ r = [115, 101, 116, 32, 48 + i, 32] ++ (x.tx ++ r) := by simp [Stm.tx]
    rw [e, mxb_w _ fun c hc => ⟨(set_w h.1.1 c hc).2.2.1, (set_w h.1.1 c hc).2.2.2⟩, fm_mxb h.1.2]
    omega
  | .stop, d, _, _, r => by
    have := mxb_w [115, 116, 111, 112] (r := r)
    show mxb ([115, 116, 111, 112] ++ r) ≤ _
    omega
  | .iff x a b, 0, _, hd, r => by simp [Stm.inb] at hd
  | .iff x a b, d + 1, h, hd, r => by
    simp only [Stm.fits, Bool.and_eq_true, decide_eq_true_eq] at h
    simp only [Stm.inb, Bool.and_eq_true] at hd
    have h2 := bl_leb a h.1.2 hd.1 (r := 125 :: ([32] ++ 123 :: (b.tx ++ 125 :: r)))
    have h3 := bl_leb b h.2 hd.2 (r := 125 :: r)
    rw [iff_tx, mxb_w [105, 102, 32], fm_mxb h.1.1.1.1, mxb_w [32], mxb_o]
    rw [mxb_c, mxb_w [32], mxb_o] at h2
    rw [mxb_c] at h3
    omega
theorem bl_leb {n : Nat} : ∀ (b : Blk) {d : Nat}, b.fits n = true → b.inb d = true → ∀ {r : Cs}, mxb (b.tx ++ r) ≤ max d (mxb r)
  | .nil, d, _, _, r => by show mxb r ≤ _; omega
  | .cons s .nil, d, h, hd, r => by
    simp only [Blk.fits, Bool.and_eq_true] at h
    simp only [Blk.inb, Bool.and_eq_true] at hd
    rw [Blk.tx_one]; exact st_leb s h.1 hd.1
  | .cons s (.cons t b), d, h, hd, r => by
    have h' : s.fits n = true ∧ (Blk.cons t b).fits n = true := by simpa [Blk.fits] using h
    have hd' : s.inb d = true ∧ (Blk.cons t b).inb d = true := by simpa [Blk.inb] using hd
    rw [tx_cons2]
    have h1 := st_leb s h'.1 hd'.1 (r := [59, 32] ++ ((Blk.cons t b).tx ++ r))
    have h2 := bl_leb (.cons t b) h'.2 hd'.2 (r := r)
    rw [mxb_w [59, 32]] at h1
    omega
end
end Z

/-! The laws' own reading. Bodies printed by mkzvb.py. -/
namespace Z
open PySem PySem.Spec PyProof.Rows L2
structure Rx where
  law_sum_at : Nat
  law_braced_at : Nat
  law_if_at : Nat
  law_statement_at : Nat
  law_block_at : Nat
def B_law_sum_at (rx : Rx) : Ss := (.cons (.par [5, 6] (.cons (.sl (.v 0) (.some (.v 1)) (.some (.op .Add (.v 1) (.c (.int 1))))) (.cons (.sl (.v 0) (.some (.op .Add (.v 1) (.c (.int 1)))) (.some (.op .Add (.v 1) (.c (.int 2))))) .nil))) (.cons (.ite (.cmp .In (.v 5) (.tup (.cons (.c (.str "k")) (.cons (.c (.str "s")) .nil)))) (.cons (.ret (.tup (.cons (.ifx (.cmp .Eq (.v 5) (.c (.str "k"))) (.c (.str "known")) (.c (.str "secret"))) (.cons (.op .Add (.v 1) (.c (.int 1))) .nil)))) .nil) .nil) (.cons (.ite (.bo .And (.cons (.cmp .NotEq (.v 5) (.c (.str ""))) (.cons (.cmp .In (.v 5) (.c (.str "0123456789"))) .nil))) (.cons (.ret (.tup (.cons (.bf .int (.cons (.v 5) .nil)) (.cons (.op .Add (.v 1) (.c (.int 1))) .nil)))) .nil) .nil) (.cons (.ite (.cmp .Eq (.v 5) (.c (.str "c"))) (.cons (.ret (.ifx (.bo .And (.cons (.cmp .NotEq (.v 6) (.c (.str ""))) (.cons (.cmp .In (.v 6) (.c (.str "0123456789"))) .nil))) (.tup (.cons (.tup (.cons (.c (.str "cell")) (.cons (.bf .int (.cons (.v 6) .nil)) .nil))) (.cons (.op .Add (.v 1) (.c (.int 2))) .nil))) (.c .non))) .nil) .nil) (.cons (.asg (.nm 2) (.ifx (.cmp .Eq (.v 5) (.c (.str "("))) (.call rx.law_sum_at (.cons (.v 0) (.cons (.op .Add (.v 1) (.c (.int 1))) .nil))) (.c .non))) (.cons (.ite (.bo .Or (.cons (.cmp .Is (.v 2) (.c .non)) (.cons (.cmp .NotIn (.sl (.v 0) (.some (.ix (.v 2) (.c (.int 1)))) (.some (.op .Add (.ix (.v 2) (.c (.int 1))) (.c (.int 1))))) (.tup (.cons (.c (.str "+")) (.cons (.c (.str "*")) (.cons (.c (.str "<")) (.cons (.c (.str "=")) .nil)))))) .nil))) (.cons (.ret (.c .non)) .nil) .nil) (.cons (.asg (.nm 3) (.dsel ["+", "*", "<", "="] (.cons (.c (.str "plus")) (.cons (.c (.str "times")) (.cons (.c (.str "less")) (.cons (.c (.str "same")) .nil)))) (.ix (.v 0) (.ix (.v 2) (.c (.int 1)))))) (.cons (.asg (.nm 4) (.call rx.law_sum_at (.cons (.v 0) (.cons (.op .Add (.ix (.v 2) (.c (.int 1))) (.c (.int 1))) .nil)))) (.cons (.ite (.bo .Or (.cons (.cmp .Is (.v 4) (.c .non)) (.cons (.cmp .NotEq (.sl (.v 0) (.some (.ix (.v 4) (.c (.int 1)))) (.some (.op .Add (.ix (.v 4) (.c (.int 1))) (.c (.int 1))))) (.c (.str ")"))) .nil))) (.cons (.ret (.c .non)) .nil) .nil) (.cons (.ret (.tup (.cons (.tup (.cons (.v 3) (.cons (.ix (.v 2) (.c (.int 0))) (.cons (.ix (.v 4) (.c (.int 0))) .nil)))) (.cons (.op .Add (.ix (.v 4) (.c (.int 1))) (.c (.int 1))) .nil)))) .nil))))))))))
def B_law_braced_at (rx : Rx) : Ss := (.cons (.asg (.nm 2) (.ifx (.cmp .Eq (.sl (.v 0) (.some (.v 1)) (.some (.op .Add (.v 1) (.c (.int 2))))) (.c (.str " {"))) (.call rx.law_block_at (.cons (.v 0) (.cons (.op .Add (.v 1) (.c (.int 2))) .nil))) (.c .non))) (.cons (.ite (.bo .Or (.cons (.cmp .Is (.v 2) (.c .non)) (.cons (.cmp .NotEq (.sl (.v 0) (.some (.ix (.v 2) (.c (.int 1)))) (.some (.op .Add (.ix (.v 2) (.c (.int 1))) (.c (.int 1))))) (.c (.str "}"))) .nil))) (.cons (.ret (.c .non)) .nil) .nil) (.cons (.ret (.tup (.cons (.ix (.v 2) (.c (.int 0))) (.cons (.op .Add (.ix (.v 2) (.c (.int 1))) (.c (.int 1))) .nil)))) .nil)))
def B_law_if_at (rx : Rx) : Ss := (.cons (.asg (.nm 2) (.call rx.law_sum_at (.cons (.v 0) (.cons (.v 1) .nil)))) (.cons (.asg (.nm 3) (.ifx (.cmp .IsNot (.v 2) (.c .non)) (.call rx.law_braced_at (.cons (.v 0) (.cons (.ix (.v 2) (.c (.int 1))) .nil))) (.c .non))) (.cons (.asg (.nm 4) (.ifx (.cmp .IsNot (.v 3) (.c .non)) (.call rx.law_braced_at (.cons (.v 0) (.cons (.ix (.v 3) (.c (.int 1))) .nil))) (.c .non))) (.cons (.ret (.ifx (.cmp .IsNot (.v 4) (.c .non)) (.tup (.cons (.tup (.cons (.c (.str "if")) (.cons (.ix (.v 2) (.c (.int 0))) (.cons (.ix (.v 3) (.c (.int 0))) (.cons (.ix (.v 4) (.c (.int 0))) .nil))))) (.cons (.ix (.v 4) (.c (.int 1))) .nil))) (.c .non))) .nil))))
def B_law_statement_at (rx : Rx) : Ss := (.cons (.ite (.cmp .Eq (.sl (.v 0) (.some (.v 1)) (.some (.op .Add (.v 1) (.c (.int 4))))) (.c (.str "stop"))) (.cons (.ret (.tup (.cons (.tup (.cons (.c (.str "stop")) .nil)) (.cons (.op .Add (.v 1) (.c (.int 4))) .nil)))) .nil) .nil) (.cons (.ite (.cmp .Eq (.sl (.v 0) (.some (.v 1)) (.some (.op .Add (.v 1) (.c (.int 3))))) (.c (.str "if "))) (.cons (.ret (.call rx.law_if_at (.cons (.v 0) (.cons (.op .Add (.v 1) (.c (.int 3))) .nil)))) .nil) .nil) (.cons (.asg (.tup (.cons (.nm 3) (.cons (.nm 4) .nil))) (.ifx (.cmp .Eq (.sl (.v 0) (.some (.v 1)) (.some (.op .Add (.v 1) (.c (.int 1))))) (.c (.str "d"))) (.tup (.cons (.sl (.v 0) (.some (.v 1)) (.some (.op .Add (.v 1) (.c (.int 3))))) (.cons (.sl (.v 0) (.some (.op .Add (.v 1) (.c (.int 3)))) (.some (.op .Add (.v 1) (.c (.int 4))))) .nil))) (.tup (.cons (.c (.str "")) (.cons (.sl (.v 0) (.some (.op .Add (.v 1) (.c (.int 4)))) (.some (.op .Add (.v 1) (.c (.int 5))))) .nil))))) (.cons (.ite (.bo .Or (.cons (.cmp .Eq (.v 4) (.c (.str ""))) (.cons (.cmp .NotIn (.v 4) (.c (.str "0123456789"))) .nil))) (.cons (.ret (.c .non)) .nil) .nil) (.cons (.ite (.cmp .Eq (.v 3) (.c (.str "do "))) (.cons (.ret (.tup (.cons (.tup (.cons (.c (.str "do")) (.cons (.bf .int (.cons (.v 4) .nil)) .nil))) (.cons (.op .Add (.v 1) (.c (.int 4))) .nil)))) .nil) .nil) (.cons (.ite (.bo .Or (.cons (.cmp .NotEq (.v 3) (.c (.str ""))) (.cons (.cmp .NotEq (.sl (.v 0) (.some (.v 1)) (.some (.op .Add (.v 1) (.c (.int 4))))) (.c (.str "set "))) (.cons (.cmp .NotEq (.sl (.v 0) (.some (.op .Add (.v 1) (.c (.int 5)))) (.some (.op .Add (.v 1) (.c (.int 6))))) (.c (.str " "))) .nil)))) (.cons (.ret (.c .non)) .nil) .nil) (.cons (.asg (.nm 2) (.call rx.law_sum_at (.cons (.v 0) (.cons (.op .Add (.v 1) (.c (.int 6))) .nil)))) (.cons (.ret (.ifx (.cmp .IsNot (.v 2) (.c .non)) (.tup (.cons (.tup (.cons (.c (.str "set")) (.cons (.bf .int (.cons (.v 4) .nil)) (.cons (.ix (.v 2) (.c (.int 0))) .nil)))) (.cons (.ix (.v 2) (.c (.int 1))) .nil))) (.c .non))) .nil))))))))
def B_law_block_at (rx : Rx) : Ss := (.cons (.asg (.nm 2) (.lst true .nil)) (.cons (.ite (.cmp .In (.sl (.v 0) (.some (.v 1)) (.some (.op .Add (.v 1) (.c (.int 1))))) (.tup (.cons (.c (.str "")) (.cons (.c (.str "}")) .nil)))) (.cons (.ret (.tup (.cons (.tup .nil) (.cons (.v 1) .nil)))) .nil) .nil) (.cons (.for_ (.nm 3) (.rng1 (.cons (.bf .len (.cons (.v 0) .nil)) .nil)) (.cons (.asg (.nm 4) (.call rx.law_statement_at (.cons (.v 0) (.cons (.v 1) .nil)))) (.cons (.ite (.cmp .Is (.v 4) (.c .non)) (.cons (.ret (.c .non)) .nil) .nil) (.cons (.ex (.app (.v 2) (.cons (.ix (.v 4) (.c (.int 0))) .nil))) (.cons (.asg (.nm 1) (.ix (.v 4) (.c (.int 1)))) (.cons (.ite (.cmp .NotEq (.sl (.v 0) (.some (.v 1)) (.some (.op .Add (.v 1) (.c (.int 2))))) (.c (.str "; "))) (.cons .brk .nil) .nil) (.cons (.asg (.nm 1) (.op .Add (.v 1) (.c (.int 2)))) .nil))))))) (.cons (.ret (.tup (.cons (.bf .tup (.cons (.v 2) .nil)) (.cons (.v 1) .nil)))) .nil))))
structure LrdA (T : List Fn) (rx : Rx) : Prop where
  law_sum_at : T[rx.law_sum_at]? = some ⟨2, 7, B_law_sum_at rx⟩
  law_braced_at : T[rx.law_braced_at]? = some ⟨2, 3, B_law_braced_at rx⟩
  law_if_at : T[rx.law_if_at]? = some ⟨2, 5, B_law_if_at rx⟩
  law_statement_at : T[rx.law_statement_at]? = some ⟨2, 5, B_law_statement_at rx⟩
  law_block_at : T[rx.law_block_at]? = some ⟨2, 5, B_law_block_at rx⟩
def lsD (p : Cs) : Option (Fm × Cs) → D
  | some (f, _) => .tup [f.d, .int ((p.length : Int) + (f.tx.length : Int))]
  | none => .non
theorem in_ks {S : Sto} {l : Cs} : inD S (.str (sl l)) (.tup [.str "k", .str "s"]) = some (.bl (decide (l = [107] ∨ l = [115]))) := by
  have e : inD S (.str (sl l)) (.tup [.str "k", .str "s"]) = some (.bl ((("k" : Str) == sl l) || (("s" : Str) == sl l))) := by
    simp [inD, inP, asQ, flatD, eqF]
  rw [e, l_k, l_s, beq_sl, beq_sl]
  congr 2
  rw [Bool.eq_iff_iff]
  simp only [Bool.or_eq_true, decide_eq_true_eq]
  exact ⟨fun h => h.imp Eq.symm Eq.symm, fun h => h.imp Eq.symm Eq.symm⟩
theorem nin_ops {S : Sto} {l : Cs} : notInD S (.str (sl l)) (.tup [.str "+", .str "*", .str "<", .str "="]) = some (.bl (decide (¬ (l = [43] ∨ l = [42] ∨ l = [60] ∨ l = [61])))) := by
  have e : notInD S (.str (sl l)) (.tup [.str "+", .str "*", .str "<", .str "="]) = some (.bl (!((("+" : Str) == sl l) || ((("*" : Str) == sl l) || ((("<" : Str) == sl l) || (("=" : Str) == sl l)))))) := by
    simp [notInD, inP, asQ, flatD, eqF]
  rw [e, l_plus, l_times, l_less, l_same, beq_sl, beq_sl, beq_sl, beq_sl]
  congr 2
  rw [Bool.eq_iff_iff]
  simp only [Bool.not_eq_true', Bool.or_eq_false_iff, decide_eq_false_iff_not, decide_eq_true_eq]
  constructor
  · rintro ⟨a, b, c, d⟩ h
    rcases h with h | h | h | h
    · exact a h.symm
    · exact b h.symm
    · exact c h.symm
    · exact d h.symm
  · intro h
    exact ⟨fun z => h (.inl z.symm), fun z => h (.inr (.inl z.symm)), fun z => h (.inr (.inr (.inl z.symm))), fun z => h (.inr (.inr (.inr z.symm)))⟩
theorem op_in {c : Nat} : (¬ ([c] = [43] ∨ [c] = [42] ∨ [c] = [60] ∨ [c] = [61])) ↔ opOf c = none := by
  simp only [List.cons.injEq, and_true]
  unfold opOf
  constructor
  · intro h
    simp only [not_or] at h
    simp [h.1, h.2.1, h.2.2.1, h.2.2.2]
  · intro h
    simp only [not_or]
    refine ⟨fun z => ?_, fun z => ?_, fun z => ?_, fun z => ?_⟩ <;> subst z <;> simp at h
theorem look_ops {c : Nat} {o : Opr} (h : opOf c = some o) : ((["+", "*", "<", "="] : List Str).zip [D.str "plus", .str "times", .str "less", .str "same"]).lookup (sl [c]) = some (.str o.s) := by
  have hc : c = 43 ∨ c = 42 ∨ c = 60 ∨ c = 61 := by
    by_cases z : ¬ ([c] = [43] ∨ [c] = [42] ∨ [c] = [60] ∨ [c] = [61])
    · rw [op_in.mp z] at h; cases h
    · have := Classical.not_not.mp z
      simpa using this
  rcases hc with rfl | rfl | rfl | rfl <;> (cases h; kernel_rfl)
theorem eq_k {l : Cs} : (sl l = ("k" : Str)) = (l = [107]) := by rw [l_k, sl_inj]
theorem eq_e {l : Cs} : (sl l = ("" : Str)) = (l = []) := by rw [empty_eq, sl_inj]
theorem sign_at {S : Sto} {p l : Cs} {c : Nat} (h : (p ++ c :: l).length ≤ 1000000) : ixP S (.str (sl (p ++ c :: l))) (.int (p.length : Int)) = some (.str (sl [c])) := by
  unfold ixP
  simp only [L2.atI, sl_len, Str.length]
  have : ((sl (p ++ c :: l)).cps.toList)[p.length]? = some c := by simp [sl]
  simp [sl, ixN] at this ⊢
  simp at h
  refine ⟨by omega, ?_⟩
  rw [if_pos (by omega)]
  simp
section
variable {T : List Fn} {G : Ev} {wf : Nat} {rx : Rx}
theorem ls_0 {C : Nat → List D → Sto → Out D} {p l : Cs} {S : Sto} (hl : (p ++ l).length ≤ 1000000) : dS G C wf ((B_law_sum_at rx).at 0) [some (.str (sl (p ++ l))), some (.int (p.length : Int)), none, none, none, none, none] S = .ok .nx [some (.str (sl (p ++ l))), some (.int (p.length : Int)), none, none, none, some (.str (sl (l.take 1))), some (.str (sl ((l.drop 1).take 1)))] S := by
  have c1 : slP S (.str (sl (p ++ l))) (some (p.length : Int)) (some ((p.length : Int) + 1)) = some (.str (sl (l.take 1))) := sl_sl (k := 1) (by omega)
  have c2 : slP S (.str (sl (p ++ l))) (some ((p.length : Int) + 1)) (some ((p.length : Int) + 2)) = some (.str (sl ((l.drop 1).take 1))) := by
    have := sl_sl2 (p := p) (l := l) (S := S) (i := 1) (j := 2) (by omega)
    rw [List.drop_take] at this
    exact this
  exact par_2 (i := 5) (j := 6) (S1 := S) (by simp [c1]) (by simp [c2])
theorem ls_leaf (A : LrdA T rx) {k : Nat} {p l : Cs} {S : Sto} (hl : (p ++ l).length ≤ 1000000) (h : ∀ l0, l ≠ 40 :: l0) : run T G wf (k + 1) rx.law_sum_at [.str (sl (p ++ l)), .int (p.length : Int)] S = .ok (lsD p (pLeaf l)) S := by
  rw [run_succ (fn := ⟨2, 7, B_law_sum_at rx⟩) A.law_sum_at rfl]
  show fnEnd (dSs G (run T G wf k) wf (B_law_sum_at rx) [some (.str (sl (p ++ l))), some (.int (p.length : Int)), none, none, none, none, none] S) = _
  rw [stp0 rfl (ls_0 hl)]
  cases l with
  | nil => simp [B_law_sum_at, Ss.fr, fnEnd, in_ks, eq_e, eq_c, eq_po, isN_non', pLeaf, lsD]
  | cons c l =>
    cases hd : dg c with
    | true =>
      have h1 : c ≠ 107 := fun z => by subst z; cases hd
      have h2 : c ≠ 115 := fun z => by subst z; cases hd
      simp [B_law_sum_at, Ss.fr, fnEnd, in_ks, eq_e, in_dig, int_dig hd, hd, h1, h2, pLeaf, lsD, Fm.d, Fm.tx]
    | false =>
      by_cases h1 : c = 107
      · subst h1; simp [B_law_sum_at, Ss.fr, fnEnd, in_ks, eq_e, eq_k, hd, pLeaf, lsD, Fm.d, Fm.tx]
      · by_cases h2 : c = 115
        · subst h2; simp [B_law_sum_at, Ss.fr, fnEnd, in_ks, eq_e, eq_k, hd, pLeaf, lsD, Fm.d, Fm.tx]
        · by_cases h3 : c = 99
          · subst h3
            cases l with
            | nil => simp [B_law_sum_at, Ss.fr, fnEnd, in_ks, eq_e, eq_c, in_dig, hd, pLeaf, lsD]
            | cons d l =>
              cases hd2 : dg d with
              | true => simp [B_law_sum_at, Ss.fr, fnEnd, in_ks, eq_e, eq_c, in_dig, int_dig hd2, hd, hd2, pLeaf, lsD, Fm.d, Fm.tx]
              | false => simp [B_law_sum_at, Ss.fr, fnEnd, in_ks, eq_e, eq_c, in_dig, hd, hd2, pLeaf, lsD]
          · have h4 : c ≠ 40 := fun z => h l (by rw [z])
            simp [B_law_sum_at, Ss.fr, fnEnd, in_ks, eq_e, eq_c, eq_po, in_dig, hd, h1, h2, h3, h4, isN_non', pLeaf, lsD]
theorem ls_ok (A : LrdA T rx) : ∀ (n : Nat) (p l : Cs) (k : Nat) (S : Sto), mxp l ≤ n → (p ++ l).length ≤ 1000000 → run T G wf (k + n + 1) rx.law_sum_at [.str (sl (p ++ l)), .int (p.length : Int)] S = .ok (lsD p (pSum n l)) S
  | 0, p, l, k, S, hm, hl => by
    rw [pSum]
    exact ls_leaf A hl fun l0 z => by subst z; rw [show mxp (40 :: l0) = mxp l0 + 1 from mx_open] at hm; omega
  | n + 1, p, l, k, S, hm, hl => by
    cases l with
    | nil => exact ls_leaf (k := k + (n + 1)) A hl fun l0 z => by cases z
    | cons c l =>
      by_cases hc : c = 40
      · subst hc
        have hm1 : mxp l ≤ n := by rw [show mxp (40 :: l) = mxp l + 1 from mx_open] at hm; omega
        rw [show k + (n + 1) + 1 = (k + n + 1) + 1 by omega, run_succ (fn := ⟨2, 7, B_law_sum_at rx⟩) A.law_sum_at rfl]
        have pe : p ++ 40 :: l = (p ++ [40]) ++ l := by simp
        have e1 : run T G wf (k + n + 1) rx.law_sum_at [.str (sl (p ++ 40 :: l)), .int ((p.length : Int) + 1)] S = .ok (lsD (p ++ [40]) (pSum n l)) S := by
          have := ls_ok A n (p ++ [40]) l k S hm1 (by rw [← pe]; exact hl)
          rw [← pe] at this
          simpa using this
        show fnEnd (dSs G (run T G wf (k + n + 1)) wf (B_law_sum_at rx) [some (.str (sl (p ++ 40 :: l))), some (.int (p.length : Int)), none, none, none, none, none] S) = _
        rw [stp0 rfl (ls_0 hl)]
        rw [pSum]
        simp only [↓reduceIte]
        have d40 : dg 40 = false := rfl
        cases q1 : pSum n l with
        | none =>
          rw [q1] at e1
          simp only [lsD] at e1
          simp [B_law_sum_at, Ss.fr, fnEnd, in_ks, eq_e, eq_c, eq_po, in_dig, d40, e1, isN_non', lsD]
        | some ar =>
          obtain ⟨a, r⟩ := ar
          obtain ⟨el, _, ad⟩ := pSum_sound q1
          rw [q1] at e1
          have p2 : p ++ 40 :: l = (p ++ 40 :: a.tx) ++ r := by rw [el]; simp
          have n2 : (p ++ 40 :: a.tx).length = p.length + 1 + a.tx.length := by simp; omega
          have c2 : slP S (.str (sl (p ++ 40 :: l))) (some ((p.length : Int) + 1 + a.tx.length)) (some ((p.length : Int) + 1 + a.tx.length + 1)) = some (.str (sl (r.take 1))) := by
            have := sl_sl (p := p ++ 40 :: a.tx) (l := r) (S := S) (k := 1) (by rw [← p2]; omega)
            rw [← p2, n2] at this
            simpa using this
          simp only [lsD, List.length_append, List.length_cons, List.length_nil] at e1
          simp at e1
          cases r with
          | nil => simp [B_law_sum_at, Ss.fr, fnEnd, in_ks, eq_e, eq_c, eq_po, in_dig, d40, e1, isN_tup, PE.ix0, PE.ix1, c2, nin_ops, lsD]
          | cons s r1 =>
            simp only [List.take_succ_cons, List.take_zero] at c2
            cases q2 : opOf s with
            | none =>
              have := op_in.mpr q2
              simp at this
              simp [B_law_sum_at, Ss.fr, fnEnd, in_ks, eq_e, eq_c, eq_po, in_dig, d40, e1, isN_tup, PE.ix0, PE.ix1, c2, nin_ops, this, lsD, q2]
            | some o =>
              have no : (¬ ([s] = [43] ∨ [s] = [42] ∨ [s] = [60] ∨ [s] = [61])) = False := eq_false fun z => by rw [op_in.mp z] at q2; cases q2
              have p3 : p ++ 40 :: l = (p ++ 40 :: (a.tx ++ [s])) ++ r1 := by rw [p2]; simp
              have n3 : (p ++ 40 :: (a.tx ++ [s])).length = p.length + 1 + a.tx.length + 1 := by simp; omega
              have hs : s ≠ 40 ∧ s ≠ 41 := by
                have := opOf_some q2
                rw [this]; exact ⟨opc_no.1, opc_no.2.1⟩
              have hm2 : mxp r1 ≤ n := by
                have h1 := fm_ge ad (r := s :: r1)
                rw [← el, show mxp (s :: r1) = mxp r1 from mx_no hs.1 hs.2] at h1
                omega
              have e2 : run T G wf (k + n + 1) rx.law_sum_at [.str (sl (p ++ 40 :: l)), .int ((p.length : Int) + 1 + a.tx.length + 1)] S = .ok (lsD (p ++ 40 :: (a.tx ++ [s])) (pSum n r1)) S := by
                have := ls_ok A n (p ++ 40 :: (a.tx ++ [s])) r1 k S hm2 (by rw [← p3]; exact hl)
                rw [← p3, n3] at this
                simpa using this
              have sg : ixP S (.str (sl (p ++ 40 :: l))) (.int ((p.length : Int) + 1 + a.tx.length)) = some (.str (sl [s])) := by
                have := sign_at (S := S) (p := p ++ 40 :: a.tx) (c := s) (l := r1) (by rw [← p2]; exact hl)
                rw [← p2, n2] at this
                simpa using this
              let tD : D := .str (sl (p ++ 40 :: l))
              let fD : D := .tup [a.d, .int ((p.length : Int) + 1 + a.tx.length)]
              let sdA : Sl := [some tD, some (.int (p.length : Int)), none, none, none, some (.str (sl [40])), some (.str (sl (l.take 1)))]
              let sdB : Sl := [some tD, some (.int (p.length : Int)), some fD, none, none, some (.str (sl [40])), some (.str (sl (l.take 1)))]
              let sdC : Sl := [some tD, some (.int (p.length : Int)), some fD, some (.str o.s), none, some (.str (sl [40])), some (.str (sl (l.take 1)))]
              generalize hC : run T G wf (k + n + 1) = C at e1 e2
              have t1 : dS G C wf ((B_law_sum_at rx).at 1) sdA S = .ok .nx sdA S := (s_iteF (S1 := S) (by simp [sdA, in_ks])).trans rfl
              have t2 : dS G C wf ((B_law_sum_at rx).at 2) sdA S = .ok .nx sdA S := (s_iteF (S1 := S) (by simp [sdA, in_dig, eq_e, d40])).trans rfl
              have t3 : dS G C wf ((B_law_sum_at rx).at 3) sdA S = .ok .nx sdA S := (s_iteF (S1 := S) (by simp [sdA, eq_c])).trans rfl
              have t4 : dS G C wf ((B_law_sum_at rx).at 4) sdA S = .ok .nx sdB S := s_asg1 (i := 2) ((e_ifT (S1 := S) (by simp [sdA, eq_po])).trans (e_call2 (x := tD) (y := .int ((p.length : Int) + 1)) (S1 := S) (S2 := S) (by simp [sdA]) (by simp [sdA]) e1))
              have t5 : dS G C wf ((B_law_sum_at rx).at 5) sdB S = .ok .nx sdB S := (s_iteF (S1 := S) ((t_orF (S1 := S) (by simp [sdB, fD, isN_tup])).trans (t_cmp (x := .str (sl [s])) (y := .tup [.str "+", .str "*", .str "<", .str "="]) (S1 := S) (by simp [sdB, fD, tD, PE.ix1, c2]) (by simp) (by rw [q_cmNotIn, nin_ops]; simp only [no, decide_false])))).trans rfl
              have t6 : dS G C wf ((B_law_sum_at rx).at 6) sdB S = .ok .nx sdC S := s_asg1 (i := 3) (by
                have e : dE G C (.ix (.v 0) (.ix (.v 2) (.c (.int 1)))) sdB S = .ok (.str (sl [s])) S := by simp [sdB, fD, tD, PE.ix1, sg]
                simp only [q_edsel, q_mDsel, q_lcons, q_mCons, q_ec, q_mC, q_lnil, q_mNil, e, look_ops q2, q_liftS])
              cases q3 : pSum n r1 with
              | none =>
                rw [q3] at e2
                simp only [lsD] at e2
                let sdD : Sl := [some tD, some (.int (p.length : Int)), some fD, some (.str o.s), some .non, some (.str (sl [40])), some (.str (sl (l.take 1)))]
                have t7 : dS G C wf ((B_law_sum_at rx).at 7) sdC S = .ok .nx sdD S := s_asg1 (i := 4) (e_call2 (x := tD) (y := .int ((p.length : Int) + 1 + a.tx.length + 1)) (S1 := S) (S2 := S) (by simp [sdC]) (by simp [sdC, fD, PE.ix1]) e2)
                show fnEnd (dSs G C wf ((B_law_sum_at rx).fr 1) sdA S) = _
                rw [stp rfl t1, stp rfl t2, stp rfl t3, stp rfl t4, stp rfl t5, stp rfl t6, stp rfl t7]
                refine e_ret (s := (B_law_sum_at rx).at 8) rfl ((s_iteT (S1 := S) (t_orT (by simp [sdD, isN_non']))).trans ?_)
                simp [lsD, q2, q3]
              | some br =>
                obtain ⟨b, r2⟩ := br
                obtain ⟨el2, _, _⟩ := pSum_sound q3
                rw [q3] at e2
                have p4 : p ++ 40 :: l = (p ++ 40 :: (a.tx ++ s :: b.tx)) ++ r2 := by rw [p3, el2]; simp
                have n4 : (p ++ 40 :: (a.tx ++ s :: b.tx)).length = p.length + 1 + a.tx.length + 1 + b.tx.length := by simp; omega
                have c3 : slP S (.str (sl (p ++ 40 :: l))) (some ((p.length : Int) + 1 + a.tx.length + 1 + b.tx.length)) (some ((p.length : Int) + 1 + a.tx.length + 1 + b.tx.length + 1)) = some (.str (sl (r2.take 1))) := by
                  have := sl_sl (p := p ++ 40 :: (a.tx ++ s :: b.tx)) (l := r2) (S := S) (k := 1) (by rw [← p4]; omega)
                  rw [← p4, n4] at this
                  simpa using this
                simp only [lsD, n3] at e2
                simp at e2
                let gD : D := .tup [b.d, .int ((p.length : Int) + 1 + a.tx.length + 1 + b.tx.length)]
                let sdD : Sl := [some tD, some (.int (p.length : Int)), some fD, some (.str o.s), some gD, some (.str (sl [40])), some (.str (sl (l.take 1)))]
                have t7 : dS G C wf ((B_law_sum_at rx).at 7) sdC S = .ok .nx sdD S := s_asg1 (i := 4) (e_call2 (x := tD) (y := .int ((p.length : Int) + 1 + a.tx.length + 1)) (S1 := S) (S2 := S) (by simp [sdC]) (by simp [sdC, fD, PE.ix1]) e2)
                have u8 : dT G C (.bo .Or (.cons (.cmp .Is (.v 4) (.c .non)) (.cons (.cmp .NotEq (.sl (.v 0) (.some (.ix (.v 4) (.c (.int 1)))) (.some (.op .Add (.ix (.v 4) (.c (.int 1))) (.c (.int 1))))) (.c (.str ")"))) .nil))) sdD S = .ok (!decide (r2.take 1 = [41])) S :=
                  (t_orF (S1 := S) (by simp [sdD, gD, isN_tup])).trans (t_cmp (x := .str (sl (r2.take 1))) (y := .str ")") (S1 := S) (by simp [sdD, gD, tD, PE.ix1, c3]) (by simp) (by simp [eq_pc]))
                show fnEnd (dSs G C wf ((B_law_sum_at rx).fr 1) sdA S) = _
                rw [stp rfl t1, stp rfl t2, stp rfl t3, stp rfl t4, stp rfl t5, stp rfl t6, stp rfl t7]
                cases r2 with
                | nil =>
                  refine e_ret (s := (B_law_sum_at rx).at 8) rfl ((s_iteT (S1 := S) (u8.trans (by simp))).trans ?_)
                  simp [lsD, q2, q3]
                | cons e r3 =>
                  simp only [List.take_succ_cons, List.take_zero] at c3
                  by_cases q4 : e = 41
                  · subst q4
                    have t8 : dS G C wf ((B_law_sum_at rx).at 8) sdD S = .ok .nx sdD S := (s_iteF (S1 := S) (u8.trans (by simp))).trans rfl
                    rw [stp rfl t8]
                    refine e_ret (s := (B_law_sum_at rx).at 9) rfl (s_ret1 ?_)
                    show dE G C (.tup (.cons (.tup (.cons (.v 3) (.cons (.ix (.v 2) (.c (.int 0))) (.cons (.ix (.v 4) (.c (.int 0))) .nil)))) (.cons (.op .Add (.ix (.v 4) (.c (.int 1))) (.c (.int 1))) .nil))) sdD S = _
                    simp [sdD, fD, gD, PE.ix0, PE.ix1, lsD, q2, q3, Fm.d, Fm.tx]
                    omega
                  · refine e_ret (s := (B_law_sum_at rx).at 8) rfl ((s_iteT (S1 := S) (u8.trans (by simp [q4]))).trans ?_)
                    simp [lsD, q2, q3, q4]
      · rw [pSum]
        simp only [hc, ↓reduceIte]
        exact ls_leaf (k := k + (n + 1)) A hl fun _ e => by cases e; exact absurd rfl hc
end
/-! ### blocks -/
def ltD (p : Cs) : Option (Stm × Cs) → D
  | some (s, _) => .tup [s.d, .int ((p.length : Int) + (s.tx.length : Int))]
  | none => .non
def lbD (p : Cs) : Option (Blk × Cs) → D
  | some (b, _) => .tup [.tup b.ds, .int ((p.length : Int) + (b.tx.length : Int))]
  | none => .non
/-- a way to read statements -/
def LSt (C : Nat → List D → Sto → Out D) (rx : Rx) (n : Nat) (f : RdS) : Prop := ∀ (p l : Cs) (S : Sto), (p ++ l).length ≤ 1000000 → mxb l + mxp l < n →
  ∃ S', C rx.law_statement_at [.str (sl (p ++ l)), .int (p.length : Int)] S = .ok (ltD p (f l)) S' ∧ Pre S S'
def lbB (rx : Rx) : Ss := match (B_law_block_at rx).at 2 with
  | .for_ _ _ b => b
  | _ => .nil
theorem pBk_stop {f : RdS} {m : Nat} {l r : Cs} {s : Stm} (q : f l = some (s, r)) (hr : ¬ r.take 2 = [59, 32]) : pBk f (m + 1) l = some (.cons s .nil, r) := by
  rw [pBk, q]
  simp only []
  match r, hr with
  | [], _ => rfl
  | [a], _ =>
    split
    · rename_i h; simp at h
    · rfl
  | a :: b :: r, hr =>
    split
    · rename_i h; simp at h; exact absurd (by simp [h.1, h.2.1]) hr
    · rfl
section
variable {T : List Fn} {G : Ev} {wf : Nat} {rx : Rx} {C : Nat → List D → Sto → Out D}
theorem q_brk {sd : Sl} {S : Sto} : dS G C wf .brk sd S = .ok .bk sd S := rfl
theorem s_app2 {sd : Sl} {S S2 : Sto} {i f : Nat} {e : E} {y : D} {xs : List D} (h4 : sd[i]? = some (some (.loc f))) (he : dE G C e sd S = .ok y S2) (h0 : S[f]? = some (.lst xs)) (h3 : S2[f]? = some (.lst xs)) (hl : xs.length < 16777216) :
    dS G C wf (.ex (.app (.v i) (.cons e .nil))) sd S = .ok .nx sd (S2.set f (.lst (xs ++ [y]))) := by
  have := app_ok (o := mVar i) (a := dL G C (.cons e .nil)) (sd := sd) (S := S) (S2 := S2) (n := f) (y := y) (xs := xs) (q_mVar h4) h0 (by simp [he]) h3 hl
  simp only [q_sex, q_mExpr, q_eapp, q_ev, this]
theorem lb_for {f : RdS} {n m : Nat} (hf : ∀ l s r, f l = some (s, r) → l = s.tx ++ r ∧ s.fits m = true) (H : LSt C rx n f) {c : Nat} : ∀ (ts : List D) (p l : Cs) (acc : List D) (S : Sto) (x3 x4 : Option D), (p ++ l).length ≤ 1000000 → mxb l + mxp l < n → S[c]? = some (.lst acc) → acc.length + l.length ≤ 1000000 → l.length < ts.length + 1 →
    ∃ (S' : Sto) (x3' x4' : Option D) (e : Int), S.length ≤ S'.length ∧ (∀ i, i < S.length → i ≠ c → S'[i]? = S[i]?) ∧
      (match pBk f (ts.length + 1) l with
        | some (b, _) => (ts = [] ∨ e = (p.length : Int) + (b.tx.length : Int) ∧ S'[c]? = some (.lst (acc ++ b.ds)) ∧ forL (gNm 3) (dSs G C wf (lbB rx)) ts [some (.str (sl (p ++ l))), some (.int (p.length : Int)), some (.loc c), x3, x4] S = .ok .nx [some (.str (sl (p ++ l))), some (.int e), some (.loc c), x3', x4'] S')
        | none => (ts = [] ∨ ∃ sd, forL (gNm 3) (dSs G C wf (lbB rx)) ts [some (.str (sl (p ++ l))), some (.int (p.length : Int)), some (.loc c), x3, x4] S = .ok (.rt .non) sd S'))
  | [], p, l, acc, S, x3, x4, _, _, _, _, h => ⟨S, none, none, 0, Nat.le_refl _, fun _ _ _ => rfl, by split <;> exact .inl rfl⟩
  | t :: ts, p, l, acc, S, x3, x4, hl, hx, hc, ha, hm => by
    have hcl : c < S.length := (List.getElem?_eq_some_iff.mp hc).1
    obtain ⟨S1, e1, p1⟩ := H p l S hl hx
    have gg : ∀ x3, gNm 3 t [some (.str (sl (p ++ l))), some (.int (p.length : Int)), some (.loc c), x3, x4] S = some ([some (.str (sl (p ++ l))), some (.int (p.length : Int)), some (.loc c), some t, x4], S) := fun _ => rfl
    have hB : lbB rx = .cons ((lbB rx).at 0) (.cons ((lbB rx).at 1) (.cons ((lbB rx).at 2) (.cons ((lbB rx).at 3) (.cons ((lbB rx).at 4) (.cons ((lbB rx).at 5) .nil))))) := rfl
    let tD : D := .str (sl (p ++ l))
    have s0 : ∀ y, C rx.law_statement_at [tD, .int (p.length : Int)] S = .ok y S1 → dS G C wf ((lbB rx).at 0) [some tD, some (.int (p.length : Int)), some (.loc c), some t, x4] S = .ok .nx [some tD, some (.int (p.length : Int)), some (.loc c), some t, some y] S1 := fun y e => s_asg1 (i := 4) (e_call2 (x := tD) (y := .int (p.length : Int)) (S1 := S) (S2 := S) (by simp) (by simp) e)
    rw [List.length_cons, pBk]
    cases q : f l with
    | none =>
      rw [q] at e1
      refine ⟨S1, none, none, 0, p1.len, fun i hi _ => p1.get i hi, ?_⟩
      refine .inr ⟨[some tD, some (.int (p.length : Int)), some (.loc c), some t, some .non], ?_⟩
      rw [forL]
      simp only [gg]
      have s1 : dS G C wf ((lbB rx).at 1) [some tD, some (.int (p.length : Int)), some (.loc c), some t, some .non] S1 = .ok (.rt .non) [some tD, some (.int (p.length : Int)), some (.loc c), some t, some .non] S1 := (s_iteT (S1 := S1) (by simp [isN_non'])).trans (by simp)
      have : dSs G C wf (lbB rx) [some tD, some (.int (p.length : Int)), some (.loc c), some t, x4] S = .ok (.rt .non) [some tD, some (.int (p.length : Int)), some (.loc c), some t, some .non] S1 := by
        show dSs G C wf (.cons ((lbB rx).at 0) (.cons ((lbB rx).at 1) (.cons ((lbB rx).at 2) (.cons ((lbB rx).at 3) (.cons ((lbB rx).at 4) (.cons ((lbB rx).at 5) .nil)))))) _ S = _
        rw [q_scons, then_nx (s0 .non e1), q_scons, then_rt s1]
      show (match dSs G C wf (lbB rx) [some tD, some (.int (p.length : Int)), some (.loc c), some t, x4] S with | .ok .nx sd2 S2 => _ | .ok .ct sd2 S2 => _ | .ok .bk sd2 S2 => _ | .ok (.rt d) sd2 S2 => _ | .exc c fs sd2 S2 => _ | .bad => _) = _
      rw [this]
    | some sr =>
      obtain ⟨s, r⟩ := sr
      obtain ⟨el, fs⟩ := hf l s r q
      rw [q] at e1
      let yD : D := .tup [s.d, .int ((p.length : Int) + (s.tx.length : Int))]
      let sA : Sl := [some tD, some (.int (p.length : Int)), some (.loc c), some t, some yD]
      let sB : Sl := [some tD, some (.int ((p.length : Int) + (s.tx.length : Int))), some (.loc c), some t, some yD]
      let S2 := S1.set c (.lst (acc ++ [s.d]))
      have hc1 : S1[c]? = some (.lst acc) := by rw [p1.get c hcl]; exact hc
      have hc2 : S2[c]? = some (.lst (acc ++ [s.d])) := by
        show (S1.set c _)[c]? = _
        rw [List.getElem?_set_self (Nat.lt_of_lt_of_le hcl p1.len)]
      have ll : l.length = s.tx.length + r.length := by rw [el]; simp
      have s4 := s.tx_ge
      have s1 : dS G C wf ((lbB rx).at 1) sA S1 = .ok .nx sA S1 := (s_iteF (S1 := S1) (by simp [sA, yD, isN_tup])).trans rfl
      have s2 : dS G C wf ((lbB rx).at 2) sA S1 = .ok .nx sA S2 := s_app2 (i := 2) (f := c) (xs := acc) rfl (by simp [sA, yD, PE.ix0]) hc1 hc1 (by omega)
      have s3 : dS G C wf ((lbB rx).at 3) sA S2 = .ok .nx sB S2 := s_asg1 (i := 1) (by simp [sA, yD, PE.ix1])
      have pe : p ++ l = (p ++ s.tx) ++ r := by rw [el]; simp
      have c2 : ∀ S, slP S tD (some ((p.length : Int) + (s.tx.length : Int))) (some ((p.length : Int) + (s.tx.length : Int) + 2)) = some (.str (sl (r.take 2))) := fun S => by
        have := sl_sl (p := p ++ s.tx) (l := r) (S := S) (k := 2) (by rw [← pe]; omega)
        rw [← pe] at this
        simpa using this
      have u4 : dT G C (.cmp .NotEq (.sl (.v 0) (.some (.v 1)) (.some (.op .Add (.v 1) (.c (.int 2))))) (.c (.str "; "))) sB S2 = .ok (!decide (r.take 2 = [59, 32])) S2 := t_cmp (x := .str (sl (r.take 2))) (y := .str "; ") (S1 := S2) (by simp [sB, c2]) (by simp) (by simp [eq_sc])
      have fr2 : ∀ i, i < S.length → i ≠ c → S2[i]? = S[i]? := fun i hi hne => by
        show (S1.set c _)[i]? = _
        rw [List.getElem?_set_ne (fun z => hne z.symm)]; exact p1.get i hi
      have ln2 : S.length ≤ S2.length := by show _ ≤ (S1.set c _).length; simpa using p1.len
      have pre : dSs G C wf (lbB rx) [some tD, some (.int (p.length : Int)), some (.loc c), some t, x4] S = dSs G C wf (.cons ((lbB rx).at 4) (.cons ((lbB rx).at 5) .nil)) sB S2 := by
        show dSs G C wf (.cons ((lbB rx).at 0) (.cons ((lbB rx).at 1) (.cons ((lbB rx).at 2) (.cons ((lbB rx).at 3) (.cons ((lbB rx).at 4) (.cons ((lbB rx).at 5) .nil)))))) _ S = _
        rw [q_scons, then_nx (s0 yD e1), q_scons, then_nx s1, q_scons, then_nx s2, q_scons, then_nx s3]
      by_cases hr : r.take 2 = [59, 32]
      · obtain ⟨r', rfl⟩ : ∃ r', r = 59 :: 32 :: r' := by
          match r, hr with
          | a :: b :: r, hr =>
            simp at hr
            obtain ⟨rfl, rfl⟩ := hr
            exact ⟨r, rfl⟩
        have t4 : dS G C wf ((lbB rx).at 4) sB S2 = .ok .nx sB S2 := (s_iteF (S1 := S2) (u4.trans (by simp))).trans rfl
        let sC : Sl := [some tD, some (.int ((p.length : Int) + (s.tx.length : Int) + 2)), some (.loc c), some t, some yD]
        have t5 : dS G C wf ((lbB rx).at 5) sB S2 = .ok .nx sC S2 := s_asg1 (i := 1) (by simp [sB])
        have bd : dSs G C wf (lbB rx) [some tD, some (.int (p.length : Int)), some (.loc c), some t, x4] S = .ok .nx sC S2 := by
          rw [pre, q_scons, then_nx t4, q_scons, then_nx t5]; rfl
        have pe2 : p ++ l = (p ++ (s.tx ++ [59, 32])) ++ r' := by rw [el]; simp
        have pn2 : (((p ++ (s.tx ++ [59, 32])).length : Nat) : Int) = (p.length : Int) + (s.tx.length : Int) + 2 := by simp; omega
        have mb : mxb r' ≤ mxb l := by
          have := st_geb s fs (r := [59, 32] ++ r')
          rw [mxb_w [59, 32]] at this
          rw [el]; exact this
        have mp : mxp r' ≤ mxp l := by
          have := st_gep s fs (r := [59, 32] ++ r')
          rw [mxp_w [59, 32]] at this
          rw [el]; exact this
        simp only [List.length_cons] at ll hm
        obtain ⟨S', x3', x4', e, g1, g2, g3⟩ := lb_for hf H ts (p ++ (s.tx ++ [59, 32])) r' (acc ++ [s.d]) S2 (some t) (some yD) (by rw [← pe2]; exact hl) (by omega) hc2 (by simp; omega) (by omega)
        rw [← pe2, pn2] at g3
        have hts : ts ≠ [] := by intro z; subst z; simp at hm; omega
        have fl : forL (gNm 3) (dSs G C wf (lbB rx)) (t :: ts) [some (.str (sl (p ++ l))), some (.int (p.length : Int)), some (.loc c), x3, x4] S = forL (gNm 3) (dSs G C wf (lbB rx)) ts sC S2 := by
          rw [forL]
          simp only [gg]
          show (match dSs G C wf (lbB rx) [some tD, some (.int (p.length : Int)), some (.loc c), some t, x4] S with | .ok .nx sd2 S2 => _ | .ok .ct sd2 S2 => _ | .ok .bk sd2 S2 => _ | .ok (.rt d) sd2 S2 => _ | .exc c fs sd2 S2 => _ | .bad => _) = _
          rw [bd]
        refine ⟨S', x3', x4', e, Nat.le_trans ln2 g1, fun i hi hne => (g2 i (Nat.lt_of_lt_of_le hi ln2) hne).trans (fr2 i hi hne), ?_⟩
        simp only []
        cases q2 : pBk f (ts.length + 1) r' with
        | none =>
          rw [q2] at g3
          obtain g3 | ⟨sd, g3⟩ := g3
          · exact absurd g3 hts
          · exact .inr ⟨sd, fl.trans g3⟩
        | some br =>
          obtain ⟨b, r2⟩ := br
          rw [q2] at g3
          obtain g3 | ⟨g3, g4, g5⟩ := g3
          · exact absurd g3 hts
          · refine .inr ⟨?_, ?_, fl.trans g5⟩
            · have hb : b ≠ .nil := (pBk_sound hf q2).2.2.1
              rw [g3, Blk.tx_cons _ _ hb]; simp; omega
            · rw [g4]; simp [Blk.ds]
      · have t4 : dS G C wf ((lbB rx).at 4) sB S2 = .ok .bk sB S2 := (s_iteT (S1 := S2) (u4.trans (by simp [hr]))).trans rfl
        have bd : dSs G C wf (lbB rx) [some tD, some (.int (p.length : Int)), some (.loc c), some t, x4] S = .ok .bk sB S2 := by
          rw [pre, q_scons]
          unfold mThen
          rw [t4]
        refine ⟨S2, some t, some yD, (p.length : Int) + (s.tx.length : Int), ln2, fr2, ?_⟩
        have hk := pBk_stop (m := ts.length + 1) q hr
        rw [pBk, q] at hk
        rw [hk]
        refine .inr ⟨?_, ?_, ?_⟩
        · rw [Blk.tx_one]
        · rw [hc2]; simp [Blk.ds]
        · rw [forL]
          simp only [gg]
          show (match dSs G C wf (lbB rx) [some tD, some (.int (p.length : Int)), some (.loc c), some t, x4] S with | .ok .nx sd2 S2 => _ | .ok .ct sd2 S2 => _ | .ok .bk sd2 S2 => _ | .ok (.rt d) sd2 S2 => _ | .exc c fs sd2 S2 => _ | .bad => _) = _
          rw [bd]
end
end Z

/-! The laws' own reading: blocks, ifs, statements. -/
namespace Z
open PySem PySem.Spec PyProof.Rows L2
theorem l_d : ("d" : Str) = sl [100] := by decide +kernel
theorem eq_d {l : Cs} : (sl l = ("d" : Str)) = (l = [100]) := by rw [l_d, sl_inj]
theorem e_do : (("" : Str) = "do ") = False := eq_false (by decide +kernel)
section
variable {T : List Fn} {G : Ev} {wf : Nat} {rx : Rx}
theorem lbk_ok (A : LrdA T rx) {f : RdS} {n m K : Nat} (hf : ∀ l s r, f l = some (s, r) → l = s.tx ++ r ∧ s.fits m = true) (H : LSt (run T G wf K) rx n f) {p l : Cs} {S : Sto} (hl : (p ++ l).length ≤ 1000000) (hx : mxb l + mxp l < n) :
    ∃ S', run T G wf (K + 1) rx.law_block_at [.str (sl (p ++ l)), .int (p.length : Int)] S = .ok (lbD p (pBlk f l)) S' ∧ Pre S S' := by
  rw [run_succ (fn := ⟨2, 5, B_law_block_at rx⟩) A.law_block_at rfl]
  generalize hC : run T G wf K = C at H
  let tD : D := .str (sl (p ++ l))
  let c := S.length
  let S0 := S ++ [MO.lst []]
  let sd0 : Sl := [some tD, some (.int (p.length : Int)), none, none, none]
  let sd1 : Sl := [some tD, some (.int (p.length : Int)), some (.loc c), none, none]
  show ∃ S', fnEnd (dSs G C wf (B_law_block_at rx) sd0 S) = _ ∧ _
  have s0 : dS G C wf ((B_law_block_at rx).at 0) sd0 S = .ok .nx sd1 S0 := s_asg1 (i := 2) (by simp [S0, c])
  have c1 : slP S0 tD (some (p.length : Int)) (some ((p.length : Int) + 1)) = some (.str (sl (l.take 1))) := sl_sl (k := 1) (by omega)
  have u1 : dT G C (.cmp .In (.sl (.v 0) (.some (.v 1)) (.some (.op .Add (.v 1) (.c (.int 1))))) (.tup (.cons (.c (.str "")) (.cons (.c (.str "}")) .nil)))) sd1 S0 = .ok (decide (l.take 1 = [] ∨ l.take 1 = [125])) S0 := t_cmp (x := .str (sl (l.take 1))) (y := .tup [.str "", .str "}"]) (S1 := S0) (by simp [sd1, c1]) (by simp) (by rw [q_cmIn, in_eb])
  by_cases he : l.take 1 = [] ∨ l.take 1 = [125]
  · refine ⟨S0, ?_, Pre.push⟩
    rw [stp0 rfl s0]
    have hb : pBlk f l = some (.nil, l) := by
      match l, he with
      | [], _ => rfl
      | a :: l, he =>
        have : a = 125 := by simpa using he
        simp [pBlk, this]
    rw [hb]
    refine e_ret (s := (B_law_block_at rx).at 1) rfl ((s_iteT (S1 := S0) (u1.trans (by rw [decide_eq_true he]))).trans ?_)
    simp [sd1, lbD, Blk.ds, Blk.tx]
  · have s1 : dS G C wf ((B_law_block_at rx).at 1) sd1 S0 = .ok .nx sd1 S0 := (s_iteF (S1 := S0) (u1.trans (by rw [decide_eq_false he]))).trans rfl
    let ts : List D := (List.range' 0 (p ++ l).length).map fun (i : Nat) => D.int i
    have tl : ts.length = (p ++ l).length := by simp [ts]
    have lne : 0 < l.length := by
      cases l with
      | nil => exact absurd (.inl rfl) he
      | cons a l => simp
    have pll : (p ++ l).length = p.length + l.length := by simp
    obtain ⟨S2, x3', x4', e, g1, g2, g3⟩ := lb_for (G := G) (wf := wf) hf H (c := c) ts p l [] S0 none none hl hx (by simp [S0, c]) (by simp at hl ⊢; omega) (by omega)
    have hts : ts ≠ [] := fun z => by rw [z] at tl; simp at tl; omega
    have it : dI G C (.rng1 (.cons (.bf .len (.cons (.v 0) .nil)) .nil)) sd1 S0 = .ok (.vals ts) S0 := by
      have lz : ∀ S, lenD S tD = some (.int ((p ++ l).length : Int)) := fun S => by
        show lenD S (.str (sl (p ++ l))) = _
        unfold lenD lenP
        simp only [sl_len]
        rw [if_pos (by omega)]; rfl
      have rg := rng_big (q := (p ++ l).length) (by omega)
      simp [sd1, lz, rg, ts, -List.length_append]
    have pr : Pre S S2 := ⟨by simp [S0] at g1; omega, fun i hi => by rw [g2 i (by simp [S0]; omega) (by simp [c]; omega)]; exact List.getElem?_append_left hi⟩
    have hpb : pBlk f l = pBk f (l.length + 1) l := by
      match l, he with
      | [], he => simp at he
      | a :: l, he =>
        have ha : ¬ a = 125 := fun z => he (.inr (by simp [z]))
        simp [pBlk, ha]
    have hfuel : pBk f (ts.length + 1) l = pBk f (l.length + 1) l := pBk_fuel hf (by omega) (by omega)
    rw [hpb, ← hfuel]
    have fe : dS G C wf ((B_law_block_at rx).at 2) sd1 S0 = forL (gNm 3) (dSs G C wf (lbB rx)) ts sd1 S0 := by
      show dS G C wf (.for_ (.nm 3) (.rng1 (.cons (.bf .len (.cons (.v 0) .nil)) .nil)) (lbB rx)) sd1 S0 = _
      rw [q_sfor, q_mFor, it]
      simp only []
      rw [show (Src.vals ts).len = ts.length from rfl, forV, q_gnm]
    cases q : pBk f (ts.length + 1) l with
    | none =>
      rw [q] at g3
      obtain g3 | ⟨sd, g3⟩ := g3
      · exact absurd g3 hts
      · refine ⟨S2, ?_, pr⟩
        rw [stp0 rfl s0, stp rfl s1]
        show fnEnd (dSs G C wf (.cons ((B_law_block_at rx).at 2) ((B_law_block_at rx).fr 3)) sd1 S0) = _
        rw [q_scons, then_rt (fe.trans g3)]
        rfl
    | some br =>
      obtain ⟨b, r⟩ := br
      rw [q] at g3
      obtain g3 | ⟨g3, g4, g5⟩ := g3
      · exact absurd g3 hts
      · refine ⟨S2, ?_, pr⟩
        have tp : tupD S2 (.loc c) = some (.tup b.ds) := by
          unfold tupD asLF asL
          simp [g4]
        rw [stp0 rfl s0, stp rfl s1, stp rfl (fe.trans g5)]
        refine e_ret (s := (B_law_block_at rx).at 3) rfl (s_ret1 ?_)
        show dE G C (.tup (.cons (.bf .tup (.cons (.v 2) .nil)) (.cons (.v 1) .nil))) _ S2 = _
        simp [tp, lbD, g3]
def lrD (p : Cs) : Option (Blk × Cs) → D
  | some (b, _) => .tup [.tup b.ds, .int ((p.length : Int) + (b.tx.length : Int) + 3)]
  | none => .non
theorem lbr_ok (A : LrdA T rx) {f : RdS} {n m K : Nat} (hf : ∀ l s r, f l = some (s, r) → l = s.tx ++ r ∧ s.fits m = true) (H : LSt (run T G wf K) rx n f) {p l : Cs} {S : Sto} (hl : (p ++ l).length ≤ 1000000) (hx : mxb l + mxp l < n + 1) :
    ∃ S', run T G wf (K + 2) rx.law_braced_at [.str (sl (p ++ l)), .int (p.length : Int)] S = .ok (lrD p (pBr f l)) S' ∧ Pre S S' := by
  rw [run_succ (fn := ⟨2, 3, B_law_braced_at rx⟩) A.law_braced_at rfl]
  have c1 : slP S (.str (sl (p ++ l))) (some (p.length : Int)) (some ((p.length : Int) + 2)) = some (.str (sl (l.take 2))) := sl_sl (k := 2) (by omega)
  by_cases he : l.take 2 = [32, 123]
  · obtain ⟨l2, rfl⟩ : ∃ l2, l = 32 :: 123 :: l2 := by
      match l, he with
      | a :: b :: l, he =>
        simp at he
        obtain ⟨rfl, rfl⟩ := he
        exact ⟨l, rfl⟩
    have pe : p ++ 32 :: 123 :: l2 = (p ++ [32, 123]) ++ l2 := by simp
    have ne : ((p ++ [32, 123]).length : Int) = (p.length : Int) + 2 := by simp
    have hx2 : mxb l2 + mxp l2 < n := by
      have e1 : mxb (32 :: 123 :: l2) = mxb l2 + 1 := (mx_no (by decide) (by decide)).trans mxb_o
      have e2 : mxp (32 :: 123 :: l2) = mxp l2 := (mx_no (by decide) (by decide)).trans mxp_1
      omega
    obtain ⟨S1, e1, p1⟩ := lbk_ok A hf H (p := p ++ [32, 123]) (l := l2) (S := S) (by rw [← pe]; exact hl) hx2
    rw [← pe, ne] at e1
    have k2 : ("}" : Str) = sl [125] := l_bc
    cases q : pBlk f l2 with
    | none =>
      rw [q] at e1
      simp only [lbD] at e1
      have hp : pBr f (32 :: 123 :: l2) = none := by simp only [pBr, q]
      rw [hp]
      refine ⟨S1, ?_, p1⟩
      simp [B_law_braced_at, slots0, fnEnd, c1, eq_br, e1, isN_non', lrD]
    | some br =>
      obtain ⟨b, r⟩ := br
      rw [q] at e1
      simp only [lbD] at e1
      rw [ne] at e1
      obtain ⟨el, _⟩ := pBlk_sound hf q
      have p2 : p ++ 32 :: 123 :: l2 = (p ++ 32 :: 123 :: b.tx) ++ r := by rw [el]; simp
      have n2 : ((p ++ 32 :: 123 :: b.tx).length : Int) = (p.length : Int) + 2 + (b.tx.length : Int) := by simp; omega
      have c2 : ∀ S, slP S (.str (sl (p ++ 32 :: 123 :: l2))) (some ((p.length : Int) + 2 + (b.tx.length : Int))) (some ((p.length : Int) + 2 + (b.tx.length : Int) + 1)) = some (.str (sl (r.take 1))) := fun S => by
        have := sl_sl (p := p ++ 32 :: 123 :: b.tx) (l := r) (S := S) (k := 1) (by rw [← p2]; omega)
        rw [← p2, n2] at this
        simpa using this
      refine ⟨S1, ?_, p1⟩
      cases r with
      | nil =>
        have hp : pBr f (32 :: 123 :: l2) = none := by simp only [pBr, q]
        rw [hp]
        simp [B_law_braced_at, slots0, fnEnd, c1, eq_br, eq_bc, e1, isN_tup, PE.ix0, PE.ix1, c2, lrD]
      | cons e r =>
        by_cases hz : e = 125
        · subst hz
          have hp : pBr f (32 :: 123 :: l2) = some (b, r) := by simp only [pBr, q]
          rw [hp]
          simp [B_law_braced_at, slots0, fnEnd, c1, eq_br, eq_bc, e1, isN_tup, PE.ix0, PE.ix1, c2, lrD]
          omega
        · have this : pBr f (32 :: 123 :: l2) = none := by
            simp only [pBr, q]
            split
            · rename_i h; simp at h; exact absurd h.2.1 hz
            · rfl
          rw [this]
          simp [B_law_braced_at, slots0, fnEnd, c1, eq_br, eq_bc, e1, isN_tup, PE.ix0, PE.ix1, c2, lrD, hz]
  · have : pBr f l = none := by
      unfold pBr
      split
      · exact absurd rfl he
      · rfl
    rw [this]
    refine ⟨S, ?_, Pre.refl S⟩
    simp [B_law_braced_at, slots0, fnEnd, c1, eq_br, he, isN_non', lrD]
theorem lif_ok (A : LrdA T rx) {n K : Nat} (hK : n ≤ K) (H : LSt (run T G wf K) rx n (pSt n)) {p l : Cs} {S : Sto} (hl : (p ++ l).length ≤ 1000000) (hx : mxb l + mxp l < n + 1) :
    ∃ S', run T G wf (K + 3) rx.law_if_at [.str (sl (p ++ l)), .int (p.length : Int)] S = .ok (match pIf (n + 1) (pSt n) l with | some (s, _) => .tup [s.d, .int ((p.length : Int) + (s.tx.length : Int) - 3)] | none => .non) S' ∧ Pre S S' := by
  rw [run_succ (fn := ⟨2, 5, B_law_if_at rx⟩) A.law_if_at rfl]
  have e1 := ls_ok (G := G) (wf := wf) A n p l (K + 1 - n) S (by omega) hl
  rw [show K + 1 - n + n + 1 = K + 2 by omega] at e1
  cases q1 : pSum n l with
  | none =>
    rw [q1] at e1
    simp only [lsD] at e1
    have hp : pIf (n + 1) (pSt n) l = none := by simp [pIf, q1]
    rw [hp]
    exact ⟨S, by simp [B_law_if_at, slots0, fnEnd, e1, isN_non'], Pre.refl S⟩
  | some xr =>
    obtain ⟨x, r⟩ := xr
    rw [q1] at e1
    simp only [lsD] at e1
    obtain ⟨el, _, xd⟩ := pSum_sound q1
    have pe : p ++ l = (p ++ x.tx) ++ r := by rw [el]; simp
    have ne : ((p ++ x.tx).length : Int) = (p.length : Int) + (x.tx.length : Int) := by simp
    have hxr : mxb r + mxp r < n + 1 := by
      have h1 := fm_ge xd (r := r)
      have h2 := fm_mxb xd (r := r)
      rw [← el] at h1 h2
      omega
    obtain ⟨S2, e2, p2⟩ := lbr_ok A (fun l s r h => pSt_sound h) H (p := p ++ x.tx) (l := r) (S := S) (by rw [← pe]; exact hl) hxr
    rw [← pe, ne] at e2
    cases q2 : pBr (pSt n) r with
    | none =>
      rw [q2] at e2
      simp only [lrD] at e2
      have hp : pIf (n + 1) (pSt n) l = none := by simp [pIf, q1, q2]
      rw [hp]
      exact ⟨S2, by simp [B_law_if_at, slots0, fnEnd, e1, e2, isN_non', isN_tup, PE.ix1], p2⟩
    | some ar =>
      obtain ⟨a, ra⟩ := ar
      rw [q2] at e2
      simp only [lrD] at e2
      rw [ne] at e2
      obtain ⟨el2, af⟩ := pBr_sound (fun l s r h => pSt_sound h) q2
      have pe2 : p ++ l = (p ++ (x.tx ++ 32 :: 123 :: (a.tx ++ [125]))) ++ ra := by rw [el, el2]; simp
      have ne2 : ((p ++ (x.tx ++ 32 :: 123 :: (a.tx ++ [125]))).length : Int) = (p.length : Int) + (x.tx.length : Int) + (a.tx.length : Int) + 3 := by simp; omega
      have hxa : mxb ra + mxp ra < n + 1 := by
        have h1 := bl_geb a af (r := 125 :: ra)
        have h2 := bl_gep a af (r := 125 :: ra)
        rw [mxb_c] at h1
        rw [mxp_1] at h2
        have e1 : mxb r = mxb (a.tx ++ 125 :: ra) + 1 := by rw [el2]; exact (mx_no (by decide) (by decide)).trans mxb_o
        have e2 : mxp r = mxp (a.tx ++ 125 :: ra) := by rw [el2]; exact (mx_no (by decide) (by decide)).trans mxp_1
        omega
      obtain ⟨S3, e3, p3⟩ := lbr_ok A (fun l s r h => pSt_sound h) H (p := p ++ (x.tx ++ 32 :: 123 :: (a.tx ++ [125]))) (l := ra) (S := S2) (by rw [← pe2]; exact hl) hxa
      rw [← pe2, ne2] at e3
      cases q3 : pBr (pSt n) ra with
      | none =>
        rw [q3] at e3
        simp only [lrD] at e3
        have hp : pIf (n + 1) (pSt n) l = none := by simp [pIf, q1, q2, q3]
        rw [hp]
        exact ⟨S3, by simp [B_law_if_at, slots0, fnEnd, e1, e2, e3, isN_non', isN_tup, PE.ix1], p2.trans p3⟩
      | some br =>
        obtain ⟨b, rb⟩ := br
        rw [q3] at e3
        simp only [lrD] at e3
        rw [ne2] at e3
        have hp : pIf (n + 1) (pSt n) l = some (.iff x a b, rb) := by simp [pIf, q1, q2, q3]
        rw [hp]
        refine ⟨S3, ?_, p2.trans p3⟩
        simp [B_law_if_at, slots0, fnEnd, e1, e2, e3, isN_non', isN_tup, PE.ix0, PE.ix1, Stm.d, Stm.tx]
        omega
theorem lst_step (A : LrdA T rx) {n K : Nat} (hK : n ≤ K) (H : LSt (run T G wf K) rx n (pSt n)) : LSt (run T G wf (K + 4)) rx (n + 1) (pSt (n + 1)) := by
  intro p l S hl hx
  rw [run_succ (fn := ⟨2, 5, B_law_statement_at rx⟩) A.law_statement_at rfl]
  have c4 : slP S (.str (sl (p ++ l))) (some (p.length : Int)) (some ((p.length : Int) + 4)) = some (.str (sl (l.take 4))) := sl_sl (k := 4) (by omega)
  have c3 : slP S (.str (sl (p ++ l))) (some (p.length : Int)) (some ((p.length : Int) + 3)) = some (.str (sl (l.take 3))) := sl_sl (k := 3) (by omega)
  have c1 : slP S (.str (sl (p ++ l))) (some (p.length : Int)) (some ((p.length : Int) + 1)) = some (.str (sl (l.take 1))) := sl_sl (k := 1) (by omega)
  have d3 : slP S (.str (sl (p ++ l))) (some ((p.length : Int) + 3)) (some ((p.length : Int) + 4)) = some (.str (sl ((l.take 4).drop 3))) := sl_sl2 (i := 3) (j := 4) (by omega)
  have d4 : slP S (.str (sl (p ++ l))) (some ((p.length : Int) + 4)) (some ((p.length : Int) + 5)) = some (.str (sl ((l.take 5).drop 4))) := sl_sl2 (i := 4) (j := 5) (by omega)
  have d5 : slP S (.str (sl (p ++ l))) (some ((p.length : Int) + 5)) (some ((p.length : Int) + 6)) = some (.str (sl ((l.take 6).drop 5))) := sl_sl2 (i := 5) (j := 6) (by omega)
  have d100 : ∀ c, dg c = true → c ≠ 100 := fun c h z => by subst z; cases h
  by_cases h1 : l.take 4 = [115, 116, 111, 112]
  · obtain ⟨r, rfl⟩ := take4 h1
    have e : pSt (n + 1) (115 :: 116 :: 111 :: 112 :: r) = some (.stop, r) := rfl
    rw [e]
    exact ⟨S, by simp [B_law_statement_at, slots0, fnEnd, c4, eq_stop, ltD, Stm.d, Stm.tx], Pre.refl S⟩
  · by_cases h2 : l.take 3 = [105, 102, 32]
    · obtain ⟨r, rfl⟩ := take3 h2
      have pe : p ++ 105 :: 102 :: 32 :: r = (p ++ [105, 102, 32]) ++ r := by simp
      have ne : ((p ++ [105, 102, 32]).length : Int) = (p.length : Int) + 3 := by simp
      have hx2 : mxb r + mxp r < n + 1 := by
        have e1 := mxb_w [105, 102, 32] (r := r)
        have e2 := mxp_w [105, 102, 32] (r := r)
        simp only [List.cons_append, List.nil_append] at e1 e2
        omega
      obtain ⟨S1, e1, p1⟩ := lif_ok A hK H (p := p ++ [105, 102, 32]) (l := r) (S := S) (by rw [← pe]; exact hl) hx2
      rw [← pe, ne] at e1
      have e : pSt (n + 1) (105 :: 102 :: 32 :: r) = pIf (n + 1) (pSt n) r := rfl
      rw [e]
      refine ⟨S1, ?_, p1⟩
      cases q : pIf (n + 1) (pSt n) r with
      | none =>
        rw [q] at e1
        simp only [] at e1
        simp [B_law_statement_at, slots0, fnEnd, c4, c3, eq_stop, eq_if, h1, e1, ltD]
      | some sr =>
        obtain ⟨s, r2⟩ := sr
        rw [q] at e1
        simp only [] at e1
        rw [show (p.length : Int) + 3 + (s.tx.length : Int) - 3 = (p.length : Int) + (s.tx.length : Int) by omega] at e1
        simp [B_law_statement_at, slots0, fnEnd, c4, c3, eq_stop, eq_if, h1, e1, ltD]
    · by_cases h3 : l.take 3 = [100, 111, 32]
      · obtain ⟨r, rfl⟩ := take3 h3
        have e : pSt (n + 1) (100 :: 111 :: 32 :: r) = pDo r := rfl
        rw [e]
        simp only [List.take_succ_cons, List.drop_succ_cons, List.drop_zero] at d3
        refine ⟨S, ?_, Pre.refl S⟩
        cases r with
        | nil => simp [B_law_statement_at, slots0, fnEnd, c4, c3, c1, d3, eq_stop, eq_if, eq_d, eq_e, h1, gTp, gsCons, tgsLen, dGs, dG, gNm, gsNil, pDo, ltD]
        | cons d r =>
          simp only [List.take_succ_cons, List.take_zero] at d3
          cases hd : dg d with
          | true => simp [B_law_statement_at, slots0, fnEnd, c4, c3, c1, d3, eq_stop, eq_if, eq_d, eq_e, eq_do, h1, gTp, gsCons, tgsLen, dGs, dG, gNm, gsNil, notin_dig, int_dig hd, hd, pDo, ltD, Stm.d, Stm.tx]
          | false => simp [B_law_statement_at, slots0, fnEnd, c4, c3, c1, d3, eq_stop, eq_if, eq_d, eq_e, eq_do, h1, gTp, gsCons, tgsLen, dGs, dG, gNm, gsNil, notin_dig, hd, pDo, ltD]
      · rw [pSt_else h1 h2 h3]
        by_cases h0 : l.take 1 = [100]
        · have hp : pSet (n + 1) l = none := by
            unfold pSet
            split
            · simp at h0
            · rfl
          rw [hp]
          refine ⟨S, ?_, Pre.refl S⟩
          cases hq : (l.take 4).drop 3 with
          | nil =>
            rw [hq] at d3
            simp [B_law_statement_at, slots0, fnEnd, c4, c3, c1, d3, eq_stop, eq_if, eq_d, eq_e, h0, h1, h2, gTp, gsCons, tgsLen, dGs, dG, gNm, gsNil, ltD]
          | cons d q =>
            have q0 : q = [] := by
              have := congrArg List.length hq
              simp at this
              cases q with
              | nil => rfl
              | cons _ _ => simp at this; omega
            subst q0
            rw [hq] at d3
            have h3e : l.take 3 ≠ [] := fun z => by cases l <;> simp at z h0
            cases hd : dg d with
            | true => simp [B_law_statement_at, slots0, fnEnd, c4, c3, c1, d3, eq_stop, eq_if, eq_d, eq_e, eq_do, h0, h1, h2, h3, h3e, gTp, gsCons, tgsLen, dGs, dG, gNm, gsNil, notin_dig, hd, ltD]
            | false => simp [B_law_statement_at, slots0, fnEnd, c4, c3, c1, d3, eq_stop, eq_if, eq_d, eq_e, h0, h1, h2, gTp, gsCons, tgsLen, dGs, dG, gNm, gsNil, notin_dig, hd, ltD]
        · by_cases h4 : ∃ d r, l = 115 :: 101 :: 116 :: 32 :: d :: 32 :: r ∧ dg d = true
          · obtain ⟨d, r2, rfl, hd⟩ := h4
            have pe : p ++ 115 :: 101 :: 116 :: 32 :: d :: 32 :: r2 = (p ++ [115, 101, 116, 32, d, 32]) ++ r2 := by simp
            have ne : ((p ++ [115, 101, 116, 32, d, 32]).length : Int) = (p.length : Int) + 6 := by simp
            have hd4 := dg_of hd
            have hx2 : mxp r2 ≤ n := by
              have e2 := mxp_w [115, 101, 116, 32, d, 32] (r := r2) (by intro c hc; simp at hc; omega)
              simp only [List.cons_append, List.nil_append] at e2
              omega
            have e1 := ls_ok (G := G) (wf := wf) A n (p ++ [115, 101, 116, 32, d, 32]) r2 (K + 2 - n) S hx2 (by rw [← pe]; exact hl)
            rw [← pe, ne, show K + 2 - n + n + 1 = K + 3 by omega] at e1
            have hp : pSet (n + 1) (115 :: 101 :: 116 :: 32 :: d :: 32 :: r2) = (match pSum n r2 with | some (x, r) => some (.set (d - 48) x, r) | none => none) := by
              show (if dg d = true then _ else none) = _
              refine (if_pos hd).trans ?_
              show (match pSum n r2 with | some (x, r) => some (Stm.set (d - 48) x, r) | none => none) = _
              cases pSum n r2 <;> rfl
            rw [hp]
            refine ⟨S, ?_, Pre.refl S⟩
            simp only [List.take_succ_cons, List.drop_succ_cons, List.drop_zero, List.take_zero] at d4 d5
            cases q : pSum n r2 with
            | none =>
              rw [q] at e1
              simp only [lsD] at e1
              simp [B_law_statement_at, slots0, fnEnd, c4, c3, c1, d4, d5, eq_stop, eq_if, eq_d, eq_e, e_do, eq_do, eq_set, eq_sp, gTp, gsCons, tgsLen, dGs, dG, gNm, gsNil, notin_dig, hd, e1, isN_non', ltD]
            | some xr =>
              obtain ⟨x, r3⟩ := xr
              rw [q] at e1
              simp only [lsD] at e1
              rw [ne] at e1
              simp [B_law_statement_at, slots0, fnEnd, c4, c3, c1, d4, d5, eq_stop, eq_if, eq_d, eq_e, e_do, eq_do, eq_set, eq_sp, gTp, gsCons, tgsLen, dGs, dG, gNm, gsNil, notin_dig, int_dig hd, hd, e1, isN_tup, PE.ix0, PE.ix1, ltD, Stm.d, Stm.tx]
              try omega
          · have hp : pSet (n + 1) l = none := by
              unfold pSet
              split
              · rename_i d l2
                cases hd : dg d with
                | true => exact absurd ⟨d, l2, rfl, hd⟩ h4
                | false => rfl
              · rfl
            rw [hp]
            refine ⟨S, ?_, Pre.refl S⟩
            cases hq : (l.take 5).drop 4 with
            | nil =>
              rw [hq] at d4
              simp [B_law_statement_at, slots0, fnEnd, c4, c3, c1, d4, eq_stop, eq_if, eq_d, eq_e, h0, h1, h2, gTp, gsCons, tgsLen, dGs, dG, gNm, gsNil, ltD]
            | cons d q =>
              have q0 : q = [] := by
                have := congrArg List.length hq
                simp at this
                cases q with
                | nil => rfl
                | cons _ _ => simp at this; omega
              subst q0
              rw [hq] at d4
              cases hd : dg d with
              | false => simp [B_law_statement_at, slots0, fnEnd, c4, c3, c1, d4, eq_stop, eq_if, eq_d, eq_e, h0, h1, h2, gTp, gsCons, tgsLen, dGs, dG, gNm, gsNil, notin_dig, hd, ltD]
              | true =>
                by_cases h5 : l.take 4 = [115, 101, 116, 32]
                · obtain ⟨r, rfl⟩ := take4 h5
                  have h6 : ¬ (List.take 6 (115 :: 101 :: 116 :: 32 :: r)).drop 5 = [32] := fun z => by
                    match r, hq, z with
                    | a :: b :: r, hq, z =>
                      simp at hq z
                      subst hq; subst z
                      exact h4 ⟨_, _, rfl, hd⟩
                    | [], hq, z => simp at hq
                    | [a], hq, z => simp at z
                  simp only [List.take_succ_cons, List.drop_succ_cons, List.drop_zero] at h6 d5
                  generalize List.drop 1 (List.take 2 r) = zz at h6 d5
                  simp [B_law_statement_at, slots0, fnEnd, c4, c3, c1, d4, d5, eq_stop, eq_if, eq_d, eq_e, e_do, eq_do, eq_set, eq_sp, h6, gTp, gsCons, tgsLen, dGs, dG, gNm, gsNil, notin_dig, hd, ltD]
                · simp [B_law_statement_at, slots0, fnEnd, c4, c3, c1, d4, eq_stop, eq_if, eq_d, eq_e, e_do, eq_do, eq_set, h0, h1, h2, h5, gTp, gsCons, tgsLen, dGs, dG, gNm, gsNil, notin_dig, hd, ltD]
/-- the law's reading of statements -/
theorem lrd_ok (A : LrdA T rx) : ∀ (n k : Nat), LSt (run T G wf (k + 4 * n)) rx n (pSt n)
  | 0, k => fun p l S hl hx => by omega
  | n + 1, k => by
    have := lst_step (K := k + 4 * n) A (by omega) (lrd_ok A n k)
    rw [show k + 4 * (n + 1) = k + 4 * n + 4 by omega]
    exact this
end
end Z

/-! Lines, words, whole texts: plain; split and join. -/
namespace Z
open PySem PySem.Spec PyProof.Rows L2
/-- a text cut at a sign -/
def sp1 (s : Nat) : Cs → List Cs
  | [] => [[]]
  | c :: l => if c = s then [] :: sp1 s l else match sp1 s l with
    | [] => [[c]]
    | p :: ps => (c :: p) :: ps
theorem sp1_ne (s : Nat) (l : Cs) : sp1 s l ≠ [] := by
  cases l with
  | nil => simp [sp1]
  | cons c l =>
    unfold sp1
    split
    · simp
    · split <;> simp
theorem sp1_no (s : Nat) : ∀ (l : Cs), ∀ p ∈ sp1 s l, s ∉ p
  | [], p, h => by simp [sp1] at h; subst h; simp
  | c :: l, p, h => by
    unfold sp1 at h
    have ih := sp1_no s l
    split at h
    · rcases List.mem_cons.mp h with rfl | h
      · simp
      · exact ih p h
    · rename_i hc
      split at h
      · simp at h; subst h; simpa using fun e => hc e.symm
      · rename_i q qs e
        rcases List.mem_cons.mp h with rfl | h
        · have := ih q (by rw [e]; simp)
          simp only [List.mem_cons, not_or]
          exact ⟨fun z => hc z.symm, this⟩
        · exact ih p (by rw [e]; simp [h])
theorem sp1_join (s : Nat) : ∀ l : Cs, TL.joinL [s] (sp1 s l) = l
  | [] => rfl
  | c :: l => by
    have ih := sp1_join s l
    unfold sp1
    split
    · rename_i hc
      subst hc
      cases e : sp1 c l with
      | nil => exact absurd e (sp1_ne c l)
      | cons q qs => rw [e] at ih; show [] ++ ([c] ++ TL.joinL [c] (q :: qs)) = _; rw [ih]; rfl
    · split
      · rename_i e; exact absurd e (sp1_ne s l)
      · rename_i q qs e
        rw [e] at ih
        cases qs with
        | nil => show c :: q = _; rw [show q = l from ih]
        | cons r rs => show (c :: q) ++ ([s] ++ TL.joinL [s] (r :: rs)) = _; rw [← ih]; rfl
theorem sp1_one {s : Nat} : ∀ {p : Cs}, s ∉ p → sp1 s p = [p]
  | [], _ => rfl
  | c :: p, h => by
    have hc : ¬ c = s := fun z => h (by simp [z])
    have := sp1_one (s := s) (p := p) fun z => h (by simp [z])
    simp [sp1, hc, this]
theorem sp1_app {s : Nat} : ∀ {p l : Cs}, s ∉ p → sp1 s (p ++ s :: l) = p :: sp1 s l
  | [], l, _ => by simp [sp1]
  | c :: p, l, h => by
    have hc : ¬ c = s := fun z => h (by simp [z])
    have := sp1_app (s := s) (p := p) (l := l) fun z => h (by simp [z])
    simp only [List.cons_append, sp1, hc, ↓reduceIte, this]
theorem split_sl {s : Nat} (hs : s < 256) (l : Cs) : Txt.split (sl l) (sl [s]) = (sp1 s l).map sl := by
  have h := TL.split_join (y := sl [s]) (s := s) (S := []) rfl (by simp [sl, hs]) (parts := (sp1 s l).map sl) (by simpa using sp1_ne s l) (fun p hp => by
    obtain ⟨q, hq, rfl⟩ := List.mem_map.mp hp
    exact sp1_no s l q hq)
  have e : Txt.join (sl [s]) ((sp1 s l).map sl) = sl l := by
    apply TL.ext_tl
    rw [TL.join_eq, TL.tl_join, List.map_map]
    have : (TL.tl ∘ sl) = id := by funext x; simp [sl, TL.tl]
    rw [this, List.map_id]
    exact sp1_join s l
  rw [e] at h
  exact h
theorem join_sl {a : Cs} (ps : List Cs) : Txt.join (sl a) (ps.map sl) = sl (TL.joinL a ps) := by
  apply TL.ext_tl
  rw [TL.join_eq, TL.tl_join, List.map_map]
  have : (TL.tl ∘ sl) = id := by funext x; simp [sl, TL.tl]
  rw [this, List.map_id]
  simp [sl, TL.tl]
theorem split_d {S : Sto} {s : Nat} (hs : s < 256) {l : Cs} (hl : l.length ≤ 1000000) : splitD S (.str (sl l)) (.str (sl [s])) = some (.lst ((sp1 s l).map fun p => D.str (sl p))) := by
  show (if (((sl [s]).length == 0) = false ∧ (sl l).length + 2 ≤ 16777216) then some (D.lst ((Txt.split (sl l) (sl [s])).map .str)) else none) = _
  rw [if_pos ⟨by rw [sl_len]; rfl, by rw [sl_len]; omega⟩, split_sl hs, List.map_map]
  rfl
theorem strs_sl (ps : List Cs) : strsOf (ps.map fun p => D.str (sl p)) = some (ps.map sl) := by
  induction ps with
  | nil => rfl
  | cons p ps ih => rw [List.map_cons, strsOf, ih]; rfl
theorem join_d {S : Sto} {a : Cs} {ps : List Cs} (h : (ps.map List.length).sum + ps.length * a.length ≤ 16777216) : joinD S (.str (sl a)) (.lst (ps.map fun p => D.str (sl p))) = some (.str (sl (TL.joinL a ps))) := by
  have e : asQ S (.lst (ps.map fun p => D.str (sl p))) = some (ps.map fun p => D.str (sl p)) := rfl
  unfold joinD
  simp only [e, strs_sl]
  rw [if_pos (by
    simp only [List.map_map, List.length_map, sl_len]
    have : (Str.length ∘ sl) = List.length := by funext x; exact sl_len x
    rw [this]; exact h), join_sl]
theorem starts_sl {a b : Cs} : Txt.startswith (sl a) (sl b) = decide (a.take b.length = b) := by
  unfold Txt.startswith
  rw [StrLaws.subAt_eq, sl_len, sl_len]
  show (decide (0 + b.length ≤ a.length) && ((a.drop 0).take b.length == b)) = _
  rw [List.drop_zero]
  by_cases h : a.take b.length = b
  · have : b.length ≤ a.length := by
      have := congrArg List.length h
      rw [List.length_take] at this; omega
    rw [decide_eq_true h, decide_eq_true (by omega)]
    simp [h]
  · rw [decide_eq_false h]
    simp [h]
/-! ### whole texts -/
def wLetters : Cs := [108, 101, 116, 116, 101, 114, 115]
def wWorks : Cs := [119, 111, 114, 107, 115]
def wCells : Cs := [99, 101, 108, 108, 115]
def wBody : Cs := [98, 111, 100, 121]
def wTail : Cs := [116, 97, 105, 108]
def one1 (w : Cs) : Bool := match w with
  | [c] => dg c
  | _ => false
def num1 (w : Cs) : Nat := match w with
  | [c] => c - 48
  | _ => 0
def pNums (w line : Cs) : List Nat := match sp1 32 line with
  | [] => []
  | h :: ws => if h = w ∧ ws.all one1 = true then ws.map num1 else []
def pLine (w line : Cs) : Option Blk := if line = w then some .nil else if line.take (w.length + 1) = w ++ [32] ∧ line.length ≠ w.length + 1 then (match pBlk (pSt 12) (line.drop (w.length + 1)) with
    | some (b, []) => some b
    | _ => none) else none
def pProg (t : Cs) : Option Prog := match sp1 10 t with
  | [a, b, c, d, e] => (match pNums wLetters a, pNums wWorks b with
    | [k, s], [w] => (match pLine wBody d, pLine wTail e with
      | some x, some y => some ⟨k, s, w, pNums wCells c, x, y⟩
      | _, _ => none)
    | _, _ => none)
  | _ => none
end Z

/-! Lines and numbers read: the defs. -/
namespace Z
open PySem PySem.Spec PyProof.Rows L2
def digW (ws : List Cs) : List D := ws.map fun w => D.int ((num1 w : Nat) : Int)
section
variable {T : List Fn} {G : Ev} {wf : Nat} {tx : Tx}
theorem nt_ok (A : RdA T G tx) {k : Nat} {S : Sto} : run T G wf (k + 1) tx.need_text [.bl true] S = .ok .non S := by
  rw [run_succ (fn := ⟨1, 1, B_need_text tx⟩) A.need_text rfl]
  simp [B_need_text, slots0, fnEnd]
theorem nt_no (A : RdA T G tx) {k : Nat} {S : Sto} : run T G wf (k + 1) tx.need_text [.bl false] S = .exc tx.eBadText none S := by
  rw [run_succ (fn := ⟨1, 1, B_need_text tx⟩) A.need_text rfl]
  simp [B_need_text, slots0, fnEnd]
theorem ex_ok {C : Nat → List D → Sto → Out D} {e : E} {sd : Sl} {S S1 : Sto} {d : D} (h : dE G C e sd S = .ok d S1) : dS G C wf (.ex e) sd S = .ok .nx sd S1 := by
  rw [q_sex, q_mExpr, h]
theorem ex_no {C : Nat → List D → Sto → Out D} {e : E} {sd : Sl} {S S1 : Sto} {c : Nat} {fs : XF} (h : dE G C e sd S = .exc c fs S1) : dS G C wf (.ex e) sd S = .exc c fs sd S1 := by
  rw [q_sex, q_mExpr, h]
theorem notin_one {S : Sto} {w : Cs} (h : ¬ w.length = 1 → False) : notInD S (.str (sl w)) (.str "0123456789") = some (.bl (!one1 w)) := by
  match w, h with
  | [c], _ => exact notin_dig
  | [], h => exact (h (by simp)).elim
  | _ :: _ :: _, h => exact (h (by simp)).elim
theorem nums_ok (A : PpA T G tx) {k : Nat} {S : Sto} {line w : Cs} (hl : line.length ≤ 1000000) : run T G wf (k + 1) tx.read_numbers [.str (sl line), .str (sl w)] S = .ok (.tup ((pNums w line).map fun (n : Nat) => D.int n)) S := by
  rw [run_succ (fn := ⟨2, 4, B_read_numbers tx⟩) A.read_numbers rfl]
  have hsp : ∀ S, splitD S (.str (sl line)) (.str " ") = some (.lst ((sp1 32 line).map fun p => D.str (sl p))) := fun S => by rw [l_sp]; exact split_d (by decide) hl
  have hln : (sp1 32 line).length ≤ 2000000 := by
    have : ∀ l : Cs, (sp1 32 l).length ≤ l.length + 1 := fun l => by
      induction l with
      | nil => simp [sp1]
      | cons c l ih =>
        unfold sp1
        split
        · simp; exact ih
        · split
          · simp
          · rename_i e; rw [e] at ih; simp at ih ⊢; omega
    have := this line
    omega
  unfold pNums
  cases e : sp1 32 line with
  | nil => exact absurd e (sp1_ne 32 line)
  | cons h ws =>
    rw [e] at hsp hln
    simp only [List.map_cons] at hsp
    have i0 : ∀ S, ixP S (.lst (D.str (sl h) :: ws.map fun p => D.str (sl p))) (.int 0) = some (.str (sl h)) := fun S => ixL0
    let sd : Sl := [some (.str (sl line)), some (.str (sl w)), some (.lst (D.str (sl h) :: ws.map fun p => D.str (sl p))), none]
    have s0 : dS G (run T G wf k) wf ((B_read_numbers tx).at 0) (slots0 4 [.str (sl line), .str (sl w)]) S = .ok .nx sd S := by
      simp [B_read_numbers, Ss.at, slots0, hsp, sd]
    have c1 : ∀ S, slP S (.lst (D.str (sl h) :: ws.map fun p => D.str (sl p))) (some 1) none = some (.lst (ws.map fun p => D.str (sl p))) := fun S => by
      show some (D.lst (cutG (D.str (sl h) :: ws.map fun p => D.str (sl p)) (some 1) none)) = _
      congr 2
      unfold cutG
      simp [HT.sIx]
      exact List.take_of_length_le (by simp)
    have lz : ∀ (S : Sto) (w : Cs), w.length ≤ 1000000 → lenD S (.str (sl w)) = some (.int (w.length : Int)) := fun S w h => by
      unfold lenD lenP
      simp only [sl_len]
      rw [if_pos (by omega)]; rfl
    have wl : ∀ x ∈ ws, x.length ≤ 1000000 := by
      have : ∀ l : Cs, ∀ x ∈ sp1 32 l, x.length ≤ l.length := fun l => by
        induction l with
        | nil => intro x hx; simp [sp1] at hx; subst hx; simp
        | cons c l ih =>
          intro x hx
          unfold sp1 at hx
          split at hx
          · rcases List.mem_cons.mp hx with rfl | hx
            · simp
            · have := ih x hx; simp; omega
          · split at hx
            · simp at hx; subst hx; simp
            · rename_i q qs e2
              rcases List.mem_cons.mp hx with rfl | hx
              · have := ih q (by rw [e2]; simp); simp; exact this
              · have := ih x (by rw [e2]; simp [hx]); simp; omega
      intro x hx
      have := this line x (by rw [e]; simp [hx])
      omega
    let sd2 : Cs → Sl := fun x => [some (.str (sl line)), some (.str (sl w)), some (.lst (D.str (sl h) :: ws.map fun p => D.str (sl p))), some (.str (sl x))]
    have itE : dI G (run T G wf k) (.seq (.sl (.v 2) (.some (.c (.int 1))) .none)) sd S = .ok (.vals (ws.map fun p => D.str (sl p))) S := by
      simp [sd, c1, srcOf]
    have lcC : dE G (run T G wf k) (.lc false (.nm 3) (.seq (.sl (.v 2) (.some (.c (.int 1))) .none)) (.some (.bo .Or (.cons (.cmp .NotEq (.bf .len (.cons (.v 3) .nil)) (.c (.int 1))) (.cons (.cmp .NotIn (.v 3) (.g tx.gDIGITS)) .nil)))) (.v 3) [("one", 3)]) sd S = .ok (.lst (((ws.map fun p => D.str (sl p)).filter fun d => match d with | .str x => !one1 x.cps.toList | _ => false).map id)) S := by
      refine lcP _ _ itE (by simp at hln ⊢; omega) fun d hd => ?_
      obtain ⟨x, hx, rfl⟩ := List.mem_map.mp hd
      have hx1 := wl x hx
      show dC G (run T G wf k) _ (sd2 x) S = Out.ok (!one1 x) S ∧ (_ → dE G (run T G wf k) (.v 3) (sd2 x) S = _)
      refine ⟨?_, fun _ => by simp [sd2]⟩
      by_cases h1 : x.length = 1
      · have h1' : (x.length : Int) = 1 := by omega
        simp [sd2, lz S x hx1, h1', A.gDIGITS, notin_one (S := S) (w := x) (fun z => z h1)]
      · have h1' : ¬ (x.length : Int) = 1 := by omega
        have ho : one1 x = false := by
          match x, h1 with
          | [], _ => rfl
          | [c], h1 => exact absurd rfl h1
          | _ :: _ :: _, _ => rfl
        simp [sd2, lz S x hx1, h1', ho]
    have fe : (((ws.map fun p => D.str (sl p)).filter fun d => match d with | .str x => !one1 x.cps.toList | _ => false).map id).isEmpty = ws.all one1 := by
      rw [List.map_id, List.filter_map, List.isEmpty_map]
      have : ((fun d => match d with | .str x => !one1 x.cps.toList | _ => false) ∘ fun p => D.str (sl p)) = fun p => !one1 p := by funext p; simp [sl]
      rw [this]
      exact PE.filt_all
    rw [stp0 (b := B_read_numbers tx) rfl s0]
    show _ = Out.ok (D.tup ((if h = w ∧ ws.all one1 = true then ws.map num1 else []).map fun (n : Nat) => D.int n)) S
    generalize hq : (((ws.map fun p => D.str (sl p)).filter fun d => match d with | .str x => !one1 x.cps.toList | _ => false).map id) = fl at *
    have ce : dE G (run T G wf k) (.lst false .nil) sd S = .ok (.lst []) S := by simp
    have ie : dE G (run T G wf k) (.ix (.v 2) (.c (.int 0))) sd S = .ok (.str (sl h)) S := by simp [sd, i0]
    have ve : dE G (run T G wf k) (.v 1) sd S = .ok (.str (sl w)) S := by simp [sd]
    have re : dSs G (run T G wf k) wf (.cons (.ret (.tup .nil)) .nil) sd S = .ok (.rt (.tup [])) sd S := by simp
    by_cases hh : h = w
    · have t1 : dT G (run T G wf k) (.cmp .NotEq (.ix (.v 2) (.c (.int 0))) (.v 1)) sd S = .ok false S := t_cmp ie ve (by subst hh; simp)
      have t2 : dT G (run T G wf k) (.cmp .NotEq (.lc false (.nm 3) (.seq (.sl (.v 2) (.some (.c (.int 1))) .none)) (.some (.bo .Or (.cons (.cmp .NotEq (.bf .len (.cons (.v 3) .nil)) (.c (.int 1))) (.cons (.cmp .NotIn (.v 3) (.g tx.gDIGITS)) .nil)))) (.v 3) [("one", 3)]) (.lst false .nil)) sd S = .ok (!ws.all one1) S := t_cmp lcC ce (by rw [← fe]; exact neL0')
      cases ha : ws.all one1 with
      | true =>
        rw [ha] at t2
        have lcI : dE G (run T G wf k) (.lc false (.nm 3) (.seq (.sl (.v 2) (.some (.c (.int 1))) .none)) .none (.bf .int (.cons (.v 3) .nil)) [("one", 3)]) sd S = .ok (.lst (((ws.map fun p => D.str (sl p)).filter fun _ => true).map fun d => match d with | .str x => .int ((num1 x.cps.toList : Nat) : Int) | _ => .non)) S := by
          refine lcP _ _ itE (by simp at hln ⊢; omega) fun d hd => ?_
          obtain ⟨x, hx, rfl⟩ := List.mem_map.mp hd
          have h1 := List.all_eq_true.mp ha x hx
          match x, h1 with
          | [c], h1 =>
            have := int_dig (S := S) (show dg c = true from h1)
            refine ⟨rfl, fun _ => ?_⟩
            show dE G (run T G wf k) _ (sd2 [c]) S = Out.ok (.int ((c - 48 : Nat) : Int)) S
            exact e_bf1 (x := .str (sl [c])) (by simp [sd2]) this
        have e3 : (((ws.map fun p => D.str (sl p)).filter fun _ => true).map fun d => match d with | .str x => .int ((num1 x.cps.toList : Nat) : Int) | _ => D.non) = (ws.map num1).map fun (n : Nat) => D.int n := by
          rw [List.filter_eq_self.mpr (by simp), List.map_map, List.map_map]
          rfl
        rw [e3] at lcI
        rw [if_pos ⟨hh, rfl⟩]
        have s1 : dS G (run T G wf k) wf ((B_read_numbers tx).at 1) sd S = .ok .nx sd S := (s_iteF (by rw [t_orF t1]; exact t2)).trans rfl
        rw [stp rfl s1]
        exact e_ret rfl (s_ret1 (e_bf1 lcI rfl))
      | false =>
        rw [ha] at t2
        rw [if_neg (by simp)]
        exact e_ret (s := (B_read_numbers tx).at 1) rfl ((s_iteT (by rw [t_orF t1]; exact t2)).trans re)
    · rw [if_neg (by simp [hh])]
      have hn : (sl h = sl w) = False := by rw [sl_inj]; simp [hh]
      have t1 : dT G (run T G wf k) (.cmp .NotEq (.ix (.v 2) (.c (.int 0))) (.v 1)) sd S = .ok true S := t_cmp ie ve (by simp [hn])
      exact e_ret (s := (B_read_numbers tx).at 1) rfl ((s_iteT (t_orT t1)).trans re)
end
end Z

/-! Lines and programs read: the defs. -/
namespace Z
open PySem PySem.Spec PyProof.Rows L2
def optB : Option Blk → D
  | some b => .tup b.ds
  | none => .non
theorem len_sl {S : Sto} {w : Cs} (h : w.length ≤ 1000000) : lenD S (.str (sl w)) = some (.int (w.length : Int)) := by
  unfold lenD lenP
  simp only [sl_len]
  rw [if_pos (by omega)]; rfl
theorem add_sl {S : Sto} {a b : Cs} (h : a.length + b.length ≤ 16777216) : addP S (.str (sl a)) (.str (sl b)) = some (.str (sl (a ++ b))) := by
  show (if (sl a).length + (sl b).length ≤ 16777216 then some (D.str (sl a ++ sl b)) else none) = _
  rw [if_pos (by rw [sl_len, sl_len]; exact h), sl_app]
/-! ### what is read is no bigger than its text -/
theorem okd_fm {S : Sto} {B : Nat} (hB : 4 ≤ B) : ∀ f : Fm, PE.okD S B f.d = true
  | .num _ => by simp [Fm.d, PE.okD]
  | .known => by simp [Fm.d, PE.okD]
  | .secret => by simp [Fm.d, PE.okD]
  | .cell _ => by simp [Fm.d, PE.okD, PE.okDs]; omega
  | .op _ a b => by simp [Fm.d, PE.okD, PE.okDs, okd_fm hB a, okd_fm hB b]; omega
theorem Blk.ds_len : ∀ b : Blk, b.ds.length = b.n
  | .nil => rfl
  | .cons _ b => by simp [Blk.ds, Blk.n, Blk.ds_len b]
mutual
theorem okd_st {S : Sto} {B : Nat} (hB : 4 ≤ B) : ∀ s : Stm, s.tx.length ≤ B → PE.okD S B s.d = true
  | .do_ _, _ => by simp [Stm.d, PE.okD, PE.okDs]; omega
  | .set _ x, _ => by simp [Stm.d, PE.okD, PE.okDs, okd_fm hB x]; omega
  | .stop, _ => by simp [Stm.d, PE.okD, PE.okDs]; omega
  | .iff x a b, h => by
    simp only [Stm.tx, List.length_append, List.length_cons, List.length_nil] at h
    have h1 := okd_bl (S := S) hB a (by omega)
    have h2 := okd_bl (S := S) hB b (by omega)
    simp [Stm.d, PE.okD, PE.okDs, okd_fm hB x] at h1 h2 ⊢
    exact ⟨by omega, h1, h2⟩
theorem okd_bl {S : Sto} {B : Nat} (hB : 4 ≤ B) : ∀ b : Blk, b.tx.length ≤ B → PE.okD S B (.tup b.ds) = true
  | b, h => by
    have hn := b.n_le
    have := okd_bs (S := S) hB b h
    rw [PE.okD, this, Bool.and_true, decide_eq_true_eq, b.ds_len]
    omega
theorem okd_bs {S : Sto} {B : Nat} (hB : 4 ≤ B) : ∀ b : Blk, b.tx.length ≤ B → PE.okDs S B b.ds = true
  | .nil, _ => by simp [Blk.ds, PE.okDs]
  | .cons s .nil, h => by
    rw [Blk.tx_one] at h
    simp [Blk.ds, PE.okDs, okd_st (S := S) hB s h]
  | .cons s (.cons s2 b), h => by
    rw [Blk.tx_cons _ _ (by simp)] at h
    simp only [List.length_append, List.length_cons] at h
    have h1 := okd_st (S := S) hB s (by omega)
    have h2 := okd_bs (S := S) hB (.cons s2 b) (by omega)
    rw [Blk.ds, PE.okDs, h1, h2]; rfl
end
section
variable {T : List Fn} {G : Ev} {wf : Nat} {tx : Tx}
theorem ln_ok (A : PpA T G tx) {k : Nat} {S : Sto} {line w : Cs} (hl : line.length ≤ 1000000) (hw : w.length ≤ 1000) : ∃ S', run T G wf (k + 54) tx.read_line [.str (sl line), .str (sl w)] S = .ok (optB (pLine w line)) S' ∧ Pre S S' := by
  rw [run_succ (fn := ⟨2, 4, B_read_line tx⟩) A.read_line rfl]
  let sd : Sl := [some (.str (sl line)), some (.str (sl w)), none, none]
  show ∃ S', fnEnd (dSs G (run T G wf (k + 53)) wf (B_read_line tx) sd S) = _ ∧ _
  have v0 : ∀ S, dE G (run T G wf (k + 53)) (.v 0) sd S = .ok (.str (sl line)) S := fun S => by simp [sd]
  have v1 : ∀ S, dE G (run T G wf (k + 53)) (.v 1) sd S = .ok (.str (sl w)) S := fun S => by simp [sd]
  unfold pLine
  by_cases h1 : line = w
  · subst h1
    rw [if_pos rfl]
    refine ⟨S, e_ret (s := (B_read_line tx).at 0) rfl ((s_iteT (t_cmp (v0 S) (v1 S) (by simp))).trans ?_), Pre.refl S⟩
    simp [optB, Blk.ds]
  · rw [if_neg h1]
    have s0 : dS G (run T G wf (k + 53)) wf ((B_read_line tx).at 0) sd S = .ok .nx sd S := (s_iteF (t_cmp (v0 S) (v1 S) (by simp [sl_inj, h1]))).trans rfl
    have wl : dE G (run T G wf (k + 53)) (.op .Add (.bf .len (.cons (.v 1) .nil)) (.c (.int 1))) sd S = .ok (.int ((w.length : Int) + 1)) S := by simp [sd, len_sl (S := S) (w := w) (by omega)]
    have ll : ∀ S, dE G (run T G wf (k + 53)) (.bf .len (.cons (.v 0) .nil)) sd S = .ok (.int (line.length : Int)) S := fun S => by simp [sd, len_sl (S := S) hl]
    have st : dT G (run T G wf (k + 53)) (.not (.tru (.sm .startswith (.v 0) (.op .Add (.v 1) (.c (.str " ")))))) sd S = .ok (!decide (line.take (w.length + 1) = w ++ [32])) S := by
      have ad : dE G (run T G wf (k + 53)) (.op .Add (.v 1) (.c (.str " "))) sd S = .ok (.str (sl (w ++ [32]))) S := e_op (v1 S) (y := .str " ") (by simp) (by rw [l_sp]; exact add_sl (S := S) (by simp; omega))
      refine t_not (t_tru (e_sm (x := sl line) (v0 S) ad (z := .bl (decide (line.take (w.length + 1) = w ++ [32]))) ?_) rfl)
      show some (D.bl (Txt.startswith (sl line) (sl (w ++ [32])))) = _
      rw [starts_sl]
      simp
    have re : dSs G (run T G wf (k + 53)) wf (.cons (.ret (.c .non)) .nil) sd S = .ok (.rt .non) sd S := by simp
    by_cases h2 : line.take (w.length + 1) = w ++ [32]
    · rw [decide_eq_true h2] at st
      have s2 : dT G (run T G wf (k + 53)) (.bo .Or (.cons (.not (.tru (.sm .startswith (.v 0) (.op .Add (.v 1) (.c (.str " ")))))) (.cons (.cmp .Eq (.bf .len (.cons (.v 0) .nil)) (.op .Add (.bf .len (.cons (.v 1) .nil)) (.c (.int 1)))) .nil))) sd S = .ok (decide ((line.length : Int) = (w.length : Int) + 1)) S := by
        rw [t_orF st]
        exact t_cmp (ll S) wl rfl
      by_cases h3 : line.length = w.length + 1
      · rw [decide_eq_true (by omega)] at s2
        rw [if_neg (by simp [h3])]
        refine ⟨S, ?_, Pre.refl S⟩
        rw [stp0 rfl s0]
        exact e_ret (s := (B_read_line tx).at 1) rfl ((s_iteT s2).trans re)
      · rw [decide_eq_false (by omega)] at s2
        rw [if_pos ⟨h2, h3⟩]
        have s1 : dS G (run T G wf (k + 53)) wf ((B_read_line tx).at 1) sd S = .ok .nx sd S := (s_iteF s2).trans rfl
        obtain ⟨r, hr⟩ : ∃ r, line = (w ++ [32]) ++ r := ⟨line.drop (w.length + 1), by rw [← h2, List.take_append_drop]⟩
        have hd : line.drop (w.length + 1) = r := by
          rw [hr, show w.length + 1 = (w ++ [32]).length by simp, List.drop_left]
        rw [hd]
        have hf : ∀ l s r, pSt 12 l = some (s, r) → l = s.tx ++ r ∧ s.fits 12 = true := fun l s r h => pSt_sound h
        obtain ⟨d, S1, e1, r1, p1⟩ := rb_ok (wf := wf) A.toRdA hf (st_ok A.toRdA 12 1 k (by decide) (by decide)) (p := w ++ [32]) (l := r) (S := S) (by rw [← hr]; exact hl)
        have nw : ((w ++ [32]).length : Int) = (w.length : Int) + 1 := by simp
        rw [← hr, nw] at e1
        have e1 : run T G wf (k + 53) tx.read_block [.str (sl line), .int ((w.length : Int) + 1), .int 1] S = .ok d S1 := e1
        refine ⟨S1, ?_, p1⟩
        rw [stp0 rfl s0, stp rfl s1]
        have call : dE G (run T G wf (k + 53)) (.call tx.read_block (.cons (.v 0) (.cons (.op .Add (.bf .len (.cons (.v 1) .nil)) (.c (.int 1))) (.cons (.c (.int 1)) .nil)))) sd S = .ok d S1 := by
          rw [q_ecall, q_mFn, q_lcons, q_mCons, v0 S]
          simp only [q_lcons, q_mCons, wl, q_lnil, q_mNil, q_ec, q_mC, e1]
        have fin : ∀ (x : D) (e : Int), d = .tup [x, .int e] → fnEnd (dSs G (run T G wf (k + 53)) wf ((B_read_line tx).fr 2) sd S) = .ok (if e = (line.length : Int) then x else .non) S1 := fun x e hd => by
          subst hd
          have s2 := asg2 (wf := wf) (i := 2) (j := 3) call
          rw [stp rfl s2]
          have cc : dT G (run T G wf (k + 53)) (.cmp .Eq (.v 3) (.bf .len (.cons (.v 0) .nil))) [some (.str (sl line)), some (.str (sl w)), some x, some (.int e)] S1 = .ok (decide (e = (line.length : Int))) S1 := t_cmp (S1 := S1) (S2 := S1) (x := .int e) (y := .int (line.length : Int)) (by simp) (by simp [len_sl (S := S1) hl]) rfl
          show fnEnd (dSs G (run T G wf (k + 53)) wf ((B_read_line tx).fr 3) [some (.str (sl line)), some (.str (sl w)), some x, some (.int e)] S1) = _
          by_cases he : e = (line.length : Int)
          · rw [decide_eq_true he] at cc
            rw [if_pos he]
            exact e_ret (s := (B_read_line tx).at 3) rfl (s_ret1 (by rw [e_ifT cc]; simp))
          · rw [decide_eq_false he] at cc
            rw [if_neg he]
            exact e_ret (s := (B_read_line tx).at 3) rfl (s_ret1 (by rw [e_ifF cc]; simp))
        cases q : pBlk (pSt 12) r with
        | none =>
          rw [q] at r1
          obtain ⟨e, rfl⟩ := r1
          rw [fin .non e rfl]
          simp [optB]
        | some br =>
          obtain ⟨b, r2⟩ := br
          rw [q] at r1
          have r1 : d = .tup [.tup b.ds, .int (((w ++ [32]).length : Int) + (b.tx.length : Int))] := r1
          obtain ⟨el, _⟩ := pBlk_sound hf q
          rw [fin _ _ r1]
          have hlen : line.length = (w ++ [32]).length + (b.tx.length + r2.length) := by rw [hr, el]; simp; omega
          cases r2 with
          | nil =>
            rw [if_pos (by rw [hlen]; simp)]
            rfl
          | cons c r2 =>
            rw [if_neg (by rw [hlen]; simp only [List.length_cons]; omega)]
            rfl
    · rw [decide_eq_false h2] at st
      rw [if_neg (by simp [h2])]
      refine ⟨S, ?_, Pre.refl S⟩
      rw [stp0 rfl s0]
      exact e_ret (s := (B_read_line tx).at 1) rfl ((s_iteT (t_orT st)).trans re)
/-! ### whole programs -/
def okP (d : D) : Bool := match PE.errD d with
  | .non => true
  | _ => false
/-- what parse_program comes to -/
def outP (tx : Tx) (o : Option Prog) (S : Sto) : Out D := match o with
  | some P => if okP P.d = true then .ok P.d S else .exc tx.eBadText none S
  | none => .exc tx.eBadText none S
end
theorem isN_err {S : Sto} {d : D} : isNP false S (PE.errD d) .non = some (.bl (okP d)) := by
  have : PE.errD d = .non ∨ ∃ s, PE.errD d = .str s := by
    unfold PE.errD
    split
    · repeat' split
      all_goals first | exact .inl rfl | exact .inr ⟨_, rfl⟩
    · exact .inr ⟨_, rfl⟩
  unfold okP
  rcases this with h | ⟨s, h⟩ <;> rw [h] <;> rfl
section
variable {T : List Fn} {G : Ev} {wf : Nat} {tx : Tx} {C : Nat → List D → Sto → Out D}
theorem need {e : E} {b : Bool} {sd : Sl} {S S1 : Sto} (h : dE G C e sd S = .ok (.bl b) S1) (h1 : C tx.need_text [.bl true] S1 = .ok .non S1) (h0 : C tx.need_text [.bl false] S1 = .exc tx.eBadText none S1) :
    dS G C wf (.ex (.call tx.need_text (.cons e .nil))) sd S = if b = true then .ok .nx sd S1 else .exc tx.eBadText none sd S1 := by
  cases b with
  | true => exact ex_ok (e_call1 h h1)
  | false => exact ex_no (e_callX h h0)
theorem fin_exc {b : Ss} {i : Nat} {sd sd1 : Sl} {S S1 : Sto} {c : Nat} {fs : XF} (hs : b.fr i = .cons (b.at i) (b.fr (i + 1))) (h : dS G C wf (b.at i) sd S = .exc c fs sd1 S1) : fnEnd (dSs G C wf (b.fr i) sd S) = .exc c fs S1 := by
  rw [hs, q_scons, then_ex h]; rfl
end
end Z

/-! parse_program, parse_statement. -/
namespace Z
open PySem PySem.Spec PyProof.Rows L2
theorem l_nl : ("\n" : Str) = sl [10] := by decide +kernel
theorem l_letters : ("letters" : Str) = sl wLetters := by decide +kernel
theorem l_works : ("works" : Str) = sl wWorks := by decide +kernel
theorem l_cells : ("cells" : Str) = sl wCells := by decide +kernel
theorem l_body : ("body" : Str) = sl wBody := by decide +kernel
theorem l_tail : ("tail" : Str) = sl wTail := by decide +kernel
theorem sp1_len (s : Nat) : ∀ l : Cs, (sp1 s l).length ≤ l.length + 1
  | [] => by simp [sp1]
  | c :: l => by
    have ih := sp1_len s l
    unfold sp1
    split
    · simp; exact ih
    · split
      · simp
      · rename_i e; rw [e] at ih; simp at ih ⊢; omega
theorem sp1_mem (s : Nat) : ∀ l : Cs, ∀ x ∈ sp1 s l, x.length ≤ l.length
  | [], x, hx => by simp [sp1] at hx; subst hx; simp
  | c :: l, x, hx => by
    have ih := sp1_mem s l
    unfold sp1 at hx
    split at hx
    · rcases List.mem_cons.mp hx with rfl | hx
      · simp
      · have := ih x hx; simp; omega
    · split at hx
      · simp at hx; subst hx; simp
      · rename_i q qs e2
        rcases List.mem_cons.mp hx with rfl | hx
        · have := ih q (by rw [e2]; simp); simp; exact this
        · have := ih x (by rw [e2]; simp [hx]); simp; omega
theorem pNums_len (w line : Cs) : (pNums w line).length ≤ line.length + 1 := by
  unfold pNums
  have := sp1_len 32 line
  split
  · simp
  · rename_i e
    rw [e] at this
    split
    · simp at this ⊢; omega
    · simp
theorem pLine_len {w line : Cs} {b : Blk} (h : pLine w line = some b) : b.tx.length ≤ line.length := by
  unfold pLine at h
  split at h
  · cases h; simp [Blk.tx]
  · split at h
    · split at h
      · rename_i e
        cases h
        obtain ⟨el, _⟩ := pBlk_sound (n := 12) (fun l s r h => pSt_sound h) e
        have := congrArg List.length el
        simp at this
        omega
      · cases h
    · cases h
theorem okd_prog {S : Sto} {P : Prog} (h1 : P.cells.length ≤ 1000000) (h2 : P.body.tx.length ≤ 1000000) (h3 : P.tail.tx.length ≤ 1000000) : PE.okD S 1000000 P.d = true := by
  rw [Prog.d, PE.okD_tup]
  refine ⟨by simp, fun d hd => ?_⟩
  simp only [List.mem_cons, List.not_mem_nil, or_false] at hd
  rcases hd with rfl | rfl | rfl | rfl | rfl | rfl
  · simp [PE.okD]
  · simp [PE.okD]
  · simp [PE.okD]
  · rw [PE.okD_tup]
    refine ⟨by simpa using h1, fun d hd => ?_⟩
    obtain ⟨c, _, rfl⟩ := List.mem_map.mp hd
    simp [PE.okD]
  · exact okd_bl (by decide) _ h2
  · exact okd_bl (by decide) _ h3
theorem isN_opt {S : Sto} {o : Option Blk} : isNP true S (optB o) .non = some (.bl o.isSome) := by cases o <;> rfl
section
variable {T : List Fn} {G : Ev} {wf : Nat} {tx : Tx} {px : PE.Px}
theorem pp_ok (A : PpA T G tx) (F : PE.ProgA T G px) (hx : tx.program_error = px.program_error) {k : Nat} {S : Sto} {t : Cs} (ht : t.length ≤ 900000) : ∃ S', run T G wf (k + 55) tx.parse_program [.str (sl t)] S = outP tx (pProg t) S' ∧ Pre S S' := by
  rw [run_succ (fn := ⟨1, 8, B_parse_program tx⟩) A.parse_program rfl]
  generalize hC : run T G wf (k + 54) = C
  have nt1 : ∀ S, C tx.need_text [.bl true] S = .ok .non S := fun S => by rw [← hC]; exact nt_ok A.toRdA
  have nt0 : ∀ S, C tx.need_text [.bl false] S = .exc tx.eBadText none S := fun S => by rw [← hC]; exact nt_no A.toRdA
  have nums : ∀ S (line w : Cs), line.length ≤ 1000000 → C tx.read_numbers [.str (sl line), .str (sl w)] S = .ok (.tup ((pNums w line).map fun (n : Nat) => D.int n)) S := fun S line w h => by rw [← hC]; exact nums_ok A h
  have lines : ∀ S (line w : Cs), line.length ≤ 1000000 → w.length ≤ 1000 → ∃ S', C tx.read_line [.str (sl line), .str (sl w)] S = .ok (optB (pLine w line)) S' ∧ Pre S S' := fun S line w h h2 => by rw [← hC]; exact ln_ok A h h2
  have perr : ∀ S d, PE.okD S 1000000 d = true → C tx.program_error [d] S = .ok (PE.errD d) S := fun S d h => by rw [← hC, hx]; exact PE.perr_ok (k := k + 14) F (by decide) h
  let sd0 : Sl := [some (.str (sl t)), none, none, none, none, none, none, none]
  show ∃ S', fnEnd (dSs G C wf (B_parse_program tx) sd0 S) = _ ∧ _
  have s0 : dS G C wf ((B_parse_program tx).at 0) sd0 S = .ok .nx sd0 S := need (b := true) (by simp [sd0]) (nt1 S) (nt0 S)
  have hsp : splitD S (.str (sl t)) (.str "\n") = some (.lst ((sp1 10 t).map fun p => D.str (sl p))) := by rw [l_nl]; exact split_d (by decide) (by omega)
  let L : D := .lst ((sp1 10 t).map fun p => D.str (sl p))
  let sd1 : Sl := [some (.str (sl t)), some L, none, none, none, none, none, none]
  have s1 : dS G C wf ((B_parse_program tx).at 1) sd0 S = .ok .nx sd1 S := s_asg1 (i := 1) (e_sm (x := sl t) (S1 := S) (by simp [sd0]) (y := .str "\n") (by simp) hsp)
  have s2 := need (wf := wf) (tx := tx) (G := G) (C := C) (e := .cmp .Eq (.bf .len (.cons (.v 1) .nil)) (.c (.int 5))) (b := decide (((sp1 10 t).length : Int) = 5)) (sd := sd1) (S := S) (S1 := S) (by
    have : lenD S L = some (.int ((sp1 10 t).length : Int)) := by simp [L, lenD, lenP, asQ, asL]
    simp [sd1, this]) (nt1 S) (nt0 S)
  rw [stp0 rfl s0, stp rfl s1]
  unfold pProg
  split
  · rename_i a b c d e heq
    have hmem := sp1_mem 10 t
    rw [heq] at hmem
    have la := hmem a (by simp)
    have lb := hmem b (by simp)
    have lc := hmem c (by simp)
    have ld := hmem d (by simp)
    have le := hmem e (by simp)
    rw [heq] at s2
    have s2 : dS G C wf ((B_parse_program tx).at 2) sd1 S = .ok .nx sd1 S := s2
    rw [stp rfl s2]
    have eL : L = .lst [.str (sl a), .str (sl b), .str (sl c), .str (sl d), .str (sl e)] := by show D.lst _ = _; rw [heq]; rfl
    have i0 : ∀ S, ixP S L (.int 0) = some (.str (sl a)) := fun S => by rw [eL]; rfl
    have i1 : ∀ S, ixP S L (.int 1) = some (.str (sl b)) := fun S => by rw [eL]; rfl
    have i2 : ∀ S, ixP S L (.int 2) = some (.str (sl c)) := fun S => by rw [eL]; rfl
    have i3 : ∀ S, ixP S L (.int 3) = some (.str (sl d)) := fun S => by rw [eL]; rfl
    have i4 : ∀ S, ixP S L (.int 4) = some (.str (sl e)) := fun S => by rw [eL]; rfl
    have n1 := nums S a wLetters (by omega)
    have n2 := nums S b wWorks (by omega)
    rw [← l_letters] at n1
    rw [← l_works] at n2
    let V3 : D := .tup ((pNums wLetters a).map fun (n : Nat) => D.int n)
    let V4 : D := .tup ((pNums wWorks b).map fun (n : Nat) => D.int n)
    let sd3 : Sl := [some (.str (sl t)), some L, none, some V3, some V4, none, none, none]
    have s3 : dS G C wf ((B_parse_program tx).at 3) sd1 S = .ok .nx sd3 S := par_2 (i := 3) (j := 4) (S1 := S) (by simp [sd1, i0, n1]; rfl) (by simp [sd1, i1, n2]; rfl)
    rw [stp rfl s3]
    have s4 := need (wf := wf) (tx := tx) (G := G) (C := C) (e := .bo .And (.cons (.cmp .Eq (.bf .len (.cons (.v 3) .nil)) (.c (.int 2))) (.cons (.cmp .Eq (.bf .len (.cons (.v 4) .nil)) (.c (.int 1))) .nil))) (b := decide ((pNums wLetters a).length = 2) && decide ((pNums wWorks b).length = 1)) (sd := sd3) (S := S) (S1 := S) (by
      have h3 : lenD S V3 = some (.int ((pNums wLetters a).length : Int)) := by simp [V3, lenD, lenP, asQ]
      have h4 : lenD S V4 = some (.int ((pNums wWorks b).length : Int)) := by simp [V4, lenD, lenP, asQ]
      by_cases z3 : (pNums wLetters a).length = 2
      · have z3' : ((pNums wLetters a).length : Int) = 2 := by omega
        by_cases z4 : (pNums wWorks b).length = 1
        · have z4' : ((pNums wWorks b).length : Int) = 1 := by omega
          simp [sd3, h3, h4, z3, z4, z3', z4']
        · have z4' : ¬ ((pNums wWorks b).length : Int) = 1 := by omega
          simp [sd3, h3, h4, z3, z4, z3', z4']
      · have z3' : ¬ ((pNums wLetters a).length : Int) = 2 := by omega
        simp [sd3, h3, z3, z3']) (nt1 S) (nt0 S)
    split
    · rename_i k0 k1 w heq1 heq2
      rw [heq1, heq2] at s4
      have s4 : dS G C wf ((B_parse_program tx).at 4) sd3 S = .ok .nx sd3 S := s4
      rw [stp rfl s4]
      obtain ⟨S1, e1, p1⟩ := lines S d wBody (by omega) (by decide)
      obtain ⟨S2, e2, p2⟩ := lines S1 e wTail (by omega) (by decide)
      have n3 := nums S c wCells (by omega)
      rw [← l_cells] at n3
      rw [← l_body] at e1
      rw [← l_tail] at e2
      let V5 : D := .tup ((pNums wCells c).map fun (n : Nat) => D.int n)
      let sd5 : Sl := [some (.str (sl t)), some L, none, some V3, some V4, some V5, some (optB (pLine wBody d)), some (optB (pLine wTail e))]
      have s5 : dS G C wf ((B_parse_program tx).at 5) sd3 S = .ok .nx sd5 S2 := by
        show dS G C wf (.par [5, 6, 7] (.cons (.call tx.read_numbers (.cons (.ix (.v 1) (.c (.int 2))) (.cons (.c (.str "cells")) .nil))) (.cons (.call tx.read_line (.cons (.ix (.v 1) (.c (.int 3))) (.cons (.c (.str "body")) .nil))) (.cons (.call tx.read_line (.cons (.ix (.v 1) (.c (.int 4))) (.cons (.c (.str "tail")) .nil))) .nil)))) sd3 S = _
        rw [q_spar, par3_ok (x := V5) (y := optB (pLine wBody d)) (z := optB (pLine wTail e)) (S1 := S2)]
        · rfl
        · have w1 : dE G C (.call tx.read_numbers (.cons (.ix (.v 1) (.c (.int 2))) (.cons (.c (.str "cells")) .nil))) sd3 S = .ok V5 S := e_call2 (x := .str (sl c)) (S1 := S) (S2 := S) (by simp [sd3, i2]) (y := .str "cells") (by simp) n3
          have w2 : dE G C (.call tx.read_line (.cons (.ix (.v 1) (.c (.int 3))) (.cons (.c (.str "body")) .nil))) sd3 S = .ok (optB (pLine wBody d)) S1 := e_call2 (x := .str (sl d)) (S1 := S) (S2 := S) (by simp [sd3, i3]) (y := .str "body") (by simp) e1
          have w3 : dE G C (.call tx.read_line (.cons (.ix (.v 1) (.c (.int 4))) (.cons (.c (.str "tail")) .nil))) sd3 S1 = .ok (optB (pLine wTail e)) S2 := e_call2 (x := .str (sl e)) (S1 := S1) (S2 := S1) (by simp [sd3, i4]) (y := .str "tail") (by simp) e2
          rw [q_lcons, q_mCons, w1]
          simp only []
          rw [dl2 w2 w3]
      rw [stp rfl s5]
      have s6 := need (wf := wf) (tx := tx) (G := G) (C := C) (e := .bo .And (.cons (.cmp .IsNot (.v 6) (.c .non)) (.cons (.cmp .IsNot (.v 7) (.c .non)) .nil))) (b := (pLine wBody d).isSome && (pLine wTail e).isSome) (sd := sd5) (S := S2) (S1 := S2) (by
        cases q1 : (pLine wBody d).isSome <;> simp [sd5, isN_opt, q1]) (nt1 S2) (nt0 S2)
      split
      · rename_i x y heq3 heq4
        rw [heq3, heq4] at s6
        have s6 : dS G C wf ((B_parse_program tx).at 6) sd5 S2 = .ok .nx sd5 S2 := s6
        rw [stp rfl s6]
        let P : Prog := ⟨k0, k1, w, pNums wCells c, x, y⟩
        have j0 : ∀ S, ixP S V3 (.int 0) = some (.int k0) := fun S => by show ixP S (.tup ((pNums wLetters a).map fun (n : Nat) => D.int n)) _ = _; rw [heq1]; rfl
        have j1 : ∀ S, ixP S V3 (.int 1) = some (.int k1) := fun S => by show ixP S (.tup ((pNums wLetters a).map fun (n : Nat) => D.int n)) _ = _; rw [heq1]; rfl
        have j2 : ∀ S, ixP S V4 (.int 0) = some (.int w) := fun S => by show ixP S (.tup ((pNums wWorks b).map fun (n : Nat) => D.int n)) _ = _; rw [heq2]; rfl
        let sd7 : Sl := [some (.str (sl t)), some L, some P.d, some V3, some V4, some V5, some (optB (some x)), some (optB (some y))]
        have s7 : dS G C wf ((B_parse_program tx).at 7) sd5 S2 = .ok .nx sd7 S2 := by
          have eV : dE G C (.tup (.cons (.ix (.v 3) (.c (.int 0))) (.cons (.ix (.v 3) (.c (.int 1))) (.cons (.ix (.v 4) (.c (.int 0))) (.cons (.v 5) (.cons (.v 6) (.cons (.v 7) .nil))))))) sd5 S2 = .ok P.d S2 := by
            simp only [sd5, heq3, heq4]
            simp [j0, j1, j2, P, Prog.d, optB, V5]
          have := s_asg1 (wf := wf) (i := 2) eV
          rw [show sd5.set 2 (some P.d) = sd7 by simp only [sd5, heq3, heq4]; rfl] at this
          exact this
        rw [stp rfl s7]
        have hok : PE.okD S2 1000000 P.d = true := okd_prog (P := P) (by have := pNums_len wCells c; show (pNums wCells c).length ≤ _; omega) (by have := pLine_len heq3; show x.tx.length ≤ _; omega) (by have := pLine_len heq4; show y.tx.length ≤ _; omega)
        have s8 := need (wf := wf) (tx := tx) (G := G) (C := C) (e := .cmp .Is (.call tx.program_error (.cons (.v 2) .nil)) (.c .non)) (b := okP P.d) (sd := sd7) (S := S2) (S1 := S2) (e_cmp (x := PE.errD P.d) (S1 := S2) (e_call1 (x := P.d) (S1 := S2) (by simp [sd7]) (perr S2 P.d hok)) (y := .non) (by simp) (isN_err (S := S2))) (nt1 S2) (nt0 S2)
        refine ⟨S2, ?_, p1.trans p2⟩
        show _ = if okP P.d = true then Out.ok P.d S2 else .exc tx.eBadText none S2
        cases hp : okP P.d with
        | true =>
          rw [hp] at s8
          have s8 : dS G C wf ((B_parse_program tx).at 8) sd7 S2 = .ok .nx sd7 S2 := s8
          rw [stp rfl s8]
          exact e_ret (s := (B_parse_program tx).at 9) rfl (s_ret1 (by simp [sd7]))
        | false =>
          rw [hp] at s8
          exact fin_exc rfl s8
      · rename_i hno
        refine ⟨S2, ?_, p1.trans p2⟩
        have hb : ((pLine wBody d).isSome && (pLine wTail e).isSome) = false := by
          cases q1 : pLine wBody d with
          | none => rfl
          | some x =>
            cases q2 : pLine wTail e with
            | none => rfl
            | some y => exact (hno x y q1 q2).elim
        rw [hb] at s6
        exact fin_exc rfl s6
    · rename_i hno
      refine ⟨S, ?_, Pre.refl S⟩
      have hb : (decide ((pNums wLetters a).length = 2) && decide ((pNums wWorks b).length = 1)) = false := by
        match q1 : pNums wLetters a, q2 : pNums wWorks b with
        | [k0, k1], [w] => exact (hno k0 k1 w q1 q2).elim
        | [], _ => rfl
        | [_], _ => rfl
        | _ :: _ :: _ :: _, _ => simp
        | [_, _], [] => rfl
        | [_, _], _ :: _ :: _ => simp
      rw [hb] at s4
      exact fin_exc rfl s4
  · rename_i hno
    refine ⟨S, ?_, Pre.refl S⟩
    have hb : decide (((sp1 10 t).length : Int) = 5) = false := by
      apply decide_eq_false
      intro z
      match q : sp1 10 t, z with
      | [a, b, c, d, e], _ => exact hno a b c d e q
      | [], z => simp at z
      | [_], z => simp at z
      | [_, _], z => simp at z
      | [_, _, _], z => simp at z
      | [_, _, _, _], z => simp at z
      | _ :: _ :: _ :: _ :: _ :: _ :: _, z => simp at z; omega
    rw [hb] at s2
    exact fin_exc rfl s2
theorem pp_no (A : PpA T G tx) {k : Nat} {S : Sto} {d : D} (h : isiD S d .str = some false) : run T G wf (k + 2) tx.parse_program [d] S = .exc tx.eBadText none S := by
  rw [run_succ (fn := ⟨1, 8, B_parse_program tx⟩) A.parse_program rfl]
  have s0 := need (wf := wf) (tx := tx) (G := G) (C := run T G wf (k + 1)) (e := .isi (.v 0) .str) (b := false) (sd := [some d, none, none, none, none, none, none, none]) (S := S) (S1 := S) (by simp [h]) (nt_ok A.toRdA) (nt_no A.toRdA)
  exact fin_exc (i := 0) (b := B_parse_program tx) rfl s0
/-! ### parse_statement -/
/-- the program in which a statement is looked at -/
def somewhere (d : D) : D := .tup [.int 3, .int 3, .int 5, .tup [.int 2, .int 2, .int 2, .int 2], .tup [d], .tup []]
theorem sw_ok (A : PsA T G tx) (F : PE.ProgA T G px) (hx : tx.program_error = px.program_error) {k : Nat} {S : Sto} {d : D} (hd : PE.okD S 1000000 d = true) : run T G wf (k + 41) tx.stands_somewhere [d] S = .ok (.bl (okP (somewhere d))) S := by
  rw [run_succ (fn := ⟨1, 2, B_stands_somewhere tx⟩) A.stands_somewhere rfl]
  have hok : PE.okD S 1000000 (somewhere d) = true := by simp [somewhere, PE.okD, PE.okDs, hd]
  have pe : run T G wf (k + 40) tx.program_error [somewhere d] S = .ok (PE.errD (somewhere d)) S := by rw [hx]; exact PE.perr_ok F (by decide) hok
  have mu : mulP S (.tup [.int 2]) (.int 4) = some (.tup [.int 2, .int 2, .int 2, .int 2]) := by rfl
  have s0 : dS G (run T G wf (k + 40)) wf ((B_stands_somewhere tx).at 0) [some d, none] S = .ok .nx [some d, some (.tup [.int 2, .int 2, .int 2, .int 2])] S := s_asg1 (i := 1) (e_op (x := .tup [.int 2]) (S1 := S) (by simp) (y := .int 4) (by simp [A.gMAX_CELLS]) mu)
  show fnEnd (dSs G (run T G wf (k + 40)) wf (B_stands_somewhere tx) [some d, none] S) = _
  rw [stp0 rfl s0]
  refine e_ret (s := (B_stands_somewhere tx).at 1) rfl (s_ret1 (e_cmp (x := PE.errD (somewhere d)) (S1 := S) (e_call1 (x := somewhere d) (S1 := S) ?_ pe) (y := .non) (by simp) (isN_err (S := S))))
  simp [A.gMAX_LETTERS, A.gMAX_WORKS, somewhere]
/-- what parse_statement comes to -/
def outS (tx : Tx) (o : Option (Stm × Cs)) (S : Sto) : Out D := match o with
  | some (s, []) => if okP (somewhere s.d) = true then .ok s.d S else .exc tx.eBadText none S
  | _ => .exc tx.eBadText none S
theorem ps_ok (A : PsA T G tx) (F : PE.ProgA T G px) (hx : tx.program_error = px.program_error) {k : Nat} {S : Sto} {t : Cs} (ht : t.length ≤ 900000) : ∃ S', run T G wf (k + 53) tx.parse_statement [.str (sl t)] S = outS tx (pSt 12 t) S' ∧ Pre S S' := by
  rw [run_succ (fn := ⟨1, 3, B_parse_statement tx⟩) A.parse_statement rfl]
  generalize hC : run T G wf (k + 52) = C
  have nt1 : ∀ S, C tx.need_text [.bl true] S = .ok .non S := fun S => by rw [← hC]; exact nt_ok A.toRdA
  have nt0 : ∀ S, C tx.need_text [.bl false] S = .exc tx.eBadText none S := fun S => by rw [← hC]; exact nt_no A.toRdA
  obtain ⟨d, S1, e1, r1, p1⟩ := st_ok (wf := wf) A.toRdA 12 1 k (by decide) (by decide) [] t S (by simp; omega)
  have e1 : C tx.read_statement [.str (sl t), .int 0, .int 1] S = .ok d S1 := by rw [← hC]; exact e1
  have sw : ∀ S x, PE.okD S 1000000 x = true → C tx.stands_somewhere [x] S = .ok (.bl (okP (somewhere x))) S := fun S x h => by rw [← hC]; exact sw_ok (k := k + 11) A F hx h
  let sd0 : Sl := [some (.str (sl t)), none, none]
  show ∃ S', fnEnd (dSs G C wf (B_parse_statement tx) sd0 S) = _ ∧ _
  have s0 : dS G C wf ((B_parse_statement tx).at 0) sd0 S = .ok .nx sd0 S := need (b := true) (by simp [sd0]) (nt1 S) (nt0 S)
  have call : dE G C (.call tx.read_statement (.cons (.v 0) (.cons (.c (.int 0)) (.cons (.c (.int 1)) .nil)))) sd0 S = .ok d S1 := by simp [sd0, e1]
  rw [stp0 rfl s0]
  refine ⟨S1, ?_, p1⟩
  cases q : pSt 12 t with
  | none =>
    rw [q] at r1
    obtain ⟨e, rfl⟩ := r1
    have s1 : dS G C wf ((B_parse_statement tx).at 1) sd0 S = .ok .nx [some (.str (sl t)), some .non, some (.int e)] S1 := asg2 (i := 1) (j := 2) call
    rw [stp rfl s1]
    have s2 := need (wf := wf) (tx := tx) (G := G) (C := C) (e := .bo .And (.cons (.cmp .IsNot (.v 1) (.c .non)) (.cons (.cmp .Eq (.v 2) (.bf .len (.cons (.v 0) .nil))) .nil))) (b := false) (sd := [some (.str (sl t)), some .non, some (.int e)]) (S := S1) (S1 := S1) (by simp [isN_non']) (nt1 S1) (nt0 S1)
    exact fin_exc rfl s2
  | some sr =>
    obtain ⟨s, r⟩ := sr
    rw [q] at r1
    have r1 : d = .tup [s.d, .int ((([] : Cs).length : Int) + (s.tx.length : Int))] := r1
    have r1 : d = .tup [s.d, .int (s.tx.length : Int)] := by rw [r1]; simp
    subst r1
    obtain ⟨el, _⟩ := pSt_sound q
    have hlen : t.length = s.tx.length + r.length := by rw [el]; simp
    let sd1 : Sl := [some (.str (sl t)), some s.d, some (.int (s.tx.length : Int))]
    have s1 : dS G C wf ((B_parse_statement tx).at 1) sd0 S = .ok .nx sd1 S1 := asg2 (i := 1) (j := 2) call
    rw [stp rfl s1]
    have s2 := need (wf := wf) (tx := tx) (G := G) (C := C) (e := .bo .And (.cons (.cmp .IsNot (.v 1) (.c .non)) (.cons (.cmp .Eq (.v 2) (.bf .len (.cons (.v 0) .nil))) .nil))) (b := decide ((s.tx.length : Int) = (t.length : Int))) (sd := sd1) (S := S1) (S1 := S1) (by simp [sd1, isN_stm, len_sl (S := S1) (w := t) (by omega)]) (nt1 S1) (nt0 S1)
    cases r with
    | nil =>
      rw [decide_eq_true (by rw [hlen]; simp)] at s2
      have s2 : dS G C wf ((B_parse_statement tx).at 2) sd1 S1 = .ok .nx sd1 S1 := s2
      rw [stp rfl s2]
      have s3 := need (wf := wf) (tx := tx) (G := G) (C := C) (e := .call tx.stands_somewhere (.cons (.v 1) .nil)) (b := okP (somewhere s.d)) (sd := sd1) (S := S1) (S1 := S1) (e_call1 (x := s.d) (S1 := S1) (by simp [sd1]) (sw S1 s.d (okd_st (by decide) s (by omega)))) (nt1 S1) (nt0 S1)
      show _ = if okP (somewhere s.d) = true then Out.ok s.d S1 else .exc tx.eBadText none S1
      cases hp : okP (somewhere s.d) with
      | true =>
        rw [hp] at s3
        have s3 : dS G C wf ((B_parse_statement tx).at 3) sd1 S1 = .ok .nx sd1 S1 := s3
        rw [stp rfl s3]
        exact e_ret (s := (B_parse_statement tx).at 4) rfl (s_ret1 (by simp [sd1]))
      | false =>
        rw [hp] at s3
        exact fin_exc rfl s3
    | cons c r =>
      rw [decide_eq_false (by rw [hlen]; simp only [List.length_cons]; omega)] at s2
      exact fin_exc rfl s2
theorem ps_no (A : PsA T G tx) {k : Nat} {S : Sto} {d : D} (h : isiD S d .str = some false) : run T G wf (k + 2) tx.parse_statement [d] S = .exc tx.eBadText none S := by
  rw [run_succ (fn := ⟨1, 3, B_parse_statement tx⟩) A.parse_statement rfl]
  have s0 := need (wf := wf) (tx := tx) (G := G) (C := run T G wf (k + 1)) (e := .isi (.v 0) .str) (b := false) (sd := [some d, none, none]) (S := S) (S1 := S) (by simp [h]) (nt_ok A.toRdA) (nt_no A.toRdA)
  exact fin_exc (i := 0) (b := B_parse_statement tx) rfl s0
end
end Z

/-! Texts written by the program. -/
namespace Z
open PySem PySem.Spec PyProof.Rows L2
inductive All2 (R : D → D → Prop) : List D → List D → Prop
  | nil : All2 R [] []
  | cons {x y : D} {xs ys : List D} : R x y → All2 R xs ys → All2 R (x :: xs) (y :: ys)
/-- a comprehension without test that leaves the store -/
theorem lcA {G : Ev} {C : Nat → List D → Sto → Out D} {i : Nat} {it : It} {e : E} {own : List (Str × Nat)} {sd : Sl} {S : Sto} {ds ys : List D} (hi : dI G C it sd S = .ok (.vals ds) S) (hl : ds.length ≤ 16777216)
    (hd : All2 (fun d y => dE G C e ((wipeD sd (own.map (·.2))).set i (some d)) S = .ok y S) ds ys) : dE G C (.lc false (.nm i) it .none e own) sd S = .ok (.lst ys) S := by
  rw [q_elcF, q_mLc, q_mLcL, hi]
  simp only []
  have key : lcL (gNm i) mYes (dE G C e) (wipeD sd (own.map (·.2))) ds S = .ok ys S := by
    clear hi hl
    induction hd with
    | nil => rfl
    | cons h _ ih =>
      unfold lcL
      simp only [q_gNm, q_mYes, h, ih]
  rw [show (Src.vals ds).len = (Src.vals ds).len from rfl, q_gnm, q_cN, lc_list (sta_vals ds) hl key]
mutual
def Stm.digs : Stm → Bool
  | .do_ i => decide (i < 10)
  | .set i x => decide (i < 10) && x.dig
  | .stop => true
  | .iff x a b => x.dig && a.digs && b.digs
def Blk.digs : Blk → Bool
  | .nil => true
  | .cons s b => s.digs && b.digs
end
mutual
theorem Stm.fits_digs {n : Nat} : ∀ s : Stm, s.fits n = true → s.digs = true
  | .do_ _, h => h
  | .set _ _, h => by simp only [Stm.fits, Stm.digs, Bool.and_eq_true] at h ⊢; exact h.1
  | .stop, _ => rfl
  | .iff _ a b, h => by
    simp only [Stm.fits, Stm.digs, Bool.and_eq_true] at h ⊢
    exact ⟨⟨h.1.1.1.1, Blk.fits_digs a h.1.2⟩, Blk.fits_digs b h.2⟩
theorem Blk.fits_digs {n : Nat} : ∀ b : Blk, b.fits n = true → b.digs = true
  | .nil, _ => rfl
  | .cons s b, h => by
    simp only [Blk.fits, Blk.digs, Bool.and_eq_true] at h ⊢
    exact ⟨Stm.fits_digs s h.1, Blk.fits_digs b h.2⟩
end
mutual
/-- how deep calls go when it is written -/
def Stm.fu : Stm → Nat
  | .do_ _ => 1
  | .set _ x => x.lv + 2
  | .stop => 1
  | .iff x a b => max (x.lv + 1) (max a.fu b.fu) + 1
def Blk.fu : Blk → Nat
  | .nil => 1
  | .cons s b => max (s.fu + 1) b.fu
end
def Blk.l : Blk → List Stm
  | .nil => []
  | .cons s b => s :: b.l
def Blk.txs : Blk → List Cs
  | .nil => []
  | .cons s b => s.tx :: b.txs
theorem Blk.join_txs : ∀ b : Blk, TL.joinL [59, 32] b.txs = b.tx
  | .nil => rfl
  | .cons s .nil => by rw [Blk.tx_one]; rfl
  | .cons s (.cons s2 b) => by
    have ih := Blk.join_txs (.cons s2 b)
    rw [Blk.tx_cons _ _ (by simp), ← ih]
    rfl
theorem Blk.txs_sum : ∀ b : Blk, (b.txs.map List.length).sum + b.txs.length * 2 ≤ b.tx.length + 2
  | .nil => by simp [Blk.txs]
  | .cons s .nil => by rw [Blk.tx_one]; simp [Blk.txs]
  | .cons s (.cons s2 b) => by
    have ih := Blk.txs_sum (.cons s2 b)
    rw [Blk.tx_cons _ _ (by simp)]
    simp only [Blk.txs, List.map_cons, List.sum_cons, List.length_cons, List.length_append] at ih ⊢
    omega
def signL (o : Opr) : Cs := [o.c]
theorem look_signs {o : Opr} : ([(("plus" : Str), D.str "+"), ("times", .str "*"), ("less", .str "<"), ("same", .str "=")] : List (Str × D)).lookup o.s = some (.str (sl [o.c])) := by
  cases o <;> kernel_rfl
theorem look_letters_k : ([(("known" : Str), D.str "k"), ("secret", .str "s")] : List (Str × D)).lookup ("known" : Str) = some (.str (sl [107])) := by kernel_rfl
theorem look_letters_s : ([(("known" : Str), D.str "k"), ("secret", .str "s")] : List (Str × D)).lookup ("secret" : Str) = some (.str (sl [115])) := by kernel_rfl
theorem opr_cell {o : Opr} : (o.s = ("cell" : Str)) = False := by cases o <;> exact eq_false (by decide +kernel)
theorem Fm.tx_op {o : Opr} {a b : Fm} : (Fm.op o a b).tx = [40] ++ a.tx ++ [o.c] ++ b.tx ++ [41] := by simp [Fm.tx]
section
variable {T : List Fn} {G : Ev} {wf : Nat} {tx : Tx}
theorem sx_ok (A : WsA T G tx) {S : Sto} : ∀ (f : Fm) (k : Nat), f.dig = true → f.tx.length ≤ 1000000 → run T G wf (k + f.lv + 1) tx.sum_text [f.d] S = .ok (.str (sl f.tx)) S
  | .num n, k, h, _ => by
    have hn : n < 10 := by simpa [Fm.dig] using h
    rw [run_succ (fn := ⟨1, 1, B_sum_text tx⟩) A.sum_text rfl]
    simp [B_sum_text, slots0, fnEnd, Fm.d, Fm.tx, str_dig hn]
  | .known, k, _, _ => by
    rw [run_succ (fn := ⟨1, 1, B_sum_text tx⟩) A.sum_text rfl]
    simp [B_sum_text, slots0, fnEnd, Fm.d, Fm.tx, A.dLETTERS, look_letters_k, l_k]
  | .secret, k, _, _ => by
    rw [run_succ (fn := ⟨1, 1, B_sum_text tx⟩) A.sum_text rfl]
    simp [B_sum_text, slots0, fnEnd, Fm.d, Fm.tx, A.dLETTERS, look_letters_s]
  | .cell i, k, h, _ => by
    have hn : i < 10 := by simpa [Fm.dig] using h
    rw [run_succ (fn := ⟨1, 1, B_sum_text tx⟩) A.sum_text rfl]
    have ad : addP S (.str (sl [99])) (.str (sl [48 + i])) = some (.str (sl [99, 48 + i])) := add_sl (by simp)
    simp [B_sum_text, slots0, fnEnd, Fm.d, Fm.tx, PE.ix0, PE.ix1, str_dig hn, l_c, ad]
  | .op o a b, k, h, hl => by
    simp only [Fm.dig, Bool.and_eq_true] at h
    have hl' : a.tx.length + b.tx.length + 3 ≤ 1000000 := by simp [Fm.tx] at hl; omega
    have lvE : (Fm.op o a b).lv = max a.lv b.lv + 1 := rfl
    have ea := sx_ok A (S := S) a (k + max a.lv b.lv - a.lv) h.1 (by omega)
    have eb := sx_ok A (S := S) b (k + max a.lv b.lv - b.lv) h.2 (by omega)
    rw [show k + max a.lv b.lv - a.lv + a.lv + 1 = k + (max a.lv b.lv + 1) by omega] at ea
    rw [show k + max a.lv b.lv - b.lv + b.lv + 1 = k + (max a.lv b.lv + 1) by omega] at eb
    rw [lvE, run_succ (fn := ⟨1, 1, B_sum_text tx⟩) A.sum_text rfl]
    have a1 : addP S (.str (sl [40])) (.str (sl a.tx)) = some (.str (sl ([40] ++ a.tx))) := add_sl (by simp; omega)
    have a2 : addP S (.str (sl ([40] ++ a.tx))) (.str (sl [o.c])) = some (.str (sl ([40] ++ a.tx ++ [o.c]))) := add_sl (by simp; omega)
    have a3 : addP S (.str (sl ([40] ++ a.tx ++ [o.c]))) (.str (sl b.tx)) = some (.str (sl ([40] ++ a.tx ++ [o.c] ++ b.tx))) := add_sl (by simp; omega)
    have a4 : addP S (.str (sl ([40] ++ a.tx ++ [o.c] ++ b.tx))) (.str (sl [41])) = some (.str (sl ([40] ++ a.tx ++ [o.c] ++ b.tx ++ [41]))) := add_sl (by simp; omega)
    rw [Fm.tx_op]
    simp only [List.append_assoc, List.cons_append, List.nil_append] at a1 a2 a3 a4 ⊢
    simp [B_sum_text, slots0, fnEnd, Fm.d, PE.ix0, PE.ix1, PE.ix2, opr_cell, A.dSIGNS, look_signs, l_po, l_pc, ea, eb, a1, a2, a3, a4]
theorem e_fs2 {C : Nat → List D → Sto → Out D} {e1 e2 : E} {sd : Sl} {S S1 S2 : Sto} {a b : Cs} (h1 : dE G C e1 sd S = .ok (.str (sl a)) S1) (h2 : dE G C e2 sd S1 = .ok (.str (sl b)) S2) (hl : a.length + b.length ≤ 16777216) : dE G C (.fs (.cons e1 (.cons e2 .nil))) sd S = .ok (.str (sl (a ++ b))) S2 := by
  have e0 : Str.empty ++ sl a = sl a := by rw [show Str.empty = sl [] from rfl, sl_app]; rfl
  rw [q_efs, q_fcons, q_mFc, h1]
  simp only [e0]
  rw [if_pos (by rw [sl_len]; omega), q_fcons, q_mFc, h2]
  simp only [sl_app]
  rw [if_pos (by rw [sl_len]; simpa using hl)]
  rfl
theorem e_fs4 {C : Nat → List D → Sto → Out D} {e1 e2 e3 e4 : E} {sd : Sl} {S S1 S2 S3 S4 : Sto} {a b c d : Cs} (h1 : dE G C e1 sd S = .ok (.str (sl a)) S1) (h2 : dE G C e2 sd S1 = .ok (.str (sl b)) S2) (h3 : dE G C e3 sd S2 = .ok (.str (sl c)) S3) (h4 : dE G C e4 sd S3 = .ok (.str (sl d)) S4) (hl : a.length + b.length + c.length + d.length ≤ 16777216) :
    dE G C (.fs (.cons e1 (.cons e2 (.cons e3 (.cons e4 .nil))))) sd S = .ok (.str (sl (a ++ b ++ c ++ d))) S4 := by
  have e0 : Str.empty ++ sl a = sl a := by rw [show Str.empty = sl [] from rfl, sl_app]; rfl
  rw [q_efs, q_fcons, q_mFc, h1]
  simp only [e0]
  rw [if_pos (by rw [sl_len]; omega), q_fcons, q_mFc, h2]
  simp only [sl_app]
  rw [if_pos (by rw [sl_len, List.length_append]; omega), q_fcons, q_mFc, h3]
  simp only [sl_app]
  rw [if_pos (by rw [sl_len, List.length_append, List.length_append]; omega), q_fcons, q_mFc, h4]
  simp only [sl_app]
  rw [if_pos (by rw [sl_len, List.length_append, List.length_append, List.length_append]; omega)]
  rfl
theorem e_fmtN {C : Nat → List D → Sto → Out D} {e : E} {sd : Sl} {S S1 : Sto} {n : Nat} (h : dE G C e sd S = .ok (.int (n : Int)) S1) (hn : n < 10) : dE G C (.fmt e) sd S = .ok (.str (sl [48 + n])) S1 := by
  rw [q_efmt, q_mFmt, h]
  simp only [fmt_dig hn, q_liftS]
theorem e_fmtS {C : Nat → List D → Sto → Out D} {e : E} {sd : Sl} {S S1 : Sto} {a : Cs} (h : dE G C e sd S = .ok (.str (sl a)) S1) (hl : a.length ≤ 16777216) : dE G C (.fmt e) sd S = .ok (.str (sl a)) S1 := by
  rw [q_efmt, q_mFmt, h]
  have : fmtD (.str (sl a)) = some (.str (sl a)) := by
    show (if (sl a).length ≤ 16777216 then some (D.str (sl a)) else none) = _
    rw [if_pos (by rw [sl_len]; exact hl)]
  simp only [this, q_liftS]
theorem e_add {C : Nat → List D → Sto → Out D} {e1 e2 : E} {sd : Sl} {S S1 S2 : Sto} {a b : Cs} (h1 : dE G C e1 sd S = .ok (.str (sl a)) S1) (h2 : dE G C e2 sd S1 = .ok (.str (sl b)) S2) (hl : a.length + b.length ≤ 16777216) : dE G C (.op .Add e1 e2) sd S = .ok (.str (sl (a ++ b))) S2 :=
  e_op h1 h2 (add_sl (S := S2) hl)
theorem bx_of (A : WsA T G tx) {S : Sto} {k : Nat} : ∀ {b : Blk}, (∀ s, s ∈ b.l → run T G wf k tx.statement_text [s.d] S = .ok (.str (sl s.tx)) S) → b.tx.length ≤ 1000000 → run T G wf (k + 1) tx.block_text [.tup b.ds] S = .ok (.str (sl b.tx)) S := by
  intro b h hl
  rw [run_succ (fn := ⟨1, 2, B_block_text tx⟩) A.block_text rfl]
  have hn := b.n_le
  have lc : dE G (run T G wf k) (.lc false (.nm 1) (.seq (.v 0)) .none (.call tx.statement_text (.cons (.v 1) .nil)) [("statement", 1)]) [some (.tup b.ds), none] S = .ok (.lst (b.txs.map fun p => D.str (sl p))) S := by
    refine lcA (ds := b.ds) (by simp [srcOf]) (by rw [b.ds_len]; omega) ?_
    have : ∀ c : Blk, (∀ s, s ∈ c.l → run T G wf k tx.statement_text [s.d] S = .ok (.str (sl s.tx)) S) → All2 (fun d y => dE G (run T G wf k) (.call tx.statement_text (.cons (.v 1) .nil)) ((wipeD [some (.tup b.ds), none] ([(("statement" : Str), 1)].map (·.2))).set 1 (some d)) S = .ok y S) c.ds (c.txs.map fun p => D.str (sl p)) := fun c => by
      induction c using Blk.rec (motive_1 := fun _ => True) with
      | nil => intro _; exact .nil
      | cons s c _ ih =>
        intro hc
        refine .cons (e_call1 (x := s.d) (S1 := S) ?_ (hc s (by simp [Blk.l]))) (ih fun s hs => hc s (by simp [Blk.l, hs]))
        show dE G (run T G wf k) (.v 1) [some (.tup b.ds), some s.d] S = _
        simp
      | _ => trivial
    exact this b h
  exact e_ret (s := (B_block_text tx).at 0) rfl (s_ret1 (e_sm (x := "; ") (S1 := S) (by simp) lc (by
    rw [q_smjoin, l_sc, join_d (by have := b.txs_sum; simp; omega), b.join_txs])))
mutual
theorem stx_ok (A : WsA T G tx) {S : Sto} : ∀ (s : Stm) (k : Nat), s.digs = true → s.tx.length ≤ 1000000 → run T G wf (k + s.fu) tx.statement_text [s.d] S = .ok (.str (sl s.tx)) S
  | .do_ i, k, h, _ => by
    have hi : i < 10 := by simpa [Stm.digs] using h
    show run T G wf (k + 1) tx.statement_text [.tup [.str "do", .int i]] S = _
    rw [run_succ (fn := ⟨1, 4, B_statement_text tx⟩) A.statement_text rfl]
    have s0 : dS G (run T G wf k) wf ((B_statement_text tx).at 0) [some (.tup [.str "do", .int i]), none, none, none] S = .ok .nx [some (.tup [.str "do", .int i]), some (.str "do"), none, none] S := s_asg1 (i := 1) (by simp [PE.ix0])
    show fnEnd (dSs G (run T G wf k) wf (B_statement_text tx) [some (.tup [.str "do", .int i]), none, none, none] S) = _
    rw [stp0 rfl s0]
    refine e_ret (s := (B_statement_text tx).at 1) rfl ((s_iteT (S1 := S) (by simp)).trans ?_)
    rw [q_scons, then_rt (s_ret1 (e_fs2 (a := [100, 111, 32]) (S1 := S) (S2 := S) (by simp [l_do]) (e_fmtN (n := i) (by simp [PE.ix1]) hi) (by simp)))]
    rfl
  | .set i x, k, h, hl => by
    simp only [Stm.digs, Bool.and_eq_true, decide_eq_true_eq] at h
    have hx : x.tx.length ≤ 1000000 := by simp [Stm.tx] at hl; omega
    show run T G wf (k + (x.lv + 2)) tx.statement_text [.tup [.str "set", .int i, x.d]] S = _
    have ex := sx_ok (wf := wf) A (S := S) x k h.2 (by omega)
    rw [show k + (x.lv + 2) = (k + x.lv + 1) + 1 by omega, run_succ (fn := ⟨1, 4, B_statement_text tx⟩) A.statement_text rfl]
    have s0 : dS G (run T G wf (k + x.lv + 1)) wf ((B_statement_text tx).at 0) [some (.tup [.str "set", .int i, x.d]), none, none, none] S = .ok .nx [some (.tup [.str "set", .int i, x.d]), some (.str "set"), none, none] S := s_asg1 (i := 1) (by simp [PE.ix0])
    have s1 : dS G (run T G wf (k + x.lv + 1)) wf ((B_statement_text tx).at 1) [some (.tup [.str "set", .int i, x.d]), some (.str "set"), none, none] S = .ok .nx [some (.tup [.str "set", .int i, x.d]), some (.str "set"), none, none] S := (s_iteF (S1 := S) (by simp)).trans rfl
    show fnEnd (dSs G (run T G wf (k + x.lv + 1)) wf (B_statement_text tx) [some (.tup [.str "set", .int i, x.d]), none, none, none] S) = _
    rw [stp0 rfl s0, stp rfl s1]
    refine e_ret (s := (B_statement_text tx).at 2) rfl ((s_iteT (S1 := S) (by simp)).trans ?_)
    have tE : (Stm.set i x).tx = [115, 101, 116, 32] ++ [48 + i] ++ [32] ++ x.tx := by simp [Stm.tx]
    rw [tE, q_scons, then_rt (s_ret1 (e_fs4 (a := [115, 101, 116, 32]) (b := [48 + i]) (c := [32]) (d := x.tx) (S1 := S) (S2 := S) (S3 := S) (S4 := S) (by simp [l_set]) (e_fmtN (n := i) (by simp [PE.ix1]) h.1) (by simp [l_sp]) (e_fmtS (e_call1 (x := x.d) (S1 := S) (by simp [PE.ix2]) ex) (by omega)) (by simp; omega)))]
  | .stop, k, _, _ => by
    show run T G wf (k + 1) tx.statement_text [.tup [.str "stop"]] S = _
    rw [run_succ (fn := ⟨1, 4, B_statement_text tx⟩) A.statement_text rfl]
    simp [B_statement_text, slots0, fnEnd, PE.ix0, Stm.tx]
    exact l_stop
  | .iff x a b, k, h, hl => by
    simp only [Stm.digs, Bool.and_eq_true] at h
    have hx : x.tx.length + a.tx.length + b.tx.length + 9 ≤ 1000000 := by simp [Stm.tx] at hl; omega
    have fuE : (Stm.iff x a b).fu = max (x.lv + 1) (max a.fu b.fu) + 1 := rfl
    generalize hm : max (x.lv + 1) (max a.fu b.fu) = m at fuE
    have ex := sx_ok (wf := wf) A (S := S) x (k + m - (x.lv + 1)) h.1.1 (by omega)
    have ea := btx_ok A (S := S) a (k + m - a.fu) h.1.2 (by omega)
    have eb := btx_ok A (S := S) b (k + m - b.fu) h.2 (by omega)
    rw [show k + m - (x.lv + 1) + x.lv + 1 = k + m by omega] at ex
    rw [show k + m - a.fu + a.fu = k + m by omega] at ea
    rw [show k + m - b.fu + b.fu = k + m by omega] at eb
    rw [fuE, show k + (m + 1) = (k + m) + 1 by omega, run_succ (fn := ⟨1, 4, B_statement_text tx⟩) A.statement_text rfl]
    let dd : D := .tup [.str "if", x.d, .tup a.ds, .tup b.ds]
    have s0 : dS G (run T G wf (k + m)) wf ((B_statement_text tx).at 0) [some dd, none, none, none] S = .ok .nx [some dd, some (.str "if"), none, none] S := s_asg1 (i := 1) (by simp [PE.ix0, dd])
    have s1 : dS G (run T G wf (k + m)) wf ((B_statement_text tx).at 1) [some dd, some (.str "if"), none, none] S = .ok .nx [some dd, some (.str "if"), none, none] S := (s_iteF (S1 := S) (by simp)).trans rfl
    have s2 : dS G (run T G wf (k + m)) wf ((B_statement_text tx).at 2) [some dd, some (.str "if"), none, none] S = .ok .nx [some dd, some (.str "if"), none, none] S := (s_iteF (S1 := S) (by simp)).trans rfl
    have s3 : dS G (run T G wf (k + m)) wf ((B_statement_text tx).at 3) [some dd, some (.str "if"), none, none] S = .ok .nx [some dd, some (.str "if"), none, none] S := (s_iteF (S1 := S) (by simp)).trans rfl
    have s4 : dS G (run T G wf (k + m)) wf ((B_statement_text tx).at 4) [some dd, some (.str "if"), none, none] S = .ok .nx [some dd, some (.str "if"), some (.str (sl a.tx)), some (.str (sl b.tx))] S := par_2 (i := 2) (j := 3) (S1 := S) (e_call1 (x := .tup a.ds) (S1 := S) (by simp [dd, PE.ix2]) ea) (e_call1 (x := .tup b.ds) (S1 := S) (by simp [dd, PE.ix3]) eb)
    show fnEnd (dSs G (run T G wf (k + m)) wf (B_statement_text tx) [some dd, none, none, none] S) = _
    rw [stp0 rfl s0, stp rfl s1, stp rfl s2, stp rfl s3, stp rfl s4]
    have tE : (Stm.iff x a b).tx = [105, 102, 32] ++ x.tx ++ [32, 123] ++ a.tx ++ [125, 32, 123] ++ b.tx ++ [125] := by simp [Stm.tx]
    have l_bb : ("} {" : Str) = sl [125, 32, 123] := by decide +kernel
    rw [tE]
    refine e_ret (s := (B_statement_text tx).at 5) rfl (s_ret1 ?_)
    refine e_add (S1 := S) (e_add (S1 := S) (e_add (S1 := S) (e_add (S1 := S) (e_add (S1 := S) (e_add (S1 := S) (a := [105, 102, 32]) (by simp [l_if]) (e_call1 (x := x.d) (S1 := S) (by simp [dd, PE.ix1]) ex) ?_) (b := [32, 123]) (by simp [l_br]) ?_) (b := a.tx) (by simp) ?_) (b := [125, 32, 123]) (by simp [l_bb]) ?_) (b := b.tx) (by simp) ?_) (b := [125]) (by simp [l_bc]) ?_
    all_goals simp; omega
theorem btx_ok (A : WsA T G tx) {S : Sto} : ∀ (b : Blk) (k : Nat), b.digs = true → b.tx.length ≤ 1000000 → run T G wf (k + b.fu) tx.block_text [.tup b.ds] S = .ok (.str (sl b.tx)) S
  | b, k, h, hl => by
    have hp : 1 ≤ b.fu := by
      cases b with
      | nil => simp [Blk.fu]
      | cons s b => simp [Blk.fu]; omega
    rw [show k + b.fu = (k + b.fu - 1) + 1 by omega]
    exact bx_of A (btx_all A b (k + b.fu - 1) h hl (by omega)) hl
theorem btx_all (A : WsA T G tx) {S : Sto} : ∀ (b : Blk) (m : Nat), b.digs = true → b.tx.length ≤ 1000000 → b.fu ≤ m + 1 → ∀ s, s ∈ b.l → run T G wf m tx.statement_text [s.d] S = .ok (.str (sl s.tx)) S
  | .nil, m, _, _, _, s, hs => by simp [Blk.l] at hs
  | .cons s0 b, m, h, hl, hm, s, hs => by
    simp only [Blk.digs, Bool.and_eq_true] at h
    have hm2 : max (s0.fu + 1) b.fu ≤ m + 1 := hm
    have hlen : s0.tx.length ≤ 1000000 ∧ b.tx.length ≤ 1000000 := by
      cases b with
      | nil => rw [Blk.tx_one] at hl; exact ⟨hl, by simp [Blk.tx]⟩
      | cons _ _ => rw [Blk.tx_cons _ _ (by simp)] at hl; simp at hl; omega
    simp only [Blk.l, List.mem_cons] at hs
    rcases hs with hs | hs
    · have := stx_ok A (S := S) s0 (m - s0.fu) h.1 hlen.1
      rw [show m - s0.fu + s0.fu = m by omega] at this
      rw [hs]
      exact this
    · exact btx_all A b m h.2 hlen.2 (by omega) s hs
end
end
end Z

/-! Whole programs: their texts; which are programs. -/
namespace Z
open PySem PySem.Spec PyProof.Rows L2
def lineTx (w : Cs) : Blk → Cs
  | .nil => w
  | .cons s b => w ++ 32 :: (Blk.cons s b).tx
def Prog.lns (P : Prog) : List Cs := [wLetters ++ [32, 48 + P.kn, 32, 48 + P.se], wWorks ++ [32, 48 + P.p], wCells ++ 32 :: TL.joinL [32] (P.cells.map fun c => [48 + c]), lineTx wBody P.body, lineTx wTail P.tail]
def Prog.tx (P : Prog) : Cs := TL.joinL [10] P.lns
/-- signs of texts -/
theorem Fm.vis {f : Fm} : ∀ c ∈ f.tx, 40 ≤ c := by
  induction f with
  | num n => intro c hc; simp [Fm.tx] at hc; omega
  | known => intro c hc; simp [Fm.tx] at hc; omega
  | secret => intro c hc; simp [Fm.tx] at hc; omega
  | cell i => intro c hc; simp [Fm.tx] at hc; omega
  | op o a b iha ihb =>
    intro c hc
    simp only [Fm.tx, List.mem_cons, List.mem_append, List.not_mem_nil, or_false] at hc
    rcases hc with rfl | hc | rfl | hc | rfl
    · decide
    · exact iha c hc
    · cases o <;> decide
    · exact ihb c hc
    · decide
mutual
theorem Stm.vis : ∀ (s : Stm), ∀ c ∈ s.tx, 32 ≤ c
  | .do_ _, c, hc => by simp [Stm.tx] at hc; omega
  | .set _ x, c, hc => by
    simp only [Stm.tx, List.mem_append, List.mem_cons, List.not_mem_nil, or_false] at hc
    rcases hc with hc | hc
    · omega
    · have := Fm.vis c hc; omega
  | .stop, c, hc => by simp [Stm.tx] at hc; omega
  | .iff x a b, c, hc => by
    simp only [Stm.tx, List.mem_append, List.mem_cons, List.not_mem_nil, or_false] at hc
    rcases hc with hc | hc | hc | hc | hc | hc | hc
    · omega
    · have := Fm.vis c hc; omega
    · omega
    · exact Blk.vis a c hc
    · omega
    · exact Blk.vis b c hc
    · omega
theorem Blk.vis : ∀ (b : Blk), ∀ c ∈ b.tx, 32 ≤ c
  | .nil, c, hc => by simp [Blk.tx] at hc
  | .cons s .nil, c, hc => by rw [Blk.tx_one] at hc; exact Stm.vis s c hc
  | .cons s (.cons s2 b), c, hc => by
    rw [Blk.tx_cons _ _ (by simp)] at hc
    simp only [List.mem_append, List.mem_cons] at hc
    rcases hc with hc | hc | hc | hc
    · exact Stm.vis s c hc
    · omega
    · omega
    · exact Blk.vis (.cons s2 b) c hc
end
/-- what a text can tell -/
structure Dig (P : Prog) : Prop where
  kn : P.kn < 10
  se : P.se < 10
  p : P.p < 10
  cl : ∀ c ∈ P.cells, c < 10
theorem nums_two {w : Cs} {a b : Nat} (hw : 32 ∉ w) (ha : a < 10) (hb : b < 10) : pNums w (w ++ [32, 48 + a, 32, 48 + b]) = [a, b] := by
  have e : sp1 32 (w ++ [32, 48 + a, 32, 48 + b]) = [w, [48 + a], [48 + b]] := by
    rw [show w ++ [32, 48 + a, 32, 48 + b] = w ++ 32 :: ([48 + a] ++ 32 :: [48 + b]) by simp, sp1_app hw, sp1_app (by simp; omega), sp1_one (by simp; omega)]
  unfold pNums
  rw [e]
  simp [one1, num1, dg_add ha, dg_add hb]
theorem nums_one {w : Cs} {a : Nat} (hw : 32 ∉ w) (ha : a < 10) : pNums w (w ++ [32, 48 + a]) = [a] := by
  have e : sp1 32 (w ++ [32, 48 + a]) = [w, [48 + a]] := by
    rw [show w ++ [32, 48 + a] = w ++ 32 :: [48 + a] by simp, sp1_app hw, sp1_one (by simp; omega)]
  unfold pNums
  rw [e]
  simp [one1, num1, dg_add ha]
theorem sp1_cells : ∀ {cs : List Nat}, cs ≠ [] → (∀ c ∈ cs, c < 10) → sp1 32 (TL.joinL [32] (cs.map fun c => [48 + c])) = cs.map fun c => [48 + c]
  | [], h, _ => absurd rfl h
  | [c], _, h => by
    show sp1 32 [48 + c] = _
    rw [sp1_one (by simp; omega)]; rfl
  | c :: d :: cs, _, h => by
    have ih := sp1_cells (cs := d :: cs) (by simp) fun x hx => h x (by simp at hx ⊢; right; exact hx)
    show sp1 32 ([48 + c] ++ ([32] ++ TL.joinL [32] ((d :: cs).map fun c => [48 + c]))) = _
    rw [show [48 + c] ++ ([32] ++ TL.joinL [32] ((d :: cs).map fun c => [48 + c])) = [48 + c] ++ 32 :: TL.joinL [32] ((d :: cs).map fun c => [48 + c]) from rfl, sp1_app (by simp; omega), ih]
    rfl
theorem nums_cells {w : Cs} {cs : List Nat} (hw : 32 ∉ w) (h : ∀ c ∈ cs, c < 10) : pNums w (w ++ 32 :: TL.joinL [32] (cs.map fun c => [48 + c])) = cs := by
  unfold pNums
  rw [sp1_app hw]
  cases cs with
  | nil => simp [sp1, TL.joinL, one1]
  | cons c cs =>
    rw [sp1_cells (by simp) h]
    have ha : ((c :: cs).map fun c => [48 + c]).all one1 = true := by
      rw [List.all_eq_true]
      intro x hx
      obtain ⟨y, hy, rfl⟩ := List.mem_map.mp hx
      exact dg_add (h y hy)
    simp only [ha, and_self, ↓reduceIte, List.map_map]
    rw [show (num1 ∘ fun c => [48 + c]) = id by funext x; simp [num1], List.map_id]
theorem line_tx {w : Cs} {b : Blk} (h : b.fits 12 = true) : pLine w (lineTx w b) = some b := by
  cases b with
  | nil => simp [pLine, lineTx]
  | cons s b =>
    have h4 : 4 ≤ (Blk.cons s b).tx.length := by
      have := s.tx_ge
      cases b with
      | nil => rw [Blk.tx_one]; exact this
      | cons _ _ => rw [Blk.tx_cons _ _ (by simp)]; simp; omega
    have e : lineTx w (.cons s b) = (w ++ [32]) ++ (Blk.cons s b).tx := by simp [lineTx]
    unfold pLine
    rw [if_neg (by rw [e]; intro z; have := congrArg List.length z; simp at this), if_pos ⟨by rw [e, show w.length + 1 = (w ++ [32]).length by simp, List.take_left], by rw [e]; intro z; simp only [List.length_append, List.length_cons, List.length_nil] at z; omega⟩]
    rw [e, show w.length + 1 = (w ++ [32]).length by simp, List.drop_left]
    have := pBlk_complete (f := pSt 12) (n := 12) (fun s r h => pSt_complete h) (b := .cons s b) (r := []) h (fun z => by simp at z) (fun _ r' z => by simp at z)
    rw [List.append_nil] at this
    simp only [this]
theorem sp1_lns {s : Nat} : ∀ {ps : List Cs}, ps ≠ [] → (∀ p ∈ ps, s ∉ p) → sp1 s (TL.joinL [s] ps) = ps
  | [], h, _ => absurd rfl h
  | [p], _, h => sp1_one (h p (by simp))
  | p :: q :: ps, _, h => by
    have ih := sp1_lns (s := s) (ps := q :: ps) (by simp) fun x hx => h x (by simp at hx ⊢; right; exact hx)
    show sp1 s (p ++ ([s] ++ TL.joinL [s] (q :: ps))) = _
    rw [show p ++ ([s] ++ TL.joinL [s] (q :: ps)) = p ++ s :: TL.joinL [s] (q :: ps) from rfl, sp1_app (h p (by simp)), ih]
theorem cells_vis {cs : List Nat} : ∀ c ∈ TL.joinL [32] (cs.map fun c => [48 + c]), 32 ≤ c := by
  induction cs with
  | nil => intro c hc; simp [TL.joinL] at hc
  | cons a cs ih =>
    intro c hc
    cases cs with
    | nil => simp [TL.joinL] at hc; omega
    | cons b cs =>
      simp only [List.map_cons, TL.joinL, List.mem_append, List.mem_cons, List.not_mem_nil, or_false] at hc ih
      rcases hc with hc | hc | hc
      · omega
      · omega
      · exact ih c hc
theorem line_vis {w : Cs} (hw : ∀ c ∈ w, 32 ≤ c) {b : Blk} : ∀ c ∈ lineTx w b, 32 ≤ c := by
  intro c hc
  cases b with
  | nil => exact hw c hc
  | cons s b =>
    simp only [lineTx, List.mem_append, List.mem_cons] at hc
    rcases hc with hc | hc | hc
    · exact hw c hc
    · omega
    · exact Blk.vis _ c hc
theorem lns_vis {P : Prog} : ∀ l ∈ P.lns, ∀ c ∈ l, 32 ≤ c := by
  intro l hl c hc
  simp only [Prog.lns, List.mem_cons, List.not_mem_nil, or_false] at hl
  rcases hl with rfl | rfl | rfl | rfl | rfl
  · simp [wLetters] at hc; omega
  · simp [wWorks] at hc; omega
  · simp only [List.mem_append, List.mem_cons] at hc
    rcases hc with hc | hc | hc
    · simp [wCells] at hc; omega
    · omega
    · exact cells_vis c hc
  · exact line_vis (by decide) c hc
  · exact line_vis (by decide) c hc
/-- what is written is read -/
theorem prog_tx {P : Prog} (d : Dig P) (hb : P.body.fits 12 = true) (ht : P.tail.fits 12 = true) : pProg P.tx = some P := by
  have e : sp1 10 P.tx = P.lns := sp1_lns (by simp [Prog.lns]) fun p hp z => by have := lns_vis p hp 10 z; omega
  unfold pProg
  rw [e]
  simp only [Prog.lns]
  rw [nums_two (by decide) d.kn d.se, nums_one (by decide) d.p, nums_cells (by decide) d.cl, line_tx hb, line_tx ht]
/-! ### validity -/
theorem okS_fm {w : Nat} : ∀ {f : Fm} {n : Nat}, f.ok w = true → f.lv < n → PE.okS n w f.d = true
  | .num m, n + 1, h, _ => by
    simp only [Fm.ok, decide_eq_true_eq] at h
    simp [Fm.d, PE.okS, PE.isInt]; omega
  | .known, n + 1, _, _ => by simp [Fm.d, PE.okS]
  | .secret, n + 1, _, _ => by simp [Fm.d, PE.okS]
  | .cell i, n + 1, h, _ => by
    simp only [Fm.ok, decide_eq_true_eq] at h
    simp [Fm.d, PE.okS, PE.isTup, PE.isInt]; omega
  | .op o a b, n + 1, h, hn => by
    simp only [Fm.ok, Bool.and_eq_true] at h
    simp only [Fm.lv] at hn
    have h1 := okS_fm (n := n) h.1 (by omega)
    have h2 := okS_fm (n := n) h.2 (by omega)
    have ho : PE.isOp o.s = true := by cases o <;> decide +kernel
    simp [Fm.d, PE.okS, PE.isTup, h1, h2, ho]
mutual
/-- on levels n at most -/
def Stm.inl (n : Nat) : Stm → Bool
  | .do_ _ => decide (0 < n)
  | .set _ x => decide (x.lv + 1 < n)
  | .stop => decide (0 < n)
  | .iff x a b => decide (x.lv + 1 < n) && a.inl (n - 1) && b.inl (n - 1)
def Blk.inl (n : Nat) : Blk → Bool
  | .nil => true
  | .cons s b => s.inl n && b.inl n
end
mutual
theorem okSt_st {p w : Nat} : ∀ (s : Stm) {n : Nat}, s.ok p w = true → s.inl n = true → PE.okSt n p w s.d = true
  | .do_ i, 0, _, hn => by simp [Stm.inl] at hn
  | .do_ i, n + 1, h, _ => by
    simp only [Stm.ok, decide_eq_true_eq] at h
    simp [Stm.d, PE.okSt, PE.isTup, PE.isInt]; omega
  | .set i x, 0, _, hn => by simp [Stm.inl] at hn
  | .set i x, n + 1, h, hn => by
    simp only [Stm.ok, Bool.and_eq_true, decide_eq_true_eq] at h
    simp only [Stm.inl, decide_eq_true_eq] at hn
    have := okS_fm (n := n) h.2 (by omega)
    simp [Stm.d, PE.okSt, PE.isTup, PE.isInt, this]; omega
  | .stop, 0, _, hn => by simp [Stm.inl] at hn
  | .stop, n + 1, _, _ => by simp [Stm.d, PE.okSt, PE.isTup]
  | .iff x a b, 0, _, hn => by simp [Stm.inl] at hn
  | .iff x a b, n + 1, h, hn => by
    simp only [Stm.ok, Bool.and_eq_true] at h
    simp only [Stm.inl, Bool.and_eq_true, decide_eq_true_eq, Nat.add_sub_cancel] at hn
    have h1 := okS_fm (n := n) h.1.1 (by omega)
    have h2 := okBk_bl a (n := n) h.1.2 hn.1.2
    have h3 := okBk_bl b (n := n) h.2 hn.2
    simp [Stm.d, PE.okSt, PE.isTup, PE.okBk, h1] at h2 h3 ⊢
    exact ⟨h2, h3⟩
theorem okBk_bl {p w : Nat} : ∀ (b : Blk) {n : Nat}, b.ok p w = true → b.inl n = true → PE.okBk (PE.okSt n p w) (.tup b.ds) = true
  | .nil, n, _, _ => by simp [Blk.ds, PE.okBk]
  | .cons s b, n, h, hn => by
    simp only [Blk.ok, Blk.inl, Bool.and_eq_true] at h hn
    have h1 := okSt_st s h.1 hn.1
    have h2 := okBk_bl b h.2 hn.2
    simp only [PE.okBk, Blk.ds, List.all_cons, h1, Bool.true_and] at h2 ⊢
    exact h2
end
theorem nS_sz : ∀ {f : Fm} {n : Nat}, f.lv < n → PE.nS n f.d = f.sz
  | .num _, n + 1, _ => by simp [Fm.d, PE.nS, Fm.sz]
  | .known, n + 1, _ => by simp [Fm.d, PE.nS, Fm.sz]
  | .secret, n + 1, _ => by simp [Fm.d, PE.nS, Fm.sz]
  | .cell _, n + 1, _ => by simp [Fm.d, PE.nS, Fm.sz]
  | .op _ a b, n + 1, h => by
    simp only [Fm.lv] at h
    simp [Fm.d, PE.nS, Fm.sz, nS_sz (f := a) (n := n) (by omega), nS_sz (f := b) (n := n) (by omega)]
    omega
mutual
theorem nT_sz : ∀ (s : Stm) {n : Nat}, s.inl n = true → PE.nT n s.d = s.sz
  | .do_ _, 0, h => by simp [Stm.inl] at h
  | .do_ _, n + 1, _ => by simp [Stm.d, PE.nT, Stm.sz]
  | .set _ x, 0, h => by simp [Stm.inl] at h
  | .set _ x, n + 1, h => by
    simp only [Stm.inl, decide_eq_true_eq] at h
    simp [Stm.d, PE.nT, Stm.sz, nS_sz (f := x) (n := n) (by omega)]
  | .stop, 0, h => by simp [Stm.inl] at h
  | .stop, n + 1, _ => by simp [Stm.d, PE.nT, Stm.sz]
  | .iff x a b, 0, h => by simp [Stm.inl] at h
  | .iff x a b, n + 1, h => by
    simp only [Stm.inl, Bool.and_eq_true, decide_eq_true_eq, Nat.add_sub_cancel] at h
    simp [Stm.d, PE.nT, Stm.sz, nS_sz (f := x) (n := n) (by omega), nB_sz a h.1.2, nB_sz b h.2]
theorem nB_sz : ∀ (b : Blk) {n : Nat}, b.inl n = true → (b.ds.map (PE.nT n)).sum = b.sz
  | .nil, n, _ => by simp [Blk.ds, Blk.sz]
  | .cons s b, n, h => by
    simp only [Blk.inl, Bool.and_eq_true] at h
    simp [Blk.ds, Blk.sz, nT_sz s h.1, nB_sz b h.2]
end
/-- a program of the document -/
structure Val (P : Prog) : Prop where
  kn : 1 ≤ P.kn ∧ P.kn ≤ 3
  se : 1 ≤ P.se ∧ P.se ≤ 3
  p : 1 ≤ P.p ∧ P.p ≤ 5
  cl : 1 ≤ P.cells.length ∧ P.cells.length ≤ 4
  cs : ∀ c ∈ P.cells, 2 ≤ c ∧ c ≤ 4
  pr : P.cells.foldl (· * ·) 1 ≤ 24
  bok : P.body.ok P.p P.cells.length = true
  tok : P.tail.ok P.p P.cells.length = true
  bin : P.body.inl 12 = true
  tin : P.tail.inl 12 = true
  sz : P.body.sz + P.tail.sz ≤ 400
theorem prodD_nat : ∀ (cs : List Nat) (a : Nat), (cs.map fun (c : Nat) => D.int c).foldl (fun a x => a * PE.intOf x) (a : Int) = ((cs.foldl (· * ·) a : Nat) : Int)
  | [], a => rfl
  | c :: cs, a => by
    show (cs.map fun (c : Nat) => D.int c).foldl (fun a x => a * PE.intOf x) ((a : Int) * (c : Int)) = _
    rw [show (a : Int) * (c : Int) = ((a * c : Nat) : Int) by simp, prodD_nat cs (a * c)]
    rfl
theorem Val.err {P : Prog} (v : Val P) : PE.errD P.d = .non := by
  have hb := okBk_bl P.body v.bok v.bin
  have ht := okBk_bl P.tail v.tok v.tin
  have hC : PE.okC (.tup (P.cells.map fun (c : Nat) => D.int c)) = true := by
    have h1 := v.cl
    have hp : PE.prodD (P.cells.map fun (c : Nat) => D.int c) ≤ 24 := by
      have h0 := prodD_nat P.cells 1
      rw [show ((1 : Nat) : Int) = 1 from rfl] at h0
      have := v.pr
      unfold PE.prodD
      omega
    have ha : (P.cells.map fun (c : Nat) => D.int c).all (PE.isInt 2 4) = true := by
      rw [List.all_eq_true]
      intro x hx
      obtain ⟨c, hc, rfl⟩ := List.mem_map.mp hx
      have := v.cs c hc
      simp [PE.isInt]; omega
    simp only [PE.okC, List.length_map, ha, hp, decide_true, Bool.and_true, Bool.true_and, Bool.and_eq_true, decide_eq_true_eq]
    exact h1
  have hs := v.sz
  have e1 : PE.nB 12 (.tup P.body.ds) = P.body.sz := nB_sz _ v.bin
  have e2 : PE.nB 12 (.tup P.tail.ds) = P.tail.sz := nB_sz _ v.tin
  have l1 : PE.intOf (.int (P.p : Int)) = (P.p : Int) := rfl
  have l2 : PE.lenOf (.tup (P.cells.map fun (c : Nat) => D.int c)) = P.cells.length := by simp [PE.lenOf]
  rw [Prog.d, PE.errD6, if_neg (by have := v.kn; have := v.se; simp [PE.isInt]; omega), if_neg (by have := v.p; simp [PE.isInt]; omega), if_neg (by rw [hC]; decide), l1, l2, if_neg (by rw [hb]; decide), if_neg (by rw [ht]; decide), if_neg (by rw [e1, e2]; omega)]
theorem Val.okP {P : Prog} (v : Val P) : okP P.d = true := by unfold Z.okP; rw [v.err]
end Z

/-! The laws' own texts. Bodies printed by mkzto.py. -/
namespace Z
open PySem PySem.Spec PyProof.Rows L2
structure Lx where
  law_sum_text : Nat
  law_statement_text : Nat
  law_block_text : Nat
  law_text : Nat
def B_law_sum_text (lx : Lx) : Ss := (.cons (.ite (.tru (.isi (.v 0) .int)) (.cons (.ret (.bf .str (.cons (.v 0) .nil))) .nil) .nil) (.cons (.ite (.tru (.isi (.v 0) .str)) (.cons (.ret (.ix (.v 0) (.c (.int 0)))) .nil) .nil) (.cons (.ite (.cmp .Eq (.bf .len (.cons (.v 0) .nil)) (.c (.int 2))) (.cons (.ret (.op .Add (.c (.str "c")) (.bf .str (.cons (.ix (.v 0) (.c (.int 1))) .nil)))) .nil) .nil) (.cons (.asg (.nm 1) (.dsel ["plus", "times", "less", "same"] (.cons (.c (.str "+")) (.cons (.c (.str "*")) (.cons (.c (.str "<")) (.cons (.c (.str "=")) .nil)))) (.ix (.v 0) (.c (.int 0))))) (.cons (.ret (.op .Add (.op .Add (.op .Add (.op .Add (.c (.str "(")) (.call lx.law_sum_text (.cons (.ix (.v 0) (.c (.int 1))) .nil))) (.v 1)) (.call lx.law_sum_text (.cons (.ix (.v 0) (.c (.int 2))) .nil))) (.c (.str ")")))) .nil)))))
def B_law_statement_text (lx : Lx) : Ss := (.cons (.ite (.cmp .Eq (.ix (.v 0) (.c (.int 0))) (.c (.str "if"))) (.cons (.asg (.nm 2) (.lc false (.nm 4) (.seq (.sl (.v 0) (.some (.c (.int 2))) .none)) .none (.op .Add (.op .Add (.c (.str " {")) (.call lx.law_block_text (.cons (.v 4) .nil))) (.c (.str "}"))) [("_law_block_here", 4)])) (.cons (.ret (.op .Add (.op .Add (.c (.str "if ")) (.call lx.law_sum_text (.cons (.ix (.v 0) (.c (.int 1))) .nil))) (.sm .join (.c (.str "")) (.v 2)))) .nil)) .nil) (.cons (.asg (.nm 1) (.lc false (.nm 3) (.seq (.sl (.v 0) .none (.some (.c (.int 2))))) .none (.bf .str (.cons (.v 3) .nil)) [("_law_part", 3)])) (.cons (.ret (.sm .join (.c (.str " ")) (.op .Add (.v 1) (.lc false (.nm 5) (.seq (.sl (.v 0) (.some (.c (.int 2))) .none)) .none (.call lx.law_sum_text (.cons (.v 5) .nil)) [("_law_value", 5)])))) .nil)))
def B_law_block_text (lx : Lx) : Ss := (.cons (.ret (.sm .join (.c (.str "; ")) (.lc false (.nm 1) (.seq (.v 0)) .none (.call lx.law_statement_text (.cons (.v 1) .nil)) [("_law_statement_here", 1)]))) .nil)
def B_law_text (lx : Lx) : Ss := (.cons (.asg (.tup (.cons (.nm 2) (.cons (.nm 3) (.cons (.nm 4) (.cons (.nm 5) (.cons (.nm 6) (.cons (.nm 7) .nil))))))) (.v 0)) (.cons (.asg (.nm 1) (.lst true (.cons (.op .Add (.op .Add (.op .Add (.c (.str "letters ")) (.bf .str (.cons (.v 2) .nil))) (.c (.str " "))) (.bf .str (.cons (.v 3) .nil))) (.cons (.op .Add (.c (.str "works ")) (.bf .str (.cons (.v 4) .nil))) .nil)))) (.cons (.ex (.app (.v 1) (.cons (.sm .join (.c (.str " ")) (.op .Add (.lst false (.cons (.c (.str "cells")) .nil)) (.lc false (.nm 10) (.seq (.v 5)) .none (.bf .str (.cons (.v 10) .nil)) [("_law_size", 10)]))) .nil))) (.cons (.for_ (.tup (.cons (.nm 8) (.cons (.nm 9) .nil))) (.seq (.lst false (.cons (.tup (.cons (.c (.str "body")) (.cons (.v 6) .nil))) (.cons (.tup (.cons (.c (.str "tail")) (.cons (.v 7) .nil))) .nil)))) (.cons (.ex (.app (.v 1) (.cons (.sm .strip (.op .Add (.op .Add (.v 8) (.c (.str " "))) (.call lx.law_block_text (.cons (.v 9) .nil))) (.c (.str " "))) .nil))) .nil)) (.cons (.ret (.sm .join (.c (.str "\n")) (.v 1))) .nil)))))
structure LtxA (T : List Fn) (lx : Lx) : Prop where
  law_sum_text : T[lx.law_sum_text]? = some ⟨1, 2, B_law_sum_text lx⟩
  law_statement_text : T[lx.law_statement_text]? = some ⟨1, 6, B_law_statement_text lx⟩
  law_block_text : T[lx.law_block_text]? = some ⟨1, 2, B_law_block_text lx⟩
structure LtpA (T : List Fn) (lx : Lx) : Prop extends LtxA T lx where
  law_text : T[lx.law_text]? = some ⟨1, 11, B_law_text lx⟩
instance {T : List Fn} {lx : Lx} : CoeOut (LtpA T lx) (LtxA T lx) := ⟨LtpA.toLtxA⟩
theorem look_lsigns {o : Opr} : ((["plus", "times", "less", "same"] : List Str).zip [D.str "+", .str "*", .str "<", .str "="]).lookup o.s = some (.str (sl [o.c])) := by cases o <;> kernel_rfl
theorem l_if0 : (("if" : Str) = "if") = True := by simp
theorem sign0 {S : Sto} {x : Str} {c : Nat} {l : Cs} (h : x = sl (c :: l)) (hl : l.length ≤ 1000) : ixP S (.str x) (.int 0) = some (.str (sl [c])) := by
  subst h
  unfold ixP
  simp [sl, L2.atI, Str.length, ixN]
  omega
theorem l_known : ("known" : Str) = sl [107, 110, 111, 119, 110] := by decide +kernel
theorem l_secret : ("secret" : Str) = sl [115, 101, 99, 114, 101, 116] := by decide +kernel
theorem l_doW : ("do" : Str) = sl [100, 111] := by decide +kernel
theorem l_setW : ("set" : Str) = sl [115, 101, 116] := by decide +kernel
section
variable {T : List Fn} {G : Ev} {wf : Nat} {lx : Lx}
theorem e_retS {C : Nat → List D → Sto → Out D} {sd sd1 : Sl} {S S1 : Sto} {a : Ss} {b : Ss} {s : Z.S1} {x : D} (hs : b = .cons s a) (h : dS G C wf s sd S = .ok (.rt x) sd1 S1) : fnEnd (dSs G C wf b sd S) = .ok x S1 := by
  rw [hs, q_scons, then_rt h]; rfl
theorem lsx_ok (A : LtxA T lx) {S : Sto} : ∀ (f : Fm) (k : Nat), f.dig = true → f.tx.length ≤ 1000000 → run T G wf (k + f.lv + 1) lx.law_sum_text [f.d] S = .ok (.str (sl f.tx)) S
  | .num n, k, h, _ => by
    have hn : n < 10 := by simpa [Fm.dig] using h
    rw [run_succ (fn := ⟨1, 2, B_law_sum_text lx⟩) A.law_sum_text rfl]
    simp [B_law_sum_text, slots0, fnEnd, Fm.d, Fm.tx, str_dig hn]
  | .known, k, _, _ => by
    rw [run_succ (fn := ⟨1, 2, B_law_sum_text lx⟩) A.law_sum_text rfl]
    simp [B_law_sum_text, slots0, fnEnd, Fm.d, Fm.tx, sign0 (S := S) l_known (by decide)]
  | .secret, k, _, _ => by
    rw [run_succ (fn := ⟨1, 2, B_law_sum_text lx⟩) A.law_sum_text rfl]
    simp [B_law_sum_text, slots0, fnEnd, Fm.d, Fm.tx, sign0 (S := S) l_secret (by decide)]
  | .cell i, k, h, _ => by
    have hn : i < 10 := by simpa [Fm.dig] using h
    rw [run_succ (fn := ⟨1, 2, B_law_sum_text lx⟩) A.law_sum_text rfl]
    have ad : addP S (.str (sl [99])) (.str (sl [48 + i])) = some (.str (sl [99, 48 + i])) := add_sl (by simp)
    simp [B_law_sum_text, slots0, fnEnd, Fm.d, Fm.tx, PE.ix0, PE.ix1, str_dig hn, l_c, ad]
  | .op o a b, k, h, hl => by
    simp only [Fm.dig, Bool.and_eq_true] at h
    have hl' : a.tx.length + b.tx.length + 3 ≤ 1000000 := by simp [Fm.tx] at hl; omega
    have lvE : (Fm.op o a b).lv = max a.lv b.lv + 1 := rfl
    have ea := lsx_ok A (S := S) a (k + max a.lv b.lv - a.lv) h.1 (by omega)
    have eb := lsx_ok A (S := S) b (k + max a.lv b.lv - b.lv) h.2 (by omega)
    rw [show k + max a.lv b.lv - a.lv + a.lv + 1 = k + (max a.lv b.lv + 1) by omega] at ea
    rw [show k + max a.lv b.lv - b.lv + b.lv + 1 = k + (max a.lv b.lv + 1) by omega] at eb
    rw [lvE, run_succ (fn := ⟨1, 2, B_law_sum_text lx⟩) A.law_sum_text rfl]
    let dd : D := .tup [.str o.s, a.d, b.d]
    have ls := look_lsigns (o := o)
    have s0 : dS G (run T G wf (k + (max a.lv b.lv + 1))) wf ((B_law_sum_text lx).at 0) [some dd, none] S = .ok .nx [some dd, none] S := (s_iteF (S1 := S) (by simp [dd])).trans rfl
    have s1 : dS G (run T G wf (k + (max a.lv b.lv + 1))) wf ((B_law_sum_text lx).at 1) [some dd, none] S = .ok .nx [some dd, none] S := (s_iteF (S1 := S) (by simp [dd])).trans rfl
    have s2 : dS G (run T G wf (k + (max a.lv b.lv + 1))) wf ((B_law_sum_text lx).at 2) [some dd, none] S = .ok .nx [some dd, none] S := (s_iteF (S1 := S) (by simp [dd])).trans rfl
    have s3 : dS G (run T G wf (k + (max a.lv b.lv + 1))) wf ((B_law_sum_text lx).at 3) [some dd, none] S = .ok .nx [some dd, some (.str (sl [o.c]))] S := s_asg1 (i := 1) (by
      simp only [q_edsel, q_mDsel, q_lcons, q_mCons, q_ec, q_mC, q_lnil, q_mNil, q_eix, q_mBin, q_ev, q_mVar (i := 0) (sd := [some dd, none]) (d := dd) rfl, q_liftS, show ixP S dd (.int 0) = some (.str o.s) from PE.ix0, ls])
    show fnEnd (dSs G (run T G wf (k + (max a.lv b.lv + 1))) wf (B_law_sum_text lx) [some dd, none] S) = _
    rw [stp0 rfl s0, stp rfl s1, stp rfl s2, stp rfl s3, Fm.tx_op]
    refine e_ret (s := (B_law_sum_text lx).at 4) rfl (s_ret1 ?_)
    refine e_add (S1 := S) (e_add (S1 := S) (e_add (S1 := S) (e_add (S1 := S) (a := [40]) (by simp [l_po]) (e_call1 (x := a.d) (S1 := S) (by simp [dd, PE.ix1]) ea) ?_) (b := [o.c]) (by simp) ?_) (b := b.tx) (e_call1 (x := b.d) (S1 := S) (by simp [dd, PE.ix2]) eb) ?_) (b := [41]) (by simp [l_pc]) ?_
    all_goals simp; omega
theorem lbx_of (A : LtxA T lx) {S : Sto} {k : Nat} : ∀ {b : Blk}, (∀ s, s ∈ b.l → run T G wf k lx.law_statement_text [s.d] S = .ok (.str (sl s.tx)) S) → b.tx.length ≤ 1000000 → run T G wf (k + 1) lx.law_block_text [.tup b.ds] S = .ok (.str (sl b.tx)) S := by
  intro b h hl
  rw [run_succ (fn := ⟨1, 2, B_law_block_text lx⟩) A.law_block_text rfl]
  have hn := b.n_le
  have lc : dE G (run T G wf k) (.lc false (.nm 1) (.seq (.v 0)) .none (.call lx.law_statement_text (.cons (.v 1) .nil)) [("_law_statement_here", 1)]) [some (.tup b.ds), none] S = .ok (.lst (b.txs.map fun p => D.str (sl p))) S := by
    refine lcA (ds := b.ds) (by simp [srcOf]) (by rw [b.ds_len]; omega) ?_
    have : ∀ c : Blk, (∀ s, s ∈ c.l → run T G wf k lx.law_statement_text [s.d] S = .ok (.str (sl s.tx)) S) → All2 (fun d y => dE G (run T G wf k) (.call lx.law_statement_text (.cons (.v 1) .nil)) ((wipeD [some (.tup b.ds), none] ([(("_law_statement_here" : Str), 1)].map (·.2))).set 1 (some d)) S = .ok y S) c.ds (c.txs.map fun p => D.str (sl p)) := fun c => by
      induction c using Blk.rec (motive_1 := fun _ => True) with
      | nil => intro _; exact .nil
      | cons s c _ ih =>
        intro hc
        refine .cons (e_call1 (x := s.d) (S1 := S) ?_ (hc s (by simp [Blk.l]))) (ih fun s hs => hc s (by simp [Blk.l, hs]))
        show dE G (run T G wf k) (.v 1) [some (.tup b.ds), some s.d] S = _
        simp
      | _ => trivial
    exact this b h
  exact e_ret (s := (B_law_block_text lx).at 0) rfl (s_ret1 (e_sm (x := "; ") (S1 := S) (by simp) lc (by
    rw [q_smjoin, l_sc, join_d (by have := b.txs_sum; simp; omega), b.join_txs])))
def lwE : E := .lc false (.nm 3) (.seq (.sl (.v 0) .none (.some (.c (.int 2))))) .none (.bf .str (.cons (.v 3) .nil)) [("_law_part", 3)]
def lvE (lx : Lx) : E := .lc false (.nm 5) (.seq (.sl (.v 0) (.some (.c (.int 2))) .none)) .none (.call lx.law_sum_text (.cons (.v 5) .nil)) [("_law_value", 5)]
/-- do, set, stop: words with spaces between -/
theorem lst_words (A : LtxA T lx) {S : Sto} {k : Nat} {dd : D} {ps qs : List Cs} (h0 : ∀ C : Nat → List D → Sto → Out D, dT G C (.cmp .Eq (.ix (.v 0) (.c (.int 0))) (.c (.str "if"))) [some dd, none, none, none, none, none] S = .ok false S)
    (h1 : dE G (run T G wf k) lwE [some dd, none, none, none, none, none] S = .ok (.lst (ps.map fun p => D.str (sl p))) S)
    (h2 : dE G (run T G wf k) (lvE lx) [some dd, some (.lst (ps.map fun p => D.str (sl p))), none, none, none, none] S = .ok (.lst (qs.map fun p => D.str (sl p))) S)
    (hl : ((ps ++ qs).map List.length).sum + (ps ++ qs).length ≤ 16777216) : run T G wf (k + 1) lx.law_statement_text [dd] S = .ok (.str (sl (TL.joinL [32] (ps ++ qs)))) S := by
  rw [run_succ (fn := ⟨1, 6, B_law_statement_text lx⟩) A.law_statement_text rfl]
  show fnEnd (dSs G (run T G wf k) wf (B_law_statement_text lx) [some dd, none, none, none, none, none] S) = _
  have s0 : dS G (run T G wf k) wf ((B_law_statement_text lx).at 0) [some dd, none, none, none, none, none] S = .ok .nx [some dd, none, none, none, none, none] S := (s_iteF (h0 _)).trans rfl
  have s1 : dS G (run T G wf k) wf ((B_law_statement_text lx).at 1) [some dd, none, none, none, none, none] S = .ok .nx [some dd, some (.lst (ps.map fun p => D.str (sl p))), none, none, none, none] S := s_asg1 (i := 1) h1
  rw [stp0 rfl s0, stp rfl s1]
  refine e_ret (s := (B_law_statement_text lx).at 2) rfl (s_ret1 (e_sm (x := " ") (S1 := S) (by simp) (e_op (x := .lst (ps.map fun p => D.str (sl p))) (S1 := S) (by simp) h2 (z := .lst ((ps ++ qs).map fun p => D.str (sl p))) ?_) ?_))
  · show addP S (.lst (ps.map fun p => D.str (sl p))) (.lst (qs.map fun p => D.str (sl p))) = _
    have e1 : asL S (.lst (ps.map fun p => D.str (sl p))) = some (ps.map fun p => D.str (sl p)) := rfl
    have e2 : asL S (.lst (qs.map fun p => D.str (sl p))) = some (qs.map fun p => D.str (sl p)) := rfl
    unfold addP
    simp only [e1, e2]
    rw [if_pos (by simp at hl ⊢; omega), List.map_append]
  · rw [q_smjoin, l_sp, join_d (by simp at hl ⊢; omega)]
mutual
theorem lst_ok (A : LtxA T lx) {S : Sto} : ∀ (s : Stm) (k : Nat), s.digs = true → s.tx.length ≤ 1000000 → run T G wf (k + s.fu) lx.law_statement_text [s.d] S = .ok (.str (sl s.tx)) S
  | .do_ i, k, h, _ => by
    have hi : i < 10 := by simpa [Stm.digs] using h
    have := lst_words (wf := wf) (G := G) A (S := S) (k := k) (dd := .tup [.str "do", .int i]) (ps := [[100, 111], [48 + i]]) (qs := []) (fun C => by simp [PE.ix0]) (by
      refine lcA (ds := [.str "do", .int i]) (by simp [show ∀ S, slP S (.tup [.str "do", .int i]) none (some 2) = some (.tup [.str "do", .int i]) from fun _ => rfl, srcOf]) (by simp) (.cons (e_bf1 (x := .str "do") (S1 := S) rfl (by rw [l_doW]; rfl)) (.cons (e_bf1 (x := .int i) (S1 := S) rfl (str_dig (S := S) hi)) .nil))) (by
      refine lcA (ds := []) (by simp [show ∀ S, slP S (.tup [.str "do", .int i]) (some 2) none = some (.tup []) from fun _ => rfl, srcOf]) (by simp) .nil) (by simp)
    exact this
  | .set i x, k, h, hl => by
    simp only [Stm.digs, Bool.and_eq_true, decide_eq_true_eq] at h
    have hx : x.tx.length ≤ 1000000 := by simp [Stm.tx] at hl; omega
    have ex := lsx_ok (wf := wf) (G := G) A (S := S) x k h.2 hx
    have := lst_words (wf := wf) (G := G) A (S := S) (k := k + x.lv + 1) (dd := .tup [.str "set", .int i, x.d]) (ps := [[115, 101, 116], [48 + i]]) (qs := [x.tx]) (fun C => by simp [PE.ix0]) (by
      refine lcA (ds := [.str "set", .int i]) (by simp [show ∀ S, slP S (.tup [.str "set", .int i, x.d]) none (some 2) = some (.tup [.str "set", .int i]) from fun _ => rfl, srcOf]) (by simp) (.cons (e_bf1 (x := .str "set") (S1 := S) rfl (by rw [l_setW]; rfl)) (.cons (e_bf1 (x := .int i) (S1 := S) rfl (str_dig (S := S) h.1)) .nil))) (by
      refine lcA (ds := [x.d]) (by simp [show ∀ S, slP S (.tup [.str "set", .int i, x.d]) (some 2) none = some (.tup [x.d]) from fun _ => rfl, srcOf]) (by simp) (.cons (e_call1 (x := x.d) (S1 := S) rfl ex) .nil)) (by simp; omega)
    rw [show k + (Stm.set i x).fu = k + x.lv + 1 + 1 by simp [Stm.fu]; omega]
    simpa [TL.joinL, Stm.tx, Stm.d] using this
  | .stop, k, _, _ => by
    have := lst_words (wf := wf) (G := G) A (S := S) (k := k) (dd := .tup [.str "stop"]) (ps := [[115, 116, 111, 112]]) (qs := []) (fun C => by simp [PE.ix0]) (by
      refine lcA (ds := [.str "stop"]) (by simp [show ∀ S, slP S (.tup [.str "stop"]) none (some 2) = some (.tup [.str "stop"]) from fun _ => rfl, srcOf]) (by simp) (.cons (e_bf1 (x := .str "stop") (S1 := S) rfl (by rw [l_stop]; rfl)) .nil)) (by
      refine lcA (ds := []) (by simp [show ∀ S, slP S (.tup [.str "stop"]) (some 2) none = some (.tup []) from fun _ => rfl, srcOf]) (by simp) .nil) (by simp)
    exact this
  | .iff x a b, k, h, hl => by
    simp only [Stm.digs, Bool.and_eq_true] at h
    have hx : x.tx.length + a.tx.length + b.tx.length + 9 ≤ 1000000 := by simp [Stm.tx] at hl; omega
    have fuE : (Stm.iff x a b).fu = max (x.lv + 1) (max a.fu b.fu) + 1 := rfl
    generalize hm : max (x.lv + 1) (max a.fu b.fu) = m at fuE
    have ex := lsx_ok (wf := wf) (G := G) A (S := S) x (k + m - (x.lv + 1)) h.1.1 (by omega)
    have ea := lbt_ok A (S := S) a (k + m - a.fu) h.1.2 (by omega)
    have eb := lbt_ok A (S := S) b (k + m - b.fu) h.2 (by omega)
    rw [show k + m - (x.lv + 1) + x.lv + 1 = k + m by omega] at ex
    rw [show k + m - a.fu + a.fu = k + m by omega] at ea
    rw [show k + m - b.fu + b.fu = k + m by omega] at eb
    rw [fuE, show k + (m + 1) = (k + m) + 1 by omega, run_succ (fn := ⟨1, 6, B_law_statement_text lx⟩) A.law_statement_text rfl]
    let dd : D := .tup [.str "if", x.d, .tup a.ds, .tup b.ds]
    have sE : ∀ (c : Blk), c.tx.length ≤ 1000000 → run T G wf (k + m) lx.law_block_text [.tup c.ds] S = .ok (.str (sl c.tx)) S → dE G (run T G wf (k + m)) (.op .Add (.op .Add (.c (.str " {")) (.call lx.law_block_text (.cons (.v 4) .nil))) (.c (.str "}"))) [some dd, none, none, none, some (.tup c.ds), none] S = .ok (.str (sl (([32, 123] ++ c.tx) ++ [125]))) S := fun c hc hr =>
      e_add (S1 := S) (e_add (S1 := S) (a := [32, 123]) (by simp [l_br]) (e_call1 (x := .tup c.ds) (S1 := S) (by simp) hr) (by simp; omega)) (b := [125]) (by simp [l_bc]) (by simp; omega)
    have lc : dE G (run T G wf (k + m)) (.lc false (.nm 4) (.seq (.sl (.v 0) (.some (.c (.int 2))) .none)) .none (.op .Add (.op .Add (.c (.str " {")) (.call lx.law_block_text (.cons (.v 4) .nil))) (.c (.str "}"))) [("_law_block_here", 4)]) [some dd, none, none, none, none, none] S = .ok (.lst ([([32, 123] ++ a.tx) ++ [125], ([32, 123] ++ b.tx) ++ [125]].map fun p => D.str (sl p))) S :=
      lcA (ds := [.tup a.ds, .tup b.ds]) (by simp [dd, show ∀ S, slP S (.tup [.str "if", x.d, .tup a.ds, .tup b.ds]) (some 2) none = some (.tup [.tup a.ds, .tup b.ds]) from fun _ => rfl, srcOf]) (by simp) (.cons (sE a (by omega) ea) (.cons (sE b (by omega) eb) .nil))
    show fnEnd (dSs G (run T G wf (k + m)) wf (B_law_statement_text lx) [some dd, none, none, none, none, none] S) = _
    have tE : (Stm.iff x a b).tx = [105, 102, 32] ++ x.tx ++ TL.joinL [] [([32, 123] ++ a.tx) ++ [125], ([32, 123] ++ b.tx) ++ [125]] := by simp [Stm.tx, TL.joinL]
    rw [tE]
    refine e_retS (sd1 := [some dd, none, some (.lst ([([32, 123] ++ a.tx) ++ [125], ([32, 123] ++ b.tx) ++ [125]].map fun p => D.str (sl p))), none, none, none]) (s := (B_law_statement_text lx).at 0) rfl ((s_iteT (S1 := S) (by simp [dd, PE.ix0])).trans ?_)
    have s1 := s_asg1 (wf := wf) (i := 2) lc
    show dSs G (run T G wf (k + m)) wf (.cons (.asg (.nm 2) _) (.cons (.ret _) .nil)) _ S = _
    rw [q_scons, then_nx s1, q_scons]
    rw [then_rt (s_ret1 (e_add (S1 := S) (e_add (S1 := S) (a := [105, 102, 32]) (by simp [l_if]) (e_call1 (x := x.d) (S1 := S) (by simp [dd, PE.ix1]) ex) (by simp; omega)) (e_sm (x := "") (S1 := S) (by simp) (y := .lst ([([32, 123] ++ a.tx) ++ [125], ([32, 123] ++ b.tx) ++ [125]].map fun p => D.str (sl p))) (S2 := S) (by simp) (by rw [q_smjoin, empty_eq, join_d (by simp; omega)])) (by simp [TL.joinL]; omega)))]
    rfl
theorem lbt_ok (A : LtxA T lx) {S : Sto} : ∀ (b : Blk) (k : Nat), b.digs = true → b.tx.length ≤ 1000000 → run T G wf (k + b.fu) lx.law_block_text [.tup b.ds] S = .ok (.str (sl b.tx)) S
  | b, k, h, hl => by
    have hp : 1 ≤ b.fu := by
      cases b with
      | nil => simp [Blk.fu]
      | cons s b => simp [Blk.fu]; omega
    rw [show k + b.fu = (k + b.fu - 1) + 1 by omega]
    exact lbx_of A (lbt_all A b (k + b.fu - 1) h hl (by omega)) hl
theorem lbt_all (A : LtxA T lx) {S : Sto} : ∀ (b : Blk) (m : Nat), b.digs = true → b.tx.length ≤ 1000000 → b.fu ≤ m + 1 → ∀ s, s ∈ b.l → run T G wf m lx.law_statement_text [s.d] S = .ok (.str (sl s.tx)) S
  | .nil, m, _, _, _, s, hs => by simp [Blk.l] at hs
  | .cons s0 b, m, h, hl, hm, s, hs => by
    simp only [Blk.digs, Bool.and_eq_true] at h
    have hm2 : max (s0.fu + 1) b.fu ≤ m + 1 := hm
    have hlen : s0.tx.length ≤ 1000000 ∧ b.tx.length ≤ 1000000 := by
      cases b with
      | nil => rw [Blk.tx_one] at hl; exact ⟨hl, by simp [Blk.tx]⟩
      | cons _ _ => rw [Blk.tx_cons _ _ (by simp)] at hl; simp at hl; omega
    simp only [Blk.l, List.mem_cons] at hs
    rcases hs with hs | hs
    · have := lst_ok A (S := S) s0 (m - s0.fu) h.1 hlen.1
      rw [show m - s0.fu + s0.fu = m by omega] at this
      rw [hs]
      exact this
    · exact lbt_all A b m h.2 hlen.2 (by omega) s hs
end
end
end Z

/-! Drawn programs, second family. Bodies printed by mkzua.py. -/
namespace Z
open PySem PySem.Spec PyProof.Rows L2
structure Bx where
  law_draw : Nat
  law_one : Nat
  law_sum : Nat
  law_statement : Nat
  law_block : Nat
def C_law_sum (bx : Bx) : Ss := (.cons (.asg (.nm 3) (.call bx.law_draw (.cons (.v 0) (.cons (.c (.int 8)) .nil)))) (.cons (.ite (.cmp .Lt (.v 3) (.c (.int 3))) (.cons (.ret (.ix (.lst false (.cons (.c (.str "secret")) (.cons (.c (.str "known")) (.cons (.call bx.law_draw (.cons (.v 0) (.cons (.c (.int 10)) .nil))) .nil)))) (.v 3))) .nil) .nil) (.cons (.ite (.bo .Or (.cons (.cmp .Eq (.v 3) (.c (.int 3))) (.cons (.cmp .Lt (.v 2) (.c (.int 2))) .nil))) (.cons (.ret (.tup (.cons (.c (.str "cell")) (.cons (.call bx.law_draw (.cons (.v 0) (.cons (.v 1) .nil))) .nil)))) .nil) .nil) (.cons (.asg (.nm 4) (.call bx.law_one (.cons (.v 0) (.cons (.lst false (.cons (.c (.str "plus")) (.cons (.c (.str "less")) (.cons (.c (.str "same")) (.cons (.c (.str "same")) (.cons (.c (.str "times")) .nil)))))) .nil)))) (.cons (.asg (.nm 5) (.call bx.law_sum (.cons (.v 0) (.cons (.v 1) (.cons (.op .Sub (.v 2) (.c (.int 1))) .nil))))) (.cons (.ret (.tup (.cons (.v 4) (.cons (.v 5) (.cons (.call bx.law_sum (.cons (.v 0) (.cons (.v 1) (.cons (.op .Sub (.v 2) (.c (.int 1))) .nil)))) .nil))))) .nil))))))
def C_law_statement (bx : Bx) : Ss := (.cons (.asg (.nm 4) (.call bx.law_draw (.cons (.v 0) (.cons (.c (.int 9)) .nil)))) (.cons (.ite (.bo .Or (.cons (.cmp .Lt (.v 4) (.c (.int 3))) (.cons (.bo .And (.cons (.cmp .Lt (.v 3) (.c (.int 2))) (.cons (.cmp .Gt (.v 4) (.c (.int 5))) .nil))) .nil))) (.cons (.ret (.tup (.cons (.c (.str "do")) (.cons (.call bx.law_draw (.cons (.v 0) (.cons (.v 1) .nil))) .nil)))) .nil) .nil) (.cons (.ite (.cmp .Lt (.v 4) (.c (.int 6))) (.cons (.ret (.tup (.cons (.c (.str "set")) (.cons (.call bx.law_draw (.cons (.v 0) (.cons (.v 2) .nil))) (.cons (.call bx.law_sum (.cons (.v 0) (.cons (.v 2) (.cons (.c (.int 2)) .nil)))) .nil))))) .nil) .nil) (.cons (.ite (.cmp .Eq (.v 4) (.c (.int 6))) (.cons (.ret (.tup (.cons (.c (.str "stop")) .nil))) .nil) .nil) (.cons (.par [5, 6] (.cons (.call bx.law_sum (.cons (.v 0) (.cons (.v 2) (.cons (.c (.int 2)) .nil)))) (.cons (.call bx.law_block (.cons (.v 0) (.cons (.v 1) (.cons (.v 2) (.cons (.c (.int 2)) (.cons (.op .Sub (.v 3) (.c (.int 1))) .nil)))))) .nil))) (.cons (.ret (.tup (.cons (.c (.str "if")) (.cons (.v 5) (.cons (.v 6) (.cons (.call bx.law_block (.cons (.v 0) (.cons (.v 1) (.cons (.v 2) (.cons (.c (.int 2)) (.cons (.op .Sub (.v 3) (.c (.int 1))) .nil)))))) .nil)))))) .nil))))))
def C_law_block (bx : Bx) : Ss := (.cons (.ret (.bf .tup (.cons (.lc false (.nm 5) (.rng1 (.cons (.call bx.law_draw (.cons (.v 0) (.cons (.op .Add (.v 3) (.c (.int 1))) .nil))) .nil)) .none (.call bx.law_statement (.cons (.v 0) (.cons (.v 1) (.cons (.v 2) (.cons (.v 4) .nil))))) [("_law_k", 5)]) .nil))) .nil)
structure FamB (T : List Fn) (bx : Bx) : Prop where
  draw : T[bx.law_draw]? = some ⟨2, 5, drawB 2147483563 8117 3 2147483629⟩
  one : T[bx.law_one]? = some ⟨2, 2, oneB bx.law_draw⟩
  sum : T[bx.law_sum]? = some ⟨3, 6, C_law_sum bx⟩
  statement : T[bx.law_statement]? = some ⟨4, 7, C_law_statement bx⟩
  block : T[bx.law_block]? = some ⟨5, 6, C_law_block bx⟩
/-- a comprehension without test that changes the store -/
inductive AllS (f : D → Sto → Out D) : List D → Sto → List D → Sto → Prop
  | nil {S : Sto} : AllS f [] S [] S
  | cons {d y : D} {ds ys : List D} {S S1 S2 : Sto} : f d S = .ok y S1 → AllS f ds S1 ys S2 → AllS f (d :: ds) S (y :: ys) S2
theorem lcE {G : Ev} {C : Nat → List D → Sto → Out D} {i : Nat} {it : It} {e : E} {own : List (Str × Nat)} {sd : Sl} {S S0 S1 : Sto} {ds ys : List D} (hi : dI G C it sd S = .ok (.vals ds) S0) (hl : ds.length ≤ 16777216)
    (hd : AllS (fun d S => dE G C e ((wipeD sd (own.map (·.2))).set i (some d)) S) ds S0 ys S1) : dE G C (.lc false (.nm i) it .none e own) sd S = .ok (.lst ys) S1 := by
  rw [q_elcF, q_mLc, q_mLcL, hi]
  simp only []
  have key : lcL (gNm i) mYes (dE G C e) (wipeD sd (own.map (·.2))) ds S0 = .ok ys S1 := by
    clear hi hl
    induction hd with
    | nil => rfl
    | cons h _ ih =>
      unfold lcL
      simp only [q_gNm, q_mYes, h, ih]
  rw [show (Src.vals ds).len = (Src.vals ds).len from rfl, q_gnm, q_cN, lc_list (sta_vals ds) hl key]
def Blk.of : List Stm → Blk
  | [] => .nil
  | s :: l => .cons s (Blk.of l)
theorem of_ds : ∀ l : List Stm, (Blk.of l).ds = l.map Stm.d
  | [] => rfl
  | s :: l => by simp [Blk.of, Blk.ds, of_ds l]
theorem of_ok {p w : Nat} : ∀ {l : List Stm}, (∀ s ∈ l, s.ok p w = true) → (Blk.of l).ok p w = true
  | [], _ => rfl
  | s :: l, h => by
    simp only [Blk.of, Blk.ok, Bool.and_eq_true]
    exact ⟨h s (.head _), of_ok fun s hs => h s (.tail _ hs)⟩
theorem of_inl {n : Nat} : ∀ {l : List Stm}, (∀ s ∈ l, s.inl n = true) → (Blk.of l).inl n = true
  | [], _ => rfl
  | s :: l, h => by
    simp only [Blk.of, Blk.inl, Bool.and_eq_true]
    exact ⟨h s (.head _), of_inl fun s hs => h s (.tail _ hs)⟩
theorem of_szle {m : Nat} : ∀ {l : List Stm}, (∀ s ∈ l, s.sz ≤ m) → (Blk.of l).sz ≤ l.length * m
  | [], _ => by simp [Blk.of, Blk.sz]
  | s :: l, h => by
    have h1 := h s (.head _)
    have h2 := of_szle (l := l) fun s hs => h s (.tail _ hs)
    simp only [Blk.of, Blk.sz, List.length_cons, Nat.add_mul, Nat.one_mul]
    omega
theorem rng_nat {q : Nat} (h : q < 1000) : rng1 [.int q] = some (.vals ((List.range q).map fun (i : Nat) => D.int (0 + (i : Int)))) := by
  simp only [rng1, rngV]
  rw [if_pos (by omega)]
  simp
/-- a drawn sum -/
def SumB (w deep : Nat) (d : D) : Prop := ∃ f : Fm, d = f.d ∧ f.ok w = true ∧ f.lv < deep ∧ f.sz < 2 ^ deep
theorem opB_mem {d : D} (h : d ∈ [D.str "plus", .str "less", .str "same", .str "same", .str "times"]) : ∃ o : Opr, d = .str o.s := by
  simp only [List.mem_cons, List.not_mem_nil, or_false] at h
  rcases h with rfl | rfl | rfl | rfl | rfl
  · exact ⟨.plus, rfl⟩
  · exact ⟨.less, rfl⟩
  · exact ⟨.same, rfl⟩
  · exact ⟨.same, rfl⟩
  · exact ⟨.times, rfl⟩
theorem two_le {m : Nat} : 2 ≤ 2 ^ (m + 1) := by
  have := Nat.one_le_two_pow (n := m)
  rw [Nat.pow_succ]; omega
theorem leafB {w deep : Nat} {f : Fm} (h : f.ok w = true) (h1 : f.lv = 0) (h2 : f.sz = 1) (hd : 0 < deep) : SumB w deep f.d := by
  refine ⟨f, rfl, h, by omega, ?_⟩
  have := two_le (m := deep - 1)
  rw [show deep - 1 + 1 = deep by omega] at this
  omega
theorem opB {w deep : Nat} {o : Opr} {y z : D} (hy : SumB w deep y) (hz : SumB w deep z) : SumB w (deep + 1) (.tup [.str o.s, y, z]) := by
  obtain ⟨f, rfl, h1, h2, h5⟩ := hy
  obtain ⟨g, rfl, h3, h4, h6⟩ := hz
  refine ⟨.op o f g, rfl, by simp [Fm.ok, h1, h3], by simp only [Fm.lv]; omega, ?_⟩
  simp only [Fm.sz, Nat.pow_succ]
  omega
theorem ixl0 {S : Sto} {a b c : D} : ixP S (.lst [a, b, c]) (.int 0) = some a := rfl
theorem ixl1 {S : Sto} {a b c : D} : ixP S (.lst [a, b, c]) (.int 1) = some b := rfl
theorem ixl2 {S : Sto} {a b c : D} : ixP S (.lst [a, b, c]) (.int 2) = some c := rfl
def sumC : Nat → Int
  | 0 => 0
  | d + 1 => 2 + 2 * sumC d
theorem sumC_nn : ∀ d, 0 ≤ sumC d
  | 0 => by simp [sumC]
  | d + 1 => by have := sumC_nn d; simp only [sumC]; omega
section
variable {T : List Fn} {G : Ev} {wf : Nat} {bx : Bx}
theorem drB (F : FamB T bx) {k : Nat} {S : Sto} {n : Int} {m : Nat} (h : Dk S 0 1 n) (hn : 0 ≤ n) (hn2 : n < 1000000) (hm : 0 < m) (hm2 : m < 1000000) :
    ∃ (r : Nat) (S' : Sto), run T G wf (k + 1) bx.law_draw [.loc 1, .int m] S = .ok (.int r) S' ∧ r < m ∧ Dk S' 0 1 (n + 1) ∧ ∀ X, Kp S S' X :=
  drwG F.draw (by decide) h hn hn2 hm hm2
theorem onB (F : FamB T bx) {k : Nat} {S : Sto} {n : Int} {xs : List D} (h : Dk S 0 1 n) (hn : 0 ≤ n) (hn2 : n < 1000000) (hm : 0 < xs.length) (hm2 : xs.length < 1000000) :
    ∃ (d : D) (S' : Sto), run T G wf (k + 2) bx.law_one [.loc 1, .lst xs] S = .ok d S' ∧ d ∈ xs ∧ Dk S' 0 1 (n + 1) ∧ ∀ X, Kp S S' X :=
  oneG F.draw F.one (by decide) h hn hn2 hm hm2
theorem sumB_ok (F : FamB T bx) {w : Nat} (hw : 0 < w) (hw2 : w ≤ 10) : ∀ (deep : Nat) (k : Nat) (S : Sto) (n : Int), Dk S 0 1 n → 0 ≤ n → n + sumC (deep + 1) < 900000 →
    ∃ d S' n', run T G wf (k + deep + 3) bx.law_sum [.loc 1, .int w, .int ((deep + 1 : Nat) : Int)] S = .ok d S' ∧ SumB w (deep + 1) d ∧ Dk S' 0 1 n' ∧ n ≤ n' ∧ n' ≤ n + sumC (deep + 1) ∧ ∀ X, Kp S S' X := by
  intro deep
  induction deep with
  | zero =>
    intro k S n h hn hn2
    simp only [sumC] at hn2 ⊢
    obtain ⟨r, S1, e1, l1, d1, k1⟩ := drB (G := G) (wf := wf) F (k := k + 1) (m := 8) h hn (by omega) (by decide) (by decide)
    simp at e1
    by_cases z : r < 3
    · obtain ⟨q, S2, e2, l2, d2, k2⟩ := drB (G := G) (wf := wf) F (k := k + 1) (m := 10) d1 (by omega) (by omega) (by decide) (by decide)
      simp at e2
      have zi : (r : Int) < 3 := by omega
      rcases (show r = 0 ∨ r = 1 ∨ r = 2 by omega) with rfl | rfl | rfl
      · refine ⟨_, S2, n + 1 + 1, (run_succ F.sum rfl).trans ?_, leafB (f := .secret) rfl rfl rfl (by decide), d2, by omega, by omega, fun X => (k1 X).trans (k2 X)⟩
        simp [C_law_sum, slots0, e1, e2, fnEnd, ixl0, ixl1, ixl2, Fm.d]
      · refine ⟨_, S2, n + 1 + 1, (run_succ F.sum rfl).trans ?_, leafB (f := .known) rfl rfl rfl (by decide), d2, by omega, by omega, fun X => (k1 X).trans (k2 X)⟩
        simp [C_law_sum, slots0, e1, e2, fnEnd, ixl0, ixl1, ixl2, Fm.d]
      · refine ⟨_, S2, n + 1 + 1, (run_succ F.sum rfl).trans ?_, leafB (f := .num q) (by simp [Fm.ok]; omega) rfl rfl (by decide), d2, by omega, by omega, fun X => (k1 X).trans (k2 X)⟩
        simp [C_law_sum, slots0, e1, e2, fnEnd, ixl0, ixl1, ixl2, Fm.d]
    · obtain ⟨q, S2, e2, l2, d2, k2⟩ := drB (G := G) (wf := wf) F (k := k + 1) (m := w) d1 (by omega) (by omega) hw (by omega)
      have zi : ¬ ((r : Int) < 3) := by omega
      refine ⟨_, S2, n + 1 + 1, (run_succ F.sum rfl).trans ?_, leafB (f := .cell q) (by simp [Fm.ok]; omega) rfl rfl (by decide), d2, by omega, by omega, fun X => (k1 X).trans (k2 X)⟩
      by_cases z3 : (r : Int) = 3 <;> simp [C_law_sum, slots0, e1, e2, fnEnd, zi, z3, Fm.d]
  | succ deep ih =>
    intro k S n h hn hn2
    have hc0 := sumC_nn deep
    have hcE : sumC (deep + 1 + 1) = 2 + 2 * sumC (deep + 1) := rfl
    have hc1 : sumC (deep + 1) = 2 + 2 * sumC deep := rfl
    rw [hcE] at hn2 ⊢
    obtain ⟨r, S1, e1, l1, d1, k1⟩ := drB (G := G) (wf := wf) F (k := k + deep + 2) (m := 8) h hn (by omega) (by decide) (by decide)
    rw [show k + (deep + 1) + 3 = (k + deep + 3) + 1 by omega]
    simp at e1
    have nd : ¬ ((deep : Int) + 1 + 1 < 2) := by omega
    by_cases z : r < 3
    · obtain ⟨q, S2, e2, l2, d2, k2⟩ := drB (G := G) (wf := wf) F (k := k + deep + 2) (m := 10) d1 (by omega) (by omega) (by decide) (by decide)
      simp at e2
      have zi : (r : Int) < 3 := by omega
      rcases (show r = 0 ∨ r = 1 ∨ r = 2 by omega) with rfl | rfl | rfl
      · refine ⟨_, S2, n + 1 + 1, (run_succ F.sum rfl).trans ?_, leafB (f := .secret) rfl rfl rfl (by omega), d2, by omega, by omega, fun X => (k1 X).trans (k2 X)⟩
        simp [C_law_sum, slots0, e1, e2, fnEnd, ixl0, ixl1, ixl2, Fm.d]
      · refine ⟨_, S2, n + 1 + 1, (run_succ F.sum rfl).trans ?_, leafB (f := .known) rfl rfl rfl (by omega), d2, by omega, by omega, fun X => (k1 X).trans (k2 X)⟩
        simp [C_law_sum, slots0, e1, e2, fnEnd, ixl0, ixl1, ixl2, Fm.d]
      · refine ⟨_, S2, n + 1 + 1, (run_succ F.sum rfl).trans ?_, leafB (f := .num q) (by simp [Fm.ok]; omega) rfl rfl (by omega), d2, by omega, by omega, fun X => (k1 X).trans (k2 X)⟩
        simp [C_law_sum, slots0, e1, e2, fnEnd, ixl0, ixl1, ixl2, Fm.d]
    · have zi : ¬ ((r : Int) < 3) := by omega
      by_cases z3 : (r : Int) = 3
      · obtain ⟨q, S2, e2, l2, d2, k2⟩ := drB (G := G) (wf := wf) F (k := k + deep + 2) (m := w) d1 (by omega) (by omega) hw (by omega)
        refine ⟨_, S2, n + 1 + 1, (run_succ F.sum rfl).trans ?_, leafB (f := .cell q) (by simp [Fm.ok]; omega) rfl rfl (by omega), d2, by omega, by omega, fun X => (k1 X).trans (k2 X)⟩
        rw [z3] at e1
        simp [C_law_sum, slots0, e1, e2, fnEnd, Fm.d]
      · obtain ⟨d, S2, e2, l2, d2, k2⟩ := onB (G := G) (wf := wf) F (k := k + deep + 1) (xs := [D.str "plus", .str "less", .str "same", .str "same", .str "times"]) d1 (by omega) (by omega) (by decide) (by decide)
        obtain ⟨s, rfl⟩ := opB_mem l2
        obtain ⟨y, S3, n3, e3, v3, d3, g3, g3', k3⟩ := ih k S2 (n + 1 + 1) d2 (by omega) (by omega)
        obtain ⟨u, S4, n4, e4, v4, d4, g4, g4', k4⟩ := ih k S3 n3 d3 (by omega) (by omega)
        refine ⟨.tup [.str s.s, y, u], S4, n4, (run_succ F.sum rfl).trans ?_, opB v3 v4, d4, by omega, by omega, fun X => (((k1 X).trans (k2 X)).trans (k3 X)).trans (k4 X)⟩
        simp at e3 e4
        have ed : (deep : Int) + 1 + 1 - 1 = (deep : Int) + 1 := by omega
        simp [C_law_sum, slots0, e1, zi, z3, nd, e2, e3, e4, ed, fnEnd]
end
end Z

/-! Drawn programs, second family: statements and blocks. -/
namespace Z
open PySem PySem.Spec PyProof.Rows L2
def tsz : Nat → Nat
  | 0 => 0
  | d + 1 => 4 + 4 * tsz d
def stC : Nat → Int
  | 0 => 0
  | d + 1 => 9 + 4 * stC d
theorem stC_nn : ∀ d, 0 ≤ stC d
  | 0 => by simp [stC]
  | d + 1 => by have := stC_nn d; simp only [stC]; omega
/-- a drawn statement -/
structure StB (p w d : Nat) (s : Stm) : Prop where
  ok : s.ok p w = true
  inl : ∀ n, d + 2 ≤ n → s.inl n = true
  sz : s.sz ≤ tsz d
section
variable {T : List Fn} {G : Ev} {wf : Nat} {bx : Bx}
def StmP (T : List Fn) (G : Ev) (wf : Nat) (bx : Bx) (p w K d : Nat) : Prop := ∀ (S : Sto) (n : Int), Dk S 0 1 n → 0 ≤ n → n + stC d < 900000 →
  ∃ (s : Stm) (S' : Sto) (n' : Int), run T G wf K bx.law_statement [.loc 1, .int p, .int w, .int d] S = .ok s.d S' ∧ StB p w d s ∧ Dk S' 0 1 n' ∧ n ≤ n' ∧ n' ≤ n + stC d ∧ ∀ X, Kp S S' X
theorem blkB_of (F : FamB T bx) {p w K d : Nat} (h : StmP T G wf bx p w (K + 1) d) {m : Nat} (hm : m < 100) {S : Sto} {n : Int} (hd : Dk S 0 1 n) (hn : 0 ≤ n) (hn2 : n + 1 + m * stC d < 900000) :
    ∃ (ss : List Stm) (S' : Sto) (n' : Int), run T G wf (K + 2) bx.law_block [.loc 1, .int p, .int w, .int m, .int d] S = .ok (.tup (ss.map Stm.d)) S' ∧ ss.length ≤ m ∧ (∀ s ∈ ss, StB p w d s) ∧ Dk S' 0 1 n' ∧ n ≤ n' ∧ n' ≤ n + 1 + m * stC d ∧ ∀ X, Kp S S' X := by
  have c0 := stC_nn d
  have m0 : (0 : Int) ≤ m * stC d := Int.mul_nonneg (by omega) c0
  obtain ⟨q, S1, e1, l1, d1, k1⟩ := drB (G := G) (wf := wf) F (k := K) (m := m + 1) hd hn (by omega) (by omega) (by omega)
  let sd : Sl := [some (.loc 1), some (.int p), some (.int w), some (.int m), some (.int d), none]
  let sw : Sl := wipeD sd ([(("_law_k" : Str), 5)].map (·.2))
  have key : ∀ (l : List D) (S : Sto) (n : Int), Dk S 0 1 n → 0 ≤ n → n + l.length * stC d < 900000 → ∃ (ss : List Stm) (S' : Sto) (n' : Int), AllS (fun x S => dE G (run T G wf (K + 1)) (.call bx.law_statement (.cons (.v 0) (.cons (.v 1) (.cons (.v 2) (.cons (.v 4) .nil))))) (sw.set 5 (some x)) S) l S (ss.map Stm.d) S' ∧ ss.length = l.length ∧ (∀ s ∈ ss, StB p w d s) ∧ Dk S' 0 1 n' ∧ n ≤ n' ∧ n' ≤ n + l.length * stC d ∧ ∀ X, Kp S S' X := by
    intro l
    induction l with
    | nil => intro S n hd hn _; exact ⟨[], S, n, .nil, rfl, by simp, hd, Int.le_refl _, by simp, fun X => Kp.refl S X⟩
    | cons x l ih =>
      intro S n hd hn hb
      have lm : ((x :: l).length : Int) * stC d = l.length * stC d + stC d := by simp [Int.add_mul]
      have lz : (0 : Int) ≤ l.length * stC d := Int.mul_nonneg (by omega) c0
      rw [lm] at hb ⊢
      obtain ⟨s, S1, n1, e1, v1, d1, g1, g1', k1⟩ := h S n hd hn (by omega)
      obtain ⟨ss, S2, n2, e2, l2, v2, d2, g2, g2', k2⟩ := ih S1 n1 d1 (by omega) (by omega)
      refine ⟨s :: ss, S2, n2, .cons (S1 := S1) ?_ e2, by simp [l2], ?_, d2, by omega, by omega, fun X => (k1 X).trans (k2 X)⟩
      · show dE G (run T G wf (K + 1)) (.call bx.law_statement (.cons (.v 0) (.cons (.v 1) (.cons (.v 2) (.cons (.v 4) .nil))))) [some (.loc 1), some (.int p), some (.int w), some (.int m), some (.int d), some x] S = _
        simp [e1]
      · intro t ht
        rcases List.mem_cons.mp ht with rfl | ht
        · exact v1
        · exact v2 t ht
  have qm : (q : Int) * stC d ≤ m * stC d := Int.mul_le_mul_of_nonneg_right (by omega) c0
  have q0 : (0 : Int) ≤ q * stC d := Int.mul_nonneg (by omega) c0
  obtain ⟨ss, S2, n2, e2, l2, v2, d2, g2, g2', k2⟩ := key ((List.range q).map fun (i : Nat) => D.int (0 + (i : Int))) S1 (n + 1) d1 (by omega) (by simp; omega)
  simp only [List.length_map, List.length_range] at l2 g2'
  refine ⟨ss, S2, n2, (run_succ F.block rfl).trans ?_, by omega, v2, d2, by omega, by omega, fun X => (k1 X).trans (k2 X)⟩
  show fnEnd (dSs G (run T G wf (K + 1)) wf (C_law_block bx) sd S) = _
  have it : dI G (run T G wf (K + 1)) (.rng1 (.cons (.call bx.law_draw (.cons (.v 0) (.cons (.op .Add (.v 3) (.c (.int 1))) .nil))) .nil)) sd S = .ok (.vals ((List.range q).map fun (i : Nat) => D.int (0 + (i : Int)))) S1 := by
    have r := rng_nat (q := q) (by omega)
    simp at e1 r
    simp [sd, e1, r]
  have lc := lcE (e := .call bx.law_statement (.cons (.v 0) (.cons (.v 1) (.cons (.v 2) (.cons (.v 4) .nil))))) (own := [("_law_k", 5)]) it (by simp; omega) e2
  exact e_ret (s := (C_law_block bx).at 0) rfl (s_ret1 (e_bf1 lc (by rfl)))
theorem doB {p w d r : Nat} (h : r < p) : StB p w (d + 1) (.do_ r) := ⟨by simp [Stm.ok, h], fun n hn => by simp [Stm.inl]; omega, by simp only [Stm.sz, tsz]; omega⟩
theorem stopB {p w d : Nat} : StB p w (d + 1) .stop := ⟨rfl, fun n hn => by simp [Stm.inl]; omega, by simp only [Stm.sz, tsz]; omega⟩
theorem setB {p w d r : Nat} {f : Fm} (h : r < w) (h1 : f.ok w = true) (h2 : f.lv < 2) (h3 : f.sz < 2 ^ 2) : StB p w (d + 1) (.set r f) := ⟨by simp [Stm.ok, h, h1], fun n hn => by simp [Stm.inl]; omega, by simp only [Stm.sz, tsz]; omega⟩
theorem ifB {p w d : Nat} {x : Fm} {ys zs : List Stm} (h1 : x.ok w = true) (h2 : x.lv < 2) (h3 : x.sz < 2 ^ 2) (ly : ys.length ≤ 2) (lz : zs.length ≤ 2) (hy : ∀ s ∈ ys, StB p w d s) (hz : ∀ s ∈ zs, StB p w d s) : StB p w (d + 1) (.iff x (Blk.of ys) (Blk.of zs)) := by
  refine ⟨?_, fun n hn => ?_, ?_⟩
  · simp only [Stm.ok, Bool.and_eq_true]
    exact ⟨⟨h1, of_ok fun s hs => (hy s hs).ok⟩, of_ok fun s hs => (hz s hs).ok⟩
  · simp only [Stm.inl, Bool.and_eq_true, decide_eq_true_eq]
    exact ⟨⟨by omega, of_inl fun s hs => (hy s hs).inl _ (by omega)⟩, of_inl fun s hs => (hz s hs).inl _ (by omega)⟩
  · have a := of_szle fun s hs => (hy s hs).sz
    have b := of_szle fun s hs => (hz s hs).sz
    have a2 : ys.length * tsz d ≤ 2 * tsz d := Nat.mul_le_mul_right _ ly
    have b2 : zs.length * tsz d ≤ 2 * tsz d := Nat.mul_le_mul_right _ lz
    simp only [Stm.sz, tsz]
    omega
theorem if_d {x : Fm} {ys zs : List Stm} : (Stm.iff x (Blk.of ys) (Blk.of zs)).d = .tup [.str "if", x.d, .tup (ys.map Stm.d), .tup (zs.map Stm.d)] := by simp [Stm.d, of_ds]
theorem stB_ok (F : FamB T bx) {p w : Nat} (hp : 0 < p) (hp2 : p ≤ 10) (hw : 0 < w) (hw2 : w ≤ 10) : ∀ (d : Nat) (k : Nat), StmP T G wf bx p w (k + 5 + 2 * d) (d + 1) := by
  intro d
  induction d with
  | zero =>
    intro k S n h hn hn2
    simp only [stC] at hn2 ⊢
    obtain ⟨r, S1, e1, l1, d1, k1⟩ := drB (G := G) (wf := wf) F (k := k + 3) (m := 9) h hn (by omega) (by decide) (by decide)
    simp at e1
    by_cases z : r < 3 ∨ 5 < r
    · obtain ⟨q, S2, e2, l2, d2, k2⟩ := drB (G := G) (wf := wf) F (k := k + 3) (m := p) d1 (by omega) (by omega) hp (by omega)
      refine ⟨.do_ q, S2, n + 1 + 1, (run_succ F.statement rfl).trans ?_, doB l2, d2, by omega, by omega, fun X => (k1 X).trans (k2 X)⟩
      have zi : (r : Int) < 3 ∨ 5 < (r : Int) := by omega
      by_cases z3 : (r : Int) < 3
      · simp [C_law_statement, slots0, e1, e2, fnEnd, z3, Stm.d]
      · have z5 : 5 < (r : Int) := by omega
        simp [C_law_statement, slots0, e1, e2, fnEnd, z3, z5, Stm.d]
    · obtain ⟨q, S2, e2, l2, d2, k2⟩ := drB (G := G) (wf := wf) F (k := k + 3) (m := w) d1 (by omega) (by omega) hw (by omega)
      obtain ⟨y, S3, n3, e3, v3, d3, g3, g3', k3⟩ := sumB_ok (G := G) (wf := wf) F hw hw2 1 k S2 (n + 1 + 1) d2 (by omega) (by simp [sumC]; omega)
      obtain ⟨f, rfl, f1, f2, f3⟩ := v3
      simp [sumC] at g3' e3
      refine ⟨.set q f, S3, n3, (run_succ F.statement rfl).trans ?_, setB l2 f1 f2 f3, d3, by omega, by omega, fun X => ((k1 X).trans (k2 X)).trans (k3 X)⟩
      have z3 : ¬ (r : Int) < 3 := by omega
      have z5 : ¬ 5 < (r : Int) := by omega
      have z6 : (r : Int) < 6 := by omega
      simp [C_law_statement, slots0, e1, e2, e3, fnEnd, z3, z5, z6, Stm.d]
  | succ d ih =>
    intro k S n h hn hn2
    have c0 := stC_nn (d + 1)
    have hcE : stC (d + 1 + 1) = 9 + 4 * stC (d + 1) := rfl
    rw [hcE] at hn2 ⊢
    rw [show k + 5 + 2 * (d + 1) = (k + 2 * d + 6) + 1 by omega]
    obtain ⟨r, S1, e1, l1, d1, k1⟩ := drB (G := G) (wf := wf) F (k := k + 2 * d + 5) (m := 9) h hn (by omega) (by decide) (by decide)
    simp at e1
    have nd : ¬ ((d : Int) + 1 + 1 < 2) := by omega
    by_cases z : r < 3
    · obtain ⟨q, S2, e2, l2, d2, k2⟩ := drB (G := G) (wf := wf) F (k := k + 2 * d + 5) (m := p) d1 (by omega) (by omega) hp (by omega)
      refine ⟨.do_ q, S2, n + 1 + 1, (run_succ F.statement rfl).trans ?_, doB l2, d2, by omega, by omega, fun X => (k1 X).trans (k2 X)⟩
      have z3 : (r : Int) < 3 := by omega
      simp [C_law_statement, slots0, e1, e2, fnEnd, z3, Stm.d]
    · have z3 : ¬ (r : Int) < 3 := by omega
      by_cases z6 : (r : Int) < 6
      · obtain ⟨q, S2, e2, l2, d2, k2⟩ := drB (G := G) (wf := wf) F (k := k + 2 * d + 5) (m := w) d1 (by omega) (by omega) hw (by omega)
        obtain ⟨y, S3, n3, e3, v3, d3, g3, g3', k3⟩ := sumB_ok (G := G) (wf := wf) F hw hw2 1 (k + 2 * d + 2) S2 (n + 1 + 1) d2 (by omega) (by simp [sumC]; omega)
        obtain ⟨f, rfl, f1, f2, f3⟩ := v3
        simp [sumC] at g3' e3
        refine ⟨.set q f, S3, n3, (run_succ F.statement rfl).trans ?_, setB l2 f1 f2 f3, d3, by omega, by omega, fun X => ((k1 X).trans (k2 X)).trans (k3 X)⟩
        simp [C_law_statement, slots0, e1, e2, e3, fnEnd, z3, nd, z6, Stm.d]
      · by_cases z7 : (r : Int) = 6
        · refine ⟨.stop, S1, n + 1, (run_succ F.statement rfl).trans ?_, stopB, d1, by omega, by omega, k1⟩
          rw [z7] at e1
          simp [C_law_statement, slots0, e1, fnEnd, nd, Stm.d]
        · obtain ⟨y, S2, n2, e2, v2, d2, g2, g2', k2⟩ := sumB_ok (G := G) (wf := wf) F hw hw2 1 (k + 2 * d + 2) S1 (n + 1) d1 (by omega) (by simp [sumC]; omega)
          obtain ⟨f, rfl, f1, f2, f3⟩ := v2
          simp [sumC] at g2'
          have st := ih k
          rw [show k + 5 + 2 * d = (k + 2 * d + 4) + 1 by omega] at st
          obtain ⟨ys, S3, n3, e3, l3, v3, d3, g3, g3', k3⟩ := blkB_of F st (m := 2) (by decide) d2 (by omega) (by simp; omega)
          obtain ⟨zs, S4, n4, e4, l4, v4, d4, g4, g4', k4⟩ := blkB_of F st (m := 2) (by decide) d3 (by omega) (by simp at g3' ⊢; omega)
          simp at g3' g4'
          refine ⟨.iff f (Blk.of ys) (Blk.of zs), S4, n4, (run_succ F.statement rfl).trans ?_, ifB f1 f2 f3 l3 l4 v3 v4, d4, by omega, by omega, fun X => (((k1 X).trans (k2 X)).trans (k3 X)).trans (k4 X)⟩
          have ed : ((d + 1 + 1 : Nat) : Int) - 1 = ((d + 1 : Nat) : Int) := by omega
          have e2' : run T G wf (k + 2 * d + 6) bx.law_sum [.loc 1, .int w, .int 2] S1 = .ok f.d S2 := e2
          have e3' : run T G wf (k + 2 * d + 6) bx.law_block [.loc 1, .int p, .int w, .int 2, .int ((d + 1 : Nat) : Int)] S2 = .ok (.tup (ys.map Stm.d)) S3 := e3
          have e4' : run T G wf (k + 2 * d + 6) bx.law_block [.loc 1, .int p, .int w, .int 2, .int ((d + 1 : Nat) : Int)] S3 = .ok (.tup (zs.map Stm.d)) S4 := e4
          generalize hC : run T G wf (k + 2 * d + 6) = C at e1 e2' e3' e4' ⊢
          let sd : Sl := [some (.loc 1), some (.int p), some (.int w), some (.int ((d + 1 + 1 : Nat) : Int)), none, none, none]
          let sd1 : Sl := [some (.loc 1), some (.int p), some (.int w), some (.int ((d + 1 + 1 : Nat) : Int)), some (.int r), none, none]
          let sd2 : Sl := [some (.loc 1), some (.int p), some (.int w), some (.int ((d + 1 + 1 : Nat) : Int)), some (.int r), some f.d, some (.tup (ys.map Stm.d))]
          have s0 : dS G C wf ((C_law_statement bx).at 0) sd S = .ok .nx sd1 S1 := s_asg1 (i := 4) (by simp [sd, e1])
          have nd2 : ¬ (((d + 1 + 1 : Nat) : Int) < 2) := by omega
          have s1 : dS G C wf ((C_law_statement bx).at 1) sd1 S1 = .ok .nx sd1 S1 := (s_iteF (S1 := S1) (by simp [sd1, z3, nd])).trans rfl
          have s2 : dS G C wf ((C_law_statement bx).at 2) sd1 S1 = .ok .nx sd1 S1 := (s_iteF (S1 := S1) (by simp [sd1, z6])).trans rfl
          have s3 : dS G C wf ((C_law_statement bx).at 3) sd1 S1 = .ok .nx sd1 S1 := (s_iteF (S1 := S1) (by simp [sd1, z7])).trans rfl
          have cE : (d : Int) + 1 + 1 - 1 = (d : Int) + 1 := by omega
          have s4 : dS G C wf ((C_law_statement bx).at 4) sd1 S1 = .ok .nx sd2 S3 := par_2 (i := 5) (j := 6) (S1 := S2) (by simp [sd1, e2']) (by simp at e3'; simp [sd1, cE, e3'])
          show fnEnd (dSs G C wf (C_law_statement bx) sd S) = _
          rw [stp0 rfl s0, stp rfl s1, stp rfl s2, stp rfl s3, stp rfl s4, if_d]
          refine e_ret (s := (C_law_statement bx).at 5) rfl (s_ret1 ?_)
          simp at e4'
          show dE G C (.tup (.cons (.c (.str "if")) (.cons (.v 5) (.cons (.v 6) (.cons (.call bx.law_block (.cons (.v 0) (.cons (.v 1) (.cons (.v 2) (.cons (.c (.int 2)) (.cons (.op .Sub (.v 3) (.c (.int 1))) .nil)))))) .nil))))) sd2 S3 = _
          simp [sd2, cE, e4']
end
end Z

/-! Drawn programs, second family: few stands. Body printed by mkzuc.py. -/
namespace Z
open PySem PySem.Spec PyProof.Rows L2
def C_law_program (bx : Bx) : Ss := (.cons (.par [3, 4] (.cons (.op .Add (.c (.int 1)) (.call bx.law_draw (.cons (.v 0) (.cons (.c (.int 5)) .nil)))) (.cons (.call bx.law_one (.cons (.v 0) (.cons (.lst false (.cons (.tup (.cons (.c (.int 2)) .nil)) (.cons (.tup (.cons (.c (.int 3)) .nil)) (.cons (.tup (.cons (.c (.int 4)) .nil)) (.cons (.tup (.cons (.c (.int 2)) (.cons (.c (.int 2)) .nil))) (.cons (.tup (.cons (.c (.int 2)) (.cons (.c (.int 3)) .nil))) (.cons (.tup (.cons (.c (.int 2)) .nil)) (.cons (.tup (.cons (.c (.int 3)) .nil)) .nil)))))))) .nil))) .nil))) (.cons (.asg (.nm 1) (.tup (.cons (.op .Add (.c (.int 1)) (.call bx.law_draw (.cons (.v 0) (.cons (.c (.int 3)) .nil)))) (.cons (.op .Add (.c (.int 1)) (.call bx.law_draw (.cons (.v 0) (.cons (.c (.int 3)) .nil)))) .nil)))) (.cons (.asg (.nm 2) (.call bx.law_block (.cons (.v 0) (.cons (.v 3) (.cons (.bf .len (.cons (.v 4) .nil)) (.cons (.c (.int 4)) (.cons (.c (.int 3)) .nil))))))) (.cons (.ret (.op .Add (.v 1) (.tup (.cons (.v 3) (.cons (.v 4) (.cons (.v 2) (.cons (.call bx.law_block (.cons (.v 0) (.cons (.v 3) (.cons (.bf .len (.cons (.v 4) .nil)) (.cons (.c (.int 2)) (.cons (.c (.int 2)) .nil)))))) .nil))))))) .nil))))
/-- few cells -/
def few : List (List Nat) := [[2], [3], [4], [2, 2], [2, 3], [2], [3]]
def fewD : List D := few.map fun l => .tup (l.map fun (c : Nat) => D.int c)
/-- a program with its statements in rows -/
structure PG (P : Prog) (a b : List Stm) : Prop where
  kn : 1 ≤ P.kn ∧ P.kn ≤ 3
  se : 1 ≤ P.se ∧ P.se ≤ 3
  p : 1 ≤ P.p ∧ P.p ≤ 5
  cl : P.cells ∈ few
  bd : P.body = Blk.of a
  tl : P.tail = Blk.of b
  aok : ∀ s ∈ a, s.ok P.p P.cells.length = true ∧ s.inl 12 = true
  bok : ∀ s ∈ b, s.ok P.p P.cells.length = true ∧ s.inl 12 = true
theorem few_len {l : List Nat} (h : l ∈ few) : 1 ≤ l.length ∧ l.length ≤ 2 := by
  simp only [few, List.mem_cons, List.not_mem_nil, or_false] at h
  rcases h with rfl | rfl | rfl | rfl | rfl | rfl | rfl <;> decide
theorem few_ok {l : List Nat} (h : l ∈ few) : (∀ c ∈ l, 2 ≤ c ∧ c ≤ 4) ∧ l.foldl (· * ·) 1 ≤ 24 := by
  simp only [few, List.mem_cons, List.not_mem_nil, or_false] at h
  rcases h with rfl | rfl | rfl | rfl | rfl | rfl | rfl <;> decide
theorem PG.val {P : Prog} {a b : List Stm} (h : PG P a b) (hs : (Blk.of a).sz + (Blk.of b).sz ≤ 400) : Val P := by
  have hc := few_len h.cl
  have hf := few_ok h.cl
  refine ⟨h.kn, h.se, h.p, ⟨hc.1, by omega⟩, hf.1, hf.2, ?_, ?_, ?_, ?_, ?_⟩
  · rw [h.bd]; exact of_ok fun s hs => (h.aok s hs).1
  · rw [h.tl]; exact of_ok fun s hs => (h.bok s hs).1
  · rw [h.bd]; exact of_inl fun s hs => (h.aok s hs).2
  · rw [h.tl]; exact of_inl fun s hs => (h.bok s hs).2
  · rw [h.bd, h.tl]; exact hs
/-! ### texts of programs that are valid -/
theorem Fm.ok_dig {w : Nat} (hw : w ≤ 10) : ∀ {f : Fm}, f.ok w = true → f.dig = true
  | .num n, h => by simpa [Fm.ok, Fm.dig] using h
  | .known, _ => rfl
  | .secret, _ => rfl
  | .cell i, h => by simp only [Fm.ok, Fm.dig, decide_eq_true_eq] at h ⊢; omega
  | .op o a b, h => by
    simp only [Fm.ok, Fm.dig, Bool.and_eq_true] at h ⊢
    exact ⟨Fm.ok_dig hw h.1, Fm.ok_dig hw h.2⟩
mutual
theorem Stm.ok_fits {p w : Nat} (hp : p ≤ 10) (hw : w ≤ 10) : ∀ (s : Stm) {n : Nat}, s.ok p w = true → s.inl n = true → s.fits n = true
  | .do_ i, n, h, _ => by simp only [Stm.ok, Stm.fits, decide_eq_true_eq] at h ⊢; omega
  | .set i x, n, h, h2 => by
    simp only [Stm.ok, Stm.inl, Stm.fits, Bool.and_eq_true, decide_eq_true_eq] at h h2 ⊢
    exact ⟨⟨by omega, Fm.ok_dig hw h.2⟩, by omega⟩
  | .stop, _, _, _ => rfl
  | .iff x a b, n, h, h2 => by
    simp only [Stm.ok, Stm.inl, Stm.fits, Bool.and_eq_true, decide_eq_true_eq] at h h2 ⊢
    exact ⟨⟨⟨⟨Fm.ok_dig hw h.1.1, by omega⟩, by omega⟩, Blk.ok_fits hp hw a h.1.2 h2.1.2⟩, Blk.ok_fits hp hw b h.2 h2.2⟩
theorem Blk.ok_fits {p w : Nat} (hp : p ≤ 10) (hw : w ≤ 10) : ∀ (b : Blk) {n : Nat}, b.ok p w = true → b.inl n = true → b.fits n = true
  | .nil, _, _, _ => rfl
  | .cons s b, n, h, h2 => by
    simp only [Blk.ok, Blk.inl, Blk.fits, Bool.and_eq_true] at h h2 ⊢
    exact ⟨Stm.ok_fits hp hw s h.1 h2.1, Blk.ok_fits hp hw b h.2 h2.2⟩
end
theorem Fm.tx_sz : ∀ f : Fm, f.tx.length ≤ 3 * f.sz
  | .num _ => by simp [Fm.tx, Fm.sz]
  | .known => by simp [Fm.tx, Fm.sz]
  | .secret => by simp [Fm.tx, Fm.sz]
  | .cell _ => by simp [Fm.tx, Fm.sz]
  | .op _ a b => by
    have := Fm.tx_sz a
    have := Fm.tx_sz b
    simp [Fm.tx, Fm.sz]; omega
mutual
theorem Stm.tx_sz : ∀ s : Stm, s.tx.length + 2 ≤ 8 * s.sz
  | .do_ _ => by simp [Stm.tx, Stm.sz]
  | .set _ x => by
    have := Fm.tx_sz x
    have := x.sz_pos
    simp [Stm.tx, Stm.sz]; omega
  | .stop => by simp [Stm.tx, Stm.sz]
  | .iff x a b => by
    have := Fm.tx_sz x
    have := x.sz_pos
    have := Blk.tx_sz a
    have := Blk.tx_sz b
    simp [Stm.tx, Stm.sz]; omega
theorem Blk.tx_sz : ∀ b : Blk, b.tx.length ≤ 8 * b.sz
  | .nil => by simp [Blk.tx, Blk.sz]
  | .cons s .nil => by
    have := Stm.tx_sz s
    rw [Blk.tx_one]; simp [Blk.sz]; omega
  | .cons s (.cons s2 b) => by
    have := Stm.tx_sz s
    have := Blk.tx_sz (.cons s2 b)
    rw [Blk.tx_cons _ _ (by simp)]
    have e : (Blk.cons s (.cons s2 b)).sz = s.sz + (Blk.cons s2 b).sz := rfl
    rw [e]
    simp at this ⊢
    omega
end
mutual
theorem Stm.inl_fu : ∀ (s : Stm) {n : Nat}, s.inl n = true → s.fu ≤ 2 * n
  | .do_ _, n, h => by simp only [Stm.inl, decide_eq_true_eq] at h; simp only [Stm.fu]; omega
  | .set _ x, n, h => by simp only [Stm.inl, decide_eq_true_eq] at h; simp only [Stm.fu]; omega
  | .stop, n, h => by simp only [Stm.inl, decide_eq_true_eq] at h; simp only [Stm.fu]; omega
  | .iff x a b, n, h => by
    simp only [Stm.inl, Bool.and_eq_true, decide_eq_true_eq] at h
    have h1 := Blk.inl_fu a h.1.2
    have h2 := Blk.inl_fu b h.2
    simp only [Stm.fu]; omega
theorem Blk.inl_fu : ∀ (b : Blk) {n : Nat}, b.inl n = true → b.fu ≤ 2 * n + 1
  | .nil, n, _ => by simp only [Blk.fu]; omega
  | .cons s b, n, h => by
    simp only [Blk.inl, Bool.and_eq_true] at h
    have h1 := Stm.inl_fu s h.1
    have h2 := Blk.inl_fu b h.2
    simp only [Blk.fu]; omega
end
theorem Val.dig {P : Prog} (v : Val P) : Dig P := ⟨by have := v.kn; omega, by have := v.se; omega, by have := v.p; omega, fun c hc => by have := v.cs c hc; omega⟩
theorem Val.bfit {P : Prog} (v : Val P) : P.body.fits 12 = true := Blk.ok_fits (by have := v.p; omega) (by have := v.cl; omega) _ v.bok v.bin
theorem Val.tfit {P : Prog} (v : Val P) : P.tail.fits 12 = true := Blk.ok_fits (by have := v.p; omega) (by have := v.cl; omega) _ v.tok v.tin
theorem Val.pt {P : Prog} (v : Val P) : pProg P.tx = some P := prog_tx v.dig v.bfit v.tfit
section
variable {T : List Fn} {G : Ev} {wf : Nat} {bx : Bx}
/-- a drawn program -/
structure DrP (P : Prog) (a b : List Stm) : Prop where
  kn : 1 ≤ P.kn ∧ P.kn ≤ 3
  se : 1 ≤ P.se ∧ P.se ≤ 3
  p : 1 ≤ P.p ∧ P.p ≤ 5
  cl : P.cells ∈ few
  bd : P.body = Blk.of a
  tl : P.tail = Blk.of b
  la : a.length ≤ 4
  lb : b.length ≤ 2
  aok : ∀ s ∈ a, StB P.p P.cells.length 3 s
  bok : ∀ s ∈ b, StB P.p P.cells.length 2 s
theorem DrP.pg {P : Prog} {a b : List Stm} (h : DrP P a b) : PG P a b := ⟨h.kn, h.se, h.p, h.cl, h.bd, h.tl, fun s hs => ⟨(h.aok s hs).ok, (h.aok s hs).inl 12 (by decide)⟩, fun s hs => ⟨(h.bok s hs).ok, (h.bok s hs).inl 12 (by decide)⟩⟩
theorem DrP.sza {P : Prog} {a b : List Stm} (h : DrP P a b) : (Blk.of a).sz ≤ 336 := by
  have := of_szle fun s hs => (h.aok s hs).sz
  have h2 : a.length * tsz 3 ≤ 4 * tsz 3 := Nat.mul_le_mul_right _ h.la
  have : tsz 3 = 84 := rfl
  omega
theorem DrP.szb {P : Prog} {a b : List Stm} (h : DrP P a b) : (Blk.of b).sz ≤ 40 := by
  have := of_szle fun s hs => (h.bok s hs).sz
  have h2 : b.length * tsz 2 ≤ 2 * tsz 2 := Nat.mul_le_mul_right _ h.lb
  have : tsz 2 = 20 := rfl
  omega
theorem dl6 {e : D} (h : e ∈ fewD) : ∃ l ∈ few, e = .tup (l.map fun (c : Nat) => D.int c) := by
  obtain ⟨l, hl, rfl⟩ := List.mem_map.mp h
  exact ⟨l, hl, rfl⟩
theorem prB_ok (F : FamB T bx) {pg : Nat} (hT : T[pg]? = some ⟨1, 5, C_law_program bx⟩) {k : Nat} {S : Sto} {n : Int} (h : Dk S 0 1 n) (hn : 0 ≤ n) (hn2 : n < 800000) :
    ∃ (P : Prog) (a b : List Stm) (S' : Sto) (n' : Int), run T G wf (k + 11) pg [.loc 1] S = .ok P.d S' ∧ DrP P a b ∧ Dk S' 0 1 n' ∧ n ≤ n' ∧ n' ≤ n + 852 ∧ ∀ X, Kp S S' X := by
  obtain ⟨p, S1, e1, l1, d1, k1⟩ := drB (G := G) (wf := wf) F (k := k + 9) (m := 5) h hn (by omega) (by decide) (by decide)
  obtain ⟨cd, S2, e2, l2, d2, k2⟩ := onB (G := G) (wf := wf) F (k := k + 8) (xs := fewD) d1 (by omega) (by omega) (by decide) (by decide)
  obtain ⟨cs, lc, rfl⟩ := dl6 l2
  have hl := few_len lc
  obtain ⟨kn, S3, e3, l3, d3, k3⟩ := drB (G := G) (wf := wf) F (k := k + 9) (m := 3) d2 (by omega) (by omega) (by decide) (by decide)
  obtain ⟨se, S4, e4, l4, d4, k4⟩ := drB (G := G) (wf := wf) F (k := k + 9) (m := 3) d3 (by omega) (by omega) (by decide) (by decide)
  have t3 := stB_ok (G := G) (wf := wf) F (p := 1 + p) (w := cs.length) (by omega) (by omega) (by omega) (by omega) 2 k
  have t2 := stB_ok (G := G) (wf := wf) F (p := 1 + p) (w := cs.length) (by omega) (by omega) (by omega) (by omega) 1 (k + 2)
  rw [show k + 5 + 2 * 2 = (k + 8) + 1 by omega] at t3
  rw [show k + 2 + 5 + 2 * 1 = (k + 8) + 1 by omega] at t2
  have c3 : stC 3 = 189 := rfl
  have c2 : stC 2 = 45 := rfl
  obtain ⟨ys, S5, n5, e5, l5, v5, d5, g5, g5', k5⟩ := blkB_of F t3 (m := 4) (by decide) d4 (by omega) (by simp [c3]; omega)
  obtain ⟨zs, S6, n6, e6, l6, v6, d6, g6, g6', k6⟩ := blkB_of F t2 (m := 2) (by decide) d5 (by omega) (by simp [c3] at g5'; simp [c2]; omega)
  simp [c3] at g5'
  simp [c2] at g6'
  refine ⟨⟨1 + kn, 1 + se, 1 + p, cs, Blk.of ys, Blk.of zs⟩, ys, zs, S6, n6, (run_succ hT rfl).trans ?_, ⟨by simp; omega, by simp; omega, by simp; omega, lc, rfl, rfl, l5, l6, v5, v6⟩, d6, by omega, by omega, fun X => (((((k1 X).trans (k2 X)).trans (k3 X)).trans (k4 X)).trans (k5 X)).trans (k6 X)⟩
  have e1' : run T G wf (k + 10) bx.law_draw [.loc 1, .int 5] S = .ok (.int p) S1 := e1
  have e2' : run T G wf (k + 10) bx.law_one [.loc 1, .lst fewD] S1 = .ok (.tup (cs.map fun (c : Nat) => D.int c)) S2 := e2
  have e3' : run T G wf (k + 10) bx.law_draw [.loc 1, .int 3] S2 = .ok (.int kn) S3 := e3
  have e4' : run T G wf (k + 10) bx.law_draw [.loc 1, .int 3] S3 = .ok (.int se) S4 := e4
  have e5' : run T G wf (k + 10) bx.law_block [.loc 1, .int (1 + p : Int), .int cs.length, .int 4, .int 3] S4 = .ok (.tup (ys.map Stm.d)) S5 := by rw [← e5]; simp
  have e6' : run T G wf (k + 10) bx.law_block [.loc 1, .int (1 + p : Int), .int cs.length, .int 2, .int 2] S5 = .ok (.tup (zs.map Stm.d)) S6 := by rw [← e6]; simp
  generalize hC : run T G wf (k + 10) = C at e1' e2' e3' e4' e5' e6' ⊢
  let cD : D := .tup (cs.map fun (c : Nat) => D.int c)
  have lnD : ∀ S, lenD S cD = some (.int cs.length) := fun S => by simp [cD]
  let sd : Sl := [some (.loc 1), none, none, none, none]
  let sd1 : Sl := [some (.loc 1), none, none, some (.int (1 + p)), some cD]
  let sd2 : Sl := [some (.loc 1), some (.tup [.int (1 + kn), .int (1 + se)]), none, some (.int (1 + p)), some cD]
  let sd3 : Sl := [some (.loc 1), some (.tup [.int (1 + kn), .int (1 + se)]), some (.tup (ys.map Stm.d)), some (.int (1 + p)), some cD]
  have s0 : dS G C wf ((C_law_program bx).at 0) sd S = .ok .nx sd1 S2 := par_2 (i := 3) (j := 4) (S1 := S1) (by simp [sd, e1']) (by
    refine e_call2 (x := .loc 1) (y := .lst fewD) (S1 := S1) (S2 := S1) (by simp [sd]) (by simp; rfl) e2')
  have s1 : dS G C wf ((C_law_program bx).at 1) sd1 S2 = .ok .nx sd2 S4 := s_asg1 (i := 1) (by simp [sd1, e3', e4'])
  have s2 : dS G C wf ((C_law_program bx).at 2) sd2 S4 = .ok .nx sd3 S5 := s_asg1 (i := 2) (by simp [sd2, lnD, e5'])
  show fnEnd (dSs G C wf (C_law_program bx) sd S) = _
  rw [stp0 rfl s0, stp rfl s1, stp rfl s2]
  refine e_ret (s := (C_law_program bx).at 3) rfl (s_ret1 ?_)
  refine e_op (x := .tup [.int (1 + kn), .int (1 + se)]) (y := .tup [.int (1 + p), cD, .tup (ys.map Stm.d), .tup (zs.map Stm.d)]) (S1 := S5) (by simp [sd3]) (by simp [sd3, lnD, e6']) ?_
  simp [Prog.d, of_ds, opF, addP, asL]
  rfl
end
end Z

/-! Texts of whole programs, the program's and the law's. -/
namespace Z
open PySem PySem.Spec PyProof.Rows L2
theorem strip_same {c e : Nat} {q : Cs} (h0 : c ≠ 32) (h1 : e ≠ 32) (hq : ∃ r, q = c :: r) (hr : ∃ r, q = r ++ [e]) : Txt.stripChars (sl q) (sl [32]) = sl q := by
  have ct : ∀ x, (sl [32]).cps.contains x = (x == 32) := fun x => by simp [sl]; rfl
  have s1 : stripLo (sl [32]).cps.contains true (sl q) = 0 := by
    obtain ⟨r, rfl⟩ := hq
    simp [stripLo, sl, h0]
  have s2 : stripHi (sl [32]).cps.contains true (sl q) 0 = (sl q).length := by
    obtain ⟨r, rfl⟩ := hr
    simp [stripHi, sl, h1]
  unfold Txt.stripChars Txt.stripBy
  rw [if_pos (by unfold stripSame; rw [s1, s2]; simp)]
theorem Stm.tx_last : ∀ s : Stm, ∃ e r, e ≠ 32 ∧ s.tx = r ++ [e]
  | .do_ i => ⟨48 + i, [100, 111, 32], by omega, rfl⟩
  | .set i x => by
    have h := x.vis
    have hne : x.tx ≠ [] := by cases x <;> simp [Fm.tx]
    refine ⟨x.tx.getLast hne, [115, 101, 116, 32, 48 + i, 32] ++ x.tx.dropLast, by have := h _ (List.getLast_mem hne); omega, ?_⟩
    rw [List.append_assoc, List.dropLast_concat_getLast]
    simp [Stm.tx]
  | .stop => ⟨112, [115, 116, 111], by omega, rfl⟩
  | .iff x a b => ⟨125, [105, 102, 32] ++ x.tx ++ [32, 123] ++ a.tx ++ [125, 32, 123] ++ b.tx, by omega, by simp [Stm.tx]⟩
theorem Blk.tx_last : ∀ b : Blk, b ≠ .nil → ∃ e r, e ≠ 32 ∧ b.tx = r ++ [e]
  | .nil, h => absurd rfl h
  | .cons s .nil, _ => by rw [Blk.tx_one]; exact s.tx_last
  | .cons s (.cons s2 b), _ => by
    obtain ⟨e, r, h1, h2⟩ := Blk.tx_last (.cons s2 b) (by simp)
    refine ⟨e, s.tx ++ 59 :: 32 :: r, h1, ?_⟩
    rw [Blk.tx_cons _ _ (by simp), h2]
    simp
theorem line_strip {c : Nat} {w : Cs} (hc : c ≠ 32) (hw : ∃ r, w = c :: r) (hs : Txt.stripChars (sl (w ++ [32])) (sl [32]) = sl w) (b : Blk) : Txt.stripChars (sl ((w ++ [32]) ++ b.tx)) (sl [32]) = sl (lineTx w b) := by
  cases b with
  | nil => simpa [Blk.tx, lineTx] using hs
  | cons s b =>
    obtain ⟨e, r, h1, h2⟩ := Blk.tx_last (.cons s b) (by simp)
    obtain ⟨v, rfl⟩ := hw
    have := strip_same (q := (c :: v ++ [32]) ++ (Blk.cons s b).tx) hc h1 ⟨v ++ [32] ++ (Blk.cons s b).tx, by simp⟩ ⟨(c :: v ++ [32]) ++ r, by rw [h2]; simp⟩
    rw [this]
    simp [lineTx]
theorem l_lettersS : ("letters " : Str) = sl (wLetters ++ [32]) := by decide +kernel
theorem l_worksS : ("works " : Str) = sl (wWorks ++ [32]) := by decide +kernel
theorem l_cellsS : ("cells " : Str) = sl (wCells ++ [32]) := by decide +kernel
theorem lineTx_len {w : Cs} {b : Blk} : (lineTx w b).length ≤ w.length + 1 + b.tx.length := by
  cases b with
  | nil => simp [lineTx]; omega
  | cons s b => simp [lineTx]; omega
theorem cells_len : ∀ {cs : List Nat}, (TL.joinL [32] (cs.map fun c => [48 + c])).length ≤ 2 * cs.length
  | [] => by simp [TL.joinL]
  | [c] => by simp [TL.joinL]
  | c :: d :: cs => by
    have := cells_len (cs := d :: cs)
    simp only [List.map_cons, TL.joinL, List.length_append, List.length_cons, List.length_nil] at this ⊢
    omega
theorem ones_sum : ∀ {cs : List Nat}, ((cs.map fun c => [48 + c]).map List.length).sum = cs.length
  | [] => rfl
  | c :: cs => by
    have := ones_sum (cs := cs)
    simp only [List.map_cons, List.sum_cons, List.length_cons, List.length_nil, this]
    omega
theorem eq_nil {S : Sto} {ds : List D} : cmpF .Eq S (.tup ds) (.tup []) = some (.bl (decide (ds = []))) := by
  cases ds with
  | nil => rfl
  | cons d ds => rfl
theorem Val.blen {P : Prog} (v : Val P) : P.body.tx.length ≤ 3200 := by have := P.body.tx_sz; have := v.sz; omega
theorem Val.tlen {P : Prog} (v : Val P) : P.tail.tx.length ≤ 3200 := by have := P.tail.tx_sz; have := v.sz; omega
theorem lns_sum {P : Prog} (v : Val P) : (P.lns.map List.length).sum ≤ 7000 := by
  have := v.blen
  have := v.tlen
  have h1 := lineTx_len (w := wBody) (b := P.body)
  have h2 := lineTx_len (w := wTail) (b := P.tail)
  have h3 := cells_len (cs := P.cells)
  have := v.cl
  have w1 : wBody.length = 4 := rfl
  have w2 : wTail.length = 4 := rfl
  simp [Prog.lns, wLetters, wWorks, wCells]
  omega
section
variable {T : List Fn} {G : Ev} {wf : Nat} {tx : Tx} {lx : Lx}
theorem lnof_ok (A : WpA T G tx) {S : Sto} {w : Cs} {b : Blk} {k : Nat} (hb : b.digs = true) (hl : b.tx.length ≤ 1000000) (hw : w.length ≤ 100) (hf : b.fu ≤ k) : run T G wf (k + 1) tx.line_of [.str (sl w), .tup b.ds] S = .ok (.str (sl (lineTx w b))) S := by
  rw [run_succ (fn := ⟨2, 2, B_line_of tx⟩) A.line_of rfl]
  show fnEnd (dSs G (run T G wf k) wf (B_line_of tx) [some (.str (sl w)), some (.tup b.ds)] S) = _
  refine e_ret (s := (B_line_of tx).at 0) rfl (s_ret1 ?_)
  cases b with
  | nil => exact (e_ifT (t_cmp (x := .tup []) (y := .tup []) (S1 := S) (S2 := S) (by simp [Blk.ds]) (by simp) (eq_nil.trans rfl))).trans (by simp [lineTx])
  | cons s b =>
    refine (e_ifF (S1 := S) (t_cmp (x := .tup (Blk.cons s b).ds) (y := .tup []) (S1 := S) (by simp) (by simp) (eq_nil.trans (by simp [Blk.ds])))).trans ?_
    have := btx_ok (wf := wf) A.toWsA (S := S) (.cons s b) (k - (Blk.cons s b).fu) hb hl
    rw [show k - (Blk.cons s b).fu + (Blk.cons s b).fu = k by omega] at this
    have e : lineTx w (.cons s b) = (w ++ [32]) ++ (Blk.cons s b).tx := by simp [lineTx]
    rw [e]
    exact e_add (S1 := S) (e_add (S1 := S) (a := w) (b := [32]) (by simp) (by simp [l_sp]) (by simp; omega)) (e_call1 (x := .tup (Blk.cons s b).ds) (S1 := S) (by simp) this) (by simp; omega)
theorem cells_txt {cs : List Nat} (h : ∀ c ∈ cs, c < 10) {S : Sto} {C : Nat → List D → Sto → Out D} {it : E} {i : Nat} {own : List (Str × Nat)} {sd : Sl} (hi : dE G C it sd S = .ok (.tup (cs.map fun (c : Nat) => D.int c)) S) (hl : cs.length ≤ 1000) (hs : ∀ x, ((wipeD sd (own.map (·.2))).set i (some x))[i]? = some (some x)) :
    dE G C (.lc false (.nm i) (.seq it) .none (.bf .str (.cons (.v i) .nil)) own) sd S = .ok (.lst ((cs.map fun c => [48 + c]).map fun p => D.str (sl p))) S := by
  refine lcA (ds := cs.map fun (c : Nat) => D.int c) (by simp [hi, srcOf]) (by simp; omega) ?_
  clear hi hl
  induction cs with
  | nil => exact .nil
  | cons c cs ih =>
    refine .cons (e_bf1 (x := .int c) (S1 := S) ?_ (str_dig (S := S) (h c (.head _)))) (ih fun c hc => h c (.tail _ hc))
    exact q_mVar (hs _)
theorem ixP0 {S : Sto} {P : Prog} : ixP S P.d (.int 0) = some (.int P.kn) := rfl
theorem ixP1 {S : Sto} {P : Prog} : ixP S P.d (.int 1) = some (.int P.se) := rfl
theorem ixP2 {S : Sto} {P : Prog} : ixP S P.d (.int 2) = some (.int P.p) := rfl
theorem ixP3 {S : Sto} {P : Prog} : ixP S P.d (.int 3) = some (.tup (P.cells.map fun (c : Nat) => D.int c)) := rfl
theorem ixP4 {S : Sto} {P : Prog} : ixP S P.d (.int 4) = some (.tup P.body.ds) := rfl
theorem ixP5 {S : Sto} {P : Prog} : ixP S P.d (.int 5) = some (.tup P.tail.ds) := rfl
theorem add_lst {S : Sto} {ps qs : List D} (h : ps.length + qs.length ≤ 16777216) : opF .Add S (.lst ps) (.lst qs) = some (.lst (ps ++ qs)) := by
  show addP S (.lst ps) (.lst qs) = _
  have e1 : asL S (.lst ps) = some ps := rfl
  have e2 : asL S (.lst qs) = some qs := rfl
  unfold addP
  simp only [e1, e2]
  rw [if_pos h]
theorem lst3 {C : Nat → List D → Sto → Out D} {sd : Sl} {S S1 S2 S3 : Sto} {e e2 e3 : E} {a b c : D} (h1 : dE G C e sd S = .ok a S1) (h2 : dE G C e2 sd S1 = .ok b S2) (h3 : dE G C e3 sd S2 = .ok c S3) : dE G C (.lst false (.cons e (.cons e2 (.cons e3 .nil)))) sd S = .ok (.lst [a, b, c]) S3 := by
  simp [h1, h2, h3]
/-- program_text writes the text -/
theorem ptx_ok (A : WpA T G tx) {P : Prog} (v : Val P) {S : Sto} {k : Nat} : run T G wf (k + 28) tx.program_text [P.d] S = .ok (.str (sl P.tx)) S := by
  rw [run_succ (fn := ⟨1, 4, B_program_text tx⟩) A.program_text rfl]
  have dg := v.dig
  have hb := lnof_ok (wf := wf) A (S := S) (w := wBody) (b := P.body) (k := k + 26) (P.body.fits_digs v.bfit) (by have := v.blen; omega) (by decide) (by have := P.body.inl_fu v.bin; omega)
  have ht := lnof_ok (wf := wf) A (S := S) (w := wTail) (b := P.tail) (k := k + 26) (P.tail.fits_digs v.tfit) (by have := v.tlen; omega) (by decide) (by have := P.tail.inl_fu v.tin; omega)
  rw [show k + 26 + 1 = k + 27 by omega] at hb ht
  let C := run T G wf (k + 27)
  show fnEnd (dSs G C wf (B_program_text tx) [some P.d, none, none, none] S) = _
  have jl : (TL.joinL [32] (P.cells.map fun c => [48 + c])).length ≤ 2 * P.cells.length := cells_len
  have cl := v.cl
  let ct := TL.joinL [32] (P.cells.map fun c => [48 + c])
  let l3 : List Cs := [wLetters ++ [32, 48 + P.kn, 32, 48 + P.se], wWorks ++ [32, 48 + P.p], wCells ++ 32 :: ct]
  have s0 : dS G C wf ((B_program_text tx).at 0) [some P.d, none, none, none] S = .ok .nx [some P.d, some (.str (sl ct)), none, none] S := s_asg1 (i := 1) (e_sm (x := " ") (S1 := S) (by simp) (cells_txt dg.cl (by simp [ixP0, ixP1, ixP2, ixP3, ixP4, ixP5]) (by omega) (fun _ => rfl)) (by
    rw [q_smjoin, l_sp, join_d (by
      have := ones_sum (cs := P.cells)
      rw [this]; simp; omega)]))
  have s1 : dS G C wf ((B_program_text tx).at 1) [some P.d, some (.str (sl ct)), none, none] S = .ok .nx [some P.d, some (.str (sl ct)), some (.lst (l3.map fun p => D.str (sl p))), none] S := by
    refine s_asg1 (i := 2) (lst3 (S1 := S) (S2 := S) ?_ ?_ ?_)
    · exact (e_fs4 (a := wLetters ++ [32]) (b := [48 + P.kn]) (c := [32]) (d := [48 + P.se]) (S1 := S) (S2 := S) (S3 := S) (S4 := S) (by simp [l_lettersS]) (e_fmtN (by simp [ixP0, ixP1, ixP2, ixP3, ixP4, ixP5]) dg.kn) (by simp [l_sp]) (e_fmtN (by simp [ixP0, ixP1, ixP2, ixP3, ixP4, ixP5]) dg.se) (by simp [wLetters])).trans (by simp)
    · exact (e_fs2 (a := wWorks ++ [32]) (b := [48 + P.p]) (S1 := S) (S2 := S) (by simp [l_worksS]) (e_fmtN (by simp [ixP0, ixP1, ixP2, ixP3, ixP4, ixP5]) dg.p) (by simp [wWorks])).trans (by simp)
    · exact (e_add (a := wCells ++ [32]) (b := ct) (S1 := S) (S2 := S) (by simp [l_cellsS]) (by simp) (by simp [wCells, ct]; omega)).trans (by simp)
  rw [stp0 rfl s0, stp rfl s1]
  refine e_ret (s := (B_program_text tx).at 2) rfl (s_ret1 (e_sm (x := "\n") (S1 := S) (by simp) (e_op (x := .lst (l3.map fun p => D.str (sl p))) (y := .lst ([lineTx wBody P.body, lineTx wTail P.tail].map fun p => D.str (sl p))) (S1 := S) (by simp) (lst2 (S1 := S) (e_call2 (x := .str (sl wBody)) (y := .tup P.body.ds) (S1 := S) (S2 := S) (by simp [l_body]) (by simp [ixP0, ixP1, ixP2, ixP3, ixP4, ixP5]) hb) (e_call2 (x := .str (sl wTail)) (y := .tup P.tail.ds) (S1 := S) (S2 := S) (by simp [l_tail]) (by simp [ixP0, ixP1, ixP2, ixP3, ixP4, ixP5]) ht)) (add_lst (by simp [l3]))) ?_))
  rw [← List.map_append, show l3 ++ [lineTx wBody P.body, lineTx wTail P.tail] = P.lns from rfl, q_smjoin, l_nl, join_d (by have := lns_sum v; simp [Prog.lns] at this ⊢; omega)]
  rfl
end
end Z

/-! The law's text of a program. -/
namespace Z
open PySem PySem.Spec PyProof.Rows L2
theorem join_l {S : Sto} {a : Cs} {ps : List Cs} {f : Nat} (hf : S[f]? = some (.lst (ps.map fun p => D.str (sl p)))) (h : (ps.map List.length).sum + ps.length * a.length ≤ 16777216) : joinD S (.str (sl a)) (.loc f) = some (.str (sl (TL.joinL a ps))) := by
  have := join_d (S := S) h
  have e : asQ S (.lst (ps.map fun p => D.str (sl p))) = some (ps.map fun p => D.str (sl p)) := rfl
  have e2 : asQ S (.loc f) = some (ps.map fun p => D.str (sl p)) := by simp [asQ, asL, hf]
  unfold joinD at this ⊢
  simp only [e] at this
  simp only [e2]
  exact this
theorem strip_d {S : Sto} {a b : Cs} (h : a.length ≤ 16777216) (e : Txt.stripChars (sl a) (sl [32]) = sl b) : smF .strip S (.str (sl a)) (.str (sl [32])) = some (.str (sl b)) := by
  show (if (sl a).length ≤ 16777216 then some (D.str (Txt.stripChars (sl a) (sl [32]))) else none) = _
  rw [if_pos (by rw [sl_len]; exact h), e]
section
variable {T : List Fn} {G : Ev} {wf : Nat} {tx : Tx} {lx : Lx}
theorem s_app {C : Nat → List D → Sto → Out D} {sd : Sl} {S S2 : Sto} {i f : Nat} {e : E} {y : D} {xs : List D} (h4 : sd[i]? = some (some (.loc f))) (he : dE G C e sd S = .ok y S2) (h0 : S[f]? = some (.lst xs)) (h3 : S2[f]? = some (.lst xs)) (hl : xs.length < 16777216) :
    dS G C wf (.ex (.app (.v i) (.cons e .nil))) sd S = .ok .nx sd (S2.set f (.lst (xs ++ [y]))) := by
  have := app_ok (o := mVar i) (a := dL G C (.cons e .nil)) (sd := sd) (S := S) (S2 := S2) (n := f) (y := y) (xs := xs) (q_mVar h4) h0 (by simp [he]) h3 hl
  simp only [q_sex, q_mExpr, q_eapp, q_ev, this]
theorem e_strN {C : Nat → List D → Sto → Out D} {sd : Sl} {S S1 : Sto} {e : E} {n : Nat} (h : dE G C e sd S = .ok (.int (n : Int)) S1) (hn : n < 10) : dE G C (.bf .str (.cons e .nil)) sd S = .ok (.str (sl [48 + n])) S1 := e_bf1 (f := .str) h (str_dig (S := S1) hn)
theorem lstM2 {C : Nat → List D → Sto → Out D} {sd : Sl} {S S1 S2 : Sto} {e e2 : E} {a b : D} (h1 : dE G C e sd S = .ok a S1) (h2 : dE G C e2 sd S1 = .ok b S2) : dE G C (.lst true (.cons e (.cons e2 .nil))) sd S = .ok (.loc S2.length) (S2 ++ [.lst [a, b]]) := by
  simp [h1, h2]
theorem set_last {S : Sto} {a b : MO} : (S ++ [a]).set S.length b = S ++ [b] := by simp
theorem get_last {S : Sto} {a : MO} : (S ++ [a])[S.length]? = some a := by simp
def sLs (ps : List Cs) : MO := .lst (ps.map fun p => D.str (sl p))
/-- the law's text of a program -/
theorem ltx_ok (A : LtpA T lx) {P : Prog} (v : Val P) {S : Sto} {k : Nat} : run T G wf (k + 28) lx.law_text [P.d] S = .ok (.str (sl P.tx)) (S ++ [sLs P.lns]) := by
  rw [run_succ (fn := ⟨1, 11, B_law_text lx⟩) A.law_text rfl]
  have dg := v.dig
  have hb := fun S => lbt_ok (wf := wf) (G := G) A.toLtxA (S := S) P.body (k + 27 - P.body.fu) (P.body.fits_digs v.bfit) (by have := v.blen; omega)
  have ht := fun S => lbt_ok (wf := wf) (G := G) A.toLtxA (S := S) P.tail (k + 27 - P.tail.fu) (P.tail.fits_digs v.tfit) (by have := v.tlen; omega)
  have fb := P.body.inl_fu v.bin
  have ft := P.tail.inl_fu v.tin
  rw [show k + 27 - P.body.fu + P.body.fu = k + 27 by omega] at hb
  rw [show k + 27 - P.tail.fu + P.tail.fu = k + 27 by omega] at ht
  generalize hC : run T G wf (k + 27) = C at hb ht ⊢
  let cD : D := .tup (P.cells.map fun (c : Nat) => D.int c)
  let q1 : Cs := wLetters ++ [32, 48 + P.kn, 32, 48 + P.se]
  let q2 : Cs := wWorks ++ [32, 48 + P.p]
  let q3 : Cs := wCells ++ 32 :: TL.joinL [32] (P.cells.map fun c => [48 + c])
  let f := S.length
  let sd0 : Sl := [some P.d, none, none, none, none, none, none, none, none, none, none]
  let sd1 : Sl := [some P.d, none, some (.int P.kn), some (.int P.se), some (.int P.p), some cD, some (.tup P.body.ds), some (.tup P.tail.ds), none, none, none]
  let sd2 (a b : Option D) : Sl := [some P.d, some (.loc f), some (.int P.kn), some (.int P.se), some (.int P.p), some cD, some (.tup P.body.ds), some (.tup P.tail.ds), a, b, none]
  have jl : (TL.joinL [32] (P.cells.map fun c => [48 + c])).length ≤ 2 * P.cells.length := cells_len
  have cl := v.cl
  have s0 : dS G C wf ((B_law_text lx).at 0) sd0 S = .ok .nx sd1 S := by
    show dS G C wf (.asg (.tup (.cons (.nm 2) (.cons (.nm 3) (.cons (.nm 4) (.cons (.nm 5) (.cons (.nm 6) (.cons (.nm 7) .nil))))))) (.v 0)) sd0 S = _
    simp [sd0, sd1, Prog.d, cD]
    rfl
  have e1 : dE G C (.op .Add (.op .Add (.op .Add (.c (.str "letters ")) (.bf .str (.cons (.v 2) .nil))) (.c (.str " "))) (.bf .str (.cons (.v 3) .nil))) sd1 S = .ok (.str (sl q1)) S := by
    refine (e_add (a := (wLetters ++ [32] ++ [48 + P.kn]) ++ [32]) (b := [48 + P.se]) (S1 := S) (S2 := S) (e_add (S1 := S) (e_add (a := wLetters ++ [32]) (S1 := S) (by simp [l_lettersS]) (e_strN (n := P.kn) (S1 := S) (by simp [sd1]) dg.kn) (by simp [wLetters])) (by simp [l_sp]) (by simp [wLetters])) (e_strN (n := P.se) (S1 := S) (by simp [sd1]) dg.se) (by simp [wLetters])).trans (by simp [q1])
  have e2 : dE G C (.op .Add (.c (.str "works ")) (.bf .str (.cons (.v 4) .nil))) sd1 S = .ok (.str (sl q2)) S := by
    refine (e_add (a := wWorks ++ [32]) (S1 := S) (by simp [l_worksS]) (e_strN (n := P.p) (S1 := S) (by simp [sd1]) dg.p) (by simp [wWorks])).trans (by simp [q2])
  have s1 : dS G C wf ((B_law_text lx).at 1) sd1 S = .ok .nx (sd2 none none) (S ++ [sLs [q1, q2]]) := by
    exact s_asg1 (i := 1) (lstM2 e1 e2)
  have e3 : ∀ S, dE G C (.sm .join (.c (.str " ")) (.op .Add (.lst false (.cons (.c (.str "cells")) .nil)) (.lc false (.nm 10) (.seq (.v 5)) .none (.bf .str (.cons (.v 10) .nil)) [("_law_size", 10)]))) (sd2 none none) S = .ok (.str (sl q3)) S := fun S => by
    refine e_sm (x := " ") (S1 := S) (by simp) (e_op (x := .lst [.str (sl wCells)]) (S1 := S) (by simp [l_cells]) (cells_txt dg.cl (it := .v 5) (S := S) (by simp [sd2, cD]) (by omega) (fun _ => rfl)) (add_lst (by simp; omega))) ?_
    rw [show ([D.str (sl wCells)] ++ (P.cells.map fun c => [48 + c]).map fun p => D.str (sl p)) = (wCells :: P.cells.map fun c => [48 + c]).map fun p => D.str (sl p) from rfl, q_smjoin, l_sp, join_d (by
      have := ones_sum (cs := P.cells)
      simp only [List.map_cons, List.sum_cons, this]; simp [wCells]; omega)]
    have hne := cl.1
    cases hc : P.cells with
    | nil => rw [hc] at hne; simp at hne
    | cons c cs =>
      show some (D.str (sl (TL.joinL [32] (wCells :: [48 + c] :: (cs.map fun c => [48 + c]))))) = _
      simp [q3, hc, TL.joinL]
  have s2 : dS G C wf ((B_law_text lx).at 2) (sd2 none none) (S ++ [sLs [q1, q2]]) = .ok .nx (sd2 none none) (S ++ [sLs [q1, q2, q3]]) := by
    refine (s_app (i := 1) (f := f) (y := .str (sl q3)) (xs := [q1, q2].map fun p => D.str (sl p)) rfl (e3 _) get_last get_last (by simp)).trans ?_
    rw [set_last]; rfl
  have lA : ∀ (c : Nat) (w : Cs) (b : Blk) (ls : List Cs), c ≠ 32 → (∃ r, w = c :: r) → Txt.stripChars (sl (w ++ [32])) (sl [32]) = sl w → w.length = 4 → b.tx.length ≤ 3200 → (∀ S, C lx.law_block_text [.tup b.ds] S = .ok (.str (sl b.tx)) S) → ls.length < 100 → dSs G C wf (.cons (.ex (.app (.v 1) (.cons (.sm .strip (.op .Add (.op .Add (.v 8) (.c (.str " "))) (.call lx.law_block_text (.cons (.v 9) .nil))) (.c (.str " "))) .nil))) .nil) (sd2 (some (.str (sl w))) (some (.tup b.ds))) (S ++ [sLs ls]) = .ok .nx (sd2 (some (.str (sl w))) (some (.tup b.ds))) (S ++ [sLs (ls ++ [lineTx w b])]) := by
    intro c w b ls hc hw hs hl hbl hC ll
    have ee : dE G C (.sm .strip (.op .Add (.op .Add (.v 8) (.c (.str " "))) (.call lx.law_block_text (.cons (.v 9) .nil))) (.c (.str " "))) (sd2 (some (.str (sl w))) (some (.tup b.ds))) (S ++ [sLs ls]) = .ok (.str (sl (lineTx w b))) (S ++ [sLs ls]) :=
      e_sm (x := sl ((w ++ [32]) ++ b.tx)) (y := .str (sl [32])) (S1 := S ++ [sLs ls]) (e_add (a := w ++ [32]) (S1 := S ++ [sLs ls]) (e_add (a := w) (b := [32]) (S1 := S ++ [sLs ls]) (by simp [sd2]) (by simp [l_sp]) (by simp [hl])) (e_call1 (x := .tup b.ds) (S1 := S ++ [sLs ls]) (by simp [sd2]) (hC _)) (by simp; omega)) (by simp [l_sp]) (strip_d (by simp; omega) (line_strip hc hw hs b))
    rw [q_scons, then_nx (s_app (i := 1) (f := f) (xs := ls.map fun p => D.str (sl p)) rfl ee get_last get_last (by simp; omega)), q_snil]
    rw [set_last]
    simp [sLs]
  have s3 : dS G C wf ((B_law_text lx).at 3) (sd2 none none) (S ++ [sLs [q1, q2, q3]]) = .ok .nx (sd2 (some (.str (sl wTail))) (some (.tup P.tail.ds))) (S ++ [sLs P.lns]) := by
    show dS G C wf (.for_ (.tup (.cons (.nm 8) (.cons (.nm 9) .nil))) (.seq (.lst false (.cons (.tup (.cons (.c (.str "body")) (.cons (.v 6) .nil))) (.cons (.tup (.cons (.c (.str "tail")) (.cons (.v 7) .nil))) .nil)))) _) (sd2 none none) (S ++ [sLs [q1, q2, q3]]) = _
    have it : dI G C (.seq (.lst false (.cons (.tup (.cons (.c (.str "body")) (.cons (.v 6) .nil))) (.cons (.tup (.cons (.c (.str "tail")) (.cons (.v 7) .nil))) .nil)))) (sd2 none none) (S ++ [sLs [q1, q2, q3]]) = .ok (.vals [.tup [.str (sl wBody), .tup P.body.ds], .tup [.str (sl wTail), .tup P.tail.ds]]) (S ++ [sLs [q1, q2, q3]]) := by
      simp [sd2, srcOf, l_body, l_tail]
    rw [q_sfor, q_mFor, it]
    have g : ∀ (a b x y : D) (u w : Option D) S, dG G C (.tup (.cons (.nm 8) (.cons (.nm 9) .nil))) (.tup [x, y]) (sd2 u w) S = some (sd2 (some x) (some y), S) := fun a b x y u w S => rfl
    show forGo (.vals [.tup [.str (sl wBody), .tup P.body.ds], .tup [.str (sl wTail), .tup P.tail.ds]]) _ _ 2 0 _ _ = _
    rw [show (2 : Nat) = [D.tup [.str (sl wBody), .tup P.body.ds], .tup [.str (sl wTail), .tup P.tail.ds]].length from rfl, forV]
    unfold forL
    rw [g .non .non]
    simp only []
    rw [lA 98 wBody P.body [q1, q2, q3] (by decide) ⟨_, rfl⟩ (by decide +kernel) rfl v.blen hb (by simp)]
    simp only []
    unfold forL
    rw [g .non .non]
    simp only []
    rw [lA 116 wTail P.tail ([q1, q2, q3] ++ [lineTx wBody P.body]) (by decide) ⟨_, rfl⟩ (by decide +kernel) rfl v.tlen ht (by simp)]
    rfl
  show fnEnd (dSs G C wf (B_law_text lx) sd0 S) = _
  rw [stp0 rfl s0, stp rfl s1, stp rfl s2, stp rfl s3]
  refine e_ret (s := (B_law_text lx).at 4) rfl (s_ret1 (e_sm (x := "\n") (y := .loc f) (S1 := S ++ [sLs P.lns]) (by simp) (by simp [sd2]) ?_))
  rw [q_smjoin, l_nl]
  exact join_l (S := S ++ [sLs P.lns]) (f := f) get_last (by have := lns_sum v; simp [Prog.lns] at this ⊢; omega)
end
end Z

/-! repr of plain data with small leaves. -/
namespace Z
open PySem PySem.Spec PyProof.Rows L2
def smallI (i : Int) : Prop := 0 ≤ i ∧ i < 10 ^ 13
theorem small_log {i : Int} (h : smallI i) : i.natAbs.log2 < 1920 := by
  by_cases z : i.natAbs = 0
  · rw [z]; decide
  · rw [Nat.log2_lt z]
    have : i.natAbs < 2 ^ 64 := by have := h.1; have := h.2; omega
    exact Nat.lt_of_lt_of_le this (Nat.pow_le_pow_right (by decide) (by decide))
theorem small_len {i : Int} (h : smallI i) : (PyData.int i).shown.length ≤ 20 := by
  rw [PyData.shown_int]
  obtain ⟨n, rfl⟩ : ∃ n : Nat, i = n := ⟨i.toNat, by have := h.1; omega⟩
  have e : (Str.ofString (toString ((n : Nat) : Int))).length = (TL.numL n).length := by rw [TL.len_tl, TL.tl_num]
  rw [e]
  have := TL.numL_len (n := n) (k := 13) (by decide) (by have := h.2; omega)
  omega
mutual
def toPt : D → PyData
  | .non => .none
  | .bl b => .bool b
  | .int i => .int i
  | .str x => .str x
  | .tup xs => .tuple (toPts xs)
  | .lst xs => .list (toPts xs)
  | .fro xs => .list (toPts xs)
  | .loc _ => .none
def toPts : List D → List PyData
  | [] => []
  | x :: xs => toPt x :: toPts xs
end
mutual
/-- leaves that are small; no objects -/
def okR : D → Bool
  | .int i => decide (0 ≤ i) && decide (i < 10000000000000)
  | .str x => x.cps.toList.all fun c => decide (c < 1114112)
  | .tup xs => okRs xs
  | .lst xs => okRs xs
  | .fro _ => false
  | .loc _ => false
  | _ => true
def okRs : List D → Bool
  | [] => true
  | x :: xs => okR x && okRs xs
end
mutual
def wtD : D → Nat
  | .int _ => 65
  | .str x => x.cps.size
  | .tup xs => wtDs xs
  | .lst xs => wtDs xs
  | .fro xs => wtDs xs
  | _ => 0
def wtDs : List D → Nat
  | [] => 0
  | x :: xs => wtD x + 1 + wtDs xs
end
mutual
def dpD : D → Nat
  | .tup xs => dpDs xs + 1
  | .lst xs => dpDs xs + 1
  | .fro xs => dpDs xs + 1
  | _ => 0
def dpDs : List D → Nat
  | [] => 0
  | x :: xs => max (dpD x) (dpDs xs)
end
structure Rpr (d : D) (p : PyData) : Prop where
  to : toP0 d = some p
  sh : p.showable = true
  nd : p.hasDict = false
  dp : p.depth ≤ dpD d
  lv : p.leavesShort 20 = true
  wt : p.weight ≤ wtD d
structure Rprs (d : List D) (p : List PyData) : Prop where
  to : toPs0 d = some p
  sh : PyData.showableAll p = true
  nd : PyData.hasDictAll p = false
  dp : PyData.depthAll p ≤ dpDs d
  lv : PyData.leavesShortAll 20 p = true
  wt : PyData.weightAll p ≤ wtDs d
theorem small_w {i : Int} (h : smallI i) : PyData.weight (.int i) ≤ 65 := by
  unfold PyData.weight
  split
  · omega
  · rename_i z
    have z' : i.natAbs ≠ 0 := by simp at z; omega
    have : i.natAbs.log2 < 64 := by
      rw [Nat.log2_lt z']; have := h.1; have := h.2; omega
    omega
mutual
theorem rpr_ok : ∀ {d : D}, okR d = true → Rpr d (toPt d)
  | .non, _ => ⟨rfl, rfl, rfl, Nat.zero_le _, rfl, Nat.zero_le _⟩
  | .bl _, _ => ⟨rfl, rfl, rfl, Nat.zero_le _, rfl, Nat.zero_le _⟩
  | .int i, h => by
    simp only [okR, Bool.and_eq_true, decide_eq_true_eq] at h
    have hs : smallI i := ⟨h.1, by have := h.2; omega⟩
    exact ⟨rfl, by simp [toPt, PyData.showable, small_log hs], rfl, Nat.zero_le _, by simp [toPt, PyData.leavesShort, small_len hs], small_w hs⟩
  | .str x, h => by
    refine ⟨rfl, rfl, rfl, Nat.zero_le _, ?_, Nat.le_refl _⟩
    simp only [okR, toPt, PyData.leavesShort, List.all_eq_true, decide_eq_true_eq] at h ⊢
    intro c hc
    have := h c hc
    omega
  | .tup xs, h => by
    have r := rprs_ok (ds := xs) (by simpa [okR] using h)
    exact ⟨by simp [toPt, toP0, r.to], by simp [toPt, PyData.showable, r.sh], by simp [toPt, PyData.hasDict, r.nd], by simp only [toPt, PyData.depth, dpD]; have := r.dp; omega, by simp [toPt, PyData.leavesShort, r.lv], by simp only [toPt, PyData.weight, wtD]; exact r.wt⟩
  | .lst xs, h => by
    have r := rprs_ok (ds := xs) (by simpa [okR] using h)
    exact ⟨by simp [toPt, toP0, r.to], by simp [toPt, PyData.showable, r.sh], by simp [toPt, PyData.hasDict, r.nd], by simp only [toPt, PyData.depth, dpD]; have := r.dp; omega, by simp [toPt, PyData.leavesShort, r.lv], by simp only [toPt, PyData.weight, wtD]; exact r.wt⟩
  | .fro _, h => by simp [okR] at h
  | .loc _, h => by simp [okR] at h
theorem rprs_ok : ∀ {ds : List D}, okRs ds = true → Rprs ds (toPts ds)
  | [], _ => ⟨rfl, rfl, rfl, Nat.le_refl _, rfl, Nat.le_refl _⟩
  | d :: ds, h => by
    simp only [okRs, Bool.and_eq_true] at h
    have r1 := rpr_ok h.1
    have r2 := rprs_ok h.2
    exact ⟨by simp [toPs0, toPts, r1.to, r2.to], by simp [toPts, PyData.showableAll, r1.sh, r2.sh], by simp [toPts, PyData.hasDictAll, r1.nd, r2.nd], by simp only [toPts, PyData.depthAll, dpDs]; have := r1.dp; have := r2.dp; omega, by simp [toPts, PyData.leavesShortAll, r1.lv, r2.lv], by simp only [toPts, PyData.weightAll, wtDs]; have := r1.wt; have := r2.wt; omega⟩
end
theorem repr_ok {S : Sto} {d : D} (h : okR d = true) (h1 : dpD d ≤ 60) (h2 : wtD d ≤ 100000) : reprD S d = some (.str (toPt d).shown) := by
  have r := rpr_ok h
  have e : toP S d = some (toPt d) := by
    have := r.to
    cases d with
    | loc _ => simp [okR] at h
    | _ => exact this
  have s6 : (toPt d).shown.length ≤ 16777216 := by
    have := PyData.shown_le 20 (by decide) (toPt d) r.lv
    have := r.wt
    omega
  unfold reprD
  simp only [e]
  rw [if_pos ⟨r.sh, r.nd, by have := r.dp; omega, s6⟩]
/-- repr(a) != repr(a) -/
theorem rep_eq {G : Ev} {C : Nat → List D → Sto → Out D} {sd : Sl} {S S1 S2 : Sto} {e e2 : E} {a : D} (h1 : dE G C e sd S = .ok a S1) (h2 : dE G C e2 sd S1 = .ok a S2) (h : okR a = true) (hd : dpD a ≤ 60) (hw : wtD a ≤ 100000) :
    dT G C (.cmp .NotEq (.bf .repr (.cons e .nil)) (.bf .repr (.cons e2 .nil))) sd S = .ok false S2 :=
  t_cmp (e_bf1 h1 (repr_ok (S := S1) h hd hw)) (e_bf1 h2 (repr_ok (S := S2) h hd hw)) (by
    rw [q_cmNotEq]
    simp [neD, eqP, eqS])
end Z

/-! Programs as data: shown, compared. -/
namespace Z
open PySem PySem.Spec PyProof.Rows L2
theorem okR_w {x : Str} (h : (x.cps.toList.all fun c => decide (c < 1114112)) = true) : okR (.str x) = true := by simpa [okR] using h
theorem okR_n {n : Nat} (h : n < 10) : okR (.int n) = true := by simp [okR]; omega
theorem opr_w (o : Opr) : okR (.str o.s) = true ∧ wtD (.str o.s) ≤ 5 := by cases o <;> decide +kernel
theorem Fm.shown : ∀ (f : Fm), f.dig = true → okR f.d = true ∧ wtD f.d ≤ 80 * f.sz ∧ dpD f.d ≤ f.lv + 1
  | .num n, h => by
    have hn : n < 10 := by simpa [Fm.dig] using h
    exact ⟨okR_n hn, by simp [Fm.d, wtD, Fm.sz], by simp [Fm.d, dpD]⟩
  | .known, _ => by decide +kernel
  | .secret, _ => by decide +kernel
  | .cell i, h => by
    have hn : i < 10 := by simpa [Fm.dig] using h
    have w : okR (.str "cell") = true ∧ wtD (.str "cell") = 4 := by decide +kernel
    exact ⟨by simp [Fm.d, okR, okRs, okR_n hn]; exact ⟨by have := w.1; simpa [okR] using this, by omega⟩, by simp only [Fm.d, wtD, wtDs, Fm.sz]; have := w.2; simp only [wtD] at this; omega, by simp [Fm.d, dpD, dpDs]⟩
  | .op o a b, h => by
    simp only [Fm.dig, Bool.and_eq_true] at h
    have ⟨a1, a2, a3⟩ := Fm.shown a h.1
    have ⟨b1, b2, b3⟩ := Fm.shown b h.2
    have ⟨o1, o2⟩ := opr_w o
    refine ⟨by simp only [Fm.d, okR, okRs, a1, b1, Bool.and_true]; exact o1, ?_, ?_⟩
    · simp only [wtD] at o2
      simp only [Fm.d, wtD, wtDs, Fm.sz]
      omega
    · simp only [Fm.d, dpD, dpDs, Fm.lv]
      omega
theorem w_ok : okR (.str "do") = true ∧ okR (.str "set") = true ∧ okR (.str "stop") = true ∧ okR (.str "if") = true := by decide +kernel
theorem w_wt : wtD (.str "do") = 2 ∧ wtD (.str "set") = 3 ∧ wtD (.str "stop") = 4 ∧ wtD (.str "if") = 2 := by decide +kernel
mutual
theorem Stm.shown : ∀ (s : Stm) {n : Nat}, s.digs = true → s.inl n = true → okR s.d = true ∧ wtD s.d + 1 ≤ 100 * s.sz ∧ dpD s.d ≤ 2 * n
  | .do_ i, n, h, hn => by
    have hi : i < 10 := by simpa [Stm.digs] using h
    simp only [Stm.inl, decide_eq_true_eq] at hn
    have ⟨w1, _⟩ := w_ok
    have ⟨x1, _⟩ := w_wt
    refine ⟨by show (okR (.str "do") && (okR (.int i) && true)) = true; rw [w1, okR_n hi]; rfl, ?_, ?_⟩
    · simp only [wtD] at x1
      simp only [Stm.d, wtD, wtDs, Stm.sz]; omega
    · simp only [Stm.d, dpD, dpDs]; omega
  | .set i x, n, h, hn => by
    simp only [Stm.digs, Bool.and_eq_true, decide_eq_true_eq] at h
    simp only [Stm.inl, decide_eq_true_eq] at hn
    have ⟨_, w1, _⟩ := w_ok
    have ⟨_, x1, _⟩ := w_wt
    have ⟨a1, a2, a3⟩ := Fm.shown x h.2
    refine ⟨by show (okR (.str "set") && (okR (.int i) && (okR x.d && true))) = true; rw [w1, okR_n h.1, a1]; rfl, ?_, ?_⟩
    · simp only [wtD] at x1
      simp only [Stm.d, wtD, wtDs, Stm.sz]; omega
    · simp only [Stm.d, dpD, dpDs]; omega
  | .stop, n, _, hn => by
    simp only [Stm.inl, decide_eq_true_eq] at hn
    have ⟨_, _, w1, _⟩ := w_ok
    have ⟨_, _, x1, _⟩ := w_wt
    refine ⟨by simp only [Stm.d, okR, okRs, Bool.and_true]; exact w1, ?_, ?_⟩
    · simp only [wtD] at x1
      simp only [Stm.d, wtD, wtDs, Stm.sz]; omega
    · simp only [Stm.d, dpD, dpDs]; omega
  | .iff x a b, n, h, hn => by
    simp only [Stm.digs, Bool.and_eq_true] at h
    simp only [Stm.inl, Bool.and_eq_true, decide_eq_true_eq] at hn
    have ⟨_, _, _, w1⟩ := w_ok
    have ⟨_, _, _, x1⟩ := w_wt
    have ⟨a1, a2, a3⟩ := Fm.shown x h.1.1
    have ⟨b1, b2, b3⟩ := Blk.shown a h.1.2 hn.1.2
    have ⟨c1, c2, c3⟩ := Blk.shown b h.2 hn.2
    refine ⟨by simp only [Stm.d, okR, okRs, a1, b1, c1, Bool.and_true]; exact w1, ?_, ?_⟩
    · simp only [wtD] at x1
      have := x.sz_pos
      simp only [Stm.d, wtD, wtDs, Stm.sz]; omega
    · simp only [Stm.d, dpD, dpDs]; omega
theorem Blk.shown : ∀ (b : Blk) {n : Nat}, b.digs = true → b.inl n = true → okRs b.ds = true ∧ wtDs b.ds ≤ 100 * b.sz ∧ dpDs b.ds ≤ 2 * n
  | .nil, n, _, _ => ⟨rfl, Nat.le_refl _, Nat.zero_le _⟩
  | .cons s b, n, h, hn => by
    simp only [Blk.digs, Blk.inl, Bool.and_eq_true] at h hn
    have ⟨b1, b2, b3⟩ := Stm.shown s h.1 hn.1
    have ⟨c1, c2, c3⟩ := Blk.shown b h.2 hn.2
    refine ⟨by simp [Blk.ds, okRs, b1, c1], ?_, ?_⟩
    · simp only [Blk.ds, wtDs, Blk.sz]; omega
    · simp only [Blk.ds, dpDs]; omega
end
theorem cells_shown : ∀ {cs : List Nat}, (∀ c ∈ cs, c < 10) → okRs (cs.map fun (c : Nat) => D.int c) = true ∧ wtDs (cs.map fun (c : Nat) => D.int c) ≤ 66 * cs.length ∧ dpDs (cs.map fun (c : Nat) => D.int c) = 0
  | [], _ => ⟨rfl, Nat.le_refl _, rfl⟩
  | c :: cs, h => by
    have ⟨a, b, e⟩ := cells_shown (cs := cs) fun c hc => h c (.tail _ hc)
    have hc := okR_n (h c (.head _))
    refine ⟨?_, ?_, ?_⟩
    · show (okR (.int c) && okRs (cs.map fun (c : Nat) => D.int c)) = true
      rw [hc, a]; rfl
    · simp only [List.map_cons, wtDs, wtD, List.length_cons]; omega
    · simp only [List.map_cons, dpDs, dpD, e]; rfl
theorem Val.shown {P : Prog} (v : Val P) : okR P.d = true ∧ wtD P.d ≤ 41000 ∧ dpD P.d ≤ 30 := by
  have dg := v.dig
  have ⟨a1, a2, a3⟩ := cells_shown dg.cl
  have ⟨b1, b2, b3⟩ := Blk.shown P.body (P.body.fits_digs v.bfit) v.bin
  have ⟨c1, c2, c3⟩ := Blk.shown P.tail (P.tail.fits_digs v.tfit) v.tin
  have hs := v.sz
  have hl := v.cl
  refine ⟨?_, ?_, ?_⟩
  · show (okR (.int P.kn) && (okR (.int P.se) && (okR (.int P.p) && (okRs (P.cells.map fun (c : Nat) => D.int c) && (okRs P.body.ds && (okRs P.tail.ds && true)))))) = true
    rw [okR_n dg.kn, okR_n dg.se, okR_n dg.p, a1, b1, c1]; rfl
  · simp only [Prog.d, wtD, wtDs]; omega
  · simp only [Prog.d, dpD, dpDs]; omega
/-! ### signs -/
theorem Fm.hi : ∀ {f : Fm}, f.dig = true → ∀ c ∈ f.tx, c < 1114112
  | .num n, h, c, hc => by simp [Fm.dig] at h; simp [Fm.tx] at hc; omega
  | .known, _, c, hc => by simp [Fm.tx] at hc; omega
  | .secret, _, c, hc => by simp [Fm.tx] at hc; omega
  | .cell i, h, c, hc => by simp [Fm.dig] at h; simp [Fm.tx] at hc; omega
  | .op o a b, h, c, hc => by
    simp only [Fm.dig, Bool.and_eq_true] at h
    simp only [Fm.tx, List.mem_cons, List.mem_append, List.not_mem_nil, or_false] at hc
    rcases hc with rfl | hc | rfl | hc | rfl
    · decide
    · exact Fm.hi h.1 c hc
    · cases o <;> decide
    · exact Fm.hi h.2 c hc
    · decide
mutual
theorem Stm.hi : ∀ (s : Stm), s.digs = true → ∀ c ∈ s.tx, c < 1114112
  | .do_ i, h, c, hc => by simp [Stm.digs] at h; simp [Stm.tx] at hc; omega
  | .set i x, h, c, hc => by
    simp only [Stm.digs, Bool.and_eq_true, decide_eq_true_eq] at h
    simp only [Stm.tx, List.mem_append, List.mem_cons, List.not_mem_nil, or_false] at hc
    rcases hc with hc | hc
    · omega
    · exact Fm.hi h.2 c hc
  | .stop, _, c, hc => by simp [Stm.tx] at hc; omega
  | .iff x a b, h, c, hc => by
    simp only [Stm.digs, Bool.and_eq_true] at h
    simp only [Stm.tx, List.mem_append, List.mem_cons, List.not_mem_nil, or_false] at hc
    rcases hc with hc | hc | hc | hc | hc | hc | hc
    · omega
    · exact Fm.hi h.1.1 c hc
    · omega
    · exact Blk.hi a h.1.2 c hc
    · omega
    · exact Blk.hi b h.2 c hc
    · omega
theorem Blk.hi : ∀ (b : Blk), b.digs = true → ∀ c ∈ b.tx, c < 1114112
  | .nil, _, c, hc => by simp [Blk.tx] at hc
  | .cons s .nil, h, c, hc => by
    simp only [Blk.digs, Bool.and_eq_true] at h
    rw [Blk.tx_one] at hc; exact Stm.hi s h.1 c hc
  | .cons s (.cons s2 b), h, c, hc => by
    have h' : s.digs = true ∧ (Blk.cons s2 b).digs = true := by simpa [Blk.digs] using h
    rw [Blk.tx_cons _ _ (by simp)] at hc
    simp only [List.mem_append, List.mem_cons] at hc
    rcases hc with hc | hc | hc | hc
    · exact Stm.hi s h'.1 c hc
    · omega
    · omega
    · exact Blk.hi (.cons s2 b) h'.2 c hc
end
theorem mem_join {s : Cs} : ∀ {ps : List Cs} {c : Nat}, c ∈ TL.joinL s ps → c ∈ s ∨ ∃ p ∈ ps, c ∈ p
  | [], c, h => by simp [TL.joinL] at h
  | [p], c, h => .inr ⟨p, by simp, h⟩
  | p :: q :: ps, c, h => by
    have h' : c ∈ p ∨ c ∈ s ∨ c ∈ TL.joinL s (q :: ps) := by simpa [TL.joinL] using h
    rcases h' with h | h | h
    · exact .inr ⟨p, .head _, h⟩
    · exact .inl h
    · rcases mem_join h with h | ⟨r, hr, h⟩
      · exact .inl h
      · exact .inr ⟨r, .tail _ hr, h⟩
theorem line_hi {w : Cs} {b : Blk} (hw : ∀ c ∈ w, c < 1114112) (hb : b.digs = true) : ∀ c ∈ lineTx w b, c < 1114112 := by
  intro c hc
  cases b with
  | nil => exact hw c hc
  | cons s b =>
    simp only [lineTx, List.mem_append, List.mem_cons] at hc
    rcases hc with hc | hc | hc
    · exact hw c hc
    · omega
    · exact Blk.hi _ hb c hc
theorem Val.hi {P : Prog} (v : Val P) : ∀ c ∈ P.tx, c < 1114112 := by
  intro c hc
  have dg := v.dig
  have := dg.kn
  have := dg.se
  have := dg.p
  rcases mem_join hc with h | ⟨p, hp, h⟩
  · simp at h; omega
  · simp only [Prog.lns, List.mem_cons, List.not_mem_nil, or_false] at hp
    rcases hp with rfl | rfl | rfl | rfl | rfl
    · simp [wLetters] at h; omega
    · simp [wWorks] at h; omega
    · simp only [List.mem_append, List.mem_cons] at h
      rcases h with h | h | h
      · simp [wCells] at h; omega
      · omega
      · rcases mem_join h with h | ⟨p, hp, h⟩
        · simp at h; omega
        · obtain ⟨d, hd, rfl⟩ := List.mem_map.mp hp
          have := dg.cl d hd
          simp at h; omega
    · exact line_hi (by decide) (P.body.fits_digs v.bfit) c h
    · exact line_hi (by decide) (P.tail.fits_digs v.tfit) c h
theorem okR_sl {t : Cs} (h : ∀ c ∈ t, c < 1114112) : okR (.str (sl t)) = true := by
  simp only [okR, sl, List.all_eq_true, decide_eq_true_eq]
  exact h
theorem wt_sl {t : Cs} : wtD (.str (sl t)) = t.length := by simp [wtD, sl]
/-! ### compared -/
mutual
def pln : D → Bool
  | .int _ => true
  | .str _ => true
  | .tup xs => plns xs
  | _ => false
def plns : List D → Bool
  | [] => true
  | x :: xs => pln x && plns xs
end
mutual
theorem eqv_inj : ∀ {a b : D}, pln a = true → pln b = true → PyData.eqv (toPt a) (toPt b) = true → a = b
  | .int i, .int j, _, _, h => by simp [toPt, PyData.eqv] at h; rw [h]
  | .int _, .str _, _, _, h => by simp [toPt, PyData.eqv] at h
  | .int _, .tup _, _, _, h => by simp [toPt, PyData.eqv] at h
  | .str _, .int _, _, _, h => by simp [toPt, PyData.eqv] at h
  | .str _, .str _, _, _, h => by simp [toPt, PyData.eqv] at h; rw [h]
  | .str _, .tup _, _, _, h => by simp [toPt, PyData.eqv] at h
  | .tup _, .int _, _, _, h => by simp [toPt, PyData.eqv] at h
  | .tup _, .str _, _, _, h => by simp [toPt, PyData.eqv] at h
  | .tup xs, .tup ys, ha, hb, h => by
    simp only [pln] at ha hb
    simp only [toPt, PyData.eqv] at h
    rw [eqvs_inj ha hb h]
  | .non, _, ha, _, _ => by simp [pln] at ha
  | .bl _, _, ha, _, _ => by simp [pln] at ha
  | .lst _, _, ha, _, _ => by simp [pln] at ha
  | .fro _, _, ha, _, _ => by simp [pln] at ha
  | .loc _, _, ha, _, _ => by simp [pln] at ha
  | _, .non, _, ha, _ => by simp [pln] at ha
  | _, .bl _, _, ha, _ => by simp [pln] at ha
  | _, .lst _, _, ha, _ => by simp [pln] at ha
  | _, .fro _, _, ha, _ => by simp [pln] at ha
  | _, .loc _, _, ha, _ => by simp [pln] at ha
theorem eqvs_inj : ∀ {a b : List D}, plns a = true → plns b = true → PyData.eqvAll (toPts a) (toPts b) = true → a = b
  | [], [], _, _, _ => rfl
  | [], _ :: _, _, _, h => by simp [toPts, PyData.eqvAll] at h
  | _ :: _, [], _, _, h => by simp [toPts, PyData.eqvAll] at h
  | a :: as, b :: bs, ha, hb, h => by
    simp only [plns, Bool.and_eq_true] at ha hb
    simp only [toPts, PyData.eqvAll, Bool.and_eq_true] at h
    rw [eqv_inj ha.1 hb.1 h.1, eqvs_inj ha.2 hb.2 h.2]
end
mutual
theorem lay_ok : ∀ {d : D}, okR d = true → (toPt d).canLay0 = true
  | .non, _ => rfl
  | .bl _, _ => rfl
  | .int _, _ => rfl
  | .str x, h => by
    simp only [okR, List.all_eq_true, decide_eq_true_eq] at h
    simp only [toPt, PyData.canLay0, PyData.strOk]
    rw [← Array.all_toList, List.all_eq_true]
    intro c hc
    exact decide_eq_true (h c hc)
  | .tup xs, h => by simp only [toPt, PyData.canLay0]; exact lays_ok (by simpa [okR] using h)
  | .lst xs, h => by simp only [toPt, PyData.canLay0]; exact lays_ok (by simpa [okR] using h)
  | .fro _, h => by simp [okR] at h
  | .loc _, h => by simp [okR] at h
theorem lays_ok : ∀ {ds : List D}, okRs ds = true → PyData.canLayAll0 (toPts ds) = true
  | [], _ => rfl
  | d :: ds, h => by
    simp only [okRs, Bool.and_eq_true] at h
    simp only [toPts, PyData.canLayAll0, Bool.and_eq_true]
    exact ⟨lay_ok h.1, lays_ok h.2⟩
end
theorem Fm.pl : ∀ f : Fm, pln f.d = true
  | .num _ => rfl
  | .known => rfl
  | .secret => rfl
  | .cell _ => rfl
  | .op _ a b => by simp [Fm.d, pln, plns, Fm.pl a, Fm.pl b]
mutual
theorem Stm.pl : ∀ s : Stm, pln s.d = true
  | .do_ _ => rfl
  | .set _ x => by simp [Stm.d, pln, plns, Fm.pl x]
  | .stop => rfl
  | .iff x a b => by simp [Stm.d, pln, plns, Fm.pl x, Blk.pl a, Blk.pl b]
theorem Blk.pl : ∀ b : Blk, plns b.ds = true
  | .nil => rfl
  | .cons s b => by simp [Blk.ds, plns, Stm.pl s, Blk.pl b]
end
theorem cells_pl : ∀ {cs : List Nat}, plns (cs.map fun (c : Nat) => D.int c) = true
  | [] => rfl
  | _ :: cs => by simp only [List.map_cons, plns, pln, cells_pl (cs := cs), Bool.and_self]
theorem Prog.pl (P : Prog) : pln P.d = true := by simp [Prog.d, pln, plns, cells_pl, Blk.pl]
theorem opr_inj {o p : Opr} (h : o.s = p.s) : o = p := by
  cases o <;> cases p <;> first | rfl | (exact absurd h (by decide +kernel))
theorem Fm.inj : ∀ {f g : Fm}, f.d = g.d → f = g
  | .num a, g, h => by cases g <;> simp [Fm.d] at h ⊢; omega
  | .known, g, h => by cases g <;> simp [Fm.d] at h ⊢
  | .secret, g, h => by cases g <;> simp [Fm.d] at h ⊢
  | .cell i, g, h => by cases g <;> simp [Fm.d] at h ⊢; omega
  | .op o a b, g, h => by
    cases g with
    | op p c d =>
      simp only [Fm.d, D.tup.injEq, List.cons.injEq, D.str.injEq, and_true] at h
      rw [opr_inj h.1, Fm.inj h.2.1, Fm.inj h.2.2]
    | _ => simp [Fm.d] at h
mutual
theorem Stm.inj : ∀ {s t : Stm}, s.d = t.d → s = t
  | .do_ i, t, h => by
    cases t with
    | do_ j => simp [Stm.d] at h; rw [show i = j by omega]
    | _ => simp [Stm.d] at h
  | .set i x, t, h => by
    cases t with
    | set j y =>
      simp only [Stm.d, D.tup.injEq, List.cons.injEq, D.int.injEq, true_and, and_true] at h
      rw [Fm.inj h.2, show i = j by omega]
    | _ => simp [Stm.d] at h
  | .stop, t, h => by
    cases t with
    | stop => rfl
    | _ => simp [Stm.d] at h
  | .iff x a b, t, h => by
    cases t with
    | iff y c d =>
      simp only [Stm.d, D.tup.injEq, List.cons.injEq, true_and, and_true] at h
      rw [Fm.inj h.1, Blk.inj h.2.1, Blk.inj h.2.2]
    | _ => simp [Stm.d] at h
theorem Blk.inj : ∀ {b c : Blk}, b.ds = c.ds → b = c
  | .nil, .nil, _ => rfl
  | .nil, .cons _ _, h => by simp [Blk.ds] at h
  | .cons _ _, .nil, h => by simp [Blk.ds] at h
  | .cons s b, .cons t c, h => by
    simp only [Blk.ds, List.cons.injEq] at h
    rw [Stm.inj h.1, Blk.inj h.2]
end
theorem cells_inj : ∀ {a b : List Nat}, (a.map fun (c : Nat) => D.int c) = (b.map fun (c : Nat) => D.int c) → a = b
  | [], [], _ => rfl
  | [], _ :: _, h => by simp at h
  | _ :: _, [], h => by simp at h
  | x :: a, y :: b, h => by
    simp only [List.map_cons, List.cons.injEq, D.int.injEq] at h
    rw [cells_inj h.2, show x = y by omega]
theorem Prog.inj {P Q : Prog} (h : P.d = Q.d) : P = Q := by
  obtain ⟨a, b, c, d, e, f⟩ := P
  obtain ⟨a', b', c', d', e', f'⟩ := Q
  simp only [Prog.d, D.tup.injEq, List.cons.injEq, D.int.injEq, and_true] at h
  rw [cells_inj h.2.2.2.1, Blk.inj h.2.2.2.2.1, Blk.inj h.2.2.2.2.2, show a = a' by omega, show b = b' by omega, show c = c' by omega]
theorem eq_prog {S : Sto} {P Q : Prog} (v : Val P) (u : Val Q) : ∃ b, eqD S P.d Q.d = some (.bl b) ∧ (b = true ↔ P = Q) := by
  refine ⟨PyData.eqv (toPt P.d) (toPt Q.d), ?_, fun h => Prog.inj (eqv_inj P.pl Q.pl h), fun h => ?_⟩
  · have ⟨p1, p2, p3⟩ := v.shown
    have ⟨q1, q2, q3⟩ := u.shown
    have rp := rpr_ok p1
    have rq := rpr_ok q1
    have hp : SeqAt.shaped (toPt P.d) = true := by
      unfold SeqAt.shaped
      rw [lay_ok p1, decide_eq_true (by have := rp.dp; omega)]; rfl
    have hq : SeqAt.shaped (toPt Q.d) = true := by
      unfold SeqAt.shaped
      rw [lay_ok q1, decide_eq_true (by have := rq.dp; omega)]; rfl
    have t1 : toP S P.d = some (toPt P.d) := rp.to
    have t2 : toP S Q.d = some (toPt Q.d) := rq.to
    have e1 : eqS P.d Q.d = none := rfl
    have e2 : eqE S P.d Q.d = none := by
      unfold eqE
      split
      · rename_i h; cases h
      · rfl
    have e3 : eqT P.d Q.d = none := by simp [eqT, Prog.d, eqZ, eqS]
    unfold eqD eqP
    simp only [e1, e2, e3, t1, t2]
    rw [if_pos ⟨hp, hq⟩]
    rfl
  · rw [h]; exact SeqAt.eqv_refl _ (lay_ok u.shown.1)
end Z

/-! What is written is read: programs and statements. -/
namespace Z
open PySem PySem.Spec PyProof.Rows L2
theorem join_len {a : Cs} : ∀ {ps : List Cs}, (TL.joinL a ps).length ≤ (ps.map List.length).sum + ps.length * a.length
  | [] => by simp [TL.joinL]
  | [p] => by simp [TL.joinL]
  | p :: q :: ps => by
    have := join_len (a := a) (ps := q :: ps)
    simp only [TL.joinL, List.length_append, List.map_cons, List.sum_cons, List.length_cons, Nat.add_mul, Nat.one_mul] at this ⊢
    omega
theorem Val.len {P : Prog} (v : Val P) : P.tx.length ≤ 8000 := by
  have h := join_len (a := [10]) (ps := P.lns)
  have := lns_sum v
  have h5 : P.lns.length = 5 := rfl
  have e : P.tx = TL.joinL [10] P.lns := rfl
  rw [e]
  rw [h5] at h
  simp only [List.length_cons, List.length_nil] at h
  omega
theorem Fm.ok_mono {w w' : Nat} (h : w ≤ w') : ∀ {f : Fm}, f.ok w = true → f.ok w' = true
  | .num _, h => h
  | .known, _ => rfl
  | .secret, _ => rfl
  | .cell i, h => by simp only [Fm.ok, decide_eq_true_eq] at h ⊢; omega
  | .op o a b, h => by
    simp only [Fm.ok, Bool.and_eq_true] at h ⊢
    exact ⟨Fm.ok_mono (by assumption) h.1, Fm.ok_mono (by assumption) h.2⟩
mutual
theorem Stm.ok_mono {p w p' w' : Nat} (hp : p ≤ p') (hw : w ≤ w') : ∀ (s : Stm), s.ok p w = true → s.ok p' w' = true
  | .do_ i, h => by simp only [Stm.ok, decide_eq_true_eq] at h ⊢; omega
  | .set i x, h => by
    simp only [Stm.ok, Bool.and_eq_true, decide_eq_true_eq] at h ⊢
    exact ⟨by omega, Fm.ok_mono hw h.2⟩
  | .stop, _ => rfl
  | .iff x a b, h => by
    simp only [Stm.ok, Bool.and_eq_true] at h ⊢
    exact ⟨⟨Fm.ok_mono hw h.1.1, Blk.ok_mono hp hw a h.1.2⟩, Blk.ok_mono hp hw b h.2⟩
theorem Blk.ok_mono {p w p' w' : Nat} (hp : p ≤ p') (hw : w ≤ w') : ∀ (b : Blk), b.ok p w = true → b.ok p' w' = true
  | .nil, _ => rfl
  | .cons s b, h => by
    simp only [Blk.ok, Bool.and_eq_true] at h ⊢
    exact ⟨Stm.ok_mono hp hw s h.1, Blk.ok_mono hp hw b h.2⟩
end
/-- a statement that stands somewhere -/
structure StO (s : Stm) : Prop where
  ok : s.ok 5 4 = true
  inl : s.inl 12 = true
  sz : s.sz ≤ 400
theorem StO.somewhere {s : Stm} (h : StO s) : okP (somewhere s.d) = true := by
  have v : Val ⟨3, 3, 5, [2, 2, 2, 2], .cons s .nil, .nil⟩ := ⟨(by decide : 1 ≤ 3 ∧ 3 ≤ 3), (by decide : 1 ≤ 3 ∧ 3 ≤ 3), (by decide : 1 ≤ 5 ∧ 5 ≤ 5), (by decide : 1 ≤ 4 ∧ 4 ≤ 4), (by decide : ∀ c ∈ [2, 2, 2, 2], 2 ≤ c ∧ c ≤ 4), (by decide : [2, 2, 2, 2].foldl (· * ·) 1 ≤ 24), by simp [Blk.ok, h.ok], rfl, by simp [Blk.inl, h.inl], rfl, by simp [Blk.sz]; exact h.sz⟩
  exact v.okP
theorem StO.fits {s : Stm} (h : StO s) : s.fits 12 = true := Stm.ok_fits (by decide) (by decide) s h.ok h.inl
theorem StO.len {s : Stm} (h : StO s) : s.tx.length ≤ 3200 := by have := s.tx_sz; have := h.sz; omega
section
variable {T : List Fn} {G : Ev} {wf : Nat} {tx : Tx} {px : PE.Px} {lx : Lx}
/-- parse_program reads the text -/
theorem par_ok (A : PpA T G tx) (F : PE.ProgA T G px) (hx : tx.program_error = px.program_error) {P : Prog} (v : Val P) {k : Nat} {S : Sto} : ∃ S', run T G wf (k + 55) tx.parse_program [.str (sl P.tx)] S = .ok P.d S' ∧ Pre S S' := by
  obtain ⟨S', e, p⟩ := pp_ok (wf := wf) A F hx (k := k) (S := S) (t := P.tx) (by have := v.len; omega)
  refine ⟨S', ?_, p⟩
  rw [e, v.pt]
  unfold outP
  simp only []
  rw [if_pos v.okP]
theorem pst_ok (A : PsA T G tx) (F : PE.ProgA T G px) (hx : tx.program_error = px.program_error) {s : Stm} (h : StO s) {k : Nat} {S : Sto} : ∃ S', run T G wf (k + 53) tx.parse_statement [.str (sl s.tx)] S = .ok s.d S' ∧ Pre S S' := by
  obtain ⟨S', e, p⟩ := ps_ok (wf := wf) A F hx (k := k) (S := S) (t := s.tx) (by have := h.len; omega)
  refine ⟨S', ?_, p⟩
  have c := pSt_complete (r := []) h.fits
  rw [List.append_nil] at c
  rw [e, c]
  unfold outS
  simp only []
  rw [if_pos h.somewhere]
theorem err_ok (F : PE.ProgA T G px) {P : Prog} (v : Val P) {k : Nat} {S : Sto} : run T G wf (k + 40) px.program_error [P.d] S = .ok .non S := by
  have := PE.perr_ok (wf := wf) (B := 1000000) F (k := k) (S := S) (by decide) (okd_prog (P := P) (by have := v.cl; omega) (by have := v.blen; omega) (by have := v.tlen; omega))
  rw [this, v.err]
end
end Z

/-! Which statements and programs stand; the same reading at any depth. -/
namespace Z
open PySem PySem.Spec PyProof.Rows L2
theorem fm_okS {w : Nat} : ∀ {n : Nat} {f : Fm}, PE.okS n w f.d = true → f.ok w = true ∧ f.lv < n
  | 0, f, h => by simp [PE.okS] at h
  | n + 1, .num m, h => by
    simp [Fm.d, PE.okS, PE.isInt] at h
    exact ⟨by simp [Fm.ok]; omega, by simp [Fm.lv]⟩
  | n + 1, .known, _ => ⟨rfl, by simp [Fm.lv]⟩
  | n + 1, .secret, _ => ⟨rfl, by simp [Fm.lv]⟩
  | n + 1, .cell i, h => by
    simp [Fm.d, PE.okS, PE.isTup, PE.isInt] at h
    exact ⟨by simp [Fm.ok]; omega, by simp [Fm.lv]⟩
  | n + 1, .op o a b, h => by
    simp [Fm.d, PE.okS, PE.isTup] at h
    obtain ⟨_, h1, h2⟩ := h
    have ⟨a1, a2⟩ := fm_okS h1
    have ⟨b1, b2⟩ := fm_okS h2
    exact ⟨by simp [Fm.ok, a1, b1], by simp only [Fm.lv]; omega⟩
mutual
theorem st_okSt {p w : Nat} : ∀ (s : Stm) {n : Nat}, PE.okSt n p w s.d = true → s.ok p w = true ∧ s.inl n = true
  | s, 0, h => by simp [PE.okSt] at h
  | .do_ i, n + 1, h => by
    simp [Stm.d, PE.okSt, PE.isTup, PE.isInt] at h
    exact ⟨by simp [Stm.ok]; omega, by simp [Stm.inl]⟩
  | .set i x, n + 1, h => by
    simp [Stm.d, PE.okSt, PE.isTup, PE.isInt] at h
    have ⟨a1, a2⟩ := fm_okS h.2
    exact ⟨by simp [Stm.ok, a1]; omega, by simp [Stm.inl]; omega⟩
  | .stop, n + 1, h => ⟨rfl, by simp [Stm.inl]⟩
  | .iff x a b, n + 1, h => by
    have h' : PE.okS n w x.d = true ∧ PE.okBk (PE.okSt n p w) (.tup a.ds) = true ∧ PE.okBk (PE.okSt n p w) (.tup b.ds) = true := by
      simp [Stm.d, PE.okSt, PE.isTup, PE.okBk] at h ⊢
      exact h
    have ⟨x1, x2⟩ := fm_okS h'.1
    have ⟨a1, a2⟩ := bl_okBk a h'.2.1
    have ⟨b1, b2⟩ := bl_okBk b h'.2.2
    exact ⟨by simp [Stm.ok, x1, a1, b1], by simp [Stm.inl, a2, b2]; omega⟩
theorem bl_okBk {p w : Nat} : ∀ (b : Blk) {n : Nat}, PE.okBk (PE.okSt n p w) (.tup b.ds) = true → b.ok p w = true ∧ b.inl n = true
  | .nil, n, _ => ⟨rfl, rfl⟩
  | .cons s b, n, h => by
    have h' : PE.okSt n p w s.d = true ∧ PE.okBk (PE.okSt n p w) (.tup b.ds) = true := by
      simp [PE.okBk, Blk.ds] at h ⊢
      exact h
    have ⟨s1, s2⟩ := st_okSt s h'.1
    have ⟨b1, b2⟩ := bl_okBk b h'.2
    exact ⟨by simp [Blk.ok, s1, b1], by simp [Blk.inl, s2, b2]⟩
end
/-- what is a program by program_error -/
theorem okP_val {P : Prog} (h : okP P.d = true) : Val P := by
  unfold okP at h
  have he : PE.errD P.d = .non := by
    split at h
    · assumption
    · cases h
  rw [Prog.d, PE.errD6] at he
  split at he
  · cases he
  · rename_i h1
    split at he
    · cases he
    · rename_i h2
      split at he
      · cases he
      · rename_i h3
        split at he
        · cases he
        · rename_i h4
          split at he
          · cases he
          · rename_i h5
            split at he
            · cases he
            · rename_i h6
              have l1 : PE.intOf (.int (P.p : Int)) = (P.p : Int) := rfl
              have l2 : PE.lenOf (.tup (P.cells.map fun (c : Nat) => D.int c)) = P.cells.length := by simp [PE.lenOf]
              rw [l1, l2] at h4 h5
              have ⟨b1, b2⟩ := bl_okBk (p := P.p) (w := P.cells.length) P.body (n := 12) (by simpa using h4)
              have ⟨t1, t2⟩ := bl_okBk (p := P.p) (w := P.cells.length) P.tail (n := 12) (by simpa using h5)
              have e1 : PE.nB 12 (.tup P.body.ds) = P.body.sz := nB_sz _ b2
              have e2 : PE.nB 12 (.tup P.tail.ds) = P.tail.sz := nB_sz _ t2
              rw [e1, e2] at h6
              simp [PE.isInt] at h1 h2
              have h3' : PE.okC (.tup (P.cells.map fun (c : Nat) => D.int c)) = true := by simpa using h3
              simp only [PE.okC, List.length_map, Bool.and_eq_true, decide_eq_true_eq, List.all_eq_true] at h3'
              obtain ⟨c1, c2, c3, c4⟩ := h3'
              refine ⟨by omega, by omega, by omega, ⟨c1, c2⟩, fun c hc => ?_, ?_, b1, t1, b2, t2, by omega⟩
              · have := c3 (.int c) (List.mem_map.mpr ⟨c, hc, rfl⟩)
                simp [PE.isInt] at this
                omega
              · have h0 := prodD_nat P.cells 1
                rw [show ((1 : Nat) : Int) = 1 from rfl] at h0
                unfold PE.prodD at c4
                omega
theorem okP_sto {s : Stm} (h : okP (somewhere s.d) = true) : StO s := by
  have v : Val ⟨3, 3, 5, [2, 2, 2, 2], .cons s .nil, .nil⟩ := okP_val (P := ⟨3, 3, 5, [2, 2, 2, 2], .cons s .nil, .nil⟩) h
  have b1 := v.bok
  have b2 := v.bin
  have b3 := v.sz
  simp [Blk.ok, Blk.inl, Blk.sz] at b1 b2 b3
  exact ⟨b1, b2, b3⟩
mutual
theorem Stm.fits_mono {n m : Nat} (h : n ≤ m) : ∀ (s : Stm), s.fits n = true → s.fits m = true
  | .do_ _, hs => hs
  | .set i x, hs => by
    simp only [Stm.fits, Bool.and_eq_true, decide_eq_true_eq] at hs ⊢
    exact ⟨hs.1, by omega⟩
  | .stop, _ => rfl
  | .iff x a b, hs => by
    simp only [Stm.fits, Bool.and_eq_true, decide_eq_true_eq] at hs ⊢
    exact ⟨⟨⟨⟨hs.1.1.1.1, by omega⟩, by omega⟩, Blk.fits_mono (by omega) a hs.1.2⟩, Blk.fits_mono (by omega) b hs.2⟩
theorem Blk.fits_mono {n m : Nat} (h : n ≤ m) : ∀ (b : Blk), b.fits n = true → b.fits m = true
  | .nil, _ => rfl
  | .cons s b, hs => by
    simp only [Blk.fits, Bool.and_eq_true] at hs ⊢
    exact ⟨Stm.fits_mono h s hs.1, Blk.fits_mono h b hs.2⟩
end
/-- the statement whose text it is, if it stands somewhere -/
def readS (n : Nat) (t : Cs) : Option Stm := match pSt n t with
  | some (s, []) => if okP (somewhere s.d) = true then some s else none
  | _ => none
theorem readS_eq {n m : Nat} (hn : 12 ≤ n) (hm : 12 ≤ m) (t : Cs) : readS n t = readS m t := by
  have key : ∀ n, 12 ≤ n → ∀ s, readS n t = some s ↔ (t = s.tx ∧ okP (somewhere s.d) = true) := by
    intro n hn s
    constructor
    · intro h
      unfold readS at h
      split at h
      · rename_i s' q
        split at h
        · rename_i ho
          cases h
          have := (pSt_sound q).1
          rw [List.append_nil] at this
          exact ⟨this, ho⟩
        · cases h
      · cases h
    · rintro ⟨rfl, ho⟩
      have f := Stm.fits_mono hn s (okP_sto ho).fits
      have c := pSt_complete (r := []) f
      rw [List.append_nil] at c
      unfold readS
      rw [c]
      simp only []
      rw [if_pos ho]
  cases h : readS n t with
  | some s => exact ((key m hm s).mpr ((key n hn s).mp h)).symm
  | none =>
    cases h2 : readS m t with
    | none => rfl
    | some s => rw [(key n hn s).mpr ((key m hm s).mp h2)] at h; cases h
theorem readS_some {n : Nat} {t : Cs} {s : Stm} (h : readS n t = some s) : t = s.tx ∧ StO s := by
  unfold readS at h
  split at h
  · rename_i s' q
    split at h
    · rename_i ho
      cases h
      have := (pSt_sound q).1
      rw [List.append_nil] at this
      exact ⟨this, okP_sto ho⟩
    · cases h
  · cases h
/-! ### depth of what was drawn -/
mutual
theorem Stm.inl_inp : ∀ (s : Stm) {n d : Nat}, n ≤ d + 2 → s.inl n = true → s.inp d = true
  | .do_ _, _, _, _, _ => rfl
  | .set _ x, n, d, hd, h => by
    simp only [Stm.inl, Stm.inp, decide_eq_true_eq] at h ⊢
    omega
  | .stop, _, _, _, _ => rfl
  | .iff x a b, n, d, hd, h => by
    simp only [Stm.inl, Stm.inp, Bool.and_eq_true, decide_eq_true_eq] at h ⊢
    exact ⟨⟨by omega, Blk.inl_inp a (by omega) h.1.2⟩, Blk.inl_inp b (by omega) h.2⟩
theorem Blk.inl_inp : ∀ (b : Blk) {n d : Nat}, n ≤ d + 2 → b.inl n = true → b.inp d = true
  | .nil, _, _, _, _ => rfl
  | .cons s b, n, d, hd, h => by
    simp only [Blk.inl, Blk.inp, Bool.and_eq_true] at h ⊢
    exact ⟨Stm.inl_inp s hd h.1, Blk.inl_inp b hd h.2⟩
end
mutual
theorem Stm.inl_inb : ∀ (s : Stm) {n d : Nat}, n ≤ d + 1 → s.inl n = true → s.inb d = true
  | .do_ _, _, d, _, _ => by cases d <;> rfl
  | .set _ x, n, d, hd, h => by cases d <;> rfl
  | .stop, _, d, _, _ => by cases d <;> rfl
  | .iff x a b, n, 0, hd, h => by
    simp only [Stm.inl, Bool.and_eq_true, decide_eq_true_eq] at h
    omega
  | .iff x a b, n, d + 1, hd, h => by
    simp only [Stm.inl, Stm.inb, Bool.and_eq_true, decide_eq_true_eq] at h ⊢
    exact ⟨Blk.inl_inb a (by omega) h.1.2, Blk.inl_inb b (by omega) h.2⟩
theorem Blk.inl_inb : ∀ (b : Blk) {n d : Nat}, n ≤ d + 1 → b.inl n = true → b.inb d = true
  | .nil, _, _, _, _ => by simp [Blk.inb]
  | .cons s b, n, d, hd, h => by
    simp only [Blk.inl, Bool.and_eq_true] at h
    simp only [Blk.inb, Bool.and_eq_true]
    exact ⟨Stm.inl_inb s hd h.1, Blk.inl_inb b hd h.2⟩
end
/-- a text changed by one sign -/
theorem mx_del {o e : Nat} {t : Cs} {i : Nat} : mx o e (t.take i ++ t.drop (i + 1)) ≤ mx o e t + 1 := by
  have h : mx o e (t.drop (i + 1)) ≤ mx o e (t.drop i) + 1 := by
    cases h : t.drop i with
    | nil =>
      have : t.drop (i + 1) = [] := by
        rw [show t.drop (i + 1) = (t.drop i).drop 1 by rw [List.drop_drop], h]; rfl
      rw [this]; simp [mx]
    | cons c l =>
      have : t.drop (i + 1) = l := by
        rw [show t.drop (i + 1) = (t.drop i).drop 1 by rw [List.drop_drop], h]; rfl
      rw [this]; exact mx_dn c l
  have := mx_app h (t.take i)
  rw [List.take_append_drop] at this
  exact this
theorem mx_ins {o e : Nat} {t : Cs} {i c : Nat} : mx o e (t.take i ++ c :: t.drop i) ≤ mx o e t + 1 := by
  have := mx_app (mx_up (o := o) (e := e) c (t.drop i)) (t.take i)
  rw [List.take_append_drop] at this
  exact this
theorem mx_rep {o e : Nat} {t : Cs} {i c : Nat} : mx o e (t.take i ++ c :: t.drop (i + 1)) ≤ mx o e t + 2 := by
  have h1 := mx_app (mx_up (o := o) (e := e) c (t.drop (i + 1))) (t.take i)
  have h2 := mx_del (o := o) (e := e) (t := t) (i := i)
  omega
end Z

/-! A text with one sign changed. Body printed by mkzve.py. -/
namespace Z
open PySem PySem.Spec PyProof.Rows L2
def B_law_changed (bx : Bx) : Ss := (.cons (.par [4, 5] (.cons (.call bx.law_draw (.cons (.v 0) (.cons (.op .Add (.bf .len (.cons (.v 1) .nil)) (.c (.int 1))) .nil))) (.cons (.call bx.law_one (.cons (.v 0) (.cons (.v 2) .nil))) .nil))) (.cons (.asg (.nm 3) (.call bx.law_draw (.cons (.v 0) (.cons (.c (.int 4)) .nil)))) (.cons (.ite (.cmp .Eq (.v 3) (.c (.int 0))) (.cons (.ret (.op .Add (.sl (.v 1) .none (.some (.v 4))) (.sl (.v 1) (.some (.op .Add (.v 4) (.c (.int 1)))) .none))) .nil) .nil) (.cons (.ite (.bo .And (.cons (.cmp .Eq (.v 3) (.c (.int 1))) (.cons (.cmp .Lt (.v 4) (.bf .len (.cons (.v 1) .nil))) .nil))) (.cons (.ret (.op .Add (.op .Add (.sl (.v 1) .none (.some (.v 4))) (.ix (.v 1) (.v 4))) (.sl (.v 1) (.some (.v 4)) .none))) .nil) .nil) (.cons (.ret (.op .Add (.op .Add (.sl (.v 1) .none (.some (.v 4))) (.v 5)) (.sl (.v 1) (.some (.op .Add (.v 4) (.bf .int (.cons (.cmp .Eq (.v 3) (.c (.int 2))) .nil)))) .none))) .nil)))))
theorem sIx_len (n : Nat) : HT.sIx n n (some (n : Int)) = n := by rw [HT.sIx_nat]; omega
theorem cut_pre {t : Cs} {i : Nat} : cutS (sl t) none (some (i : Int)) = sl (t.take i) := by
  have h := sl_cut (t := t) (i := 0) (j := i)
  unfold cutS at h ⊢
  rw [sl_len, HT.sIx_nat (d := 0)] at h
  rw [sl_len, show HT.sIx t.length 0 none = 0 from rfl]
  rw [show min 0 t.length = 0 by omega] at h
  exact h
theorem cut_suf {t : Cs} {i : Nat} : cutS (sl t) (some (i : Int)) none = sl (t.drop i) := by
  have h := sl_cut (t := t) (i := i) (j := t.length)
  rw [List.take_length] at h
  unfold cutS at h ⊢
  rw [sl_len, sIx_len] at h
  rw [sl_len, show HT.sIx t.length t.length none = t.length from rfl]
  exact h
theorem sl_pre {S : Sto} {t : Cs} {i : Nat} (h : t.length ≤ 16777216) : slP S (.str (sl t)) none (some (i : Int)) = some (.str (sl (t.take i))) := by
  unfold slP
  simp only [sl_len, h, ↓reduceIte, cut_pre]
theorem sl_suf {S : Sto} {t : Cs} {i : Nat} (h : t.length ≤ 16777216) : slP S (.str (sl t)) (some (i : Int)) none = some (.str (sl (t.drop i))) := by
  unfold slP
  simp only [sl_len, h, ↓reduceIte, cut_suf]
/-- what a change of one sign leads to -/
structure Chg (t u : Cs) : Prop where
  len : u.length ≤ t.length + 1
  mb : mxb u ≤ mxb t + 2
  mp : mxp u ≤ mxp t + 2
theorem take_drop_sign {t : Cs} {i : Nat} (h : i < t.length) : t = t.take i ++ t[i] :: t.drop (i + 1) := by
  rw [← List.drop_eq_getElem_cons h, List.take_append_drop]
section
variable {T : List Fn} {G : Ev} {wf : Nat} {bx : Bx}
/-- a sign drawn of a text -/
theorem onS (F : FamB T bx) {k : Nat} {S : Sto} {n : Int} {q : Cs} (h : Dk S 0 1 n) (hn : 0 ≤ n) (hn2 : n < 1000000) (hm : 0 < q.length) (hm2 : q.length < 1000000) :
    ∃ (c : Nat) (S' : Sto), run T G wf (k + 2) bx.law_one [.loc 1, .str (sl q)] S = .ok (.str (sl [c])) S' ∧ c ∈ q ∧ Dk S' 0 1 (n + 1) ∧ ∀ X, Kp S S' X := by
  obtain ⟨r, S', h1, h2, h3, h4⟩ := drB (wf := wf) (k := k) (G := G) F (m := q.length) h hn hn2 hm hm2
  refine ⟨q[r], S', (run_succ F.one rfl).trans ?_, List.getElem_mem h2, h3, h4⟩
  have ln : lenD S (.str (sl q)) = some (.int q.length) := len_sl (by omega)
  have ix : ixP S' (.str (sl q)) (.int r) = some (.str (sl [q[r]])) := by
    have := sign_at (S := S') (p := q.take r) (c := q[r]) (l := q.drop (r + 1)) (by rw [← take_drop_sign h2]; omega)
    rw [← take_drop_sign h2] at this
    rw [List.length_take, show min r q.length = r by omega] at this
    exact this
  simp [oneB, slots0, fnEnd, ln, h1, ix]
theorem chg_ok (F : FamB T bx) {cg : Nat} (hT : T[cg]? = some ⟨3, 6, B_law_changed bx⟩) {k : Nat} {S : Sto} {n : Int} {t q : Cs} (h : Dk S 0 1 n) (hn : 0 ≤ n) (hn2 : n < 900000) (ht : t.length ≤ 100000) (hq : 0 < q.length) (hq2 : q.length < 1000) :
    ∃ (u : Cs) (S' : Sto), run T G wf (k + 3) cg [.loc 1, .str (sl t), .str (sl q)] S = .ok (.str (sl u)) S' ∧ Chg t u ∧ Dk S' 0 1 (n + 3) ∧ ∀ X, Kp S S' X := by
  obtain ⟨i, S1, e1, l1, d1, k1⟩ := drB (G := G) (wf := wf) F (k := k + 1) (m := t.length + 1) h hn (by omega) (by omega) (by omega)
  obtain ⟨c, S2, e2, l2, d2, k2⟩ := onS (G := G) (wf := wf) F (k := k) (q := q) d1 (by omega) (by omega) hq (by omega)
  obtain ⟨w, S3, e3, l3, d3, k3⟩ := drB (G := G) (wf := wf) F (k := k + 1) (m := 4) d2 (by omega) (by omega) (by decide) (by decide)
  have e1 : run T G wf (k + 2) bx.law_draw [.loc 1, .int ((t.length : Int) + 1)] S = .ok (.int i) S1 := e1
  have e3 : run T G wf (k + 2) bx.law_draw [.loc 1, .int 4] S2 = .ok (.int w) S3 := e3
  have kk : ∀ X, Kp S S3 X := fun X => ((k1 X).trans (k2 X)).trans (k3 X)
  have dd : Dk S3 0 1 (n + 3) := by rw [show n + 3 = n + 1 + 1 + 1 by omega]; exact d3
  have ln : ∀ S, lenD S (.str (sl t)) = some (.int (t.length : Int)) := fun S => len_sl (by omega)
  have pr : ∀ S, slP S (.str (sl t)) none (some (i : Int)) = some (.str (sl (t.take i))) := fun S => sl_pre (by omega)
  have su : ∀ S, slP S (.str (sl t)) (some (i : Int)) none = some (.str (sl (t.drop i))) := fun S => sl_suf (by omega)
  have su1 : ∀ S, slP S (.str (sl t)) (some ((i : Int) + 1)) none = some (.str (sl (t.drop (i + 1)))) := fun S => sl_suf (t := t) (i := i + 1) (by omega)
  generalize hC : run T G wf (k + 2) = C at e1 e2 e3
  let sd0 : Sl := [some (.loc 1), some (.str (sl t)), some (.str (sl q)), none, none, none]
  let sd1 : Sl := [some (.loc 1), some (.str (sl t)), some (.str (sl q)), none, some (.int i), some (.str (sl [c]))]
  let sd2 : Sl := [some (.loc 1), some (.str (sl t)), some (.str (sl q)), some (.int w), some (.int i), some (.str (sl [c]))]
  have s0 : dS G C wf ((B_law_changed bx).at 0) sd0 S = .ok .nx sd1 S2 := par_2 (i := 4) (j := 5) (S1 := S1) (e_call2 (x := .loc 1) (y := .int ((t.length : Int) + 1)) (S1 := S) (S2 := S) (by simp [sd0]) (by simp [sd0, ln]) e1) (e_call2 (x := .loc 1) (y := .str (sl q)) (S1 := S1) (S2 := S1) (by simp [sd0]) (by simp [sd0]) e2)
  have s1 : dS G C wf ((B_law_changed bx).at 1) sd1 S2 = .ok .nx sd2 S3 := s_asg1 (i := 3) (e_call2 (x := .loc 1) (y := .int 4) (S1 := S2) (S2 := S2) (by simp [sd1]) (by simp) e3)
  have lt1 : (t.take i).length + (t.drop i).length = t.length := by rw [← List.length_append, List.take_append_drop]
  have lt2 : (t.drop (i + 1)).length ≤ (t.drop i).length := by simp; omega
  have vp : dE G C (.sl (.v 1) .none (.some (.v 4))) sd2 S3 = .ok (.str (sl (t.take i))) S3 := by simp [sd2, pr]
  have pre : ∀ (o : Out D), fnEnd (dSs G C wf ((B_law_changed bx).fr 2) sd2 S3) = o → run T G wf (k + 3) cg [.loc 1, .str (sl t), .str (sl q)] S = o := fun o ho => by
    rw [show k + 3 = (k + 2) + 1 from rfl, run_succ (fn := ⟨3, 6, B_law_changed bx⟩) hT rfl, hC]
    show fnEnd (dSs G C wf (B_law_changed bx) sd0 S) = o
    rw [stp0 rfl s0, stp rfl s1]
    exact ho
  by_cases w0 : w = 0
  · subst w0
    refine ⟨t.take i ++ t.drop (i + 1), S3, pre _ ?_, ⟨by simp only [List.length_append]; omega, Nat.le_trans mx_del (Nat.le_succ _), Nat.le_trans mx_del (Nat.le_succ _)⟩, dd, kk⟩
    refine e_ret (s := (B_law_changed bx).at 2) rfl ((s_iteT (S1 := S3) (by simp [sd2])).trans ?_)
    rw [q_scons, then_rt (s_ret1 (e_add (a := t.take i) (b := t.drop (i + 1)) (S1 := S3) (S2 := S3) vp (by simp [sd2, su1]) (by omega)))]
  · have s2 : dS G C wf ((B_law_changed bx).at 2) sd2 S3 = .ok .nx sd2 S3 := (s_iteF (S1 := S3) (by simp [sd2]; omega)).trans rfl
    by_cases w1 : w = 1 ∧ i < t.length
    · obtain ⟨rfl, hi⟩ := w1
      refine ⟨t.take i ++ [t[i]] ++ t.drop i, S3, pre _ ?_, ⟨by simp only [List.length_append, List.length_cons, List.length_nil]; omega, ?_, ?_⟩, dd, kk⟩
      · rw [stp rfl s2]
        have hi' : (i : Int) < t.length := by omega
        refine e_ret (s := (B_law_changed bx).at 3) rfl ((s_iteT (S1 := S3) (by simp [sd2, ln, hi'])).trans ?_)
        have ix : ixP S3 (.str (sl t)) (.int i) = some (.str (sl [t[i]])) := by
          have := sign_at (S := S3) (p := t.take i) (c := t[i]) (l := t.drop (i + 1)) (by rw [← take_drop_sign hi]; omega)
          rw [← take_drop_sign hi] at this
          rw [List.length_take, show min i t.length = i by omega] at this
          exact this
        rw [q_scons, then_rt (s_ret1 (e_add (S1 := S3) (S2 := S3) (e_add (a := t.take i) (b := [t[i]]) (S1 := S3) (S2 := S3) vp (by simp [sd2, ix]) (by simp; omega)) (b := t.drop i) (by simp [sd2, su]) (by simp only [List.length_append, List.length_cons, List.length_nil]; omega)))]
      · have := mx_ins (o := 123) (e := 125) (t := t) (i := i) (c := t[i])
        rw [List.append_assoc]
        exact Nat.le_trans this (Nat.le_succ _)
      · have := mx_ins (o := 40) (e := 41) (t := t) (i := i) (c := t[i])
        rw [List.append_assoc]
        exact Nat.le_trans this (Nat.le_succ _)
    · have s3 : dS G C wf ((B_law_changed bx).at 3) sd2 S3 = .ok .nx sd2 S3 := by
        refine (s_iteF (S1 := S3) ?_).trans rfl
        by_cases z : w = 1
        · subst z
          have : ¬ (i : Int) < t.length := by omega
          simp [sd2, ln, this]
        · have : ¬ (w : Int) = 1 := by omega
          simp [sd2, this]
      by_cases w2 : w = 2
      · subst w2
        refine ⟨t.take i ++ [c] ++ t.drop (i + 1), S3, pre _ ?_, ⟨by simp only [List.length_append, List.length_cons, List.length_nil]; omega, ?_, ?_⟩, dd, kk⟩
        · rw [stp rfl s2, stp rfl s3]
          refine e_ret (s := (B_law_changed bx).at 4) rfl (s_ret1 (e_add (S1 := S3) (S2 := S3) (e_add (a := t.take i) (b := [c]) (S1 := S3) (S2 := S3) vp (by simp [sd2]) (by simp; omega)) (b := t.drop (i + 1)) ?_ (by simp only [List.length_append, List.length_cons, List.length_nil]; omega)))
          have b1 : intD S3 (.bl true) = some (.int 1) := rfl
          simp [sd2, b1, su1]
        · rw [List.append_assoc]; exact mx_rep
        · rw [List.append_assoc]; exact mx_rep
      · refine ⟨t.take i ++ [c] ++ t.drop i, S3, pre _ ?_, ⟨by simp only [List.length_append, List.length_cons, List.length_nil]; omega, ?_, ?_⟩, dd, kk⟩
        · rw [stp rfl s2, stp rfl s3]
          refine e_ret (s := (B_law_changed bx).at 4) rfl (s_ret1 (e_add (S1 := S3) (S2 := S3) (e_add (a := t.take i) (b := [c]) (S1 := S3) (S2 := S3) vp (by simp [sd2]) (by simp; omega)) (b := t.drop i) ?_ (by simp only [List.length_append, List.length_cons, List.length_nil]; omega)))
          have b1 : intD S3 (.bl false) = some (.int 0) := rfl
          have w2' : ¬ (w : Int) = 2 := by omega
          simp [sd2, b1, su, w2']
        · have := mx_ins (o := 123) (e := 125) (t := t) (i := i) (c := c)
          rw [List.append_assoc]
          exact Nat.le_trans this (Nat.le_succ _)
        · have := mx_ins (o := 40) (e := 41) (t := t) (i := i) (c := c)
          rw [List.append_assoc]
          exact Nat.le_trans this (Nat.le_succ _)
end
end Z

namespace K04
open PySem PySem.Spec PyProof.Rows L2 Z
def px : PE.Px := ⟨0, 1, 2, 3, 4, 5, 6, 7, 8, 9, 10, 11, 0, 1, 2, 3, 4, 5, 6, 7, 8, 9, 10⟩
theorem FP : PE.ProgA T G px := by constructor <;> rfl
def tx : Z.Tx := ⟨15, 16, 17, 18, 19, 20, 0, 0, 21, 0, 22, 23, 12, 13, 14, 0, 0, 11, 11, 12, 3, 1, 2, 0, 1, 2, 3, 0⟩
theorem FR : Z.RdA T G tx := by constructor <;> rfl
theorem FS : Z.PsA T G tx := by
  constructor
  · constructor <;> rfl
  all_goals rfl
theorem FW : Z.WsA T G tx := by constructor <;> rfl
def lx : Z.Lx := ⟨30, 31, 32, 0⟩
theorem FX : Z.LtxA T lx := by constructor <;> rfl
def bx : Z.Bx := ⟨25, 26, 27, 28, 29⟩
theorem FB : Z.FamB T bx := by constructor <;> rfl
def rx : Z.Rx := ⟨33, 34, 35, 36, 37⟩
theorem FD : Z.LrdA T rx := by constructor <;> rfl
end K04

namespace K04
open PySem PySem.Spec PyProof.Rows L2 Z
def forB : S1 → Ss
  | .for_ _ _ b => b
  | _ => .nil
def C0 := Z.run T G 0 99
def C1 := Z.run T G 0 98
def optS : Option Stm → D
  | some s => s.d
  | none => .non
/-- what the law finds due -/
theorem due_ok {t : Cs} (ht : t.length ≤ 100000) (hx : mxb t + mxp t < 18) {S : Sto} : ∃ S', C0 39 [.str (sl t)] S = .ok (optS (readS 12 t)) S' ∧ Pre S S' := by
  obtain ⟨S1, e1, p1⟩ := lrd_ok (G := G) (wf := 0) FD 18 26 [] t S (by simp; omega) hx
  have e1 : C1 36 [.str (sl t), .int 0] S = .ok (ltD [] (pSt 18 t)) S1 := e1
  refine ⟨S1, (run_succ (fn := ⟨1, 2, b_law_due⟩) rfl rfl).trans ?_, p1⟩
  have pe : ∀ s : Stm, s.tx.length ≤ 1000000 → ∀ S, C1 11 [somewhere s.d] S = .ok (PE.errD (somewhere s.d)) S := fun s hs S => PE.perr_ok (B := 1000000) (k := 58) FP (by decide) (by
    have := okd_st (S := S) (B := 1000000) (by decide) s hs
    simp [somewhere, PE.okD, PE.okDs, this])
  rw [readS_eq (n := 12) (m := 18) (by decide) (by decide) t]
  unfold readS
  show fnEnd (dSs G C1 0 b_law_due [some (.str (sl t)), none] S) = _
  have ln : ∀ S, lenD S (.str (sl t)) = some (.int (t.length : Int)) := fun S => len_sl (by omega)
  generalize C1 = C at e1 pe
  have s0 : ∀ d, ltD [] (pSt 18 t) = d → dS G C 0 (b_law_due.at 0) [some (.str (sl t)), none] S = .ok .nx [some (.str (sl t)), some d] S1 := fun d hd => by
    rw [hd] at e1
    exact s_asg1 (i := 1) (e_call2 (x := .str (sl t)) (y := .int 0) (S1 := S) (S2 := S) (by simp) (by simp) e1)
  cases q : pSt 18 t with
  | none =>
    rw [stp0 rfl (s0 .non (by rw [q]; rfl))]
    refine e_ret (s := b_law_due.at 1) rfl ((s_iteT (S1 := S1) (t_orT (by simp [isN_non']))).trans ?_)
    simp [optS]
  | some sr =>
    obtain ⟨s, r⟩ := sr
    have el := (pSt_sound q).1
    have hl : t.length = s.tx.length + r.length := by rw [el]; simp
    let v : D := .tup [s.d, .int (s.tx.length : Int)]
    have hv : ltD [] (pSt 18 t) = v := by rw [q]; simp [ltD, v]
    have u1 : dT G C (.bo .Or (.cons (.cmp .Is (.v 1) (.c .non)) (.cons (.cmp .NotEq (.ix (.v 1) (.c (.int 1))) (.bf .len (.cons (.v 0) .nil))) .nil))) [some (.str (sl t)), some v] S1 = .ok (!decide ((s.tx.length : Int) = (t.length : Int))) S1 :=
      (t_orF (S1 := S1) (by simp [v, isN_tup])).trans (t_cmp (x := .int (s.tx.length : Int)) (y := .int (t.length : Int)) (S1 := S1) (by simp [v, PE.ix1]) (by simp [ln]) (by simp))
    rw [stp0 rfl (s0 v hv)]
    cases r with
    | cons c r =>
      have : ¬ (s.tx.length : Int) = (t.length : Int) := by simp at hl; omega
      refine e_ret (s := b_law_due.at 1) rfl ((s_iteT (S1 := S1) (u1.trans (by simp [this]))).trans ?_)
      simp [optS]
    | nil =>
      have : (s.tx.length : Int) = (t.length : Int) := by simp at hl; omega
      have s1 : dS G C 0 (b_law_due.at 1) [some (.str (sl t)), some v] S1 = .ok .nx [some (.str (sl t)), some v] S1 := (s_iteF (S1 := S1) (u1.trans (by simp [this]))).trans rfl
      rw [stp rfl s1]
      refine e_ret (s := b_law_due.at 2) rfl (s_ret1 ?_)
      have u2 : dT G C (.cmp .Is (.call 11 (.cons (.tup (.cons (.c (.int 3)) (.cons (.c (.int 3)) (.cons (.c (.int 5)) (.cons (.tup (.cons (.c (.int 2)) (.cons (.c (.int 2)) (.cons (.c (.int 2)) (.cons (.c (.int 2)) .nil))))) (.cons (.tup (.cons (.ix (.v 1) (.c (.int 0))) .nil)) (.cons (.tup .nil) .nil))))))) .nil)) (.c .non)) [some (.str (sl t)), some v] S1 = .ok (okP (somewhere s.d)) S1 :=
        t_cmp (x := PE.errD (somewhere s.d)) (y := .non) (S1 := S1) (e_call1 (x := somewhere s.d) (S1 := S1) (by simp [v, PE.ix0, somewhere]) (pe s (by omega) S1)) (by simp) (isN_err (S := S1))
      cases ho : okP (somewhere s.d) with
      | true =>
        refine (e_ifT (u2.trans (by rw [ho]))).trans ?_
        simp [v, PE.ix0, optS, ho]
      | false =>
        refine (e_ifF (u2.trans (by rw [ho]))).trans ?_
        simp [optS, ho]
theorem told_tx {t : Cs} (ht : t.length ≤ 100000) {S : Sto} : ∃ S', C0 40 [.str (sl t)] S = .ok (optS (readS 12 t)) S' ∧ Pre S S' := by
  obtain ⟨S1, e1, p1⟩ := ps_ok (wf := 0) FS FP rfl (k := 45) (S := S) (t := t) (by omega)
  have e1 : C1 22 [.str (sl t)] S = outS tx (pSt 12 t) S1 := e1
  refine ⟨S1, (run_succ (fn := ⟨1, 2, b_law_told⟩) rfl rfl).trans ?_, p1⟩
  show fnEnd (dSs G C1 0 b_law_told [some (.str (sl t)), none] S) = _
  generalize C1 = C at e1
  have tr : ∀ s, C 22 [.str (sl t)] S = .ok s S1 → fnEnd (dSs G C 0 b_law_told [some (.str (sl t)), none] S) = .ok s S1 := fun s hs => by
    have b0 : dSs G C 0 (.cons (.asg (.nm 1) (.call 22 (.cons (.v 0) .nil))) .nil) [some (.str (sl t)), none] S = .ok .nx [some (.str (sl t)), some s] S1 := by
      rw [q_scons, then_nx (s_asg1 (i := 1) (e_call1 (x := .str (sl t)) (S1 := S) (by simp) hs))]; rfl
    have s0 : dS G C 0 (b_law_told.at 0) [some (.str (sl t)), none] S = .ok .nx [some (.str (sl t)), some s] S1 := try_ok b0
    rw [stp0 rfl s0]
    exact e_ret (s := b_law_told.at 1) rfl (s_ret1 (by simp))
  have ex : C 22 [.str (sl t)] S = .exc 0 none S1 → fnEnd (dSs G C 0 b_law_told [some (.str (sl t)), none] S) = .ok .non S1 := fun hs => by
    have b0 : dSs G C 0 (.cons (.asg (.nm 1) (.call 22 (.cons (.v 0) .nil))) .nil) [some (.str (sl t)), none] S = .exc 0 none [some (.str (sl t)), none] S1 := by
      rw [q_scons]
      refine then_ex ?_
      simp [hs]
    have s0 : dS G C 0 (b_law_told.at 0) [some (.str (sl t)), none] S = .ok .nx [some (.str (sl t)), some .non] S1 := (try_exc b0 rfl rfl).trans rfl
    rw [stp0 rfl s0]
    exact e_ret (s := b_law_told.at 1) rfl (s_ret1 (by simp))
  unfold readS
  cases q : pSt 12 t with
  | none => rw [q] at e1; exact ex e1
  | some sr =>
    obtain ⟨s, r⟩ := sr
    rw [q] at e1
    cases r with
    | cons c r => exact ex e1
    | nil =>
      unfold outS at e1
      simp only [] at e1 ⊢
      by_cases ho : okP (somewhere s.d) = true
      · rw [if_pos ho] at e1 ⊢
        exact tr _ e1
      · rw [if_neg ho] at e1 ⊢
        exact ex e1
theorem told_no {d : D} {S : Sto} (h : isiD S d .str = some false) : C0 40 [d] S = .ok .non S := by
  have e1 := ps_no (wf := 0) FS (k := 96) (S := S) (d := d) h
  have e1 : C1 22 [d] S = .exc 0 none S := e1
  refine (run_succ (fn := ⟨1, 2, b_law_told⟩) rfl rfl).trans ?_
  show fnEnd (dSs G C1 0 b_law_told [some d, none] S) = _
  generalize C1 = C at e1
  have b0 : dSs G C 0 (.cons (.asg (.nm 1) (.call 22 (.cons (.v 0) .nil))) .nil) [some d, none] S = .exc 0 none [some d, none] S := by
    rw [q_scons]
    refine then_ex ?_
    simp [e1]
  have s0 : dS G C 0 (b_law_told.at 0) [some d, none] S = .ok .nx [some d, some .non] S := (try_exc b0 rfl rfl).trans rfl
  rw [stp0 rfl s0]
  exact e_ret (s := b_law_told.at 1) rfl (s_ret1 (by simp))
end K04

namespace K04
open PySem PySem.Spec PyProof.Rows L2 Z
/-- texts asked, j signs changed -/
structure Asked (j : Nat) (t : Cs) : Prop where
  len : t.length ≤ 3000 + j
  mb : mxb t ≤ 5 + 2 * j
  mp : mxp t ≤ 4 + 2 * j
theorem Asked.chg {j : Nat} {t u : Cs} (h : Asked j t) (c : Chg t u) : Asked (j + 1) u :=
  ⟨by have := h.len; have := c.len; omega, by have := h.mb; have := c.mb; omega, by have := h.mp; have := c.mp; omega⟩
theorem st_shown {s : Stm} (h : StO s) : okR s.d = true ∧ wtD s.d ≤ 40000 ∧ dpD s.d ≤ 24 := by
  have ⟨a, b, c⟩ := s.shown (s.fits_digs h.fits) h.inl
  have := h.sz
  exact ⟨a, by omega, by omega⟩
def turnB : Ss := forB (b_law.at 4)
def toldB : Ss := forB (turnB.at 3)
def chgB : Ss := forB (toldB.at 0)
def pool : Cs := [100, 111, 115, 101, 116, 105, 102, 32, 107, 99, 48, 49, 50, 51, 52, 123, 125, 40, 41, 59, 43, 60, 61, 42, 112]
theorem l_pool : ("dosetif kc01234{}();+<=*p" : Str) = sl pool := by decide +kernel
theorem chg_for {v0 v2 v3 v4 v5 v8 : Option D} : ∀ (ts : List D) (j : Nat) (t : Cs) (S : Sto) (n : Int) (x7 : Option D), ts.length + j ≤ 2 → Asked j t → Dk S 0 1 n → 0 ≤ n → n + 3 * ts.length < 800000 →
    ∃ (u : Cs) (y7 : Option D) (S' : Sto) (n' : Int), forL (gNm 7) (dSs G C0 0 chgB) ts [v0, some (.loc 1), v2, v3, v4, v5, some (.str (sl t)), x7, v8] S = .ok .nx [v0, some (.loc 1), v2, v3, v4, v5, some (.str (sl u)), y7, v8] S' ∧ Asked (j + ts.length) u ∧ Dk S' 0 1 n' ∧ n ≤ n' ∧ n' ≤ n + 3 * ts.length ∧ ∀ X, Kp S S' X
  | [], j, t, S, n, x7, _, a, d, _, _ => ⟨t, x7, S, n, rfl, a, d, Int.le_refl _, by simp, fun X => Kp.refl S X⟩
  | i :: ts, j, t, S, n, x7, hl, a, d, hn, hn2 => by
    have al := a.len
    obtain ⟨u, S1, e1, c1, d1, k1⟩ := chg_ok (G := G) (wf := 0) FB (cg := 38) rfl (k := 96) (t := t) (q := pool) d hn (by omega) (by omega) (by decide) (by decide)
    have e1 : C0 38 [.loc 1, .str (sl t), .str (sl pool)] S = .ok (.str (sl u)) S1 := e1
    simp only [List.length_cons] at hl hn2 ⊢
    by_cases hts : ts = []
    · subst hts
      refine ⟨u, some i, S1, n + 3, ?_, by simpa using a.chg c1, d1, by omega, by simp, k1⟩
      rw [forL]
      have gg : gNm 7 i [v0, some (.loc 1), v2, v3, v4, v5, some (.str (sl t)), x7, v8] S = some ([v0, some (.loc 1), v2, v3, v4, v5, some (.str (sl t)), some i, v8], S) := rfl
      have bd : dSs G C0 0 chgB [v0, some (.loc 1), v2, v3, v4, v5, some (.str (sl t)), some i, v8] S = .ok .nx [v0, some (.loc 1), v2, v3, v4, v5, some (.str (sl u)), some i, v8] S1 := by
        generalize C0 = C at e1
        show dSs G C 0 (.cons (.asg (.nm 6) (.call 38 (.cons (.v 1) (.cons (.v 6) (.cons (.c (.str "dosetif kc01234{}();+<=*p")) .nil))))) .nil) _ S = _
        rw [q_scons, then_nx (s_asg1 (i := 6) (x := .str (sl u)) (S1 := S1) (by simp [l_pool, e1]))]
        rfl
      simp only [gg, bd]
      rfl
    · obtain ⟨u2, y7, S2, n2, e2, a2, d2, g2, g2', k2⟩ := chg_for (v0 := v0) (v2 := v2) (v3 := v3) (v4 := v4) (v5 := v5) (v8 := v8) ts (j + 1) u S1 (n + 3) (some i) (by omega) (a.chg c1) d1 (by omega) (by omega)
      refine ⟨u2, y7, S2, n2, ?_, by rw [show j + (ts.length + 1) = j + 1 + ts.length by omega]; exact a2, d2, by omega, by omega, fun X => (k1 X).trans (k2 X)⟩
      rw [forL]
      have gg : gNm 7 i [v0, some (.loc 1), v2, v3, v4, v5, some (.str (sl t)), x7, v8] S = some ([v0, some (.loc 1), v2, v3, v4, v5, some (.str (sl t)), some i, v8], S) := rfl
      have bd : dSs G C0 0 chgB [v0, some (.loc 1), v2, v3, v4, v5, some (.str (sl t)), some i, v8] S = .ok .nx [v0, some (.loc 1), v2, v3, v4, v5, some (.str (sl u)), some i, v8] S1 := by
        generalize C0 = C at e1
        show dSs G C 0 (.cons (.asg (.nm 6) (.call 38 (.cons (.v 1) (.cons (.v 6) (.cons (.c (.str "dosetif kc01234{}();+<=*p")) .nil))))) .nil) _ S = _
        rw [q_scons, then_nx (s_asg1 (i := 6) (x := .str (sl u)) (S1 := S1) (by simp [l_pool, e1]))]
        rfl
      simp only [gg, bd, e2]
theorem rg2 {r : Nat} (h : r ≤ 2) : rng1 [.int r] = some (.vals ((List.range r).map fun (i : Nat) => D.int (0 + (i : Int)))) := rng_nat (by omega)
/-- one text asked -/
theorem told_st {t : Cs} (a : Asked 0 t) {S : Sto} {n : Int} (h : Dk S 0 1 n) (hn : 0 ≤ n) (hn2 : n < 700000) {v0 v2 v3 v4 v5 x7 x8 : Option D} :
    ∃ (y6 y7 y8 : Option D) (S' : Sto) (n' : Int), dSs G C0 0 toldB [v0, some (.loc 1), v2, v3, v4, v5, some (.str (sl t)), x7, x8] S = .ok .nx [v0, some (.loc 1), v2, v3, v4, v5, y6, y7, y8] S' ∧ Dk S' 0 1 n' ∧ n ≤ n' ∧ n' ≤ n + 7 ∧ ∀ X, Kp S S' X := by
  obtain ⟨d, S1, e1, l1, d1, k1⟩ := onB (G := G) (wf := 0) FB (k := 97) (xs := [.int 0, .int 1, .int 1, .int 2]) h hn (by omega) (by decide) (by decide)
  have e1 : C0 26 [.loc 1, .lst [.int 0, .int 1, .int 1, .int 2]] S = .ok d S1 := e1
  obtain ⟨r, hr, rfl⟩ : ∃ r : Nat, r ≤ 2 ∧ d = .int r := by
    simp only [List.mem_cons, List.not_mem_nil, or_false] at l1
    rcases l1 with rfl | rfl | rfl | rfl
    · exact ⟨0, by omega, rfl⟩
    · exact ⟨1, by omega, rfl⟩
    · exact ⟨1, by omega, rfl⟩
    · exact ⟨2, by omega, rfl⟩
  let ts : List D := (List.range r).map fun (i : Nat) => D.int (0 + (i : Int))
  have tl : ts.length = r := by simp [ts]
  obtain ⟨u, y7, S2, n2, e2, a2, d2, g2, g2', k2⟩ := chg_for (v0 := v0) (v2 := v2) (v3 := v3) (v4 := v4) (v5 := v5) (v8 := x8) ts 0 t S1 (n + 1) x7 (by omega) a d1 (by omega) (by omega)
  rw [tl] at a2 g2'
  have al := a2.len
  have ab := a2.mb
  have ap := a2.mp
  obtain ⟨S3, e3, p3⟩ := due_ok (t := u) (by omega) (by omega) (S := S2)
  obtain ⟨S4, e4, p4⟩ := told_tx (t := u) (by omega) (S := S3)
  obtain ⟨S5, e5, p5⟩ := told_tx (t := u) (by omega) (S := S4)
  have stx : ∀ s, StO s → ∀ S, C0 13 [s.d] S = .ok (.str (sl s.tx)) S := fun s hs S => by
    have fu := s.inl_fu hs.inl
    have := stx_ok (wf := 0) FW (S := S) s (99 - s.fu) (s.fits_digs hs.fits) (by have := hs.len; omega)
    rw [show 99 - s.fu + s.fu = 99 by omega] at this
    exact this
  generalize hq : readS 12 u = q at e3 e4 e5
  have shq : okR (optS q) = true ∧ wtD (optS q) ≤ 40000 ∧ dpD (optS q) ≤ 24 := by
    cases q with
    | none => decide
    | some s => exact st_shown (readS_some hq).2
  refine ⟨some (.str (sl u)), y7, some (optS q), S5, n2, ?_, p5.dk (p4.dk (p3.dk d2)), by omega, by omega, fun X => ((((k1 X).trans (k2 X)).trans (p3.kp X)).trans (p4.kp X)).trans (p5.kp X)⟩
  generalize C0 = C at e1 e2 e3 e4 e5 stx
  let sd0 : Sl := [v0, some (.loc 1), v2, v3, v4, v5, some (.str (sl t)), x7, x8]
  let sd1 : Sl := [v0, some (.loc 1), v2, v3, v4, v5, some (.str (sl u)), y7, x8]
  let sd2 : Sl := [v0, some (.loc 1), v2, v3, v4, v5, some (.str (sl u)), y7, some (optS q)]
  have s0 : dS G C 0 (toldB.at 0) sd0 S = .ok .nx sd1 S2 := by
    show dS G C 0 (.for_ (.nm 7) (.rng1 (.cons (.call 26 (.cons (.v 1) (.cons (.lst false (.cons (.c (.int 0)) (.cons (.c (.int 1)) (.cons (.c (.int 1)) (.cons (.c (.int 2)) .nil))))) .nil))) .nil)) chgB) sd0 S = _
    have it : dI G C (.rng1 (.cons (.call 26 (.cons (.v 1) (.cons (.lst false (.cons (.c (.int 0)) (.cons (.c (.int 1)) (.cons (.c (.int 1)) (.cons (.c (.int 2)) .nil))))) .nil))) .nil)) sd0 S = .ok (.vals ts) S1 := by
      have rg := rg2 hr
      simp [sd0, e1, rg, ts]
    rw [q_sfor, q_mFor, it]
    exact (for_list (sta_vals _)).trans e2
  have s1 : dS G C 0 (toldB.at 1) sd1 S2 = .ok .nx sd2 S3 := s_asg1 (i := 8) (e_call1 (x := .str (sl u)) (S1 := S2) (by simp [sd1]) e3)
  have s2 : dS G C 0 (toldB.at 2) sd2 S3 = .ok .nx sd2 S5 := by
    refine (s_iteF (S1 := S5) (rep_eq (a := .lst [optS q, optS q]) (S1 := S5) ?_ ?_ ?_ ?_ ?_)).trans rfl
    · exact lst2 (S1 := S4) (e_call1 (x := .str (sl u)) (S1 := S3) (by simp [sd2]) e4) (e_call1 (x := .str (sl u)) (S1 := S4) (by simp [sd2]) e5)
    · exact lst2 (S1 := S5) (by simp [sd2]) (by simp [sd2])
    · show (okR (optS q) && (okR (optS q) && true)) = true
      rw [shq.1]; rfl
    · have := shq.2.2
      simp only [dpD, dpDs]; omega
    · have := shq.2.1
      show wtD (optS q) + 1 + (wtD (optS q) + 1 + 0) ≤ 100000
      omega
  have s3 : dS G C 0 (toldB.at 3) sd2 S5 = .ok .nx sd2 S5 := by
    cases q with
    | none => exact (s_iteF (S1 := S5) (t_andF (by simp [sd2, optS, isN_non']))).trans rfl
    | some s =>
      obtain ⟨hu, ho⟩ := readS_some hq
      refine (s_iteF (S1 := S5) ((t_andT (S1 := S5) (by simp [sd2, optS, isN_stm])).trans (t_cmp (x := .str (sl s.tx)) (y := .str (sl u)) (S1 := S5) (e_call1 (x := s.d) (S1 := S5) (by simp [sd2, optS]) (stx s ho S5)) (by simp [sd2]) ?_))).trans rfl
      rw [hu]; simp
  show dSs G C 0 (.cons (toldB.at 0) (.cons (toldB.at 1) (.cons (toldB.at 2) (.cons (toldB.at 3) .nil)))) sd0 S = _
  rw [q_scons, then_nx s0, q_scons, then_nx s1, q_scons, then_nx s2, q_scons, then_nx s3]
  rfl
end K04

namespace K04
open PySem PySem.Spec PyProof.Rows L2 Z
def some0 : List Str := ["", "do", "do 5", "do 4", "set 3 9", "set 4 9", "stop", "stop ", " stop", "do 0; do 1", "if 1 {} {}"]
def some1 : List Str := ["if 1 {}", "if c4 {} {}", "set 0 c3", "body do 0", "do 0\n", "do -1", "set 0 x"]
def some2 : List Str := ["if (s=k) {stop; stop} {if 0 {} {}}"]
def somes : List Str := some0 ++ some1 ++ some2
def somesD : List D := somes.map D.str
theorem somes_ok : (somes.all fun x => decide (x.cps.toList.length ≤ 3000) && (decide (mxb x.cps.toList ≤ 5) && decide (mxp x.cps.toList ≤ 4))) = true := by decide +kernel
theorem somes_in {d : D} (h : d ∈ somesD) : ∃ t, d = .str (sl t) ∧ Asked 0 t := by
  obtain ⟨x, hx, rfl⟩ := List.mem_map.mp h
  have := List.all_eq_true.mp somes_ok x hx
  simp only [Bool.and_eq_true, decide_eq_true_eq] at this
  exact ⟨x.cps.toList, by rw [← sl_of], by simpa using this.1, this.2.1, this.2.2⟩
/-- a statement made -/
structure Made (s : Stm) : Prop where
  ok : s.ok 5 4 = true
  inl : s.inl 6 = true
  sz : s.sz ≤ 340
theorem Made.asked {s : Stm} (h : Made s) : Asked 0 s.tx := by
  have f := s.ok_fits (p := 5) (w := 4) (by decide) (by decide) h.ok h.inl
  have h1 := st_leb (d := 5) s f (s.inl_inb (by decide) h.inl) (r := [])
  have h2 := st_lep (d := 4) s f (s.inl_inp (by decide) h.inl) (r := [])
  rw [List.append_nil] at h1 h2
  have e1 : mxb [] = 0 := rfl
  have e2 : mxp [] = 0 := rfl
  have := s.tx_sz
  have := h.sz
  exact ⟨by omega, by omega, by omega⟩
theorem e_own {G : Ev} {C : Nat → List D → Sto → Out D} {a b : E} {sd : Sl} {S S1 S2 : Sto} {x y : D} {xs ys : List D} (h1 : dE G C a sd S = .ok x S1) (h2 : dE G C b sd S1 = .ok y S2) (h3 : asL S2 x = some xs) (h4 : asL S2 y = some ys) (hl : xs.length + ys.length ≤ 16777216) : dE G C (.opM .Add a b) sd S = .ok (.loc S2.length) (S2 ++ [.lst (xs ++ ys)]) := by
  have : catL S2 x y = some (xs ++ ys) := by unfold catL; simp only [h3, h4]; rw [if_pos hl]
  rw [q_eopM, q_mOwn, h1]
  simp only [h2]
  show (match catL S2 x y with | some xs => Out.ok (D.loc S2.length) (S2 ++ [MO.lst xs]) | none => Out.bad) = _
  rw [this]
theorem turn {S : Sto} {n : Int} (h : Dk S 0 1 n) (hc : S[3]? = some (.lst somesD)) (hn : 0 ≤ n) (hn2 : n < 500000) {v0 v3 x4 x5 x6 x7 x8 : Option D} :
    ∃ (y4 y5 y6 y7 y8 : Option D) (S' : Sto) (n' : Int), dSs G C0 0 turnB [v0, some (.loc 1), some (.loc 3), v3, x4, x5, x6, x7, x8] S = .ok .nx [v0, some (.loc 1), some (.loc 3), v3, y4, y5, y6, y7, y8] S' ∧ Dk S' 0 1 n' ∧ S'[3]? = some (.lst somesD) ∧ n ≤ n' ∧ n' ≤ n + 1000 := by
  have c4 : stC 4 = 765 := rfl
  have c5 : sumC 5 = 62 := rfl
  obtain ⟨s, S1, n1, e1, v1, d1, l1, l1', k1⟩ := stB_ok (G := G) (wf := 0) FB (p := 5) (w := 4) (by decide) (by decide) (by decide) (by decide) 3 88 S n h hn (by rw [c4]; omega)
  rw [c4] at l1'
  obtain ⟨r, S2, e2, l2, d2, k2⟩ := drB (G := G) (wf := 0) FB (k := 98) (m := 3) d1 (by omega) (by omega) (by decide) (by decide)
  have e1 : C0 28 [.loc 1, .int 5, .int 4, .int 4] S = .ok s.d S1 := e1
  have e2 : C0 25 [.loc 1, .int 3] S1 = .ok (.int r) S2 := e2
  have m1 : Made s := ⟨v1.ok, v1.inl 6 (by decide), v1.sz⟩
  -- the statement made
  have made : ∃ (s' : Stm) (S3 : Sto) (n3 : Int), dS G C0 0 (turnB.at 1) [v0, some (.loc 1), some (.loc 3), v3, some s.d, x5, x6, x7, x8] S1 = .ok .nx [v0, some (.loc 1), some (.loc 3), v3, some s'.d, x5, x6, x7, x8] S3 ∧ Made s' ∧ Dk S3 0 1 n3 ∧ n1 ≤ n3 ∧ n3 ≤ n1 + 70 ∧ ∀ X, Kp S1 S3 X := by
    by_cases z : r = 0
    · subst z
      obtain ⟨i, S3, e3, l3, d3, k3⟩ := drB (G := G) (wf := 0) FB (k := 98) (m := 4) d2 (by omega) (by omega) (by decide) (by decide)
      obtain ⟨y, S4, n4, e4, v4, d4, g4, g4', k4⟩ := sumB_ok (G := G) (wf := 0) FB (w := 4) (by decide) (by decide) 4 92 S3 (n1 + 1 + 1) d3 (by omega) (by rw [c5]; omega)
      rw [c5] at g4'
      obtain ⟨f, rfl, f1, f2, f3⟩ := v4
      have e3 : C0 25 [.loc 1, .int 4] S2 = .ok (.int i) S3 := e3
      have e4 : C0 27 [.loc 1, .int 4, .int 5] S3 = .ok f.d S4 := e4
      refine ⟨.set i f, S4, n4, ?_, ⟨?_, ?_, ?_⟩, d4, by omega, by omega, fun X => ((k2 X).trans (k3 X)).trans (k4 X)⟩
      · generalize C0 = C at e2 e3 e4
        refine (s_iteT (S1 := S2) (by simp [e2])).trans ?_
        rw [q_scons, then_nx (s_asg1 (i := 4) (x := (Stm.set i f).d) (S1 := S4) (by
          show dE G C (.tup (.cons (.c (.str "set")) (.cons (.call 25 (.cons (.v 1) (.cons (.c (.int 4)) .nil))) (.cons (.call 27 (.cons (.v 1) (.cons (.c (.int 4)) (.cons (.c (.int 5)) .nil)))) .nil)))) _ S2 = _
          simp [e3, e4, Stm.d]))]
        rfl
      · show (decide (i < 4) && f.ok 4) = true
        rw [f1, decide_eq_true l3]; rfl
      · show decide (f.lv + 1 < 6) = true
        exact decide_eq_true (by omega)
      · show 1 + f.sz ≤ 340
        omega
    · refine ⟨s, S2, n1 + 1, ?_, m1, d2, by omega, by omega, k2⟩
      generalize C0 = C at e2
      have : ¬ (r : Int) = 0 := by omega
      exact (s_iteF (S1 := S2) (by simp [e2, z])).trans rfl
  obtain ⟨s', S3, n3, e3, m3, d3, l3, l3', k3⟩ := made
  have a3 := m3.asked
  have f3 := s'.ok_fits (p := 5) (w := 4) (by decide) (by decide) m3.ok m3.inl
  have e4 : C0 31 [s'.d] S3 = .ok (.str (sl s'.tx)) S3 := by
    have fu := s'.inl_fu m3.inl
    have := lst_ok (wf := 0) (G := G) FX (S := S3) s' (99 - s'.fu) (s'.fits_digs f3) (by have := a3.len; omega)
    rw [show 99 - s'.fu + s'.fu = 99 by omega] at this
    exact this
  have hc3 : S3[3]? = some (.lst somesD) := (k3 (fun _ => False)).at ((k1 (fun _ => False)).at hc (by decide) id) (by decide) id
  obtain ⟨dd, S5, e5, l5, d5, k5⟩ := oneL (G := G) (wf := 0) (k := 97) FB.draw FB.one (by decide) d3 (by omega) (by omega) hc3 (by decide) (by decide) (by decide)
  obtain ⟨t, rfl, a5⟩ := somes_in l5
  have e5 : C0 26 [.loc 1, .loc 3] S3 = .ok (.str (sl t)) S5 := e5
  obtain ⟨y6, y7, y8, S6, n6, e6, d6, l6, l6', k6⟩ := told_st a3 d5 (by omega) (by omega) (v0 := v0) (v2 := some (.loc 3)) (v3 := v3) (v4 := some s'.d) (v5 := some (.str (sl s'.tx))) (x7 := x7) (x8 := x8)
  obtain ⟨z6, z7, z8, S7, n7, e7, d7, l7, l7', k7⟩ := told_st a5 d6 (by omega) (by omega) (v0 := v0) (v2 := some (.loc 3)) (v3 := v3) (v4 := some s'.d) (v5 := some (.str (sl s'.tx))) (x7 := y7) (x8 := y8)
  have hc7 : S7[3]? = some (.lst somesD) := (k7 (fun _ => False)).at ((k6 (fun _ => False)).at ((k5 (fun _ => False)).at hc3 (by decide) id) (by decide) id) (by decide) id
  refine ⟨some s'.d, some (.str (sl s'.tx)), z6, z7, z8, S7, n7, ?_, d7, hc7, by omega, by omega⟩
  generalize C0 = C at e1 e3 e4 e5 e6 e7
  have s0 : dS G C 0 (turnB.at 0) [v0, some (.loc 1), some (.loc 3), v3, x4, x5, x6, x7, x8] S = .ok .nx [v0, some (.loc 1), some (.loc 3), v3, some s.d, x5, x6, x7, x8] S1 := by
    refine s_asg1 (i := 4) ?_
    show dE G C (.call 28 (.cons (.v 1) (.cons (.c (.int 5)) (.cons (.c (.int 4)) (.cons (.c (.int 4)) .nil))))) _ S = _
    simp [e1]
  have s2 : dS G C 0 (turnB.at 2) [v0, some (.loc 1), some (.loc 3), v3, some s'.d, x5, x6, x7, x8] S3 = .ok .nx [v0, some (.loc 1), some (.loc 3), v3, some s'.d, some (.str (sl s'.tx)), x6, x7, x8] S3 := s_asg1 (i := 5) (e_call1 (x := s'.d) (S1 := S3) (by simp) e4)
  let sd : Sl := [v0, some (.loc 1), some (.loc 3), v3, some s'.d, some (.str (sl s'.tx)), x6, x7, x8]
  have s3 : dS G C 0 (turnB.at 3) sd S3 = .ok .nx [v0, some (.loc 1), some (.loc 3), v3, some s'.d, some (.str (sl s'.tx)), z6, z7, z8] S7 := by
    show dS G C 0 (.for_ (.nm 6) (.seq (.lst false (.cons (.v 5) (.cons (.call 26 (.cons (.v 1) (.cons (.v 2) .nil))) .nil)))) toldB) sd S3 = _
    have it : dI G C (.seq (.lst false (.cons (.v 5) (.cons (.call 26 (.cons (.v 1) (.cons (.v 2) .nil))) .nil)))) sd S3 = .ok (.vals [.str (sl s'.tx), .str (sl t)]) S5 := by simp [sd, e5, srcOf]
    rw [q_sfor, q_mFor, it]
    refine (for_list (sta_vals [.str (sl s'.tx), .str (sl t)])).trans ?_
    have g1 : gNm 6 (.str (sl s'.tx)) sd S5 = some ([v0, some (.loc 1), some (.loc 3), v3, some s'.d, some (.str (sl s'.tx)), some (.str (sl s'.tx)), x7, x8], S5) := rfl
    have g2 : gNm 6 (.str (sl t)) [v0, some (.loc 1), some (.loc 3), v3, some s'.d, some (.str (sl s'.tx)), y6, y7, y8] S6 = some ([v0, some (.loc 1), some (.loc 3), v3, some s'.d, some (.str (sl s'.tx)), some (.str (sl t)), y7, y8], S6) := rfl
    show forL (gNm 6) (dSs G C 0 toldB) [.str (sl s'.tx), .str (sl t)] sd S5 = _
    unfold forL
    simp only [g1, e6]
    unfold forL
    simp only [g2, e7]
    rfl
  show dSs G C 0 (.cons (turnB.at 0) (.cons (turnB.at 1) (.cons (turnB.at 2) (.cons (turnB.at 3) .nil)))) _ S = _
  rw [q_scons, then_nx s0, q_scons, then_nx e3, q_scons, then_nx s2, q_scons, then_nx s3]
  rfl
def lastL : List D := [.non, .int 7, .tup [.str "do", .int 0], .lst [], .bl true, .tup [.str "stop"], .int (10 ^ 30)]
theorem math (ns : List Int) (hl : ns.length ≤ 63) : ∃ wf S', Z.run T G wf 100 41 [.fro (ns.map .int)] [] = .ok (.bl true) S' := by
  refine ⟨0, ?_⟩
  obtain ⟨S1, e1, l1, d1, _⟩ := deck_ok (G := G) (C := Z.run T G 0 98) (wf := 0) (nm := "_law_cell") (S := []) hl
  have e1' : C0 24 [.fro (ns.map .int)] [] = .ok (.loc 1) S1 := (run_succ (fn := ⟨1, 2, deckB "_law_cell"⟩) rfl rfl).trans e1
  let ds : D := .fro (ns.map .int)
  let sd0 : Sl := [some ds, none, none, none, none, none, none, none, none]
  let sd1 : Sl := [some ds, some (.loc 1), none, none, none, none, none, none, none]
  let sd2 : Sl := [some ds, some (.loc 1), some (.loc 2), none, none, none, none, none, none]
  let sd3 : Sl := [some ds, some (.loc 1), some (.loc 3), none, none, none, none, none, none]
  let S2 := S1 ++ [MO.lst (some0.map D.str)]
  let S3 := S2 ++ [MO.lst ((some0 ++ some1).map D.str)]
  let S4 := S2 ++ [MO.lst somesD]
  have l1' : S1.length = 2 := by simpa using l1
  have s0 : dS G C0 0 (b_law.at 0) sd0 [] = .ok .nx sd1 S1 := s_asg1 (i := 1) (e_call1 (x := ds) (S1 := []) (by simp [sd0]) e1')
  have s1 : dS G C0 0 (b_law.at 1) sd1 S1 = .ok .nx sd2 S2 := by
    generalize C0 = C
    refine s_asg1 (i := 2) (x := .loc 2) ?_
    rw [← l1']
    kernel_rfl
  have s2 : dS G C0 0 (b_law.at 2) sd2 S2 = .ok .nx sd3 S3 := by
    generalize C0 = C
    refine s_asg1 (i := 2) (x := .loc 3) ?_
    have h2 : S2[2]? = some (MO.lst (some0.map D.str)) := by rw [← l1']; simp [S2]
    have l2 : S2.length = 3 := by simp [S2, l1']
    have e := e_own (G := G) (C := C) (a := .v 2) (b := .lst false (.cons (.c (.str "if 1 {}")) (.cons (.c (.str "if c4 {} {}")) (.cons (.c (.str "set 0 c3")) (.cons (.c (.str "body do 0")) (.cons (.c (.str "do 0\n")) (.cons (.c (.str "do -1")) (.cons (.c (.str "set 0 x")) .nil)))))))) (sd := sd2) (S := S2) (S1 := S2) (S2 := S2) (x := .loc 2) (y := .lst (some1.map D.str)) (xs := some0.map D.str) (ys := some1.map D.str) rfl (by simp [some1]) (by simp [asL, h2]) rfl (by simp [some0, some1])
    rw [l2, ← List.map_append] at e
    exact e
  have s3 : dS G C0 0 (b_law.at 3) sd3 S3 = .ok .nx sd3 S4 := by
    generalize C0 = C
    have l2 : S2.length = 3 := by simp [S2, l1']
    have h3 : S3[3]? = some (MO.lst ((some0 ++ some1).map D.str)) := by rw [← l2]; simp [S3]
    refine (s_app2 (i := 2) (f := 3) (y := .str "if (s=k) {stop; stop} {if 0 {} {}}") (xs := (some0 ++ some1).map D.str) rfl (by simp) h3 h3 (by simp [some0, some1])).trans ?_
    rw [← l2, show S3.set S2.length (MO.lst ((some0 ++ some1).map D.str ++ [.str "if (s=k) {stop; stop} {if 0 {} {}}"])) = S4 by
      show (S2 ++ [_]).set S2.length _ = _
      rw [set_last]
      simp [S4, somesD, somes, some2]]
  have d4 : Dk S4 0 1 0 := by
    have d1' : Dk S1 0 1 0 := by simpa using d1
    exact (d1'.push (l := [MO.lst (some0.map D.str)])).push
  have c4 : S4[3]? = some (.lst somesD) := by
    have l2 : S2.length = 3 := by simp [S2, l1']
    rw [← l2]; simp [S4]
  let src : List D := (List.range 12).map fun (i : Nat) => D.int (0 + (i : Int))
  obtain ⟨sd', S', e2, x3, x4, x5, x6, x7, x8, n', rfl, hk', hc', hn', hn2'⟩ := for_inv (ds := src) (g := gNm 3) (b := dSs G C0 0 turnB) (fun i sd S => ∃ (x3 x4 x5 x6 x7 x8 : Option D) (n : Int), sd = [some ds, some (.loc 1), some (.loc 3), x3, x4, x5, x6, x7, x8] ∧ Dk S 0 1 n ∧ S[3]? = some (.lst somesD) ∧ 0 ≤ n ∧ n ≤ 1000 * i)
    (fun i d sd S hd hP => by
      have hi : i < 12 := by
        have := (List.getElem?_eq_some_iff.mp hd).1
        simpa [src] using this
      obtain ⟨x3, x4, x5, x6, x7, x8, n, rfl, hk, hc, hn, hn2⟩ := hP
      obtain ⟨y4, y5, y6, y7, y8, S', n', t1, t2, t3, t4, t5⟩ := turn hk hc hn (by omega) (v0 := some ds) (v3 := some d) (x4 := x4) (x5 := x5) (x6 := x6) (x7 := x7) (x8 := x8)
      exact ⟨_, S, rfl, _, S', .inl t1, some d, y4, y5, y6, y7, y8, n', rfl, t2, t3, by omega, by omega⟩)
    12 0 sd3 S4 rfl ⟨none, none, none, none, none, none, 0, rfl, d4, c4, by omega, by omega⟩
  have s4 : dS G C0 0 (b_law.at 4) sd3 S4 = .ok .nx [some ds, some (.loc 1), some (.loc 3), x3, x4, x5, x6, x7, x8] S' := e2
  have sl12 : src.length = 12 := by simp [src]
  rw [sl12] at hn2'
  let S5 := S' ++ [MO.dic []]
  let xs : List D := [.non, .int 7, .tup [.str "do", .int 0], .lst [], .loc S'.length, .bl true, .tup [.str "stop"], .int (10 ^ 30)]
  obtain ⟨d, S6, e6, l6, d6, k6⟩ := onB (G := G) (wf := 0) FB (k := 97) (S := S5) (xs := xs) hk'.push hn' (by omega) (by simp [xs]) (by simp [xs])
  have e6 : C0 26 [.loc 1, .lst xs] S5 = .ok d S6 := e6
  have h2' := hk'.len
  have dic6 : S6[S'.length]? = some (.dic []) := (k6 (fun _ => False)).at (c := S'.length) (by simp [S5]) h2' id
  have isn : isiD S6 d .str = some false := by
    simp only [xs, List.mem_cons, List.not_mem_nil, or_false] at l6
    rcases l6 with rfl | rfl | rfl | rfl | rfl | rfl | rfl | rfl
    all_goals first | rfl | (simp [isiD, dic6]; done)
  have e7 := told_no isn
  refine ⟨S6, (run_succ (fn := ⟨1, 9, b_law⟩) rfl rfl).trans ?_⟩
  show fnEnd (dSs G C0 0 b_law sd0 []) = _
  rw [stp0 rfl s0, stp rfl s1, stp rfl s2, stp rfl s3, stp rfl s4]
  generalize C0 = C at e6 e7
  refine e_ret (s := b_law.at 5) rfl (s_ret1 (e_cmp (x := .non) (y := .non) (S1 := S6) (e_call1 (x := d) (S1 := S6) (e_call2 (x := .loc 1) (y := .lst xs) (S1 := S') (S2 := S5) (by simp) ?_ e6) e7) (by simp) rfl))
  kernel_rfl
end K04

namespace K04
open PySem PySem.Spec PyProof.Rows L2 Z
def fr : List Str := bltN.map Str.ofString
abbrev R : PySem.W.OpenRow := PySem.W.OpenLaw.row PySem.Challenge.rw_steadytime_k04_texts_of_statements
def hdd : HdD := hdOf fr gl rows cls exs dcs
abbrev hk : PySem.W.Hook := hookZ 4 hdd
def ob (s : PySem.W.SharedT) : AlZ := obsZG 4 hdd (HandSHeadRun.getT s)
theorem ob_eq (s : PySem.W.SharedT) : ob s = hk.obs s.abs := obsZG_eq (HandSHeadRun.getT_eq s)
theorem runF (w : World) : HandSHeadRun.RunEq R (PySem.W.view R.prog [65]) hk ob 9000 loose (w.withFollow "special-get-raises" false) := by
  intro os
  kernel_rfl
theorem runT (w : World) : HandSHeadRun.RunEq R (PySem.W.view R.prog [65]) hk ob 9000 loose (w.withFollow "special-get-raises" true) := by
  intro os
  kernel_rfl
theorem runs (w : World) : HandSHeadRun.RunEq R (PySem.W.view R.prog [65]) hk ob 9000 loose w :=
  PySem.W.byRow2 "special-get-raises" (P := fun w => HandSHeadRun.RunEq R (PySem.W.view R.prog [65]) hk ob 9000 loose w) runF runT w
theorem hrows : (rows.all (rowOk (tabOf rows gl cls exs dcs))) = true := by decide +kernel
theorem ends (math : ∀ ns : List Int, ns.length ≤ 63 → ∃ wf S', Z.run T G wf 100 41 [.fro (ns.map .int)] [] = .ok (.bl true) S') : PySem.Challenge.rw_steadytime_k04_texts_of_statements.Holds := by
  w_on; o_law
  refine HandSHeadRun.head_any (r := PySem.W.OpenLaw.row PySem.Challenge.rw_steadytime_k04_texts_of_statements) (q := PySem.W.view (PySem.W.OpenLaw.row PySem.Challenge.rw_steadytime_k04_texts_of_statements).prog [65]) (H := hk) (ob := ob) (M := 9000) (loose := loose) (d := HandSHeadRun.topDef (PySem.W.OpenLaw.row PySem.Challenge.rw_steadytime_k04_texts_of_statements).prog 65) (kwd := []) ob_eq
    (by kernel_rfl) (fun s => by kernel_rfl) runs (by kernel_rfl) (by kernel_rfl) (by kernel_rfl) (by rfl) (by first | assumption | decide +kernel) (by decide +kernel) ⟨rfl, rfl, rfl, rfl, rfl, by decide +kernel⟩ ?hw ?hc
  case hw => w_witness2
  case hc =>
    exact walk_ofZ (l := PySem.Challenge.rw_steadytime_k04_texts_of_statements) (n := 63) (k := 100) (x := "_law_script") (i := 41) (row := r_law) rfl (by decide) (by kernel_rfl) ⟨rfl, by decide, by decide⟩ (fun _ _ z => z) (by decide +kernel) (by decide +kernel) rfl (by kernel_rfl) rfl hrows math
end K04

theorem PySem.Challenge.cw_steadytime_k04_texts_of_statements_holds : PySem.Challenge.rw_steadytime_k04_texts_of_statements.Holds := by
  exact K04.ends K04.math
