import PyProof.Rows.All
import Wide.All
import OpenK.AllK
import Wide.FinOn
import HandS.ForMost
import HandS.ForExc
import HandS.IsInst
import HandS.TupAny
import HandS.TupMul
import HandS.Style
import HandS.Wide
import HandS.Zip
import PyProof.ReprRoads
import HandS.Defaults
import HandS.Head0
import HandS.Head1
import HandS.Head2
import HandS.HeadEnd
import HandS.HeadHook1
import HandS.HeadHook2
import PySem.Challenge.RW_steadytime_k21_programs_with_errors
set_option Elab.async false
set_option linter.all false
set_option maxRecDepth 100000
set_option maxHeartbeats 0
/-! Z layer, part A: plain data, stores, what they stand for on HandS's abstract heap. -/
namespace Z
open PySem PySem.Spec PyProof.Rows L2

/-- plain data: tuples and lists that nobody changes as trees; fro: a list that was there before (the script); loc n: the n-th changeable object of the store -/
inductive D where
  | non | bl (b : Bool) | int (i : Int) | str (x : Str) | tup (xs : List D) | lst (xs : List D) | fro (xs : List D) | loc (n : Nat)

/-- a changeable object: a list; an instance of the c-th class -/
inductive MO where
  | lst (xs : List D)
  | ins (c : Nat) (fs : List (Str × D))
  | dic (kvs : List (Key × D))
  | dit (kvs : List (List Key × D))

abbrev Sto := List MO
/-- where the store's objects stand; addresses that no datum may stand at -/
structure Rg where
  l : List Addr
  p : List Addr
def Rg.add (r : Rg) (a : Addr) : Rg := ⟨r.l ++ [a], r.p⟩
def Rg.hide (r : Rg) (a : Addr) : Rg := ⟨r.l, a :: r.p⟩
abbrev Sl := List (Option D)
abbrev St := L2.St
abbrev XF := Option (List (Str × D))

/-- what an expression comes to -/
inductive Out (T : Type) where
  | ok (a : T) (S : Sto)
  | exc (c : Nat) (fs : XF) (S : Sto)
  | bad
def Out.bind {T U : Type} (o : Out T) (f : T → Sto → Out U) : Out U := match o with
  | .ok a S => f a S
  | .exc c fs S => .exc c fs S
  | .bad => .bad

section
variable (K : PySem.W.Frag) (ca : Nat → Addr) (H : Hp) (r : Rg)

def KL (a : Addr) (xs : List V) : Prop :=
  ∃ (o : Obj) (its : Array Value) (n : Nat), K.lookup a = some o ∧ o.cls = .type "list" ∧ o.dict = none ∧ o.data = .seq its n ∧ its.size ≤ sizeLine ∧ Vals xs its.toList

def FL (a : Addr) (xs : List V) : Prop := (∃ o, H a = some (.frz o (.lst xs))) ∨ KL K a xs

mutual
/-- the datum d stands at the value v -/
inductive Rep : D → V → Prop
  | non : Rep .non .non
  | bl (b : Bool) : Rep (.bl b) (.bl b)
  | int (i : Int) : Rep (.int i) (.int i)
  | str (x : Str) : Rep (.str x) (.str x)
  | tup {a : Addr} {vs : List V} {ds : List D} : SqT K H a vs → Reps ds vs → Rep (.tup ds) (.ref a)
  | lst {a : Addr} {vs : List V} {ds : List D} : H a = some (.lst vs) → a ∉ r.l → a ∉ r.p → Reps ds vs → Rep (.lst ds) (.ref a)
  | fro {a : Addr} {vs : List V} {ds : List D} : FL K H a vs → Reps ds vs → Rep (.fro ds) (.ref a)
  | loc {n : Nat} {a : Addr} : r.l[n]? = some a → Rep (.loc n) (.ref a)
inductive Reps : List D → List V → Prop
  | nil : Reps [] []
  | cons {d : D} {ds : List D} {v : V} {vs : List V} : Rep d v → Reps ds vs → Reps (d :: ds) (v :: vs)
end

/-- fields by name -/
inductive RepF {κ : Type} : List (κ × D) → List (κ × V) → Prop
  | nil : RepF [] []
  | cons {f : κ} {d : D} {v : V} {ds : List (κ × D)} {vs : List (κ × V)} : Rep K H r d v → RepF ds vs → RepF ((f, d) :: ds) ((f, v) :: vs)

def ORep (o : MO) (a : Addr) : Prop := match o with
  | .lst ds => ∃ vs, H a = some (.lst vs) ∧ Reps K H r ds vs
  | .ins c fs => ∃ dx gs, H a = some (.ins (ca c) dx gs) ∧ RepF K H r fs gs
  | .dic ds => ∃ vs, H a = some (.dK vs) ∧ RepF K H r ds vs
  | .dit ds => ∃ vs, H a = some (.dT vs) ∧ RepF K H r ds vs

structure Sim (S : Sto) : Prop where
  len : r.l.length = S.length
  nd : r.l.Nodup
  obj : ∀ (n : Nat) (o : MO), S[n]? = some o → ∃ a, r.l[n]? = some a ∧ ORep K ca H r o a
  prv : ∀ a ∈ r.p, H a ≠ none
end

/-- never changed -/
def Imm : HO → Prop
  | .tup _ => True
  | .frz _ _ => True
  | _ => False

structure Ext (H : Hp) (r : Rg) (H' : Hp) (r' : Rg) : Prop where
  more : ∃ l, r' = ⟨r.l ++ l, r.p⟩ ∧ ∀ a ∈ l, H a = none
  keep : ∀ b o, H b = some o → b ∉ r.l → H' b = some o
  imm : ∀ b o, H b = some o → Imm o → H' b = some o
  there : ∀ b, H b ≠ none → H' b ≠ none

theorem Ext.refl (H : Hp) (r : Rg) : Ext H r H r := ⟨⟨[], by simp, by simp⟩, fun _ _ h _ => h, fun _ _ h _ => h, fun _ h => h⟩
theorem Ext.trans {H H1 H2 : Hp} {r r1 r2 : Rg} (a : Ext H r H1 r1) (b : Ext H1 r1 H2 r2) : Ext H r H2 r2 := by
  obtain ⟨l1, e1, n1⟩ := a.more
  obtain ⟨l2, e2, n2⟩ := b.more
  refine ⟨⟨l1 ++ l2, by rw [e2, e1]; simp [List.append_assoc], fun x hx => ?_⟩, fun x o h hn => b.keep x o (a.keep x o h hn) ?_, fun x o h hi => b.imm x o (a.imm x o h hi) hi, fun x h => b.there x (a.there x h)⟩
  · rcases List.mem_append.mp hx with hx | hx
    · exact n1 x hx
    · have := n2 x hx
      cases e : H x with
      | none => rfl
      | some o => exact absurd this (a.there x (by rw [e]; simp))
  · rw [e1]
    intro hm
    rcases List.mem_append.mp hm with hm | hm
    · exact hn hm
    · rw [n1 x hm] at h; cases h

section
variable {K : PySem.W.Frag} {ca : Nat → Addr} {H H' : Hp} {r r' : Rg}

theorem Ext.rdT {a : Addr} {xs : List V} (e : Ext H r H' r') (h : SqT K H a xs) : SqT K H' a xs := by
  rcases h with (h | ⟨o, h⟩) | h
  · exact .inl (.inl (e.imm _ _ h trivial))
  · exact .inl (.inr ⟨o, e.imm _ _ h trivial⟩)
  · exact .inr h
theorem Ext.notin {a : Addr} (e : Ext H r H' r') (h : H a ≠ none) (hn : a ∉ r.l) : a ∉ r'.l := by
  obtain ⟨l, rfl, hl⟩ := e.more
  intro hm
  rcases List.mem_append.mp hm with hm | hm
  · exact hn hm
  · exact h (hl a hm)
theorem ne_of_some {a : Addr} {u : HO} (h : H a = some u) : H a ≠ none := by rw [h]; simp
theorem Ext.fl {a : Addr} {xs : List V} (e : Ext H r H' r') (h : FL K H a xs) : FL K H' a xs := by
  rcases h with ⟨o, h⟩ | h
  · exact .inl ⟨o, e.imm _ _ h trivial⟩
  · exact .inr h
theorem FL.sq {a : Addr} {xs : List V} (h : FL K H a xs) : SqL K H a xs := by
  rcases h with ⟨o, h⟩ | h
  · exact .inl (.inr ⟨o, h⟩)
  · exact .inr h
theorem Ext.prv (e : Ext H r H' r') : r'.p = r.p := by
  obtain ⟨l, rfl, hl⟩ := e.more
  rfl
theorem Ext.at {n : Nat} {a : Addr} (e : Ext H r H' r') (h : r.l[n]? = some a) : r'.l[n]? = some a := by
  obtain ⟨l, rfl, hl⟩ := e.more
  show (r.l ++ l)[n]? = some a
  rw [List.getElem?_append_left (List.getElem?_eq_some_iff.mp h).1]
  exact h

mutual
theorem Rep.mono (e : Ext H r H' r') : ∀ {d : D} {v : V}, Rep K H r d v → Rep K H' r' d v
  | _, _, .non => .non
  | _, _, .bl b => .bl b
  | _, _, .int i => .int i
  | _, _, .str x => .str x
  | _, _, .tup h hs => .tup (e.rdT h) (Reps.mono e hs)
  | _, _, .lst h hn hp hs => .lst (e.keep _ _ h hn) (e.notin (ne_of_some h) hn) (by rw [e.prv]; exact hp) (Reps.mono e hs)
  | _, _, .fro h hs => .fro (e.fl h) (Reps.mono e hs)
  | _, _, .loc h => .loc (e.at h)
theorem Reps.mono (e : Ext H r H' r') : ∀ {ds : List D} {vs : List V}, Reps K H r ds vs → Reps K H' r' ds vs
  | _, _, .nil => .nil
  | _, _, .cons h hs => .cons (Rep.mono e h) (Reps.mono e hs)
end
theorem RepF.mono {κ : Type} (e : Ext H r H' r') : ∀ {ds : List (κ × D)} {vs : List (κ × V)}, RepF K H r ds vs → RepF K H' r' ds vs
  | _, _, .nil => .nil
  | _, _, .cons h hs => .cons (h.mono e) (RepF.mono e hs)

theorem Reps.length : ∀ {ds : List D} {vs : List V}, Reps K H r ds vs → ds.length = vs.length
  | _, _, .nil => rfl
  | _, _, .cons _ hs => congrArg (· + 1) (Reps.length hs)
theorem Reps.get : ∀ {ds : List D} {vs : List V} {i : Nat} {d : D}, Reps K H r ds vs → ds[i]? = some d → ∃ v, vs[i]? = some v ∧ Rep K H r d v
  | _, _, _, _, .nil, e => by simp at e
  | _, _, 0, _, .cons h _, e => by simp at e; subst e; exact ⟨_, rfl, h⟩
  | _, _, i + 1, d, .cons _ hs, e => by
    obtain ⟨v, h1, h2⟩ := Reps.get (i := i) (d := d) hs (by simpa using e)
    exact ⟨v, by simpa using h1, h2⟩
theorem Reps.get' : ∀ {ds : List D} {vs : List V} {i : Nat} {v : V}, Reps K H r ds vs → vs[i]? = some v → ∃ d, ds[i]? = some d ∧ Rep K H r d v
  | _, _, _, _, .nil, e => by simp at e
  | _, _, 0, _, .cons h _, e => by simp at e; subst e; exact ⟨_, rfl, h⟩
  | _, _, i + 1, v, .cons _ hs, e => by
    obtain ⟨d, h1, h2⟩ := Reps.get' (i := i) (v := v) hs (by simpa using e)
    exact ⟨d, by simpa using h1, h2⟩
theorem Reps.append : ∀ {ds es : List D} {vs us : List V}, Reps K H r ds vs → Reps K H r es us → Reps K H r (ds ++ es) (vs ++ us)
  | _, _, _, _, .nil, q => q
  | _, _, _, _, .cons h hs, q => .cons h (Reps.append hs q)
theorem Reps.take : ∀ {ds : List D} {vs : List V} (n : Nat), Reps K H r ds vs → Reps K H r (ds.take n) (vs.take n)
  | _, _, 0, _ => .nil
  | _, _, _ + 1, .nil => .nil
  | _, _, n + 1, .cons h hs => .cons h (Reps.take n hs)
theorem Reps.drop : ∀ {ds : List D} {vs : List V} (n : Nat), Reps K H r ds vs → Reps K H r (ds.drop n) (vs.drop n)
  | _, _, 0, h => h
  | _, _, _ + 1, .nil => .nil
  | _, _, n + 1, .cons _ hs => Reps.drop n hs
theorem Reps.set {d : D} {v : V} (q : Rep K H r d v) : ∀ {ds : List D} {vs : List V} (n : Nat), Reps K H r ds vs → Reps K H r (ds.set n d) (vs.set n v)
  | _, _, _, .nil => .nil
  | _, _, 0, .cons _ hs => .cons q hs
  | _, _, n + 1, .cons h hs => .cons h (Reps.set q n hs)
theorem Reps.rep {ds : List D} {vs : List V} (h : Reps K H r ds vs) : ∀ n : Nat, Reps K H r (List.replicate n ds).flatten (List.replicate n vs).flatten
  | 0 => .nil
  | n + 1 => by
    rw [List.replicate_succ, List.replicate_succ, List.flatten_cons, List.flatten_cons]
    exact h.append (Reps.rep h n)
theorem Reps.reverse {ds : List D} {vs : List V} (h : Reps K H r ds vs) : Reps K H r ds.reverse vs.reverse := by
  induction h using Reps.rec (motive_1 := fun _ _ _ => True) with
  | nil => exact .nil
  | cons h hs _ ih => rw [List.reverse_cons, List.reverse_cons]; exact ih.append (.cons h .nil)
  | _ => trivial
theorem Reps.dropLast : ∀ {ds : List D} {vs : List V}, Reps K H r ds vs → Reps K H r ds.dropLast vs.dropLast
  | _, _, .nil => .nil
  | _, _, .cons h .nil => .nil
  | _, _, .cons h (.cons h2 hs) => .cons h (Reps.dropLast (.cons h2 hs))

/-- slots -/
structure Slots (K : PySem.W.Frag) (H : Hp) (r : Rg) (sd : Sl) (s : St) : Prop where
  len : sd.length = s.length
  at_ : ∀ (i : Nat) (d : D), sd[i]? = some (some d) → ∃ v, s[i]? = some (some v) ∧ Rep K H r d v
theorem Slots.mono {sd : Sl} {s : St} (e : Ext H r H' r') (h : Slots K H r sd s) : Slots K H' r' sd s :=
  ⟨h.len, fun i d q => let ⟨v, h1, h2⟩ := h.at_ i d q; ⟨v, h1, h2.mono e⟩⟩
theorem Slots.set {sd : Sl} {s : St} {i : Nat} {d : D} {v : V} (h : Slots K H r sd s) (q : Rep K H r d v) : Slots K H r (sd.set i (some d)) (s.set i (some v)) := by
  refine ⟨by rw [List.length_set, List.length_set, h.len], fun j e he => ?_⟩
  by_cases hj : i = j
  · subst hj
    by_cases hl : i < sd.length
    · rw [List.getElem?_set_self hl] at he
      cases he
      exact ⟨v, by rw [List.getElem?_set_self (by rw [← h.len]; exact hl)], q⟩
    · rw [List.getElem?_eq_none (by simpa using hl)] at he
      cases he
  · rw [List.getElem?_set_ne hj] at he
    obtain ⟨u, h1, h2⟩ := h.at_ j e he
    exact ⟨u, by rw [List.getElem?_set_ne hj]; exact h1, h2⟩
theorem Slots.weak {sd sd' : Sl} {s s' : St} (h : Slots K H r sd s) (hl : sd'.length = s'.length) (w : ∀ (i : Nat) (d : D), sd'[i]? = some (some d) → sd[i]? = some (some d)) (w' : ∀ (i : Nat) (d : D), sd'[i]? = some (some d) → s'[i]? = s[i]?) : Slots K H r sd' s' :=
  ⟨hl, fun i d q => let ⟨v, h1, h2⟩ := h.at_ i d (w i d q); ⟨v, by rw [w' i d q]; exact h1, h2⟩⟩

/-! ### changes of the heap -/
theorem Ext.new {p : Addr} {o : HO} (hp : H p = none) : Ext H r (upd H p o) r := by
  have k : ∀ b u, H b = some u → upd H p o b = some u := fun b u h => by rw [upd_ne (ne_of_none h hp)]; exact h
  refine ⟨⟨[], by simp, by simp⟩, fun b u h _ => k b u h, fun b u h _ => k b u h, fun b h => ?_⟩
  cases e : H b with
  | none => exact absurd e h
  | some u => rw [k b u e]; simp
theorem Ext.newLoc {p : Addr} {o : HO} (hp : H p = none) : Ext H r (upd H p o) (r.add p) := by
  have k : ∀ b u, H b = some u → upd H p o b = some u := fun b u h => by rw [upd_ne (ne_of_none h hp)]; exact h
  refine ⟨⟨[p], rfl, by simpa using hp⟩, fun b u h _ => k b u h, fun b u h _ => k b u h, fun b h => ?_⟩
  cases e : H b with
  | none => exact absurd e h
  | some u => rw [k b u e]; simp
theorem Ext.write {p : Addr} {o u : HO} (hp : H p = some u) (hi : ¬ Imm u) (hm : p ∈ r.l) : Ext H r (upd H p o) r := by
  refine ⟨⟨[], by simp, by simp⟩, fun b x h hn => ?_, fun b x h hx => ?_, fun b h => ?_⟩
  · rw [upd_ne (show b ≠ p from fun e => hn (by rw [e]; exact hm))]; exact h
  · by_cases e : b = p
    · subst e; rw [hp] at h; cases h; exact absurd hx hi
    · rw [upd_ne e]; exact h
  · by_cases e : b = p
    · subst e; rw [upd_same]; simp
    · rw [upd_ne e]; exact h

theorem ORep.mono {o : MO} {a : Addr} (e : Ext H r H' r') (h : ORep K ca H r o a) (k : H' a = H a) : ORep K ca H' r' o a := by
  cases o with
  | lst ds => obtain ⟨vs, h1, h2⟩ := h; exact ⟨vs, by rw [k]; exact h1, h2.mono e⟩
  | ins c fs => obtain ⟨dx, gs, h1, h2⟩ := h; exact ⟨dx, gs, by rw [k]; exact h1, h2.mono e⟩
  | dic ds => obtain ⟨vs, h1, h2⟩ := h; exact ⟨vs, by rw [k]; exact h1, h2.mono e⟩
  | dit ds => obtain ⟨vs, h1, h2⟩ := h; exact ⟨vs, by rw [k]; exact h1, h2.mono e⟩
theorem ORep.some {o : MO} {a : Addr} (h : ORep K ca H r o a) : ∃ u, H a = some u ∧ ¬ Imm u := by
  cases o with
  | lst ds => obtain ⟨vs, h1, h2⟩ := h; exact ⟨_, h1, id⟩
  | ins c fs => obtain ⟨dx, gs, h1, h2⟩ := h; exact ⟨_, h1, id⟩
  | dic ds => obtain ⟨vs, h1, h2⟩ := h; exact ⟨_, h1, id⟩
  | dit ds => obtain ⟨vs, h1, h2⟩ := h; exact ⟨_, h1, id⟩
theorem Sim.tracked {S : Sto} (m : Sim K ca H r S) {a : Addr} (h : a ∈ r.l) : H a ≠ none := by
  obtain ⟨i, hi, e⟩ := List.getElem_of_mem h
  have hs : i < S.length := by rw [← m.len]; exact hi
  obtain ⟨b, h1, h2⟩ := m.obj i S[i] (List.getElem?_eq_getElem hs)
  rw [List.getElem?_eq_getElem hi, e] at h1
  cases h1
  obtain ⟨u, hu, _⟩ := h2.some
  rw [hu]; simp
/-- a new object that is no store's -/
theorem Sim.new {S : Sto} {p : Addr} {o : HO} (m : Sim K ca H r S) (hp : H p = none) : Sim K ca (upd H p o) r S :=
  ⟨m.len, m.nd, fun n u h => let ⟨a, h1, h2⟩ := m.obj n u h; ⟨a, h1, h2.mono (Ext.new hp) (upd_ne fun e => m.tracked (e ▸ List.mem_of_getElem? h1) hp)⟩, fun a ha => (Ext.new (r := r) hp).there a (m.prv a ha)⟩
theorem Sim.newLoc {S : Sto} {p : Addr} {o : HO} {q : MO} (m : Sim K ca H r S) (hp : H p = none) (hq : ORep K ca (upd H p o) (r.add p) q p) : Sim K ca (upd H p o) (r.add p) (S ++ [q]) := by
  have hn : p ∉ r.l := fun h => m.tracked h hp
  refine ⟨by simp [Rg.add, m.len], List.nodup_append.mpr ⟨m.nd, by simp, fun a ha b hb => by simp at hb; subst hb; exact fun e => hn (e ▸ ha)⟩, fun n u h => ?_, fun a ha => (Ext.new (r := r) hp).there a (m.prv a ha)⟩
  by_cases hl : n < S.length
  · rw [List.getElem?_append_left hl] at h
    obtain ⟨a, h1, h2⟩ := m.obj n u h
    exact ⟨a, (Ext.newLoc (o := o) hp).at h1, h2.mono (Ext.newLoc hp) (upd_ne fun e => hn (e ▸ List.mem_of_getElem? h1))⟩
  · rw [List.getElem?_append_right (by omega)] at h
    have hz : n - S.length = 0 := by
      have := (List.getElem?_eq_some_iff.mp h).1
      simp at this; omega
    rw [hz] at h
    simp at h
    subst h
    refine ⟨p, ?_, hq⟩
    show (r.l ++ [p])[n]? = some p
    rw [List.getElem?_append_right (by rw [m.len]; omega), m.len, hz]; rfl
/-- the object n is changed -/
theorem Sim.write {S : Sto} {p : Addr} {o : HO} {q : MO} {n : Nat} (m : Sim K ca H r S) (hn : r.l[n]? = some p) (hq : ORep K ca (upd H p o) r q p) : Sim K ca (upd H p o) r (S.set n q) := by
  have hl : n < r.l.length := (List.getElem?_eq_some_iff.mp hn).1
  have hls : n < S.length := by rw [← m.len]; exact hl
  obtain ⟨a0, h0, ho⟩ := m.obj n S[n] (List.getElem?_eq_getElem hls)
  rw [hn] at h0; cases h0
  obtain ⟨u0, hu0, hi0⟩ := ho.some
  have ex : Ext H r (upd H p o) r := Ext.write hu0 hi0 (List.mem_of_getElem? hn)
  refine ⟨by simp [m.len], m.nd, fun j u h => ?_, fun a ha => ex.there a (m.prv a ha)⟩
  by_cases hj : n = j
  · subst hj
    rw [List.getElem?_set_self hls] at h
    cases h
    exact ⟨p, hn, hq⟩
  · rw [List.getElem?_set_ne hj] at h
    obtain ⟨a, h1, h2⟩ := m.obj j u h
    refine ⟨a, h1, h2.mono ex (upd_ne fun e => hj ?_)⟩
    subst e
    obtain ⟨l1, e1⟩ := List.getElem?_eq_some_iff.mp hn
    obtain ⟨l2, e2⟩ := List.getElem?_eq_some_iff.mp h1
    exact (List.getElem_inj m.nd).mp (e1.trans e2.symm)
theorem Sim.writeExt {S : Sto} {p : Addr} {o : HO} {n : Nat} (m : Sim K ca H r S) (hn : r.l[n]? = some p) : Ext H r (upd H p o) r := by
  have hl : n < r.l.length := (List.getElem?_eq_some_iff.mp hn).1
  have hls : n < S.length := by rw [← m.len]; exact hl
  obtain ⟨a0, h0, ho⟩ := m.obj n S[n] (List.getElem?_eq_getElem hls)
  rw [hn] at h0; cases h0
  obtain ⟨u0, hu0, hi0⟩ := ho.some
  exact Ext.write hu0 hi0 (List.mem_of_getElem? hn)
theorem Sim.loc {S : Sto} {n : Nat} {o : MO} {v : V} (m : Sim K ca H r S) (h : Rep K H r (.loc n) v) (e : S[n]? = some o) : ∃ a, v = .ref a ∧ r.l[n]? = some a ∧ ORep K ca H r o a := by
  cases h with
  | loc hr =>
    obtain ⟨b, h1, h2⟩ := m.obj n o e
    rw [hr] at h1; cases h1
    exact ⟨_, rfl, hr, h2⟩
end
end Z

/-! Z layer, part B: landings; the operators on plain data and what HandS's rules ask for them. -/
namespace Z
open PySem PySem.Spec PyProof.Rows L2

def XRep (K : PySem.W.Frag) (ca : Nat → Addr) (H : Hp) (r : Rg) (c : Nat) (fs : XF) (cls : Value) (d : Option Addr) : Prop :=
  cls = .ref (ca c) ∧ match fs with
    | none => d = none
    | some gs => ∃ dd vs, d = some dd ∧ H dd = some (.xd vs) ∧ RepF K H r gs vs

abbrev RR (T A : Type) := Hp → Rg → T → A → Prop

section
variable (K : PySem.W.Frag) (ca : Nat → Addr)
def Ln {T A : Type} (R : RR T A) (H : Hp) (r : Rg) (o : Out T) (Q : A → Hp → Prop) (W : XK) : Prop := match o with
  | .ok d S => ∀ v H' r', Ext H r H' r' → Sim K ca H' r' S → R H' r' d v → Q v H'
  | .exc c fs S => ∀ cls d H' r', Ext H r H' r' → Sim K ca H' r' S → XRep K ca H' r' c fs cls d → W cls d H'
  | .bad => False
abbrev rV : RR D V := fun H r => Rep K H r
abbrev rB : RR Bool Bool := fun _ _ a b => a = b
abbrev rL : RR (List D) (List V) := fun H r => Reps K H r

def rE (W : WX) (m : Sl → Sto → Out D) : TE := fun s H Q => ∃ sd r S, Slots K H r sd s ∧ Sim K ca H r S ∧ Ln K ca (rV K) H r (m sd S) Q (fun c d H' => W c d s H')
def rT (W : WX) (m : Sl → Sto → Out Bool) : TT := fun s H Q => ∃ sd r S, Slots K H r sd s ∧ Sim K ca H r S ∧ Ln K ca rB H r (m sd S) Q (fun c d H' => W c d s H')
def rA (W : WX) (m : Sl → Sto → Out (List D)) : TA := fun s H Q => ∃ sd r S, Slots K H r sd s ∧ Sim K ca H r S ∧ Ln K ca (rL K) H r (m sd S) Q (fun c d H' => W c d s H')
end

section
variable {K : PySem.W.Frag} {ca : Nat → Addr} {H H1 : Hp} {r r1 : Rg}
theorem Ln.ext {T A : Type} {R : RR T A} {o : Out T} {Q : A → Hp → Prop} {W : XK} (e : Ext H r H1 r1) (h : Ln K ca R H r o Q W) : Ln K ca R H1 r1 o Q W := by
  cases o with
  | ok d S => exact fun v H' r' x => h v H' r' (e.trans x)
  | exc c fs S => exact fun cls d H' r' x => h cls d H' r' (e.trans x)
  | bad => exact h
theorem Ln.bind {T U A B : Type} {R : RR T A} {R' : RR U B} {o : Out T} {f : T → Sto → Out U} {Q : B → Hp → Prop} {Q1 : A → Hp → Prop} {W : XK} (h : Ln K ca R' H r (o.bind f) Q W)
    (k : ∀ d S v H1 r1, Ext H r H1 r1 → Sim K ca H1 r1 S → R H1 r1 d v → Ln K ca R' H1 r1 (f d S) Q W → Q1 v H1) : Ln K ca R H r o Q1 W := by
  cases o with
  | ok d S => exact fun v H' r' x m q => k d S v H' r' x m q (Ln.ext x h)
  | exc c fs S => exact h
  | bad => exact h
theorem Ln.ok {T A : Type} {R : RR T A} {d : T} {S : Sto} {v : A} {Q : A → Hp → Prop} {W : XK} (h : Ln K ca R H r (.ok d S) Q W) (m : Sim K ca H r S) (q : R H r d v) : Q v H := h v H r (Ext.refl H r) m q
end

def lift {T : Type} (o : Option T) (S : Sto) : Out T := match o with
  | some d => .ok d S
  | none => .bad
theorem lift_ln {K : PySem.W.Frag} {ca : Nat → Addr} {H : Hp} {r : Rg} {T A : Type} {R : RR T A} {o : Option T} {S : Sto} {Q : A → Hp → Prop} {W : XK} (h : Ln K ca R H r (lift o S) Q W) :
    ∃ d, o = some d ∧ ∀ v H' r', Ext H r H' r' → Sim K ca H' r' S → R H' r' d v → Q v H' := by
  cases o with
  | none => exact h.elim
  | some d => exact ⟨d, rfl, h⟩

/-! ### what a datum is -/
def asL (S : Sto) : D → Option (List D)
  | .lst xs => some xs
  | .loc n => match S[n]? with
    | some (.lst xs) => some xs
    | _ => none
  | _ => none
def asQ (S : Sto) : D → Option (List D)
  | .tup xs => some xs
  | .fro xs => some xs
  | d => asL S d
def asLF (S : Sto) : D → Option (List D)
  | .fro xs => some xs
  | d => asL S d

section
variable {K : PySem.W.Frag} {ca : Nat → Addr} {H : Hp} {r : Rg} {S : Sto}
theorem asL_rep {x : D} {v : V} {ds : List D} (m : Sim K ca H r S) (hx : Rep K H r x v) (e : asL S x = some ds) : ∃ a vs, v = .ref a ∧ H a = some (.lst vs) ∧ Reps K H r ds vs := by
  cases hx with
  | lst h hn hp hs => cases e; exact ⟨_, _, rfl, h, hs⟩
  | @loc n a h =>
    simp only [asL] at e
    split at e
    · rename_i xs he
      cases e
      obtain ⟨b, h1, h2⟩ := m.obj n _ he
      rw [h] at h1; cases h1
      obtain ⟨vs, h3, h4⟩ := h2
      exact ⟨_, vs, rfl, h3, h4⟩
    · cases e
  | _ => simp [asL] at e
theorem asLF_rep {x : D} {v : V} {ds : List D} (m : Sim K ca H r S) (hx : Rep K H r x v) (e : asLF S x = some ds) : ∃ a vs, v = .ref a ∧ SqL K H a vs ∧ Reps K H r ds vs := by
  cases hx with
  | fro h hs => cases e; exact ⟨_, _, rfl, h.sq, hs⟩
  | lst h hn hp hs => cases e; exact ⟨_, _, rfl, .of h, hs⟩
  | loc h =>
    obtain ⟨a, vs, h1, h2, h3⟩ := asL_rep m (.loc h) (show asL S _ = some ds from e)
    exact ⟨a, vs, h1, .of h2, h3⟩
  | _ => simp [asLF, asL] at e
theorem asQ_rep {x : D} {v : V} {ds : List D} (m : Sim K ca H r S) (hx : Rep K H r x v) (e : asQ S x = some ds) : ∃ a vs, v = .ref a ∧ (SqL K H a vs ∨ SqT K H a vs) ∧ Reps K H r ds vs := by
  cases hx with
  | tup h hs => cases e; exact ⟨_, _, rfl, .inr h, hs⟩
  | fro h hs => cases e; exact ⟨_, _, rfl, .inl h.sq, hs⟩
  | lst h hn hp hs => cases e; exact ⟨_, _, rfl, .inl (.of h), hs⟩
  | loc h =>
    obtain ⟨a, vs, h1, h2, h3⟩ := asL_rep m (.loc h) (show asL S _ = some ds from e)
    exact ⟨a, vs, h1, .inl (.of h2), h3⟩
  | _ => simp [asQ, asL] at e
theorem newTup {p : Addr} {ds : List D} {vs : List V} (hp : H p = none) (hs : Reps K H r ds vs) : Rep K (upd H p (.tup vs)) r (.tup ds) (.ref p) := .tup (.of upd_same) (hs.mono (Ext.new hp))
theorem newLst {p : Addr} {ds : List D} {vs : List V} (m : Sim K ca H r S) (hp : H p = none) (hs : Reps K H r ds vs) : Rep K (upd H p (.lst vs)) r (.lst ds) (.ref p) :=
  .lst upd_same (fun h => m.tracked h hp) (fun h => m.prv _ h hp) (hs.mono (Ext.new hp))
theorem Reps.nil_iff {ds : List D} {vs : List V} (h : Reps K H r ds vs) : vs = [] ↔ ds = [] := by cases h <;> simp
theorem Reps.nil_of {vs : List V} (h : Reps K H r [] vs) : vs = [] := by cases h; rfl
end

/-- a rule by values, of two data -/
def OpZ (K : PySem.W.Frag) (ca : Nat → Addr) (R : R2) (f : Sto → D → D → Option D) : Prop :=
  ∀ {H : Hp} {r : Rg} {S : Sto} {x y : D} {vx vy : V} {d : D} {Q : VK}, Sim K ca H r S → Rep K H r x vx → Rep K H r y vy → f S x y = some d →
    (∀ v H', Ext H r H' r → Sim K ca H' r S → Rep K H' r d v → Q v H') → R vx vy H Q
/-- .. of a list of arguments -/
def CallZ (K : PySem.W.Frag) (ca : Nat → Addr) (R : List V → Hp → VK → Prop) (f : Sto → List D → Option D) : Prop :=
  ∀ {H : Hp} {r : Rg} {S : Sto} {xs : List D} {vs : List V} {d : D} {Q : VK}, Sim K ca H r S → Reps K H r xs vs → f S xs = some d →
    (∀ v H', Ext H r H' r → Sim K ca H' r S → Rep K H' r d v → Q v H') → R vs H Q

def rOr (a b : R2) : R2 := fun x y H Q => a x y H Q ∨ b x y H Q

/-! ### + -/
def addP (S : Sto) (x y : D) : Option D := match x, y with
  | .int i, .int j => some (.int (i + j))
  | .str a, .str b => if a.length + b.length ≤ 16777216 then some (.str (a ++ b)) else none
  | .tup xs, .tup ys => if xs.length + ys.length ≤ 16777216 then some (.tup (xs ++ ys)) else none
  | x, y => match asL S x, asL S y with
    | some xs, some ys => if xs.length + ys.length ≤ 16777216 then some (.lst (xs ++ ys)) else none
    | _, _ => none
def rStrCat : R2 := fun x y H Q => ∃ i j, x = .str i ∧ y = .str j ∧ i.length + j.length ≤ sizeLine ∧ Q (.str (i ++ j)) H
def rAddI : R2 := rI0 fun i j => .int (i + j)
def rAdd (K : PySem.W.Frag) : R2 := rOr rAddI (rOr rStrCat (rOr (rCatA K) rCat))
theorem or_add {X : Cx} : OpR X (binaryOp .Add) (rAdd X.K) := op_add.or (op_add_str.or (op_catA.or op_cat))
section
variable {K : PySem.W.Frag} {ca : Nat → Addr}
theorem oz_add : OpZ K ca (rAdd K) addP := by
  intro H r S x y vx vy d Q m hx hy e q
  unfold addP at e
  split at e
  · cases hx; cases hy; cases e
    exact .inl ⟨_, _, rfl, rfl, q _ _ (Ext.refl ..) m (.int _)⟩
  · cases hx; cases hy
    split at e
    · cases e
      exact .inr (.inl ⟨_, _, rfl, rfl, by rw [sizeLine_eq]; assumption, q _ _ (Ext.refl ..) m (.str _)⟩)
    · cases e
  · cases hx with
    | tup h1 s1 =>
      cases hy with
      | tup h2 s2 =>
        split at e
        · rename_i hl
          cases e
          refine .inr (.inr (.inl ⟨_, _, _, _, rfl, rfl, h1, h2, by rw [sizeLine_eq, ← s1.length, ← s2.length]; exact hl, fun z => ?_, fun z z2 => ?_, fun z z2 p hp => ?_⟩))
          · have := s1.nil_iff.mp z; subst this
            exact q _ _ (Ext.refl ..) m (.tup h2 s2)
          · have := s2.nil_iff.mp z2; subst this
            rw [List.append_nil] at q
            exact q _ _ (Ext.refl ..) m (.tup h1 s1)
          · exact q _ _ (Ext.new hp) (m.new hp) (newTup hp (s1.append s2))
        · cases e
  · split at e
    · rename_i xs ys e1 e2
      split at e
      · rename_i hl
        cases e
        obtain ⟨a, vs, rfl, h1, s1⟩ := asL_rep m hx e1
        obtain ⟨b, us, rfl, h2, s2⟩ := asL_rep m hy e2
        exact .inr (.inr (.inr ⟨_, _, _, _, rfl, rfl, h1, h2, by rw [sizeLine_eq, ← s1.length, ← s2.length]; exact hl, fun p hp => q _ _ (Ext.new hp) (m.new hp) (newLst m hp (s1.append s2))⟩))
      · cases e
    · cases e

/-! ### -, //, %, ** of ints -/
def intP (f : Int → Int → Option Int) (_ : Sto) (x y : D) : Option D := match x, y with
  | .int i, .int j => (f i j).map .int
  | _, _ => none
theorem oz_int {C : Int → Int → Prop} {g : Int → Int → Int} {f : Int → Int → Option Int} (h : ∀ i j k, f i j = some k → C i j ∧ g i j = k) : OpZ K ca (rI C fun i j => .int (g i j)) (intP f) := by
  intro H r S x y vx vy d Q m hx hy e q
  unfold intP at e
  split at e
  · rename_i i j
    cases hx; cases hy
    cases e2 : f i j with
    | none => rw [e2] at e; cases e
    | some k =>
      rw [e2] at e
      cases e
      obtain ⟨hc, rfl⟩ := h i j k e2
      exact ⟨_, _, rfl, rfl, hc, q _ _ (Ext.refl ..) m (.int _)⟩
  · cases e
def subI (i j : Int) : Option Int := some (i - j)
def rSubI : R2 := rI (fun _ _ => True) fun i j => .int (i - j)
theorem or_sub {X : Cx} : OpR X (binaryOp .Sub) rSubI := fun pins s σ H x y v u Q I rx ry ⟨i, j, e1, e2, _, q⟩ => op_sub pins s σ H x y v u Q I rx ry ⟨i, j, e1, e2, q⟩
theorem oz_sub : OpZ K ca rSubI (intP subI) := oz_int fun i j k e => ⟨trivial, Option.some.inj e⟩
def fdivI (i j : Int) : Option Int := if 0 < j ∧ j < 1073741824 then some (i / j) else none
theorem oz_fdiv : OpZ K ca (rI CDiv fun i j => .int (i / j)) (intP fdivI) := oz_int fun i j k e => by
  unfold fdivI at e; split at e
  · rename_i h; exact ⟨h, Option.some.inj e⟩
  · cases e
def modI (i j : Int) : Option Int := if 0 < j then some (i % j) else none
theorem oz_mod : OpZ K ca (rI (fun _ j => 0 < j) fun i j => .int (i % j)) (intP modI) := oz_int fun i j k e => by
  unfold modI at e; split at e
  · rename_i h; exact ⟨h, Option.some.inj e⟩
  · cases e
def powI (i j : Int) : Option Int := if 0 ≤ j ∧ j ≤ 1000000 ∧ i.natAbs < 18446744073709551616 then some (i ^ j.toNat) else none
theorem oz_pow : OpZ K ca (rI CPow fun i j => .int (i ^ j.toNat)) (intP powI) := oz_int fun i j k e => by
  unfold powI at e; split at e
  · rename_i h; exact ⟨⟨h.1, h.2.1, by have := h.2.2; simpa using this⟩, Option.some.inj e⟩
  · cases e
end
end Z

/-! Z layer: tuple * n where n is below 2, or the tuple is empty. -/
namespace Z
open PySem PySem.Spec PyProof.Rows L2
theorem tup_rep_same (l : Addr) (items : Array Value) (n : Nat) (dd : Option Addr) (sl : Array (Option Value)) (x : Int) (u : Tok) (c0 : (decide (x < -(2 ^ 63)) || decide (x ≥ 2 ^ 63)) = false) (c1 : (items.isEmpty || x == 1) = true) :
    Meets (Builtin.«tuple.__mul__» ⟨[.ref l, .int x u], []⟩) (fun _ R s => s.heap.get? l = some { cls := .type "tuple", dict := dd, data := .seq items n, slots := sl } ∧ R (.ok (.ret (Value.ref l))) s) :=
  .of_wp fun prog w A R s h => by
    obtain ⟨hp, g, d, tk, os⟩ := s
    obtain ⟨hl, h⟩ := h
    have f1 := AutoSeq1.idx_int
    wp_walk using wpAny_loadPart' hl
    repeat (first
      | (refine wpAny_ite_false (decide_eq_false (by rw [c0]; exact Bool.false_ne_true)) ?_; wp_walk using wpAny_loadPart' hl)
      | (refine wpAny_ite_true (decide_eq_true c1) ?_; wp_walk using wpAny_loadPart' hl))
    exact ⟨_, rfl, h⟩
theorem tup_rep_none (l : Addr) (items : Array Value) (n : Nat) (dd : Option Addr) (sl : Array (Option Value)) (x : Int) (u : Tok) (c0 : (decide (x < -(2 ^ 63)) || decide (x ≥ 2 ^ 63)) = false) (c1 : (items.isEmpty || x == 1) = false) (c2 : (decide (x ≤ 0) || items.isEmpty) = true) :
    Meets (Builtin.«tuple.__mul__» ⟨[.ref l, .int x u], []⟩) (fun _ R s => s.heap.get? l = some { cls := .type "tuple", dict := dd, data := .seq items n, slots := sl } ∧
      R (.ok (.ret (Value.ref s.heap.objs.size))) { s with heap := s.heap.push { cls := Value.type "tuple", data := Data.seq #[] }, toks := s.toks }) :=
  .of_wp fun prog w A R s h => by
    obtain ⟨hp, g, d, tk, os⟩ := s
    obtain ⟨hl, h⟩ := h
    have f1 := AutoSeq1.idx_int
    wp_walk using wpAny_loadPart' hl
    repeat (first
      | (refine wpAny_ite_false (decide_eq_false (by rw [c0]; exact Bool.false_ne_true)) ?_; wp_walk using wpAny_loadPart' hl)
      | (refine wpAny_ite_false (decide_eq_false (by rw [c1]; exact Bool.false_ne_true)) ?_; wp_walk using wpAny_loadPart' hl)
      | (refine wpAny_ite_true (decide_eq_true c2) ?_; wp_walk using wpAny_loadPart' hl))
    exact ⟨_, rfl, h⟩
def rRepS (K : PySem.W.Frag) : R2 := fun x y H Q => ∃ l k xs, x = .ref l ∧ y = .int k ∧ SqT K H l xs ∧ -(2 ^ 63) ≤ k ∧ k < 2 ^ 63 ∧
  (((xs = [] ∨ k = 1) ∧ Q (.ref l) H) ∨ (xs ≠ [] ∧ k ≤ 0 ∧ ∀ p, H p = none → Q (.ref p) (upd H p (.tup []))))
section
variable {X : Cx}
theorem op_repS : OpR X (binaryOp .Mult) (rRepS X.K) := by
  intro pins s σ H x y v u Q I rx ry h
  obtain ⟨l, k, xs, rfl, rfl, hT, h1, h2, h⟩ := h
  cases rx
  obtain ⟨t, rfl⟩ := ry
  obtain ⟨its, r, ⟨⟨cls, dd, data, sl⟩, ho, hc, n, hd⟩, hs⟩ := I.tuple hT
  simp only at hc hd
  subst hc hd
  have c0 : (decide (k < -(2 ^ 63)) || decide (k ≥ 2 ^ 63)) = false := by
    rw [decide_eq_false (by omega), decide_eq_false (by omega)] <;> rfl
  have he : its.toArray.isEmpty = xs.isEmpty := by cases r <;> simp
  refine wpAny_binaryOp_repeat_ref (T := "tuple") (U := "int") (by decide) ⟨_, ho, rfl⟩ (fun s' => typeIs_int s' k t) noFill_tuple_mul F.fills_int_mul F.slot_int_rmul repeat_tuple F.slot_int_index.lookup
    (call_meets F.slot_int_rmul (typeIs_int s k t) F.entry_int_rmul (F.args_int_rmul_2 _ _) (int_rmul_tuple k t l its.toArray n dd sl)
      ⟨ho, rfl, ⟨_, ho, rfl⟩, ?_⟩)
  rcases h with ⟨hk, q⟩ | ⟨hne, hk, q⟩
  · have c1 : (its.toArray.isEmpty || k == 1) = true := by
      rw [he]
      rcases hk with rfl | rfl <;> simp
    exact call_meets F.slot_tuple_mul ⟨_, ho, rfl⟩ F.entry_tuple_mul (F.args_tuple_mul_2 _ _) (tup_rep_same l its.toArray n dd sl k t c0 c1) ⟨ho, .ref l, H, I, rfl, q⟩
  · have e1 : xs.isEmpty = false := by cases xs <;> simp at hne ⊢
    have c1 : (its.toArray.isEmpty || k == 1) = false := by
      rw [he, e1, Bool.false_or]
      exact beq_eq_false_iff_ne.mpr (by omega)
    have c2 : (decide (k ≤ 0) || its.toArray.isEmpty) = true := by rw [decide_eq_true hk]; rfl
    exact call_meets F.slot_tuple_mul ⟨_, ho, rfl⟩ F.entry_tuple_mul (F.args_tuple_mul_2 _ _) (tup_rep_none l its.toArray n dd sl k t c0 c1 c2)
      ⟨ho, .ref s.heap.objs.size, _, I.laid (t' := s.toks) (o := .tup []) (fun b ob q => Heap.get?_push_of_some _ q) (Nat.le_refl _) ⟨Nat.zero_le _, _, .nil, IsTup.new _ _⟩, rfl, q _ (I.hok.fresh (Nat.le_refl _))⟩
end
end Z

/-! Z layer, part C: products, comparisons, in, subscripts, slices, truth, isinstance, built-ins. -/
namespace Z
open PySem PySem.Spec PyProof.Rows L2

/-! ### products -/
def mulI (i j : Int) : Option Int := if (-18446744073709551616 < i ∧ i < 18446744073709551616) ∨ (-18446744073709551616 < j ∧ j < 18446744073709551616) then some (i * j) else if i.natAbs.log2 + j.natAbs.log2 < 1000000 then some (i * j) else none
def mulP (S : Sto) (x y : D) : Option D := match x, y with
  | .int i, .int j => (mulI i j).map .int
  | .tup xs, .int k => if k ≤ 1000 ∧ -1000000 ≤ k ∧ xs.length ≤ 1000 then some (.tup (List.replicate k.toNat xs).flatten) else none
  | x, .int k => match asL S x with
    | some xs => if -9223372036854775808 ≤ k ∧ k < 9223372036854775808 ∧ xs.length * k.toNat ≤ 16777216 then some (.lst (List.replicate k.toNat xs).flatten) else none
    | none => none
  | _, _ => none
def rMulI : R2 := rOr (rI CMul fun i j => .int (i * j)) (rI CMulW fun i j => .int (i * j))
def rMulA (K : PySem.W.Frag) : R2 := rOr rMulI (rOr (rRepT K) (rOr (rRepS K) rRep))
theorem or_mul {X : Cx} : OpR X (binaryOp .Mult) (rMulA X.K) := (op_mul.or op_mulW).or (op_repT.or (op_repS.or op_rep))
section
variable {K : PySem.W.Frag} {ca : Nat → Addr}
theorem rep_one {α : Type} (xs : List α) : (List.replicate (1 : Int).toNat xs).flatten = xs := by show [xs].flatten = xs; simp
theorem rep_nil {α : Type} (n : Nat) : (List.replicate n ([] : List α)).flatten = [] := by induction n <;> simp [List.replicate_succ, *]
theorem oz_mulI {H : Hp} {r : Rg} {S : Sto} {i j : Int} {d : D} {Q : VK} (m : Sim K ca H r S) (e : (mulI i j).map D.int = some d) (q : ∀ v H', Ext H r H' r → Sim K ca H' r S → Rep K H' r d v → Q v H') : rMulI (.int i) (.int j) H Q := by
  unfold mulI at e
  split at e
  · rename_i hc; cases e; exact .inl ⟨_, _, rfl, rfl, by unfold CMul; simpa using hc, q _ _ (Ext.refl ..) m (.int _)⟩
  · split at e
    · rename_i hc; cases e; exact .inr ⟨_, _, rfl, rfl, hc, q _ _ (Ext.refl ..) m (.int _)⟩
    · cases e
theorem oz_mul : OpZ K ca (rMulA K) mulP := by
  intro H r S x y vx vy d Q m hx hy e q
  unfold mulP at e
  split at e
  · cases hx; cases hy
    exact .inl (oz_mulI m e q)
  · rename_i xs k
    cases hx with
    | @tup a vs _ h1 s1 =>
    cases hy
    split at e
    · rename_i hc
      cases e
      by_cases h0 : xs = [] ∨ k = 1
      · refine .inr (.inr (.inl ⟨_, _, _, rfl, rfl, h1, by omega, by omega, .inl ⟨?_, ?_⟩⟩))
        · rcases h0 with z | z
          · exact .inl (s1.nil_iff.mpr z)
          · exact .inr z
        · have e0 : (List.replicate k.toNat xs).flatten = xs := by
            rcases h0 with z | z
            · subst z; exact rep_nil _
            · subst z; exact rep_one _
          rw [e0] at q
          exact q _ _ (Ext.refl ..) m (.tup h1 s1)
      · have h0 : xs ≠ [] ∧ k ≠ 1 := ⟨fun z => h0 (.inl z), fun z => h0 (.inr z)⟩
        by_cases hk : k ≤ 0
        · refine .inr (.inr (.inl ⟨_, _, _, rfl, rfl, h1, by omega, by omega, .inr ⟨fun z => h0.1 (s1.nil_iff.mp z), hk, fun p hp => ?_⟩⟩))
          have e0 : (List.replicate k.toNat xs).flatten = [] := by rw [show k.toNat = 0 by omega]; rfl
          rw [e0] at q
          exact q _ _ (Ext.new hp) (m.new hp) (newTup hp .nil)
        · refine .inr (.inl ⟨_, _, _, rfl, rfl, h1, fun z => h0.1 (s1.nil_iff.mp z), by omega, by omega, by rw [← s1.length]; omega, fun p hp => ?_⟩)
          exact q _ _ (Ext.new hp) (m.new hp) (newTup hp (s1.rep _))
    · cases e
  · split at e
    · rename_i xs e1
      obtain ⟨a, vs, rfl, h1, s1⟩ := asL_rep m hx e1
      cases hy
      split at e
      · rename_i hc
        cases e
        exact .inr (.inr (.inr ⟨_, _, _, rfl, rfl, h1, by omega, by omega, by rw [sizeLine_eq, ← s1.length]; omega, fun p hp => q _ _ (Ext.new hp) (m.new hp) (newLst m hp (s1.rep _))⟩))
      · cases e
    · cases e
  · cases e

/-! ### order of ints -/
def cmpI (f : Int → Int → Bool) (_ : Sto) (x y : D) : Option D := match x, y with
  | .int i, .int j => some (.bl (f i j))
  | _, _ => none
theorem oz_cmp {g : Int → Int → Bool} : OpZ K ca (rI0 fun i j => .bl (g i j)) (cmpI g) := by
  intro H r S x y vx vy d Q m hx hy e q
  unfold cmpI at e
  split at e
  · cases hx; cases hy; cases e
    exact ⟨_, _, rfl, rfl, q _ _ (Ext.refl ..) m (.bl _)⟩
  · cases e

/-! ### is None -/
def isNP (neg : Bool) (_ : Sto) (x y : D) : Option D := match y with
  | .non => some (.bl (match x with | .non => !neg | _ => neg))
  | _ => none
theorem oz_isN : OpZ K ca (fun x y H Q => y = .non ∧ Q (.bl (decide (x = .non))) H) (isNP false) := by
  intro H r S x y vx vy d Q m hx hy e q
  unfold isNP at e
  split at e
  · cases hy; cases e
    refine ⟨rfl, q _ _ (Ext.refl ..) m ?_⟩
    cases hx <;> exact .bl _
  · cases e
theorem oz_notN : OpZ K ca (fun x y H Q => y = .non ∧ Q (.bl (!decide (x = .non))) H) (isNP true) := by
  intro H r S x y vx vy d Q m hx hy e q
  unfold isNP at e
  split at e
  · cases hy; cases e
    refine ⟨rfl, q _ _ (Ext.refl ..) m ?_⟩
    cases hx <;> exact .bl _
  · cases e
end

/-! ### data -/
mutual
def toP0 : D → Option PyData
  | .non => some .none
  | .bl b => some (.bool b)
  | .int i => some (.int i)
  | .str x => some (.str x)
  | .tup xs => (toPs0 xs).map .tuple
  | .lst xs => (toPs0 xs).map .list
  | .fro xs => (toPs0 xs).map .list
  | .loc _ => none
def toPs0 : List D → Option (List PyData)
  | [] => some []
  | d :: ds => match toP0 d, toPs0 ds with
    | some p, some ps => some (p :: ps)
    | _, _ => none
end
def toP (S : Sto) (d : D) : Option PyData := match d with
  | .loc n => match S[n]? with
    | some (.lst ds) => (toPs0 ds).map .list
    | _ => none
  | d => toP0 d
section
variable {K : PySem.W.Frag} {ca : Nat → Addr} {H : Hp} {r : Rg} {S : Sto}
mutual
theorem toP0_dp : ∀ {d : D} {v : V} {p : PyData}, Rep K H r d v → toP0 d = some p → Dp K H v p
  | _, _, _, .non, e => by simp only [toP0] at e; cases e; exact .non
  | _, _, _, .bl b, e => by simp only [toP0] at e; cases e; exact .bl b
  | _, _, _, .int i, e => by simp only [toP0] at e; cases e; exact .int i
  | _, _, _, .str x, e => by simp only [toP0] at e; cases e; exact .str x
  | _, _, _, .tup h hs, e => by
    simp only [toP0, Option.map_eq_some_iff] at e
    obtain ⟨ps, e1, rfl⟩ := e
    exact .tup h (toPs0_dp hs e1)
  | _, _, _, .lst h _ _ hs, e => by
    simp only [toP0, Option.map_eq_some_iff] at e
    obtain ⟨ps, e1, rfl⟩ := e
    exact .lst (.of h) (toPs0_dp hs e1)
  | _, _, _, .fro h hs, e => by
    simp only [toP0, Option.map_eq_some_iff] at e
    obtain ⟨ps, e1, rfl⟩ := e
    exact .lst h.sq (toPs0_dp hs e1)
  | _, _, _, .loc _, e => by simp only [toP0] at e; cases e
theorem toPs0_dp : ∀ {ds : List D} {vs : List V} {ps : List PyData}, Reps K H r ds vs → toPs0 ds = some ps → DpAll K H vs ps
  | _, _, _, .nil, e => by simp only [toPs0] at e; cases e; exact .nil
  | _, _, _, .cons h hs, e => by
    simp only [toPs0] at e
    split at e
    · rename_i p ps e1 e2
      cases e
      exact .cons (toP0_dp h e1) (toPs0_dp hs e2)
    · cases e
end
theorem toP_dp {d : D} {v : V} {p : PyData} (m : Sim K ca H r S) (h : Rep K H r d v) (e : toP S d = some p) : Dp K H v p := by
  unfold toP at e
  split at e
  · split at e
    · rename_i n ds he
      obtain ⟨a, rfl, _, vs, h1, h2⟩ := m.loc h he
      rw [Option.map_eq_some_iff] at e
      obtain ⟨ps, e1, rfl⟩ := e
      exact .lst (.of h1) (toPs0_dp h2 e1)
    · cases e
  · exact toP0_dp h e
end

/-! ### == and != -/
def eqS : D → D → Option Bool
  | .int i, .int j => some (decide (i = j))
  | .bl i, .bl j => some (decide (i = j))
  | .str i, .str j => some (decide (i = j))
  | .non, .non => some true
  | .non, .int _ => some false
  | .int _, .non => some false
  | .non, .bl _ => some false
  | .bl _, .non => some false
  | .non, .str _ => some false
  | .str _, .non => some false
  | .int _, .str _ => some false
  | .str _, .int _ => some false
  | .bl _, .str _ => some false
  | .str _, .bl _ => some false
  | _, _ => none
/-- a list and an empty one -/
def eqE (S : Sto) (x y : D) : Option Bool := match asLF S x, y with
  | some (_ :: _), .lst [] => some false
  | _, _ => none
/-- tuples whose items are scalars as far as both go -/
def eqZ : List D → List D → Option Bool
  | [], [] => some true
  | [], _ :: _ => some false
  | _ :: _, [] => some false
  | x :: xs, y :: ys => match eqS x y, eqZ xs ys with
    | some b, some c => some (b && c)
    | _, _ => none
def eqT (x y : D) : Option Bool := match x, y with
  | .tup xs, .tup ys => eqZ xs ys
  | _, _ => none
def eqP (S : Sto) (x y : D) : Option Bool := match eqS x y with
  | some b => some b
  | none => match eqE S x y with
    | some b => some b
    | none => match eqT x y with
     | some b => some b
     | none => match toP S x, toP S y with
      | some p, some q => if SeqAt.shaped p = true ∧ SeqAt.shaped q = true then some (PyData.eqv p q) else none
      | _, _ => none
def eqD (S : Sto) (x y : D) : Option D := (eqP S x y).map .bl
def neD (S : Sto) (x y : D) : Option D := (eqP S x y).map fun b => .bl (!b)
def rEmp (K : PySem.W.Frag) (k : Bool) : R2 := fun x y H Q => ∃ a b xs, x = .ref a ∧ y = .ref b ∧ SqL K H a xs ∧ SqL K H b [] ∧ xs ≠ [] ∧ Q (.bl k) H
theorem op_eqEmp {X : Cx} (hu : X.A.units < cLine) : OpR X (compareOp .Eq) (rEmp X.K false) := by
  intro pins s σ H x y v u Q I rx ry h
  obtain ⟨a, b, xs, rfl, rfl, ha, hb, hne, q⟩ := h
  cases rx; cases ry
  obtain ⟨its, r1, p1, _⟩ := I.list ha
  obtain ⟨its2, r2, p2, _⟩ := I.list hb
  cases r2
  refine SeqAt.eq_list_lengthsAt p1.isList p2.isList ?_ hu ⟨.bl false, H, I, rfl, q⟩
  cases r1 with
  | nil => exact absurd rfl hne
  | cons _ _ => rfl
theorem op_neEmp {X : Cx} (hu : X.A.units < cLine) : OpR X (compareOp .NotEq) (rEmp X.K true) := by
  intro pins s σ H x y v u Q I rx ry h
  obtain ⟨a, b, xs, rfl, rfl, ha, hb, hne, q⟩ := h
  cases rx; cases ry
  obtain ⟨its, r1, p1, _⟩ := I.list ha
  obtain ⟨its2, r2, p2, _⟩ := I.list hb
  cases r2
  have hsz : (its.toArray.size != ([] : List Value).toArray.size) = true := by
    cases r1 with
    | nil => exact absurd rfl hne
    | cons _ _ => rfl
  obtain ⟨⟨cls, dd, data, sl⟩, ho, hc, n, hd⟩ := p1.isList
  obtain ⟨⟨cls2, dd2, data2, sl2⟩, ho2, hc2, n2, hd2⟩ := p2.isList
  simp only at hc hd hc2 hd2
  subst hc hd hc2 hd2
  exact richCompare_meets_room (op := .NotEq) ⟨_, ho, rfl⟩ ⟨_, ho2, rfl⟩ F.slot_list_ne F.entry_list_ne (F.args_list_ne_2 _ _) (SeqAt.list_ne_lengthsAt a b _ _ n n2 dd dd2 sl sl2 hsz)
    ⟨ho, ho2, (fun x => nomatch x), .bl true, H, I, rfl, q⟩ hu
theorem scal_at {A : Around} {s : Shared} {x y : V} {u v : Value} (h : scal x y = true) (hb : ∀ b, x ≠ .byt b) (ru : RelV x u) (rv : RelV y v) : SeqAt.EqAt A s u v (decide (x = y)) := by
  unfold scal at h
  split at h <;> first | (cases h; done) | skip
  · cases ru; cases rv; exact SeqAt.EqAt.same _
  · obtain ⟨t, rfl⟩ := rv; cases ru; exact SeqAt.EqAt.none_int _ _
  · obtain ⟨t, rfl⟩ := ru; cases rv; exact SeqAt.EqAt.int_none _ _
  · cases ru; cases rv; exact SeqAt.EqAt.none_bool _
  · cases ru; cases rv; exact SeqAt.EqAt.bool_none _
  · obtain ⟨t, rfl⟩ := rv; cases ru; exact SeqAt.EqAt.none_str _ _
  · obtain ⟨t, rfl⟩ := ru; cases rv; exact SeqAt.EqAt.str_none _ _
  · obtain ⟨t, rfl⟩ := ru; obtain ⟨t2, rfl⟩ := rv; rw [dec_int]; exact SeqAt.EqAt.int_int _ _ _ _
  · cases ru; cases rv; rw [dec_bl]; exact SeqAt.EqAt.bool_bool _ _
  · obtain ⟨t, rfl⟩ := ru; obtain ⟨t2, rfl⟩ := rv; rw [dec_str]; exact SeqAt.EqAt.str_str _ _ _ _
  · exact absurd rfl (hb _)
  · obtain ⟨t, rfl⟩ := ru; obtain ⟨t2, rfl⟩ := rv; exact SeqAt.EqAt.int_str _ _ _ _
  · obtain ⟨t, rfl⟩ := ru; obtain ⟨t2, rfl⟩ := rv; exact SeqAt.EqAt.str_int _ _ _ _
  · obtain ⟨t, rfl⟩ := rv; cases ru; exact SeqAt.EqAt.bool_str _ _ _
  · obtain ⟨t, rfl⟩ := ru; cases rv; exact SeqAt.EqAt.str_bool _ _ _
/-- items that are scalars as far as both go; whether they are equal -/
inductive ScZ : List V → List V → Bool → Prop
  | nn : ScZ [] [] true
  | nc (y : V) (ys : List V) : ScZ [] (y :: ys) false
  | cn (x : V) (xs : List V) : ScZ (x :: xs) [] false
  | cc {x y : V} {xs ys : List V} {b : Bool} : scal x y = true → (∀ c, x ≠ .byt c) → ScZ xs ys b → ScZ (x :: xs) (y :: ys) (decide (x = y) && b)
def ScZ.e : List V → List V → Nat → Bool
  | x :: xs, y :: ys, j => match j with
    | 0 => decide (x = y)
    | j + 1 => ScZ.e xs ys j
  | _, _, _ => false
theorem ScZ.all {xs ys : List V} {b : Bool} (h : ScZ xs ys b) : ((List.range (min xs.length ys.length)).all (ScZ.e xs ys) && xs.length == ys.length) = b := by
  induction h with
  | nn => rfl
  | nc y ys => simp
  | cn x xs => simp
  | @cc x y xs ys b h1 h2 h3 ih =>
    rw [← ih]
    have e : min (x :: xs).length (y :: ys).length = min xs.length ys.length + 1 := by simp [Nat.succ_min_succ]
    rw [e, List.range_succ_eq_map, List.all_cons, List.all_map]
    have e2 : (ScZ.e (x :: xs) (y :: ys) ∘ Nat.succ) = ScZ.e xs ys := rfl
    rw [e2]
    show (decide (x = y) && _ && _) = _
    rw [Bool.and_assoc]
    congr 2
    simp
theorem ScZ.at {A : Around} {s : Shared} {xs ys : List V} {b : Bool} (h : ScZ xs ys b) : ∀ {us vs : List Value}, Vals xs us → Vals ys vs → ∀ (j : Nat) (h1 : j < us.length) (h2 : j < vs.length), SeqAt.EqAt A s us[j] vs[j] (ScZ.e xs ys j) := by
  induction h with
  | nn => intro us vs r1 r2 j h1; cases r1; cases h1
  | nc y ys => intro us vs r1 r2 j h1; cases r1; cases h1
  | cn x xs => intro us vs r1 r2 j h1 h2; cases r2; cases h2
  | @cc x y xs ys b h1 h2 h3 ih =>
    intro us vs r1 r2 j l1 l2
    cases r1 with
    | cons p1 q1 =>
      cases r2 with
      | cons p2 q2 =>
        cases j with
        | zero => exact scal_at h1 h2 p1 p2
        | succ j => exact ih q1 q2 j (by simpa using l1) (by simpa using l2)
def rTupZ (K : PySem.W.Frag) (k : Bool) : R2 := fun x y H Q => ∃ a b xs ys c, x = .ref a ∧ y = .ref b ∧ SqT K H a xs ∧ SqT K H b ys ∧ ScZ xs ys c ∧ Q (.bl (if k then !c else c)) H
theorem op_eqZ {X : Cx} (hu : X.A.units < cLine) : OpR X (compareOp .Eq) (rTupZ X.K false) := by
  intro pins s σ H x y v u Q I rx ry h
  obtain ⟨a, b, xs, ys, c, rfl, rfl, ha, hb, hz, q⟩ := h
  cases rx; cases ry
  obtain ⟨its, r1, p1, _⟩ := I.tuple ha
  obtain ⟨its2, r2, p2, _⟩ := I.tuple hb
  refine SeqAt.eq_tupleAt (e := ScZ.e xs ys) p1 p2 hu (fun j h1 h2 => ?_) ⟨.bl c, H, I, ?_, q⟩
  · have := hz.at (A := X.A.in1) (s := s) r1 r2 j (by simpa using h1) (by simpa using h2)
    simpa using this
  · have e := hz.all
    show Value.bool _ = Value.bool c
    rw [← e]
    simp only [List.size_toArray, ← r1.length, ← r2.length]
theorem op_neZ {X : Cx} (hu : X.A.units < cLine) : OpR X (compareOp .NotEq) (rTupZ X.K true) := by
  intro pins s σ H x y v u Q I rx ry h
  obtain ⟨a, b, xs, ys, c, rfl, rfl, ha, hb, hz, q⟩ := h
  cases rx; cases ry
  obtain ⟨its, r1, p1, _⟩ := I.tuple ha
  obtain ⟨its2, r2, p2, _⟩ := I.tuple hb
  refine SeqAt.RcNeAt.tuples (e := ScZ.e xs ys) p1 p2 hu (fun j h1 h2 => ?_) X.prog X.w X.xe _ ⟨.bl (!c), H, I, ?_, q⟩
  · have := hz.at (A := X.A.in1) (s := s) r1 r2 j (by simpa using h1) (by simpa using h2)
    simpa using this
  · have e := hz.all
    show Value.bool _ = Value.bool (!c)
    rw [← e]
    simp only [List.size_toArray, ← r1.length, ← r2.length]
def rEqA (K : PySem.W.Frag) : R2 := rOr rEq (rOr (rEmp K false) (rOr (rTupZ K false) (rEqD K)))
def rNeA (K : PySem.W.Frag) : R2 := rOr rNe (rOr (rEmp K true) (rOr (rTupZ K true) (rNeD K)))
theorem or_eq {X : Cx} (hu : X.A.units + 64 < cLine) : OpR X (compareOp .Eq) (rEqA X.K) := op_eq.or ((op_eqEmp (by omega)).or ((op_eqZ (by omega)).or (op_eqD hu)))
theorem or_ne {X : Cx} (hu : X.A.units + 64 < cLine) : OpR X (compareOp .NotEq) (rNeA X.K) := op_ne.or ((op_neEmp (by omega)).or ((op_neZ (by omega)).or (op_neD hu)))
section
variable {K : PySem.W.Frag} {ca : Nat → Addr} {H : Hp} {r : Rg} {S : Sto}
theorem eqS_scal {x y : D} {vx vy : V} {b : Bool} (hx : Rep K H r x vx) (hy : Rep K H r y vy) (e : eqS x y = some b) : scal vx vy = true ∧ decide (vx = vy) = b := by
  unfold eqS at e
  split at e <;> first | (cases e; done) | (cases hx; cases hy; cases e; refine ⟨rfl, ?_⟩; simp)
theorem eqE_rep {x y : D} {vx vy : V} {b : Bool} (m : Sim K ca H r S) (hx : Rep K H r x vx) (hy : Rep K H r y vy) (e : eqE S x y = some b) : b = false ∧ ∃ a c xs, vx = .ref a ∧ vy = .ref c ∧ SqL K H a xs ∧ SqL K H c [] ∧ xs ≠ [] := by
  unfold eqE at e
  split at e
  · rename_i z zs e1
    cases e
    obtain ⟨a, vs, rfl, h1, s1⟩ := asLF_rep m hx e1
    cases hy with
    | lst h2 _ _ s2 =>
      have := s2.nil_of; subst this
      exact ⟨rfl, _, _, _, rfl, rfl, h1, .of h2, fun z => by have := s1.nil_iff.mp z; cases this⟩
  · cases e
theorem eqZ_rep : ∀ {xs ys : List D} {vs us : List V} {b : Bool}, Reps K H r xs vs → Reps K H r ys us → eqZ xs ys = some b → ScZ vs us b
  | [], [], _, _, b, .nil, .nil, e => by simp only [eqZ] at e; cases e; exact .nn
  | [], _ :: _, _, _, b, .nil, .cons _ _, e => by simp only [eqZ] at e; cases e; exact .nc _ _
  | _ :: _, [], _, _, b, .cons _ _, .nil, e => by simp only [eqZ] at e; cases e; exact .cn _ _
  | x :: xs, y :: ys, _, _, b, .cons h1 t1, .cons h2 t2, e => by
    simp only [eqZ] at e
    split at e
    · rename_i b1 c1 e1 e2
      cases e
      obtain ⟨s1, s2⟩ := eqS_scal h1 h2 e1
      rw [← s2]
      refine .cc s1 (fun c z => ?_) (eqZ_rep t1 t2 e2)
      subst z
      cases h1
    · cases e
theorem eqT_rep {x y : D} {vx vy : V} {b : Bool} (hx : Rep K H r x vx) (hy : Rep K H r y vy) (e : eqT x y = some b) : ∃ a c xs ys, vx = .ref a ∧ vy = .ref c ∧ SqT K H a xs ∧ SqT K H c ys ∧ ScZ xs ys b := by
  unfold eqT at e
  split at e
  · cases hx with
    | tup h1 s1 =>
      cases hy with
      | tup h2 s2 => exact ⟨_, _, _, _, rfl, rfl, h1, h2, eqZ_rep s1 s2 e⟩
  · cases e
theorem oz_eq : OpZ K ca (rEqA K) eqD := by
  intro H r S x y vx vy d Q m hx hy e q
  unfold eqD at e
  rw [Option.map_eq_some_iff] at e
  obtain ⟨b, e, rfl⟩ := e
  have q' := q _ _ (Ext.refl ..) m (.bl b)
  unfold eqP at e
  split at e
  · rename_i b' e1
    cases e
    obtain ⟨h1, h2⟩ := eqS_scal hx hy e1
    exact .inl ⟨h1, by rw [h2]; exact q'⟩
  · split at e
    · rename_i b' e1
      cases e
      obtain ⟨rfl, a, c, xs, h1, h2, h3, h4, h5⟩ := eqE_rep m hx hy e1
      exact .inr (.inl ⟨a, c, xs, h1, h2, h3, h4, h5, q'⟩)
    · split at e
      · rename_i b' e1
        cases e
        obtain ⟨a, c, xs, ys, h1, h2, h3, h4, h5⟩ := eqT_rep hx hy e1
        exact .inr (.inr (.inl ⟨a, c, xs, ys, _, h1, h2, h3, h4, h5, q'⟩))
      · split at e
        · rename_i p p' e1 e2
          split at e
          · rename_i hs
            cases e
            exact .inr (.inr (.inr ⟨p, p', toP_dp m hx e1, toP_dp m hy e2, hs.1, hs.2, q'⟩))
          · cases e
        · cases e
theorem oz_ne : OpZ K ca (rNeA K) neD := by
  intro H r S x y vx vy d Q m hx hy e q
  unfold neD at e
  rw [Option.map_eq_some_iff] at e
  obtain ⟨b, e, rfl⟩ := e
  have q' := q _ _ (Ext.refl ..) m (.bl (!b))
  unfold eqP at e
  split at e
  · rename_i b' e1
    cases e
    obtain ⟨h1, h2⟩ := eqS_scal hx hy e1
    exact .inl ⟨h1, by rw [h2]; exact q'⟩
  · split at e
    · rename_i b' e1
      cases e
      obtain ⟨rfl, a, c, xs, h1, h2, h3, h4, h5⟩ := eqE_rep m hx hy e1
      exact .inr (.inl ⟨a, c, xs, h1, h2, h3, h4, h5, q'⟩)
    · split at e
      · rename_i b' e1
        cases e
        obtain ⟨a, c, xs, ys, h1, h2, h3, h4, h5⟩ := eqT_rep hx hy e1
        exact .inr (.inr (.inl ⟨a, c, xs, ys, _, h1, h2, h3, h4, h5, q'⟩))
      · split at e
        · rename_i p p' e1 e2
          split at e
          · rename_i hs
            cases e
            exact .inr (.inr (.inr ⟨p, p', toP_dp m hx e1, toP_dp m hy e2, hs.1, hs.2, q'⟩))
          · cases e
        · cases e
end
end Z

/-! Z layer, part D: in, subscripts, slices, truth, isinstance, built-in functions. -/
namespace Z
open PySem PySem.Spec PyProof.Rows L2

/-! ### in -/
def flatD : D → Bool
  | .non => true
  | .bl _ => true
  | .int _ => true
  | .str _ => true
  | _ => false
def eqF : D → D → Bool
  | .non, .non => true
  | .bl a, .bl b => a == b
  | .bl a, .int b => (if a then 1 else 0) == b
  | .int a, .bl b => a == (if b then 1 else 0)
  | .int a, .int b => a == b
  | .str a, .str b => a == b
  | _, _ => false
def inP (S : Sto) (x y : D) : Option Bool := match x, y with
  | .str ⟨⟨[c]⟩⟩, .str z => some (decide (c ∈ z.cps.toList))
  | .str i, .str j => some (!(Builtin.Str.occurrences j i 0 j.length 1).isEmpty)
  | x, y => match asQ S y with
    | some ds => if flatD x && ds.all flatD then some (ds.any fun d => eqF d x) else none
    | none => none
def inD (S : Sto) (x y : D) : Option D := (inP S x y).map .bl
def notInD (S : Sto) (x y : D) : Option D := (inP S x y).map fun b => .bl (!b)
def rSign (neg : Bool) : R2 := fun x y H Q => ∃ (c : Nat) (z : Str), x = .str ⟨#[c]⟩ ∧ y = .str z ∧ Q (.bl (if neg then !decide (c ∈ z.cps.toList) else decide (c ∈ z.cps.toList))) H
def rOcc (neg : Bool) : R2 := fun x y H Q => ∃ i j, x = .str i ∧ y = .str j ∧ Q (.bl (if neg then !(!(Builtin.Str.occurrences j i 0 j.length 1).isEmpty) else !(Builtin.Str.occurrences j i 0 j.length 1).isEmpty)) H
def rInA (K : PySem.W.Frag) (neg : Bool) : R2 := rOr (rSign neg) (rOr (rOcc neg) (rIn K neg))
theorem or_in {X : Cx} : OpR X (compareOp .In) (rInA X.K false) := op_in_sign.or (op_in_str.or op_in_seq)
theorem or_notIn {X : Cx} : OpR X (compareOp .NotIn) (rInA X.K true) := op_notIn_sign.or (op_notin_str.or op_notIn_seq)
section
variable {K : PySem.W.Frag} {ca : Nat → Addr} {H : Hp} {r : Rg} {S : Sto}
theorem flat_rep {x : D} {v : V} (h : Rep K H r x v) (f : flatD x = true) : flatV v = true := by
  cases h <;> first | rfl | (simp [flatD] at f)
theorem flats_rep : ∀ {ds : List D} {vs : List V}, Reps K H r ds vs → ds.all flatD = true → vs.all flatV = true
  | _, _, .nil, _ => rfl
  | _, _, .cons h hs, f => by
    rw [List.all_cons, Bool.and_eq_true] at f ⊢
    exact ⟨flat_rep h f.1, flats_rep hs f.2⟩
theorem eqF_rep {x y : D} {v u : V} (h : Rep K H r x v) (h' : Rep K H r y u) (f : flatD x = true) (f' : flatD y = true) : eqV v u = eqF x y := by
  cases h <;> first | (simp [flatD] at f; done) | (cases h' <;> first | rfl | (simp [flatD] at f'; done))
theorem any_rep {x : D} {u : V} (h' : Rep K H r x u) (f' : flatD x = true) : ∀ {ds : List D} {vs : List V}, Reps K H r ds vs → ds.all flatD = true → inV u vs = ds.any fun d => eqF d x
  | _, _, .nil, _ => rfl
  | _, _, .cons h hs, f => by
    rw [List.all_cons, Bool.and_eq_true] at f
    have ih := any_rep h' f' hs f.2
    unfold inV at ih ⊢
    rw [List.any_cons, List.any_cons, ih, eqF_rep h h' f.1 f']
theorem oz_inB {neg b : Bool} {x y : D} {vx vy : V} {Q : VK} (m : Sim K ca H r S) (hx : Rep K H r x vx) (hy : Rep K H r y vy) (e : inP S x y = some b) (q : Q (.bl (if neg then !b else b)) H) : rInA K neg vx vy H Q := by
  unfold inP at e
  split at e
  · rename_i c z; cases hx; cases hy; cases e; exact .inl ⟨c, z, rfl, rfl, q⟩
  · cases hx; cases hy; cases e; exact .inr (.inl ⟨_, _, rfl, rfl, q⟩)
  · split at e
    · rename_i ds e1
      split at e
      · rename_i f
        rw [Bool.and_eq_true] at f
        cases e
        obtain ⟨a, vs, rfl, h1, s1⟩ := asQ_rep m hy e1
        refine .inr (.inr ⟨a, vs, rfl, h1, flat_rep hx f.1, flats_rep s1 f.2, ?_⟩)
        rw [any_rep hx f.1 s1 f.2]
        exact q
      · cases e
    · cases e
theorem oz_in : OpZ K ca (rInA K false) inD := by
  intro H r S x y vx vy d Q m hx hy e q
  unfold inD at e
  rw [Option.map_eq_some_iff] at e
  obtain ⟨b, e, rfl⟩ := e
  exact oz_inB m hx hy e (q _ _ (Ext.refl ..) m (.bl b))
theorem oz_notIn : OpZ K ca (rInA K true) notInD := by
  intro H r S x y vx vy d Q m hx hy e q
  unfold notInD at e
  rw [Option.map_eq_some_iff] at e
  obtain ⟨b, e, rfl⟩ := e
  exact oz_inB m hx hy e (q _ _ (Ext.refl ..) m (.bl (!b)))

/-! ### items -/
theorem Reps.atI {ds : List D} {vs : List V} {i : Int} {d : D} (h : Reps K H r ds vs) (e : L2.atI ds i = some d) : ∃ v, L2.atI vs i = some v ∧ Rep K H r d v := by
  unfold L2.atI at e ⊢
  rw [h.length] at e
  cases q : ixN vs.length i with
  | none => rw [q] at e; cases e
  | some j =>
    rw [q] at e
    exact h.get (show ds[j]? = some d from e)
end
def ixP (S : Sto) (x y : D) : Option D := match x, y with
  | .str z, .int i => if z.length ≤ 16777216 then (L2.atI z.cps.toList i).map fun c => .str ⟨#[c]⟩ else none
  | x, .int i => match asQ S x with
    | some ds => L2.atI ds i
    | none => none
  | _, _ => none
section
variable {K : PySem.W.Frag} {ca : Nat → Addr} {H : Hp} {r : Rg} {S : Sto}
theorem oz_ix : OpZ K ca (rIx K) ixP := by
  intro H r S x y vx vy d Q m hx hy e q
  unfold ixP at e
  split at e
  · rename_i z i
    cases hx; cases hy
    split at e
    · rename_i hl
      rw [Option.map_eq_some_iff] at e
      obtain ⟨c, e, rfl⟩ := e
      exact .inr (.inr ⟨z, i, c, rfl, rfl, by rw [sizeLine_eq]; exact hl, e, q _ _ (Ext.refl ..) m (.str _)⟩)
    · cases e
  · split at e
    · rename_i ds e1
      cases hy
      obtain ⟨a, vs, rfl, h1, s1⟩ := asQ_rep m hx e1
      obtain ⟨v, h2, h3⟩ := s1.atI e
      rcases h1 with h1 | h1
      · exact .inl ⟨a, vs, _, v, rfl, rfl, h1, h2, q _ _ (Ext.refl ..) m h3⟩
      · exact .inr (.inl ⟨a, vs, _, v, rfl, rfl, h1, h2, q _ _ (Ext.refl ..) m h3⟩)
    · cases e
  · cases e
end

/-! ### slices -/
def cutG {α : Type} (xs : List α) (lo hi : Option Int) : List α := (xs.drop (HT.sIx xs.length 0 lo)).take (HT.sIx xs.length xs.length hi - HT.sIx xs.length 0 lo)
def slP (S : Sto) (x : D) (lo hi : Option Int) : Option D := match x with
  | .str z => if z.length ≤ 16777216 then some (.str (cutS z lo hi)) else none
  | .tup xs => some (.tup (cutG xs lo hi))
  | x => (asLF S x).map fun ds => .lst (cutG ds lo hi)
def rSlAll (K : PySem.W.Frag) : V → Option Int → Option Int → Hp → VK → Prop := fun x lo hi H Q => rSlS x lo hi H Q ∨ (rSlA K x lo hi H Q ∨ rSlL K x lo hi H Q)
theorem or_sl {X : Cx} : SlR X (rSlAll X.K) := sl_str.or (sl_tupA.or sl_list)
section
variable {K : PySem.W.Frag} {ca : Nat → Addr} {H : Hp} {r : Rg} {S : Sto}
theorem Reps.cut {ds : List D} {vs : List V} (h : Reps K H r ds vs) (lo hi : Option Int) : Reps K H r (cutG ds lo hi) (cutV vs lo hi) := by
  unfold cutG cutV
  rw [h.length]
  exact (h.drop _).take _
theorem cutG_whole {α : Type} {xs : List α} {lo hi : Option Int} (h : HT.sIx xs.length 0 lo = 0 ∧ HT.sIx xs.length xs.length hi = xs.length) : cutG xs lo hi = xs := by
  unfold cutG
  rw [h.1, h.2]
  simp
theorem oz_sl {x : D} {vx : V} {d : D} {lo hi : Option Int} {Q : VK} (m : Sim K ca H r S) (hx : Rep K H r x vx) (e : slP S x lo hi = some d)
    (q : ∀ v H', Ext H r H' r → Sim K ca H' r S → Rep K H' r d v → Q v H') : rSlAll K vx lo hi H Q := by
  unfold slP at e
  split at e
  · cases hx
    split at e
    · rename_i hl
      cases e
      exact .inl ⟨_, rfl, by rw [sizeLine_eq]; exact hl, q _ _ (Ext.refl ..) m (.str _)⟩
    · cases e
  · cases hx with
    | tup h1 s1 =>
      cases e
      refine .inr (.inl ⟨_, _, rfl, h1, fun hw => ?_, fun _ p hp => q _ _ (Ext.new hp) (m.new hp) (newTup hp (s1.cut lo hi))⟩)
      rw [← s1.length] at hw
      rw [cutG_whole hw] at q
      exact q _ _ (Ext.refl ..) m (.tup h1 s1)
  · rw [Option.map_eq_some_iff] at e
    obtain ⟨ds, e1, rfl⟩ := e
    obtain ⟨a, vs, rfl, h1, s1⟩ := asLF_rep m hx e1
    exact .inr (.inr ⟨a, vs, rfl, h1, fun p hp => q _ _ (Ext.new hp) (m.new hp) (newLst m hp (s1.cut lo hi))⟩)
end

/-! ### truth, len -/
def truP (S : Sto) (x : D) : Option Bool := match x with
  | .non => some false
  | .bl b => some b
  | .int i => some (i != 0)
  | .str y => if y.length ≤ 16777216 then some ((y.length : Int) != 0) else none
  | x => (asQ S x).map fun ds => !ds.isEmpty
def lenP (S : Sto) (x : D) : Option Nat := match x with
  | .str y => if y.length ≤ 16777216 then some y.length else none
  | x => (asQ S x).map List.length
section
variable {K : PySem.W.Frag} {ca : Nat → Addr} {H : Hp} {r : Rg} {S : Sto}
theorem tru_rep {x : D} {v : V} {b : Bool} (m : Sim K ca H r S) (hx : Rep K H r x v) (e : truP S x = some b) : TruV K v H b := by
  unfold truP at e
  split at e
  · cases hx; cases e; rfl
  · cases hx; cases e; rfl
  · cases hx; cases e; rfl
  · cases hx
    split at e
    · rename_i hl; cases e; exact ⟨by rw [sizeLine_eq]; exact hl, rfl⟩
    · cases e
  · rw [Option.map_eq_some_iff] at e
    obtain ⟨ds, e1, rfl⟩ := e
    obtain ⟨a, vs, rfl, h1, s1⟩ := asQ_rep m hx e1
    have he : (!ds.isEmpty) = !vs.isEmpty := by cases s1 <;> rfl
    rcases h1 with h1 | h1
    · exact .inl ⟨vs, h1, he⟩
    · exact .inr (.inl ⟨vs, h1, he⟩)
theorem len_rep {x : D} {v : V} {n : Nat} (m : Sim K ca H r S) (hx : Rep K H r x v) (e : lenP S x = some n) : LenV K v H n := by
  unfold lenP at e
  split at e
  · cases hx
    split at e
    · rename_i hl; cases e; exact ⟨by rw [sizeLine_eq]; exact hl, rfl⟩
    · cases e
  · rw [Option.map_eq_some_iff] at e
    obtain ⟨ds, e1, rfl⟩ := e
    obtain ⟨a, vs, rfl, h1, s1⟩ := asQ_rep m hx e1
    rcases h1 with h1 | h1
    · exact .inl ⟨vs, h1, s1.length⟩
    · exact .inr ⟨vs, h1, s1.length⟩
end

/-! ### isinstance -/
def tyN (S : Sto) (x : D) : Option String := match x with
  | .non => some "NoneType"
  | .bl _ => some "bool"
  | .int _ => some "int"
  | .str _ => some "str"
  | .tup _ => some "tuple"
  | .lst _ => some "list"
  | .fro _ => some "list"
  | .loc n => match S[n]? with
    | some (.lst _) => some "list"
    | some (.dic _) => some "dict"
    | some (.dit _) => some "dict"
    | _ => none
/-- built-in classes that are asked for -/
inductive Ty where
  | int | bool | str | tuple | list
def Ty.nm : Ty → String
  | .int => "int" | .bool => "bool" | .str => "str" | .tuple => "tuple" | .list => "list"
def isTab (n : String) (t : Ty) : Option Bool :=
  if n = "NoneType" then some false
  else if n = "bool" then some (match t with | .bool => true | .int => true | _ => false)
  else if n = "int" then some (match t with | .int => true | _ => false)
  else if n = "str" then some (match t with | .str => true | _ => false)
  else if n = "tuple" then some (match t with | .tuple => true | _ => false)
  else if n = "list" then some (match t with | .list => true | _ => false)
  else if n = "dict" then some false
  else none
def isiD (S : Sto) (x : D) (t : Ty) : Option Bool := match x with
  | .non => some false
  | .bl _ => some (match t with | .bool => true | .int => true | _ => false)
  | .int _ => some (match t with | .int => true | _ => false)
  | .str _ => some (match t with | .str => true | _ => false)
  | .tup _ => some (match t with | .tuple => true | _ => false)
  | .lst _ => some (match t with | .list => true | _ => false)
  | .fro _ => some (match t with | .list => true | _ => false)
  | .loc n => match S[n]? with
    | some (.lst _) => some (match t with | .list => true | _ => false)
    | some (.dic _) => some false
    | some (.dit _) => some false
    | _ => none
theorem kit_tab : ∀ n ∈ ["NoneType", "bool", "int", "str", "tuple", "list", "dict"], ∀ t : Ty, kitB n t.nm = isTab n t := by
  intro n hn t
  simp only [List.mem_cons, List.not_mem_nil, or_false] at hn
  rcases hn with rfl | rfl | rfl | rfl | rfl | rfl | rfl <;> cases t <;> decide +kernel
section
variable {K : PySem.W.Frag} {ca : Nat → Addr} {H : Hp} {r : Rg} {S : Sto}
theorem SqT.tyx {a : Addr} {xs : List V} (h : SqT K H a xs) : TyX K H (.ref a) (.type "tuple") := by
  rcases h with (h | ⟨o, h⟩) | ⟨o, its, n, h, c, _⟩
  · exact .base (.tup h)
  · exact .fTuple h
  · exact .kTuple h c
theorem FL.tyx {a : Addr} {xs : List V} (h : FL K H a xs) : TyX K H (.ref a) (.type "list") := by
  rcases h with ⟨o, h⟩ | ⟨o, its, n, h, c, _⟩
  · exact .base (.frz h)
  · exact .kList h c
theorem isi_rep {x : D} {v : V} {t : Ty} {b : Bool} (m : Sim K ca H r S) (hx : Rep K H r x v) (e : isiD S x t = some b) : ∃ n, TyX K H v (.type n) ∧ PySem.W.kitOne K (.type n) (.type t.nm) = some b := by
  cases hx with
  | non => exact ⟨_, .base .non, kit_ty (by rw [kit_tab _ (by simp)]; exact e)⟩
  | bl y => exact ⟨_, .base (.bl y), kit_ty (by rw [kit_tab _ (by simp)]; exact e)⟩
  | int y => exact ⟨_, .base (.int y), kit_ty (by rw [kit_tab _ (by simp)]; exact e)⟩
  | str y => exact ⟨_, .base (.str y), kit_ty (by rw [kit_tab _ (by simp)]; exact e)⟩
  | tup h _ => exact ⟨_, SqT.tyx h, kit_ty (by rw [kit_tab _ (by simp)]; exact e)⟩
  | lst h _ _ _ => exact ⟨_, .base (.lst h), kit_ty (by rw [kit_tab _ (by simp)]; exact e)⟩
  | fro h _ => exact ⟨_, FL.tyx h, kit_ty (by rw [kit_tab _ (by simp)]; exact e)⟩
  | @loc n a h =>
    simp only [isiD] at e
    split at e
    · rename_i xs he
      obtain ⟨b', h1, vs, h2, _⟩ := m.obj n _ he
      rw [h] at h1; cases h1
      exact ⟨_, .base (.lst h2), kit_ty (by rw [kit_tab _ (by simp)]; exact e)⟩
    · rename_i xs he
      obtain ⟨b', h1, vs, h2, _⟩ := m.obj n _ he
      rw [h] at h1; cases h1
      exact ⟨_, .base (.dK h2), kit_ty (by rw [kit_tab _ (by simp)]; exact e)⟩
    · rename_i xs he
      obtain ⟨b', h1, vs, h2, _⟩ := m.obj n _ he
      rw [h] at h1; cases h1
      exact ⟨_, .base (.dT h2), kit_ty (by rw [kit_tab _ (by simp)]; exact e)⟩
    · cases e
theorem isi_rep2 {x : D} {v : V} {t t' : Ty} {b b' : Bool} (m : Sim K ca H r S) (hx : Rep K H r x v) (e : isiD S x t = some b) (e' : isiD S x t' = some b') : ∃ n, TyX K H v (.type n) ∧ PySem.W.kitAny K (.type n) [.type t.nm, .type t'.nm] = some (b || b') := by
  have key : ∀ n : String, n ∈ ["NoneType", "bool", "int", "str", "tuple", "list", "dict"] → isTab n t = some b → isTab n t' = some b' → PySem.W.kitAny K (.type n) [.type t.nm, .type t'.nm] = some (b || b') := fun n hn h1 h2 => by
    refine kitAny_cons (b := b) (kit_ty (by rw [kit_tab _ hn]; exact h1)) (fun hb => kitAny_cons (b := b') (kit_ty (by rw [kit_tab _ hn]; exact h2)) (fun hb' => by rw [hb, hb']; rfl) (fun hb' => by rw [hb, hb']; rfl)) (fun hb => by rw [hb]; rfl)
  cases hx with
  | non => exact ⟨_, .base .non, key _ (by simp) e e'⟩
  | bl y => exact ⟨_, .base (.bl y), key _ (by simp) e e'⟩
  | int y => exact ⟨_, .base (.int y), key _ (by simp) e e'⟩
  | str y => exact ⟨_, .base (.str y), key _ (by simp) e e'⟩
  | tup h _ => exact ⟨_, SqT.tyx h, key _ (by simp) e e'⟩
  | lst h _ _ _ => exact ⟨_, .base (.lst h), key _ (by simp) e e'⟩
  | fro h _ => exact ⟨_, FL.tyx h, key _ (by simp) e e'⟩
  | @loc n a h =>
    simp only [isiD] at e e'
    split at e
    · rename_i xs he
      obtain ⟨b', h1, vs, h2, _⟩ := m.obj n _ he
      rw [h] at h1; cases h1
      simp only [he] at e'
      exact ⟨_, .base (.lst h2), key _ (by simp) e e'⟩
    · rename_i xs he
      obtain ⟨b', h1, vs, h2, _⟩ := m.obj n _ he
      rw [h] at h1; cases h1
      simp only [he] at e'
      exact ⟨_, .base (.dK h2), key _ (by simp) e e'⟩
    · rename_i xs he
      obtain ⟨b', h1, vs, h2, _⟩ := m.obj n _ he
      rw [h] at h1; cases h1
      simp only [he] at e'
      exact ⟨_, .base (.dT h2), key _ (by simp) e e'⟩
    · cases e
end
/-! ### sum, max, min of lists of intsOf -/
def intsOf : List D → Option (List Int)
  | [] => some []
  | .int i :: ds => (intsOf ds).map (i :: ·)
  | _ => none
def sumD (S : Sto) (x : D) : Option D := match asLF S x with
  | some ds => (intsOf ds).map fun is => .int is.sum
  | none => none
def maxL : List Int → Int
  | [] => 0
  | i :: is => is.foldl (fun m j => if j > m then j else m) i
def minL : List Int → Int
  | [] => 0
  | i :: is => is.foldl (fun m j => if j < m then j else m) i
def max1D (S : Sto) (x : D) : Option D := match asLF S x with
  | some ds => match intsOf ds with
    | some (i :: is) => some (.int (maxL (i :: is)))
    | _ => none
  | none => none
def min1D (S : Sto) (x : D) : Option D := match asLF S x with
  | some ds => match intsOf ds with
    | some (i :: is) => some (.int (minL (i :: is)))
    | _ => none
  | none => none
theorem foldl_max (is : List Int) : ∀ i : Int, (is.foldl (fun m j => if j > m then j else m) i) ∈ i :: is ∧ ∀ y ∈ i :: is, y ≤ is.foldl (fun m j => if j > m then j else m) i := by
  induction is with
  | nil => intro i; simp
  | cons j is ih =>
    intro i
    rw [List.foldl_cons]
    obtain ⟨h1, h2⟩ := ih (if j > i then j else i)
    refine ⟨?_, fun y hy => ?_⟩
    · rcases List.mem_cons.mp h1 with h | h
      · rw [h]; split <;> simp
      · simp [h]
    · have h3 := h2 (if j > i then j else i) (by simp)
      have h4 : i ≤ (if j > i then j else i) ∧ j ≤ (if j > i then j else i) := by split <;> omega
      generalize (if j > i then j else i) = t at h3 h4 h2
      rcases List.mem_cons.mp hy with rfl | hy
      · omega
      · rcases List.mem_cons.mp hy with rfl | hy
        · omega
        · exact h2 y (by simp [hy])
theorem foldl_min (is : List Int) : ∀ i : Int, (is.foldl (fun m j => if j < m then j else m) i) ∈ i :: is ∧ ∀ y ∈ i :: is, is.foldl (fun m j => if j < m then j else m) i ≤ y := by
  induction is with
  | nil => intro i; simp
  | cons j is ih =>
    intro i
    rw [List.foldl_cons]
    obtain ⟨h1, h2⟩ := ih (if j < i then j else i)
    refine ⟨?_, fun y hy => ?_⟩
    · rcases List.mem_cons.mp h1 with h | h
      · rw [h]; split <;> simp
      · simp [h]
    · have h3 := h2 (if j < i then j else i) (by simp)
      have h4 : (if j < i then j else i) ≤ i ∧ (if j < i then j else i) ≤ j := by split <;> omega
      generalize (if j < i then j else i) = t at h3 h4 h2
      rcases List.mem_cons.mp hy with rfl | hy
      · omega
      · rcases List.mem_cons.mp hy with rfl | hy
        · omega
        · exact h2 y (by simp [hy])
section
variable {K : PySem.W.Frag} {ca : Nat → Addr} {H : Hp} {r : Rg} {S : Sto}
theorem ints_rep : ∀ {ds : List D} {vs : List V} {is : List Int}, Reps K H r ds vs → intsOf ds = some is → vs = is.map V.int
  | _, _, _, .nil, e => by simp only [intsOf] at e; cases e; rfl
  | _, _, _, .cons h hs, e => by
    cases h with
    | int i =>
      simp only [intsOf, Option.map_eq_some_iff] at e
      obtain ⟨is, e1, rfl⟩ := e
      rw [ints_rep hs e1]; rfl
    | _ => cases e
end

/-! ### built-in functions -/
def call1 (f : Sto → D → Option D) (S : Sto) (xs : List D) : Option D := match xs with
  | [x] => f S x
  | _ => none
def lenD (S : Sto) (x : D) : Option D := (lenP S x).map fun (n : Nat) => D.int (n : Int)
def absD (_ : Sto) (x : D) : Option D := match x with
  | .int i => some (.int (if i < 0 then -i else i))
  | _ => none
def intD (_ : Sto) (x : D) : Option D := match x with
  | .int i => some (.int i)
  | .bl k => some (.int (if k then 1 else 0))
  | .str a => match PySem.intText? a with
    | some n => if a.length ≤ 640 then some (.int n) else none
    | none => none
  | _ => none
def strD (_ : Sto) (x : D) : Option D := match x with
  | .int i => if i.natAbs.log2 < 1920 then some (.str (toString i)) else none
  | _ => none
def tupD (S : Sto) (x : D) : Option D := match x with
  | .tup xs => some (.tup xs)
  | x => (asLF S x).map .tup
def lstD (S : Sto) (x : D) : Option D := (asQ S x).map .lst
def max2D (_ : Sto) (xs : List D) : Option D := match xs with
  | [.int i, .int j] => some (.int (if j > i then j else i))
  | _ => none
def min2D (_ : Sto) (xs : List D) : Option D := match xs with
  | [.int i, .int j] => some (.int (if j < i then j else i))
  | _ => none
def rLen1 (K : PySem.W.Frag) : List V → Hp → VK → Prop := fun xs H Q => ∃ (x : V) (n : Nat), xs = [x] ∧ LenV K x H n ∧ Q (.int n) H
def rInt1 : List V → Hp → VK → Prop := fun xs H Q => ((∃ i, xs = [.int i] ∧ Q (.int i) H) ∨ ∃ k, xs = [.bl k] ∧ Q (.int (if k then 1 else 0)) H) ∨ ∃ a n, xs = [.str a] ∧ PySem.intText? a = some n ∧ a.length ≤ 640 ∧ Q (.int n) H
theorem or_int {X : Cx} : CallR X (.type "int") rInt1 := call_int1.or call_int_str
section
variable {K : PySem.W.Frag} {ca : Nat → Addr}
theorem cz_sum : CallZ K ca (rSum K) (call1 sumD) := by
  intro H r S xs vs d Q m hx e q
  unfold call1 at e
  split at e
  · unfold sumD at e
    split at e
    · rename_i ds e1
      rw [Option.map_eq_some_iff] at e
      obtain ⟨is, e2, rfl⟩ := e
      cases hx with
      | cons h t =>
        cases t
        obtain ⟨a, vs, rfl, h1, s1⟩ := asLF_rep m h e1
        have := ints_rep s1 e2
        subst this
        exact ⟨a, is, rfl, h1, q _ _ (Ext.refl ..) m (.int _)⟩
    · cases e
  · cases e
theorem cz_max1 : CallZ K ca (rMax K) (call1 max1D) := by
  intro H r S xs vs d Q m hx e q
  unfold call1 at e
  split at e
  · unfold max1D at e
    split at e
    · rename_i ds e1
      split at e
      · rename_i i is e2
        cases e
        cases hx with
        | cons h t =>
          cases t
          obtain ⟨a, vs, rfl, h1, s1⟩ := asLF_rep m h e1
          have := ints_rep s1 e2
          subst this
          obtain ⟨g1, g2⟩ := foldl_max is i
          refine ⟨a, i :: is, rfl, h1, by simp, fun y hy hb => ?_⟩
          have ey : y = maxL (i :: is) := Int.le_antisymm (g2 y hy) (hb _ g1)
          subst ey
          exact q _ _ (Ext.refl ..) m (.int _)
      · cases e
    · cases e
  · cases e
theorem cz_min1 : CallZ K ca (rMin K) (call1 min1D) := by
  intro H r S xs vs d Q m hx e q
  unfold call1 at e
  split at e
  · unfold min1D at e
    split at e
    · rename_i ds e1
      split at e
      · rename_i i is e2
        cases e
        cases hx with
        | cons h t =>
          cases t
          obtain ⟨a, vs, rfl, h1, s1⟩ := asLF_rep m h e1
          have := ints_rep s1 e2
          subst this
          obtain ⟨g1, g2⟩ := foldl_min is i
          refine ⟨a, i :: is, rfl, h1, by simp, fun y hy hb => ?_⟩
          have ey : y = minL (i :: is) := Int.le_antisymm (hb _ g1) (g2 y hy)
          subst ey
          exact q _ _ (Ext.refl ..) m (.int _)
      · cases e
    · cases e
  · cases e
theorem cz_len : CallZ K ca (rLen1 K) (call1 lenD) := by
  intro H r S xs vs d Q m hs e q
  unfold call1 at e
  split at e
  · unfold lenD at e
    rw [Option.map_eq_some_iff] at e
    obtain ⟨n, e, rfl⟩ := e
    cases hs with
    | cons h hs =>
      cases hs
      exact ⟨_, n, rfl, len_rep m h e, q _ _ (Ext.refl ..) m (.int _)⟩
  · cases e
theorem cz_abs : CallZ K ca (fun xs H Q => ∃ i, xs = [.int i] ∧ Q (.int (if i < 0 then -i else i)) H) (call1 absD) := by
  intro H r S xs vs d Q m hs e q
  unfold call1 at e
  split at e
  · unfold absD at e
    split at e
    · cases e
      cases hs with
      | cons h hs =>
        cases hs; cases h
        exact ⟨_, rfl, q _ _ (Ext.refl ..) m (.int _)⟩
    · cases e
  · cases e
theorem cz_int : CallZ K ca rInt1 (call1 intD) := by
  intro H r S xs vs d Q m hs e q
  unfold call1 at e
  split at e
  · cases hs with
    | cons h hs =>
      cases hs
      unfold intD at e
      split at e
      · cases h; cases e; exact .inl (.inl ⟨_, rfl, q _ _ (Ext.refl ..) m (.int _)⟩)
      · cases h; cases e; exact .inl (.inr ⟨_, rfl, q _ _ (Ext.refl ..) m (.int _)⟩)
      · split at e
        · rename_i n hn
          split at e
          · rename_i hl
            cases h; cases e; exact .inr ⟨_, n, rfl, hn, hl, q _ _ (Ext.refl ..) m (.int _)⟩
          · cases e
        · cases e
      · cases e
  · cases e
theorem cz_str : CallZ K ca (fun xs H Q => ∃ i, xs = [.int i] ∧ i.natAbs.log2 < 1920 ∧ Q (.str (toString i)) H) (call1 strD) := by
  intro H r S xs vs d Q m hs e q
  unfold call1 at e
  split at e
  · unfold strD at e
    split at e
    · split at e
      · rename_i hl
        cases e
        cases hs with
        | cons h hs =>
          cases hs; cases h
          exact ⟨_, rfl, hl, q _ _ (Ext.refl ..) m (.str _)⟩
      · cases e
    · cases e
  · cases e
theorem cz_tup : CallZ K ca (fun xs H Q => ∃ p ys, xs = [.ref p] ∧ ((SqL K H p ys ∧ ∀ l, H l = none → Q (.ref l) (upd H l (.tup ys))) ∨ (SqT K H p ys ∧ Q (.ref p) H))) (call1 tupD) := by
  intro H r S xs vs d Q m hs e q
  unfold call1 at e
  split at e
  · cases hs with
    | cons h hs =>
      cases hs
      unfold tupD at e
      split at e
      · cases e
        cases h with
        | tup h1 s1 => exact ⟨_, _, rfl, .inr ⟨h1, q _ _ (Ext.refl ..) m (.tup h1 s1)⟩⟩
      · rw [Option.map_eq_some_iff] at e
        obtain ⟨ds, e1, rfl⟩ := e
        obtain ⟨a, us, rfl, h1, s1⟩ := asLF_rep m h e1
        exact ⟨a, us, rfl, .inl ⟨h1, fun p hp => q _ _ (Ext.new hp) (m.new hp) (newTup hp s1)⟩⟩
  · cases e
theorem cz_lst : CallZ K ca (fun xs H Q => ∃ p ys, xs = [.ref p] ∧ (SqL K H p ys ∨ SqT K H p ys) ∧ ∀ l, H l = none → Q (.ref l) (upd H l (.lst ys))) (call1 lstD) := by
  intro H r S xs vs d Q m hs e q
  unfold call1 at e
  split at e
  · cases hs with
    | cons h hs =>
      cases hs
      unfold lstD at e
      rw [Option.map_eq_some_iff] at e
      obtain ⟨ds, e1, rfl⟩ := e
      obtain ⟨a, us, rfl, h1, s1⟩ := asQ_rep m h e1
      exact ⟨a, us, rfl, h1, fun p hp => q _ _ (Ext.new hp) (m.new hp) (newLst m hp s1)⟩
  · cases e
theorem cz_max2 : CallZ K ca (fun xs H Q => ∃ i j, xs = [.int i, .int j] ∧ Q (.int (if j > i then j else i)) H) max2D := by
  intro H r S xs vs d Q m hs e q
  unfold max2D at e
  split at e
  · cases e
    cases hs with
    | cons h hs =>
      cases hs with
      | cons h2 hs => cases hs; cases h; cases h2; exact ⟨_, _, rfl, q _ _ (Ext.refl ..) m (.int _)⟩
  · cases e
theorem cz_min2 : CallZ K ca (fun xs H Q => ∃ i j, xs = [.int i, .int j] ∧ Q (.int (if j < i then j else i)) H) min2D := by
  intro H r S xs vs d Q m hs e q
  unfold min2D at e
  split at e
  · cases e
    cases hs with
    | cons h hs =>
      cases hs with
      | cons h2 hs => cases hs; cases h; cases h2; exact ⟨_, _, rfl, q _ _ (Ext.refl ..) m (.int _)⟩
  · cases e
end

/-! ### repr -/
def reprD (S : Sto) (x : D) : Option D := match toP S x with
  | some p => if p.showable = true ∧ p.hasDict = false ∧ p.depth ≤ 60 ∧ p.shown.length ≤ 16777216 then some (.str p.shown) else none
  | none => none
def rRepr (K : PySem.W.Frag) : List V → Hp → VK → Prop := fun xs H Q => ∃ x p, xs = [x] ∧ Dp K H x p ∧ p.showable = true ∧ p.hasDict = false ∧ p.depth ≤ 60 ∧ p.shown.length ≤ sizeLine ∧ Q (.str p.shown) H
theorem cr_repr {X : Cx} (hg : X.A.guards = some []) (hu : X.A.units + 64 < cLine) : CallR X (.builtin "repr") (rRepr X.K) := by
  intro pins s σ H xs us Q I rv h
  obtain ⟨x, p, rfl, hd, h1, h2, h3, h4, q⟩ := h
  obtain ⟨u, rfl, ru⟩ := vals1 rv
  cases hd with
  | non => cases ru; exact P.repr_of_none ⟨.str _, H, I.tok _, ⟨_, rfl⟩, by rw [show (PyData.none).shown = ("None" : Str) by simp only [PyData.shown]] at q; exact q⟩
  | bl b => cases ru; exact P.repr_of_bool ⟨.str _, H, I.tok _, ⟨_, rfl⟩, by rw [PyData.shown_bool] at q; exact q⟩
  | int i =>
    obtain ⟨t, rfl⟩ := ru
    have hs : i.natAbs.log2 < 1920 := by simpa [PyData.showable] using h1
    exact P.repr_of_int hs ⟨.str _, H, I.tok _, ⟨_, rfl⟩, by rw [PyData.shown_int] at q; exact q⟩
  | str y =>
    obtain ⟨t, rfl⟩ := ru
    rw [PyData.shown_str] at q h4
    exact P.repr_of_str ⟨.str _, H, I.tok _, ⟨_, rfl⟩, q⟩ h4
  | @lst a vs ds hq ha =>
    cases ru
    obtain ⟨as, rd⟩ := Dp.reads I _ _ (.ref a) (Dp.lst hq ha) rfl
    exact repr_of_reads' rd h1 (fun z => by rw [h2] at z; cases z) hg (by omega) (fun b o e => e) (fun h' t tk hk => ⟨.str _, H, I.kept hk, ⟨_, rfl⟩, q⟩) h4
  | @tup a vs ds hq ha =>
    cases ru
    obtain ⟨as, rd⟩ := Dp.reads I _ _ (.ref a) (Dp.tup hq ha) rfl
    exact repr_of_reads' rd h1 (fun z => by rw [h2] at z; cases z) hg (by omega) (fun b o e => e) (fun h' t tk hk => ⟨.str _, H, I.kept hk, ⟨_, rfl⟩, q⟩) h4
section
variable {K : PySem.W.Frag} {ca : Nat → Addr}
theorem cz_repr : CallZ K ca (rRepr K) (call1 reprD) := by
  intro H r S xs vs d Q m hs e q
  unfold call1 at e
  split at e
  · cases hs with
    | cons h hs =>
      cases hs
      unfold reprD at e
      split at e
      · rename_i p e1
        split at e
        · rename_i hc
          cases e
          exact ⟨_, p, rfl, toP_dp m h e1, hc.1, hc.2.1, hc.2.2.1, by rw [sizeLine_eq]; exact hc.2.2.2, q _ _ (Ext.refl ..) m (.str _)⟩
        · cases e
      · cases e
  · cases e
end
end Z

/-! Z layer, part F: expressions, one lemma a construct, over readings that are made of plain functions. -/
namespace Z
open PySem PySem.Spec PyProof.Rows L2

theorem PE.imp {X : Cx} {e : Expr} {t t' : TE} (h : PE X e t) (i : ∀ s H Q, t' s H Q → t s H Q) : PE X e t' := ⟨fun pins s σ H Q I w => h.run pins s σ H Q I (i σ H Q w)⟩
theorem PT.imp {X : Cx} {e : Expr} {t t' : TT} (h : PT X e t) (i : ∀ s H Q, t' s H Q → t s H Q) : PT X e t' := ⟨fun pins s σ H Q I w => h.run pins s σ H Q I (i σ H Q w)⟩
theorem PW.imp {X : Cx} {e : Expr} {t t' : TT} (h : PW X e t) (i : ∀ s H Q, t' s H Q → t s H Q) : PW X e t' := ⟨fun wh pins s σ H Q I w => h.run wh pins s σ H Q I (i σ H Q w)⟩
theorem PA.imp {X : Cx} {e : List Expr} {t t' : TA} (h : PA X e t) (i : ∀ s H Q, t' s H Q → t s H Q) : PA X e t' := ⟨fun pos pins s σ H Q I w => h.run pos pins s σ H Q I (i σ H Q w)⟩
theorem PO.imp {X : Cx} {e : Option Expr} {t t' : TO} (h : PO X e t) (i : ∀ s H Q, t' s H Q → t s H Q) : PO X e t' := ⟨fun pins s σ H Q I w => h.run pins s σ H Q I (i σ H Q w)⟩

abbrev M (T : Type) := Sl → Sto → Out T
def mVar (i : Nat) : M D := fun sd S => match sd[i]? with
  | some (some d) => .ok d S
  | _ => .bad
def mC (d : D) : M D := fun _ S => .ok d S
def mBin (f : Sto → D → D → Option D) (a b : M D) : M D := fun sd S => (a sd S).bind fun x S1 => (b sd S1).bind fun y S2 => lift (f S2 x y) S2
def toB (x : D) (S : Sto) : Out Bool := match x with
  | .bl k => .ok k S
  | _ => .bad
def mBl (a : M D) : M Bool := fun sd S => (a sd S).bind toB
def mTru (a : M D) : M Bool := fun sd S => (a sd S).bind fun x S1 => lift (truP S1 x) S1
def mNotT (a : M Bool) : M Bool := fun sd S => (a sd S).bind fun k S1 => .ok (!k) S1
def mAndT (a b : M Bool) : M Bool := fun sd S => (a sd S).bind fun k S1 => if k then b sd S1 else .ok false S1
def mOrT (a b : M Bool) : M Bool := fun sd S => (a sd S).bind fun k S1 => if k then .ok true S1 else b sd S1
def mNot (a : M D) : M D := fun sd S => (a sd S).bind fun x S1 => match x with
  | .bl k => .ok (.bl (!k)) S1
  | _ => .bad
def mAnd (a b : M D) : M D := fun sd S => (a sd S).bind fun x S1 => match x with
  | .bl true => b sd S1
  | .bl false => .ok (.bl false) S1
  | _ => .bad
def mOr (a b : M D) : M D := fun sd S => (a sd S).bind fun x S1 => match x with
  | .bl true => .ok (.bl true) S1
  | .bl false => b sd S1
  | _ => .bad
def mIf (t : M Bool) (a b : M D) : M D := fun sd S => (t sd S).bind fun k S1 => if k then a sd S1 else b sd S1
def mChain (f g : Sto → D → D → Option D) (a b c : M D) : M D := fun sd S => (a sd S).bind fun x S1 => (b sd S1).bind fun y S2 => (lift (f S2 x y) S2).bind fun z S3 => match z with
  | .bl true => (c sd S3).bind fun w S4 => lift (g S4 y w) S4
  | .bl false => .ok (.bl false) S3
  | _ => .bad
def mNil : M (List D) := fun _ S => .ok [] S
def mCons (a : M D) (b : M (List D)) : M (List D) := fun sd S => (a sd S).bind fun x S1 => (b sd S1).bind fun xs S2 => .ok (x :: xs) S2
def mTup (a : M (List D)) : M D := fun sd S => (a sd S).bind fun xs S1 => if xs.length ≤ 16777216 then .ok (.tup xs) S1 else .bad
def mLst (a : M (List D)) : M D := fun sd S => (a sd S).bind fun xs S1 => if xs.length ≤ 16777216 then .ok (.lst xs) S1 else .bad
def mLstM (a : M (List D)) : M D := fun sd S => (a sd S).bind fun xs S1 => if xs.length ≤ 16777216 then .ok (.loc S1.length) (S1 ++ [.lst xs]) else .bad
def mCall (f : Sto → List D → Option D) (a : M (List D)) : M D := fun sd S => (a sd S).bind fun xs S1 => lift (f S1 xs) S1
def mIsi (a : M D) (t : Ty) : M D := fun sd S => (a sd S).bind fun x S1 => lift ((isiD S1 x t).map .bl) S1
def mIsiT (a : M D) (t t' : Ty) : M D := fun sd S => (a sd S).bind fun x S1 => lift (match isiD S1 x t, isiD S1 x t' with
  | some b, some c => some (.bl (b || c))
  | _, _ => none) S1
def mDicE : M D := fun _ S => .ok (.loc S.length) (S ++ [.dic []])
def mNo : M (Option Int) := fun _ S => .ok none S
def mPart (a : M D) : M (Option Int) := fun sd S => (a sd S).bind fun x S1 => match x with
  | .int i => .ok (some i) S1
  | _ => .bad
def mSl (a : M D) (lo hi : M (Option Int)) : M D := fun sd S => (a sd S).bind fun x S1 => (lo sd S1).bind fun l S2 => (hi sd S2).bind fun h S3 => lift (slP S3 x l h) S3

abbrev rO : RR (Option Int) (Option Int) := fun _ _ a b => a = b
def rP (K : PySem.W.Frag) (ca : Nat → Addr) (W : WX) (m : M (Option Int)) : TO := fun s H Q => ∃ sd r S, Slots K H r sd s ∧ Sim K ca H r S ∧ Ln K ca rO H r (m sd S) Q (fun c d H' => W c d s H')

section
variable {X : Cx} {ca : Nat → Addr} {W : WX} {a b c : Expr} {ma mb mc : M D} {pos : Pos}

theorem z_var {i : Nat} {x : Str} (h : PE X (.Name x pos) (tVar i)) : PE X (.Name x pos) (rE X.K ca W (mVar i)) := PE.imp h fun s H Q ⟨sd, r, S, hs, m, h⟩ => by
  unfold mVar at h
  split at h
  · rename_i d e
    obtain ⟨v, h1, h2⟩ := hs.at_ i d e
    exact ⟨v, h1, h.ok m h2⟩
  · exact h.elim
theorem z_c {e : Expr} {v : V} {d : D} (h : PE X e (tC v)) (hd : ∀ H r, Rep X.K H r d v) : PE X e (rE X.K ca W (mC d)) := PE.imp h fun s H Q ⟨sd, r, S, hs, m, h⟩ => h.ok m (hd H r)
theorem z_bin {op : Operator} {R : R2} {f : Sto → D → D → Option D} (ho : OpR X (binaryOp op) R) (hz : OpZ X.K ca R f) (ha : PE X a (rE X.K ca W ma)) (hb : PE X b (rE X.K ca W mb)) :
    PE X (.BinOp a op b pos) (rE X.K ca W (mBin f ma mb)) := PE.imp (pe_op ho ha hb) fun s H Q ⟨sd, r, S, hs, m, h⟩ =>
  ⟨sd, r, S, hs, m, h.bind fun d1 S1 v1 H1 r1 x1 m1 q1 h1 => ⟨sd, r1, S1, hs.mono x1, m1, h1.bind fun d2 S2 v2 H2 r2 x2 m2 q2 h2 => by
    obtain ⟨d, e, k⟩ := lift_ln h2
    exact hz m2 (q1.mono x2) q2 e fun v H' => k v H' r2⟩⟩
theorem z_cmp {op : CmpOp} {R : R2} {f : Sto → D → D → Option D} (ho : OpR X (compareOp op) R) (hz : OpZ X.K ca R f) (ha : PE X a (rE X.K ca W ma)) (hb : PE X b (rE X.K ca W mb)) (hm : behindInMarks op b = false) :
    PE X (.Compare a [op] [b] pos) (rE X.K ca W (mBin f ma mb)) := PE.imp (pe_cmpR ho ha hb hm) fun s H Q ⟨sd, r, S, hs, m, h⟩ =>
  ⟨sd, r, S, hs, m, h.bind fun d1 S1 v1 H1 r1 x1 m1 q1 h1 => ⟨sd, r1, S1, hs.mono x1, m1, h1.bind fun d2 S2 v2 H2 r2 x2 m2 q2 h2 => by
    obtain ⟨d, e, k⟩ := lift_ln h2
    exact hz m2 (q1.mono x2) q2 e fun v H' => k v H' r2⟩⟩
theorem toB_ln {K : PySem.W.Frag} {H : Hp} {r : Rg} {S : Sto} {x : D} {v : V} {Q : Bool → Hp → Prop} {Wx : XK} (m : Sim K ca H r S) (hx : Rep K H r x v) (h : Ln K ca rB H r (toB x S) Q Wx) : ∃ k, v = .bl k ∧ Q k H := by
  unfold toB at h
  split at h
  · cases hx; exact ⟨_, rfl, h.ok m rfl⟩
  · exact h.elim
theorem z_tcmp {op : CmpOp} {R : R2} {f : Sto → D → D → Option D} (ho : OpR X (compareOp op) R) (hz : OpZ X.K ca R f) (ha : PE X a (rE X.K ca W ma)) (hb : PE X b (rE X.K ca W mb)) (hm : behindInMarks op b = false) :
    PT X (.Compare a [op] [b] pos) (rT X.K ca W (mBl (mBin f ma mb))) := PT.imp (pt_cmpR ho ha hb hm) fun s H Q ⟨sd, r, S, hs, m, h⟩ => by
  have h' := h.bind (R := rV X.K) (Q1 := fun x H' => ∃ k, x = .bl k ∧ Q k H') fun d S1 v H1 r1 x1 m1 q1 h1 => toB_ln m1 q1 h1
  exact ⟨sd, r, S, hs, m, h'.bind fun d1 S1 v1 H1 r1 x1 m1 q1 h1 => ⟨sd, r1, S1, hs.mono x1, m1, h1.bind fun d2 S2 v2 H2 r2 x2 m2 q2 h2 => by
    obtain ⟨d, e, k⟩ := lift_ln h2
    exact hz m2 (q1.mono x2) q2 e fun v H' => k v H' r2⟩⟩
theorem z_ttru (ha : PE X a (rE X.K ca W ma)) (he : ∀ whole, isTrue a X.env whole = (do let v ← whole; standAt a.pos; holding [v] (truthy v))) : PT X a (rT X.K ca W (mTru ma)) :=
  PT.imp (pt_truth ha he) fun s H Q ⟨sd, r, S, hs, m, h⟩ => ⟨sd, r, S, hs, m, h.bind fun d S1 v H1 r1 x1 m1 q1 h1 => by
    obtain ⟨k, e, h2⟩ := lift_ln h1
    exact ⟨k, tru_rep m1 q1 e, h2 k H1 r1 (Ext.refl ..) m1 rfl⟩⟩
theorem z_tnot {m0 : M Bool} (ha : PT X a (rT X.K ca W m0)) : PT X (.UnaryOp .Not a pos) (rT X.K ca W (mNotT m0)) :=
  PT.imp (pt_not ha) fun s H Q ⟨sd, r, S, hs, m, h⟩ => ⟨sd, r, S, hs, m, h.bind fun d S1 v H1 r1 x1 m1 q1 h1 => by cases q1; exact h1.ok m1 rfl⟩
theorem z_wand {m0 m1 : M Bool} {rest : List Expr} (ha : PT X a (rT X.K ca W m0)) (hb : PW X (.BoolOp .And (b :: rest) pos) (rT X.K ca W m1)) : PW X (.BoolOp .And (a :: b :: rest) pos) (rT X.K ca W (mAndT m0 m1)) :=
  PW.imp (pw_and ha hb) fun s H Q ⟨sd, r, S, hs, m, h⟩ => ⟨sd, r, S, hs, m, h.bind fun d S1 v H1 r1 x1 m1 q1 h1 => by
    cases q1
    cases d with
    | true => exact ⟨sd, r1, S1, hs.mono x1, m1, h1⟩
    | false => exact h1.ok m1 rfl⟩
theorem z_wor {m0 m1 : M Bool} {rest : List Expr} (ha : PT X a (rT X.K ca W m0)) (hb : PW X (.BoolOp .Or (b :: rest) pos) (rT X.K ca W m1)) : PW X (.BoolOp .Or (a :: b :: rest) pos) (rT X.K ca W (mOrT m0 m1)) :=
  PW.imp (pw_or ha hb) fun s H Q ⟨sd, r, S, hs, m, h⟩ => ⟨sd, r, S, hs, m, h.bind fun d S1 v H1 r1 x1 m1 q1 h1 => by
    cases q1
    cases d with
    | true => exact h1.ok m1 rfl
    | false => exact ⟨sd, r1, S1, hs.mono x1, m1, h1⟩⟩
theorem z_not (ha : PE X a (rE X.K ca W ma)) : PE X (.UnaryOp .Not a pos) (rE X.K ca W (mNot ma)) :=
  PE.imp (pe_not ha) fun s H Q ⟨sd, r, S, hs, m, h⟩ => ⟨sd, r, S, hs, m, h.bind fun d S1 v H1 r1 x1 m1 q1 h1 => by
    split at h1
    · cases q1; exact ⟨_, rfl, h1.ok m1 (.bl _)⟩
    · exact h1.elim⟩
theorem z_and {rest : List Expr} (ha : PE X a (rE X.K ca W ma)) (hb : PE X (.BoolOp .And (b :: rest) pos) (rE X.K ca W mb)) : PE X (.BoolOp .And (a :: b :: rest) pos) (rE X.K ca W (mAnd ma mb)) :=
  PE.imp (pe_and ha hb) fun s H Q ⟨sd, r, S, hs, m, h⟩ => ⟨sd, r, S, hs, m, h.bind fun d S1 v H1 r1 x1 m1 q1 h1 => by
    split at h1
    · cases q1; exact ⟨true, rfl, iteT ⟨sd, r1, S1, hs.mono x1, m1, h1⟩⟩
    · cases q1; exact ⟨false, rfl, iteF (h1.ok m1 (.bl _))⟩
    · exact h1.elim⟩
theorem z_or {rest : List Expr} (ha : PE X a (rE X.K ca W ma)) (hb : PE X (.BoolOp .Or (b :: rest) pos) (rE X.K ca W mb)) : PE X (.BoolOp .Or (a :: b :: rest) pos) (rE X.K ca W (mOr ma mb)) :=
  PE.imp (pe_or ha hb) fun s H Q ⟨sd, r, S, hs, m, h⟩ => ⟨sd, r, S, hs, m, h.bind fun d S1 v H1 r1 x1 m1 q1 h1 => by
    split at h1
    · cases q1; exact ⟨true, rfl, iteT (h1.ok m1 (.bl _))⟩
    · cases q1; exact ⟨false, rfl, iteF ⟨sd, r1, S1, hs.mono x1, m1, h1⟩⟩
    · exact h1.elim⟩
theorem z_ifx {m0 : M Bool} (hc : PT X c (rT X.K ca W m0)) (ha : PE X a (rE X.K ca W ma)) (hb : PE X b (rE X.K ca W mb)) : PE X (.IfExp c a b pos) (rE X.K ca W (mIf m0 ma mb)) :=
  PE.imp (pe_ifExp hc ha hb) fun s H Q ⟨sd, r, S, hs, m, h⟩ => ⟨sd, r, S, hs, m, h.bind fun d S1 v H1 r1 x1 m1 q1 h1 => by
    cases q1
    cases d with
    | true => exact ⟨sd, r1, S1, hs.mono x1, m1, h1⟩
    | false => exact ⟨sd, r1, S1, hs.mono x1, m1, h1⟩⟩
theorem chain_in {K : PySem.W.Frag} {R R' : R2} {f g : Sto → D → D → Option D} {tc : TE} {s : St} {sd : Sl} {H : Hp} {r : Rg} {S : Sto} {Q : VK} (hz : OpZ K ca R f) (hz' : OpZ K ca R' g) {ta tb : TE}
    (ha : ∀ Q, (∃ sd r S, Slots K H r sd s ∧ Sim K ca H r S ∧ Ln K ca (rV K) H r (ma sd S) Q (fun c d H' => W c d s H')) → ta s H Q)
    (hb : ∀ H Q, (∃ sd r S, Slots K H r sd s ∧ Sim K ca H r S ∧ Ln K ca (rV K) H r (mb sd S) Q (fun c d H' => W c d s H')) → tb s H Q)
    (hc : ∀ H Q, (∃ sd r S, Slots K H r sd s ∧ Sim K ca H r S ∧ Ln K ca (rV K) H r (mc sd S) Q (fun c d H' => W c d s H')) → tc s H Q)
    (hs : Slots K H r sd s) (m : Sim K ca H r S) (h : Ln K ca (rV K) H r (mChain f g ma mb mc sd S) Q (fun c d H' => W c d s H')) : tChain R R' ta tb tc s H Q := by
  refine ha _ ⟨sd, r, S, hs, m, h.bind fun d1 S1 v1 H1 r1 x1 m1 q1 h1 => hb _ _ ⟨sd, r1, S1, hs.mono x1, m1, h1.bind fun d2 S2 v2 H2 r2 x2 m2 q2 h2 => ?_⟩⟩
  cases e : f S2 d1 d2 with
  | none => rw [e] at h2; exact h2.elim
  | some z =>
    rw [e] at h2
    refine hz m2 (q1.mono x2) q2 e fun v H' x' m' q' => ?_
    have h2 := Ln.ext x' h2
    simp only [lift, Out.bind] at h2
    split at h2
    · cases q'
      refine ⟨true, rfl, iteT (hc _ _ ⟨sd, r2, S2, (hs.mono x1).mono (x2.trans x'), m', h2.bind fun d4 S4 v4 H4 r4 x4 m4 q4 h4 => ?_⟩)⟩
      obtain ⟨d, e', k⟩ := lift_ln h4
      exact hz' m4 (q2.mono (x'.trans x4)) q4 e' fun v H' => k v H' r4
    · cases q'
      exact ⟨false, rfl, iteF (h2.ok m' (.bl _))⟩
    · exact h2.elim
theorem z_chain {op op' : CmpOp} {R R' : R2} {f g : Sto → D → D → Option D} (ho : OpR X (compareOp op) R) (ho' : OpR X (compareOp op') R') (hz : OpZ X.K ca R f) (hz' : OpZ X.K ca R' g)
    (ha : PE X a (rE X.K ca W ma)) (hb : PE X b (rE X.K ca W mb)) (hc : PE X c (rE X.K ca W mc)) (hm : lastMarks [op, op'] [b, c] = false) : PE X (.Compare a [op, op'] [b, c] pos) (rE X.K ca W (mChain f g ma mb mc)) :=
  PE.imp (pe_chain ho ho' ha hb hc hm) fun s H Q ⟨sd, r, S, hs, m, h⟩ => chain_in hz hz' (fun _ h => h) (fun _ _ h => h) (fun _ _ h => h) hs m h
theorem z_tchain {op op' : CmpOp} {R R' : R2} {f g : Sto → D → D → Option D} (ho : OpR X (compareOp op) R) (ho' : OpR X (compareOp op') R') (hz : OpZ X.K ca R f) (hz' : OpZ X.K ca R' g)
    (ha : PE X a (rE X.K ca W ma)) (hb : PE X b (rE X.K ca W mb)) (hc : PE X c (rE X.K ca W mc)) (hm : lastMarks [op, op'] [b, c] = false) : PT X (.Compare a [op, op'] [b, c] pos) (rT X.K ca W (mBl (mChain f g ma mb mc))) :=
  PT.imp (pt_chain ho ho' ha hb hc hm) fun s H Q ⟨sd, r, S, hs, m, h⟩ => by
    have h' := h.bind (R := rV X.K) (Q1 := fun x H' => ∃ k, x = .bl k ∧ Q k H') fun d S1 v H1 r1 x1 m1 q1 h1 => toB_ln m1 q1 h1
    exact chain_in hz hz' (fun _ h => h) (fun _ _ h => h) (fun _ _ h => h) hs m h'

/-! ### arguments, displays -/
theorem z_anil : PA X [] (rA X.K ca W mNil) := PA.imp pa_nil fun s H Q ⟨sd, r, S, hs, m, h⟩ => h.ok m .nil
theorem z_acons {es : List Expr} {ml : M (List D)} (ha : PE X a (rE X.K ca W ma)) (hl : PA X es (rA X.K ca W ml)) (hs : starEach (a :: es) X.env = (false, eval a X.env) :: starEach es X.env) : PA X (a :: es) (rA X.K ca W (mCons ma ml)) :=
  PA.imp (pa_cons ha hl hs) fun s H Q ⟨sd, r, S, hs, m, h⟩ => ⟨sd, r, S, hs, m, h.bind fun d1 S1 v1 H1 r1 x1 m1 q1 h1 => ⟨sd, r1, S1, hs.mono x1, m1, h1.bind fun d2 S2 v2 H2 r2 x2 m2 q2 h2 => h2.ok m2 (.cons (q1.mono x2) q2)⟩⟩
theorem z_tup {es : List Expr} {k : Nat} {ml : M (List D)} (h : PA X es (rA X.K ca W ml)) : PE X (.Tuple es k pos) (rE X.K ca W (mTup ml)) :=
  PE.imp (pe_tup h) fun s H Q ⟨sd, r, S, hs, m, h⟩ => ⟨sd, r, S, hs, m, h.bind fun d1 S1 v1 H1 r1 x1 m1 q1 h1 => by
    split at h1
    · rename_i hl
      refine ⟨by rw [sizeLine_eq, ← q1.length]; exact hl, fun p hp => ?_⟩
      exact h1 _ _ r1 (Ext.new hp) (m1.new hp) (newTup hp q1)
    · exact h1.elim⟩
theorem z_lst {es : List Expr} {ml : M (List D)} (h : PA X es (rA X.K ca W ml)) : PE X (.List es pos) (rE X.K ca W (mLst ml)) :=
  PE.imp (pe_lst h) fun s H Q ⟨sd, r, S, hs, m, h⟩ => ⟨sd, r, S, hs, m, h.bind fun d1 S1 v1 H1 r1 x1 m1 q1 h1 => by
    split at h1
    · rename_i hl
      refine ⟨by rw [sizeLine_eq, ← q1.length]; exact hl, fun p hp => ?_⟩
      exact h1 _ _ r1 (Ext.new hp) (m1.new hp) (newLst m1 hp q1)
    · exact h1.elim⟩
theorem newLoc {K : PySem.W.Frag} {H : Hp} {r : Rg} {S : Sto} {p : Addr} {ds : List D} {vs : List V} (m : Sim K ca H r S) (hp : H p = none) (hs : Reps K H r ds vs) : Sim K ca (upd H p (.lst vs)) (r.add p) (S ++ [.lst ds]) ∧ Rep K (upd H p (.lst vs)) (r.add p) (.loc S.length) (.ref p) := by
  refine ⟨m.newLoc hp ⟨vs, upd_same, hs.mono (Ext.newLoc hp)⟩, .loc ?_⟩
  show (r.l ++ [p])[S.length]? = some p
  rw [← m.len, List.getElem?_append_right (Nat.le_refl _), Nat.sub_self]; rfl
theorem z_lstM {es : List Expr} {ml : M (List D)} (h : PA X es (rA X.K ca W ml)) : PE X (.List es pos) (rE X.K ca W (mLstM ml)) :=
  PE.imp (pe_lst h) fun s H Q ⟨sd, r, S, hs, m, h⟩ => ⟨sd, r, S, hs, m, h.bind fun d1 S1 v1 H1 r1 x1 m1 q1 h1 => by
    split at h1
    · rename_i hl
      refine ⟨by rw [sizeLine_eq, ← q1.length]; exact hl, fun p hp => ?_⟩
      obtain ⟨n1, n2⟩ := newLoc m1 hp q1
      exact h1 _ _ _ (Ext.newLoc hp) n1 n2
    · exact h1.elim⟩

/-! ### subscripts -/
theorem z_ix (ha : PE X a (rE X.K ca W ma)) (hb : PE X b (rE X.K ca W mb)) (hs : PlainIx b) : PE X (.Subscript a b pos) (rE X.K ca W (mBin ixP ma mb)) := PE.imp (pe_ix ix_seq ha hb hs) fun s H Q ⟨sd, r, S, hs, m, h⟩ =>
  ⟨sd, r, S, hs, m, h.bind fun d1 S1 v1 H1 r1 x1 m1 q1 h1 => ⟨sd, r1, S1, hs.mono x1, m1, h1.bind fun d2 S2 v2 H2 r2 x2 m2 q2 h2 => by
    obtain ⟨d, e, k⟩ := lift_ln h2
    exact oz_ix m2 (q1.mono x2) q2 e fun v H' => k v H' r2⟩⟩
theorem z_pno : PO X none (rP X.K ca W mNo) := PO.imp po_none fun s H Q ⟨sd, r, S, hs, m, h⟩ => h.ok m rfl
theorem z_psome (ha : PE X a (rE X.K ca W ma)) : PO X (some a) (rP X.K ca W (mPart ma)) := PO.imp (po_some ha) fun s H Q ⟨sd, r, S, hs, m, h⟩ =>
  ⟨sd, r, S, hs, m, h.bind fun d1 S1 v1 H1 r1 x1 m1 q1 h1 => by
    split at h1
    · cases q1; exact ⟨_, rfl, h1.ok m1 rfl⟩
    · exact h1.elim⟩
theorem z_sl {lo hi : Option Expr} {m1 m2 : M (Option Int)} {p2 : Pos} (ha : PE X a (rE X.K ca W ma)) (hl : PO X lo (rP X.K ca W m1)) (hh : PO X hi (rP X.K ca W m2)) : PE X (.Subscript a (.Slice lo hi none p2) pos) (rE X.K ca W (mSl ma m1 m2)) :=
  PE.imp (pe_slice or_sl ha hl hh) fun s H Q ⟨sd, r, S, hs, m, h⟩ => ⟨sd, r, S, hs, m, h.bind fun d1 S1 v1 H1 r1 x1 m1 q1 h1 => ⟨sd, r1, S1, hs.mono x1, m1, h1.bind fun d2 S2 v2 H2 r2 x2 m2 q2 h2 => by
    cases q2
    exact ⟨sd, r2, S2, (hs.mono x1).mono x2, m2, h2.bind fun d3 S3 v3 H3 r3 x3 m3 q3 h3 => by
      cases q3
      obtain ⟨d, e, k⟩ := lift_ln h3
      exact oz_sl m3 ((q1.mono x2).mono x3) e fun v H' => k v H' r3⟩⟩⟩

/-! ### built-in functions -/
theorem z_callB {x : Str} {id : String} {es : List Expr} {p : Pos} {R : List V → Hp → VK → Prop} {f : Sto → List D → Option D} {ml : M (List D)} (hc : CallR X (.builtin id) R) (hz : CallZ X.K ca R f) (hg : Gl X x) (hm : X.mg x = none) (hv : bootBuiltins x = some (.builtin id))
    (ha : PA X (a :: es) (rA X.K ca W ml)) (hn : x ≠ "__name__") (hdb : (x == ("__debug__" : Str)) = false) (he : starEach (a :: es) X.env = (false, eval a X.env) :: starEach es X.env) (hpl : (backTo pos (starEach es X.env)).any (·.1) = false) :
    PE X (.Call (.Name x p) (a :: es) [] pos) (rE X.K ca W (mCall f ml)) := PE.imp (pe_callB hc hg hm hv ha hn hdb he hpl) fun s H Q ⟨sd, r, S, hs, m, h⟩ =>
  ⟨sd, r, S, hs, m, h.bind fun d1 S1 v1 H1 r1 x1 m1 q1 h1 => by
    obtain ⟨d, e, k⟩ := lift_ln h1
    exact hz m1 q1 e fun v H' => k v H' r1⟩
theorem z_callT {x : Str} {id : String} {es : List Expr} {p : Pos} {R : List V → Hp → VK → Prop} {f : Sto → List D → Option D} {ml : M (List D)} (hc : CallR X (.type id) R) (hz : CallZ X.K ca R f) (hg : Gl X x) (hm : X.mg x = none) (hv : bootBuiltins x = some (.type id))
    (ha : PA X (a :: es) (rA X.K ca W ml)) (hn : x ≠ "__name__") (hdb : (x == ("__debug__" : Str)) = false) (he : starEach (a :: es) X.env = (false, eval a X.env) :: starEach es X.env) (hpl : (backTo pos (starEach es X.env)).any (·.1) = false) :
    PE X (.Call (.Name x p) (a :: es) [] pos) (rE X.K ca W (mCall f ml)) := PE.imp (pe_callTy hc hg hm hv ha hn hdb he hpl) fun s H Q ⟨sd, r, S, hs, m, h⟩ =>
  ⟨sd, r, S, hs, m, h.bind fun d1 S1 v1 H1 r1 x1 m1 q1 h1 => by
    obtain ⟨d, e, k⟩ := lift_ln h1
    exact hz m1 q1 e fun v H' => k v H' r1⟩
theorem z_isi {x tn : Str} {t : Ty} {p p2 : Pos} (hg : Gl X "isinstance") (hm : X.mg "isinstance" = none) (hgt : Gl X tn) (hmt : X.mg tn = none) (hvt : bootBuiltins tn = some (.type t.nm)) (hnt : tn ≠ "__name__") (hdt : (tn == ("__debug__" : Str)) = false)
    (ha : PE X a (rE X.K ca W ma)) (hs1 : starEach [a, .Name tn p2] X.env = (false, eval a X.env) :: starEach [.Name tn p2] X.env) : PE X (.Call (.Name "isinstance" p) [a, .Name tn p2] [] pos) (rE X.K ca W (mIsi ma t)) :=
  PE.imp (pe_callB call_isi hg hm (by decide +kernel) (pa_cons ha (pa_cons (pe_bltn (v := .ty t.nm) hgt hmt hvt rfl hnt hdt) pa_nil) hs1) (he := hs1)) fun s H Q ⟨sd, r, S, hs, m, h⟩ =>
  ⟨sd, r, S, hs, m, h.bind fun d1 S1 v1 H1 r1 x1 m1 q1 h1 => by
    obtain ⟨d, e, k⟩ := lift_ln h1
    rw [Option.map_eq_some_iff] at e
    obtain ⟨bb, e, rfl⟩ := e
    obtain ⟨n, t1, t2⟩ := isi_rep m1 q1 e
    exact ⟨v1, .ty t.nm, .type n, .type t.nm, bb, rfl, .ty _, t1, t2, k _ _ r1 (Ext.refl ..) m1 (.bl _)⟩⟩
theorem z_isiT {tn tn' : Str} {t t' : Ty} {p p2 p3 p4 : Pos} {k : Nat} (hg : Gl X "isinstance") (hm : X.mg "isinstance" = none) (hgt : Gl X tn) (hmt : X.mg tn = none) (hvt : bootBuiltins tn = some (.type t.nm)) (hnt : tn ≠ "__name__") (hdt : (tn == ("__debug__" : Str)) = false)
    (hgt' : Gl X tn') (hmt' : X.mg tn' = none) (hvt' : bootBuiltins tn' = some (.type t'.nm)) (hnt' : tn' ≠ "__name__") (hdt' : (tn' == ("__debug__" : Str)) = false)
    (ha : PE X a (rE X.K ca W ma)) (hs1 : starEach [a, .Tuple [.Name tn p2, .Name tn' p3] k p4] X.env = (false, eval a X.env) :: starEach [.Tuple [.Name tn p2, .Name tn' p3] k p4] X.env) : PE X (.Call (.Name "isinstance" p) [a, .Tuple [.Name tn p2, .Name tn' p3] k p4] [] pos) (rE X.K ca W (mIsiT ma t t')) :=
  PE.imp (pe_callB call_isiT hg hm (by decide +kernel) (pa_cons ha (pa_cons (pe_tup (pa_cons (pe_bltn (v := .ty t.nm) hgt hmt hvt rfl hnt hdt) (pa_cons (pe_bltn (v := .ty t'.nm) hgt' hmt' hvt' rfl hnt' hdt') pa_nil))) pa_nil) hs1) (he := hs1)) fun s H Q ⟨sd, r, S, hs, m, h⟩ =>
  ⟨sd, r, S, hs, m, h.bind fun d1 S1 v1 H1 r1 x1 m1 q1 h1 => by
    obtain ⟨d, e, kk⟩ := lift_ln h1
    split at e
    · rename_i b c e1 e2
      cases e
      refine ⟨by rw [sizeLine_eq]; show 2 ≤ 16777216; decide, fun tp htp => ?_⟩
      obtain ⟨n, t1, t2⟩ := isi_rep2 (m1.new (o := .tup [.ty t.nm, .ty t'.nm]) htp) (q1.mono (Ext.new htp)) e1 e2
      exact ⟨v1, tp, [.ty t.nm, .ty t'.nm], .type n, [.type t.nm, .type t'.nm], _, rfl, upd_same .., .cons (.ty _) (.cons (.ty _) .nil), t1, t2, kk _ _ r1 (Ext.new htp) (m1.new htp) (.bl _)⟩
    · cases e⟩
theorem z_dicE : PE X (.Dict [] [] pos) (rE X.K ca W mDicE) := PE.imp pe_dnewK fun s H Q ⟨sd, r, S, hs, m, h⟩ p hp =>
  h _ _ (r.add p) (Ext.newLoc hp) (m.newLoc hp ⟨[], upd_same .., .nil⟩) (.loc (by show (r.l ++ [p])[S.length]? = some p; rw [List.getElem?_append_right (by rw [m.len]; exact Nat.le_refl _), m.len, Nat.sub_self]; rfl))
end
end Z

/-! Z layer, part G: what is walked (sources), targets, comprehensions. -/
namespace Z
open PySem PySem.Spec PyProof.Rows L2

/-! ### facts that stay -/
structure Stb (P : Hp → Rg → Prop) : Prop where
  mono : ∀ {H : Hp} {r : Rg} {H' : Hp} {r' : Rg}, Ext H r H' r' → P H r → P H' r'
  hide : ∀ {H : Hp} {r : Rg} {a : Addr} {o : HO}, H a = none → P H r → P (upd H a o) (r.hide a)
  chg : ∀ {H : Hp} {r : Rg} {a : Addr} {xs : List V} {o : HO}, H a = some (.lst xs) → a ∈ r.p → P H r → P (upd H a o) r
theorem Stb.const {p : Prop} : Stb fun _ _ => p := ⟨fun _ h => h, fun _ h => h, fun _ _ h => h⟩
theorem Stb.and {P Q : Hp → Rg → Prop} (a : Stb P) (b : Stb Q) : Stb fun H r => P H r ∧ Q H r := ⟨fun e h => ⟨a.mono e h.1, b.mono e h.2⟩, fun e h => ⟨a.hide e h.1, b.hide e h.2⟩, fun e i h => ⟨a.chg e i h.1, b.chg e i h.2⟩⟩
section
variable {K : PySem.W.Frag} {ca : Nat → Addr}
theorem ne_upd {H : Hp} {a b : Addr} {o u : HO} {xs : List V} (h : H b = some u) (ha : H a = some (.lst xs)) (hu : u ≠ .lst xs) : upd H a o b = some u := by
  rw [upd_ne (fun e => by rw [e, ha] at h; exact hu (Option.some.inj h).symm)]; exact h
theorem stb_sqt {a : Addr} {xs : List V} : Stb fun H _ => SqT K H a xs := by
  refine ⟨fun e h => e.rdT h, fun hn h => (Ext.new (r := ⟨[], []⟩) hn).rdT h, fun ha _ h => ?_⟩
  rcases h with (h | ⟨o, h⟩) | h
  · exact .inl (.inl (ne_upd h ha (fun z => nomatch z)))
  · exact .inl (.inr ⟨o, ne_upd h ha (fun z => nomatch z)⟩)
  · exact .inr h
theorem stb_fl {a : Addr} {xs : List V} : Stb fun H _ => FL K H a xs := by
  refine ⟨fun e h => e.fl h, fun hn h => (Ext.new (r := ⟨[], []⟩) hn).fl h, fun ha _ h => ?_⟩
  rcases h with ⟨o, h⟩ | h
  · exact .inl ⟨o, ne_upd h ha (fun z => nomatch z)⟩
  · exact .inr h
mutual
theorem Rep.hide {H : Hp} {r : Rg} {a : Addr} {o : HO} (ha : H a = none) : ∀ {d : D} {v : V}, Rep K H r d v → Rep K (upd H a o) (r.hide a) d v
  | _, _, .non => .non
  | _, _, .bl b => .bl b
  | _, _, .int i => .int i
  | _, _, .str x => .str x
  | _, _, .tup h hs => .tup (stb_sqt.hide (r := r) ha h) (Reps.hide ha hs)
  | _, _, .lst h hn hp hs => .lst (by rw [upd_ne (ne_of_none h ha)]; exact h) hn (fun z => by
      rcases List.mem_cons.mp z with z | z
      · subst z; rw [ha] at h; cases h
      · exact hp z) (Reps.hide ha hs)
  | _, _, .fro h hs => .fro (stb_fl.hide (r := r) ha h) (Reps.hide ha hs)
  | _, _, .loc h => .loc h
theorem Reps.hide {H : Hp} {r : Rg} {a : Addr} {o : HO} (ha : H a = none) : ∀ {ds : List D} {vs : List V}, Reps K H r ds vs → Reps K (upd H a o) (r.hide a) ds vs
  | _, _, .nil => .nil
  | _, _, .cons h hs => .cons (Rep.hide ha h) (Reps.hide ha hs)
end
mutual
theorem Rep.chg {H : Hp} {r : Rg} {a : Addr} {xs : List V} {o : HO} (ha : H a = some (.lst xs)) (hm : a ∈ r.p) : ∀ {d : D} {v : V}, Rep K H r d v → Rep K (upd H a o) r d v
  | _, _, .non => .non
  | _, _, .bl b => .bl b
  | _, _, .int i => .int i
  | _, _, .str x => .str x
  | _, _, .tup h hs => .tup (stb_sqt.chg ha hm h) (Reps.chg ha hm hs)
  | _, _, .lst h hn hp hs => .lst (by rw [upd_ne (fun e => hp (by rw [e]; exact hm))]; exact h) hn hp (Reps.chg ha hm hs)
  | _, _, .fro h hs => .fro (stb_fl.chg ha hm h) (Reps.chg ha hm hs)
  | _, _, .loc h => .loc h
theorem Reps.chg {H : Hp} {r : Rg} {a : Addr} {xs : List V} {o : HO} (ha : H a = some (.lst xs)) (hm : a ∈ r.p) : ∀ {ds : List D} {vs : List V}, Reps K H r ds vs → Reps K (upd H a o) r ds vs
  | _, _, .nil => .nil
  | _, _, .cons h hs => .cons (Rep.chg ha hm h) (Reps.chg ha hm hs)
end
/-- r' knows all that r knows, and forbids no address that r lets a list stand at -/
structure Mv (r r' : Rg) : Prop where
  at_ : ∀ (n : Nat) (a : Addr), r.l[n]? = some a → r'.l[n]? = some a
  out : ∀ a, a ∉ r.l → a ∉ r.p → a ∉ r'.l ∧ a ∉ r'.p
mutual
theorem Rep.move {H : Hp} {r r' : Rg} (e : Mv r r') : ∀ {d : D} {v : V}, Rep K H r d v → Rep K H r' d v
  | _, _, .non => .non
  | _, _, .bl b => .bl b
  | _, _, .int i => .int i
  | _, _, .str x => .str x
  | _, _, .tup h hs => .tup h (Reps.move e hs)
  | _, _, .lst h hn hq hs => .lst h (e.out _ hn hq).1 (e.out _ hn hq).2 (Reps.move e hs)
  | _, _, .fro h hs => .fro h (Reps.move e hs)
  | _, _, .loc h => .loc (e.at_ _ _ h)
theorem Reps.move {H : Hp} {r r' : Rg} (e : Mv r r') : ∀ {ds : List D} {vs : List V}, Reps K H r ds vs → Reps K H r' ds vs
  | _, _, .nil => .nil
  | _, _, .cons h hs => .cons (Rep.move e h) (Reps.move e hs)
end
theorem stb_rep {d : D} {v : V} : Stb fun H r => Rep K H r d v := ⟨fun e h => h.mono e, fun e h => h.hide e, fun e i h => h.chg e i⟩
theorem stb_reps {ds : List D} {vs : List V} : Stb fun H r => Reps K H r ds vs := ⟨fun e h => h.mono e, fun e h => h.hide e, fun e i h => h.chg e i⟩
theorem RepF.hide {κ : Type} {H : Hp} {r : Rg} {a : Addr} {o : HO} (ha : H a = none) : ∀ {ds : List (κ × D)} {vs : List (κ × V)}, RepF K H r ds vs → RepF K (upd H a o) (r.hide a) ds vs
  | _, _, .nil => .nil
  | _, _, .cons h hs => .cons (h.hide ha) (RepF.hide ha hs)
theorem RepF.chg {κ : Type} {H : Hp} {r : Rg} {a : Addr} {xs : List V} {o : HO} (ha : H a = some (.lst xs)) (hm : a ∈ r.p) : ∀ {ds : List (κ × D)} {vs : List (κ × V)}, RepF K H r ds vs → RepF K (upd H a o) r ds vs
  | _, _, .nil => .nil
  | _, _, .cons h hs => .cons (h.chg ha hm) (RepF.chg ha hm hs)
theorem RepF.move {κ : Type} {H : Hp} {r r' : Rg} (e : Mv r r') : ∀ {ds : List (κ × D)} {vs : List (κ × V)}, RepF K H r ds vs → RepF K H r' ds vs
  | _, _, .nil => .nil
  | _, _, .cons h hs => .cons (h.move e) (RepF.move e hs)
theorem ORep.move {H : Hp} {r r' : Rg} {o : MO} {a : Addr} (e : Mv r r') (h : ORep K ca H r o a) : ORep K ca H r' o a := by
  cases o with
  | lst ds => obtain ⟨vs, h3, h4⟩ := h; exact ⟨vs, h3, h4.move e⟩
  | ins c fs => obtain ⟨dx, gs, h3, h4⟩ := h; exact ⟨dx, gs, h3, h4.move e⟩
  | dic ds => obtain ⟨vs, h3, h4⟩ := h; exact ⟨vs, h3, h4.move e⟩
  | dit ds => obtain ⟨vs, h3, h4⟩ := h; exact ⟨vs, h3, h4.move e⟩
theorem stb_slots {sd : Sl} {s : St} : Stb fun H r => Slots K H r sd s :=
  ⟨fun e h => h.mono e, fun e h => ⟨h.len, fun i d q => let ⟨v, h1, h2⟩ := h.at_ i d q; ⟨v, h1, h2.hide e⟩⟩, fun e i h => ⟨h.len, fun j d q => let ⟨v, h1, h2⟩ := h.at_ j d q; ⟨v, h1, h2.chg e i⟩⟩⟩
theorem Sim.hide {H : Hp} {r : Rg} {S : Sto} {a : Addr} {o : HO} (m : Sim K ca H r S) (ha : H a = none) : Sim K ca (upd H a o) (r.hide a) S := by
  refine ⟨m.len, m.nd, fun n u h => ?_, fun b hb => ?_⟩
  · obtain ⟨b, h1, h2⟩ := m.obj n u h
    have hb : upd H a o b = H b := upd_ne fun e => m.tracked (e ▸ List.mem_of_getElem? h1) ha
    refine ⟨b, h1, ?_⟩
    cases u with
    | lst ds => obtain ⟨vs, h3, h4⟩ := h2; exact ⟨vs, by rw [hb]; exact h3, h4.hide ha⟩
    | ins c fs => obtain ⟨dx, gs, h3, h4⟩ := h2; exact ⟨dx, gs, by rw [hb]; exact h3, h4.hide ha⟩
    | dic ds => obtain ⟨vs, h3, h4⟩ := h2; exact ⟨vs, by rw [hb]; exact h3, h4.hide ha⟩
    | dit ds => obtain ⟨vs, h3, h4⟩ := h2; exact ⟨vs, by rw [hb]; exact h3, h4.hide ha⟩
  · rcases List.mem_cons.mp hb with rfl | hb
    · rw [upd_same]; simp
    · exact (Ext.new (r := r) ha).there b (m.prv b hb)
theorem Sim.chg {H : Hp} {r : Rg} {S : Sto} {a : Addr} {xs : List V} {o : HO} (m : Sim K ca H r S) (ha : H a = some (.lst xs)) (hm : a ∈ r.p) (hl : a ∉ r.l) : Sim K ca (upd H a o) r S := by
  refine ⟨m.len, m.nd, fun n u h => ?_, fun b hb => ?_⟩
  · obtain ⟨b, h1, h2⟩ := m.obj n u h
    have hb : upd H a o b = H b := upd_ne fun e => hl (e ▸ List.mem_of_getElem? h1)
    refine ⟨b, h1, ?_⟩
    cases u with
    | lst ds => obtain ⟨vs, h3, h4⟩ := h2; exact ⟨vs, by rw [hb]; exact h3, h4.chg ha hm⟩
    | ins c fs => obtain ⟨dx, gs, h3, h4⟩ := h2; exact ⟨dx, gs, by rw [hb]; exact h3, h4.chg ha hm⟩
    | dic ds => obtain ⟨vs, h3, h4⟩ := h2; exact ⟨vs, by rw [hb]; exact h3, h4.chg ha hm⟩
    | dit ds => obtain ⟨vs, h3, h4⟩ := h2; exact ⟨vs, by rw [hb]; exact h3, h4.chg ha hm⟩
  · by_cases e : b = a
    · subst e; rw [upd_same]; simp
    · rw [upd_ne e]; exact m.prv b hb
theorem Sim.move {H : Hp} {r r' : Rg} {S : Sto} (m : Sim K ca H r S) (e : Mv r r') (hl : r'.l = r.l) (hp : ∀ a ∈ r'.p, a ∈ r.p) : Sim K ca H r' S := by
  refine ⟨by rw [hl]; exact m.len, by rw [hl]; exact m.nd, fun n u h => ?_, fun b hb => m.prv b (hp b hb)⟩
  obtain ⟨b, h1, h2⟩ := m.obj n u h
  exact ⟨b, e.at_ _ _ h1, h2.move e⟩
end

/-! ### sources -/
inductive Src where
  | vals (ds : List D)
  | cell (n len : Nat)
def Src.len : Src → Nat
  | .vals ds => ds.length
  | .cell _ k => k
def Src.at (s : Src) (S : Sto) (i : Nat) : Option D := match s with
  | .vals ds => ds[i]?
  | .cell n k => match S[n]? with
    | some (.lst xs) => if xs.length = k then xs[i]? else none
    | _ => none
def Src.fin (s : Src) (S : Sto) : Bool := match s with
  | .vals _ => true
  | .cell n k => match S[n]? with
    | some (.lst xs) => decide (xs.length = k)
    | _ => false
def SrcAt (K : PySem.W.Frag) (ca : Nat → Addr) (H : Hp) (r : Rg) (s : Src) (J : It) : Prop :=
  ∃ P : Hp → Rg → Prop, Stb P ∧ P H r ∧ ∀ H r S, P H r → Sim K ca H r S → ∀ i,
    (∀ d, s.at S i = some d → J.go i H ∧ ∀ x H', J.yld i H x H' → Ext H r H' r ∧ Sim K ca H' r S ∧ Rep K H' r d x) ∧ (i = s.len → s.fin S = true → J.stop i H)
def rI (K : PySem.W.Frag) (ca : Nat → Addr) (W : WX) (m : M Src) : TI := fun s H R => ∃ sd r S, Slots K H r sd s ∧ Sim K ca H r S ∧ Ln K ca (SrcAt K ca) H r (m sd S) R (fun c d H' => W c d s H')

section
variable {K : PySem.W.Frag} {ca : Nat → Addr} {H : Hp} {r : Rg}
theorem srcT {a : Addr} {ds : List D} {vs : List V} (h : SqT K H a vs) (hs : Reps K H r ds vs) : SrcAt K ca H r (.vals ds) (Itt K a) := by
  refine ⟨fun H r => SqT K H a vs ∧ Reps K H r ds vs, stb_sqt.and stb_reps, ⟨h, hs⟩, fun H r S p m i => ⟨fun d e => ?_, fun e _ => ⟨vs, p.1, ?_⟩⟩⟩
  · obtain ⟨v, h1, h2⟩ := p.2.get e
    refine ⟨⟨vs, v, p.1, h1⟩, fun x H' y => ?_⟩
    obtain ⟨rfl, y⟩ := y
    have := y vs p.1
    rw [h1] at this; cases this
    exact ⟨Ext.refl .., m, h2⟩
  · rw [e]; exact Nat.le_of_eq p.2.length.symm
theorem srcF {a : Addr} {ds : List D} {vs : List V} (h : FL K H a vs) (hs : Reps K H r ds vs) : SrcAt K ca H r (.vals ds) (Itl K a) := by
  refine ⟨fun H r => FL K H a vs ∧ Reps K H r ds vs, stb_fl.and stb_reps, ⟨h, hs⟩, fun H r S p m i => ⟨fun d e => ?_, fun e _ => ⟨vs, p.1.sq, ?_⟩⟩⟩
  · obtain ⟨v, h1, h2⟩ := p.2.get e
    refine ⟨⟨vs, v, p.1.sq, h1⟩, fun x H' y => ?_⟩
    obtain ⟨rfl, y⟩ := y
    have := y vs p.1.sq
    rw [h1] at this; cases this
    exact ⟨Ext.refl .., m, h2⟩
  · rw [e]; exact Nat.le_of_eq p.2.length.symm
theorem srcL {a : Addr} {ds : List D} {vs : List V} (h : H a = some (.lst vs)) (hn : a ∉ r.l) (hp : a ∉ r.p) (hs : Reps K H r ds vs) : SrcAt K ca H r (.vals ds) (Itl K a) := by
  refine ⟨fun H r => Rep K H r (.lst ds) (.ref a), stb_rep, .lst h hn hp hs, fun H r S p m i => ?_⟩
  cases p with
  | @lst _ ws _ h hn hp hs =>
    refine ⟨fun d e => ?_, fun e _ => ⟨ws, .of h, ?_⟩⟩
    · obtain ⟨v, h1, h2⟩ := hs.get e
      refine ⟨⟨ws, v, .of h, h1⟩, fun x H' y => ?_⟩
      obtain ⟨rfl, y⟩ := y
      have := y ws (.of h)
      rw [h1] at this; cases this
      exact ⟨Ext.refl .., m, h2⟩
    · rw [e]; exact Nat.le_of_eq hs.length.symm
theorem srcC {a : Addr} {n k : Nat} (h : r.l[n]? = some a) : SrcAt K ca H r (.cell n k) (Itl K a) := by
  refine ⟨fun _ r => r.l[n]? = some a, ⟨fun e h => e.at h, fun _ h => h, fun _ _ h => h⟩, h, fun H r S p m i => ⟨fun d e => ?_, fun e f => ?_⟩⟩
  · simp only [Src.at] at e
    split at e
    · rename_i xs e1
      split at e
      · obtain ⟨b, h1, vs, h2, h3⟩ := m.obj n _ e1
        rw [p] at h1; cases h1
        obtain ⟨v, h4, h5⟩ := h3.get e
        refine ⟨⟨vs, v, .of h2, h4⟩, fun x H' y => ?_⟩
        obtain ⟨rfl, y⟩ := y
        have := y vs (.of h2)
        rw [h4] at this; cases this
        exact ⟨Ext.refl .., m, h5⟩
      · cases e
    · cases e
  · simp only [Src.fin] at f
    split at f
    · rename_i xs e1
      obtain ⟨b, h1, vs, h2, h3⟩ := m.obj n _ e1
      rw [p] at h1; cases h1
      have hk := of_decide_eq_true f
      refine ⟨vs, .of h2, ?_⟩
      rw [e, ← h3.length, hk]
      exact Nat.le_refl _
    · cases f
theorem srcR {lo : Int} {n : Nat} : SrcAt K ca H r (.vals ((List.range n).map fun (i : Nat) => D.int (lo + (i : Int)))) (Itr lo n) := by
  refine ⟨fun _ _ => True, Stb.const, trivial, fun H r S _ m i => ⟨fun d e => ?_, fun e _ => ?_⟩⟩
  · simp only [Src.at, List.getElem?_map] at e
    by_cases hi : i < n
    · rw [List.getElem?_range hi] at e
      cases e
      refine ⟨hi, fun x H' y => ?_⟩
      obtain ⟨rfl, rfl⟩ := y
      exact ⟨Ext.refl .., m, .int _⟩
    · rw [List.getElem?_eq_none (by simpa using hi)] at e; cases e
  · show n ≤ i
    rw [e]; simp [Src.len]
end

def srcOf (S : Sto) (x : D) : Option Src := match x with
  | .tup ds => some (.vals ds)
  | .lst ds => some (.vals ds)
  | .fro ds => some (.vals ds)
  | .loc n => match S[n]? with
    | some (.lst xs) => some (.cell n xs.length)
    | _ => none
  | _ => none
def mSeq (a : M D) : M Src := fun sd S => (a sd S).bind fun x S1 => lift (srcOf S1 x) S1
def rngV (lo hi : Int) : Option Src := if -4611686018427387904 ≤ lo ∧ lo < 4611686018427387904 ∧ -4611686018427387904 ≤ hi ∧ hi < 4611686018427387904 then some (.vals ((List.range (hi - lo).toNat).map fun (i : Nat) => D.int (lo + (i : Int)))) else none
def rng1 (xs : List D) : Option Src := match xs with
  | [.int j] => rngV 0 j
  | _ => none
def rng2 (xs : List D) : Option Src := match xs with
  | [.int i, .int j] => rngV i j
  | _ => none
def mRng (f : List D → Option Src) (a : M (List D)) : M Src := fun sd S => (a sd S).bind fun xs S1 => lift (f xs) S1

section
variable {X : Cx} {ca : Nat → Addr} {W : WX} {tg : Expr}
theorem PI.imp {it : Expr} {t t' : TI} (h : PI X tg it t) (i : ∀ s H Q, t' s H Q → t s H Q) : PI X tg it t' := ⟨fun pins s σ H Q I w => h.run pins s σ H Q I (i σ H Q w)⟩
theorem z_seq {a : Expr} {ma : M D} (ha : PE X a (rE X.K ca W ma)) : PI X tg a (rI X.K ca W (mSeq ma)) := by
  refine ⟨fun pins s σ H R I ⟨sd, r, S, hs, m, h⟩ => ?_⟩
  have key : iTup X.K (rE X.K ca W ma) σ H R ∨ iList X.K (rE X.K ca W ma) σ H R := by
    unfold mSeq at h
    cases e : ma sd S with
    | bad => rw [e] at h; exact h.elim
    | exc c fs S1 =>
      left
      exact ⟨sd, r, S, hs, m, by rw [e]; rw [e] at h; exact h⟩
    | ok d S1 =>
      rw [e] at h
      obtain ⟨src, e1, k⟩ := lift_ln (show Ln X.K ca (SrcAt X.K ca) H r (lift (srcOf S1 d) S1) R _ from h)
      have ln : ∀ Q, (∀ v H' r', Ext H r H' r' → Sim X.K ca H' r' S1 → Rep X.K H' r' d v → Q v H') → rE X.K ca W ma σ H Q := fun Q q => ⟨sd, r, S, hs, m, by rw [e]; exact q⟩
      unfold srcOf at e1
      split at e1
      · left; cases e1
        refine ln _ fun v H' r' x m' q => ?_
        cases q with
        | tup h1 s1 => exact ⟨_, rfl, ⟨_, h1⟩, k _ H' r' x m' (srcT h1 s1)⟩
      · right; cases e1
        refine ln _ fun v H' r' x m' q => ?_
        cases q with
        | lst h1 hn hp s1 => exact ⟨_, rfl, ⟨_, .of h1⟩, k _ H' r' x m' (srcL h1 hn hp s1)⟩
      · right; cases e1
        refine ln _ fun v H' r' x m' q => ?_
        cases q with
        | fro h1 s1 => exact ⟨_, rfl, ⟨_, h1.sq⟩, k _ H' r' x m' (srcF h1 s1)⟩
      · right
        split at e1
        · rename_i n xs e2
          cases e1
          refine ln _ fun v H' r' x m' q => ?_
          obtain ⟨a, rfl, h1, vs, h2, h3⟩ := m'.loc q e2
          exact ⟨_, rfl, ⟨_, .of h2⟩, k _ H' r' x m' (srcC h1)⟩
        · cases e1
      · cases e1
  rcases key with k | k
  · exact (pi_tup ha).run pins s σ H R I k
  · exact (pi_list ha).run pins s σ H R I k
theorem rng_ln {K : PySem.W.Frag} {H : Hp} {r : Rg} {S : Sto} {lo hi : Int} {R : It → Hp → Prop} {src : Src} (m : Sim K ca H r S) (e : rngV lo hi = some src) (k : ∀ v H' r', Ext H r H' r' → Sim K ca H' r' S → SrcAt K ca H' r' src v → R v H') :
    (-(2 ^ 62) ≤ lo ∧ lo < 2 ^ 62 ∧ -(2 ^ 62) ≤ hi ∧ hi < 2 ^ 62) ∧ R (Itr lo (hi - lo).toNat) H := by
  unfold rngV at e
  split at e
  · rename_i hb
    cases e
    exact ⟨by omega, k _ H r (Ext.refl ..) m srcR⟩
  · cases e
theorem z_rng1 {a : Expr} {p pos : Pos} {ml : M (List D)} (hg : Gl X "range") (hm : X.mg "range" = none) (ha : PA X [a] (rA X.K ca W ml)) (hs : starEach [a] X.env = [(false, eval a X.env)]) : PI X tg (.Call (.Name "range" p) [a] [] pos) (rI X.K ca W (mRng rng1 ml)) :=
  PI.imp (pi_range1 hg hm ha hs) fun s H R ⟨sd, r, S, hs, m, h⟩ => ⟨sd, r, S, hs, m, h.bind fun d1 S1 v1 H1 r1 x1 m1 q1 h1 => by
    obtain ⟨src, e, k⟩ := lift_ln h1
    unfold rng1 at e
    split at e
    · cases q1 with
      | cons h hs =>
        cases hs; cases h
        obtain ⟨b, q⟩ := rng_ln m1 e k
        exact ⟨_, rfl, b.2.2.1, b.2.2.2, by rw [Int.sub_zero] at q; exact q⟩
    · cases e⟩
theorem z_rng2 {a b : Expr} {p pos : Pos} {ml : M (List D)} (hg : Gl X "range") (hm : X.mg "range" = none) (ha : PA X [a, b] (rA X.K ca W ml)) (hs : starEach [a, b] X.env = [(false, eval a X.env), (false, eval b X.env)]) (hs2 : starEach [b] X.env = [(false, eval b X.env)]) :
    PI X tg (.Call (.Name "range" p) [a, b] [] pos) (rI X.K ca W (mRng rng2 ml)) :=
  PI.imp (pi_range2 hg hm ha hs hs2) fun s H R ⟨sd, r, S, hs, m, h⟩ => ⟨sd, r, S, hs, m, h.bind fun d1 S1 v1 H1 r1 x1 m1 q1 h1 => by
    obtain ⟨src, e, k⟩ := lift_ln h1
    unfold rng2 at e
    split at e
    · cases q1 with
      | cons h hs =>
        cases hs with
        | cons h2 hs =>
          cases hs; cases h; cases h2
          obtain ⟨b, q⟩ := rng_ln m1 e k
          exact ⟨_, _, rfl, b, q⟩
    · cases e⟩
end

/-! ### targets -/
abbrev GM := D → Sl → Sto → Option (Sl × Sto)
def rG (K : PySem.W.Frag) (ca : Nat → Addr) (ts : List Nat) (g : GM) : TG := fun v s H Q => ∃ sd r S d sd' S', Slots K H r sd s ∧ Sim K ca H r S ∧ Rep K H r d v ∧ g d sd S = some (sd', S') ∧
  ∀ s' H' r', Ext H r H' r' → Sim K ca H' r' S' → Slots K H' r' sd' s' → (∀ j, j ∉ ts → s'[j]? = s[j]?) → s'.length = s.length → Q s' H'
def rGs (K : PySem.W.Frag) (ca : Nat → Addr) (ts : List Nat) (g : List D → Sl → Sto → Option (Sl × Sto)) : TGs := fun vs s H Q => ∃ sd r S ds sd' S', Slots K H r sd s ∧ Sim K ca H r S ∧ Reps K H r ds vs ∧ g ds sd S = some (sd', S') ∧
  ∀ s' H' r', Ext H r H' r' → Sim K ca H' r' S' → Slots K H' r' sd' s' → (∀ j, j ∉ ts → s'[j]? = s[j]?) → s'.length = s.length → Q s' H'
def gNm (i : Nat) : GM := fun d sd S => some (sd.set i (some d), S)
def gsNil : List D → Sl → Sto → Option (Sl × Sto) := fun ds sd S => match ds with
  | [] => some (sd, S)
  | _ => none
def gsCons (g : GM) (gs : List D → Sl → Sto → Option (Sl × Sto)) : List D → Sl → Sto → Option (Sl × Sto) := fun ds sd S => match ds with
  | d :: ds => match g d sd S with
    | some (sd1, S1) => gs ds sd1 S1
    | none => none
  | [] => none
def gTp (n : Nat) (gs : List D → Sl → Sto → Option (Sl × Sto)) : GM := fun d sd S => match d with
  | .tup ds => if ds.length = n then gs ds sd S else none
  | _ => none
section
variable {X : Cx} {ca : Nat → Addr}
theorem PG.imp {tg : Expr} {t t' : TG} (h : PG X tg t) (i : ∀ v s H Q, t' v s H Q → t v s H Q) : PG X tg t' := ⟨fun pins s σ H v u Q I rv w => h.run pins s σ H v u Q I rv (i v σ H Q w)⟩
theorem PGs.imp {tg : List Expr} {t t' : TGs} (h : PGs X tg t) (i : ∀ v s H Q, t' v s H Q → t v s H Q) : PGs X tg t' := ⟨fun pins s σ H v u Q I rv w => h.run pins s σ H v u Q I rv (i v σ H Q w)⟩
theorem z_gname {i : Nat} {x : Str} {pos : Pos} (h : PG X (.Name x pos) (gName i)) : PG X (.Name x pos) (rG X.K ca [i] (gNm i)) := PG.imp h fun v s H Q ⟨sd, r, S, d, sd', S', hs, m, q, e, k⟩ => by
  cases e
  refine k _ H r (Ext.refl ..) m (hs.set q) (fun j hj => ?_) (List.length_set ..)
  exact List.getElem?_set_ne (fun e => hj (by simp [e]))
theorem z_gsnil : PGs X [] (rGs X.K ca [] gsNil) := PGs.imp pgs_nil fun vs s H Q ⟨sd, r, S, ds, sd', S', hs, m, q, e, k⟩ => by
  unfold gsNil at e
  split at e
  · cases e
    exact ⟨q.nil_of, k _ H r (Ext.refl ..) m hs (fun _ _ => rfl) rfl⟩
  · cases e
theorem z_gscons {a : Expr} {es : List Expr} {ts us : List Nat} {g : GM} {gs : List D → Sl → Sto → Option (Sl × Sto)} (h1 : PG X a (rG X.K ca ts g)) (h2 : PGs X es (rGs X.K ca us gs))
    (hs : (assignEach (a :: es) X.env).map (·.2) = assign a X.env :: (assignEach es X.env).map (·.2)) : PGs X (a :: es) (rGs X.K ca (ts ++ us) (gsCons g gs)) := PGs.imp (pgs_cons h1 h2 hs) fun vs s H Q ⟨sd, r, S, ds, sd', S', hs, m, q, e, k⟩ => by
  unfold gsCons at e
  split at e
  · split at e
    · rename_i sd1 S1 e1
      cases q with
      | cons q1 q2 =>
        refine ⟨_, _, rfl, sd, r, S, _, sd1, S1, hs, m, q1, e1, fun s1 H1 r1 x1 m1 hs1 f1 l1 => ?_⟩
        refine ⟨sd1, r1, S1, _, sd', S', hs1, m1, q2.mono x1, e, fun s2 H2 r2 x2 m2 hs2 f2 l2 => ?_⟩
        exact k s2 H2 r2 (x1.trans x2) m2 hs2 (fun j hj => by rw [f2 j fun z => hj (by simp [z]), f1 j fun z => hj (by simp [z])]) (l2.trans l1)
    · cases e
  · cases e
theorem z_gtup {es : List Expr} {k n : Nat} {pos : Pos} {ts : List Nat} {gs : List D → Sl → Sto → Option (Sl × Sto)} (hc : X.calm = true) (h : PGs X es (rGs X.K ca ts gs)) (hn : (assignEach es X.env).length = n) (hst : (assignEach es X.env).findIdx? (·.1) = none) :
    PG X (.Tuple es k pos) (rG X.K ca ts (gTp n gs)) := PG.imp (pg_tup hc h hn hst) fun v s H Q ⟨sd, r, S, d, sd', S', hs, m, q, e, k⟩ => by
  unfold gTp at e
  split at e
  · split at e
    · rename_i hl
      cases q with
      | tup h1 s1 => exact ⟨_, _, rfl, h1, by rw [← s1.length]; exact hl, sd, r, S, _, sd', S', hs, m, s1, e, k⟩
    · cases e
  · cases e
end

/-! ### comprehensions -/
def wipeD (sd : Sl) : List Nat → Sl
  | [] => sd
  | v :: vs => (wipeD sd vs).set v none
theorem wipeD_len (sd : Sl) : ∀ vs : List Nat, (wipeD sd vs).length = sd.length
  | [] => rfl
  | v :: vs => by unfold wipeD; rw [List.length_set, wipeD_len sd vs]
theorem wipeD_get (sd : Sl) (j : Nat) : ∀ vs : List Nat, (wipeD sd vs)[j]? = if j ∈ vs then (sd[j]?).map fun _ => none else sd[j]?
  | [] => by simp [wipeD]
  | v :: vs => by
    unfold wipeD
    by_cases h : v = j
    · subst h
      rw [List.getElem?_set]
      simp only [wipeD_len, ↓reduceIte, List.mem_cons, true_or]
      by_cases hl : v < sd.length
      · simp [hl]
      · simp [hl]
    · rw [List.getElem?_set_ne h, wipeD_get sd j vs]
      have : (j ∈ v :: vs) ↔ j ∈ vs := by
        rw [List.mem_cons]
        exact ⟨fun z => z.elim (fun e => absurd e.symm h) id, .inr⟩
      simp only [this]
theorem wipe_get (s : St) (j : Nat) : ∀ vs : List Nat, (wipe s vs)[j]? = if j ∈ vs then (s[j]?).map fun _ => none else s[j]?
  | [] => by simp [wipe]
  | v :: vs => by
    unfold wipe
    by_cases h : v = j
    · subst h
      rw [List.getElem?_set]
      simp only [wipe_length, ↓reduceIte, List.mem_cons, true_or]
      by_cases hl : v < s.length
      · simp [hl]
      · simp [hl]
    · rw [List.getElem?_set_ne h, wipe_get s j vs]
      have : (j ∈ v :: vs) ↔ j ∈ vs := by
        rw [List.mem_cons]
        exact ⟨fun z => z.elim (fun e => absurd e.symm h) id, .inr⟩
      simp only [this]
theorem Slots.wipe {K : PySem.W.Frag} {H : Hp} {r : Rg} {sd : Sl} {s : St} (h : Slots K H r sd s) (vs : List Nat) : Slots K H r (wipeD sd vs) (L2.wipe s vs) := by
  refine ⟨by rw [wipeD_len, wipe_length]; exact h.len, fun i d q => ?_⟩
  rw [wipeD_get] at q
  split at q
  · cases e : sd[i]? with
    | none => rw [e] at q; cases q
    | some z => rw [e] at q; cases q
  · rename_i hi
    rw [wipe_get, if_neg hi]
    exact h.at_ i d q
theorem wipe_frame {s s2 : St} {vs ts : List Nat} (f : ∀ j, j ∉ ts → s2[j]? = (wipe s vs)[j]?) (hl : s2.length = (wipe s vs).length) (hts : ∀ t ∈ ts, t ∈ vs) : wipe s2 vs = wipe s vs := by
  refine List.ext_getElem? fun j => ?_
  rw [wipe_get, wipe_get]
  have hl' : s2.length = s.length := by rw [hl, wipe_length]
  split
  · by_cases h : j < s.length
    · rw [List.getElem?_eq_getElem h, List.getElem?_eq_getElem (by rw [hl']; exact h)]; rfl
    · rw [List.getElem?_eq_none (by omega), List.getElem?_eq_none (by omega)]
  · rename_i hj
    rw [f j fun z => hj (hts j z), wipe_get, if_neg hj]

def lcGo (src : Src) (g : GM) (c : M Bool) (e : M D) (sw : Sl) : Nat → Nat → List D → Sto → Out (List D)
  | 0, _, acc, S => if src.fin S then .ok acc S else .bad
  | k + 1, i, acc, S => match src.at S i with
    | none => .bad
    | some d => match g d sw S with
      | none => .bad
      | some (sd, S1) => match c sd S1 with
        | .ok true S2 => match e sd S2 with
          | .ok y S3 => if acc.length < 16777216 then lcGo src g c e sw k (i + 1) (acc ++ [y]) S3 else .bad
          | _ => .bad
        | .ok false S2 => lcGo src g c e sw k (i + 1) acc S2
        | _ => .bad
def mLcL (mi : M Src) (g : GM) (vs : List Nat) (c : M Bool) (e : M D) : M (List D) := fun sd S => (mi sd S).bind fun src S1 => lcGo src g c e (wipeD sd vs) src.len 0 [] S1
def mLc (mi : M Src) (g : GM) (vs : List Nat) (c : M Bool) (e : M D) : M D := fun sd S => (mLcL mi g vs c e sd S).bind fun acc S2 => .ok (.lst acc) S2
def mLcM (mi : M Src) (g : GM) (vs : List Nat) (c : M Bool) (e : M D) : M D := fun sd S => (mLcL mi g vs c e sd S).bind fun acc S2 => .ok (.loc S2.length) (S2 ++ [.lst acc])

theorem Ext.unhide {H H' : Hp} {r r' : Rg} (e : Ext H r H' r') (p : List Addr) : Ext H ⟨r.l, p⟩ H' ⟨r'.l, p⟩ := by
  obtain ⟨l, rfl, hl⟩ := e.more
  exact ⟨⟨l, rfl, hl⟩, e.keep, e.imm, e.there⟩
theorem Ext.chg {H H' : Hp} {r r' : Rg} {a : Addr} {o : HO} (e : Ext H r H' r') (ha : H a = none) : Ext H r (upd H' a o) r' := by
  have k : ∀ b u, H b = some u → b ≠ a := fun b u h z => by rw [z, ha] at h; cases h
  refine ⟨e.more, fun b u h hn => by rw [upd_ne (k b u h)]; exact e.keep b u h hn, fun b u h hi => by rw [upd_ne (k b u h)]; exact e.imm b u h hi, fun b h => ?_⟩
  by_cases z : b = a
  · subst z; rw [upd_same]; simp
  · rw [upd_ne z]; exact e.there b h

section
variable {X : Cx} {ca : Nat → Addr} {W : WX}
abbrev W0 : WX := fun _ _ _ _ => False
/-- the loop of a comprehension -/
theorem lc_loop {K : PySem.W.Frag} {mi : M Src} {g : GM} {vs ts : List Nat} {mc : M Bool} {me : M D} {fin : List D → Sto → Out D} {s : St} {H : Hp} {Q : VK} (hts : ∀ t ∈ ts, t ∈ vs)
    (hfin : ∀ H1 r1 H rh S acc accV p, rh.p = p :: r1.p → Ext H1 r1 H ⟨rh.l, r1.p⟩ → H1 p = none → Sim K ca H rh S → H p = some (.lst accV) → p ∉ rh.l → p ∉ r1.p → Reps K H rh acc accV → Ln K ca (rV K) H1 r1 (fin acc S) Q (fun c d H' => W c d s H') → Q (.ref p) H)
    (h : ∃ sd r S, Slots K H r sd s ∧ Sim K ca H r S ∧ Ln K ca (rV K) H r ((mLcL mi g vs mc me sd S).bind fin) Q (fun c d H' => W c d s H')) :
    tLc (rI K ca W mi) (rG K ca ts g) (rT K ca W0 mc) (rE K ca W0 me) vs s H Q := by
  obtain ⟨sd, r, S, hs, m, h⟩ := h
  have h' : Ln K ca (rV K) H r ((mi sd S).bind fun src S1 => (lcGo src g mc me (wipeD sd vs) src.len 0 [] S1).bind fin) Q (fun c d H' => W c d s H') := by
    unfold mLcL at h
    cases e : mi sd S <;> (rw [e] at h; exact h)
  refine ⟨sd, r, S, hs, m, h'.bind fun src S1 J H1 r1 x1 m1 hsrc h1 => ?_⟩
  intro p hp
  obtain ⟨P, stb, hP, turn⟩ := hsrc
  have hp1 : p ∉ r1.p := fun z => m1.prv p z hp
  have hl1 : p ∉ r1.l := fun z => m1.tracked z hp
  refine ⟨fun i k H => k = src.len - i ∧ i ≤ src.len ∧ ∃ rh S acc accV, rh.p = p :: r1.p ∧ Ext H1 r1 H ⟨rh.l, r1.p⟩ ∧ p ∉ rh.l ∧ H p = some (.lst accV) ∧ Sim K ca H rh S ∧ Reps K H rh acc accV ∧
      Slots K H rh (wipeD sd vs) (L2.wipe s vs) ∧ P H rh ∧ Ln K ca (rV K) H1 r1 ((lcGo src g mc me (wipeD sd vs) (src.len - i) i acc S).bind fin) Q (fun c d H' => W c d s H'),
    ⟨src.len, by simp, Nat.zero_le _, r1.hide p, S1, [], [], rfl, ⟨⟨[], by simp [Rg.hide], by simp⟩, (Ext.new (r := r1) hp).keep, (Ext.new (r := r1) hp).imm, (Ext.new (r := r1) hp).there⟩, hl1, upd_same, m1.hide hp, .nil, stb_slots.hide hp ((hs.mono x1).wipe vs), stb.hide hp hP, by simpa using h1⟩, ?_⟩
  rintro i k H ⟨rfl, hi, rh, S2, acc, accV, hrp, ex, hpl, hpa, m2, ha, hsl, hPH, hln⟩
  have hpm : p ∈ rh.p := by rw [hrp]; simp
  by_cases hlt : i < src.len
  · obtain ⟨j, hj⟩ : ∃ j, src.len - i = j + 1 := ⟨src.len - i - 1, by omega⟩
    rw [hj] at hln
    unfold lcGo at hln
    split at hln
    · exact hln.elim
    rename_i d ed
    split at hln
    · exact hln.elim
    rename_i sd1 S3 eg
    obtain ⟨go, yl⟩ := (turn H rh S2 hPH m2 i).1 d ed
    refine .inr ⟨go, fun H' => ∃ rh S acc accV, rh.p = p :: r1.p ∧ Ext H1 r1 H' ⟨rh.l, r1.p⟩ ∧ p ∉ rh.l ∧ H' p = some (.lst accV) ∧ Sim K ca H' rh S ∧ Reps K H' rh acc accV ∧
      Slots K H' rh (wipeD sd vs) (L2.wipe s vs) ∧ P H' rh ∧ Ln K ca (rV K) H1 r1 ((lcGo src g mc me (wipeD sd vs) (src.len - (i + 1)) (i + 1) acc S).bind fin) Q (fun c d H' => W c d s H'), fun H' w => ⟨src.len - (i + 1), by omega, rfl, hlt, w⟩, fun x H' y => ?_⟩
    have hj' : src.len - (i + 1) = j := by omega
    rw [hj']
    obtain ⟨x3, m3, q3⟩ := yl x H' y
    refine ⟨wipeD sd vs, rh, S2, d, sd1, S3, hsl.mono x3, m3, q3, eg, fun s4 H4 r4 x4 m4 hs4 f4 l4 => ⟨wipe_frame f4 l4 hts, ?_⟩⟩
    -- the test
    have x34 := x3.trans x4
    refine ⟨sd1, r4, S3, hs4, m4, ?_⟩
    cases ec : mc sd1 S3 with
    | bad => rw [ec] at hln; exact hln.elim
    | exc c fs S4 => rw [ec] at hln; exact hln.elim
    | ok b S4 =>
      rw [ec] at hln
      intro b' H5 r5 x5 m5 q5
      cases q5
      have x35 := x34.trans x5
      cases b with
      | false =>
        refine iteF ⟨r5, S4, acc, accV, by rw [x35.prv, hrp], ex.trans (x35.unhide _), x35.notin (ne_of_some hpa) hpl, x35.keep _ _ hpa hpl, m5, ha.mono x35, hsl.mono x35, stb.mono x35 hPH, hln⟩
      | true =>
        refine iteT ⟨sd1, r5, S4, hs4.mono x5, m5, ?_⟩
        cases ee : me sd1 S4 with
        | bad => simp only [ee] at hln; exact hln.elim
        | exc c fs S5 => simp only [ee] at hln; exact hln.elim
        | ok y S5 =>
          simp only [ee] at hln
          intro v H6 r6 x6 m6 q6
          have x36 := x35.trans x6
          split at hln
          · rename_i hz
            have hpa6 : H6 p = some (.lst accV) := x36.keep _ _ hpa hpl
            have hpm6 : p ∈ r6.p := by rw [x36.prv]; exact hpm
            have hpl6 : p ∉ r6.l := x36.notin (ne_of_some hpa) hpl
            have ha6 := ha.mono x36
            refine ⟨accV, hpa6, by rw [sizeLine_eq, ← ha6.length]; exact hz, r6, S5, acc ++ [y], accV ++ [v], by rw [x36.prv, hrp], (ex.trans (x36.unhide _)).chg hp, hpl6, upd_same, m6.chg hpa6 hpm6 hpl6, (ha6.append (.cons q6 .nil)).chg hpa6 hpm6,
              stb_slots.chg hpa6 hpm6 (hsl.mono x36), stb.chg hpa6 hpm6 (stb.mono x36 hPH), hln⟩
          · exact hln.elim
  · have e : i = src.len := by omega
    subst e
    rw [Nat.sub_self] at hln
    unfold lcGo at hln
    split at hln
    · rename_i hf
      refine .inl ⟨(turn H rh S2 hPH m2 _).2 rfl hf, ?_⟩
      exact hfin H1 r1 H rh S2 acc accV p hrp ex hp m2 hpa hpl hp1 ha hln
    · exact hln.elim
variable {elt tg iter : Expr} {ifs : List Expr} {scope : Scope} {own : List (Str × Nat)} {pos : Pos} {mi : M Src} {g : GM} {ts : List Nat} {mc : M Bool} {me : M D}
theorem mv_show {r1 rh : Rg} {p : Addr} (e : rh.p = p :: r1.p) : Mv rh ⟨rh.l, r1.p⟩ := ⟨fun _ _ h => h, fun a h1 h2 => ⟨h1, fun z => h2 (by rw [e]; exact List.mem_cons_of_mem _ z)⟩⟩
theorem mv_add {r1 rh : Rg} {p : Addr} (e : rh.p = p :: r1.p) : Mv rh ⟨rh.l ++ [p], r1.p⟩ := by
  refine ⟨fun n a h => ?_, fun a h1 h2 => ⟨fun z => ?_, fun z => h2 (by rw [e]; exact List.mem_cons_of_mem _ z)⟩⟩
  · show (rh.l ++ [p])[n]? = some a
    rw [List.getElem?_append_left (List.getElem?_eq_some_iff.mp h).1]; exact h
  · rcases List.mem_append.mp z with z | z
    · exact h1 z
    · simp at z; exact h2 (by rw [e, z]; simp)
theorem fin_val {K : PySem.W.Frag} {s : St} {Q : VK} (H1 : Hp) (r1 : Rg) (H : Hp) (rh : Rg) (S : Sto) (acc : List D) (accV : List V) (p : Addr) (e : rh.p = p :: r1.p) (ex : Ext H1 r1 H ⟨rh.l, r1.p⟩) (_ : H1 p = none) (m : Sim K ca H rh S) (hp : H p = some (.lst accV)) (hl : p ∉ rh.l) (hr : p ∉ r1.p) (ha : Reps K H rh acc accV)
    (h : Ln K ca (rV K) H1 r1 (.ok (.lst acc) S) Q (fun c d H' => W c d s H')) : Q (.ref p) H :=
  h _ H _ ex (m.move (mv_show e) rfl fun a ha => by rw [e]; exact List.mem_cons_of_mem _ ha) (.lst hp hl hr (ha.move (mv_show e)))
theorem fin_loc {K : PySem.W.Frag} {s : St} {Q : VK} (H1 : Hp) (r1 : Rg) (H : Hp) (rh : Rg) (S : Sto) (acc : List D) (accV : List V) (p : Addr) (e : rh.p = p :: r1.p) (ex : Ext H1 r1 H ⟨rh.l, r1.p⟩) (hn : H1 p = none) (m : Sim K ca H rh S) (hp : H p = some (.lst accV)) (hl : p ∉ rh.l) (hr : p ∉ r1.p) (ha : Reps K H rh acc accV)
    (h : Ln K ca (rV K) H1 r1 (.ok (.loc S.length) (S ++ [.lst acc])) Q (fun c d H' => W c d s H')) : Q (.ref p) H := by
  have hat : (rh.l ++ [p])[S.length]? = some p := by rw [← m.len, List.getElem?_append_right (Nat.le_refl _), Nat.sub_self]; rfl
  refine h _ H ⟨rh.l ++ [p], r1.p⟩ ?_ ?_ (.loc hat)
  · obtain ⟨l, e', hl'⟩ := ex.more
    refine ⟨⟨l ++ [p], ?_, fun a ha' => ?_⟩, ex.keep, ex.imm, ex.there⟩
    · have : rh.l = r1.l ++ l := by injection e'
      rw [this]; simp
    · rcases List.mem_append.mp ha' with z | z
      · exact hl' a z
      · simp at z; rw [z]; exact hn
  · refine ⟨by simp [m.len], List.nodup_append.mpr ⟨m.nd, by simp, fun a ha b hb => by simp at hb; subst hb; exact fun z => hl (z ▸ ha)⟩, fun n u hu => ?_, fun a ha => m.prv a (by rw [e]; exact List.mem_cons_of_mem _ ha)⟩
    by_cases hlt : n < S.length
    · rw [List.getElem?_append_left hlt] at hu
      obtain ⟨b, h1, h2⟩ := m.obj n u hu
      exact ⟨b, (mv_add e).at_ _ _ h1, h2.move (mv_add e)⟩
    · rw [List.getElem?_append_right (by omega)] at hu
      have hz : n - S.length = 0 := by
        have := (List.getElem?_eq_some_iff.mp hu).1
        simp at this; omega
      rw [hz] at hu
      simp at hu
      subst hu
      have hn' : n = S.length := by omega
      subst hn'
      exact ⟨p, hat, accV, hp, ha.move (mv_add e)⟩
theorem z_lc (hc : X.calm = true) (hN : X.N.Nodup) (hi : PI X tg iter (rI X.K ca W mi)) (ok : BlkOk X.N X.env.scope scope own) (hts : ∀ t ∈ ts, t ∈ own.map (·.2))
    (hg : ∀ (s : Shared) (H : Hp) (C : Addr) (cl : List (Str × Addr)) (fp : List Addr), PG (X.blk s H scope (compEnvC scope cl C X.env) fp) tg (rG X.K ca ts g)) (ht : ∀ (s : Shared) (H : Hp) (C : Addr) (cl : List (Str × Addr)) (fp : List Addr), PTs (X.blk s H scope (compEnvC scope cl C X.env) fp) ifs (rT X.K ca W0 mc))
    (he : ∀ (s : Shared) (H : Hp) (C : Addr) (cl : List (Str × Addr)) (fp : List Addr), PE (X.blk s H scope (compEnvC scope cl C X.env) fp) elt (rE X.K ca W0 me)) (hs : ∀ x, foldedSetIterable iter X.env x = pure x) :
    PE X (.ListComp elt [⟨tg, iter, ifs, 0⟩] scope pos) (rE X.K ca W (mLc mi g (own.map (·.2)) mc me)) := PE.imp (pe_lc hc hN hi ok hg ht he hs) fun s H Q h => lc_loop hts fin_val h
theorem z_lcM (hc : X.calm = true) (hN : X.N.Nodup) (hi : PI X tg iter (rI X.K ca W mi)) (ok : BlkOk X.N X.env.scope scope own) (hts : ∀ t ∈ ts, t ∈ own.map (·.2))
    (hg : ∀ (s : Shared) (H : Hp) (C : Addr) (cl : List (Str × Addr)) (fp : List Addr), PG (X.blk s H scope (compEnvC scope cl C X.env) fp) tg (rG X.K ca ts g)) (ht : ∀ (s : Shared) (H : Hp) (C : Addr) (cl : List (Str × Addr)) (fp : List Addr), PTs (X.blk s H scope (compEnvC scope cl C X.env) fp) ifs (rT X.K ca W0 mc))
    (he : ∀ (s : Shared) (H : Hp) (C : Addr) (cl : List (Str × Addr)) (fp : List Addr), PE (X.blk s H scope (compEnvC scope cl C X.env) fp) elt (rE X.K ca W0 me)) (hs : ∀ x, foldedSetIterable iter X.env x = pure x) :
    PE X (.ListComp elt [⟨tg, iter, ifs, 0⟩] scope pos) (rE X.K ca W (mLcM mi g (own.map (·.2)) mc me)) := PE.imp (pe_lc hc hN hi ok hg ht he hs) fun s H Q h => lc_loop hts fin_loc h
end
end Z

/-! Z layer, part H: statements. -/
namespace Z
open PySem PySem.Spec PyProof.Rows L2

inductive Fl where
  | nx | rt (d : D) | bk | ct
inductive OutS where
  | ok (f : Fl) (sd : Sl) (S : Sto)
  | exc (c : Nat) (fs : XF) (sd : Sl) (S : Sto)
  | bad
abbrev MS := Sl → Sto → OutS
def Out.toS {T : Type} (o : Out T) (sd : Sl) (f : T → Sto → OutS) : OutS := match o with
  | .ok a S => f a S
  | .exc c fs S => .exc c fs sd S
  | .bad => .bad

section
variable (K : PySem.W.Frag) (ca : Nat → Addr)
def LnS (H : Hp) (r : Rg) (o : OutS) (D : Ends) (W : WX) : Prop := match o with
  | .ok .nx sd S => ∀ s H' r', Ext H r H' r' → Sim K ca H' r' S → Slots K H' r' sd s → D.nx s H'
  | .ok .bk sd S => ∀ s H' r', Ext H r H' r' → Sim K ca H' r' S → Slots K H' r' sd s → D.bk s H'
  | .ok .ct sd S => ∀ s H' r', Ext H r H' r' → Sim K ca H' r' S → Slots K H' r' sd s → D.ct s H'
  | .ok (.rt d) _ S => ∀ v H' r', Ext H r H' r' → Sim K ca H' r' S → Rep K H' r' d v → D.rt v H'
  | .exc c fs sd S => ∀ cls d s H' r', Ext H r H' r' → Sim K ca H' r' S → Slots K H' r' sd s → XRep K ca H' r' c fs cls d → W cls d s H'
  | .bad => False
def rS (W : WX) (m : MS) : TS := fun D s H => ∃ sd r S, Slots K H r sd s ∧ Sim K ca H r S ∧ LnS K ca H r (m sd S) D W
end
section
variable {K : PySem.W.Frag} {ca : Nat → Addr} {H H1 : Hp} {r r1 : Rg} {D : Ends} {W : WX}
theorem LnS.ext {o : OutS} (e : Ext H r H1 r1) (h : LnS K ca H r o D W) : LnS K ca H1 r1 o D W := by
  cases o with
  | ok f sd S => cases f with
    | nx => exact fun s H' r' x => h s H' r' (e.trans x)
    | bk => exact fun s H' r' x => h s H' r' (e.trans x)
    | ct => exact fun s H' r' x => h s H' r' (e.trans x)
    | rt d => exact fun s H' r' x => h s H' r' (e.trans x)
  | exc c fs sd S => exact fun cls d s H' r' x => h cls d s H' r' (e.trans x)
  | bad => exact h
theorem LnS.bindE {T A : Type} {R : RR T A} {o : Out T} {sd : Sl} {s : St} {f : T → Sto → OutS} {Q1 : A → Hp → Prop} (hs : Slots K H r sd s) (h : LnS K ca H r (o.toS sd f) D W)
    (k : ∀ d S v H1 r1, Ext H r H1 r1 → Sim K ca H1 r1 S → R H1 r1 d v → LnS K ca H1 r1 (f d S) D W → Q1 v H1) : Ln K ca R H r o Q1 (fun c d H' => W c d s H') := by
  cases o with
  | ok d S => exact fun v H' r' x m q => k d S v H' r' x m q (LnS.ext x h)
  | exc c fs S => exact fun cls d H' r' x m q => h cls d s H' r' x m (hs.mono x) q
  | bad => exact h
theorem LnS.nx_ {sd : Sl} {S : Sto} {s : St} (h : LnS K ca H r (.ok .nx sd S) D W) (m : Sim K ca H r S) (hs : Slots K H r sd s) : D.nx s H := h s H r (Ext.refl ..) m hs
end

def mSkip : MS := fun sd S => .ok .nx sd S
def mThen (a b : MS) : MS := fun sd S => match a sd S with
  | .ok .nx sd1 S1 => b sd1 S1
  | o => o
def mExpr (a : M D) : MS := fun sd S => (a sd S).toS sd fun _ S1 => .ok .nx sd S1
def mRet (a : M D) : MS := fun sd S => (a sd S).toS sd fun d S1 => .ok (.rt d) sd S1
def mRetN : MS := fun sd S => .ok (.rt .non) sd S
def mAsg (a : M D) (g : GM) : MS := fun sd S => (a sd S).toS sd fun d S1 => match g d sd S1 with
  | some (sd2, S2) => .ok .nx sd2 S2
  | none => .bad
def mAug (i : Nat) (f : Sto → D → D → Option D) (a : M D) : MS := fun sd S => match sd[i]? with
  | some (some x) => (a sd S).toS sd fun y S1 => match f S1 x y with
    | some z => .ok .nx (sd.set i (some z)) S1
    | none => .bad
  | _ => .bad
def mIte (c : M Bool) (a b : MS) : MS := fun sd S => (c sd S).toS sd fun k S1 => if k then a sd S1 else b sd S1
def mBrk : MS := fun sd S => .ok .bk sd S
def mCnt : MS := fun sd S => .ok .ct sd S
def forGo (src : Src) (g : GM) (b : MS) : Nat → Nat → Sl → Sto → OutS
  | 0, _, sd, S => if src.fin S then .ok .nx sd S else .bad
  | k + 1, i, sd, S => match src.at S i with
    | none => .bad
    | some d => match g d sd S with
      | none => .bad
      | some (sd1, S1) => match b sd1 S1 with
        | .ok .nx sd2 S2 => forGo src g b k (i + 1) sd2 S2
        | .ok .ct sd2 S2 => forGo src g b k (i + 1) sd2 S2
        | .ok .bk sd2 S2 => .ok .nx sd2 S2
        | .ok (.rt d) sd2 S2 => .ok (.rt d) sd2 S2
        | .exc c fs sd2 S2 => .exc c fs sd2 S2
        | .bad => .bad
def mFor (mi : M Src) (g : GM) (b : MS) : MS := fun sd S => (mi sd S).toS sd fun src S1 => forGo src g b src.len 0 sd S1
def whGo (c : M Bool) (b : MS) : Nat → Sl → Sto → OutS
  | 0, _, _ => .bad
  | k + 1, sd, S => (c sd S).toS sd fun t S1 => if t then match b sd S1 with
      | .ok .nx sd2 S2 => whGo c b k sd2 S2
      | .ok .ct sd2 S2 => whGo c b k sd2 S2
      | .ok .bk sd2 S2 => .ok .nx sd2 S2
      | .ok (.rt d) sd2 S2 => .ok (.rt d) sd2 S2
      | .exc c fs sd2 S2 => .exc c fs sd2 S2
      | .bad => .bad
    else .ok .nx sd S1

section
variable {X : Cx} {ca : Nat → Addr} {W : WX} {pos : Pos}
theorem PS.imp {e : Stmt} {t t' : TS} (h : PS X e t) (i : ∀ D s H, t' D s H → t D s H) : PS X e t' := ⟨fun pins s σ H D I w => h.run pins s σ H D I (i D σ H w)⟩
theorem PSs.imp {e : List Stmt} {t t' : TS} (h : PSs X e t) (i : ∀ D s H, t' D s H → t D s H) : PSs X e t' := ⟨fun pins s σ H D I w => h.run pins s σ H D I (i D σ H w)⟩
theorem s_nil : PSs X [] (rS X.K ca W mSkip) := PSs.imp pss_nil fun D s H ⟨sd, r, S, hs, m, h⟩ => h.nx_ m hs
theorem s_cons {a : Stmt} {es : List Stmt} {m1 m2 : MS} (h1 : PS X a (rS X.K ca W m1)) (h2 : PSs X es (rS X.K ca W m2)) : PSs X (a :: es) (rS X.K ca W (mThen m1 m2)) := PSs.imp (pss_cons h1 h2) fun D s H ⟨sd, r, S, hs, m, h⟩ => by
  refine ⟨sd, r, S, hs, m, ?_⟩
  unfold mThen at h
  cases e : m1 sd S with
  | bad => rw [e] at h; exact h.elim
  | exc c fs sd1 S1 => rw [e] at h; exact h
  | ok f sd1 S1 =>
    rw [e] at h
    cases f with
    | nx => exact fun s' H' r' x m' q => ⟨sd1, r', S1, q, m', LnS.ext x h⟩
    | bk => exact h
    | ct => exact h
    | rt d => exact h
theorem s_expr {a : Expr} {ma : M D} (ha : PE X a (rE X.K ca W ma)) (hs : swapsWith a none pos.line X.env = pure false) : PS X (.Expr a pos) (rS X.K ca W (mExpr ma)) := PS.imp (ps_expr ha hs) fun D s H ⟨sd, r, S, hs, m, h⟩ =>
  ⟨sd, r, S, hs, m, LnS.bindE hs h fun d S1 v H1 r1 x1 m1 q1 h1 => h1.nx_ m1 (hs.mono x1)⟩
theorem s_doc {x : Str} {j : Nat} {p : Pos} : PS X (.Expr (.Constant (.str x) j p) pos) (rS X.K ca W mSkip) := PS.imp ps_doc fun D s H ⟨sd, r, S, hs, m, h⟩ => h.nx_ m hs
theorem s_pass : PS X (.Pass pos) (rS X.K ca W mSkip) := PS.imp ps_pass fun D s H ⟨sd, r, S, hs, m, h⟩ => h.nx_ m hs
theorem s_brk : PS X (.Break pos) (rS X.K ca W mBrk) := PS.imp ps_break fun D s H ⟨sd, r, S, hs, m, h⟩ => h s H r (Ext.refl ..) m hs
theorem s_cnt : PS X (.Continue pos) (rS X.K ca W mCnt) := PS.imp ps_continue fun D s H ⟨sd, r, S, hs, m, h⟩ => h s H r (Ext.refl ..) m hs
theorem s_ret {a : Expr} {ma : M D} (ha : PE X a (rE X.K ca W ma)) : PS X (.Return (some a) pos) (rS X.K ca W (mRet ma)) := PS.imp (ps_ret ha) fun D s H ⟨sd, r, S, hs, m, h⟩ =>
  ⟨sd, r, S, hs, m, LnS.bindE hs h fun d S1 v H1 r1 x1 m1 q1 h1 => h1 v H1 r1 (Ext.refl ..) m1 q1⟩
theorem s_retN : PS X (.Return none pos) (rS X.K ca W mRetN) := PS.imp ps_retN fun D s H ⟨sd, r, S, hs, m, h⟩ => h .non H r (Ext.refl ..) m .non
theorem asg_in {K : PySem.W.Frag} {ma : M D} {g : GM} {ts : List Nat} {D : Ends} {s : St} {sd : Sl} {H : Hp} {r : Rg} {S : Sto} (hs : Slots K H r sd s) (m : Sim K ca H r S) (h : LnS K ca H r (mAsg ma g sd S) D W) : tAsg (rE K ca W ma) (rG K ca ts g) D s H :=
  ⟨sd, r, S, hs, m, LnS.bindE hs h fun d S1 v H1 r1 x1 m1 q1 h1 => by
    split at h1
    · rename_i sd2 S2 e
      exact ⟨sd, r1, S1, d, sd2, S2, hs.mono x1, m1, q1, e, fun s' H' r' x m' hs' _ _ => h1 s' H' r' x m' hs'⟩
    · exact h1.elim⟩
theorem s_asg {tg a : Expr} {ma : M D} {g : GM} {ts : List Nat} (ha : PE X a (rE X.K ca W ma)) (hg : PG X tg (rG X.K ca ts g)) (hs : swapsWithSole [tg] a pos.line X.env = pure false) (hw : swappedStores [tg] a X.env = pure none)
    (h1 : (assignEach [tg] X.env).map (·.2) = [assign tg X.env]) : PS X (.Assign [tg] a pos) (rS X.K ca W (mAsg ma g)) := PS.imp (ps_asg ha hg hs hw h1) fun D s H ⟨sd, r, S, hs, m, h⟩ => asg_in hs m h
theorem s_aug {i : Nat} {x : Str} {a : Expr} {ma : M D} {op : Operator} {R : R2} {f : Sto → D → D → Option D} {p : Pos} (hN : X.N.Nodup) (hi : X.N[i]? = some x) (hx : Loc X.env.scope x) (ha : PE X a (rE X.K ca W ma)) (ho : OpR X (inplaceOp op) R) (hz : OpZ X.K ca R f)
    (hf : X.fn x = true ∨ X.env.scope.names.lookup x = some .local) : PS X (.AugAssign (.Name x p) op a pos) (rS X.K ca W (mAug i f ma)) := PS.imp (ps_aug hN hi hx ha ho hf) fun D s H ⟨sd, r, S, hs, m, h⟩ => by
  unfold mAug at h
  split at h
  · rename_i d e
    obtain ⟨v, h1, h2⟩ := hs.at_ i d e
    refine ⟨v, h1, sd, r, S, hs, m, LnS.bindE hs h fun y S1 u H1 r1 x1 m1 q1 h3 => ?_⟩
    split at h3
    · rename_i z e2
      exact hz m1 (h2.mono x1) q1 e2 fun w H' x' m' q' => h3 _ H' r1 x' m' (((hs.mono x1).mono x').set q')
    · exact h3.elim
  · exact h.elim
theorem s_ite {c : Expr} {a b : List Stmt} {mc : M Bool} {m1 m2 : MS} (hc : PT X c (rT X.K ca W mc)) (ha : PSs X a (rS X.K ca W m1)) (hb : PSs X b (rS X.K ca W m2)) : PS X (.If c a b pos) (rS X.K ca W (mIte mc m1 m2)) := PS.imp (ps_if hc ha hb) fun D s H ⟨sd, r, S, hs, m, h⟩ =>
  ⟨sd, r, S, hs, m, LnS.bindE hs h fun d S1 v H1 r1 x1 m1 q1 h1 => by
    cases q1
    cases d with
    | true => exact iteT ⟨sd, r1, S1, hs.mono x1, m1, h1⟩
    | false => exact iteF ⟨sd, r1, S1, hs.mono x1, m1, h1⟩⟩
theorem s_for {tg iter : Expr} {body : List Stmt} {mi : M Src} {g : GM} {ts : List Nat} {mb : MS} (hp : PassesOwn (model X.prog X.w) X.A X.env X.xe) (hc : X.calm = true) (hi : PI X tg iter (rI X.K ca W mi)) (hg : PG X tg (rG X.K ca ts g)) (hb : PSs X body (rS X.K ca W mb))
    (hs : ∀ x, foldedSetIterable iter X.env x = pure x) : PS X (.For tg iter body [] pos) (rS X.K ca W (mFor mi g mb)) := PS.imp (ps_for hp hc hi hg hb hs) fun D s H ⟨sd, r, S, hs, m, h⟩ =>
  ⟨sd, r, S, hs, m, LnS.bindE hs h fun src S1 J H1 r1 x1 m1 hsrc h1 => by
    obtain ⟨P, stb, hP, turn⟩ := hsrc
    refine ⟨fun i k s H => k = src.len - i ∧ i ≤ src.len ∧ ∃ sd r S, Slots X.K H r sd s ∧ Sim X.K ca H r S ∧ P H r ∧ LnS X.K ca H r (forGo src g mb (src.len - i) i sd S) D W, ⟨src.len, by simp, Nat.zero_le _, sd, r1, S1, hs.mono x1, m1, hP, by simpa using h1⟩, ?_⟩
    rintro i k s2 H2 ⟨rfl, hi, sd2, r2, S2, hs2, m2, hP2, h2⟩
    by_cases hlt : i < src.len
    · obtain ⟨j, hj⟩ : ∃ j, src.len - i = j + 1 := ⟨src.len - i - 1, by omega⟩
      rw [hj] at h2
      unfold forGo at h2
      split at h2
      · exact h2.elim
      rename_i d ed
      split at h2
      · exact h2.elim
      rename_i sd3 S3 eg
      obtain ⟨go, yl⟩ := (turn H2 r2 S2 hP2 m2 i).1 d ed
      refine .inr ⟨go, fun s' H' => ∃ sd r S, Slots X.K H' r sd s' ∧ Sim X.K ca H' r S ∧ P H' r ∧ LnS X.K ca H' r (forGo src g mb (src.len - (i + 1)) (i + 1) sd S) D W, fun s' H' w => ⟨src.len - (i + 1), by omega, rfl, hlt, w⟩, fun x H' y => ?_⟩
      have hj' : src.len - (i + 1) = j := by omega
      rw [hj']
      obtain ⟨x3, m3, q3⟩ := yl x H' y
      refine ⟨sd2, r2, S2, d, sd3, S3, hs2.mono x3, m3, q3, eg, fun s4 H4 r4 x4 m4 hs4 f4 l4 => ⟨sd3, r4, S3, hs4, m4, ?_⟩⟩
      have x34 := x3.trans x4
      cases eb : mb sd3 S3 with
      | bad => rw [eb] at h2; exact h2.elim
      | exc c fs sd5 S5 => rw [eb] at h2; exact LnS.ext x34 h2
      | ok f sd5 S5 =>
        rw [eb] at h2
        cases f with
        | nx => exact fun s5 H5 r5 x5 m5 hs5 => ⟨sd5, r5, S5, hs5, m5, stb.mono (x34.trans x5) hP2, LnS.ext (x34.trans x5) h2⟩
        | ct => exact fun s5 H5 r5 x5 m5 hs5 => ⟨sd5, r5, S5, hs5, m5, stb.mono (x34.trans x5) hP2, LnS.ext (x34.trans x5) h2⟩
        | bk => exact fun s5 H5 r5 x5 m5 hs5 => h2 s5 H5 r5 (x34.trans x5) m5 hs5
        | rt d => exact fun v H5 r5 x5 m5 q5 => h2 v H5 r5 (x34.trans x5) m5 q5
    · have e : i = src.len := by omega
      subst e
      rw [Nat.sub_self] at h2
      unfold forGo at h2
      split at h2
      · rename_i hf
        exact .inl ⟨(turn H2 r2 S2 hP2 m2 _).2 rfl hf, h2.nx_ m2 hs2⟩
      · exact h2.elim⟩
theorem s_whl {c : Expr} {body : List Stmt} {mc : M Bool} {mb : MS} {k : Nat} (hp : PassesOwn (model X.prog X.w) X.A X.env X.xe) (hc : PT X c (rT X.K ca W mc)) (hb : PSs X body (rS X.K ca W mb)) :
    PS X (.While c body [] pos) (rS X.K ca W (whGo mc mb k)) := PS.imp (ps_while hp hc hb) fun D s H ⟨sd, r, S, hs, m, h⟩ => by
  refine ⟨fun k s H => ∃ sd r S, Slots X.K H r sd s ∧ Sim X.K ca H r S ∧ LnS X.K ca H r (whGo mc mb k sd S) D W, ⟨k, sd, r, S, hs, m, h⟩, ?_⟩
  rintro k s2 H2 ⟨sd2, r2, S2, hs2, m2, h2⟩
  cases k with
  | zero => exact h2.elim
  | succ k =>
    unfold whGo at h2
    refine ⟨sd2, r2, S2, hs2, m2, LnS.bindE hs2 h2 fun t S3 v H3 r3 x3 m3 q3 h3 => ?_⟩
    cases q3
    cases t with
    | false => exact iteF (h3.nx_ m3 (hs2.mono x3))
    | true =>
      refine iteT ⟨fun s' H' => ∃ sd r S, Slots X.K H' r sd s' ∧ Sim X.K ca H' r S ∧ LnS X.K ca H' r (whGo mc mb k sd S) D W, fun s' H' w => ⟨k, Nat.lt_succ_self _, w⟩, sd2, r3, S3, hs2.mono x3, m3, ?_⟩
      simp only [↓reduceIte] at h3
      cases eb : mb sd2 S3 with
      | bad => rw [eb] at h3; exact h3.elim
      | exc c fs sd5 S5 => rw [eb] at h3; exact h3
      | ok f sd5 S5 =>
        rw [eb] at h3
        cases f with
        | nx => exact fun s5 H5 r5 x5 m5 hs5 => ⟨sd5, r5, S5, hs5, m5, LnS.ext x5 h3⟩
        | ct => exact fun s5 H5 r5 x5 m5 hs5 => ⟨sd5, r5, S5, hs5, m5, LnS.ext x5 h3⟩
        | bk => exact fun s5 H5 r5 x5 m5 hs5 => h3 s5 H5 r5 x5 m5 hs5
        | rt d => exact fun v H5 r5 x5 m5 q5 => h3 v H5 r5 x5 m5 q5
end
end Z

/-! Z layer, part I: assignments of other forms, list methods, calls of defs. -/
namespace Z
open PySem PySem.Spec PyProof.Rows L2

/-! ### o[i] = v -/
def gSubM (mo mi : M D) : GM := fun d sd S => match mo sd S with
  | .ok (.loc n) S1 => match mi sd S1 with
    | .ok (.int k) S2 => match S2[n]? with
      | some (.lst xs) => match ixN xs.length k with
        | some j => some (sd, S2.set n (.lst (xs.set j d)))
        | none => none
      | _ => none
    | _ => none
  | _ => none
section
variable {X : Cx} {ca : Nat → Addr} {W : WX} {pos : Pos}
theorem z_gsub {o i : Expr} {mo mi : M D} (ho : PE X o (rE X.K ca W mo)) (hi : PE X i (rE X.K ca W mi))
    (ha : ∀ v, assign (.Subscript o i pos) X.env v = (do
      let ov ← holding [v] (eval o X.env)
      let iv ← holding [v, ov] (eval i X.env)
      standAt pos
      holding [v, ov, iv] (setItem ov iv v)
      release [v, ov, iv] [])) : PG X (.Subscript o i pos) (rG X.K ca [] (gSubM mo mi)) := PG.imp (pg_sub ho hi set_list ha) fun v s H Q ⟨sd, r, S, d, sd', S', hs, m, q, e, k⟩ => by
  unfold gSubM at e
  split at e
  · rename_i n S1 e1
    split at e
    · rename_i ki S2 e2
      split at e
      · rename_i xs e3
        split at e
        · rename_i j e4
          cases e
          refine ⟨sd, r, S, hs, m, ?_⟩
          rw [e1]
          intro v1 H1 r1 x1 m1 q1
          refine ⟨sd, r1, S1, hs.mono x1, m1, ?_⟩
          rw [e2]
          intro v2 H2 r2 x2 m2 q2
          cases q2
          obtain ⟨a, rfl, h1, vs, h2, h3⟩ := m2.loc (q1.mono x2) e3
          refine ⟨a, vs, ki, j, rfl, rfl, h2, by rw [← h3.length]; exact e4, ?_⟩
          have ex : Ext H2 r2 (upd H2 a (.lst (vs.set j v))) r2 := m2.writeExt h1
          have q' := q.mono (x1.trans x2)
          refine k s _ r2 ((x1.trans x2).trans ex) (m2.write h1 ⟨vs.set j v, upd_same, (h3.mono ex).set (q'.mono ex) j⟩) ((hs.mono (x1.trans x2)).mono ex) (fun _ _ => rfl) rfl
        · cases e
      · cases e
    · cases e
  · cases e
end

/-! ### xs.append(y), xs.extend(ys) -/
def mApp (o : M D) (a : M (List D)) : M D := fun sd S => (o sd S).bind fun x S1 => match x with
  | .loc n => match S1[n]? with
    | some (.lst _) => (a sd S1).bind fun ys S2 => match ys, S2[n]? with
      | [y], some (.lst xs) => if xs.length < 16777216 then .ok .non (S2.set n (.lst (xs ++ [y]))) else .bad
      | _, _ => .bad
    | _ => .bad
  | _ => .bad
def mExt (o : M D) (a : M (List D)) : M D := fun sd S => (o sd S).bind fun x S1 => match x with
  | .loc n => match S1[n]? with
    | some (.lst _) => (a sd S1).bind fun ys S2 => match ys, S2[n]? with
      | [y], some (.lst xs) => match asL S2 y with
        | some zs => if xs.length + zs.length ≤ 16777216 then .ok .non (S2.set n (.lst (xs ++ zs))) else .bad
        | none => .bad
      | _, _ => .bad
    | _ => .bad
  | _ => .bad
section
variable {X : Cx} {ca : Nat → Addr} {W : WX}
theorem app_in {K : PySem.W.Frag} {mo : M D} {ml : M (List D)} {s : St} {H : Hp} {Q : VK} (h : rE K ca W (mApp mo ml) s H Q) : tBM K "list" rAppend (rE K ca W mo) (rA K ca W ml) s H Q := by
  obtain ⟨sd, r, S, hs, m, h⟩ := h
  refine ⟨sd, r, S, hs, m, h.bind fun d1 S1 v1 H1 r1 x1 m1 q1 h1 => ?_⟩
  split at h1
  · rename_i n
    split at h1
    · rename_i xs0 e0
      obtain ⟨a, rfl, ha, vs0, hv0, _⟩ := m1.loc q1 e0
      refine ⟨.inl ⟨rfl, vs0, .of hv0⟩, sd, r1, S1, hs.mono x1, m1, h1.bind fun ys S2 vs H2 r2 x2 m2 q2 h2 => ?_⟩
      split at h2
      · rename_i y xs e2
        split at h2
        · rename_i hl
          obtain ⟨b, hb, hb2, us, hu, hru⟩ := m2.loc (q1.mono x2) e2
          cases hb
          cases q2 with
          | @cons _ _ vy _ qy qn =>
            cases qn
            refine ⟨a, us, vy, rfl, rfl, hu, by rw [sizeLine_eq, ← hru.length]; exact hl, ?_⟩
            have ex := m2.writeExt (o := .lst (us ++ [vy])) hb2
            exact h2 _ _ r2 ex (m2.write hb2 ⟨_, upd_same, (hru.mono ex).append (.cons (qy.mono ex) .nil)⟩) .non
        · exact h2.elim
      · exact h2.elim
    · exact h1.elim
  · exact h1.elim
theorem ext_in {K : PySem.W.Frag} {mo : M D} {ml : M (List D)} {s : St} {H : Hp} {Q : VK} (h : rE K ca W (mExt mo ml) s H Q) : tBM K "list" rExtend (rE K ca W mo) (rA K ca W ml) s H Q := by
  obtain ⟨sd, r, S, hs, m, h⟩ := h
  refine ⟨sd, r, S, hs, m, h.bind fun d1 S1 v1 H1 r1 x1 m1 q1 h1 => ?_⟩
  split at h1
  · rename_i n
    split at h1
    · rename_i xs0 e0
      obtain ⟨a, rfl, ha, vs0, hv0, _⟩ := m1.loc q1 e0
      refine ⟨.inl ⟨rfl, vs0, .of hv0⟩, sd, r1, S1, hs.mono x1, m1, h1.bind fun ys S2 vs H2 r2 x2 m2 q2 h2 => ?_⟩
      split at h2
      · rename_i y xs e2
        split at h2
        · rename_i zs e3
          split at h2
          · rename_i hl
            obtain ⟨b, hb, hb2, us, hu, hru⟩ := m2.loc (q1.mono x2) e2
            cases hb
            cases q2 with
            | cons qy qn =>
              cases qn
              obtain ⟨c, ws, rfl, hc, hrw⟩ := asL_rep m2 qy e3
              refine ⟨a, c, us, ws, rfl, rfl, hu, hc, by rw [sizeLine_eq, ← hru.length, ← hrw.length]; exact hl, ?_⟩
              have ex := m2.writeExt (o := .lst (us ++ ws)) hb2
              exact h2 _ _ r2 ex (m2.write hb2 ⟨_, upd_same, (hru.mono ex).append (hrw.mono ex)⟩) .non
          · exact h2.elim
        · exact h2.elim
      · exact h2.elim
    · exact h1.elim
  · exact h1.elim
end

/-! ### y = [..]; a, b = x, y -/
def mPar (is : List Nat) (a : M (List D)) : MS := fun sd S => (a sd S).toS sd fun ds S1 => match is, ds with
  | [i, j], [x, y] => .ok .nx ((sd.set i (some x)).set j (some y)) S1
  | [i, j, l], [x, y, z] => .ok .nx (((sd.set i (some x)).set j (some y)).set l (some z)) S1
  | _, _ => .bad
section
variable {X : Cx} {ca : Nat → Addr} {W : WX} {pos : Pos}
theorem par_in {K : PySem.W.Frag} {i j : Nat} {ml : M (List D)} {D : Ends} {s : St} {H : Hp} (h : rS K ca W (mPar [i, j] ml) D s H) : tPar i j (rA K ca W ml) D s H := by
  obtain ⟨sd, r, S, hs, m, h⟩ := h
  refine ⟨sd, r, S, hs, m, LnS.bindE hs h fun ds S1 vs H1 r1 x1 m1 q1 h1 => ?_⟩
  split at h1
  · rename_i i' j' x y e1
    cases e1
    cases q1 with
    | cons qx q =>
      cases q with
      | cons qy q =>
        cases q
        exact ⟨_, _, rfl, h1.nx_ m1 (((hs.mono x1).set qx).set qy)⟩
  · rename_i e1; cases e1
  · exact h1.elim
theorem par3_in {K : PySem.W.Frag} {i j l : Nat} {ml : M (List D)} {D : Ends} {s : St} {H : Hp} (h : rS K ca W (mPar [i, j, l] ml) D s H) : tPar3 i j l (rA K ca W ml) D s H := by
  obtain ⟨sd, r, S, hs, m, h⟩ := h
  refine ⟨sd, r, S, hs, m, LnS.bindE hs h fun ds S1 vs H1 r1 x1 m1 q1 h1 => ?_⟩
  split at h1
  · rename_i e1; cases e1
  · rename_i i' j' l' x y z e1
    cases e1
    cases q1 with
    | cons qx q =>
      cases q with
      | cons qy q =>
        cases q with
        | cons qz q =>
          cases q
          exact ⟨_, _, _, rfl, h1.nx_ m1 ((((hs.mono x1).set qx).set qy).set qz)⟩
  · exact h1.elim
variable {elt tg iter : Expr} {ifs : List Expr} {scope : Scope} {own : List (Str × Nat)} {mi : M Src} {g : GM} {ts : List Nat} {mc : M Bool} {me : M D} {i : Nat} {y : Str} {py spos : Pos}
theorem setLc_in {K : PySem.W.Frag} {vs : List Nat} {fin : List D → Sto → Out D} (hts : ∀ t ∈ ts, t ∈ vs) {D : Ends} {s : St} {H : Hp}
    (hfin : ∀ (Q : VK) H1 r1 H rh S acc accV p, rh.p = p :: r1.p → Ext H1 r1 H ⟨rh.l, r1.p⟩ → H1 p = none → Sim K ca H rh S → H p = some (.lst accV) → p ∉ rh.l → p ∉ r1.p → Reps K H rh acc accV → Ln K ca (rV K) H1 r1 (fin acc S) Q (fun c d H' => W c d s H') → Q (.ref p) H)
    (h : rS K ca W (mAsg (fun sd S => (mLcL mi g vs mc me sd S).bind fin) (gNm i)) D s H) : tAsg (tLc (rI K ca W mi) (rG K ca ts g) (rT K ca W0 mc) (rE K ca W0 me) vs) (gName i) D s H := by
  obtain ⟨sd, r, S, hs, m, h⟩ := h
  refine lc_loop (fin := fin) hts (hfin _) ⟨sd, r, S, hs, m, LnS.bindE hs h fun d S1 v H1 r1 x1 m1 q1 h1 => ?_⟩
  exact h1.nx_ m1 ((hs.mono x1).set q1)
theorem s_setLc (mt : Bool) (hc : X.calm = true) (hN : X.N.Nodup) (hy : X.N[i]? = some y) (hyl : X.env.scope.names.lookup y = some .local)
    (hsw : swapsWith (.ListComp elt [⟨tg, iter, ifs, 0⟩] scope pos) (some (.Name y py)) spos.line X.env = pure true) (hi : PI X tg iter (rI X.K ca W mi)) (ok : BlkOk X.N X.env.scope scope own) (hts : ∀ t ∈ ts, t ∈ own.map (·.2))
    (hg : ∀ (s : Shared) (H : Hp) (C : Addr) (cl : List (Str × Addr)) (fp : List Addr), PG (X.blk s H scope (compEnvC scope cl C X.env) fp) tg (rG X.K ca ts g)) (ht : ∀ (s : Shared) (H : Hp) (C : Addr) (cl : List (Str × Addr)) (fp : List Addr), PTs (X.blk s H scope (compEnvC scope cl C X.env) fp) ifs (rT X.K ca W0 mc))
    (he : ∀ (s : Shared) (H : Hp) (C : Addr) (cl : List (Str × Addr)) (fp : List Addr), PE (X.blk s H scope (compEnvC scope cl C X.env) fp) elt (rE X.K ca W0 me)) (hs : ∀ x, foldedSetIterable iter X.env x = pure x) :
    PS X (.Assign [.Name y py] (.ListComp elt [⟨tg, iter, ifs, 0⟩] scope pos) spos) (rS X.K ca W (mAsg (if mt then mLcM mi g (own.map (·.2)) mc me else mLc mi g (own.map (·.2)) mc me) (gNm i))) := PS.imp (ps_setLc hc hN hy hyl hsw hi ok hg ht he hs) fun D s H h => by
  cases mt with
  | false => exact setLc_in hts (fun _ => fin_val) h
  | true => exact setLc_in hts (fun _ => fin_loc) h
end

/-! ### defs: as HandS's FnOk, where no repr is running around -/
structure FnZ (P : Program) (w : World) (K : PySem.W.Frag) (mg : Str → Option Value) (base : Heap) (k : Nat) (f : Addr) (fd : FuncData) (ps : List Str) (sp : Sp) : Prop where
  len : ∀ vs H Q E, sp vs H Q E → vs.length = ps.length
  run : ∀ (A : Around) (outer : List Env) (s : Shared) (H : Hp) (args : Args) (us : List Value) (vs : List V) (Q : VK) (E : XK), Room k A → A.guards = some [] →
    Env0 P w K mg base A outer s H → BindsTo s fd args (ps.zip us) → Vals vs us → sp vs H Q E → codeAny (model P w) A (.call (.ref f) args) (CR (L2.CX P w) outer P w H s Q E) s
section
variable {X : Cx} {k : Nat} {f : Addr} {fd : FuncData} {ps : List Str} {sp : Sp} {W : WX} {x : Str} {p pos : Pos} {e : Expr} {es : List Expr} {t : TA}
theorem run_fnZ {pins : List (Addr × Obj)} {σ : L2.St} {H : Hp} {s : Shared} {Q : VK} {us : List Value} {vs : List V} (F : FnZ X.prog X.w X.K X.mg X.base k f fd ps sp) (room : Room k X.A) (gd : X.A.guards = some []) (bn : Binds X.K fd ps []) (tk : Takes X W)
    (I : Inv X pins σ H s) (rv : Vals vs us) (h : sp vs H Q (WE W σ)) : wpAny (model X.prog X.w) X.A (call (.ref f) us) (EP X pins σ Q) X.xe s := by
  have n : us.length = ps.length := rv.length.symm.trans (F.len _ _ _ _ h)
  have bt : BindsTo s fd ⟨us, []⟩ (ps.zip us) := by simpa using bn s us I.kIn (by simpa using n)
  refine wpAny_call (codeAny_mono (F.run X.A X.stack s H ⟨us, []⟩ us vs Q (WE W σ) room gd I.env0 bt rv h) fun res s' hres => ?_)
  match res, hres with
  | .error x, hres => exact passAt tk σ pins H s x s' I hres
  | .ok (.ret u), hres => exact I.after hres
  | .ok .next, hres => exact False.elim hres
  | .ok .brk, hres => exact False.elim hres
  | .ok .cont, hres => exact False.elim hres
theorem pe_callZ (F : FnZ X.prog X.w X.K X.mg X.base k f fd ps sp) (room : Room k X.A) (gd : X.A.guards = some []) (hg : Gl X x) (hm : X.mg x = some (.ref f)) (kp : PySem.W.keepIn X.K (.ref f) = true) (bn : Binds X.K fd ps []) (tk : Takes X W)
    (ha : PA X (e :: es) t) (hdb : (x == ("__debug__" : Str)) = false) (he : starEach (e :: es) X.env = (false, eval e X.env) :: starEach es X.env) (hpl : (backTo pos (starEach es X.env)).any (·.1) = false) :
    PE X (.Call (.Name x p) (e :: es) [] pos) (tCallS sp (WE W) t) := ⟨fun pins s σ H Q I h => wpAny_Call_Name_kw (ld_glob I hg hm (PySem.W.callWith_K (h₀ := X.base) I.ok.mod.kin kp
      (thn (ha.run pos pins s σ H _ I h) fun us s1 ⟨vs, H1, I1, rv, q⟩ => ⟨I1.kIn, run_fnZ F room gd bn tk I1 rv q⟩) he hpl) hdb)⟩
theorem pe_callZ0 (F : FnZ X.prog X.w X.K X.mg X.base k f fd ps sp) (room : Room k X.A) (gd : X.A.guards = some []) (hg : Gl X x) (hm : X.mg x = some (.ref f)) (kp : PySem.W.keepIn X.K (.ref f) = true) (bn : Binds X.K fd ps []) (tk : Takes X W)
    (hdb : (x == ("__debug__" : Str)) = false) : PE X (.Call (.Name x p) [] [] pos) (tCallS sp (WE W) tNil) :=
  ⟨fun pins s σ H Q I h => wpAny_Call_Name_kw (ld_glob I hg hm (PySem.W.callWith_K0 I.kIn kp (run_fnZ (us := []) F room gd bn tk I .nil h)) hdb)⟩
end
/-- what a def of the program promises: that it comes to what the plain function says -/
def spOf (K : PySem.W.Frag) (ca : Nat → Addr) (n : Nat) (m : List D → Sto → Out D) : Sp := fun vs H Q E => vs.length = n ∧ ∃ ds r S, Reps K H r ds vs ∧ Sim K ca H r S ∧ Ln K ca (rV K) H r (m ds S) Q E
def mFn (f : List D → Sto → Out D) (a : M (List D)) : M D := fun sd S => (a sd S).bind fun xs S1 => f xs S1
section
variable {X : Cx} {ca : Nat → Addr} {k n : Nat} {f : Addr} {fd : FuncData} {ps : List Str} {W : WX} {x : Str} {p pos : Pos} {e : Expr} {es : List Expr} {ml : M (List D)} {m : List D → Sto → Out D}
theorem fn_in {K : PySem.W.Frag} {s : St} {H : Hp} {Q : VK} (hn : ∀ sd S ds S1, ml sd S = .ok ds S1 → ds.length = n) (h : rE K ca W (mFn m ml) s H Q) : tCallS (spOf K ca n m) (WE W) (rA K ca W ml) s H Q := by
  obtain ⟨sd, r, S, hs, mm, h⟩ := h
  refine ⟨sd, r, S, hs, mm, ?_⟩
  unfold mFn at h
  cases e1 : ml sd S with
  | bad => rw [e1] at h; exact h.elim
  | exc c fs S1 => rw [e1] at h; exact h
  | ok ds S1 =>
    rw [e1] at h
    intro vs H1 r1 x1 m1 q1
    exact ⟨by rw [← q1.length]; exact hn sd S ds S1 e1, ds, r1, S1, q1, m1, Ln.ext x1 h⟩
end
end Z

/-! Z layer, part J: the programs that are read: expressions. -/
namespace Z
open PySem PySem.Spec PyProof.Rows L2

inductive Bf where
  | len | abs | int | str | tup | lst | max2 | min2 | repr | sum | max1 | min1
mutual
inductive E where
  | v (i : Nat) | c (d : D) | g (j : Nat)
  | op (o : Operator) (a b : E) | neg (a : E)
  | cmp (o : CmpOp) (a b : E) | ch (o o' : CmpOp) (a b c : E)
  | bo (o : BoolOp) (es : Es) | not (a : E) | ifx (t : Tt) (a b : E)
  | tup (es : Es) | lst (mt : Bool) (es : Es)
  | ix (a b : E) | sl (a : E) (lo hi : Oe)
  | call (f : Nat) (es : Es) | bf (f : Bf) (es : Es) | isi (a : E) (t : Ty) | isiT (a : E) (t t' : Ty) | dicE
  | app (o : E) (es : Es) | ext (o : E) (es : Es)
  | lc (mt : Bool) (t : Tg) (it : It) (c : Ot) (e : E) (own : List (Str × Nat))
inductive Es where
  | nil | cons (e : E) (es : Es)
inductive Oe where
  | none | some (e : E)
inductive Tt where
  | bo (o : BoolOp) (ts : Tts) | not (a : Tt) | cmp (o : CmpOp) (a b : E) | ch (o o' : CmpOp) (a b c : E) | tru (e : E)
inductive Tts where
  | nil | cons (t : Tt) (ts : Tts)
inductive Ot where
  | none | some (t : Tt)
inductive Tg where
  | nm (i : Nat) | tup (ts : Tgs) | sub (o i : E)
inductive Tgs where
  | nil | cons (t : Tg) (ts : Tgs)
inductive It where
  | seq (e : E) | rng1 (a : Es) | rng2 (a : Es)
end

/-! ### what it means -/
def opF : Operator → Sto → D → D → Option D
  | .Add => addP
  | .Sub => intP subI
  | .Mult => mulP
  | .FloorDiv => intP fdivI
  | .Mod => intP modI
  | .Pow => intP powI
  | _ => fun _ _ _ => none
def cmpF : CmpOp → Sto → D → D → Option D
  | .Eq => eqD
  | .NotEq => neD
  | .Lt => cmpI fun i j => decide (i < j)
  | .LtE => cmpI fun i j => decide (i ≤ j)
  | .Gt => cmpI fun i j => decide (j < i)
  | .GtE => cmpI fun i j => decide (j ≤ i)
  | .Is => isNP false
  | .IsNot => isNP true
  | .In => inD
  | .NotIn => notInD
def bfF : Bf → Sto → List D → Option D
  | .len => call1 lenD
  | .abs => call1 absD
  | .int => call1 intD
  | .str => call1 strD
  | .tup => call1 tupD
  | .lst => call1 lstD
  | .max2 => max2D
  | .min2 => min2D
  | .repr => call1 reprD
  | .sum => call1 sumD
  | .max1 => call1 max1D
  | .min1 => call1 min1D
def negD (x : D) : Option D := match x with
  | .int i => some (.int (-i))
  | _ => none
def mNeg (a : M D) : M D := fun sd S => (a sd S).bind fun x S1 => lift (negD x) S1
def mYes : M Bool := fun _ S => .ok true S
def mG (G : List D) (j : Nat) : M D := fun _ S => lift G[j]? S
mutual
def tgSl : Tg → List Nat
  | .nm i => [i]
  | .tup ts => tgsSl ts
  | .sub _ _ => []
def tgsSl : Tgs → List Nat
  | .nil => []
  | .cons t ts => tgSl t ++ tgsSl ts
end
def tgsLen : Tgs → Nat
  | .nil => 0
  | .cons _ ts => tgsLen ts + 1
section
variable (G : List D) (C : Nat → List D → Sto → Out D)
mutual
def dE : E → M D
  | .v i => mVar i
  | .c d => mC d
  | .g j => mG G j
  | .op o a b => mBin (opF o) (dE a) (dE b)
  | .neg a => mNeg (dE a)
  | .cmp o a b => mBin (cmpF o) (dE a) (dE b)
  | .ch o o' a b c => mChain (cmpF o) (cmpF o') (dE a) (dE b) (dE c)
  | .bo o es => dB o es
  | .not a => mNot (dE a)
  | .ifx t a b => mIf (dT t) (dE a) (dE b)
  | .tup es => mTup (dL es)
  | .lst mt es => if mt then mLstM (dL es) else mLst (dL es)
  | .ix a b => mBin ixP (dE a) (dE b)
  | .sl a lo hi => mSl (dE a) (dO lo) (dO hi)
  | .call f es => mFn (C f) (dL es)
  | .bf f es => mCall (bfF f) (dL es)
  | .isi a t => mIsi (dE a) t
  | .isiT a t t' => mIsiT (dE a) t t'
  | .dicE => mDicE
  | .app o es => mApp (dE o) (dL es)
  | .ext o es => mExt (dE o) (dL es)
  | .lc mt t it c e own => if mt then mLcM (dI it) (dG t) (own.map (·.2)) (dC c) (dE e) else mLc (dI it) (dG t) (own.map (·.2)) (dC c) (dE e)
def dL : Es → M (List D)
  | .nil => mNil
  | .cons e es => mCons (dE e) (dL es)
def dB (o : BoolOp) : Es → M D
  | .nil => fun _ _ => .bad
  | .cons e es => match es with
    | .nil => dE e
    | .cons _ _ => match o with
      | .And => mAnd (dE e) (dB o es)
      | .Or => mOr (dE e) (dB o es)
def dO : Oe → M (Option Int)
  | .none => mNo
  | .some e => mPart (dE e)
def dT : Tt → M Bool
  | .bo o ts => dTB o ts
  | .not a => mNotT (dT a)
  | .cmp o a b => mBl (mBin (cmpF o) (dE a) (dE b))
  | .ch o o' a b c => mBl (mChain (cmpF o) (cmpF o') (dE a) (dE b) (dE c))
  | .tru e => mTru (dE e)
def dTB (o : BoolOp) : Tts → M Bool
  | .nil => fun _ _ => .bad
  | .cons t ts => match ts with
    | .nil => dT t
    | .cons _ _ => match o with
      | .And => mAndT (dT t) (dTB o ts)
      | .Or => mOrT (dT t) (dTB o ts)
def dC : Ot → M Bool
  | .none => mYes
  | .some t => dT t
def dG : Tg → GM
  | .nm i => gNm i
  | .tup ts => gTp (tgsLen ts) (dGs ts)
  | .sub o i => gSubM (dE o) (dE i)
def dGs : Tgs → List D → Sl → Sto → Option (Sl × Sto)
  | .nil => gsNil
  | .cons t ts => gsCons (dG t) (dGs ts)
def dI : It → M Src
  | .seq e => mSeq (dE e)
  | .rng1 a => mRng rng1 (dL a)
  | .rng2 a => mRng rng2 (dL a)
end
end

/-! ### that it is what the text says -/
structure Tab where
  fns : List (Str × Nat)
  gl : List (Str × D)
def Tab.G (C : Tab) : List D := C.gl.map (·.2)
def nmIs (y : Str) (s : String) : Bool := decide (y = Str.ofString s)
def dbgN (y : Str) : Bool := !(y == ("__debug__" : Str)) && !(y == ("__classdict__" : Str)) && !(y == ("__name__" : Str))
def visN (sc : Scope) (y : Str) : Bool := match sc.names.lookup y with
  | some .local => true
  | some .cell => true
  | some .free => true
  | _ => false
def gloN (sc : Scope) (y : Str) : Bool := decide (sc.names.lookup y = some .globalImplicit)
/-- a name that may be stored: a local; at a def's own level a cell too -/
def stoN (fl : Bool) (sc : Scope) (y : Str) : Bool := match sc.names.lookup y with
  | some .local => true
  | some .cell => fl
  | _ => false
def bfN : Bf → String
  | .len => "len" | .abs => "abs" | .int => "int" | .str => "str" | .tup => "tuple" | .lst => "list" | .max2 => "max" | .min2 => "min" | .repr => "repr" | .sum => "sum" | .max1 => "max" | .min1 => "min"
def bfTy : Bf → Bool
  | .int => true | .str => true | .tup => true | .lst => true | _ => false
/-- no star, no slice, no set display, no comprehension but a list's .. -/
def okX : Expr → Bool
  | .Name .. => true | .Constant .. => true | .BinOp .. => true | .UnaryOp .. => true | .Compare .. => true | .BoolOp .. => true | .IfExp .. => true
  | .Tuple .. => true | .List .. => true | .Subscript .. => true | .Call .. => true | .ListComp .. => true | .Attribute .. => true | .JoinedStr .. => true | .Dict .. => true
  | _ => false
/-- its truth is its value's -/
def okTru : Expr → Bool
  | .Name .. => true | .Constant .. => true | .BinOp .. => true | .Tuple .. => true | .List .. => true | .Subscript .. => true | .Call .. => true | .Attribute .. => true
  | _ => false
def noCall : Expr → Bool
  | .Name .. => true | .Subscript .. => true | .Attribute .. => true | .Constant .. => true
  | _ => false
def okOp : Operator → Bool
  | .Add => true | .Sub => true | .Mult => true | .FloorDiv => true | .Mod => true | .Pow => true | _ => false
def cEq (d : D) (k : Const) : Bool := match d, k with
  | .int i, .int j => decide (i = j)
  | .str i, .str j => decide (i = j)
  | .bl i, .bool j => decide (i = j)
  | .non, .none => true
  | _, _ => false
section
variable (C : Tab) (N : List Str)
mutual
def chkE (fl : Bool) (sc : Scope) : E → Expr → Bool
  | .v i, x => match x with
    | .Name y _ => decide (N[i]? = some y) && visN sc y && dbgN y
    | _ => false
  | .c d, x => match x with
    | .Constant k _ _ => cEq d k
    | _ => false
  | .g j, x => match x with
    | .Name y _ => (match C.gl[j]? with | some (z, _) => decide (z = y) | none => false) && gloN sc y && dbgN y
    | _ => false
  | .op o a b, x => match x with
    | .BinOp l o' r _ => decide (o = o') && okOp o && chkE fl sc a l && chkE fl sc b r
    | _ => false
  | .neg a, x => match x with
    | .UnaryOp .USub l _ => chkE fl sc a l
    | _ => false
  | .cmp o a b, x => match x with
    | .Compare l [o'] [r] _ => decide (o = o') && chkE fl sc a l && chkE fl sc b r
    | _ => false
  | .ch o1 o2 a b c, x => match x with
    | .Compare l [p1, p2] [r, t] _ => decide (o1 = p1) && decide (o2 = p2) && chkE fl sc a l && chkE fl sc b r && chkE fl sc c t
    | _ => false
  | .bo o es, x => match x with
    | .BoolOp o' l _ => decide (o = o') && chkL fl sc es l
    | _ => false
  | .not a, x => match x with
    | .UnaryOp .Not l _ => chkE fl sc a l
    | _ => false
  | .ifx t a b, x => match x with
    | .IfExp c l r _ => chkT fl sc t c && chkE fl sc a l && chkE fl sc b r
    | _ => false
  | .tup es, x => match x with
    | .Tuple l _ _ => chkL fl sc es l
    | _ => false
  | .lst _ es, x => match x with
    | .List l _ => chkL fl sc es l
    | _ => false
  | .ix a b, x => match x with
    | .Subscript l r _ => chkE fl sc a l && chkE fl sc b r
    | _ => false
  | .sl a lo hi, x => match x with
    | .Subscript l (.Slice p q none _) _ => chkE fl sc a l && chkO fl sc lo p && chkO fl sc hi q
    | _ => false
  | .call f es, x => match x with
    | .Call (.Name y _) l [] _ => (match C.fns[f]? with | some (z, n) => decide (z = y) && decide (l.length = n) | none => false) && gloN sc y && dbgN y && chkL fl sc es l
    | _ => false
  | .bf f es, x => match x with
    | .Call (.Name y _) (l :: ls) [] _ => nmIs y (bfN f) && gloN sc y && chkL fl sc es (l :: ls)
    | _ => false
  | .isi a t, x => match x with
    | .Call (.Name y _) [l, .Name z _] [] _ => nmIs y "isinstance" && nmIs z t.nm && gloN sc y && gloN sc z && chkE fl sc a l
    | _ => false
  | .isiT a t t', x => match x with
    | .Call (.Name y _) [l, .Tuple [.Name z _, .Name z' _] _ _] [] _ => nmIs y "isinstance" && nmIs z t.nm && nmIs z' t'.nm && gloN sc y && gloN sc z && gloN sc z' && chkE fl sc a l
    | _ => false
  | .dicE, x => match x with
    | .Dict [] [] _ => true
    | _ => false
  | .app o es, x => match x with
    | .Call (.Attribute l m ap) [y] [] cp => nmIs m "append" && noCall l && (ap.endLine == cp.line) && chkE fl sc o l && chkL fl sc es [y]
    | _ => false
  | .ext o es, x => match x with
    | .Call (.Attribute l m ap) [y] [] cp => nmIs m "extend" && noCall l && (ap.endLine == cp.line) && chkE fl sc o l && chkL fl sc es [y]
    | _ => false
  | .lc _ t it c e own, x => match x with
    | .ListComp el [⟨tg, iter, ifs, as⟩] scope _ => decide (as = 0) && blkC N sc scope own && (tgSl t).all (fun i => (own.map (·.2)).contains i) && chkI fl sc it iter && chkG false (relS scope sc) t tg && chkC false (relS scope sc) c ifs && chkE false (relS scope sc) e el
    | _ => false
def chkL (fl : Bool) (sc : Scope) : Es → List Expr → Bool
  | .nil, xs => xs.isEmpty
  | .cons e es, xs => match xs with
    | x :: rest => chkE fl sc e x && chkL fl sc es rest
    | [] => false
def chkO (fl : Bool) (sc : Scope) : Oe → Option Expr → Bool
  | .none, x => x.isNone
  | .some e, x => match x with
    | some y => chkE fl sc e y
    | none => false
def chkT (fl : Bool) (sc : Scope) : Tt → Expr → Bool
  | .bo o ts, x => match x with
    | .BoolOp o' l _ => decide (o = o') && chkTs fl sc ts l
    | _ => false
  | .not a, x => match x with
    | .UnaryOp .Not l _ => chkT fl sc a l
    | _ => false
  | .cmp o a b, x => match x with
    | .Compare l [o'] [r] _ => decide (o = o') && chkE fl sc a l && chkE fl sc b r
    | _ => false
  | .ch o1 o2 a b c, x => match x with
    | .Compare l [p1, p2] [r, t] _ => decide (o1 = p1) && decide (o2 = p2) && chkE fl sc a l && chkE fl sc b r && chkE fl sc c t
    | _ => false
  | .tru e, x => okTru x && chkE fl sc e x
def chkTs (fl : Bool) (sc : Scope) : Tts → List Expr → Bool
  | .nil, xs => xs.isEmpty
  | .cons t ts, xs => match xs with
    | x :: rest => chkT fl sc t x && chkTs fl sc ts rest
    | [] => false
def chkC (fl : Bool) (sc : Scope) : Ot → List Expr → Bool
  | .none, xs => xs.isEmpty
  | .some t, xs => match xs with
    | [x] => chkT fl sc t x
    | _ => false
def chkG (fl : Bool) (sc : Scope) : Tg → Expr → Bool
  | .nm i, x => match x with
    | .Name y _ => decide (N[i]? = some y) && stoN fl sc y
    | _ => false
  | .tup ts, x => match x with
    | .Tuple l _ _ => chkGs fl sc ts l
    | _ => false
  | .sub o i, x => match x with
    | .Subscript l r _ => chkE fl sc o l && chkE fl sc i r
    | _ => false
def chkGs (fl : Bool) (sc : Scope) : Tgs → List Expr → Bool
  | .nil, xs => xs.isEmpty
  | .cons t ts, xs => match xs with
    | x :: rest => chkG fl sc t x && chkGs fl sc ts rest
    | [] => false
def chkI (fl : Bool) (sc : Scope) : It → Expr → Bool
  | .seq e, x => chkE fl sc e x
  | .rng1 a, x => match x with
    | .Call (.Name y _) [l] [] _ => nmIs y "range" && gloN sc y && chkL fl sc a [l]
    | _ => false
  | .rng2 a, x => match x with
    | .Call (.Name y _) [l, r] [] _ => nmIs y "range" && gloN sc y && chkL fl sc a [l, r]
    | _ => false
end
end
end Z

/-! Z layer, part K: expressions keep what their meaning says. -/
namespace Z
open PySem PySem.Spec PyProof.Rows L2

def bltN : List String := ["len", "abs", "int", "str", "tuple", "list", "max", "min", "repr", "isinstance", "range", "bool", "sum"]
structure Cxt (C : Tab) (ca : Nat → Addr) (call : Nat → List D → Sto → Out D) (k : Nat) (N : List Str) (fl : Bool) (sc : Scope) (X : Cx) (W : WX) : Prop where
  scp : X.env.scope = sc
  kind : sc.kind = .function
  calm : X.calm = true
  nm : X.N = N
  nd : N.Nodup
  fn : fl = true → ∀ x, X.fn x = true
  room : Room k X.A
  gd : X.A.guards = some []
  tk : Takes X W
  po : PassesOwn (model X.prog X.w) X.A X.env X.xe
  blt : ∀ x ∈ bltN, X.mg (Str.ofString x) = none
  gl : ∀ (j : Nat) (x : Str) (d : D), C.gl[j]? = some (x, d) → ∃ u v, X.mg x = some u ∧ RelV v u ∧ ∀ H r, Rep X.K H r d v
  fns : ∀ (f : Nat) (x : Str) (n : Nat), C.fns[f]? = some (x, n) → ∃ (a : Addr) (fd : FuncData) (ps : List Str), ps.length = n ∧ X.mg x = some (.ref a) ∧ PySem.W.keepIn X.K (.ref a) = true ∧ Binds X.K fd ps [] ∧
    FnZ X.prog X.w X.K X.mg X.base k a fd ps (spOf X.K ca n (call f))

theorem okX_of {C : Tab} {N : List Str} {fl : Bool} {sc : Scope} {e : E} {x : Expr} (h : chkE C N fl sc e x = true) : okX x = true := by
  cases e <;> (unfold chkE at h; split at h <;> first | rfl | (cases h; done))
theorem star_ok {x : Expr} (h : okX x = true) (es : List Expr) (env : Env) : starEach (x :: es) env = (false, eval x env) :: starEach es env := by
  cases x <;> first | rfl | (cases h; done)
theorem ix_ok {x : Expr} (h : okX x = true) : PlainIx x := by
  cases x <;> first | exact (fun _ _ => rfl) | (cases h; done)
theorem mark_ok {x : Expr} (h : okX x = true) (o : CmpOp) : behindInMarks o x = false := by
  cases x <;> first | rfl | (cases h; done)
theorem last_ok {x y : Expr} (h : okX y = true) (o o' : CmpOp) : lastMarks [o, o'] [x, y] = false := mark_ok h o'
theorem fold_ok {x : Expr} (h : okX x = true) (env : Env) (v : Value) : foldedSetIterable x env v = pure v := by
  cases x <;> first | rfl | (cases h; done)
theorem tru_ok {x : Expr} (h : okTru x = true) (env : Env) (wh : Sem Value) : isTrue x env wh = (do let v ← wh; standAt x.pos; holding [v] (truthy v)) := by
  cases x <;> first | rfl | (cases h; done)
theorem base_ok {x : Expr} (h : noCall x = true) (m : Str) (env : Env) : attributeBase x m env (eval x env) = eval x env := by
  cases x <;> first | rfl | (cases h; done)
theorem asub_ok {o i : Expr} (h : okX i = true) (pos : Pos) (env : Env) (v : Value) : assign (.Subscript o i pos) env v = (do
      let ov ← holding [v] (eval o env)
      let iv ← holding [v, ov] (eval i env)
      standAt pos
      holding [v, ov, iv] (setItem ov iv v)
      release [v, ov, iv] []) := by
  cases i <;> first | rfl | (cases h; done)
theorem vis_of {sc : Scope} {y : Str} (h : visN sc y = true) : Vis sc y := by
  unfold visN at h
  split at h <;> first | exact .inl (by assumption) | exact .inr (.inl (by assumption)) | exact .inr (.inr (by assumption)) | (cases h; done)
theorem sto_of {fl : Bool} {sc : Scope} {y : Str} (h : stoN fl sc y = true) : Loc sc y ∧ (fl = true ∨ sc.names.lookup y = some .local) := by
  unfold stoN at h
  split at h
  · rename_i e; exact ⟨.inl e, .inr e⟩
  · rename_i e; exact ⟨.inr e, .inl h⟩
  · cases h
theorem dbg_of {y : Str} (h : dbgN y = true) : (y == ("__debug__" : Str)) = false ∧ (y == ("__classdict__" : Str)) = false ∧ y ≠ "__name__" := by
  unfold dbgN at h
  simp only [Bool.and_eq_true, Bool.not_eq_true'] at h
  exact ⟨h.1.1, h.1.2, fun e => by have := h.2; rw [e] at this; simp at this⟩

section
variable {C : Tab} {ca : Nat → Addr} {call : Nat → List D → Sto → Out D} {k : Nat}

theorem chkL_len {N : List Str} {fl : Bool} {sc : Scope} : ∀ {es : Es} {xs : List Expr}, chkL C N fl sc es xs = true → ∀ sd S ds S1, dL C.G call es sd S = .ok ds S1 → ds.length = xs.length
  | .nil, xs, h, sd, S, ds, S1, e => by
    unfold chkL at h
    unfold dL at e
    cases xs with
    | nil => unfold mNil at e; cases e; rfl
    | cons _ _ => cases h
  | .cons a es, xs, h, sd, S, ds, S1, e => by
    unfold chkL at h
    split at h
    · rename_i x rest
      rw [Bool.and_eq_true] at h
      unfold dL mCons at e
      cases e1 : dE C.G call a sd S with
      | bad => rw [e1] at e; cases e
      | exc _ _ _ => rw [e1] at e; cases e
      | ok d S2 =>
        rw [e1] at e
        simp only [Out.bind] at e
        cases e2 : dL C.G call es sd S2 with
        | bad => rw [e2] at e; cases e
        | exc _ _ _ => rw [e2] at e; cases e
        | ok ds2 S3 =>
          rw [e2] at e
          cases e
          rw [List.length_cons, List.length_cons, chkL_len h.2 sd S2 ds2 _ e2]
    · cases h
theorem back_ok {N : List Str} {fl : Bool} {sc : Scope} : ∀ {es : Es} {xs : List Expr}, chkL C N fl sc es xs = true → ∀ (pos : Pos) (env : Env), (backTo pos (starEach xs env)).any (·.1) = false
  | .nil, xs, h, pos, env => by
    unfold chkL at h
    cases xs with
    | nil => rfl
    | cons _ _ => cases h
  | .cons a es, xs, h, pos, env => by
    unfold chkL at h
    split at h
    · rename_i x rest
      rw [Bool.and_eq_true] at h
      rw [star_ok (okX_of h.1)]
      exact back_ok h.2 pos env
    · cases h
theorem asgE_ok {N : List Str} {fl : Bool} {sc : Scope} : ∀ {ts : Tgs} {xs : List Expr}, chkGs C N fl sc ts xs = true → ∀ (env : Env), (assignEach xs env).length = tgsLen ts ∧ (assignEach xs env).findIdx? (·.1) = none
  | .nil, xs, h, env => by
    unfold chkGs at h
    cases xs with
    | nil => exact ⟨rfl, rfl⟩
    | cons _ _ => cases h
  | .cons t ts, xs, h, env => by
    unfold chkGs at h
    split at h
    · rename_i x rest
      rw [Bool.and_eq_true] at h
      have hx : assignEach (x :: rest) env = (false, assign x env) :: assignEach rest env := by
        have := h.1
        cases t <;> (unfold chkG at this; split at this <;> first | rfl | (cases this; done))
      obtain ⟨h1, h2⟩ := asgE_ok h.2 env
      rw [hx]
      refine ⟨by rw [List.length_cons, h1]; rfl, ?_⟩
      rw [List.findIdx?_cons]
      simp [h2]
    · cases h
theorem asg1_ok {N : List Str} {fl : Bool} {sc : Scope} {t : Tg} {x : Expr} (h : chkG C N fl sc t x = true) (rest : List Expr) (env : Env) : assignEach (x :: rest) env = (false, assign x env) :: assignEach rest env := by
  cases t <;> (unfold chkG at h; split at h <;> first | rfl | (cases h; done))

theorem okI {it : It} {N : List Str} {fl : Bool} {sc : Scope} {x : Expr} (h : chkI C N fl sc it x = true) : okX x = true := by
  cases it with
  | seq e => unfold chkI at h; exact okX_of h
  | rng1 a => unfold chkI at h; split at h <;> first | rfl | (cases h; done)
  | rng2 a => unfold chkI at h; split at h <;> first | rfl | (cases h; done)
theorem cmp_rule {X : Cx} (hu : X.A.units + 64 < cLine) (o : CmpOp) : ∃ R, OpR X (compareOp o) R ∧ OpZ X.K ca R (cmpF o) := by
  cases o with
  | Eq => exact ⟨_, or_eq hu, oz_eq⟩
  | NotEq => exact ⟨_, or_ne hu, oz_ne⟩
  | Lt => exact ⟨_, op_lt, oz_cmp⟩
  | LtE => exact ⟨_, op_le, oz_cmp⟩
  | Gt => exact ⟨_, op_gt, oz_cmp⟩
  | GtE => exact ⟨_, op_ge, oz_cmp⟩
  | Is => exact ⟨_, op_isN, oz_isN⟩
  | IsNot => exact ⟨_, op_notN, oz_notN⟩
  | In => exact ⟨_, or_in, oz_in⟩
  | NotIn => exact ⟨_, or_notIn, oz_notIn⟩
theorem op_rule {X : Cx} (o : Operator) (h : okOp o = true) : ∃ R, OpR X (binaryOp o) R ∧ OpZ X.K ca R (opF o) := by
  cases o with
  | Add => exact ⟨_, or_add, oz_add⟩
  | Sub => exact ⟨_, or_sub, oz_sub⟩
  | Mult => exact ⟨_, or_mul, oz_mul⟩
  | FloorDiv => exact ⟨_, op_fdiv, oz_fdiv⟩
  | Mod => exact ⟨_, op_mod, oz_mod⟩
  | Pow => exact ⟨_, op_pow, oz_pow⟩
  | _ => cases h
theorem z_neg {X : Cx} {W : WX} {a : Expr} {ma : M D} {pos : Pos} (ha : PE X a (rE X.K ca W ma)) : PE X (.UnaryOp .USub a pos) (rE X.K ca W (mNeg ma)) := PE.imp (pe_un un_neg ha) fun s H Q ⟨sd, r, S, hs, m, h⟩ =>
  ⟨sd, r, S, hs, m, h.bind fun d1 S1 v1 H1 r1 x1 m1 q1 h1 => by
    obtain ⟨d, e, kk⟩ := lift_ln h1
    unfold negD at e
    split at e
    · cases e; cases q1
      exact ⟨_, rfl, kk _ _ r1 (Ext.refl ..) m1 (.int _)⟩
    · cases e⟩
theorem bf_rule {X : Cx} {fl : Bool} {sc : Scope} {W : WX} {N : List Str} (cx : Cxt C ca call k N fl sc X W) (f : Bf) {y : Str} {p pos : Pos} {l : Expr} {ls : List Expr} {ml : M (List D)} (hy : y = Str.ofString (bfN f)) (hg : Gl X y) (ha : PA X (l :: ls) (rA X.K ca W ml))
    (he : starEach (l :: ls) X.env = (false, eval l X.env) :: starEach ls X.env) (hpl : (backTo pos (starEach ls X.env)).any (·.1) = false) : PE X (.Call (.Name y p) (l :: ls) [] pos) (rE X.K ca W (mCall (bfF f) ml)) := by
  have hu := cx.room.units
  have hm : X.mg y = none := by rw [hy]; exact cx.blt _ (by cases f <;> simp [bltN, bfN])
  cases f with
  | len => subst hy; exact z_callB (id := "len") call_len cz_len hg hm (by decide +kernel) ha (by decide) (by decide) he hpl
  | abs => subst hy; exact z_callB (id := "abs") call_abs cz_abs hg hm (by decide +kernel) ha (by decide) (by decide) he hpl
  | int => subst hy; exact z_callT (id := "int") or_int cz_int hg hm (by decide +kernel) ha (by decide) (by decide) he hpl
  | str => subst hy; exact z_callT (id := "str") call_str_int cz_str hg hm (by decide +kernel) ha (by decide) (by decide) he hpl
  | tup => subst hy; exact z_callT (id := "tuple") call_tuple_of cz_tup hg hm (by decide +kernel) ha (by decide) (by decide) he hpl
  | lst => subst hy; exact z_callT (id := "list") call_list_of cz_lst hg hm (by decide +kernel) ha (by decide) (by decide) he hpl
  | max2 => subst hy; exact z_callB (id := "max") (call_max2 cx.calm) cz_max2 hg hm (by decide +kernel) ha (by decide) (by decide) he hpl
  | min2 => subst hy; exact z_callB (id := "min") (call_min2 cx.calm) cz_min2 hg hm (by decide +kernel) ha (by decide) (by decide) he hpl
  | sum => subst hy; exact z_callB (id := "sum") (cr_sum cx.calm) cz_sum hg hm (by decide +kernel) ha (by decide) (by decide) he hpl
  | max1 => subst hy; exact z_callB (id := "max") (cr_max cx.calm) cz_max1 hg hm (by decide +kernel) ha (by decide) (by decide) he hpl
  | min1 => subst hy; exact z_callB (id := "min") (cr_min cx.calm) cz_min1 hg hm (by decide +kernel) ha (by decide) (by decide) he hpl
  | repr => subst hy; exact z_callB (id := "repr") (cr_repr cx.gd hu) cz_repr hg hm (by decide +kernel) ha (by decide) (by decide) he hpl
theorem Cxt.blk {N : List Str} {fl : Bool} {sc : Scope} {X : Cx} {W : WX} (cx : Cxt C ca call k N fl sc X W) (s : Shared) (H : Hp) (scope : Scope) (hk : scope.kind = .function) (cl : List (Str × Addr)) (A : Addr) (fp : List Addr) :
    Cxt C ca call k N false (relS scope sc) (X.blk s H scope (compEnvC scope cl A X.env) fp) W0 := by
  obtain rfl := cx.scp
  exact ⟨rfl, hk, cx.calm, cx.nm, cx.nd, fun z => (by cases z), cx.room, cx.gd, takes0, PassesOwn.never, cx.blt, cx.gl, cx.fns⟩

mutual
theorem soundE : ∀ (e : E) {N : List Str} {fl : Bool} {sc : Scope} {X : Cx} {W : WX} {x : Expr}, Cxt C ca call k N fl sc X W → chkE C N fl sc e x = true → PE X x (rE X.K ca W (dE C.G call e))
  | .v i, N, fl, sc, X, W, x, cx, h => by
    unfold chkE at h
    split at h
    · simp only [Bool.and_eq_true, decide_eq_true_eq] at h
      obtain ⟨⟨h1, h2⟩, h3⟩ := h
      obtain ⟨d1, d2, _⟩ := dbg_of h3
      exact z_var (pe_var (by rw [cx.nm]; exact h1) (by rw [cx.scp]; exact vis_of h2) d1 d2)
    · cases h
  | .c d, N, fl, sc, X, W, x, cx, h => by
    unfold chkE at h
    split at h
    · unfold cEq at h
      split at h
      · have := of_decide_eq_true h; subst this; exact z_c pe_int fun _ _ => .int _
      · have := of_decide_eq_true h; subst this; exact z_c pe_str fun _ _ => .str _
      · have := of_decide_eq_true h; subst this; exact z_c pe_bl fun _ _ => .bl _
      · exact z_c pe_non fun _ _ => .non
      · cases h
    · cases h
  | .g j, N, fl, sc, X, W, x, cx, h => by
    unfold chkE at h
    split at h
    · rename_i y p
      simp only [Bool.and_eq_true] at h
      obtain ⟨⟨h1, h2⟩, h3⟩ := h
      split at h1
      · rename_i z d e
        have := of_decide_eq_true h1
        subst this
        obtain ⟨u, v, hm, rv, rp⟩ := cx.gl j z d e
        have hG : C.G[j]? = some d := by unfold Tab.G; rw [List.getElem?_map, e]; rfl
        refine PE.imp (pe_glob (v := v) (u := u) (by unfold Gl Env.kindOf; rw [cx.scp]; exact of_decide_eq_true h2) hm rv (dbg_of h3).1) fun s H Q ⟨sd, r, S, hs, m, hh⟩ => ?_
        unfold dE mG at hh
        rw [hG] at hh
        exact hh.ok m (rp H r)
      · cases h1
    · cases h
  | .op o a b, N, fl, sc, X, W, x, cx, h => by
    unfold chkE at h
    split at h
    · simp only [Bool.and_eq_true, decide_eq_true_eq] at h
      obtain ⟨⟨⟨h0, h1⟩, h2⟩, h3⟩ := h
      subst h0
      obtain ⟨R, r1, r2⟩ := op_rule (X := X) (ca := ca) o h1
      exact z_bin r1 r2 (soundE a cx h2) (soundE b cx h3)
    · cases h
  | .neg a, N, fl, sc, X, W, x, cx, h => by
    unfold chkE at h
    split at h
    · exact z_neg (soundE a cx h)
    · cases h
  | .cmp o a b, N, fl, sc, X, W, x, cx, h => by
    unfold chkE at h
    split at h
    · simp only [Bool.and_eq_true, decide_eq_true_eq] at h
      obtain ⟨⟨h0, h2⟩, h3⟩ := h
      subst h0
      obtain ⟨R, r1, r2⟩ := cmp_rule (X := X) (ca := ca) cx.room.units o
      exact z_cmp r1 r2 (soundE a cx h2) (soundE b cx h3) (mark_ok (okX_of h3) o)
    · cases h
  | .ch o o' a b c, N, fl, sc, X, W, x, cx, h => by
    unfold chkE at h
    split at h
    · simp only [Bool.and_eq_true, decide_eq_true_eq] at h
      obtain ⟨⟨⟨⟨h0, h1⟩, h2⟩, h3⟩, h4⟩ := h
      subst h0 h1
      obtain ⟨R, r1, r2⟩ := cmp_rule (X := X) (ca := ca) cx.room.units o
      obtain ⟨R', r1', r2'⟩ := cmp_rule (X := X) (ca := ca) cx.room.units o'
      exact z_chain r1 r1' r2 r2' (soundE a cx h2) (soundE b cx h3) (soundE c cx h4) (last_ok (okX_of h4) o o')
    · cases h
  | .bo o es, N, fl, sc, X, W, x, cx, h => by
    unfold chkE at h
    split at h
    · simp only [Bool.and_eq_true, decide_eq_true_eq] at h
      obtain ⟨h0, h1⟩ := h
      subst h0
      exact soundB o es cx h1
    · cases h
  | .not a, N, fl, sc, X, W, x, cx, h => by
    unfold chkE at h
    split at h
    · exact z_not (soundE a cx h)
    · cases h
  | .ifx t a b, N, fl, sc, X, W, x, cx, h => by
    unfold chkE at h
    split at h
    · simp only [Bool.and_eq_true] at h
      exact z_ifx (soundT t cx h.1.1) (soundE a cx h.1.2) (soundE b cx h.2)
    · cases h
  | .tup es, N, fl, sc, X, W, x, cx, h => by
    unfold chkE at h
    split at h
    · exact z_tup (soundL es cx h)
    · cases h
  | .lst mt es, N, fl, sc, X, W, x, cx, h => by
    unfold chkE at h
    split at h
    · unfold dE
      cases mt with
      | true => exact z_lstM (soundL es cx h)
      | false => exact z_lst (soundL es cx h)
    · cases h
  | .ix a b, N, fl, sc, X, W, x, cx, h => by
    unfold chkE at h
    split at h
    · simp only [Bool.and_eq_true] at h
      exact z_ix (soundE a cx h.1) (soundE b cx h.2) (ix_ok (okX_of h.2))
    · cases h
  | .sl a lo hi, N, fl, sc, X, W, x, cx, h => by
    unfold chkE at h
    split at h
    · simp only [Bool.and_eq_true] at h
      exact z_sl (soundE a cx h.1.1) (soundO lo cx h.1.2) (soundO hi cx h.2)
    · cases h
  | .call f es, N, fl, sc, X, W, x, cx, h => by
    unfold chkE at h
    split at h
    · rename_i y p l pos
      simp only [Bool.and_eq_true] at h
      obtain ⟨⟨⟨h1, h2⟩, h3⟩, h4⟩ := h
      split at h1
      · rename_i z n e
        rw [Bool.and_eq_true, decide_eq_true_eq, decide_eq_true_eq] at h1
        obtain ⟨rfl, hl⟩ := h1
        obtain ⟨a, fd, ps, hp, hm, kp, bn, F⟩ := cx.fns f z n e
        have hg : Gl X z := by unfold Gl Env.kindOf; rw [cx.scp]; exact of_decide_eq_true h2
        have hn : ∀ sd S ds S1, dL C.G call es sd S = .ok ds S1 → ds.length = n := fun sd S ds S1 e1 => by rw [chkL_len h4 sd S ds S1 e1]; exact hl
        have hL := soundL es (X := X) (W := W) cx h4
        cases l with
        | nil =>
          cases es with
          | cons _ _ => unfold chkL at h4; cases h4
          | nil =>
            refine PE.imp (pe_callZ0 F cx.room cx.gd hg hm kp bn cx.tk (dbg_of h3).1) fun s H Q hh => ?_
            obtain ⟨sd, r, S, hs, m, hh⟩ := hh
            unfold dE dL mFn mNil at hh
            exact ⟨by rw [← hl]; rfl, [], r, S, .nil, m, hh⟩
        | cons l0 ls =>
          have hok : okX l0 = true := by
            cases es with
            | nil => unfold chkL at h4; cases h4
            | cons e0 es0 =>
              unfold chkL at h4
              rw [Bool.and_eq_true] at h4
              exact okX_of h4.1
          have hb : (backTo pos (starEach ls X.env)).any (·.1) = false := by
            cases es with
            | nil => unfold chkL at h4; cases h4
            | cons e0 es0 =>
              unfold chkL at h4
              rw [Bool.and_eq_true] at h4
              exact back_ok h4.2 pos X.env
          exact PE.imp (pe_callZ F cx.room cx.gd hg hm kp bn cx.tk hL (dbg_of h3).1 (star_ok hok ls X.env) hb) fun s H Q hh => fn_in hn hh
      · cases h1
    · cases h
  | .bf f es, N, fl, sc, X, W, x, cx, h => by
    unfold chkE at h
    split at h
    · rename_i y p l ls pos
      simp only [Bool.and_eq_true] at h
      obtain ⟨⟨h1, h2⟩, h4⟩ := h
      have hg : Gl X y := by unfold Gl Env.kindOf; rw [cx.scp]; exact of_decide_eq_true h2
      have hL := soundL es (X := X) (W := W) cx h4
      have hok : okX l = true ∧ (backTo pos (starEach ls X.env)).any (·.1) = false := by
        cases es with
        | nil => unfold chkL at h4; cases h4
        | cons e0 es0 =>
          unfold chkL at h4
          rw [Bool.and_eq_true] at h4
          exact ⟨okX_of h4.1, back_ok h4.2 pos X.env⟩
      exact bf_rule cx f (of_decide_eq_true h1) hg hL (star_ok hok.1 ls X.env) hok.2
    · cases h
  | .isi a t, N, fl, sc, X, W, x, cx, h => by
    unfold chkE at h
    split at h
    · rename_i y p l z p2 pos
      simp only [Bool.and_eq_true] at h
      obtain ⟨⟨⟨⟨h1, h2⟩, h3⟩, h4⟩, h5⟩ := h
      have hg : Gl X y := by unfold Gl Env.kindOf; rw [cx.scp]; exact of_decide_eq_true h3
      have hg2 : Gl X z := by unfold Gl Env.kindOf; rw [cx.scp]; exact of_decide_eq_true h4
      have e1 := of_decide_eq_true h1
      have e2 := of_decide_eq_true h2
      subst e1 e2
      refine z_isi (x := "isinstance") hg (cx.blt "isinstance" (by decide)) hg2 (cx.blt t.nm (by cases t <;> decide)) ?_ ?_ ?_ (soundE a cx h5) (star_ok (okX_of h5) _ _)
      · cases t <;> decide +kernel
      · cases t <;> decide
      · cases t <;> decide
    · cases h
  | .isiT a t t', N, fl, sc, X, W, x, cx, h => by
    unfold chkE at h
    split at h
    · rename_i y p l z p2 z' p3 k p4 pos
      simp only [Bool.and_eq_true] at h
      obtain ⟨⟨⟨⟨⟨⟨h1, h2⟩, h2'⟩, h3⟩, h4⟩, h4'⟩, h5⟩ := h
      have hg : Gl X y := by unfold Gl Env.kindOf; rw [cx.scp]; exact of_decide_eq_true h3
      have hg2 : Gl X z := by unfold Gl Env.kindOf; rw [cx.scp]; exact of_decide_eq_true h4
      have hg3 : Gl X z' := by unfold Gl Env.kindOf; rw [cx.scp]; exact of_decide_eq_true h4'
      have e1 := of_decide_eq_true h1
      have e2 := of_decide_eq_true h2
      have e3 := of_decide_eq_true h2'
      subst e1 e2 e3
      refine z_isiT hg (cx.blt "isinstance" (by decide)) hg2 (cx.blt t.nm (by cases t <;> decide)) ?_ ?_ ?_ hg3 (cx.blt t'.nm (by cases t' <;> decide)) ?_ ?_ ?_ (soundE a cx h5) (star_ok (okX_of h5) _ _)
      · cases t <;> decide +kernel
      · cases t <;> decide
      · cases t <;> decide
      · cases t' <;> decide +kernel
      · cases t' <;> decide
      · cases t' <;> decide
    · cases h
  | .dicE, N, fl, sc, X, W, x, cx, h => by
    unfold chkE at h
    split at h
    · exact z_dicE
    · cases h
  | .app o es, N, fl, sc, X, W, x, cx, h => by
    unfold chkE at h
    split at h
    · rename_i l m ap y cp
      simp only [Bool.and_eq_true] at h
      obtain ⟨⟨⟨⟨h1, h2⟩, h3⟩, h4⟩, h5⟩ := h
      have e1 := of_decide_eq_true h1
      subst e1
      have hL := soundL es (X := X) (W := W) cx h5
      have hok : okX y = true := by
        cases es with
        | nil => unfold chkL at h5; cases h5
        | cons e0 es0 => unfold chkL at h5; rw [Bool.and_eq_true] at h5; exact okX_of h5.1
      have hst : starEach [y] X.env = (false, eval y X.env) :: starEach [] X.env := star_ok hok [] X.env
      exact PE.imp (pe_bm PySem.F.plainAttrs_list PySem.F.slot_list_append PySem.F.type_list_append mt_append (soundE o cx h4) hL (base_ok h2 _ _) (by rw [hst]; rfl) h3 hst rfl) fun s H Q hh => app_in hh
    · cases h
  | .ext o es, N, fl, sc, X, W, x, cx, h => by
    unfold chkE at h
    split at h
    · rename_i l m ap y cp
      simp only [Bool.and_eq_true] at h
      obtain ⟨⟨⟨⟨h1, h2⟩, h3⟩, h4⟩, h5⟩ := h
      have e1 := of_decide_eq_true h1
      subst e1
      have hL := soundL es (X := X) (W := W) cx h5
      have hok : okX y = true := by
        cases es with
        | nil => unfold chkL at h5; cases h5
        | cons e0 es0 => unfold chkL at h5; rw [Bool.and_eq_true] at h5; exact okX_of h5.1
      have hst : starEach [y] X.env = (false, eval y X.env) :: starEach [] X.env := star_ok hok [] X.env
      exact PE.imp (pe_bm PySem.F.plainAttrs_list PySem.F.slot_list_extend PySem.F.type_list_extend mt_extend (soundE o cx h4) hL (base_ok h2 _ _) (by rw [hst]; rfl) h3 hst rfl) fun s H Q hh => ext_in hh
    · cases h
  | .lc mt t it c e own, N, fl, sc, X, W, x, cx, h => by
    unfold chkE at h
    split at h
    · rename_i el tg iter ifs as scope pos
      simp only [Bool.and_eq_true, decide_eq_true_eq] at h
      obtain ⟨⟨⟨⟨⟨⟨h0, h1⟩, h2⟩, h3⟩, h4⟩, h5⟩, h6⟩ := h
      subst h0
      have ok : BlkOk N sc scope own := blkOk_by h1
      have ok' : BlkOk X.N X.env.scope scope own := by rw [cx.nm, cx.scp]; exact ok
      have hts : ∀ i ∈ tgSl t, i ∈ own.map (·.2) := fun i hi => by
        have := List.all_eq_true.mp h2 i hi
        exact List.contains_iff_mem.mp this
      have hI := soundI it (X := X) (W := W) (tg := tg) cx h3
      have hfo : okX iter = true := okI h3
      unfold dE
      cases mt with
      | true => exact z_lcM cx.calm (by rw [cx.nm]; exact cx.nd) hI ok' hts (fun s H A cl fp => soundG t (cx.blk s H scope ok.kind cl A fp) h4) (fun s H A cl fp => soundC c (cx.blk s H scope ok.kind cl A fp) h5) (fun s H A cl fp => soundE e (cx.blk s H scope ok.kind cl A fp) h6) (fold_ok hfo X.env)
      | false => exact z_lc cx.calm (by rw [cx.nm]; exact cx.nd) hI ok' hts (fun s H A cl fp => soundG t (cx.blk s H scope ok.kind cl A fp) h4) (fun s H A cl fp => soundC c (cx.blk s H scope ok.kind cl A fp) h5) (fun s H A cl fp => soundE e (cx.blk s H scope ok.kind cl A fp) h6) (fold_ok hfo X.env)
    · cases h
theorem soundL : ∀ (es : Es) {N : List Str} {fl : Bool} {sc : Scope} {X : Cx} {W : WX} {xs : List Expr}, Cxt C ca call k N fl sc X W → chkL C N fl sc es xs = true → PA X xs (rA X.K ca W (dL C.G call es))
  | .nil, N, fl, sc, X, W, xs, cx, h => by
    unfold chkL at h
    cases xs with
    | nil => exact z_anil
    | cons _ _ => cases h
  | .cons e es, N, fl, sc, X, W, xs, cx, h => by
    unfold chkL at h
    split at h
    · rw [Bool.and_eq_true] at h
      exact z_acons (soundE e cx h.1) (soundL es cx h.2) (star_ok (okX_of h.1) _ _)
    · cases h
theorem soundB (o : BoolOp) : ∀ (es : Es) {N : List Str} {fl : Bool} {sc : Scope} {X : Cx} {W : WX} {xs : List Expr} {pos : Pos}, Cxt C ca call k N fl sc X W → chkL C N fl sc es xs = true → PE X (.BoolOp o xs pos) (rE X.K ca W (dB C.G call o es))
  | .nil, N, fl, sc, X, W, xs, pos, cx, h => ⟨fun _ _ _ _ _ _ ⟨_, _, _, _, _, z⟩ => z.elim⟩
  | .cons e es, N, fl, sc, X, W, xs, pos, cx, h => by
    unfold chkL at h
    split at h
    · rename_i x rest
      rw [Bool.and_eq_true] at h
      cases es with
      | nil =>
        have h2 := h.2
        unfold chkL at h2
        cases rest with
        | nil => unfold dB; exact pe_one (soundE e cx h.1)
        | cons _ _ => cases h2
      | cons e2 es2 =>
        have ih := soundB o (.cons e2 es2) (X := X) (W := W) (pos := pos) cx h.2
        have h2 := h.2
        unfold chkL at h2
        split at h2
        · unfold dB
          cases o with
          | And => exact z_and (soundE e cx h.1) ih
          | Or => exact z_or (soundE e cx h.1) ih
        · cases h2
    · cases h
theorem soundO : ∀ (o : Oe) {N : List Str} {fl : Bool} {sc : Scope} {X : Cx} {W : WX} {x : Option Expr}, Cxt C ca call k N fl sc X W → chkO C N fl sc o x = true → PO X x (rP X.K ca W (dO C.G call o))
  | .none, N, fl, sc, X, W, x, cx, h => by
    unfold chkO at h
    cases x with
    | none => exact z_pno
    | some _ => cases h
  | .some e, N, fl, sc, X, W, x, cx, h => by
    unfold chkO at h
    split at h
    · exact z_psome (soundE e cx h)
    · cases h
theorem soundT : ∀ (t : Tt) {N : List Str} {fl : Bool} {sc : Scope} {X : Cx} {W : WX} {x : Expr}, Cxt C ca call k N fl sc X W → chkT C N fl sc t x = true → PT X x (rT X.K ca W (dT C.G call t))
  | .bo o ts, N, fl, sc, X, W, x, cx, h => by
    unfold chkT at h
    split at h
    · simp only [Bool.and_eq_true, decide_eq_true_eq] at h
      obtain ⟨h0, h1⟩ := h
      subst h0
      exact (soundTB o ts cx h1).pt
    · cases h
  | .not a, N, fl, sc, X, W, x, cx, h => by
    unfold chkT at h
    split at h
    · exact z_tnot (soundT a cx h)
    · cases h
  | .cmp o a b, N, fl, sc, X, W, x, cx, h => by
    unfold chkT at h
    split at h
    · simp only [Bool.and_eq_true, decide_eq_true_eq] at h
      obtain ⟨⟨h0, h2⟩, h3⟩ := h
      subst h0
      obtain ⟨R, r1, r2⟩ := cmp_rule (X := X) (ca := ca) cx.room.units o
      exact z_tcmp r1 r2 (soundE a cx h2) (soundE b cx h3) (mark_ok (okX_of h3) o)
    · cases h
  | .ch o o' a b c, N, fl, sc, X, W, x, cx, h => by
    unfold chkT at h
    split at h
    · simp only [Bool.and_eq_true, decide_eq_true_eq] at h
      obtain ⟨⟨⟨⟨h0, h1⟩, h2⟩, h3⟩, h4⟩ := h
      subst h0 h1
      obtain ⟨R, r1, r2⟩ := cmp_rule (X := X) (ca := ca) cx.room.units o
      obtain ⟨R', r1', r2'⟩ := cmp_rule (X := X) (ca := ca) cx.room.units o'
      exact z_tchain r1 r1' r2 r2' (soundE a cx h2) (soundE b cx h3) (soundE c cx h4) (last_ok (okX_of h4) o o')
    · cases h
  | .tru e, N, fl, sc, X, W, x, cx, h => by
    unfold chkT at h
    rw [Bool.and_eq_true] at h
    exact z_ttru (soundE e cx h.2) (tru_ok h.1 X.env)
theorem soundTB (o : BoolOp) : ∀ (ts : Tts) {N : List Str} {fl : Bool} {sc : Scope} {X : Cx} {W : WX} {xs : List Expr} {pos : Pos}, Cxt C ca call k N fl sc X W → chkTs C N fl sc ts xs = true → PW X (.BoolOp o xs pos) (rT X.K ca W (dTB C.G call o ts))
  | .nil, N, fl, sc, X, W, xs, pos, cx, h => ⟨fun _ _ _ _ _ _ _ ⟨_, _, _, _, _, z⟩ => z.elim⟩
  | .cons t ts, N, fl, sc, X, W, xs, pos, cx, h => by
    unfold chkTs at h
    split at h
    · rename_i x rest
      rw [Bool.and_eq_true] at h
      cases ts with
      | nil =>
        have h2 := h.2
        unfold chkTs at h2
        cases rest with
        | nil =>
          unfold dTB
          cases o with
          | And => exact pw_and1 (soundT t cx h.1)
          | Or => exact pw_or1 (soundT t cx h.1)
        | cons _ _ => cases h2
      | cons t2 ts2 =>
        have ih := soundTB o (.cons t2 ts2) (X := X) (W := W) (pos := pos) cx h.2
        have h2 := h.2
        unfold chkTs at h2
        split at h2
        · unfold dTB
          cases o with
          | And => exact z_wand (soundT t cx h.1) ih
          | Or => exact z_wor (soundT t cx h.1) ih
        · cases h2
    · cases h
theorem soundC : ∀ (c : Ot) {N : List Str} {fl : Bool} {sc : Scope} {X : Cx} {W : WX} {xs : List Expr}, Cxt C ca call k N fl sc X W → chkC C N fl sc c xs = true → PTs X xs (rT X.K ca W (dC C.G call c))
  | .none, N, fl, sc, X, W, xs, cx, h => by
    unfold chkC at h
    cases xs with
    | nil => exact ⟨fun pins s σ H Q I ⟨sd, r, S, hs, m, z⟩ => pts_nil.run pins s σ H Q I (z.ok m rfl)⟩
    | cons _ _ => cases h
  | .some t, N, fl, sc, X, W, xs, cx, h => by
    unfold chkC at h
    split at h
    · exact pts_one (soundT t cx h)
    · cases h
theorem soundG : ∀ (t : Tg) {N : List Str} {fl : Bool} {sc : Scope} {X : Cx} {W : WX} {x : Expr}, Cxt C ca call k N fl sc X W → chkG C N fl sc t x = true → PG X x (rG X.K ca (tgSl t) (dG C.G call t))
  | .nm i, N, fl, sc, X, W, x, cx, h => by
    unfold chkG at h
    split at h
    · simp only [Bool.and_eq_true, decide_eq_true_eq] at h
      obtain ⟨l, f⟩ := sto_of h.2
      refine z_gname (pg_name (by rw [cx.nm]; exact cx.nd) (by rw [cx.nm]; exact h.1) (by rw [cx.scp]; exact l) ?_)
      rcases f with f | f
      · exact .inl (cx.fn f _)
      · exact .inr (by rw [cx.scp]; exact f)
    · cases h
  | .tup ts, N, fl, sc, X, W, x, cx, h => by
    unfold chkG at h
    split at h
    · exact z_gtup cx.calm (soundGs ts cx h) (asgE_ok h X.env).1 (asgE_ok h X.env).2
    · cases h
  | .sub o i, N, fl, sc, X, W, x, cx, h => by
    unfold chkG at h
    split at h
    · rw [Bool.and_eq_true] at h
      exact z_gsub (soundE o cx h.1) (soundE i cx h.2) (asub_ok (okX_of h.2) _ _)
    · cases h
theorem soundGs : ∀ (ts : Tgs) {N : List Str} {fl : Bool} {sc : Scope} {X : Cx} {W : WX} {xs : List Expr}, Cxt C ca call k N fl sc X W → chkGs C N fl sc ts xs = true → PGs X xs (rGs X.K ca (tgsSl ts) (dGs C.G call ts))
  | .nil, N, fl, sc, X, W, xs, cx, h => by
    unfold chkGs at h
    cases xs with
    | nil => exact z_gsnil
    | cons _ _ => cases h
  | .cons t ts, N, fl, sc, X, W, xs, cx, h => by
    unfold chkGs at h
    split at h
    · rw [Bool.and_eq_true] at h
      exact z_gscons (soundG t cx h.1) (soundGs ts cx h.2) (by rw [asg1_ok h.1]; rfl)
    · cases h
theorem soundI : ∀ (it : It) {N : List Str} {fl : Bool} {sc : Scope} {X : Cx} {W : WX} {tg x : Expr}, Cxt C ca call k N fl sc X W → chkI C N fl sc it x = true → PI X tg x (rI X.K ca W (dI C.G call it))
  | .seq e, N, fl, sc, X, W, tg, x, cx, h => by
    unfold chkI at h
    exact z_seq (soundE e cx h)
  | .rng1 a, N, fl, sc, X, W, tg, x, cx, h => by
    unfold chkI at h
    split at h
    · rename_i y p l pos
      simp only [Bool.and_eq_true] at h
      obtain ⟨⟨h1, h2⟩, h4⟩ := h
      have e1 := of_decide_eq_true h1
      subst e1
      have hL := soundL a (X := X) (W := W) cx h4
      have hok : okX l = true := by
        cases a with
        | nil => unfold chkL at h4; cases h4
        | cons e0 es0 => unfold chkL at h4; rw [Bool.and_eq_true] at h4; exact okX_of h4.1
      exact z_rng1 (by unfold Gl Env.kindOf; rw [cx.scp]; exact of_decide_eq_true h2) (cx.blt "range" (by decide)) hL (star_ok hok [] X.env)
    · cases h
  | .rng2 a, N, fl, sc, X, W, tg, x, cx, h => by
    unfold chkI at h
    split at h
    · rename_i y p l r0 pos
      simp only [Bool.and_eq_true] at h
      obtain ⟨⟨h1, h2⟩, h4⟩ := h
      have e1 := of_decide_eq_true h1
      subst e1
      have hL := soundL a (X := X) (W := W) cx h4
      have hok : okX l = true ∧ okX r0 = true := by
        cases a with
        | nil => unfold chkL at h4; cases h4
        | cons e0 es0 =>
          unfold chkL at h4; rw [Bool.and_eq_true] at h4
          refine ⟨okX_of h4.1, ?_⟩
          have h5 := h4.2
          cases es0 with
          | nil => unfold chkL at h5; cases h5
          | cons e1 es1 => unfold chkL at h5; rw [Bool.and_eq_true] at h5; exact okX_of h5.1
      exact z_rng2 (by unfold Gl Env.kindOf; rw [cx.scp]; exact of_decide_eq_true h2) (cx.blt "range" (by decide)) hL (by rw [star_ok hok.1, star_ok hok.2]; rfl) (star_ok hok.2 [] X.env)
    · cases h
end
end
end Z

/-! Z layer, part L: statements that are read, their meaning, and that the text keeps it. -/
namespace Z
open PySem PySem.Spec PyProof.Rows L2

mutual
inductive S1 where
  | ex (e : E) | doc | pass | brk | cnt | ret (e : E) | retN
  | asg (t : Tg) (e : E) | aug (i : Nat) (o : Operator) (e : E) | par (is : List Nat) (es : Es)
  | ite (c : Tt) (a b : Ss) | for_ (t : Tg) (it : It) (b : Ss) | whl (c : Tt) (b : Ss)
inductive Ss where
  | nil | cons (s : S1) (ss : Ss)
end
def iaddP (_ : Sto) (x y : D) : Option D := match x, y with
  | .int i, .int j => some (.int (i + j))
  | .str a, .str b => if a.length + b.length ≤ 16777216 then some (.str (a ++ b)) else none
  | _, _ => none
def imulI (i j : Int) : Option Int := if (-18446744073709551616 < i ∧ i < 18446744073709551616) ∨ (-18446744073709551616 < j ∧ j < 18446744073709551616) then some (i * j) else none
def iopF : Operator → Sto → D → D → Option D
  | .Add => iaddP
  | .Sub => intP subI
  | .Mult => intP imulI
  | _ => fun _ _ _ => none
section
variable (G : List D) (C : Nat → List D → Sto → Out D) (wf : Nat)
mutual
def dS : S1 → MS
  | .ex e => mExpr (dE G C e)
  | .doc => mSkip
  | .pass => mSkip
  | .brk => mBrk
  | .cnt => mCnt
  | .ret e => mRet (dE G C e)
  | .retN => mRetN
  | .asg t e => mAsg (dE G C e) (dG G C t)
  | .aug i o e => mAug i (iopF o) (dE G C e)
  | .par is es => mPar is (dL G C es)
  | .ite c a b => mIte (dT G C c) (dSs a) (dSs b)
  | .for_ t it b => mFor (dI G C it) (dG G C t) (dSs b)
  | .whl c b => whGo (dT G C c) (dSs b) wf
def dSs : Ss → MS
  | .nil => mSkip
  | .cons s ss => mThen (dS s) (dSs ss)
end
end

/-! ### the check -/
def swP (ts vs : List Expr) (sc : Scope) : Option (Option (List Str)) :=
  if (!(ts.length == 2 || ts.length == 3) || vs.length != ts.length) = true then some none
  else if (vs.any fun | .Starred .. => true | _ => false) = true then some none
  else
    let line := (ts.head?.map (·.pos.line)).getD 0
    let names := ts.filterMap fun
      | .Name id pos => if (sc.names.lookup id == some .local && pos.line == line) = true then some id else none
      | _ => none
    if (names.length != ts.length || names.eraseDups.length != names.length) = true then some none
    else if vs.all (foldedForSure 8) = true then some none
    else if vs.all (constantsAlone 8) = true then none
    else some (some names)
def swOk (sc : Scope) : Expr → Expr → Bool
  | .Tuple ts _ _, .Tuple vs _ _ => decide (swP ts vs sc = some none)
  | .List .., _ => false
  | _, _ => true
def noLc : Expr → Bool
  | .ListComp .. => false | .SetComp .. => false | .DictComp .. => false | _ => true
def okAug : Operator → Bool
  | .Add => true | .Sub => true | .Mult => true | _ => false
section
variable (C : Tab) (N : List Str)
mutual
def chkS (fl : Bool) (sc : Scope) : S1 → Stmt → Bool
  | .ex e, s => match s with
    | .Expr x _ => noLc x && chkE C N fl sc e x
    | _ => false
  | .doc, s => match s with
    | .Expr (.Constant (.str _) _ _) _ => true
    | _ => false
  | .pass, s => match s with
    | .Pass _ => true
    | _ => false
  | .brk, s => match s with
    | .Break _ => true
    | _ => false
  | .cnt, s => match s with
    | .Continue _ => true
    | _ => false
  | .ret e, s => match s with
    | .Return (some x) _ => chkE C N fl sc e x
    | _ => false
  | .retN, s => match s with
    | .Return none _ => true
    | _ => false
  | .asg t e, s => match s with
    | .Assign [tg] x _ => chkG C N fl sc t tg && chkE C N fl sc e x && swOk sc tg x
    | _ => false
  | .aug i o e, s => match s with
    | .AugAssign (.Name y _) o' x _ => decide (o = o') && okAug o && decide (N[i]? = some y) && stoN fl sc y && chkE C N fl sc e x
    | _ => false
  | .par is es, s => match s with
    | .Assign [.Tuple ts _ _] (.Tuple vs _ _) _ => (match is, ts, vs with
      | [i, j], [.Name x _, .Name y _], [_, _] => decide (i ≠ j) && decide (N[i]? = some x) && decide (N[j]? = some y) && decide (sc.names.lookup x = some .local) && decide (sc.names.lookup y = some .local) && decide (swP ts vs sc = some (some [x, y]))
      | [i, j, l], [.Name x _, .Name y _, .Name z _], [_, _, _] => decide (i ≠ j) && decide (i ≠ l) && decide (j ≠ l) && decide (N[i]? = some x) && decide (N[j]? = some y) && decide (N[l]? = some z) && decide (sc.names.lookup x = some .local) && decide (sc.names.lookup y = some .local) && decide (sc.names.lookup z = some .local) && decide (swP ts vs sc = some (some [x, y, z]))
      | _, _, _ => false) && chkL C N fl sc es vs
    | _ => false
  | .ite c a b, s => match s with
    | .If x y z _ => chkT C N fl sc c x && chkSs fl sc a y && chkSs fl sc b z
    | _ => false
  | .for_ t it b, s => match s with
    | .For tg iter body [] _ => chkG C N fl sc t tg && chkI C N fl sc it iter && chkSs fl sc b body
    | _ => false
  | .whl c b, s => match s with
    | .While x body [] _ => chkT C N fl sc c x && chkSs fl sc b body
    | _ => false
def chkSs (fl : Bool) (sc : Scope) : Ss → List Stmt → Bool
  | .nil, xs => xs.isEmpty
  | .cons s ss, xs => match xs with
    | x :: rest => chkS fl sc s x && chkSs fl sc ss rest
    | [] => false
end
end

theorem swP_ok {env : Env} {ts vs : List Expr} {k k2 : Nat} {p p2 : Pos} {o : Option (List Str)} (hk : env.scope.kind = .function) (h : swP ts vs env.scope = some o) : swappedStores [.Tuple ts k p] (.Tuple vs k2 p2) env = pure o := by
  have hb : env.blockKind = .function := by unfold Env.blockKind; rw [hk]; rfl
  have e0 : (env.blockKind != .function) = false := by rw [hb]; rfl
  unfold swP at h
  unfold swappedStores
  simp only [e0, Bool.or_false]
  have kf : ∀ id, env.kindOf id = env.scope.names.lookup id := fun _ => rfl
  simp only [kf]
  split at h
  · rename_i c; cases h; exact if_pos c
  · rename_i c
    refine (if_neg c).trans ?_
    split at h
    · rename_i c2; cases h; exact if_pos c2
    · rename_i c2
      refine (if_neg c2).trans ?_
      simp only at h
      split at h
      · rename_i c3; cases h; exact if_pos c3
      · rename_i c3
        refine (if_neg c3).trans ?_
        split at h
        · rename_i c4; cases h; exact if_pos c4
        · rename_i c4
          refine (if_neg c4).trans ?_
          split at h
          · cases h
          · rename_i c5
            cases h
            exact if_neg c5
theorem sw_none {env : Env} {tg x : Expr} (hk : env.scope.kind = .function) (h : swOk env.scope tg x = true) : swappedStores [tg] x env = pure none := by
  cases tg <;> first
    | rfl
    | (cases h; done)
    | (cases x <;> first | rfl | exact swP_ok hk (of_decide_eq_true h))
theorem swaps_no {x : Expr} (h : noLc x = true) (t : Option Expr) (l : Nat) (env : Env) : swapsWith x t l env = pure false := by
  cases x <;> first | rfl | (cases h; done)
theorem swaps_lc {elt : Expr} {gs : List Comprehension} {scope : Scope} {pos py : Pos} {y : Str} {l : Nat} {env : Env} (hk : env.scope.kind = .function) :
    swapsWith (.ListComp elt gs scope pos) (some (.Name y py)) l env = pure (decide (env.scope.names.lookup y = some .local) && (py.line == pos.line) && !(scope.names.any fun (n, k) => n == y && (k == .local || k == .cell))) := by
  have hb : env.blockKind = .function := by unfold Env.blockKind; rw [hk]; rfl
  have kf : env.kindOf y = env.scope.names.lookup y := rfl
  unfold swapsWith
  simp only [hb, kf]
  have e : (env.scope.names.lookup y == some NameKind.local) = decide (env.scope.names.lookup y = some .local) := by
    rw [Bool.eq_iff_iff]; simp
  rw [← e]
  rfl

section
variable {C : Tab} {ca : Nat → Addr} {call : Nat → List D → Sto → Out D} {k wf : Nat}
theorem oz_iadd {K : PySem.W.Frag} : OpZ K ca (rOr rAddI rStrCat) iaddP := by
  intro H r S x y vx vy d Q m hx hy e q
  unfold iaddP at e
  split at e
  · cases hx; cases hy; cases e; exact .inl ⟨_, _, rfl, rfl, q _ _ (Ext.refl ..) m (.int _)⟩
  · cases hx; cases hy
    split at e
    · cases e; exact .inr ⟨_, _, rfl, rfl, by rw [sizeLine_eq]; assumption, q _ _ (Ext.refl ..) m (.str _)⟩
    · cases e
  · cases e
theorem oz_imul {K : PySem.W.Frag} : OpZ K ca (L2.rI CMul fun i j => .int (i * j)) (intP imulI) := oz_int fun i j k e => by
  unfold imulI at e; split at e
  · rename_i h; exact ⟨by unfold CMul; simpa using h, Option.some.inj e⟩
  · cases e
theorem iop_rule {X : Cx} (o : Operator) (h : okAug o = true) : ∃ R, OpR X (inplaceOp o) R ∧ OpZ X.K ca R (iopF o) := by
  cases o with
  | Add => exact ⟨_, iop_add.or iop_add_str, oz_iadd⟩
  | Sub => exact ⟨rSubI, fun pins s σ H x y v u Q I rx ry ⟨i, j, e1, e2, _, q⟩ => iop_sub pins s σ H x y v u Q I rx ry ⟨i, j, e1, e2, q⟩, oz_sub⟩
  | Mult => exact ⟨_, iop_mul, oz_imul⟩
  | _ => cases h
theorem sound_asg {N : List Str} {fl : Bool} {sc : Scope} {X : Cx} {W : WX} {tg x : Expr} {pos : Pos} {t : Tg} {e : E} (cx : Cxt C ca call k N fl sc X W) (h1 : chkG C N fl sc t tg = true) (h2 : chkE C N fl sc e x = true) (h3 : swOk sc tg x = true) :
    PS X (.Assign [tg] x pos) (rS X.K ca W (mAsg (dE C.G call e) (dG C.G call t))) := by
  have hk : X.env.scope.kind = .function := by rw [cx.scp]; exact cx.kind
  have hw : swappedStores [tg] x X.env = pure none := sw_none hk (by rw [cx.scp]; exact h3)
  have ha : (assignEach [tg] X.env).map (·.2) = [assign tg X.env] := by rw [asg1_ok h1]; rfl
  have hE := soundE e (X := X) (W := W) cx h2
  have hG := soundG t (X := X) (W := W) cx h1
  by_cases hn : noLc x = true
  · exact s_asg hE hG (swaps_no hn _ _ _) hw ha
  · -- a comprehension
    cases e with
    | lc mt t2 it c el own =>
      have h2' := h2
      unfold chkE at h2'
      split at h2'
      · rename_i el2 tg2 iter ifs as scope pos2
        simp only [Bool.and_eq_true, decide_eq_true_eq] at h2'
        obtain ⟨⟨⟨⟨⟨⟨g0, g1⟩, g2⟩, g3⟩, g4⟩, g5⟩, g6⟩ := h2'
        subst g0
        cases t with
        | nm i =>
          have h1' := h1
          unfold chkG at h1'
          split at h1'
          · rename_i y py
            simp only [Bool.and_eq_true, decide_eq_true_eq] at h1'
            have hs := swaps_lc (elt := el2) (gs := [⟨tg2, iter, ifs, 0⟩]) (scope := scope) (pos := pos2) (py := py) (y := y) (l := pos.line) (env := X.env) hk
            generalize hb : (decide (X.env.scope.names.lookup y = some .local) && (py.line == pos2.line) && !(scope.names.any fun (n, k) => n == y && (k == .local || k == .cell))) = b at hs
            cases b with
            | false => exact s_asg hE hG hs hw ha
            | true =>
              have hl : X.env.scope.names.lookup y = some .local := by
                simp only [Bool.and_eq_true, decide_eq_true_eq] at hb
                exact hb.1.1
              have ok : BlkOk N sc scope own := blkOk_by g1
              have ok' : BlkOk X.N X.env.scope scope own := by rw [cx.nm, cx.scp]; exact ok
              have hts : ∀ i ∈ tgSl t2, i ∈ own.map (·.2) := fun i hi => List.contains_iff_mem.mp (List.all_eq_true.mp g2 i hi)
              rw [show dE C.G call (.lc mt t2 it c el own) = (if mt = true then mLcM (dI C.G call it) (dG C.G call t2) (own.map (·.2)) (dC C.G call c) (dE C.G call el) else mLc (dI C.G call it) (dG C.G call t2) (own.map (·.2)) (dC C.G call c) (dE C.G call el)) from by rw [dE], show dG C.G call (.nm i) = gNm i from by rw [dG]]
              exact s_setLc mt cx.calm (by rw [cx.nm]; exact cx.nd) (by rw [cx.nm]; exact h1'.1) hl hs (soundI it cx g3) ok' hts (fun s H A cl fp => soundG t2 (cx.blk s H scope ok.kind cl A fp) g4) (fun s H A cl fp => soundC c (cx.blk s H scope ok.kind cl A fp) g5) (fun s H A cl fp => soundE el (cx.blk s H scope ok.kind cl A fp) g6) (fold_ok (okI g3) X.env)
          · cases h1'
        | tup ts =>
          have h1' := h1
          unfold chkG at h1'
          split at h1'
          · exact s_asg hE hG rfl hw ha
          · cases h1'
        | sub o i =>
          have h1' := h1
          unfold chkG at h1'
          split at h1'
          · exact s_asg hE hG rfl hw ha
          · cases h1'
      · cases h2'
    | _ => exact absurd (by unfold chkE at h2; split at h2 <;> first | rfl | (cases h2; done)) hn

mutual
theorem soundS : ∀ (s : S1) {N : List Str} {fl : Bool} {sc : Scope} {X : Cx} {W : WX} {x : Stmt}, Cxt C ca call k N fl sc X W → chkS C N fl sc s x = true → PS X x (rS X.K ca W (dS C.G call wf s))
  | .ex e, N, fl, sc, X, W, x, cx, h => by
    unfold chkS at h
    split at h
    · rw [Bool.and_eq_true] at h
      exact s_expr (soundE e cx h.2) (swaps_no h.1 _ _ _)
    · cases h
  | .doc, N, fl, sc, X, W, x, cx, h => by
    unfold chkS at h
    split at h
    · exact s_doc
    · cases h
  | .pass, N, fl, sc, X, W, x, cx, h => by
    unfold chkS at h
    split at h
    · exact s_pass
    · cases h
  | .brk, N, fl, sc, X, W, x, cx, h => by
    unfold chkS at h
    split at h
    · exact s_brk
    · cases h
  | .cnt, N, fl, sc, X, W, x, cx, h => by
    unfold chkS at h
    split at h
    · exact s_cnt
    · cases h
  | .ret e, N, fl, sc, X, W, x, cx, h => by
    unfold chkS at h
    split at h
    · exact s_ret (soundE e cx h)
    · cases h
  | .retN, N, fl, sc, X, W, x, cx, h => by
    unfold chkS at h
    split at h
    · exact s_retN
    · cases h
  | .asg t e, N, fl, sc, X, W, x, cx, h => by
    unfold chkS at h
    split at h
    · simp only [Bool.and_eq_true] at h
      exact sound_asg cx h.1.1 h.1.2 h.2
    · cases h
  | .aug i o e, N, fl, sc, X, W, x, cx, h => by
    unfold chkS at h
    split at h
    · simp only [Bool.and_eq_true, decide_eq_true_eq] at h
      obtain ⟨⟨⟨⟨h0, h1⟩, h2⟩, h3⟩, h4⟩ := h
      subst h0
      obtain ⟨R, r1, r2⟩ := iop_rule (X := X) (ca := ca) o h1
      obtain ⟨l, f⟩ := sto_of h3
      refine s_aug (by rw [cx.nm]; exact cx.nd) (by rw [cx.nm]; exact h2) (by rw [cx.scp]; exact l) (soundE e cx h4) r1 r2 ?_
      rcases f with f | f
      · exact .inl (cx.fn f _)
      · exact .inr (by rw [cx.scp]; exact f)
    · cases h
  | .par is es, N, fl, sc, X, W, x, cx, h => by
    have hk : X.env.scope.kind = .function := by rw [cx.scp]; exact cx.kind
    have hnd : X.N.Nodup := by rw [cx.nm]; exact cx.nd
    unfold chkS at h
    split at h
    · rename_i ts _ _ vs _ _ pos
      rw [Bool.and_eq_true] at h
      obtain ⟨h, hl⟩ := h
      have hL := soundL es (X := X) (W := W) cx hl
      split at h
      · simp only [Bool.and_eq_true, decide_eq_true_eq] at h
        obtain ⟨⟨⟨⟨⟨h0, h1⟩, h2⟩, h3⟩, h4⟩, h5⟩ := h
        exact PS.imp (ps_par cx.calm hnd (by rw [cx.nm]; exact h1) (by rw [cx.nm]; exact h2) h0 (by rw [cx.scp]; exact h3) (by rw [cx.scp]; exact h4) hL (swP_ok hk (by rw [cx.scp]; exact h5)) rfl) fun D s H hh => par_in hh
      · simp only [Bool.and_eq_true, decide_eq_true_eq] at h
        obtain ⟨⟨⟨⟨⟨⟨⟨⟨⟨h0, h01⟩, h02⟩, h1⟩, h2⟩, h21⟩, h3⟩, h4⟩, h41⟩, h5⟩ := h
        exact PS.imp (ps_par3 cx.calm hnd (by rw [cx.nm]; exact h1) (by rw [cx.nm]; exact h2) (by rw [cx.nm]; exact h21) h0 h01 h02 (by rw [cx.scp]; exact h3) (by rw [cx.scp]; exact h4) (by rw [cx.scp]; exact h41) hL (swP_ok hk (by rw [cx.scp]; exact h5)) rfl) fun D s H hh => par3_in hh
      · cases h
    · cases h
  | .ite c a b, N, fl, sc, X, W, x, cx, h => by
    unfold chkS at h
    split at h
    · simp only [Bool.and_eq_true] at h
      exact s_ite (soundT c cx h.1.1) (soundSs a cx h.1.2) (soundSs b cx h.2)
    · cases h
  | .for_ t it b, N, fl, sc, X, W, x, cx, h => by
    unfold chkS at h
    split at h
    · simp only [Bool.and_eq_true] at h
      exact s_for cx.po cx.calm (soundI it cx h.1.2) (soundG t cx h.1.1) (soundSs b cx h.2) (fold_ok (okI h.1.2) X.env)
    · cases h
  | .whl c b, N, fl, sc, X, W, x, cx, h => by
    unfold chkS at h
    split at h
    · simp only [Bool.and_eq_true] at h
      exact s_whl cx.po (soundT c cx h.1) (soundSs b cx h.2)
    · cases h
theorem soundSs : ∀ (ss : Ss) {N : List Str} {fl : Bool} {sc : Scope} {X : Cx} {W : WX} {xs : List Stmt}, Cxt C ca call k N fl sc X W → chkSs C N fl sc ss xs = true → PSs X xs (rS X.K ca W (dSs C.G call wf ss))
  | .nil, N, fl, sc, X, W, xs, cx, h => by
    unfold chkSs at h
    cases xs with
    | nil => exact s_nil
    | cons _ _ => cases h
  | .cons s ss, N, fl, sc, X, W, xs, cx, h => by
    unfold chkSs at h
    split at h
    · rw [Bool.and_eq_true] at h
      exact s_cons (soundS s cx h.1) (soundSs ss cx h.2)
    · cases h
end
end
end Z

/-! Z layer, part M: defs by their bodies; the law's end. -/
namespace Z
open PySem PySem.Spec PyProof.Rows L2

structure Fn where
  np : Nat
  ns : Nat
  body : Ss
def fnEnd (o : OutS) : Out D := match o with
  | .ok .nx _ S => .ok .non S
  | .ok (.rt d) _ S => .ok d S
  | .exc c fs _ S => .exc c fs S
  | _ => .bad
def slots0 (ns : Nat) (args : List D) : Sl := args.map some ++ List.replicate (ns - args.length) none
/-- a call of the f-th def; k: how deep calls may go; wf: how many turns a while may take -/
def run (T : List Fn) (G : List D) (wf : Nat) : Nat → Nat → List D → Sto → Out D
  | 0, _, _, _ => .bad
  | k + 1, f, args, S => match T[f]? with
    | some fn => if args.length = fn.np then fnEnd (dSs G (run T G wf k) wf fn.body (slots0 fn.ns args) S) else .bad
    | none => .bad

/-- the body of a def, with what is known of its scope -/
structure FnText (C : Tab) (fn : Fn) (N ps : List Str) (sc : Scope) (body : List Stmt) : Prop where
  scope : FnScope N ps sc
  np : ps.length = fn.np
  ns : N.length = fn.ns
  chk : chkSs C N true sc fn.body body = true

section
variable {P : Program} {w : World} {K : PySem.W.Frag} {mg : Str → Option Value} {base : Heap} {C : Tab} {ca : Nat → Addr} {T : List Fn} {wf : Nat}
theorem slots_start {H : Hp} {r : Rg} {ds : List D} {vs : List V} {N : List Str} {ns : Nat} (h : Reps K H r ds vs) (hn : N.length = ns) (hl : ds.length ≤ ns) : Slots K H r (slots0 ns ds) (start N vs) := by
  have e := h.length
  refine ⟨by unfold slots0 L2.start; simp; omega, fun i d hd => ?_⟩
  unfold slots0 at hd
  unfold L2.start
  by_cases hi : i < ds.length
  · rw [List.getElem?_append_left (by simpa using hi), List.getElem?_map] at hd
    cases q : ds[i]? with
    | none => rw [q] at hd; cases hd
    | some d' =>
      rw [q] at hd
      cases hd
      obtain ⟨v, h1, h2⟩ := h.get q
      exact ⟨v, by rw [List.getElem?_append_left (by simpa [← e] using hi), List.getElem?_map, h1]; rfl, h2⟩
  · rw [List.getElem?_append_right (by simpa using hi), List.getElem?_replicate] at hd
    split at hd <;> cases hd
theorem fnEnd_ln {H : Hp} {r : Rg} {o : OutS} {Q : VK} {E : XK} (h : Ln K ca (rV K) H r (fnEnd o) Q E) : LnS K ca H r o { nx := fun _ H' => Q .non H', rt := Q } (fun c d _ H' => E c d H') := by
  cases o with
  | bad => exact h
  | exc c fs sd S => exact fun cls d s H' r' x m _ q => h cls d H' r' x m q
  | ok f sd S => cases f with
    | nx => exact fun s H' r' x m _ => h .non H' r' x m .non
    | rt d => exact fun v H' r' x m q => h v H' r' x m q
    | bk => exact h.elim
    | ct => exact h.elim
/-- facts of the module that every body may use -/
structure ModOk (K : PySem.W.Frag) (mg : Str → Option Value) (C : Tab) : Prop where
  blt : ∀ x ∈ bltN, mg (Str.ofString x) = none
  gl : ∀ (j : Nat) (x : Str) (d : D), C.gl[j]? = some (x, d) → ∃ u v, mg x = some u ∧ RelV v u ∧ ∀ H r, Rep K H r d v
/-- a def of the text, as it stands behind the top -/
structure DefOk (K : PySem.W.Frag) (mg : Str → Option Value) (C : Tab) (fn : Fn) (x : Str) (f : Addr) (fd : FuncData) (ps : List Str) : Prop where
  at_ : mg x = some (.ref f)
  bn : Binds K fd ps []
  ex : ∃ (N : List Str) (qual : Str) (params : Arguments) (body : List Stmt) (scope : Scope), FnText C fn N ps scope body ∧ FunD K x qual params body scope [] [] f fd
theorem fn_ok {fn : Fn} {x : Str} {f : Addr} {fd : FuncData} {ps : List Str} {k i : Nat} (M : ModOk K mg C) (Dk : DefOk K mg C fn x f fd ps) (hi : T[i]? = some fn)
    (fns : ∀ (f : Nat) (x : Str) (n : Nat), C.fns[f]? = some (x, n) → ∃ (a : Addr) (fd : FuncData) (ps : List Str), ps.length = n ∧ mg x = some (.ref a) ∧ PySem.W.keepIn K (.ref a) = true ∧ Binds K fd ps [] ∧ FnZ P w K mg base k a fd ps (spOf K ca n (run T C.G wf k f))) :
    FnZ P w K mg base (k + 1) f fd ps (spOf K ca fn.np (run T C.G wf (k + 1) i)) := by
  obtain ⟨N, qual, params, body, scope, tx, F⟩ := Dk.ex
  obtain ⟨oc, od, dV, kV, doc, pm, an, cdv, ct, osl, rfl, lk, hcd, _, _⟩ := F.ex
  have SC := tx.scope
  refine ⟨fun vs H Q E h => by rw [h.1, tx.np], fun A outer s H args us vs Q E room gd e0 bt rv hsp => ?_⟩
  obtain ⟨hl, ds, r, S, hr, m, hq⟩ := hsp
  have KX : K.In s.heap := e0.mod.kin.keeps fun b o e => (e0.bs b o e).1
  have lim : s.heap.NoLimit := e0.mod.nolimit.keeps fun b o e => (e0.bs b o e).1
  have hlen : vs.length = ps.length := by rw [hl, tx.np]
  have kinds : ∀ y ∈ ps.zip us, scope.names.lookup y.1 = some .local ∨ (scope.names.lookup y.1 = some .cell ∧ ((cellsFrom (s.heap.objs.size + 1) scope.names []).lookup y.1).isSome = true) := by
    rintro ⟨n, v⟩ hy
    cases SC.par n (List.of_mem_zip hy).1 with
    | inl q => exact .inl q
    | inr q => exact .inr ⟨q, PySem.W.cellsFrom_some _ _ _ (.inl q)⟩
  refine codeAny_call_function room.depth (KX _ _ lk) rfl SC.co SC.gen rfl (PySem.W.codeRec_of KX hcd) (bt _ _ _ _ ?_)
  refine wpAny_newFunctionEnv_cells SC.kind kinds fun env he s1 inc => ?_
  subst he
  refine ⟨lim.keeps inc.toInCall.keep, codeAny_func ?_⟩
  have I : Inv (cxOf (L2.CX P w) P w K mg base N qual scope f cdv A outer s H E) [] (start N vs) H s1 := inv_start SC room.hd e0 hlen rv inc
  have cx : Cxt C ca (run T C.G wf k) k N true scope (cxOf (L2.CX P w) P w K mg base N qual scope f cdv A outer s H E) (fun c d _ H' => E c d H') :=
    ⟨rfl, SC.kind, rfl, rfl, SC.nd, fun _ _ => rfl, room.deeper _, gd, takes_of rfl rfl rfl rfl, passes_of rfl, M.blt, M.gl, fns⟩
  have B := soundSs (wf := wf) fn.body cx tx.chk
  have hds : ds.length = fn.np := by rw [hr.length]; exact hl
  have hsub : ps.length ≤ N.length := by
    have := congrArg List.length SC.pre
    rw [List.length_take] at this; omega
  simp only [run, hi, hds, ↓reduceIte] at hq
  have rd : rS K ca (fun c d _ H' => E c d H') (dSs C.G (run T C.G wf k) wf fn.body) { nx := fun _ H' => Q .non H', rt := Q } (start N vs) H :=
    ⟨slots0 fn.ns ds, r, S, slots_start hr tx.ns (by rw [hds, ← tx.np, ← tx.ns]; exact hsub), m, fnEnd_ln hq⟩
  refine wpAny_mono (B.run [] s1 (start N vs) H _ I rd) (fun fl s' hs => ?_) fun e s' hs => hs
  have ret : ∀ {σ' : L2.St} {H' : Hp} {v : V} {u : Value}, Inv (cxOf (L2.CX P w) P w K mg base N qual scope f cdv A outer s H E) [] σ' H' s' → RelV v u → Q v H' → CE outer P w H s Q u s' :=
    fun J ru q => ⟨_, _, J.os, J.bare, J.base, J.hok, ru, q⟩
  match fl, hs with
  | .ret u, ⟨v, σ', H', J, ru, q⟩ => exact ret J ru q
  | .next, ⟨σ', H', J, q⟩ => exact ret (v := V.non) (u := Value.none) J rfl q
  | .brk, ⟨_, _, _, q⟩ => exact False.elim q
  | .cont, ⟨_, _, _, q⟩ => exact False.elim q
/-- all defs at once -/
theorem all_ok (M : ModOk K mg C) (lenT : C.fns.length = T.length) (defs : ∀ (f : Nat) (x : Str) (n : Nat) (fn : Fn), C.fns[f]? = some (x, n) → T[f]? = some fn → fn.np = n ∧ ∃ (a : Addr) (fd : FuncData) (ps : List Str), DefOk K mg C fn x a fd ps ∧ PySem.W.keepIn K (.ref a) = true ∧ ps.length = n) :
    ∀ (k f : Nat) (x : Str) (n : Nat), C.fns[f]? = some (x, n) → ∃ (a : Addr) (fd : FuncData) (ps : List Str), ps.length = n ∧ mg x = some (.ref a) ∧ PySem.W.keepIn K (.ref a) = true ∧ Binds K fd ps [] ∧ FnZ P w K mg base k a fd ps (spOf K ca n (run T C.G wf k f))
  | 0, f, x, n, e => by
    have hl : f < T.length := by rw [← lenT]; exact (List.getElem?_eq_some_iff.mp e).1
    obtain ⟨_, a, fd, ps, Dk, kp, hp⟩ := defs f x n T[f] e (List.getElem?_eq_getElem hl)
    exact ⟨a, fd, ps, hp, Dk.at_, kp, Dk.bn, fun vs H Q E h => by rw [h.1, hp], fun A outer s H args us vs Q E _ _ _ _ _ h => by obtain ⟨_, _, _, _, _, _, z⟩ := h; exact z.elim⟩
  | k + 1, f, x, n, e => by
    have hl : f < T.length := by rw [← lenT]; exact (List.getElem?_eq_some_iff.mp e).1
    obtain ⟨hn, a, fd, ps, Dk, kp, hp⟩ := defs f x n T[f] e (List.getElem?_eq_getElem hl)
    refine ⟨a, fd, ps, hp, Dk.at_, kp, Dk.bn, ?_⟩
    have := fn_ok (P := P) (w := w) (base := base) (ca := ca) (wf := wf) M Dk (List.getElem?_eq_getElem hl) (all_ok M lenT defs k)
    rw [hn] at this
    exact this
end

/-! ### the end -/
section
variable {P : Program} {w : World} {K : PySem.W.Frag} {mg mb : Str → Option Value} {k : Nat} {fa a : Addr} {fd : FuncData} {x : Str} {sp : Sp} {s1 : Shared} {vs : List Value} {ns : List Int}
theorem law_from (H : Hp) (only : Only H) (sq : SqL K H a (ns.map V.int)) (hok : HOk P w H s1.heap) (here : ∀ b, H b ≠ none → b = a) (out : H a ≠ none → K.lookup a = none)
    (KX : K.In s1.heap) (g : s1.heap.Ns mainGlobals mg) (b : s1.heap.Ns builtinsNs mb) (bb : ∀ x : Str, x ≠ "__name__" → mb x = bootBuiltins x) (lim : s1.heap.NoLimit) (gens : s1.gens = #[])
    (ha : s1.heap.get? a = some { cls := .type "list", data := .seq vs.toArray }) (room : Room k callerA) (F : ∀ base : Heap, K.In base → base.Ns mainGlobals mg → FnZ P w K mg base k fa fd [x] sp)
    (bind : ∀ (s : Shared) (u : Value), BindsTo s fd ⟨[u], []⟩ [(x, u)]) (hsp : sp [.ref a] H (fun v _ => v = .bl true) fun _ _ _ => False) :
    codeAny (model P w) callerA (.call (.ref fa) ⟨[.ref a], []⟩) (fun r s' => r = .ok (.ret (.bool true)) ∧ OldK s1.heap s'.heap ∧ s'.os = s1.os ∧ AllBare s'.gens) s1 := by
  have plain : ∀ {c : Addr} {o : Obj} {es : Array DictEntry} {ep : Nat}, s1.heap.get? c = some o → o.data = .dict es ep → H c = none := by
    intro c o es ep hc hd
    refine Classical.byContradiction fun z => ?_
    have hca := here c z
    subst hca
    rw [ha] at hc
    cases hc
    exact nomatch (show Data.seq vs.toArray _ = Data.dict es ep from hd)
  have nsK : ∀ {c : Addr} {m : Str → Option Value}, s1.heap.Ns c m → (hidT s1.heap H).Ns c m := by
    rintro c m ⟨o, es, ep, hc, hd, rest⟩
    exact ⟨o, es, ep, hidT_get hc (plain hc hd), hd, rest⟩
  have kin : K.In (hidT s1.heap H) := fun c o hc => hidT_get (KX c o hc) (Classical.byContradiction fun z => by
    have hca := here c z
    subst hca
    have := out z
    rw [hc] at this
    cases this)
  have hmod : Mod K mg (hidT s1.heap H) := ⟨kin, nsK g, ⟨mb, nsK b, bb⟩, by obtain ⟨mc, h1, h2⟩ := lim; exact ⟨mc, nsK h1, h2⟩⟩
  have env : Env0 P w K mg (hidT s1.heap H) callerA [] s1 H := ⟨rfl, hmod, fun _ _ e => of_hidT e, Nat.le_of_eq (hidT_size _ _), trivial, fun c z => absurd (show c ∈ ([] : List Addr) from z) List.not_mem_nil, hok, .of_eq gens⟩
  refine codeAny_mono ((F _ kin (nsK g)).run callerA [] s1 H ⟨[.ref a], []⟩ [.ref a] [.ref a] _ _ room rfl env (bind s1 (.ref a)) (.cons rfl .nil) hsp) fun res s' hres => ?_
  match res, hres with
  | .error e, hres =>
    obtain ⟨_, _, _, _, _, _, _, _, _, _, _, _, z⟩ := hres
    exact z.elim
  | .ok .next, hres => exact False.elim hres
  | .ok .brk, hres => exact False.elim hres
  | .ok .cont, hres => exact False.elim hres
  | .ok (.ret u), hres =>
    obtain ⟨v, H', os, bare, un, hok', rv, q⟩ := hres
    have q' : v = .bl true := q
    subst q'
    have hu : u = Value.bool true := rv
    subst hu
    refine ⟨rfl, OldK.of_keep fun c o hc => ?_, os, bare⟩
    rcases only c with z | ⟨ob, xs, z⟩
    · exact un.keep c o hc z (fun y => absurd (show c ∈ ([] : List Addr) from y) List.not_mem_nil) List.not_mem_nil
    · have e1 := (hok c _ z).1
      have e2 := (hok' c _ (un.frzs c ob _ z)).1
      rw [hc] at e1
      cases e1
      exact e2
theorem law_callZ (KX : K.In s1.heap) (g : s1.heap.Ns mainGlobals mg) (b : s1.heap.Ns builtinsNs mb) (bb : ∀ x : Str, x ≠ "__name__" → mb x = bootBuiltins x) (lim : s1.heap.NoLimit) (gens : s1.gens = #[])
    (ha : s1.heap.get? a = some { cls := .type "list", data := .seq vs.toArray }) (hi : IntsAre vs ns) (hl : ns.length ≤ sizeLine) (room : Room k callerA) (F : ∀ base : Heap, K.In base → base.Ns mainGlobals mg → FnZ P w K mg base k fa fd [x] sp)
    (bind : ∀ (s : Shared) (u : Value), BindsTo s fd ⟨[u], []⟩ [(x, u)]) (hsp : ∀ H : Hp, Only H → FL K H a (ns.map V.int) → sp [.ref a] H (fun v _ => v = .bl true) fun _ _ _ => False) :
    codeAny (model P w) callerA (.call (.ref fa) ⟨[.ref a], []⟩) (fun r s' => r = .ok (.ret (.bool true)) ∧ OldK s1.heap s'.heap ∧ s'.os = s1.os ∧ AllBare s'.gens) s1 := by
  have rv := vals_ints hi
  cases hk : K.lookup a with
  | some o =>
    have e := KX a o hk
    rw [ha] at e
    cases e
    have kl : KL K a (ns.map V.int) := ⟨_, vs.toArray, _, hk, rfl, rfl, rfl, by rw [List.size_toArray, hi.length]; exact hl, by simpa using rv⟩
    exact law_from (fun _ => none) (fun _ => .inl rfl) (.inr kl) (fun c u z => nomatch (show (none : Option HO) = some u from z)) (fun _ z => absurd rfl z) (fun z => absurd rfl z) KX g b bb lim gens ha room F bind (hsp _ (fun _ => .inl rfl) (.inr kl))
  | none =>
    let H : Hp := fun c => if c = a then some (.frz { cls := .type "list", data := .seq vs.toArray } (.lst (ns.map V.int))) else none
    have hat : H a = some (.frz { cls := .type "list", data := .seq vs.toArray } (.lst (ns.map V.int))) := if_pos rfl
    have hno : ∀ c, c ≠ a → H c = none := fun c z => if_neg z
    have only : Only H := fun c => by
      by_cases z : c = a
      · exact .inr ⟨_, _, if_pos z⟩
      · exact .inl (hno c z)
    refine law_from H only (.inl (.inr ⟨_, hat⟩)) (fun c u z => ?_) (fun c z => Classical.byContradiction fun y => z (hno c y)) (fun _ => hk) KX g b bb lim gens ha room F bind (hsp H only (.inl ⟨_, hat⟩))
    by_cases y : c = a
    · subst y
      rw [hat] at z
      cases z
      exact ⟨ha, by rw [List.length_map]; exact hl, vs, _, rv, ha⟩
    · rw [hno c y] at z
      cases z
end
end Z

/-! Z layer, part N: rows of defs, the head. -/
namespace Z
open PySem PySem.Spec PyProof.Rows L2

theorem lookup_zip {ps : List Str} (nd : ps.Nodup) : ∀ {us : List Value}, us.length = ps.length → ∀ n ∈ ps, ((ps.zip us).lookup n).isNone = false := by
  induction ps with
  | nil => intro us _ n hn; cases hn
  | cons p ps ih =>
    intro us hl n hn
    cases us with
    | nil => cases hl
    | cons u us =>
      rw [List.zip_cons_cons, List.lookup_cons]
      by_cases e : n = p
      · subst e; simp
      · have : (n == p) = false := by simpa using e
        rw [this]
        rcases List.mem_cons.mp hn with h | h
        · exact absurd h e
        · exact ih (List.nodup_cons.mp nd).2 (by simpa using hl) n h
theorem fm_congr {α β : Type} {f g : α → Option β} : ∀ {l : List α}, (∀ a ∈ l, f a = g a) → l.filterMap f = l.filterMap g
  | [], _ => rfl
  | a :: l, h => by
    rw [List.filterMap_cons, List.filterMap_cons, h a (by simp), fm_congr fun b hb => h b (by simp [hb])]
theorem filterMap_zip {ps : List Str} (nd : ps.Nodup) : ∀ {us : List Value}, us.length = ps.length → ps.filterMap (fun n => ((ps.zip us).lookup n).map (n, ·)) = ps.zip us := by
  induction ps with
  | nil => intro us _; rfl
  | cons p ps ih =>
    intro us hl
    cases us with
    | nil => cases hl
    | cons u us =>
      rw [List.zip_cons_cons, List.filterMap_cons, List.lookup_cons]
      simp only [beq_self_eq_true, Option.map_some]
      congr 1
      rw [← ih (List.nodup_cons.mp nd).2 (show us.length = ps.length by simpa using hl)]
      refine fm_congr fun n hn => ?_
      have : (n == p) = false := by
        have : n ≠ p := fun e => (List.nodup_cons.mp nd).1 (e ▸ hn)
        simpa using this
      rw [List.lookup_cons, this, ih (List.nodup_cons.mp nd).2 (show us.length = ps.length by simpa using hl)]
theorem bind_plain {x qual : Str} {as : List Arg} {body : List Stmt} {scope : Scope} {kV doc pm : Value} {an : Option Addr} {cdv ct : Value} {ps : List Str} (hps : as.map (·.arg) = ps) (nd : ps.Nodup) (us : List Value) (hl : us.length = ps.length) :
    bindArgs (PySem.W.fnOf x qual ⟨[], as, none, [], [], none, []⟩ body scope .none kV doc pm an cdv ct) ⟨us, []⟩ = pure (ps.zip us) := by
  have h1 := lookup_zip nd hl
  have h2 := filterMap_zip nd hl
  have h3 : ps.filter (fun n => ((ps.zip us).lookup n).isNone) = [] := List.filter_eq_nil_iff.mpr fun n hn => by rw [h1 n hn]; simp
  have h4 : ¬ us.length > ps.length := by omega
  have e1 : seqItems? Value.none = pure none := rfl
  unfold bindArgs PySem.W.fnOf
  simp only [hps, List.map_nil, List.nil_append, List.append_nil, e1, List.forIn_nil, pure_bind, Option.getD_none, List.length_nil, Nat.zero_sub, List.drop_zero, Nat.sub_zero, List.take_length, h3, h4, h2, List.isEmpty_nil, Bool.not_true, Bool.false_eq_true, ↓reduceIte, decide_false, Bool.false_and, List.drop_length, List.zip_nil_left, List.drop_nil]

/-! ### one row a def -/
structure Row where
  x : Str
  ps : List Str
  N : List Str
  fn : Fn
  st : Stmt
def Row.dfd (r : Row) : He.DefD := ⟨(r.x, none), r.x, r.x, defArgs r.st, defBody r.st, defScope r.st, [], []⟩
def argsOk (p : Arguments) (ps : List Str) : Bool := match p with
  | ⟨[], as, none, [], [], none, []⟩ => decide (as.map (·.arg) = ps)
  | _ => false
def scOk (N ps : List Str) (sc : Scope) : Bool := (match sc.kind with | .function => true | _ => false) && !sc.isCoroutine && !sc.isGenerator && decide N.Nodup && decide (N.take ps.length = ps) &&
  (ps.all fun x => match sc.names.lookup x with | some .local => true | some .cell => true | _ => false) && (sc.names.all fun y => match y.2 with | .free => false | _ => true)
def rowOk (C : Tab) (r : Row) : Bool := scOk r.N r.ps (defScope r.st) && decide (r.ps.length = r.fn.np) && decide (r.N.length = r.fn.ns) && argsOk (defArgs r.st) r.ps && chkSs C r.N true (defScope r.st) r.fn.body (defBody r.st)
theorem scOk_ok {N ps : List Str} {sc : Scope} (h : scOk N ps sc = true) : FnScope N ps sc := by
  unfold scOk at h
  simp only [Bool.and_eq_true, decide_eq_true_eq, Bool.not_eq_true'] at h
  obtain ⟨⟨⟨⟨⟨⟨h1, h2⟩, h3⟩, h4⟩, h5⟩, h6⟩, h7⟩ := h
  refine ⟨?_, h2, h3, h4, h5, fun x hx => ?_, fun y hy e => ?_⟩
  · split at h1
    · assumption
    · cases h1
  · have := List.all_eq_true.mp h6 x hx
    split at this <;> first | exact .inl (by assumption) | exact .inr (by assumption) | (cases this; done)
  · have := List.all_eq_true.mp h7 y hy
    rw [e] at this
    cases this
theorem rowOk_text {C : Tab} {r : Row} (h : rowOk C r = true) : FnText C r.fn r.N r.ps (defScope r.st) (defBody r.st) ∧ argsOk (defArgs r.st) r.ps = true := by
  unfold rowOk at h
  simp only [Bool.and_eq_true, decide_eq_true_eq] at h
  obtain ⟨⟨⟨⟨h1, h2⟩, h3⟩, h4⟩, h5⟩ := h
  exact ⟨⟨scOk_ok h1, h2, h3, h5⟩, h4⟩
theorem FnScope.psnd {N ps : List Str} {sc : Scope} (S : FnScope N ps sc) : ps.Nodup := by
  rw [← S.pre]; exact S.nd.sublist (List.take_sublist _ _)
theorem row_binds {K : PySem.W.Frag} {x qual : Str} {p : Arguments} {body : List Stmt} {scope : Scope} {f : Addr} {fd : FuncData} {ps : List Str} (F : FunD K x qual p body scope [] [] f fd) (h : argsOk p ps = true) (nd : ps.Nodup) :
    Binds K fd ps [] ∧ ∀ (s : Shared) (us : List Value), us.length = ps.length → BindsTo s fd ⟨us, []⟩ (ps.zip us) := by
  unfold argsOk at h
  split at h
  · have e := of_decide_eq_true h
    exact ⟨F.bindsN fun kV doc pm an cdv ct us hl => bind_plain e nd us hl, fun s us hl => F.bindsA (fun kV doc pm an cdv ct us hl => bind_plain e nd us hl) s us hl⟩
  · cases h

/-! ### values of the module's names -/
section
variable (K : PySem.W.Frag)
mutual
def repB : D → Value → Bool
  | .non, u => (match u with | .none => true | _ => false)
  | .bl b, u => (match u with | .bool c => b == c | _ => false)
  | .int i, u => (match u with | .int j _ => decide (i = j) | _ => false)
  | .str x, u => (match u with | .str y _ => decide (x = y) | _ => false)
  | .tup ds, u => (match u with
    | .ref a => (match K.lookup a with
      | some ⟨.type c, _, .seq its _, _⟩ => decide (c = "tuple") && decide (its.size ≤ 16777216) && repsB ds its.toList
      | _ => false)
    | _ => false)
  | .lst _, _ => false
  | .fro _, _ => false
  | .loc _, _ => false
def repsB : List D → List Value → Bool
  | [], us => us.isEmpty
  | d :: ds, us => match us with
    | u :: us => repB d u && repsB ds us
    | [] => false
end
def gloB (x : Str) (d : D) : Bool := match PySem.W.nsIn K mainGlobals x with
  | some (some u) => repB K d u
  | _ => false
end
section
variable {K : PySem.W.Frag}
mutual
theorem repB_ok : ∀ {d : D} {u : Value}, repB K d u = true → ∃ v, RelV v u ∧ ∀ H r, Rep K H r d v
  | .non, u, h => by
    unfold repB at h
    split at h
    · exact ⟨.non, rfl, fun _ _ => .non⟩
    · cases h
  | .bl b, u, h => by
    unfold repB at h
    split at h
    · rename_i c
      have e : b = c := eq_of_beq h
      subst e
      exact ⟨.bl b, rfl, fun _ _ => .bl b⟩
    · cases h
  | .int i, u, h => by
    unfold repB at h
    split at h
    · have e := of_decide_eq_true h
      subst e
      exact ⟨.int i, ⟨_, rfl⟩, fun _ _ => .int i⟩
    · cases h
  | .str x, u, h => by
    unfold repB at h
    split at h
    · have e := of_decide_eq_true h
      subst e
      exact ⟨.str x, ⟨_, rfl⟩, fun _ _ => .str x⟩
    · cases h
  | .tup ds, u, h => by
    unfold repB at h
    split at h
    · rename_i a
      split at h
      · rename_i c od its n sl e
        simp only [Bool.and_eq_true, decide_eq_true_eq] at h
        obtain ⟨⟨h1, h2⟩, h3⟩ := h
        obtain ⟨vs, r1, r2⟩ := repsB_ok h3
        exact ⟨.ref a, rfl, fun H r => .tup (.inr ⟨_, its, n, e, by rw [h1], rfl, by rw [sizeLine_eq]; exact h2, r1⟩) (r2 H r)⟩
      · cases h
    · cases h
  | .lst _, u, h => by unfold repB at h; cases h
  | .fro _, u, h => by unfold repB at h; cases h
  | .loc _, u, h => by unfold repB at h; cases h
theorem repsB_ok : ∀ {ds : List D} {us : List Value}, repsB K ds us = true → ∃ vs, Vals vs us ∧ ∀ H r, Reps K H r ds vs
  | [], us, h => by
    unfold repsB at h
    cases us with
    | nil => exact ⟨[], .nil, fun _ _ => .nil⟩
    | cons _ _ => cases h
  | d :: ds, us, h => by
    unfold repsB at h
    split at h
    · rw [Bool.and_eq_true] at h
      obtain ⟨v, r1, r2⟩ := repB_ok h.1
      obtain ⟨vs, s1, s2⟩ := repsB_ok h.2
      exact ⟨v :: vs, .cons r1 s1, fun H r => .cons (r2 H r) (s2 H r)⟩
    · cases h
end
end

/-! ### the head's facts -/
def obsZ (fr : List Str) (gl : List (Str × D)) (fn : List He.DefD) (K : PySem.W.Frag) : He.AlD :=
  ((fr.all fun x => (He.Fa.free x).ok K) && (gl.all fun p => gloB K p.1 p.2) && (fn.all fun d => d.ok K && (He.Fa.glo d.at_.1).ok K), fn.map fun d => He.fnW K d.at_)
def valZ (fn : List He.DefD) : He.AlD := (true, fn.map He.DefD.val)
def SaysZ (fr : List Str) (gl : List (Str × D)) (fn : List He.DefD) (K : PySem.W.Frag) : Prop := obsZ fr gl fn K = valZ fn
def obsZG (n : Nat) (fr : List Str) (gl : List (Str × D)) (fn : List He.DefD) (g : Addr → Option Obj) : He.AlD := obsZ fr gl fn (He.frG g (He.asD g n))
def hookZ (n : Nat) (fr : List Str) (gl : List (Str × D)) (fn : List He.DefD) : PySem.W.Hook where
  α := He.AlD
  obs := fun s => obsZG n fr gl fn s.heap.get?
  val := fun _ => valZ fn
  says := fun _ h => ∃ K : PySem.W.Frag, K.In h ∧ SaysZ fr gl fn K
  of := fun _ _ e => ⟨_, He.frG_in, e⟩
  keeps := fun _ _ _ ⟨K, hK, c⟩ k => ⟨K, PySem.W.Frag.In.keeps hK k, c⟩
theorem obsZG_eq {n : Nat} {fr : List Str} {gl : List (Str × D)} {fn : List He.DefD} {g : Addr → Option Obj} {s : Shared} (h : ∀ a, g a = s.heap.get? a) : obsZG n fr gl fn g = (hookZ n fr gl fn).obs s := by
  rw [show g = s.heap.get? from funext h]; rfl

/-- THE END: what is left of a law is a statement about run -/
theorem walk_ofZ {l : PySem.W.OpenLaw} {n k : Nat} {q : Program} {loose : List Str} {XP : (Str → Option Value) → Heap → Prop} {YP : World → Heap → Prop} {d : DefRec} {x : Str} {fr : List Str} {gl : List (Str × D)} {rows : List Row} {i : Nat} {row : Row}
    (hn : l.most = some n) (hn2 : n ≤ sizeLine) (hdf : d.params.defaults = []) (room : Room k callerA) (hY : ∀ w h, YP w h → ∃ K : PySem.W.Frag, K.In h ∧ SaysZ fr gl (rows.map Row.dfd) K)
    (hfr : (bltN.all fun x => fr.contains (Str.ofString x)) = true) (hi : rows[i]? = some row) (hname : d.name = row.x) (hps : row.ps = [x]) (hrows : (rows.all (rowOk ⟨rows.map fun r => (r.x, r.ps.length), gl⟩)) = true)
    (math : ∀ ns : List Int, ns.length ≤ n → ∃ wf S', run (rows.map Row.fn) (gl.map (·.2)) wf k i [.fro (ns.map .int)] [] = .ok (.bl true) S') :
    PySem.W.WalkO q loose XP YP l.row.toRowW d [] (fun f vs => PySem.call f vs) := by
  refine Att.attach_call hn hdf fun w s₀ s₁ mg mb fa o pm cd doc a vs ns G Y ho hd hcd hmg hobj hints hlen hg => ?_
  obtain ⟨K, KX, says⟩ := hY w _ Y
  have c1 : ((fr.all fun x => (He.Fa.free x).ok K) && (gl.all fun p => gloB K p.1 p.2) && ((rows.map Row.dfd).all fun d => d.ok K && (He.Fa.glo d.at_.1).ok K)) = true := congrArg (fun z : He.AlD => z.1) says
  have c2 : (rows.map Row.dfd).map (fun d => He.fnW K d.at_) = (rows.map Row.dfd).map He.DefD.val := congrArg (fun z : He.AlD => z.2) says
  simp only [Bool.and_eq_true] at c1
  obtain ⟨⟨f1, f2⟩, f3⟩ := c1
  let C : Tab := ⟨rows.map fun r => (r.x, r.ps.length), gl⟩
  have M : ModOk K mg C := by
    refine ⟨fun y hy => ?_, fun j z dd e => ?_⟩
    · have h1 := List.all_eq_true.mp hfr y hy
      exact He.free_ok KX G.T.g (List.all_eq_true.mp f1 _ (List.contains_iff_mem.mp h1))
    · have h1 := List.all_eq_true.mp f2 (z, dd) (List.mem_of_getElem? e)
      unfold gloB at h1
      split at h1
      · rename_i u eu
        obtain ⟨v, r1, r2⟩ := repB_ok h1
        exact ⟨u, v, PySem.W.mg_of KX G.T.g eu, r1, r2⟩
      · cases h1
  have funs : ∀ (j : Nat) (r : Row), rows[j]? = some r → FnText C r.fn r.N r.ps (defScope r.st) (defBody r.st) ∧ argsOk (defArgs r.st) r.ps = true ∧ mg r.x = some (.ref (He.ga K r.x)) ∧ ∃ fd, FunD K r.x r.x (defArgs r.st) (defBody r.st) (defScope r.st) [] [] (He.ga K r.x) fd := by
    intro j r hj
    have hm : r ∈ rows := List.mem_of_getElem? hj
    obtain ⟨tx, ha⟩ := rowOk_text (List.all_eq_true.mp hrows r hm)
    have h3 := List.all_eq_true.mp f3 r.dfd (List.mem_map_of_mem hm)
    rw [Bool.and_eq_true] at h3
    have e2 : ((rows.map Row.dfd).map fun d => He.fnW K d.at_)[j]? = ((rows.map Row.dfd).map He.DefD.val)[j]? := by rw [c2]
    simp only [List.getElem?_map, hj, Option.map_some] at e2
    obtain ⟨fd, F⟩ := He.DefD.funD (d := r.dfd) (Option.some.inj e2) h3.1
    exact ⟨tx, ha, He.glo_ok KX G.T.g h3.2, fd, F⟩
  have hT : ∀ base : Heap, ∀ wf k, _ := fun base wf k => all_ok (P := l.prog) (w := w) (base := base) (ca := fun _ => 0) (wf := wf) (T := rows.map Row.fn) M (by simp [C]) (fun f z m fn e1 e2 => by
    simp only [C, List.getElem?_map, Option.map_eq_some_iff] at e1 e2
    obtain ⟨r, hr, e1⟩ := e1
    obtain ⟨r', hr', e2⟩ := e2
    rw [hr] at hr'
    cases hr'
    cases e1
    subst e2
    obtain ⟨tx, ha, hg, fd, F⟩ := funs f r hr
    exact ⟨tx.np.symm, _, fd, r.ps, ⟨hg, (row_binds F ha (FnScope.psnd tx.scope)).1, r.N, r.x, _, _, _, tx, F⟩, F.kp, rfl⟩) k
  obtain ⟨tx, ha, hg2, fd0, F0⟩ := funs i row hi
  have eC : C.fns[i]? = some (row.x, 1) := by simp [C, List.getElem?_map, hi, hps]
  have efa : He.ga K row.x = fa := by
    rw [hname, hg2] at hmg
    injection hmg with e
    injection e
  -- the function object at the law's own address, fixed ahead of the base
  have hF : ∀ base : Heap, K.In base → base.Ns mainGlobals mg → FnZ l.prog w K mg base k fa fd0 [x] (fun vs H Q E => ∃ wf, spOf K (fun _ => 0) 1 (run (rows.map Row.fn) C.G wf k i) vs H Q E) := by
    intro base _ _
    have one : ∀ wf, FnZ l.prog w K mg base k fa fd0 [x] (spOf K (fun _ => 0) 1 (run (rows.map Row.fn) C.G wf k i)) := by
      intro wf
      cases k with
      | zero => exact ⟨fun vs H Q E h => by rw [h.1]; rfl, fun A outer s H args us vs Q E _ _ _ _ _ h => by obtain ⟨_, _, _, _, _, _, z⟩ := h; exact z.elim⟩
      | succ k =>
        have hfn := fn_ok (P := l.prog) (w := w) (base := base) (ca := fun _ => 0) (wf := wf) (T := rows.map Row.fn) (i := i) (fn := row.fn) M ⟨hg2, (row_binds F0 ha (FnScope.psnd tx.scope)).1, row.N, row.x, _, _, _, tx, F0⟩ (by rw [List.getElem?_map, hi]; rfl) (hT base wf k)
        rw [← tx.np, hps, efa] at hfn
        exact hfn
    exact ⟨fun vs H Q E ⟨wf, h⟩ => (one wf).len vs H Q E h, fun A outer s H args us vs Q E r g e b v ⟨wf, h⟩ => (one wf).run A outer s H args us vs Q E r g e b v h⟩
  refine law_callZ KX G.T.g G.T.b G.T.builtins G.T.nolimit hg hobj hints (Nat.le_trans hlen hn2) room hF (fun s u => ?_) fun H _ hFL => ?_
  · have := (row_binds F0 ha (FnScope.psnd tx.scope)).2 s [u] (by rw [hps]; rfl)
    rw [hps] at this
    exact this
  · obtain ⟨wf, S', e⟩ := math ns hlen
    refine ⟨wf, rfl, [.fro (ns.map .int)], ⟨[], []⟩, [], .cons (.fro hFL ?_) .nil, ⟨rfl, List.nodup_nil, fun n o h => by simp at h, fun a ha => by simp at ha⟩, ?_⟩
    · clear e hFL hlen hints
      induction ns with
      | nil => exact .nil
      | cons m ms ih => exact .cons (.int m) ih
    · have e' : run (rows.map Row.fn) C.G wf k i [.fro (ns.map .int)] [] = .ok (.bl true) S' := e
      rw [e']
      intro v H' r' _ _ hv
      cases hv
      rfl
end Z

/-! Z layer, part P: how a run is read; deck and draw; loops. -/
namespace Z
open PySem PySem.Spec PyProof.Rows L2

theorem run_succ {T : List Fn} {G : List D} {wf k f : Nat} {args : List D} {S : Sto} {fn : Fn} (h : T[f]? = some fn) (hl : args.length = fn.np) :
    run T G wf (k + 1) f args S = fnEnd (dSs G (run T G wf k) wf fn.body (slots0 fn.ns args) S) := by
  rw [run, h]; simp only [hl, ↓reduceIte]
theorem then_nx {a b : MS} {sd sd1 : Sl} {S S1 : Sto} (h : a sd S = .ok .nx sd1 S1) : mThen a b sd S = b sd1 S1 := by
  unfold mThen; rw [h]
theorem then_rt {a b : MS} {sd sd1 : Sl} {S S1 : Sto} {d : D} (h : a sd S = .ok (.rt d) sd1 S1) : mThen a b sd S = .ok (.rt d) sd1 S1 := by
  unfold mThen; rw [h]
@[simp] theorem q_ev {G : List D} {C : Nat → List D → Sto → Out D} {i : Nat} : dE G C (.v i) = mVar i := rfl
@[simp] theorem q_ec {G : List D} {C : Nat → List D → Sto → Out D} {d : D} : dE G C (.c d) = mC d := rfl
@[simp] theorem q_eg {G : List D} {C : Nat → List D → Sto → Out D} {j : Nat} : dE G C (.g j) = mG G j := rfl
@[simp] theorem q_eop {G : List D} {C : Nat → List D → Sto → Out D} {o : Operator} {a b : E} : dE G C (.op o a b) = mBin (opF o) (dE G C a) (dE G C b) := rfl
@[simp] theorem q_eneg {G : List D} {C : Nat → List D → Sto → Out D} {a : E} : dE G C (.neg a) = mNeg (dE G C a) := rfl
@[simp] theorem q_ecmp {G : List D} {C : Nat → List D → Sto → Out D} {o : CmpOp} {a b : E} : dE G C (.cmp o a b) = mBin (cmpF o) (dE G C a) (dE G C b) := rfl
@[simp] theorem q_ech {G : List D} {C : Nat → List D → Sto → Out D} {o o' : CmpOp} {a b c : E} : dE G C (.ch o o' a b c) = mChain (cmpF o) (cmpF o') (dE G C a) (dE G C b) (dE G C c) := rfl
@[simp] theorem q_ebo {G : List D} {C : Nat → List D → Sto → Out D} {o : BoolOp} {es : Es} : dE G C (.bo o es) = dB G C o es := rfl
@[simp] theorem q_enot {G : List D} {C : Nat → List D → Sto → Out D} {a : E} : dE G C (.not a) = mNot (dE G C a) := rfl
@[simp] theorem q_eifx {G : List D} {C : Nat → List D → Sto → Out D} {t : Tt} {a b : E} : dE G C (.ifx t a b) = mIf (dT G C t) (dE G C a) (dE G C b) := rfl
@[simp] theorem q_etup {G : List D} {C : Nat → List D → Sto → Out D} {es : Es} : dE G C (.tup es) = mTup (dL G C es) := rfl
@[simp] theorem q_elstT {G : List D} {C : Nat → List D → Sto → Out D} {es : Es} : dE G C (.lst true es) = mLstM (dL G C es) := rfl
@[simp] theorem q_elstF {G : List D} {C : Nat → List D → Sto → Out D} {es : Es} : dE G C (.lst false es) = mLst (dL G C es) := rfl
@[simp] theorem q_eix {G : List D} {C : Nat → List D → Sto → Out D} {a b : E} : dE G C (.ix a b) = mBin ixP (dE G C a) (dE G C b) := rfl
@[simp] theorem q_esl {G : List D} {C : Nat → List D → Sto → Out D} {a : E} {lo hi : Oe} : dE G C (.sl a lo hi) = mSl (dE G C a) (dO G C lo) (dO G C hi) := rfl
@[simp] theorem q_ecall {G : List D} {C : Nat → List D → Sto → Out D} {f : Nat} {es : Es} : dE G C (.call f es) = mFn (C f) (dL G C es) := rfl
@[simp] theorem q_ebf {G : List D} {C : Nat → List D → Sto → Out D} {f : Bf} {es : Es} : dE G C (.bf f es) = mCall (bfF f) (dL G C es) := rfl
@[simp] theorem q_eisi {G : List D} {C : Nat → List D → Sto → Out D} {a : E} {t : Ty} : dE G C (.isi a t) = mIsi (dE G C a) t := rfl
@[simp] theorem q_eisiT {G : List D} {C : Nat → List D → Sto → Out D} {a : E} {t t' : Ty} : dE G C (.isiT a t t') = mIsiT (dE G C a) t t' := rfl
@[simp] theorem q_edicE {G : List D} {C : Nat → List D → Sto → Out D}  : dE G C (.dicE) = mDicE := rfl
@[simp] theorem q_eapp {G : List D} {C : Nat → List D → Sto → Out D} {o : E} {es : Es} : dE G C (.app o es) = mApp (dE G C o) (dL G C es) := rfl
@[simp] theorem q_eext {G : List D} {C : Nat → List D → Sto → Out D} {o : E} {es : Es} : dE G C (.ext o es) = mExt (dE G C o) (dL G C es) := rfl
@[simp] theorem q_elcT {G : List D} {C : Nat → List D → Sto → Out D} {t : Tg} {it : It} {c : Ot} {e : E} {own : List (Str × Nat)} : dE G C (.lc true t it c e own) = mLcM (dI G C it) (dG G C t) (own.map (·.2)) (dC G C c) (dE G C e) := rfl
@[simp] theorem q_elcF {G : List D} {C : Nat → List D → Sto → Out D} {t : Tg} {it : It} {c : Ot} {e : E} {own : List (Str × Nat)} : dE G C (.lc false t it c e own) = mLc (dI G C it) (dG G C t) (own.map (·.2)) (dC G C c) (dE G C e) := rfl
@[simp] theorem q_lnil {G : List D} {C : Nat → List D → Sto → Out D} : dL G C .nil = mNil := rfl
@[simp] theorem q_lcons {G : List D} {C : Nat → List D → Sto → Out D} {e : E} {es : Es} : dL G C (.cons e es) = mCons (dE G C e) (dL G C es) := rfl
@[simp] theorem q_b1 {G : List D} {C : Nat → List D → Sto → Out D} {o : BoolOp} {e : E} : dB G C o (.cons e .nil) = dE G C e := rfl
@[simp] theorem q_bA {G : List D} {C : Nat → List D → Sto → Out D} {e e2 : E} {es : Es} : dB G C .And (.cons e (.cons e2 es)) = mAnd (dE G C e) (dB G C .And (.cons e2 es)) := rfl
@[simp] theorem q_bO {G : List D} {C : Nat → List D → Sto → Out D} {e e2 : E} {es : Es} : dB G C .Or (.cons e (.cons e2 es)) = mOr (dE G C e) (dB G C .Or (.cons e2 es)) := rfl
@[simp] theorem q_oN {G : List D} {C : Nat → List D → Sto → Out D} : dO G C .none = mNo := rfl
@[simp] theorem q_oS {G : List D} {C : Nat → List D → Sto → Out D} {e : E} : dO G C (.some e) = mPart (dE G C e) := rfl
@[simp] theorem q_tbo {G : List D} {C : Nat → List D → Sto → Out D} {o : BoolOp} {ts : Tts} : dT G C (.bo o ts) = dTB G C o ts := rfl
@[simp] theorem q_tnot {G : List D} {C : Nat → List D → Sto → Out D} {a : Tt} : dT G C (.not a) = mNotT (dT G C a) := rfl
@[simp] theorem q_tcmp {G : List D} {C : Nat → List D → Sto → Out D} {o : CmpOp} {a b : E} : dT G C (.cmp o a b) = mBl (mBin (cmpF o) (dE G C a) (dE G C b)) := rfl
@[simp] theorem q_tch {G : List D} {C : Nat → List D → Sto → Out D} {o o' : CmpOp} {a b c : E} : dT G C (.ch o o' a b c) = mBl (mChain (cmpF o) (cmpF o') (dE G C a) (dE G C b) (dE G C c)) := rfl
@[simp] theorem q_ttru {G : List D} {C : Nat → List D → Sto → Out D} {e : E} : dT G C (.tru e) = mTru (dE G C e) := rfl
@[simp] theorem q_tb1 {G : List D} {C : Nat → List D → Sto → Out D} {o : BoolOp} {e : Tt} : dTB G C o (.cons e .nil) = dT G C e := rfl
@[simp] theorem q_tbA {G : List D} {C : Nat → List D → Sto → Out D} {e e2 : Tt} {es : Tts} : dTB G C .And (.cons e (.cons e2 es)) = mAndT (dT G C e) (dTB G C .And (.cons e2 es)) := rfl
@[simp] theorem q_tbO {G : List D} {C : Nat → List D → Sto → Out D} {e e2 : Tt} {es : Tts} : dTB G C .Or (.cons e (.cons e2 es)) = mOrT (dT G C e) (dTB G C .Or (.cons e2 es)) := rfl
@[simp] theorem q_cN {G : List D} {C : Nat → List D → Sto → Out D} : dC G C .none = mYes := rfl
@[simp] theorem q_cS {G : List D} {C : Nat → List D → Sto → Out D} {t : Tt} : dC G C (.some t) = dT G C t := rfl
@[simp] theorem q_gnm {G : List D} {C : Nat → List D → Sto → Out D} {i : Nat} : dG G C (.nm i) = gNm i := rfl
@[simp] theorem q_gtup {G : List D} {C : Nat → List D → Sto → Out D} {ts : Tgs} : dG G C (.tup ts) = gTp (tgsLen ts) (dGs G C ts) := rfl
@[simp] theorem q_gsub {G : List D} {C : Nat → List D → Sto → Out D} {o i : E} : dG G C (.sub o i) = gSubM (dE G C o) (dE G C i) := rfl
@[simp] theorem q_gsn {G : List D} {C : Nat → List D → Sto → Out D} : dGs G C .nil = gsNil := rfl
@[simp] theorem q_gsc {G : List D} {C : Nat → List D → Sto → Out D} {t : Tg} {ts : Tgs} : dGs G C (.cons t ts) = gsCons (dG G C t) (dGs G C ts) := rfl
@[simp] theorem q_tl0  : tgsLen .nil = 0 := rfl
@[simp] theorem q_tl1 {t : Tg} {ts : Tgs} : tgsLen (.cons t ts) = tgsLen ts + 1 := rfl
@[simp] theorem q_iseq {G : List D} {C : Nat → List D → Sto → Out D} {e : E} : dI G C (.seq e) = mSeq (dE G C e) := rfl
@[simp] theorem q_ir1 {G : List D} {C : Nat → List D → Sto → Out D} {a : Es} : dI G C (.rng1 a) = mRng rng1 (dL G C a) := rfl
@[simp] theorem q_ir2 {G : List D} {C : Nat → List D → Sto → Out D} {a : Es} : dI G C (.rng2 a) = mRng rng2 (dL G C a) := rfl
@[simp] theorem q_sex {G : List D} {C : Nat → List D → Sto → Out D} {wf : Nat} {e : E} : dS G C wf (.ex e) = mExpr (dE G C e) := rfl
@[simp] theorem q_sdoc {G : List D} {C : Nat → List D → Sto → Out D} {wf : Nat}  : dS G C wf (.doc) = mSkip := rfl
@[simp] theorem q_spass {G : List D} {C : Nat → List D → Sto → Out D} {wf : Nat}  : dS G C wf (.pass) = mSkip := rfl
@[simp] theorem q_sbrk {G : List D} {C : Nat → List D → Sto → Out D} {wf : Nat}  : dS G C wf (.brk) = mBrk := rfl
@[simp] theorem q_scnt {G : List D} {C : Nat → List D → Sto → Out D} {wf : Nat}  : dS G C wf (.cnt) = mCnt := rfl
@[simp] theorem q_sret {G : List D} {C : Nat → List D → Sto → Out D} {wf : Nat} {e : E} : dS G C wf (.ret e) = mRet (dE G C e) := rfl
@[simp] theorem q_sretN {G : List D} {C : Nat → List D → Sto → Out D} {wf : Nat}  : dS G C wf (.retN) = mRetN := rfl
@[simp] theorem q_sasg {G : List D} {C : Nat → List D → Sto → Out D} {wf : Nat} {t : Tg} {e : E} : dS G C wf (.asg t e) = mAsg (dE G C e) (dG G C t) := rfl
@[simp] theorem q_saug {G : List D} {C : Nat → List D → Sto → Out D} {wf : Nat} {i : Nat} {o : Operator} {e : E} : dS G C wf (.aug i o e) = mAug i (iopF o) (dE G C e) := rfl
@[simp] theorem q_spar {G : List D} {C : Nat → List D → Sto → Out D} {wf : Nat} {is : List Nat} {es : Es} : dS G C wf (.par is es) = mPar is (dL G C es) := rfl
@[simp] theorem q_site {G : List D} {C : Nat → List D → Sto → Out D} {wf : Nat} {c : Tt} {a b : Ss} : dS G C wf (.ite c a b) = mIte (dT G C c) (dSs G C wf a) (dSs G C wf b) := rfl
@[simp] theorem q_sfor {G : List D} {C : Nat → List D → Sto → Out D} {wf : Nat} {t : Tg} {it : It} {b : Ss} : dS G C wf (.for_ t it b) = mFor (dI G C it) (dG G C t) (dSs G C wf b) := rfl
@[simp] theorem q_swhl {G : List D} {C : Nat → List D → Sto → Out D} {wf : Nat} {c : Tt} {b : Ss} : dS G C wf (.whl c b) = whGo (dT G C c) (dSs G C wf b) wf := rfl
@[simp] theorem q_snil {G : List D} {C : Nat → List D → Sto → Out D} {wf : Nat} : dSs G C wf .nil = mSkip := rfl
@[simp] theorem q_scons {G : List D} {C : Nat → List D → Sto → Out D} {wf : Nat} {s : S1} {ss : Ss} : dSs G C wf (.cons s ss) = mThen (dS G C wf s) (dSs G C wf ss) := rfl
@[simp] theorem q_mC {d : D} {sd : Sl} {S : Sto} : mC d sd S = .ok d S := by kernel_rfl
@[simp] theorem q_mG {G : List D} {j : Nat} {sd : Sl} {S : Sto} : mG G j sd S = lift G[j]? S := by kernel_rfl
@[simp] theorem q_mBin {a b : M D} {f : Sto → D → D → Option D} {sd : Sl} {S : Sto} : mBin f a b sd S = (match a sd S with | .ok x S1 => (match b sd S1 with | .ok y S2 => lift (f S2 x y) S2 | .exc c fs S0 => .exc c fs S0 | .bad => .bad) | .exc c fs S0 => .exc c fs S0 | .bad => .bad) := by kernel_rfl
@[simp] theorem q_mBl {a : M D}  {sd : Sl} {S : Sto} : mBl a sd S = (match a sd S with | .ok x S1 => toB x S1 | .exc c fs S0 => .exc c fs S0 | .bad => .bad) := by kernel_rfl
@[simp] theorem q_mTru {a : M D}  {sd : Sl} {S : Sto} : mTru a sd S = (match a sd S with | .ok x S1 => lift (truP S1 x) S1 | .exc c fs S0 => .exc c fs S0 | .bad => .bad) := by kernel_rfl
@[simp] theorem q_mNotT {ta : M Bool}  {sd : Sl} {S : Sto} : mNotT ta sd S = (match ta sd S with | .ok k S1 => .ok (!k) S1 | .exc c fs S0 => .exc c fs S0 | .bad => .bad) := by kernel_rfl
@[simp] theorem q_mAndT {ta tb : M Bool}  {sd : Sl} {S : Sto} : mAndT ta tb sd S = (match ta sd S with | .ok k S1 => if k then tb sd S1 else .ok false S1 | .exc c fs S0 => .exc c fs S0 | .bad => .bad) := by kernel_rfl
@[simp] theorem q_mOrT {ta tb : M Bool}  {sd : Sl} {S : Sto} : mOrT ta tb sd S = (match ta sd S with | .ok k S1 => if k then .ok true S1 else tb sd S1 | .exc c fs S0 => .exc c fs S0 | .bad => .bad) := by kernel_rfl
@[simp] theorem q_mNot {a : M D}  {sd : Sl} {S : Sto} : mNot a sd S = (match a sd S with | .ok x S1 => (match x with | .bl k => .ok (.bl (!k)) S1 | _ => .bad) | .exc c fs S0 => .exc c fs S0 | .bad => .bad) := by kernel_rfl
@[simp] theorem q_mAnd {a b : M D}  {sd : Sl} {S : Sto} : mAnd a b sd S = (match a sd S with | .ok x S1 => (match x with | .bl true => b sd S1 | .bl false => .ok (.bl false) S1 | _ => .bad) | .exc c fs S0 => .exc c fs S0 | .bad => .bad) := by kernel_rfl
@[simp] theorem q_mOr {a b : M D}  {sd : Sl} {S : Sto} : mOr a b sd S = (match a sd S with | .ok x S1 => (match x with | .bl true => .ok (.bl true) S1 | .bl false => b sd S1 | _ => .bad) | .exc c fs S0 => .exc c fs S0 | .bad => .bad) := by kernel_rfl
@[simp] theorem q_mIf {a b : M D} {ta : M Bool}  {sd : Sl} {S : Sto} : mIf ta a b sd S = (match ta sd S with | .ok k S1 => if k then a sd S1 else b sd S1 | .exc c fs S0 => .exc c fs S0 | .bad => .bad) := by kernel_rfl
@[simp] theorem q_mChain {a b c : M D} {f g : Sto → D → D → Option D} {sd : Sl} {S : Sto} : mChain f g a b c sd S = (match a sd S with | .ok x S1 => (match b sd S1 with | .ok y S2 => (match lift (f S2 x y) S2 with | .ok z S3 => (match z with | .bl true => (match c sd S3 with | .ok w S4 => lift (g S4 y w) S4 | .exc c fs S0 => .exc c fs S0 | .bad => .bad) | .bl false => .ok (.bl false) S3 | _ => .bad) | .exc c fs S0 => .exc c fs S0 | .bad => .bad) | .exc c fs S0 => .exc c fs S0 | .bad => .bad) | .exc c fs S0 => .exc c fs S0 | .bad => .bad) := by kernel_rfl
@[simp] theorem q_mNil  {sd : Sl} {S : Sto} : mNil sd S = .ok [] S := by kernel_rfl
@[simp] theorem q_mCons {a : M D} {la : M (List D)}  {sd : Sl} {S : Sto} : mCons a la sd S = (match a sd S with | .ok x S1 => (match la sd S1 with | .ok xs S2 => .ok (x :: xs) S2 | .exc c fs S0 => .exc c fs S0 | .bad => .bad) | .exc c fs S0 => .exc c fs S0 | .bad => .bad) := by kernel_rfl
@[simp] theorem q_mTup {la : M (List D)}  {sd : Sl} {S : Sto} : mTup la sd S = (match la sd S with | .ok xs S1 => if xs.length ≤ 16777216 then .ok (.tup xs) S1 else .bad | .exc c fs S0 => .exc c fs S0 | .bad => .bad) := by kernel_rfl
@[simp] theorem q_mLst {la : M (List D)}  {sd : Sl} {S : Sto} : mLst la sd S = (match la sd S with | .ok xs S1 => if xs.length ≤ 16777216 then .ok (.lst xs) S1 else .bad | .exc c fs S0 => .exc c fs S0 | .bad => .bad) := by kernel_rfl
@[simp] theorem q_mLstM {la : M (List D)}  {sd : Sl} {S : Sto} : mLstM la sd S = (match la sd S with | .ok xs S1 => if xs.length ≤ 16777216 then .ok (.loc S1.length) (S1 ++ [.lst xs]) else .bad | .exc c fs S0 => .exc c fs S0 | .bad => .bad) := by kernel_rfl
@[simp] theorem q_mCall {la : M (List D)} {f : Sto → List D → Option D} {sd : Sl} {S : Sto} : mCall f la sd S = (match la sd S with | .ok xs S1 => lift (f S1 xs) S1 | .exc c fs S0 => .exc c fs S0 | .bad => .bad) := by kernel_rfl
@[simp] theorem q_mFn {la : M (List D)} {f : List D → Sto → Out D} {sd : Sl} {S : Sto} : mFn f la sd S = (match la sd S with | .ok xs S1 => f xs S1 | .exc c fs S0 => .exc c fs S0 | .bad => .bad) := by kernel_rfl
@[simp] theorem q_mIsi {a : M D} {t : Ty} {sd : Sl} {S : Sto} : mIsi a t sd S = (match a sd S with | .ok x S1 => lift ((isiD S1 x t).map .bl) S1 | .exc c fs S0 => .exc c fs S0 | .bad => .bad) := by kernel_rfl
@[simp] theorem q_mIsiT {a : M D} {t t' : Ty} {sd : Sl} {S : Sto} : mIsiT a t t' sd S = (match a sd S with | .ok x S1 => lift (match isiD S1 x t, isiD S1 x t' with | some b, some c => some (.bl (b || c)) | _, _ => none) S1 | .exc c fs S0 => .exc c fs S0 | .bad => .bad) := by kernel_rfl
@[simp] theorem q_mDicE  {sd : Sl} {S : Sto} : mDicE sd S = .ok (.loc S.length) (S ++ [.dic []]) := by kernel_rfl
@[simp] theorem q_mNo  {sd : Sl} {S : Sto} : mNo sd S = .ok none S := by kernel_rfl
@[simp] theorem q_mPart {a : M D}  {sd : Sl} {S : Sto} : mPart a sd S = (match a sd S with | .ok x S1 => (match x with | .int i => .ok (some i) S1 | _ => .bad) | .exc c fs S0 => .exc c fs S0 | .bad => .bad) := by kernel_rfl
@[simp] theorem q_mSl {a : M D} {lo hi : M (Option Int)} {sd : Sl} {S : Sto} : mSl a lo hi sd S = (match a sd S with | .ok x S1 => (match lo sd S1 with | .ok l S2 => (match hi sd S2 with | .ok h S3 => lift (slP S3 x l h) S3 | .exc c fs S0 => .exc c fs S0 | .bad => .bad) | .exc c fs S0 => .exc c fs S0 | .bad => .bad) | .exc c fs S0 => .exc c fs S0 | .bad => .bad) := by kernel_rfl
@[simp] theorem q_mNeg {a : M D}  {sd : Sl} {S : Sto} : mNeg a sd S = (match a sd S with | .ok x S1 => lift (negD x) S1 | .exc c fs S0 => .exc c fs S0 | .bad => .bad) := by kernel_rfl
@[simp] theorem q_mYes  {sd : Sl} {S : Sto} : mYes sd S = .ok true S := by kernel_rfl
@[simp] theorem q_mSeq {a : M D}  {sd : Sl} {S : Sto} : mSeq a sd S = (match a sd S with | .ok x S1 => lift (srcOf S1 x) S1 | .exc c fs S0 => .exc c fs S0 | .bad => .bad) := by kernel_rfl
@[simp] theorem q_mRng {la : M (List D)} {f : List D → Option Src} {sd : Sl} {S : Sto} : mRng f la sd S = (match la sd S with | .ok xs S1 => lift (f xs) S1 | .exc c fs S0 => .exc c fs S0 | .bad => .bad) := by kernel_rfl
@[simp] theorem q_mLc {a : M D} {ta : M Bool} {mi : M Src} {g : GM} {vs : List Nat} {sd : Sl} {S : Sto} : mLc mi g vs ta a sd S = (match mLcL mi g vs ta a sd S with | .ok acc S2 => .ok (.lst acc) S2 | .exc c fs S0 => .exc c fs S0 | .bad => .bad) := by kernel_rfl
@[simp] theorem q_mLcM {a : M D} {ta : M Bool} {mi : M Src} {g : GM} {vs : List Nat} {sd : Sl} {S : Sto} : mLcM mi g vs ta a sd S = (match mLcL mi g vs ta a sd S with | .ok acc S2 => .ok (.loc S2.length) (S2 ++ [.lst acc]) | .exc c fs S0 => .exc c fs S0 | .bad => .bad) := by kernel_rfl
@[simp] theorem q_mLcL {a : M D} {ta : M Bool} {mi : M Src} {g : GM} {vs : List Nat} {sd : Sl} {S : Sto} : mLcL mi g vs ta a sd S = (match mi sd S with | .ok src S1 => lcGo src g ta a (wipeD sd vs) src.len 0 [] S1 | .exc c fs S0 => .exc c fs S0 | .bad => .bad) := by kernel_rfl
@[simp] theorem q_mSkip  {sd : Sl} {S : Sto} : mSkip sd S = .ok .nx sd S := by kernel_rfl
@[simp] theorem q_mThen {p q : MS}  {sd : Sl} {S : Sto} : mThen p q sd S = (match p sd S with | .ok .nx sd1 S1 => q sd1 S1 | o => o) := by kernel_rfl
@[simp] theorem q_mExpr {a : M D}  {sd : Sl} {S : Sto} : mExpr a sd S = (match a sd S with | .ok _ S1 => .ok .nx sd S1 | .exc c fs S0 => .exc c fs sd S0 | .bad => .bad) := by unfold mExpr; cases a sd S <;> rfl
@[simp] theorem q_mRet {a : M D}  {sd : Sl} {S : Sto} : mRet a sd S = (match a sd S with | .ok d S1 => .ok (.rt d) sd S1 | .exc c fs S0 => .exc c fs sd S0 | .bad => .bad) := by unfold mRet; cases a sd S <;> rfl
@[simp] theorem q_mRetN  {sd : Sl} {S : Sto} : mRetN sd S = .ok (.rt .non) sd S := by kernel_rfl
@[simp] theorem q_mAsg {a : M D} {g : GM} {sd : Sl} {S : Sto} : mAsg a g sd S = (match a sd S with | .ok d S1 => (match g d sd S1 with | some (sd2, S2) => .ok .nx sd2 S2 | none => .bad) | .exc c fs S0 => .exc c fs sd S0 | .bad => .bad) := by unfold mAsg; cases a sd S <;> rfl
@[simp] theorem q_mIte {ta : M Bool} {p q : MS}  {sd : Sl} {S : Sto} : mIte ta p q sd S = (match ta sd S with | .ok k S1 => if k then p sd S1 else q sd S1 | .exc c fs S0 => .exc c fs sd S0 | .bad => .bad) := by unfold mIte; cases ta sd S <;> rfl
@[simp] theorem q_mBrk  {sd : Sl} {S : Sto} : mBrk sd S = .ok .bk sd S := by kernel_rfl
@[simp] theorem q_mCnt  {sd : Sl} {S : Sto} : mCnt sd S = .ok .ct sd S := by kernel_rfl
@[simp] theorem q_mFor {p : MS} {mi : M Src} {g : GM} {sd : Sl} {S : Sto} : mFor mi g p sd S = (match mi sd S with | .ok src S1 => forGo src g p src.len 0 sd S1 | .exc c fs S0 => .exc c fs sd S0 | .bad => .bad) := by unfold mFor; cases mi sd S <;> rfl
@[simp] theorem q_gNm {i : Nat} {d : D} {sd : Sl} {S : Sto} : gNm i d sd S = some (sd.set i (some d), S) := by kernel_rfl
@[simp] theorem q_mVar {i : Nat} {sd : Sl} {S : Sto} {d : D} (h : sd[i]? = some (some d)) : mVar i sd S = .ok d S := by unfold mVar; rw [h]
@[simp] theorem q_mAug {i : Nat} {sd : Sl} {S : Sto} {x : D} {f : Sto → D → D → Option D} {a : M D} (h : sd[i]? = some (some x)) : mAug i f a sd S = (match a sd S with | .ok y S1 => (match f S1 x y with | some z => .ok .nx (sd.set i (some z)) S1 | none => .bad) | .exc c fs S0 => .exc c fs sd S0 | .bad => .bad) := by unfold mAug; rw [h]; cases a sd S <;> rfl
@[simp] theorem q_liftS {T : Type} {x : T} {S : Sto} : lift (some x) S = .ok x S := rfl
@[simp] theorem q_toB {k : Bool} {S : Sto} : toB (.bl k) S = .ok k S := rfl
@[simp] theorem q_vLen {ds : List D} : (Src.vals ds).len = ds.length := rfl
@[simp] theorem q_vFin {ds : List D} {S : Sto} : (Src.vals ds).fin S = true := rfl
@[simp] theorem q_vAt {ds : List D} {S : Sto} {i : Nat} : (Src.vals ds).at S i = ds[i]? := rfl
@[simp] theorem q_opAdd  : opF .Add = addP := rfl
@[simp] theorem q_opSub  : opF .Sub = intP subI := rfl
@[simp] theorem q_opMult  : opF .Mult = mulP := rfl
@[simp] theorem q_opFloorDiv  : opF .FloorDiv = intP fdivI := rfl
@[simp] theorem q_opMod  : opF .Mod = intP modI := rfl
@[simp] theorem q_opPow  : opF .Pow = intP powI := rfl
@[simp] theorem q_cmEq  : cmpF .Eq = eqD := rfl
@[simp] theorem q_cmNotEq  : cmpF .NotEq = neD := rfl
@[simp] theorem q_cmIs  : cmpF .Is = isNP false := rfl
@[simp] theorem q_cmIsNot  : cmpF .IsNot = isNP true := rfl
@[simp] theorem q_cmIn  : cmpF .In = inD := rfl
@[simp] theorem q_cmNotIn  : cmpF .NotIn = notInD := rfl
@[simp] theorem q_cmLt {S : Sto} {i j : Int} : cmpF .Lt S (.int i) (.int j) = some (.bl (decide (i < j))) := rfl
@[simp] theorem q_cmLtE {S : Sto} {i j : Int} : cmpF .LtE S (.int i) (.int j) = some (.bl (decide (i ≤ j))) := rfl
@[simp] theorem q_cmGt {S : Sto} {i j : Int} : cmpF .Gt S (.int i) (.int j) = some (.bl (decide (j < i))) := rfl
@[simp] theorem q_cmGtE {S : Sto} {i j : Int} : cmpF .GtE S (.int i) (.int j) = some (.bl (decide (j ≤ i))) := rfl
@[simp] theorem q_bflen  : bfF .len = call1 lenD := rfl
@[simp] theorem q_bfabs  : bfF .abs = call1 absD := rfl
@[simp] theorem q_bfint  : bfF .int = call1 intD := rfl
@[simp] theorem q_bfstr  : bfF .str = call1 strD := rfl
@[simp] theorem q_bftup  : bfF .tup = call1 tupD := rfl
@[simp] theorem q_bflst  : bfF .lst = call1 lstD := rfl
@[simp] theorem q_bfmax2  : bfF .max2 = max2D := rfl
@[simp] theorem q_bfmin2  : bfF .min2 = min2D := rfl
@[simp] theorem q_bfrepr  : bfF .repr = call1 reprD := rfl
@[simp] theorem q_bfsum  : bfF .sum = call1 sumD := rfl
@[simp] theorem q_bfmax1  : bfF .max1 = call1 max1D := rfl
@[simp] theorem q_bfmin1  : bfF .min1 = call1 min1D := rfl
@[simp] theorem q_call1 {f : Sto → D → Option D} {S : Sto} {x : D} : call1 f S [x] = f S x := rfl
@[simp] theorem q_addI {S : Sto} {i j : Int} : addP S (.int i) (.int j) = some (.int (i + j)) := rfl
@[simp] theorem q_subI {S : Sto} {i j : Int} : intP subI S (.int i) (.int j) = some (.int (i - j)) := rfl
@[simp] theorem q_absI {S : Sto} {i : Int} : absD S (.int i) = some (.int (if i < 0 then -i else i)) := rfl
@[simp] theorem q_intI {S : Sto} {i : Int} : intD S (.int i) = some (.int i) := rfl
@[simp] theorem q_negI {i : Int} : negD (.int i) = some (.int (-i)) := rfl
@[simp] theorem q_iaddI {S : Sto} {i j : Int} : iopF .Add S (.int i) (.int j) = some (.int (i + j)) := rfl
@[simp] theorem q_gsNil {sd : Sl} {S : Sto} : gsNil [] sd S = some (sd, S) := rfl
@[simp] theorem q_mod {S : Sto} {i j : Int} (h : 0 < j) : intP modI S (.int i) (.int j) = some (.int (i % j)) := by simp [intP, modI, h]
@[simp] theorem q_fdiv {S : Sto} {i j : Int} (h : 0 < j) (h2 : j < 1073741824) : intP fdivI S (.int i) (.int j) = some (.int (i / j)) := by simp [intP, fdivI, h, h2]
theorem q_mul {S : Sto} {i j : Int} (h : -18446744073709551616 < i ∧ i < 18446744073709551616) : mulP S (.int i) (.int j) = some (.int (i * j)) := by simp [mulP, mulI, h]
theorem q_pow {S : Sto} {i j : Int} (h : 0 ≤ j ∧ j ≤ 1000000) (h2 : i.natAbs < 18446744073709551616) : intP powI S (.int i) (.int j) = some (.int (i ^ j.toNat)) := by simp [intP, powI, h, h2]

theorem ixN_in {n : Nat} {i : Int} (h0 : 0 ≤ i) (h1 : i < n) : ixN n i = some i.toNat := by
  unfold ixN
  rw [if_pos h0, if_pos h1]
theorem atI_in {α : Type} {xs : List α} {i : Int} (h0 : 0 ≤ i) (h1 : i < xs.length) : L2.atI xs i = xs[i.toNat]? := by
  unfold L2.atI
  rw [ixN_in h0 h1]
  rfl

/-! ### the deck -/
structure Dk (S : Sto) (a b : Nat) (n : Int) : Prop where
  ne : a ≠ b
  cells : ∃ xs : List Int, S[a]? = some (.lst (xs.map D.int)) ∧ ∀ x ∈ xs, 0 ≤ x
  at_ : S[b]? = some (.lst [.loc a, .int n])
def drawB (p q t u : Int) : Ss := (.cons (.asg (.sub (.v 0) (.c (.int 1))) (.op .Add (.ix (.v 0) (.c (.int 1))) (.c (.int 1)))) (.cons (.asg (.tup (.cons (.nm 3) (.cons (.nm 4) .nil))) (.tup (.cons (.c (.int 0)) (.cons (.neg (.c (.int 1))) .nil)))) (.cons (.ite (.cmp .Gt (.bf .len (.cons (.ix (.v 0) (.c (.int 0))) .nil)) (.c (.int 0))) (.cons (.asg (.nm 4) (.op .Mod (.bf .int (.cons (.ix (.v 0) (.c (.int 1))) .nil)) (.bf .len (.cons (.ix (.v 0) (.c (.int 0))) .nil)))) (.cons (.asg (.nm 3) (.ix (.ix (.v 0) (.c (.int 0))) (.v 4))) .nil)) .nil) (.cons (.ite (.cmp .GtE (.v 3) (.op .Pow (.c (.int 10)) (.c (.int 18)))) (.cons (.asg (.sub (.ix (.v 0) (.c (.int 0))) (.v 4)) (.op .FloorDiv (.bf .int (.cons (.v 3) .nil)) (.v 1))) (.cons (.ret (.op .Mod (.bf .int (.cons (.v 3) .nil)) (.v 1))) .nil)) .nil) (.cons (.asg (.nm 2) (.op .Add (.op .Add (.op .Mod (.bf .int (.cons (.v 3) .nil)) (.c (.int p))) (.op .Mult (.c (.int q)) (.ix (.v 0) (.c (.int 1))))) (.c (.int t)))) (.cons (.ret (.op .Mod (.bf .int (.cons (.op .Mod (.bf .int (.cons (.op .Pow (.v 2) (.c (.int 5))) .nil)) (.c (.int u))) .nil)) (.v 1))) .nil))))))
theorem ix_loc {S : Sto} {b : Nat} {xs : List D} {i : Int} (h : S[b]? = some (.lst xs)) (h0 : 0 ≤ i) (h1 : i < xs.length) : ixP S (.loc b) (.int i) = xs[i.toNat]? := by
  simp [ixP, asQ, asL, h, atI_in h0 h1]
theorem len_loc {S : Sto} {b : Nat} {xs : List D} (h : S[b]? = some (.lst xs)) : lenD S (.loc b) = some (.int xs.length) := by
  simp [lenD, lenP, asQ, asL, h]
structure Fr (S S' : Sto) (a b : Nat) : Prop where
  len : S'.length = S.length
  oth : ∀ c, c ≠ a → c ≠ b → S'[c]? = S[c]?
section
variable {G : List D} {C : Nat → List D → Sto → Out D} {wf : Nat} {p q t u : Int}
theorem draw_ok {S : Sto} {a b : Nat} {n m : Int} (h : Dk S a b n) (hn : 0 ≤ n) (hn2 : n < 1000000) (hm : 0 < m) (hm2 : m < 1073741824) (hp : 0 < p) (hp2 : p < 1000000000000) (hq : 0 < q) (hq2 : q < 1000000) (ht : 0 ≤ t) (ht2 : t < 1000000) (hu : 0 < u) :
    ∃ r S', fnEnd (dSs G C wf (drawB p q t u) (slots0 5 [.loc b, .int m]) S) = .ok (.int r) S' ∧ 0 ≤ r ∧ r < m ∧ Dk S' a b (n + 1) ∧ Fr S S' a b := by
  obtain ⟨ne, ⟨xs, hx, hpos⟩, hb⟩ := h
  have lb : b < S.length := (List.getElem?_eq_some_iff.mp hb).1
  have la : a < S.length := (List.getElem?_eq_some_iff.mp hx).1
  have hb1 : (S.set b (.lst [.loc a, .int (n + 1)]))[b]? = some (.lst [.loc a, .int (n + 1)]) := by simp [lb]
  have hx1 : (S.set b (.lst [.loc a, .int (n + 1)]))[a]? = some (.lst (xs.map D.int)) := by rw [List.getElem?_set_ne ne.symm]; exact hx
  generalize hS1 : S.set b (.lst [.loc a, .int (n + 1)]) = S1 at hb1 hx1
  have l1 : S1.length = S.length := by rw [← hS1]; simp
  have o1 : ∀ c, c ≠ a → c ≠ b → S1[c]? = S[c]? := fun c _ z => by rw [← hS1, List.getElem?_set_ne (Ne.symm z)]
  have dk1 : Dk S1 a b (n + 1) := ⟨ne, ⟨xs, hx1, hpos⟩, hb1⟩
  have i0 : ixP S1 (.loc b) (.int 0) = some (.loc a) := by rw [ix_loc hb1 (by decide) (by simp)]; rfl
  have i1 : ixP S1 (.loc b) (.int 1) = some (.int (n + 1)) := by rw [ix_loc hb1 (by decide) (by simp)]; rfl
  have j1 : ixP S (.loc b) (.int 1) = some (.int n) := by rw [ix_loc hb (by decide) (by simp)]; rfl
  have ln : lenD S1 (.loc a) = some (.int xs.length) := by rw [len_loc hx1]; simp
  have pw : intP powI S1 (.int 10) (.int 18) = some (.int (10 ^ 18)) := rfl
  -- the first two statements
  have s1 : dS G C wf (.asg (.sub (.v 0) (.c (.int 1))) (.op .Add (.ix (.v 0) (.c (.int 1))) (.c (.int 1)))) (slots0 5 [.loc b, .int m]) S = .ok .nx [some (.loc b), some (.int m), none, none, none] S1 := by
    simp [slots0, j1, gSubM, hb, ixN, ← hS1]
  have s2 : dS G C wf (.asg (.tup (.cons (.nm 3) (.cons (.nm 4) .nil))) (.tup (.cons (.c (.int 0)) (.cons (.neg (.c (.int 1))) .nil)))) [some (.loc b), some (.int m), none, none, none] S1 = .ok .nx [some (.loc b), some (.int m), none, some (.int 0), some (.int (-1))] S1 := by
    simp [gTp, gsCons]
  -- the third
  have s3 : ∃ (x : Int) (at_ : Int), 0 ≤ x ∧ (x ≠ 0 → 0 ≤ at_ ∧ at_ < xs.length) ∧ dS G C wf (.ite (.cmp .Gt (.bf .len (.cons (.ix (.v 0) (.c (.int 0))) .nil)) (.c (.int 0))) (.cons (.asg (.nm 4) (.op .Mod (.bf .int (.cons (.ix (.v 0) (.c (.int 1))) .nil)) (.bf .len (.cons (.ix (.v 0) (.c (.int 0))) .nil)))) (.cons (.asg (.nm 3) (.ix (.ix (.v 0) (.c (.int 0))) (.v 4))) .nil)) .nil) [some (.loc b), some (.int m), none, some (.int 0), some (.int (-1))] S1 = .ok .nx [some (.loc b), some (.int m), none, some (.int x), some (.int at_)] S1 := by
    by_cases hl : 0 < xs.length
    · have hl' : (0 : Int) < xs.length := by omega
      have m0 := Int.emod_nonneg (n + 1) (b := (xs.length : Int)) (by omega)
      have m1 := Int.emod_lt_of_pos (n + 1) hl'
      have hk : ((n + 1) % (xs.length : Int)).toNat < xs.length := by omega
      refine ⟨xs[((n + 1) % (xs.length : Int)).toNat], (n + 1) % xs.length, hpos _ (List.getElem_mem hk), fun _ => ⟨m0, m1⟩, ?_⟩
      have ia : ixP S1 (.loc a) (.int ((n + 1) % xs.length)) = some (.int xs[((n + 1) % (xs.length : Int)).toNat]) := by
        rw [ix_loc hx1 m0 (by simpa using m1), List.getElem?_map, List.getElem?_eq_getElem hk]; rfl
      simp [i0, i1, ln, hl, ia]
    · have e : xs = [] := by cases xs with | nil => rfl | cons _ _ => simp at hl
      subst e
      refine ⟨0, -1, by decide, fun z => absurd rfl z, ?_⟩
      simp [i0, ln]
  obtain ⟨x, at_, hx0, hat, s3⟩ := s3
  unfold drawB
  rw [q_scons, then_nx s1, q_scons, then_nx s2, q_scons, then_nx s3, q_scons]
  by_cases big : 10 ^ 18 ≤ x
  · have hat := hat (by omega)
    have ix : ixN xs.length at_ = some at_.toNat := ixN_in hat.1 hat.2
    refine ⟨x % m, S1.set a (.lst ((xs.map D.int).set at_.toNat (.int (x / m)))), ?_, Int.emod_nonneg _ (by omega), Int.emod_lt_of_pos _ hm, ⟨ne, ⟨xs.set at_.toNat (x / m), ?_, fun y hy => ?_⟩, ?_⟩, ?_, fun c c1 c2 => ?_⟩
    · have big' : (1000000000000000000 : Int) ≤ x := big
      simp [pw, big', i0, gSubM, hx1, ix, hm, hm2, fnEnd]
    · rw [List.map_set]; simp [l1, la]
    · rcases List.mem_or_eq_of_mem_set hy with z | z
      · exact hpos _ z
      · rw [z]; exact Int.ediv_nonneg hx0 (by omega)
    · rw [List.getElem?_set_ne ne]; exact hb1
    · simp [l1]
    · rw [List.getElem?_set_ne (Ne.symm c1)]; exact o1 c c1 c2
  · have small : ¬ (1000000000000000000 : Int) ≤ x := big
    have s4 : dS G C wf (.ite (.cmp .GtE (.v 3) (.op .Pow (.c (.int 10)) (.c (.int 18)))) (.cons (.asg (.sub (.ix (.v 0) (.c (.int 0))) (.v 4)) (.op .FloorDiv (.bf .int (.cons (.v 3) .nil)) (.v 1))) (.cons (.ret (.op .Mod (.bf .int (.cons (.v 3) .nil)) (.v 1))) .nil)) .nil) [some (.loc b), some (.int m), none, some (.int x), some (.int at_)] S1 = .ok .nx [some (.loc b), some (.int m), none, some (.int x), some (.int at_)] S1 := by
      simp [pw, small]
    rw [then_nx s4]
    have x0 := Int.emod_nonneg x (b := p) (by omega)
    have x1 := Int.emod_lt_of_pos x hp
    have q0 : 0 ≤ q * (n + 1) := Int.mul_nonneg (by omega) (by omega)
    have q1 : q * (n + 1) ≤ 1000000 * 1000001 := Int.mul_le_mul (by omega) (by omega) (by omega) (by omega)
    refine ⟨(x % p + q * (n + 1) + t) ^ 5 % u % m, S1, ?_, Int.emod_nonneg _ (by omega), Int.emod_lt_of_pos _ hm, dk1, l1, o1⟩
    have hb64 : (x % p + q * (n + 1) + t).natAbs < 18446744073709551616 := by omega
    have pw2 : intP powI S1 (.int (x % p + q * (n + 1) + t)) (.int 5) = some (.int ((x % p + q * (n + 1) + t) ^ 5)) := q_pow (by decide) hb64
    have mu : mulP S1 (.int q) (.int (n + 1)) = some (.int (q * (n + 1))) := q_mul (by omega)
    simp [hp, mu, i1, pw2, hu, hm, fnEnd]
end
end Z

/-! Z layer, part Q: loops, the deck made. -/
namespace Z
open PySem PySem.Spec PyProof.Rows L2

/-- a comprehension that leaves the store alone -/
theorem lc_pure {ds : List D} {g : GM} {c : M Bool} {e : M D} {sw : Sl} {S : Sto} {p : D → Bool} {h : D → D}
    (hy : ∀ d ∈ ds, ∃ sd, g d sw S = some (sd, S) ∧ c sd S = .ok (p d) S ∧ (p d = true → e sd S = .ok (h d) S)) :
    ∀ (n i : Nat) (acc : List D), i + n = ds.length → acc.length + n ≤ 16777216 → lcGo (.vals ds) g c e sw n i acc S = .ok (acc ++ ((ds.drop i).filter p).map h) S
  | 0, i, acc, hi, _ => by
    have : ds.drop i = [] := List.drop_eq_nil_of_le (by omega)
    rw [this]; simp [lcGo]
  | n + 1, i, acc, hi, hl => by
    have hlt : i < ds.length := by omega
    obtain ⟨sd, h1, h2, h3⟩ := hy ds[i] (List.getElem_mem hlt)
    have hd : ds.drop i = ds[i] :: ds.drop (i + 1) := (List.drop_eq_getElem_cons hlt)
    have e0 : (Src.vals ds).at S i = some ds[i] := List.getElem?_eq_getElem hlt
    unfold lcGo
    simp only [e0, h1, h2]
    cases hp : p ds[i] with
    | true =>
      simp only [h3 hp]
      rw [if_pos (by omega), lc_pure hy n (i + 1) (acc ++ [h ds[i]]) (by omega) (by simp; omega), hd, List.filter_cons_of_pos (by simp [hp]), List.map_cons, List.append_assoc]
      rfl
    | false =>
      simp only []
      rw [lc_pure hy n (i + 1) acc (by omega) (by omega), hd, List.filter_cons_of_neg (by simp [hp])]
/-- a comprehension with something kept -/
theorem lc_inv {ds : List D} {g : GM} {c : M Bool} {e : M D} {sw : Sl} (P : Nat → List D → Sto → Prop)
    (st : ∀ i d acc S, ds[i]? = some d → P i acc S → ∃ sd S1, g d sw S = some (sd, S1) ∧ ((∃ S2, c sd S1 = .ok false S2 ∧ P (i + 1) acc S2) ∨ ∃ S2 y S3, c sd S1 = .ok true S2 ∧ e sd S2 = .ok y S3 ∧ P (i + 1) (acc ++ [y]) S3)) :
    ∀ (n i : Nat) (acc : List D) (S : Sto), i + n = ds.length → acc.length + n ≤ 16777216 → P i acc S → ∃ acc' S', lcGo (.vals ds) g c e sw n i acc S = .ok acc' S' ∧ P ds.length acc' S'
  | 0, i, acc, S, hi, _, h => ⟨acc, S, by simp [lcGo], by rw [← hi]; exact h⟩
  | n + 1, i, acc, S, hi, hl, h => by
    have hlt : i < ds.length := by omega
    have e0 : (Src.vals ds).at S i = some ds[i] := List.getElem?_eq_getElem hlt
    obtain ⟨sd, S1, h1, h2⟩ := st i ds[i] acc S (List.getElem?_eq_getElem hlt) h
    unfold lcGo
    simp only [e0, h1]
    rcases h2 with ⟨S2, h2, h3⟩ | ⟨S2, y, S3, h2, h3, h4⟩
    · simp only [h2]
      exact lc_inv P st n (i + 1) acc S2 (by omega) (by omega) h3
    · simp only [h2, h3]
      rw [if_pos (by omega)]
      exact lc_inv P st n (i + 1) (acc ++ [y]) S3 (by omega) (by simp; omega) h4
theorem for_inv {ds : List D} {g : GM} {b : MS} (P : Nat → Sl → Sto → Prop)
    (st : ∀ i d sd S, ds[i]? = some d → P i sd S → ∃ sd1 S1, g d sd S = some (sd1, S1) ∧ ∃ sd2 S2, (b sd1 S1 = .ok .nx sd2 S2 ∨ b sd1 S1 = .ok .ct sd2 S2) ∧ P (i + 1) sd2 S2) :
    ∀ (n i : Nat) (sd : Sl) (S : Sto), i + n = ds.length → P i sd S → ∃ sd' S', forGo (.vals ds) g b n i sd S = .ok .nx sd' S' ∧ P ds.length sd' S'
  | 0, i, sd, S, hi, h => ⟨sd, S, by simp [forGo], by rw [← hi]; exact h⟩
  | n + 1, i, sd, S, hi, h => by
    have hlt : i < ds.length := by omega
    have e0 : (Src.vals ds).at S i = some ds[i] := List.getElem?_eq_getElem hlt
    obtain ⟨sd1, S1, h1, sd2, S2, h2, h3⟩ := st i ds[i] sd S (List.getElem?_eq_getElem hlt) h
    unfold forGo
    simp only [e0, h1]
    rcases h2 with h2 | h2 <;> simp only [h2] <;> exact for_inv P st n (i + 1) sd2 S2 (by omega) h3

def Ss.app : Ss → Ss → Ss
  | .nil, b => b
  | .cons s a, b => .cons s (Ss.app a b)
theorem app_nx {G : List D} {C : Nat → List D → Sto → Out D} {wf : Nat} : ∀ {a b : Ss} {sd sd1 : Sl} {S S1 : Sto}, dSs G C wf a sd S = .ok .nx sd1 S1 → dSs G C wf (a.app b) sd S = dSs G C wf b sd1 S1
  | .nil, b, sd, sd1, S, S1, h => by
    rw [q_snil, q_mSkip] at h
    cases h
    rfl
  | .cons s a, b, sd, sd1, S, S1, h => by
    show mThen (dS G C wf s) (dSs G C wf (a.app b)) sd S = _
    rw [q_scons] at h
    unfold mThen at h ⊢
    split at h
    · exact app_nx h
    · rename_i o hno
      exact absurd h (hno _ _)
/-! ### the deck made -/
def deckB (nm : Str) : Ss := (.cons (.ret (.lst true (.cons (.lc true (.nm 1) (.seq (.sl (.v 0) .none (.some (.c (.int 63))))) .none (.bf .abs (.cons (.v 1) .nil)) [(nm, 1)]) (.cons (.c (.int 0)) .nil)))) .nil)
theorem deck_ok {G : List D} {C : Nat → List D → Sto → Out D} {wf : Nat} {nm : Str} {S : Sto} {ns : List Int} (hl : ns.length ≤ 63) :
    ∃ S', fnEnd (dSs G C wf (deckB nm) (slots0 2 [.fro (ns.map .int)]) S) = .ok (.loc (S.length + 1)) S' ∧ S'.length = S.length + 2 ∧ Dk S' S.length (S.length + 1) 0 ∧ ∀ c, c < S.length → S'[c]? = S[c]? := by
  have hc : cutG (ns.map D.int) none (some 63) = ns.map D.int := by
    have e : HT.sIx (ns.map D.int).length (ns.map D.int).length (some 63) = ns.length := by
      show min (63 : Int).toNat _ = _
      rw [List.length_map]; omega
    have e0 : HT.sIx (ns.map D.int).length 0 none = 0 := rfl
    unfold cutG
    rw [e, e0]
    simp only [List.drop_zero, Nat.sub_zero]
    exact List.take_of_length_le (by simp)
  have hsl : slP S (.fro (ns.map .int)) none (some 63) = some (.lst (ns.map .int)) := by
    simp [slP, asLF, hc]
  have hlc : lcGo (.vals (ns.map D.int)) (gNm 1) mYes (dE G C (.bf .abs (.cons (.v 1) .nil))) [some (.fro (ns.map .int)), none] (ns.map D.int).length 0 [] S = .ok (ns.map fun i => .int (if i < 0 then -i else i)) S := by
    rw [lc_pure (p := fun _ => true) (h := fun d => match d with | .int i => .int (if i < 0 then -i else i) | d => d) (fun d hd => ?_) _ 0 [] (by simp) (by simp; omega)]
    · rw [List.drop_zero, List.filter_eq_self.mpr fun _ _ => rfl, List.map_map]; rfl
    · obtain ⟨i, _, rfl⟩ := List.mem_map.mp hd
      exact ⟨_, rfl, rfl, fun _ => by simp⟩
  refine ⟨S ++ [.lst (ns.map fun i => .int (if i < 0 then -i else i))] ++ [.lst [.loc S.length, .int 0]], ?_, by simp, ⟨by omega, ⟨ns.map fun i => if i < 0 then -i else i, by simp, fun x hx => ?_⟩, by simp⟩, fun c hc => ?_⟩
  · have hw : wipeD [some (D.fro (ns.map .int)), none] [1] = [some (.fro (ns.map .int)), none] := rfl
    simp only [q_ebf, q_bfabs] at hlc
    simp [deckB, slots0, hsl, srcOf, hw, hlc, fnEnd]
    simp [q_lcons, q_lnil, q_ev] at hlc
    simp [hlc]
  · obtain ⟨i, _, rfl⟩ := List.mem_map.mp hx
    split <;> omega
  · rw [List.getElem?_append_left (by simp; omega), List.getElem?_append_left hc]
end Z

/-! Z layer, part R: frames, draws by name of the def, changes of the store. -/
namespace Z
open PySem PySem.Spec PyProof.Rows L2
theorem app_ok {o : M D} {a : M (List D)} {sd : Sl} {S S2 : Sto} {n : Nat} {xs xs0 : List D} {y : D} (h1 : o sd S = .ok (.loc n) S) (h0 : S[n]? = some (.lst xs0)) (h2 : a sd S = .ok [y] S2) (h3 : S2[n]? = some (.lst xs)) (hl : xs.length < 16777216) :
    mApp o a sd S = .ok .non (S2.set n (.lst (xs ++ [y]))) := by
  unfold mApp; simp [h1, h0, Out.bind, h2, h3, hl]
theorem ext_ok {o : M D} {a : M (List D)} {sd : Sl} {S S2 : Sto} {n : Nat} {xs xs0 zs : List D} {y : D} (h1 : o sd S = .ok (.loc n) S) (h0 : S[n]? = some (.lst xs0)) (h2 : a sd S = .ok [y] S2) (h3 : S2[n]? = some (.lst xs)) (h4 : asL S2 y = some zs) (hl : xs.length + zs.length ≤ 16777216) :
    mExt o a sd S = .ok .non (S2.set n (.lst (xs ++ zs))) := by
  unfold mExt; simp [h1, h0, Out.bind, h2, h3, h4, hl]
theorem par2_ok {i j : Nat} {a : M (List D)} {sd : Sl} {S S1 : Sto} {x y : D} (h : a sd S = .ok [x, y] S1) : mPar [i, j] a sd S = .ok .nx ((sd.set i (some x)).set j (some y)) S1 := by
  unfold mPar; rw [h]; rfl
theorem par3_ok {i j l : Nat} {a : M (List D)} {sd : Sl} {S S1 : Sto} {x y z : D} (h : a sd S = .ok [x, y, z] S1) : mPar [i, j, l] a sd S = .ok .nx (((sd.set i (some x)).set j (some y)).set l (some z)) S1 := by
  unfold mPar; rw [h]; rfl
/-- all but deck and the objects of m stay -/
structure Kp (S S' : Sto) (m : Nat → Prop) : Prop where
  len : S.length ≤ S'.length
  oth : ∀ c, 2 ≤ c → c < S.length → ¬ m c → S'[c]? = S[c]?
theorem Kp.refl (S : Sto) (m : Nat → Prop) : Kp S S m := ⟨Nat.le_refl _, fun _ _ _ _ => rfl⟩
theorem Kp.trans {S S1 S2 : Sto} {m : Nat → Prop} (a : Kp S S1 m) (b : Kp S1 S2 m) : Kp S S2 m :=
  ⟨Nat.le_trans a.len b.len, fun c h1 h2 h3 => (b.oth c h1 (Nat.lt_of_lt_of_le h2 a.len) h3).trans (a.oth c h1 h2 h3)⟩
theorem Kp.more {S S1 : Sto} {m m' : Nat → Prop} (a : Kp S S1 m) (h : ∀ c, c < S.length → m c → m' c) : Kp S S1 m' := ⟨a.len, fun c h1 h2 h3 => a.oth c h1 h2 fun z => h3 (h c h2 z)⟩
theorem Kp.at {S S' : Sto} {m : Nat → Prop} (a : Kp S S' m) {c : Nat} {o : MO} (h : S[c]? = some o) (h2 : 2 ≤ c) (h3 : ¬ m c) : S'[c]? = some o := by
  rw [a.oth c h2 (List.getElem?_eq_some_iff.mp h).1 h3]; exact h
theorem Kp.set {S : Sto} {m : Nat → Prop} {c : Nat} {o : MO} (h : m c) : Kp S (S.set c o) m :=
  ⟨by simp, fun d h1 h2 h3 => List.getElem?_set_ne fun (e : c = d) => h3 (by rw [← e]; exact h)⟩
theorem Kp.push {S : Sto} {m : Nat → Prop} {l : List MO} : Kp S (S ++ l) m := ⟨by simp, fun c _ h2 _ => List.getElem?_append_left h2⟩
theorem Dk.set {S : Sto} {n : Int} {c : Nat} {o : MO} (h : Dk S 0 1 n) (hc : 2 ≤ c) : Dk (S.set c o) 0 1 n := by
  obtain ⟨ne, ⟨xs, h1, h2⟩, h3⟩ := h
  exact ⟨ne, ⟨xs, by rw [List.getElem?_set_ne (by omega)]; exact h1, h2⟩, by rw [List.getElem?_set_ne (by omega)]; exact h3⟩
theorem Dk.push {S : Sto} {n : Int} {l : List MO} (h : Dk S 0 1 n) : Dk (S ++ l) 0 1 n := by
  obtain ⟨ne, ⟨xs, h1, h2⟩, h3⟩ := h
  exact ⟨ne, ⟨xs, by rw [List.getElem?_append_left (List.getElem?_eq_some_iff.mp h1).1]; exact h1, h2⟩, by rw [List.getElem?_append_left (List.getElem?_eq_some_iff.mp h3).1]; exact h3⟩
theorem Dk.len {S : Sto} {n : Int} (h : Dk S 0 1 n) : 2 ≤ S.length := (List.getElem?_eq_some_iff.mp h.at_).1
theorem drwG {T : List Fn} {G : List D} {wf k f : Nat} {p q t u : Int} (hT : T[f]? = some ⟨2, 5, drawB p q t u⟩) (hp : 0 < p ∧ p < 1000000000000 ∧ 0 < q ∧ q < 1000000 ∧ 0 ≤ t ∧ t < 1000000 ∧ 0 < u) {S : Sto} {n : Int} {m : Nat} (h : Dk S 0 1 n) (hn : 0 ≤ n) (hn2 : n < 1000000) (hm : 0 < m) (hm2 : m < 1000000) :
    ∃ (r : Nat) (S' : Sto), run T G wf (k + 1) f [.loc 1, .int m] S = .ok (.int r) S' ∧ r < m ∧ Dk S' 0 1 (n + 1) ∧ ∀ X, Kp S S' X := by
  obtain ⟨p1, p2, p3, p4, p5, p6, p7⟩ := hp
  obtain ⟨r, S', h1, h2, h3, h4, h5⟩ := draw_ok (G := G) (C := run T G wf k) (wf := wf) (m := m) h hn (by omega) (by omega) (by omega) p1 p2 p3 p4 p5 p6 p7
  refine ⟨r.toNat, S', ?_, by omega, h4, fun X => ⟨Nat.le_of_eq h5.len.symm, fun c c1 c2 _ => h5.oth c (by omega) (by omega)⟩⟩
  rw [show ((r.toNat : Nat) : Int) = r by omega]
  exact (run_succ hT rfl).trans h1
def oneB (f : Nat) : Ss := (.cons (.ret (.ix (.v 1) (.call f (.cons (.v 0) (.cons (.bf .len (.cons (.v 1) .nil)) .nil))))) .nil)
theorem oneG {T : List Fn} {G : List D} {wf k f f1 : Nat} {p q t u : Int} (hT : T[f]? = some ⟨2, 5, drawB p q t u⟩) (hT1 : T[f1]? = some ⟨2, 2, oneB f⟩) (hp : 0 < p ∧ p < 1000000000000 ∧ 0 < q ∧ q < 1000000 ∧ 0 ≤ t ∧ t < 1000000 ∧ 0 < u) {S : Sto} {n : Int} {xs : List D} (h : Dk S 0 1 n) (hn : 0 ≤ n) (hn2 : n < 1000000) (hm : 0 < xs.length) (hm2 : xs.length < 1000000) :
    ∃ (d : D) (S' : Sto), run T G wf (k + 2) f1 [.loc 1, .lst xs] S = .ok d S' ∧ d ∈ xs ∧ Dk S' 0 1 (n + 1) ∧ ∀ X, Kp S S' X := by
  obtain ⟨r, S', h1, h2, h3, h4⟩ := drwG (wf := wf) (k := k) (G := G) hT hp h hn hn2 hm hm2
  refine ⟨xs[r], S', (run_succ hT1 rfl).trans ?_, List.getElem_mem h2, h3, h4⟩
  have ln : lenD S (.lst xs) = some (.int xs.length) := rfl
  have ix : ixP S' (.lst xs) (.int r) = some xs[r] := by
    show L2.atI xs (r : Int) = _
    rw [atI_in (by omega) (by omega)]
    exact List.getElem?_eq_getElem h2
  simp [oneB, slots0, fnEnd, ln, h1, ix]
/-- items in the store -/
theorem oneL {T : List Fn} {G : List D} {wf k f f1 : Nat} {p q t u : Int} (hT : T[f]? = some ⟨2, 5, drawB p q t u⟩) (hT1 : T[f1]? = some ⟨2, 2, oneB f⟩) (hp : 0 < p ∧ p < 1000000000000 ∧ 0 < q ∧ q < 1000000 ∧ 0 ≤ t ∧ t < 1000000 ∧ 0 < u) {S : Sto} {n : Int} {c : Nat} {xs : List D} (h : Dk S 0 1 n) (hn : 0 ≤ n) (hn2 : n < 1000000) (hc : S[c]? = some (.lst xs)) (hc2 : 2 ≤ c) (hm : 0 < xs.length) (hm2 : xs.length < 1000000) :
    ∃ (d : D) (S' : Sto), run T G wf (k + 2) f1 [.loc 1, .loc c] S = .ok d S' ∧ d ∈ xs ∧ Dk S' 0 1 (n + 1) ∧ ∀ X, Kp S S' X := by
  obtain ⟨r, S', h1, h2, h3, h4⟩ := drwG (wf := wf) (k := k) (G := G) hT hp h hn hn2 hm hm2
  refine ⟨xs[r], S', (run_succ hT1 rfl).trans ?_, List.getElem_mem h2, h3, h4⟩
  have ln : lenD S (.loc c) = some (.int xs.length) := len_loc hc
  have ix : ixP S' (.loc c) (.int r) = some xs[r] := by
    rw [ix_loc ((h4 fun _ => False).at hc hc2 id) (by omega) (by omega)]
    exact List.getElem?_eq_getElem h2
  simp [oneB, slots0, fnEnd, ln, h1, ix]
end Z

namespace K21
open PySem PySem.Spec PyProof.Rows L2 Z
abbrev pw : PySem.Program := PySem.Challenge.pw_steadytime_k21_programs_with_errors
def topS (i : Nat) : Stmt := pw.main.body.getD i (.Pass ⟨0, 0, 0, 0⟩)
def gl : List (Str × D) := [("MAX_NUMBER", (.int 9)), ("MAX_LETTERS", (.int 3)), ("MAX_WORKS", (.int 5)), ("MAX_CELLS", (.int 4)), ("MAX_SIZE", (.int 4)), ("MAX_STANDS", (.int 24)), ("MAX_PARTS", (.int 400)), ("MAX_LEVEL", (.int 12)), ("KNOWN", (.str "known")), ("SECRET", (.str "secret")), ("OPERATORS", (.tup [(.str "plus"), (.str "times"), (.str "less"), (.str "same")]))]
def b_is_integer : Ss := (.cons (.ret (.bo .And (.cons (.isi (.v 0) .int) (.cons (.not (.isi (.v 0) .bool)) (.cons (.ch .LtE .LtE (.v 1) (.v 0) (.v 2)) .nil))))) .nil)
def r_is_integer : Z.Row := ⟨"is_integer", ["value", "least", "most"], ["value", "least", "most"], ⟨3, 3, b_is_integer⟩, topS 12⟩
def b_is_tuple : Ss := (.cons (.ret (.bo .And (.cons (.isi (.v 0) .tuple) (.cons (.cmp .Eq (.bf .len (.cons (.v 0) .nil)) (.v 2)) (.cons (.isi (.ix (.v 0) (.c (.int 0))) .str) (.cons (.cmp .Eq (.ix (.v 0) (.c (.int 0))) (.v 1)) .nil)))))) .nil)
def r_is_tuple : Z.Row := ⟨"is_tuple", ["value", "word", "size"], ["value", "word", "size"], ⟨3, 3, b_is_tuple⟩, topS 13⟩
def b_is_cell : Ss := (.cons (.ret (.call 0 (.cons (.v 0) (.cons (.c (.int 0)) (.cons (.op .Sub (.v 1) (.c (.int 1))) .nil))))) .nil)
def r_is_cell : Z.Row := ⟨"is_cell", ["value", "many"], ["value", "many"], ⟨2, 2, b_is_cell⟩, topS 14⟩
def b_is_sum : Ss := (.cons (.ite (.cmp .Gt (.v 2) (.g 7)) (.cons (.ret (.c (.bl false))) .nil) .nil) (.cons (.ite (.tru (.isi (.v 0) .str)) (.cons (.ret (.cmp .In (.v 0) (.tup (.cons (.g 8) (.cons (.g 9) .nil))))) .nil) .nil) (.cons (.ite (.not (.tru (.isi (.v 0) .tuple))) (.cons (.ret (.call 0 (.cons (.v 0) (.cons (.c (.int 0)) (.cons (.g 0) .nil))))) .nil) .nil) (.cons (.ite (.tru (.call 1 (.cons (.v 0) (.cons (.c (.str "cell")) (.cons (.c (.int 2)) .nil))))) (.cons (.ret (.call 2 (.cons (.ix (.v 0) (.c (.int 1))) (.cons (.v 1) .nil)))) .nil) .nil) (.cons (.ite (.bo .Or (.cons (.cmp .NotEq (.bf .len (.cons (.v 0) .nil)) (.c (.int 3))) (.cons (.not (.tru (.isi (.ix (.v 0) (.c (.int 0))) .str))) (.cons (.cmp .NotIn (.ix (.v 0) (.c (.int 0))) (.g 10)) .nil)))) (.cons (.ret (.c (.bl false))) .nil) .nil) (.cons (.ret (.bo .And (.cons (.call 3 (.cons (.ix (.v 0) (.c (.int 1))) (.cons (.v 1) (.cons (.op .Add (.v 2) (.c (.int 1))) .nil)))) (.cons (.call 3 (.cons (.ix (.v 0) (.c (.int 2))) (.cons (.v 1) (.cons (.op .Add (.v 2) (.c (.int 1))) .nil)))) .nil)))) .nil))))))
def r_is_sum : Z.Row := ⟨"is_sum", ["value", "many", "level"], ["value", "many", "level"], ⟨3, 3, b_is_sum⟩, topS 15⟩
def b_is_statement : Ss := (.cons (.ite (.cmp .Gt (.v 3) (.g 7)) (.cons (.ret (.c (.bl false))) .nil) .nil) (.cons (.ite (.tru (.call 1 (.cons (.v 0) (.cons (.c (.str "do")) (.cons (.c (.int 2)) .nil))))) (.cons (.ret (.call 0 (.cons (.ix (.v 0) (.c (.int 1))) (.cons (.c (.int 0)) (.cons (.op .Sub (.v 1) (.c (.int 1))) .nil))))) .nil) .nil) (.cons (.ite (.tru (.call 1 (.cons (.v 0) (.cons (.c (.str "set")) (.cons (.c (.int 3)) .nil))))) (.cons (.ret (.bo .And (.cons (.call 2 (.cons (.ix (.v 0) (.c (.int 1))) (.cons (.v 2) .nil))) (.cons (.call 3 (.cons (.ix (.v 0) (.c (.int 2))) (.cons (.v 2) (.cons (.op .Add (.v 3) (.c (.int 1))) .nil)))) .nil)))) .nil) .nil) (.cons (.ite (.tru (.call 1 (.cons (.v 0) (.cons (.c (.str "if")) (.cons (.c (.int 4)) .nil))))) (.cons (.ite (.not (.tru (.call 3 (.cons (.ix (.v 0) (.c (.int 1))) (.cons (.v 2) (.cons (.op .Add (.v 3) (.c (.int 1))) .nil)))))) (.cons (.ret (.c (.bl false))) .nil) .nil) (.cons (.ret (.bo .And (.cons (.call 5 (.cons (.ix (.v 0) (.c (.int 2))) (.cons (.v 1) (.cons (.v 2) (.cons (.op .Add (.v 3) (.c (.int 1))) .nil))))) (.cons (.call 5 (.cons (.ix (.v 0) (.c (.int 3))) (.cons (.v 1) (.cons (.v 2) (.cons (.op .Add (.v 3) (.c (.int 1))) .nil))))) .nil)))) .nil)) .nil) (.cons (.ret (.call 1 (.cons (.v 0) (.cons (.c (.str "stop")) (.cons (.c (.int 1)) .nil))))) .nil)))))
def r_is_statement : Z.Row := ⟨"is_statement", ["value", "works", "many", "level"], ["value", "works", "many", "level"], ⟨4, 4, b_is_statement⟩, topS 16⟩
def b_is_block : Ss := (.cons (.ite (.not (.tru (.isi (.v 0) .tuple))) (.cons (.ret (.c (.bl false))) .nil) .nil) (.cons (.ret (.cmp .Eq (.lc false (.nm 4) (.seq (.v 0)) (.some (.not (.tru (.call 4 (.cons (.v 4) (.cons (.v 1) (.cons (.v 2) (.cons (.v 3) .nil)))))))) (.v 4) [("one", 4)]) (.lst false .nil))) .nil))
def r_is_block : Z.Row := ⟨"is_block", ["value", "works", "many", "level"], ["value", "works", "many", "level", "one"], ⟨4, 5, b_is_block⟩, topS 17⟩
def b_are_cells : Ss := (.cons (.ite (.bo .Or (.cons (.not (.tru (.isi (.v 0) .tuple))) (.cons (.not (.ch .LtE .LtE (.c (.int 1)) (.bf .len (.cons (.v 0) .nil)) (.g 3))) .nil))) (.cons (.ret (.c (.bl false))) .nil) .nil) (.cons (.ite (.cmp .NotEq (.lc false (.nm 1) (.seq (.v 0)) (.some (.not (.tru (.call 0 (.cons (.v 1) (.cons (.c (.int 2)) (.cons (.g 4) .nil))))))) (.v 1) [("size", 1)]) (.lst false .nil)) (.cons (.ret (.c (.bl false))) .nil) .nil) (.cons (.ret (.cmp .LtE (.call 7 (.cons (.v 0) .nil)) (.g 5))) .nil)))
def r_are_cells : Z.Row := ⟨"are_cells", ["value"], ["value", "size"], ⟨1, 2, b_are_cells⟩, topS 18⟩
def b_stands_of : Ss := (.cons (.asg (.nm 1) (.c (.int 1))) (.cons (.for_ (.nm 2) (.seq (.v 0)) (.cons (.aug 1 .Mult (.v 2)) .nil)) (.cons (.ret (.v 1)) .nil)))
def r_stands_of : Z.Row := ⟨"stands_of", ["cells"], ["cells", "found", "size"], ⟨1, 3, b_stands_of⟩, topS 19⟩
def b_sum_parts : Ss := (.cons (.ite (.bo .And (.cons (.tru (.isi (.v 0) .tuple)) (.cons (.cmp .Eq (.bf .len (.cons (.v 0) .nil)) (.c (.int 3))) .nil))) (.cons (.ret (.op .Add (.op .Add (.c (.int 1)) (.call 8 (.cons (.ix (.v 0) (.c (.int 1))) .nil))) (.call 8 (.cons (.ix (.v 0) (.c (.int 2))) .nil)))) .nil) .nil) (.cons (.ret (.c (.int 1))) .nil))
def r_sum_parts : Z.Row := ⟨"sum_parts", ["value"], ["value"], ⟨1, 1, b_sum_parts⟩, topS 20⟩
def b_block_parts : Ss := (.cons (.asg (.nm 1) (.c (.int 0))) (.cons (.for_ (.nm 2) (.seq (.v 0)) (.cons (.aug 1 .Add (.c (.int 1))) (.cons (.ite (.cmp .Eq (.ix (.v 2) (.c (.int 0))) (.c (.str "set"))) (.cons (.aug 1 .Add (.call 8 (.cons (.ix (.v 2) (.c (.int 2))) .nil))) .nil) (.cons (.ite (.cmp .Eq (.ix (.v 2) (.c (.int 0))) (.c (.str "if"))) (.cons (.aug 1 .Add (.op .Add (.op .Add (.call 8 (.cons (.ix (.v 2) (.c (.int 1))) .nil)) (.call 9 (.cons (.ix (.v 2) (.c (.int 2))) .nil))) (.call 9 (.cons (.ix (.v 2) (.c (.int 3))) .nil)))) .nil) .nil) .nil)) .nil))) (.cons (.ret (.v 1)) .nil)))
def r_block_parts : Z.Row := ⟨"block_parts", ["block"], ["block", "found", "statement"], ⟨1, 3, b_block_parts⟩, topS 21⟩
def b_parts : Ss := (.cons (.ret (.op .Add (.call 9 (.cons (.ix (.v 0) (.c (.int 4))) .nil)) (.call 9 (.cons (.ix (.v 0) (.c (.int 5))) .nil)))) .nil)
def r_parts : Z.Row := ⟨"parts", ["program"], ["program"], ⟨1, 1, b_parts⟩, topS 22⟩
def b_program_error : Ss := (.cons (.ite (.bo .Or (.cons (.not (.tru (.isi (.v 0) .tuple))) (.cons (.cmp .NotEq (.bf .len (.cons (.v 0) .nil)) (.c (.int 6))) .nil))) (.cons (.ret (.c (.str "program"))) .nil) .nil) (.cons (.asg (.tup (.cons (.nm 1) (.cons (.nm 2) (.cons (.nm 3) (.cons (.nm 4) (.cons (.nm 5) (.cons (.nm 6) .nil))))))) (.v 0)) (.cons (.ite (.bo .Or (.cons (.not (.tru (.call 0 (.cons (.v 1) (.cons (.c (.int 1)) (.cons (.g 1) .nil)))))) (.cons (.not (.tru (.call 0 (.cons (.v 2) (.cons (.c (.int 1)) (.cons (.g 1) .nil)))))) .nil))) (.cons (.ret (.c (.str "letters"))) .nil) .nil) (.cons (.ite (.not (.tru (.call 0 (.cons (.v 3) (.cons (.c (.int 1)) (.cons (.g 2) .nil)))))) (.cons (.ret (.c (.str "works"))) .nil) .nil) (.cons (.ite (.not (.tru (.call 6 (.cons (.v 4) .nil)))) (.cons (.ret (.c (.str "cells"))) .nil) .nil) (.cons (.ite (.not (.tru (.call 5 (.cons (.v 5) (.cons (.v 3) (.cons (.bf .len (.cons (.v 4) .nil)) (.cons (.c (.int 1)) .nil))))))) (.cons (.ret (.c (.str "body"))) .nil) .nil) (.cons (.ite (.not (.tru (.call 5 (.cons (.v 6) (.cons (.v 3) (.cons (.bf .len (.cons (.v 4) .nil)) (.cons (.c (.int 1)) .nil))))))) (.cons (.ret (.c (.str "tail"))) .nil) .nil) (.cons (.ret (.ifx (.cmp .Gt (.call 10 (.cons (.v 0) .nil)) (.g 6)) (.c (.str "parts")) (.c .non))) .nil))))))))
def r_program_error : Z.Row := ⟨"program_error", ["value"], ["value", "known", "secret", "works", "cells", "body", "tail"], ⟨1, 7, b_program_error⟩, topS 23⟩
def b_law_deck : Ss := (.cons (.ret (.lst true (.cons (.lc true (.nm 1) (.seq (.sl (.v 0) .none (.some (.c (.int 63))))) .none (.bf .abs (.cons (.v 1) .nil)) [("_law_cell", 1)]) (.cons (.c (.int 0)) .nil)))) .nil)
def r_law_deck : Z.Row := ⟨"_law_deck", ["_law_script"], ["_law_script", "_law_cell"], ⟨1, 2, b_law_deck⟩, topS 25⟩
def b_law_draw : Ss := (.cons (.asg (.sub (.v 0) (.c (.int 1))) (.op .Add (.ix (.v 0) (.c (.int 1))) (.c (.int 1)))) (.cons (.asg (.tup (.cons (.nm 3) (.cons (.nm 4) .nil))) (.tup (.cons (.c (.int 0)) (.cons (.neg (.c (.int 1))) .nil)))) (.cons (.ite (.cmp .Gt (.bf .len (.cons (.ix (.v 0) (.c (.int 0))) .nil)) (.c (.int 0))) (.cons (.asg (.nm 4) (.op .Mod (.bf .int (.cons (.ix (.v 0) (.c (.int 1))) .nil)) (.bf .len (.cons (.ix (.v 0) (.c (.int 0))) .nil)))) (.cons (.asg (.nm 3) (.ix (.ix (.v 0) (.c (.int 0))) (.v 4))) .nil)) .nil) (.cons (.ite (.cmp .GtE (.v 3) (.op .Pow (.c (.int 10)) (.c (.int 18)))) (.cons (.asg (.sub (.ix (.v 0) (.c (.int 0))) (.v 4)) (.op .FloorDiv (.bf .int (.cons (.v 3) .nil)) (.v 1))) (.cons (.ret (.op .Mod (.bf .int (.cons (.v 3) .nil)) (.v 1))) .nil)) .nil) (.cons (.asg (.nm 2) (.op .Add (.op .Add (.op .Mod (.bf .int (.cons (.v 3) .nil)) (.c (.int 2147483477))) (.op .Mult (.c (.int 6833)) (.ix (.v 0) (.c (.int 1))))) (.c (.int 17)))) (.cons (.ret (.op .Mod (.bf .int (.cons (.op .Mod (.bf .int (.cons (.op .Pow (.v 2) (.c (.int 5))) .nil)) (.c (.int 2147483543))) .nil)) (.v 1))) .nil))))))
def r_law_draw : Z.Row := ⟨"_law_draw", ["_law_deck_here", "_law_most"], ["_law_deck_here", "_law_most", "_law_mixed", "_law_cell", "_law_at"], ⟨2, 5, b_law_draw⟩, topS 26⟩
def b_law_one : Ss := (.cons (.ret (.ix (.v 1) (.call 13 (.cons (.v 0) (.cons (.bf .len (.cons (.v 1) .nil)) .nil))))) .nil)
def r_law_one : Z.Row := ⟨"_law_one", ["_law_deck_here", "_law_items"], ["_law_deck_here", "_law_items"], ⟨2, 2, b_law_one⟩, topS 27⟩
def b_law_sum : Ss := (.cons (.asg (.nm 3) (.call 13 (.cons (.v 0) (.cons (.ifx (.cmp .Gt (.v 2) (.c (.int 0))) (.c (.int 6)) (.c (.int 4))) .nil)))) (.cons (.ite (.cmp .Lt (.v 3) (.c (.int 2))) (.cons (.ret (.call 14 (.cons (.v 0) (.cons (.lst false (.cons (.c (.str "known")) (.cons (.c (.str "secret")) (.cons (.c (.str "secret")) .nil)))) .nil)))) .nil) .nil) (.cons (.ite (.cmp .Eq (.v 3) (.c (.int 2))) (.cons (.ret (.call 13 (.cons (.v 0) (.cons (.c (.int 4)) .nil)))) .nil) .nil) (.cons (.ite (.cmp .Eq (.v 3) (.c (.int 3))) (.cons (.ret (.tup (.cons (.c (.str "cell")) (.cons (.call 13 (.cons (.v 0) (.cons (.v 1) .nil))) .nil)))) .nil) .nil) (.cons (.asg (.nm 4) (.call 14 (.cons (.v 0) (.cons (.lst false (.cons (.c (.str "plus")) (.cons (.c (.str "times")) (.cons (.c (.str "less")) (.cons (.c (.str "same")) (.cons (.c (.str "same")) (.cons (.c (.str "less")) .nil))))))) .nil)))) (.cons (.ret (.tup (.cons (.v 4) (.cons (.call 15 (.cons (.v 0) (.cons (.v 1) (.cons (.op .Sub (.v 2) (.c (.int 1))) .nil)))) (.cons (.call 15 (.cons (.v 0) (.cons (.v 1) (.cons (.op .Sub (.v 2) (.c (.int 1))) .nil)))) .nil))))) .nil))))))
def r_law_sum : Z.Row := ⟨"_law_sum", ["_law_deck_here", "_law_wide_here", "_law_depth"], ["_law_deck_here", "_law_wide_here", "_law_depth", "_law_way", "_law_word"], ⟨3, 5, b_law_sum⟩, topS 28⟩
def b_law_block : Ss := (.cons (.asg (.nm 4) (.lst true .nil)) (.cons (.for_ (.nm 5) (.rng1 (.cons (.call 13 (.cons (.v 0) (.cons (.c (.int 4)) .nil))) .nil)) (.cons (.ite (.cmp .Gt (.ix (.v 2) (.c (.int 0))) (.c (.int 0))) (.cons (.asg (.sub (.v 2) (.c (.int 0))) (.op .Sub (.ix (.v 2) (.c (.int 0))) (.c (.int 1)))) (.cons (.asg (.nm 6) (.call 13 (.cons (.v 0) (.cons (.ifx (.cmp .Gt (.v 3) (.c (.int 0))) (.c (.int 8)) (.c (.int 5))) .nil)))) (.cons (.ite (.cmp .Lt (.v 6) (.c (.int 3))) (.cons (.ex (.app (.v 4) (.cons (.tup (.cons (.c (.str "do")) (.cons (.call 13 (.cons (.v 0) (.cons (.ix (.v 1) (.c (.int 0))) .nil))) .nil))) .nil))) .nil) (.cons (.ite (.cmp .Lt (.v 6) (.c (.int 5))) (.cons (.ex (.app (.v 4) (.cons (.tup (.cons (.c (.str "set")) (.cons (.call 13 (.cons (.v 0) (.cons (.ix (.v 1) (.c (.int 1))) .nil))) (.cons (.call 15 (.cons (.v 0) (.cons (.ix (.v 1) (.c (.int 1))) (.cons (.c (.int 1)) .nil)))) .nil)))) .nil))) .nil) (.cons (.ite (.bo .And (.cons (.cmp .Eq (.v 6) (.c (.int 7))) (.cons (.cmp .Eq (.v 3) (.c (.int 2))) (.cons (.cmp .Eq (.call 13 (.cons (.v 0) (.cons (.c (.int 2)) .nil))) (.c (.int 0))) .nil)))) (.cons (.ex (.app (.v 4) (.cons (.tup (.cons (.c (.str "stop")) .nil)) .nil))) .nil) (.cons (.asg (.nm 7) (.call 15 (.cons (.v 0) (.cons (.ix (.v 1) (.c (.int 1))) (.cons (.c (.int 1)) .nil))))) (.cons (.asg (.nm 8) (.call 16 (.cons (.v 0) (.cons (.v 1) (.cons (.v 2) (.cons (.op .Sub (.v 3) (.c (.int 1))) .nil)))))) (.cons (.ite (.cmp .Eq (.call 13 (.cons (.v 0) (.cons (.c (.int 6)) .nil))) (.c (.int 0))) (.cons (.asg (.nm 8) (.op .Add (.v 8) (.tup (.cons (.tup (.cons (.c (.str "stop")) .nil)) .nil)))) .nil) .nil) (.cons (.ex (.app (.v 4) (.cons (.tup (.cons (.c (.str "if")) (.cons (.v 7) (.cons (.v 8) (.cons (.call 16 (.cons (.v 0) (.cons (.v 1) (.cons (.v 2) (.cons (.op .Sub (.v 3) (.c (.int 1))) .nil))))) .nil))))) .nil))) .nil))))) .nil)) .nil)) .nil))) .nil) .nil)) (.cons (.ret (.bf .tup (.cons (.v 4) .nil))) .nil)))
def r_law_block : Z.Row := ⟨"_law_block", ["_law_deck_here", "_law_shape", "_law_room", "_law_depth"], ["_law_deck_here", "_law_shape", "_law_room", "_law_depth", "_law_found", "_law_turn", "_law_way", "_law_test", "_law_yes"], ⟨4, 9, b_law_block⟩, topS 29⟩
def b_law_program : Ss := (.cons (.par [6, 7, 8] (.cons (.op .Add (.c (.int 1)) (.call 13 (.cons (.v 0) (.cons (.v 1) .nil)))) (.cons (.op .Add (.c (.int 1)) (.call 13 (.cons (.v 0) (.cons (.v 1) .nil)))) (.cons (.op .Add (.c (.int 1)) (.call 13 (.cons (.v 0) (.cons (.v 2) .nil)))) .nil)))) (.cons (.asg (.nm 3) (.call 14 (.cons (.v 0) (.cons (.lst false (.cons (.tup (.cons (.c (.int 2)) .nil)) (.cons (.tup (.cons (.c (.int 3)) .nil)) (.cons (.tup (.cons (.c (.int 2)) (.cons (.c (.int 2)) .nil))) (.cons (.tup (.cons (.c (.int 4)) .nil)) (.cons (.tup (.cons (.c (.int 2)) (.cons (.c (.int 3)) .nil))) .nil)))))) .nil)))) (.cons (.asg (.nm 4) (.lst false (.cons (.v 8) (.cons (.bf .len (.cons (.v 3) .nil)) .nil)))) (.cons (.asg (.nm 5) (.call 16 (.cons (.v 0) (.cons (.v 4) (.cons (.lst true (.cons (.c (.int 10)) .nil)) (.cons (.c (.int 2)) .nil)))))) (.cons (.ite (.cmp .Gt (.call 13 (.cons (.v 0) (.cons (.c (.int 3)) .nil))) (.c (.int 0))) (.cons (.asg (.nm 5) (.op .Add (.v 5) (.tup (.cons (.tup (.cons (.c (.str "if")) (.cons (.call 14 (.cons (.v 0) (.cons (.lst false (.cons (.c (.str "secret")) (.cons (.tup (.cons (.c (.str "same")) (.cons (.c (.str "known")) (.cons (.c (.str "secret")) .nil)))) (.cons (.tup (.cons (.c (.str "cell")) (.cons (.c (.int 0)) .nil))) .nil)))) .nil))) (.cons (.tup (.cons (.tup (.cons (.c (.str "do")) (.cons (.c (.int 0)) .nil))) .nil)) (.cons (.tup .nil) .nil))))) .nil)))) .nil) .nil) (.cons (.ret (.tup (.cons (.v 6) (.cons (.v 7) (.cons (.v 8) (.cons (.v 3) (.cons (.v 5) (.cons (.call 16 (.cons (.v 0) (.cons (.v 4) (.cons (.lst true (.cons (.c (.int 4)) .nil)) (.cons (.c (.int 1)) .nil))))) .nil)))))))) .nil))))))
def r_law_program : Z.Row := ⟨"_law_program", ["_law_deck_here", "_law_letters", "_law_works"], ["_law_deck_here", "_law_letters", "_law_works", "_law_cells", "_law_shape", "_law_body", "_law_known", "_law_secret", "_law_wide_here"], ⟨3, 9, b_law_program⟩, topS 30⟩
def b_law_wide : Ss := (.cons (.par [6, 7] (.cons (.call 14 (.cons (.v 0) (.cons (.v 1) .nil))) (.cons (.op .Add (.c (.int 1)) (.call 13 (.cons (.v 0) (.cons (.c (.int 5)) .nil)))) .nil))) (.cons (.asg (.nm 3) (.lst false (.cons (.v 7) (.cons (.bf .len (.cons (.v 6) .nil)) .nil)))) (.cons (.asg (.nm 4) (.call 16 (.cons (.v 0) (.cons (.v 3) (.cons (.lst true (.cons (.c (.int 10)) .nil)) (.cons (.c (.int 2)) .nil)))))) (.cons (.par [8, 9] (.cons (.op .Add (.c (.int 1)) (.call 13 (.cons (.v 0) (.cons (.v 2) .nil)))) (.cons (.op .Add (.c (.int 1)) (.call 13 (.cons (.v 0) (.cons (.v 2) .nil)))) .nil))) (.cons (.asg (.nm 5) (.tup (.cons (.c (.str "if")) (.cons (.tup (.cons (.c (.str "same")) (.cons (.tup (.cons (.c (.str "cell")) (.cons (.op .Sub (.bf .len (.cons (.v 6) .nil)) (.c (.int 1))) .nil))) (.cons (.c (.str "secret")) .nil)))) (.cons (.tup (.cons (.tup (.cons (.c (.str "do")) (.cons (.c (.int 0)) .nil))) .nil)) (.cons (.tup .nil) .nil)))))) (.cons (.ret (.tup (.cons (.v 8) (.cons (.v 9) (.cons (.v 7) (.cons (.v 6) (.cons (.op .Add (.v 4) (.tup (.cons (.v 5) .nil))) (.cons (.call 16 (.cons (.v 0) (.cons (.v 3) (.cons (.lst true (.cons (.c (.int 4)) .nil)) (.cons (.c (.int 1)) .nil))))) .nil)))))))) .nil))))))
def r_law_wide : Z.Row := ⟨"_law_wide", ["_law_deck_here", "_law_some", "_law_letters"], ["_law_deck_here", "_law_some", "_law_letters", "_law_shape", "_law_body", "_law_look", "_law_cells", "_law_works", "_law_known", "_law_secret"], ⟨3, 10, b_law_wide⟩, topS 31⟩
def b_law_whole : Ss := (.cons (.ret (.bo .And (.cons (.isi (.v 0) .int) (.cons (.not (.isi (.v 0) .bool)) (.cons (.ch .LtE .LtE (.v 1) (.v 0) (.v 2)) .nil))))) .nil)
def r_law_whole : Z.Row := ⟨"_law_whole", ["_law_value", "_law_least", "_law_most"], ["_law_value", "_law_least", "_law_most"], ⟨3, 3, b_law_whole⟩, topS 32⟩
def b_law_is_sum : Ss := (.cons (.ite (.bo .Or (.cons (.cmp .Gt (.v 2) (.c (.int 12))) (.cons (.tru (.isiT (.v 0) .str .int)) .nil))) (.cons (.ret (.bo .And (.cons (.cmp .LtE (.v 2) (.c (.int 12))) (.cons (.ifx (.tru (.isi (.v 0) .str)) (.cmp .In (.v 0) (.tup (.cons (.c (.str "known")) (.cons (.c (.str "secret")) .nil)))) (.call 19 (.cons (.v 0) (.cons (.c (.int 0)) (.cons (.c (.int 9)) .nil))))) .nil)))) .nil) .nil) (.cons (.ite (.bo .Or (.cons (.not (.tru (.isi (.v 0) .tuple))) (.cons (.cmp .Eq (.v 0) (.tup .nil)) (.cons (.not (.tru (.isi (.ix (.v 0) (.c (.int 0))) .str))) .nil)))) (.cons (.ret (.c (.bl false))) .nil) .nil) (.cons (.ite (.cmp .Eq (.ix (.v 0) (.c (.int 0))) (.c (.str "cell"))) (.cons (.ret (.bo .And (.cons (.cmp .Eq (.bf .len (.cons (.v 0) .nil)) (.c (.int 2))) (.cons (.call 19 (.cons (.ix (.v 0) (.c (.int 1))) (.cons (.c (.int 0)) (.cons (.op .Sub (.v 1) (.c (.int 1))) .nil)))) .nil)))) .nil) .nil) (.cons (.ite (.bo .Or (.cons (.cmp .NotEq (.bf .len (.cons (.v 0) .nil)) (.c (.int 3))) (.cons (.cmp .NotIn (.ix (.v 0) (.c (.int 0))) (.tup (.cons (.c (.str "plus")) (.cons (.c (.str "times")) (.cons (.c (.str "less")) (.cons (.c (.str "same")) .nil)))))) .nil))) (.cons (.ret (.c (.bl false))) .nil) .nil) (.cons (.ret (.cmp .Eq (.lc false (.nm 3) (.seq (.sl (.v 0) (.some (.c (.int 1))) .none)) (.some (.not (.tru (.call 20 (.cons (.v 3) (.cons (.v 1) (.cons (.op .Add (.v 2) (.c (.int 1))) .nil))))))) (.v 3) [("_law_one_here", 3)]) (.lst false .nil))) .nil)))))
def r_law_is_sum : Z.Row := ⟨"_law_is_sum", ["_law_value", "_law_wide_here", "_law_level"], ["_law_value", "_law_wide_here", "_law_level", "_law_one_here"], ⟨3, 4, b_law_is_sum⟩, topS 33⟩
def b_law_is_statement : Ss := (.cons (.ite (.bo .Or (.cons (.cmp .Gt (.v 2) (.c (.int 12))) (.cons (.not (.tru (.isi (.v 0) .tuple))) (.cons (.cmp .Eq (.v 0) (.tup .nil)) (.cons (.not (.tru (.isi (.ix (.v 0) (.c (.int 0))) .str))) .nil))))) (.cons (.ret (.c (.bl false))) .nil) .nil) (.cons (.ite (.cmp .Eq (.ix (.v 0) (.c (.int 0))) (.c (.str "do"))) (.cons (.ret (.bo .And (.cons (.cmp .Eq (.bf .len (.cons (.v 0) .nil)) (.c (.int 2))) (.cons (.call 19 (.cons (.ix (.v 0) (.c (.int 1))) (.cons (.c (.int 0)) (.cons (.op .Sub (.ix (.v 1) (.c (.int 0))) (.c (.int 1))) .nil)))) .nil)))) .nil) .nil) (.cons (.ite (.cmp .Eq (.ix (.v 0) (.c (.int 0))) (.c (.str "set"))) (.cons (.ret (.bo .And (.cons (.cmp .Eq (.bf .len (.cons (.v 0) .nil)) (.c (.int 3))) (.cons (.call 19 (.cons (.ix (.v 0) (.c (.int 1))) (.cons (.c (.int 0)) (.cons (.op .Sub (.ix (.v 1) (.c (.int 1))) (.c (.int 1))) .nil)))) (.cons (.call 20 (.cons (.ix (.v 0) (.c (.int 2))) (.cons (.ix (.v 1) (.c (.int 1))) (.cons (.op .Add (.v 2) (.c (.int 1))) .nil)))) .nil))))) .nil) .nil) (.cons (.ite (.bo .Or (.cons (.cmp .NotEq (.ix (.v 0) (.c (.int 0))) (.c (.str "if"))) (.cons (.cmp .NotEq (.bf .len (.cons (.v 0) .nil)) (.c (.int 4))) .nil))) (.cons (.ret (.cmp .Eq (.v 0) (.tup (.cons (.c (.str "stop")) .nil)))) .nil) .nil) (.cons (.ite (.not (.tru (.call 20 (.cons (.ix (.v 0) (.c (.int 1))) (.cons (.ix (.v 1) (.c (.int 1))) (.cons (.op .Add (.v 2) (.c (.int 1))) .nil)))))) (.cons (.ret (.c (.bl false))) .nil) .nil) (.cons (.ret (.cmp .Eq (.lc false (.nm 3) (.seq (.sl (.v 0) (.some (.c (.int 2))) .none)) (.some (.not (.tru (.call 22 (.cons (.v 3) (.cons (.v 1) (.cons (.op .Add (.v 2) (.c (.int 1))) .nil))))))) (.v 3) [("_law_block_here", 3)]) (.lst false .nil))) .nil))))))
def r_law_is_statement : Z.Row := ⟨"_law_is_statement", ["_law_value", "_law_shape", "_law_level"], ["_law_value", "_law_shape", "_law_level", "_law_block_here"], ⟨3, 4, b_law_is_statement⟩, topS 34⟩
def b_law_is_block : Ss := (.cons (.ret (.bo .And (.cons (.isi (.v 0) .tuple) (.cons (.cmp .Eq (.lc false (.nm 3) (.seq (.v 0)) (.some (.not (.tru (.call 21 (.cons (.v 3) (.cons (.v 1) (.cons (.v 2) .nil))))))) (.v 3) [("_law_one_here", 3)]) (.lst false .nil)) .nil)))) .nil)
def r_law_is_block : Z.Row := ⟨"_law_is_block", ["_law_value", "_law_shape", "_law_level"], ["_law_value", "_law_shape", "_law_level", "_law_one_here"], ⟨3, 4, b_law_is_block⟩, topS 35⟩
def b_law_parts : Ss := (.cons (.ite (.bo .And (.cons (.tru (.isi (.v 0) .tuple)) (.cons (.cmp .NotEq (.v 0) (.tup .nil)) (.cons (.tru (.isi (.ix (.v 0) (.c (.int 0))) .str)) .nil)))) (.cons (.ite (.cmp .In (.ix (.v 0) (.c (.int 0))) (.tup (.cons (.c (.str "do")) (.cons (.c (.str "stop")) (.cons (.c (.str "cell")) .nil))))) (.cons (.ret (.c (.int 1))) .nil) .nil) (.cons (.ret (.op .Add (.c (.int 1)) (.bf .sum (.cons (.lc false (.nm 1) (.seq (.ifx (.cmp .Eq (.ix (.v 0) (.c (.int 0))) (.c (.str "set"))) (.sl (.v 0) (.some (.c (.int 2))) .none) (.sl (.v 0) (.some (.c (.int 1))) .none))) .none (.call 23 (.cons (.v 1) .nil)) [("_law_one_here", 1)]) .nil)))) .nil)) .nil) (.cons (.ret (.ifx (.tru (.isi (.v 0) .tuple)) (.bf .sum (.cons (.lc false (.nm 1) (.seq (.v 0)) .none (.call 23 (.cons (.v 1) .nil)) [("_law_one_here", 1)]) .nil)) (.c (.int 1)))) .nil))
def r_law_parts : Z.Row := ⟨"_law_parts", ["_law_value"], ["_law_value", "_law_one_here"], ⟨1, 2, b_law_parts⟩, topS 36⟩
def b_law_due : Ss := (.cons (.ite (.bo .Or (.cons (.not (.tru (.isi (.v 0) .tuple))) (.cons (.cmp .NotEq (.bf .len (.cons (.v 0) .nil)) (.c (.int 6))) .nil))) (.cons (.ret (.c (.str "program"))) .nil) .nil) (.cons (.ite (.bo .Or (.cons (.not (.tru (.call 19 (.cons (.ix (.v 0) (.c (.int 0))) (.cons (.c (.int 1)) (.cons (.c (.int 3)) .nil)))))) (.cons (.not (.tru (.call 19 (.cons (.ix (.v 0) (.c (.int 1))) (.cons (.c (.int 1)) (.cons (.c (.int 3)) .nil)))))) .nil))) (.cons (.ret (.c (.str "letters"))) .nil) .nil) (.cons (.ite (.not (.tru (.call 19 (.cons (.ix (.v 0) (.c (.int 2))) (.cons (.c (.int 1)) (.cons (.c (.int 5)) .nil)))))) (.cons (.ret (.c (.str "works"))) .nil) .nil) (.cons (.par [3, 4] (.cons (.ix (.v 0) (.c (.int 3))) (.cons (.c (.int 1)) .nil))) (.cons (.ite (.bo .Or (.cons (.not (.tru (.isi (.v 3) .tuple))) (.cons (.not (.ch .LtE .LtE (.c (.int 1)) (.bf .len (.cons (.v 3) .nil)) (.c (.int 4)))) (.cons (.cmp .NotEq (.lc false (.nm 5) (.seq (.v 3)) (.some (.not (.tru (.call 19 (.cons (.v 5) (.cons (.c (.int 2)) (.cons (.c (.int 4)) .nil))))))) (.c (.int 1)) [("_law_one_here", 5)]) (.lst false .nil)) .nil)))) (.cons (.ret (.c (.str "cells"))) .nil) .nil) (.cons (.for_ (.nm 1) (.seq (.v 3)) (.cons (.asg (.nm 4) (.op .Mult (.v 4) (.v 1))) .nil)) (.cons (.ite (.cmp .Gt (.v 4) (.c (.int 24))) (.cons (.ret (.c (.str "cells"))) .nil) .nil) (.cons (.for_ (.nm 2) (.seq (.tup (.cons (.c (.int 4)) (.cons (.c (.int 5)) .nil)))) (.cons (.ite (.not (.tru (.call 22 (.cons (.ix (.v 0) (.v 2)) (.cons (.tup (.cons (.ix (.v 0) (.c (.int 2))) (.cons (.bf .len (.cons (.v 3) .nil)) .nil))) (.cons (.c (.int 1)) .nil)))))) (.cons (.ret (.ix (.lst false (.cons (.c (.str "body")) (.cons (.c (.str "tail")) .nil))) (.op .Sub (.v 2) (.c (.int 4))))) .nil) .nil) .nil)) (.cons (.ret (.ifx (.cmp .Gt (.op .Add (.call 23 (.cons (.ix (.v 0) (.c (.int 4))) .nil)) (.call 23 (.cons (.ix (.v 0) (.c (.int 5))) .nil))) (.c (.int 400))) (.c (.str "parts")) (.c .non))) .nil)))))))))
def r_law_due : Z.Row := ⟨"_law_due", ["_law_value"], ["_law_value", "_law_size", "_law_k", "_law_cells", "_law_room", "_law_one_here"], ⟨1, 6, b_law_due⟩, topS 37⟩
def b_law_odd : Ss := (.cons (.asg (.nm 1) (.lst true (.cons (.c .non) (.cons (.c (.bl true)) (.cons (.c (.bl false)) (.cons (.c (.int 0)) (.cons (.c (.int 4)) (.cons (.c (.int 9)) (.cons (.c (.int 10)) (.cons (.neg (.c (.int 1))) (.cons (.c (.str "known")) (.cons (.c (.str "secret")) (.cons (.c (.str "stop")) (.cons (.c (.str "")) (.cons (.tup .nil) (.cons (.tup (.cons (.c (.str "stop")) .nil)) (.cons (.tup (.cons (.c (.str "do")) (.cons (.c (.int 0)) .nil))) (.cons (.tup (.cons (.c (.str "do")) .nil)) .nil)))))))))))))))))) (.cons (.ex (.ext (.v 1) (.cons (.lst false (.cons (.tup (.cons (.c (.str "cell")) (.cons (.c (.int 0)) .nil))) (.cons (.tup (.cons (.c (.str "cell")) (.cons (.c (.int 4)) .nil))) (.cons (.tup (.cons (.c (.str "cell")) (.cons (.c (.bl true)) .nil))) (.cons (.tup (.cons (.c (.str "plus")) (.cons (.c (.int 1)) (.cons (.c (.int 1)) .nil)))) (.cons (.tup (.cons (.c (.str "minus")) (.cons (.c (.int 1)) (.cons (.c (.int 1)) .nil)))) (.cons (.tup (.cons (.c (.str "set")) (.cons (.c (.int 0)) (.cons (.c (.int 1)) .nil)))) (.cons (.lst false .nil) (.cons .dicE (.cons (.tup (.cons (.c (.int 2)) .nil)) .nil)))))))))) .nil))) (.cons (.ex (.ext (.v 1) (.cons (.lst false (.cons (.tup (.cons (.c (.str "if")) (.cons (.c (.int 0)) (.cons (.tup .nil) (.cons (.tup .nil) .nil))))) (.cons (.tup (.cons (.c (.str "if")) (.cons (.c (.int 0)) (.cons (.tup .nil) .nil)))) (.cons (.tup (.cons (.tup (.cons (.c (.str "do")) (.cons (.c (.int 0)) .nil))) .nil)) (.cons (.lst false (.cons (.tup (.cons (.c (.str "do")) (.cons (.c (.int 0)) .nil))) .nil)) (.cons (.tup (.cons (.c (.str "same")) (.cons (.c (.str "known")) .nil))) (.cons (.tup (.cons (.c (.int 2)) (.cons (.c (.int 2)) (.cons (.c (.int 2)) (.cons (.c (.int 2)) .nil))))) (.cons (.tup (.cons (.c (.int 4)) (.cons (.c (.int 4)) (.cons (.c (.int 2)) .nil)))) .nil)))))))) .nil))) (.cons (.ret (.call 14 (.cons (.v 0) (.cons (.v 1) .nil)))) .nil))))
def r_law_odd : Z.Row := ⟨"_law_odd", ["_law_deck_here"], ["_law_deck_here", "_law_some"], ⟨1, 2, b_law_odd⟩, topS 38⟩
def b_law_bent : Ss := (.cons (.ite (.bo .Or (.cons (.not (.tru (.isi (.v 1) .tuple))) (.cons (.cmp .Eq (.v 1) (.tup .nil)) (.cons (.cmp .Eq (.v 2) (.c (.int 0))) (.cons (.cmp .Eq (.call 13 (.cons (.v 0) (.cons (.c (.int 6)) .nil))) (.c (.int 0))) .nil))))) (.cons (.ret (.call 25 (.cons (.v 0) .nil))) .nil) .nil) (.cons (.par [3, 4] (.cons (.call 13 (.cons (.v 0) (.cons (.bf .len (.cons (.v 1) .nil)) .nil))) (.cons (.call 13 (.cons (.v 0) (.cons (.c (.int 9)) .nil))) .nil))) (.cons (.ite (.cmp .Eq (.v 4) (.c (.int 0))) (.cons (.ret (.op .Add (.sl (.v 1) .none (.some (.v 3))) (.sl (.v 1) (.some (.op .Add (.v 3) (.c (.int 1)))) .none))) .nil) .nil) (.cons (.ite (.cmp .Eq (.v 4) (.c (.int 1))) (.cons (.ret (.op .Add (.v 1) (.sl (.v 1) (.some (.v 3)) (.some (.op .Add (.v 3) (.c (.int 1))))))) .nil) .nil) (.cons (.ret (.op .Add (.op .Add (.sl (.v 1) .none (.some (.v 3))) (.tup (.cons (.call 26 (.cons (.v 0) (.cons (.ix (.v 1) (.v 3)) (.cons (.op .Sub (.v 2) (.c (.int 1))) .nil)))) .nil))) (.sl (.v 1) (.some (.op .Add (.v 3) (.c (.int 1)))) .none))) .nil)))))
def r_law_bent : Z.Row := ⟨"_law_bent", ["_law_deck_here", "_law_value", "_law_deep"], ["_law_deck_here", "_law_value", "_law_deep", "_law_at", "_law_way"], ⟨3, 5, b_law_bent⟩, topS 39⟩
def b_law : Ss := (.cons (.asg (.nm 1) (.call 12 (.cons (.v 0) .nil))) (.cons (.for_ (.nm 2) (.rng1 (.cons (.c (.int 12)) .nil)) (.cons (.asg (.nm 3) (.call 17 (.cons (.v 1) (.cons (.c (.int 3)) (.cons (.c (.int 5)) .nil))))) (.cons (.ite (.bo .Or (.cons (.cmp .IsNot (.call 11 (.cons (.v 3) .nil)) (.c .non)) (.cons (.cmp .NotEq (.call 10 (.cons (.v 3) .nil)) (.op .Add (.call 23 (.cons (.ix (.v 3) (.c (.int 4))) .nil)) (.call 23 (.cons (.ix (.v 3) (.c (.int 5))) .nil)))) .nil))) (.cons (.ret (.c (.bl false))) .nil) .nil) (.cons (.asg (.nm 4) (.v 3)) (.cons (.for_ (.nm 5) (.rng1 (.cons (.op .Add (.c (.int 1)) (.call 13 (.cons (.v 1) (.cons (.c (.int 3)) .nil)))) .nil)) (.cons (.asg (.nm 4) (.call 26 (.cons (.v 1) (.cons (.v 4) (.cons (.c (.int 7)) .nil))))) (.cons (.ite (.cmp .NotEq (.bf .repr (.cons (.call 11 (.cons (.v 4) .nil)) .nil)) (.bf .repr (.cons (.call 24 (.cons (.v 4) .nil)) .nil))) (.cons (.ret (.c (.bl false))) .nil) .nil) .nil))) (.cons (.for_ (.nm 4) (.seq (.lst false (.cons (.call 25 (.cons (.v 1) .nil)) (.cons (.bf .lst (.cons (.v 3) .nil)) (.cons (.sl (.v 3) .none (.some (.c (.int 5)))) (.cons (.op .Add (.v 3) (.tup (.cons (.c (.int 1)) .nil))) .nil)))))) (.cons (.ite (.cmp .NotEq (.bf .repr (.cons (.call 11 (.cons (.v 4) .nil)) .nil)) (.bf .repr (.cons (.call 24 (.cons (.v 4) .nil)) .nil))) (.cons (.ret (.c (.bl false))) .nil) .nil) .nil)) .nil)))))) (.cons (.ret (.c (.bl true))) .nil)))
def r_law : Z.Row := ⟨"law", ["_law_script"], ["_law_script", "_law_deck_here", "_law_turn", "_law_program_here", "_law_value", "_law_k"], ⟨1, 6, b_law⟩, topS 40⟩
def rows : List Z.Row := [r_is_integer, r_is_tuple, r_is_cell, r_is_sum, r_is_statement, r_is_block, r_are_cells, r_stands_of, r_sum_parts, r_block_parts, r_parts, r_program_error, r_law_deck, r_law_draw, r_law_one, r_law_sum, r_law_block, r_law_program, r_law_wide, r_law_whole, r_law_is_sum, r_law_is_statement, r_law_is_block, r_law_parts, r_law_due, r_law_odd, r_law_bent, r_law]
def loose0 : List Str := ["MAX_NUMBER", "MAX_LETTERS", "MAX_WORKS", "MAX_CELLS", "MAX_SIZE", "MAX_STANDS", "MAX_PARTS", "MAX_LEVEL", "KNOWN", "SECRET", "OPERATORS", "is_integer", "is_tuple", "is_cell", "is_sum", "is_statement", "is_block", "are_cells", "stands_of", "sum_parts"]
def loose1 : List Str := ["block_parts", "parts", "program_error", "_law_deck", "_law_draw", "_law_one", "_law_sum", "_law_block", "_law_program", "_law_wide", "_law_whole", "_law_is_sum", "_law_is_statement", "_law_is_block", "_law_parts", "_law_due", "_law_odd", "_law_bent"]
def loose : List Str := loose0 ++ loose1
def C : Tab := ⟨rows.map fun r => (r.x, r.ps.length), gl⟩
theorem ok_r_is_integer : rowOk C r_is_integer = true := by decide +kernel
theorem ok_r_is_tuple : rowOk C r_is_tuple = true := by decide +kernel
theorem ok_r_is_cell : rowOk C r_is_cell = true := by decide +kernel
theorem ok_r_is_sum : rowOk C r_is_sum = true := by decide +kernel
theorem ok_r_is_statement : rowOk C r_is_statement = true := by decide +kernel
theorem ok_r_is_block : rowOk C r_is_block = true := by decide +kernel
theorem ok_r_are_cells : rowOk C r_are_cells = true := by decide +kernel
theorem ok_r_stands_of : rowOk C r_stands_of = true := by decide +kernel
theorem ok_r_sum_parts : rowOk C r_sum_parts = true := by decide +kernel
theorem ok_r_block_parts : rowOk C r_block_parts = true := by decide +kernel
theorem ok_r_parts : rowOk C r_parts = true := by decide +kernel
theorem ok_r_program_error : rowOk C r_program_error = true := by decide +kernel
theorem ok_r_law_deck : rowOk C r_law_deck = true := by decide +kernel
theorem ok_r_law_draw : rowOk C r_law_draw = true := by decide +kernel
theorem ok_r_law_one : rowOk C r_law_one = true := by decide +kernel
theorem ok_r_law_sum : rowOk C r_law_sum = true := by decide +kernel
theorem ok_r_law_block : rowOk C r_law_block = true := by decide +kernel
theorem ok_r_law_program : rowOk C r_law_program = true := by decide +kernel
theorem ok_r_law_wide : rowOk C r_law_wide = true := by decide +kernel
theorem ok_r_law_whole : rowOk C r_law_whole = true := by decide +kernel
theorem ok_r_law_is_sum : rowOk C r_law_is_sum = true := by decide +kernel
theorem ok_r_law_is_statement : rowOk C r_law_is_statement = true := by decide +kernel
theorem ok_r_law_is_block : rowOk C r_law_is_block = true := by decide +kernel
theorem ok_r_law_parts : rowOk C r_law_parts = true := by decide +kernel
theorem ok_r_law_due : rowOk C r_law_due = true := by decide +kernel
theorem ok_r_law_odd : rowOk C r_law_odd = true := by decide +kernel
theorem ok_r_law_bent : rowOk C r_law_bent = true := by decide +kernel
theorem ok_r_law : rowOk C r_law = true := by decide +kernel
end K21

namespace K21
open PySem PySem.Spec PyProof.Rows L2 Z
abbrev T : List Fn := rows.map Z.Row.fn
def G : List D := gl.map (·.2)
abbrev rn (k f : Nat) (args : List D) (S : Sto) : Out D := run T G 0 k f args S
theorem g7 : G[7]? = some (.int 12) := rfl
theorem g8 : G[8]? = some (.str "known") := rfl
theorem g9 : G[9]? = some (.str "secret") := rfl
theorem g0 : G[0]? = some (.int 9) := rfl
theorem g10 : G[10]? = some (.tup [.str "plus", .str "times", .str "less", .str "same"]) := rfl
/-- a datum whose type can be told -/
def Nt (S : Sto) : D → Prop
  | .loc n => ∃ kvs, S[n]? = some (.dic kvs)
  | _ => True
theorem isi_loc {S : Sto} {n : Nat} {t : Ty} (h : Nt S (.loc n)) : isiD S (.loc n) t = some false := by
  obtain ⟨kvs, h⟩ := h
  simp [isiD, h]
def isInt (lo hi : Int) : D → Bool
  | .int i => decide (lo ≤ i) && decide (i ≤ hi)
  | _ => false
def isTup (w : Str) (n : Nat) : D → Bool
  | .tup (.str h :: t) => decide (t.length + 1 = n) && decide (h = w)
  | _ => false
@[simp] theorem isi_non {S : Sto} {t : Ty} : isiD S .non t = some false := rfl
@[simp] theorem isi_int {S : Sto} {i : Int} {t : Ty} : isiD S (.int i) t = some (match t with | .int => true | _ => false) := rfl
@[simp] theorem isi_bl {S : Sto} {b : Bool} {t : Ty} : isiD S (.bl b) t = some (match t with | .bool => true | .int => true | _ => false) := rfl
@[simp] theorem isi_str {S : Sto} {x : Str} {t : Ty} : isiD S (.str x) t = some (match t with | .str => true | _ => false) := rfl
@[simp] theorem isi_tup {S : Sto} {xs : List D} {t : Ty} : isiD S (.tup xs) t = some (match t with | .tuple => true | _ => false) := rfl
@[simp] theorem isi_lst {S : Sto} {xs : List D} {t : Ty} : isiD S (.lst xs) t = some (match t with | .list => true | _ => false) := rfl
@[simp] theorem isi_fro {S : Sto} {xs : List D} {t : Ty} : isiD S (.fro xs) t = some (match t with | .list => true | _ => false) := rfl
@[simp] theorem truB {S : Sto} {b : Bool} : truP S (.bl b) = some b := rfl
@[simp] theorem eqI {S : Sto} {i j : Int} : eqD S (.int i) (.int j) = some (.bl (decide (i = j))) := rfl
@[simp] theorem neI {S : Sto} {i j : Int} : neD S (.int i) (.int j) = some (.bl (!decide (i = j))) := rfl
@[simp] theorem eqSt {S : Sto} {i j : Str} : eqD S (.str i) (.str j) = some (.bl (decide (i = j))) := rfl
@[simp] theorem neSt {S : Sto} {i j : Str} : neD S (.str i) (.str j) = some (.bl (!decide (i = j))) := rfl
@[simp] theorem lenT {S : Sto} {xs : List D} : lenD S (.tup xs) = some (.int xs.length) := rfl
theorem eqT0 {S : Sto} {xs : List D} : eqD S (.tup xs) (.tup []) = some (.bl xs.isEmpty) := by
  cases xs <;> rfl
theorem neT0 {S : Sto} {xs : List D} : neD S (.tup xs) (.tup []) = some (.bl (!xs.isEmpty)) := by
  cases xs <;> rfl
theorem ixT {S : Sto} {xs : List D} {i : Nat} {d : D} (h : xs[i]? = some d) : ixP S (.tup xs) (.int i) = some d := by
  have hl := (List.getElem?_eq_some_iff.mp h).1
  show L2.atI xs (i : Int) = _
  rw [atI_in (by omega) (by omega)]
  simpa using h
theorem ix0 {S : Sto} {x : D} {xs : List D} : ixP S (.tup (x :: xs)) (.int 0) = some x := ixT (i := 0) rfl
theorem ix1 {S : Sto} {x y : D} {xs : List D} : ixP S (.tup (x :: y :: xs)) (.int 1) = some y := ixT (i := 1) rfl
theorem ix2 {S : Sto} {x y z : D} {xs : List D} : ixP S (.tup (x :: y :: z :: xs)) (.int 2) = some z := ixT (i := 2) rfl
theorem ix3 {S : Sto} {x y z u : D} {xs : List D} : ixP S (.tup (x :: y :: z :: u :: xs)) (.int 3) = some u := ixT (i := 3) rfl

theorem int_ok {k : Nat} {S : Sto} {d : D} {lo hi : Int} (h : Nt S d) : rn (k + 1) 0 [d, .int lo, .int hi] S = .ok (.bl (isInt lo hi d)) S := by
  rw [rn, run_succ (fn := ⟨3, 3, b_is_integer⟩) rfl rfl]
  cases d with
  | loc n => simp [b_is_integer, slots0, isi_loc h, fnEnd, isInt]
  | int i =>
    by_cases z : lo ≤ i <;> simp [b_is_integer, slots0, fnEnd, isInt, z]
  | _ => simp [b_is_integer, slots0, fnEnd, isInt]
theorem whole_ok {k : Nat} {S : Sto} {d : D} {lo hi : Int} (h : Nt S d) : rn (k + 1) 19 [d, .int lo, .int hi] S = .ok (.bl (isInt lo hi d)) S := by
  rw [rn, run_succ (fn := ⟨3, 3, b_law_whole⟩) rfl rfl]
  cases d with
  | loc n => simp [b_law_whole, slots0, isi_loc h, fnEnd, isInt]
  | int i =>
    by_cases z : lo ≤ i <;> simp [b_law_whole, slots0, fnEnd, isInt, z]
  | _ => simp [b_law_whole, slots0, fnEnd, isInt]
theorem cell_ok {k : Nat} {S : Sto} {d : D} {w : Int} (h : Nt S d) : rn (k + 2) 2 [d, .int w] S = .ok (.bl (isInt 0 (w - 1) d)) S := by
  rw [rn, run_succ (fn := ⟨2, 2, b_is_cell⟩) rfl rfl]
  have e := int_ok (k := k) (lo := 0) (hi := w - 1) h
  simp only [rn] at e
  simp [b_is_cell, slots0, fnEnd, e]
theorem tup_ok {k : Nat} {S : Sto} {d : D} {w : Str} {n : Nat} (hn : 0 < n) (h : Nt S d) (hi : ∀ x xs, d = .tup (x :: xs) → Nt S x) : rn (k + 1) 1 [d, .str w, .int n] S = .ok (.bl (isTup w n d)) S := by
  rw [rn, run_succ (fn := ⟨3, 3, b_is_tuple⟩) rfl rfl]
  cases d with
  | loc m => simp [b_is_tuple, slots0, isi_loc h, fnEnd, isTup]
  | tup xs =>
    cases xs with
    | nil =>
      have z : ¬ ((0 : Int) = n) := by omega
      simp [b_is_tuple, slots0, fnEnd, isTup, z]
    | cons x xs =>
      have hx := hi x xs rfl
      by_cases z : ((xs.length : Int) + 1 = n)
      · have z' : xs.length + 1 = n := by omega
        cases x with
        | loc m => simp [b_is_tuple, slots0, fnEnd, isTup, z, ix0, isi_loc hx]
        | str s => simp [b_is_tuple, slots0, fnEnd, isTup, z, z', ix0]
        | _ => simp [b_is_tuple, slots0, fnEnd, isTup, z, ix0]
      · have z' : ¬ (xs.length + 1 = n) := by omega
        cases x <;> simp [b_is_tuple, slots0, fnEnd, isTup, z, z']
  | _ => simp [b_is_tuple, slots0, fnEnd, isTup]
end K21

namespace K21
open PySem PySem.Spec PyProof.Rows L2 Z
mutual
def okD (S : Sto) (B : Nat) : D → Bool
  | .tup xs => decide (xs.length ≤ B) && okDs S B xs
  | .loc n => (match S[n]? with | some (.dic _) => true | _ => false)
  | .fro _ => false
  | _ => true
def okDs (S : Sto) (B : Nat) : List D → Bool
  | [] => true
  | x :: xs => okD S B x && okDs S B xs
end
theorem okD_nt {S : Sto} {B : Nat} {d : D} (h : okD S B d = true) : Nt S d := by
  cases d with
  | loc n =>
    unfold okD at h
    split at h
    · rename_i kvs e; exact ⟨kvs, e⟩
    · cases h
  | _ => trivial
theorem okDs_mem {S : Sto} {B : Nat} : ∀ {xs : List D}, okDs S B xs = true → ∀ d ∈ xs, okD S B d = true
  | x :: xs, h, d, hd => by
    unfold okDs at h
    rw [Bool.and_eq_true] at h
    rcases List.mem_cons.mp hd with rfl | hd
    · exact h.1
    · exact okDs_mem h.2 d hd
theorem okDs_of {S : Sto} {B : Nat} : ∀ {xs : List D}, (∀ d ∈ xs, okD S B d = true) → okDs S B xs = true
  | [], _ => by unfold okDs; rfl
  | x :: xs, h => by unfold okDs; rw [h x (by simp), okDs_of fun d hd => h d (by simp [hd])]; rfl
theorem okD_tup {S : Sto} {B : Nat} {xs : List D} : okD S B (.tup xs) = true ↔ xs.length ≤ B ∧ ∀ d ∈ xs, okD S B d = true := by
  constructor
  · intro h
    unfold okD at h
    rw [Bool.and_eq_true] at h
    exact ⟨of_decide_eq_true h.1, okDs_mem h.2⟩
  · rintro ⟨h1, h2⟩
    unfold okD
    rw [okDs_of h2, decide_eq_true h1]; rfl
def isOp (h : Str) : Bool := decide (h = "plus") || (decide (h = "times") || (decide (h = "less") || decide (h = "same")))
def okS : Nat → Int → D → Bool
  | 0, _, _ => false
  | n + 1, w, d => match d with
    | .str s => decide (s = "known") || decide (s = "secret")
    | .tup xs => if isTup "cell" 2 d then (match xs with | [_, y] => isInt 0 (w - 1) y | _ => false) else (match xs with | [.str h, y, z] => isOp h && (okS n w y && okS n w z) | _ => false)
    | d => isInt 0 9 d
theorem beqS {a s : Str} : (a == s) = decide (s = a) := by
  by_cases h : s = a
  · subst h; simp
  · rw [decide_eq_false h]; exact beq_eq_false_iff_ne.mpr (Ne.symm h)
theorem in_ks {S : Sto} {s : Str} : inD S (.str s) (.tup [.str "known", .str "secret"]) = some (.bl (decide (s = "known") || decide (s = "secret"))) := by
  simp [inD, inP, asQ, flatD, eqF, beqS]
theorem in_op {S : Sto} {s : Str} : notInD S (.str s) (.tup [.str "plus", .str "times", .str "less", .str "same"]) = some (.bl (!isOp s)) := by
  simp [notInD, inP, asQ, flatD, eqF, isOp, beqS]
theorem isi_of {S : Sto} {B : Nat} {x : D} {xs : List D} (h : okD S B (.tup xs) = true) (hx : x ∈ xs) : Nt S x := okD_nt ((okD_tup.mp h).2 x hx)
@[simp] theorem isTup_nil {w : Str} {n : Nat} : isTup w n (.tup []) = false := rfl
@[simp] theorem isTup_str {w h : Str} {n : Nat} {t : List D} : isTup w n (.tup (.str h :: t)) = (decide (t.length + 1 = n) && decide (h = w)) := rfl
theorem sum_ok {B : Nat} {w : Int} {S : Sto} : ∀ (n k : Nat) (d : D) (lv : Int), okD S B d = true → lv + n = 13 → rn (k + n + 3) 3 [d, .int w, .int lv] S = .ok (.bl (okS n w d)) S
  | 0, k, d, lv, h, hl => by
    rw [rn, run_succ (fn := ⟨3, 3, b_is_sum⟩) rfl rfl]
    have z : (12 : Int) < lv := by omega
    simp [b_is_sum, slots0, g7, z, fnEnd, okS]
  | n + 1, k, d, lv, h, hl => by
    rw [rn, show k + (n + 1) + 3 = (k + n + 3) + 1 by omega, run_succ (fn := ⟨3, 3, b_is_sum⟩) rfl rfl]
    have z : ¬ (12 : Int) < lv := by omega
    have ei : run T G 0 (k + n + 3) 0 [d, .int 0, .int 9] S = .ok (.bl (isInt 0 9 d)) S := int_ok (okD_nt h)
    have et : run T G 0 (k + n + 3) 1 [d, .str "cell", .int 2] S = .ok (.bl (isTup "cell" 2 d)) S := tup_ok (n := 2) (by decide) (okD_nt h) (fun x xs e => by subst e; exact isi_of h (by simp))
    cases d with
    | loc m => simp [b_is_sum, slots0, g7, g8, g9, g0, z, fnEnd, okS, isi_loc (okD_nt h), ei]
    | str s => simp [b_is_sum, slots0, g7, g8, g9, g0, z, fnEnd, okS, in_ks]
    | tup xs =>
      match xs, h, et with
      | [], h, et => simp [b_is_sum, slots0, g7, g8, g9, g0, z, fnEnd, okS, et]
      | [x], h, et =>
        cases x <;> simp [b_is_sum, slots0, g7, g8, g9, g0, z, fnEnd, okS, et, isTup]
      | [x, y], h, et =>
        have ec : run T G 0 (k + n + 3) 2 [y, .int w] S = .ok (.bl (isInt 0 (w - 1) y)) S := cell_ok (isi_of h (x := y) (by simp))
        cases x with
        | str s =>
          by_cases zs : s = "cell"
          · subst zs
            simp [b_is_sum, slots0, g7, g8, g9, g0, z, fnEnd, okS, et, isTup, ix1, ec]
          · simp [b_is_sum, slots0, g7, g8, g9, g0, z, fnEnd, okS, et, isTup, zs]
        | _ => simp [b_is_sum, slots0, g7, g8, g9, g0, z, fnEnd, okS, et, isTup]
      | [x, y, u], h, et =>
        have h1 := sum_ok (w := w) n k y (lv + 1) ((okD_tup.mp h).2 y (by simp)) (by omega)
        have h2 := sum_ok (w := w) n k u (lv + 1) ((okD_tup.mp h).2 u (by simp)) (by omega)
        simp only [rn] at h1 h2
        cases x with
        | str s =>
          have ez : isTup "cell" 2 (.tup [.str s, y, u]) = false := by simp [isTup]
          rw [ez] at et
          cases zs : isOp s with
          | true => cases zo : okS n w y <;> simp [b_is_sum, slots0, g7, g8, g9, g0, g10, z, fnEnd, okS, et, ez, ix0, ix1, ix2, in_op, zs, h1, h2, zo]
          | false => simp [b_is_sum, slots0, g7, g8, g9, g0, g10, z, fnEnd, okS, et, ez, ix0, in_op, zs]
        | loc m =>
          have := isi_of h (x := .loc m) (by simp)
          simp [b_is_sum, slots0, g7, g8, g9, g0, z, fnEnd, okS, et, isTup, ix0, isi_loc this]
        | _ => simp [b_is_sum, slots0, g7, g8, g9, g0, z, fnEnd, okS, et, isTup, ix0]
      | x :: y :: u :: v :: t, h, et =>
        have zl : ¬ ((t.length : Int) + 1 + 1 + 1 + 1 = 3) := by omega
        have ez : isTup "cell" 2 (.tup (x :: y :: u :: v :: t)) = false := by cases x <;> simp [isTup]
        rw [ez] at et
        simp [b_is_sum, slots0, g7, g8, g9, g0, z, fnEnd, okS, et, ez, zl]
    | _ => simp [b_is_sum, slots0, g7, g8, g9, g0, z, fnEnd, okS, ei]
end K21

namespace K21
open PySem PySem.Spec PyProof.Rows L2 Z
def okBk (f : D → Bool) : D → Bool
  | .tup ds => ds.all f
  | _ => false
def okSt : Nat → Int → Int → D → Bool
  | 0, _, _, _ => false
  | n + 1, p, w, d => if isTup "do" 2 d then (match d with | .tup [_, y] => isInt 0 (p - 1) y | _ => false)
    else if isTup "set" 3 d then (match d with | .tup [_, y, z] => isInt 0 (w - 1) y && okS n w z | _ => false)
    else if isTup "if" 4 d then (match d with | .tup [_, x, y, z] => okS n w x && (okBk (okSt n p w) y && okBk (okSt n p w) z) | _ => false)
    else isTup "stop" 1 d
theorem eqL0 {S : Sto} {xs : List D} : eqD S (.lst xs) (.lst []) = some (.bl xs.isEmpty) := by
  cases xs <;> rfl
theorem neL0 {S : Sto} {xs : List D} : neD S (.lst xs) (.lst []) = some (.bl (!xs.isEmpty)) := by
  cases xs <;> rfl
theorem filt_all {α : Type} {f : α → Bool} : ∀ {xs : List α}, (xs.filter fun x => !f x).isEmpty = xs.all f
  | [] => rfl
  | x :: xs => by
    rw [List.filter_cons, List.all_cons]
    cases f x with
    | true => simpa using filt_all (f := f) (xs := xs)
    | false => rfl
theorem blk_ok {B k : Nat} {p w lv : Int} {S : Sto} {f : D → Bool} (d : D) (h : okD S B d = true) (hB : B ≤ 1000) (ih : ∀ x, okD S B x = true → rn k 4 [x, .int p, .int w, .int lv] S = .ok (.bl (f x)) S) : rn (k + 1) 5 [d, .int p, .int w, .int lv] S = .ok (.bl (okBk f d)) S := by
  rw [rn, run_succ (fn := ⟨4, 5, b_is_block⟩) rfl rfl]
  cases d with
  | loc m => simp [b_is_block, slots0, fnEnd, isi_loc (okD_nt h), okBk]
  | tup ds =>
    obtain ⟨hl, hd⟩ := okD_tup.mp h
    have e : lcGo (.vals ds) (gNm 4) (dT G (run T G 0 k) (.not (.tru (.call 4 (.cons (.v 4) (.cons (.v 1) (.cons (.v 2) (.cons (.v 3) .nil)))))))) (mVar 4) [some (.tup ds), some (.int p), some (.int w), some (.int lv), none] ds.length 0 [] S = .ok (ds.filter fun x => !f x) S := by
      rw [lc_pure (p := fun x => !f x) (h := id) (fun x hx => ⟨[some (.tup ds), some (.int p), some (.int w), some (.int lv), some x], by simp, by
        have := ih x (hd x hx)
        simp only [rn] at this
        simp [this], fun _ => by simp⟩) _ 0 [] (by simp) (by simp; omega)]
      simp
    have hw : wipeD [some (D.tup ds), some (.int p), some (.int w), some (.int lv), none] [4] = [some (.tup ds), some (.int p), some (.int w), some (.int lv), none] := rfl
    simp only [q_tnot, q_ttru, q_ecall, q_lcons, q_lnil, q_ev] at e
    simp [b_is_block, slots0, fnEnd, srcOf, hw, e, eqL0, okBk, filt_all]
  | _ => simp [b_is_block, slots0, fnEnd, okBk]
theorem st_ok {B : Nat} {p w : Int} {S : Sto} (hB : B ≤ 1000) : ∀ (n k : Nat) (d : D) (lv : Int), okD S B d = true → lv + n = 13 → rn (k + 2 * n + 4) 4 [d, .int p, .int w, .int lv] S = .ok (.bl (okSt n p w d)) S
  | 0, k, d, lv, h, hl => by
    rw [rn, run_succ (fn := ⟨4, 4, b_is_statement⟩) rfl rfl]
    have z : (12 : Int) < lv := by omega
    simp [b_is_statement, slots0, g7, z, fnEnd, okSt]
  | n + 1, k, d, lv, h, hl => by
    rw [rn, show k + 2 * (n + 1) + 4 = (k + 2 * n + 5) + 1 by omega, run_succ (fn := ⟨4, 4, b_is_statement⟩) rfl rfl]
    have z : ¬ (12 : Int) < lv := by omega
    have hx : ∀ x xs, d = .tup (x :: xs) → Nt S x := fun x xs e => by subst e; exact isi_of h (by simp)
    have t1 : run T G 0 (k + 2 * n + 5) 1 [d, .str "do", .int 2] S = .ok (.bl (isTup "do" 2 d)) S := tup_ok (n := 2) (by decide) (okD_nt h) hx
    have t2 : run T G 0 (k + 2 * n + 5) 1 [d, .str "set", .int 3] S = .ok (.bl (isTup "set" 3 d)) S := tup_ok (n := 3) (by decide) (okD_nt h) hx
    have t3 : run T G 0 (k + 2 * n + 5) 1 [d, .str "if", .int 4] S = .ok (.bl (isTup "if" 4 d)) S := tup_ok (n := 4) (by decide) (okD_nt h) hx
    have t4 : run T G 0 (k + 2 * n + 5) 1 [d, .str "stop", .int 1] S = .ok (.bl (isTup "stop" 1 d)) S := tup_ok (n := 1) (by decide) (okD_nt h) hx
    cases b1 : isTup "do" 2 d with
    | true =>
      rw [b1] at t1
      unfold okSt
      rw [b1, if_pos rfl]
      unfold isTup at b1
      split at b1
      · rename_i s t
        simp only [Bool.and_eq_true, decide_eq_true_eq] at b1
        obtain ⟨hl2, hs⟩ := b1
        match t, hl2, h, t1 with
        | [y], _, h, t1 =>
          have ei : run T G 0 (k + 2 * n + 5) 0 [y, .int 0, .int (p - 1)] S = .ok (.bl (isInt 0 (p - 1) y)) S := int_ok (isi_of h (by simp))
          simp [b_is_statement, slots0, fnEnd, g7, z, t1, ix1, ei]
      · cases b1
    | false =>
      rw [b1] at t1
      cases b2 : isTup "set" 3 d with
      | true =>
        rw [b2] at t2
        unfold okSt
        rw [b1, b2, if_neg (by decide), if_pos rfl]
        unfold isTup at b2
        split at b2
        · rename_i s t
          simp only [Bool.and_eq_true, decide_eq_true_eq] at b2
          obtain ⟨hl2, hs⟩ := b2
          match t, hl2, h, t1, t2 with
          | [y, u], _, h, t1, t2 =>
            have ec : run T G 0 (k + 2 * n + 5) 2 [y, .int w] S = .ok (.bl (isInt 0 (w - 1) y)) S := cell_ok (isi_of h (x := y) (by simp))
            have es : run T G 0 (k + 2 * n + 5) 3 [u, .int w, .int (lv + 1)] S = .ok (.bl (okS n w u)) S := by
              have := sum_ok (w := w) n (k + n + 2) u (lv + 1) ((okD_tup.mp h).2 u (by simp)) (by omega)
              rw [show k + n + 2 + n + 3 = k + 2 * n + 5 by omega] at this
              exact this
            cases zi : isInt 0 (w - 1) y <;> simp [b_is_statement, slots0, fnEnd, g7, z, t1, t2, ix1, ix2, ec, es, zi]
        · cases b2
      | false =>
        rw [b2] at t2
        cases b3 : isTup "if" 4 d with
        | true =>
          rw [b3] at t3
          unfold okSt
          rw [b1, b2, b3, if_neg (by decide), if_neg (by decide), if_pos rfl]
          unfold isTup at b3
          split at b3
          · rename_i s t
            simp only [Bool.and_eq_true, decide_eq_true_eq] at b3
            obtain ⟨hl2, hs⟩ := b3
            match t, hl2, h, t1, t2, t3 with
            | [x, y, u], _, h, t1, t2, t3 =>
              have es : run T G 0 (k + 2 * n + 5) 3 [x, .int w, .int (lv + 1)] S = .ok (.bl (okS n w x)) S := by
                have := sum_ok (w := w) n (k + n + 2) x (lv + 1) ((okD_tup.mp h).2 x (by simp)) (by omega)
                rw [show k + n + 2 + n + 3 = k + 2 * n + 5 by omega] at this
                exact this
              have e1 : run T G 0 (k + 2 * n + 5) 5 [y, .int p, .int w, .int (lv + 1)] S = .ok (.bl (okBk (okSt n p w) y)) S := blk_ok y ((okD_tup.mp h).2 y (by simp)) hB fun x hx => st_ok hB n k x (lv + 1) hx (by omega)
              have e2 : run T G 0 (k + 2 * n + 5) 5 [u, .int p, .int w, .int (lv + 1)] S = .ok (.bl (okBk (okSt n p w) u)) S := blk_ok u ((okD_tup.mp h).2 u (by simp)) hB fun x hx => st_ok hB n k x (lv + 1) hx (by omega)
              cases zi : okS n w x with
              | false => simp [b_is_statement, slots0, fnEnd, g7, z, t1, t2, t3, ix1, es, zi]
              | true => cases zj : okBk (okSt n p w) y <;> simp [b_is_statement, slots0, fnEnd, g7, z, t1, t2, t3, ix1, ix2, ix3, es, zi, e1, e2, zj]
          · cases b3
        | false =>
          rw [b3] at t3
          unfold okSt
          rw [b1, b2, b3, if_neg (by decide), if_neg (by decide), if_neg (by decide)]
          simp [b_is_statement, slots0, fnEnd, g7, z, t1, t2, t3, t4]
theorem bk_ok {B : Nat} {p w : Int} {S : Sto} (hB : B ≤ 1000) (n k : Nat) (d : D) (lv : Int) (h : okD S B d = true) (hl : lv + n = 13) : rn (k + 2 * n + 5) 5 [d, .int p, .int w, .int lv] S = .ok (.bl (okBk (okSt n p w) d)) S :=
  blk_ok d h hB fun x hx => st_ok hB n k x lv hx hl
end K21

namespace K21
open PySem PySem.Spec PyProof.Rows L2 Z
theorem lsum_ok {B : Nat} {w : Int} {S : Sto} : ∀ (n k : Nat) (d : D) (lv : Int), okD S B d = true → lv + n = 13 → rn (k + n + 3) 20 [d, .int w, .int lv] S = .ok (.bl (okS n w d)) S
  | 0, k, d, lv, h, hl => by
    rw [rn, run_succ (fn := ⟨3, 4, b_law_is_sum⟩) rfl rfl]
    have z : (12 : Int) < lv := by omega
    have z' : ¬ lv ≤ (12 : Int) := by omega
    simp [b_law_is_sum, slots0, z, z', fnEnd, okS]
  | n + 1, k, d, lv, h, hl => by
    rw [rn, show k + (n + 1) + 3 = (k + n + 3) + 1 by omega, run_succ (fn := ⟨3, 4, b_law_is_sum⟩) rfl rfl]
    have z : ¬ (12 : Int) < lv := by omega
    have z' : lv ≤ (12 : Int) := by omega
    have ei : run T G 0 (k + n + 3) 19 [d, .int 0, .int 9] S = .ok (.bl (isInt 0 9 d)) S := whole_ok (okD_nt h)
    cases d with
    | loc m => simp [b_law_is_sum, slots0, z, z', fnEnd, okS, isi_loc (okD_nt h), isInt]
    | str s => simp [b_law_is_sum, slots0, z, z', fnEnd, okS, in_ks]
    | tup xs =>
      match xs, h with
      | [], h => simp [b_law_is_sum, slots0, z, z', fnEnd, okS, eqT0]
      | x :: t, h =>
        cases x with
        | str s =>
          by_cases zs : s = "cell"
          · subst zs
            match t, h with
            | [], h => simp [b_law_is_sum, slots0, z, z', fnEnd, okS, eqT0, ix0]
            | [y], h =>
              have ec : run T G 0 (k + n + 3) 19 [y, .int 0, .int (w - 1)] S = .ok (.bl (isInt 0 (w - 1) y)) S := whole_ok (isi_of h (x := y) (by simp))
              simp [b_law_is_sum, slots0, z, z', fnEnd, okS, eqT0, ix0, ix1, ec]
            | [y, u], h =>
              have : isOp "cell" = false := by decide +kernel
              simp [b_law_is_sum, slots0, z, z', fnEnd, okS, eqT0, ix0, this]
            | y :: u :: v :: t, h =>
              have zl : ¬ ((t.length : Int) + 1 + 1 + 1 + 1 = 2) := by omega
              simp [b_law_is_sum, slots0, z, z', fnEnd, okS, eqT0, ix0, zl]
          · have ez : isTup "cell" 2 (.tup (.str s :: t)) = false := by simp [isTup, zs]
            match t, h, ez with
            | [], h, ez => simp [b_law_is_sum, slots0, z, z', fnEnd, okS, eqT0, ix0, zs, ez]
            | [y], h, ez => simp [b_law_is_sum, slots0, z, z', fnEnd, okS, eqT0, ix0, zs, ez]
            | [y, u], h, ez =>
              have h1 := lsum_ok (w := w) n k y (lv + 1) ((okD_tup.mp h).2 y (by simp)) (by omega)
              have h2 := lsum_ok (w := w) n k u (lv + 1) ((okD_tup.mp h).2 u (by simp)) (by omega)
              simp only [rn] at h1 h2
              have sl : slP S (.tup [.str s, y, u]) (some 1) none = some (.tup [y, u]) := rfl
              cases zo : isOp s with
              | false => simp [b_law_is_sum, slots0, z, z', fnEnd, okS, eqT0, ix0, zs, in_op, zo, ez]
              | true => cases zy : okS n w y <;> cases zu : okS n w u <;> simp [b_law_is_sum, slots0, z, z', fnEnd, okS, eqT0, ix0, zs, in_op, zo, ez, sl, srcOf, wipeD, lcGo, h1, h2, zy, zu, eqL0]
            | y :: u :: v :: t, h, ez =>
              have zl : ¬ ((t.length : Int) + 1 + 1 + 1 + 1 = 3) := by omega
              simp [b_law_is_sum, slots0, z, z', fnEnd, okS, eqT0, ix0, zs, ez, zl]
        | loc m =>
          have := isi_of h (x := .loc m) (by simp)
          match t, h with
          | [], h => simp [b_law_is_sum, slots0, z, z', fnEnd, okS, eqT0, ix0, isi_loc this, isTup]
          | [y], h => simp [b_law_is_sum, slots0, z, z', fnEnd, okS, eqT0, ix0, isi_loc this, isTup]
          | [y, u], h => simp [b_law_is_sum, slots0, z, z', fnEnd, okS, eqT0, ix0, isi_loc this, isTup]
          | y :: u :: v :: t, h => simp [b_law_is_sum, slots0, z, z', fnEnd, okS, eqT0, ix0, isi_loc this, isTup]
        | _ =>
          match t, h with
          | [], h => simp [b_law_is_sum, slots0, z, z', fnEnd, okS, eqT0, ix0, isTup]
          | [y], h => simp [b_law_is_sum, slots0, z, z', fnEnd, okS, eqT0, ix0, isTup]
          | [y, u], h => simp [b_law_is_sum, slots0, z, z', fnEnd, okS, eqT0, ix0, isTup]
          | y :: u :: v :: t, h => simp [b_law_is_sum, slots0, z, z', fnEnd, okS, eqT0, ix0, isTup]
    | _ => simp [b_law_is_sum, slots0, z, z', fnEnd, okS, ei, isInt]
theorem lblk_ok {B k : Nat} {lv : Int} {sh : D} {S : Sto} {f : D → Bool} (d : D) (h : okD S B d = true) (hB : B ≤ 1000) (ih : ∀ x, okD S B x = true → rn k 21 [x, sh, .int lv] S = .ok (.bl (f x)) S) : rn (k + 1) 22 [d, sh, .int lv] S = .ok (.bl (okBk f d)) S := by
  rw [rn, run_succ (fn := ⟨3, 4, b_law_is_block⟩) rfl rfl]
  cases d with
  | loc m => simp [b_law_is_block, slots0, fnEnd, isi_loc (okD_nt h), okBk]
  | tup ds =>
    obtain ⟨hl, hd⟩ := okD_tup.mp h
    have e : lcGo (.vals ds) (gNm 3) (dT G (run T G 0 k) (.not (.tru (.call 21 (.cons (.v 3) (.cons (.v 1) (.cons (.v 2) .nil))))))) (mVar 3) [some (.tup ds), some sh, some (.int lv), none] ds.length 0 [] S = .ok (ds.filter fun x => !f x) S := by
      rw [lc_pure (p := fun x => !f x) (h := id) (fun x hx => ⟨[some (.tup ds), some sh, some (.int lv), some x], by simp, by
        have := ih x (hd x hx)
        simp only [rn] at this
        simp [this], fun _ => by simp⟩) _ 0 [] (by simp) (by simp; omega)]
      simp
    have hw : wipeD [some (D.tup ds), some sh, some (.int lv), none] [3] = [some (.tup ds), some sh, some (.int lv), none] := rfl
    simp only [q_tnot, q_ttru, q_ecall, q_lcons, q_lnil, q_ev] at e
    simp [b_law_is_block, slots0, fnEnd, srcOf, hw, e, eqL0, okBk, filt_all]
  | _ => simp [b_law_is_block, slots0, fnEnd, okBk]
theorem eq_stop {S : Sto} {s : Str} {t : List D} : eqD S (.tup (.str s :: t)) (.tup [.str "stop"]) = some (.bl (isTup "stop" 1 (.tup (.str s :: t)))) := by
  cases t with
  | nil =>
    show some (D.bl (decide (s = "stop") && true)) = _
    simp [isTup]
  | cons y t =>
    show some (D.bl (decide (s = "stop") && false)) = _
    simp [isTup]
theorem lst_ok {B : Nat} {p w : Int} {S : Sto} (hB : B ≤ 1000) : ∀ (n k : Nat) (d : D) (lv : Int), okD S B d = true → lv + n = 13 → rn (k + 2 * n + 4) 21 [d, .tup [.int p, .int w], .int lv] S = .ok (.bl (okSt n p w d)) S
  | 0, k, d, lv, h, hl => by
    rw [rn, run_succ (fn := ⟨3, 4, b_law_is_statement⟩) rfl rfl]
    have z : (12 : Int) < lv := by omega
    simp [b_law_is_statement, slots0, z, fnEnd, okSt]
  | n + 1, k, d, lv, h, hl => by
    rw [rn, show k + 2 * (n + 1) + 4 = (k + 2 * n + 5) + 1 by omega, run_succ (fn := ⟨3, 4, b_law_is_statement⟩) rfl rfl]
    have z : ¬ (12 : Int) < lv := by omega
    cases d with
    | loc m => simp [b_law_is_statement, slots0, z, fnEnd, okSt, isi_loc (okD_nt h), isTup]
    | tup xs =>
      match xs, h with
      | [], h => simp [b_law_is_statement, slots0, z, fnEnd, okSt, eqT0]
      | x :: t, h =>
        cases x with
        | str s =>
          by_cases z1 : s = "do"
          · subst z1
            have o1 : isTup "set" 3 (.tup (.str "do" :: t)) = false := by simp [isTup]; intro _; decide +kernel
            have o2 : isTup "if" 4 (.tup (.str "do" :: t)) = false := by simp [isTup]; intro _; decide +kernel
            have o3 : isTup "stop" 1 (.tup (.str "do" :: t)) = false := by simp [isTup]; intro _; decide +kernel
            match t, h, o1, o2, o3 with
            | [], h, o1, o2, o3 => simp [b_law_is_statement, slots0, z, fnEnd, okSt, eqT0, ix0, o3]
            | [y], h, o1, o2, o3 =>
              have ec : run T G 0 (k + 2 * n + 5) 19 [y, .int 0, .int (p - 1)] S = .ok (.bl (isInt 0 (p - 1) y)) S := whole_ok (isi_of h (x := y) (by simp))
              simp [b_law_is_statement, slots0, z, fnEnd, okSt, eqT0, ix0, ix1, ec]
            | y :: u :: t, h, o1, o2, o3 =>
              have zl : ¬ ((t.length : Int) + 1 + 1 + 1 = 2) := by omega
              have o0 : isTup "do" 2 (.tup (.str "do" :: y :: u :: t)) = false := by simp [isTup]
              simp [b_law_is_statement, slots0, z, fnEnd, okSt, eqT0, ix0, zl, o0, o1, o2, o3]
          · have o0 : isTup "do" 2 (.tup (.str s :: t)) = false := by simp [isTup, z1]
            by_cases z2 : s = "set"
            · subst z2
              have o2 : isTup "if" 4 (.tup (.str "set" :: t)) = false := by simp [isTup]; intro _; decide +kernel
              have o3 : isTup "stop" 1 (.tup (.str "set" :: t)) = false := by simp [isTup]; intro _; decide +kernel
              match t, h, o0, o2, o3 with
              | [], h, o0, o2, o3 => simp [b_law_is_statement, slots0, z, z1, fnEnd, okSt, eqT0, ix0, o0, o2, o3]
              | [y], h, o0, o2, o3 => simp [b_law_is_statement, slots0, z, z1, fnEnd, okSt, eqT0, ix0, o0, o2, o3]
              | [y, u], h, o0, o2, o3 =>
                have ec : run T G 0 (k + 2 * n + 5) 19 [y, .int 0, .int (w - 1)] S = .ok (.bl (isInt 0 (w - 1) y)) S := whole_ok (isi_of h (x := y) (by simp))
                have es : run T G 0 (k + 2 * n + 5) 20 [u, .int w, .int (lv + 1)] S = .ok (.bl (okS n w u)) S := by
                  have := lsum_ok (w := w) n (k + n + 2) u (lv + 1) ((okD_tup.mp h).2 u (by simp)) (by omega)
                  rw [show k + n + 2 + n + 3 = k + 2 * n + 5 by omega] at this
                  exact this
                cases zi : isInt 0 (w - 1) y <;> simp [b_law_is_statement, slots0, z, z1, fnEnd, okSt, eqT0, ix0, ix1, ix2, o0, ec, es, zi]
              | y :: u :: v :: t, h, o0, o2, o3 =>
                have zl : ¬ ((t.length : Int) + 1 + 1 + 1 + 1 = 3) := by omega
                have o1 : isTup "set" 3 (.tup (.str "set" :: y :: u :: v :: t)) = false := by simp [isTup]
                simp [b_law_is_statement, slots0, z, z1, fnEnd, okSt, eqT0, ix0, zl, o0, o1, o2, o3]
            · have o1 : isTup "set" 3 (.tup (.str s :: t)) = false := by simp [isTup, z2]
              by_cases z3 : s = "if"
              · subst z3
                have o3 : isTup "stop" 1 (.tup (.str "if" :: t)) = false := by simp [isTup]; intro _; decide +kernel
                by_cases z4 : (t.length : Int) + 1 = 4
                · have z4' : t.length = 3 := by omega
                  match t, z4', h, o0, o1, o3 with
                  | [x, y, u], _, h, o0, o1, o3 =>
                    have es : run T G 0 (k + 2 * n + 5) 20 [x, .int w, .int (lv + 1)] S = .ok (.bl (okS n w x)) S := by
                      have := lsum_ok (w := w) n (k + n + 2) x (lv + 1) ((okD_tup.mp h).2 x (by simp)) (by omega)
                      rw [show k + n + 2 + n + 3 = k + 2 * n + 5 by omega] at this
                      exact this
                    have e1 : run T G 0 (k + 2 * n + 5) 22 [y, .tup [.int p, .int w], .int (lv + 1)] S = .ok (.bl (okBk (okSt n p w) y)) S := lblk_ok y ((okD_tup.mp h).2 y (by simp)) hB fun x hx => lst_ok hB n k x (lv + 1) hx (by omega)
                    have e2 : run T G 0 (k + 2 * n + 5) 22 [u, .tup [.int p, .int w], .int (lv + 1)] S = .ok (.bl (okBk (okSt n p w) u)) S := lblk_ok u ((okD_tup.mp h).2 u (by simp)) hB fun x hx => lst_ok hB n k x (lv + 1) hx (by omega)
                    have sl : slP S (.tup [.str "if", x, y, u]) (some 2) none = some (.tup [y, u]) := rfl
                    cases zi : okS n w x with
                    | false => simp [b_law_is_statement, slots0, z, z1, z2, fnEnd, okSt, eqT0, ix0, ix1, es, zi, o0, o1]
                    | true => cases zj : okBk (okSt n p w) y <;> cases zk : okBk (okSt n p w) u <;> simp [b_law_is_statement, slots0, z, z1, z2, fnEnd, okSt, eqT0, ix0, ix1, es, zi, o0, o1, sl, srcOf, wipeD, lcGo, e1, e2, zj, zk, eqL0]
                · have o2 : isTup "if" 4 (.tup (.str "if" :: t)) = false := by
                    have : ¬ (t.length + 1 = 4) := by omega
                    simp [isTup]; omega
                  simp [b_law_is_statement, slots0, z, z1, z2, z4, fnEnd, okSt, eqT0, ix0, o0, o1, o2, eq_stop]
              · have o2 : isTup "if" 4 (.tup (.str s :: t)) = false := by simp [isTup, z3]
                simp [b_law_is_statement, slots0, z, z1, z2, z3, fnEnd, okSt, eqT0, ix0, o0, o1, o2, eq_stop]
        | loc m =>
          have := isi_of h (x := .loc m) (by simp)
          simp [b_law_is_statement, slots0, z, fnEnd, okSt, eqT0, ix0, isi_loc this, isTup]
        | _ => simp [b_law_is_statement, slots0, z, fnEnd, okSt, eqT0, ix0, isTup]
    | _ => simp [b_law_is_statement, slots0, z, fnEnd, okSt, isTup]
theorem lbk_ok {B : Nat} {p w : Int} {S : Sto} (hB : B ≤ 1000) (n k : Nat) (d : D) (lv : Int) (h : okD S B d = true) (hl : lv + n = 13) : rn (k + 2 * n + 5) 22 [d, .tup [.int p, .int w], .int lv] S = .ok (.bl (okBk (okSt n p w) d)) S :=
  lblk_ok d h hB fun x hx => lst_ok hB n k x lv hx hl
end K21

namespace K21
open PySem PySem.Spec PyProof.Rows L2 Z
/-- parts of sums -/
def nS : Nat → D → Nat
  | 0, _ => 1
  | n + 1, d => match d with
    | .tup [_, y, z] => 1 + nS n y + nS n z
    | _ => 1
def nT : Nat → D → Nat
  | 0, _ => 1
  | n + 1, d => match d with
    | .tup [_, _, z] => 1 + nS n z
    | .tup [_, x, .tup ys, .tup zs] => 1 + nS n x + (ys.map (nT n)).sum + (zs.map (nT n)).sum
    | _ => 1
def nB (n : Nat) : D → Nat
  | .tup ds => (ds.map (nT n)).sum
  | _ => 0
theorem ints_map : ∀ (is : List Int), intsOf (is.map D.int) = some is
  | [] => rfl
  | i :: is => by rw [List.map_cons, intsOf, ints_map is]; rfl
theorem sum_lst {S : Sto} {is : List Int} : sumD S (.lst (is.map D.int)) = some (.int is.sum) := by
  have : asLF S (.lst (is.map D.int)) = some (is.map D.int) := rfl
  unfold sumD
  rw [this]
  simp [ints_map]
/-- what a valid sum looks like -/
theorem isTup_get {w : Str} {n : Nat} {d : D} (h : isTup w n d = true) : ∃ t, d = .tup (.str w :: t) ∧ t.length + 1 = n := by
  cases d with
  | tup xs =>
    cases xs with
    | nil => cases h
    | cons x t =>
      cases x with
      | str s =>
        simp only [isTup_str, Bool.and_eq_true, decide_eq_true_eq] at h
        obtain ⟨h1, rfl⟩ := h
        exact ⟨t, rfl, h1⟩
      | _ => cases h
  | _ => cases h
theorem okS_cases {n : Nat} {w : Int} {d : D} (h : okS (n + 1) w d = true) : (∃ s, d = .str s) ∨ (∃ i, d = .int i) ∨ (∃ y, d = .tup [.str "cell", y]) ∨ ∃ s y z, d = .tup [.str s, y, z] ∧ isOp s = true ∧ okS n w y = true ∧ okS n w z = true := by
  cases d with
  | str s => exact .inl ⟨_, rfl⟩
  | int i => exact .inr (.inl ⟨i, rfl⟩)
  | tup xs =>
    unfold okS at h
    simp only [] at h
    split at h
    · rename_i ht
      obtain ⟨t, e, hl⟩ := isTup_get ht
      cases e
      match t, hl with
      | [y], _ => exact .inr (.inr (.inl ⟨y, rfl⟩))
    · split at h
      · rename_i s y z _
        simp only [Bool.and_eq_true] at h
        exact .inr (.inr (.inr ⟨s, y, z, rfl, h.1, h.2.1, h.2.2⟩))
      · cases h
  | _ => simp [okS, isInt] at h
theorem sp_ok {w : Int} {S : Sto} : ∀ (n k : Nat) (d : D), okS n w d = true → rn (k + n) 8 [d] S = .ok (.int (nS n d)) S
  | 0, k, d, h => by simp [okS] at h
  | n + 1, k, d, h => by
    rw [rn, show k + (n + 1) = (k + n) + 1 by omega, run_succ (fn := ⟨1, 1, b_sum_parts⟩) rfl rfl]
    rcases okS_cases h with ⟨s, rfl⟩ | ⟨i, rfl⟩ | ⟨y, rfl⟩ | ⟨s, y, z, rfl, h1, h2, h3⟩
    · simp [b_sum_parts, slots0, fnEnd, nS]
    · simp [b_sum_parts, slots0, fnEnd, nS]
    · simp [b_sum_parts, slots0, fnEnd, nS]
    · have e1 := sp_ok n k y h2 (S := S)
      have e2 := sp_ok n k z h3 (S := S)
      simp only [rn] at e1 e2
      simp [b_sum_parts, slots0, fnEnd, nS, ix1, ix2, e1, e2]
theorem op_not {s : Str} (h : isOp s = true) : s ≠ "do" ∧ s ≠ "stop" ∧ s ≠ "cell" ∧ s ≠ "set" := by
  refine ⟨?_, ?_, ?_, ?_⟩ <;> (rintro rfl; revert h; decide +kernel)
theorem in_dsc {S : Sto} {s : Str} : inD S (.str s) (.tup [.str "do", .str "stop", .str "cell"]) = some (.bl (decide (s = "do") || (decide (s = "stop") || decide (s = "cell")))) := by
  simp [inD, inP, asQ, flatD, eqF, beqS]
theorem lp_ok {w : Int} {S : Sto} : ∀ (n k : Nat) (d : D), okS n w d = true → rn (k + n) 23 [d] S = .ok (.int (nS n d)) S
  | 0, k, d, h => by simp [okS] at h
  | n + 1, k, d, h => by
    rw [rn, show k + (n + 1) = (k + n) + 1 by omega, run_succ (fn := ⟨1, 2, b_law_parts⟩) rfl rfl]
    rcases okS_cases h with ⟨s, rfl⟩ | ⟨i, rfl⟩ | ⟨y, rfl⟩ | ⟨s, y, z, rfl, h1, h2, h3⟩
    · simp [b_law_parts, slots0, fnEnd, nS]
    · simp [b_law_parts, slots0, fnEnd, nS]
    · simp [b_law_parts, slots0, fnEnd, nS, neT0, ix0, in_dsc]
    · have e1 := lp_ok n k y h2 (S := S)
      have e2 := lp_ok n k z h3 (S := S)
      simp only [rn] at e1 e2
      obtain ⟨g1, g2, g3, g4⟩ := op_not h1
      have sl : slP S (.tup [.str s, y, z]) (some 1) none = some (.tup [y, z]) := rfl
      have sm := sum_lst (S := S) (is := [(nS n y : Int), (nS n z : Int)])
      simp only [List.map_cons, List.map_nil] at sm
      simp [b_law_parts, slots0, fnEnd, nS, neT0, ix0, in_dsc, g1, g2, g3, g4, sl, srcOf, wipeD, lcGo, e1, e2, sm]
      omega
end K21

namespace K21
open PySem PySem.Spec PyProof.Rows L2 Z
@[simp] theorem ne_do_set : (("do" : Str) = "set") = False := eq_false (by decide +kernel)
@[simp] theorem ne_do_if : (("do" : Str) = "if") = False := eq_false (by decide +kernel)
@[simp] theorem ne_do_stop : (("do" : Str) = "stop") = False := eq_false (by decide +kernel)
@[simp] theorem ne_do_cell : (("do" : Str) = "cell") = False := eq_false (by decide +kernel)
@[simp] theorem ne_set_do : (("set" : Str) = "do") = False := eq_false (by decide +kernel)
@[simp] theorem ne_set_if : (("set" : Str) = "if") = False := eq_false (by decide +kernel)
@[simp] theorem ne_set_stop : (("set" : Str) = "stop") = False := eq_false (by decide +kernel)
@[simp] theorem ne_set_cell : (("set" : Str) = "cell") = False := eq_false (by decide +kernel)
@[simp] theorem ne_if_do : (("if" : Str) = "do") = False := eq_false (by decide +kernel)
@[simp] theorem ne_if_set : (("if" : Str) = "set") = False := eq_false (by decide +kernel)
@[simp] theorem ne_if_stop : (("if" : Str) = "stop") = False := eq_false (by decide +kernel)
@[simp] theorem ne_if_cell : (("if" : Str) = "cell") = False := eq_false (by decide +kernel)
@[simp] theorem ne_stop_do : (("stop" : Str) = "do") = False := eq_false (by decide +kernel)
@[simp] theorem ne_stop_set : (("stop" : Str) = "set") = False := eq_false (by decide +kernel)
@[simp] theorem ne_stop_if : (("stop" : Str) = "if") = False := eq_false (by decide +kernel)
@[simp] theorem ne_stop_cell : (("stop" : Str) = "cell") = False := eq_false (by decide +kernel)
@[simp] theorem ne_cell_do : (("cell" : Str) = "do") = False := eq_false (by decide +kernel)
@[simp] theorem ne_cell_set : (("cell" : Str) = "set") = False := eq_false (by decide +kernel)
@[simp] theorem ne_cell_if : (("cell" : Str) = "if") = False := eq_false (by decide +kernel)
@[simp] theorem ne_cell_stop : (("cell" : Str) = "stop") = False := eq_false (by decide +kernel)
theorem okBk_get {f : D → Bool} {d : D} (h : okBk f d = true) : ∃ ds, d = .tup ds ∧ ∀ x ∈ ds, f x = true := by
  cases d with
  | tup ds => exact ⟨ds, rfl, fun x hx => List.all_eq_true.mp h x hx⟩
  | _ => cases h
theorem okSt_cases {n : Nat} {p w : Int} {d : D} (h : okSt (n + 1) p w d = true) : (∃ y, d = .tup [.str "do", y]) ∨ (∃ y z, d = .tup [.str "set", y, z] ∧ okS n w z = true) ∨
    (∃ x ys zs, d = .tup [.str "if", x, .tup ys, .tup zs] ∧ okS n w x = true ∧ (∀ y ∈ ys, okSt n p w y = true) ∧ ∀ z ∈ zs, okSt n p w z = true) ∨ d = .tup [.str "stop"] := by
  unfold okSt at h
  split at h
  · rename_i ht
    obtain ⟨t, rfl, hl⟩ := isTup_get ht
    match t, hl with
    | [y], _ => exact .inl ⟨y, rfl⟩
  · split at h
    · rename_i ht
      obtain ⟨t, rfl, hl⟩ := isTup_get ht
      match t, hl with
      | [y, z], _ =>
        simp only [Bool.and_eq_true] at h
        exact .inr (.inl ⟨y, z, rfl, h.2⟩)
    · split at h
      · rename_i ht
        obtain ⟨t, rfl, hl⟩ := isTup_get ht
        match t, hl with
        | [x, y, z], _ =>
          simp only [Bool.and_eq_true] at h
          obtain ⟨ys, rfl, hy⟩ := okBk_get h.2.1
          obtain ⟨zs, rfl, hz⟩ := okBk_get h.2.2
          exact .inr (.inr (.inl ⟨x, ys, zs, rfl, h.1, hy, hz⟩))
      · obtain ⟨t, rfl, hl⟩ := isTup_get h
        match t, hl with
        | [], _ => exact .inr (.inr (.inr rfl))
def bpB : Ss := (.cons (.aug 1 .Add (.c (.int 1))) (.cons (.ite (.cmp .Eq (.ix (.v 2) (.c (.int 0))) (.c (.str "set"))) (.cons (.aug 1 .Add (.call 8 (.cons (.ix (.v 2) (.c (.int 2))) .nil))) .nil) (.cons (.ite (.cmp .Eq (.ix (.v 2) (.c (.int 0))) (.c (.str "if"))) (.cons (.aug 1 .Add (.op .Add (.op .Add (.call 8 (.cons (.ix (.v 2) (.c (.int 1))) .nil)) (.call 9 (.cons (.ix (.v 2) (.c (.int 2))) .nil))) (.call 9 (.cons (.ix (.v 2) (.c (.int 3))) .nil)))) .nil) .nil) .nil)) .nil))
theorem bpt_ok {k : Nat} {ds : List D} {S : Sto} {w : D → Nat} (h : ∀ d ∈ ds, ∀ (x : Int) (o : Option D), dSs G (run T G 0 k) 0 bpB [o, some (.int x), some d] S = .ok .nx [o, some (.int (x + w d)), some d] S) :
    rn (k + 1) 9 [.tup ds] S = .ok (.int ((ds.map w).sum : Nat)) S := by
  rw [rn, run_succ (fn := ⟨1, 3, b_block_parts⟩) rfl rfl]
  obtain ⟨sd', S', e1, e2⟩ := for_inv (ds := ds) (g := gNm 2) (b := dSs G (run T G 0 k) 0 bpB)
    (fun i sd S' => S' = S ∧ ∃ o p, sd = [o, some (.int (((ds.take i).map w).sum : Nat)), p])
    (fun i d sd S' hd hP => by
      obtain ⟨rfl, o, p, rfl⟩ := hP
      refine ⟨[o, some (.int (((ds.take i).map w).sum : Nat)), some d], S', by simp, _, _, .inl (h d (List.mem_of_getElem? hd) _ o), rfl, o, some d, ?_⟩
      have : ds.take (i + 1) = ds.take i ++ [d] := by rw [List.take_add_one, hd]; rfl
      rw [this]
      simp) ds.length 0 [some (.tup ds), some (.int 0), none] S (by simp) ⟨rfl, _, _, rfl⟩
  obtain ⟨rfl, o, p, rfl⟩ := e2
  have a1 : dSs G (run T G 0 k) 0 b_block_parts (slots0 3 [.tup ds]) S' = mThen (mFor (mSeq (mVar 0)) (gNm 2) (dSs G (run T G 0 k) 0 bpB)) (mThen (mRet (mVar 1)) mSkip) [some (.tup ds), some (.int 0), none] S' := rfl
  rw [a1]
  have a2 : mFor (mSeq (mVar 0)) (gNm 2) (dSs G (run T G 0 k) 0 bpB) [some (.tup ds), some (.int 0), none] S' = .ok .nx [o, some (.int (((ds.take ds.length).map w).sum : Nat)), p] S' := by
    rw [q_mFor]
    have : mSeq (mVar 0) [some (D.tup ds), some (.int 0), none] S' = .ok (.vals ds) S' := rfl
    rw [this]
    exact e1
  rw [then_nx a2, List.take_length]
  rfl
theorem bp_ok {p w : Int} {S : Sto} : ∀ (n k : Nat) (ds : List D), (∀ d ∈ ds, okSt n p w d = true) → rn (k + n + 1) 9 [.tup ds] S = .ok (.int ((ds.map (nT n)).sum : Nat)) S
  | 0, k, ds, h => bpt_ok fun d hd => by have := h d hd; simp [okSt] at this
  | n + 1, k, ds, h => by
    refine bpt_ok fun d hd x o => ?_
    rcases okSt_cases (h d hd) with ⟨y, rfl⟩ | ⟨y, z, rfl, h1⟩ | ⟨y, ys, zs, rfl, h1, h2, h3⟩ | rfl
    · simp [bpB, ix0, nT]
    · have e1 := sp_ok n (k + 1) z h1 (S := S)
      rw [show k + 1 + n = k + (n + 1) by omega] at e1
      simp only [rn] at e1
      simp [bpB, ix0, ix2, nT, e1]
      omega
    · have e1 := sp_ok n (k + 1) y h1 (S := S)
      rw [show k + 1 + n = k + (n + 1) by omega] at e1
      have e2 := bp_ok n k ys h2 (S := S)
      have e3 := bp_ok n k zs h3 (S := S)
      simp only [rn] at e1 e2 e3
      rw [show k + n + 1 = k + (n + 1) by omega] at e2 e3
      simp [bpB, ix0, ix1, ix2, ix3, nT, e1, e2, e3]
      generalize ((ys.map (nT n)).sum : Int) = aa
      omega
    · simp [bpB, ix0, nT]
theorem sum_map {S : Sto} {f : D → Nat} {ds : List D} : sumD S (.lst (ds.map fun d => .int (f d))) = some (.int ((ds.map f).sum : Nat)) := by
  have := sum_lst (S := S) (is := ds.map fun d => (f d : Int))
  rw [List.map_map] at this
  refine (show sumD S (.lst (ds.map fun d => .int (f d))) = _ from this).trans ?_
  congr 2
  clear this
  induction ds with
  | nil => rfl
  | cons d ds ih => rw [List.map_cons, List.sum_cons, ih, List.map_cons, List.sum_cons]; omega
/-- parts of a block, by the law's own count -/
theorem lpb_of {B k : Nat} {S : Sto} {f : D → Nat} {ds : List D} (hB : B ≤ 1000) (h : okD S B (.tup ds) = true) (ht : ∀ d ∈ ds, ∃ xs, d = .tup xs) (ih : ∀ d ∈ ds, rn k 23 [d] S = .ok (.int (f d)) S) : rn (k + 1) 23 [.tup ds] S = .ok (.int ((ds.map f).sum : Nat)) S := by
  rw [rn, run_succ (fn := ⟨1, 2, b_law_parts⟩) rfl rfl]
  have hl := (okD_tup.mp h).1
  have e : lcGo (.vals ds) (gNm 1) mYes (dE G (run T G 0 k) (.call 23 (.cons (.v 1) .nil))) [some (.tup ds), none] ds.length 0 [] S = .ok (ds.map fun d => .int (f d)) S := by
    rw [lc_pure (p := fun x => true) (h := fun d => .int (f d)) (fun x hx => ⟨[some (.tup ds), some x], by simp, rfl, fun _ => by
      have := ih x hx
      simp only [rn] at this
      simp [this]⟩) _ 0 [] (by simp) (by simp; omega)]
    rw [List.drop_zero, List.filter_eq_self.mpr fun _ _ => rfl]; rfl
  have hw : wipeD [some (D.tup ds), none] [1] = [some (.tup ds), none] := rfl
  simp only [q_ecall, q_lcons, q_lnil, q_ev] at e
  have sm := sum_map (S := S) (f := f) (ds := ds)
  cases ds with
  | nil =>
    simp only [List.map_nil, List.length_nil, List.sum_nil] at e sm ⊢
    simp [b_law_parts, slots0, fnEnd, neT0, srcOf, hw, e, sm]
  | cons x t =>
    obtain ⟨xs, rfl⟩ := ht x (by simp)
    simp only [List.map_cons, List.length_cons, List.sum_cons] at e sm ⊢
    simp [b_law_parts, slots0, fnEnd, neT0, ix0, srcOf, hw, e, sm]
theorem okSt_tup {n : Nat} {p w : Int} {d : D} (h : okSt n p w d = true) : ∃ xs, d = .tup xs := by
  cases n with
  | zero => simp [okSt] at h
  | succ n => rcases okSt_cases h with ⟨y, rfl⟩ | ⟨y, z, rfl, h1⟩ | ⟨y, ys, zs, rfl, h1, h2, h3⟩ | rfl <;> exact ⟨_, rfl⟩
theorem lpT_ok {B : Nat} {p w : Int} {S : Sto} (hB : B ≤ 1000) : ∀ (n k : Nat) (d : D), okD S B d = true → okSt n p w d = true → rn (k + 2 * n) 23 [d] S = .ok (.int (nT n d)) S
  | 0, k, d, hd, h => by simp [okSt] at h
  | n + 1, k, d, hd, h => by
    rw [rn, show k + 2 * (n + 1) = (k + 2 * n + 1) + 1 by omega, run_succ (fn := ⟨1, 2, b_law_parts⟩) rfl rfl]
    rcases okSt_cases h with ⟨y, rfl⟩ | ⟨y, z, rfl, h1⟩ | ⟨y, ys, zs, rfl, h1, h2, h3⟩ | rfl
    · simp [b_law_parts, slots0, fnEnd, neT0, ix0, in_dsc, nT]
    · have e1 := lp_ok n (k + n + 1) z h1 (S := S)
      rw [show k + n + 1 + n = k + 2 * n + 1 by omega] at e1
      simp only [rn] at e1
      have sl : slP S (.tup [.str "set", y, z]) (some 2) none = some (.tup [z]) := rfl
      have sm := sum_lst (S := S) (is := [(nS n z : Int)])
      simp only [List.map_cons, List.map_nil] at sm
      have g : ¬ (("set" : Str) = "do") ∧ ¬ (("set" : Str) = "stop") ∧ ¬ (("set" : Str) = "cell") := by decide +kernel
      simp [b_law_parts, slots0, fnEnd, neT0, ix0, in_dsc, nT, g, sl, srcOf, wipeD, lcGo, e1, sm]
    · have e1 := lp_ok n (k + n + 1) y h1 (S := S)
      rw [show k + n + 1 + n = k + 2 * n + 1 by omega] at e1
      have m1 := (okD_tup.mp hd).2 (.tup ys) (by simp)
      have m2 := (okD_tup.mp hd).2 (.tup zs) (by simp)
      have e2 := lpb_of hB m1 (fun d hd => okSt_tup (h2 d hd)) (fun d hd => lpT_ok hB n k d ((okD_tup.mp m1).2 d hd) (h2 d hd))
      have e3 := lpb_of hB m2 (fun d hd => okSt_tup (h3 d hd)) (fun d hd => lpT_ok hB n k d ((okD_tup.mp m2).2 d hd) (h3 d hd))
      simp only [rn] at e1 e2 e3
      have sl : slP S (.tup [.str "if", y, .tup ys, .tup zs]) (some 1) none = some (.tup [y, .tup ys, .tup zs]) := rfl
      have sm := sum_lst (S := S) (is := [(nS n y : Int), (((ys.map (nT n)).sum : Nat) : Int), (((zs.map (nT n)).sum : Nat) : Int)])
      simp only [List.map_cons, List.map_nil] at sm
      have g : ¬ (("if" : Str) = "do") ∧ ¬ (("if" : Str) = "stop") ∧ ¬ (("if" : Str) = "cell") ∧ ¬ (("if" : Str) = "set") := by decide +kernel
      simp [b_law_parts, slots0, fnEnd, neT0, ix0, in_dsc, nT, g, sl, srcOf, wipeD, lcGo, e1, e2, e3, sm]
      omega
    · have g : ¬ (("stop" : Str) = "do") := by decide +kernel
      simp [b_law_parts, slots0, fnEnd, neT0, ix0, in_dsc, nT, g]
theorem lpb_ok {B : Nat} {p w : Int} {S : Sto} (hB : B ≤ 1000) (n k : Nat) (ds : List D) (h : okD S B (.tup ds) = true) (ho : ∀ d ∈ ds, okSt n p w d = true) : rn (k + 2 * n + 1) 23 [.tup ds] S = .ok (.int ((ds.map (nT n)).sum : Nat)) S :=
  lpb_of hB h (fun d hd => okSt_tup (ho d hd)) (fun d hd => lpT_ok hB n k d ((okD_tup.mp h).2 d hd) (ho d hd))
end K21

namespace K21
open PySem PySem.Spec PyProof.Rows L2 Z
def pe0 : S1 := (.ite (.bo .Or (.cons (.not (.tru (.isi (.v 0) .tuple))) (.cons (.cmp .NotEq (.bf .len (.cons (.v 0) .nil)) (.c (.int 6))) .nil))) (.cons (.ret (.c (.str "program"))) .nil) .nil)
def pe1 : S1 := (.asg (.tup (.cons (.nm 1) (.cons (.nm 2) (.cons (.nm 3) (.cons (.nm 4) (.cons (.nm 5) (.cons (.nm 6) .nil))))))) (.v 0))
def pe2 : S1 := (.ite (.bo .Or (.cons (.not (.tru (.call 0 (.cons (.v 1) (.cons (.c (.int 1)) (.cons (.g 1) .nil)))))) (.cons (.not (.tru (.call 0 (.cons (.v 2) (.cons (.c (.int 1)) (.cons (.g 1) .nil)))))) .nil))) (.cons (.ret (.c (.str "letters"))) .nil) .nil)
def pe3 : S1 := (.ite (.not (.tru (.call 0 (.cons (.v 3) (.cons (.c (.int 1)) (.cons (.g 2) .nil)))))) (.cons (.ret (.c (.str "works"))) .nil) .nil)
def pe4 : S1 := (.ite (.not (.tru (.call 6 (.cons (.v 4) .nil)))) (.cons (.ret (.c (.str "cells"))) .nil) .nil)
def pe5 : S1 := (.ite (.not (.tru (.call 5 (.cons (.v 5) (.cons (.v 3) (.cons (.bf .len (.cons (.v 4) .nil)) (.cons (.c (.int 1)) .nil))))))) (.cons (.ret (.c (.str "body"))) .nil) .nil)
def pe6 : S1 := (.ite (.not (.tru (.call 5 (.cons (.v 6) (.cons (.v 3) (.cons (.bf .len (.cons (.v 4) .nil)) (.cons (.c (.int 1)) .nil))))))) (.cons (.ret (.c (.str "tail"))) .nil) .nil)
def pe7 : S1 := (.ret (.ifx (.cmp .Gt (.call 10 (.cons (.v 0) .nil)) (.g 6)) (.c (.str "parts")) (.c .non)))
theorem pe_is : b_program_error = (.cons pe0 (.cons pe1 (.cons pe2 (.cons pe3 (.cons pe4 (.cons pe5 (.cons pe6 (.cons pe7 .nil)))))))) := by kernel_rfl
def du0 : S1 := (.ite (.bo .Or (.cons (.not (.tru (.isi (.v 0) .tuple))) (.cons (.cmp .NotEq (.bf .len (.cons (.v 0) .nil)) (.c (.int 6))) .nil))) (.cons (.ret (.c (.str "program"))) .nil) .nil)
def du1 : S1 := (.ite (.bo .Or (.cons (.not (.tru (.call 19 (.cons (.ix (.v 0) (.c (.int 0))) (.cons (.c (.int 1)) (.cons (.c (.int 3)) .nil)))))) (.cons (.not (.tru (.call 19 (.cons (.ix (.v 0) (.c (.int 1))) (.cons (.c (.int 1)) (.cons (.c (.int 3)) .nil)))))) .nil))) (.cons (.ret (.c (.str "letters"))) .nil) .nil)
def du2 : S1 := (.ite (.not (.tru (.call 19 (.cons (.ix (.v 0) (.c (.int 2))) (.cons (.c (.int 1)) (.cons (.c (.int 5)) .nil)))))) (.cons (.ret (.c (.str "works"))) .nil) .nil)
def du3 : S1 := (.par [3, 4] (.cons (.ix (.v 0) (.c (.int 3))) (.cons (.c (.int 1)) .nil)))
def du4 : S1 := (.ite (.bo .Or (.cons (.not (.tru (.isi (.v 3) .tuple))) (.cons (.not (.ch .LtE .LtE (.c (.int 1)) (.bf .len (.cons (.v 3) .nil)) (.c (.int 4)))) (.cons (.cmp .NotEq (.lc false (.nm 5) (.seq (.v 3)) (.some (.not (.tru (.call 19 (.cons (.v 5) (.cons (.c (.int 2)) (.cons (.c (.int 4)) .nil))))))) (.c (.int 1)) [("_law_one_here", 5)]) (.lst false .nil)) .nil)))) (.cons (.ret (.c (.str "cells"))) .nil) .nil)
def du5 : S1 := (.for_ (.nm 1) (.seq (.v 3)) (.cons (.asg (.nm 4) (.op .Mult (.v 4) (.v 1))) .nil))
def du6 : S1 := (.ite (.cmp .Gt (.v 4) (.c (.int 24))) (.cons (.ret (.c (.str "cells"))) .nil) .nil)
def du7 : S1 := (.for_ (.nm 2) (.seq (.tup (.cons (.c (.int 4)) (.cons (.c (.int 5)) .nil)))) (.cons (.ite (.not (.tru (.call 22 (.cons (.ix (.v 0) (.v 2)) (.cons (.tup (.cons (.ix (.v 0) (.c (.int 2))) (.cons (.bf .len (.cons (.v 3) .nil)) .nil))) (.cons (.c (.int 1)) .nil)))))) (.cons (.ret (.ix (.lst false (.cons (.c (.str "body")) (.cons (.c (.str "tail")) .nil))) (.op .Sub (.v 2) (.c (.int 4))))) .nil) .nil) .nil))
def du8 : S1 := (.ret (.ifx (.cmp .Gt (.op .Add (.call 23 (.cons (.ix (.v 0) (.c (.int 4))) .nil)) (.call 23 (.cons (.ix (.v 0) (.c (.int 5))) .nil))) (.c (.int 400))) (.c (.str "parts")) (.c .non)))
theorem du_is : b_law_due = (.cons du0 (.cons du1 (.cons du2 (.cons du3 (.cons du4 (.cons du5 (.cons du6 (.cons du7 (.cons du8 .nil))))))))) := by kernel_rfl
def ac0 : S1 := (.ite (.bo .Or (.cons (.not (.tru (.isi (.v 0) .tuple))) (.cons (.not (.ch .LtE .LtE (.c (.int 1)) (.bf .len (.cons (.v 0) .nil)) (.g 3))) .nil))) (.cons (.ret (.c (.bl false))) .nil) .nil)
def ac1 : S1 := (.ite (.cmp .NotEq (.lc false (.nm 1) (.seq (.v 0)) (.some (.not (.tru (.call 0 (.cons (.v 1) (.cons (.c (.int 2)) (.cons (.g 4) .nil))))))) (.v 1) [("size", 1)]) (.lst false .nil)) (.cons (.ret (.c (.bl false))) .nil) .nil)
def ac2 : S1 := (.ret (.cmp .LtE (.call 7 (.cons (.v 0) .nil)) (.g 5)))
theorem ac_is : b_are_cells = (.cons ac0 (.cons ac1 (.cons ac2 .nil))) := by kernel_rfl
theorem g1 : G[1]? = some (.int 3) := rfl
theorem g2 : G[2]? = some (.int 5) := rfl
theorem g3 : G[3]? = some (.int 4) := rfl
theorem g4 : G[4]? = some (.int 4) := rfl
theorem g5 : G[5]? = some (.int 24) := rfl
theorem g6 : G[6]? = some (.int 400) := rfl
def intOf : D → Int
  | .int i => i
  | _ => 0
def prodD (xs : List D) : Int := xs.foldl (fun a x => a * intOf x) 1
def okC : D → Bool
  | .tup xs => decide (1 ≤ xs.length) && (decide (xs.length ≤ 4) && (xs.all (isInt 2 4) && decide (prodD xs ≤ 24)))
  | _ => false
def lenOf : D → Nat
  | .tup xs => xs.length
  | _ => 0
def errD : D → D
  | .tup [a, b, c, e, f, g] => if !isInt 1 3 a || !isInt 1 3 b then .str "letters" else if !isInt 1 5 c then .str "works" else if !okC e then .str "cells"
    else if !okBk (okSt 12 (intOf c) (lenOf e)) f then .str "body" else if !okBk (okSt 12 (intOf c) (lenOf e)) g then .str "tail" else if 400 < nB 12 f + nB 12 g then .str "parts" else .non
  | _ => .str "program"
theorem isInt_get {lo hi : Int} {d : D} (h : isInt lo hi d = true) : ∃ i, d = .int i ∧ lo ≤ i ∧ i ≤ hi := by
  cases d with
  | int i =>
    simp only [isInt, Bool.and_eq_true, decide_eq_true_eq] at h
    exact ⟨i, rfl, h.1, h.2⟩
  | _ => cases h
theorem prod_snoc {xs : List D} {d : D} : prodD (xs ++ [d]) = prodD xs * intOf d := by
  unfold prodD; rw [List.foldl_append]; rfl
theorem stands_ok {k : Nat} {S : Sto} {xs : List D} (h : ∀ x ∈ xs, isInt 2 4 x = true) : rn (k + 1) 7 [.tup xs] S = .ok (.int (prodD xs)) S := by
  rw [rn, run_succ (fn := ⟨1, 3, b_stands_of⟩) rfl rfl]
  obtain ⟨sd', S', e1, e2⟩ := for_inv (ds := xs) (g := gNm 2) (b := dSs G (run T G 0 k) 0 (.cons (.aug 1 .Mult (.v 2)) .nil))
    (fun i sd S' => S' = S ∧ ∃ o p, sd = [o, some (.int (prodD (xs.take i))), p])
    (fun i d sd S' hd hP => by
      obtain ⟨rfl, o, p, rfl⟩ := hP
      obtain ⟨j, rfl, h1, h2⟩ := isInt_get (h d (List.mem_of_getElem? hd))
      have mu : iopF .Mult S' (.int (prodD (xs.take i))) (.int j) = some (.int (prodD (xs.take i) * j)) := by
        have : -18446744073709551616 < j ∧ j < 18446744073709551616 := by omega
        simp [iopF, intP, imulI, this]
      refine ⟨[o, some (.int (prodD (xs.take i))), some (.int j)], S', by simp, [o, some (.int (prodD (xs.take i) * j)), some (.int j)], S', .inl (by simp [mu]), rfl, o, some (.int j), ?_⟩
      have : xs.take (i + 1) = xs.take i ++ [.int j] := by rw [List.take_add_one, hd]; rfl
      rw [this, prod_snoc]; rfl) xs.length 0 [some (.tup xs), some (.int 1), none] S (by simp) ⟨rfl, _, _, rfl⟩
  obtain ⟨rfl, o, p, rfl⟩ := e2
  have s1 : dS G (run T G 0 k) 0 (.for_ (.nm 2) (.seq (.v 0)) (.cons (.aug 1 .Mult (.v 2)) .nil)) [some (.tup xs), some (.int 1), none] S' = .ok .nx [o, some (.int (prodD (xs.take xs.length))), p] S' := by
    simp only [q_sfor, q_mFor, q_iseq, q_mSeq, q_ev]
    exact e1
  have s0 : dSs G (run T G 0 k) 0 b_stands_of (slots0 3 [.tup xs]) S' = mThen (dS G (run T G 0 k) 0 (.for_ (.nm 2) (.seq (.v 0)) (.cons (.aug 1 .Mult (.v 2)) .nil))) (mThen (mRet (mVar 1)) mSkip) [some (.tup xs), some (.int 1), none] S' := rfl
  rw [s0, then_nx s1, List.take_length]
  rfl
theorem cells_ok {B k : Nat} {S : Sto} {d : D} (hB : B ≤ 1000) (h : okD S B d = true) : rn (k + 2) 6 [d] S = .ok (.bl (okC d)) S := by
  rw [rn, run_succ (fn := ⟨1, 2, b_are_cells⟩) rfl rfl, ac_is]
  cases d with
  | loc m => simp [ac0, slots0, fnEnd, isi_loc (okD_nt h), okC]
  | tup xs =>
    obtain ⟨hl, hd⟩ := okD_tup.mp h
    have e : lcGo (.vals xs) (gNm 1) (dT G (run T G 0 (k + 1)) (.not (.tru (.call 0 (.cons (.v 1) (.cons (.c (.int 2)) (.cons (.g 4) .nil))))))) (mVar 1) [some (.tup xs), none] xs.length 0 [] S = .ok (xs.filter fun x => !isInt 2 4 x) S := by
      rw [lc_pure (p := fun x => !isInt 2 4 x) (h := id) (fun x hx => ⟨[some (.tup xs), some x], by simp, by
        have := int_ok (k := k) (lo := 2) (hi := 4) (okD_nt (hd x hx))
        simp only [rn] at this
        simp [this, g4], fun _ => by simp⟩) _ 0 [] (by simp) (by simp; omega)]
      simp
    have hw : wipeD [some (D.tup xs), none] [1] = [some (.tup xs), none] := rfl
    simp only [q_tnot, q_ttru, q_ecall, q_lcons, q_lnil, q_ev, q_ec, q_eg] at e
    by_cases z1 : (1 : Int) ≤ xs.length
    · have z1' : 1 ≤ xs.length := by omega
      by_cases z2 : (xs.length : Int) ≤ 4
      · have z2' : xs.length ≤ 4 := by omega
        have s0 : dS G (run T G 0 (k + 1)) 0 ac0 (slots0 2 [.tup xs]) S = .ok .nx [some (.tup xs), none] S := by
          simp [ac0, slots0, g3, z1, z2]
        rw [q_scons, then_nx s0, q_scons]
        cases za : xs.all (isInt 2 4) with
        | false =>
          have s1 : dS G (run T G 0 (k + 1)) 0 ac1 [some (.tup xs), none] S = .ok (.rt (.bl false)) [some (.tup xs), none] S := by
            simp [ac1, srcOf, hw, e, neL0, filt_all, za]
          rw [then_rt s1]
          simp [fnEnd, okC, za]
        | true =>
          have s1 : dS G (run T G 0 (k + 1)) 0 ac1 [some (.tup xs), none] S = .ok .nx [some (.tup xs), none] S := by
            simp [ac1, srcOf, hw, e, neL0, filt_all, za]
          have st := stands_ok (k := k) (S := S) (fun x hx => List.all_eq_true.mp za x hx)
          simp only [rn] at st
          rw [then_nx s1]
          simp [ac2, g5, st, fnEnd, okC, za, z1', z2']
      · have z2' : ¬ xs.length ≤ 4 := by omega
        have s0 : dS G (run T G 0 (k + 1)) 0 ac0 (slots0 2 [.tup xs]) S = .ok (.rt (.bl false)) [some (.tup xs), none] S := by
          simp [ac0, slots0, g3, z1, z2]
        rw [q_scons, then_rt s0]
        simp [fnEnd, okC, z2']
    · have z1' : ¬ 1 ≤ xs.length := by omega
      have s0 : dS G (run T G 0 (k + 1)) 0 ac0 (slots0 2 [.tup xs]) S = .ok (.rt (.bl false)) [some (.tup xs), none] S := by
        simp [ac0, slots0, g3, z1]
      rw [q_scons, then_rt s0]
      have : xs.length = 0 := by omega
      simp [fnEnd, okC, this]
  | _ => simp [ac0, slots0, fnEnd, okC]
/-! ### both tell the same -/
theorem six {α : Type} {xs : List α} (h : xs.length = 6) : ∃ a b c e f g, xs = [a, b, c, e, f, g] := by
  match xs, h with
  | [a, b, c, e, f, g], _ => exact ⟨a, b, c, e, f, g, rfl⟩
theorem errD_not6 {xs : List D} (h : ¬ xs.length = 6) : errD (.tup xs) = .str "program" := by
  unfold errD
  split
  · rename_i heq
    cases heq
    exact absurd rfl h
  · rfl
theorem errD6 {a b c e f g : D} : errD (.tup [a, b, c, e, f, g]) = (if (!isInt 1 3 a || !isInt 1 3 b) = true then .str "letters" else if (!isInt 1 5 c) = true then .str "works" else if (!okC e) = true then .str "cells"
    else if (!okBk (okSt 12 (intOf c) (lenOf e)) f) = true then .str "body" else if (!okBk (okSt 12 (intOf c) (lenOf e)) g) = true then .str "tail" else if 400 < nB 12 f + nB 12 g then .str "parts" else .non) := rfl
theorem er_l {a b c e f g : D} (za : (!isInt 1 3 a || !isInt 1 3 b) = true) : errD (.tup [a, b, c, e, f, g]) = .str "letters" := by rw [errD6, if_pos za]
theorem er_w {a b c e f g : D} (za : (!isInt 1 3 a || !isInt 1 3 b) = false) (zc : isInt 1 5 c = false) : errD (.tup [a, b, c, e, f, g]) = .str "works" := by rw [errD6, if_neg (by rw [za]; decide), if_pos (by rw [zc]; rfl)]
theorem er_c {a b c e f g : D} (za : (!isInt 1 3 a || !isInt 1 3 b) = false) (zc : isInt 1 5 c = true) (ze : okC e = false) : errD (.tup [a, b, c, e, f, g]) = .str "cells" := by rw [errD6, if_neg (by rw [za]; decide), if_neg (by rw [zc]; decide), if_pos (by rw [ze]; rfl)]
theorem er_b {a b f g : D} {p : Int} {es : List D} (za : (!isInt 1 3 a || !isInt 1 3 b) = false) (zc : isInt 1 5 (.int p) = true) (ze : okC (.tup es) = true) (zf : okBk (okSt 12 p es.length) f = false) : errD (.tup [a, b, .int p, .tup es, f, g]) = .str "body" := by
  rw [errD6, if_neg (by rw [za]; decide), if_neg (by rw [zc]; decide), if_neg (by rw [ze]; decide), if_pos (by show (!okBk (okSt 12 p es.length) f) = true; rw [zf]; rfl)]
theorem er_t {a b f g : D} {p : Int} {es : List D} (za : (!isInt 1 3 a || !isInt 1 3 b) = false) (zc : isInt 1 5 (.int p) = true) (ze : okC (.tup es) = true) (zf : okBk (okSt 12 p es.length) f = true) (zg : okBk (okSt 12 p es.length) g = false) : errD (.tup [a, b, .int p, .tup es, f, g]) = .str "tail" := by
  rw [errD6, if_neg (by rw [za]; decide), if_neg (by rw [zc]; decide), if_neg (by rw [ze]; decide), if_neg (by show ¬ (!okBk (okSt 12 p es.length) f) = true; rw [zf]; decide), if_pos (by show (!okBk (okSt 12 p es.length) g) = true; rw [zg]; rfl)]
theorem er_p {a b f g : D} {p : Int} {es : List D} (za : (!isInt 1 3 a || !isInt 1 3 b) = false) (zc : isInt 1 5 (.int p) = true) (ze : okC (.tup es) = true) (zf : okBk (okSt 12 p es.length) f = true) (zg : okBk (okSt 12 p es.length) g = true) : errD (.tup [a, b, .int p, .tup es, f, g]) = if 400 < nB 12 f + nB 12 g then .str "parts" else .non := by
  rw [errD6, if_neg (by rw [za]; decide), if_neg (by rw [zc]; decide), if_neg (by rw [ze]; decide), if_neg (by show ¬ (!okBk (okSt 12 p es.length) f) = true; rw [zf]; decide), if_neg (by show ¬ (!okBk (okSt 12 p es.length) g) = true; rw [zg]; decide)]
theorem parts_ok {p w : Int} {k : Nat} {S : Sto} {a b c e f g : D} (hf : okBk (okSt 12 p w) f = true) (hg : okBk (okSt 12 p w) g = true) : rn (k + 14) 10 [.tup [a, b, c, e, f, g]] S = .ok (.int (nB 12 f + nB 12 g : Nat)) S := by
  rw [rn, run_succ (fn := ⟨1, 1, b_parts⟩) rfl rfl]
  obtain ⟨ys, rfl, h1⟩ := okBk_get hf
  obtain ⟨zs, rfl, h2⟩ := okBk_get hg
  have i4 : ixP S (.tup [a, b, c, e, .tup ys, .tup zs]) (.int 4) = some (.tup ys) := ixT (i := 4) rfl
  have i5 : ixP S (.tup [a, b, c, e, .tup ys, .tup zs]) (.int 5) = some (.tup zs) := ixT (i := 5) rfl
  have e1 := bp_ok 12 k ys h1 (S := S)
  have e2 := bp_ok 12 k zs h2 (S := S)
  simp only [rn] at e1 e2
  rw [show k + 12 + 1 = k + 13 by omega] at e1 e2
  simp [b_parts, slots0, i4, i5, e1, e2, fnEnd, nB]
theorem perr_ok {B k : Nat} {S : Sto} {d : D} (hB : B ≤ 1000) (h : okD S B d = true) : rn (k + 40) 11 [d] S = .ok (errD d) S := by
  rw [rn, run_succ (fn := ⟨1, 7, b_program_error⟩) rfl rfl, pe_is]
  cases d with
  | loc m => simp [pe0, slots0, fnEnd, isi_loc (okD_nt h), errD]
  | tup xs =>
    by_cases z : (xs.length : Int) = 6
    · obtain ⟨a, b, c, e, f, g, rfl⟩ := six (show xs.length = 6 by omega)
      have hm := (okD_tup.mp h).2
      have s0 : dS G (run T G 0 (k + 39)) 0 pe0 (slots0 7 [.tup [a, b, c, e, f, g]]) S = .ok .nx [some (.tup [a, b, c, e, f, g]), none, none, none, none, none, none] S := by kernel_rfl
      have s1 : dS G (run T G 0 (k + 39)) 0 pe1 [some (.tup [a, b, c, e, f, g]), none, none, none, none, none, none] S = .ok .nx [some (.tup [a, b, c, e, f, g]), some a, some b, some c, some e, some f, some g] S := by kernel_rfl
      rw [q_scons, then_nx s0, q_scons, then_nx s1, q_scons]
      have ea : run T G 0 (k + 39) 0 [a, .int 1, .int 3] S = .ok (.bl (isInt 1 3 a)) S := int_ok (okD_nt (hm a (by simp)))
      have eb : run T G 0 (k + 39) 0 [b, .int 1, .int 3] S = .ok (.bl (isInt 1 3 b)) S := int_ok (okD_nt (hm b (by simp)))
      have ec : run T G 0 (k + 39) 0 [c, .int 1, .int 5] S = .ok (.bl (isInt 1 5 c)) S := int_ok (okD_nt (hm c (by simp)))
      have ee : run T G 0 (k + 39) 6 [e] S = .ok (.bl (okC e)) S := cells_ok hB (hm e (by simp))
      cases za : (!isInt 1 3 a || !isInt 1 3 b) with
      | true =>
        have s2 : dS G (run T G 0 (k + 39)) 0 pe2 [some (.tup [a, b, c, e, f, g]), some a, some b, some c, some e, some f, some g] S = .ok (.rt (.str "letters")) [some (.tup [a, b, c, e, f, g]), some a, some b, some c, some e, some f, some g] S := by
          cases ia : isInt 1 3 a with
          | false => simp [pe2, g1, ea, ia]
          | true =>
            have ib : isInt 1 3 b = false := by rw [ia] at za; simpa using za
            simp [pe2, g1, ea, ia, eb, ib]
        rw [then_rt s2, er_l za]; rfl
      | false =>
        have ia : isInt 1 3 a = true ∧ isInt 1 3 b = true := by simpa using za
        have s2 : dS G (run T G 0 (k + 39)) 0 pe2 [some (.tup [a, b, c, e, f, g]), some a, some b, some c, some e, some f, some g] S = .ok .nx [some (.tup [a, b, c, e, f, g]), some a, some b, some c, some e, some f, some g] S := by
          simp [pe2, g1, ea, eb, ia]
        rw [then_nx s2, q_scons]
        cases zc : isInt 1 5 c with
        | false =>
          have s3 : dS G (run T G 0 (k + 39)) 0 pe3 [some (.tup [a, b, c, e, f, g]), some a, some b, some c, some e, some f, some g] S = .ok (.rt (.str "works")) [some (.tup [a, b, c, e, f, g]), some a, some b, some c, some e, some f, some g] S := by
            simp [pe3, g2, ec, zc]
          rw [then_rt s3, er_w za zc]; rfl
        | true =>
          have s3 : dS G (run T G 0 (k + 39)) 0 pe3 [some (.tup [a, b, c, e, f, g]), some a, some b, some c, some e, some f, some g] S = .ok .nx [some (.tup [a, b, c, e, f, g]), some a, some b, some c, some e, some f, some g] S := by
            simp [pe3, g2, ec, zc]
          rw [then_nx s3, q_scons]
          cases ze : okC e with
          | false =>
            have s4 : dS G (run T G 0 (k + 39)) 0 pe4 [some (.tup [a, b, c, e, f, g]), some a, some b, some c, some e, some f, some g] S = .ok (.rt (.str "cells")) [some (.tup [a, b, c, e, f, g]), some a, some b, some c, some e, some f, some g] S := by
              simp [pe4, ee, ze]
            rw [then_rt s4, er_c za zc ze]; rfl
          | true =>
            have s4 : dS G (run T G 0 (k + 39)) 0 pe4 [some (.tup [a, b, c, e, f, g]), some a, some b, some c, some e, some f, some g] S = .ok .nx [some (.tup [a, b, c, e, f, g]), some a, some b, some c, some e, some f, some g] S := by
              simp [pe4, ee, ze]
            rw [then_nx s4, q_scons]
            obtain ⟨p, rfl, _, _⟩ := isInt_get zc
            have hw : ∃ es, e = .tup es := by
              cases e with
              | tup es => exact ⟨es, rfl⟩
              | _ => cases ze
            obtain ⟨es, rfl⟩ := hw
            have ef : run T G 0 (k + 39) 5 [f, .int p, .int es.length, .int 1] S = .ok (.bl (okBk (okSt 12 p es.length) f)) S := bk_ok (k := k + 10) hB 12 f 1 (hm f (by simp)) (by decide)
            have eg : run T G 0 (k + 39) 5 [g, .int p, .int es.length, .int 1] S = .ok (.bl (okBk (okSt 12 p es.length) g)) S := bk_ok (k := k + 10) hB 12 g 1 (hm g (by simp)) (by decide)
            cases zf : okBk (okSt 12 p es.length) f with
            | false =>
              have s5 : dS G (run T G 0 (k + 39)) 0 pe5 [some (.tup [a, b, .int p, .tup es, f, g]), some a, some b, some (.int p), some (.tup es), some f, some g] S = .ok (.rt (.str "body")) [some (.tup [a, b, .int p, .tup es, f, g]), some a, some b, some (.int p), some (.tup es), some f, some g] S := by
                simp [pe5, ef, zf]
              rw [then_rt s5, er_b za zc ze zf]; rfl
            | true =>
              have s5 : dS G (run T G 0 (k + 39)) 0 pe5 [some (.tup [a, b, .int p, .tup es, f, g]), some a, some b, some (.int p), some (.tup es), some f, some g] S = .ok .nx [some (.tup [a, b, .int p, .tup es, f, g]), some a, some b, some (.int p), some (.tup es), some f, some g] S := by
                simp [pe5, ef, zf]
              rw [then_nx s5, q_scons]
              cases zg : okBk (okSt 12 p es.length) g with
              | false =>
                have s6 : dS G (run T G 0 (k + 39)) 0 pe6 [some (.tup [a, b, .int p, .tup es, f, g]), some a, some b, some (.int p), some (.tup es), some f, some g] S = .ok (.rt (.str "tail")) [some (.tup [a, b, .int p, .tup es, f, g]), some a, some b, some (.int p), some (.tup es), some f, some g] S := by
                  simp [pe6, eg, zg]
                rw [then_rt s6, er_t za zc ze zf zg]; rfl
              | true =>
                have s6 : dS G (run T G 0 (k + 39)) 0 pe6 [some (.tup [a, b, .int p, .tup es, f, g]), some a, some b, some (.int p), some (.tup es), some f, some g] S = .ok .nx [some (.tup [a, b, .int p, .tup es, f, g]), some a, some b, some (.int p), some (.tup es), some f, some g] S := by
                  simp [pe6, eg, zg]
                rw [then_nx s6, q_scons]
                have ep : run T G 0 (k + 39) 10 [.tup [a, b, .int p, .tup es, f, g]] S = .ok (.int (nB 12 f + nB 12 g : Nat)) S := parts_ok (k := k + 25) zf zg
                rw [er_p za zc ze zf zg]
                by_cases zp : 400 < nB 12 f + nB 12 g
                · have zp' : (400 : Int) < (nB 12 f + nB 12 g : Nat) := by omega
                  rw [if_pos zp]
                  simp only [Int.natCast_add] at zp' ep
                  simp [pe7, ep, g6, zp', fnEnd]
                · have zp' : ¬ (400 : Int) < (nB 12 f + nB 12 g : Nat) := by omega
                  rw [if_neg zp]
                  simp only [Int.natCast_add] at zp' ep
                  simp [pe7, ep, g6, zp', fnEnd]
    · rw [errD_not6 (by omega)]
      simp [pe0, slots0, fnEnd, z]
  | _ => simp [pe0, slots0, fnEnd, errD]
end K21

namespace K21
open PySem PySem.Spec PyProof.Rows L2 Z
theorem room_ok {C : Nat → List D → Sto → Out D} {S : Sto} {xs : List D} (v o2 o5 : Option D) (h : ∀ x ∈ xs, isInt 2 4 x = true) : ∃ q, dS G C 0 du5 [v, none, o2, some (.tup xs), some (.int 1), o5] S = .ok .nx [v, q, o2, some (.tup xs), some (.int (prodD xs)), o5] S := by
  obtain ⟨sd', S', e1, e2⟩ := for_inv (ds := xs) (g := gNm 1) (b := dSs G C 0 (.cons (.asg (.nm 4) (.op .Mult (.v 4) (.v 1))) .nil))
    (fun i sd S' => S' = S ∧ ∃ q, sd = [v, q, o2, some (.tup xs), some (.int (prodD (xs.take i))), o5])
    (fun i d sd S' hd hP => by
      obtain ⟨rfl, q, rfl⟩ := hP
      obtain ⟨j, rfl, h1, h2⟩ := isInt_get (h d (List.mem_of_getElem? hd))
      have mu : mulP S' (.int (prodD (xs.take i))) (.int j) = some (.int (prodD (xs.take i) * j)) := by
        have : -18446744073709551616 < j ∧ j < 18446744073709551616 := by omega
        simp [mulP, mulI, this]
      refine ⟨[v, some (.int j), o2, some (.tup xs), some (.int (prodD (xs.take i))), o5], S', by simp, [v, some (.int j), o2, some (.tup xs), some (.int (prodD (xs.take i) * j)), o5], S', .inl (by simp [mu]), rfl, some (.int j), ?_⟩
      have : xs.take (i + 1) = xs.take i ++ [.int j] := by rw [List.take_add_one, hd]; rfl
      rw [this, prod_snoc]; rfl) xs.length 0 [v, none, o2, some (.tup xs), some (.int 1), o5] S (by simp) ⟨rfl, none, rfl⟩
  obtain ⟨rfl, q, rfl⟩ := e2
  refine ⟨q, ?_⟩
  unfold du5
  simp only [q_sfor, q_mFor, q_iseq, q_mSeq, q_ev]
  rw [List.take_length] at e1
  exact e1
theorem due_ok {B k : Nat} {S : Sto} {d : D} (hB : B ≤ 1000) (h : okD S B d = true) : rn (k + 40) 24 [d] S = .ok (errD d) S := by
  rw [rn, run_succ (fn := ⟨1, 6, b_law_due⟩) rfl rfl, du_is]
  cases d with
  | loc m => simp [du0, slots0, fnEnd, isi_loc (okD_nt h), errD]
  | tup xs =>
    by_cases z : (xs.length : Int) = 6
    · obtain ⟨a, b, c, e, f, g, rfl⟩ := six (show xs.length = 6 by omega)
      have hm := (okD_tup.mp h).2
      generalize hP : D.tup [a, b, c, e, f, g] = P
      have p0 : ixP S P (.int 0) = some a := by rw [← hP]; rfl
      have p1 : ixP S P (.int 1) = some b := by rw [← hP]; rfl
      have p2 : ixP S P (.int 2) = some c := by rw [← hP]; rfl
      have p4 : ixP S P (.int 4) = some f := by rw [← hP]; rfl
      have p5 : ixP S P (.int 5) = some g := by rw [← hP]; rfl
      have s0 : dS G (run T G 0 (k + 39)) 0 du0 (slots0 6 [P]) S = .ok .nx [some P, none, none, none, none, none] S := by
        subst hP; kernel_rfl
      rw [q_scons, then_nx s0, q_scons]
      have ea : run T G 0 (k + 39) 19 [a, .int 1, .int 3] S = .ok (.bl (isInt 1 3 a)) S := whole_ok (okD_nt (hm a (by simp)))
      have eb : run T G 0 (k + 39) 19 [b, .int 1, .int 3] S = .ok (.bl (isInt 1 3 b)) S := whole_ok (okD_nt (hm b (by simp)))
      have ec : run T G 0 (k + 39) 19 [c, .int 1, .int 5] S = .ok (.bl (isInt 1 5 c)) S := whole_ok (okD_nt (hm c (by simp)))
      cases za : (!isInt 1 3 a || !isInt 1 3 b) with
      | true =>
        have s2 : dS G (run T G 0 (k + 39)) 0 du1 [some P, none, none, none, none, none] S = .ok (.rt (.str "letters")) [some P, none, none, none, none, none] S := by
          cases ia : isInt 1 3 a with
          | false => simp [du1, p0, ea, ia]
          | true =>
            have ib : isInt 1 3 b = false := by rw [ia] at za; simpa using za
            simp [du1, p0, p1, ea, ia, eb, ib]
        rw [then_rt s2, ← hP, er_l za]; rfl
      | false =>
        have ia : isInt 1 3 a = true ∧ isInt 1 3 b = true := by simpa using za
        have s2 : dS G (run T G 0 (k + 39)) 0 du1 [some P, none, none, none, none, none] S = .ok .nx [some P, none, none, none, none, none] S := by
          simp [du1, p0, p1, ea, eb, ia]
        rw [then_nx s2, q_scons]
        cases zc : isInt 1 5 c with
        | false =>
          have s3 : dS G (run T G 0 (k + 39)) 0 du2 [some P, none, none, none, none, none] S = .ok (.rt (.str "works")) [some P, none, none, none, none, none] S := by
            simp [du2, p2, ec, zc]
          rw [then_rt s3, ← hP, er_w za zc]; rfl
        | true =>
          have s3 : dS G (run T G 0 (k + 39)) 0 du2 [some P, none, none, none, none, none] S = .ok .nx [some P, none, none, none, none, none] S := by
            simp [du2, p2, ec, zc]
          have s4 : dS G (run T G 0 (k + 39)) 0 du3 [some P, none, none, none, none, none] S = .ok .nx [some P, none, none, some e, some (.int 1), none] S := by
            subst hP; kernel_rfl
          rw [then_nx s3, q_scons, then_nx s4, q_scons]
          -- the cells
          have cells : (okC e = false ∧ ((dS G (run T G 0 (k + 39)) 0 du4 [some P, none, none, some e, some (.int 1), none] S = .ok (.rt (.str "cells")) [some P, none, none, some e, some (.int 1), none] S) ∨ (dS G (run T G 0 (k + 39)) 0 du4 [some P, none, none, some e, some (.int 1), none] S = .ok .nx [some P, none, none, some e, some (.int 1), none] S ∧ ∃ xs, e = .tup xs ∧ (∀ x ∈ xs, isInt 2 4 x = true) ∧ 24 < prodD xs))) ∨
              (okC e = true ∧ dS G (run T G 0 (k + 39)) 0 du4 [some P, none, none, some e, some (.int 1), none] S = .ok .nx [some P, none, none, some e, some (.int 1), none] S ∧ ∃ xs, e = .tup xs ∧ (∀ x ∈ xs, isInt 2 4 x = true) ∧ prodD xs ≤ 24) := by
            have he := hm e (by simp)
            clear hP
            cases e with
            | loc m => exact .inl ⟨rfl, .inl (by simp [du4, isi_loc (okD_nt he)])⟩
            | tup xs =>
              obtain ⟨hl, hd⟩ := okD_tup.mp he
              have e : lcGo (.vals xs) (gNm 5) (dT G (run T G 0 (k + 39)) (.not (.tru (.call 19 (.cons (.v 5) (.cons (.c (.int 2)) (.cons (.c (.int 4)) .nil))))))) (mC (.int 1)) [some P, none, none, some (.tup xs), some (.int 1), none] xs.length 0 [] S = .ok ((xs.filter fun x => !isInt 2 4 x).map fun _ => .int 1) S := by
                rw [lc_pure (p := fun x => !isInt 2 4 x) (h := fun _ => .int 1) (fun x hx => ⟨[some P, none, none, some (.tup xs), some (.int 1), some x], by simp, by
                  have := whole_ok (k := k + 38) (lo := 2) (hi := 4) (okD_nt (hd x hx))
                  simp only [rn] at this
                  simp [this], fun _ => by simp⟩) _ 0 [] (by simp) (by simp; omega)]
                simp
              have hw : wipeD [some P, none, none, some (D.tup xs), some (.int 1), none] [5] = [some P, none, none, some (.tup xs), some (.int 1), none] := rfl
              simp only [q_tnot, q_ttru, q_ecall, q_lcons, q_lnil, q_ev, q_ec] at e
              have em : ((xs.filter fun x => !isInt 2 4 x).map fun _ => D.int 1).isEmpty = xs.all (isInt 2 4) := by
                rw [← filt_all]; cases (xs.filter fun x => !isInt 2 4 x) <;> rfl
              by_cases z1 : (1 : Int) ≤ xs.length
              · have z1' : 1 ≤ xs.length := by omega
                by_cases z2 : (xs.length : Int) ≤ 4
                · have z2' : xs.length ≤ 4 := by omega
                  cases zx : xs.all (isInt 2 4) with
                  | false =>
                    refine .inl ⟨by simp [okC, zx], .inl ?_⟩
                    simp [du4, z1, z2, srcOf, hw, e, neL0, em, zx]
                  | true =>
                    have hx : ∀ x ∈ xs, isInt 2 4 x = true := fun x hx => List.all_eq_true.mp zx x hx
                    have dd : dS G (run T G 0 (k + 39)) 0 du4 [some P, none, none, some (.tup xs), some (.int 1), none] S = .ok .nx [some P, none, none, some (.tup xs), some (.int 1), none] S := by
                      simp [du4, z1, z2, srcOf, hw, e, neL0, em, zx]
                    by_cases zp : prodD xs ≤ 24
                    · exact .inr ⟨by simp [okC, z1', z2', zx, zp], dd, xs, rfl, hx, zp⟩
                    · exact .inl ⟨by simp [okC, zp], .inr ⟨dd, xs, rfl, hx, by omega⟩⟩
                · have z2' : ¬ xs.length ≤ 4 := by omega
                  refine .inl ⟨by simp [okC, z2'], .inl ?_⟩
                  simp [du4, z1, z2]
              · have z1' : xs.length = 0 := by omega
                refine .inl ⟨by simp [okC, z1'], .inl ?_⟩
                simp [du4, z1]
            | _ => exact .inl ⟨rfl, .inl (by simp [du4])⟩
          rcases cells with ⟨ze, s5 | ⟨s5, es, rfl, hx, zp⟩⟩ | ⟨ze, s5, es, rfl, hx, zp⟩
          · rw [then_rt s5, ← hP, er_c za zc ze]; rfl
          · obtain ⟨q, s6⟩ := room_ok (C := run T G 0 (k + 39)) (S := S) (some P) none none hx
            have s7 : dS G (run T G 0 (k + 39)) 0 du6 [some P, q, none, some (.tup es), some (.int (prodD es)), none] S = .ok (.rt (.str "cells")) [some P, q, none, some (.tup es), some (.int (prodD es)), none] S := by
              simp [du6, zp]
            rw [then_nx s5, q_scons, then_nx s6, q_scons, then_rt s7, ← hP, er_c za zc ze]; rfl
          · obtain ⟨q, s6⟩ := room_ok (C := run T G 0 (k + 39)) (S := S) (some P) none none hx
            have zp' : ¬ (24 : Int) < prodD es := by omega
            have s7 : dS G (run T G 0 (k + 39)) 0 du6 [some P, q, none, some (.tup es), some (.int (prodD es)), none] S = .ok .nx [some P, q, none, some (.tup es), some (.int (prodD es)), none] S := by
              simp [du6, zp']
            rw [then_nx s5, q_scons, then_nx s6, q_scons, then_nx s7, q_scons]
            obtain ⟨p, rfl, _, _⟩ := isInt_get zc
            have ef : run T G 0 (k + 39) 22 [f, .tup [.int p, .int es.length], .int 1] S = .ok (.bl (okBk (okSt 12 p es.length) f)) S := lbk_ok (k := k + 10) hB 12 f 1 (hm f (by simp)) (by decide)
            have eg : run T G 0 (k + 39) 22 [g, .tup [.int p, .int es.length], .int 1] S = .ok (.bl (okBk (okSt 12 p es.length) g)) S := lbk_ok (k := k + 10) hB 12 g 1 (hm g (by simp)) (by decide)
            have bt0 : ixP S (.lst [.str "body", .str "tail"]) (.int 0) = some (.str "body") := rfl
            have bt1 : ixP S (.lst [.str "body", .str "tail"]) (.int 1) = some (.str "tail") := rfl
            cases zf : okBk (okSt 12 p es.length) f with
            | false =>
              have s8 : dS G (run T G 0 (k + 39)) 0 du7 [some P, q, none, some (.tup es), some (.int (prodD es)), none] S = .ok (.rt (.str "body")) [some P, q, some (.int 4), some (.tup es), some (.int (prodD es)), none] S := by
                simp [du7, srcOf, forGo, p2, p4, ef, zf, bt0]
              rw [then_rt s8, ← hP, er_b za zc ze zf]; rfl
            | true =>
              cases zg : okBk (okSt 12 p es.length) g with
              | false =>
                have s8 : dS G (run T G 0 (k + 39)) 0 du7 [some P, q, none, some (.tup es), some (.int (prodD es)), none] S = .ok (.rt (.str "tail")) [some P, q, some (.int 5), some (.tup es), some (.int (prodD es)), none] S := by
                  simp [du7, srcOf, forGo, p2, p4, p5, ef, zf, eg, zg, bt1]
                rw [then_rt s8, ← hP, er_t za zc ze zf zg]; rfl
              | true =>
                have s8 : dS G (run T G 0 (k + 39)) 0 du7 [some P, q, none, some (.tup es), some (.int (prodD es)), none] S = .ok .nx [some P, q, some (.int 5), some (.tup es), some (.int (prodD es)), none] S := by
                  simp [du7, srcOf, forGo, p2, p4, p5, ef, zf, eg, zg]
                rw [then_nx s8, q_scons, ← hP, er_p za zc ze zf zg, hP]
                obtain ⟨ys, rfl, y1⟩ := okBk_get zf
                obtain ⟨zs, rfl, z1⟩ := okBk_get zg
                have l1 : run T G 0 (k + 39) 23 [.tup ys] S = .ok (.int (nB 12 (.tup ys))) S := lpb_ok hB 12 (k + 14) ys (hm _ (by simp)) y1
                have l2 : run T G 0 (k + 39) 23 [.tup zs] S = .ok (.int (nB 12 (.tup zs))) S := lpb_ok hB 12 (k + 14) zs (hm _ (by simp)) z1
                by_cases zq : 400 < nB 12 (.tup ys) + nB 12 (.tup zs)
                · have zq' : (400 : Int) < (nB 12 (.tup ys) : Int) + (nB 12 (.tup zs) : Int) := by omega
                  rw [if_pos zq]
                  simp [du8, p4, p5, l1, l2, zq', fnEnd]
                · have zq' : ¬ (400 : Int) < (nB 12 (.tup ys) : Int) + (nB 12 (.tup zs) : Int) := by omega
                  rw [if_neg zq]
                  simp [du8, p4, p5, l1, l2, zq', fnEnd]
    · rw [errD_not6 (by omega)]
      simp [du0, slots0, fnEnd, z]
  | _ => simp [du0, slots0, fnEnd, errD]
end K21

namespace K21
open PySem PySem.Spec PyProof.Rows L2 Z
theorem drw {k : Nat} {S : Sto} {n : Int} {m : Nat} (h : Dk S 0 1 n) (hn : 0 ≤ n) (hn2 : n < 1000000) (hm : 0 < m) (hm2 : m < 1000000) :
    ∃ (r : Nat) (S' : Sto), run T G 0 (k + 1) 13 [.loc 1, .int m] S = .ok (.int r) S' ∧ r < m ∧ Dk S' 0 1 (n + 1) ∧ ∀ X, Kp S S' X :=
  drwG (p := 2147483477) (q := 6833) (t := 17) (u := 2147483543) rfl (by decide) h hn hn2 hm hm2
theorem one {k : Nat} {S : Sto} {n : Int} {xs : List D} (h : Dk S 0 1 n) (hn : 0 ≤ n) (hn2 : n < 1000000) (hm : 0 < xs.length) (hm2 : xs.length < 1000000) :
    ∃ (d : D) (S' : Sto), run T G 0 (k + 2) 14 [.loc 1, .lst xs] S = .ok d S' ∧ d ∈ xs ∧ Dk S' 0 1 (n + 1) ∧ ∀ X, Kp S S' X :=
  oneG (p := 2147483477) (q := 6833) (t := 17) (u := 2147483543) rfl rfl (by decide) h hn hn2 hm hm2
mutual
theorem okD_mono {S S' : Sto} {B B' : Nat} (hS : ∀ (n : Nat) (kvs : List (Key × D)), S[n]? = some (MO.dic kvs) → S'[n]? = some (MO.dic kvs)) (hB : B ≤ B') : ∀ d : D, okD S B d = true → okD S' B' d = true
  | .tup xs, h => by
    unfold okD at h ⊢
    rw [Bool.and_eq_true] at h ⊢
    exact ⟨decide_eq_true (Nat.le_trans (of_decide_eq_true h.1) hB), okDs_mono hS hB xs h.2⟩
  | .loc n, h => by
    unfold okD at h ⊢
    split at h
    · rename_i kvs e; rw [hS n kvs e]
    · cases h
  | .fro _, h => by unfold okD at h; cases h
  | .non, h => rfl
  | .bl _, h => rfl
  | .int _, h => rfl
  | .str _, h => rfl
  | .lst _, h => rfl
theorem okDs_mono {S S' : Sto} {B B' : Nat} (hS : ∀ (n : Nat) (kvs : List (Key × D)), S[n]? = some (MO.dic kvs) → S'[n]? = some (MO.dic kvs)) (hB : B ≤ B') : ∀ xs : List D, okDs S B xs = true → okDs S' B' xs = true
  | [], h => by unfold okDs; rfl
  | x :: xs, h => by
    unfold okDs at h ⊢
    rw [Bool.and_eq_true] at h ⊢
    exact ⟨okD_mono hS hB x h.1, okDs_mono hS hB xs h.2⟩
end
/-- a drawn sum -/
structure SumV (w : Int) (dep : Nat) (d : D) : Prop where
  ok : ∀ m, okS (m + dep + 1) w d = true
  pl : okD [] 4 d = true
  pt : ∀ m, nS m d ≤ 2 * dep + 1
theorem op_mem {d : D} (h : d ∈ [D.str "plus", .str "times", .str "less", .str "same", .str "same", .str "less"]) : ∃ s, d = .str s ∧ isOp s = true := by
  simp only [List.mem_cons, List.not_mem_nil, or_false] at h
  rcases h with rfl | rfl | rfl | rfl | rfl | rfl <;> exact ⟨_, rfl, by decide +kernel⟩
theorem ks_mem {d : D} (h : d ∈ [D.str "known", .str "secret", .str "secret"]) {w : Int} {dep : Nat} : SumV w dep d := by
  simp only [List.mem_cons, List.not_mem_nil, or_false] at h
  rcases h with rfl | rfl | rfl <;> exact ⟨fun m => by simp [okS], rfl, fun m => by cases m <;> simp [nS]⟩
theorem num_v {w : Int} {dep : Nat} {r : Nat} (h : r < 10) : SumV w dep (.int r) := ⟨fun m => by simp [okS, isInt]; omega, rfl, fun m => by cases m <;> simp [nS]⟩
theorem cell_v {w : Int} {dep : Nat} {r : Nat} (h : (r : Int) < w) : SumV w dep (.tup [.str "cell", .int r]) := ⟨fun m => by simp [okS, isInt]; omega, rfl, fun m => by cases m <;> simp [nS]⟩
theorem op_v {w : Int} {s : Str} {y z : D} (hs : isOp s = true) (hy : SumV w 0 y) (hz : SumV w 0 z) : SumV w 1 (.tup [.str s, y, z]) := by
  refine ⟨fun m => ?_, ?_, fun m => ?_⟩
  · have h1 := hy.ok m
    have h2 := hz.ok m
    rw [show m + 1 + 1 = (m + 0 + 1) + 1 by omega]
    generalize m + 0 + 1 = q at h1 h2 ⊢
    simp [okS, isTup, hs, h1, h2]
  · exact okD_tup.mpr ⟨by simp, fun d hd => by
      simp only [List.mem_cons, List.not_mem_nil, or_false] at hd
      rcases hd with rfl | rfl | rfl
      · rfl
      · exact hy.pl
      · exact hz.pl⟩
  · cases m with
    | zero => simp [nS]
    | succ m =>
      have h1 := hy.pt m
      have h2 := hz.pt m
      simp only [nS]
      omega
theorem draw_sum {w : Nat} (hw : 0 < w) (hw2 : w < 1000) : ∀ (dep : Nat) (k : Nat) (S : Sto) (n : Int), dep ≤ 1 → Dk S 0 1 n → 0 ≤ n → n + 10 * dep < 900000 →
    ∃ d S' n', run T G 0 (k + dep + 3) 15 [.loc 1, .int w, .int dep] S = .ok d S' ∧ SumV w dep d ∧ Dk S' 0 1 n' ∧ n ≤ n' ∧ n' ≤ n + 2 + 4 * dep ∧ ∀ X, Kp S S' X := by
  intro dep
  induction dep with
  | zero =>
    intro k S n hd h hn hn2
    obtain ⟨r, S1, e1, l1, d1, k1⟩ := drw (k := k + 1) (m := 4) h hn (by omega) (by decide) (by decide)
    simp at e1
    rcases (show (r : Int) < 2 ∨ r = 2 ∨ r = 3 by omega) with z | rfl | rfl
    · obtain ⟨d, S2, e2, l2, d2, k2⟩ := one (k := k) (xs := [D.str "known", .str "secret", .str "secret"]) d1 (by omega) (by omega) (by decide) (by decide)
      refine ⟨d, S2, n + 1 + 1, (run_succ (fn := ⟨3, 5, b_law_sum⟩) rfl rfl).trans ?_, ks_mem l2, d2, by omega, by omega, fun X => (k1 X).trans (k2 X)⟩
      simp [b_law_sum, slots0, e1, z, e2, fnEnd]
    · obtain ⟨r, S2, e2, l2, d2, k2⟩ := drw (k := k + 1) (m := 4) d1 (by omega) (by omega) (by decide) (by decide)
      simp at e2
      refine ⟨_, S2, n + 1 + 1, (run_succ (fn := ⟨3, 5, b_law_sum⟩) rfl rfl).trans ?_, num_v (by omega : r < 10), d2, by omega, by omega, fun X => (k1 X).trans (k2 X)⟩
      simp [b_law_sum, slots0, e1, e2, fnEnd]
    · obtain ⟨r, S2, e2, l2, d2, k2⟩ := drw (k := k + 1) (m := w) d1 (by omega) (by omega) hw (by omega)
      refine ⟨_, S2, n + 1 + 1, (run_succ (fn := ⟨3, 5, b_law_sum⟩) rfl rfl).trans ?_, cell_v (by omega : (r : Int) < w), d2, by omega, by omega, fun X => (k1 X).trans (k2 X)⟩
      simp [b_law_sum, slots0, e1, e2, fnEnd]
  | succ dep ih =>
    intro k S n hd h hn hn2
    have z0 : dep = 0 := by omega
    subst z0
    obtain ⟨r, S1, e1, l1, d1, k1⟩ := drw (k := k + 2) (m := 6) h hn (by omega) (by decide) (by decide)
    simp at e1
    rcases (show (r : Int) < 2 ∨ r = 2 ∨ r = 3 ∨ (¬ ((r : Int) < 2) ∧ ¬ ((r : Int) = 2) ∧ ¬ ((r : Int) = 3)) by omega) with z | rfl | rfl | ⟨z1, z2, z3⟩
    · obtain ⟨d, S2, e2, l2, d2, k2⟩ := one (k := k + 1) (xs := [D.str "known", .str "secret", .str "secret"]) d1 (by omega) (by omega) (by decide) (by decide)
      refine ⟨d, S2, n + 1 + 1, (run_succ (fn := ⟨3, 5, b_law_sum⟩) rfl rfl).trans ?_, ks_mem l2, d2, by omega, by omega, fun X => (k1 X).trans (k2 X)⟩
      simp [b_law_sum, slots0, e1, z, e2, fnEnd]
    · obtain ⟨r, S2, e2, l2, d2, k2⟩ := drw (k := k + 2) (m := 4) d1 (by omega) (by omega) (by decide) (by decide)
      simp at e2
      refine ⟨_, S2, n + 1 + 1, (run_succ (fn := ⟨3, 5, b_law_sum⟩) rfl rfl).trans ?_, num_v (by omega : r < 10), d2, by omega, by omega, fun X => (k1 X).trans (k2 X)⟩
      simp [b_law_sum, slots0, e1, e2, fnEnd]
    · obtain ⟨r, S2, e2, l2, d2, k2⟩ := drw (k := k + 2) (m := w) d1 (by omega) (by omega) hw (by omega)
      refine ⟨_, S2, n + 1 + 1, (run_succ (fn := ⟨3, 5, b_law_sum⟩) rfl rfl).trans ?_, cell_v (by omega : (r : Int) < w), d2, by omega, by omega, fun X => (k1 X).trans (k2 X)⟩
      simp [b_law_sum, slots0, e1, e2, fnEnd]
    · obtain ⟨d, S2, e2, l2, d2, k2⟩ := one (k := k + 1) (xs := [D.str "plus", .str "times", .str "less", .str "same", .str "same", .str "less"]) d1 (by omega) (by omega) (by decide) (by decide)
      obtain ⟨s, rfl, hs⟩ := op_mem l2
      obtain ⟨y, S3, n3, e3, v3, d3, g3, g3', k3⟩ := ih k S2 (n + 1 + 1) (by omega) d2 (by omega) (by omega)
      obtain ⟨u, S4, n4, e4, v4, d4, g4, g4', k4⟩ := ih k S3 n3 (by omega) d3 (by omega) (by omega)
      refine ⟨.tup [.str s, y, u], S4, n4, (run_succ (fn := ⟨3, 5, b_law_sum⟩) rfl rfl).trans ?_, op_v hs v3 v4, d4, by omega, by omega, fun X => (((k1 X).trans (k2 X)).trans (k3 X)).trans (k4 X)⟩
      simp at e3 e4
      simp [b_law_sum, slots0, e1, z1, z2, z3, e2, e3, e4, fnEnd]
end K21

namespace K21
open PySem PySem.Spec PyProof.Rows L2 Z
structure StV (p w : Int) (dep : Nat) (d : D) : Prop where
  ok : ∀ m, okSt (m + dep + 3) p w d = true
  pl : okD [] 4 d = true
theorem do_v {p w : Int} {dep r : Nat} (h : (r : Int) < p) : StV p w dep (.tup [.str "do", .int r]) := ⟨fun m => by simp [okSt, isInt]; omega, rfl⟩
theorem do_n {x : D} {m : Nat} : nT m (.tup [.str "do", x]) = 1 := by cases m <;> rfl
theorem stop_v {p w : Int} {dep : Nat} : StV p w dep (.tup [.str "stop"]) := ⟨fun m => by simp [okSt], rfl⟩
theorem stop_n {m : Nat} : nT m (.tup [.str "stop"]) = 1 := by cases m <;> rfl
theorem set_v {p w : Int} {dep r : Nat} {y : D} (h : (r : Int) < w) (hy : SumV w 1 y) : StV p w dep (.tup [.str "set", .int r, y]) := by
  refine ⟨fun m => ?_, ?_⟩
  · have h1 := hy.ok (m + dep)
    rw [show m + dep + 3 = (m + dep + 1 + 1) + 1 by omega]
    generalize m + dep + 1 + 1 = q at h1 ⊢
    simp [okSt, isInt, h1]; omega
  · exact okD_tup.mpr ⟨by simp, fun d hd => by
      simp only [List.mem_cons, List.not_mem_nil, or_false] at hd
      rcases hd with rfl | rfl | rfl
      · rfl
      · rfl
      · exact hy.pl⟩
theorem set_n {x y : D} {m : Nat} {w : Int} (hy : SumV w 1 y) : nT m (.tup [.str "set", x, y]) ≤ 4 := by
  cases m with
  | zero => simp [nT]
  | succ m => have := hy.pt m; simp only [nT]; omega
theorem if_v {p w : Int} {dep : Nat} {x : D} {ys zs : List D} (hx : SumV w 1 x) (ly : ys.length ≤ 4) (lz : zs.length ≤ 4) (hy : ∀ d ∈ ys, StV p w dep d) (hz : ∀ d ∈ zs, StV p w dep d) : StV p w (dep + 1) (.tup [.str "if", x, .tup ys, .tup zs]) := by
  refine ⟨fun m => ?_, ?_⟩
  · have h1 := hx.ok (m + dep + 1)
    have h2 : ys.all (okSt (m + dep + 3) p w) = true := List.all_eq_true.mpr fun d hd => (hy d hd).ok m
    have h3 : zs.all (okSt (m + dep + 3) p w) = true := List.all_eq_true.mpr fun d hd => (hz d hd).ok m
    rw [show m + (dep + 1) + 3 = (m + dep + 3) + 1 by omega]
    rw [show m + dep + 1 + 1 + 1 = m + dep + 3 by omega] at h1
    generalize m + dep + 3 = q at h1 h2 h3 ⊢
    simp [okSt, h1, okBk] at h2 h3 ⊢
    exact ⟨h2, h3⟩
  · exact okD_tup.mpr ⟨by simp, fun d hd => by
      simp only [List.mem_cons, List.not_mem_nil, or_false] at hd
      rcases hd with rfl | rfl | rfl | rfl
      · rfl
      · exact hx.pl
      · exact okD_tup.mpr ⟨ly, fun d hd => (hy d hd).pl⟩
      · exact okD_tup.mpr ⟨lz, fun d hd => (hz d hd).pl⟩⟩
theorem if_n {x : D} {ys zs : List D} {w : Int} (hx : SumV w 1 x) {a b : Nat} (ha : ∀ m, (ys.map (nT m)).sum ≤ a) (hb : ∀ m, (zs.map (nT m)).sum ≤ b) (m : Nat) : nT m (.tup [.str "if", x, .tup ys, .tup zs]) ≤ 4 + a + b := by
  cases m with
  | zero => simp [nT]; omega
  | succ m =>
    have h1 := hx.pt m
    have h2 := ha m
    have h3 := hb m
    simp only [nT]; omega
def bb1 : S1 := (.asg (.sub (.v 2) (.c (.int 0))) (.op .Sub (.ix (.v 2) (.c (.int 0))) (.c (.int 1))))
def bb2 : S1 := (.asg (.nm 6) (.call 13 (.cons (.v 0) (.cons (.ifx (.cmp .Gt (.v 3) (.c (.int 0))) (.c (.int 8)) (.c (.int 5))) .nil))))
def bb3 : S1 := (.ite (.cmp .Lt (.v 6) (.c (.int 3))) (.cons (.ex (.app (.v 4) (.cons (.tup (.cons (.c (.str "do")) (.cons (.call 13 (.cons (.v 0) (.cons (.ix (.v 1) (.c (.int 0))) .nil))) .nil))) .nil))) .nil) (.cons (.ite (.cmp .Lt (.v 6) (.c (.int 5))) (.cons (.ex (.app (.v 4) (.cons (.tup (.cons (.c (.str "set")) (.cons (.call 13 (.cons (.v 0) (.cons (.ix (.v 1) (.c (.int 1))) .nil))) (.cons (.call 15 (.cons (.v 0) (.cons (.ix (.v 1) (.c (.int 1))) (.cons (.c (.int 1)) .nil)))) .nil)))) .nil))) .nil) (.cons (.ite (.bo .And (.cons (.cmp .Eq (.v 6) (.c (.int 7))) (.cons (.cmp .Eq (.v 3) (.c (.int 2))) (.cons (.cmp .Eq (.call 13 (.cons (.v 0) (.cons (.c (.int 2)) .nil))) (.c (.int 0))) .nil)))) (.cons (.ex (.app (.v 4) (.cons (.tup (.cons (.c (.str "stop")) .nil)) .nil))) .nil) (.cons (.asg (.nm 7) (.call 15 (.cons (.v 0) (.cons (.ix (.v 1) (.c (.int 1))) (.cons (.c (.int 1)) .nil))))) (.cons (.asg (.nm 8) (.call 16 (.cons (.v 0) (.cons (.v 1) (.cons (.v 2) (.cons (.op .Sub (.v 3) (.c (.int 1))) .nil)))))) (.cons (.ite (.cmp .Eq (.call 13 (.cons (.v 0) (.cons (.c (.int 6)) .nil))) (.c (.int 0))) (.cons (.asg (.nm 8) (.op .Add (.v 8) (.tup (.cons (.tup (.cons (.c (.str "stop")) .nil)) .nil)))) .nil) .nil) (.cons (.ex (.app (.v 4) (.cons (.tup (.cons (.c (.str "if")) (.cons (.v 7) (.cons (.v 8) (.cons (.call 16 (.cons (.v 0) (.cons (.v 1) (.cons (.v 2) (.cons (.op .Sub (.v 3) (.c (.int 1))) .nil))))) .nil))))) .nil))) .nil))))) .nil)) .nil))
def lbB : Ss := .cons (.ite (.cmp .Gt (.ix (.v 2) (.c (.int 0))) (.c (.int 0))) (.cons bb1 (.cons bb2 (.cons bb3 .nil))) .nil) .nil
theorem blk_is : b_law_block = .cons (.asg (.nm 4) (.lst true .nil)) (.cons (.for_ (.nm 5) (.rng1 (.cons (.call 13 (.cons (.v 0) (.cons (.c (.int 4)) .nil))) .nil)) lbB) (.cons (.ret (.bf .tup (.cons (.v 4) .nil))) .nil)) := by kernel_rfl
def bA : Ss := (.cons (.ex (.app (.v 4) (.cons (.tup (.cons (.c (.str "do")) (.cons (.call 13 (.cons (.v 0) (.cons (.ix (.v 1) (.c (.int 0))) .nil))) .nil))) .nil))) .nil)
def bBs : Ss := (.cons (.ex (.app (.v 4) (.cons (.tup (.cons (.c (.str "set")) (.cons (.call 13 (.cons (.v 0) (.cons (.ix (.v 1) (.c (.int 1))) .nil))) (.cons (.call 15 (.cons (.v 0) (.cons (.ix (.v 1) (.c (.int 1))) (.cons (.c (.int 1)) .nil)))) .nil)))) .nil))) .nil)
def bC : Ss := (.cons (.ex (.app (.v 4) (.cons (.tup (.cons (.c (.str "stop")) .nil)) .nil))) .nil)
def bd1 : S1 := (.asg (.nm 7) (.call 15 (.cons (.v 0) (.cons (.ix (.v 1) (.c (.int 1))) (.cons (.c (.int 1)) .nil)))))
def bd2 : S1 := (.asg (.nm 8) (.call 16 (.cons (.v 0) (.cons (.v 1) (.cons (.v 2) (.cons (.op .Sub (.v 3) (.c (.int 1))) .nil))))))
def bd3 : S1 := (.ite (.cmp .Eq (.call 13 (.cons (.v 0) (.cons (.c (.int 6)) .nil))) (.c (.int 0))) (.cons (.asg (.nm 8) (.op .Add (.v 8) (.tup (.cons (.tup (.cons (.c (.str "stop")) .nil)) .nil)))) .nil) .nil)
def bd4 : S1 := (.ex (.app (.v 4) (.cons (.tup (.cons (.c (.str "if")) (.cons (.v 7) (.cons (.v 8) (.cons (.call 16 (.cons (.v 0) (.cons (.v 1) (.cons (.v 2) (.cons (.op .Sub (.v 3) (.c (.int 1))) .nil))))) .nil))))) .nil)))
theorem bb3_is : bb3 = .ite (.cmp .Lt (.v 6) (.c (.int 3))) bA (.cons (.ite (.cmp .Lt (.v 6) (.c (.int 5))) bBs (.cons (.ite (.bo .And (.cons (.cmp .Eq (.v 6) (.c (.int 7))) (.cons (.cmp .Eq (.v 3) (.c (.int 2))) (.cons (.cmp .Eq (.call 13 (.cons (.v 0) (.cons (.c (.int 2)) .nil))) (.c (.int 0))) .nil)))) bC (.cons bd1 (.cons bd2 (.cons bd3 (.cons bd4 .nil))))) .nil)) .nil) := by kernel_rfl
end K21

namespace K21
open PySem PySem.Spec PyProof.Rows L2 Z
theorem appE {C : Nat → List D → Sto → Out D} {sd : Sl} {S S2 : Sto} {f : Nat} {e : E} {y : D} {xs : List D} (h4 : sd[4]? = some (some (.loc f))) (he : dE G C e sd S = .ok y S2) (h0 : S[f]? = some (.lst xs)) (h3 : S2[f]? = some (.lst xs)) (hl : xs.length < 1000) :
    dSs G C 0 (.cons (.ex (.app (.v 4) (.cons e .nil))) .nil) sd S = .ok .nx sd (S2.set f (.lst (xs ++ [y]))) := by
  have := app_ok (o := mVar 4) (a := dL G C (.cons e .nil)) (sd := sd) (S := S) (S2 := S2) (n := f) (y := y) (xs := xs) (q_mVar h4) h0 (by simp [he]) h3 (by omega)
  rw [q_scons, then_nx (sd1 := sd) (S1 := S2.set f (.lst (xs ++ [y])))]
  · rfl
  · simp only [q_sex, q_mExpr, q_eapp, q_ev, this]
theorem one_st {C : Nat → List D → Sto → Out D} {s : S1} {sd : Sl} {S : Sto} : dSs G C 0 (.cons s .nil) sd S = dS G C 0 s sd S := by
  rw [q_scons, q_snil, q_mThen]
  cases dS G C 0 s sd S with
  | ok f sd S => cases f <;> rfl
  | exc _ _ _ _ => rfl
  | bad => rfl
def cost : Nat → Int
  | 0 => 30
  | 1 => 250
  | _ => 1700
def bcost : Nat → Int
  | 0 => 9
  | 1 => 80
  | _ => 550
/-- what a block of depth dep comes to -/
def BlkV (p w : Nat) (k dep : Nat) : Prop := ∀ (S : Sto) (n : Int) (mm r : Nat), Dk S 0 1 n → 0 ≤ n → n + cost dep < 800000 → 2 ≤ mm → S[mm]? = some (.lst [.int r]) →
  ∃ ds S' n' r', run T G 0 k 16 [.loc 1, .lst [.int p, .int w], .loc mm, .int dep] S = .ok (.tup ds) S' ∧ Dk S' 0 1 n' ∧ n ≤ n' ∧ n' ≤ n + cost dep ∧ S'[mm]? = some (.lst [.int (r' : Nat)]) ∧ r' ≤ r ∧ Kp S S' (· = mm) ∧ ds.length ≤ 3 ∧ (∀ d ∈ ds, StV p w dep d) ∧ ∀ m, (ds.map (nT m)).sum ≤ 5 * (r - r')
structure BodyV (p w dep : Nat) (sh : D) (mm f : Nat) (found : List D) (S : Sto) (n : Int) (r : Nat) (o : OutS) (c : Int) : Prop where
  ex : ∃ x5 x6 x7 x8 S' n' r' new, o = .ok .nx [some (.loc 1), some sh, some (.loc mm), some (.int dep), some (.loc f), x5, x6, x7, x8] S' ∧ Dk S' 0 1 n' ∧ n ≤ n' ∧ n' ≤ n + c ∧ S'[mm]? = some (.lst [.int (r' : Nat)]) ∧ r' ≤ r ∧
    S'[f]? = some (.lst (found ++ new)) ∧ new.length ≤ 1 ∧ (∀ d ∈ new, StV p w dep d) ∧ (∀ m, (new.map (nT m)).sum ≤ 5 * (r - r')) ∧ Kp S S' (fun c => c = mm ∨ c = f)
theorem body_ok {p w dep K : Nat} (hp : 0 < p) (hp2 : p < 1000) (hw : 0 < w) (hw2 : w < 1000) (hd : dep ≤ 2) (rec : ∀ e, dep = e + 1 → BlkV p w (K + 4) e) {S : Sto} {n : Int} {mm f r : Nat} {found : List D} {x5 x6 x7 x8 : Option D}
    (h : Dk S 0 1 n) (hn : 0 ≤ n) (hn2 : n + bcost dep < 800000) (hm : 2 ≤ mm) (hf : 2 ≤ f) (hmf : mm ≠ f) (hr : S[mm]? = some (.lst [.int r])) (hfo : S[f]? = some (.lst found)) (hl : found.length < 100) :
    BodyV p w dep (.lst [.int p, .int w]) mm f found S n r (dSs G (run T G 0 (K + 4)) 0 lbB [some (.loc 1), some (.lst [.int p, .int w]), some (.loc mm), some (.int dep), some (.loc f), x5, x6, x7, x8] S) (bcost dep) := by
  have hcost : 30 ≤ cost dep := by
    match dep, hd with
    | 0, _ => decide
    | 1, _ => decide
    | 2, _ => decide
  have hc9 : (9 : Int) ≤ bcost dep := by
    match dep, hd with
    | 0, _ => decide
    | 1, _ => decide
    | 2, _ => decide
  have ir : ixP S (.loc mm) (.int 0) = some (.int r) := by rw [ix_loc hr (by decide) (by simp)]; rfl
  cases r with
  | zero =>
    refine ⟨x5, x6, x7, x8, S, n, 0, [], ?_, h, by omega, by omega, hr, by omega, by simpa using hfo, by simp, by simp, by simp, Kp.refl S _⟩
    simp at ir
    simp [lbB, ir]
  | succ r =>
    have zr : (0 : Int) < (r : Int) + 1 := by omega
    let S1 := S.set mm (.lst [.int r])
    have lm : mm < S.length := (List.getElem?_eq_some_iff.mp hr).1
    have h1 : Dk S1 0 1 n := h.set hm
    have f1 : S1[f]? = some (.lst found) := by show (S.set mm _)[f]? = _; rw [List.getElem?_set_ne hmf]; exact hfo
    have m1 : S1[mm]? = some (.lst [.int r]) := by show (S.set mm _)[mm]? = _; simp [lm]
    have k1 : Kp S S1 (fun c => c = mm ∨ c = f) := Kp.set (.inl rfl)
    have s1 : dS G (run T G 0 (K + 4)) 0 bb1 [some (.loc 1), some (.lst [.int p, .int w]), some (.loc mm), some (.int dep), some (.loc f), x5, x6, x7, x8] S = .ok .nx [some (.loc 1), some (.lst [.int p, .int w]), some (.loc mm), some (.int dep), some (.loc f), x5, x6, x7, x8] S1 := by
      have e : ((r + 1 : Nat) : Int) - 1 = r := by omega
      simp at ir hr
      simp [bb1, ir, gSubM, hr, ixN, S1]
    obtain ⟨wy, S2, e2, l2, d2, k2⟩ := drw (k := K + 3) (m := if 0 < dep then 8 else 5) h1 hn (by omega) (by split <;> decide) (by split <;> decide)
    have f2 := (k2 fun _ => False).at f1 hf id
    have m2 := (k2 fun _ => False).at m1 hm id
    have s2 : dS G (run T G 0 (K + 4)) 0 bb2 [some (.loc 1), some (.lst [.int p, .int w]), some (.loc mm), some (.int dep), some (.loc f), x5, x6, x7, x8] S1 = .ok .nx [some (.loc 1), some (.lst [.int p, .int w]), some (.loc mm), some (.int dep), some (.loc f), x5, some (.int wy), x7, x8] S2 := by
      by_cases zd : 0 < dep
      · have zd' : (0 : Int) < dep := by omega
        rw [if_pos zd] at e2
        simp at e2
        simp [bb2, zd, e2]
      · have zd' : ¬ (0 : Int) < dep := by omega
        rw [if_neg zd] at e2
        simp at e2
        simp [bb2, zd, e2]
    have hb : dSs G (run T G 0 (K + 4)) 0 lbB [some (.loc 1), some (.lst [.int p, .int w]), some (.loc mm), some (.int dep), some (.loc f), x5, x6, x7, x8] S = dSs G (run T G 0 (K + 4)) 0 (.cons bb3 .nil) [some (.loc 1), some (.lst [.int p, .int w]), some (.loc mm), some (.int dep), some (.loc f), x5, some (.int wy), x7, x8] S2 := by
      have : dSs G (run T G 0 (K + 4)) 0 (.cons bb1 (.cons bb2 (.cons bb3 .nil))) [some (.loc 1), some (.lst [.int p, .int w]), some (.loc mm), some (.int dep), some (.loc f), x5, x6, x7, x8] S = dSs G (run T G 0 (K + 4)) 0 (.cons bb3 .nil) [some (.loc 1), some (.lst [.int p, .int w]), some (.loc mm), some (.int dep), some (.loc f), x5, some (.int wy), x7, x8] S2 := by
        rw [q_scons, then_nx s1, q_scons, then_nx s2]
      simp at ir
      unfold lbB
      rw [q_scons, q_mThen, q_site, q_mIte]
      simp only [q_tcmp, q_mBl, q_mBin, q_eix, q_ev, q_ec, q_mC, q_mVar (show [some (D.loc 1), some (.lst [.int p, .int w]), some (.loc mm), some (.int dep), some (.loc f), x5, x6, x7, x8][2]? = some (some (.loc mm)) from rfl), ir, q_liftS, q_cmGt, zr, decide_true, q_toB, ↓reduceIte, this]
      cases dSs G (run T G 0 (K + 4)) 0 (.cons bb3 .nil) [some (.loc 1), some (.lst [.int p, .int w]), some (.loc mm), some (.int dep), some (.loc f), x5, some (.int wy), x7, x8] S2 with
      | ok fl sd S => cases fl <;> rfl
      | exc _ _ _ _ => rfl
      | bad => rfl
    rw [hb, bb3_is]
    have k12 : Kp S S2 (fun c => c = mm ∨ c = f) := k1.trans (k2 _)
    have sh0 : ∀ S : Sto, ixP S (.lst [.int p, .int w]) (.int 0) = some (.int p) := fun _ => rfl
    have sh1 : ∀ S : Sto, ixP S (.lst [.int p, .int w]) (.int 1) = some (.int w) := fun _ => rfl
    have lf : f < S2.length := (List.getElem?_eq_some_iff.mp f2).1
    by_cases w3 : (wy : Int) < 3
    · -- do
      obtain ⟨q, S3, e3, l3, d3, k3⟩ := drw (k := K + 3) (m := p) d2 (by omega) (by omega) hp (by omega)
      have f3 := (k3 fun _ => False).at f2 hf id
      have m3 := (k3 fun _ => False).at m2 hm id
      have a : dSs G (run T G 0 (K + 4)) 0 bA [some (.loc 1), some (.lst [.int p, .int w]), some (.loc mm), some (.int dep), some (.loc f), x5, some (.int wy), x7, x8] S2 = .ok .nx [some (.loc 1), some (.lst [.int p, .int w]), some (.loc mm), some (.int dep), some (.loc f), x5, some (.int wy), x7, x8] (S3.set f (.lst (found ++ [.tup [.str "do", .int q]]))) :=
        appE rfl (by simp [sh0, e3]) f2 f3 (by omega)
      refine ⟨x5, some (.int wy), x7, x8, S3.set f (.lst (found ++ [.tup [.str "do", .int q]])), n + 1 + 1, r, [.tup [.str "do", .int q]], ?_, d3.set hf, by omega, by omega, ?_, by omega, ?_, by simp, fun d hd => ?_, fun m => ?_, (k12.trans (k3 _)).trans (Kp.set (.inr rfl))⟩
      · simp [w3, a]
      · rw [List.getElem?_set_ne (Ne.symm hmf)]; exact m3
      · have : f < S3.length := (List.getElem?_eq_some_iff.mp f3).1
        simp [this]
      · simp at hd; subst hd; exact do_v (by omega)
      · simp [do_n]
    · by_cases w5 : (wy : Int) < 5
      · -- set
        obtain ⟨q, S3, e3, l3, d3, k3⟩ := drw (k := K + 3) (m := w) d2 (by omega) (by omega) hw (by omega)
        obtain ⟨y, S4, n4, e4, v4, d4, g4, g4', k4⟩ := draw_sum hw hw2 1 K S3 (n + 1 + 1) (by omega) d3 (by omega) (by omega)
        have f4 := (k4 fun _ => False).at ((k3 fun _ => False).at f2 hf id) hf id
        have m4 := (k4 fun _ => False).at ((k3 fun _ => False).at m2 hm id) hm id
        simp at e4
        have a : dSs G (run T G 0 (K + 4)) 0 bBs [some (.loc 1), some (.lst [.int p, .int w]), some (.loc mm), some (.int dep), some (.loc f), x5, some (.int wy), x7, x8] S2 = .ok .nx [some (.loc 1), some (.lst [.int p, .int w]), some (.loc mm), some (.int dep), some (.loc f), x5, some (.int wy), x7, x8] (S4.set f (.lst (found ++ [.tup [.str "set", .int q, y]]))) :=
          appE rfl (by simp [sh1, e3, e4]) f2 f4 (by omega)
        refine ⟨x5, some (.int wy), x7, x8, S4.set f (.lst (found ++ [.tup [.str "set", .int q, y]])), n4, r, [.tup [.str "set", .int q, y]], ?_, d4.set hf, by omega, by omega, ?_, by omega, ?_, by simp, fun d hd => ?_, fun m => ?_, ((k12.trans (k3 _)).trans (k4 _)).trans (Kp.set (.inr rfl))⟩
        · simp [w3, w5, a]
        · rw [List.getElem?_set_ne (Ne.symm hmf)]; exact m4
        · have : f < S4.length := (List.getElem?_eq_some_iff.mp f4).1
          simp [this]
        · simp at hd; subst hd; exact set_v (by omega) v4
        · have := set_n (x := .int q) (m := m) v4
          simp; omega
      · -- the rest: depth is not 0
        have zd : 0 < dep := by
          refine Nat.pos_of_ne_zero fun z => ?_
          subst z
          simp at l2
          omega
        obtain ⟨e, rfl⟩ : ∃ e, dep = e + 1 := ⟨dep - 1, by omega⟩
        have rec' := rec e rfl
        -- either a stop was drawn, or one goes on with an if
        have key : (∃ S3, Dk S3 0 1 (n + 1 + 1) ∧ (∀ X, Kp S2 S3 X) ∧ dSs G (run T G 0 (K + 4)) 0 (.cons (.ite (.bo .And (.cons (.cmp .Eq (.v 6) (.c (.int 7))) (.cons (.cmp .Eq (.v 3) (.c (.int 2))) (.cons (.cmp .Eq (.call 13 (.cons (.v 0) (.cons (.c (.int 2)) .nil))) (.c (.int 0))) .nil)))) bC (.cons bd1 (.cons bd2 (.cons bd3 (.cons bd4 .nil))))) .nil) [some (.loc 1), some (.lst [.int p, .int w]), some (.loc mm), some (.int ((e + 1 : Nat) : Int)), some (.loc f), x5, some (.int wy), x7, x8] S2 =
              dSs G (run T G 0 (K + 4)) 0 bC [some (.loc 1), some (.lst [.int p, .int w]), some (.loc mm), some (.int ((e + 1 : Nat) : Int)), some (.loc f), x5, some (.int wy), x7, x8] S3) ∨
            (∃ S3 n3, Dk S3 0 1 n3 ∧ n ≤ n3 ∧ n3 ≤ n + 2 ∧ (∀ X, Kp S2 S3 X) ∧ dSs G (run T G 0 (K + 4)) 0 (.cons (.ite (.bo .And (.cons (.cmp .Eq (.v 6) (.c (.int 7))) (.cons (.cmp .Eq (.v 3) (.c (.int 2))) (.cons (.cmp .Eq (.call 13 (.cons (.v 0) (.cons (.c (.int 2)) .nil))) (.c (.int 0))) .nil)))) bC (.cons bd1 (.cons bd2 (.cons bd3 (.cons bd4 .nil))))) .nil) [some (.loc 1), some (.lst [.int p, .int w]), some (.loc mm), some (.int ((e + 1 : Nat) : Int)), some (.loc f), x5, some (.int wy), x7, x8] S2 =
              dSs G (run T G 0 (K + 4)) 0 (.cons bd1 (.cons bd2 (.cons bd3 (.cons bd4 .nil)))) [some (.loc 1), some (.lst [.int p, .int w]), some (.loc mm), some (.int ((e + 1 : Nat) : Int)), some (.loc f), x5, some (.int wy), x7, x8] S3) := by
          generalize hX : dSs G (run T G 0 (K + 4)) 0 bC = X
          generalize hY : dSs G (run T G 0 (K + 4)) 0 (.cons bd1 (.cons bd2 (.cons bd3 (.cons bd4 .nil)))) = Y
          by_cases w7 : (wy : Int) = 7
          · by_cases wd : (e : Int) + 1 = 2
            · obtain ⟨q, S3, e3, l3, d3, k3⟩ := drw (k := K + 3) (m := 2) d2 (by omega) (by omega) (by decide) (by decide)
              simp at e3
              by_cases wq : (q : Int) = 0
              · have wq' : q = 0 := by omega
                refine .inl ⟨S3, d3, k3, ?_⟩
                rw [one_st, q_site, q_mIte, hX, hY]
                simp [w7, wd, e3, wq']
              · have wq' : ¬ q = 0 := by omega
                refine .inr ⟨S3, _, d3, by omega, by omega, k3, ?_⟩
                rw [one_st, q_site, q_mIte, hX, hY]
                simp [w7, wd, e3, wq']
            · refine .inr ⟨S2, _, d2, by omega, by omega, fun X => Kp.refl _ _, ?_⟩
              rw [one_st, q_site, q_mIte, hX, hY]
              simp [w7, wd]
          · refine .inr ⟨S2, _, d2, by omega, by omega, fun X => Kp.refl _ _, ?_⟩
            rw [one_st, q_site, q_mIte, hX, hY]
            simp [w7]
        have ce : cost e + cost e + 10 ≤ bcost (e + 1) ∧ bcost (e + 1) ≤ cost (e + 1) ∧ 0 ≤ cost e := by
          match e, hd with
          | 0, _ => decide
          | 1, _ => decide
        rcases key with ⟨S3, d3, k3, eq⟩ | ⟨S3, n3, d3, g3, g3', k3, eq⟩
        · have f3 := (k3 fun _ => False).at f2 hf id
          have m3 := (k3 fun _ => False).at m2 hm id
          have a : dSs G (run T G 0 (K + 4)) 0 bC [some (.loc 1), some (.lst [.int p, .int w]), some (.loc mm), some (.int ((e + 1 : Nat) : Int)), some (.loc f), x5, some (.int wy), x7, x8] S3 = .ok .nx [some (.loc 1), some (.lst [.int p, .int w]), some (.loc mm), some (.int ((e + 1 : Nat) : Int)), some (.loc f), x5, some (.int wy), x7, x8] (S3.set f (.lst (found ++ [.tup [.str "stop"]]))) :=
            appE rfl (by simp) f3 f3 (by omega)
          rw [a] at eq
          refine ⟨x5, some (.int wy), x7, x8, S3.set f (.lst (found ++ [.tup [.str "stop"]])), n + 1 + 1, r, [.tup [.str "stop"]], ?_, d3.set hf, by omega, by omega, ?_, by omega, ?_, by simp, fun d hd => ?_, fun m => ?_, (k12.trans (k3 _)).trans (Kp.set (.inr rfl))⟩
          · rw [one_st, q_site, q_mIte]
            simp only [q_tcmp, q_mBl, q_mBin, q_ev, q_ec, q_mC, q_mVar (show [some (D.loc 1), some (.lst [.int p, .int w]), some (.loc mm), some (.int ((e + 1 : Nat) : Int)), some (.loc f), x5, some (.int wy), x7, x8][6]? = some (some (.int wy)) from rfl), q_liftS, q_cmLt, w3, decide_false, q_toB, Bool.false_eq_true, ↓reduceIte]
            rw [one_st, q_site, q_mIte]
            simp only [q_tcmp, q_mBl, q_mBin, q_ev, q_ec, q_mC, q_mVar (show [some (D.loc 1), some (.lst [.int p, .int w]), some (.loc mm), some (.int ((e + 1 : Nat) : Int)), some (.loc f), x5, some (.int wy), x7, x8][6]? = some (some (.int wy)) from rfl), q_liftS, q_cmLt, w5, decide_false, q_toB, Bool.false_eq_true, ↓reduceIte, eq, q_snil, q_mSkip]
          · rw [List.getElem?_set_ne (Ne.symm hmf)]; exact m3
          · have : f < S3.length := (List.getElem?_eq_some_iff.mp f3).1
            simp [this]
          · simp at hd; subst hd; exact stop_v
          · simp [stop_n]
        · have f3 := (k3 fun _ => False).at f2 hf id
          have m3 := (k3 fun _ => False).at m2 hm id
          -- the sum
          obtain ⟨x, S4, n4, e4, v4, d4, g4, g4', k4⟩ := draw_sum hw hw2 1 K S3 n3 (by omega) d3 (by omega) (by omega)
          have f4 := (k4 fun _ => False).at f3 hf id
          have m4 := (k4 fun _ => False).at m3 hm id
          simp at e4
          have t1 : dS G (run T G 0 (K + 4)) 0 bd1 [some (.loc 1), some (.lst [.int p, .int w]), some (.loc mm), some (.int ((e + 1 : Nat) : Int)), some (.loc f), x5, some (.int wy), x7, x8] S3 = .ok .nx [some (.loc 1), some (.lst [.int p, .int w]), some (.loc mm), some (.int ((e + 1 : Nat) : Int)), some (.loc f), x5, some (.int wy), some x, x8] S4 := by
            simp [bd1, sh1, e4]
          -- the first block
          obtain ⟨ys, S5, n5, r5, e5, d5, g5, g5', m5, l5, k5, ly, vy, py⟩ := rec' S4 n4 mm r d4 (by omega) (by omega) hm m4
          have f5 := k5.at f4 hf (Ne.symm hmf)
          have ee : ((e + 1 : Nat) : Int) - 1 = e := by omega
          have t2 : dS G (run T G 0 (K + 4)) 0 bd2 [some (.loc 1), some (.lst [.int p, .int w]), some (.loc mm), some (.int ((e + 1 : Nat) : Int)), some (.loc f), x5, some (.int wy), some x, x8] S4 = .ok .nx [some (.loc 1), some (.lst [.int p, .int w]), some (.loc mm), some (.int ((e + 1 : Nat) : Int)), some (.loc f), x5, some (.int wy), some x, some (.tup ys)] S5 := by
            simp only [Int.natCast_add] at ee
            simp [bd2, e5]
          -- a stop behind it, or none
          obtain ⟨q, S6, e6, l6, d6, k6⟩ := drw (k := K + 3) (m := 6) d5 (by omega) (by omega) (by decide) (by decide)
          simp at e6
          have f6 := (k6 fun _ => False).at f5 hf id
          have m6 := (k6 fun _ => False).at m5 hm id
          have t3 : ∃ ys', ys'.length ≤ 4 ∧ (∀ d ∈ ys', StV p w e d) ∧ (∀ m, (ys'.map (nT m)).sum ≤ 5 * (r - r5) + 1) ∧ dS G (run T G 0 (K + 4)) 0 bd3 [some (.loc 1), some (.lst [.int p, .int w]), some (.loc mm), some (.int ((e + 1 : Nat) : Int)), some (.loc f), x5, some (.int wy), some x, some (.tup ys)] S5 = .ok .nx [some (.loc 1), some (.lst [.int p, .int w]), some (.loc mm), some (.int ((e + 1 : Nat) : Int)), some (.loc f), x5, some (.int wy), some x, some (.tup ys')] S6 := by
            by_cases zq : q = 0
            · subst zq
              refine ⟨ys ++ [.tup [.str "stop"]], by simp; omega, fun d hd => ?_, fun m => ?_, ?_⟩
              · rcases List.mem_append.mp hd with hd | hd
                · exact vy d hd
                · simp at hd; subst hd; exact stop_v
              · have := py m
                rw [List.map_append, List.sum_append]
                simp [stop_n]; omega
              · have ad : addP S6 (.tup ys) (.tup [.tup [.str "stop"]]) = some (.tup (ys ++ [.tup [.str "stop"]])) := by
                  unfold addP
                  simp only []
                  rw [if_pos (by simp; omega)]
                simp [bd3, e6, ad]
            · refine ⟨ys, by omega, vy, fun m => Nat.le_succ_of_le (py m), ?_⟩
              simp [bd3, e6, zq]
          obtain ⟨ys', ly', vy', py', t3⟩ := t3
          -- the second block, and the if
          obtain ⟨zs, S7, n7, r7, e7, d7, g7, g7', m7, l7, k7, lz, vz, pz⟩ := rec' S6 (n5 + 1) mm r5 d6 (by omega) (by omega) hm m6
          have f7 := k7.at f6 hf (Ne.symm hmf)
          have t4 : dSs G (run T G 0 (K + 4)) 0 (.cons bd4 .nil) [some (.loc 1), some (.lst [.int p, .int w]), some (.loc mm), some (.int ((e + 1 : Nat) : Int)), some (.loc f), x5, some (.int wy), some x, some (.tup ys')] S6 = .ok .nx [some (.loc 1), some (.lst [.int p, .int w]), some (.loc mm), some (.int ((e + 1 : Nat) : Int)), some (.loc f), x5, some (.int wy), some x, some (.tup ys')] (S7.set f (.lst (found ++ [.tup [.str "if", x, .tup ys', .tup zs]]))) :=
            appE rfl (by simp [e7]) f6 f7 (by omega)
          have tt : dSs G (run T G 0 (K + 4)) 0 (.cons bd1 (.cons bd2 (.cons bd3 (.cons bd4 .nil)))) [some (.loc 1), some (.lst [.int p, .int w]), some (.loc mm), some (.int ((e + 1 : Nat) : Int)), some (.loc f), x5, some (.int wy), x7, x8] S3 = .ok .nx [some (.loc 1), some (.lst [.int p, .int w]), some (.loc mm), some (.int ((e + 1 : Nat) : Int)), some (.loc f), x5, some (.int wy), some x, some (.tup ys')] (S7.set f (.lst (found ++ [.tup [.str "if", x, .tup ys', .tup zs]]))) := by
            rw [q_scons, then_nx t1, q_scons, then_nx t2, q_scons, then_nx t3, t4]
          rw [tt] at eq
          have kk : Kp S (S7.set f (.lst (found ++ [.tup [.str "if", x, .tup ys', .tup zs]]))) (fun c => c = mm ∨ c = f) :=
            (((((k12.trans (k3 _)).trans (k4 _)).trans (k5.more fun c _ z => .inl z)).trans (k6 _)).trans (k7.more fun c _ z => .inl z)).trans (Kp.set (.inr rfl))
          refine ⟨x5, some (.int wy), some x, some (.tup ys'), _, n7, r7, [.tup [.str "if", x, .tup ys', .tup zs]], ?_, d7.set hf, by omega, by omega, ?_, by omega, ?_, by simp, fun d hd => ?_, fun m => ?_, kk⟩
          · rw [one_st, q_site, q_mIte]
            simp only [q_tcmp, q_mBl, q_mBin, q_ev, q_ec, q_mC, q_mVar (show [some (D.loc 1), some (.lst [.int p, .int w]), some (.loc mm), some (.int ((e + 1 : Nat) : Int)), some (.loc f), x5, some (.int wy), x7, x8][6]? = some (some (.int wy)) from rfl), q_liftS, q_cmLt, w3, decide_false, q_toB, Bool.false_eq_true, ↓reduceIte]
            rw [one_st, q_site, q_mIte]
            simp only [q_tcmp, q_mBl, q_mBin, q_ev, q_ec, q_mC, q_mVar (show [some (D.loc 1), some (.lst [.int p, .int w]), some (.loc mm), some (.int ((e + 1 : Nat) : Int)), some (.loc f), x5, some (.int wy), x7, x8][6]? = some (some (.int wy)) from rfl), q_liftS, q_cmLt, w5, decide_false, q_toB, Bool.false_eq_true, ↓reduceIte, eq, q_snil, q_mSkip]
          · rw [List.getElem?_set_ne (Ne.symm hmf)]; exact m7
          · have : f < S7.length := (List.getElem?_eq_some_iff.mp f7).1
            simp [this]
          · simp at hd; subst hd; exact if_v v4 ly' (by omega) vy' vz
          · have := if_n v4 py' pz m
            simp; omega
end K21

namespace K21
open PySem PySem.Spec PyProof.Rows L2 Z
theorem rng_nat {q : Nat} (h : q < 1000) : rng1 [.int q] = some (.vals ((List.range q).map fun (i : Nat) => D.int (0 + (i : Int)))) := by
  simp only [rng1, rngV]
  rw [if_pos (by omega), show ((q : Int) - 0).toNat = q by omega]
theorem tup_loc {S : Sto} {f : Nat} {xs : List D} (h : S[f]? = some (.lst xs)) : tupD S (.loc f) = some (.tup xs) := by
  simp [tupD, asLF, asL, h]
theorem blk_step {p w dep K : Nat} (hp : 0 < p) (hp2 : p < 1000) (hw : 0 < w) (hw2 : w < 1000) (hd : dep ≤ 2) (rec : ∀ e, dep = e + 1 → BlkV p w (K + 4) e) : BlkV p w (K + 5) dep := by
  intro S n mm r h hn hn2 hm hr
  have hb : 0 ≤ bcost dep ∧ 3 * bcost dep + 1 ≤ cost dep := by
    match dep, hd with
    | 0, _ => decide
    | 1, _ => decide
    | 2, _ => decide
  have lm : mm < S.length := (List.getElem?_eq_some_iff.mp hr).1
  let f := S.length
  have hf2 : 2 ≤ f := h.len
  let S0 : Sto := S ++ [.lst []]
  have h0 : Dk S0 0 1 n := h.push
  have k0 : ∀ X, Kp S S0 X := fun X => Kp.push
  have m0 : S0[mm]? = some (.lst [.int r]) := (k0 fun _ => False).at hr hm id
  have f0 : S0[f]? = some (.lst []) := by show (S ++ [MO.lst []])[S.length]? = _; simp
  let sd0 : Sl := [some (.loc 1), some (.lst [.int p, .int w]), some (.loc mm), some (.int dep), some (.loc f), none, none, none, none]
  have s0 : dS G (run T G 0 (K + 4)) 0 (.asg (.nm 4) (.lst true .nil)) (slots0 9 [.loc 1, .lst [.int p, .int w], .loc mm, .int dep]) S = .ok .nx sd0 S0 := by
    simp [slots0, sd0, S0, f]
  obtain ⟨q, S1, e1, l1, d1, k1⟩ := drw (k := K + 3) (m := 4) h0 hn (by omega) (by decide) (by decide)
  simp at e1
  have m1 := (k1 fun _ => False).at m0 hm id
  have f1 := (k1 fun _ => False).at f0 hf2 id
  let src : List D := (List.range q).map fun (i : Nat) => D.int (0 + (i : Int))
  have hsl : src.length = q := by simp [src]
  obtain ⟨sd', S', e2, x5, x6, x7, x8, n2, r2, fo, hsd, d2, g2, g2', m2, l2, f2, lf, vf, pf, k2⟩ := for_inv (ds := src) (g := gNm 5) (b := dSs G (run T G 0 (K + 4)) 0 lbB)
    (fun i sd S' => ∃ x5 x6 x7 x8 n' r' fo, sd = [some (.loc 1), some (.lst [.int p, .int w]), some (.loc mm), some (.int dep), some (.loc f), x5, x6, x7, x8] ∧ Dk S' 0 1 n' ∧ n ≤ n' ∧ n' ≤ n + 1 + i * bcost dep ∧ S'[mm]? = some (.lst [.int (r' : Nat)]) ∧ r' ≤ r ∧
      S'[f]? = some (.lst fo) ∧ fo.length ≤ i ∧ (∀ d ∈ fo, StV p w dep d) ∧ (∀ m, (fo.map (nT m)).sum ≤ 5 * (r - r')) ∧ Kp S S' (· = mm))
    (fun i d sd S' hd' hP => by
      obtain ⟨x5, x6, x7, x8, n', r', fo, rfl, d', g', g'', m', l', f', lf, vf, pf, k'⟩ := hP
      have hi : i < q := by have := (List.getElem?_eq_some_iff.mp hd').1; omega
      have hi3 : (i : Int) * bcost dep ≤ 2 * bcost dep := Int.mul_le_mul_of_nonneg_right (by omega) hb.1
      obtain ⟨y5, y6, y7, y8, S2, n2, r2, new, e, d2, a1, a2, a3, a4, a5, a6, a7, a8, a9⟩ := (body_ok hp hp2 hw hw2 hd rec (x5 := some d) (x6 := x6) (x7 := x7) (x8 := x8) d' (by omega) (by omega) hm hf2 (by omega) m' f' (by omega)).ex
      refine ⟨_, S', rfl, _, S2, .inl e, y5, y6, y7, y8, n2, r2, fo ++ new, rfl, d2, by omega, ?_, a3, by omega, a5, by simp; omega, fun d hd => ?_, fun m => ?_, ?_⟩
      · have : (((i + 1 : Nat) : Int)) * bcost dep = (i : Int) * bcost dep + bcost dep := by rw [Int.natCast_add, Int.add_mul]; simp
        omega
      · rcases List.mem_append.mp hd with hd | hd
        · exact vf d hd
        · exact a7 d hd
      · have h1 := pf m
        have h2 := a8 m
        rw [List.map_append, List.sum_append]
        omega
      · exact ⟨Nat.le_trans k'.len a9.len, fun c c1 c2 c3 => (a9.oth c c1 (Nat.lt_of_lt_of_le c2 k'.len) (fun z => z.elim c3 (by omega))).trans (k'.oth c c1 c2 c3)⟩)
    q 0 sd0 S1 (by omega) ⟨none, none, none, none, n + 1, r, [], rfl, d1, by omega, by omega, m1, by omega, f1, by simp, by simp, by simp, (k0 _).trans (k1 _)⟩
  subst hsd
  rw [hsl] at g2' lf
  have hq3 : (q : Int) * bcost dep ≤ 3 * bcost dep := Int.mul_le_mul_of_nonneg_right (by omega) hb.1
  refine ⟨fo, S', n2, r2, (run_succ (fn := ⟨4, 9, b_law_block⟩) rfl rfl).trans ?_, d2, by omega, by omega, m2, l2, k2, by omega, vf, pf⟩
  rw [blk_is, q_scons, then_nx s0, q_scons]
  have s1 : dS G (run T G 0 (K + 4)) 0 (.for_ (.nm 5) (.rng1 (.cons (.call 13 (.cons (.v 0) (.cons (.c (.int 4)) .nil))) .nil)) lbB) sd0 S0 = .ok .nx [some (.loc 1), some (.lst [.int p, .int w]), some (.loc mm), some (.int dep), some (.loc f), x5, x6, x7, x8] S' := by
    have it : dI G (run T G 0 (K + 4)) (.rng1 (.cons (.call 13 (.cons (.v 0) (.cons (.c (.int 4)) .nil))) .nil)) sd0 S0 = .ok (.vals src) S1 := by
      have := rng_nat (q := q) (by omega)
      simp [sd0, e1, this, src]
    rw [q_sfor, q_mFor, it]
    simp only [q_vLen, hsl]
    exact e2
  rw [then_nx s1]
  simp [tup_loc f2, fnEnd]
theorem blk_draw {p w : Nat} (hp : 0 < p) (hp2 : p < 1000) (hw : 0 < w) (hw2 : w < 1000) : ∀ (dep K : Nat), dep ≤ 2 → BlkV p w (K + dep + 5) dep
  | 0, K, hd => blk_step hp hp2 hw hw2 hd (fun e z => by omega)
  | e + 1, K, hd => by
    have := blk_draw hp hp2 hw hw2 e K (by omega)
    have r := blk_step (K := K + e + 1) hp hp2 hw hw2 hd (fun e' z => by
      have : e' = e := by omega
      subst this
      rw [show K + e' + 1 + 4 = K + e' + 5 by omega]
      exact this)
    rw [show K + (e + 1) + 5 = K + e + 1 + 5 by omega]
    exact r
end K21

namespace K21
open PySem PySem.Spec PyProof.Rows L2 Z
def pg0 : S1 := (.par [6, 7, 8] (.cons (.op .Add (.c (.int 1)) (.call 13 (.cons (.v 0) (.cons (.v 1) .nil)))) (.cons (.op .Add (.c (.int 1)) (.call 13 (.cons (.v 0) (.cons (.v 1) .nil)))) (.cons (.op .Add (.c (.int 1)) (.call 13 (.cons (.v 0) (.cons (.v 2) .nil)))) .nil))))
def pg1 : S1 := (.asg (.nm 3) (.call 14 (.cons (.v 0) (.cons (.lst false (.cons (.tup (.cons (.c (.int 2)) .nil)) (.cons (.tup (.cons (.c (.int 3)) .nil)) (.cons (.tup (.cons (.c (.int 2)) (.cons (.c (.int 2)) .nil))) (.cons (.tup (.cons (.c (.int 4)) .nil)) (.cons (.tup (.cons (.c (.int 2)) (.cons (.c (.int 3)) .nil))) .nil)))))) .nil))))
def pg2 : S1 := (.asg (.nm 4) (.lst false (.cons (.v 8) (.cons (.bf .len (.cons (.v 3) .nil)) .nil))))
def pg3 : S1 := (.asg (.nm 5) (.call 16 (.cons (.v 0) (.cons (.v 4) (.cons (.lst true (.cons (.c (.int 10)) .nil)) (.cons (.c (.int 2)) .nil))))))
def pg4 : S1 := (.ite (.cmp .Gt (.call 13 (.cons (.v 0) (.cons (.c (.int 3)) .nil))) (.c (.int 0))) (.cons (.asg (.nm 5) (.op .Add (.v 5) (.tup (.cons (.tup (.cons (.c (.str "if")) (.cons (.call 14 (.cons (.v 0) (.cons (.lst false (.cons (.c (.str "secret")) (.cons (.tup (.cons (.c (.str "same")) (.cons (.c (.str "known")) (.cons (.c (.str "secret")) .nil)))) (.cons (.tup (.cons (.c (.str "cell")) (.cons (.c (.int 0)) .nil))) .nil)))) .nil))) (.cons (.tup (.cons (.tup (.cons (.c (.str "do")) (.cons (.c (.int 0)) .nil))) .nil)) (.cons (.tup .nil) .nil))))) .nil)))) .nil) .nil)
def pg5 : S1 := (.ret (.tup (.cons (.v 6) (.cons (.v 7) (.cons (.v 8) (.cons (.v 3) (.cons (.v 5) (.cons (.call 16 (.cons (.v 0) (.cons (.v 4) (.cons (.lst true (.cons (.c (.int 4)) .nil)) (.cons (.c (.int 1)) .nil))))) .nil))))))))
theorem pg_is : b_law_program = (.cons pg0 (.cons pg1 (.cons pg2 (.cons pg3 (.cons pg4 (.cons pg5 .nil)))))) := by kernel_rfl
def cellsL : List D := [.tup [.int 2], .tup [.int 3], .tup [.int 2, .int 2], .tup [.int 4], .tup [.int 2, .int 3]]
theorem cells_mem {d : D} (h : d ∈ cellsL) : ∃ es, d = .tup es ∧ (es.length = 1 ∨ es.length = 2) ∧ okC d = true ∧ okD [] 4 d = true := by
  simp only [cellsL, List.mem_cons, List.not_mem_nil, or_false] at h
  rcases h with rfl | rfl | rfl | rfl | rfl <;> exact ⟨_, rfl, by simp, by decide +kernel, by decide +kernel⟩
def looksL : List D := [.str "secret", .tup [.str "same", .str "known", .str "secret"], .tup [.str "cell", .int 0]]
theorem looks_mem {d : D} {w : Nat} (hw : 0 < w) (h : d ∈ looksL) : SumV w 1 d := by
  simp only [looksL, List.mem_cons, List.not_mem_nil, or_false] at h
  rcases h with rfl | rfl | rfl
  · exact ks_mem (by simp)
  · exact op_v (by decide +kernel) (ks_mem (by simp)) (ks_mem (by simp))
  · exact cell_v (r := 0) (by omega)
/-- the drawn program -/
structure ProgV (P : D) : Prop where
  pl : okD [] 6 P = true
  err : errD P = .non
  six : ∃ a b c e ys zs, ∃ p w : Int, P = .tup [a, b, c, e, .tup ys, .tup zs] ∧ (∀ d ∈ ys, okSt 12 p w d = true) ∧ (∀ d ∈ zs, okSt 12 p w d = true)
theorem prog_ok {k : Nat} {S : Sto} {n : Int} (h : Dk S 0 1 n) (hn : 0 ≤ n) (hn2 : n < 700000) : ∃ P S' n', run T G 0 (k + 20) 17 [.loc 1, .int 3, .int 5] S = .ok P S' ∧ ProgV P ∧ Dk S' 0 1 n' ∧ n ≤ n' ∧ n' ≤ n + 3000 ∧ ∀ X, Kp S S' X := by
  obtain ⟨a, S1, e1, l1, d1, k1⟩ := drw (k := k + 18) (m := 3) h hn (by omega) (by decide) (by decide)
  obtain ⟨b, S2, e2, l2, d2, k2⟩ := drw (k := k + 18) (m := 3) d1 (by omega) (by omega) (by decide) (by decide)
  obtain ⟨c, S3, e3, l3, d3, k3⟩ := drw (k := k + 18) (m := 5) d2 (by omega) (by omega) (by decide) (by decide)
  obtain ⟨e, S4, e4, l4, d4, k4⟩ := one (k := k + 17) (xs := cellsL) d3 (by omega) (by omega) (by decide) (by decide)
  obtain ⟨es, rfl, hes, hC, hP⟩ := cells_mem l4
  simp at e1 e2 e3
  obtain ⟨p, hp⟩ : ∃ p : Nat, (1 : Int) + (c : Int) = (p : Int) := ⟨1 + c, by omega⟩
  have kA : ∀ X, Kp S S4 X := fun X => (((k1 X).trans (k2 X)).trans (k3 X)).trans (k4 X)
  let sdA : Sl := [some (.loc 1), some (.int 3), some (.int 5), none, none, none, some (.int (1 + a)), some (.int (1 + b)), some (.int p)]
  have s0 : dS G (run T G 0 (k + 19)) 0 pg0 (slots0 9 [.loc 1, .int 3, .int 5]) S = .ok .nx sdA S3 := by
    unfold pg0
    rw [q_spar, par3_ok (x := .int (1 + a)) (y := .int (1 + b)) (z := .int p) (S1 := S3)]
    · rfl
    · simp [slots0, e1, e2, e3, hp]
  have s1 : dS G (run T G 0 (k + 19)) 0 pg1 sdA S3 = .ok .nx (sdA.set 3 (some (.tup es))) S4 := by
    unfold cellsL at e4
    simp [pg1, sdA, e4]
  have s2 : dS G (run T G 0 (k + 19)) 0 pg2 (sdA.set 3 (some (.tup es))) S4 = .ok .nx ((sdA.set 3 (some (.tup es))).set 4 (some (.lst [.int p, .int es.length]))) S4 := by
    simp [pg2, sdA]
  -- the body
  let w := es.length
  have hw : 0 < w ∧ w < 1000 := by
    have : w = es.length := rfl
    omega
  let m5 := S4.length
  have h5 : 2 ≤ m5 := d4.len
  have r5 : (S4 ++ [MO.lst [.int ((10 : Nat) : Int)]])[m5]? = some (.lst [.int ((10 : Nat) : Int)]) := by show (S4 ++ _)[S4.length]? = _; simp
  obtain ⟨ys, S5, n5, q5, e5, d5, g5, g5', m5', l5, k5, ly, vy, py⟩ := blk_draw (p := p) (w := w) (by omega) (by omega) hw.1 hw.2 2 (k + 12) (by decide) (S4 ++ [.lst [.int ((10 : Nat) : Int)]]) _ m5 10 d4.push (by omega) (by simp only [cost]; omega) h5 r5
  simp only [cost] at g5'
  have kB : ∀ X, Kp S S5 X := fun X => ⟨Nat.le_trans (kA X).len (Nat.le_trans (by simp) k5.len), fun c c1 c2 c3 => by
    have c4 : c < S4.length := Nat.lt_of_lt_of_le c2 (kA X).len
    have c5 : c ≠ m5 := by show c ≠ S4.length; omega
    rw [k5.oth c c1 (by simp; omega) c5, List.getElem?_append_left c4]
    exact (kA X).oth c c1 c2 c3⟩
  have s3 : dS G (run T G 0 (k + 19)) 0 pg3 ((sdA.set 3 (some (.tup es))).set 4 (some (.lst [.int p, .int es.length]))) S4 = .ok .nx (((sdA.set 3 (some (.tup es))).set 4 (some (.lst [.int p, .int es.length]))).set 5 (some (.tup ys))) S5 := by
    have e5' : run T G 0 (k + 19) 16 [.loc 1, .lst [.int p, .int es.length], .loc S4.length, .int 2] (S4 ++ [.lst [.int 10]]) = .ok (.tup ys) S5 := e5
    simp [pg3, sdA, e5']
  -- a look behind it
  obtain ⟨q, S6, e6, l6, d6, k6⟩ := drw (k := k + 18) (m := 3) d5 (by omega) (by omega) (by decide) (by decide)
  simp at e6
  have look : ∃ ys' S7 n7, dS G (run T G 0 (k + 19)) 0 pg4 (((sdA.set 3 (some (.tup es))).set 4 (some (.lst [.int p, .int es.length]))).set 5 (some (.tup ys))) S5 = .ok .nx (((sdA.set 3 (some (.tup es))).set 4 (some (.lst [.int p, .int es.length]))).set 5 (some (.tup ys'))) S7 ∧ Dk S7 0 1 n7 ∧ n5 ≤ n7 ∧ n7 ≤ n5 + 2 ∧ (∀ X, Kp S5 S7 X) ∧ ys'.length ≤ 4 ∧ (∀ d ∈ ys', okSt 12 p w d = true ∧ okD [] 4 d = true) ∧ (ys'.map (nT 12)).sum ≤ 60 := by
    have vv : ∀ d ∈ ys, okSt 12 p w d = true ∧ okD [] 4 d = true := fun d hd => ⟨(vy d hd).ok 7, (vy d hd).pl⟩
    by_cases zq : 0 < q
    · obtain ⟨x, S7, e7, l7, d7, k7⟩ := one (k := k + 17) (xs := looksL) d6 (by omega) (by omega) (by decide) (by decide)
      have vx := looks_mem hw.1 l7
      have vi : StV p w 1 (.tup [.str "if", x, .tup [.tup [.str "do", .int 0]], .tup []]) := if_v (dep := 0) vx (by simp) (by simp) (fun d hd => by simp at hd; subst hd; exact do_v (r := 0) (by omega)) (fun d hd => by cases hd)
      have ni := if_n (ys := [.tup [.str "do", .int 0]]) (zs := []) vx (a := 1) (b := 0) (fun m => by simp [do_n]) (fun m => by simp) 12
      refine ⟨ys ++ [.tup [.str "if", x, .tup [.tup [.str "do", .int 0]], .tup []]], S7, _, ?_, d7, by omega, by omega, fun X => (k6 X).trans (k7 X), by simp; omega, fun d hd => ?_, ?_⟩
      · have ad : addP S7 (.tup ys) (.tup [.tup [.str "if", x, .tup [.tup [.str "do", .int 0]], .tup []]]) = some (.tup (ys ++ [.tup [.str "if", x, .tup [.tup [.str "do", .int 0]], .tup []]])) := by
          unfold addP
          simp only []
          rw [if_pos (by simp; omega)]
        unfold looksL at e7
        simp [pg4, sdA, e6, zq, e7, ad]
      · rcases List.mem_append.mp hd with hd | hd
        · exact vv d hd
        · simp at hd; subst hd; exact ⟨vi.ok 8, vi.pl⟩
      · have := py 12
        rw [List.map_append, List.sum_append]
        simp at ni ⊢
        omega
    · refine ⟨ys, S6, _, ?_, d6, by omega, by omega, k6, by omega, vv, ?_⟩
      · simp [pg4, sdA, e6, zq]
      · have := py 12; omega
  obtain ⟨ys', S7, n7, s4, d7, g7, g7', k7, ly7, vy7, py7⟩ := look
  -- the tail
  let m8 := S7.length
  have h8 : 2 ≤ m8 := d7.len
  have r8 : (S7 ++ [MO.lst [.int ((4 : Nat) : Int)]])[m8]? = some (.lst [.int ((4 : Nat) : Int)]) := by show (S7 ++ _)[S7.length]? = _; simp
  obtain ⟨zs, S8, n8, q8, e8, d8, g8, g8', m8', l8, k8, lz, vz, pz⟩ := blk_draw (p := p) (w := w) (by omega) (by omega) hw.1 hw.2 1 (k + 13) (by decide) (S7 ++ [.lst [.int ((4 : Nat) : Int)]]) _ m8 4 d7.push (by omega) (by simp only [cost]; omega) h8 r8
  simp only [cost] at g8'
  have kC : ∀ X, Kp S S8 X := fun X => ⟨Nat.le_trans (kB X).len (Nat.le_trans (k7 X).len (Nat.le_trans (by simp) k8.len)), fun c c1 c2 c3 => by
    have c3' : c < S5.length := Nat.lt_of_lt_of_le c2 (kB X).len
    have c4 : c < S7.length := Nat.lt_of_lt_of_le c3' (k7 X).len
    have c5 : c ≠ m8 := by show c ≠ S7.length; omega
    rw [k8.oth c c1 (by simp; omega) c5, List.getElem?_append_left c4, (k7 X).oth c c1 c3' c3]
    exact (kB X).oth c c1 c2 c3⟩
  have vz' : ∀ d ∈ zs, okSt 12 p w d = true ∧ okD [] 4 d = true := fun d hd => ⟨(vz d hd).ok 8, (vz d hd).pl⟩
  refine ⟨.tup [.int (1 + a), .int (1 + b), .int p, .tup es, .tup ys', .tup zs], S8, n8, (run_succ (fn := ⟨3, 9, b_law_program⟩) rfl rfl).trans ?_, ⟨?_, ?_, _, _, _, _, _, _, p, w, rfl, fun d hd => (vy7 d hd).1, fun d hd => (vz' d hd).1⟩, d8, by omega, by omega, kC⟩
  · rw [pg_is, q_scons, then_nx s0, q_scons, then_nx s1, q_scons, then_nx s2, q_scons, then_nx s3, q_scons, then_nx s4]
    have e8' : run T G 0 (k + 19) 16 [.loc 1, .lst [.int p, .int es.length], .loc S7.length, .int 1] (S7 ++ [.lst [.int 4]]) = .ok (.tup zs) S8 := e8
    simp [pg5, sdA, e8', fnEnd]
  · have up : ∀ d : D, okD [] 4 d = true → okD [] 6 d = true := fun d => okD_mono (fun n kvs z => by simp at z) (by decide) d
    refine okD_tup.mpr ⟨by simp, fun d hd => ?_⟩
    simp only [List.mem_cons, List.not_mem_nil, or_false] at hd
    rcases hd with rfl | rfl | rfl | rfl | rfl | rfl
    · rfl
    · rfl
    · rfl
    · exact up _ hP
    · exact up _ (okD_tup.mpr ⟨ly7, fun d hd => (vy7 d hd).2⟩)
    · exact up _ (okD_tup.mpr ⟨by omega, fun d hd => (vz' d hd).2⟩)
  · have za : (!isInt 1 3 (.int (1 + a)) || !isInt 1 3 (.int (1 + b))) = false := by simp [isInt]; omega
    have zc : isInt 1 5 (.int p) = true := by simp [isInt]; omega
    have zf : okBk (okSt 12 p es.length) (.tup ys') = true := List.all_eq_true.mpr fun d hd => (vy7 d hd).1
    have zg : okBk (okSt 12 p es.length) (.tup zs) = true := List.all_eq_true.mpr fun d hd => (vz' d hd).1
    rw [er_p za zc hC zf zg, if_neg]
    have := pz 12
    simp only [nB]
    omega
end K21

namespace K21
open PySem PySem.Spec PyProof.Rows L2 Z
def od0 : S1 := (.asg (.nm 1) (.lst true (.cons (.c .non) (.cons (.c (.bl true)) (.cons (.c (.bl false)) (.cons (.c (.int 0)) (.cons (.c (.int 4)) (.cons (.c (.int 9)) (.cons (.c (.int 10)) (.cons (.neg (.c (.int 1))) (.cons (.c (.str "known")) (.cons (.c (.str "secret")) (.cons (.c (.str "stop")) (.cons (.c (.str "")) (.cons (.tup .nil) (.cons (.tup (.cons (.c (.str "stop")) .nil)) (.cons (.tup (.cons (.c (.str "do")) (.cons (.c (.int 0)) .nil))) (.cons (.tup (.cons (.c (.str "do")) .nil)) .nil))))))))))))))))))
def od1 : S1 := (.ex (.ext (.v 1) (.cons (.lst false (.cons (.tup (.cons (.c (.str "cell")) (.cons (.c (.int 0)) .nil))) (.cons (.tup (.cons (.c (.str "cell")) (.cons (.c (.int 4)) .nil))) (.cons (.tup (.cons (.c (.str "cell")) (.cons (.c (.bl true)) .nil))) (.cons (.tup (.cons (.c (.str "plus")) (.cons (.c (.int 1)) (.cons (.c (.int 1)) .nil)))) (.cons (.tup (.cons (.c (.str "minus")) (.cons (.c (.int 1)) (.cons (.c (.int 1)) .nil)))) (.cons (.tup (.cons (.c (.str "set")) (.cons (.c (.int 0)) (.cons (.c (.int 1)) .nil)))) (.cons (.lst false .nil) (.cons .dicE (.cons (.tup (.cons (.c (.int 2)) .nil)) .nil)))))))))) .nil)))
def od2 : S1 := (.ex (.ext (.v 1) (.cons (.lst false (.cons (.tup (.cons (.c (.str "if")) (.cons (.c (.int 0)) (.cons (.tup .nil) (.cons (.tup .nil) .nil))))) (.cons (.tup (.cons (.c (.str "if")) (.cons (.c (.int 0)) (.cons (.tup .nil) .nil)))) (.cons (.tup (.cons (.tup (.cons (.c (.str "do")) (.cons (.c (.int 0)) .nil))) .nil)) (.cons (.lst false (.cons (.tup (.cons (.c (.str "do")) (.cons (.c (.int 0)) .nil))) .nil)) (.cons (.tup (.cons (.c (.str "same")) (.cons (.c (.str "known")) .nil))) (.cons (.tup (.cons (.c (.int 2)) (.cons (.c (.int 2)) (.cons (.c (.int 2)) (.cons (.c (.int 2)) .nil))))) (.cons (.tup (.cons (.c (.int 4)) (.cons (.c (.int 4)) (.cons (.c (.int 2)) .nil)))) .nil)))))))) .nil)))
def od3 : S1 := (.ret (.call 14 (.cons (.v 0) (.cons (.v 1) .nil))))
theorem od_is : b_law_odd = (.cons od0 (.cons od1 (.cons od2 (.cons od3 .nil)))) := by kernel_rfl
def be0 : S1 := (.ite (.bo .Or (.cons (.not (.tru (.isi (.v 1) .tuple))) (.cons (.cmp .Eq (.v 1) (.tup .nil)) (.cons (.cmp .Eq (.v 2) (.c (.int 0))) (.cons (.cmp .Eq (.call 13 (.cons (.v 0) (.cons (.c (.int 6)) .nil))) (.c (.int 0))) .nil))))) (.cons (.ret (.call 25 (.cons (.v 0) .nil))) .nil) .nil)
def be1 : S1 := (.par [3, 4] (.cons (.call 13 (.cons (.v 0) (.cons (.bf .len (.cons (.v 1) .nil)) .nil))) (.cons (.call 13 (.cons (.v 0) (.cons (.c (.int 9)) .nil))) .nil)))
def be2 : S1 := (.ite (.cmp .Eq (.v 4) (.c (.int 0))) (.cons (.ret (.op .Add (.sl (.v 1) .none (.some (.v 3))) (.sl (.v 1) (.some (.op .Add (.v 3) (.c (.int 1)))) .none))) .nil) .nil)
def be3 : S1 := (.ite (.cmp .Eq (.v 4) (.c (.int 1))) (.cons (.ret (.op .Add (.v 1) (.sl (.v 1) (.some (.v 3)) (.some (.op .Add (.v 3) (.c (.int 1))))))) .nil) .nil)
def be4 : S1 := (.ret (.op .Add (.op .Add (.sl (.v 1) .none (.some (.v 3))) (.tup (.cons (.call 26 (.cons (.v 0) (.cons (.ix (.v 1) (.v 3)) (.cons (.op .Sub (.v 2) (.c (.int 1))) .nil)))) .nil))) (.sl (.v 1) (.some (.op .Add (.v 3) (.c (.int 1)))) .none)))
theorem be_is : b_law_bent = (.cons be0 (.cons be1 (.cons be2 (.cons be3 (.cons be4 .nil))))) := by kernel_rfl
def odA : List D := [.non, .bl true, .bl false, .int 0, .int 4, .int 9, .int 10, .int (-1), .str "known", .str "secret", .str "stop", .str "", .tup [], .tup [.str "stop"], .tup [.str "do", .int 0], .tup [.str "do"]]
def odB (n : Nat) : List D := [.tup [.str "cell", .int 0], .tup [.str "cell", .int 4], .tup [.str "cell", .bl true], .tup [.str "plus", .int 1, .int 1], .tup [.str "minus", .int 1, .int 1], .tup [.str "set", .int 0, .int 1], .lst [], .loc n, .tup [.int 2]]
def odC : List D := [.tup [.str "if", .int 0, .tup [], .tup []], .tup [.str "if", .int 0, .tup []], .tup [.tup [.str "do", .int 0]], .lst [.tup [.str "do", .int 0]], .tup [.str "same", .str "known"], .tup [.int 2, .int 2, .int 2, .int 2], .tup [.int 4, .int 4, .int 2]]
theorem odA_ok : ∀ d ∈ odA, okD [] 8 d = true := fun d hd => by
  have : odA.all (okD [] 8) = true := by decide +kernel
  exact List.all_eq_true.mp this d hd
theorem odC_ok : ∀ d ∈ odC, okD [] 8 d = true := fun d hd => by
  have : odC.all (okD [] 8) = true := by decide +kernel
  exact List.all_eq_true.mp this d hd
theorem odB_ok {n : Nat} {d : D} (h : d ∈ odB n) : d = .loc n ∨ okD [] 8 d = true := by
  simp only [odB, List.mem_cons, List.not_mem_nil, or_false] at h
  rcases h with rfl | rfl | rfl | rfl | rfl | rfl | rfl | rfl | rfl
  all_goals first | exact .inl rfl | exact .inr (by decide +kernel)
theorem oneOf {k : Nat} {S : Sto} {n : Int} {c : Nat} {xs : List D} (h : Dk S 0 1 n) (hn : 0 ≤ n) (hn2 : n < 1000000) (hc : S[c]? = some (.lst xs)) (hc2 : 2 ≤ c) (hm : 0 < xs.length) (hm2 : xs.length < 1000000) :
    ∃ (d : D) (S' : Sto), run T G 0 (k + 2) 14 [.loc 1, .loc c] S = .ok d S' ∧ d ∈ xs ∧ Dk S' 0 1 (n + 1) ∧ ∀ X, Kp S S' X :=
  oneL (p := 2147483477) (q := 6833) (t := 17) (u := 2147483543) rfl rfl (by decide) h hn hn2 hc hc2 hm hm2
theorem odd_ok {k : Nat} {S : Sto} {n : Int} (h : Dk S 0 1 n) (hn : 0 ≤ n) (hn2 : n < 900000) : ∃ d S', run T G 0 (k + 3) 25 [.loc 1] S = .ok d S' ∧ Dk S' 0 1 (n + 1) ∧ (∀ X, Kp S S' X) ∧ okD S' 8 d = true := by
  have hf : 2 ≤ S.length := h.len
  let f := S.length
  let S1 : Sto := S ++ [.lst odA]
  let S2 : Sto := S1 ++ [.dic []]
  have g1 : S1[f]? = some (.lst odA) := by show (S ++ [MO.lst odA])[S.length]? = _; simp
  have l1 : S1.length = f + 1 := by simp [S1, f]
  have g2 : S2[f]? = some (.lst odA) := by show (S1 ++ [MO.dic []])[f]? = _; rw [List.getElem?_append_left (by omega)]; exact g1
  have g2d : S2[f + 1]? = some (.dic []) := by show (S1 ++ [MO.dic []])[f + 1]? = _; rw [← l1]; simp
  have l2 : S2.length = f + 2 := by simp [S2, l1]
  let S3 : Sto := S2.set f (.lst (odA ++ odB (f + 1)))
  let S4 : Sto := S3.set f (.lst (odA ++ odB (f + 1) ++ odC))
  have g3 : S3[f]? = some (.lst (odA ++ odB (f + 1))) := by show (S2.set f _)[f]? = _; simp [l2]
  have g3d : S3[f + 1]? = some (.dic []) := by show (S2.set f _)[f + 1]? = _; rw [List.getElem?_set_ne (by omega)]; exact g2d
  have l3 : S3.length = f + 2 := by simp [S3, l2]
  have g4 : S4[f]? = some (.lst (odA ++ odB (f + 1) ++ odC)) := by show (S3.set f _)[f]? = _; simp [l3]
  have g4d : S4[f + 1]? = some (.dic []) := by show (S3.set f _)[f + 1]? = _; rw [List.getElem?_set_ne (by omega)]; exact g3d
  have s0 : dS G (run T G 0 (k + 2)) 0 od0 (slots0 2 [.loc 1]) S = .ok .nx [some (.loc 1), some (.loc f)] S1 := by kernel_rfl
  have s1 : dS G (run T G 0 (k + 2)) 0 od1 [some (.loc 1), some (.loc f)] S1 = .ok .nx [some (.loc 1), some (.loc f)] S3 := by
    unfold od1
    rw [q_sex, q_mExpr, q_eext]
    rw [ext_ok (n := f) (xs0 := odA) (xs := odA) (zs := odB (f + 1)) (y := .lst (odB (f + 1))) (S2 := S2) rfl g1 (by rw [← l1]; kernel_rfl) g2 rfl (by simp [odA, odB])]
  have s2 : dS G (run T G 0 (k + 2)) 0 od2 [some (.loc 1), some (.loc f)] S3 = .ok .nx [some (.loc 1), some (.loc f)] S4 := by
    unfold od2
    rw [q_sex, q_mExpr, q_eext]
    rw [ext_ok (n := f) (xs0 := odA ++ odB (f + 1)) (xs := odA ++ odB (f + 1)) (zs := odC) (y := .lst odC) (S2 := S3) rfl g3 (by kernel_rfl) g3 rfl (by simp [odA, odB, odC])]
  have d4 : Dk S4 0 1 n := ((h.push.push).set hf).set hf
  have k4 : ∀ X, Kp S S4 X := fun X => ⟨by show f ≤ S4.length; simp [S4, l3], fun c c1 c2 c3 => by
    have cf : f ≠ c := by show S.length ≠ c; omega
    show ((S2.set f _).set f _)[c]? = _
    rw [List.getElem?_set_ne cf, List.getElem?_set_ne cf]
    show (S ++ [MO.lst odA] ++ [MO.dic []])[c]? = _
    rw [List.getElem?_append_left (by simp; omega), List.getElem?_append_left c2]⟩
  obtain ⟨d, S5, e5, l5, d5, k5⟩ := oneOf (k := k) d4 hn (by omega) g4 hf (by simp [odA]) (by simp [odA, odB, odC])
  refine ⟨d, S5, (run_succ (fn := ⟨1, 2, b_law_odd⟩) rfl rfl).trans ?_, d5, fun X => (k4 X).trans (k5 X), ?_⟩
  · rw [od_is, q_scons, then_nx s0, q_scons, then_nx s1, q_scons, then_nx s2]
    simp [od3, e5, fnEnd]
  · have up : ∀ d : D, okD [] 8 d = true → okD S5 8 d = true := fun d => okD_mono (fun n kvs z => by simp at z) (by decide) d
    rcases List.mem_append.mp l5 with z | z
    · rcases List.mem_append.mp z with z | z
      · exact up _ (odA_ok d z)
      · rcases odB_ok z with rfl | z
        · unfold okD
          rw [(k5 fun _ => False).at g4d (by omega) id]
        · exact up _ z
    · exact up _ (odC_ok d z)
theorem dic_keep {S S' : Sto} {n : Int} (h : Dk S 0 1 n) (kp : Kp S S' fun _ => False) : ∀ (c : Nat) (kvs : List (Key × D)), S[c]? = some (MO.dic kvs) → S'[c]? = some (MO.dic kvs) := by
  intro c kvs e
  obtain ⟨ne, ⟨xs, h1, h2⟩, h3⟩ := h
  refine kp.at e ?_ id
  match c, e with
  | 0, e => rw [h1] at e; cases e
  | 1, e => rw [h3] at e; cases e
  | c + 2, e => omega
theorem cut_take {α : Type} {xs : List α} {a : Nat} (h : a ≤ xs.length) : cutG xs none (some (a : Int)) = xs.take a := by
  unfold cutG
  rw [HT.sIx_none, HT.sIx_nat]
  simp only [List.drop_zero, Nat.sub_zero]
  rw [Nat.min_eq_left h]
theorem cut_drop {α : Type} {xs : List α} {a : Nat} (h : a ≤ xs.length) : cutG xs (some (a : Int)) none = xs.drop a := by
  unfold cutG
  rw [HT.sIx_none, HT.sIx_nat, Nat.min_eq_left h]
  exact List.take_of_length_le (by simp)
theorem cut_one {α : Type} {xs : List α} {a : Nat} (h : a < xs.length) : cutG xs (some (a : Int)) (some ((a : Int) + 1)) = (xs.drop a).take 1 := by
  unfold cutG
  rw [show ((a : Int) + 1) = ((a + 1 : Nat) : Int) by omega, HT.sIx_nat, HT.sIx_nat, Nat.min_eq_left (by omega), Nat.min_eq_left (by omega)]
  congr 1
  omega
theorem cat_ok {S : Sto} {xs ys : List D} (h : xs.length + ys.length ≤ 1000) : addP S (.tup xs) (.tup ys) = some (.tup (xs ++ ys)) := by
  unfold addP
  simp only []
  rw [if_pos (by omega)]
theorem bent_ok : ∀ (dp k : Nat) (S : Sto) (n : Int) (d : D) (B : Nat), Dk S 0 1 n → 0 ≤ n → n + 10 * dp < 800000 → okD S B d = true → 8 ≤ B → B ≤ 400 →
    ∃ d' S' n', run T G 0 (k + dp + 4) 26 [.loc 1, d, .int dp] S = .ok d' S' ∧ Dk S' 0 1 n' ∧ n ≤ n' ∧ n' ≤ n + 4 * dp + 4 ∧ (∀ X, Kp S S' X) ∧ okD S' (B + 1) d' = true := by
  intro dp
  induction dp with
  | zero =>
    intro k S n d B h hn hn2 hd hB hB2
    obtain ⟨d', S', e, dk, kp, ok⟩ := odd_ok (k := k) h hn (by omega)
    have hit : dS G (run T G 0 (k + 3)) 0 be0 (slots0 5 [.loc 1, d, .int 0]) S = .ok (.rt d') [some (.loc 1), some d, some (.int 0), none, none] S' := by
      cases d with
      | loc m => simp [be0, slots0, isi_loc (okD_nt hd), e]
      | tup xs => cases xs <;> simp [be0, slots0, eqT0, e]
      | _ => simp [be0, slots0, e]
    refine ⟨d', S', n + 1, (run_succ (fn := ⟨3, 5, b_law_bent⟩) rfl rfl).trans ?_, dk, by omega, by omega, kp, okD_mono (fun _ _ z => z) (by omega) d' ok⟩
    rw [be_is, q_scons]
    have hit' : dS G (run T G 0 (k + 3)) 0 be0 (slots0 5 [.loc 1, d, .int ((0 : Nat) : Int)]) S = .ok (.rt d') [some (.loc 1), some d, some (.int 0), none, none] S' := hit
    rw [show k + 0 + 3 = k + 3 by omega, then_rt hit']
    rfl
  | succ dp ih =>
    intro k S n d B h hn hn2 hd hB hB2
    have fin : ∀ (S1 : Sto) (n1 : Int), Dk S1 0 1 n1 → n ≤ n1 → n1 ≤ n + 1 → (∀ X, Kp S S1 X) → (∀ d' S', run T G 0 (k + dp + 4) 25 [.loc 1] S1 = .ok d' S' → dS G (run T G 0 (k + dp + 4)) 0 be0 (slots0 5 [.loc 1, d, .int ((dp + 1 : Nat) : Int)]) S = .ok (.rt d') [some (.loc 1), some d, some (.int ((dp + 1 : Nat) : Int)), none, none] S') →
        ∃ d' S' n', run T G 0 (k + (dp + 1) + 4) 26 [.loc 1, d, .int ((dp + 1 : Nat) : Int)] S = .ok d' S' ∧ Dk S' 0 1 n' ∧ n ≤ n' ∧ n' ≤ n + 4 * ((dp + 1 : Nat) : Int) + 4 ∧ (∀ X, Kp S S' X) ∧ okD S' (B + 1) d' = true := by
      intro S1 n1 h1 a1 a2 k1 st
      obtain ⟨d', S', e, dk, kp, ok⟩ := odd_ok (k := k + dp + 1) h1 (by omega) (by omega)
      refine ⟨d', S', n1 + 1, (run_succ (k := k + dp + 4) (fn := ⟨3, 5, b_law_bent⟩) rfl rfl).trans ?_, dk, by omega, by omega, fun X => (k1 X).trans (kp X), okD_mono (fun _ _ z => z) (by omega) d' ok⟩
      rw [be_is, q_scons, then_rt (st d' S' e)]
      rfl
    have zd : ¬ ((dp : Int) + 1 = 0) := by omega
    cases d with
    | loc m =>
      refine fin S n h (by omega) (by omega) (fun X => Kp.refl _ _) fun d' S' e => ?_
      simp [be0, slots0, isi_loc (okD_nt hd), e]
    | tup xs =>
      cases xs with
      | nil =>
        refine fin S n h (by omega) (by omega) (fun X => Kp.refl _ _) fun d' S' e => ?_
        simp [be0, slots0, eqT0, e]
      | cons x xs =>
        obtain ⟨hl, hm⟩ := okD_tup.mp hd
        obtain ⟨q, S1, e1, l1, d1, k1⟩ := drw (k := k + dp + 3) (m := 6) h hn (by omega) (by decide) (by decide)
        simp at e1
        by_cases zq : q = 0
        · subst zq
          refine fin S1 (n + 1) d1 (by omega) (by omega) k1 fun d' S' e => ?_
          simp [be0, slots0, eqT0, zd, e1, e]
        · generalize hxs : x :: xs = ys at hd hl hm
          have hne : ys.isEmpty = false := by rw [← hxs]; rfl
          have hpos : 0 < ys.length := by rw [← hxs]; simp
          have s0 : dS G (run T G 0 (k + dp + 4)) 0 be0 (slots0 5 [.loc 1, .tup ys, .int ((dp + 1 : Nat) : Int)]) S = .ok .nx [some (.loc 1), some (.tup ys), some (.int ((dp + 1 : Nat) : Int)), none, none] S1 := by
            simp [be0, slots0, eqT0, hne, zd, e1, zq]
          obtain ⟨a, S2, e2, l2, d2, k2⟩ := drw (k := k + dp + 3) (m := ys.length) d1 (by omega) (by omega) hpos (by omega)
          obtain ⟨wy, S3, e3, l3, d3, k3⟩ := drw (k := k + dp + 3) (m := 9) d2 (by omega) (by omega) (by decide) (by decide)
          simp at e3
          have s1 : dS G (run T G 0 (k + dp + 4)) 0 be1 [some (.loc 1), some (.tup ys), some (.int ((dp + 1 : Nat) : Int)), none, none] S1 = .ok .nx [some (.loc 1), some (.tup ys), some (.int ((dp + 1 : Nat) : Int)), some (.int a), some (.int wy)] S3 := by
            unfold be1
            rw [q_spar, par2_ok (x := .int a) (y := .int wy) (S1 := S3)]
            · rfl
            · simp [e2, e3]
          have kk : ∀ X, Kp S S3 X := fun X => ((k1 X).trans (k2 X)).trans (k3 X)
          have dk3 := dic_keep h (kk _)
          have hm3 : ∀ d ∈ ys, okD S3 B d = true := fun d hd => okD_mono dk3 (Nat.le_refl _) d (hm d hd)
          have tk : ∀ S : Sto, slP S (.tup ys) none (some (a : Int)) = some (.tup (ys.take a)) := fun S => by show some (D.tup (cutG ys none (some (a : Int)))) = _; rw [cut_take (by omega)]
          have dr : ∀ S : Sto, slP S (.tup ys) (some ((a : Int) + 1)) none = some (.tup (ys.drop (a + 1))) := fun S => by show some (D.tup (cutG ys (some ((a : Int) + 1)) none)) = _; rw [show ((a : Int) + 1) = ((a + 1 : Nat) : Int) by omega, cut_drop (by omega)]
          have on : ∀ S : Sto, slP S (.tup ys) (some (a : Int)) (some ((a : Int) + 1)) = some (.tup ((ys.drop a).take 1)) := fun S => by show some (D.tup (cutG ys (some (a : Int)) (some ((a : Int) + 1)))) = _; rw [cut_one (by omega)]
          by_cases w0 : wy = 0
          · subst w0
            have c1 := cat_ok (S := S3) (xs := ys.take a) (ys := ys.drop (a + 1)) (by simp; omega)
            have s2 : dS G (run T G 0 (k + dp + 4)) 0 be2 [some (.loc 1), some (.tup ys), some (.int ((dp + 1 : Nat) : Int)), some (.int a), some (.int ((0 : Nat) : Int))] S3 = .ok (.rt (.tup (ys.take a ++ ys.drop (a + 1)))) [some (.loc 1), some (.tup ys), some (.int ((dp + 1 : Nat) : Int)), some (.int a), some (.int ((0 : Nat) : Int))] S3 := by
              simp [be2, tk, dr, c1]
            refine ⟨.tup (ys.take a ++ ys.drop (a + 1)), S3, n + 1 + 1 + 1, (run_succ (k := k + dp + 4) (fn := ⟨3, 5, b_law_bent⟩) rfl rfl).trans ?_, d3, by omega, by omega, kk, okD_mono (B := B) (fun _ _ z => z) (by omega) _ (okD_tup.mpr ⟨by simp; omega, fun d hd => ?_⟩)⟩
            · rw [be_is, q_scons, then_nx s0, q_scons, then_nx s1, q_scons, then_rt s2]
              rfl
            · rcases List.mem_append.mp hd with hd | hd
              · exact hm3 d (List.mem_of_mem_take hd)
              · exact hm3 d (List.mem_of_mem_drop hd)
          · have w0' : ¬ ((wy : Int) = 0) := by omega
            have s2 : dS G (run T G 0 (k + dp + 4)) 0 be2 [some (.loc 1), some (.tup ys), some (.int ((dp + 1 : Nat) : Int)), some (.int a), some (.int wy)] S3 = .ok .nx [some (.loc 1), some (.tup ys), some (.int ((dp + 1 : Nat) : Int)), some (.int a), some (.int wy)] S3 := by
              simp [be2, w0]
            by_cases w1 : wy = 1
            · subst w1
              have c1 := cat_ok (S := S3) (xs := ys) (ys := (ys.drop a).take 1) (by simp; omega)
              have s3 : dS G (run T G 0 (k + dp + 4)) 0 be3 [some (.loc 1), some (.tup ys), some (.int ((dp + 1 : Nat) : Int)), some (.int a), some (.int ((1 : Nat) : Int))] S3 = .ok (.rt (.tup (ys ++ (ys.drop a).take 1))) [some (.loc 1), some (.tup ys), some (.int ((dp + 1 : Nat) : Int)), some (.int a), some (.int ((1 : Nat) : Int))] S3 := by
                simp [be3, on, c1]
              refine ⟨.tup (ys ++ (ys.drop a).take 1), S3, n + 1 + 1 + 1, (run_succ (k := k + dp + 4) (fn := ⟨3, 5, b_law_bent⟩) rfl rfl).trans ?_, d3, by omega, by omega, kk, okD_tup.mpr ⟨by simp; omega, fun d hd => ?_⟩⟩
              · rw [be_is, q_scons, then_nx s0, q_scons, then_nx s1, q_scons, then_nx s2, q_scons, then_rt s3]
                rfl
              · refine okD_mono (B := B) (fun _ _ z => z) (by omega) d ?_
                rcases List.mem_append.mp hd with hd | hd
                · exact hm3 d hd
                · exact hm3 d (List.mem_of_mem_drop (List.mem_of_mem_take hd))
            · have s3 : dS G (run T G 0 (k + dp + 4)) 0 be3 [some (.loc 1), some (.tup ys), some (.int ((dp + 1 : Nat) : Int)), some (.int a), some (.int wy)] S3 = .ok .nx [some (.loc 1), some (.tup ys), some (.int ((dp + 1 : Nat) : Int)), some (.int a), some (.int wy)] S3 := by
                have w1' : ¬ ((wy : Int) = 1) := by omega
                simp [be3, w1']
              have ia : ∀ S : Sto, ixP S (.tup ys) (.int a) = some ys[a] := fun S => ixT (List.getElem?_eq_getElem l2)
              obtain ⟨u, S4, n4, e4, d4, g4, g4', k4, o4⟩ := ih k S3 (n + 1 + 1 + 1) ys[a] B d3 (by omega) (by omega) (hm3 _ (List.getElem_mem l2)) hB hB2
              have hm4 : ∀ d ∈ ys, okD S4 (B + 1) d = true := fun d hd => okD_mono (dic_keep d3 (k4 _)) (by omega) d (hm3 d hd)
              have c1 := cat_ok (S := S4) (xs := ys.take a) (ys := [u]) (by simp; omega)
              have c2 := cat_ok (S := S4) (xs := ys.take a ++ [u]) (ys := ys.drop (a + 1)) (by simp; omega)
              refine ⟨.tup (ys.take a ++ [u] ++ ys.drop (a + 1)), S4, n4, (run_succ (k := k + dp + 4) (fn := ⟨3, 5, b_law_bent⟩) rfl rfl).trans ?_, d4, by omega, by omega, fun X => (kk X).trans (k4 X), okD_tup.mpr ⟨by simp; omega, fun d hd => ?_⟩⟩
              · rw [be_is, q_scons, then_nx s0, q_scons, then_nx s1, q_scons, then_nx s2, q_scons, then_nx s3]
                simp only [List.append_assoc, List.singleton_append] at c2
                simp [be4, tk, ia, e4, c1, dr, c2, fnEnd]
              · rcases List.mem_append.mp hd with hd | hd
                · rcases List.mem_append.mp hd with hd | hd
                  · exact hm4 d (List.mem_of_mem_take hd)
                  · simp at hd; subst hd; exact o4
                · exact hm4 d (List.mem_of_mem_drop hd)
    | _ =>
      refine fin S n h (by omega) (by omega) (fun X => Kp.refl _ _) fun d' S' e => ?_
      simp [be0, slots0, e]
end K21

namespace K21
open PySem PySem.Spec PyProof.Rows L2 Z
def tu0 : S1 := (.asg (.nm 3) (.call 17 (.cons (.v 1) (.cons (.c (.int 3)) (.cons (.c (.int 5)) .nil)))))
def tu1 : S1 := (.ite (.bo .Or (.cons (.cmp .IsNot (.call 11 (.cons (.v 3) .nil)) (.c .non)) (.cons (.cmp .NotEq (.call 10 (.cons (.v 3) .nil)) (.op .Add (.call 23 (.cons (.ix (.v 3) (.c (.int 4))) .nil)) (.call 23 (.cons (.ix (.v 3) (.c (.int 5))) .nil)))) .nil))) (.cons (.ret (.c (.bl false))) .nil) .nil)
def tu2 : S1 := (.asg (.nm 4) (.v 3))
def tu3 : S1 := (.for_ (.nm 5) (.rng1 (.cons (.op .Add (.c (.int 1)) (.call 13 (.cons (.v 1) (.cons (.c (.int 3)) .nil)))) .nil)) (.cons (.asg (.nm 4) (.call 26 (.cons (.v 1) (.cons (.v 4) (.cons (.c (.int 7)) .nil))))) (.cons (.ite (.cmp .NotEq (.bf .repr (.cons (.call 11 (.cons (.v 4) .nil)) .nil)) (.bf .repr (.cons (.call 24 (.cons (.v 4) .nil)) .nil))) (.cons (.ret (.c (.bl false))) .nil) .nil) .nil)))
def tu4 : S1 := (.for_ (.nm 4) (.seq (.lst false (.cons (.call 25 (.cons (.v 1) .nil)) (.cons (.bf .lst (.cons (.v 3) .nil)) (.cons (.sl (.v 3) .none (.some (.c (.int 5)))) (.cons (.op .Add (.v 3) (.tup (.cons (.c (.int 1)) .nil))) .nil)))))) (.cons (.ite (.cmp .NotEq (.bf .repr (.cons (.call 11 (.cons (.v 4) .nil)) .nil)) (.bf .repr (.cons (.call 24 (.cons (.v 4) .nil)) .nil))) (.cons (.ret (.c (.bl false))) .nil) .nil) .nil))
def lawT : Ss := (.cons tu0 (.cons tu1 (.cons tu2 (.cons tu3 (.cons tu4 .nil)))))
theorem law_is : b_law = .cons (.asg (.nm 1) (.call 12 (.cons (.v 0) .nil))) (.cons (.for_ (.nm 2) (.rng1 (.cons (.c (.int 12)) .nil)) lawT) (.cons (.ret (.c (.bl true))) .nil)) := by kernel_rfl
def chk : S1 := (.ite (.cmp .NotEq (.bf .repr (.cons (.call 11 (.cons (.v 4) .nil)) .nil)) (.bf .repr (.cons (.call 24 (.cons (.v 4) .nil)) .nil))) (.cons (.ret (.c (.bl false))) .nil) .nil)
def ben : S1 := (.asg (.nm 4) (.call 26 (.cons (.v 1) (.cons (.v 4) (.cons (.c (.int 7)) .nil)))))
def it4 : Z.It := (.seq (.lst false (.cons (.call 25 (.cons (.v 1) .nil)) (.cons (.bf .lst (.cons (.v 3) .nil)) (.cons (.sl (.v 3) .none (.some (.c (.int 5)))) (.cons (.op .Add (.v 3) (.tup (.cons (.c (.int 1)) .nil))) .nil))))))
theorem tu3_is : tu3 = .for_ (.nm 5) (.rng1 (.cons (.op .Add (.c (.int 1)) (.call 13 (.cons (.v 1) (.cons (.c (.int 3)) .nil)))) .nil)) (.cons ben (.cons chk .nil)) := by kernel_rfl
theorem tu4_is : tu4 = .for_ (.nm 4) it4 (.cons chk .nil) := by kernel_rfl
def words : List D := [.non, .str "program", .str "letters", .str "works", .str "cells", .str "body", .str "tail", .str "parts"]
theorem errD_mem (d : D) : errD d ∈ words := by
  unfold errD words
  split
  · split
    · simp
    · split
      · simp
      · split
        · simp
        · split
          · simp
          · split
            · simp
            · split <;> simp
  · simp
def shw (d : D) : Str := match reprD [] d with
  | some (.str s) => s
  | _ => ""
theorem repr_ok {S : Sto} {d : D} (h : d ∈ words) : reprD S d = some (.str (shw d)) := by
  simp only [words, List.mem_cons, List.not_mem_nil, or_false] at h
  rcases h with rfl | rfl | rfl | rfl | rfl | rfl | rfl | rfl <;> kernel_rfl
abbrev C0 : Nat → List D → Sto → Out D := run T G 0 59
theorem chk_ok {S : Sto} {B : Nat} {d : D} {sd : Sl} (h : okD S B d = true) (hB : B ≤ 1000) (h4 : sd[4]? = some (some d)) : dS G C0 0 chk sd S = .ok .nx sd S := by
  have e1 : run T G 0 59 11 [d] S = .ok (errD d) S := perr_ok (k := 19) hB h
  have e2 : run T G 0 59 24 [d] S = .ok (errD d) S := due_ok (k := 19) hB h
  have r := repr_ok (S := S) (errD_mem d)
  simp [chk, h4, e1, e2, r]
theorem turn {S : Sto} {n : Int} {x0 x2 x3 x4 x5 : Option D} (h : Dk S 0 1 n) (hn : 0 ≤ n) (hn2 : n < 500000) :
    ∃ y2 y3 y4 y5 S' n', dSs G C0 0 lawT [x0, some (.loc 1), x2, x3, x4, x5] S = .ok .nx [x0, some (.loc 1), y2, y3, y4, y5] S' ∧ Dk S' 0 1 n' ∧ n ≤ n' ∧ n' ≤ n + 3200 := by
  obtain ⟨P, S1, n1, e1, v, d1, g1, g1', _⟩ := prog_ok (k := 39) h hn (by omega)
  obtain ⟨a, b, c, e, ys, zs, p, w, rfl, vy, vz⟩ := v.six
  generalize hP : D.tup [a, b, c, e, .tup ys, .tup zs] = P at e1 v
  have pk : ∀ (S : Sto) (B : Nat), 6 ≤ B → okD S B P = true := fun S B hB => okD_mono (fun n kvs z => by simp at z) hB P v.pl
  have s0 : dS G C0 0 tu0 [x0, some (.loc 1), x2, x3, x4, x5] S = .ok .nx [x0, some (.loc 1), x2, some P, x4, x5] S1 := by
    simp [tu0, e1]
  have s1 : dS G C0 0 tu1 [x0, some (.loc 1), x2, some P, x4, x5] S1 = .ok .nx [x0, some (.loc 1), x2, some P, x4, x5] S1 := by
    have q1 : run T G 0 59 11 [P] S1 = .ok .non S1 := by
      have := perr_ok (k := 19) (B := 6) (by decide) (pk S1 6 (by decide))
      rw [v.err] at this
      exact this
    have q2 : run T G 0 59 10 [P] S1 = .ok (.int (nB 12 (.tup ys) + nB 12 (.tup zs) : Nat)) S1 := by
      rw [← hP]
      exact parts_ok (k := 45) (p := p) (w := w) (List.all_eq_true.mpr vy) (List.all_eq_true.mpr vz)
    have hm := pk S1 6 (by decide)
    rw [← hP] at hm
    have q3 : run T G 0 59 23 [.tup ys] S1 = .ok (.int (nB 12 (.tup ys))) S1 := lpb_ok (B := 6) (by decide) 12 34 ys ((okD_tup.mp hm).2 _ (by simp)) vy
    have q4 : run T G 0 59 23 [.tup zs] S1 = .ok (.int (nB 12 (.tup zs))) S1 := lpb_ok (B := 6) (by decide) 12 34 zs ((okD_tup.mp hm).2 _ (by simp)) vz
    have i4 : ixP S1 P (.int 4) = some (.tup ys) := by rw [← hP]; exact ixT (i := 4) rfl
    have i5 : ixP S1 P (.int 5) = some (.tup zs) := by rw [← hP]; exact ixT (i := 5) rfl
    have nn : isNP true S1 .non .non = some (.bl false) := rfl
    simp only [Int.natCast_add] at q2
    simp [tu1, q1, q2, q3, q4, i4, i5, nn]
  have s2 : dS G C0 0 tu2 [x0, some (.loc 1), x2, some P, x4, x5] S1 = .ok .nx [x0, some (.loc 1), x2, some P, some P, x5] S1 := by
    simp [tu2]
  -- bent values
  obtain ⟨q, S2, e2, l2, d2, k2⟩ := drw (k := 58) (m := 3) d1 (by omega) (by omega) (by decide) (by decide)
  simp at e2
  obtain ⟨m, hm⟩ : ∃ m : Nat, (1 : Int) + (q : Int) = (m : Int) := ⟨1 + q, by omega⟩
  let src : List D := (List.range m).map fun (i : Nat) => D.int (0 + (i : Int))
  have hsl : src.length = m := by simp [src]
  obtain ⟨sd3, S3, e3, z5, dv, n3, rfl, d3, g3, g3', o3⟩ := for_inv (ds := src) (g := gNm 5) (b := dSs G C0 0 (.cons ben (.cons chk .nil)))
    (fun i sd S' => ∃ z5 dv n', sd = [x0, some (.loc 1), x2, some P, some dv, z5] ∧ Dk S' 0 1 n' ∧ n1 + 1 ≤ n' ∧ n' ≤ n1 + 1 + 40 * i ∧ okD S' (8 + i) dv = true)
    (fun i d sd S' hd hI => by
      obtain ⟨z5, dv, n', rfl, dd, a1, a2, a3⟩ := hI
      have hi : i < m := by have := (List.getElem?_eq_some_iff.mp hd).1; omega
      obtain ⟨d', S4, n4, e4, d4, b1, b2, b3, b4⟩ := bent_ok 7 48 S' n' dv (8 + i) dd (by omega) (by omega) a3 (by omega) (by omega)
      have t1 : dS G C0 0 ben [x0, some (.loc 1), x2, some P, some dv, some d] S' = .ok .nx [x0, some (.loc 1), x2, some P, some d', some d] S4 := by
        simp at e4
        simp [ben, e4]
      have t2 : dS G C0 0 chk [x0, some (.loc 1), x2, some P, some d', some d] S4 = .ok .nx [x0, some (.loc 1), x2, some P, some d', some d] S4 := chk_ok b4 (by omega) rfl
      refine ⟨_, S', rfl, [x0, some (.loc 1), x2, some P, some d', some d], S4, .inl ?_, some d, d', n4, rfl, d4, by omega, by omega, by rw [show 8 + (i + 1) = 8 + i + 1 by omega]; exact b4⟩
      show dSs G C0 0 (.cons ben (.cons chk .nil)) [x0, some (.loc 1), x2, some P, some dv, some d] S' = _
      rw [q_scons, then_nx t1, one_st, t2])
    m 0 [x0, some (.loc 1), x2, some P, some P, x5] S2 (by omega) ⟨x5, P, n1 + 1, rfl, d2, by omega, by omega, pk S2 _ (by omega)⟩
  rw [hsl] at g3'
  have s3 : dS G C0 0 tu3 [x0, some (.loc 1), x2, some P, some P, x5] S1 = .ok .nx [x0, some (.loc 1), x2, some P, some dv, z5] S3 := by
    have it : dI G C0 (.rng1 (.cons (.op .Add (.c (.int 1)) (.call 13 (.cons (.v 1) (.cons (.c (.int 3)) .nil)))) .nil)) [x0, some (.loc 1), x2, some P, some P, x5] S1 = .ok (.vals src) S2 := by
      have := rng_nat (q := m) (by omega)
      simp [e2, hm, this, src]
    rw [tu3_is, q_sfor, q_mFor, it]
    simp only [q_vLen, hsl]
    exact e3
  -- other values
  obtain ⟨od, S4, e4, d4, k4, o4⟩ := odd_ok (k := 56) d3 (by omega) (by omega)
  let vals : List D := [od, .lst [a, b, c, e, .tup ys, .tup zs], .tup [a, b, c, e, .tup ys], .tup [a, b, c, e, .tup ys, .tup zs, .int 1]]
  have hmP := pk S4 8 (by decide)
  rw [← hP] at hmP
  have hmd := (okD_tup.mp hmP).2
  have vo : ∀ d ∈ vals, okD S4 8 d = true := fun d hd => by
    simp only [vals, List.mem_cons, List.not_mem_nil, or_false] at hd
    rcases hd with rfl | rfl | rfl | rfl
    · exact o4
    · rfl
    · refine okD_tup.mpr ⟨by simp, fun d hd => hmd d ?_⟩
      simp only [List.mem_cons, List.not_mem_nil, or_false] at hd ⊢
      rcases hd with h | h | h | h | h <;> simp [h]
    · refine okD_tup.mpr ⟨by simp, fun d hd => ?_⟩
      simp only [List.mem_cons, List.not_mem_nil, or_false] at hd
      rcases hd with h | h | h | h | h | h | h
      · exact hmd d (by simp [h])
      · exact hmd d (by simp [h])
      · exact hmd d (by simp [h])
      · exact hmd d (by simp [h])
      · exact hmd d (by simp [h])
      · exact hmd d (by simp [h])
      · subst h; rfl
  obtain ⟨sd5, S5, e5, rfl, z4, rfl⟩ := for_inv (ds := vals) (g := gNm 4) (b := dSs G C0 0 (.cons chk .nil))
    (fun i sd S' => S' = S4 ∧ ∃ z4, sd = [x0, some (.loc 1), x2, some P, z4, z5])
    (fun i d sd S' hd hI => by
      obtain ⟨rfl, z4, rfl⟩ := hI
      have t2 : dS G C0 0 chk [x0, some (.loc 1), x2, some P, some d, z5] S' = .ok .nx [x0, some (.loc 1), x2, some P, some d, z5] S' := chk_ok (vo d (List.mem_of_getElem? hd)) (by decide) rfl
      exact ⟨_, S', rfl, [x0, some (.loc 1), x2, some P, some d, z5], S', .inl (by rw [one_st]; exact t2), rfl, some d, rfl⟩)
    4 0 [x0, some (.loc 1), x2, some P, some dv, z5] S4 rfl ⟨rfl, some dv, rfl⟩
  have s4 : dS G C0 0 tu4 [x0, some (.loc 1), x2, some P, some dv, z5] S3 = .ok .nx [x0, some (.loc 1), x2, some P, z4, z5] S5 := by
    have it : dI G C0 it4 [x0, some (.loc 1), x2, some P, some dv, z5] S3 = .ok (.vals vals) S5 := by
      have l1 : lstD S5 P = some (.lst [a, b, c, e, .tup ys, .tup zs]) := by rw [← hP]; rfl
      have l2 : slP S5 P none (some 5) = some (.tup [a, b, c, e, .tup ys]) := by rw [← hP]; rfl
      have l3 : addP S5 P (.tup [.int 1]) = some (.tup [a, b, c, e, .tup ys, .tup zs, .int 1]) := by rw [← hP]; rfl
      simp [it4, e4, l1, l2, l3, srcOf, vals]
    rw [tu4_is, q_sfor, q_mFor, it]
    exact e5
  refine ⟨x2, some P, z4, z5, S5, n3 + 1, ?_, d4, by omega, by omega⟩
  unfold lawT
  rw [q_scons, then_nx s0, q_scons, then_nx s1, q_scons, then_nx s2, q_scons, then_nx s3, q_scons, then_nx s4]
  rfl
theorem math (ns : List Int) (hl : ns.length ≤ 63) : ∃ wf S', Z.run (rows.map Z.Row.fn) (gl.map (·.2)) wf 60 27 [.fro (ns.map .int)] [] = .ok (.bl true) S' := by
  refine ⟨0, ?_⟩
  obtain ⟨S1, e1, l1, d1, _⟩ := deck_ok (G := G) (C := run T G 0 58) (wf := 0) (nm := "_law_cell") (S := []) hl
  have e1' : C0 12 [.fro (ns.map .int)] [] = .ok (.loc 1) S1 := (run_succ (fn := ⟨1, 2, deckB "_law_cell"⟩) rfl rfl).trans e1
  have s0 : dS G C0 0 (.asg (.nm 1) (.call 12 (.cons (.v 0) .nil))) (slots0 6 [.fro (ns.map .int)]) [] = .ok .nx [some (.fro (ns.map .int)), some (.loc 1), none, none, none, none] S1 := by
    simp only [C0] at e1'
    simp [slots0, e1']
  let src : List D := (List.range 12).map fun (i : Nat) => D.int (0 + (i : Int))
  obtain ⟨sd', S', e2, x2, x3, x4, x5, n', rfl, d2, g2, g2'⟩ := for_inv (ds := src) (g := gNm 2) (b := dSs G C0 0 lawT) (fun i sd S => ∃ x2 x3 x4 x5 n', sd = [some (.fro (ns.map .int)), some (.loc 1), x2, x3, x4, x5] ∧ Dk S 0 1 n' ∧ 0 ≤ n' ∧ n' ≤ 3200 * i)
    (fun i d sd S hd hP => by
      have hi : i < 12 := by
        have := (List.getElem?_eq_some_iff.mp hd).1
        simpa [src] using this
      obtain ⟨x2, x3, x4, x5, n', rfl, dd, a1, a2⟩ := hP
      obtain ⟨y2, y3, y4, y5, S2, n2, t1, t2, t3, t4⟩ := turn (x0 := some (.fro (ns.map .int))) (x2 := some d) (x3 := x3) (x4 := x4) (x5 := x5) dd a1 (by omega)
      exact ⟨_, S, rfl, _, S2, .inl t1, y2, y3, y4, y5, n2, rfl, t2, by omega, by omega⟩)
    12 0 [some (.fro (ns.map .int)), some (.loc 1), none, none, none, none] S1 rfl ⟨none, none, none, none, 0, rfl, d1, by decide, by decide⟩
  refine ⟨S', (run_succ (fn := ⟨1, 6, b_law⟩) rfl rfl).trans ?_⟩
  show fnEnd (dSs G C0 0 b_law (slots0 6 [.fro (ns.map .int)]) []) = _
  rw [law_is, q_scons, then_nx s0, q_scons]
  have s1 : dS G C0 0 (.for_ (.nm 2) (.rng1 (.cons (.c (.int 12)) .nil)) lawT) [some (.fro (ns.map .int)), some (.loc 1), none, none, none, none] S1 = .ok .nx [some (.fro (ns.map .int)), some (.loc 1), x2, x3, x4, x5] S' := e2
  rw [then_nx s1]
  rfl
end K21

namespace K21
open PySem PySem.Spec PyProof.Rows L2 Z
def fr : List Str := bltN.map Str.ofString
abbrev R : PySem.W.OpenRow := PySem.W.OpenLaw.row PySem.Challenge.rw_steadytime_k21_programs_with_errors
def dfs : List He.DefD := rows.map Row.dfd
abbrev hk : PySem.W.Hook := hookZ 4 fr gl (rows.map Z.Row.dfd)
def ob (s : PySem.W.SharedT) : He.AlD := obsZG 4 fr gl (rows.map Z.Row.dfd) (HandSHeadRun.getT s)
theorem ob_eq (s : PySem.W.SharedT) : ob s = hk.obs s.abs := obsZG_eq (HandSHeadRun.getT_eq s)
theorem runs (w : World) : HandSHeadRun.RunEq R (PySem.W.view R.prog [40]) hk ob 5000 loose w := by
  intro os
  kernel_rfl
theorem hrows : (rows.all (rowOk ⟨rows.map fun r => (r.x, r.ps.length), gl⟩)) = true := by decide +kernel
theorem ends (math : ∀ ns : List Int, ns.length ≤ 63 → ∃ wf S', Z.run (rows.map Z.Row.fn) (gl.map (·.2)) wf 60 27 [.fro (ns.map .int)] [] = .ok (.bl true) S') : PySem.Challenge.rw_steadytime_k21_programs_with_errors.Holds := by
  w_on; o_law
  refine HandSHeadRun.head_any (r := PySem.W.OpenLaw.row PySem.Challenge.rw_steadytime_k21_programs_with_errors) (q := PySem.W.view (PySem.W.OpenLaw.row PySem.Challenge.rw_steadytime_k21_programs_with_errors).prog [40]) (H := hk) (ob := ob) (M := 5000) (loose := loose) (d := HandSHeadRun.topDef (PySem.W.OpenLaw.row PySem.Challenge.rw_steadytime_k21_programs_with_errors).prog 40) (kwd := []) ob_eq
    (by kernel_rfl) (fun s => by kernel_rfl) runs (by kernel_rfl) (by kernel_rfl) (by kernel_rfl) (by rfl) (by first | assumption | decide +kernel) (by decide +kernel) ⟨rfl, rfl, rfl, rfl, rfl, by decide +kernel⟩ ?hw ?hc
  case hw => w_witness2
  case hc =>
    exact walk_ofZ (l := PySem.Challenge.rw_steadytime_k21_programs_with_errors) (n := 63) (k := 60) (x := "_law_script") (i := 27) (row := r_law) rfl (by decide) (by kernel_rfl) ⟨rfl, by decide, by decide⟩ (fun _ _ z => z) (by decide +kernel) rfl (by kernel_rfl) rfl hrows math
end K21

theorem PySem.Challenge.cw_steadytime_k21_programs_with_errors_holds : PySem.Challenge.rw_steadytime_k21_programs_with_errors.Holds := by
  exact K21.ends K21.math
