import PyProof.Rows.All
import Wide.All
import OpenK.AllK
import Wide.FinOn
import HandS.ForMost
import HandS.ForExc
import HandS.IsInst
import HandS.TupAny
import HandS.TupMul
import HandS.Style
import HandS.Wide
import HandS.Zip
import PyProof.ReprRoads
import HandS.Defaults
import HandS.Head0
import HandS.Head1
import HandS.Head2
import HandS.HeadEnd
import HandS.HeadHook1
import HandS.HeadHook2
import PySem.Challenge.RW_steadytime_k22_programs_at_bounds
set_option Elab.async false
set_option linter.all false
set_option maxRecDepth 100000
set_option maxHeartbeats 0
/-! Z layer, part A: plain data, stores, what they stand for on HandS's abstract heap. -/
namespace Z
open PySem PySem.Spec PyProof.Rows L2

/-- plain data: tuples and lists that nobody changes as trees; fro: a list that was there before (the script); loc n: the n-th changeable object of the store -/
inductive D where
  | non | bl (b : Bool) | int (i : Int) | str (x : Str) | tup (xs : List D) | lst (xs : List D) | fro (xs : List D) | loc (n : Nat)

/-- a changeable object: a list; an instance of the c-th class -/
inductive MO where
  | lst (xs : List D)
  | ins (c : Nat) (fs : List (Str × D))

abbrev Sto := List MO
/-- where the store's objects stand; addresses that no datum may stand at -/
structure Rg where
  l : List Addr
  p : List Addr
def Rg.add (r : Rg) (a : Addr) : Rg := ⟨r.l ++ [a], r.p⟩
def Rg.hide (r : Rg) (a : Addr) : Rg := ⟨r.l, a :: r.p⟩
abbrev Sl := List (Option D)
abbrev St := L2.St
abbrev XF := Option (List (Str × D))

/-- what an expression comes to -/
inductive Out (T : Type) where
  | ok (a : T) (S : Sto)
  | exc (c : Nat) (fs : XF) (S : Sto)
  | bad
def Out.bind {T U : Type} (o : Out T) (f : T → Sto → Out U) : Out U := match o with
  | .ok a S => f a S
  | .exc c fs S => .exc c fs S
  | .bad => .bad

section
variable (K : PySem.W.Frag) (ca : Nat → Addr) (H : Hp) (r : Rg)

def KL (a : Addr) (xs : List V) : Prop :=
  ∃ (o : Obj) (its : Array Value) (n : Nat), K.lookup a = some o ∧ o.cls = .type "list" ∧ o.dict = none ∧ o.data = .seq its n ∧ its.size ≤ sizeLine ∧ Vals xs its.toList

def FL (a : Addr) (xs : List V) : Prop := (∃ o, H a = some (.frz o (.lst xs))) ∨ KL K a xs

mutual
/-- the datum d stands at the value v -/
inductive Rep : D → V → Prop
  | non : Rep .non .non
  | bl (b : Bool) : Rep (.bl b) (.bl b)
  | int (i : Int) : Rep (.int i) (.int i)
  | str (x : Str) : Rep (.str x) (.str x)
  | tup {a : Addr} {vs : List V} {ds : List D} : SqT K H a vs → Reps ds vs → Rep (.tup ds) (.ref a)
  | lst {a : Addr} {vs : List V} {ds : List D} : H a = some (.lst vs) → a ∉ r.l → a ∉ r.p → Reps ds vs → Rep (.lst ds) (.ref a)
  | fro {a : Addr} {vs : List V} {ds : List D} : FL K H a vs → Reps ds vs → Rep (.fro ds) (.ref a)
  | loc {n : Nat} {a : Addr} : r.l[n]? = some a → Rep (.loc n) (.ref a)
inductive Reps : List D → List V → Prop
  | nil : Reps [] []
  | cons {d : D} {ds : List D} {v : V} {vs : List V} : Rep d v → Reps ds vs → Reps (d :: ds) (v :: vs)
end

/-- fields by name -/
inductive RepF : List (Str × D) → List (Str × V) → Prop
  | nil : RepF [] []
  | cons {f : Str} {d : D} {v : V} {ds : List (Str × D)} {vs : List (Str × V)} : Rep K H r d v → RepF ds vs → RepF ((f, d) :: ds) ((f, v) :: vs)

def ORep (o : MO) (a : Addr) : Prop := match o with
  | .lst ds => ∃ vs, H a = some (.lst vs) ∧ Reps K H r ds vs
  | .ins c fs => ∃ dx gs, H a = some (.ins (ca c) dx gs) ∧ RepF K H r fs gs

structure Sim (S : Sto) : Prop where
  len : r.l.length = S.length
  nd : r.l.Nodup
  obj : ∀ (n : Nat) (o : MO), S[n]? = some o → ∃ a, r.l[n]? = some a ∧ ORep K ca H r o a
  prv : ∀ a ∈ r.p, H a ≠ none
end

/-- never changed -/
def Imm : HO → Prop
  | .tup _ => True
  | .frz _ _ => True
  | _ => False

structure Ext (H : Hp) (r : Rg) (H' : Hp) (r' : Rg) : Prop where
  more : ∃ l, r' = ⟨r.l ++ l, r.p⟩ ∧ ∀ a ∈ l, H a = none
  keep : ∀ b o, H b = some o → b ∉ r.l → H' b = some o
  imm : ∀ b o, H b = some o → Imm o → H' b = some o
  there : ∀ b, H b ≠ none → H' b ≠ none

theorem Ext.refl (H : Hp) (r : Rg) : Ext H r H r := ⟨⟨[], by simp, by simp⟩, fun _ _ h _ => h, fun _ _ h _ => h, fun _ h => h⟩
theorem Ext.trans {H H1 H2 : Hp} {r r1 r2 : Rg} (a : Ext H r H1 r1) (b : Ext H1 r1 H2 r2) : Ext H r H2 r2 := by
  obtain ⟨l1, e1, n1⟩ := a.more
  obtain ⟨l2, e2, n2⟩ := b.more
  refine ⟨⟨l1 ++ l2, by rw [e2, e1]; simp [List.append_assoc], fun x hx => ?_⟩, fun x o h hn => b.keep x o (a.keep x o h hn) ?_, fun x o h hi => b.imm x o (a.imm x o h hi) hi, fun x h => b.there x (a.there x h)⟩
  · rcases List.mem_append.mp hx with hx | hx
    · exact n1 x hx
    · have := n2 x hx
      cases e : H x with
      | none => rfl
      | some o => exact absurd this (a.there x (by rw [e]; simp))
  · rw [e1]
    intro hm
    rcases List.mem_append.mp hm with hm | hm
    · exact hn hm
    · rw [n1 x hm] at h; cases h

section
variable {K : PySem.W.Frag} {ca : Nat → Addr} {H H' : Hp} {r r' : Rg}

theorem Ext.rdT {a : Addr} {xs : List V} (e : Ext H r H' r') (h : SqT K H a xs) : SqT K H' a xs := by
  rcases h with (h | ⟨o, h⟩) | h
  · exact .inl (.inl (e.imm _ _ h trivial))
  · exact .inl (.inr ⟨o, e.imm _ _ h trivial⟩)
  · exact .inr h
theorem Ext.notin {a : Addr} (e : Ext H r H' r') (h : H a ≠ none) (hn : a ∉ r.l) : a ∉ r'.l := by
  obtain ⟨l, rfl, hl⟩ := e.more
  intro hm
  rcases List.mem_append.mp hm with hm | hm
  · exact hn hm
  · exact h (hl a hm)
theorem ne_of_some {a : Addr} {u : HO} (h : H a = some u) : H a ≠ none := by rw [h]; simp
theorem Ext.fl {a : Addr} {xs : List V} (e : Ext H r H' r') (h : FL K H a xs) : FL K H' a xs := by
  rcases h with ⟨o, h⟩ | h
  · exact .inl ⟨o, e.imm _ _ h trivial⟩
  · exact .inr h
theorem FL.sq {a : Addr} {xs : List V} (h : FL K H a xs) : SqL K H a xs := by
  rcases h with ⟨o, h⟩ | h
  · exact .inl (.inr ⟨o, h⟩)
  · exact .inr h
theorem Ext.prv (e : Ext H r H' r') : r'.p = r.p := by
  obtain ⟨l, rfl, hl⟩ := e.more
  rfl
theorem Ext.at {n : Nat} {a : Addr} (e : Ext H r H' r') (h : r.l[n]? = some a) : r'.l[n]? = some a := by
  obtain ⟨l, rfl, hl⟩ := e.more
  show (r.l ++ l)[n]? = some a
  rw [List.getElem?_append_left (List.getElem?_eq_some_iff.mp h).1]
  exact h

mutual
theorem Rep.mono (e : Ext H r H' r') : ∀ {d : D} {v : V}, Rep K H r d v → Rep K H' r' d v
  | _, _, .non => .non
  | _, _, .bl b => .bl b
  | _, _, .int i => .int i
  | _, _, .str x => .str x
  | _, _, .tup h hs => .tup (e.rdT h) (Reps.mono e hs)
  | _, _, .lst h hn hp hs => .lst (e.keep _ _ h hn) (e.notin (ne_of_some h) hn) (by rw [e.prv]; exact hp) (Reps.mono e hs)
  | _, _, .fro h hs => .fro (e.fl h) (Reps.mono e hs)
  | _, _, .loc h => .loc (e.at h)
theorem Reps.mono (e : Ext H r H' r') : ∀ {ds : List D} {vs : List V}, Reps K H r ds vs → Reps K H' r' ds vs
  | _, _, .nil => .nil
  | _, _, .cons h hs => .cons (Rep.mono e h) (Reps.mono e hs)
end
theorem RepF.mono (e : Ext H r H' r') : ∀ {ds : List (Str × D)} {vs : List (Str × V)}, RepF K H r ds vs → RepF K H' r' ds vs
  | _, _, .nil => .nil
  | _, _, .cons h hs => .cons (h.mono e) (RepF.mono e hs)

theorem Reps.length : ∀ {ds : List D} {vs : List V}, Reps K H r ds vs → ds.length = vs.length
  | _, _, .nil => rfl
  | _, _, .cons _ hs => congrArg (· + 1) (Reps.length hs)
theorem Reps.get : ∀ {ds : List D} {vs : List V} {i : Nat} {d : D}, Reps K H r ds vs → ds[i]? = some d → ∃ v, vs[i]? = some v ∧ Rep K H r d v
  | _, _, _, _, .nil, e => by simp at e
  | _, _, 0, _, .cons h _, e => by simp at e; subst e; exact ⟨_, rfl, h⟩
  | _, _, i + 1, d, .cons _ hs, e => by
    obtain ⟨v, h1, h2⟩ := Reps.get (i := i) (d := d) hs (by simpa using e)
    exact ⟨v, by simpa using h1, h2⟩
theorem Reps.get' : ∀ {ds : List D} {vs : List V} {i : Nat} {v : V}, Reps K H r ds vs → vs[i]? = some v → ∃ d, ds[i]? = some d ∧ Rep K H r d v
  | _, _, _, _, .nil, e => by simp at e
  | _, _, 0, _, .cons h _, e => by simp at e; subst e; exact ⟨_, rfl, h⟩
  | _, _, i + 1, v, .cons _ hs, e => by
    obtain ⟨d, h1, h2⟩ := Reps.get' (i := i) (v := v) hs (by simpa using e)
    exact ⟨d, by simpa using h1, h2⟩
theorem Reps.append : ∀ {ds es : List D} {vs us : List V}, Reps K H r ds vs → Reps K H r es us → Reps K H r (ds ++ es) (vs ++ us)
  | _, _, _, _, .nil, q => q
  | _, _, _, _, .cons h hs, q => .cons h (Reps.append hs q)
theorem Reps.take : ∀ {ds : List D} {vs : List V} (n : Nat), Reps K H r ds vs → Reps K H r (ds.take n) (vs.take n)
  | _, _, 0, _ => .nil
  | _, _, _ + 1, .nil => .nil
  | _, _, n + 1, .cons h hs => .cons h (Reps.take n hs)
theorem Reps.drop : ∀ {ds : List D} {vs : List V} (n : Nat), Reps K H r ds vs → Reps K H r (ds.drop n) (vs.drop n)
  | _, _, 0, h => h
  | _, _, _ + 1, .nil => .nil
  | _, _, n + 1, .cons _ hs => Reps.drop n hs
theorem Reps.set {d : D} {v : V} (q : Rep K H r d v) : ∀ {ds : List D} {vs : List V} (n : Nat), Reps K H r ds vs → Reps K H r (ds.set n d) (vs.set n v)
  | _, _, _, .nil => .nil
  | _, _, 0, .cons _ hs => .cons q hs
  | _, _, n + 1, .cons h hs => .cons h (Reps.set q n hs)
theorem Reps.rep {ds : List D} {vs : List V} (h : Reps K H r ds vs) : ∀ n : Nat, Reps K H r (List.replicate n ds).flatten (List.replicate n vs).flatten
  | 0 => .nil
  | n + 1 => by
    rw [List.replicate_succ, List.replicate_succ, List.flatten_cons, List.flatten_cons]
    exact h.append (Reps.rep h n)
theorem Reps.reverse {ds : List D} {vs : List V} (h : Reps K H r ds vs) : Reps K H r ds.reverse vs.reverse := by
  induction h using Reps.rec (motive_1 := fun _ _ _ => True) with
  | nil => exact .nil
  | cons h hs _ ih => rw [List.reverse_cons, List.reverse_cons]; exact ih.append (.cons h .nil)
  | _ => trivial
theorem Reps.dropLast : ∀ {ds : List D} {vs : List V}, Reps K H r ds vs → Reps K H r ds.dropLast vs.dropLast
  | _, _, .nil => .nil
  | _, _, .cons h .nil => .nil
  | _, _, .cons h (.cons h2 hs) => .cons h (Reps.dropLast (.cons h2 hs))

/-- slots -/
structure Slots (K : PySem.W.Frag) (H : Hp) (r : Rg) (sd : Sl) (s : St) : Prop where
  len : sd.length = s.length
  at_ : ∀ (i : Nat) (d : D), sd[i]? = some (some d) → ∃ v, s[i]? = some (some v) ∧ Rep K H r d v
theorem Slots.mono {sd : Sl} {s : St} (e : Ext H r H' r') (h : Slots K H r sd s) : Slots K H' r' sd s :=
  ⟨h.len, fun i d q => let ⟨v, h1, h2⟩ := h.at_ i d q; ⟨v, h1, h2.mono e⟩⟩
theorem Slots.set {sd : Sl} {s : St} {i : Nat} {d : D} {v : V} (h : Slots K H r sd s) (q : Rep K H r d v) : Slots K H r (sd.set i (some d)) (s.set i (some v)) := by
  refine ⟨by rw [List.length_set, List.length_set, h.len], fun j e he => ?_⟩
  by_cases hj : i = j
  · subst hj
    by_cases hl : i < sd.length
    · rw [List.getElem?_set_self hl] at he
      cases he
      exact ⟨v, by rw [List.getElem?_set_self (by rw [← h.len]; exact hl)], q⟩
    · rw [List.getElem?_eq_none (by simpa using hl)] at he
      cases he
  · rw [List.getElem?_set_ne hj] at he
    obtain ⟨u, h1, h2⟩ := h.at_ j e he
    exact ⟨u, by rw [List.getElem?_set_ne hj]; exact h1, h2⟩
theorem Slots.weak {sd sd' : Sl} {s s' : St} (h : Slots K H r sd s) (hl : sd'.length = s'.length) (w : ∀ (i : Nat) (d : D), sd'[i]? = some (some d) → sd[i]? = some (some d)) (w' : ∀ (i : Nat) (d : D), sd'[i]? = some (some d) → s'[i]? = s[i]?) : Slots K H r sd' s' :=
  ⟨hl, fun i d q => let ⟨v, h1, h2⟩ := h.at_ i d (w i d q); ⟨v, by rw [w' i d q]; exact h1, h2⟩⟩

/-! ### changes of the heap -/
theorem Ext.new {p : Addr} {o : HO} (hp : H p = none) : Ext H r (upd H p o) r := by
  have k : ∀ b u, H b = some u → upd H p o b = some u := fun b u h => by rw [upd_ne (ne_of_none h hp)]; exact h
  refine ⟨⟨[], by simp, by simp⟩, fun b u h _ => k b u h, fun b u h _ => k b u h, fun b h => ?_⟩
  cases e : H b with
  | none => exact absurd e h
  | some u => rw [k b u e]; simp
theorem Ext.newLoc {p : Addr} {o : HO} (hp : H p = none) : Ext H r (upd H p o) (r.add p) := by
  have k : ∀ b u, H b = some u → upd H p o b = some u := fun b u h => by rw [upd_ne (ne_of_none h hp)]; exact h
  refine ⟨⟨[p], rfl, by simpa using hp⟩, fun b u h _ => k b u h, fun b u h _ => k b u h, fun b h => ?_⟩
  cases e : H b with
  | none => exact absurd e h
  | some u => rw [k b u e]; simp
theorem Ext.write {p : Addr} {o u : HO} (hp : H p = some u) (hi : ¬ Imm u) (hm : p ∈ r.l) : Ext H r (upd H p o) r := by
  refine ⟨⟨[], by simp, by simp⟩, fun b x h hn => ?_, fun b x h hx => ?_, fun b h => ?_⟩
  · rw [upd_ne (show b ≠ p from fun e => hn (by rw [e]; exact hm))]; exact h
  · by_cases e : b = p
    · subst e; rw [hp] at h; cases h; exact absurd hx hi
    · rw [upd_ne e]; exact h
  · by_cases e : b = p
    · subst e; rw [upd_same]; simp
    · rw [upd_ne e]; exact h

theorem ORep.mono {o : MO} {a : Addr} (e : Ext H r H' r') (h : ORep K ca H r o a) (k : H' a = H a) : ORep K ca H' r' o a := by
  cases o with
  | lst ds => obtain ⟨vs, h1, h2⟩ := h; exact ⟨vs, by rw [k]; exact h1, h2.mono e⟩
  | ins c fs => obtain ⟨dx, gs, h1, h2⟩ := h; exact ⟨dx, gs, by rw [k]; exact h1, h2.mono e⟩
theorem ORep.some {o : MO} {a : Addr} (h : ORep K ca H r o a) : ∃ u, H a = some u ∧ ¬ Imm u := by
  cases o with
  | lst ds => obtain ⟨vs, h1, h2⟩ := h; exact ⟨_, h1, id⟩
  | ins c fs => obtain ⟨dx, gs, h1, h2⟩ := h; exact ⟨_, h1, id⟩
theorem Sim.tracked {S : Sto} (m : Sim K ca H r S) {a : Addr} (h : a ∈ r.l) : H a ≠ none := by
  obtain ⟨i, hi, e⟩ := List.getElem_of_mem h
  have hs : i < S.length := by rw [← m.len]; exact hi
  obtain ⟨b, h1, h2⟩ := m.obj i S[i] (List.getElem?_eq_getElem hs)
  rw [List.getElem?_eq_getElem hi, e] at h1
  cases h1
  obtain ⟨u, hu, _⟩ := h2.some
  rw [hu]; simp
/-- a new object that is no store's -/
theorem Sim.new {S : Sto} {p : Addr} {o : HO} (m : Sim K ca H r S) (hp : H p = none) : Sim K ca (upd H p o) r S :=
  ⟨m.len, m.nd, fun n u h => let ⟨a, h1, h2⟩ := m.obj n u h; ⟨a, h1, h2.mono (Ext.new hp) (upd_ne fun e => m.tracked (e ▸ List.mem_of_getElem? h1) hp)⟩, fun a ha => (Ext.new (r := r) hp).there a (m.prv a ha)⟩
theorem Sim.newLoc {S : Sto} {p : Addr} {o : HO} {q : MO} (m : Sim K ca H r S) (hp : H p = none) (hq : ORep K ca (upd H p o) (r.add p) q p) : Sim K ca (upd H p o) (r.add p) (S ++ [q]) := by
  have hn : p ∉ r.l := fun h => m.tracked h hp
  refine ⟨by simp [Rg.add, m.len], List.nodup_append.mpr ⟨m.nd, by simp, fun a ha b hb => by simp at hb; subst hb; exact fun e => hn (e ▸ ha)⟩, fun n u h => ?_, fun a ha => (Ext.new (r := r) hp).there a (m.prv a ha)⟩
  by_cases hl : n < S.length
  · rw [List.getElem?_append_left hl] at h
    obtain ⟨a, h1, h2⟩ := m.obj n u h
    exact ⟨a, (Ext.newLoc (o := o) hp).at h1, h2.mono (Ext.newLoc hp) (upd_ne fun e => hn (e ▸ List.mem_of_getElem? h1))⟩
  · rw [List.getElem?_append_right (by omega)] at h
    have hz : n - S.length = 0 := by
      have := (List.getElem?_eq_some_iff.mp h).1
      simp at this; omega
    rw [hz] at h
    simp at h
    subst h
    refine ⟨p, ?_, hq⟩
    show (r.l ++ [p])[n]? = some p
    rw [List.getElem?_append_right (by rw [m.len]; omega), m.len, hz]; rfl
/-- the object n is changed -/
theorem Sim.write {S : Sto} {p : Addr} {o : HO} {q : MO} {n : Nat} (m : Sim K ca H r S) (hn : r.l[n]? = some p) (hq : ORep K ca (upd H p o) r q p) : Sim K ca (upd H p o) r (S.set n q) := by
  have hl : n < r.l.length := (List.getElem?_eq_some_iff.mp hn).1
  have hls : n < S.length := by rw [← m.len]; exact hl
  obtain ⟨a0, h0, ho⟩ := m.obj n S[n] (List.getElem?_eq_getElem hls)
  rw [hn] at h0; cases h0
  obtain ⟨u0, hu0, hi0⟩ := ho.some
  have ex : Ext H r (upd H p o) r := Ext.write hu0 hi0 (List.mem_of_getElem? hn)
  refine ⟨by simp [m.len], m.nd, fun j u h => ?_, fun a ha => ex.there a (m.prv a ha)⟩
  by_cases hj : n = j
  · subst hj
    rw [List.getElem?_set_self hls] at h
    cases h
    exact ⟨p, hn, hq⟩
  · rw [List.getElem?_set_ne hj] at h
    obtain ⟨a, h1, h2⟩ := m.obj j u h
    refine ⟨a, h1, h2.mono ex (upd_ne fun e => hj ?_)⟩
    subst e
    obtain ⟨l1, e1⟩ := List.getElem?_eq_some_iff.mp hn
    obtain ⟨l2, e2⟩ := List.getElem?_eq_some_iff.mp h1
    exact (List.getElem_inj m.nd).mp (e1.trans e2.symm)
theorem Sim.writeExt {S : Sto} {p : Addr} {o : HO} {n : Nat} (m : Sim K ca H r S) (hn : r.l[n]? = some p) : Ext H r (upd H p o) r := by
  have hl : n < r.l.length := (List.getElem?_eq_some_iff.mp hn).1
  have hls : n < S.length := by rw [← m.len]; exact hl
  obtain ⟨a0, h0, ho⟩ := m.obj n S[n] (List.getElem?_eq_getElem hls)
  rw [hn] at h0; cases h0
  obtain ⟨u0, hu0, hi0⟩ := ho.some
  exact Ext.write hu0 hi0 (List.mem_of_getElem? hn)
theorem Sim.loc {S : Sto} {n : Nat} {o : MO} {v : V} (m : Sim K ca H r S) (h : Rep K H r (.loc n) v) (e : S[n]? = some o) : ∃ a, v = .ref a ∧ r.l[n]? = some a ∧ ORep K ca H r o a := by
  cases h with
  | loc hr =>
    obtain ⟨b, h1, h2⟩ := m.obj n o e
    rw [hr] at h1; cases h1
    exact ⟨_, rfl, hr, h2⟩
end
end Z

/-! Z layer, part B: landings; the operators on plain data and what HandS's rules ask for them. -/
namespace Z
open PySem PySem.Spec PyProof.Rows L2

def XRep (K : PySem.W.Frag) (ca : Nat → Addr) (H : Hp) (r : Rg) (c : Nat) (fs : XF) (cls : Value) (d : Option Addr) : Prop :=
  cls = .ref (ca c) ∧ match fs with
    | none => d = none
    | some gs => ∃ dd vs, d = some dd ∧ H dd = some (.xd vs) ∧ RepF K H r gs vs

abbrev RR (T A : Type) := Hp → Rg → T → A → Prop

section
variable (K : PySem.W.Frag) (ca : Nat → Addr)
def Ln {T A : Type} (R : RR T A) (H : Hp) (r : Rg) (o : Out T) (Q : A → Hp → Prop) (W : XK) : Prop := match o with
  | .ok d S => ∀ v H' r', Ext H r H' r' → Sim K ca H' r' S → R H' r' d v → Q v H'
  | .exc c fs S => ∀ cls d H' r', Ext H r H' r' → Sim K ca H' r' S → XRep K ca H' r' c fs cls d → W cls d H'
  | .bad => False
abbrev rV : RR D V := fun H r => Rep K H r
abbrev rB : RR Bool Bool := fun _ _ a b => a = b
abbrev rL : RR (List D) (List V) := fun H r => Reps K H r

def rE (W : WX) (m : Sl → Sto → Out D) : TE := fun s H Q => ∃ sd r S, Slots K H r sd s ∧ Sim K ca H r S ∧ Ln K ca (rV K) H r (m sd S) Q (fun c d H' => W c d s H')
def rT (W : WX) (m : Sl → Sto → Out Bool) : TT := fun s H Q => ∃ sd r S, Slots K H r sd s ∧ Sim K ca H r S ∧ Ln K ca rB H r (m sd S) Q (fun c d H' => W c d s H')
def rA (W : WX) (m : Sl → Sto → Out (List D)) : TA := fun s H Q => ∃ sd r S, Slots K H r sd s ∧ Sim K ca H r S ∧ Ln K ca (rL K) H r (m sd S) Q (fun c d H' => W c d s H')
end

section
variable {K : PySem.W.Frag} {ca : Nat → Addr} {H H1 : Hp} {r r1 : Rg}
theorem Ln.ext {T A : Type} {R : RR T A} {o : Out T} {Q : A → Hp → Prop} {W : XK} (e : Ext H r H1 r1) (h : Ln K ca R H r o Q W) : Ln K ca R H1 r1 o Q W := by
  cases o with
  | ok d S => exact fun v H' r' x => h v H' r' (e.trans x)
  | exc c fs S => exact fun cls d H' r' x => h cls d H' r' (e.trans x)
  | bad => exact h
theorem Ln.bind {T U A B : Type} {R : RR T A} {R' : RR U B} {o : Out T} {f : T → Sto → Out U} {Q : B → Hp → Prop} {Q1 : A → Hp → Prop} {W : XK} (h : Ln K ca R' H r (o.bind f) Q W)
    (k : ∀ d S v H1 r1, Ext H r H1 r1 → Sim K ca H1 r1 S → R H1 r1 d v → Ln K ca R' H1 r1 (f d S) Q W → Q1 v H1) : Ln K ca R H r o Q1 W := by
  cases o with
  | ok d S => exact fun v H' r' x m q => k d S v H' r' x m q (Ln.ext x h)
  | exc c fs S => exact h
  | bad => exact h
theorem Ln.ok {T A : Type} {R : RR T A} {d : T} {S : Sto} {v : A} {Q : A → Hp → Prop} {W : XK} (h : Ln K ca R H r (.ok d S) Q W) (m : Sim K ca H r S) (q : R H r d v) : Q v H := h v H r (Ext.refl H r) m q
end

def lift {T : Type} (o : Option T) (S : Sto) : Out T := match o with
  | some d => .ok d S
  | none => .bad
theorem lift_ln {K : PySem.W.Frag} {ca : Nat → Addr} {H : Hp} {r : Rg} {T A : Type} {R : RR T A} {o : Option T} {S : Sto} {Q : A → Hp → Prop} {W : XK} (h : Ln K ca R H r (lift o S) Q W) :
    ∃ d, o = some d ∧ ∀ v H' r', Ext H r H' r' → Sim K ca H' r' S → R H' r' d v → Q v H' := by
  cases o with
  | none => exact h.elim
  | some d => exact ⟨d, rfl, h⟩

/-! ### what a datum is -/
def asL (S : Sto) : D → Option (List D)
  | .lst xs => some xs
  | .loc n => match S[n]? with
    | some (.lst xs) => some xs
    | _ => none
  | _ => none
def asQ (S : Sto) : D → Option (List D)
  | .tup xs => some xs
  | .fro xs => some xs
  | d => asL S d
def asLF (S : Sto) : D → Option (List D)
  | .fro xs => some xs
  | d => asL S d

section
variable {K : PySem.W.Frag} {ca : Nat → Addr} {H : Hp} {r : Rg} {S : Sto}
theorem asL_rep {x : D} {v : V} {ds : List D} (m : Sim K ca H r S) (hx : Rep K H r x v) (e : asL S x = some ds) : ∃ a vs, v = .ref a ∧ H a = some (.lst vs) ∧ Reps K H r ds vs := by
  cases hx with
  | lst h hn hp hs => cases e; exact ⟨_, _, rfl, h, hs⟩
  | @loc n a h =>
    simp only [asL] at e
    split at e
    · rename_i xs he
      cases e
      obtain ⟨b, h1, h2⟩ := m.obj n _ he
      rw [h] at h1; cases h1
      obtain ⟨vs, h3, h4⟩ := h2
      exact ⟨_, vs, rfl, h3, h4⟩
    · cases e
  | _ => simp [asL] at e
theorem asLF_rep {x : D} {v : V} {ds : List D} (m : Sim K ca H r S) (hx : Rep K H r x v) (e : asLF S x = some ds) : ∃ a vs, v = .ref a ∧ SqL K H a vs ∧ Reps K H r ds vs := by
  cases hx with
  | fro h hs => cases e; exact ⟨_, _, rfl, h.sq, hs⟩
  | lst h hn hp hs => cases e; exact ⟨_, _, rfl, .of h, hs⟩
  | loc h =>
    obtain ⟨a, vs, h1, h2, h3⟩ := asL_rep m (.loc h) (show asL S _ = some ds from e)
    exact ⟨a, vs, h1, .of h2, h3⟩
  | _ => simp [asLF, asL] at e
theorem asQ_rep {x : D} {v : V} {ds : List D} (m : Sim K ca H r S) (hx : Rep K H r x v) (e : asQ S x = some ds) : ∃ a vs, v = .ref a ∧ (SqL K H a vs ∨ SqT K H a vs) ∧ Reps K H r ds vs := by
  cases hx with
  | tup h hs => cases e; exact ⟨_, _, rfl, .inr h, hs⟩
  | fro h hs => cases e; exact ⟨_, _, rfl, .inl h.sq, hs⟩
  | lst h hn hp hs => cases e; exact ⟨_, _, rfl, .inl (.of h), hs⟩
  | loc h =>
    obtain ⟨a, vs, h1, h2, h3⟩ := asL_rep m (.loc h) (show asL S _ = some ds from e)
    exact ⟨a, vs, h1, .inl (.of h2), h3⟩
  | _ => simp [asQ, asL] at e
theorem newTup {p : Addr} {ds : List D} {vs : List V} (hp : H p = none) (hs : Reps K H r ds vs) : Rep K (upd H p (.tup vs)) r (.tup ds) (.ref p) := .tup (.of upd_same) (hs.mono (Ext.new hp))
theorem newLst {p : Addr} {ds : List D} {vs : List V} (m : Sim K ca H r S) (hp : H p = none) (hs : Reps K H r ds vs) : Rep K (upd H p (.lst vs)) r (.lst ds) (.ref p) :=
  .lst upd_same (fun h => m.tracked h hp) (fun h => m.prv _ h hp) (hs.mono (Ext.new hp))
theorem Reps.nil_iff {ds : List D} {vs : List V} (h : Reps K H r ds vs) : vs = [] ↔ ds = [] := by cases h <;> simp
theorem Reps.nil_of {vs : List V} (h : Reps K H r [] vs) : vs = [] := by cases h; rfl
end

/-- a rule by values, of two data -/
def OpZ (K : PySem.W.Frag) (ca : Nat → Addr) (R : R2) (f : Sto → D → D → Option D) : Prop :=
  ∀ {H : Hp} {r : Rg} {S : Sto} {x y : D} {vx vy : V} {d : D} {Q : VK}, Sim K ca H r S → Rep K H r x vx → Rep K H r y vy → f S x y = some d →
    (∀ v H', Ext H r H' r → Sim K ca H' r S → Rep K H' r d v → Q v H') → R vx vy H Q
/-- .. of a list of arguments -/
def CallZ (K : PySem.W.Frag) (ca : Nat → Addr) (R : List V → Hp → VK → Prop) (f : Sto → List D → Option D) : Prop :=
  ∀ {H : Hp} {r : Rg} {S : Sto} {xs : List D} {vs : List V} {d : D} {Q : VK}, Sim K ca H r S → Reps K H r xs vs → f S xs = some d →
    (∀ v H', Ext H r H' r → Sim K ca H' r S → Rep K H' r d v → Q v H') → R vs H Q

def rOr (a b : R2) : R2 := fun x y H Q => a x y H Q ∨ b x y H Q

/-! ### + -/
def addP (S : Sto) (x y : D) : Option D := match x, y with
  | .int i, .int j => some (.int (i + j))
  | .str a, .str b => if a.length + b.length ≤ 16777216 then some (.str (a ++ b)) else none
  | .tup xs, .tup ys => if xs.length + ys.length ≤ 16777216 then some (.tup (xs ++ ys)) else none
  | x, y => match asL S x, asL S y with
    | some xs, some ys => if xs.length + ys.length ≤ 16777216 then some (.lst (xs ++ ys)) else none
    | _, _ => none
def rStrCat : R2 := fun x y H Q => ∃ i j, x = .str i ∧ y = .str j ∧ i.length + j.length ≤ sizeLine ∧ Q (.str (i ++ j)) H
def rAddI : R2 := rI0 fun i j => .int (i + j)
def rAdd (K : PySem.W.Frag) : R2 := rOr rAddI (rOr rStrCat (rOr (rCatA K) rCat))
theorem or_add {X : Cx} : OpR X (binaryOp .Add) (rAdd X.K) := op_add.or (op_add_str.or (op_catA.or op_cat))
section
variable {K : PySem.W.Frag} {ca : Nat → Addr}
theorem oz_add : OpZ K ca (rAdd K) addP := by
  intro H r S x y vx vy d Q m hx hy e q
  unfold addP at e
  split at e
  · cases hx; cases hy; cases e
    exact .inl ⟨_, _, rfl, rfl, q _ _ (Ext.refl ..) m (.int _)⟩
  · cases hx; cases hy
    split at e
    · cases e
      exact .inr (.inl ⟨_, _, rfl, rfl, by rw [sizeLine_eq]; assumption, q _ _ (Ext.refl ..) m (.str _)⟩)
    · cases e
  · cases hx with
    | tup h1 s1 =>
      cases hy with
      | tup h2 s2 =>
        split at e
        · rename_i hl
          cases e
          refine .inr (.inr (.inl ⟨_, _, _, _, rfl, rfl, h1, h2, by rw [sizeLine_eq, ← s1.length, ← s2.length]; exact hl, fun z => ?_, fun z z2 => ?_, fun z z2 p hp => ?_⟩))
          · have := s1.nil_iff.mp z; subst this
            exact q _ _ (Ext.refl ..) m (.tup h2 s2)
          · have := s2.nil_iff.mp z2; subst this
            rw [List.append_nil] at q
            exact q _ _ (Ext.refl ..) m (.tup h1 s1)
          · exact q _ _ (Ext.new hp) (m.new hp) (newTup hp (s1.append s2))
        · cases e
  · split at e
    · rename_i xs ys e1 e2
      split at e
      · rename_i hl
        cases e
        obtain ⟨a, vs, rfl, h1, s1⟩ := asL_rep m hx e1
        obtain ⟨b, us, rfl, h2, s2⟩ := asL_rep m hy e2
        exact .inr (.inr (.inr ⟨_, _, _, _, rfl, rfl, h1, h2, by rw [sizeLine_eq, ← s1.length, ← s2.length]; exact hl, fun p hp => q _ _ (Ext.new hp) (m.new hp) (newLst m hp (s1.append s2))⟩))
      · cases e
    · cases e

/-! ### -, //, %, ** of ints -/
def intP (f : Int → Int → Option Int) (_ : Sto) (x y : D) : Option D := match x, y with
  | .int i, .int j => (f i j).map .int
  | _, _ => none
theorem oz_int {C : Int → Int → Prop} {g : Int → Int → Int} {f : Int → Int → Option Int} (h : ∀ i j k, f i j = some k → C i j ∧ g i j = k) : OpZ K ca (rI C fun i j => .int (g i j)) (intP f) := by
  intro H r S x y vx vy d Q m hx hy e q
  unfold intP at e
  split at e
  · rename_i i j
    cases hx; cases hy
    cases e2 : f i j with
    | none => rw [e2] at e; cases e
    | some k =>
      rw [e2] at e
      cases e
      obtain ⟨hc, rfl⟩ := h i j k e2
      exact ⟨_, _, rfl, rfl, hc, q _ _ (Ext.refl ..) m (.int _)⟩
  · cases e
def subI (i j : Int) : Option Int := some (i - j)
def rSubI : R2 := rI (fun _ _ => True) fun i j => .int (i - j)
theorem or_sub {X : Cx} : OpR X (binaryOp .Sub) rSubI := fun pins s σ H x y v u Q I rx ry ⟨i, j, e1, e2, _, q⟩ => op_sub pins s σ H x y v u Q I rx ry ⟨i, j, e1, e2, q⟩
theorem oz_sub : OpZ K ca rSubI (intP subI) := oz_int fun i j k e => ⟨trivial, Option.some.inj e⟩
def fdivI (i j : Int) : Option Int := if 0 < j ∧ j < 1073741824 then some (i / j) else none
theorem oz_fdiv : OpZ K ca (rI CDiv fun i j => .int (i / j)) (intP fdivI) := oz_int fun i j k e => by
  unfold fdivI at e; split at e
  · rename_i h; exact ⟨h, Option.some.inj e⟩
  · cases e
def modI (i j : Int) : Option Int := if 0 < j then some (i % j) else none
theorem oz_mod : OpZ K ca (rI (fun _ j => 0 < j) fun i j => .int (i % j)) (intP modI) := oz_int fun i j k e => by
  unfold modI at e; split at e
  · rename_i h; exact ⟨h, Option.some.inj e⟩
  · cases e
def powI (i j : Int) : Option Int := if 0 ≤ j ∧ j ≤ 1000000 ∧ i.natAbs < 18446744073709551616 then some (i ^ j.toNat) else none
theorem oz_pow : OpZ K ca (rI CPow fun i j => .int (i ^ j.toNat)) (intP powI) := oz_int fun i j k e => by
  unfold powI at e; split at e
  · rename_i h; exact ⟨⟨h.1, h.2.1, by have := h.2.2; simpa using this⟩, Option.some.inj e⟩
  · cases e
end
end Z

/-! Z layer: tuple * n where n is below 2, or the tuple is empty. -/
namespace Z
open PySem PySem.Spec PyProof.Rows L2
theorem tup_rep_same (l : Addr) (items : Array Value) (n : Nat) (dd : Option Addr) (sl : Array (Option Value)) (x : Int) (u : Tok) (c0 : (decide (x < -(2 ^ 63)) || decide (x ≥ 2 ^ 63)) = false) (c1 : (items.isEmpty || x == 1) = true) :
    Meets (Builtin.«tuple.__mul__» ⟨[.ref l, .int x u], []⟩) (fun _ R s => s.heap.get? l = some { cls := .type "tuple", dict := dd, data := .seq items n, slots := sl } ∧ R (.ok (.ret (Value.ref l))) s) :=
  .of_wp fun prog w A R s h => by
    obtain ⟨hp, g, d, tk, os⟩ := s
    obtain ⟨hl, h⟩ := h
    have f1 := AutoSeq1.idx_int
    wp_walk using wpAny_loadPart' hl
    repeat (first
      | (refine wpAny_ite_false (decide_eq_false (by rw [c0]; exact Bool.false_ne_true)) ?_; wp_walk using wpAny_loadPart' hl)
      | (refine wpAny_ite_true (decide_eq_true c1) ?_; wp_walk using wpAny_loadPart' hl))
    exact ⟨_, rfl, h⟩
theorem tup_rep_none (l : Addr) (items : Array Value) (n : Nat) (dd : Option Addr) (sl : Array (Option Value)) (x : Int) (u : Tok) (c0 : (decide (x < -(2 ^ 63)) || decide (x ≥ 2 ^ 63)) = false) (c1 : (items.isEmpty || x == 1) = false) (c2 : (decide (x ≤ 0) || items.isEmpty) = true) :
    Meets (Builtin.«tuple.__mul__» ⟨[.ref l, .int x u], []⟩) (fun _ R s => s.heap.get? l = some { cls := .type "tuple", dict := dd, data := .seq items n, slots := sl } ∧
      R (.ok (.ret (Value.ref s.heap.objs.size))) { s with heap := s.heap.push { cls := Value.type "tuple", data := Data.seq #[] }, toks := s.toks }) :=
  .of_wp fun prog w A R s h => by
    obtain ⟨hp, g, d, tk, os⟩ := s
    obtain ⟨hl, h⟩ := h
    have f1 := AutoSeq1.idx_int
    wp_walk using wpAny_loadPart' hl
    repeat (first
      | (refine wpAny_ite_false (decide_eq_false (by rw [c0]; exact Bool.false_ne_true)) ?_; wp_walk using wpAny_loadPart' hl)
      | (refine wpAny_ite_false (decide_eq_false (by rw [c1]; exact Bool.false_ne_true)) ?_; wp_walk using wpAny_loadPart' hl)
      | (refine wpAny_ite_true (decide_eq_true c2) ?_; wp_walk using wpAny_loadPart' hl))
    exact ⟨_, rfl, h⟩
def rRepS (K : PySem.W.Frag) : R2 := fun x y H Q => ∃ l k xs, x = .ref l ∧ y = .int k ∧ SqT K H l xs ∧ -(2 ^ 63) ≤ k ∧ k < 2 ^ 63 ∧
  (((xs = [] ∨ k = 1) ∧ Q (.ref l) H) ∨ (xs ≠ [] ∧ k ≤ 0 ∧ ∀ p, H p = none → Q (.ref p) (upd H p (.tup []))))
section
variable {X : Cx}
theorem op_repS : OpR X (binaryOp .Mult) (rRepS X.K) := by
  intro pins s σ H x y v u Q I rx ry h
  obtain ⟨l, k, xs, rfl, rfl, hT, h1, h2, h⟩ := h
  cases rx
  obtain ⟨t, rfl⟩ := ry
  obtain ⟨its, r, ⟨⟨cls, dd, data, sl⟩, ho, hc, n, hd⟩, hs⟩ := I.tuple hT
  simp only at hc hd
  subst hc hd
  have c0 : (decide (k < -(2 ^ 63)) || decide (k ≥ 2 ^ 63)) = false := by
    rw [decide_eq_false (by omega), decide_eq_false (by omega)] <;> rfl
  have he : its.toArray.isEmpty = xs.isEmpty := by cases r <;> simp
  refine wpAny_binaryOp_repeat_ref (T := "tuple") (U := "int") (by decide) ⟨_, ho, rfl⟩ (fun s' => typeIs_int s' k t) noFill_tuple_mul F.fills_int_mul F.slot_int_rmul repeat_tuple F.slot_int_index.lookup
    (call_meets F.slot_int_rmul (typeIs_int s k t) F.entry_int_rmul (F.args_int_rmul_2 _ _) (int_rmul_tuple k t l its.toArray n dd sl)
      ⟨ho, rfl, ⟨_, ho, rfl⟩, ?_⟩)
  rcases h with ⟨hk, q⟩ | ⟨hne, hk, q⟩
  · have c1 : (its.toArray.isEmpty || k == 1) = true := by
      rw [he]
      rcases hk with rfl | rfl <;> simp
    exact call_meets F.slot_tuple_mul ⟨_, ho, rfl⟩ F.entry_tuple_mul (F.args_tuple_mul_2 _ _) (tup_rep_same l its.toArray n dd sl k t c0 c1) ⟨ho, .ref l, H, I, rfl, q⟩
  · have e1 : xs.isEmpty = false := by cases xs <;> simp at hne ⊢
    have c1 : (its.toArray.isEmpty || k == 1) = false := by
      rw [he, e1, Bool.false_or]
      exact beq_eq_false_iff_ne.mpr (by omega)
    have c2 : (decide (k ≤ 0) || its.toArray.isEmpty) = true := by rw [decide_eq_true hk]; rfl
    exact call_meets F.slot_tuple_mul ⟨_, ho, rfl⟩ F.entry_tuple_mul (F.args_tuple_mul_2 _ _) (tup_rep_none l its.toArray n dd sl k t c0 c1 c2)
      ⟨ho, .ref s.heap.objs.size, _, I.laid (t' := s.toks) (o := .tup []) (fun b ob q => Heap.get?_push_of_some _ q) (Nat.le_refl _) ⟨Nat.zero_le _, _, .nil, IsTup.new _ _⟩, rfl, q _ (I.hok.fresh (Nat.le_refl _))⟩
end
end Z

/-! Z layer, part C: products, comparisons, in, subscripts, slices, truth, isinstance, built-ins. -/
namespace Z
open PySem PySem.Spec PyProof.Rows L2

/-! ### products -/
def mulI (i j : Int) : Option Int := if (-18446744073709551616 < i ∧ i < 18446744073709551616) ∨ (-18446744073709551616 < j ∧ j < 18446744073709551616) then some (i * j) else if i.natAbs.log2 + j.natAbs.log2 < 1000000 then some (i * j) else none
def mulP (S : Sto) (x y : D) : Option D := match x, y with
  | .int i, .int j => (mulI i j).map .int
  | .tup xs, .int k => if k ≤ 1000 ∧ -1000000 ≤ k ∧ xs.length ≤ 1000 then some (.tup (List.replicate k.toNat xs).flatten) else none
  | x, .int k => match asL S x with
    | some xs => if -9223372036854775808 ≤ k ∧ k < 9223372036854775808 ∧ xs.length * k.toNat ≤ 16777216 then some (.lst (List.replicate k.toNat xs).flatten) else none
    | none => none
  | _, _ => none
def rMulI : R2 := rOr (rI CMul fun i j => .int (i * j)) (rI CMulW fun i j => .int (i * j))
def rMulA (K : PySem.W.Frag) : R2 := rOr rMulI (rOr (rRepT K) (rOr (rRepS K) rRep))
theorem or_mul {X : Cx} : OpR X (binaryOp .Mult) (rMulA X.K) := (op_mul.or op_mulW).or (op_repT.or (op_repS.or op_rep))
section
variable {K : PySem.W.Frag} {ca : Nat → Addr}
theorem rep_one {α : Type} (xs : List α) : (List.replicate (1 : Int).toNat xs).flatten = xs := by show [xs].flatten = xs; simp
theorem rep_nil {α : Type} (n : Nat) : (List.replicate n ([] : List α)).flatten = [] := by induction n <;> simp [List.replicate_succ, *]
theorem oz_mulI {H : Hp} {r : Rg} {S : Sto} {i j : Int} {d : D} {Q : VK} (m : Sim K ca H r S) (e : (mulI i j).map D.int = some d) (q : ∀ v H', Ext H r H' r → Sim K ca H' r S → Rep K H' r d v → Q v H') : rMulI (.int i) (.int j) H Q := by
  unfold mulI at e
  split at e
  · rename_i hc; cases e; exact .inl ⟨_, _, rfl, rfl, by unfold CMul; simpa using hc, q _ _ (Ext.refl ..) m (.int _)⟩
  · split at e
    · rename_i hc; cases e; exact .inr ⟨_, _, rfl, rfl, hc, q _ _ (Ext.refl ..) m (.int _)⟩
    · cases e
theorem oz_mul : OpZ K ca (rMulA K) mulP := by
  intro H r S x y vx vy d Q m hx hy e q
  unfold mulP at e
  split at e
  · cases hx; cases hy
    exact .inl (oz_mulI m e q)
  · rename_i xs k
    cases hx with
    | @tup a vs _ h1 s1 =>
    cases hy
    split at e
    · rename_i hc
      cases e
      by_cases h0 : xs = [] ∨ k = 1
      · refine .inr (.inr (.inl ⟨_, _, _, rfl, rfl, h1, by omega, by omega, .inl ⟨?_, ?_⟩⟩))
        · rcases h0 with z | z
          · exact .inl (s1.nil_iff.mpr z)
          · exact .inr z
        · have e0 : (List.replicate k.toNat xs).flatten = xs := by
            rcases h0 with z | z
            · subst z; exact rep_nil _
            · subst z; exact rep_one _
          rw [e0] at q
          exact q _ _ (Ext.refl ..) m (.tup h1 s1)
      · have h0 : xs ≠ [] ∧ k ≠ 1 := ⟨fun z => h0 (.inl z), fun z => h0 (.inr z)⟩
        by_cases hk : k ≤ 0
        · refine .inr (.inr (.inl ⟨_, _, _, rfl, rfl, h1, by omega, by omega, .inr ⟨fun z => h0.1 (s1.nil_iff.mp z), hk, fun p hp => ?_⟩⟩))
          have e0 : (List.replicate k.toNat xs).flatten = [] := by rw [show k.toNat = 0 by omega]; rfl
          rw [e0] at q
          exact q _ _ (Ext.new hp) (m.new hp) (newTup hp .nil)
        · refine .inr (.inl ⟨_, _, _, rfl, rfl, h1, fun z => h0.1 (s1.nil_iff.mp z), by omega, by omega, by rw [← s1.length]; omega, fun p hp => ?_⟩)
          exact q _ _ (Ext.new hp) (m.new hp) (newTup hp (s1.rep _))
    · cases e
  · split at e
    · rename_i xs e1
      obtain ⟨a, vs, rfl, h1, s1⟩ := asL_rep m hx e1
      cases hy
      split at e
      · rename_i hc
        cases e
        exact .inr (.inr (.inr ⟨_, _, _, rfl, rfl, h1, by omega, by omega, by rw [sizeLine_eq, ← s1.length]; omega, fun p hp => q _ _ (Ext.new hp) (m.new hp) (newLst m hp (s1.rep _))⟩))
      · cases e
    · cases e
  · cases e

/-! ### order of ints -/
def cmpI (f : Int → Int → Bool) (_ : Sto) (x y : D) : Option D := match x, y with
  | .int i, .int j => some (.bl (f i j))
  | _, _ => none
theorem oz_cmp {g : Int → Int → Bool} : OpZ K ca (rI0 fun i j => .bl (g i j)) (cmpI g) := by
  intro H r S x y vx vy d Q m hx hy e q
  unfold cmpI at e
  split at e
  · cases hx; cases hy; cases e
    exact ⟨_, _, rfl, rfl, q _ _ (Ext.refl ..) m (.bl _)⟩
  · cases e

/-! ### is None -/
def isNP (neg : Bool) (_ : Sto) (x y : D) : Option D := match y with
  | .non => some (.bl (match x with | .non => !neg | _ => neg))
  | _ => none
theorem oz_isN : OpZ K ca (fun x y H Q => y = .non ∧ Q (.bl (decide (x = .non))) H) (isNP false) := by
  intro H r S x y vx vy d Q m hx hy e q
  unfold isNP at e
  split at e
  · cases hy; cases e
    refine ⟨rfl, q _ _ (Ext.refl ..) m ?_⟩
    cases hx <;> exact .bl _
  · cases e
theorem oz_notN : OpZ K ca (fun x y H Q => y = .non ∧ Q (.bl (!decide (x = .non))) H) (isNP true) := by
  intro H r S x y vx vy d Q m hx hy e q
  unfold isNP at e
  split at e
  · cases hy; cases e
    refine ⟨rfl, q _ _ (Ext.refl ..) m ?_⟩
    cases hx <;> exact .bl _
  · cases e
end

/-! ### data -/
mutual
def toP0 : D → Option PyData
  | .non => some .none
  | .bl b => some (.bool b)
  | .int i => some (.int i)
  | .str x => some (.str x)
  | .tup xs => (toPs0 xs).map .tuple
  | .lst xs => (toPs0 xs).map .list
  | .fro xs => (toPs0 xs).map .list
  | .loc _ => none
def toPs0 : List D → Option (List PyData)
  | [] => some []
  | d :: ds => match toP0 d, toPs0 ds with
    | some p, some ps => some (p :: ps)
    | _, _ => none
end
def toP (S : Sto) (d : D) : Option PyData := match d with
  | .loc n => match S[n]? with
    | some (.lst ds) => (toPs0 ds).map .list
    | _ => none
  | d => toP0 d
section
variable {K : PySem.W.Frag} {ca : Nat → Addr} {H : Hp} {r : Rg} {S : Sto}
mutual
theorem toP0_dp : ∀ {d : D} {v : V} {p : PyData}, Rep K H r d v → toP0 d = some p → Dp K H v p
  | _, _, _, .non, e => by simp only [toP0] at e; cases e; exact .non
  | _, _, _, .bl b, e => by simp only [toP0] at e; cases e; exact .bl b
  | _, _, _, .int i, e => by simp only [toP0] at e; cases e; exact .int i
  | _, _, _, .str x, e => by simp only [toP0] at e; cases e; exact .str x
  | _, _, _, .tup h hs, e => by
    simp only [toP0, Option.map_eq_some_iff] at e
    obtain ⟨ps, e1, rfl⟩ := e
    exact .tup h (toPs0_dp hs e1)
  | _, _, _, .lst h _ _ hs, e => by
    simp only [toP0, Option.map_eq_some_iff] at e
    obtain ⟨ps, e1, rfl⟩ := e
    exact .lst (.of h) (toPs0_dp hs e1)
  | _, _, _, .fro h hs, e => by
    simp only [toP0, Option.map_eq_some_iff] at e
    obtain ⟨ps, e1, rfl⟩ := e
    exact .lst h.sq (toPs0_dp hs e1)
  | _, _, _, .loc _, e => by simp only [toP0] at e; cases e
theorem toPs0_dp : ∀ {ds : List D} {vs : List V} {ps : List PyData}, Reps K H r ds vs → toPs0 ds = some ps → DpAll K H vs ps
  | _, _, _, .nil, e => by simp only [toPs0] at e; cases e; exact .nil
  | _, _, _, .cons h hs, e => by
    simp only [toPs0] at e
    split at e
    · rename_i p ps e1 e2
      cases e
      exact .cons (toP0_dp h e1) (toPs0_dp hs e2)
    · cases e
end
theorem toP_dp {d : D} {v : V} {p : PyData} (m : Sim K ca H r S) (h : Rep K H r d v) (e : toP S d = some p) : Dp K H v p := by
  unfold toP at e
  split at e
  · split at e
    · rename_i n ds he
      obtain ⟨a, rfl, _, vs, h1, h2⟩ := m.loc h he
      rw [Option.map_eq_some_iff] at e
      obtain ⟨ps, e1, rfl⟩ := e
      exact .lst (.of h1) (toPs0_dp h2 e1)
    · cases e
  · exact toP0_dp h e
end

/-! ### == and != -/
def eqS : D → D → Option Bool
  | .int i, .int j => some (decide (i = j))
  | .bl i, .bl j => some (decide (i = j))
  | .str i, .str j => some (decide (i = j))
  | .non, .non => some true
  | .non, .int _ => some false
  | .int _, .non => some false
  | .non, .bl _ => some false
  | .bl _, .non => some false
  | .non, .str _ => some false
  | .str _, .non => some false
  | .int _, .str _ => some false
  | .str _, .int _ => some false
  | .bl _, .str _ => some false
  | .str _, .bl _ => some false
  | _, _ => none
/-- a list and an empty one -/
def eqE (S : Sto) (x y : D) : Option Bool := match asLF S x, y with
  | some (_ :: _), .lst [] => some false
  | _, _ => none
def eqP (S : Sto) (x y : D) : Option Bool := match eqS x y with
  | some b => some b
  | none => match eqE S x y with
    | some b => some b
    | none => match toP S x, toP S y with
      | some p, some q => if SeqAt.shaped p = true ∧ SeqAt.shaped q = true then some (PyData.eqv p q) else none
      | _, _ => none
def eqD (S : Sto) (x y : D) : Option D := (eqP S x y).map .bl
def neD (S : Sto) (x y : D) : Option D := (eqP S x y).map fun b => .bl (!b)
def rEmp (K : PySem.W.Frag) (k : Bool) : R2 := fun x y H Q => ∃ a b xs, x = .ref a ∧ y = .ref b ∧ SqL K H a xs ∧ SqL K H b [] ∧ xs ≠ [] ∧ Q (.bl k) H
theorem op_eqEmp {X : Cx} (hu : X.A.units < cLine) : OpR X (compareOp .Eq) (rEmp X.K false) := by
  intro pins s σ H x y v u Q I rx ry h
  obtain ⟨a, b, xs, rfl, rfl, ha, hb, hne, q⟩ := h
  cases rx; cases ry
  obtain ⟨its, r1, p1, _⟩ := I.list ha
  obtain ⟨its2, r2, p2, _⟩ := I.list hb
  cases r2
  refine SeqAt.eq_list_lengthsAt p1.isList p2.isList ?_ hu ⟨.bl false, H, I, rfl, q⟩
  cases r1 with
  | nil => exact absurd rfl hne
  | cons _ _ => rfl
theorem op_neEmp {X : Cx} (hu : X.A.units < cLine) : OpR X (compareOp .NotEq) (rEmp X.K true) := by
  intro pins s σ H x y v u Q I rx ry h
  obtain ⟨a, b, xs, rfl, rfl, ha, hb, hne, q⟩ := h
  cases rx; cases ry
  obtain ⟨its, r1, p1, _⟩ := I.list ha
  obtain ⟨its2, r2, p2, _⟩ := I.list hb
  cases r2
  have hsz : (its.toArray.size != ([] : List Value).toArray.size) = true := by
    cases r1 with
    | nil => exact absurd rfl hne
    | cons _ _ => rfl
  obtain ⟨⟨cls, dd, data, sl⟩, ho, hc, n, hd⟩ := p1.isList
  obtain ⟨⟨cls2, dd2, data2, sl2⟩, ho2, hc2, n2, hd2⟩ := p2.isList
  simp only at hc hd hc2 hd2
  subst hc hd hc2 hd2
  exact richCompare_meets_room (op := .NotEq) ⟨_, ho, rfl⟩ ⟨_, ho2, rfl⟩ F.slot_list_ne F.entry_list_ne (F.args_list_ne_2 _ _) (SeqAt.list_ne_lengthsAt a b _ _ n n2 dd dd2 sl sl2 hsz)
    ⟨ho, ho2, (fun x => nomatch x), .bl true, H, I, rfl, q⟩ hu
def rEqA (K : PySem.W.Frag) : R2 := rOr rEq (rOr (rEmp K false) (rEqD K))
def rNeA (K : PySem.W.Frag) : R2 := rOr rNe (rOr (rEmp K true) (rNeD K))
theorem or_eq {X : Cx} (hu : X.A.units + 64 < cLine) : OpR X (compareOp .Eq) (rEqA X.K) := op_eq.or ((op_eqEmp (by omega)).or (op_eqD hu))
theorem or_ne {X : Cx} (hu : X.A.units + 64 < cLine) : OpR X (compareOp .NotEq) (rNeA X.K) := op_ne.or ((op_neEmp (by omega)).or (op_neD hu))
section
variable {K : PySem.W.Frag} {ca : Nat → Addr} {H : Hp} {r : Rg} {S : Sto}
theorem eqS_scal {x y : D} {vx vy : V} {b : Bool} (hx : Rep K H r x vx) (hy : Rep K H r y vy) (e : eqS x y = some b) : scal vx vy = true ∧ decide (vx = vy) = b := by
  unfold eqS at e
  split at e <;> first | (cases e; done) | (cases hx; cases hy; cases e; refine ⟨rfl, ?_⟩; simp)
theorem eqE_rep {x y : D} {vx vy : V} {b : Bool} (m : Sim K ca H r S) (hx : Rep K H r x vx) (hy : Rep K H r y vy) (e : eqE S x y = some b) : b = false ∧ ∃ a c xs, vx = .ref a ∧ vy = .ref c ∧ SqL K H a xs ∧ SqL K H c [] ∧ xs ≠ [] := by
  unfold eqE at e
  split at e
  · rename_i z zs e1
    cases e
    obtain ⟨a, vs, rfl, h1, s1⟩ := asLF_rep m hx e1
    cases hy with
    | lst h2 _ _ s2 =>
      have := s2.nil_of; subst this
      exact ⟨rfl, _, _, _, rfl, rfl, h1, .of h2, fun z => by have := s1.nil_iff.mp z; cases this⟩
  · cases e
theorem oz_eq : OpZ K ca (rEqA K) eqD := by
  intro H r S x y vx vy d Q m hx hy e q
  unfold eqD at e
  rw [Option.map_eq_some_iff] at e
  obtain ⟨b, e, rfl⟩ := e
  have q' := q _ _ (Ext.refl ..) m (.bl b)
  unfold eqP at e
  split at e
  · rename_i b' e1
    cases e
    obtain ⟨h1, h2⟩ := eqS_scal hx hy e1
    exact .inl ⟨h1, by rw [h2]; exact q'⟩
  · split at e
    · rename_i b' e1
      cases e
      obtain ⟨rfl, a, c, xs, h1, h2, h3, h4, h5⟩ := eqE_rep m hx hy e1
      exact .inr (.inl ⟨a, c, xs, h1, h2, h3, h4, h5, q'⟩)
    · split at e
      · rename_i p p' e1 e2
        split at e
        · rename_i hs
          cases e
          exact .inr (.inr ⟨p, p', toP_dp m hx e1, toP_dp m hy e2, hs.1, hs.2, q'⟩)
        · cases e
      · cases e
theorem oz_ne : OpZ K ca (rNeA K) neD := by
  intro H r S x y vx vy d Q m hx hy e q
  unfold neD at e
  rw [Option.map_eq_some_iff] at e
  obtain ⟨b, e, rfl⟩ := e
  have q' := q _ _ (Ext.refl ..) m (.bl (!b))
  unfold eqP at e
  split at e
  · rename_i b' e1
    cases e
    obtain ⟨h1, h2⟩ := eqS_scal hx hy e1
    exact .inl ⟨h1, by rw [h2]; exact q'⟩
  · split at e
    · rename_i b' e1
      cases e
      obtain ⟨rfl, a, c, xs, h1, h2, h3, h4, h5⟩ := eqE_rep m hx hy e1
      exact .inr (.inl ⟨a, c, xs, h1, h2, h3, h4, h5, q'⟩)
    · split at e
      · rename_i p p' e1 e2
        split at e
        · rename_i hs
          cases e
          exact .inr (.inr ⟨p, p', toP_dp m hx e1, toP_dp m hy e2, hs.1, hs.2, q'⟩)
        · cases e
      · cases e
end
end Z

/-! Z layer, part D: in, subscripts, slices, truth, isinstance, built-in functions. -/
namespace Z
open PySem PySem.Spec PyProof.Rows L2

/-! ### in -/
def flatD : D → Bool
  | .non => true
  | .bl _ => true
  | .int _ => true
  | .str _ => true
  | _ => false
def eqF : D → D → Bool
  | .non, .non => true
  | .bl a, .bl b => a == b
  | .bl a, .int b => (if a then 1 else 0) == b
  | .int a, .bl b => a == (if b then 1 else 0)
  | .int a, .int b => a == b
  | .str a, .str b => a == b
  | _, _ => false
def inP (S : Sto) (x y : D) : Option Bool := match x, y with
  | .str ⟨⟨[c]⟩⟩, .str z => some (decide (c ∈ z.cps.toList))
  | .str i, .str j => some (!(Builtin.Str.occurrences j i 0 j.length 1).isEmpty)
  | x, y => match asQ S y with
    | some ds => if flatD x && ds.all flatD then some (ds.any fun d => eqF d x) else none
    | none => none
def inD (S : Sto) (x y : D) : Option D := (inP S x y).map .bl
def notInD (S : Sto) (x y : D) : Option D := (inP S x y).map fun b => .bl (!b)
def rSign (neg : Bool) : R2 := fun x y H Q => ∃ (c : Nat) (z : Str), x = .str ⟨#[c]⟩ ∧ y = .str z ∧ Q (.bl (if neg then !decide (c ∈ z.cps.toList) else decide (c ∈ z.cps.toList))) H
def rOcc (neg : Bool) : R2 := fun x y H Q => ∃ i j, x = .str i ∧ y = .str j ∧ Q (.bl (if neg then !(!(Builtin.Str.occurrences j i 0 j.length 1).isEmpty) else !(Builtin.Str.occurrences j i 0 j.length 1).isEmpty)) H
def rInA (K : PySem.W.Frag) (neg : Bool) : R2 := rOr (rSign neg) (rOr (rOcc neg) (rIn K neg))
theorem or_in {X : Cx} : OpR X (compareOp .In) (rInA X.K false) := op_in_sign.or (op_in_str.or op_in_seq)
theorem or_notIn {X : Cx} : OpR X (compareOp .NotIn) (rInA X.K true) := op_notIn_sign.or (op_notin_str.or op_notIn_seq)
section
variable {K : PySem.W.Frag} {ca : Nat → Addr} {H : Hp} {r : Rg} {S : Sto}
theorem flat_rep {x : D} {v : V} (h : Rep K H r x v) (f : flatD x = true) : flatV v = true := by
  cases h <;> first | rfl | (simp [flatD] at f)
theorem flats_rep : ∀ {ds : List D} {vs : List V}, Reps K H r ds vs → ds.all flatD = true → vs.all flatV = true
  | _, _, .nil, _ => rfl
  | _, _, .cons h hs, f => by
    rw [List.all_cons, Bool.and_eq_true] at f ⊢
    exact ⟨flat_rep h f.1, flats_rep hs f.2⟩
theorem eqF_rep {x y : D} {v u : V} (h : Rep K H r x v) (h' : Rep K H r y u) (f : flatD x = true) (f' : flatD y = true) : eqV v u = eqF x y := by
  cases h <;> first | (simp [flatD] at f; done) | (cases h' <;> first | rfl | (simp [flatD] at f'; done))
theorem any_rep {x : D} {u : V} (h' : Rep K H r x u) (f' : flatD x = true) : ∀ {ds : List D} {vs : List V}, Reps K H r ds vs → ds.all flatD = true → inV u vs = ds.any fun d => eqF d x
  | _, _, .nil, _ => rfl
  | _, _, .cons h hs, f => by
    rw [List.all_cons, Bool.and_eq_true] at f
    have ih := any_rep h' f' hs f.2
    unfold inV at ih ⊢
    rw [List.any_cons, List.any_cons, ih, eqF_rep h h' f.1 f']
theorem oz_inB {neg b : Bool} {x y : D} {vx vy : V} {Q : VK} (m : Sim K ca H r S) (hx : Rep K H r x vx) (hy : Rep K H r y vy) (e : inP S x y = some b) (q : Q (.bl (if neg then !b else b)) H) : rInA K neg vx vy H Q := by
  unfold inP at e
  split at e
  · rename_i c z; cases hx; cases hy; cases e; exact .inl ⟨c, z, rfl, rfl, q⟩
  · cases hx; cases hy; cases e; exact .inr (.inl ⟨_, _, rfl, rfl, q⟩)
  · split at e
    · rename_i ds e1
      split at e
      · rename_i f
        rw [Bool.and_eq_true] at f
        cases e
        obtain ⟨a, vs, rfl, h1, s1⟩ := asQ_rep m hy e1
        refine .inr (.inr ⟨a, vs, rfl, h1, flat_rep hx f.1, flats_rep s1 f.2, ?_⟩)
        rw [any_rep hx f.1 s1 f.2]
        exact q
      · cases e
    · cases e
theorem oz_in : OpZ K ca (rInA K false) inD := by
  intro H r S x y vx vy d Q m hx hy e q
  unfold inD at e
  rw [Option.map_eq_some_iff] at e
  obtain ⟨b, e, rfl⟩ := e
  exact oz_inB m hx hy e (q _ _ (Ext.refl ..) m (.bl b))
theorem oz_notIn : OpZ K ca (rInA K true) notInD := by
  intro H r S x y vx vy d Q m hx hy e q
  unfold notInD at e
  rw [Option.map_eq_some_iff] at e
  obtain ⟨b, e, rfl⟩ := e
  exact oz_inB m hx hy e (q _ _ (Ext.refl ..) m (.bl (!b)))

/-! ### items -/
theorem Reps.atI {ds : List D} {vs : List V} {i : Int} {d : D} (h : Reps K H r ds vs) (e : L2.atI ds i = some d) : ∃ v, L2.atI vs i = some v ∧ Rep K H r d v := by
  unfold L2.atI at e ⊢
  rw [h.length] at e
  cases q : ixN vs.length i with
  | none => rw [q] at e; cases e
  | some j =>
    rw [q] at e
    exact h.get (show ds[j]? = some d from e)
end
def ixP (S : Sto) (x y : D) : Option D := match x, y with
  | .str z, .int i => if z.length ≤ 16777216 then (L2.atI z.cps.toList i).map fun c => .str ⟨#[c]⟩ else none
  | x, .int i => match asQ S x with
    | some ds => L2.atI ds i
    | none => none
  | _, _ => none
section
variable {K : PySem.W.Frag} {ca : Nat → Addr} {H : Hp} {r : Rg} {S : Sto}
theorem oz_ix : OpZ K ca (rIx K) ixP := by
  intro H r S x y vx vy d Q m hx hy e q
  unfold ixP at e
  split at e
  · rename_i z i
    cases hx; cases hy
    split at e
    · rename_i hl
      rw [Option.map_eq_some_iff] at e
      obtain ⟨c, e, rfl⟩ := e
      exact .inr (.inr ⟨z, i, c, rfl, rfl, by rw [sizeLine_eq]; exact hl, e, q _ _ (Ext.refl ..) m (.str _)⟩)
    · cases e
  · split at e
    · rename_i ds e1
      cases hy
      obtain ⟨a, vs, rfl, h1, s1⟩ := asQ_rep m hx e1
      obtain ⟨v, h2, h3⟩ := s1.atI e
      rcases h1 with h1 | h1
      · exact .inl ⟨a, vs, _, v, rfl, rfl, h1, h2, q _ _ (Ext.refl ..) m h3⟩
      · exact .inr (.inl ⟨a, vs, _, v, rfl, rfl, h1, h2, q _ _ (Ext.refl ..) m h3⟩)
    · cases e
  · cases e
end

/-! ### slices -/
def cutG {α : Type} (xs : List α) (lo hi : Option Int) : List α := (xs.drop (HT.sIx xs.length 0 lo)).take (HT.sIx xs.length xs.length hi - HT.sIx xs.length 0 lo)
def slP (S : Sto) (x : D) (lo hi : Option Int) : Option D := match x with
  | .str z => if z.length ≤ 16777216 then some (.str (cutS z lo hi)) else none
  | .tup xs => some (.tup (cutG xs lo hi))
  | x => (asLF S x).map fun ds => .lst (cutG ds lo hi)
def rSlAll (K : PySem.W.Frag) : V → Option Int → Option Int → Hp → VK → Prop := fun x lo hi H Q => rSlS x lo hi H Q ∨ (rSlA K x lo hi H Q ∨ rSlL K x lo hi H Q)
theorem or_sl {X : Cx} : SlR X (rSlAll X.K) := sl_str.or (sl_tupA.or sl_list)
section
variable {K : PySem.W.Frag} {ca : Nat → Addr} {H : Hp} {r : Rg} {S : Sto}
theorem Reps.cut {ds : List D} {vs : List V} (h : Reps K H r ds vs) (lo hi : Option Int) : Reps K H r (cutG ds lo hi) (cutV vs lo hi) := by
  unfold cutG cutV
  rw [h.length]
  exact (h.drop _).take _
theorem cutG_whole {α : Type} {xs : List α} {lo hi : Option Int} (h : HT.sIx xs.length 0 lo = 0 ∧ HT.sIx xs.length xs.length hi = xs.length) : cutG xs lo hi = xs := by
  unfold cutG
  rw [h.1, h.2]
  simp
theorem oz_sl {x : D} {vx : V} {d : D} {lo hi : Option Int} {Q : VK} (m : Sim K ca H r S) (hx : Rep K H r x vx) (e : slP S x lo hi = some d)
    (q : ∀ v H', Ext H r H' r → Sim K ca H' r S → Rep K H' r d v → Q v H') : rSlAll K vx lo hi H Q := by
  unfold slP at e
  split at e
  · cases hx
    split at e
    · rename_i hl
      cases e
      exact .inl ⟨_, rfl, by rw [sizeLine_eq]; exact hl, q _ _ (Ext.refl ..) m (.str _)⟩
    · cases e
  · cases hx with
    | tup h1 s1 =>
      cases e
      refine .inr (.inl ⟨_, _, rfl, h1, fun hw => ?_, fun _ p hp => q _ _ (Ext.new hp) (m.new hp) (newTup hp (s1.cut lo hi))⟩)
      rw [← s1.length] at hw
      rw [cutG_whole hw] at q
      exact q _ _ (Ext.refl ..) m (.tup h1 s1)
  · rw [Option.map_eq_some_iff] at e
    obtain ⟨ds, e1, rfl⟩ := e
    obtain ⟨a, vs, rfl, h1, s1⟩ := asLF_rep m hx e1
    exact .inr (.inr ⟨a, vs, rfl, h1, fun p hp => q _ _ (Ext.new hp) (m.new hp) (newLst m hp (s1.cut lo hi))⟩)
end

/-! ### truth, len -/
def truP (S : Sto) (x : D) : Option Bool := match x with
  | .non => some false
  | .bl b => some b
  | .int i => some (i != 0)
  | .str y => if y.length ≤ 16777216 then some ((y.length : Int) != 0) else none
  | x => (asQ S x).map fun ds => !ds.isEmpty
def lenP (S : Sto) (x : D) : Option Nat := match x with
  | .str y => if y.length ≤ 16777216 then some y.length else none
  | x => (asQ S x).map List.length
section
variable {K : PySem.W.Frag} {ca : Nat → Addr} {H : Hp} {r : Rg} {S : Sto}
theorem tru_rep {x : D} {v : V} {b : Bool} (m : Sim K ca H r S) (hx : Rep K H r x v) (e : truP S x = some b) : TruV K v H b := by
  unfold truP at e
  split at e
  · cases hx; cases e; rfl
  · cases hx; cases e; rfl
  · cases hx; cases e; rfl
  · cases hx
    split at e
    · rename_i hl; cases e; exact ⟨by rw [sizeLine_eq]; exact hl, rfl⟩
    · cases e
  · rw [Option.map_eq_some_iff] at e
    obtain ⟨ds, e1, rfl⟩ := e
    obtain ⟨a, vs, rfl, h1, s1⟩ := asQ_rep m hx e1
    have he : (!ds.isEmpty) = !vs.isEmpty := by cases s1 <;> rfl
    rcases h1 with h1 | h1
    · exact .inl ⟨vs, h1, he⟩
    · exact .inr (.inl ⟨vs, h1, he⟩)
theorem len_rep {x : D} {v : V} {n : Nat} (m : Sim K ca H r S) (hx : Rep K H r x v) (e : lenP S x = some n) : LenV K v H n := by
  unfold lenP at e
  split at e
  · cases hx
    split at e
    · rename_i hl; cases e; exact ⟨by rw [sizeLine_eq]; exact hl, rfl⟩
    · cases e
  · rw [Option.map_eq_some_iff] at e
    obtain ⟨ds, e1, rfl⟩ := e
    obtain ⟨a, vs, rfl, h1, s1⟩ := asQ_rep m hx e1
    rcases h1 with h1 | h1
    · exact .inl ⟨vs, h1, s1.length⟩
    · exact .inr ⟨vs, h1, s1.length⟩
end

/-! ### isinstance -/
def tyN (S : Sto) (x : D) : Option String := match x with
  | .non => some "NoneType"
  | .bl _ => some "bool"
  | .int _ => some "int"
  | .str _ => some "str"
  | .tup _ => some "tuple"
  | .lst _ => some "list"
  | .fro _ => some "list"
  | .loc n => match S[n]? with
    | some (.lst _) => some "list"
    | _ => none
/-- built-in classes that are asked for -/
inductive Ty where
  | int | bool | str | tuple | list
def Ty.nm : Ty → String
  | .int => "int" | .bool => "bool" | .str => "str" | .tuple => "tuple" | .list => "list"
def isTab (n : String) (t : Ty) : Option Bool :=
  if n = "NoneType" then some false
  else if n = "bool" then some (match t with | .bool => true | .int => true | _ => false)
  else if n = "int" then some (match t with | .int => true | _ => false)
  else if n = "str" then some (match t with | .str => true | _ => false)
  else if n = "tuple" then some (match t with | .tuple => true | _ => false)
  else if n = "list" then some (match t with | .list => true | _ => false)
  else none
def isiD (S : Sto) (x : D) (t : Ty) : Option Bool := match x with
  | .non => some false
  | .bl _ => some (match t with | .bool => true | .int => true | _ => false)
  | .int _ => some (match t with | .int => true | _ => false)
  | .str _ => some (match t with | .str => true | _ => false)
  | .tup _ => some (match t with | .tuple => true | _ => false)
  | .lst _ => some (match t with | .list => true | _ => false)
  | .fro _ => some (match t with | .list => true | _ => false)
  | .loc n => match S[n]? with
    | some (.lst _) => some (match t with | .list => true | _ => false)
    | _ => none
theorem kit_tab : ∀ n ∈ ["NoneType", "bool", "int", "str", "tuple", "list"], ∀ t : Ty, kitB n t.nm = isTab n t := by
  intro n hn t
  simp only [List.mem_cons, List.not_mem_nil, or_false] at hn
  rcases hn with rfl | rfl | rfl | rfl | rfl | rfl <;> cases t <;> decide +kernel
section
variable {K : PySem.W.Frag} {ca : Nat → Addr} {H : Hp} {r : Rg} {S : Sto}
theorem SqT.tyx {a : Addr} {xs : List V} (h : SqT K H a xs) : TyX K H (.ref a) (.type "tuple") := by
  rcases h with (h | ⟨o, h⟩) | ⟨o, its, n, h, c, _⟩
  · exact .base (.tup h)
  · exact .fTuple h
  · exact .kTuple h c
theorem FL.tyx {a : Addr} {xs : List V} (h : FL K H a xs) : TyX K H (.ref a) (.type "list") := by
  rcases h with ⟨o, h⟩ | ⟨o, its, n, h, c, _⟩
  · exact .base (.frz h)
  · exact .kList h c
theorem isi_rep {x : D} {v : V} {t : Ty} {b : Bool} (m : Sim K ca H r S) (hx : Rep K H r x v) (e : isiD S x t = some b) : ∃ n, TyX K H v (.type n) ∧ PySem.W.kitOne K (.type n) (.type t.nm) = some b := by
  cases hx with
  | non => exact ⟨_, .base .non, kit_ty (by rw [kit_tab _ (by simp)]; exact e)⟩
  | bl y => exact ⟨_, .base (.bl y), kit_ty (by rw [kit_tab _ (by simp)]; exact e)⟩
  | int y => exact ⟨_, .base (.int y), kit_ty (by rw [kit_tab _ (by simp)]; exact e)⟩
  | str y => exact ⟨_, .base (.str y), kit_ty (by rw [kit_tab _ (by simp)]; exact e)⟩
  | tup h _ => exact ⟨_, SqT.tyx h, kit_ty (by rw [kit_tab _ (by simp)]; exact e)⟩
  | lst h _ _ _ => exact ⟨_, .base (.lst h), kit_ty (by rw [kit_tab _ (by simp)]; exact e)⟩
  | fro h _ => exact ⟨_, FL.tyx h, kit_ty (by rw [kit_tab _ (by simp)]; exact e)⟩
  | @loc n a h =>
    simp only [isiD] at e
    split at e
    · rename_i xs he
      obtain ⟨b', h1, vs, h2, _⟩ := m.obj n _ he
      rw [h] at h1; cases h1
      exact ⟨_, .base (.lst h2), kit_ty (by rw [kit_tab _ (by simp)]; exact e)⟩
    · cases e
end

/-! ### built-in functions -/
def call1 (f : Sto → D → Option D) (S : Sto) (xs : List D) : Option D := match xs with
  | [x] => f S x
  | _ => none
def lenD (S : Sto) (x : D) : Option D := (lenP S x).map fun (n : Nat) => D.int (n : Int)
def absD (_ : Sto) (x : D) : Option D := match x with
  | .int i => some (.int (if i < 0 then -i else i))
  | _ => none
def intD (_ : Sto) (x : D) : Option D := match x with
  | .int i => some (.int i)
  | .bl k => some (.int (if k then 1 else 0))
  | .str a => match PySem.intText? a with
    | some n => if a.length ≤ 640 then some (.int n) else none
    | none => none
  | _ => none
def strD (_ : Sto) (x : D) : Option D := match x with
  | .int i => if i.natAbs.log2 < 1920 then some (.str (toString i)) else none
  | _ => none
def tupD (S : Sto) (x : D) : Option D := match x with
  | .tup xs => some (.tup xs)
  | x => (asLF S x).map .tup
def lstD (S : Sto) (x : D) : Option D := (asQ S x).map .lst
def max2D (_ : Sto) (xs : List D) : Option D := match xs with
  | [.int i, .int j] => some (.int (if j > i then j else i))
  | _ => none
def min2D (_ : Sto) (xs : List D) : Option D := match xs with
  | [.int i, .int j] => some (.int (if j < i then j else i))
  | _ => none
def rLen1 (K : PySem.W.Frag) : List V → Hp → VK → Prop := fun xs H Q => ∃ (x : V) (n : Nat), xs = [x] ∧ LenV K x H n ∧ Q (.int n) H
def rInt1 : List V → Hp → VK → Prop := fun xs H Q => ((∃ i, xs = [.int i] ∧ Q (.int i) H) ∨ ∃ k, xs = [.bl k] ∧ Q (.int (if k then 1 else 0)) H) ∨ ∃ a n, xs = [.str a] ∧ PySem.intText? a = some n ∧ a.length ≤ 640 ∧ Q (.int n) H
theorem or_int {X : Cx} : CallR X (.type "int") rInt1 := call_int1.or call_int_str
section
variable {K : PySem.W.Frag} {ca : Nat → Addr}
theorem cz_len : CallZ K ca (rLen1 K) (call1 lenD) := by
  intro H r S xs vs d Q m hs e q
  unfold call1 at e
  split at e
  · unfold lenD at e
    rw [Option.map_eq_some_iff] at e
    obtain ⟨n, e, rfl⟩ := e
    cases hs with
    | cons h hs =>
      cases hs
      exact ⟨_, n, rfl, len_rep m h e, q _ _ (Ext.refl ..) m (.int _)⟩
  · cases e
theorem cz_abs : CallZ K ca (fun xs H Q => ∃ i, xs = [.int i] ∧ Q (.int (if i < 0 then -i else i)) H) (call1 absD) := by
  intro H r S xs vs d Q m hs e q
  unfold call1 at e
  split at e
  · unfold absD at e
    split at e
    · cases e
      cases hs with
      | cons h hs =>
        cases hs; cases h
        exact ⟨_, rfl, q _ _ (Ext.refl ..) m (.int _)⟩
    · cases e
  · cases e
theorem cz_int : CallZ K ca rInt1 (call1 intD) := by
  intro H r S xs vs d Q m hs e q
  unfold call1 at e
  split at e
  · cases hs with
    | cons h hs =>
      cases hs
      unfold intD at e
      split at e
      · cases h; cases e; exact .inl (.inl ⟨_, rfl, q _ _ (Ext.refl ..) m (.int _)⟩)
      · cases h; cases e; exact .inl (.inr ⟨_, rfl, q _ _ (Ext.refl ..) m (.int _)⟩)
      · split at e
        · rename_i n hn
          split at e
          · rename_i hl
            cases h; cases e; exact .inr ⟨_, n, rfl, hn, hl, q _ _ (Ext.refl ..) m (.int _)⟩
          · cases e
        · cases e
      · cases e
  · cases e
theorem cz_str : CallZ K ca (fun xs H Q => ∃ i, xs = [.int i] ∧ i.natAbs.log2 < 1920 ∧ Q (.str (toString i)) H) (call1 strD) := by
  intro H r S xs vs d Q m hs e q
  unfold call1 at e
  split at e
  · unfold strD at e
    split at e
    · split at e
      · rename_i hl
        cases e
        cases hs with
        | cons h hs =>
          cases hs; cases h
          exact ⟨_, rfl, hl, q _ _ (Ext.refl ..) m (.str _)⟩
      · cases e
    · cases e
  · cases e
theorem cz_tup : CallZ K ca (fun xs H Q => ∃ p ys, xs = [.ref p] ∧ ((SqL K H p ys ∧ ∀ l, H l = none → Q (.ref l) (upd H l (.tup ys))) ∨ (SqT K H p ys ∧ Q (.ref p) H))) (call1 tupD) := by
  intro H r S xs vs d Q m hs e q
  unfold call1 at e
  split at e
  · cases hs with
    | cons h hs =>
      cases hs
      unfold tupD at e
      split at e
      · cases e
        cases h with
        | tup h1 s1 => exact ⟨_, _, rfl, .inr ⟨h1, q _ _ (Ext.refl ..) m (.tup h1 s1)⟩⟩
      · rw [Option.map_eq_some_iff] at e
        obtain ⟨ds, e1, rfl⟩ := e
        obtain ⟨a, us, rfl, h1, s1⟩ := asLF_rep m h e1
        exact ⟨a, us, rfl, .inl ⟨h1, fun p hp => q _ _ (Ext.new hp) (m.new hp) (newTup hp s1)⟩⟩
  · cases e
theorem cz_lst : CallZ K ca (fun xs H Q => ∃ p ys, xs = [.ref p] ∧ (SqL K H p ys ∨ SqT K H p ys) ∧ ∀ l, H l = none → Q (.ref l) (upd H l (.lst ys))) (call1 lstD) := by
  intro H r S xs vs d Q m hs e q
  unfold call1 at e
  split at e
  · cases hs with
    | cons h hs =>
      cases hs
      unfold lstD at e
      rw [Option.map_eq_some_iff] at e
      obtain ⟨ds, e1, rfl⟩ := e
      obtain ⟨a, us, rfl, h1, s1⟩ := asQ_rep m h e1
      exact ⟨a, us, rfl, h1, fun p hp => q _ _ (Ext.new hp) (m.new hp) (newLst m hp s1)⟩
  · cases e
theorem cz_max2 : CallZ K ca (fun xs H Q => ∃ i j, xs = [.int i, .int j] ∧ Q (.int (if j > i then j else i)) H) max2D := by
  intro H r S xs vs d Q m hs e q
  unfold max2D at e
  split at e
  · cases e
    cases hs with
    | cons h hs =>
      cases hs with
      | cons h2 hs => cases hs; cases h; cases h2; exact ⟨_, _, rfl, q _ _ (Ext.refl ..) m (.int _)⟩
  · cases e
theorem cz_min2 : CallZ K ca (fun xs H Q => ∃ i j, xs = [.int i, .int j] ∧ Q (.int (if j < i then j else i)) H) min2D := by
  intro H r S xs vs d Q m hs e q
  unfold min2D at e
  split at e
  · cases e
    cases hs with
    | cons h hs =>
      cases hs with
      | cons h2 hs => cases hs; cases h; cases h2; exact ⟨_, _, rfl, q _ _ (Ext.refl ..) m (.int _)⟩
  · cases e
end

/-! ### repr -/
def reprD (S : Sto) (x : D) : Option D := match toP S x with
  | some p => if p.showable = true ∧ p.hasDict = false ∧ p.depth ≤ 60 ∧ p.shown.length ≤ 16777216 then some (.str p.shown) else none
  | none => none
def rRepr (K : PySem.W.Frag) : List V → Hp → VK → Prop := fun xs H Q => ∃ x p, xs = [x] ∧ Dp K H x p ∧ p.showable = true ∧ p.hasDict = false ∧ p.depth ≤ 60 ∧ p.shown.length ≤ sizeLine ∧ Q (.str p.shown) H
theorem cr_repr {X : Cx} (hg : X.A.guards = some []) (hu : X.A.units + 64 < cLine) : CallR X (.builtin "repr") (rRepr X.K) := by
  intro pins s σ H xs us Q I rv h
  obtain ⟨x, p, rfl, hd, h1, h2, h3, h4, q⟩ := h
  obtain ⟨u, rfl, ru⟩ := vals1 rv
  cases hd with
  | non => cases ru; exact P.repr_of_none ⟨.str _, H, I.tok _, ⟨_, rfl⟩, by rw [show (PyData.none).shown = ("None" : Str) by simp only [PyData.shown]] at q; exact q⟩
  | bl b => cases ru; exact P.repr_of_bool ⟨.str _, H, I.tok _, ⟨_, rfl⟩, by rw [PyData.shown_bool] at q; exact q⟩
  | int i =>
    obtain ⟨t, rfl⟩ := ru
    have hs : i.natAbs.log2 < 1920 := by simpa [PyData.showable] using h1
    exact P.repr_of_int hs ⟨.str _, H, I.tok _, ⟨_, rfl⟩, by rw [PyData.shown_int] at q; exact q⟩
  | str y =>
    obtain ⟨t, rfl⟩ := ru
    rw [PyData.shown_str] at q h4
    exact P.repr_of_str ⟨.str _, H, I.tok _, ⟨_, rfl⟩, q⟩ h4
  | @lst a vs ds hq ha =>
    cases ru
    obtain ⟨as, rd⟩ := Dp.reads I _ _ (.ref a) (Dp.lst hq ha) rfl
    exact repr_of_reads' rd h1 (fun z => by rw [h2] at z; cases z) hg (by omega) (fun b o e => e) (fun h' t tk hk => ⟨.str _, H, I.kept hk, ⟨_, rfl⟩, q⟩) h4
  | @tup a vs ds hq ha =>
    cases ru
    obtain ⟨as, rd⟩ := Dp.reads I _ _ (.ref a) (Dp.tup hq ha) rfl
    exact repr_of_reads' rd h1 (fun z => by rw [h2] at z; cases z) hg (by omega) (fun b o e => e) (fun h' t tk hk => ⟨.str _, H, I.kept hk, ⟨_, rfl⟩, q⟩) h4
section
variable {K : PySem.W.Frag} {ca : Nat → Addr}
theorem cz_repr : CallZ K ca (rRepr K) (call1 reprD) := by
  intro H r S xs vs d Q m hs e q
  unfold call1 at e
  split at e
  · cases hs with
    | cons h hs =>
      cases hs
      unfold reprD at e
      split at e
      · rename_i p e1
        split at e
        · rename_i hc
          cases e
          exact ⟨_, p, rfl, toP_dp m h e1, hc.1, hc.2.1, hc.2.2.1, by rw [sizeLine_eq]; exact hc.2.2.2, q _ _ (Ext.refl ..) m (.str _)⟩
        · cases e
      · cases e
  · cases e
end
end Z

/-! Z layer, part F: expressions, one lemma a construct, over readings that are made of plain functions. -/
namespace Z
open PySem PySem.Spec PyProof.Rows L2

theorem PE.imp {X : Cx} {e : Expr} {t t' : TE} (h : PE X e t) (i : ∀ s H Q, t' s H Q → t s H Q) : PE X e t' := ⟨fun pins s σ H Q I w => h.run pins s σ H Q I (i σ H Q w)⟩
theorem PT.imp {X : Cx} {e : Expr} {t t' : TT} (h : PT X e t) (i : ∀ s H Q, t' s H Q → t s H Q) : PT X e t' := ⟨fun pins s σ H Q I w => h.run pins s σ H Q I (i σ H Q w)⟩
theorem PW.imp {X : Cx} {e : Expr} {t t' : TT} (h : PW X e t) (i : ∀ s H Q, t' s H Q → t s H Q) : PW X e t' := ⟨fun wh pins s σ H Q I w => h.run wh pins s σ H Q I (i σ H Q w)⟩
theorem PA.imp {X : Cx} {e : List Expr} {t t' : TA} (h : PA X e t) (i : ∀ s H Q, t' s H Q → t s H Q) : PA X e t' := ⟨fun pos pins s σ H Q I w => h.run pos pins s σ H Q I (i σ H Q w)⟩
theorem PO.imp {X : Cx} {e : Option Expr} {t t' : TO} (h : PO X e t) (i : ∀ s H Q, t' s H Q → t s H Q) : PO X e t' := ⟨fun pins s σ H Q I w => h.run pins s σ H Q I (i σ H Q w)⟩

abbrev M (T : Type) := Sl → Sto → Out T
def mVar (i : Nat) : M D := fun sd S => match sd[i]? with
  | some (some d) => .ok d S
  | _ => .bad
def mC (d : D) : M D := fun _ S => .ok d S
def mBin (f : Sto → D → D → Option D) (a b : M D) : M D := fun sd S => (a sd S).bind fun x S1 => (b sd S1).bind fun y S2 => lift (f S2 x y) S2
def toB (x : D) (S : Sto) : Out Bool := match x with
  | .bl k => .ok k S
  | _ => .bad
def mBl (a : M D) : M Bool := fun sd S => (a sd S).bind toB
def mTru (a : M D) : M Bool := fun sd S => (a sd S).bind fun x S1 => lift (truP S1 x) S1
def mNotT (a : M Bool) : M Bool := fun sd S => (a sd S).bind fun k S1 => .ok (!k) S1
def mAndT (a b : M Bool) : M Bool := fun sd S => (a sd S).bind fun k S1 => if k then b sd S1 else .ok false S1
def mOrT (a b : M Bool) : M Bool := fun sd S => (a sd S).bind fun k S1 => if k then .ok true S1 else b sd S1
def mNot (a : M D) : M D := fun sd S => (a sd S).bind fun x S1 => match x with
  | .bl k => .ok (.bl (!k)) S1
  | _ => .bad
def mAnd (a b : M D) : M D := fun sd S => (a sd S).bind fun x S1 => match x with
  | .bl true => b sd S1
  | .bl false => .ok (.bl false) S1
  | _ => .bad
def mOr (a b : M D) : M D := fun sd S => (a sd S).bind fun x S1 => match x with
  | .bl true => .ok (.bl true) S1
  | .bl false => b sd S1
  | _ => .bad
def mIf (t : M Bool) (a b : M D) : M D := fun sd S => (t sd S).bind fun k S1 => if k then a sd S1 else b sd S1
def mChain (f g : Sto → D → D → Option D) (a b c : M D) : M D := fun sd S => (a sd S).bind fun x S1 => (b sd S1).bind fun y S2 => (lift (f S2 x y) S2).bind fun z S3 => match z with
  | .bl true => (c sd S3).bind fun w S4 => lift (g S4 y w) S4
  | .bl false => .ok (.bl false) S3
  | _ => .bad
def mNil : M (List D) := fun _ S => .ok [] S
def mCons (a : M D) (b : M (List D)) : M (List D) := fun sd S => (a sd S).bind fun x S1 => (b sd S1).bind fun xs S2 => .ok (x :: xs) S2
def mTup (a : M (List D)) : M D := fun sd S => (a sd S).bind fun xs S1 => if xs.length ≤ 16777216 then .ok (.tup xs) S1 else .bad
def mLst (a : M (List D)) : M D := fun sd S => (a sd S).bind fun xs S1 => if xs.length ≤ 16777216 then .ok (.lst xs) S1 else .bad
def mLstM (a : M (List D)) : M D := fun sd S => (a sd S).bind fun xs S1 => if xs.length ≤ 16777216 then .ok (.loc S1.length) (S1 ++ [.lst xs]) else .bad
def mCall (f : Sto → List D → Option D) (a : M (List D)) : M D := fun sd S => (a sd S).bind fun xs S1 => lift (f S1 xs) S1
def mIsi (a : M D) (t : Ty) : M D := fun sd S => (a sd S).bind fun x S1 => lift ((isiD S1 x t).map .bl) S1
def mNo : M (Option Int) := fun _ S => .ok none S
def mPart (a : M D) : M (Option Int) := fun sd S => (a sd S).bind fun x S1 => match x with
  | .int i => .ok (some i) S1
  | _ => .bad
def mSl (a : M D) (lo hi : M (Option Int)) : M D := fun sd S => (a sd S).bind fun x S1 => (lo sd S1).bind fun l S2 => (hi sd S2).bind fun h S3 => lift (slP S3 x l h) S3

abbrev rO : RR (Option Int) (Option Int) := fun _ _ a b => a = b
def rP (K : PySem.W.Frag) (ca : Nat → Addr) (W : WX) (m : M (Option Int)) : TO := fun s H Q => ∃ sd r S, Slots K H r sd s ∧ Sim K ca H r S ∧ Ln K ca rO H r (m sd S) Q (fun c d H' => W c d s H')

section
variable {X : Cx} {ca : Nat → Addr} {W : WX} {a b c : Expr} {ma mb mc : M D} {pos : Pos}

theorem z_var {i : Nat} {x : Str} (h : PE X (.Name x pos) (tVar i)) : PE X (.Name x pos) (rE X.K ca W (mVar i)) := PE.imp h fun s H Q ⟨sd, r, S, hs, m, h⟩ => by
  unfold mVar at h
  split at h
  · rename_i d e
    obtain ⟨v, h1, h2⟩ := hs.at_ i d e
    exact ⟨v, h1, h.ok m h2⟩
  · exact h.elim
theorem z_c {e : Expr} {v : V} {d : D} (h : PE X e (tC v)) (hd : ∀ H r, Rep X.K H r d v) : PE X e (rE X.K ca W (mC d)) := PE.imp h fun s H Q ⟨sd, r, S, hs, m, h⟩ => h.ok m (hd H r)
theorem z_bin {op : Operator} {R : R2} {f : Sto → D → D → Option D} (ho : OpR X (binaryOp op) R) (hz : OpZ X.K ca R f) (ha : PE X a (rE X.K ca W ma)) (hb : PE X b (rE X.K ca W mb)) :
    PE X (.BinOp a op b pos) (rE X.K ca W (mBin f ma mb)) := PE.imp (pe_op ho ha hb) fun s H Q ⟨sd, r, S, hs, m, h⟩ =>
  ⟨sd, r, S, hs, m, h.bind fun d1 S1 v1 H1 r1 x1 m1 q1 h1 => ⟨sd, r1, S1, hs.mono x1, m1, h1.bind fun d2 S2 v2 H2 r2 x2 m2 q2 h2 => by
    obtain ⟨d, e, k⟩ := lift_ln h2
    exact hz m2 (q1.mono x2) q2 e fun v H' => k v H' r2⟩⟩
theorem z_cmp {op : CmpOp} {R : R2} {f : Sto → D → D → Option D} (ho : OpR X (compareOp op) R) (hz : OpZ X.K ca R f) (ha : PE X a (rE X.K ca W ma)) (hb : PE X b (rE X.K ca W mb)) (hm : behindInMarks op b = false) :
    PE X (.Compare a [op] [b] pos) (rE X.K ca W (mBin f ma mb)) := PE.imp (pe_cmpR ho ha hb hm) fun s H Q ⟨sd, r, S, hs, m, h⟩ =>
  ⟨sd, r, S, hs, m, h.bind fun d1 S1 v1 H1 r1 x1 m1 q1 h1 => ⟨sd, r1, S1, hs.mono x1, m1, h1.bind fun d2 S2 v2 H2 r2 x2 m2 q2 h2 => by
    obtain ⟨d, e, k⟩ := lift_ln h2
    exact hz m2 (q1.mono x2) q2 e fun v H' => k v H' r2⟩⟩
theorem toB_ln {K : PySem.W.Frag} {H : Hp} {r : Rg} {S : Sto} {x : D} {v : V} {Q : Bool → Hp → Prop} {Wx : XK} (m : Sim K ca H r S) (hx : Rep K H r x v) (h : Ln K ca rB H r (toB x S) Q Wx) : ∃ k, v = .bl k ∧ Q k H := by
  unfold toB at h
  split at h
  · cases hx; exact ⟨_, rfl, h.ok m rfl⟩
  · exact h.elim
theorem z_tcmp {op : CmpOp} {R : R2} {f : Sto → D → D → Option D} (ho : OpR X (compareOp op) R) (hz : OpZ X.K ca R f) (ha : PE X a (rE X.K ca W ma)) (hb : PE X b (rE X.K ca W mb)) (hm : behindInMarks op b = false) :
    PT X (.Compare a [op] [b] pos) (rT X.K ca W (mBl (mBin f ma mb))) := PT.imp (pt_cmpR ho ha hb hm) fun s H Q ⟨sd, r, S, hs, m, h⟩ => by
  have h' := h.bind (R := rV X.K) (Q1 := fun x H' => ∃ k, x = .bl k ∧ Q k H') fun d S1 v H1 r1 x1 m1 q1 h1 => toB_ln m1 q1 h1
  exact ⟨sd, r, S, hs, m, h'.bind fun d1 S1 v1 H1 r1 x1 m1 q1 h1 => ⟨sd, r1, S1, hs.mono x1, m1, h1.bind fun d2 S2 v2 H2 r2 x2 m2 q2 h2 => by
    obtain ⟨d, e, k⟩ := lift_ln h2
    exact hz m2 (q1.mono x2) q2 e fun v H' => k v H' r2⟩⟩
theorem z_ttru (ha : PE X a (rE X.K ca W ma)) (he : ∀ whole, isTrue a X.env whole = (do let v ← whole; standAt a.pos; holding [v] (truthy v))) : PT X a (rT X.K ca W (mTru ma)) :=
  PT.imp (pt_truth ha he) fun s H Q ⟨sd, r, S, hs, m, h⟩ => ⟨sd, r, S, hs, m, h.bind fun d S1 v H1 r1 x1 m1 q1 h1 => by
    obtain ⟨k, e, h2⟩ := lift_ln h1
    exact ⟨k, tru_rep m1 q1 e, h2 k H1 r1 (Ext.refl ..) m1 rfl⟩⟩
theorem z_tnot {m0 : M Bool} (ha : PT X a (rT X.K ca W m0)) : PT X (.UnaryOp .Not a pos) (rT X.K ca W (mNotT m0)) :=
  PT.imp (pt_not ha) fun s H Q ⟨sd, r, S, hs, m, h⟩ => ⟨sd, r, S, hs, m, h.bind fun d S1 v H1 r1 x1 m1 q1 h1 => by cases q1; exact h1.ok m1 rfl⟩
theorem z_wand {m0 m1 : M Bool} {rest : List Expr} (ha : PT X a (rT X.K ca W m0)) (hb : PW X (.BoolOp .And (b :: rest) pos) (rT X.K ca W m1)) : PW X (.BoolOp .And (a :: b :: rest) pos) (rT X.K ca W (mAndT m0 m1)) :=
  PW.imp (pw_and ha hb) fun s H Q ⟨sd, r, S, hs, m, h⟩ => ⟨sd, r, S, hs, m, h.bind fun d S1 v H1 r1 x1 m1 q1 h1 => by
    cases q1
    cases d with
    | true => exact ⟨sd, r1, S1, hs.mono x1, m1, h1⟩
    | false => exact h1.ok m1 rfl⟩
theorem z_wor {m0 m1 : M Bool} {rest : List Expr} (ha : PT X a (rT X.K ca W m0)) (hb : PW X (.BoolOp .Or (b :: rest) pos) (rT X.K ca W m1)) : PW X (.BoolOp .Or (a :: b :: rest) pos) (rT X.K ca W (mOrT m0 m1)) :=
  PW.imp (pw_or ha hb) fun s H Q ⟨sd, r, S, hs, m, h⟩ => ⟨sd, r, S, hs, m, h.bind fun d S1 v H1 r1 x1 m1 q1 h1 => by
    cases q1
    cases d with
    | true => exact h1.ok m1 rfl
    | false => exact ⟨sd, r1, S1, hs.mono x1, m1, h1⟩⟩
theorem z_not (ha : PE X a (rE X.K ca W ma)) : PE X (.UnaryOp .Not a pos) (rE X.K ca W (mNot ma)) :=
  PE.imp (pe_not ha) fun s H Q ⟨sd, r, S, hs, m, h⟩ => ⟨sd, r, S, hs, m, h.bind fun d S1 v H1 r1 x1 m1 q1 h1 => by
    split at h1
    · cases q1; exact ⟨_, rfl, h1.ok m1 (.bl _)⟩
    · exact h1.elim⟩
theorem z_and {rest : List Expr} (ha : PE X a (rE X.K ca W ma)) (hb : PE X (.BoolOp .And (b :: rest) pos) (rE X.K ca W mb)) : PE X (.BoolOp .And (a :: b :: rest) pos) (rE X.K ca W (mAnd ma mb)) :=
  PE.imp (pe_and ha hb) fun s H Q ⟨sd, r, S, hs, m, h⟩ => ⟨sd, r, S, hs, m, h.bind fun d S1 v H1 r1 x1 m1 q1 h1 => by
    split at h1
    · cases q1; exact ⟨true, rfl, iteT ⟨sd, r1, S1, hs.mono x1, m1, h1⟩⟩
    · cases q1; exact ⟨false, rfl, iteF (h1.ok m1 (.bl _))⟩
    · exact h1.elim⟩
theorem z_or {rest : List Expr} (ha : PE X a (rE X.K ca W ma)) (hb : PE X (.BoolOp .Or (b :: rest) pos) (rE X.K ca W mb)) : PE X (.BoolOp .Or (a :: b :: rest) pos) (rE X.K ca W (mOr ma mb)) :=
  PE.imp (pe_or ha hb) fun s H Q ⟨sd, r, S, hs, m, h⟩ => ⟨sd, r, S, hs, m, h.bind fun d S1 v H1 r1 x1 m1 q1 h1 => by
    split at h1
    · cases q1; exact ⟨true, rfl, iteT (h1.ok m1 (.bl _))⟩
    · cases q1; exact ⟨false, rfl, iteF ⟨sd, r1, S1, hs.mono x1, m1, h1⟩⟩
    · exact h1.elim⟩
theorem z_ifx {m0 : M Bool} (hc : PT X c (rT X.K ca W m0)) (ha : PE X a (rE X.K ca W ma)) (hb : PE X b (rE X.K ca W mb)) : PE X (.IfExp c a b pos) (rE X.K ca W (mIf m0 ma mb)) :=
  PE.imp (pe_ifExp hc ha hb) fun s H Q ⟨sd, r, S, hs, m, h⟩ => ⟨sd, r, S, hs, m, h.bind fun d S1 v H1 r1 x1 m1 q1 h1 => by
    cases q1
    cases d with
    | true => exact ⟨sd, r1, S1, hs.mono x1, m1, h1⟩
    | false => exact ⟨sd, r1, S1, hs.mono x1, m1, h1⟩⟩
theorem chain_in {K : PySem.W.Frag} {R R' : R2} {f g : Sto → D → D → Option D} {tc : TE} {s : St} {sd : Sl} {H : Hp} {r : Rg} {S : Sto} {Q : VK} (hz : OpZ K ca R f) (hz' : OpZ K ca R' g) {ta tb : TE}
    (ha : ∀ Q, (∃ sd r S, Slots K H r sd s ∧ Sim K ca H r S ∧ Ln K ca (rV K) H r (ma sd S) Q (fun c d H' => W c d s H')) → ta s H Q)
    (hb : ∀ H Q, (∃ sd r S, Slots K H r sd s ∧ Sim K ca H r S ∧ Ln K ca (rV K) H r (mb sd S) Q (fun c d H' => W c d s H')) → tb s H Q)
    (hc : ∀ H Q, (∃ sd r S, Slots K H r sd s ∧ Sim K ca H r S ∧ Ln K ca (rV K) H r (mc sd S) Q (fun c d H' => W c d s H')) → tc s H Q)
    (hs : Slots K H r sd s) (m : Sim K ca H r S) (h : Ln K ca (rV K) H r (mChain f g ma mb mc sd S) Q (fun c d H' => W c d s H')) : tChain R R' ta tb tc s H Q := by
  refine ha _ ⟨sd, r, S, hs, m, h.bind fun d1 S1 v1 H1 r1 x1 m1 q1 h1 => hb _ _ ⟨sd, r1, S1, hs.mono x1, m1, h1.bind fun d2 S2 v2 H2 r2 x2 m2 q2 h2 => ?_⟩⟩
  cases e : f S2 d1 d2 with
  | none => rw [e] at h2; exact h2.elim
  | some z =>
    rw [e] at h2
    refine hz m2 (q1.mono x2) q2 e fun v H' x' m' q' => ?_
    have h2 := Ln.ext x' h2
    simp only [lift, Out.bind] at h2
    split at h2
    · cases q'
      refine ⟨true, rfl, iteT (hc _ _ ⟨sd, r2, S2, (hs.mono x1).mono (x2.trans x'), m', h2.bind fun d4 S4 v4 H4 r4 x4 m4 q4 h4 => ?_⟩)⟩
      obtain ⟨d, e', k⟩ := lift_ln h4
      exact hz' m4 (q2.mono (x'.trans x4)) q4 e' fun v H' => k v H' r4
    · cases q'
      exact ⟨false, rfl, iteF (h2.ok m' (.bl _))⟩
    · exact h2.elim
theorem z_chain {op op' : CmpOp} {R R' : R2} {f g : Sto → D → D → Option D} (ho : OpR X (compareOp op) R) (ho' : OpR X (compareOp op') R') (hz : OpZ X.K ca R f) (hz' : OpZ X.K ca R' g)
    (ha : PE X a (rE X.K ca W ma)) (hb : PE X b (rE X.K ca W mb)) (hc : PE X c (rE X.K ca W mc)) (hm : lastMarks [op, op'] [b, c] = false) : PE X (.Compare a [op, op'] [b, c] pos) (rE X.K ca W (mChain f g ma mb mc)) :=
  PE.imp (pe_chain ho ho' ha hb hc hm) fun s H Q ⟨sd, r, S, hs, m, h⟩ => chain_in hz hz' (fun _ h => h) (fun _ _ h => h) (fun _ _ h => h) hs m h
theorem z_tchain {op op' : CmpOp} {R R' : R2} {f g : Sto → D → D → Option D} (ho : OpR X (compareOp op) R) (ho' : OpR X (compareOp op') R') (hz : OpZ X.K ca R f) (hz' : OpZ X.K ca R' g)
    (ha : PE X a (rE X.K ca W ma)) (hb : PE X b (rE X.K ca W mb)) (hc : PE X c (rE X.K ca W mc)) (hm : lastMarks [op, op'] [b, c] = false) : PT X (.Compare a [op, op'] [b, c] pos) (rT X.K ca W (mBl (mChain f g ma mb mc))) :=
  PT.imp (pt_chain ho ho' ha hb hc hm) fun s H Q ⟨sd, r, S, hs, m, h⟩ => by
    have h' := h.bind (R := rV X.K) (Q1 := fun x H' => ∃ k, x = .bl k ∧ Q k H') fun d S1 v H1 r1 x1 m1 q1 h1 => toB_ln m1 q1 h1
    exact chain_in hz hz' (fun _ h => h) (fun _ _ h => h) (fun _ _ h => h) hs m h'

/-! ### arguments, displays -/
theorem z_anil : PA X [] (rA X.K ca W mNil) := PA.imp pa_nil fun s H Q ⟨sd, r, S, hs, m, h⟩ => h.ok m .nil
theorem z_acons {es : List Expr} {ml : M (List D)} (ha : PE X a (rE X.K ca W ma)) (hl : PA X es (rA X.K ca W ml)) (hs : starEach (a :: es) X.env = (false, eval a X.env) :: starEach es X.env) : PA X (a :: es) (rA X.K ca W (mCons ma ml)) :=
  PA.imp (pa_cons ha hl hs) fun s H Q ⟨sd, r, S, hs, m, h⟩ => ⟨sd, r, S, hs, m, h.bind fun d1 S1 v1 H1 r1 x1 m1 q1 h1 => ⟨sd, r1, S1, hs.mono x1, m1, h1.bind fun d2 S2 v2 H2 r2 x2 m2 q2 h2 => h2.ok m2 (.cons (q1.mono x2) q2)⟩⟩
theorem z_tup {es : List Expr} {k : Nat} {ml : M (List D)} (h : PA X es (rA X.K ca W ml)) : PE X (.Tuple es k pos) (rE X.K ca W (mTup ml)) :=
  PE.imp (pe_tup h) fun s H Q ⟨sd, r, S, hs, m, h⟩ => ⟨sd, r, S, hs, m, h.bind fun d1 S1 v1 H1 r1 x1 m1 q1 h1 => by
    split at h1
    · rename_i hl
      refine ⟨by rw [sizeLine_eq, ← q1.length]; exact hl, fun p hp => ?_⟩
      exact h1 _ _ r1 (Ext.new hp) (m1.new hp) (newTup hp q1)
    · exact h1.elim⟩
theorem z_lst {es : List Expr} {ml : M (List D)} (h : PA X es (rA X.K ca W ml)) : PE X (.List es pos) (rE X.K ca W (mLst ml)) :=
  PE.imp (pe_lst h) fun s H Q ⟨sd, r, S, hs, m, h⟩ => ⟨sd, r, S, hs, m, h.bind fun d1 S1 v1 H1 r1 x1 m1 q1 h1 => by
    split at h1
    · rename_i hl
      refine ⟨by rw [sizeLine_eq, ← q1.length]; exact hl, fun p hp => ?_⟩
      exact h1 _ _ r1 (Ext.new hp) (m1.new hp) (newLst m1 hp q1)
    · exact h1.elim⟩
theorem newLoc {K : PySem.W.Frag} {H : Hp} {r : Rg} {S : Sto} {p : Addr} {ds : List D} {vs : List V} (m : Sim K ca H r S) (hp : H p = none) (hs : Reps K H r ds vs) : Sim K ca (upd H p (.lst vs)) (r.add p) (S ++ [.lst ds]) ∧ Rep K (upd H p (.lst vs)) (r.add p) (.loc S.length) (.ref p) := by
  refine ⟨m.newLoc hp ⟨vs, upd_same, hs.mono (Ext.newLoc hp)⟩, .loc ?_⟩
  show (r.l ++ [p])[S.length]? = some p
  rw [← m.len, List.getElem?_append_right (Nat.le_refl _), Nat.sub_self]; rfl
theorem z_lstM {es : List Expr} {ml : M (List D)} (h : PA X es (rA X.K ca W ml)) : PE X (.List es pos) (rE X.K ca W (mLstM ml)) :=
  PE.imp (pe_lst h) fun s H Q ⟨sd, r, S, hs, m, h⟩ => ⟨sd, r, S, hs, m, h.bind fun d1 S1 v1 H1 r1 x1 m1 q1 h1 => by
    split at h1
    · rename_i hl
      refine ⟨by rw [sizeLine_eq, ← q1.length]; exact hl, fun p hp => ?_⟩
      obtain ⟨n1, n2⟩ := newLoc m1 hp q1
      exact h1 _ _ _ (Ext.newLoc hp) n1 n2
    · exact h1.elim⟩

/-! ### subscripts -/
theorem z_ix (ha : PE X a (rE X.K ca W ma)) (hb : PE X b (rE X.K ca W mb)) (hs : PlainIx b) : PE X (.Subscript a b pos) (rE X.K ca W (mBin ixP ma mb)) := PE.imp (pe_ix ix_seq ha hb hs) fun s H Q ⟨sd, r, S, hs, m, h⟩ =>
  ⟨sd, r, S, hs, m, h.bind fun d1 S1 v1 H1 r1 x1 m1 q1 h1 => ⟨sd, r1, S1, hs.mono x1, m1, h1.bind fun d2 S2 v2 H2 r2 x2 m2 q2 h2 => by
    obtain ⟨d, e, k⟩ := lift_ln h2
    exact oz_ix m2 (q1.mono x2) q2 e fun v H' => k v H' r2⟩⟩
theorem z_pno : PO X none (rP X.K ca W mNo) := PO.imp po_none fun s H Q ⟨sd, r, S, hs, m, h⟩ => h.ok m rfl
theorem z_psome (ha : PE X a (rE X.K ca W ma)) : PO X (some a) (rP X.K ca W (mPart ma)) := PO.imp (po_some ha) fun s H Q ⟨sd, r, S, hs, m, h⟩ =>
  ⟨sd, r, S, hs, m, h.bind fun d1 S1 v1 H1 r1 x1 m1 q1 h1 => by
    split at h1
    · cases q1; exact ⟨_, rfl, h1.ok m1 rfl⟩
    · exact h1.elim⟩
theorem z_sl {lo hi : Option Expr} {m1 m2 : M (Option Int)} {p2 : Pos} (ha : PE X a (rE X.K ca W ma)) (hl : PO X lo (rP X.K ca W m1)) (hh : PO X hi (rP X.K ca W m2)) : PE X (.Subscript a (.Slice lo hi none p2) pos) (rE X.K ca W (mSl ma m1 m2)) :=
  PE.imp (pe_slice or_sl ha hl hh) fun s H Q ⟨sd, r, S, hs, m, h⟩ => ⟨sd, r, S, hs, m, h.bind fun d1 S1 v1 H1 r1 x1 m1 q1 h1 => ⟨sd, r1, S1, hs.mono x1, m1, h1.bind fun d2 S2 v2 H2 r2 x2 m2 q2 h2 => by
    cases q2
    exact ⟨sd, r2, S2, (hs.mono x1).mono x2, m2, h2.bind fun d3 S3 v3 H3 r3 x3 m3 q3 h3 => by
      cases q3
      obtain ⟨d, e, k⟩ := lift_ln h3
      exact oz_sl m3 ((q1.mono x2).mono x3) e fun v H' => k v H' r3⟩⟩⟩

/-! ### built-in functions -/
theorem z_callB {x : Str} {id : String} {es : List Expr} {p : Pos} {R : List V → Hp → VK → Prop} {f : Sto → List D → Option D} {ml : M (List D)} (hc : CallR X (.builtin id) R) (hz : CallZ X.K ca R f) (hg : Gl X x) (hm : X.mg x = none) (hv : bootBuiltins x = some (.builtin id))
    (ha : PA X (a :: es) (rA X.K ca W ml)) (hn : x ≠ "__name__") (hdb : (x == ("__debug__" : Str)) = false) (he : starEach (a :: es) X.env = (false, eval a X.env) :: starEach es X.env) (hpl : (backTo pos (starEach es X.env)).any (·.1) = false) :
    PE X (.Call (.Name x p) (a :: es) [] pos) (rE X.K ca W (mCall f ml)) := PE.imp (pe_callB hc hg hm hv ha hn hdb he hpl) fun s H Q ⟨sd, r, S, hs, m, h⟩ =>
  ⟨sd, r, S, hs, m, h.bind fun d1 S1 v1 H1 r1 x1 m1 q1 h1 => by
    obtain ⟨d, e, k⟩ := lift_ln h1
    exact hz m1 q1 e fun v H' => k v H' r1⟩
theorem z_callT {x : Str} {id : String} {es : List Expr} {p : Pos} {R : List V → Hp → VK → Prop} {f : Sto → List D → Option D} {ml : M (List D)} (hc : CallR X (.type id) R) (hz : CallZ X.K ca R f) (hg : Gl X x) (hm : X.mg x = none) (hv : bootBuiltins x = some (.type id))
    (ha : PA X (a :: es) (rA X.K ca W ml)) (hn : x ≠ "__name__") (hdb : (x == ("__debug__" : Str)) = false) (he : starEach (a :: es) X.env = (false, eval a X.env) :: starEach es X.env) (hpl : (backTo pos (starEach es X.env)).any (·.1) = false) :
    PE X (.Call (.Name x p) (a :: es) [] pos) (rE X.K ca W (mCall f ml)) := PE.imp (pe_callTy hc hg hm hv ha hn hdb he hpl) fun s H Q ⟨sd, r, S, hs, m, h⟩ =>
  ⟨sd, r, S, hs, m, h.bind fun d1 S1 v1 H1 r1 x1 m1 q1 h1 => by
    obtain ⟨d, e, k⟩ := lift_ln h1
    exact hz m1 q1 e fun v H' => k v H' r1⟩
theorem z_isi {x tn : Str} {t : Ty} {p p2 : Pos} (hg : Gl X "isinstance") (hm : X.mg "isinstance" = none) (hgt : Gl X tn) (hmt : X.mg tn = none) (hvt : bootBuiltins tn = some (.type t.nm)) (hnt : tn ≠ "__name__") (hdt : (tn == ("__debug__" : Str)) = false)
    (ha : PE X a (rE X.K ca W ma)) (hs1 : starEach [a, .Name tn p2] X.env = (false, eval a X.env) :: starEach [.Name tn p2] X.env) : PE X (.Call (.Name "isinstance" p) [a, .Name tn p2] [] pos) (rE X.K ca W (mIsi ma t)) :=
  PE.imp (pe_callB call_isi hg hm (by decide +kernel) (pa_cons ha (pa_cons (pe_bltn (v := .ty t.nm) hgt hmt hvt rfl hnt hdt) pa_nil) hs1) (he := hs1)) fun s H Q ⟨sd, r, S, hs, m, h⟩ =>
  ⟨sd, r, S, hs, m, h.bind fun d1 S1 v1 H1 r1 x1 m1 q1 h1 => by
    obtain ⟨d, e, k⟩ := lift_ln h1
    rw [Option.map_eq_some_iff] at e
    obtain ⟨bb, e, rfl⟩ := e
    obtain ⟨n, t1, t2⟩ := isi_rep m1 q1 e
    exact ⟨v1, .ty t.nm, .type n, .type t.nm, bb, rfl, .ty _, t1, t2, k _ _ r1 (Ext.refl ..) m1 (.bl _)⟩⟩
end
end Z

/-! Z layer, part G: what is walked (sources), targets, comprehensions. -/
namespace Z
open PySem PySem.Spec PyProof.Rows L2

/-! ### facts that stay -/
structure Stb (P : Hp → Rg → Prop) : Prop where
  mono : ∀ {H : Hp} {r : Rg} {H' : Hp} {r' : Rg}, Ext H r H' r' → P H r → P H' r'
  hide : ∀ {H : Hp} {r : Rg} {a : Addr} {o : HO}, H a = none → P H r → P (upd H a o) (r.hide a)
  chg : ∀ {H : Hp} {r : Rg} {a : Addr} {xs : List V} {o : HO}, H a = some (.lst xs) → a ∈ r.p → P H r → P (upd H a o) r
theorem Stb.const {p : Prop} : Stb fun _ _ => p := ⟨fun _ h => h, fun _ h => h, fun _ _ h => h⟩
theorem Stb.and {P Q : Hp → Rg → Prop} (a : Stb P) (b : Stb Q) : Stb fun H r => P H r ∧ Q H r := ⟨fun e h => ⟨a.mono e h.1, b.mono e h.2⟩, fun e h => ⟨a.hide e h.1, b.hide e h.2⟩, fun e i h => ⟨a.chg e i h.1, b.chg e i h.2⟩⟩
section
variable {K : PySem.W.Frag} {ca : Nat → Addr}
theorem ne_upd {H : Hp} {a b : Addr} {o u : HO} {xs : List V} (h : H b = some u) (ha : H a = some (.lst xs)) (hu : u ≠ .lst xs) : upd H a o b = some u := by
  rw [upd_ne (fun e => by rw [e, ha] at h; exact hu (Option.some.inj h).symm)]; exact h
theorem stb_sqt {a : Addr} {xs : List V} : Stb fun H _ => SqT K H a xs := by
  refine ⟨fun e h => e.rdT h, fun hn h => (Ext.new (r := ⟨[], []⟩) hn).rdT h, fun ha _ h => ?_⟩
  rcases h with (h | ⟨o, h⟩) | h
  · exact .inl (.inl (ne_upd h ha (fun z => nomatch z)))
  · exact .inl (.inr ⟨o, ne_upd h ha (fun z => nomatch z)⟩)
  · exact .inr h
theorem stb_fl {a : Addr} {xs : List V} : Stb fun H _ => FL K H a xs := by
  refine ⟨fun e h => e.fl h, fun hn h => (Ext.new (r := ⟨[], []⟩) hn).fl h, fun ha _ h => ?_⟩
  rcases h with ⟨o, h⟩ | h
  · exact .inl ⟨o, ne_upd h ha (fun z => nomatch z)⟩
  · exact .inr h
mutual
theorem Rep.hide {H : Hp} {r : Rg} {a : Addr} {o : HO} (ha : H a = none) : ∀ {d : D} {v : V}, Rep K H r d v → Rep K (upd H a o) (r.hide a) d v
  | _, _, .non => .non
  | _, _, .bl b => .bl b
  | _, _, .int i => .int i
  | _, _, .str x => .str x
  | _, _, .tup h hs => .tup (stb_sqt.hide (r := r) ha h) (Reps.hide ha hs)
  | _, _, .lst h hn hp hs => .lst (by rw [upd_ne (ne_of_none h ha)]; exact h) hn (fun z => by
      rcases List.mem_cons.mp z with z | z
      · subst z; rw [ha] at h; cases h
      · exact hp z) (Reps.hide ha hs)
  | _, _, .fro h hs => .fro (stb_fl.hide (r := r) ha h) (Reps.hide ha hs)
  | _, _, .loc h => .loc h
theorem Reps.hide {H : Hp} {r : Rg} {a : Addr} {o : HO} (ha : H a = none) : ∀ {ds : List D} {vs : List V}, Reps K H r ds vs → Reps K (upd H a o) (r.hide a) ds vs
  | _, _, .nil => .nil
  | _, _, .cons h hs => .cons (Rep.hide ha h) (Reps.hide ha hs)
end
mutual
theorem Rep.chg {H : Hp} {r : Rg} {a : Addr} {xs : List V} {o : HO} (ha : H a = some (.lst xs)) (hm : a ∈ r.p) : ∀ {d : D} {v : V}, Rep K H r d v → Rep K (upd H a o) r d v
  | _, _, .non => .non
  | _, _, .bl b => .bl b
  | _, _, .int i => .int i
  | _, _, .str x => .str x
  | _, _, .tup h hs => .tup (stb_sqt.chg ha hm h) (Reps.chg ha hm hs)
  | _, _, .lst h hn hp hs => .lst (by rw [upd_ne (fun e => hp (by rw [e]; exact hm))]; exact h) hn hp (Reps.chg ha hm hs)
  | _, _, .fro h hs => .fro (stb_fl.chg ha hm h) (Reps.chg ha hm hs)
  | _, _, .loc h => .loc h
theorem Reps.chg {H : Hp} {r : Rg} {a : Addr} {xs : List V} {o : HO} (ha : H a = some (.lst xs)) (hm : a ∈ r.p) : ∀ {ds : List D} {vs : List V}, Reps K H r ds vs → Reps K (upd H a o) r ds vs
  | _, _, .nil => .nil
  | _, _, .cons h hs => .cons (Rep.chg ha hm h) (Reps.chg ha hm hs)
end
/-- r' knows all that r knows, and forbids no address that r lets a list stand at -/
structure Mv (r r' : Rg) : Prop where
  at_ : ∀ (n : Nat) (a : Addr), r.l[n]? = some a → r'.l[n]? = some a
  out : ∀ a, a ∉ r.l → a ∉ r.p → a ∉ r'.l ∧ a ∉ r'.p
mutual
theorem Rep.move {H : Hp} {r r' : Rg} (e : Mv r r') : ∀ {d : D} {v : V}, Rep K H r d v → Rep K H r' d v
  | _, _, .non => .non
  | _, _, .bl b => .bl b
  | _, _, .int i => .int i
  | _, _, .str x => .str x
  | _, _, .tup h hs => .tup h (Reps.move e hs)
  | _, _, .lst h hn hq hs => .lst h (e.out _ hn hq).1 (e.out _ hn hq).2 (Reps.move e hs)
  | _, _, .fro h hs => .fro h (Reps.move e hs)
  | _, _, .loc h => .loc (e.at_ _ _ h)
theorem Reps.move {H : Hp} {r r' : Rg} (e : Mv r r') : ∀ {ds : List D} {vs : List V}, Reps K H r ds vs → Reps K H r' ds vs
  | _, _, .nil => .nil
  | _, _, .cons h hs => .cons (Rep.move e h) (Reps.move e hs)
end
theorem stb_rep {d : D} {v : V} : Stb fun H r => Rep K H r d v := ⟨fun e h => h.mono e, fun e h => h.hide e, fun e i h => h.chg e i⟩
theorem stb_reps {ds : List D} {vs : List V} : Stb fun H r => Reps K H r ds vs := ⟨fun e h => h.mono e, fun e h => h.hide e, fun e i h => h.chg e i⟩
theorem RepF.hide {H : Hp} {r : Rg} {a : Addr} {o : HO} (ha : H a = none) : ∀ {ds : List (Str × D)} {vs : List (Str × V)}, RepF K H r ds vs → RepF K (upd H a o) (r.hide a) ds vs
  | _, _, .nil => .nil
  | _, _, .cons h hs => .cons (h.hide ha) (RepF.hide ha hs)
theorem RepF.chg {H : Hp} {r : Rg} {a : Addr} {xs : List V} {o : HO} (ha : H a = some (.lst xs)) (hm : a ∈ r.p) : ∀ {ds : List (Str × D)} {vs : List (Str × V)}, RepF K H r ds vs → RepF K (upd H a o) r ds vs
  | _, _, .nil => .nil
  | _, _, .cons h hs => .cons (h.chg ha hm) (RepF.chg ha hm hs)
theorem RepF.move {H : Hp} {r r' : Rg} (e : Mv r r') : ∀ {ds : List (Str × D)} {vs : List (Str × V)}, RepF K H r ds vs → RepF K H r' ds vs
  | _, _, .nil => .nil
  | _, _, .cons h hs => .cons (h.move e) (RepF.move e hs)
theorem ORep.move {H : Hp} {r r' : Rg} {o : MO} {a : Addr} (e : Mv r r') (h : ORep K ca H r o a) : ORep K ca H r' o a := by
  cases o with
  | lst ds => obtain ⟨vs, h3, h4⟩ := h; exact ⟨vs, h3, h4.move e⟩
  | ins c fs => obtain ⟨dx, gs, h3, h4⟩ := h; exact ⟨dx, gs, h3, h4.move e⟩
theorem stb_slots {sd : Sl} {s : St} : Stb fun H r => Slots K H r sd s :=
  ⟨fun e h => h.mono e, fun e h => ⟨h.len, fun i d q => let ⟨v, h1, h2⟩ := h.at_ i d q; ⟨v, h1, h2.hide e⟩⟩, fun e i h => ⟨h.len, fun j d q => let ⟨v, h1, h2⟩ := h.at_ j d q; ⟨v, h1, h2.chg e i⟩⟩⟩
theorem Sim.hide {H : Hp} {r : Rg} {S : Sto} {a : Addr} {o : HO} (m : Sim K ca H r S) (ha : H a = none) : Sim K ca (upd H a o) (r.hide a) S := by
  refine ⟨m.len, m.nd, fun n u h => ?_, fun b hb => ?_⟩
  · obtain ⟨b, h1, h2⟩ := m.obj n u h
    have hb : upd H a o b = H b := upd_ne fun e => m.tracked (e ▸ List.mem_of_getElem? h1) ha
    refine ⟨b, h1, ?_⟩
    cases u with
    | lst ds => obtain ⟨vs, h3, h4⟩ := h2; exact ⟨vs, by rw [hb]; exact h3, h4.hide ha⟩
    | ins c fs => obtain ⟨dx, gs, h3, h4⟩ := h2; exact ⟨dx, gs, by rw [hb]; exact h3, h4.hide ha⟩
  · rcases List.mem_cons.mp hb with rfl | hb
    · rw [upd_same]; simp
    · exact (Ext.new (r := r) ha).there b (m.prv b hb)
theorem Sim.chg {H : Hp} {r : Rg} {S : Sto} {a : Addr} {xs : List V} {o : HO} (m : Sim K ca H r S) (ha : H a = some (.lst xs)) (hm : a ∈ r.p) (hl : a ∉ r.l) : Sim K ca (upd H a o) r S := by
  refine ⟨m.len, m.nd, fun n u h => ?_, fun b hb => ?_⟩
  · obtain ⟨b, h1, h2⟩ := m.obj n u h
    have hb : upd H a o b = H b := upd_ne fun e => hl (e ▸ List.mem_of_getElem? h1)
    refine ⟨b, h1, ?_⟩
    cases u with
    | lst ds => obtain ⟨vs, h3, h4⟩ := h2; exact ⟨vs, by rw [hb]; exact h3, h4.chg ha hm⟩
    | ins c fs => obtain ⟨dx, gs, h3, h4⟩ := h2; exact ⟨dx, gs, by rw [hb]; exact h3, h4.chg ha hm⟩
  · by_cases e : b = a
    · subst e; rw [upd_same]; simp
    · rw [upd_ne e]; exact m.prv b hb
theorem Sim.move {H : Hp} {r r' : Rg} {S : Sto} (m : Sim K ca H r S) (e : Mv r r') (hl : r'.l = r.l) (hp : ∀ a ∈ r'.p, a ∈ r.p) : Sim K ca H r' S := by
  refine ⟨by rw [hl]; exact m.len, by rw [hl]; exact m.nd, fun n u h => ?_, fun b hb => m.prv b (hp b hb)⟩
  obtain ⟨b, h1, h2⟩ := m.obj n u h
  exact ⟨b, e.at_ _ _ h1, h2.move e⟩
end

/-! ### sources -/
inductive Src where
  | vals (ds : List D)
  | cell (n len : Nat)
def Src.len : Src → Nat
  | .vals ds => ds.length
  | .cell _ k => k
def Src.at (s : Src) (S : Sto) (i : Nat) : Option D := match s with
  | .vals ds => ds[i]?
  | .cell n k => match S[n]? with
    | some (.lst xs) => if xs.length = k then xs[i]? else none
    | _ => none
def Src.fin (s : Src) (S : Sto) : Bool := match s with
  | .vals _ => true
  | .cell n k => match S[n]? with
    | some (.lst xs) => decide (xs.length = k)
    | _ => false
def SrcAt (K : PySem.W.Frag) (ca : Nat → Addr) (H : Hp) (r : Rg) (s : Src) (J : It) : Prop :=
  ∃ P : Hp → Rg → Prop, Stb P ∧ P H r ∧ ∀ H r S, P H r → Sim K ca H r S → ∀ i,
    (∀ d, s.at S i = some d → J.go i H ∧ ∀ x H', J.yld i H x H' → Ext H r H' r ∧ Sim K ca H' r S ∧ Rep K H' r d x) ∧ (i = s.len → s.fin S = true → J.stop i H)
def rI (K : PySem.W.Frag) (ca : Nat → Addr) (W : WX) (m : M Src) : TI := fun s H R => ∃ sd r S, Slots K H r sd s ∧ Sim K ca H r S ∧ Ln K ca (SrcAt K ca) H r (m sd S) R (fun c d H' => W c d s H')

section
variable {K : PySem.W.Frag} {ca : Nat → Addr} {H : Hp} {r : Rg}
theorem srcT {a : Addr} {ds : List D} {vs : List V} (h : SqT K H a vs) (hs : Reps K H r ds vs) : SrcAt K ca H r (.vals ds) (Itt K a) := by
  refine ⟨fun H r => SqT K H a vs ∧ Reps K H r ds vs, stb_sqt.and stb_reps, ⟨h, hs⟩, fun H r S p m i => ⟨fun d e => ?_, fun e _ => ⟨vs, p.1, ?_⟩⟩⟩
  · obtain ⟨v, h1, h2⟩ := p.2.get e
    refine ⟨⟨vs, v, p.1, h1⟩, fun x H' y => ?_⟩
    obtain ⟨rfl, y⟩ := y
    have := y vs p.1
    rw [h1] at this; cases this
    exact ⟨Ext.refl .., m, h2⟩
  · rw [e]; exact Nat.le_of_eq p.2.length.symm
theorem srcF {a : Addr} {ds : List D} {vs : List V} (h : FL K H a vs) (hs : Reps K H r ds vs) : SrcAt K ca H r (.vals ds) (Itl K a) := by
  refine ⟨fun H r => FL K H a vs ∧ Reps K H r ds vs, stb_fl.and stb_reps, ⟨h, hs⟩, fun H r S p m i => ⟨fun d e => ?_, fun e _ => ⟨vs, p.1.sq, ?_⟩⟩⟩
  · obtain ⟨v, h1, h2⟩ := p.2.get e
    refine ⟨⟨vs, v, p.1.sq, h1⟩, fun x H' y => ?_⟩
    obtain ⟨rfl, y⟩ := y
    have := y vs p.1.sq
    rw [h1] at this; cases this
    exact ⟨Ext.refl .., m, h2⟩
  · rw [e]; exact Nat.le_of_eq p.2.length.symm
theorem srcL {a : Addr} {ds : List D} {vs : List V} (h : H a = some (.lst vs)) (hn : a ∉ r.l) (hp : a ∉ r.p) (hs : Reps K H r ds vs) : SrcAt K ca H r (.vals ds) (Itl K a) := by
  refine ⟨fun H r => Rep K H r (.lst ds) (.ref a), stb_rep, .lst h hn hp hs, fun H r S p m i => ?_⟩
  cases p with
  | @lst _ ws _ h hn hp hs =>
    refine ⟨fun d e => ?_, fun e _ => ⟨ws, .of h, ?_⟩⟩
    · obtain ⟨v, h1, h2⟩ := hs.get e
      refine ⟨⟨ws, v, .of h, h1⟩, fun x H' y => ?_⟩
      obtain ⟨rfl, y⟩ := y
      have := y ws (.of h)
      rw [h1] at this; cases this
      exact ⟨Ext.refl .., m, h2⟩
    · rw [e]; exact Nat.le_of_eq hs.length.symm
theorem srcC {a : Addr} {n k : Nat} (h : r.l[n]? = some a) : SrcAt K ca H r (.cell n k) (Itl K a) := by
  refine ⟨fun _ r => r.l[n]? = some a, ⟨fun e h => e.at h, fun _ h => h, fun _ _ h => h⟩, h, fun H r S p m i => ⟨fun d e => ?_, fun e f => ?_⟩⟩
  · simp only [Src.at] at e
    split at e
    · rename_i xs e1
      split at e
      · obtain ⟨b, h1, vs, h2, h3⟩ := m.obj n _ e1
        rw [p] at h1; cases h1
        obtain ⟨v, h4, h5⟩ := h3.get e
        refine ⟨⟨vs, v, .of h2, h4⟩, fun x H' y => ?_⟩
        obtain ⟨rfl, y⟩ := y
        have := y vs (.of h2)
        rw [h4] at this; cases this
        exact ⟨Ext.refl .., m, h5⟩
      · cases e
    · cases e
  · simp only [Src.fin] at f
    split at f
    · rename_i xs e1
      obtain ⟨b, h1, vs, h2, h3⟩ := m.obj n _ e1
      rw [p] at h1; cases h1
      have hk := of_decide_eq_true f
      refine ⟨vs, .of h2, ?_⟩
      rw [e, ← h3.length, hk]
      exact Nat.le_refl _
    · cases f
theorem srcR {lo : Int} {n : Nat} : SrcAt K ca H r (.vals ((List.range n).map fun (i : Nat) => D.int (lo + (i : Int)))) (Itr lo n) := by
  refine ⟨fun _ _ => True, Stb.const, trivial, fun H r S _ m i => ⟨fun d e => ?_, fun e _ => ?_⟩⟩
  · simp only [Src.at, List.getElem?_map] at e
    by_cases hi : i < n
    · rw [List.getElem?_range hi] at e
      cases e
      refine ⟨hi, fun x H' y => ?_⟩
      obtain ⟨rfl, rfl⟩ := y
      exact ⟨Ext.refl .., m, .int _⟩
    · rw [List.getElem?_eq_none (by simpa using hi)] at e; cases e
  · show n ≤ i
    rw [e]; simp [Src.len]
end

def srcOf (S : Sto) (x : D) : Option Src := match x with
  | .tup ds => some (.vals ds)
  | .lst ds => some (.vals ds)
  | .fro ds => some (.vals ds)
  | .loc n => match S[n]? with
    | some (.lst xs) => some (.cell n xs.length)
    | _ => none
  | _ => none
def mSeq (a : M D) : M Src := fun sd S => (a sd S).bind fun x S1 => lift (srcOf S1 x) S1
def rngV (lo hi : Int) : Option Src := if -4611686018427387904 ≤ lo ∧ lo < 4611686018427387904 ∧ -4611686018427387904 ≤ hi ∧ hi < 4611686018427387904 then some (.vals ((List.range (hi - lo).toNat).map fun (i : Nat) => D.int (lo + (i : Int)))) else none
def rng1 (xs : List D) : Option Src := match xs with
  | [.int j] => rngV 0 j
  | _ => none
def rng2 (xs : List D) : Option Src := match xs with
  | [.int i, .int j] => rngV i j
  | _ => none
def mRng (f : List D → Option Src) (a : M (List D)) : M Src := fun sd S => (a sd S).bind fun xs S1 => lift (f xs) S1

section
variable {X : Cx} {ca : Nat → Addr} {W : WX} {tg : Expr}
theorem PI.imp {it : Expr} {t t' : TI} (h : PI X tg it t) (i : ∀ s H Q, t' s H Q → t s H Q) : PI X tg it t' := ⟨fun pins s σ H Q I w => h.run pins s σ H Q I (i σ H Q w)⟩
theorem z_seq {a : Expr} {ma : M D} (ha : PE X a (rE X.K ca W ma)) : PI X tg a (rI X.K ca W (mSeq ma)) := by
  refine ⟨fun pins s σ H R I ⟨sd, r, S, hs, m, h⟩ => ?_⟩
  have key : iTup X.K (rE X.K ca W ma) σ H R ∨ iList X.K (rE X.K ca W ma) σ H R := by
    unfold mSeq at h
    cases e : ma sd S with
    | bad => rw [e] at h; exact h.elim
    | exc c fs S1 =>
      left
      exact ⟨sd, r, S, hs, m, by rw [e]; rw [e] at h; exact h⟩
    | ok d S1 =>
      rw [e] at h
      obtain ⟨src, e1, k⟩ := lift_ln (show Ln X.K ca (SrcAt X.K ca) H r (lift (srcOf S1 d) S1) R _ from h)
      have ln : ∀ Q, (∀ v H' r', Ext H r H' r' → Sim X.K ca H' r' S1 → Rep X.K H' r' d v → Q v H') → rE X.K ca W ma σ H Q := fun Q q => ⟨sd, r, S, hs, m, by rw [e]; exact q⟩
      unfold srcOf at e1
      split at e1
      · left; cases e1
        refine ln _ fun v H' r' x m' q => ?_
        cases q with
        | tup h1 s1 => exact ⟨_, rfl, ⟨_, h1⟩, k _ H' r' x m' (srcT h1 s1)⟩
      · right; cases e1
        refine ln _ fun v H' r' x m' q => ?_
        cases q with
        | lst h1 hn hp s1 => exact ⟨_, rfl, ⟨_, .of h1⟩, k _ H' r' x m' (srcL h1 hn hp s1)⟩
      · right; cases e1
        refine ln _ fun v H' r' x m' q => ?_
        cases q with
        | fro h1 s1 => exact ⟨_, rfl, ⟨_, h1.sq⟩, k _ H' r' x m' (srcF h1 s1)⟩
      · right
        split at e1
        · rename_i n xs e2
          cases e1
          refine ln _ fun v H' r' x m' q => ?_
          obtain ⟨a, rfl, h1, vs, h2, h3⟩ := m'.loc q e2
          exact ⟨_, rfl, ⟨_, .of h2⟩, k _ H' r' x m' (srcC h1)⟩
        · cases e1
      · cases e1
  rcases key with k | k
  · exact (pi_tup ha).run pins s σ H R I k
  · exact (pi_list ha).run pins s σ H R I k
theorem rng_ln {K : PySem.W.Frag} {H : Hp} {r : Rg} {S : Sto} {lo hi : Int} {R : It → Hp → Prop} {src : Src} (m : Sim K ca H r S) (e : rngV lo hi = some src) (k : ∀ v H' r', Ext H r H' r' → Sim K ca H' r' S → SrcAt K ca H' r' src v → R v H') :
    (-(2 ^ 62) ≤ lo ∧ lo < 2 ^ 62 ∧ -(2 ^ 62) ≤ hi ∧ hi < 2 ^ 62) ∧ R (Itr lo (hi - lo).toNat) H := by
  unfold rngV at e
  split at e
  · rename_i hb
    cases e
    exact ⟨by omega, k _ H r (Ext.refl ..) m srcR⟩
  · cases e
theorem z_rng1 {a : Expr} {p pos : Pos} {ml : M (List D)} (hg : Gl X "range") (hm : X.mg "range" = none) (ha : PA X [a] (rA X.K ca W ml)) (hs : starEach [a] X.env = [(false, eval a X.env)]) : PI X tg (.Call (.Name "range" p) [a] [] pos) (rI X.K ca W (mRng rng1 ml)) :=
  PI.imp (pi_range1 hg hm ha hs) fun s H R ⟨sd, r, S, hs, m, h⟩ => ⟨sd, r, S, hs, m, h.bind fun d1 S1 v1 H1 r1 x1 m1 q1 h1 => by
    obtain ⟨src, e, k⟩ := lift_ln h1
    unfold rng1 at e
    split at e
    · cases q1 with
      | cons h hs =>
        cases hs; cases h
        obtain ⟨b, q⟩ := rng_ln m1 e k
        exact ⟨_, rfl, b.2.2.1, b.2.2.2, by rw [Int.sub_zero] at q; exact q⟩
    · cases e⟩
theorem z_rng2 {a b : Expr} {p pos : Pos} {ml : M (List D)} (hg : Gl X "range") (hm : X.mg "range" = none) (ha : PA X [a, b] (rA X.K ca W ml)) (hs : starEach [a, b] X.env = [(false, eval a X.env), (false, eval b X.env)]) (hs2 : starEach [b] X.env = [(false, eval b X.env)]) :
    PI X tg (.Call (.Name "range" p) [a, b] [] pos) (rI X.K ca W (mRng rng2 ml)) :=
  PI.imp (pi_range2 hg hm ha hs hs2) fun s H R ⟨sd, r, S, hs, m, h⟩ => ⟨sd, r, S, hs, m, h.bind fun d1 S1 v1 H1 r1 x1 m1 q1 h1 => by
    obtain ⟨src, e, k⟩ := lift_ln h1
    unfold rng2 at e
    split at e
    · cases q1 with
      | cons h hs =>
        cases hs with
        | cons h2 hs =>
          cases hs; cases h; cases h2
          obtain ⟨b, q⟩ := rng_ln m1 e k
          exact ⟨_, _, rfl, b, q⟩
    · cases e⟩
end

/-! ### targets -/
abbrev GM := D → Sl → Sto → Option (Sl × Sto)
def rG (K : PySem.W.Frag) (ca : Nat → Addr) (ts : List Nat) (g : GM) : TG := fun v s H Q => ∃ sd r S d sd' S', Slots K H r sd s ∧ Sim K ca H r S ∧ Rep K H r d v ∧ g d sd S = some (sd', S') ∧
  ∀ s' H' r', Ext H r H' r' → Sim K ca H' r' S' → Slots K H' r' sd' s' → (∀ j, j ∉ ts → s'[j]? = s[j]?) → s'.length = s.length → Q s' H'
def rGs (K : PySem.W.Frag) (ca : Nat → Addr) (ts : List Nat) (g : List D → Sl → Sto → Option (Sl × Sto)) : TGs := fun vs s H Q => ∃ sd r S ds sd' S', Slots K H r sd s ∧ Sim K ca H r S ∧ Reps K H r ds vs ∧ g ds sd S = some (sd', S') ∧
  ∀ s' H' r', Ext H r H' r' → Sim K ca H' r' S' → Slots K H' r' sd' s' → (∀ j, j ∉ ts → s'[j]? = s[j]?) → s'.length = s.length → Q s' H'
def gNm (i : Nat) : GM := fun d sd S => some (sd.set i (some d), S)
def gsNil : List D → Sl → Sto → Option (Sl × Sto) := fun ds sd S => match ds with
  | [] => some (sd, S)
  | _ => none
def gsCons (g : GM) (gs : List D → Sl → Sto → Option (Sl × Sto)) : List D → Sl → Sto → Option (Sl × Sto) := fun ds sd S => match ds with
  | d :: ds => match g d sd S with
    | some (sd1, S1) => gs ds sd1 S1
    | none => none
  | [] => none
def gTp (n : Nat) (gs : List D → Sl → Sto → Option (Sl × Sto)) : GM := fun d sd S => match d with
  | .tup ds => if ds.length = n then gs ds sd S else none
  | _ => none
section
variable {X : Cx} {ca : Nat → Addr}
theorem PG.imp {tg : Expr} {t t' : TG} (h : PG X tg t) (i : ∀ v s H Q, t' v s H Q → t v s H Q) : PG X tg t' := ⟨fun pins s σ H v u Q I rv w => h.run pins s σ H v u Q I rv (i v σ H Q w)⟩
theorem PGs.imp {tg : List Expr} {t t' : TGs} (h : PGs X tg t) (i : ∀ v s H Q, t' v s H Q → t v s H Q) : PGs X tg t' := ⟨fun pins s σ H v u Q I rv w => h.run pins s σ H v u Q I rv (i v σ H Q w)⟩
theorem z_gname {i : Nat} {x : Str} {pos : Pos} (h : PG X (.Name x pos) (gName i)) : PG X (.Name x pos) (rG X.K ca [i] (gNm i)) := PG.imp h fun v s H Q ⟨sd, r, S, d, sd', S', hs, m, q, e, k⟩ => by
  cases e
  refine k _ H r (Ext.refl ..) m (hs.set q) (fun j hj => ?_) (List.length_set ..)
  exact List.getElem?_set_ne (fun e => hj (by simp [e]))
theorem z_gsnil : PGs X [] (rGs X.K ca [] gsNil) := PGs.imp pgs_nil fun vs s H Q ⟨sd, r, S, ds, sd', S', hs, m, q, e, k⟩ => by
  unfold gsNil at e
  split at e
  · cases e
    exact ⟨q.nil_of, k _ H r (Ext.refl ..) m hs (fun _ _ => rfl) rfl⟩
  · cases e
theorem z_gscons {a : Expr} {es : List Expr} {ts us : List Nat} {g : GM} {gs : List D → Sl → Sto → Option (Sl × Sto)} (h1 : PG X a (rG X.K ca ts g)) (h2 : PGs X es (rGs X.K ca us gs))
    (hs : (assignEach (a :: es) X.env).map (·.2) = assign a X.env :: (assignEach es X.env).map (·.2)) : PGs X (a :: es) (rGs X.K ca (ts ++ us) (gsCons g gs)) := PGs.imp (pgs_cons h1 h2 hs) fun vs s H Q ⟨sd, r, S, ds, sd', S', hs, m, q, e, k⟩ => by
  unfold gsCons at e
  split at e
  · split at e
    · rename_i sd1 S1 e1
      cases q with
      | cons q1 q2 =>
        refine ⟨_, _, rfl, sd, r, S, _, sd1, S1, hs, m, q1, e1, fun s1 H1 r1 x1 m1 hs1 f1 l1 => ?_⟩
        refine ⟨sd1, r1, S1, _, sd', S', hs1, m1, q2.mono x1, e, fun s2 H2 r2 x2 m2 hs2 f2 l2 => ?_⟩
        exact k s2 H2 r2 (x1.trans x2) m2 hs2 (fun j hj => by rw [f2 j fun z => hj (by simp [z]), f1 j fun z => hj (by simp [z])]) (l2.trans l1)
    · cases e
  · cases e
theorem z_gtup {es : List Expr} {k n : Nat} {pos : Pos} {ts : List Nat} {gs : List D → Sl → Sto → Option (Sl × Sto)} (hc : X.calm = true) (h : PGs X es (rGs X.K ca ts gs)) (hn : (assignEach es X.env).length = n) (hst : (assignEach es X.env).findIdx? (·.1) = none) :
    PG X (.Tuple es k pos) (rG X.K ca ts (gTp n gs)) := PG.imp (pg_tup hc h hn hst) fun v s H Q ⟨sd, r, S, d, sd', S', hs, m, q, e, k⟩ => by
  unfold gTp at e
  split at e
  · split at e
    · rename_i hl
      cases q with
      | tup h1 s1 => exact ⟨_, _, rfl, h1, by rw [← s1.length]; exact hl, sd, r, S, _, sd', S', hs, m, s1, e, k⟩
    · cases e
  · cases e
end

/-! ### comprehensions -/
def wipeD (sd : Sl) : List Nat → Sl
  | [] => sd
  | v :: vs => (wipeD sd vs).set v none
theorem wipeD_len (sd : Sl) : ∀ vs : List Nat, (wipeD sd vs).length = sd.length
  | [] => rfl
  | v :: vs => by unfold wipeD; rw [List.length_set, wipeD_len sd vs]
theorem wipeD_get (sd : Sl) (j : Nat) : ∀ vs : List Nat, (wipeD sd vs)[j]? = if j ∈ vs then (sd[j]?).map fun _ => none else sd[j]?
  | [] => by simp [wipeD]
  | v :: vs => by
    unfold wipeD
    by_cases h : v = j
    · subst h
      rw [List.getElem?_set]
      simp only [wipeD_len, ↓reduceIte, List.mem_cons, true_or]
      by_cases hl : v < sd.length
      · simp [hl]
      · simp [hl]
    · rw [List.getElem?_set_ne h, wipeD_get sd j vs]
      have : (j ∈ v :: vs) ↔ j ∈ vs := by
        rw [List.mem_cons]
        exact ⟨fun z => z.elim (fun e => absurd e.symm h) id, .inr⟩
      simp only [this]
theorem wipe_get (s : St) (j : Nat) : ∀ vs : List Nat, (wipe s vs)[j]? = if j ∈ vs then (s[j]?).map fun _ => none else s[j]?
  | [] => by simp [wipe]
  | v :: vs => by
    unfold wipe
    by_cases h : v = j
    · subst h
      rw [List.getElem?_set]
      simp only [wipe_length, ↓reduceIte, List.mem_cons, true_or]
      by_cases hl : v < s.length
      · simp [hl]
      · simp [hl]
    · rw [List.getElem?_set_ne h, wipe_get s j vs]
      have : (j ∈ v :: vs) ↔ j ∈ vs := by
        rw [List.mem_cons]
        exact ⟨fun z => z.elim (fun e => absurd e.symm h) id, .inr⟩
      simp only [this]
theorem Slots.wipe {K : PySem.W.Frag} {H : Hp} {r : Rg} {sd : Sl} {s : St} (h : Slots K H r sd s) (vs : List Nat) : Slots K H r (wipeD sd vs) (L2.wipe s vs) := by
  refine ⟨by rw [wipeD_len, wipe_length]; exact h.len, fun i d q => ?_⟩
  rw [wipeD_get] at q
  split at q
  · cases e : sd[i]? with
    | none => rw [e] at q; cases q
    | some z => rw [e] at q; cases q
  · rename_i hi
    rw [wipe_get, if_neg hi]
    exact h.at_ i d q
theorem wipe_frame {s s2 : St} {vs ts : List Nat} (f : ∀ j, j ∉ ts → s2[j]? = (wipe s vs)[j]?) (hl : s2.length = (wipe s vs).length) (hts : ∀ t ∈ ts, t ∈ vs) : wipe s2 vs = wipe s vs := by
  refine List.ext_getElem? fun j => ?_
  rw [wipe_get, wipe_get]
  have hl' : s2.length = s.length := by rw [hl, wipe_length]
  split
  · by_cases h : j < s.length
    · rw [List.getElem?_eq_getElem h, List.getElem?_eq_getElem (by rw [hl']; exact h)]; rfl
    · rw [List.getElem?_eq_none (by omega), List.getElem?_eq_none (by omega)]
  · rename_i hj
    rw [f j fun z => hj (hts j z), wipe_get, if_neg hj]

def lcGo (src : Src) (g : GM) (c : M Bool) (e : M D) (sw : Sl) : Nat → Nat → List D → Sto → Out (List D)
  | 0, _, acc, S => if src.fin S then .ok acc S else .bad
  | k + 1, i, acc, S => match src.at S i with
    | none => .bad
    | some d => match g d sw S with
      | none => .bad
      | some (sd, S1) => match c sd S1 with
        | .ok true S2 => match e sd S2 with
          | .ok y S3 => if acc.length < 16777216 then lcGo src g c e sw k (i + 1) (acc ++ [y]) S3 else .bad
          | _ => .bad
        | .ok false S2 => lcGo src g c e sw k (i + 1) acc S2
        | _ => .bad
def mLcL (mi : M Src) (g : GM) (vs : List Nat) (c : M Bool) (e : M D) : M (List D) := fun sd S => (mi sd S).bind fun src S1 => lcGo src g c e (wipeD sd vs) src.len 0 [] S1
def mLc (mi : M Src) (g : GM) (vs : List Nat) (c : M Bool) (e : M D) : M D := fun sd S => (mLcL mi g vs c e sd S).bind fun acc S2 => .ok (.lst acc) S2
def mLcM (mi : M Src) (g : GM) (vs : List Nat) (c : M Bool) (e : M D) : M D := fun sd S => (mLcL mi g vs c e sd S).bind fun acc S2 => .ok (.loc S2.length) (S2 ++ [.lst acc])

theorem Ext.unhide {H H' : Hp} {r r' : Rg} (e : Ext H r H' r') (p : List Addr) : Ext H ⟨r.l, p⟩ H' ⟨r'.l, p⟩ := by
  obtain ⟨l, rfl, hl⟩ := e.more
  exact ⟨⟨l, rfl, hl⟩, e.keep, e.imm, e.there⟩
theorem Ext.chg {H H' : Hp} {r r' : Rg} {a : Addr} {o : HO} (e : Ext H r H' r') (ha : H a = none) : Ext H r (upd H' a o) r' := by
  have k : ∀ b u, H b = some u → b ≠ a := fun b u h z => by rw [z, ha] at h; cases h
  refine ⟨e.more, fun b u h hn => by rw [upd_ne (k b u h)]; exact e.keep b u h hn, fun b u h hi => by rw [upd_ne (k b u h)]; exact e.imm b u h hi, fun b h => ?_⟩
  by_cases z : b = a
  · subst z; rw [upd_same]; simp
  · rw [upd_ne z]; exact e.there b h

section
variable {X : Cx} {ca : Nat → Addr} {W : WX}
abbrev W0 : WX := fun _ _ _ _ => False
/-- the loop of a comprehension -/
theorem lc_loop {K : PySem.W.Frag} {mi : M Src} {g : GM} {vs ts : List Nat} {mc : M Bool} {me : M D} {fin : List D → Sto → Out D} {s : St} {H : Hp} {Q : VK} (hts : ∀ t ∈ ts, t ∈ vs)
    (hfin : ∀ H1 r1 H rh S acc accV p, rh.p = p :: r1.p → Ext H1 r1 H ⟨rh.l, r1.p⟩ → H1 p = none → Sim K ca H rh S → H p = some (.lst accV) → p ∉ rh.l → p ∉ r1.p → Reps K H rh acc accV → Ln K ca (rV K) H1 r1 (fin acc S) Q (fun c d H' => W c d s H') → Q (.ref p) H)
    (h : ∃ sd r S, Slots K H r sd s ∧ Sim K ca H r S ∧ Ln K ca (rV K) H r ((mLcL mi g vs mc me sd S).bind fin) Q (fun c d H' => W c d s H')) :
    tLc (rI K ca W mi) (rG K ca ts g) (rT K ca W0 mc) (rE K ca W0 me) vs s H Q := by
  obtain ⟨sd, r, S, hs, m, h⟩ := h
  have h' : Ln K ca (rV K) H r ((mi sd S).bind fun src S1 => (lcGo src g mc me (wipeD sd vs) src.len 0 [] S1).bind fin) Q (fun c d H' => W c d s H') := by
    unfold mLcL at h
    cases e : mi sd S <;> (rw [e] at h; exact h)
  refine ⟨sd, r, S, hs, m, h'.bind fun src S1 J H1 r1 x1 m1 hsrc h1 => ?_⟩
  intro p hp
  obtain ⟨P, stb, hP, turn⟩ := hsrc
  have hp1 : p ∉ r1.p := fun z => m1.prv p z hp
  have hl1 : p ∉ r1.l := fun z => m1.tracked z hp
  refine ⟨fun i k H => k = src.len - i ∧ i ≤ src.len ∧ ∃ rh S acc accV, rh.p = p :: r1.p ∧ Ext H1 r1 H ⟨rh.l, r1.p⟩ ∧ p ∉ rh.l ∧ H p = some (.lst accV) ∧ Sim K ca H rh S ∧ Reps K H rh acc accV ∧
      Slots K H rh (wipeD sd vs) (L2.wipe s vs) ∧ P H rh ∧ Ln K ca (rV K) H1 r1 ((lcGo src g mc me (wipeD sd vs) (src.len - i) i acc S).bind fin) Q (fun c d H' => W c d s H'),
    ⟨src.len, by simp, Nat.zero_le _, r1.hide p, S1, [], [], rfl, ⟨⟨[], by simp [Rg.hide], by simp⟩, (Ext.new (r := r1) hp).keep, (Ext.new (r := r1) hp).imm, (Ext.new (r := r1) hp).there⟩, hl1, upd_same, m1.hide hp, .nil, stb_slots.hide hp ((hs.mono x1).wipe vs), stb.hide hp hP, by simpa using h1⟩, ?_⟩
  rintro i k H ⟨rfl, hi, rh, S2, acc, accV, hrp, ex, hpl, hpa, m2, ha, hsl, hPH, hln⟩
  have hpm : p ∈ rh.p := by rw [hrp]; simp
  by_cases hlt : i < src.len
  · obtain ⟨j, hj⟩ : ∃ j, src.len - i = j + 1 := ⟨src.len - i - 1, by omega⟩
    rw [hj] at hln
    unfold lcGo at hln
    split at hln
    · exact hln.elim
    rename_i d ed
    split at hln
    · exact hln.elim
    rename_i sd1 S3 eg
    obtain ⟨go, yl⟩ := (turn H rh S2 hPH m2 i).1 d ed
    refine .inr ⟨go, fun H' => ∃ rh S acc accV, rh.p = p :: r1.p ∧ Ext H1 r1 H' ⟨rh.l, r1.p⟩ ∧ p ∉ rh.l ∧ H' p = some (.lst accV) ∧ Sim K ca H' rh S ∧ Reps K H' rh acc accV ∧
      Slots K H' rh (wipeD sd vs) (L2.wipe s vs) ∧ P H' rh ∧ Ln K ca (rV K) H1 r1 ((lcGo src g mc me (wipeD sd vs) (src.len - (i + 1)) (i + 1) acc S).bind fin) Q (fun c d H' => W c d s H'), fun H' w => ⟨src.len - (i + 1), by omega, rfl, hlt, w⟩, fun x H' y => ?_⟩
    have hj' : src.len - (i + 1) = j := by omega
    rw [hj']
    obtain ⟨x3, m3, q3⟩ := yl x H' y
    refine ⟨wipeD sd vs, rh, S2, d, sd1, S3, hsl.mono x3, m3, q3, eg, fun s4 H4 r4 x4 m4 hs4 f4 l4 => ⟨wipe_frame f4 l4 hts, ?_⟩⟩
    -- the test
    have x34 := x3.trans x4
    refine ⟨sd1, r4, S3, hs4, m4, ?_⟩
    cases ec : mc sd1 S3 with
    | bad => rw [ec] at hln; exact hln.elim
    | exc c fs S4 => rw [ec] at hln; exact hln.elim
    | ok b S4 =>
      rw [ec] at hln
      intro b' H5 r5 x5 m5 q5
      cases q5
      have x35 := x34.trans x5
      cases b with
      | false =>
        refine iteF ⟨r5, S4, acc, accV, by rw [x35.prv, hrp], ex.trans (x35.unhide _), x35.notin (ne_of_some hpa) hpl, x35.keep _ _ hpa hpl, m5, ha.mono x35, hsl.mono x35, stb.mono x35 hPH, hln⟩
      | true =>
        refine iteT ⟨sd1, r5, S4, hs4.mono x5, m5, ?_⟩
        cases ee : me sd1 S4 with
        | bad => simp only [ee] at hln; exact hln.elim
        | exc c fs S5 => simp only [ee] at hln; exact hln.elim
        | ok y S5 =>
          simp only [ee] at hln
          intro v H6 r6 x6 m6 q6
          have x36 := x35.trans x6
          split at hln
          · rename_i hz
            have hpa6 : H6 p = some (.lst accV) := x36.keep _ _ hpa hpl
            have hpm6 : p ∈ r6.p := by rw [x36.prv]; exact hpm
            have hpl6 : p ∉ r6.l := x36.notin (ne_of_some hpa) hpl
            have ha6 := ha.mono x36
            refine ⟨accV, hpa6, by rw [sizeLine_eq, ← ha6.length]; exact hz, r6, S5, acc ++ [y], accV ++ [v], by rw [x36.prv, hrp], (ex.trans (x36.unhide _)).chg hp, hpl6, upd_same, m6.chg hpa6 hpm6 hpl6, (ha6.append (.cons q6 .nil)).chg hpa6 hpm6,
              stb_slots.chg hpa6 hpm6 (hsl.mono x36), stb.chg hpa6 hpm6 (stb.mono x36 hPH), hln⟩
          · exact hln.elim
  · have e : i = src.len := by omega
    subst e
    rw [Nat.sub_self] at hln
    unfold lcGo at hln
    split at hln
    · rename_i hf
      refine .inl ⟨(turn H rh S2 hPH m2 _).2 rfl hf, ?_⟩
      exact hfin H1 r1 H rh S2 acc accV p hrp ex hp m2 hpa hpl hp1 ha hln
    · exact hln.elim
variable {elt tg iter : Expr} {ifs : List Expr} {scope : Scope} {own : List (Str × Nat)} {pos : Pos} {mi : M Src} {g : GM} {ts : List Nat} {mc : M Bool} {me : M D}
theorem mv_show {r1 rh : Rg} {p : Addr} (e : rh.p = p :: r1.p) : Mv rh ⟨rh.l, r1.p⟩ := ⟨fun _ _ h => h, fun a h1 h2 => ⟨h1, fun z => h2 (by rw [e]; exact List.mem_cons_of_mem _ z)⟩⟩
theorem mv_add {r1 rh : Rg} {p : Addr} (e : rh.p = p :: r1.p) : Mv rh ⟨rh.l ++ [p], r1.p⟩ := by
  refine ⟨fun n a h => ?_, fun a h1 h2 => ⟨fun z => ?_, fun z => h2 (by rw [e]; exact List.mem_cons_of_mem _ z)⟩⟩
  · show (rh.l ++ [p])[n]? = some a
    rw [List.getElem?_append_left (List.getElem?_eq_some_iff.mp h).1]; exact h
  · rcases List.mem_append.mp z with z | z
    · exact h1 z
    · simp at z; exact h2 (by rw [e, z]; simp)
theorem fin_val {K : PySem.W.Frag} {s : St} {Q : VK} (H1 : Hp) (r1 : Rg) (H : Hp) (rh : Rg) (S : Sto) (acc : List D) (accV : List V) (p : Addr) (e : rh.p = p :: r1.p) (ex : Ext H1 r1 H ⟨rh.l, r1.p⟩) (_ : H1 p = none) (m : Sim K ca H rh S) (hp : H p = some (.lst accV)) (hl : p ∉ rh.l) (hr : p ∉ r1.p) (ha : Reps K H rh acc accV)
    (h : Ln K ca (rV K) H1 r1 (.ok (.lst acc) S) Q (fun c d H' => W c d s H')) : Q (.ref p) H :=
  h _ H _ ex (m.move (mv_show e) rfl fun a ha => by rw [e]; exact List.mem_cons_of_mem _ ha) (.lst hp hl hr (ha.move (mv_show e)))
theorem fin_loc {K : PySem.W.Frag} {s : St} {Q : VK} (H1 : Hp) (r1 : Rg) (H : Hp) (rh : Rg) (S : Sto) (acc : List D) (accV : List V) (p : Addr) (e : rh.p = p :: r1.p) (ex : Ext H1 r1 H ⟨rh.l, r1.p⟩) (hn : H1 p = none) (m : Sim K ca H rh S) (hp : H p = some (.lst accV)) (hl : p ∉ rh.l) (hr : p ∉ r1.p) (ha : Reps K H rh acc accV)
    (h : Ln K ca (rV K) H1 r1 (.ok (.loc S.length) (S ++ [.lst acc])) Q (fun c d H' => W c d s H')) : Q (.ref p) H := by
  have hat : (rh.l ++ [p])[S.length]? = some p := by rw [← m.len, List.getElem?_append_right (Nat.le_refl _), Nat.sub_self]; rfl
  refine h _ H ⟨rh.l ++ [p], r1.p⟩ ?_ ?_ (.loc hat)
  · obtain ⟨l, e', hl'⟩ := ex.more
    refine ⟨⟨l ++ [p], ?_, fun a ha' => ?_⟩, ex.keep, ex.imm, ex.there⟩
    · have : rh.l = r1.l ++ l := by injection e'
      rw [this]; simp
    · rcases List.mem_append.mp ha' with z | z
      · exact hl' a z
      · simp at z; rw [z]; exact hn
  · refine ⟨by simp [m.len], List.nodup_append.mpr ⟨m.nd, by simp, fun a ha b hb => by simp at hb; subst hb; exact fun z => hl (z ▸ ha)⟩, fun n u hu => ?_, fun a ha => m.prv a (by rw [e]; exact List.mem_cons_of_mem _ ha)⟩
    by_cases hlt : n < S.length
    · rw [List.getElem?_append_left hlt] at hu
      obtain ⟨b, h1, h2⟩ := m.obj n u hu
      exact ⟨b, (mv_add e).at_ _ _ h1, h2.move (mv_add e)⟩
    · rw [List.getElem?_append_right (by omega)] at hu
      have hz : n - S.length = 0 := by
        have := (List.getElem?_eq_some_iff.mp hu).1
        simp at this; omega
      rw [hz] at hu
      simp at hu
      subst hu
      have hn' : n = S.length := by omega
      subst hn'
      exact ⟨p, hat, accV, hp, ha.move (mv_add e)⟩
theorem z_lc (hc : X.calm = true) (hN : X.N.Nodup) (hi : PI X tg iter (rI X.K ca W mi)) (ok : BlkOk X.N X.env.scope scope own) (hts : ∀ t ∈ ts, t ∈ own.map (·.2))
    (hg : ∀ (s : Shared) (H : Hp) (C : Addr) (cl : List (Str × Addr)) (fp : List Addr), PG (X.blk s H scope (compEnvC scope cl C X.env) fp) tg (rG X.K ca ts g)) (ht : ∀ (s : Shared) (H : Hp) (C : Addr) (cl : List (Str × Addr)) (fp : List Addr), PTs (X.blk s H scope (compEnvC scope cl C X.env) fp) ifs (rT X.K ca W0 mc))
    (he : ∀ (s : Shared) (H : Hp) (C : Addr) (cl : List (Str × Addr)) (fp : List Addr), PE (X.blk s H scope (compEnvC scope cl C X.env) fp) elt (rE X.K ca W0 me)) (hs : ∀ x, foldedSetIterable iter X.env x = pure x) :
    PE X (.ListComp elt [⟨tg, iter, ifs, 0⟩] scope pos) (rE X.K ca W (mLc mi g (own.map (·.2)) mc me)) := PE.imp (pe_lc hc hN hi ok hg ht he hs) fun s H Q h => lc_loop hts fin_val h
theorem z_lcM (hc : X.calm = true) (hN : X.N.Nodup) (hi : PI X tg iter (rI X.K ca W mi)) (ok : BlkOk X.N X.env.scope scope own) (hts : ∀ t ∈ ts, t ∈ own.map (·.2))
    (hg : ∀ (s : Shared) (H : Hp) (C : Addr) (cl : List (Str × Addr)) (fp : List Addr), PG (X.blk s H scope (compEnvC scope cl C X.env) fp) tg (rG X.K ca ts g)) (ht : ∀ (s : Shared) (H : Hp) (C : Addr) (cl : List (Str × Addr)) (fp : List Addr), PTs (X.blk s H scope (compEnvC scope cl C X.env) fp) ifs (rT X.K ca W0 mc))
    (he : ∀ (s : Shared) (H : Hp) (C : Addr) (cl : List (Str × Addr)) (fp : List Addr), PE (X.blk s H scope (compEnvC scope cl C X.env) fp) elt (rE X.K ca W0 me)) (hs : ∀ x, foldedSetIterable iter X.env x = pure x) :
    PE X (.ListComp elt [⟨tg, iter, ifs, 0⟩] scope pos) (rE X.K ca W (mLcM mi g (own.map (·.2)) mc me)) := PE.imp (pe_lc hc hN hi ok hg ht he hs) fun s H Q h => lc_loop hts fin_loc h
end
end Z

/-! Z layer, part H: statements. -/
namespace Z
open PySem PySem.Spec PyProof.Rows L2

inductive Fl where
  | nx | rt (d : D) | bk | ct
inductive OutS where
  | ok (f : Fl) (sd : Sl) (S : Sto)
  | exc (c : Nat) (fs : XF) (sd : Sl) (S : Sto)
  | bad
abbrev MS := Sl → Sto → OutS
def Out.toS {T : Type} (o : Out T) (sd : Sl) (f : T → Sto → OutS) : OutS := match o with
  | .ok a S => f a S
  | .exc c fs S => .exc c fs sd S
  | .bad => .bad

section
variable (K : PySem.W.Frag) (ca : Nat → Addr)
def LnS (H : Hp) (r : Rg) (o : OutS) (D : Ends) (W : WX) : Prop := match o with
  | .ok .nx sd S => ∀ s H' r', Ext H r H' r' → Sim K ca H' r' S → Slots K H' r' sd s → D.nx s H'
  | .ok .bk sd S => ∀ s H' r', Ext H r H' r' → Sim K ca H' r' S → Slots K H' r' sd s → D.bk s H'
  | .ok .ct sd S => ∀ s H' r', Ext H r H' r' → Sim K ca H' r' S → Slots K H' r' sd s → D.ct s H'
  | .ok (.rt d) _ S => ∀ v H' r', Ext H r H' r' → Sim K ca H' r' S → Rep K H' r' d v → D.rt v H'
  | .exc c fs sd S => ∀ cls d s H' r', Ext H r H' r' → Sim K ca H' r' S → Slots K H' r' sd s → XRep K ca H' r' c fs cls d → W cls d s H'
  | .bad => False
def rS (W : WX) (m : MS) : TS := fun D s H => ∃ sd r S, Slots K H r sd s ∧ Sim K ca H r S ∧ LnS K ca H r (m sd S) D W
end
section
variable {K : PySem.W.Frag} {ca : Nat → Addr} {H H1 : Hp} {r r1 : Rg} {D : Ends} {W : WX}
theorem LnS.ext {o : OutS} (e : Ext H r H1 r1) (h : LnS K ca H r o D W) : LnS K ca H1 r1 o D W := by
  cases o with
  | ok f sd S => cases f with
    | nx => exact fun s H' r' x => h s H' r' (e.trans x)
    | bk => exact fun s H' r' x => h s H' r' (e.trans x)
    | ct => exact fun s H' r' x => h s H' r' (e.trans x)
    | rt d => exact fun s H' r' x => h s H' r' (e.trans x)
  | exc c fs sd S => exact fun cls d s H' r' x => h cls d s H' r' (e.trans x)
  | bad => exact h
theorem LnS.bindE {T A : Type} {R : RR T A} {o : Out T} {sd : Sl} {s : St} {f : T → Sto → OutS} {Q1 : A → Hp → Prop} (hs : Slots K H r sd s) (h : LnS K ca H r (o.toS sd f) D W)
    (k : ∀ d S v H1 r1, Ext H r H1 r1 → Sim K ca H1 r1 S → R H1 r1 d v → LnS K ca H1 r1 (f d S) D W → Q1 v H1) : Ln K ca R H r o Q1 (fun c d H' => W c d s H') := by
  cases o with
  | ok d S => exact fun v H' r' x m q => k d S v H' r' x m q (LnS.ext x h)
  | exc c fs S => exact fun cls d H' r' x m q => h cls d s H' r' x m (hs.mono x) q
  | bad => exact h
theorem LnS.nx_ {sd : Sl} {S : Sto} {s : St} (h : LnS K ca H r (.ok .nx sd S) D W) (m : Sim K ca H r S) (hs : Slots K H r sd s) : D.nx s H := h s H r (Ext.refl ..) m hs
end

def mSkip : MS := fun sd S => .ok .nx sd S
def mThen (a b : MS) : MS := fun sd S => match a sd S with
  | .ok .nx sd1 S1 => b sd1 S1
  | o => o
def mExpr (a : M D) : MS := fun sd S => (a sd S).toS sd fun _ S1 => .ok .nx sd S1
def mRet (a : M D) : MS := fun sd S => (a sd S).toS sd fun d S1 => .ok (.rt d) sd S1
def mRetN : MS := fun sd S => .ok (.rt .non) sd S
def mAsg (a : M D) (g : GM) : MS := fun sd S => (a sd S).toS sd fun d S1 => match g d sd S1 with
  | some (sd2, S2) => .ok .nx sd2 S2
  | none => .bad
def mAug (i : Nat) (f : Sto → D → D → Option D) (a : M D) : MS := fun sd S => match sd[i]? with
  | some (some x) => (a sd S).toS sd fun y S1 => match f S1 x y with
    | some z => .ok .nx (sd.set i (some z)) S1
    | none => .bad
  | _ => .bad
def mIte (c : M Bool) (a b : MS) : MS := fun sd S => (c sd S).toS sd fun k S1 => if k then a sd S1 else b sd S1
def mBrk : MS := fun sd S => .ok .bk sd S
def mCnt : MS := fun sd S => .ok .ct sd S
def forGo (src : Src) (g : GM) (b : MS) : Nat → Nat → Sl → Sto → OutS
  | 0, _, sd, S => if src.fin S then .ok .nx sd S else .bad
  | k + 1, i, sd, S => match src.at S i with
    | none => .bad
    | some d => match g d sd S with
      | none => .bad
      | some (sd1, S1) => match b sd1 S1 with
        | .ok .nx sd2 S2 => forGo src g b k (i + 1) sd2 S2
        | .ok .ct sd2 S2 => forGo src g b k (i + 1) sd2 S2
        | .ok .bk sd2 S2 => .ok .nx sd2 S2
        | .ok (.rt d) sd2 S2 => .ok (.rt d) sd2 S2
        | .exc c fs sd2 S2 => .exc c fs sd2 S2
        | .bad => .bad
def mFor (mi : M Src) (g : GM) (b : MS) : MS := fun sd S => (mi sd S).toS sd fun src S1 => forGo src g b src.len 0 sd S1
def whGo (c : M Bool) (b : MS) : Nat → Sl → Sto → OutS
  | 0, _, _ => .bad
  | k + 1, sd, S => (c sd S).toS sd fun t S1 => if t then match b sd S1 with
      | .ok .nx sd2 S2 => whGo c b k sd2 S2
      | .ok .ct sd2 S2 => whGo c b k sd2 S2
      | .ok .bk sd2 S2 => .ok .nx sd2 S2
      | .ok (.rt d) sd2 S2 => .ok (.rt d) sd2 S2
      | .exc c fs sd2 S2 => .exc c fs sd2 S2
      | .bad => .bad
    else .ok .nx sd S1

section
variable {X : Cx} {ca : Nat → Addr} {W : WX} {pos : Pos}
theorem PS.imp {e : Stmt} {t t' : TS} (h : PS X e t) (i : ∀ D s H, t' D s H → t D s H) : PS X e t' := ⟨fun pins s σ H D I w => h.run pins s σ H D I (i D σ H w)⟩
theorem PSs.imp {e : List Stmt} {t t' : TS} (h : PSs X e t) (i : ∀ D s H, t' D s H → t D s H) : PSs X e t' := ⟨fun pins s σ H D I w => h.run pins s σ H D I (i D σ H w)⟩
theorem s_nil : PSs X [] (rS X.K ca W mSkip) := PSs.imp pss_nil fun D s H ⟨sd, r, S, hs, m, h⟩ => h.nx_ m hs
theorem s_cons {a : Stmt} {es : List Stmt} {m1 m2 : MS} (h1 : PS X a (rS X.K ca W m1)) (h2 : PSs X es (rS X.K ca W m2)) : PSs X (a :: es) (rS X.K ca W (mThen m1 m2)) := PSs.imp (pss_cons h1 h2) fun D s H ⟨sd, r, S, hs, m, h⟩ => by
  refine ⟨sd, r, S, hs, m, ?_⟩
  unfold mThen at h
  cases e : m1 sd S with
  | bad => rw [e] at h; exact h.elim
  | exc c fs sd1 S1 => rw [e] at h; exact h
  | ok f sd1 S1 =>
    rw [e] at h
    cases f with
    | nx => exact fun s' H' r' x m' q => ⟨sd1, r', S1, q, m', LnS.ext x h⟩
    | bk => exact h
    | ct => exact h
    | rt d => exact h
theorem s_expr {a : Expr} {ma : M D} (ha : PE X a (rE X.K ca W ma)) (hs : swapsWith a none pos.line X.env = pure false) : PS X (.Expr a pos) (rS X.K ca W (mExpr ma)) := PS.imp (ps_expr ha hs) fun D s H ⟨sd, r, S, hs, m, h⟩ =>
  ⟨sd, r, S, hs, m, LnS.bindE hs h fun d S1 v H1 r1 x1 m1 q1 h1 => h1.nx_ m1 (hs.mono x1)⟩
theorem s_doc {x : Str} {j : Nat} {p : Pos} : PS X (.Expr (.Constant (.str x) j p) pos) (rS X.K ca W mSkip) := PS.imp ps_doc fun D s H ⟨sd, r, S, hs, m, h⟩ => h.nx_ m hs
theorem s_pass : PS X (.Pass pos) (rS X.K ca W mSkip) := PS.imp ps_pass fun D s H ⟨sd, r, S, hs, m, h⟩ => h.nx_ m hs
theorem s_brk : PS X (.Break pos) (rS X.K ca W mBrk) := PS.imp ps_break fun D s H ⟨sd, r, S, hs, m, h⟩ => h s H r (Ext.refl ..) m hs
theorem s_cnt : PS X (.Continue pos) (rS X.K ca W mCnt) := PS.imp ps_continue fun D s H ⟨sd, r, S, hs, m, h⟩ => h s H r (Ext.refl ..) m hs
theorem s_ret {a : Expr} {ma : M D} (ha : PE X a (rE X.K ca W ma)) : PS X (.Return (some a) pos) (rS X.K ca W (mRet ma)) := PS.imp (ps_ret ha) fun D s H ⟨sd, r, S, hs, m, h⟩ =>
  ⟨sd, r, S, hs, m, LnS.bindE hs h fun d S1 v H1 r1 x1 m1 q1 h1 => h1 v H1 r1 (Ext.refl ..) m1 q1⟩
theorem s_retN : PS X (.Return none pos) (rS X.K ca W mRetN) := PS.imp ps_retN fun D s H ⟨sd, r, S, hs, m, h⟩ => h .non H r (Ext.refl ..) m .non
theorem asg_in {K : PySem.W.Frag} {ma : M D} {g : GM} {ts : List Nat} {D : Ends} {s : St} {sd : Sl} {H : Hp} {r : Rg} {S : Sto} (hs : Slots K H r sd s) (m : Sim K ca H r S) (h : LnS K ca H r (mAsg ma g sd S) D W) : tAsg (rE K ca W ma) (rG K ca ts g) D s H :=
  ⟨sd, r, S, hs, m, LnS.bindE hs h fun d S1 v H1 r1 x1 m1 q1 h1 => by
    split at h1
    · rename_i sd2 S2 e
      exact ⟨sd, r1, S1, d, sd2, S2, hs.mono x1, m1, q1, e, fun s' H' r' x m' hs' _ _ => h1 s' H' r' x m' hs'⟩
    · exact h1.elim⟩
theorem s_asg {tg a : Expr} {ma : M D} {g : GM} {ts : List Nat} (ha : PE X a (rE X.K ca W ma)) (hg : PG X tg (rG X.K ca ts g)) (hs : swapsWithSole [tg] a pos.line X.env = pure false) (hw : swappedStores [tg] a X.env = pure none)
    (h1 : (assignEach [tg] X.env).map (·.2) = [assign tg X.env]) : PS X (.Assign [tg] a pos) (rS X.K ca W (mAsg ma g)) := PS.imp (ps_asg ha hg hs hw h1) fun D s H ⟨sd, r, S, hs, m, h⟩ => asg_in hs m h
theorem s_aug {i : Nat} {x : Str} {a : Expr} {ma : M D} {op : Operator} {R : R2} {f : Sto → D → D → Option D} {p : Pos} (hN : X.N.Nodup) (hi : X.N[i]? = some x) (hx : Loc X.env.scope x) (ha : PE X a (rE X.K ca W ma)) (ho : OpR X (inplaceOp op) R) (hz : OpZ X.K ca R f)
    (hf : X.fn x = true ∨ X.env.scope.names.lookup x = some .local) : PS X (.AugAssign (.Name x p) op a pos) (rS X.K ca W (mAug i f ma)) := PS.imp (ps_aug hN hi hx ha ho hf) fun D s H ⟨sd, r, S, hs, m, h⟩ => by
  unfold mAug at h
  split at h
  · rename_i d e
    obtain ⟨v, h1, h2⟩ := hs.at_ i d e
    refine ⟨v, h1, sd, r, S, hs, m, LnS.bindE hs h fun y S1 u H1 r1 x1 m1 q1 h3 => ?_⟩
    split at h3
    · rename_i z e2
      exact hz m1 (h2.mono x1) q1 e2 fun w H' x' m' q' => h3 _ H' r1 x' m' (((hs.mono x1).mono x').set q')
    · exact h3.elim
  · exact h.elim
theorem s_ite {c : Expr} {a b : List Stmt} {mc : M Bool} {m1 m2 : MS} (hc : PT X c (rT X.K ca W mc)) (ha : PSs X a (rS X.K ca W m1)) (hb : PSs X b (rS X.K ca W m2)) : PS X (.If c a b pos) (rS X.K ca W (mIte mc m1 m2)) := PS.imp (ps_if hc ha hb) fun D s H ⟨sd, r, S, hs, m, h⟩ =>
  ⟨sd, r, S, hs, m, LnS.bindE hs h fun d S1 v H1 r1 x1 m1 q1 h1 => by
    cases q1
    cases d with
    | true => exact iteT ⟨sd, r1, S1, hs.mono x1, m1, h1⟩
    | false => exact iteF ⟨sd, r1, S1, hs.mono x1, m1, h1⟩⟩
theorem s_for {tg iter : Expr} {body : List Stmt} {mi : M Src} {g : GM} {ts : List Nat} {mb : MS} (hp : PassesOwn (model X.prog X.w) X.A X.env X.xe) (hc : X.calm = true) (hi : PI X tg iter (rI X.K ca W mi)) (hg : PG X tg (rG X.K ca ts g)) (hb : PSs X body (rS X.K ca W mb))
    (hs : ∀ x, foldedSetIterable iter X.env x = pure x) : PS X (.For tg iter body [] pos) (rS X.K ca W (mFor mi g mb)) := PS.imp (ps_for hp hc hi hg hb hs) fun D s H ⟨sd, r, S, hs, m, h⟩ =>
  ⟨sd, r, S, hs, m, LnS.bindE hs h fun src S1 J H1 r1 x1 m1 hsrc h1 => by
    obtain ⟨P, stb, hP, turn⟩ := hsrc
    refine ⟨fun i k s H => k = src.len - i ∧ i ≤ src.len ∧ ∃ sd r S, Slots X.K H r sd s ∧ Sim X.K ca H r S ∧ P H r ∧ LnS X.K ca H r (forGo src g mb (src.len - i) i sd S) D W, ⟨src.len, by simp, Nat.zero_le _, sd, r1, S1, hs.mono x1, m1, hP, by simpa using h1⟩, ?_⟩
    rintro i k s2 H2 ⟨rfl, hi, sd2, r2, S2, hs2, m2, hP2, h2⟩
    by_cases hlt : i < src.len
    · obtain ⟨j, hj⟩ : ∃ j, src.len - i = j + 1 := ⟨src.len - i - 1, by omega⟩
      rw [hj] at h2
      unfold forGo at h2
      split at h2
      · exact h2.elim
      rename_i d ed
      split at h2
      · exact h2.elim
      rename_i sd3 S3 eg
      obtain ⟨go, yl⟩ := (turn H2 r2 S2 hP2 m2 i).1 d ed
      refine .inr ⟨go, fun s' H' => ∃ sd r S, Slots X.K H' r sd s' ∧ Sim X.K ca H' r S ∧ P H' r ∧ LnS X.K ca H' r (forGo src g mb (src.len - (i + 1)) (i + 1) sd S) D W, fun s' H' w => ⟨src.len - (i + 1), by omega, rfl, hlt, w⟩, fun x H' y => ?_⟩
      have hj' : src.len - (i + 1) = j := by omega
      rw [hj']
      obtain ⟨x3, m3, q3⟩ := yl x H' y
      refine ⟨sd2, r2, S2, d, sd3, S3, hs2.mono x3, m3, q3, eg, fun s4 H4 r4 x4 m4 hs4 f4 l4 => ⟨sd3, r4, S3, hs4, m4, ?_⟩⟩
      have x34 := x3.trans x4
      cases eb : mb sd3 S3 with
      | bad => rw [eb] at h2; exact h2.elim
      | exc c fs sd5 S5 => rw [eb] at h2; exact LnS.ext x34 h2
      | ok f sd5 S5 =>
        rw [eb] at h2
        cases f with
        | nx => exact fun s5 H5 r5 x5 m5 hs5 => ⟨sd5, r5, S5, hs5, m5, stb.mono (x34.trans x5) hP2, LnS.ext (x34.trans x5) h2⟩
        | ct => exact fun s5 H5 r5 x5 m5 hs5 => ⟨sd5, r5, S5, hs5, m5, stb.mono (x34.trans x5) hP2, LnS.ext (x34.trans x5) h2⟩
        | bk => exact fun s5 H5 r5 x5 m5 hs5 => h2 s5 H5 r5 (x34.trans x5) m5 hs5
        | rt d => exact fun v H5 r5 x5 m5 q5 => h2 v H5 r5 (x34.trans x5) m5 q5
    · have e : i = src.len := by omega
      subst e
      rw [Nat.sub_self] at h2
      unfold forGo at h2
      split at h2
      · rename_i hf
        exact .inl ⟨(turn H2 r2 S2 hP2 m2 _).2 rfl hf, h2.nx_ m2 hs2⟩
      · exact h2.elim⟩
theorem s_whl {c : Expr} {body : List Stmt} {mc : M Bool} {mb : MS} {k : Nat} (hp : PassesOwn (model X.prog X.w) X.A X.env X.xe) (hc : PT X c (rT X.K ca W mc)) (hb : PSs X body (rS X.K ca W mb)) :
    PS X (.While c body [] pos) (rS X.K ca W (whGo mc mb k)) := PS.imp (ps_while hp hc hb) fun D s H ⟨sd, r, S, hs, m, h⟩ => by
  refine ⟨fun k s H => ∃ sd r S, Slots X.K H r sd s ∧ Sim X.K ca H r S ∧ LnS X.K ca H r (whGo mc mb k sd S) D W, ⟨k, sd, r, S, hs, m, h⟩, ?_⟩
  rintro k s2 H2 ⟨sd2, r2, S2, hs2, m2, h2⟩
  cases k with
  | zero => exact h2.elim
  | succ k =>
    unfold whGo at h2
    refine ⟨sd2, r2, S2, hs2, m2, LnS.bindE hs2 h2 fun t S3 v H3 r3 x3 m3 q3 h3 => ?_⟩
    cases q3
    cases t with
    | false => exact iteF (h3.nx_ m3 (hs2.mono x3))
    | true =>
      refine iteT ⟨fun s' H' => ∃ sd r S, Slots X.K H' r sd s' ∧ Sim X.K ca H' r S ∧ LnS X.K ca H' r (whGo mc mb k sd S) D W, fun s' H' w => ⟨k, Nat.lt_succ_self _, w⟩, sd2, r3, S3, hs2.mono x3, m3, ?_⟩
      simp only [↓reduceIte] at h3
      cases eb : mb sd2 S3 with
      | bad => rw [eb] at h3; exact h3.elim
      | exc c fs sd5 S5 => rw [eb] at h3; exact h3
      | ok f sd5 S5 =>
        rw [eb] at h3
        cases f with
        | nx => exact fun s5 H5 r5 x5 m5 hs5 => ⟨sd5, r5, S5, hs5, m5, LnS.ext x5 h3⟩
        | ct => exact fun s5 H5 r5 x5 m5 hs5 => ⟨sd5, r5, S5, hs5, m5, LnS.ext x5 h3⟩
        | bk => exact fun s5 H5 r5 x5 m5 hs5 => h3 s5 H5 r5 x5 m5 hs5
        | rt d => exact fun v H5 r5 x5 m5 q5 => h3 v H5 r5 x5 m5 q5
end
end Z

/-! Z layer, part I: assignments of other forms, list methods, calls of defs. -/
namespace Z
open PySem PySem.Spec PyProof.Rows L2

/-! ### o[i] = v -/
def gSubM (mo mi : M D) : GM := fun d sd S => match mo sd S with
  | .ok (.loc n) S1 => match mi sd S1 with
    | .ok (.int k) S2 => match S2[n]? with
      | some (.lst xs) => match ixN xs.length k with
        | some j => some (sd, S2.set n (.lst (xs.set j d)))
        | none => none
      | _ => none
    | _ => none
  | _ => none
section
variable {X : Cx} {ca : Nat → Addr} {W : WX} {pos : Pos}
theorem z_gsub {o i : Expr} {mo mi : M D} (ho : PE X o (rE X.K ca W mo)) (hi : PE X i (rE X.K ca W mi))
    (ha : ∀ v, assign (.Subscript o i pos) X.env v = (do
      let ov ← holding [v] (eval o X.env)
      let iv ← holding [v, ov] (eval i X.env)
      standAt pos
      holding [v, ov, iv] (setItem ov iv v)
      release [v, ov, iv] [])) : PG X (.Subscript o i pos) (rG X.K ca [] (gSubM mo mi)) := PG.imp (pg_sub ho hi set_list ha) fun v s H Q ⟨sd, r, S, d, sd', S', hs, m, q, e, k⟩ => by
  unfold gSubM at e
  split at e
  · rename_i n S1 e1
    split at e
    · rename_i ki S2 e2
      split at e
      · rename_i xs e3
        split at e
        · rename_i j e4
          cases e
          refine ⟨sd, r, S, hs, m, ?_⟩
          rw [e1]
          intro v1 H1 r1 x1 m1 q1
          refine ⟨sd, r1, S1, hs.mono x1, m1, ?_⟩
          rw [e2]
          intro v2 H2 r2 x2 m2 q2
          cases q2
          obtain ⟨a, rfl, h1, vs, h2, h3⟩ := m2.loc (q1.mono x2) e3
          refine ⟨a, vs, ki, j, rfl, rfl, h2, by rw [← h3.length]; exact e4, ?_⟩
          have ex : Ext H2 r2 (upd H2 a (.lst (vs.set j v))) r2 := m2.writeExt h1
          have q' := q.mono (x1.trans x2)
          refine k s _ r2 ((x1.trans x2).trans ex) (m2.write h1 ⟨vs.set j v, upd_same, (h3.mono ex).set (q'.mono ex) j⟩) ((hs.mono (x1.trans x2)).mono ex) (fun _ _ => rfl) rfl
        · cases e
      · cases e
    · cases e
  · cases e
end

/-! ### xs.append(y), xs.extend(ys) -/
def mApp (o : M D) (a : M (List D)) : M D := fun sd S => (o sd S).bind fun x S1 => match x with
  | .loc n => match S1[n]? with
    | some (.lst _) => (a sd S1).bind fun ys S2 => match ys, S2[n]? with
      | [y], some (.lst xs) => if xs.length < 16777216 then .ok .non (S2.set n (.lst (xs ++ [y]))) else .bad
      | _, _ => .bad
    | _ => .bad
  | _ => .bad
def mExt (o : M D) (a : M (List D)) : M D := fun sd S => (o sd S).bind fun x S1 => match x with
  | .loc n => match S1[n]? with
    | some (.lst _) => (a sd S1).bind fun ys S2 => match ys, S2[n]? with
      | [y], some (.lst xs) => match asL S2 y with
        | some zs => if xs.length + zs.length ≤ 16777216 then .ok .non (S2.set n (.lst (xs ++ zs))) else .bad
        | none => .bad
      | _, _ => .bad
    | _ => .bad
  | _ => .bad
section
variable {X : Cx} {ca : Nat → Addr} {W : WX}
theorem app_in {K : PySem.W.Frag} {mo : M D} {ml : M (List D)} {s : St} {H : Hp} {Q : VK} (h : rE K ca W (mApp mo ml) s H Q) : tBM K "list" rAppend (rE K ca W mo) (rA K ca W ml) s H Q := by
  obtain ⟨sd, r, S, hs, m, h⟩ := h
  refine ⟨sd, r, S, hs, m, h.bind fun d1 S1 v1 H1 r1 x1 m1 q1 h1 => ?_⟩
  split at h1
  · rename_i n
    split at h1
    · rename_i xs0 e0
      obtain ⟨a, rfl, ha, vs0, hv0, _⟩ := m1.loc q1 e0
      refine ⟨.inl ⟨rfl, vs0, .of hv0⟩, sd, r1, S1, hs.mono x1, m1, h1.bind fun ys S2 vs H2 r2 x2 m2 q2 h2 => ?_⟩
      split at h2
      · rename_i y xs e2
        split at h2
        · rename_i hl
          obtain ⟨b, hb, hb2, us, hu, hru⟩ := m2.loc (q1.mono x2) e2
          cases hb
          cases q2 with
          | @cons _ _ vy _ qy qn =>
            cases qn
            refine ⟨a, us, vy, rfl, rfl, hu, by rw [sizeLine_eq, ← hru.length]; exact hl, ?_⟩
            have ex := m2.writeExt (o := .lst (us ++ [vy])) hb2
            exact h2 _ _ r2 ex (m2.write hb2 ⟨_, upd_same, (hru.mono ex).append (.cons (qy.mono ex) .nil)⟩) .non
        · exact h2.elim
      · exact h2.elim
    · exact h1.elim
  · exact h1.elim
theorem ext_in {K : PySem.W.Frag} {mo : M D} {ml : M (List D)} {s : St} {H : Hp} {Q : VK} (h : rE K ca W (mExt mo ml) s H Q) : tBM K "list" rExtend (rE K ca W mo) (rA K ca W ml) s H Q := by
  obtain ⟨sd, r, S, hs, m, h⟩ := h
  refine ⟨sd, r, S, hs, m, h.bind fun d1 S1 v1 H1 r1 x1 m1 q1 h1 => ?_⟩
  split at h1
  · rename_i n
    split at h1
    · rename_i xs0 e0
      obtain ⟨a, rfl, ha, vs0, hv0, _⟩ := m1.loc q1 e0
      refine ⟨.inl ⟨rfl, vs0, .of hv0⟩, sd, r1, S1, hs.mono x1, m1, h1.bind fun ys S2 vs H2 r2 x2 m2 q2 h2 => ?_⟩
      split at h2
      · rename_i y xs e2
        split at h2
        · rename_i zs e3
          split at h2
          · rename_i hl
            obtain ⟨b, hb, hb2, us, hu, hru⟩ := m2.loc (q1.mono x2) e2
            cases hb
            cases q2 with
            | cons qy qn =>
              cases qn
              obtain ⟨c, ws, rfl, hc, hrw⟩ := asL_rep m2 qy e3
              refine ⟨a, c, us, ws, rfl, rfl, hu, hc, by rw [sizeLine_eq, ← hru.length, ← hrw.length]; exact hl, ?_⟩
              have ex := m2.writeExt (o := .lst (us ++ ws)) hb2
              exact h2 _ _ r2 ex (m2.write hb2 ⟨_, upd_same, (hru.mono ex).append (hrw.mono ex)⟩) .non
          · exact h2.elim
        · exact h2.elim
      · exact h2.elim
    · exact h1.elim
  · exact h1.elim
end

/-! ### y = [..]; a, b = x, y -/
def mPar (is : List Nat) (a : M (List D)) : MS := fun sd S => (a sd S).toS sd fun ds S1 => match is, ds with
  | [i, j], [x, y] => .ok .nx ((sd.set i (some x)).set j (some y)) S1
  | [i, j, l], [x, y, z] => .ok .nx (((sd.set i (some x)).set j (some y)).set l (some z)) S1
  | _, _ => .bad
section
variable {X : Cx} {ca : Nat → Addr} {W : WX} {pos : Pos}
theorem par_in {K : PySem.W.Frag} {i j : Nat} {ml : M (List D)} {D : Ends} {s : St} {H : Hp} (h : rS K ca W (mPar [i, j] ml) D s H) : tPar i j (rA K ca W ml) D s H := by
  obtain ⟨sd, r, S, hs, m, h⟩ := h
  refine ⟨sd, r, S, hs, m, LnS.bindE hs h fun ds S1 vs H1 r1 x1 m1 q1 h1 => ?_⟩
  split at h1
  · rename_i i' j' x y e1
    cases e1
    cases q1 with
    | cons qx q =>
      cases q with
      | cons qy q =>
        cases q
        exact ⟨_, _, rfl, h1.nx_ m1 (((hs.mono x1).set qx).set qy)⟩
  · rename_i e1; cases e1
  · exact h1.elim
theorem par3_in {K : PySem.W.Frag} {i j l : Nat} {ml : M (List D)} {D : Ends} {s : St} {H : Hp} (h : rS K ca W (mPar [i, j, l] ml) D s H) : tPar3 i j l (rA K ca W ml) D s H := by
  obtain ⟨sd, r, S, hs, m, h⟩ := h
  refine ⟨sd, r, S, hs, m, LnS.bindE hs h fun ds S1 vs H1 r1 x1 m1 q1 h1 => ?_⟩
  split at h1
  · rename_i e1; cases e1
  · rename_i i' j' l' x y z e1
    cases e1
    cases q1 with
    | cons qx q =>
      cases q with
      | cons qy q =>
        cases q with
        | cons qz q =>
          cases q
          exact ⟨_, _, _, rfl, h1.nx_ m1 ((((hs.mono x1).set qx).set qy).set qz)⟩
  · exact h1.elim
variable {elt tg iter : Expr} {ifs : List Expr} {scope : Scope} {own : List (Str × Nat)} {mi : M Src} {g : GM} {ts : List Nat} {mc : M Bool} {me : M D} {i : Nat} {y : Str} {py spos : Pos}
theorem setLc_in {K : PySem.W.Frag} {vs : List Nat} {fin : List D → Sto → Out D} (hts : ∀ t ∈ ts, t ∈ vs) {D : Ends} {s : St} {H : Hp}
    (hfin : ∀ (Q : VK) H1 r1 H rh S acc accV p, rh.p = p :: r1.p → Ext H1 r1 H ⟨rh.l, r1.p⟩ → H1 p = none → Sim K ca H rh S → H p = some (.lst accV) → p ∉ rh.l → p ∉ r1.p → Reps K H rh acc accV → Ln K ca (rV K) H1 r1 (fin acc S) Q (fun c d H' => W c d s H') → Q (.ref p) H)
    (h : rS K ca W (mAsg (fun sd S => (mLcL mi g vs mc me sd S).bind fin) (gNm i)) D s H) : tAsg (tLc (rI K ca W mi) (rG K ca ts g) (rT K ca W0 mc) (rE K ca W0 me) vs) (gName i) D s H := by
  obtain ⟨sd, r, S, hs, m, h⟩ := h
  refine lc_loop (fin := fin) hts (hfin _) ⟨sd, r, S, hs, m, LnS.bindE hs h fun d S1 v H1 r1 x1 m1 q1 h1 => ?_⟩
  exact h1.nx_ m1 ((hs.mono x1).set q1)
theorem s_setLc (mt : Bool) (hc : X.calm = true) (hN : X.N.Nodup) (hy : X.N[i]? = some y) (hyl : X.env.scope.names.lookup y = some .local)
    (hsw : swapsWith (.ListComp elt [⟨tg, iter, ifs, 0⟩] scope pos) (some (.Name y py)) spos.line X.env = pure true) (hi : PI X tg iter (rI X.K ca W mi)) (ok : BlkOk X.N X.env.scope scope own) (hts : ∀ t ∈ ts, t ∈ own.map (·.2))
    (hg : ∀ (s : Shared) (H : Hp) (C : Addr) (cl : List (Str × Addr)) (fp : List Addr), PG (X.blk s H scope (compEnvC scope cl C X.env) fp) tg (rG X.K ca ts g)) (ht : ∀ (s : Shared) (H : Hp) (C : Addr) (cl : List (Str × Addr)) (fp : List Addr), PTs (X.blk s H scope (compEnvC scope cl C X.env) fp) ifs (rT X.K ca W0 mc))
    (he : ∀ (s : Shared) (H : Hp) (C : Addr) (cl : List (Str × Addr)) (fp : List Addr), PE (X.blk s H scope (compEnvC scope cl C X.env) fp) elt (rE X.K ca W0 me)) (hs : ∀ x, foldedSetIterable iter X.env x = pure x) :
    PS X (.Assign [.Name y py] (.ListComp elt [⟨tg, iter, ifs, 0⟩] scope pos) spos) (rS X.K ca W (mAsg (if mt then mLcM mi g (own.map (·.2)) mc me else mLc mi g (own.map (·.2)) mc me) (gNm i))) := PS.imp (ps_setLc hc hN hy hyl hsw hi ok hg ht he hs) fun D s H h => by
  cases mt with
  | false => exact setLc_in hts (fun _ => fin_val) h
  | true => exact setLc_in hts (fun _ => fin_loc) h
end

/-! ### defs: as HandS's FnOk, where no repr is running around -/
structure FnZ (P : Program) (w : World) (K : PySem.W.Frag) (mg : Str → Option Value) (base : Heap) (k : Nat) (f : Addr) (fd : FuncData) (ps : List Str) (sp : Sp) : Prop where
  len : ∀ vs H Q E, sp vs H Q E → vs.length = ps.length
  run : ∀ (A : Around) (outer : List Env) (s : Shared) (H : Hp) (args : Args) (us : List Value) (vs : List V) (Q : VK) (E : XK), Room k A → A.guards = some [] →
    Env0 P w K mg base A outer s H → BindsTo s fd args (ps.zip us) → Vals vs us → sp vs H Q E → codeAny (model P w) A (.call (.ref f) args) (CR (L2.CX P w) outer P w H s Q E) s
section
variable {X : Cx} {k : Nat} {f : Addr} {fd : FuncData} {ps : List Str} {sp : Sp} {W : WX} {x : Str} {p pos : Pos} {e : Expr} {es : List Expr} {t : TA}
theorem run_fnZ {pins : List (Addr × Obj)} {σ : L2.St} {H : Hp} {s : Shared} {Q : VK} {us : List Value} {vs : List V} (F : FnZ X.prog X.w X.K X.mg X.base k f fd ps sp) (room : Room k X.A) (gd : X.A.guards = some []) (bn : Binds X.K fd ps []) (tk : Takes X W)
    (I : Inv X pins σ H s) (rv : Vals vs us) (h : sp vs H Q (WE W σ)) : wpAny (model X.prog X.w) X.A (call (.ref f) us) (EP X pins σ Q) X.xe s := by
  have n : us.length = ps.length := rv.length.symm.trans (F.len _ _ _ _ h)
  have bt : BindsTo s fd ⟨us, []⟩ (ps.zip us) := by simpa using bn s us I.kIn (by simpa using n)
  refine wpAny_call (codeAny_mono (F.run X.A X.stack s H ⟨us, []⟩ us vs Q (WE W σ) room gd I.env0 bt rv h) fun res s' hres => ?_)
  match res, hres with
  | .error x, hres => exact passAt tk σ pins H s x s' I hres
  | .ok (.ret u), hres => exact I.after hres
  | .ok .next, hres => exact False.elim hres
  | .ok .brk, hres => exact False.elim hres
  | .ok .cont, hres => exact False.elim hres
theorem pe_callZ (F : FnZ X.prog X.w X.K X.mg X.base k f fd ps sp) (room : Room k X.A) (gd : X.A.guards = some []) (hg : Gl X x) (hm : X.mg x = some (.ref f)) (kp : PySem.W.keepIn X.K (.ref f) = true) (bn : Binds X.K fd ps []) (tk : Takes X W)
    (ha : PA X (e :: es) t) (hdb : (x == ("__debug__" : Str)) = false) (he : starEach (e :: es) X.env = (false, eval e X.env) :: starEach es X.env) (hpl : (backTo pos (starEach es X.env)).any (·.1) = false) :
    PE X (.Call (.Name x p) (e :: es) [] pos) (tCallS sp (WE W) t) := ⟨fun pins s σ H Q I h => wpAny_Call_Name_kw (ld_glob I hg hm (PySem.W.callWith_K (h₀ := X.base) I.ok.mod.kin kp
      (thn (ha.run pos pins s σ H _ I h) fun us s1 ⟨vs, H1, I1, rv, q⟩ => ⟨I1.kIn, run_fnZ F room gd bn tk I1 rv q⟩) he hpl) hdb)⟩
theorem pe_callZ0 (F : FnZ X.prog X.w X.K X.mg X.base k f fd ps sp) (room : Room k X.A) (gd : X.A.guards = some []) (hg : Gl X x) (hm : X.mg x = some (.ref f)) (kp : PySem.W.keepIn X.K (.ref f) = true) (bn : Binds X.K fd ps []) (tk : Takes X W)
    (hdb : (x == ("__debug__" : Str)) = false) : PE X (.Call (.Name x p) [] [] pos) (tCallS sp (WE W) tNil) :=
  ⟨fun pins s σ H Q I h => wpAny_Call_Name_kw (ld_glob I hg hm (PySem.W.callWith_K0 I.kIn kp (run_fnZ (us := []) F room gd bn tk I .nil h)) hdb)⟩
end
/-- what a def of the program promises: that it comes to what the plain function says -/
def spOf (K : PySem.W.Frag) (ca : Nat → Addr) (n : Nat) (m : List D → Sto → Out D) : Sp := fun vs H Q E => vs.length = n ∧ ∃ ds r S, Reps K H r ds vs ∧ Sim K ca H r S ∧ Ln K ca (rV K) H r (m ds S) Q E
def mFn (f : List D → Sto → Out D) (a : M (List D)) : M D := fun sd S => (a sd S).bind fun xs S1 => f xs S1
section
variable {X : Cx} {ca : Nat → Addr} {k n : Nat} {f : Addr} {fd : FuncData} {ps : List Str} {W : WX} {x : Str} {p pos : Pos} {e : Expr} {es : List Expr} {ml : M (List D)} {m : List D → Sto → Out D}
theorem fn_in {K : PySem.W.Frag} {s : St} {H : Hp} {Q : VK} (hn : ∀ sd S ds S1, ml sd S = .ok ds S1 → ds.length = n) (h : rE K ca W (mFn m ml) s H Q) : tCallS (spOf K ca n m) (WE W) (rA K ca W ml) s H Q := by
  obtain ⟨sd, r, S, hs, mm, h⟩ := h
  refine ⟨sd, r, S, hs, mm, ?_⟩
  unfold mFn at h
  cases e1 : ml sd S with
  | bad => rw [e1] at h; exact h.elim
  | exc c fs S1 => rw [e1] at h; exact h
  | ok ds S1 =>
    rw [e1] at h
    intro vs H1 r1 x1 m1 q1
    exact ⟨by rw [← q1.length]; exact hn sd S ds S1 e1, ds, r1, S1, q1, m1, Ln.ext x1 h⟩
end
end Z

/-! Z layer, part J: the programs that are read: expressions. -/
namespace Z
open PySem PySem.Spec PyProof.Rows L2

inductive Bf where
  | len | abs | int | str | tup | lst | max2 | min2 | repr
mutual
inductive E where
  | v (i : Nat) | c (d : D) | g (j : Nat)
  | op (o : Operator) (a b : E) | neg (a : E)
  | cmp (o : CmpOp) (a b : E) | ch (o o' : CmpOp) (a b c : E)
  | bo (o : BoolOp) (es : Es) | not (a : E) | ifx (t : Tt) (a b : E)
  | tup (es : Es) | lst (mt : Bool) (es : Es)
  | ix (a b : E) | sl (a : E) (lo hi : Oe)
  | call (f : Nat) (es : Es) | bf (f : Bf) (es : Es) | isi (a : E) (t : Ty)
  | app (o : E) (es : Es) | ext (o : E) (es : Es)
  | lc (mt : Bool) (t : Tg) (it : It) (c : Ot) (e : E) (own : List (Str × Nat))
inductive Es where
  | nil | cons (e : E) (es : Es)
inductive Oe where
  | none | some (e : E)
inductive Tt where
  | bo (o : BoolOp) (ts : Tts) | not (a : Tt) | cmp (o : CmpOp) (a b : E) | ch (o o' : CmpOp) (a b c : E) | tru (e : E)
inductive Tts where
  | nil | cons (t : Tt) (ts : Tts)
inductive Ot where
  | none | some (t : Tt)
inductive Tg where
  | nm (i : Nat) | tup (ts : Tgs) | sub (o i : E)
inductive Tgs where
  | nil | cons (t : Tg) (ts : Tgs)
inductive It where
  | seq (e : E) | rng1 (a : Es) | rng2 (a : Es)
end

/-! ### what it means -/
def opF : Operator → Sto → D → D → Option D
  | .Add => addP
  | .Sub => intP subI
  | .Mult => mulP
  | .FloorDiv => intP fdivI
  | .Mod => intP modI
  | .Pow => intP powI
  | _ => fun _ _ _ => none
def cmpF : CmpOp → Sto → D → D → Option D
  | .Eq => eqD
  | .NotEq => neD
  | .Lt => cmpI fun i j => decide (i < j)
  | .LtE => cmpI fun i j => decide (i ≤ j)
  | .Gt => cmpI fun i j => decide (j < i)
  | .GtE => cmpI fun i j => decide (j ≤ i)
  | .Is => isNP false
  | .IsNot => isNP true
  | .In => inD
  | .NotIn => notInD
def bfF : Bf → Sto → List D → Option D
  | .len => call1 lenD
  | .abs => call1 absD
  | .int => call1 intD
  | .str => call1 strD
  | .tup => call1 tupD
  | .lst => call1 lstD
  | .max2 => max2D
  | .min2 => min2D
  | .repr => call1 reprD
def negD (x : D) : Option D := match x with
  | .int i => some (.int (-i))
  | _ => none
def mNeg (a : M D) : M D := fun sd S => (a sd S).bind fun x S1 => lift (negD x) S1
def mYes : M Bool := fun _ S => .ok true S
def mG (G : List D) (j : Nat) : M D := fun _ S => lift G[j]? S
mutual
def tgSl : Tg → List Nat
  | .nm i => [i]
  | .tup ts => tgsSl ts
  | .sub _ _ => []
def tgsSl : Tgs → List Nat
  | .nil => []
  | .cons t ts => tgSl t ++ tgsSl ts
end
def tgsLen : Tgs → Nat
  | .nil => 0
  | .cons _ ts => tgsLen ts + 1
section
variable (G : List D) (C : Nat → List D → Sto → Out D)
mutual
def dE : E → M D
  | .v i => mVar i
  | .c d => mC d
  | .g j => mG G j
  | .op o a b => mBin (opF o) (dE a) (dE b)
  | .neg a => mNeg (dE a)
  | .cmp o a b => mBin (cmpF o) (dE a) (dE b)
  | .ch o o' a b c => mChain (cmpF o) (cmpF o') (dE a) (dE b) (dE c)
  | .bo o es => dB o es
  | .not a => mNot (dE a)
  | .ifx t a b => mIf (dT t) (dE a) (dE b)
  | .tup es => mTup (dL es)
  | .lst mt es => if mt then mLstM (dL es) else mLst (dL es)
  | .ix a b => mBin ixP (dE a) (dE b)
  | .sl a lo hi => mSl (dE a) (dO lo) (dO hi)
  | .call f es => mFn (C f) (dL es)
  | .bf f es => mCall (bfF f) (dL es)
  | .isi a t => mIsi (dE a) t
  | .app o es => mApp (dE o) (dL es)
  | .ext o es => mExt (dE o) (dL es)
  | .lc mt t it c e own => if mt then mLcM (dI it) (dG t) (own.map (·.2)) (dC c) (dE e) else mLc (dI it) (dG t) (own.map (·.2)) (dC c) (dE e)
def dL : Es → M (List D)
  | .nil => mNil
  | .cons e es => mCons (dE e) (dL es)
def dB (o : BoolOp) : Es → M D
  | .nil => fun _ _ => .bad
  | .cons e es => match es with
    | .nil => dE e
    | .cons _ _ => match o with
      | .And => mAnd (dE e) (dB o es)
      | .Or => mOr (dE e) (dB o es)
def dO : Oe → M (Option Int)
  | .none => mNo
  | .some e => mPart (dE e)
def dT : Tt → M Bool
  | .bo o ts => dTB o ts
  | .not a => mNotT (dT a)
  | .cmp o a b => mBl (mBin (cmpF o) (dE a) (dE b))
  | .ch o o' a b c => mBl (mChain (cmpF o) (cmpF o') (dE a) (dE b) (dE c))
  | .tru e => mTru (dE e)
def dTB (o : BoolOp) : Tts → M Bool
  | .nil => fun _ _ => .bad
  | .cons t ts => match ts with
    | .nil => dT t
    | .cons _ _ => match o with
      | .And => mAndT (dT t) (dTB o ts)
      | .Or => mOrT (dT t) (dTB o ts)
def dC : Ot → M Bool
  | .none => mYes
  | .some t => dT t
def dG : Tg → GM
  | .nm i => gNm i
  | .tup ts => gTp (tgsLen ts) (dGs ts)
  | .sub o i => gSubM (dE o) (dE i)
def dGs : Tgs → List D → Sl → Sto → Option (Sl × Sto)
  | .nil => gsNil
  | .cons t ts => gsCons (dG t) (dGs ts)
def dI : It → M Src
  | .seq e => mSeq (dE e)
  | .rng1 a => mRng rng1 (dL a)
  | .rng2 a => mRng rng2 (dL a)
end
end

/-! ### that it is what the text says -/
structure Tab where
  fns : List (Str × Nat)
  gl : List (Str × D)
def Tab.G (C : Tab) : List D := C.gl.map (·.2)
def nmIs (y : Str) (s : String) : Bool := decide (y = Str.ofString s)
def dbgN (y : Str) : Bool := !(y == ("__debug__" : Str)) && !(y == ("__classdict__" : Str)) && !(y == ("__name__" : Str))
def visN (sc : Scope) (y : Str) : Bool := match sc.names.lookup y with
  | some .local => true
  | some .cell => true
  | some .free => true
  | _ => false
def gloN (sc : Scope) (y : Str) : Bool := decide (sc.names.lookup y = some .globalImplicit)
/-- a name that may be stored: a local; at a def's own level a cell too -/
def stoN (fl : Bool) (sc : Scope) (y : Str) : Bool := match sc.names.lookup y with
  | some .local => true
  | some .cell => fl
  | _ => false
def bfN : Bf → String
  | .len => "len" | .abs => "abs" | .int => "int" | .str => "str" | .tup => "tuple" | .lst => "list" | .max2 => "max" | .min2 => "min" | .repr => "repr"
def bfTy : Bf → Bool
  | .int => true | .str => true | .tup => true | .lst => true | _ => false
/-- no star, no slice, no set display, no comprehension but a list's .. -/
def okX : Expr → Bool
  | .Name .. => true | .Constant .. => true | .BinOp .. => true | .UnaryOp .. => true | .Compare .. => true | .BoolOp .. => true | .IfExp .. => true
  | .Tuple .. => true | .List .. => true | .Subscript .. => true | .Call .. => true | .ListComp .. => true | .Attribute .. => true | .JoinedStr .. => true
  | _ => false
/-- its truth is its value's -/
def okTru : Expr → Bool
  | .Name .. => true | .Constant .. => true | .BinOp .. => true | .Tuple .. => true | .List .. => true | .Subscript .. => true | .Call .. => true | .Attribute .. => true
  | _ => false
def noCall : Expr → Bool
  | .Name .. => true | .Subscript .. => true | .Attribute .. => true | .Constant .. => true
  | _ => false
def okOp : Operator → Bool
  | .Add => true | .Sub => true | .Mult => true | .FloorDiv => true | .Mod => true | .Pow => true | _ => false
def cEq (d : D) (k : Const) : Bool := match d, k with
  | .int i, .int j => decide (i = j)
  | .str i, .str j => decide (i = j)
  | .bl i, .bool j => decide (i = j)
  | .non, .none => true
  | _, _ => false
section
variable (C : Tab) (N : List Str)
mutual
def chkE (fl : Bool) (sc : Scope) : E → Expr → Bool
  | .v i, x => match x with
    | .Name y _ => decide (N[i]? = some y) && visN sc y && dbgN y
    | _ => false
  | .c d, x => match x with
    | .Constant k _ _ => cEq d k
    | _ => false
  | .g j, x => match x with
    | .Name y _ => (match C.gl[j]? with | some (z, _) => decide (z = y) | none => false) && gloN sc y && dbgN y
    | _ => false
  | .op o a b, x => match x with
    | .BinOp l o' r _ => decide (o = o') && okOp o && chkE fl sc a l && chkE fl sc b r
    | _ => false
  | .neg a, x => match x with
    | .UnaryOp .USub l _ => chkE fl sc a l
    | _ => false
  | .cmp o a b, x => match x with
    | .Compare l [o'] [r] _ => decide (o = o') && chkE fl sc a l && chkE fl sc b r
    | _ => false
  | .ch o1 o2 a b c, x => match x with
    | .Compare l [p1, p2] [r, t] _ => decide (o1 = p1) && decide (o2 = p2) && chkE fl sc a l && chkE fl sc b r && chkE fl sc c t
    | _ => false
  | .bo o es, x => match x with
    | .BoolOp o' l _ => decide (o = o') && chkL fl sc es l
    | _ => false
  | .not a, x => match x with
    | .UnaryOp .Not l _ => chkE fl sc a l
    | _ => false
  | .ifx t a b, x => match x with
    | .IfExp c l r _ => chkT fl sc t c && chkE fl sc a l && chkE fl sc b r
    | _ => false
  | .tup es, x => match x with
    | .Tuple l _ _ => chkL fl sc es l
    | _ => false
  | .lst _ es, x => match x with
    | .List l _ => chkL fl sc es l
    | _ => false
  | .ix a b, x => match x with
    | .Subscript l r _ => chkE fl sc a l && chkE fl sc b r
    | _ => false
  | .sl a lo hi, x => match x with
    | .Subscript l (.Slice p q none _) _ => chkE fl sc a l && chkO fl sc lo p && chkO fl sc hi q
    | _ => false
  | .call f es, x => match x with
    | .Call (.Name y _) l [] _ => (match C.fns[f]? with | some (z, n) => decide (z = y) && decide (l.length = n) | none => false) && gloN sc y && dbgN y && chkL fl sc es l
    | _ => false
  | .bf f es, x => match x with
    | .Call (.Name y _) (l :: ls) [] _ => nmIs y (bfN f) && gloN sc y && chkL fl sc es (l :: ls)
    | _ => false
  | .isi a t, x => match x with
    | .Call (.Name y _) [l, .Name z _] [] _ => nmIs y "isinstance" && nmIs z t.nm && gloN sc y && gloN sc z && chkE fl sc a l
    | _ => false
  | .app o es, x => match x with
    | .Call (.Attribute l m ap) [y] [] cp => nmIs m "append" && noCall l && (ap.endLine == cp.line) && chkE fl sc o l && chkL fl sc es [y]
    | _ => false
  | .ext o es, x => match x with
    | .Call (.Attribute l m ap) [y] [] cp => nmIs m "extend" && noCall l && (ap.endLine == cp.line) && chkE fl sc o l && chkL fl sc es [y]
    | _ => false
  | .lc _ t it c e own, x => match x with
    | .ListComp el [⟨tg, iter, ifs, as⟩] scope _ => decide (as = 0) && blkC N sc scope own && (tgSl t).all (fun i => (own.map (·.2)).contains i) && chkI fl sc it iter && chkG false (relS scope sc) t tg && chkC false (relS scope sc) c ifs && chkE false (relS scope sc) e el
    | _ => false
def chkL (fl : Bool) (sc : Scope) : Es → List Expr → Bool
  | .nil, xs => xs.isEmpty
  | .cons e es, xs => match xs with
    | x :: rest => chkE fl sc e x && chkL fl sc es rest
    | [] => false
def chkO (fl : Bool) (sc : Scope) : Oe → Option Expr → Bool
  | .none, x => x.isNone
  | .some e, x => match x with
    | some y => chkE fl sc e y
    | none => false
def chkT (fl : Bool) (sc : Scope) : Tt → Expr → Bool
  | .bo o ts, x => match x with
    | .BoolOp o' l _ => decide (o = o') && chkTs fl sc ts l
    | _ => false
  | .not a, x => match x with
    | .UnaryOp .Not l _ => chkT fl sc a l
    | _ => false
  | .cmp o a b, x => match x with
    | .Compare l [o'] [r] _ => decide (o = o') && chkE fl sc a l && chkE fl sc b r
    | _ => false
  | .ch o1 o2 a b c, x => match x with
    | .Compare l [p1, p2] [r, t] _ => decide (o1 = p1) && decide (o2 = p2) && chkE fl sc a l && chkE fl sc b r && chkE fl sc c t
    | _ => false
  | .tru e, x => okTru x && chkE fl sc e x
def chkTs (fl : Bool) (sc : Scope) : Tts → List Expr → Bool
  | .nil, xs => xs.isEmpty
  | .cons t ts, xs => match xs with
    | x :: rest => chkT fl sc t x && chkTs fl sc ts rest
    | [] => false
def chkC (fl : Bool) (sc : Scope) : Ot → List Expr → Bool
  | .none, xs => xs.isEmpty
  | .some t, xs => match xs with
    | [x] => chkT fl sc t x
    | _ => false
def chkG (fl : Bool) (sc : Scope) : Tg → Expr → Bool
  | .nm i, x => match x with
    | .Name y _ => decide (N[i]? = some y) && stoN fl sc y
    | _ => false
  | .tup ts, x => match x with
    | .Tuple l _ _ => chkGs fl sc ts l
    | _ => false
  | .sub o i, x => match x with
    | .Subscript l r _ => chkE fl sc o l && chkE fl sc i r
    | _ => false
def chkGs (fl : Bool) (sc : Scope) : Tgs → List Expr → Bool
  | .nil, xs => xs.isEmpty
  | .cons t ts, xs => match xs with
    | x :: rest => chkG fl sc t x && chkGs fl sc ts rest
    | [] => false
def chkI (fl : Bool) (sc : Scope) : It → Expr → Bool
  | .seq e, x => chkE fl sc e x
  | .rng1 a, x => match x with
    | .Call (.Name y _) [l] [] _ => nmIs y "range" && gloN sc y && chkL fl sc a [l]
    | _ => false
  | .rng2 a, x => match x with
    | .Call (.Name y _) [l, r] [] _ => nmIs y "range" && gloN sc y && chkL fl sc a [l, r]
    | _ => false
end
end
end Z

/-! Z layer, part K: expressions keep what their meaning says. -/
namespace Z
open PySem PySem.Spec PyProof.Rows L2

def bltN : List String := ["len", "abs", "int", "str", "tuple", "list", "max", "min", "repr", "isinstance", "range", "bool"]
structure Cxt (C : Tab) (ca : Nat → Addr) (call : Nat → List D → Sto → Out D) (k : Nat) (N : List Str) (fl : Bool) (sc : Scope) (X : Cx) (W : WX) : Prop where
  scp : X.env.scope = sc
  kind : sc.kind = .function
  calm : X.calm = true
  nm : X.N = N
  nd : N.Nodup
  fn : fl = true → ∀ x, X.fn x = true
  room : Room k X.A
  gd : X.A.guards = some []
  tk : Takes X W
  po : PassesOwn (model X.prog X.w) X.A X.env X.xe
  blt : ∀ x ∈ bltN, X.mg (Str.ofString x) = none
  gl : ∀ (j : Nat) (x : Str) (d : D), C.gl[j]? = some (x, d) → ∃ u v, X.mg x = some u ∧ RelV v u ∧ ∀ H r, Rep X.K H r d v
  fns : ∀ (f : Nat) (x : Str) (n : Nat), C.fns[f]? = some (x, n) → ∃ (a : Addr) (fd : FuncData) (ps : List Str), ps.length = n ∧ X.mg x = some (.ref a) ∧ PySem.W.keepIn X.K (.ref a) = true ∧ Binds X.K fd ps [] ∧
    FnZ X.prog X.w X.K X.mg X.base k a fd ps (spOf X.K ca n (call f))

theorem okX_of {C : Tab} {N : List Str} {fl : Bool} {sc : Scope} {e : E} {x : Expr} (h : chkE C N fl sc e x = true) : okX x = true := by
  cases e <;> (unfold chkE at h; split at h <;> first | rfl | (cases h; done))
theorem star_ok {x : Expr} (h : okX x = true) (es : List Expr) (env : Env) : starEach (x :: es) env = (false, eval x env) :: starEach es env := by
  cases x <;> first | rfl | (cases h; done)
theorem ix_ok {x : Expr} (h : okX x = true) : PlainIx x := by
  cases x <;> first | exact (fun _ _ => rfl) | (cases h; done)
theorem mark_ok {x : Expr} (h : okX x = true) (o : CmpOp) : behindInMarks o x = false := by
  cases x <;> first | rfl | (cases h; done)
theorem last_ok {x y : Expr} (h : okX y = true) (o o' : CmpOp) : lastMarks [o, o'] [x, y] = false := mark_ok h o'
theorem fold_ok {x : Expr} (h : okX x = true) (env : Env) (v : Value) : foldedSetIterable x env v = pure v := by
  cases x <;> first | rfl | (cases h; done)
theorem tru_ok {x : Expr} (h : okTru x = true) (env : Env) (wh : Sem Value) : isTrue x env wh = (do let v ← wh; standAt x.pos; holding [v] (truthy v)) := by
  cases x <;> first | rfl | (cases h; done)
theorem base_ok {x : Expr} (h : noCall x = true) (m : Str) (env : Env) : attributeBase x m env (eval x env) = eval x env := by
  cases x <;> first | rfl | (cases h; done)
theorem asub_ok {o i : Expr} (h : okX i = true) (pos : Pos) (env : Env) (v : Value) : assign (.Subscript o i pos) env v = (do
      let ov ← holding [v] (eval o env)
      let iv ← holding [v, ov] (eval i env)
      standAt pos
      holding [v, ov, iv] (setItem ov iv v)
      release [v, ov, iv] []) := by
  cases i <;> first | rfl | (cases h; done)
theorem vis_of {sc : Scope} {y : Str} (h : visN sc y = true) : Vis sc y := by
  unfold visN at h
  split at h <;> first | exact .inl (by assumption) | exact .inr (.inl (by assumption)) | exact .inr (.inr (by assumption)) | (cases h; done)
theorem sto_of {fl : Bool} {sc : Scope} {y : Str} (h : stoN fl sc y = true) : Loc sc y ∧ (fl = true ∨ sc.names.lookup y = some .local) := by
  unfold stoN at h
  split at h
  · rename_i e; exact ⟨.inl e, .inr e⟩
  · rename_i e; exact ⟨.inr e, .inl h⟩
  · cases h
theorem dbg_of {y : Str} (h : dbgN y = true) : (y == ("__debug__" : Str)) = false ∧ (y == ("__classdict__" : Str)) = false ∧ y ≠ "__name__" := by
  unfold dbgN at h
  simp only [Bool.and_eq_true, Bool.not_eq_true'] at h
  exact ⟨h.1.1, h.1.2, fun e => by have := h.2; rw [e] at this; simp at this⟩

section
variable {C : Tab} {ca : Nat → Addr} {call : Nat → List D → Sto → Out D} {k : Nat}

theorem chkL_len {N : List Str} {fl : Bool} {sc : Scope} : ∀ {es : Es} {xs : List Expr}, chkL C N fl sc es xs = true → ∀ sd S ds S1, dL C.G call es sd S = .ok ds S1 → ds.length = xs.length
  | .nil, xs, h, sd, S, ds, S1, e => by
    unfold chkL at h
    unfold dL at e
    cases xs with
    | nil => unfold mNil at e; cases e; rfl
    | cons _ _ => cases h
  | .cons a es, xs, h, sd, S, ds, S1, e => by
    unfold chkL at h
    split at h
    · rename_i x rest
      rw [Bool.and_eq_true] at h
      unfold dL mCons at e
      cases e1 : dE C.G call a sd S with
      | bad => rw [e1] at e; cases e
      | exc _ _ _ => rw [e1] at e; cases e
      | ok d S2 =>
        rw [e1] at e
        simp only [Out.bind] at e
        cases e2 : dL C.G call es sd S2 with
        | bad => rw [e2] at e; cases e
        | exc _ _ _ => rw [e2] at e; cases e
        | ok ds2 S3 =>
          rw [e2] at e
          cases e
          rw [List.length_cons, List.length_cons, chkL_len h.2 sd S2 ds2 _ e2]
    · cases h
theorem back_ok {N : List Str} {fl : Bool} {sc : Scope} : ∀ {es : Es} {xs : List Expr}, chkL C N fl sc es xs = true → ∀ (pos : Pos) (env : Env), (backTo pos (starEach xs env)).any (·.1) = false
  | .nil, xs, h, pos, env => by
    unfold chkL at h
    cases xs with
    | nil => rfl
    | cons _ _ => cases h
  | .cons a es, xs, h, pos, env => by
    unfold chkL at h
    split at h
    · rename_i x rest
      rw [Bool.and_eq_true] at h
      rw [star_ok (okX_of h.1)]
      exact back_ok h.2 pos env
    · cases h
theorem asgE_ok {N : List Str} {fl : Bool} {sc : Scope} : ∀ {ts : Tgs} {xs : List Expr}, chkGs C N fl sc ts xs = true → ∀ (env : Env), (assignEach xs env).length = tgsLen ts ∧ (assignEach xs env).findIdx? (·.1) = none
  | .nil, xs, h, env => by
    unfold chkGs at h
    cases xs with
    | nil => exact ⟨rfl, rfl⟩
    | cons _ _ => cases h
  | .cons t ts, xs, h, env => by
    unfold chkGs at h
    split at h
    · rename_i x rest
      rw [Bool.and_eq_true] at h
      have hx : assignEach (x :: rest) env = (false, assign x env) :: assignEach rest env := by
        have := h.1
        cases t <;> (unfold chkG at this; split at this <;> first | rfl | (cases this; done))
      obtain ⟨h1, h2⟩ := asgE_ok h.2 env
      rw [hx]
      refine ⟨by rw [List.length_cons, h1]; rfl, ?_⟩
      rw [List.findIdx?_cons]
      simp [h2]
    · cases h
theorem asg1_ok {N : List Str} {fl : Bool} {sc : Scope} {t : Tg} {x : Expr} (h : chkG C N fl sc t x = true) (rest : List Expr) (env : Env) : assignEach (x :: rest) env = (false, assign x env) :: assignEach rest env := by
  cases t <;> (unfold chkG at h; split at h <;> first | rfl | (cases h; done))

theorem okI {it : It} {N : List Str} {fl : Bool} {sc : Scope} {x : Expr} (h : chkI C N fl sc it x = true) : okX x = true := by
  cases it with
  | seq e => unfold chkI at h; exact okX_of h
  | rng1 a => unfold chkI at h; split at h <;> first | rfl | (cases h; done)
  | rng2 a => unfold chkI at h; split at h <;> first | rfl | (cases h; done)
theorem cmp_rule {X : Cx} (hu : X.A.units + 64 < cLine) (o : CmpOp) : ∃ R, OpR X (compareOp o) R ∧ OpZ X.K ca R (cmpF o) := by
  cases o with
  | Eq => exact ⟨_, or_eq hu, oz_eq⟩
  | NotEq => exact ⟨_, or_ne hu, oz_ne⟩
  | Lt => exact ⟨_, op_lt, oz_cmp⟩
  | LtE => exact ⟨_, op_le, oz_cmp⟩
  | Gt => exact ⟨_, op_gt, oz_cmp⟩
  | GtE => exact ⟨_, op_ge, oz_cmp⟩
  | Is => exact ⟨_, op_isN, oz_isN⟩
  | IsNot => exact ⟨_, op_notN, oz_notN⟩
  | In => exact ⟨_, or_in, oz_in⟩
  | NotIn => exact ⟨_, or_notIn, oz_notIn⟩
theorem op_rule {X : Cx} (o : Operator) (h : okOp o = true) : ∃ R, OpR X (binaryOp o) R ∧ OpZ X.K ca R (opF o) := by
  cases o with
  | Add => exact ⟨_, or_add, oz_add⟩
  | Sub => exact ⟨_, or_sub, oz_sub⟩
  | Mult => exact ⟨_, or_mul, oz_mul⟩
  | FloorDiv => exact ⟨_, op_fdiv, oz_fdiv⟩
  | Mod => exact ⟨_, op_mod, oz_mod⟩
  | Pow => exact ⟨_, op_pow, oz_pow⟩
  | _ => cases h
theorem z_neg {X : Cx} {W : WX} {a : Expr} {ma : M D} {pos : Pos} (ha : PE X a (rE X.K ca W ma)) : PE X (.UnaryOp .USub a pos) (rE X.K ca W (mNeg ma)) := PE.imp (pe_un un_neg ha) fun s H Q ⟨sd, r, S, hs, m, h⟩ =>
  ⟨sd, r, S, hs, m, h.bind fun d1 S1 v1 H1 r1 x1 m1 q1 h1 => by
    obtain ⟨d, e, kk⟩ := lift_ln h1
    unfold negD at e
    split at e
    · cases e; cases q1
      exact ⟨_, rfl, kk _ _ r1 (Ext.refl ..) m1 (.int _)⟩
    · cases e⟩
theorem bf_rule {X : Cx} {fl : Bool} {sc : Scope} {W : WX} {N : List Str} (cx : Cxt C ca call k N fl sc X W) (f : Bf) {y : Str} {p pos : Pos} {l : Expr} {ls : List Expr} {ml : M (List D)} (hy : y = Str.ofString (bfN f)) (hg : Gl X y) (ha : PA X (l :: ls) (rA X.K ca W ml))
    (he : starEach (l :: ls) X.env = (false, eval l X.env) :: starEach ls X.env) (hpl : (backTo pos (starEach ls X.env)).any (·.1) = false) : PE X (.Call (.Name y p) (l :: ls) [] pos) (rE X.K ca W (mCall (bfF f) ml)) := by
  have hu := cx.room.units
  have hm : X.mg y = none := by rw [hy]; exact cx.blt _ (by cases f <;> simp [bltN, bfN])
  cases f with
  | len => subst hy; exact z_callB (id := "len") call_len cz_len hg hm (by decide +kernel) ha (by decide) (by decide) he hpl
  | abs => subst hy; exact z_callB (id := "abs") call_abs cz_abs hg hm (by decide +kernel) ha (by decide) (by decide) he hpl
  | int => subst hy; exact z_callT (id := "int") or_int cz_int hg hm (by decide +kernel) ha (by decide) (by decide) he hpl
  | str => subst hy; exact z_callT (id := "str") call_str_int cz_str hg hm (by decide +kernel) ha (by decide) (by decide) he hpl
  | tup => subst hy; exact z_callT (id := "tuple") call_tuple_of cz_tup hg hm (by decide +kernel) ha (by decide) (by decide) he hpl
  | lst => subst hy; exact z_callT (id := "list") call_list_of cz_lst hg hm (by decide +kernel) ha (by decide) (by decide) he hpl
  | max2 => subst hy; exact z_callB (id := "max") (call_max2 cx.calm) cz_max2 hg hm (by decide +kernel) ha (by decide) (by decide) he hpl
  | min2 => subst hy; exact z_callB (id := "min") (call_min2 cx.calm) cz_min2 hg hm (by decide +kernel) ha (by decide) (by decide) he hpl
  | repr => subst hy; exact z_callB (id := "repr") (cr_repr cx.gd hu) cz_repr hg hm (by decide +kernel) ha (by decide) (by decide) he hpl
theorem Cxt.blk {N : List Str} {fl : Bool} {sc : Scope} {X : Cx} {W : WX} (cx : Cxt C ca call k N fl sc X W) (s : Shared) (H : Hp) (scope : Scope) (hk : scope.kind = .function) (cl : List (Str × Addr)) (A : Addr) (fp : List Addr) :
    Cxt C ca call k N false (relS scope sc) (X.blk s H scope (compEnvC scope cl A X.env) fp) W0 := by
  obtain rfl := cx.scp
  exact ⟨rfl, hk, cx.calm, cx.nm, cx.nd, fun z => (by cases z), cx.room, cx.gd, takes0, PassesOwn.never, cx.blt, cx.gl, cx.fns⟩

mutual
theorem soundE : ∀ (e : E) {N : List Str} {fl : Bool} {sc : Scope} {X : Cx} {W : WX} {x : Expr}, Cxt C ca call k N fl sc X W → chkE C N fl sc e x = true → PE X x (rE X.K ca W (dE C.G call e))
  | .v i, N, fl, sc, X, W, x, cx, h => by
    unfold chkE at h
    split at h
    · simp only [Bool.and_eq_true, decide_eq_true_eq] at h
      obtain ⟨⟨h1, h2⟩, h3⟩ := h
      obtain ⟨d1, d2, _⟩ := dbg_of h3
      exact z_var (pe_var (by rw [cx.nm]; exact h1) (by rw [cx.scp]; exact vis_of h2) d1 d2)
    · cases h
  | .c d, N, fl, sc, X, W, x, cx, h => by
    unfold chkE at h
    split at h
    · unfold cEq at h
      split at h
      · have := of_decide_eq_true h; subst this; exact z_c pe_int fun _ _ => .int _
      · have := of_decide_eq_true h; subst this; exact z_c pe_str fun _ _ => .str _
      · have := of_decide_eq_true h; subst this; exact z_c pe_bl fun _ _ => .bl _
      · exact z_c pe_non fun _ _ => .non
      · cases h
    · cases h
  | .g j, N, fl, sc, X, W, x, cx, h => by
    unfold chkE at h
    split at h
    · rename_i y p
      simp only [Bool.and_eq_true] at h
      obtain ⟨⟨h1, h2⟩, h3⟩ := h
      split at h1
      · rename_i z d e
        have := of_decide_eq_true h1
        subst this
        obtain ⟨u, v, hm, rv, rp⟩ := cx.gl j z d e
        have hG : C.G[j]? = some d := by unfold Tab.G; rw [List.getElem?_map, e]; rfl
        refine PE.imp (pe_glob (v := v) (u := u) (by unfold Gl Env.kindOf; rw [cx.scp]; exact of_decide_eq_true h2) hm rv (dbg_of h3).1) fun s H Q ⟨sd, r, S, hs, m, hh⟩ => ?_
        unfold dE mG at hh
        rw [hG] at hh
        exact hh.ok m (rp H r)
      · cases h1
    · cases h
  | .op o a b, N, fl, sc, X, W, x, cx, h => by
    unfold chkE at h
    split at h
    · simp only [Bool.and_eq_true, decide_eq_true_eq] at h
      obtain ⟨⟨⟨h0, h1⟩, h2⟩, h3⟩ := h
      subst h0
      obtain ⟨R, r1, r2⟩ := op_rule (X := X) (ca := ca) o h1
      exact z_bin r1 r2 (soundE a cx h2) (soundE b cx h3)
    · cases h
  | .neg a, N, fl, sc, X, W, x, cx, h => by
    unfold chkE at h
    split at h
    · exact z_neg (soundE a cx h)
    · cases h
  | .cmp o a b, N, fl, sc, X, W, x, cx, h => by
    unfold chkE at h
    split at h
    · simp only [Bool.and_eq_true, decide_eq_true_eq] at h
      obtain ⟨⟨h0, h2⟩, h3⟩ := h
      subst h0
      obtain ⟨R, r1, r2⟩ := cmp_rule (X := X) (ca := ca) cx.room.units o
      exact z_cmp r1 r2 (soundE a cx h2) (soundE b cx h3) (mark_ok (okX_of h3) o)
    · cases h
  | .ch o o' a b c, N, fl, sc, X, W, x, cx, h => by
    unfold chkE at h
    split at h
    · simp only [Bool.and_eq_true, decide_eq_true_eq] at h
      obtain ⟨⟨⟨⟨h0, h1⟩, h2⟩, h3⟩, h4⟩ := h
      subst h0 h1
      obtain ⟨R, r1, r2⟩ := cmp_rule (X := X) (ca := ca) cx.room.units o
      obtain ⟨R', r1', r2'⟩ := cmp_rule (X := X) (ca := ca) cx.room.units o'
      exact z_chain r1 r1' r2 r2' (soundE a cx h2) (soundE b cx h3) (soundE c cx h4) (last_ok (okX_of h4) o o')
    · cases h
  | .bo o es, N, fl, sc, X, W, x, cx, h => by
    unfold chkE at h
    split at h
    · simp only [Bool.and_eq_true, decide_eq_true_eq] at h
      obtain ⟨h0, h1⟩ := h
      subst h0
      exact soundB o es cx h1
    · cases h
  | .not a, N, fl, sc, X, W, x, cx, h => by
    unfold chkE at h
    split at h
    · exact z_not (soundE a cx h)
    · cases h
  | .ifx t a b, N, fl, sc, X, W, x, cx, h => by
    unfold chkE at h
    split at h
    · simp only [Bool.and_eq_true] at h
      exact z_ifx (soundT t cx h.1.1) (soundE a cx h.1.2) (soundE b cx h.2)
    · cases h
  | .tup es, N, fl, sc, X, W, x, cx, h => by
    unfold chkE at h
    split at h
    · exact z_tup (soundL es cx h)
    · cases h
  | .lst mt es, N, fl, sc, X, W, x, cx, h => by
    unfold chkE at h
    split at h
    · unfold dE
      cases mt with
      | true => exact z_lstM (soundL es cx h)
      | false => exact z_lst (soundL es cx h)
    · cases h
  | .ix a b, N, fl, sc, X, W, x, cx, h => by
    unfold chkE at h
    split at h
    · simp only [Bool.and_eq_true] at h
      exact z_ix (soundE a cx h.1) (soundE b cx h.2) (ix_ok (okX_of h.2))
    · cases h
  | .sl a lo hi, N, fl, sc, X, W, x, cx, h => by
    unfold chkE at h
    split at h
    · simp only [Bool.and_eq_true] at h
      exact z_sl (soundE a cx h.1.1) (soundO lo cx h.1.2) (soundO hi cx h.2)
    · cases h
  | .call f es, N, fl, sc, X, W, x, cx, h => by
    unfold chkE at h
    split at h
    · rename_i y p l pos
      simp only [Bool.and_eq_true] at h
      obtain ⟨⟨⟨h1, h2⟩, h3⟩, h4⟩ := h
      split at h1
      · rename_i z n e
        rw [Bool.and_eq_true, decide_eq_true_eq, decide_eq_true_eq] at h1
        obtain ⟨rfl, hl⟩ := h1
        obtain ⟨a, fd, ps, hp, hm, kp, bn, F⟩ := cx.fns f z n e
        have hg : Gl X z := by unfold Gl Env.kindOf; rw [cx.scp]; exact of_decide_eq_true h2
        have hn : ∀ sd S ds S1, dL C.G call es sd S = .ok ds S1 → ds.length = n := fun sd S ds S1 e1 => by rw [chkL_len h4 sd S ds S1 e1]; exact hl
        have hL := soundL es (X := X) (W := W) cx h4
        cases l with
        | nil =>
          cases es with
          | cons _ _ => unfold chkL at h4; cases h4
          | nil =>
            refine PE.imp (pe_callZ0 F cx.room cx.gd hg hm kp bn cx.tk (dbg_of h3).1) fun s H Q hh => ?_
            obtain ⟨sd, r, S, hs, m, hh⟩ := hh
            unfold dE dL mFn mNil at hh
            exact ⟨by rw [← hl]; rfl, [], r, S, .nil, m, hh⟩
        | cons l0 ls =>
          have hok : okX l0 = true := by
            cases es with
            | nil => unfold chkL at h4; cases h4
            | cons e0 es0 =>
              unfold chkL at h4
              rw [Bool.and_eq_true] at h4
              exact okX_of h4.1
          have hb : (backTo pos (starEach ls X.env)).any (·.1) = false := by
            cases es with
            | nil => unfold chkL at h4; cases h4
            | cons e0 es0 =>
              unfold chkL at h4
              rw [Bool.and_eq_true] at h4
              exact back_ok h4.2 pos X.env
          exact PE.imp (pe_callZ F cx.room cx.gd hg hm kp bn cx.tk hL (dbg_of h3).1 (star_ok hok ls X.env) hb) fun s H Q hh => fn_in hn hh
      · cases h1
    · cases h
  | .bf f es, N, fl, sc, X, W, x, cx, h => by
    unfold chkE at h
    split at h
    · rename_i y p l ls pos
      simp only [Bool.and_eq_true] at h
      obtain ⟨⟨h1, h2⟩, h4⟩ := h
      have hg : Gl X y := by unfold Gl Env.kindOf; rw [cx.scp]; exact of_decide_eq_true h2
      have hL := soundL es (X := X) (W := W) cx h4
      have hok : okX l = true ∧ (backTo pos (starEach ls X.env)).any (·.1) = false := by
        cases es with
        | nil => unfold chkL at h4; cases h4
        | cons e0 es0 =>
          unfold chkL at h4
          rw [Bool.and_eq_true] at h4
          exact ⟨okX_of h4.1, back_ok h4.2 pos X.env⟩
      exact bf_rule cx f (of_decide_eq_true h1) hg hL (star_ok hok.1 ls X.env) hok.2
    · cases h
  | .isi a t, N, fl, sc, X, W, x, cx, h => by
    unfold chkE at h
    split at h
    · rename_i y p l z p2 pos
      simp only [Bool.and_eq_true] at h
      obtain ⟨⟨⟨⟨h1, h2⟩, h3⟩, h4⟩, h5⟩ := h
      have hg : Gl X y := by unfold Gl Env.kindOf; rw [cx.scp]; exact of_decide_eq_true h3
      have hg2 : Gl X z := by unfold Gl Env.kindOf; rw [cx.scp]; exact of_decide_eq_true h4
      have e1 := of_decide_eq_true h1
      have e2 := of_decide_eq_true h2
      subst e1 e2
      refine z_isi (x := "isinstance") hg (cx.blt "isinstance" (by decide)) hg2 (cx.blt t.nm (by cases t <;> decide)) ?_ ?_ ?_ (soundE a cx h5) (star_ok (okX_of h5) _ _)
      · cases t <;> decide +kernel
      · cases t <;> decide
      · cases t <;> decide
    · cases h
  | .app o es, N, fl, sc, X, W, x, cx, h => by
    unfold chkE at h
    split at h
    · rename_i l m ap y cp
      simp only [Bool.and_eq_true] at h
      obtain ⟨⟨⟨⟨h1, h2⟩, h3⟩, h4⟩, h5⟩ := h
      have e1 := of_decide_eq_true h1
      subst e1
      have hL := soundL es (X := X) (W := W) cx h5
      have hok : okX y = true := by
        cases es with
        | nil => unfold chkL at h5; cases h5
        | cons e0 es0 => unfold chkL at h5; rw [Bool.and_eq_true] at h5; exact okX_of h5.1
      have hst : starEach [y] X.env = (false, eval y X.env) :: starEach [] X.env := star_ok hok [] X.env
      exact PE.imp (pe_bm PySem.F.plainAttrs_list PySem.F.slot_list_append PySem.F.type_list_append mt_append (soundE o cx h4) hL (base_ok h2 _ _) (by rw [hst]; rfl) h3 hst rfl) fun s H Q hh => app_in hh
    · cases h
  | .ext o es, N, fl, sc, X, W, x, cx, h => by
    unfold chkE at h
    split at h
    · rename_i l m ap y cp
      simp only [Bool.and_eq_true] at h
      obtain ⟨⟨⟨⟨h1, h2⟩, h3⟩, h4⟩, h5⟩ := h
      have e1 := of_decide_eq_true h1
      subst e1
      have hL := soundL es (X := X) (W := W) cx h5
      have hok : okX y = true := by
        cases es with
        | nil => unfold chkL at h5; cases h5
        | cons e0 es0 => unfold chkL at h5; rw [Bool.and_eq_true] at h5; exact okX_of h5.1
      have hst : starEach [y] X.env = (false, eval y X.env) :: starEach [] X.env := star_ok hok [] X.env
      exact PE.imp (pe_bm PySem.F.plainAttrs_list PySem.F.slot_list_extend PySem.F.type_list_extend mt_extend (soundE o cx h4) hL (base_ok h2 _ _) (by rw [hst]; rfl) h3 hst rfl) fun s H Q hh => ext_in hh
    · cases h
  | .lc mt t it c e own, N, fl, sc, X, W, x, cx, h => by
    unfold chkE at h
    split at h
    · rename_i el tg iter ifs as scope pos
      simp only [Bool.and_eq_true, decide_eq_true_eq] at h
      obtain ⟨⟨⟨⟨⟨⟨h0, h1⟩, h2⟩, h3⟩, h4⟩, h5⟩, h6⟩ := h
      subst h0
      have ok : BlkOk N sc scope own := blkOk_by h1
      have ok' : BlkOk X.N X.env.scope scope own := by rw [cx.nm, cx.scp]; exact ok
      have hts : ∀ i ∈ tgSl t, i ∈ own.map (·.2) := fun i hi => by
        have := List.all_eq_true.mp h2 i hi
        exact List.contains_iff_mem.mp this
      have hI := soundI it (X := X) (W := W) (tg := tg) cx h3
      have hfo : okX iter = true := okI h3
      unfold dE
      cases mt with
      | true => exact z_lcM cx.calm (by rw [cx.nm]; exact cx.nd) hI ok' hts (fun s H A cl fp => soundG t (cx.blk s H scope ok.kind cl A fp) h4) (fun s H A cl fp => soundC c (cx.blk s H scope ok.kind cl A fp) h5) (fun s H A cl fp => soundE e (cx.blk s H scope ok.kind cl A fp) h6) (fold_ok hfo X.env)
      | false => exact z_lc cx.calm (by rw [cx.nm]; exact cx.nd) hI ok' hts (fun s H A cl fp => soundG t (cx.blk s H scope ok.kind cl A fp) h4) (fun s H A cl fp => soundC c (cx.blk s H scope ok.kind cl A fp) h5) (fun s H A cl fp => soundE e (cx.blk s H scope ok.kind cl A fp) h6) (fold_ok hfo X.env)
    · cases h
theorem soundL : ∀ (es : Es) {N : List Str} {fl : Bool} {sc : Scope} {X : Cx} {W : WX} {xs : List Expr}, Cxt C ca call k N fl sc X W → chkL C N fl sc es xs = true → PA X xs (rA X.K ca W (dL C.G call es))
  | .nil, N, fl, sc, X, W, xs, cx, h => by
    unfold chkL at h
    cases xs with
    | nil => exact z_anil
    | cons _ _ => cases h
  | .cons e es, N, fl, sc, X, W, xs, cx, h => by
    unfold chkL at h
    split at h
    · rw [Bool.and_eq_true] at h
      exact z_acons (soundE e cx h.1) (soundL es cx h.2) (star_ok (okX_of h.1) _ _)
    · cases h
theorem soundB (o : BoolOp) : ∀ (es : Es) {N : List Str} {fl : Bool} {sc : Scope} {X : Cx} {W : WX} {xs : List Expr} {pos : Pos}, Cxt C ca call k N fl sc X W → chkL C N fl sc es xs = true → PE X (.BoolOp o xs pos) (rE X.K ca W (dB C.G call o es))
  | .nil, N, fl, sc, X, W, xs, pos, cx, h => ⟨fun _ _ _ _ _ _ ⟨_, _, _, _, _, z⟩ => z.elim⟩
  | .cons e es, N, fl, sc, X, W, xs, pos, cx, h => by
    unfold chkL at h
    split at h
    · rename_i x rest
      rw [Bool.and_eq_true] at h
      cases es with
      | nil =>
        have h2 := h.2
        unfold chkL at h2
        cases rest with
        | nil => unfold dB; exact pe_one (soundE e cx h.1)
        | cons _ _ => cases h2
      | cons e2 es2 =>
        have ih := soundB o (.cons e2 es2) (X := X) (W := W) (pos := pos) cx h.2
        have h2 := h.2
        unfold chkL at h2
        split at h2
        · unfold dB
          cases o with
          | And => exact z_and (soundE e cx h.1) ih
          | Or => exact z_or (soundE e cx h.1) ih
        · cases h2
    · cases h
theorem soundO : ∀ (o : Oe) {N : List Str} {fl : Bool} {sc : Scope} {X : Cx} {W : WX} {x : Option Expr}, Cxt C ca call k N fl sc X W → chkO C N fl sc o x = true → PO X x (rP X.K ca W (dO C.G call o))
  | .none, N, fl, sc, X, W, x, cx, h => by
    unfold chkO at h
    cases x with
    | none => exact z_pno
    | some _ => cases h
  | .some e, N, fl, sc, X, W, x, cx, h => by
    unfold chkO at h
    split at h
    · exact z_psome (soundE e cx h)
    · cases h
theorem soundT : ∀ (t : Tt) {N : List Str} {fl : Bool} {sc : Scope} {X : Cx} {W : WX} {x : Expr}, Cxt C ca call k N fl sc X W → chkT C N fl sc t x = true → PT X x (rT X.K ca W (dT C.G call t))
  | .bo o ts, N, fl, sc, X, W, x, cx, h => by
    unfold chkT at h
    split at h
    · simp only [Bool.and_eq_true, decide_eq_true_eq] at h
      obtain ⟨h0, h1⟩ := h
      subst h0
      exact (soundTB o ts cx h1).pt
    · cases h
  | .not a, N, fl, sc, X, W, x, cx, h => by
    unfold chkT at h
    split at h
    · exact z_tnot (soundT a cx h)
    · cases h
  | .cmp o a b, N, fl, sc, X, W, x, cx, h => by
    unfold chkT at h
    split at h
    · simp only [Bool.and_eq_true, decide_eq_true_eq] at h
      obtain ⟨⟨h0, h2⟩, h3⟩ := h
      subst h0
      obtain ⟨R, r1, r2⟩ := cmp_rule (X := X) (ca := ca) cx.room.units o
      exact z_tcmp r1 r2 (soundE a cx h2) (soundE b cx h3) (mark_ok (okX_of h3) o)
    · cases h
  | .ch o o' a b c, N, fl, sc, X, W, x, cx, h => by
    unfold chkT at h
    split at h
    · simp only [Bool.and_eq_true, decide_eq_true_eq] at h
      obtain ⟨⟨⟨⟨h0, h1⟩, h2⟩, h3⟩, h4⟩ := h
      subst h0 h1
      obtain ⟨R, r1, r2⟩ := cmp_rule (X := X) (ca := ca) cx.room.units o
      obtain ⟨R', r1', r2'⟩ := cmp_rule (X := X) (ca := ca) cx.room.units o'
      exact z_tchain r1 r1' r2 r2' (soundE a cx h2) (soundE b cx h3) (soundE c cx h4) (last_ok (okX_of h4) o o')
    · cases h
  | .tru e, N, fl, sc, X, W, x, cx, h => by
    unfold chkT at h
    rw [Bool.and_eq_true] at h
    exact z_ttru (soundE e cx h.2) (tru_ok h.1 X.env)
theorem soundTB (o : BoolOp) : ∀ (ts : Tts) {N : List Str} {fl : Bool} {sc : Scope} {X : Cx} {W : WX} {xs : List Expr} {pos : Pos}, Cxt C ca call k N fl sc X W → chkTs C N fl sc ts xs = true → PW X (.BoolOp o xs pos) (rT X.K ca W (dTB C.G call o ts))
  | .nil, N, fl, sc, X, W, xs, pos, cx, h => ⟨fun _ _ _ _ _ _ _ ⟨_, _, _, _, _, z⟩ => z.elim⟩
  | .cons t ts, N, fl, sc, X, W, xs, pos, cx, h => by
    unfold chkTs at h
    split at h
    · rename_i x rest
      rw [Bool.and_eq_true] at h
      cases ts with
      | nil =>
        have h2 := h.2
        unfold chkTs at h2
        cases rest with
        | nil =>
          unfold dTB
          cases o with
          | And => exact pw_and1 (soundT t cx h.1)
          | Or => exact pw_or1 (soundT t cx h.1)
        | cons _ _ => cases h2
      | cons t2 ts2 =>
        have ih := soundTB o (.cons t2 ts2) (X := X) (W := W) (pos := pos) cx h.2
        have h2 := h.2
        unfold chkTs at h2
        split at h2
        · unfold dTB
          cases o with
          | And => exact z_wand (soundT t cx h.1) ih
          | Or => exact z_wor (soundT t cx h.1) ih
        · cases h2
    · cases h
theorem soundC : ∀ (c : Ot) {N : List Str} {fl : Bool} {sc : Scope} {X : Cx} {W : WX} {xs : List Expr}, Cxt C ca call k N fl sc X W → chkC C N fl sc c xs = true → PTs X xs (rT X.K ca W (dC C.G call c))
  | .none, N, fl, sc, X, W, xs, cx, h => by
    unfold chkC at h
    cases xs with
    | nil => exact ⟨fun pins s σ H Q I ⟨sd, r, S, hs, m, z⟩ => pts_nil.run pins s σ H Q I (z.ok m rfl)⟩
    | cons _ _ => cases h
  | .some t, N, fl, sc, X, W, xs, cx, h => by
    unfold chkC at h
    split at h
    · exact pts_one (soundT t cx h)
    · cases h
theorem soundG : ∀ (t : Tg) {N : List Str} {fl : Bool} {sc : Scope} {X : Cx} {W : WX} {x : Expr}, Cxt C ca call k N fl sc X W → chkG C N fl sc t x = true → PG X x (rG X.K ca (tgSl t) (dG C.G call t))
  | .nm i, N, fl, sc, X, W, x, cx, h => by
    unfold chkG at h
    split at h
    · simp only [Bool.and_eq_true, decide_eq_true_eq] at h
      obtain ⟨l, f⟩ := sto_of h.2
      refine z_gname (pg_name (by rw [cx.nm]; exact cx.nd) (by rw [cx.nm]; exact h.1) (by rw [cx.scp]; exact l) ?_)
      rcases f with f | f
      · exact .inl (cx.fn f _)
      · exact .inr (by rw [cx.scp]; exact f)
    · cases h
  | .tup ts, N, fl, sc, X, W, x, cx, h => by
    unfold chkG at h
    split at h
    · exact z_gtup cx.calm (soundGs ts cx h) (asgE_ok h X.env).1 (asgE_ok h X.env).2
    · cases h
  | .sub o i, N, fl, sc, X, W, x, cx, h => by
    unfold chkG at h
    split at h
    · rw [Bool.and_eq_true] at h
      exact z_gsub (soundE o cx h.1) (soundE i cx h.2) (asub_ok (okX_of h.2) _ _)
    · cases h
theorem soundGs : ∀ (ts : Tgs) {N : List Str} {fl : Bool} {sc : Scope} {X : Cx} {W : WX} {xs : List Expr}, Cxt C ca call k N fl sc X W → chkGs C N fl sc ts xs = true → PGs X xs (rGs X.K ca (tgsSl ts) (dGs C.G call ts))
  | .nil, N, fl, sc, X, W, xs, cx, h => by
    unfold chkGs at h
    cases xs with
    | nil => exact z_gsnil
    | cons _ _ => cases h
  | .cons t ts, N, fl, sc, X, W, xs, cx, h => by
    unfold chkGs at h
    split at h
    · rw [Bool.and_eq_true] at h
      exact z_gscons (soundG t cx h.1) (soundGs ts cx h.2) (by rw [asg1_ok h.1]; rfl)
    · cases h
theorem soundI : ∀ (it : It) {N : List Str} {fl : Bool} {sc : Scope} {X : Cx} {W : WX} {tg x : Expr}, Cxt C ca call k N fl sc X W → chkI C N fl sc it x = true → PI X tg x (rI X.K ca W (dI C.G call it))
  | .seq e, N, fl, sc, X, W, tg, x, cx, h => by
    unfold chkI at h
    exact z_seq (soundE e cx h)
  | .rng1 a, N, fl, sc, X, W, tg, x, cx, h => by
    unfold chkI at h
    split at h
    · rename_i y p l pos
      simp only [Bool.and_eq_true] at h
      obtain ⟨⟨h1, h2⟩, h4⟩ := h
      have e1 := of_decide_eq_true h1
      subst e1
      have hL := soundL a (X := X) (W := W) cx h4
      have hok : okX l = true := by
        cases a with
        | nil => unfold chkL at h4; cases h4
        | cons e0 es0 => unfold chkL at h4; rw [Bool.and_eq_true] at h4; exact okX_of h4.1
      exact z_rng1 (by unfold Gl Env.kindOf; rw [cx.scp]; exact of_decide_eq_true h2) (cx.blt "range" (by decide)) hL (star_ok hok [] X.env)
    · cases h
  | .rng2 a, N, fl, sc, X, W, tg, x, cx, h => by
    unfold chkI at h
    split at h
    · rename_i y p l r0 pos
      simp only [Bool.and_eq_true] at h
      obtain ⟨⟨h1, h2⟩, h4⟩ := h
      have e1 := of_decide_eq_true h1
      subst e1
      have hL := soundL a (X := X) (W := W) cx h4
      have hok : okX l = true ∧ okX r0 = true := by
        cases a with
        | nil => unfold chkL at h4; cases h4
        | cons e0 es0 =>
          unfold chkL at h4; rw [Bool.and_eq_true] at h4
          refine ⟨okX_of h4.1, ?_⟩
          have h5 := h4.2
          cases es0 with
          | nil => unfold chkL at h5; cases h5
          | cons e1 es1 => unfold chkL at h5; rw [Bool.and_eq_true] at h5; exact okX_of h5.1
      exact z_rng2 (by unfold Gl Env.kindOf; rw [cx.scp]; exact of_decide_eq_true h2) (cx.blt "range" (by decide)) hL (by rw [star_ok hok.1, star_ok hok.2]; rfl) (star_ok hok.2 [] X.env)
    · cases h
end
end
end Z

/-! Z layer, part L: statements that are read, their meaning, and that the text keeps it. -/
namespace Z
open PySem PySem.Spec PyProof.Rows L2

mutual
inductive S1 where
  | ex (e : E) | doc | pass | brk | cnt | ret (e : E) | retN
  | asg (t : Tg) (e : E) | aug (i : Nat) (o : Operator) (e : E) | par (is : List Nat) (es : Es)
  | ite (c : Tt) (a b : Ss) | for_ (t : Tg) (it : It) (b : Ss) | whl (c : Tt) (b : Ss)
inductive Ss where
  | nil | cons (s : S1) (ss : Ss)
end
def iaddP (_ : Sto) (x y : D) : Option D := match x, y with
  | .int i, .int j => some (.int (i + j))
  | .str a, .str b => if a.length + b.length ≤ 16777216 then some (.str (a ++ b)) else none
  | _, _ => none
def imulI (i j : Int) : Option Int := if (-18446744073709551616 < i ∧ i < 18446744073709551616) ∨ (-18446744073709551616 < j ∧ j < 18446744073709551616) then some (i * j) else none
def iopF : Operator → Sto → D → D → Option D
  | .Add => iaddP
  | .Sub => intP subI
  | .Mult => intP imulI
  | _ => fun _ _ _ => none
section
variable (G : List D) (C : Nat → List D → Sto → Out D) (wf : Nat)
mutual
def dS : S1 → MS
  | .ex e => mExpr (dE G C e)
  | .doc => mSkip
  | .pass => mSkip
  | .brk => mBrk
  | .cnt => mCnt
  | .ret e => mRet (dE G C e)
  | .retN => mRetN
  | .asg t e => mAsg (dE G C e) (dG G C t)
  | .aug i o e => mAug i (iopF o) (dE G C e)
  | .par is es => mPar is (dL G C es)
  | .ite c a b => mIte (dT G C c) (dSs a) (dSs b)
  | .for_ t it b => mFor (dI G C it) (dG G C t) (dSs b)
  | .whl c b => whGo (dT G C c) (dSs b) wf
def dSs : Ss → MS
  | .nil => mSkip
  | .cons s ss => mThen (dS s) (dSs ss)
end
end

/-! ### the check -/
def swP (ts vs : List Expr) (sc : Scope) : Option (Option (List Str)) :=
  if (!(ts.length == 2 || ts.length == 3) || vs.length != ts.length) = true then some none
  else if (vs.any fun | .Starred .. => true | _ => false) = true then some none
  else
    let line := (ts.head?.map (·.pos.line)).getD 0
    let names := ts.filterMap fun
      | .Name id pos => if (sc.names.lookup id == some .local && pos.line == line) = true then some id else none
      | _ => none
    if (names.length != ts.length || names.eraseDups.length != names.length) = true then some none
    else if vs.all (foldedForSure 8) = true then some none
    else if vs.all (constantsAlone 8) = true then none
    else some (some names)
def swOk (sc : Scope) : Expr → Expr → Bool
  | .Tuple ts _ _, .Tuple vs _ _ => decide (swP ts vs sc = some none)
  | .List .., _ => false
  | _, _ => true
def noLc : Expr → Bool
  | .ListComp .. => false | .SetComp .. => false | .DictComp .. => false | _ => true
def okAug : Operator → Bool
  | .Add => true | .Sub => true | .Mult => true | _ => false
section
variable (C : Tab) (N : List Str)
mutual
def chkS (fl : Bool) (sc : Scope) : S1 → Stmt → Bool
  | .ex e, s => match s with
    | .Expr x _ => noLc x && chkE C N fl sc e x
    | _ => false
  | .doc, s => match s with
    | .Expr (.Constant (.str _) _ _) _ => true
    | _ => false
  | .pass, s => match s with
    | .Pass _ => true
    | _ => false
  | .brk, s => match s with
    | .Break _ => true
    | _ => false
  | .cnt, s => match s with
    | .Continue _ => true
    | _ => false
  | .ret e, s => match s with
    | .Return (some x) _ => chkE C N fl sc e x
    | _ => false
  | .retN, s => match s with
    | .Return none _ => true
    | _ => false
  | .asg t e, s => match s with
    | .Assign [tg] x _ => chkG C N fl sc t tg && chkE C N fl sc e x && swOk sc tg x
    | _ => false
  | .aug i o e, s => match s with
    | .AugAssign (.Name y _) o' x _ => decide (o = o') && okAug o && decide (N[i]? = some y) && stoN fl sc y && chkE C N fl sc e x
    | _ => false
  | .par is es, s => match s with
    | .Assign [.Tuple ts _ _] (.Tuple vs _ _) _ => (match is, ts, vs with
      | [i, j], [.Name x _, .Name y _], [_, _] => decide (i ≠ j) && decide (N[i]? = some x) && decide (N[j]? = some y) && decide (sc.names.lookup x = some .local) && decide (sc.names.lookup y = some .local) && decide (swP ts vs sc = some (some [x, y]))
      | [i, j, l], [.Name x _, .Name y _, .Name z _], [_, _, _] => decide (i ≠ j) && decide (i ≠ l) && decide (j ≠ l) && decide (N[i]? = some x) && decide (N[j]? = some y) && decide (N[l]? = some z) && decide (sc.names.lookup x = some .local) && decide (sc.names.lookup y = some .local) && decide (sc.names.lookup z = some .local) && decide (swP ts vs sc = some (some [x, y, z]))
      | _, _, _ => false) && chkL C N fl sc es vs
    | _ => false
  | .ite c a b, s => match s with
    | .If x y z _ => chkT C N fl sc c x && chkSs fl sc a y && chkSs fl sc b z
    | _ => false
  | .for_ t it b, s => match s with
    | .For tg iter body [] _ => chkG C N fl sc t tg && chkI C N fl sc it iter && chkSs fl sc b body
    | _ => false
  | .whl c b, s => match s with
    | .While x body [] _ => chkT C N fl sc c x && chkSs fl sc b body
    | _ => false
def chkSs (fl : Bool) (sc : Scope) : Ss → List Stmt → Bool
  | .nil, xs => xs.isEmpty
  | .cons s ss, xs => match xs with
    | x :: rest => chkS fl sc s x && chkSs fl sc ss rest
    | [] => false
end
end

theorem swP_ok {env : Env} {ts vs : List Expr} {k k2 : Nat} {p p2 : Pos} {o : Option (List Str)} (hk : env.scope.kind = .function) (h : swP ts vs env.scope = some o) : swappedStores [.Tuple ts k p] (.Tuple vs k2 p2) env = pure o := by
  have hb : env.blockKind = .function := by unfold Env.blockKind; rw [hk]; rfl
  have e0 : (env.blockKind != .function) = false := by rw [hb]; rfl
  unfold swP at h
  unfold swappedStores
  simp only [e0, Bool.or_false]
  have kf : ∀ id, env.kindOf id = env.scope.names.lookup id := fun _ => rfl
  simp only [kf]
  split at h
  · rename_i c; cases h; exact if_pos c
  · rename_i c
    refine (if_neg c).trans ?_
    split at h
    · rename_i c2; cases h; exact if_pos c2
    · rename_i c2
      refine (if_neg c2).trans ?_
      simp only at h
      split at h
      · rename_i c3; cases h; exact if_pos c3
      · rename_i c3
        refine (if_neg c3).trans ?_
        split at h
        · rename_i c4; cases h; exact if_pos c4
        · rename_i c4
          refine (if_neg c4).trans ?_
          split at h
          · cases h
          · rename_i c5
            cases h
            exact if_neg c5
theorem sw_none {env : Env} {tg x : Expr} (hk : env.scope.kind = .function) (h : swOk env.scope tg x = true) : swappedStores [tg] x env = pure none := by
  cases tg <;> first
    | rfl
    | (cases h; done)
    | (cases x <;> first | rfl | exact swP_ok hk (of_decide_eq_true h))
theorem swaps_no {x : Expr} (h : noLc x = true) (t : Option Expr) (l : Nat) (env : Env) : swapsWith x t l env = pure false := by
  cases x <;> first | rfl | (cases h; done)
theorem swaps_lc {elt : Expr} {gs : List Comprehension} {scope : Scope} {pos py : Pos} {y : Str} {l : Nat} {env : Env} (hk : env.scope.kind = .function) :
    swapsWith (.ListComp elt gs scope pos) (some (.Name y py)) l env = pure (decide (env.scope.names.lookup y = some .local) && (py.line == pos.line) && !(scope.names.any fun (n, k) => n == y && (k == .local || k == .cell))) := by
  have hb : env.blockKind = .function := by unfold Env.blockKind; rw [hk]; rfl
  have kf : env.kindOf y = env.scope.names.lookup y := rfl
  unfold swapsWith
  simp only [hb, kf]
  have e : (env.scope.names.lookup y == some NameKind.local) = decide (env.scope.names.lookup y = some .local) := by
    rw [Bool.eq_iff_iff]; simp
  rw [← e]
  rfl

section
variable {C : Tab} {ca : Nat → Addr} {call : Nat → List D → Sto → Out D} {k wf : Nat}
theorem oz_iadd {K : PySem.W.Frag} : OpZ K ca (rOr rAddI rStrCat) iaddP := by
  intro H r S x y vx vy d Q m hx hy e q
  unfold iaddP at e
  split at e
  · cases hx; cases hy; cases e; exact .inl ⟨_, _, rfl, rfl, q _ _ (Ext.refl ..) m (.int _)⟩
  · cases hx; cases hy
    split at e
    · cases e; exact .inr ⟨_, _, rfl, rfl, by rw [sizeLine_eq]; assumption, q _ _ (Ext.refl ..) m (.str _)⟩
    · cases e
  · cases e
theorem oz_imul {K : PySem.W.Frag} : OpZ K ca (L2.rI CMul fun i j => .int (i * j)) (intP imulI) := oz_int fun i j k e => by
  unfold imulI at e; split at e
  · rename_i h; exact ⟨by unfold CMul; simpa using h, Option.some.inj e⟩
  · cases e
theorem iop_rule {X : Cx} (o : Operator) (h : okAug o = true) : ∃ R, OpR X (inplaceOp o) R ∧ OpZ X.K ca R (iopF o) := by
  cases o with
  | Add => exact ⟨_, iop_add.or iop_add_str, oz_iadd⟩
  | Sub => exact ⟨rSubI, fun pins s σ H x y v u Q I rx ry ⟨i, j, e1, e2, _, q⟩ => iop_sub pins s σ H x y v u Q I rx ry ⟨i, j, e1, e2, q⟩, oz_sub⟩
  | Mult => exact ⟨_, iop_mul, oz_imul⟩
  | _ => cases h
theorem sound_asg {N : List Str} {fl : Bool} {sc : Scope} {X : Cx} {W : WX} {tg x : Expr} {pos : Pos} {t : Tg} {e : E} (cx : Cxt C ca call k N fl sc X W) (h1 : chkG C N fl sc t tg = true) (h2 : chkE C N fl sc e x = true) (h3 : swOk sc tg x = true) :
    PS X (.Assign [tg] x pos) (rS X.K ca W (mAsg (dE C.G call e) (dG C.G call t))) := by
  have hk : X.env.scope.kind = .function := by rw [cx.scp]; exact cx.kind
  have hw : swappedStores [tg] x X.env = pure none := sw_none hk (by rw [cx.scp]; exact h3)
  have ha : (assignEach [tg] X.env).map (·.2) = [assign tg X.env] := by rw [asg1_ok h1]; rfl
  have hE := soundE e (X := X) (W := W) cx h2
  have hG := soundG t (X := X) (W := W) cx h1
  by_cases hn : noLc x = true
  · exact s_asg hE hG (swaps_no hn _ _ _) hw ha
  · -- a comprehension
    cases e with
    | lc mt t2 it c el own =>
      have h2' := h2
      unfold chkE at h2'
      split at h2'
      · rename_i el2 tg2 iter ifs as scope pos2
        simp only [Bool.and_eq_true, decide_eq_true_eq] at h2'
        obtain ⟨⟨⟨⟨⟨⟨g0, g1⟩, g2⟩, g3⟩, g4⟩, g5⟩, g6⟩ := h2'
        subst g0
        cases t with
        | nm i =>
          have h1' := h1
          unfold chkG at h1'
          split at h1'
          · rename_i y py
            simp only [Bool.and_eq_true, decide_eq_true_eq] at h1'
            have hs := swaps_lc (elt := el2) (gs := [⟨tg2, iter, ifs, 0⟩]) (scope := scope) (pos := pos2) (py := py) (y := y) (l := pos.line) (env := X.env) hk
            generalize hb : (decide (X.env.scope.names.lookup y = some .local) && (py.line == pos2.line) && !(scope.names.any fun (n, k) => n == y && (k == .local || k == .cell))) = b at hs
            cases b with
            | false => exact s_asg hE hG hs hw ha
            | true =>
              have hl : X.env.scope.names.lookup y = some .local := by
                simp only [Bool.and_eq_true, decide_eq_true_eq] at hb
                exact hb.1.1
              have ok : BlkOk N sc scope own := blkOk_by g1
              have ok' : BlkOk X.N X.env.scope scope own := by rw [cx.nm, cx.scp]; exact ok
              have hts : ∀ i ∈ tgSl t2, i ∈ own.map (·.2) := fun i hi => List.contains_iff_mem.mp (List.all_eq_true.mp g2 i hi)
              rw [show dE C.G call (.lc mt t2 it c el own) = (if mt = true then mLcM (dI C.G call it) (dG C.G call t2) (own.map (·.2)) (dC C.G call c) (dE C.G call el) else mLc (dI C.G call it) (dG C.G call t2) (own.map (·.2)) (dC C.G call c) (dE C.G call el)) from by rw [dE], show dG C.G call (.nm i) = gNm i from by rw [dG]]
              exact s_setLc mt cx.calm (by rw [cx.nm]; exact cx.nd) (by rw [cx.nm]; exact h1'.1) hl hs (soundI it cx g3) ok' hts (fun s H A cl fp => soundG t2 (cx.blk s H scope ok.kind cl A fp) g4) (fun s H A cl fp => soundC c (cx.blk s H scope ok.kind cl A fp) g5) (fun s H A cl fp => soundE el (cx.blk s H scope ok.kind cl A fp) g6) (fold_ok (okI g3) X.env)
          · cases h1'
        | tup ts =>
          have h1' := h1
          unfold chkG at h1'
          split at h1'
          · exact s_asg hE hG rfl hw ha
          · cases h1'
        | sub o i =>
          have h1' := h1
          unfold chkG at h1'
          split at h1'
          · exact s_asg hE hG rfl hw ha
          · cases h1'
      · cases h2'
    | _ => exact absurd (by unfold chkE at h2; split at h2 <;> first | rfl | (cases h2; done)) hn

mutual
theorem soundS : ∀ (s : S1) {N : List Str} {fl : Bool} {sc : Scope} {X : Cx} {W : WX} {x : Stmt}, Cxt C ca call k N fl sc X W → chkS C N fl sc s x = true → PS X x (rS X.K ca W (dS C.G call wf s))
  | .ex e, N, fl, sc, X, W, x, cx, h => by
    unfold chkS at h
    split at h
    · rw [Bool.and_eq_true] at h
      exact s_expr (soundE e cx h.2) (swaps_no h.1 _ _ _)
    · cases h
  | .doc, N, fl, sc, X, W, x, cx, h => by
    unfold chkS at h
    split at h
    · exact s_doc
    · cases h
  | .pass, N, fl, sc, X, W, x, cx, h => by
    unfold chkS at h
    split at h
    · exact s_pass
    · cases h
  | .brk, N, fl, sc, X, W, x, cx, h => by
    unfold chkS at h
    split at h
    · exact s_brk
    · cases h
  | .cnt, N, fl, sc, X, W, x, cx, h => by
    unfold chkS at h
    split at h
    · exact s_cnt
    · cases h
  | .ret e, N, fl, sc, X, W, x, cx, h => by
    unfold chkS at h
    split at h
    · exact s_ret (soundE e cx h)
    · cases h
  | .retN, N, fl, sc, X, W, x, cx, h => by
    unfold chkS at h
    split at h
    · exact s_retN
    · cases h
  | .asg t e, N, fl, sc, X, W, x, cx, h => by
    unfold chkS at h
    split at h
    · simp only [Bool.and_eq_true] at h
      exact sound_asg cx h.1.1 h.1.2 h.2
    · cases h
  | .aug i o e, N, fl, sc, X, W, x, cx, h => by
    unfold chkS at h
    split at h
    · simp only [Bool.and_eq_true, decide_eq_true_eq] at h
      obtain ⟨⟨⟨⟨h0, h1⟩, h2⟩, h3⟩, h4⟩ := h
      subst h0
      obtain ⟨R, r1, r2⟩ := iop_rule (X := X) (ca := ca) o h1
      obtain ⟨l, f⟩ := sto_of h3
      refine s_aug (by rw [cx.nm]; exact cx.nd) (by rw [cx.nm]; exact h2) (by rw [cx.scp]; exact l) (soundE e cx h4) r1 r2 ?_
      rcases f with f | f
      · exact .inl (cx.fn f _)
      · exact .inr (by rw [cx.scp]; exact f)
    · cases h
  | .par is es, N, fl, sc, X, W, x, cx, h => by
    have hk : X.env.scope.kind = .function := by rw [cx.scp]; exact cx.kind
    have hnd : X.N.Nodup := by rw [cx.nm]; exact cx.nd
    unfold chkS at h
    split at h
    · rename_i ts _ _ vs _ _ pos
      rw [Bool.and_eq_true] at h
      obtain ⟨h, hl⟩ := h
      have hL := soundL es (X := X) (W := W) cx hl
      split at h
      · simp only [Bool.and_eq_true, decide_eq_true_eq] at h
        obtain ⟨⟨⟨⟨⟨h0, h1⟩, h2⟩, h3⟩, h4⟩, h5⟩ := h
        exact PS.imp (ps_par cx.calm hnd (by rw [cx.nm]; exact h1) (by rw [cx.nm]; exact h2) h0 (by rw [cx.scp]; exact h3) (by rw [cx.scp]; exact h4) hL (swP_ok hk (by rw [cx.scp]; exact h5)) rfl) fun D s H hh => par_in hh
      · simp only [Bool.and_eq_true, decide_eq_true_eq] at h
        obtain ⟨⟨⟨⟨⟨⟨⟨⟨⟨h0, h01⟩, h02⟩, h1⟩, h2⟩, h21⟩, h3⟩, h4⟩, h41⟩, h5⟩ := h
        exact PS.imp (ps_par3 cx.calm hnd (by rw [cx.nm]; exact h1) (by rw [cx.nm]; exact h2) (by rw [cx.nm]; exact h21) h0 h01 h02 (by rw [cx.scp]; exact h3) (by rw [cx.scp]; exact h4) (by rw [cx.scp]; exact h41) hL (swP_ok hk (by rw [cx.scp]; exact h5)) rfl) fun D s H hh => par3_in hh
      · cases h
    · cases h
  | .ite c a b, N, fl, sc, X, W, x, cx, h => by
    unfold chkS at h
    split at h
    · simp only [Bool.and_eq_true] at h
      exact s_ite (soundT c cx h.1.1) (soundSs a cx h.1.2) (soundSs b cx h.2)
    · cases h
  | .for_ t it b, N, fl, sc, X, W, x, cx, h => by
    unfold chkS at h
    split at h
    · simp only [Bool.and_eq_true] at h
      exact s_for cx.po cx.calm (soundI it cx h.1.2) (soundG t cx h.1.1) (soundSs b cx h.2) (fold_ok (okI h.1.2) X.env)
    · cases h
  | .whl c b, N, fl, sc, X, W, x, cx, h => by
    unfold chkS at h
    split at h
    · simp only [Bool.and_eq_true] at h
      exact s_whl cx.po (soundT c cx h.1) (soundSs b cx h.2)
    · cases h
theorem soundSs : ∀ (ss : Ss) {N : List Str} {fl : Bool} {sc : Scope} {X : Cx} {W : WX} {xs : List Stmt}, Cxt C ca call k N fl sc X W → chkSs C N fl sc ss xs = true → PSs X xs (rS X.K ca W (dSs C.G call wf ss))
  | .nil, N, fl, sc, X, W, xs, cx, h => by
    unfold chkSs at h
    cases xs with
    | nil => exact s_nil
    | cons _ _ => cases h
  | .cons s ss, N, fl, sc, X, W, xs, cx, h => by
    unfold chkSs at h
    split at h
    · rw [Bool.and_eq_true] at h
      exact s_cons (soundS s cx h.1) (soundSs ss cx h.2)
    · cases h
end
end
end Z

/-! Z layer, part M: defs by their bodies; the law's end. -/
namespace Z
open PySem PySem.Spec PyProof.Rows L2

structure Fn where
  np : Nat
  ns : Nat
  body : Ss
def fnEnd (o : OutS) : Out D := match o with
  | .ok .nx _ S => .ok .non S
  | .ok (.rt d) _ S => .ok d S
  | .exc c fs _ S => .exc c fs S
  | _ => .bad
def slots0 (ns : Nat) (args : List D) : Sl := args.map some ++ List.replicate (ns - args.length) none
/-- a call of the f-th def; k: how deep calls may go; wf: how many turns a while may take -/
def run (T : List Fn) (G : List D) (wf : Nat) : Nat → Nat → List D → Sto → Out D
  | 0, _, _, _ => .bad
  | k + 1, f, args, S => match T[f]? with
    | some fn => if args.length = fn.np then fnEnd (dSs G (run T G wf k) wf fn.body (slots0 fn.ns args) S) else .bad
    | none => .bad

/-- the body of a def, with what is known of its scope -/
structure FnText (C : Tab) (fn : Fn) (N ps : List Str) (sc : Scope) (body : List Stmt) : Prop where
  scope : FnScope N ps sc
  np : ps.length = fn.np
  ns : N.length = fn.ns
  chk : chkSs C N true sc fn.body body = true

section
variable {P : Program} {w : World} {K : PySem.W.Frag} {mg : Str → Option Value} {base : Heap} {C : Tab} {ca : Nat → Addr} {T : List Fn} {wf : Nat}
theorem slots_start {H : Hp} {r : Rg} {ds : List D} {vs : List V} {N : List Str} {ns : Nat} (h : Reps K H r ds vs) (hn : N.length = ns) (hl : ds.length ≤ ns) : Slots K H r (slots0 ns ds) (start N vs) := by
  have e := h.length
  refine ⟨by unfold slots0 L2.start; simp; omega, fun i d hd => ?_⟩
  unfold slots0 at hd
  unfold L2.start
  by_cases hi : i < ds.length
  · rw [List.getElem?_append_left (by simpa using hi), List.getElem?_map] at hd
    cases q : ds[i]? with
    | none => rw [q] at hd; cases hd
    | some d' =>
      rw [q] at hd
      cases hd
      obtain ⟨v, h1, h2⟩ := h.get q
      exact ⟨v, by rw [List.getElem?_append_left (by simpa [← e] using hi), List.getElem?_map, h1]; rfl, h2⟩
  · rw [List.getElem?_append_right (by simpa using hi), List.getElem?_replicate] at hd
    split at hd <;> cases hd
theorem fnEnd_ln {H : Hp} {r : Rg} {o : OutS} {Q : VK} {E : XK} (h : Ln K ca (rV K) H r (fnEnd o) Q E) : LnS K ca H r o { nx := fun _ H' => Q .non H', rt := Q } (fun c d _ H' => E c d H') := by
  cases o with
  | bad => exact h
  | exc c fs sd S => exact fun cls d s H' r' x m _ q => h cls d H' r' x m q
  | ok f sd S => cases f with
    | nx => exact fun s H' r' x m _ => h .non H' r' x m .non
    | rt d => exact fun v H' r' x m q => h v H' r' x m q
    | bk => exact h.elim
    | ct => exact h.elim
/-- facts of the module that every body may use -/
structure ModOk (K : PySem.W.Frag) (mg : Str → Option Value) (C : Tab) : Prop where
  blt : ∀ x ∈ bltN, mg (Str.ofString x) = none
  gl : ∀ (j : Nat) (x : Str) (d : D), C.gl[j]? = some (x, d) → ∃ u v, mg x = some u ∧ RelV v u ∧ ∀ H r, Rep K H r d v
/-- a def of the text, as it stands behind the top -/
structure DefOk (K : PySem.W.Frag) (mg : Str → Option Value) (C : Tab) (fn : Fn) (x : Str) (f : Addr) (fd : FuncData) (ps : List Str) : Prop where
  at_ : mg x = some (.ref f)
  bn : Binds K fd ps []
  ex : ∃ (N : List Str) (qual : Str) (params : Arguments) (body : List Stmt) (scope : Scope), FnText C fn N ps scope body ∧ FunD K x qual params body scope [] [] f fd
theorem fn_ok {fn : Fn} {x : Str} {f : Addr} {fd : FuncData} {ps : List Str} {k i : Nat} (M : ModOk K mg C) (Dk : DefOk K mg C fn x f fd ps) (hi : T[i]? = some fn)
    (fns : ∀ (f : Nat) (x : Str) (n : Nat), C.fns[f]? = some (x, n) → ∃ (a : Addr) (fd : FuncData) (ps : List Str), ps.length = n ∧ mg x = some (.ref a) ∧ PySem.W.keepIn K (.ref a) = true ∧ Binds K fd ps [] ∧ FnZ P w K mg base k a fd ps (spOf K ca n (run T C.G wf k f))) :
    FnZ P w K mg base (k + 1) f fd ps (spOf K ca fn.np (run T C.G wf (k + 1) i)) := by
  obtain ⟨N, qual, params, body, scope, tx, F⟩ := Dk.ex
  obtain ⟨oc, od, dV, kV, doc, pm, an, cdv, ct, osl, rfl, lk, hcd, _, _⟩ := F.ex
  have SC := tx.scope
  refine ⟨fun vs H Q E h => by rw [h.1, tx.np], fun A outer s H args us vs Q E room gd e0 bt rv hsp => ?_⟩
  obtain ⟨hl, ds, r, S, hr, m, hq⟩ := hsp
  have KX : K.In s.heap := e0.mod.kin.keeps fun b o e => (e0.bs b o e).1
  have lim : s.heap.NoLimit := e0.mod.nolimit.keeps fun b o e => (e0.bs b o e).1
  have hlen : vs.length = ps.length := by rw [hl, tx.np]
  have kinds : ∀ y ∈ ps.zip us, scope.names.lookup y.1 = some .local ∨ (scope.names.lookup y.1 = some .cell ∧ ((cellsFrom (s.heap.objs.size + 1) scope.names []).lookup y.1).isSome = true) := by
    rintro ⟨n, v⟩ hy
    cases SC.par n (List.of_mem_zip hy).1 with
    | inl q => exact .inl q
    | inr q => exact .inr ⟨q, PySem.W.cellsFrom_some _ _ _ (.inl q)⟩
  refine codeAny_call_function room.depth (KX _ _ lk) rfl SC.co SC.gen rfl (PySem.W.codeRec_of KX hcd) (bt _ _ _ _ ?_)
  refine wpAny_newFunctionEnv_cells SC.kind kinds fun env he s1 inc => ?_
  subst he
  refine ⟨lim.keeps inc.toInCall.keep, codeAny_func ?_⟩
  have I : Inv (cxOf (L2.CX P w) P w K mg base N qual scope f cdv A outer s H E) [] (start N vs) H s1 := inv_start SC room.hd e0 hlen rv inc
  have cx : Cxt C ca (run T C.G wf k) k N true scope (cxOf (L2.CX P w) P w K mg base N qual scope f cdv A outer s H E) (fun c d _ H' => E c d H') :=
    ⟨rfl, SC.kind, rfl, rfl, SC.nd, fun _ _ => rfl, room.deeper _, gd, takes_of rfl rfl rfl rfl, passes_of rfl, M.blt, M.gl, fns⟩
  have B := soundSs (wf := wf) fn.body cx tx.chk
  have hds : ds.length = fn.np := by rw [hr.length]; exact hl
  have hsub : ps.length ≤ N.length := by
    have := congrArg List.length SC.pre
    rw [List.length_take] at this; omega
  simp only [run, hi, hds, ↓reduceIte] at hq
  have rd : rS K ca (fun c d _ H' => E c d H') (dSs C.G (run T C.G wf k) wf fn.body) { nx := fun _ H' => Q .non H', rt := Q } (start N vs) H :=
    ⟨slots0 fn.ns ds, r, S, slots_start hr tx.ns (by rw [hds, ← tx.np, ← tx.ns]; exact hsub), m, fnEnd_ln hq⟩
  refine wpAny_mono (B.run [] s1 (start N vs) H _ I rd) (fun fl s' hs => ?_) fun e s' hs => hs
  have ret : ∀ {σ' : L2.St} {H' : Hp} {v : V} {u : Value}, Inv (cxOf (L2.CX P w) P w K mg base N qual scope f cdv A outer s H E) [] σ' H' s' → RelV v u → Q v H' → CE outer P w H s Q u s' :=
    fun J ru q => ⟨_, _, J.os, J.bare, J.base, J.hok, ru, q⟩
  match fl, hs with
  | .ret u, ⟨v, σ', H', J, ru, q⟩ => exact ret J ru q
  | .next, ⟨σ', H', J, q⟩ => exact ret (v := V.non) (u := Value.none) J rfl q
  | .brk, ⟨_, _, _, q⟩ => exact False.elim q
  | .cont, ⟨_, _, _, q⟩ => exact False.elim q
/-- all defs at once -/
theorem all_ok (M : ModOk K mg C) (lenT : C.fns.length = T.length) (defs : ∀ (f : Nat) (x : Str) (n : Nat) (fn : Fn), C.fns[f]? = some (x, n) → T[f]? = some fn → fn.np = n ∧ ∃ (a : Addr) (fd : FuncData) (ps : List Str), DefOk K mg C fn x a fd ps ∧ PySem.W.keepIn K (.ref a) = true ∧ ps.length = n) :
    ∀ (k f : Nat) (x : Str) (n : Nat), C.fns[f]? = some (x, n) → ∃ (a : Addr) (fd : FuncData) (ps : List Str), ps.length = n ∧ mg x = some (.ref a) ∧ PySem.W.keepIn K (.ref a) = true ∧ Binds K fd ps [] ∧ FnZ P w K mg base k a fd ps (spOf K ca n (run T C.G wf k f))
  | 0, f, x, n, e => by
    have hl : f < T.length := by rw [← lenT]; exact (List.getElem?_eq_some_iff.mp e).1
    obtain ⟨_, a, fd, ps, Dk, kp, hp⟩ := defs f x n T[f] e (List.getElem?_eq_getElem hl)
    exact ⟨a, fd, ps, hp, Dk.at_, kp, Dk.bn, fun vs H Q E h => by rw [h.1, hp], fun A outer s H args us vs Q E _ _ _ _ _ h => by obtain ⟨_, _, _, _, _, _, z⟩ := h; exact z.elim⟩
  | k + 1, f, x, n, e => by
    have hl : f < T.length := by rw [← lenT]; exact (List.getElem?_eq_some_iff.mp e).1
    obtain ⟨hn, a, fd, ps, Dk, kp, hp⟩ := defs f x n T[f] e (List.getElem?_eq_getElem hl)
    refine ⟨a, fd, ps, hp, Dk.at_, kp, Dk.bn, ?_⟩
    have := fn_ok (P := P) (w := w) (base := base) (ca := ca) (wf := wf) M Dk (List.getElem?_eq_getElem hl) (all_ok M lenT defs k)
    rw [hn] at this
    exact this
end

/-! ### the end -/
section
variable {P : Program} {w : World} {K : PySem.W.Frag} {mg mb : Str → Option Value} {k : Nat} {fa a : Addr} {fd : FuncData} {x : Str} {sp : Sp} {s1 : Shared} {vs : List Value} {ns : List Int}
theorem law_from (H : Hp) (only : Only H) (sq : SqL K H a (ns.map V.int)) (hok : HOk P w H s1.heap) (here : ∀ b, H b ≠ none → b = a) (out : H a ≠ none → K.lookup a = none)
    (KX : K.In s1.heap) (g : s1.heap.Ns mainGlobals mg) (b : s1.heap.Ns builtinsNs mb) (bb : ∀ x : Str, x ≠ "__name__" → mb x = bootBuiltins x) (lim : s1.heap.NoLimit) (gens : s1.gens = #[])
    (ha : s1.heap.get? a = some { cls := .type "list", data := .seq vs.toArray }) (room : Room k callerA) (F : ∀ base : Heap, K.In base → base.Ns mainGlobals mg → FnZ P w K mg base k fa fd [x] sp)
    (bind : ∀ (s : Shared) (u : Value), BindsTo s fd ⟨[u], []⟩ [(x, u)]) (hsp : sp [.ref a] H (fun v _ => v = .bl true) fun _ _ _ => False) :
    codeAny (model P w) callerA (.call (.ref fa) ⟨[.ref a], []⟩) (fun r s' => r = .ok (.ret (.bool true)) ∧ OldK s1.heap s'.heap ∧ s'.os = s1.os ∧ AllBare s'.gens) s1 := by
  have plain : ∀ {c : Addr} {o : Obj} {es : Array DictEntry} {ep : Nat}, s1.heap.get? c = some o → o.data = .dict es ep → H c = none := by
    intro c o es ep hc hd
    refine Classical.byContradiction fun z => ?_
    have hca := here c z
    subst hca
    rw [ha] at hc
    cases hc
    exact nomatch (show Data.seq vs.toArray _ = Data.dict es ep from hd)
  have nsK : ∀ {c : Addr} {m : Str → Option Value}, s1.heap.Ns c m → (hidT s1.heap H).Ns c m := by
    rintro c m ⟨o, es, ep, hc, hd, rest⟩
    exact ⟨o, es, ep, hidT_get hc (plain hc hd), hd, rest⟩
  have kin : K.In (hidT s1.heap H) := fun c o hc => hidT_get (KX c o hc) (Classical.byContradiction fun z => by
    have hca := here c z
    subst hca
    have := out z
    rw [hc] at this
    cases this)
  have hmod : Mod K mg (hidT s1.heap H) := ⟨kin, nsK g, ⟨mb, nsK b, bb⟩, by obtain ⟨mc, h1, h2⟩ := lim; exact ⟨mc, nsK h1, h2⟩⟩
  have env : Env0 P w K mg (hidT s1.heap H) callerA [] s1 H := ⟨rfl, hmod, fun _ _ e => of_hidT e, Nat.le_of_eq (hidT_size _ _), trivial, fun c z => absurd (show c ∈ ([] : List Addr) from z) List.not_mem_nil, hok, .of_eq gens⟩
  refine codeAny_mono ((F _ kin (nsK g)).run callerA [] s1 H ⟨[.ref a], []⟩ [.ref a] [.ref a] _ _ room rfl env (bind s1 (.ref a)) (.cons rfl .nil) hsp) fun res s' hres => ?_
  match res, hres with
  | .error e, hres =>
    obtain ⟨_, _, _, _, _, _, _, _, _, _, _, _, z⟩ := hres
    exact z.elim
  | .ok .next, hres => exact False.elim hres
  | .ok .brk, hres => exact False.elim hres
  | .ok .cont, hres => exact False.elim hres
  | .ok (.ret u), hres =>
    obtain ⟨v, H', os, bare, un, hok', rv, q⟩ := hres
    have q' : v = .bl true := q
    subst q'
    have hu : u = Value.bool true := rv
    subst hu
    refine ⟨rfl, OldK.of_keep fun c o hc => ?_, os, bare⟩
    rcases only c with z | ⟨ob, xs, z⟩
    · exact un.keep c o hc z (fun y => absurd (show c ∈ ([] : List Addr) from y) List.not_mem_nil) List.not_mem_nil
    · have e1 := (hok c _ z).1
      have e2 := (hok' c _ (un.frzs c ob _ z)).1
      rw [hc] at e1
      cases e1
      exact e2
theorem law_callZ (KX : K.In s1.heap) (g : s1.heap.Ns mainGlobals mg) (b : s1.heap.Ns builtinsNs mb) (bb : ∀ x : Str, x ≠ "__name__" → mb x = bootBuiltins x) (lim : s1.heap.NoLimit) (gens : s1.gens = #[])
    (ha : s1.heap.get? a = some { cls := .type "list", data := .seq vs.toArray }) (hi : IntsAre vs ns) (hl : ns.length ≤ sizeLine) (room : Room k callerA) (F : ∀ base : Heap, K.In base → base.Ns mainGlobals mg → FnZ P w K mg base k fa fd [x] sp)
    (bind : ∀ (s : Shared) (u : Value), BindsTo s fd ⟨[u], []⟩ [(x, u)]) (hsp : ∀ H : Hp, Only H → FL K H a (ns.map V.int) → sp [.ref a] H (fun v _ => v = .bl true) fun _ _ _ => False) :
    codeAny (model P w) callerA (.call (.ref fa) ⟨[.ref a], []⟩) (fun r s' => r = .ok (.ret (.bool true)) ∧ OldK s1.heap s'.heap ∧ s'.os = s1.os ∧ AllBare s'.gens) s1 := by
  have rv := vals_ints hi
  cases hk : K.lookup a with
  | some o =>
    have e := KX a o hk
    rw [ha] at e
    cases e
    have kl : KL K a (ns.map V.int) := ⟨_, vs.toArray, _, hk, rfl, rfl, rfl, by rw [List.size_toArray, hi.length]; exact hl, by simpa using rv⟩
    exact law_from (fun _ => none) (fun _ => .inl rfl) (.inr kl) (fun c u z => nomatch (show (none : Option HO) = some u from z)) (fun _ z => absurd rfl z) (fun z => absurd rfl z) KX g b bb lim gens ha room F bind (hsp _ (fun _ => .inl rfl) (.inr kl))
  | none =>
    let H : Hp := fun c => if c = a then some (.frz { cls := .type "list", data := .seq vs.toArray } (.lst (ns.map V.int))) else none
    have hat : H a = some (.frz { cls := .type "list", data := .seq vs.toArray } (.lst (ns.map V.int))) := if_pos rfl
    have hno : ∀ c, c ≠ a → H c = none := fun c z => if_neg z
    have only : Only H := fun c => by
      by_cases z : c = a
      · exact .inr ⟨_, _, if_pos z⟩
      · exact .inl (hno c z)
    refine law_from H only (.inl (.inr ⟨_, hat⟩)) (fun c u z => ?_) (fun c z => Classical.byContradiction fun y => z (hno c y)) (fun _ => hk) KX g b bb lim gens ha room F bind (hsp H only (.inl ⟨_, hat⟩))
    by_cases y : c = a
    · subst y
      rw [hat] at z
      cases z
      exact ⟨ha, by rw [List.length_map]; exact hl, vs, _, rv, ha⟩
    · rw [hno c y] at z
      cases z
end
end Z

/-! Z layer, part N: rows of defs, the head. -/
namespace Z
open PySem PySem.Spec PyProof.Rows L2

theorem lookup_zip {ps : List Str} (nd : ps.Nodup) : ∀ {us : List Value}, us.length = ps.length → ∀ n ∈ ps, ((ps.zip us).lookup n).isNone = false := by
  induction ps with
  | nil => intro us _ n hn; cases hn
  | cons p ps ih =>
    intro us hl n hn
    cases us with
    | nil => cases hl
    | cons u us =>
      rw [List.zip_cons_cons, List.lookup_cons]
      by_cases e : n = p
      · subst e; simp
      · have : (n == p) = false := by simpa using e
        rw [this]
        rcases List.mem_cons.mp hn with h | h
        · exact absurd h e
        · exact ih (List.nodup_cons.mp nd).2 (by simpa using hl) n h
theorem fm_congr {α β : Type} {f g : α → Option β} : ∀ {l : List α}, (∀ a ∈ l, f a = g a) → l.filterMap f = l.filterMap g
  | [], _ => rfl
  | a :: l, h => by
    rw [List.filterMap_cons, List.filterMap_cons, h a (by simp), fm_congr fun b hb => h b (by simp [hb])]
theorem filterMap_zip {ps : List Str} (nd : ps.Nodup) : ∀ {us : List Value}, us.length = ps.length → ps.filterMap (fun n => ((ps.zip us).lookup n).map (n, ·)) = ps.zip us := by
  induction ps with
  | nil => intro us _; rfl
  | cons p ps ih =>
    intro us hl
    cases us with
    | nil => cases hl
    | cons u us =>
      rw [List.zip_cons_cons, List.filterMap_cons, List.lookup_cons]
      simp only [beq_self_eq_true, Option.map_some]
      congr 1
      rw [← ih (List.nodup_cons.mp nd).2 (show us.length = ps.length by simpa using hl)]
      refine fm_congr fun n hn => ?_
      have : (n == p) = false := by
        have : n ≠ p := fun e => (List.nodup_cons.mp nd).1 (e ▸ hn)
        simpa using this
      rw [List.lookup_cons, this, ih (List.nodup_cons.mp nd).2 (show us.length = ps.length by simpa using hl)]
theorem bind_plain {x qual : Str} {as : List Arg} {body : List Stmt} {scope : Scope} {kV doc pm : Value} {an : Option Addr} {cdv ct : Value} {ps : List Str} (hps : as.map (·.arg) = ps) (nd : ps.Nodup) (us : List Value) (hl : us.length = ps.length) :
    bindArgs (PySem.W.fnOf x qual ⟨[], as, none, [], [], none, []⟩ body scope .none kV doc pm an cdv ct) ⟨us, []⟩ = pure (ps.zip us) := by
  have h1 := lookup_zip nd hl
  have h2 := filterMap_zip nd hl
  have h3 : ps.filter (fun n => ((ps.zip us).lookup n).isNone) = [] := List.filter_eq_nil_iff.mpr fun n hn => by rw [h1 n hn]; simp
  have h4 : ¬ us.length > ps.length := by omega
  have e1 : seqItems? Value.none = pure none := rfl
  unfold bindArgs PySem.W.fnOf
  simp only [hps, List.map_nil, List.nil_append, List.append_nil, e1, List.forIn_nil, pure_bind, Option.getD_none, List.length_nil, Nat.zero_sub, List.drop_zero, Nat.sub_zero, List.take_length, h3, h4, h2, List.isEmpty_nil, Bool.not_true, Bool.false_eq_true, ↓reduceIte, decide_false, Bool.false_and, List.drop_length, List.zip_nil_left, List.drop_nil]

/-! ### one row a def -/
structure Row where
  x : Str
  ps : List Str
  N : List Str
  fn : Fn
  st : Stmt
def Row.dfd (r : Row) : He.DefD := ⟨(r.x, none), r.x, r.x, defArgs r.st, defBody r.st, defScope r.st, [], []⟩
def argsOk (p : Arguments) (ps : List Str) : Bool := match p with
  | ⟨[], as, none, [], [], none, []⟩ => decide (as.map (·.arg) = ps)
  | _ => false
def scOk (N ps : List Str) (sc : Scope) : Bool := (match sc.kind with | .function => true | _ => false) && !sc.isCoroutine && !sc.isGenerator && decide N.Nodup && decide (N.take ps.length = ps) &&
  (ps.all fun x => match sc.names.lookup x with | some .local => true | some .cell => true | _ => false) && (sc.names.all fun y => match y.2 with | .free => false | _ => true)
def rowOk (C : Tab) (r : Row) : Bool := scOk r.N r.ps (defScope r.st) && decide (r.ps.length = r.fn.np) && decide (r.N.length = r.fn.ns) && argsOk (defArgs r.st) r.ps && chkSs C r.N true (defScope r.st) r.fn.body (defBody r.st)
theorem scOk_ok {N ps : List Str} {sc : Scope} (h : scOk N ps sc = true) : FnScope N ps sc := by
  unfold scOk at h
  simp only [Bool.and_eq_true, decide_eq_true_eq, Bool.not_eq_true'] at h
  obtain ⟨⟨⟨⟨⟨⟨h1, h2⟩, h3⟩, h4⟩, h5⟩, h6⟩, h7⟩ := h
  refine ⟨?_, h2, h3, h4, h5, fun x hx => ?_, fun y hy e => ?_⟩
  · split at h1
    · assumption
    · cases h1
  · have := List.all_eq_true.mp h6 x hx
    split at this <;> first | exact .inl (by assumption) | exact .inr (by assumption) | (cases this; done)
  · have := List.all_eq_true.mp h7 y hy
    rw [e] at this
    cases this
theorem rowOk_text {C : Tab} {r : Row} (h : rowOk C r = true) : FnText C r.fn r.N r.ps (defScope r.st) (defBody r.st) ∧ argsOk (defArgs r.st) r.ps = true := by
  unfold rowOk at h
  simp only [Bool.and_eq_true, decide_eq_true_eq] at h
  obtain ⟨⟨⟨⟨h1, h2⟩, h3⟩, h4⟩, h5⟩ := h
  exact ⟨⟨scOk_ok h1, h2, h3, h5⟩, h4⟩
theorem FnScope.psnd {N ps : List Str} {sc : Scope} (S : FnScope N ps sc) : ps.Nodup := by
  rw [← S.pre]; exact S.nd.sublist (List.take_sublist _ _)
theorem row_binds {K : PySem.W.Frag} {x qual : Str} {p : Arguments} {body : List Stmt} {scope : Scope} {f : Addr} {fd : FuncData} {ps : List Str} (F : FunD K x qual p body scope [] [] f fd) (h : argsOk p ps = true) (nd : ps.Nodup) :
    Binds K fd ps [] ∧ ∀ (s : Shared) (us : List Value), us.length = ps.length → BindsTo s fd ⟨us, []⟩ (ps.zip us) := by
  unfold argsOk at h
  split at h
  · have e := of_decide_eq_true h
    exact ⟨F.bindsN fun kV doc pm an cdv ct us hl => bind_plain e nd us hl, fun s us hl => F.bindsA (fun kV doc pm an cdv ct us hl => bind_plain e nd us hl) s us hl⟩
  · cases h

/-! ### values of the module's names -/
section
variable (K : PySem.W.Frag)
mutual
def repB : D → Value → Bool
  | .non, u => (match u with | .none => true | _ => false)
  | .bl b, u => (match u with | .bool c => b == c | _ => false)
  | .int i, u => (match u with | .int j _ => decide (i = j) | _ => false)
  | .str x, u => (match u with | .str y _ => decide (x = y) | _ => false)
  | .tup ds, u => (match u with
    | .ref a => (match K.lookup a with
      | some ⟨.type c, _, .seq its _, _⟩ => decide (c = "tuple") && decide (its.size ≤ 16777216) && repsB ds its.toList
      | _ => false)
    | _ => false)
  | .lst _, _ => false
  | .fro _, _ => false
  | .loc _, _ => false
def repsB : List D → List Value → Bool
  | [], us => us.isEmpty
  | d :: ds, us => match us with
    | u :: us => repB d u && repsB ds us
    | [] => false
end
def gloB (x : Str) (d : D) : Bool := match PySem.W.nsIn K mainGlobals x with
  | some (some u) => repB K d u
  | _ => false
end
section
variable {K : PySem.W.Frag}
mutual
theorem repB_ok : ∀ {d : D} {u : Value}, repB K d u = true → ∃ v, RelV v u ∧ ∀ H r, Rep K H r d v
  | .non, u, h => by
    unfold repB at h
    split at h
    · exact ⟨.non, rfl, fun _ _ => .non⟩
    · cases h
  | .bl b, u, h => by
    unfold repB at h
    split at h
    · rename_i c
      have e : b = c := eq_of_beq h
      subst e
      exact ⟨.bl b, rfl, fun _ _ => .bl b⟩
    · cases h
  | .int i, u, h => by
    unfold repB at h
    split at h
    · have e := of_decide_eq_true h
      subst e
      exact ⟨.int i, ⟨_, rfl⟩, fun _ _ => .int i⟩
    · cases h
  | .str x, u, h => by
    unfold repB at h
    split at h
    · have e := of_decide_eq_true h
      subst e
      exact ⟨.str x, ⟨_, rfl⟩, fun _ _ => .str x⟩
    · cases h
  | .tup ds, u, h => by
    unfold repB at h
    split at h
    · rename_i a
      split at h
      · rename_i c od its n sl e
        simp only [Bool.and_eq_true, decide_eq_true_eq] at h
        obtain ⟨⟨h1, h2⟩, h3⟩ := h
        obtain ⟨vs, r1, r2⟩ := repsB_ok h3
        exact ⟨.ref a, rfl, fun H r => .tup (.inr ⟨_, its, n, e, by rw [h1], rfl, by rw [sizeLine_eq]; exact h2, r1⟩) (r2 H r)⟩
      · cases h
    · cases h
  | .lst _, u, h => by unfold repB at h; cases h
  | .fro _, u, h => by unfold repB at h; cases h
  | .loc _, u, h => by unfold repB at h; cases h
theorem repsB_ok : ∀ {ds : List D} {us : List Value}, repsB K ds us = true → ∃ vs, Vals vs us ∧ ∀ H r, Reps K H r ds vs
  | [], us, h => by
    unfold repsB at h
    cases us with
    | nil => exact ⟨[], .nil, fun _ _ => .nil⟩
    | cons _ _ => cases h
  | d :: ds, us, h => by
    unfold repsB at h
    split at h
    · rw [Bool.and_eq_true] at h
      obtain ⟨v, r1, r2⟩ := repB_ok h.1
      obtain ⟨vs, s1, s2⟩ := repsB_ok h.2
      exact ⟨v :: vs, .cons r1 s1, fun H r => .cons (r2 H r) (s2 H r)⟩
    · cases h
end
end

/-! ### the head's facts -/
def obsZ (fr : List Str) (gl : List (Str × D)) (fn : List He.DefD) (K : PySem.W.Frag) : He.AlD :=
  ((fr.all fun x => (He.Fa.free x).ok K) && (gl.all fun p => gloB K p.1 p.2) && (fn.all fun d => d.ok K && (He.Fa.glo d.at_.1).ok K), fn.map fun d => He.fnW K d.at_)
def valZ (fn : List He.DefD) : He.AlD := (true, fn.map He.DefD.val)
def SaysZ (fr : List Str) (gl : List (Str × D)) (fn : List He.DefD) (K : PySem.W.Frag) : Prop := obsZ fr gl fn K = valZ fn
def obsZG (n : Nat) (fr : List Str) (gl : List (Str × D)) (fn : List He.DefD) (g : Addr → Option Obj) : He.AlD := obsZ fr gl fn (He.frG g (He.asD g n))
def hookZ (n : Nat) (fr : List Str) (gl : List (Str × D)) (fn : List He.DefD) : PySem.W.Hook where
  α := He.AlD
  obs := fun s => obsZG n fr gl fn s.heap.get?
  val := fun _ => valZ fn
  says := fun _ h => ∃ K : PySem.W.Frag, K.In h ∧ SaysZ fr gl fn K
  of := fun _ _ e => ⟨_, He.frG_in, e⟩
  keeps := fun _ _ _ ⟨K, hK, c⟩ k => ⟨K, PySem.W.Frag.In.keeps hK k, c⟩
theorem obsZG_eq {n : Nat} {fr : List Str} {gl : List (Str × D)} {fn : List He.DefD} {g : Addr → Option Obj} {s : Shared} (h : ∀ a, g a = s.heap.get? a) : obsZG n fr gl fn g = (hookZ n fr gl fn).obs s := by
  rw [show g = s.heap.get? from funext h]; rfl

/-- THE END: what is left of a law is a statement about run -/
theorem walk_ofZ {l : PySem.W.OpenLaw} {n k : Nat} {q : Program} {loose : List Str} {XP : (Str → Option Value) → Heap → Prop} {YP : World → Heap → Prop} {d : DefRec} {x : Str} {fr : List Str} {gl : List (Str × D)} {rows : List Row} {i : Nat} {row : Row}
    (hn : l.most = some n) (hn2 : n ≤ sizeLine) (hdf : d.params.defaults = []) (room : Room k callerA) (hY : ∀ w h, YP w h → ∃ K : PySem.W.Frag, K.In h ∧ SaysZ fr gl (rows.map Row.dfd) K)
    (hfr : (bltN.all fun x => fr.contains (Str.ofString x)) = true) (hi : rows[i]? = some row) (hname : d.name = row.x) (hps : row.ps = [x]) (hrows : (rows.all (rowOk ⟨rows.map fun r => (r.x, r.ps.length), gl⟩)) = true)
    (math : ∀ ns : List Int, ns.length ≤ n → ∃ wf S', run (rows.map Row.fn) (gl.map (·.2)) wf k i [.fro (ns.map .int)] [] = .ok (.bl true) S') :
    PySem.W.WalkO q loose XP YP l.row.toRowW d [] (fun f vs => PySem.call f vs) := by
  refine Att.attach_call hn hdf fun w s₀ s₁ mg mb fa o pm cd doc a vs ns G Y ho hd hcd hmg hobj hints hlen hg => ?_
  obtain ⟨K, KX, says⟩ := hY w _ Y
  have c1 : ((fr.all fun x => (He.Fa.free x).ok K) && (gl.all fun p => gloB K p.1 p.2) && ((rows.map Row.dfd).all fun d => d.ok K && (He.Fa.glo d.at_.1).ok K)) = true := congrArg (fun z : He.AlD => z.1) says
  have c2 : (rows.map Row.dfd).map (fun d => He.fnW K d.at_) = (rows.map Row.dfd).map He.DefD.val := congrArg (fun z : He.AlD => z.2) says
  simp only [Bool.and_eq_true] at c1
  obtain ⟨⟨f1, f2⟩, f3⟩ := c1
  let C : Tab := ⟨rows.map fun r => (r.x, r.ps.length), gl⟩
  have M : ModOk K mg C := by
    refine ⟨fun y hy => ?_, fun j z dd e => ?_⟩
    · have h1 := List.all_eq_true.mp hfr y hy
      exact He.free_ok KX G.T.g (List.all_eq_true.mp f1 _ (List.contains_iff_mem.mp h1))
    · have h1 := List.all_eq_true.mp f2 (z, dd) (List.mem_of_getElem? e)
      unfold gloB at h1
      split at h1
      · rename_i u eu
        obtain ⟨v, r1, r2⟩ := repB_ok h1
        exact ⟨u, v, PySem.W.mg_of KX G.T.g eu, r1, r2⟩
      · cases h1
  have funs : ∀ (j : Nat) (r : Row), rows[j]? = some r → FnText C r.fn r.N r.ps (defScope r.st) (defBody r.st) ∧ argsOk (defArgs r.st) r.ps = true ∧ mg r.x = some (.ref (He.ga K r.x)) ∧ ∃ fd, FunD K r.x r.x (defArgs r.st) (defBody r.st) (defScope r.st) [] [] (He.ga K r.x) fd := by
    intro j r hj
    have hm : r ∈ rows := List.mem_of_getElem? hj
    obtain ⟨tx, ha⟩ := rowOk_text (List.all_eq_true.mp hrows r hm)
    have h3 := List.all_eq_true.mp f3 r.dfd (List.mem_map_of_mem hm)
    rw [Bool.and_eq_true] at h3
    have e2 : ((rows.map Row.dfd).map fun d => He.fnW K d.at_)[j]? = ((rows.map Row.dfd).map He.DefD.val)[j]? := by rw [c2]
    simp only [List.getElem?_map, hj, Option.map_some] at e2
    obtain ⟨fd, F⟩ := He.DefD.funD (d := r.dfd) (Option.some.inj e2) h3.1
    exact ⟨tx, ha, He.glo_ok KX G.T.g h3.2, fd, F⟩
  have hT : ∀ base : Heap, ∀ wf k, _ := fun base wf k => all_ok (P := l.prog) (w := w) (base := base) (ca := fun _ => 0) (wf := wf) (T := rows.map Row.fn) M (by simp [C]) (fun f z m fn e1 e2 => by
    simp only [C, List.getElem?_map, Option.map_eq_some_iff] at e1 e2
    obtain ⟨r, hr, e1⟩ := e1
    obtain ⟨r', hr', e2⟩ := e2
    rw [hr] at hr'
    cases hr'
    cases e1
    subst e2
    obtain ⟨tx, ha, hg, fd, F⟩ := funs f r hr
    exact ⟨tx.np.symm, _, fd, r.ps, ⟨hg, (row_binds F ha (FnScope.psnd tx.scope)).1, r.N, r.x, _, _, _, tx, F⟩, F.kp, rfl⟩) k
  obtain ⟨tx, ha, hg2, fd0, F0⟩ := funs i row hi
  have eC : C.fns[i]? = some (row.x, 1) := by simp [C, List.getElem?_map, hi, hps]
  have efa : He.ga K row.x = fa := by
    rw [hname, hg2] at hmg
    injection hmg with e
    injection e
  -- the function object at the law's own address, fixed ahead of the base
  have hF : ∀ base : Heap, K.In base → base.Ns mainGlobals mg → FnZ l.prog w K mg base k fa fd0 [x] (fun vs H Q E => ∃ wf, spOf K (fun _ => 0) 1 (run (rows.map Row.fn) C.G wf k i) vs H Q E) := by
    intro base _ _
    have one : ∀ wf, FnZ l.prog w K mg base k fa fd0 [x] (spOf K (fun _ => 0) 1 (run (rows.map Row.fn) C.G wf k i)) := by
      intro wf
      cases k with
      | zero => exact ⟨fun vs H Q E h => by rw [h.1]; rfl, fun A outer s H args us vs Q E _ _ _ _ _ h => by obtain ⟨_, _, _, _, _, _, z⟩ := h; exact z.elim⟩
      | succ k =>
        have hfn := fn_ok (P := l.prog) (w := w) (base := base) (ca := fun _ => 0) (wf := wf) (T := rows.map Row.fn) (i := i) (fn := row.fn) M ⟨hg2, (row_binds F0 ha (FnScope.psnd tx.scope)).1, row.N, row.x, _, _, _, tx, F0⟩ (by rw [List.getElem?_map, hi]; rfl) (hT base wf k)
        rw [← tx.np, hps, efa] at hfn
        exact hfn
    exact ⟨fun vs H Q E ⟨wf, h⟩ => (one wf).len vs H Q E h, fun A outer s H args us vs Q E r g e b v ⟨wf, h⟩ => (one wf).run A outer s H args us vs Q E r g e b v h⟩
  refine law_callZ KX G.T.g G.T.b G.T.builtins G.T.nolimit hg hobj hints (Nat.le_trans hlen hn2) room hF (fun s u => ?_) fun H _ hFL => ?_
  · have := (row_binds F0 ha (FnScope.psnd tx.scope)).2 s [u] (by rw [hps]; rfl)
    rw [hps] at this
    exact this
  · obtain ⟨wf, S', e⟩ := math ns hlen
    refine ⟨wf, rfl, [.fro (ns.map .int)], ⟨[], []⟩, [], .cons (.fro hFL ?_) .nil, ⟨rfl, List.nodup_nil, fun n o h => by simp at h, fun a ha => by simp at ha⟩, ?_⟩
    · clear e hFL hlen hints
      induction ns with
      | nil => exact .nil
      | cons m ms ih => exact .cons (.int m) ih
    · have e' : run (rows.map Row.fn) C.G wf k i [.fro (ns.map .int)] [] = .ok (.bl true) S' := e
      rw [e']
      intro v H' r' _ _ hv
      cases hv
      rfl
end Z

/-! Z layer, part P: how a run is read; deck and draw; loops. -/
namespace Z
open PySem PySem.Spec PyProof.Rows L2

theorem run_succ {T : List Fn} {G : List D} {wf k f : Nat} {args : List D} {S : Sto} {fn : Fn} (h : T[f]? = some fn) (hl : args.length = fn.np) :
    run T G wf (k + 1) f args S = fnEnd (dSs G (run T G wf k) wf fn.body (slots0 fn.ns args) S) := by
  rw [run, h]; simp only [hl, ↓reduceIte]
theorem then_nx {a b : MS} {sd sd1 : Sl} {S S1 : Sto} (h : a sd S = .ok .nx sd1 S1) : mThen a b sd S = b sd1 S1 := by
  unfold mThen; rw [h]
theorem then_rt {a b : MS} {sd sd1 : Sl} {S S1 : Sto} {d : D} (h : a sd S = .ok (.rt d) sd1 S1) : mThen a b sd S = .ok (.rt d) sd1 S1 := by
  unfold mThen; rw [h]
@[simp] theorem q_ev {G : List D} {C : Nat → List D → Sto → Out D} {i : Nat} : dE G C (.v i) = mVar i := rfl
@[simp] theorem q_ec {G : List D} {C : Nat → List D → Sto → Out D} {d : D} : dE G C (.c d) = mC d := rfl
@[simp] theorem q_eg {G : List D} {C : Nat → List D → Sto → Out D} {j : Nat} : dE G C (.g j) = mG G j := rfl
@[simp] theorem q_eop {G : List D} {C : Nat → List D → Sto → Out D} {o : Operator} {a b : E} : dE G C (.op o a b) = mBin (opF o) (dE G C a) (dE G C b) := rfl
@[simp] theorem q_eneg {G : List D} {C : Nat → List D → Sto → Out D} {a : E} : dE G C (.neg a) = mNeg (dE G C a) := rfl
@[simp] theorem q_ecmp {G : List D} {C : Nat → List D → Sto → Out D} {o : CmpOp} {a b : E} : dE G C (.cmp o a b) = mBin (cmpF o) (dE G C a) (dE G C b) := rfl
@[simp] theorem q_ech {G : List D} {C : Nat → List D → Sto → Out D} {o o' : CmpOp} {a b c : E} : dE G C (.ch o o' a b c) = mChain (cmpF o) (cmpF o') (dE G C a) (dE G C b) (dE G C c) := rfl
@[simp] theorem q_ebo {G : List D} {C : Nat → List D → Sto → Out D} {o : BoolOp} {es : Es} : dE G C (.bo o es) = dB G C o es := rfl
@[simp] theorem q_enot {G : List D} {C : Nat → List D → Sto → Out D} {a : E} : dE G C (.not a) = mNot (dE G C a) := rfl
@[simp] theorem q_eifx {G : List D} {C : Nat → List D → Sto → Out D} {t : Tt} {a b : E} : dE G C (.ifx t a b) = mIf (dT G C t) (dE G C a) (dE G C b) := rfl
@[simp] theorem q_etup {G : List D} {C : Nat → List D → Sto → Out D} {es : Es} : dE G C (.tup es) = mTup (dL G C es) := rfl
@[simp] theorem q_elstT {G : List D} {C : Nat → List D → Sto → Out D} {es : Es} : dE G C (.lst true es) = mLstM (dL G C es) := rfl
@[simp] theorem q_elstF {G : List D} {C : Nat → List D → Sto → Out D} {es : Es} : dE G C (.lst false es) = mLst (dL G C es) := rfl
@[simp] theorem q_eix {G : List D} {C : Nat → List D → Sto → Out D} {a b : E} : dE G C (.ix a b) = mBin ixP (dE G C a) (dE G C b) := rfl
@[simp] theorem q_esl {G : List D} {C : Nat → List D → Sto → Out D} {a : E} {lo hi : Oe} : dE G C (.sl a lo hi) = mSl (dE G C a) (dO G C lo) (dO G C hi) := rfl
@[simp] theorem q_ecall {G : List D} {C : Nat → List D → Sto → Out D} {f : Nat} {es : Es} : dE G C (.call f es) = mFn (C f) (dL G C es) := rfl
@[simp] theorem q_ebf {G : List D} {C : Nat → List D → Sto → Out D} {f : Bf} {es : Es} : dE G C (.bf f es) = mCall (bfF f) (dL G C es) := rfl
@[simp] theorem q_eisi {G : List D} {C : Nat → List D → Sto → Out D} {a : E} {t : Ty} : dE G C (.isi a t) = mIsi (dE G C a) t := rfl
@[simp] theorem q_eapp {G : List D} {C : Nat → List D → Sto → Out D} {o : E} {es : Es} : dE G C (.app o es) = mApp (dE G C o) (dL G C es) := rfl
@[simp] theorem q_eext {G : List D} {C : Nat → List D → Sto → Out D} {o : E} {es : Es} : dE G C (.ext o es) = mExt (dE G C o) (dL G C es) := rfl
@[simp] theorem q_elcT {G : List D} {C : Nat → List D → Sto → Out D} {t : Tg} {it : It} {c : Ot} {e : E} {own : List (Str × Nat)} : dE G C (.lc true t it c e own) = mLcM (dI G C it) (dG G C t) (own.map (·.2)) (dC G C c) (dE G C e) := rfl
@[simp] theorem q_elcF {G : List D} {C : Nat → List D → Sto → Out D} {t : Tg} {it : It} {c : Ot} {e : E} {own : List (Str × Nat)} : dE G C (.lc false t it c e own) = mLc (dI G C it) (dG G C t) (own.map (·.2)) (dC G C c) (dE G C e) := rfl
@[simp] theorem q_lnil {G : List D} {C : Nat → List D → Sto → Out D} : dL G C .nil = mNil := rfl
@[simp] theorem q_lcons {G : List D} {C : Nat → List D → Sto → Out D} {e : E} {es : Es} : dL G C (.cons e es) = mCons (dE G C e) (dL G C es) := rfl
@[simp] theorem q_b1 {G : List D} {C : Nat → List D → Sto → Out D} {o : BoolOp} {e : E} : dB G C o (.cons e .nil) = dE G C e := rfl
@[simp] theorem q_bA {G : List D} {C : Nat → List D → Sto → Out D} {e e2 : E} {es : Es} : dB G C .And (.cons e (.cons e2 es)) = mAnd (dE G C e) (dB G C .And (.cons e2 es)) := rfl
@[simp] theorem q_bO {G : List D} {C : Nat → List D → Sto → Out D} {e e2 : E} {es : Es} : dB G C .Or (.cons e (.cons e2 es)) = mOr (dE G C e) (dB G C .Or (.cons e2 es)) := rfl
@[simp] theorem q_oN {G : List D} {C : Nat → List D → Sto → Out D} : dO G C .none = mNo := rfl
@[simp] theorem q_oS {G : List D} {C : Nat → List D → Sto → Out D} {e : E} : dO G C (.some e) = mPart (dE G C e) := rfl
@[simp] theorem q_tbo {G : List D} {C : Nat → List D → Sto → Out D} {o : BoolOp} {ts : Tts} : dT G C (.bo o ts) = dTB G C o ts := rfl
@[simp] theorem q_tnot {G : List D} {C : Nat → List D → Sto → Out D} {a : Tt} : dT G C (.not a) = mNotT (dT G C a) := rfl
@[simp] theorem q_tcmp {G : List D} {C : Nat → List D → Sto → Out D} {o : CmpOp} {a b : E} : dT G C (.cmp o a b) = mBl (mBin (cmpF o) (dE G C a) (dE G C b)) := rfl
@[simp] theorem q_tch {G : List D} {C : Nat → List D → Sto → Out D} {o o' : CmpOp} {a b c : E} : dT G C (.ch o o' a b c) = mBl (mChain (cmpF o) (cmpF o') (dE G C a) (dE G C b) (dE G C c)) := rfl
@[simp] theorem q_ttru {G : List D} {C : Nat → List D → Sto → Out D} {e : E} : dT G C (.tru e) = mTru (dE G C e) := rfl
@[simp] theorem q_tb1 {G : List D} {C : Nat → List D → Sto → Out D} {o : BoolOp} {e : Tt} : dTB G C o (.cons e .nil) = dT G C e := rfl
@[simp] theorem q_tbA {G : List D} {C : Nat → List D → Sto → Out D} {e e2 : Tt} {es : Tts} : dTB G C .And (.cons e (.cons e2 es)) = mAndT (dT G C e) (dTB G C .And (.cons e2 es)) := rfl
@[simp] theorem q_tbO {G : List D} {C : Nat → List D → Sto → Out D} {e e2 : Tt} {es : Tts} : dTB G C .Or (.cons e (.cons e2 es)) = mOrT (dT G C e) (dTB G C .Or (.cons e2 es)) := rfl
@[simp] theorem q_cN {G : List D} {C : Nat → List D → Sto → Out D} : dC G C .none = mYes := rfl
@[simp] theorem q_cS {G : List D} {C : Nat → List D → Sto → Out D} {t : Tt} : dC G C (.some t) = dT G C t := rfl
@[simp] theorem q_gnm {G : List D} {C : Nat → List D → Sto → Out D} {i : Nat} : dG G C (.nm i) = gNm i := rfl
@[simp] theorem q_gtup {G : List D} {C : Nat → List D → Sto → Out D} {ts : Tgs} : dG G C (.tup ts) = gTp (tgsLen ts) (dGs G C ts) := rfl
@[simp] theorem q_gsub {G : List D} {C : Nat → List D → Sto → Out D} {o i : E} : dG G C (.sub o i) = gSubM (dE G C o) (dE G C i) := rfl
@[simp] theorem q_gsn {G : List D} {C : Nat → List D → Sto → Out D} : dGs G C .nil = gsNil := rfl
@[simp] theorem q_gsc {G : List D} {C : Nat → List D → Sto → Out D} {t : Tg} {ts : Tgs} : dGs G C (.cons t ts) = gsCons (dG G C t) (dGs G C ts) := rfl
@[simp] theorem q_tl0  : tgsLen .nil = 0 := rfl
@[simp] theorem q_tl1 {t : Tg} {ts : Tgs} : tgsLen (.cons t ts) = tgsLen ts + 1 := rfl
@[simp] theorem q_iseq {G : List D} {C : Nat → List D → Sto → Out D} {e : E} : dI G C (.seq e) = mSeq (dE G C e) := rfl
@[simp] theorem q_ir1 {G : List D} {C : Nat → List D → Sto → Out D} {a : Es} : dI G C (.rng1 a) = mRng rng1 (dL G C a) := rfl
@[simp] theorem q_ir2 {G : List D} {C : Nat → List D → Sto → Out D} {a : Es} : dI G C (.rng2 a) = mRng rng2 (dL G C a) := rfl
@[simp] theorem q_sex {G : List D} {C : Nat → List D → Sto → Out D} {wf : Nat} {e : E} : dS G C wf (.ex e) = mExpr (dE G C e) := rfl
@[simp] theorem q_sdoc {G : List D} {C : Nat → List D → Sto → Out D} {wf : Nat}  : dS G C wf (.doc) = mSkip := rfl
@[simp] theorem q_spass {G : List D} {C : Nat → List D → Sto → Out D} {wf : Nat}  : dS G C wf (.pass) = mSkip := rfl
@[simp] theorem q_sbrk {G : List D} {C : Nat → List D → Sto → Out D} {wf : Nat}  : dS G C wf (.brk) = mBrk := rfl
@[simp] theorem q_scnt {G : List D} {C : Nat → List D → Sto → Out D} {wf : Nat}  : dS G C wf (.cnt) = mCnt := rfl
@[simp] theorem q_sret {G : List D} {C : Nat → List D → Sto → Out D} {wf : Nat} {e : E} : dS G C wf (.ret e) = mRet (dE G C e) := rfl
@[simp] theorem q_sretN {G : List D} {C : Nat → List D → Sto → Out D} {wf : Nat}  : dS G C wf (.retN) = mRetN := rfl
@[simp] theorem q_sasg {G : List D} {C : Nat → List D → Sto → Out D} {wf : Nat} {t : Tg} {e : E} : dS G C wf (.asg t e) = mAsg (dE G C e) (dG G C t) := rfl
@[simp] theorem q_saug {G : List D} {C : Nat → List D → Sto → Out D} {wf : Nat} {i : Nat} {o : Operator} {e : E} : dS G C wf (.aug i o e) = mAug i (iopF o) (dE G C e) := rfl
@[simp] theorem q_spar {G : List D} {C : Nat → List D → Sto → Out D} {wf : Nat} {is : List Nat} {es : Es} : dS G C wf (.par is es) = mPar is (dL G C es) := rfl
@[simp] theorem q_site {G : List D} {C : Nat → List D → Sto → Out D} {wf : Nat} {c : Tt} {a b : Ss} : dS G C wf (.ite c a b) = mIte (dT G C c) (dSs G C wf a) (dSs G C wf b) := rfl
@[simp] theorem q_sfor {G : List D} {C : Nat → List D → Sto → Out D} {wf : Nat} {t : Tg} {it : It} {b : Ss} : dS G C wf (.for_ t it b) = mFor (dI G C it) (dG G C t) (dSs G C wf b) := rfl
@[simp] theorem q_swhl {G : List D} {C : Nat → List D → Sto → Out D} {wf : Nat} {c : Tt} {b : Ss} : dS G C wf (.whl c b) = whGo (dT G C c) (dSs G C wf b) wf := rfl
@[simp] theorem q_snil {G : List D} {C : Nat → List D → Sto → Out D} {wf : Nat} : dSs G C wf .nil = mSkip := rfl
@[simp] theorem q_scons {G : List D} {C : Nat → List D → Sto → Out D} {wf : Nat} {s : S1} {ss : Ss} : dSs G C wf (.cons s ss) = mThen (dS G C wf s) (dSs G C wf ss) := rfl
@[simp] theorem q_mC {d : D} {sd : Sl} {S : Sto} : mC d sd S = .ok d S := by kernel_rfl
@[simp] theorem q_mG {G : List D} {j : Nat} {sd : Sl} {S : Sto} : mG G j sd S = lift G[j]? S := by kernel_rfl
@[simp] theorem q_mBin {a b : M D} {f : Sto → D → D → Option D} {sd : Sl} {S : Sto} : mBin f a b sd S = (match a sd S with | .ok x S1 => (match b sd S1 with | .ok y S2 => lift (f S2 x y) S2 | .exc c fs S0 => .exc c fs S0 | .bad => .bad) | .exc c fs S0 => .exc c fs S0 | .bad => .bad) := by kernel_rfl
@[simp] theorem q_mBl {a : M D}  {sd : Sl} {S : Sto} : mBl a sd S = (match a sd S with | .ok x S1 => toB x S1 | .exc c fs S0 => .exc c fs S0 | .bad => .bad) := by kernel_rfl
@[simp] theorem q_mTru {a : M D}  {sd : Sl} {S : Sto} : mTru a sd S = (match a sd S with | .ok x S1 => lift (truP S1 x) S1 | .exc c fs S0 => .exc c fs S0 | .bad => .bad) := by kernel_rfl
@[simp] theorem q_mNotT {ta : M Bool}  {sd : Sl} {S : Sto} : mNotT ta sd S = (match ta sd S with | .ok k S1 => .ok (!k) S1 | .exc c fs S0 => .exc c fs S0 | .bad => .bad) := by kernel_rfl
@[simp] theorem q_mAndT {ta tb : M Bool}  {sd : Sl} {S : Sto} : mAndT ta tb sd S = (match ta sd S with | .ok k S1 => if k then tb sd S1 else .ok false S1 | .exc c fs S0 => .exc c fs S0 | .bad => .bad) := by kernel_rfl
@[simp] theorem q_mOrT {ta tb : M Bool}  {sd : Sl} {S : Sto} : mOrT ta tb sd S = (match ta sd S with | .ok k S1 => if k then .ok true S1 else tb sd S1 | .exc c fs S0 => .exc c fs S0 | .bad => .bad) := by kernel_rfl
@[simp] theorem q_mNot {a : M D}  {sd : Sl} {S : Sto} : mNot a sd S = (match a sd S with | .ok x S1 => (match x with | .bl k => .ok (.bl (!k)) S1 | _ => .bad) | .exc c fs S0 => .exc c fs S0 | .bad => .bad) := by kernel_rfl
@[simp] theorem q_mAnd {a b : M D}  {sd : Sl} {S : Sto} : mAnd a b sd S = (match a sd S with | .ok x S1 => (match x with | .bl true => b sd S1 | .bl false => .ok (.bl false) S1 | _ => .bad) | .exc c fs S0 => .exc c fs S0 | .bad => .bad) := by kernel_rfl
@[simp] theorem q_mOr {a b : M D}  {sd : Sl} {S : Sto} : mOr a b sd S = (match a sd S with | .ok x S1 => (match x with | .bl true => .ok (.bl true) S1 | .bl false => b sd S1 | _ => .bad) | .exc c fs S0 => .exc c fs S0 | .bad => .bad) := by kernel_rfl
@[simp] theorem q_mIf {a b : M D} {ta : M Bool}  {sd : Sl} {S : Sto} : mIf ta a b sd S = (match ta sd S with | .ok k S1 => if k then a sd S1 else b sd S1 | .exc c fs S0 => .exc c fs S0 | .bad => .bad) := by kernel_rfl
@[simp] theorem q_mChain {a b c : M D} {f g : Sto → D → D → Option D} {sd : Sl} {S : Sto} : mChain f g a b c sd S = (match a sd S with | .ok x S1 => (match b sd S1 with | .ok y S2 => (match lift (f S2 x y) S2 with | .ok z S3 => (match z with | .bl true => (match c sd S3 with | .ok w S4 => lift (g S4 y w) S4 | .exc c fs S0 => .exc c fs S0 | .bad => .bad) | .bl false => .ok (.bl false) S3 | _ => .bad) | .exc c fs S0 => .exc c fs S0 | .bad => .bad) | .exc c fs S0 => .exc c fs S0 | .bad => .bad) | .exc c fs S0 => .exc c fs S0 | .bad => .bad) := by kernel_rfl
@[simp] theorem q_mNil  {sd : Sl} {S : Sto} : mNil sd S = .ok [] S := by kernel_rfl
@[simp] theorem q_mCons {a : M D} {la : M (List D)}  {sd : Sl} {S : Sto} : mCons a la sd S = (match a sd S with | .ok x S1 => (match la sd S1 with | .ok xs S2 => .ok (x :: xs) S2 | .exc c fs S0 => .exc c fs S0 | .bad => .bad) | .exc c fs S0 => .exc c fs S0 | .bad => .bad) := by kernel_rfl
@[simp] theorem q_mTup {la : M (List D)}  {sd : Sl} {S : Sto} : mTup la sd S = (match la sd S with | .ok xs S1 => if xs.length ≤ 16777216 then .ok (.tup xs) S1 else .bad | .exc c fs S0 => .exc c fs S0 | .bad => .bad) := by kernel_rfl
@[simp] theorem q_mLst {la : M (List D)}  {sd : Sl} {S : Sto} : mLst la sd S = (match la sd S with | .ok xs S1 => if xs.length ≤ 16777216 then .ok (.lst xs) S1 else .bad | .exc c fs S0 => .exc c fs S0 | .bad => .bad) := by kernel_rfl
@[simp] theorem q_mLstM {la : M (List D)}  {sd : Sl} {S : Sto} : mLstM la sd S = (match la sd S with | .ok xs S1 => if xs.length ≤ 16777216 then .ok (.loc S1.length) (S1 ++ [.lst xs]) else .bad | .exc c fs S0 => .exc c fs S0 | .bad => .bad) := by kernel_rfl
@[simp] theorem q_mCall {la : M (List D)} {f : Sto → List D → Option D} {sd : Sl} {S : Sto} : mCall f la sd S = (match la sd S with | .ok xs S1 => lift (f S1 xs) S1 | .exc c fs S0 => .exc c fs S0 | .bad => .bad) := by kernel_rfl
@[simp] theorem q_mFn {la : M (List D)} {f : List D → Sto → Out D} {sd : Sl} {S : Sto} : mFn f la sd S = (match la sd S with | .ok xs S1 => f xs S1 | .exc c fs S0 => .exc c fs S0 | .bad => .bad) := by kernel_rfl
@[simp] theorem q_mIsi {a : M D} {t : Ty} {sd : Sl} {S : Sto} : mIsi a t sd S = (match a sd S with | .ok x S1 => lift ((isiD S1 x t).map .bl) S1 | .exc c fs S0 => .exc c fs S0 | .bad => .bad) := by kernel_rfl
@[simp] theorem q_mNo  {sd : Sl} {S : Sto} : mNo sd S = .ok none S := by kernel_rfl
@[simp] theorem q_mPart {a : M D}  {sd : Sl} {S : Sto} : mPart a sd S = (match a sd S with | .ok x S1 => (match x with | .int i => .ok (some i) S1 | _ => .bad) | .exc c fs S0 => .exc c fs S0 | .bad => .bad) := by kernel_rfl
@[simp] theorem q_mSl {a : M D} {lo hi : M (Option Int)} {sd : Sl} {S : Sto} : mSl a lo hi sd S = (match a sd S with | .ok x S1 => (match lo sd S1 with | .ok l S2 => (match hi sd S2 with | .ok h S3 => lift (slP S3 x l h) S3 | .exc c fs S0 => .exc c fs S0 | .bad => .bad) | .exc c fs S0 => .exc c fs S0 | .bad => .bad) | .exc c fs S0 => .exc c fs S0 | .bad => .bad) := by kernel_rfl
@[simp] theorem q_mNeg {a : M D}  {sd : Sl} {S : Sto} : mNeg a sd S = (match a sd S with | .ok x S1 => lift (negD x) S1 | .exc c fs S0 => .exc c fs S0 | .bad => .bad) := by kernel_rfl
@[simp] theorem q_mYes  {sd : Sl} {S : Sto} : mYes sd S = .ok true S := by kernel_rfl
@[simp] theorem q_mSeq {a : M D}  {sd : Sl} {S : Sto} : mSeq a sd S = (match a sd S with | .ok x S1 => lift (srcOf S1 x) S1 | .exc c fs S0 => .exc c fs S0 | .bad => .bad) := by kernel_rfl
@[simp] theorem q_mRng {la : M (List D)} {f : List D → Option Src} {sd : Sl} {S : Sto} : mRng f la sd S = (match la sd S with | .ok xs S1 => lift (f xs) S1 | .exc c fs S0 => .exc c fs S0 | .bad => .bad) := by kernel_rfl
@[simp] theorem q_mLc {a : M D} {ta : M Bool} {mi : M Src} {g : GM} {vs : List Nat} {sd : Sl} {S : Sto} : mLc mi g vs ta a sd S = (match mLcL mi g vs ta a sd S with | .ok acc S2 => .ok (.lst acc) S2 | .exc c fs S0 => .exc c fs S0 | .bad => .bad) := by kernel_rfl
@[simp] theorem q_mLcM {a : M D} {ta : M Bool} {mi : M Src} {g : GM} {vs : List Nat} {sd : Sl} {S : Sto} : mLcM mi g vs ta a sd S = (match mLcL mi g vs ta a sd S with | .ok acc S2 => .ok (.loc S2.length) (S2 ++ [.lst acc]) | .exc c fs S0 => .exc c fs S0 | .bad => .bad) := by kernel_rfl
@[simp] theorem q_mLcL {a : M D} {ta : M Bool} {mi : M Src} {g : GM} {vs : List Nat} {sd : Sl} {S : Sto} : mLcL mi g vs ta a sd S = (match mi sd S with | .ok src S1 => lcGo src g ta a (wipeD sd vs) src.len 0 [] S1 | .exc c fs S0 => .exc c fs S0 | .bad => .bad) := by kernel_rfl
@[simp] theorem q_mSkip  {sd : Sl} {S : Sto} : mSkip sd S = .ok .nx sd S := by kernel_rfl
@[simp] theorem q_mThen {p q : MS}  {sd : Sl} {S : Sto} : mThen p q sd S = (match p sd S with | .ok .nx sd1 S1 => q sd1 S1 | o => o) := by kernel_rfl
@[simp] theorem q_mExpr {a : M D}  {sd : Sl} {S : Sto} : mExpr a sd S = (match a sd S with | .ok _ S1 => .ok .nx sd S1 | .exc c fs S0 => .exc c fs sd S0 | .bad => .bad) := by unfold mExpr; cases a sd S <;> rfl
@[simp] theorem q_mRet {a : M D}  {sd : Sl} {S : Sto} : mRet a sd S = (match a sd S with | .ok d S1 => .ok (.rt d) sd S1 | .exc c fs S0 => .exc c fs sd S0 | .bad => .bad) := by unfold mRet; cases a sd S <;> rfl
@[simp] theorem q_mRetN  {sd : Sl} {S : Sto} : mRetN sd S = .ok (.rt .non) sd S := by kernel_rfl
@[simp] theorem q_mAsg {a : M D} {g : GM} {sd : Sl} {S : Sto} : mAsg a g sd S = (match a sd S with | .ok d S1 => (match g d sd S1 with | some (sd2, S2) => .ok .nx sd2 S2 | none => .bad) | .exc c fs S0 => .exc c fs sd S0 | .bad => .bad) := by unfold mAsg; cases a sd S <;> rfl
@[simp] theorem q_mIte {ta : M Bool} {p q : MS}  {sd : Sl} {S : Sto} : mIte ta p q sd S = (match ta sd S with | .ok k S1 => if k then p sd S1 else q sd S1 | .exc c fs S0 => .exc c fs sd S0 | .bad => .bad) := by unfold mIte; cases ta sd S <;> rfl
@[simp] theorem q_mBrk  {sd : Sl} {S : Sto} : mBrk sd S = .ok .bk sd S := by kernel_rfl
@[simp] theorem q_mCnt  {sd : Sl} {S : Sto} : mCnt sd S = .ok .ct sd S := by kernel_rfl
@[simp] theorem q_mFor {p : MS} {mi : M Src} {g : GM} {sd : Sl} {S : Sto} : mFor mi g p sd S = (match mi sd S with | .ok src S1 => forGo src g p src.len 0 sd S1 | .exc c fs S0 => .exc c fs sd S0 | .bad => .bad) := by unfold mFor; cases mi sd S <;> rfl
@[simp] theorem q_gNm {i : Nat} {d : D} {sd : Sl} {S : Sto} : gNm i d sd S = some (sd.set i (some d), S) := by kernel_rfl
@[simp] theorem q_mVar {i : Nat} {sd : Sl} {S : Sto} {d : D} (h : sd[i]? = some (some d)) : mVar i sd S = .ok d S := by unfold mVar; rw [h]
@[simp] theorem q_mAug {i : Nat} {sd : Sl} {S : Sto} {x : D} {f : Sto → D → D → Option D} {a : M D} (h : sd[i]? = some (some x)) : mAug i f a sd S = (match a sd S with | .ok y S1 => (match f S1 x y with | some z => .ok .nx (sd.set i (some z)) S1 | none => .bad) | .exc c fs S0 => .exc c fs sd S0 | .bad => .bad) := by unfold mAug; rw [h]; cases a sd S <;> rfl
@[simp] theorem q_liftS {T : Type} {x : T} {S : Sto} : lift (some x) S = .ok x S := rfl
@[simp] theorem q_toB {k : Bool} {S : Sto} : toB (.bl k) S = .ok k S := rfl
@[simp] theorem q_vLen {ds : List D} : (Src.vals ds).len = ds.length := rfl
@[simp] theorem q_vFin {ds : List D} {S : Sto} : (Src.vals ds).fin S = true := rfl
@[simp] theorem q_vAt {ds : List D} {S : Sto} {i : Nat} : (Src.vals ds).at S i = ds[i]? := rfl
@[simp] theorem q_opAdd  : opF .Add = addP := rfl
@[simp] theorem q_opSub  : opF .Sub = intP subI := rfl
@[simp] theorem q_opMult  : opF .Mult = mulP := rfl
@[simp] theorem q_opFloorDiv  : opF .FloorDiv = intP fdivI := rfl
@[simp] theorem q_opMod  : opF .Mod = intP modI := rfl
@[simp] theorem q_opPow  : opF .Pow = intP powI := rfl
@[simp] theorem q_cmEq  : cmpF .Eq = eqD := rfl
@[simp] theorem q_cmNotEq  : cmpF .NotEq = neD := rfl
@[simp] theorem q_cmIs  : cmpF .Is = isNP false := rfl
@[simp] theorem q_cmIsNot  : cmpF .IsNot = isNP true := rfl
@[simp] theorem q_cmIn  : cmpF .In = inD := rfl
@[simp] theorem q_cmNotIn  : cmpF .NotIn = notInD := rfl
@[simp] theorem q_cmLt {S : Sto} {i j : Int} : cmpF .Lt S (.int i) (.int j) = some (.bl (decide (i < j))) := rfl
@[simp] theorem q_cmLtE {S : Sto} {i j : Int} : cmpF .LtE S (.int i) (.int j) = some (.bl (decide (i ≤ j))) := rfl
@[simp] theorem q_cmGt {S : Sto} {i j : Int} : cmpF .Gt S (.int i) (.int j) = some (.bl (decide (j < i))) := rfl
@[simp] theorem q_cmGtE {S : Sto} {i j : Int} : cmpF .GtE S (.int i) (.int j) = some (.bl (decide (j ≤ i))) := rfl
@[simp] theorem q_bflen  : bfF .len = call1 lenD := rfl
@[simp] theorem q_bfabs  : bfF .abs = call1 absD := rfl
@[simp] theorem q_bfint  : bfF .int = call1 intD := rfl
@[simp] theorem q_bfstr  : bfF .str = call1 strD := rfl
@[simp] theorem q_bftup  : bfF .tup = call1 tupD := rfl
@[simp] theorem q_bflst  : bfF .lst = call1 lstD := rfl
@[simp] theorem q_bfmax2  : bfF .max2 = max2D := rfl
@[simp] theorem q_bfmin2  : bfF .min2 = min2D := rfl
@[simp] theorem q_bfrepr  : bfF .repr = call1 reprD := rfl
@[simp] theorem q_call1 {f : Sto → D → Option D} {S : Sto} {x : D} : call1 f S [x] = f S x := rfl
@[simp] theorem q_addI {S : Sto} {i j : Int} : addP S (.int i) (.int j) = some (.int (i + j)) := rfl
@[simp] theorem q_subI {S : Sto} {i j : Int} : intP subI S (.int i) (.int j) = some (.int (i - j)) := rfl
@[simp] theorem q_absI {S : Sto} {i : Int} : absD S (.int i) = some (.int (if i < 0 then -i else i)) := rfl
@[simp] theorem q_intI {S : Sto} {i : Int} : intD S (.int i) = some (.int i) := rfl
@[simp] theorem q_negI {i : Int} : negD (.int i) = some (.int (-i)) := rfl
@[simp] theorem q_iaddI {S : Sto} {i j : Int} : iopF .Add S (.int i) (.int j) = some (.int (i + j)) := rfl
@[simp] theorem q_gsNil {sd : Sl} {S : Sto} : gsNil [] sd S = some (sd, S) := rfl
@[simp] theorem q_mod {S : Sto} {i j : Int} (h : 0 < j) : intP modI S (.int i) (.int j) = some (.int (i % j)) := by simp [intP, modI, h]
@[simp] theorem q_fdiv {S : Sto} {i j : Int} (h : 0 < j) (h2 : j < 1073741824) : intP fdivI S (.int i) (.int j) = some (.int (i / j)) := by simp [intP, fdivI, h, h2]
theorem q_mul {S : Sto} {i j : Int} (h : -18446744073709551616 < i ∧ i < 18446744073709551616) : mulP S (.int i) (.int j) = some (.int (i * j)) := by simp [mulP, mulI, h]
theorem q_pow {S : Sto} {i j : Int} (h : 0 ≤ j ∧ j ≤ 1000000) (h2 : i.natAbs < 18446744073709551616) : intP powI S (.int i) (.int j) = some (.int (i ^ j.toNat)) := by simp [intP, powI, h, h2]

theorem ixN_in {n : Nat} {i : Int} (h0 : 0 ≤ i) (h1 : i < n) : ixN n i = some i.toNat := by
  unfold ixN
  rw [if_pos h0, if_pos h1]
theorem atI_in {α : Type} {xs : List α} {i : Int} (h0 : 0 ≤ i) (h1 : i < xs.length) : L2.atI xs i = xs[i.toNat]? := by
  unfold L2.atI
  rw [ixN_in h0 h1]
  rfl

/-! ### the deck -/
structure Dk (S : Sto) (a b : Nat) (n : Int) : Prop where
  ne : a ≠ b
  cells : ∃ xs : List Int, S[a]? = some (.lst (xs.map D.int)) ∧ ∀ x ∈ xs, 0 ≤ x
  at_ : S[b]? = some (.lst [.loc a, .int n])
def drawB (p q t u : Int) : Ss := (.cons (.asg (.sub (.v 0) (.c (.int 1))) (.op .Add (.ix (.v 0) (.c (.int 1))) (.c (.int 1)))) (.cons (.asg (.tup (.cons (.nm 3) (.cons (.nm 4) .nil))) (.tup (.cons (.c (.int 0)) (.cons (.neg (.c (.int 1))) .nil)))) (.cons (.ite (.cmp .Gt (.bf .len (.cons (.ix (.v 0) (.c (.int 0))) .nil)) (.c (.int 0))) (.cons (.asg (.nm 4) (.op .Mod (.bf .int (.cons (.ix (.v 0) (.c (.int 1))) .nil)) (.bf .len (.cons (.ix (.v 0) (.c (.int 0))) .nil)))) (.cons (.asg (.nm 3) (.ix (.ix (.v 0) (.c (.int 0))) (.v 4))) .nil)) .nil) (.cons (.ite (.cmp .GtE (.v 3) (.op .Pow (.c (.int 10)) (.c (.int 18)))) (.cons (.asg (.sub (.ix (.v 0) (.c (.int 0))) (.v 4)) (.op .FloorDiv (.bf .int (.cons (.v 3) .nil)) (.v 1))) (.cons (.ret (.op .Mod (.bf .int (.cons (.v 3) .nil)) (.v 1))) .nil)) .nil) (.cons (.asg (.nm 2) (.op .Add (.op .Add (.op .Mod (.bf .int (.cons (.v 3) .nil)) (.c (.int p))) (.op .Mult (.c (.int q)) (.ix (.v 0) (.c (.int 1))))) (.c (.int t)))) (.cons (.ret (.op .Mod (.bf .int (.cons (.op .Mod (.bf .int (.cons (.op .Pow (.v 2) (.c (.int 5))) .nil)) (.c (.int u))) .nil)) (.v 1))) .nil))))))
theorem ix_loc {S : Sto} {b : Nat} {xs : List D} {i : Int} (h : S[b]? = some (.lst xs)) (h0 : 0 ≤ i) (h1 : i < xs.length) : ixP S (.loc b) (.int i) = xs[i.toNat]? := by
  simp [ixP, asQ, asL, h, atI_in h0 h1]
theorem len_loc {S : Sto} {b : Nat} {xs : List D} (h : S[b]? = some (.lst xs)) : lenD S (.loc b) = some (.int xs.length) := by
  simp [lenD, lenP, asQ, asL, h]
structure Fr (S S' : Sto) (a b : Nat) : Prop where
  len : S'.length = S.length
  oth : ∀ c, c ≠ a → c ≠ b → S'[c]? = S[c]?
section
variable {G : List D} {C : Nat → List D → Sto → Out D} {wf : Nat} {p q t u : Int}
theorem draw_ok {S : Sto} {a b : Nat} {n m : Int} (h : Dk S a b n) (hn : 0 ≤ n) (hn2 : n < 1000000) (hm : 0 < m) (hm2 : m < 1073741824) (hp : 0 < p) (hp2 : p < 1000000000000) (hq : 0 < q) (hq2 : q < 1000000) (ht : 0 ≤ t) (ht2 : t < 1000000) (hu : 0 < u) :
    ∃ r S', fnEnd (dSs G C wf (drawB p q t u) (slots0 5 [.loc b, .int m]) S) = .ok (.int r) S' ∧ 0 ≤ r ∧ r < m ∧ Dk S' a b (n + 1) ∧ Fr S S' a b := by
  obtain ⟨ne, ⟨xs, hx, hpos⟩, hb⟩ := h
  have lb : b < S.length := (List.getElem?_eq_some_iff.mp hb).1
  have la : a < S.length := (List.getElem?_eq_some_iff.mp hx).1
  have hb1 : (S.set b (.lst [.loc a, .int (n + 1)]))[b]? = some (.lst [.loc a, .int (n + 1)]) := by simp [lb]
  have hx1 : (S.set b (.lst [.loc a, .int (n + 1)]))[a]? = some (.lst (xs.map D.int)) := by rw [List.getElem?_set_ne ne.symm]; exact hx
  generalize hS1 : S.set b (.lst [.loc a, .int (n + 1)]) = S1 at hb1 hx1
  have l1 : S1.length = S.length := by rw [← hS1]; simp
  have o1 : ∀ c, c ≠ a → c ≠ b → S1[c]? = S[c]? := fun c _ z => by rw [← hS1, List.getElem?_set_ne (Ne.symm z)]
  have dk1 : Dk S1 a b (n + 1) := ⟨ne, ⟨xs, hx1, hpos⟩, hb1⟩
  have i0 : ixP S1 (.loc b) (.int 0) = some (.loc a) := by rw [ix_loc hb1 (by decide) (by simp)]; rfl
  have i1 : ixP S1 (.loc b) (.int 1) = some (.int (n + 1)) := by rw [ix_loc hb1 (by decide) (by simp)]; rfl
  have j1 : ixP S (.loc b) (.int 1) = some (.int n) := by rw [ix_loc hb (by decide) (by simp)]; rfl
  have ln : lenD S1 (.loc a) = some (.int xs.length) := by rw [len_loc hx1]; simp
  have pw : intP powI S1 (.int 10) (.int 18) = some (.int (10 ^ 18)) := rfl
  -- the first two statements
  have s1 : dS G C wf (.asg (.sub (.v 0) (.c (.int 1))) (.op .Add (.ix (.v 0) (.c (.int 1))) (.c (.int 1)))) (slots0 5 [.loc b, .int m]) S = .ok .nx [some (.loc b), some (.int m), none, none, none] S1 := by
    simp [slots0, j1, gSubM, hb, ixN, ← hS1]
  have s2 : dS G C wf (.asg (.tup (.cons (.nm 3) (.cons (.nm 4) .nil))) (.tup (.cons (.c (.int 0)) (.cons (.neg (.c (.int 1))) .nil)))) [some (.loc b), some (.int m), none, none, none] S1 = .ok .nx [some (.loc b), some (.int m), none, some (.int 0), some (.int (-1))] S1 := by
    simp [gTp, gsCons]
  -- the third
  have s3 : ∃ (x : Int) (at_ : Int), 0 ≤ x ∧ (x ≠ 0 → 0 ≤ at_ ∧ at_ < xs.length) ∧ dS G C wf (.ite (.cmp .Gt (.bf .len (.cons (.ix (.v 0) (.c (.int 0))) .nil)) (.c (.int 0))) (.cons (.asg (.nm 4) (.op .Mod (.bf .int (.cons (.ix (.v 0) (.c (.int 1))) .nil)) (.bf .len (.cons (.ix (.v 0) (.c (.int 0))) .nil)))) (.cons (.asg (.nm 3) (.ix (.ix (.v 0) (.c (.int 0))) (.v 4))) .nil)) .nil) [some (.loc b), some (.int m), none, some (.int 0), some (.int (-1))] S1 = .ok .nx [some (.loc b), some (.int m), none, some (.int x), some (.int at_)] S1 := by
    by_cases hl : 0 < xs.length
    · have hl' : (0 : Int) < xs.length := by omega
      have m0 := Int.emod_nonneg (n + 1) (b := (xs.length : Int)) (by omega)
      have m1 := Int.emod_lt_of_pos (n + 1) hl'
      have hk : ((n + 1) % (xs.length : Int)).toNat < xs.length := by omega
      refine ⟨xs[((n + 1) % (xs.length : Int)).toNat], (n + 1) % xs.length, hpos _ (List.getElem_mem hk), fun _ => ⟨m0, m1⟩, ?_⟩
      have ia : ixP S1 (.loc a) (.int ((n + 1) % xs.length)) = some (.int xs[((n + 1) % (xs.length : Int)).toNat]) := by
        rw [ix_loc hx1 m0 (by simpa using m1), List.getElem?_map, List.getElem?_eq_getElem hk]; rfl
      simp [i0, i1, ln, hl, ia]
    · have e : xs = [] := by cases xs with | nil => rfl | cons _ _ => simp at hl
      subst e
      refine ⟨0, -1, by decide, fun z => absurd rfl z, ?_⟩
      simp [i0, ln]
  obtain ⟨x, at_, hx0, hat, s3⟩ := s3
  unfold drawB
  rw [q_scons, then_nx s1, q_scons, then_nx s2, q_scons, then_nx s3, q_scons]
  by_cases big : 10 ^ 18 ≤ x
  · have hat := hat (by omega)
    have ix : ixN xs.length at_ = some at_.toNat := ixN_in hat.1 hat.2
    refine ⟨x % m, S1.set a (.lst ((xs.map D.int).set at_.toNat (.int (x / m)))), ?_, Int.emod_nonneg _ (by omega), Int.emod_lt_of_pos _ hm, ⟨ne, ⟨xs.set at_.toNat (x / m), ?_, fun y hy => ?_⟩, ?_⟩, ?_, fun c c1 c2 => ?_⟩
    · have big' : (1000000000000000000 : Int) ≤ x := big
      simp [pw, big', i0, gSubM, hx1, ix, hm, hm2, fnEnd]
    · rw [List.map_set]; simp [l1, la]
    · rcases List.mem_or_eq_of_mem_set hy with z | z
      · exact hpos _ z
      · rw [z]; exact Int.ediv_nonneg hx0 (by omega)
    · rw [List.getElem?_set_ne ne]; exact hb1
    · simp [l1]
    · rw [List.getElem?_set_ne (Ne.symm c1)]; exact o1 c c1 c2
  · have small : ¬ (1000000000000000000 : Int) ≤ x := big
    have s4 : dS G C wf (.ite (.cmp .GtE (.v 3) (.op .Pow (.c (.int 10)) (.c (.int 18)))) (.cons (.asg (.sub (.ix (.v 0) (.c (.int 0))) (.v 4)) (.op .FloorDiv (.bf .int (.cons (.v 3) .nil)) (.v 1))) (.cons (.ret (.op .Mod (.bf .int (.cons (.v 3) .nil)) (.v 1))) .nil)) .nil) [some (.loc b), some (.int m), none, some (.int x), some (.int at_)] S1 = .ok .nx [some (.loc b), some (.int m), none, some (.int x), some (.int at_)] S1 := by
      simp [pw, small]
    rw [then_nx s4]
    have x0 := Int.emod_nonneg x (b := p) (by omega)
    have x1 := Int.emod_lt_of_pos x hp
    have q0 : 0 ≤ q * (n + 1) := Int.mul_nonneg (by omega) (by omega)
    have q1 : q * (n + 1) ≤ 1000000 * 1000001 := Int.mul_le_mul (by omega) (by omega) (by omega) (by omega)
    refine ⟨(x % p + q * (n + 1) + t) ^ 5 % u % m, S1, ?_, Int.emod_nonneg _ (by omega), Int.emod_lt_of_pos _ hm, dk1, l1, o1⟩
    have hb64 : (x % p + q * (n + 1) + t).natAbs < 18446744073709551616 := by omega
    have pw2 : intP powI S1 (.int (x % p + q * (n + 1) + t)) (.int 5) = some (.int ((x % p + q * (n + 1) + t) ^ 5)) := q_pow (by decide) hb64
    have mu : mulP S1 (.int q) (.int (n + 1)) = some (.int (q * (n + 1))) := q_mul (by omega)
    simp [hp, mu, i1, pw2, hu, hm, fnEnd]
end
end Z

/-! Z layer, part Q: loops, the deck made. -/
namespace Z
open PySem PySem.Spec PyProof.Rows L2

/-- a comprehension that leaves the store alone -/
theorem lc_pure {ds : List D} {g : GM} {c : M Bool} {e : M D} {sw : Sl} {S : Sto} {p : D → Bool} {h : D → D}
    (hy : ∀ d ∈ ds, ∃ sd, g d sw S = some (sd, S) ∧ c sd S = .ok (p d) S ∧ (p d = true → e sd S = .ok (h d) S)) :
    ∀ (n i : Nat) (acc : List D), i + n = ds.length → acc.length + n ≤ 16777216 → lcGo (.vals ds) g c e sw n i acc S = .ok (acc ++ ((ds.drop i).filter p).map h) S
  | 0, i, acc, hi, _ => by
    have : ds.drop i = [] := List.drop_eq_nil_of_le (by omega)
    rw [this]; simp [lcGo]
  | n + 1, i, acc, hi, hl => by
    have hlt : i < ds.length := by omega
    obtain ⟨sd, h1, h2, h3⟩ := hy ds[i] (List.getElem_mem hlt)
    have hd : ds.drop i = ds[i] :: ds.drop (i + 1) := (List.drop_eq_getElem_cons hlt)
    have e0 : (Src.vals ds).at S i = some ds[i] := List.getElem?_eq_getElem hlt
    unfold lcGo
    simp only [e0, h1, h2]
    cases hp : p ds[i] with
    | true =>
      simp only [h3 hp]
      rw [if_pos (by omega), lc_pure hy n (i + 1) (acc ++ [h ds[i]]) (by omega) (by simp; omega), hd, List.filter_cons_of_pos (by simp [hp]), List.map_cons, List.append_assoc]
      rfl
    | false =>
      simp only []
      rw [lc_pure hy n (i + 1) acc (by omega) (by omega), hd, List.filter_cons_of_neg (by simp [hp])]
/-- a comprehension with something kept -/
theorem lc_inv {ds : List D} {g : GM} {c : M Bool} {e : M D} {sw : Sl} (P : Nat → List D → Sto → Prop)
    (st : ∀ i d acc S, ds[i]? = some d → P i acc S → ∃ sd S1, g d sw S = some (sd, S1) ∧ ((∃ S2, c sd S1 = .ok false S2 ∧ P (i + 1) acc S2) ∨ ∃ S2 y S3, c sd S1 = .ok true S2 ∧ e sd S2 = .ok y S3 ∧ P (i + 1) (acc ++ [y]) S3)) :
    ∀ (n i : Nat) (acc : List D) (S : Sto), i + n = ds.length → acc.length + n ≤ 16777216 → P i acc S → ∃ acc' S', lcGo (.vals ds) g c e sw n i acc S = .ok acc' S' ∧ P ds.length acc' S'
  | 0, i, acc, S, hi, _, h => ⟨acc, S, by simp [lcGo], by rw [← hi]; exact h⟩
  | n + 1, i, acc, S, hi, hl, h => by
    have hlt : i < ds.length := by omega
    have e0 : (Src.vals ds).at S i = some ds[i] := List.getElem?_eq_getElem hlt
    obtain ⟨sd, S1, h1, h2⟩ := st i ds[i] acc S (List.getElem?_eq_getElem hlt) h
    unfold lcGo
    simp only [e0, h1]
    rcases h2 with ⟨S2, h2, h3⟩ | ⟨S2, y, S3, h2, h3, h4⟩
    · simp only [h2]
      exact lc_inv P st n (i + 1) acc S2 (by omega) (by omega) h3
    · simp only [h2, h3]
      rw [if_pos (by omega)]
      exact lc_inv P st n (i + 1) (acc ++ [y]) S3 (by omega) (by simp; omega) h4
theorem for_inv {ds : List D} {g : GM} {b : MS} (P : Nat → Sl → Sto → Prop)
    (st : ∀ i d sd S, ds[i]? = some d → P i sd S → ∃ sd1 S1, g d sd S = some (sd1, S1) ∧ ∃ sd2 S2, (b sd1 S1 = .ok .nx sd2 S2 ∨ b sd1 S1 = .ok .ct sd2 S2) ∧ P (i + 1) sd2 S2) :
    ∀ (n i : Nat) (sd : Sl) (S : Sto), i + n = ds.length → P i sd S → ∃ sd' S', forGo (.vals ds) g b n i sd S = .ok .nx sd' S' ∧ P ds.length sd' S'
  | 0, i, sd, S, hi, h => ⟨sd, S, by simp [forGo], by rw [← hi]; exact h⟩
  | n + 1, i, sd, S, hi, h => by
    have hlt : i < ds.length := by omega
    have e0 : (Src.vals ds).at S i = some ds[i] := List.getElem?_eq_getElem hlt
    obtain ⟨sd1, S1, h1, sd2, S2, h2, h3⟩ := st i ds[i] sd S (List.getElem?_eq_getElem hlt) h
    unfold forGo
    simp only [e0, h1]
    rcases h2 with h2 | h2 <;> simp only [h2] <;> exact for_inv P st n (i + 1) sd2 S2 (by omega) h3

def Ss.app : Ss → Ss → Ss
  | .nil, b => b
  | .cons s a, b => .cons s (Ss.app a b)
theorem app_nx {G : List D} {C : Nat → List D → Sto → Out D} {wf : Nat} : ∀ {a b : Ss} {sd sd1 : Sl} {S S1 : Sto}, dSs G C wf a sd S = .ok .nx sd1 S1 → dSs G C wf (a.app b) sd S = dSs G C wf b sd1 S1
  | .nil, b, sd, sd1, S, S1, h => by
    rw [q_snil, q_mSkip] at h
    cases h
    rfl
  | .cons s a, b, sd, sd1, S, S1, h => by
    show mThen (dS G C wf s) (dSs G C wf (a.app b)) sd S = _
    rw [q_scons] at h
    unfold mThen at h ⊢
    split at h
    · exact app_nx h
    · rename_i o hno
      exact absurd h (hno _ _)
/-! ### the deck made -/
def deckB (nm : Str) : Ss := (.cons (.ret (.lst true (.cons (.lc true (.nm 1) (.seq (.sl (.v 0) .none (.some (.c (.int 63))))) .none (.bf .abs (.cons (.v 1) .nil)) [(nm, 1)]) (.cons (.c (.int 0)) .nil)))) .nil)
theorem deck_ok {G : List D} {C : Nat → List D → Sto → Out D} {wf : Nat} {nm : Str} {S : Sto} {ns : List Int} (hl : ns.length ≤ 63) :
    ∃ S', fnEnd (dSs G C wf (deckB nm) (slots0 2 [.fro (ns.map .int)]) S) = .ok (.loc (S.length + 1)) S' ∧ S'.length = S.length + 2 ∧ Dk S' S.length (S.length + 1) 0 ∧ ∀ c, c < S.length → S'[c]? = S[c]? := by
  have hc : cutG (ns.map D.int) none (some 63) = ns.map D.int := by
    have e : HT.sIx (ns.map D.int).length (ns.map D.int).length (some 63) = ns.length := by
      show min (63 : Int).toNat _ = _
      rw [List.length_map]; omega
    have e0 : HT.sIx (ns.map D.int).length 0 none = 0 := rfl
    unfold cutG
    rw [e, e0]
    simp only [List.drop_zero, Nat.sub_zero]
    exact List.take_of_length_le (by simp)
  have hsl : slP S (.fro (ns.map .int)) none (some 63) = some (.lst (ns.map .int)) := by
    simp [slP, asLF, hc]
  have hlc : lcGo (.vals (ns.map D.int)) (gNm 1) mYes (dE G C (.bf .abs (.cons (.v 1) .nil))) [some (.fro (ns.map .int)), none] (ns.map D.int).length 0 [] S = .ok (ns.map fun i => .int (if i < 0 then -i else i)) S := by
    rw [lc_pure (p := fun _ => true) (h := fun d => match d with | .int i => .int (if i < 0 then -i else i) | d => d) (fun d hd => ?_) _ 0 [] (by simp) (by simp; omega)]
    · rw [List.drop_zero, List.filter_eq_self.mpr fun _ _ => rfl, List.map_map]; rfl
    · obtain ⟨i, _, rfl⟩ := List.mem_map.mp hd
      exact ⟨_, rfl, rfl, fun _ => by simp⟩
  refine ⟨S ++ [.lst (ns.map fun i => .int (if i < 0 then -i else i))] ++ [.lst [.loc S.length, .int 0]], ?_, by simp, ⟨by omega, ⟨ns.map fun i => if i < 0 then -i else i, by simp, fun x hx => ?_⟩, by simp⟩, fun c hc => ?_⟩
  · have hw : wipeD [some (D.fro (ns.map .int)), none] [1] = [some (.fro (ns.map .int)), none] := rfl
    simp only [q_ebf, q_bfabs] at hlc
    simp [deckB, slots0, hsl, srcOf, hw, hlc, fnEnd]
    simp [q_lcons, q_lnil, q_ev] at hlc
    simp [hlc]
  · obtain ⟨i, _, rfl⟩ := List.mem_map.mp hx
    split <;> omega
  · rw [List.getElem?_append_left (by simp; omega), List.getElem?_append_left hc]
end Z

namespace K22
open PySem PySem.Spec PyProof.Rows L2 Z
abbrev pw : PySem.Program := PySem.Challenge.pw_steadytime_k22_programs_at_bounds
def topS (i : Nat) : Stmt := pw.main.body.getD i (.Pass ⟨0, 0, 0, 0⟩)
def gl : List (Str × D) := [("MAX_NUMBER", (.int 9)), ("MAX_LETTERS", (.int 3)), ("MAX_WORKS", (.int 5)), ("MAX_CELLS", (.int 4)), ("MAX_SIZE", (.int 4)), ("MAX_STANDS", (.int 24)), ("MAX_PARTS", (.int 400)), ("MAX_LEVEL", (.int 12)), ("KNOWN", (.str "known")), ("SECRET", (.str "secret")), ("OPERATORS", (.tup [(.str "plus"), (.str "times"), (.str "less"), (.str "same")]))]
def b_is_integer : Ss := (.cons (.ret (.bo .And (.cons (.isi (.v 0) .int) (.cons (.not (.isi (.v 0) .bool)) (.cons (.ch .LtE .LtE (.v 1) (.v 0) (.v 2)) .nil))))) .nil)
def r_is_integer : Z.Row := ⟨"is_integer", ["value", "least", "most"], ["value", "least", "most"], ⟨3, 3, b_is_integer⟩, topS 12⟩
def b_is_tuple : Ss := (.cons (.ret (.bo .And (.cons (.isi (.v 0) .tuple) (.cons (.cmp .Eq (.bf .len (.cons (.v 0) .nil)) (.v 2)) (.cons (.isi (.ix (.v 0) (.c (.int 0))) .str) (.cons (.cmp .Eq (.ix (.v 0) (.c (.int 0))) (.v 1)) .nil)))))) .nil)
def r_is_tuple : Z.Row := ⟨"is_tuple", ["value", "word", "size"], ["value", "word", "size"], ⟨3, 3, b_is_tuple⟩, topS 13⟩
def b_is_cell : Ss := (.cons (.ret (.call 0 (.cons (.v 0) (.cons (.c (.int 0)) (.cons (.op .Sub (.v 1) (.c (.int 1))) .nil))))) .nil)
def r_is_cell : Z.Row := ⟨"is_cell", ["value", "many"], ["value", "many"], ⟨2, 2, b_is_cell⟩, topS 14⟩
def b_is_sum : Ss := (.cons (.ite (.cmp .Gt (.v 2) (.g 7)) (.cons (.ret (.c (.bl false))) .nil) .nil) (.cons (.ite (.tru (.isi (.v 0) .str)) (.cons (.ret (.cmp .In (.v 0) (.tup (.cons (.g 8) (.cons (.g 9) .nil))))) .nil) .nil) (.cons (.ite (.not (.tru (.isi (.v 0) .tuple))) (.cons (.ret (.call 0 (.cons (.v 0) (.cons (.c (.int 0)) (.cons (.g 0) .nil))))) .nil) .nil) (.cons (.ite (.tru (.call 1 (.cons (.v 0) (.cons (.c (.str "cell")) (.cons (.c (.int 2)) .nil))))) (.cons (.ret (.call 2 (.cons (.ix (.v 0) (.c (.int 1))) (.cons (.v 1) .nil)))) .nil) .nil) (.cons (.ite (.bo .Or (.cons (.cmp .NotEq (.bf .len (.cons (.v 0) .nil)) (.c (.int 3))) (.cons (.not (.tru (.isi (.ix (.v 0) (.c (.int 0))) .str))) (.cons (.cmp .NotIn (.ix (.v 0) (.c (.int 0))) (.g 10)) .nil)))) (.cons (.ret (.c (.bl false))) .nil) .nil) (.cons (.ret (.bo .And (.cons (.call 3 (.cons (.ix (.v 0) (.c (.int 1))) (.cons (.v 1) (.cons (.op .Add (.v 2) (.c (.int 1))) .nil)))) (.cons (.call 3 (.cons (.ix (.v 0) (.c (.int 2))) (.cons (.v 1) (.cons (.op .Add (.v 2) (.c (.int 1))) .nil)))) .nil)))) .nil))))))
def r_is_sum : Z.Row := ⟨"is_sum", ["value", "many", "level"], ["value", "many", "level"], ⟨3, 3, b_is_sum⟩, topS 15⟩
def b_is_statement : Ss := (.cons (.ite (.cmp .Gt (.v 3) (.g 7)) (.cons (.ret (.c (.bl false))) .nil) .nil) (.cons (.ite (.tru (.call 1 (.cons (.v 0) (.cons (.c (.str "do")) (.cons (.c (.int 2)) .nil))))) (.cons (.ret (.call 0 (.cons (.ix (.v 0) (.c (.int 1))) (.cons (.c (.int 0)) (.cons (.op .Sub (.v 1) (.c (.int 1))) .nil))))) .nil) .nil) (.cons (.ite (.tru (.call 1 (.cons (.v 0) (.cons (.c (.str "set")) (.cons (.c (.int 3)) .nil))))) (.cons (.ret (.bo .And (.cons (.call 2 (.cons (.ix (.v 0) (.c (.int 1))) (.cons (.v 2) .nil))) (.cons (.call 3 (.cons (.ix (.v 0) (.c (.int 2))) (.cons (.v 2) (.cons (.op .Add (.v 3) (.c (.int 1))) .nil)))) .nil)))) .nil) .nil) (.cons (.ite (.tru (.call 1 (.cons (.v 0) (.cons (.c (.str "if")) (.cons (.c (.int 4)) .nil))))) (.cons (.ite (.not (.tru (.call 3 (.cons (.ix (.v 0) (.c (.int 1))) (.cons (.v 2) (.cons (.op .Add (.v 3) (.c (.int 1))) .nil)))))) (.cons (.ret (.c (.bl false))) .nil) .nil) (.cons (.ret (.bo .And (.cons (.call 5 (.cons (.ix (.v 0) (.c (.int 2))) (.cons (.v 1) (.cons (.v 2) (.cons (.op .Add (.v 3) (.c (.int 1))) .nil))))) (.cons (.call 5 (.cons (.ix (.v 0) (.c (.int 3))) (.cons (.v 1) (.cons (.v 2) (.cons (.op .Add (.v 3) (.c (.int 1))) .nil))))) .nil)))) .nil)) .nil) (.cons (.ret (.call 1 (.cons (.v 0) (.cons (.c (.str "stop")) (.cons (.c (.int 1)) .nil))))) .nil)))))
def r_is_statement : Z.Row := ⟨"is_statement", ["value", "works", "many", "level"], ["value", "works", "many", "level"], ⟨4, 4, b_is_statement⟩, topS 16⟩
def b_is_block : Ss := (.cons (.ite (.not (.tru (.isi (.v 0) .tuple))) (.cons (.ret (.c (.bl false))) .nil) .nil) (.cons (.ret (.cmp .Eq (.lc false (.nm 4) (.seq (.v 0)) (.some (.not (.tru (.call 4 (.cons (.v 4) (.cons (.v 1) (.cons (.v 2) (.cons (.v 3) .nil)))))))) (.v 4) [("one", 4)]) (.lst false .nil))) .nil))
def r_is_block : Z.Row := ⟨"is_block", ["value", "works", "many", "level"], ["value", "works", "many", "level", "one"], ⟨4, 5, b_is_block⟩, topS 17⟩
def b_are_cells : Ss := (.cons (.ite (.bo .Or (.cons (.not (.tru (.isi (.v 0) .tuple))) (.cons (.not (.ch .LtE .LtE (.c (.int 1)) (.bf .len (.cons (.v 0) .nil)) (.g 3))) .nil))) (.cons (.ret (.c (.bl false))) .nil) .nil) (.cons (.ite (.cmp .NotEq (.lc false (.nm 1) (.seq (.v 0)) (.some (.not (.tru (.call 0 (.cons (.v 1) (.cons (.c (.int 2)) (.cons (.g 4) .nil))))))) (.v 1) [("size", 1)]) (.lst false .nil)) (.cons (.ret (.c (.bl false))) .nil) .nil) (.cons (.ret (.cmp .LtE (.call 7 (.cons (.v 0) .nil)) (.g 5))) .nil)))
def r_are_cells : Z.Row := ⟨"are_cells", ["value"], ["value", "size"], ⟨1, 2, b_are_cells⟩, topS 18⟩
def b_stands_of : Ss := (.cons (.asg (.nm 1) (.c (.int 1))) (.cons (.for_ (.nm 2) (.seq (.v 0)) (.cons (.aug 1 .Mult (.v 2)) .nil)) (.cons (.ret (.v 1)) .nil)))
def r_stands_of : Z.Row := ⟨"stands_of", ["cells"], ["cells", "found", "size"], ⟨1, 3, b_stands_of⟩, topS 19⟩
def b_sum_parts : Ss := (.cons (.ite (.bo .And (.cons (.tru (.isi (.v 0) .tuple)) (.cons (.cmp .Eq (.bf .len (.cons (.v 0) .nil)) (.c (.int 3))) .nil))) (.cons (.ret (.op .Add (.op .Add (.c (.int 1)) (.call 8 (.cons (.ix (.v 0) (.c (.int 1))) .nil))) (.call 8 (.cons (.ix (.v 0) (.c (.int 2))) .nil)))) .nil) .nil) (.cons (.ret (.c (.int 1))) .nil))
def r_sum_parts : Z.Row := ⟨"sum_parts", ["value"], ["value"], ⟨1, 1, b_sum_parts⟩, topS 20⟩
def b_block_parts : Ss := (.cons (.asg (.nm 1) (.c (.int 0))) (.cons (.for_ (.nm 2) (.seq (.v 0)) (.cons (.aug 1 .Add (.c (.int 1))) (.cons (.ite (.cmp .Eq (.ix (.v 2) (.c (.int 0))) (.c (.str "set"))) (.cons (.aug 1 .Add (.call 8 (.cons (.ix (.v 2) (.c (.int 2))) .nil))) .nil) (.cons (.ite (.cmp .Eq (.ix (.v 2) (.c (.int 0))) (.c (.str "if"))) (.cons (.aug 1 .Add (.op .Add (.op .Add (.call 8 (.cons (.ix (.v 2) (.c (.int 1))) .nil)) (.call 9 (.cons (.ix (.v 2) (.c (.int 2))) .nil))) (.call 9 (.cons (.ix (.v 2) (.c (.int 3))) .nil)))) .nil) .nil) .nil)) .nil))) (.cons (.ret (.v 1)) .nil)))
def r_block_parts : Z.Row := ⟨"block_parts", ["block"], ["block", "found", "statement"], ⟨1, 3, b_block_parts⟩, topS 21⟩
def b_parts : Ss := (.cons (.ret (.op .Add (.call 9 (.cons (.ix (.v 0) (.c (.int 4))) .nil)) (.call 9 (.cons (.ix (.v 0) (.c (.int 5))) .nil)))) .nil)
def r_parts : Z.Row := ⟨"parts", ["program"], ["program"], ⟨1, 1, b_parts⟩, topS 22⟩
def b_program_error : Ss := (.cons (.ite (.bo .Or (.cons (.not (.tru (.isi (.v 0) .tuple))) (.cons (.cmp .NotEq (.bf .len (.cons (.v 0) .nil)) (.c (.int 6))) .nil))) (.cons (.ret (.c (.str "program"))) .nil) .nil) (.cons (.asg (.tup (.cons (.nm 1) (.cons (.nm 2) (.cons (.nm 3) (.cons (.nm 4) (.cons (.nm 5) (.cons (.nm 6) .nil))))))) (.v 0)) (.cons (.ite (.bo .Or (.cons (.not (.tru (.call 0 (.cons (.v 1) (.cons (.c (.int 1)) (.cons (.g 1) .nil)))))) (.cons (.not (.tru (.call 0 (.cons (.v 2) (.cons (.c (.int 1)) (.cons (.g 1) .nil)))))) .nil))) (.cons (.ret (.c (.str "letters"))) .nil) .nil) (.cons (.ite (.not (.tru (.call 0 (.cons (.v 3) (.cons (.c (.int 1)) (.cons (.g 2) .nil)))))) (.cons (.ret (.c (.str "works"))) .nil) .nil) (.cons (.ite (.not (.tru (.call 6 (.cons (.v 4) .nil)))) (.cons (.ret (.c (.str "cells"))) .nil) .nil) (.cons (.ite (.not (.tru (.call 5 (.cons (.v 5) (.cons (.v 3) (.cons (.bf .len (.cons (.v 4) .nil)) (.cons (.c (.int 1)) .nil))))))) (.cons (.ret (.c (.str "body"))) .nil) .nil) (.cons (.ite (.not (.tru (.call 5 (.cons (.v 6) (.cons (.v 3) (.cons (.bf .len (.cons (.v 4) .nil)) (.cons (.c (.int 1)) .nil))))))) (.cons (.ret (.c (.str "tail"))) .nil) .nil) (.cons (.ret (.ifx (.cmp .Gt (.call 10 (.cons (.v 0) .nil)) (.g 6)) (.c (.str "parts")) (.c .non))) .nil))))))))
def r_program_error : Z.Row := ⟨"program_error", ["value"], ["value", "known", "secret", "works", "cells", "body", "tail"], ⟨1, 7, b_program_error⟩, topS 23⟩
def b_law_deck : Ss := (.cons (.ret (.lst true (.cons (.lc true (.nm 1) (.seq (.sl (.v 0) .none (.some (.c (.int 63))))) .none (.bf .abs (.cons (.v 1) .nil)) [("_law_cell", 1)]) (.cons (.c (.int 0)) .nil)))) .nil)
def r_law_deck : Z.Row := ⟨"_law_deck", ["_law_script"], ["_law_script", "_law_cell"], ⟨1, 2, b_law_deck⟩, topS 25⟩
def b_law_draw : Ss := (.cons (.asg (.sub (.v 0) (.c (.int 1))) (.op .Add (.ix (.v 0) (.c (.int 1))) (.c (.int 1)))) (.cons (.asg (.tup (.cons (.nm 3) (.cons (.nm 4) .nil))) (.tup (.cons (.c (.int 0)) (.cons (.neg (.c (.int 1))) .nil)))) (.cons (.ite (.cmp .Gt (.bf .len (.cons (.ix (.v 0) (.c (.int 0))) .nil)) (.c (.int 0))) (.cons (.asg (.nm 4) (.op .Mod (.bf .int (.cons (.ix (.v 0) (.c (.int 1))) .nil)) (.bf .len (.cons (.ix (.v 0) (.c (.int 0))) .nil)))) (.cons (.asg (.nm 3) (.ix (.ix (.v 0) (.c (.int 0))) (.v 4))) .nil)) .nil) (.cons (.ite (.cmp .GtE (.v 3) (.op .Pow (.c (.int 10)) (.c (.int 18)))) (.cons (.asg (.sub (.ix (.v 0) (.c (.int 0))) (.v 4)) (.op .FloorDiv (.bf .int (.cons (.v 3) .nil)) (.v 1))) (.cons (.ret (.op .Mod (.bf .int (.cons (.v 3) .nil)) (.v 1))) .nil)) .nil) (.cons (.asg (.nm 2) (.op .Add (.op .Add (.op .Mod (.bf .int (.cons (.v 3) .nil)) (.c (.int 2147483477))) (.op .Mult (.c (.int 6833)) (.ix (.v 0) (.c (.int 1))))) (.c (.int 17)))) (.cons (.ret (.op .Mod (.bf .int (.cons (.op .Mod (.bf .int (.cons (.op .Pow (.v 2) (.c (.int 5))) .nil)) (.c (.int 2147483543))) .nil)) (.v 1))) .nil))))))
def r_law_draw : Z.Row := ⟨"_law_draw", ["_law_deck_here", "_law_most"], ["_law_deck_here", "_law_most", "_law_mixed", "_law_cell", "_law_at"], ⟨2, 5, b_law_draw⟩, topS 26⟩
def b_law_one : Ss := (.cons (.ret (.ix (.v 1) (.call 13 (.cons (.v 0) (.cons (.bf .len (.cons (.v 1) .nil)) .nil))))) .nil)
def r_law_one : Z.Row := ⟨"_law_one", ["_law_deck_here", "_law_items"], ["_law_deck_here", "_law_items"], ⟨2, 2, b_law_one⟩, topS 27⟩
def b_law_deep : Ss := (.cons (.asg (.nm 1) (.c (.str "secret"))) (.cons (.for_ (.nm 2) (.rng1 (.cons (.op .Sub (.v 0) (.c (.int 1))) .nil)) (.cons (.asg (.nm 1) (.ifx (.cmp .Eq (.op .Mod (.bf .int (.cons (.v 2) .nil)) (.c (.int 2))) (.c (.int 0))) (.tup (.cons (.c (.str "plus")) (.cons (.v 1) (.cons (.c (.int 1)) .nil)))) (.tup (.cons (.c (.str "less")) (.cons (.c (.int 1)) (.cons (.v 1) .nil)))))) .nil)) (.cons (.ret (.v 1)) .nil)))
def r_law_deep : Z.Row := ⟨"_law_deep", ["_law_levels"], ["_law_levels", "_law_found", "_law_k"], ⟨1, 3, b_law_deep⟩, topS 28⟩
def b_law_nest : Ss := (.cons (.asg (.nm 2) (.v 1)) (.cons (.for_ (.nm 3) (.rng1 (.cons (.op .Sub (.v 0) (.c (.int 1))) .nil)) (.cons (.asg (.nm 2) (.ifx (.cmp .Eq (.op .Mod (.bf .int (.cons (.v 3) .nil)) (.c (.int 2))) (.c (.int 0))) (.tup (.cons (.c (.str "if")) (.cons (.c (.int 0)) (.cons (.tup (.cons (.v 2) .nil)) (.cons (.tup .nil) .nil))))) (.tup (.cons (.c (.str "if")) (.cons (.c (.int 1)) (.cons (.tup .nil) (.cons (.tup (.cons (.v 2) .nil)) .nil))))))) .nil)) (.cons (.ret (.v 2)) .nil)))
def r_law_nest : Z.Row := ⟨"_law_nest", ["_law_levels", "_law_inner"], ["_law_levels", "_law_inner", "_law_found", "_law_k"], ⟨2, 4, b_law_nest⟩, topS 29⟩
def b_law_told : Ss := (.cons (.ret (.op .Add (.lst false (.cons (.call 11 (.cons (.v 0) .nil)) .nil)) (.ifx (.cmp .LtE (.v 1) (.c (.int 400))) (.lst false (.cons (.call 10 (.cons (.v 0) .nil)) .nil)) (.lst false .nil)))) .nil)
def r_law_told : Z.Row := ⟨"_law_told", ["_law_program", "_law_wide"], ["_law_program", "_law_wide"], ⟨2, 2, b_law_told⟩, topS 30⟩
def b_law : Ss := (.cons (.asg (.nm 1) (.call 12 (.cons (.v 0) .nil))) (.cons (.for_ (.nm 2) (.rng1 (.cons (.c (.int 8)) .nil)) (.cons (.asg (.nm 3) (.op .Add (.c (.int 9)) (.call 13 (.cons (.v 1) (.cons (.c (.int 5)) .nil))))) (.cons (.asg (.nm 4) (.call 13 (.cons (.v 1) (.cons (.v 3) .nil)))) (.cons (.asg (.nm 5) (.tup (.cons (.c (.str "set")) (.cons (.c (.int 0)) (.cons (.call 15 (.cons (.op .Sub (.v 3) (.v 4)) .nil)) .nil))))) (.cons (.ite (.cmp .Eq (.call 13 (.cons (.v 1) (.cons (.c (.int 2)) .nil))) (.c (.int 0))) (.cons (.asg (.nm 5) (.tup (.cons (.c (.str "if")) (.cons (.call 15 (.cons (.op .Sub (.v 3) (.v 4)) .nil)) (.cons (.tup .nil) (.cons (.tup .nil) .nil)))))) .nil) .nil) (.cons (.asg (.nm 6) (.ifx (.cmp .Gt (.v 4) (.c (.int 0))) (.tup (.cons (.call 16 (.cons (.v 4) (.cons (.v 5) .nil))) .nil)) (.tup (.cons (.tup (.cons (.c (.str "set")) (.cons (.c (.int 0)) (.cons (.call 15 (.cons (.op .Sub (.v 3) (.c (.int 1))) .nil)) .nil)))) .nil)))) (.cons (.asg (.nm 7) (.ifx (.cmp .Gt (.v 4) (.c (.int 0))) (.v 3) (.v 3))) (.cons (.asg (.nm 8) (.ifx (.cmp .LtE (.v 7) (.c (.int 12))) (.c .non) (.c (.str "body")))) (.cons (.asg (.nm 9) (.tup (.cons (.c (.int 3)) (.cons (.c (.int 3)) (.cons (.c (.int 5)) (.cons (.tup (.cons (.c (.int 4)) (.cons (.c (.int 3)) (.cons (.c (.int 2)) .nil)))) (.cons (.v 6) (.cons (.tup .nil) .nil)))))))) (.cons (.ite (.cmp .NotEq (.bf .repr (.cons (.call 11 (.cons (.v 9) .nil)) .nil)) (.bf .repr (.cons (.v 8) .nil))) (.cons (.ret (.c (.bl false))) .nil) .nil) (.cons (.ite (.cmp .NotEq (.bf .repr (.cons (.call 11 (.cons (.op .Add (.sl (.v 9) .none (.some (.c (.int 4)))) (.tup (.cons (.tup .nil) (.cons (.v 6) .nil)))) .nil)) .nil)) (.bf .repr (.cons (.ifx (.cmp .Is (.v 8) (.c .non)) (.c .non) (.c (.str "tail"))) .nil))) (.cons (.ret (.c (.bl false))) .nil) .nil) (.cons (.asg (.nm 10) (.op .Add (.c (.int 398)) (.call 13 (.cons (.v 1) (.cons (.c (.int 4)) .nil))))) (.cons (.asg (.nm 11) (.call 13 (.cons (.v 1) (.cons (.v 10) .nil)))) (.cons (.asg (.nm 12) (.tup (.cons (.c (.int 1)) (.cons (.c (.int 1)) (.cons (.c (.int 1)) (.cons (.tup (.cons (.c (.int 2)) .nil)) (.cons (.op .Mult (.tup (.cons (.tup (.cons (.c (.str "do")) (.cons (.c (.int 0)) .nil))) .nil)) (.v 11)) (.cons (.op .Mult (.tup (.cons (.tup (.cons (.c (.str "do")) (.cons (.c (.int 0)) .nil))) .nil)) (.op .Sub (.v 10) (.v 11))) .nil)))))))) (.cons (.ite (.cmp .NotEq (.bf .repr (.cons (.call 17 (.cons (.v 12) (.cons (.v 10) .nil))) .nil)) (.bf .repr (.cons (.ifx (.cmp .LtE (.v 10) (.c (.int 400))) (.lst false (.cons (.c .non) (.cons (.v 10) .nil))) (.lst false (.cons (.c (.str "parts")) .nil))) .nil))) (.cons (.ret (.c (.bl false))) .nil) .nil) (.cons (.ite (.cmp .NotEq (.bf .repr (.cons (.lc false (.nm 20) (.seq (.lst false (.cons (.c .non) (.cons (.tup (.cons (.tup (.cons (.c (.str "do")) (.cons (.c (.int 5)) .nil))) .nil)) (.cons (.lst false (.cons (.tup .nil) .nil)) .nil))))) .none (.call 11 (.cons (.op .Add (.sl (.v 12) .none (.some (.c (.int 5)))) (.tup (.cons (.v 20) .nil))) .nil)) [("_law_odd", 20)]) .nil)) (.bf .repr (.cons (.op .Mult (.lst false (.cons (.c (.str "tail")) .nil)) (.c (.int 3))) .nil))) (.cons (.ret (.c (.bl false))) .nil) .nil) (.cons (.asg (.nm 13) (.call 13 (.cons (.v 1) (.cons (.c (.int 39)) .nil)))) (.cons (.asg (.nm 14) (.bf .tup (.cons (.lc false (.nm 19) (.rng1 (.cons (.v 13) .nil)) .none (.tup (.cons (.c (.str "set")) (.cons (.c (.int 0)) (.cons (.call 15 (.cons (.c (.int 5)) .nil)) .nil)))) [("_law_k", 19)]) .nil))) (.cons (.asg (.nm 14) (.op .Add (.v 14) (.bf .tup (.cons (.lc false (.nm 19) (.rng1 (.cons (.c (.int 2)) .nil)) .none (.tup (.cons (.c (.str "if")) (.cons (.call 15 (.cons (.c (.int 2)) .nil)) (.cons (.tup (.cons (.tup (.cons (.c (.str "stop")) .nil)) .nil)) (.cons (.tup .nil) .nil))))) [("_law_k", 19)]) .nil)))) (.cons (.asg (.nm 14) (.tup (.cons (.c (.int 1)) (.cons (.c (.int 1)) (.cons (.c (.int 1)) (.cons (.tup (.cons (.c (.int 2)) .nil)) (.cons (.op .Add (.v 14) (.op .Mult (.tup (.cons (.tup (.cons (.c (.str "do")) (.cons (.c (.int 0)) .nil))) .nil)) (.bf .max2 (.cons (.c (.int 0)) (.cons (.op .Sub (.op .Sub (.v 10) (.op .Mult (.c (.int 10)) (.v 13))) (.c (.int 10))) .nil))))) (.cons (.tup .nil) .nil)))))))) (.cons (.ite (.cmp .NotEq (.bf .repr (.cons (.call 17 (.cons (.v 14) (.cons (.v 10) .nil))) .nil)) (.bf .repr (.cons (.ifx (.cmp .LtE (.v 10) (.c (.int 400))) (.lst false (.cons (.c .non) (.cons (.v 10) .nil))) (.lst false (.cons (.c (.str "parts")) .nil))) .nil))) (.cons (.ret (.c (.bl false))) .nil) .nil) (.cons (.asg (.nm 15) (.call 14 (.cons (.v 1) (.cons (.lst false (.cons (.tup (.cons (.c (.int 2)) (.cons (.c (.int 3)) (.cons (.c (.int 4)) .nil)))) (.cons (.tup (.cons (.c (.int 4)) (.cons (.c (.int 4)) .nil))) (.cons (.tup (.cons (.c (.int 3)) (.cons (.c (.int 3)) (.cons (.c (.int 3)) .nil)))) (.cons (.tup (.cons (.c (.int 2)) (.cons (.c (.int 2)) (.cons (.c (.int 2)) (.cons (.c (.int 3)) .nil))))) (.cons (.tup (.cons (.c (.int 2)) (.cons (.c (.int 2)) (.cons (.c (.int 2)) (.cons (.c (.int 2)) .nil))))) (.cons (.tup (.cons (.c (.int 4)) (.cons (.c (.int 3)) (.cons (.c (.int 2)) (.cons (.c (.int 2)) .nil))))) (.cons (.tup (.cons (.c (.int 4)) (.cons (.c (.int 4)) (.cons (.c (.int 2)) .nil)))) (.cons (.op .Mult (.tup (.cons (.c (.int 2)) .nil)) (.c (.int 5))) .nil))))))))) .nil)))) (.cons (.asg (.nm 16) (.c (.int 1))) (.cons (.for_ (.nm 17) (.seq (.v 15)) (.cons (.asg (.nm 16) (.op .Mult (.v 16) (.v 17))) .nil)) (.cons (.asg (.nm 18) (.call 11 (.cons (.tup (.cons (.c (.int 1)) (.cons (.c (.int 1)) (.cons (.c (.int 1)) (.cons (.v 15) (.cons (.tup .nil) (.cons (.tup .nil) .nil))))))) .nil))) (.cons (.ite (.cmp .NotEq (.bf .repr (.cons (.v 18) .nil)) (.bf .repr (.cons (.ifx (.bo .And (.cons (.cmp .LtE (.v 16) (.c (.int 24))) (.cons (.cmp .LtE (.bf .len (.cons (.v 15) .nil)) (.c (.int 4))) .nil))) (.c .non) (.c (.str "cells"))) .nil))) (.cons (.ret (.c (.bl false))) .nil) .nil) (.cons (.asg (.nm 13) (.tup (.cons (.tup (.cons (.c (.str "set")) (.cons (.c (.int 0)) (.cons (.call 15 (.cons (.c (.int 12)) .nil)) .nil)))) .nil))) (.cons (.ite (.cmp .NotEq (.bf .repr (.cons (.lst false (.cons (.call 11 (.cons (.tup (.cons (.c (.int 1)) (.cons (.c (.int 1)) (.cons (.c (.int 1)) (.cons (.tup (.cons (.c (.int 2)) .nil)) (.cons (.v 13) (.cons (.tup .nil) .nil))))))) .nil)) (.cons (.call 11 (.cons (.tup (.cons (.c (.int 1)) (.cons (.c (.int 1)) (.cons (.c (.int 1)) (.cons (.tup (.cons (.c (.int 2)) .nil)) (.cons (.tup (.cons (.tup (.cons (.c (.str "do")) (.cons (.c (.int 1)) .nil))) .nil)) (.cons (.tup .nil) .nil))))))) .nil)) .nil))) .nil)) (.bf .repr (.cons (.op .Mult (.lst false (.cons (.c (.str "body")) .nil)) (.c (.int 2))) .nil))) (.cons (.ret (.c (.bl false))) .nil) .nil) .nil)))))))))))))))))))))))))))) (.cons (.ret (.c (.bl true))) .nil)))
def r_law : Z.Row := ⟨"law", ["_law_script"], ["_law_script", "_law_deck_here", "_law_turn", "_law_deep_here", "_law_blocks", "_law_set_of", "_law_body", "_law_levels", "_law_due", "_law_program", "_law_wide", "_law_first", "_law_whole", "_law_sums", "_law_mixed", "_law_cells", "_law_room", "_law_size", "_law_told_here", "_law_k", "_law_odd"], ⟨1, 21, b_law⟩, topS 31⟩
def rows : List Z.Row := [r_is_integer, r_is_tuple, r_is_cell, r_is_sum, r_is_statement, r_is_block, r_are_cells, r_stands_of, r_sum_parts, r_block_parts, r_parts, r_program_error, r_law_deck, r_law_draw, r_law_one, r_law_deep, r_law_nest, r_law_told, r_law]
def loose : List Str := ["MAX_NUMBER", "MAX_LETTERS", "MAX_WORKS", "MAX_CELLS", "MAX_SIZE", "MAX_STANDS", "MAX_PARTS", "MAX_LEVEL", "KNOWN", "SECRET", "OPERATORS", "is_integer", "is_tuple", "is_cell", "is_sum", "is_statement", "is_block", "are_cells", "stands_of", "sum_parts", "block_parts", "parts", "program_error", "_law_deck", "_law_draw", "_law_one", "_law_deep", "_law_nest", "_law_told"]
def C : Tab := ⟨rows.map fun r => (r.x, r.ps.length), gl⟩
theorem ok_r_is_integer : rowOk C r_is_integer = true := by decide +kernel
theorem ok_r_is_tuple : rowOk C r_is_tuple = true := by decide +kernel
theorem ok_r_is_cell : rowOk C r_is_cell = true := by decide +kernel
theorem ok_r_is_sum : rowOk C r_is_sum = true := by decide +kernel
theorem ok_r_is_statement : rowOk C r_is_statement = true := by decide +kernel
theorem ok_r_is_block : rowOk C r_is_block = true := by decide +kernel
theorem ok_r_are_cells : rowOk C r_are_cells = true := by decide +kernel
theorem ok_r_stands_of : rowOk C r_stands_of = true := by decide +kernel
theorem ok_r_sum_parts : rowOk C r_sum_parts = true := by decide +kernel
theorem ok_r_block_parts : rowOk C r_block_parts = true := by decide +kernel
theorem ok_r_parts : rowOk C r_parts = true := by decide +kernel
theorem ok_r_program_error : rowOk C r_program_error = true := by decide +kernel
theorem ok_r_law_deck : rowOk C r_law_deck = true := by decide +kernel
theorem ok_r_law_draw : rowOk C r_law_draw = true := by decide +kernel
theorem ok_r_law_one : rowOk C r_law_one = true := by decide +kernel
theorem ok_r_law_deep : rowOk C r_law_deep = true := by decide +kernel
theorem ok_r_law_nest : rowOk C r_law_nest = true := by decide +kernel
theorem ok_r_law_told : rowOk C r_law_told = true := by decide +kernel
theorem ok_r_law : rowOk C r_law = true := by decide +kernel
end K22

namespace K22
open PySem PySem.Spec PyProof.Rows L2 Z
abbrev T : List Fn := rows.map Z.Row.fn
abbrev G : List D := gl.map (·.2)
abbrev C0 : Nat → List D → Sto → Out D := run T G 0 59
def st0 : S1 := (.asg (.nm 3) (.op .Add (.c (.int 9)) (.call 13 (.cons (.v 1) (.cons (.c (.int 5)) .nil)))))
def st1 : S1 := (.asg (.nm 4) (.call 13 (.cons (.v 1) (.cons (.v 3) .nil))))
def st2 : S1 := (.asg (.nm 5) (.tup (.cons (.c (.str "set")) (.cons (.c (.int 0)) (.cons (.call 15 (.cons (.op .Sub (.v 3) (.v 4)) .nil)) .nil)))))
def st3 : S1 := (.ite (.cmp .Eq (.call 13 (.cons (.v 1) (.cons (.c (.int 2)) .nil))) (.c (.int 0))) (.cons (.asg (.nm 5) (.tup (.cons (.c (.str "if")) (.cons (.call 15 (.cons (.op .Sub (.v 3) (.v 4)) .nil)) (.cons (.tup .nil) (.cons (.tup .nil) .nil)))))) .nil) .nil)
def st4 : S1 := (.asg (.nm 6) (.ifx (.cmp .Gt (.v 4) (.c (.int 0))) (.tup (.cons (.call 16 (.cons (.v 4) (.cons (.v 5) .nil))) .nil)) (.tup (.cons (.tup (.cons (.c (.str "set")) (.cons (.c (.int 0)) (.cons (.call 15 (.cons (.op .Sub (.v 3) (.c (.int 1))) .nil)) .nil)))) .nil))))
def st5 : S1 := (.asg (.nm 7) (.ifx (.cmp .Gt (.v 4) (.c (.int 0))) (.v 3) (.v 3)))
def st6 : S1 := (.asg (.nm 8) (.ifx (.cmp .LtE (.v 7) (.c (.int 12))) (.c .non) (.c (.str "body"))))
def st7 : S1 := (.asg (.nm 9) (.tup (.cons (.c (.int 3)) (.cons (.c (.int 3)) (.cons (.c (.int 5)) (.cons (.tup (.cons (.c (.int 4)) (.cons (.c (.int 3)) (.cons (.c (.int 2)) .nil)))) (.cons (.v 6) (.cons (.tup .nil) .nil))))))))
def st8 : S1 := (.ite (.cmp .NotEq (.bf .repr (.cons (.call 11 (.cons (.v 9) .nil)) .nil)) (.bf .repr (.cons (.v 8) .nil))) (.cons (.ret (.c (.bl false))) .nil) .nil)
def st9 : S1 := (.ite (.cmp .NotEq (.bf .repr (.cons (.call 11 (.cons (.op .Add (.sl (.v 9) .none (.some (.c (.int 4)))) (.tup (.cons (.tup .nil) (.cons (.v 6) .nil)))) .nil)) .nil)) (.bf .repr (.cons (.ifx (.cmp .Is (.v 8) (.c .non)) (.c .non) (.c (.str "tail"))) .nil))) (.cons (.ret (.c (.bl false))) .nil) .nil)
def st10 : S1 := (.asg (.nm 10) (.op .Add (.c (.int 398)) (.call 13 (.cons (.v 1) (.cons (.c (.int 4)) .nil)))))
def st11 : S1 := (.asg (.nm 11) (.call 13 (.cons (.v 1) (.cons (.v 10) .nil))))
def st12 : S1 := (.asg (.nm 12) (.tup (.cons (.c (.int 1)) (.cons (.c (.int 1)) (.cons (.c (.int 1)) (.cons (.tup (.cons (.c (.int 2)) .nil)) (.cons (.op .Mult (.tup (.cons (.tup (.cons (.c (.str "do")) (.cons (.c (.int 0)) .nil))) .nil)) (.v 11)) (.cons (.op .Mult (.tup (.cons (.tup (.cons (.c (.str "do")) (.cons (.c (.int 0)) .nil))) .nil)) (.op .Sub (.v 10) (.v 11))) .nil))))))))
def st13 : S1 := (.ite (.cmp .NotEq (.bf .repr (.cons (.call 17 (.cons (.v 12) (.cons (.v 10) .nil))) .nil)) (.bf .repr (.cons (.ifx (.cmp .LtE (.v 10) (.c (.int 400))) (.lst false (.cons (.c .non) (.cons (.v 10) .nil))) (.lst false (.cons (.c (.str "parts")) .nil))) .nil))) (.cons (.ret (.c (.bl false))) .nil) .nil)
def st14 : S1 := (.ite (.cmp .NotEq (.bf .repr (.cons (.lc false (.nm 20) (.seq (.lst false (.cons (.c .non) (.cons (.tup (.cons (.tup (.cons (.c (.str "do")) (.cons (.c (.int 5)) .nil))) .nil)) (.cons (.lst false (.cons (.tup .nil) .nil)) .nil))))) .none (.call 11 (.cons (.op .Add (.sl (.v 12) .none (.some (.c (.int 5)))) (.tup (.cons (.v 20) .nil))) .nil)) [("_law_odd", 20)]) .nil)) (.bf .repr (.cons (.op .Mult (.lst false (.cons (.c (.str "tail")) .nil)) (.c (.int 3))) .nil))) (.cons (.ret (.c (.bl false))) .nil) .nil)
def st15 : S1 := (.asg (.nm 13) (.call 13 (.cons (.v 1) (.cons (.c (.int 39)) .nil))))
def st16 : S1 := (.asg (.nm 14) (.bf .tup (.cons (.lc false (.nm 19) (.rng1 (.cons (.v 13) .nil)) .none (.tup (.cons (.c (.str "set")) (.cons (.c (.int 0)) (.cons (.call 15 (.cons (.c (.int 5)) .nil)) .nil)))) [("_law_k", 19)]) .nil)))
def st17 : S1 := (.asg (.nm 14) (.op .Add (.v 14) (.bf .tup (.cons (.lc false (.nm 19) (.rng1 (.cons (.c (.int 2)) .nil)) .none (.tup (.cons (.c (.str "if")) (.cons (.call 15 (.cons (.c (.int 2)) .nil)) (.cons (.tup (.cons (.tup (.cons (.c (.str "stop")) .nil)) .nil)) (.cons (.tup .nil) .nil))))) [("_law_k", 19)]) .nil))))
def st18 : S1 := (.asg (.nm 14) (.tup (.cons (.c (.int 1)) (.cons (.c (.int 1)) (.cons (.c (.int 1)) (.cons (.tup (.cons (.c (.int 2)) .nil)) (.cons (.op .Add (.v 14) (.op .Mult (.tup (.cons (.tup (.cons (.c (.str "do")) (.cons (.c (.int 0)) .nil))) .nil)) (.bf .max2 (.cons (.c (.int 0)) (.cons (.op .Sub (.op .Sub (.v 10) (.op .Mult (.c (.int 10)) (.v 13))) (.c (.int 10))) .nil))))) (.cons (.tup .nil) .nil))))))))
def st19 : S1 := (.ite (.cmp .NotEq (.bf .repr (.cons (.call 17 (.cons (.v 14) (.cons (.v 10) .nil))) .nil)) (.bf .repr (.cons (.ifx (.cmp .LtE (.v 10) (.c (.int 400))) (.lst false (.cons (.c .non) (.cons (.v 10) .nil))) (.lst false (.cons (.c (.str "parts")) .nil))) .nil))) (.cons (.ret (.c (.bl false))) .nil) .nil)
def st20 : S1 := (.asg (.nm 15) (.call 14 (.cons (.v 1) (.cons (.lst false (.cons (.tup (.cons (.c (.int 2)) (.cons (.c (.int 3)) (.cons (.c (.int 4)) .nil)))) (.cons (.tup (.cons (.c (.int 4)) (.cons (.c (.int 4)) .nil))) (.cons (.tup (.cons (.c (.int 3)) (.cons (.c (.int 3)) (.cons (.c (.int 3)) .nil)))) (.cons (.tup (.cons (.c (.int 2)) (.cons (.c (.int 2)) (.cons (.c (.int 2)) (.cons (.c (.int 3)) .nil))))) (.cons (.tup (.cons (.c (.int 2)) (.cons (.c (.int 2)) (.cons (.c (.int 2)) (.cons (.c (.int 2)) .nil))))) (.cons (.tup (.cons (.c (.int 4)) (.cons (.c (.int 3)) (.cons (.c (.int 2)) (.cons (.c (.int 2)) .nil))))) (.cons (.tup (.cons (.c (.int 4)) (.cons (.c (.int 4)) (.cons (.c (.int 2)) .nil)))) (.cons (.op .Mult (.tup (.cons (.c (.int 2)) .nil)) (.c (.int 5))) .nil))))))))) .nil))))
def st21 : S1 := (.asg (.nm 16) (.c (.int 1)))
def st22 : S1 := (.for_ (.nm 17) (.seq (.v 15)) (.cons (.asg (.nm 16) (.op .Mult (.v 16) (.v 17))) .nil))
def st23 : S1 := (.asg (.nm 18) (.call 11 (.cons (.tup (.cons (.c (.int 1)) (.cons (.c (.int 1)) (.cons (.c (.int 1)) (.cons (.v 15) (.cons (.tup .nil) (.cons (.tup .nil) .nil))))))) .nil)))
def st24 : S1 := (.ite (.cmp .NotEq (.bf .repr (.cons (.v 18) .nil)) (.bf .repr (.cons (.ifx (.bo .And (.cons (.cmp .LtE (.v 16) (.c (.int 24))) (.cons (.cmp .LtE (.bf .len (.cons (.v 15) .nil)) (.c (.int 4))) .nil))) (.c .non) (.c (.str "cells"))) .nil))) (.cons (.ret (.c (.bl false))) .nil) .nil)
def st25 : S1 := (.asg (.nm 13) (.tup (.cons (.tup (.cons (.c (.str "set")) (.cons (.c (.int 0)) (.cons (.call 15 (.cons (.c (.int 12)) .nil)) .nil)))) .nil)))
def st26 : S1 := (.ite (.cmp .NotEq (.bf .repr (.cons (.lst false (.cons (.call 11 (.cons (.tup (.cons (.c (.int 1)) (.cons (.c (.int 1)) (.cons (.c (.int 1)) (.cons (.tup (.cons (.c (.int 2)) .nil)) (.cons (.v 13) (.cons (.tup .nil) .nil))))))) .nil)) (.cons (.call 11 (.cons (.tup (.cons (.c (.int 1)) (.cons (.c (.int 1)) (.cons (.c (.int 1)) (.cons (.tup (.cons (.c (.int 2)) .nil)) (.cons (.tup (.cons (.tup (.cons (.c (.str "do")) (.cons (.c (.int 1)) .nil))) .nil)) (.cons (.tup .nil) .nil))))))) .nil)) .nil))) .nil)) (.bf .repr (.cons (.op .Mult (.lst false (.cons (.c (.str "body")) .nil)) (.c (.int 2))) .nil))) (.cons (.ret (.c (.bl false))) .nil) .nil)
def seg0 : Ss := (.cons st0 (.cons st1 (.cons st2 (.cons st3 .nil))))
def segA : Ss := (.cons st4 (.cons st5 (.cons st6 (.cons st7 (.cons st8 (.cons st9 .nil))))))
def segB : Ss := (.cons st10 (.cons st11 (.cons st12 (.cons st13 (.cons st14 .nil)))))
def segC : Ss := (.cons st15 (.cons st16 (.cons st17 (.cons st18 (.cons st19 .nil)))))
def segD : Ss := (.cons st21 (.cons st22 (.cons st23 (.cons st24 (.cons st25 (.cons st26 .nil))))))
def lawT : Ss := seg0.app (segA.app (segB.app (segC.app (.cons st20 segD))))
theorem law_is : b_law = .cons (.asg (.nm 1) (.call 12 (.cons (.v 0) .nil))) (.cons (.for_ (.nm 2) (.rng1 (.cons (.c (.int 8)) .nil)) lawT) (.cons (.ret (.c (.bl true))) .nil)) := by kernel_rfl
def pe0 : S1 := (.ite (.bo .Or (.cons (.not (.tru (.isi (.v 0) .tuple))) (.cons (.cmp .NotEq (.bf .len (.cons (.v 0) .nil)) (.c (.int 6))) .nil))) (.cons (.ret (.c (.str "program"))) .nil) .nil)
def pe1 : S1 := (.asg (.tup (.cons (.nm 1) (.cons (.nm 2) (.cons (.nm 3) (.cons (.nm 4) (.cons (.nm 5) (.cons (.nm 6) .nil))))))) (.v 0))
def pe2 : S1 := (.ite (.bo .Or (.cons (.not (.tru (.call 0 (.cons (.v 1) (.cons (.c (.int 1)) (.cons (.g 1) .nil)))))) (.cons (.not (.tru (.call 0 (.cons (.v 2) (.cons (.c (.int 1)) (.cons (.g 1) .nil)))))) .nil))) (.cons (.ret (.c (.str "letters"))) .nil) .nil)
def pe3 : S1 := (.ite (.not (.tru (.call 0 (.cons (.v 3) (.cons (.c (.int 1)) (.cons (.g 2) .nil)))))) (.cons (.ret (.c (.str "works"))) .nil) .nil)
def pe4 : S1 := (.ite (.not (.tru (.call 6 (.cons (.v 4) .nil)))) (.cons (.ret (.c (.str "cells"))) .nil) .nil)
def pe5 : S1 := (.ite (.not (.tru (.call 5 (.cons (.v 5) (.cons (.v 3) (.cons (.bf .len (.cons (.v 4) .nil)) (.cons (.c (.int 1)) .nil))))))) (.cons (.ret (.c (.str "body"))) .nil) .nil)
def pe6 : S1 := (.ite (.not (.tru (.call 5 (.cons (.v 6) (.cons (.v 3) (.cons (.bf .len (.cons (.v 4) .nil)) (.cons (.c (.int 1)) .nil))))))) (.cons (.ret (.c (.str "tail"))) .nil) .nil)
def pe7 : S1 := (.ret (.ifx (.cmp .Gt (.call 10 (.cons (.v 0) .nil)) (.g 6)) (.c (.str "parts")) (.c .non)))
def deepD : Nat → D
  | 0 => .str "secret"
  | n + 1 => if n % 2 = 0 then .tup [.str "plus", deepD n, .int 1] else .tup [.str "less", .int 1, deepD n]
theorem deep_list (S : Sto) : (List.range 14).map (fun (n : Nat) => C0 15 [.int (n : Int)] S) = (List.range 14).map (fun (n : Nat) => .ok (deepD (n - 1)) S) := by kernel_rfl
theorem deep_ok (S : Sto) {n : Nat} (h : n < 14) : C0 15 [.int (n : Int)] S = .ok (deepD (n - 1)) S := List.map_inj_left.mp (deep_list S) n (List.mem_range.mpr h)
def fin (o : OutS) : Option (Option (Option D) × Option (Option D) × Nat × Sto) := match o with
  | .ok .nx sd S => some (sd[1]?, sd[10]?, sd.length, S)
  | _ => none
theorem fin_ok {o : OutS} {p q : Option (Option D)} {n : Nat} {S : Sto} (h : fin o = some (p, q, n, S)) : ∃ sd, o = .ok .nx sd S ∧ sd[1]? = p ∧ sd[10]? = q ∧ sd.length = n := by
  unfold fin at h
  split at h
  · cases h; exact ⟨_, rfl, rfl, rfl, rfl⟩
  · cases h
theorem len21 {α : Type} {l : List α} (h : l.length = 21) : ∃ x0 x1 x2 x3 x4 x5 x6 x7 x8 x9 x10 x11 x12 x13 x14 x15 x16 x17 x18 x19 x20, l = [x0, x1, x2, x3, x4, x5, x6, x7, x8, x9, x10, x11, x12, x13, x14, x15, x16, x17, x18, x19, x20] := by
  match l, h with
  | [x0, x1, x2, x3, x4, x5, x6, x7, x8, x9, x10, x11, x12, x13, x14, x15, x16, x17, x18, x19, x20], _ => exact ⟨_, _, _, _, _, _, _, _, _, _, _, _, _, _, _, _, _, _, _, _, _, rfl⟩
/-- the draws of the first part -/
def cA : List (Nat × Nat × Nat) := (List.range 5).flatMap fun i => (List.range (9 + i)).flatMap fun j => (List.range 2).map fun k => (9 + i, j, k)
def setD (d b f : Nat) : D := if f = 0 then .tup [.str "if", deepD (d - b - 1), .tup [], .tup []] else .tup [.str "set", .int 0, deepD (d - b - 1)]
theorem segA_list (S : Sto) (x0 x2 x6 x7 x8 x9 x10 x11 x12 x13 x14 x15 x16 x17 x18 x19 x20 : Option D) : cA.map (fun c => fin (dSs G C0 0 segA [x0, some (.loc 1), x2, some (.int c.1), some (.int c.2.1), some (setD c.1 c.2.1 c.2.2), x6, x7, x8, x9, x10, x11, x12, x13, x14, x15, x16, x17, x18, x19, x20] S)) = cA.map (fun c => some (some (some (.loc 1)), some x10, 21, S)) := by kernel_rfl

/-! ### draws -/
theorem drw {k : Nat} {S : Sto} {n : Int} {m : Nat} (h : Dk S 0 1 n) (hn : 0 ≤ n) (hn2 : n < 1000) (hm : 0 < m) (hm2 : m < 1000) : ∃ (r : Nat) (S' : Sto), run T G 0 (k + 1) 13 [.loc 1, .int m] S = .ok (.int r) S' ∧ r < m ∧ Dk S' 0 1 (n + 1) := by
  obtain ⟨r, S', h1, h2, h3, h4, _⟩ := draw_ok (G := G) (C := run T G 0 k) (wf := 0) (p := 2147483477) (q := 6833) (t := 17) (u := 2147483543) (m := m) h hn (by omega) (by omega) (by omega) (by decide) (by decide) (by decide) (by decide) (by decide) (by decide) (by decide)
  refine ⟨r.toNat, S', ?_, by omega, h4⟩
  rw [show ((r.toNat : Nat) : Int) = r by omega]
  exact (run_succ (fn := ⟨2, 5, drawB 2147483477 6833 17 2147483543⟩) rfl rfl).trans h1

/-! ### blocks of many statements -/
def do0 : D := .tup [.str "do", .int 0]
theorem blk_ok {k : Nat} {ds : List D} {S : Sto} (hl : ds.length ≤ 100000) (h : ∀ d ∈ ds, run T G 0 k 4 [d, .int 1, .int 1, .int 1] S = .ok (.bl true) S) : run T G 0 (k + 1) 5 [.tup ds, .int 1, .int 1, .int 1] S = .ok (.bl true) S := by
  rw [run_succ (fn := ⟨4, 5, b_is_block⟩) rfl rfl]
  have e : lcGo (.vals ds) (gNm 4) (dT G (run T G 0 k) (.not (.tru (.call 4 (.cons (.v 4) (.cons (.v 1) (.cons (.v 2) (.cons (.v 3) .nil)))))))) (mVar 4) [some (.tup ds), some (.int 1), some (.int 1), some (.int 1), none] ds.length 0 [] S = .ok [] S := by
    rw [lc_pure (p := fun _ => false) (h := id) (fun d hd => ⟨[some (.tup ds), some (.int 1), some (.int 1), some (.int 1), some d], by simp, by simp [h d hd, truP], fun z => by cases z⟩) _ 0 [] (by simp) (by simp; omega)]
    simp
  have hw : wipeD [some (D.tup ds), some (.int 1), some (.int 1), some (.int 1), none] [4] = [some (.tup ds), some (.int 1), some (.int 1), some (.int 1), none] := rfl
  simp only [q_tnot, q_ttru, q_ecall, q_lcons, q_lnil, q_ev] at e
  have iz : isiD S (.tup ds) .tuple = some true := rfl
  have eq0 : eqD S (.lst []) (.lst []) = some (.bl true) := rfl
  simp [b_is_block, slots0, fnEnd, iz, truP, srcOf, hw, e, eq0]
def cnt (w : D → Nat) (ds : List D) : Nat := (ds.map w).sum
theorem bpt_ok {k : Nat} {ds : List D} {S : Sto} {w : D → Nat} (h : ∀ d ∈ ds, ∀ (x : Int) (o : Option D) (p : Option D), dSs G (run T G 0 k) 0 (.cons (.aug 1 .Add (.c (.int 1))) (.cons (.ite (.cmp .Eq (.ix (.v 2) (.c (.int 0))) (.c (.str "set"))) (.cons (.aug 1 .Add (.call 8 (.cons (.ix (.v 2) (.c (.int 2))) .nil))) .nil) (.cons (.ite (.cmp .Eq (.ix (.v 2) (.c (.int 0))) (.c (.str "if"))) (.cons (.aug 1 .Add (.op .Add (.op .Add (.call 8 (.cons (.ix (.v 2) (.c (.int 1))) .nil)) (.call 9 (.cons (.ix (.v 2) (.c (.int 2))) .nil))) (.call 9 (.cons (.ix (.v 2) (.c (.int 3))) .nil)))) .nil) .nil) .nil)) .nil)) [o, some (.int x), some d] S = .ok .nx [o, some (.int (x + w d)), some d] S) :
    run T G 0 (k + 1) 9 [.tup ds] S = .ok (.int (cnt w ds)) S := by
  rw [run_succ (fn := ⟨1, 3, b_block_parts⟩) rfl rfl]
  obtain ⟨sd', S', e1, e2⟩ := for_inv (ds := ds) (g := gNm 2) (b := dSs G (run T G 0 k) 0 (.cons (.aug 1 .Add (.c (.int 1))) (.cons (.ite (.cmp .Eq (.ix (.v 2) (.c (.int 0))) (.c (.str "set"))) (.cons (.aug 1 .Add (.call 8 (.cons (.ix (.v 2) (.c (.int 2))) .nil))) .nil) (.cons (.ite (.cmp .Eq (.ix (.v 2) (.c (.int 0))) (.c (.str "if"))) (.cons (.aug 1 .Add (.op .Add (.op .Add (.call 8 (.cons (.ix (.v 2) (.c (.int 1))) .nil)) (.call 9 (.cons (.ix (.v 2) (.c (.int 2))) .nil))) (.call 9 (.cons (.ix (.v 2) (.c (.int 3))) .nil)))) .nil) .nil) .nil)) .nil)))
    (fun i sd S' => S' = S ∧ ∃ o p, sd = [o, some (.int (cnt w (ds.take i))), p])
    (fun i d sd S' hd hP => by
      obtain ⟨rfl, o, p, rfl⟩ := hP
      refine ⟨[o, some (.int (cnt w (ds.take i))), some d], S', by simp, _, _, .inl (h d (List.mem_of_getElem? hd) _ o p), rfl, o, some d, ?_⟩
      have : ds.take (i + 1) = ds.take i ++ [d] := by rw [List.take_add_one, hd]; rfl
      rw [this]
      simp [cnt]) ds.length 0 [some (.tup ds), some (.int 0), none] S (by simp) ⟨rfl, _, _, rfl⟩
  obtain ⟨rfl, o, p, rfl⟩ := e2
  have a1 : dSs G (run T G 0 k) 0 b_block_parts (slots0 3 [.tup ds]) S' = mThen (mFor (mSeq (mVar 0)) (gNm 2) (dSs G (run T G 0 k) 0 (.cons (.aug 1 .Add (.c (.int 1))) (.cons (.ite (.cmp .Eq (.ix (.v 2) (.c (.int 0))) (.c (.str "set"))) (.cons (.aug 1 .Add (.call 8 (.cons (.ix (.v 2) (.c (.int 2))) .nil))) .nil) (.cons (.ite (.cmp .Eq (.ix (.v 2) (.c (.int 0))) (.c (.str "if"))) (.cons (.aug 1 .Add (.op .Add (.op .Add (.call 8 (.cons (.ix (.v 2) (.c (.int 1))) .nil)) (.call 9 (.cons (.ix (.v 2) (.c (.int 2))) .nil))) (.call 9 (.cons (.ix (.v 2) (.c (.int 3))) .nil)))) .nil) .nil) .nil)) .nil)))) (mThen (mRet (mVar 1)) mSkip) [some (.tup ds), some (.int 0), none] S' := rfl
  rw [a1]
  have a2 : mFor (mSeq (mVar 0)) (gNm 2) (dSs G (run T G 0 k) 0 (.cons (.aug 1 .Add (.c (.int 1))) (.cons (.ite (.cmp .Eq (.ix (.v 2) (.c (.int 0))) (.c (.str "set"))) (.cons (.aug 1 .Add (.call 8 (.cons (.ix (.v 2) (.c (.int 2))) .nil))) .nil) (.cons (.ite (.cmp .Eq (.ix (.v 2) (.c (.int 0))) (.c (.str "if"))) (.cons (.aug 1 .Add (.op .Add (.op .Add (.call 8 (.cons (.ix (.v 2) (.c (.int 1))) .nil)) (.call 9 (.cons (.ix (.v 2) (.c (.int 2))) .nil))) (.call 9 (.cons (.ix (.v 2) (.c (.int 3))) .nil)))) .nil) .nil) .nil)) .nil))) [some (.tup ds), some (.int 0), none] S' = .ok .nx [o, some (.int (cnt w (ds.take ds.length))), p] S' := by
    rw [q_mFor]
    have : mSeq (mVar 0) [some (D.tup ds), some (.int 0), none] S' = .ok (.vals ds) S' := rfl
    rw [this]
    exact e1
  rw [then_nx a2, List.take_length]
  rfl
end K22

namespace K22
open PySem PySem.Spec PyProof.Rows L2 Z
abbrev prg (ds : List D) (t : D) : D := .tup [.int 1, .int 1, .int 1, .tup [.int 2], .tup ds, t]
theorem perr_ok {k : Nat} {ds : List D} {t : D} {S : Sto} {b : Bool} {n : Int} (hb : run T G 0 (k + 20) 5 [.tup ds, .int 1, .int 1, .int 1] S = .ok (.bl true) S) (ht : run T G 0 (k + 20) 5 [t, .int 1, .int 1, .int 1] S = .ok (.bl b) S)
    (hp : b = true → run T G 0 (k + 20) 10 [prg ds t] S = .ok (.int n) S) : run T G 0 (k + 21) 11 [prg ds t] S = .ok (if b then (if 400 < n then .str "parts" else .non) else .str "tail") S := by
  rw [run_succ (fn := ⟨1, 7, b_program_error⟩) rfl rfl]
  have e : b_program_error = .cons pe0 (.cons pe1 (.cons pe2 (.cons pe3 (.cons pe4 (.cons pe5 (.cons pe6 (.cons pe7 .nil))))))) := rfl
  rw [e]
  let C := run T G 0 (k + 20)
  have h0 : dS G (run T G 0 (k + 20)) 0 pe0 (slots0 7 [prg ds t]) S = .ok .nx [some (prg ds t), none, none, none, none, none, none] S := by kernel_rfl
  have h1 : dS G (run T G 0 (k + 20)) 0 pe1 [some (prg ds t), none, none, none, none, none, none] S = .ok .nx [some (prg ds t), some (.int 1), some (.int 1), some (.int 1), some (.tup [.int 2]), some (.tup ds), some t] S := by kernel_rfl
  have h2 : dS G (run T G 0 (k + 20)) 0 pe2 [some (prg ds t), some (.int 1), some (.int 1), some (.int 1), some (.tup [.int 2]), some (.tup ds), some t] S = .ok .nx [some (prg ds t), some (.int 1), some (.int 1), some (.int 1), some (.tup [.int 2]), some (.tup ds), some t] S := by kernel_rfl
  have h3 : dS G (run T G 0 (k + 20)) 0 pe3 [some (prg ds t), some (.int 1), some (.int 1), some (.int 1), some (.tup [.int 2]), some (.tup ds), some t] S = .ok .nx [some (prg ds t), some (.int 1), some (.int 1), some (.int 1), some (.tup [.int 2]), some (.tup ds), some t] S := by kernel_rfl
  have h4 : dS G (run T G 0 (k + 20)) 0 pe4 [some (prg ds t), some (.int 1), some (.int 1), some (.int 1), some (.tup [.int 2]), some (.tup ds), some t] S = .ok .nx [some (prg ds t), some (.int 1), some (.int 1), some (.int 1), some (.tup [.int 2]), some (.tup ds), some t] S := by kernel_rfl
  have hlen : lenD S (.tup [.int 2]) = some (.int 1) := rfl
  have h5 : dS G (run T G 0 (k + 20)) 0 pe5 [some (prg ds t), some (.int 1), some (.int 1), some (.int 1), some (.tup [.int 2]), some (.tup ds), some t] S = .ok .nx [some (prg ds t), some (.int 1), some (.int 1), some (.int 1), some (.tup [.int 2]), some (.tup ds), some t] S := by
    simp [pe5, hlen, hb, truP]
  rw [q_scons, then_nx h0, q_scons, then_nx h1, q_scons, then_nx h2, q_scons, then_nx h3, q_scons, then_nx h4, q_scons, then_nx h5, q_scons]
  cases b with
  | false =>
    have h6 : dS G (run T G 0 (k + 20)) 0 pe6 [some (prg ds t), some (.int 1), some (.int 1), some (.int 1), some (.tup [.int 2]), some (.tup ds), some t] S = .ok (.rt (.str "tail")) [some (prg ds t), some (.int 1), some (.int 1), some (.int 1), some (.tup [.int 2]), some (.tup ds), some t] S := by
      simp [pe6, hlen, ht, truP]
    rw [then_rt h6]
    rfl
  | true =>
    have h6 : dS G (run T G 0 (k + 20)) 0 pe6 [some (prg ds t), some (.int 1), some (.int 1), some (.int 1), some (.tup [.int 2]), some (.tup ds), some t] S = .ok .nx [some (prg ds t), some (.int 1), some (.int 1), some (.int 1), some (.tup [.int 2]), some (.tup ds), some t] S := by
      simp [pe6, hlen, ht, truP]
    rw [then_nx h6]
    have hg : G[6]? = some (.int 400) := rfl
    by_cases z : 400 < n <;> simp [pe7, hp rfl, hg, fnEnd, z]
theorem parts_ok {k : Nat} {ds es : List D} {S : Sto} {m n : Int} (h1 : run T G 0 k 9 [.tup ds] S = .ok (.int m) S) (h2 : run T G 0 k 9 [.tup es] S = .ok (.int n) S) : run T G 0 (k + 1) 10 [prg ds (.tup es)] S = .ok (.int (m + n)) S := by
  rw [run_succ (fn := ⟨1, 1, b_parts⟩) rfl rfl]
  have i4 : ixP S (prg ds (.tup es)) (.int 4) = some (.tup ds) := rfl
  have i5 : ixP S (prg ds (.tup es)) (.int 5) = some (.tup es) := rfl
  simp [b_parts, slots0, i4, i5, h1, h2, fnEnd]
theorem told_ok {k : Nat} {p r : D} {S : Sto} {w n : Int} (h1 : run T G 0 k 11 [p] S = .ok r S) (h2 : w ≤ 400 → run T G 0 k 10 [p] S = .ok (.int n) S) : run T G 0 (k + 1) 17 [p, .int w] S = .ok (.lst (if w ≤ 400 then [r, .int n] else [r])) S := by
  rw [run_succ (fn := ⟨2, 2, b_law_told⟩) rfl rfl]
  by_cases z : w ≤ 400
  · simp [b_law_told, slots0, fnEnd, h1, h2 z, z, addP, asL]
  · simp [b_law_told, slots0, fnEnd, h1, z, addP, asL]

/-! ### statements of the blocks -/
def aD : D := .tup [.str "set", .int 0, deepD 4]
def bD : D := .tup [.str "if", deepD 1, .tup [.tup [.str "stop"]], .tup []]
theorem st_do {k : Nat} {S : Sto} : run T G 0 (k + 30) 4 [do0, .int 1, .int 1, .int 1] S = .ok (.bl true) S := by kernel_rfl
theorem st_a {k : Nat} {S : Sto} : run T G 0 (k + 30) 4 [aD, .int 1, .int 1, .int 1] S = .ok (.bl true) S := by kernel_rfl
theorem st_b {k : Nat} {S : Sto} : run T G 0 (k + 30) 4 [bD, .int 1, .int 1, .int 1] S = .ok (.bl true) S := by kernel_rfl
def wt (d : D) : Nat := match d with
  | .tup [.str "do", _] => 1
  | .tup [.str "set", _, _] => 10
  | .tup _ => 5
  | _ => 0
abbrev bpB : Ss := (.cons (.aug 1 .Add (.c (.int 1))) (.cons (.ite (.cmp .Eq (.ix (.v 2) (.c (.int 0))) (.c (.str "set"))) (.cons (.aug 1 .Add (.call 8 (.cons (.ix (.v 2) (.c (.int 2))) .nil))) .nil) (.cons (.ite (.cmp .Eq (.ix (.v 2) (.c (.int 0))) (.c (.str "if"))) (.cons (.aug 1 .Add (.op .Add (.op .Add (.call 8 (.cons (.ix (.v 2) (.c (.int 1))) .nil)) (.call 9 (.cons (.ix (.v 2) (.c (.int 2))) .nil))) (.call 9 (.cons (.ix (.v 2) (.c (.int 3))) .nil)))) .nil) .nil) .nil)) .nil))
theorem bp_do {k : Nat} {S : Sto} {x : Int} {o : Option D} : dSs G (run T G 0 (k + 30)) 0 bpB [o, some (.int x), some do0] S = .ok .nx [o, some (.int (x + 1)), some do0] S := by kernel_rfl
theorem bp_a {k : Nat} {S : Sto} {x : Int} {o : Option D} : dSs G (run T G 0 (k + 30)) 0 bpB [o, some (.int x), some aD] S = .ok .nx [o, some (.int (x + 1 + 9)), some aD] S := by kernel_rfl
theorem bp_b {k : Nat} {S : Sto} {x : Int} {o : Option D} : dSs G (run T G 0 (k + 30)) 0 bpB [o, some (.int x), some bD] S = .ok .nx [o, some (.int (x + 1 + 4)), some bD] S := by kernel_rfl
/-- blocks of these three -/
def okB (ds : List D) : Prop := ds.length ≤ 100000 ∧ ∀ d ∈ ds, d = do0 ∨ d = aD ∨ d = bD
theorem okB_blk {k : Nat} {ds : List D} {S : Sto} (h : okB ds) : run T G 0 (k + 31) 5 [.tup ds, .int 1, .int 1, .int 1] S = .ok (.bl true) S :=
  blk_ok h.1 fun d hd => by rcases h.2 d hd with rfl | rfl | rfl <;> first | exact st_do | exact st_a | exact st_b
theorem wt_do : wt do0 = 1 := by decide +kernel
theorem wt_a : wt aD = 10 := by decide +kernel
theorem wt_b : wt bD = 5 := by decide +kernel
theorem okB_parts {k : Nat} {ds : List D} {S : Sto} (h : okB ds) : run T G 0 (k + 31) 9 [.tup ds] S = .ok (.int (cnt wt ds)) S :=
  bpt_ok fun d hd x o p => by
    rcases h.2 d hd with rfl | rfl | rfl
    · rw [bp_do, wt_do]; rfl
    · rw [bp_a, wt_a]; congr 5; omega
    · rw [bp_b, wt_b]; congr 5; omega
theorem okB_perr {k : Nat} {ds es : List D} {S : Sto} (h1 : okB ds) (h2 : okB es) : run T G 0 (k + 33) 11 [prg ds (.tup es)] S = .ok (if 400 < cnt wt ds + cnt wt es then .str "parts" else .non) S := by
  have := perr_ok (k := k + 12) (b := true) (n := (cnt wt ds : Int) + (cnt wt es : Int)) (S := S) (okB_blk (k := k + 1) h1) (okB_blk (k := k + 1) h2) fun _ => parts_ok (okB_parts (k := k) h1) (okB_parts (k := k) h2)
  refine this.trans ?_
  by_cases z : 400 < cnt wt ds + cnt wt es
  · rw [if_pos z, if_pos rfl, if_pos (by omega)]
  · rw [if_neg z, if_pos rfl, if_neg (by omega)]
theorem okB_told {k w : Nat} {ds es : List D} {S : Sto} (h1 : okB ds) (h2 : okB es) (hw : cnt wt ds + cnt wt es = w) : run T G 0 (k + 34) 17 [prg ds (.tup es), .int w] S = .ok (.lst (if (w : Int) ≤ 400 then [.non, .int w] else [.str "parts"])) S := by
  have e := told_ok (k := k + 33) (w := w) (n := (cnt wt ds : Int) + (cnt wt es : Int)) (S := S) (okB_perr h1 h2) fun _ => parts_ok (okB_parts (k := k + 1) h1) (okB_parts (k := k + 1) h2)
  refine e.trans ?_
  rw [hw, show ((cnt wt ds : Int) + (cnt wt es : Int)) = (w : Int) by omega]
  by_cases z : (w : Int) ≤ 400
  · rw [if_pos z, if_pos z, if_neg (by omega)]
  · rw [if_neg z, if_neg z, if_pos (by omega)]
end K22

namespace K22
open PySem PySem.Spec PyProof.Rows L2 Z
structure Sh (sd : Sl) (q : Option (Option D)) : Prop where
  len : sd.length = 21
  deck : sd[1]? = some (some (.loc 1))
  wide : sd[10]? = q
theorem Sh.get {sd : Sl} {q : Option (Option D)} (h : Sh sd q) : ∃ x0 x2 x3 x4 x5 x6 x7 x8 x9 x10 x11 x12 x13 x14 x15 x16 x17 x18 x19 x20, q = some x10 ∧ sd = [x0, some (.loc 1), x2, x3, x4, x5, x6, x7, x8, x9, x10, x11, x12, x13, x14, x15, x16, x17, x18, x19, x20] := by
  obtain ⟨x0, x1, x2, x3, x4, x5, x6, x7, x8, x9, x10, x11, x12, x13, x14, x15, x16, x17, x18, x19, x20, rfl⟩ := len21 h.len
  have e : some x1 = some (some (D.loc 1)) := h.deck
  cases e
  exact ⟨x0, x2, x3, x4, x5, x6, x7, x8, x9, x10, x11, x12, x13, x14, x15, x16, x17, x18, x19, x20, h.wide.symm, rfl⟩
theorem eq_int {S : Sto} {i j : Int} : eqD S (.int i) (.int j) = some (.bl (decide (i = j))) := rfl
theorem ne_str {S : Sto} {s t : Str} : neD S (.str s) (.str t) = some (.bl (!decide (s = t))) := rfl
theorem mem_cA {d b f : Nat} (h1 : 9 ≤ d) (h2 : d < 14) (h3 : b < d) (h4 : f < 2) : (d, b, f) ∈ cA := by
  unfold cA
  refine List.mem_flatMap.mpr ⟨d - 9, List.mem_range.mpr (by omega), List.mem_flatMap.mpr ⟨b, List.mem_range.mpr (by omega), List.mem_map.mpr ⟨f, List.mem_range.mpr h4, ?_⟩⟩⟩
  rw [show 9 + (d - 9) = d by omega]
theorem part0 {sd : Sl} {S : Sto} {q : Option (Option D)} {n : Int} (h : Sh sd q) (hd : Dk S 0 1 n) (hn : 0 ≤ n) (hn2 : n < 900) : ∃ sd' S', dSs G C0 0 seg0 sd S = .ok .nx sd' S' ∧ Dk S' 0 1 (n + 3) ∧ ∃ d b f : Nat, 9 ≤ d ∧ d < 14 ∧ b < d ∧ f < 2 ∧ ∃ x0 x2 x6 x7 x8 x9 x10 x11 x12 x13 x14 x15 x16 x17 x18 x19 x20, sd' = [x0, some (.loc 1), x2, some (.int d), some (.int b), some (setD d b f), x6, x7, x8, x9, x10, x11, x12, x13, x14, x15, x16, x17, x18, x19, x20] := by
  obtain ⟨x0, x2, x3, x4, x5, x6, x7, x8, x9, x10, x11, x12, x13, x14, x15, x16, x17, x18, x19, x20, _, rfl⟩ := h.get
  obtain ⟨r, S1, e1, l1, d1⟩ := drw (k := 58) (m := 5) hd hn (by omega) (by decide) (by decide)
  obtain ⟨d, hdd⟩ : ∃ d : Nat, (9 : Int) + (r : Int) = (d : Int) := ⟨9 + r, by omega⟩
  obtain ⟨b, S2, e2, l2, d2⟩ := drw (k := 58) (m := d) d1 (by omega) (by omega) (by omega) (by omega)
  obtain ⟨f, S3, e3, l3, d3⟩ := drw (k := 58) (m := 2) d2 (by omega) (by omega) (by decide) (by decide)
  obtain ⟨m, hm⟩ : ∃ m : Nat, (d : Int) - (b : Int) = (m : Int) := ⟨d - b, by omega⟩
  have em : m - 1 = d - b - 1 := by omega
  have dp2 := deep_ok S2 (n := m) (by omega)
  have dp3 := deep_ok S3 (n := m) (by omega)
  rw [em] at dp2 dp3
  simp only [C0, Nat.reduceAdd] at e1 e2 e3 dp2 dp3
  refine ⟨_, S3, ?_, by rw [show n + 3 = n + 1 + 1 + 1 by omega]; exact d3, d, b, f, by omega, by omega, l2, l3, x0, x2, x6, x7, x8, x9, x10, x11, x12, x13, x14, x15, x16, x17, x18, x19, x20, rfl⟩
  have h0 : dS G C0 0 st0 [x0, some (.loc 1), x2, x3, x4, x5, x6, x7, x8, x9, x10, x11, x12, x13, x14, x15, x16, x17, x18, x19, x20] S = .ok .nx [x0, some (.loc 1), x2, some (.int d), x4, x5, x6, x7, x8, x9, x10, x11, x12, x13, x14, x15, x16, x17, x18, x19, x20] S1 := by
    simp at e1
    simp [st0, e1, hdd]
  have h1 : dS G C0 0 st1 [x0, some (.loc 1), x2, some (.int d), x4, x5, x6, x7, x8, x9, x10, x11, x12, x13, x14, x15, x16, x17, x18, x19, x20] S1 = .ok .nx [x0, some (.loc 1), x2, some (.int d), some (.int b), x5, x6, x7, x8, x9, x10, x11, x12, x13, x14, x15, x16, x17, x18, x19, x20] S2 := by
    simp [st1, e2]
  have h2 : dS G C0 0 st2 [x0, some (.loc 1), x2, some (.int d), some (.int b), x5, x6, x7, x8, x9, x10, x11, x12, x13, x14, x15, x16, x17, x18, x19, x20] S2 = .ok .nx [x0, some (.loc 1), x2, some (.int d), some (.int b), some (.tup [.str "set", .int 0, deepD (d - b - 1)]), x6, x7, x8, x9, x10, x11, x12, x13, x14, x15, x16, x17, x18, x19, x20] S2 := by
    simp [st2, hm, dp2]
  have h3 : dS G C0 0 st3 [x0, some (.loc 1), x2, some (.int d), some (.int b), some (.tup [.str "set", .int 0, deepD (d - b - 1)]), x6, x7, x8, x9, x10, x11, x12, x13, x14, x15, x16, x17, x18, x19, x20] S2 = .ok .nx [x0, some (.loc 1), x2, some (.int d), some (.int b), some (setD d b f), x6, x7, x8, x9, x10, x11, x12, x13, x14, x15, x16, x17, x18, x19, x20] S3 := by
    simp at e3
    by_cases z : f = 0
    · subst z
      simp [st3, e3, eq_int, hm, dp3, setD]
    · have z' : ¬ ((f : Int) = 0) := by omega
      simp [st3, e3, eq_int, z, z', setD]
  unfold seg0
  rw [q_scons, then_nx h0, q_scons, then_nx h1, q_scons, then_nx h2, q_scons, then_nx h3]
  rfl
theorem partA {sd : Sl} {S : Sto} {d b f : Nat} (h1 : 9 ≤ d) (h2 : d < 14) (h3 : b < d) (h4 : f < 2) {x0 x2 x6 x7 x8 x9 x10 x11 x12 x13 x14 x15 x16 x17 x18 x19 x20 : Option D} (e : sd = [x0, some (.loc 1), x2, some (.int d), some (.int b), some (setD d b f), x6, x7, x8, x9, x10, x11, x12, x13, x14, x15, x16, x17, x18, x19, x20]) :
    ∃ sd', dSs G C0 0 segA sd S = .ok .nx sd' S ∧ Sh sd' (some x10) := by
  subst e
  have e := List.map_inj_left.mp (segA_list S x0 x2 x6 x7 x8 x9 x10 x11 x12 x13 x14 x15 x16 x17 x18 x19 x20) (d, b, f) (mem_cA h1 h2 h3 h4)
  obtain ⟨sd', e1, e2, e3, e4⟩ := fin_ok e
  exact ⟨sd', e1, e4, e2, e3⟩

theorem rep_ok {S : Sto} {m : Nat} (h : m ≤ 1000) : mulP S (.tup [do0]) (.int m) = some (.tup (List.replicate m do0)) := by
  have h' : (m : Int) ≤ 1000 ∧ -1000000 ≤ (m : Int) ∧ [do0].length ≤ 1000 := ⟨by omega, by omega, by simp⟩
  unfold mulP
  simp only [h', and_self, ↓reduceIte, Int.toNat_natCast]
  rw [List.flatten_replicate_singleton]
theorem cnt_rep {m : Nat} : cnt wt (List.replicate m do0) = m := by
  unfold cnt
  rw [List.map_replicate, wt_do]
  simp
theorem okB_rep {m : Nat} (h : m ≤ 1000) : okB (List.replicate m do0) := ⟨by simp; omega, fun d hd => .inl (List.eq_of_mem_replicate hd)⟩
def shw (d : D) : Str := match reprD [] d with
  | some (.str s) => s
  | _ => ""
def wD (w : Nat) : D := .lst (if (w : Int) ≤ 400 then [.non, .int w] else [.str "parts"])
theorem repr_w {S : Sto} {w : Nat} (h1 : 398 ≤ w) (h2 : w < 402) : reprD S (wD w) = some (.str (shw (wD w))) := by
  have : w = 398 ∨ w = 399 ∨ w = 400 ∨ w = 401 := by omega
  rcases this with rfl | rfl | rfl | rfl <;> kernel_rfl
theorem repr_t {S : Sto} : reprD S (.lst [.str "tail", .str "tail", .str "tail"]) = some (.str (shw (.lst [.str "tail", .str "tail", .str "tail"]))) := by kernel_rfl
theorem odd1 {k : Nat} {S : Sto} : run T G 0 (k + 30) 5 [.non, .int 1, .int 1, .int 1] S = .ok (.bl false) S := by kernel_rfl
theorem odd2 {k : Nat} {S : Sto} : run T G 0 (k + 30) 5 [.tup [.tup [.str "do", .int 5]], .int 1, .int 1, .int 1] S = .ok (.bl false) S := by kernel_rfl
theorem odd3 {k : Nat} {S : Sto} : run T G 0 (k + 30) 5 [.lst [.tup []], .int 1, .int 1, .int 1] S = .ok (.bl false) S := by kernel_rfl
theorem partB {sd : Sl} {S : Sto} {q : Option (Option D)} {n : Int} (h : Sh sd q) (hd : Dk S 0 1 n) (hn : 0 ≤ n) (hn2 : n < 900) : ∃ sd' S' w, dSs G C0 0 segB sd S = .ok .nx sd' S' ∧ Dk S' 0 1 (n + 2) ∧ 398 ≤ w ∧ w < 402 ∧ Sh sd' (some (some (.int (w : Nat)))) := by
  obtain ⟨x0, x2, x3, x4, x5, x6, x7, x8, x9, x10, x11, x12, x13, x14, x15, x16, x17, x18, x19, x20, _, rfl⟩ := h.get
  obtain ⟨r, S1, e1, l1, d1⟩ := drw (k := 58) (m := 4) hd hn (by omega) (by decide) (by decide)
  obtain ⟨w, hw⟩ : ∃ w : Nat, (398 : Int) + (r : Int) = (w : Int) := ⟨398 + r, by omega⟩
  obtain ⟨f, S2, e2, l2, d2⟩ := drw (k := 58) (m := w) d1 (by omega) (by omega) (by omega) (by omega)
  obtain ⟨m, hm⟩ : ∃ m : Nat, (w : Int) - (f : Int) = (m : Int) := ⟨w - f, by omega⟩
  simp only [C0, Nat.reduceAdd] at e1 e2
  let P := prg (List.replicate f do0) (.tup (List.replicate m do0))
  have h10 : dS G C0 0 st10 [x0, some (.loc 1), x2, x3, x4, x5, x6, x7, x8, x9, x10, x11, x12, x13, x14, x15, x16, x17, x18, x19, x20] S = .ok .nx [x0, some (.loc 1), x2, x3, x4, x5, x6, x7, x8, x9, some (.int w), x11, x12, x13, x14, x15, x16, x17, x18, x19, x20] S1 := by
    simp at e1
    simp [st10, e1, hw]
  have h11 : dS G C0 0 st11 [x0, some (.loc 1), x2, x3, x4, x5, x6, x7, x8, x9, some (.int w), x11, x12, x13, x14, x15, x16, x17, x18, x19, x20] S1 = .ok .nx [x0, some (.loc 1), x2, x3, x4, x5, x6, x7, x8, x9, some (.int w), some (.int f), x12, x13, x14, x15, x16, x17, x18, x19, x20] S2 := by
    simp [st11, e2]
  have r1 := rep_ok (S := S2) (m := f) (by omega)
  have r2 := rep_ok (S := S2) (m := m) (by omega)
  have h12 : dS G C0 0 st12 [x0, some (.loc 1), x2, x3, x4, x5, x6, x7, x8, x9, some (.int w), some (.int f), x12, x13, x14, x15, x16, x17, x18, x19, x20] S2 = .ok .nx [x0, some (.loc 1), x2, x3, x4, x5, x6, x7, x8, x9, some (.int w), some (.int f), some P, x13, x14, x15, x16, x17, x18, x19, x20] S2 := by
    unfold do0 at r1 r2
    simp [st12, hm, r1, r2, P, prg, do0]
  have t1 : C0 17 [P, .int w] S2 = .ok (wD w) S2 := okB_told (k := 25) (okB_rep (by omega)) (okB_rep (by omega)) (by rw [cnt_rep, cnt_rep]; omega)
  have rw1 := repr_w (S := S2) (w := w) (by omega) (by omega)
  have h13 : dS G C0 0 st13 [x0, some (.loc 1), x2, x3, x4, x5, x6, x7, x8, x9, some (.int w), some (.int f), some P, x13, x14, x15, x16, x17, x18, x19, x20] S2 = .ok .nx [x0, some (.loc 1), x2, x3, x4, x5, x6, x7, x8, x9, some (.int w), some (.int f), some P, x13, x14, x15, x16, x17, x18, x19, x20] S2 := by
    simp only [C0] at t1
    by_cases z : (w : Int) ≤ 400
    · have : wD w = .lst [.non, .int w] := by unfold wD; rw [if_pos z]
      rw [this] at t1 rw1
      simp [st13, t1, rw1, z, ne_str]
    · have : wD w = .lst [.str "parts"] := by unfold wD; rw [if_neg z]
      rw [this] at t1 rw1
      simp [st13, t1, rw1, z, ne_str]
  have bk := okB_blk (k := 27) (S := S2) (okB_rep (m := f) (by omega))
  have q1 := perr_ok (k := 38) (n := 0) (b := false) bk (odd1 (k := 28) (S := S2)) (fun z => by cases z)
  have q2 := perr_ok (k := 38) (n := 0) (b := false) bk (odd2 (k := 28) (S := S2)) (fun z => by cases z)
  have q3 := perr_ok (k := 38) (n := 0) (b := false) bk (odd3 (k := 28) (S := S2)) (fun z => by cases z)
  have sl : slP S2 P none (some 5) = some (.tup [.int 1, .int 1, .int 1, .tup [.int 2], .tup (List.replicate f do0)]) := rfl
  have ad : ∀ t : D, addP S2 (.tup [.int 1, .int 1, .int 1, .tup [.int 2], .tup (List.replicate f do0)]) (.tup [t]) = some (prg (List.replicate f do0) t) := fun t => rfl
  have mu : mulP S2 (.lst [.str "tail"]) (.int 3) = some (.lst [.str "tail", .str "tail", .str "tail"]) := rfl
  have rt := repr_t (S := S2)
  have h14 : dS G C0 0 st14 [x0, some (.loc 1), x2, x3, x4, x5, x6, x7, x8, x9, some (.int w), some (.int f), some P, x13, x14, x15, x16, x17, x18, x19, x20] S2 = .ok .nx [x0, some (.loc 1), x2, x3, x4, x5, x6, x7, x8, x9, some (.int w), some (.int f), some P, x13, x14, x15, x16, x17, x18, x19, x20] S2 := by
    simp only [Nat.reduceAdd, Bool.false_eq_true, ↓reduceIte] at q1 q2 q3
    simp [st14, srcOf, wipeD, lcGo, sl, ad, q1, q2, q3, mu, rt, ne_str]
  refine ⟨[x0, some (.loc 1), x2, x3, x4, x5, x6, x7, x8, x9, some (.int w), some (.int f), some P, x13, x14, x15, x16, x17, x18, x19, x20], S2, w, ?_, by rw [show n + 2 = n + 1 + 1 by omega]; exact d2, by omega, by omega, ⟨rfl, rfl, rfl⟩⟩
  unfold segB
  rw [q_scons, then_nx h10, q_scons, then_nx h11, q_scons, then_nx h12, q_scons, then_nx h13, q_scons, then_nx h14]
  rfl

/-! ### the third part -/
theorem cnt_app {xs ys : List D} : cnt wt (xs ++ ys) = cnt wt xs + cnt wt ys := by simp [cnt]
theorem cnt_repA {m : Nat} : cnt wt (List.replicate m aD) = 10 * m := by
  unfold cnt
  rw [List.map_replicate, wt_a]
  simp; omega
theorem lcK {S : Sto} {n m : Nat} {x : D} {own : List Nat} {sw : Sl} {e : M D} (hn : n ≤ 1000) (he : ∀ i : Nat, e (sw.set 19 (some (.int i))) S = .ok x S) : lcGo (.vals ((List.range n).map fun (i : Nat) => D.int (0 + (i : Int)))) (gNm 19) mYes e sw n 0 [] S = .ok (List.replicate n x) S := by
  rw [lc_pure (p := fun _ => true) (h := fun _ => x) (fun d hd => ?_) n 0 [] (by simp) (by simp; omega)]
  · rw [List.drop_zero, List.filter_eq_self.mpr fun _ _ => rfl, List.map_const']; simp
  · obtain ⟨i, _, rfl⟩ := List.mem_map.mp hd
    exact ⟨_, rfl, rfl, fun _ => by rw [Int.zero_add]; exact he i⟩
theorem partC {sd : Sl} {S : Sto} {w : Nat} {n : Int} (h : Sh sd (some (some (.int w)))) (h1 : 398 ≤ w) (h2 : w < 402) (hd : Dk S 0 1 n) (hn : 0 ≤ n) (hn2 : n < 900) : ∃ sd' S', dSs G C0 0 segC sd S = .ok .nx sd' S' ∧ Dk S' 0 1 (n + 1) ∧ Sh sd' (some (some (.int w))) := by
  obtain ⟨x0, x2, x3, x4, x5, x6, x7, x8, x9, x10, x11, x12, x13, x14, x15, x16, x17, x18, x19, x20, hq, rfl⟩ := h.get
  cases hq
  obtain ⟨r, S1, e1, l1, d1⟩ := drw (k := 58) (m := 39) hd hn (by omega) (by decide) (by decide)
  simp only [C0, Nat.reduceAdd] at e1
  have h15 : dS G C0 0 st15 [x0, some (.loc 1), x2, x3, x4, x5, x6, x7, x8, x9, some (.int w), x11, x12, x13, x14, x15, x16, x17, x18, x19, x20] S = .ok .nx [x0, some (.loc 1), x2, x3, x4, x5, x6, x7, x8, x9, some (.int w), x11, x12, some (.int r), x14, x15, x16, x17, x18, x19, x20] S1 := by
    simp at e1
    simp [st15, e1]
  have dp5 : run T G 0 59 15 [.int 5] S1 = .ok (deepD 4) S1 := deep_ok S1 (n := 5) (by decide)
  have dp2 : run T G 0 59 15 [.int 2] S1 = .ok (deepD 1) S1 := deep_ok S1 (n := 2) (by decide)
  have rg : ∀ m : Nat, m ≤ 1000 → rng1 [.int m] = some (.vals ((List.range m).map fun (i : Nat) => D.int (0 + (i : Int)))) := fun m hm => by
    simp only [rng1, rngV]
    rw [if_pos (by omega), show ((m : Int) - 0).toNat = m by omega]
  have rg0 := rg r (by omega)
  have rg2 : rng1 [.int 2] = some (.vals ((List.range 2).map fun (i : Nat) => D.int (0 + (i : Int)))) := rg 2 (by decide)
  have k1 : ∀ sw : Sl, sw.length = 21 → lcGo (.vals ((List.range r).map fun (i : Nat) => D.int (0 + (i : Int)))) (gNm 19) mYes (dE G C0 (.tup (.cons (.c (.str "set")) (.cons (.c (.int 0)) (.cons (.call 15 (.cons (.c (.int 5)) .nil)) .nil))))) sw r 0 [] S1 = .ok (List.replicate r aD) S1 := fun sw _ => lcK (m := 0) (own := []) (by omega) fun i => by simp [dp5, aD]
  have k2 : ∀ sw : Sl, sw.length = 21 → lcGo (.vals ((List.range 2).map fun (i : Nat) => D.int (0 + (i : Int)))) (gNm 19) mYes (dE G C0 (.tup (.cons (.c (.str "if")) (.cons (.call 15 (.cons (.c (.int 2)) .nil)) (.cons (.tup (.cons (.tup (.cons (.c (.str "stop")) .nil)) .nil)) (.cons (.tup .nil) .nil)))))) sw 2 0 [] S1 = .ok (List.replicate 2 bD) S1 := fun sw _ => lcK (m := 0) (own := []) (by omega) fun i => by simp [dp2, bD]
  have h16 : dS G C0 0 st16 [x0, some (.loc 1), x2, x3, x4, x5, x6, x7, x8, x9, some (.int w), x11, x12, some (.int r), x14, x15, x16, x17, x18, x19, x20] S1 = .ok .nx [x0, some (.loc 1), x2, x3, x4, x5, x6, x7, x8, x9, some (.int w), x11, x12, some (.int r), some (.tup (List.replicate r aD)), x15, x16, x17, x18, x19, x20] S1 := by
    have k1' := k1 (wipeD [x0, some (.loc 1), x2, x3, x4, x5, x6, x7, x8, x9, some (.int w), x11, x12, some (.int r), x14, x15, x16, x17, x18, x19, x20] [19]) rfl
    have hlen : ((List.range r).map fun (i : Nat) => D.int (0 + (i : Int))).length = r := by simp
    have e0 : dS G C0 0 st16 [x0, some (.loc 1), x2, x3, x4, x5, x6, x7, x8, x9, some (.int w), x11, x12, some (.int r), x14, x15, x16, x17, x18, x19, x20] S1 = mAsg (mCall (call1 tupD) (mCons (mLc (mRng rng1 (mCons (mVar 13) mNil)) (gNm 19) [19] mYes (dE G C0 (.tup (.cons (.c (.str "set")) (.cons (.c (.int 0)) (.cons (.call 15 (.cons (.c (.int 5)) .nil)) .nil)))))) mNil)) (gNm 14) [x0, some (.loc 1), x2, x3, x4, x5, x6, x7, x8, x9, some (.int w), x11, x12, some (.int r), x14, x15, x16, x17, x18, x19, x20] S1 := rfl
    rw [e0]
    generalize dE G C0 (.tup (.cons (.c (.str "set")) (.cons (.c (.int 0)) (.cons (.call 15 (.cons (.c (.int 5)) .nil)) .nil)))) = ee at k1'
    simp only [q_mAsg, q_mCall, q_mCons, q_mLc, q_mLcL, q_mRng, q_mNil, q_mVar (show [x0, some (D.loc 1), x2, x3, x4, x5, x6, x7, x8, x9, some (.int w), x11, x12, some (.int r), x14, x15, x16, x17, x18, x19, x20][13]? = some (some (.int r)) from rfl), rg0, q_liftS, q_vLen, hlen, k1', q_call1]
    rfl
  have h17 : dS G C0 0 st17 [x0, some (.loc 1), x2, x3, x4, x5, x6, x7, x8, x9, some (.int w), x11, x12, some (.int r), some (.tup (List.replicate r aD)), x15, x16, x17, x18, x19, x20] S1 = .ok .nx [x0, some (.loc 1), x2, x3, x4, x5, x6, x7, x8, x9, some (.int w), x11, x12, some (.int r), some (.tup (List.replicate r aD ++ [bD, bD])), x15, x16, x17, x18, x19, x20] S1 := by
    have k2' := k2 (wipeD [x0, some (.loc 1), x2, x3, x4, x5, x6, x7, x8, x9, some (.int w), x11, x12, some (.int r), some (.tup (List.replicate r aD)), x15, x16, x17, x18, x19, x20] [19]) rfl
    have hlen : ((List.range 2).map fun (i : Nat) => D.int (0 + (i : Int))).length = 2 := by simp
    have e0 : dS G C0 0 st17 [x0, some (.loc 1), x2, x3, x4, x5, x6, x7, x8, x9, some (.int w), x11, x12, some (.int r), some (.tup (List.replicate r aD)), x15, x16, x17, x18, x19, x20] S1 = mAsg (mBin addP (mVar 14) (mCall (call1 tupD) (mCons (mLc (mRng rng1 (mCons (mC (.int 2)) mNil)) (gNm 19) [19] mYes (dE G C0 (.tup (.cons (.c (.str "if")) (.cons (.call 15 (.cons (.c (.int 2)) .nil)) (.cons (.tup (.cons (.tup (.cons (.c (.str "stop")) .nil)) .nil)) (.cons (.tup .nil) .nil))))))) mNil))) (gNm 14) [x0, some (.loc 1), x2, x3, x4, x5, x6, x7, x8, x9, some (.int w), x11, x12, some (.int r), some (.tup (List.replicate r aD)), x15, x16, x17, x18, x19, x20] S1 := rfl
    rw [e0]
    generalize dE G C0 (.tup (.cons (.c (.str "if")) (.cons (.call 15 (.cons (.c (.int 2)) .nil)) (.cons (.tup (.cons (.tup (.cons (.c (.str "stop")) .nil)) .nil)) (.cons (.tup .nil) .nil))))) = ee at k2'
    have td : tupD S1 (.lst (List.replicate 2 bD)) = some (.tup [bD, bD]) := rfl
    have ad : addP S1 (.tup (List.replicate r aD)) (.tup [bD, bD]) = some (.tup (List.replicate r aD ++ [bD, bD])) := by
      unfold addP
      simp only []
      rw [if_pos (by simp; omega)]
    simp only [q_mAsg, q_mBin, q_mCall, q_mCons, q_mLc, q_mLcL, q_mRng, q_mNil, q_mC, q_mVar (show [x0, some (D.loc 1), x2, x3, x4, x5, x6, x7, x8, x9, some (.int w), x11, x12, some (.int r), some (.tup (List.replicate r aD)), x15, x16, x17, x18, x19, x20][14]? = some (some (.tup (List.replicate r aD))) from rfl), rg2, q_liftS, q_vLen, hlen, k2', q_call1, td, ad]
    rfl
  obtain ⟨m, hm⟩ : ∃ m : Nat, (if (w : Int) - 10 * (r : Int) - 10 > 0 then (w : Int) - 10 * (r : Int) - 10 else 0) = (m : Int) := ⟨w - 10 * r - 10, by split <;> omega⟩
  have hmm : m = w - 10 * r - 10 := by split at hm <;> omega
  have r1 := rep_ok (S := S1) (m := m) (by omega)
  let Q := List.replicate r aD ++ [bD, bD] ++ List.replicate m do0
  have h18 : dS G C0 0 st18 [x0, some (.loc 1), x2, x3, x4, x5, x6, x7, x8, x9, some (.int w), x11, x12, some (.int r), some (.tup (List.replicate r aD ++ [bD, bD])), x15, x16, x17, x18, x19, x20] S1 = .ok .nx [x0, some (.loc 1), x2, x3, x4, x5, x6, x7, x8, x9, some (.int w), x11, x12, some (.int r), some (prg Q (.tup [])), x15, x16, x17, x18, x19, x20] S1 := by
    have mu : mulP S1 (.int 10) (.int r) = some (.int (10 * r)) := q_mul (by decide)
    have mx : max2D S1 [.int 0, .int ((w : Int) - 10 * (r : Int) - 10)] = some (.int m) := by
      rw [← hm]; rfl
    have ad : addP S1 (.tup (List.replicate r aD ++ [bD, bD])) (.tup (List.replicate m do0)) = some (.tup Q) := by
      unfold addP
      simp only []
      rw [if_pos (by simp; omega)]
    unfold do0 at r1
    unfold do0 at ad
    simp [st18, mu, mx, r1, ad, prg]
  have okQ : okB Q := by
    refine ⟨by simp [Q]; omega, fun d hd => ?_⟩
    rcases List.mem_append.mp hd with hd | hd
    · rcases List.mem_append.mp hd with hd | hd
      · exact .inr (.inl (List.eq_of_mem_replicate hd))
      · have : d = bD := by simpa using hd
        exact .inr (.inr this)
    · exact .inl (List.eq_of_mem_replicate hd)
  have cQ : cnt wt Q + cnt wt [] = w := by
    have c2 : cnt wt [bD, bD] = 10 := by simp [cnt, wt_b]
    have c3 : cnt wt [] = 0 := rfl
    simp only [Q]
    rw [cnt_app, cnt_app, cnt_repA, cnt_rep, c2, c3]
    omega
  have t1 : C0 17 [prg Q (.tup []), .int w] S1 = .ok (wD w) S1 := okB_told (k := 25) okQ ⟨by simp, fun d hd => by cases hd⟩ cQ
  have rw1 := repr_w (S := S1) (w := w) (by omega) (by omega)
  have h19 : dS G C0 0 st19 [x0, some (.loc 1), x2, x3, x4, x5, x6, x7, x8, x9, some (.int w), x11, x12, some (.int r), some (prg Q (.tup [])), x15, x16, x17, x18, x19, x20] S1 = .ok .nx [x0, some (.loc 1), x2, x3, x4, x5, x6, x7, x8, x9, some (.int w), x11, x12, some (.int r), some (prg Q (.tup [])), x15, x16, x17, x18, x19, x20] S1 := by
    simp only [C0] at t1
    by_cases z : (w : Int) ≤ 400
    · have : wD w = .lst [.non, .int w] := by unfold wD; rw [if_pos z]
      rw [this] at t1 rw1
      simp [st19, t1, rw1, z, ne_str]
    · have : wD w = .lst [.str "parts"] := by unfold wD; rw [if_neg z]
      rw [this] at t1 rw1
      simp [st19, t1, rw1, z, ne_str]
  refine ⟨[x0, some (.loc 1), x2, x3, x4, x5, x6, x7, x8, x9, some (.int w), x11, x12, some (.int r), some (prg Q (.tup [])), x15, x16, x17, x18, x19, x20], S1, ?_, d1, ⟨rfl, rfl, rfl⟩⟩
  unfold segC
  rw [q_scons, then_nx h15, q_scons, then_nx h16, q_scons, then_nx h17, q_scons, then_nx h18, q_scons, then_nx h19]
  rfl

/-! ### the last part -/
def cellsL : List D := [.tup [.int 2, .int 3, .int 4], .tup [.int 4, .int 4], .tup [.int 3, .int 3, .int 3], .tup [.int 2, .int 2, .int 2, .int 3], .tup [.int 2, .int 2, .int 2, .int 2], .tup [.int 4, .int 3, .int 2, .int 2], .tup [.int 4, .int 4, .int 2], .tup [.int 2, .int 2, .int 2, .int 2, .int 2]]
theorem segD_list (S : Sto) (x0 x2 x3 x4 x5 x6 x7 x8 x9 x10 x11 x12 x13 x14 x16 x17 x18 x19 x20 : Option D) : cellsL.map (fun c => fin (dSs G C0 0 segD [x0, some (.loc 1), x2, x3, x4, x5, x6, x7, x8, x9, x10, x11, x12, x13, x14, some c, x16, x17, x18, x19, x20] S)) = cellsL.map (fun c => some (some (some (.loc 1)), some x10, 21, S)) := by kernel_rfl
theorem partD {sd : Sl} {S : Sto} {q : Option (Option D)} {n : Int} (h : Sh sd q) (hd : Dk S 0 1 n) (hn : 0 ≤ n) (hn2 : n < 900) : ∃ sd' S', dSs G C0 0 (.cons st20 segD) sd S = .ok .nx sd' S' ∧ Dk S' 0 1 (n + 1) ∧ Sh sd' q := by
  obtain ⟨x0, x2, x3, x4, x5, x6, x7, x8, x9, x10, x11, x12, x13, x14, x15, x16, x17, x18, x19, x20, hq, rfl⟩ := h.get
  obtain ⟨r, S1, e1, l1, d1⟩ := drw (k := 57) (m := 8) hd hn (by omega) (by decide) (by decide)
  have o1 : run T G 0 59 14 [.loc 1, .lst cellsL] S = .ok cellsL[r] S1 := by
    rw [run_succ (fn := ⟨2, 2, b_law_one⟩) rfl rfl]
    have ln : lenD S (.lst cellsL) = some (.int 8) := rfl
    have ix : ixP S1 (.lst cellsL) (.int r) = some cellsL[r] := by
      show L2.atI cellsL (r : Int) = _
      rw [atI_in (by omega) (by show (r : Int) < 8; omega)]
      exact List.getElem?_eq_getElem l1
    simp at e1
    simp [b_law_one, slots0, fnEnd, ln, e1, ix]
  have mu : mulP S (.tup [.int 2]) (.int 5) = some (.tup [.int 2, .int 2, .int 2, .int 2, .int 2]) := rfl
  have h20 : dS G C0 0 st20 [x0, some (.loc 1), x2, x3, x4, x5, x6, x7, x8, x9, x10, x11, x12, x13, x14, x15, x16, x17, x18, x19, x20] S = .ok .nx [x0, some (.loc 1), x2, x3, x4, x5, x6, x7, x8, x9, x10, x11, x12, x13, x14, some cellsL[r], x16, x17, x18, x19, x20] S1 := by
    unfold cellsL at o1
    simp [st20, mu, o1, cellsL]
  have e := List.map_inj_left.mp (segD_list S1 x0 x2 x3 x4 x5 x6 x7 x8 x9 x10 x11 x12 x13 x14 x16 x17 x18 x19 x20) cellsL[r] (List.getElem_mem l1)
  obtain ⟨sd', e1, e2, e3, e4⟩ := fin_ok e
  exact ⟨sd', S1, by rw [q_scons, then_nx h20]; exact e1, d1, e4, e2, e3.trans hq.symm⟩

/-! ### the whole -/
theorem turn {sd : Sl} {S : Sto} {q : Option (Option D)} {n : Int} (h : Sh sd q) (hd : Dk S 0 1 n) (hn : 0 ≤ n) (hn2 : n < 800) : ∃ sd' S', dSs G C0 0 lawT sd S = .ok .nx sd' S' ∧ Dk S' 0 1 (n + 7) ∧ ∃ q', Sh sd' q' := by
  obtain ⟨sd1, S1, e1, d1, d, b, f, g1, g2, g3, g4, x0, x2, x6, x7, x8, x9, x10, x11, x12, x13, x14, x15, x16, x17, x18, x19, x20, z1⟩ := part0 h hd hn (by omega)
  obtain ⟨sd2, e2, h2⟩ := partA (S := S1) g1 g2 g3 g4 z1
  obtain ⟨sd3, S3, w, e3, d3, w1, w2, h3⟩ := partB h2 d1 (by omega) (by omega)
  obtain ⟨sd4, S4, e4, d4, h4⟩ := partC h3 w1 w2 d3 (by omega) (by omega)
  obtain ⟨sd5, S5, e5, d5, h5⟩ := partD h4 d4 (by omega) (by omega)
  refine ⟨sd5, S5, ?_, by rw [show n + 7 = n + 3 + 2 + 1 + 1 by omega]; exact d5, _, h5⟩
  unfold lawT
  rw [app_nx e1, app_nx e2, app_nx e3, app_nx e4, e5]
theorem math (ns : List Int) (hl : ns.length ≤ 63) : ∃ wf S', Z.run (rows.map Z.Row.fn) (gl.map (·.2)) wf 60 18 [.fro (ns.map .int)] [] = .ok (.bl true) S' := by
  refine ⟨0, ?_⟩
  obtain ⟨S1, e1, l1, d1, _⟩ := deck_ok (G := G) (C := run T G 0 58) (wf := 0) (nm := "_law_cell") (S := []) hl
  have e1' : C0 12 [.fro (ns.map .int)] [] = .ok (.loc 1) S1 := (run_succ (fn := ⟨1, 2, deckB "_law_cell"⟩) rfl rfl).trans e1
  have s0 : dS G C0 0 (.asg (.nm 1) (.call 12 (.cons (.v 0) .nil))) (slots0 21 [.fro (ns.map .int)]) [] = .ok .nx ((slots0 21 [.fro (ns.map .int)]).set 1 (some (.loc 1))) S1 := by
    simp only [C0] at e1'
    simp [slots0, e1']
  let src : List D := (List.range 8).map fun (i : Nat) => D.int (0 + (i : Int))
  obtain ⟨sd', S', e2, n', d2, q', h2⟩ := for_inv (ds := src) (g := gNm 2) (b := dSs G C0 0 lawT) (fun i sd S => Dk S 0 1 (7 * i) ∧ ∃ q, Sh sd q)
    (fun i d sd S hd hP => by
      have hi : i < 8 := by
        have := (List.getElem?_eq_some_iff.mp hd).1
        simpa [src] using this
      obtain ⟨hP, q, hq⟩ := hP
      obtain ⟨x0, x2, x3, x4, x5, x6, x7, x8, x9, x10, x11, x12, x13, x14, x15, x16, x17, x18, x19, x20, hq', rfl⟩ := hq.get
      obtain ⟨sd', S', t1, t2, q', t3⟩ := turn (sd := [x0, some (.loc 1), some d, x3, x4, x5, x6, x7, x8, x9, x10, x11, x12, x13, x14, x15, x16, x17, x18, x19, x20]) (q := q) ⟨rfl, rfl, hq'.symm⟩ hP (by omega) (by omega)
      exact ⟨_, S, rfl, sd', S', .inl t1, by rw [show (7 * ((i + 1 : Nat) : Int)) = 7 * (i : Int) + 7 by omega]; exact t2, q', t3⟩)
    8 0 ((slots0 21 [.fro (ns.map .int)]).set 1 (some (.loc 1))) S1 rfl ⟨(by simpa using d1), some none, rfl, rfl, rfl⟩
  refine ⟨S', (run_succ (fn := ⟨1, 21, b_law⟩) rfl rfl).trans ?_⟩
  rw [law_is, q_scons, then_nx s0, q_scons]
  have s1 : dS G C0 0 (.for_ (.nm 2) (.rng1 (.cons (.c (.int 8)) .nil)) lawT) ((slots0 21 [.fro (ns.map .int)]).set 1 (some (.loc 1))) S1 = .ok .nx sd' S' := e2
  rw [then_nx s1]
  rfl
end K22

namespace K22
open PySem PySem.Spec PyProof.Rows L2 Z
def fr : List Str := bltN.map Str.ofString
abbrev R : PySem.W.OpenRow := PySem.W.OpenLaw.row PySem.Challenge.rw_steadytime_k22_programs_at_bounds
def dfs : List He.DefD := rows.map Row.dfd
abbrev hk : PySem.W.Hook := hookZ 4 fr gl (rows.map Z.Row.dfd)
def ob (s : PySem.W.SharedT) : He.AlD := obsZG 4 fr gl (rows.map Z.Row.dfd) (HandSHeadRun.getT s)
theorem ob_eq (s : PySem.W.SharedT) : ob s = hk.obs s.abs := obsZG_eq (HandSHeadRun.getT_eq s)
theorem runs (w : World) : HandSHeadRun.RunEq R (PySem.W.view R.prog [31]) hk ob 4000 loose w := by
  intro os
  kernel_rfl
theorem hrows : (rows.all (rowOk ⟨rows.map fun r => (r.x, r.ps.length), gl⟩)) = true := by decide +kernel
theorem ends (math : ∀ ns : List Int, ns.length ≤ 63 → ∃ wf S', Z.run (rows.map Z.Row.fn) (gl.map (·.2)) wf 60 18 [.fro (ns.map .int)] [] = .ok (.bl true) S') : PySem.Challenge.rw_steadytime_k22_programs_at_bounds.Holds := by
  w_on; o_law
  refine HandSHeadRun.head_any (r := PySem.W.OpenLaw.row PySem.Challenge.rw_steadytime_k22_programs_at_bounds) (q := PySem.W.view (PySem.W.OpenLaw.row PySem.Challenge.rw_steadytime_k22_programs_at_bounds).prog [31]) (H := hk) (ob := ob) (M := 4000) (loose := loose) (d := HandSHeadRun.topDef (PySem.W.OpenLaw.row PySem.Challenge.rw_steadytime_k22_programs_at_bounds).prog 31) (kwd := []) ob_eq
    (by kernel_rfl) (fun s => by kernel_rfl) runs (by kernel_rfl) (by kernel_rfl) (by kernel_rfl) (by rfl) (by first | assumption | decide +kernel) (by decide +kernel) ⟨rfl, rfl, rfl, rfl, rfl, by decide +kernel⟩ ?hw ?hc
  case hw => w_witness2
  case hc =>
    exact walk_ofZ (l := PySem.Challenge.rw_steadytime_k22_programs_at_bounds) (n := 63) (k := 60) (x := "_law_script") (i := 18) (row := r_law) rfl (by decide) (by kernel_rfl) ⟨rfl, by decide, by decide⟩ (fun _ _ z => z) (by decide +kernel) rfl (by kernel_rfl) rfl hrows math
end K22

theorem PySem.Challenge.cw_steadytime_k22_programs_at_bounds_holds : PySem.Challenge.rw_steadytime_k22_programs_at_bounds.Holds := by
  exact K22.ends K22.math
