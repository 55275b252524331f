import PyProof.Rows.All
import Wide.All
import OpenK.AllK
import Wide.FinOn
import HandS.ForMost
import HandS.ForExc
import HandS.IsInst
import HandS.TupAny
import HandS.TupMul
import HandS.Style
import HandS.Wide
import HandS.Zip
import PyProof.ReprRoads
import KE.GoesMore
import HandS.Text
import HandS.StrMore
import HandS.FStr
import HandS.Defaults
import HandS.Head0
import HandS.Head1
import HandS.Head2
import HandS.HeadEnd
import HandS.HeadHook1
import HandS.HeadHook2
import PySem.Challenge.RW_steadytime_k23_runs_walked
set_option Elab.async false
set_option linter.all false
set_option maxRecDepth 100000
set_option maxHeartbeats 0
/-! Z layer, part A: plain data, stores, what they stand for on HandS's abstract heap. -/
namespace Z
open PySem PySem.Spec PyProof.Rows L2

/-- plain data: tuples and lists that nobody changes as trees; fro: a list that was there before (the script); loc n: the n-th changeable object of the store -/
inductive D where
  | non | bl (b : Bool) | int (i : Int) | str (x : Str) | tup (xs : List D) | lst (xs : List D) | fro (xs : List D) | loc (n : Nat)

/-- a changeable object: a list; an instance of the c-th class -/
inductive MO where
  | lst (xs : List D)
  | ins (c : Nat) (fs : List (Str × D))
  | dic (kvs : List (Key × D))
  | dit (kvs : List (List Key × D))

abbrev Sto := List MO
/-- where the store's objects stand; addresses that no datum may stand at -/
structure Rg where
  l : List Addr
  p : List Addr
def Rg.add (r : Rg) (a : Addr) : Rg := ⟨r.l ++ [a], r.p⟩
def Rg.hide (r : Rg) (a : Addr) : Rg := ⟨r.l, a :: r.p⟩
abbrev Sl := List (Option D)
abbrev St := L2.St
abbrev XF := Option (List (Str × D))

/-- what an expression comes to -/
inductive Out (T : Type) where
  | ok (a : T) (S : Sto)
  | exc (c : Nat) (fs : XF) (S : Sto)
  | bad
def Out.bind {T U : Type} (o : Out T) (f : T → Sto → Out U) : Out U := match o with
  | .ok a S => f a S
  | .exc c fs S => .exc c fs S
  | .bad => .bad

section
variable (K : PySem.W.Frag) (ca : Nat → Addr) (H : Hp) (r : Rg)

def KL (a : Addr) (xs : List V) : Prop :=
  ∃ (o : Obj) (its : Array Value) (n : Nat), K.lookup a = some o ∧ o.cls = .type "list" ∧ o.dict = none ∧ o.data = .seq its n ∧ its.size ≤ sizeLine ∧ Vals xs its.toList

def FL (a : Addr) (xs : List V) : Prop := (∃ o, H a = some (.frz o (.lst xs))) ∨ KL K a xs

mutual
/-- the datum d stands at the value v -/
inductive Rep : D → V → Prop
  | non : Rep .non .non
  | bl (b : Bool) : Rep (.bl b) (.bl b)
  | int (i : Int) : Rep (.int i) (.int i)
  | str (x : Str) : Rep (.str x) (.str x)
  | tup {a : Addr} {vs : List V} {ds : List D} : SqT K H a vs → Reps ds vs → Rep (.tup ds) (.ref a)
  | lst {a : Addr} {vs : List V} {ds : List D} : H a = some (.lst vs) → a ∉ r.l → a ∉ r.p → Reps ds vs → Rep (.lst ds) (.ref a)
  | fro {a : Addr} {vs : List V} {ds : List D} : FL K H a vs → Reps ds vs → Rep (.fro ds) (.ref a)
  | loc {n : Nat} {a : Addr} : r.l[n]? = some a → Rep (.loc n) (.ref a)
inductive Reps : List D → List V → Prop
  | nil : Reps [] []
  | cons {d : D} {ds : List D} {v : V} {vs : List V} : Rep d v → Reps ds vs → Reps (d :: ds) (v :: vs)
end

/-- fields by name -/
inductive RepF {κ : Type} : List (κ × D) → List (κ × V) → Prop
  | nil : RepF [] []
  | cons {f : κ} {d : D} {v : V} {ds : List (κ × D)} {vs : List (κ × V)} : Rep K H r d v → RepF ds vs → RepF ((f, d) :: ds) ((f, v) :: vs)

def ORep (o : MO) (a : Addr) : Prop := match o with
  | .lst ds => ∃ vs, H a = some (.lst vs) ∧ Reps K H r ds vs
  | .ins c fs => ∃ dx gs, H a = some (.ins (ca c) dx gs) ∧ RepF K H r fs gs
  | .dic ds => ∃ vs, H a = some (.dK vs) ∧ RepF K H r ds vs
  | .dit ds => ∃ vs, H a = some (.dT vs) ∧ RepF K H r ds vs

structure Sim (S : Sto) : Prop where
  len : r.l.length = S.length
  nd : r.l.Nodup
  obj : ∀ (n : Nat) (o : MO), S[n]? = some o → ∃ a, r.l[n]? = some a ∧ ORep K ca H r o a
  prv : ∀ a ∈ r.p, H a ≠ none
end

/-- never changed -/
def Imm : HO → Prop
  | .tup _ => True
  | .frz _ _ => True
  | _ => False

structure Ext (H : Hp) (r : Rg) (H' : Hp) (r' : Rg) : Prop where
  more : ∃ l, r' = ⟨r.l ++ l, r.p⟩ ∧ ∀ a ∈ l, H a = none
  keep : ∀ b o, H b = some o → b ∉ r.l → H' b = some o
  imm : ∀ b o, H b = some o → Imm o → H' b = some o
  there : ∀ b, H b ≠ none → H' b ≠ none

theorem Ext.refl (H : Hp) (r : Rg) : Ext H r H r := ⟨⟨[], by simp, by simp⟩, fun _ _ h _ => h, fun _ _ h _ => h, fun _ h => h⟩
theorem Ext.trans {H H1 H2 : Hp} {r r1 r2 : Rg} (a : Ext H r H1 r1) (b : Ext H1 r1 H2 r2) : Ext H r H2 r2 := by
  obtain ⟨l1, e1, n1⟩ := a.more
  obtain ⟨l2, e2, n2⟩ := b.more
  refine ⟨⟨l1 ++ l2, by rw [e2, e1]; simp [List.append_assoc], fun x hx => ?_⟩, fun x o h hn => b.keep x o (a.keep x o h hn) ?_, fun x o h hi => b.imm x o (a.imm x o h hi) hi, fun x h => b.there x (a.there x h)⟩
  · rcases List.mem_append.mp hx with hx | hx
    · exact n1 x hx
    · have := n2 x hx
      cases e : H x with
      | none => rfl
      | some o => exact absurd this (a.there x (by rw [e]; simp))
  · rw [e1]
    intro hm
    rcases List.mem_append.mp hm with hm | hm
    · exact hn hm
    · rw [n1 x hm] at h; cases h

section
variable {K : PySem.W.Frag} {ca : Nat → Addr} {H H' : Hp} {r r' : Rg}

theorem Ext.rdT {a : Addr} {xs : List V} (e : Ext H r H' r') (h : SqT K H a xs) : SqT K H' a xs := by
  rcases h with (h | ⟨o, h⟩) | h
  · exact .inl (.inl (e.imm _ _ h trivial))
  · exact .inl (.inr ⟨o, e.imm _ _ h trivial⟩)
  · exact .inr h
theorem Ext.notin {a : Addr} (e : Ext H r H' r') (h : H a ≠ none) (hn : a ∉ r.l) : a ∉ r'.l := by
  obtain ⟨l, rfl, hl⟩ := e.more
  intro hm
  rcases List.mem_append.mp hm with hm | hm
  · exact hn hm
  · exact h (hl a hm)
theorem ne_of_some {a : Addr} {u : HO} (h : H a = some u) : H a ≠ none := by rw [h]; simp
theorem Ext.fl {a : Addr} {xs : List V} (e : Ext H r H' r') (h : FL K H a xs) : FL K H' a xs := by
  rcases h with ⟨o, h⟩ | h
  · exact .inl ⟨o, e.imm _ _ h trivial⟩
  · exact .inr h
theorem FL.sq {a : Addr} {xs : List V} (h : FL K H a xs) : SqL K H a xs := by
  rcases h with ⟨o, h⟩ | h
  · exact .inl (.inr ⟨o, h⟩)
  · exact .inr h
theorem Ext.prv (e : Ext H r H' r') : r'.p = r.p := by
  obtain ⟨l, rfl, hl⟩ := e.more
  rfl
theorem Ext.at {n : Nat} {a : Addr} (e : Ext H r H' r') (h : r.l[n]? = some a) : r'.l[n]? = some a := by
  obtain ⟨l, rfl, hl⟩ := e.more
  show (r.l ++ l)[n]? = some a
  rw [List.getElem?_append_left (List.getElem?_eq_some_iff.mp h).1]
  exact h

mutual
theorem Rep.mono (e : Ext H r H' r') : ∀ {d : D} {v : V}, Rep K H r d v → Rep K H' r' d v
  | _, _, .non => .non
  | _, _, .bl b => .bl b
  | _, _, .int i => .int i
  | _, _, .str x => .str x
  | _, _, .tup h hs => .tup (e.rdT h) (Reps.mono e hs)
  | _, _, .lst h hn hp hs => .lst (e.keep _ _ h hn) (e.notin (ne_of_some h) hn) (by rw [e.prv]; exact hp) (Reps.mono e hs)
  | _, _, .fro h hs => .fro (e.fl h) (Reps.mono e hs)
  | _, _, .loc h => .loc (e.at h)
theorem Reps.mono (e : Ext H r H' r') : ∀ {ds : List D} {vs : List V}, Reps K H r ds vs → Reps K H' r' ds vs
  | _, _, .nil => .nil
  | _, _, .cons h hs => .cons (Rep.mono e h) (Reps.mono e hs)
end
theorem RepF.mono {κ : Type} (e : Ext H r H' r') : ∀ {ds : List (κ × D)} {vs : List (κ × V)}, RepF K H r ds vs → RepF K H' r' ds vs
  | _, _, .nil => .nil
  | _, _, .cons h hs => .cons (h.mono e) (RepF.mono e hs)

theorem Reps.length : ∀ {ds : List D} {vs : List V}, Reps K H r ds vs → ds.length = vs.length
  | _, _, .nil => rfl
  | _, _, .cons _ hs => congrArg (· + 1) (Reps.length hs)
theorem Reps.get : ∀ {ds : List D} {vs : List V} {i : Nat} {d : D}, Reps K H r ds vs → ds[i]? = some d → ∃ v, vs[i]? = some v ∧ Rep K H r d v
  | _, _, _, _, .nil, e => by simp at e
  | _, _, 0, _, .cons h _, e => by simp at e; subst e; exact ⟨_, rfl, h⟩
  | _, _, i + 1, d, .cons _ hs, e => by
    obtain ⟨v, h1, h2⟩ := Reps.get (i := i) (d := d) hs (by simpa using e)
    exact ⟨v, by simpa using h1, h2⟩
theorem Reps.get' : ∀ {ds : List D} {vs : List V} {i : Nat} {v : V}, Reps K H r ds vs → vs[i]? = some v → ∃ d, ds[i]? = some d ∧ Rep K H r d v
  | _, _, _, _, .nil, e => by simp at e
  | _, _, 0, _, .cons h _, e => by simp at e; subst e; exact ⟨_, rfl, h⟩
  | _, _, i + 1, v, .cons _ hs, e => by
    obtain ⟨d, h1, h2⟩ := Reps.get' (i := i) (v := v) hs (by simpa using e)
    exact ⟨d, by simpa using h1, h2⟩
theorem Reps.append : ∀ {ds es : List D} {vs us : List V}, Reps K H r ds vs → Reps K H r es us → Reps K H r (ds ++ es) (vs ++ us)
  | _, _, _, _, .nil, q => q
  | _, _, _, _, .cons h hs, q => .cons h (Reps.append hs q)
theorem Reps.take : ∀ {ds : List D} {vs : List V} (n : Nat), Reps K H r ds vs → Reps K H r (ds.take n) (vs.take n)
  | _, _, 0, _ => .nil
  | _, _, _ + 1, .nil => .nil
  | _, _, n + 1, .cons h hs => .cons h (Reps.take n hs)
theorem Reps.drop : ∀ {ds : List D} {vs : List V} (n : Nat), Reps K H r ds vs → Reps K H r (ds.drop n) (vs.drop n)
  | _, _, 0, h => h
  | _, _, _ + 1, .nil => .nil
  | _, _, n + 1, .cons _ hs => Reps.drop n hs
theorem Reps.set {d : D} {v : V} (q : Rep K H r d v) : ∀ {ds : List D} {vs : List V} (n : Nat), Reps K H r ds vs → Reps K H r (ds.set n d) (vs.set n v)
  | _, _, _, .nil => .nil
  | _, _, 0, .cons _ hs => .cons q hs
  | _, _, n + 1, .cons h hs => .cons h (Reps.set q n hs)
theorem Reps.rep {ds : List D} {vs : List V} (h : Reps K H r ds vs) : ∀ n : Nat, Reps K H r (List.replicate n ds).flatten (List.replicate n vs).flatten
  | 0 => .nil
  | n + 1 => by
    rw [List.replicate_succ, List.replicate_succ, List.flatten_cons, List.flatten_cons]
    exact h.append (Reps.rep h n)
theorem Reps.reverse {ds : List D} {vs : List V} (h : Reps K H r ds vs) : Reps K H r ds.reverse vs.reverse := by
  induction h using Reps.rec (motive_1 := fun _ _ _ => True) with
  | nil => exact .nil
  | cons h hs _ ih => rw [List.reverse_cons, List.reverse_cons]; exact ih.append (.cons h .nil)
  | _ => trivial
theorem Reps.dropLast : ∀ {ds : List D} {vs : List V}, Reps K H r ds vs → Reps K H r ds.dropLast vs.dropLast
  | _, _, .nil => .nil
  | _, _, .cons h .nil => .nil
  | _, _, .cons h (.cons h2 hs) => .cons h (Reps.dropLast (.cons h2 hs))

/-- slots -/
structure Slots (K : PySem.W.Frag) (H : Hp) (r : Rg) (sd : Sl) (s : St) : Prop where
  len : sd.length = s.length
  at_ : ∀ (i : Nat) (d : D), sd[i]? = some (some d) → ∃ v, s[i]? = some (some v) ∧ Rep K H r d v
theorem Slots.mono {sd : Sl} {s : St} (e : Ext H r H' r') (h : Slots K H r sd s) : Slots K H' r' sd s :=
  ⟨h.len, fun i d q => let ⟨v, h1, h2⟩ := h.at_ i d q; ⟨v, h1, h2.mono e⟩⟩
theorem Slots.set {sd : Sl} {s : St} {i : Nat} {d : D} {v : V} (h : Slots K H r sd s) (q : Rep K H r d v) : Slots K H r (sd.set i (some d)) (s.set i (some v)) := by
  refine ⟨by rw [List.length_set, List.length_set, h.len], fun j e he => ?_⟩
  by_cases hj : i = j
  · subst hj
    by_cases hl : i < sd.length
    · rw [List.getElem?_set_self hl] at he
      cases he
      exact ⟨v, by rw [List.getElem?_set_self (by rw [← h.len]; exact hl)], q⟩
    · rw [List.getElem?_eq_none (by simpa using hl)] at he
      cases he
  · rw [List.getElem?_set_ne hj] at he
    obtain ⟨u, h1, h2⟩ := h.at_ j e he
    exact ⟨u, by rw [List.getElem?_set_ne hj]; exact h1, h2⟩
theorem Slots.weak {sd sd' : Sl} {s s' : St} (h : Slots K H r sd s) (hl : sd'.length = s'.length) (w : ∀ (i : Nat) (d : D), sd'[i]? = some (some d) → sd[i]? = some (some d)) (w' : ∀ (i : Nat) (d : D), sd'[i]? = some (some d) → s'[i]? = s[i]?) : Slots K H r sd' s' :=
  ⟨hl, fun i d q => let ⟨v, h1, h2⟩ := h.at_ i d (w i d q); ⟨v, by rw [w' i d q]; exact h1, h2⟩⟩

/-! ### changes of the heap -/
theorem Ext.new {p : Addr} {o : HO} (hp : H p = none) : Ext H r (upd H p o) r := by
  have k : ∀ b u, H b = some u → upd H p o b = some u := fun b u h => by rw [upd_ne (ne_of_none h hp)]; exact h
  refine ⟨⟨[], by simp, by simp⟩, fun b u h _ => k b u h, fun b u h _ => k b u h, fun b h => ?_⟩
  cases e : H b with
  | none => exact absurd e h
  | some u => rw [k b u e]; simp
theorem Ext.newLoc {p : Addr} {o : HO} (hp : H p = none) : Ext H r (upd H p o) (r.add p) := by
  have k : ∀ b u, H b = some u → upd H p o b = some u := fun b u h => by rw [upd_ne (ne_of_none h hp)]; exact h
  refine ⟨⟨[p], rfl, by simpa using hp⟩, fun b u h _ => k b u h, fun b u h _ => k b u h, fun b h => ?_⟩
  cases e : H b with
  | none => exact absurd e h
  | some u => rw [k b u e]; simp
theorem Ext.write {p : Addr} {o u : HO} (hp : H p = some u) (hi : ¬ Imm u) (hm : p ∈ r.l) : Ext H r (upd H p o) r := by
  refine ⟨⟨[], by simp, by simp⟩, fun b x h hn => ?_, fun b x h hx => ?_, fun b h => ?_⟩
  · rw [upd_ne (show b ≠ p from fun e => hn (by rw [e]; exact hm))]; exact h
  · by_cases e : b = p
    · subst e; rw [hp] at h; cases h; exact absurd hx hi
    · rw [upd_ne e]; exact h
  · by_cases e : b = p
    · subst e; rw [upd_same]; simp
    · rw [upd_ne e]; exact h

theorem ORep.mono {o : MO} {a : Addr} (e : Ext H r H' r') (h : ORep K ca H r o a) (k : H' a = H a) : ORep K ca H' r' o a := by
  cases o with
  | lst ds => obtain ⟨vs, h1, h2⟩ := h; exact ⟨vs, by rw [k]; exact h1, h2.mono e⟩
  | ins c fs => obtain ⟨dx, gs, h1, h2⟩ := h; exact ⟨dx, gs, by rw [k]; exact h1, h2.mono e⟩
  | dic ds => obtain ⟨vs, h1, h2⟩ := h; exact ⟨vs, by rw [k]; exact h1, h2.mono e⟩
  | dit ds => obtain ⟨vs, h1, h2⟩ := h; exact ⟨vs, by rw [k]; exact h1, h2.mono e⟩
theorem ORep.some {o : MO} {a : Addr} (h : ORep K ca H r o a) : ∃ u, H a = some u ∧ ¬ Imm u := by
  cases o with
  | lst ds => obtain ⟨vs, h1, h2⟩ := h; exact ⟨_, h1, id⟩
  | ins c fs => obtain ⟨dx, gs, h1, h2⟩ := h; exact ⟨_, h1, id⟩
  | dic ds => obtain ⟨vs, h1, h2⟩ := h; exact ⟨_, h1, id⟩
  | dit ds => obtain ⟨vs, h1, h2⟩ := h; exact ⟨_, h1, id⟩
theorem Sim.tracked {S : Sto} (m : Sim K ca H r S) {a : Addr} (h : a ∈ r.l) : H a ≠ none := by
  obtain ⟨i, hi, e⟩ := List.getElem_of_mem h
  have hs : i < S.length := by rw [← m.len]; exact hi
  obtain ⟨b, h1, h2⟩ := m.obj i S[i] (List.getElem?_eq_getElem hs)
  rw [List.getElem?_eq_getElem hi, e] at h1
  cases h1
  obtain ⟨u, hu, _⟩ := h2.some
  rw [hu]; simp
/-- a new object that is no store's -/
theorem Sim.new {S : Sto} {p : Addr} {o : HO} (m : Sim K ca H r S) (hp : H p = none) : Sim K ca (upd H p o) r S :=
  ⟨m.len, m.nd, fun n u h => let ⟨a, h1, h2⟩ := m.obj n u h; ⟨a, h1, h2.mono (Ext.new hp) (upd_ne fun e => m.tracked (e ▸ List.mem_of_getElem? h1) hp)⟩, fun a ha => (Ext.new (r := r) hp).there a (m.prv a ha)⟩
theorem Sim.newLoc {S : Sto} {p : Addr} {o : HO} {q : MO} (m : Sim K ca H r S) (hp : H p = none) (hq : ORep K ca (upd H p o) (r.add p) q p) : Sim K ca (upd H p o) (r.add p) (S ++ [q]) := by
  have hn : p ∉ r.l := fun h => m.tracked h hp
  refine ⟨by simp [Rg.add, m.len], List.nodup_append.mpr ⟨m.nd, by simp, fun a ha b hb => by simp at hb; subst hb; exact fun e => hn (e ▸ ha)⟩, fun n u h => ?_, fun a ha => (Ext.new (r := r) hp).there a (m.prv a ha)⟩
  by_cases hl : n < S.length
  · rw [List.getElem?_append_left hl] at h
    obtain ⟨a, h1, h2⟩ := m.obj n u h
    exact ⟨a, (Ext.newLoc (o := o) hp).at h1, h2.mono (Ext.newLoc hp) (upd_ne fun e => hn (e ▸ List.mem_of_getElem? h1))⟩
  · rw [List.getElem?_append_right (by omega)] at h
    have hz : n - S.length = 0 := by
      have := (List.getElem?_eq_some_iff.mp h).1
      simp at this; omega
    rw [hz] at h
    simp at h
    subst h
    refine ⟨p, ?_, hq⟩
    show (r.l ++ [p])[n]? = some p
    rw [List.getElem?_append_right (by rw [m.len]; omega), m.len, hz]; rfl
/-- the object n is changed -/
theorem Sim.write {S : Sto} {p : Addr} {o : HO} {q : MO} {n : Nat} (m : Sim K ca H r S) (hn : r.l[n]? = some p) (hq : ORep K ca (upd H p o) r q p) : Sim K ca (upd H p o) r (S.set n q) := by
  have hl : n < r.l.length := (List.getElem?_eq_some_iff.mp hn).1
  have hls : n < S.length := by rw [← m.len]; exact hl
  obtain ⟨a0, h0, ho⟩ := m.obj n S[n] (List.getElem?_eq_getElem hls)
  rw [hn] at h0; cases h0
  obtain ⟨u0, hu0, hi0⟩ := ho.some
  have ex : Ext H r (upd H p o) r := Ext.write hu0 hi0 (List.mem_of_getElem? hn)
  refine ⟨by simp [m.len], m.nd, fun j u h => ?_, fun a ha => ex.there a (m.prv a ha)⟩
  by_cases hj : n = j
  · subst hj
    rw [List.getElem?_set_self hls] at h
    cases h
    exact ⟨p, hn, hq⟩
  · rw [List.getElem?_set_ne hj] at h
    obtain ⟨a, h1, h2⟩ := m.obj j u h
    refine ⟨a, h1, h2.mono ex (upd_ne fun e => hj ?_)⟩
    subst e
    obtain ⟨l1, e1⟩ := List.getElem?_eq_some_iff.mp hn
    obtain ⟨l2, e2⟩ := List.getElem?_eq_some_iff.mp h1
    exact (List.getElem_inj m.nd).mp (e1.trans e2.symm)
theorem Sim.writeExt {S : Sto} {p : Addr} {o : HO} {n : Nat} (m : Sim K ca H r S) (hn : r.l[n]? = some p) : Ext H r (upd H p o) r := by
  have hl : n < r.l.length := (List.getElem?_eq_some_iff.mp hn).1
  have hls : n < S.length := by rw [← m.len]; exact hl
  obtain ⟨a0, h0, ho⟩ := m.obj n S[n] (List.getElem?_eq_getElem hls)
  rw [hn] at h0; cases h0
  obtain ⟨u0, hu0, hi0⟩ := ho.some
  exact Ext.write hu0 hi0 (List.mem_of_getElem? hn)
theorem Sim.loc {S : Sto} {n : Nat} {o : MO} {v : V} (m : Sim K ca H r S) (h : Rep K H r (.loc n) v) (e : S[n]? = some o) : ∃ a, v = .ref a ∧ r.l[n]? = some a ∧ ORep K ca H r o a := by
  cases h with
  | loc hr =>
    obtain ⟨b, h1, h2⟩ := m.obj n o e
    rw [hr] at h1; cases h1
    exact ⟨_, rfl, hr, h2⟩
end
end Z

/-! Z layer, part B: landings; the operators on plain data and what HandS's rules ask for them. -/
namespace Z
open PySem PySem.Spec PyProof.Rows L2

def XRep (K : PySem.W.Frag) (ca : Nat → Addr) (H : Hp) (r : Rg) (c : Nat) (fs : XF) (cls : Value) (d : Option Addr) : Prop :=
  cls = .ref (ca c) ∧ match fs with
    | none => d = none
    | some gs => ∃ dd vs, d = some dd ∧ H dd = some (.xd vs) ∧ RepF K H r gs vs

abbrev RR (T A : Type) := Hp → Rg → T → A → Prop

section
variable (K : PySem.W.Frag) (ca : Nat → Addr)
def Ln {T A : Type} (R : RR T A) (H : Hp) (r : Rg) (o : Out T) (Q : A → Hp → Prop) (W : XK) : Prop := match o with
  | .ok d S => ∀ v H' r', Ext H r H' r' → Sim K ca H' r' S → R H' r' d v → Q v H'
  | .exc c fs S => ∀ cls d H' r', Ext H r H' r' → Sim K ca H' r' S → XRep K ca H' r' c fs cls d → W cls d H'
  | .bad => False
abbrev rV : RR D V := fun H r => Rep K H r
abbrev rB : RR Bool Bool := fun _ _ a b => a = b
abbrev rL : RR (List D) (List V) := fun H r => Reps K H r

def rE (W : WX) (m : Sl → Sto → Out D) : TE := fun s H Q => ∃ sd r S, Slots K H r sd s ∧ Sim K ca H r S ∧ Ln K ca (rV K) H r (m sd S) Q (fun c d H' => W c d s H')
def rT (W : WX) (m : Sl → Sto → Out Bool) : TT := fun s H Q => ∃ sd r S, Slots K H r sd s ∧ Sim K ca H r S ∧ Ln K ca rB H r (m sd S) Q (fun c d H' => W c d s H')
def rA (W : WX) (m : Sl → Sto → Out (List D)) : TA := fun s H Q => ∃ sd r S, Slots K H r sd s ∧ Sim K ca H r S ∧ Ln K ca (rL K) H r (m sd S) Q (fun c d H' => W c d s H')
end

section
variable {K : PySem.W.Frag} {ca : Nat → Addr} {H H1 : Hp} {r r1 : Rg}
theorem Ln.ext {T A : Type} {R : RR T A} {o : Out T} {Q : A → Hp → Prop} {W : XK} (e : Ext H r H1 r1) (h : Ln K ca R H r o Q W) : Ln K ca R H1 r1 o Q W := by
  cases o with
  | ok d S => exact fun v H' r' x => h v H' r' (e.trans x)
  | exc c fs S => exact fun cls d H' r' x => h cls d H' r' (e.trans x)
  | bad => exact h
theorem Ln.bind {T U A B : Type} {R : RR T A} {R' : RR U B} {o : Out T} {f : T → Sto → Out U} {Q : B → Hp → Prop} {Q1 : A → Hp → Prop} {W : XK} (h : Ln K ca R' H r (o.bind f) Q W)
    (k : ∀ d S v H1 r1, Ext H r H1 r1 → Sim K ca H1 r1 S → R H1 r1 d v → Ln K ca R' H1 r1 (f d S) Q W → Q1 v H1) : Ln K ca R H r o Q1 W := by
  cases o with
  | ok d S => exact fun v H' r' x m q => k d S v H' r' x m q (Ln.ext x h)
  | exc c fs S => exact h
  | bad => exact h
theorem Ln.ok {T A : Type} {R : RR T A} {d : T} {S : Sto} {v : A} {Q : A → Hp → Prop} {W : XK} (h : Ln K ca R H r (.ok d S) Q W) (m : Sim K ca H r S) (q : R H r d v) : Q v H := h v H r (Ext.refl H r) m q
end

def lift {T : Type} (o : Option T) (S : Sto) : Out T := match o with
  | some d => .ok d S
  | none => .bad
theorem lift_ln {K : PySem.W.Frag} {ca : Nat → Addr} {H : Hp} {r : Rg} {T A : Type} {R : RR T A} {o : Option T} {S : Sto} {Q : A → Hp → Prop} {W : XK} (h : Ln K ca R H r (lift o S) Q W) :
    ∃ d, o = some d ∧ ∀ v H' r', Ext H r H' r' → Sim K ca H' r' S → R H' r' d v → Q v H' := by
  cases o with
  | none => exact h.elim
  | some d => exact ⟨d, rfl, h⟩

/-! ### what a datum is -/
def asL (S : Sto) : D → Option (List D)
  | .lst xs => some xs
  | .loc n => match S[n]? with
    | some (.lst xs) => some xs
    | _ => none
  | _ => none
def asQ (S : Sto) : D → Option (List D)
  | .tup xs => some xs
  | .fro xs => some xs
  | d => asL S d
def asLF (S : Sto) : D → Option (List D)
  | .fro xs => some xs
  | d => asL S d

section
variable {K : PySem.W.Frag} {ca : Nat → Addr} {H : Hp} {r : Rg} {S : Sto}
theorem asL_rep {x : D} {v : V} {ds : List D} (m : Sim K ca H r S) (hx : Rep K H r x v) (e : asL S x = some ds) : ∃ a vs, v = .ref a ∧ H a = some (.lst vs) ∧ Reps K H r ds vs := by
  cases hx with
  | lst h hn hp hs => cases e; exact ⟨_, _, rfl, h, hs⟩
  | @loc n a h =>
    simp only [asL] at e
    split at e
    · rename_i xs he
      cases e
      obtain ⟨b, h1, h2⟩ := m.obj n _ he
      rw [h] at h1; cases h1
      obtain ⟨vs, h3, h4⟩ := h2
      exact ⟨_, vs, rfl, h3, h4⟩
    · cases e
  | _ => simp [asL] at e
theorem asLF_rep {x : D} {v : V} {ds : List D} (m : Sim K ca H r S) (hx : Rep K H r x v) (e : asLF S x = some ds) : ∃ a vs, v = .ref a ∧ SqL K H a vs ∧ Reps K H r ds vs := by
  cases hx with
  | fro h hs => cases e; exact ⟨_, _, rfl, h.sq, hs⟩
  | lst h hn hp hs => cases e; exact ⟨_, _, rfl, .of h, hs⟩
  | loc h =>
    obtain ⟨a, vs, h1, h2, h3⟩ := asL_rep m (.loc h) (show asL S _ = some ds from e)
    exact ⟨a, vs, h1, .of h2, h3⟩
  | _ => simp [asLF, asL] at e
theorem asQ_rep {x : D} {v : V} {ds : List D} (m : Sim K ca H r S) (hx : Rep K H r x v) (e : asQ S x = some ds) : ∃ a vs, v = .ref a ∧ (SqL K H a vs ∨ SqT K H a vs) ∧ Reps K H r ds vs := by
  cases hx with
  | tup h hs => cases e; exact ⟨_, _, rfl, .inr h, hs⟩
  | fro h hs => cases e; exact ⟨_, _, rfl, .inl h.sq, hs⟩
  | lst h hn hp hs => cases e; exact ⟨_, _, rfl, .inl (.of h), hs⟩
  | loc h =>
    obtain ⟨a, vs, h1, h2, h3⟩ := asL_rep m (.loc h) (show asL S _ = some ds from e)
    exact ⟨a, vs, h1, .inl (.of h2), h3⟩
  | _ => simp [asQ, asL] at e
theorem newTup {p : Addr} {ds : List D} {vs : List V} (hp : H p = none) (hs : Reps K H r ds vs) : Rep K (upd H p (.tup vs)) r (.tup ds) (.ref p) := .tup (.of upd_same) (hs.mono (Ext.new hp))
theorem newLst {p : Addr} {ds : List D} {vs : List V} (m : Sim K ca H r S) (hp : H p = none) (hs : Reps K H r ds vs) : Rep K (upd H p (.lst vs)) r (.lst ds) (.ref p) :=
  .lst upd_same (fun h => m.tracked h hp) (fun h => m.prv _ h hp) (hs.mono (Ext.new hp))
theorem Reps.nil_iff {ds : List D} {vs : List V} (h : Reps K H r ds vs) : vs = [] ↔ ds = [] := by cases h <;> simp
theorem Reps.nil_of {vs : List V} (h : Reps K H r [] vs) : vs = [] := by cases h; rfl
end

/-- a rule by values, of two data -/
def OpZ (K : PySem.W.Frag) (ca : Nat → Addr) (R : R2) (f : Sto → D → D → Option D) : Prop :=
  ∀ {H : Hp} {r : Rg} {S : Sto} {x y : D} {vx vy : V} {d : D} {Q : VK}, Sim K ca H r S → Rep K H r x vx → Rep K H r y vy → f S x y = some d →
    (∀ v H', Ext H r H' r → Sim K ca H' r S → Rep K H' r d v → Q v H') → R vx vy H Q
/-- .. of a list of arguments -/
def CallZ (K : PySem.W.Frag) (ca : Nat → Addr) (R : List V → Hp → VK → Prop) (f : Sto → List D → Option D) : Prop :=
  ∀ {H : Hp} {r : Rg} {S : Sto} {xs : List D} {vs : List V} {d : D} {Q : VK}, Sim K ca H r S → Reps K H r xs vs → f S xs = some d →
    (∀ v H', Ext H r H' r → Sim K ca H' r S → Rep K H' r d v → Q v H') → R vs H Q

def rOr (a b : R2) : R2 := fun x y H Q => a x y H Q ∨ b x y H Q

/-! ### + -/
def addP (S : Sto) (x y : D) : Option D := match x, y with
  | .int i, .int j => some (.int (i + j))
  | .str a, .str b => if a.length + b.length ≤ 16777216 then some (.str (a ++ b)) else none
  | .tup xs, .tup ys => if xs.length + ys.length ≤ 16777216 then some (.tup (xs ++ ys)) else none
  | x, y => match asL S x, asL S y with
    | some xs, some ys => if xs.length + ys.length ≤ 16777216 then some (.lst (xs ++ ys)) else none
    | _, _ => none
def rStrCat : R2 := fun x y H Q => ∃ i j, x = .str i ∧ y = .str j ∧ i.length + j.length ≤ sizeLine ∧ Q (.str (i ++ j)) H
def rAddI : R2 := rI0 fun i j => .int (i + j)
def rAdd (K : PySem.W.Frag) : R2 := rOr rAddI (rOr rStrCat (rOr (rCatA K) rCat))
theorem or_add {X : Cx} : OpR X (binaryOp .Add) (rAdd X.K) := op_add.or (op_add_str.or (op_catA.or op_cat))
section
variable {K : PySem.W.Frag} {ca : Nat → Addr}
theorem oz_add : OpZ K ca (rAdd K) addP := by
  intro H r S x y vx vy d Q m hx hy e q
  unfold addP at e
  split at e
  · cases hx; cases hy; cases e
    exact .inl ⟨_, _, rfl, rfl, q _ _ (Ext.refl ..) m (.int _)⟩
  · cases hx; cases hy
    split at e
    · cases e
      exact .inr (.inl ⟨_, _, rfl, rfl, by rw [sizeLine_eq]; assumption, q _ _ (Ext.refl ..) m (.str _)⟩)
    · cases e
  · cases hx with
    | tup h1 s1 =>
      cases hy with
      | tup h2 s2 =>
        split at e
        · rename_i hl
          cases e
          refine .inr (.inr (.inl ⟨_, _, _, _, rfl, rfl, h1, h2, by rw [sizeLine_eq, ← s1.length, ← s2.length]; exact hl, fun z => ?_, fun z z2 => ?_, fun z z2 p hp => ?_⟩))
          · have := s1.nil_iff.mp z; subst this
            exact q _ _ (Ext.refl ..) m (.tup h2 s2)
          · have := s2.nil_iff.mp z2; subst this
            rw [List.append_nil] at q
            exact q _ _ (Ext.refl ..) m (.tup h1 s1)
          · exact q _ _ (Ext.new hp) (m.new hp) (newTup hp (s1.append s2))
        · cases e
  · split at e
    · rename_i xs ys e1 e2
      split at e
      · rename_i hl
        cases e
        obtain ⟨a, vs, rfl, h1, s1⟩ := asL_rep m hx e1
        obtain ⟨b, us, rfl, h2, s2⟩ := asL_rep m hy e2
        exact .inr (.inr (.inr ⟨_, _, _, _, rfl, rfl, h1, h2, by rw [sizeLine_eq, ← s1.length, ← s2.length]; exact hl, fun p hp => q _ _ (Ext.new hp) (m.new hp) (newLst m hp (s1.append s2))⟩))
      · cases e
    · cases e

/-! ### -, //, %, ** of ints -/
def intP (f : Int → Int → Option Int) (_ : Sto) (x y : D) : Option D := match x, y with
  | .int i, .int j => (f i j).map .int
  | _, _ => none
theorem oz_int {C : Int → Int → Prop} {g : Int → Int → Int} {f : Int → Int → Option Int} (h : ∀ i j k, f i j = some k → C i j ∧ g i j = k) : OpZ K ca (rI C fun i j => .int (g i j)) (intP f) := by
  intro H r S x y vx vy d Q m hx hy e q
  unfold intP at e
  split at e
  · rename_i i j
    cases hx; cases hy
    cases e2 : f i j with
    | none => rw [e2] at e; cases e
    | some k =>
      rw [e2] at e
      cases e
      obtain ⟨hc, rfl⟩ := h i j k e2
      exact ⟨_, _, rfl, rfl, hc, q _ _ (Ext.refl ..) m (.int _)⟩
  · cases e
def subI (i j : Int) : Option Int := some (i - j)
def rSubI : R2 := rI (fun _ _ => True) fun i j => .int (i - j)
theorem or_sub {X : Cx} : OpR X (binaryOp .Sub) rSubI := fun pins s σ H x y v u Q I rx ry ⟨i, j, e1, e2, _, q⟩ => op_sub pins s σ H x y v u Q I rx ry ⟨i, j, e1, e2, q⟩
theorem oz_sub : OpZ K ca rSubI (intP subI) := oz_int fun i j k e => ⟨trivial, Option.some.inj e⟩
def fdivI (i j : Int) : Option Int := if 0 < j ∧ j < 1073741824 then some (i / j) else none
theorem oz_fdiv : OpZ K ca (rI CDiv fun i j => .int (i / j)) (intP fdivI) := oz_int fun i j k e => by
  unfold fdivI at e; split at e
  · rename_i h; exact ⟨h, Option.some.inj e⟩
  · cases e
def modI (i j : Int) : Option Int := if 0 < j then some (i % j) else none
theorem oz_mod : OpZ K ca (rI (fun _ j => 0 < j) fun i j => .int (i % j)) (intP modI) := oz_int fun i j k e => by
  unfold modI at e; split at e
  · rename_i h; exact ⟨h, Option.some.inj e⟩
  · cases e
def powI (i j : Int) : Option Int := if 0 ≤ j ∧ j ≤ 1000000 ∧ i.natAbs < 18446744073709551616 then some (i ^ j.toNat) else none
theorem oz_pow : OpZ K ca (rI CPow fun i j => .int (i ^ j.toNat)) (intP powI) := oz_int fun i j k e => by
  unfold powI at e; split at e
  · rename_i h; exact ⟨⟨h.1, h.2.1, by have := h.2.2; simpa using this⟩, Option.some.inj e⟩
  · cases e
end
end Z

/-! Z layer: tuple * n where n is below 2, or the tuple is empty. -/
namespace Z
open PySem PySem.Spec PyProof.Rows L2
theorem tup_rep_same (l : Addr) (items : Array Value) (n : Nat) (dd : Option Addr) (sl : Array (Option Value)) (x : Int) (u : Tok) (c0 : (decide (x < -(2 ^ 63)) || decide (x ≥ 2 ^ 63)) = false) (c1 : (items.isEmpty || x == 1) = true) :
    Meets (Builtin.«tuple.__mul__» ⟨[.ref l, .int x u], []⟩) (fun _ R s => s.heap.get? l = some { cls := .type "tuple", dict := dd, data := .seq items n, slots := sl } ∧ R (.ok (.ret (Value.ref l))) s) :=
  .of_wp fun prog w A R s h => by
    obtain ⟨hp, g, d, tk, os⟩ := s
    obtain ⟨hl, h⟩ := h
    have f1 := AutoSeq1.idx_int
    wp_walk using wpAny_loadPart' hl
    repeat (first
      | (refine wpAny_ite_false (decide_eq_false (by rw [c0]; exact Bool.false_ne_true)) ?_; wp_walk using wpAny_loadPart' hl)
      | (refine wpAny_ite_true (decide_eq_true c1) ?_; wp_walk using wpAny_loadPart' hl))
    exact ⟨_, rfl, h⟩
theorem tup_rep_none (l : Addr) (items : Array Value) (n : Nat) (dd : Option Addr) (sl : Array (Option Value)) (x : Int) (u : Tok) (c0 : (decide (x < -(2 ^ 63)) || decide (x ≥ 2 ^ 63)) = false) (c1 : (items.isEmpty || x == 1) = false) (c2 : (decide (x ≤ 0) || items.isEmpty) = true) :
    Meets (Builtin.«tuple.__mul__» ⟨[.ref l, .int x u], []⟩) (fun _ R s => s.heap.get? l = some { cls := .type "tuple", dict := dd, data := .seq items n, slots := sl } ∧
      R (.ok (.ret (Value.ref s.heap.objs.size))) { s with heap := s.heap.push { cls := Value.type "tuple", data := Data.seq #[] }, toks := s.toks }) :=
  .of_wp fun prog w A R s h => by
    obtain ⟨hp, g, d, tk, os⟩ := s
    obtain ⟨hl, h⟩ := h
    have f1 := AutoSeq1.idx_int
    wp_walk using wpAny_loadPart' hl
    repeat (first
      | (refine wpAny_ite_false (decide_eq_false (by rw [c0]; exact Bool.false_ne_true)) ?_; wp_walk using wpAny_loadPart' hl)
      | (refine wpAny_ite_false (decide_eq_false (by rw [c1]; exact Bool.false_ne_true)) ?_; wp_walk using wpAny_loadPart' hl)
      | (refine wpAny_ite_true (decide_eq_true c2) ?_; wp_walk using wpAny_loadPart' hl))
    exact ⟨_, rfl, h⟩
def rRepS (K : PySem.W.Frag) : R2 := fun x y H Q => ∃ l k xs, x = .ref l ∧ y = .int k ∧ SqT K H l xs ∧ -(2 ^ 63) ≤ k ∧ k < 2 ^ 63 ∧
  (((xs = [] ∨ k = 1) ∧ Q (.ref l) H) ∨ (xs ≠ [] ∧ k ≤ 0 ∧ ∀ p, H p = none → Q (.ref p) (upd H p (.tup []))))
section
variable {X : Cx}
theorem op_repS : OpR X (binaryOp .Mult) (rRepS X.K) := by
  intro pins s σ H x y v u Q I rx ry h
  obtain ⟨l, k, xs, rfl, rfl, hT, h1, h2, h⟩ := h
  cases rx
  obtain ⟨t, rfl⟩ := ry
  obtain ⟨its, r, ⟨⟨cls, dd, data, sl⟩, ho, hc, n, hd⟩, hs⟩ := I.tuple hT
  simp only at hc hd
  subst hc hd
  have c0 : (decide (k < -(2 ^ 63)) || decide (k ≥ 2 ^ 63)) = false := by
    rw [decide_eq_false (by omega), decide_eq_false (by omega)] <;> rfl
  have he : its.toArray.isEmpty = xs.isEmpty := by cases r <;> simp
  refine wpAny_binaryOp_repeat_ref (T := "tuple") (U := "int") (by decide) ⟨_, ho, rfl⟩ (fun s' => typeIs_int s' k t) noFill_tuple_mul F.fills_int_mul F.slot_int_rmul repeat_tuple F.slot_int_index.lookup
    (call_meets F.slot_int_rmul (typeIs_int s k t) F.entry_int_rmul (F.args_int_rmul_2 _ _) (int_rmul_tuple k t l its.toArray n dd sl)
      ⟨ho, rfl, ⟨_, ho, rfl⟩, ?_⟩)
  rcases h with ⟨hk, q⟩ | ⟨hne, hk, q⟩
  · have c1 : (its.toArray.isEmpty || k == 1) = true := by
      rw [he]
      rcases hk with rfl | rfl <;> simp
    exact call_meets F.slot_tuple_mul ⟨_, ho, rfl⟩ F.entry_tuple_mul (F.args_tuple_mul_2 _ _) (tup_rep_same l its.toArray n dd sl k t c0 c1) ⟨ho, .ref l, H, I, rfl, q⟩
  · have e1 : xs.isEmpty = false := by cases xs <;> simp at hne ⊢
    have c1 : (its.toArray.isEmpty || k == 1) = false := by
      rw [he, e1, Bool.false_or]
      exact beq_eq_false_iff_ne.mpr (by omega)
    have c2 : (decide (k ≤ 0) || its.toArray.isEmpty) = true := by rw [decide_eq_true hk]; rfl
    exact call_meets F.slot_tuple_mul ⟨_, ho, rfl⟩ F.entry_tuple_mul (F.args_tuple_mul_2 _ _) (tup_rep_none l its.toArray n dd sl k t c0 c1 c2)
      ⟨ho, .ref s.heap.objs.size, _, I.laid (t' := s.toks) (o := .tup []) (fun b ob q => Heap.get?_push_of_some _ q) (Nat.le_refl _) ⟨Nat.zero_le _, _, .nil, IsTup.new _ _⟩, rfl, q _ (I.hok.fresh (Nat.le_refl _))⟩
end
end Z

/-! Z layer, part C: products, comparisons, in, subscripts, slices, truth, isinstance, built-ins. -/
namespace Z
open PySem PySem.Spec PyProof.Rows L2

/-! ### products -/
def mulI (i j : Int) : Option Int := if (-18446744073709551616 < i ∧ i < 18446744073709551616) ∨ (-18446744073709551616 < j ∧ j < 18446744073709551616) then some (i * j) else if i.natAbs.log2 + j.natAbs.log2 < 1000000 then some (i * j) else none
def mulP (S : Sto) (x y : D) : Option D := match x, y with
  | .int i, .int j => (mulI i j).map .int
  | .tup xs, .int k => if k ≤ 1000 ∧ -1000000 ≤ k ∧ xs.length ≤ 1000 then some (.tup (List.replicate k.toNat xs).flatten) else none
  | x, .int k => match asL S x with
    | some xs => if -9223372036854775808 ≤ k ∧ k < 9223372036854775808 ∧ xs.length * k.toNat ≤ 16777216 then some (.lst (List.replicate k.toNat xs).flatten) else none
    | none => none
  | _, _ => none
def rMulI : R2 := rOr (rI CMul fun i j => .int (i * j)) (rI CMulW fun i j => .int (i * j))
def rMulA (K : PySem.W.Frag) : R2 := rOr rMulI (rOr (rRepT K) (rOr (rRepS K) rRep))
theorem or_mul {X : Cx} : OpR X (binaryOp .Mult) (rMulA X.K) := (op_mul.or op_mulW).or (op_repT.or (op_repS.or op_rep))
section
variable {K : PySem.W.Frag} {ca : Nat → Addr}
theorem rep_one {α : Type} (xs : List α) : (List.replicate (1 : Int).toNat xs).flatten = xs := by show [xs].flatten = xs; simp
theorem rep_nil {α : Type} (n : Nat) : (List.replicate n ([] : List α)).flatten = [] := by induction n <;> simp [List.replicate_succ, *]
theorem oz_mulI {H : Hp} {r : Rg} {S : Sto} {i j : Int} {d : D} {Q : VK} (m : Sim K ca H r S) (e : (mulI i j).map D.int = some d) (q : ∀ v H', Ext H r H' r → Sim K ca H' r S → Rep K H' r d v → Q v H') : rMulI (.int i) (.int j) H Q := by
  unfold mulI at e
  split at e
  · rename_i hc; cases e; exact .inl ⟨_, _, rfl, rfl, by unfold CMul; simpa using hc, q _ _ (Ext.refl ..) m (.int _)⟩
  · split at e
    · rename_i hc; cases e; exact .inr ⟨_, _, rfl, rfl, hc, q _ _ (Ext.refl ..) m (.int _)⟩
    · cases e
theorem oz_mul : OpZ K ca (rMulA K) mulP := by
  intro H r S x y vx vy d Q m hx hy e q
  unfold mulP at e
  split at e
  · cases hx; cases hy
    exact .inl (oz_mulI m e q)
  · rename_i xs k
    cases hx with
    | @tup a vs _ h1 s1 =>
    cases hy
    split at e
    · rename_i hc
      cases e
      by_cases h0 : xs = [] ∨ k = 1
      · refine .inr (.inr (.inl ⟨_, _, _, rfl, rfl, h1, by omega, by omega, .inl ⟨?_, ?_⟩⟩))
        · rcases h0 with z | z
          · exact .inl (s1.nil_iff.mpr z)
          · exact .inr z
        · have e0 : (List.replicate k.toNat xs).flatten = xs := by
            rcases h0 with z | z
            · subst z; exact rep_nil _
            · subst z; exact rep_one _
          rw [e0] at q
          exact q _ _ (Ext.refl ..) m (.tup h1 s1)
      · have h0 : xs ≠ [] ∧ k ≠ 1 := ⟨fun z => h0 (.inl z), fun z => h0 (.inr z)⟩
        by_cases hk : k ≤ 0
        · refine .inr (.inr (.inl ⟨_, _, _, rfl, rfl, h1, by omega, by omega, .inr ⟨fun z => h0.1 (s1.nil_iff.mp z), hk, fun p hp => ?_⟩⟩))
          have e0 : (List.replicate k.toNat xs).flatten = [] := by rw [show k.toNat = 0 by omega]; rfl
          rw [e0] at q
          exact q _ _ (Ext.new hp) (m.new hp) (newTup hp .nil)
        · refine .inr (.inl ⟨_, _, _, rfl, rfl, h1, fun z => h0.1 (s1.nil_iff.mp z), by omega, by omega, by rw [← s1.length]; omega, fun p hp => ?_⟩)
          exact q _ _ (Ext.new hp) (m.new hp) (newTup hp (s1.rep _))
    · cases e
  · split at e
    · rename_i xs e1
      obtain ⟨a, vs, rfl, h1, s1⟩ := asL_rep m hx e1
      cases hy
      split at e
      · rename_i hc
        cases e
        exact .inr (.inr (.inr ⟨_, _, _, rfl, rfl, h1, by omega, by omega, by rw [sizeLine_eq, ← s1.length]; omega, fun p hp => q _ _ (Ext.new hp) (m.new hp) (newLst m hp (s1.rep _))⟩))
      · cases e
    · cases e
  · cases e

/-! ### order of ints -/
def cmpI (f : Int → Int → Bool) (_ : Sto) (x y : D) : Option D := match x, y with
  | .int i, .int j => some (.bl (f i j))
  | _, _ => none
theorem oz_cmp {g : Int → Int → Bool} : OpZ K ca (rI0 fun i j => .bl (g i j)) (cmpI g) := by
  intro H r S x y vx vy d Q m hx hy e q
  unfold cmpI at e
  split at e
  · cases hx; cases hy; cases e
    exact ⟨_, _, rfl, rfl, q _ _ (Ext.refl ..) m (.bl _)⟩
  · cases e

/-! ### is None -/
def isNP (neg : Bool) (_ : Sto) (x y : D) : Option D := match y with
  | .non => some (.bl (match x with | .non => !neg | _ => neg))
  | _ => none
theorem oz_isN : OpZ K ca (fun x y H Q => y = .non ∧ Q (.bl (decide (x = .non))) H) (isNP false) := by
  intro H r S x y vx vy d Q m hx hy e q
  unfold isNP at e
  split at e
  · cases hy; cases e
    refine ⟨rfl, q _ _ (Ext.refl ..) m ?_⟩
    cases hx <;> exact .bl _
  · cases e
theorem oz_notN : OpZ K ca (fun x y H Q => y = .non ∧ Q (.bl (!decide (x = .non))) H) (isNP true) := by
  intro H r S x y vx vy d Q m hx hy e q
  unfold isNP at e
  split at e
  · cases hy; cases e
    refine ⟨rfl, q _ _ (Ext.refl ..) m ?_⟩
    cases hx <;> exact .bl _
  · cases e
end

/-! ### data -/
mutual
def toP0 : D → Option PyData
  | .non => some .none
  | .bl b => some (.bool b)
  | .int i => some (.int i)
  | .str x => some (.str x)
  | .tup xs => (toPs0 xs).map .tuple
  | .lst xs => (toPs0 xs).map .list
  | .fro xs => (toPs0 xs).map .list
  | .loc _ => none
def toPs0 : List D → Option (List PyData)
  | [] => some []
  | d :: ds => match toP0 d, toPs0 ds with
    | some p, some ps => some (p :: ps)
    | _, _ => none
end
def toP (S : Sto) (d : D) : Option PyData := match d with
  | .loc n => match S[n]? with
    | some (.lst ds) => (toPs0 ds).map .list
    | _ => none
  | d => toP0 d
section
variable {K : PySem.W.Frag} {ca : Nat → Addr} {H : Hp} {r : Rg} {S : Sto}
mutual
theorem toP0_dp : ∀ {d : D} {v : V} {p : PyData}, Rep K H r d v → toP0 d = some p → Dp K H v p
  | _, _, _, .non, e => by simp only [toP0] at e; cases e; exact .non
  | _, _, _, .bl b, e => by simp only [toP0] at e; cases e; exact .bl b
  | _, _, _, .int i, e => by simp only [toP0] at e; cases e; exact .int i
  | _, _, _, .str x, e => by simp only [toP0] at e; cases e; exact .str x
  | _, _, _, .tup h hs, e => by
    simp only [toP0, Option.map_eq_some_iff] at e
    obtain ⟨ps, e1, rfl⟩ := e
    exact .tup h (toPs0_dp hs e1)
  | _, _, _, .lst h _ _ hs, e => by
    simp only [toP0, Option.map_eq_some_iff] at e
    obtain ⟨ps, e1, rfl⟩ := e
    exact .lst (.of h) (toPs0_dp hs e1)
  | _, _, _, .fro h hs, e => by
    simp only [toP0, Option.map_eq_some_iff] at e
    obtain ⟨ps, e1, rfl⟩ := e
    exact .lst h.sq (toPs0_dp hs e1)
  | _, _, _, .loc _, e => by simp only [toP0] at e; cases e
theorem toPs0_dp : ∀ {ds : List D} {vs : List V} {ps : List PyData}, Reps K H r ds vs → toPs0 ds = some ps → DpAll K H vs ps
  | _, _, _, .nil, e => by simp only [toPs0] at e; cases e; exact .nil
  | _, _, _, .cons h hs, e => by
    simp only [toPs0] at e
    split at e
    · rename_i p ps e1 e2
      cases e
      exact .cons (toP0_dp h e1) (toPs0_dp hs e2)
    · cases e
end
theorem toP_dp {d : D} {v : V} {p : PyData} (m : Sim K ca H r S) (h : Rep K H r d v) (e : toP S d = some p) : Dp K H v p := by
  unfold toP at e
  split at e
  · split at e
    · rename_i n ds he
      obtain ⟨a, rfl, _, vs, h1, h2⟩ := m.loc h he
      rw [Option.map_eq_some_iff] at e
      obtain ⟨ps, e1, rfl⟩ := e
      exact .lst (.of h1) (toPs0_dp h2 e1)
    · cases e
  · exact toP0_dp h e
end

/-! ### == and != -/
def eqS : D → D → Option Bool
  | .int i, .int j => some (decide (i = j))
  | .bl i, .bl j => some (decide (i = j))
  | .str i, .str j => some (decide (i = j))
  | .non, .non => some true
  | .non, .int _ => some false
  | .int _, .non => some false
  | .non, .bl _ => some false
  | .bl _, .non => some false
  | .non, .str _ => some false
  | .str _, .non => some false
  | .int _, .str _ => some false
  | .str _, .int _ => some false
  | .bl _, .str _ => some false
  | .str _, .bl _ => some false
  | _, _ => none
/-- a list and an empty one -/
def eqE (S : Sto) (x y : D) : Option Bool := match asLF S x, y with
  | some (_ :: _), .lst [] => some false
  | _, _ => none
/-- tuples whose items are scalars as far as both go -/
def eqZ : List D → List D → Option Bool
  | [], [] => some true
  | [], _ :: _ => some false
  | _ :: _, [] => some false
  | x :: xs, y :: ys => match eqS x y, eqZ xs ys with
    | some b, some c => some (b && c)
    | _, _ => none
def eqT (x y : D) : Option Bool := match x, y with
  | .tup xs, .tup ys => eqZ xs ys
  | _, _ => none
def eqP (S : Sto) (x y : D) : Option Bool := match eqS x y with
  | some b => some b
  | none => match eqE S x y with
    | some b => some b
    | none => match eqT x y with
     | some b => some b
     | none => match toP S x, toP S y with
      | some p, some q => if SeqAt.shaped p = true ∧ SeqAt.shaped q = true then some (PyData.eqv p q) else none
      | _, _ => none
def eqD (S : Sto) (x y : D) : Option D := (eqP S x y).map .bl
def neD (S : Sto) (x y : D) : Option D := (eqP S x y).map fun b => .bl (!b)
def rEmp (K : PySem.W.Frag) (k : Bool) : R2 := fun x y H Q => ∃ a b xs, x = .ref a ∧ y = .ref b ∧ SqL K H a xs ∧ SqL K H b [] ∧ xs ≠ [] ∧ Q (.bl k) H
theorem op_eqEmp {X : Cx} (hu : X.A.units < cLine) : OpR X (compareOp .Eq) (rEmp X.K false) := by
  intro pins s σ H x y v u Q I rx ry h
  obtain ⟨a, b, xs, rfl, rfl, ha, hb, hne, q⟩ := h
  cases rx; cases ry
  obtain ⟨its, r1, p1, _⟩ := I.list ha
  obtain ⟨its2, r2, p2, _⟩ := I.list hb
  cases r2
  refine SeqAt.eq_list_lengthsAt p1.isList p2.isList ?_ hu ⟨.bl false, H, I, rfl, q⟩
  cases r1 with
  | nil => exact absurd rfl hne
  | cons _ _ => rfl
theorem op_neEmp {X : Cx} (hu : X.A.units < cLine) : OpR X (compareOp .NotEq) (rEmp X.K true) := by
  intro pins s σ H x y v u Q I rx ry h
  obtain ⟨a, b, xs, rfl, rfl, ha, hb, hne, q⟩ := h
  cases rx; cases ry
  obtain ⟨its, r1, p1, _⟩ := I.list ha
  obtain ⟨its2, r2, p2, _⟩ := I.list hb
  cases r2
  have hsz : (its.toArray.size != ([] : List Value).toArray.size) = true := by
    cases r1 with
    | nil => exact absurd rfl hne
    | cons _ _ => rfl
  obtain ⟨⟨cls, dd, data, sl⟩, ho, hc, n, hd⟩ := p1.isList
  obtain ⟨⟨cls2, dd2, data2, sl2⟩, ho2, hc2, n2, hd2⟩ := p2.isList
  simp only at hc hd hc2 hd2
  subst hc hd hc2 hd2
  exact richCompare_meets_room (op := .NotEq) ⟨_, ho, rfl⟩ ⟨_, ho2, rfl⟩ F.slot_list_ne F.entry_list_ne (F.args_list_ne_2 _ _) (SeqAt.list_ne_lengthsAt a b _ _ n n2 dd dd2 sl sl2 hsz)
    ⟨ho, ho2, (fun x => nomatch x), .bl true, H, I, rfl, q⟩ hu
theorem scal_at {A : Around} {s : Shared} {x y : V} {u v : Value} (h : scal x y = true) (hb : ∀ b, x ≠ .byt b) (ru : RelV x u) (rv : RelV y v) : SeqAt.EqAt A s u v (decide (x = y)) := by
  unfold scal at h
  split at h <;> first | (cases h; done) | skip
  · cases ru; cases rv; exact SeqAt.EqAt.same _
  · obtain ⟨t, rfl⟩ := rv; cases ru; exact SeqAt.EqAt.none_int _ _
  · obtain ⟨t, rfl⟩ := ru; cases rv; exact SeqAt.EqAt.int_none _ _
  · cases ru; cases rv; exact SeqAt.EqAt.none_bool _
  · cases ru; cases rv; exact SeqAt.EqAt.bool_none _
  · obtain ⟨t, rfl⟩ := rv; cases ru; exact SeqAt.EqAt.none_str _ _
  · obtain ⟨t, rfl⟩ := ru; cases rv; exact SeqAt.EqAt.str_none _ _
  · obtain ⟨t, rfl⟩ := ru; obtain ⟨t2, rfl⟩ := rv; rw [dec_int]; exact SeqAt.EqAt.int_int _ _ _ _
  · cases ru; cases rv; rw [dec_bl]; exact SeqAt.EqAt.bool_bool _ _
  · obtain ⟨t, rfl⟩ := ru; obtain ⟨t2, rfl⟩ := rv; rw [dec_str]; exact SeqAt.EqAt.str_str _ _ _ _
  · exact absurd rfl (hb _)
  · obtain ⟨t, rfl⟩ := ru; obtain ⟨t2, rfl⟩ := rv; exact SeqAt.EqAt.int_str _ _ _ _
  · obtain ⟨t, rfl⟩ := ru; obtain ⟨t2, rfl⟩ := rv; exact SeqAt.EqAt.str_int _ _ _ _
  · obtain ⟨t, rfl⟩ := rv; cases ru; exact SeqAt.EqAt.bool_str _ _ _
  · obtain ⟨t, rfl⟩ := ru; cases rv; exact SeqAt.EqAt.str_bool _ _ _
/-- items that are scalars as far as both go; whether they are equal -/
inductive ScZ : List V → List V → Bool → Prop
  | nn : ScZ [] [] true
  | nc (y : V) (ys : List V) : ScZ [] (y :: ys) false
  | cn (x : V) (xs : List V) : ScZ (x :: xs) [] false
  | cc {x y : V} {xs ys : List V} {b : Bool} : scal x y = true → (∀ c, x ≠ .byt c) → ScZ xs ys b → ScZ (x :: xs) (y :: ys) (decide (x = y) && b)
def ScZ.e : List V → List V → Nat → Bool
  | x :: xs, y :: ys, j => match j with
    | 0 => decide (x = y)
    | j + 1 => ScZ.e xs ys j
  | _, _, _ => false
theorem ScZ.all {xs ys : List V} {b : Bool} (h : ScZ xs ys b) : ((List.range (min xs.length ys.length)).all (ScZ.e xs ys) && xs.length == ys.length) = b := by
  induction h with
  | nn => rfl
  | nc y ys => simp
  | cn x xs => simp
  | @cc x y xs ys b h1 h2 h3 ih =>
    rw [← ih]
    have e : min (x :: xs).length (y :: ys).length = min xs.length ys.length + 1 := by simp [Nat.succ_min_succ]
    rw [e, List.range_succ_eq_map, List.all_cons, List.all_map]
    have e2 : (ScZ.e (x :: xs) (y :: ys) ∘ Nat.succ) = ScZ.e xs ys := rfl
    rw [e2]
    show (decide (x = y) && _ && _) = _
    rw [Bool.and_assoc]
    congr 2
    simp
theorem ScZ.at {A : Around} {s : Shared} {xs ys : List V} {b : Bool} (h : ScZ xs ys b) : ∀ {us vs : List Value}, Vals xs us → Vals ys vs → ∀ (j : Nat) (h1 : j < us.length) (h2 : j < vs.length), SeqAt.EqAt A s us[j] vs[j] (ScZ.e xs ys j) := by
  induction h with
  | nn => intro us vs r1 r2 j h1; cases r1; cases h1
  | nc y ys => intro us vs r1 r2 j h1; cases r1; cases h1
  | cn x xs => intro us vs r1 r2 j h1 h2; cases r2; cases h2
  | @cc x y xs ys b h1 h2 h3 ih =>
    intro us vs r1 r2 j l1 l2
    cases r1 with
    | cons p1 q1 =>
      cases r2 with
      | cons p2 q2 =>
        cases j with
        | zero => exact scal_at h1 h2 p1 p2
        | succ j => exact ih q1 q2 j (by simpa using l1) (by simpa using l2)
def rTupZ (K : PySem.W.Frag) (k : Bool) : R2 := fun x y H Q => ∃ a b xs ys c, x = .ref a ∧ y = .ref b ∧ SqT K H a xs ∧ SqT K H b ys ∧ ScZ xs ys c ∧ Q (.bl (if k then !c else c)) H
theorem op_eqZ {X : Cx} (hu : X.A.units < cLine) : OpR X (compareOp .Eq) (rTupZ X.K false) := by
  intro pins s σ H x y v u Q I rx ry h
  obtain ⟨a, b, xs, ys, c, rfl, rfl, ha, hb, hz, q⟩ := h
  cases rx; cases ry
  obtain ⟨its, r1, p1, _⟩ := I.tuple ha
  obtain ⟨its2, r2, p2, _⟩ := I.tuple hb
  refine SeqAt.eq_tupleAt (e := ScZ.e xs ys) p1 p2 hu (fun j h1 h2 => ?_) ⟨.bl c, H, I, ?_, q⟩
  · have := hz.at (A := X.A.in1) (s := s) r1 r2 j (by simpa using h1) (by simpa using h2)
    simpa using this
  · have e := hz.all
    show Value.bool _ = Value.bool c
    rw [← e]
    simp only [List.size_toArray, ← r1.length, ← r2.length]
theorem op_neZ {X : Cx} (hu : X.A.units < cLine) : OpR X (compareOp .NotEq) (rTupZ X.K true) := by
  intro pins s σ H x y v u Q I rx ry h
  obtain ⟨a, b, xs, ys, c, rfl, rfl, ha, hb, hz, q⟩ := h
  cases rx; cases ry
  obtain ⟨its, r1, p1, _⟩ := I.tuple ha
  obtain ⟨its2, r2, p2, _⟩ := I.tuple hb
  refine SeqAt.RcNeAt.tuples (e := ScZ.e xs ys) p1 p2 hu (fun j h1 h2 => ?_) X.prog X.w X.xe _ ⟨.bl (!c), H, I, ?_, q⟩
  · have := hz.at (A := X.A.in1) (s := s) r1 r2 j (by simpa using h1) (by simpa using h2)
    simpa using this
  · have e := hz.all
    show Value.bool _ = Value.bool (!c)
    rw [← e]
    simp only [List.size_toArray, ← r1.length, ← r2.length]
def rEqA (K : PySem.W.Frag) : R2 := rOr rEq (rOr (rEmp K false) (rOr (rTupZ K false) (rEqD K)))
def rNeA (K : PySem.W.Frag) : R2 := rOr rNe (rOr (rEmp K true) (rOr (rTupZ K true) (rNeD K)))
theorem or_eq {X : Cx} (hu : X.A.units + 64 < cLine) : OpR X (compareOp .Eq) (rEqA X.K) := op_eq.or ((op_eqEmp (by omega)).or ((op_eqZ (by omega)).or (op_eqD hu)))
theorem or_ne {X : Cx} (hu : X.A.units + 64 < cLine) : OpR X (compareOp .NotEq) (rNeA X.K) := op_ne.or ((op_neEmp (by omega)).or ((op_neZ (by omega)).or (op_neD hu)))
section
variable {K : PySem.W.Frag} {ca : Nat → Addr} {H : Hp} {r : Rg} {S : Sto}
theorem eqS_scal {x y : D} {vx vy : V} {b : Bool} (hx : Rep K H r x vx) (hy : Rep K H r y vy) (e : eqS x y = some b) : scal vx vy = true ∧ decide (vx = vy) = b := by
  unfold eqS at e
  split at e <;> first | (cases e; done) | (cases hx; cases hy; cases e; refine ⟨rfl, ?_⟩; simp)
theorem eqE_rep {x y : D} {vx vy : V} {b : Bool} (m : Sim K ca H r S) (hx : Rep K H r x vx) (hy : Rep K H r y vy) (e : eqE S x y = some b) : b = false ∧ ∃ a c xs, vx = .ref a ∧ vy = .ref c ∧ SqL K H a xs ∧ SqL K H c [] ∧ xs ≠ [] := by
  unfold eqE at e
  split at e
  · rename_i z zs e1
    cases e
    obtain ⟨a, vs, rfl, h1, s1⟩ := asLF_rep m hx e1
    cases hy with
    | lst h2 _ _ s2 =>
      have := s2.nil_of; subst this
      exact ⟨rfl, _, _, _, rfl, rfl, h1, .of h2, fun z => by have := s1.nil_iff.mp z; cases this⟩
  · cases e
theorem eqZ_rep : ∀ {xs ys : List D} {vs us : List V} {b : Bool}, Reps K H r xs vs → Reps K H r ys us → eqZ xs ys = some b → ScZ vs us b
  | [], [], _, _, b, .nil, .nil, e => by simp only [eqZ] at e; cases e; exact .nn
  | [], _ :: _, _, _, b, .nil, .cons _ _, e => by simp only [eqZ] at e; cases e; exact .nc _ _
  | _ :: _, [], _, _, b, .cons _ _, .nil, e => by simp only [eqZ] at e; cases e; exact .cn _ _
  | x :: xs, y :: ys, _, _, b, .cons h1 t1, .cons h2 t2, e => by
    simp only [eqZ] at e
    split at e
    · rename_i b1 c1 e1 e2
      cases e
      obtain ⟨s1, s2⟩ := eqS_scal h1 h2 e1
      rw [← s2]
      refine .cc s1 (fun c z => ?_) (eqZ_rep t1 t2 e2)
      subst z
      cases h1
    · cases e
theorem eqT_rep {x y : D} {vx vy : V} {b : Bool} (hx : Rep K H r x vx) (hy : Rep K H r y vy) (e : eqT x y = some b) : ∃ a c xs ys, vx = .ref a ∧ vy = .ref c ∧ SqT K H a xs ∧ SqT K H c ys ∧ ScZ xs ys b := by
  unfold eqT at e
  split at e
  · cases hx with
    | tup h1 s1 =>
      cases hy with
      | tup h2 s2 => exact ⟨_, _, _, _, rfl, rfl, h1, h2, eqZ_rep s1 s2 e⟩
  · cases e
theorem oz_eq : OpZ K ca (rEqA K) eqD := by
  intro H r S x y vx vy d Q m hx hy e q
  unfold eqD at e
  rw [Option.map_eq_some_iff] at e
  obtain ⟨b, e, rfl⟩ := e
  have q' := q _ _ (Ext.refl ..) m (.bl b)
  unfold eqP at e
  split at e
  · rename_i b' e1
    cases e
    obtain ⟨h1, h2⟩ := eqS_scal hx hy e1
    exact .inl ⟨h1, by rw [h2]; exact q'⟩
  · split at e
    · rename_i b' e1
      cases e
      obtain ⟨rfl, a, c, xs, h1, h2, h3, h4, h5⟩ := eqE_rep m hx hy e1
      exact .inr (.inl ⟨a, c, xs, h1, h2, h3, h4, h5, q'⟩)
    · split at e
      · rename_i b' e1
        cases e
        obtain ⟨a, c, xs, ys, h1, h2, h3, h4, h5⟩ := eqT_rep hx hy e1
        exact .inr (.inr (.inl ⟨a, c, xs, ys, _, h1, h2, h3, h4, h5, q'⟩))
      · split at e
        · rename_i p p' e1 e2
          split at e
          · rename_i hs
            cases e
            exact .inr (.inr (.inr ⟨p, p', toP_dp m hx e1, toP_dp m hy e2, hs.1, hs.2, q'⟩))
          · cases e
        · cases e
theorem oz_ne : OpZ K ca (rNeA K) neD := by
  intro H r S x y vx vy d Q m hx hy e q
  unfold neD at e
  rw [Option.map_eq_some_iff] at e
  obtain ⟨b, e, rfl⟩ := e
  have q' := q _ _ (Ext.refl ..) m (.bl (!b))
  unfold eqP at e
  split at e
  · rename_i b' e1
    cases e
    obtain ⟨h1, h2⟩ := eqS_scal hx hy e1
    exact .inl ⟨h1, by rw [h2]; exact q'⟩
  · split at e
    · rename_i b' e1
      cases e
      obtain ⟨rfl, a, c, xs, h1, h2, h3, h4, h5⟩ := eqE_rep m hx hy e1
      exact .inr (.inl ⟨a, c, xs, h1, h2, h3, h4, h5, q'⟩)
    · split at e
      · rename_i b' e1
        cases e
        obtain ⟨a, c, xs, ys, h1, h2, h3, h4, h5⟩ := eqT_rep hx hy e1
        exact .inr (.inr (.inl ⟨a, c, xs, ys, _, h1, h2, h3, h4, h5, q'⟩))
      · split at e
        · rename_i p p' e1 e2
          split at e
          · rename_i hs
            cases e
            exact .inr (.inr (.inr ⟨p, p', toP_dp m hx e1, toP_dp m hy e2, hs.1, hs.2, q'⟩))
          · cases e
        · cases e
end
end Z

/-! Z layer, part D: in, subscripts, slices, truth, isinstance, built-in functions. -/
namespace Z
open PySem PySem.Spec PyProof.Rows L2

/-! ### in -/
def flatD : D → Bool
  | .non => true
  | .bl _ => true
  | .int _ => true
  | .str _ => true
  | _ => false
def eqF : D → D → Bool
  | .non, .non => true
  | .bl a, .bl b => a == b
  | .bl a, .int b => (if a then 1 else 0) == b
  | .int a, .bl b => a == (if b then 1 else 0)
  | .int a, .int b => a == b
  | .str a, .str b => a == b
  | _, _ => false
def inP (S : Sto) (x y : D) : Option Bool := match x, y with
  | .str ⟨⟨[c]⟩⟩, .str z => some (decide (c ∈ z.cps.toList))
  | .str i, .str j => some (!(Builtin.Str.occurrences j i 0 j.length 1).isEmpty)
  | x, y => match asQ S y with
    | some ds => if flatD x && ds.all flatD then some (ds.any fun d => eqF d x) else none
    | none => none
def inD (S : Sto) (x y : D) : Option D := (inP S x y).map .bl
def notInD (S : Sto) (x y : D) : Option D := (inP S x y).map fun b => .bl (!b)
def rSign (neg : Bool) : R2 := fun x y H Q => ∃ (c : Nat) (z : Str), x = .str ⟨#[c]⟩ ∧ y = .str z ∧ Q (.bl (if neg then !decide (c ∈ z.cps.toList) else decide (c ∈ z.cps.toList))) H
def rOcc (neg : Bool) : R2 := fun x y H Q => ∃ i j, x = .str i ∧ y = .str j ∧ Q (.bl (if neg then !(!(Builtin.Str.occurrences j i 0 j.length 1).isEmpty) else !(Builtin.Str.occurrences j i 0 j.length 1).isEmpty)) H
def rInA (K : PySem.W.Frag) (neg : Bool) : R2 := rOr (rSign neg) (rOr (rOcc neg) (rIn K neg))
theorem or_in {X : Cx} : OpR X (compareOp .In) (rInA X.K false) := op_in_sign.or (op_in_str.or op_in_seq)
theorem or_notIn {X : Cx} : OpR X (compareOp .NotIn) (rInA X.K true) := op_notIn_sign.or (op_notin_str.or op_notIn_seq)
section
variable {K : PySem.W.Frag} {ca : Nat → Addr} {H : Hp} {r : Rg} {S : Sto}
theorem flat_rep {x : D} {v : V} (h : Rep K H r x v) (f : flatD x = true) : flatV v = true := by
  cases h <;> first | rfl | (simp [flatD] at f)
theorem flats_rep : ∀ {ds : List D} {vs : List V}, Reps K H r ds vs → ds.all flatD = true → vs.all flatV = true
  | _, _, .nil, _ => rfl
  | _, _, .cons h hs, f => by
    rw [List.all_cons, Bool.and_eq_true] at f ⊢
    exact ⟨flat_rep h f.1, flats_rep hs f.2⟩
theorem eqF_rep {x y : D} {v u : V} (h : Rep K H r x v) (h' : Rep K H r y u) (f : flatD x = true) (f' : flatD y = true) : eqV v u = eqF x y := by
  cases h <;> first | (simp [flatD] at f; done) | (cases h' <;> first | rfl | (simp [flatD] at f'; done))
theorem any_rep {x : D} {u : V} (h' : Rep K H r x u) (f' : flatD x = true) : ∀ {ds : List D} {vs : List V}, Reps K H r ds vs → ds.all flatD = true → inV u vs = ds.any fun d => eqF d x
  | _, _, .nil, _ => rfl
  | _, _, .cons h hs, f => by
    rw [List.all_cons, Bool.and_eq_true] at f
    have ih := any_rep h' f' hs f.2
    unfold inV at ih ⊢
    rw [List.any_cons, List.any_cons, ih, eqF_rep h h' f.1 f']
theorem oz_inB {neg b : Bool} {x y : D} {vx vy : V} {Q : VK} (m : Sim K ca H r S) (hx : Rep K H r x vx) (hy : Rep K H r y vy) (e : inP S x y = some b) (q : Q (.bl (if neg then !b else b)) H) : rInA K neg vx vy H Q := by
  unfold inP at e
  split at e
  · rename_i c z; cases hx; cases hy; cases e; exact .inl ⟨c, z, rfl, rfl, q⟩
  · cases hx; cases hy; cases e; exact .inr (.inl ⟨_, _, rfl, rfl, q⟩)
  · split at e
    · rename_i ds e1
      split at e
      · rename_i f
        rw [Bool.and_eq_true] at f
        cases e
        obtain ⟨a, vs, rfl, h1, s1⟩ := asQ_rep m hy e1
        refine .inr (.inr ⟨a, vs, rfl, h1, flat_rep hx f.1, flats_rep s1 f.2, ?_⟩)
        rw [any_rep hx f.1 s1 f.2]
        exact q
      · cases e
    · cases e
theorem oz_in : OpZ K ca (rInA K false) inD := by
  intro H r S x y vx vy d Q m hx hy e q
  unfold inD at e
  rw [Option.map_eq_some_iff] at e
  obtain ⟨b, e, rfl⟩ := e
  exact oz_inB m hx hy e (q _ _ (Ext.refl ..) m (.bl b))
theorem oz_notIn : OpZ K ca (rInA K true) notInD := by
  intro H r S x y vx vy d Q m hx hy e q
  unfold notInD at e
  rw [Option.map_eq_some_iff] at e
  obtain ⟨b, e, rfl⟩ := e
  exact oz_inB m hx hy e (q _ _ (Ext.refl ..) m (.bl (!b)))

/-! ### items -/
theorem Reps.atI {ds : List D} {vs : List V} {i : Int} {d : D} (h : Reps K H r ds vs) (e : L2.atI ds i = some d) : ∃ v, L2.atI vs i = some v ∧ Rep K H r d v := by
  unfold L2.atI at e ⊢
  rw [h.length] at e
  cases q : ixN vs.length i with
  | none => rw [q] at e; cases e
  | some j =>
    rw [q] at e
    exact h.get (show ds[j]? = some d from e)
end
def ixP (S : Sto) (x y : D) : Option D := match x, y with
  | .str z, .int i => if z.length ≤ 16777216 then (L2.atI z.cps.toList i).map fun c => .str ⟨#[c]⟩ else none
  | x, .int i => match asQ S x with
    | some ds => L2.atI ds i
    | none => none
  | _, _ => none
section
variable {K : PySem.W.Frag} {ca : Nat → Addr} {H : Hp} {r : Rg} {S : Sto}
theorem oz_ix : OpZ K ca (rIx K) ixP := by
  intro H r S x y vx vy d Q m hx hy e q
  unfold ixP at e
  split at e
  · rename_i z i
    cases hx; cases hy
    split at e
    · rename_i hl
      rw [Option.map_eq_some_iff] at e
      obtain ⟨c, e, rfl⟩ := e
      exact .inr (.inr ⟨z, i, c, rfl, rfl, by rw [sizeLine_eq]; exact hl, e, q _ _ (Ext.refl ..) m (.str _)⟩)
    · cases e
  · split at e
    · rename_i ds e1
      cases hy
      obtain ⟨a, vs, rfl, h1, s1⟩ := asQ_rep m hx e1
      obtain ⟨v, h2, h3⟩ := s1.atI e
      rcases h1 with h1 | h1
      · exact .inl ⟨a, vs, _, v, rfl, rfl, h1, h2, q _ _ (Ext.refl ..) m h3⟩
      · exact .inr (.inl ⟨a, vs, _, v, rfl, rfl, h1, h2, q _ _ (Ext.refl ..) m h3⟩)
    · cases e
  · cases e
end

/-! ### slices -/
def cutG {α : Type} (xs : List α) (lo hi : Option Int) : List α := (xs.drop (HT.sIx xs.length 0 lo)).take (HT.sIx xs.length xs.length hi - HT.sIx xs.length 0 lo)
def slP (S : Sto) (x : D) (lo hi : Option Int) : Option D := match x with
  | .str z => if z.length ≤ 16777216 then some (.str (cutS z lo hi)) else none
  | .tup xs => some (.tup (cutG xs lo hi))
  | x => (asLF S x).map fun ds => .lst (cutG ds lo hi)
def rSlAll (K : PySem.W.Frag) : V → Option Int → Option Int → Hp → VK → Prop := fun x lo hi H Q => rSlS x lo hi H Q ∨ (rSlA K x lo hi H Q ∨ rSlL K x lo hi H Q)
theorem or_sl {X : Cx} : SlR X (rSlAll X.K) := sl_str.or (sl_tupA.or sl_list)
section
variable {K : PySem.W.Frag} {ca : Nat → Addr} {H : Hp} {r : Rg} {S : Sto}
theorem Reps.cut {ds : List D} {vs : List V} (h : Reps K H r ds vs) (lo hi : Option Int) : Reps K H r (cutG ds lo hi) (cutV vs lo hi) := by
  unfold cutG cutV
  rw [h.length]
  exact (h.drop _).take _
theorem cutG_whole {α : Type} {xs : List α} {lo hi : Option Int} (h : HT.sIx xs.length 0 lo = 0 ∧ HT.sIx xs.length xs.length hi = xs.length) : cutG xs lo hi = xs := by
  unfold cutG
  rw [h.1, h.2]
  simp
theorem oz_sl {x : D} {vx : V} {d : D} {lo hi : Option Int} {Q : VK} (m : Sim K ca H r S) (hx : Rep K H r x vx) (e : slP S x lo hi = some d)
    (q : ∀ v H', Ext H r H' r → Sim K ca H' r S → Rep K H' r d v → Q v H') : rSlAll K vx lo hi H Q := by
  unfold slP at e
  split at e
  · cases hx
    split at e
    · rename_i hl
      cases e
      exact .inl ⟨_, rfl, by rw [sizeLine_eq]; exact hl, q _ _ (Ext.refl ..) m (.str _)⟩
    · cases e
  · cases hx with
    | tup h1 s1 =>
      cases e
      refine .inr (.inl ⟨_, _, rfl, h1, fun hw => ?_, fun _ p hp => q _ _ (Ext.new hp) (m.new hp) (newTup hp (s1.cut lo hi))⟩)
      rw [← s1.length] at hw
      rw [cutG_whole hw] at q
      exact q _ _ (Ext.refl ..) m (.tup h1 s1)
  · rw [Option.map_eq_some_iff] at e
    obtain ⟨ds, e1, rfl⟩ := e
    obtain ⟨a, vs, rfl, h1, s1⟩ := asLF_rep m hx e1
    exact .inr (.inr ⟨a, vs, rfl, h1, fun p hp => q _ _ (Ext.new hp) (m.new hp) (newLst m hp (s1.cut lo hi))⟩)
end

/-! ### truth, len -/
def truP (S : Sto) (x : D) : Option Bool := match x with
  | .non => some false
  | .bl b => some b
  | .int i => some (i != 0)
  | .str y => if y.length ≤ 16777216 then some ((y.length : Int) != 0) else none
  | x => (asQ S x).map fun ds => !ds.isEmpty
def lenP (S : Sto) (x : D) : Option Nat := match x with
  | .str y => if y.length ≤ 16777216 then some y.length else none
  | x => (asQ S x).map List.length
section
variable {K : PySem.W.Frag} {ca : Nat → Addr} {H : Hp} {r : Rg} {S : Sto}
theorem tru_rep {x : D} {v : V} {b : Bool} (m : Sim K ca H r S) (hx : Rep K H r x v) (e : truP S x = some b) : TruV K v H b := by
  unfold truP at e
  split at e
  · cases hx; cases e; rfl
  · cases hx; cases e; rfl
  · cases hx; cases e; rfl
  · cases hx
    split at e
    · rename_i hl; cases e; exact ⟨by rw [sizeLine_eq]; exact hl, rfl⟩
    · cases e
  · rw [Option.map_eq_some_iff] at e
    obtain ⟨ds, e1, rfl⟩ := e
    obtain ⟨a, vs, rfl, h1, s1⟩ := asQ_rep m hx e1
    have he : (!ds.isEmpty) = !vs.isEmpty := by cases s1 <;> rfl
    rcases h1 with h1 | h1
    · exact .inl ⟨vs, h1, he⟩
    · exact .inr (.inl ⟨vs, h1, he⟩)
theorem len_rep {x : D} {v : V} {n : Nat} (m : Sim K ca H r S) (hx : Rep K H r x v) (e : lenP S x = some n) : LenV K v H n := by
  unfold lenP at e
  split at e
  · cases hx
    split at e
    · rename_i hl; cases e; exact ⟨by rw [sizeLine_eq]; exact hl, rfl⟩
    · cases e
  · rw [Option.map_eq_some_iff] at e
    obtain ⟨ds, e1, rfl⟩ := e
    obtain ⟨a, vs, rfl, h1, s1⟩ := asQ_rep m hx e1
    rcases h1 with h1 | h1
    · exact .inl ⟨vs, h1, s1.length⟩
    · exact .inr ⟨vs, h1, s1.length⟩
end

/-! ### isinstance -/
def tyN (S : Sto) (x : D) : Option String := match x with
  | .non => some "NoneType"
  | .bl _ => some "bool"
  | .int _ => some "int"
  | .str _ => some "str"
  | .tup _ => some "tuple"
  | .lst _ => some "list"
  | .fro _ => some "list"
  | .loc n => match S[n]? with
    | some (.lst _) => some "list"
    | some (.dic _) => some "dict"
    | some (.dit _) => some "dict"
    | _ => none
/-- built-in classes that are asked for -/
inductive Ty where
  | int | bool | str | tuple | list
def Ty.nm : Ty → String
  | .int => "int" | .bool => "bool" | .str => "str" | .tuple => "tuple" | .list => "list"
def isTab (n : String) (t : Ty) : Option Bool :=
  if n = "NoneType" then some false
  else if n = "bool" then some (match t with | .bool => true | .int => true | _ => false)
  else if n = "int" then some (match t with | .int => true | _ => false)
  else if n = "str" then some (match t with | .str => true | _ => false)
  else if n = "tuple" then some (match t with | .tuple => true | _ => false)
  else if n = "list" then some (match t with | .list => true | _ => false)
  else if n = "dict" then some false
  else none
def isiD (S : Sto) (x : D) (t : Ty) : Option Bool := match x with
  | .non => some false
  | .bl _ => some (match t with | .bool => true | .int => true | _ => false)
  | .int _ => some (match t with | .int => true | _ => false)
  | .str _ => some (match t with | .str => true | _ => false)
  | .tup _ => some (match t with | .tuple => true | _ => false)
  | .lst _ => some (match t with | .list => true | _ => false)
  | .fro _ => some (match t with | .list => true | _ => false)
  | .loc n => match S[n]? with
    | some (.lst _) => some (match t with | .list => true | _ => false)
    | some (.dic _) => some false
    | some (.dit _) => some false
    | _ => none
theorem kit_tab : ∀ n ∈ ["NoneType", "bool", "int", "str", "tuple", "list", "dict"], ∀ t : Ty, kitB n t.nm = isTab n t := by
  intro n hn t
  simp only [List.mem_cons, List.not_mem_nil, or_false] at hn
  rcases hn with rfl | rfl | rfl | rfl | rfl | rfl | rfl <;> cases t <;> decide +kernel
section
variable {K : PySem.W.Frag} {ca : Nat → Addr} {H : Hp} {r : Rg} {S : Sto}
theorem SqT.tyx {a : Addr} {xs : List V} (h : SqT K H a xs) : TyX K H (.ref a) (.type "tuple") := by
  rcases h with (h | ⟨o, h⟩) | ⟨o, its, n, h, c, _⟩
  · exact .base (.tup h)
  · exact .fTuple h
  · exact .kTuple h c
theorem FL.tyx {a : Addr} {xs : List V} (h : FL K H a xs) : TyX K H (.ref a) (.type "list") := by
  rcases h with ⟨o, h⟩ | ⟨o, its, n, h, c, _⟩
  · exact .base (.frz h)
  · exact .kList h c
theorem isi_rep {x : D} {v : V} {t : Ty} {b : Bool} (m : Sim K ca H r S) (hx : Rep K H r x v) (e : isiD S x t = some b) : ∃ n, TyX K H v (.type n) ∧ PySem.W.kitOne K (.type n) (.type t.nm) = some b := by
  cases hx with
  | non => exact ⟨_, .base .non, kit_ty (by rw [kit_tab _ (by simp)]; exact e)⟩
  | bl y => exact ⟨_, .base (.bl y), kit_ty (by rw [kit_tab _ (by simp)]; exact e)⟩
  | int y => exact ⟨_, .base (.int y), kit_ty (by rw [kit_tab _ (by simp)]; exact e)⟩
  | str y => exact ⟨_, .base (.str y), kit_ty (by rw [kit_tab _ (by simp)]; exact e)⟩
  | tup h _ => exact ⟨_, SqT.tyx h, kit_ty (by rw [kit_tab _ (by simp)]; exact e)⟩
  | lst h _ _ _ => exact ⟨_, .base (.lst h), kit_ty (by rw [kit_tab _ (by simp)]; exact e)⟩
  | fro h _ => exact ⟨_, FL.tyx h, kit_ty (by rw [kit_tab _ (by simp)]; exact e)⟩
  | @loc n a h =>
    simp only [isiD] at e
    split at e
    · rename_i xs he
      obtain ⟨b', h1, vs, h2, _⟩ := m.obj n _ he
      rw [h] at h1; cases h1
      exact ⟨_, .base (.lst h2), kit_ty (by rw [kit_tab _ (by simp)]; exact e)⟩
    · rename_i xs he
      obtain ⟨b', h1, vs, h2, _⟩ := m.obj n _ he
      rw [h] at h1; cases h1
      exact ⟨_, .base (.dK h2), kit_ty (by rw [kit_tab _ (by simp)]; exact e)⟩
    · rename_i xs he
      obtain ⟨b', h1, vs, h2, _⟩ := m.obj n _ he
      rw [h] at h1; cases h1
      exact ⟨_, .base (.dT h2), kit_ty (by rw [kit_tab _ (by simp)]; exact e)⟩
    · cases e
theorem isi_rep2 {x : D} {v : V} {t t' : Ty} {b b' : Bool} (m : Sim K ca H r S) (hx : Rep K H r x v) (e : isiD S x t = some b) (e' : isiD S x t' = some b') : ∃ n, TyX K H v (.type n) ∧ PySem.W.kitAny K (.type n) [.type t.nm, .type t'.nm] = some (b || b') := by
  have key : ∀ n : String, n ∈ ["NoneType", "bool", "int", "str", "tuple", "list", "dict"] → isTab n t = some b → isTab n t' = some b' → PySem.W.kitAny K (.type n) [.type t.nm, .type t'.nm] = some (b || b') := fun n hn h1 h2 => by
    refine kitAny_cons (b := b) (kit_ty (by rw [kit_tab _ hn]; exact h1)) (fun hb => kitAny_cons (b := b') (kit_ty (by rw [kit_tab _ hn]; exact h2)) (fun hb' => by rw [hb, hb']; rfl) (fun hb' => by rw [hb, hb']; rfl)) (fun hb => by rw [hb]; rfl)
  cases hx with
  | non => exact ⟨_, .base .non, key _ (by simp) e e'⟩
  | bl y => exact ⟨_, .base (.bl y), key _ (by simp) e e'⟩
  | int y => exact ⟨_, .base (.int y), key _ (by simp) e e'⟩
  | str y => exact ⟨_, .base (.str y), key _ (by simp) e e'⟩
  | tup h _ => exact ⟨_, SqT.tyx h, key _ (by simp) e e'⟩
  | lst h _ _ _ => exact ⟨_, .base (.lst h), key _ (by simp) e e'⟩
  | fro h _ => exact ⟨_, FL.tyx h, key _ (by simp) e e'⟩
  | @loc n a h =>
    simp only [isiD] at e e'
    split at e
    · rename_i xs he
      obtain ⟨b', h1, vs, h2, _⟩ := m.obj n _ he
      rw [h] at h1; cases h1
      simp only [he] at e'
      exact ⟨_, .base (.lst h2), key _ (by simp) e e'⟩
    · rename_i xs he
      obtain ⟨b', h1, vs, h2, _⟩ := m.obj n _ he
      rw [h] at h1; cases h1
      simp only [he] at e'
      exact ⟨_, .base (.dK h2), key _ (by simp) e e'⟩
    · rename_i xs he
      obtain ⟨b', h1, vs, h2, _⟩ := m.obj n _ he
      rw [h] at h1; cases h1
      simp only [he] at e'
      exact ⟨_, .base (.dT h2), key _ (by simp) e e'⟩
    · cases e
end
/-! ### sum, max, min of lists of intsOf -/
def intsOf : List D → Option (List Int)
  | [] => some []
  | .int i :: ds => (intsOf ds).map (i :: ·)
  | _ => none
def sumD (S : Sto) (x : D) : Option D := match asLF S x with
  | some ds => (intsOf ds).map fun is => .int is.sum
  | none => none
def maxL : List Int → Int
  | [] => 0
  | i :: is => is.foldl (fun m j => if j > m then j else m) i
def minL : List Int → Int
  | [] => 0
  | i :: is => is.foldl (fun m j => if j < m then j else m) i
def max1D (S : Sto) (x : D) : Option D := match asLF S x with
  | some ds => match intsOf ds with
    | some (i :: is) => some (.int (maxL (i :: is)))
    | _ => none
  | none => none
def min1D (S : Sto) (x : D) : Option D := match asLF S x with
  | some ds => match intsOf ds with
    | some (i :: is) => some (.int (minL (i :: is)))
    | _ => none
  | none => none
theorem foldl_max (is : List Int) : ∀ i : Int, (is.foldl (fun m j => if j > m then j else m) i) ∈ i :: is ∧ ∀ y ∈ i :: is, y ≤ is.foldl (fun m j => if j > m then j else m) i := by
  induction is with
  | nil => intro i; simp
  | cons j is ih =>
    intro i
    rw [List.foldl_cons]
    obtain ⟨h1, h2⟩ := ih (if j > i then j else i)
    refine ⟨?_, fun y hy => ?_⟩
    · rcases List.mem_cons.mp h1 with h | h
      · rw [h]; split <;> simp
      · simp [h]
    · have h3 := h2 (if j > i then j else i) (by simp)
      have h4 : i ≤ (if j > i then j else i) ∧ j ≤ (if j > i then j else i) := by split <;> omega
      generalize (if j > i then j else i) = t at h3 h4 h2
      rcases List.mem_cons.mp hy with rfl | hy
      · omega
      · rcases List.mem_cons.mp hy with rfl | hy
        · omega
        · exact h2 y (by simp [hy])
theorem foldl_min (is : List Int) : ∀ i : Int, (is.foldl (fun m j => if j < m then j else m) i) ∈ i :: is ∧ ∀ y ∈ i :: is, is.foldl (fun m j => if j < m then j else m) i ≤ y := by
  induction is with
  | nil => intro i; simp
  | cons j is ih =>
    intro i
    rw [List.foldl_cons]
    obtain ⟨h1, h2⟩ := ih (if j < i then j else i)
    refine ⟨?_, fun y hy => ?_⟩
    · rcases List.mem_cons.mp h1 with h | h
      · rw [h]; split <;> simp
      · simp [h]
    · have h3 := h2 (if j < i then j else i) (by simp)
      have h4 : (if j < i then j else i) ≤ i ∧ (if j < i then j else i) ≤ j := by split <;> omega
      generalize (if j < i then j else i) = t at h3 h4 h2
      rcases List.mem_cons.mp hy with rfl | hy
      · omega
      · rcases List.mem_cons.mp hy with rfl | hy
        · omega
        · exact h2 y (by simp [hy])
section
variable {K : PySem.W.Frag} {ca : Nat → Addr} {H : Hp} {r : Rg} {S : Sto}
theorem ints_rep : ∀ {ds : List D} {vs : List V} {is : List Int}, Reps K H r ds vs → intsOf ds = some is → vs = is.map V.int
  | _, _, _, .nil, e => by simp only [intsOf] at e; cases e; rfl
  | _, _, _, .cons h hs, e => by
    cases h with
    | int i =>
      simp only [intsOf, Option.map_eq_some_iff] at e
      obtain ⟨is, e1, rfl⟩ := e
      rw [ints_rep hs e1]; rfl
    | _ => cases e
end

/-! ### built-in functions -/
def call1 (f : Sto → D → Option D) (S : Sto) (xs : List D) : Option D := match xs with
  | [x] => f S x
  | _ => none
def lenD (S : Sto) (x : D) : Option D := (lenP S x).map fun (n : Nat) => D.int (n : Int)
def absD (_ : Sto) (x : D) : Option D := match x with
  | .int i => some (.int (if i < 0 then -i else i))
  | _ => none
def intD (_ : Sto) (x : D) : Option D := match x with
  | .int i => some (.int i)
  | .bl k => some (.int (if k then 1 else 0))
  | .str a => match PySem.intText? a with
    | some n => if a.length ≤ 640 then some (.int n) else none
    | none => none
  | _ => none
def strD (_ : Sto) (x : D) : Option D := match x with
  | .int i => if i.natAbs.log2 < 1920 then some (.str (toString i)) else none
  | _ => none
def tupD (S : Sto) (x : D) : Option D := match x with
  | .tup xs => some (.tup xs)
  | x => (asLF S x).map .tup
def lstD (S : Sto) (x : D) : Option D := (asQ S x).map .lst
def max2D (_ : Sto) (xs : List D) : Option D := match xs with
  | [.int i, .int j] => some (.int (if j > i then j else i))
  | _ => none
def min2D (_ : Sto) (xs : List D) : Option D := match xs with
  | [.int i, .int j] => some (.int (if j < i then j else i))
  | _ => none
def rLen1 (K : PySem.W.Frag) : List V → Hp → VK → Prop := fun xs H Q => ∃ (x : V) (n : Nat), xs = [x] ∧ LenV K x H n ∧ Q (.int n) H
def rInt1 : List V → Hp → VK → Prop := fun xs H Q => ((∃ i, xs = [.int i] ∧ Q (.int i) H) ∨ ∃ k, xs = [.bl k] ∧ Q (.int (if k then 1 else 0)) H) ∨ ∃ a n, xs = [.str a] ∧ PySem.intText? a = some n ∧ a.length ≤ 640 ∧ Q (.int n) H
theorem or_int {X : Cx} : CallR X (.type "int") rInt1 := call_int1.or call_int_str
section
variable {K : PySem.W.Frag} {ca : Nat → Addr}
theorem cz_sum : CallZ K ca (rSum K) (call1 sumD) := by
  intro H r S xs vs d Q m hx e q
  unfold call1 at e
  split at e
  · unfold sumD at e
    split at e
    · rename_i ds e1
      rw [Option.map_eq_some_iff] at e
      obtain ⟨is, e2, rfl⟩ := e
      cases hx with
      | cons h t =>
        cases t
        obtain ⟨a, vs, rfl, h1, s1⟩ := asLF_rep m h e1
        have := ints_rep s1 e2
        subst this
        exact ⟨a, is, rfl, h1, q _ _ (Ext.refl ..) m (.int _)⟩
    · cases e
  · cases e
theorem cz_max1 : CallZ K ca (rMax K) (call1 max1D) := by
  intro H r S xs vs d Q m hx e q
  unfold call1 at e
  split at e
  · unfold max1D at e
    split at e
    · rename_i ds e1
      split at e
      · rename_i i is e2
        cases e
        cases hx with
        | cons h t =>
          cases t
          obtain ⟨a, vs, rfl, h1, s1⟩ := asLF_rep m h e1
          have := ints_rep s1 e2
          subst this
          obtain ⟨g1, g2⟩ := foldl_max is i
          refine ⟨a, i :: is, rfl, h1, by simp, fun y hy hb => ?_⟩
          have ey : y = maxL (i :: is) := Int.le_antisymm (g2 y hy) (hb _ g1)
          subst ey
          exact q _ _ (Ext.refl ..) m (.int _)
      · cases e
    · cases e
  · cases e
theorem cz_min1 : CallZ K ca (rMin K) (call1 min1D) := by
  intro H r S xs vs d Q m hx e q
  unfold call1 at e
  split at e
  · unfold min1D at e
    split at e
    · rename_i ds e1
      split at e
      · rename_i i is e2
        cases e
        cases hx with
        | cons h t =>
          cases t
          obtain ⟨a, vs, rfl, h1, s1⟩ := asLF_rep m h e1
          have := ints_rep s1 e2
          subst this
          obtain ⟨g1, g2⟩ := foldl_min is i
          refine ⟨a, i :: is, rfl, h1, by simp, fun y hy hb => ?_⟩
          have ey : y = minL (i :: is) := Int.le_antisymm (hb _ g1) (g2 y hy)
          subst ey
          exact q _ _ (Ext.refl ..) m (.int _)
      · cases e
    · cases e
  · cases e
theorem cz_len : CallZ K ca (rLen1 K) (call1 lenD) := by
  intro H r S xs vs d Q m hs e q
  unfold call1 at e
  split at e
  · unfold lenD at e
    rw [Option.map_eq_some_iff] at e
    obtain ⟨n, e, rfl⟩ := e
    cases hs with
    | cons h hs =>
      cases hs
      exact ⟨_, n, rfl, len_rep m h e, q _ _ (Ext.refl ..) m (.int _)⟩
  · cases e
theorem cz_abs : CallZ K ca (fun xs H Q => ∃ i, xs = [.int i] ∧ Q (.int (if i < 0 then -i else i)) H) (call1 absD) := by
  intro H r S xs vs d Q m hs e q
  unfold call1 at e
  split at e
  · unfold absD at e
    split at e
    · cases e
      cases hs with
      | cons h hs =>
        cases hs; cases h
        exact ⟨_, rfl, q _ _ (Ext.refl ..) m (.int _)⟩
    · cases e
  · cases e
theorem cz_int : CallZ K ca rInt1 (call1 intD) := by
  intro H r S xs vs d Q m hs e q
  unfold call1 at e
  split at e
  · cases hs with
    | cons h hs =>
      cases hs
      unfold intD at e
      split at e
      · cases h; cases e; exact .inl (.inl ⟨_, rfl, q _ _ (Ext.refl ..) m (.int _)⟩)
      · cases h; cases e; exact .inl (.inr ⟨_, rfl, q _ _ (Ext.refl ..) m (.int _)⟩)
      · split at e
        · rename_i n hn
          split at e
          · rename_i hl
            cases h; cases e; exact .inr ⟨_, n, rfl, hn, hl, q _ _ (Ext.refl ..) m (.int _)⟩
          · cases e
        · cases e
      · cases e
  · cases e
theorem cz_str : CallZ K ca (fun xs H Q => ∃ i, xs = [.int i] ∧ i.natAbs.log2 < 1920 ∧ Q (.str (toString i)) H) (call1 strD) := by
  intro H r S xs vs d Q m hs e q
  unfold call1 at e
  split at e
  · unfold strD at e
    split at e
    · split at e
      · rename_i hl
        cases e
        cases hs with
        | cons h hs =>
          cases hs; cases h
          exact ⟨_, rfl, hl, q _ _ (Ext.refl ..) m (.str _)⟩
      · cases e
    · cases e
  · cases e
theorem cz_tup : CallZ K ca (fun xs H Q => ∃ p ys, xs = [.ref p] ∧ ((SqL K H p ys ∧ ∀ l, H l = none → Q (.ref l) (upd H l (.tup ys))) ∨ (SqT K H p ys ∧ Q (.ref p) H))) (call1 tupD) := by
  intro H r S xs vs d Q m hs e q
  unfold call1 at e
  split at e
  · cases hs with
    | cons h hs =>
      cases hs
      unfold tupD at e
      split at e
      · cases e
        cases h with
        | tup h1 s1 => exact ⟨_, _, rfl, .inr ⟨h1, q _ _ (Ext.refl ..) m (.tup h1 s1)⟩⟩
      · rw [Option.map_eq_some_iff] at e
        obtain ⟨ds, e1, rfl⟩ := e
        obtain ⟨a, us, rfl, h1, s1⟩ := asLF_rep m h e1
        exact ⟨a, us, rfl, .inl ⟨h1, fun p hp => q _ _ (Ext.new hp) (m.new hp) (newTup hp s1)⟩⟩
  · cases e
theorem cz_lst : CallZ K ca (fun xs H Q => ∃ p ys, xs = [.ref p] ∧ (SqL K H p ys ∨ SqT K H p ys) ∧ ∀ l, H l = none → Q (.ref l) (upd H l (.lst ys))) (call1 lstD) := by
  intro H r S xs vs d Q m hs e q
  unfold call1 at e
  split at e
  · cases hs with
    | cons h hs =>
      cases hs
      unfold lstD at e
      rw [Option.map_eq_some_iff] at e
      obtain ⟨ds, e1, rfl⟩ := e
      obtain ⟨a, us, rfl, h1, s1⟩ := asQ_rep m h e1
      exact ⟨a, us, rfl, h1, fun p hp => q _ _ (Ext.new hp) (m.new hp) (newLst m hp s1)⟩
  · cases e
theorem cz_max2 : CallZ K ca (fun xs H Q => ∃ i j, xs = [.int i, .int j] ∧ Q (.int (if j > i then j else i)) H) max2D := by
  intro H r S xs vs d Q m hs e q
  unfold max2D at e
  split at e
  · cases e
    cases hs with
    | cons h hs =>
      cases hs with
      | cons h2 hs => cases hs; cases h; cases h2; exact ⟨_, _, rfl, q _ _ (Ext.refl ..) m (.int _)⟩
  · cases e
theorem cz_min2 : CallZ K ca (fun xs H Q => ∃ i j, xs = [.int i, .int j] ∧ Q (.int (if j < i then j else i)) H) min2D := by
  intro H r S xs vs d Q m hs e q
  unfold min2D at e
  split at e
  · cases e
    cases hs with
    | cons h hs =>
      cases hs with
      | cons h2 hs => cases hs; cases h; cases h2; exact ⟨_, _, rfl, q _ _ (Ext.refl ..) m (.int _)⟩
  · cases e
end

/-! ### repr -/
def reprD (S : Sto) (x : D) : Option D := match toP S x with
  | some p => if p.showable = true ∧ p.hasDict = false ∧ p.depth ≤ 60 ∧ p.shown.length ≤ 16777216 then some (.str p.shown) else none
  | none => none
def rRepr (K : PySem.W.Frag) : List V → Hp → VK → Prop := fun xs H Q => ∃ x p, xs = [x] ∧ Dp K H x p ∧ p.showable = true ∧ p.hasDict = false ∧ p.depth ≤ 60 ∧ p.shown.length ≤ sizeLine ∧ Q (.str p.shown) H
theorem cr_repr {X : Cx} (hg : X.A.guards = some []) (hu : X.A.units + 64 < cLine) : CallR X (.builtin "repr") (rRepr X.K) := by
  intro pins s σ H xs us Q I rv h
  obtain ⟨x, p, rfl, hd, h1, h2, h3, h4, q⟩ := h
  obtain ⟨u, rfl, ru⟩ := vals1 rv
  cases hd with
  | non => cases ru; exact P.repr_of_none ⟨.str _, H, I.tok _, ⟨_, rfl⟩, by rw [show (PyData.none).shown = ("None" : Str) by simp only [PyData.shown]] at q; exact q⟩
  | bl b => cases ru; exact P.repr_of_bool ⟨.str _, H, I.tok _, ⟨_, rfl⟩, by rw [PyData.shown_bool] at q; exact q⟩
  | int i =>
    obtain ⟨t, rfl⟩ := ru
    have hs : i.natAbs.log2 < 1920 := by simpa [PyData.showable] using h1
    exact P.repr_of_int hs ⟨.str _, H, I.tok _, ⟨_, rfl⟩, by rw [PyData.shown_int] at q; exact q⟩
  | str y =>
    obtain ⟨t, rfl⟩ := ru
    rw [PyData.shown_str] at q h4
    exact P.repr_of_str ⟨.str _, H, I.tok _, ⟨_, rfl⟩, q⟩ h4
  | @lst a vs ds hq ha =>
    cases ru
    obtain ⟨as, rd⟩ := Dp.reads I _ _ (.ref a) (Dp.lst hq ha) rfl
    exact repr_of_reads' rd h1 (fun z => by rw [h2] at z; cases z) hg (by omega) (fun b o e => e) (fun h' t tk hk => ⟨.str _, H, I.kept hk, ⟨_, rfl⟩, q⟩) h4
  | @tup a vs ds hq ha =>
    cases ru
    obtain ⟨as, rd⟩ := Dp.reads I _ _ (.ref a) (Dp.tup hq ha) rfl
    exact repr_of_reads' rd h1 (fun z => by rw [h2] at z; cases z) hg (by omega) (fun b o e => e) (fun h' t tk hk => ⟨.str _, H, I.kept hk, ⟨_, rfl⟩, q⟩) h4
section
variable {K : PySem.W.Frag} {ca : Nat → Addr}
theorem cz_repr : CallZ K ca (rRepr K) (call1 reprD) := by
  intro H r S xs vs d Q m hs e q
  unfold call1 at e
  split at e
  · cases hs with
    | cons h hs =>
      cases hs
      unfold reprD at e
      split at e
      · rename_i p e1
        split at e
        · rename_i hc
          cases e
          exact ⟨_, p, rfl, toP_dp m h e1, hc.1, hc.2.1, hc.2.2.1, by rw [sizeLine_eq]; exact hc.2.2.2, q _ _ (Ext.refl ..) m (.str _)⟩
        · cases e
      · cases e
  · cases e
end
end Z

/-! Z layer, part F: expressions, one lemma a construct, over readings that are made of plain functions. -/
namespace Z
open PySem PySem.Spec PyProof.Rows L2

theorem PE.imp {X : Cx} {e : Expr} {t t' : TE} (h : PE X e t) (i : ∀ s H Q, t' s H Q → t s H Q) : PE X e t' := ⟨fun pins s σ H Q I w => h.run pins s σ H Q I (i σ H Q w)⟩
theorem PT.imp {X : Cx} {e : Expr} {t t' : TT} (h : PT X e t) (i : ∀ s H Q, t' s H Q → t s H Q) : PT X e t' := ⟨fun pins s σ H Q I w => h.run pins s σ H Q I (i σ H Q w)⟩
theorem PW.imp {X : Cx} {e : Expr} {t t' : TT} (h : PW X e t) (i : ∀ s H Q, t' s H Q → t s H Q) : PW X e t' := ⟨fun wh pins s σ H Q I w => h.run wh pins s σ H Q I (i σ H Q w)⟩
theorem PA.imp {X : Cx} {e : List Expr} {t t' : TA} (h : PA X e t) (i : ∀ s H Q, t' s H Q → t s H Q) : PA X e t' := ⟨fun pos pins s σ H Q I w => h.run pos pins s σ H Q I (i σ H Q w)⟩
theorem PO.imp {X : Cx} {e : Option Expr} {t t' : TO} (h : PO X e t) (i : ∀ s H Q, t' s H Q → t s H Q) : PO X e t' := ⟨fun pins s σ H Q I w => h.run pins s σ H Q I (i σ H Q w)⟩

abbrev M (T : Type) := Sl → Sto → Out T
def mVar (i : Nat) : M D := fun sd S => match sd[i]? with
  | some (some d) => .ok d S
  | _ => .bad
def mC (d : D) : M D := fun _ S => .ok d S
def mBin (f : Sto → D → D → Option D) (a b : M D) : M D := fun sd S => (a sd S).bind fun x S1 => (b sd S1).bind fun y S2 => lift (f S2 x y) S2
def toB (x : D) (S : Sto) : Out Bool := match x with
  | .bl k => .ok k S
  | _ => .bad
def mBl (a : M D) : M Bool := fun sd S => (a sd S).bind toB
def mTru (a : M D) : M Bool := fun sd S => (a sd S).bind fun x S1 => lift (truP S1 x) S1
def mNotT (a : M Bool) : M Bool := fun sd S => (a sd S).bind fun k S1 => .ok (!k) S1
def mAndT (a b : M Bool) : M Bool := fun sd S => (a sd S).bind fun k S1 => if k then b sd S1 else .ok false S1
def mOrT (a b : M Bool) : M Bool := fun sd S => (a sd S).bind fun k S1 => if k then .ok true S1 else b sd S1
def mNot (a : M D) : M D := fun sd S => (a sd S).bind fun x S1 => match x with
  | .bl k => .ok (.bl (!k)) S1
  | _ => .bad
def mAnd (a b : M D) : M D := fun sd S => (a sd S).bind fun x S1 => match x with
  | .bl true => b sd S1
  | .bl false => .ok (.bl false) S1
  | _ => .bad
def mOr (a b : M D) : M D := fun sd S => (a sd S).bind fun x S1 => match x with
  | .bl true => .ok (.bl true) S1
  | .bl false => b sd S1
  | _ => .bad
def mIf (t : M Bool) (a b : M D) : M D := fun sd S => (t sd S).bind fun k S1 => if k then a sd S1 else b sd S1
def mChain (f g : Sto → D → D → Option D) (a b c : M D) : M D := fun sd S => (a sd S).bind fun x S1 => (b sd S1).bind fun y S2 => (lift (f S2 x y) S2).bind fun z S3 => match z with
  | .bl true => (c sd S3).bind fun w S4 => lift (g S4 y w) S4
  | .bl false => .ok (.bl false) S3
  | _ => .bad
def mNil : M (List D) := fun _ S => .ok [] S
def mCons (a : M D) (b : M (List D)) : M (List D) := fun sd S => (a sd S).bind fun x S1 => (b sd S1).bind fun xs S2 => .ok (x :: xs) S2
def mTup (a : M (List D)) : M D := fun sd S => (a sd S).bind fun xs S1 => if xs.length ≤ 16777216 then .ok (.tup xs) S1 else .bad
def mLst (a : M (List D)) : M D := fun sd S => (a sd S).bind fun xs S1 => if xs.length ≤ 16777216 then .ok (.lst xs) S1 else .bad
def mLstM (a : M (List D)) : M D := fun sd S => (a sd S).bind fun xs S1 => if xs.length ≤ 16777216 then .ok (.loc S1.length) (S1 ++ [.lst xs]) else .bad
def mCall (f : Sto → List D → Option D) (a : M (List D)) : M D := fun sd S => (a sd S).bind fun xs S1 => lift (f S1 xs) S1
def mIsi (a : M D) (t : Ty) : M D := fun sd S => (a sd S).bind fun x S1 => lift ((isiD S1 x t).map .bl) S1
def mIsiT (a : M D) (t t' : Ty) : M D := fun sd S => (a sd S).bind fun x S1 => lift (match isiD S1 x t, isiD S1 x t' with
  | some b, some c => some (.bl (b || c))
  | _, _ => none) S1
def mDicE : M D := fun _ S => .ok (.loc S.length) (S ++ [.dic []])
def mNo : M (Option Int) := fun _ S => .ok none S
def mPart (a : M D) : M (Option Int) := fun sd S => (a sd S).bind fun x S1 => match x with
  | .int i => .ok (some i) S1
  | _ => .bad
def mSl (a : M D) (lo hi : M (Option Int)) : M D := fun sd S => (a sd S).bind fun x S1 => (lo sd S1).bind fun l S2 => (hi sd S2).bind fun h S3 => lift (slP S3 x l h) S3

abbrev rO : RR (Option Int) (Option Int) := fun _ _ a b => a = b
def rP (K : PySem.W.Frag) (ca : Nat → Addr) (W : WX) (m : M (Option Int)) : TO := fun s H Q => ∃ sd r S, Slots K H r sd s ∧ Sim K ca H r S ∧ Ln K ca rO H r (m sd S) Q (fun c d H' => W c d s H')

section
variable {X : Cx} {ca : Nat → Addr} {W : WX} {a b c : Expr} {ma mb mc : M D} {pos : Pos}

theorem z_var {i : Nat} {x : Str} (h : PE X (.Name x pos) (tVar i)) : PE X (.Name x pos) (rE X.K ca W (mVar i)) := PE.imp h fun s H Q ⟨sd, r, S, hs, m, h⟩ => by
  unfold mVar at h
  split at h
  · rename_i d e
    obtain ⟨v, h1, h2⟩ := hs.at_ i d e
    exact ⟨v, h1, h.ok m h2⟩
  · exact h.elim
theorem z_c {e : Expr} {v : V} {d : D} (h : PE X e (tC v)) (hd : ∀ H r, Rep X.K H r d v) : PE X e (rE X.K ca W (mC d)) := PE.imp h fun s H Q ⟨sd, r, S, hs, m, h⟩ => h.ok m (hd H r)
theorem z_bin {op : Operator} {R : R2} {f : Sto → D → D → Option D} (ho : OpR X (binaryOp op) R) (hz : OpZ X.K ca R f) (ha : PE X a (rE X.K ca W ma)) (hb : PE X b (rE X.K ca W mb)) :
    PE X (.BinOp a op b pos) (rE X.K ca W (mBin f ma mb)) := PE.imp (pe_op ho ha hb) fun s H Q ⟨sd, r, S, hs, m, h⟩ =>
  ⟨sd, r, S, hs, m, h.bind fun d1 S1 v1 H1 r1 x1 m1 q1 h1 => ⟨sd, r1, S1, hs.mono x1, m1, h1.bind fun d2 S2 v2 H2 r2 x2 m2 q2 h2 => by
    obtain ⟨d, e, k⟩ := lift_ln h2
    exact hz m2 (q1.mono x2) q2 e fun v H' => k v H' r2⟩⟩
theorem z_cmp {op : CmpOp} {R : R2} {f : Sto → D → D → Option D} (ho : OpR X (compareOp op) R) (hz : OpZ X.K ca R f) (ha : PE X a (rE X.K ca W ma)) (hb : PE X b (rE X.K ca W mb)) (hm : behindInMarks op b = false) :
    PE X (.Compare a [op] [b] pos) (rE X.K ca W (mBin f ma mb)) := PE.imp (pe_cmpR ho ha hb hm) fun s H Q ⟨sd, r, S, hs, m, h⟩ =>
  ⟨sd, r, S, hs, m, h.bind fun d1 S1 v1 H1 r1 x1 m1 q1 h1 => ⟨sd, r1, S1, hs.mono x1, m1, h1.bind fun d2 S2 v2 H2 r2 x2 m2 q2 h2 => by
    obtain ⟨d, e, k⟩ := lift_ln h2
    exact hz m2 (q1.mono x2) q2 e fun v H' => k v H' r2⟩⟩
theorem toB_ln {K : PySem.W.Frag} {H : Hp} {r : Rg} {S : Sto} {x : D} {v : V} {Q : Bool → Hp → Prop} {Wx : XK} (m : Sim K ca H r S) (hx : Rep K H r x v) (h : Ln K ca rB H r (toB x S) Q Wx) : ∃ k, v = .bl k ∧ Q k H := by
  unfold toB at h
  split at h
  · cases hx; exact ⟨_, rfl, h.ok m rfl⟩
  · exact h.elim
theorem z_tcmp {op : CmpOp} {R : R2} {f : Sto → D → D → Option D} (ho : OpR X (compareOp op) R) (hz : OpZ X.K ca R f) (ha : PE X a (rE X.K ca W ma)) (hb : PE X b (rE X.K ca W mb)) (hm : behindInMarks op b = false) :
    PT X (.Compare a [op] [b] pos) (rT X.K ca W (mBl (mBin f ma mb))) := PT.imp (pt_cmpR ho ha hb hm) fun s H Q ⟨sd, r, S, hs, m, h⟩ => by
  have h' := h.bind (R := rV X.K) (Q1 := fun x H' => ∃ k, x = .bl k ∧ Q k H') fun d S1 v H1 r1 x1 m1 q1 h1 => toB_ln m1 q1 h1
  exact ⟨sd, r, S, hs, m, h'.bind fun d1 S1 v1 H1 r1 x1 m1 q1 h1 => ⟨sd, r1, S1, hs.mono x1, m1, h1.bind fun d2 S2 v2 H2 r2 x2 m2 q2 h2 => by
    obtain ⟨d, e, k⟩ := lift_ln h2
    exact hz m2 (q1.mono x2) q2 e fun v H' => k v H' r2⟩⟩
theorem z_ttru (ha : PE X a (rE X.K ca W ma)) (he : ∀ whole, isTrue a X.env whole = (do let v ← whole; standAt a.pos; holding [v] (truthy v))) : PT X a (rT X.K ca W (mTru ma)) :=
  PT.imp (pt_truth ha he) fun s H Q ⟨sd, r, S, hs, m, h⟩ => ⟨sd, r, S, hs, m, h.bind fun d S1 v H1 r1 x1 m1 q1 h1 => by
    obtain ⟨k, e, h2⟩ := lift_ln h1
    exact ⟨k, tru_rep m1 q1 e, h2 k H1 r1 (Ext.refl ..) m1 rfl⟩⟩
theorem z_tnot {m0 : M Bool} (ha : PT X a (rT X.K ca W m0)) : PT X (.UnaryOp .Not a pos) (rT X.K ca W (mNotT m0)) :=
  PT.imp (pt_not ha) fun s H Q ⟨sd, r, S, hs, m, h⟩ => ⟨sd, r, S, hs, m, h.bind fun d S1 v H1 r1 x1 m1 q1 h1 => by cases q1; exact h1.ok m1 rfl⟩
theorem z_wand {m0 m1 : M Bool} {rest : List Expr} (ha : PT X a (rT X.K ca W m0)) (hb : PW X (.BoolOp .And (b :: rest) pos) (rT X.K ca W m1)) : PW X (.BoolOp .And (a :: b :: rest) pos) (rT X.K ca W (mAndT m0 m1)) :=
  PW.imp (pw_and ha hb) fun s H Q ⟨sd, r, S, hs, m, h⟩ => ⟨sd, r, S, hs, m, h.bind fun d S1 v H1 r1 x1 m1 q1 h1 => by
    cases q1
    cases d with
    | true => exact ⟨sd, r1, S1, hs.mono x1, m1, h1⟩
    | false => exact h1.ok m1 rfl⟩
theorem z_wor {m0 m1 : M Bool} {rest : List Expr} (ha : PT X a (rT X.K ca W m0)) (hb : PW X (.BoolOp .Or (b :: rest) pos) (rT X.K ca W m1)) : PW X (.BoolOp .Or (a :: b :: rest) pos) (rT X.K ca W (mOrT m0 m1)) :=
  PW.imp (pw_or ha hb) fun s H Q ⟨sd, r, S, hs, m, h⟩ => ⟨sd, r, S, hs, m, h.bind fun d S1 v H1 r1 x1 m1 q1 h1 => by
    cases q1
    cases d with
    | true => exact h1.ok m1 rfl
    | false => exact ⟨sd, r1, S1, hs.mono x1, m1, h1⟩⟩
theorem z_not (ha : PE X a (rE X.K ca W ma)) : PE X (.UnaryOp .Not a pos) (rE X.K ca W (mNot ma)) :=
  PE.imp (pe_not ha) fun s H Q ⟨sd, r, S, hs, m, h⟩ => ⟨sd, r, S, hs, m, h.bind fun d S1 v H1 r1 x1 m1 q1 h1 => by
    split at h1
    · cases q1; exact ⟨_, rfl, h1.ok m1 (.bl _)⟩
    · exact h1.elim⟩
theorem z_and {rest : List Expr} (ha : PE X a (rE X.K ca W ma)) (hb : PE X (.BoolOp .And (b :: rest) pos) (rE X.K ca W mb)) : PE X (.BoolOp .And (a :: b :: rest) pos) (rE X.K ca W (mAnd ma mb)) :=
  PE.imp (pe_and ha hb) fun s H Q ⟨sd, r, S, hs, m, h⟩ => ⟨sd, r, S, hs, m, h.bind fun d S1 v H1 r1 x1 m1 q1 h1 => by
    split at h1
    · cases q1; exact ⟨true, rfl, iteT ⟨sd, r1, S1, hs.mono x1, m1, h1⟩⟩
    · cases q1; exact ⟨false, rfl, iteF (h1.ok m1 (.bl _))⟩
    · exact h1.elim⟩
theorem z_or {rest : List Expr} (ha : PE X a (rE X.K ca W ma)) (hb : PE X (.BoolOp .Or (b :: rest) pos) (rE X.K ca W mb)) : PE X (.BoolOp .Or (a :: b :: rest) pos) (rE X.K ca W (mOr ma mb)) :=
  PE.imp (pe_or ha hb) fun s H Q ⟨sd, r, S, hs, m, h⟩ => ⟨sd, r, S, hs, m, h.bind fun d S1 v H1 r1 x1 m1 q1 h1 => by
    split at h1
    · cases q1; exact ⟨true, rfl, iteT (h1.ok m1 (.bl _))⟩
    · cases q1; exact ⟨false, rfl, iteF ⟨sd, r1, S1, hs.mono x1, m1, h1⟩⟩
    · exact h1.elim⟩
theorem z_ifx {m0 : M Bool} (hc : PT X c (rT X.K ca W m0)) (ha : PE X a (rE X.K ca W ma)) (hb : PE X b (rE X.K ca W mb)) : PE X (.IfExp c a b pos) (rE X.K ca W (mIf m0 ma mb)) :=
  PE.imp (pe_ifExp hc ha hb) fun s H Q ⟨sd, r, S, hs, m, h⟩ => ⟨sd, r, S, hs, m, h.bind fun d S1 v H1 r1 x1 m1 q1 h1 => by
    cases q1
    cases d with
    | true => exact ⟨sd, r1, S1, hs.mono x1, m1, h1⟩
    | false => exact ⟨sd, r1, S1, hs.mono x1, m1, h1⟩⟩
theorem chain_in {K : PySem.W.Frag} {R R' : R2} {f g : Sto → D → D → Option D} {tc : TE} {s : St} {sd : Sl} {H : Hp} {r : Rg} {S : Sto} {Q : VK} (hz : OpZ K ca R f) (hz' : OpZ K ca R' g) {ta tb : TE}
    (ha : ∀ Q, (∃ sd r S, Slots K H r sd s ∧ Sim K ca H r S ∧ Ln K ca (rV K) H r (ma sd S) Q (fun c d H' => W c d s H')) → ta s H Q)
    (hb : ∀ H Q, (∃ sd r S, Slots K H r sd s ∧ Sim K ca H r S ∧ Ln K ca (rV K) H r (mb sd S) Q (fun c d H' => W c d s H')) → tb s H Q)
    (hc : ∀ H Q, (∃ sd r S, Slots K H r sd s ∧ Sim K ca H r S ∧ Ln K ca (rV K) H r (mc sd S) Q (fun c d H' => W c d s H')) → tc s H Q)
    (hs : Slots K H r sd s) (m : Sim K ca H r S) (h : Ln K ca (rV K) H r (mChain f g ma mb mc sd S) Q (fun c d H' => W c d s H')) : tChain R R' ta tb tc s H Q := by
  refine ha _ ⟨sd, r, S, hs, m, h.bind fun d1 S1 v1 H1 r1 x1 m1 q1 h1 => hb _ _ ⟨sd, r1, S1, hs.mono x1, m1, h1.bind fun d2 S2 v2 H2 r2 x2 m2 q2 h2 => ?_⟩⟩
  cases e : f S2 d1 d2 with
  | none => rw [e] at h2; exact h2.elim
  | some z =>
    rw [e] at h2
    refine hz m2 (q1.mono x2) q2 e fun v H' x' m' q' => ?_
    have h2 := Ln.ext x' h2
    simp only [lift, Out.bind] at h2
    split at h2
    · cases q'
      refine ⟨true, rfl, iteT (hc _ _ ⟨sd, r2, S2, (hs.mono x1).mono (x2.trans x'), m', h2.bind fun d4 S4 v4 H4 r4 x4 m4 q4 h4 => ?_⟩)⟩
      obtain ⟨d, e', k⟩ := lift_ln h4
      exact hz' m4 (q2.mono (x'.trans x4)) q4 e' fun v H' => k v H' r4
    · cases q'
      exact ⟨false, rfl, iteF (h2.ok m' (.bl _))⟩
    · exact h2.elim
theorem z_chain {op op' : CmpOp} {R R' : R2} {f g : Sto → D → D → Option D} (ho : OpR X (compareOp op) R) (ho' : OpR X (compareOp op') R') (hz : OpZ X.K ca R f) (hz' : OpZ X.K ca R' g)
    (ha : PE X a (rE X.K ca W ma)) (hb : PE X b (rE X.K ca W mb)) (hc : PE X c (rE X.K ca W mc)) (hm : lastMarks [op, op'] [b, c] = false) : PE X (.Compare a [op, op'] [b, c] pos) (rE X.K ca W (mChain f g ma mb mc)) :=
  PE.imp (pe_chain ho ho' ha hb hc hm) fun s H Q ⟨sd, r, S, hs, m, h⟩ => chain_in hz hz' (fun _ h => h) (fun _ _ h => h) (fun _ _ h => h) hs m h
theorem z_tchain {op op' : CmpOp} {R R' : R2} {f g : Sto → D → D → Option D} (ho : OpR X (compareOp op) R) (ho' : OpR X (compareOp op') R') (hz : OpZ X.K ca R f) (hz' : OpZ X.K ca R' g)
    (ha : PE X a (rE X.K ca W ma)) (hb : PE X b (rE X.K ca W mb)) (hc : PE X c (rE X.K ca W mc)) (hm : lastMarks [op, op'] [b, c] = false) : PT X (.Compare a [op, op'] [b, c] pos) (rT X.K ca W (mBl (mChain f g ma mb mc))) :=
  PT.imp (pt_chain ho ho' ha hb hc hm) fun s H Q ⟨sd, r, S, hs, m, h⟩ => by
    have h' := h.bind (R := rV X.K) (Q1 := fun x H' => ∃ k, x = .bl k ∧ Q k H') fun d S1 v H1 r1 x1 m1 q1 h1 => toB_ln m1 q1 h1
    exact chain_in hz hz' (fun _ h => h) (fun _ _ h => h) (fun _ _ h => h) hs m h'

/-! ### arguments, displays -/
theorem z_anil : PA X [] (rA X.K ca W mNil) := PA.imp pa_nil fun s H Q ⟨sd, r, S, hs, m, h⟩ => h.ok m .nil
theorem z_acons {es : List Expr} {ml : M (List D)} (ha : PE X a (rE X.K ca W ma)) (hl : PA X es (rA X.K ca W ml)) (hs : starEach (a :: es) X.env = (false, eval a X.env) :: starEach es X.env) : PA X (a :: es) (rA X.K ca W (mCons ma ml)) :=
  PA.imp (pa_cons ha hl hs) fun s H Q ⟨sd, r, S, hs, m, h⟩ => ⟨sd, r, S, hs, m, h.bind fun d1 S1 v1 H1 r1 x1 m1 q1 h1 => ⟨sd, r1, S1, hs.mono x1, m1, h1.bind fun d2 S2 v2 H2 r2 x2 m2 q2 h2 => h2.ok m2 (.cons (q1.mono x2) q2)⟩⟩
theorem z_tup {es : List Expr} {k : Nat} {ml : M (List D)} (h : PA X es (rA X.K ca W ml)) : PE X (.Tuple es k pos) (rE X.K ca W (mTup ml)) :=
  PE.imp (pe_tup h) fun s H Q ⟨sd, r, S, hs, m, h⟩ => ⟨sd, r, S, hs, m, h.bind fun d1 S1 v1 H1 r1 x1 m1 q1 h1 => by
    split at h1
    · rename_i hl
      refine ⟨by rw [sizeLine_eq, ← q1.length]; exact hl, fun p hp => ?_⟩
      exact h1 _ _ r1 (Ext.new hp) (m1.new hp) (newTup hp q1)
    · exact h1.elim⟩
theorem z_lst {es : List Expr} {ml : M (List D)} (h : PA X es (rA X.K ca W ml)) : PE X (.List es pos) (rE X.K ca W (mLst ml)) :=
  PE.imp (pe_lst h) fun s H Q ⟨sd, r, S, hs, m, h⟩ => ⟨sd, r, S, hs, m, h.bind fun d1 S1 v1 H1 r1 x1 m1 q1 h1 => by
    split at h1
    · rename_i hl
      refine ⟨by rw [sizeLine_eq, ← q1.length]; exact hl, fun p hp => ?_⟩
      exact h1 _ _ r1 (Ext.new hp) (m1.new hp) (newLst m1 hp q1)
    · exact h1.elim⟩
theorem newLoc {K : PySem.W.Frag} {H : Hp} {r : Rg} {S : Sto} {p : Addr} {ds : List D} {vs : List V} (m : Sim K ca H r S) (hp : H p = none) (hs : Reps K H r ds vs) : Sim K ca (upd H p (.lst vs)) (r.add p) (S ++ [.lst ds]) ∧ Rep K (upd H p (.lst vs)) (r.add p) (.loc S.length) (.ref p) := by
  refine ⟨m.newLoc hp ⟨vs, upd_same, hs.mono (Ext.newLoc hp)⟩, .loc ?_⟩
  show (r.l ++ [p])[S.length]? = some p
  rw [← m.len, List.getElem?_append_right (Nat.le_refl _), Nat.sub_self]; rfl
theorem z_lstM {es : List Expr} {ml : M (List D)} (h : PA X es (rA X.K ca W ml)) : PE X (.List es pos) (rE X.K ca W (mLstM ml)) :=
  PE.imp (pe_lst h) fun s H Q ⟨sd, r, S, hs, m, h⟩ => ⟨sd, r, S, hs, m, h.bind fun d1 S1 v1 H1 r1 x1 m1 q1 h1 => by
    split at h1
    · rename_i hl
      refine ⟨by rw [sizeLine_eq, ← q1.length]; exact hl, fun p hp => ?_⟩
      obtain ⟨n1, n2⟩ := newLoc m1 hp q1
      exact h1 _ _ _ (Ext.newLoc hp) n1 n2
    · exact h1.elim⟩

/-! ### subscripts -/
theorem z_ix (ha : PE X a (rE X.K ca W ma)) (hb : PE X b (rE X.K ca W mb)) (hs : PlainIx b) : PE X (.Subscript a b pos) (rE X.K ca W (mBin ixP ma mb)) := PE.imp (pe_ix ix_seq ha hb hs) fun s H Q ⟨sd, r, S, hs, m, h⟩ =>
  ⟨sd, r, S, hs, m, h.bind fun d1 S1 v1 H1 r1 x1 m1 q1 h1 => ⟨sd, r1, S1, hs.mono x1, m1, h1.bind fun d2 S2 v2 H2 r2 x2 m2 q2 h2 => by
    obtain ⟨d, e, k⟩ := lift_ln h2
    exact oz_ix m2 (q1.mono x2) q2 e fun v H' => k v H' r2⟩⟩
theorem z_pno : PO X none (rP X.K ca W mNo) := PO.imp po_none fun s H Q ⟨sd, r, S, hs, m, h⟩ => h.ok m rfl
theorem z_psome (ha : PE X a (rE X.K ca W ma)) : PO X (some a) (rP X.K ca W (mPart ma)) := PO.imp (po_some ha) fun s H Q ⟨sd, r, S, hs, m, h⟩ =>
  ⟨sd, r, S, hs, m, h.bind fun d1 S1 v1 H1 r1 x1 m1 q1 h1 => by
    split at h1
    · cases q1; exact ⟨_, rfl, h1.ok m1 rfl⟩
    · exact h1.elim⟩
theorem z_sl {lo hi : Option Expr} {m1 m2 : M (Option Int)} {p2 : Pos} (ha : PE X a (rE X.K ca W ma)) (hl : PO X lo (rP X.K ca W m1)) (hh : PO X hi (rP X.K ca W m2)) : PE X (.Subscript a (.Slice lo hi none p2) pos) (rE X.K ca W (mSl ma m1 m2)) :=
  PE.imp (pe_slice or_sl ha hl hh) fun s H Q ⟨sd, r, S, hs, m, h⟩ => ⟨sd, r, S, hs, m, h.bind fun d1 S1 v1 H1 r1 x1 m1 q1 h1 => ⟨sd, r1, S1, hs.mono x1, m1, h1.bind fun d2 S2 v2 H2 r2 x2 m2 q2 h2 => by
    cases q2
    exact ⟨sd, r2, S2, (hs.mono x1).mono x2, m2, h2.bind fun d3 S3 v3 H3 r3 x3 m3 q3 h3 => by
      cases q3
      obtain ⟨d, e, k⟩ := lift_ln h3
      exact oz_sl m3 ((q1.mono x2).mono x3) e fun v H' => k v H' r3⟩⟩⟩

/-! ### built-in functions -/
theorem z_callB {x : Str} {id : String} {es : List Expr} {p : Pos} {R : List V → Hp → VK → Prop} {f : Sto → List D → Option D} {ml : M (List D)} (hc : CallR X (.builtin id) R) (hz : CallZ X.K ca R f) (hg : Gl X x) (hm : X.mg x = none) (hv : bootBuiltins x = some (.builtin id))
    (ha : PA X (a :: es) (rA X.K ca W ml)) (hn : x ≠ "__name__") (hdb : (x == ("__debug__" : Str)) = false) (he : starEach (a :: es) X.env = (false, eval a X.env) :: starEach es X.env) (hpl : (backTo pos (starEach es X.env)).any (·.1) = false) :
    PE X (.Call (.Name x p) (a :: es) [] pos) (rE X.K ca W (mCall f ml)) := PE.imp (pe_callB hc hg hm hv ha hn hdb he hpl) fun s H Q ⟨sd, r, S, hs, m, h⟩ =>
  ⟨sd, r, S, hs, m, h.bind fun d1 S1 v1 H1 r1 x1 m1 q1 h1 => by
    obtain ⟨d, e, k⟩ := lift_ln h1
    exact hz m1 q1 e fun v H' => k v H' r1⟩
theorem z_callT {x : Str} {id : String} {es : List Expr} {p : Pos} {R : List V → Hp → VK → Prop} {f : Sto → List D → Option D} {ml : M (List D)} (hc : CallR X (.type id) R) (hz : CallZ X.K ca R f) (hg : Gl X x) (hm : X.mg x = none) (hv : bootBuiltins x = some (.type id))
    (ha : PA X (a :: es) (rA X.K ca W ml)) (hn : x ≠ "__name__") (hdb : (x == ("__debug__" : Str)) = false) (he : starEach (a :: es) X.env = (false, eval a X.env) :: starEach es X.env) (hpl : (backTo pos (starEach es X.env)).any (·.1) = false) :
    PE X (.Call (.Name x p) (a :: es) [] pos) (rE X.K ca W (mCall f ml)) := PE.imp (pe_callTy hc hg hm hv ha hn hdb he hpl) fun s H Q ⟨sd, r, S, hs, m, h⟩ =>
  ⟨sd, r, S, hs, m, h.bind fun d1 S1 v1 H1 r1 x1 m1 q1 h1 => by
    obtain ⟨d, e, k⟩ := lift_ln h1
    exact hz m1 q1 e fun v H' => k v H' r1⟩
theorem z_isi {x tn : Str} {t : Ty} {p p2 : Pos} (hg : Gl X "isinstance") (hm : X.mg "isinstance" = none) (hgt : Gl X tn) (hmt : X.mg tn = none) (hvt : bootBuiltins tn = some (.type t.nm)) (hnt : tn ≠ "__name__") (hdt : (tn == ("__debug__" : Str)) = false)
    (ha : PE X a (rE X.K ca W ma)) (hs1 : starEach [a, .Name tn p2] X.env = (false, eval a X.env) :: starEach [.Name tn p2] X.env) : PE X (.Call (.Name "isinstance" p) [a, .Name tn p2] [] pos) (rE X.K ca W (mIsi ma t)) :=
  PE.imp (pe_callB call_isi hg hm (by decide +kernel) (pa_cons ha (pa_cons (pe_bltn (v := .ty t.nm) hgt hmt hvt rfl hnt hdt) pa_nil) hs1) (he := hs1)) fun s H Q ⟨sd, r, S, hs, m, h⟩ =>
  ⟨sd, r, S, hs, m, h.bind fun d1 S1 v1 H1 r1 x1 m1 q1 h1 => by
    obtain ⟨d, e, k⟩ := lift_ln h1
    rw [Option.map_eq_some_iff] at e
    obtain ⟨bb, e, rfl⟩ := e
    obtain ⟨n, t1, t2⟩ := isi_rep m1 q1 e
    exact ⟨v1, .ty t.nm, .type n, .type t.nm, bb, rfl, .ty _, t1, t2, k _ _ r1 (Ext.refl ..) m1 (.bl _)⟩⟩
theorem z_isiT {tn tn' : Str} {t t' : Ty} {p p2 p3 p4 : Pos} {k : Nat} (hg : Gl X "isinstance") (hm : X.mg "isinstance" = none) (hgt : Gl X tn) (hmt : X.mg tn = none) (hvt : bootBuiltins tn = some (.type t.nm)) (hnt : tn ≠ "__name__") (hdt : (tn == ("__debug__" : Str)) = false)
    (hgt' : Gl X tn') (hmt' : X.mg tn' = none) (hvt' : bootBuiltins tn' = some (.type t'.nm)) (hnt' : tn' ≠ "__name__") (hdt' : (tn' == ("__debug__" : Str)) = false)
    (ha : PE X a (rE X.K ca W ma)) (hs1 : starEach [a, .Tuple [.Name tn p2, .Name tn' p3] k p4] X.env = (false, eval a X.env) :: starEach [.Tuple [.Name tn p2, .Name tn' p3] k p4] X.env) : PE X (.Call (.Name "isinstance" p) [a, .Tuple [.Name tn p2, .Name tn' p3] k p4] [] pos) (rE X.K ca W (mIsiT ma t t')) :=
  PE.imp (pe_callB call_isiT hg hm (by decide +kernel) (pa_cons ha (pa_cons (pe_tup (pa_cons (pe_bltn (v := .ty t.nm) hgt hmt hvt rfl hnt hdt) (pa_cons (pe_bltn (v := .ty t'.nm) hgt' hmt' hvt' rfl hnt' hdt') pa_nil))) pa_nil) hs1) (he := hs1)) fun s H Q ⟨sd, r, S, hs, m, h⟩ =>
  ⟨sd, r, S, hs, m, h.bind fun d1 S1 v1 H1 r1 x1 m1 q1 h1 => by
    obtain ⟨d, e, kk⟩ := lift_ln h1
    split at e
    · rename_i b c e1 e2
      cases e
      refine ⟨by rw [sizeLine_eq]; show 2 ≤ 16777216; decide, fun tp htp => ?_⟩
      obtain ⟨n, t1, t2⟩ := isi_rep2 (m1.new (o := .tup [.ty t.nm, .ty t'.nm]) htp) (q1.mono (Ext.new htp)) e1 e2
      exact ⟨v1, tp, [.ty t.nm, .ty t'.nm], .type n, [.type t.nm, .type t'.nm], _, rfl, upd_same .., .cons (.ty _) (.cons (.ty _) .nil), t1, t2, kk _ _ r1 (Ext.new htp) (m1.new htp) (.bl _)⟩
    · cases e⟩
theorem z_dicE : PE X (.Dict [] [] pos) (rE X.K ca W mDicE) := PE.imp pe_dnewK fun s H Q ⟨sd, r, S, hs, m, h⟩ p hp =>
  h _ _ (r.add p) (Ext.newLoc hp) (m.newLoc hp ⟨[], upd_same .., .nil⟩) (.loc (by show (r.l ++ [p])[S.length]? = some p; rw [List.getElem?_append_right (by rw [m.len]; exact Nat.le_refl _), m.len, Nat.sub_self]; rfl))
end
end Z

/-! Z layer, part G: what is walked (sources), targets, comprehensions. -/
namespace Z
open PySem PySem.Spec PyProof.Rows L2

/-! ### facts that stay -/
def Ch (H : Hp) (a : Addr) : Prop := ∃ w, H a = some w ∧ ¬ Imm w
structure Stb (P : Hp → Rg → Prop) : Prop where
  mono : ∀ {H : Hp} {r : Rg} {H' : Hp} {r' : Rg}, Ext H r H' r' → P H r → P H' r'
  hide : ∀ {H : Hp} {r : Rg} {a : Addr} {o : HO}, H a = none → P H r → P (upd H a o) (r.hide a)
  chg : ∀ {H : Hp} {r : Rg} {a : Addr} {o : HO}, Ch H a → a ∈ r.p → P H r → P (upd H a o) r
theorem Stb.const {p : Prop} : Stb fun _ _ => p := ⟨fun _ h => h, fun _ h => h, fun _ _ h => h⟩
theorem Stb.and {P Q : Hp → Rg → Prop} (a : Stb P) (b : Stb Q) : Stb fun H r => P H r ∧ Q H r := ⟨fun e h => ⟨a.mono e h.1, b.mono e h.2⟩, fun e h => ⟨a.hide e h.1, b.hide e h.2⟩, fun e i h => ⟨a.chg e i h.1, b.chg e i h.2⟩⟩
section
variable {K : PySem.W.Frag} {ca : Nat → Addr}
theorem ne_upd {H : Hp} {a b : Addr} {o u : HO} (h : H b = some u) (ha : Ch H a) (hu : Imm u) : upd H a o b = some u := by
  obtain ⟨w, h1, h2⟩ := ha
  rw [upd_ne (fun e => by rw [e, h1] at h; cases h; exact h2 hu)]; exact h
theorem stb_sqt {a : Addr} {xs : List V} : Stb fun H _ => SqT K H a xs := by
  refine ⟨fun e h => e.rdT h, fun hn h => (Ext.new (r := ⟨[], []⟩) hn).rdT h, fun ha _ h => ?_⟩
  rcases h with (h | ⟨o, h⟩) | h
  · exact .inl (.inl (ne_upd h ha trivial))
  · exact .inl (.inr ⟨o, ne_upd h ha trivial⟩)
  · exact .inr h
theorem stb_fl {a : Addr} {xs : List V} : Stb fun H _ => FL K H a xs := by
  refine ⟨fun e h => e.fl h, fun hn h => (Ext.new (r := ⟨[], []⟩) hn).fl h, fun ha _ h => ?_⟩
  rcases h with ⟨o, h⟩ | h
  · exact .inl ⟨o, ne_upd h ha trivial⟩
  · exact .inr h
mutual
theorem Rep.hide {H : Hp} {r : Rg} {a : Addr} {o : HO} (ha : H a = none) : ∀ {d : D} {v : V}, Rep K H r d v → Rep K (upd H a o) (r.hide a) d v
  | _, _, .non => .non
  | _, _, .bl b => .bl b
  | _, _, .int i => .int i
  | _, _, .str x => .str x
  | _, _, .tup h hs => .tup (stb_sqt.hide (r := r) ha h) (Reps.hide ha hs)
  | _, _, .lst h hn hp hs => .lst (by rw [upd_ne (ne_of_none h ha)]; exact h) hn (fun z => by
      rcases List.mem_cons.mp z with z | z
      · subst z; rw [ha] at h; cases h
      · exact hp z) (Reps.hide ha hs)
  | _, _, .fro h hs => .fro (stb_fl.hide (r := r) ha h) (Reps.hide ha hs)
  | _, _, .loc h => .loc h
theorem Reps.hide {H : Hp} {r : Rg} {a : Addr} {o : HO} (ha : H a = none) : ∀ {ds : List D} {vs : List V}, Reps K H r ds vs → Reps K (upd H a o) (r.hide a) ds vs
  | _, _, .nil => .nil
  | _, _, .cons h hs => .cons (Rep.hide ha h) (Reps.hide ha hs)
end
mutual
theorem Rep.chg {H : Hp} {r : Rg} {a : Addr} {o : HO} (ha : Ch H a) (hm : a ∈ r.p) : ∀ {d : D} {v : V}, Rep K H r d v → Rep K (upd H a o) r d v
  | _, _, .non => .non
  | _, _, .bl b => .bl b
  | _, _, .int i => .int i
  | _, _, .str x => .str x
  | _, _, .tup h hs => .tup (stb_sqt.chg ha hm h) (Reps.chg ha hm hs)
  | _, _, .lst h hn hp hs => .lst (by rw [upd_ne (fun e => hp (by rw [e]; exact hm))]; exact h) hn hp (Reps.chg ha hm hs)
  | _, _, .fro h hs => .fro (stb_fl.chg ha hm h) (Reps.chg ha hm hs)
  | _, _, .loc h => .loc h
theorem Reps.chg {H : Hp} {r : Rg} {a : Addr} {o : HO} (ha : Ch H a) (hm : a ∈ r.p) : ∀ {ds : List D} {vs : List V}, Reps K H r ds vs → Reps K (upd H a o) r ds vs
  | _, _, .nil => .nil
  | _, _, .cons h hs => .cons (Rep.chg ha hm h) (Reps.chg ha hm hs)
end
/-- r' knows all that r knows, and forbids no address that r lets a list stand at -/
structure Mv (r r' : Rg) : Prop where
  at_ : ∀ (n : Nat) (a : Addr), r.l[n]? = some a → r'.l[n]? = some a
  out : ∀ a, a ∉ r.l → a ∉ r.p → a ∉ r'.l ∧ a ∉ r'.p
mutual
theorem Rep.move {H : Hp} {r r' : Rg} (e : Mv r r') : ∀ {d : D} {v : V}, Rep K H r d v → Rep K H r' d v
  | _, _, .non => .non
  | _, _, .bl b => .bl b
  | _, _, .int i => .int i
  | _, _, .str x => .str x
  | _, _, .tup h hs => .tup h (Reps.move e hs)
  | _, _, .lst h hn hq hs => .lst h (e.out _ hn hq).1 (e.out _ hn hq).2 (Reps.move e hs)
  | _, _, .fro h hs => .fro h (Reps.move e hs)
  | _, _, .loc h => .loc (e.at_ _ _ h)
theorem Reps.move {H : Hp} {r r' : Rg} (e : Mv r r') : ∀ {ds : List D} {vs : List V}, Reps K H r ds vs → Reps K H r' ds vs
  | _, _, .nil => .nil
  | _, _, .cons h hs => .cons (Rep.move e h) (Reps.move e hs)
end
theorem stb_rep {d : D} {v : V} : Stb fun H r => Rep K H r d v := ⟨fun e h => h.mono e, fun e h => h.hide e, fun e i h => h.chg e i⟩
theorem stb_reps {ds : List D} {vs : List V} : Stb fun H r => Reps K H r ds vs := ⟨fun e h => h.mono e, fun e h => h.hide e, fun e i h => h.chg e i⟩
theorem RepF.hide {κ : Type} {H : Hp} {r : Rg} {a : Addr} {o : HO} (ha : H a = none) : ∀ {ds : List (κ × D)} {vs : List (κ × V)}, RepF K H r ds vs → RepF K (upd H a o) (r.hide a) ds vs
  | _, _, .nil => .nil
  | _, _, .cons h hs => .cons (h.hide ha) (RepF.hide ha hs)
theorem RepF.chg {κ : Type} {H : Hp} {r : Rg} {a : Addr} {o : HO} (ha : Ch H a) (hm : a ∈ r.p) : ∀ {ds : List (κ × D)} {vs : List (κ × V)}, RepF K H r ds vs → RepF K (upd H a o) r ds vs
  | _, _, .nil => .nil
  | _, _, .cons h hs => .cons (h.chg ha hm) (RepF.chg ha hm hs)
theorem RepF.move {κ : Type} {H : Hp} {r r' : Rg} (e : Mv r r') : ∀ {ds : List (κ × D)} {vs : List (κ × V)}, RepF K H r ds vs → RepF K H r' ds vs
  | _, _, .nil => .nil
  | _, _, .cons h hs => .cons (h.move e) (RepF.move e hs)
theorem ORep.move {H : Hp} {r r' : Rg} {o : MO} {a : Addr} (e : Mv r r') (h : ORep K ca H r o a) : ORep K ca H r' o a := by
  cases o with
  | lst ds => obtain ⟨vs, h3, h4⟩ := h; exact ⟨vs, h3, h4.move e⟩
  | ins c fs => obtain ⟨dx, gs, h3, h4⟩ := h; exact ⟨dx, gs, h3, h4.move e⟩
  | dic ds => obtain ⟨vs, h3, h4⟩ := h; exact ⟨vs, h3, h4.move e⟩
  | dit ds => obtain ⟨vs, h3, h4⟩ := h; exact ⟨vs, h3, h4.move e⟩
theorem stb_slots {sd : Sl} {s : St} : Stb fun H r => Slots K H r sd s :=
  ⟨fun e h => h.mono e, fun e h => ⟨h.len, fun i d q => let ⟨v, h1, h2⟩ := h.at_ i d q; ⟨v, h1, h2.hide e⟩⟩, fun e i h => ⟨h.len, fun j d q => let ⟨v, h1, h2⟩ := h.at_ j d q; ⟨v, h1, h2.chg e i⟩⟩⟩
theorem Sim.hide {H : Hp} {r : Rg} {S : Sto} {a : Addr} {o : HO} (m : Sim K ca H r S) (ha : H a = none) : Sim K ca (upd H a o) (r.hide a) S := by
  refine ⟨m.len, m.nd, fun n u h => ?_, fun b hb => ?_⟩
  · obtain ⟨b, h1, h2⟩ := m.obj n u h
    have hb : upd H a o b = H b := upd_ne fun e => m.tracked (e ▸ List.mem_of_getElem? h1) ha
    refine ⟨b, h1, ?_⟩
    cases u with
    | lst ds => obtain ⟨vs, h3, h4⟩ := h2; exact ⟨vs, by rw [hb]; exact h3, h4.hide ha⟩
    | ins c fs => obtain ⟨dx, gs, h3, h4⟩ := h2; exact ⟨dx, gs, by rw [hb]; exact h3, h4.hide ha⟩
    | dic ds => obtain ⟨vs, h3, h4⟩ := h2; exact ⟨vs, by rw [hb]; exact h3, h4.hide ha⟩
    | dit ds => obtain ⟨vs, h3, h4⟩ := h2; exact ⟨vs, by rw [hb]; exact h3, h4.hide ha⟩
  · rcases List.mem_cons.mp hb with rfl | hb
    · rw [upd_same]; simp
    · exact (Ext.new (r := r) ha).there b (m.prv b hb)
theorem Sim.chg {H : Hp} {r : Rg} {S : Sto} {a : Addr} {o : HO} (m : Sim K ca H r S) (ha : Ch H a) (hm : a ∈ r.p) (hl : a ∉ r.l) : Sim K ca (upd H a o) r S := by
  refine ⟨m.len, m.nd, fun n u h => ?_, fun b hb => ?_⟩
  · obtain ⟨b, h1, h2⟩ := m.obj n u h
    have hb : upd H a o b = H b := upd_ne fun e => hl (e ▸ List.mem_of_getElem? h1)
    refine ⟨b, h1, ?_⟩
    cases u with
    | lst ds => obtain ⟨vs, h3, h4⟩ := h2; exact ⟨vs, by rw [hb]; exact h3, h4.chg ha hm⟩
    | ins c fs => obtain ⟨dx, gs, h3, h4⟩ := h2; exact ⟨dx, gs, by rw [hb]; exact h3, h4.chg ha hm⟩
    | dic ds => obtain ⟨vs, h3, h4⟩ := h2; exact ⟨vs, by rw [hb]; exact h3, h4.chg ha hm⟩
    | dit ds => obtain ⟨vs, h3, h4⟩ := h2; exact ⟨vs, by rw [hb]; exact h3, h4.chg ha hm⟩
  · by_cases e : b = a
    · subst e; rw [upd_same]; simp
    · rw [upd_ne e]; exact m.prv b hb
theorem Sim.move {H : Hp} {r r' : Rg} {S : Sto} (m : Sim K ca H r S) (e : Mv r r') (hl : r'.l = r.l) (hp : ∀ a ∈ r'.p, a ∈ r.p) : Sim K ca H r' S := by
  refine ⟨by rw [hl]; exact m.len, by rw [hl]; exact m.nd, fun n u h => ?_, fun b hb => m.prv b (hp b hb)⟩
  obtain ⟨b, h1, h2⟩ := m.obj n u h
  exact ⟨b, e.at_ _ _ h1, h2.move e⟩
end

/-! ### sources -/
inductive Src where
  | vals (ds : List D)
  | cell (n len : Nat)
  | zip (a b : Src)
  | enum (a : Src)
def Src.len : Src → Nat
  | .vals ds => ds.length
  | .cell _ k => k
  | .zip a b => min a.len b.len
  | .enum a => a.len
def Src.at (s : Src) (S : Sto) (i : Nat) : Option D := match s with
  | .vals ds => ds[i]?
  | .cell n k => match S[n]? with
    | some (.lst xs) => if xs.length = k then xs[i]? else none
    | _ => none
  | .zip a b => match a.at S i, b.at S i with
    | some x, some y => some (.tup [x, y])
    | _, _ => none
  | .enum a => match a.at S i with
    | some x => some (.tup [.int i, x])
    | none => none
def Src.fin (s : Src) (S : Sto) : Bool := match s with
  | .vals _ => true
  | .cell n k => match S[n]? with
    | some (.lst xs) => decide (xs.length = k)
    | _ => false
  | .zip a b => a.fin S && b.fin S
  | .enum a => a.fin S
def SrcAt (K : PySem.W.Frag) (ca : Nat → Addr) (H : Hp) (r : Rg) (s : Src) (J : It) : Prop :=
  ∃ P : Hp → Rg → Prop, Stb P ∧ P H r ∧ ∀ H r S, P H r → Sim K ca H r S → ∀ i,
    (∀ d, s.at S i = some d → J.go i H ∧ ∀ x H', J.yld i H x H' → Ext H r H' r ∧ Sim K ca H' r S ∧ Rep K H' r d x) ∧ (i = s.len → s.fin S = true → J.stop i H)
def rI (K : PySem.W.Frag) (ca : Nat → Addr) (W : WX) (m : M Src) : TI := fun s H R => ∃ sd r S, Slots K H r sd s ∧ Sim K ca H r S ∧ Ln K ca (SrcAt K ca) H r (m sd S) R (fun c d H' => W c d s H')

section
variable {K : PySem.W.Frag} {ca : Nat → Addr} {H : Hp} {r : Rg}
theorem srcT {a : Addr} {ds : List D} {vs : List V} (h : SqT K H a vs) (hs : Reps K H r ds vs) : SrcAt K ca H r (.vals ds) (Itt K a) := by
  refine ⟨fun H r => SqT K H a vs ∧ Reps K H r ds vs, stb_sqt.and stb_reps, ⟨h, hs⟩, fun H r S p m i => ⟨fun d e => ?_, fun e _ => ⟨vs, p.1, ?_⟩⟩⟩
  · obtain ⟨v, h1, h2⟩ := p.2.get e
    refine ⟨⟨vs, v, p.1, h1⟩, fun x H' y => ?_⟩
    obtain ⟨rfl, y⟩ := y
    have := y vs p.1
    rw [h1] at this; cases this
    exact ⟨Ext.refl .., m, h2⟩
  · rw [e]; exact Nat.le_of_eq p.2.length.symm
theorem srcF {a : Addr} {ds : List D} {vs : List V} (h : FL K H a vs) (hs : Reps K H r ds vs) : SrcAt K ca H r (.vals ds) (Itl K a) := by
  refine ⟨fun H r => FL K H a vs ∧ Reps K H r ds vs, stb_fl.and stb_reps, ⟨h, hs⟩, fun H r S p m i => ⟨fun d e => ?_, fun e _ => ⟨vs, p.1.sq, ?_⟩⟩⟩
  · obtain ⟨v, h1, h2⟩ := p.2.get e
    refine ⟨⟨vs, v, p.1.sq, h1⟩, fun x H' y => ?_⟩
    obtain ⟨rfl, y⟩ := y
    have := y vs p.1.sq
    rw [h1] at this; cases this
    exact ⟨Ext.refl .., m, h2⟩
  · rw [e]; exact Nat.le_of_eq p.2.length.symm
theorem srcL {a : Addr} {ds : List D} {vs : List V} (h : H a = some (.lst vs)) (hn : a ∉ r.l) (hp : a ∉ r.p) (hs : Reps K H r ds vs) : SrcAt K ca H r (.vals ds) (Itl K a) := by
  refine ⟨fun H r => Rep K H r (.lst ds) (.ref a), stb_rep, .lst h hn hp hs, fun H r S p m i => ?_⟩
  cases p with
  | @lst _ ws _ h hn hp hs =>
    refine ⟨fun d e => ?_, fun e _ => ⟨ws, .of h, ?_⟩⟩
    · obtain ⟨v, h1, h2⟩ := hs.get e
      refine ⟨⟨ws, v, .of h, h1⟩, fun x H' y => ?_⟩
      obtain ⟨rfl, y⟩ := y
      have := y ws (.of h)
      rw [h1] at this; cases this
      exact ⟨Ext.refl .., m, h2⟩
    · rw [e]; exact Nat.le_of_eq hs.length.symm
theorem srcC {a : Addr} {n k : Nat} (h : r.l[n]? = some a) : SrcAt K ca H r (.cell n k) (Itl K a) := by
  refine ⟨fun _ r => r.l[n]? = some a, ⟨fun e h => e.at h, fun _ h => h, fun _ _ h => h⟩, h, fun H r S p m i => ⟨fun d e => ?_, fun e f => ?_⟩⟩
  · simp only [Src.at] at e
    split at e
    · rename_i xs e1
      split at e
      · obtain ⟨b, h1, vs, h2, h3⟩ := m.obj n _ e1
        rw [p] at h1; cases h1
        obtain ⟨v, h4, h5⟩ := h3.get e
        refine ⟨⟨vs, v, .of h2, h4⟩, fun x H' y => ?_⟩
        obtain ⟨rfl, y⟩ := y
        have := y vs (.of h2)
        rw [h4] at this; cases this
        exact ⟨Ext.refl .., m, h5⟩
      · cases e
    · cases e
  · simp only [Src.fin] at f
    split at f
    · rename_i xs e1
      obtain ⟨b, h1, vs, h2, h3⟩ := m.obj n _ e1
      rw [p] at h1; cases h1
      have hk := of_decide_eq_true f
      refine ⟨vs, .of h2, ?_⟩
      rw [e, ← h3.length, hk]
      exact Nat.le_refl _
    · cases f
theorem srcS {x : Str} : SrcAt K ca H r (.vals (x.cps.toList.map fun c => D.str ⟨#[c]⟩)) (Its x) := by
  refine ⟨fun _ _ => True, Stb.const, trivial, fun H r S _ m i => ⟨fun d e => ?_, fun e _ => ?_⟩⟩
  · simp only [Src.at, List.getElem?_map, Option.map_eq_some_iff] at e
    obtain ⟨c, e1, rfl⟩ := e
    rw [Array.getElem?_toList] at e1
    have hi : i < x.cps.size := (Array.getElem?_eq_some_iff.mp e1).1
    refine ⟨hi, fun y H' z => ?_⟩
    obtain ⟨rfl, c', e2, rfl⟩ := z
    rw [e1] at e2; cases e2
    exact ⟨Ext.refl .., m, .str _⟩
  · show x.cps.size ≤ i
    rw [e]; simp [Src.len]
theorem srcR {lo : Int} {n : Nat} : SrcAt K ca H r (.vals ((List.range n).map fun (i : Nat) => D.int (lo + (i : Int)))) (Itr lo n) := by
  refine ⟨fun _ _ => True, Stb.const, trivial, fun H r S _ m i => ⟨fun d e => ?_, fun e _ => ?_⟩⟩
  · simp only [Src.at, List.getElem?_map] at e
    by_cases hi : i < n
    · rw [List.getElem?_range hi] at e
      cases e
      refine ⟨hi, fun x H' y => ?_⟩
      obtain ⟨rfl, rfl⟩ := y
      exact ⟨Ext.refl .., m, .int _⟩
    · rw [List.getElem?_eq_none (by simpa using hi)] at e; cases e
  · show n ≤ i
    rw [e]; simp [Src.len]
end

def signsD (x : Str) : List D := x.cps.toList.map fun c => D.str ⟨#[c]⟩
def srcOf (S : Sto) (x : D) : Option Src := match x with
  | .str z => some (.vals (signsD z))
  | .tup ds => some (.vals ds)
  | .lst ds => some (.vals ds)
  | .fro ds => some (.vals ds)
  | .loc n => match S[n]? with
    | some (.lst xs) => some (.cell n xs.length)
    | _ => none
  | _ => none
def mSeq (a : M D) : M Src := fun sd S => (a sd S).bind fun x S1 => lift (srcOf S1 x) S1
def rngV (lo hi : Int) : Option Src := if -4611686018427387904 ≤ lo ∧ lo < 4611686018427387904 ∧ -4611686018427387904 ≤ hi ∧ hi < 4611686018427387904 then some (.vals ((List.range (hi - lo).toNat).map fun (i : Nat) => D.int (lo + (i : Int)))) else none
def rng1 (xs : List D) : Option Src := match xs with
  | [.int j] => rngV 0 j
  | _ => none
def rng2 (xs : List D) : Option Src := match xs with
  | [.int i, .int j] => rngV i j
  | _ => none
def mRng (f : List D → Option Src) (a : M (List D)) : M Src := fun sd S => (a sd S).bind fun xs S1 => lift (f xs) S1

section
variable {X : Cx} {ca : Nat → Addr} {W : WX} {tg : Expr}
theorem PI.imp {it : Expr} {t t' : TI} (h : PI X tg it t) (i : ∀ s H Q, t' s H Q → t s H Q) : PI X tg it t' := ⟨fun pins s σ H Q I w => h.run pins s σ H Q I (i σ H Q w)⟩
theorem z_seq {a : Expr} {ma : M D} (ha : PE X a (rE X.K ca W ma)) : PI X tg a (rI X.K ca W (mSeq ma)) := by
  refine ⟨fun pins s σ H R I ⟨sd, r, S, hs, m, h⟩ => ?_⟩
  have key : iTup X.K (rE X.K ca W ma) σ H R ∨ iList X.K (rE X.K ca W ma) σ H R ∨ iStr (rE X.K ca W ma) σ H R := by
    unfold mSeq at h
    cases e : ma sd S with
    | bad => rw [e] at h; exact h.elim
    | exc c fs S1 =>
      left
      exact ⟨sd, r, S, hs, m, by rw [e]; rw [e] at h; exact h⟩
    | ok d S1 =>
      rw [e] at h
      obtain ⟨src, e1, k⟩ := lift_ln (show Ln X.K ca (SrcAt X.K ca) H r (lift (srcOf S1 d) S1) R _ from h)
      have ln : ∀ Q, (∀ v H' r', Ext H r H' r' → Sim X.K ca H' r' S1 → Rep X.K H' r' d v → Q v H') → rE X.K ca W ma σ H Q := fun Q q => ⟨sd, r, S, hs, m, by rw [e]; exact q⟩
      unfold srcOf at e1
      split at e1
      · right; right; cases e1
        refine ln _ fun v H' r' x m' q => ?_
        cases q
        exact ⟨_, rfl, k _ H' r' x m' srcS⟩
      · left; cases e1
        refine ln _ fun v H' r' x m' q => ?_
        cases q with
        | tup h1 s1 => exact ⟨_, rfl, ⟨_, h1⟩, k _ H' r' x m' (srcT h1 s1)⟩
      · right; left; cases e1
        refine ln _ fun v H' r' x m' q => ?_
        cases q with
        | lst h1 hn hp s1 => exact ⟨_, rfl, ⟨_, .of h1⟩, k _ H' r' x m' (srcL h1 hn hp s1)⟩
      · right; left; cases e1
        refine ln _ fun v H' r' x m' q => ?_
        cases q with
        | fro h1 s1 => exact ⟨_, rfl, ⟨_, h1.sq⟩, k _ H' r' x m' (srcF h1 s1)⟩
      · right; left
        split at e1
        · rename_i n xs e2
          cases e1
          refine ln _ fun v H' r' x m' q => ?_
          obtain ⟨a, rfl, h1, vs, h2, h3⟩ := m'.loc q e2
          exact ⟨_, rfl, ⟨_, .of h2⟩, k _ H' r' x m' (srcC h1)⟩
        · cases e1
      · cases e1
  rcases key with k | k | k
  · exact (pi_tup ha).run pins s σ H R I k
  · exact (pi_list ha).run pins s σ H R I k
  · exact (pi_str ha).run pins s σ H R I k
theorem rng_ln {K : PySem.W.Frag} {H : Hp} {r : Rg} {S : Sto} {lo hi : Int} {R : It → Hp → Prop} {src : Src} (m : Sim K ca H r S) (e : rngV lo hi = some src) (k : ∀ v H' r', Ext H r H' r' → Sim K ca H' r' S → SrcAt K ca H' r' src v → R v H') :
    (-(2 ^ 62) ≤ lo ∧ lo < 2 ^ 62 ∧ -(2 ^ 62) ≤ hi ∧ hi < 2 ^ 62) ∧ R (Itr lo (hi - lo).toNat) H := by
  unfold rngV at e
  split at e
  · rename_i hb
    cases e
    exact ⟨by omega, k _ H r (Ext.refl ..) m srcR⟩
  · cases e
theorem z_rng1 {a : Expr} {p pos : Pos} {ml : M (List D)} (hg : Gl X "range") (hm : X.mg "range" = none) (ha : PA X [a] (rA X.K ca W ml)) (hs : starEach [a] X.env = [(false, eval a X.env)]) : PI X tg (.Call (.Name "range" p) [a] [] pos) (rI X.K ca W (mRng rng1 ml)) :=
  PI.imp (pi_range1 hg hm ha hs) fun s H R ⟨sd, r, S, hs, m, h⟩ => ⟨sd, r, S, hs, m, h.bind fun d1 S1 v1 H1 r1 x1 m1 q1 h1 => by
    obtain ⟨src, e, k⟩ := lift_ln h1
    unfold rng1 at e
    split at e
    · cases q1 with
      | cons h hs =>
        cases hs; cases h
        obtain ⟨b, q⟩ := rng_ln m1 e k
        exact ⟨_, rfl, b.2.2.1, b.2.2.2, by rw [Int.sub_zero] at q; exact q⟩
    · cases e⟩
theorem z_rng2 {a b : Expr} {p pos : Pos} {ml : M (List D)} (hg : Gl X "range") (hm : X.mg "range" = none) (ha : PA X [a, b] (rA X.K ca W ml)) (hs : starEach [a, b] X.env = [(false, eval a X.env), (false, eval b X.env)]) (hs2 : starEach [b] X.env = [(false, eval b X.env)]) :
    PI X tg (.Call (.Name "range" p) [a, b] [] pos) (rI X.K ca W (mRng rng2 ml)) :=
  PI.imp (pi_range2 hg hm ha hs hs2) fun s H R ⟨sd, r, S, hs, m, h⟩ => ⟨sd, r, S, hs, m, h.bind fun d1 S1 v1 H1 r1 x1 m1 q1 h1 => by
    obtain ⟨src, e, k⟩ := lift_ln h1
    unfold rng2 at e
    split at e
    · cases q1 with
      | cons h hs =>
        cases hs with
        | cons h2 hs =>
          cases hs; cases h; cases h2
          obtain ⟨b, q⟩ := rng_ln m1 e k
          exact ⟨_, _, rfl, b, q⟩
    · cases e⟩
end

/-! ### targets -/
abbrev GM := D → Sl → Sto → Option (Sl × Sto)
def rG (K : PySem.W.Frag) (ca : Nat → Addr) (ts : List Nat) (g : GM) : TG := fun v s H Q => ∃ sd r S d sd' S', Slots K H r sd s ∧ Sim K ca H r S ∧ Rep K H r d v ∧ g d sd S = some (sd', S') ∧
  ∀ s' H' r', Ext H r H' r' → Sim K ca H' r' S' → Slots K H' r' sd' s' → (∀ j, j ∉ ts → s'[j]? = s[j]?) → s'.length = s.length → Q s' H'
def rGs (K : PySem.W.Frag) (ca : Nat → Addr) (ts : List Nat) (g : List D → Sl → Sto → Option (Sl × Sto)) : TGs := fun vs s H Q => ∃ sd r S ds sd' S', Slots K H r sd s ∧ Sim K ca H r S ∧ Reps K H r ds vs ∧ g ds sd S = some (sd', S') ∧
  ∀ s' H' r', Ext H r H' r' → Sim K ca H' r' S' → Slots K H' r' sd' s' → (∀ j, j ∉ ts → s'[j]? = s[j]?) → s'.length = s.length → Q s' H'
def gNm (i : Nat) : GM := fun d sd S => some (sd.set i (some d), S)
def gsNil : List D → Sl → Sto → Option (Sl × Sto) := fun ds sd S => match ds with
  | [] => some (sd, S)
  | _ => none
def gsCons (g : GM) (gs : List D → Sl → Sto → Option (Sl × Sto)) : List D → Sl → Sto → Option (Sl × Sto) := fun ds sd S => match ds with
  | d :: ds => match g d sd S with
    | some (sd1, S1) => gs ds sd1 S1
    | none => none
  | [] => none
def gTp (n : Nat) (gs : List D → Sl → Sto → Option (Sl × Sto)) : GM := fun d sd S => match d with
  | .tup ds => if ds.length = n then gs ds sd S else none
  | _ => none
section
variable {X : Cx} {ca : Nat → Addr}
theorem PG.imp {tg : Expr} {t t' : TG} (h : PG X tg t) (i : ∀ v s H Q, t' v s H Q → t v s H Q) : PG X tg t' := ⟨fun pins s σ H v u Q I rv w => h.run pins s σ H v u Q I rv (i v σ H Q w)⟩
theorem PGs.imp {tg : List Expr} {t t' : TGs} (h : PGs X tg t) (i : ∀ v s H Q, t' v s H Q → t v s H Q) : PGs X tg t' := ⟨fun pins s σ H v u Q I rv w => h.run pins s σ H v u Q I rv (i v σ H Q w)⟩
theorem z_gname {i : Nat} {x : Str} {pos : Pos} (h : PG X (.Name x pos) (gName i)) : PG X (.Name x pos) (rG X.K ca [i] (gNm i)) := PG.imp h fun v s H Q ⟨sd, r, S, d, sd', S', hs, m, q, e, k⟩ => by
  cases e
  refine k _ H r (Ext.refl ..) m (hs.set q) (fun j hj => ?_) (List.length_set ..)
  exact List.getElem?_set_ne (fun e => hj (by simp [e]))
theorem z_gsnil : PGs X [] (rGs X.K ca [] gsNil) := PGs.imp pgs_nil fun vs s H Q ⟨sd, r, S, ds, sd', S', hs, m, q, e, k⟩ => by
  unfold gsNil at e
  split at e
  · cases e
    exact ⟨q.nil_of, k _ H r (Ext.refl ..) m hs (fun _ _ => rfl) rfl⟩
  · cases e
theorem z_gscons {a : Expr} {es : List Expr} {ts us : List Nat} {g : GM} {gs : List D → Sl → Sto → Option (Sl × Sto)} (h1 : PG X a (rG X.K ca ts g)) (h2 : PGs X es (rGs X.K ca us gs))
    (hs : (assignEach (a :: es) X.env).map (·.2) = assign a X.env :: (assignEach es X.env).map (·.2)) : PGs X (a :: es) (rGs X.K ca (ts ++ us) (gsCons g gs)) := PGs.imp (pgs_cons h1 h2 hs) fun vs s H Q ⟨sd, r, S, ds, sd', S', hs, m, q, e, k⟩ => by
  unfold gsCons at e
  split at e
  · split at e
    · rename_i sd1 S1 e1
      cases q with
      | cons q1 q2 =>
        refine ⟨_, _, rfl, sd, r, S, _, sd1, S1, hs, m, q1, e1, fun s1 H1 r1 x1 m1 hs1 f1 l1 => ?_⟩
        refine ⟨sd1, r1, S1, _, sd', S', hs1, m1, q2.mono x1, e, fun s2 H2 r2 x2 m2 hs2 f2 l2 => ?_⟩
        exact k s2 H2 r2 (x1.trans x2) m2 hs2 (fun j hj => by rw [f2 j fun z => hj (by simp [z]), f1 j fun z => hj (by simp [z])]) (l2.trans l1)
    · cases e
  · cases e
theorem z_gtup {es : List Expr} {k n : Nat} {pos : Pos} {ts : List Nat} {gs : List D → Sl → Sto → Option (Sl × Sto)} (hc : X.calm = true) (h : PGs X es (rGs X.K ca ts gs)) (hn : (assignEach es X.env).length = n) (hst : (assignEach es X.env).findIdx? (·.1) = none) :
    PG X (.Tuple es k pos) (rG X.K ca ts (gTp n gs)) := PG.imp (pg_tup hc h hn hst) fun v s H Q ⟨sd, r, S, d, sd', S', hs, m, q, e, k⟩ => by
  unfold gTp at e
  split at e
  · split at e
    · rename_i hl
      cases q with
      | tup h1 s1 => exact ⟨_, _, rfl, h1, by rw [← s1.length]; exact hl, sd, r, S, _, sd', S', hs, m, s1, e, k⟩
    · cases e
  · cases e
end

/-! ### comprehensions -/
def wipeD (sd : Sl) : List Nat → Sl
  | [] => sd
  | v :: vs => (wipeD sd vs).set v none
theorem wipeD_len (sd : Sl) : ∀ vs : List Nat, (wipeD sd vs).length = sd.length
  | [] => rfl
  | v :: vs => by unfold wipeD; rw [List.length_set, wipeD_len sd vs]
theorem wipeD_get (sd : Sl) (j : Nat) : ∀ vs : List Nat, (wipeD sd vs)[j]? = if j ∈ vs then (sd[j]?).map fun _ => none else sd[j]?
  | [] => by simp [wipeD]
  | v :: vs => by
    unfold wipeD
    by_cases h : v = j
    · subst h
      rw [List.getElem?_set]
      simp only [wipeD_len, ↓reduceIte, List.mem_cons, true_or]
      by_cases hl : v < sd.length
      · simp [hl]
      · simp [hl]
    · rw [List.getElem?_set_ne h, wipeD_get sd j vs]
      have : (j ∈ v :: vs) ↔ j ∈ vs := by
        rw [List.mem_cons]
        exact ⟨fun z => z.elim (fun e => absurd e.symm h) id, .inr⟩
      simp only [this]
theorem wipe_get (s : St) (j : Nat) : ∀ vs : List Nat, (wipe s vs)[j]? = if j ∈ vs then (s[j]?).map fun _ => none else s[j]?
  | [] => by simp [wipe]
  | v :: vs => by
    unfold wipe
    by_cases h : v = j
    · subst h
      rw [List.getElem?_set]
      simp only [wipe_length, ↓reduceIte, List.mem_cons, true_or]
      by_cases hl : v < s.length
      · simp [hl]
      · simp [hl]
    · rw [List.getElem?_set_ne h, wipe_get s j vs]
      have : (j ∈ v :: vs) ↔ j ∈ vs := by
        rw [List.mem_cons]
        exact ⟨fun z => z.elim (fun e => absurd e.symm h) id, .inr⟩
      simp only [this]
theorem Slots.wipe {K : PySem.W.Frag} {H : Hp} {r : Rg} {sd : Sl} {s : St} (h : Slots K H r sd s) (vs : List Nat) : Slots K H r (wipeD sd vs) (L2.wipe s vs) := by
  refine ⟨by rw [wipeD_len, wipe_length]; exact h.len, fun i d q => ?_⟩
  rw [wipeD_get] at q
  split at q
  · cases e : sd[i]? with
    | none => rw [e] at q; cases q
    | some z => rw [e] at q; cases q
  · rename_i hi
    rw [wipe_get, if_neg hi]
    exact h.at_ i d q
theorem wipe_frame {s s2 : St} {vs ts : List Nat} (f : ∀ j, j ∉ ts → s2[j]? = (wipe s vs)[j]?) (hl : s2.length = (wipe s vs).length) (hts : ∀ t ∈ ts, t ∈ vs) : wipe s2 vs = wipe s vs := by
  refine List.ext_getElem? fun j => ?_
  rw [wipe_get, wipe_get]
  have hl' : s2.length = s.length := by rw [hl, wipe_length]
  split
  · by_cases h : j < s.length
    · rw [List.getElem?_eq_getElem h, List.getElem?_eq_getElem (by rw [hl']; exact h)]; rfl
    · rw [List.getElem?_eq_none (by omega), List.getElem?_eq_none (by omega)]
  · rename_i hj
    rw [f j fun z => hj (hts j z), wipe_get, if_neg hj]

def lcGo (src : Src) (g : GM) (c : M Bool) (e : M D) (sw : Sl) : Nat → Nat → List D → Sto → Out (List D)
  | 0, _, acc, S => if src.fin S then .ok acc S else .bad
  | k + 1, i, acc, S => match src.at S i with
    | none => .bad
    | some d => match g d sw S with
      | none => .bad
      | some (sd, S1) => match c sd S1 with
        | .ok true S2 => match e sd S2 with
          | .ok y S3 => if acc.length < 16777216 then lcGo src g c e sw k (i + 1) (acc ++ [y]) S3 else .bad
          | _ => .bad
        | .ok false S2 => lcGo src g c e sw k (i + 1) acc S2
        | _ => .bad
def mLcL (mi : M Src) (g : GM) (vs : List Nat) (c : M Bool) (e : M D) : M (List D) := fun sd S => (mi sd S).bind fun src S1 => lcGo src g c e (wipeD sd vs) src.len 0 [] S1
def mLc (mi : M Src) (g : GM) (vs : List Nat) (c : M Bool) (e : M D) : M D := fun sd S => (mLcL mi g vs c e sd S).bind fun acc S2 => .ok (.lst acc) S2
def mLcM (mi : M Src) (g : GM) (vs : List Nat) (c : M Bool) (e : M D) : M D := fun sd S => (mLcL mi g vs c e sd S).bind fun acc S2 => .ok (.loc S2.length) (S2 ++ [.lst acc])

theorem Ext.unhide {H H' : Hp} {r r' : Rg} (e : Ext H r H' r') (p : List Addr) : Ext H ⟨r.l, p⟩ H' ⟨r'.l, p⟩ := by
  obtain ⟨l, rfl, hl⟩ := e.more
  exact ⟨⟨l, rfl, hl⟩, e.keep, e.imm, e.there⟩
theorem Ext.chg {H H' : Hp} {r r' : Rg} {a : Addr} {o : HO} (e : Ext H r H' r') (ha : H a = none) : Ext H r (upd H' a o) r' := by
  have k : ∀ b u, H b = some u → b ≠ a := fun b u h z => by rw [z, ha] at h; cases h
  refine ⟨e.more, fun b u h hn => by rw [upd_ne (k b u h)]; exact e.keep b u h hn, fun b u h hi => by rw [upd_ne (k b u h)]; exact e.imm b u h hi, fun b h => ?_⟩
  by_cases z : b = a
  · subst z; rw [upd_same]; simp
  · rw [upd_ne z]; exact e.there b h

section
variable {X : Cx} {ca : Nat → Addr} {W : WX}
abbrev W0 : WX := fun _ _ _ _ => False
/-- the loop of a comprehension -/
theorem lc_loop {K : PySem.W.Frag} {mi : M Src} {g : GM} {vs ts : List Nat} {mc : M Bool} {me : M D} {fin : List D → Sto → Out D} {s : St} {H : Hp} {Q : VK} (hts : ∀ t ∈ ts, t ∈ vs)
    (hfin : ∀ H1 r1 H rh S acc accV p, rh.p = p :: r1.p → Ext H1 r1 H ⟨rh.l, r1.p⟩ → H1 p = none → Sim K ca H rh S → H p = some (.lst accV) → p ∉ rh.l → p ∉ r1.p → Reps K H rh acc accV → Ln K ca (rV K) H1 r1 (fin acc S) Q (fun c d H' => W c d s H') → Q (.ref p) H)
    (h : ∃ sd r S, Slots K H r sd s ∧ Sim K ca H r S ∧ Ln K ca (rV K) H r ((mLcL mi g vs mc me sd S).bind fin) Q (fun c d H' => W c d s H')) :
    tLc (rI K ca W mi) (rG K ca ts g) (rT K ca W0 mc) (rE K ca W0 me) vs s H Q := by
  obtain ⟨sd, r, S, hs, m, h⟩ := h
  have h' : Ln K ca (rV K) H r ((mi sd S).bind fun src S1 => (lcGo src g mc me (wipeD sd vs) src.len 0 [] S1).bind fin) Q (fun c d H' => W c d s H') := by
    unfold mLcL at h
    cases e : mi sd S <;> (rw [e] at h; exact h)
  refine ⟨sd, r, S, hs, m, h'.bind fun src S1 J H1 r1 x1 m1 hsrc h1 => ?_⟩
  intro p hp
  obtain ⟨P, stb, hP, turn⟩ := hsrc
  have hp1 : p ∉ r1.p := fun z => m1.prv p z hp
  have hl1 : p ∉ r1.l := fun z => m1.tracked z hp
  refine ⟨fun i k H => k = src.len - i ∧ i ≤ src.len ∧ ∃ rh S acc accV, rh.p = p :: r1.p ∧ Ext H1 r1 H ⟨rh.l, r1.p⟩ ∧ p ∉ rh.l ∧ H p = some (.lst accV) ∧ Sim K ca H rh S ∧ Reps K H rh acc accV ∧
      Slots K H rh (wipeD sd vs) (L2.wipe s vs) ∧ P H rh ∧ Ln K ca (rV K) H1 r1 ((lcGo src g mc me (wipeD sd vs) (src.len - i) i acc S).bind fin) Q (fun c d H' => W c d s H'),
    ⟨src.len, by simp, Nat.zero_le _, r1.hide p, S1, [], [], rfl, ⟨⟨[], by simp [Rg.hide], by simp⟩, (Ext.new (r := r1) hp).keep, (Ext.new (r := r1) hp).imm, (Ext.new (r := r1) hp).there⟩, hl1, upd_same, m1.hide hp, .nil, stb_slots.hide hp ((hs.mono x1).wipe vs), stb.hide hp hP, by simpa using h1⟩, ?_⟩
  rintro i k H ⟨rfl, hi, rh, S2, acc, accV, hrp, ex, hpl, hpa, m2, ha, hsl, hPH, hln⟩
  have hpm : p ∈ rh.p := by rw [hrp]; simp
  by_cases hlt : i < src.len
  · obtain ⟨j, hj⟩ : ∃ j, src.len - i = j + 1 := ⟨src.len - i - 1, by omega⟩
    rw [hj] at hln
    unfold lcGo at hln
    split at hln
    · exact hln.elim
    rename_i d ed
    split at hln
    · exact hln.elim
    rename_i sd1 S3 eg
    obtain ⟨go, yl⟩ := (turn H rh S2 hPH m2 i).1 d ed
    refine .inr ⟨go, fun H' => ∃ rh S acc accV, rh.p = p :: r1.p ∧ Ext H1 r1 H' ⟨rh.l, r1.p⟩ ∧ p ∉ rh.l ∧ H' p = some (.lst accV) ∧ Sim K ca H' rh S ∧ Reps K H' rh acc accV ∧
      Slots K H' rh (wipeD sd vs) (L2.wipe s vs) ∧ P H' rh ∧ Ln K ca (rV K) H1 r1 ((lcGo src g mc me (wipeD sd vs) (src.len - (i + 1)) (i + 1) acc S).bind fin) Q (fun c d H' => W c d s H'), fun H' w => ⟨src.len - (i + 1), by omega, rfl, hlt, w⟩, fun x H' y => ?_⟩
    have hj' : src.len - (i + 1) = j := by omega
    rw [hj']
    obtain ⟨x3, m3, q3⟩ := yl x H' y
    refine ⟨wipeD sd vs, rh, S2, d, sd1, S3, hsl.mono x3, m3, q3, eg, fun s4 H4 r4 x4 m4 hs4 f4 l4 => ⟨wipe_frame f4 l4 hts, ?_⟩⟩
    -- the test
    have x34 := x3.trans x4
    refine ⟨sd1, r4, S3, hs4, m4, ?_⟩
    cases ec : mc sd1 S3 with
    | bad => rw [ec] at hln; exact hln.elim
    | exc c fs S4 => rw [ec] at hln; exact hln.elim
    | ok b S4 =>
      rw [ec] at hln
      intro b' H5 r5 x5 m5 q5
      cases q5
      have x35 := x34.trans x5
      cases b with
      | false =>
        refine iteF ⟨r5, S4, acc, accV, by rw [x35.prv, hrp], ex.trans (x35.unhide _), x35.notin (ne_of_some hpa) hpl, x35.keep _ _ hpa hpl, m5, ha.mono x35, hsl.mono x35, stb.mono x35 hPH, hln⟩
      | true =>
        refine iteT ⟨sd1, r5, S4, hs4.mono x5, m5, ?_⟩
        cases ee : me sd1 S4 with
        | bad => simp only [ee] at hln; exact hln.elim
        | exc c fs S5 => simp only [ee] at hln; exact hln.elim
        | ok y S5 =>
          simp only [ee] at hln
          intro v H6 r6 x6 m6 q6
          have x36 := x35.trans x6
          split at hln
          · rename_i hz
            have hpa6 : H6 p = some (.lst accV) := x36.keep _ _ hpa hpl
            have hpm6 : p ∈ r6.p := by rw [x36.prv]; exact hpm
            have hpl6 : p ∉ r6.l := x36.notin (ne_of_some hpa) hpl
            have ha6 := ha.mono x36
            refine ⟨accV, hpa6, by rw [sizeLine_eq, ← ha6.length]; exact hz, r6, S5, acc ++ [y], accV ++ [v], by rw [x36.prv, hrp], (ex.trans (x36.unhide _)).chg hp, hpl6, upd_same, m6.chg ⟨_, hpa6, id⟩ hpm6 hpl6, (ha6.append (.cons q6 .nil)).chg ⟨_, hpa6, id⟩ hpm6,
              stb_slots.chg ⟨_, hpa6, id⟩ hpm6 (hsl.mono x36), stb.chg ⟨_, hpa6, id⟩ hpm6 (stb.mono x36 hPH), hln⟩
          · exact hln.elim
  · have e : i = src.len := by omega
    subst e
    rw [Nat.sub_self] at hln
    unfold lcGo at hln
    split at hln
    · rename_i hf
      refine .inl ⟨(turn H rh S2 hPH m2 _).2 rfl hf, ?_⟩
      exact hfin H1 r1 H rh S2 acc accV p hrp ex hp m2 hpa hpl hp1 ha hln
    · exact hln.elim
variable {elt tg iter : Expr} {ifs : List Expr} {scope : Scope} {own : List (Str × Nat)} {pos : Pos} {mi : M Src} {g : GM} {ts : List Nat} {mc : M Bool} {me : M D}
theorem mv_show {r1 rh : Rg} {p : Addr} (e : rh.p = p :: r1.p) : Mv rh ⟨rh.l, r1.p⟩ := ⟨fun _ _ h => h, fun a h1 h2 => ⟨h1, fun z => h2 (by rw [e]; exact List.mem_cons_of_mem _ z)⟩⟩
theorem mv_add {r1 rh : Rg} {p : Addr} (e : rh.p = p :: r1.p) : Mv rh ⟨rh.l ++ [p], r1.p⟩ := by
  refine ⟨fun n a h => ?_, fun a h1 h2 => ⟨fun z => ?_, fun z => h2 (by rw [e]; exact List.mem_cons_of_mem _ z)⟩⟩
  · show (rh.l ++ [p])[n]? = some a
    rw [List.getElem?_append_left (List.getElem?_eq_some_iff.mp h).1]; exact h
  · rcases List.mem_append.mp z with z | z
    · exact h1 z
    · simp at z; exact h2 (by rw [e, z]; simp)
theorem fin_val {K : PySem.W.Frag} {s : St} {Q : VK} (H1 : Hp) (r1 : Rg) (H : Hp) (rh : Rg) (S : Sto) (acc : List D) (accV : List V) (p : Addr) (e : rh.p = p :: r1.p) (ex : Ext H1 r1 H ⟨rh.l, r1.p⟩) (_ : H1 p = none) (m : Sim K ca H rh S) (hp : H p = some (.lst accV)) (hl : p ∉ rh.l) (hr : p ∉ r1.p) (ha : Reps K H rh acc accV)
    (h : Ln K ca (rV K) H1 r1 (.ok (.lst acc) S) Q (fun c d H' => W c d s H')) : Q (.ref p) H :=
  h _ H _ ex (m.move (mv_show e) rfl fun a ha => by rw [e]; exact List.mem_cons_of_mem _ ha) (.lst hp hl hr (ha.move (mv_show e)))
theorem fin_loc {K : PySem.W.Frag} {s : St} {Q : VK} (H1 : Hp) (r1 : Rg) (H : Hp) (rh : Rg) (S : Sto) (acc : List D) (accV : List V) (p : Addr) (e : rh.p = p :: r1.p) (ex : Ext H1 r1 H ⟨rh.l, r1.p⟩) (hn : H1 p = none) (m : Sim K ca H rh S) (hp : H p = some (.lst accV)) (hl : p ∉ rh.l) (hr : p ∉ r1.p) (ha : Reps K H rh acc accV)
    (h : Ln K ca (rV K) H1 r1 (.ok (.loc S.length) (S ++ [.lst acc])) Q (fun c d H' => W c d s H')) : Q (.ref p) H := by
  have hat : (rh.l ++ [p])[S.length]? = some p := by rw [← m.len, List.getElem?_append_right (Nat.le_refl _), Nat.sub_self]; rfl
  refine h _ H ⟨rh.l ++ [p], r1.p⟩ ?_ ?_ (.loc hat)
  · obtain ⟨l, e', hl'⟩ := ex.more
    refine ⟨⟨l ++ [p], ?_, fun a ha' => ?_⟩, ex.keep, ex.imm, ex.there⟩
    · have : rh.l = r1.l ++ l := by injection e'
      rw [this]; simp
    · rcases List.mem_append.mp ha' with z | z
      · exact hl' a z
      · simp at z; rw [z]; exact hn
  · refine ⟨by simp [m.len], List.nodup_append.mpr ⟨m.nd, by simp, fun a ha b hb => by simp at hb; subst hb; exact fun z => hl (z ▸ ha)⟩, fun n u hu => ?_, fun a ha => m.prv a (by rw [e]; exact List.mem_cons_of_mem _ ha)⟩
    by_cases hlt : n < S.length
    · rw [List.getElem?_append_left hlt] at hu
      obtain ⟨b, h1, h2⟩ := m.obj n u hu
      exact ⟨b, (mv_add e).at_ _ _ h1, h2.move (mv_add e)⟩
    · rw [List.getElem?_append_right (by omega)] at hu
      have hz : n - S.length = 0 := by
        have := (List.getElem?_eq_some_iff.mp hu).1
        simp at this; omega
      rw [hz] at hu
      simp at hu
      subst hu
      have hn' : n = S.length := by omega
      subst hn'
      exact ⟨p, hat, accV, hp, ha.move (mv_add e)⟩
theorem z_lc (hc : X.calm = true) (hN : X.N.Nodup) (hi : PI X tg iter (rI X.K ca W mi)) (ok : BlkOk X.N X.env.scope scope own) (hts : ∀ t ∈ ts, t ∈ own.map (·.2))
    (hg : ∀ (s : Shared) (H : Hp) (C : Addr) (cl : List (Str × Addr)) (fp : List Addr), PG (X.blk s H scope (compEnvC scope cl C X.env) fp) tg (rG X.K ca ts g)) (ht : ∀ (s : Shared) (H : Hp) (C : Addr) (cl : List (Str × Addr)) (fp : List Addr), PTs (X.blk s H scope (compEnvC scope cl C X.env) fp) ifs (rT X.K ca W0 mc))
    (he : ∀ (s : Shared) (H : Hp) (C : Addr) (cl : List (Str × Addr)) (fp : List Addr), PE (X.blk s H scope (compEnvC scope cl C X.env) fp) elt (rE X.K ca W0 me)) (hs : ∀ x, foldedSetIterable iter X.env x = pure x) :
    PE X (.ListComp elt [⟨tg, iter, ifs, 0⟩] scope pos) (rE X.K ca W (mLc mi g (own.map (·.2)) mc me)) := PE.imp (pe_lc hc hN hi ok hg ht he hs) fun s H Q h => lc_loop hts fin_val h
theorem z_lcM (hc : X.calm = true) (hN : X.N.Nodup) (hi : PI X tg iter (rI X.K ca W mi)) (ok : BlkOk X.N X.env.scope scope own) (hts : ∀ t ∈ ts, t ∈ own.map (·.2))
    (hg : ∀ (s : Shared) (H : Hp) (C : Addr) (cl : List (Str × Addr)) (fp : List Addr), PG (X.blk s H scope (compEnvC scope cl C X.env) fp) tg (rG X.K ca ts g)) (ht : ∀ (s : Shared) (H : Hp) (C : Addr) (cl : List (Str × Addr)) (fp : List Addr), PTs (X.blk s H scope (compEnvC scope cl C X.env) fp) ifs (rT X.K ca W0 mc))
    (he : ∀ (s : Shared) (H : Hp) (C : Addr) (cl : List (Str × Addr)) (fp : List Addr), PE (X.blk s H scope (compEnvC scope cl C X.env) fp) elt (rE X.K ca W0 me)) (hs : ∀ x, foldedSetIterable iter X.env x = pure x) :
    PE X (.ListComp elt [⟨tg, iter, ifs, 0⟩] scope pos) (rE X.K ca W (mLcM mi g (own.map (·.2)) mc me)) := PE.imp (pe_lc hc hN hi ok hg ht he hs) fun s H Q h => lc_loop hts fin_loc h
end
end Z

/-! Z layer, part H: statements. -/
namespace Z
open PySem PySem.Spec PyProof.Rows L2

inductive Fl where
  | nx | rt (d : D) | bk | ct
inductive OutS where
  | ok (f : Fl) (sd : Sl) (S : Sto)
  | exc (c : Nat) (fs : XF) (sd : Sl) (S : Sto)
  | bad
abbrev MS := Sl → Sto → OutS
def Out.toS {T : Type} (o : Out T) (sd : Sl) (f : T → Sto → OutS) : OutS := match o with
  | .ok a S => f a S
  | .exc c fs S => .exc c fs sd S
  | .bad => .bad

section
variable (K : PySem.W.Frag) (ca : Nat → Addr)
def LnS (H : Hp) (r : Rg) (o : OutS) (D : Ends) (W : WX) : Prop := match o with
  | .ok .nx sd S => ∀ s H' r', Ext H r H' r' → Sim K ca H' r' S → Slots K H' r' sd s → D.nx s H'
  | .ok .bk sd S => ∀ s H' r', Ext H r H' r' → Sim K ca H' r' S → Slots K H' r' sd s → D.bk s H'
  | .ok .ct sd S => ∀ s H' r', Ext H r H' r' → Sim K ca H' r' S → Slots K H' r' sd s → D.ct s H'
  | .ok (.rt d) _ S => ∀ v H' r', Ext H r H' r' → Sim K ca H' r' S → Rep K H' r' d v → D.rt v H'
  | .exc c fs sd S => ∀ cls d s H' r', Ext H r H' r' → Sim K ca H' r' S → Slots K H' r' sd s → XRep K ca H' r' c fs cls d → W cls d s H'
  | .bad => False
def rS (W : WX) (m : MS) : TS := fun D s H => ∃ sd r S, Slots K H r sd s ∧ Sim K ca H r S ∧ LnS K ca H r (m sd S) D W
end
section
variable {K : PySem.W.Frag} {ca : Nat → Addr} {H H1 : Hp} {r r1 : Rg} {D : Ends} {W : WX}
theorem LnS.ext {o : OutS} (e : Ext H r H1 r1) (h : LnS K ca H r o D W) : LnS K ca H1 r1 o D W := by
  cases o with
  | ok f sd S => cases f with
    | nx => exact fun s H' r' x => h s H' r' (e.trans x)
    | bk => exact fun s H' r' x => h s H' r' (e.trans x)
    | ct => exact fun s H' r' x => h s H' r' (e.trans x)
    | rt d => exact fun s H' r' x => h s H' r' (e.trans x)
  | exc c fs sd S => exact fun cls d s H' r' x => h cls d s H' r' (e.trans x)
  | bad => exact h
theorem LnS.bindE {T A : Type} {R : RR T A} {o : Out T} {sd : Sl} {s : St} {f : T → Sto → OutS} {Q1 : A → Hp → Prop} (hs : Slots K H r sd s) (h : LnS K ca H r (o.toS sd f) D W)
    (k : ∀ d S v H1 r1, Ext H r H1 r1 → Sim K ca H1 r1 S → R H1 r1 d v → LnS K ca H1 r1 (f d S) D W → Q1 v H1) : Ln K ca R H r o Q1 (fun c d H' => W c d s H') := by
  cases o with
  | ok d S => exact fun v H' r' x m q => k d S v H' r' x m q (LnS.ext x h)
  | exc c fs S => exact fun cls d H' r' x m q => h cls d s H' r' x m (hs.mono x) q
  | bad => exact h
theorem LnS.nx_ {sd : Sl} {S : Sto} {s : St} (h : LnS K ca H r (.ok .nx sd S) D W) (m : Sim K ca H r S) (hs : Slots K H r sd s) : D.nx s H := h s H r (Ext.refl ..) m hs
end

def mSkip : MS := fun sd S => .ok .nx sd S
def mThen (a b : MS) : MS := fun sd S => match a sd S with
  | .ok .nx sd1 S1 => b sd1 S1
  | o => o
def mExpr (a : M D) : MS := fun sd S => (a sd S).toS sd fun _ S1 => .ok .nx sd S1
def mRet (a : M D) : MS := fun sd S => (a sd S).toS sd fun d S1 => .ok (.rt d) sd S1
def mRetN : MS := fun sd S => .ok (.rt .non) sd S
def mAsg (a : M D) (g : GM) : MS := fun sd S => (a sd S).toS sd fun d S1 => match g d sd S1 with
  | some (sd2, S2) => .ok .nx sd2 S2
  | none => .bad
def mAug (i : Nat) (f : Sto → D → D → Option D) (a : M D) : MS := fun sd S => match sd[i]? with
  | some (some x) => (a sd S).toS sd fun y S1 => match f S1 x y with
    | some z => .ok .nx (sd.set i (some z)) S1
    | none => .bad
  | _ => .bad
def mIte (c : M Bool) (a b : MS) : MS := fun sd S => (c sd S).toS sd fun k S1 => if k then a sd S1 else b sd S1
def mBrk : MS := fun sd S => .ok .bk sd S
def mCnt : MS := fun sd S => .ok .ct sd S
def forGo (src : Src) (g : GM) (b : MS) : Nat → Nat → Sl → Sto → OutS
  | 0, _, sd, S => if src.fin S then .ok .nx sd S else .bad
  | k + 1, i, sd, S => match src.at S i with
    | none => .bad
    | some d => match g d sd S with
      | none => .bad
      | some (sd1, S1) => match b sd1 S1 with
        | .ok .nx sd2 S2 => forGo src g b k (i + 1) sd2 S2
        | .ok .ct sd2 S2 => forGo src g b k (i + 1) sd2 S2
        | .ok .bk sd2 S2 => .ok .nx sd2 S2
        | .ok (.rt d) sd2 S2 => .ok (.rt d) sd2 S2
        | .exc c fs sd2 S2 => .exc c fs sd2 S2
        | .bad => .bad
def mFor (mi : M Src) (g : GM) (b : MS) : MS := fun sd S => (mi sd S).toS sd fun src S1 => forGo src g b src.len 0 sd S1
def whGo (c : M Bool) (b : MS) : Nat → Sl → Sto → OutS
  | 0, _, _ => .bad
  | k + 1, sd, S => (c sd S).toS sd fun t S1 => if t then match b sd S1 with
      | .ok .nx sd2 S2 => whGo c b k sd2 S2
      | .ok .ct sd2 S2 => whGo c b k sd2 S2
      | .ok .bk sd2 S2 => .ok .nx sd2 S2
      | .ok (.rt d) sd2 S2 => .ok (.rt d) sd2 S2
      | .exc c fs sd2 S2 => .exc c fs sd2 S2
      | .bad => .bad
    else .ok .nx sd S1

section
variable {X : Cx} {ca : Nat → Addr} {W : WX} {pos : Pos}
theorem PS.imp {e : Stmt} {t t' : TS} (h : PS X e t) (i : ∀ D s H, t' D s H → t D s H) : PS X e t' := ⟨fun pins s σ H D I w => h.run pins s σ H D I (i D σ H w)⟩
theorem PSs.imp {e : List Stmt} {t t' : TS} (h : PSs X e t) (i : ∀ D s H, t' D s H → t D s H) : PSs X e t' := ⟨fun pins s σ H D I w => h.run pins s σ H D I (i D σ H w)⟩
theorem s_nil : PSs X [] (rS X.K ca W mSkip) := PSs.imp pss_nil fun D s H ⟨sd, r, S, hs, m, h⟩ => h.nx_ m hs
theorem s_cons {a : Stmt} {es : List Stmt} {m1 m2 : MS} (h1 : PS X a (rS X.K ca W m1)) (h2 : PSs X es (rS X.K ca W m2)) : PSs X (a :: es) (rS X.K ca W (mThen m1 m2)) := PSs.imp (pss_cons h1 h2) fun D s H ⟨sd, r, S, hs, m, h⟩ => by
  refine ⟨sd, r, S, hs, m, ?_⟩
  unfold mThen at h
  cases e : m1 sd S with
  | bad => rw [e] at h; exact h.elim
  | exc c fs sd1 S1 => rw [e] at h; exact h
  | ok f sd1 S1 =>
    rw [e] at h
    cases f with
    | nx => exact fun s' H' r' x m' q => ⟨sd1, r', S1, q, m', LnS.ext x h⟩
    | bk => exact h
    | ct => exact h
    | rt d => exact h
theorem s_expr {a : Expr} {ma : M D} (ha : PE X a (rE X.K ca W ma)) (hs : swapsWith a none pos.line X.env = pure false) : PS X (.Expr a pos) (rS X.K ca W (mExpr ma)) := PS.imp (ps_expr ha hs) fun D s H ⟨sd, r, S, hs, m, h⟩ =>
  ⟨sd, r, S, hs, m, LnS.bindE hs h fun d S1 v H1 r1 x1 m1 q1 h1 => h1.nx_ m1 (hs.mono x1)⟩
theorem s_doc {x : Str} {j : Nat} {p : Pos} : PS X (.Expr (.Constant (.str x) j p) pos) (rS X.K ca W mSkip) := PS.imp ps_doc fun D s H ⟨sd, r, S, hs, m, h⟩ => h.nx_ m hs
theorem s_pass : PS X (.Pass pos) (rS X.K ca W mSkip) := PS.imp ps_pass fun D s H ⟨sd, r, S, hs, m, h⟩ => h.nx_ m hs
theorem s_brk : PS X (.Break pos) (rS X.K ca W mBrk) := PS.imp ps_break fun D s H ⟨sd, r, S, hs, m, h⟩ => h s H r (Ext.refl ..) m hs
theorem s_cnt : PS X (.Continue pos) (rS X.K ca W mCnt) := PS.imp ps_continue fun D s H ⟨sd, r, S, hs, m, h⟩ => h s H r (Ext.refl ..) m hs
theorem s_ret {a : Expr} {ma : M D} (ha : PE X a (rE X.K ca W ma)) : PS X (.Return (some a) pos) (rS X.K ca W (mRet ma)) := PS.imp (ps_ret ha) fun D s H ⟨sd, r, S, hs, m, h⟩ =>
  ⟨sd, r, S, hs, m, LnS.bindE hs h fun d S1 v H1 r1 x1 m1 q1 h1 => h1 v H1 r1 (Ext.refl ..) m1 q1⟩
theorem s_retN : PS X (.Return none pos) (rS X.K ca W mRetN) := PS.imp ps_retN fun D s H ⟨sd, r, S, hs, m, h⟩ => h .non H r (Ext.refl ..) m .non
theorem asg_in {K : PySem.W.Frag} {ma : M D} {g : GM} {ts : List Nat} {D : Ends} {s : St} {sd : Sl} {H : Hp} {r : Rg} {S : Sto} (hs : Slots K H r sd s) (m : Sim K ca H r S) (h : LnS K ca H r (mAsg ma g sd S) D W) : tAsg (rE K ca W ma) (rG K ca ts g) D s H :=
  ⟨sd, r, S, hs, m, LnS.bindE hs h fun d S1 v H1 r1 x1 m1 q1 h1 => by
    split at h1
    · rename_i sd2 S2 e
      exact ⟨sd, r1, S1, d, sd2, S2, hs.mono x1, m1, q1, e, fun s' H' r' x m' hs' _ _ => h1 s' H' r' x m' hs'⟩
    · exact h1.elim⟩
theorem s_asg {tg a : Expr} {ma : M D} {g : GM} {ts : List Nat} (ha : PE X a (rE X.K ca W ma)) (hg : PG X tg (rG X.K ca ts g)) (hs : swapsWithSole [tg] a pos.line X.env = pure false) (hw : swappedStores [tg] a X.env = pure none)
    (h1 : (assignEach [tg] X.env).map (·.2) = [assign tg X.env]) : PS X (.Assign [tg] a pos) (rS X.K ca W (mAsg ma g)) := PS.imp (ps_asg ha hg hs hw h1) fun D s H ⟨sd, r, S, hs, m, h⟩ => asg_in hs m h
theorem s_aug {i : Nat} {x : Str} {a : Expr} {ma : M D} {op : Operator} {R : R2} {f : Sto → D → D → Option D} {p : Pos} (hN : X.N.Nodup) (hi : X.N[i]? = some x) (hx : Loc X.env.scope x) (ha : PE X a (rE X.K ca W ma)) (ho : OpR X (inplaceOp op) R) (hz : OpZ X.K ca R f)
    (hf : X.fn x = true ∨ X.env.scope.names.lookup x = some .local) : PS X (.AugAssign (.Name x p) op a pos) (rS X.K ca W (mAug i f ma)) := PS.imp (ps_aug hN hi hx ha ho hf) fun D s H ⟨sd, r, S, hs, m, h⟩ => by
  unfold mAug at h
  split at h
  · rename_i d e
    obtain ⟨v, h1, h2⟩ := hs.at_ i d e
    refine ⟨v, h1, sd, r, S, hs, m, LnS.bindE hs h fun y S1 u H1 r1 x1 m1 q1 h3 => ?_⟩
    split at h3
    · rename_i z e2
      exact hz m1 (h2.mono x1) q1 e2 fun w H' x' m' q' => h3 _ H' r1 x' m' (((hs.mono x1).mono x').set q')
    · exact h3.elim
  · exact h.elim
theorem s_ite {c : Expr} {a b : List Stmt} {mc : M Bool} {m1 m2 : MS} (hc : PT X c (rT X.K ca W mc)) (ha : PSs X a (rS X.K ca W m1)) (hb : PSs X b (rS X.K ca W m2)) : PS X (.If c a b pos) (rS X.K ca W (mIte mc m1 m2)) := PS.imp (ps_if hc ha hb) fun D s H ⟨sd, r, S, hs, m, h⟩ =>
  ⟨sd, r, S, hs, m, LnS.bindE hs h fun d S1 v H1 r1 x1 m1 q1 h1 => by
    cases q1
    cases d with
    | true => exact iteT ⟨sd, r1, S1, hs.mono x1, m1, h1⟩
    | false => exact iteF ⟨sd, r1, S1, hs.mono x1, m1, h1⟩⟩
theorem s_for {tg iter : Expr} {body : List Stmt} {mi : M Src} {g : GM} {ts : List Nat} {mb : MS} (hp : PassesOwn (model X.prog X.w) X.A X.env X.xe) (hc : X.calm = true) (hi : PI X tg iter (rI X.K ca W mi)) (hg : PG X tg (rG X.K ca ts g)) (hb : PSs X body (rS X.K ca W mb))
    (hs : ∀ x, foldedSetIterable iter X.env x = pure x) : PS X (.For tg iter body [] pos) (rS X.K ca W (mFor mi g mb)) := PS.imp (ps_for hp hc hi hg hb hs) fun D s H ⟨sd, r, S, hs, m, h⟩ =>
  ⟨sd, r, S, hs, m, LnS.bindE hs h fun src S1 J H1 r1 x1 m1 hsrc h1 => by
    obtain ⟨P, stb, hP, turn⟩ := hsrc
    refine ⟨fun i k s H => k = src.len - i ∧ i ≤ src.len ∧ ∃ sd r S, Slots X.K H r sd s ∧ Sim X.K ca H r S ∧ P H r ∧ LnS X.K ca H r (forGo src g mb (src.len - i) i sd S) D W, ⟨src.len, by simp, Nat.zero_le _, sd, r1, S1, hs.mono x1, m1, hP, by simpa using h1⟩, ?_⟩
    rintro i k s2 H2 ⟨rfl, hi, sd2, r2, S2, hs2, m2, hP2, h2⟩
    by_cases hlt : i < src.len
    · obtain ⟨j, hj⟩ : ∃ j, src.len - i = j + 1 := ⟨src.len - i - 1, by omega⟩
      rw [hj] at h2
      unfold forGo at h2
      split at h2
      · exact h2.elim
      rename_i d ed
      split at h2
      · exact h2.elim
      rename_i sd3 S3 eg
      obtain ⟨go, yl⟩ := (turn H2 r2 S2 hP2 m2 i).1 d ed
      refine .inr ⟨go, fun s' H' => ∃ sd r S, Slots X.K H' r sd s' ∧ Sim X.K ca H' r S ∧ P H' r ∧ LnS X.K ca H' r (forGo src g mb (src.len - (i + 1)) (i + 1) sd S) D W, fun s' H' w => ⟨src.len - (i + 1), by omega, rfl, hlt, w⟩, fun x H' y => ?_⟩
      have hj' : src.len - (i + 1) = j := by omega
      rw [hj']
      obtain ⟨x3, m3, q3⟩ := yl x H' y
      refine ⟨sd2, r2, S2, d, sd3, S3, hs2.mono x3, m3, q3, eg, fun s4 H4 r4 x4 m4 hs4 f4 l4 => ⟨sd3, r4, S3, hs4, m4, ?_⟩⟩
      have x34 := x3.trans x4
      cases eb : mb sd3 S3 with
      | bad => rw [eb] at h2; exact h2.elim
      | exc c fs sd5 S5 => rw [eb] at h2; exact LnS.ext x34 h2
      | ok f sd5 S5 =>
        rw [eb] at h2
        cases f with
        | nx => exact fun s5 H5 r5 x5 m5 hs5 => ⟨sd5, r5, S5, hs5, m5, stb.mono (x34.trans x5) hP2, LnS.ext (x34.trans x5) h2⟩
        | ct => exact fun s5 H5 r5 x5 m5 hs5 => ⟨sd5, r5, S5, hs5, m5, stb.mono (x34.trans x5) hP2, LnS.ext (x34.trans x5) h2⟩
        | bk => exact fun s5 H5 r5 x5 m5 hs5 => h2 s5 H5 r5 (x34.trans x5) m5 hs5
        | rt d => exact fun v H5 r5 x5 m5 q5 => h2 v H5 r5 (x34.trans x5) m5 q5
    · have e : i = src.len := by omega
      subst e
      rw [Nat.sub_self] at h2
      unfold forGo at h2
      split at h2
      · rename_i hf
        exact .inl ⟨(turn H2 r2 S2 hP2 m2 _).2 rfl hf, h2.nx_ m2 hs2⟩
      · exact h2.elim⟩
theorem s_whl {c : Expr} {body : List Stmt} {mc : M Bool} {mb : MS} {k : Nat} (hp : PassesOwn (model X.prog X.w) X.A X.env X.xe) (hc : PT X c (rT X.K ca W mc)) (hb : PSs X body (rS X.K ca W mb)) :
    PS X (.While c body [] pos) (rS X.K ca W (whGo mc mb k)) := PS.imp (ps_while hp hc hb) fun D s H ⟨sd, r, S, hs, m, h⟩ => by
  refine ⟨fun k s H => ∃ sd r S, Slots X.K H r sd s ∧ Sim X.K ca H r S ∧ LnS X.K ca H r (whGo mc mb k sd S) D W, ⟨k, sd, r, S, hs, m, h⟩, ?_⟩
  rintro k s2 H2 ⟨sd2, r2, S2, hs2, m2, h2⟩
  cases k with
  | zero => exact h2.elim
  | succ k =>
    unfold whGo at h2
    refine ⟨sd2, r2, S2, hs2, m2, LnS.bindE hs2 h2 fun t S3 v H3 r3 x3 m3 q3 h3 => ?_⟩
    cases q3
    cases t with
    | false => exact iteF (h3.nx_ m3 (hs2.mono x3))
    | true =>
      refine iteT ⟨fun s' H' => ∃ sd r S, Slots X.K H' r sd s' ∧ Sim X.K ca H' r S ∧ LnS X.K ca H' r (whGo mc mb k sd S) D W, fun s' H' w => ⟨k, Nat.lt_succ_self _, w⟩, sd2, r3, S3, hs2.mono x3, m3, ?_⟩
      simp only [↓reduceIte] at h3
      cases eb : mb sd2 S3 with
      | bad => rw [eb] at h3; exact h3.elim
      | exc c fs sd5 S5 => rw [eb] at h3; exact h3
      | ok f sd5 S5 =>
        rw [eb] at h3
        cases f with
        | nx => exact fun s5 H5 r5 x5 m5 hs5 => ⟨sd5, r5, S5, hs5, m5, LnS.ext x5 h3⟩
        | ct => exact fun s5 H5 r5 x5 m5 hs5 => ⟨sd5, r5, S5, hs5, m5, LnS.ext x5 h3⟩
        | bk => exact fun s5 H5 r5 x5 m5 hs5 => h3 s5 H5 r5 x5 m5 hs5
        | rt d => exact fun v H5 r5 x5 m5 q5 => h3 v H5 r5 x5 m5 q5
end
end Z

/-! Z layer, part I: assignments of other forms, list methods, calls of defs. -/
namespace Z
open PySem PySem.Spec PyProof.Rows L2

/-! ### o[i] = v -/
def gSubM (mo mi : M D) : GM := fun d sd S => match mo sd S with
  | .ok (.loc n) S1 => match mi sd S1 with
    | .ok (.int k) S2 => match S2[n]? with
      | some (.lst xs) => match ixN xs.length k with
        | some j => some (sd, S2.set n (.lst (xs.set j d)))
        | none => none
      | _ => none
    | _ => none
  | _ => none
section
variable {X : Cx} {ca : Nat → Addr} {W : WX} {pos : Pos}
theorem z_gsub {o i : Expr} {mo mi : M D} (ho : PE X o (rE X.K ca W mo)) (hi : PE X i (rE X.K ca W mi))
    (ha : ∀ v, assign (.Subscript o i pos) X.env v = (do
      let ov ← holding [v] (eval o X.env)
      let iv ← holding [v, ov] (eval i X.env)
      standAt pos
      holding [v, ov, iv] (setItem ov iv v)
      release [v, ov, iv] [])) : PG X (.Subscript o i pos) (rG X.K ca [] (gSubM mo mi)) := PG.imp (pg_sub ho hi set_list ha) fun v s H Q ⟨sd, r, S, d, sd', S', hs, m, q, e, k⟩ => by
  unfold gSubM at e
  split at e
  · rename_i n S1 e1
    split at e
    · rename_i ki S2 e2
      split at e
      · rename_i xs e3
        split at e
        · rename_i j e4
          cases e
          refine ⟨sd, r, S, hs, m, ?_⟩
          rw [e1]
          intro v1 H1 r1 x1 m1 q1
          refine ⟨sd, r1, S1, hs.mono x1, m1, ?_⟩
          rw [e2]
          intro v2 H2 r2 x2 m2 q2
          cases q2
          obtain ⟨a, rfl, h1, vs, h2, h3⟩ := m2.loc (q1.mono x2) e3
          refine ⟨a, vs, ki, j, rfl, rfl, h2, by rw [← h3.length]; exact e4, ?_⟩
          have ex : Ext H2 r2 (upd H2 a (.lst (vs.set j v))) r2 := m2.writeExt h1
          have q' := q.mono (x1.trans x2)
          refine k s _ r2 ((x1.trans x2).trans ex) (m2.write h1 ⟨vs.set j v, upd_same, (h3.mono ex).set (q'.mono ex) j⟩) ((hs.mono (x1.trans x2)).mono ex) (fun _ _ => rfl) rfl
        · cases e
      · cases e
    · cases e
  · cases e
end

/-! ### xs.append(y), xs.extend(ys) -/
def mApp (o : M D) (a : M (List D)) : M D := fun sd S => (o sd S).bind fun x S1 => match x with
  | .loc n => match S1[n]? with
    | some (.lst _) => (a sd S1).bind fun ys S2 => match ys, S2[n]? with
      | [y], some (.lst xs) => if xs.length < 16777216 then .ok .non (S2.set n (.lst (xs ++ [y]))) else .bad
      | _, _ => .bad
    | _ => .bad
  | _ => .bad
def mExt (o : M D) (a : M (List D)) : M D := fun sd S => (o sd S).bind fun x S1 => match x with
  | .loc n => match S1[n]? with
    | some (.lst _) => (a sd S1).bind fun ys S2 => match ys, S2[n]? with
      | [y], some (.lst xs) => match asL S2 y with
        | some zs => if xs.length + zs.length ≤ 16777216 then .ok .non (S2.set n (.lst (xs ++ zs))) else .bad
        | none => .bad
      | _, _ => .bad
    | _ => .bad
  | _ => .bad
section
variable {X : Cx} {ca : Nat → Addr} {W : WX}
theorem app_in {K : PySem.W.Frag} {mo : M D} {ml : M (List D)} {s : St} {H : Hp} {Q : VK} (h : rE K ca W (mApp mo ml) s H Q) : tBM K "list" rAppend (rE K ca W mo) (rA K ca W ml) s H Q := by
  obtain ⟨sd, r, S, hs, m, h⟩ := h
  refine ⟨sd, r, S, hs, m, h.bind fun d1 S1 v1 H1 r1 x1 m1 q1 h1 => ?_⟩
  split at h1
  · rename_i n
    split at h1
    · rename_i xs0 e0
      obtain ⟨a, rfl, ha, vs0, hv0, _⟩ := m1.loc q1 e0
      refine ⟨.inl ⟨rfl, vs0, .of hv0⟩, sd, r1, S1, hs.mono x1, m1, h1.bind fun ys S2 vs H2 r2 x2 m2 q2 h2 => ?_⟩
      split at h2
      · rename_i y xs e2
        split at h2
        · rename_i hl
          obtain ⟨b, hb, hb2, us, hu, hru⟩ := m2.loc (q1.mono x2) e2
          cases hb
          cases q2 with
          | @cons _ _ vy _ qy qn =>
            cases qn
            refine ⟨a, us, vy, rfl, rfl, hu, by rw [sizeLine_eq, ← hru.length]; exact hl, ?_⟩
            have ex := m2.writeExt (o := .lst (us ++ [vy])) hb2
            exact h2 _ _ r2 ex (m2.write hb2 ⟨_, upd_same, (hru.mono ex).append (.cons (qy.mono ex) .nil)⟩) .non
        · exact h2.elim
      · exact h2.elim
    · exact h1.elim
  · exact h1.elim
theorem ext_in {K : PySem.W.Frag} {mo : M D} {ml : M (List D)} {s : St} {H : Hp} {Q : VK} (h : rE K ca W (mExt mo ml) s H Q) : tBM K "list" rExtend (rE K ca W mo) (rA K ca W ml) s H Q := by
  obtain ⟨sd, r, S, hs, m, h⟩ := h
  refine ⟨sd, r, S, hs, m, h.bind fun d1 S1 v1 H1 r1 x1 m1 q1 h1 => ?_⟩
  split at h1
  · rename_i n
    split at h1
    · rename_i xs0 e0
      obtain ⟨a, rfl, ha, vs0, hv0, _⟩ := m1.loc q1 e0
      refine ⟨.inl ⟨rfl, vs0, .of hv0⟩, sd, r1, S1, hs.mono x1, m1, h1.bind fun ys S2 vs H2 r2 x2 m2 q2 h2 => ?_⟩
      split at h2
      · rename_i y xs e2
        split at h2
        · rename_i zs e3
          split at h2
          · rename_i hl
            obtain ⟨b, hb, hb2, us, hu, hru⟩ := m2.loc (q1.mono x2) e2
            cases hb
            cases q2 with
            | cons qy qn =>
              cases qn
              obtain ⟨c, ws, rfl, hc, hrw⟩ := asL_rep m2 qy e3
              refine ⟨a, c, us, ws, rfl, rfl, hu, hc, by rw [sizeLine_eq, ← hru.length, ← hrw.length]; exact hl, ?_⟩
              have ex := m2.writeExt (o := .lst (us ++ ws)) hb2
              exact h2 _ _ r2 ex (m2.write hb2 ⟨_, upd_same, (hru.mono ex).append (hrw.mono ex)⟩) .non
          · exact h2.elim
        · exact h2.elim
      · exact h2.elim
    · exact h1.elim
  · exact h1.elim
end

/-! ### y = [..]; a, b = x, y -/
def mPar (is : List Nat) (a : M (List D)) : MS := fun sd S => (a sd S).toS sd fun ds S1 => match is, ds with
  | [i, j], [x, y] => .ok .nx ((sd.set i (some x)).set j (some y)) S1
  | [i, j, l], [x, y, z] => .ok .nx (((sd.set i (some x)).set j (some y)).set l (some z)) S1
  | _, _ => .bad
section
variable {X : Cx} {ca : Nat → Addr} {W : WX} {pos : Pos}
theorem par_in {K : PySem.W.Frag} {i j : Nat} {ml : M (List D)} {D : Ends} {s : St} {H : Hp} (h : rS K ca W (mPar [i, j] ml) D s H) : tPar i j (rA K ca W ml) D s H := by
  obtain ⟨sd, r, S, hs, m, h⟩ := h
  refine ⟨sd, r, S, hs, m, LnS.bindE hs h fun ds S1 vs H1 r1 x1 m1 q1 h1 => ?_⟩
  split at h1
  · rename_i i' j' x y e1
    cases e1
    cases q1 with
    | cons qx q =>
      cases q with
      | cons qy q =>
        cases q
        exact ⟨_, _, rfl, h1.nx_ m1 (((hs.mono x1).set qx).set qy)⟩
  · rename_i e1; cases e1
  · exact h1.elim
theorem par3_in {K : PySem.W.Frag} {i j l : Nat} {ml : M (List D)} {D : Ends} {s : St} {H : Hp} (h : rS K ca W (mPar [i, j, l] ml) D s H) : tPar3 i j l (rA K ca W ml) D s H := by
  obtain ⟨sd, r, S, hs, m, h⟩ := h
  refine ⟨sd, r, S, hs, m, LnS.bindE hs h fun ds S1 vs H1 r1 x1 m1 q1 h1 => ?_⟩
  split at h1
  · rename_i e1; cases e1
  · rename_i i' j' l' x y z e1
    cases e1
    cases q1 with
    | cons qx q =>
      cases q with
      | cons qy q =>
        cases q with
        | cons qz q =>
          cases q
          exact ⟨_, _, _, rfl, h1.nx_ m1 ((((hs.mono x1).set qx).set qy).set qz)⟩
  · exact h1.elim
variable {elt tg iter : Expr} {ifs : List Expr} {scope : Scope} {own : List (Str × Nat)} {mi : M Src} {g : GM} {ts : List Nat} {mc : M Bool} {me : M D} {i : Nat} {y : Str} {py spos : Pos}
theorem setLc_in {K : PySem.W.Frag} {vs : List Nat} {fin : List D → Sto → Out D} (hts : ∀ t ∈ ts, t ∈ vs) {D : Ends} {s : St} {H : Hp}
    (hfin : ∀ (Q : VK) H1 r1 H rh S acc accV p, rh.p = p :: r1.p → Ext H1 r1 H ⟨rh.l, r1.p⟩ → H1 p = none → Sim K ca H rh S → H p = some (.lst accV) → p ∉ rh.l → p ∉ r1.p → Reps K H rh acc accV → Ln K ca (rV K) H1 r1 (fin acc S) Q (fun c d H' => W c d s H') → Q (.ref p) H)
    (h : rS K ca W (mAsg (fun sd S => (mLcL mi g vs mc me sd S).bind fin) (gNm i)) D s H) : tAsg (tLc (rI K ca W mi) (rG K ca ts g) (rT K ca W0 mc) (rE K ca W0 me) vs) (gName i) D s H := by
  obtain ⟨sd, r, S, hs, m, h⟩ := h
  refine lc_loop (fin := fin) hts (hfin _) ⟨sd, r, S, hs, m, LnS.bindE hs h fun d S1 v H1 r1 x1 m1 q1 h1 => ?_⟩
  exact h1.nx_ m1 ((hs.mono x1).set q1)
theorem s_setLc (mt : Bool) (hc : X.calm = true) (hN : X.N.Nodup) (hy : X.N[i]? = some y) (hyl : X.env.scope.names.lookup y = some .local)
    (hsw : swapsWith (.ListComp elt [⟨tg, iter, ifs, 0⟩] scope pos) (some (.Name y py)) spos.line X.env = pure true) (hi : PI X tg iter (rI X.K ca W mi)) (ok : BlkOk X.N X.env.scope scope own) (hts : ∀ t ∈ ts, t ∈ own.map (·.2))
    (hg : ∀ (s : Shared) (H : Hp) (C : Addr) (cl : List (Str × Addr)) (fp : List Addr), PG (X.blk s H scope (compEnvC scope cl C X.env) fp) tg (rG X.K ca ts g)) (ht : ∀ (s : Shared) (H : Hp) (C : Addr) (cl : List (Str × Addr)) (fp : List Addr), PTs (X.blk s H scope (compEnvC scope cl C X.env) fp) ifs (rT X.K ca W0 mc))
    (he : ∀ (s : Shared) (H : Hp) (C : Addr) (cl : List (Str × Addr)) (fp : List Addr), PE (X.blk s H scope (compEnvC scope cl C X.env) fp) elt (rE X.K ca W0 me)) (hs : ∀ x, foldedSetIterable iter X.env x = pure x) :
    PS X (.Assign [.Name y py] (.ListComp elt [⟨tg, iter, ifs, 0⟩] scope pos) spos) (rS X.K ca W (mAsg (if mt then mLcM mi g (own.map (·.2)) mc me else mLc mi g (own.map (·.2)) mc me) (gNm i))) := PS.imp (ps_setLc hc hN hy hyl hsw hi ok hg ht he hs) fun D s H h => by
  cases mt with
  | false => exact setLc_in hts (fun _ => fin_val) h
  | true => exact setLc_in hts (fun _ => fin_loc) h
end

/-! ### defs: as HandS's FnOk, where no repr is running around -/
structure FnZ (P : Program) (w : World) (K : PySem.W.Frag) (mg : Str → Option Value) (base : Heap) (k : Nat) (f : Addr) (fd : FuncData) (ps : List Str) (sp : Sp) : Prop where
  len : ∀ vs H Q E, sp vs H Q E → vs.length = ps.length
  run : ∀ (A : Around) (outer : List Env) (s : Shared) (H : Hp) (args : Args) (us : List Value) (vs : List V) (Q : VK) (E : XK), Room k A → A.guards = some [] →
    Env0 P w K mg base A outer s H → BindsTo s fd args (ps.zip us) → Vals vs us → sp vs H Q E → codeAny (model P w) A (.call (.ref f) args) (CR (L2.CX P w) outer P w H s Q E) s
section
variable {X : Cx} {k : Nat} {f : Addr} {fd : FuncData} {ps : List Str} {sp : Sp} {W : WX} {x : Str} {p pos : Pos} {e : Expr} {es : List Expr} {t : TA}
theorem run_fnZ {pins : List (Addr × Obj)} {σ : L2.St} {H : Hp} {s : Shared} {Q : VK} {us : List Value} {vs : List V} (F : FnZ X.prog X.w X.K X.mg X.base k f fd ps sp) (room : Room k X.A) (gd : X.A.guards = some []) (bn : Binds X.K fd ps []) (tk : Takes X W)
    (I : Inv X pins σ H s) (rv : Vals vs us) (h : sp vs H Q (WE W σ)) : wpAny (model X.prog X.w) X.A (call (.ref f) us) (EP X pins σ Q) X.xe s := by
  have n : us.length = ps.length := rv.length.symm.trans (F.len _ _ _ _ h)
  have bt : BindsTo s fd ⟨us, []⟩ (ps.zip us) := by simpa using bn s us I.kIn (by simpa using n)
  refine wpAny_call (codeAny_mono (F.run X.A X.stack s H ⟨us, []⟩ us vs Q (WE W σ) room gd I.env0 bt rv h) fun res s' hres => ?_)
  match res, hres with
  | .error x, hres => exact passAt tk σ pins H s x s' I hres
  | .ok (.ret u), hres => exact I.after hres
  | .ok .next, hres => exact False.elim hres
  | .ok .brk, hres => exact False.elim hres
  | .ok .cont, hres => exact False.elim hres
theorem pe_callZ (F : FnZ X.prog X.w X.K X.mg X.base k f fd ps sp) (room : Room k X.A) (gd : X.A.guards = some []) (hg : Gl X x) (hm : X.mg x = some (.ref f)) (kp : PySem.W.keepIn X.K (.ref f) = true) (bn : Binds X.K fd ps []) (tk : Takes X W)
    (ha : PA X (e :: es) t) (hdb : (x == ("__debug__" : Str)) = false) (he : starEach (e :: es) X.env = (false, eval e X.env) :: starEach es X.env) (hpl : (backTo pos (starEach es X.env)).any (·.1) = false) :
    PE X (.Call (.Name x p) (e :: es) [] pos) (tCallS sp (WE W) t) := ⟨fun pins s σ H Q I h => wpAny_Call_Name_kw (ld_glob I hg hm (PySem.W.callWith_K (h₀ := X.base) I.ok.mod.kin kp
      (thn (ha.run pos pins s σ H _ I h) fun us s1 ⟨vs, H1, I1, rv, q⟩ => ⟨I1.kIn, run_fnZ F room gd bn tk I1 rv q⟩) he hpl) hdb)⟩
theorem pe_callZ0 (F : FnZ X.prog X.w X.K X.mg X.base k f fd ps sp) (room : Room k X.A) (gd : X.A.guards = some []) (hg : Gl X x) (hm : X.mg x = some (.ref f)) (kp : PySem.W.keepIn X.K (.ref f) = true) (bn : Binds X.K fd ps []) (tk : Takes X W)
    (hdb : (x == ("__debug__" : Str)) = false) : PE X (.Call (.Name x p) [] [] pos) (tCallS sp (WE W) tNil) :=
  ⟨fun pins s σ H Q I h => wpAny_Call_Name_kw (ld_glob I hg hm (PySem.W.callWith_K0 I.kIn kp (run_fnZ (us := []) F room gd bn tk I .nil h)) hdb)⟩
end
/-- what a def of the program promises: that it comes to what the plain function says -/
def spOf (K : PySem.W.Frag) (ca : Nat → Addr) (n : Nat) (m : List D → Sto → Out D) : Sp := fun vs H Q E => vs.length = n ∧ ∃ ds r S, Reps K H r ds vs ∧ Sim K ca H r S ∧ Ln K ca (rV K) H r (m ds S) Q E
def mFn (f : List D → Sto → Out D) (a : M (List D)) : M D := fun sd S => (a sd S).bind fun xs S1 => f xs S1
section
variable {X : Cx} {ca : Nat → Addr} {k n : Nat} {f : Addr} {fd : FuncData} {ps : List Str} {W : WX} {x : Str} {p pos : Pos} {e : Expr} {es : List Expr} {ml : M (List D)} {m : List D → Sto → Out D}
theorem fn_in {K : PySem.W.Frag} {s : St} {H : Hp} {Q : VK} (hn : ∀ sd S ds S1, ml sd S = .ok ds S1 → ds.length = n) (h : rE K ca W (mFn m ml) s H Q) : tCallS (spOf K ca n m) (WE W) (rA K ca W ml) s H Q := by
  obtain ⟨sd, r, S, hs, mm, h⟩ := h
  refine ⟨sd, r, S, hs, mm, ?_⟩
  unfold mFn at h
  cases e1 : ml sd S with
  | bad => rw [e1] at h; exact h.elim
  | exc c fs S1 => rw [e1] at h; exact h
  | ok ds S1 =>
    rw [e1] at h
    intro vs H1 r1 x1 m1 q1
    exact ⟨by rw [← q1.length]; exact hn sd S ds S1 e1, ds, r1, S1, q1, m1, Ln.ext x1 h⟩
end
end Z

/-! Z layer, part Ic: instances: fields, methods, making. -/
namespace Z
open PySem PySem.Spec PyProof.Rows L2
/-- constants of the module, fields and methods of its classes -/
structure Ev where
  g : List D
  cf : List (List Str)
  mt : List (List (Str × Nat))
def Ev.fld (G : Ev) (c : Nat) (f : Str) : Bool := (G.cf.getD c []).contains f
def Ev.mth (G : Ev) (c : Nat) (m : Str) : Option Nat := (G.mt.getD c []).lookup m
def putZ (f : Str) (d : D) : List (Str × D) → List (Str × D)
  | [] => [(f, d)]
  | (g, x) :: r => if g = f then (g, d) :: r else (g, x) :: putZ f d r
section
variable {K : PySem.W.Frag} {H : Hp} {r : Rg}
theorem RepF.lookup {f : Str} {d : D} : ∀ {ds : List (Str × D)} {vs : List (Str × V)}, RepF K H r ds vs → ds.lookup f = some d → ∃ v, vs.lookup f = some v ∧ Rep K H r d v
  | _, _, .nil, e => by cases e
  | _, _, .cons (f := g) h hs, e => by
    rw [List.lookup_cons] at e ⊢
    cases q : (f == g) with
    | true => simp only [q] at e ⊢; cases e; exact ⟨_, rfl, h⟩
    | false => simp only [q] at e ⊢; exact RepF.lookup hs e
theorem RepF.none {f : Str} : ∀ {ds : List (Str × D)} {vs : List (Str × V)}, RepF K H r ds vs → ds.lookup f = none → vs.lookup f = none
  | _, _, .nil, e => rfl
  | _, _, .cons (f := g) h hs, e => by
    rw [List.lookup_cons] at e ⊢
    cases q : (f == g) with
    | true => simp only [q] at e; cases e
    | false => simp only [q] at e ⊢; exact RepF.none hs e
theorem RepF.put {f : Str} {d : D} {v : V} (h : Rep K H r d v) : ∀ {ds : List (Str × D)} {vs : List (Str × V)}, RepF K H r ds vs → RepF K H r (putZ f d ds) (putF f v vs)
  | _, _, .nil => .cons h .nil
  | _, _, .cons (f := g) q qs => by
    unfold putZ putF
    split
    · exact .cons h qs
    · exact .cons q (RepF.put h qs)
theorem RepF.length {κ : Type} : ∀ {ds : List (κ × D)} {vs : List (κ × V)}, RepF K H r ds vs → ds.length = vs.length
  | _, _, .nil => rfl
  | _, _, .cons _ qs => by rw [List.length_cons, List.length_cons, RepF.length qs]
end
def mFld (G : Ev) (a : M D) (f : Str) : M D := fun sd S => (a sd S).bind fun x S1 => match x with
  | .loc n => match S1[n]? with
    | some (.ins c fs) => if G.fld c f then lift (fs.lookup f) S1 else .bad
    | _ => .bad
  | _ => .bad
/-- e.f = value: the value first -/
def mSetF (G : Ev) (a b : M D) (f : Str) : MS := fun sd S => (b sd S).toS sd fun y S1 => (a sd S1).toS sd fun x S2 => match x with
  | .loc n => match S2[n]? with
    | some (.ins c fs) => if G.fld c f = true ∧ fs.length < 1000 then .ok .nx sd (S2.set n (.ins c (putZ f y fs))) else .bad
    | _ => .bad
  | _ => .bad
/-- what is known of the classes -/
structure ClsZ (K : PySem.W.Frag) (ca fa : Nat → Addr) (G : Ev) : Prop where
  cl : ∀ c f, G.fld c f = true → Cls K (ca c) ∧ NoAttr K (ca c) f
  mt : ∀ c m i, G.mth c m = some i → Cls K (ca c) ∧ Meth K (ca c) m (fa i)
section
variable {X : Cx} {ca fa : Nat → Addr} {W : WX} {G : Ev} {o value : Expr} {ma mb : M D} {f : Str} {pos pos' : Pos}
theorem z_fld (cz : ClsZ X.K ca fa G) (he : PE X o (rE X.K ca W ma)) (hb : attributeBase o f X.env (eval o X.env) = eval o X.env) : PE X (.Attribute o f pos) (rE X.K ca W (mFld G ma f)) :=
  PE.imp (pe_fld he hb) fun s H Q ⟨sd, r, S, hs, m, h⟩ => ⟨sd, r, S, hs, m, h.bind fun d1 S1 v1 H1 r1 x1 m1 q1 h1 => by
    split at h1
    · split at h1
      · rename_i n _ c fs e1
        split at h1
        · rename_i hf
          obtain ⟨a, rfl, _, dx, gs, ha, hg⟩ := m1.loc q1 e1
          obtain ⟨d, e2, k⟩ := lift_ln h1
          obtain ⟨v, l, rv⟩ := hg.lookup e2
          obtain ⟨c1, c2⟩ := cz.cl c f hf
          exact ⟨a, ca c, dx, gs, v, rfl, ha, c1, c2, l, k v H1 r1 (Ext.refl ..) m1 rv⟩
        · exact h1.elim
      · exact h1.elim
    · exact h1.elim⟩
theorem s_setf (cz : ClsZ X.K ca fa G) (ha : PE X o (rE X.K ca W ma)) (hv : PE X value (rE X.K ca W mb)) (hw : swapsWith value (some (.Attribute o f pos')) pos.line X.env = pure false) :
    PS X (.Assign [.Attribute o f pos'] value pos) (rS X.K ca W (mSetF G ma mb f)) :=
  PS.imp (ps_fld ha hv hw) fun D s H ⟨sd, r, S, hs, m, h⟩ => ⟨sd, r, S, hs, m, LnS.bindE hs h fun y S1 vy H1 r1 x1 m1 q1 h1 => ⟨sd, r1, S1, hs.mono x1, m1, LnS.bindE (hs.mono x1) h1 fun x S2 vx H2 r2 x2 m2 q2 h2 => by
    split at h2
    · split at h2
      · rename_i n _ c fs e1
        split at h2
        · rename_i hf
          obtain ⟨a, rfl, hn, dx, gs, hA, hg⟩ := m2.loc q2 e1
          obtain ⟨c1, c2⟩ := cz.cl c f hf.1
          have ex : Ext H2 r2 (upd H2 a (.ins (ca c) dx (putF f vy gs))) r2 := m2.writeExt hn
          refine ⟨a, ca c, dx, gs, rfl, hA, c1, c2, by rw [← hg.length]; exact hf.2, ?_⟩
          refine h2 _ _ r2 ex (m2.write hn ⟨dx, _, upd_same .., ?_⟩) (((hs.mono x1).mono x2).mono ex)
          exact RepF.put ((q1.mono x2).mono ex) (hg.mono ex)
        · exact h2.elim
      · exact h2.elim
    · exact h2.elim⟩⟩
end
/-! ### methods and making -/
def mMth (G : Ev) (C : Nat → List D → Sto → Out D) (o : M D) (m : Str) (a : M (List D)) : M D := fun sd S => (o sd S).bind fun x S1 => match x with
  | .loc n => match S1[n]? with
    | some (.ins c fs) => match G.mth c m, fs.lookup m with
      | some i, none => (a sd S1).bind fun xs S2 => C i (.loc n :: xs) S2
      | _, _ => .bad
    | _ => .bad
  | _ => .bad
def mMk (G : Ev) (C : Nat → List D → Sto → Out D) (c : Nat) (a : M (List D)) : M D := fun sd S => (a sd S).bind fun xs S1 => match G.mth c "__init__" with
  | some i => (C i (.loc S1.length :: xs) (S1 ++ [.ins c []])).bind fun v S2 => match v with
    | .non => .ok (.loc S1.length) S2
    | _ => .bad
  | none => .bad
section
variable {X : Cx} {k : Nat} {W : WX} {x m : Str} {p pos apos : Pos} {e o : Expr} {es : List Expr} {ta : TE} {t : TA}
def tMethZ (X : Cx) (k : Nat) (W : WX) (m : Str) (ta : TE) (t : TA) : TE := fun σ H Q => ta σ H fun x H1 => ∃ (a C dx : Addr) (fs : List (Str × V)) (f : Addr) (fd : FuncData) (ps : List Str) (sp : Sp), x = .ref a ∧ H1 a = some (.ins C dx fs) ∧ Cls X.K C ∧ Meth X.K C m f ∧ fs.lookup m = none ∧
  FnZ X.prog X.w X.K X.mg X.base k f fd ps sp ∧ Binds X.K fd ps [] ∧ t σ H1 fun vs H2 => sp (.ref a :: vs) H2 Q (WE W σ)
theorem pe_methZ {pl : Sem Bool} (he : PE X o ta) (room : Room k X.A) (gd : X.A.guards = some []) (tk : Takes X W) (ha : PA X (e :: es) t)
    (hst : starEach (e :: es) X.env = (false, eval e X.env) :: starEach es X.env) (hpl : (backTo pos (starEach es X.env)).any (·.1) = false)
    (ht : eval (.Call (.Attribute o m apos) (e :: es) [] pos) X.env = (do
      let ov ← eval o X.env
      standAt apos.atName
      let (f, first) ← holding [ov] (getMethod ov m pl)
      callWith pos f first (backTo pos (starEach (e :: es) X.env)) (backToKw pos (keywordEach [] X.env)))) :
    PE X (.Call (.Attribute o m apos) (e :: es) [] pos) (tMethZ X k W m ta t) := by
  refine ⟨fun pins s σ H Q I h => ?_⟩
  refine PySem.W.methodCall_KW (pl := pl) (thn (he.run pins s σ H _ I h) fun u s1 ⟨x, H1, I1, rx, a, C, dx, fs, f, fd, ps, sp, ex, ea, c, hm, l, F, bn, q⟩ => ?_) ht
  subst ex
  obtain rfl : u = Value.ref a := rx
  refine getmeth_ok I1 ea c hm l ?_
  refine PySem.W.callWith_K (first := [.ref a]) (h₀ := X.base) I.ok.mod.kin hm.kp (thn (ha.run pos pins s1 σ H1 _ I1 q) fun us s2 ⟨vs, H2, I2, r, q2⟩ => ⟨I2.kIn, ?_⟩) hst hpl
  exact run_fnZ (us := .ref a :: us) (vs := .ref a :: vs) F room gd bn tk I2 (.cons rfl r) q2
theorem pe_methZ0 {pl : Sem Bool} (he : PE X o ta) (room : Room k X.A) (gd : X.A.guards = some []) (tk : Takes X W)
    (ht : eval (.Call (.Attribute o m apos) [] [] pos) X.env = (do
      let ov ← eval o X.env
      standAt apos.atName
      let (f, first) ← holding [ov] (getMethod ov m pl)
      callWith pos f first (backTo pos (starEach [] X.env)) (backToKw pos (keywordEach [] X.env)))) :
    PE X (.Call (.Attribute o m apos) [] [] pos) (tMethZ X k W m ta tNil) := by
  refine ⟨fun pins s σ H Q I h => ?_⟩
  refine PySem.W.methodCall_KW (pl := pl) (thn (he.run pins s σ H _ I h) fun u s1 ⟨x, H1, I1, rx, a, C, dx, fs, f, fd, ps, sp, ex, ea, c, hm, l, F, bn, q⟩ => ?_) ht
  subst ex
  obtain rfl : u = Value.ref a := rx
  refine getmeth_ok I1 ea c hm l ?_
  exact PySem.W.callWith_K0 (first := [.ref a]) I1.kIn hm.kp (run_fnZ (us := [.ref a]) (vs := [.ref a]) F room gd bn tk I1 (.cons rfl .nil) q)
theorem run_makeZ {C f : Addr} {fd : FuncData} {ps : List Str} {sp : Sp} {pins : List (Addr × Obj)} {σ : L2.St} {H : Hp} {s : Shared} {Q : VK} {us : List Value} {vs : List V} (M : Mk X.K C f) (F : FnZ X.prog X.w X.K X.mg X.base k f fd ps sp) (room : Room (k + 1) X.A) (gd : X.A.guards = some []) (bn : Binds X.K fd ps []) (tk : Takes X W)
    (I : Inv X pins σ H s) (r : Vals vs us)
    (h : ∀ x dx, H x = none → H dx = none → dx ≠ x → sp (.ref x :: vs) (upd (upd H dx (.own x)) x (.ins C dx [])) (fun v H2 => v = .non ∧ Q (.ref x) H2) (WE W σ)) :
    wpAny (model X.prog X.w) X.A (call (.ref C) us) (EP X pins σ Q) X.xe s := by
  have hq := h (s.heap.objs.size + 1) s.heap.objs.size (I.hok.fresh (Nat.le_succ _)) (I.hok.fresh (Nat.le_refl _)) (Nat.ne_of_lt (Nat.lt_succ_self _))
  have I2 := Inv.made (C := C) I
  have r2 : Vals (V.ref (s.heap.objs.size + 1) :: vs) (Value.ref (s.heap.objs.size + 1) :: us) := .cons rfl r
  have hl : (Value.ref (s.heap.objs.size + 1) :: us).length = ps.length := by
    have e := r2.length
    rw [F.len _ _ _ _ hq] at e
    exact e.symm
  have bt : BindsTo { s with heap := (s.heap.push PySem.W.emptyDict).push (PySem.W.instObj C s.heap.objs.size) } fd ⟨Value.ref (s.heap.objs.size + 1) :: us, []⟩ (ps.zip (Value.ref (s.heap.objs.size + 1) :: us)) := by
    simpa using bn _ (Value.ref (s.heap.objs.size + 1) :: us) I2.kIn (by simpa using hl)
  have gd2 : (X.A.under (.builtin "type.__call__" ⟨.ref C :: us, []⟩)).guards = some [] := by
    unfold Around.under
    simp only [gd]
    rfl
  refine wpAny_call (make_map (f := f) I.kIn M.makes M.init (beq_iff_eq.mp M.fn) (codeAny_mono (F.run _ X.stack _ _ ⟨Value.ref (s.heap.objs.size + 1) :: us, []⟩ (Value.ref (s.heap.objs.size + 1) :: us) _ _ (WE W σ) (room.make C us []) gd2
    (I2.env0.make C us []) bt r2 hq) fun r s' hq' => ?_))
  cases r with
  | error e => exact passAt tk σ pins _ _ e s' I2 hq'
  | ok fl =>
    cases fl with
    | ret u =>
      obtain ⟨v, H', I3, rv, ev, q3⟩ := I2.after hq'
      subst ev
      exact ⟨rv, ⟨V.ref (s.heap.objs.size + 1), H', I3, rfl, q3⟩⟩
    | next => exact False.elim hq'
    | brk => exact False.elim hq'
    | cont => exact False.elim hq'
def tMakeZ (C : Addr) (sp : Sp) (W : WX) (t : TA) : TE := fun σ H Q => t σ H fun vs H1 => ∀ x dx, H1 x = none → H1 dx = none → dx ≠ x →
  sp (.ref x :: vs) (upd (upd H1 dx (.own x)) x (.ins C dx [])) (fun v H2 => v = .non ∧ Q (.ref x) H2) (WE W σ)
theorem pe_makeZ {C f : Addr} {fd : FuncData} {ps : List Str} {sp : Sp} (M : Mk X.K C f) (F : FnZ X.prog X.w X.K X.mg X.base k f fd ps sp) (room : Room (k + 1) X.A) (gd : X.A.guards = some []) (hg : Gl X x) (hm : X.mg x = some (.ref C)) (bn : Binds X.K fd ps []) (tk : Takes X W)
    (ha : PA X (e :: es) t) (hdb : (x == ("__debug__" : Str)) = false) (he : starEach (e :: es) X.env = (false, eval e X.env) :: starEach es X.env) (hpl : (backTo pos (starEach es X.env)).any (·.1) = false) :
    PE X (.Call (.Name x p) (e :: es) [] pos) (tMakeZ C sp W t) := ⟨fun pins s σ H Q I h => wpAny_Call_Name_kw (ld_glob I hg hm (PySem.W.callWith_K (h₀ := X.base) I.ok.mod.kin M.kp
      (thn (ha.run pos pins s σ H _ I h) fun us s1 ⟨vs, H1, I1, rv, q⟩ => ⟨I1.kIn, run_makeZ M F room gd bn tk I1 rv q⟩) he hpl) hdb)⟩
theorem pe_makeZ0 {C f : Addr} {fd : FuncData} {ps : List Str} {sp : Sp} (M : Mk X.K C f) (F : FnZ X.prog X.w X.K X.mg X.base k f fd ps sp) (room : Room (k + 1) X.A) (gd : X.A.guards = some []) (hg : Gl X x) (hm : X.mg x = some (.ref C)) (bn : Binds X.K fd ps []) (tk : Takes X W)
    (hdb : (x == ("__debug__" : Str)) = false) : PE X (.Call (.Name x p) [] [] pos) (tMakeZ C sp W tNil) :=
  ⟨fun pins s σ H Q I h => wpAny_Call_Name_kw (ld_glob I hg hm (PySem.W.callWith_K0 I.kIn M.kp (run_makeZ (us := []) M F room gd bn tk I .nil h)) hdb)⟩
end
/-! ### from the plain meaning -/
/-- the defs by their numbers -/
structure FnsZ (X : Cx) (ca fa : Nat → Addr) (k : Nat) (ar : Nat → Option Nat) (call : Nat → List D → Sto → Out D) : Prop where
  ok : ∀ i n, ar i = some n → ∃ (fd : FuncData) (ps : List Str), ps.length = n ∧ Binds X.K fd ps [] ∧ FnZ X.prog X.w X.K X.mg X.base k (fa i) fd ps (spOf X.K ca n (call i))
  bad : ∀ i n ds S, ar i = some n → ds.length ≠ n → call i ds S = .bad
  no : ∀ i ds S, ar i = none → call i ds S = .bad
section
variable {X : Cx} {ca fa : Nat → Addr} {k : Nat} {ar : Nat → Option Nat} {call : Nat → List D → Sto → Out D} {W : WX} {G : Ev} {ma : M D} {ml : M (List D)}
theorem FnsZ.sp (F : FnsZ X ca fa k ar call) {i : Nat} {ds : List D} {vs : List V} {S : Sto} {H : Hp} {r : Rg} {Q : VK} {E : XK} (hr : Reps X.K H r ds vs) (m : Sim X.K ca H r S) (h : Ln X.K ca (rV X.K) H r (call i ds S) Q E) :
    ∃ (n : Nat) (fd : FuncData) (ps : List Str), Binds X.K fd ps [] ∧ FnZ X.prog X.w X.K X.mg X.base k (fa i) fd ps (spOf X.K ca n (call i)) ∧ spOf X.K ca n (call i) vs H Q E := by
  cases e : ar i with
  | none => rw [F.no i ds S e] at h; exact h.elim
  | some n =>
    by_cases hl : ds.length = n
    · obtain ⟨fd, ps, _, bn, f⟩ := F.ok i n e
      exact ⟨n, fd, ps, bn, f, by rw [← hr.length]; exact hl, ds, r, S, hr, m, h⟩
    · rw [F.bad i n ds S e hl] at h; exact h.elim
theorem FnsZ.len (F : FnsZ X ca fa k ar call) {i n : Nat} (e : ar i = some n) {ds : List D} {vs : List V} {S : Sto} {H : Hp} {r : Rg} {Q : VK} {E : XK} (hr : Reps X.K H r ds vs) (m : Sim X.K ca H r S) (h : Ln X.K ca (rV X.K) H r (call i ds S) Q E) : spOf X.K ca n (call i) vs H Q E := by
  by_cases hl : ds.length = n
  · exact ⟨by rw [← hr.length]; exact hl, ds, r, S, hr, m, h⟩
  · rw [F.bad i n ds S e hl] at h; exact h.elim
/-- the methods are defs of the table -/
def MtZ (G : Ev) (ar : Nat → Option Nat) : Prop := ∀ c m i, G.mth c m = some i → ∃ n, ar i = some n
variable {o e : Expr} {es : List Expr} {m x : Str} {p pos apos : Pos}
theorem mth_in (cz : ClsZ X.K ca fa G) (F : FnsZ X ca fa k ar call) (hM : MtZ G ar) {s : St} {H : Hp} {Q : VK} (h : rE X.K ca W (mMth G call ma m ml) s H Q) : tMethZ X k W m (rE X.K ca W ma) (rA X.K ca W ml) s H Q := by
  obtain ⟨sd, r, S, hs, mm, h⟩ := h
  refine ⟨sd, r, S, hs, mm, h.bind fun d1 S1 v1 H1 r1 x1 m1 q1 h1 => ?_⟩
  split at h1
  · split at h1
    · rename_i n _ c fs e1
      split at h1
      · rename_i i e2 e3
        obtain ⟨a, rfl, hn, dx, gs, hA, hg⟩ := m1.loc q1 e1
        obtain ⟨c1, c2⟩ := cz.mt c m i e2
        obtain ⟨n', en⟩ := hM c m i e2
        obtain ⟨fd, ps, _, bn, f⟩ := F.ok i n' en
        refine ⟨a, ca c, dx, gs, fa i, fd, ps, _, rfl, hA, c1, c2, hg.none e3, f, bn, sd, r1, S1, hs.mono x1, m1, h1.bind fun xs S2 vs H2 r2 x2 m2 q2 h2 => ?_⟩
        exact F.len en (.cons (q1.mono x2) q2) m2 h2
      · exact h1.elim
    · exact h1.elim
  · exact h1.elim
theorem mk_in (F : FnsZ X ca fa k ar call) {c i n : Nat} (hi : G.mth c "__init__" = some i) (en : ar i = some n) {s : St} {H : Hp} {Q : VK} (h : rE X.K ca W (mMk G call c ml) s H Q) : tMakeZ (ca c) (spOf X.K ca n (call i)) W (rA X.K ca W ml) s H Q := by
  obtain ⟨sd, r, S, hs, mm, h⟩ := h
  refine ⟨sd, r, S, hs, mm, h.bind fun xs S1 vs H1 r1 x1 m1 q1 h1 x dx hx hdx hne => ?_⟩
  simp only [hi] at h1
  have hx' : upd H1 dx (.own x) x = none := by rw [upd_ne (Ne.symm hne)]; exact hx
  have m2 : Sim X.K ca (upd H1 dx (.own x)) r1 S1 := m1.new hdx
  have ex : Ext H1 r1 (upd (upd H1 dx (.own x)) x (.ins (ca c) dx [])) (r1.add x) := (Ext.new hdx).trans (Ext.newLoc hx')
  have m3 : Sim X.K ca (upd (upd H1 dx (.own x)) x (.ins (ca c) dx [])) (r1.add x) (S1 ++ [.ins c []]) := m2.newLoc hx' ⟨dx, [], upd_same .., .nil⟩
  have hl : (r1.add x).l[S1.length]? = some x := by
    show (r1.l ++ [x])[S1.length]? = some x
    rw [List.getElem?_append_right (by rw [m1.len]; exact Nat.le_refl _), m1.len, Nat.sub_self]; rfl
  refine F.len en (.cons (.loc hl) (q1.mono ex)) m3 ((Ln.ext ex h1).bind fun v S2 u H2 r2 x2 m4 q2 h2 => ?_)
  split at h2
  · cases q2
    exact ⟨rfl, h2 (.ref x) H2 r2 (Ext.refl ..) m4 (.loc (x2.at hl))⟩
  · exact h2.elim
theorem mth_in0 (cz : ClsZ X.K ca fa G) (F : FnsZ X ca fa k ar call) (hM : MtZ G ar) {s : St} {H : Hp} {Q : VK} (h : rE X.K ca W (mMth G call ma m mNil) s H Q) : tMethZ X k W m (rE X.K ca W ma) tNil s H Q := by
  obtain ⟨sd, r, S, hs, mm, h⟩ := mth_in cz F hM h
  refine ⟨sd, r, S, hs, mm, ?_⟩
  cases e : ma sd S with
  | bad => rw [e] at h; exact h
  | exc c fs S1 => rw [e] at h; exact h
  | ok d S1 =>
    rw [e] at h
    intro v H' r' x' m' q'
    obtain ⟨a, C, dx, gs, f, fd, ps, sp, h1, h2, h3, h4, h5, h6, h7, sd2, r2, S2, _, m2, h8⟩ := h v H' r' x' m' q'
    exact ⟨a, C, dx, gs, f, fd, ps, sp, h1, h2, h3, h4, h5, h6, h7, h8 [] H' r2 (Ext.refl ..) m2 .nil⟩
theorem mk_in0 (F : FnsZ X ca fa k ar call) {c i n : Nat} (hi : G.mth c "__init__" = some i) (en : ar i = some n) {s : St} {H : Hp} {Q : VK} (h : rE X.K ca W (mMk G call c mNil) s H Q) : tMakeZ (ca c) (spOf X.K ca n (call i)) W tNil s H Q := by
  obtain ⟨sd, r, S, hs, mm, h⟩ := mk_in F hi en h
  exact h [] H r (Ext.refl ..) mm .nil
end
end Z

/-! Z layer, part It: zip and enumerate over lists, tuples and texts, in any mix. -/
namespace Z
open PySem PySem.Spec PyProof.Rows L2

/-- what zip and enumerate may walk -/
inductive Sk where
  | l (a : Addr) | t (a : Addr) | s (x : Str)
def Sk.v : Sk → V
  | .l a => .ref a
  | .t a => .ref a
  | .s x => .str x
def signsV (x : Str) : List V := x.cps.toList.map fun c => V.str ⟨#[c]⟩
def Sk.has (K : PySem.W.Frag) (H : Hp) (k : Sk) (vs : List V) : Prop := match k with
  | .l a => SqL K H a vs
  | .t a => SqT K H a vs
  | .s x => vs = signsV x
def Sk.apart (k : Sk) (b : Addr) : Prop := match k with
  | .l a => a ≠ b
  | .t a => a ≠ b
  | .s _ => True
def Sk.itr (k : Sk) (h : Heap) (it : Addr) (i : Nat) : Prop := match k with
  | .l a => h.IsListIter it a i
  | .t a => h.IsTupleIter it a i
  | .s x => ∃ t, h.IsStrIter it (strIterType x) x t i
theorem Sk.itr_at {k : Sk} {h h' : Heap} {it : Addr} {i : Nat} (x : k.itr h it i) (e : ∀ o, h.get? it = some o → h'.get? it = some o) : k.itr h' it i := by
  cases k with
  | l a => exact Heap.IsListIter.at x e
  | t a => exact Heap.IsTupleIter.at x e
  | s x0 => obtain ⟨t, o, ho, r⟩ := x; exact ⟨t, o, e o ho, r⟩
theorem Sk.itr_obj {k : Sk} {h : Heap} {it : Addr} {i : Nat} (x : k.itr h it i) : ∃ o, h.get? it = some o ∧ ∀ v, o.data ≠ .cell v := by
  cases k with
  | l a => obtain ⟨o, h1, h2, h3⟩ := x; exact ⟨o, h1, fun v q => by rw [h3] at q; cases q⟩
  | t a => obtain ⟨o, h1, h2, h3⟩ := x; exact ⟨o, h1, fun v q => by rw [h3] at q; cases q⟩
  | s x0 => obtain ⟨t, o, h1, h2, h3⟩ := x; exact ⟨o, h1, fun v q => by rw [h3] at q; cases q⟩
theorem vals_back {xs : List V} {us : List Value} {j : Nat} {u : Value} (r : Vals xs us) (e : us[j]? = some u) : ∃ x, xs[j]? = some x ∧ RelV x u := by
  have hl : j < us.length := (List.getElem?_eq_some_iff.mp e).1
  have hx : xs[j]? = some (xs[j]'(by rw [r.length]; exact hl)) := List.getElem?_eq_getElem _
  obtain ⟨u', h1, h2⟩ := r.get hx
  rw [e] at h1
  cases h1
  exact ⟨_, hx, h2⟩
theorem Sk.inj {X : Cx} {pins : List (Addr × Obj)} {σ : L2.St} {H : Hp} {s : Shared} {k : Sk} {xs ys : List V} (I : Inv X pins σ H s) (h1 : k.has X.K H xs) (h2 : k.has X.K H ys) : xs = ys := by
  cases k with
  | l a => exact I.list_inj h1 h2
  | t a => exact I.tuple_inj h1 h2
  | s x => exact h1.trans h2.symm
theorem Sk.draws {X : Cx} {pins : List (Addr × Obj)} {σ : L2.St} {H : Hp} {s : Shared} {k : Sk} {xs : List V} {A : Around} {it : Addr} {i : Nat} (I : Inv X pins σ H s) (hh : A.handled = none) (hk : k.has X.K H xs) (hit : k.itr s.heap it i) (hne : k.apart it) :
    ∃ (fp : List Addr) (P : Nat → Value → Prop) (Sx : Nat → Heap → Prop), Draws X.prog X.w A it fp xs.length P Sx ∧ it ∈ fp ∧ Sx i s.heap ∧ (∀ j h, Sx j h → k.itr h it j) ∧ (∀ j v, P j v → ∃ x, xs[j]? = some x ∧ RelV x v) ∧ ∀ b ∈ fp, b = it ∨ ¬ k.apart b := by
  cases k with
  | l a =>
    obtain ⟨its, rv, p, _⟩ := I.list hk
    have D := Draws.list (prog := X.prog) (w := X.w) (A := A) hh it a hne its.toArray
    rw [show its.toArray.size = xs.length by rw [List.size_toArray, rv.length]] at D
    refine ⟨_, _, _, D, by simp, ⟨hit, p.isList⟩, fun j h q => q.1, fun j v q => vals_back rv (by simpa using q), fun b hb => ?_⟩
    have : b = it ∨ b = a := by simpa using hb
    rcases this with z | z
    · exact .inl z
    · exact .inr fun y => y z.symm
  | t a =>
    obtain ⟨its, rv, p, _⟩ := I.tuple hk
    have D := Draws.tuple (prog := X.prog) (w := X.w) (A := A) hh it a hne its.toArray
    rw [show its.toArray.size = xs.length by rw [List.size_toArray, rv.length]] at D
    refine ⟨_, _, _, D, by simp, ⟨hit, p⟩, fun j h q => q.1, fun j v q => vals_back rv (by simpa using q), fun b hb => ?_⟩
    have : b = it ∨ b = a := by simpa using hb
    rcases this with z | z
    · exact .inl z
    · exact .inr fun y => y z.symm
  | s x =>
    obtain ⟨t, hit⟩ := hit
    have hk : xs = signsV x := hk
    subst hk
    have D := Draws.text (prog := X.prog) (w := X.w) (A := A) hh it x t
    rw [show x.cps.size = (signsV x).length by simp [signsV]] at D
    refine ⟨_, _, _, D, by simp, hit, fun j h q => ⟨t, q⟩, fun j v q => ?_, fun b hb => .inl (by simpa using hb)⟩
    obtain ⟨c, u, h1, rfl⟩ := q
    refine ⟨.str ⟨#[c]⟩, ?_, ⟨u, rfl⟩⟩
    unfold signsV
    rw [List.getElem?_map, Array.getElem?_toList, h1]; rfl
/-- pairs -/
def ItzG (K : PySem.W.Frag) (k1 k2 : Sk) : L2.It :=
  ⟨fun i H => ∃ (xs ys : List V) (x y : V), k1.has K H xs ∧ k2.has K H ys ∧ xs[i]? = some x ∧ ys[i]? = some y,
    fun i H v H' => ∃ T x y, v = .ref T ∧ H T = none ∧ H' = upd H T (.tup [x, y]) ∧ (∀ xs, k1.has K H xs → xs[i]? = some x) ∧ ∀ ys, k2.has K H ys → ys[i]? = some y,
    fun i H => ∃ xs ys : List V, k1.has K H xs ∧ k2.has K H ys ∧ i ≤ xs.length ∧ i ≤ ys.length ∧ (i = xs.length ∨ i = ys.length)⟩
structure Sep5 (z TI TO i1 i2 : Addr) (k1 k2 : Sk) : Prop where
  TIz : TI ≠ z
  TOz : TO ≠ z
  TITO : TI ≠ TO
  TIi1 : TI ≠ i1
  TIi2 : TI ≠ i2
  zi1 : z ≠ i1
  zi2 : z ≠ i2
  TOi1 : TO ≠ i1
  TOi2 : TO ≠ i2
  i12 : i1 ≠ i2
  a1 : ∀ b ∈ [z, TI, TO, i1, i2], k1.apart b
  a2 : ∀ b ∈ [z, TI, TO, i1, i2], k2.apart b
theorem Sep5.sep {z TI TO i1 i2 : Addr} {k1 k2 : Sk} (D : Sep5 z TI TO i1 i2 k1 k2) {fp1 fp2 : List Addr} (m1 : i1 ∈ fp1) (m2 : i2 ∈ fp2) (f1 : ∀ b ∈ fp1, b = i1 ∨ ¬ k1.apart b) (f2 : ∀ b ∈ fp2, b = i2 ∨ ¬ k2.apart b) : ZipSep2 z TI TO i1 i2 fp1 fp2 := by
  have o1 : ∀ b ∈ [z, TI, TO, i1, i2], b ≠ i1 → b ∉ fp1 := fun b hb hn hm => by
    rcases f1 b hm with e | e
    · exact hn e
    · exact e (D.a1 b hb)
  have o2 : ∀ b ∈ [z, TI, TO, i1, i2], b ≠ i2 → b ∉ fp2 := fun b hb hn hm => by
    rcases f2 b hm with e | e
    · exact hn e
    · exact e (D.a2 b hb)
  exact ⟨D.TIz, D.TOz, D.TITO, D.TIi1, m1, o1 z (by simp) D.zi1, o1 TO (by simp) D.TOi1, D.TIi2, m2, o2 z (by simp) D.zi2, o2 TO (by simp) D.TOi2, o2 i1 (by simp) D.i12, o1 i2 (by simp) D.i12.symm⟩
theorem turn_zipG {P : Program} {w : World} {K : PySem.W.Frag} {elts : List Expr} {kk : Nat} {tpos : Pos} {k1 k2 : Sk} {z TI TO i1 i2 : Addr} (D : Sep5 z TI TO i1 i2 k1 k2) :
    Turn P w K (.Tuple elts kk tpos) (ItzG K k1 k2) [z, TI, TO, i1, i2] z (fun i h => IsZip h z TI TO .none ∧ IsTupOf2 h TI (.ref i1) (.ref i2) ∧ (∃ x y, IsTupOf2 h TO x y) ∧ k1.itr h i1 i ∧ k2.itr h i2 i) where
  mem := by simp
  obj := fun i h st c hc => by
    obtain ⟨hz, hTI, ⟨x, y, hTO⟩, h1, h2⟩ := st
    have e' : c = z ∨ c = TI ∨ c = TO ∨ c = i1 ∨ c = i2 := by simpa using hc
    rcases e' with q | q | q | q | q
    · rw [q]; exact ⟨_, hz, fun v q => nomatch q⟩
    · rw [q]; exact ⟨_, hTI, fun v q => nomatch q⟩
    · rw [q]; exact ⟨_, hTO, fun v q => nomatch q⟩
    · rw [q]; exact Sk.itr_obj h1
    · rw [q]; exact Sk.itr_obj h2
  keep := fun i h h' st k => by
    obtain ⟨hz, hTI, ⟨x, y, hTO⟩, h1, h2⟩ := st
    exact ⟨k z (by simp) _ hz, k TI (by simp) _ hTI, ⟨x, y, k TO (by simp) _ hTO⟩, Sk.itr_at h1 fun o q => k i1 (by simp) o q, Sk.itr_at h2 fun o q => k i2 (by simp) o q⟩
  item := by
    intro X hP hw hK hc i pins s σ H E I hf st hg
    subst hP hw hK
    obtain ⟨hz, hTI, ⟨x0, y0, hTO⟩, h1, h2⟩ := st
    obtain ⟨xs, ys, x, y, hqx, hqy, hx, hy⟩ := hg
    have hh : X.A.in1.handled = none := I.ok.hd hc
    obtain ⟨fp1, P1, S1, D1, m1, s1, t1, p1, f1⟩ := Sk.draws I hh hqx h1 (D.a1 i1 (by simp))
    obtain ⟨fp2, P2, S2, D2, m2, s2, t2, p2, f2⟩ := Sk.draws I hh hqy h2 (D.a2 i2 (by simp))
    have hzl : z < s.heap.objs.size := Heap.lt_size hz
    have lx : i < xs.length := (List.getElem?_eq_some_iff.mp hx).1
    have ly : i < ys.length := (List.getElem?_eq_some_iff.mp hy).1
    refine wpAny_pyNext_zipD2_item (D.sep m1 m2 f1 f2) D1 D2 hz hTI hTO s1 s2 lx ly fun u u2 h' tk q1 q2 z' TO' g1 g2 hT hsz hk => ?_
    obtain ⟨x', ex, ru⟩ := p1 i u q1
    obtain ⟨y', ey, ru2⟩ := p2 i u2 q2
    rw [hx] at ex; cases ex
    rw [hy] at ey; cases ey
    refine ⟨_, rfl, wpAny_letOwnedTupleGo_zip (s := { s with heap := h', toks := tk }) z' fun h'' z'' sb => ?_⟩
    have hT2 : h''.get? s.heap.objs.size = some { cls := .type "tuple", data := .seq #[u, u2] } := (sb.2 _ (Nat.ne_of_gt hzl)).trans hT
    have new : ObjOk X.prog X.w (upd H s.heap.objs.size (.tup [x, y])) h'' s.heap.objs.size (.tup [x, y]) :=
      ⟨by show 2 ≤ sizeLine; decide, [u, u2], .cons ru (.cons ru2 .nil), ⟨_, hT2, rfl, _, rfl⟩⟩
    have I1 : Inv X pins σ (upd H s.heap.objs.size (.tup [x, y])) { s with heap := h'', toks := tk } :=
      I.turnedNew (t' := tk) (ch := [z, TI, TO, i1, i2]) (fun c o hb q => (sb.2 c (fun q' => hb (by simp [q']))).trans (hk c o (fun q' => hb (by simp [q'])) (fun q' => hb (by simp [q'])) (fun q' => hb (by simp [q'])) (fun q' => hb (by simp [q'])) q)) hf (Nat.le_refl _) new
    refine ⟨.ref s.heap.objs.size, _, I1, rfl, ⟨_, x, y, rfl, I.hok.fresh (Nat.le_refl _), rfl, fun l hl => by rw [Sk.inj I hl hqx]; exact hx, fun l hl => by rw [Sk.inj I hl hqy]; exact hy⟩, ⟨z'', ?_, ⟨u, u2, ?_⟩, ?_, ?_⟩, fun c hcm => ?_⟩
    · exact (sb.2 _ D.TIz).trans (hk _ _ D.TIz D.TITO D.TIi1 D.TIi2 hTI)
    · exact (sb.2 _ D.TOz).trans TO'
    · exact Sk.itr_at (t1 _ _ g1) fun o q => (sb.2 _ D.zi1.symm).trans q
    · exact Sk.itr_at (t2 _ _ g2) fun o q => (sb.2 _ D.zi2.symm).trans q
    · have hlt : c < s.heap.objs.size := by
        have e' : c = z ∨ c = TI ∨ c = TO ∨ c = i1 ∨ c = i2 := by simpa using hcm
        rcases e' with q | q | q | q | q
        · rw [q]; exact hzl
        · rw [q]; exact Heap.lt_size hTI
        · rw [q]; exact Heap.lt_size hTO
        · rw [q]; obtain ⟨_, e1, _⟩ := Sk.itr_obj h1; exact Heap.lt_size e1
        · rw [q]; obtain ⟨_, e2, _⟩ := Sk.itr_obj h2; exact Heap.lt_size e2
      rw [upd_ne (Nat.ne_of_lt hlt)]
      exact (hf c hcm).1
  done := by
    intro X hP hw hK hc i pins s σ H E I hf st hg
    subst hP hw hK
    obtain ⟨hz, hTI, ⟨x0, y0, hTO⟩, h1, h2⟩ := st
    obtain ⟨xs, ys, hqx, hqy, le1, le2, hend⟩ := hg
    have hh : X.A.in1.handled = none := I.ok.hd hc
    obtain ⟨fp1, P1, S1, D1, m1, s1, t1, p1, f1⟩ := Sk.draws I hh hqx h1 (D.a1 i1 (by simp))
    obtain ⟨fp2, P2, S2, D2, m2, s2, t2, p2, f2⟩ := Sk.draws I hh hqy h2 (D.a2 i2 (by simp))
    exact wpAny_pyNext_zipD2_end (D.sep m1 m2 f1 f2) D1 D2 hz hTI hTO s1 s2 le1 le2 hend fun h' tk hk => ⟨rfl, I.turnedL (t' := tk) (ch := [z, TI, TO, i1, i2]) (fun c o hb q =>
      hk c o (fun q' => hb (by simp [q'])) (fun q' => hb (by simp [q'])) (fun q' => hb (by simp [q'])) (fun q' => hb (by simp [q'])) q) hf⟩
  self := fun A i s Q E st h => wpAny_pyIter_zip st.1 h
theorem nnn {n m : Nat} (h : n ≠ m) : @Ne Addr n m := h
theorem sep_new {n : Nat} {k1 k2 : Sk} (a1 : ∀ b ∈ ([n + 4, n + 2, n + 3, n, n + 1] : List Addr), k1.apart b) (a2 : ∀ b ∈ ([n + 4, n + 2, n + 3, n, n + 1] : List Addr), k2.apart b) : Sep5 (n + 4) (n + 2) (n + 3) n (n + 1) k1 k2 :=
  ⟨nnn (by omega), nnn (by omega), nnn (by omega), nnn (by omega), nnn (by omega), nnn (by omega), nnn (by omega), nnn (by omega), nnn (by omega), nnn (by omega), a1, a2⟩
theorem le_new {n : Nat} (c : Nat) (h : c ∈ ([n + 4, n + 2, n + 3, n, n + 1] : List Nat)) : n ≤ c := by
  have e' : c = n + 4 ∨ c = n + 2 ∨ c = n + 3 ∨ c = n ∨ c = n + 1 := by simpa using h
  omega
theorem Sk.begin {X : Cx} {pins : List (Addr × Obj)} {σ : L2.St} {H : Hp} {s : Shared} {k : Sk} {xs : List V} {u : Value} (I : Inv X pins σ H s) (hk : k.has X.K H xs) (ru : RelV k.v u) : ∃ (o : Obj) (G : Heap → Prop), Begins u o G ∧ G s.heap ∧ (∀ h it, h.get? it = some o → k.itr h it 0) ∧ ∀ b, s.heap.objs.size ≤ b → k.apart b := by
  cases k with
  | l a =>
    cases ru
    obtain ⟨its, rv, p, _⟩ := I.list hk
    exact ⟨_, _, begins_list a its.toArray, p.isList, fun h it e => ⟨_, e, rfl, rfl⟩, fun b hb z => Nat.lt_irrefl _ (Nat.lt_of_lt_of_le (by rw [← z]; exact p.lt) hb)⟩
  | t a =>
    cases ru
    obtain ⟨its, rv, p, _⟩ := I.tuple hk
    exact ⟨_, _, begins_tuple a its.toArray, p, fun h it e => ⟨_, e, rfl, rfl⟩, fun b hb z => by obtain ⟨o, ho, _⟩ := p; exact Nat.lt_irrefl _ (Nat.lt_of_lt_of_le (by rw [← z]; exact Heap.lt_size ho) hb)⟩
  | s x =>
    obtain ⟨t, rfl⟩ := ru
    exact ⟨_, _, begins_text x t, trivial, fun h it e => ⟨t, _, e, rfl, rfl⟩, fun _ _ => trivial⟩
def iZipG (K : PySem.W.Frag) (ta : TA) : TI := fun σ H R => ta σ H fun vs H1 => ∃ (k1 k2 : Sk) (xs ys : List V), vs = [k1.v, k2.v] ∧ k1.has K H1 xs ∧ k2.has K H1 ys ∧ R (ItzG K k1 k2) H1
theorem pi_zipG {X : Cx} {e e2 : Expr} {ta : TA} {p pos tpos : Pos} {elts : List Expr} {kk : Nat} (hg : Gl X "zip") (hm : X.mg "zip" = none) (ha : PA X [e, e2] ta)
    (hs : starEach [e, e2] X.env = (false, eval e X.env) :: starEach [e2] X.env) (hpl : (backTo pos (starEach [e2] X.env)).any (·.1) = false) :
    PI X (.Tuple elts kk tpos) (.Call (.Name "zip" p) [e, e2] [] pos) (iZipG X.K ta) := by
  refine ⟨fun pins s σ H R I h => ?_⟩
  refine Call_ (ld_blt I hg hm PyProof.Rows.boot_zip (PyProof.Rows.callWith_type1 (thn (ha.run pos pins s σ H _ I h) fun us s1 ⟨vs, H1, I1, r1, q1⟩ => ?_) hs hpl))
  obtain ⟨k1, k2, xs, ys, ex, hqx, hqy, q⟩ := q1
  subst ex
  cases r1 with
  | cons r rr =>
    cases rr with
    | cons r' rr =>
      cases rr
      obtain ⟨o1, G1, B1, g1, j1, a1⟩ := Sk.begin I1 hqx r
      obtain ⟨o2, G2, B2, g2, j2, a2⟩ := Sk.begin I1 hqy r'
      refine zip_begins2 B1 B2 g1 g2 fun h' hz hTI hTO h1 h2 hsz hk => wpAny_pyIter_zip hz ?_
      have I2 : Inv X pins σ H1 { s1 with heap := h' } := I1.kept (t' := s1.toks) hk
      have le5 : ∀ c ∈ ([s1.heap.objs.size + 4, s1.heap.objs.size + 2, s1.heap.objs.size + 3, s1.heap.objs.size, s1.heap.objs.size + 1] : List Addr), s1.heap.objs.size ≤ c := fun c hcm => le_new c hcm
      refine ⟨s1.heap.objs.size + 4, [s1.heap.objs.size + 4, s1.heap.objs.size + 2, s1.heap.objs.size + 3, s1.heap.objs.size, s1.heap.objs.size + 1], _, _, H1, rfl, I2, turn_zipG (k1 := k1) (k2 := k2) (sep_new (fun b hb => a1 b (le5 b hb)) fun b hb => a2 b (le5 b hb)),
        ⟨hz, hTI, ⟨_, _, hTO⟩, j1 _ _ h1, j2 _ _ h2⟩, fun c hcm => I1.fpOk (le5 c hcm) (I1.hok.fresh (le5 c hcm)), q⟩

/-! ### enumerate -/
def ItE (K : PySem.W.Frag) (k : Sk) : L2.It :=
  ⟨fun i H => ∃ (xs : List V) (x : V), k.has K H xs ∧ xs[i]? = some x,
    fun i H v H' => ∃ T x, v = .ref T ∧ H T = none ∧ H' = upd H T (.tup [.int (i : Nat), x]) ∧ ∀ xs, k.has K H xs → xs[i]? = some x,
    fun i H => ∃ xs : List V, k.has K H xs ∧ i = xs.length⟩
theorem turn_enumG {P : Program} {w : World} {K : PySem.W.Frag} {elts : List Expr} {kk : Nat} {tpos : Pos} {k : Sk} {e it : Addr} (hne : e ≠ it) (ae : k.apart e) (ai : k.apart it) :
    Turn P w K (.Tuple elts kk tpos) (ItE K k) [e, it] e (fun i h => (∃ old, IsEnum h e it i old) ∧ k.itr h it i) where
  mem := by simp
  obj := fun i h st b hb => by
    obtain ⟨⟨old, he⟩, h1⟩ := st
    have e' : b = e ∨ b = it := by simpa using hb
    rcases e' with q | q
    · rw [q]; exact ⟨_, he, fun v q => nomatch q⟩
    · rw [q]; exact Sk.itr_obj h1
  keep := fun i h h' st kp => by
    obtain ⟨⟨old, he⟩, h1⟩ := st
    exact ⟨⟨old, kp e (by simp) _ he⟩, Sk.itr_at h1 fun o q => kp it (by simp) o q⟩
  item := by
    intro X hP hw hK hc i pins s σ H E I hf st hg
    subst hP hw hK
    obtain ⟨⟨old, he⟩, h1⟩ := st
    obtain ⟨xs, x, hq, hx⟩ := hg
    have hh : X.A.in1.handled = none := I.ok.hd hc
    obtain ⟨fp, P1, S1, D1, m1, s1, t1, p1, f1⟩ := Sk.draws I hh hq h1 ai
    have hel : e < s.heap.objs.size := Heap.lt_size he
    have hil : it < s.heap.objs.size := by obtain ⟨_, q, _⟩ := Sk.itr_obj h1; exact Heap.lt_size q
    have lx : i < xs.length := (List.getElem?_eq_some_iff.mp hx).1
    have hef : e ∉ fp := fun z => by
      rcases f1 e z with q | q
      · exact hne q
      · exact q ae
    refine wpAny_pyNext_enum_itemD D1 he s1 lx hne hef fun u h' tk q1 ho hit' hT hsz hk => ?_
    obtain ⟨x', ex, ru⟩ := p1 i u q1
    rw [hx] at ex; cases ex
    refine ⟨_, rfl, wpAny_letOwnedTupleGo_enum (s := { s with heap := h', toks := tk + 1 }) ho fun h'' he' sb => ?_⟩
    have hT2 : h''.get? s.heap.objs.size = some { cls := .type "tuple", data := .seq #[.int i tk, u] } := (sb.2 _ (Nat.ne_of_gt hel)).trans hT
    have new : ObjOk X.prog X.w (upd H s.heap.objs.size (.tup [.int (i : Nat), x])) h'' s.heap.objs.size (.tup [.int (i : Nat), x]) :=
      ⟨by show 2 ≤ sizeLine; decide, [.int i tk, u], .cons ⟨_, rfl⟩ (.cons ru .nil), ⟨_, hT2, rfl, _, rfl⟩⟩
    have I1 : Inv X pins σ (upd H s.heap.objs.size (.tup [.int (i : Nat), x])) { s with heap := h'', toks := tk + 1 } :=
      I.turnedNew (ch := [e, it]) (fun b ob hb q => (sb.2 b (fun z => hb (by simp [z]))).trans (hk b ob (fun z => hb (by simp [z])) (fun z => hb (by simp [z])) q)) hf (Nat.le_refl _) new
    refine ⟨.ref s.heap.objs.size, _, I1, rfl, ⟨_, x, rfl, I.hok.fresh (Nat.le_refl _), rfl, fun ys hy => by rw [Sk.inj I hy hq]; exact hx⟩, ⟨⟨u, ?_⟩, Sk.itr_at (t1 _ _ hit') fun o q => (sb.2 it (Ne.symm hne)).trans q⟩, fun b hb => ?_⟩
    · have e1 : ((i + 1 : Nat) : Int) = (i : Int) + 1 := by omega
      rw [e1]; exact he'
    · have hb' : b < s.heap.objs.size := by
        have e' : b = e ∨ b = it := by simpa using hb
        rcases e' with z | z
        · rw [z]; exact hel
        · rw [z]; exact hil
      rw [upd_ne (Nat.ne_of_lt hb')]
      exact (hf b hb).1
  done := by
    intro X hP hw hK hc i pins s σ H E I hf st hg
    subst hP hw hK
    obtain ⟨⟨old, he⟩, h1⟩ := st
    obtain ⟨xs, hq, rfl⟩ := hg
    have hh : X.A.in1.handled = none := I.ok.hd hc
    obtain ⟨fp, P1, S1, D1, m1, s1, t1, p1, f1⟩ := Sk.draws I hh hq h1 ai
    obtain ⟨f0, f1, f2, f3, f4, f5⟩ := hf it (by simp)
    exact wpAny_pyNext_enum_endD D1 he s1 fun h' eb => ⟨rfl, I.turned (t' := s.toks) (fun b o hb q => eb b o hb q) f0 f1 f3 f4 f5⟩
  self := fun A i s Q E st h => let ⟨⟨_, he⟩, _⟩ := st; wpAny_pyIter_enum he h
theorem meets_enum1 {v : Value} {o : Obj} {G : Heap → Prop} (B : Begins v o G) :
    Meets (Builtin.«enumerate.__new__» ⟨[.type "enumerate", v], []⟩) (fun _ R s => G s.heap ∧
      R (.ok (.ret (.ref (s.heap.push o).objs.size))) { s with heap := (s.heap.push o).push { cls := .type "enumerate", data := .fields #[.none, .bool false, .ref s.heap.objs.size, rawInt 0, .none, .none] } }) :=
  .of_wp fun prog w A R s h => by
    obtain ⟨hp, g, d, tk, os⟩ := s
    obtain ⟨hG, h⟩ := h
    have hsub := sub_enumerate
    have qq : ∀ {A' : Around} {E : Value → Shared → Prop} {Q : Value → Shared → Prop}, Q (.ref hp.objs.size) ⟨(hp.push o), g, d, tk, os⟩ → wpAny (model prog w) A' (pyIter v) Q E ⟨hp, g, d, tk, os⟩ :=
      fun q => B.iter prog w _ _ ⟨hp, g, d, tk, os⟩ _ hG q
    wp_walk
    refine wpAny_stack_any fun st => wpAny_pure ?_
    split
    · rename_i c _ _ _ _ _
      cases (c == Value.type "enumerate")
      · wp_walk using qq
        exact ⟨_, rfl, h⟩
      · wp_walk using qq
        exact ⟨_, rfl, h⟩
    · wp_walk using qq
      exact ⟨_, rfl, h⟩
theorem enum1_begins {prog : Program} {w : World} {A : Around} {E : Value → Shared → Prop} {s : Shared} {v : Value} {o : Obj} {G : Heap → Prop} {Q : Value → Shared → Prop} (B : Begins v o G) (hG : G s.heap)
    (h : ∀ h', IsEnum h' (s.heap.objs.size + 1) s.heap.objs.size 0 .none → h'.get? s.heap.objs.size = some o → h'.objs.size = s.heap.objs.size + 2 → (∀ b o, s.heap.get? b = some o → h'.get? b = some o) → Q (.ref (s.heap.objs.size + 1)) { s with heap := h' }) :
    wpAny (model prog w) A (call (.type "enumerate") [v]) Q E s := by
  refine callType_new F.called_enumerate (by decide) (F.typeCall_enumerate_1 _) (F.newCall_enumerate_1 _) (fun obj => F.args_object_init_2 obj _) F.entry_enumerate_new (meets_enum1 B) ⟨hG, ?_⟩
  have hz : (s.heap.push o).objs.size = s.heap.objs.size + 1 := Heap.size_push ..
  have he : IsEnum ((s.heap.push o).push { cls := .type "enumerate", data := .fields #[.none, .bool false, .ref s.heap.objs.size, rawInt 0, .none, .none] }) (s.heap.objs.size + 1) s.heap.objs.size 0 .none := by
    have := Heap.get?_push_size (s.heap.push o) (o := { cls := .type "enumerate", data := .fields #[.none, .bool false, .ref s.heap.objs.size, rawInt 0, .none, .none] }) rfl
    rw [hz] at this; exact this
  show _ ∧ _
  rw [hz]
  exact ⟨⟨_, he, rfl⟩, h _ he (Heap.get?_push_of_some _ (Heap.get?_push_size _ B.free)) (by rw [Heap.size_push, hz]) fun b ob x => Heap.get?_push_of_some _ (Heap.get?_push_of_some _ x)⟩
def iEnumG (K : PySem.W.Frag) (ta : TA) : TI := fun σ H R => ta σ H fun vs H1 => ∃ (k : Sk) (xs : List V), vs = [k.v] ∧ k.has K H1 xs ∧ R (ItE K k) H1
theorem pi_enumG {X : Cx} {e : Expr} {ta : TA} {p pos tpos : Pos} {elts : List Expr} {kk : Nat} (hg : Gl X "enumerate") (hm : X.mg "enumerate" = none) (ha : PA X [e] ta) (hs : starEach [e] X.env = [(false, eval e X.env)]) :
    PI X (.Tuple elts kk tpos) (.Call (.Name "enumerate" p) [e] [] pos) (iEnumG X.K ta) := by
  refine ⟨fun pins s σ H R I h => ?_⟩
  refine Call_ (ld_blt I hg hm boot_enumerate (PyProof.Rows.callWith_type1 (thn (ha.run pos pins s σ H _ I h) fun us s1 ⟨vs, H1, I1, r1, q1⟩ => ?_) hs rfl))
  obtain ⟨k, xs, ex, hq, q⟩ := q1
  subst ex
  cases r1 with
  | cons r rr =>
    cases rr
    obtain ⟨o1, G1, B1, g1, j1, a1⟩ := Sk.begin I1 hq r
    refine enum1_begins B1 g1 fun h' he hit hsz hk => wpAny_pyIter_enum he ?_
    have I2 : Inv X pins σ H1 { s1 with heap := h' } := I1.kept (t' := s1.toks) hk
    have le2 : ∀ c ∈ ([s1.heap.objs.size + 1, s1.heap.objs.size] : List Addr), s1.heap.objs.size ≤ c := fun c hcm => by
      have e' : c = s1.heap.objs.size + 1 ∨ c = s1.heap.objs.size := by simpa using hcm
      rcases e' with z | z
      · rw [z]; exact Nat.le_add_right _ _
      · rw [z]; exact Nat.le_refl _
    exact ⟨s1.heap.objs.size + 1, [s1.heap.objs.size + 1, s1.heap.objs.size], _, _, H1, rfl, I2, turn_enumG (k := k) (Nat.succ_ne_self _) (a1 _ (Nat.le_add_right _ _)) (a1 _ (Nat.le_refl _)), ⟨⟨.none, he⟩, j1 _ _ hit⟩, fun c hcm => I1.fpOk (le2 c hcm) (I1.hok.fresh (le2 c hcm)), q⟩

/-! ### sources -/
/-- what a source reads of the thing k -/
def SkAt (K : PySem.W.Frag) (ca : Nat → Addr) (H : Hp) (r : Rg) (s : Src) (k : Sk) : Prop :=
  ∃ P : Hp → Rg → Prop, Stb P ∧ P H r ∧ ∀ H r S, P H r → Sim K ca H r S → (∀ i d, s.at S i = some d → ∃ vs v, k.has K H vs ∧ vs[i]? = some v ∧ Rep K H r d v) ∧ (s.fin S = true → ∃ vs, k.has K H vs ∧ vs.length = s.len)
section
variable {K : PySem.W.Frag} {ca : Nat → Addr} {H : Hp} {r : Rg} {S : Sto}
theorem srcOf_sk {x : D} {v : V} {s : Src} (m : Sim K ca H r S) (hx : Rep K H r x v) (e : srcOf S x = some s) : ∃ k : Sk, v = k.v ∧ (∃ vs, k.has K H vs) ∧ SkAt K ca H r s k := by
  unfold srcOf at e
  split at e
  · cases e; cases hx
    rename_i z
    refine ⟨.s z, rfl, ⟨_, rfl⟩, fun _ _ => True, Stb.const, trivial, fun H r S _ m => ⟨fun i d e => ?_, fun _ => ⟨_, rfl, by simp [signsV, signsD, Src.len]⟩⟩⟩
    simp only [Src.at, signsD, List.getElem?_map, Option.map_eq_some_iff] at e
    obtain ⟨c, e1, rfl⟩ := e
    exact ⟨_, .str ⟨#[c]⟩, rfl, by unfold signsV; rw [List.getElem?_map, e1]; rfl, .str _⟩
  · cases e
    cases hx with
    | @tup a vs _ h1 s1 =>
      exact ⟨.t a, rfl, ⟨vs, h1⟩, fun H r => SqT K H a vs ∧ Reps K H r _ vs, stb_sqt.and stb_reps, ⟨h1, s1⟩, fun H r S p m => ⟨fun i d e => let ⟨v, g1, g2⟩ := p.2.get e; ⟨vs, v, p.1, g1, g2⟩, fun _ => ⟨vs, p.1, p.2.length.symm⟩⟩⟩
  · cases e
    cases hx with
    | @lst a vs _ h1 hn hp s1 =>
      rename_i ds
      refine ⟨.l a, rfl, ⟨vs, .of h1⟩, fun H r => Rep K H r (.lst ds) (.ref a), stb_rep, .lst h1 hn hp s1, fun H r S p m => ?_⟩
      cases p with
      | @lst _ ws _ h hn hp hs =>
        exact ⟨fun i d e => let ⟨v, g1, g2⟩ := hs.get e; ⟨ws, v, .of h, g1, g2⟩, fun _ => ⟨ws, .of h, hs.length.symm⟩⟩
  · cases e
    cases hx with
    | @fro a vs _ h1 s1 =>
      exact ⟨.l a, rfl, ⟨vs, h1.sq⟩, fun H r => FL K H a vs ∧ Reps K H r _ vs, stb_fl.and stb_reps, ⟨h1, s1⟩, fun H r S p m => ⟨fun i d e => let ⟨v, g1, g2⟩ := p.2.get e; ⟨vs, v, p.1.sq, g1, g2⟩, fun _ => ⟨vs, p.1.sq, p.2.length.symm⟩⟩⟩
  · split at e
    · rename_i n _ xs e2
      cases e
      obtain ⟨a, rfl, h1, vs, h2, h3⟩ := m.loc hx e2
      refine ⟨.l a, rfl, ⟨vs, .of h2⟩, fun _ r => r.l[n]? = some a, ⟨fun e h => e.at h, fun _ h => h, fun _ _ h => h⟩, h1, fun H r S p m => ⟨fun i d e => ?_, fun f => ?_⟩⟩
      · simp only [Src.at] at e
        split at e
        · rename_i ys e1
          split at e
          · obtain ⟨b, g1, ws, g2, g3⟩ := m.obj n _ e1
            rw [p] at g1; cases g1
            obtain ⟨v, g4, g5⟩ := g3.get e
            exact ⟨ws, v, .of g2, g4, g5⟩
          · cases e
        · cases e
      · simp only [Src.fin] at f
        split at f
        · rename_i ys e1
          obtain ⟨b, g1, ws, g2, g3⟩ := m.obj n _ e1
          rw [p] at g1; cases g1
          exact ⟨ws, .of g2, by rw [← g3.length]; exact of_decide_eq_true f⟩
        · cases f
    · cases e
  · cases e
theorem SkAt.zip {s1 s2 : Src} {k1 k2 : Sk} (a : SkAt K ca H r s1 k1) (b : SkAt K ca H r s2 k2) : SrcAt K ca H r (.zip s1 s2) (ItzG K k1 k2) := by
  obtain ⟨P1, st1, p1, t1⟩ := a
  obtain ⟨P2, st2, p2, t2⟩ := b
  refine ⟨fun H r => P1 H r ∧ P2 H r, st1.and st2, ⟨p1, p2⟩, fun H r S p m i => ⟨fun d e => ?_, fun e f => ?_⟩⟩
  · simp only [Src.at] at e
    split at e
    · rename_i x y e1 e2
      cases e
      obtain ⟨vs, v, g1, g2, g3⟩ := (t1 H r S p.1 m).1 i x e1
      obtain ⟨us, u, g4, g5, g6⟩ := (t2 H r S p.2 m).1 i y e2
      refine ⟨⟨vs, us, v, u, g1, g4, g2, g5⟩, fun z H' yl => ?_⟩
      obtain ⟨T, v', u', rfl, hT, rfl, w1, w2⟩ := yl
      have := w1 vs g1; rw [g2] at this; cases this
      have := w2 us g4; rw [g5] at this; cases this
      exact ⟨Ext.new hT, m.new hT, newTup hT (.cons g3 (.cons g6 .nil))⟩
    · cases e
  · simp only [Src.fin, Bool.and_eq_true] at f
    simp only [Src.len] at e
    obtain ⟨vs, g1, g2⟩ := (t1 H r S p.1 m).2 f.1
    obtain ⟨us, g3, g4⟩ := (t2 H r S p.2 m).2 f.2
    exact ⟨vs, us, g1, g3, by omega, by omega, by omega⟩
theorem SkAt.enum {s : Src} {k : Sk} (a : SkAt K ca H r s k) : SrcAt K ca H r (.enum s) (ItE K k) := by
  obtain ⟨P1, st1, p1, t1⟩ := a
  refine ⟨P1, st1, p1, fun H r S p m i => ⟨fun d e => ?_, fun e f => ?_⟩⟩
  · simp only [Src.at] at e
    split at e
    · rename_i x e1
      cases e
      obtain ⟨vs, v, g1, g2, g3⟩ := (t1 H r S p m).1 i x e1
      refine ⟨⟨vs, v, g1, g2⟩, fun z H' yl => ?_⟩
      obtain ⟨T, v', rfl, hT, rfl, w1⟩ := yl
      have := w1 vs g1; rw [g2] at this; cases this
      exact ⟨Ext.new hT, m.new hT, newTup hT (.cons (.int _) (.cons g3 .nil))⟩
    · cases e
  · obtain ⟨vs, g1, g2⟩ := (t1 H r S p m).2 f
    exact ⟨vs, g1, by rw [e]; exact g2.symm⟩
theorem SrcAt.same {s s' : Src} {J : L2.It} (a : SrcAt K ca H r s J) (h1 : ∀ S i, s'.at S i = s.at S i) (h2 : s'.len = s.len) (h3 : ∀ S, s'.fin S = s.fin S) : SrcAt K ca H r s' J := by
  obtain ⟨P, st, p, t⟩ := a
  exact ⟨P, st, p, fun H r S p m i => ⟨fun d e => (t H r S p m i).1 d (by rw [← h1]; exact e), fun e f => (t H r S p m i).2 (by rw [e, h2]) (by rw [← h3]; exact f)⟩⟩
end
def zipS (a b : Src) : Src := match a, b with
  | .vals xs, .vals ys => .vals (List.zipWith (fun x y => .tup [x, y]) xs ys)
  | a, b => .zip a b
def enumS (a : Src) : Src := match a with
  | .vals xs => .vals (xs.zipIdx.map fun p => .tup [.int (p.2 : Nat), p.1])
  | a => .enum a
theorem zipS_same (a b : Src) : (∀ S i, (zipS a b).at S i = (Src.zip a b).at S i) ∧ (zipS a b).len = (Src.zip a b).len ∧ ∀ S, (zipS a b).fin S = (Src.zip a b).fin S := by
  unfold zipS
  split
  · rename_i xs ys
    refine ⟨fun S i => ?_, by simp [Src.len], fun S => rfl⟩
    simp only [Src.at, List.getElem?_zipWith]
    cases xs[i]? <;> cases ys[i]? <;> rfl
  · exact ⟨fun _ _ => rfl, rfl, fun _ => rfl⟩
theorem enumS_same (a : Src) : (∀ S i, (enumS a).at S i = (Src.enum a).at S i) ∧ (enumS a).len = (Src.enum a).len ∧ ∀ S, (enumS a).fin S = (Src.enum a).fin S := by
  unfold enumS
  split
  · rename_i xs
    refine ⟨fun S i => ?_, by simp [Src.len], fun S => rfl⟩
    simp only [Src.at, List.getElem?_map, List.getElem?_zipIdx]
    cases xs[i]? <;> simp
  · exact ⟨fun _ _ => rfl, rfl, fun _ => rfl⟩
def mZip (a : M (List D)) : M Src := fun sd S => (a sd S).bind fun xs S1 => match xs with
  | [x, y] => match srcOf S1 x, srcOf S1 y with
    | some s, some t => .ok (zipS s t) S1
    | _, _ => .bad
  | _ => .bad
def mEnum (a : M (List D)) : M Src := fun sd S => (a sd S).bind fun xs S1 => match xs with
  | [x] => match srcOf S1 x with
    | some s => .ok (enumS s) S1
    | none => .bad
  | _ => .bad
section
variable {X : Cx} {ca : Nat → Addr} {W : WX} {elts : List Expr} {kk : Nat} {tpos p pos : Pos} {a b : Expr} {ml : M (List D)}
theorem z_zip (hg : Gl X "zip") (hm : X.mg "zip" = none) (ha : PA X [a, b] (rA X.K ca W ml)) (hs : starEach [a, b] X.env = (false, eval a X.env) :: starEach [b] X.env) (hpl : (backTo pos (starEach [b] X.env)).any (·.1) = false) :
    PI X (.Tuple elts kk tpos) (.Call (.Name "zip" p) [a, b] [] pos) (rI X.K ca W (mZip ml)) := PI.imp (pi_zipG hg hm ha hs hpl) fun s H R ⟨sd, r, S, hs, m, h⟩ => ⟨sd, r, S, hs, m, h.bind fun d1 S1 v1 H1 r1 x1 m1 q1 h1 => by
    split at h1
    · split at h1
      · rename_i x y _ s t e1 e2
        cases q1 with
        | cons g1 q =>
          cases q with
          | cons g2 q =>
            cases q
            obtain ⟨k1, rfl, ⟨vs, w1⟩, c1⟩ := srcOf_sk m1 g1 e1
            obtain ⟨k2, rfl, ⟨us, w2⟩, c2⟩ := srcOf_sk m1 g2 e2
            obtain ⟨y1, y2, y3⟩ := zipS_same s t
            exact ⟨k1, k2, vs, us, rfl, w1, w2, h1 _ H1 r1 (Ext.refl ..) m1 ((c1.zip c2).same y1 y2 y3)⟩
      · exact h1.elim
    · exact h1.elim⟩
theorem z_enum (hg : Gl X "enumerate") (hm : X.mg "enumerate" = none) (ha : PA X [a] (rA X.K ca W ml)) (hs : starEach [a] X.env = [(false, eval a X.env)]) :
    PI X (.Tuple elts kk tpos) (.Call (.Name "enumerate" p) [a] [] pos) (rI X.K ca W (mEnum ml)) := PI.imp (pi_enumG hg hm ha hs) fun s H R ⟨sd, r, S, hs, m, h⟩ => ⟨sd, r, S, hs, m, h.bind fun d1 S1 v1 H1 r1 x1 m1 q1 h1 => by
    split at h1
    · split at h1
      · rename_i x _ s e1
        cases q1 with
        | cons g1 q =>
          cases q
          obtain ⟨k1, rfl, ⟨vs, w1⟩, c1⟩ := srcOf_sk m1 g1 e1
          obtain ⟨y1, y2, y3⟩ := enumS_same s
          exact ⟨k1, vs, rfl, w1, h1 _ H1 r1 (Ext.refl ..) m1 (c1.enum.same y1 y2 y3)⟩
      · exact h1.elim
    · exact h1.elim⟩
end
end Z

/-! Z layer, part Ie: a[i] op= e; lists that are made to be changed; methods of texts; a value chosen by a key; f-strings; texts walked. -/
namespace Z
open PySem PySem.Spec PyProof.Rows L2

/-! ### a[i] op= e -/
def mAugS (mo mi : M D) (f : Sto → D → D → Option D) (me : M D) : MS := fun sd S => (mo sd S).toS sd fun o S1 => (mi sd S1).toS sd fun i S2 => match o, i with
  | .loc n, .int k => match S2[n]? with
    | some (.lst xs) => match L2.atI xs k with
      | some x => (me sd S2).toS sd fun y S3 => match f S3 x y with
        | some z => match S3[n]? with
          | some (.lst ys) => match ixN ys.length k with
            | some j => .ok .nx sd (S3.set n (.lst (ys.set j z)))
            | none => .bad
          | _ => .bad
        | none => .bad
      | none => .bad
    | _ => .bad
  | _, _ => .bad
section
variable {X : Cx} {ca : Nat → Addr} {W : WX} {pos tpos : Pos}
theorem pget_list : PGet X (rIxL X.K) := by
  intro pins s σ H x y v u Q I rx ry h
  obtain ⟨p, xs, i, z, rfl, rfl, hq, he, q⟩ := h
  cases rx
  obtain ⟨t, rfl⟩ := ry
  obtain ⟨its, r, pl, hz⟩ := I.list hq
  obtain ⟨j, h1, h2, h3, h4, h5⟩ := atI_get he
  obtain ⟨w, ew, rw'⟩ := r.get h2
  have hl := r.length
  have hn := line63
  have fin : EP X pins σ Q w s := ⟨z, H, I, rw', q⟩
  by_cases h0 : 0 ≤ i
  · have hj : i.toNat = j := by
      rw [seqIndex_of h0 h5] at h1
      exact Option.some.inj h1
    exact wpAny_getItem_list pl.isList h0 (by omega) (by rw [hj]; simpa using ew) fin
  · have hj : (i + (its.toArray.size : Int)).toNat = j := by
      rw [seqIndex_neg (by omega) h4] at h1
      rw [List.size_toArray, ← hl]
      exact Option.some.inj h1
    exact wpAny_getItem_list_neg pl.isList (by omega) (by rw [List.size_toArray] <;> omega) (by omega) (by rw [hj]; simpa using ew) fin
theorem s_augS {o i e : Expr} {mo mi me : M D} {op : Operator} {R : R2} {f : Sto → D → D → Option D} (ho : PE X o (rE X.K ca W mo)) (hi : PE X i (rE X.K ca W mi)) (he : PE X e (rE X.K ca W me)) (hp : OpR X (inplaceOp op) R) (hz : OpZ X.K ca R f)
    (ha : ∀ ov iv new, augStore i ov iv new = (do holding [new, ov, iv] (setItem ov iv new); release [new, ov, iv] []; pure .next)) :
    PS X (.AugAssign (.Subscript o i tpos) op e pos) (rS X.K ca W (mAugS mo mi f me)) := PS.imp (ps_augS ho hi pget_list he hp set_list ha) fun D s H ⟨sd, r, S, hs, m, h⟩ =>
  ⟨sd, r, S, hs, m, LnS.bindE hs h fun o S1 vo H1 r1 x1 m1 q1 h1 => ⟨sd, r1, S1, hs.mono x1, m1, LnS.bindE (hs.mono x1) h1 fun i S2 vi H2 r2 x2 m2 q2 h2 => by
    split at h2
    · rename_i n k
      split at h2
      · rename_i xs e1
        split at h2
        · rename_i x e2
          obtain ⟨a, rfl, hn, vs, hA, hr⟩ := m2.loc (q1.mono x2) e1
          cases q2
          obtain ⟨v, a1, a2⟩ := hr.atI e2
          refine ⟨a, vs, k, v, rfl, rfl, .of hA, a1, sd, r2, S2, (hs.mono x1).mono x2, m2, LnS.bindE ((hs.mono x1).mono x2) h2 fun y S3 vy H3 r3 x3 m3 q3 h3 => ?_⟩
          split at h3
          · rename_i z e3
            refine hz m3 (a2.mono x3) q3 e3 fun w H' x' m' q' => ?_
            split at h3
            · rename_i ys e4
              split at h3
              · rename_i j e5
                obtain ⟨b, eb, hb, us, hB, hru⟩ := m'.loc (((q1.mono x2).mono x3).mono x') e4
                cases eb
                refine ⟨a, us, k, j, rfl, rfl, hB, by rw [← hru.length]; exact e5, ?_⟩
                have ex := m'.writeExt (o := .lst (us.set j w)) hb
                exact h3 _ _ r3 (x'.trans ex) (m'.write hb ⟨_, upd_same, (hru.mono ex).set (q'.mono ex) j⟩) (((((hs.mono x1).mono x2).mono x3).mono x').mono ex)
              · exact h3.elim
            · exact h3.elim
          · exact h3.elim
        · exact h2.elim
      · exact h2.elim
    · exact h2.elim⟩⟩
end

/-! ### lists made to be changed -/
def mOwn (f : Sto → D → D → Option (List D)) (a b : M D) : M D := fun sd S => (a sd S).bind fun x S1 => (b sd S1).bind fun y S2 => match f S2 x y with
  | some xs => .ok (.loc S2.length) (S2 ++ [.lst xs])
  | none => .bad
def repL (S : Sto) (x y : D) : Option (List D) := match y with
  | .int k => match asL S x with
    | some xs => if -9223372036854775808 ≤ k ∧ k < 9223372036854775808 ∧ xs.length * k.toNat ≤ 16777216 then some (List.replicate k.toNat xs).flatten else none
    | none => none
  | _ => none
def catL (S : Sto) (x y : D) : Option (List D) := match asL S x, asL S y with
  | some xs, some ys => if xs.length + ys.length ≤ 16777216 then some (xs ++ ys) else none
  | _, _ => none
def mLstC (a : M D) : M D := fun sd S => (a sd S).bind fun x S1 => match asQ S1 x with
  | some xs => .ok (.loc S1.length) (S1 ++ [.lst xs])
  | none => .bad
section
variable {X : Cx} {ca : Nat → Addr} {W : WX} {pos : Pos} {a b : Expr} {ma mb : M D}
theorem z_repM (ha : PE X a (rE X.K ca W ma)) (hb : PE X b (rE X.K ca W mb)) : PE X (.BinOp a .Mult b pos) (rE X.K ca W (mOwn repL ma mb)) := PE.imp (pe_op op_rep ha hb) fun s H Q ⟨sd, r, S, hs, m, h⟩ =>
  ⟨sd, r, S, hs, m, h.bind fun d1 S1 v1 H1 r1 x1 m1 q1 h1 => ⟨sd, r1, S1, hs.mono x1, m1, h1.bind fun d2 S2 v2 H2 r2 x2 m2 q2 h2 => by
    split at h2
    · rename_i xs e
      unfold repL at e
      split at e
      · split at e
        · rename_i k _ ys e1
          split at e
          · rename_i hc
            cases e
            obtain ⟨p, vs, rfl, g1, s1⟩ := asL_rep m2 (q1.mono x2) e1
            cases q2
            refine ⟨p, k, vs, rfl, rfl, g1, by omega, by omega, by rw [sizeLine_eq, ← s1.length]; omega, fun l hl => ?_⟩
            obtain ⟨n1, n2⟩ := newLoc m2 hl (s1.rep k.toNat)
            exact h2 _ _ _ (Ext.newLoc hl) n1 n2
          · cases e
        · cases e
      · cases e
    · exact h2.elim⟩⟩
theorem z_catM (ha : PE X a (rE X.K ca W ma)) (hb : PE X b (rE X.K ca W mb)) : PE X (.BinOp a .Add b pos) (rE X.K ca W (mOwn catL ma mb)) := PE.imp (pe_op op_cat ha hb) fun s H Q ⟨sd, r, S, hs, m, h⟩ =>
  ⟨sd, r, S, hs, m, h.bind fun d1 S1 v1 H1 r1 x1 m1 q1 h1 => ⟨sd, r1, S1, hs.mono x1, m1, h1.bind fun d2 S2 v2 H2 r2 x2 m2 q2 h2 => by
    split at h2
    · rename_i xs e
      unfold catL at e
      split at e
      · rename_i ys zs e1 e2
        split at e
        · rename_i hc
          cases e
          obtain ⟨p, vs, rfl, g1, s1⟩ := asL_rep m2 (q1.mono x2) e1
          obtain ⟨p2, us, rfl, g2, s2⟩ := asL_rep m2 q2 e2
          refine ⟨p, p2, vs, us, rfl, rfl, g1, g2, by rw [sizeLine_eq, ← s1.length, ← s2.length]; omega, fun l hl => ?_⟩
          obtain ⟨n1, n2⟩ := newLoc m2 hl (s1.append s2)
          exact h2 _ _ _ (Ext.newLoc hl) n1 n2
        · cases e
      · cases e
    · exact h2.elim⟩⟩
theorem z_lstC {x : Str} {p : Pos} {es : List Expr} (hg : Gl X "list") (hm : X.mg "list" = none) (ha : PE X a (rE X.K ca W ma)) (he : starEach [a] X.env = (false, eval a X.env) :: starEach [] X.env) :
    PE X (.Call (.Name "list" p) [a] [] pos) (rE X.K ca W (mLstC ma)) := PE.imp (pe_callTy call_list_of hg hm (by decide +kernel) (pa_cons ha pa_nil he) (by decide) (by decide) he rfl) fun s H Q ⟨sd, r, S, hs, m, h⟩ =>
  ⟨sd, r, S, hs, m, h.bind fun d1 S1 v1 H1 r1 x1 m1 q1 h1 => by
    split at h1
    · rename_i xs e
      obtain ⟨a, us, rfl, g1, s1⟩ := asQ_rep m1 q1 e
      refine ⟨a, us, rfl, g1, fun l hl => ?_⟩
      obtain ⟨n1, n2⟩ := newLoc m1 hl s1
      exact h1 _ _ _ (Ext.newLoc hl) n1 n2
    · exact h1.elim⟩
end

/-! ### methods of texts, of one argument -/
inductive Sm where
  | join | split | startswith | partition | strip
def Sm.nm : Sm → String
  | .join => "join" | .split => "split" | .startswith => "startswith" | .partition => "partition" | .strip => "strip"
def strsOf : List D → Option (List Str)
  | [] => some []
  | .str x :: ds => (strsOf ds).map (x :: ·)
  | _ => none
def joinD (S : Sto) (x y : D) : Option D := match x with
  | .str a => match asQ S y with
    | some ds => match strsOf ds with
      | some ys => if (ys.map (·.length)).sum + ys.length * a.length ≤ 16777216 then some (.str (Txt.join a ys)) else none
      | none => none
    | none => none
  | _ => none
def splitD (_ : Sto) (x y : D) : Option D := match x, y with
  | .str a, .str b => if (b.length == 0) = false ∧ a.length + 2 ≤ 16777216 then some (.lst ((Txt.split a b).map .str)) else none
  | _, _ => none
def startsD (_ : Sto) (x y : D) : Option D := match x, y with
  | .str a, .str b => some (.bl (Txt.startswith a b))
  | _, _ => none
def partD (_ : Sto) (x y : D) : Option D := match x, y with
  | .str a, .str b => if (b.length == 0) = false ∧ a.length ≤ 16777216 then some (.tup [.str (Txt.partition a b).1, .str (Txt.partition a b).2.1, .str (Txt.partition a b).2.2]) else none
  | _, _ => none
def stripD (_ : Sto) (x y : D) : Option D := match x, y with
  | .str a, .str b => if a.length ≤ 16777216 then some (.str (Txt.stripChars a b)) else none
  | _, _ => none
def smF : Sm → Sto → D → D → Option D
  | .join => joinD
  | .split => splitD
  | .startswith => startsD
  | .partition => partD
  | .strip => stripD
def mSm (m : Sm) (a b : M D) : M D := fun sd S => (a sd S).bind fun x S1 => match x with
  | .str _ => (b sd S1).bind fun y S2 => lift (smF m S2 x y) S2
  | _ => .bad
section
variable {K : PySem.W.Frag} {ca : Nat → Addr} {H : Hp} {r : Rg} {S : Sto}
theorem strs_rep : ∀ {ds : List D} {vs : List V} {ys : List Str}, Reps K H r ds vs → strsOf ds = some ys → vs = ys.map V.str
  | _, _, _, .nil, e => by simp only [strsOf] at e; cases e; rfl
  | _, _, _, .cons h hs, e => by
    cases h with
    | str i =>
      simp only [strsOf, Option.map_eq_some_iff] at e
      obtain ⟨is, e1, rfl⟩ := e
      rw [strs_rep hs e1]; rfl
    | _ => cases e
theorem reps_strs : ∀ ys : List Str, Reps K H r (ys.map D.str) (ys.map V.str)
  | [] => .nil
  | y :: ys => .cons (.str y) (reps_strs ys)
end
section
variable {X : Cx} {ca : Nat → Addr} {W : WX} {a b : Expr} {ma mb : M D} {apos pos : Pos}
theorem z_sm (sm : Sm) (ha : PE X a (rE X.K ca W ma)) (hb : PE X b (rE X.K ca W mb)) (hs : starEach [b] X.env = [(false, eval b X.env)]) (hbase : attributeBase a (Str.ofString sm.nm) X.env (eval a X.env) = eval a X.env) (hline : (apos.endLine == pos.line) = true) :
    PE X (.Call (.Attribute a (Str.ofString sm.nm) apos) [b] [] pos) (rE X.K ca W (mSm sm ma mb)) := by
  have key : ∀ {R : V → List V → Hp → VK → Prop}, (∀ {H : Hp} {r : Rg} {S : Sto} {x y : D} {vx vy : V} {d : D} {Q : VK}, Sim X.K ca H r S → Rep X.K H r x vx → Rep X.K H r y vy → smF sm S x y = some d → (∀ v H', Ext H r H' r → Sim X.K ca H' r S → Rep X.K H' r d v → Q v H') → R vx [vy] H Q) →
      PE X (.Call (.Attribute a (Str.ofString sm.nm) apos) [b] [] pos) (tM1 R (rE X.K ca W ma) (rE X.K ca W mb)) → PE X (.Call (.Attribute a (Str.ofString sm.nm) apos) [b] [] pos) (rE X.K ca W (mSm sm ma mb)) := by
    intro R hR hp
    refine PE.imp hp fun s H Q ⟨sd, r, S, hs, m, h⟩ => ⟨sd, r, S, hs, m, h.bind fun d1 S1 v1 H1 r1 x1 m1 q1 h1 => ?_⟩
    split at h1
    · refine ⟨by cases q1; exact ⟨_, rfl⟩, sd, r1, S1, hs.mono x1, m1, h1.bind fun d2 S2 v2 H2 r2 x2 m2 q2 h2 => ?_⟩
      obtain ⟨d, e, k⟩ := lift_ln h2
      exact hR m2 (q1.mono x2) q2 e fun v H' => k v H' r2
    · exact h1.elim
  cases sm with
  | join =>
    refine key (fun {H r S x y vx vy d Q} m hx hy e q => ?_) (pe_m1 PySem.F.slot_str_join PySem.F.type_str_join mt_join ha hb hs hbase hline)
    replace e : joinD S x y = some d := e
    unfold joinD at e
    split at e <;> first | (cases e; done) | skip
    split at e
    · rename_i ds e3
      split at e
      · rename_i ys e4
        split at e
        · rename_i hl
          cases e
          cases hx
          obtain ⟨p, vs, rfl, g1, s1⟩ := asQ_rep m hy e3
          have := strs_rep s1 e4
          subst this
          exact ⟨_, p, ys, rfl, rfl, g1, hl, q _ _ (Ext.refl ..) m (.str _)⟩
        · cases e
      · cases e
    · cases e
  | split =>
    refine key (fun {H r S x y vx vy d Q} m hx hy e q => ?_) (pe_m1 PySem.F.slot_str_split PySem.F.type_str_split mt_split ha hb hs hbase hline)
    replace e : splitD S x y = some d := e
    unfold splitD at e
    split at e <;> first | (cases e; done) | skip
    split at e
    · rename_i hl
      cases e; cases hx; cases hy
      exact ⟨_, _, rfl, rfl, hl.1, by rw [sizeLine_eq]; exact hl.2, fun p hp => q _ _ (Ext.new hp) (m.new hp) (newLst m hp (reps_strs _))⟩
    · cases e
  | startswith =>
    refine key (fun {H r S x y vx vy d Q} m hx hy e q => ?_) (pe_m1 PySem.F.slot_str_startswith PySem.F.type_str_startswith mt_startswith ha hb hs hbase hline)
    replace e : startsD S x y = some d := e
    unfold startsD at e
    split at e <;> first | (cases e; done) | skip
    cases e; cases hx; cases hy
    exact ⟨_, _, rfl, rfl, q _ _ (Ext.refl ..) m (.bl _)⟩
  | partition =>
    refine key (fun {H r S x y vx vy d Q} m hx hy e q => ?_) (pe_m1 PySem.F.slot_str_partition PySem.F.type_str_partition mt_partition ha hb hs hbase hline)
    replace e : partD S x y = some d := e
    unfold partD at e
    split at e <;> first | (cases e; done) | skip
    split at e
    · rename_i hl
      cases e; cases hx; cases hy
      exact ⟨_, _, rfl, rfl, hl.1, by rw [sizeLine_eq]; exact hl.2, fun p hp => q _ _ (Ext.new hp) (m.new hp) (newTup hp (.cons (.str _) (.cons (.str _) (.cons (.str _) .nil))))⟩
    · cases e
  | strip =>
    refine key (fun {H r S x y vx vy d Q} m hx hy e q => ?_) (pe_m1 PySem.F.slot_str_strip PySem.F.type_str_strip mt_stripChars ha hb hs hbase hline)
    replace e : stripD S x y = some d := e
    unfold stripD at e
    split at e <;> first | (cases e; done) | skip
    split at e
    · rename_i hl
      cases e; cases hx; cases hy
      exact ⟨_, _, rfl, rfl, by rw [sizeLine_eq]; exact hl, q _ _ (Ext.refl ..) m (.str _)⟩
    · cases e
end

/-! ### {"a": x, ..}[k] -/
def mDsel (ks : List Str) (a : M (List D)) (b : M D) : M D := fun sd S => (a sd S).bind fun xs S1 => (b sd S1).bind fun y S2 => match y with
  | .str k => lift ((ks.zip xs).lookup k) S2
  | _ => .bad
theorem merge_nodup : ∀ (more kvs : List (Key × V)), (more.map (·.1)).Nodup → (∀ k ∈ more.map (·.1), valV kvs k = none) → mergeK kvs more = kvs ++ more
  | [], kvs, _, _ => by simp [mergeK]
  | p :: more, kvs, hn, hk => by
    rw [List.map_cons, List.nodup_cons] at hn
    have e : mergeK kvs (p :: more) = mergeK (putK kvs p.1 p.2) more := rfl
    rw [e, putK_new p.2 (hk p.1 (by simp)), merge_nodup more _ hn.2 fun k hm => ?_]
    · simp
    · rw [valV_snoc _ _ _ _ (hk p.1 (by simp)), if_neg (fun z => hn.1 (by rw [← z]; exact hm))]
      exact hk k (by simp [hm])
theorem valV_zip {K : PySem.W.Frag} {H : Hp} {r : Rg} {k : Str} {d : D} : ∀ {ks : List Str} {xs : List D} {vs : List V}, Reps K H r xs vs → (ks.zip xs).lookup k = some d → ∃ v, valV ((ks.zip vs).map fun p => ((Sum.inr p.1 : Key), p.2)) (Sum.inr k) = some v ∧ Rep K H r d v
  | [], _, _, _, e => by simp at e
  | _ :: _, _, _, .nil, e => by simp at e
  | c :: ks, _, _, .cons (d := x) (v := v) h hs, e => by
    rw [List.zip_cons_cons, List.lookup_cons] at e
    rw [List.zip_cons_cons, List.map_cons]
    cases q : (k == c) with
    | true =>
      simp only [q] at e
      cases e
      have : c = k := (eq_of_beq q).symm
      exact ⟨v, valV_pos (by rw [this]), h⟩
    | false =>
      simp only [q] at e
      obtain ⟨v', g1, g2⟩ := valV_zip (ks := ks) hs e
      exact ⟨v', by rw [valV_neg (by intro z; have := Sum.inr.inj z; simp only at this; rw [this] at q; simp at q)]; exact g1, g2⟩
/-- the pairs of a display whose keys are written texts -/
structure PD (X : Cx) (ca : Nat → Addr) (W : WX) (pos : Pos) (ks : List Str) (keys : List (Option Expr)) (values : List Expr) (ml : M (List D)) : Prop where
  ex : ∃ trs, PPs X pos keys values trs ∧ keys.length = ks.length ∧ values.length = ks.length ∧ keys.all (·.isSome) = true ∧ ∀ (s : St) (H : Hp) (Q : List (V × V) → Hp → Prop),
    (∃ sd r S, Slots X.K H r sd s ∧ Sim X.K ca H r S ∧ Ln X.K ca (rL X.K) H r (ml sd S) (fun vs H' => vs.length = ks.length → Q ((ks.zip vs).map fun p => (V.str p.1, p.2)) H') (fun c d H' => W c d s H')) → tPairs trs s H Q
section
variable {X : Cx} {ca : Nat → Addr} {W : WX} {pos pos2 : Pos} {ks : List Str} {keys : List (Option Expr)} {values : List Expr} {ml : M (List D)} {b : Expr} {mb : M D}
theorem pd_nil : PD X ca W pos [] [] [] mNil := ⟨[], pps_nil, rfl, rfl, rfl, fun s H Q ⟨sd, r, S, hs, m, h⟩ => h.ok m .nil rfl⟩
theorem pd_cons {k : Str} {n : Nat} {p : Pos} {e : Expr} {me : M D} (he : PE X e (rE X.K ca W me)) (hr : PD X ca W pos ks keys values ml) : PD X ca W pos (k :: ks) (some (.Constant (.str k) n p) :: keys) (e :: values) (mCons me ml) := by
  obtain ⟨trs, h1, h2, h3, h4, h5⟩ := hr.ex
  refine ⟨(tC (.str k), rE X.K ca W me) :: trs, pps_cons pe_str he h1, by simp [h2], by simp [h3], by simp [h4], fun s H Q ⟨sd, r, S, hs, m, h⟩ => ?_⟩
  refine ⟨sd, r, S, hs, m, h.bind fun d1 S1 v1 H1 r1 x1 m1 q1 g1 => h5 _ _ _ ⟨sd, r1, S1, hs.mono x1, m1, g1.bind fun d2 S2 v2 H2 r2 x2 m2 q2 g2 hl => ?_⟩⟩
  exact g2.ok (v := v1 :: v2) m2 (.cons (q1.mono x2) q2) (by simp [hl])
theorem z_dsel (hu : X.A.units + 1 < cLine) (hp : PD X ca W pos ks keys values ml) (hn : ks.Nodup) (h0 : ks ≠ []) (h15 : ks.length ≤ 15) (hlen : ∀ sd S ds S1, ml sd S = .ok ds S1 → ds.length = ks.length) (hb : PE X b (rE X.K ca W mb)) (hs : NoSl b) :
    PE X (.Subscript (.Dict keys values pos) b pos2) (rE X.K ca W (mDsel ks ml mb)) := by
  obtain ⟨trs, h1, h2, h3, h4, h5⟩ := hp.ex
  have hk0 : keys ≠ [] := fun z => h0 (by rw [z] at h2; exact List.length_eq_zero_iff.mp h2.symm)
  refine PE.imp (pe_dget hu (pe_disp h1 h4 (h2.trans h3.symm) hk0 (by omega)) hb hs) fun s H Q ⟨sd, r, S, hs, m, h⟩ p hp => ?_
  have np : p ∉ r.l := fun z => m.tracked z hp
  have hpp : p ∉ r.p := fun z => m.prv _ z hp
  have xn : Ext H r (upd H p (.dK [])) r := Ext.new hp
  refine h5 _ _ _ ⟨sd, r.hide p, S, stb_slots.hide hp hs, m.hide hp, ?_⟩
  unfold mDsel at h
  cases e1 : ml sd S with
  | bad => rw [e1] at h; exact h.elim
  | exc c fs S1 =>
    rw [e1] at h
    intro cls d H1 r1 x1 m1 q1
    have e : r1.p = p :: r.p := x1.prv
    refine h cls d H1 ⟨r1.l, r.p⟩ (xn.trans (x1.unhide r.p)) (m1.move (mv_show e) rfl fun a ha => by rw [e]; exact List.mem_cons_of_mem _ ha) ⟨q1.1, ?_⟩
    have q2 := q1.2
    cases fs with
    | none => exact q2
    | some gs =>
      obtain ⟨dd, vs, g1, g2, g3⟩ := q2
      exact ⟨dd, vs, g1, g2, g3.move (mv_show e)⟩
  | ok xs S1 =>
    rw [e1] at h
    intro vs H1 r1 x1 m1 q1 hl
    have e : r1.p = p :: r.p := x1.prv
    have hp1 : H1 p = some (.dK []) := x1.keep _ _ (upd_same ..) np
    have np1 : p ∉ r1.l := x1.notin (ne_of_some (upd_same ..)) np
    have hpm : p ∈ r1.p := by rw [e]; simp
    refine ⟨hp1, (ks.zip vs).map (fun q => ((Sum.inr q.1 : Key), q.2)), by simp [kV, Function.comp_def], by simp; omega, ?_⟩
    have ekeys : ((ks.zip vs).map fun q => ((Sum.inr q.1 : Key), q.2)).map (·.1) = ks.map fun x => (Sum.inr x : Key) := by
      rw [List.map_map]
      have : ((fun x : Key × V => x.1) ∘ fun q : Str × V => ((Sum.inr q.1 : Key), q.2)) = (fun x : Str => (Sum.inr x : Key)) ∘ Prod.fst := rfl
      rw [this, ← List.map_map, List.map_fst_zip (by omega)]
    have em : mergeK [] ((ks.zip vs).map fun q => ((Sum.inr q.1 : Key), q.2)) = (ks.zip vs).map fun q => ((Sum.inr q.1 : Key), q.2) := by
      rw [merge_nodup _ [] (by rw [ekeys]; exact List.pairwise_map.mpr (hn.imp fun hab z => hab (Sum.inr.inj z))) (fun k _ => rfl)]; rfl
    rw [em]
    have x2 : Ext H r (upd H1 p (.dK ((ks.zip vs).map fun q => ((Sum.inr q.1 : Key), q.2)))) ⟨r1.l, r.p⟩ := (xn.trans (x1.unhide r.p)).chg hp
    have m2 : Sim X.K ca (upd H1 p (.dK ((ks.zip vs).map fun q => ((Sum.inr q.1 : Key), q.2)))) ⟨r1.l, r.p⟩ S1 := (m1.chg ⟨_, hp1, id⟩ hpm np1).move (mv_show e) rfl fun a ha => by rw [e]; exact List.mem_cons_of_mem _ ha
    have q2 : Reps X.K (upd H1 p (.dK ((ks.zip vs).map fun q => ((Sum.inr q.1 : Key), q.2)))) ⟨r1.l, r.p⟩ xs vs := (q1.chg ⟨_, hp1, id⟩ hpm).move (mv_show e)
    refine ⟨sd, _, S1, hs.mono x2, m2, Ln.bind (Ln.ext x2 h) fun y S2 vy H3 r3 x3 m3 q3 h3 => ?_⟩
    split at h3
    · rename_i k
      cases q3
      obtain ⟨d, g1, g2⟩ := lift_ln h3
      obtain ⟨v, g3, g4⟩ := valV_zip (q2.mono x3) g1
      have hp3 : H3 p = some (.dK ((ks.zip vs).map fun q => ((Sum.inr q.1 : Key), q.2))) := x3.keep _ _ (upd_same ..) np1
      refine ⟨p, v, rfl, ?_, g2 v H3 r3 (Ext.refl ..) m3 g4⟩
      rw [← g3]
      exact DGet.k (k := Sum.inr k) hp3
    · exact h3.elim
end

/-! ### f-strings -/
def fmtD (x : D) : Option D := match x with
  | .str y => if y.length ≤ 16777216 then some (.str y) else none
  | .int i => if i.natAbs.log2 < 1920 then some (.str (toString i)) else none
  | _ => none
def mFmt (a : M D) : M D := fun sd S => (a sd S).bind fun x S1 => lift (fmtD x) S1
def mFc (a : M D) (m : Str → M D) (acc : Str) : M D := fun sd S => (a sd S).bind fun x S1 => match x with
  | .str y => if (acc ++ y).length ≤ 16777216 then m (acc ++ y) sd S1 else .bad
  | _ => .bad
section
variable {X : Cx} {ca : Nat → Addr} {W : WX} {pos : Pos} {a : Expr} {ma : M D}
theorem z_fmt (ha : PE X a (rE X.K ca W ma)) : PE X (.FormattedValue a (-1) none pos) (rE X.K ca W (mFmt ma)) := PE.imp (pe_fmt ha) fun s H Q ⟨sd, r, S, hs, m, h⟩ =>
  ⟨sd, r, S, hs, m, h.bind fun d1 S1 v1 H1 r1 x1 m1 q1 h1 => by
    obtain ⟨d, e, k⟩ := lift_ln h1
    unfold fmtD at e
    split at e
    · split at e
      · rename_i hl
        cases e; cases q1
        exact .inl ⟨_, rfl, by rw [sizeLine_eq]; exact hl, k _ _ r1 (Ext.refl ..) m1 (.str _)⟩
      · cases e
    · split at e
      · rename_i hl
        cases e; cases q1
        exact .inr ⟨_, rfl, hl, k _ _ r1 (Ext.refl ..) m1 (.str _)⟩
      · cases e
    · cases e⟩
/-- the parts of an f-string -/
structure PF2 (X : Cx) (ca : Nat → Addr) (W : WX) (es : List Expr) (m : Str → M D) : Prop where
  ex : ∃ ts, PJ X es ts ∧ ∀ (acc : Str) (s : St) (H : Hp) (Q : Str → Hp → Prop), rE X.K ca W (m acc) s H (fun v H' => ∀ z, v = .str z → Q z H') → tJs ts acc s H Q
theorem pf_nil : PF2 X ca W [] (fun acc => mC (.str acc)) := ⟨[], .nil, fun acc s H Q ⟨sd, r, S, hs, m, h⟩ => h.ok (v := .str acc) m (.str acc) acc rfl⟩
theorem pf_cons {e : Expr} {es : List Expr} {me : M D} {m : Str → M D} (he : PE X e (rE X.K ca W me)) (hr : PF2 X ca W es m) : PF2 X ca W (e :: es) (mFc me m) := by
  obtain ⟨ts, h1, h2⟩ := hr.ex
  refine ⟨rE X.K ca W me :: ts, .cons he h1, fun acc s H Q ⟨sd, r, S, hs, mm, h⟩ => ⟨sd, r, S, hs, mm, h.bind fun d1 S1 v1 H1 r1 x1 m1 q1 g1 => ?_⟩⟩
  split at g1
  · split at g1
    · rename_i y hl
      cases q1
      exact ⟨y, rfl, by rw [sizeLine_eq]; exact hl, h2 _ _ _ _ ⟨sd, r1, S1, hs.mono x1, m1, g1⟩⟩
    · exact g1.elim
  · exact g1.elim
theorem z_fs {e1 e2 : Expr} {es : List Expr} {m : Str → M D} (h : PF2 X ca W (e1 :: e2 :: es) m) (hm : ∀ acc sd S d S1, m acc sd S = .ok d S1 → ∃ z, d = .str z) : PE X (.JoinedStr (e1 :: e2 :: es) pos) (rE X.K ca W (m Str.empty)) := by
  obtain ⟨ts, h1, h2⟩ := h.ex
  refine PE.imp (pe_joined h1) fun s H Q ⟨sd, r, S, hs, mm, hh⟩ => h2 _ _ _ _ ⟨sd, r, S, hs, mm, ?_⟩
  cases e : m Str.empty sd S with
  | bad => rw [e] at hh; exact hh.elim
  | exc c fs S1 => rw [e] at hh; exact hh
  | ok d S1 =>
    rw [e] at hh
    intro v H1 r1 x1 m1 q1 z hz
    subst hz
    exact hh _ H1 r1 x1 m1 q1
end
end Z

/-! Z layer, part J: the programs that are read: expressions. -/
namespace Z
open PySem PySem.Spec PyProof.Rows L2

inductive Bf where
  | len | abs | int | str | tup | lst | max2 | min2 | repr | sum | max1 | min1
mutual
inductive E where
  | v (i : Nat) | c (d : D) | g (j : Nat)
  | op (o : Operator) (a b : E) | neg (a : E)
  | cmp (o : CmpOp) (a b : E) | ch (o o' : CmpOp) (a b c : E)
  | bo (o : BoolOp) (es : Es) | not (a : E) | ifx (t : Tt) (a b : E)
  | tup (es : Es) | lst (mt : Bool) (es : Es)
  | ix (a b : E) | sl (a : E) (lo hi : Oe)
  | call (f : Nat) (es : Es) | bf (f : Bf) (es : Es) | isi (a : E) (t : Ty) | isiT (a : E) (t t' : Ty) | dicE
  | fld (o : E) (f : Str) | mth (o : E) (m : Str) (es : Es) | mk (c : Nat) (es : Es)
  | app (o : E) (es : Es) | ext (o : E) (es : Es)
  | lc (mt : Bool) (t : Tg) (it : It) (c : Ot) (e : E) (own : List (Str × Nat))
  | opM (o : Operator) (a b : E) | lstC (a : E) | sm (m : Sm) (a b : E) | dsel (ks : List Str) (es : Es) (k : E) | fmt (a : E) | fs (es : Es)
inductive Es where
  | nil | cons (e : E) (es : Es)
inductive Oe where
  | none | some (e : E)
inductive Tt where
  | bo (o : BoolOp) (ts : Tts) | not (a : Tt) | cmp (o : CmpOp) (a b : E) | ch (o o' : CmpOp) (a b c : E) | tru (e : E)
inductive Tts where
  | nil | cons (t : Tt) (ts : Tts)
inductive Ot where
  | none | some (t : Tt)
inductive Tg where
  | nm (i : Nat) | tup (ts : Tgs) | sub (o i : E)
inductive Tgs where
  | nil | cons (t : Tg) (ts : Tgs)
inductive It where
  | seq (e : E) | rng1 (a : Es) | rng2 (a : Es) | zip (a : Es) | enum (a : Es)
end

/-! ### what it means -/
def opF : Operator → Sto → D → D → Option D
  | .Add => addP
  | .Sub => intP subI
  | .Mult => mulP
  | .FloorDiv => intP fdivI
  | .Mod => intP modI
  | .Pow => intP powI
  | _ => fun _ _ _ => none
def cmpF : CmpOp → Sto → D → D → Option D
  | .Eq => eqD
  | .NotEq => neD
  | .Lt => cmpI fun i j => decide (i < j)
  | .LtE => cmpI fun i j => decide (i ≤ j)
  | .Gt => cmpI fun i j => decide (j < i)
  | .GtE => cmpI fun i j => decide (j ≤ i)
  | .Is => isNP false
  | .IsNot => isNP true
  | .In => inD
  | .NotIn => notInD
def bfF : Bf → Sto → List D → Option D
  | .len => call1 lenD
  | .abs => call1 absD
  | .int => call1 intD
  | .str => call1 strD
  | .tup => call1 tupD
  | .lst => call1 lstD
  | .max2 => max2D
  | .min2 => min2D
  | .repr => call1 reprD
  | .sum => call1 sumD
  | .max1 => call1 max1D
  | .min1 => call1 min1D
def negD (x : D) : Option D := match x with
  | .int i => some (.int (-i))
  | _ => none
def mNeg (a : M D) : M D := fun sd S => (a sd S).bind fun x S1 => lift (negD x) S1
def mYes : M Bool := fun _ S => .ok true S
def mG (G : Ev) (j : Nat) : M D := fun _ S => lift G.g[j]? S
def ownF : Operator → Sto → D → D → Option (List D)
  | .Add => catL
  | .Mult => repL
  | _ => fun _ _ _ => none
mutual
def tgSl : Tg → List Nat
  | .nm i => [i]
  | .tup ts => tgsSl ts
  | .sub _ _ => []
def tgsSl : Tgs → List Nat
  | .nil => []
  | .cons t ts => tgSl t ++ tgsSl ts
end
def tgsLen : Tgs → Nat
  | .nil => 0
  | .cons _ ts => tgsLen ts + 1
section
variable (G : Ev) (C : Nat → List D → Sto → Out D)
mutual
def dE : E → M D
  | .v i => mVar i
  | .c d => mC d
  | .g j => mG G j
  | .op o a b => mBin (opF o) (dE a) (dE b)
  | .neg a => mNeg (dE a)
  | .cmp o a b => mBin (cmpF o) (dE a) (dE b)
  | .ch o o' a b c => mChain (cmpF o) (cmpF o') (dE a) (dE b) (dE c)
  | .bo o es => dB o es
  | .not a => mNot (dE a)
  | .ifx t a b => mIf (dT t) (dE a) (dE b)
  | .tup es => mTup (dL es)
  | .lst mt es => if mt then mLstM (dL es) else mLst (dL es)
  | .ix a b => mBin ixP (dE a) (dE b)
  | .sl a lo hi => mSl (dE a) (dO lo) (dO hi)
  | .call f es => mFn (C f) (dL es)
  | .bf f es => mCall (bfF f) (dL es)
  | .isi a t => mIsi (dE a) t
  | .isiT a t t' => mIsiT (dE a) t t'
  | .dicE => mDicE
  | .fld o f => mFld G (dE o) f
  | .mth o m es => mMth G C (dE o) m (dL es)
  | .mk c es => mMk G C c (dL es)
  | .app o es => mApp (dE o) (dL es)
  | .ext o es => mExt (dE o) (dL es)
  | .lc mt t it c e own => if mt then mLcM (dI it) (dG t) (own.map (·.2)) (dC c) (dE e) else mLc (dI it) (dG t) (own.map (·.2)) (dC c) (dE e)
  | .opM o a b => mOwn (ownF o) (dE a) (dE b)
  | .lstC a => mLstC (dE a)
  | .sm m a b => mSm m (dE a) (dE b)
  | .dsel ks es k => mDsel ks (dL es) (dE k)
  | .fmt a => mFmt (dE a)
  | .fs es => dF es Str.empty
def dF : Es → Str → M D
  | .nil => fun acc => mC (.str acc)
  | .cons e es => mFc (dE e) (dF es)
def dL : Es → M (List D)
  | .nil => mNil
  | .cons e es => mCons (dE e) (dL es)
def dB (o : BoolOp) : Es → M D
  | .nil => fun _ _ => .bad
  | .cons e es => match es with
    | .nil => dE e
    | .cons _ _ => match o with
      | .And => mAnd (dE e) (dB o es)
      | .Or => mOr (dE e) (dB o es)
def dO : Oe → M (Option Int)
  | .none => mNo
  | .some e => mPart (dE e)
def dT : Tt → M Bool
  | .bo o ts => dTB o ts
  | .not a => mNotT (dT a)
  | .cmp o a b => mBl (mBin (cmpF o) (dE a) (dE b))
  | .ch o o' a b c => mBl (mChain (cmpF o) (cmpF o') (dE a) (dE b) (dE c))
  | .tru e => mTru (dE e)
def dTB (o : BoolOp) : Tts → M Bool
  | .nil => fun _ _ => .bad
  | .cons t ts => match ts with
    | .nil => dT t
    | .cons _ _ => match o with
      | .And => mAndT (dT t) (dTB o ts)
      | .Or => mOrT (dT t) (dTB o ts)
def dC : Ot → M Bool
  | .none => mYes
  | .some t => dT t
def dG : Tg → GM
  | .nm i => gNm i
  | .tup ts => gTp (tgsLen ts) (dGs ts)
  | .sub o i => gSubM (dE o) (dE i)
def dGs : Tgs → List D → Sl → Sto → Option (Sl × Sto)
  | .nil => gsNil
  | .cons t ts => gsCons (dG t) (dGs ts)
def dI : It → M Src
  | .seq e => mSeq (dE e)
  | .rng1 a => mRng rng1 (dL a)
  | .rng2 a => mRng rng2 (dL a)
  | .zip a => mZip (dL a)
  | .enum a => mEnum (dL a)
end
end

/-! ### that it is what the text says -/
structure Tab where
  fns : List (Option Str × Nat)
  gl : List (Str × D)
  cls : List (Str × List Str × List (Str × Nat))
def Tab.G (C : Tab) : Ev := ⟨C.gl.map (·.2), C.cls.map (·.2.1), C.cls.map (·.2.2)⟩
def Tab.ar (C : Tab) (i : Nat) : Option Nat := (C.fns[i]?).map (·.2)
def nmIs (y : Str) (s : String) : Bool := decide (y = Str.ofString s)
def dbgN (y : Str) : Bool := !(y == ("__debug__" : Str)) && !(y == ("__classdict__" : Str)) && !(y == ("__name__" : Str))
def visN (sc : Scope) (y : Str) : Bool := match sc.names.lookup y with
  | some .local => true
  | some .cell => true
  | some .free => true
  | _ => false
def gloN (sc : Scope) (y : Str) : Bool := decide (sc.names.lookup y = some .globalImplicit)
/-- a name that may be stored: a local; at a def's own level a cell too -/
def stoN (fl : Bool) (sc : Scope) (y : Str) : Bool := match sc.names.lookup y with
  | some .local => true
  | some .cell => fl
  | _ => false
def bfN : Bf → String
  | .len => "len" | .abs => "abs" | .int => "int" | .str => "str" | .tup => "tuple" | .lst => "list" | .max2 => "max" | .min2 => "min" | .repr => "repr" | .sum => "sum" | .max1 => "max" | .min1 => "min"
def bfTy : Bf → Bool
  | .int => true | .str => true | .tup => true | .lst => true | _ => false
/-- no star, no slice, no set display, no comprehension but a list's .. -/
def okX : Expr → Bool
  | .Name .. => true | .Constant .. => true | .BinOp .. => true | .UnaryOp .. => true | .Compare .. => true | .BoolOp .. => true | .IfExp .. => true
  | .Tuple .. => true | .List .. => true | .Subscript .. => true | .Call .. => true | .ListComp .. => true | .Attribute .. => true | .JoinedStr .. => true | .Dict .. => true | .FormattedValue .. => true
  | _ => false
/-- its truth is its value's -/
def okTru : Expr → Bool
  | .Name .. => true | .Constant .. => true | .BinOp .. => true | .Tuple .. => true | .List .. => true | .Subscript .. => true | .Call .. => true | .Attribute .. => true
  | _ => false
def noCall : Expr → Bool
  | .Name .. => true | .Subscript .. => true | .Attribute .. => true | .Constant .. => true
  | _ => false
def isTupX : Expr → Bool
  | .Tuple .. => true
  | _ => false
def keysB : List Str → List (Option Expr) → Bool
  | [], [] => true
  | k :: ks, some (.Constant (.str x) _ _) :: es => decide (x = k) && keysB ks es
  | _, _ => false
def okOp : Operator → Bool
  | .Add => true | .Sub => true | .Mult => true | .FloorDiv => true | .Mod => true | .Pow => true | _ => false
def cEq (d : D) (k : Const) : Bool := match d, k with
  | .int i, .int j => decide (i = j)
  | .str i, .str j => decide (i = j)
  | .bl i, .bool j => decide (i = j)
  | .non, .none => true
  | _, _ => false
section
variable (C : Tab) (N : List Str)
mutual
def chkE (fl : Bool) (sc : Scope) : E → Expr → Bool
  | .v i, x => match x with
    | .Name y _ => decide (N[i]? = some y) && visN sc y && dbgN y
    | _ => false
  | .c d, x => match x with
    | .Constant k _ _ => cEq d k
    | _ => false
  | .g j, x => match x with
    | .Name y _ => (match C.gl[j]? with | some (z, _) => decide (z = y) | none => false) && gloN sc y && dbgN y
    | _ => false
  | .op o a b, x => match x with
    | .BinOp l o' r _ => decide (o = o') && okOp o && chkE fl sc a l && chkE fl sc b r
    | _ => false
  | .neg a, x => match x with
    | .UnaryOp .USub l _ => chkE fl sc a l
    | _ => false
  | .cmp o a b, x => match x with
    | .Compare l [o'] [r] _ => decide (o = o') && chkE fl sc a l && chkE fl sc b r
    | _ => false
  | .ch o1 o2 a b c, x => match x with
    | .Compare l [p1, p2] [r, t] _ => decide (o1 = p1) && decide (o2 = p2) && chkE fl sc a l && chkE fl sc b r && chkE fl sc c t
    | _ => false
  | .bo o es, x => match x with
    | .BoolOp o' l _ => decide (o = o') && chkL fl sc es l
    | _ => false
  | .not a, x => match x with
    | .UnaryOp .Not l _ => chkE fl sc a l
    | _ => false
  | .ifx t a b, x => match x with
    | .IfExp c l r _ => chkT fl sc t c && chkE fl sc a l && chkE fl sc b r
    | _ => false
  | .tup es, x => match x with
    | .Tuple l _ _ => chkL fl sc es l
    | _ => false
  | .lst _ es, x => match x with
    | .List l _ => chkL fl sc es l
    | _ => false
  | .ix a b, x => match x with
    | .Subscript l r _ => chkE fl sc a l && chkE fl sc b r
    | _ => false
  | .sl a lo hi, x => match x with
    | .Subscript l (.Slice p q none _) _ => chkE fl sc a l && chkO fl sc lo p && chkO fl sc hi q
    | _ => false
  | .call f es, x => match x with
    | .Call (.Name y _) l [] _ => (match C.fns[f]? with | some (some z, n) => decide (z = y) && decide (l.length = n) | _ => false) && gloN sc y && dbgN y && chkL fl sc es l
    | _ => false
  | .bf f es, x => match x with
    | .Call (.Name y _) (l :: ls) [] _ => nmIs y (bfN f) && gloN sc y && chkL fl sc es (l :: ls)
    | _ => false
  | .isi a t, x => match x with
    | .Call (.Name y _) [l, .Name z _] [] _ => nmIs y "isinstance" && nmIs z t.nm && gloN sc y && gloN sc z && chkE fl sc a l
    | _ => false
  | .isiT a t t', x => match x with
    | .Call (.Name y _) [l, .Tuple [.Name z _, .Name z' _] _ _] [] _ => nmIs y "isinstance" && nmIs z t.nm && nmIs z' t'.nm && gloN sc y && gloN sc z && gloN sc z' && chkE fl sc a l
    | _ => false
  | .fld o f, x => match x with
    | .Attribute l g _ => decide (g = f) && noCall l && chkE fl sc o l
    | _ => false
  | .mth o m es, x => match x with
    | .Call (.Attribute l g ap) ys [] cp => decide (g = m) && noCall l && (ap.endLine == cp.line) && decide (ys.length < 20) && chkE fl sc o l && chkL fl sc es ys
    | _ => false
  | .mk c es, x => match x with
    | .Call (.Name y _) l [] _ => (match C.cls[c]? with | some (z, _, ms) => decide (z = y) && (ms.lookup ("__init__" : Str)).isSome | none => false) && gloN sc y && dbgN y && chkL fl sc es l
    | _ => false
  | .dicE, x => match x with
    | .Dict [] [] _ => true
    | _ => false
  | .app o es, x => match x with
    | .Call (.Attribute l m ap) [y] [] cp => nmIs m "append" && noCall l && (ap.endLine == cp.line) && chkE fl sc o l && chkL fl sc es [y]
    | _ => false
  | .ext o es, x => match x with
    | .Call (.Attribute l m ap) [y] [] cp => nmIs m "extend" && noCall l && (ap.endLine == cp.line) && chkE fl sc o l && chkL fl sc es [y]
    | _ => false
  | .lc _ t it c e own, x => match x with
    | .ListComp el [⟨tg, iter, ifs, as⟩] scope _ => decide (as = 0) && blkC N sc scope own && (tgSl t).all (fun i => (own.map (·.2)).contains i) && chkI fl sc it tg iter && chkG false (relS scope sc) t tg && chkC false (relS scope sc) c ifs && chkE false (relS scope sc) e el
    | _ => false
  | .opM o a b, x => match x with
    | .BinOp l o' r _ => decide (o = o') && (match o with | .Add => true | .Mult => true | _ => false) && chkE fl sc a l && chkE fl sc b r
    | _ => false
  | .lstC a, x => match x with
    | .Call (.Name y _) [l] [] _ => nmIs y "list" && gloN sc y && chkE fl sc a l
    | _ => false
  | .sm m a b, x => match x with
    | .Call (.Attribute l g ap) [y] [] cp => nmIs g m.nm && noCall l && (ap.endLine == cp.line) && chkE fl sc a l && chkE fl sc b y
    | _ => false
  | .dsel ks es k, x => match x with
    | .Subscript (.Dict keys vals _) r _ => keysB ks keys && decide (ks.Nodup) && decide (ks ≠ []) && decide (ks.length ≤ 15) && decide (vals.length = ks.length) && chkL fl sc es vals && chkE fl sc k r
    | _ => false
  | .fmt a, x => match x with
    | .FormattedValue l (-1) none _ => chkE fl sc a l
    | _ => false
  | .fs es, x => match x with
    | .JoinedStr (l1 :: l2 :: ls) _ => chkL fl sc es (l1 :: l2 :: ls)
    | _ => false
def chkL (fl : Bool) (sc : Scope) : Es → List Expr → Bool
  | .nil, xs => xs.isEmpty
  | .cons e es, xs => match xs with
    | x :: rest => chkE fl sc e x && chkL fl sc es rest
    | [] => false
def chkO (fl : Bool) (sc : Scope) : Oe → Option Expr → Bool
  | .none, x => x.isNone
  | .some e, x => match x with
    | some y => chkE fl sc e y
    | none => false
def chkT (fl : Bool) (sc : Scope) : Tt → Expr → Bool
  | .bo o ts, x => match x with
    | .BoolOp o' l _ => decide (o = o') && chkTs fl sc ts l
    | _ => false
  | .not a, x => match x with
    | .UnaryOp .Not l _ => chkT fl sc a l
    | _ => false
  | .cmp o a b, x => match x with
    | .Compare l [o'] [r] _ => decide (o = o') && chkE fl sc a l && chkE fl sc b r
    | _ => false
  | .ch o1 o2 a b c, x => match x with
    | .Compare l [p1, p2] [r, t] _ => decide (o1 = p1) && decide (o2 = p2) && chkE fl sc a l && chkE fl sc b r && chkE fl sc c t
    | _ => false
  | .tru e, x => okTru x && chkE fl sc e x
def chkTs (fl : Bool) (sc : Scope) : Tts → List Expr → Bool
  | .nil, xs => xs.isEmpty
  | .cons t ts, xs => match xs with
    | x :: rest => chkT fl sc t x && chkTs fl sc ts rest
    | [] => false
def chkC (fl : Bool) (sc : Scope) : Ot → List Expr → Bool
  | .none, xs => xs.isEmpty
  | .some t, xs => match xs with
    | [x] => chkT fl sc t x
    | _ => false
def chkG (fl : Bool) (sc : Scope) : Tg → Expr → Bool
  | .nm i, x => match x with
    | .Name y _ => decide (N[i]? = some y) && stoN fl sc y
    | _ => false
  | .tup ts, x => match x with
    | .Tuple l _ _ => chkGs fl sc ts l
    | _ => false
  | .sub o i, x => match x with
    | .Subscript l r _ => chkE fl sc o l && chkE fl sc i r
    | _ => false
def chkGs (fl : Bool) (sc : Scope) : Tgs → List Expr → Bool
  | .nil, xs => xs.isEmpty
  | .cons t ts, xs => match xs with
    | x :: rest => chkG fl sc t x && chkGs fl sc ts rest
    | [] => false
def chkI (fl : Bool) (sc : Scope) : It → Expr → Expr → Bool
  | .seq e, _, x => chkE fl sc e x
  | .rng1 a, _, x => match x with
    | .Call (.Name y _) [l] [] _ => nmIs y "range" && gloN sc y && chkL fl sc a [l]
    | _ => false
  | .rng2 a, _, x => match x with
    | .Call (.Name y _) [l, r] [] _ => nmIs y "range" && gloN sc y && chkL fl sc a [l, r]
    | _ => false
  | .zip a, tg, x => match x with
    | .Call (.Name y _) [l, r] [] _ => isTupX tg && nmIs y "zip" && gloN sc y && chkL fl sc a [l, r]
    | _ => false
  | .enum a, tg, x => match x with
    | .Call (.Name y _) [l] [] _ => isTupX tg && nmIs y "enumerate" && gloN sc y && chkL fl sc a [l]
    | _ => false
end
end
end Z

/-! Z layer, part K: expressions keep what their meaning says. -/
namespace Z
open PySem PySem.Spec PyProof.Rows L2

def bltN : List String := ["len", "abs", "int", "str", "tuple", "list", "max", "min", "repr", "isinstance", "range", "bool", "sum", "zip", "enumerate", "sorted"]
structure Cxt (C : Tab) (ca fa : Nat → Addr) (call : Nat → List D → Sto → Out D) (k : Nat) (N : List Str) (fl : Bool) (sc : Scope) (X : Cx) (W : WX) : Prop where
  scp : X.env.scope = sc
  kind : sc.kind = .function
  calm : X.calm = true
  nm : X.N = N
  nd : N.Nodup
  fn : fl = true → ∀ x, X.fn x = true
  room : Room (k + 1) X.A
  gd : X.A.guards = some []
  tk : Takes X W
  po : PassesOwn (model X.prog X.w) X.A X.env X.xe
  blt : ∀ x ∈ bltN, X.mg (Str.ofString x) = none
  gl : ∀ (j : Nat) (x : Str) (d : D), C.gl[j]? = some (x, d) → ∃ u v, X.mg x = some u ∧ RelV v u ∧ ∀ H r, Rep X.K H r d v
  fz : FnsZ X ca fa k C.ar call
  fg : ∀ (f : Nat) (x : Str) (n : Nat), C.fns[f]? = some (some x, n) → X.mg x = some (.ref (fa f)) ∧ PySem.W.keepIn X.K (.ref (fa f)) = true
  cz : ClsZ X.K ca fa C.G
  mz : MtZ C.G C.ar
  cg : ∀ (c : Nat) (x : Str) (fs : List Str) (ms : List (Str × Nat)) (i : Nat), C.cls[c]? = some (x, fs, ms) → ms.lookup ("__init__" : Str) = some i → X.mg x = some (.ref (ca c)) ∧ Mk X.K (ca c) (fa i)

theorem okX_of {C : Tab} {N : List Str} {fl : Bool} {sc : Scope} {e : E} {x : Expr} (h : chkE C N fl sc e x = true) : okX x = true := by
  cases e <;> (unfold chkE at h; split at h <;> first | rfl | (cases h; done))
theorem star_ok {x : Expr} (h : okX x = true) (es : List Expr) (env : Env) : starEach (x :: es) env = (false, eval x env) :: starEach es env := by
  cases x <;> first | rfl | (cases h; done)
theorem ix_ok {x : Expr} (h : okX x = true) : PlainIx x := by
  cases x <;> first | exact (fun _ _ => rfl) | (cases h; done)
theorem mark_ok {x : Expr} (h : okX x = true) (o : CmpOp) : behindInMarks o x = false := by
  cases x <;> first | rfl | (cases h; done)
theorem last_ok {x y : Expr} (h : okX y = true) (o o' : CmpOp) : lastMarks [o, o'] [x, y] = false := mark_ok h o'
theorem fold_ok {x : Expr} (h : okX x = true) (env : Env) (v : Value) : foldedSetIterable x env v = pure v := by
  cases x <;> first | rfl | (cases h; done)
theorem tru_ok {x : Expr} (h : okTru x = true) (env : Env) (wh : Sem Value) : isTrue x env wh = (do let v ← wh; standAt x.pos; holding [v] (truthy v)) := by
  cases x <;> first | rfl | (cases h; done)
theorem base_ok {x : Expr} (h : noCall x = true) (m : Str) (env : Env) : attributeBase x m env (eval x env) = eval x env := by
  cases x <;> first | rfl | (cases h; done)
theorem meth_ok {o : Expr} (h : noCall o = true) (m : Str) (ap pos : Pos) (args : List Expr) (env : Env) (hst : (backTo pos (starEach args env)).all (fun x => !x.1) = true) (hl : args.length < 20) (hp : (ap.endLine == pos.line) = true) : ∃ pl : Sem Bool, eval (.Call (.Attribute o m ap) args [] pos) env = (do
      let ov ← eval o env
      standAt ap.atName
      let (f, first) ← holding [ov] (getMethod ov m pl)
      callWith pos f first (backTo pos (starEach args env)) (backToKw pos (keywordEach [] env))) := by
  have few : methodCallForm (args.length + ([] : List Keyword).length) (backTo pos (starEach args env)) (backToKw pos (keywordEach [] env)) = true := by
    unfold methodCallForm
    rw [hst]
    show (true && true && decide (args.length + 0 + 0 < 30)) = true
    simp; omega
  refine ⟨(do return (← importBound o env).getD true), ?_⟩
  rw [arm_eval_Call, base_ok h]
  unfold methodCall
  rw [few]
  unfold calleeOf methodCallPos
  simp only [hp, Bool.not_true, Bool.false_or, ↓reduceIte, pure_bind]
theorem asub_ok {o i : Expr} (h : okX i = true) (pos : Pos) (env : Env) (v : Value) : assign (.Subscript o i pos) env v = (do
      let ov ← holding [v] (eval o env)
      let iv ← holding [v, ov] (eval i env)
      standAt pos
      holding [v, ov, iv] (setItem ov iv v)
      release [v, ov, iv] []) := by
  cases i <;> first | rfl | (cases h; done)
theorem vis_of {sc : Scope} {y : Str} (h : visN sc y = true) : Vis sc y := by
  unfold visN at h
  split at h <;> first | exact .inl (by assumption) | exact .inr (.inl (by assumption)) | exact .inr (.inr (by assumption)) | (cases h; done)
theorem sto_of {fl : Bool} {sc : Scope} {y : Str} (h : stoN fl sc y = true) : Loc sc y ∧ (fl = true ∨ sc.names.lookup y = some .local) := by
  unfold stoN at h
  split at h
  · rename_i e; exact ⟨.inl e, .inr e⟩
  · rename_i e; exact ⟨.inr e, .inl h⟩
  · cases h
theorem dbg_of {y : Str} (h : dbgN y = true) : (y == ("__debug__" : Str)) = false ∧ (y == ("__classdict__" : Str)) = false ∧ y ≠ "__name__" := by
  unfold dbgN at h
  simp only [Bool.and_eq_true, Bool.not_eq_true'] at h
  exact ⟨h.1.1, h.1.2, fun e => by have := h.2; rw [e] at this; simp at this⟩

section
variable {C : Tab} {ca fa : Nat → Addr} {call : Nat → List D → Sto → Out D} {k : Nat}

theorem chkL_len {N : List Str} {fl : Bool} {sc : Scope} : ∀ {es : Es} {xs : List Expr}, chkL C N fl sc es xs = true → ∀ sd S ds S1, dL C.G call es sd S = .ok ds S1 → ds.length = xs.length
  | .nil, xs, h, sd, S, ds, S1, e => by
    unfold chkL at h
    unfold dL at e
    cases xs with
    | nil => unfold mNil at e; cases e; rfl
    | cons _ _ => cases h
  | .cons a es, xs, h, sd, S, ds, S1, e => by
    unfold chkL at h
    split at h
    · rename_i x rest
      rw [Bool.and_eq_true] at h
      unfold dL mCons at e
      cases e1 : dE C.G call a sd S with
      | bad => rw [e1] at e; cases e
      | exc _ _ _ => rw [e1] at e; cases e
      | ok d S2 =>
        rw [e1] at e
        simp only [Out.bind] at e
        cases e2 : dL C.G call es sd S2 with
        | bad => rw [e2] at e; cases e
        | exc _ _ _ => rw [e2] at e; cases e
        | ok ds2 S3 =>
          rw [e2] at e
          cases e
          rw [List.length_cons, List.length_cons, chkL_len h.2 sd S2 ds2 _ e2]
    · cases h
theorem back_ok {N : List Str} {fl : Bool} {sc : Scope} : ∀ {es : Es} {xs : List Expr}, chkL C N fl sc es xs = true → ∀ (pos : Pos) (env : Env), (backTo pos (starEach xs env)).any (·.1) = false
  | .nil, xs, h, pos, env => by
    unfold chkL at h
    cases xs with
    | nil => rfl
    | cons _ _ => cases h
  | .cons a es, xs, h, pos, env => by
    unfold chkL at h
    split at h
    · rename_i x rest
      rw [Bool.and_eq_true] at h
      rw [star_ok (okX_of h.1)]
      exact back_ok h.2 pos env
    · cases h
theorem asgE_ok {N : List Str} {fl : Bool} {sc : Scope} : ∀ {ts : Tgs} {xs : List Expr}, chkGs C N fl sc ts xs = true → ∀ (env : Env), (assignEach xs env).length = tgsLen ts ∧ (assignEach xs env).findIdx? (·.1) = none
  | .nil, xs, h, env => by
    unfold chkGs at h
    cases xs with
    | nil => exact ⟨rfl, rfl⟩
    | cons _ _ => cases h
  | .cons t ts, xs, h, env => by
    unfold chkGs at h
    split at h
    · rename_i x rest
      rw [Bool.and_eq_true] at h
      have hx : assignEach (x :: rest) env = (false, assign x env) :: assignEach rest env := by
        have := h.1
        cases t <;> (unfold chkG at this; split at this <;> first | rfl | (cases this; done))
      obtain ⟨h1, h2⟩ := asgE_ok h.2 env
      rw [hx]
      refine ⟨by rw [List.length_cons, h1]; rfl, ?_⟩
      rw [List.findIdx?_cons]
      simp [h2]
    · cases h
theorem asg1_ok {N : List Str} {fl : Bool} {sc : Scope} {t : Tg} {x : Expr} (h : chkG C N fl sc t x = true) (rest : List Expr) (env : Env) : assignEach (x :: rest) env = (false, assign x env) :: assignEach rest env := by
  cases t <;> (unfold chkG at h; split at h <;> first | rfl | (cases h; done))

theorem okI {it : It} {N : List Str} {fl : Bool} {sc : Scope} {tg x : Expr} (h : chkI C N fl sc it tg x = true) : okX x = true := by
  cases it with
  | seq e => unfold chkI at h; exact okX_of h
  | rng1 a => unfold chkI at h; split at h <;> first | rfl | (cases h; done)
  | rng2 a => unfold chkI at h; split at h <;> first | rfl | (cases h; done)
  | zip a => unfold chkI at h; split at h <;> first | rfl | (cases h; done)
  | enum a => unfold chkI at h; split at h <;> first | rfl | (cases h; done)
theorem dF_str : ∀ (es : Es) (acc : Str) (sd : Sl) (S : Sto) (d : D) (S1 : Sto), dF C.G call es acc sd S = .ok d S1 → ∃ z, d = .str z
  | .nil, acc, sd, S, d, S1, h => by unfold dF at h; cases h; exact ⟨_, rfl⟩
  | .cons e es, acc, sd, S, d, S1, h => by
    unfold dF mFc at h
    cases e1 : dE C.G call e sd S with
    | bad => rw [e1] at h; cases h
    | exc _ _ _ => rw [e1] at h; cases h
    | ok x S2 =>
      rw [e1] at h
      simp only [Out.bind] at h
      split at h
      · split at h
        · exact dF_str es _ sd S2 d S1 h
        · cases h
      · cases h
theorem cmp_rule {X : Cx} (hu : X.A.units + 64 < cLine) (o : CmpOp) : ∃ R, OpR X (compareOp o) R ∧ OpZ X.K ca R (cmpF o) := by
  cases o with
  | Eq => exact ⟨_, or_eq hu, oz_eq⟩
  | NotEq => exact ⟨_, or_ne hu, oz_ne⟩
  | Lt => exact ⟨_, op_lt, oz_cmp⟩
  | LtE => exact ⟨_, op_le, oz_cmp⟩
  | Gt => exact ⟨_, op_gt, oz_cmp⟩
  | GtE => exact ⟨_, op_ge, oz_cmp⟩
  | Is => exact ⟨_, op_isN, oz_isN⟩
  | IsNot => exact ⟨_, op_notN, oz_notN⟩
  | In => exact ⟨_, or_in, oz_in⟩
  | NotIn => exact ⟨_, or_notIn, oz_notIn⟩
theorem op_rule {X : Cx} (o : Operator) (h : okOp o = true) : ∃ R, OpR X (binaryOp o) R ∧ OpZ X.K ca R (opF o) := by
  cases o with
  | Add => exact ⟨_, or_add, oz_add⟩
  | Sub => exact ⟨_, or_sub, oz_sub⟩
  | Mult => exact ⟨_, or_mul, oz_mul⟩
  | FloorDiv => exact ⟨_, op_fdiv, oz_fdiv⟩
  | Mod => exact ⟨_, op_mod, oz_mod⟩
  | Pow => exact ⟨_, op_pow, oz_pow⟩
  | _ => cases h
theorem z_neg {X : Cx} {W : WX} {a : Expr} {ma : M D} {pos : Pos} (ha : PE X a (rE X.K ca W ma)) : PE X (.UnaryOp .USub a pos) (rE X.K ca W (mNeg ma)) := PE.imp (pe_un un_neg ha) fun s H Q ⟨sd, r, S, hs, m, h⟩ =>
  ⟨sd, r, S, hs, m, h.bind fun d1 S1 v1 H1 r1 x1 m1 q1 h1 => by
    obtain ⟨d, e, kk⟩ := lift_ln h1
    unfold negD at e
    split at e
    · cases e; cases q1
      exact ⟨_, rfl, kk _ _ r1 (Ext.refl ..) m1 (.int _)⟩
    · cases e⟩
theorem bf_rule {X : Cx} {fl : Bool} {sc : Scope} {W : WX} {N : List Str} (cx : Cxt C ca fa call k N fl sc X W) (f : Bf) {y : Str} {p pos : Pos} {l : Expr} {ls : List Expr} {ml : M (List D)} (hy : y = Str.ofString (bfN f)) (hg : Gl X y) (ha : PA X (l :: ls) (rA X.K ca W ml))
    (he : starEach (l :: ls) X.env = (false, eval l X.env) :: starEach ls X.env) (hpl : (backTo pos (starEach ls X.env)).any (·.1) = false) : PE X (.Call (.Name y p) (l :: ls) [] pos) (rE X.K ca W (mCall (bfF f) ml)) := by
  have hu := cx.room.units
  have hm : X.mg y = none := by rw [hy]; exact cx.blt _ (by cases f <;> simp [bltN, bfN])
  cases f with
  | len => subst hy; exact z_callB (id := "len") call_len cz_len hg hm (by decide +kernel) ha (by decide) (by decide) he hpl
  | abs => subst hy; exact z_callB (id := "abs") call_abs cz_abs hg hm (by decide +kernel) ha (by decide) (by decide) he hpl
  | int => subst hy; exact z_callT (id := "int") or_int cz_int hg hm (by decide +kernel) ha (by decide) (by decide) he hpl
  | str => subst hy; exact z_callT (id := "str") call_str_int cz_str hg hm (by decide +kernel) ha (by decide) (by decide) he hpl
  | tup => subst hy; exact z_callT (id := "tuple") call_tuple_of cz_tup hg hm (by decide +kernel) ha (by decide) (by decide) he hpl
  | lst => subst hy; exact z_callT (id := "list") call_list_of cz_lst hg hm (by decide +kernel) ha (by decide) (by decide) he hpl
  | max2 => subst hy; exact z_callB (id := "max") (call_max2 cx.calm) cz_max2 hg hm (by decide +kernel) ha (by decide) (by decide) he hpl
  | min2 => subst hy; exact z_callB (id := "min") (call_min2 cx.calm) cz_min2 hg hm (by decide +kernel) ha (by decide) (by decide) he hpl
  | sum => subst hy; exact z_callB (id := "sum") (cr_sum cx.calm) cz_sum hg hm (by decide +kernel) ha (by decide) (by decide) he hpl
  | max1 => subst hy; exact z_callB (id := "max") (cr_max cx.calm) cz_max1 hg hm (by decide +kernel) ha (by decide) (by decide) he hpl
  | min1 => subst hy; exact z_callB (id := "min") (cr_min cx.calm) cz_min1 hg hm (by decide +kernel) ha (by decide) (by decide) he hpl
  | repr => subst hy; exact z_callB (id := "repr") (cr_repr cx.gd hu) cz_repr hg hm (by decide +kernel) ha (by decide) (by decide) he hpl
theorem Cxt.blk {N : List Str} {fl : Bool} {sc : Scope} {X : Cx} {W : WX} (cx : Cxt C ca fa call k N fl sc X W) (s : Shared) (H : Hp) (scope : Scope) (hk : scope.kind = .function) (cl : List (Str × Addr)) (A : Addr) (fp : List Addr) :
    Cxt C ca fa call k N false (relS scope sc) (X.blk s H scope (compEnvC scope cl A X.env) fp) W0 := by
  obtain rfl := cx.scp
  exact ⟨rfl, hk, cx.calm, cx.nm, cx.nd, fun z => (by cases z), cx.room, cx.gd, takes0, PassesOwn.never, cx.blt, cx.gl, ⟨cx.fz.ok, cx.fz.bad, cx.fz.no⟩, cx.fg, cx.cz, cx.mz, cx.cg⟩

mutual
theorem soundE : ∀ (e : E) {N : List Str} {fl : Bool} {sc : Scope} {X : Cx} {W : WX} {x : Expr}, Cxt C ca fa call k N fl sc X W → chkE C N fl sc e x = true → PE X x (rE X.K ca W (dE C.G call e))
  | .v i, N, fl, sc, X, W, x, cx, h => by
    unfold chkE at h
    split at h
    · simp only [Bool.and_eq_true, decide_eq_true_eq] at h
      obtain ⟨⟨h1, h2⟩, h3⟩ := h
      obtain ⟨d1, d2, _⟩ := dbg_of h3
      exact z_var (pe_var (by rw [cx.nm]; exact h1) (by rw [cx.scp]; exact vis_of h2) d1 d2)
    · cases h
  | .c d, N, fl, sc, X, W, x, cx, h => by
    unfold chkE at h
    split at h
    · unfold cEq at h
      split at h
      · have := of_decide_eq_true h; subst this; exact z_c pe_int fun _ _ => .int _
      · have := of_decide_eq_true h; subst this; exact z_c pe_str fun _ _ => .str _
      · have := of_decide_eq_true h; subst this; exact z_c pe_bl fun _ _ => .bl _
      · exact z_c pe_non fun _ _ => .non
      · cases h
    · cases h
  | .g j, N, fl, sc, X, W, x, cx, h => by
    unfold chkE at h
    split at h
    · rename_i y p
      simp only [Bool.and_eq_true] at h
      obtain ⟨⟨h1, h2⟩, h3⟩ := h
      split at h1
      · rename_i z d e
        have := of_decide_eq_true h1
        subst this
        obtain ⟨u, v, hm, rv, rp⟩ := cx.gl j z d e
        have hG : C.G.g[j]? = some d := by show (C.gl.map (·.2))[j]? = _; rw [List.getElem?_map, e]; rfl
        refine PE.imp (pe_glob (v := v) (u := u) (by unfold Gl Env.kindOf; rw [cx.scp]; exact of_decide_eq_true h2) hm rv (dbg_of h3).1) fun s H Q ⟨sd, r, S, hs, m, hh⟩ => ?_
        unfold dE mG at hh
        rw [hG] at hh
        exact hh.ok m (rp H r)
      · cases h1
    · cases h
  | .op o a b, N, fl, sc, X, W, x, cx, h => by
    unfold chkE at h
    split at h
    · simp only [Bool.and_eq_true, decide_eq_true_eq] at h
      obtain ⟨⟨⟨h0, h1⟩, h2⟩, h3⟩ := h
      subst h0
      obtain ⟨R, r1, r2⟩ := op_rule (X := X) (ca := ca) o h1
      exact z_bin r1 r2 (soundE a cx h2) (soundE b cx h3)
    · cases h
  | .neg a, N, fl, sc, X, W, x, cx, h => by
    unfold chkE at h
    split at h
    · exact z_neg (soundE a cx h)
    · cases h
  | .cmp o a b, N, fl, sc, X, W, x, cx, h => by
    unfold chkE at h
    split at h
    · simp only [Bool.and_eq_true, decide_eq_true_eq] at h
      obtain ⟨⟨h0, h2⟩, h3⟩ := h
      subst h0
      obtain ⟨R, r1, r2⟩ := cmp_rule (X := X) (ca := ca) cx.room.units o
      exact z_cmp r1 r2 (soundE a cx h2) (soundE b cx h3) (mark_ok (okX_of h3) o)
    · cases h
  | .ch o o' a b c, N, fl, sc, X, W, x, cx, h => by
    unfold chkE at h
    split at h
    · simp only [Bool.and_eq_true, decide_eq_true_eq] at h
      obtain ⟨⟨⟨⟨h0, h1⟩, h2⟩, h3⟩, h4⟩ := h
      subst h0 h1
      obtain ⟨R, r1, r2⟩ := cmp_rule (X := X) (ca := ca) cx.room.units o
      obtain ⟨R', r1', r2'⟩ := cmp_rule (X := X) (ca := ca) cx.room.units o'
      exact z_chain r1 r1' r2 r2' (soundE a cx h2) (soundE b cx h3) (soundE c cx h4) (last_ok (okX_of h4) o o')
    · cases h
  | .bo o es, N, fl, sc, X, W, x, cx, h => by
    unfold chkE at h
    split at h
    · simp only [Bool.and_eq_true, decide_eq_true_eq] at h
      obtain ⟨h0, h1⟩ := h
      subst h0
      exact soundB o es cx h1
    · cases h
  | .not a, N, fl, sc, X, W, x, cx, h => by
    unfold chkE at h
    split at h
    · exact z_not (soundE a cx h)
    · cases h
  | .ifx t a b, N, fl, sc, X, W, x, cx, h => by
    unfold chkE at h
    split at h
    · simp only [Bool.and_eq_true] at h
      exact z_ifx (soundT t cx h.1.1) (soundE a cx h.1.2) (soundE b cx h.2)
    · cases h
  | .tup es, N, fl, sc, X, W, x, cx, h => by
    unfold chkE at h
    split at h
    · exact z_tup (soundL es cx h)
    · cases h
  | .lst mt es, N, fl, sc, X, W, x, cx, h => by
    unfold chkE at h
    split at h
    · unfold dE
      cases mt with
      | true => exact z_lstM (soundL es cx h)
      | false => exact z_lst (soundL es cx h)
    · cases h
  | .ix a b, N, fl, sc, X, W, x, cx, h => by
    unfold chkE at h
    split at h
    · simp only [Bool.and_eq_true] at h
      exact z_ix (soundE a cx h.1) (soundE b cx h.2) (ix_ok (okX_of h.2))
    · cases h
  | .sl a lo hi, N, fl, sc, X, W, x, cx, h => by
    unfold chkE at h
    split at h
    · simp only [Bool.and_eq_true] at h
      exact z_sl (soundE a cx h.1.1) (soundO lo cx h.1.2) (soundO hi cx h.2)
    · cases h
  | .call f es, N, fl, sc, X, W, x, cx, h => by
    unfold chkE at h
    split at h
    · rename_i y p l pos
      simp only [Bool.and_eq_true] at h
      obtain ⟨⟨⟨h1, h2⟩, h3⟩, h4⟩ := h
      split at h1
      · rename_i z n e
        rw [Bool.and_eq_true, decide_eq_true_eq, decide_eq_true_eq] at h1
        obtain ⟨rfl, hl⟩ := h1
        obtain ⟨hm, kp⟩ := cx.fg f z n e
        obtain ⟨fd, ps, hp, bn, F⟩ := cx.fz.ok f n (by unfold Tab.ar; rw [e]; rfl)
        have room := cx.room.mono (Nat.le_succ k)
        have hg : Gl X z := by unfold Gl Env.kindOf; rw [cx.scp]; exact of_decide_eq_true h2
        have hn : ∀ sd S ds S1, dL C.G call es sd S = .ok ds S1 → ds.length = n := fun sd S ds S1 e1 => by rw [chkL_len h4 sd S ds S1 e1]; exact hl
        have hL := soundL es (X := X) (W := W) cx h4
        cases l with
        | nil =>
          cases es with
          | cons _ _ => unfold chkL at h4; cases h4
          | nil =>
            refine PE.imp (pe_callZ0 F room cx.gd hg hm kp bn cx.tk (dbg_of h3).1) fun s H Q hh => ?_
            obtain ⟨sd, r, S, hs, m, hh⟩ := hh
            unfold dE dL mFn mNil at hh
            exact ⟨by rw [← hl]; rfl, [], r, S, .nil, m, hh⟩
        | cons l0 ls =>
          have hok : okX l0 = true := by
            cases es with
            | nil => unfold chkL at h4; cases h4
            | cons e0 es0 =>
              unfold chkL at h4
              rw [Bool.and_eq_true] at h4
              exact okX_of h4.1
          have hb : (backTo pos (starEach ls X.env)).any (·.1) = false := by
            cases es with
            | nil => unfold chkL at h4; cases h4
            | cons e0 es0 =>
              unfold chkL at h4
              rw [Bool.and_eq_true] at h4
              exact back_ok h4.2 pos X.env
          exact PE.imp (pe_callZ F room cx.gd hg hm kp bn cx.tk hL (dbg_of h3).1 (star_ok hok ls X.env) hb) fun s H Q hh => fn_in hn hh
      · cases h1
    · cases h
  | .bf f es, N, fl, sc, X, W, x, cx, h => by
    unfold chkE at h
    split at h
    · rename_i y p l ls pos
      simp only [Bool.and_eq_true] at h
      obtain ⟨⟨h1, h2⟩, h4⟩ := h
      have hg : Gl X y := by unfold Gl Env.kindOf; rw [cx.scp]; exact of_decide_eq_true h2
      have hL := soundL es (X := X) (W := W) cx h4
      have hok : okX l = true ∧ (backTo pos (starEach ls X.env)).any (·.1) = false := by
        cases es with
        | nil => unfold chkL at h4; cases h4
        | cons e0 es0 =>
          unfold chkL at h4
          rw [Bool.and_eq_true] at h4
          exact ⟨okX_of h4.1, back_ok h4.2 pos X.env⟩
      exact bf_rule cx f (of_decide_eq_true h1) hg hL (star_ok hok.1 ls X.env) hok.2
    · cases h
  | .isi a t, N, fl, sc, X, W, x, cx, h => by
    unfold chkE at h
    split at h
    · rename_i y p l z p2 pos
      simp only [Bool.and_eq_true] at h
      obtain ⟨⟨⟨⟨h1, h2⟩, h3⟩, h4⟩, h5⟩ := h
      have hg : Gl X y := by unfold Gl Env.kindOf; rw [cx.scp]; exact of_decide_eq_true h3
      have hg2 : Gl X z := by unfold Gl Env.kindOf; rw [cx.scp]; exact of_decide_eq_true h4
      have e1 := of_decide_eq_true h1
      have e2 := of_decide_eq_true h2
      subst e1 e2
      refine z_isi (x := "isinstance") hg (cx.blt "isinstance" (by decide)) hg2 (cx.blt t.nm (by cases t <;> decide)) ?_ ?_ ?_ (soundE a cx h5) (star_ok (okX_of h5) _ _)
      · cases t <;> decide +kernel
      · cases t <;> decide
      · cases t <;> decide
    · cases h
  | .isiT a t t', N, fl, sc, X, W, x, cx, h => by
    unfold chkE at h
    split at h
    · rename_i y p l z p2 z' p3 k p4 pos
      simp only [Bool.and_eq_true] at h
      obtain ⟨⟨⟨⟨⟨⟨h1, h2⟩, h2'⟩, h3⟩, h4⟩, h4'⟩, h5⟩ := h
      have hg : Gl X y := by unfold Gl Env.kindOf; rw [cx.scp]; exact of_decide_eq_true h3
      have hg2 : Gl X z := by unfold Gl Env.kindOf; rw [cx.scp]; exact of_decide_eq_true h4
      have hg3 : Gl X z' := by unfold Gl Env.kindOf; rw [cx.scp]; exact of_decide_eq_true h4'
      have e1 := of_decide_eq_true h1
      have e2 := of_decide_eq_true h2
      have e3 := of_decide_eq_true h2'
      subst e1 e2 e3
      refine z_isiT hg (cx.blt "isinstance" (by decide)) hg2 (cx.blt t.nm (by cases t <;> decide)) ?_ ?_ ?_ hg3 (cx.blt t'.nm (by cases t' <;> decide)) ?_ ?_ ?_ (soundE a cx h5) (star_ok (okX_of h5) _ _)
      · cases t <;> decide +kernel
      · cases t <;> decide
      · cases t <;> decide
      · cases t' <;> decide +kernel
      · cases t' <;> decide
      · cases t' <;> decide
    · cases h
  | .fld o f, N, fl, sc, X, W, x, cx, h => by
    unfold chkE at h
    split at h
    · rename_i l g p
      simp only [Bool.and_eq_true, decide_eq_true_eq] at h
      obtain ⟨⟨rfl, h2⟩, h3⟩ := h
      exact z_fld cx.cz (soundE o cx h3) (base_ok h2 _ _)
    · cases h
  | .mth o m es, N, fl, sc, X, W, x, cx, h => by
    unfold chkE at h
    split at h
    · rename_i l g ap ys cp
      simp only [Bool.and_eq_true, decide_eq_true_eq] at h
      obtain ⟨⟨⟨⟨⟨rfl, h2⟩, h3⟩, h6⟩, h4⟩, h5⟩ := h
      have hL := soundL es (X := X) (W := W) cx h5
      have room := cx.room.mono (Nat.le_succ k)
      cases ys with
      | nil =>
        cases es with
        | cons _ _ => unfold chkL at h5; cases h5
        | nil =>
          obtain ⟨pl, ht⟩ := meth_ok h2 g ap cp [] X.env rfl (by simp) h3
          exact PE.imp (pe_methZ0 (soundE o cx h4) room cx.gd cx.tk ht) fun s H Q hh => mth_in0 cx.cz cx.fz cx.mz hh
      | cons y0 ys =>
        have hok : okX y0 = true := by
          cases es with
          | nil => unfold chkL at h5; cases h5
          | cons e0 es0 => unfold chkL at h5; rw [Bool.and_eq_true] at h5; exact okX_of h5.1
        have hb : (backTo cp (starEach ys X.env)).any (·.1) = false := by
          cases es with
          | nil => unfold chkL at h5; cases h5
          | cons e0 es0 => unfold chkL at h5; rw [Bool.and_eq_true] at h5; exact back_ok h5.2 cp X.env
        have hall : (backTo cp (starEach (y0 :: ys) X.env)).all (fun x => !x.1) = true := by
          rw [star_ok hok ys X.env]
          show (true && (backTo cp (starEach ys X.env)).all (fun x => !x.1)) = true
          rw [Bool.true_and, List.all_eq_true]
          intro z hz
          have := List.any_eq_false.mp hb z hz
          simpa using this
        obtain ⟨pl, ht⟩ := meth_ok h2 g ap cp (y0 :: ys) X.env hall h6 h3
        exact PE.imp (pe_methZ (soundE o cx h4) room cx.gd cx.tk hL (star_ok hok ys X.env) hb ht) fun s H Q hh => mth_in cx.cz cx.fz cx.mz hh
    · cases h
  | .mk c es, N, fl, sc, X, W, x, cx, h => by
    unfold chkE at h
    split at h
    · rename_i y p l pos
      simp only [Bool.and_eq_true] at h
      obtain ⟨⟨⟨h1, h2⟩, h3⟩, h4⟩ := h
      split at h1
      · rename_i z fs ms e
        rw [Bool.and_eq_true, decide_eq_true_eq] at h1
        obtain ⟨rfl, hI⟩ := h1
        obtain ⟨i, hi⟩ := Option.isSome_iff_exists.mp hI
        obtain ⟨hm, M⟩ := cx.cg c z fs ms i e hi
        have hi' : C.G.mth c "__init__" = some i := by
          unfold Ev.mth
          have : C.G.mt.getD c [] = ms := by
            show (C.cls.map (·.2.2)).getD c [] = ms
            rw [List.getD_eq_getElem?_getD, List.getElem?_map, e]; rfl
          rw [this]; exact hi
        obtain ⟨n, en⟩ := cx.mz c _ i hi'
        obtain ⟨fd, ps, _, bn, F⟩ := cx.fz.ok i n en
        have hg : Gl X z := by unfold Gl Env.kindOf; rw [cx.scp]; exact of_decide_eq_true h2
        have hL := soundL es (X := X) (W := W) cx h4
        cases l with
        | nil =>
          cases es with
          | cons _ _ => unfold chkL at h4; cases h4
          | nil => exact PE.imp (pe_makeZ0 M F cx.room cx.gd hg hm bn cx.tk (dbg_of h3).1) fun s H Q hh => mk_in0 cx.fz hi' en hh
        | cons l0 ls =>
          have hok : okX l0 = true := by
            cases es with
            | nil => unfold chkL at h4; cases h4
            | cons e0 es0 => unfold chkL at h4; rw [Bool.and_eq_true] at h4; exact okX_of h4.1
          have hb : (backTo pos (starEach ls X.env)).any (·.1) = false := by
            cases es with
            | nil => unfold chkL at h4; cases h4
            | cons e0 es0 => unfold chkL at h4; rw [Bool.and_eq_true] at h4; exact back_ok h4.2 pos X.env
          exact PE.imp (pe_makeZ M F cx.room cx.gd hg hm bn cx.tk hL (dbg_of h3).1 (star_ok hok ls X.env) hb) fun s H Q hh => mk_in cx.fz hi' en hh
      · cases h1
    · cases h
  | .dicE, N, fl, sc, X, W, x, cx, h => by
    unfold chkE at h
    split at h
    · exact z_dicE
    · cases h
  | .app o es, N, fl, sc, X, W, x, cx, h => by
    unfold chkE at h
    split at h
    · rename_i l m ap y cp
      simp only [Bool.and_eq_true] at h
      obtain ⟨⟨⟨⟨h1, h2⟩, h3⟩, h4⟩, h5⟩ := h
      have e1 := of_decide_eq_true h1
      subst e1
      have hL := soundL es (X := X) (W := W) cx h5
      have hok : okX y = true := by
        cases es with
        | nil => unfold chkL at h5; cases h5
        | cons e0 es0 => unfold chkL at h5; rw [Bool.and_eq_true] at h5; exact okX_of h5.1
      have hst : starEach [y] X.env = (false, eval y X.env) :: starEach [] X.env := star_ok hok [] X.env
      exact PE.imp (pe_bm PySem.F.plainAttrs_list PySem.F.slot_list_append PySem.F.type_list_append mt_append (soundE o cx h4) hL (base_ok h2 _ _) (by rw [hst]; rfl) h3 hst rfl) fun s H Q hh => app_in hh
    · cases h
  | .ext o es, N, fl, sc, X, W, x, cx, h => by
    unfold chkE at h
    split at h
    · rename_i l m ap y cp
      simp only [Bool.and_eq_true] at h
      obtain ⟨⟨⟨⟨h1, h2⟩, h3⟩, h4⟩, h5⟩ := h
      have e1 := of_decide_eq_true h1
      subst e1
      have hL := soundL es (X := X) (W := W) cx h5
      have hok : okX y = true := by
        cases es with
        | nil => unfold chkL at h5; cases h5
        | cons e0 es0 => unfold chkL at h5; rw [Bool.and_eq_true] at h5; exact okX_of h5.1
      have hst : starEach [y] X.env = (false, eval y X.env) :: starEach [] X.env := star_ok hok [] X.env
      exact PE.imp (pe_bm PySem.F.plainAttrs_list PySem.F.slot_list_extend PySem.F.type_list_extend mt_extend (soundE o cx h4) hL (base_ok h2 _ _) (by rw [hst]; rfl) h3 hst rfl) fun s H Q hh => ext_in hh
    · cases h
  | .lc mt t it c e own, N, fl, sc, X, W, x, cx, h => by
    unfold chkE at h
    split at h
    · rename_i el tg iter ifs as scope pos
      simp only [Bool.and_eq_true, decide_eq_true_eq] at h
      obtain ⟨⟨⟨⟨⟨⟨h0, h1⟩, h2⟩, h3⟩, h4⟩, h5⟩, h6⟩ := h
      subst h0
      have ok : BlkOk N sc scope own := blkOk_by h1
      have ok' : BlkOk X.N X.env.scope scope own := by rw [cx.nm, cx.scp]; exact ok
      have hts : ∀ i ∈ tgSl t, i ∈ own.map (·.2) := fun i hi => by
        have := List.all_eq_true.mp h2 i hi
        exact List.contains_iff_mem.mp this
      have hI := soundI it (X := X) (W := W) (tg := tg) cx h3
      have hfo : okX iter = true := okI h3
      unfold dE
      cases mt with
      | true => exact z_lcM cx.calm (by rw [cx.nm]; exact cx.nd) hI ok' hts (fun s H A cl fp => soundG t (cx.blk s H scope ok.kind cl A fp) h4) (fun s H A cl fp => soundC c (cx.blk s H scope ok.kind cl A fp) h5) (fun s H A cl fp => soundE e (cx.blk s H scope ok.kind cl A fp) h6) (fold_ok hfo X.env)
      | false => exact z_lc cx.calm (by rw [cx.nm]; exact cx.nd) hI ok' hts (fun s H A cl fp => soundG t (cx.blk s H scope ok.kind cl A fp) h4) (fun s H A cl fp => soundC c (cx.blk s H scope ok.kind cl A fp) h5) (fun s H A cl fp => soundE e (cx.blk s H scope ok.kind cl A fp) h6) (fold_ok hfo X.env)
    · cases h
  | .opM o a b, N, fl, sc, X, W, x, cx, h => by
    unfold chkE at h
    split at h
    · simp only [Bool.and_eq_true, decide_eq_true_eq] at h
      obtain ⟨⟨⟨h0, h1⟩, h2⟩, h3⟩ := h
      subst h0
      unfold dE
      split at h1
      · exact z_catM (soundE a cx h2) (soundE b cx h3)
      · exact z_repM (soundE a cx h2) (soundE b cx h3)
      · cases h1
    · cases h
  | .lstC a, N, fl, sc, X, W, x, cx, h => by
    unfold chkE at h
    split at h
    · rename_i y p l pos
      simp only [Bool.and_eq_true] at h
      obtain ⟨⟨h1, h2⟩, h4⟩ := h
      have e1 := of_decide_eq_true h1
      subst e1
      exact z_lstC (x := "list") (es := []) (by unfold Gl Env.kindOf; rw [cx.scp]; exact of_decide_eq_true h2) (cx.blt "list" (by decide)) (soundE a cx h4) (star_ok (okX_of h4) [] X.env)
    · cases h
  | .sm m a b, N, fl, sc, X, W, x, cx, h => by
    unfold chkE at h
    split at h
    · rename_i l g ap y cp
      simp only [Bool.and_eq_true] at h
      obtain ⟨⟨⟨⟨h1, h2⟩, h3⟩, h4⟩, h5⟩ := h
      have e1 := of_decide_eq_true h1
      subst e1
      exact z_sm m (soundE a cx h4) (soundE b cx h5) (star_ok (okX_of h5) [] X.env) (base_ok h2 _ _) h3
    · cases h
  | .dsel ks es k0, N, fl, sc, X, W, x, cx, h => by
    unfold chkE at h
    split at h
    · rename_i keys vals dpos rr pos
      simp only [Bool.and_eq_true, decide_eq_true_eq] at h
      obtain ⟨⟨⟨⟨⟨⟨h1, h2⟩, h3⟩, h4⟩, h5⟩, h6⟩, h7⟩ := h
      have hp : PD X ca W dpos ks keys vals (dL C.G call es) := by
        have hL := soundD es (X := X) (W := W) (pos := dpos) (ks := ks) (keys := keys) cx h1 h6 h5
        exact hL
      exact z_dsel (by have := cx.room.units; omega) hp h2 h3 h4 (fun sd S ds S1 e => by rw [chkL_len h6 sd S ds S1 e]; exact h5) (soundE k0 cx h7) (ix_ok (okX_of h7))
    · cases h
  | .fmt a, N, fl, sc, X, W, x, cx, h => by
    unfold chkE at h
    split at h
    · exact z_fmt (soundE a cx h)
    · cases h
  | .fs es, N, fl, sc, X, W, x, cx, h => by
    unfold chkE at h
    split at h
    · exact z_fs (soundF es cx h) (dF_str es)
    · cases h
theorem soundD : ∀ (es : Es) {N : List Str} {fl : Bool} {sc : Scope} {X : Cx} {W : WX} {pos : Pos} {ks : List Str} {keys : List (Option Expr)} {vals : List Expr}, Cxt C ca fa call k N fl sc X W → keysB ks keys = true → chkL C N fl sc es vals = true → vals.length = ks.length → PD X ca W pos ks keys vals (dL C.G call es)
  | .nil, N, fl, sc, X, W, pos, ks, keys, vals, cx, h1, h2, h3 => by
    unfold chkL at h2
    cases vals with
    | cons _ _ => cases h2
    | nil =>
      have : ks = [] := List.length_eq_zero_iff.mp h3.symm
      subst this
      cases keys with
      | nil => unfold dL; exact pd_nil
      | cons _ _ => unfold keysB at h1; cases h1
  | .cons e es, N, fl, sc, X, W, pos, ks, keys, vals, cx, h1, h2, h3 => by
    unfold chkL at h2
    split at h2
    · rename_i v rest
      rw [Bool.and_eq_true] at h2
      cases ks with
      | nil => cases h3
      | cons k1 ks =>
        unfold keysB at h1
        split at h1
        · rename_i e0; cases e0
        · rename_i k' ks' x n p es' e0
          cases e0
          rw [Bool.and_eq_true, decide_eq_true_eq] at h1
          obtain ⟨rfl, h1⟩ := h1
          unfold dL
          exact pd_cons (soundE e cx h2.1) (soundD es cx h1 h2.2 (by simpa using h3))
        · cases h1
    · cases h2
theorem soundF : ∀ (es : Es) {N : List Str} {fl : Bool} {sc : Scope} {X : Cx} {W : WX} {xs : List Expr}, Cxt C ca fa call k N fl sc X W → chkL C N fl sc es xs = true → PF2 X ca W xs (dF C.G call es)
  | .nil, N, fl, sc, X, W, xs, cx, h => by
    unfold chkL at h
    cases xs with
    | nil => unfold dF; exact pf_nil
    | cons _ _ => cases h
  | .cons e es, N, fl, sc, X, W, xs, cx, h => by
    unfold chkL at h
    split at h
    · rw [Bool.and_eq_true] at h
      unfold dF
      exact pf_cons (soundE e cx h.1) (soundF es cx h.2)
    · cases h
theorem soundL : ∀ (es : Es) {N : List Str} {fl : Bool} {sc : Scope} {X : Cx} {W : WX} {xs : List Expr}, Cxt C ca fa call k N fl sc X W → chkL C N fl sc es xs = true → PA X xs (rA X.K ca W (dL C.G call es))
  | .nil, N, fl, sc, X, W, xs, cx, h => by
    unfold chkL at h
    cases xs with
    | nil => exact z_anil
    | cons _ _ => cases h
  | .cons e es, N, fl, sc, X, W, xs, cx, h => by
    unfold chkL at h
    split at h
    · rw [Bool.and_eq_true] at h
      exact z_acons (soundE e cx h.1) (soundL es cx h.2) (star_ok (okX_of h.1) _ _)
    · cases h
theorem soundB (o : BoolOp) : ∀ (es : Es) {N : List Str} {fl : Bool} {sc : Scope} {X : Cx} {W : WX} {xs : List Expr} {pos : Pos}, Cxt C ca fa call k N fl sc X W → chkL C N fl sc es xs = true → PE X (.BoolOp o xs pos) (rE X.K ca W (dB C.G call o es))
  | .nil, N, fl, sc, X, W, xs, pos, cx, h => ⟨fun _ _ _ _ _ _ ⟨_, _, _, _, _, z⟩ => z.elim⟩
  | .cons e es, N, fl, sc, X, W, xs, pos, cx, h => by
    unfold chkL at h
    split at h
    · rename_i x rest
      rw [Bool.and_eq_true] at h
      cases es with
      | nil =>
        have h2 := h.2
        unfold chkL at h2
        cases rest with
        | nil => unfold dB; exact pe_one (soundE e cx h.1)
        | cons _ _ => cases h2
      | cons e2 es2 =>
        have ih := soundB o (.cons e2 es2) (X := X) (W := W) (pos := pos) cx h.2
        have h2 := h.2
        unfold chkL at h2
        split at h2
        · unfold dB
          cases o with
          | And => exact z_and (soundE e cx h.1) ih
          | Or => exact z_or (soundE e cx h.1) ih
        · cases h2
    · cases h
theorem soundO : ∀ (o : Oe) {N : List Str} {fl : Bool} {sc : Scope} {X : Cx} {W : WX} {x : Option Expr}, Cxt C ca fa call k N fl sc X W → chkO C N fl sc o x = true → PO X x (rP X.K ca W (dO C.G call o))
  | .none, N, fl, sc, X, W, x, cx, h => by
    unfold chkO at h
    cases x with
    | none => exact z_pno
    | some _ => cases h
  | .some e, N, fl, sc, X, W, x, cx, h => by
    unfold chkO at h
    split at h
    · exact z_psome (soundE e cx h)
    · cases h
theorem soundT : ∀ (t : Tt) {N : List Str} {fl : Bool} {sc : Scope} {X : Cx} {W : WX} {x : Expr}, Cxt C ca fa call k N fl sc X W → chkT C N fl sc t x = true → PT X x (rT X.K ca W (dT C.G call t))
  | .bo o ts, N, fl, sc, X, W, x, cx, h => by
    unfold chkT at h
    split at h
    · simp only [Bool.and_eq_true, decide_eq_true_eq] at h
      obtain ⟨h0, h1⟩ := h
      subst h0
      exact (soundTB o ts cx h1).pt
    · cases h
  | .not a, N, fl, sc, X, W, x, cx, h => by
    unfold chkT at h
    split at h
    · exact z_tnot (soundT a cx h)
    · cases h
  | .cmp o a b, N, fl, sc, X, W, x, cx, h => by
    unfold chkT at h
    split at h
    · simp only [Bool.and_eq_true, decide_eq_true_eq] at h
      obtain ⟨⟨h0, h2⟩, h3⟩ := h
      subst h0
      obtain ⟨R, r1, r2⟩ := cmp_rule (X := X) (ca := ca) cx.room.units o
      exact z_tcmp r1 r2 (soundE a cx h2) (soundE b cx h3) (mark_ok (okX_of h3) o)
    · cases h
  | .ch o o' a b c, N, fl, sc, X, W, x, cx, h => by
    unfold chkT at h
    split at h
    · simp only [Bool.and_eq_true, decide_eq_true_eq] at h
      obtain ⟨⟨⟨⟨h0, h1⟩, h2⟩, h3⟩, h4⟩ := h
      subst h0 h1
      obtain ⟨R, r1, r2⟩ := cmp_rule (X := X) (ca := ca) cx.room.units o
      obtain ⟨R', r1', r2'⟩ := cmp_rule (X := X) (ca := ca) cx.room.units o'
      exact z_tchain r1 r1' r2 r2' (soundE a cx h2) (soundE b cx h3) (soundE c cx h4) (last_ok (okX_of h4) o o')
    · cases h
  | .tru e, N, fl, sc, X, W, x, cx, h => by
    unfold chkT at h
    rw [Bool.and_eq_true] at h
    exact z_ttru (soundE e cx h.2) (tru_ok h.1 X.env)
theorem soundTB (o : BoolOp) : ∀ (ts : Tts) {N : List Str} {fl : Bool} {sc : Scope} {X : Cx} {W : WX} {xs : List Expr} {pos : Pos}, Cxt C ca fa call k N fl sc X W → chkTs C N fl sc ts xs = true → PW X (.BoolOp o xs pos) (rT X.K ca W (dTB C.G call o ts))
  | .nil, N, fl, sc, X, W, xs, pos, cx, h => ⟨fun _ _ _ _ _ _ _ ⟨_, _, _, _, _, z⟩ => z.elim⟩
  | .cons t ts, N, fl, sc, X, W, xs, pos, cx, h => by
    unfold chkTs at h
    split at h
    · rename_i x rest
      rw [Bool.and_eq_true] at h
      cases ts with
      | nil =>
        have h2 := h.2
        unfold chkTs at h2
        cases rest with
        | nil =>
          unfold dTB
          cases o with
          | And => exact pw_and1 (soundT t cx h.1)
          | Or => exact pw_or1 (soundT t cx h.1)
        | cons _ _ => cases h2
      | cons t2 ts2 =>
        have ih := soundTB o (.cons t2 ts2) (X := X) (W := W) (pos := pos) cx h.2
        have h2 := h.2
        unfold chkTs at h2
        split at h2
        · unfold dTB
          cases o with
          | And => exact z_wand (soundT t cx h.1) ih
          | Or => exact z_wor (soundT t cx h.1) ih
        · cases h2
    · cases h
theorem soundC : ∀ (c : Ot) {N : List Str} {fl : Bool} {sc : Scope} {X : Cx} {W : WX} {xs : List Expr}, Cxt C ca fa call k N fl sc X W → chkC C N fl sc c xs = true → PTs X xs (rT X.K ca W (dC C.G call c))
  | .none, N, fl, sc, X, W, xs, cx, h => by
    unfold chkC at h
    cases xs with
    | nil => exact ⟨fun pins s σ H Q I ⟨sd, r, S, hs, m, z⟩ => pts_nil.run pins s σ H Q I (z.ok m rfl)⟩
    | cons _ _ => cases h
  | .some t, N, fl, sc, X, W, xs, cx, h => by
    unfold chkC at h
    split at h
    · exact pts_one (soundT t cx h)
    · cases h
theorem soundG : ∀ (t : Tg) {N : List Str} {fl : Bool} {sc : Scope} {X : Cx} {W : WX} {x : Expr}, Cxt C ca fa call k N fl sc X W → chkG C N fl sc t x = true → PG X x (rG X.K ca (tgSl t) (dG C.G call t))
  | .nm i, N, fl, sc, X, W, x, cx, h => by
    unfold chkG at h
    split at h
    · simp only [Bool.and_eq_true, decide_eq_true_eq] at h
      obtain ⟨l, f⟩ := sto_of h.2
      refine z_gname (pg_name (by rw [cx.nm]; exact cx.nd) (by rw [cx.nm]; exact h.1) (by rw [cx.scp]; exact l) ?_)
      rcases f with f | f
      · exact .inl (cx.fn f _)
      · exact .inr (by rw [cx.scp]; exact f)
    · cases h
  | .tup ts, N, fl, sc, X, W, x, cx, h => by
    unfold chkG at h
    split at h
    · exact z_gtup cx.calm (soundGs ts cx h) (asgE_ok h X.env).1 (asgE_ok h X.env).2
    · cases h
  | .sub o i, N, fl, sc, X, W, x, cx, h => by
    unfold chkG at h
    split at h
    · rw [Bool.and_eq_true] at h
      exact z_gsub (soundE o cx h.1) (soundE i cx h.2) (asub_ok (okX_of h.2) _ _)
    · cases h
theorem soundGs : ∀ (ts : Tgs) {N : List Str} {fl : Bool} {sc : Scope} {X : Cx} {W : WX} {xs : List Expr}, Cxt C ca fa call k N fl sc X W → chkGs C N fl sc ts xs = true → PGs X xs (rGs X.K ca (tgsSl ts) (dGs C.G call ts))
  | .nil, N, fl, sc, X, W, xs, cx, h => by
    unfold chkGs at h
    cases xs with
    | nil => exact z_gsnil
    | cons _ _ => cases h
  | .cons t ts, N, fl, sc, X, W, xs, cx, h => by
    unfold chkGs at h
    split at h
    · rw [Bool.and_eq_true] at h
      exact z_gscons (soundG t cx h.1) (soundGs ts cx h.2) (by rw [asg1_ok h.1]; rfl)
    · cases h
theorem soundI : ∀ (it : It) {N : List Str} {fl : Bool} {sc : Scope} {X : Cx} {W : WX} {tg x : Expr}, Cxt C ca fa call k N fl sc X W → chkI C N fl sc it tg x = true → PI X tg x (rI X.K ca W (dI C.G call it))
  | .seq e, N, fl, sc, X, W, tg, x, cx, h => by
    unfold chkI at h
    exact z_seq (soundE e cx h)
  | .rng1 a, N, fl, sc, X, W, tg, x, cx, h => by
    unfold chkI at h
    split at h
    · rename_i y p l pos
      simp only [Bool.and_eq_true] at h
      obtain ⟨⟨h1, h2⟩, h4⟩ := h
      have e1 := of_decide_eq_true h1
      subst e1
      have hL := soundL a (X := X) (W := W) cx h4
      have hok : okX l = true := by
        cases a with
        | nil => unfold chkL at h4; cases h4
        | cons e0 es0 => unfold chkL at h4; rw [Bool.and_eq_true] at h4; exact okX_of h4.1
      exact z_rng1 (by unfold Gl Env.kindOf; rw [cx.scp]; exact of_decide_eq_true h2) (cx.blt "range" (by decide)) hL (star_ok hok [] X.env)
    · cases h
  | .rng2 a, N, fl, sc, X, W, tg, x, cx, h => by
    unfold chkI at h
    split at h
    · rename_i y p l r0 pos
      simp only [Bool.and_eq_true] at h
      obtain ⟨⟨h1, h2⟩, h4⟩ := h
      have e1 := of_decide_eq_true h1
      subst e1
      have hL := soundL a (X := X) (W := W) cx h4
      have hok : okX l = true ∧ okX r0 = true := by
        cases a with
        | nil => unfold chkL at h4; cases h4
        | cons e0 es0 =>
          unfold chkL at h4; rw [Bool.and_eq_true] at h4
          refine ⟨okX_of h4.1, ?_⟩
          have h5 := h4.2
          cases es0 with
          | nil => unfold chkL at h5; cases h5
          | cons e1 es1 => unfold chkL at h5; rw [Bool.and_eq_true] at h5; exact okX_of h5.1
      exact z_rng2 (by unfold Gl Env.kindOf; rw [cx.scp]; exact of_decide_eq_true h2) (cx.blt "range" (by decide)) hL (by rw [star_ok hok.1, star_ok hok.2]; rfl) (star_ok hok.2 [] X.env)
    · cases h
  | .zip a, N, fl, sc, X, W, tg, x, cx, h => by
    unfold chkI at h
    split at h
    · rename_i y p l r0 pos
      simp only [Bool.and_eq_true] at h
      obtain ⟨⟨⟨h0, h1⟩, h2⟩, h4⟩ := h
      have e1 := of_decide_eq_true h1
      subst e1
      have hL := soundL a (X := X) (W := W) cx h4
      have hok : okX l = true ∧ okX r0 = true := by
        cases a with
        | nil => unfold chkL at h4; cases h4
        | cons e0 es0 =>
          unfold chkL at h4; rw [Bool.and_eq_true] at h4
          refine ⟨okX_of h4.1, ?_⟩
          have h5 := h4.2
          cases es0 with
          | nil => unfold chkL at h5; cases h5
          | cons e1 es1 => unfold chkL at h5; rw [Bool.and_eq_true] at h5; exact okX_of h5.1
      cases tg <;> first
        | (exact z_zip (by unfold Gl Env.kindOf; rw [cx.scp]; exact of_decide_eq_true h2) (cx.blt "zip" (by decide)) hL (star_ok hok.1 _ X.env) (by rw [star_ok hok.2]; rfl))
        | (cases h0; done)
    · cases h
  | .enum a, N, fl, sc, X, W, tg, x, cx, h => by
    unfold chkI at h
    split at h
    · rename_i y p l pos
      simp only [Bool.and_eq_true] at h
      obtain ⟨⟨⟨h0, h1⟩, h2⟩, h4⟩ := h
      have e1 := of_decide_eq_true h1
      subst e1
      have hL := soundL a (X := X) (W := W) cx h4
      have hok : okX l = true := by
        cases a with
        | nil => unfold chkL at h4; cases h4
        | cons e0 es0 => unfold chkL at h4; rw [Bool.and_eq_true] at h4; exact okX_of h4.1
      cases tg <;> first
        | (exact z_enum (by unfold Gl Env.kindOf; rw [cx.scp]; exact of_decide_eq_true h2) (cx.blt "enumerate" (by decide)) hL (star_ok hok [] X.env))
        | (cases h0; done)
    · cases h
end
end
end Z

/-! Z layer, part L: statements that are read, their meaning, and that the text keeps it. -/
namespace Z
open PySem PySem.Spec PyProof.Rows L2

mutual
inductive S1 where
  | ex (e : E) | doc | pass | brk | cnt | ret (e : E) | retN
  | asg (t : Tg) (e : E) | aug (i : Nat) (o : Operator) (e : E) | par (is : List Nat) (es : Es)
  | ite (c : Tt) (a b : Ss) | for_ (t : Tg) (it : It) (b : Ss) | whl (c : Tt) (b : Ss)
  | setf (o : E) (f : Str) (e : E) | augS (o i : E) (p : Operator) (e : E)
inductive Ss where
  | nil | cons (s : S1) (ss : Ss)
end
def iaddP (_ : Sto) (x y : D) : Option D := match x, y with
  | .int i, .int j => some (.int (i + j))
  | .str a, .str b => if a.length + b.length ≤ 16777216 then some (.str (a ++ b)) else none
  | _, _ => none
def imulI (i j : Int) : Option Int := if (-18446744073709551616 < i ∧ i < 18446744073709551616) ∨ (-18446744073709551616 < j ∧ j < 18446744073709551616) then some (i * j) else none
def iopF : Operator → Sto → D → D → Option D
  | .Add => iaddP
  | .Sub => intP subI
  | .Mult => intP imulI
  | _ => fun _ _ _ => none
section
variable (G : Ev) (C : Nat → List D → Sto → Out D) (wf : Nat)
mutual
def dS : S1 → MS
  | .ex e => mExpr (dE G C e)
  | .doc => mSkip
  | .pass => mSkip
  | .brk => mBrk
  | .cnt => mCnt
  | .ret e => mRet (dE G C e)
  | .retN => mRetN
  | .asg t e => mAsg (dE G C e) (dG G C t)
  | .aug i o e => mAug i (iopF o) (dE G C e)
  | .par is es => mPar is (dL G C es)
  | .ite c a b => mIte (dT G C c) (dSs a) (dSs b)
  | .for_ t it b => mFor (dI G C it) (dG G C t) (dSs b)
  | .whl c b => whGo (dT G C c) (dSs b) wf
  | .setf o f e => mSetF G (dE G C o) (dE G C e) f
  | .augS o i p e => mAugS (dE G C o) (dE G C i) (iopF p) (dE G C e)
def dSs : Ss → MS
  | .nil => mSkip
  | .cons s ss => mThen (dS s) (dSs ss)
end
end

/-! ### the check -/
def swP (ts vs : List Expr) (sc : Scope) : Option (Option (List Str)) :=
  if (!(ts.length == 2 || ts.length == 3) || vs.length != ts.length) = true then some none
  else if (vs.any fun | .Starred .. => true | _ => false) = true then some none
  else
    let line := (ts.head?.map (·.pos.line)).getD 0
    let names := ts.filterMap fun
      | .Name id pos => if (sc.names.lookup id == some .local && pos.line == line) = true then some id else none
      | _ => none
    if (names.length != ts.length || names.eraseDups.length != names.length) = true then some none
    else if vs.all (foldedForSure 8) = true then some none
    else if vs.all (constantsAlone 8) = true then none
    else some (some names)
def swOk (sc : Scope) : Expr → Expr → Bool
  | .Tuple ts _ _, .Tuple vs _ _ => decide (swP ts vs sc = some none)
  | .List .., _ => false
  | _, _ => true
def noLc : Expr → Bool
  | .ListComp .. => false | .SetComp .. => false | .DictComp .. => false | _ => true
def okAug : Operator → Bool
  | .Add => true | .Sub => true | .Mult => true | _ => false
section
variable (C : Tab) (N : List Str)
mutual
def chkS (fl : Bool) (sc : Scope) : S1 → Stmt → Bool
  | .ex e, s => match s with
    | .Expr x _ => noLc x && chkE C N fl sc e x
    | _ => false
  | .doc, s => match s with
    | .Expr (.Constant (.str _) _ _) _ => true
    | _ => false
  | .pass, s => match s with
    | .Pass _ => true
    | _ => false
  | .brk, s => match s with
    | .Break _ => true
    | _ => false
  | .cnt, s => match s with
    | .Continue _ => true
    | _ => false
  | .ret e, s => match s with
    | .Return (some x) _ => chkE C N fl sc e x
    | _ => false
  | .retN, s => match s with
    | .Return none _ => true
    | _ => false
  | .asg t e, s => match s with
    | .Assign [tg] x _ => chkG C N fl sc t tg && chkE C N fl sc e x && swOk sc tg x
    | _ => false
  | .aug i o e, s => match s with
    | .AugAssign (.Name y _) o' x _ => decide (o = o') && okAug o && decide (N[i]? = some y) && stoN fl sc y && chkE C N fl sc e x
    | _ => false
  | .par is es, s => match s with
    | .Assign [.Tuple ts _ _] (.Tuple vs _ _) _ => (match is, ts, vs with
      | [i, j], [.Name x _, .Name y _], [_, _] => decide (i ≠ j) && decide (N[i]? = some x) && decide (N[j]? = some y) && decide (sc.names.lookup x = some .local) && decide (sc.names.lookup y = some .local) && decide (swP ts vs sc = some (some [x, y]))
      | [i, j, l], [.Name x _, .Name y _, .Name z _], [_, _, _] => decide (i ≠ j) && decide (i ≠ l) && decide (j ≠ l) && decide (N[i]? = some x) && decide (N[j]? = some y) && decide (N[l]? = some z) && decide (sc.names.lookup x = some .local) && decide (sc.names.lookup y = some .local) && decide (sc.names.lookup z = some .local) && decide (swP ts vs sc = some (some [x, y, z]))
      | _, _, _ => false) && chkL C N fl sc es vs
    | _ => false
  | .ite c a b, s => match s with
    | .If x y z _ => chkT C N fl sc c x && chkSs fl sc a y && chkSs fl sc b z
    | _ => false
  | .for_ t it b, s => match s with
    | .For tg iter body [] _ => chkG C N fl sc t tg && chkI C N fl sc it tg iter && chkSs fl sc b body
    | _ => false
  | .whl c b, s => match s with
    | .While x body [] _ => chkT C N fl sc c x && chkSs fl sc b body
    | _ => false
  | .setf o f e, s => match s with
    | .Assign [.Attribute l g _] x _ => decide (g = f) && noLc x && chkE C N fl sc o l && chkE C N fl sc e x
    | _ => false
  | .augS o i p e, s => match s with
    | .AugAssign (.Subscript l r _) p' x _ => decide (p = p') && okAug p && chkE C N fl sc o l && chkE C N fl sc i r && chkE C N fl sc e x
    | _ => false
def chkSs (fl : Bool) (sc : Scope) : Ss → List Stmt → Bool
  | .nil, xs => xs.isEmpty
  | .cons s ss, xs => match xs with
    | x :: rest => chkS fl sc s x && chkSs fl sc ss rest
    | [] => false
end
end

theorem swP_ok {env : Env} {ts vs : List Expr} {k k2 : Nat} {p p2 : Pos} {o : Option (List Str)} (hk : env.scope.kind = .function) (h : swP ts vs env.scope = some o) : swappedStores [.Tuple ts k p] (.Tuple vs k2 p2) env = pure o := by
  have hb : env.blockKind = .function := by unfold Env.blockKind; rw [hk]; rfl
  have e0 : (env.blockKind != .function) = false := by rw [hb]; rfl
  unfold swP at h
  unfold swappedStores
  simp only [e0, Bool.or_false]
  have kf : ∀ id, env.kindOf id = env.scope.names.lookup id := fun _ => rfl
  simp only [kf]
  split at h
  · rename_i c; cases h; exact if_pos c
  · rename_i c
    refine (if_neg c).trans ?_
    split at h
    · rename_i c2; cases h; exact if_pos c2
    · rename_i c2
      refine (if_neg c2).trans ?_
      simp only at h
      split at h
      · rename_i c3; cases h; exact if_pos c3
      · rename_i c3
        refine (if_neg c3).trans ?_
        split at h
        · rename_i c4; cases h; exact if_pos c4
        · rename_i c4
          refine (if_neg c4).trans ?_
          split at h
          · cases h
          · rename_i c5
            cases h
            exact if_neg c5
theorem sw_none {env : Env} {tg x : Expr} (hk : env.scope.kind = .function) (h : swOk env.scope tg x = true) : swappedStores [tg] x env = pure none := by
  cases tg <;> first
    | rfl
    | (cases h; done)
    | (cases x <;> first | rfl | exact swP_ok hk (of_decide_eq_true h))
theorem swaps_no {x : Expr} (h : noLc x = true) (t : Option Expr) (l : Nat) (env : Env) : swapsWith x t l env = pure false := by
  cases x <;> first | rfl | (cases h; done)
theorem swaps_lc {elt : Expr} {gs : List Comprehension} {scope : Scope} {pos py : Pos} {y : Str} {l : Nat} {env : Env} (hk : env.scope.kind = .function) :
    swapsWith (.ListComp elt gs scope pos) (some (.Name y py)) l env = pure (decide (env.scope.names.lookup y = some .local) && (py.line == pos.line) && !(scope.names.any fun (n, k) => n == y && (k == .local || k == .cell))) := by
  have hb : env.blockKind = .function := by unfold Env.blockKind; rw [hk]; rfl
  have kf : env.kindOf y = env.scope.names.lookup y := rfl
  unfold swapsWith
  simp only [hb, kf]
  have e : (env.scope.names.lookup y == some NameKind.local) = decide (env.scope.names.lookup y = some .local) := by
    rw [Bool.eq_iff_iff]; simp
  rw [← e]
  rfl

section
variable {C : Tab} {ca fa : Nat → Addr} {call : Nat → List D → Sto → Out D} {k wf : Nat}
theorem oz_iadd {K : PySem.W.Frag} : OpZ K ca (rOr rAddI rStrCat) iaddP := by
  intro H r S x y vx vy d Q m hx hy e q
  unfold iaddP at e
  split at e
  · cases hx; cases hy; cases e; exact .inl ⟨_, _, rfl, rfl, q _ _ (Ext.refl ..) m (.int _)⟩
  · cases hx; cases hy
    split at e
    · cases e; exact .inr ⟨_, _, rfl, rfl, by rw [sizeLine_eq]; assumption, q _ _ (Ext.refl ..) m (.str _)⟩
    · cases e
  · cases e
theorem oz_imul {K : PySem.W.Frag} : OpZ K ca (L2.rI CMul fun i j => .int (i * j)) (intP imulI) := oz_int fun i j k e => by
  unfold imulI at e; split at e
  · rename_i h; exact ⟨by unfold CMul; simpa using h, Option.some.inj e⟩
  · cases e
theorem iop_rule {X : Cx} (o : Operator) (h : okAug o = true) : ∃ R, OpR X (inplaceOp o) R ∧ OpZ X.K ca R (iopF o) := by
  cases o with
  | Add => exact ⟨_, iop_add.or iop_add_str, oz_iadd⟩
  | Sub => exact ⟨rSubI, fun pins s σ H x y v u Q I rx ry ⟨i, j, e1, e2, _, q⟩ => iop_sub pins s σ H x y v u Q I rx ry ⟨i, j, e1, e2, q⟩, oz_sub⟩
  | Mult => exact ⟨_, iop_mul, oz_imul⟩
  | _ => cases h
theorem aug_ok {i : Expr} (h : okX i = true) (ov iv new : Value) : augStore i ov iv new = (do holding [new, ov, iv] (setItem ov iv new); release [new, ov, iv] []; pure .next) := by
  cases i <;> first | rfl | (cases h; done)
theorem sound_asg {N : List Str} {fl : Bool} {sc : Scope} {X : Cx} {W : WX} {tg x : Expr} {pos : Pos} {t : Tg} {e : E} (cx : Cxt C ca fa call k N fl sc X W) (h1 : chkG C N fl sc t tg = true) (h2 : chkE C N fl sc e x = true) (h3 : swOk sc tg x = true) :
    PS X (.Assign [tg] x pos) (rS X.K ca W (mAsg (dE C.G call e) (dG C.G call t))) := by
  have hk : X.env.scope.kind = .function := by rw [cx.scp]; exact cx.kind
  have hw : swappedStores [tg] x X.env = pure none := sw_none hk (by rw [cx.scp]; exact h3)
  have ha : (assignEach [tg] X.env).map (·.2) = [assign tg X.env] := by rw [asg1_ok h1]; rfl
  have hE := soundE e (X := X) (W := W) cx h2
  have hG := soundG t (X := X) (W := W) cx h1
  by_cases hn : noLc x = true
  · exact s_asg hE hG (swaps_no hn _ _ _) hw ha
  · -- a comprehension
    cases e with
    | lc mt t2 it c el own =>
      have h2' := h2
      unfold chkE at h2'
      split at h2'
      · rename_i el2 tg2 iter ifs as scope pos2
        simp only [Bool.and_eq_true, decide_eq_true_eq] at h2'
        obtain ⟨⟨⟨⟨⟨⟨g0, g1⟩, g2⟩, g3⟩, g4⟩, g5⟩, g6⟩ := h2'
        subst g0
        cases t with
        | nm i =>
          have h1' := h1
          unfold chkG at h1'
          split at h1'
          · rename_i y py
            simp only [Bool.and_eq_true, decide_eq_true_eq] at h1'
            have hs := swaps_lc (elt := el2) (gs := [⟨tg2, iter, ifs, 0⟩]) (scope := scope) (pos := pos2) (py := py) (y := y) (l := pos.line) (env := X.env) hk
            generalize hb : (decide (X.env.scope.names.lookup y = some .local) && (py.line == pos2.line) && !(scope.names.any fun (n, k) => n == y && (k == .local || k == .cell))) = b at hs
            cases b with
            | false => exact s_asg hE hG hs hw ha
            | true =>
              have hl : X.env.scope.names.lookup y = some .local := by
                simp only [Bool.and_eq_true, decide_eq_true_eq] at hb
                exact hb.1.1
              have ok : BlkOk N sc scope own := blkOk_by g1
              have ok' : BlkOk X.N X.env.scope scope own := by rw [cx.nm, cx.scp]; exact ok
              have hts : ∀ i ∈ tgSl t2, i ∈ own.map (·.2) := fun i hi => List.contains_iff_mem.mp (List.all_eq_true.mp g2 i hi)
              rw [show dE C.G call (.lc mt t2 it c el own) = (if mt = true then mLcM (dI C.G call it) (dG C.G call t2) (own.map (·.2)) (dC C.G call c) (dE C.G call el) else mLc (dI C.G call it) (dG C.G call t2) (own.map (·.2)) (dC C.G call c) (dE C.G call el)) from by rw [dE], show dG C.G call (.nm i) = gNm i from by rw [dG]]
              exact s_setLc mt cx.calm (by rw [cx.nm]; exact cx.nd) (by rw [cx.nm]; exact h1'.1) hl hs (soundI it cx g3) ok' hts (fun s H A cl fp => soundG t2 (cx.blk s H scope ok.kind cl A fp) g4) (fun s H A cl fp => soundC c (cx.blk s H scope ok.kind cl A fp) g5) (fun s H A cl fp => soundE el (cx.blk s H scope ok.kind cl A fp) g6) (fold_ok (okI g3) X.env)
          · cases h1'
        | tup ts =>
          have h1' := h1
          unfold chkG at h1'
          split at h1'
          · exact s_asg hE hG rfl hw ha
          · cases h1'
        | sub o i =>
          have h1' := h1
          unfold chkG at h1'
          split at h1'
          · exact s_asg hE hG rfl hw ha
          · cases h1'
      · cases h2'
    | _ => exact absurd (by unfold chkE at h2; split at h2 <;> first | rfl | (cases h2; done)) hn

mutual
theorem soundS : ∀ (s : S1) {N : List Str} {fl : Bool} {sc : Scope} {X : Cx} {W : WX} {x : Stmt}, Cxt C ca fa call k N fl sc X W → chkS C N fl sc s x = true → PS X x (rS X.K ca W (dS C.G call wf s))
  | .ex e, N, fl, sc, X, W, x, cx, h => by
    unfold chkS at h
    split at h
    · rw [Bool.and_eq_true] at h
      exact s_expr (soundE e cx h.2) (swaps_no h.1 _ _ _)
    · cases h
  | .doc, N, fl, sc, X, W, x, cx, h => by
    unfold chkS at h
    split at h
    · exact s_doc
    · cases h
  | .pass, N, fl, sc, X, W, x, cx, h => by
    unfold chkS at h
    split at h
    · exact s_pass
    · cases h
  | .brk, N, fl, sc, X, W, x, cx, h => by
    unfold chkS at h
    split at h
    · exact s_brk
    · cases h
  | .cnt, N, fl, sc, X, W, x, cx, h => by
    unfold chkS at h
    split at h
    · exact s_cnt
    · cases h
  | .ret e, N, fl, sc, X, W, x, cx, h => by
    unfold chkS at h
    split at h
    · exact s_ret (soundE e cx h)
    · cases h
  | .retN, N, fl, sc, X, W, x, cx, h => by
    unfold chkS at h
    split at h
    · exact s_retN
    · cases h
  | .asg t e, N, fl, sc, X, W, x, cx, h => by
    unfold chkS at h
    split at h
    · simp only [Bool.and_eq_true] at h
      exact sound_asg cx h.1.1 h.1.2 h.2
    · cases h
  | .aug i o e, N, fl, sc, X, W, x, cx, h => by
    unfold chkS at h
    split at h
    · simp only [Bool.and_eq_true, decide_eq_true_eq] at h
      obtain ⟨⟨⟨⟨h0, h1⟩, h2⟩, h3⟩, h4⟩ := h
      subst h0
      obtain ⟨R, r1, r2⟩ := iop_rule (X := X) (ca := ca) o h1
      obtain ⟨l, f⟩ := sto_of h3
      refine s_aug (by rw [cx.nm]; exact cx.nd) (by rw [cx.nm]; exact h2) (by rw [cx.scp]; exact l) (soundE e cx h4) r1 r2 ?_
      rcases f with f | f
      · exact .inl (cx.fn f _)
      · exact .inr (by rw [cx.scp]; exact f)
    · cases h
  | .par is es, N, fl, sc, X, W, x, cx, h => by
    have hk : X.env.scope.kind = .function := by rw [cx.scp]; exact cx.kind
    have hnd : X.N.Nodup := by rw [cx.nm]; exact cx.nd
    unfold chkS at h
    split at h
    · rename_i ts _ _ vs _ _ pos
      rw [Bool.and_eq_true] at h
      obtain ⟨h, hl⟩ := h
      have hL := soundL es (X := X) (W := W) cx hl
      split at h
      · simp only [Bool.and_eq_true, decide_eq_true_eq] at h
        obtain ⟨⟨⟨⟨⟨h0, h1⟩, h2⟩, h3⟩, h4⟩, h5⟩ := h
        exact PS.imp (ps_par cx.calm hnd (by rw [cx.nm]; exact h1) (by rw [cx.nm]; exact h2) h0 (by rw [cx.scp]; exact h3) (by rw [cx.scp]; exact h4) hL (swP_ok hk (by rw [cx.scp]; exact h5)) rfl) fun D s H hh => par_in hh
      · simp only [Bool.and_eq_true, decide_eq_true_eq] at h
        obtain ⟨⟨⟨⟨⟨⟨⟨⟨⟨h0, h01⟩, h02⟩, h1⟩, h2⟩, h21⟩, h3⟩, h4⟩, h41⟩, h5⟩ := h
        exact PS.imp (ps_par3 cx.calm hnd (by rw [cx.nm]; exact h1) (by rw [cx.nm]; exact h2) (by rw [cx.nm]; exact h21) h0 h01 h02 (by rw [cx.scp]; exact h3) (by rw [cx.scp]; exact h4) (by rw [cx.scp]; exact h41) hL (swP_ok hk (by rw [cx.scp]; exact h5)) rfl) fun D s H hh => par3_in hh
      · cases h
    · cases h
  | .ite c a b, N, fl, sc, X, W, x, cx, h => by
    unfold chkS at h
    split at h
    · simp only [Bool.and_eq_true] at h
      exact s_ite (soundT c cx h.1.1) (soundSs a cx h.1.2) (soundSs b cx h.2)
    · cases h
  | .for_ t it b, N, fl, sc, X, W, x, cx, h => by
    unfold chkS at h
    split at h
    · simp only [Bool.and_eq_true] at h
      exact s_for cx.po cx.calm (soundI it cx h.1.2) (soundG t cx h.1.1) (soundSs b cx h.2) (fold_ok (okI h.1.2) X.env)
    · cases h
  | .whl c b, N, fl, sc, X, W, x, cx, h => by
    unfold chkS at h
    split at h
    · simp only [Bool.and_eq_true] at h
      exact s_whl cx.po (soundT c cx h.1) (soundSs b cx h.2)
    · cases h
  | .setf o f e, N, fl, sc, X, W, x, cx, h => by
    unfold chkS at h
    split at h
    · simp only [Bool.and_eq_true, decide_eq_true_eq] at h
      obtain ⟨⟨⟨h0, h1⟩, h2⟩, h3⟩ := h
      subst h0
      exact s_setf cx.cz (soundE o cx h2) (soundE e cx h3) (swaps_no h1 _ _ _)
    · cases h
  | .augS o i p e, N, fl, sc, X, W, x, cx, h => by
    unfold chkS at h
    split at h
    · simp only [Bool.and_eq_true, decide_eq_true_eq] at h
      obtain ⟨⟨⟨⟨h0, h1⟩, h2⟩, h3⟩, h4⟩ := h
      subst h0
      obtain ⟨R, r1, r2⟩ := iop_rule (X := X) (ca := ca) p h1
      exact s_augS (soundE o cx h2) (soundE i cx h3) (soundE e cx h4) r1 r2 (aug_ok (okX_of h3))
    · cases h
theorem soundSs : ∀ (ss : Ss) {N : List Str} {fl : Bool} {sc : Scope} {X : Cx} {W : WX} {xs : List Stmt}, Cxt C ca fa call k N fl sc X W → chkSs C N fl sc ss xs = true → PSs X xs (rS X.K ca W (dSs C.G call wf ss))
  | .nil, N, fl, sc, X, W, xs, cx, h => by
    unfold chkSs at h
    cases xs with
    | nil => exact s_nil
    | cons _ _ => cases h
  | .cons s ss, N, fl, sc, X, W, xs, cx, h => by
    unfold chkSs at h
    split at h
    · rw [Bool.and_eq_true] at h
      exact s_cons (soundS s cx h.1) (soundSs ss cx h.2)
    · cases h
end
end
end Z

/-! Z layer, part M: defs by their bodies; the law's end. -/
namespace Z
open PySem PySem.Spec PyProof.Rows L2

structure Fn where
  np : Nat
  ns : Nat
  body : Ss
def fnEnd (o : OutS) : Out D := match o with
  | .ok .nx _ S => .ok .non S
  | .ok (.rt d) _ S => .ok d S
  | .exc c fs _ S => .exc c fs S
  | _ => .bad
def slots0 (ns : Nat) (args : List D) : Sl := args.map some ++ List.replicate (ns - args.length) none
/-- a call of the f-th def; k: how deep calls may go; wf: how many turns a while may take -/
def run (T : List Fn) (G : Ev) (wf : Nat) : Nat → Nat → List D → Sto → Out D
  | 0, _, _, _ => .bad
  | k + 1, f, args, S => match T[f]? with
    | some fn => if args.length = fn.np then fnEnd (dSs G (run T G wf k) wf fn.body (slots0 fn.ns args) S) else .bad
    | none => .bad

/-- the body of a def, with what is known of its scope -/
structure FnText (C : Tab) (fn : Fn) (N ps : List Str) (sc : Scope) (body : List Stmt) : Prop where
  scope : FnScope N ps sc
  np : ps.length = fn.np
  ns : N.length = fn.ns
  chk : chkSs C N true sc fn.body body = true

section
variable {P : Program} {w : World} {K : PySem.W.Frag} {mg : Str → Option Value} {base : Heap} {C : Tab} {ca : Nat → Addr} {T : List Fn} {wf : Nat}
theorem slots_start {H : Hp} {r : Rg} {ds : List D} {vs : List V} {N : List Str} {ns : Nat} (h : Reps K H r ds vs) (hn : N.length = ns) (hl : ds.length ≤ ns) : Slots K H r (slots0 ns ds) (start N vs) := by
  have e := h.length
  refine ⟨by unfold slots0 L2.start; simp; omega, fun i d hd => ?_⟩
  unfold slots0 at hd
  unfold L2.start
  by_cases hi : i < ds.length
  · rw [List.getElem?_append_left (by simpa using hi), List.getElem?_map] at hd
    cases q : ds[i]? with
    | none => rw [q] at hd; cases hd
    | some d' =>
      rw [q] at hd
      cases hd
      obtain ⟨v, h1, h2⟩ := h.get q
      exact ⟨v, by rw [List.getElem?_append_left (by simpa [← e] using hi), List.getElem?_map, h1]; rfl, h2⟩
  · rw [List.getElem?_append_right (by simpa using hi), List.getElem?_replicate] at hd
    split at hd <;> cases hd
theorem fnEnd_ln {H : Hp} {r : Rg} {o : OutS} {Q : VK} {E : XK} (h : Ln K ca (rV K) H r (fnEnd o) Q E) : LnS K ca H r o { nx := fun _ H' => Q .non H', rt := Q } (fun c d _ H' => E c d H') := by
  cases o with
  | bad => exact h
  | exc c fs sd S => exact fun cls d s H' r' x m _ q => h cls d H' r' x m q
  | ok f sd S => cases f with
    | nx => exact fun s H' r' x m _ => h .non H' r' x m .non
    | rt d => exact fun v H' r' x m q => h v H' r' x m q
    | bk => exact h.elim
    | ct => exact h.elim
/-- facts of the module that every body may use -/
structure ModOk (K : PySem.W.Frag) (mg : Str → Option Value) (C : Tab) (ca fa : Nat → Addr) : Prop where
  blt : ∀ x ∈ bltN, mg (Str.ofString x) = none
  gl : ∀ (j : Nat) (x : Str) (d : D), C.gl[j]? = some (x, d) → ∃ u v, mg x = some u ∧ RelV v u ∧ ∀ H r, Rep K H r d v
  fg : ∀ (f : Nat) (x : Str) (n : Nat), C.fns[f]? = some (some x, n) → mg x = some (.ref (fa f)) ∧ PySem.W.keepIn K (.ref (fa f)) = true
  cz : ClsZ K ca fa C.G
  mz : MtZ C.G C.ar
  cg : ∀ (c : Nat) (x : Str) (fs : List Str) (ms : List (Str × Nat)) (i : Nat), C.cls[c]? = some (x, fs, ms) → ms.lookup ("__init__" : Str) = some i → mg x = some (.ref (ca c)) ∧ Mk K (ca c) (fa i)
/-- a def of the text, as it stands behind the top -/
structure DefOk (K : PySem.W.Frag) (C : Tab) (fn : Fn) (f : Addr) (fd : FuncData) (ps : List Str) : Prop where
  bn : Binds K fd ps []
  ex : ∃ (N : List Str) (x qual : Str) (params : Arguments) (body : List Stmt) (scope : Scope), FnText C fn N ps scope body ∧ FunD K x qual params body scope [] [] f fd
/-- the table of the defs fits the table of their bodies -/
structure TabOk (C : Tab) (T : List Fn) : Prop where
  len : C.fns.length = T.length
  np : ∀ (i n : Nat) (fn : Fn), C.ar i = some n → T[i]? = some fn → fn.np = n
theorem run_bad {k : Nat} (tb : TabOk C T) (i n : Nat) (ds : List D) (S : Sto) (e : C.ar i = some n) (h : ds.length ≠ n) : run T C.G wf k i ds S = .bad := by
  cases k with
  | zero => rfl
  | succ k =>
    rw [run]
    split
    · rename_i fn e1
      rw [if_neg (by rw [tb.np i n fn e e1]; exact h)]
    · rfl
theorem run_no {k : Nat} (tb : TabOk C T) (i : Nat) (ds : List D) (S : Sto) (e : C.ar i = none) : run T C.G wf k i ds S = .bad := by
  cases k with
  | zero => rfl
  | succ k =>
    rw [run]
    have : T[i]? = none := by
      unfold Tab.ar at e
      rw [Option.map_eq_none_iff, List.getElem?_eq_none_iff] at e
      rw [List.getElem?_eq_none_iff, ← tb.len]; exact e
    rw [this]
theorem fn_ok {fa : Nat → Addr} {fn : Fn} {f : Addr} {fd : FuncData} {ps : List Str} {k i : Nat} (tb : TabOk C T) (M : ModOk K mg C ca fa) (Dk : DefOk K C fn f fd ps) (hi : T[i]? = some fn)
    (fns : ∀ (i n : Nat), C.ar i = some n → ∃ (fd : FuncData) (ps : List Str), ps.length = n ∧ Binds K fd ps [] ∧ FnZ P w K mg base (2 * k) (fa i) fd ps (spOf K ca n (run T C.G wf k i))) :
    FnZ P w K mg base (2 * k + 2) f fd ps (spOf K ca fn.np (run T C.G wf (k + 1) i)) := by
  obtain ⟨N, x, qual, params, body, scope, tx, F⟩ := Dk.ex
  obtain ⟨oc, od, dV, kV, doc, pm, an, cdv, ct, osl, rfl, lk, hcd, _, _⟩ := F.ex
  have SC := tx.scope
  refine ⟨fun vs H Q E h => by rw [h.1, tx.np], fun A outer s H args us vs Q E room gd e0 bt rv hsp => ?_⟩
  obtain ⟨hl, ds, r, S, hr, m, hq⟩ := hsp
  have KX : K.In s.heap := e0.mod.kin.keeps fun b o e => (e0.bs b o e).1
  have lim : s.heap.NoLimit := e0.mod.nolimit.keeps fun b o e => (e0.bs b o e).1
  have hlen : vs.length = ps.length := by rw [hl, tx.np]
  have kinds : ∀ y ∈ ps.zip us, scope.names.lookup y.1 = some .local ∨ (scope.names.lookup y.1 = some .cell ∧ ((cellsFrom (s.heap.objs.size + 1) scope.names []).lookup y.1).isSome = true) := by
    rintro ⟨n, v⟩ hy
    cases SC.par n (List.of_mem_zip hy).1 with
    | inl q => exact .inl q
    | inr q => exact .inr ⟨q, PySem.W.cellsFrom_some _ _ _ (.inl q)⟩
  refine codeAny_call_function room.depth (KX _ _ lk) rfl SC.co SC.gen rfl (PySem.W.codeRec_of KX hcd) (bt _ _ _ _ ?_)
  refine wpAny_newFunctionEnv_cells SC.kind kinds fun env he s1 inc => ?_
  subst he
  refine ⟨lim.keeps inc.toInCall.keep, codeAny_func ?_⟩
  have I : Inv (cxOf (L2.CX P w) P w K mg base N qual scope f cdv A outer s H E) [] (start N vs) H s1 := inv_start SC room.hd e0 hlen rv inc
  have cx : Cxt C ca fa (run T C.G wf k) (2 * k) N true scope (cxOf (L2.CX P w) P w K mg base N qual scope f cdv A outer s H E) (fun c d _ H' => E c d H') :=
    ⟨rfl, SC.kind, rfl, rfl, SC.nd, fun _ _ => rfl, room.deeper _, gd, takes_of rfl rfl rfl rfl, passes_of rfl, M.blt, M.gl, ⟨fns, fun i n ds S e h => run_bad tb i n ds S e h, fun i ds S e => run_no tb i ds S e⟩, M.fg, M.cz, M.mz, M.cg⟩
  have B := soundSs (wf := wf) fn.body cx tx.chk
  have hds : ds.length = fn.np := by rw [hr.length]; exact hl
  have hsub : ps.length ≤ N.length := by
    have := congrArg List.length SC.pre
    rw [List.length_take] at this; omega
  simp only [run, hi, hds, ↓reduceIte] at hq
  have rd : rS K ca (fun c d _ H' => E c d H') (dSs C.G (run T C.G wf k) wf fn.body) { nx := fun _ H' => Q .non H', rt := Q } (start N vs) H :=
    ⟨slots0 fn.ns ds, r, S, slots_start hr tx.ns (by rw [hds, ← tx.np, ← tx.ns]; exact hsub), m, fnEnd_ln hq⟩
  refine wpAny_mono (B.run [] s1 (start N vs) H _ I rd) (fun fl s' hs => ?_) fun e s' hs => hs
  have ret : ∀ {σ' : L2.St} {H' : Hp} {v : V} {u : Value}, Inv (cxOf (L2.CX P w) P w K mg base N qual scope f cdv A outer s H E) [] σ' H' s' → RelV v u → Q v H' → CE outer P w H s Q u s' :=
    fun J ru q => ⟨_, _, J.os, J.bare, J.base, J.hok, ru, q⟩
  match fl, hs with
  | .ret u, ⟨v, σ', H', J, ru, q⟩ => exact ret J ru q
  | .next, ⟨σ', H', J, q⟩ => exact ret (v := V.non) (u := Value.none) J rfl q
  | .brk, ⟨_, _, _, q⟩ => exact False.elim q
  | .cont, ⟨_, _, _, q⟩ => exact False.elim q
/-- all defs at once -/
theorem all_ok {fa : Nat → Addr} (tb : TabOk C T) (M : ModOk K mg C ca fa) (defs : ∀ (f : Nat) (n : Nat) (fn : Fn), C.ar f = some n → T[f]? = some fn → ∃ (fd : FuncData) (ps : List Str), DefOk K C fn (fa f) fd ps ∧ ps.length = n) :
    ∀ (k f n : Nat), C.ar f = some n → ∃ (fd : FuncData) (ps : List Str), ps.length = n ∧ Binds K fd ps [] ∧ FnZ P w K mg base (2 * k) (fa f) fd ps (spOf K ca n (run T C.G wf k f))
  | 0, f, n, e => by
    have hl : f < T.length := by
      rw [← tb.len]
      unfold Tab.ar at e
      rw [Option.map_eq_some_iff] at e
      obtain ⟨_, e, _⟩ := e
      exact (List.getElem?_eq_some_iff.mp e).1
    obtain ⟨fd, ps, Dk, hp⟩ := defs f n T[f] e (List.getElem?_eq_getElem hl)
    exact ⟨fd, ps, hp, Dk.bn, fun vs H Q E h => by rw [h.1, hp], fun A outer s H args us vs Q E _ _ _ _ _ h => by obtain ⟨_, _, _, _, _, _, z⟩ := h; exact z.elim⟩
  | k + 1, f, n, e => by
    have hl : f < T.length := by
      rw [← tb.len]
      unfold Tab.ar at e
      rw [Option.map_eq_some_iff] at e
      obtain ⟨_, e, _⟩ := e
      exact (List.getElem?_eq_some_iff.mp e).1
    obtain ⟨fd, ps, Dk, hp⟩ := defs f n T[f] e (List.getElem?_eq_getElem hl)
    refine ⟨fd, ps, hp, Dk.bn, ?_⟩
    have := fn_ok (P := P) (w := w) (base := base) (ca := ca) (wf := wf) tb M Dk (List.getElem?_eq_getElem hl) (all_ok tb M defs k)
    rw [tb.np f n T[f] e (List.getElem?_eq_getElem hl)] at this
    exact this
end

/-! ### the end -/
section
variable {P : Program} {w : World} {K : PySem.W.Frag} {mg mb : Str → Option Value} {k : Nat} {fa a : Addr} {fd : FuncData} {x : Str} {sp : Sp} {s1 : Shared} {vs : List Value} {ns : List Int}
theorem law_from (H : Hp) (only : Only H) (sq : SqL K H a (ns.map V.int)) (hok : HOk P w H s1.heap) (here : ∀ b, H b ≠ none → b = a) (out : H a ≠ none → K.lookup a = none)
    (KX : K.In s1.heap) (g : s1.heap.Ns mainGlobals mg) (b : s1.heap.Ns builtinsNs mb) (bb : ∀ x : Str, x ≠ "__name__" → mb x = bootBuiltins x) (lim : s1.heap.NoLimit) (gens : s1.gens = #[])
    (ha : s1.heap.get? a = some { cls := .type "list", data := .seq vs.toArray }) (room : Room k callerA) (F : ∀ base : Heap, K.In base → base.Ns mainGlobals mg → FnZ P w K mg base k fa fd [x] sp)
    (bind : ∀ (s : Shared) (u : Value), BindsTo s fd ⟨[u], []⟩ [(x, u)]) (hsp : sp [.ref a] H (fun v _ => v = .bl true) fun _ _ _ => False) :
    codeAny (model P w) callerA (.call (.ref fa) ⟨[.ref a], []⟩) (fun r s' => r = .ok (.ret (.bool true)) ∧ OldK s1.heap s'.heap ∧ s'.os = s1.os ∧ AllBare s'.gens) s1 := by
  have plain : ∀ {c : Addr} {o : Obj} {es : Array DictEntry} {ep : Nat}, s1.heap.get? c = some o → o.data = .dict es ep → H c = none := by
    intro c o es ep hc hd
    refine Classical.byContradiction fun z => ?_
    have hca := here c z
    subst hca
    rw [ha] at hc
    cases hc
    exact nomatch (show Data.seq vs.toArray _ = Data.dict es ep from hd)
  have nsK : ∀ {c : Addr} {m : Str → Option Value}, s1.heap.Ns c m → (hidT s1.heap H).Ns c m := by
    rintro c m ⟨o, es, ep, hc, hd, rest⟩
    exact ⟨o, es, ep, hidT_get hc (plain hc hd), hd, rest⟩
  have kin : K.In (hidT s1.heap H) := fun c o hc => hidT_get (KX c o hc) (Classical.byContradiction fun z => by
    have hca := here c z
    subst hca
    have := out z
    rw [hc] at this
    cases this)
  have hmod : Mod K mg (hidT s1.heap H) := ⟨kin, nsK g, ⟨mb, nsK b, bb⟩, by obtain ⟨mc, h1, h2⟩ := lim; exact ⟨mc, nsK h1, h2⟩⟩
  have env : Env0 P w K mg (hidT s1.heap H) callerA [] s1 H := ⟨rfl, hmod, fun _ _ e => of_hidT e, Nat.le_of_eq (hidT_size _ _), trivial, fun c z => absurd (show c ∈ ([] : List Addr) from z) List.not_mem_nil, hok, .of_eq gens⟩
  refine codeAny_mono ((F _ kin (nsK g)).run callerA [] s1 H ⟨[.ref a], []⟩ [.ref a] [.ref a] _ _ room rfl env (bind s1 (.ref a)) (.cons rfl .nil) hsp) fun res s' hres => ?_
  match res, hres with
  | .error e, hres =>
    obtain ⟨_, _, _, _, _, _, _, _, _, _, _, _, z⟩ := hres
    exact z.elim
  | .ok .next, hres => exact False.elim hres
  | .ok .brk, hres => exact False.elim hres
  | .ok .cont, hres => exact False.elim hres
  | .ok (.ret u), hres =>
    obtain ⟨v, H', os, bare, un, hok', rv, q⟩ := hres
    have q' : v = .bl true := q
    subst q'
    have hu : u = Value.bool true := rv
    subst hu
    refine ⟨rfl, OldK.of_keep fun c o hc => ?_, os, bare⟩
    rcases only c with z | ⟨ob, xs, z⟩
    · exact un.keep c o hc z (fun y => absurd (show c ∈ ([] : List Addr) from y) List.not_mem_nil) List.not_mem_nil
    · have e1 := (hok c _ z).1
      have e2 := (hok' c _ (un.frzs c ob _ z)).1
      rw [hc] at e1
      cases e1
      exact e2
theorem law_callZ (KX : K.In s1.heap) (g : s1.heap.Ns mainGlobals mg) (b : s1.heap.Ns builtinsNs mb) (bb : ∀ x : Str, x ≠ "__name__" → mb x = bootBuiltins x) (lim : s1.heap.NoLimit) (gens : s1.gens = #[])
    (ha : s1.heap.get? a = some { cls := .type "list", data := .seq vs.toArray }) (hi : IntsAre vs ns) (hl : ns.length ≤ sizeLine) (room : Room k callerA) (F : ∀ base : Heap, K.In base → base.Ns mainGlobals mg → FnZ P w K mg base k fa fd [x] sp)
    (bind : ∀ (s : Shared) (u : Value), BindsTo s fd ⟨[u], []⟩ [(x, u)]) (hsp : ∀ H : Hp, Only H → FL K H a (ns.map V.int) → sp [.ref a] H (fun v _ => v = .bl true) fun _ _ _ => False) :
    codeAny (model P w) callerA (.call (.ref fa) ⟨[.ref a], []⟩) (fun r s' => r = .ok (.ret (.bool true)) ∧ OldK s1.heap s'.heap ∧ s'.os = s1.os ∧ AllBare s'.gens) s1 := by
  have rv := vals_ints hi
  cases hk : K.lookup a with
  | some o =>
    have e := KX a o hk
    rw [ha] at e
    cases e
    have kl : KL K a (ns.map V.int) := ⟨_, vs.toArray, _, hk, rfl, rfl, rfl, by rw [List.size_toArray, hi.length]; exact hl, by simpa using rv⟩
    exact law_from (fun _ => none) (fun _ => .inl rfl) (.inr kl) (fun c u z => nomatch (show (none : Option HO) = some u from z)) (fun _ z => absurd rfl z) (fun z => absurd rfl z) KX g b bb lim gens ha room F bind (hsp _ (fun _ => .inl rfl) (.inr kl))
  | none =>
    let H : Hp := fun c => if c = a then some (.frz { cls := .type "list", data := .seq vs.toArray } (.lst (ns.map V.int))) else none
    have hat : H a = some (.frz { cls := .type "list", data := .seq vs.toArray } (.lst (ns.map V.int))) := if_pos rfl
    have hno : ∀ c, c ≠ a → H c = none := fun c z => if_neg z
    have only : Only H := fun c => by
      by_cases z : c = a
      · exact .inr ⟨_, _, if_pos z⟩
      · exact .inl (hno c z)
    refine law_from H only (.inl (.inr ⟨_, hat⟩)) (fun c u z => ?_) (fun c z => Classical.byContradiction fun y => z (hno c y)) (fun _ => hk) KX g b bb lim gens ha room F bind (hsp H only (.inl ⟨_, hat⟩))
    by_cases y : c = a
    · subst y
      rw [hat] at z
      cases z
      exact ⟨ha, by rw [List.length_map]; exact hl, vs, _, rv, ha⟩
    · rw [hno c y] at z
      cases z
end
end Z

/-! Z layer, part N: rows of defs, the head. -/
namespace Z
open PySem PySem.Spec PyProof.Rows L2

theorem lookup_zip {ps : List Str} (nd : ps.Nodup) : ∀ {us : List Value}, us.length = ps.length → ∀ n ∈ ps, ((ps.zip us).lookup n).isNone = false := by
  induction ps with
  | nil => intro us _ n hn; cases hn
  | cons p ps ih =>
    intro us hl n hn
    cases us with
    | nil => cases hl
    | cons u us =>
      rw [List.zip_cons_cons, List.lookup_cons]
      by_cases e : n = p
      · subst e; simp
      · have : (n == p) = false := by simpa using e
        rw [this]
        rcases List.mem_cons.mp hn with h | h
        · exact absurd h e
        · exact ih (List.nodup_cons.mp nd).2 (by simpa using hl) n h
theorem fm_congr {α β : Type} {f g : α → Option β} : ∀ {l : List α}, (∀ a ∈ l, f a = g a) → l.filterMap f = l.filterMap g
  | [], _ => rfl
  | a :: l, h => by
    rw [List.filterMap_cons, List.filterMap_cons, h a (by simp), fm_congr fun b hb => h b (by simp [hb])]
theorem filterMap_zip {ps : List Str} (nd : ps.Nodup) : ∀ {us : List Value}, us.length = ps.length → ps.filterMap (fun n => ((ps.zip us).lookup n).map (n, ·)) = ps.zip us := by
  induction ps with
  | nil => intro us _; rfl
  | cons p ps ih =>
    intro us hl
    cases us with
    | nil => cases hl
    | cons u us =>
      rw [List.zip_cons_cons, List.filterMap_cons, List.lookup_cons]
      simp only [beq_self_eq_true, Option.map_some]
      congr 1
      rw [← ih (List.nodup_cons.mp nd).2 (show us.length = ps.length by simpa using hl)]
      refine fm_congr fun n hn => ?_
      have : (n == p) = false := by
        have : n ≠ p := fun e => (List.nodup_cons.mp nd).1 (e ▸ hn)
        simpa using this
      rw [List.lookup_cons, this, ih (List.nodup_cons.mp nd).2 (show us.length = ps.length by simpa using hl)]
theorem bind_plain {x qual : Str} {as : List Arg} {body : List Stmt} {scope : Scope} {kV doc pm : Value} {an : Option Addr} {cdv ct : Value} {ps : List Str} (hps : as.map (·.arg) = ps) (nd : ps.Nodup) (us : List Value) (hl : us.length = ps.length) :
    bindArgs (PySem.W.fnOf x qual ⟨[], as, none, [], [], none, []⟩ body scope .none kV doc pm an cdv ct) ⟨us, []⟩ = pure (ps.zip us) := by
  have h1 := lookup_zip nd hl
  have h2 := filterMap_zip nd hl
  have h3 : ps.filter (fun n => ((ps.zip us).lookup n).isNone) = [] := List.filter_eq_nil_iff.mpr fun n hn => by rw [h1 n hn]; simp
  have h4 : ¬ us.length > ps.length := by omega
  have e1 : seqItems? Value.none = pure none := rfl
  unfold bindArgs PySem.W.fnOf
  simp only [hps, List.map_nil, List.nil_append, List.append_nil, e1, List.forIn_nil, pure_bind, Option.getD_none, List.length_nil, Nat.zero_sub, List.drop_zero, Nat.sub_zero, List.take_length, h3, h4, h2, List.isEmpty_nil, Bool.not_true, Bool.false_eq_true, ↓reduceIte, decide_false, Bool.false_and, List.drop_length, List.zip_nil_left, List.drop_nil]

/-! ### one row a def -/
def clsBodyZ : Stmt → List Stmt
  | .ClassDef _ _ _ body _ _ _ _ _ _ _ => body
  | _ => []
structure Row where
  at_ : Str × Option Str
  ps : List Str
  N : List Str
  fn : Fn
  st : Stmt
def Row.nm (r : Row) : Str := match r.at_.2 with
  | none => r.at_.1
  | some m => m
def Row.qual (r : Row) : Str := match r.at_.2 with
  | none => r.at_.1
  | some m => r.at_.1 ++ "." ++ m
def Row.gn (r : Row) : Option Str := match r.at_.2 with
  | none => some r.at_.1
  | some _ => none
def Row.dfd (r : Row) : He.DefD := ⟨r.at_, r.nm, r.qual, defArgs r.st, defBody r.st, defScope r.st, [], []⟩
abbrev CRow := Str × List Str × List (Str × Nat)
def tabOf (rows : List Row) (gl : List (Str × D)) (cls : List CRow) : Tab := ⟨rows.map fun r => (r.gn, r.ps.length), gl, cls⟩
def argsOk (p : Arguments) (ps : List Str) : Bool := match p with
  | ⟨[], as, none, [], [], none, []⟩ => decide (as.map (·.arg) = ps)
  | _ => false
def scOk (N ps : List Str) (sc : Scope) : Bool := (match sc.kind with | .function => true | _ => false) && !sc.isCoroutine && !sc.isGenerator && decide N.Nodup && decide (N.take ps.length = ps) &&
  (ps.all fun x => match sc.names.lookup x with | some .local => true | some .cell => true | _ => false) && (sc.names.all fun y => match y.2 with | .free => false | _ => true)
def rowOk (C : Tab) (r : Row) : Bool := scOk r.N r.ps (defScope r.st) && decide (r.ps.length = r.fn.np) && decide (r.N.length = r.fn.ns) && argsOk (defArgs r.st) r.ps && chkSs C r.N true (defScope r.st) r.fn.body (defBody r.st)
theorem scOk_ok {N ps : List Str} {sc : Scope} (h : scOk N ps sc = true) : FnScope N ps sc := by
  unfold scOk at h
  simp only [Bool.and_eq_true, decide_eq_true_eq, Bool.not_eq_true'] at h
  obtain ⟨⟨⟨⟨⟨⟨h1, h2⟩, h3⟩, h4⟩, h5⟩, h6⟩, h7⟩ := h
  refine ⟨?_, h2, h3, h4, h5, fun x hx => ?_, fun y hy e => ?_⟩
  · split at h1
    · assumption
    · cases h1
  · have := List.all_eq_true.mp h6 x hx
    split at this <;> first | exact .inl (by assumption) | exact .inr (by assumption) | (cases this; done)
  · have := List.all_eq_true.mp h7 y hy
    rw [e] at this
    cases this
theorem rowOk_text {C : Tab} {r : Row} (h : rowOk C r = true) : FnText C r.fn r.N r.ps (defScope r.st) (defBody r.st) ∧ argsOk (defArgs r.st) r.ps = true := by
  unfold rowOk at h
  simp only [Bool.and_eq_true, decide_eq_true_eq] at h
  obtain ⟨⟨⟨⟨h1, h2⟩, h3⟩, h4⟩, h5⟩ := h
  exact ⟨⟨scOk_ok h1, h2, h3, h5⟩, h4⟩
theorem FnScope.psnd {N ps : List Str} {sc : Scope} (S : FnScope N ps sc) : ps.Nodup := by
  rw [← S.pre]; exact S.nd.sublist (List.take_sublist _ _)
theorem row_binds {K : PySem.W.Frag} {x qual : Str} {p : Arguments} {body : List Stmt} {scope : Scope} {f : Addr} {fd : FuncData} {ps : List Str} (F : FunD K x qual p body scope [] [] f fd) (h : argsOk p ps = true) (nd : ps.Nodup) :
    Binds K fd ps [] ∧ ∀ (s : Shared) (us : List Value), us.length = ps.length → BindsTo s fd ⟨us, []⟩ (ps.zip us) := by
  unfold argsOk at h
  split at h
  · have e := of_decide_eq_true h
    exact ⟨F.bindsN fun kV doc pm an cdv ct us hl => bind_plain e nd us hl, fun s us hl => F.bindsA (fun kV doc pm an cdv ct us hl => bind_plain e nd us hl) s us hl⟩
  · cases h

/-! ### values of the module's names -/
section
variable (K : PySem.W.Frag)
mutual
def repB : D → Value → Bool
  | .non, u => (match u with | .none => true | _ => false)
  | .bl b, u => (match u with | .bool c => b == c | _ => false)
  | .int i, u => (match u with | .int j _ => decide (i = j) | _ => false)
  | .str x, u => (match u with | .str y _ => decide (x = y) | _ => false)
  | .tup ds, u => (match u with
    | .ref a => (match K.lookup a with
      | some ⟨.type c, _, .seq its _, _⟩ => decide (c = "tuple") && decide (its.size ≤ 16777216) && repsB ds its.toList
      | _ => false)
    | _ => false)
  | .lst _, _ => false
  | .fro _, _ => false
  | .loc _, _ => false
def repsB : List D → List Value → Bool
  | [], us => us.isEmpty
  | d :: ds, us => match us with
    | u :: us => repB d u && repsB ds us
    | [] => false
end
def gloB (x : Str) (d : D) : Bool := match PySem.W.nsIn K mainGlobals x with
  | some (some u) => repB K d u
  | _ => false
end
section
variable {K : PySem.W.Frag}
mutual
theorem repB_ok : ∀ {d : D} {u : Value}, repB K d u = true → ∃ v, RelV v u ∧ ∀ H r, Rep K H r d v
  | .non, u, h => by
    unfold repB at h
    split at h
    · exact ⟨.non, rfl, fun _ _ => .non⟩
    · cases h
  | .bl b, u, h => by
    unfold repB at h
    split at h
    · rename_i c
      have e : b = c := eq_of_beq h
      subst e
      exact ⟨.bl b, rfl, fun _ _ => .bl b⟩
    · cases h
  | .int i, u, h => by
    unfold repB at h
    split at h
    · have e := of_decide_eq_true h
      subst e
      exact ⟨.int i, ⟨_, rfl⟩, fun _ _ => .int i⟩
    · cases h
  | .str x, u, h => by
    unfold repB at h
    split at h
    · have e := of_decide_eq_true h
      subst e
      exact ⟨.str x, ⟨_, rfl⟩, fun _ _ => .str x⟩
    · cases h
  | .tup ds, u, h => by
    unfold repB at h
    split at h
    · rename_i a
      split at h
      · rename_i c od its n sl e
        simp only [Bool.and_eq_true, decide_eq_true_eq] at h
        obtain ⟨⟨h1, h2⟩, h3⟩ := h
        obtain ⟨vs, r1, r2⟩ := repsB_ok h3
        exact ⟨.ref a, rfl, fun H r => .tup (.inr ⟨_, its, n, e, by rw [h1], rfl, by rw [sizeLine_eq]; exact h2, r1⟩) (r2 H r)⟩
      · cases h
    · cases h
  | .lst _, u, h => by unfold repB at h; cases h
  | .fro _, u, h => by unfold repB at h; cases h
  | .loc _, u, h => by unfold repB at h; cases h
theorem repsB_ok : ∀ {ds : List D} {us : List Value}, repsB K ds us = true → ∃ vs, Vals vs us ∧ ∀ H r, Reps K H r ds vs
  | [], us, h => by
    unfold repsB at h
    cases us with
    | nil => exact ⟨[], .nil, fun _ _ => .nil⟩
    | cons _ _ => cases h
  | d :: ds, us, h => by
    unfold repsB at h
    split at h
    · rw [Bool.and_eq_true] at h
      obtain ⟨v, r1, r2⟩ := repB_ok h.1
      obtain ⟨vs, s1, s2⟩ := repsB_ok h.2
      exact ⟨v :: vs, .cons r1 s1, fun H r => .cons (r2 H r) (s2 H r)⟩
    · cases h
end
end

/-! ### the head's facts -/
def clsB (fn : List He.DefD) (K : PySem.W.Frag) (c : CRow) : Bool := (He.Fa.cls c.1).ok K && (c.2.1.all fun f => (He.Fa.noat c.1 f).ok K) &&
  (c.2.2.all fun p => (He.Fa.meth c.1 p.1).ok K && (match fn[p.2]? with | some d => decide (He.ma K (He.ga K c.1) p.1 = He.fAd K d.at_) | none => false)) &&
  (!(c.2.2.lookup ("__init__" : Str)).isSome || ((He.Fa.mkr c.1).ok K && (He.Fa.glo c.1).ok K))
def fnB (K : PySem.W.Frag) (d : He.DefD) : Bool := d.ok K && (match d.at_.2 with | none => (He.Fa.glo d.at_.1).ok K | some _ => true)
structure HdD where
  fr : List Str
  gl : List (Str × D)
  fn : List He.DefD
  cls : List CRow
def obsZ (h : HdD) (K : PySem.W.Frag) : He.AlD :=
  ((h.fr.all fun x => (He.Fa.free x).ok K) && (h.gl.all fun p => gloB K p.1 p.2) && (h.fn.all (fnB K)) && (h.cls.all (clsB h.fn K)), h.fn.map fun d => He.fnW K d.at_)
def valZ (h : HdD) : He.AlD := (true, h.fn.map He.DefD.val)
def SaysZ (h : HdD) (K : PySem.W.Frag) : Prop := obsZ h K = valZ h
def obsZG (n : Nat) (h : HdD) (g : Addr → Option Obj) : He.AlD := obsZ h (He.frG g (He.asD g n))
def hookZ (n : Nat) (h : HdD) : PySem.W.Hook where
  α := He.AlD
  obs := fun s => obsZG n h s.heap.get?
  val := fun _ => valZ h
  says := fun _ hp => ∃ K : PySem.W.Frag, K.In hp ∧ SaysZ h K
  of := fun _ _ e => ⟨_, He.frG_in, e⟩
  keeps := fun _ _ _ ⟨K, hK, c⟩ k => ⟨K, PySem.W.Frag.In.keeps hK k, c⟩
theorem obsZG_eq {n : Nat} {h : HdD} {g : Addr → Option Obj} {s : Shared} (e : ∀ a, g a = s.heap.get? a) : obsZG n h g = (hookZ n h).obs s := by
  rw [show g = s.heap.get? from funext e]; rfl
def hdOf (fr : List Str) (gl : List (Str × D)) (rows : List Row) (cls : List CRow) : HdD := ⟨fr, gl, rows.map Row.dfd, cls⟩
/-- methods are defs of the table -/
def mtB (n : Nat) (cls : List CRow) : Bool := cls.all fun c => c.2.2.all fun p => decide (p.2 < n)
theorem lookup_mem {α : Type} {k : Str} {a : α} : ∀ {l : List (Str × α)}, l.lookup k = some a → (k, a) ∈ l
  | [], h => by cases h
  | p :: l, h => by
    rw [List.lookup_cons] at h
    cases e : (k == p.1) with
    | true =>
      simp only [e] at h
      cases h
      have : k = p.1 := eq_of_beq e
      rw [this]; exact List.mem_cons_self
    | false =>
      simp only [e] at h
      exact List.mem_cons_of_mem _ (lookup_mem h)

/-- THE END: what is left of a law is a statement about run -/
theorem walk_ofZ {l : PySem.W.OpenLaw} {n k : Nat} {q : Program} {loose : List Str} {XP : (Str → Option Value) → Heap → Prop} {YP : World → Heap → Prop} {d : DefRec} {x : Str} {fr : List Str} {gl : List (Str × D)} {rows : List Row} {cls : List CRow} {i : Nat} {row : Row}
    (hn : l.most = some n) (hn2 : n ≤ sizeLine) (hdf : d.params.defaults = []) (room : Room (2 * k) callerA) (hY : ∀ w h, YP w h → ∃ K : PySem.W.Frag, K.In h ∧ SaysZ (hdOf fr gl rows cls) K)
    (hfr : (bltN.all fun x => fr.contains (Str.ofString x)) = true) (hmt : mtB rows.length cls = true) (hi : rows[i]? = some row) (hname : row.at_ = (d.name, none)) (hps : row.ps = [x]) (hrows : (rows.all (rowOk (tabOf rows gl cls))) = true)
    (math : ∀ ns : List Int, ns.length ≤ n → ∃ wf S', run (rows.map Row.fn) (tabOf rows gl cls).G wf k i [.fro (ns.map .int)] [] = .ok (.bl true) S') :
    PySem.W.WalkO q loose XP YP l.row.toRowW d [] (fun f vs => PySem.call f vs) := by
  refine Att.attach_call hn hdf fun w s₀ s₁ mg mb fa0 o pm cd doc a vs ns G Y ho hd hcd hmg hobj hints hlen hg => ?_
  obtain ⟨K, KX, says⟩ := hY w _ Y
  have c1 : ((fr.all fun x => (He.Fa.free x).ok K) && (gl.all fun p => gloB K p.1 p.2) && ((rows.map Row.dfd).all (fnB K)) && (cls.all (clsB (rows.map Row.dfd) K))) = true := congrArg (fun z : He.AlD => z.1) says
  have c2 : (rows.map Row.dfd).map (fun d => He.fnW K d.at_) = (rows.map Row.dfd).map He.DefD.val := congrArg (fun z : He.AlD => z.2) says
  simp only [Bool.and_eq_true] at c1
  obtain ⟨⟨⟨f1, f2⟩, f3⟩, f4⟩ := c1
  let C : Tab := tabOf rows gl cls
  let fa : Nat → Addr := fun j => match rows[j]? with
    | some r => He.fAd K r.at_
    | none => 0
  let ca : Nat → Addr := fun c => match cls[c]? with
    | some r => He.ga K r.1
    | none => 0
  have faE : ∀ {j : Nat} {r : Row}, rows[j]? = some r → fa j = He.fAd K r.at_ := fun e => by simp only [fa, e]
  have caE : ∀ {c : Nat} {r : CRow}, cls[c]? = some r → ca c = He.ga K r.1 := fun e => by simp only [ca, e]
  have clsF : ∀ {c : Nat} {r : CRow}, cls[c]? = some r → clsB (rows.map Row.dfd) K r = true := fun e => List.all_eq_true.mp f4 _ (List.mem_of_getElem? e)
  have funs : ∀ (j : Nat) (r : Row), rows[j]? = some r → FnText C r.fn r.N r.ps (defScope r.st) (defBody r.st) ∧ argsOk (defArgs r.st) r.ps = true ∧ (∀ y, r.gn = some y → mg y = some (.ref (fa j))) ∧ ∃ fd, FunD K r.nm r.qual (defArgs r.st) (defBody r.st) (defScope r.st) [] [] (fa j) fd := by
    intro j r hj
    have hm : r ∈ rows := List.mem_of_getElem? hj
    obtain ⟨tx, ha⟩ := rowOk_text (List.all_eq_true.mp hrows r hm)
    have h3 := List.all_eq_true.mp f3 r.dfd (List.mem_map_of_mem hm)
    unfold fnB at h3
    rw [Bool.and_eq_true] at h3
    have e2 : ((rows.map Row.dfd).map fun d => He.fnW K d.at_)[j]? = ((rows.map Row.dfd).map He.DefD.val)[j]? := by rw [c2]
    simp only [List.getElem?_map, hj, Option.map_some] at e2
    obtain ⟨fd, F⟩ := He.DefD.funD (d := r.dfd) (Option.some.inj e2) h3.1
    refine ⟨tx, ha, fun y hy => ?_, fd, by rw [faE hj]; exact F⟩
    unfold Row.gn at hy
    have h4 := h3.2
    split at hy
    · rename_i e0
      cases hy
      have e1 : r.dfd.at_.2 = none := e0
      rw [e1] at h4
      have := He.glo_ok KX G.T.g h4
      rw [faE hj]
      have e3 : He.fAd K r.at_ = He.ga K r.at_.1 := by
        obtain ⟨⟨x1, x2⟩, _, _, _, _⟩ := r
        simp only at e0
        subst e0
        rfl
      rw [e3]
      exact this
    · cases hy
  have M : ModOk K mg C ca fa := by
    refine ⟨fun y hy => ?_, fun j z dd e => ?_, fun f z m e => ?_, ⟨fun c f h => ?_, fun c m j h => ?_⟩, fun c m j h => ?_, fun c z fs ms j e h => ?_⟩
    · have h1 := List.all_eq_true.mp hfr y hy
      exact He.free_ok KX G.T.g (List.all_eq_true.mp f1 _ (List.contains_iff_mem.mp h1))
    · have h1 := List.all_eq_true.mp f2 (z, dd) (List.mem_of_getElem? e)
      unfold gloB at h1
      split at h1
      · rename_i u eu
        obtain ⟨v, r1, r2⟩ := repB_ok h1
        exact ⟨u, v, PySem.W.mg_of KX G.T.g eu, r1, r2⟩
      · cases h1
    · have e' : (rows.map fun r => (r.gn, r.ps.length))[f]? = some (some z, m) := e
      rw [List.getElem?_map, Option.map_eq_some_iff] at e'
      obtain ⟨r, hr, e'⟩ := e'
      have e1 : r.gn = some z := congrArg Prod.fst e'
      obtain ⟨tx, ha, g, fd, F⟩ := funs f r hr
      exact ⟨g z e1, F.kp⟩
    · unfold Ev.fld at h
      have e' : ((cls.map (·.2.1)).getD c []).contains f = true := h
      rw [List.getD_eq_getElem?_getD, List.getElem?_map] at e'
      cases e : cls[c]? with
      | none => rw [e] at e'; cases e'
      | some r =>
        rw [e] at e'
        have h4 := clsF e
        unfold clsB at h4
        simp only [Bool.and_eq_true] at h4
        rw [caE e]
        exact ⟨He.cls_ok h4.1.1.1, He.noat_ok (List.all_eq_true.mp h4.1.1.2 f (List.contains_iff_mem.mp e'))⟩
    · unfold Ev.mth at h
      have e' : ((cls.map (·.2.2)).getD c []).lookup m = some j := h
      rw [List.getD_eq_getElem?_getD, List.getElem?_map] at e'
      cases e : cls[c]? with
      | none => rw [e] at e'; cases e'
      | some r =>
        rw [e] at e'
        have h4 := clsF e
        unfold clsB at h4
        simp only [Bool.and_eq_true] at h4
        have h5 := List.all_eq_true.mp h4.1.2 (m, j) (lookup_mem e')
        rw [Bool.and_eq_true] at h5
        refine ⟨by rw [caE e]; exact He.cls_ok h4.1.1.1, ?_⟩
        have h6 := h5.2
        simp only [List.getElem?_map] at h6
        cases e2 : rows[j]? with
        | none => rw [e2] at h6; cases h6
        | some r2 =>
          rw [e2] at h6
          have e3 : He.ma K (He.ga K r.1) m = He.fAd K r2.at_ := of_decide_eq_true h6
          rw [caE e, faE e2, ← e3]
          exact He.meth_ok h5.1
    · unfold Ev.mth at h
      have e' : ((cls.map (·.2.2)).getD c []).lookup m = some j := h
      rw [List.getD_eq_getElem?_getD, List.getElem?_map] at e'
      cases e : cls[c]? with
      | none => rw [e] at e'; cases e'
      | some r =>
        rw [e] at e'
        have h5 := List.all_eq_true.mp (List.all_eq_true.mp hmt r (List.mem_of_getElem? e)) (m, j) (lookup_mem e')
        have hj : j < rows.length := of_decide_eq_true h5
        refine ⟨rows[j].ps.length, ?_⟩
        show ((rows.map fun r => (r.gn, r.ps.length))[j]?).map (·.2) = _
        rw [List.getElem?_map, List.getElem?_eq_getElem hj]; rfl
    · have e' : cls[c]? = some (z, fs, ms) := e
      have h4 := clsF e'
      unfold clsB at h4
      simp only [Bool.and_eq_true] at h4
      have h5 := h4.2
      simp only [h, Option.isSome_some, Bool.not_true, Bool.false_or, Bool.and_eq_true] at h5
      refine ⟨by rw [caE e']; exact He.glo_ok KX G.T.g h5.2, ?_⟩
      have h6 := (List.all_eq_true.mp h4.1.2 (("__init__" : Str), j) (lookup_mem h))
      rw [Bool.and_eq_true] at h6
      have h7 := h6.2
      simp only [List.getElem?_map] at h7
      cases e2 : rows[j]? with
      | none => rw [e2] at h7; cases h7
      | some r2 =>
        rw [e2] at h7
        have e3 : He.ma K (He.ga K z) "__init__" = He.fAd K r2.at_ := of_decide_eq_true h7
        rw [caE e', faE e2, ← e3]
        exact He.mkr_ok h5.1
  have arE : ∀ {j m : Nat}, C.ar j = some m → ∃ r, rows[j]? = some r ∧ r.ps.length = m := by
    intro j m e
    have e' : ((rows.map fun r => (r.gn, r.ps.length))[j]?).map (·.2) = some m := e
    rw [List.getElem?_map] at e'
    cases e2 : rows[j]? with
    | none => rw [e2] at e'; cases e'
    | some r => rw [e2] at e'; exact ⟨r, rfl, Option.some.inj e'⟩
  have tb : TabOk C (rows.map Row.fn) := by
    refine ⟨by simp [C, tabOf], fun j m fn e1 e2 => ?_⟩
    obtain ⟨r, hr, hp⟩ := arE e1
    rw [List.getElem?_map, hr] at e2
    cases e2
    rw [← (funs j r hr).1.np]; exact hp
  have defs : ∀ (f m : Nat) (fn : Fn), C.ar f = some m → (rows.map Row.fn)[f]? = some fn → ∃ (fd : FuncData) (ps : List Str), DefOk K C fn (fa f) fd ps ∧ ps.length = m := by
    intro f m fn e1 e2
    obtain ⟨r, hr, hp⟩ := arE e1
    rw [List.getElem?_map, hr] at e2
    cases e2
    obtain ⟨tx, ha, _, fd, F⟩ := funs f r hr
    exact ⟨fd, r.ps, ⟨(row_binds F ha (FnScope.psnd tx.scope)).1, r.N, r.nm, r.qual, _, _, _, tx, F⟩, hp⟩
  obtain ⟨tx, ha, hg2, fd0, F0⟩ := funs i row hi
  have hgn : row.gn = some d.name := by unfold Row.gn; rw [hname]
  have efa : fa i = fa0 := by
    have := hg2 d.name hgn
    rw [this] at hmg
    injection hmg with e
    injection e
  -- the function object at the law's own address, fixed ahead of the base
  have hF : ∀ base : Heap, K.In base → base.Ns mainGlobals mg → FnZ l.prog w K mg base (2 * k) fa0 fd0 [x] (fun vs H Q E => ∃ wf, spOf K ca 1 (run (rows.map Row.fn) C.G wf k i) vs H Q E) := by
    intro base _ _
    have one : ∀ wf, FnZ l.prog w K mg base (2 * k) fa0 fd0 [x] (spOf K ca 1 (run (rows.map Row.fn) C.G wf k i)) := by
      intro wf
      cases k with
      | zero => exact ⟨fun vs H Q E h => by rw [h.1]; rfl, fun A outer s H args us vs Q E _ _ _ _ _ h => by obtain ⟨_, _, _, _, _, _, z⟩ := h; exact z.elim⟩
      | succ k =>
        have hfn := fn_ok (P := l.prog) (w := w) (base := base) (ca := ca) (fa := fa) (wf := wf) (T := rows.map Row.fn) (i := i) (fn := row.fn) (k := k) tb M ⟨(row_binds F0 ha (FnScope.psnd tx.scope)).1, row.N, row.nm, row.qual, _, _, _, tx, F0⟩ (by rw [List.getElem?_map, hi]; rfl) (all_ok tb M defs k)
        rw [← tx.np, hps, efa] at hfn
        exact hfn
    exact ⟨fun vs H Q E ⟨wf, h⟩ => (one wf).len vs H Q E h, fun A outer s H args us vs Q E r g e b v ⟨wf, h⟩ => (one wf).run A outer s H args us vs Q E r g e b v h⟩
  refine law_callZ KX G.T.g G.T.b G.T.builtins G.T.nolimit hg hobj hints (Nat.le_trans hlen hn2) room hF (fun s u => ?_) fun H _ hFL => ?_
  · have := (row_binds F0 ha (FnScope.psnd tx.scope)).2 s [u] (by rw [hps]; rfl)
    rw [hps] at this
    exact this
  · obtain ⟨wf, S', e⟩ := math ns hlen
    refine ⟨wf, rfl, [.fro (ns.map .int)], ⟨[], []⟩, [], .cons (.fro hFL ?_) .nil, ⟨rfl, List.nodup_nil, fun n o h => by simp at h, fun a ha => by simp at ha⟩, ?_⟩
    · clear e hFL hlen hints
      induction ns with
      | nil => exact .nil
      | cons m ms ih => exact .cons (.int m) ih
    · have e' : run (rows.map Row.fn) C.G wf k i [.fro (ns.map .int)] [] = .ok (.bl true) S' := e
      rw [e']
      intro v H' r' _ _ hv
      cases hv
      rfl
end Z

/-! Z layer, part P: how a run is read; deck and draw; loops. -/
namespace Z
open PySem PySem.Spec PyProof.Rows L2

theorem run_succ {T : List Fn} {G : Ev} {wf k f : Nat} {args : List D} {S : Sto} {fn : Fn} (h : T[f]? = some fn) (hl : args.length = fn.np) :
    run T G wf (k + 1) f args S = fnEnd (dSs G (run T G wf k) wf fn.body (slots0 fn.ns args) S) := by
  rw [run, h]; simp only [hl, ↓reduceIte]
theorem then_nx {a b : MS} {sd sd1 : Sl} {S S1 : Sto} (h : a sd S = .ok .nx sd1 S1) : mThen a b sd S = b sd1 S1 := by
  unfold mThen; rw [h]
theorem then_rt {a b : MS} {sd sd1 : Sl} {S S1 : Sto} {d : D} (h : a sd S = .ok (.rt d) sd1 S1) : mThen a b sd S = .ok (.rt d) sd1 S1 := by
  unfold mThen; rw [h]
@[simp] theorem q_ev {G : Ev} {C : Nat → List D → Sto → Out D} {i : Nat} : dE G C (.v i) = mVar i := rfl
@[simp] theorem q_ec {G : Ev} {C : Nat → List D → Sto → Out D} {d : D} : dE G C (.c d) = mC d := rfl
@[simp] theorem q_eg {G : Ev} {C : Nat → List D → Sto → Out D} {j : Nat} : dE G C (.g j) = mG G j := rfl
@[simp] theorem q_eop {G : Ev} {C : Nat → List D → Sto → Out D} {o : Operator} {a b : E} : dE G C (.op o a b) = mBin (opF o) (dE G C a) (dE G C b) := rfl
@[simp] theorem q_eneg {G : Ev} {C : Nat → List D → Sto → Out D} {a : E} : dE G C (.neg a) = mNeg (dE G C a) := rfl
@[simp] theorem q_ecmp {G : Ev} {C : Nat → List D → Sto → Out D} {o : CmpOp} {a b : E} : dE G C (.cmp o a b) = mBin (cmpF o) (dE G C a) (dE G C b) := rfl
@[simp] theorem q_ech {G : Ev} {C : Nat → List D → Sto → Out D} {o o' : CmpOp} {a b c : E} : dE G C (.ch o o' a b c) = mChain (cmpF o) (cmpF o') (dE G C a) (dE G C b) (dE G C c) := rfl
@[simp] theorem q_ebo {G : Ev} {C : Nat → List D → Sto → Out D} {o : BoolOp} {es : Es} : dE G C (.bo o es) = dB G C o es := rfl
@[simp] theorem q_enot {G : Ev} {C : Nat → List D → Sto → Out D} {a : E} : dE G C (.not a) = mNot (dE G C a) := rfl
@[simp] theorem q_eifx {G : Ev} {C : Nat → List D → Sto → Out D} {t : Tt} {a b : E} : dE G C (.ifx t a b) = mIf (dT G C t) (dE G C a) (dE G C b) := rfl
@[simp] theorem q_etup {G : Ev} {C : Nat → List D → Sto → Out D} {es : Es} : dE G C (.tup es) = mTup (dL G C es) := rfl
@[simp] theorem q_elstT {G : Ev} {C : Nat → List D → Sto → Out D} {es : Es} : dE G C (.lst true es) = mLstM (dL G C es) := rfl
@[simp] theorem q_elstF {G : Ev} {C : Nat → List D → Sto → Out D} {es : Es} : dE G C (.lst false es) = mLst (dL G C es) := rfl
@[simp] theorem q_eix {G : Ev} {C : Nat → List D → Sto → Out D} {a b : E} : dE G C (.ix a b) = mBin ixP (dE G C a) (dE G C b) := rfl
@[simp] theorem q_esl {G : Ev} {C : Nat → List D → Sto → Out D} {a : E} {lo hi : Oe} : dE G C (.sl a lo hi) = mSl (dE G C a) (dO G C lo) (dO G C hi) := rfl
@[simp] theorem q_ecall {G : Ev} {C : Nat → List D → Sto → Out D} {f : Nat} {es : Es} : dE G C (.call f es) = mFn (C f) (dL G C es) := rfl
@[simp] theorem q_ebf {G : Ev} {C : Nat → List D → Sto → Out D} {f : Bf} {es : Es} : dE G C (.bf f es) = mCall (bfF f) (dL G C es) := rfl
@[simp] theorem q_eisi {G : Ev} {C : Nat → List D → Sto → Out D} {a : E} {t : Ty} : dE G C (.isi a t) = mIsi (dE G C a) t := rfl
@[simp] theorem q_eisiT {G : Ev} {C : Nat → List D → Sto → Out D} {a : E} {t t' : Ty} : dE G C (.isiT a t t') = mIsiT (dE G C a) t t' := rfl
@[simp] theorem q_edicE {G : Ev} {C : Nat → List D → Sto → Out D}  : dE G C (.dicE) = mDicE := rfl
@[simp] theorem q_eapp {G : Ev} {C : Nat → List D → Sto → Out D} {o : E} {es : Es} : dE G C (.app o es) = mApp (dE G C o) (dL G C es) := rfl
@[simp] theorem q_eext {G : Ev} {C : Nat → List D → Sto → Out D} {o : E} {es : Es} : dE G C (.ext o es) = mExt (dE G C o) (dL G C es) := rfl
@[simp] theorem q_efld {G : Ev} {C : Nat → List D → Sto → Out D} {o : E} {f : Str} : dE G C (.fld o f) = mFld G (dE G C o) f := rfl
@[simp] theorem q_emth {G : Ev} {C : Nat → List D → Sto → Out D} {o : E} {m : Str} {es : Es} : dE G C (.mth o m es) = mMth G C (dE G C o) m (dL G C es) := rfl
@[simp] theorem q_emk {G : Ev} {C : Nat → List D → Sto → Out D} {c : Nat} {es : Es} : dE G C (.mk c es) = mMk G C c (dL G C es) := rfl
@[simp] theorem q_eopM {G : Ev} {C : Nat → List D → Sto → Out D} {o : Operator} {a b : E} : dE G C (.opM o a b) = mOwn (ownF o) (dE G C a) (dE G C b) := rfl
@[simp] theorem q_elstC {G : Ev} {C : Nat → List D → Sto → Out D} {a : E} : dE G C (.lstC a) = mLstC (dE G C a) := rfl
@[simp] theorem q_esm {G : Ev} {C : Nat → List D → Sto → Out D} {m : Sm} {a b : E} : dE G C (.sm m a b) = mSm m (dE G C a) (dE G C b) := rfl
@[simp] theorem q_edsel {G : Ev} {C : Nat → List D → Sto → Out D} {ks : List Str} {es : Es} {k : E} : dE G C (.dsel ks es k) = mDsel ks (dL G C es) (dE G C k) := rfl
@[simp] theorem q_efmt {G : Ev} {C : Nat → List D → Sto → Out D} {a : E} : dE G C (.fmt a) = mFmt (dE G C a) := rfl
@[simp] theorem q_efs {G : Ev} {C : Nat → List D → Sto → Out D} {es : Es} : dE G C (.fs es) = dF G C es Str.empty := rfl
@[simp] theorem q_elcT {G : Ev} {C : Nat → List D → Sto → Out D} {t : Tg} {it : It} {c : Ot} {e : E} {own : List (Str × Nat)} : dE G C (.lc true t it c e own) = mLcM (dI G C it) (dG G C t) (own.map (·.2)) (dC G C c) (dE G C e) := rfl
@[simp] theorem q_elcF {G : Ev} {C : Nat → List D → Sto → Out D} {t : Tg} {it : It} {c : Ot} {e : E} {own : List (Str × Nat)} : dE G C (.lc false t it c e own) = mLc (dI G C it) (dG G C t) (own.map (·.2)) (dC G C c) (dE G C e) := rfl
@[simp] theorem q_lnil {G : Ev} {C : Nat → List D → Sto → Out D} : dL G C .nil = mNil := rfl
@[simp] theorem q_lcons {G : Ev} {C : Nat → List D → Sto → Out D} {e : E} {es : Es} : dL G C (.cons e es) = mCons (dE G C e) (dL G C es) := rfl
@[simp] theorem q_fnil {G : Ev} {C : Nat → List D → Sto → Out D} : dF G C .nil = fun acc => mC (.str acc) := rfl
@[simp] theorem q_fcons {G : Ev} {C : Nat → List D → Sto → Out D} {e : E} {es : Es} : dF G C (.cons e es) = mFc (dE G C e) (dF G C es) := rfl
@[simp] theorem q_b1 {G : Ev} {C : Nat → List D → Sto → Out D} {o : BoolOp} {e : E} : dB G C o (.cons e .nil) = dE G C e := rfl
@[simp] theorem q_bA {G : Ev} {C : Nat → List D → Sto → Out D} {e e2 : E} {es : Es} : dB G C .And (.cons e (.cons e2 es)) = mAnd (dE G C e) (dB G C .And (.cons e2 es)) := rfl
@[simp] theorem q_bO {G : Ev} {C : Nat → List D → Sto → Out D} {e e2 : E} {es : Es} : dB G C .Or (.cons e (.cons e2 es)) = mOr (dE G C e) (dB G C .Or (.cons e2 es)) := rfl
@[simp] theorem q_oN {G : Ev} {C : Nat → List D → Sto → Out D} : dO G C .none = mNo := rfl
@[simp] theorem q_oS {G : Ev} {C : Nat → List D → Sto → Out D} {e : E} : dO G C (.some e) = mPart (dE G C e) := rfl
@[simp] theorem q_tbo {G : Ev} {C : Nat → List D → Sto → Out D} {o : BoolOp} {ts : Tts} : dT G C (.bo o ts) = dTB G C o ts := rfl
@[simp] theorem q_tnot {G : Ev} {C : Nat → List D → Sto → Out D} {a : Tt} : dT G C (.not a) = mNotT (dT G C a) := rfl
@[simp] theorem q_tcmp {G : Ev} {C : Nat → List D → Sto → Out D} {o : CmpOp} {a b : E} : dT G C (.cmp o a b) = mBl (mBin (cmpF o) (dE G C a) (dE G C b)) := rfl
@[simp] theorem q_tch {G : Ev} {C : Nat → List D → Sto → Out D} {o o' : CmpOp} {a b c : E} : dT G C (.ch o o' a b c) = mBl (mChain (cmpF o) (cmpF o') (dE G C a) (dE G C b) (dE G C c)) := rfl
@[simp] theorem q_ttru {G : Ev} {C : Nat → List D → Sto → Out D} {e : E} : dT G C (.tru e) = mTru (dE G C e) := rfl
@[simp] theorem q_tb1 {G : Ev} {C : Nat → List D → Sto → Out D} {o : BoolOp} {e : Tt} : dTB G C o (.cons e .nil) = dT G C e := rfl
@[simp] theorem q_tbA {G : Ev} {C : Nat → List D → Sto → Out D} {e e2 : Tt} {es : Tts} : dTB G C .And (.cons e (.cons e2 es)) = mAndT (dT G C e) (dTB G C .And (.cons e2 es)) := rfl
@[simp] theorem q_tbO {G : Ev} {C : Nat → List D → Sto → Out D} {e e2 : Tt} {es : Tts} : dTB G C .Or (.cons e (.cons e2 es)) = mOrT (dT G C e) (dTB G C .Or (.cons e2 es)) := rfl
@[simp] theorem q_cN {G : Ev} {C : Nat → List D → Sto → Out D} : dC G C .none = mYes := rfl
@[simp] theorem q_cS {G : Ev} {C : Nat → List D → Sto → Out D} {t : Tt} : dC G C (.some t) = dT G C t := rfl
@[simp] theorem q_gnm {G : Ev} {C : Nat → List D → Sto → Out D} {i : Nat} : dG G C (.nm i) = gNm i := rfl
@[simp] theorem q_gtup {G : Ev} {C : Nat → List D → Sto → Out D} {ts : Tgs} : dG G C (.tup ts) = gTp (tgsLen ts) (dGs G C ts) := rfl
@[simp] theorem q_gsub {G : Ev} {C : Nat → List D → Sto → Out D} {o i : E} : dG G C (.sub o i) = gSubM (dE G C o) (dE G C i) := rfl
@[simp] theorem q_gsn {G : Ev} {C : Nat → List D → Sto → Out D} : dGs G C .nil = gsNil := rfl
@[simp] theorem q_gsc {G : Ev} {C : Nat → List D → Sto → Out D} {t : Tg} {ts : Tgs} : dGs G C (.cons t ts) = gsCons (dG G C t) (dGs G C ts) := rfl
@[simp] theorem q_tl0  : tgsLen .nil = 0 := rfl
@[simp] theorem q_tl1 {t : Tg} {ts : Tgs} : tgsLen (.cons t ts) = tgsLen ts + 1 := rfl
@[simp] theorem q_iseq {G : Ev} {C : Nat → List D → Sto → Out D} {e : E} : dI G C (.seq e) = mSeq (dE G C e) := rfl
@[simp] theorem q_ir1 {G : Ev} {C : Nat → List D → Sto → Out D} {a : Es} : dI G C (.rng1 a) = mRng rng1 (dL G C a) := rfl
@[simp] theorem q_ir2 {G : Ev} {C : Nat → List D → Sto → Out D} {a : Es} : dI G C (.rng2 a) = mRng rng2 (dL G C a) := rfl
@[simp] theorem q_izip {G : Ev} {C : Nat → List D → Sto → Out D} {a : Es} : dI G C (.zip a) = mZip (dL G C a) := rfl
@[simp] theorem q_ienum {G : Ev} {C : Nat → List D → Sto → Out D} {a : Es} : dI G C (.enum a) = mEnum (dL G C a) := rfl
@[simp] theorem q_sex {G : Ev} {C : Nat → List D → Sto → Out D} {wf : Nat} {e : E} : dS G C wf (.ex e) = mExpr (dE G C e) := rfl
@[simp] theorem q_sdoc {G : Ev} {C : Nat → List D → Sto → Out D} {wf : Nat}  : dS G C wf (.doc) = mSkip := rfl
@[simp] theorem q_spass {G : Ev} {C : Nat → List D → Sto → Out D} {wf : Nat}  : dS G C wf (.pass) = mSkip := rfl
@[simp] theorem q_sbrk {G : Ev} {C : Nat → List D → Sto → Out D} {wf : Nat}  : dS G C wf (.brk) = mBrk := rfl
@[simp] theorem q_scnt {G : Ev} {C : Nat → List D → Sto → Out D} {wf : Nat}  : dS G C wf (.cnt) = mCnt := rfl
@[simp] theorem q_sret {G : Ev} {C : Nat → List D → Sto → Out D} {wf : Nat} {e : E} : dS G C wf (.ret e) = mRet (dE G C e) := rfl
@[simp] theorem q_sretN {G : Ev} {C : Nat → List D → Sto → Out D} {wf : Nat}  : dS G C wf (.retN) = mRetN := rfl
@[simp] theorem q_sasg {G : Ev} {C : Nat → List D → Sto → Out D} {wf : Nat} {t : Tg} {e : E} : dS G C wf (.asg t e) = mAsg (dE G C e) (dG G C t) := rfl
@[simp] theorem q_saug {G : Ev} {C : Nat → List D → Sto → Out D} {wf : Nat} {i : Nat} {o : Operator} {e : E} : dS G C wf (.aug i o e) = mAug i (iopF o) (dE G C e) := rfl
@[simp] theorem q_spar {G : Ev} {C : Nat → List D → Sto → Out D} {wf : Nat} {is : List Nat} {es : Es} : dS G C wf (.par is es) = mPar is (dL G C es) := rfl
@[simp] theorem q_site {G : Ev} {C : Nat → List D → Sto → Out D} {wf : Nat} {c : Tt} {a b : Ss} : dS G C wf (.ite c a b) = mIte (dT G C c) (dSs G C wf a) (dSs G C wf b) := rfl
@[simp] theorem q_sfor {G : Ev} {C : Nat → List D → Sto → Out D} {wf : Nat} {t : Tg} {it : It} {b : Ss} : dS G C wf (.for_ t it b) = mFor (dI G C it) (dG G C t) (dSs G C wf b) := rfl
@[simp] theorem q_swhl {G : Ev} {C : Nat → List D → Sto → Out D} {wf : Nat} {c : Tt} {b : Ss} : dS G C wf (.whl c b) = whGo (dT G C c) (dSs G C wf b) wf := rfl
@[simp] theorem q_ssetf {G : Ev} {C : Nat → List D → Sto → Out D} {wf : Nat} {o : E} {f : Str} {e : E} : dS G C wf (.setf o f e) = mSetF G (dE G C o) (dE G C e) f := rfl
@[simp] theorem q_saugS {G : Ev} {C : Nat → List D → Sto → Out D} {wf : Nat} {o i : E} {p : Operator} {e : E} : dS G C wf (.augS o i p e) = mAugS (dE G C o) (dE G C i) (iopF p) (dE G C e) := rfl
@[simp] theorem q_snil {G : Ev} {C : Nat → List D → Sto → Out D} {wf : Nat} : dSs G C wf .nil = mSkip := rfl
@[simp] theorem q_scons {G : Ev} {C : Nat → List D → Sto → Out D} {wf : Nat} {s : S1} {ss : Ss} : dSs G C wf (.cons s ss) = mThen (dS G C wf s) (dSs G C wf ss) := rfl
@[simp] theorem q_mC {d : D} {sd : Sl} {S : Sto} : mC d sd S = .ok d S := by kernel_rfl
@[simp] theorem q_mG {G : Ev} {j : Nat} {sd : Sl} {S : Sto} : mG G j sd S = lift G.g[j]? S := by kernel_rfl
@[simp] theorem q_mBin {a b : M D} {f : Sto → D → D → Option D} {sd : Sl} {S : Sto} : mBin f a b sd S = (match a sd S with | .ok x S1 => (match b sd S1 with | .ok y S2 => lift (f S2 x y) S2 | .exc c fs S0 => .exc c fs S0 | .bad => .bad) | .exc c fs S0 => .exc c fs S0 | .bad => .bad) := by kernel_rfl
@[simp] theorem q_mBl {a : M D}  {sd : Sl} {S : Sto} : mBl a sd S = (match a sd S with | .ok x S1 => toB x S1 | .exc c fs S0 => .exc c fs S0 | .bad => .bad) := by kernel_rfl
@[simp] theorem q_mTru {a : M D}  {sd : Sl} {S : Sto} : mTru a sd S = (match a sd S with | .ok x S1 => lift (truP S1 x) S1 | .exc c fs S0 => .exc c fs S0 | .bad => .bad) := by kernel_rfl
@[simp] theorem q_mNotT {ta : M Bool}  {sd : Sl} {S : Sto} : mNotT ta sd S = (match ta sd S with | .ok k S1 => .ok (!k) S1 | .exc c fs S0 => .exc c fs S0 | .bad => .bad) := by kernel_rfl
@[simp] theorem q_mAndT {ta tb : M Bool}  {sd : Sl} {S : Sto} : mAndT ta tb sd S = (match ta sd S with | .ok k S1 => if k then tb sd S1 else .ok false S1 | .exc c fs S0 => .exc c fs S0 | .bad => .bad) := by kernel_rfl
@[simp] theorem q_mOrT {ta tb : M Bool}  {sd : Sl} {S : Sto} : mOrT ta tb sd S = (match ta sd S with | .ok k S1 => if k then .ok true S1 else tb sd S1 | .exc c fs S0 => .exc c fs S0 | .bad => .bad) := by kernel_rfl
@[simp] theorem q_mNot {a : M D}  {sd : Sl} {S : Sto} : mNot a sd S = (match a sd S with | .ok x S1 => (match x with | .bl k => .ok (.bl (!k)) S1 | _ => .bad) | .exc c fs S0 => .exc c fs S0 | .bad => .bad) := by kernel_rfl
@[simp] theorem q_mAnd {a b : M D}  {sd : Sl} {S : Sto} : mAnd a b sd S = (match a sd S with | .ok x S1 => (match x with | .bl true => b sd S1 | .bl false => .ok (.bl false) S1 | _ => .bad) | .exc c fs S0 => .exc c fs S0 | .bad => .bad) := by kernel_rfl
@[simp] theorem q_mOr {a b : M D}  {sd : Sl} {S : Sto} : mOr a b sd S = (match a sd S with | .ok x S1 => (match x with | .bl true => .ok (.bl true) S1 | .bl false => b sd S1 | _ => .bad) | .exc c fs S0 => .exc c fs S0 | .bad => .bad) := by kernel_rfl
@[simp] theorem q_mIf {a b : M D} {ta : M Bool}  {sd : Sl} {S : Sto} : mIf ta a b sd S = (match ta sd S with | .ok k S1 => if k then a sd S1 else b sd S1 | .exc c fs S0 => .exc c fs S0 | .bad => .bad) := by kernel_rfl
@[simp] theorem q_mChain {a b c : M D} {f g : Sto → D → D → Option D} {sd : Sl} {S : Sto} : mChain f g a b c sd S = (match a sd S with | .ok x S1 => (match b sd S1 with | .ok y S2 => (match lift (f S2 x y) S2 with | .ok z S3 => (match z with | .bl true => (match c sd S3 with | .ok w S4 => lift (g S4 y w) S4 | .exc c fs S0 => .exc c fs S0 | .bad => .bad) | .bl false => .ok (.bl false) S3 | _ => .bad) | .exc c fs S0 => .exc c fs S0 | .bad => .bad) | .exc c fs S0 => .exc c fs S0 | .bad => .bad) | .exc c fs S0 => .exc c fs S0 | .bad => .bad) := by kernel_rfl
@[simp] theorem q_mNil  {sd : Sl} {S : Sto} : mNil sd S = .ok [] S := by kernel_rfl
@[simp] theorem q_mCons {a : M D} {la : M (List D)}  {sd : Sl} {S : Sto} : mCons a la sd S = (match a sd S with | .ok x S1 => (match la sd S1 with | .ok xs S2 => .ok (x :: xs) S2 | .exc c fs S0 => .exc c fs S0 | .bad => .bad) | .exc c fs S0 => .exc c fs S0 | .bad => .bad) := by kernel_rfl
@[simp] theorem q_mTup {la : M (List D)}  {sd : Sl} {S : Sto} : mTup la sd S = (match la sd S with | .ok xs S1 => if xs.length ≤ 16777216 then .ok (.tup xs) S1 else .bad | .exc c fs S0 => .exc c fs S0 | .bad => .bad) := by kernel_rfl
@[simp] theorem q_mLst {la : M (List D)}  {sd : Sl} {S : Sto} : mLst la sd S = (match la sd S with | .ok xs S1 => if xs.length ≤ 16777216 then .ok (.lst xs) S1 else .bad | .exc c fs S0 => .exc c fs S0 | .bad => .bad) := by kernel_rfl
@[simp] theorem q_mLstM {la : M (List D)}  {sd : Sl} {S : Sto} : mLstM la sd S = (match la sd S with | .ok xs S1 => if xs.length ≤ 16777216 then .ok (.loc S1.length) (S1 ++ [.lst xs]) else .bad | .exc c fs S0 => .exc c fs S0 | .bad => .bad) := by kernel_rfl
@[simp] theorem q_mCall {la : M (List D)} {f : Sto → List D → Option D} {sd : Sl} {S : Sto} : mCall f la sd S = (match la sd S with | .ok xs S1 => lift (f S1 xs) S1 | .exc c fs S0 => .exc c fs S0 | .bad => .bad) := by kernel_rfl
@[simp] theorem q_mFn {la : M (List D)} {f : List D → Sto → Out D} {sd : Sl} {S : Sto} : mFn f la sd S = (match la sd S with | .ok xs S1 => f xs S1 | .exc c fs S0 => .exc c fs S0 | .bad => .bad) := by kernel_rfl
@[simp] theorem q_mIsi {a : M D} {t : Ty} {sd : Sl} {S : Sto} : mIsi a t sd S = (match a sd S with | .ok x S1 => lift ((isiD S1 x t).map .bl) S1 | .exc c fs S0 => .exc c fs S0 | .bad => .bad) := by kernel_rfl
@[simp] theorem q_mIsiT {a : M D} {t t' : Ty} {sd : Sl} {S : Sto} : mIsiT a t t' sd S = (match a sd S with | .ok x S1 => lift (match isiD S1 x t, isiD S1 x t' with | some b, some c => some (.bl (b || c)) | _, _ => none) S1 | .exc c fs S0 => .exc c fs S0 | .bad => .bad) := by kernel_rfl
@[simp] theorem q_mDicE  {sd : Sl} {S : Sto} : mDicE sd S = .ok (.loc S.length) (S ++ [.dic []]) := by kernel_rfl
@[simp] theorem q_mNo  {sd : Sl} {S : Sto} : mNo sd S = .ok none S := by kernel_rfl
@[simp] theorem q_mPart {a : M D}  {sd : Sl} {S : Sto} : mPart a sd S = (match a sd S with | .ok x S1 => (match x with | .int i => .ok (some i) S1 | _ => .bad) | .exc c fs S0 => .exc c fs S0 | .bad => .bad) := by kernel_rfl
@[simp] theorem q_mSl {a : M D} {lo hi : M (Option Int)} {sd : Sl} {S : Sto} : mSl a lo hi sd S = (match a sd S with | .ok x S1 => (match lo sd S1 with | .ok l S2 => (match hi sd S2 with | .ok h S3 => lift (slP S3 x l h) S3 | .exc c fs S0 => .exc c fs S0 | .bad => .bad) | .exc c fs S0 => .exc c fs S0 | .bad => .bad) | .exc c fs S0 => .exc c fs S0 | .bad => .bad) := by kernel_rfl
@[simp] theorem q_mNeg {a : M D}  {sd : Sl} {S : Sto} : mNeg a sd S = (match a sd S with | .ok x S1 => lift (negD x) S1 | .exc c fs S0 => .exc c fs S0 | .bad => .bad) := by kernel_rfl
@[simp] theorem q_mFld {a : M D} {G : Ev} {f : Str} {sd : Sl} {S : Sto} : mFld G a f sd S = (match a sd S with | .ok x S1 => (match x with | .loc n => (match S1[n]? with | some (.ins c fs) => if G.fld c f then lift (fs.lookup f) S1 else .bad | _ => .bad) | _ => .bad) | .exc c fs S0 => .exc c fs S0 | .bad => .bad) := by kernel_rfl
@[simp] theorem q_mMth {a : M D} {la : M (List D)} {G : Ev} {C : Nat → List D → Sto → Out D} {m : Str} {sd : Sl} {S : Sto} : mMth G C a m la sd S = (match a sd S with | .ok x S1 => (match x with | .loc n => (match S1[n]? with | some (.ins c fs) => (match G.mth c m, fs.lookup m with | some i, none => (match la sd S1 with | .ok xs S2 => C i (.loc n :: xs) S2 | .exc c fs S0 => .exc c fs S0 | .bad => .bad) | _, _ => .bad) | _ => .bad) | _ => .bad) | .exc c fs S0 => .exc c fs S0 | .bad => .bad) := by kernel_rfl
@[simp] theorem q_mMk {la : M (List D)} {G : Ev} {C : Nat → List D → Sto → Out D} {c : Nat} {sd : Sl} {S : Sto} : mMk G C c la sd S = (match la sd S with | .ok xs S1 => (match G.mth c "__init__" with | some i => (match C i (.loc S1.length :: xs) (S1 ++ [.ins c []]) with | .ok v S2 => (match v with | .non => .ok (.loc S1.length) S2 | _ => .bad) | .exc c fs S0 => .exc c fs S0 | .bad => .bad) | none => .bad) | .exc c fs S0 => .exc c fs S0 | .bad => .bad) := by kernel_rfl
@[simp] theorem q_mOwn {a b : M D} {f : Sto → D → D → Option (List D)} {sd : Sl} {S : Sto} : mOwn f a b sd S = (match a sd S with | .ok x S1 => (match b sd S1 with | .ok y S2 => (match f S2 x y with | some xs => .ok (.loc S2.length) (S2 ++ [.lst xs]) | none => .bad) | .exc c fs S0 => .exc c fs S0 | .bad => .bad) | .exc c fs S0 => .exc c fs S0 | .bad => .bad) := by kernel_rfl
@[simp] theorem q_mLstC {a : M D}  {sd : Sl} {S : Sto} : mLstC a sd S = (match a sd S with | .ok x S1 => (match asQ S1 x with | some xs => .ok (.loc S1.length) (S1 ++ [.lst xs]) | none => .bad) | .exc c fs S0 => .exc c fs S0 | .bad => .bad) := by kernel_rfl
@[simp] theorem q_mSm {a b : M D} {sm : Sm} {sd : Sl} {S : Sto} : mSm sm a b sd S = (match a sd S with | .ok x S1 => (match x with | .str _ => (match b sd S1 with | .ok y S2 => lift (smF sm S2 x y) S2 | .exc c fs S0 => .exc c fs S0 | .bad => .bad) | _ => .bad) | .exc c fs S0 => .exc c fs S0 | .bad => .bad) := by kernel_rfl
@[simp] theorem q_mDsel {a : M D} {la : M (List D)} {ks : List Str} {sd : Sl} {S : Sto} : mDsel ks la a sd S = (match la sd S with | .ok xs S1 => (match a sd S1 with | .ok y S2 => (match y with | .str k => lift ((ks.zip xs).lookup k) S2 | _ => .bad) | .exc c fs S0 => .exc c fs S0 | .bad => .bad) | .exc c fs S0 => .exc c fs S0 | .bad => .bad) := by kernel_rfl
@[simp] theorem q_mFmt {a : M D}  {sd : Sl} {S : Sto} : mFmt a sd S = (match a sd S with | .ok x S1 => lift (fmtD x) S1 | .exc c fs S0 => .exc c fs S0 | .bad => .bad) := by kernel_rfl
@[simp] theorem q_mFc {a : M D} {m : Str → M D} {acc : Str} {sd : Sl} {S : Sto} : mFc a m acc sd S = (match a sd S with | .ok x S1 => (match x with | .str y => if (acc ++ y).length ≤ 16777216 then m (acc ++ y) sd S1 else .bad | _ => .bad) | .exc c fs S0 => .exc c fs S0 | .bad => .bad) := by kernel_rfl
@[simp] theorem q_mZip {la : M (List D)}  {sd : Sl} {S : Sto} : mZip la sd S = (match la sd S with | .ok xs S1 => (match xs with | [x, y] => (match srcOf S1 x, srcOf S1 y with | some s, some t => .ok (zipS s t) S1 | _, _ => .bad) | _ => .bad) | .exc c fs S0 => .exc c fs S0 | .bad => .bad) := by kernel_rfl
@[simp] theorem q_mEnum {la : M (List D)}  {sd : Sl} {S : Sto} : mEnum la sd S = (match la sd S with | .ok xs S1 => (match xs with | [x] => (match srcOf S1 x with | some s => .ok (enumS s) S1 | none => .bad) | _ => .bad) | .exc c fs S0 => .exc c fs S0 | .bad => .bad) := by kernel_rfl
@[simp] theorem q_mYes  {sd : Sl} {S : Sto} : mYes sd S = .ok true S := by kernel_rfl
@[simp] theorem q_mSeq {a : M D}  {sd : Sl} {S : Sto} : mSeq a sd S = (match a sd S with | .ok x S1 => lift (srcOf S1 x) S1 | .exc c fs S0 => .exc c fs S0 | .bad => .bad) := by kernel_rfl
@[simp] theorem q_mRng {la : M (List D)} {f : List D → Option Src} {sd : Sl} {S : Sto} : mRng f la sd S = (match la sd S with | .ok xs S1 => lift (f xs) S1 | .exc c fs S0 => .exc c fs S0 | .bad => .bad) := by kernel_rfl
@[simp] theorem q_mLc {a : M D} {ta : M Bool} {mi : M Src} {g : GM} {vs : List Nat} {sd : Sl} {S : Sto} : mLc mi g vs ta a sd S = (match mLcL mi g vs ta a sd S with | .ok acc S2 => .ok (.lst acc) S2 | .exc c fs S0 => .exc c fs S0 | .bad => .bad) := by kernel_rfl
@[simp] theorem q_mLcM {a : M D} {ta : M Bool} {mi : M Src} {g : GM} {vs : List Nat} {sd : Sl} {S : Sto} : mLcM mi g vs ta a sd S = (match mLcL mi g vs ta a sd S with | .ok acc S2 => .ok (.loc S2.length) (S2 ++ [.lst acc]) | .exc c fs S0 => .exc c fs S0 | .bad => .bad) := by kernel_rfl
@[simp] theorem q_mLcL {a : M D} {ta : M Bool} {mi : M Src} {g : GM} {vs : List Nat} {sd : Sl} {S : Sto} : mLcL mi g vs ta a sd S = (match mi sd S with | .ok src S1 => lcGo src g ta a (wipeD sd vs) src.len 0 [] S1 | .exc c fs S0 => .exc c fs S0 | .bad => .bad) := by kernel_rfl
@[simp] theorem q_mSkip  {sd : Sl} {S : Sto} : mSkip sd S = .ok .nx sd S := by kernel_rfl
@[simp] theorem q_mThen {p q : MS}  {sd : Sl} {S : Sto} : mThen p q sd S = (match p sd S with | .ok .nx sd1 S1 => q sd1 S1 | o => o) := by kernel_rfl
@[simp] theorem q_mExpr {a : M D}  {sd : Sl} {S : Sto} : mExpr a sd S = (match a sd S with | .ok _ S1 => .ok .nx sd S1 | .exc c fs S0 => .exc c fs sd S0 | .bad => .bad) := by unfold mExpr; cases a sd S <;> rfl
@[simp] theorem q_mRet {a : M D}  {sd : Sl} {S : Sto} : mRet a sd S = (match a sd S with | .ok d S1 => .ok (.rt d) sd S1 | .exc c fs S0 => .exc c fs sd S0 | .bad => .bad) := by unfold mRet; cases a sd S <;> rfl
@[simp] theorem q_mRetN  {sd : Sl} {S : Sto} : mRetN sd S = .ok (.rt .non) sd S := by kernel_rfl
@[simp] theorem q_mAsg {a : M D} {g : GM} {sd : Sl} {S : Sto} : mAsg a g sd S = (match a sd S with | .ok d S1 => (match g d sd S1 with | some (sd2, S2) => .ok .nx sd2 S2 | none => .bad) | .exc c fs S0 => .exc c fs sd S0 | .bad => .bad) := by unfold mAsg; cases a sd S <;> rfl
@[simp] theorem q_mIte {ta : M Bool} {p q : MS}  {sd : Sl} {S : Sto} : mIte ta p q sd S = (match ta sd S with | .ok k S1 => if k then p sd S1 else q sd S1 | .exc c fs S0 => .exc c fs sd S0 | .bad => .bad) := by unfold mIte; cases ta sd S <;> rfl
@[simp] theorem q_mBrk  {sd : Sl} {S : Sto} : mBrk sd S = .ok .bk sd S := by kernel_rfl
@[simp] theorem q_mCnt  {sd : Sl} {S : Sto} : mCnt sd S = .ok .ct sd S := by kernel_rfl
@[simp] theorem q_mFor {p : MS} {mi : M Src} {g : GM} {sd : Sl} {S : Sto} : mFor mi g p sd S = (match mi sd S with | .ok src S1 => forGo src g p src.len 0 sd S1 | .exc c fs S0 => .exc c fs sd S0 | .bad => .bad) := by unfold mFor; cases mi sd S <;> rfl
@[simp] theorem q_gNm {i : Nat} {d : D} {sd : Sl} {S : Sto} : gNm i d sd S = some (sd.set i (some d), S) := by kernel_rfl
@[simp] theorem q_mVar {i : Nat} {sd : Sl} {S : Sto} {d : D} (h : sd[i]? = some (some d)) : mVar i sd S = .ok d S := by unfold mVar; rw [h]
@[simp] theorem q_mAug {i : Nat} {sd : Sl} {S : Sto} {x : D} {f : Sto → D → D → Option D} {a : M D} (h : sd[i]? = some (some x)) : mAug i f a sd S = (match a sd S with | .ok y S1 => (match f S1 x y with | some z => .ok .nx (sd.set i (some z)) S1 | none => .bad) | .exc c fs S0 => .exc c fs sd S0 | .bad => .bad) := by unfold mAug; rw [h]; cases a sd S <;> rfl
@[simp] theorem q_liftS {T : Type} {x : T} {S : Sto} : lift (some x) S = .ok x S := rfl
@[simp] theorem q_toB {k : Bool} {S : Sto} : toB (.bl k) S = .ok k S := rfl
@[simp] theorem q_vLen {ds : List D} : (Src.vals ds).len = ds.length := rfl
@[simp] theorem q_vFin {ds : List D} {S : Sto} : (Src.vals ds).fin S = true := rfl
@[simp] theorem q_vAt {ds : List D} {S : Sto} {i : Nat} : (Src.vals ds).at S i = ds[i]? := rfl
@[simp] theorem q_opAdd  : opF .Add = addP := rfl
@[simp] theorem q_opSub  : opF .Sub = intP subI := rfl
@[simp] theorem q_opMult  : opF .Mult = mulP := rfl
@[simp] theorem q_opFloorDiv  : opF .FloorDiv = intP fdivI := rfl
@[simp] theorem q_opMod  : opF .Mod = intP modI := rfl
@[simp] theorem q_opPow  : opF .Pow = intP powI := rfl
@[simp] theorem q_cmEq  : cmpF .Eq = eqD := rfl
@[simp] theorem q_cmNotEq  : cmpF .NotEq = neD := rfl
@[simp] theorem q_cmIs  : cmpF .Is = isNP false := rfl
@[simp] theorem q_cmIsNot  : cmpF .IsNot = isNP true := rfl
@[simp] theorem q_cmIn  : cmpF .In = inD := rfl
@[simp] theorem q_cmNotIn  : cmpF .NotIn = notInD := rfl
@[simp] theorem q_cmLt {S : Sto} {i j : Int} : cmpF .Lt S (.int i) (.int j) = some (.bl (decide (i < j))) := rfl
@[simp] theorem q_cmLtE {S : Sto} {i j : Int} : cmpF .LtE S (.int i) (.int j) = some (.bl (decide (i ≤ j))) := rfl
@[simp] theorem q_cmGt {S : Sto} {i j : Int} : cmpF .Gt S (.int i) (.int j) = some (.bl (decide (j < i))) := rfl
@[simp] theorem q_cmGtE {S : Sto} {i j : Int} : cmpF .GtE S (.int i) (.int j) = some (.bl (decide (j ≤ i))) := rfl
@[simp] theorem q_bflen  : bfF .len = call1 lenD := rfl
@[simp] theorem q_bfabs  : bfF .abs = call1 absD := rfl
@[simp] theorem q_bfint  : bfF .int = call1 intD := rfl
@[simp] theorem q_bfstr  : bfF .str = call1 strD := rfl
@[simp] theorem q_bftup  : bfF .tup = call1 tupD := rfl
@[simp] theorem q_bflst  : bfF .lst = call1 lstD := rfl
@[simp] theorem q_bfmax2  : bfF .max2 = max2D := rfl
@[simp] theorem q_bfmin2  : bfF .min2 = min2D := rfl
@[simp] theorem q_bfrepr  : bfF .repr = call1 reprD := rfl
@[simp] theorem q_bfsum  : bfF .sum = call1 sumD := rfl
@[simp] theorem q_bfmax1  : bfF .max1 = call1 max1D := rfl
@[simp] theorem q_bfmin1  : bfF .min1 = call1 min1D := rfl
@[simp] theorem q_call1 {f : Sto → D → Option D} {S : Sto} {x : D} : call1 f S [x] = f S x := rfl
@[simp] theorem q_addI {S : Sto} {i j : Int} : addP S (.int i) (.int j) = some (.int (i + j)) := rfl
@[simp] theorem q_subI {S : Sto} {i j : Int} : intP subI S (.int i) (.int j) = some (.int (i - j)) := rfl
@[simp] theorem q_absI {S : Sto} {i : Int} : absD S (.int i) = some (.int (if i < 0 then -i else i)) := rfl
@[simp] theorem q_intI {S : Sto} {i : Int} : intD S (.int i) = some (.int i) := rfl
@[simp] theorem q_negI {i : Int} : negD (.int i) = some (.int (-i)) := rfl
@[simp] theorem q_iaddI {S : Sto} {i j : Int} : iopF .Add S (.int i) (.int j) = some (.int (i + j)) := rfl
@[simp] theorem q_owA  : ownF .Add = catL := rfl
@[simp] theorem q_owM  : ownF .Mult = repL := rfl
@[simp] theorem q_smjoin  : smF .join = joinD := rfl
@[simp] theorem q_smsplit  : smF .split = splitD := rfl
@[simp] theorem q_smstartswith  : smF .startswith = startsD := rfl
@[simp] theorem q_smpartition  : smF .partition = partD := rfl
@[simp] theorem q_smstrip  : smF .strip = stripD := rfl
@[simp] theorem q_fmtS {i : Int} : fmtD (.int i) = if i.natAbs.log2 < 1920 then some (.str (toString i)) else none := rfl
@[simp] theorem q_gsNil {sd : Sl} {S : Sto} : gsNil [] sd S = some (sd, S) := rfl
@[simp] theorem q_mod {S : Sto} {i j : Int} (h : 0 < j) : intP modI S (.int i) (.int j) = some (.int (i % j)) := by simp [intP, modI, h]
@[simp] theorem q_fdiv {S : Sto} {i j : Int} (h : 0 < j) (h2 : j < 1073741824) : intP fdivI S (.int i) (.int j) = some (.int (i / j)) := by simp [intP, fdivI, h, h2]
theorem q_mul {S : Sto} {i j : Int} (h : -18446744073709551616 < i ∧ i < 18446744073709551616) : mulP S (.int i) (.int j) = some (.int (i * j)) := by simp [mulP, mulI, h]
theorem q_pow {S : Sto} {i j : Int} (h : 0 ≤ j ∧ j ≤ 1000000) (h2 : i.natAbs < 18446744073709551616) : intP powI S (.int i) (.int j) = some (.int (i ^ j.toNat)) := by simp [intP, powI, h, h2]

theorem ixN_in {n : Nat} {i : Int} (h0 : 0 ≤ i) (h1 : i < n) : ixN n i = some i.toNat := by
  unfold ixN
  rw [if_pos h0, if_pos h1]
theorem atI_in {α : Type} {xs : List α} {i : Int} (h0 : 0 ≤ i) (h1 : i < xs.length) : L2.atI xs i = xs[i.toNat]? := by
  unfold L2.atI
  rw [ixN_in h0 h1]
  rfl

/-! ### the deck -/
structure Dk (S : Sto) (a b : Nat) (n : Int) : Prop where
  ne : a ≠ b
  cells : ∃ xs : List Int, S[a]? = some (.lst (xs.map D.int)) ∧ ∀ x ∈ xs, 0 ≤ x
  at_ : S[b]? = some (.lst [.loc a, .int n])
def drawB (p q t u : Int) : Ss := (.cons (.asg (.sub (.v 0) (.c (.int 1))) (.op .Add (.ix (.v 0) (.c (.int 1))) (.c (.int 1)))) (.cons (.asg (.tup (.cons (.nm 3) (.cons (.nm 4) .nil))) (.tup (.cons (.c (.int 0)) (.cons (.neg (.c (.int 1))) .nil)))) (.cons (.ite (.cmp .Gt (.bf .len (.cons (.ix (.v 0) (.c (.int 0))) .nil)) (.c (.int 0))) (.cons (.asg (.nm 4) (.op .Mod (.bf .int (.cons (.ix (.v 0) (.c (.int 1))) .nil)) (.bf .len (.cons (.ix (.v 0) (.c (.int 0))) .nil)))) (.cons (.asg (.nm 3) (.ix (.ix (.v 0) (.c (.int 0))) (.v 4))) .nil)) .nil) (.cons (.ite (.cmp .GtE (.v 3) (.op .Pow (.c (.int 10)) (.c (.int 18)))) (.cons (.asg (.sub (.ix (.v 0) (.c (.int 0))) (.v 4)) (.op .FloorDiv (.bf .int (.cons (.v 3) .nil)) (.v 1))) (.cons (.ret (.op .Mod (.bf .int (.cons (.v 3) .nil)) (.v 1))) .nil)) .nil) (.cons (.asg (.nm 2) (.op .Add (.op .Add (.op .Mod (.bf .int (.cons (.v 3) .nil)) (.c (.int p))) (.op .Mult (.c (.int q)) (.ix (.v 0) (.c (.int 1))))) (.c (.int t)))) (.cons (.ret (.op .Mod (.bf .int (.cons (.op .Mod (.bf .int (.cons (.op .Pow (.v 2) (.c (.int 5))) .nil)) (.c (.int u))) .nil)) (.v 1))) .nil))))))
theorem ix_loc {S : Sto} {b : Nat} {xs : List D} {i : Int} (h : S[b]? = some (.lst xs)) (h0 : 0 ≤ i) (h1 : i < xs.length) : ixP S (.loc b) (.int i) = xs[i.toNat]? := by
  simp [ixP, asQ, asL, h, atI_in h0 h1]
theorem len_loc {S : Sto} {b : Nat} {xs : List D} (h : S[b]? = some (.lst xs)) : lenD S (.loc b) = some (.int xs.length) := by
  simp [lenD, lenP, asQ, asL, h]
structure Fr (S S' : Sto) (a b : Nat) : Prop where
  len : S'.length = S.length
  oth : ∀ c, c ≠ a → c ≠ b → S'[c]? = S[c]?
section
variable {G : Ev} {C : Nat → List D → Sto → Out D} {wf : Nat} {p q t u : Int}
theorem draw_ok {S : Sto} {a b : Nat} {n m : Int} (h : Dk S a b n) (hn : 0 ≤ n) (hn2 : n < 1000000) (hm : 0 < m) (hm2 : m < 1073741824) (hp : 0 < p) (hp2 : p < 1000000000000) (hq : 0 < q) (hq2 : q < 1000000) (ht : 0 ≤ t) (ht2 : t < 1000000) (hu : 0 < u) :
    ∃ r S', fnEnd (dSs G C wf (drawB p q t u) (slots0 5 [.loc b, .int m]) S) = .ok (.int r) S' ∧ 0 ≤ r ∧ r < m ∧ Dk S' a b (n + 1) ∧ Fr S S' a b := by
  obtain ⟨ne, ⟨xs, hx, hpos⟩, hb⟩ := h
  have lb : b < S.length := (List.getElem?_eq_some_iff.mp hb).1
  have la : a < S.length := (List.getElem?_eq_some_iff.mp hx).1
  have hb1 : (S.set b (.lst [.loc a, .int (n + 1)]))[b]? = some (.lst [.loc a, .int (n + 1)]) := by simp [lb]
  have hx1 : (S.set b (.lst [.loc a, .int (n + 1)]))[a]? = some (.lst (xs.map D.int)) := by rw [List.getElem?_set_ne ne.symm]; exact hx
  generalize hS1 : S.set b (.lst [.loc a, .int (n + 1)]) = S1 at hb1 hx1
  have l1 : S1.length = S.length := by rw [← hS1]; simp
  have o1 : ∀ c, c ≠ a → c ≠ b → S1[c]? = S[c]? := fun c _ z => by rw [← hS1, List.getElem?_set_ne (Ne.symm z)]
  have dk1 : Dk S1 a b (n + 1) := ⟨ne, ⟨xs, hx1, hpos⟩, hb1⟩
  have i0 : ixP S1 (.loc b) (.int 0) = some (.loc a) := by rw [ix_loc hb1 (by decide) (by simp)]; rfl
  have i1 : ixP S1 (.loc b) (.int 1) = some (.int (n + 1)) := by rw [ix_loc hb1 (by decide) (by simp)]; rfl
  have j1 : ixP S (.loc b) (.int 1) = some (.int n) := by rw [ix_loc hb (by decide) (by simp)]; rfl
  have ln : lenD S1 (.loc a) = some (.int xs.length) := by rw [len_loc hx1]; simp
  have pw : intP powI S1 (.int 10) (.int 18) = some (.int (10 ^ 18)) := rfl
  -- the first two statements
  have s1 : dS G C wf (.asg (.sub (.v 0) (.c (.int 1))) (.op .Add (.ix (.v 0) (.c (.int 1))) (.c (.int 1)))) (slots0 5 [.loc b, .int m]) S = .ok .nx [some (.loc b), some (.int m), none, none, none] S1 := by
    simp [slots0, j1, gSubM, hb, ixN, ← hS1]
  have s2 : dS G C wf (.asg (.tup (.cons (.nm 3) (.cons (.nm 4) .nil))) (.tup (.cons (.c (.int 0)) (.cons (.neg (.c (.int 1))) .nil)))) [some (.loc b), some (.int m), none, none, none] S1 = .ok .nx [some (.loc b), some (.int m), none, some (.int 0), some (.int (-1))] S1 := by
    simp [gTp, gsCons]
  -- the third
  have s3 : ∃ (x : Int) (at_ : Int), 0 ≤ x ∧ (x ≠ 0 → 0 ≤ at_ ∧ at_ < xs.length) ∧ dS G C wf (.ite (.cmp .Gt (.bf .len (.cons (.ix (.v 0) (.c (.int 0))) .nil)) (.c (.int 0))) (.cons (.asg (.nm 4) (.op .Mod (.bf .int (.cons (.ix (.v 0) (.c (.int 1))) .nil)) (.bf .len (.cons (.ix (.v 0) (.c (.int 0))) .nil)))) (.cons (.asg (.nm 3) (.ix (.ix (.v 0) (.c (.int 0))) (.v 4))) .nil)) .nil) [some (.loc b), some (.int m), none, some (.int 0), some (.int (-1))] S1 = .ok .nx [some (.loc b), some (.int m), none, some (.int x), some (.int at_)] S1 := by
    by_cases hl : 0 < xs.length
    · have hl' : (0 : Int) < xs.length := by omega
      have m0 := Int.emod_nonneg (n + 1) (b := (xs.length : Int)) (by omega)
      have m1 := Int.emod_lt_of_pos (n + 1) hl'
      have hk : ((n + 1) % (xs.length : Int)).toNat < xs.length := by omega
      refine ⟨xs[((n + 1) % (xs.length : Int)).toNat], (n + 1) % xs.length, hpos _ (List.getElem_mem hk), fun _ => ⟨m0, m1⟩, ?_⟩
      have ia : ixP S1 (.loc a) (.int ((n + 1) % xs.length)) = some (.int xs[((n + 1) % (xs.length : Int)).toNat]) := by
        rw [ix_loc hx1 m0 (by simpa using m1), List.getElem?_map, List.getElem?_eq_getElem hk]; rfl
      simp [i0, i1, ln, hl, ia]
    · have e : xs = [] := by cases xs with | nil => rfl | cons _ _ => simp at hl
      subst e
      refine ⟨0, -1, by decide, fun z => absurd rfl z, ?_⟩
      simp [i0, ln]
  obtain ⟨x, at_, hx0, hat, s3⟩ := s3
  unfold drawB
  rw [q_scons, then_nx s1, q_scons, then_nx s2, q_scons, then_nx s3, q_scons]
  by_cases big : 10 ^ 18 ≤ x
  · have hat := hat (by omega)
    have ix : ixN xs.length at_ = some at_.toNat := ixN_in hat.1 hat.2
    refine ⟨x % m, S1.set a (.lst ((xs.map D.int).set at_.toNat (.int (x / m)))), ?_, Int.emod_nonneg _ (by omega), Int.emod_lt_of_pos _ hm, ⟨ne, ⟨xs.set at_.toNat (x / m), ?_, fun y hy => ?_⟩, ?_⟩, ?_, fun c c1 c2 => ?_⟩
    · have big' : (1000000000000000000 : Int) ≤ x := big
      simp [pw, big', i0, gSubM, hx1, ix, hm, hm2, fnEnd]
    · rw [List.map_set]; simp [l1, la]
    · rcases List.mem_or_eq_of_mem_set hy with z | z
      · exact hpos _ z
      · rw [z]; exact Int.ediv_nonneg hx0 (by omega)
    · rw [List.getElem?_set_ne ne]; exact hb1
    · simp [l1]
    · rw [List.getElem?_set_ne (Ne.symm c1)]; exact o1 c c1 c2
  · have small : ¬ (1000000000000000000 : Int) ≤ x := big
    have s4 : dS G C wf (.ite (.cmp .GtE (.v 3) (.op .Pow (.c (.int 10)) (.c (.int 18)))) (.cons (.asg (.sub (.ix (.v 0) (.c (.int 0))) (.v 4)) (.op .FloorDiv (.bf .int (.cons (.v 3) .nil)) (.v 1))) (.cons (.ret (.op .Mod (.bf .int (.cons (.v 3) .nil)) (.v 1))) .nil)) .nil) [some (.loc b), some (.int m), none, some (.int x), some (.int at_)] S1 = .ok .nx [some (.loc b), some (.int m), none, some (.int x), some (.int at_)] S1 := by
      simp [pw, small]
    rw [then_nx s4]
    have x0 := Int.emod_nonneg x (b := p) (by omega)
    have x1 := Int.emod_lt_of_pos x hp
    have q0 : 0 ≤ q * (n + 1) := Int.mul_nonneg (by omega) (by omega)
    have q1 : q * (n + 1) ≤ 1000000 * 1000001 := Int.mul_le_mul (by omega) (by omega) (by omega) (by omega)
    refine ⟨(x % p + q * (n + 1) + t) ^ 5 % u % m, S1, ?_, Int.emod_nonneg _ (by omega), Int.emod_lt_of_pos _ hm, dk1, l1, o1⟩
    have hb64 : (x % p + q * (n + 1) + t).natAbs < 18446744073709551616 := by omega
    have pw2 : intP powI S1 (.int (x % p + q * (n + 1) + t)) (.int 5) = some (.int ((x % p + q * (n + 1) + t) ^ 5)) := q_pow (by decide) hb64
    have mu : mulP S1 (.int q) (.int (n + 1)) = some (.int (q * (n + 1))) := q_mul (by omega)
    simp [hp, mu, i1, pw2, hu, hm, fnEnd]
end
end Z

/-! Z layer, part Q: loops, the deck made. -/
namespace Z
open PySem PySem.Spec PyProof.Rows L2

/-- a comprehension that leaves the store alone -/
theorem lc_pure {ds : List D} {g : GM} {c : M Bool} {e : M D} {sw : Sl} {S : Sto} {p : D → Bool} {h : D → D}
    (hy : ∀ d ∈ ds, ∃ sd, g d sw S = some (sd, S) ∧ c sd S = .ok (p d) S ∧ (p d = true → e sd S = .ok (h d) S)) :
    ∀ (n i : Nat) (acc : List D), i + n = ds.length → acc.length + n ≤ 16777216 → lcGo (.vals ds) g c e sw n i acc S = .ok (acc ++ ((ds.drop i).filter p).map h) S
  | 0, i, acc, hi, _ => by
    have : ds.drop i = [] := List.drop_eq_nil_of_le (by omega)
    rw [this]; simp [lcGo]
  | n + 1, i, acc, hi, hl => by
    have hlt : i < ds.length := by omega
    obtain ⟨sd, h1, h2, h3⟩ := hy ds[i] (List.getElem_mem hlt)
    have hd : ds.drop i = ds[i] :: ds.drop (i + 1) := (List.drop_eq_getElem_cons hlt)
    have e0 : (Src.vals ds).at S i = some ds[i] := List.getElem?_eq_getElem hlt
    unfold lcGo
    simp only [e0, h1, h2]
    cases hp : p ds[i] with
    | true =>
      simp only [h3 hp]
      rw [if_pos (by omega), lc_pure hy n (i + 1) (acc ++ [h ds[i]]) (by omega) (by simp; omega), hd, List.filter_cons_of_pos (by simp [hp]), List.map_cons, List.append_assoc]
      rfl
    | false =>
      simp only []
      rw [lc_pure hy n (i + 1) acc (by omega) (by omega), hd, List.filter_cons_of_neg (by simp [hp])]
/-- a comprehension with something kept -/
theorem lc_inv {ds : List D} {g : GM} {c : M Bool} {e : M D} {sw : Sl} (P : Nat → List D → Sto → Prop)
    (st : ∀ i d acc S, ds[i]? = some d → P i acc S → ∃ sd S1, g d sw S = some (sd, S1) ∧ ((∃ S2, c sd S1 = .ok false S2 ∧ P (i + 1) acc S2) ∨ ∃ S2 y S3, c sd S1 = .ok true S2 ∧ e sd S2 = .ok y S3 ∧ P (i + 1) (acc ++ [y]) S3)) :
    ∀ (n i : Nat) (acc : List D) (S : Sto), i + n = ds.length → acc.length + n ≤ 16777216 → P i acc S → ∃ acc' S', lcGo (.vals ds) g c e sw n i acc S = .ok acc' S' ∧ P ds.length acc' S'
  | 0, i, acc, S, hi, _, h => ⟨acc, S, by simp [lcGo], by rw [← hi]; exact h⟩
  | n + 1, i, acc, S, hi, hl, h => by
    have hlt : i < ds.length := by omega
    have e0 : (Src.vals ds).at S i = some ds[i] := List.getElem?_eq_getElem hlt
    obtain ⟨sd, S1, h1, h2⟩ := st i ds[i] acc S (List.getElem?_eq_getElem hlt) h
    unfold lcGo
    simp only [e0, h1]
    rcases h2 with ⟨S2, h2, h3⟩ | ⟨S2, y, S3, h2, h3, h4⟩
    · simp only [h2]
      exact lc_inv P st n (i + 1) acc S2 (by omega) (by omega) h3
    · simp only [h2, h3]
      rw [if_pos (by omega)]
      exact lc_inv P st n (i + 1) (acc ++ [y]) S3 (by omega) (by simp; omega) h4
theorem for_inv {ds : List D} {g : GM} {b : MS} (P : Nat → Sl → Sto → Prop)
    (st : ∀ i d sd S, ds[i]? = some d → P i sd S → ∃ sd1 S1, g d sd S = some (sd1, S1) ∧ ∃ sd2 S2, (b sd1 S1 = .ok .nx sd2 S2 ∨ b sd1 S1 = .ok .ct sd2 S2) ∧ P (i + 1) sd2 S2) :
    ∀ (n i : Nat) (sd : Sl) (S : Sto), i + n = ds.length → P i sd S → ∃ sd' S', forGo (.vals ds) g b n i sd S = .ok .nx sd' S' ∧ P ds.length sd' S'
  | 0, i, sd, S, hi, h => ⟨sd, S, by simp [forGo], by rw [← hi]; exact h⟩
  | n + 1, i, sd, S, hi, h => by
    have hlt : i < ds.length := by omega
    have e0 : (Src.vals ds).at S i = some ds[i] := List.getElem?_eq_getElem hlt
    obtain ⟨sd1, S1, h1, sd2, S2, h2, h3⟩ := st i ds[i] sd S (List.getElem?_eq_getElem hlt) h
    unfold forGo
    simp only [e0, h1]
    rcases h2 with h2 | h2 <;> simp only [h2] <;> exact for_inv P st n (i + 1) sd2 S2 (by omega) h3

def Ss.app : Ss → Ss → Ss
  | .nil, b => b
  | .cons s a, b => .cons s (Ss.app a b)
theorem app_nx {G : Ev} {C : Nat → List D → Sto → Out D} {wf : Nat} : ∀ {a b : Ss} {sd sd1 : Sl} {S S1 : Sto}, dSs G C wf a sd S = .ok .nx sd1 S1 → dSs G C wf (a.app b) sd S = dSs G C wf b sd1 S1
  | .nil, b, sd, sd1, S, S1, h => by
    rw [q_snil, q_mSkip] at h
    cases h
    rfl
  | .cons s a, b, sd, sd1, S, S1, h => by
    show mThen (dS G C wf s) (dSs G C wf (a.app b)) sd S = _
    rw [q_scons] at h
    unfold mThen at h ⊢
    split at h
    · exact app_nx h
    · rename_i o hno
      exact absurd h (hno _ _)
/-! ### the deck made -/
def deckB (nm : Str) : Ss := (.cons (.ret (.lst true (.cons (.lc true (.nm 1) (.seq (.sl (.v 0) .none (.some (.c (.int 63))))) .none (.bf .abs (.cons (.v 1) .nil)) [(nm, 1)]) (.cons (.c (.int 0)) .nil)))) .nil)
theorem deck_ok {G : Ev} {C : Nat → List D → Sto → Out D} {wf : Nat} {nm : Str} {S : Sto} {ns : List Int} (hl : ns.length ≤ 63) :
    ∃ S', fnEnd (dSs G C wf (deckB nm) (slots0 2 [.fro (ns.map .int)]) S) = .ok (.loc (S.length + 1)) S' ∧ S'.length = S.length + 2 ∧ Dk S' S.length (S.length + 1) 0 ∧ ∀ c, c < S.length → S'[c]? = S[c]? := by
  have hc : cutG (ns.map D.int) none (some 63) = ns.map D.int := by
    have e : HT.sIx (ns.map D.int).length (ns.map D.int).length (some 63) = ns.length := by
      show min (63 : Int).toNat _ = _
      rw [List.length_map]; omega
    have e0 : HT.sIx (ns.map D.int).length 0 none = 0 := rfl
    unfold cutG
    rw [e, e0]
    simp only [List.drop_zero, Nat.sub_zero]
    exact List.take_of_length_le (by simp)
  have hsl : slP S (.fro (ns.map .int)) none (some 63) = some (.lst (ns.map .int)) := by
    simp [slP, asLF, hc]
  have hlc : lcGo (.vals (ns.map D.int)) (gNm 1) mYes (dE G C (.bf .abs (.cons (.v 1) .nil))) [some (.fro (ns.map .int)), none] (ns.map D.int).length 0 [] S = .ok (ns.map fun i => .int (if i < 0 then -i else i)) S := by
    rw [lc_pure (p := fun _ => true) (h := fun d => match d with | .int i => .int (if i < 0 then -i else i) | d => d) (fun d hd => ?_) _ 0 [] (by simp) (by simp; omega)]
    · rw [List.drop_zero, List.filter_eq_self.mpr fun _ _ => rfl, List.map_map]; rfl
    · obtain ⟨i, _, rfl⟩ := List.mem_map.mp hd
      exact ⟨_, rfl, rfl, fun _ => by simp⟩
  refine ⟨S ++ [.lst (ns.map fun i => .int (if i < 0 then -i else i))] ++ [.lst [.loc S.length, .int 0]], ?_, by simp, ⟨by omega, ⟨ns.map fun i => if i < 0 then -i else i, by simp, fun x hx => ?_⟩, by simp⟩, fun c hc => ?_⟩
  · have hw : wipeD [some (D.fro (ns.map .int)), none] [1] = [some (.fro (ns.map .int)), none] := rfl
    simp only [q_ebf, q_bfabs] at hlc
    simp [deckB, slots0, hsl, srcOf, hw, hlc, fnEnd]
    simp [q_lcons, q_lnil, q_ev] at hlc
    simp [hlc]
  · obtain ⟨i, _, rfl⟩ := List.mem_map.mp hx
    split <;> omega
  · rw [List.getElem?_append_left (by simp; omega), List.getElem?_append_left hc]
end Z

/-! Z layer, part R: frames, draws by name of the def, changes of the store. -/
namespace Z
open PySem PySem.Spec PyProof.Rows L2
theorem app_ok {o : M D} {a : M (List D)} {sd : Sl} {S S2 : Sto} {n : Nat} {xs xs0 : List D} {y : D} (h1 : o sd S = .ok (.loc n) S) (h0 : S[n]? = some (.lst xs0)) (h2 : a sd S = .ok [y] S2) (h3 : S2[n]? = some (.lst xs)) (hl : xs.length < 16777216) :
    mApp o a sd S = .ok .non (S2.set n (.lst (xs ++ [y]))) := by
  unfold mApp; simp [h1, h0, Out.bind, h2, h3, hl]
theorem ext_ok {o : M D} {a : M (List D)} {sd : Sl} {S S2 : Sto} {n : Nat} {xs xs0 zs : List D} {y : D} (h1 : o sd S = .ok (.loc n) S) (h0 : S[n]? = some (.lst xs0)) (h2 : a sd S = .ok [y] S2) (h3 : S2[n]? = some (.lst xs)) (h4 : asL S2 y = some zs) (hl : xs.length + zs.length ≤ 16777216) :
    mExt o a sd S = .ok .non (S2.set n (.lst (xs ++ zs))) := by
  unfold mExt; simp [h1, h0, Out.bind, h2, h3, h4, hl]
theorem par2_ok {i j : Nat} {a : M (List D)} {sd : Sl} {S S1 : Sto} {x y : D} (h : a sd S = .ok [x, y] S1) : mPar [i, j] a sd S = .ok .nx ((sd.set i (some x)).set j (some y)) S1 := by
  unfold mPar; rw [h]; rfl
theorem par3_ok {i j l : Nat} {a : M (List D)} {sd : Sl} {S S1 : Sto} {x y z : D} (h : a sd S = .ok [x, y, z] S1) : mPar [i, j, l] a sd S = .ok .nx (((sd.set i (some x)).set j (some y)).set l (some z)) S1 := by
  unfold mPar; rw [h]; rfl
/-- all but deck and the objects of m stay -/
structure Kp (S S' : Sto) (m : Nat → Prop) : Prop where
  len : S.length ≤ S'.length
  oth : ∀ c, 2 ≤ c → c < S.length → ¬ m c → S'[c]? = S[c]?
theorem Kp.refl (S : Sto) (m : Nat → Prop) : Kp S S m := ⟨Nat.le_refl _, fun _ _ _ _ => rfl⟩
theorem Kp.trans {S S1 S2 : Sto} {m : Nat → Prop} (a : Kp S S1 m) (b : Kp S1 S2 m) : Kp S S2 m :=
  ⟨Nat.le_trans a.len b.len, fun c h1 h2 h3 => (b.oth c h1 (Nat.lt_of_lt_of_le h2 a.len) h3).trans (a.oth c h1 h2 h3)⟩
theorem Kp.more {S S1 : Sto} {m m' : Nat → Prop} (a : Kp S S1 m) (h : ∀ c, c < S.length → m c → m' c) : Kp S S1 m' := ⟨a.len, fun c h1 h2 h3 => a.oth c h1 h2 fun z => h3 (h c h2 z)⟩
theorem Kp.at {S S' : Sto} {m : Nat → Prop} (a : Kp S S' m) {c : Nat} {o : MO} (h : S[c]? = some o) (h2 : 2 ≤ c) (h3 : ¬ m c) : S'[c]? = some o := by
  rw [a.oth c h2 (List.getElem?_eq_some_iff.mp h).1 h3]; exact h
theorem Kp.set {S : Sto} {m : Nat → Prop} {c : Nat} {o : MO} (h : m c) : Kp S (S.set c o) m :=
  ⟨by simp, fun d h1 h2 h3 => List.getElem?_set_ne fun (e : c = d) => h3 (by rw [← e]; exact h)⟩
theorem Kp.push {S : Sto} {m : Nat → Prop} {l : List MO} : Kp S (S ++ l) m := ⟨by simp, fun c _ h2 _ => List.getElem?_append_left h2⟩
theorem Dk.set {S : Sto} {n : Int} {c : Nat} {o : MO} (h : Dk S 0 1 n) (hc : 2 ≤ c) : Dk (S.set c o) 0 1 n := by
  obtain ⟨ne, ⟨xs, h1, h2⟩, h3⟩ := h
  exact ⟨ne, ⟨xs, by rw [List.getElem?_set_ne (by omega)]; exact h1, h2⟩, by rw [List.getElem?_set_ne (by omega)]; exact h3⟩
theorem Dk.push {S : Sto} {n : Int} {l : List MO} (h : Dk S 0 1 n) : Dk (S ++ l) 0 1 n := by
  obtain ⟨ne, ⟨xs, h1, h2⟩, h3⟩ := h
  exact ⟨ne, ⟨xs, by rw [List.getElem?_append_left (List.getElem?_eq_some_iff.mp h1).1]; exact h1, h2⟩, by rw [List.getElem?_append_left (List.getElem?_eq_some_iff.mp h3).1]; exact h3⟩
theorem Dk.len {S : Sto} {n : Int} (h : Dk S 0 1 n) : 2 ≤ S.length := (List.getElem?_eq_some_iff.mp h.at_).1
theorem drwG {T : List Fn} {G : Ev} {wf k f : Nat} {p q t u : Int} (hT : T[f]? = some ⟨2, 5, drawB p q t u⟩) (hp : 0 < p ∧ p < 1000000000000 ∧ 0 < q ∧ q < 1000000 ∧ 0 ≤ t ∧ t < 1000000 ∧ 0 < u) {S : Sto} {n : Int} {m : Nat} (h : Dk S 0 1 n) (hn : 0 ≤ n) (hn2 : n < 1000000) (hm : 0 < m) (hm2 : m < 1000000) :
    ∃ (r : Nat) (S' : Sto), run T G wf (k + 1) f [.loc 1, .int m] S = .ok (.int r) S' ∧ r < m ∧ Dk S' 0 1 (n + 1) ∧ ∀ X, Kp S S' X := by
  obtain ⟨p1, p2, p3, p4, p5, p6, p7⟩ := hp
  obtain ⟨r, S', h1, h2, h3, h4, h5⟩ := draw_ok (G := G) (C := run T G wf k) (wf := wf) (m := m) h hn (by omega) (by omega) (by omega) p1 p2 p3 p4 p5 p6 p7
  refine ⟨r.toNat, S', ?_, by omega, h4, fun X => ⟨Nat.le_of_eq h5.len.symm, fun c c1 c2 _ => h5.oth c (by omega) (by omega)⟩⟩
  rw [show ((r.toNat : Nat) : Int) = r by omega]
  exact (run_succ hT rfl).trans h1
def oneB (f : Nat) : Ss := (.cons (.ret (.ix (.v 1) (.call f (.cons (.v 0) (.cons (.bf .len (.cons (.v 1) .nil)) .nil))))) .nil)
theorem oneG {T : List Fn} {G : Ev} {wf k f f1 : Nat} {p q t u : Int} (hT : T[f]? = some ⟨2, 5, drawB p q t u⟩) (hT1 : T[f1]? = some ⟨2, 2, oneB f⟩) (hp : 0 < p ∧ p < 1000000000000 ∧ 0 < q ∧ q < 1000000 ∧ 0 ≤ t ∧ t < 1000000 ∧ 0 < u) {S : Sto} {n : Int} {xs : List D} (h : Dk S 0 1 n) (hn : 0 ≤ n) (hn2 : n < 1000000) (hm : 0 < xs.length) (hm2 : xs.length < 1000000) :
    ∃ (d : D) (S' : Sto), run T G wf (k + 2) f1 [.loc 1, .lst xs] S = .ok d S' ∧ d ∈ xs ∧ Dk S' 0 1 (n + 1) ∧ ∀ X, Kp S S' X := by
  obtain ⟨r, S', h1, h2, h3, h4⟩ := drwG (wf := wf) (k := k) (G := G) hT hp h hn hn2 hm hm2
  refine ⟨xs[r], S', (run_succ hT1 rfl).trans ?_, List.getElem_mem h2, h3, h4⟩
  have ln : lenD S (.lst xs) = some (.int xs.length) := rfl
  have ix : ixP S' (.lst xs) (.int r) = some xs[r] := by
    show L2.atI xs (r : Int) = _
    rw [atI_in (by omega) (by omega)]
    exact List.getElem?_eq_getElem h2
  simp [oneB, slots0, fnEnd, ln, h1, ix]
/-- items in the store -/
theorem oneL {T : List Fn} {G : Ev} {wf k f f1 : Nat} {p q t u : Int} (hT : T[f]? = some ⟨2, 5, drawB p q t u⟩) (hT1 : T[f1]? = some ⟨2, 2, oneB f⟩) (hp : 0 < p ∧ p < 1000000000000 ∧ 0 < q ∧ q < 1000000 ∧ 0 ≤ t ∧ t < 1000000 ∧ 0 < u) {S : Sto} {n : Int} {c : Nat} {xs : List D} (h : Dk S 0 1 n) (hn : 0 ≤ n) (hn2 : n < 1000000) (hc : S[c]? = some (.lst xs)) (hc2 : 2 ≤ c) (hm : 0 < xs.length) (hm2 : xs.length < 1000000) :
    ∃ (d : D) (S' : Sto), run T G wf (k + 2) f1 [.loc 1, .loc c] S = .ok d S' ∧ d ∈ xs ∧ Dk S' 0 1 (n + 1) ∧ ∀ X, Kp S S' X := by
  obtain ⟨r, S', h1, h2, h3, h4⟩ := drwG (wf := wf) (k := k) (G := G) hT hp h hn hn2 hm hm2
  refine ⟨xs[r], S', (run_succ hT1 rfl).trans ?_, List.getElem_mem h2, h3, h4⟩
  have ln : lenD S (.loc c) = some (.int xs.length) := len_loc hc
  have ix : ixP S' (.loc c) (.int r) = some xs[r] := by
    rw [ix_loc ((h4 fun _ => False).at hc hc2 id) (by omega) (by omega)]
    exact List.getElem?_eq_getElem h2
  simp [oneB, slots0, fnEnd, ln, h1, ix]
end Z

/-! Z layer, part Qa: loops over a list that is known, as recursion over that list. -/
namespace Z
open PySem PySem.Spec PyProof.Rows L2
/-- what a source goes over, whatever the store -/
structure Sta (s : Src) (ds : List D) : Prop where
  len : s.len = ds.length
  get : ∀ S i, i < ds.length → s.at S i = ds[i]?
  fin : ∀ S, s.fin S = true
theorem sta_vals (ds : List D) : Sta (.vals ds) ds := ⟨rfl, fun _ _ _ => rfl, fun _ => rfl⟩
theorem sta_zip {s t : Src} {xs ys : List D} (a : Sta s xs) (b : Sta t ys) : Sta (.zip s t) (List.zipWith (fun x y => D.tup [x, y]) xs ys) := by
  refine ⟨?_, fun S i hi => ?_, fun S => ?_⟩
  · show min s.len t.len = _
    rw [a.len, b.len, List.length_zipWith]
  · rw [List.length_zipWith] at hi
    show (match s.at S i, t.at S i with | some x, some y => some (D.tup [x, y]) | _, _ => none) = _
    rw [a.get S i (by omega), b.get S i (by omega), List.getElem?_eq_getElem (by omega), List.getElem?_eq_getElem (by omega), List.getElem?_eq_getElem (by rw [List.length_zipWith]; omega), List.getElem_zipWith]
  · show (s.fin S && t.fin S) = true
    rw [a.fin, b.fin]; rfl
def forL (g : GM) (b : MS) : List D → Sl → Sto → OutS
  | [], sd, S => .ok .nx sd S
  | d :: l, sd, S => match g d sd S with
    | none => .bad
    | some (sd1, S1) => match b sd1 S1 with
      | .ok .nx sd2 S2 => forL g b l sd2 S2
      | .ok .ct sd2 S2 => forL g b l sd2 S2
      | .ok .bk sd2 S2 => .ok .nx sd2 S2
      | .ok (.rt d) sd2 S2 => .ok (.rt d) sd2 S2
      | .exc c fs sd2 S2 => .exc c fs sd2 S2
      | .bad => .bad
theorem forGo_list {s : Src} {ds : List D} (h : Sta s ds) {g : GM} {b : MS} : ∀ (n i : Nat) (sd : Sl) (S : Sto), i + n = ds.length → forGo s g b n i sd S = forL g b (ds.drop i) sd S
  | 0, i, sd, S, hi => by
    rw [List.drop_eq_nil_of_le (by omega)]
    simp [forGo, forL, h.fin]
  | n + 1, i, sd, S, hi => by
    have hlt : i < ds.length := by omega
    rw [List.drop_eq_getElem_cons hlt]
    unfold forGo forL
    rw [h.get S i hlt, List.getElem?_eq_getElem hlt]
    simp only []
    cases g ds[i] sd S with
    | none => rfl
    | some q =>
      obtain ⟨sd1, S1⟩ := q
      simp only []
      cases b sd1 S1 with
      | ok f sd2 S2 => cases f <;> simp only [forGo_list h n (i + 1) sd2 S2 (by omega)]
      | exc _ _ _ _ => rfl
      | bad => rfl
theorem for_list {s : Src} {ds : List D} (h : Sta s ds) {g : GM} {b : MS} {sd : Sl} {S : Sto} : forGo s g b s.len 0 sd S = forL g b ds sd S := by
  rw [forGo_list h s.len 0 sd S (by rw [h.len]; omega), List.drop_zero]
theorem forV {ds : List D} {g : GM} {b : MS} {sd : Sl} {S : Sto} : forGo (.vals ds) g b ds.length 0 sd S = forL g b ds sd S := for_list (sta_vals ds)
def lcL (g : GM) (c : M Bool) (e : M D) (sw : Sl) : List D → Sto → Out (List D)
  | [], S => .ok [] S
  | d :: l, S => match g d sw S with
    | none => .bad
    | some (sd, S1) => match c sd S1 with
      | .ok true S2 => match e sd S2 with
        | .ok y S3 => match lcL g c e sw l S3 with
          | .ok ys S4 => .ok (y :: ys) S4
          | _ => .bad
        | _ => .bad
      | .ok false S2 => lcL g c e sw l S2
      | _ => .bad
def preO (acc : List D) : Out (List D) → Out (List D)
  | .ok ys S => .ok (acc ++ ys) S
  | _ => .bad
theorem lcGo_list {s : Src} {ds : List D} (h : Sta s ds) {g : GM} {c : M Bool} {e : M D} {sw : Sl} : ∀ (n i : Nat) (acc : List D) (S : Sto), i + n = ds.length → acc.length + n ≤ 16777216 → lcGo s g c e sw n i acc S = preO acc (lcL g c e sw (ds.drop i) S)
  | 0, i, acc, S, hi, _ => by
    rw [List.drop_eq_nil_of_le (by omega)]
    simp [lcGo, lcL, h.fin, preO]
  | n + 1, i, acc, S, hi, hl => by
    have hlt : i < ds.length := by omega
    rw [List.drop_eq_getElem_cons hlt]
    unfold lcGo lcL
    rw [h.get S i hlt, List.getElem?_eq_getElem hlt]
    simp only []
    cases g ds[i] sw S with
    | none => rfl
    | some q =>
      obtain ⟨sd1, S1⟩ := q
      simp only []
      cases c sd1 S1 with
      | ok f S2 =>
        cases f with
        | false => simp only [lcGo_list h n (i + 1) acc S2 (by omega) (by omega)]
        | true =>
          simp only []
          cases e sd1 S2 with
          | ok y S3 =>
            simp only []
            rw [if_pos (by omega), lcGo_list h n (i + 1) (acc ++ [y]) S3 (by omega) (by simp; omega)]
            cases lcL g c e sw (ds.drop (i + 1)) S3 with
            | ok ys S4 => simp [preO]
            | exc _ _ _ => rfl
            | bad => rfl
          | exc _ _ _ => rfl
          | bad => rfl
      | exc _ _ _ => rfl
      | bad => rfl
theorem lc_list {s : Src} {ds : List D} (h : Sta s ds) (hl : ds.length ≤ 16777216) {g : GM} {c : M Bool} {e : M D} {sw : Sl} {S : Sto} {ys : List D} {S' : Sto} (hy : lcL g c e sw ds S = .ok ys S') : lcGo s g c e sw s.len 0 [] S = .ok ys S' := by
  rw [lcGo_list h s.len 0 [] S (by rw [h.len]; omega) (by rw [h.len]; simpa using hl), List.drop_zero, hy]
  rfl
/-- a comprehension that leaves the store alone -/
theorem lcL_pure {g : GM} {c : M Bool} {e : M D} {sw : Sl} {S : Sto} {h : D → D} : ∀ {ds : List D}, (∀ d ∈ ds, ∃ sd, g d sw S = some (sd, S) ∧ c sd S = .ok true S ∧ e sd S = .ok (h d) S) → lcL g c e sw ds S = .ok (ds.map h) S
  | [], _ => rfl
  | d :: l, hy => by
    obtain ⟨sd, h1, h2, h3⟩ := hy d (.head _)
    unfold lcL
    simp only [h1, h2, h3, lcL_pure (ds := l) fun d hd => hy d (.tail _ hd), List.map_cons]
end Z

/-! Programs as plain data: sums, statements, blocks; what they come to. -/
namespace Z
open PySem PySem.Spec PyProof.Rows L2
@[simp] theorem isi_non {S : Sto} {t : Ty} : isiD S .non t = some false := rfl
@[simp] theorem isi_int {S : Sto} {i : Int} {t : Ty} : isiD S (.int i) t = some (match t with | .int => true | _ => false) := rfl
@[simp] theorem isi_bl {S : Sto} {b : Bool} {t : Ty} : isiD S (.bl b) t = some (match t with | .bool => true | .int => true | _ => false) := rfl
@[simp] theorem isi_str {S : Sto} {x : Str} {t : Ty} : isiD S (.str x) t = some (match t with | .str => true | _ => false) := rfl
@[simp] theorem isi_tup {S : Sto} {xs : List D} {t : Ty} : isiD S (.tup xs) t = some (match t with | .tuple => true | _ => false) := rfl
@[simp] theorem isi_lst {S : Sto} {xs : List D} {t : Ty} : isiD S (.lst xs) t = some (match t with | .list => true | _ => false) := rfl
@[simp] theorem isi_fro {S : Sto} {xs : List D} {t : Ty} : isiD S (.fro xs) t = some (match t with | .list => true | _ => false) := rfl
@[simp] theorem truB {S : Sto} {b : Bool} : truP S (.bl b) = some b := rfl
@[simp] theorem eqI {S : Sto} {i j : Int} : eqD S (.int i) (.int j) = some (.bl (decide (i = j))) := rfl
@[simp] theorem neI {S : Sto} {i j : Int} : neD S (.int i) (.int j) = some (.bl (!decide (i = j))) := rfl
@[simp] theorem eqSt {S : Sto} {i j : Str} : eqD S (.str i) (.str j) = some (.bl (decide (i = j))) := rfl
@[simp] theorem neSt {S : Sto} {i j : Str} : neD S (.str i) (.str j) = some (.bl (!decide (i = j))) := rfl
@[simp] theorem lenT {S : Sto} {xs : List D} : lenD S (.tup xs) = some (.int xs.length) := rfl
@[simp] theorem w_do_set : (("do" : Str) = "set") = False := eq_false (by decide +kernel)
@[simp] theorem w_do_if : (("do" : Str) = "if") = False := eq_false (by decide +kernel)
@[simp] theorem w_do_stop : (("do" : Str) = "stop") = False := eq_false (by decide +kernel)
@[simp] theorem w_do_cell : (("do" : Str) = "cell") = False := eq_false (by decide +kernel)
@[simp] theorem w_do_known : (("do" : Str) = "known") = False := eq_false (by decide +kernel)
@[simp] theorem w_do_secret : (("do" : Str) = "secret") = False := eq_false (by decide +kernel)
@[simp] theorem w_do_plus : (("do" : Str) = "plus") = False := eq_false (by decide +kernel)
@[simp] theorem w_do_times : (("do" : Str) = "times") = False := eq_false (by decide +kernel)
@[simp] theorem w_do_less : (("do" : Str) = "less") = False := eq_false (by decide +kernel)
@[simp] theorem w_do_same : (("do" : Str) = "same") = False := eq_false (by decide +kernel)
@[simp] theorem w_set_do : (("set" : Str) = "do") = False := eq_false (by decide +kernel)
@[simp] theorem w_set_if : (("set" : Str) = "if") = False := eq_false (by decide +kernel)
@[simp] theorem w_set_stop : (("set" : Str) = "stop") = False := eq_false (by decide +kernel)
@[simp] theorem w_set_cell : (("set" : Str) = "cell") = False := eq_false (by decide +kernel)
@[simp] theorem w_set_known : (("set" : Str) = "known") = False := eq_false (by decide +kernel)
@[simp] theorem w_set_secret : (("set" : Str) = "secret") = False := eq_false (by decide +kernel)
@[simp] theorem w_set_plus : (("set" : Str) = "plus") = False := eq_false (by decide +kernel)
@[simp] theorem w_set_times : (("set" : Str) = "times") = False := eq_false (by decide +kernel)
@[simp] theorem w_set_less : (("set" : Str) = "less") = False := eq_false (by decide +kernel)
@[simp] theorem w_set_same : (("set" : Str) = "same") = False := eq_false (by decide +kernel)
@[simp] theorem w_if_do : (("if" : Str) = "do") = False := eq_false (by decide +kernel)
@[simp] theorem w_if_set : (("if" : Str) = "set") = False := eq_false (by decide +kernel)
@[simp] theorem w_if_stop : (("if" : Str) = "stop") = False := eq_false (by decide +kernel)
@[simp] theorem w_if_cell : (("if" : Str) = "cell") = False := eq_false (by decide +kernel)
@[simp] theorem w_if_known : (("if" : Str) = "known") = False := eq_false (by decide +kernel)
@[simp] theorem w_if_secret : (("if" : Str) = "secret") = False := eq_false (by decide +kernel)
@[simp] theorem w_if_plus : (("if" : Str) = "plus") = False := eq_false (by decide +kernel)
@[simp] theorem w_if_times : (("if" : Str) = "times") = False := eq_false (by decide +kernel)
@[simp] theorem w_if_less : (("if" : Str) = "less") = False := eq_false (by decide +kernel)
@[simp] theorem w_if_same : (("if" : Str) = "same") = False := eq_false (by decide +kernel)
@[simp] theorem w_stop_do : (("stop" : Str) = "do") = False := eq_false (by decide +kernel)
@[simp] theorem w_stop_set : (("stop" : Str) = "set") = False := eq_false (by decide +kernel)
@[simp] theorem w_stop_if : (("stop" : Str) = "if") = False := eq_false (by decide +kernel)
@[simp] theorem w_stop_cell : (("stop" : Str) = "cell") = False := eq_false (by decide +kernel)
@[simp] theorem w_stop_known : (("stop" : Str) = "known") = False := eq_false (by decide +kernel)
@[simp] theorem w_stop_secret : (("stop" : Str) = "secret") = False := eq_false (by decide +kernel)
@[simp] theorem w_stop_plus : (("stop" : Str) = "plus") = False := eq_false (by decide +kernel)
@[simp] theorem w_stop_times : (("stop" : Str) = "times") = False := eq_false (by decide +kernel)
@[simp] theorem w_stop_less : (("stop" : Str) = "less") = False := eq_false (by decide +kernel)
@[simp] theorem w_stop_same : (("stop" : Str) = "same") = False := eq_false (by decide +kernel)
@[simp] theorem w_cell_do : (("cell" : Str) = "do") = False := eq_false (by decide +kernel)
@[simp] theorem w_cell_set : (("cell" : Str) = "set") = False := eq_false (by decide +kernel)
@[simp] theorem w_cell_if : (("cell" : Str) = "if") = False := eq_false (by decide +kernel)
@[simp] theorem w_cell_stop : (("cell" : Str) = "stop") = False := eq_false (by decide +kernel)
@[simp] theorem w_cell_known : (("cell" : Str) = "known") = False := eq_false (by decide +kernel)
@[simp] theorem w_cell_secret : (("cell" : Str) = "secret") = False := eq_false (by decide +kernel)
@[simp] theorem w_cell_plus : (("cell" : Str) = "plus") = False := eq_false (by decide +kernel)
@[simp] theorem w_cell_times : (("cell" : Str) = "times") = False := eq_false (by decide +kernel)
@[simp] theorem w_cell_less : (("cell" : Str) = "less") = False := eq_false (by decide +kernel)
@[simp] theorem w_cell_same : (("cell" : Str) = "same") = False := eq_false (by decide +kernel)
@[simp] theorem w_known_do : (("known" : Str) = "do") = False := eq_false (by decide +kernel)
@[simp] theorem w_known_set : (("known" : Str) = "set") = False := eq_false (by decide +kernel)
@[simp] theorem w_known_if : (("known" : Str) = "if") = False := eq_false (by decide +kernel)
@[simp] theorem w_known_stop : (("known" : Str) = "stop") = False := eq_false (by decide +kernel)
@[simp] theorem w_known_cell : (("known" : Str) = "cell") = False := eq_false (by decide +kernel)
@[simp] theorem w_known_secret : (("known" : Str) = "secret") = False := eq_false (by decide +kernel)
@[simp] theorem w_known_plus : (("known" : Str) = "plus") = False := eq_false (by decide +kernel)
@[simp] theorem w_known_times : (("known" : Str) = "times") = False := eq_false (by decide +kernel)
@[simp] theorem w_known_less : (("known" : Str) = "less") = False := eq_false (by decide +kernel)
@[simp] theorem w_known_same : (("known" : Str) = "same") = False := eq_false (by decide +kernel)
@[simp] theorem w_secret_do : (("secret" : Str) = "do") = False := eq_false (by decide +kernel)
@[simp] theorem w_secret_set : (("secret" : Str) = "set") = False := eq_false (by decide +kernel)
@[simp] theorem w_secret_if : (("secret" : Str) = "if") = False := eq_false (by decide +kernel)
@[simp] theorem w_secret_stop : (("secret" : Str) = "stop") = False := eq_false (by decide +kernel)
@[simp] theorem w_secret_cell : (("secret" : Str) = "cell") = False := eq_false (by decide +kernel)
@[simp] theorem w_secret_known : (("secret" : Str) = "known") = False := eq_false (by decide +kernel)
@[simp] theorem w_secret_plus : (("secret" : Str) = "plus") = False := eq_false (by decide +kernel)
@[simp] theorem w_secret_times : (("secret" : Str) = "times") = False := eq_false (by decide +kernel)
@[simp] theorem w_secret_less : (("secret" : Str) = "less") = False := eq_false (by decide +kernel)
@[simp] theorem w_secret_same : (("secret" : Str) = "same") = False := eq_false (by decide +kernel)
@[simp] theorem w_plus_do : (("plus" : Str) = "do") = False := eq_false (by decide +kernel)
@[simp] theorem w_plus_set : (("plus" : Str) = "set") = False := eq_false (by decide +kernel)
@[simp] theorem w_plus_if : (("plus" : Str) = "if") = False := eq_false (by decide +kernel)
@[simp] theorem w_plus_stop : (("plus" : Str) = "stop") = False := eq_false (by decide +kernel)
@[simp] theorem w_plus_cell : (("plus" : Str) = "cell") = False := eq_false (by decide +kernel)
@[simp] theorem w_plus_known : (("plus" : Str) = "known") = False := eq_false (by decide +kernel)
@[simp] theorem w_plus_secret : (("plus" : Str) = "secret") = False := eq_false (by decide +kernel)
@[simp] theorem w_plus_times : (("plus" : Str) = "times") = False := eq_false (by decide +kernel)
@[simp] theorem w_plus_less : (("plus" : Str) = "less") = False := eq_false (by decide +kernel)
@[simp] theorem w_plus_same : (("plus" : Str) = "same") = False := eq_false (by decide +kernel)
@[simp] theorem w_times_do : (("times" : Str) = "do") = False := eq_false (by decide +kernel)
@[simp] theorem w_times_set : (("times" : Str) = "set") = False := eq_false (by decide +kernel)
@[simp] theorem w_times_if : (("times" : Str) = "if") = False := eq_false (by decide +kernel)
@[simp] theorem w_times_stop : (("times" : Str) = "stop") = False := eq_false (by decide +kernel)
@[simp] theorem w_times_cell : (("times" : Str) = "cell") = False := eq_false (by decide +kernel)
@[simp] theorem w_times_known : (("times" : Str) = "known") = False := eq_false (by decide +kernel)
@[simp] theorem w_times_secret : (("times" : Str) = "secret") = False := eq_false (by decide +kernel)
@[simp] theorem w_times_plus : (("times" : Str) = "plus") = False := eq_false (by decide +kernel)
@[simp] theorem w_times_less : (("times" : Str) = "less") = False := eq_false (by decide +kernel)
@[simp] theorem w_times_same : (("times" : Str) = "same") = False := eq_false (by decide +kernel)
@[simp] theorem w_less_do : (("less" : Str) = "do") = False := eq_false (by decide +kernel)
@[simp] theorem w_less_set : (("less" : Str) = "set") = False := eq_false (by decide +kernel)
@[simp] theorem w_less_if : (("less" : Str) = "if") = False := eq_false (by decide +kernel)
@[simp] theorem w_less_stop : (("less" : Str) = "stop") = False := eq_false (by decide +kernel)
@[simp] theorem w_less_cell : (("less" : Str) = "cell") = False := eq_false (by decide +kernel)
@[simp] theorem w_less_known : (("less" : Str) = "known") = False := eq_false (by decide +kernel)
@[simp] theorem w_less_secret : (("less" : Str) = "secret") = False := eq_false (by decide +kernel)
@[simp] theorem w_less_plus : (("less" : Str) = "plus") = False := eq_false (by decide +kernel)
@[simp] theorem w_less_times : (("less" : Str) = "times") = False := eq_false (by decide +kernel)
@[simp] theorem w_less_same : (("less" : Str) = "same") = False := eq_false (by decide +kernel)
@[simp] theorem w_same_do : (("same" : Str) = "do") = False := eq_false (by decide +kernel)
@[simp] theorem w_same_set : (("same" : Str) = "set") = False := eq_false (by decide +kernel)
@[simp] theorem w_same_if : (("same" : Str) = "if") = False := eq_false (by decide +kernel)
@[simp] theorem w_same_stop : (("same" : Str) = "stop") = False := eq_false (by decide +kernel)
@[simp] theorem w_same_cell : (("same" : Str) = "cell") = False := eq_false (by decide +kernel)
@[simp] theorem w_same_known : (("same" : Str) = "known") = False := eq_false (by decide +kernel)
@[simp] theorem w_same_secret : (("same" : Str) = "secret") = False := eq_false (by decide +kernel)
@[simp] theorem w_same_plus : (("same" : Str) = "plus") = False := eq_false (by decide +kernel)
@[simp] theorem w_same_times : (("same" : Str) = "times") = False := eq_false (by decide +kernel)
@[simp] theorem w_same_less : (("same" : Str) = "less") = False := eq_false (by decide +kernel)
inductive Opr | plus | times | less | same
deriving DecidableEq
def Opr.s : Opr → Str
  | .plus => "plus" | .times => "times" | .less => "less" | .same => "same"
def Opr.ap : Opr → Int → Int → Int
  | .plus, a, b => a + b
  | .times, a, b => a * b
  | .less, a, b => if a < b then 1 else 0
  | .same, a, b => if a = b then 1 else 0
inductive Fm | num (n : Nat) | known | secret | cell (i : Nat) | op (o : Opr) (a b : Fm)
deriving DecidableEq
namespace Fm
def d : Fm → D
  | .num n => .int n
  | .known => .str "known"
  | .secret => .str "secret"
  | .cell i => .tup [.str "cell", .int i]
  | .op o a b => .tup [.str o.s, a.d, b.d]
/-- cells below w, numbers below ten -/
def ok (w : Nat) : Fm → Bool
  | .num n => n < 10
  | .known => true
  | .secret => true
  | .cell i => i < w
  | .op _ a b => a.ok w && b.ok w
def dep : Fm → Nat
  | .op _ a b => max a.dep b.dep + 1
  | _ => 0
def sz : Fm → Nat
  | .op _ a b => a.sz + b.sz + 1
  | _ => 1
def val (kn se : Int) (cs : List Int) : Fm → Int
  | .num n => n
  | .known => kn
  | .secret => se
  | .cell i => cs.getD i 0
  | .op o a b => o.ap (a.val kn se cs) (b.val kn se cs)
theorem sz_pos : ∀ f : Fm, 0 < f.sz
  | .num _ => by simp [sz] | .known => by simp [sz] | .secret => by simp [sz] | .cell _ => by simp [sz] | .op _ _ _ => by simp [sz]
theorem sz_dep : ∀ f : Fm, f.sz + 1 ≤ 2 ^ (f.dep + 1)
  | .num _ => by simp [sz, dep] | .known => by simp [sz, dep] | .secret => by simp [sz, dep] | .cell _ => by simp [sz, dep]
  | .op _ a b => by
    have h1 := sz_dep a
    have h2 := sz_dep b
    have e1 : 2 ^ (a.dep + 1) ≤ 2 ^ (max a.dep b.dep + 1) := Nat.pow_le_pow_right (by decide) (by omega)
    have e2 : 2 ^ (b.dep + 1) ≤ 2 ^ (max a.dep b.dep + 1) := Nat.pow_le_pow_right (by decide) (by omega)
    have e3 : 2 ^ (max a.dep b.dep + 1 + 1) = 2 ^ (max a.dep b.dep + 1) * 2 := Nat.pow_succ ..
    simp only [sz, dep, e3]
    omega
theorem val_bd {kn se : Int} {cs : List Int} (hk : 0 ≤ kn ∧ kn < 16) (hs : 0 ≤ se ∧ se < 16) (hc : ∀ c ∈ cs, 0 ≤ c ∧ c < 16) {w : Nat} : ∀ f : Fm, f.ok w = true → 0 ≤ f.val kn se cs ∧ f.val kn se cs < 2 ^ (4 * f.sz)
  | .num n, h => by
    simp [ok] at h
    exact ⟨by simp [val], by simp [val, sz]; omega⟩
  | .known, h => by simp [val, sz]; omega
  | .secret, h => by simp [val, sz]; omega
  | .cell i, h => by
    simp only [val, sz, List.getD]
    cases e : cs[i]? with
    | none => simp
    | some c => have := hc c (List.mem_of_getElem? e); simp; omega
  | .op o a b, h => by
    simp only [ok, Bool.and_eq_true] at h
    obtain ⟨a0, a1⟩ := val_bd hk hs hc a h.1
    obtain ⟨b0, b1⟩ := val_bd hk hs hc b h.2
    have e : (2 : Int) ^ (4 * (a.sz + b.sz + 1)) = 2 ^ (4 * a.sz) * 2 ^ (4 * b.sz) * 16 := by
      rw [show 4 * (a.sz + b.sz + 1) = 4 * a.sz + 4 * b.sz + 4 by omega, Int.pow_add, Int.pow_add]; rfl
    have pa : (1 : Int) ≤ 2 ^ (4 * a.sz) := by
      have : (0 : Int) < 2 ^ (4 * a.sz) := Int.pow_pos (by decide)
      omega
    have pb : (1 : Int) ≤ 2 ^ (4 * b.sz) := by
      have : (0 : Int) < 2 ^ (4 * b.sz) := Int.pow_pos (by decide)
      omega
    simp only [val, sz, e]
    generalize (2 : Int) ^ (4 * a.sz) = p at *
    generalize (2 : Int) ^ (4 * b.sz) = q at *
    generalize a.val kn se cs = x at *
    generalize b.val kn se cs = y at *
    have pq : 1 ≤ p * q := by
      have := Int.mul_le_mul pa pb (by decide) (by omega)
      omega
    have xy : x * y ≤ p * q := Int.mul_le_mul (by omega) (by omega) b0 (by omega)
    have xp : p ≤ p * q := by
      have := Int.mul_le_mul_of_nonneg_left pb (show 0 ≤ p by omega)
      omega
    have yq : q ≤ p * q := by
      have := Int.mul_le_mul_of_nonneg_right pa (show 0 ≤ q by omega)
      omega
    cases o with
    | plus => simp only [Opr.ap]; omega
    | times => simp only [Opr.ap]; exact ⟨Int.mul_nonneg a0 b0, by omega⟩
    | less => simp only [Opr.ap]; split <;> omega
    | same => simp only [Opr.ap]; split <;> omega
end Fm
mutual
inductive Stm | do_ (i : Nat) | set (i : Nat) (x : Fm) | stop | iff (x : Fm) (a b : Blk)
inductive Blk | nil | cons (s : Stm) (b : Blk)
end
mutual
def Stm.d : Stm → D
  | .do_ i => .tup [.str "do", .int i]
  | .set i x => .tup [.str "set", .int i, x.d]
  | .stop => .tup [.str "stop"]
  | .iff x a b => .tup [.str "if", x.d, .tup a.ds, .tup b.ds]
def Blk.ds : Blk → List D
  | .nil => []
  | .cons s b => s.d :: b.ds
end
mutual
def Stm.ok (p w : Nat) : Stm → Bool
  | .do_ i => i < p
  | .set i x => i < w && x.ok w
  | .stop => true
  | .iff x a b => x.ok w && a.ok p w && b.ok p w
def Blk.ok (p w : Nat) : Blk → Bool
  | .nil => true
  | .cons s b => s.ok p w && b.ok p w
end
mutual
/-- how deep ifs lie -/
def Stm.dep : Stm → Nat
  | .iff _ a b => max a.dep b.dep + 1
  | _ => 0
def Blk.dep : Blk → Nat
  | .nil => 0
  | .cons s b => max s.dep b.dep
end
mutual
/-- how deep the sums are at most -/
def Stm.fd : Stm → Nat
  | .set _ x => x.dep
  | .iff x a b => max x.dep (max a.fd b.fd)
  | _ => 0
def Blk.fd : Blk → Nat
  | .nil => 0
  | .cons s b => max s.fd b.fd
end
mutual
/-- parts -/
def Stm.sz : Stm → Nat
  | .set _ x => 1 + x.sz
  | .iff x a b => 1 + x.sz + a.sz + b.sz
  | _ => 1
def Blk.sz : Blk → Nat
  | .nil => 0
  | .cons s b => s.sz + b.sz
end
mutual
/-- the longest block -/
def Stm.wd : Stm → Nat
  | .iff _ a b => max a.wd b.wd
  | _ => 0
def Blk.wd : Blk → Nat
  | .nil => 0
  | .cons s b => max (max s.wd b.wd) (b.ds.length + 1)
end
def Blk.app : Blk → Blk → Blk
  | .nil, c => c
  | .cons s b, c => .cons s (b.app c)
theorem Blk.app_ds : ∀ a b : Blk, (a.app b).ds = a.ds ++ b.ds
  | .nil, b => by simp [Blk.app, Blk.ds]
  | .cons s a, b => by simp [Blk.app, Blk.ds, Blk.app_ds a b]
theorem Blk.app_ok {p w : Nat} : ∀ {a b : Blk}, a.ok p w = true → b.ok p w = true → (a.app b).ok p w = true
  | .nil, b, _, h => by simpa [Blk.app] using h
  | .cons s a, b, h, h2 => by
    simp only [Blk.app, Blk.ok, Bool.and_eq_true] at h ⊢
    exact ⟨h.1, Blk.app_ok h.2 h2⟩
theorem Blk.app_dep : ∀ a b : Blk, (a.app b).dep = max a.dep b.dep
  | .nil, b => by simp [Blk.app, Blk.dep]
  | .cons s a, b => by simp [Blk.app, Blk.dep, Blk.app_dep a b]
theorem Blk.app_fd : ∀ a b : Blk, (a.app b).fd = max a.fd b.fd
  | .nil, b => by simp [Blk.app, Blk.fd]
  | .cons s a, b => by simp [Blk.app, Blk.fd, Blk.app_fd a b]
theorem Blk.app_sz : ∀ a b : Blk, (a.app b).sz = a.sz + b.sz
  | .nil, b => by simp [Blk.app, Blk.sz]
  | .cons s a, b => by simp [Blk.app, Blk.sz, Blk.app_sz a b]; omega
/-- what a run has done -/
structure Rn where
  cnt : List Int
  cel : List Int
  stp : Bool
def incr : List Int → Nat → List Int
  | [], _ => []
  | x :: xs, 0 => (x + 1) :: xs
  | x :: xs, i + 1 => x :: incr xs i
mutual
def Stm.go (sz : List Int) (kn se : Int) : Stm → Rn → Rn
  | .do_ i, r => ⟨incr r.cnt i, r.cel, false⟩
  | .set i x, r => ⟨r.cnt, r.cel.set i (x.val kn se r.cel % sz.getD i 1), false⟩
  | .stop, r => ⟨r.cnt, r.cel, true⟩
  | .iff x a b, r => if x.val kn se r.cel ≠ 0 then a.go sz kn se r else b.go sz kn se r
def Blk.go (sz : List Int) (kn se : Int) : Blk → Rn → Rn
  | .nil, r => r
  | .cons s b, r => if (s.go sz kn se r).stp then s.go sz kn se r else b.go sz kn se (s.go sz kn se r)
end
end Z

/-! Drawn programs, first family: sums and blocks. -/
namespace Z
open PySem PySem.Spec PyProof.Rows L2
/-- rows by name -/
structure Ix where
  value_of : Nat := 0
  run : Nat := 0
  product : Nat := 0
  time : Nat := 0
  law_deck : Nat := 0
  law_draw : Nat := 0
  law_one : Nat := 0
  law_sum : Nat := 0
  law_block : Nat := 0
  law_program : Nat := 0
  law_wide : Nat := 0
  law_chain : Nat := 0
  law_deeper : Nat := 0
  law_value : Nat := 0
  law_go : Nat := 0
  law_run : Nat := 0
  law_time : Nat := 0
  law_word : Nat := 0
  Stand_init : Nat := 0
  Stand_go : Nat := 0
  Stand_do : Nat := 0
  gKNOWN : Nat := 0
  gSECRET : Nat := 0
  c0 : Nat := 0
def B_law_sum (x : Ix) : Ss := (.cons (.asg (.nm 3) (.call x.law_draw (.cons (.v 0) (.cons (.ifx (.cmp .Gt (.v 2) (.c (.int 0))) (.c (.int 6)) (.c (.int 4))) .nil)))) (.cons (.ite (.cmp .Lt (.v 3) (.c (.int 2))) (.cons (.ret (.call x.law_one (.cons (.v 0) (.cons (.lst false (.cons (.c (.str "known")) (.cons (.c (.str "secret")) (.cons (.c (.str "secret")) .nil)))) .nil)))) .nil) .nil) (.cons (.ite (.cmp .Eq (.v 3) (.c (.int 2))) (.cons (.ret (.call x.law_draw (.cons (.v 0) (.cons (.c (.int 4)) .nil)))) .nil) .nil) (.cons (.ite (.cmp .Eq (.v 3) (.c (.int 3))) (.cons (.ret (.tup (.cons (.c (.str "cell")) (.cons (.call x.law_draw (.cons (.v 0) (.cons (.v 1) .nil))) .nil)))) .nil) .nil) (.cons (.asg (.nm 4) (.call x.law_one (.cons (.v 0) (.cons (.lst false (.cons (.c (.str "plus")) (.cons (.c (.str "times")) (.cons (.c (.str "less")) (.cons (.c (.str "same")) (.cons (.c (.str "same")) (.cons (.c (.str "less")) .nil))))))) .nil)))) (.cons (.ret (.tup (.cons (.v 4) (.cons (.call x.law_sum (.cons (.v 0) (.cons (.v 1) (.cons (.op .Sub (.v 2) (.c (.int 1))) .nil)))) (.cons (.call x.law_sum (.cons (.v 0) (.cons (.v 1) (.cons (.op .Sub (.v 2) (.c (.int 1))) .nil)))) .nil))))) .nil))))))
def B_law_block (x : Ix) : Ss := (.cons (.asg (.nm 4) (.lst true .nil)) (.cons (.for_ (.nm 5) (.rng1 (.cons (.call x.law_draw (.cons (.v 0) (.cons (.c (.int 4)) .nil))) .nil)) (.cons (.ite (.cmp .Gt (.ix (.v 2) (.c (.int 0))) (.c (.int 0))) (.cons (.asg (.sub (.v 2) (.c (.int 0))) (.op .Sub (.ix (.v 2) (.c (.int 0))) (.c (.int 1)))) (.cons (.asg (.nm 6) (.call x.law_draw (.cons (.v 0) (.cons (.ifx (.cmp .Gt (.v 3) (.c (.int 0))) (.c (.int 8)) (.c (.int 5))) .nil)))) (.cons (.ite (.cmp .Lt (.v 6) (.c (.int 3))) (.cons (.ex (.app (.v 4) (.cons (.tup (.cons (.c (.str "do")) (.cons (.call x.law_draw (.cons (.v 0) (.cons (.ix (.v 1) (.c (.int 0))) .nil))) .nil))) .nil))) .nil) (.cons (.ite (.cmp .Lt (.v 6) (.c (.int 5))) (.cons (.ex (.app (.v 4) (.cons (.tup (.cons (.c (.str "set")) (.cons (.call x.law_draw (.cons (.v 0) (.cons (.ix (.v 1) (.c (.int 1))) .nil))) (.cons (.call x.law_sum (.cons (.v 0) (.cons (.ix (.v 1) (.c (.int 1))) (.cons (.c (.int 1)) .nil)))) .nil)))) .nil))) .nil) (.cons (.ite (.bo .And (.cons (.cmp .Eq (.v 6) (.c (.int 7))) (.cons (.cmp .Eq (.v 3) (.c (.int 2))) (.cons (.cmp .Eq (.call x.law_draw (.cons (.v 0) (.cons (.c (.int 2)) .nil))) (.c (.int 0))) .nil)))) (.cons (.ex (.app (.v 4) (.cons (.tup (.cons (.c (.str "stop")) .nil)) .nil))) .nil) (.cons (.asg (.nm 7) (.call x.law_sum (.cons (.v 0) (.cons (.ix (.v 1) (.c (.int 1))) (.cons (.c (.int 1)) .nil))))) (.cons (.asg (.nm 8) (.call x.law_block (.cons (.v 0) (.cons (.v 1) (.cons (.v 2) (.cons (.op .Sub (.v 3) (.c (.int 1))) .nil)))))) (.cons (.ite (.cmp .Eq (.call x.law_draw (.cons (.v 0) (.cons (.c (.int 6)) .nil))) (.c (.int 0))) (.cons (.asg (.nm 8) (.op .Add (.v 8) (.tup (.cons (.tup (.cons (.c (.str "stop")) .nil)) .nil)))) .nil) .nil) (.cons (.ex (.app (.v 4) (.cons (.tup (.cons (.c (.str "if")) (.cons (.v 7) (.cons (.v 8) (.cons (.call x.law_block (.cons (.v 0) (.cons (.v 1) (.cons (.v 2) (.cons (.op .Sub (.v 3) (.c (.int 1))) .nil))))) .nil))))) .nil))) .nil))))) .nil)) .nil)) .nil))) .nil) .nil)) (.cons (.ret (.bf .tup (.cons (.v 4) .nil))) .nil)))
def B_law_program (x : Ix) : Ss := (.cons (.par [6, 7, 8] (.cons (.op .Add (.c (.int 1)) (.call x.law_draw (.cons (.v 0) (.cons (.v 1) .nil)))) (.cons (.op .Add (.c (.int 1)) (.call x.law_draw (.cons (.v 0) (.cons (.v 1) .nil)))) (.cons (.op .Add (.c (.int 1)) (.call x.law_draw (.cons (.v 0) (.cons (.v 2) .nil)))) .nil)))) (.cons (.asg (.nm 3) (.call x.law_one (.cons (.v 0) (.cons (.lst false (.cons (.tup (.cons (.c (.int 2)) .nil)) (.cons (.tup (.cons (.c (.int 3)) .nil)) (.cons (.tup (.cons (.c (.int 2)) (.cons (.c (.int 2)) .nil))) (.cons (.tup (.cons (.c (.int 4)) .nil)) (.cons (.tup (.cons (.c (.int 2)) (.cons (.c (.int 3)) .nil))) .nil)))))) .nil)))) (.cons (.asg (.nm 4) (.lst false (.cons (.v 8) (.cons (.bf .len (.cons (.v 3) .nil)) .nil)))) (.cons (.asg (.nm 5) (.call x.law_block (.cons (.v 0) (.cons (.v 4) (.cons (.lst true (.cons (.c (.int 10)) .nil)) (.cons (.c (.int 2)) .nil)))))) (.cons (.ite (.cmp .Gt (.call x.law_draw (.cons (.v 0) (.cons (.c (.int 3)) .nil))) (.c (.int 0))) (.cons (.asg (.nm 5) (.op .Add (.v 5) (.tup (.cons (.tup (.cons (.c (.str "if")) (.cons (.call x.law_one (.cons (.v 0) (.cons (.lst false (.cons (.c (.str "secret")) (.cons (.tup (.cons (.c (.str "same")) (.cons (.c (.str "known")) (.cons (.c (.str "secret")) .nil)))) (.cons (.tup (.cons (.c (.str "cell")) (.cons (.c (.int 0)) .nil))) .nil)))) .nil))) (.cons (.tup (.cons (.tup (.cons (.c (.str "do")) (.cons (.c (.int 0)) .nil))) .nil)) (.cons (.tup .nil) .nil))))) .nil)))) .nil) .nil) (.cons (.ret (.tup (.cons (.v 6) (.cons (.v 7) (.cons (.v 8) (.cons (.v 3) (.cons (.v 5) (.cons (.call x.law_block (.cons (.v 0) (.cons (.v 4) (.cons (.lst true (.cons (.c (.int 4)) .nil)) (.cons (.c (.int 1)) .nil))))) .nil)))))))) .nil))))))
def B_law_wide (x : Ix) : Ss := (.cons (.par [6, 7] (.cons (.call x.law_one (.cons (.v 0) (.cons (.v 1) .nil))) (.cons (.op .Add (.c (.int 1)) (.call x.law_draw (.cons (.v 0) (.cons (.c (.int 5)) .nil)))) .nil))) (.cons (.asg (.nm 3) (.lst false (.cons (.v 7) (.cons (.bf .len (.cons (.v 6) .nil)) .nil)))) (.cons (.asg (.nm 4) (.call x.law_block (.cons (.v 0) (.cons (.v 3) (.cons (.lst true (.cons (.c (.int 10)) .nil)) (.cons (.c (.int 2)) .nil)))))) (.cons (.par [8, 9] (.cons (.op .Add (.c (.int 1)) (.call x.law_draw (.cons (.v 0) (.cons (.v 2) .nil)))) (.cons (.op .Add (.c (.int 1)) (.call x.law_draw (.cons (.v 0) (.cons (.v 2) .nil)))) .nil))) (.cons (.asg (.nm 5) (.tup (.cons (.c (.str "if")) (.cons (.tup (.cons (.c (.str "same")) (.cons (.tup (.cons (.c (.str "cell")) (.cons (.op .Sub (.bf .len (.cons (.v 6) .nil)) (.c (.int 1))) .nil))) (.cons (.c (.str "secret")) .nil)))) (.cons (.tup (.cons (.tup (.cons (.c (.str "do")) (.cons (.c (.int 0)) .nil))) .nil)) (.cons (.tup .nil) .nil)))))) (.cons (.ret (.tup (.cons (.v 8) (.cons (.v 9) (.cons (.v 7) (.cons (.v 6) (.cons (.op .Add (.v 4) (.tup (.cons (.v 5) .nil))) (.cons (.call x.law_block (.cons (.v 0) (.cons (.v 3) (.cons (.lst true (.cons (.c (.int 4)) .nil)) (.cons (.c (.int 1)) .nil))))) .nil)))))))) .nil))))))
structure FamA (T : List Fn) (x : Ix) : Prop where
  draw : T[x.law_draw]? = some ⟨2, 5, drawB 2147483477 6833 17 2147483543⟩
  one : T[x.law_one]? = some ⟨2, 2, oneB x.law_draw⟩
  sum : T[x.law_sum]? = some ⟨3, 5, B_law_sum x⟩
  block : T[x.law_block]? = some ⟨4, 9, B_law_block x⟩
  program : T[x.law_program]? = some ⟨3, 9, B_law_program x⟩
  wide : T[x.law_wide]? = some ⟨3, 10, B_law_wide x⟩
section
variable {T : List Fn} {G : Ev} {wf : Nat} {x : Ix}
theorem drw (F : FamA T x) {k : Nat} {S : Sto} {n : Int} {m : Nat} (h : Dk S 0 1 n) (hn : 0 ≤ n) (hn2 : n < 1000000) (hm : 0 < m) (hm2 : m < 1000000) :
    ∃ (r : Nat) (S' : Sto), run T G wf (k + 1) x.law_draw [.loc 1, .int m] S = .ok (.int r) S' ∧ r < m ∧ Dk S' 0 1 (n + 1) ∧ ∀ X, Kp S S' X :=
  drwG F.draw (by decide) h hn hn2 hm hm2
theorem one (F : FamA T x) {k : Nat} {S : Sto} {n : Int} {xs : List D} (h : Dk S 0 1 n) (hn : 0 ≤ n) (hn2 : n < 1000000) (hm : 0 < xs.length) (hm2 : xs.length < 1000000) :
    ∃ (d : D) (S' : Sto), run T G wf (k + 2) x.law_one [.loc 1, .lst xs] S = .ok d S' ∧ d ∈ xs ∧ Dk S' 0 1 (n + 1) ∧ ∀ X, Kp S S' X :=
  oneG F.draw F.one (by decide) h hn hn2 hm hm2
/-- a drawn sum -/
def SumV (w : Nat) (dep : Nat) (d : D) : Prop := ∃ f : Fm, d = f.d ∧ f.ok w = true ∧ f.dep ≤ dep
theorem op_mem {d : D} (h : d ∈ [D.str "plus", .str "times", .str "less", .str "same", .str "same", .str "less"]) : ∃ o : Opr, d = .str o.s := by
  simp only [List.mem_cons, List.not_mem_nil, or_false] at h
  rcases h with rfl | rfl | rfl | rfl | rfl | rfl
  · exact ⟨.plus, rfl⟩
  · exact ⟨.times, rfl⟩
  · exact ⟨.less, rfl⟩
  · exact ⟨.same, rfl⟩
  · exact ⟨.same, rfl⟩
  · exact ⟨.less, rfl⟩
theorem ks_mem {d : D} (h : d ∈ [D.str "known", .str "secret", .str "secret"]) {w : Nat} {dep : Nat} : SumV w dep d := by
  simp only [List.mem_cons, List.not_mem_nil, or_false] at h
  rcases h with rfl | rfl | rfl
  · exact ⟨.known, rfl, rfl, Nat.zero_le _⟩
  · exact ⟨.secret, rfl, rfl, Nat.zero_le _⟩
  · exact ⟨.secret, rfl, rfl, Nat.zero_le _⟩
theorem num_v {w : Nat} {dep : Nat} {r : Nat} (h : r < 10) : SumV w dep (.int r) := ⟨.num r, rfl, by simp [Fm.ok, h], Nat.zero_le _⟩
theorem cell_v {w : Nat} {dep : Nat} {r : Nat} (h : r < w) : SumV w dep (.tup [.str "cell", .int r]) := ⟨.cell r, rfl, by simp [Fm.ok, h], Nat.zero_le _⟩
theorem op_v {w dep : Nat} {o : Opr} {y z : D} (hy : SumV w dep y) (hz : SumV w dep z) : SumV w (dep + 1) (.tup [.str o.s, y, z]) := by
  obtain ⟨f, rfl, h1, h2⟩ := hy
  obtain ⟨g, rfl, h3, h4⟩ := hz
  exact ⟨.op o f g, rfl, by simp [Fm.ok, h1, h3], by simp only [Fm.dep]; omega⟩
theorem draw_sum (F : FamA T x) {w : Nat} (hw : 0 < w) (hw2 : w < 1000) : ∀ (dep : Nat) (k : Nat) (S : Sto) (n : Int), dep ≤ 1 → Dk S 0 1 n → 0 ≤ n → n + 10 * dep < 900000 →
    ∃ d S' n', run T G wf (k + dep + 3) x.law_sum [.loc 1, .int w, .int dep] S = .ok d S' ∧ SumV w dep d ∧ Dk S' 0 1 n' ∧ n ≤ n' ∧ n' ≤ n + 2 + 4 * dep ∧ ∀ X, Kp S S' X := by
  intro dep
  induction dep with
  | zero =>
    intro k S n hd h hn hn2
    obtain ⟨r, S1, e1, l1, d1, k1⟩ := drw (G := G) (wf := wf) F (k := k + 1) (m := 4) h hn (by omega) (by decide) (by decide)
    simp at e1
    rcases (show (r : Int) < 2 ∨ r = 2 ∨ r = 3 by omega) with z | rfl | rfl
    · obtain ⟨d, S2, e2, l2, d2, k2⟩ := one (G := G) (wf := wf) F (k := k) (xs := [D.str "known", .str "secret", .str "secret"]) d1 (by omega) (by omega) (by decide) (by decide)
      refine ⟨d, S2, n + 1 + 1, (run_succ F.sum rfl).trans ?_, ks_mem l2, d2, by omega, by omega, fun X => (k1 X).trans (k2 X)⟩
      simp [B_law_sum, slots0, e1, z, e2, fnEnd]
    · obtain ⟨r, S2, e2, l2, d2, k2⟩ := drw (G := G) (wf := wf) F (k := k + 1) (m := 4) d1 (by omega) (by omega) (by decide) (by decide)
      simp at e2
      refine ⟨_, S2, n + 1 + 1, (run_succ F.sum rfl).trans ?_, num_v (by omega : r < 10), d2, by omega, by omega, fun X => (k1 X).trans (k2 X)⟩
      simp [B_law_sum, slots0, e1, e2, fnEnd]
    · obtain ⟨r, S2, e2, l2, d2, k2⟩ := drw (G := G) (wf := wf) F (k := k + 1) (m := w) d1 (by omega) (by omega) hw (by omega)
      refine ⟨_, S2, n + 1 + 1, (run_succ F.sum rfl).trans ?_, cell_v (by omega : r < w), d2, by omega, by omega, fun X => (k1 X).trans (k2 X)⟩
      simp [B_law_sum, slots0, e1, e2, fnEnd]
  | succ dep ih =>
    intro k S n hd h hn hn2
    have z0 : dep = 0 := by omega
    subst z0
    obtain ⟨r, S1, e1, l1, d1, k1⟩ := drw (G := G) (wf := wf) F (k := k + 2) (m := 6) h hn (by omega) (by decide) (by decide)
    simp at e1
    rcases (show (r : Int) < 2 ∨ r = 2 ∨ r = 3 ∨ (¬ ((r : Int) < 2) ∧ ¬ ((r : Int) = 2) ∧ ¬ ((r : Int) = 3)) by omega) with z | rfl | rfl | ⟨z1, z2, z3⟩
    · obtain ⟨d, S2, e2, l2, d2, k2⟩ := one (G := G) (wf := wf) F (k := k + 1) (xs := [D.str "known", .str "secret", .str "secret"]) d1 (by omega) (by omega) (by decide) (by decide)
      refine ⟨d, S2, n + 1 + 1, (run_succ F.sum rfl).trans ?_, ks_mem l2, d2, by omega, by omega, fun X => (k1 X).trans (k2 X)⟩
      simp [B_law_sum, slots0, e1, z, e2, fnEnd]
    · obtain ⟨r, S2, e2, l2, d2, k2⟩ := drw (G := G) (wf := wf) F (k := k + 2) (m := 4) d1 (by omega) (by omega) (by decide) (by decide)
      simp at e2
      refine ⟨_, S2, n + 1 + 1, (run_succ F.sum rfl).trans ?_, num_v (by omega : r < 10), d2, by omega, by omega, fun X => (k1 X).trans (k2 X)⟩
      simp [B_law_sum, slots0, e1, e2, fnEnd]
    · obtain ⟨r, S2, e2, l2, d2, k2⟩ := drw (G := G) (wf := wf) F (k := k + 2) (m := w) d1 (by omega) (by omega) hw (by omega)
      refine ⟨_, S2, n + 1 + 1, (run_succ F.sum rfl).trans ?_, cell_v (by omega : r < w), d2, by omega, by omega, fun X => (k1 X).trans (k2 X)⟩
      simp [B_law_sum, slots0, e1, e2, fnEnd]
    · obtain ⟨d, S2, e2, l2, d2, k2⟩ := one (G := G) (wf := wf) F (k := k + 1) (xs := [D.str "plus", .str "times", .str "less", .str "same", .str "same", .str "less"]) d1 (by omega) (by omega) (by decide) (by decide)
      obtain ⟨s, rfl⟩ := op_mem l2
      obtain ⟨y, S3, n3, e3, v3, d3, g3, g3', k3⟩ := ih k S2 (n + 1 + 1) (by omega) d2 (by omega) (by omega)
      obtain ⟨u, S4, n4, e4, v4, d4, g4, g4', k4⟩ := ih k S3 n3 (by omega) d3 (by omega) (by omega)
      refine ⟨.tup [.str s.s, y, u], S4, n4, (run_succ F.sum rfl).trans ?_, op_v v3 v4, d4, by omega, by omega, fun X => (((k1 X).trans (k2 X)).trans (k3 X)).trans (k4 X)⟩
      simp at e3 e4
      simp [B_law_sum, slots0, e1, z1, z2, z3, e2, e3, e4, fnEnd]
end
end Z

/-! Drawn programs, first family: blocks. -/
namespace Z
open PySem PySem.Spec PyProof.Rows L2
def bb1 (x : Ix) : S1 := (.asg (.sub (.v 2) (.c (.int 0))) (.op .Sub (.ix (.v 2) (.c (.int 0))) (.c (.int 1))))
def bb2 (x : Ix) : S1 := (.asg (.nm 6) (.call x.law_draw (.cons (.v 0) (.cons (.ifx (.cmp .Gt (.v 3) (.c (.int 0))) (.c (.int 8)) (.c (.int 5))) .nil))))
def bb3 (x : Ix) : S1 := (.ite (.cmp .Lt (.v 6) (.c (.int 3))) (.cons (.ex (.app (.v 4) (.cons (.tup (.cons (.c (.str "do")) (.cons (.call x.law_draw (.cons (.v 0) (.cons (.ix (.v 1) (.c (.int 0))) .nil))) .nil))) .nil))) .nil) (.cons (.ite (.cmp .Lt (.v 6) (.c (.int 5))) (.cons (.ex (.app (.v 4) (.cons (.tup (.cons (.c (.str "set")) (.cons (.call x.law_draw (.cons (.v 0) (.cons (.ix (.v 1) (.c (.int 1))) .nil))) (.cons (.call x.law_sum (.cons (.v 0) (.cons (.ix (.v 1) (.c (.int 1))) (.cons (.c (.int 1)) .nil)))) .nil)))) .nil))) .nil) (.cons (.ite (.bo .And (.cons (.cmp .Eq (.v 6) (.c (.int 7))) (.cons (.cmp .Eq (.v 3) (.c (.int 2))) (.cons (.cmp .Eq (.call x.law_draw (.cons (.v 0) (.cons (.c (.int 2)) .nil))) (.c (.int 0))) .nil)))) (.cons (.ex (.app (.v 4) (.cons (.tup (.cons (.c (.str "stop")) .nil)) .nil))) .nil) (.cons (.asg (.nm 7) (.call x.law_sum (.cons (.v 0) (.cons (.ix (.v 1) (.c (.int 1))) (.cons (.c (.int 1)) .nil))))) (.cons (.asg (.nm 8) (.call x.law_block (.cons (.v 0) (.cons (.v 1) (.cons (.v 2) (.cons (.op .Sub (.v 3) (.c (.int 1))) .nil)))))) (.cons (.ite (.cmp .Eq (.call x.law_draw (.cons (.v 0) (.cons (.c (.int 6)) .nil))) (.c (.int 0))) (.cons (.asg (.nm 8) (.op .Add (.v 8) (.tup (.cons (.tup (.cons (.c (.str "stop")) .nil)) .nil)))) .nil) .nil) (.cons (.ex (.app (.v 4) (.cons (.tup (.cons (.c (.str "if")) (.cons (.v 7) (.cons (.v 8) (.cons (.call x.law_block (.cons (.v 0) (.cons (.v 1) (.cons (.v 2) (.cons (.op .Sub (.v 3) (.c (.int 1))) .nil))))) .nil))))) .nil))) .nil))))) .nil)) .nil))
def lbB (x : Ix) : Ss := .cons (.ite (.cmp .Gt (.ix (.v 2) (.c (.int 0))) (.c (.int 0))) (.cons (bb1 x) (.cons (bb2 x) (.cons (bb3 x) .nil))) .nil) .nil
theorem blk_is (x : Ix) : B_law_block x = .cons (.asg (.nm 4) (.lst true .nil)) (.cons (.for_ (.nm 5) (.rng1 (.cons (.call x.law_draw (.cons (.v 0) (.cons (.c (.int 4)) .nil))) .nil)) (lbB x)) (.cons (.ret (.bf .tup (.cons (.v 4) .nil))) .nil)) := by kernel_rfl
def bA (x : Ix) : Ss := (.cons (.ex (.app (.v 4) (.cons (.tup (.cons (.c (.str "do")) (.cons (.call x.law_draw (.cons (.v 0) (.cons (.ix (.v 1) (.c (.int 0))) .nil))) .nil))) .nil))) .nil)
def bBs (x : Ix) : Ss := (.cons (.ex (.app (.v 4) (.cons (.tup (.cons (.c (.str "set")) (.cons (.call x.law_draw (.cons (.v 0) (.cons (.ix (.v 1) (.c (.int 1))) .nil))) (.cons (.call x.law_sum (.cons (.v 0) (.cons (.ix (.v 1) (.c (.int 1))) (.cons (.c (.int 1)) .nil)))) .nil)))) .nil))) .nil)
def bC (x : Ix) : Ss := (.cons (.ex (.app (.v 4) (.cons (.tup (.cons (.c (.str "stop")) .nil)) .nil))) .nil)
def bd1 (x : Ix) : S1 := (.asg (.nm 7) (.call x.law_sum (.cons (.v 0) (.cons (.ix (.v 1) (.c (.int 1))) (.cons (.c (.int 1)) .nil)))))
def bd2 (x : Ix) : S1 := (.asg (.nm 8) (.call x.law_block (.cons (.v 0) (.cons (.v 1) (.cons (.v 2) (.cons (.op .Sub (.v 3) (.c (.int 1))) .nil))))))
def bd3 (x : Ix) : S1 := (.ite (.cmp .Eq (.call x.law_draw (.cons (.v 0) (.cons (.c (.int 6)) .nil))) (.c (.int 0))) (.cons (.asg (.nm 8) (.op .Add (.v 8) (.tup (.cons (.tup (.cons (.c (.str "stop")) .nil)) .nil)))) .nil) .nil)
def bd4 (x : Ix) : S1 := (.ex (.app (.v 4) (.cons (.tup (.cons (.c (.str "if")) (.cons (.v 7) (.cons (.v 8) (.cons (.call x.law_block (.cons (.v 0) (.cons (.v 1) (.cons (.v 2) (.cons (.op .Sub (.v 3) (.c (.int 1))) .nil))))) .nil))))) .nil)))
theorem bb3_is (x : Ix) : bb3 x = .ite (.cmp .Lt (.v 6) (.c (.int 3))) (bA x) (.cons (.ite (.cmp .Lt (.v 6) (.c (.int 5))) (bBs x) (.cons (.ite (.bo .And (.cons (.cmp .Eq (.v 6) (.c (.int 7))) (.cons (.cmp .Eq (.v 3) (.c (.int 2))) (.cons (.cmp .Eq (.call x.law_draw (.cons (.v 0) (.cons (.c (.int 2)) .nil))) (.c (.int 0))) .nil)))) (bC x) (.cons (bd1 x) (.cons (bd2 x) (.cons (bd3 x) (.cons (bd4 x) .nil))))) .nil)) .nil) := by kernel_rfl
/-- a drawn statement -/
structure StV (p w dep : Nat) (s : Stm) : Prop where
  ok : s.ok p w = true
  dep : s.dep ≤ dep
  fd : s.fd ≤ 1
  wd : s.wd ≤ 4
def Blk.of : List Stm → Blk
  | [] => .nil
  | s :: l => .cons s (Blk.of l)
theorem of_ds : ∀ l : List Stm, (Blk.of l).ds = l.map Stm.d
  | [] => rfl
  | s :: l => by simp [Blk.of, Blk.ds, of_ds l]
theorem of_sz : ∀ l : List Stm, (Blk.of l).sz = (l.map Stm.sz).sum
  | [] => rfl
  | s :: l => by simp [Blk.of, Blk.sz, of_sz l]
theorem of_ok {p w : Nat} : ∀ {l : List Stm}, (∀ s ∈ l, s.ok p w = true) → (Blk.of l).ok p w = true
  | [], _ => rfl
  | s :: l, h => by
    simp only [Blk.of, Blk.ok, Bool.and_eq_true]
    exact ⟨h s (.head _), of_ok fun s hs => h s (.tail _ hs)⟩
theorem of_dep {m : Nat} : ∀ {l : List Stm}, (∀ s ∈ l, s.dep ≤ m) → (Blk.of l).dep ≤ m
  | [], _ => by simp [Blk.of, Blk.dep]
  | s :: l, h => by
    simp only [Blk.of, Blk.dep]
    have h1 := h s (.head _)
    have h2 := of_dep (l := l) fun s hs => h s (.tail _ hs)
    omega
theorem of_fd {m : Nat} : ∀ {l : List Stm}, (∀ s ∈ l, s.fd ≤ m) → (Blk.of l).fd ≤ m
  | [], _ => by simp [Blk.of, Blk.fd]
  | s :: l, h => by
    simp only [Blk.of, Blk.fd]
    have h1 := h s (.head _)
    have h2 := of_fd (l := l) fun s hs => h s (.tail _ hs)
    omega
theorem of_wd {m : Nat} : ∀ {l : List Stm}, (∀ s ∈ l, s.wd ≤ m) → l.length ≤ m → (Blk.of l).wd ≤ m
  | [], _, _ => by simp [Blk.of, Blk.wd]
  | s :: l, h, hl => by
    simp only [Blk.of, Blk.wd, of_ds, List.length_map]
    simp at hl
    have h1 := h s (.head _)
    have h2 := of_wd (l := l) (fun s hs => h s (.tail _ hs)) (by omega)
    omega
theorem do_v {p w dep r : Nat} (h : r < p) : StV p w dep (.do_ r) := ⟨by simp [Stm.ok, h], Nat.zero_le _, Nat.zero_le _, Nat.zero_le _⟩
theorem stop_v {p w dep : Nat} : StV p w dep .stop := ⟨rfl, Nat.zero_le _, Nat.zero_le _, Nat.zero_le _⟩
theorem set_v {p w dep r : Nat} {y : Fm} (h : r < w) (h1 : y.ok w = true) (h2 : y.dep ≤ 1) : StV p w dep (.set r y) := ⟨by simp [Stm.ok, h, h1], Nat.zero_le _, h2, Nat.zero_le _⟩
theorem if_v {p w dep : Nat} {x : Fm} {ys zs : List Stm} (h1 : x.ok w = true) (h2 : x.dep ≤ 1) (ly : ys.length ≤ 4) (lz : zs.length ≤ 4) (hy : ∀ d ∈ ys, StV p w dep d) (hz : ∀ d ∈ zs, StV p w dep d) : StV p w (dep + 1) (.iff x (Blk.of ys) (Blk.of zs)) := by
  refine ⟨?_, ?_, ?_, ?_⟩
  · simp only [Stm.ok, Bool.and_eq_true]
    exact ⟨⟨h1, of_ok fun s hs => (hy s hs).ok⟩, of_ok fun s hs => (hz s hs).ok⟩
  · have a := of_dep fun s hs => (hy s hs).dep
    have b := of_dep fun s hs => (hz s hs).dep
    simp only [Stm.dep]; omega
  · have a := of_fd fun s hs => (hy s hs).fd
    have b := of_fd fun s hs => (hz s hs).fd
    simp only [Stm.fd]; omega
  · have a := of_wd (fun s hs => (hy s hs).wd) ly
    have b := of_wd (fun s hs => (hz s hs).wd) lz
    simp only [Stm.wd]; omega
theorem if_d {x : Fm} {ys zs : List Stm} : (Stm.iff x (Blk.of ys) (Blk.of zs)).d = .tup [.str "if", x.d, .tup (ys.map Stm.d), .tup (zs.map Stm.d)] := by simp [Stm.d, of_ds]
section
variable {T : List Fn} {G : Ev} {wf : Nat} {x : Ix}
theorem appE {C : Nat → List D → Sto → Out D} {sd : Sl} {S S2 : Sto} {f : Nat} {e : E} {y : D} {xs : List D} (h4 : sd[4]? = some (some (.loc f))) (he : dE G C e sd S = .ok y S2) (h0 : S[f]? = some (.lst xs)) (h3 : S2[f]? = some (.lst xs)) (hl : xs.length < 1000) :
    dSs G C wf (.cons (.ex (.app (.v 4) (.cons e .nil))) .nil) sd S = .ok .nx sd (S2.set f (.lst (xs ++ [y]))) := by
  have := app_ok (o := mVar 4) (a := dL G C (.cons e .nil)) (sd := sd) (S := S) (S2 := S2) (n := f) (y := y) (xs := xs) (q_mVar h4) h0 (by simp [he]) h3 (by omega)
  rw [q_scons, then_nx (sd1 := sd) (S1 := S2.set f (.lst (xs ++ [y])))]
  · rfl
  · simp only [q_sex, q_mExpr, q_eapp, q_ev, this]
theorem one_st {C : Nat → List D → Sto → Out D} {s : S1} {sd : Sl} {S : Sto} : dSs G C wf (.cons s .nil) sd S = dS G C wf s sd S := by
  rw [q_scons, q_snil, q_mThen]
  cases dS G C wf s sd S with
  | ok f sd S => cases f <;> rfl
  | exc _ _ _ _ => rfl
  | bad => rfl
def cost : Nat → Int
  | 0 => 30
  | 1 => 250
  | _ => 1700
def bcost : Nat → Int
  | 0 => 9
  | 1 => 80
  | _ => 550
/-- what a block of depth dep comes to -/
def BlkV (T : List Fn) (G : Ev) (wf : Nat) (x : Ix) (p w : Nat) (k dep : Nat) : Prop := ∀ (S : Sto) (n : Int) (mm r : Nat), Dk S 0 1 n → 0 ≤ n → n + cost dep < 800000 → 2 ≤ mm → S[mm]? = some (.lst [.int r]) →
  ∃ (ds : List Stm) (S' : Sto) (n' : Int) (r' : Nat), run T G wf k x.law_block [.loc 1, .lst [.int p, .int w], .loc mm, .int dep] S = .ok (.tup (ds.map Stm.d)) S' ∧ Dk S' 0 1 n' ∧ n ≤ n' ∧ n' ≤ n + cost dep ∧ S'[mm]? = some (.lst [.int (r' : Nat)]) ∧ r' ≤ r ∧ Kp S S' (· = mm) ∧ ds.length ≤ 3 ∧ (∀ d ∈ ds, StV p w dep d) ∧ (ds.map Stm.sz).sum ≤ 5 * (r - r')
structure BodyV (p w dep : Nat) (sh : D) (mm f : Nat) (found : List Stm) (S : Sto) (n : Int) (r : Nat) (o : OutS) (c : Int) : Prop where
  ex : ∃ (x5 x6 x7 x8 : Option D) (S' : Sto) (n' : Int) (r' : Nat) (new : List Stm), o = .ok .nx [some (.loc 1), some sh, some (.loc mm), some (.int dep), some (.loc f), x5, x6, x7, x8] S' ∧ Dk S' 0 1 n' ∧ n ≤ n' ∧ n' ≤ n + c ∧ S'[mm]? = some (.lst [.int (r' : Nat)]) ∧ r' ≤ r ∧
    S'[f]? = some (.lst ((found ++ new).map Stm.d)) ∧ new.length ≤ 1 ∧ (∀ d ∈ new, StV p w dep d) ∧ (new.map Stm.sz).sum ≤ 5 * (r - r') ∧ Kp S S' (fun c => c = mm ∨ c = f)
theorem body_ok (F : FamA T x) {p w dep K : Nat} (hp : 0 < p) (hp2 : p < 1000) (hw : 0 < w) (hw2 : w < 1000) (hd : dep ≤ 2) (rec : ∀ e, dep = e + 1 → BlkV T G wf x p w (K + 4) e) {S : Sto} {n : Int} {mm f r : Nat} {found : List Stm} {x5 x6 x7 x8 : Option D}
    (h : Dk S 0 1 n) (hn : 0 ≤ n) (hn2 : n + bcost dep < 800000) (hm : 2 ≤ mm) (hf : 2 ≤ f) (hmf : mm ≠ f) (hr : S[mm]? = some (.lst [.int r])) (hfo : S[f]? = some (.lst (found.map Stm.d))) (hl : found.length < 100) :
    BodyV p w dep (.lst [.int p, .int w]) mm f found S n r (dSs G (run T G wf (K + 4)) wf (lbB x) [some (.loc 1), some (.lst [.int p, .int w]), some (.loc mm), some (.int dep), some (.loc f), x5, x6, x7, x8] S) (bcost dep) := by
  have hcost : 30 ≤ cost dep := by
    match dep, hd with
    | 0, _ => decide
    | 1, _ => decide
    | 2, _ => decide
  have hc9 : (9 : Int) ≤ bcost dep := by
    match dep, hd with
    | 0, _ => decide
    | 1, _ => decide
    | 2, _ => decide
  have ir : ixP S (.loc mm) (.int 0) = some (.int r) := by rw [ix_loc hr (by decide) (by simp)]; rfl
  cases r with
  | zero =>
    refine ⟨x5, x6, x7, x8, S, n, 0, [], ?_, h, by omega, by omega, hr, by omega, by simpa using hfo, by simp, by simp, by simp, Kp.refl S _⟩
    simp at ir
    simp [lbB, ir]
  | succ r =>
    have zr : (0 : Int) < (r : Int) + 1 := by omega
    let S1 := S.set mm (.lst [.int r])
    have lm : mm < S.length := (List.getElem?_eq_some_iff.mp hr).1
    have h1 : Dk S1 0 1 n := h.set hm
    have f1 : S1[f]? = some (.lst (found.map Stm.d)) := by show (S.set mm _)[f]? = _; rw [List.getElem?_set_ne hmf]; exact hfo
    have m1 : S1[mm]? = some (.lst [.int r]) := by show (S.set mm _)[mm]? = _; simp [lm]
    have k1 : Kp S S1 (fun c => c = mm ∨ c = f) := Kp.set (.inl rfl)
    have s1 : dS G (run T G wf (K + 4)) wf (bb1 x) [some (.loc 1), some (.lst [.int p, .int w]), some (.loc mm), some (.int dep), some (.loc f), x5, x6, x7, x8] S = .ok .nx [some (.loc 1), some (.lst [.int p, .int w]), some (.loc mm), some (.int dep), some (.loc f), x5, x6, x7, x8] S1 := by
      have e : ((r + 1 : Nat) : Int) - 1 = r := by omega
      simp at ir hr
      simp [bb1, ir, gSubM, hr, ixN, S1]
    obtain ⟨wy, S2, e2, l2, d2, k2⟩ := drw (G := G) (wf := wf) F (k := K + 3) (m := if 0 < dep then 8 else 5) h1 hn (by omega) (by split <;> decide) (by split <;> decide)
    have f2 := (k2 fun _ => False).at f1 hf id
    have m2 := (k2 fun _ => False).at m1 hm id
    have s2 : dS G (run T G wf (K + 4)) wf (bb2 x) [some (.loc 1), some (.lst [.int p, .int w]), some (.loc mm), some (.int dep), some (.loc f), x5, x6, x7, x8] S1 = .ok .nx [some (.loc 1), some (.lst [.int p, .int w]), some (.loc mm), some (.int dep), some (.loc f), x5, some (.int wy), x7, x8] S2 := by
      by_cases zd : 0 < dep
      · have zd' : (0 : Int) < dep := by omega
        rw [if_pos zd] at e2
        simp at e2
        simp [bb2, zd, e2]
      · have zd' : ¬ (0 : Int) < dep := by omega
        rw [if_neg zd] at e2
        simp at e2
        simp [bb2, zd, e2]
    have hb : dSs G (run T G wf (K + 4)) wf (lbB x) [some (.loc 1), some (.lst [.int p, .int w]), some (.loc mm), some (.int dep), some (.loc f), x5, x6, x7, x8] S = dSs G (run T G wf (K + 4)) wf (.cons (bb3 x) .nil) [some (.loc 1), some (.lst [.int p, .int w]), some (.loc mm), some (.int dep), some (.loc f), x5, some (.int wy), x7, x8] S2 := by
      have : dSs G (run T G wf (K + 4)) wf (.cons (bb1 x) (.cons (bb2 x) (.cons (bb3 x) .nil))) [some (.loc 1), some (.lst [.int p, .int w]), some (.loc mm), some (.int dep), some (.loc f), x5, x6, x7, x8] S = dSs G (run T G wf (K + 4)) wf (.cons (bb3 x) .nil) [some (.loc 1), some (.lst [.int p, .int w]), some (.loc mm), some (.int dep), some (.loc f), x5, some (.int wy), x7, x8] S2 := by
        rw [q_scons, then_nx s1, q_scons, then_nx s2]
      simp at ir
      unfold lbB
      rw [q_scons, q_mThen, q_site, q_mIte]
      simp only [q_tcmp, q_mBl, q_mBin, q_eix, q_ev, q_ec, q_mC, q_mVar (show [some (D.loc 1), some (.lst [.int p, .int w]), some (.loc mm), some (.int dep), some (.loc f), x5, x6, x7, x8][2]? = some (some (.loc mm)) from rfl), ir, q_liftS, q_cmGt, zr, decide_true, q_toB, ↓reduceIte, this]
      cases dSs G (run T G wf (K + 4)) wf (.cons (bb3 x) .nil) [some (.loc 1), some (.lst [.int p, .int w]), some (.loc mm), some (.int dep), some (.loc f), x5, some (.int wy), x7, x8] S2 with
      | ok fl sd S => cases fl <;> rfl
      | exc _ _ _ _ => rfl
      | bad => rfl
    rw [hb, bb3_is]
    have k12 : Kp S S2 (fun c => c = mm ∨ c = f) := k1.trans (k2 _)
    have sh0 : ∀ S : Sto, ixP S (.lst [.int p, .int w]) (.int 0) = some (.int p) := fun _ => rfl
    have sh1 : ∀ S : Sto, ixP S (.lst [.int p, .int w]) (.int 1) = some (.int w) := fun _ => rfl
    have lf : f < S2.length := (List.getElem?_eq_some_iff.mp f2).1
    by_cases w3 : (wy : Int) < 3
    · -- do
      obtain ⟨q, S3, e3, l3, d3, k3⟩ := drw (G := G) (wf := wf) F (k := K + 3) (m := p) d2 (by omega) (by omega) hp (by omega)
      have f3 := (k3 fun _ => False).at f2 hf id
      have m3 := (k3 fun _ => False).at m2 hm id
      have a : dSs G (run T G wf (K + 4)) wf (bA x) [some (.loc 1), some (.lst [.int p, .int w]), some (.loc mm), some (.int dep), some (.loc f), x5, some (.int wy), x7, x8] S2 = .ok .nx [some (.loc 1), some (.lst [.int p, .int w]), some (.loc mm), some (.int dep), some (.loc f), x5, some (.int wy), x7, x8] (S3.set f (.lst (found.map Stm.d ++ [.tup [.str "do", .int q]]))) :=
        appE rfl (by simp [sh0, e3]) f2 f3 (by simp; omega)
      refine ⟨x5, some (.int wy), x7, x8, S3.set f (.lst (found.map Stm.d ++ [.tup [.str "do", .int q]])), n + 1 + 1, r, [.do_ q], ?_, d3.set hf, by omega, by omega, ?_, by omega, ?_, by simp, fun d hd => ?_, ?_, (k12.trans (k3 _)).trans (Kp.set (.inr rfl))⟩
      · simp [w3, a]
      · rw [List.getElem?_set_ne (Ne.symm hmf)]; exact m3
      · have : f < S3.length := (List.getElem?_eq_some_iff.mp f3).1
        simp [this, Stm.d, of_ds]
      · simp at hd; subst hd; exact do_v (by omega)
      · simp [Stm.sz]
    · by_cases w5 : (wy : Int) < 5
      · -- set
        obtain ⟨q, S3, e3, l3, d3, k3⟩ := drw (G := G) (wf := wf) F (k := K + 3) (m := w) d2 (by omega) (by omega) hw (by omega)
        obtain ⟨_, S4, n4, e4, ⟨y, rfl, v4, v4'⟩, d4, g4, g4', k4⟩ := draw_sum (G := G) (wf := wf) F hw hw2 1 K S3 (n + 1 + 1) (by omega) d3 (by omega) (by omega)
        have f4 := (k4 fun _ => False).at ((k3 fun _ => False).at f2 hf id) hf id
        have m4 := (k4 fun _ => False).at ((k3 fun _ => False).at m2 hm id) hm id
        simp at e4
        have a : dSs G (run T G wf (K + 4)) wf (bBs x) [some (.loc 1), some (.lst [.int p, .int w]), some (.loc mm), some (.int dep), some (.loc f), x5, some (.int wy), x7, x8] S2 = .ok .nx [some (.loc 1), some (.lst [.int p, .int w]), some (.loc mm), some (.int dep), some (.loc f), x5, some (.int wy), x7, x8] (S4.set f (.lst (found.map Stm.d ++ [.tup [.str "set", .int q, y.d]]))) :=
          appE rfl (by simp [sh1, e3, e4]) f2 f4 (by simp; omega)
        refine ⟨x5, some (.int wy), x7, x8, S4.set f (.lst (found.map Stm.d ++ [.tup [.str "set", .int q, y.d]])), n4, r, [.set q y], ?_, d4.set hf, by omega, by omega, ?_, by omega, ?_, by simp, fun d hd => ?_, ?_, ((k12.trans (k3 _)).trans (k4 _)).trans (Kp.set (.inr rfl))⟩
        · simp [w3, w5, a]
        · rw [List.getElem?_set_ne (Ne.symm hmf)]; exact m4
        · have : f < S4.length := (List.getElem?_eq_some_iff.mp f4).1
          simp [this, Stm.d, of_ds]
        · simp at hd; subst hd; exact set_v (by omega) v4 v4'
        · have := Fm.sz_dep y
          have e : 2 ^ (y.dep + 1) ≤ 2 ^ (1 + 1) := Nat.pow_le_pow_right (by decide) (by omega)
          simp [Stm.sz]; omega
      · -- the rest: depth is not 0
        have zd : 0 < dep := by
          refine Nat.pos_of_ne_zero fun z => ?_
          subst z
          simp at l2
          omega
        obtain ⟨e, rfl⟩ : ∃ e, dep = e + 1 := ⟨dep - 1, by omega⟩
        have rec' := rec e rfl
        -- either a stop was drawn, or one goes on with an if
        have key : (∃ S3, Dk S3 0 1 (n + 1 + 1) ∧ (∀ X, Kp S2 S3 X) ∧ dSs G (run T G wf (K + 4)) wf (.cons (.ite (.bo .And (.cons (.cmp .Eq (.v 6) (.c (.int 7))) (.cons (.cmp .Eq (.v 3) (.c (.int 2))) (.cons (.cmp .Eq (.call x.law_draw (.cons (.v 0) (.cons (.c (.int 2)) .nil))) (.c (.int 0))) .nil)))) (bC x) (.cons (bd1 x) (.cons (bd2 x) (.cons (bd3 x) (.cons (bd4 x) .nil))))) .nil) [some (.loc 1), some (.lst [.int p, .int w]), some (.loc mm), some (.int ((e + 1 : Nat) : Int)), some (.loc f), x5, some (.int wy), x7, x8] S2 =
              dSs G (run T G wf (K + 4)) wf (bC x) [some (.loc 1), some (.lst [.int p, .int w]), some (.loc mm), some (.int ((e + 1 : Nat) : Int)), some (.loc f), x5, some (.int wy), x7, x8] S3) ∨
            (∃ S3 n3, Dk S3 0 1 n3 ∧ n ≤ n3 ∧ n3 ≤ n + 2 ∧ (∀ X, Kp S2 S3 X) ∧ dSs G (run T G wf (K + 4)) wf (.cons (.ite (.bo .And (.cons (.cmp .Eq (.v 6) (.c (.int 7))) (.cons (.cmp .Eq (.v 3) (.c (.int 2))) (.cons (.cmp .Eq (.call x.law_draw (.cons (.v 0) (.cons (.c (.int 2)) .nil))) (.c (.int 0))) .nil)))) (bC x) (.cons (bd1 x) (.cons (bd2 x) (.cons (bd3 x) (.cons (bd4 x) .nil))))) .nil) [some (.loc 1), some (.lst [.int p, .int w]), some (.loc mm), some (.int ((e + 1 : Nat) : Int)), some (.loc f), x5, some (.int wy), x7, x8] S2 =
              dSs G (run T G wf (K + 4)) wf (.cons (bd1 x) (.cons (bd2 x) (.cons (bd3 x) (.cons (bd4 x) .nil)))) [some (.loc 1), some (.lst [.int p, .int w]), some (.loc mm), some (.int ((e + 1 : Nat) : Int)), some (.loc f), x5, some (.int wy), x7, x8] S3) := by
          generalize hX : dSs G (run T G wf (K + 4)) wf (bC x) = X
          generalize hY : dSs G (run T G wf (K + 4)) wf (.cons (bd1 x) (.cons (bd2 x) (.cons (bd3 x) (.cons (bd4 x) .nil)))) = Y
          by_cases w7 : (wy : Int) = 7
          · by_cases wd : (e : Int) + 1 = 2
            · obtain ⟨q, S3, e3, l3, d3, k3⟩ := drw (G := G) (wf := wf) F (k := K + 3) (m := 2) d2 (by omega) (by omega) (by decide) (by decide)
              simp at e3
              by_cases wq : (q : Int) = 0
              · have wq' : q = 0 := by omega
                refine .inl ⟨S3, d3, k3, ?_⟩
                rw [one_st, q_site, q_mIte, hX, hY]
                simp [w7, wd, e3, wq']
              · have wq' : ¬ q = 0 := by omega
                refine .inr ⟨S3, _, d3, by omega, by omega, k3, ?_⟩
                rw [one_st, q_site, q_mIte, hX, hY]
                simp [w7, wd, e3, wq']
            · refine .inr ⟨S2, _, d2, by omega, by omega, fun X => Kp.refl _ _, ?_⟩
              rw [one_st, q_site, q_mIte, hX, hY]
              simp [w7, wd]
          · refine .inr ⟨S2, _, d2, by omega, by omega, fun X => Kp.refl _ _, ?_⟩
            rw [one_st, q_site, q_mIte, hX, hY]
            simp [w7]
        have ce : cost e + cost e + 10 ≤ bcost (e + 1) ∧ bcost (e + 1) ≤ cost (e + 1) ∧ 0 ≤ cost e := by
          match e, hd with
          | 0, _ => decide
          | 1, _ => decide
        rcases key with ⟨S3, d3, k3, eq⟩ | ⟨S3, n3, d3, g3, g3', k3, eq⟩
        · have f3 := (k3 fun _ => False).at f2 hf id
          have m3 := (k3 fun _ => False).at m2 hm id
          have a : dSs G (run T G wf (K + 4)) wf (bC x) [some (.loc 1), some (.lst [.int p, .int w]), some (.loc mm), some (.int ((e + 1 : Nat) : Int)), some (.loc f), x5, some (.int wy), x7, x8] S3 = .ok .nx [some (.loc 1), some (.lst [.int p, .int w]), some (.loc mm), some (.int ((e + 1 : Nat) : Int)), some (.loc f), x5, some (.int wy), x7, x8] (S3.set f (.lst (found.map Stm.d ++ [.tup [.str "stop"]]))) :=
            appE rfl (by simp) f3 f3 (by simp; omega)
          rw [a] at eq
          refine ⟨x5, some (.int wy), x7, x8, S3.set f (.lst (found.map Stm.d ++ [.tup [.str "stop"]])), n + 1 + 1, r, [.stop], ?_, d3.set hf, by omega, by omega, ?_, by omega, ?_, by simp, fun d hd => ?_, ?_, (k12.trans (k3 _)).trans (Kp.set (.inr rfl))⟩
          · rw [one_st, q_site, q_mIte]
            simp only [q_tcmp, q_mBl, q_mBin, q_ev, q_ec, q_mC, q_mVar (show [some (D.loc 1), some (.lst [.int p, .int w]), some (.loc mm), some (.int ((e + 1 : Nat) : Int)), some (.loc f), x5, some (.int wy), x7, x8][6]? = some (some (.int wy)) from rfl), q_liftS, q_cmLt, w3, decide_false, q_toB, Bool.false_eq_true, ↓reduceIte]
            rw [one_st, q_site, q_mIte]
            simp only [q_tcmp, q_mBl, q_mBin, q_ev, q_ec, q_mC, q_mVar (show [some (D.loc 1), some (.lst [.int p, .int w]), some (.loc mm), some (.int ((e + 1 : Nat) : Int)), some (.loc f), x5, some (.int wy), x7, x8][6]? = some (some (.int wy)) from rfl), q_liftS, q_cmLt, w5, decide_false, q_toB, Bool.false_eq_true, ↓reduceIte, eq, q_snil, q_mSkip]
          · rw [List.getElem?_set_ne (Ne.symm hmf)]; exact m3
          · have : f < S3.length := (List.getElem?_eq_some_iff.mp f3).1
            simp [this, Stm.d, of_ds]
          · simp at hd; subst hd; exact stop_v
          · simp [Stm.sz]
        · have f3 := (k3 fun _ => False).at f2 hf id
          have m3 := (k3 fun _ => False).at m2 hm id
          -- the sum
          obtain ⟨_, S4, n4, e4, ⟨u, rfl, v4, v4'⟩, d4, g4, g4', k4⟩ := draw_sum (G := G) (wf := wf) F hw hw2 1 K S3 n3 (by omega) d3 (by omega) (by omega)
          have f4 := (k4 fun _ => False).at f3 hf id
          have m4 := (k4 fun _ => False).at m3 hm id
          simp at e4
          have t1 : dS G (run T G wf (K + 4)) wf (bd1 x) [some (.loc 1), some (.lst [.int p, .int w]), some (.loc mm), some (.int ((e + 1 : Nat) : Int)), some (.loc f), x5, some (.int wy), x7, x8] S3 = .ok .nx [some (.loc 1), some (.lst [.int p, .int w]), some (.loc mm), some (.int ((e + 1 : Nat) : Int)), some (.loc f), x5, some (.int wy), some u.d, x8] S4 := by
            simp [bd1, sh1, e4]
          -- the first block
          obtain ⟨ys, S5, n5, r5, e5, d5, g5, g5', m5, l5, k5, ly, vy, py⟩ := rec' S4 n4 mm r d4 (by omega) (by omega) hm m4
          have f5 := k5.at f4 hf (Ne.symm hmf)
          have ee : ((e + 1 : Nat) : Int) - 1 = e := by omega
          have t2 : dS G (run T G wf (K + 4)) wf (bd2 x) [some (.loc 1), some (.lst [.int p, .int w]), some (.loc mm), some (.int ((e + 1 : Nat) : Int)), some (.loc f), x5, some (.int wy), some u.d, x8] S4 = .ok .nx [some (.loc 1), some (.lst [.int p, .int w]), some (.loc mm), some (.int ((e + 1 : Nat) : Int)), some (.loc f), x5, some (.int wy), some u.d, some (.tup (ys.map Stm.d))] S5 := by
            simp only [Int.natCast_add] at ee
            simp [bd2, e5]
          -- a stop behind it, or none
          obtain ⟨q, S6, e6, l6, d6, k6⟩ := drw (G := G) (wf := wf) F (k := K + 3) (m := 6) d5 (by omega) (by omega) (by decide) (by decide)
          simp at e6
          have f6 := (k6 fun _ => False).at f5 hf id
          have m6 := (k6 fun _ => False).at m5 hm id
          have t3 : ∃ ys' : List Stm, ys'.length ≤ 4 ∧ (∀ d ∈ ys', StV p w e d) ∧ (ys'.map Stm.sz).sum ≤ 5 * (r - r5) + 1 ∧ dS G (run T G wf (K + 4)) wf (bd3 x) [some (.loc 1), some (.lst [.int p, .int w]), some (.loc mm), some (.int ((e + 1 : Nat) : Int)), some (.loc f), x5, some (.int wy), some u.d, some (.tup (ys.map Stm.d))] S5 = .ok .nx [some (.loc 1), some (.lst [.int p, .int w]), some (.loc mm), some (.int ((e + 1 : Nat) : Int)), some (.loc f), x5, some (.int wy), some u.d, some (.tup (ys'.map Stm.d))] S6 := by
            by_cases zq : q = 0
            · subst zq
              refine ⟨ys ++ [.stop], by simp; omega, fun d hd => ?_, ?_, ?_⟩
              · rcases List.mem_append.mp hd with hd | hd
                · exact vy d hd
                · simp at hd; subst hd; exact stop_v
              · rw [List.map_append, List.sum_append]
                simp [Stm.sz]; omega
              · have ad : addP S6 (.tup (ys.map Stm.d)) (.tup [.tup [.str "stop"]]) = some (.tup (ys.map Stm.d ++ [.tup [.str "stop"]])) := by
                  unfold addP
                  simp only []
                  rw [if_pos (by simp; omega)]
                simp [bd3, e6, ad, Stm.d]
            · refine ⟨ys, by omega, vy, Nat.le_succ_of_le py, ?_⟩
              simp [bd3, e6, zq]
          obtain ⟨ys', ly', vy', py', t3⟩ := t3
          -- the second block, and the if
          obtain ⟨zs, S7, n7, r7, e7, d7, g7, g7', m7, l7, k7, lz, vz, pz⟩ := rec' S6 (n5 + 1) mm r5 d6 (by omega) (by omega) hm m6
          have f7 := k7.at f6 hf (Ne.symm hmf)
          have t4 : dSs G (run T G wf (K + 4)) wf (.cons (bd4 x) .nil) [some (.loc 1), some (.lst [.int p, .int w]), some (.loc mm), some (.int ((e + 1 : Nat) : Int)), some (.loc f), x5, some (.int wy), some u.d, some (.tup (ys'.map Stm.d))] S6 = .ok .nx [some (.loc 1), some (.lst [.int p, .int w]), some (.loc mm), some (.int ((e + 1 : Nat) : Int)), some (.loc f), x5, some (.int wy), some u.d, some (.tup (ys'.map Stm.d))] (S7.set f (.lst (found.map Stm.d ++ [.tup [.str "if", u.d, .tup (ys'.map Stm.d), .tup (zs.map Stm.d)]]))) :=
            appE rfl (by simp [e7]) f6 f7 (by simp; omega)
          have tt : dSs G (run T G wf (K + 4)) wf (.cons (bd1 x) (.cons (bd2 x) (.cons (bd3 x) (.cons (bd4 x) .nil)))) [some (.loc 1), some (.lst [.int p, .int w]), some (.loc mm), some (.int ((e + 1 : Nat) : Int)), some (.loc f), x5, some (.int wy), x7, x8] S3 = .ok .nx [some (.loc 1), some (.lst [.int p, .int w]), some (.loc mm), some (.int ((e + 1 : Nat) : Int)), some (.loc f), x5, some (.int wy), some u.d, some (.tup (ys'.map Stm.d))] (S7.set f (.lst (found.map Stm.d ++ [.tup [.str "if", u.d, .tup (ys'.map Stm.d), .tup (zs.map Stm.d)]]))) := by
            rw [q_scons, then_nx t1, q_scons, then_nx t2, q_scons, then_nx t3, t4]
          rw [tt] at eq
          have kk : Kp S (S7.set f (.lst (found.map Stm.d ++ [.tup [.str "if", u.d, .tup (ys'.map Stm.d), .tup (zs.map Stm.d)]]))) (fun c => c = mm ∨ c = f) :=
            (((((k12.trans (k3 _)).trans (k4 _)).trans (k5.more fun c _ z => .inl z)).trans (k6 _)).trans (k7.more fun c _ z => .inl z)).trans (Kp.set (.inr rfl))
          refine ⟨x5, some (.int wy), some u.d, some (.tup (ys'.map Stm.d)), _, n7, r7, [.iff u (Blk.of ys') (Blk.of zs)], ?_, d7.set hf, by omega, by omega, ?_, by omega, ?_, by simp, fun d hd => ?_, ?_, kk⟩
          · rw [one_st, q_site, q_mIte]
            simp only [q_tcmp, q_mBl, q_mBin, q_ev, q_ec, q_mC, q_mVar (show [some (D.loc 1), some (.lst [.int p, .int w]), some (.loc mm), some (.int ((e + 1 : Nat) : Int)), some (.loc f), x5, some (.int wy), x7, x8][6]? = some (some (.int wy)) from rfl), q_liftS, q_cmLt, w3, decide_false, q_toB, Bool.false_eq_true, ↓reduceIte]
            rw [one_st, q_site, q_mIte]
            simp only [q_tcmp, q_mBl, q_mBin, q_ev, q_ec, q_mC, q_mVar (show [some (D.loc 1), some (.lst [.int p, .int w]), some (.loc mm), some (.int ((e + 1 : Nat) : Int)), some (.loc f), x5, some (.int wy), x7, x8][6]? = some (some (.int wy)) from rfl), q_liftS, q_cmLt, w5, decide_false, q_toB, Bool.false_eq_true, ↓reduceIte, eq, q_snil, q_mSkip]
          · rw [List.getElem?_set_ne (Ne.symm hmf)]; exact m7
          · have : f < S7.length := (List.getElem?_eq_some_iff.mp f7).1
            simp [this, Stm.d, of_ds]
          · simp at hd; subst hd; exact if_v v4 v4' ly' (by omega) vy' vz
          · have := Fm.sz_dep u
            have e : 2 ^ (u.dep + 1) ≤ 2 ^ (1 + 1) := Nat.pow_le_pow_right (by decide) (by omega)
            simp [Stm.sz, of_sz]; omega
end
end Z

/-! Drawn programs, first family: blocks by depth. -/
namespace Z
open PySem PySem.Spec PyProof.Rows L2
section
variable {T : List Fn} {G : Ev} {wf : Nat} {x : Ix}
theorem rng_nat {q : Nat} (h : q < 1000) : rng1 [.int q] = some (.vals ((List.range q).map fun (i : Nat) => D.int (0 + (i : Int)))) := by
  simp only [rng1, rngV]
  rw [if_pos (by omega), show ((q : Int) - 0).toNat = q by omega]
theorem tup_loc {S : Sto} {f : Nat} {xs : List D} (h : S[f]? = some (.lst xs)) : tupD S (.loc f) = some (.tup xs) := by
  simp [tupD, asLF, asL, h]
theorem blk_step (F : FamA T x) {p w dep K : Nat} (hp : 0 < p) (hp2 : p < 1000) (hw : 0 < w) (hw2 : w < 1000) (hd : dep ≤ 2) (rec : ∀ e, dep = e + 1 → BlkV T G wf x p w (K + 4) e) : BlkV T G wf x p w (K + 5) dep := by
  intro S n mm r h hn hn2 hm hr
  have hb : 0 ≤ bcost dep ∧ 3 * bcost dep + 1 ≤ cost dep := by
    match dep, hd with
    | 0, _ => decide
    | 1, _ => decide
    | 2, _ => decide
  have lm : mm < S.length := (List.getElem?_eq_some_iff.mp hr).1
  let f := S.length
  have hf2 : 2 ≤ f := h.len
  let S0 : Sto := S ++ [.lst []]
  have h0 : Dk S0 0 1 n := h.push
  have k0 : ∀ X, Kp S S0 X := fun X => Kp.push
  have m0 : S0[mm]? = some (.lst [.int r]) := (k0 fun _ => False).at hr hm id
  have f0 : S0[f]? = some (.lst []) := by show (S ++ [MO.lst []])[S.length]? = _; simp
  let sd0 : Sl := [some (.loc 1), some (.lst [.int p, .int w]), some (.loc mm), some (.int dep), some (.loc f), none, none, none, none]
  have s0 : dS G (run T G wf (K + 4)) wf (.asg (.nm 4) (.lst true .nil)) (slots0 9 [.loc 1, .lst [.int p, .int w], .loc mm, .int dep]) S = .ok .nx sd0 S0 := by
    simp [slots0, sd0, S0, f]
  obtain ⟨q, S1, e1, l1, d1, k1⟩ := drw (G := G) (wf := wf) F (k := K + 3) (m := 4) h0 hn (by omega) (by decide) (by decide)
  simp at e1
  have m1 := (k1 fun _ => False).at m0 hm id
  have f1 := (k1 fun _ => False).at f0 hf2 id
  let src : List D := (List.range q).map fun (i : Nat) => D.int (0 + (i : Int))
  have hsl : src.length = q := by simp [src]
  obtain ⟨sd', S', e2, x5, x6, x7, x8, n2, r2, fo, hsd, d2, g2, g2', m2, l2, f2, lf, vf, pf, k2⟩ := for_inv (ds := src) (g := gNm 5) (b := dSs G (run T G wf (K + 4)) wf (lbB x))
    (fun i sd S' => ∃ (x5 x6 x7 x8 : Option D) (n' : Int) (r' : Nat) (fo : List Stm), sd = [some (.loc 1), some (.lst [.int p, .int w]), some (.loc mm), some (.int dep), some (.loc f), x5, x6, x7, x8] ∧ Dk S' 0 1 n' ∧ n ≤ n' ∧ n' ≤ n + 1 + i * bcost dep ∧ S'[mm]? = some (.lst [.int (r' : Nat)]) ∧ r' ≤ r ∧
      S'[f]? = some (.lst (fo.map Stm.d)) ∧ fo.length ≤ i ∧ (∀ d ∈ fo, StV p w dep d) ∧ (fo.map Stm.sz).sum ≤ 5 * (r - r') ∧ Kp S S' (· = mm))
    (fun i d sd S' hd' hP => by
      obtain ⟨x5, x6, x7, x8, n', r', fo, rfl, d', g', g'', m', l', f', lf, vf, pf, k'⟩ := hP
      have hi : i < q := by have := (List.getElem?_eq_some_iff.mp hd').1; omega
      have hi3 : (i : Int) * bcost dep ≤ 2 * bcost dep := Int.mul_le_mul_of_nonneg_right (by omega) hb.1
      obtain ⟨y5, y6, y7, y8, S2, n2, r2, new, e, d2, a1, a2, a3, a4, a5, a6, a7, a8, a9⟩ := (body_ok (G := G) (wf := wf) F hp hp2 hw hw2 hd rec (x5 := some d) (x6 := x6) (x7 := x7) (x8 := x8) d' (by omega) (by omega) hm hf2 (by omega) m' f' (by omega)).ex
      refine ⟨_, S', rfl, _, S2, .inl e, y5, y6, y7, y8, n2, r2, fo ++ new, rfl, d2, by omega, ?_, a3, by omega, a5, by simp; omega, fun d hd => ?_, ?_, ?_⟩
      · have : (((i + 1 : Nat) : Int)) * bcost dep = (i : Int) * bcost dep + bcost dep := by rw [Int.natCast_add, Int.add_mul]; simp
        omega
      · rcases List.mem_append.mp hd with hd | hd
        · exact vf d hd
        · exact a7 d hd
      · rw [List.map_append, List.sum_append]
        omega
      · exact ⟨Nat.le_trans k'.len a9.len, fun c c1 c2 c3 => (a9.oth c c1 (Nat.lt_of_lt_of_le c2 k'.len) (fun z => z.elim c3 (by omega))).trans (k'.oth c c1 c2 c3)⟩)
    q 0 sd0 S1 (by omega) ⟨none, none, none, none, n + 1, r, [], rfl, d1, by omega, by omega, m1, by omega, f1, by simp, by simp, by simp, (k0 _).trans (k1 _)⟩
  subst hsd
  rw [hsl] at g2' lf
  have hq3 : (q : Int) * bcost dep ≤ 3 * bcost dep := Int.mul_le_mul_of_nonneg_right (by omega) hb.1
  refine ⟨fo, S', n2, r2, (run_succ F.block rfl).trans ?_, d2, by omega, by omega, m2, l2, k2, by omega, vf, pf⟩
  rw [blk_is, q_scons, then_nx s0, q_scons]
  have s1 : dS G (run T G wf (K + 4)) wf (.for_ (.nm 5) (.rng1 (.cons (.call x.law_draw (.cons (.v 0) (.cons (.c (.int 4)) .nil))) .nil)) (lbB x)) sd0 S0 = .ok .nx [some (.loc 1), some (.lst [.int p, .int w]), some (.loc mm), some (.int dep), some (.loc f), x5, x6, x7, x8] S' := by
    have it : dI G (run T G wf (K + 4)) (.rng1 (.cons (.call x.law_draw (.cons (.v 0) (.cons (.c (.int 4)) .nil))) .nil)) sd0 S0 = .ok (.vals src) S1 := by
      have := rng_nat (q := q) (by omega)
      simp [sd0, e1, this, src]
    rw [q_sfor, q_mFor, it]
    simp only [q_vLen, hsl]
    exact e2
  rw [then_nx s1]
  simp [tup_loc f2, fnEnd]
theorem blk_draw (F : FamA T x) {p w : Nat} (hp : 0 < p) (hp2 : p < 1000) (hw : 0 < w) (hw2 : w < 1000) : ∀ (dep K : Nat), dep ≤ 2 → BlkV T G wf x p w (K + dep + 5) dep
  | 0, K, hd => blk_step F hp hp2 hw hw2 hd (fun e z => by omega)
  | e + 1, K, hd => by
    have := blk_draw F hp hp2 hw hw2 e K (by omega)
    have r := blk_step F (K := K + e + 1) hp hp2 hw hw2 hd (fun e' z => by
      have : e' = e := by omega
      subst this
      rw [show K + e' + 1 + 4 = K + e' + 5 by omega]
      exact this)
    rw [show K + (e + 1) + 5 = K + e + 1 + 5 by omega]
    exact r
end
end Z

/-! Drawn programs, first family: programs. -/
namespace Z
open PySem PySem.Spec PyProof.Rows L2
def Ss.at : Ss → Nat → S1
  | .nil, _ => .pass
  | .cons s _, 0 => s
  | .cons _ b, i + 1 => b.at i
def Ss.fr : Ss → Nat → Ss
  | b, 0 => b
  | .nil, _ => .nil
  | .cons _ b, i + 1 => b.fr i
theorem stp {G : Ev} {C : Nat → List D → Sto → Out D} {wf : Nat} {b : Ss} {i : Nat} {sd sd1 : Sl} {S S1 : Sto} (hs : b.fr i = .cons (b.at i) (b.fr (i + 1))) (h : dS G C wf (b.at i) sd S = .ok .nx sd1 S1) :
    dSs G C wf (b.fr i) sd S = dSs G C wf (b.fr (i + 1)) sd1 S1 := by
  rw [hs, q_scons, then_nx h]
theorem stp0 {G : Ev} {C : Nat → List D → Sto → Out D} {wf : Nat} {b : Ss} {sd sd1 : Sl} {S S1 : Sto} (hs : b = .cons (b.at 0) (b.fr 1)) (h : dS G C wf (b.at 0) sd S = .ok .nx sd1 S1) :
    dSs G C wf b sd S = dSs G C wf (b.fr 1) sd1 S1 := by
  rw [hs, q_scons, ← hs, then_nx h]
structure Prog where
  kn : Nat
  se : Nat
  p : Nat
  cells : List Nat
  body : Blk
  tail : Blk
def Prog.d (P : Prog) : D := .tup [.int P.kn, .int P.se, .int P.p, .tup (P.cells.map fun (c : Nat) => D.int c), .tup P.body.ds, .tup P.tail.ds]
structure ProgV (L W : Nat) (css : List (List Nat)) (P : Prog) : Prop where
  kn : 1 ≤ P.kn ∧ P.kn ≤ L
  se : 1 ≤ P.se ∧ P.se ≤ L
  p : 1 ≤ P.p ∧ P.p ≤ W
  cells : P.cells ∈ css
  bok : P.body.ok P.p P.cells.length = true
  tok : P.tail.ok P.p P.cells.length = true
  bdep : P.body.dep ≤ 2
  tdep : P.tail.dep ≤ 1
  bfd : P.body.fd ≤ 1
  tfd : P.tail.fd ≤ 1
  bwd : P.body.wd ≤ 4
  twd : P.tail.wd ≤ 4
  bsz : P.body.sz ≤ 56
  tsz : P.tail.sz ≤ 20
theorem app_wd {m : Nat} {s : Stm} : ∀ {b : Blk}, b.wd ≤ m → s.wd ≤ m → b.ds.length + 1 ≤ m → (b.app (.cons s .nil)).wd ≤ m
  | .nil, _, h, hl => by simp [Blk.app, Blk.wd, Blk.ds] at hl ⊢; omega
  | .cons t b, h, hs, hl => by
    simp only [Blk.wd] at h
    simp only [Blk.ds, List.length_cons] at hl
    have := app_wd (s := s) (b := b) (m := m) (by omega) hs (by omega)
    simp only [Blk.app, Blk.wd, Blk.app_ds, Blk.ds, List.length_append, List.length_cons, List.length_nil]
    omega
section
variable {T : List Fn} {G : Ev} {wf : Nat} {x : Ix}
/-- a block drawn with its own room -/
theorem blk_new (F : FamA T x) {p w dep r K : Nat} (hp : 0 < p) (hp2 : p < 1000) (hw : 0 < w) (hw2 : w < 1000) (hd : dep ≤ 2) {S : Sto} {n : Int} (h : Dk S 0 1 n) (hn : 0 ≤ n) (hn2 : n < 700000) :
    ∃ (b : Blk) (S' : Sto) (n' : Int), run T G wf (K + dep + 5) x.law_block [.loc 1, .lst [.int p, .int w], .loc S.length, .int dep] (S ++ [.lst [.int r]]) = .ok (.tup b.ds) S' ∧ Dk S' 0 1 n' ∧ n ≤ n' ∧ n' ≤ n + 1700 ∧ (∀ X, Kp S S' X) ∧
      b.ok p w = true ∧ b.dep ≤ dep ∧ b.fd ≤ 1 ∧ b.wd ≤ 4 ∧ b.ds.length ≤ 3 ∧ b.sz ≤ 5 * r := by
  have hc : cost dep ≤ 1700 := by
    match dep, hd with
    | 0, _ => decide
    | 1, _ => decide
    | 2, _ => decide
  obtain ⟨ds, S', n', r', e, d', g, g', m', l', k', ly, vy, py⟩ := blk_draw (G := G) (wf := wf) F (p := p) (w := w) hp hp2 hw hw2 dep K hd (S ++ [.lst [.int (r : Nat)]]) n S.length r h.push hn (by omega) h.len (by simp)
  refine ⟨Blk.of ds, S', n', by rw [of_ds]; exact e, d', g, by omega, fun X => ⟨Nat.le_trans (by simp) k'.len, fun c c1 c2 c3 => ?_⟩, of_ok fun s hs => (vy s hs).ok, of_dep fun s hs => (vy s hs).dep, of_fd fun s hs => (vy s hs).fd, of_wd (fun s hs => (vy s hs).wd) (by omega), by rw [of_ds]; simpa using ly, by rw [of_sz]; omega⟩
  rw [k'.oth c c1 (by simp; omega) (by omega), List.getElem?_append_left c2]
def cssP : List (List Nat) := [[2], [3], [2, 2], [4], [2, 3]]
theorem cells_mem {css : List (List Nat)} {d : D} (h : d ∈ css.map fun cs => D.tup (cs.map fun (c : Nat) => D.int c)) : ∃ cs ∈ css, d = D.tup (cs.map fun (c : Nat) => D.int c) := by
  obtain ⟨cs, h1, h2⟩ := List.mem_map.mp h
  exact ⟨cs, h1, h2.symm⟩
def looksL : List D := [.str "secret", .tup [.str "same", .str "known", .str "secret"], .tup [.str "cell", .int 0]]
theorem looks_mem {d : D} {w : Nat} (hw : 0 < w) (h : d ∈ looksL) : SumV w 1 d := by
  simp only [looksL, List.mem_cons, List.not_mem_nil, or_false] at h
  rcases h with rfl | rfl | rfl
  · exact ks_mem (by simp)
  · exact op_v (o := .same) (ks_mem (by simp)) (ks_mem (by simp))
  · exact cell_v (r := 0) hw
theorem look_v {p w : Nat} {f : Fm} (hp : 0 < p) (h1 : f.ok w = true) (h2 : f.dep ≤ 1) : StV p w 1 (.iff f (Blk.of [.do_ 0]) (Blk.of [])) :=
  if_v (dep := 0) h1 h2 (by simp) (by simp) (fun s hs => by simp at hs; subst hs; exact do_v hp) (fun s hs => by cases hs)
theorem look_d {f : Fm} : (Stm.iff f (Blk.of [.do_ 0]) (Blk.of [])).d = .tup [.str "if", f.d, .tup [.tup [.str "do", .int 0]], .tup []] := by
  rw [if_d]; rfl
theorem look_sz {f : Fm} (h : f.dep ≤ 1) : (Stm.iff f (Blk.of [.do_ 0]) (Blk.of [])).sz ≤ 5 := by
  have := Fm.sz_dep f
  have e : 2 ^ (f.dep + 1) ≤ 2 ^ (1 + 1) := Nat.pow_le_pow_right (by decide) (by omega)
  simp [Stm.sz, Blk.of, Blk.sz]; omega
theorem prog_ok (F : FamA T x) {L W : Nat} (hL : 0 < L ∧ L < 1000) (hW : 0 < W ∧ W < 900) {k : Nat} {S : Sto} {n : Int} (h : Dk S 0 1 n) (hn : 0 ≤ n) (hn2 : n < 600000) :
    ∃ P S' n', run T G wf (k + 20) x.law_program [.loc 1, .int L, .int W] S = .ok (Prog.d P) S' ∧ ProgV L W cssP P ∧ Dk S' 0 1 n' ∧ n ≤ n' ∧ n' ≤ n + 4000 ∧ ∀ X, Kp S S' X := by
  obtain ⟨a, S1, e1, l1, d1, k1⟩ := drw (G := G) (wf := wf) F (k := k + 18) (m := L) h hn (by omega) hL.1 (by omega)
  obtain ⟨b, S2, e2, l2, d2, k2⟩ := drw (G := G) (wf := wf) F (k := k + 18) (m := L) d1 (by omega) (by omega) hL.1 (by omega)
  obtain ⟨c, S3, e3, l3, d3, k3⟩ := drw (G := G) (wf := wf) F (k := k + 18) (m := W) d2 (by omega) (by omega) hW.1 (by omega)
  obtain ⟨e, S4, e4, l4, d4, k4⟩ := one (G := G) (wf := wf) F (k := k + 17) (xs := cssP.map fun cs => D.tup (cs.map fun (c : Nat) => D.int c)) d3 (by omega) (by omega) (by decide) (by decide)
  obtain ⟨cs, hcs, rfl⟩ := cells_mem l4
  have hcl : 0 < cs.length ∧ cs.length < 5 := by
    simp [cssP] at hcs
    rcases hcs with rfl | rfl | rfl | rfl | rfl <;> decide
  have kA : ∀ X, Kp S S4 X := fun X => (((k1 X).trans (k2 X)).trans (k3 X)).trans (k4 X)
  let ce : D := .tup (cs.map fun (c : Nat) => D.int c)
  obtain ⟨a', ha⟩ : ∃ a' : Nat, (1 : Int) + (a : Int) = (a' : Int) := ⟨1 + a, by omega⟩
  obtain ⟨b', hb⟩ : ∃ b' : Nat, (1 : Int) + (b : Int) = (b' : Int) := ⟨1 + b, by omega⟩
  obtain ⟨p, hp⟩ : ∃ p : Nat, (1 : Int) + (c : Int) = (p : Int) := ⟨1 + c, by omega⟩
  let sdA : Sl := [some (.loc 1), some (.int L), some (.int W), none, none, none, some (.int a'), some (.int b'), some (.int p)]
  let sh : D := .lst [.int p, .int cs.length]
  have s0 : dS G (run T G wf (k + 19)) wf ((B_law_program x).at 0) (slots0 9 [.loc 1, .int L, .int W]) S = .ok .nx sdA S3 := by
    simp only [B_law_program, Ss.at]
    rw [q_spar, par3_ok (x := .int a') (y := .int b') (z := .int p) (S1 := S3)]
    · rfl
    · simp [slots0, e1, e2, e3, ha, hb, hp]
  let sdB : Sl := sdA.set 3 (some ce)
  have s1 : dS G (run T G wf (k + 19)) wf ((B_law_program x).at 1) sdA S3 = .ok .nx sdB S4 := by
    simp [cssP] at e4
    simp [B_law_program, Ss.at, sdA, sdB, ce, e4]
  let sdC : Sl := sdB.set 4 (some sh)
  have s2 : dS G (run T G wf (k + 19)) wf ((B_law_program x).at 2) sdB S4 = .ok .nx sdC S4 := by
    simp [B_law_program, Ss.at, sdA, sdB, sdC, sh, ce]
  obtain ⟨bo, S5, n5, e5, d5, g5, g5', k5, o5, dp5, fd5, wd5, ln5, sz5⟩ := blk_new (G := G) (wf := wf) F (p := p) (w := cs.length) (dep := 2) (r := 10) (K := k + 12) (by omega) (by omega) hcl.1 (by omega) (by decide) d4 (by omega) (by omega)
  let sdD : Sl := sdC.set 5 (some (.tup bo.ds))
  have s3 : dS G (run T G wf (k + 19)) wf ((B_law_program x).at 3) sdC S4 = .ok .nx sdD S5 := by
    simp at e5
    simp [B_law_program, Ss.at, sdA, sdB, sdC, sdD, sh, ce, e5]
  obtain ⟨q, S6, e6, l6, d6, k6⟩ := drw (G := G) (wf := wf) F (k := k + 18) (m := 3) d5 (by omega) (by omega) (by decide) (by decide)
  simp at e6
  have look : ∃ (bo' : Blk) (S7 : Sto) (n7 : Int), dS G (run T G wf (k + 19)) wf ((B_law_program x).at 4) sdD S5 = .ok .nx (sdC.set 5 (some (.tup bo'.ds))) S7 ∧ Dk S7 0 1 n7 ∧ n5 ≤ n7 ∧ n7 ≤ n5 + 2 ∧ (∀ X, Kp S5 S7 X) ∧
      bo'.ok p cs.length = true ∧ bo'.dep ≤ 2 ∧ bo'.fd ≤ 1 ∧ bo'.wd ≤ 4 ∧ bo'.sz ≤ 55 := by
    by_cases zq : 0 < q
    · obtain ⟨y, S7, e7, l7, d7, k7⟩ := one (G := G) (wf := wf) F (k := k + 17) (xs := looksL) d6 (by omega) (by omega) (by decide) (by decide)
      obtain ⟨f, rfl, f1, f2⟩ := looks_mem hcl.1 l7
      have vi := look_v (p := p) (by omega) f1 f2
      refine ⟨bo.app (.cons (.iff f (Blk.of [.do_ 0]) (Blk.of [])) .nil), S7, _, ?_, d7, by omega, by omega, fun X => (k6 X).trans (k7 X), Blk.app_ok o5 (by simp only [Blk.ok, Bool.and_eq_true]; exact ⟨vi.ok, trivial⟩), ?_, ?_, app_wd wd5 vi.wd (by omega), ?_⟩
      · have ad : addP S7 (.tup bo.ds) (.tup [.tup [.str "if", f.d, .tup [.tup [.str "do", .int 0]], .tup []]]) = some (.tup (bo.ds ++ [.tup [.str "if", f.d, .tup [.tup [.str "do", .int 0]], .tup []]])) := by
          unfold addP
          simp only []
          rw [if_pos (by simp; omega)]
        unfold looksL at e7
        simp [B_law_program, Ss.at, sdA, sdB, sdC, sdD, sh, ce, e6, zq, e7, ad, Blk.app_ds, Blk.ds, look_d]
      · rw [Blk.app_dep]; simp only [Blk.dep]; have := vi.dep; omega
      · rw [Blk.app_fd]; simp only [Blk.fd]; have := vi.fd; omega
      · rw [Blk.app_sz]; simp only [Blk.sz]; have := look_sz f2; omega
    · refine ⟨bo, S6, _, ?_, d6, by omega, by omega, k6, o5, dp5, fd5, wd5, by omega⟩
      simp [B_law_program, Ss.at, sdA, sdB, sdC, sdD, sh, ce, e6, zq]
  obtain ⟨bo', S7, n7, s4, d7, g7, g7', k7, o7, dp7, fd7, wd7, sz7⟩ := look
  obtain ⟨ta, S8, n8, e8, d8, g8, g8', k8, o8, dp8, fd8, wd8, ln8, sz8⟩ := blk_new (G := G) (wf := wf) F (p := p) (w := cs.length) (dep := 1) (r := 4) (K := k + 13) (by omega) (by omega) hcl.1 (by omega) (by decide) d7 (by omega) (by omega)
  refine ⟨⟨a', b', p, cs, bo', ta⟩, S8, n8, (run_succ F.program rfl).trans ?_, ⟨by simp only []; omega, by simp only []; omega, by simp only []; omega, hcs, o7, o8, dp7, dp8, fd7, fd8, wd7, wd8, by simp only []; omega, by simp only []; omega⟩, d8, by omega, by omega, fun X => (((kA X).trans (k5 X)).trans (k7 X)).trans (k8 X)⟩
  show fnEnd (dSs G (run T G wf (k + 19)) wf (B_law_program x) (slots0 9 [.loc 1, .int L, .int W]) S) = _
  rw [stp0 rfl s0, stp rfl s1, stp rfl s2, stp rfl s3, stp rfl s4]
  simp at e8
  simp [B_law_program, Ss.fr, sdA, sdB, sdC, sdD, sh, ce, e8, fnEnd, Prog.d]
theorem wide_ok (F : FamA T x) {L : Nat} {css : List (List Nat)} (hL : 0 < L ∧ L < 1000) (hc : 0 < css.length ∧ css.length < 100) (hcs : ∀ cs ∈ css, 0 < cs.length ∧ cs.length < 9) {k : Nat} {S : Sto} {n : Int} (h : Dk S 0 1 n) (hn : 0 ≤ n) (hn2 : n < 600000) :
    ∃ P S' n', run T G wf (k + 20) x.law_wide [.loc 1, .lst (css.map fun cs => D.tup (cs.map fun (c : Nat) => D.int c)), .int L] S = .ok (Prog.d P) S' ∧ ProgV L 5 css P ∧ Dk S' 0 1 n' ∧ n ≤ n' ∧ n' ≤ n + 4000 ∧ ∀ X, Kp S S' X := by
  obtain ⟨e, S1, e1, l1, d1, k1⟩ := one (G := G) (wf := wf) F (k := k + 17) (xs := css.map fun cs => D.tup (cs.map fun (c : Nat) => D.int c)) h hn (by omega) (by simp; omega) (by simp; omega)
  obtain ⟨cs, hm, rfl⟩ := cells_mem l1
  have hcl := hcs cs hm
  obtain ⟨c, S2, e2, l2, d2, k2⟩ := drw (G := G) (wf := wf) F (k := k + 18) (m := 5) d1 (by omega) (by omega) (by decide) (by decide)
  simp at e2
  let ce : D := .tup (cs.map fun (c : Nat) => D.int c)
  let cl : D := .lst (css.map fun cs => D.tup (cs.map fun (c : Nat) => D.int c))
  obtain ⟨p, hp⟩ : ∃ p : Nat, (1 : Int) + (c : Int) = (p : Int) := ⟨1 + c, by omega⟩
  let sh : D := .lst [.int p, .int cs.length]
  let sdA : Sl := [some (.loc 1), some cl, some (.int L), none, none, none, some ce, some (.int p), none, none]
  have s0 : dS G (run T G wf (k + 19)) wf ((B_law_wide x).at 0) (slots0 10 [.loc 1, cl, .int L]) S = .ok .nx sdA S2 := by
    simp only [B_law_wide, Ss.at]
    rw [q_spar, par2_ok (x := ce) (y := .int p) (S1 := S2)]
    · rfl
    · simp [slots0, e1, e2, hp, cl, ce]
  let sdB : Sl := sdA.set 3 (some sh)
  have s1 : dS G (run T G wf (k + 19)) wf ((B_law_wide x).at 1) sdA S2 = .ok .nx sdB S2 := by
    simp [B_law_wide, Ss.at, sdA, sdB, sh, ce]
  obtain ⟨bo, S3, n3, e3, d3, g3, g3', k3, o3, dp3, fd3, wd3, ln3, sz3⟩ := blk_new (G := G) (wf := wf) F (p := p) (w := cs.length) (dep := 2) (r := 10) (K := k + 12) (by omega) (by omega) hcl.1 (by omega) (by decide) d2 (by omega) (by omega)
  let sdC : Sl := sdB.set 4 (some (.tup bo.ds))
  have s2 : dS G (run T G wf (k + 19)) wf ((B_law_wide x).at 2) sdB S2 = .ok .nx sdC S3 := by
    simp at e3
    simp [B_law_wide, Ss.at, sdA, sdB, sdC, sh, ce, e3]
  obtain ⟨a, S4, e4, l4, d4, k4⟩ := drw (G := G) (wf := wf) F (k := k + 18) (m := L) d3 (by omega) (by omega) hL.1 (by omega)
  obtain ⟨b, S5, e5, l5, d5, k5⟩ := drw (G := G) (wf := wf) F (k := k + 18) (m := L) d4 (by omega) (by omega) hL.1 (by omega)
  obtain ⟨a', ha⟩ : ∃ a' : Nat, (1 : Int) + (a : Int) = (a' : Int) := ⟨1 + a, by omega⟩
  obtain ⟨b', hb⟩ : ∃ b' : Nat, (1 : Int) + (b : Int) = (b' : Int) := ⟨1 + b, by omega⟩
  let sdD : Sl := (sdC.set 8 (some (.int a'))).set 9 (some (.int b'))
  have s3 : dS G (run T G wf (k + 19)) wf ((B_law_wide x).at 3) sdC S3 = .ok .nx sdD S5 := by
    simp only [B_law_wide, Ss.at]
    rw [q_spar, par2_ok (x := .int a') (y := .int b') (S1 := S5)]
    simp [sdC, sdB, sdA, e4, e5, ha, hb]
  let f : Fm := .op .same (.cell (cs.length - 1)) .secret
  have fo : f.ok cs.length = true := by simp [f, Fm.ok]; omega
  have fd : f.dep ≤ 1 := by simp [f, Fm.dep]
  have vi := look_v (p := p) (by omega) fo fd
  have fe : f.d = .tup [.str "same", .tup [.str "cell", .int (cs.length - 1)], .str "secret"] := by
    simp only [f, Fm.d, Opr.s]
    rw [show ((cs.length - 1 : Nat) : Int) = (cs.length : Int) - 1 by omega]
  let sdE : Sl := sdD.set 5 (some (Stm.iff f (Blk.of [.do_ 0]) (Blk.of [])).d)
  have s4 : dS G (run T G wf (k + 19)) wf ((B_law_wide x).at 4) sdD S5 = .ok .nx sdE S5 := by
    simp [B_law_wide, Ss.at, sdA, sdB, sdC, sdD, sdE, sh, ce, look_d, fe]
  obtain ⟨ta, S8, n8, e8, d8, g8, g8', k8, o8, dp8, fd8, wd8, ln8, sz8⟩ := blk_new (G := G) (wf := wf) F (p := p) (w := cs.length) (dep := 1) (r := 4) (K := k + 13) (by omega) (by omega) hcl.1 (by omega) (by decide) d5 (by omega) (by omega)
  refine ⟨⟨a', b', p, cs, bo.app (.cons (.iff f (Blk.of [.do_ 0]) (Blk.of [])) .nil), ta⟩, S8, n8, (run_succ F.wide rfl).trans ?_, ⟨by simp only []; omega, by simp only []; omega, by simp only []; omega, hm, Blk.app_ok o3 (by simp only [Blk.ok, Bool.and_eq_true]; exact ⟨vi.ok, trivial⟩), o8, ?_, dp8, ?_, fd8, app_wd wd3 vi.wd (by omega), wd8, ?_, by simp only []; omega⟩, d8, by omega, by omega, fun X => (((((k1 X).trans (k2 X)).trans (k3 X)).trans (k4 X)).trans (k5 X)).trans (k8 X)⟩
  · show fnEnd (dSs G (run T G wf (k + 19)) wf (B_law_wide x) (slots0 10 [.loc 1, cl, .int L]) S) = _
    rw [stp0 rfl s0, stp rfl s1, stp rfl s2, stp rfl s3, stp rfl s4]
    have ad : ∀ S, addP S (.tup bo.ds) (.tup [(Stm.iff f (Blk.of [.do_ 0]) (Blk.of [])).d]) = some (.tup (bo.ds ++ [(Stm.iff f (Blk.of [.do_ 0]) (Blk.of [])).d])) := by
      intro S
      unfold addP
      simp only []
      rw [if_pos (by simp; omega)]
    simp at e8
    simp [B_law_wide, Ss.fr, sdA, sdB, sdC, sdD, sdE, sh, ce, e8, ad, fnEnd, Prog.d, Blk.app_ds, Blk.ds]
  · rw [Blk.app_dep]; simp only [Blk.dep]; have := vi.dep; omega
  · rw [Blk.app_fd]; simp only [Blk.fd]; have := vi.fd; omega
  · simp only [Blk.app_sz, Blk.sz]; have := look_sz fd; omega
end
end Z

/-! Values of sums: the program's def and the law's. -/
namespace Z
open PySem PySem.Spec PyProof.Rows L2
def B_value_of (x : Ix) : Ss := (.cons (.ite (.tru (.isi (.v 0) .int)) (.cons (.ret (.v 0)) .nil) .nil) (.cons (.ite (.cmp .Eq (.v 0) (.g x.gKNOWN)) (.cons (.ret (.v 1)) .nil) .nil) (.cons (.ite (.cmp .Eq (.v 0) (.g x.gSECRET)) (.cons (.ret (.v 2)) .nil) .nil) (.cons (.ite (.cmp .Eq (.ix (.v 0) (.c (.int 0))) (.c (.str "cell"))) (.cons (.ret (.ix (.v 3) (.ix (.v 0) (.c (.int 1))))) .nil) .nil) (.cons (.par [4, 5] (.cons (.call x.value_of (.cons (.ix (.v 0) (.c (.int 1))) (.cons (.v 1) (.cons (.v 2) (.cons (.v 3) .nil))))) (.cons (.call x.value_of (.cons (.ix (.v 0) (.c (.int 2))) (.cons (.v 1) (.cons (.v 2) (.cons (.v 3) .nil))))) .nil))) (.cons (.ite (.cmp .Eq (.ix (.v 0) (.c (.int 0))) (.c (.str "plus"))) (.cons (.ret (.op .Add (.v 4) (.v 5))) .nil) .nil) (.cons (.ite (.cmp .Eq (.ix (.v 0) (.c (.int 0))) (.c (.str "times"))) (.cons (.ret (.op .Mult (.v 4) (.v 5))) .nil) .nil) (.cons (.ret (.ifx (.cmp .Eq (.ix (.v 0) (.c (.int 0))) (.c (.str "less"))) (.bf .int (.cons (.cmp .Lt (.v 4) (.v 5)) .nil)) (.bf .int (.cons (.cmp .Eq (.v 4) (.v 5)) .nil)))) .nil))))))))
def B_law_value (x : Ix) : Ss := (.cons (.ite (.tru (.isi (.v 0) .int)) (.cons (.ret (.v 0)) .nil) .nil) (.cons (.ite (.tru (.isi (.v 0) .str)) (.cons (.ret (.ifx (.cmp .Eq (.v 0) (.c (.str "known"))) (.v 1) (.v 2))) .nil) .nil) (.cons (.ite (.cmp .Eq (.ix (.v 0) (.c (.int 0))) (.c (.str "cell"))) (.cons (.ret (.ix (.v 3) (.ix (.v 0) (.c (.int 1))))) .nil) .nil) (.cons (.par [4, 5] (.cons (.call x.law_value (.cons (.ix (.v 0) (.c (.int 1))) (.cons (.v 1) (.cons (.v 2) (.cons (.v 3) .nil))))) (.cons (.call x.law_value (.cons (.ix (.v 0) (.c (.int 2))) (.cons (.v 1) (.cons (.v 2) (.cons (.v 3) .nil))))) .nil))) (.cons (.ret (.dsel ["plus", "times", "less", "same"] (.cons (.op .Add (.v 4) (.v 5)) (.cons (.op .Mult (.v 4) (.v 5)) (.cons (.bf .int (.cons (.cmp .Lt (.v 4) (.v 5)) .nil)) (.cons (.bf .int (.cons (.cmp .Eq (.v 4) (.v 5)) .nil)) .nil)))) (.ix (.v 0) (.c (.int 0))))) .nil)))))
def B_Stand_init (x : Ix) : Ss := (.cons (.setf (.v 0) "counts" (.opM .Mult (.lst false (.cons (.c (.int 0)) .nil)) (.v 1))) (.cons (.setf (.v 0) "cells" (.lstC (.v 2))) (.cons (.setf (.v 0) "stopped" (.c (.bl false))) .nil)))
def B_Stand_go (x : Ix) : Ss := (.cons (.for_ (.nm 5) (.seq (.v 1)) (.cons (.ite (.tru (.fld (.v 0) "stopped")) (.cons .retN .nil) .nil) (.cons (.ex (.mth (.v 0) "do" (.cons (.v 5) (.cons (.v 2) (.cons (.v 3) (.cons (.v 4) .nil)))))) .nil))) .nil)
def B_Stand_do (x : Ix) : Ss := (.cons (.asg (.nm 5) (.ix (.v 1) (.c (.int 0)))) (.cons (.ite (.cmp .Eq (.v 5) (.c (.str "do"))) (.cons (.augS (.fld (.v 0) "counts") (.ix (.v 1) (.c (.int 1))) .Add (.c (.int 1))) .nil) (.cons (.ite (.cmp .Eq (.v 5) (.c (.str "set"))) (.cons (.asg (.nm 6) (.ix (.v 1) (.c (.int 1)))) (.cons (.asg (.sub (.fld (.v 0) "cells") (.v 6)) (.op .Mod (.call x.value_of (.cons (.ix (.v 1) (.c (.int 2))) (.cons (.v 3) (.cons (.v 4) (.cons (.fld (.v 0) "cells") .nil))))) (.ix (.v 2) (.v 6)))) .nil)) (.cons (.ite (.cmp .Eq (.v 5) (.c (.str "if"))) (.cons (.asg (.nm 7) (.call x.value_of (.cons (.ix (.v 1) (.c (.int 1))) (.cons (.v 3) (.cons (.v 4) (.cons (.fld (.v 0) "cells") .nil)))))) (.cons (.ex (.mth (.v 0) "go" (.cons (.ifx (.cmp .NotEq (.v 7) (.c (.int 0))) (.ix (.v 1) (.c (.int 2))) (.ix (.v 1) (.c (.int 3)))) (.cons (.v 2) (.cons (.v 3) (.cons (.v 4) .nil)))))) .nil)) (.cons (.setf (.v 0) "stopped" (.c (.bl true))) .nil)) .nil)) .nil)) .nil))
def B_run (x : Ix) : Ss := (.cons (.asg (.tup (.cons (.nm 4) (.cons (.nm 5) (.cons (.nm 6) (.cons (.nm 7) .nil))))) (.sl (.v 0) (.some (.c (.int 2))) .none)) (.cons (.asg (.nm 3) (.mk x.c0 (.cons (.v 4) (.cons (.op .Mult (.lst false (.cons (.c (.int 0)) .nil)) (.bf .len (.cons (.v 5) .nil))) .nil)))) (.cons (.for_ (.tup (.cons (.nm 8) (.cons (.nm 9) .nil))) (.zip (.cons (.v 1) (.cons (.v 2) .nil))) (.cons (.ex (.mth (.v 3) "go" (.cons (.v 6) (.cons (.v 5) (.cons (.bf .int (.cons (.v 8) .nil)) (.cons (.bf .int (.cons (.v 9) .nil)) .nil)))))) .nil)) (.cons (.ex (.mth (.v 3) "go" (.cons (.v 7) (.cons (.v 5) (.cons (.c (.int 0)) (.cons (.c (.int 0)) .nil)))))) (.cons (.ret (.tup (.cons (.bf .tup (.cons (.fld (.v 3) "counts") .nil)) (.cons (.bf .tup (.cons (.fld (.v 3) "cells") .nil)) (.cons (.fld (.v 3) "stopped") .nil))))) .nil)))))
def B_product (x : Ix) : Ss := (.cons (.ret (.bf .sum (.cons (.lc false (.tup (.cons (.nm 2) (.cons (.nm 3) .nil))) (.zip (.cons (.v 0) (.cons (.v 1) .nil))) .none (.op .Mult (.v 2) (.v 3)) [("one", 2), ("other", 3)]) .nil))) .nil)
def B_time (x : Ix) : Ss := (.cons (.ret (.call x.product (.cons (.ix (.call x.run (.cons (.v 0) (.cons (.v 2) (.cons (.v 3) .nil)))) (.c (.int 0))) (.cons (.v 1) .nil)))) .nil)
def B_law_go (x : Ix) : Ss := (.cons (.for_ (.nm 5) (.seq (.v 0)) (.cons (.ite (.cmp .Eq (.ix (.v 5) (.c (.int 0))) (.c (.str "stop"))) (.cons (.ret (.c (.bl true))) .nil) .nil) (.cons (.ite (.cmp .Eq (.ix (.v 5) (.c (.int 0))) (.c (.str "do"))) (.cons (.augS (.v 3) (.ix (.v 5) (.c (.int 1))) .Add (.c (.int 1))) .nil) (.cons (.ite (.cmp .Eq (.ix (.v 5) (.c (.int 0))) (.c (.str "set"))) (.cons (.asg (.sub (.v 4) (.ix (.v 5) (.c (.int 1)))) (.op .Mod (.call x.law_value (.cons (.ix (.v 5) (.c (.int 2))) (.cons (.ix (.v 2) (.c (.int 0))) (.cons (.ix (.v 2) (.c (.int 1))) (.cons (.v 4) .nil))))) (.ix (.v 1) (.ix (.v 5) (.c (.int 1)))))) .nil) (.cons (.asg (.nm 6) (.ifx (.cmp .NotEq (.call x.law_value (.cons (.ix (.v 5) (.c (.int 1))) (.cons (.ix (.v 2) (.c (.int 0))) (.cons (.ix (.v 2) (.c (.int 1))) (.cons (.v 4) .nil))))) (.c (.int 0))) (.c (.int 2)) (.c (.int 3)))) (.cons (.ite (.tru (.call x.law_go (.cons (.ix (.v 5) (.v 6)) (.cons (.v 1) (.cons (.v 2) (.cons (.v 3) (.cons (.v 4) .nil))))))) (.cons (.ret (.c (.bl true))) .nil) .nil) .nil))) .nil)) .nil))) (.cons (.ret (.c (.bl false))) .nil))
def B_law_run (x : Ix) : Ss := (.cons (.asg (.tup (.cons (.nm 5) (.cons (.nm 6) (.cons (.nm 7) (.cons (.nm 8) .nil))))) (.sl (.v 0) (.some (.c (.int 2))) .none)) (.cons (.par [9, 10] (.cons (.opM .Mult (.lst false (.cons (.c (.int 0)) .nil)) (.v 5)) (.cons (.opM .Mult (.lst false (.cons (.c (.int 0)) .nil)) (.bf .len (.cons (.v 6) .nil))) .nil))) (.cons (.for_ (.nm 3) (.rng1 (.cons (.bf .len (.cons (.v 1) .nil)) .nil)) (.cons (.ite (.tru (.call x.law_go (.cons (.v 7) (.cons (.v 6) (.cons (.tup (.cons (.bf .int (.cons (.ix (.v 1) (.v 3)) .nil)) (.cons (.bf .int (.cons (.ix (.v 2) (.v 3)) .nil)) .nil))) (.cons (.v 9) (.cons (.v 10) .nil))))))) (.cons (.ret (.tup (.cons (.bf .tup (.cons (.v 9) .nil)) (.cons (.bf .tup (.cons (.v 10) .nil)) (.cons (.c (.bl true)) .nil))))) .nil) .nil) .nil)) (.cons (.asg (.nm 4) (.call x.law_go (.cons (.v 8) (.cons (.v 6) (.cons (.tup (.cons (.c (.int 0)) (.cons (.c (.int 0)) .nil))) (.cons (.v 9) (.cons (.v 10) .nil))))))) (.cons (.ret (.tup (.cons (.bf .tup (.cons (.v 9) .nil)) (.cons (.bf .tup (.cons (.v 10) .nil)) (.cons (.v 4) .nil))))) .nil)))))
def B_law_time (x : Ix) : Ss := (.cons (.ret (.bf .sum (.cons (.lc false (.tup (.cons (.nm 4) (.cons (.nm 5) .nil))) (.zip (.cons (.ix (.call x.law_run (.cons (.v 0) (.cons (.v 2) (.cons (.v 3) .nil)))) (.c (.int 0))) (.cons (.v 1) .nil))) .none (.op .Mult (.v 4) (.v 5)) [("_law_count", 4), ("_law_cost", 5)]) .nil))) .nil)
def B_law_word (x : Ix) : Ss := (.cons (.ret (.sm .join (.c (.str "")) (.lc false (.nm 3) (.rng1 (.cons (.v 2) .nil)) .none (.call x.law_one (.cons (.v 0) (.cons (.sl (.c (.str "012")) .none (.some (.v 1))) .nil))) [("_law_k", 3)]))) .nil)
@[simp] theorem q_mPar2 {i j : Nat} {la : M (List D)} {sd : Sl} {S : Sto} : mPar [i, j] la sd S = (match la sd S with | .ok xs S1 => (match xs with | [x, y] => .ok .nx ((sd.set i (some x)).set j (some y)) S1 | _ => .bad) | .exc c fs S0 => .exc c fs sd S0 | .bad => .bad) := by
  unfold mPar
  cases la sd S with
  | ok xs S1 => cases xs with
    | nil => rfl
    | cons x l => cases l with
      | nil => rfl
      | cons y l => cases l <;> rfl
  | exc _ _ _ => rfl
  | bad => rfl
namespace Fm
def pd : Fm → PyData
  | .num n => .int n
  | .known => .str "known"
  | .secret => .str "secret"
  | .cell i => .tuple [.str "cell", .int i]
  | .op o a b => .tuple [.str o.s, a.pd, b.pd]
theorem toP0 : ∀ f : Fm, Z.toP0 f.d = some f.pd
  | .num n => rfl | .known => rfl | .secret => rfl | .cell i => rfl
  | .op o a b => by simp only [d, Z.toP0, toPs0, toP0 a, toP0 b, pd]; rfl
theorem lay : ∀ f : Fm, f.pd.canLay0 = true
  | .num n => rfl | .known => by decide +kernel | .secret => by decide +kernel | .cell i => by
    have : PyData.strOk "cell" = true := by decide +kernel
    simp [pd, PyData.canLay0, PyData.canLayAll0, this]
  | .op o a b => by
    have : PyData.strOk o.s = true := by cases o <;> decide +kernel
    simp [pd, PyData.canLay0, PyData.canLayAll0, this, lay a, lay b]
theorem dpt : ∀ f : Fm, f.pd.depth ≤ f.dep + 1
  | .num n => by simp [pd, PyData.depth] | .known => by simp [pd, PyData.depth] | .secret => by simp [pd, PyData.depth]
  | .cell i => by simp [pd, PyData.depth, PyData.depthAll, dep]
  | .op o a b => by
    have h1 := dpt a
    have h2 := dpt b
    simp only [pd, PyData.depth, PyData.depthAll, dep]; omega
theorem shaped {f : Fm} (h : f.dep ≤ 62) : SeqAt.shaped f.pd = true := by
  unfold SeqAt.shaped
  rw [lay f]
  have := dpt f
  simp; omega
theorem eq_op {S : Sto} {o : Opr} {a b : Fm} {s : Str} (hs : PyData.strOk s = true) (h : (Fm.op o a b).dep ≤ 62) : eqD S (.tup [.str o.s, a.d, b.d]) (.str s) = some (.bl false) := by
  have e : Z.toP S (.tup [.str o.s, a.d, b.d]) = some (Fm.op o a b).pd := toP0 (.op o a b)
  have e2 : Z.toP S (.str s) = some (.str s) := rfl
  have e3 : eqS (.tup [.str o.s, a.d, b.d]) (.str s) = none := rfl
  have e4 : eqE S (.tup [.str o.s, a.d, b.d]) (.str s) = none := rfl
  have e5 : eqT (.tup [.str o.s, a.d, b.d]) (.str s) = none := rfl
  have e6 : SeqAt.shaped (.str s) = true := by simp [SeqAt.shaped, PyData.canLay0, hs, PyData.depth]
  simp only [eqD, eqP, e, e2, e3, e4, e5, shaped h, e6, and_self, ↓reduceIte]
  rfl
theorem eq_cell {S : Sto} {i : Nat} {s : Str} (hs : PyData.strOk s = true) : eqD S (.tup [.str "cell", .int i]) (.str s) = some (.bl false) := by
  have e : Z.toP S (.tup [.str "cell", .int i]) = some (Fm.cell i).pd := toP0 (.cell i)
  have e2 : Z.toP S (.str s) = some (.str s) := rfl
  have e3 : eqS (.tup [.str "cell", .int i]) (.str s) = none := rfl
  have e4 : eqE S (.tup [.str "cell", .int i]) (.str s) = none := rfl
  have e5 : eqT (.tup [.str "cell", .int i]) (.str s) = none := rfl
  have e6 : SeqAt.shaped (.str s) = true := by simp [SeqAt.shaped, PyData.canLay0, hs, PyData.depth]
  simp only [eqD, eqP, e, e2, e3, e4, e5, shaped (f := .cell i) (by simp [dep]), e6, and_self, ↓reduceIte]
  rfl
theorem okK : PyData.strOk "known" = true := by decide +kernel
theorem okS : PyData.strOk "secret" = true := by decide +kernel
end Fm
@[simp] theorem intB {S : Sto} {b : Bool} : intD S (.bl b) = some (.int (if b then 1 else 0)) := rfl
@[simp] theorem intI {S : Sto} {i : Int} : intD S (.int i) = some (.int i) := rfl
theorem ix3_0 {S : Sto} {a b c : D} : ixP S (.tup [a, b, c]) (.int 0) = some a := rfl
theorem ix3_1 {S : Sto} {a b c : D} : ixP S (.tup [a, b, c]) (.int 1) = some b := rfl
theorem ix3_2 {S : Sto} {a b c : D} : ixP S (.tup [a, b, c]) (.int 2) = some c := rfl
theorem ix2_0 {S : Sto} {a b : D} : ixP S (.tup [a, b]) (.int 0) = some a := rfl
theorem ix2_1 {S : Sto} {a b : D} : ixP S (.tup [a, b]) (.int 1) = some b := rfl
theorem ix4_0 {S : Sto} {a b c d : D} : ixP S (.tup [a, b, c, d]) (.int 0) = some a := rfl
theorem ix4_1 {S : Sto} {a b c d : D} : ixP S (.tup [a, b, c, d]) (.int 1) = some b := rfl
theorem ix4_2 {S : Sto} {a b c d : D} : ixP S (.tup [a, b, c, d]) (.int 2) = some c := rfl
theorem ix4_3 {S : Sto} {a b c d : D} : ixP S (.tup [a, b, c, d]) (.int 3) = some d := rfl
theorem ix1_0 {S : Sto} {a : D} : ixP S (.tup [a]) (.int 0) = some a := rfl
theorem log_lt {a : Int} {m : Nat} (h0 : 0 < a) (h : a < 2 ^ m) : a.natAbs.log2 < m := by
  rw [Nat.log2_lt (by omega)]
  have : ((a.natAbs : Nat) : Int) < ((2 ^ m : Nat) : Int) := by rw [Int.natCast_pow]; simp; omega
  omega
theorem mulI_ok {a b : Int} {m n : Nat} (a0 : 0 ≤ a) (a1 : a < 2 ^ m) (b0 : 0 ≤ b) (b1 : b < 2 ^ n) (h : m + n ≤ 1000000) : mulI a b = some (a * b) := by
  unfold mulI
  by_cases za : a < 18446744073709551616
  · rw [if_pos (.inl ⟨by omega, za⟩)]
  · by_cases zb : b < 18446744073709551616
    · rw [if_pos (.inr ⟨by omega, zb⟩)]
    · rw [if_neg (by omega), if_pos]
      have h1 := log_lt (by omega) a1
      have h2 := log_lt (by omega) b1
      omega
section
variable {T : List Fn} {G : Ev} {wf : Nat} {x : Ix}
structure ValA (T : List Fn) (G : Ev) (x : Ix) : Prop where
  vo : T[x.value_of]? = some ⟨4, 6, B_value_of x⟩
  gk : G.g[x.gKNOWN]? = some (.str "known")
  gs : G.g[x.gSECRET]? = some (.str "secret")
/-- cells that can be looked up -/
def CelAt (S : Sto) (ce : D) (cs : List Int) : Prop := ∀ i, i < cs.length → ixP S ce (.int (i : Nat)) = some (.int (cs.getD i 0))
theorem celLoc {S : Sto} {c : Nat} {cs : List Int} (h : S[c]? = some (.lst (cs.map D.int))) : CelAt S (.loc c) cs := by
  intro i hi
  rw [ix_loc h (by omega) (by simp; omega)]
  simp [List.getD, List.getElem?_eq_getElem hi]
structure Bd (kn se : Int) (cs : List Int) : Prop where
  kn : 0 ≤ kn ∧ kn < 16
  se : 0 ≤ se ∧ se < 16
  cs : ∀ c ∈ cs, 0 ≤ c ∧ c < 16
theorem ops_v {S : Sto} {o : Opr} {kn se : Int} {cs : List Int} {f g : Fm} (hb : Bd kn se cs) (h1 : f.ok cs.length = true) (h2 : g.ok cs.length = true) (hz : f.sz + g.sz < 200000) :
    mulP S (.int (f.val kn se cs)) (.int (g.val kn se cs)) = some (.int (f.val kn se cs * g.val kn se cs)) := by
  obtain ⟨a0, a1⟩ := f.val_bd hb.kn hb.se hb.cs h1
  obtain ⟨b0, b1⟩ := g.val_bd hb.kn hb.se hb.cs h2
  simp [mulP, mulI_ok a0 a1 b0 b1 (by omega)]
theorem vo_ok (V : ValA T G x) {kn se : Int} {cs : List Int} (hb : Bd kn se cs) {ce : D} {S : Sto} (hc : CelAt S ce cs) : ∀ (f : Fm) (k : Nat), f.ok cs.length = true → f.sz < 200000 → f.dep ≤ 62 →
    run T G wf (k + f.dep + 1) x.value_of [f.d, .int kn, .int se, ce] S = .ok (.int (f.val kn se cs)) S
  | .num n, k, h, hz, hd => (run_succ V.vo rfl).trans (by simp [B_value_of, slots0, Fm.d, Fm.val, fnEnd])
  | .known, k, h, hz, hd => (run_succ V.vo rfl).trans (by simp [B_value_of, slots0, Fm.d, Fm.val, fnEnd, V.gk])
  | .secret, k, h, hz, hd => (run_succ V.vo rfl).trans (by simp [B_value_of, slots0, Fm.d, Fm.val, fnEnd, V.gk, V.gs])
  | .cell i, k, h, hz, hd => by
    simp [Fm.ok] at h
    have e := hc i h
    refine (run_succ V.vo rfl).trans ?_
    simp [B_value_of, slots0, Fm.d, Fm.val, fnEnd, V.gk, V.gs, ix2_0, ix2_1, e, Fm.eq_cell, Fm.okK, Fm.okS]
  | .op o f g, k, h, hz, hd => by
    simp only [Fm.ok, Bool.and_eq_true] at h
    simp only [Fm.sz] at hz
    have hd0 := hd
    simp only [Fm.dep] at hd
    obtain ⟨kf, hf⟩ : ∃ kf, k + max f.dep g.dep + 1 = kf + f.dep + 1 := ⟨k + max f.dep g.dep - f.dep, by omega⟩
    obtain ⟨kg, hg⟩ : ∃ kg, k + max f.dep g.dep + 1 = kg + g.dep + 1 := ⟨k + max f.dep g.dep - g.dep, by omega⟩
    have i1 := vo_ok V hb hc f kf h.1 (by omega) (by omega)
    have i2 := vo_ok V hb hc g kg h.2 (by omega) (by omega)
    rw [← hf] at i1
    rw [← hg] at i2
    refine (run_succ V.vo rfl).trans ?_
    show fnEnd (dSs G (run T G wf (k + max f.dep g.dep + 1)) wf (B_value_of x) (slots0 6 [.tup [.str o.s, f.d, g.d], .int kn, .int se, ce]) S) = .ok (.int (o.ap (f.val kn se cs) (g.val kn se cs))) S
    have ml := ops_v (S := S) (o := o) hb h.1 h.2 (by omega)
    have q1 := Fm.eq_op (S := S) Fm.okK hd0
    have q2 := Fm.eq_op (S := S) Fm.okS hd0
    generalize f.val kn se cs = a at *
    generalize g.val kn se cs = b at *
    generalize k + max f.dep g.dep + 1 = K at *
    generalize f.d = df at *
    generalize g.d = dg at *
    cases o with
    | plus => simp only [Opr.s] at q1 q2; simp [B_value_of, slots0, fnEnd, V.gk, V.gs, ix3_0, ix3_1, ix3_2, Opr.s, i1, i2, Opr.ap, q1, q2]
    | times => simp only [Opr.s] at q1 q2; simp [B_value_of, slots0, fnEnd, V.gk, V.gs, ix3_0, ix3_1, ix3_2, Opr.s, i1, i2, Opr.ap, q1, q2, ml]
    | less => simp only [Opr.s] at q1 q2; simp [B_value_of, slots0, fnEnd, V.gk, V.gs, ix3_0, ix3_1, ix3_2, Opr.s, i1, i2, Opr.ap, q1, q2]
    | same => simp only [Opr.s] at q1 q2; simp [B_value_of, slots0, fnEnd, V.gk, V.gs, ix3_0, ix3_1, ix3_2, Opr.s, i1, i2, Opr.ap, q1, q2]
theorem lv_ok (V : T[x.law_value]? = some ⟨4, 6, B_law_value x⟩) {kn se : Int} {cs : List Int} (hb : Bd kn se cs) {ce : D} {S : Sto} (hc : CelAt S ce cs) : ∀ (f : Fm) (k : Nat), f.ok cs.length = true → f.sz < 200000 →
    run T G wf (k + f.dep + 1) x.law_value [f.d, .int kn, .int se, ce] S = .ok (.int (f.val kn se cs)) S
  | .num n, k, h, hz => (run_succ V rfl).trans (by simp [B_law_value, slots0, Fm.d, Fm.val, fnEnd])
  | .known, k, h, hz => (run_succ V rfl).trans (by simp [B_law_value, slots0, Fm.d, Fm.val, fnEnd])
  | .secret, k, h, hz => (run_succ V rfl).trans (by simp [B_law_value, slots0, Fm.d, Fm.val, fnEnd])
  | .cell i, k, h, hz => by
    simp [Fm.ok] at h
    have e := hc i h
    refine (run_succ V rfl).trans ?_
    simp [B_law_value, slots0, Fm.d, Fm.val, fnEnd, ix2_0, ix2_1, e]
  | .op o f g, k, h, hz => by
    simp only [Fm.ok, Bool.and_eq_true] at h
    simp only [Fm.sz] at hz
    obtain ⟨kf, hf⟩ : ∃ kf, k + max f.dep g.dep + 1 = kf + f.dep + 1 := ⟨k + max f.dep g.dep - f.dep, by omega⟩
    obtain ⟨kg, hg⟩ : ∃ kg, k + max f.dep g.dep + 1 = kg + g.dep + 1 := ⟨k + max f.dep g.dep - g.dep, by omega⟩
    have i1 := lv_ok V hb hc f kf h.1 (by omega)
    have i2 := lv_ok V hb hc g kg h.2 (by omega)
    rw [← hf] at i1
    rw [← hg] at i2
    refine (run_succ V rfl).trans ?_
    show fnEnd (dSs G (run T G wf (k + max f.dep g.dep + 1)) wf (B_law_value x) (slots0 6 [.tup [.str o.s, f.d, g.d], .int kn, .int se, ce]) S) = .ok (.int (o.ap (f.val kn se cs) (g.val kn se cs))) S
    have ml := ops_v (S := S) (o := o) hb h.1 h.2 (by omega)
    generalize f.val kn se cs = a at *
    generalize g.val kn se cs = b at *
    generalize k + max f.dep g.dep + 1 = K at *
    generalize f.d = df at *
    generalize g.d = dg at *
    have nc : (o.s = "cell") = False := eq_false (by cases o <;> decide +kernel)
    have lk : ∀ v1 v2 v3 v4 : D, ((["plus", "times", "less", "same"] : List Str).zip [v1, v2, v3, v4]).lookup o.s = some (match o with | .plus => v1 | .times => v2 | .less => v3 | .same => v4) := fun v1 v2 v3 v4 => by
      cases o <;> kernel_rfl
    simp only [List.zip_cons_cons, List.zip_nil_right] at lk
    simp [B_law_value, slots0, fnEnd, ix3_0, ix3_1, ix3_2, i1, i2, ml, nc, lk]
    cases o <;> simp [Opr.ap]
end
end Z

/-! Blocks done by the law. -/
namespace Z
open PySem PySem.Spec PyProof.Rows L2
theorem incr_len : ∀ (l : List Int) (i : Nat), (incr l i).length = l.length
  | [], _ => rfl
  | x :: l, 0 => rfl
  | x :: l, i + 1 => by simp [incr, incr_len l i]
theorem incr_set : ∀ {l : List Int} {i : Nat} {v : Int}, l[i]? = some v → incr l i = l.set i (v + 1)
  | [], _, _, h => by simp at h
  | x :: l, 0, v, h => by simp at h; subst h; rfl
  | x :: l, i + 1, v, h => by simp at h; simp [incr, incr_set h]
/-- a state that fits -/
structure RnOk (p : Nat) (sz : List Int) (r : Rn) : Prop where
  cnt : r.cnt.length = p
  cel : r.cel.length = sz.length
  bd : ∀ c ∈ r.cel, 0 ≤ c ∧ c < 16
def SzOk (sz : List Int) : Prop := ∀ s ∈ sz, 0 < s ∧ s < 16
theorem getD_sz {sz : List Int} (h : SzOk sz) (i : Nat) : 0 < sz.getD i 1 ∧ sz.getD i 1 < 16 := by
  simp only [List.getD]
  cases e : sz[i]? with
  | none => simp
  | some s => exact h s (List.mem_of_getElem? e)
theorem mem_set {l : List Int} {i : Nat} {v c : Int} (h : c ∈ l.set i v) : c = v ∨ c ∈ l := by
  rcases List.mem_or_eq_of_mem_set h with h | h
  · exact .inr h
  · exact .inl h
mutual
theorem Stm.go_ok {p : Nat} {sz : List Int} (hz : SzOk sz) {kn se : Int} : ∀ (s : Stm) (r : Rn), RnOk p sz r → RnOk p sz (s.go sz kn se r)
  | .do_ i, r, h => ⟨by simp [Stm.go, incr_len, h.cnt], h.cel, h.bd⟩
  | .set i x, r, h => by
    refine ⟨h.cnt, by simp [Stm.go, h.cel], fun c hc => ?_⟩
    rcases mem_set hc with rfl | hc
    · have := getD_sz hz i
      exact ⟨Int.emod_nonneg _ (by omega), Int.lt_trans (Int.emod_lt_of_pos _ (by omega)) this.2⟩
    · exact h.bd c hc
  | .stop, r, h => ⟨h.cnt, h.cel, h.bd⟩
  | .iff x a b, r, h => by
    unfold Stm.go
    split
    · exact Blk.go_ok hz a r h
    · exact Blk.go_ok hz b r h
theorem Blk.go_ok {p : Nat} {sz : List Int} (hz : SzOk sz) {kn se : Int} : ∀ (b : Blk) (r : Rn), RnOk p sz r → RnOk p sz (b.go sz kn se r)
  | .nil, r, h => h
  | .cons s b, r, h => by
    unfold Blk.go
    split
    · exact Stm.go_ok hz s r h
    · exact Blk.go_ok hz b _ (Stm.go_ok hz s r h)
end
/-- the two lists in the store -/
def put (S : Sto) (a c : Nat) (r : Rn) : Sto := (S.set a (.lst (r.cnt.map D.int))).set c (.lst (r.cel.map D.int))
structure AtR (S : Sto) (a c : Nat) (r : Rn) : Prop where
  ne : a ≠ c
  cnt : S[a]? = some (.lst (r.cnt.map D.int))
  cel : S[c]? = some (.lst (r.cel.map D.int))
theorem set_same {S : Sto} {a : Nat} {o : MO} (h : S[a]? = some o) : S.set a o = S := by
  obtain ⟨h1, h2⟩ := List.getElem?_eq_some_iff.mp h
  rw [← h2]; exact List.set_getElem_self h1
theorem AtR.same {S : Sto} {a c : Nat} {r : Rn} (h : AtR S a c r) : put S a c r = S := by
  unfold put; rw [set_same h.cnt, set_same h.cel]
theorem AtR.put {S : Sto} {a c : Nat} {r : Rn} (h : AtR S a c r) (r' : Rn) : AtR (put S a c r') a c r' := by
  have h1 := (List.getElem?_eq_some_iff.mp h.cnt).1
  have h2 := (List.getElem?_eq_some_iff.mp h.cel).1
  exact ⟨h.ne, by unfold Z.put; rw [List.getElem?_set_ne (Ne.symm h.ne)]; simp [h1], by unfold Z.put; simp [h2]⟩
theorem put_put {S : Sto} {a c : Nat} {r r' : Rn} (h : a ≠ c) : put (put S a c r) a c r' = put S a c r' := by
  unfold put
  rw [List.set_comm (MO.lst (r.cel.map D.int)) _ (Ne.symm h), List.set_set, List.set_set]
theorem put_cnt {S : Sto} {a c : Nat} {r : Rn} (h : AtR S a c r) {xs : List Int} {b : Bool} : put S a c ⟨xs, r.cel, b⟩ = S.set a (.lst (xs.map D.int)) := by
  unfold put
  refine set_same ?_
  rw [List.getElem?_set_ne h.ne]; exact h.cel
theorem put_cel {S : Sto} {a c : Nat} {r : Rn} (h : AtR S a c r) {xs : List Int} {b : Bool} : put S a c ⟨r.cnt, xs, b⟩ = S.set c (.lst (xs.map D.int)) := by
  unfold put
  simp only [set_same h.cnt]
theorem augS_ok {mo mi me : M D} {f : Sto → D → D → Option D} {sd : Sl} {S : Sto} {n j : Nat} {xs : List D} {y z w : D} (h1 : mo sd S = .ok (.loc n) S) (h2 : mi sd S = .ok (.int j) S) (h3 : S[n]? = some (.lst xs)) (hj : xs[j]? = some y) (h4 : me sd S = .ok w S) (h5 : f S y w = some z) :
    mAugS mo mi f me sd S = .ok .nx sd (S.set n (.lst (xs.set j z))) := by
  have hl := (List.getElem?_eq_some_iff.mp hj).1
  have ha : L2.atI xs (j : Int) = some y := by rw [atI_in (by omega) (by omega)]; simpa using hj
  have hn : ixN xs.length (j : Int) = some j := by simp [ixN]; omega
  unfold mAugS
  simp [h1, h2, h3, ha, h4, h5, hn, Out.toS]
theorem sub_ok {me mo mi : M D} {sd : Sl} {S : Sto} {n j : Nat} {xs : List D} {d : D} (h0 : me sd S = .ok d S) (h1 : mo sd S = .ok (.loc n) S) (h2 : mi sd S = .ok (.int j) S) (h3 : S[n]? = some (.lst xs)) (hj : j < xs.length) :
    mAsg me (gSubM mo mi) sd S = .ok .nx sd (S.set n (.lst (xs.set j d))) := by
  have hn : ixN xs.length (j : Int) = some j := by simp [ixN]; omega
  unfold mAsg
  simp [h0, gSubM, h1, h2, h3, hn, Out.toS]
theorem szAt {S : Sto} {sz : List Int} {i : Nat} (h : i < sz.length) : ixP S (.tup (sz.map D.int)) (.int i) = some (.int (sz.getD i 1)) := by
  show L2.atI (sz.map D.int) (i : Int) = _
  rw [atI_in (by omega) (by simp; omega)]
  simp [List.getElem?_eq_getElem h, List.getD]
def forBody : S1 → Ss
  | .for_ _ _ b => b
  | _ => .nil
def lgB (x : Ix) : Ss := forBody ((B_law_go x).at 0)
section
variable {T : List Fn} {G : Ev} {wf : Nat} {x : Ix}
structure GoL (T : List Fn) (x : Ix) : Prop where
  val : T[x.law_value]? = some ⟨4, 6, B_law_value x⟩
  go : T[x.law_go]? = some ⟨5, 7, B_law_go x⟩
/-- what the law's block does at a fuel -/
def LgAt (T : List Fn) (G : Ev) (wf : Nat) (x : Ix) (m : Nat) : Prop := ∀ (b : Blk) (S : Sto) (a c : Nat) (r : Rn) (p : Nat) (sz : List Int) (kn se : Int), b.dep + b.fd + 2 ≤ m → b.fd ≤ 16 → SzOk sz → RnOk p sz r → AtR S a c r → r.stp = false → (0 ≤ kn ∧ kn < 16) → (0 ≤ se ∧ se < 16) → b.ok p sz.length = true →
  run T G wf m x.law_go [.tup b.ds, .tup (sz.map D.int), .tup [.int kn, .int se], .loc a, .loc c] S = .ok (.bl (b.go sz kn se r).stp) (put S a c (b.go sz kn se r))
theorem sz_fd {f : Fm} (h : f.dep ≤ 16) : f.sz < 200000 := by
  have := f.sz_dep
  have e : 2 ^ (f.dep + 1) ≤ 2 ^ (16 + 1) := Nat.pow_le_pow_right (by decide) (by omega)
  have : 2 ^ (16 + 1) = 131072 := by decide
  omega
theorem lg_st (L : GoL T x) {m : Nat} (ih : LgAt T G wf x m) {s : Stm} {S : Sto} {a c : Nat} {r : Rn} {p : Nat} {sz : List Int} {kn se : Int} (hm : s.dep + s.fd + 2 ≤ m + 1) (hf : s.fd ≤ 16) (hz : SzOk sz) (hr : RnOk p sz r) (hs : AtR S a c r) (h0 : r.stp = false) (hk : 0 ≤ kn ∧ kn < 16) (hse : 0 ≤ se ∧ se < 16) (ho : s.ok p sz.length = true) {bd : D} {x6 : Option D} :
    ∃ x6', dSs G (run T G wf m) wf (lgB x) [some bd, some (.tup (sz.map D.int)), some (.tup [.int kn, .int se]), some (.loc a), some (.loc c), some s.d, x6] S =
      .ok (if (s.go sz kn se r).stp then .rt (.bl true) else .nx) [some bd, some (.tup (sz.map D.int)), some (.tup [.int kn, .int se]), some (.loc a), some (.loc c), some s.d, x6'] (put S a c (s.go sz kn se r)) := by
  have hb : Bd kn se r.cel := ⟨hk, hse, hr.bd⟩
  have hc := celLoc hs.cel
  cases s with
  | do_ i =>
    refine ⟨x6, ?_⟩
    simp [Stm.ok] at ho
    have hi : i < r.cnt.length := by rw [hr.cnt]; exact ho
    have e := List.getElem?_eq_getElem hi
    have ad : iopF .Add S (.int r.cnt[i]) (.int 1) = some (.int (r.cnt[i] + 1)) := rfl
    have au := augS_ok (mo := mVar 3) (mi := mBin ixP (mVar 5) (mC (.int 1))) (me := mC (.int 1)) (f := iopF .Add) (sd := [some bd, some (.tup (sz.map D.int)), some (.tup [.int kn, .int se]), some (.loc a), some (.loc c), some (.tup [.str "do", .int i]), x6]) (S := S) (n := a) (j := i) (xs := r.cnt.map D.int) (y := .int r.cnt[i]) (w := .int 1) (z := .int (r.cnt[i] + 1)) (by simp) (by simp [ix2_1]) hs.cnt (by simp [e]) (by simp) ad
    have st : (Stm.do_ i).go sz kn se r = ⟨incr r.cnt i, r.cel, false⟩ := rfl
    rw [st, put_cnt hs, incr_set e, List.map_set]
    simp [lgB, forBody, B_law_go, Ss.at, Stm.d, ix2_0, au]
  | set i f =>
    refine ⟨x6, ?_⟩
    simp [Stm.ok] at ho
    simp only [Stm.dep, Stm.fd] at hm hf
    have hi : i < r.cel.length := by rw [hr.cel]; exact ho.1
    obtain ⟨k, hk'⟩ : ∃ k, m = k + f.dep + 1 := ⟨m - f.dep - 1, by omega⟩
    have v := lv_ok (G := G) (wf := wf) L.val hb hc f k (by rw [hr.cel]; exact ho.2) (sz_fd hf)
    rw [← hk'] at v
    have sa := szAt (S := S) ho.1
    have mo : intP modI S (.int (f.val kn se r.cel)) (.int (sz.getD i 1)) = some (.int (f.val kn se r.cel % sz.getD i 1)) := by
      simp only [intP, modI, if_pos (getD_sz hz i).1]; rfl
    have gz := (getD_sz hz i).1
    have st : (Stm.set i f).go sz kn se r = ⟨r.cnt, r.cel.set i (f.val kn se r.cel % sz.getD i 1), false⟩ := rfl
    generalize sz.getD i 1 = g at *
    generalize f.val kn se r.cel = fv at *
    have su := sub_ok (me := mBin (intP modI) (mFn (run T G wf m x.law_value) (mCons (mBin ixP (mVar 5) (mC (.int 2))) (mCons (mBin ixP (mVar 2) (mC (.int 0))) (mCons (mBin ixP (mVar 2) (mC (.int 1))) (mCons (mVar 4) mNil))))) (mBin ixP (mVar 1) (mBin ixP (mVar 5) (mC (.int 1))))) (mo := mVar 4) (mi := mBin ixP (mVar 5) (mC (.int 1))) (sd := [some bd, some (.tup (sz.map D.int)), some (.tup [.int kn, .int se]), some (.loc a), some (.loc c), some (.tup [.str "set", .int i, f.d]), x6]) (S := S) (n := c) (j := i) (xs := r.cel.map D.int) (d := .int (fv % g)) (by simp [ix3_2, ix3_1, ix2_0, ix2_1, v, sa, mo]) (by simp) (by simp [ix3_1]) hs.cel (by simpa using hi)
    rw [st, put_cel hs, List.map_set]
    simp [lgB, forBody, B_law_go, Ss.at, Stm.d, ix3_0, -q_mAsg, su]
  | stop =>
    refine ⟨x6, ?_⟩
    have st : Stm.stop.go sz kn se r = ⟨r.cnt, r.cel, true⟩ := rfl
    rw [st, put_cnt hs, set_same hs.cnt]
    simp [lgB, forBody, B_law_go, Ss.at, Stm.d, ix1_0]
  | iff f y z =>
    simp only [Stm.ok, Bool.and_eq_true] at ho
    simp only [Stm.dep, Stm.fd] at hm hf
    obtain ⟨k, hk'⟩ : ∃ k, m = k + f.dep + 1 := ⟨m - f.dep - 1, by omega⟩
    have v := lv_ok (G := G) (wf := wf) L.val hb hc f k (by rw [hr.cel]; exact ho.1.1) (sz_fd (by omega))
    rw [← hk'] at v
    have i1 := ih y S a c r p sz kn se (by omega) (by omega) hz hr hs h0 hk hse ho.1.2
    have i2 := ih z S a c r p sz kn se (by omega) (by omega) hz hr hs h0 hk hse ho.2
    by_cases q : f.val kn se r.cel = 0
    · refine ⟨some (.int 3), ?_⟩
      have st : (Stm.iff f y z).go sz kn se r = z.go sz kn se r := by simp [Stm.go, q]
      rw [st]
      cases e : (z.go sz kn se r).stp <;> rw [e] at i2 <;> simp [lgB, forBody, B_law_go, Ss.at, Stm.d, ix4_0, ix4_1, ix4_3, ix2_0, ix2_1, v, q, i2]
    · refine ⟨some (.int 2), ?_⟩
      have st : (Stm.iff f y z).go sz kn se r = y.go sz kn se r := by simp [Stm.go, q]
      rw [st]
      cases e : (y.go sz kn se r).stp <;> rw [e] at i1 <;> simp [lgB, forBody, B_law_go, Ss.at, Stm.d, ix4_0, ix4_1, ix4_2, ix2_0, ix2_1, v, q, i1]
theorem lg_for (L : GoL T x) {m : Nat} (ih : LgAt T G wf x m) {a c p : Nat} {sz : List Int} {kn se : Int} (hz : SzOk sz) (hk : 0 ≤ kn ∧ kn < 16) (hse : 0 ≤ se ∧ se < 16) {bd : D} : ∀ (b : Blk) (S : Sto) (r : Rn) (x5 x6 : Option D), b.dep + b.fd + 2 ≤ m + 1 → b.fd ≤ 16 → RnOk p sz r → AtR S a c r → r.stp = false → b.ok p sz.length = true →
    ∃ x5' x6', forL (gNm 5) (dSs G (run T G wf m) wf (lgB x)) b.ds [some bd, some (.tup (sz.map D.int)), some (.tup [.int kn, .int se]), some (.loc a), some (.loc c), x5, x6] S =
      .ok (if (b.go sz kn se r).stp then .rt (.bl true) else .nx) [some bd, some (.tup (sz.map D.int)), some (.tup [.int kn, .int se]), some (.loc a), some (.loc c), x5', x6'] (put S a c (b.go sz kn se r))
  | .nil, S, r, x5, x6, _, _, _, hs, h0, _ => ⟨x5, x6, by simp [Blk.ds, forL, Blk.go, h0, hs.same]⟩
  | .cons s b, S, r, x5, x6, hm, hf, hr, hs, h0, ho => by
    simp only [Blk.ok, Bool.and_eq_true] at ho
    simp only [Blk.dep, Blk.fd] at hm hf
    obtain ⟨y6, e⟩ := lg_st L ih (s := s) (bd := bd) (x6 := x6) (by omega) (by omega) hz hr hs h0 hk hse ho.1
    have g : gNm 5 s.d [some bd, some (.tup (sz.map D.int)), some (.tup [.int kn, .int se]), some (.loc a), some (.loc c), x5, x6] S = some ([some bd, some (.tup (sz.map D.int)), some (.tup [.int kn, .int se]), some (.loc a), some (.loc c), some s.d, x6], S) := rfl
    rw [Blk.ds, forL]
    simp only [g, e]
    by_cases q : (s.go sz kn se r).stp = true
    · refine ⟨some s.d, y6, ?_⟩
      have st : (Blk.cons s b).go sz kn se r = s.go sz kn se r := by simp [Blk.go, q]
      rw [st]; simp [q]
    · have q' : (s.go sz kn se r).stp = false := by simpa using q
      obtain ⟨z5, z6, e2⟩ := lg_for (bd := bd) L ih hz hk hse b (put S a c (s.go sz kn se r)) (s.go sz kn se r) (some s.d) y6 (by omega) (by omega) (Stm.go_ok hz s r hr) (hs.put _) q' ho.2
      refine ⟨z5, z6, ?_⟩
      have st : (Blk.cons s b).go sz kn se r = b.go sz kn se (s.go sz kn se r) := by simp [Blk.go, q']
      rw [st]
      rw [put_put hs.ne] at e2
      simp [q', e2]
theorem lg_ok (L : GoL T x) : ∀ m, LgAt T G wf x m
  | 0 => fun b S a c r p sz kn se h => by omega
  | m + 1 => fun b S a c r p sz kn se hm hf hz hr hs h0 hk hse ho => by
    obtain ⟨x5, x6, e⟩ := lg_for (bd := .tup b.ds) L (lg_ok L m) hz hk hse b S r none none hm hf hr hs h0 ho
    refine (run_succ L.go rfl).trans ?_
    have sc : srcOf S (.tup b.ds) = some (.vals b.ds) := rfl
    have fe : dS G (run T G wf m) wf ((B_law_go x).at 0) (slots0 7 [.tup b.ds, .tup (sz.map D.int), .tup [.int kn, .int se], .loc a, .loc c]) S = .ok (if (b.go sz kn se r).stp then .rt (.bl true) else .nx) [some (.tup b.ds), some (.tup (sz.map D.int)), some (.tup [.int kn, .int se]), some (.loc a), some (.loc c), x5, x6] (put S a c (b.go sz kn se r)) := by
      rw [← e]
      show dS G (run T G wf m) wf (.for_ (.nm 5) (.seq (.v 0)) (lgB x)) _ S = _
      simp only [slots0, q_sfor, q_mFor, q_iseq, q_mSeq, q_ev]
      simp [sc, forV]
    show fnEnd (dSs G (run T G wf m) wf (.cons ((B_law_go x).at 0) ((B_law_go x).fr 1)) (slots0 7 [.tup b.ds, .tup (sz.map D.int), .tup [.int kn, .int se], .loc a, .loc c]) S) = _
    rw [q_scons]
    by_cases q : (b.go sz kn se r).stp = true
    · rw [if_pos q] at fe
      rw [then_rt fe, q]; rfl
    · have q' : (b.go sz kn se r).stp = false := by simpa using q
      rw [if_neg q] at fe
      rw [then_nx fe, q']
      simp [B_law_go, Ss.fr, fnEnd]
end
end Z

/-! Blocks done by a Stand. -/
namespace Z
open PySem PySem.Spec PyProof.Rows L2
def stF (a c : Nat) (b : Bool) : List (Str × D) := [("counts", .loc a), ("cells", .loc c), ("stopped", .bl b)]
@[simp] theorem stF_cnt {a c : Nat} {b : Bool} : (stF a c b).lookup ("counts" : Str) = some (.loc a) := by kernel_rfl
@[simp] theorem stF_cel {a c : Nat} {b : Bool} : (stF a c b).lookup ("cells" : Str) = some (.loc c) := by kernel_rfl
@[simp] theorem stF_stp {a c : Nat} {b : Bool} : (stF a c b).lookup ("stopped" : Str) = some (.bl b) := by kernel_rfl
@[simp] theorem stF_go {a c : Nat} {b : Bool} : (stF a c b).lookup ("go" : Str) = none := by kernel_rfl
@[simp] theorem stF_do {a c : Nat} {b : Bool} : (stF a c b).lookup ("do" : Str) = none := by kernel_rfl
@[simp] theorem stF_put {a c : Nat} {b b' : Bool} : putZ "stopped" (.bl b') (stF a c b) = stF a c b' := by kernel_rfl
@[simp] theorem stF_len {a c : Nat} {b : Bool} : (stF a c b).length = 3 := rfl
structure StdA (T : List Fn) (G : Ev) (x : Ix) : Prop where
  init : T[x.Stand_init]? = some ⟨3, 3, B_Stand_init x⟩
  go : T[x.Stand_go]? = some ⟨5, 6, B_Stand_go x⟩
  do_ : T[x.Stand_do]? = some ⟨5, 8, B_Stand_do x⟩
  fc : G.fld x.c0 "counts" = true
  fe : G.fld x.c0 "cells" = true
  fs : G.fld x.c0 "stopped" = true
  mg : G.mth x.c0 "go" = some x.Stand_go
  md : G.mth x.c0 "do" = some x.Stand_do
  mi : G.mth x.c0 "__init__" = some x.Stand_init
structure AtI (S : Sto) (cl s a c : Nat) (r : Rn) : Prop where
  at_ : AtR S a c r
  sa : s ≠ a
  sc : s ≠ c
  ins : S[s]? = some (.ins cl (stF a c r.stp))
def putS (S : Sto) (cl s a c : Nat) (r : Rn) : Sto := (put S a c r).set s (.ins cl (stF a c r.stp))
theorem AtI.same {S : Sto} {cl s a c : Nat} {r : Rn} (h : AtI S cl s a c r) : putS S cl s a c r = S := by
  unfold putS; rw [h.at_.same, set_same h.ins]
theorem put_oth {S : Sto} {a c : Nat} {r : Rn} {s : Nat} (h1 : s ≠ a) (h2 : s ≠ c) : (put S a c r)[s]? = S[s]? := by
  unfold put
  rw [List.getElem?_set_ne (Ne.symm h2), List.getElem?_set_ne (Ne.symm h1)]
theorem put_len {S : Sto} {a c : Nat} {r : Rn} : (put S a c r).length = S.length := by simp [put]
theorem AtI.put {S : Sto} {cl s a c : Nat} {r : Rn} (h : AtI S cl s a c r) (r' : Rn) : AtI (putS S cl s a c r') cl s a c r' := by
  have hp := h.at_.put r'
  have hl := (List.getElem?_eq_some_iff.mp h.ins).1
  refine ⟨⟨h.at_.ne, ?_, ?_⟩, h.sa, h.sc, ?_⟩
  · unfold putS; rw [List.getElem?_set_ne h.sa]; exact hp.cnt
  · unfold putS; rw [List.getElem?_set_ne h.sc]; exact hp.cel
  · unfold putS; simp [put_len, hl]
theorem putS_putS {S : Sto} {cl s a c : Nat} {r r' : Rn} (h : AtI S cl s a c r) {r1 : Rn} : putS (putS S cl s a c r1) cl s a c r' = putS S cl s a c r' := by
  unfold putS
  have e : put ((put S a c r1).set s (.ins cl (stF a c r1.stp))) a c r' = (put (put S a c r1) a c r').set s (.ins cl (stF a c r1.stp)) := by
    unfold put
    rw [List.set_comm _ _ h.sa, List.set_comm _ _ h.sc]
  rw [e, List.set_set, put_put h.at_.ne]
theorem putS_f {S : Sto} {cl s a c : Nat} {r r' : Rn} (h : AtI S cl s a c r) (e : r'.stp = r.stp) : putS S cl s a c r' = put S a c r' := by
  unfold putS
  rw [e]
  refine set_same ?_
  rw [put_oth h.sa h.sc]; exact h.ins
theorem ite_t {c : M Bool} {a b : MS} {sd : Sl} {S S1 : Sto} (h : c sd S = .ok true S1) : mIte c a b sd S = a sd S1 := by rw [q_mIte, h]; rfl
theorem ite_f {c : M Bool} {a b : MS} {sd : Sl} {S S1 : Sto} (h : c sd S = .ok false S1) : mIte c a b sd S = b sd S1 := by rw [q_mIte, h]; rfl
section
variable {T : List Fn} {G : Ev} {wf : Nat} {x : Ix}
def SdAt (T : List Fn) (G : Ev) (wf : Nat) (x : Ix) (m : Nat) : Prop := ∀ (st : Stm) (S : Sto) (s a c : Nat) (r : Rn) (p : Nat) (sz : List Int) (kn se : Int), 2 * st.dep + st.fd + 2 ≤ m → st.fd ≤ 16 → SzOk sz → RnOk p sz r → AtI S x.c0 s a c r → r.stp = false → (0 ≤ kn ∧ kn < 16) → (0 ≤ se ∧ se < 16) → st.ok p sz.length = true →
  run T G wf m x.Stand_do [.loc s, st.d, .tup (sz.map D.int), .int kn, .int se] S = .ok .non (putS S x.c0 s a c (st.go sz kn se r))
def SgAt (T : List Fn) (G : Ev) (wf : Nat) (x : Ix) (m : Nat) : Prop := ∀ (b : Blk) (S : Sto) (s a c : Nat) (r : Rn) (p : Nat) (sz : List Int) (kn se : Int), 2 * b.dep + b.fd + 3 ≤ m → b.fd ≤ 16 → SzOk sz → RnOk p sz r → AtI S x.c0 s a c r → r.stp = false → (0 ≤ kn ∧ kn < 16) → (0 ≤ se ∧ se < 16) → b.ok p sz.length = true →
  run T G wf m x.Stand_go [.loc s, .tup b.ds, .tup (sz.map D.int), .int kn, .int se] S = .ok .non (putS S x.c0 s a c (b.go sz kn se r))
theorem sd_ok (V : ValA T G x) (A : StdA T G x) {m : Nat} (ih : SgAt T G wf x m) : SdAt T G wf x (m + 1) := by
  intro st S s a c r p sz kn se hm hf hz hr hi h0 hk hse ho
  have hb : Bd kn se r.cel := ⟨hk, hse, hr.bd⟩
  have hs := hi.at_
  have hc := celLoc hs.cel
  have hin := hi.ins
  refine (run_succ A.do_ rfl).trans ?_
  show fnEnd (dSs G (run T G wf m) wf (B_Stand_do x) (slots0 8 [.loc s, st.d, .tup (sz.map D.int), .int kn, .int se]) S) = _
  cases st with
  | do_ i =>
    simp [Stm.ok] at ho
    have hi' : i < r.cnt.length := by rw [hr.cnt]; exact ho
    have e := List.getElem?_eq_getElem hi'
    have ad : iopF .Add S (.int r.cnt[i]) (.int 1) = some (.int (r.cnt[i] + 1)) := rfl
    have au := augS_ok (mo := mFld G (mVar 0) "counts") (mi := mBin ixP (mVar 1) (mC (.int 1))) (me := mC (.int 1)) (f := iopF .Add) (sd := [some (.loc s), some (.tup [.str "do", .int i]), some (.tup (sz.map D.int)), some (.int kn), some (.int se), some (.str "do"), none, none]) (S := S) (n := a) (j := i) (xs := r.cnt.map D.int) (y := .int r.cnt[i]) (w := .int 1) (z := .int (r.cnt[i] + 1)) (by simp [hin, A.fc]) (by simp [ix2_1]) hs.cnt (by simp [e]) (by simp) ad
    have st : (Stm.do_ i).go sz kn se r = ⟨incr r.cnt i, r.cel, false⟩ := rfl
    rw [st, putS_f hi (by simp [h0]), put_cnt hs, incr_set e, List.map_set]
    simp [B_Stand_do, slots0, Stm.d, ix2_0, -q_mFld, au, fnEnd]
  | set i f =>
    simp [Stm.ok] at ho
    simp only [Stm.dep, Stm.fd] at hm hf
    have hi' : i < r.cel.length := by rw [hr.cel]; exact ho.1
    obtain ⟨k, hk'⟩ : ∃ k, m = k + f.dep + 1 := ⟨m - f.dep - 1, by omega⟩
    have v := vo_ok (wf := wf) V hb hc f k (by rw [hr.cel]; exact ho.2) (sz_fd hf) (by omega)
    rw [← hk'] at v
    have sa := szAt (S := S) ho.1
    have mo : intP modI S (.int (f.val kn se r.cel)) (.int (sz.getD i 1)) = some (.int (f.val kn se r.cel % sz.getD i 1)) := by
      simp only [intP, modI, if_pos (getD_sz hz i).1]; rfl
    have gz := (getD_sz hz i).1
    have st : (Stm.set i f).go sz kn se r = ⟨r.cnt, r.cel.set i (f.val kn se r.cel % sz.getD i 1), false⟩ := rfl
    generalize sz.getD i 1 = g at *
    generalize f.val kn se r.cel = fv at *
    have su := sub_ok (me := mBin (intP modI) (mFn (run T G wf m x.value_of) (mCons (mBin ixP (mVar 1) (mC (.int 2))) (mCons (mVar 3) (mCons (mVar 4) (mCons (mFld G (mVar 0) "cells") mNil))))) (mBin ixP (mVar 2) (mVar 6))) (mo := mFld G (mVar 0) "cells") (mi := mVar 6) (sd := [some (.loc s), some (.tup [.str "set", .int i, f.d]), some (.tup (sz.map D.int)), some (.int kn), some (.int se), some (.str "set"), some (.int i), none]) (S := S) (n := c) (j := i) (xs := r.cel.map D.int) (d := .int (fv % g)) (by simp [hin, A.fe, ix3_2, ix3_1, v, sa, mo]) (by simp [hin, A.fe]) (by simp) hs.cel (by simpa using hi')
    rw [st, putS_f hi (by simp [h0]), put_cel hs, List.map_set]
    simp only [B_Stand_do, slots0, Stm.d]
    rw [q_scons, then_nx (sd1 := [some (.loc s), some (.tup [.str "set", .int i, f.d]), some (.tup (sz.map D.int)), some (.int kn), some (.int se), some (.str "set"), none, none]) (S1 := S) (by simp [ix3_0])]
    have s6 : dS G (run T G wf m) wf (.asg (.nm 6) (.ix (.v 1) (.c (.int 1)))) [some (.loc s), some (.tup [.str "set", .int i, f.d]), some (.tup (sz.map D.int)), some (.int kn), some (.int se), some (.str "set"), none, none] S = .ok .nx [some (.loc s), some (.tup [.str "set", .int i, f.d]), some (.tup (sz.map D.int)), some (.int kn), some (.int se), some (.str "set"), some (.int i), none] S := by simp [ix3_1]
    have c1 : dT G (run T G wf m) (.cmp .Eq (.v 5) (.c (.str "do"))) [some (.loc s), some (.tup [.str "set", .int i, f.d]), some (.tup (sz.map D.int)), some (.int kn), some (.int se), some (.str "set"), none, none] S = .ok false S := by simp
    have c2 : dT G (run T G wf m) (.cmp .Eq (.v 5) (.c (.str "set"))) [some (.loc s), some (.tup [.str "set", .int i, f.d]), some (.tup (sz.map D.int)), some (.int kn), some (.int se), some (.str "set"), none, none] S = .ok true S := by simp
    rw [one_st, q_site, ite_f c1, one_st, q_site, ite_t c2, q_scons, then_nx s6, one_st, q_sasg]
    simp only [q_gsub, q_efld, q_ev, q_eop, q_opMod, q_ecall, q_lcons, q_lnil, q_eix, q_ec, su]
    rfl
  | stop =>
    have st : Stm.stop.go sz kn se r = ⟨r.cnt, r.cel, true⟩ := rfl
    have pe : putS S x.c0 s a c ⟨r.cnt, r.cel, true⟩ = S.set s (.ins x.c0 (stF a c true)) := by
      unfold putS; rw [put_cnt hs, set_same hs.cnt]
    rw [st, pe]
    have sf : mSetF G (mVar 0) (mC (.bl true)) "stopped" [some (.loc s), some (.tup [.str "stop"]), some (.tup (sz.map D.int)), some (.int kn), some (.int se), some (.str "stop"), none, none] S = .ok .nx [some (.loc s), some (.tup [.str "stop"]), some (.tup (sz.map D.int)), some (.int kn), some (.int se), some (.str "stop"), none, none] (S.set s (.ins x.c0 (stF a c true))) := by
      simp [mSetF, hin, A.fs, Out.toS]
    simp [B_Stand_do, slots0, Stm.d, ix1_0, sf, fnEnd]
  | iff f y z =>
    simp only [Stm.ok, Bool.and_eq_true] at ho
    simp only [Stm.dep, Stm.fd] at hm hf
    obtain ⟨k, hk'⟩ : ∃ k, m = k + f.dep + 1 := ⟨m - f.dep - 1, by omega⟩
    have v := vo_ok (wf := wf) V hb hc f k (by rw [hr.cel]; exact ho.1.1) (sz_fd (by omega)) (by omega)
    rw [← hk'] at v
    have i1 := ih y S s a c r p sz kn se (by omega) (by omega) hz hr hi h0 hk hse ho.1.2
    have i2 := ih z S s a c r p sz kn se (by omega) (by omega) hz hr hi h0 hk hse ho.2
    by_cases q : f.val kn se r.cel = 0
    · have st : (Stm.iff f y z).go sz kn se r = z.go sz kn se r := by simp [Stm.go, q]
      rw [st]
      simp [B_Stand_do, slots0, Stm.d, ix4_0, ix4_1, ix4_2, ix4_3, hin, A.fe, A.mg, v, q, i2, fnEnd]
    · have st : (Stm.iff f y z).go sz kn se r = y.go sz kn se r := by simp [Stm.go, q]
      rw [st]
      simp [B_Stand_do, slots0, Stm.d, ix4_0, ix4_1, ix4_2, ix4_3, hin, A.fe, A.mg, v, q, i1, fnEnd]
def sgB (x : Ix) : Ss := forBody ((B_Stand_go x).at 0)
theorem sg_for (A : StdA T G x) {m : Nat} (ih : SdAt T G wf x m) {s a c p : Nat} {sz : List Int} {kn se : Int} (hz : SzOk sz) (hk : 0 ≤ kn ∧ kn < 16) (hse : 0 ≤ se ∧ se < 16) {bd : D} : ∀ (b : Blk) (S : Sto) (r : Rn) (x5 : Option D), 2 * b.dep + b.fd + 2 ≤ m → b.fd ≤ 16 → RnOk p sz r → AtI S x.c0 s a c r → r.stp = false → b.ok p sz.length = true →
    ∃ x5' fl, (fl = .nx ∨ fl = .rt .non) ∧ forL (gNm 5) (dSs G (run T G wf m) wf (sgB x)) b.ds [some (.loc s), some bd, some (.tup (sz.map D.int)), some (.int kn), some (.int se), x5] S =
      .ok fl [some (.loc s), some bd, some (.tup (sz.map D.int)), some (.int kn), some (.int se), x5'] (putS S x.c0 s a c (b.go sz kn se r))
  | .nil, S, r, x5, _, _, _, hs, h0, _ => ⟨x5, .nx, .inl rfl, by simp [Blk.ds, forL, Blk.go, hs.same]⟩
  | .cons t b, S, r, x5, hm, hf, hr, hs, h0, ho => by
    simp only [Blk.ok, Bool.and_eq_true] at ho
    simp only [Blk.dep, Blk.fd] at hm hf
    have e := ih t S s a c r p sz kn se (by omega) (by omega) hz hr hs h0 hk hse ho.1
    have hin := hs.ins
    have g : gNm 5 t.d [some (.loc s), some bd, some (.tup (sz.map D.int)), some (.int kn), some (.int se), x5] S = some ([some (.loc s), some bd, some (.tup (sz.map D.int)), some (.int kn), some (.int se), some t.d], S) := rfl
    have bo : dSs G (run T G wf m) wf (sgB x) [some (.loc s), some bd, some (.tup (sz.map D.int)), some (.int kn), some (.int se), some t.d] S = .ok .nx [some (.loc s), some bd, some (.tup (sz.map D.int)), some (.int kn), some (.int se), some t.d] (putS S x.c0 s a c (t.go sz kn se r)) := by
      simp [sgB, forBody, B_Stand_go, Ss.at, hin, A.fs, A.md, h0, e]
    rw [Blk.ds, forL]
    simp only [g, bo]
    by_cases q : (t.go sz kn se r).stp = true
    · have st : (Blk.cons t b).go sz kn se r = t.go sz kn se r := by simp [Blk.go, q]
      rw [st]
      have hin2 := (hs.put (t.go sz kn se r)).ins
      rw [q] at hin2
      cases b with
      | nil => exact ⟨some t.d, .nx, .inl rfl, by simp [Blk.ds, forL]⟩
      | cons u b =>
        refine ⟨some u.d, .rt .non, .inr rfl, ?_⟩
        have g2 : ∀ S', gNm 5 u.d [some (.loc s), some bd, some (.tup (sz.map D.int)), some (.int kn), some (.int se), some t.d] S' = some ([some (.loc s), some bd, some (.tup (sz.map D.int)), some (.int kn), some (.int se), some u.d], S') := fun _ => rfl
        have bo2 : dSs G (run T G wf m) wf (sgB x) [some (.loc s), some bd, some (.tup (sz.map D.int)), some (.int kn), some (.int se), some u.d] (putS S x.c0 s a c (t.go sz kn se r)) = .ok (.rt .non) [some (.loc s), some bd, some (.tup (sz.map D.int)), some (.int kn), some (.int se), some u.d] (putS S x.c0 s a c (t.go sz kn se r)) := by
          simp [sgB, forBody, B_Stand_go, Ss.at, hin2, A.fs]
        rw [Blk.ds, forL]
        simp only [g2, bo2]
    · have q' : (t.go sz kn se r).stp = false := by simpa using q
      obtain ⟨z5, fl, hfl, e2⟩ := sg_for (bd := bd) A ih hz hk hse b (putS S x.c0 s a c (t.go sz kn se r)) (t.go sz kn se r) (some t.d) (by omega) (by omega) (Stm.go_ok hz t r hr) (hs.put _) q' ho.2
      refine ⟨z5, fl, hfl, ?_⟩
      have st : (Blk.cons t b).go sz kn se r = b.go sz kn se (t.go sz kn se r) := by simp [Blk.go, q']
      rw [st]
      rw [putS_putS hs] at e2
      exact e2
theorem sg_ok (A : StdA T G x) {m : Nat} (ih : SdAt T G wf x m) : SgAt T G wf x (m + 1) := by
  intro b S s a c r p sz kn se hm hf hz hr hi h0 hk hse ho
  obtain ⟨x5, fl, hfl, e⟩ := sg_for (bd := .tup b.ds) A ih hz hk hse b S r none (by omega) hf hr hi h0 ho
  refine (run_succ A.go rfl).trans ?_
  have sc : srcOf S (.tup b.ds) = some (.vals b.ds) := rfl
  have fe : dS G (run T G wf m) wf ((B_Stand_go x).at 0) (slots0 6 [.loc s, .tup b.ds, .tup (sz.map D.int), .int kn, .int se]) S = .ok fl [some (.loc s), some (.tup b.ds), some (.tup (sz.map D.int)), some (.int kn), some (.int se), x5] (putS S x.c0 s a c (b.go sz kn se r)) := by
    rw [← e]
    show dS G (run T G wf m) wf (.for_ (.nm 5) (.seq (.v 1)) (sgB x)) _ S = _
    simp only [slots0, q_sfor, q_mFor, q_iseq, q_mSeq, q_ev]
    simp [sc, forV]
  show fnEnd (dSs G (run T G wf m) wf (.cons ((B_Stand_go x).at 0) .nil) (slots0 6 [.loc s, .tup b.ds, .tup (sz.map D.int), .int kn, .int se]) S) = _
  rw [one_st, fe]
  rcases hfl with rfl | rfl <;> rfl
theorem std_ok (V : ValA T G x) (A : StdA T G x) : ∀ m, SgAt T G wf x m ∧ SdAt T G wf x m
  | 0 => ⟨fun b S s a c r p sz kn se h => by omega, fun b S s a c r p sz kn se h => by omega⟩
  | m + 1 => ⟨sg_ok A (std_ok V A m).2, sd_ok V A (std_ok V A m).1⟩
/-- a stand that was stopped does nothing more -/
theorem sg_stop (A : StdA T G x) {m : Nat} {b : Blk} {S : Sto} {s a c : Nat} {r : Rn} {sz kn se : D} (hi : AtI S x.c0 s a c r) (h1 : r.stp = true) :
    run T G wf (m + 1) x.Stand_go [.loc s, .tup b.ds, sz, kn, se] S = .ok .non S := by
  refine (run_succ A.go rfl).trans ?_
  have sc : srcOf S (.tup b.ds) = some (.vals b.ds) := rfl
  have hin := hi.ins
  rw [h1] at hin
  show fnEnd (dSs G (run T G wf m) wf (.cons (.for_ (.nm 5) (.seq (.v 1)) (sgB x)) .nil) (slots0 6 [.loc s, .tup b.ds, sz, kn, se]) S) = _
  rw [one_st]
  simp only [slots0, q_sfor, q_mFor, q_iseq, q_mSeq, q_ev]
  cases b with
  | nil =>
    have sc0 : srcOf S (.tup []) = some (.vals []) := rfl
    simp [Blk.ds, sc0, forGo, fnEnd, Src.len, Src.fin]
  | cons u b =>
    have bo2 : dSs G (run T G wf m) wf (sgB x) [some (.loc s), some (.tup (u.d :: b.ds)), some sz, some kn, some se, some u.d] S = .ok (.rt .non) [some (.loc s), some (.tup (u.d :: b.ds)), some sz, some kn, some se, some u.d] S := by
      simp [sgB, forBody, B_Stand_go, Ss.at, hin, A.fs]
    have sc2 : srcOf S (.tup (u.d :: b.ds)) = some (.vals (u.d :: b.ds)) := rfl
    have fl : forL (gNm 5) (dSs G (run T G wf m) wf (sgB x)) (u.d :: b.ds) [some (.loc s), some (.tup (u.d :: b.ds)), some sz, some kn, some se, none] S = .ok (.rt .non) [some (.loc s), some (.tup (u.d :: b.ds)), some sz, some kn, some se, some u.d] S := by
      rw [forL]
      have g2 : gNm 5 u.d [some (.loc s), some (.tup (u.d :: b.ds)), some sz, some kn, some se, none] S = some ([some (.loc s), some (.tup (u.d :: b.ds)), some sz, some kn, some se, some u.d], S) := rfl
      simp only [g2, bo2]
    simp only [Blk.ds]
    have := forV (ds := u.d :: b.ds) (g := gNm 5) (b := dSs G (run T G wf m) wf (sgB x)) (sd := [some (.loc s), some (.tup (u.d :: b.ds)), some sz, some kn, some se, none]) (S := S)
    simp only [List.length_cons] at this
    simp [sc2, this, fl, fnEnd]
end
end Z

/-! Runs over words. -/
namespace Z
open PySem PySem.Spec PyProof.Rows L2
def dgS (n : Nat) : Str := ⟨#[48 + n]⟩
def wS (ws : List Nat) : Str := ⟨(ws.map (48 + ·)).toArray⟩
theorem wS_len (ws : List Nat) : (wS ws).length = ws.length := by simp [wS, Str.length]
theorem wS_signs (ws : List Nat) : signsD (wS ws) = ws.map fun n => D.str (dgS n) := by simp [signsD, wS, dgS]
theorem dg_int {S : Sto} {n : Nat} (h : n < 10) : intD S (.str (dgS n)) = some (.int n) := by
  match n, h with
  | 0, _ => kernel_rfl
  | 1, _ => kernel_rfl
  | 2, _ => kernel_rfl
  | 3, _ => kernel_rfl
  | 4, _ => kernel_rfl
  | 5, _ => kernel_rfl
  | 6, _ => kernel_rfl
  | 7, _ => kernel_rfl
  | 8, _ => kernel_rfl
  | 9, _ => kernel_rfl
theorem wS_ix {S : Sto} {ws : List Nat} {i n : Nat} (h : ws[i]? = some n) (hl : ws.length ≤ 16777216) : ixP S (.str (wS ws)) (.int i) = some (.str (dgS n)) := by
  have hi := (List.getElem?_eq_some_iff.mp h).1
  show (if (wS ws).length ≤ 16777216 then (L2.atI (wS ws).cps.toList (i : Int)).map fun c => D.str ⟨#[c]⟩ else none) = _
  rw [wS_len, if_pos hl, atI_in (by omega) (by simp [wS]; omega)]
  simp [wS, h, dgS]
theorem wS_lenD {S : Sto} {ws : List Nat} (hl : ws.length ≤ 16777216) : lenD S (.str (wS ws)) = some (.int ws.length) := by
  simp [lenD, lenP, wS_len, hl]
namespace Prog
def sz (P : Prog) : List Int := P.cells.map fun (c : Nat) => (c : Int)
def runW (P : Prog) : List (Nat × Nat) → Rn → Rn
  | [], r => P.tail.go P.sz 0 0 r
  | (k, s) :: l, r => if (P.body.go P.sz k s r).stp then P.body.go P.sz k s r else runW P l (P.body.go P.sz k s r)
def r0 (P : Prog) : Rn := ⟨List.replicate P.p 0, List.replicate P.cells.length 0, false⟩
def run (P : Prog) (ps : List (Nat × Nat)) : Rn := P.runW ps P.r0
end Prog
def Rn.d (r : Rn) : D := .tup [.tup (r.cnt.map D.int), .tup (r.cel.map D.int), .bl r.stp]
/-- the older part of the store stays -/
structure Pre (S S' : Sto) : Prop where
  len : S.length ≤ S'.length
  get : ∀ i, i < S.length → S'[i]? = S[i]?
theorem Pre.refl (S : Sto) : Pre S S := ⟨Nat.le_refl _, fun _ _ => rfl⟩
theorem Pre.trans {S S1 S2 : Sto} (a : Pre S S1) (b : Pre S1 S2) : Pre S S2 := ⟨Nat.le_trans a.len b.len, fun i hi => (b.get i (Nat.lt_of_lt_of_le hi a.len)).trans (a.get i hi)⟩
theorem Pre.kp {S S' : Sto} (h : Pre S S') (X : Nat → Prop) : Kp S S' X := ⟨h.len, fun c _ h2 _ => h.get c h2⟩
theorem Pre.dk {S S' : Sto} (h : Pre S S') {n : Int} (d : Dk S 0 1 n) : Dk S' 0 1 n := by
  obtain ⟨ne, ⟨xs, h1, h2⟩, h3⟩ := d
  exact ⟨ne, ⟨xs, by rw [h.get 0 (List.getElem?_eq_some_iff.mp h1).1]; exact h1, h2⟩, by rw [h.get 1 (List.getElem?_eq_some_iff.mp h3).1]; exact h3⟩
theorem Pre.push {S : Sto} {l : List MO} : Pre S (S ++ l) := ⟨by simp, fun i hi => List.getElem?_append_left hi⟩
theorem Pre.set {S S' : Sto} (h : Pre S S') {n : Nat} {o : MO} (hn : S.length ≤ n) : Pre S (S'.set n o) := ⟨by simpa using h.len, fun i hi => by rw [List.getElem?_set_ne (by omega)]; exact h.get i hi⟩
theorem Pre.put {S S' : Sto} (h : Pre S S') {a c : Nat} {r : Rn} (ha : S.length ≤ a) (hc : S.length ≤ c) : Pre S (put S' a c r) := (h.set ha).set hc
theorem rep0 (n : Nat) : (List.replicate n [D.int 0]).flatten = (List.replicate n (0 : Int)).map D.int := by
  induction n with
  | zero => rfl
  | succ n ih => rw [List.replicate_succ, List.flatten_cons, ih]; rfl
theorem rep_z {S : Sto} {n : Nat} (h : n ≤ 1000) : repL S (.lst [.int 0]) (.int n) = some ((List.replicate n (0 : Int)).map D.int) := by
  have e : asL S (.lst [.int 0]) = some [.int 0] := rfl
  unfold repL
  simp only [e]
  rw [if_pos ⟨by omega, by omega, by simp only [List.length_cons, List.length_nil, Int.toNat_natCast]; omega⟩, Int.toNat_natCast, rep0]
/-- a program that is fit to be run with a fuel -/
structure Fit (m : Nat) (P : Prog) : Prop where
  p : P.p ≤ 1000
  cl : P.cells.length ≤ 1000
  sz : SzOk P.sz
  bok : P.body.ok P.p P.cells.length = true
  tok : P.tail.ok P.p P.cells.length = true
  bm : 2 * P.body.dep + P.body.fd + 3 ≤ m
  tm : 2 * P.tail.dep + P.tail.fd + 3 ≤ m
  bf : P.body.fd ≤ 16
  tf : P.tail.fd ≤ 16
theorem sz_len (P : Prog) : P.sz.length = P.cells.length := by simp [Prog.sz]
theorem sz_d (P : Prog) : P.cells.map (fun (c : Nat) => D.int c) = P.sz.map D.int := by simp [Prog.sz]
theorem r0_ok (P : Prog) : RnOk P.p P.sz P.r0 := ⟨by simp [Prog.r0], by simp [Prog.r0, sz_len], fun c hc => by
  have := List.eq_of_mem_replicate hc
  subst this; decide⟩
/-- words of the same length, letters below ten -/
structure Wd (ps : List (Nat × Nat)) : Prop where
  len : ps.length ≤ 100000
  lt : ∀ q ∈ ps, q.1 < 10 ∧ q.2 < 10
def Wd.k (ps : List (Nat × Nat)) : Str := wS (ps.map (·.1))
def Wd.s (ps : List (Nat × Nat)) : Str := wS (ps.map (·.2))
theorem rng_l {q : Nat} (h : q ≤ 100000) : rng1 [.int q] = some (.vals ((List.range' 0 q).map fun (i : Nat) => D.int i)) := by
  simp only [rng1, rngV]
  rw [if_pos (by omega), show ((q : Int) - 0).toNat = q by omega, List.range_eq_range']
  simp
theorem own_m : ownF .Mult = repL := rfl
theorem own_ok {a b : M D} {f : Sto → D → D → Option (List D)} {sd : Sl} {S : Sto} {x y : D} {xs : List D} (h1 : a sd S = .ok x S) (h2 : b sd S = .ok y S) (h3 : f S x y = some xs) : mOwn f a b sd S = .ok (.loc S.length) (S ++ [.lst xs]) := by
  rw [q_mOwn, h1]
  simp only [h2, h3]
section
variable {G : Ev} {C : Nat → List D → Sto → Out D} {wf : Nat}
theorem opm_v {sd : Sl} {S : Sto} {p i : Nat} (h : sd[i]? = some (some (.int p))) (hp : p ≤ 1000) : dE G C (.opM .Mult (.lst false (.cons (.c (.int 0)) .nil)) (.v i)) sd S = .ok (.loc S.length) (S ++ [.lst ((List.replicate p (0 : Int)).map D.int)]) := by
  rw [q_eopM, own_m]
  exact own_ok (x := .lst [.int 0]) (y := .int p) (by simp) (by simp [h]) (rep_z hp)
theorem opm_l {sd : Sl} {S : Sto} {i : Nat} {xs : List Int} (h : sd[i]? = some (some (.tup (xs.map D.int)))) (hp : xs.length ≤ 1000) : dE G C (.opM .Mult (.lst false (.cons (.c (.int 0)) .nil)) (.bf .len (.cons (.v i) .nil))) sd S = .ok (.loc S.length) (S ++ [.lst ((List.replicate xs.length (0 : Int)).map D.int)]) := by
  rw [q_eopM, own_m]
  exact own_ok (x := .lst [.int 0]) (y := .int xs.length) (by simp) (by simp [h]) (rep_z hp)
theorem par_2 {sd : Sl} {S S1 S2 : Sto} {i j : Nat} {e e2 : E} {x y : D} (h1 : dE G C e sd S = .ok x S1) (h2 : dE G C e2 sd S1 = .ok y S2) : dS G C wf (.par [i, j] (.cons e (.cons e2 .nil))) sd S = .ok .nx ((sd.set i (some x)).set j (some y)) S2 := by
  rw [q_spar, par2_ok]
  rw [q_lcons, q_mCons, h1]
  simp only []
  rw [q_lcons, q_mCons, h2]
  rfl
end
theorem prog_sl {S : Sto} (P : Prog) : slP S P.d (some 2) none = some (.tup [.int P.p, .tup (P.sz.map D.int), .tup P.body.ds, .tup P.tail.ds]) := by
  unfold Prog.d; rw [sz_d]; rfl
section
variable {T : List Fn} {G : Ev} {wf : Nat} {x : Ix}
def lrB (x : Ix) : Ss := forBody ((B_law_run x).at 2)
theorem lr_for (L : GoL T x) {m : Nat} {P : Prog} (F : Fit m P) {a c : Nat} {v0 v1 v2 : D} {ps : List (Nat × Nat)} (hw : Wd ps) : ∀ (suf pre : List (Nat × Nat)), pre ++ suf = ps → ∀ (S : Sto) (r : Rn) (x3 : Option D), RnOk P.p P.sz r → AtR S a c r → r.stp = false →
    ∃ x3' r', RnOk P.p P.sz r' ∧ (P.runW suf r = if r'.stp then r' else P.tail.go P.sz 0 0 r') ∧
      forL (gNm 3) (dSs G (Z.run T G wf m) wf (lrB x)) ((List.range' pre.length suf.length).map fun (i : Nat) => D.int i) [some v0, some (.str (Wd.k ps)), some (.str (Wd.s ps)), x3, none, some v1, some (.tup (P.sz.map D.int)), some (.tup P.body.ds), some v2, some (.loc a), some (.loc c)] S =
      .ok (if r'.stp then .rt (Rn.d r') else .nx) [some v0, some (.str (Wd.k ps)), some (.str (Wd.s ps)), x3', none, some v1, some (.tup (P.sz.map D.int)), some (.tup P.body.ds), some v2, some (.loc a), some (.loc c)] (put S a c r')
  | [], pre, hp, S, r, x3, hr, hs, h0 => ⟨x3, r, hr, by simp [Prog.runW, h0], by simp [forL, h0, hs.same]⟩
  | (k, s) :: suf, pre, hp, S, r, x3, hr, hs, h0 => by
    have hk : (ps.map (·.1))[pre.length]? = some k := by rw [← hp]; simp
    have hs' : (ps.map (·.2))[pre.length]? = some s := by rw [← hp]; simp
    have hlt := hw.lt (k, s) (by rw [← hp]; simp)
    have e1 : ∀ S, ixP S (.str (Wd.k ps)) (.int (pre.length : Nat)) = some (.str (dgS k)) := fun S => wS_ix hk (by have := hw.len; simp; omega)
    have e2 : ∀ S, ixP S (.str (Wd.s ps)) (.int (pre.length : Nat)) = some (.str (dgS s)) := fun S => wS_ix hs' (by have := hw.len; simp; omega)
    have i1 : ∀ S, intD S (.str (dgS k)) = some (.int k) := fun S => dg_int hlt.1
    have i2 : ∀ S, intD S (.str (dgS s)) = some (.int s) := fun S => dg_int hlt.2
    have go := lg_ok (G := G) (wf := wf) L m P.body S a c r P.p P.sz k s (by have := F.bm; omega) F.bf F.sz hr hs h0 (by omega) (by omega) (by rw [sz_len]; exact F.bok)
    have hs1 := hs.put (P.body.go P.sz k s r)
    have tc : tupD (put S a c (P.body.go P.sz k s r)) (.loc a) = some (.tup ((P.body.go P.sz k s r).cnt.map D.int)) := tup_loc hs1.cnt
    have te : tupD (put S a c (P.body.go P.sz k s r)) (.loc c) = some (.tup ((P.body.go P.sz k s r).cel.map D.int)) := tup_loc hs1.cel
    have hr1 := Blk.go_ok (p := P.p) F.sz (kn := k) (se := s) P.body r hr
    rw [List.length_cons, List.range'_succ, List.map_cons, forL]
    have g : gNm 3 (.int (pre.length : Nat)) [some v0, some (.str (Wd.k ps)), some (.str (Wd.s ps)), x3, none, some v1, some (.tup (P.sz.map D.int)), some (.tup P.body.ds), some v2, some (.loc a), some (.loc c)] S = some ([some v0, some (.str (Wd.k ps)), some (.str (Wd.s ps)), some (.int (pre.length : Nat)), none, some v1, some (.tup (P.sz.map D.int)), some (.tup P.body.ds), some v2, some (.loc a), some (.loc c)], S) := rfl
    simp only [g]
    have rw1 : P.runW ((k, s) :: suf) r = if (P.body.go P.sz k s r).stp then P.body.go P.sz k s r else P.runW suf (P.body.go P.sz k s r) := rfl
    generalize P.body.go P.sz k s r = r1 at *
    have bo : dSs G (Z.run T G wf m) wf (lrB x) [some v0, some (.str (Wd.k ps)), some (.str (Wd.s ps)), some (.int (pre.length : Nat)), none, some v1, some (.tup (P.sz.map D.int)), some (.tup P.body.ds), some v2, some (.loc a), some (.loc c)] S = .ok (if r1.stp then .rt (Rn.d r1) else .nx) [some v0, some (.str (Wd.k ps)), some (.str (Wd.s ps)), some (.int (pre.length : Nat)), none, some v1, some (.tup (P.sz.map D.int)), some (.tup P.body.ds), some v2, some (.loc a), some (.loc c)] (put S a c r1) := by
      cases q : r1.stp <;> rw [q] at go <;> simp [lrB, forBody, B_law_run, Ss.at, e1, e2, i1, i2, go, tc, te, Rn.d, q]
    rw [bo]
    by_cases q : r1.stp = true
    · refine ⟨some (.int (pre.length : Nat)), r1, hr1, by rw [rw1]; simp [q], by simp [q]⟩
    · have q' : r1.stp = false := by simpa using q
      obtain ⟨x3', r', h1, h2, h3⟩ := lr_for (v0 := v0) (v1 := v1) (v2 := v2) L F hw suf (pre ++ [(k, s)]) (by rw [← hp]; simp) (put S a c r1) r1 (some (.int (pre.length : Nat))) hr1 hs1 q'
      refine ⟨x3', r', h1, by rw [rw1]; simp [q', h2], ?_⟩
      rw [put_put hs.ne] at h3
      simp only [List.length_append, List.length_cons, List.length_nil] at h3
      simpa [q'] using h3
theorem lr_ok (L : GoL T x) (hT : T[x.law_run]? = some ⟨3, 11, B_law_run x⟩) {m : Nat} {P : Prog} (F : Fit m P) {ps : List (Nat × Nat)} (hw : Wd ps) (S : Sto) :
    ∃ S', Z.run T G wf (m + 1) x.law_run [P.d, .str (Wd.k ps), .str (Wd.s ps)] S = .ok (Rn.d (P.run ps)) S' ∧ Pre S S' := by
  have hp := F.p
  have hcl := F.cl
  let v0 : D := P.d
  let sd0 : Sl := slots0 11 [P.d, .str (Wd.k ps), .str (Wd.s ps)]
  let sd1 : Sl := [some P.d, some (.str (Wd.k ps)), some (.str (Wd.s ps)), none, none, some (.int P.p), some (.tup (P.sz.map D.int)), some (.tup P.body.ds), some (.tup P.tail.ds), none, none]
  have s0 : dS G (Z.run T G wf m) wf ((B_law_run x).at 0) sd0 S = .ok .nx sd1 S := by
    have sl := prog_sl (S := S) P
    simp [B_law_run, Ss.at, sd0, sd1, slots0, sl, gTp, gsCons]
  let a := S.length
  let c := S.length + 1
  let S1 : Sto := S ++ [.lst (P.r0.cnt.map D.int)] ++ [.lst (P.r0.cel.map D.int)]
  let sd2 : Sl := [some P.d, some (.str (Wd.k ps)), some (.str (Wd.s ps)), none, none, some (.int P.p), some (.tup (P.sz.map D.int)), some (.tup P.body.ds), some (.tup P.tail.ds), some (.loc a), some (.loc c)]
  have s1 : dS G (Z.run T G wf m) wf ((B_law_run x).at 1) sd1 S = .ok .nx sd2 S1 := by
    have o1 := opm_v (G := G) (C := Z.run T G wf m) (sd := sd1) (S := S) (i := 5) (p := P.p) rfl hp
    have o2 := opm_l (G := G) (C := Z.run T G wf m) (sd := sd1) (S := S ++ [.lst ((List.replicate P.p (0 : Int)).map D.int)]) (i := 6) (xs := P.sz) rfl (by rw [sz_len]; exact hcl)
    rw [sz_len] at o2
    have o3 := par_2 (wf := wf) (i := 9) (j := 10) o1 o2
    rw [List.length_append] at o3
    exact o3
  have at1 : AtR S1 a c P.r0 := ⟨by simp only [a, c]; omega, by simp [S1, a], by simp [S1, c]⟩
  obtain ⟨x3, r', hr', hrun, e⟩ := lr_for (G := G) (wf := wf) (v0 := P.d) (v1 := .int P.p) (v2 := .tup P.tail.ds) L F hw ps [] rfl S1 P.r0 none (r0_ok P) at1 rfl
  let sd3 : Sl := [some P.d, some (.str (Wd.k ps)), some (.str (Wd.s ps)), x3, none, some (.int P.p), some (.tup (P.sz.map D.int)), some (.tup P.body.ds), some (.tup P.tail.ds), some (.loc a), some (.loc c)]
  have pre1 : Pre S S1 := Pre.push.trans Pre.push
  have s2 : dS G (Z.run T G wf m) wf ((B_law_run x).at 2) sd2 S1 = .ok (if r'.stp then .rt (Rn.d r') else .nx) sd3 (put S1 a c r') := by
    have ln : ∀ S : Sto, lenD S (.str (Wd.k ps)) = some (.int ps.length) := fun S => by
      have := wS_lenD (S := S) (ws := ps.map (·.1)) (by have := hw.len; simp; omega)
      simpa [Wd.k] using this
    have rg := rng_l (q := ps.length) hw.len
    simp only [List.length_nil] at e
    rw [← e]
    show dS G (Z.run T G wf m) wf (.for_ (.nm 3) (.rng1 (.cons (.bf .len (.cons (.v 1) .nil)) .nil)) (lrB x)) sd2 S1 = _
    have it : dI G (Z.run T G wf m) (.rng1 (.cons (.bf .len (.cons (.v 1) .nil)) .nil)) sd2 S1 = .ok (.vals ((List.range' 0 ps.length).map fun (i : Nat) => D.int i)) S1 := by
      simp [sd2, ln, rg]
    rw [q_sfor, q_mFor, it]
    simp only []
    exact for_list (sta_vals _)
  refine (fun ⟨S', h1, h2⟩ => ⟨S', (run_succ hT rfl).trans h1, h2⟩ : (∃ S', fnEnd (dSs G (Z.run T G wf m) wf (B_law_run x) sd0 S) = .ok (Rn.d (P.run ps)) S' ∧ Pre S S') → _) ?_
  rw [stp0 rfl s0, stp rfl s1]
  show ∃ S', fnEnd (dSs G (Z.run T G wf m) wf (.cons ((B_law_run x).at 2) ((B_law_run x).fr 3)) sd2 S1) = _ ∧ _
  rw [q_scons]
  have hpr : P.run ps = P.runW ps P.r0 := rfl
  by_cases q : r'.stp = true
  · rw [if_pos q] at s2 hrun
    rw [then_rt s2]
    exact ⟨_, by rw [hpr, hrun]; rfl, pre1.put (by simp [a]) (by simp [c])⟩
  · rw [if_neg q] at s2 hrun
    have q' : r'.stp = false := by simpa using q
    rw [then_nx s2]
    have at2 := at1.put r'
    have go := lg_ok (G := G) (wf := wf) L m P.tail (put S1 a c r') a c r' P.p P.sz 0 0 (by have := F.tm; omega) F.tf F.sz hr' at2 q' (by omega) (by omega) (by rw [sz_len]; exact F.tok)
    rw [put_put at1.ne] at go
    have at3 := at1.put (P.tail.go P.sz 0 0 r')
    have tc := tup_loc at3.cnt
    have te := tup_loc at3.cel
    refine ⟨put S1 a c (P.tail.go P.sz 0 0 r'), ?_, pre1.put (by simp [a]) (by simp [c])⟩
    rw [hpr, hrun]
    generalize P.tail.go P.sz 0 0 r' = r2 at *
    generalize put S1 a c r2 = S2 at *
    simp [B_law_run, Ss.fr, sd3, go, tc, te, Rn.d, fnEnd]
end
end Z

/-! The program's run. -/
namespace Z
open PySem PySem.Spec PyProof.Rows L2
theorem setf_ok {G : Ev} {ma mb : M D} {f : Str} {sd : Sl} {S S1 : Sto} {n cl : Nat} {fs : List (Str × D)} {y : D} (h1 : mb sd S = .ok y S1) (h2 : ma sd S1 = .ok (.loc n) S1) (h3 : S1[n]? = some (.ins cl fs)) (hf : G.fld cl f = true) (hl : fs.length < 1000) :
    mSetF G ma mb f sd S = .ok .nx sd (S1.set n (.ins cl (putZ f y fs))) := by
  unfold mSetF
  simp [h1, h2, h3, hf, hl, Out.toS]
theorem pz1 {y : D} : putZ "counts" y [] = [(("counts" : Str), y)] := by kernel_rfl
theorem pz2 {x y : D} : putZ "cells" y [(("counts" : Str), x)] = [(("counts" : Str), x), (("cells" : Str), y)] := by kernel_rfl
theorem pz3 {x y z : D} : putZ "stopped" z [(("counts" : Str), x), (("cells" : Str), y)] = [(("counts" : Str), x), (("cells" : Str), y), (("stopped" : Str), z)] := by kernel_rfl
theorem mul_z {S : Sto} {n : Nat} (h : n ≤ 1000) : mulP S (.lst [.int 0]) (.int n) = some (.lst ((List.replicate n (0 : Int)).map D.int)) := by
  have e : asL S (.lst [.int 0]) = some [.int 0] := rfl
  unfold mulP
  simp only [e]
  rw [if_pos ⟨by omega, by omega, by simp only [List.length_cons, List.length_nil, Int.toNat_natCast]; omega⟩, Int.toNat_natCast, rep0]
theorem mul_e {G : Ev} {C : Nat → List D → Sto → Out D} {sd : Sl} {S : Sto} {i : Nat} {xs : List Int} (h : sd[i]? = some (some (.tup (xs.map D.int)))) (hp : xs.length ≤ 1000) : dE G C (.op .Mult (.lst false (.cons (.c (.int 0)) .nil)) (.bf .len (.cons (.v i) .nil))) sd S = .ok (.lst ((List.replicate xs.length (0 : Int)).map D.int)) S := by
  have e1 : dE G C (.lst false (.cons (.c (.int 0)) .nil)) sd S = .ok (.lst [.int 0]) S := by simp
  have e2 : dE G C (.bf .len (.cons (.v i) .nil)) sd S = .ok (.int xs.length) S := by simp [h]
  rw [q_eop, q_mBin, e1]
  simp only [e2]
  rw [q_opMult, mul_z hp, q_liftS]
section
variable {T : List Fn} {G : Ev} {wf : Nat} {x : Ix}
/-- the store with a new stand -/
def newS (S : Sto) (cl : Nat) (r : Rn) : Sto := S ++ [.ins cl (stF (S.length + 1) (S.length + 2) r.stp)] ++ [.lst (r.cnt.map D.int)] ++ [.lst (r.cel.map D.int)]
theorem init_ok (A : StdA T G x) {m : Nat} {S : Sto} {p n : Nat} (hp : p ≤ 1000) :
    Z.run T G wf (m + 1) x.Stand_init [.loc S.length, .int p, .lst ((List.replicate n (0 : Int)).map D.int)] (S ++ [.ins x.c0 []]) = .ok .non (newS S x.c0 ⟨List.replicate p 0, List.replicate n 0, false⟩) := by
  refine (run_succ A.init rfl).trans ?_
  let cn : MO := .lst ((List.replicate p (0 : Int)).map D.int)
  let ce : MO := .lst ((List.replicate n (0 : Int)).map D.int)
  let sd : Sl := [some (.loc S.length), some (.int p), some (.lst ((List.replicate n (0 : Int)).map D.int))]
  have o1 := opm_v (G := G) (C := Z.run T G wf m) (sd := sd) (S := S ++ [.ins x.c0 []]) (i := 1) (p := p) rfl hp
  have l1 : (S ++ [MO.ins x.c0 []]).length = S.length + 1 := by simp
  rw [l1] at o1
  have v0 : ∀ S', mVar 0 sd S' = .ok (.loc S.length) S' := fun S' => by simp [sd]
  have g1 : (S ++ [MO.ins x.c0 []] ++ [cn])[S.length]? = some (.ins x.c0 []) := by simp
  have s0 := setf_ok (G := G) (f := "counts") o1 (v0 _) g1 A.fc (by simp)
  rw [pz1] at s0
  have e1 : (S ++ [MO.ins x.c0 []] ++ [cn]).set S.length (.ins x.c0 [("counts", .loc (S.length + 1))]) = S ++ [MO.ins x.c0 [("counts", .loc (S.length + 1))]] ++ [cn] := by simp
  have o2 : dE G (Z.run T G wf m) (.lstC (.v 2)) sd (S ++ [MO.ins x.c0 [("counts", .loc (S.length + 1))]] ++ [cn]) = .ok (.loc (S.length + 2)) (S ++ [MO.ins x.c0 [("counts", .loc (S.length + 1))]] ++ [cn] ++ [ce]) := by
    have aq : ∀ S' : Sto, asQ S' (.lst ((List.replicate n (0 : Int)).map D.int)) = some ((List.replicate n (0 : Int)).map D.int) := fun _ => rfl
    have v2 : ∀ S', mVar 2 sd S' = .ok (.lst ((List.replicate n (0 : Int)).map D.int)) S' := fun S' => rfl
    rw [q_elstC, q_mLstC, q_ev, v2]
    simp only [aq]
    simp [ce]
  have g2 : (S ++ [MO.ins x.c0 [("counts", .loc (S.length + 1))]] ++ [cn] ++ [ce])[S.length]? = some (.ins x.c0 [("counts", .loc (S.length + 1))]) := by simp
  have s1 := setf_ok (G := G) (f := "cells") o2 (v0 _) g2 A.fe (by simp)
  rw [pz2] at s1
  have e2 : (S ++ [MO.ins x.c0 [("counts", .loc (S.length + 1))]] ++ [cn] ++ [ce]).set S.length (.ins x.c0 [("counts", .loc (S.length + 1)), ("cells", .loc (S.length + 2))]) = S ++ [MO.ins x.c0 [("counts", .loc (S.length + 1)), ("cells", .loc (S.length + 2))]] ++ [cn] ++ [ce] := by simp
  have g3 : (S ++ [MO.ins x.c0 [("counts", .loc (S.length + 1)), ("cells", .loc (S.length + 2))]] ++ [cn] ++ [ce])[S.length]? = some (.ins x.c0 [("counts", .loc (S.length + 1)), ("cells", .loc (S.length + 2))]) := by simp
  have s2 := setf_ok (G := G) (f := "stopped") (mb := mC (.bl false)) (sd := sd) (y := .bl false) q_mC (v0 _) g3 A.fs (by simp)
  rw [pz3] at s2
  have e3 : (S ++ [MO.ins x.c0 [("counts", .loc (S.length + 1)), ("cells", .loc (S.length + 2))]] ++ [cn] ++ [ce]).set S.length (.ins x.c0 [("counts", .loc (S.length + 1)), ("cells", .loc (S.length + 2)), ("stopped", .bl false)]) = newS S x.c0 ⟨List.replicate p 0, List.replicate n 0, false⟩ := by simp [newS, stF, cn, ce]
  rw [e1] at s0
  rw [e2] at s1
  rw [e3] at s2
  have t0 : dS G (Z.run T G wf m) wf (.setf (.v 0) "counts" (.opM .Mult (.lst false (.cons (.c (.int 0)) .nil)) (.v 1))) sd (S ++ [.ins x.c0 []]) = .ok .nx sd (S ++ [MO.ins x.c0 [("counts", .loc (S.length + 1))]] ++ [cn]) := by
    rw [q_ssetf, q_ev]; exact s0
  have t1 : dS G (Z.run T G wf m) wf (.setf (.v 0) "cells" (.lstC (.v 2))) sd (S ++ [MO.ins x.c0 [("counts", .loc (S.length + 1))]] ++ [cn]) = .ok .nx sd (S ++ [MO.ins x.c0 [("counts", .loc (S.length + 1)), ("cells", .loc (S.length + 2))]] ++ [cn] ++ [ce]) := by
    rw [q_ssetf, q_ev]; exact s1
  have t2 : dS G (Z.run T G wf m) wf (.setf (.v 0) "stopped" (.c (.bl false))) sd (S ++ [MO.ins x.c0 [("counts", .loc (S.length + 1)), ("cells", .loc (S.length + 2))]] ++ [cn] ++ [ce]) = .ok .nx sd (newS S x.c0 ⟨List.replicate p 0, List.replicate n 0, false⟩) := by
    rw [q_ssetf, q_ev, q_ec]; exact s2
  have hsd : slots0 3 [.loc S.length, .int p, .lst ((List.replicate n (0 : Int)).map D.int)] = sd := rfl
  have hb : (⟨3, 3, B_Stand_init x⟩ : Fn).body = .cons (.setf (.v 0) "counts" (.opM .Mult (.lst false (.cons (.c (.int 0)) .nil)) (.v 1))) (.cons (.setf (.v 0) "cells" (.lstC (.v 2))) (.cons (.setf (.v 0) "stopped" (.c (.bl false))) .nil)) := rfl
  have hn : (⟨3, 3, B_Stand_init x⟩ : Fn).ns = 3 := rfl
  rw [hn, hsd, hb, q_scons, then_nx t0, q_scons, then_nx t1, q_scons, then_nx t2, q_snil, q_mSkip]
  rfl
theorem new_at {S : Sto} {cl : Nat} {r : Rn} : AtI (newS S cl r) cl S.length (S.length + 1) (S.length + 2) r :=
  ⟨⟨by omega, by simp [newS], by simp [newS]⟩, by omega, by omega, by simp [newS]⟩
theorem new_pre {S : Sto} {cl : Nat} {r : Rn} : Pre S (newS S cl r) := (Pre.push.trans Pre.push).trans Pre.push
theorem Pre.putS {S S' : Sto} (h : Pre S S') {cl s a c : Nat} {r : Rn} (hs : S.length ≤ s) (ha : S.length ≤ a) (hc : S.length ≤ c) : Pre S (putS S' cl s a c r) := (h.put ha hc).set hs
def rnB (x : Ix) : Ss := forBody ((B_run x).at 2)
/-- the letters' loop: it goes on, and does nothing, once it was stopped -/
theorem rn_stop (A : StdA T G x) {m : Nat} {P : Prog} {s a c : Nat} {v0 v1 v2 v4 v7 : D} : ∀ (ps : List (Nat × Nat)), (∀ q ∈ ps, q.1 < 10 ∧ q.2 < 10) → ∀ (S : Sto) (r : Rn) (x8 x9 : Option D), AtI S x.c0 s a c r → r.stp = true →
    ∃ x8' x9', forL (gTp 2 (gsCons (gNm 8) (gsCons (gNm 9) gsNil))) (dSs G (Z.run T G wf (m + 1)) wf (rnB x)) (ps.map fun q => D.tup [.str (dgS q.1), .str (dgS q.2)]) [some v0, some v1, some v2, some (.loc s), some v4, some (.tup (P.sz.map D.int)), some (.tup P.body.ds), some v7, x8, x9] S =
      .ok .nx [some v0, some v1, some v2, some (.loc s), some v4, some (.tup (P.sz.map D.int)), some (.tup P.body.ds), some v7, x8', x9'] S
  | [], _, S, r, x8, x9, _, _ => ⟨x8, x9, rfl⟩
  | (k, e) :: ps, hw, S, r, x8, x9, hi, h1 => by
    have hlt := hw (k, e) (.head _)
    have i1 : ∀ S, intD S (.str (dgS k)) = some (.int k) := fun S => dg_int hlt.1
    have i2 : ∀ S, intD S (.str (dgS e)) = some (.int e) := fun S => dg_int hlt.2
    have go := sg_stop (wf := wf) (m := m) (b := P.body) (sz := .tup (P.sz.map D.int)) (kn := .int k) (se := .int e) A hi h1
    have hin := hi.ins
    rw [List.map_cons, forL]
    have g : gTp 2 (gsCons (gNm 8) (gsCons (gNm 9) gsNil)) (.tup [.str (dgS k), .str (dgS e)]) [some v0, some v1, some v2, some (.loc s), some v4, some (.tup (P.sz.map D.int)), some (.tup P.body.ds), some v7, x8, x9] S = some ([some v0, some v1, some v2, some (.loc s), some v4, some (.tup (P.sz.map D.int)), some (.tup P.body.ds), some v7, some (.str (dgS k)), some (.str (dgS e))], S) := rfl
    have bo : dSs G (Z.run T G wf (m + 1)) wf (rnB x) [some v0, some v1, some v2, some (.loc s), some v4, some (.tup (P.sz.map D.int)), some (.tup P.body.ds), some v7, some (.str (dgS k)), some (.str (dgS e))] S = .ok .nx [some v0, some v1, some v2, some (.loc s), some v4, some (.tup (P.sz.map D.int)), some (.tup P.body.ds), some v7, some (.str (dgS k)), some (.str (dgS e))] S := by
      simp [rnB, forBody, B_run, Ss.at, hin, A.mg, i1, i2, go]
    obtain ⟨y8, y9, h⟩ := rn_stop (P := P) (v0 := v0) (v1 := v1) (v2 := v2) (v4 := v4) (v7 := v7) (m := m) A ps (fun q hq => hw q (.tail _ hq)) S r (some (.str (dgS k))) (some (.str (dgS e))) hi h1
    exact ⟨y8, y9, by simp only [g, bo]; exact h⟩
theorem rn_for (V : ValA T G x) (A : StdA T G x) {m : Nat} {P : Prog} (F : Fit (m + 1) P) {s a c : Nat} {v0 v1 v2 v4 v7 : D} : ∀ (ps : List (Nat × Nat)), (∀ q ∈ ps, q.1 < 10 ∧ q.2 < 10) → ∀ (S : Sto) (r : Rn) (x8 x9 : Option D), RnOk P.p P.sz r → AtI S x.c0 s a c r → r.stp = false →
    ∃ x8' x9' r', RnOk P.p P.sz r' ∧ (P.runW ps r = if r'.stp then r' else P.tail.go P.sz 0 0 r') ∧
      forL (gTp 2 (gsCons (gNm 8) (gsCons (gNm 9) gsNil))) (dSs G (Z.run T G wf (m + 1)) wf (rnB x)) (ps.map fun q => D.tup [.str (dgS q.1), .str (dgS q.2)]) [some v0, some v1, some v2, some (.loc s), some v4, some (.tup (P.sz.map D.int)), some (.tup P.body.ds), some v7, x8, x9] S =
      .ok .nx [some v0, some v1, some v2, some (.loc s), some v4, some (.tup (P.sz.map D.int)), some (.tup P.body.ds), some v7, x8', x9'] (putS S x.c0 s a c r')
  | [], _, S, r, x8, x9, hr, hi, h0 => ⟨x8, x9, r, hr, by simp [Prog.runW, h0], by simp [forL, hi.same]⟩
  | (k, e) :: ps, hw, S, r, x8, x9, hr, hi, h0 => by
    have hlt := hw (k, e) (.head _)
    have i1 : ∀ S, intD S (.str (dgS k)) = some (.int k) := fun S => dg_int hlt.1
    have i2 : ∀ S, intD S (.str (dgS e)) = some (.int e) := fun S => dg_int hlt.2
    have go := (std_ok (wf := wf) V A (m + 1)).1 P.body S s a c r P.p P.sz k e F.bm F.bf F.sz hr hi h0 (by omega) (by omega) (by rw [sz_len]; exact F.bok)
    have hin := hi.ins
    have hi1 := hi.put (P.body.go P.sz k e r)
    have hr1 := Blk.go_ok (p := P.p) F.sz (kn := k) (se := e) P.body r hr
    have rw1 : P.runW ((k, e) :: ps) r = if (P.body.go P.sz k e r).stp then P.body.go P.sz k e r else P.runW ps (P.body.go P.sz k e r) := rfl
    generalize P.body.go P.sz k e r = r1 at *
    rw [List.map_cons, forL]
    have g : gTp 2 (gsCons (gNm 8) (gsCons (gNm 9) gsNil)) (.tup [.str (dgS k), .str (dgS e)]) [some v0, some v1, some v2, some (.loc s), some v4, some (.tup (P.sz.map D.int)), some (.tup P.body.ds), some v7, x8, x9] S = some ([some v0, some v1, some v2, some (.loc s), some v4, some (.tup (P.sz.map D.int)), some (.tup P.body.ds), some v7, some (.str (dgS k)), some (.str (dgS e))], S) := rfl
    have bo : dSs G (Z.run T G wf (m + 1)) wf (rnB x) [some v0, some v1, some v2, some (.loc s), some v4, some (.tup (P.sz.map D.int)), some (.tup P.body.ds), some v7, some (.str (dgS k)), some (.str (dgS e))] S = .ok .nx [some v0, some v1, some v2, some (.loc s), some v4, some (.tup (P.sz.map D.int)), some (.tup P.body.ds), some v7, some (.str (dgS k)), some (.str (dgS e))] (putS S x.c0 s a c r1) := by
      simp [rnB, forBody, B_run, Ss.at, hin, A.mg, i1, i2, go]
    simp only [g, bo]
    by_cases q : r1.stp = true
    · obtain ⟨y8, y9, h⟩ := rn_stop (wf := wf) (P := P) (v0 := v0) (v1 := v1) (v2 := v2) (v4 := v4) (v7 := v7) (m := m) A ps (fun q hq => hw q (.tail _ hq)) (putS S x.c0 s a c r1) r1 (some (.str (dgS k))) (some (.str (dgS e))) hi1 q
      exact ⟨y8, y9, r1, hr1, by rw [rw1]; simp [q], h⟩
    · have q' : r1.stp = false := by simpa using q
      obtain ⟨y8, y9, r', h1, h2, h3⟩ := rn_for (v0 := v0) (v1 := v1) (v2 := v2) (v4 := v4) (v7 := v7) V A F ps (fun q hq => hw q (.tail _ hq)) (putS S x.c0 s a c r1) r1 (some (.str (dgS k))) (some (.str (dgS e))) hr1 hi1 q'
      rw [putS_putS hi] at h3
      exact ⟨y8, y9, r', h1, by rw [rw1]; simp [q', h2], h3⟩
theorem dl2 {C : Nat → List D → Sto → Out D} {e e2 : E} {sd : Sl} {S S1 S2 : Sto} {a b : D} (h1 : dE G C e sd S = .ok a S1) (h2 : dE G C e2 sd S1 = .ok b S2) : dL G C (.cons e (.cons e2 .nil)) sd S = .ok [a, b] S2 := by
  rw [q_lcons, q_mCons, h1]
  simp only []
  rw [q_lcons, q_mCons, h2]
  rfl
theorem mk_ok {C : Nat → List D → Sto → Out D} {la : M (List D)} {c i : Nat} {sd : Sl} {S S1 S2 : Sto} {xs : List D} (h1 : la sd S = .ok xs S1) (h2 : G.mth c "__init__" = some i) (h3 : C i (.loc S1.length :: xs) (S1 ++ [.ins c []]) = .ok .non S2) : mMk G C c la sd S = .ok (.loc S1.length) S2 := by
  rw [q_mMk, h1]
  simp only [h2, h3]
theorem asg_ok {m : M D} {i : Nat} {sd : Sl} {S S1 : Sto} {d : D} (h : m sd S = .ok d S1) : mAsg m (gNm i) sd S = .ok .nx (sd.set i (some d)) S1 := by
  rw [q_mAsg, h]
  rfl
theorem mk_st (A : StdA T G x) {m : Nat} {P : Prog} {S : Sto} {a b c : D} (hp : P.p ≤ 1000) (hcl : P.cells.length ≤ 1000) :
    dS G (Z.run T G wf (m + 1)) wf ((B_run x).at 1) [some a, some b, some c, none, some (.int P.p), some (.tup (P.sz.map D.int)), some (.tup P.body.ds), some (.tup P.tail.ds), none, none] S = .ok .nx [some a, some b, some c, some (.loc S.length), some (.int P.p), some (.tup (P.sz.map D.int)), some (.tup P.body.ds), some (.tup P.tail.ds), none, none] (newS S x.c0 P.r0) := by
  have ini := init_ok (wf := wf) (m := m) (S := S) (n := P.cells.length) A hp
  have er : (⟨List.replicate P.p 0, List.replicate P.cells.length 0, false⟩ : Rn) = P.r0 := rfl
  rw [er] at ini
  have e3 := mul_e (G := G) (C := Z.run T G wf (m + 1)) (sd := [some a, some b, some c, none, some (.int P.p), some (.tup (P.sz.map D.int)), some (.tup P.body.ds), some (.tup P.tail.ds), none, none]) (S := S) (i := 5) (xs := P.sz) rfl (by rw [sz_len]; exact hcl)
  rw [sz_len] at e3
  have e4 : dE G (Z.run T G wf (m + 1)) (.v 4) [some a, some b, some c, none, some (.int P.p), some (.tup (P.sz.map D.int)), some (.tup P.body.ds), some (.tup P.tail.ds), none, none] S = .ok (.int P.p) S := by simp
  show dS G (Z.run T G wf (m + 1)) wf (.asg (.nm 3) (.mk x.c0 (.cons (.v 4) (.cons (.op .Mult (.lst false (.cons (.c (.int 0)) .nil)) (.bf .len (.cons (.v 5) .nil))) .nil)))) [some a, some b, some c, none, some (.int P.p), some (.tup (P.sz.map D.int)), some (.tup P.body.ds), some (.tup P.tail.ds), none, none] S = _
  have la := dl2 e4 e3
  have mk := mk_ok la A.mi ini
  rw [q_sasg, q_emk, q_gnm, asg_ok mk]
  rfl
theorem rn_ok (V : ValA T G x) (A : StdA T G x) (hT : T[x.run]? = some ⟨3, 10, B_run x⟩) {m : Nat} {P : Prog} (F : Fit (m + 1) P) {ps : List (Nat × Nat)} (hw : Wd ps) (S : Sto) :
    ∃ S', Z.run T G wf (m + 2) x.run [P.d, .str (Wd.k ps), .str (Wd.s ps)] S = .ok (Rn.d (P.run ps)) S' ∧ Pre S S' := by
  have hp := F.p
  have hcl := F.cl
  let sd0 : Sl := slots0 10 [P.d, .str (Wd.k ps), .str (Wd.s ps)]
  let sd1 : Sl := [some P.d, some (.str (Wd.k ps)), some (.str (Wd.s ps)), none, some (.int P.p), some (.tup (P.sz.map D.int)), some (.tup P.body.ds), some (.tup P.tail.ds), none, none]
  have s0 : dS G (Z.run T G wf (m + 1)) wf ((B_run x).at 0) sd0 S = .ok .nx sd1 S := by
    have sl := prog_sl (S := S) P
    simp [B_run, Ss.at, sd0, sd1, slots0, sl, gTp, gsCons]
  let S1 : Sto := newS S x.c0 P.r0
  let sd2 : Sl := [some P.d, some (.str (Wd.k ps)), some (.str (Wd.s ps)), some (.loc S.length), some (.int P.p), some (.tup (P.sz.map D.int)), some (.tup P.body.ds), some (.tup P.tail.ds), none, none]
  have s1 : dS G (Z.run T G wf (m + 1)) wf ((B_run x).at 1) sd1 S = .ok .nx sd2 S1 := mk_st (wf := wf) (m := m) (S := S) A hp hcl
  have at1 : AtI S1 x.c0 S.length (S.length + 1) (S.length + 2) P.r0 := new_at
  obtain ⟨x8, x9, r', hr', hrun, e⟩ := rn_for (wf := wf) (v0 := P.d) (v1 := .str (Wd.k ps)) (v2 := .str (Wd.s ps)) (v4 := .int P.p) (v7 := .tup P.tail.ds) V A F ps hw.lt S1 P.r0 none none (r0_ok P) at1 rfl
  let sd3 : Sl := [some P.d, some (.str (Wd.k ps)), some (.str (Wd.s ps)), some (.loc S.length), some (.int P.p), some (.tup (P.sz.map D.int)), some (.tup P.body.ds), some (.tup P.tail.ds), x8, x9]
  let S2 : Sto := putS S1 x.c0 S.length (S.length + 1) (S.length + 2) r'
  have s2 : dS G (Z.run T G wf (m + 1)) wf ((B_run x).at 2) sd2 S1 = .ok .nx sd3 S2 := by
    rw [← e]
    show dS G (Z.run T G wf (m + 1)) wf (.for_ (.tup (.cons (.nm 8) (.cons (.nm 9) .nil))) (.zip (.cons (.v 1) (.cons (.v 2) .nil))) (rnB x)) sd2 S1 = _
    have it : dI G (Z.run T G wf (m + 1)) (.zip (.cons (.v 1) (.cons (.v 2) .nil))) sd2 S1 = .ok (.vals (ps.map fun q => D.tup [.str (dgS q.1), .str (dgS q.2)])) S1 := by
      have e1 : srcOf S1 (.str (Wd.k ps)) = some (.vals (ps.map fun q => D.str (dgS q.1))) := by
        show some (Src.vals (signsD (Wd.k ps))) = _
        rw [Wd.k, wS_signs]; simp
      have e2 : srcOf S1 (.str (Wd.s ps)) = some (.vals (ps.map fun q => D.str (dgS q.2))) := by
        show some (Src.vals (signsD (Wd.s ps))) = _
        rw [Wd.s, wS_signs]; simp
      simp [sd2, e1, e2, zipS, List.zipWith_map, List.zipWith_self]
    rw [q_sfor, q_mFor, it]
    simp only []
    exact for_list (sta_vals _)
  have at2 : AtI S2 x.c0 S.length (S.length + 1) (S.length + 2) r' := at1.put r'
  have hpr : P.run ps = P.runW ps P.r0 := rfl
  have fin : ∃ S3, dS G (Z.run T G wf (m + 1)) wf ((B_run x).at 3) sd3 S2 = .ok .nx sd3 S3 ∧ AtI S3 x.c0 S.length (S.length + 1) (S.length + 2) (P.run ps) ∧ Pre S S3 := by
    have pre2 : Pre S S2 := new_pre.putS (by omega) (by omega) (by omega)
    have hin := at2.ins
    by_cases q : r'.stp = true
    · rw [if_pos q] at hrun
      refine ⟨S2, ?_, by rw [hpr, hrun]; exact at2, pre2⟩
      have go := sg_stop (wf := wf) (m := m) (b := P.tail) (sz := .tup (P.sz.map D.int)) (kn := .int 0) (se := .int 0) A at2 q
      simp [B_run, Ss.at, sd3, hin, A.mg, go]
    · rw [if_neg q] at hrun
      have q' : r'.stp = false := by simpa using q
      have go := (std_ok (wf := wf) V A (m + 1)).1 P.tail S2 S.length (S.length + 1) (S.length + 2) r' P.p P.sz 0 0 F.tm F.tf F.sz hr' at2 q' (by omega) (by omega) (by rw [sz_len]; exact F.tok)
      refine ⟨putS S2 x.c0 S.length (S.length + 1) (S.length + 2) (P.tail.go P.sz 0 0 r'), ?_, by rw [hpr, hrun]; exact at2.put _, pre2.putS (by omega) (by omega) (by omega)⟩
      simp [B_run, Ss.at, sd3, hin, A.mg, go]
  obtain ⟨S3, s3, at3, pre3⟩ := fin
  refine ⟨S3, (run_succ hT rfl).trans ?_, pre3⟩
  show fnEnd (dSs G (Z.run T G wf (m + 1)) wf (B_run x) sd0 S) = _
  rw [stp0 rfl s0, stp rfl s1, stp rfl s2, stp rfl s3]
  have tc := tup_loc at3.at_.cnt
  have te := tup_loc at3.at_.cel
  have hin := at3.ins
  generalize P.run ps = r2 at *
  simp [B_run, Ss.fr, sd3, hin, A.fc, A.fe, A.fs, tc, te, Rn.d, fnEnd]
end
end Z

/-! Times. -/
namespace Z
open PySem PySem.Spec PyProof.Rows L2
theorem ints_map : ∀ l : List Int, intsOf (l.map D.int) = some l
  | [] => rfl
  | i :: l => by simp [intsOf, ints_map l]
theorem sum_map {S : Sto} (l : List Int) : sumD S (.lst (l.map D.int)) = some (.int l.sum) := by
  have e : asLF S (.lst (l.map D.int)) = some (l.map D.int) := rfl
  simp [sumD, e, ints_map]
theorem mulP_sm {S : Sto} {a b : Int} (h : 0 ≤ b ∧ b < 10000000) : mulP S (.int a) (.int b) = some (.int (a * b)) := by
  have : mulI a b = some (a * b) := by
    unfold mulI
    rw [if_pos (.inr ⟨by omega, by omega⟩)]
  simp [mulP, this]
/-- the comprehension over two rows of numbers, its variables in slots i and i + 1 -/
theorem prod_lc {G : Ev} {C : Nat → List D → Sto → Out D} {i : Nat} {sw : Sl} {S : Sto} (hi : i + 1 < sw.length) : ∀ {xs ys : List Int}, (∀ y ∈ ys, 0 ≤ y ∧ y < 10000000) →
    lcL (gTp 2 (gsCons (gNm i) (gsCons (gNm (i + 1)) gsNil))) mYes (dE G C (.op .Mult (.v i) (.v (i + 1)))) sw (List.zipWith (fun x y => D.tup [x, y]) (xs.map D.int) (ys.map D.int)) S = .ok ((List.zipWith (· * ·) xs ys).map D.int) S
  | [], ys, _ => by cases ys <;> rfl
  | x :: xs, [], _ => rfl
  | x :: xs, y :: ys, hy => by
    have ih := prod_lc (G := G) (C := C) (sw := sw) (S := S) hi (xs := xs) (ys := ys) (fun y h => hy y (.tail _ h))
    have m := mulP_sm (S := S) (a := x) (hy y (.head _))
    simp only [List.map_cons, List.zipWith_cons_cons]
    rw [lcL]
    have g : gTp 2 (gsCons (gNm i) (gsCons (gNm (i + 1)) gsNil)) (.tup [.int x, .int y]) sw S = some ((sw.set i (some (.int x))).set (i + 1) (some (.int y)), S) := rfl
    have v1 : ((sw.set i (some (D.int x))).set (i + 1) (some (.int y)))[i]? = some (some (.int x)) := by
      rw [List.getElem?_set_ne (by omega)]; simp [show i < sw.length by omega]
    have v2 : ((sw.set i (some (D.int x))).set (i + 1) (some (.int y)))[i + 1]? = some (some (.int y)) := by simp [hi]
    have e : dE G C (.op .Mult (.v i) (.v (i + 1))) ((sw.set i (some (.int x))).set (i + 1) (some (.int y))) S = .ok (.int (x * y)) S := by
      rw [q_eop, q_mBin, q_ev, q_mVar v1]
      simp only []
      rw [q_ev, q_mVar v2]
      simp only []
      rw [q_opMult, m, q_liftS]
    simp only [g, q_mYes, e, ih]
def Rn.time (r : Rn) (bk : List Int) : Int := (List.zipWith (· * ·) r.cnt bk).sum
section
variable {T : List Fn} {G : Ev} {wf : Nat} {x : Ix}
theorem pr_ok (hT : T[x.product]? = some ⟨2, 4, B_product x⟩) {m : Nat} {S : Sto} {xs ys : List Int} (hy : ∀ y ∈ ys, 0 ≤ y ∧ y < 10000000) (hl : xs.length ≤ 1000000) :
    Z.run T G wf (m + 1) x.product [.tup (xs.map D.int), .tup (ys.map D.int)] S = .ok (.int (List.zipWith (· * ·) xs ys).sum) S := by
  refine (run_succ hT rfl).trans ?_
  have lc := prod_lc (G := G) (C := Z.run T G wf m) (i := 2) (sw := [some (.tup (xs.map D.int)), some (.tup (ys.map D.int)), none, none]) (S := S) (by simp) (xs := xs) hy
  have go := lc_list (sta_vals _) (by simp; omega) lc
  have zs : zipS (.vals (xs.map D.int)) (.vals (ys.map D.int)) = .vals (List.zipWith (fun x y => D.tup [x, y]) (xs.map D.int) (ys.map D.int)) := rfl
  have s1 : srcOf S (.tup (xs.map D.int)) = some (.vals (xs.map D.int)) := rfl
  have s2 : srcOf S (.tup (ys.map D.int)) = some (.vals (ys.map D.int)) := rfl
  have L : dE G (Z.run T G wf m) (.lc false (.tup (.cons (.nm 2) (.cons (.nm 3) .nil))) (.zip (.cons (.v 0) (.cons (.v 1) .nil))) .none (.op .Mult (.v 2) (.v 3)) [("one", 2), ("other", 3)]) [some (.tup (xs.map D.int)), some (.tup (ys.map D.int)), none, none] S = .ok (.lst ((List.zipWith (· * ·) xs ys).map D.int)) S := by
    have it : dI G (Z.run T G wf m) (.zip (.cons (.v 0) (.cons (.v 1) .nil))) [some (.tup (xs.map D.int)), some (.tup (ys.map D.int)), none, none] S = .ok (.vals (List.zipWith (fun x y => D.tup [x, y]) (xs.map D.int) (ys.map D.int))) S := by
      simp [s1, s2, zipS]
    rw [q_elcF, q_mLc, q_mLcL, it]
    simp only []
    rw [show wipeD [some (.tup (xs.map D.int)), some (.tup (ys.map D.int)), none, none] (List.map (fun q => q.2) [(("one" : Str), 2), ("other", 3)]) = [some (.tup (xs.map D.int)), some (.tup (ys.map D.int)), none, none] from rfl]
    rw [q_gtup]
    exact (congrArg (fun o => match o with | Out.ok acc S2 => Out.ok (D.lst acc) S2 | .exc c fs S0 => .exc c fs S0 | .bad => .bad) go)
  show fnEnd (dSs G (Z.run T G wf m) wf (B_product x) [some (.tup (xs.map D.int)), some (.tup (ys.map D.int)), none, none] S) = _
  unfold B_product
  rw [one_st, q_sret, q_mRet, q_ebf, q_mCall, q_lcons, q_mCons, L]
  simp [-List.map_zipWith, sum_map, fnEnd]
theorem tm_ok (V : ValA T G x) (A : StdA T G x) (hr : T[x.run]? = some ⟨3, 10, B_run x⟩) (hp : T[x.product]? = some ⟨2, 4, B_product x⟩) (hT : T[x.time]? = some ⟨4, 4, B_time x⟩) {m : Nat} {P : Prog} (F : Fit (m + 1) P) {ps : List (Nat × Nat)} (hw : Wd ps) {bk : List Int} (hb : ∀ y ∈ bk, 0 ≤ y ∧ y < 10000000) (hl : (P.run ps).cnt.length ≤ 1000000) (S : Sto) :
    ∃ S', Z.run T G wf (m + 3) x.time [P.d, .tup (bk.map D.int), .str (Wd.k ps), .str (Wd.s ps)] S = .ok (.int ((P.run ps).time bk)) S' ∧ Pre S S' := by
  obtain ⟨S', e, h⟩ := rn_ok (wf := wf) V A hr F hw S
  refine ⟨S', (run_succ hT rfl).trans ?_, h⟩
  have p := pr_ok (G := G) (wf := wf) (m := m + 1) (S := S') hp (xs := (P.run ps).cnt) hb hl
  simp only [Rn.d] at e
  generalize P.run ps = r at *
  have i0 := ix3_0 (S := S') (a := .tup (r.cnt.map D.int)) (b := .tup (r.cel.map D.int)) (c := .bl r.stp)
  simp [B_time, slots0, e, i0, p, fnEnd, Rn.time]
theorem lt_ok (L : GoL T x) (hr : T[x.law_run]? = some ⟨3, 11, B_law_run x⟩) (hT : T[x.law_time]? = some ⟨4, 6, B_law_time x⟩) {m : Nat} {P : Prog} (F : Fit m P) {ps : List (Nat × Nat)} (hw : Wd ps) {bk : List Int} (hb : ∀ y ∈ bk, 0 ≤ y ∧ y < 10000000) (hl : (P.run ps).cnt.length ≤ 1000000) (S : Sto) :
    ∃ S', Z.run T G wf (m + 2) x.law_time [P.d, .tup (bk.map D.int), .str (Wd.k ps), .str (Wd.s ps)] S = .ok (.int ((P.run ps).time bk)) S' ∧ Pre S S' := by
  obtain ⟨S', e, h⟩ := lr_ok (G := G) (wf := wf) L hr F hw S
  refine ⟨S', (run_succ hT rfl).trans ?_, h⟩
  simp only [Rn.d] at e
  generalize P.run ps = r at *
  let sd : Sl := [some P.d, some (.tup (bk.map D.int)), some (.str (Wd.k ps)), some (.str (Wd.s ps)), none, none]
  have lc := prod_lc (G := G) (C := Z.run T G wf (m + 1)) (i := 4) (sw := sd) (S := S') (by simp [sd]) (xs := r.cnt) hb
  have go := lc_list (sta_vals _) (by simp; omega) lc
  have it : dI G (Z.run T G wf (m + 1)) (.zip (.cons (.ix (.call x.law_run (.cons (.v 0) (.cons (.v 2) (.cons (.v 3) .nil)))) (.c (.int 0))) (.cons (.v 1) .nil))) sd S = .ok (.vals (List.zipWith (fun x y => D.tup [x, y]) (r.cnt.map D.int) (bk.map D.int))) S' := by
    have i0 := ix3_0 (S := S') (a := .tup (r.cnt.map D.int)) (b := .tup (r.cel.map D.int)) (c := .bl r.stp)
    have s1 : srcOf S' (.tup (r.cnt.map D.int)) = some (.vals (r.cnt.map D.int)) := rfl
    have s2 : srcOf S' (.tup (bk.map D.int)) = some (.vals (bk.map D.int)) := rfl
    simp [sd, e, i0, s1, s2, zipS]
  have Lc : dE G (Z.run T G wf (m + 1)) (.lc false (.tup (.cons (.nm 4) (.cons (.nm 5) .nil))) (.zip (.cons (.ix (.call x.law_run (.cons (.v 0) (.cons (.v 2) (.cons (.v 3) .nil)))) (.c (.int 0))) (.cons (.v 1) .nil))) .none (.op .Mult (.v 4) (.v 5)) [("_law_count", 4), ("_law_cost", 5)]) sd S = .ok (.lst ((List.zipWith (· * ·) r.cnt bk).map D.int)) S' := by
    rw [q_elcF, q_mLc, q_mLcL, it]
    simp only []
    rw [show wipeD sd (List.map (fun q => q.2) [(("_law_count" : Str), 4), ("_law_cost", 5)]) = sd from rfl]
    rw [q_gtup]
    exact (congrArg (fun o => match o with | Out.ok acc S2 => Out.ok (D.lst acc) S2 | .exc c fs S0 => .exc c fs S0 | .bad => .bad) go)
  show fnEnd (dSs G (Z.run T G wf (m + 1)) wf (B_law_time x) sd S) = _
  unfold B_law_time
  rw [one_st, q_sret, q_mRet, q_ebf, q_mCall, q_lcons, q_mCons, Lc]
  simp [-List.map_zipWith, sum_map, fnEnd, Rn.time]
end
end Z

/-! Drawn words. -/
namespace Z
open PySem PySem.Spec PyProof.Rows L2
theorem wS_cons (n : Nat) (ws : List Nat) : wS (n :: ws) = dgS n ++ wS ws := by
  show (⟨_⟩ : Str) = ⟨(dgS n).cps ++ (wS ws).cps⟩
  simp [wS, dgS]
theorem app_nil (x : Str) : x ++ Str.ofString "" = x := by
  have : (Str.ofString "").cps = #[] := by decide +kernel
  show (⟨x.cps ++ (Str.ofString "").cps⟩ : Str) = x
  rw [this]; simp
theorem join_wS : ∀ ws : List Nat, Str.join (Str.ofString "") (ws.map dgS) = wS ws
  | [] => rfl
  | [n] => rfl
  | n :: m :: ws => by
    show dgS n ++ Str.ofString "" ++ Str.join (Str.ofString "") ((m :: ws).map dgS) = _
    rw [join_wS (m :: ws), app_nil, wS_cons n]
theorem strs_map : ∀ l : List Str, strsOf (l.map D.str) = some l
  | [] => rfl
  | i :: l => by simp [strsOf, strs_map l]
theorem joinD_w {S : Sto} {ws : List Nat} (h : ws.length ≤ 100000) : joinD S (.str "") (.lst (ws.map fun w => D.str (dgS w))) = some (.str (wS ws)) := by
  have e : asQ S (.lst (ws.map fun w => D.str (dgS w))) = some ((ws.map dgS).map D.str) := by
    show some _ = _
    simp
  have l0 : (Str.ofString "").length = 0 := by decide +kernel
  have ls : ((ws.map dgS).map (·.length)).sum = ws.length := by
    have : ∀ l : List Nat, ((l.map dgS).map (·.length)).sum = l.length := by
      intro l
      induction l with
      | nil => rfl
      | cons a l ih =>
        have : (dgS a).length = 1 := rfl
        simp only [List.map_cons, List.sum_cons, ih, this, List.length_cons]; omega
    exact this ws
  unfold joinD
  simp only [e, strs_map]
  rw [if_pos (by rw [ls, l0]; omega)]
  show some (D.str (Builtin.Str.glued (Str.ofString "") (ws.map dgS))) = _
  rw [StrLaws.glued_eq_join, join_wS]
theorem cut012 {S : Sto} {L : Nat} (h : 1 ≤ L ∧ L ≤ 3) : slP S (.str "012") none (some (L : Int)) = some (.str (wS (List.range L))) := by
  match L, h with
  | 1, _ => kernel_rfl
  | 2, _ => kernel_rfl
  | 3, _ => kernel_rfl
theorem sm_ok {m : Sm} {a b : M D} {sd : Sl} {S S1 : Sto} {s : Str} {y d : D} (h1 : a sd S = .ok (.str s) S) (h2 : b sd S = .ok y S1) (h3 : smF m S1 (.str s) y = some d) : mSm m a b sd S = .ok d S1 := by
  rw [q_mSm, h1]
  simp only [h2, h3, q_liftS]
theorem ret_ok {m : M D} {sd : Sl} {S S1 : Sto} {d : D} (h : m sd S = .ok d S1) : mRet m sd S = .ok (.rt d) sd S1 := by
  rw [q_mRet, h]
section
variable {T : List Fn} {G : Ev} {wf : Nat} {x : Ix}
theorem oneS (F : FamA T x) {k : Nat} {S : Sto} {n : Int} {is : List Nat} (h : Dk S 0 1 n) (hn : 0 ≤ n) (hn2 : n < 1000000) (hm : 0 < is.length) (hm2 : is.length < 1000000) :
    ∃ (w : Nat) (S' : Sto), Z.run T G wf (k + 2) x.law_one [.loc 1, .str (wS is)] S = .ok (.str (dgS w)) S' ∧ w ∈ is ∧ Dk S' 0 1 (n + 1) ∧ ∀ X, Kp S S' X := by
  obtain ⟨r, S', h1, h2, h3, h4⟩ := drw (G := G) (wf := wf) (k := k) F h hn hn2 hm hm2
  refine ⟨is[r], S', (run_succ F.one rfl).trans ?_, List.getElem_mem h2, h3, h4⟩
  have ln : lenD S (.str (wS is)) = some (.int is.length) := wS_lenD (by omega)
  have ix : ixP S' (.str (wS is)) (.int r) = some (.str (dgS is[r])) := wS_ix (List.getElem?_eq_getElem h2) (by omega)
  simp [oneB, slots0, fnEnd, ln, h1, ix]
theorem word_lc (F : FamA T x) {L k : Nat} (hL : 1 ≤ L ∧ L ≤ 3) {v1 : D} : ∀ (ds : List D) (S : Sto) (n : Int), Dk S 0 1 n → 0 ≤ n → n + ds.length < 1000000 →
    ∃ (ws : List Nat) (S' : Sto), lcL (gNm 3) mYes (dE G (Z.run T G wf (k + 2)) (.call x.law_one (.cons (.v 0) (.cons (.sl (.c (.str "012")) .none (.some (.v 1))) .nil)))) [some (.loc 1), some (.int L), some v1, none] ds S = .ok (ws.map fun w => D.str (dgS w)) S' ∧ ws.length = ds.length ∧ (∀ w ∈ ws, w < L) ∧ Dk S' 0 1 (n + ds.length) ∧ ∀ X, Kp S S' X
  | [], S, n, h, _, _ => ⟨[], S, rfl, rfl, by simp, by simpa using h, fun X => Kp.refl _ _⟩
  | d :: ds, S, n, h, hn, hl => by
    simp only [List.length_cons] at hl
    obtain ⟨w, S1, e1, m1, d1, k1⟩ := oneS (G := G) (wf := wf) (k := k) F (is := List.range L) h hn (by omega) (by simp; omega) (by simp; omega)
    obtain ⟨ws, S2, e2, l2, m2, d2, k2⟩ := word_lc (v1 := v1) F (k := k) hL ds S1 (n + 1) d1 (by omega) (by omega)
    refine ⟨w :: ws, S2, ?_, by simp [l2], fun v hv => ?_, ?_, fun X => (k1 X).trans (k2 X)⟩
    · rw [lcL]
      have g : gNm 3 d [some (.loc 1), some (.int L), some v1, none] S = some ([some (.loc 1), some (.int L), some v1, some d], S) := rfl
      have c := cut012 (S := S) hL
      have ee : dE G (Z.run T G wf (k + 2)) (.call x.law_one (.cons (.v 0) (.cons (.sl (.c (.str "012")) .none (.some (.v 1))) .nil))) [some (.loc 1), some (.int L), some v1, some d] S = .ok (.str (dgS w)) S1 := by
        simp [c, e1]
      simp only [g, q_mYes, ee, e2, List.map_cons]
    · rcases List.mem_cons.mp hv with rfl | hv
      · simpa using m1
      · exact m2 v hv
    · rw [List.length_cons, show n + ((ds.length + 1 : Nat) : Int) = n + 1 + ds.length by omega]; exact d2
theorem word_ok (F : FamA T x) (hT : T[x.law_word]? = some ⟨3, 4, B_law_word x⟩) {L k z : Nat} (hL : 1 ≤ L ∧ L ≤ 3) (hz : z ≤ 1000) {S : Sto} {n : Int} (h : Dk S 0 1 n) (hn : 0 ≤ n) (hn2 : n < 900000) :
    ∃ (ws : List Nat) (S' : Sto), Z.run T G wf (k + 3) x.law_word [.loc 1, .int L, .int z] S = .ok (.str (wS ws)) S' ∧ ws.length = z ∧ (∀ w ∈ ws, w < L) ∧ Dk S' 0 1 (n + z) ∧ ∀ X, Kp S S' X := by
  obtain ⟨ws, S', e, l, m, d, kk⟩ := word_lc (G := G) (wf := wf) (k := k) (v1 := .int z) F hL ((List.range' 0 z).map fun (i : Nat) => D.int i) S n h hn (by simp; omega)
  simp only [List.length_map, List.length_range'] at l d
  refine ⟨ws, S', (run_succ hT rfl).trans ?_, l, m, d, kk⟩
  have go := lc_list (sta_vals _) (by simp; omega) e
  have j := joinD_w (S := S') (ws := ws) (by omega)
  let sd : Sl := [some (.loc 1), some (.int L), some (.int z), none]
  have Lc : dE G (Z.run T G wf (k + 2)) (.lc false (.nm 3) (.rng1 (.cons (.v 2) .nil)) .none (.call x.law_one (.cons (.v 0) (.cons (.sl (.c (.str "012")) .none (.some (.v 1))) .nil))) [("_law_k", 3)]) sd S = .ok (.lst (ws.map fun w => D.str (dgS w))) S' := by
    have it : dI G (Z.run T G wf (k + 2)) (.rng1 (.cons (.v 2) .nil)) sd S = .ok (.vals ((List.range' 0 z).map fun (i : Nat) => D.int i)) S := by
      have := rng_l (q := z) (by omega)
      simp [sd, this]
    rw [q_elcF, q_mLc, q_mLcL, it]
    simp only []
    rw [show wipeD sd (List.map (fun q => q.2) [(("_law_k" : Str), 3)]) = sd from rfl, q_gnm, q_cN]
    exact (congrArg (fun o => match o with | Out.ok acc S2 => Out.ok (D.lst acc) S2 | .exc c fs S0 => .exc c fs S0 | .bad => .bad) go)
  have sm := sm_ok (m := .join) (a := mC (.str "")) (sd := sd) q_mC Lc j
  have st : dSs G (Z.run T G wf (k + 2)) wf (B_law_word x) sd S = .ok (.rt (.str (wS ws))) sd S' := by
    unfold B_law_word
    rw [one_st, q_sret, q_esm, q_ec]
    exact ret_ok sm
  have hsd : slots0 4 [.loc 1, .int L, .int z] = sd := rfl
  have hn : (⟨3, 4, B_law_word x⟩ : Fn).ns = 4 := rfl
  have hb : (⟨3, 4, B_law_word x⟩ : Fn).body = B_law_word x := rfl
  rw [hn, hb, hsd, st]
  rfl
end
end Z

/-! Deep sums. -/
namespace Z
open PySem PySem.Spec PyProof.Rows L2
def B_law_chain (x : Ix) : Ss := (.cons (.asg (.nm 3) (.call x.law_sum (.cons (.v 0) (.cons (.v 1) (.cons (.c (.int 1)) .nil))))) (.cons (.for_ (.nm 4) (.rng1 (.cons (.v 2) .nil)) (.cons (.asg (.nm 5) (.call x.law_one (.cons (.v 0) (.cons (.lst false (.cons (.call x.law_sum (.cons (.v 0) (.cons (.v 1) (.cons (.c (.int 1)) .nil)))) (.cons (.call x.law_draw (.cons (.v 0) (.cons (.c (.int 10)) .nil))) (.cons (.c (.int 9)) (.cons (.c (.str "secret")) .nil))))) .nil)))) (.cons (.asg (.nm 6) (.call x.law_one (.cons (.v 0) (.cons (.lst false (.cons (.c (.str "plus")) (.cons (.c (.str "times")) (.cons (.c (.str "plus")) (.cons (.c (.str "times")) (.cons (.c (.str "less")) (.cons (.c (.str "same")) .nil))))))) .nil)))) (.cons (.asg (.nm 3) (.ifx (.cmp .Eq (.call x.law_draw (.cons (.v 0) (.cons (.c (.int 2)) .nil))) (.c (.int 0))) (.tup (.cons (.v 6) (.cons (.v 3) (.cons (.v 5) .nil)))) (.tup (.cons (.v 6) (.cons (.v 5) (.cons (.v 3) .nil)))))) .nil)))) (.cons (.ret (.v 3)) .nil)))
def B_law_deeper (x : Ix) : Ss := (.cons (.asg (.tup (.cons (.nm 6) (.cons (.nm 7) (.cons (.nm 8) (.cons (.nm 9) (.cons (.nm 5) (.cons (.nm 10) .nil))))))) (.v 1)) (.cons (.par [11, 12] (.cons (.call x.law_chain (.cons (.v 0) (.cons (.bf .len (.cons (.v 9) .nil)) (.cons (.op .Add (.c (.int 1)) (.call x.law_draw (.cons (.v 0) (.cons (.c (.int 6)) .nil)))) .nil)))) (.cons (.call x.law_chain (.cons (.v 0) (.cons (.bf .len (.cons (.v 9) .nil)) (.cons (.c (.int 2)) .nil)))) .nil))) (.cons (.asg (.nm 2) (.call x.law_one (.cons (.v 0) (.cons (.lst false (.cons (.tup (.cons (.tup (.cons (.c (.str "stop")) .nil)) .nil)) (.cons (.tup (.cons (.tup (.cons (.c (.str "do")) (.cons (.c (.int 0)) .nil))) (.cons (.tup (.cons (.c (.str "stop")) .nil)) .nil))) (.cons (.tup (.cons (.tup (.cons (.c (.str "do")) (.cons (.op .Sub (.v 8) (.c (.int 1))) .nil))) .nil)) .nil)))) .nil)))) (.cons (.for_ (.nm 3) (.rng1 (.cons (.call x.law_draw (.cons (.v 0) (.cons (.c (.int 8)) .nil))) .nil)) (.cons (.asg (.nm 13) (.call x.law_one (.cons (.v 0) (.cons (.lst false (.cons (.c (.int 1)) (.cons (.c (.str "secret")) (.cons (.tup (.cons (.c (.str "same")) (.cons (.c (.str "known")) (.cons (.c (.str "secret")) .nil)))) (.cons (.tup (.cons (.c (.str "cell")) (.cons (.c (.int 0)) .nil))) .nil))))) .nil)))) (.cons (.asg (.nm 2) (.ifx (.cmp .Eq (.call x.law_draw (.cons (.v 0) (.cons (.c (.int 2)) .nil))) (.c (.int 0))) (.tup (.cons (.tup (.cons (.c (.str "if")) (.cons (.v 13) (.cons (.v 2) (.cons (.tup .nil) .nil))))) .nil)) (.tup (.cons (.tup (.cons (.c (.str "if")) (.cons (.v 13) (.cons (.tup .nil) (.cons (.v 2) .nil))))) .nil)))) .nil))) (.cons (.asg (.nm 4) (.tup (.cons (.tup (.cons (.c (.str "set")) (.cons (.op .Sub (.bf .len (.cons (.v 9) .nil)) (.c (.int 1))) (.cons (.v 11) .nil)))) (.cons (.tup (.cons (.c (.str "if")) (.cons (.v 12) (.cons (.tup (.cons (.tup (.cons (.c (.str "do")) (.cons (.c (.int 0)) .nil))) .nil)) (.cons (.tup (.cons (.tup (.cons (.c (.str "set")) (.cons (.c (.int 0)) (.cons (.c (.int 1)) .nil)))) .nil)) .nil))))) .nil)))) (.cons (.asg (.nm 5) (.call x.law_one (.cons (.v 0) (.cons (.lst false (.cons (.op .Add (.op .Add (.v 5) (.v 4)) (.v 2)) (.cons (.op .Add (.v 4) (.v 5)) (.cons (.op .Add (.op .Add (.v 2) (.v 5)) (.v 4)) .nil)))) .nil)))) (.cons (.ret (.tup (.cons (.v 6) (.cons (.v 7) (.cons (.v 8) (.cons (.v 9) (.cons (.v 5) (.cons (.v 10) .nil)))))))) .nil)))))))
def ops2 : List D := [.str "plus", .str "times", .str "plus", .str "times", .str "less", .str "same"]
theorem ops2_mem {d : D} (h : d ∈ ops2) : ∃ o : Opr, d = .str o.s := by
  simp only [ops2, List.mem_cons, List.not_mem_nil, or_false] at h
  rcases h with rfl | rfl | rfl | rfl | rfl | rfl
  · exact ⟨.plus, rfl⟩
  · exact ⟨.times, rfl⟩
  · exact ⟨.plus, rfl⟩
  · exact ⟨.times, rfl⟩
  · exact ⟨.less, rfl⟩
  · exact ⟨.same, rfl⟩
def chB (x : Ix) : Ss := forBody ((B_law_chain x).at 1)
section
variable {T : List Fn} {G : Ev} {wf : Nat} {x : Ix}
theorem ch_st (F : FamA T x) {k w : Nat} (hw : 0 < w) (hw2 : w < 1000) {S : Sto} {n : Int} (h : Dk S 0 1 n) (hn : 0 ≤ n) (hn2 : n < 800000) {lv d : D} {f : Fm} (hf : f.ok w = true) {x5 x6 : Option D} :
    ∃ (f' : Fm) (y5 y6 : Option D) (S' : Sto) (n' : Int), dSs G (Z.run T G wf (k + 4)) wf (chB x) [some (.loc 1), some (.int w), some lv, some f.d, some d, x5, x6] S = .ok .nx [some (.loc 1), some (.int w), some lv, some f'.d, some d, y5, y6] S' ∧ f'.ok w = true ∧ f'.dep ≤ max f.dep 1 + 1 ∧ Dk S' 0 1 n' ∧ n ≤ n' ∧ n' ≤ n + 10 ∧ ∀ X, Kp S S' X := by
  obtain ⟨_, S1, n1, e1, ⟨g, rfl, g1, g2⟩, d1, l1, l1', k1⟩ := draw_sum (G := G) (wf := wf) F hw hw2 1 k S n (by decide) h hn (by omega)
  obtain ⟨r, S2, e2, l2, d2, k2⟩ := drw (G := G) (wf := wf) F (k := k + 3) (m := 10) d1 (by omega) (by omega) (by decide) (by decide)
  obtain ⟨o, S3, e3, m3, d3, k3⟩ := one (G := G) (wf := wf) F (k := k + 2) (xs := [g.d, .int r, .int 9, .str "secret"]) d2 (by omega) (by omega) (by simp) (by simp)
  obtain ⟨wd, S4, e4, m4, d4, k4⟩ := one (G := G) (wf := wf) F (k := k + 2) (xs := ops2) d3 (by omega) (by omega) (by decide) (by decide)
  obtain ⟨op, rfl⟩ := ops2_mem m4
  obtain ⟨q, S5, e5, l5, d5, k5⟩ := drw (G := G) (wf := wf) F (k := k + 3) (m := 2) d4 (by omega) (by omega) (by decide) (by decide)
  have ho : ∃ u : Fm, o = u.d ∧ u.ok w = true ∧ u.dep ≤ 1 := by
    simp only [List.mem_cons, List.not_mem_nil, or_false] at m3
    rcases m3 with rfl | rfl | rfl | rfl
    · exact ⟨g, rfl, g1, g2⟩
    · exact ⟨.num r, rfl, by simp [Fm.ok]; omega, by simp [Fm.dep]⟩
    · exact ⟨.num 9, rfl, by simp [Fm.ok], by simp [Fm.dep]⟩
    · exact ⟨.secret, rfl, rfl, by simp [Fm.dep]⟩
  obtain ⟨u, rfl, u1, u2⟩ := ho
  simp at e1 e2 e5
  unfold ops2 at e4
  have kk : ∀ X, Kp S S5 X := fun X => ((((k1 X).trans (k2 X)).trans (k3 X)).trans (k4 X)).trans (k5 X)
  by_cases z : q = 0
  · subst z
    refine ⟨.op op f u, some u.d, some (.str op.s), S5, n1 + 1 + 1 + 1 + 1, ?_, by simp [Fm.ok, hf, u1], by simp only [Fm.dep]; omega, d5, by omega, by omega, kk⟩
    simp [chB, forBody, B_law_chain, Ss.at, e1, e2, e3, e4, e5, Fm.d]
  · refine ⟨.op op u f, some u.d, some (.str op.s), S5, n1 + 1 + 1 + 1 + 1, ?_, by simp [Fm.ok, hf, u1], by simp only [Fm.dep]; omega, d5, by omega, by omega, kk⟩
    simp [chB, forBody, B_law_chain, Ss.at, e1, e2, e3, e4, e5, Fm.d, z]
theorem ch_for (F : FamA T x) {k w : Nat} (hw : 0 < w) (hw2 : w < 1000) {lv : D} : ∀ (ds : List D) (S : Sto) (n : Int) (f : Fm) (x4 x5 x6 : Option D), Dk S 0 1 n → 0 ≤ n → n + 10 * ds.length < 800000 → f.ok w = true → 1 ≤ f.dep ∨ f.dep = 0 →
    ∃ (f' : Fm) (y4 y5 y6 : Option D) (S' : Sto) (n' : Int), forL (gNm 4) (dSs G (Z.run T G wf (k + 4)) wf (chB x)) ds [some (.loc 1), some (.int w), some lv, some f.d, x4, x5, x6] S = .ok .nx [some (.loc 1), some (.int w), some lv, some f'.d, y4, y5, y6] S' ∧ f'.ok w = true ∧ f'.dep ≤ max f.dep 1 + ds.length ∧ Dk S' 0 1 n' ∧ n ≤ n' ∧ n' ≤ n + 10 * ds.length ∧ ∀ X, Kp S S' X
  | [], S, n, f, x4, x5, x6, h, _, _, hf, _ => ⟨f, x4, x5, x6, S, n, rfl, hf, by simp; omega, h, by omega, by simp, fun X => Kp.refl _ _⟩
  | d :: ds, S, n, f, x4, x5, x6, h, hn, hl, hf, _ => by
    simp only [List.length_cons] at hl ⊢
    obtain ⟨f1, y5, y6, S1, n1, e1, o1, p1, d1, l1, l1', k1⟩ := ch_st (G := G) (wf := wf) F (k := k) hw hw2 h hn (by omega) (lv := lv) (d := d) hf (x5 := x5) (x6 := x6)
    obtain ⟨f2, z4, z5, z6, S2, n2, e2, o2, p2, d2, l2, l2', k2⟩ := ch_for F (k := k) (lv := lv) hw hw2 ds S1 n1 f1 (some d) y5 y6 d1 (by omega) (by omega) o1 (by omega)
    refine ⟨f2, z4, z5, z6, S2, n2, ?_, o2, by omega, d2, by omega, by omega, fun X => (k1 X).trans (k2 X)⟩
    rw [forL]
    have g : gNm 4 d [some (.loc 1), some (.int w), some lv, some f.d, x4, x5, x6] S = some ([some (.loc 1), some (.int w), some lv, some f.d, some d, x5, x6], S) := rfl
    simp only [g, e1, e2]
theorem ch_ok (F : FamA T x) (hT : T[x.law_chain]? = some ⟨3, 7, B_law_chain x⟩) {k w lv : Nat} (hw : 0 < w) (hw2 : w < 1000) (hv : lv ≤ 10) {S : Sto} {n : Int} (h : Dk S 0 1 n) (hn : 0 ≤ n) (hn2 : n < 700000) :
    ∃ (f : Fm) (S' : Sto) (n' : Int), Z.run T G wf (k + 5) x.law_chain [.loc 1, .int w, .int lv] S = .ok f.d S' ∧ f.ok w = true ∧ f.dep ≤ 1 + lv ∧ Dk S' 0 1 n' ∧ n ≤ n' ∧ n' ≤ n + 200 ∧ ∀ X, Kp S S' X := by
  obtain ⟨_, S1, n1, e1, ⟨g, rfl, g1, g2⟩, d1, l1, l1', k1⟩ := draw_sum (G := G) (wf := wf) F hw hw2 1 k S n (by decide) h hn (by omega)
  obtain ⟨f, y4, y5, y6, S2, n2, e2, o2, p2, d2, l2, l2', k2⟩ := ch_for (G := G) (wf := wf) F (k := k) (lv := .int lv) hw hw2 ((List.range' 0 lv).map fun (i : Nat) => D.int i) S1 n1 g none none none d1 (by omega) (by simp; omega) g1 (by omega)
  simp only [List.length_map, List.length_range'] at p2 l2'
  refine ⟨f, S2, n2, (run_succ hT rfl).trans ?_, o2, by omega, d2, by omega, by omega, fun X => (k1 X).trans (k2 X)⟩
  let sd : Sl := [some (.loc 1), some (.int w), some (.int lv), none, none, none, none]
  let sd1 : Sl := [some (.loc 1), some (.int w), some (.int lv), some g.d, none, none, none]
  have hsd : slots0 7 [.loc 1, .int w, .int lv] = sd := rfl
  have hn' : (⟨3, 7, B_law_chain x⟩ : Fn).ns = 7 := rfl
  have hb : (⟨3, 7, B_law_chain x⟩ : Fn).body = B_law_chain x := rfl
  simp at e1
  have s0 : dS G (Z.run T G wf (k + 4)) wf ((B_law_chain x).at 0) sd S = .ok .nx sd1 S1 := by simp [B_law_chain, Ss.at, sd, sd1, e1]
  have s1 : dS G (Z.run T G wf (k + 4)) wf ((B_law_chain x).at 1) sd1 S1 = .ok .nx [some (.loc 1), some (.int w), some (.int lv), some f.d, y4, y5, y6] S2 := by
    rw [← e2]
    show dS G (Z.run T G wf (k + 4)) wf (.for_ (.nm 4) (.rng1 (.cons (.v 2) .nil)) (chB x)) sd1 S1 = _
    have it : dI G (Z.run T G wf (k + 4)) (.rng1 (.cons (.v 2) .nil)) sd1 S1 = .ok (.vals ((List.range' 0 lv).map fun (i : Nat) => D.int i)) S1 := by
      have := rng_l (q := lv) (by omega)
      simp [sd1, this]
    rw [q_sfor, q_mFor, it]
    simp only []
    exact for_list (sta_vals _)
  rw [hn', hb, hsd, stp0 rfl s0, stp rfl s1]
  simp [B_law_chain, Ss.fr, fnEnd]
end
end Z

/-! Programs made deeper. -/
namespace Z
open PySem PySem.Spec PyProof.Rows L2
mutual
/-- how many do's -/
def Stm.nd : Stm → Nat
  | .do_ _ => 1
  | .iff _ a b => a.nd + b.nd
  | _ => 0
def Blk.nd : Blk → Nat
  | .nil => 0
  | .cons s b => s.nd + b.nd
end
mutual
theorem Stm.nd_sz : ∀ s : Stm, s.nd ≤ s.sz
  | .do_ _ => by simp [Stm.nd, Stm.sz]
  | .set _ _ => by simp [Stm.nd, Stm.sz]
  | .stop => by simp [Stm.nd, Stm.sz]
  | .iff x a b => by
    have h1 := Blk.nd_sz a
    have h2 := Blk.nd_sz b
    simp only [Stm.nd, Stm.sz]; omega
theorem Blk.nd_sz : ∀ b : Blk, b.nd ≤ b.sz
  | .nil => by simp [Blk.nd, Blk.sz]
  | .cons s b => by
    have h1 := Stm.nd_sz s
    have h2 := Blk.nd_sz b
    simp only [Blk.nd, Blk.sz]; omega
end
theorem Blk.app_nd : ∀ a b : Blk, (a.app b).nd = a.nd + b.nd
  | .nil, b => by simp [Blk.app, Blk.nd]
  | .cons s a, b => by simp [Blk.app, Blk.nd, Blk.app_nd a b]; omega
def inL (p : Nat) : List D := [.tup [.tup [.str "stop"]], .tup [.tup [.str "do", .int 0], .tup [.str "stop"]], .tup [.tup [.str "do", .int ((p : Int) - 1)]]]
theorem inL_mem {p w : Nat} (hp : 0 < p) {d : D} (h : d ∈ inL p) : ∃ b : Blk, d = .tup b.ds ∧ b.ok p w = true ∧ b.dep = 0 ∧ b.fd = 0 ∧ b.ds.length ≤ 2 ∧ b.nd ≤ 1 := by
  simp only [inL, List.mem_cons, List.not_mem_nil, or_false] at h
  rcases h with rfl | rfl | rfl
  · exact ⟨.cons .stop .nil, rfl, rfl, rfl, rfl, by simp [Blk.ds], by simp [Blk.nd, Stm.nd]⟩
  · exact ⟨.cons (.do_ 0) (.cons .stop .nil), rfl, by simp [Blk.ok, Stm.ok, hp], rfl, rfl, by simp [Blk.ds], by simp [Blk.nd, Stm.nd]⟩
  · refine ⟨.cons (.do_ (p - 1)) .nil, ?_, by simp [Blk.ok, Stm.ok]; omega, rfl, rfl, by simp [Blk.ds], by simp [Blk.nd, Stm.nd]⟩
    simp only [Blk.ds, Stm.d]
    rw [show ((p - 1 : Nat) : Int) = (p : Int) - 1 by omega]
def tsL : List D := [.int 1, .str "secret", .tup [.str "same", .str "known", .str "secret"], .tup [.str "cell", .int 0]]
theorem tsL_mem {w : Nat} (hw : 0 < w) {d : D} (h : d ∈ tsL) : SumV w 1 d := by
  simp only [tsL, List.mem_cons, List.not_mem_nil, or_false] at h
  rcases h with rfl | rfl | rfl | rfl
  · exact ⟨.num 1, rfl, rfl, by simp [Fm.dep]⟩
  · exact ⟨.secret, rfl, rfl, by simp [Fm.dep]⟩
  · exact ⟨.op .same .known .secret, rfl, rfl, by simp [Fm.dep]⟩
  · exact ⟨.cell 0, rfl, by simp [Fm.ok, hw], by simp [Fm.dep]⟩
def dpB (x : Ix) : Ss := forBody ((B_law_deeper x).at 3)
section
variable {T : List Fn} {G : Ev} {wf : Nat} {x : Ix}
theorem dp_for (F : FamA T x) {k p w : Nat} (hw : 0 < w) {v1 v5 v6 v7 v8 v9 v10 v11 v12 : D} : ∀ (ds : List D) (S : Sto) (n : Int) (b : Blk) (x3 x13 : Option D), Dk S 0 1 n → 0 ≤ n → n + 10 * ds.length < 800000 → b.ok p w = true → b.fd ≤ 1 → b.ds.length ≤ 2 →
    ∃ (b' : Blk) (y3 y13 : Option D) (S' : Sto) (n' : Int), forL (gNm 3) (dSs G (Z.run T G wf (k + 2)) wf (dpB x)) ds [some (.loc 1), some v1, some (.tup b.ds), x3, none, some v5, some v6, some v7, some v8, some v9, some v10, some v11, some v12, x13] S = .ok .nx [some (.loc 1), some v1, some (.tup b'.ds), y3, none, some v5, some v6, some v7, some v8, some v9, some v10, some v11, some v12, y13] S' ∧ b'.ok p w = true ∧ b'.fd ≤ 1 ∧ b'.dep ≤ b.dep + ds.length ∧ b'.ds.length ≤ 2 ∧ b'.nd ≤ b.nd ∧ Dk S' 0 1 n' ∧ n ≤ n' ∧ n' ≤ n + 10 * ds.length ∧ ∀ X, Kp S S' X
  | [], S, n, b, x3, x13, h, _, _, hb, hf, hl => ⟨b, x3, x13, S, n, rfl, hb, hf, by simp, hl, Nat.le_refl _, h, by omega, by simp, fun X => Kp.refl _ _⟩
  | d :: ds, S, n, b, x3, x13, h, hn, hl, hb, hf, hlen => by
    simp only [List.length_cons] at hl ⊢
    obtain ⟨_, S1, e1, m1, d1, k1⟩ := one (G := G) (wf := wf) F (k := k) (xs := tsL) h hn (by omega) (by decide) (by decide)
    obtain ⟨f, rfl, f1, f2⟩ := tsL_mem hw m1
    obtain ⟨q, S2, e2, l2, d2, k2⟩ := drw (G := G) (wf := wf) F (k := k + 1) (m := 2) d1 (by omega) (by omega) (by decide) (by decide)
    simp at e2
    unfold tsL at e1
    have g : gNm 3 d [some (.loc 1), some v1, some (.tup b.ds), x3, none, some v5, some v6, some v7, some v8, some v9, some v10, some v11, some v12, x13] S = some ([some (.loc 1), some v1, some (.tup b.ds), some d, none, some v5, some v6, some v7, some v8, some v9, some v10, some v11, some v12, x13], S) := rfl
    have bo : ∃ b1 : Blk, dSs G (Z.run T G wf (k + 2)) wf (dpB x) [some (.loc 1), some v1, some (.tup b.ds), some d, none, some v5, some v6, some v7, some v8, some v9, some v10, some v11, some v12, x13] S = .ok .nx [some (.loc 1), some v1, some (.tup b1.ds), some d, none, some v5, some v6, some v7, some v8, some v9, some v10, some v11, some v12, some f.d] S2 ∧ b1.ok p w = true ∧ b1.fd ≤ 1 ∧ b1.dep ≤ b.dep + 1 ∧ b1.ds.length ≤ 2 ∧ b1.nd ≤ b.nd := by
      by_cases z : q = 0
      · refine ⟨.cons (.iff f b .nil) .nil, ?_, by simp [Blk.ok, Stm.ok, f1, hb], by simp only [Blk.fd, Stm.fd]; omega, by simp only [Blk.dep, Stm.dep]; omega, by simp [Blk.ds], by simp [Blk.nd, Stm.nd]⟩
        simp [dpB, forBody, B_law_deeper, Ss.at, e1, e2, z, Blk.ds, Stm.d]
      · refine ⟨.cons (.iff f .nil b) .nil, ?_, by simp [Blk.ok, Stm.ok, f1, hb], by simp only [Blk.fd, Stm.fd]; omega, by simp only [Blk.dep, Stm.dep]; omega, by simp [Blk.ds], by simp [Blk.nd, Stm.nd]⟩
        simp [dpB, forBody, B_law_deeper, Ss.at, e1, e2, z, Blk.ds, Stm.d]
    obtain ⟨b1, eb, o1, fd1, dp1, ln1, nd1⟩ := bo
    obtain ⟨b2, z3, z13, S3, n3, e3, o3, fd3, dp3, ln3, nd3, d3, l3, l3', k3⟩ := dp_for F (k := k) (p := p) hw (v1 := v1) (v5 := v5) (v6 := v6) (v7 := v7) (v8 := v8) (v9 := v9) (v10 := v10) (v11 := v11) (v12 := v12) ds S2 (n + 1 + 1) b1 (some d) (some f.d) d2 (by omega) (by omega) o1 fd1 ln1
    refine ⟨b2, z3, z13, S3, n3, ?_, o3, fd3, by omega, ln3, by omega, d3, by omega, by omega, fun X => ((k1 X).trans (k2 X)).trans (k3 X)⟩
    rw [forL]
    simp only [g, eb, e3]
theorem add_t {S : Sto} {xs ys : List D} (h : xs.length + ys.length ≤ 1000) : addP S (.tup xs) (.tup ys) = some (.tup (xs ++ ys)) := by
  unfold addP
  simp only []
  rw [if_pos (by omega)]
theorem dp_ok (F : FamA T x) (hC : T[x.law_chain]? = some ⟨3, 7, B_law_chain x⟩) (hT : T[x.law_deeper]? = some ⟨2, 14, B_law_deeper x⟩) {k : Nat} {P : Prog} (hp : 0 < P.p) (hw : 0 < P.cells.length) (hw2 : P.cells.length < 1000) (hbo : P.body.ok P.p P.cells.length = true) (hln : P.body.ds.length ≤ 100) {S : Sto} {n : Int} (h : Dk S 0 1 n) (hn : 0 ≤ n) (hn2 : n < 600000) :
    ∃ (b : Blk) (S' : Sto) (n' : Int), Z.run T G wf (k + 6) x.law_deeper [.loc 1, P.d] S = .ok (Prog.d { P with body := b }) S' ∧ b.ok P.p P.cells.length = true ∧ b.dep ≤ max P.body.dep 8 ∧ b.fd ≤ max P.body.fd 7 ∧ b.nd ≤ P.body.nd + 10 ∧ Dk S' 0 1 n' ∧ n ≤ n' ∧ n' ≤ n + 1000 ∧ ∀ X, Kp S S' X := by
  obtain ⟨q, S1, e1, l1, d1, k1⟩ := drw (G := G) (wf := wf) F (k := k + 4) (m := 6) h hn (by omega) (by decide) (by decide)
  obtain ⟨lv, hlv⟩ : ∃ lv : Nat, (1 : Int) + (q : Int) = (lv : Int) := ⟨1 + q, by omega⟩
  obtain ⟨f, S2, n2, e2, o2, p2, d2, l2, l2', k2⟩ := ch_ok (G := G) (wf := wf) F hC (k := k) (w := P.cells.length) (lv := lv) hw hw2 (by omega) d1 (by omega) (by omega)
  obtain ⟨g, S3, n3, e3, o3, p3, d3, l3, l3', k3⟩ := ch_ok (G := G) (wf := wf) F hC (k := k) (w := P.cells.length) (lv := 2) hw hw2 (by omega) d2 (by omega) (by omega)
  obtain ⟨_, S4, e4, m4, d4, k4⟩ := one (G := G) (wf := wf) F (k := k + 3) (xs := inL P.p) d3 (by omega) (by omega) (by simp [inL]) (by simp [inL])
  obtain ⟨ib, rfl, i1, i2, i3, i4, i5⟩ := inL_mem (w := P.cells.length) hp m4
  obtain ⟨r, S5, e5, l5, d5, k5⟩ := drw (G := G) (wf := wf) F (k := k + 4) (m := 8) d4 (by omega) (by omega) (by decide) (by decide)
  simp at e1 e3 e5
  let cd : D := .tup (P.cells.map fun (c : Nat) => D.int c)
  obtain ⟨jb, y3, y13, S6, n6, e6, j1, j2, j3, j4, j5, d6, l6, l6', k6⟩ := dp_for (G := G) (wf := wf) F (k := k + 3) (p := P.p) (w := P.cells.length) hw (v1 := P.d) (v5 := .tup P.body.ds) (v6 := .int P.kn) (v7 := .int P.se) (v8 := .int P.p) (v9 := cd) (v10 := .tup P.tail.ds) (v11 := f.d) (v12 := g.d) ((List.range' 0 r).map fun (i : Nat) => D.int i) S5 (n3 + 1 + 1) ib none none d5 (by omega) (by simp; omega) i1 (by omega) i4
  simp only [List.length_map, List.length_range'] at j3 l6'
  -- the statements
  let sd0 : Sl := slots0 14 [.loc 1, P.d]
  let sd1 : Sl := [some (.loc 1), some P.d, none, none, none, some (.tup P.body.ds), some (.int P.kn), some (.int P.se), some (.int P.p), some cd, some (.tup P.tail.ds), none, none, none]
  have s0 : dS G (Z.run T G wf (k + 5)) wf ((B_law_deeper x).at 0) sd0 S = .ok .nx sd1 S := by
    simp [B_law_deeper, Ss.at, sd0, sd1, slots0, Prog.d, gTp, gsCons, cd]
  let sd2 : Sl := [some (.loc 1), some P.d, none, none, none, some (.tup P.body.ds), some (.int P.kn), some (.int P.se), some (.int P.p), some cd, some (.tup P.tail.ds), some f.d, some g.d, none]
  have s1 : dS G (Z.run T G wf (k + 5)) wf ((B_law_deeper x).at 1) sd1 S = .ok .nx sd2 S3 := by
    simp [B_law_deeper, Ss.at, sd1, sd2, cd, e1, hlv, e2, e3]
  let sd3 : Sl := [some (.loc 1), some P.d, some (.tup ib.ds), none, none, some (.tup P.body.ds), some (.int P.kn), some (.int P.se), some (.int P.p), some cd, some (.tup P.tail.ds), some f.d, some g.d, none]
  have s2 : dS G (Z.run T G wf (k + 5)) wf ((B_law_deeper x).at 2) sd2 S3 = .ok .nx sd3 S4 := by
    unfold inL at e4
    simp [B_law_deeper, Ss.at, sd2, sd3, e4]
  let sd4 : Sl := [some (.loc 1), some P.d, some (.tup jb.ds), y3, none, some (.tup P.body.ds), some (.int P.kn), some (.int P.se), some (.int P.p), some cd, some (.tup P.tail.ds), some f.d, some g.d, y13]
  have s3 : dS G (Z.run T G wf (k + 5)) wf ((B_law_deeper x).at 3) sd3 S4 = .ok .nx sd4 S6 := by
    rw [← e6]
    show dS G (Z.run T G wf (k + 5)) wf (.for_ (.nm 3) (.rng1 (.cons (.call x.law_draw (.cons (.v 0) (.cons (.c (.int 8)) .nil))) .nil)) (dpB x)) sd3 S4 = _
    have it : dI G (Z.run T G wf (k + 5)) (.rng1 (.cons (.call x.law_draw (.cons (.v 0) (.cons (.c (.int 8)) .nil))) .nil)) sd3 S4 = .ok (.vals ((List.range' 0 r).map fun (i : Nat) => D.int i)) S5 := by
      have := rng_l (q := r) (by omega)
      simp [sd3, e5, this]
    rw [q_sfor, q_mFor, it]
    simp only []
    exact for_list (sta_vals _)
  let mo : Blk := .cons (.set (P.cells.length - 1) f) (.cons (.iff g (.cons (.do_ 0) .nil) (.cons (.set 0 (.num 1)) .nil)) .nil)
  have mod : mo.ds = [.tup [.str "set", .int ((P.cells.length : Int) - 1), f.d], .tup [.str "if", g.d, .tup [.tup [.str "do", .int 0]], .tup [.tup [.str "set", .int 0, .int 1]]]] := by
    simp only [mo, Blk.ds, Stm.d, Fm.d]
    rw [show ((P.cells.length - 1 : Nat) : Int) = (P.cells.length : Int) - 1 by omega]
    rfl
  have moo : mo.ok P.p P.cells.length = true := by simp [mo, Blk.ok, Stm.ok, o2, o3, hp, hw, Fm.ok]; omega
  have mol : mo.ds.length = 2 := by simp [mod]
  have mdp : mo.dep ≤ 1 := by simp [mo, Blk.dep, Stm.dep]
  have mnd : mo.nd ≤ 1 := by simp [mo, Blk.nd, Stm.nd]
  have mfd : mo.fd ≤ 7 := by simp only [mo, Blk.fd, Stm.fd, Fm.dep]; omega
  let sd5 : Sl := [some (.loc 1), some P.d, some (.tup jb.ds), y3, some (.tup mo.ds), some (.tup P.body.ds), some (.int P.kn), some (.int P.se), some (.int P.p), some cd, some (.tup P.tail.ds), some f.d, some g.d, y13]
  have s4 : dS G (Z.run T G wf (k + 5)) wf ((B_law_deeper x).at 4) sd4 S6 = .ok .nx sd5 S6 := by
    simp [B_law_deeper, Ss.at, sd4, sd5, mod, cd]
  obtain ⟨nb, S7, e7, m7, d7, k7⟩ := one (G := G) (wf := wf) F (k := k + 3) (xs := [.tup (P.body.ds ++ mo.ds ++ jb.ds), .tup (mo.ds ++ P.body.ds), .tup (jb.ds ++ P.body.ds ++ mo.ds)]) d6 (by omega) (by omega) (by simp) (by simp)
  have hnb : ∃ b : Blk, nb = .tup b.ds ∧ b.ok P.p P.cells.length = true ∧ b.dep ≤ max P.body.dep 8 ∧ b.fd ≤ max P.body.fd 7 ∧ b.nd ≤ P.body.nd + 10 := by
    simp only [List.mem_cons, List.not_mem_nil, or_false] at m7
    rcases m7 with rfl | rfl | rfl
    · exact ⟨(P.body.app mo).app jb, by simp [Blk.app_ds], Blk.app_ok (Blk.app_ok hbo moo) j1, by simp only [Blk.app_dep]; omega, by simp only [Blk.app_fd]; omega, by simp only [Blk.app_nd]; omega⟩
    · exact ⟨mo.app P.body, by simp [Blk.app_ds], Blk.app_ok moo hbo, by simp only [Blk.app_dep]; omega, by simp only [Blk.app_fd]; omega, by simp only [Blk.app_nd]; omega⟩
    · exact ⟨(jb.app P.body).app mo, by simp [Blk.app_ds], Blk.app_ok (Blk.app_ok j1 hbo) moo, by simp only [Blk.app_dep]; omega, by simp only [Blk.app_fd]; omega, by simp only [Blk.app_nd]; omega⟩
  obtain ⟨b, rfl, b1, b2, b3, b4⟩ := hnb
  let sd6 : Sl := [some (.loc 1), some P.d, some (.tup jb.ds), y3, some (.tup mo.ds), some (.tup b.ds), some (.int P.kn), some (.int P.se), some (.int P.p), some cd, some (.tup P.tail.ds), some f.d, some g.d, y13]
  have s5 : dS G (Z.run T G wf (k + 5)) wf ((B_law_deeper x).at 5) sd5 S6 = .ok .nx sd6 S7 := by
    have a1 := add_t (S := S6) (xs := P.body.ds) (ys := mo.ds) (by omega)
    have a2 := add_t (S := S6) (xs := P.body.ds ++ mo.ds) (ys := jb.ds) (by simp; omega)
    have a3 := add_t (S := S6) (xs := mo.ds) (ys := P.body.ds) (by omega)
    have a4 := add_t (S := S6) (xs := jb.ds) (ys := P.body.ds) (by omega)
    have a5 := add_t (S := S6) (xs := jb.ds ++ P.body.ds) (ys := mo.ds) (by simp; omega)
    simp only [List.append_assoc] at a2 a5 e7
    simp [B_law_deeper, Ss.at, sd5, sd6, a1, a2, a3, a4, a5, e7]
  refine ⟨b, S7, n6 + 1, (run_succ hT rfl).trans ?_, b1, b2, b3, b4, d7, by omega, by omega, fun X => ((((((k1 X).trans (k2 X)).trans (k3 X)).trans (k4 X)).trans (k5 X)).trans (k6 X)).trans (k7 X)⟩
  show fnEnd (dSs G (Z.run T G wf (k + 5)) wf (B_law_deeper x) sd0 S) = _
  rw [stp0 rfl s0, stp rfl s1, stp rfl s2, stp rfl s3, stp rfl s4, stp rfl s5]
  simp [B_law_deeper, Ss.fr, sd6, fnEnd, Prog.d, cd]
end
end Z

/-! Bounds of counts and times; repr of what a run comes to. -/
namespace Z
open PySem PySem.Spec PyProof.Rows L2
def Nn (l : List Int) : Prop := ∀ i ∈ l, 0 ≤ i
theorem incr_nn : ∀ {l : List Int} {i : Nat}, Nn l → Nn (incr l i) ∧ (incr l i).sum ≤ l.sum + 1
  | [], i, h => ⟨h, by simp [incr]⟩
  | x :: l, 0, h => ⟨fun j hj => by
      rcases List.mem_cons.mp hj with rfl | hj
      · have := h x (.head _); omega
      · exact h j (.tail _ hj), by simp [incr]; omega⟩
  | x :: l, i + 1, h => by
    obtain ⟨h1, h2⟩ := incr_nn (l := l) (i := i) fun j hj => h j (.tail _ hj)
    refine ⟨fun j hj => ?_, by simp [incr]; omega⟩
    rcases List.mem_cons.mp hj with rfl | hj
    · exact h j (.head _)
    · exact h1 j hj
mutual
theorem Stm.go_nd {sz : List Int} {kn se : Int} : ∀ (s : Stm) (r : Rn), Nn r.cnt → Nn (s.go sz kn se r).cnt ∧ (s.go sz kn se r).cnt.sum ≤ r.cnt.sum + s.nd
  | .do_ i, r, h => by simpa [Stm.go, Stm.nd] using incr_nn h
  | .set i x, r, h => ⟨h, by simp [Stm.go, Stm.nd]⟩
  | .stop, r, h => ⟨h, by simp [Stm.go, Stm.nd]⟩
  | .iff x a b, r, h => by
    have h1 := Blk.go_nd (sz := sz) (kn := kn) (se := se) a r h
    have h2 := Blk.go_nd (sz := sz) (kn := kn) (se := se) b r h
    unfold Stm.go
    split
    · exact ⟨h1.1, by simp only [Stm.nd]; omega⟩
    · exact ⟨h2.1, by simp only [Stm.nd]; omega⟩
theorem Blk.go_nd {sz : List Int} {kn se : Int} : ∀ (b : Blk) (r : Rn), Nn r.cnt → Nn (b.go sz kn se r).cnt ∧ (b.go sz kn se r).cnt.sum ≤ r.cnt.sum + b.nd
  | .nil, r, h => ⟨h, by simp [Blk.go, Blk.nd]⟩
  | .cons s b, r, h => by
    have h1 := Stm.go_nd (sz := sz) (kn := kn) (se := se) s r h
    have h2 := Blk.go_nd (sz := sz) (kn := kn) (se := se) b _ h1.1
    unfold Blk.go
    split
    · exact ⟨h1.1, by simp only [Blk.nd]; omega⟩
    · exact ⟨h2.1, by simp only [Blk.nd]; omega⟩
end
theorem Prog.runW_nd {P : Prog} : ∀ (ps : List (Nat × Nat)) (r : Rn), Nn r.cnt → Nn (P.runW ps r).cnt ∧ (P.runW ps r).cnt.sum ≤ r.cnt.sum + (ps.length * P.body.nd + P.tail.nd : Nat)
  | [], r, h => by
    have := Blk.go_nd (sz := P.sz) (kn := 0) (se := 0) P.tail r h
    exact ⟨this.1, by simp only [Prog.runW, List.length_nil]; omega⟩
  | (k, s) :: ps, r, h => by
    have h1 := Blk.go_nd (sz := P.sz) (kn := k) (se := s) P.body r h
    have h2 := Prog.runW_nd (P := P) ps _ h1.1
    have e : (((k, s) :: ps).length * P.body.nd + P.tail.nd : Nat) = P.body.nd + (ps.length * P.body.nd + P.tail.nd) := by
      rw [List.length_cons, Nat.add_mul]; omega
    rw [e]
    unfold Prog.runW
    split
    · exact ⟨h1.1, by omega⟩
    · exact ⟨h2.1, by omega⟩
theorem Prog.run_nd {P : Prog} {ps : List (Nat × Nat)} : Nn (P.run ps).cnt ∧ (P.run ps).cnt.sum ≤ (ps.length * P.body.nd + P.tail.nd : Nat) := by
  have h := Prog.runW_nd (P := P) ps P.r0 (fun i hi => by have := List.eq_of_mem_replicate hi; omega)
  refine ⟨h.1, ?_⟩
  have e : P.r0.cnt.sum = 0 := by simp [Prog.r0]
  rw [e] at h
  have := h.2
  unfold Prog.run
  omega
theorem Prog.runW_ok {P : Prog} (hz : SzOk P.sz) : ∀ (ps : List (Nat × Nat)) (r : Rn), RnOk P.p P.sz r → RnOk P.p P.sz (P.runW ps r)
  | [], r, h => Blk.go_ok hz P.tail r h
  | (k, s) :: ps, r, h => by
    have h1 := Blk.go_ok (p := P.p) hz (kn := k) (se := s) P.body r h
    unfold Prog.runW
    split
    · exact h1
    · exact Prog.runW_ok hz ps _ h1
theorem Prog.run_ok {P : Prog} (hz : SzOk P.sz) (ps : List (Nat × Nat)) : RnOk P.p P.sz (P.run ps) := Prog.runW_ok hz ps _ (r0_ok P)
theorem nn_le : ∀ {l : List Int}, Nn l → ∀ i ∈ l, i ≤ l.sum
  | [], _, i, hi => by cases hi
  | x :: l, h, i, hi => by
    have hs : ∀ {l : List Int}, Nn l → 0 ≤ l.sum := by
      intro l hl
      induction l with
      | nil => simp
      | cons a l ih =>
        have := hl a (.head _)
        have := ih fun i hi => hl i (.tail _ hi)
        simp; omega
    have h0 := hs (l := l) fun i hi => h i (.tail _ hi)
    have hx := h x (.head _)
    simp only [List.sum_cons]
    rcases List.mem_cons.mp hi with rfl | hi
    · omega
    · have := nn_le (l := l) (fun i hi => h i (.tail _ hi)) i hi
      omega
theorem time_bd : ∀ {l bk : List Int} {m : Int}, Nn l → (∀ y ∈ bk, 0 ≤ y ∧ y ≤ m) → 0 ≤ m → 0 ≤ (List.zipWith (· * ·) l bk).sum ∧ (List.zipWith (· * ·) l bk).sum ≤ l.sum * m
  | [], bk, m, _, _, _ => by simp
  | x :: l, [], m, h, _, hm => by
    have h0 : ∀ {l : List Int}, Nn l → 0 ≤ l.sum := by
      intro l hl
      induction l with
      | nil => simp
      | cons a l ih =>
        have := hl a (.head _)
        have := ih fun i hi => hl i (.tail _ hi)
        simp; omega
    exact ⟨by simp, by simpa using Int.mul_nonneg (h0 h) hm⟩
  | x :: l, y :: bk, m, h, hb, hm => by
    have ih := time_bd (l := l) (bk := bk) (m := m) (fun i hi => h i (.tail _ hi)) (fun i hi => hb i (.tail _ hi)) hm
    have hx := h x (.head _)
    have hy := hb y (.head _)
    have h1 : 0 ≤ x * y := Int.mul_nonneg hx hy.1
    have h2 : x * y ≤ x * m := Int.mul_le_mul_of_nonneg_left hy.2 hx
    simp only [List.zipWith_cons_cons, List.sum_cons, Int.add_mul]
    omega
/-! ### repr -/
def smallI (i : Int) : Prop := 0 ≤ i ∧ i < 10 ^ 13
theorem small_log {i : Int} (h : smallI i) : i.natAbs.log2 < 1920 := by
  by_cases z : i.natAbs = 0
  · rw [z]; decide
  · rw [Nat.log2_lt z]
    have : i.natAbs < 2 ^ 64 := by have := h.1; have := h.2; omega
    exact Nat.lt_of_lt_of_le this (Nat.pow_le_pow_right (by decide) (by decide))
theorem small_len {i : Int} (h : smallI i) : (PyData.int i).shown.length ≤ 20 := by
  rw [PyData.shown_int]
  obtain ⟨n, rfl⟩ : ∃ n : Nat, i = n := ⟨i.toNat, by have := h.1; omega⟩
  have e : (Str.ofString (toString ((n : Nat) : Int))).length = (TL.numL n).length := by rw [TL.len_tl, TL.tl_num]
  rw [e]
  have := TL.numL_len (n := n) (k := 13) (by decide) (by have := h.2; omega)
  omega
def tupP (l : List Int) : PyData := .tuple (l.map PyData.int)
theorem tupP_facts : ∀ {l : List Int}, (∀ i ∈ l, smallI i) → PyData.showableAll (l.map PyData.int) = true ∧ PyData.hasDictAll (l.map PyData.int) = false ∧ PyData.depthAll (l.map PyData.int) = 0 ∧ PyData.leavesShortAll 20 (l.map PyData.int) = true ∧ PyData.weightAll (l.map PyData.int) ≤ 66 * l.length
  | [], _ => ⟨rfl, rfl, rfl, rfl, Nat.le_refl _⟩
  | i :: l, h => by
    obtain ⟨h1, h2, h3, h4, h5⟩ := tupP_facts (l := l) fun j hj => h j (.tail _ hj)
    have hi := h i (.head _)
    have a := small_log hi
    have b := small_len hi
    have w : PyData.weight (.int i) ≤ 65 := by
      unfold PyData.weight
      split
      · omega
      · rename_i z
        have z' : i.natAbs ≠ 0 := by simp at z; omega
        have : i.natAbs.log2 < 64 := by
          rw [Nat.log2_lt z']; have := hi.1; have := hi.2; omega
        omega
    refine ⟨by simp [PyData.showableAll, PyData.showable, a, h1], by simp [PyData.hasDictAll, PyData.hasDict, h2], by simp [PyData.depthAll, PyData.depth, h3], by simp [PyData.leavesShortAll, PyData.leavesShort, b, h4], ?_⟩
    simp only [List.map_cons, PyData.weightAll, List.length_cons]
    omega
theorem toPs_ints : ∀ l : List Int, toPs0 (l.map D.int) = some (l.map PyData.int)
  | [] => rfl
  | i :: l => by simp [toPs0, toP0, toPs_ints l]
def toldP (r : Rn) (t : Int) : PyData := .list [.tuple [tupP r.cnt, tupP r.cel, .bool r.stp], .int t]
theorem repr_told {S : Sto} {r : Rn} {t : Int} (h1 : ∀ i ∈ r.cnt, smallI i) (h2 : ∀ i ∈ r.cel, smallI i) (h3 : smallI t) (l1 : r.cnt.length ≤ 1000) (l2 : r.cel.length ≤ 1000) : reprD S (.lst [r.d, .int t]) = some (.str (toldP r t).shown) := by
  have e : toP S (.lst [r.d, .int t]) = some (toldP r t) := by
    show (toPs0 [r.d, .int t]).map PyData.list = _
    simp [toPs0, toP0, Rn.d, toPs_ints, toldP, tupP]
  obtain ⟨a1, a2, a3, a4, a5⟩ := tupP_facts h1
  obtain ⟨b1, b2, b3, b4, b5⟩ := tupP_facts h2
  have c1 := small_log h3
  have c2 := small_len h3
  have w : PyData.weight (.int t) ≤ 65 := by
    have := (tupP_facts (l := [t]) (fun i hi => by simp at hi; subst hi; exact h3)).2.2.2.2
    simp [PyData.weightAll] at this
    omega
  have s1 : (toldP r t).showable = true := by simp [toldP, tupP, PyData.showable, PyData.showableAll, a1, b1, c1]
  have s2 : (toldP r t).hasDict = false := by simp [toldP, tupP, PyData.hasDict, PyData.hasDictAll, a2, b2]
  have s3 : (toldP r t).depth ≤ 60 := by simp [toldP, tupP, PyData.depth, PyData.depthAll, a3, b3]
  have s4 : (toldP r t).leavesShort 20 = true := by simp [toldP, tupP, PyData.leavesShort, PyData.leavesShortAll, a4, b4, c2]
  have s5 : (toldP r t).weight ≤ 200000 := by
    simp only [toldP, tupP, PyData.weight, PyData.weightAll] at w ⊢
    omega
  have s6 : (toldP r t).shown.length ≤ 16777216 := by
    have := PyData.shown_le 20 (by decide) (toldP r t) s4
    omega
  unfold reprD
  simp only [e]
  rw [if_pos ⟨s1, s2, s3, s6⟩]
end Z

namespace K23
open PySem PySem.Spec PyProof.Rows L2 Z
abbrev pw : PySem.Program := PySem.Challenge.pw_steadytime_k23_runs_walked
def topS (i : Nat) : Stmt := pw.main.body.getD i (.Pass ⟨0, 0, 0, 0⟩)
def mthS (i j : Nat) : Stmt := (clsBodyZ (topS i)).getD j (.Pass ⟨0, 0, 0, 0⟩)
def gl : List (Str × D) := [("KNOWN", (.str "known")), ("SECRET", (.str "secret"))]
def b_value_of : Ss := (.cons (.ite (.tru (.isi (.v 0) .int)) (.cons (.ret (.v 0)) .nil) .nil) (.cons (.ite (.cmp .Eq (.v 0) (.g 0)) (.cons (.ret (.v 1)) .nil) .nil) (.cons (.ite (.cmp .Eq (.v 0) (.g 1)) (.cons (.ret (.v 2)) .nil) .nil) (.cons (.ite (.cmp .Eq (.ix (.v 0) (.c (.int 0))) (.c (.str "cell"))) (.cons (.ret (.ix (.v 3) (.ix (.v 0) (.c (.int 1))))) .nil) .nil) (.cons (.par [4, 5] (.cons (.call 0 (.cons (.ix (.v 0) (.c (.int 1))) (.cons (.v 1) (.cons (.v 2) (.cons (.v 3) .nil))))) (.cons (.call 0 (.cons (.ix (.v 0) (.c (.int 2))) (.cons (.v 1) (.cons (.v 2) (.cons (.v 3) .nil))))) .nil))) (.cons (.ite (.cmp .Eq (.ix (.v 0) (.c (.int 0))) (.c (.str "plus"))) (.cons (.ret (.op .Add (.v 4) (.v 5))) .nil) .nil) (.cons (.ite (.cmp .Eq (.ix (.v 0) (.c (.int 0))) (.c (.str "times"))) (.cons (.ret (.op .Mult (.v 4) (.v 5))) .nil) .nil) (.cons (.ret (.ifx (.cmp .Eq (.ix (.v 0) (.c (.int 0))) (.c (.str "less"))) (.bf .int (.cons (.cmp .Lt (.v 4) (.v 5)) .nil)) (.bf .int (.cons (.cmp .Eq (.v 4) (.v 5)) .nil)))) .nil))))))))
def r_value_of : Z.Row := ⟨("value_of", none), ["formula", "known", "secret", "cells"], ["formula", "known", "secret", "cells", "one", "other"], ⟨4, 6, b_value_of⟩, topS 3⟩
def b_run : Ss := (.cons (.asg (.tup (.cons (.nm 4) (.cons (.nm 5) (.cons (.nm 6) (.cons (.nm 7) .nil))))) (.sl (.v 0) (.some (.c (.int 2))) .none)) (.cons (.asg (.nm 3) (.mk 0 (.cons (.v 4) (.cons (.op .Mult (.lst false (.cons (.c (.int 0)) .nil)) (.bf .len (.cons (.v 5) .nil))) .nil)))) (.cons (.for_ (.tup (.cons (.nm 8) (.cons (.nm 9) .nil))) (.zip (.cons (.v 1) (.cons (.v 2) .nil))) (.cons (.ex (.mth (.v 3) "go" (.cons (.v 6) (.cons (.v 5) (.cons (.bf .int (.cons (.v 8) .nil)) (.cons (.bf .int (.cons (.v 9) .nil)) .nil)))))) .nil)) (.cons (.ex (.mth (.v 3) "go" (.cons (.v 7) (.cons (.v 5) (.cons (.c (.int 0)) (.cons (.c (.int 0)) .nil)))))) (.cons (.ret (.tup (.cons (.bf .tup (.cons (.fld (.v 3) "counts") .nil)) (.cons (.bf .tup (.cons (.fld (.v 3) "cells") .nil)) (.cons (.fld (.v 3) "stopped") .nil))))) .nil)))))
def r_run : Z.Row := ⟨("run", none), ["program", "known", "secret"], ["program", "known", "secret", "stand", "works", "sizes", "body", "tail", "letter", "other"], ⟨3, 10, b_run⟩, topS 5⟩
def b_product : Ss := (.cons (.ret (.bf .sum (.cons (.lc false (.tup (.cons (.nm 2) (.cons (.nm 3) .nil))) (.zip (.cons (.v 0) (.cons (.v 1) .nil))) .none (.op .Mult (.v 2) (.v 3)) [("one", 2), ("other", 3)]) .nil))) .nil)
def r_product : Z.Row := ⟨("product", none), ["row", "book"], ["row", "book", "one", "other"], ⟨2, 4, b_product⟩, topS 6⟩
def b_time : Ss := (.cons (.ret (.call 2 (.cons (.ix (.call 1 (.cons (.v 0) (.cons (.v 2) (.cons (.v 3) .nil)))) (.c (.int 0))) (.cons (.v 1) .nil)))) .nil)
def r_time : Z.Row := ⟨("time", none), ["program", "book", "known", "secret"], ["program", "book", "known", "secret"], ⟨4, 4, b_time⟩, topS 7⟩
def b_law_deck : Ss := (.cons (.ret (.lst true (.cons (.lc true (.nm 1) (.seq (.sl (.v 0) .none (.some (.c (.int 63))))) .none (.bf .abs (.cons (.v 1) .nil)) [("_law_cell", 1)]) (.cons (.c (.int 0)) .nil)))) .nil)
def r_law_deck : Z.Row := ⟨("_law_deck", none), ["_law_script"], ["_law_script", "_law_cell"], ⟨1, 2, b_law_deck⟩, topS 9⟩
def b_law_draw : Ss := (.cons (.asg (.sub (.v 0) (.c (.int 1))) (.op .Add (.ix (.v 0) (.c (.int 1))) (.c (.int 1)))) (.cons (.asg (.tup (.cons (.nm 3) (.cons (.nm 4) .nil))) (.tup (.cons (.c (.int 0)) (.cons (.neg (.c (.int 1))) .nil)))) (.cons (.ite (.cmp .Gt (.bf .len (.cons (.ix (.v 0) (.c (.int 0))) .nil)) (.c (.int 0))) (.cons (.asg (.nm 4) (.op .Mod (.bf .int (.cons (.ix (.v 0) (.c (.int 1))) .nil)) (.bf .len (.cons (.ix (.v 0) (.c (.int 0))) .nil)))) (.cons (.asg (.nm 3) (.ix (.ix (.v 0) (.c (.int 0))) (.v 4))) .nil)) .nil) (.cons (.ite (.cmp .GtE (.v 3) (.op .Pow (.c (.int 10)) (.c (.int 18)))) (.cons (.asg (.sub (.ix (.v 0) (.c (.int 0))) (.v 4)) (.op .FloorDiv (.bf .int (.cons (.v 3) .nil)) (.v 1))) (.cons (.ret (.op .Mod (.bf .int (.cons (.v 3) .nil)) (.v 1))) .nil)) .nil) (.cons (.asg (.nm 2) (.op .Add (.op .Add (.op .Mod (.bf .int (.cons (.v 3) .nil)) (.c (.int 2147483477))) (.op .Mult (.c (.int 6833)) (.ix (.v 0) (.c (.int 1))))) (.c (.int 17)))) (.cons (.ret (.op .Mod (.bf .int (.cons (.op .Mod (.bf .int (.cons (.op .Pow (.v 2) (.c (.int 5))) .nil)) (.c (.int 2147483543))) .nil)) (.v 1))) .nil))))))
def r_law_draw : Z.Row := ⟨("_law_draw", none), ["_law_deck_here", "_law_most"], ["_law_deck_here", "_law_most", "_law_mixed", "_law_cell", "_law_at"], ⟨2, 5, b_law_draw⟩, topS 10⟩
def b_law_one : Ss := (.cons (.ret (.ix (.v 1) (.call 5 (.cons (.v 0) (.cons (.bf .len (.cons (.v 1) .nil)) .nil))))) .nil)
def r_law_one : Z.Row := ⟨("_law_one", none), ["_law_deck_here", "_law_items"], ["_law_deck_here", "_law_items"], ⟨2, 2, b_law_one⟩, topS 11⟩
def b_law_sum : Ss := (.cons (.asg (.nm 3) (.call 5 (.cons (.v 0) (.cons (.ifx (.cmp .Gt (.v 2) (.c (.int 0))) (.c (.int 6)) (.c (.int 4))) .nil)))) (.cons (.ite (.cmp .Lt (.v 3) (.c (.int 2))) (.cons (.ret (.call 6 (.cons (.v 0) (.cons (.lst false (.cons (.c (.str "known")) (.cons (.c (.str "secret")) (.cons (.c (.str "secret")) .nil)))) .nil)))) .nil) .nil) (.cons (.ite (.cmp .Eq (.v 3) (.c (.int 2))) (.cons (.ret (.call 5 (.cons (.v 0) (.cons (.c (.int 4)) .nil)))) .nil) .nil) (.cons (.ite (.cmp .Eq (.v 3) (.c (.int 3))) (.cons (.ret (.tup (.cons (.c (.str "cell")) (.cons (.call 5 (.cons (.v 0) (.cons (.v 1) .nil))) .nil)))) .nil) .nil) (.cons (.asg (.nm 4) (.call 6 (.cons (.v 0) (.cons (.lst false (.cons (.c (.str "plus")) (.cons (.c (.str "times")) (.cons (.c (.str "less")) (.cons (.c (.str "same")) (.cons (.c (.str "same")) (.cons (.c (.str "less")) .nil))))))) .nil)))) (.cons (.ret (.tup (.cons (.v 4) (.cons (.call 7 (.cons (.v 0) (.cons (.v 1) (.cons (.op .Sub (.v 2) (.c (.int 1))) .nil)))) (.cons (.call 7 (.cons (.v 0) (.cons (.v 1) (.cons (.op .Sub (.v 2) (.c (.int 1))) .nil)))) .nil))))) .nil))))))
def r_law_sum : Z.Row := ⟨("_law_sum", none), ["_law_deck_here", "_law_wide_here", "_law_depth"], ["_law_deck_here", "_law_wide_here", "_law_depth", "_law_way", "_law_word_here"], ⟨3, 5, b_law_sum⟩, topS 12⟩
def b_law_block : Ss := (.cons (.asg (.nm 4) (.lst true .nil)) (.cons (.for_ (.nm 5) (.rng1 (.cons (.call 5 (.cons (.v 0) (.cons (.c (.int 4)) .nil))) .nil)) (.cons (.ite (.cmp .Gt (.ix (.v 2) (.c (.int 0))) (.c (.int 0))) (.cons (.asg (.sub (.v 2) (.c (.int 0))) (.op .Sub (.ix (.v 2) (.c (.int 0))) (.c (.int 1)))) (.cons (.asg (.nm 6) (.call 5 (.cons (.v 0) (.cons (.ifx (.cmp .Gt (.v 3) (.c (.int 0))) (.c (.int 8)) (.c (.int 5))) .nil)))) (.cons (.ite (.cmp .Lt (.v 6) (.c (.int 3))) (.cons (.ex (.app (.v 4) (.cons (.tup (.cons (.c (.str "do")) (.cons (.call 5 (.cons (.v 0) (.cons (.ix (.v 1) (.c (.int 0))) .nil))) .nil))) .nil))) .nil) (.cons (.ite (.cmp .Lt (.v 6) (.c (.int 5))) (.cons (.ex (.app (.v 4) (.cons (.tup (.cons (.c (.str "set")) (.cons (.call 5 (.cons (.v 0) (.cons (.ix (.v 1) (.c (.int 1))) .nil))) (.cons (.call 7 (.cons (.v 0) (.cons (.ix (.v 1) (.c (.int 1))) (.cons (.c (.int 1)) .nil)))) .nil)))) .nil))) .nil) (.cons (.ite (.bo .And (.cons (.cmp .Eq (.v 6) (.c (.int 7))) (.cons (.cmp .Eq (.v 3) (.c (.int 2))) (.cons (.cmp .Eq (.call 5 (.cons (.v 0) (.cons (.c (.int 2)) .nil))) (.c (.int 0))) .nil)))) (.cons (.ex (.app (.v 4) (.cons (.tup (.cons (.c (.str "stop")) .nil)) .nil))) .nil) (.cons (.asg (.nm 7) (.call 7 (.cons (.v 0) (.cons (.ix (.v 1) (.c (.int 1))) (.cons (.c (.int 1)) .nil))))) (.cons (.asg (.nm 8) (.call 8 (.cons (.v 0) (.cons (.v 1) (.cons (.v 2) (.cons (.op .Sub (.v 3) (.c (.int 1))) .nil)))))) (.cons (.ite (.cmp .Eq (.call 5 (.cons (.v 0) (.cons (.c (.int 6)) .nil))) (.c (.int 0))) (.cons (.asg (.nm 8) (.op .Add (.v 8) (.tup (.cons (.tup (.cons (.c (.str "stop")) .nil)) .nil)))) .nil) .nil) (.cons (.ex (.app (.v 4) (.cons (.tup (.cons (.c (.str "if")) (.cons (.v 7) (.cons (.v 8) (.cons (.call 8 (.cons (.v 0) (.cons (.v 1) (.cons (.v 2) (.cons (.op .Sub (.v 3) (.c (.int 1))) .nil))))) .nil))))) .nil))) .nil))))) .nil)) .nil)) .nil))) .nil) .nil)) (.cons (.ret (.bf .tup (.cons (.v 4) .nil))) .nil)))
def r_law_block : Z.Row := ⟨("_law_block", none), ["_law_deck_here", "_law_shape", "_law_room", "_law_depth"], ["_law_deck_here", "_law_shape", "_law_room", "_law_depth", "_law_found", "_law_turn", "_law_way", "_law_test", "_law_yes"], ⟨4, 9, b_law_block⟩, topS 13⟩
def b_law_program : Ss := (.cons (.par [6, 7, 8] (.cons (.op .Add (.c (.int 1)) (.call 5 (.cons (.v 0) (.cons (.v 1) .nil)))) (.cons (.op .Add (.c (.int 1)) (.call 5 (.cons (.v 0) (.cons (.v 1) .nil)))) (.cons (.op .Add (.c (.int 1)) (.call 5 (.cons (.v 0) (.cons (.v 2) .nil)))) .nil)))) (.cons (.asg (.nm 3) (.call 6 (.cons (.v 0) (.cons (.lst false (.cons (.tup (.cons (.c (.int 2)) .nil)) (.cons (.tup (.cons (.c (.int 3)) .nil)) (.cons (.tup (.cons (.c (.int 2)) (.cons (.c (.int 2)) .nil))) (.cons (.tup (.cons (.c (.int 4)) .nil)) (.cons (.tup (.cons (.c (.int 2)) (.cons (.c (.int 3)) .nil))) .nil)))))) .nil)))) (.cons (.asg (.nm 4) (.lst false (.cons (.v 8) (.cons (.bf .len (.cons (.v 3) .nil)) .nil)))) (.cons (.asg (.nm 5) (.call 8 (.cons (.v 0) (.cons (.v 4) (.cons (.lst true (.cons (.c (.int 10)) .nil)) (.cons (.c (.int 2)) .nil)))))) (.cons (.ite (.cmp .Gt (.call 5 (.cons (.v 0) (.cons (.c (.int 3)) .nil))) (.c (.int 0))) (.cons (.asg (.nm 5) (.op .Add (.v 5) (.tup (.cons (.tup (.cons (.c (.str "if")) (.cons (.call 6 (.cons (.v 0) (.cons (.lst false (.cons (.c (.str "secret")) (.cons (.tup (.cons (.c (.str "same")) (.cons (.c (.str "known")) (.cons (.c (.str "secret")) .nil)))) (.cons (.tup (.cons (.c (.str "cell")) (.cons (.c (.int 0)) .nil))) .nil)))) .nil))) (.cons (.tup (.cons (.tup (.cons (.c (.str "do")) (.cons (.c (.int 0)) .nil))) .nil)) (.cons (.tup .nil) .nil))))) .nil)))) .nil) .nil) (.cons (.ret (.tup (.cons (.v 6) (.cons (.v 7) (.cons (.v 8) (.cons (.v 3) (.cons (.v 5) (.cons (.call 8 (.cons (.v 0) (.cons (.v 4) (.cons (.lst true (.cons (.c (.int 4)) .nil)) (.cons (.c (.int 1)) .nil))))) .nil)))))))) .nil))))))
def r_law_program : Z.Row := ⟨("_law_program", none), ["_law_deck_here", "_law_letters", "_law_works"], ["_law_deck_here", "_law_letters", "_law_works", "_law_cells", "_law_shape", "_law_body", "_law_known", "_law_secret", "_law_wide_here"], ⟨3, 9, b_law_program⟩, topS 14⟩
def b_law_wide : Ss := (.cons (.par [6, 7] (.cons (.call 6 (.cons (.v 0) (.cons (.v 1) .nil))) (.cons (.op .Add (.c (.int 1)) (.call 5 (.cons (.v 0) (.cons (.c (.int 5)) .nil)))) .nil))) (.cons (.asg (.nm 3) (.lst false (.cons (.v 7) (.cons (.bf .len (.cons (.v 6) .nil)) .nil)))) (.cons (.asg (.nm 4) (.call 8 (.cons (.v 0) (.cons (.v 3) (.cons (.lst true (.cons (.c (.int 10)) .nil)) (.cons (.c (.int 2)) .nil)))))) (.cons (.par [8, 9] (.cons (.op .Add (.c (.int 1)) (.call 5 (.cons (.v 0) (.cons (.v 2) .nil)))) (.cons (.op .Add (.c (.int 1)) (.call 5 (.cons (.v 0) (.cons (.v 2) .nil)))) .nil))) (.cons (.asg (.nm 5) (.tup (.cons (.c (.str "if")) (.cons (.tup (.cons (.c (.str "same")) (.cons (.tup (.cons (.c (.str "cell")) (.cons (.op .Sub (.bf .len (.cons (.v 6) .nil)) (.c (.int 1))) .nil))) (.cons (.c (.str "secret")) .nil)))) (.cons (.tup (.cons (.tup (.cons (.c (.str "do")) (.cons (.c (.int 0)) .nil))) .nil)) (.cons (.tup .nil) .nil)))))) (.cons (.ret (.tup (.cons (.v 8) (.cons (.v 9) (.cons (.v 7) (.cons (.v 6) (.cons (.op .Add (.v 4) (.tup (.cons (.v 5) .nil))) (.cons (.call 8 (.cons (.v 0) (.cons (.v 3) (.cons (.lst true (.cons (.c (.int 4)) .nil)) (.cons (.c (.int 1)) .nil))))) .nil)))))))) .nil))))))
def r_law_wide : Z.Row := ⟨("_law_wide", none), ["_law_deck_here", "_law_some", "_law_letters"], ["_law_deck_here", "_law_some", "_law_letters", "_law_shape", "_law_body", "_law_look", "_law_cells", "_law_works", "_law_known", "_law_secret"], ⟨3, 10, b_law_wide⟩, topS 15⟩
def b_law_chain : Ss := (.cons (.asg (.nm 3) (.call 7 (.cons (.v 0) (.cons (.v 1) (.cons (.c (.int 1)) .nil))))) (.cons (.for_ (.nm 4) (.rng1 (.cons (.v 2) .nil)) (.cons (.asg (.nm 5) (.call 6 (.cons (.v 0) (.cons (.lst false (.cons (.call 7 (.cons (.v 0) (.cons (.v 1) (.cons (.c (.int 1)) .nil)))) (.cons (.call 5 (.cons (.v 0) (.cons (.c (.int 10)) .nil))) (.cons (.c (.int 9)) (.cons (.c (.str "secret")) .nil))))) .nil)))) (.cons (.asg (.nm 6) (.call 6 (.cons (.v 0) (.cons (.lst false (.cons (.c (.str "plus")) (.cons (.c (.str "times")) (.cons (.c (.str "plus")) (.cons (.c (.str "times")) (.cons (.c (.str "less")) (.cons (.c (.str "same")) .nil))))))) .nil)))) (.cons (.asg (.nm 3) (.ifx (.cmp .Eq (.call 5 (.cons (.v 0) (.cons (.c (.int 2)) .nil))) (.c (.int 0))) (.tup (.cons (.v 6) (.cons (.v 3) (.cons (.v 5) .nil)))) (.tup (.cons (.v 6) (.cons (.v 5) (.cons (.v 3) .nil)))))) .nil)))) (.cons (.ret (.v 3)) .nil)))
def r_law_chain : Z.Row := ⟨("_law_chain", none), ["_law_deck_here", "_law_wide_here", "_law_levels"], ["_law_deck_here", "_law_wide_here", "_law_levels", "_law_found", "_law_k", "_law_other", "_law_word_here"], ⟨3, 7, b_law_chain⟩, topS 16⟩
def b_law_deeper : Ss := (.cons (.asg (.tup (.cons (.nm 6) (.cons (.nm 7) (.cons (.nm 8) (.cons (.nm 9) (.cons (.nm 5) (.cons (.nm 10) .nil))))))) (.v 1)) (.cons (.par [11, 12] (.cons (.call 11 (.cons (.v 0) (.cons (.bf .len (.cons (.v 9) .nil)) (.cons (.op .Add (.c (.int 1)) (.call 5 (.cons (.v 0) (.cons (.c (.int 6)) .nil)))) .nil)))) (.cons (.call 11 (.cons (.v 0) (.cons (.bf .len (.cons (.v 9) .nil)) (.cons (.c (.int 2)) .nil)))) .nil))) (.cons (.asg (.nm 2) (.call 6 (.cons (.v 0) (.cons (.lst false (.cons (.tup (.cons (.tup (.cons (.c (.str "stop")) .nil)) .nil)) (.cons (.tup (.cons (.tup (.cons (.c (.str "do")) (.cons (.c (.int 0)) .nil))) (.cons (.tup (.cons (.c (.str "stop")) .nil)) .nil))) (.cons (.tup (.cons (.tup (.cons (.c (.str "do")) (.cons (.op .Sub (.v 8) (.c (.int 1))) .nil))) .nil)) .nil)))) .nil)))) (.cons (.for_ (.nm 3) (.rng1 (.cons (.call 5 (.cons (.v 0) (.cons (.c (.int 8)) .nil))) .nil)) (.cons (.asg (.nm 13) (.call 6 (.cons (.v 0) (.cons (.lst false (.cons (.c (.int 1)) (.cons (.c (.str "secret")) (.cons (.tup (.cons (.c (.str "same")) (.cons (.c (.str "known")) (.cons (.c (.str "secret")) .nil)))) (.cons (.tup (.cons (.c (.str "cell")) (.cons (.c (.int 0)) .nil))) .nil))))) .nil)))) (.cons (.asg (.nm 2) (.ifx (.cmp .Eq (.call 5 (.cons (.v 0) (.cons (.c (.int 2)) .nil))) (.c (.int 0))) (.tup (.cons (.tup (.cons (.c (.str "if")) (.cons (.v 13) (.cons (.v 2) (.cons (.tup .nil) .nil))))) .nil)) (.tup (.cons (.tup (.cons (.c (.str "if")) (.cons (.v 13) (.cons (.tup .nil) (.cons (.v 2) .nil))))) .nil)))) .nil))) (.cons (.asg (.nm 4) (.tup (.cons (.tup (.cons (.c (.str "set")) (.cons (.op .Sub (.bf .len (.cons (.v 9) .nil)) (.c (.int 1))) (.cons (.v 11) .nil)))) (.cons (.tup (.cons (.c (.str "if")) (.cons (.v 12) (.cons (.tup (.cons (.tup (.cons (.c (.str "do")) (.cons (.c (.int 0)) .nil))) .nil)) (.cons (.tup (.cons (.tup (.cons (.c (.str "set")) (.cons (.c (.int 0)) (.cons (.c (.int 1)) .nil)))) .nil)) .nil))))) .nil)))) (.cons (.asg (.nm 5) (.call 6 (.cons (.v 0) (.cons (.lst false (.cons (.op .Add (.op .Add (.v 5) (.v 4)) (.v 2)) (.cons (.op .Add (.v 4) (.v 5)) (.cons (.op .Add (.op .Add (.v 2) (.v 5)) (.v 4)) .nil)))) .nil)))) (.cons (.ret (.tup (.cons (.v 6) (.cons (.v 7) (.cons (.v 8) (.cons (.v 9) (.cons (.v 5) (.cons (.v 10) .nil)))))))) .nil)))))))
def r_law_deeper : Z.Row := ⟨("_law_deeper", none), ["_law_deck_here", "_law_program_here"], ["_law_deck_here", "_law_program_here", "_law_inner", "_law_k", "_law_more", "_law_body", "_law_known", "_law_secret", "_law_works", "_law_sizes", "_law_tail", "_law_one_here", "_law_other", "_law_test"], ⟨2, 14, b_law_deeper⟩, topS 17⟩
def b_law_value : Ss := (.cons (.ite (.tru (.isi (.v 0) .int)) (.cons (.ret (.v 0)) .nil) .nil) (.cons (.ite (.tru (.isi (.v 0) .str)) (.cons (.ret (.ifx (.cmp .Eq (.v 0) (.c (.str "known"))) (.v 1) (.v 2))) .nil) .nil) (.cons (.ite (.cmp .Eq (.ix (.v 0) (.c (.int 0))) (.c (.str "cell"))) (.cons (.ret (.ix (.v 3) (.ix (.v 0) (.c (.int 1))))) .nil) .nil) (.cons (.par [4, 5] (.cons (.call 13 (.cons (.ix (.v 0) (.c (.int 1))) (.cons (.v 1) (.cons (.v 2) (.cons (.v 3) .nil))))) (.cons (.call 13 (.cons (.ix (.v 0) (.c (.int 2))) (.cons (.v 1) (.cons (.v 2) (.cons (.v 3) .nil))))) .nil))) (.cons (.ret (.dsel ["plus", "times", "less", "same"] (.cons (.op .Add (.v 4) (.v 5)) (.cons (.op .Mult (.v 4) (.v 5)) (.cons (.bf .int (.cons (.cmp .Lt (.v 4) (.v 5)) .nil)) (.cons (.bf .int (.cons (.cmp .Eq (.v 4) (.v 5)) .nil)) .nil)))) (.ix (.v 0) (.c (.int 0))))) .nil)))))
def r_law_value : Z.Row := ⟨("_law_value", none), ["_law_formula", "_law_known", "_law_secret", "_law_cells"], ["_law_formula", "_law_known", "_law_secret", "_law_cells", "_law_one_here", "_law_other"], ⟨4, 6, b_law_value⟩, topS 18⟩
def b_law_go : Ss := (.cons (.for_ (.nm 5) (.seq (.v 0)) (.cons (.ite (.cmp .Eq (.ix (.v 5) (.c (.int 0))) (.c (.str "stop"))) (.cons (.ret (.c (.bl true))) .nil) .nil) (.cons (.ite (.cmp .Eq (.ix (.v 5) (.c (.int 0))) (.c (.str "do"))) (.cons (.augS (.v 3) (.ix (.v 5) (.c (.int 1))) .Add (.c (.int 1))) .nil) (.cons (.ite (.cmp .Eq (.ix (.v 5) (.c (.int 0))) (.c (.str "set"))) (.cons (.asg (.sub (.v 4) (.ix (.v 5) (.c (.int 1)))) (.op .Mod (.call 13 (.cons (.ix (.v 5) (.c (.int 2))) (.cons (.ix (.v 2) (.c (.int 0))) (.cons (.ix (.v 2) (.c (.int 1))) (.cons (.v 4) .nil))))) (.ix (.v 1) (.ix (.v 5) (.c (.int 1)))))) .nil) (.cons (.asg (.nm 6) (.ifx (.cmp .NotEq (.call 13 (.cons (.ix (.v 5) (.c (.int 1))) (.cons (.ix (.v 2) (.c (.int 0))) (.cons (.ix (.v 2) (.c (.int 1))) (.cons (.v 4) .nil))))) (.c (.int 0))) (.c (.int 2)) (.c (.int 3)))) (.cons (.ite (.tru (.call 14 (.cons (.ix (.v 5) (.v 6)) (.cons (.v 1) (.cons (.v 2) (.cons (.v 3) (.cons (.v 4) .nil))))))) (.cons (.ret (.c (.bl true))) .nil) .nil) .nil))) .nil)) .nil))) (.cons (.ret (.c (.bl false))) .nil))
def r_law_go : Z.Row := ⟨("_law_go", none), ["_law_block_here", "_law_sizes", "_law_letters", "_law_counts", "_law_cells"], ["_law_block_here", "_law_sizes", "_law_letters", "_law_counts", "_law_cells", "_law_statement", "_law_way"], ⟨5, 7, b_law_go⟩, topS 19⟩
def b_law_run : Ss := (.cons (.asg (.tup (.cons (.nm 5) (.cons (.nm 6) (.cons (.nm 7) (.cons (.nm 8) .nil))))) (.sl (.v 0) (.some (.c (.int 2))) .none)) (.cons (.par [9, 10] (.cons (.opM .Mult (.lst false (.cons (.c (.int 0)) .nil)) (.v 5)) (.cons (.opM .Mult (.lst false (.cons (.c (.int 0)) .nil)) (.bf .len (.cons (.v 6) .nil))) .nil))) (.cons (.for_ (.nm 3) (.rng1 (.cons (.bf .len (.cons (.v 1) .nil)) .nil)) (.cons (.ite (.tru (.call 14 (.cons (.v 7) (.cons (.v 6) (.cons (.tup (.cons (.bf .int (.cons (.ix (.v 1) (.v 3)) .nil)) (.cons (.bf .int (.cons (.ix (.v 2) (.v 3)) .nil)) .nil))) (.cons (.v 9) (.cons (.v 10) .nil))))))) (.cons (.ret (.tup (.cons (.bf .tup (.cons (.v 9) .nil)) (.cons (.bf .tup (.cons (.v 10) .nil)) (.cons (.c (.bl true)) .nil))))) .nil) .nil) .nil)) (.cons (.asg (.nm 4) (.call 14 (.cons (.v 8) (.cons (.v 6) (.cons (.tup (.cons (.c (.int 0)) (.cons (.c (.int 0)) .nil))) (.cons (.v 9) (.cons (.v 10) .nil))))))) (.cons (.ret (.tup (.cons (.bf .tup (.cons (.v 9) .nil)) (.cons (.bf .tup (.cons (.v 10) .nil)) (.cons (.v 4) .nil))))) .nil)))))
def r_law_run : Z.Row := ⟨("_law_run", none), ["_law_program_here", "_law_known", "_law_secret"], ["_law_program_here", "_law_known", "_law_secret", "_law_k", "_law_stopped", "_law_works", "_law_sizes", "_law_body", "_law_tail", "_law_counts", "_law_cells"], ⟨3, 11, b_law_run⟩, topS 20⟩
def b_law_time : Ss := (.cons (.ret (.bf .sum (.cons (.lc false (.tup (.cons (.nm 4) (.cons (.nm 5) .nil))) (.zip (.cons (.ix (.call 15 (.cons (.v 0) (.cons (.v 2) (.cons (.v 3) .nil)))) (.c (.int 0))) (.cons (.v 1) .nil))) .none (.op .Mult (.v 4) (.v 5)) [("_law_count", 4), ("_law_cost", 5)]) .nil))) .nil)
def r_law_time : Z.Row := ⟨("_law_time", none), ["_law_program_here", "_law_book", "_law_known", "_law_secret"], ["_law_program_here", "_law_book", "_law_known", "_law_secret", "_law_count", "_law_cost"], ⟨4, 6, b_law_time⟩, topS 21⟩
def b_law_word : Ss := (.cons (.ret (.sm .join (.c (.str "")) (.lc false (.nm 3) (.rng1 (.cons (.v 2) .nil)) .none (.call 6 (.cons (.v 0) (.cons (.sl (.c (.str "012")) .none (.some (.v 1))) .nil))) [("_law_k", 3)]))) .nil)
def r_law_word : Z.Row := ⟨("_law_word", none), ["_law_deck_here", "_law_letters", "_law_size"], ["_law_deck_here", "_law_letters", "_law_size", "_law_k"], ⟨3, 4, b_law_word⟩, topS 22⟩
def b_law : Ss := (.cons (.asg (.nm 1) (.call 4 (.cons (.v 0) .nil))) (.cons (.for_ (.nm 2) (.rng1 (.cons (.c (.int 8)) .nil)) (.cons (.asg (.nm 3) (.ifx (.cmp .Lt (.v 2) (.c (.int 3))) (.call 10 (.cons (.v 1) (.cons (.lst false (.cons (.tup (.cons (.c (.int 2)) (.cons (.c (.int 2)) (.cons (.c (.int 2)) .nil)))) (.cons (.tup (.cons (.c (.int 2)) (.cons (.c (.int 3)) (.cons (.c (.int 4)) .nil)))) (.cons (.tup (.cons (.c (.int 2)) (.cons (.c (.int 2)) (.cons (.c (.int 2)) (.cons (.c (.int 3)) .nil))))) .nil)))) (.cons (.c (.int 3)) .nil)))) (.call 9 (.cons (.v 1) (.cons (.c (.int 3)) (.cons (.c (.int 5)) .nil)))))) (.cons (.ite (.cmp .Eq (.op .Mod (.v 2) (.c (.int 2))) (.c (.int 0))) (.cons (.asg (.nm 3) (.call 12 (.cons (.v 1) (.cons (.v 3) .nil)))) .nil) .nil) (.cons (.for_ (.nm 4) (.seq (.tup (.cons (.c (.int 0)) (.cons (.c (.int 1)) (.cons (.c (.int 2)) (.cons (.call 5 (.cons (.v 1) (.cons (.c (.int 9)) .nil))) (.cons (.call 6 (.cons (.v 1) (.cons (.lst false (.cons (.c (.int 20)) (.cons (.c (.int 90)) (.cons (.c (.int 200)) .nil)))) .nil))) .nil))))))) (.cons (.par [7, 8] (.cons (.call 17 (.cons (.v 1) (.cons (.ix (.v 3) (.c (.int 0))) (.cons (.v 4) .nil)))) (.cons (.call 17 (.cons (.v 1) (.cons (.ix (.v 3) (.c (.int 1))) (.cons (.v 4) .nil)))) .nil))) (.cons (.asg (.nm 5) (.bf .tup (.cons (.lc false (.nm 9) (.rng1 (.cons (.ix (.v 3) (.c (.int 2))) .nil)) .none (.call 6 (.cons (.v 1) (.cons (.lst false (.cons (.c (.int 0)) (.cons (.c (.int 1)) (.cons (.call 5 (.cons (.v 1) (.cons (.c (.int 9)) .nil))) (.cons (.op .Pow (.c (.int 10)) (.c (.int 6))) .nil))))) .nil))) [("_law_k", 9)]) .nil))) (.cons (.asg (.nm 6) (.lst false (.cons (.call 1 (.cons (.v 3) (.cons (.v 7) (.cons (.v 8) .nil)))) (.cons (.call 3 (.cons (.v 3) (.cons (.v 5) (.cons (.v 7) (.cons (.v 8) .nil))))) .nil)))) (.cons (.ite (.cmp .NotEq (.bf .repr (.cons (.v 6) .nil)) (.bf .repr (.cons (.lst false (.cons (.call 15 (.cons (.v 3) (.cons (.v 7) (.cons (.v 8) .nil)))) (.cons (.call 16 (.cons (.v 3) (.cons (.v 5) (.cons (.v 7) (.cons (.v 8) .nil))))) .nil))) .nil))) (.cons (.ret (.c (.bl false))) .nil) .nil) .nil))))) .nil)))) (.cons (.ret (.c (.bl true))) .nil)))
def r_law : Z.Row := ⟨("law", none), ["_law_script"], ["_law_script", "_law_deck_here", "_law_turn", "_law_program_here", "_law_size", "_law_book", "_law_told", "_law_known", "_law_secret", "_law_k"], ⟨1, 10, b_law⟩, topS 24⟩
def b_Stand_init : Ss := (.cons (.setf (.v 0) "counts" (.opM .Mult (.lst false (.cons (.c (.int 0)) .nil)) (.v 1))) (.cons (.setf (.v 0) "cells" (.lstC (.v 2))) (.cons (.setf (.v 0) "stopped" (.c (.bl false))) .nil)))
def r_Stand_init : Z.Row := ⟨("Stand", some "__init__"), ["self", "works", "cells"], ["self", "works", "cells"], ⟨3, 3, b_Stand_init⟩, mthS 4 0⟩
def b_Stand_go : Ss := (.cons (.for_ (.nm 5) (.seq (.v 1)) (.cons (.ite (.tru (.fld (.v 0) "stopped")) (.cons .retN .nil) .nil) (.cons (.ex (.mth (.v 0) "do" (.cons (.v 5) (.cons (.v 2) (.cons (.v 3) (.cons (.v 4) .nil)))))) .nil))) .nil)
def r_Stand_go : Z.Row := ⟨("Stand", some "go"), ["self", "block", "sizes", "known", "secret"], ["self", "block", "sizes", "known", "secret", "statement"], ⟨5, 6, b_Stand_go⟩, mthS 4 1⟩
def b_Stand_do : Ss := (.cons (.asg (.nm 5) (.ix (.v 1) (.c (.int 0)))) (.cons (.ite (.cmp .Eq (.v 5) (.c (.str "do"))) (.cons (.augS (.fld (.v 0) "counts") (.ix (.v 1) (.c (.int 1))) .Add (.c (.int 1))) .nil) (.cons (.ite (.cmp .Eq (.v 5) (.c (.str "set"))) (.cons (.asg (.nm 6) (.ix (.v 1) (.c (.int 1)))) (.cons (.asg (.sub (.fld (.v 0) "cells") (.v 6)) (.op .Mod (.call 0 (.cons (.ix (.v 1) (.c (.int 2))) (.cons (.v 3) (.cons (.v 4) (.cons (.fld (.v 0) "cells") .nil))))) (.ix (.v 2) (.v 6)))) .nil)) (.cons (.ite (.cmp .Eq (.v 5) (.c (.str "if"))) (.cons (.asg (.nm 7) (.call 0 (.cons (.ix (.v 1) (.c (.int 1))) (.cons (.v 3) (.cons (.v 4) (.cons (.fld (.v 0) "cells") .nil)))))) (.cons (.ex (.mth (.v 0) "go" (.cons (.ifx (.cmp .NotEq (.v 7) (.c (.int 0))) (.ix (.v 1) (.c (.int 2))) (.ix (.v 1) (.c (.int 3)))) (.cons (.v 2) (.cons (.v 3) (.cons (.v 4) .nil)))))) .nil)) (.cons (.setf (.v 0) "stopped" (.c (.bl true))) .nil)) .nil)) .nil)) .nil))
def r_Stand_do : Z.Row := ⟨("Stand", some "do"), ["self", "statement", "sizes", "known", "secret"], ["self", "statement", "sizes", "known", "secret", "word", "cell", "value"], ⟨5, 8, b_Stand_do⟩, mthS 4 2⟩
def rows : List Z.Row := [r_value_of, r_run, r_product, r_time, r_law_deck, r_law_draw, r_law_one, r_law_sum, r_law_block, r_law_program, r_law_wide, r_law_chain, r_law_deeper, r_law_value, r_law_go, r_law_run, r_law_time, r_law_word, r_law, r_Stand_init, r_Stand_go, r_Stand_do]
def cls : List CRow := [("Stand", ["counts", "cells", "stopped"], [("__init__", 19), ("go", 20), ("do", 21)])]
def loose0 : List Str := ["KNOWN", "SECRET", "value_of", "Stand", "run", "product", "time", "_law_deck", "_law_draw", "_law_one", "_law_sum", "_law_block", "_law_program", "_law_wide", "_law_chain", "_law_deeper", "_law_value", "_law_go", "_law_run", "_law_time"]
def loose1 : List Str := ["_law_word", "_law_words"]
def loose : List Str := loose0 ++ loose1
def C : Tab := tabOf rows gl cls
def T : List Fn := rows.map Z.Row.fn
def G : Ev := (tabOf rows gl cls).G
theorem ok_r_value_of : rowOk C r_value_of = true := by decide +kernel
theorem ok_r_run : rowOk C r_run = true := by decide +kernel
theorem ok_r_product : rowOk C r_product = true := by decide +kernel
theorem ok_r_time : rowOk C r_time = true := by decide +kernel
theorem ok_r_law_deck : rowOk C r_law_deck = true := by decide +kernel
theorem ok_r_law_draw : rowOk C r_law_draw = true := by decide +kernel
theorem ok_r_law_one : rowOk C r_law_one = true := by decide +kernel
theorem ok_r_law_sum : rowOk C r_law_sum = true := by decide +kernel
theorem ok_r_law_block : rowOk C r_law_block = true := by decide +kernel
theorem ok_r_law_program : rowOk C r_law_program = true := by decide +kernel
theorem ok_r_law_wide : rowOk C r_law_wide = true := by decide +kernel
theorem ok_r_law_chain : rowOk C r_law_chain = true := by decide +kernel
theorem ok_r_law_deeper : rowOk C r_law_deeper = true := by decide +kernel
theorem ok_r_law_value : rowOk C r_law_value = true := by decide +kernel
theorem ok_r_law_go : rowOk C r_law_go = true := by decide +kernel
theorem ok_r_law_run : rowOk C r_law_run = true := by decide +kernel
theorem ok_r_law_time : rowOk C r_law_time = true := by decide +kernel
theorem ok_r_law_word : rowOk C r_law_word = true := by decide +kernel
theorem ok_r_law : rowOk C r_law = true := by decide +kernel
theorem ok_r_Stand_init : rowOk C r_Stand_init = true := by decide +kernel
theorem ok_r_Stand_go : rowOk C r_Stand_go = true := by decide +kernel
theorem ok_r_Stand_do : rowOk C r_Stand_do = true := by decide +kernel
end K23

namespace K23
open PySem PySem.Spec PyProof.Rows L2 Z
def ix : Ix := { value_of := 0, run := 1, product := 2, time := 3, law_deck := 4, law_draw := 5, law_one := 6, law_sum := 7, law_block := 8, law_program := 9, law_wide := 10, law_chain := 11, law_deeper := 12, law_value := 13, law_go := 14, law_run := 15, law_time := 16, law_word := 17, Stand_init := 19, Stand_go := 20, Stand_do := 21, gKNOWN := 0, gSECRET := 1, c0 := 0 }
theorem FA : FamA T ix := ⟨rfl, rfl, rfl, rfl, rfl, rfl⟩
theorem VA : ValA T G ix := ⟨rfl, rfl, rfl⟩
theorem SA : StdA T G ix := ⟨rfl, rfl, rfl, by decide +kernel, by decide +kernel, by decide +kernel, by kernel_rfl, by kernel_rfl, by kernel_rfl⟩
theorem GA : GoL T ix := ⟨rfl, rfl⟩
theorem Trun : T[ix.run]? = some ⟨3, 10, B_run ix⟩ := rfl
theorem Tproduct : T[ix.product]? = some ⟨2, 4, B_product ix⟩ := rfl
theorem Ttime : T[ix.time]? = some ⟨4, 4, B_time ix⟩ := rfl
theorem Tlrun : T[ix.law_run]? = some ⟨3, 11, B_law_run ix⟩ := rfl
theorem Tltime : T[ix.law_time]? = some ⟨4, 6, B_law_time ix⟩ := rfl
theorem Tword : T[ix.law_word]? = some ⟨3, 4, B_law_word ix⟩ := rfl
theorem Tchain : T[ix.law_chain]? = some ⟨3, 7, B_law_chain ix⟩ := rfl
theorem Tdeeper : T[ix.law_deeper]? = some ⟨2, 14, B_law_deeper ix⟩ := rfl
def tuB : Ss := forBody (b_law.at 1)
def szB : Ss := forBody (tuB.at 2)
def bkE : E := (.call 6 (.cons (.v 1) (.cons (.lst false (.cons (.c (.int 0)) (.cons (.c (.int 1)) (.cons (.call 5 (.cons (.v 1) (.cons (.c (.int 9)) .nil))) (.cons (.op .Pow (.c (.int 10)) (.c (.int 6))) .nil))))) .nil)))
theorem bk_lc {sw : Sl} (h1 : sw[1]? = some (some (.loc 1))) : ∀ (ds : List D) (S : Sto) (n : Int), Dk S 0 1 n → 0 ≤ n → n + 2 * ds.length < 900000 →
    ∃ (bk : List Int) (S' : Sto), lcL (gNm 9) mYes (dE G (Z.run T G 0 30) bkE) sw ds S = .ok (bk.map D.int) S' ∧ (∀ y ∈ bk, 0 ≤ y ∧ y ≤ 1000000) ∧ Dk S' 0 1 (n + 2 * ds.length) ∧ ∀ X, Kp S S' X
  | [], S, n, h, _, _ => ⟨[], S, rfl, by simp, by simpa using h, fun X => Kp.refl _ _⟩
  | d :: ds, S, n, h, hn, hl => by
    simp only [List.length_cons] at hl
    obtain ⟨r, S1, e1, l1, d1, k1⟩ := drw (G := G) (wf := 0) FA (k := 29) (m := 9) h hn (by omega) (by decide) (by decide)
    obtain ⟨o, S2, e2, m2, d2, k2⟩ := one (G := G) (wf := 0) FA (k := 28) (xs := [.int 0, .int 1, .int r, .int 1000000]) d1 (by omega) (by omega) (by simp) (by simp)
    have ho : ∃ i : Int, o = .int i ∧ 0 ≤ i ∧ i ≤ 1000000 := by
      simp only [List.mem_cons, List.not_mem_nil, or_false] at m2
      rcases m2 with rfl | rfl | rfl | rfl
      · exact ⟨0, rfl, by decide, by decide⟩
      · exact ⟨1, rfl, by decide, by decide⟩
      · exact ⟨r, rfl, by omega, by omega⟩
      · exact ⟨1000000, rfl, by decide, by decide⟩
    obtain ⟨i, rfl, i1, i2⟩ := ho
    obtain ⟨bk, S3, e3, m3, d3, k3⟩ := bk_lc h1 ds S2 (n + 1 + 1) d2 (by omega) (by omega)
    refine ⟨i :: bk, S3, ?_, fun y hy => ?_, ?_, fun X => ((k1 X).trans (k2 X)).trans (k3 X)⟩
    · rw [lcL]
      have g : gNm 9 d sw S = some (sw.set 9 (some d), S) := rfl
      have v1 : (sw.set 9 (some d))[1]? = some (some (.loc 1)) := by rw [List.getElem?_set_ne (by decide)]; exact h1
      have e1' : run T G 0 30 5 [.loc 1, .int 9] S = .ok (.int r) S1 := e1
      have e2' : run T G 0 30 6 [.loc 1, .lst [.int 0, .int 1, .int r, .int 1000000]] S1 = .ok (.int i) S2 := e2
      have pw : ∀ S : Sto, intP powI S (.int 10) (.int 6) = some (.int 1000000) := fun _ => by simp [intP, powI]
      have ee : dE G (Z.run T G 0 30) bkE (sw.set 9 (some d)) S = .ok (.int i) S2 := by
        simp [bkE, q_mVar v1, e1', e2', pw]
      simp only [g, q_mYes, ee, e3, List.map_cons]
    · rcases List.mem_cons.mp hy with rfl | hy
      · exact ⟨i1, i2⟩
      · exact m3 y hy
    · rw [List.length_cons, show n + 2 * ((ds.length + 1 : Nat) : Int) = n + 1 + 1 + 2 * ds.length by omega]; exact d3
/-- a program that the law may run -/
structure Good (P : Prog) : Prop where
  fit : Fit 26 P
  kn : 1 ≤ P.kn ∧ P.kn ≤ 3
  se : 1 ≤ P.se ∧ P.se ≤ 3
  p : 1 ≤ P.p ∧ P.p ≤ 5
  cl : P.cells.length ≤ 10
  nd : P.body.nd ≤ 1000
  td : P.tail.nd ≤ 1000
theorem Good.up {P : Prog} (g : Good P) {m : Nat} (h : 26 ≤ m) : Fit m P := ⟨g.fit.p, g.fit.cl, g.fit.sz, g.fit.bok, g.fit.tok, Nat.le_trans g.fit.bm h, Nat.le_trans g.fit.tm h, g.fit.bf, g.fit.tf⟩
theorem zip_k {ws us : List Nat} (h : ws.length = us.length) : Wd.k (ws.zip us) = wS ws := by
  unfold Wd.k; rw [List.map_fst_zip (by omega)]
theorem zip_s {ws us : List Nat} (h : ws.length = us.length) : Wd.s (ws.zip us) = wS us := by
  unfold Wd.s; rw [List.map_snd_zip (by omega)]
theorem lst2 {G : Ev} {C : Nat → List D → Sto → Out D} {sd : Sl} {S S1 S2 : Sto} {e e2 : E} {a b : D} (h1 : dE G C e sd S = .ok a S1) (h2 : dE G C e2 sd S1 = .ok b S2) : dE G C (.lst false (.cons e (.cons e2 .nil))) sd S = .ok (.lst [a, b]) S2 := by
  rw [q_elstF, q_mLst, dl2 h1 h2]
  rfl
theorem rep_same {G : Ev} {C : Nat → List D → Sto → Out D} {wf : Nat} {sd : Sl} {S S2 : Sto} {e e2 : E} {a : D} {s : Str} {r : Ss} (h1 : dE G C e sd S = .ok a S) (h2 : dE G C e2 sd S = .ok a S2) (h3 : ∀ S, reprD S a = some (.str s)) :
    dS G C wf (.ite (.cmp .NotEq (.bf .repr (.cons e .nil)) (.bf .repr (.cons e2 .nil))) r .nil) sd S = .ok .nx sd S2 := by
  simp [h1, h2, h3]
theorem sz_st {P : Prog} (g : Good P) {z : Nat} (hz : z ≤ 200) {S : Sto} {n : Int} (h : Dk S 0 1 n) (hn : 0 ≤ n) (hn2 : n < 500000) {v0 v2 : Option D} {x5 x6 x7 x8 : Option D} :
    ∃ (y5 y6 y7 y8 : Option D) (S' : Sto) (n' : Int), dSs G (Z.run T G 0 30) 0 szB [v0, some (.loc 1), v2, some P.d, some (.int z), x5, x6, x7, x8, none] S = .ok .nx [v0, some (.loc 1), v2, some P.d, some (.int z), y5, y6, y7, y8, none] S' ∧ Dk S' 0 1 n' ∧ n ≤ n' ∧ n' ≤ n + 500 := by
  obtain ⟨ws, S1, e1, l1, m1, d1, k1⟩ := word_ok (G := G) (wf := 0) FA Tword (k := 27) (L := P.kn) (z := z) g.kn (by omega) h hn (by omega)
  obtain ⟨us, S2, e2, l2, m2, d2, k2⟩ := word_ok (G := G) (wf := 0) FA Tword (k := 27) (L := P.se) (z := z) g.se (by omega) d1 (by omega) (by omega)
  have hlen : ws.length = us.length := by omega
  have hW : Wd (ws.zip us) := ⟨by simp; omega, fun q hq => by
    obtain ⟨h1, h2⟩ := List.of_mem_zip (a := q.1) (b := q.2) hq
    have := m1 _ h1
    have := m2 _ h2
    have := g.kn
    have := g.se
    omega⟩
  have ek := zip_k hlen
  have es := zip_s hlen
  let ps := ws.zip us
  have ix0 : ∀ S : Sto, ixP S P.d (.int 0) = some (.int P.kn) := fun _ => rfl
  have ix1 : ∀ S : Sto, ixP S P.d (.int 1) = some (.int P.se) := fun _ => rfl
  have ix2 : ∀ S : Sto, ixP S P.d (.int 2) = some (.int P.p) := fun _ => rfl
  let sd1 : Sl := [v0, some (.loc 1), v2, some P.d, some (.int z), x5, x6, some (.str (wS ws)), some (.str (wS us)), none]
  have e1' : Z.run T G 0 30 17 [.loc 1, .int P.kn, .int z] S = .ok (.str (wS ws)) S1 := e1
  have e2' : Z.run T G 0 30 17 [.loc 1, .int P.se, .int z] S1 = .ok (.str (wS us)) S2 := e2
  obtain ⟨bk, S3, e3, m3, d3, k3⟩ := bk_lc (sw := sd1) rfl ((List.range' 0 P.p).map fun (i : Nat) => D.int i) S2 (n + z + z) d2 (by omega) (by have := g.p; simp; omega)
  simp only [List.length_map, List.length_range'] at d3
  let sd2 : Sl := [v0, some (.loc 1), v2, some P.d, some (.int z), some (.tup (bk.map D.int)), x6, some (.str (wS ws)), some (.str (wS us)), none]
  have hbk : ∀ y ∈ bk, 0 ≤ y ∧ y < 10000000 := fun y hy => by have := m3 y hy; omega
  have hcl : (P.run ps).cnt.length ≤ 1000000 := by rw [(Prog.run_ok g.fit.sz ps).cnt]; have := g.p; omega
  obtain ⟨S4, e4, p4⟩ := rn_ok (G := G) (wf := 0) VA SA Trun (m := 28) (g.up (by decide)) hW S3
  obtain ⟨S5, e5, p5⟩ := tm_ok (G := G) (wf := 0) VA SA Trun Tproduct Ttime (m := 27) (g.up (by decide)) hW hbk hcl S4
  obtain ⟨S6, e6, p6⟩ := lr_ok (G := G) (wf := 0) GA Tlrun (m := 29) (g.up (by decide)) hW S5
  obtain ⟨S7, e7, p7⟩ := lt_ok (G := G) (wf := 0) GA Tlrun Tltime (m := 28) (g.up (by decide)) hW hbk hcl S6
  rw [ek, es] at e4 e5 e6 e7
  have rok := Prog.run_ok g.fit.sz ps
  have rnd := Prog.run_nd (P := P) (ps := ps)
  have tb := time_bd rnd.1 m3 (by decide)
  have hsum : (P.run ps).cnt.sum ≤ 300000 := by
    have h1 := rnd.2
    have h2 : ps.length ≤ 200 := by simp [ps]; omega
    have h3 : ps.length * P.body.nd ≤ 200 * 1000 := Nat.mul_le_mul h2 g.nd
    have := g.td
    omega
  have rp : ∀ S, reprD S (.lst [(P.run ps).d, .int ((P.run ps).time bk)]) = some (.str (toldP (P.run ps) ((P.run ps).time bk)).shown) := fun S => repr_told
    (fun i hi => ⟨rnd.1 i hi, by have := nn_le rnd.1 i hi; omega⟩) (fun i hi => by have := rok.bd i hi; exact ⟨this.1, by omega⟩)
    ⟨tb.1, by
      have : (P.run ps).cnt.sum * 1000000 ≤ 300000 * 1000000 := Int.mul_le_mul_of_nonneg_right hsum (by decide)
      have := tb.2
      unfold Rn.time
      omega⟩ (by rw [rok.cnt]; have := g.p; omega) (by rw [rok.cel, sz_len]; have := g.cl; omega)
  have e4' : Z.run T G 0 30 1 [P.d, .str (wS ws), .str (wS us)] S3 = .ok (P.run ps).d S4 := e4
  have e5' : Z.run T G 0 30 3 [P.d, .tup (bk.map D.int), .str (wS ws), .str (wS us)] S4 = .ok (.int ((P.run ps).time bk)) S5 := e5
  have e6' : Z.run T G 0 30 15 [P.d, .str (wS ws), .str (wS us)] S5 = .ok (P.run ps).d S6 := e6
  have e7' : Z.run T G 0 30 16 [P.d, .tup (bk.map D.int), .str (wS ws), .str (wS us)] S6 = .ok (.int ((P.run ps).time bk)) S7 := e7
  clear_value ps
  generalize (P.run ps).time bk = t at *
  generalize (P.run ps).d = rd at *
  generalize (toldP (P.run ps) t).shown = sh at *
  let sd3 : Sl := [v0, some (.loc 1), v2, some P.d, some (.int z), some (.tup (bk.map D.int)), some (.lst [rd, .int t]), some (.str (wS ws)), some (.str (wS us)), none]
  have pp : Pre S3 S7 := ((p4.trans p5).trans p6).trans p7
  clear e1 e2 e4 e5 e6 e7
  generalize Z.run T G 0 30 = C at *
  have s0 : dS G C 0 (szB.at 0) [v0, some (.loc 1), v2, some P.d, some (.int z), x5, x6, x7, x8, none] S = .ok .nx sd1 S2 := by
    have w1 : dE G C (.call 17 (.cons (.v 1) (.cons (.ix (.v 3) (.c (.int 0))) (.cons (.v 4) .nil)))) [v0, some (.loc 1), v2, some P.d, some (.int z), x5, x6, x7, x8, none] S = .ok (.str (wS ws)) S1 := by simp [ix0, e1']
    have w2 : dE G C (.call 17 (.cons (.v 1) (.cons (.ix (.v 3) (.c (.int 1))) (.cons (.v 4) .nil)))) [v0, some (.loc 1), v2, some P.d, some (.int z), x5, x6, x7, x8, none] S1 = .ok (.str (wS us)) S2 := by simp [ix1, e2']
    exact par_2 (i := 7) (j := 8) w1 w2
  have s1 : dS G C 0 (szB.at 1) sd1 S2 = .ok .nx sd2 S3 := by
    have go := lc_list (sta_vals _) (by have := g.p; simp; omega) e3
    have it : dI G C (.rng1 (.cons (.ix (.v 3) (.c (.int 2))) .nil)) sd1 S2 = .ok (.vals ((List.range' 0 P.p).map fun (i : Nat) => D.int i)) S2 := by
      have := rng_l (q := P.p) (by have := g.p; omega)
      simp [sd1, ix2, this]
    have Lc : dE G C (.lc false (.nm 9) (.rng1 (.cons (.ix (.v 3) (.c (.int 2))) .nil)) .none bkE [("_law_k", 9)]) sd1 S2 = .ok (.lst (bk.map D.int)) S3 := by
      rw [q_elcF, q_mLc, q_mLcL, it]
      simp only []
      rw [show wipeD sd1 (List.map (fun q => q.2) [(("_law_k" : Str), 9)]) = sd1 from rfl, q_gnm, q_cN]
      exact (congrArg (fun o => match o with | Out.ok acc S2 => Out.ok (D.lst acc) S2 | .exc c fs S0 => .exc c fs S0 | .bad => .bad) go)
    have tp : tupD S3 (.lst (bk.map D.int)) = some (.tup (bk.map D.int)) := rfl
    show dS G C 0 (.asg (.nm 5) (.bf .tup (.cons (.lc false (.nm 9) (.rng1 (.cons (.ix (.v 3) (.c (.int 2))) .nil)) .none bkE [("_law_k", 9)]) .nil))) sd1 S2 = _
    have e : dE G C (.bf .tup (.cons (.lc false (.nm 9) (.rng1 (.cons (.ix (.v 3) (.c (.int 2))) .nil)) .none bkE [("_law_k", 9)]) .nil)) sd1 S2 = .ok (.tup (bk.map D.int)) S3 := by
      rw [q_ebf, q_mCall, q_lcons, q_mCons, Lc]
      simp [tp]
    rw [q_sasg, q_gnm, asg_ok e]
    rfl
  have s2 : dS G C 0 (szB.at 2) sd2 S3 = .ok .nx sd3 S5 := by
    have w1 : dE G C (.call 1 (.cons (.v 3) (.cons (.v 7) (.cons (.v 8) .nil)))) sd2 S3 = .ok rd S4 := by simp [sd2, e4']
    have w2 : dE G C (.call 3 (.cons (.v 3) (.cons (.v 5) (.cons (.v 7) (.cons (.v 8) .nil))))) sd2 S4 = .ok (.int t) S5 := by simp [sd2, e5']
    exact asg_ok (i := 6) (lst2 w1 w2)
  have s3 : dS G C 0 (szB.at 3) sd3 S5 = .ok .nx sd3 S7 := by
    have w1 : dE G C (.call 15 (.cons (.v 3) (.cons (.v 7) (.cons (.v 8) .nil)))) sd3 S5 = .ok rd S6 := by simp [sd3, e6']
    have w2 : dE G C (.call 16 (.cons (.v 3) (.cons (.v 5) (.cons (.v 7) (.cons (.v 8) .nil))))) sd3 S6 = .ok (.int t) S7 := by simp [sd3, e7']
    have w3 : dE G C (.v 6) sd3 S5 = .ok (.lst [rd, .int t]) S5 := by simp [sd3]
    exact rep_same w3 (lst2 w1 w2) rp
  refine ⟨some (.tup (bk.map D.int)), some (.lst [rd, .int t]), some (.str (wS ws)), some (.str (wS us)), S7, n + z + z + 2 * (P.p : Int), ?_, pp.dk d3, by omega, by have := g.p; omega⟩
  rw [stp0 rfl s0, stp rfl s1, stp rfl s2, stp rfl s3]
  rfl
end K23

namespace K23
open PySem PySem.Spec PyProof.Rows L2 Z
/-- what one size does, for any way to call -/
def SzSt (C : Nat → List D → Sto → Out D) (P : Prog) : Prop := ∀ (z : Nat), z ≤ 200 → ∀ (S : Sto) (n : Int), Dk S 0 1 n → 0 ≤ n → n < 500000 → ∀ (v0 v2 x5 x6 x7 x8 : Option D),
    ∃ (y5 y6 y7 y8 : Option D) (S' : Sto) (n' : Int), dSs G C 0 szB [v0, some (.loc 1), v2, some P.d, some (.int z), x5, x6, x7, x8, none] S = .ok .nx [v0, some (.loc 1), v2, some P.d, some (.int z), y5, y6, y7, y8, none] S' ∧ Dk S' 0 1 n' ∧ n ≤ n' ∧ n' ≤ n + 500
theorem szSt {P : Prog} (g : Good P) : SzSt (Z.run T G 0 30) P := fun z hz S n h hn hn2 v0 v2 x5 x6 x7 x8 => sz_st g hz h hn hn2
theorem sz_for {C : Nat → List D → Sto → Out D} {P : Prog} (g : SzSt C P) {v0 v2 : Option D} : ∀ (zs : List Nat), (∀ z ∈ zs, z ≤ 200) → ∀ (S : Sto) (n : Int) (x4 x5 x6 x7 x8 : Option D), Dk S 0 1 n → 0 ≤ n → n + 500 * zs.length < 500000 →
    ∃ (y4 y5 y6 y7 y8 : Option D) (S' : Sto) (n' : Int), forL (gNm 4) (dSs G C 0 szB) (zs.map fun (z : Nat) => D.int z) [v0, some (.loc 1), v2, some P.d, x4, x5, x6, x7, x8, none] S = .ok .nx [v0, some (.loc 1), v2, some P.d, y4, y5, y6, y7, y8, none] S' ∧ Dk S' 0 1 n' ∧ n ≤ n' ∧ n' ≤ n + 500 * zs.length
  | [], _, S, n, x4, x5, x6, x7, x8, h, _, _ => ⟨x4, x5, x6, x7, x8, S, n, rfl, h, by omega, by simp⟩
  | z :: zs, hz, S, n, x4, x5, x6, x7, x8, h, hn, hl => by
    simp only [List.length_cons] at hl ⊢
    obtain ⟨y5, y6, y7, y8, S1, n1, e1, d1, l1, l1'⟩ := g z (hz z (.head _)) S n h hn (by omega) v0 v2 x5 x6 x7 x8
    obtain ⟨z4, z5, z6, z7, z8, S2, n2, e2, d2, l2, l2'⟩ := sz_for g (v0 := v0) (v2 := v2) zs (fun z h => hz z (.tail _ h)) S1 n1 (some (.int z)) y5 y6 y7 y8 d1 (by omega) (by omega)
    refine ⟨z4, z5, z6, z7, z8, S2, n2, ?_, d2, by omega, by omega⟩
    rw [List.map_cons, forL]
    have gg : gNm 4 (.int z) [v0, some (.loc 1), v2, some P.d, x4, x5, x6, x7, x8, none] S = some ([v0, some (.loc 1), v2, some P.d, some (.int z), x5, x6, x7, x8, none], S) := rfl
    simp only [gg, e1, e2]
end K23

namespace K23
open PySem PySem.Spec PyProof.Rows L2 Z
theorem ln_wd : ∀ {b : Blk}, b.ds.length ≤ b.wd
  | .nil => by simp [Blk.ds]
  | .cons s b => by simp only [Blk.ds, Blk.wd, List.length_cons]; omega
def cssA : List (List Nat) := [[2, 2, 2], [2, 3, 4], [2, 2, 2, 3]]
structure Cel (cs : List Nat) : Prop where
  l1 : 1 ≤ cs.length
  l2 : cs.length ≤ 4
  v : ∀ c ∈ cs, 2 ≤ c ∧ c ≤ 4
theorem celA {cs : List Nat} (h : cs ∈ cssA) : Cel cs := by
  simp [cssA] at h
  rcases h with rfl | rfl | rfl <;> exact ⟨by decide, by decide, by decide⟩
theorem celP {cs : List Nat} (h : cs ∈ cssP) : Cel cs := by
  simp [cssP] at h
  rcases h with rfl | rfl | rfl | rfl | rfl <;> exact ⟨by decide, by decide, by decide⟩
theorem szOk {P : Prog} (c : Cel P.cells) : SzOk P.sz := fun s hs => by
  simp only [Prog.sz, List.mem_map] at hs
  obtain ⟨a, ha, rfl⟩ := hs
  have := c.v a ha
  constructor
  · show (0 : Int) < (a : Int); omega
  · show (a : Int) < 16; omega
theorem good_of {css : List (List Nat)} {P : Prog} (v : ProgV 3 5 css P) (c : Cel P.cells) : Good P :=
  ⟨⟨by have := v.p; omega, by have := c.l2; omega, szOk c, v.bok, v.tok, by have := v.bdep; have := v.bfd; omega, by have := v.tdep; have := v.tfd; omega, by have := v.bfd; omega, by have := v.tfd; omega⟩,
    v.kn, v.se, v.p, by have := c.l2; omega, by have := Blk.nd_sz P.body; have := v.bsz; omega, by have := Blk.nd_sz P.tail; have := v.tsz; omega⟩
theorem good_deep {css : List (List Nat)} {P : Prog} {b : Blk} (v : ProgV 3 5 css P) (c : Cel P.cells) (h1 : b.ok P.p P.cells.length = true) (h2 : b.dep ≤ max P.body.dep 8) (h3 : b.fd ≤ max P.body.fd 7) (h4 : b.nd ≤ P.body.nd + 10) : Good { P with body := b } := by
  have bd := v.bdep
  have bf := v.bfd
  have e2 : b.dep ≤ 8 := by omega
  have e3 : b.fd ≤ 7 := by omega
  exact ⟨⟨by have := v.p; show P.p ≤ 1000; omega, by have := c.l2; show P.cells.length ≤ 1000; omega, szOk c, h1, v.tok, by show 2 * b.dep + b.fd + 3 ≤ 26; omega, by have := v.tdep; have := v.tfd; show 2 * P.tail.dep + P.tail.fd + 3 ≤ 26; omega, by show b.fd ≤ 16; omega, by have := v.tfd; show P.tail.fd ≤ 16; omega⟩,
    v.kn, v.se, v.p, by have := c.l2; show P.cells.length ≤ 10; omega, by have := Blk.nd_sz P.body; have := v.bsz; show b.nd ≤ 1000; omega, by have := Blk.nd_sz P.tail; have := v.tsz; show P.tail.nd ≤ 1000; omega⟩
/-- the program of a turn -/
theorem prg {S : Sto} {n : Int} (h : Dk S 0 1 n) (hn : 0 ≤ n) (hn2 : n < 400000) (t : Nat) {v0 x3 x4 x5 x6 x7 x8 : Option D} :
    ∃ (css : List (List Nat)) (P : Prog) (S' : Sto) (n' : Int), dS G (Z.run T G 0 30) 0 (tuB.at 0) [v0, some (.loc 1), some (.int t), x3, x4, x5, x6, x7, x8, none] S = .ok .nx [v0, some (.loc 1), some (.int t), some P.d, x4, x5, x6, x7, x8, none] S' ∧ ProgV 3 5 css P ∧ Cel P.cells ∧ Dk S' 0 1 n' ∧ n ≤ n' ∧ n' ≤ n + 4000 := by
  by_cases ht : t < 3
  · obtain ⟨P, S', n', e, v, d, l1, l2, _⟩ := wide_ok (G := G) (wf := 0) FA (L := 3) (css := cssA) (by decide) (by decide) (by decide) (k := 10) h hn (by omega)
    refine ⟨cssA, P, S', n', ?_, v, celA v.cells, d, l1, l2⟩
    have e' : Z.run T G 0 30 10 [.loc 1, .lst [.tup [.int 2, .int 2, .int 2], .tup [.int 2, .int 3, .int 4], .tup [.int 2, .int 2, .int 2, .int 3]], .int 3] S = .ok P.d S' := e
    generalize Z.run T G 0 30 = C at *
    have w : dE G C (.ifx (.cmp .Lt (.v 2) (.c (.int 3))) (.call 10 (.cons (.v 1) (.cons (.lst false (.cons (.tup (.cons (.c (.int 2)) (.cons (.c (.int 2)) (.cons (.c (.int 2)) .nil)))) (.cons (.tup (.cons (.c (.int 2)) (.cons (.c (.int 3)) (.cons (.c (.int 4)) .nil)))) (.cons (.tup (.cons (.c (.int 2)) (.cons (.c (.int 2)) (.cons (.c (.int 2)) (.cons (.c (.int 3)) .nil))))) .nil)))) (.cons (.c (.int 3)) .nil)))) (.call 9 (.cons (.v 1) (.cons (.c (.int 3)) (.cons (.c (.int 5)) .nil))))) [v0, some (.loc 1), some (.int t), x3, x4, x5, x6, x7, x8, none] S = .ok P.d S' := by
      have : (t : Int) < 3 := by omega
      simp [this, e']
    exact asg_ok (i := 3) w
  · obtain ⟨P, S', n', e, v, d, l1, l2, _⟩ := prog_ok (G := G) (wf := 0) FA (L := 3) (W := 5) (by decide) (by decide) (k := 10) h hn (by omega)
    refine ⟨cssP, P, S', n', ?_, v, celP v.cells, d, l1, l2⟩
    have e' : Z.run T G 0 30 9 [.loc 1, .int 3, .int 5] S = .ok P.d S' := e
    generalize Z.run T G 0 30 = C at *
    have w : dE G C (.ifx (.cmp .Lt (.v 2) (.c (.int 3))) (.call 10 (.cons (.v 1) (.cons (.lst false (.cons (.tup (.cons (.c (.int 2)) (.cons (.c (.int 2)) (.cons (.c (.int 2)) .nil)))) (.cons (.tup (.cons (.c (.int 2)) (.cons (.c (.int 3)) (.cons (.c (.int 4)) .nil)))) (.cons (.tup (.cons (.c (.int 2)) (.cons (.c (.int 2)) (.cons (.c (.int 2)) (.cons (.c (.int 3)) .nil))))) .nil)))) (.cons (.c (.int 3)) .nil)))) (.call 9 (.cons (.v 1) (.cons (.c (.int 3)) (.cons (.c (.int 5)) .nil))))) [v0, some (.loc 1), some (.int t), x3, x4, x5, x6, x7, x8, none] S = .ok P.d S' := by
      have : ¬ (t : Int) < 3 := by omega
      simp [this, e']
    exact asg_ok (i := 3) w
/-- .. deepened where the turn is even -/
theorem deep {css : List (List Nat)} {P : Prog} (v : ProgV 3 5 css P) (c : Cel P.cells) {S : Sto} {n : Int} (h : Dk S 0 1 n) (hn : 0 ≤ n) (hn2 : n < 400000) (t : Nat) {v0 x4 x5 x6 x7 x8 : Option D} :
    ∃ (P' : Prog) (S' : Sto) (n' : Int), dS G (Z.run T G 0 30) 0 (tuB.at 1) [v0, some (.loc 1), some (.int t), some P.d, x4, x5, x6, x7, x8, none] S = .ok .nx [v0, some (.loc 1), some (.int t), some P'.d, x4, x5, x6, x7, x8, none] S' ∧ Good P' ∧ Dk S' 0 1 n' ∧ n ≤ n' ∧ n' ≤ n + 1000 := by
  by_cases ht : (t : Int) % 2 = 0
  · obtain ⟨b, S', n', e, h1, h2, h3, h4, d, l1, l2, _⟩ := dp_ok (G := G) (wf := 0) FA Tchain Tdeeper (k := 24) (P := P) (by have := v.p; omega) (by have := c.l1; omega) (by have := c.l2; omega) v.bok (by have := ln_wd (b := P.body); have := v.bwd; omega) h hn (by omega)
    refine ⟨{ P with body := b }, S', n', ?_, good_deep v c h1 h2 h3 h4, d, l1, l2⟩
    have e' : Z.run T G 0 30 12 [.loc 1, P.d] S = .ok (Prog.d { P with body := b }) S' := e
    generalize Z.run T G 0 30 = C at *
    have w : dE G C (.call 12 (.cons (.v 1) (.cons (.v 3) .nil))) [v0, some (.loc 1), some (.int t), some P.d, x4, x5, x6, x7, x8, none] S = .ok (Prog.d { P with body := b }) S' := by simp [e']
    have cc : dT G C (.cmp .Eq (.op .Mod (.v 2) (.c (.int 2))) (.c (.int 0))) [v0, some (.loc 1), some (.int t), some P.d, x4, x5, x6, x7, x8, none] S = .ok true S := by simp [ht]
    show dS G C 0 (.ite (.cmp .Eq (.op .Mod (.v 2) (.c (.int 2))) (.c (.int 0))) (.cons (.asg (.nm 3) (.call 12 (.cons (.v 1) (.cons (.v 3) .nil)))) .nil) .nil) _ _ = _
    rw [q_site, ite_t cc, q_scons, q_sasg, q_gnm, then_nx (asg_ok (i := 3) w)]
    rfl
  · refine ⟨P, S, n, ?_, good_of v c, h, by omega, by omega⟩
    generalize Z.run T G 0 30 = C at *
    have cc : dT G C (.cmp .Eq (.op .Mod (.v 2) (.c (.int 2))) (.c (.int 0))) [v0, some (.loc 1), some (.int t), some P.d, x4, x5, x6, x7, x8, none] S = .ok false S := by simp [ht]
    show dS G C 0 (.ite (.cmp .Eq (.op .Mod (.v 2) (.c (.int 2))) (.c (.int 0))) (.cons (.asg (.nm 3) (.call 12 (.cons (.v 1) (.cons (.v 3) .nil)))) .nil) .nil) _ _ = _
    rw [q_site, ite_f cc]
    rfl
/-- the sizes of a turn -/
theorem szs {P : Prog} (g : Good P) {S : Sto} {n : Int} (h : Dk S 0 1 n) (hn : 0 ≤ n) (hn2 : n < 400000) {v0 v2 x4 x5 x6 x7 x8 : Option D} :
    ∃ (y4 y5 y6 y7 y8 : Option D) (S' : Sto) (n' : Int), dS G (Z.run T G 0 30) 0 (tuB.at 2) [v0, some (.loc 1), v2, some P.d, x4, x5, x6, x7, x8, none] S = .ok .nx [v0, some (.loc 1), v2, some P.d, y4, y5, y6, y7, y8, none] S' ∧ Dk S' 0 1 n' ∧ n ≤ n' ∧ n' ≤ n + 3000 := by
  obtain ⟨r, S1, e1, l1, d1, k1⟩ := drw (G := G) (wf := 0) FA (k := 29) (m := 9) h hn (by omega) (by decide) (by decide)
  obtain ⟨o, S2, e2, m2, d2, k2⟩ := one (G := G) (wf := 0) FA (k := 28) (xs := [.int 20, .int 90, .int 200]) d1 (by omega) (by omega) (by simp) (by simp)
  have ho : ∃ z : Nat, o = .int z ∧ z ≤ 200 := by
    simp only [List.mem_cons, List.not_mem_nil, or_false] at m2
    rcases m2 with rfl | rfl | rfl
    · exact ⟨20, rfl, by decide⟩
    · exact ⟨90, rfl, by decide⟩
    · exact ⟨200, rfl, by decide⟩
  obtain ⟨z, rfl, hz⟩ := ho
  obtain ⟨y4, y5, y6, y7, y8, S3, n3, e3, d3, l3, l3'⟩ := sz_for (szSt g) (v0 := v0) (v2 := v2) [0, 1, 2, r, z] (by
    intro q hq
    simp only [List.mem_cons, List.not_mem_nil, or_false] at hq
    rcases hq with rfl | rfl | rfl | rfl | rfl <;> omega) S2 (n + 1 + 1) x4 x5 x6 x7 x8 d2 (by omega) (by simp; omega)
  refine ⟨y4, y5, y6, y7, y8, S3, n3, ?_, d3, by omega, by simp at l3'; omega⟩
  have e1' : Z.run T G 0 30 5 [.loc 1, .int 9] S = .ok (.int r) S1 := e1
  have e2' : Z.run T G 0 30 6 [.loc 1, .lst [.int 20, .int 90, .int 200]] S1 = .ok (.int z) S2 := e2
  generalize Z.run T G 0 30 = C at *
  let sd : Sl := [v0, some (.loc 1), v2, some P.d, x4, x5, x6, x7, x8, none]
  have it : dI G C (.seq (.tup (.cons (.c (.int 0)) (.cons (.c (.int 1)) (.cons (.c (.int 2)) (.cons (.call 5 (.cons (.v 1) (.cons (.c (.int 9)) .nil))) (.cons (.call 6 (.cons (.v 1) (.cons (.lst false (.cons (.c (.int 20)) (.cons (.c (.int 90)) (.cons (.c (.int 200)) .nil)))) .nil))) .nil))))))) sd S = .ok (.vals [.int 0, .int 1, .int 2, .int r, .int z]) S2 := by
    simp [sd, e1', e2', srcOf]
  show dS G C 0 (.for_ (.nm 4) (.seq (.tup (.cons (.c (.int 0)) (.cons (.c (.int 1)) (.cons (.c (.int 2)) (.cons (.call 5 (.cons (.v 1) (.cons (.c (.int 9)) .nil))) (.cons (.call 6 (.cons (.v 1) (.cons (.lst false (.cons (.c (.int 20)) (.cons (.c (.int 90)) (.cons (.c (.int 200)) .nil)))) .nil))) .nil))))))) szB) sd S = _
  rw [q_sfor, q_mFor, it]
  simp only []
  rw [show (Src.vals [.int 0, .int 1, .int 2, .int r, .int z]).len = [D.int 0, .int 1, .int 2, .int r, .int z].length from rfl, forV, q_gnm]
  exact e3
theorem turn {S : Sto} {n : Int} (h : Dk S 0 1 n) (hn : 0 ≤ n) (hn2 : n < 300000) (t : Nat) {v0 x3 x4 x5 x6 x7 x8 : Option D} :
    ∃ (y3 y4 y5 y6 y7 y8 : Option D) (S' : Sto) (n' : Int), dSs G (Z.run T G 0 30) 0 tuB [v0, some (.loc 1), some (.int t), x3, x4, x5, x6, x7, x8, none] S = .ok .nx [v0, some (.loc 1), some (.int t), y3, y4, y5, y6, y7, y8, none] S' ∧ Dk S' 0 1 n' ∧ n ≤ n' ∧ n' ≤ n + 8000 := by
  obtain ⟨css, P, S1, n1, e1, v, c, d1, l1, l1'⟩ := prg h hn (by omega) t (v0 := v0) (x3 := x3) (x4 := x4) (x5 := x5) (x6 := x6) (x7 := x7) (x8 := x8)
  obtain ⟨P', S2, n2, e2, g, d2, l2, l2'⟩ := deep v c d1 (by omega) (by omega) t (v0 := v0) (x4 := x4) (x5 := x5) (x6 := x6) (x7 := x7) (x8 := x8)
  obtain ⟨y4, y5, y6, y7, y8, S3, n3, e3, d3, l3, l3'⟩ := szs g d2 (by omega) (by omega) (v0 := v0) (v2 := some (.int t)) (x4 := x4) (x5 := x5) (x6 := x6) (x7 := x7) (x8 := x8)
  refine ⟨some P'.d, y4, y5, y6, y7, y8, S3, n3, ?_, d3, by omega, by omega⟩
  rw [stp0 rfl e1, stp rfl e2, stp rfl e3]
  rfl
theorem turns {v0 : Option D} : ∀ (ts : List Nat) (S : Sto) (n : Int) (x2 x3 x4 x5 x6 x7 x8 : Option D), Dk S 0 1 n → 0 ≤ n → n + 8000 * ts.length < 300000 →
    ∃ (sd' : Sl) (S' : Sto), forL (gNm 2) (dSs G (Z.run T G 0 30) 0 tuB) (ts.map fun (t : Nat) => D.int t) [v0, some (.loc 1), x2, x3, x4, x5, x6, x7, x8, none] S = .ok .nx sd' S'
  | [], S, n, x2, x3, x4, x5, x6, x7, x8, h, _, _ => ⟨_, S, rfl⟩
  | t :: ts, S, n, x2, x3, x4, x5, x6, x7, x8, h, hn, hl => by
    simp only [List.length_cons] at hl
    obtain ⟨y3, y4, y5, y6, y7, y8, S1, n1, e1, d1, l1, l1'⟩ := turn h hn (by omega) t (v0 := v0) (x3 := x3) (x4 := x4) (x5 := x5) (x6 := x6) (x7 := x7) (x8 := x8)
    obtain ⟨sd', S2, e2⟩ := turns (v0 := v0) ts S1 n1 (some (.int t)) y3 y4 y5 y6 y7 y8 d1 (by omega) (by omega)
    refine ⟨sd', S2, ?_⟩
    rw [List.map_cons, forL]
    have gg : gNm 2 (.int t) [v0, some (.loc 1), x2, x3, x4, x5, x6, x7, x8, none] S = some ([v0, some (.loc 1), some (.int t), x3, x4, x5, x6, x7, x8, none], S) := rfl
    simp only [gg, e1, e2]
theorem math (ns : List Int) (hl : ns.length ≤ 63) : ∃ wf S', Z.run T G wf 31 18 [.fro (ns.map .int)] [] = .ok (.bl true) S' := by
  obtain ⟨S1, e1, l1, d1, _⟩ := deck_ok (G := G) (C := Z.run T G 0 29) (wf := 0) (nm := "_law_cell") (S := []) (ns := ns) hl
  have hd : Z.run T G 0 30 4 [.fro (ns.map .int)] [] = .ok (.loc 1) S1 := by
    rw [run_succ (fn := ⟨1, 2, deckB "_law_cell"⟩) rfl rfl]
    exact e1
  obtain ⟨sd', S2, e2⟩ := turns (v0 := some (.fro (ns.map .int))) (List.range' 0 8) S1 0 none none none none none none none d1 (by omega) (by simp)
  refine ⟨0, S2, ?_⟩
  rw [run_succ (fn := ⟨1, 10, b_law⟩) rfl rfl]
  have s0 : dS G (Z.run T G 0 30) 0 (b_law.at 0) (slots0 10 [.fro (ns.map .int)]) [] = .ok .nx [some (.fro (ns.map .int)), some (.loc 1), none, none, none, none, none, none, none, none] S1 := by
    have w : dE G (Z.run T G 0 30) (.call 4 (.cons (.v 0) .nil)) (slots0 10 [.fro (ns.map .int)]) [] = .ok (.loc 1) S1 := by
      simp [slots0, hd]
    exact asg_ok (i := 1) w
  have s1 : dS G (Z.run T G 0 30) 0 (b_law.at 1) [some (.fro (ns.map .int)), some (.loc 1), none, none, none, none, none, none, none, none] S1 = .ok .nx sd' S2 := by
    show dS G (Z.run T G 0 30) 0 (.for_ (.nm 2) (.rng1 (.cons (.c (.int 8)) .nil)) tuB) _ _ = _
    have it : dI G (Z.run T G 0 30) (.rng1 (.cons (.c (.int 8)) .nil)) [some (.fro (ns.map .int)), some (.loc 1), none, none, none, none, none, none, none, none] S1 = .ok (.vals ((List.range' 0 8).map fun (i : Nat) => D.int i)) S1 := by
      have := rng_l (q := 8) (by decide)
      simp [this]
      rfl
    rw [q_sfor, q_mFor, it]
    simp only []
    rw [show (Src.vals ((List.range' 0 8).map fun (i : Nat) => D.int i)).len = ((List.range' 0 8).map fun (i : Nat) => D.int i).length from rfl, forV, q_gnm]
    exact e2
  rw [stp0 rfl s0, stp rfl s1]
  rfl
end K23

namespace K23
open PySem PySem.Spec PyProof.Rows L2 Z
def fr : List Str := bltN.map Str.ofString
abbrev R : PySem.W.OpenRow := PySem.W.OpenLaw.row PySem.Challenge.rw_steadytime_k23_runs_walked
def hdd : HdD := hdOf fr gl rows cls
abbrev hk : PySem.W.Hook := hookZ 4 hdd
def ob (s : PySem.W.SharedT) : He.AlD := obsZG 4 hdd (HandSHeadRun.getT s)
theorem ob_eq (s : PySem.W.SharedT) : ob s = hk.obs s.abs := obsZG_eq (HandSHeadRun.getT_eq s)
theorem runs (w : World) : HandSHeadRun.RunEq R (PySem.W.view R.prog [24]) hk ob 5000 loose w := by
  intro os
  kernel_rfl
theorem hrows : (rows.all (rowOk (tabOf rows gl cls))) = true := by decide +kernel
theorem ends (math : ∀ ns : List Int, ns.length ≤ 63 → ∃ wf S', Z.run T G wf 31 18 [.fro (ns.map .int)] [] = .ok (.bl true) S') : PySem.Challenge.rw_steadytime_k23_runs_walked.Holds := by
  w_on; o_law
  refine HandSHeadRun.head_any (r := PySem.W.OpenLaw.row PySem.Challenge.rw_steadytime_k23_runs_walked) (q := PySem.W.view (PySem.W.OpenLaw.row PySem.Challenge.rw_steadytime_k23_runs_walked).prog [24]) (H := hk) (ob := ob) (M := 5000) (loose := loose) (d := HandSHeadRun.topDef (PySem.W.OpenLaw.row PySem.Challenge.rw_steadytime_k23_runs_walked).prog 24) (kwd := []) ob_eq
    (by kernel_rfl) (fun s => by kernel_rfl) runs (by kernel_rfl) (by kernel_rfl) (by kernel_rfl) (by rfl) (by first | assumption | decide +kernel) (by decide +kernel) ⟨rfl, rfl, rfl, rfl, rfl, by decide +kernel⟩ ?hw ?hc
  case hw => w_witness2
  case hc =>
    exact walk_ofZ (l := PySem.Challenge.rw_steadytime_k23_runs_walked) (n := 63) (k := 31) (x := "_law_script") (i := 18) (row := r_law) rfl (by decide) (by kernel_rfl) ⟨rfl, by decide, by decide⟩ (fun _ _ z => z) (by decide +kernel) (by decide +kernel) rfl (by kernel_rfl) rfl hrows math
end K23

theorem PySem.Challenge.cw_steadytime_k23_runs_walked_holds : PySem.Challenge.rw_steadytime_k23_runs_walked.Holds := by
  exact K23.ends K23.math
