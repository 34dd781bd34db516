import PyProof.Rows.All
import Wide.All
import OpenK.AllK
import Wide.FinOn
import PyProof.EqAt
import PyProof.EqKinds
import PyProof.TupleCall
import HandS.ForMost
import HandS.Exc
import HandS.ExcOwn
import HandS.WordsExc
import HandS.TryOnly
import HandS.Wide
import HandS.WideBits
import HandS.IsInst
import HandS.Lambda
import HandS.EndTab
import HandS.TupAny
import HandS.Flow
import HandS.Deep
import HandS.SortInts
import HandS.Rev
import HandS.Strs
import HandS.Zip
import HandS.RevRange
import HandS.ExcIs
import PyProof.ExcBaseAll.ValueError
import HandS.SetFor
import HandS.Style
import PyProof.Rows.FactsT3
import PyProof.Rows.EnumRows
import PyProof.EnumMake
import KE.GoesEnum
import HandS.TupMul
import KE.DataMinMax
import KE.SortData
import KE.Datum
import HandS.Conv
import KE.GoesZip
import KE.GoesMore
import KE.DataAny
import PySem.Challenge.RW_wordhouse_k39_whole_net_sums
import PyProof.TableCode
set_option Elab.async false
set_option linter.all false
set_option maxRecDepth 100000
/-! # PF: a functional layer. Values are trees, environments are lists of slots, a def is a function. -/
namespace PF
open PySem PySem.Spec PyProof.Rows L2

/-! ## Values -/
inductive PV where
  | non | bl (b : Bool) | int (i : Int) | str (x : Str) | tup (xs : List PV) | lst (xs : List PV) | fn (x : Str)
  /-- the script: a list that is only read -/
  | scr (xs : List PV)
  /-- a dict that is only read, as far as it is told: its keys, what stands there -/
  | dic (ks : List L2.Key) (xs : List PV)
  deriving Inhabited

/-- a slot of an environment: unbound; a value; a list that the variable alone may change -/
inductive Slot where
  | unb | val (p : PV) | own (p : PV)
abbrev Env := List Slot
/-- an exception: its class by name, its fields -/
structure Exc where
  cls : Str
  fields : List (Str × PV) := []
inductive Out (α : Type) where
  | ok (a : α) (ρ : Env) | exc (x : Exc) (ρ : Env) | stuck
def Out.bind {α β : Type} (o : Out α) (f : α → Env → Out β) : Out β := match o with
  | .ok a ρ => f a ρ
  | .exc x ρ => .exc x ρ
  | .stuck => .stuck
def ofO {α : Type} (o : Option α) (ρ : Env) : Out α := match o with
  | some a => .ok a ρ
  | none => .stuck
abbrev E := Env → Out PV
inductive Flow where
  | next | brk | cont | ret (p : PV)
  /-- a new list (or a list of its own) is handed back -/
  | own (ps : List PV)
abbrev C := Env → Out Flow

/-! ## How values lie in the heap -/
structure Kx where
  K : PySem.W.Frag
  mg : Str → Option Value
  T : List (Addr × Str)

mutual
def Rep (k : Kx) (S : Hp) : PV → V → Prop
  | .non, v => v = .non
  | .bl b, v => v = .bl b
  | .int i, v => v = .int i
  | .str x, v => v = .str x
  | .tup ps, v => ∃ a us, v = .ref a ∧ SqT k.K S a us ∧ Reps k S ps us
  | .lst ps, v => ∃ a us, v = .ref a ∧ S a = some (.lst us) ∧ Reps k S ps us
  | .scr ps, v => ∃ a us, v = .ref a ∧ SqL k.K S a us ∧ Reps k S ps us
  | .fn x, v => ∃ f, v = .ref f ∧ k.mg x = some (.ref f)
  | .dic ks ps, v => ∃ a us, v = .ref a ∧ S a = some (.dK (ks.zip us)) ∧ ks.length = us.length ∧ Reps k S ps us
def Reps (k : Kx) (S : Hp) : List PV → List V → Prop
  | [], us => us = []
  | p :: ps, us => ∃ u r, us = u :: r ∧ Rep k S p u ∧ Reps k S ps r
end

theorem sqT_mono {K : PySem.W.Frag} {H H' : Hp} {a : Addr} {xs : List V} (e : Same H H') (h : SqT K H a xs) : SqT K H' a xs := by
  rcases h with (h | ⟨o, h⟩) | h
  · exact .inl (.inl (e _ _ h))
  · exact .inl (.inr ⟨o, e _ _ h⟩)
  · exact .inr h

mutual
theorem Rep.mono {k : Kx} {S S' : Hp} (e : Same S S') : ∀ {p : PV} {v : V}, Rep k S p v → Rep k S' p v
  | .non, _, h => by simpa only [Rep] using h
  | .bl _, _, h => by simpa only [Rep] using h
  | .int _, _, h => by simpa only [Rep] using h
  | .str _, _, h => by simpa only [Rep] using h
  | .tup _, _, h => by
    simp only [Rep] at h ⊢
    obtain ⟨a, us, e1, h1, h2⟩ := h
    exact ⟨a, us, e1, sqT_mono e h1, Reps.mono e h2⟩
  | .lst _, _, h => by
    simp only [Rep] at h ⊢
    obtain ⟨a, us, e1, h1, h2⟩ := h
    exact ⟨a, us, e1, e _ _ h1, Reps.mono e h2⟩
  | .scr _, _, h => by
    simp only [Rep] at h ⊢
    obtain ⟨a, us, e1, h1, h2⟩ := h
    exact ⟨a, us, e1, e.seq h1, Reps.mono e h2⟩
  | .fn _, _, h => by simpa only [Rep] using h
  | .dic _ _, _, h => by
    simp only [Rep] at h ⊢
    obtain ⟨a, us, e1, h1, h2, h3⟩ := h
    exact ⟨a, us, e1, e _ _ h1, h2, Reps.mono e h3⟩
theorem Reps.mono {k : Kx} {S S' : Hp} (e : Same S S') : ∀ {ps : List PV} {us : List V}, Reps k S ps us → Reps k S' ps us
  | [], _, h => by simpa only [Reps] using h
  | _ :: _, _, h => by
    simp only [Reps] at h ⊢
    obtain ⟨u, r, e1, h1, h2⟩ := h
    exact ⟨u, r, e1, Rep.mono e h1, Reps.mono e h2⟩
end

section
variable {k : Kx} {S : Hp}
theorem Reps.len : ∀ {ps : List PV} {us : List V}, Reps k S ps us → ps.length = us.length
  | [], _, h => by simp only [Reps] at h; subst h; rfl
  | _ :: _, _, h => by
    simp only [Reps] at h
    obtain ⟨u, r, rfl, _, h2⟩ := h
    simp only [List.length_cons, Reps.len h2]
theorem Reps.get : ∀ {ps : List PV} {us : List V} {i : Nat} {p : PV}, Reps k S ps us → ps[i]? = some p → ∃ u, us[i]? = some u ∧ Rep k S p u
  | [], _, _, _, _, e => by simp at e
  | q :: ps, us, i, p, h, e => by
    simp only [Reps] at h
    obtain ⟨u, r, rfl, h1, h2⟩ := h
    cases i with
    | zero => simp at e; subst e; exact ⟨u, rfl, h1⟩
    | succ i => exact Reps.get (i := i) h2 (by simpa using e)
theorem Reps.get' {ps : List PV} {us : List V} {i : Nat} {u : V} (h : Reps k S ps us) (e : us[i]? = some u) : ∃ p, ps[i]? = some p ∧ Rep k S p u := by
  have hl := h.len
  have hi : i < ps.length := by rw [hl]; exact (List.getElem?_eq_some_iff.mp e).1
  obtain ⟨u', e', r⟩ := h.get (i := i) (p := ps[i]) (by simp [hi])
  rw [e] at e'
  cases e'
  exact ⟨ps[i], by simp [hi], r⟩
theorem Reps.append : ∀ {ps qs : List PV} {us vs : List V}, Reps k S ps us → Reps k S qs vs → Reps k S (ps ++ qs) (us ++ vs)
  | [], _, _, _, h, h' => by simp only [Reps] at h; subst h; exact h'
  | _ :: _, _, _, _, h, h' => by
    simp only [Reps] at h
    obtain ⟨u, r, rfl, h1, h2⟩ := h
    simp only [List.cons_append, Reps]
    exact ⟨u, _, rfl, h1, h2.append h'⟩
theorem Reps.nil : Reps k S [] [] := by simp only [Reps]
theorem Reps.cons {p : PV} {ps : List PV} {u : V} {us : List V} (h : Rep k S p u) (h' : Reps k S ps us) : Reps k S (p :: ps) (u :: us) := by
  simp only [Reps]
  exact ⟨u, us, rfl, h, h'⟩
theorem Reps.take : ∀ {ps : List PV} {us : List V} (n : Nat), Reps k S ps us → Reps k S (ps.take n) (us.take n)
  | _, _, 0, _ => by simp only [List.take_zero]; exact Reps.nil
  | [], _, n + 1, h => by simp only [Reps] at h; subst h; exact Reps.nil
  | _ :: _, _, n + 1, h => by
    simp only [Reps] at h
    obtain ⟨u, r, rfl, h1, h2⟩ := h
    exact Reps.cons h1 (h2.take n)
theorem Reps.drop : ∀ {ps : List PV} {us : List V} (n : Nat), Reps k S ps us → Reps k S (ps.drop n) (us.drop n)
  | _, _, 0, h => h
  | [], _, n + 1, h => by simp only [Reps] at h; subst h; exact Reps.nil
  | _ :: _, _, n + 1, h => by
    simp only [Reps] at h
    obtain ⟨u, r, rfl, h1, h2⟩ := h
    exact h2.drop n
theorem Reps.set : ∀ {ps : List PV} {us : List V} {p : PV} {u : V} (i : Nat), Reps k S ps us → Rep k S p u → Reps k S (ps.set i p) (us.set i u)
  | [], _, _, _, _, h, _ => by simp only [Reps] at h; subst h; exact Reps.nil
  | _ :: _, _, _, _, 0, h, hp => by
    simp only [Reps] at h
    obtain ⟨u, r, rfl, h1, h2⟩ := h
    exact Reps.cons hp h2
  | _ :: _, _, _, _, i + 1, h, hp => by
    simp only [Reps] at h
    obtain ⟨u, r, rfl, h1, h2⟩ := h
    exact Reps.cons h1 (h2.set i hp)
theorem Reps.rev : ∀ {ps : List PV} {us : List V}, Reps k S ps us → Reps k S ps.reverse us.reverse
  | [], _, h => by simp only [Reps] at h; subst h; exact Reps.nil
  | _ :: _, _, h => by
    simp only [Reps] at h
    obtain ⟨u, r, rfl, h1, h2⟩ := h
    rw [List.reverse_cons, List.reverse_cons]
    exact h2.rev.append (Reps.cons h1 Reps.nil)
theorem Reps.of_ints : ∀ (ns : List Int), Reps k S (ns.map PV.int) (ns.map V.int)
  | [] => Reps.nil
  | n :: ns => Reps.cons (by simp only [Rep]) (Reps.of_ints ns)
/-- the values of a list of ints are ints -/
theorem Reps.ints : ∀ {ns : List Int} {us : List V}, Reps k S (ns.map PV.int) us → us = ns.map V.int
  | [], _, h => by simpa only [List.map_nil, Reps] using h
  | n :: ns, _, h => by
    simp only [List.map_cons, Reps, Rep] at h
    obtain ⟨u, r, rfl, rfl, h2⟩ := h
    rw [h2.ints]
    rfl
end

/-- a value as it lies now: a frozen one, or a list that stands in the heap -/
def RepB (k : Kx) (S H : Hp) (p : PV) (v : V) : Prop := Rep k S p v ∨ ∃ ps a us, p = .lst ps ∧ v = .ref a ∧ H a = some (.lst us) ∧ Reps k S ps us

/-! ## States -/
/-- what stays as it is through a def's body: the heap and the frozen part at its entry, the slots that are handed in to be changed with their addresses -/
structure Gam where
  k : Kx
  H0 : Hp
  S0 : Hp
  io : List (Nat × Addr)
  /-- slots that hold one object each -/
  fx : List (Nat × Addr) := []
/-- the slots that no assignment may touch -/
def Gam.ix (G : Gam) : List (Nat × Addr) := G.io ++ G.fx
/-- all but tables stay -/
def NoTb (o : HO) : Prop := ∀ ps, o ≠ .tbl ps
/-- nothing stands there, but perhaps a table -/
def NT (H : Hp) (a : Addr) : Prop := ∀ o, H a = some o → ¬ NoTb o
theorem NT.of {H : Hp} {a : Addr} (h : H a = none) : NT H a := fun o e => by rw [h] at e; cases e

def SlotR (k : Kx) (S H : Hp) : Slot → Option V → Prop
  | .unb, _ => True
  | .val p, o => ∃ v, o = some v ∧ Rep k S p v
  | .own p, o => ∃ a ps us, o = some (.ref a) ∧ p = .lst ps ∧ S a = none ∧ H a = some (.lst us) ∧ Reps k S ps us

structure Rel (G : Gam) (S H : Hp) (ρ : Env) (σ : L2.St) : Prop where
  sub : Same S H
  s0 : Same G.S0 S
  al : ∀ a o, G.H0 a = some o → NoTb o → ∃ o', H a = some o'
  fr : ∀ a o, G.H0 a = some o → (∀ p ∈ G.io, p.2 ≠ a) → NoTb o → H a = some o
  nf : ∀ a o, G.H0 a = some o → NoTb o → G.S0 a = none → S a = none
  nt : ∀ a o, S a = some o → NoTb o
  tabs : LamX.Tabs G.k.T H
  len : ρ.length = σ.length
  slot : ∀ (i : Nat) (s : Slot) (o : Option V), ρ[i]? = some s → σ[i]? = some o → SlotR G.k S H s o
  new : ∀ (i : Nat) (p : PV) (a : Addr), ρ[i]? = some (.own p) → σ[i]? = some (some (V.ref a)) → NT G.H0 a ∨ ∃ j, (j, a) ∈ G.io
  dis : ∀ (i j : Nat) (p q : PV) (a : Addr), ρ[i]? = some (.own p) → ρ[j]? = some (.own q) → σ[i]? = some (some (V.ref a)) → σ[j]? = some (some (V.ref a)) → i = j
  pin : ∀ p ∈ G.io, σ[p.1]? = some (some (V.ref p.2)) ∧ ∃ q, ρ[p.1]? = some (.own q)
  fix : ∀ p ∈ G.fx, σ[p.1]? = some (some (V.ref p.2))
theorem ix_io {G : Gam} {i : Nat} (h : ∀ q ∈ G.ix, q.1 ≠ i) : ∀ q ∈ G.io, q.1 ≠ i := fun q hq => h q (List.mem_append_left _ hq)
theorem ix_fx {G : Gam} {i : Nat} (h : ∀ q ∈ G.ix, q.1 ≠ i) : ∀ q ∈ G.fx, q.1 ≠ i := fun q hq => h q (List.mem_append_right _ hq)

/-- the heap has grown: what stood stands, what is newly frozen is new -/
structure Grow (S H S' H' : Hp) : Prop where
  sS : Same S S'
  sH : Same H H'
  sub : Same S' H'
  nf : ∀ a o, H a = some o → S a = none → S' a = none
  nt : ∀ a o, S' a = some o → S a = none → NoTb o
theorem Grow.refl {S H : Hp} (h : Same S H) : Grow S H S H := ⟨.refl _, .refl _, h, fun _ _ _ h => h, fun _ _ h h' => by rw [h] at h'; cases h'⟩
theorem Grow.trans {S H S1 H1 S2 H2 : Hp} (a : Grow S H S1 H1) (b : Grow S1 H1 S2 H2) : Grow S H S2 H2 where
  sS := a.sS.trans b.sS
  sH := a.sH.trans b.sH
  sub := b.sub
  nf := fun x o h h' => b.nf x o (a.sH x o h) (a.nf x o h h')
  nt := fun x o h h' => by
    cases q : S1 x with
    | none => exact b.nt x o h q
    | some u =>
      have e := b.sS x u q
      rw [h] at e
      cases e
      exact a.nt x o q h'
/-- a new object is laid and frozen -/
theorem Grow.new {S H : Hp} {p : Addr} {o : HO} (h : Same S H) (hp : H p = none) (ht : NoTb o) : Grow S H (upd S p o) (upd H p o) where
  sS := fun a u e => by rw [upd_ne (ne_of_none (h a u e) hp)]; exact e
  sH := fun a u e => by rw [upd_ne (ne_of_none e hp)]; exact e
  sub := fun a u e => by
    by_cases z : a = p
    · subst z; rw [upd_same] at e ⊢; exact e
    · rw [upd_ne z] at e ⊢; exact h a u e
  nf := fun a u e e' => by rw [upd_ne (ne_of_none e hp)]; exact e'
  nt := fun a u e e' => by
    by_cases z : a = p
    · subst z; rw [upd_same] at e; cases e; exact ht
    · rw [upd_ne z, e'] at e; cases e
/-- a new object that is not frozen -/
theorem Grow.laid {S H : Hp} {p : Addr} {o : HO} (h : Same S H) (hp : H p = none) : Grow S H S (upd H p o) where
  sS := .refl _
  sH := fun a u e => by rw [upd_ne (ne_of_none e hp)]; exact e
  sub := fun a u e => by rw [upd_ne (ne_of_none (h a u e) hp)]; exact h a u e
  nf := fun _ _ _ e => e
  nt := fun _ _ e e' => by rw [e] at e'; cases e'
theorem Grow.free {S H S' H' : Hp} (g : Grow S H S' H') {a : Addr} (h : H' a = none) : H a = none := g.sH.free h

section
variable {G : Gam} {S H S' H' : Hp} {ρ : Env} {σ : L2.St}
theorem SlotR.grow {k : Kx} {s : Slot} {o : Option V} (g : Grow S H S' H') (h : SlotR k S H s o) : SlotR k S' H' s o := by
  cases s with
  | unb => trivial
  | val p => obtain ⟨v, e, r⟩ := h; exact ⟨v, e, r.mono g.sS⟩
  | own p =>
    obtain ⟨a, ps, us, e, e2, h1, h2, r⟩ := h
    exact ⟨a, ps, us, e, e2, g.nf a _ h2 h1, g.sH a _ h2, r.mono g.sS⟩
theorem Rel.grow (r : Rel G S H ρ σ) (g : Grow S H S' H') : Rel G S' H' ρ σ where
  sub := g.sub
  s0 := r.s0.trans g.sS
  al := fun a o h1 hN => let ⟨o', h⟩ := r.al a o h1 hN; ⟨o', g.sH a o' h⟩
  fr := fun a o h1 h2 h3 => g.sH a o (r.fr a o h1 h2 h3)
  nf := fun a o h1 hN h2 => let ⟨o', h⟩ := r.al a o h1 hN; g.nf a o' h (r.nf a o h1 hN h2)
  nt := fun a o h => by
    cases q : S a with
    | none => exact g.nt a o h q
    | some u =>
      have e := g.sS a u q
      rw [h] at e
      cases e
      exact r.nt a o q
  tabs := r.tabs.ext g.sH
  len := r.len
  slot := fun i s o h1 h2 => (r.slot i s o h1 h2).grow g
  new := r.new
  dis := r.dis
  pin := r.pin
  fix := r.fix

/-- the slots of the environment as the values have them -/
theorem Rel.slotv (r : Rel G S H ρ σ) {i : Nat} {s : Slot} (h : ρ[i]? = some s) : ∃ o, σ[i]? = some o ∧ SlotR G.k S H s o := by
  have hi : i < σ.length := by rw [← r.len]; exact (List.getElem?_eq_some_iff.mp h).1
  exact ⟨σ[i], by simp [hi], r.slot i s _ h (by simp [hi])⟩
theorem Rel.val (r : Rel G S H ρ σ) {i : Nat} {p : PV} (h : ρ[i]? = some (.val p)) : ∃ v, σ[i]? = some (some v) ∧ Rep G.k S p v := by
  obtain ⟨o, e, v, e2, rv⟩ := r.slotv h
  subst e2
  exact ⟨v, e, rv⟩
theorem Rel.own (r : Rel G S H ρ σ) {i : Nat} {p : PV} (h : ρ[i]? = some (.own p)) : ∃ a ps us, σ[i]? = some (some (V.ref a)) ∧ p = .lst ps ∧ S a = none ∧ H a = some (.lst us) ∧ Reps G.k S ps us := by
  obtain ⟨o, e, a, ps, us, e2, rest⟩ := r.slotv h
  subst e2
  exact ⟨a, ps, us, e, rest⟩

/-- a slot takes a value -/
theorem Rel.set (r : Rel G S H ρ σ) {i : Nat} {p : PV} {v : V} (h : Rep G.k S p v) (hio : ∀ q ∈ G.ix, q.1 ≠ i) : Rel G S H (ρ.set i (.val p)) (σ.set i (some v)) where
  sub := r.sub
  s0 := r.s0
  al := r.al
  fr := r.fr
  nf := r.nf
  nt := r.nt
  tabs := r.tabs
  len := by simpa using r.len
  slot := fun j s o h1 h2 => by
    by_cases e : j = i
    · subst e
      have hj : j < ρ.length := by simpa using (List.getElem?_eq_some_iff.mp h1).1
      rw [List.getElem?_set_self hj] at h1
      rw [List.getElem?_set_self (by rw [← r.len]; exact hj)] at h2
      cases h1; cases h2
      exact ⟨v, rfl, h⟩
    · rw [List.getElem?_set_ne (Ne.symm e)] at h1 h2
      exact r.slot j s o h1 h2
  new := fun j q a h1 h2 => by
    by_cases e : j = i
    · subst e
      have hj : j < ρ.length := by simpa using (List.getElem?_eq_some_iff.mp h1).1
      rw [List.getElem?_set_self hj] at h1
      cases h1
    · rw [List.getElem?_set_ne (Ne.symm e)] at h1 h2
      exact r.new j q a h1 h2
  dis := fun j l q q' a h1 h2 h3 h4 => by
    by_cases e : j = i
    · subst e
      have hj : j < ρ.length := by simpa using (List.getElem?_eq_some_iff.mp h1).1
      rw [List.getElem?_set_self hj] at h1
      cases h1
    · by_cases e' : l = i
      · subst e'
        have hj : l < ρ.length := by simpa using (List.getElem?_eq_some_iff.mp h2).1
        rw [List.getElem?_set_self hj] at h2
        cases h2
      · rw [List.getElem?_set_ne (Ne.symm e)] at h1 h3
        rw [List.getElem?_set_ne (Ne.symm e')] at h2 h4
        exact r.dis j l q q' a h1 h2 h3 h4
  pin := fun q hq => by
    rw [List.getElem?_set_ne (Ne.symm (ix_io hio q hq)), List.getElem?_set_ne (Ne.symm (ix_io hio q hq))]
    exact r.pin q hq
  fix := fun q hq => by
    rw [List.getElem?_set_ne (Ne.symm (ix_fx hio q hq))]
    exact r.fix q hq

/-- an address that no slot owns -/
def NotOwn (ρ : Env) (σ : L2.St) (a : Addr) : Prop := ∀ (i : Nat) (p : PV), ρ[i]? = some (.own p) → σ[i]? ≠ some (some (V.ref a))

/-- a slot takes a list that is nobody's -/
theorem Rel.setOwn (r : Rel G S H ρ σ) {i : Nat} {ps : List PV} {us : List V} {a : Addr} (h0 : NT G.H0 a) (hS : S a = none) (hH : H a = some (.lst us)) (h : Reps G.k S ps us) (hn : NotOwn ρ σ a) (hio : ∀ q ∈ G.ix, q.1 ≠ i) :
    Rel G S H (ρ.set i (.own (.lst ps))) (σ.set i (some (V.ref a))) where
  sub := r.sub
  s0 := r.s0
  al := r.al
  fr := r.fr
  nf := r.nf
  nt := r.nt
  tabs := r.tabs
  len := by simpa using r.len
  slot := fun j s o h1 h2 => by
    by_cases e : j = i
    · subst e
      have hj : j < ρ.length := by simpa using (List.getElem?_eq_some_iff.mp h1).1
      rw [List.getElem?_set_self hj] at h1
      rw [List.getElem?_set_self (by rw [← r.len]; exact hj)] at h2
      cases h1; cases h2
      exact ⟨a, ps, us, rfl, rfl, hS, hH, h⟩
    · rw [List.getElem?_set_ne (Ne.symm e)] at h1 h2
      exact r.slot j s o h1 h2
  new := fun j q b h1 h2 => by
    by_cases e : j = i
    · subst e
      have hj : j < ρ.length := by simpa using (List.getElem?_eq_some_iff.mp h1).1
      rw [List.getElem?_set_self (by rw [← r.len]; exact hj)] at h2
      cases h2
      exact .inl h0
    · rw [List.getElem?_set_ne (Ne.symm e)] at h1 h2
      exact r.new j q b h1 h2
  dis := fun j l q q' b h1 h2 h3 h4 => by
    by_cases e : j = i
    · by_cases e' : l = i
      · rw [e, e']
      · subst e
        have hj : j < ρ.length := by simpa using (List.getElem?_eq_some_iff.mp h1).1
        rw [List.getElem?_set_self (by rw [← r.len]; exact hj)] at h3
        cases h3
        rw [List.getElem?_set_ne (Ne.symm e')] at h2 h4
        exact absurd h4 (hn l q' h2)
    · by_cases e' : l = i
      · subst e'
        have hj : l < ρ.length := by simpa using (List.getElem?_eq_some_iff.mp h2).1
        rw [List.getElem?_set_self (by rw [← r.len]; exact hj)] at h4
        cases h4
        rw [List.getElem?_set_ne (Ne.symm e)] at h1 h3
        exact absurd h3 (hn j q h1)
      · rw [List.getElem?_set_ne (Ne.symm e)] at h1 h3
        rw [List.getElem?_set_ne (Ne.symm e')] at h2 h4
        exact r.dis j l q q' b h1 h2 h3 h4
  pin := fun q hq => by
    rw [List.getElem?_set_ne (Ne.symm (ix_io hio q hq)), List.getElem?_set_ne (Ne.symm (ix_io hio q hq))]
    exact r.pin q hq
  fix := fun q hq => by
    rw [List.getElem?_set_ne (Ne.symm (ix_fx hio q hq))]
    exact r.fix q hq

/-- a slot is forgotten -/
theorem Rel.unbind (r : Rel G S H ρ σ) (i : Nat) (o : Option V) (hio : ∀ q ∈ G.ix, q.1 ≠ i) : Rel G S H (ρ.set i .unb) (σ.set i o) where
  sub := r.sub
  s0 := r.s0
  al := r.al
  fr := r.fr
  nf := r.nf
  nt := r.nt
  tabs := r.tabs
  len := by simpa using r.len
  slot := fun j s o h1 h2 => by
    by_cases e : j = i
    · subst e
      have hj : j < ρ.length := by simpa using (List.getElem?_eq_some_iff.mp h1).1
      rw [List.getElem?_set_self hj] at h1
      cases h1
      trivial
    · rw [List.getElem?_set_ne (Ne.symm e)] at h1 h2
      exact r.slot j s o h1 h2
  new := fun j q b h1 h2 => by
    by_cases e : j = i
    · subst e
      have hj : j < ρ.length := by simpa using (List.getElem?_eq_some_iff.mp h1).1
      rw [List.getElem?_set_self hj] at h1
      cases h1
    · rw [List.getElem?_set_ne (Ne.symm e)] at h1 h2
      exact r.new j q b h1 h2
  dis := fun j l q q' b h1 h2 h3 h4 => by
    by_cases e : j = i
    · subst e
      have hj : j < ρ.length := by simpa using (List.getElem?_eq_some_iff.mp h1).1
      rw [List.getElem?_set_self hj] at h1
      cases h1
    · by_cases e' : l = i
      · subst e'
        have hj : l < ρ.length := by simpa using (List.getElem?_eq_some_iff.mp h2).1
        rw [List.getElem?_set_self hj] at h2
        cases h2
      · rw [List.getElem?_set_ne (Ne.symm e)] at h1 h3
        rw [List.getElem?_set_ne (Ne.symm e')] at h2 h4
        exact r.dis j l q q' b h1 h2 h3 h4
  pin := fun q hq => by
    rw [List.getElem?_set_ne (Ne.symm (ix_io hio q hq)), List.getElem?_set_ne (Ne.symm (ix_io hio q hq))]
    exact r.pin q hq
  fix := fun q hq => by
    rw [List.getElem?_set_ne (Ne.symm (ix_fx hio q hq))]
    exact r.fix q hq

/-- the list of a slot is changed -/
theorem Rel.write (r : Rel G S H ρ σ) {i : Nat} {p : PV} {ps : List PV} {us : List V} {a : Addr} (h1 : ρ[i]? = some (.own p)) (h2 : σ[i]? = some (some (V.ref a))) (h : Reps G.k S ps us) :
    Rel G S (upd H a (.lst us)) (ρ.set i (.own (.lst ps))) σ := by
  obtain ⟨a', ps0, us0, e2, ep, hS, hH, _⟩ := r.own h1
  rw [h2] at e2
  cases e2
  have hi : i < ρ.length := (List.getElem?_eq_some_iff.mp h1).1
  have notT : ∀ b o, S b = some o → b ≠ a := fun b o e z => by rw [z, hS] at e; cases e
  refine ⟨fun b o e => by rw [upd_ne (notT b o e)]; exact r.sub b o e, r.s0, fun b o e eN => ?_, fun b o e e1 e2 => ?_, r.nf, r.nt, fun p hp => ?_, by simpa using r.len, fun j s o e1 e2 => ?_, fun j q b e1 e2 => ?_, fun j l q q' b e1 e2 e3 e4 => ?_, fun q hq => ?_, r.fix⟩
  · by_cases z : b = a
    · subst z; exact ⟨_, upd_same⟩
    · rw [upd_ne z]; exact r.al b o e eN
  · by_cases z : b = a
    · subst z
      rcases r.new i p b h1 h2 with q | ⟨j, q⟩
      · exact absurd e2 (q o e)
      · exact absurd rfl (e1 _ q)
    · rw [upd_ne z]; exact r.fr b o e e1 e2
  · obtain ⟨ts, t1, t2, t3⟩ := r.tabs p hp
    have z : p.1 ≠ a := fun z => by rw [z, hH] at t1; cases t1
    refine ⟨ts, by rw [upd_ne z]; exact t1, t2, fun pos cv hc => ?_⟩
    obtain ⟨c, c1, c2⟩ := t3 pos cv hc
    have z' : c ≠ a := fun z => by rw [z, hH] at c2; cases c2
    exact ⟨c, c1, by rw [upd_ne z']; exact c2⟩
  · by_cases ej : j = i
    · subst ej
      rw [List.getElem?_set_self hi] at e1
      cases e1
      rw [h2] at e2
      cases e2
      exact ⟨a, ps, us, rfl, rfl, hS, upd_same, h⟩
    · rw [List.getElem?_set_ne (Ne.symm ej)] at e1
      have q := r.slot j s o e1 e2
      cases s with
      | unb => trivial
      | val w => exact q
      | own w =>
        obtain ⟨b, qs, ws, f1, f2, f3, f4, f5⟩ := q
        subst f1
        have z : b ≠ a := fun z => by
          subst z
          exact ej (r.dis j i w p b e1 h1 e2 h2)
        exact ⟨b, qs, ws, rfl, f2, f3, by rw [upd_ne z]; exact f4, f5⟩
  · by_cases ej : j = i
    · subst ej
      rw [h2] at e2
      cases e2
      exact r.new j p a h1 h2
    · rw [List.getElem?_set_ne (Ne.symm ej)] at e1
      exact r.new j q b e1 e2
  · have own_at : ∀ (j : Nat) (q : PV), (ρ.set i (.own (.lst ps)))[j]? = some (.own q) → ∃ q', ρ[j]? = some (.own q') := fun j q e => by
      by_cases ej : j = i
      · subst ej; exact ⟨p, h1⟩
      · rw [List.getElem?_set_ne (Ne.symm ej)] at e; exact ⟨q, e⟩
    obtain ⟨q1, f1⟩ := own_at j q e1
    obtain ⟨q2, f2⟩ := own_at l q' e2
    exact r.dis j l q1 q2 b f1 f2 e3 e4
  · obtain ⟨e1, q', e2⟩ := r.pin q hq
    refine ⟨e1, ?_⟩
    by_cases ej : q.1 = i
    · rw [ej]; exact ⟨_, List.getElem?_set_self hi⟩
    · rw [List.getElem?_set_ne (Ne.symm ej)]; exact ⟨q', e2⟩

/-- the list of a slot is frozen -/
theorem Rel.freeze (r : Rel G S H ρ σ) {i : Nat} {p : PV} (h1 : ρ[i]? = some (.own p)) (hio : ∀ q ∈ G.ix, q.1 ≠ i) : ∃ S', Same S S' ∧ Rel G S' H (ρ.set i (.val p)) σ := by
  obtain ⟨a, ps, us, h2, ep, hS, hH, hr⟩ := r.own h1
  subst ep
  have hi : i < ρ.length := (List.getElem?_eq_some_iff.mp h1).1
  have sS : Same S (upd S a (.lst us)) := fun b o e => by rw [upd_ne (ne_of_none e hS)]; exact e
  have nio : ∀ q ∈ G.io, q.2 ≠ a := fun q hq z => by
    obtain ⟨e, q', e'⟩ := r.pin q hq
    rw [z] at e
    exact ix_io hio q hq (r.dis q.1 i q' _ a e' h1 e h2)
  have h0 : NT G.H0 a := by
    rcases r.new i _ a h1 h2 with q | ⟨j, q⟩
    · exact q
    · exact absurd rfl (nio _ q)
  refine ⟨upd S a (.lst us), sS, fun b o e => ?_, r.s0.trans sS, r.al, r.fr, fun b o e eN e' => ?_, fun b o e => ?_, r.tabs, by simpa using r.len, fun j s o e1 e2 => ?_, fun j q b e1 e2 => ?_, fun j l q q' b e1 e2 e3 e4 => ?_, fun q hq => ?_, r.fix⟩
  · by_cases z : b = a
    · subst z; rw [upd_same] at e; cases e; exact hH
    · rw [upd_ne z] at e; exact r.sub b o e
  · rw [upd_ne (fun z => by rw [z] at e; exact h0 o e eN)]; exact r.nf b o e eN e'
  · by_cases z : b = a
    · subst z; rw [upd_same] at e; cases e; intro ps z; cases z
    · rw [upd_ne z] at e; exact r.nt b o e
  · by_cases ej : j = i
    · subst ej
      rw [List.getElem?_set_self hi] at e1
      cases e1
      rw [h2] at e2
      cases e2
      refine ⟨_, rfl, ?_⟩
      simp only [Rep]
      exact ⟨a, us, rfl, upd_same, hr.mono sS⟩
    · rw [List.getElem?_set_ne (Ne.symm ej)] at e1
      have q := r.slot j s o e1 e2
      cases s with
      | unb => trivial
      | val w => obtain ⟨v, f1, f2⟩ := q; exact ⟨v, f1, f2.mono sS⟩
      | own w =>
        obtain ⟨b, qs, ws, f1, f2, f3, f4, f5⟩ := q
        subst f1
        have z : b ≠ a := fun z => by
          subst z
          exact ej (r.dis j i w _ b e1 h1 e2 h2)
        exact ⟨b, qs, ws, rfl, f2, by rw [upd_ne z]; exact f3, f4, f5.mono sS⟩
  · by_cases ej : j = i
    · subst ej
      rw [List.getElem?_set_self hi] at e1
      cases e1
    · rw [List.getElem?_set_ne (Ne.symm ej)] at e1
      exact r.new j q b e1 e2
  · by_cases ej : j = i
    · subst ej
      rw [List.getElem?_set_self hi] at e1
      cases e1
    · by_cases el : l = i
      · subst el
        rw [List.getElem?_set_self hi] at e2
        cases e2
      · rw [List.getElem?_set_ne (Ne.symm ej)] at e1
        rw [List.getElem?_set_ne (Ne.symm el)] at e2
        exact r.dis j l q q' b e1 e2 e3 e4
  · obtain ⟨e1, q', e2⟩ := r.pin q hq
    exact ⟨e1, q', by rw [List.getElem?_set_ne (Ne.symm (ix_io hio q hq))]; exact e2⟩
end
end PF

set_option Elab.async false
set_option linter.all false
set_option maxRecDepth 100000
namespace PF
open PySem PySem.Spec PyProof.Rows L2

/-! ## Operations on values -/
/-- the longest sequence -/
abbrev lineN : Nat := 16777216
theorem lineN_eq : lineN = sizeLine := by decide
def mulOk (i j : Int) : Bool := decide (i.natAbs < 2 ^ 64) || decide (j.natAbs < 2 ^ 64) || decide (Builtin.Int.intBits i + Builtin.Int.intBits j ≤ 134217728)
def pAdd : PV → PV → Option PV
  | .int i, .int j => some (.int (i + j))
  | .str a, .str b => if a.length + b.length ≤ lineN then some (.str (a ++ b)) else none
  | .tup a, .tup b => if a.length + b.length ≤ lineN then some (.tup (a ++ b)) else none
  | _, _ => none
/-- list + list -/
def pCat : PV → PV → Option (List PV)
  | .lst a, .lst b => if a.length + b.length ≤ lineN then some (a ++ b) else none
  | _, _ => none
def pSub : PV → PV → Option PV
  | .int i, .int j => some (.int (i - j))
  | _, _ => none
def pMul : PV → PV → Option PV
  | .int i, .int j => if mulOk i j then some (.int (i * j)) else none
  | _, _ => none
def pFloor : PV → PV → Option PV
  | .int i, .int j => if 0 < j ∧ j.natAbs.log2 < 9000 then some (.int (i / j)) else if j < 0 ∧ j.natAbs.log2 < 9000 then some (.int (i.fdiv j)) else none
  | _, _ => none
def pMod : PV → PV → Option PV
  | .int i, .int j => if 0 < j then some (.int (i % j)) else if j < 0 then some (.int (i.fmod j)) else none
  | _, _ => none
def pPow : PV → PV → Option PV
  | .int i, .int j => if 0 ≤ j ∧ j ≤ 1000000 ∧ i.natAbs < 2 ^ 64 then some (.int (i ^ j.toNat)) else none
  | _, _ => none
def pShl : PV → PV → Option PV
  | .int i, .int j => if 0 ≤ j ∧ (Builtin.Int.intBits i : Int) + j ≤ 134217728 then some (.int (i * 2 ^ j.toNat)) else none
  | _, _ => none
def pShr : PV → PV → Option PV
  | .int i, .int j => if 0 ≤ j then some (.int (i / 2 ^ j.toNat)) else none
  | _, _ => none
def pAnd : PV → PV → Option PV
  | .int i, .int j => some (.int (Builtin.bitAnd i j))
  | _, _ => none
def pOr : PV → PV → Option PV
  | .int i, .int j => some (.int (Builtin.bitOr i j))
  | _, _ => none
def pXor : PV → PV → Option PV
  | .int i, .int j => some (.int (Builtin.bitXor i j))
  | _, _ => none
def pNeg : PV → Option PV
  | .int i => some (.int (-i))
  | _ => none
def pInv : PV → Option PV
  | .int i => some (.int (Builtin.bitNot i))
  | _ => none
def cLt : PV → PV → Option Bool
  | .int i, .int j => some (decide (i < j))
  | _, _ => none
def cLe : PV → PV → Option Bool
  | .int i, .int j => some (decide (i ≤ j))
  | _, _ => none
def cGt : PV → PV → Option Bool
  | .int i, .int j => some (decide (j < i))
  | _, _ => none
def cGe : PV → PV → Option Bool
  | .int i, .int j => some (decide (j ≤ i))
  | _, _ => none
mutual
/-- == -/
def eqv : PV → PV → Bool
  | .non, .non => true
  | .bl a, .bl b => a == b
  | .bl a, .int j => (if a then 1 else 0) == j
  | .int i, .bl b => i == (if b then 1 else 0)
  | .int i, .int j => i == j
  | .str x, .str y => x == y
  | .lst xs, .lst ys => eqvs xs ys
  | .tup xs, .tup ys => eqvs xs ys
  | _, _ => false
def eqvs : List PV → List PV → Bool
  | [], [] => true
  | x :: xs, y :: ys => eqv x y && eqvs xs ys
  | _, _ => false
end
mutual
/-- how deep a datum is (none of a thing that is none) -/
def dep : PV → Nat
  | .tup xs => deps xs + 1
  | .lst xs => deps xs + 1
  | .fn _ => 100
  | .dic _ _ => 100
  | .scr _ => 100
  | .str x => if PyData.strOk x = true then 0 else 100
  | _ => 0
def deps : List PV → Nat
  | [] => 0
  | x :: xs => max (dep x) (deps xs)
end
def cEq (p q : PV) : Option Bool := if dep p ≤ 60 ∧ dep q ≤ 60 then some (eqv p q) else none
def cNe (p q : PV) : Option Bool := if dep p ≤ 60 ∧ dep q ≤ 60 then some (!eqv p q) else none
def cIsN : PV → PV → Option Bool
  | .non, .non => some true
  | _, .non => some false
  | _, _ => none
def cNotN : PV → PV → Option Bool
  | .non, .non => some false
  | _, .non => some true
  | _, _ => none
def tru : PV → Option Bool
  | .non => some false
  | .bl b => some b
  | .int i => some (i != 0)
  | .str x => if x.length ≤ lineN then some ((x.length : Int) != 0) else none
  | .tup xs => some !xs.isEmpty
  | .lst xs => some !xs.isEmpty
  | _ => none

/-! ## Denotations of expressions -/
abbrev T := Env → Out Bool
abbrev As := Env → Out (List PV)
def dC (p : PV) : E := fun ρ => .ok p ρ
def dV (i : Nat) : E := fun ρ => match ρ[i]? with
  | some (.val p) => .ok p ρ
  | _ => .stuck
/-- a name read on the spot: a list of the variable's own, too -/
def dB (i : Nat) : E := fun ρ => match ρ[i]? with
  | some (.val p) => .ok p ρ
  | some (.own p) => .ok p ρ
  | _ => .stuck
def dOp (f : PV → PV → Option PV) (a b : E) : E := fun ρ => (a ρ).bind fun x ρ1 => (b ρ1).bind fun y ρ2 => ofO (f x y) ρ2
def dUn (f : PV → Option PV) (a : E) : E := fun ρ => (a ρ).bind fun x ρ1 => ofO (f x) ρ1
def tCmp (f : PV → PV → Option Bool) (a b : E) : T := fun ρ => (a ρ).bind fun x ρ1 => (b ρ1).bind fun y ρ2 => ofO (f x y) ρ2
def dT (t : T) : E := fun ρ => (t ρ).bind fun b ρ1 => .ok (.bl b) ρ1
def tTru (a : E) : T := fun ρ => (a ρ).bind fun x ρ1 => ofO (tru x) ρ1
def tNot (t : T) : T := fun ρ => (t ρ).bind fun b ρ1 => .ok (!b) ρ1
def tAnd (t u : T) : T := fun ρ => (t ρ).bind fun b ρ1 => match b with
  | true => u ρ1
  | false => .ok false ρ1
def tOr (t u : T) : T := fun ρ => (t ρ).bind fun b ρ1 => match b with
  | true => .ok true ρ1
  | false => u ρ1
def dIf (t : T) (a b : E) : E := fun ρ => (t ρ).bind fun c ρ1 => match c with
  | true => a ρ1
  | false => b ρ1
/-- x and y, x or y, by truth -/
def dAnd (a b : E) : E := fun ρ => (a ρ).bind fun x ρ1 => match tru x with
  | some true => b ρ1
  | some false => .ok x ρ1
  | none => .stuck
def dOr (a b : E) : E := fun ρ => (a ρ).bind fun x ρ1 => match tru x with
  | some true => .ok x ρ1
  | some false => b ρ1
  | none => .stuck
/-- a op b op' c -/
def tChain (f g : PV → PV → Option Bool) (a b c : E) : T := fun ρ => (a ρ).bind fun x ρ1 => (b ρ1).bind fun y ρ2 => match f x y with
  | some true => (c ρ2).bind fun z ρ3 => ofO (g y z) ρ3
  | some false => .ok false ρ2
  | none => .stuck
def aNil : As := fun ρ => .ok [] ρ
def aCons (a : E) (r : As) : As := fun ρ => (a ρ).bind fun x ρ1 => (r ρ1).bind fun xs ρ2 => .ok (x :: xs) ρ2
def dTup (a : As) : E := fun ρ => (a ρ).bind fun xs ρ1 => if xs.length ≤ lineN then .ok (.tup xs) ρ1 else .stuck
def fLst (a : As) : As := fun ρ => (a ρ).bind fun xs ρ1 => if xs.length ≤ lineN then .ok xs ρ1 else .stuck
def fCat (a b : E) : As := fun ρ => (a ρ).bind fun x ρ1 => (b ρ1).bind fun y ρ2 => ofO (pCat x y) ρ2
/-- a new list, frozen at once -/
def dF (a : As) : E := fun ρ => (a ρ).bind fun xs ρ1 => .ok (.lst xs) ρ1

/-! ## Readings -/
def ExcR (k : Kx) (H : Hp) (x : Exc) (cls : Value) (d : Option Addr) : Prop := k.mg x.cls = some cls ∧
  match x.fields with
  | [] => d = none
  | fs => ∃ a ws, d = some a ∧ H a = some (.xd ws) ∧ ∃ S, Same S H ∧ fs.map (·.1) = ws.map (·.1) ∧ Reps k S (fs.map (·.2)) (ws.map (·.2))

def Post {α β : Type} (G : Gam) (W : WX) (σ : L2.St) (R : Env → Hp → Hp → α → β → Prop) (o : Out α) (S : Hp) (Q : β → Hp → Prop) : Prop :=
  match o with
  | .ok a ρ' => ∀ b S' H', Same S S' → Rel G S' H' ρ' σ → R ρ' S' H' a b → Q b H'
  | .exc x ρ' => ∀ cls d S' H', Same S S' → Rel G S' H' ρ' σ → ExcR G.k H' x cls d → W cls d σ H'
  | .stuck => False

section
variable {α β γ δ : Type} {G : Gam} {W : WX} {σ : L2.St} {S S' : Hp}
theorem Post.up {R : Env → Hp → Hp → α → β → Prop} {o : Out α} {Q : β → Hp → Prop} (h : Post G W σ R o S Q) (e : Same S S') : Post G W σ R o S' Q := by
  cases o with
  | ok a ρ' => exact fun b S2 H2 e2 r q => h b S2 H2 (e.trans e2) r q
  | exc x ρ' => exact fun c d S2 H2 e2 r q => h c d S2 H2 (e.trans e2) r q
  | stuck => exact h
theorem Post.bind {R1 : Env → Hp → Hp → α → β → Prop} {R2 : Env → Hp → Hp → γ → δ → Prop} {a : Out α} {g : α → Env → Out γ} {Q : δ → Hp → Prop} {Q' : β → Hp → Prop} (h : Post G W σ R2 (a.bind g) S Q)
    (k : ∀ x ρ' v S' H', Same S S' → Rel G S' H' ρ' σ → R1 ρ' S' H' x v → Post G W σ R2 (g x ρ') S' Q → Q' v H') : Post G W σ R1 a S Q' := by
  cases a with
  | ok x ρ' => exact fun v S' H' e r q => k x ρ' v S' H' e r q (Post.up h e)
  | exc x ρ' => exact h
  | stuck => exact h
theorem Post.ofO {R : Env → Hp → Hp → α → β → Prop} {o : Option α} {ρ : Env} {Q : β → Hp → Prop} (h : Post G W σ R (ofO o ρ) S Q) : ∃ a, o = some a ∧ Post G W σ R (.ok a ρ) S Q := by
  cases o with
  | some a => exact ⟨a, rfl, h⟩
  | none => exact h.elim
end

abbrev RE (k : Kx) : Env → Hp → Hp → PV → V → Prop := fun _ S _ p v => Rep k S p v
abbrev RB (k : Kx) : Env → Hp → Hp → PV → V → Prop := fun _ S H p v => RepB k S H p v
abbrev RT : Env → Hp → Hp → Bool → Bool → Prop := fun _ _ _ a b => a = b
abbrev RA (k : Kx) : Env → Hp → Hp → List PV → List V → Prop := fun _ S _ ps vs => Reps k S ps vs
/-- a list that is nobody's -/
abbrev RF (G : Gam) (σ : L2.St) : Env → Hp → Hp → List PV → V → Prop := fun ρ S H ps v => ∃ a us, v = .ref a ∧ NT G.H0 a ∧ S a = none ∧ H a = some (.lst us) ∧ Reps G.k S ps us ∧ NotOwn ρ σ a
def LE (G : Gam) (W : WX) (d : E) : TE := fun σ H Q => ∃ S ρ, Rel G S H ρ σ ∧ Post G W σ (RE G.k) (d ρ) S Q
def LB (G : Gam) (W : WX) (d : E) : TE := fun σ H Q => ∃ S ρ, Rel G S H ρ σ ∧ Post G W σ (RB G.k) (d ρ) S Q
def LT (G : Gam) (W : WX) (d : T) : TT := fun σ H Q => ∃ S ρ, Rel G S H ρ σ ∧ Post G W σ RT (d ρ) S Q
def LA (G : Gam) (W : WX) (d : As) : TA := fun σ H Q => ∃ S ρ, Rel G S H ρ σ ∧ Post G W σ (RA G.k) (d ρ) S Q
def LF (G : Gam) (W : WX) (d : As) : TE := fun σ H Q => ∃ S ρ, Rel G S H ρ σ ∧ Post G W σ (RF G σ) (d ρ) S Q

/-! ## Weakening of HandS's judgements -/
section
variable {X : Cx}
theorem pe_weak {e : Expr} {t t' : TE} (h : PE X e t) (w : ∀ σ H Q, t' σ H Q → t σ H Q) : PE X e t' := ⟨fun pins s σ H Q I q => h.run pins s σ H Q I (w σ H Q q)⟩
theorem pt_weak {e : Expr} {t t' : TT} (h : PT X e t) (w : ∀ σ H Q, t' σ H Q → t σ H Q) : PT X e t' := ⟨fun pins s σ H Q I q => h.run pins s σ H Q I (w σ H Q q)⟩
theorem pw_weak {e : Expr} {t t' : TT} (h : PW X e t) (w : ∀ σ H Q, t' σ H Q → t σ H Q) : PW X e t' := ⟨fun wh pins s σ H Q I q => h.run wh pins s σ H Q I (w σ H Q q)⟩
theorem pa_weak {e : List Expr} {t t' : TA} (h : PA X e t) (w : ∀ σ H Q, t' σ H Q → t σ H Q) : PA X e t' := ⟨fun pos pins s σ H Q I q => h.run pos pins s σ H Q I (w σ H Q q)⟩
theorem ps_weak {e : Stmt} {t t' : TS} (h : PS X e t) (w : ∀ D σ H, t' D σ H → t D σ H) : PS X e t' := ⟨fun pins s σ H D I q => h.run pins s σ H D I (w D σ H q)⟩
theorem pss_weak {e : List Stmt} {t t' : TS} (h : PSs X e t) (w : ∀ D σ H, t' D σ H → t D σ H) : PSs X e t' := ⟨fun pins s σ H D I q => h.run pins s σ H D I (w D σ H q)⟩
end

/-- what a body's context is to the state's -/
structure Ct (X : Cx) (G : Gam) (W : WX) : Prop where
  K : G.k.K = X.K
  mg : G.k.mg = X.mg
  tk : Takes X W
  nd : X.N.Nodup
  un : X.A.units + 65 < cLine
abbrev EOk (X : Cx) (G : Gam) (W : WX) (e : Expr) (d : E) : Prop := PE X e (LE G W d)
abbrev BOk (X : Cx) (G : Gam) (W : WX) (e : Expr) (d : E) : Prop := PE X e (LB G W d)
abbrev FOk (X : Cx) (G : Gam) (W : WX) (e : Expr) (d : As) : Prop := PE X e (LF G W d)
abbrev TOk (X : Cx) (G : Gam) (W : WX) (e : Expr) (d : T) : Prop := PT X e (LT G W d)
abbrev WOk (X : Cx) (G : Gam) (W : WX) (e : Expr) (d : T) : Prop := PW X e (LT G W d)
abbrev AOk (X : Cx) (G : Gam) (W : WX) (e : List Expr) (d : As) : Prop := PA X e (LA G W d)

/-! ## Operations over HandS's rules -/
def OpD (f : PV → PV → Option PV) (r : PySem.W.Frag → R2) : Prop := ∀ (k : Kx) (S H : Hp) (p q z : PV) (x y : V) (Q : VK), Same S H → RepB k S H p x → RepB k S H q y → f p q = some z → (∀ v S' H', Grow S H S' H' → Rep k S' z v → Q v H') → r k.K x y H Q
def OpB (f : PV → PV → Option Bool) (r : PySem.W.Frag → R2) : Prop := ∀ (k : Kx) (S H : Hp) (p q : PV) (z : Bool) (x y : V) (Q : VK), Same S H → RepB k S H p x → RepB k S H q y → f p q = some z → Q (.bl z) H → r k.K x y H Q

section
variable {k : Kx} {S H : Hp} {v : V}
theorem repB_int {i : Int} (h : RepB k S H (.int i) v) : v = .int i := by
  rcases h with h | ⟨_, _, _, h, _⟩
  · simpa only [Rep] using h
  · cases h
theorem repB_str {x : Str} (h : RepB k S H (.str x) v) : v = .str x := by
  rcases h with h | ⟨_, _, _, h, _⟩
  · simpa only [Rep] using h
  · cases h
theorem repB_bl {b : Bool} (h : RepB k S H (.bl b) v) : v = .bl b := by
  rcases h with h | ⟨_, _, _, h, _⟩
  · simpa only [Rep] using h
  · cases h
theorem repB_non (h : RepB k S H .non v) : v = .non := by
  rcases h with h | ⟨_, _, _, h, _⟩
  · simpa only [Rep] using h
  · cases h
theorem repB_tup {ps : List PV} (e : Same S H) (h : RepB k S H (.tup ps) v) : ∃ a us, v = .ref a ∧ SqT k.K S a us ∧ SqT k.K H a us ∧ Reps k S ps us := by
  rcases h with h | ⟨_, _, _, h, _⟩
  · simp only [Rep] at h
    obtain ⟨a, us, h1, h2, h3⟩ := h
    exact ⟨a, us, h1, h2, sqT_mono e h2, h3⟩
  · cases h
theorem repB_lst {ps : List PV} (e : Same S H) (h : RepB k S H (.lst ps) v) : ∃ a us, v = .ref a ∧ H a = some (.lst us) ∧ Reps k S ps us := by
  rcases h with h | ⟨_, a, us, h, h1, h2, h3⟩
  · simp only [Rep] at h
    obtain ⟨a, us, h1, h2, h3⟩ := h
    exact ⟨a, us, h1, e _ _ h2, h3⟩
  · cases h
    exact ⟨a, us, h1, h2, h3⟩
theorem repB_scr {ps : List PV} (e : Same S H) (h : RepB k S H (.scr ps) v) : ∃ a us, v = .ref a ∧ SqL k.K H a us ∧ Reps k S ps us := by
  rcases h with h | ⟨_, _, _, h, _⟩
  · simp only [Rep] at h
    obtain ⟨a, us, h1, h2, h3⟩ := h
    exact ⟨a, us, h1, e.seq h2, h3⟩
  · cases h
theorem repB_dic {ks : List L2.Key} {ps : List PV} (e : Same S H) (h : RepB k S H (.dic ks ps) v) : ∃ a us, v = .ref a ∧ H a = some (.dK (ks.zip us)) ∧ ks.length = us.length ∧ Reps k S ps us := by
  rcases h with h | ⟨_, _, _, h, _⟩
  · simp only [Rep] at h
    obtain ⟨a, us, h1, h2, h3, h4⟩ := h
    exact ⟨a, us, h1, e _ _ h2, h3, h4⟩
  · cases h
theorem rep_dic {ks : List L2.Key} {ps : List PV} {a : Addr} {us : List V} (h : S a = some (.dK (ks.zip us))) (hl : ks.length = us.length) (r : Reps k S ps us) : Rep k S (.dic ks ps) (.ref a) := by
  simp only [Rep]
  exact ⟨a, us, rfl, h, hl, r⟩
theorem rep_int (i : Int) : Rep k S (.int i) (.int i) := by simp only [Rep]
theorem rep_bl (b : Bool) : Rep k S (.bl b) (.bl b) := by simp only [Rep]
theorem rep_str (x : Str) : Rep k S (.str x) (.str x) := by simp only [Rep]
theorem rep_non : Rep k S .non .non := by simp only [Rep]
theorem rep_tup {ps : List PV} {a : Addr} {us : List V} (h : SqT k.K S a us) (r : Reps k S ps us) : Rep k S (.tup ps) (.ref a) := by
  simp only [Rep]
  exact ⟨a, us, rfl, h, r⟩
theorem rep_lst {ps : List PV} {a : Addr} {us : List V} (h : S a = some (.lst us)) (r : Reps k S ps us) : Rep k S (.lst ps) (.ref a) := by
  simp only [Rep]
  exact ⟨a, us, rfl, h, r⟩
theorem noTb_tup {xs : List V} : NoTb (.tup xs) := fun _ h => by cases h
theorem noTb_lst {xs : List V} : NoTb (.lst xs) := fun _ h => by cases h
end
end PF

set_option Elab.async false
set_option linter.all false
set_option maxRecDepth 100000
namespace PF
open PySem PySem.Spec PyProof.Rows L2

/-! ## The operations keep to HandS's rules -/
section
variable {X : Cx}
def rAddA (K : PySem.W.Frag) : R2 := fun x y H Q => rI0 (fun i j => .int (i + j)) x y H Q ∨ (∃ i j, x = .str i ∧ y = .str j ∧ i.length + j.length ≤ sizeLine ∧ Q (.str (i ++ j)) H) ∨ rCatA K x y H Q
theorem op_addA : OpR X (binaryOp .Add) (rAddA X.K) := op_add.or (op_add_str.or op_catA)
def CMulP (i j : Int) : Prop := mulOk i j = true
theorem CMulP.ok {i j : Int} (h : CMulP i j) : IntMulOk i j := by
  unfold CMulP mulOk at h
  simp only [Bool.or_eq_true, decide_eq_true_eq] at h
  rcases h with (h | h) | h
  · exact CMul.ok (.inl ⟨by omega, by omega⟩)
  · exact CMul.ok (.inr ⟨by omega, by omega⟩)
  · exact CMulX.ok (show (Builtin.Int.intBits i : Int) + (Builtin.Int.intBits j : Int) ≤ 134217728 by omega)
theorem op_mulP : OpR X (binaryOp .Mult) (rI CMulP fun i j => .int (i * j)) := opI fun _ _ _ _ _ _ _ hc q => mul_int q hc.ok
def CDivP9 (_ j : Int) : Prop := j ≠ 0 ∧ j.natAbs.log2 < 9000
theorem op_floorP : OpR X (binaryOp .FloorDiv) (rI CDivP9 fun i j => .int (i.fdiv j)) := opI fun i j _ _ _ _ _ hc q =>
  floordiv_int hc.1 q (.inl (PyProof.noPylong_of_log2 hc.2))

theorem od_add : OpD pAdd rAddA := by
  intro k S H p q z x y Q e rx ry h q1
  cases p <;> cases q <;> simp only [pAdd] at h <;> try cases h
  · cases repB_int rx; cases repB_int ry
    exact .inl ⟨_, _, rfl, rfl, q1 _ S H (.refl e) (rep_int _)⟩
  · rename_i a b
    by_cases hl : a.length + b.length ≤ lineN
    · rw [if_pos hl] at h
      cases h
      cases repB_str rx; cases repB_str ry
      exact .inr (.inl ⟨_, _, rfl, rfl, by rw [← lineN_eq]; exact hl, q1 _ S H (.refl e) (rep_str _)⟩)
    · rw [if_neg hl] at h; cases h
  · rename_i a b
    by_cases hl : a.length + b.length ≤ lineN
    · rw [if_pos hl] at h
      cases h
      obtain ⟨a1, us, rfl, hs1, h1, r1⟩ := repB_tup e rx
      obtain ⟨a2, ws, rfl, hs2, h2, r2⟩ := repB_tup e ry
      have l1 := r1.len
      have l2 := r2.len
      refine .inr (.inr ⟨a1, a2, us, ws, rfl, rfl, h1, h2, by rw [← l1, ← l2, ← lineN_eq]; exact hl, fun e1 => ?_, fun e1 e2 => ?_, fun e1 e2 p hp => ?_⟩)
      · subst e1
        have : a = [] := List.eq_nil_of_length_eq_zero l1
        subst this
        exact q1 _ S H (.refl e) (rep_tup hs2 r2)
      · subst e2
        have : b = [] := List.eq_nil_of_length_eq_zero l2
        subst this
        rw [List.append_nil] at q1
        exact q1 _ S H (.refl e) (rep_tup hs1 r1)
      · have g := Grow.new (S := S) e hp (noTb_tup (xs := us ++ ws))
        exact q1 _ _ _ g (rep_tup (.of upd_same) ((r1.append r2).mono g.sS))
    · rw [if_neg hl] at h; cases h
theorem od_int0 {f : PV → PV → Option PV} {g : Int → Int → Int} (hf : ∀ p q z, f p q = some z → ∃ i j, p = .int i ∧ q = .int j ∧ z = .int (g i j)) : OpD f (fun _ => rI0 fun i j => .int (g i j)) := by
  intro k S H p q z x y Q e rx ry h q1
  obtain ⟨i, j, rfl, rfl, rfl⟩ := hf _ _ _ h
  cases repB_int rx; cases repB_int ry
  exact ⟨_, _, rfl, rfl, q1 _ S H (.refl e) (rep_int _)⟩
theorem od_int {f : PV → PV → Option PV} {c : Int → Int → Prop} {g : Int → Int → Int} (hf : ∀ p q z, f p q = some z → ∃ i j, p = .int i ∧ q = .int j ∧ c i j ∧ z = .int (g i j)) : OpD f (fun _ => rI c fun i j => .int (g i j)) := by
  intro k S H p q z x y Q e rx ry h q1
  obtain ⟨i, j, rfl, rfl, hc, rfl⟩ := hf _ _ _ h
  cases repB_int rx; cases repB_int ry
  exact ⟨_, _, rfl, rfl, hc, q1 _ S H (.refl e) (rep_int _)⟩
theorem od_sub : OpD pSub (fun _ => rI0 fun i j => .int (i - j)) := od_int0 fun p q z h => by
  cases p <;> cases q <;> simp only [pSub] at h <;> try cases h
  exact ⟨_, _, rfl, rfl, rfl⟩
theorem od_and : OpD pAnd (fun _ => rI0 fun i j => .int (Builtin.bitAnd i j)) := od_int0 fun p q z h => by
  cases p <;> cases q <;> simp only [pAnd] at h <;> try cases h
  exact ⟨_, _, rfl, rfl, rfl⟩
theorem od_or : OpD pOr (fun _ => rI0 fun i j => .int (Builtin.bitOr i j)) := od_int0 fun p q z h => by
  cases p <;> cases q <;> simp only [pOr] at h <;> try cases h
  exact ⟨_, _, rfl, rfl, rfl⟩
theorem od_xor : OpD pXor (fun _ => rI0 fun i j => .int (Builtin.bitXor i j)) := od_int0 fun p q z h => by
  cases p <;> cases q <;> simp only [pXor] at h <;> try cases h
  exact ⟨_, _, rfl, rfl, rfl⟩
theorem od_mul : OpD pMul (fun _ => rI CMulP fun i j => .int (i * j)) := od_int fun p q z h => by
  cases p <;> cases q <;> simp only [pMul] at h <;> try cases h
  rename_i i j
  by_cases c : mulOk i j = true
  · rw [if_pos c] at h; cases h; exact ⟨_, _, rfl, rfl, c, rfl⟩
  · rw [if_neg c] at h; cases h
theorem od_floor : OpD pFloor (fun _ => rI CDivP9 fun i j => .int (i.fdiv j)) := od_int fun p q z h => by
  cases p <;> cases q <;> simp only [pFloor] at h <;> try cases h
  rename_i i j
  by_cases c : 0 < j ∧ j.natAbs.log2 < 9000
  · rw [if_pos c] at h; cases h
    exact ⟨_, _, rfl, rfl, ⟨by omega, c.2⟩, by rw [Int.fdiv_eq_ediv_of_nonneg i (by omega)]⟩
  · rw [if_neg c] at h
    by_cases c' : j < 0 ∧ j.natAbs.log2 < 9000
    · rw [if_pos c'] at h; cases h
      exact ⟨_, _, rfl, rfl, ⟨by omega, c'.2⟩, rfl⟩
    · rw [if_neg c'] at h; cases h
theorem od_mod : OpD pMod (fun _ => rI (fun _ j => j ≠ 0) fun i j => .int (i.fmod j)) := od_int fun p q z h => by
  cases p <;> cases q <;> simp only [pMod] at h <;> try cases h
  rename_i i j
  by_cases c : 0 < j
  · rw [if_pos c] at h; cases h
    exact ⟨_, _, rfl, rfl, by omega, by rw [Int.fmod_eq_emod_of_nonneg i (by omega)]⟩
  · rw [if_neg c] at h
    by_cases c' : j < 0
    · rw [if_pos c'] at h; cases h
      exact ⟨_, _, rfl, rfl, by omega, rfl⟩
    · rw [if_neg c'] at h; cases h
theorem od_pow : OpD pPow (fun _ => rI CPow fun i j => .int (i ^ j.toNat)) := od_int fun p q z h => by
  cases p <;> cases q <;> simp only [pPow] at h <;> try cases h
  rename_i i j
  by_cases c : 0 ≤ j ∧ j ≤ 1000000 ∧ i.natAbs < 2 ^ 64
  · rw [if_pos c] at h; cases h; exact ⟨_, _, rfl, rfl, c, rfl⟩
  · rw [if_neg c] at h; cases h
theorem od_shl : OpD pShl (fun _ => rI CShl fun i j => .int (i * 2 ^ j.toNat)) := od_int fun p q z h => by
  cases p <;> cases q <;> simp only [pShl] at h <;> try cases h
  rename_i i j
  by_cases c : 0 ≤ j ∧ (Builtin.Int.intBits i : Int) + j ≤ 134217728
  · rw [if_pos c] at h; cases h; exact ⟨_, _, rfl, rfl, ⟨c.1, by have := c.2; omega⟩, rfl⟩
  · rw [if_neg c] at h; cases h
theorem od_shr : OpD pShr (fun _ => rI (fun _ j => 0 ≤ j) fun i j => .int (i / 2 ^ j.toNat)) := od_int fun p q z h => by
  cases p <;> cases q <;> simp only [pShr] at h <;> try cases h
  rename_i i j
  by_cases c : 0 ≤ j
  · rw [if_pos c] at h; cases h; exact ⟨_, _, rfl, rfl, c, rfl⟩
  · rw [if_neg c] at h; cases h
theorem ob_int0 {f : PV → PV → Option Bool} {g : Int → Int → Bool} (hf : ∀ p q z, f p q = some z → ∃ i j, p = .int i ∧ q = .int j ∧ z = g i j) : OpB f (fun _ => rI0 fun i j => .bl (g i j)) := by
  intro k S H p q z x y Q e rx ry h q1
  obtain ⟨i, j, rfl, rfl, rfl⟩ := hf _ _ _ h
  cases repB_int rx; cases repB_int ry
  exact ⟨_, _, rfl, rfl, q1⟩
theorem ob_lt : OpB cLt (fun _ => rI0 fun i j => .bl (decide (i < j))) := ob_int0 fun p q z h => by
  cases p <;> cases q <;> simp only [cLt] at h <;> try cases h
  exact ⟨_, _, rfl, rfl, rfl⟩
theorem ob_le : OpB cLe (fun _ => rI0 fun i j => .bl (decide (i ≤ j))) := ob_int0 fun p q z h => by
  cases p <;> cases q <;> simp only [cLe] at h <;> try cases h
  exact ⟨_, _, rfl, rfl, rfl⟩
theorem ob_gt : OpB cGt (fun _ => rI0 fun i j => .bl (decide (j < i))) := ob_int0 fun p q z h => by
  cases p <;> cases q <;> simp only [cGt] at h <;> try cases h
  exact ⟨_, _, rfl, rfl, rfl⟩
theorem ob_ge : OpB cGe (fun _ => rI0 fun i j => .bl (decide (j ≤ i))) := ob_int0 fun p q z h => by
  cases p <;> cases q <;> simp only [cGe] at h <;> try cases h
  exact ⟨_, _, rfl, rfl, rfl⟩

/-! ### == over data -/
mutual
def toD : PV → PyData
  | .non => .none
  | .bl b => .bool b
  | .int i => .int i
  | .str x => .str x
  | .tup xs => .tuple (toDs xs)
  | .lst xs => .list (toDs xs)
  | .fn _ => .none
  | .dic _ _ => .none
  | .scr _ => .none
def toDs : List PV → List PyData
  | [] => []
  | x :: xs => toD x :: toDs xs
end
mutual
theorem eqv_toD : ∀ (p q : PV), dep p < 100 → dep q < 100 → PyData.eqv (toD p) (toD q) = eqv p q
  | .non, q, _, hq => by cases q <;> simp_all [toD, PyData.eqv, eqv, dep]
  | .bl b, q, _, hq => by cases q <;> simp_all [toD, PyData.eqv, eqv, dep]
  | .int i, q, _, hq => by cases q <;> simp_all [toD, PyData.eqv, eqv, dep]
  | .str x, q, _, hq => by cases q <;> simp_all [toD, PyData.eqv, eqv, dep]
  | .tup xs, q, hp, hq => by
    cases q with
    | tup ys =>
      simp only [toD, PyData.eqv, eqv]
      simp only [dep] at hp hq
      exact eqvs_toD xs ys (by omega) (by omega)
    | fn _ => simp [dep] at hq
    | scr _ => simp [dep] at hq
    | _ => simp [toD, PyData.eqv, eqv]
  | .lst xs, q, hp, hq => by
    cases q with
    | lst ys =>
      simp only [toD, PyData.eqv, eqv]
      simp only [dep] at hp hq
      exact eqvs_toD xs ys (by omega) (by omega)
    | fn _ => simp [dep] at hq
    | scr _ => simp [dep] at hq
    | _ => simp [toD, PyData.eqv, eqv]
  | .fn _, _, hp, _ => by simp [dep] at hp
  | .dic _ _, _, hp, _ => by simp [dep] at hp
  | .scr _, _, hp, _ => by simp [dep] at hp
theorem eqvs_toD : ∀ (ps qs : List PV), deps ps < 100 → deps qs < 100 → PyData.eqvAll (toDs ps) (toDs qs) = eqvs ps qs
  | [], [], _, _ => by simp [toDs, PyData.eqvAll, eqvs]
  | [], _ :: _, _, _ => by simp [toDs, PyData.eqvAll, eqvs]
  | _ :: _, [], _, _ => by simp [toDs, PyData.eqvAll, eqvs]
  | p :: ps, q :: qs, hp, hq => by
    simp only [deps] at hp hq
    simp only [toDs, PyData.eqvAll, eqvs]
    rw [eqv_toD p q (by omega) (by omega), eqvs_toD ps qs (by omega) (by omega)]
end
mutual
theorem lay_toD : ∀ (p : PV), dep p < 100 → (toD p).canLay0 = true ∧ (toD p).depth ≤ dep p
  | .non, _ => by simp [toD, PyData.canLay0, PyData.depth, dep]
  | .bl b, _ => by simp [toD, PyData.canLay0, PyData.depth, dep]
  | .int i, _ => by simp [toD, PyData.canLay0, PyData.depth, dep]
  | .str x, h => by
    simp only [dep] at h
    split at h
    · rename_i c
      simp [toD, PyData.canLay0, PyData.depth, dep, c]
    · omega
  | .fn x, h => by simp [dep] at h
  | .dic _ _, h => by simp [dep] at h
  | .scr x, h => by simp [dep] at h
  | .tup xs, hd => by
    simp only [dep] at hd
    have h := lays_toD xs (by omega)
    simp only [toD, PyData.canLay0, PyData.depth, dep]
    exact ⟨h.1, by omega⟩
  | .lst xs, hd => by
    simp only [dep] at hd
    have h := lays_toD xs (by omega)
    simp only [toD, PyData.canLay0, PyData.depth, dep]
    exact ⟨h.1, by omega⟩
theorem lays_toD : ∀ (ps : List PV), deps ps < 100 → PyData.canLayAll0 (toDs ps) = true ∧ PyData.depthAll (toDs ps) ≤ deps ps
  | [], _ => by simp [toDs, PyData.canLayAll0, PyData.depthAll, deps]
  | p :: ps, hd => by
    simp only [deps] at hd
    have h := lay_toD p (by omega)
    have h' := lays_toD ps (by omega)
    simp only [toDs, PyData.canLayAll0, PyData.depthAll, deps, Bool.and_eq_true]
    exact ⟨⟨h.1, h'.1⟩, by omega⟩
end
theorem shaped_toD {p : PV} (h : dep p ≤ 60) : SeqAt.shaped (toD p) = true := by
  have := lay_toD p (by omega)
  unfold SeqAt.shaped
  simp only [Bool.and_eq_true, decide_eq_true_eq]
  exact ⟨this.1, by omega⟩
mutual
theorem dp_of {k : Kx} {S H : Hp} (e : Same S H) : ∀ (p : PV) (v : V), dep p < 100 → Rep k S p v → Dp k.K H v (toD p)
  | .non, v, _, h => by simp only [Rep] at h; subst h; simp only [toD]; exact .non
  | .bl b, v, _, h => by simp only [Rep] at h; subst h; simp only [toD]; exact .bl _
  | .int i, v, _, h => by simp only [Rep] at h; subst h; simp only [toD]; exact .int _
  | .str x, v, _, h => by simp only [Rep] at h; subst h; simp only [toD]; exact .str _
  | .fn x, v, hd, h => by simp [dep] at hd
  | .dic _ _, v, hd, h => by simp [dep] at hd
  | .scr x, v, hd, h => by simp [dep] at hd
  | .tup xs, v, hd, h => by
    simp only [Rep] at h
    obtain ⟨a, us, rfl, h1, h2⟩ := h
    simp only [toD]
    simp only [dep] at hd
    exact .tup (sqT_mono e h1) (dps_of e xs us (by omega) h2)
  | .lst xs, v, hd, h => by
    simp only [Rep] at h
    obtain ⟨a, us, rfl, h1, h2⟩ := h
    simp only [toD]
    simp only [dep] at hd
    exact .lst (.of (e _ _ h1)) (dps_of e xs us (by omega) h2)
theorem dps_of {k : Kx} {S H : Hp} (e : Same S H) : ∀ (ps : List PV) (vs : List V), deps ps < 100 → Reps k S ps vs → DpAll k.K H vs (toDs ps)
  | [], vs, _, h => by simp only [Reps] at h; subst h; simp only [toDs]; exact .nil
  | p :: ps, vs, hd, h => by
    simp only [Reps] at h
    obtain ⟨u, r, rfl, h1, h2⟩ := h
    simp only [deps] at hd
    simp only [toDs]
    exact .cons (dp_of e p u (by omega) h1) (dps_of e ps r (by omega) h2)
end
theorem dpB_of {k : Kx} {S H : Hp} (e : Same S H) {p : PV} {v : V} (hd : dep p < 100) (h : RepB k S H p v) : Dp k.K H v (toD p) := by
  rcases h with h | ⟨ps, a, us, rfl, rfl, h1, h2⟩
  · exact dp_of e p v hd h
  · simp only [toD]
    simp only [dep] at hd
    exact .lst (.of h1) (dps_of e ps us (by omega) h2)
theorem ob_eq : OpB cEq rEqD := by
  intro k S H p q z x y Q e rx ry h q1
  unfold cEq at h
  by_cases c : dep p ≤ 60 ∧ dep q ≤ 60
  · rw [if_pos c] at h; cases h
    exact ⟨toD p, toD q, dpB_of e (by omega) rx, dpB_of e (by omega) ry, shaped_toD c.1, shaped_toD c.2, by rw [eqv_toD p q (by omega) (by omega)]; exact q1⟩
  · rw [if_neg c] at h; cases h
theorem ob_ne : OpB cNe rNeD := by
  intro k S H p q z x y Q e rx ry h q1
  unfold cNe at h
  by_cases c : dep p ≤ 60 ∧ dep q ≤ 60
  · rw [if_pos c] at h; cases h
    exact ⟨toD p, toD q, dpB_of e (by omega) rx, dpB_of e (by omega) ry, shaped_toD c.1, shaped_toD c.2, by rw [eqv_toD p q (by omega) (by omega)]; exact q1⟩
  · rw [if_neg c] at h; cases h
def rIsNo : R2 := fun x y H Q => y = .non ∧ Q (.bl (decide (x = .non))) H
def rNotNo : R2 := fun x y H Q => y = .non ∧ Q (.bl (!decide (x = .non))) H
theorem rep_non_iff {k : Kx} {S H : Hp} {p : PV} {v : V} (h : RepB k S H p v) : v = .non ↔ p = .non := by
  rcases h with h | ⟨ps, a, us, rfl, rfl, _⟩
  · constructor
    · intro e; subst e
      cases p <;> simp_all [Rep]
    · intro e; subst e; simpa only [Rep] using h
  · simp
theorem ob_isN : OpB cIsN (fun _ => rIsNo) := by
  intro k S H p q z x y Q e rx ry h q1
  have hq : q = .non := by cases p <;> cases q <;> simp_all [cIsN]
  subst hq
  refine ⟨repB_non ry, ?_⟩
  have hi := rep_non_iff rx
  have : decide (x = V.non) = z := by
    cases p <;> simp only [cIsN] at h <;> cases h <;> simp [hi]
  rw [this]; exact q1
theorem ob_notN : OpB cNotN (fun _ => rNotNo) := by
  intro k S H p q z x y Q e rx ry h q1
  have hq : q = .non := by cases p <;> cases q <;> simp_all [cNotN]
  subst hq
  refine ⟨repB_non ry, ?_⟩
  have hi := rep_non_iff rx
  have : (!decide (x = V.non)) = z := by
    cases p <;> simp only [cNotN] at h <;> cases h <;> simp [hi]
  rw [this]; exact q1
theorem Reps.empty {k : Kx} {S : Hp} {ps : List PV} {us : List V} (r : Reps k S ps us) : ps.isEmpty = us.isEmpty := by
  have := r.len
  cases ps <;> cases us <;> simp_all
theorem truV_of {k : Kx} {S H : Hp} {p : PV} {v : V} {b : Bool} (e : Same S H) (h : RepB k S H p v) (ht : tru p = some b) : TruV k.K v H b := by
  cases p <;> simp only [tru] at ht <;> try cases ht
  · cases repB_non h; rfl
  · cases repB_bl h; rfl
  · cases repB_int h; rfl
  · rename_i x
    cases repB_str h
    by_cases c : x.length ≤ lineN
    · rw [if_pos c] at ht; cases ht
      exact ⟨by rw [← lineN_eq]; exact c, rfl⟩
    · rw [if_neg c] at ht; cases ht
  · obtain ⟨a, us, rfl, _, h1, r⟩ := repB_tup e h
    refine .inr (.inl ⟨us, h1, ?_⟩)
    rw [r.empty]
  · obtain ⟨a, us, rfl, h1, r⟩ := repB_lst e h
    refine .inl ⟨us, .of h1, ?_⟩
    rw [r.empty]
end
end PF

set_option Elab.async false
set_option linter.all false
set_option maxRecDepth 100000
namespace PF
open PySem PySem.Spec PyProof.Rows L2

section
variable {X : Cx} {G : Gam} {W : WX} {e a b c : Expr} {es : List Expr} {d da db dc : E} {pos p : Pos}

/-! ## Names, constants -/
theorem e_const {v : V} {q : PV} (h : PE X e (tC v)) (r : ∀ S, Rep G.k S q v) : EOk X G W e (dC q) := pe_weak h fun σ H Q ⟨S, ρ, R, P⟩ => P v S H (.refl S) R (r S)
theorem e_int {i : Int} {j : Nat} : EOk X G W (.Constant (.int i) j pos) (dC (.int i)) := e_const pe_int fun _ => rep_int i
theorem e_str {x : Str} {j : Nat} : EOk X G W (.Constant (.str x) j pos) (dC (.str x)) := e_const pe_str fun _ => rep_str x
theorem e_bl {x : Bool} {j : Nat} : EOk X G W (.Constant (.bool x) j pos) (dC (.bl x)) := e_const pe_bl fun _ => rep_bl x
theorem e_non {j : Nat} : EOk X G W (.Constant .none j pos) (dC .non) := e_const pe_non fun _ => rep_non
theorem e_var {i : Nat} (h : PE X e (tVar i)) : EOk X G W e (dV i) := pe_weak h fun σ H Q ⟨S, ρ, R, P⟩ => by
  unfold dV at P
  cases q : ρ[i]? with
  | none => rw [q] at P; exact P.elim
  | some s =>
    rw [q] at P
    cases s with
    | val w =>
      obtain ⟨v, e1, r⟩ := R.val q
      exact ⟨v, e1, P v S H (.refl S) R r⟩
    | unb => exact P.elim
    | own w => exact P.elim
theorem Rel.slotB {S H : Hp} {ρ : Env} {σ : L2.St} {i : Nat} {q : PV} {ρ' : Env} (R : Rel G S H ρ σ) (h : dB i ρ = .ok q ρ') : ρ' = ρ ∧ ∃ v, σ[i]? = some (some v) ∧ RepB G.k S H q v := by
  unfold dB at h
  cases e1 : ρ[i]? with
  | none => rw [e1] at h; cases h
  | some s =>
    rw [e1] at h
    cases s with
    | val w =>
      cases h
      obtain ⟨v, e2, r⟩ := R.val e1
      exact ⟨rfl, v, e2, .inl r⟩
    | unb => cases h
    | own w =>
      cases h
      obtain ⟨a, ps, us, e2, ep, hS, hH, hr⟩ := R.own e1
      exact ⟨rfl, .ref a, e2, .inr ⟨ps, a, us, ep, rfl, hH, hr⟩⟩
theorem b_var {i : Nat} (h : PE X e (tVar i)) : BOk X G W e (dB i) := pe_weak h fun σ H Q ⟨S, ρ, R, P⟩ => by
  cases q : dB i ρ with
  | ok w ρ' =>
    obtain ⟨rfl, v, e1, r⟩ := R.slotB q
    rw [q] at P
    exact ⟨v, e1, P v S H (.refl S) R r⟩
  | exc x ρ' => unfold dB at q; split at q <;> cases q
  | stuck => rw [q] at P; exact P.elim
/-- a frozen value is one that can be read on the spot -/
theorem b_of (h : EOk X G W e d) : BOk X G W e d := pe_weak h fun σ H Q ⟨S, ρ, R, P⟩ => ⟨S, ρ, R, by
  cases q : d ρ with
  | ok w ρ' => rw [q] at P; exact fun v S' H' e1 r1 r => P v S' H' e1 r1 (.inl r)
  | exc x ρ' => rw [q] at P; exact P
  | stuck => rw [q] at P; exact P⟩

/-! ## Operators -/
variable {f : PV → PV → Option PV} {g g' : PV → PV → Option Bool} {r : PySem.W.Frag → R2} {r' : PySem.W.Frag → R2}
theorem e_bin {op : Operator} (od : OpD f r) (ho : OpR X (binaryOp op) (r X.K)) (C : Ct X G W) (ha : EOk X G W a da) (hb : EOk X G W b db) : EOk X G W (.BinOp a op b pos) (dOp f da db) :=
  pe_weak (pe_op ho ha hb) fun σ H Q ⟨S, ρ, R, P⟩ => ⟨S, ρ, R, Post.bind (R1 := RE G.k) P fun x ρ1 v S1 H1 s1 R1 rv P1 => ⟨S1, ρ1, R1, Post.bind (R1 := RE G.k) P1 fun y ρ2 u S2 H2 s2 R2 ru P2 => by
    obtain ⟨z, ez, P3⟩ := Post.ofO P2
    rw [← C.K]
    exact od G.k S2 H2 x y z v u Q R2.sub (.inl (rv.mono s2)) (.inl ru) ez fun w S3 H3 gr rw' => P3 w S3 H3 gr.sS (R2.grow gr) rw'⟩⟩
theorem e_add (C : Ct X G W) (ha : EOk X G W a da) (hb : EOk X G W b db) : EOk X G W (.BinOp a .Add b pos) (dOp pAdd da db) := e_bin od_add op_addA C ha hb
theorem e_sub (C : Ct X G W) (ha : EOk X G W a da) (hb : EOk X G W b db) : EOk X G W (.BinOp a .Sub b pos) (dOp pSub da db) := e_bin od_sub op_sub C ha hb
theorem e_mul (C : Ct X G W) (ha : EOk X G W a da) (hb : EOk X G W b db) : EOk X G W (.BinOp a .Mult b pos) (dOp pMul da db) := e_bin od_mul op_mulP C ha hb
theorem e_floor (C : Ct X G W) (ha : EOk X G W a da) (hb : EOk X G W b db) : EOk X G W (.BinOp a .FloorDiv b pos) (dOp pFloor da db) := e_bin od_floor op_floorP C ha hb
theorem e_mod (C : Ct X G W) (ha : EOk X G W a da) (hb : EOk X G W b db) : EOk X G W (.BinOp a .Mod b pos) (dOp pMod da db) := e_bin od_mod op_modN C ha hb
theorem e_pow (C : Ct X G W) (ha : EOk X G W a da) (hb : EOk X G W b db) : EOk X G W (.BinOp a .Pow b pos) (dOp pPow da db) := e_bin od_pow op_pow C ha hb
theorem e_shl (C : Ct X G W) (ha : EOk X G W a da) (hb : EOk X G W b db) : EOk X G W (.BinOp a .LShift b pos) (dOp pShl da db) := e_bin od_shl op_shlW C ha hb
theorem e_shr (C : Ct X G W) (ha : EOk X G W a da) (hb : EOk X G W b db) : EOk X G W (.BinOp a .RShift b pos) (dOp pShr da db) := e_bin od_shr op_shr C ha hb
theorem e_and (C : Ct X G W) (ha : EOk X G W a da) (hb : EOk X G W b db) : EOk X G W (.BinOp a .BitAnd b pos) (dOp pAnd da db) := e_bin od_and op_and C ha hb
theorem e_or (C : Ct X G W) (ha : EOk X G W a da) (hb : EOk X G W b db) : EOk X G W (.BinOp a .BitOr b pos) (dOp pOr da db) := e_bin od_or op_or C ha hb
theorem e_xor (C : Ct X G W) (ha : EOk X G W a da) (hb : EOk X G W b db) : EOk X G W (.BinOp a .BitXor b pos) (dOp pXor da db) := e_bin od_xor op_xor C ha hb
theorem e_neg (C : Ct X G W) (ha : EOk X G W a da) : EOk X G W (.UnaryOp .USub a pos) (dUn pNeg da) :=
  pe_weak (pe_un un_neg ha) fun σ H Q ⟨S, ρ, R, P⟩ => ⟨S, ρ, R, Post.bind (R1 := RE G.k) P fun x ρ1 v S1 H1 s1 R1 rv P1 => by
    obtain ⟨z, ez, P3⟩ := Post.ofO P1
    cases x <;> simp only [pNeg] at ez <;> cases ez
    simp only [Rep] at rv
    subst rv
    exact ⟨_, rfl, P3 _ S1 H1 (.refl _) R1 (rep_int _)⟩⟩
theorem e_inv (C : Ct X G W) (ha : EOk X G W a da) : EOk X G W (.UnaryOp .Invert a pos) (dUn pInv da) :=
  pe_weak (pe_un un_inv ha) fun σ H Q ⟨S, ρ, R, P⟩ => ⟨S, ρ, R, Post.bind (R1 := RE G.k) P fun x ρ1 v S1 H1 s1 R1 rv P1 => by
    obtain ⟨z, ez, P3⟩ := Post.ofO P1
    cases x <;> simp only [pInv] at ez <;> cases ez
    simp only [Rep] at rv
    subst rv
    exact ⟨_, rfl, P3 _ S1 H1 (.refl _) R1 (rep_int _)⟩⟩

/-! ## Comparisons and tests -/
theorem Post.imp {α β : Type} {σ : L2.St} {S : Hp} {R : Env → Hp → Hp → α → β → Prop} {o : Out α} {Q Q' : β → Hp → Prop} (h : Post G W σ R o S Q) (k : ∀ b H', Q b H' → Q' b H') : Post G W σ R o S Q' := by
  cases o with
  | ok x ρ => exact fun b S' H' e r q => k _ _ (h b S' H' e r q)
  | exc x ρ => exact h
  | stuck => exact h
theorem cmp_aux (ob : OpB g r) (C : Ct X G W) {σ : L2.St} {H S : Hp} {ρ : Env} {Q : VK} (R : Rel G S H ρ σ) (P : Post G W σ RT (tCmp g da db ρ) S (fun k H' => Q (.bl k) H')) :
    tOp (r X.K) (LE G W da) (LB G W db) σ H Q :=
  ⟨S, ρ, R, Post.bind (R1 := RE G.k) P fun x ρ1 v S1 H1 s1 R1 rv P1 => ⟨S1, ρ1, R1, Post.bind (R1 := RB G.k) P1 fun y ρ2 u S2 H2 s2 R2 ru P2 => by
    obtain ⟨z, ez, P3⟩ := Post.ofO P2
    rw [← C.K]
    exact ob G.k S2 H2 x y z v u _ R2.sub (.inl (rv.mono s2)) ru ez (P3 z S2 H2 (.refl _) R2 rfl)⟩⟩
theorem post_dT {t : T} {σ : L2.St} {S : Hp} {ρ : Env} {Q : VK} (P : Post G W σ (RE G.k) (dT t ρ) S Q) : Post G W σ RT (t ρ) S (fun k H' => Q (.bl k) H') := Post.bind P fun x ρ' v S' H' s' R' e P' => by
  cases e
  exact P' _ S' H' (.refl _) R' (rep_bl _)
theorem post_tst {t : T} {σ : L2.St} {S : Hp} {ρ : Env} {Q : Bool → Hp → Prop} (P : Post G W σ RT (t ρ) S Q) : Post G W σ RT (t ρ) S (fun k H' => (fun x H' => ∃ c, x = V.bl c ∧ Q c H') (V.bl k) H') := P.imp fun k H' q => ⟨k, rfl, q⟩
theorem t_cmp {op : CmpOp} (ob : OpB g r) (ho : OpR X (compareOp op) (r X.K)) (hm : behindInMarks op b = false) (C : Ct X G W) (ha : EOk X G W a da) (hb : BOk X G W b db) : TOk X G W (.Compare a [op] [b] pos) (tCmp g da db) :=
  pt_weak (pt_cmpR ho ha hb hm) fun σ H Q ⟨S, ρ, R, P⟩ => cmp_aux (Q := fun x H' => ∃ c, x = V.bl c ∧ Q c H') ob C R (post_tst P)
theorem e_cmp {op : CmpOp} (ob : OpB g r) (ho : OpR X (compareOp op) (r X.K)) (hm : behindInMarks op b = false) (C : Ct X G W) (ha : EOk X G W a da) (hb : BOk X G W b db) : EOk X G W (.Compare a [op] [b] pos) (dT (tCmp g da db)) :=
  pe_weak (pe_cmpR ho ha hb hm) fun σ H Q ⟨S, ρ, R, P⟩ => cmp_aux ob C R (post_dT P)
theorem chain_aux (o1 : OpB g r) (o2 : OpB g' r') (C : Ct X G W) {σ : L2.St} {H S : Hp} {ρ : Env} {Q : VK} (R : Rel G S H ρ σ) (P : Post G W σ RT (tChain g g' da db dc ρ) S (fun k H' => Q (.bl k) H')) :
    L2.tChain (r X.K) (r' X.K) (LE G W da) (LE G W db) (LE G W dc) σ H Q :=
  ⟨S, ρ, R, Post.bind (R1 := RE G.k) P fun x ρ1 v S1 H1 s1 R1 rv P1 => ⟨S1, ρ1, R1, Post.bind (R1 := RE G.k) P1 fun y ρ2 u S2 H2 s2 R2 ru P2 => by
    rw [← C.K]
    cases ez : g x y with
    | none => rw [ez] at P2; exact P2.elim
    | some z =>
      rw [ez] at P2
      refine o1 G.k S2 H2 x y z v u _ R2.sub (.inl (rv.mono s2)) (.inl ru) ez ⟨z, rfl, ?_⟩
      cases z with
      | false => rw [if_neg Bool.false_ne_true]; exact P2 false S2 H2 (.refl _) R2 rfl
      | true =>
        rw [if_pos rfl]
        exact ⟨S2, ρ2, R2, Post.bind (R1 := RE G.k) P2 fun w ρ3 t S3 H3 s3 R3 rt P3 => by
          obtain ⟨z', ez', P4⟩ := Post.ofO P3
          exact o2 G.k S3 H3 y w z' u t _ R3.sub (.inl (ru.mono s3)) (.inl rt) ez' (P4 z' S3 H3 (.refl _) R3 rfl)⟩⟩⟩
theorem t_chain {op op' : CmpOp} (o1 : OpB g r) (o2 : OpB g' r') (ho : OpR X (compareOp op) (r X.K)) (ho' : OpR X (compareOp op') (r' X.K)) (C : Ct X G W) (ha : EOk X G W a da) (hb : EOk X G W b db) (hc : EOk X G W c dc)
    (hm : lastMarks [op, op'] [b, c] = false := by with_unfolding_all rfl) : TOk X G W (.Compare a [op, op'] [b, c] pos) (tChain g g' da db dc) :=
  pt_weak (pt_chain ho ho' ha hb hc hm) fun σ H Q ⟨S, ρ, R, P⟩ => chain_aux (Q := fun x H' => ∃ c, x = V.bl c ∧ Q c H') o1 o2 C R (post_tst P)
theorem e_chain {op op' : CmpOp} (o1 : OpB g r) (o2 : OpB g' r') (ho : OpR X (compareOp op) (r X.K)) (ho' : OpR X (compareOp op') (r' X.K)) (C : Ct X G W) (ha : EOk X G W a da) (hb : EOk X G W b db) (hc : EOk X G W c dc)
    (hm : lastMarks [op, op'] [b, c] = false := by with_unfolding_all rfl) : EOk X G W (.Compare a [op, op'] [b, c] pos) (dT (tChain g g' da db dc)) :=
  pe_weak (pe_chain ho ho' ha hb hc hm) fun σ H Q ⟨S, ρ, R, P⟩ => chain_aux o1 o2 C R (post_dT P)

theorem op_isNo : OpR X (compareOp .Is) rIsNo := op_isN
theorem op_notNo : OpR X (compareOp .IsNot) rNotNo := op_notN

/-! ### truth -/
theorem t_tru (C : Ct X G W) (ha : BOk X G W a da) (he : ∀ whole, isTrue a X.env whole = (do let v ← whole; standAt a.pos; holding [v] (truthy v)) := by intro _; rfl) : TOk X G W a (tTru da) :=
  pt_weak (pt_truth ha he) fun σ H Q ⟨S, ρ, R, P⟩ => ⟨S, ρ, R, Post.bind (R1 := RB G.k) P fun x ρ1 v S1 H1 s1 R1 rv P1 => by
    obtain ⟨z, ez, P2⟩ := Post.ofO P1
    rw [← C.K]
    exact ⟨z, truV_of R1.sub rv ez, P2 z S1 H1 (.refl _) R1 rfl⟩⟩
theorem t_not {t : T} (h : TOk X G W a t) : TOk X G W (.UnaryOp .Not a pos) (tNot t) :=
  pt_weak (pt_not h) fun σ H Q ⟨S, ρ, R, P⟩ => ⟨S, ρ, R, Post.bind (R1 := RT) P fun x ρ1 v S1 H1 s1 R1 e P1 => by
    cases e
    exact P1 _ S1 H1 (.refl _) R1 rfl⟩
/-- not e as a value, by truth -/
def dNot (a : E) : E := dT (tNot (tTru a))
theorem e_not (C : Ct X G W) (ha : BOk X G W a da) : EOk X G W (.UnaryOp .Not a pos) (dNot da) :=
  pe_weak (pe_notT ha) fun σ H Q ⟨S, ρ, R, P⟩ => ⟨S, ρ, R, Post.bind (R1 := RB G.k) (Post.bind (R1 := RT) (post_dT P) (Q' := fun b H' => Q (.bl (!b)) H') fun x ρ1 v S1 H1 s1 R1 e P1 => by
    cases e
    exact P1 _ S1 H1 (.refl _) R1 rfl) fun x ρ1 v S1 H1 s1 R1 rv P1 => by
    obtain ⟨z, ez, P2⟩ := Post.ofO P1
    rw [← C.K]
    exact ⟨z, truV_of R1.sub rv ez, P2 z S1 H1 (.refl _) R1 rfl⟩⟩
theorem w_and1 {t : T} (h : TOk X G W a t) : WOk X G W (.BoolOp .And [a] pos) t := pw_and1 h
theorem w_or1 {t : T} (h : TOk X G W a t) : WOk X G W (.BoolOp .Or [a] pos) t := pw_or1 h
theorem w_and {t u : T} {rest : List Expr} (h : TOk X G W a t) (h' : WOk X G W (.BoolOp .And (b :: rest) pos) u) : WOk X G W (.BoolOp .And (a :: b :: rest) pos) (tAnd t u) :=
  pw_weak (pw_and h h') fun σ H Q ⟨S, ρ, R, P⟩ => ⟨S, ρ, R, Post.bind (R1 := RT) P fun x ρ1 v S1 H1 s1 R1 e P1 => by
    cases e
    cases x with
    | true => rw [if_pos rfl]; exact ⟨S1, ρ1, R1, P1⟩
    | false => rw [if_neg Bool.false_ne_true]; exact P1 _ S1 H1 (.refl _) R1 rfl⟩
theorem w_or {t u : T} {rest : List Expr} (h : TOk X G W a t) (h' : WOk X G W (.BoolOp .Or (b :: rest) pos) u) : WOk X G W (.BoolOp .Or (a :: b :: rest) pos) (tOr t u) :=
  pw_weak (pw_or h h') fun σ H Q ⟨S, ρ, R, P⟩ => ⟨S, ρ, R, Post.bind (R1 := RT) P fun x ρ1 v S1 H1 s1 R1 e P1 => by
    cases e
    cases x with
    | true => rw [if_pos rfl]; exact P1 _ S1 H1 (.refl _) R1 rfl
    | false => rw [if_neg Bool.false_ne_true]; exact ⟨S1, ρ1, R1, P1⟩⟩
theorem t_w {t : T} (h : WOk X G W a t) : TOk X G W a t := h.pt
theorem e_one {op : BoolOp} (h : EOk X G W a da) : EOk X G W (.BoolOp op [a] pos) da := pe_one h
theorem e_andV {rest : List Expr} (C : Ct X G W) (h : EOk X G W a da) (h' : EOk X G W (.BoolOp .And (b :: rest) pos) db) : EOk X G W (.BoolOp .And (a :: b :: rest) pos) (dAnd da db) :=
  pe_weak (pe_andT h h') fun σ H Q ⟨S, ρ, R, P⟩ => ⟨S, ρ, R, Post.bind (R1 := RE G.k) P fun x ρ1 v S1 H1 s1 R1 rv P1 => by
    rw [← C.K]
    cases ez : tru x with
    | none => rw [ez] at P1; exact P1.elim
    | some z =>
      rw [ez] at P1
      refine ⟨z, truV_of R1.sub (.inl rv) ez, ?_⟩
      cases z with
      | true => rw [if_pos rfl]; exact ⟨S1, ρ1, R1, P1⟩
      | false => rw [if_neg Bool.false_ne_true]; exact P1 _ S1 H1 (.refl _) R1 rv⟩
theorem e_orV {rest : List Expr} (C : Ct X G W) (h : EOk X G W a da) (h' : EOk X G W (.BoolOp .Or (b :: rest) pos) db) : EOk X G W (.BoolOp .Or (a :: b :: rest) pos) (dOr da db) :=
  pe_weak (pe_orT h h') fun σ H Q ⟨S, ρ, R, P⟩ => ⟨S, ρ, R, Post.bind (R1 := RE G.k) P fun x ρ1 v S1 H1 s1 R1 rv P1 => by
    rw [← C.K]
    cases ez : tru x with
    | none => rw [ez] at P1; exact P1.elim
    | some z =>
      rw [ez] at P1
      refine ⟨z, truV_of R1.sub (.inl rv) ez, ?_⟩
      cases z with
      | true => rw [if_pos rfl]; exact P1 _ S1 H1 (.refl _) R1 rv
      | false => rw [if_neg Bool.false_ne_true]; exact ⟨S1, ρ1, R1, P1⟩⟩
theorem e_if {t : T} (hc : TOk X G W c t) (ha : EOk X G W a da) (hb : EOk X G W b db) : EOk X G W (.IfExp c a b pos) (dIf t da db) :=
  pe_weak (pe_ifExp hc ha hb) fun σ H Q ⟨S, ρ, R, P⟩ => ⟨S, ρ, R, Post.bind (R1 := RT) P fun x ρ1 v S1 H1 s1 R1 e P1 => by
    cases e
    cases x with
    | true => rw [if_pos rfl]; exact ⟨S1, ρ1, R1, P1⟩
    | false => rw [if_neg Bool.false_ne_true]; exact ⟨S1, ρ1, R1, P1⟩⟩

/-! ## Argument lists, displays -/
theorem a_nil : AOk X G W [] aNil := pa_weak pa_nil fun σ H Q ⟨S, ρ, R, P⟩ => P [] S H (.refl _) R Reps.nil
theorem a_cons {u : As} (ha : EOk X G W a da) (hr : AOk X G W es u) (hs : starEach (a :: es) X.env = (false, eval a X.env) :: starEach es X.env := by rfl) : AOk X G W (a :: es) (aCons da u) :=
  pa_weak (pa_cons ha hr hs) fun σ H Q ⟨S, ρ, R, P⟩ => ⟨S, ρ, R, Post.bind (R1 := RE G.k) P fun x ρ1 v S1 H1 s1 R1 rv P1 => ⟨S1, ρ1, R1, Post.bind (R1 := RA G.k) P1 fun y ρ2 us S2 H2 s2 R2 ru P2 => P2 _ S2 H2 (.refl _) R2 (Reps.cons (rv.mono s2) ru)⟩⟩
theorem Rel.push {S H : Hp} {ρ : Env} {σ : L2.St} (R : Rel G S H ρ σ) {p : Addr} {o : HO} (hp : H p = none) (ht : NoTb o) : Rel G (upd S p o) (upd H p o) ρ σ := R.grow (.new R.sub hp ht)
theorem e_tup {u : As} {n : Nat} (h : AOk X G W es u) : EOk X G W (.Tuple es n pos) (dTup u) :=
  pe_weak (pe_tup h) fun σ H Q ⟨S, ρ, R, P⟩ => ⟨S, ρ, R, Post.bind (R1 := RA G.k) P fun xs ρ1 vs S1 H1 s1 R1 rv P1 => by
    by_cases c : xs.length ≤ lineN
    · rw [if_pos c] at P1
      refine ⟨by rw [← rv.len, ← lineN_eq]; exact c, fun p hp => ?_⟩
      have g := Grow.new (S := S1) R1.sub hp (noTb_tup (xs := vs))
      exact P1 _ _ _ g.sS (R1.grow g) (rep_tup (.of upd_same) (rv.mono g.sS))
    · rw [if_neg c] at P1; exact P1.elim⟩
theorem Rel.fresh0 {S H : Hp} {ρ : Env} {σ : L2.St} (R : Rel G S H ρ σ) {p : Addr} (hp : H p = none) : NT G.H0 p := fun o q hN => by
  obtain ⟨o', e⟩ := R.al p o q hN
  rw [hp] at e
  cases e
theorem Rel.notOwn {S H : Hp} {ρ : Env} {σ : L2.St} (R : Rel G S H ρ σ) {p : Addr} (hp : H p = none) : NotOwn ρ σ p := fun i q h1 h2 => by
  obtain ⟨a, ps, us, e, _, _, hH, _⟩ := R.own h1
  rw [h2] at e
  cases e
  rw [hp] at hH
  cases hH
/-- a new list laid: nobody's -/
theorem Rel.newList {S H : Hp} {ρ : Env} {σ : L2.St} (R : Rel G S H ρ σ) {p : Addr} {us : List V} {ps : List PV} (hp : H p = none) (r : Reps G.k S ps us) : Rel G S (upd H p (.lst us)) ρ σ ∧ RF G σ ρ S (upd H p (.lst us)) ps (.ref p) :=
  ⟨R.grow (.laid R.sub hp), p, us, rfl, R.fresh0 hp, R.sub.free hp, upd_same, r, R.notOwn hp⟩
theorem f_lst {u : As} (h : AOk X G W es u) : FOk X G W (.List es pos) (fLst u) :=
  pe_weak (pe_lst h) fun σ H Q ⟨S, ρ, R, P⟩ => ⟨S, ρ, R, Post.bind (R1 := RA G.k) P fun xs ρ1 vs S1 H1 s1 R1 rv P1 => by
    by_cases c : xs.length ≤ lineN
    · rw [if_pos c] at P1
      refine ⟨by rw [← rv.len, ← lineN_eq]; exact c, fun p hp => ?_⟩
      obtain ⟨R2, F⟩ := R1.newList hp rv
      exact P1 _ S1 _ (.refl _) R2 F
    · rw [if_neg c] at P1; exact P1.elim⟩
/-- a new list is frozen -/
theorem Rel.freezeNew {S H : Hp} {ρ : Env} {σ : L2.St} {ps : List PV} {v : V} (R : Rel G S H ρ σ) (F : RF G σ ρ S H ps v) : ∃ S', Same S S' ∧ Rel G S' H ρ σ ∧ Rep G.k S' (.lst ps) v := by
  obtain ⟨a, us, rfl, h0, hS, hH, r, hn⟩ := F
  have sS : Same S (upd S a (.lst us)) := fun b o e => by rw [upd_ne (ne_of_none e hS)]; exact e
  refine ⟨upd S a (.lst us), sS, ⟨fun b o e => ?_, R.s0.trans sS, R.al, R.fr, fun b o e eN e' => ?_, fun b o e => ?_, R.tabs, R.len, fun j s o e1 e2 => ?_, R.new, R.dis, R.pin, R.fix⟩, rep_lst upd_same (r.mono sS)⟩
  · by_cases z : b = a
    · subst z; rw [upd_same] at e; cases e; exact hH
    · rw [upd_ne z] at e; exact R.sub b o e
  · rw [upd_ne (fun z => by rw [z] at e; exact h0 o e eN)]; exact R.nf b o e eN e'
  · by_cases z : b = a
    · subst z; rw [upd_same] at e; cases e; exact noTb_lst
    · rw [upd_ne z] at e; exact R.nt b o e
  · have q := R.slot j s o e1 e2
    cases s with
    | unb => trivial
    | val w => obtain ⟨v, f1, f2⟩ := q; exact ⟨v, f1, f2.mono sS⟩
    | own w =>
      obtain ⟨b, qs, ws, f1, f2, f3, f4, f5⟩ := q
      subst f1
      have z : b ≠ a := fun z => by
        subst z
        exact hn j w e1 e2
      exact ⟨b, qs, ws, rfl, f2, by rw [upd_ne z]; exact f3, f4, f5.mono sS⟩
theorem e_f {u : As} (h : FOk X G W a u) : EOk X G W a (dF u) :=
  pe_weak h fun σ H Q ⟨S, ρ, R, P⟩ => ⟨S, ρ, R, Post.bind (R1 := RF G σ) P fun xs ρ1 v S1 H1 s1 R1 rf P1 => by
    obtain ⟨S2, s2, R2, rv⟩ := R1.freezeNew rf
    exact P1 v S2 H1 s2 R2 rv⟩
/-- a new list as it lies -/
theorem b_f {u : As} (h : FOk X G W a u) : BOk X G W a (dF u) := b_of (e_f h)
end
end PF

set_option Elab.async false
set_option linter.all false
set_option maxRecDepth 100000
namespace PF
open PySem PySem.Spec PyProof.Rows L2

/-! ## x in a list, a tuple, of data of any depth -/
section
variable {X : Cx}
def rInP (neg : Bool) (K : PySem.W.Frag) : R2 := fun x y H Q => ∃ p xs d ds, y = .ref p ∧ (SqL K H p xs ∨ SqT K H p xs) ∧ DpAll K H xs ds ∧ Dp K H x d ∧ SeqAt.shaped (.list ds) = true ∧ SeqAt.shaped d = true ∧ Q (.bl (neg ^^ ds.any fun z => PyData.eqv z d)) H
theorem room_in1 {A : Around} {ds : List PyData} {d : PyData} (sd : SeqAt.shaped d = true) (hu : A.units + 65 < cLine) : A.units + 1 + min (PyData.depthAll ds) d.depth < cLine := by
  have := SeqAt.depth_of_shaped sd
  omega
theorem op_inP (neg : Bool) (op : CmpOp) (hop : op = if neg then .NotIn else .In) (hu : X.A.units + 65 < cLine) : OpR X (compareOp op) (rInP neg X.K) := by
  intro pins s σ H x y v u Q I rx ry h
  obtain ⟨p, xs, d, ds, rfl, hq, hD, hd, sl, sd, q⟩ := h
  obtain ⟨bs, r1⟩ := Dp.reads I d x v hd rx
  have hxs : PyData.canLayAll0 ds = true := SeqAt.canLay_of_shaped sl
  have hroom := room_in1 (A := X.A) (ds := ds) sd hu
  cases ry
  have fin : ∀ (its : List Value), Vals xs its → (∀ k, k = (its.toArray.any fun u => PyData.eqv (SeqAt.readOf s.heap u) d) → Q (.bl (neg ^^ k)) H) ∧ (∀ w, w ∈ its.toArray → SeqAt.EqAt X.A.in1 s w v ((fun u => PyData.eqv (SeqAt.readOf s.heap u) d) w)) := fun its rv => by
    obtain ⟨as, h4⟩ := Dp.readsAll I ds _ its hD rv
    have hmap : its.map (SeqAt.readOf s.heap) = ds := SeqAt.readsAll_map ds its as hxs h4
    refine ⟨fun k hk => ?_, SeqAt.items_eqAt (vs := its.toArray) (show ReadsAll s.heap its.toArray.toList ds as from h4) r1 hxs (SeqAt.canLay_of_shaped sd) hroom⟩
    have e : k = ds.any fun z => PyData.eqv z d := by
      rw [hk, ← hmap, List.any_map]
      simp [Function.comp_def]
    rw [e]
    exact q
  rcases hq with hq | hq
  · obtain ⟨its, r, pl, hz⟩ := I.list hq
    obtain ⟨f1, f2⟩ := fin its r
    cases neg with
    | false => subst hop; exact SeqAt.in_listAt _ pl.isList f2 ⟨.bl _, H, I, rfl, by have := f1 _ rfl; simpa only [Bool.false_xor] using this⟩
    | true => subst hop; exact SeqAt.notIn_listAt _ pl.isList f2 ⟨.bl _, H, I, rfl, by have := f1 _ rfl; simpa only [Bool.true_xor] using this⟩
  · obtain ⟨its, r, pl, hz⟩ := I.tuple hq
    obtain ⟨f1, f2⟩ := fin its r
    cases neg with
    | false => subst hop; exact SeqAt.in_tupleAt _ pl f2 ⟨.bl _, H, I, rfl, by have := f1 _ rfl; simpa only [Bool.false_xor] using this⟩
    | true => subst hop; exact SeqAt.notIn_tupleAt _ pl f2 ⟨.bl _, H, I, rfl, by have := f1 _ rfl; simpa only [Bool.true_xor] using this⟩
end
def itemsOf : PV → Option (List PV)
  | .lst ps => some ps
  | .tup ps => some ps
  | _ => none
def pIn (neg : Bool) (p q : PV) : Option Bool := match itemsOf q with
  | some qs => if dep p ≤ 60 ∧ deps qs ≤ 59 then some (neg ^^ qs.any fun z => eqv z p) else none
  | none => none
abbrev cIn := pIn false
abbrev cNotIn := pIn true
theorem deps_get : ∀ {ps : List PV} {p : PV}, p ∈ ps → dep p ≤ deps ps
  | q :: ps, p, h => by
    simp only [deps]
    rcases List.mem_cons.mp h with rfl | h
    · omega
    · have := deps_get h; omega
theorem any_toDs : ∀ (qs : List PV) (p : PV), dep p < 100 → deps qs < 100 → ((toDs qs).any fun z => PyData.eqv z (toD p)) = qs.any fun z => eqv z p
  | [], _, _, _ => rfl
  | q :: qs, p, h, h' => by
    simp only [deps] at h'
    simp only [toDs, List.any_cons]
    rw [eqv_toD q p (by omega) h, any_toDs qs p h (by omega)]
theorem shaped_toDs {qs : List PV} (h : deps qs ≤ 59) : SeqAt.shaped (.list (toDs qs)) = true := by
  have := shaped_toD (p := .lst qs) (by simp only [dep]; omega)
  simpa only [toD] using this
theorem ob_in (neg : Bool) : OpB (pIn neg) (rInP neg) := by
  intro k S H p q z x y Q e rx ry h q1
  unfold pIn at h
  cases hi : itemsOf q with
  | none => rw [hi] at h; cases h
  | some qs =>
    rw [hi] at h
    by_cases c : dep p ≤ 60 ∧ deps qs ≤ 59
    · simp only [if_pos c] at h
      cases h
      have fin : ∀ (a : Addr) (us : List V), (SqL k.K H a us ∨ SqT k.K H a us) → Reps k S qs us → y = .ref a → rInP neg k.K x y H Q := fun a us hs r ey =>
        ⟨a, us, toD p, toDs qs, ey, hs, dps_of e qs us (by omega) r, dpB_of e (by omega) rx, shaped_toDs c.2, shaped_toD c.1, by rw [any_toDs qs p (by omega) (by omega)]; exact q1⟩
      cases q <;> simp only [itemsOf] at hi <;> cases hi
      · obtain ⟨a, us, ey, _, h1, r⟩ := repB_tup e ry
        exact fin a us (.inr h1) r ey
      · obtain ⟨a, us, ey, h1, r⟩ := repB_lst e ry
        exact fin a us (.inl (.of h1)) r ey
    · simp only [if_neg c] at h; cases h

/-! ## Subscripts -/
theorem reps_atI {k : Kx} {S : Hp} {ps : List PV} {us : List V} {i : Int} {p : PV} (r : Reps k S ps us) (h : atI ps i = some p) : ∃ u, atI us i = some u ∧ Rep k S p u := by
  unfold atI at h ⊢
  rw [← r.len]
  cases q : ixN ps.length i with
  | none => rw [q] at h; cases h
  | some j =>
    rw [q] at h
    obtain ⟨u, e, ru⟩ := r.get (show ps[j]? = some p from h)
    exact ⟨u, e, ru⟩
def pIx : PV → PV → Option PV
  | .tup ps, .int i => atI ps i
  | .lst ps, .int i => atI ps i
  | .scr ps, .int i => atI ps i
  | .str z, .int i => if z.length ≤ lineN then (atI z.cps.toList i).map fun c => .str ⟨#[c]⟩ else none
  | _, _ => none
theorem od_ix : OpD pIx rIx := by
  intro k S H p q z x y Q e rx ry h q1
  cases p <;> cases q <;> simp only [pIx] at h <;> try cases h
  · rename_i t i
    cases repB_str rx; cases repB_int ry
    by_cases c : t.length ≤ lineN
    · rw [if_pos c] at h
      cases hc : atI t.cps.toList i with
      | none => rw [hc] at h; cases h
      | some cc =>
        rw [hc] at h
        cases h
        exact .inr (.inr ⟨_, _, cc, rfl, rfl, by rw [← lineN_eq]; exact c, hc, q1 _ S H (.refl e) (rep_str _)⟩)
    · rw [if_neg c] at h; cases h
  · cases repB_int ry
    obtain ⟨a, us, rfl, _, h1, r⟩ := repB_tup e rx
    obtain ⟨u, hu, ru⟩ := reps_atI r h
    exact .inr (.inl ⟨a, us, _, u, rfl, rfl, h1, hu, q1 u S H (.refl e) ru⟩)
  · cases repB_int ry
    obtain ⟨a, us, rfl, h1, r⟩ := repB_lst e rx
    obtain ⟨u, hu, ru⟩ := reps_atI r h
    exact .inl ⟨a, us, _, u, rfl, rfl, .of h1, hu, q1 u S H (.refl e) ru⟩
  · cases repB_int ry
    obtain ⟨a, us, rfl, h1, r⟩ := repB_scr e rx
    obtain ⟨u, hu, ru⟩ := reps_atI r h
    exact .inl ⟨a, us, _, u, rfl, rfl, h1, hu, q1 u S H (.refl e) ru⟩

/-- a name's list read behind the other operand (it is the same list; what it holds is asked behind) -/
def dLV {α β : Type} (i : Nat) (b : Env → Out α) (f : PV → α → Option β) : Env → Out β := fun ρ => (dB i ρ).bind fun _ _ => (b ρ).bind fun y ρ2 => (dB i ρ2).bind fun x ρ3 => ofO (f x y) ρ3
section
variable {X : Cx} {G : Gam} {W : WX} {e a b c : Expr} {es : List Expr} {d da db dc : E} {pos p : Pos}
theorem dB_cases {i : Nat} {ρ : Env} : (∃ q, dB i ρ = .ok q ρ) ∨ dB i ρ = .stuck := by
  unfold dB
  split
  · exact .inl ⟨_, rfl⟩
  · exact .inl ⟨_, rfl⟩
  · exact .inr rfl
/-- the shape of a late reading: σ's value at i, the other operand, then what i holds -/
theorem lv_aux {α β γ : Type} {σ : L2.St} {H S : Hp} {ρ : Env} {i : Nat} {u : Env → Out α} {f : PV → α → Option β} {R1 : Env → Hp → Hp → α → γ → Prop} {δ : Type} {R2 : Env → Hp → Hp → β → δ → Prop} {Q : δ → Hp → Prop} (R : Rel G S H ρ σ)
    (P : Post G W σ R2 (dLV i u f ρ) S Q) : ∃ v, σ[i]? = some (some v) ∧ ∀ Q' : γ → Hp → Prop, (∀ y w ρ2 S2 H2 x z, Same S S2 → Rel G S2 H2 ρ2 σ → R1 ρ2 S2 H2 y w → RepB G.k S2 H2 x v → f x y = some z → Post G W σ R2 (.ok z ρ2) S2 Q → Q' w H2) → Post G W σ R1 (u ρ) S Q' := by
  unfold dLV at P
  rcases dB_cases (i := i) (ρ := ρ) with ⟨q, hq⟩ | hq
  · rw [hq] at P
    obtain ⟨_, v, e1, _⟩ := R.slotB hq
    refine ⟨v, e1, fun Q' k => Post.bind (R1 := R1) P fun y ρ2 w S2 H2 s2 R2' ry P2 => ?_⟩
    rcases dB_cases (i := i) (ρ := ρ2) with ⟨x, hx⟩ | hx
    · rw [hx] at P2
      obtain ⟨_, v', e2, rb⟩ := R2'.slotB hx
      rw [e1] at e2
      cases e2
      obtain ⟨z, ez, P3⟩ := Post.ofO P2
      exact k y w ρ2 S2 H2 x z s2 R2' ry rb ez P3
    · rw [hx] at P2; exact P2.elim
  · rw [hq] at P; exact P.elim
theorem e_ix (C : Ct X G W) (ha : EOk X G W a da) (hb : EOk X G W b db) (hs : PlainIx b := by exact fun _ _ => rfl) : EOk X G W (.Subscript a b pos) (dOp pIx da db) :=
  pe_weak (pe_ix ix_seq ha hb hs) fun σ H Q ⟨S, ρ, R, P⟩ => ⟨S, ρ, R, Post.bind (R1 := RE G.k) P fun x ρ1 v S1 H1 s1 R1 rv P1 => ⟨S1, ρ1, R1, Post.bind (R1 := RE G.k) P1 fun y ρ2 u S2 H2 s2 R2 ru P2 => by
    obtain ⟨z, ez, P3⟩ := Post.ofO P2
    rw [← C.K]
    exact od_ix G.k S2 H2 x y z v u Q R2.sub (.inl (rv.mono s2)) (.inl ru) ez fun w S3 H3 gr rw' => P3 w S3 H3 gr.sS (R2.grow gr) rw'⟩⟩
theorem e_ixV {i : Nat} (C : Ct X G W) (ha : PE X a (tVar i)) (hb : EOk X G W b db) (hs : PlainIx b := by exact fun _ _ => rfl) : EOk X G W (.Subscript a b pos) (dLV i db pIx) :=
  pe_weak (pe_ix ix_seq ha hb hs) fun σ H Q ⟨S, ρ, R, P⟩ => by
    obtain ⟨v, e1, k⟩ := lv_aux (R1 := RE G.k) R P
    exact ⟨v, e1, S, ρ, R, k _ fun y w ρ2 S2 H2 x z s2 R2 ry rb ez P3 => by
      rw [← C.K]
      exact od_ix G.k S2 H2 x y z v w Q R2.sub rb (.inl ry) ez fun t S3 H3 gr rt => P3 t S3 H3 gr.sS (R2.grow gr) rt⟩
/-- comparisons whose left side is a name's list -/
theorem cmpV_aux {g : PV → PV → Option Bool} {r : PySem.W.Frag → R2} {i : Nat} (ob : OpB g r) (C : Ct X G W) {σ : L2.St} {H S : Hp} {ρ : Env} {Q : VK} (R : Rel G S H ρ σ) (P : Post G W σ RT (dLV i db g ρ) S (fun k H' => Q (.bl k) H')) :
    tOp (r X.K) (tVar i) (LB G W db) σ H Q := by
  obtain ⟨v, e1, k⟩ := lv_aux (R1 := RB G.k) R P
  exact ⟨v, e1, S, ρ, R, k _ fun y w ρ2 S2 H2 x z s2 R2 ry rb ez P3 => by
    rw [← C.K]
    exact ob G.k S2 H2 x y z v w _ R2.sub rb ry ez (P3 z S2 H2 (.refl _) R2 rfl)⟩
theorem t_cmpV {op : CmpOp} {g : PV → PV → Option Bool} {r : PySem.W.Frag → R2} {i : Nat} (ob : OpB g r) (ho : OpR X (compareOp op) (r X.K)) (hm : behindInMarks op b = false) (C : Ct X G W) (ha : PE X a (tVar i)) (hb : BOk X G W b db) : TOk X G W (.Compare a [op] [b] pos) (dLV i db g) :=
  pt_weak (pt_cmpR ho ha hb hm) fun σ H Q ⟨S, ρ, R, P⟩ => cmpV_aux (Q := fun x H' => ∃ c, x = V.bl c ∧ Q c H') ob C R (post_tst P)
theorem e_cmpV {op : CmpOp} {g : PV → PV → Option Bool} {r : PySem.W.Frag → R2} {i : Nat} (ob : OpB g r) (ho : OpR X (compareOp op) (r X.K)) (hm : behindInMarks op b = false) (C : Ct X G W) (ha : PE X a (tVar i)) (hb : BOk X G W b db) : EOk X G W (.Compare a [op] [b] pos) (dT (dLV i db g)) :=
  pe_weak (pe_cmpR ho ha hb hm) fun σ H Q ⟨S, ρ, R, P⟩ => cmpV_aux ob C R (post_dT P)

/-! ## list + list, list * int -/
theorem od_cat {k : Kx} {S H : Hp} {p q : PV} {zs : List PV} {x y : V} {Q : VK} (e : Same S H) (rx : RepB k S H p x) (ry : RepB k S H q y) (h : pCat p q = some zs) (q1 : ∀ a us, H a = none → Reps k S zs us → Q (.ref a) (upd H a (.lst us))) : rCat x y H Q := by
  cases p <;> cases q <;> simp only [pCat] at h <;> try cases h
  rename_i ps qs
  by_cases c : ps.length + qs.length ≤ lineN
  · rw [if_pos c] at h
    cases h
    obtain ⟨a, us, rfl, h1, r⟩ := repB_lst e rx
    obtain ⟨b, ws, rfl, h2, r'⟩ := repB_lst e ry
    exact ⟨a, b, us, ws, rfl, rfl, h1, h2, by rw [← r.len, ← r'.len, ← lineN_eq]; exact c, fun l hl => q1 l _ hl (r.append r')⟩
  · rw [if_neg c] at h; cases h
theorem f_cat (ha : EOk X G W a da) (hb : BOk X G W b db) : FOk X G W (.BinOp a .Add b pos) (fCat da db) :=
  pe_weak (pe_op op_cat ha hb) fun σ H Q ⟨S, ρ, R, P⟩ => ⟨S, ρ, R, Post.bind (R1 := RE G.k) P fun x ρ1 v S1 H1 s1 R1 rv P1 => ⟨S1, ρ1, R1, Post.bind (R1 := RB G.k) P1 fun y ρ2 u S2 H2 s2 R2 ru P2 => by
    obtain ⟨z, ez, P3⟩ := Post.ofO P2
    refine od_cat R2.sub (.inl (rv.mono s2)) ru ez fun l us hl rl => ?_
    obtain ⟨R3, F⟩ := R2.newList hl rl
    exact P3 _ S2 _ (.refl _) R3 F⟩⟩
theorem f_catV {i : Nat} (ha : PE X a (tVar i)) (hb : BOk X G W b db) : FOk X G W (.BinOp a .Add b pos) (dLV i db pCat) :=
  pe_weak (pe_op op_cat ha hb) fun σ H Q ⟨S, ρ, R, P⟩ => by
    obtain ⟨v, e1, k⟩ := lv_aux (R1 := RB G.k) R P
    exact ⟨v, e1, S, ρ, R, k _ fun y w ρ2 S2 H2 x z s2 R2 ry rb ez P3 => by
      refine od_cat R2.sub rb ry ez fun l us hl rl => ?_
      obtain ⟨R3, F⟩ := R2.newList hl rl
      exact P3 _ S2 _ (.refl _) R3 F⟩
def pRep : PV → PV → Option (List PV)
  | .lst ps, .int n => if -(2 ^ 63) ≤ n ∧ n < 2 ^ 63 ∧ ps.length * n.toNat ≤ lineN then some (List.replicate n.toNat ps).flatten else none
  | _, _ => none
theorem Reps.rep {k : Kx} {S : Hp} {ps : List PV} {us : List V} (h : Reps k S ps us) : ∀ n, Reps k S (List.replicate n ps).flatten (List.replicate n us).flatten
  | 0 => Reps.nil
  | n + 1 => by
    simp only [List.replicate_succ, List.flatten_cons]
    exact h.append (h.rep n)
theorem od_rep {k : Kx} {S H : Hp} {p q : PV} {zs : List PV} {x y : V} {Q : VK} (e : Same S H) (rx : RepB k S H p x) (ry : RepB k S H q y) (h : pRep p q = some zs) (q1 : ∀ a us, H a = none → Reps k S zs us → Q (.ref a) (upd H a (.lst us))) : rRep x y H Q := by
  cases p <;> cases q <;> simp only [pRep] at h <;> try cases h
  rename_i ps n
  split at h
  · rename_i c
    cases h
    obtain ⟨a, us, rfl, h1, r⟩ := repB_lst e rx
    cases repB_int ry
    exact ⟨a, n, us, rfl, rfl, h1, c.1, c.2.1, by rw [← r.len, ← lineN_eq]; exact c.2.2, fun l hl => q1 l _ hl (r.rep _)⟩
  · cases h
def fRep (a b : E) : As := fun ρ => (a ρ).bind fun x ρ1 => (b ρ1).bind fun y ρ2 => ofO (pRep x y) ρ2
theorem f_rep (ha : EOk X G W a da) (hb : EOk X G W b db) : FOk X G W (.BinOp a .Mult b pos) (fRep da db) :=
  pe_weak (pe_op op_rep ha hb) fun σ H Q ⟨S, ρ, R, P⟩ => ⟨S, ρ, R, Post.bind (R1 := RE G.k) P fun x ρ1 v S1 H1 s1 R1 rv P1 => ⟨S1, ρ1, R1, Post.bind (R1 := RE G.k) P1 fun y ρ2 u S2 H2 s2 R2 ru P2 => by
    obtain ⟨z, ez, P3⟩ := Post.ofO P2
    refine od_rep R2.sub (.inl (rv.mono s2)) (.inl ru) ez fun l us hl rl => ?_
    obtain ⟨R3, F⟩ := R2.newList hl rl
    exact P3 _ S2 _ (.refl _) R3 F⟩⟩

/-! ## Slices -/
abbrev Os := Env → Out (Option Int)
def oNo : Os := fun ρ => .ok none ρ
def oSo (a : E) : Os := fun ρ => (a ρ).bind fun x ρ1 => match x with
  | .int i => .ok (some i) ρ1
  | _ => .stuck
def LO (G : Gam) (W : WX) (d : Os) : TO := fun σ H Q => ∃ S ρ, Rel G S H ρ σ ∧ Post G W σ (fun _ _ _ a b => a = b) (d ρ) S Q
abbrev OOk (X : Cx) (G : Gam) (W : WX) (e : Option Expr) (d : Os) : Prop := PO X e (LO G W d)
theorem po_weak {e : Option Expr} {t t' : TO} (h : PO X e t) (w : ∀ σ H Q, t' σ H Q → t σ H Q) : PO X e t' := ⟨fun pins s σ H Q I q => h.run pins s σ H Q I (w σ H Q q)⟩
theorem o_no : OOk X G W none oNo := po_weak po_none fun σ H Q ⟨S, ρ, R, P⟩ => P none S H (.refl _) R rfl
theorem o_so (h : EOk X G W a da) : OOk X G W (some a) (oSo da) := po_weak (po_some h) fun σ H Q ⟨S, ρ, R, P⟩ => ⟨S, ρ, R, Post.bind (R1 := RE G.k) P fun x ρ1 v S1 H1 s1 R1 rv P1 => by
  cases x <;> try exact P1.elim
  simp only [Rep] at rv
  subst rv
  exact ⟨_, rfl, P1 _ S1 H1 (.refl _) R1 rfl⟩⟩
def cutP {α : Type} (xs : List α) (lo hi : Option Int) : List α := (xs.drop (HT.sIx xs.length 0 lo)).take (HT.sIx xs.length xs.length hi - HT.sIx xs.length 0 lo)
/-- of a tuple, a text -/
def pSl : PV → Option Int × Option Int → Option PV
  | .tup ps, b => some (.tup (cutP ps b.1 b.2))
  | .str z, b => if z.length ≤ lineN then some (.str (cutS z b.1 b.2)) else none
  | .lst ps, b => some (.lst (cutP ps b.1 b.2))
  | .scr ps, b => some (.lst (cutP ps b.1 b.2))
  | _, _ => none
/-- of a list -/
def pSlL : PV → Option Int × Option Int → Option (List PV)
  | .lst ps, b => some (cutP ps b.1 b.2)
  | .scr ps, b => some (cutP ps b.1 b.2)
  | _, _ => none
def rSlP (K : PySem.W.Frag) : V → Option Int → Option Int → Hp → VK → Prop := fun x lo hi H Q => (rSlA K x lo hi H Q ∨ rSlS x lo hi H Q) ∨ rSlL K x lo hi H Q
theorem reps_cut {k : Kx} {S : Hp} {ps : List PV} {us : List V} (r : Reps k S ps us) (lo hi : Option Int) : Reps k S (cutP ps lo hi) (cutV us lo hi) := by
  unfold cutP cutV
  rw [r.len]
  exact (r.drop _).take _
theorem od_sl {k : Kx} {S H : Hp} {p z : PV} {x : V} {lo hi : Option Int} {Q : VK} (e : Same S H) (rx : RepB k S H p x) (h : pSl p (lo, hi) = some z) (q1 : ∀ v S' H', Grow S H S' H' → Rep k S' z v → Q v H') : rSlP k.K x lo hi H Q := by
  cases p <;> simp only [pSl] at h <;> try cases h
  · rename_i t
    split at h
    · rename_i c
      cases h
      cases repB_str rx
      exact .inl (.inr ⟨t, rfl, by rw [← lineN_eq]; exact c, q1 _ S H (.refl e) (rep_str _)⟩)
    · cases h
  · rename_i ps
    obtain ⟨a, us, rfl, hs, h1, r⟩ := repB_tup e rx
    refine .inl (.inl ⟨a, us, rfl, h1, fun hw => ?_, fun hw l hl => ?_⟩)
    · refine q1 _ S H (.refl e) (rep_tup hs ?_)
      have : cutP ps lo hi = ps := by
        unfold cutP
        rw [r.len, hw.1, hw.2, Nat.sub_zero, List.drop_zero, ← r.len, List.take_length]
      rw [this]
      exact r
    · have g := Grow.new (S := S) e hl (noTb_tup (xs := cutV us lo hi))
      exact q1 _ _ _ g (rep_tup (.of upd_same) ((reps_cut r lo hi).mono g.sS))
  · obtain ⟨a, us, rfl, h1, r⟩ := repB_lst e rx
    refine .inr ⟨a, us, rfl, .of h1, fun l hl => ?_⟩
    have g := Grow.new (S := S) e hl (noTb_lst (xs := cutV us lo hi))
    exact q1 _ _ _ g (rep_lst upd_same ((reps_cut r lo hi).mono g.sS))
  · obtain ⟨a, us, rfl, h1, r⟩ := repB_scr e rx
    refine .inr ⟨a, us, rfl, h1, fun l hl => ?_⟩
    have g := Grow.new (S := S) e hl (noTb_lst (xs := cutV us lo hi))
    exact q1 _ _ _ g (rep_lst upd_same ((reps_cut r lo hi).mono g.sS))
theorem od_slL {k : Kx} {S H : Hp} {p : PV} {zs : List PV} {x : V} {lo hi : Option Int} {Q : VK} (e : Same S H) (rx : RepB k S H p x) (h : pSlL p (lo, hi) = some zs) (q1 : ∀ a us, H a = none → Reps k S zs us → Q (.ref a) (upd H a (.lst us))) : rSlL k.K x lo hi H Q := by
  cases p <;> simp only [pSlL] at h <;> cases h
  · obtain ⟨a, us, rfl, h1, r⟩ := repB_lst e rx
    exact ⟨a, us, rfl, .of h1, fun l hl => q1 l _ hl (reps_cut r lo hi)⟩
  · obtain ⟨a, us, rfl, h1, r⟩ := repB_scr e rx
    exact ⟨a, us, rfl, h1, fun l hl => q1 l _ hl (reps_cut r lo hi)⟩
theorem sl_P : SlR X (rSlP X.K) := (sl_tupA.or sl_str).or sl_list
/-- both bounds -/
def oTwo (l h : Os) : Env → Out (Option Int × Option Int) := fun ρ => (l ρ).bind fun x ρ1 => (h ρ1).bind fun y ρ2 => .ok (x, y) ρ2
def dSl (a : E) (l h : Os) : E := fun ρ => (a ρ).bind fun x ρ1 => (oTwo l h ρ1).bind fun b ρ2 => ofO (pSl x b) ρ2
def fSl (a : E) (l h : Os) : As := fun ρ => (a ρ).bind fun x ρ1 => (oTwo l h ρ1).bind fun b ρ2 => ofO (pSlL x b) ρ2
theorem two_aux {δ β : Type} {σ : L2.St} {S H : Hp} {ρ : Env} {dl dh : Os} {R2 : Env → Hp → Hp → β → δ → Prop} {Q : δ → Hp → Prop} {g : Option Int × Option Int → Env → Out β} {K2 : Option Int → Option Int → Hp → Prop} (R : Rel G S H ρ σ) (P : Post G W σ R2 ((oTwo dl dh ρ).bind g) S Q)
    (k : ∀ x y ρ' S' H', Same S S' → Rel G S' H' ρ' σ → Post G W σ R2 (g (x, y) ρ') S' Q → K2 x y H') : LO G W dl σ H fun l H2 => LO G W dh σ H2 fun u H3 => K2 l u H3 := by
  refine ⟨S, ρ, R, ?_⟩
  have P1 : Post G W σ R2 ((dl ρ).bind fun x ρ1 => (dh ρ1).bind fun y ρ2 => g (x, y) ρ2) S Q := by
    unfold oTwo at P
    cases q : dl ρ with
    | ok x ρ1 =>
      rw [q] at P
      show Post G W σ R2 ((dh ρ1).bind fun y ρ2 => g (x, y) ρ2) S Q
      have P' : Post G W σ R2 (((dh ρ1).bind fun y ρ2 => Out.ok (x, y) ρ2).bind g) S Q := P
      cases q2 : dh ρ1 with
      | ok y ρ2 => rw [q2] at P'; exact P'
      | exc x' ρ2 => rw [q2] at P'; exact P'
      | stuck => rw [q2] at P'; exact P'
    | exc x ρ1 => rw [q] at P; exact P
    | stuck => rw [q] at P; exact P
  refine Post.bind (R1 := fun _ _ _ a b => a = b) P1 fun x ρ1 v S1 H1 s1 R1 ev P2 => ?_
  cases ev
  exact ⟨S1, ρ1, R1, Post.bind (R1 := fun _ _ _ a b => a = b) P2 fun y ρ2 u S2 H2 s2 R2' eu P3 => by
    cases eu
    exact k x y ρ2 S2 H2 (s1.trans s2) R2' P3⟩
theorem e_sl {l h : Option Expr} {dl dh : Os} {p2 : Pos} (C : Ct X G W) (ha : EOk X G W a da) (hl : OOk X G W l dl) (hh : OOk X G W h dh) : EOk X G W (.Subscript a (.Slice l h none p2) pos) (dSl da dl dh) :=
  pe_weak (pe_slice sl_P ha hl hh) fun σ H Q ⟨S, ρ, R, P⟩ => ⟨S, ρ, R, Post.bind (R1 := RE G.k) P fun x ρ1 v S1 H1 s1 R1 rv P1 => two_aux R1 P1 fun l u ρ2 S2 H2 s2 R2 P2 => by
    obtain ⟨z, ez, P3⟩ := Post.ofO P2
    rw [← C.K]
    exact od_sl R2.sub (.inl (rv.mono s2)) ez fun w S3 H3 gr rw' => P3 w S3 H3 gr.sS (R2.grow gr) rw'⟩
theorem f_sl {l h : Option Expr} {dl dh : Os} {p2 : Pos} (C : Ct X G W) (ha : EOk X G W a da) (hl : OOk X G W l dl) (hh : OOk X G W h dh) : FOk X G W (.Subscript a (.Slice l h none p2) pos) (fSl da dl dh) :=
  pe_weak (pe_slice sl_list ha hl hh) fun σ H Q ⟨S, ρ, R, P⟩ => ⟨S, ρ, R, Post.bind (R1 := RE G.k) P fun x ρ1 v S1 H1 s1 R1 rv P1 => two_aux R1 P1 fun l u ρ2 S2 H2 s2 R2 P2 => by
    obtain ⟨z, ez, P3⟩ := Post.ofO P2
    rw [← C.K]
    refine od_slL R2.sub (.inl (rv.mono s2)) ez fun l us hl rl => ?_
    obtain ⟨R3, F⟩ := R2.newList hl rl
    exact P3 _ S2 _ (.refl _) R3 F⟩
/-- of a name's own list -/
theorem f_slV {i : Nat} {l h : Option Expr} {dl dh : Os} {p2 : Pos} (C : Ct X G W) (ha : PE X a (tVar i)) (hl : OOk X G W l dl) (hh : OOk X G W h dh) : FOk X G W (.Subscript a (.Slice l h none p2) pos) (dLV i (oTwo dl dh) pSlL) :=
  pe_weak (pe_slice sl_list ha hl hh) fun σ H Q ⟨S, ρ, R, P⟩ => by
    unfold dLV at P
    rcases dB_cases (i := i) (ρ := ρ) with ⟨q, hq⟩ | hq
    · rw [hq] at P
      obtain ⟨_, v, e1, _⟩ := R.slotB hq
      refine ⟨v, e1, two_aux R P fun l u ρ2 S2 H2 s2 R2 P2 => ?_⟩
      rcases dB_cases (i := i) (ρ := ρ2) with ⟨x, hx⟩ | hx
      · rw [hx] at P2
        obtain ⟨_, v', e2, rb⟩ := R2.slotB hx
        rw [e1] at e2
        cases e2
        obtain ⟨z, ez, P3⟩ := Post.ofO P2
        rw [← C.K]
        refine od_slL R2.sub rb ez fun l us hl rl => ?_
        obtain ⟨R3, F⟩ := R2.newList hl rl
        exact P3 _ S2 _ (.refl _) R3 F
      · rw [hx] at P2; exact P2.elim
    · rw [hq] at P; exact P.elim
end
end PF

set_option Elab.async false
set_option linter.all false
set_option maxRecDepth 100000
namespace PF
open PySem PySem.Spec PyProof.Rows L2

/-! ## Built-in functions of one argument -/
def Op1 (f : PV → Option PV) (r : PySem.W.Frag → List V → Hp → VK → Prop) : Prop := ∀ (k : Kx) (S H : Hp) (p z : PV) (x : V) (Q : VK), Same S H → RepB k S H p x → f p = some z → (∀ v S' H', Grow S H S' H' → Rep k S' z v → Q v H') → r k.K [x] H Q
def OpF1 (f : PV → Option (List PV)) (r : PySem.W.Frag → List V → Hp → VK → Prop) : Prop := ∀ (k : Kx) (S H : Hp) (p : PV) (zs : List PV) (x : V) (Q : VK), Same S H → RepB k S H p x → f p = some zs → (∀ a us, H a = none → Reps k S zs us → Q (.ref a) (upd H a (.lst us))) → r k.K [x] H Q
def Op2 (f : PV → PV → Option PV) (r : PySem.W.Frag → List V → Hp → VK → Prop) : Prop := ∀ (k : Kx) (S H : Hp) (p q z : PV) (x y : V) (Q : VK), Same S H → RepB k S H p x → RepB k S H q y → f p q = some z → (∀ v S' H', Grow S H S' H' → Rep k S' z v → Q v H') → r k.K [x, y] H Q
/-- a new list of what is handed in -/
def fUn (f : PV → Option (List PV)) (a : E) : As := fun ρ => (a ρ).bind fun x ρ1 => ofO (f x) ρ1
section
variable {X : Cx} {G : Gam} {W : WX} {e a b : Expr} {da db : E} {f : PV → Option PV} {fl : PV → Option (List PV)} {f2 : PV → PV → Option PV} {r : PySem.W.Frag → List V → Hp → VK → Prop}
theorem e_b1 (C : Ct X G W) (od : Op1 f r) (h : PE X e (tCB (r X.K) (tCons (LB G W da) tNil))) : EOk X G W e (dUn f da) :=
  pe_weak h fun σ H Q ⟨S, ρ, R, P⟩ => ⟨S, ρ, R, Post.bind (R1 := RB G.k) P fun x ρ1 v S1 H1 s1 R1 rv P1 => by
    obtain ⟨z, ez, P2⟩ := Post.ofO P1
    rw [← C.K]
    exact od G.k S1 H1 x z v Q R1.sub rv ez fun w S3 H3 gr rw' => P2 w S3 H3 gr.sS (R1.grow gr) rw'⟩
theorem f_b1 (C : Ct X G W) (od : OpF1 fl r) (h : PE X e (tCB (r X.K) (tCons (LB G W da) tNil))) : FOk X G W e (fUn fl da) :=
  pe_weak h fun σ H Q ⟨S, ρ, R, P⟩ => ⟨S, ρ, R, Post.bind (R1 := RB G.k) P fun x ρ1 v S1 H1 s1 R1 rv P1 => by
    obtain ⟨z, ez, P2⟩ := Post.ofO P1
    rw [← C.K]
    refine od G.k S1 H1 x z v Q R1.sub rv ez fun l us hl rl => ?_
    obtain ⟨R3, F⟩ := R1.newList hl rl
    exact P2 _ S1 _ (.refl _) R3 F⟩
theorem e_b2 (C : Ct X G W) (od : Op2 f2 r) (h : PE X e (tCB (r X.K) (tCons (LE G W da) (tCons (LE G W db) tNil)))) : EOk X G W e (dOp f2 da db) :=
  pe_weak h fun σ H Q ⟨S, ρ, R, P⟩ => ⟨S, ρ, R, Post.bind (R1 := RE G.k) P fun x ρ1 v S1 H1 s1 R1 rv P1 => ⟨S1, ρ1, R1, Post.bind (R1 := RE G.k) P1 fun y ρ2 u S2 H2 s2 R2 ru P2 => by
    obtain ⟨z, ez, P3⟩ := Post.ofO P2
    rw [← C.K]
    exact od G.k S2 H2 x y z v u Q R2.sub (.inl (rv.mono s2)) (.inl ru) ez fun w S3 H3 gr rw' => P3 w S3 H3 gr.sS (R2.grow gr) rw'⟩⟩
end

def intsOf : List PV → Option (List Int)
  | [] => some []
  | .int i :: r => match intsOf r with
    | some ns => some (i :: ns)
    | none => none
  | _ :: _ => none
def boolsOf : List PV → Option (List Bool)
  | [] => some []
  | .bl i :: r => match boolsOf r with
    | some ns => some (i :: ns)
    | none => none
  | _ :: _ => none
theorem intsOf_some : ∀ {ps : List PV} {ns : List Int}, intsOf ps = some ns → ps = ns.map PV.int
  | [], ns, h => by simp only [intsOf] at h; cases h; rfl
  | p :: ps, ns, h => by
    cases p <;> simp only [intsOf] at h <;> try cases h
    cases q : intsOf ps with
    | none => rw [q] at h; cases h
    | some ms => rw [q] at h; cases h; rw [intsOf_some q]; rfl
theorem intsOf_map (ns : List Int) : intsOf (ns.map PV.int) = some ns := by
  induction ns with
  | nil => rfl
  | cons n ns ih => simp only [List.map_cons, intsOf, ih]
theorem boolsOf_some : ∀ {ps : List PV} {ns : List Bool}, boolsOf ps = some ns → ps = ns.map PV.bl
  | [], ns, h => by simp only [boolsOf] at h; cases h; rfl
  | p :: ps, ns, h => by
    cases p <;> simp only [boolsOf] at h <;> try cases h
    cases q : boolsOf ps with
    | none => rw [q] at h; cases h
    | some ms => rw [q] at h; cases h; rw [boolsOf_some q]; rfl
theorem boolsOf_map (ns : List Bool) : boolsOf (ns.map PV.bl) = some ns := by
  induction ns with
  | nil => rfl
  | cons n ns ih => simp only [List.map_cons, boolsOf, ih]
theorem Reps.bools {k : Kx} {S : Hp} : ∀ {ns : List Bool} {us : List V}, Reps k S (ns.map PV.bl) us → us = ns.map V.bl
  | [], us, h => by simpa only [List.map_nil, Reps] using h
  | n :: ns, us, h => by
    simp only [List.map_cons, Reps, Rep] at h
    obtain ⟨u, r, rfl, rfl, h2⟩ := h
    rw [Reps.bools h2]
    rfl
def pLen : PV → Option PV
  | .str x => if x.length ≤ lineN then some (.int x.length) else none
  | .tup ps => some (.int ps.length)
  | .lst ps => some (.int ps.length)
  | .scr ps => some (.int ps.length)
  | _ => none
def rLenA (K : PySem.W.Frag) : List V → Hp → VK → Prop := fun xs H Q => ∃ x n, xs = [x] ∧ LenV K x H n ∧ Q (.int (n : Nat)) H
theorem o_len : Op1 pLen rLenA := by
  intro k S H p z x Q e rx h q1
  cases p <;> simp only [pLen] at h <;> try cases h
  · rename_i t
    cases repB_str rx
    split at h
    · rename_i c
      cases h
      exact ⟨_, _, rfl, ⟨by rw [← lineN_eq]; exact c, rfl⟩, q1 _ S H (.refl e) (rep_int _)⟩
    · cases h
  · obtain ⟨a, us, rfl, _, h1, r⟩ := repB_tup e rx
    exact ⟨_, us.length, rfl, .inr ⟨us, h1, rfl⟩, by rw [← r.len]; exact q1 _ S H (.refl e) (rep_int _)⟩
  · obtain ⟨a, us, rfl, h1, r⟩ := repB_lst e rx
    exact ⟨_, us.length, rfl, .inl ⟨us, .of h1, rfl⟩, by rw [← r.len]; exact q1 _ S H (.refl e) (rep_int _)⟩
  · obtain ⟨a, us, rfl, h1, r⟩ := repB_scr e rx
    exact ⟨_, us.length, rfl, .inl ⟨us, h1, rfl⟩, by rw [← r.len]; exact q1 _ S H (.refl e) (rep_int _)⟩
def pInt : PV → Option PV
  | .int i => some (.int i)
  | .bl b => some (.int (if b then 1 else 0))
  | _ => none
def rIntA (_ : PySem.W.Frag) : List V → Hp → VK → Prop := fun xs H Q => (∃ i, xs = [.int i] ∧ Q (.int i) H) ∨ ∃ k, xs = [.bl k] ∧ Q (.int (if k then 1 else 0)) H
theorem o_int : Op1 pInt rIntA := by
  intro k S H p z x Q e rx h q1
  cases p <;> simp only [pInt] at h <;> cases h
  · cases repB_bl rx; exact .inr ⟨_, rfl, q1 _ S H (.refl e) (rep_int _)⟩
  · cases repB_int rx; exact .inl ⟨_, rfl, q1 _ S H (.refl e) (rep_int _)⟩
def pAbs : PV → Option PV
  | .int i => some (.int (if i < 0 then -i else i))
  | _ => none
def rAbsA (_ : PySem.W.Frag) : List V → Hp → VK → Prop := fun xs H Q => ∃ i, xs = [.int i] ∧ Q (.int (if i < 0 then -i else i)) H
theorem o_abs : Op1 pAbs rAbsA := by
  intro k S H p z x Q e rx h q1
  cases p <;> simp only [pAbs] at h <;> cases h
  cases repB_int rx; exact ⟨_, rfl, q1 _ S H (.refl e) (rep_int _)⟩
def pTuple : PV → Option PV
  | .lst ps => some (.tup ps)
  | .tup ps => some (.tup ps)
  | _ => none
def rTupleA (K : PySem.W.Frag) : List V → Hp → VK → Prop := fun xs H Q => ∃ p ys, xs = [.ref p] ∧ ((SqL K H p ys ∧ ∀ l, H l = none → Q (.ref l) (upd H l (.tup ys))) ∨ (SqT K H p ys ∧ Q (.ref p) H))
theorem o_tuple : Op1 pTuple rTupleA := by
  intro k S H p z x Q e rx h q1
  cases p <;> simp only [pTuple] at h <;> cases h
  · obtain ⟨a, us, rfl, hs, h1, r⟩ := repB_tup e rx
    exact ⟨a, us, rfl, .inr ⟨h1, q1 _ S H (.refl e) (rep_tup hs r)⟩⟩
  · obtain ⟨a, us, rfl, h1, r⟩ := repB_lst e rx
    refine ⟨a, us, rfl, .inl ⟨.of h1, fun l hl => ?_⟩⟩
    have g := Grow.new (S := S) e hl (noTb_tup (xs := us))
    exact q1 _ _ _ g (rep_tup (.of upd_same) (r.mono g.sS))
def rListA (K : PySem.W.Frag) : List V → Hp → VK → Prop := fun xs H Q => ∃ p ys, xs = [.ref p] ∧ (SqL K H p ys ∨ SqT K H p ys) ∧ ∀ l, H l = none → Q (.ref l) (upd H l (.lst ys))
theorem o_list : OpF1 itemsOf rListA := by
  intro k S H p zs x Q e rx h q1
  cases p <;> simp only [itemsOf] at h <;> cases h
  · obtain ⟨a, us, rfl, hs, h1, r⟩ := repB_tup e rx
    exact ⟨a, us, rfl, .inr h1, fun l hl => q1 l us hl r⟩
  · obtain ⟨a, us, rfl, h1, r⟩ := repB_lst e rx
    exact ⟨a, us, rfl, .inl (.of h1), fun l hl => q1 l us hl r⟩
theorem sum_tupR {prog : Program} {w : World} {A : Around} {E : Value → Shared → Prop} {s : Shared} {l : Addr} {its : List Value} {ns : List Int} {Q : Value → Shared → Prop} (hh : A.handled = none) (hl : s.heap.IsTuple l its.toArray) (hi : IntsAre its ns)
    (h : ∀ h' tk t', (∀ b o, s.heap.get? b = some o → h'.get? b = some o) → Q (.int ns.sum t') { s with heap := h', toks := tk }) : wpAny (model prog w) A (call (.builtin "sum") [.ref l]) Q E s := by
  have hlt : l < s.heap.objs.size := by obtain ⟨_, e, _⟩ := hl; exact Heap.lt_size e
  obtain ⟨xs, e⟩ := hi.allInts.items
  have hn : numsOf (intItems xs).toList = ns := by rw [← e]; exact hi.numsOf
  rw [nums_intItems] at hn
  rw [e] at hl
  refine call_sum_walkG (wpAny_pyIter_tuple hl ?_)
  refine ⟨_, _, _, _, _, _, numAt xs, rfl, Walks.tuple (A := A.in1) hh _ l (Nat.ne_of_lt hlt) (intItems xs), ⟨⟨_, Heap.get?_push_size _ rfl, rfl, rfl⟩, hl.push _⟩, fun b hb => ?_, (fun _ _ => intItems_at), fun h' tk t' hk => ?_⟩
  · show b < (s.heap.push _).objs.size
    rw [Heap.size_push]
    rcases List.mem_cons.mp hb with rfl | hb
    · exact Nat.lt_succ_self _
    · rcases List.mem_cons.mp hb with rfl | hb
      · exact Nat.lt_succ_of_lt hlt
      · cases hb
  · have hk' : ∀ b o, s.heap.get? b = some o → h'.get? b = some o := fun b o eb => hk b o (fun hb => absurd (Heap.lt_size eb) ((List.mem_singleton.mp hb) ▸ Nat.lt_irrefl _)) (Heap.get?_push_of_some _ eb)
    have := h h' tk t' hk'
    have e2 : preSum (numAt xs) (intItems xs).size = ns.sum := by
      rw [preSum_eq, List.take_of_length_le (by simp [intItems]), hn]
    rw [e2]
    exact this
def rSumA (K : PySem.W.Frag) : List V → Hp → VK → Prop := fun vs H Q => ∃ (a : Addr) (ns : List Int), vs = [V.ref a] ∧ (SqL K H a (ns.map V.int) ∨ SqT K H a (ns.map V.int)) ∧ Q (.int ns.sum) H
theorem cr_sumA {X : Cx} (hc : X.calm = true) : CallR X (.builtin "sum") (rSumA X.K) := by
  intro pins s σ H vs us Q I r h
  obtain ⟨a, ns, rfl, hs | hs, q⟩ := h
  · exact cr_sum hc pins s σ H _ us Q I r ⟨a, ns, rfl, hs, q⟩
  · obtain ⟨its, rv, hl, _⟩ := I.tuple hs
    rw [Vals.ref1 r]
    exact sum_tupR (I.ok.hd hc) hl rv.ints fun h' tk t' hk => ⟨.int _, H, I.kept hk, ⟨_, rfl⟩, q⟩
def pSum : PV → Option PV
  | .lst ps => (intsOf ps).map fun ns => .int ns.sum
  | .tup ps => (intsOf ps).map fun ns => .int ns.sum
  | _ => none
theorem lst_ints {k : Kx} {S H : Hp} {ps : List PV} {x : V} {ns : List Int} (e : Same S H) (rx : RepB k S H (.lst ps) x) (h : intsOf ps = some ns) : ∃ a, x = .ref a ∧ SqL k.K H a (ns.map V.int) := by
  obtain ⟨a, us, rfl, h1, r⟩ := repB_lst e rx
  rw [intsOf_some h] at r
  rw [r.ints] at h1
  exact ⟨a, rfl, .of h1⟩
theorem o_sum : Op1 pSum rSumA := by
  intro k S H p z x Q e rx h q1
  cases p <;> simp only [pSum] at h <;> try cases h
  · rename_i ps
    cases q : intsOf ps with
    | none => rw [q] at h; cases h
    | some ns =>
      rw [q] at h; cases h
      obtain ⟨a, us, rfl, hs, h1, r⟩ := repB_tup e rx
      rw [intsOf_some q] at r
      rw [r.ints] at h1
      exact ⟨a, ns, rfl, .inr h1, q1 _ S H (.refl e) (rep_int _)⟩
  · rename_i ps
    cases q : intsOf ps with
    | none => rw [q] at h; cases h
    | some ns =>
      rw [q] at h; cases h
      obtain ⟨a, rfl, hs⟩ := lst_ints e rx q
      exact ⟨a, ns, rfl, .inl hs, q1 _ S H (.refl e) (rep_int _)⟩
def maxL : Int → List Int → Int
  | m, [] => m
  | m, x :: r => maxL (if m < x then x else m) r
def minL : Int → List Int → Int
  | m, [] => m
  | m, x :: r => minL (if x < m then x else m) r
theorem maxL_mem : ∀ (r : List Int) (m : Int), maxL m r ∈ m :: r ∧ ∀ y ∈ m :: r, y ≤ maxL m r
  | [], m => by simp [maxL]
  | x :: r, m => by
    simp only [maxL]
    by_cases c : m < x
    · rw [if_pos c]
      obtain ⟨h1, h2⟩ := maxL_mem r x
      have h0 := h2 _ List.mem_cons_self
      refine ⟨List.mem_cons_of_mem _ h1, fun y hy => ?_⟩
      rcases List.mem_cons.mp hy with rfl | hy
      · omega
      · exact h2 y hy
    · rw [if_neg c]
      obtain ⟨h1, h2⟩ := maxL_mem r m
      have h0 := h2 _ List.mem_cons_self
      refine ⟨?_, fun y hy => ?_⟩
      · rcases List.mem_cons.mp h1 with q | q
        · rw [q]; simp
        · simp [q]
      · rcases List.mem_cons.mp hy with rfl | hy
        · exact h0
        · rcases List.mem_cons.mp hy with rfl | hy
          · omega
          · exact h2 y (List.mem_cons_of_mem _ hy)
theorem minL_mem : ∀ (r : List Int) (m : Int), minL m r ∈ m :: r ∧ ∀ y ∈ m :: r, minL m r ≤ y
  | [], m => by simp [minL]
  | x :: r, m => by
    simp only [minL]
    by_cases c : x < m
    · rw [if_pos c]
      obtain ⟨h1, h2⟩ := minL_mem r x
      have h0 := h2 _ List.mem_cons_self
      refine ⟨List.mem_cons_of_mem _ h1, fun y hy => ?_⟩
      rcases List.mem_cons.mp hy with rfl | hy
      · omega
      · exact h2 y hy
    · rw [if_neg c]
      obtain ⟨h1, h2⟩ := minL_mem r m
      have h0 := h2 _ List.mem_cons_self
      refine ⟨?_, fun y hy => ?_⟩
      · rcases List.mem_cons.mp h1 with q | q
        · rw [q]; simp
        · simp [q]
      · rcases List.mem_cons.mp hy with rfl | hy
        · exact h0
        · rcases List.mem_cons.mp hy with rfl | hy
          · omega
          · exact h2 y (List.mem_cons_of_mem _ hy)
def pMax1 : PV → Option PV
  | .lst ps => match intsOf ps with
    | some (n :: ns) => some (.int (maxL n ns))
    | _ => none
  | _ => none
def pMin1 : PV → Option PV
  | .lst ps => match intsOf ps with
    | some (n :: ns) => some (.int (minL n ns))
    | _ => none
  | _ => none
theorem o_max1 : Op1 pMax1 rMax := by
  intro k S H p z x Q e rx h q1
  cases p <;> simp only [pMax1] at h <;> try cases h
  rename_i ps
  cases q : intsOf ps with
  | none => rw [q] at h; cases h
  | some ns =>
    rw [q] at h
    cases ns with
    | nil => cases h
    | cons n ns =>
      cases h
      obtain ⟨a, rfl, hs⟩ := lst_ints e rx q
      refine ⟨a, n :: ns, rfl, hs, by simp, fun m hm hle => ?_⟩
      have := maxL_mem ns n
      have h1 := this.2 m hm
      have h2 := hle _ this.1
      have e : m = maxL n ns := by omega
      rw [e]
      exact q1 _ S H (.refl ‹Same S H›) (rep_int _)
theorem o_min1 : Op1 pMin1 rMin := by
  intro k S H p z x Q e rx h q1
  cases p <;> simp only [pMin1] at h <;> try cases h
  rename_i ps
  cases q : intsOf ps with
  | none => rw [q] at h; cases h
  | some ns =>
    rw [q] at h
    cases ns with
    | nil => cases h
    | cons n ns =>
      cases h
      obtain ⟨a, rfl, hs⟩ := lst_ints e rx q
      refine ⟨a, n :: ns, rfl, hs, by simp, fun m hm hle => ?_⟩
      have := minL_mem ns n
      have h1 := this.2 m hm
      have h2 := hle _ this.1
      have e : m = minL n ns := by omega
      rw [e]
      exact q1 _ S H (.refl ‹Same S H›) (rep_int _)
def pAll : PV → Option PV
  | .lst ps => (boolsOf ps).map fun ns => .bl (ns.all id)
  | _ => none
def pAny : PV → Option PV
  | .lst ps => (boolsOf ps).map fun ns => .bl (ns.any id)
  | _ => none
theorem lst_bools {k : Kx} {S H : Hp} {ps : List PV} {x : V} {ns : List Bool} (e : Same S H) (rx : RepB k S H (.lst ps) x) (h : boolsOf ps = some ns) : ∃ a, x = .ref a ∧ SqL k.K H a (ns.map V.bl) := by
  obtain ⟨a, us, rfl, h1, r⟩ := repB_lst e rx
  rw [boolsOf_some h] at r
  rw [r.bools] at h1
  exact ⟨a, rfl, .of h1⟩
theorem o_all : Op1 pAll rAll := by
  intro k S H p z x Q e rx h q1
  cases p <;> simp only [pAll] at h <;> try cases h
  rename_i ps
  cases q : boolsOf ps with
  | none => rw [q] at h; cases h
  | some ns =>
    rw [q] at h; cases h
    obtain ⟨a, rfl, hs⟩ := lst_bools e rx q
    exact ⟨a, ns, rfl, hs, q1 _ S H (.refl e) (rep_bl _)⟩
theorem o_any : Op1 pAny rAny := by
  intro k S H p z x Q e rx h q1
  cases p <;> simp only [pAny] at h <;> try cases h
  rename_i ps
  cases q : boolsOf ps with
  | none => rw [q] at h; cases h
  | some ns =>
    rw [q] at h; cases h
    obtain ⟨a, rfl, hs⟩ := lst_bools e rx q
    exact ⟨a, ns, rfl, hs, q1 _ S H (.refl e) (rep_bl _)⟩
def pMax2 : PV → PV → Option PV
  | .int i, .int j => some (.int (if j > i then j else i))
  | _, _ => none
def pMin2 : PV → PV → Option PV
  | .int i, .int j => some (.int (if j < i then j else i))
  | _, _ => none
def rMax2A (_ : PySem.W.Frag) : List V → Hp → VK → Prop := fun xs H Q => ∃ i j, xs = [.int i, .int j] ∧ Q (.int (if j > i then j else i)) H
def rMin2A (_ : PySem.W.Frag) : List V → Hp → VK → Prop := fun xs H Q => ∃ i j, xs = [.int i, .int j] ∧ Q (.int (if j < i then j else i)) H
theorem o_max2 : Op2 pMax2 rMax2A := by
  intro k S H p q z x y Q e rx ry h q1
  cases p <;> cases q <;> simp only [pMax2] at h <;> cases h
  cases repB_int rx; cases repB_int ry
  exact ⟨_, _, rfl, q1 _ S H (.refl e) (rep_int _)⟩
theorem o_min2 : Op2 pMin2 rMin2A := by
  intro k S H p q z x y Q e rx ry h q1
  cases p <;> cases q <;> simp only [pMin2] at h <;> cases h
  cases repB_int rx; cases repB_int ry
  exact ⟨_, _, rfl, q1 _ S H (.refl e) (rep_int _)⟩
/-- sorted, of ints -/
def insI (n : Int) : List Int → List Int
  | [] => [n]
  | m :: r => if n ≤ m then n :: m :: r else m :: insI n r
def sortI : List Int → List Int
  | [] => []
  | n :: r => insI n (sortI r)
theorem insI_perm (n : Int) : ∀ r : List Int, (insI n r).Perm (n :: r)
  | [] => .refl _
  | m :: r => by
    simp only [insI]
    split
    · exact .refl _
    · exact ((insI_perm n r).cons m).trans (List.Perm.swap n m r)
theorem sortI_perm : ∀ r : List Int, (sortI r).Perm r
  | [] => .refl _
  | n :: r => (insI_perm n _).trans ((sortI_perm r).cons n)
theorem insI_sorted (n : Int) : ∀ {r : List Int}, r.Pairwise (· ≤ ·) → (insI n r).Pairwise (· ≤ ·)
  | [], _ => by simp [insI]
  | m :: r, h => by
    simp only [insI]
    rw [List.pairwise_cons] at h
    split
    · rename_i c
      rw [List.pairwise_cons]
      refine ⟨fun y hy => ?_, List.pairwise_cons.mpr h⟩
      rcases List.mem_cons.mp hy with rfl | hy
      · exact c
      · have := h.1 y hy; omega
    · rw [List.pairwise_cons]
      refine ⟨fun y hy => ?_, insI_sorted n h.2⟩
      rcases List.mem_cons.mp ((insI_perm n r).mem_iff.mp hy) with rfl | hy
      · omega
      · exact h.1 y hy
theorem sortI_sorted : ∀ r : List Int, (sortI r).Pairwise (· ≤ ·)
  | [] => .nil
  | n :: r => insI_sorted n (sortI_sorted r)
theorem sorted_unique {a b : List Int} (h : a.Perm b) (ha : a.Pairwise (· ≤ ·)) (hb : b.Pairwise (· ≤ ·)) : a = b :=
  h.eq_of_pairwise (fun x y _ _ h1 h2 => by omega) ha hb
def pSorted : PV → Option (List PV)
  | .lst ps => (intsOf ps).map fun ns => (sortI ns).map PV.int
  | _ => none
theorem o_sorted : OpF1 pSorted rSortedI := by
  intro k S H p zs x Q e rx h q1
  cases p <;> simp only [pSorted] at h <;> try cases h
  rename_i ps
  cases q : intsOf ps with
  | none => rw [q] at h; cases h
  | some ns =>
    rw [q] at h; cases h
    obtain ⟨a, rfl, hs⟩ := lst_ints e rx q
    refine ⟨a, ns, rfl, hs, fun ns' l hp hs' hl => ?_⟩
    rw [sorted_unique (hp.trans (sortI_perm ns).symm) hs' (sortI_sorted ns)]
    exact q1 l _ hl (Reps.of_ints _)

/-! ## isinstance of built-in types -/
/-- the name of a value's type -/
def tyOf : PV → String
  | .non => "NoneType"
  | .bl _ => "bool"
  | .int _ => "int"
  | .str _ => "str"
  | .tup _ => "tuple"
  | .lst _ => "list"
  | .scr _ => "list"
  | .fn _ => "function"
  | .dic _ _ => "dict"
def isTy (t : String) (p : PV) : Option Bool := match p with
  | .fn _ => none
  | .scr _ => none
  | .int _ => some (t == "int")
  | .bl _ => some (t == "bool" || t == "int")
  | p => some (t == tyOf p)
end PF

set_option Elab.async false
set_option linter.all false
set_option maxRecDepth 100000
namespace PF
open PySem PySem.Spec PyProof.Rows L2

/-! ## isinstance of built-in types -/
theorem tyx_of {k : Kx} {S H : Hp} {p : PV} {v : V} {t : String} {b : Bool} (e : Same S H) (r : RepB k S H p v) (h : isTy t p = some b) : TyX k.K H v (.type (tyOf p)) := by
  cases p <;> simp only [isTy] at h <;> try cases h
  · cases repB_non r; exact .base .non
  · cases repB_bl r; exact .base (.bl _)
  · cases repB_int r; exact .base (.int _)
  · cases repB_str r; exact .base (.str _)
  · obtain ⟨a, us, rfl, _, h1, _⟩ := repB_tup e r
    rcases h1 with (h1 | ⟨o, h1⟩) | ⟨o, its, n, h1, h2, _⟩
    · exact .base (.tup h1)
    · exact .fTuple h1
    · exact .kTuple h1 h2
  · obtain ⟨a, us, rfl, h1, _⟩ := repB_lst e r
    exact .base (.lst h1)
  · obtain ⟨a, us, rfl, h1, _⟩ := repB_dic e r
    exact .base (.dK h1)
def KitT (t : String) : Prop := ∀ p b, isTy t p = some b → kitB (tyOf p) t = some b
theorem kit_int : KitT "int" := by intro p b h; cases p <;> simp only [isTy] at h <;> cases h <;> simp only [tyOf] <;> decide +kernel
theorem kit_bool : KitT "bool" := by intro p b h; cases p <;> simp only [isTy] at h <;> cases h <;> simp only [tyOf] <;> decide +kernel
theorem kit_str : KitT "str" := by intro p b h; cases p <;> simp only [isTy] at h <;> cases h <;> simp only [tyOf] <;> decide +kernel
theorem kit_tuple : KitT "tuple" := by intro p b h; cases p <;> simp only [isTy] at h <;> cases h <;> simp only [tyOf] <;> decide +kernel
theorem kit_list : KitT "list" := by intro p b h; cases p <;> simp only [isTy] at h <;> cases h <;> simp only [tyOf] <;> decide +kernel
theorem kit_dict : KitT "dict" := by intro p b h; cases p <;> simp only [isTy] at h <;> cases h <;> simp only [tyOf] <;> decide +kernel
/-- isinstance(x, t) -/
def pIs (t : String) (p : PV) : Option PV := (isTy t p).map .bl
/-- isinstance(x, (t, u)) -/
def pIs2 (t u : String) (p : PV) : Option PV := match isTy t p, isTy u p with
  | some a, some b => some (.bl (a || b))
  | _, _ => none
section
variable {X : Cx} {G : Gam} {W : WX} {e a b : Expr} {da db : E}
theorem e_isi {t : String} (C : Ct X G W) (kt : KitT t) (h : PE X e (tCB (rIsi X.K) (tCons (LB G W da) (tCons (tC (.ty t)) tNil)))) : EOk X G W e (dUn (pIs t) da) :=
  pe_weak h fun σ H Q ⟨S, ρ, R, P⟩ => ⟨S, ρ, R, Post.bind (R1 := RB G.k) P fun x ρ1 v S1 H1 s1 R1 rv P1 => by
    obtain ⟨z, ez, P2⟩ := Post.ofO P1
    unfold pIs at ez
    cases q : isTy t x with
    | none => rw [q] at ez; cases ez
    | some b =>
      rw [q] at ez
      cases ez
      rw [← C.K]
      exact ⟨v, .ty t, _, _, b, rfl, .ty t, tyx_of R1.sub rv q, kit_ty (kt x b q), P2 _ S1 H1 (.refl _) R1 (rep_bl _)⟩⟩
theorem e_isi2 {t u : String} (C : Ct X G W) (kt : KitT t) (ku : KitT u) (h : PE X e (tCB (rIsiT X.K) (tCons (LB G W da) (tCons (tTup (tCons (tC (.ty t)) (tCons (tC (.ty u)) tNil))) tNil)))) : EOk X G W e (dUn (pIs2 t u) da) :=
  pe_weak h fun σ H Q ⟨S, ρ, R, P⟩ => ⟨S, ρ, R, Post.bind (R1 := RB G.k) P fun x ρ1 v S1 H1 s1 R1 rv P1 => by
    obtain ⟨z, ez, P2⟩ := Post.ofO P1
    unfold pIs2 at ez
    cases q : isTy t x with
    | none => rw [q] at ez; cases ez
    | some a =>
      cases q' : isTy u x with
      | none => rw [q, q'] at ez; cases ez
      | some b =>
        rw [q, q'] at ez
        cases ez
        rw [← C.K]
        refine ⟨by show 2 ≤ sizeLine; decide, fun tp htp => ?_⟩
        have g := Grow.laid (S := S1) (o := .tup [.ty t, .ty u]) R1.sub htp
        have rv' : RepB G.k S1 (upd H1 tp (.tup [.ty t, .ty u])) x v := by
          rcases rv with rv | ⟨ps, a, us, e1, e2, e3, e4⟩
          · exact .inl rv
          · exact .inr ⟨ps, a, us, e1, e2, g.sH _ _ e3, e4⟩
        refine ⟨v, tp, _, _, _, (a || b), rfl, upd_same, .cons (.ty t) (.cons (.ty u) .nil), tyx_of g.sub rv' q, ?_, P2 _ S1 _ (.refl _) (R1.grow g) (rep_bl _)⟩
        refine kitAny_cons (kit_ty (kt x a q)) (fun ea => kitAny_cons (kit_ty (ku x b q')) (fun eb => ?_) (fun eb => ?_)) (fun ea => ?_)
        · rw [ea, eb]; exact kitAny_nil
        · rw [eb, Bool.or_true]
        · rw [ea, Bool.true_or]⟩
end

/-! ## Defs -/
inductive FOut where
  | ret (p : PV) (io : List PV) | own (ps : List PV) (io : List PV) | exc (x : Exc) | stuck
abbrev Fn := List PV → FOut
/-- behind a call: what was frozen is so, what stood stands, but for the lists at M, which hold io -/
structure EndR (k : Kx) (S H S' H' : Hp) (M : List Addr) (io : List PV) : Prop where
  sS : Same S S'
  sub : Same S' H'
  al : ∀ a o, H a = some o → NoTb o → ∃ o', H' a = some o'
  fr : ∀ a o, H a = some o → a ∉ M → NoTb o → H' a = some o
  nf : ∀ a o, H a = some o → NoTb o → S a = none → S' a = none
  nt : ∀ a o, S' a = some o → NoTb o
  tabs : LamX.Tabs k.T H'
  io : ∀ a ∈ M, ∃ ps us, io = [.lst ps] ∧ H' a = some (.lst us) ∧ Reps k S' ps us
/-- what is handed in -/
def ArgsR (k : Kx) (S H : Hp) : Bool → List PV → List V → List Addr → Prop
  | false, ps, vs, M => Reps k S ps vs ∧ M = []
  | true, ps, vs, M => ∃ a us qs ps' vs', vs = .ref a :: vs' ∧ ps = .lst qs :: ps' ∧ S a = none ∧ H a = some (.lst us) ∧ Reps k S qs us ∧ Reps k S ps' vs' ∧ M = [a]
/-- the promise of a def: io: whether its first argument is a list that it changes -/
def SpF (k : Kx) (n : Nat) (io : Bool) (F : Fn) : Sp := fun vs H Q E => vs.length = n ∧ ∃ S ps M, Same S H ∧ (∀ a o, S a = some o → NoTb o) ∧ LamX.Tabs k.T H ∧ ArgsR k S H io ps vs M ∧
  match F ps with
  | .ret p out => ∀ v S' H', EndR k S H S' H' M out → Rep k S' p v → Q v H'
  | .own qs out => ∀ a us S' H', EndR k S H S' H' M out → NT H a → S' a = none → H' a = some (.lst us) → Reps k S' qs us → Q (.ref a) H'
  | .exc x => io = false ∧ ∀ cls d S' H', EndR k S H S' H' [] [] → ExcR k H' x cls d → E cls d H'
  | .stuck => False
/-- a def of the module that keeps its promise -/
structure FnAt (X : Cx) (k : Kx) (x : Str) (ps : List Str) (io : Bool) (F : Fn) : Prop where
  ar : ∀ qs, qs.length ≠ ps.length → F qs = .stuck
  ex : ∃ (j : Nat) (f : Addr) (fd : FuncData), FnOk X.prog X.w X.K X.mg X.base (L2.CX X.prog X.w) j f fd ps (SpF k ps.length io F) ∧ Room j X.A ∧ X.mg x = some (.ref f) ∧ PySem.W.keepIn X.K (.ref f) = true ∧ Binds X.K fd ps []
section
variable {X : Cx} {G : Gam} {W : WX} {e a b : Expr} {es : List Expr} {da db : E} {pos p : Pos} {σ : L2.St} {S H S' H' : Hp} {ρ : Env}
/-- what the entry knew stands by itself, or it is a list of ours -/
theorem Rel.known (R : Rel G S H ρ σ) {a : Addr} {o : HO} (e : G.H0 a = some o) (eN : NoTb o) : ∃ o', H a = some o' ∧ NoTb o' := by
  by_cases h : ∀ p ∈ G.io, p.2 ≠ a
  · exact ⟨o, R.fr a o e h eN, eN⟩
  · have h : ∃ p ∈ G.io, p.2 = a := Classical.byContradiction fun z => h fun p hp e => z ⟨p, hp, e⟩
    obtain ⟨p, hp, z⟩ := h
    obtain ⟨e1, q, e2⟩ := R.pin p hp
    obtain ⟨b, ps, us, e3, _, _, hH, _⟩ := R.own e2
    rw [e1] at e3
    cases e3
    rw [z] at hH
    exact ⟨_, hH, noTb_lst⟩
theorem Rel.al_call (R : Rel G S H ρ σ) {M : List Addr} {io : List PV} (h : EndR G.k S H S' H' M io) : ∀ a o, G.H0 a = some o → NoTb o → ∃ o', H' a = some o' := fun a o e eN => by
  obtain ⟨o', e', eN'⟩ := R.known e eN
  exact h.al a o' e' eN'
theorem Rel.nf_call (R : Rel G S H ρ σ) {M : List Addr} {io : List PV} (h : EndR G.k S H S' H' M io) : ∀ a o, G.H0 a = some o → NoTb o → G.S0 a = none → S' a = none := fun a o e eN e2 => by
  obtain ⟨o', e', eN'⟩ := R.known e eN
  exact h.nf a o' e' eN' (R.nf a o e eN e2)
/-- an address that is free, but perhaps for a table, is none of ours -/
theorem Rel.freshNT (R : Rel G S H ρ σ) {p : Addr} (hp : NT H p) : NT G.H0 p := fun o e eN => by
  obtain ⟨o', e', eN'⟩ := R.known e eN
  exact hp o' e' eN'
theorem Rel.notOwnNT (R : Rel G S H ρ σ) {p : Addr} (hp : NT H p) : NotOwn ρ σ p := fun i q h1 h2 => by
  obtain ⟨a, ps, us, e, _, _, hH, _⟩ := R.own h1
  rw [h2] at e
  cases e
  exact hp _ hH noTb_lst
/-- a body's state behind a call that changes nothing of ours -/
theorem Rel.call0 (R : Rel G S H ρ σ) {io : List PV} (h : EndR G.k S H S' H' [] io) : Rel G S' H' ρ σ where
  sub := h.sub
  s0 := R.s0.trans h.sS
  al := fun a o e eN => R.al_call h a o e eN
  fr := fun a o e1 e2 e3 => h.fr a o (R.fr a o e1 e2 e3) (by simp) e3
  nf := fun a o e1 eN e2 => R.nf_call h a o e1 eN e2
  nt := h.nt
  tabs := h.tabs
  len := R.len
  slot := fun i s o e1 e2 => by
    have q := R.slot i s o e1 e2
    cases s with
    | unb => trivial
    | val w => obtain ⟨v, f1, f2⟩ := q; exact ⟨v, f1, f2.mono h.sS⟩
    | own w =>
      obtain ⟨b, qs, ws, f1, f2, f3, f4, f5⟩ := q
      exact ⟨b, qs, ws, f1, f2, h.nf b _ f4 noTb_lst f3, h.fr b _ f4 (by simp) noTb_lst, f5.mono h.sS⟩
  new := R.new
  dis := R.dis
  pin := R.pin
  fix := R.fix
/-- .. that changes the list of the slot i -/
theorem Rel.call1 (R : Rel G S H ρ σ) {i : Nat} {w : PV} {a : Addr} {io : List PV} (h1 : ρ[i]? = some (.own w)) (h2 : σ[i]? = some (some (V.ref a))) (h : EndR G.k S H S' H' [a] io) : ∃ ps, io = [.lst ps] ∧ Rel G S' H' (ρ.set i (.own (.lst ps))) σ := by
  obtain ⟨ps, us, eio, hH', hr⟩ := h.io a (by simp)
  obtain ⟨a', ps0, us0, e2, ep, hS, hH, _⟩ := R.own h1
  rw [h2] at e2
  cases e2
  have hi : i < ρ.length := (List.getElem?_eq_some_iff.mp h1).1
  refine ⟨ps, eio, ⟨h.sub, R.s0.trans h.sS, R.al_call h, fun b o e e1 e2 => ?_, R.nf_call h, h.nt, h.tabs, by simpa using R.len, fun j s o e1 e2 => ?_, fun j q b e1 e2 => ?_, fun j l q q' b e1 e2 e3 e4 => ?_, fun q hq => ?_, R.fix⟩⟩
  · by_cases z : b = a
    · subst z
      rcases R.new i w b h1 h2 with q | ⟨j, q⟩
      · exact absurd e2 (q o e)
      · exact absurd rfl (e1 _ q)
    · exact h.fr b o (R.fr b o e e1 e2) (by simpa using z) e2
  · by_cases ej : j = i
    · subst ej
      rw [List.getElem?_set_self hi] at e1
      cases e1
      rw [h2] at e2
      cases e2
      exact ⟨a, ps, us, rfl, rfl, h.nf a _ hH noTb_lst hS, hH', hr⟩
    · rw [List.getElem?_set_ne (Ne.symm ej)] at e1
      have q := R.slot j s o e1 e2
      cases s with
      | unb => trivial
      | val w => obtain ⟨v, f1, f2⟩ := q; exact ⟨v, f1, f2.mono h.sS⟩
      | own w' =>
        obtain ⟨b, qs, ws, f1, f2, f3, f4, f5⟩ := q
        subst f1
        have z : b ≠ a := fun z => by
          subst z
          exact ej (R.dis j i w' w b e1 h1 e2 h2)
        exact ⟨b, qs, ws, rfl, f2, h.nf b _ f4 noTb_lst f3, h.fr b _ f4 (by simpa using z) noTb_lst, f5.mono h.sS⟩
  · by_cases ej : j = i
    · subst ej
      rw [h2] at e2
      cases e2
      exact R.new j w a h1 h2
    · rw [List.getElem?_set_ne (Ne.symm ej)] at e1
      exact R.new j q b e1 e2
  · have own_at : ∀ (j : Nat) (q : PV), (ρ.set i (.own (.lst ps)))[j]? = some (.own q) → ∃ q', ρ[j]? = some (.own q') := fun j q e => by
      by_cases ej : j = i
      · subst ej; exact ⟨w, h1⟩
      · rw [List.getElem?_set_ne (Ne.symm ej)] at e; exact ⟨q, e⟩
    obtain ⟨q1, f1⟩ := own_at j q e1
    obtain ⟨q2, f2⟩ := own_at l q' e2
    exact R.dis j l q1 q2 b f1 f2 e3 e4
  · obtain ⟨e1, q', e2⟩ := R.pin q hq
    refine ⟨e1, ?_⟩
    by_cases ej : q.1 = i
    · rw [ej]; exact ⟨_, List.getElem?_set_self hi⟩
    · rw [List.getElem?_set_ne (Ne.symm ej)]; exact ⟨q', e2⟩

/-- f(e, ..) -/
def fin (o : FOut) (ρ : Env) : Out PV := match o with
  | .ret p _ => .ok p ρ
  | .own qs _ => .ok (.lst qs) ρ
  | .exc x => .exc x ρ
  | .stuck => .stuck
def dCall (F : Fn) (a : As) : E := fun ρ => (a ρ).bind fun ps ρ1 => fin (F ps) ρ1
/-- .. whose new list is taken as one's own -/
def fCall (F : Fn) (a : As) : As := fun ρ => (a ρ).bind fun ps ρ1 => match F ps with
  | .own qs _ => .ok qs ρ1
  | .exc x => .exc x ρ1
  | _ => .stuck
/-- f(x, e, ..), x a list of one's own in slot i that f changes -/
def dCallIO (F : Fn) (i : Nat) (a : As) : E := fun ρ => (dB i ρ).bind fun _ _ => (a ρ).bind fun ps ρ1 => match ρ1[i]? with
  | some (.own h) => match F (h :: ps) with
    | .ret p [h'] => .ok p (ρ1.set i (.own h'))
    | .own qs [h'] => .ok (.lst qs) (ρ1.set i (.own h'))
    | _ => .stuck
  | _ => .stuck
def fCallIO (F : Fn) (i : Nat) (a : As) : As := fun ρ => (dB i ρ).bind fun _ _ => (a ρ).bind fun ps ρ1 => match ρ1[i]? with
  | some (.own h) => match F (h :: ps) with
    | .own qs [h'] => .ok qs (ρ1.set i (.own h'))
    | _ => .stuck
  | _ => .stuck
theorem run_spF {n : Nat} {F : Fn} {ps : List PV} {vs : List V} {Q : VK} (R : Rel G S H ρ σ) (r : Reps G.k S ps vs) (hn : vs.length = n) (P : Post G W σ (RE G.k) (fin (F ps) ρ) S Q) : SpF G.k n false F vs H Q (WE W σ) := by
  refine ⟨hn, S, ps, [], R.sub, R.nt, R.tabs, ⟨r, rfl⟩, ?_⟩
  cases q : F ps with
  | ret p out =>
    rw [q] at P
    exact fun v S' H' h rv => P v S' H' h.sS (R.call0 h) rv
  | own qs out =>
    rw [q] at P
    intro a us S' H' h hn hS' hH' hr
    have R' := R.call0 h
    obtain ⟨S2, s2, R2, rv⟩ := R'.freezeNew (ps := qs) (v := .ref a) ⟨a, us, rfl, R.freshNT hn, hS', hH', hr, R.notOwnNT hn⟩
    exact P (.ref a) S2 H' (h.sS.trans s2) R2 rv
  | exc x =>
    rw [q] at P
    exact ⟨rfl, fun cls d S' H' h hx => P cls d S' H' h.sS (R.call0 h) hx⟩
  | stuck => rw [q] at P; exact P.elim
theorem run_spFF {n : Nat} {F : Fn} {ps : List PV} {vs : List V} {Q : VK} (R : Rel G S H ρ σ) (r : Reps G.k S ps vs) (hn : vs.length = n) (P : Post G W σ (RF G σ) (match F ps with | .own qs _ => .ok qs ρ | .exc x => .exc x ρ | _ => .stuck) S Q) : SpF G.k n false F vs H Q (WE W σ) := by
  refine ⟨hn, S, ps, [], R.sub, R.nt, R.tabs, ⟨r, rfl⟩, ?_⟩
  cases q : F ps with
  | ret p out => rw [q] at P; exact P.elim
  | own qs out =>
    rw [q] at P
    intro a us S' H' h hn hS' hH' hr
    exact P (.ref a) S' H' h.sS (R.call0 h) ⟨a, us, rfl, R.freshNT hn, hS', hH', hr, R.notOwnNT hn⟩
  | exc x =>
    rw [q] at P
    exact ⟨rfl, fun cls d S' H' h hx => P cls d S' H' h.sS (R.call0 h) hx⟩
  | stuck => rw [q] at P; exact P.elim
theorem len_of {n : Nat} {F : Fn} {qs : List PV} {us : List V} (ar : ∀ qs, qs.length ≠ n → F qs = .stuck) (r : Reps G.k S qs us) (h : F qs ≠ .stuck) : us.length = n := by
  rw [← r.len]
  exact Decidable.byContradiction fun z => h (ar qs z)
theorem e_call {x : Str} {ps : List Str} {F : Fn} {u : As} (C : Ct X G W) (f : FnAt X G.k x ps false F) (hg : Gl X x) (ha : AOk X G W (a :: es) u) (hdb : (x == ("__debug__" : Str)) = false := by decide)
    (he : starEach (a :: es) X.env = (false, eval a X.env) :: starEach es X.env := by rfl) (hpl : (backTo pos (starEach es X.env)).any (·.1) = false := by rfl) : EOk X G W (.Call (.Name x p) (a :: es) [] pos) (dCall F u) := by
  obtain ⟨ar, j, fa, fd, ok, hr, hm, hk, hb⟩ := f
  refine pe_weak (pe_callS ok hr hg hm hk hb (fun σ => passAt C.tk σ) ha hdb he hpl) fun σ H Q ⟨S, ρ, R, P⟩ => ⟨S, ρ, R, Post.bind (R1 := RA G.k) P fun qs ρ1 us S1 H1 s1 R1 rv P1 => ?_⟩
  exact run_spF R1 rv (len_of ar rv fun z => by rw [z] at P1; exact P1.elim) P1
theorem f_call {x : Str} {ps : List Str} {F : Fn} {u : As} (C : Ct X G W) (f : FnAt X G.k x ps false F) (hg : Gl X x) (ha : AOk X G W (a :: es) u) (hdb : (x == ("__debug__" : Str)) = false := by decide)
    (he : starEach (a :: es) X.env = (false, eval a X.env) :: starEach es X.env := by rfl) (hpl : (backTo pos (starEach es X.env)).any (·.1) = false := by rfl) : FOk X G W (.Call (.Name x p) (a :: es) [] pos) (fCall F u) := by
  obtain ⟨ar, j, fa, fd, ok, hr, hm, hk, hb⟩ := f
  refine pe_weak (pe_callS ok hr hg hm hk hb (fun σ => passAt C.tk σ) ha hdb he hpl) fun σ H Q ⟨S, ρ, R, P⟩ => ⟨S, ρ, R, Post.bind (R1 := RA G.k) P fun qs ρ1 us S1 H1 s1 R1 rv P1 => ?_⟩
  exact run_spFF R1 rv (len_of ar rv fun z => by rw [z] at P1; exact P1.elim) P1
/-- no argument -/
theorem pe_call0S {CX : CXT} {k : Nat} {f : Addr} {fd : FuncData} {ps : List Str} {sp : Sp} {E : L2.St → XK} {x : Str} (F : FnOk X.prog X.w X.K X.mg X.base CX k f fd ps sp) (hr : Room k X.A) (hg : Gl X x) (hm : X.mg x = some (.ref f)) (hk : PySem.W.keepIn X.K (.ref f) = true) (hb : Binds X.K fd ps []) (hx : ∀ σ, PassesAt CX X σ (E σ))
    (hdb : (x == ("__debug__" : Str)) = false := by decide) : PE X (.Call (.Name x p) [] [] pos) (tCallS sp E tNil) := by
  refine ⟨fun pins s σ H Q I h => ?_⟩
  refine wpAny_Call_Name_kw (ld_glob I hg hm ?_ hdb)
  exact PySem.W.callWith_K0 I.kIn hk (run_fnS F hr hb (hx σ) I .nil h)
theorem e_call0 {x : Str} {ps : List Str} {F : Fn} (C : Ct X G W) (f : FnAt X G.k x ps false F) (hg : Gl X x) (hdb : (x == ("__debug__" : Str)) = false := by decide) : EOk X G W (.Call (.Name x p) [] [] pos) (dCall F aNil) := by
  obtain ⟨ar, j, fa, fd, ok, hr, hm, hk, hb⟩ := f
  refine pe_weak (pe_call0S ok hr hg hm hk hb (fun σ => passAt C.tk σ) hdb) fun σ H Q ⟨S, ρ, R, P⟩ => ?_
  have P1 : Post G W σ (RE G.k) (PF.fin (F []) ρ) S Q := P
  exact run_spF R Reps.nil (len_of ar (S := S) (G := G) (us := []) Reps.nil fun z => by rw [z] at P1; exact P1.elim) P1
theorem f_call0 {x : Str} {ps : List Str} {F : Fn} (C : Ct X G W) (f : FnAt X G.k x ps false F) (hg : Gl X x) (hdb : (x == ("__debug__" : Str)) = false := by decide) : FOk X G W (.Call (.Name x p) [] [] pos) (fCall F aNil) := by
  obtain ⟨ar, j, fa, fd, ok, hr, hm, hk, hb⟩ := f
  refine pe_weak (pe_call0S ok hr hg hm hk hb (fun σ => passAt C.tk σ) hdb) fun σ H Q ⟨S, ρ, R, P⟩ => ?_
  have P1 : Post G W σ (RF G σ) (match F [] with | .own qs _ => .ok qs ρ | .exc x => .exc x ρ | _ => .stuck) S Q := P
  exact run_spFF R Reps.nil (len_of ar (S := S) (G := G) (us := []) Reps.nil fun z => by rw [z] at P1; exact P1.elim) P1
/-- the shape of a call that changes slot i's list -/
theorem io_aux {β δ : Type} {F : Fn} {i n : Nat} {u : As} {R2 : Env → Hp → Hp → β → δ → Prop} {Q : δ → Hp → Prop} {g : FOut → Env → Out β} {sp' : V → List V → Hp → Prop} (R : Rel G S H ρ σ) (ar : ∀ qs, qs.length ≠ n → F qs = .stuck) (hg : ∀ ρ, g .stuck ρ = .stuck)
    (P : Post G W σ R2 ((dB i ρ).bind fun _ _ => (u ρ).bind fun ps ρ1 => match ρ1[i]? with | some (.own h) => g (F (h :: ps)) ρ1 | _ => .stuck) S Q)
    (k : ∀ (a : Addr) qs ps us vs ρ1 S1 H1, Same S S1 → Rel G S1 H1 ρ1 σ → ρ1[i]? = some (.own (.lst qs)) → σ[i]? = some (some (V.ref a)) → S1 a = none → H1 a = some (.lst us) → Reps G.k S1 qs us → Reps G.k S1 ps vs → (V.ref a :: vs).length = n → Post G W σ R2 (g (F (.lst qs :: ps)) ρ1) S1 Q → sp' (.ref a) vs H1) :
    tVar i σ H fun x H1 => LA G W u σ H1 fun vs H2 => sp' x vs H2 := by
  rcases dB_cases (i := i) (ρ := ρ) with ⟨q, hq⟩ | hq
  · rw [hq] at P
    obtain ⟨_, v, e1, _⟩ := R.slotB hq
    refine ⟨v, e1, S, ρ, R, Post.bind (R1 := RA G.k) P fun ps ρ1 vs S1 H1 s1 R1 rv P1 => ?_⟩
    cases q1 : ρ1[i]? with
    | none => rw [q1] at P1; exact P1.elim
    | some s =>
      rw [q1] at P1
      cases s with
      | unb => exact P1.elim
      | val w => exact P1.elim
      | own w =>
        obtain ⟨a, qs, us, e2, ep, hS, hH, hr⟩ := R1.own q1
        subst ep
        rw [e1] at e2
        cases e2
        have hl : (PV.lst qs :: ps).length = n := Decidable.byContradiction fun z => by
          have P1 : Post G W σ R2 (g (F (.lst qs :: ps)) ρ1) S1 Q := P1
          rw [ar _ z, hg] at P1
          exact P1.elim
        exact k a qs ps us vs ρ1 S1 H1 s1 R1 q1 e1 hS hH hr rv (by rw [← hl]; simp only [List.length_cons]; rw [rv.len]) P1
  · rw [hq] at P; exact P.elim
theorem e_callIO {x : Str} {ps : List Str} {F : Fn} {u : As} {i : Nat} (C : Ct X G W) (f : FnAt X G.k x ps true F) (hg : Gl X x) (hv : PE X a (tVar i)) (ha : AOk X G W es u) (hdb : (x == ("__debug__" : Str)) = false := by decide)
    (he : starEach (a :: es) X.env = (false, eval a X.env) :: starEach es X.env := by rfl) (hpl : (backTo pos (starEach es X.env)).any (·.1) = false := by rfl) : EOk X G W (.Call (.Name x p) (a :: es) [] pos) (dCallIO F i u) := by
  obtain ⟨ar, j, fa, fd, ok, hr, hm, hk, hb⟩ := f
  refine pe_weak (pe_callS ok hr hg hm hk hb (fun σ => passAt C.tk σ) (pa_cons hv ha he) hdb he hpl) fun σ H Q ⟨S, ρ, R, P⟩ => ?_
  refine io_aux (g := fun o ρ1 => match o with | .ret p [h'] => .ok p (ρ1.set i (.own h')) | .own qs [h'] => .ok (.lst qs) (ρ1.set i (.own h')) | _ => .stuck) (sp' := fun x vs H2 => SpF G.k ps.length true F (x :: vs) H2 Q (WE W σ)) R ar (fun _ => rfl) P ?_
  intro l qs ws us vs ρ1 S1 H1 s1 R1 q1 q2 hS hH hr' rv hl P1
  refine ⟨hl, S1, _, [l], R1.sub, R1.nt, R1.tabs, ⟨l, us, qs, ws, vs, rfl, rfl, hS, hH, hr', rv, rfl⟩, ?_⟩
  cases q : F (.lst qs :: ws) with
  | ret w out =>
    rw [q] at P1
    intro v S' H' h rv
    obtain ⟨ps', e, R'⟩ := R1.call1 q1 q2 h
    subst e
    exact P1 v S' H' h.sS R' rv
  | own zs out =>
    rw [q] at P1
    intro l' us' S' H' h hn hS' hH' hrz
    obtain ⟨ps', e, R'⟩ := R1.call1 q1 q2 h
    subst e
    have no : NotOwn (ρ1.set i (.own (.lst ps'))) σ l' := fun m w e1 e2 => by
      by_cases em : m = i
      · subst em
        rw [q2] at e2
        cases e2
        exact hn _ hH noTb_lst
      · rw [List.getElem?_set_ne (Ne.symm em)] at e1
        exact R1.notOwnNT hn m w e1 e2
    obtain ⟨S2, s2, R2, rv⟩ := R'.freezeNew (ps := zs) (v := .ref l') ⟨l', us', rfl, R1.freshNT hn, hS', hH', hrz, no⟩
    exact P1 (.ref l') S2 H' (h.sS.trans s2) R2 rv
  | exc x => rw [q] at P1; exact P1.elim
  | stuck => rw [q] at P1; exact P1.elim
theorem f_callIO {x : Str} {ps : List Str} {F : Fn} {u : As} {i : Nat} (C : Ct X G W) (f : FnAt X G.k x ps true F) (hg : Gl X x) (hv : PE X a (tVar i)) (ha : AOk X G W es u) (hdb : (x == ("__debug__" : Str)) = false := by decide)
    (he : starEach (a :: es) X.env = (false, eval a X.env) :: starEach es X.env := by rfl) (hpl : (backTo pos (starEach es X.env)).any (·.1) = false := by rfl) : FOk X G W (.Call (.Name x p) (a :: es) [] pos) (fCallIO F i u) := by
  obtain ⟨ar, j, fa, fd, ok, hr, hm, hk, hb⟩ := f
  refine pe_weak (pe_callS ok hr hg hm hk hb (fun σ => passAt C.tk σ) (pa_cons hv ha he) hdb he hpl) fun σ H Q ⟨S, ρ, R, P⟩ => ?_
  refine io_aux (g := fun o ρ1 => match o with | .own qs [h'] => .ok qs (ρ1.set i (.own h')) | _ => .stuck) (sp' := fun x vs H2 => SpF G.k ps.length true F (x :: vs) H2 Q (WE W σ)) R ar (fun _ => rfl) P ?_
  intro l qs ws us vs ρ1 S1 H1 s1 R1 q1 q2 hS hH hr' rv hl P1
  refine ⟨hl, S1, _, [l], R1.sub, R1.nt, R1.tabs, ⟨l, us, qs, ws, vs, rfl, rfl, hS, hH, hr', rv, rfl⟩, ?_⟩
  cases q : F (.lst qs :: ws) with
  | ret w out => rw [q] at P1; exact P1.elim
  | own zs out =>
    rw [q] at P1
    intro l' us' S' H' h hn hS' hH' hrz
    obtain ⟨ps', e, R'⟩ := R1.call1 q1 q2 h
    subst e
    have no : NotOwn (ρ1.set i (.own (.lst ps'))) σ l' := fun m w e1 e2 => by
      by_cases em : m = i
      · subst em
        rw [q2] at e2
        cases e2
        exact hn _ hH noTb_lst
      · rw [List.getElem?_set_ne (Ne.symm em)] at e1
        exact R1.notOwnNT hn m w e1 e2
    exact P1 (.ref l') S' H' h.sS R' ⟨l', us', rfl, R1.freshNT hn, hS', hH', hrz, no⟩
  | exc x => rw [q] at P1; exact P1.elim
  | stuck => rw [q] at P1; exact P1.elim
end
end PF

set_option Elab.async false
set_option linter.all false
set_option maxRecDepth 100000
namespace PF
open PySem PySem.Spec PyProof.Rows L2

/-! ## Statements -/
def PostS (G : Gam) (W : WX) (o : Out Flow) (S : Hp) (D : Ends) : Prop := match o with
  | .ok .next ρ' => ∀ σ' S' H', Same S S' → Rel G S' H' ρ' σ' → D.nx σ' H'
  | .ok .brk ρ' => ∀ σ' S' H', Same S S' → Rel G S' H' ρ' σ' → D.bk σ' H'
  | .ok .cont ρ' => ∀ σ' S' H', Same S S' → Rel G S' H' ρ' σ' → D.ct σ' H'
  | .ok (.ret p) ρ' => ∀ v σ' S' H', Same S S' → Rel G S' H' ρ' σ' → Rep G.k S' p v → D.rt v H'
  | .ok (.own ps) ρ' => ∀ v σ' S' H', Same S S' → Rel G S' H' ρ' σ' → RF G σ' ρ' S' H' ps v → D.rt v H'
  | .exc x ρ' => ∀ cls d σ' S' H', Same S S' → Rel G S' H' ρ' σ' → ExcR G.k H' x cls d → W cls d σ' H'
  | .stuck => False
def LS (G : Gam) (W : WX) (d : C) : TS := fun D σ H => ∃ S ρ, Rel G S H ρ σ ∧ PostS G W (d ρ) S D
abbrev SOk (X : Cx) (G : Gam) (W : WX) (s : Stmt) (d : C) : Prop := PS X s (LS G W d)
abbrev BsOk (X : Cx) (G : Gam) (W : WX) (s : List Stmt) (d : C) : Prop := PSs X s (LS G W d)
def sNext : C := fun ρ => .ok .next ρ
def sSeq (c d : C) : C := fun ρ => (c ρ).bind fun f ρ1 => match f with
  | .next => d ρ1
  | f => .ok f ρ1
def sExpr (a : E) : C := fun ρ => (a ρ).bind fun _ ρ1 => .ok .next ρ1
def sSet (i : Nat) (a : E) : C := fun ρ => (a ρ).bind fun p ρ1 => .ok .next (ρ1.set i (.val p))
def sOwn (i : Nat) (a : As) : C := fun ρ => (a ρ).bind fun ps ρ1 => .ok .next (ρ1.set i (.own (.lst ps)))
def sRet (a : E) : C := fun ρ => (a ρ).bind fun p ρ1 => .ok (.ret p) ρ1
def sRetN : C := fun ρ => .ok (.ret .non) ρ
def sRetF (a : As) : C := fun ρ => (a ρ).bind fun p ρ1 => .ok (.own p) ρ1
/-- a list of the variable's own is handed back -/
def sRetV (i : Nat) : C := fun ρ => match ρ[i]? with
  | some (.own (.lst ps)) => .ok (.own ps) (ρ.set i .unb)
  | _ => .stuck
def sIf (t : T) (c d : C) : C := fun ρ => (t ρ).bind fun b ρ1 => match b with
  | true => c ρ1
  | false => d ρ1
/-- a list of the variable's own is a value from now on (no row of the text) -/
def sFrz (i : Nat) (d : C) : C := fun ρ => match ρ[i]? with
  | some (.own p) => d (ρ.set i (.val p))
  | _ => d ρ
def sBrk : C := fun ρ => .ok .brk ρ
def sCont : C := fun ρ => .ok .cont ρ
def sRaise (x : Str) : C := fun ρ => .exc ⟨x, []⟩ ρ

section
variable {X : Cx} {G : Gam} {W : WX} {e a b : Expr} {es : List Expr} {da db : E} {pos p : Pos} {st : Stmt} {sts : List Stmt} {c d : C}
theorem PostS.up {S S' : Hp} {o : Out Flow} {D : Ends} (h : PostS G W o S D) (e : Same S S') : PostS G W o S' D := by
  cases o with
  | ok f ρ' =>
    cases f with
    | next => exact fun σ' S2 H2 e2 r => h σ' S2 H2 (e.trans e2) r
    | brk => exact fun σ' S2 H2 e2 r => h σ' S2 H2 (e.trans e2) r
    | cont => exact fun σ' S2 H2 e2 r => h σ' S2 H2 (e.trans e2) r
    | ret q => exact fun v σ' S2 H2 e2 r => h v σ' S2 H2 (e.trans e2) r
    | own q => exact fun v σ' S2 H2 e2 r => h v σ' S2 H2 (e.trans e2) r
  | exc x ρ' => exact fun c d σ' S2 H2 e2 r q => h c d σ' S2 H2 (e.trans e2) r q
  | stuck => exact h
/-- an expression, then the rest of a statement -/
theorem PostS.bindE {α β : Type} {R1 : Env → Hp → Hp → α → β → Prop} {o : Out α} {g : α → Env → Out Flow} {S : Hp} {σ : L2.St} {D : Ends} {Q' : β → Hp → Prop} (h : PostS G W (o.bind g) S D)
    (k : ∀ x ρ' v S' H', Same S S' → Rel G S' H' ρ' σ → R1 ρ' S' H' x v → PostS G W (g x ρ') S' D → Q' v H') : Post G W σ R1 o S Q' := by
  cases o with
  | ok x ρ' => exact fun v S' H' e r q => k x ρ' v S' H' e r q (PostS.up h e)
  | exc x ρ' => exact fun c d S' H' e r q => h c d σ S' H' e r q
  | stuck => exact h
/-- a statement, then the rest -/
theorem PostS.bindS {o : Out Flow} {g : Env → Out Flow} {S : Hp} {D D' : Ends} (h : PostS G W (o.bind fun f ρ1 => match f with | .next => g ρ1 | f => .ok f ρ1) S D)
    (k : ∀ ρ' σ' S' H', Same S S' → Rel G S' H' ρ' σ' → PostS G W (g ρ') S' D → D'.nx σ' H') (hb : D'.bk = D.bk := by rfl) (hc : D'.ct = D.ct := by rfl) (hr : D'.rt = D.rt := by rfl) : PostS G W o S D' := by
  cases o with
  | ok f ρ' =>
    cases f with
    | next => exact fun σ' S' H' e r => k ρ' σ' S' H' e r (PostS.up h e)
    | brk => intro σ' S' H' e r; rw [hb]; exact h σ' S' H' e r
    | cont => intro σ' S' H' e r; rw [hc]; exact h σ' S' H' e r
    | ret q => intro v σ' S' H' e r; rw [hr]; exact h v σ' S' H' e r
    | own q => intro v σ' S' H' e r; rw [hr]; exact h v σ' S' H' e r
  | exc x ρ' => exact h
  | stuck => exact h
theorem bs_nil : BsOk X G W [] sNext := pss_weak pss_nil fun D σ H ⟨S, ρ, R, P⟩ => P σ S H (.refl _) R
theorem bs_cons (h1 : SOk X G W st c) (h2 : BsOk X G W sts d) : BsOk X G W (st :: sts) (sSeq c d) :=
  pss_weak (pss_cons h1 h2) fun D σ H ⟨S, ρ, R, P⟩ => ⟨S, ρ, R, PostS.bindS P fun ρ' σ' S' H' e r P' => ⟨S', ρ', r, P'⟩⟩
theorem bs_one (h1 : SOk X G W st c) : BsOk X G W [st] c := pss_one h1
/-- a ghost step ahead of a statement -/
theorem s_frz {i : Nat} (h : SOk X G W st c) (hio : ∀ q ∈ G.ix, q.1 ≠ i) : SOk X G W st (sFrz i c) :=
  ps_weak h fun D σ H ⟨S, ρ, R, P⟩ => by
    unfold sFrz at P
    cases q : ρ[i]? with
    | none => rw [q] at P; exact ⟨S, ρ, R, P⟩
    | some s =>
      rw [q] at P
      cases s with
      | unb => exact ⟨S, ρ, R, P⟩
      | val w => exact ⟨S, ρ, R, P⟩
      | own w =>
        obtain ⟨S', s', R'⟩ := R.freeze q hio
        exact ⟨S', _, R', PostS.up P s'⟩
theorem s_pass : SOk X G W (.Pass pos) sNext := ps_weak ps_pass fun D σ H ⟨S, ρ, R, P⟩ => P σ S H (.refl _) R
theorem s_brk : SOk X G W (.Break pos) sBrk := ps_weak ps_break fun D σ H ⟨S, ρ, R, P⟩ => P σ S H (.refl _) R
theorem s_cont : SOk X G W (.Continue pos) sCont := ps_weak ps_continue fun D σ H ⟨S, ρ, R, P⟩ => P σ S H (.refl _) R
theorem s_expr (h : EOk X G W a da) (hs : swapsWith a none pos.line X.env = pure false := by rfl) : SOk X G W (.Expr a pos) (sExpr da) :=
  ps_weak (ps_expr h hs) fun D σ H ⟨S, ρ, R, P⟩ => ⟨S, ρ, R, PostS.bindE (R1 := RE G.k) P fun x ρ' v S' H' e r rv P' => P' σ S' H' (.refl _) r⟩
theorem s_ret (h : EOk X G W a da) : SOk X G W (.Return (some a) pos) (sRet da) :=
  ps_weak (ps_ret h) fun D σ H ⟨S, ρ, R, P⟩ => ⟨S, ρ, R, PostS.bindE (R1 := RE G.k) P fun x ρ' v S' H' e r rv P' => P' v σ S' H' (.refl _) r rv⟩
theorem s_retN : SOk X G W (.Return none pos) sRetN := ps_weak ps_retN fun D σ H ⟨S, ρ, R, P⟩ => P .non σ S H (.refl _) R rep_non
theorem s_retF {u : As} (h : FOk X G W a u) : SOk X G W (.Return (some a) pos) (sRetF u) :=
  ps_weak (ps_ret h) fun D σ H ⟨S, ρ, R, P⟩ => ⟨S, ρ, R, PostS.bindE (R1 := RF G σ) P fun x ρ' v S' H' e r rv P' => P' v σ S' H' (.refl _) r rv⟩
theorem s_retV {i : Nat} (h : PE X a (tVar i)) (hio : ∀ q ∈ G.ix, q.1 ≠ i) : SOk X G W (.Return (some a) pos) (sRetV i) :=
  ps_weak (ps_ret h) fun D σ H ⟨S, ρ, R, P⟩ => by
    unfold sRetV at P
    cases q : ρ[i]? with
    | none => rw [q] at P; exact P.elim
    | some s =>
      rw [q] at P
      cases s with
      | unb => exact P.elim
      | val w => exact P.elim
      | own w =>
        obtain ⟨l, ps, us, e2, ep, hS, hH, hr⟩ := R.own q
        subst ep
        refine ⟨.ref l, e2, ?_⟩
        have P : ∀ v σ' S' H', Same S S' → Rel G S' H' (ρ.set i .unb) σ' → RF G σ' (ρ.set i .unb) S' H' ps v → D.rt v H' := P
        have hiσ : i < σ.length := (List.getElem?_eq_some_iff.mp e2).1
        have es : σ.set i (some (.ref l)) = σ := by
          apply List.ext_getElem?
          intro j
          by_cases ej : j = i
          · subst ej; rw [List.getElem?_set_self hiσ, e2]
          · rw [List.getElem?_set_ne (Ne.symm ej)]
        have R' := R.unbind i (some (.ref l)) hio
        rw [es] at R'
        have h0 : NT G.H0 l := by
          rcases R.new i _ l q e2 with z | ⟨j, z⟩
          · exact z
          · obtain ⟨e3, q', e4⟩ := R.pin _ z
            exact absurd (R.dis j i q' _ l e4 q e3 e2) (ix_io hio _ z)
        refine P (.ref l) σ S H (.refl _) R' ⟨l, us, rfl, h0, hS, hH, hr, fun j w f1 f2 => ?_⟩
        by_cases ej : j = i
        · subst ej
          rw [List.getElem?_set_self (by rw [R.len]; exact hiσ)] at f1
          cases f1
        · rw [List.getElem?_set_ne (Ne.symm ej)] at f1
          exact ej (R.dis j i w _ l f1 q f2 e2)
theorem s_if {t : T} {x y : List Stmt} (ht : TOk X G W a t) (hx : BsOk X G W x c) (hy : BsOk X G W y d) : SOk X G W (.If a x y pos) (sIf t c d) :=
  ps_weak (ps_if ht hx hy) fun D σ H ⟨S, ρ, R, P⟩ => ⟨S, ρ, R, PostS.bindE (R1 := RT) P fun z ρ' v S' H' e r ev P' => by
    cases ev
    cases z with
    | true => rw [if_pos rfl]; exact ⟨S', ρ', r, P'⟩
    | false => rw [if_neg Bool.false_ne_true]; exact ⟨S', ρ', r, P'⟩⟩
theorem s_set {i : Nat} {x : Str} {pos' : Pos} (C : Ct X G W) (hi : X.N[i]? = some x) (hx : Loc X.env.scope x) (hio : ∀ q ∈ G.ix, q.1 ≠ i) (h : EOk X G W a da) (hf : X.fn x = true ∨ X.env.scope.names.lookup x = some .local) (hs : swapsWith a (some (.Name x pos')) pos.line X.env = pure false := by rfl) :
    SOk X G W (.Assign [.Name x pos'] a pos) (sSet i da) :=
  ps_weak (ps_set C.nd hi hx h hs hf) fun D σ H ⟨S, ρ, R, P⟩ => ⟨S, ρ, R, PostS.bindE (R1 := RE G.k) P fun z ρ' v S' H' e r rv P' => P' _ S' H' (.refl _) (r.set rv hio)⟩
theorem s_own {i : Nat} {x : Str} {pos' : Pos} {u : As} (C : Ct X G W) (hi : X.N[i]? = some x) (hx : Loc X.env.scope x) (hio : ∀ q ∈ G.ix, q.1 ≠ i) (h : FOk X G W a u) (hf : X.fn x = true ∨ X.env.scope.names.lookup x = some .local) (hs : swapsWith a (some (.Name x pos')) pos.line X.env = pure false := by rfl) :
    SOk X G W (.Assign [.Name x pos'] a pos) (sOwn i u) :=
  ps_weak (ps_set C.nd hi hx h hs hf) fun D σ H ⟨S, ρ, R, P⟩ => ⟨S, ρ, R, PostS.bindE (R1 := RF G σ) P fun z ρ' v S' H' e r rf P' => by
    obtain ⟨l, us, rfl, h0, hS, hH, hr, hn⟩ := rf
    exact P' _ S' H' (.refl _) (r.setOwn h0 hS hH hr hn hio)⟩

/-! ### targets -/
abbrev Tg := PV → Env → Option Env
def gN (i : Nat) : Tg := fun p ρ => some (ρ.set i (.val p))
/-- nobody reads it -/
abbrev Tgs := List PV → Env → Option Env
def gs0 : Tgs := fun ps ρ => match ps with
  | [] => some ρ
  | _ => none
def gsC (g : Tg) (r : Tgs) : Tgs := fun ps ρ => match ps with
  | p :: ps => match g p ρ with
    | some ρ1 => r ps ρ1
    | none => none
  | [] => none
def gT (n : Nat) (g : Tgs) : Tg := fun p ρ => match p with
  | .tup ps => if ps.length = n then g ps ρ else none
  | _ => none
/-- σ' is σ but for the slots vs -/
structure AgO (vs : List Nat) (σ σ' : L2.St) : Prop where
  len : σ'.length = σ.length
  out : ∀ j, j ∉ vs → σ'[j]? = σ[j]?
theorem AgO.refl (vs : List Nat) (σ : L2.St) : AgO vs σ σ := ⟨rfl, fun _ _ => rfl⟩
theorem AgO.trans {vs : List Nat} {σ σ1 σ2 : L2.St} (a : AgO vs σ σ1) (b : AgO vs σ1 σ2) : AgO vs σ σ2 := ⟨b.len.trans a.len, fun j h => (b.out j h).trans (a.out j h)⟩
theorem AgO.set {vs : List Nat} {σ : L2.St} {i : Nat} {o : Option V} (h : i ∈ vs) : AgO vs σ (σ.set i o) := ⟨by simp, fun j hj => List.getElem?_set_ne (fun z => hj (by rw [← z]; exact h))⟩
def LG (G : Gam) (vs : List Nat) (g : Tg) : TG := fun v σ H Q => ∃ S ρ q ρ', Rel G S H ρ σ ∧ Rep G.k S q v ∧ g q ρ = some ρ' ∧ ∀ σ', Rel G S H ρ' σ' → AgO vs σ σ' → Q σ' H
def LGs (G : Gam) (vs : List Nat) (g : Tgs) : TGs := fun us σ H Q => ∃ S ρ qs ρ', Rel G S H ρ σ ∧ Reps G.k S qs us ∧ g qs ρ = some ρ' ∧ ∀ σ', Rel G S H ρ' σ' → AgO vs σ σ' → Q σ' H
abbrev GOk (X : Cx) (G : Gam) (vs : List Nat) (e : Expr) (g : Tg) : Prop := PG X e (LG G vs g)
abbrev GsOk (X : Cx) (G : Gam) (vs : List Nat) (es : List Expr) (g : Tgs) : Prop := PGs X es (LGs G vs g)
theorem pg_weak {e : Expr} {t t' : TG} (h : PG X e t) (w : ∀ v σ H Q, t' v σ H Q → t v σ H Q) : PG X e t' := ⟨fun pins s σ H v u Q I r q => h.run pins s σ H v u Q I r (w v σ H Q q)⟩
theorem pgs_weak {es : List Expr} {t t' : TGs} (h : PGs X es t) (w : ∀ v σ H Q, t' v σ H Q → t v σ H Q) : PGs X es t' := ⟨fun pins s σ H v u Q I r q => h.run pins s σ H v u Q I r (w v σ H Q q)⟩
theorem g_n {i : Nat} {x : Str} {vs : List Nat} (nd : X.N.Nodup) (hi : X.N[i]? = some x) (hx : Loc X.env.scope x) (hio : ∀ q ∈ G.ix, q.1 ≠ i) (hf : X.fn x = true ∨ X.env.scope.names.lookup x = some .local) (hv : i ∈ vs := by decide) : GOk X G vs (.Name x pos) (gN i) :=
  pg_weak (pg_name nd hi hx hf) fun v σ H Q ⟨S, ρ, q, ρ', R, r, e, k⟩ => by
    cases e
    exact k _ (R.set r hio) (.set hv)
theorem gs_0 {vs : List Nat} : GsOk X G vs [] gs0 := pgs_weak pgs_nil fun vs σ H Q ⟨S, ρ, qs, ρ', R, r, e, k⟩ => by
  cases qs with
  | nil =>
    cases e
    simp only [Reps] at r
    exact ⟨r, k σ R (.refl _ _)⟩
  | cons q qs => cases e
theorem gs_c {g : Tg} {gs : Tgs} {vs : List Nat} (h1 : GOk X G vs a g) (h2 : GsOk X G vs es gs) (hs : (assignEach (a :: es) X.env).map (·.2) = assign a X.env :: (assignEach es X.env).map (·.2) := by rfl) : GsOk X G vs (a :: es) (gsC g gs) :=
  pgs_weak (pgs_cons h1 h2 hs) fun vs σ H Q ⟨S, ρ, qs, ρ', R, r, e, k⟩ => by
    cases qs with
    | nil => cases e
    | cons q qs =>
      simp only [Reps] at r
      obtain ⟨u, us, rfl, r1, r2⟩ := r
      unfold gsC at e
      simp only at e
      cases e1 : g q ρ with
      | none => rw [e1] at e; cases e
      | some ρ1 =>
        rw [e1] at e
        exact ⟨u, us, rfl, S, ρ, q, ρ1, R, r1, e1, fun σ1 R1 a1 => ⟨S, ρ1, qs, ρ', R1, r2, e, fun σ2 R2 a2 => k σ2 R2 (a1.trans a2)⟩⟩
theorem g_t {gs : Tgs} {n kk : Nat} {vs : List Nat} (C : X.calm = true) (hK : G.k.K = X.K) (h : GsOk X G vs es gs) (hn : (assignEach es X.env).length = n := by rfl) (hst : (assignEach es X.env).findIdx? (·.1) = none := by rfl) : GOk X G vs (.Tuple es kk pos) (gT n gs) :=
  pg_weak (pg_tup C h hn hst) fun v σ H Q ⟨S, ρ, q, ρ', R, r, e, k⟩ => by
    cases q <;> try cases e
    rename_i ps
    unfold gT at e
    simp only at e
    split at e
    · rename_i hl
      simp only [Rep] at r
      obtain ⟨l, us, rfl, h1, h2⟩ := r
      exact ⟨l, us, rfl, by rw [← hK]; exact sqT_mono R.sub h1, by rw [← h2.len]; exact hl, S, ρ, ps, ρ', R, h2, e, k⟩
    · cases e
/-- target = value -/
def sAsg (g : Tg) (a : E) : C := fun ρ => (a ρ).bind fun p ρ1 => match g p ρ1 with
  | some ρ2 => .ok .next ρ2
  | none => .stuck
theorem s_asg {g : Tg} {vs : List Nat} (hg : GOk X G vs b g) (h : EOk X G W a da) (hs : swapsWithSole [b] a pos.line X.env = pure false := by rfl) (hw : swappedStores [b] a X.env = pure none := by rfl) (h1 : (assignEach [b] X.env).map (·.2) = [assign b X.env] := by rfl) :
    SOk X G W (.Assign [b] a pos) (sAsg g da) :=
  ps_weak (ps_asg h hg hs hw h1) fun D σ H ⟨S, ρ, R, P⟩ => ⟨S, ρ, R, PostS.bindE (R1 := RE G.k) P fun z ρ' v S' H' e r rv P' => by
    cases q : g z ρ' with
    | none => rw [q] at P'; exact P'.elim
    | some ρ2 =>
      rw [q] at P'
      exact ⟨S', ρ', z, ρ2, r, rv, q, fun σ' R' _ => P' σ' S' H' (.refl _) R'⟩⟩
/-- x, y = a, b: two plain names; three -/
def sPar (is : List Nat) (a : As) : C := fun ρ => (a ρ).bind fun ps ρ1 => if ps.length = is.length then .ok .next ((is.zip ps).foldl (fun ρ q => ρ.set q.1 (.val q.2)) ρ1) else .stuck
theorem s_par2 {i j : Nat} {x y : Str} {px py pt pt2 : Pos} {kt k2 : Nat} {e1 e2 : Expr} {u : As} (C : Ct X G W) (hc : X.calm = true) (hi : X.N[i]? = some x) (hj : X.N[j]? = some y) (hij : i ≠ j) (hx : X.env.scope.names.lookup x = some .local) (hy : X.env.scope.names.lookup y = some .local)
    (io1 : ∀ q ∈ G.ix, q.1 ≠ i) (io2 : ∀ q ∈ G.ix, q.1 ≠ j) (ha : AOk X G W [e1, e2] u) (hw : swappedStores [.Tuple [.Name x px, .Name y py] kt pt] (.Tuple [e1, e2] k2 pt2) X.env = pure (some [x, y]))
    (hs : swapsWithSole [.Tuple [.Name x px, .Name y py] kt pt] (.Tuple [e1, e2] k2 pt2) pos.line X.env = pure false := by rfl) : SOk X G W (.Assign [.Tuple [.Name x px, .Name y py] kt pt] (.Tuple [e1, e2] k2 pt2) pos) (sPar [i, j] u) :=
  ps_weak (ps_par hc C.nd hi hj hij hx hy ha hw hs) fun D σ H ⟨S, ρ, R, P⟩ => ⟨S, ρ, R, PostS.bindE (R1 := RA G.k) P fun z ρ' v S' H' e r rv P' => by
    split at P'
    · rename_i hl
      match z, hl with
      | [q1, q2], _ =>
        simp only [Reps] at rv
        obtain ⟨v1, _, rfl, r1, v2, _, rfl, r2, rfl⟩ := rv
        exact ⟨v1, v2, rfl, P' _ S' H' (.refl _) ((r.set r1 io1).set r2 io2)⟩
    · exact P'.elim⟩
end
end PF

set_option Elab.async false
set_option linter.all false
set_option maxRecDepth 100000
namespace PF
open PySem PySem.Spec PyProof.Rows L2

/-! ## Loops -/
structure Yl (k : Kx) (S : Hp) (J : It) (xs : List PV) : Prop where
  go : ∀ i S' H', Same S S' → Same S' H' → i < xs.length → J.go i H'
  yl : ∀ i S' H' x H'', Same S S' → Same S' H' → i < xs.length → J.yld i H' x H'' → ∃ S'', Grow S' H' S'' H'' ∧ ∀ p, xs[i]? = some p → Rep k S'' p x
  stop : ∀ S' H', Same S S' → Same S' H' → J.stop xs.length H'
abbrev RI (k : Kx) : Env → Hp → Hp → List PV → It → Prop := fun _ S _ xs J => Yl k S J xs
def LI (G : Gam) (W : WX) (d : As) : TI := fun σ H R => ∃ S ρ, Rel G S H ρ σ ∧ Post G W σ (RI G.k) (d ρ) S R
abbrev IOk (X : Cx) (G : Gam) (W : WX) (tg e : Expr) (d : As) : Prop := PI X tg e (LI G W d)
theorem pi_weak {X : Cx} {tg e : Expr} {t t' : TI} (h : PI X tg e t) (w : ∀ σ H R, t' σ H R → t σ H R) : PI X tg e t' := ⟨fun pins s σ H R I q => h.run pins s σ H R I (w σ H R q)⟩
/-- behind a turn -/
def loopK (again : Env → Out Flow) : Flow → Env → Out Flow := fun f ρ => match f with
  | .next => again ρ
  | .cont => again ρ
  | .brk => .ok .next ρ
  | f => .ok f ρ
def forL (g : Tg) (b : C) : List PV → Env → Out Flow
  | [], ρ => .ok .next ρ
  | x :: xs, ρ => match g x ρ with
    | some ρ1 => (b ρ1).bind (loopK (forL g b xs))
    | none => .stuck
def sFor (it : As) (g : Tg) (b : C) : C := fun ρ => (it ρ).bind fun xs ρ1 => forL g b xs ρ1
def whileN (t : T) (b : C) : Nat → Env → Out Flow
  | 0, _ => .stuck
  | n + 1, ρ => (t ρ).bind fun c ρ1 => match c with
    | true => (b ρ1).bind (loopK (whileN t b n))
    | false => .ok .next ρ1
/-- more turns than any loop here makes -/
def fuel : Nat := 2 ^ 200
def sWhile (t : T) (b : C) : C := whileN t b fuel
section
variable {X : Cx} {G : Gam} {W : WX} {e a b : Expr} {es : List Expr} {da db : E} {pos p : Pos} {st : Stmt} {sts : List Stmt} {c d : C}
theorem PostS.bindL {o : Out Flow} {again : Env → Out Flow} {S : Hp} {D : Ends} {N : L2.St → Hp → Prop} (h : PostS G W (o.bind (loopK again)) S D)
    (k : ∀ ρ' σ' S' H', Same S S' → Rel G S' H' ρ' σ' → PostS G W (again ρ') S' D → N σ' H') : PostS G W o S { D with nx := N, ct := N, bk := D.nx } := by
  cases o with
  | ok f ρ' =>
    cases f with
    | next => exact fun σ' S' H' e r => k ρ' σ' S' H' e r (PostS.up h e)
    | cont => exact fun σ' S' H' e r => k ρ' σ' S' H' e r (PostS.up h e)
    | brk => exact fun σ' S' H' e r => h σ' S' H' e r
    | ret q => exact fun v σ' S' H' e r => h v σ' S' H' e r
    | own q => exact fun v σ' S' H' e r => h v σ' S' H' e r
  | exc x ρ' => exact h
  | stuck => exact h
theorem s_for {tg : Expr} {it : As} {g : Tg} {vs : List Nat} {body : List Stmt} (hp : PassesOwn (model X.prog X.w) X.A X.env X.xe) (C : Ct X G W) (hc : X.calm = true) (hi : IOk X G W tg e it) (hg : GOk X G vs tg g) (hb : BsOk X G W body c) (hs : ∀ x, foldedSetIterable e X.env x = pure x := by intro _; rfl) :
    SOk X G W (.For tg e body [] pos) (sFor it g c) :=
  ps_weak (ps_for hp hc hi hg hb hs) fun D σ H ⟨S, ρ, R, P⟩ => ⟨S, ρ, R, PostS.bindE (R1 := RI G.k) P fun xs ρ1 J S1 H1 s1 R1 yl P1 => by
    refine ⟨fun i m σ' H' => m = xs.length - i ∧ i ≤ xs.length ∧ ∃ S' ρ', Same S1 S' ∧ Rel G S' H' ρ' σ' ∧ PostS G W (forL g c (xs.drop i) ρ') S' D, ⟨xs.length, by simp, Nat.zero_le _, S1, ρ1, .refl _, R1, P1⟩, ?_⟩
    rintro i m σ2 H2 ⟨rfl, hi, S2, ρ2, s2, R2, P2⟩
    by_cases hlt : i < xs.length
    · have ed : xs.drop i = xs[i] :: xs.drop (i + 1) := List.drop_eq_getElem_cons hlt
      rw [ed] at P2
      unfold forL at P2
      refine .inr ⟨yl.go i S2 H2 s2 R2.sub hlt, fun σ' H' => ∃ S' ρ', Same S1 S' ∧ Rel G S' H' ρ' σ' ∧ PostS G W (forL g c (xs.drop (i + 1)) ρ') S' D, fun σ' H' n => ⟨xs.length - (i + 1), by omega, rfl, hlt, n⟩, fun x H3 hy => ?_⟩
      obtain ⟨S3, gr, rx⟩ := yl.yl i S2 H2 x H3 s2 R2.sub hlt hy
      have R3 := R2.grow gr
      cases q : g xs[i] ρ2 with
      | none => rw [q] at P2; exact P2.elim
      | some ρ3 =>
        rw [q] at P2
        refine ⟨S3, ρ2, xs[i], ρ3, R3, rx _ (by simp [hlt]), q, fun σ' R' _ => ⟨S3, ρ3, R', ?_⟩⟩
        exact PostS.bindL (PostS.up P2 gr.sS) fun ρ' σ'' S' H' e' r' P' => ⟨S', ρ', (s2.trans gr.sS).trans e', r', P'⟩
    · have ei : i = xs.length := by omega
      subst ei
      rw [List.drop_length] at P2
      exact .inl ⟨yl.stop S2 H2 s2 R2.sub, P2 σ2 S2 H2 (.refl _) R2⟩⟩
theorem s_while {t : T} {body : List Stmt} (hp : PassesOwn (model X.prog X.w) X.A X.env X.xe) (ht : TOk X G W e t) (hb : BsOk X G W body c) : SOk X G W (.While e body [] pos) (sWhile t c) :=
  ps_weak (ps_while hp ht hb) fun D σ H ⟨S, ρ, R, P⟩ => by
    refine ⟨fun m σ' H' => ∃ S' ρ', Rel G S' H' ρ' σ' ∧ PostS G W (whileN t c m ρ') S' D, ⟨fuel, S, ρ, R, P⟩, ?_⟩
    rintro m σ2 H2 ⟨S2, ρ2, R2, P2⟩
    cases m with
    | zero => exact P2.elim
    | succ m =>
      unfold whileN at P2
      refine ⟨S2, ρ2, R2, PostS.bindE (R1 := RT) P2 fun z ρ' v S' H' e' r ev P' => ?_⟩
      cases ev
      cases z with
      | false => rw [if_neg Bool.false_ne_true]; exact P' σ2 S' H' (.refl _) r
      | true =>
        rw [if_pos rfl]
        exact ⟨fun σ' H' => ∃ S' ρ', Rel G S' H' ρ' σ' ∧ PostS G W (whileN t c m ρ') S' D, fun σ' H' n => ⟨m, Nat.lt_succ_self _, n⟩, S', ρ', r, PostS.bindL P' fun ρ'' σ'' S'' H'' e'' r'' P'' => ⟨S'', ρ'', r'', P''⟩⟩

/-! ### what is walked -/
theorem yl_list {k : Kx} {K : PySem.W.Frag} (hK : k.K = K) {S : Hp} {a : Addr} {ps : List PV} {us : List V} (h : SqL k.K S a us) (r : Reps k S ps us) : Yl k S (Itl K a) ps := by
  subst hK
  have up : ∀ {S' H'}, Same S S' → Same S' H' → SqL k.K H' a us := fun e1 e2 => e2.seq (e1.seq h)
  refine ⟨fun i S' H' e1 e2 hi => ?_, fun i S' H' x H'' e1 e2 hi hy => ?_, fun S' H' e1 e2 => ?_⟩
  · have hi' : i < us.length := by rw [← r.len]; exact hi
    exact ⟨us, us[i], up e1 e2, by simp [hi']⟩
  · obtain ⟨rfl, hx⟩ := hy
    refine ⟨S', .refl e2, fun p hp => ?_⟩
    obtain ⟨u, hu, ru⟩ := r.get hp
    have := hx us (up e1 e2)
    rw [hu] at this
    cases this
    exact ru.mono e1
  · exact ⟨us, up e1 e2, by rw [r.len]; exact Nat.le_refl _⟩
theorem yl_tup {k : Kx} {K : PySem.W.Frag} (hK : k.K = K) {S : Hp} {a : Addr} {ps : List PV} {us : List V} (h : SqT k.K S a us) (r : Reps k S ps us) : Yl k S (Itt K a) ps := by
  subst hK
  have up : ∀ {S' H'}, Same S S' → Same S' H' → SqT k.K H' a us := fun e1 e2 => sqT_mono e2 (sqT_mono e1 h)
  refine ⟨fun i S' H' e1 e2 hi => ?_, fun i S' H' x H'' e1 e2 hi hy => ?_, fun S' H' e1 e2 => ?_⟩
  · have hi' : i < us.length := by rw [← r.len]; exact hi
    exact ⟨us, us[i], up e1 e2, by simp [hi']⟩
  · obtain ⟨rfl, hx⟩ := hy
    refine ⟨S', .refl e2, fun p hp => ?_⟩
    obtain ⟨u, hu, ru⟩ := r.get hp
    have := hx us (up e1 e2)
    rw [hu] at this
    cases this
    exact ru.mono e1
  · exact ⟨us, up e1 e2, by rw [r.len]; exact Nat.le_refl _⟩
/-- a list or a tuple, whichever it is -/
def iSeq (K : PySem.W.Frag) (tl : TE) : TI := fun σ H R => tl σ H fun x H1 => ∃ a, x = .ref a ∧ (((∃ xs, SqL K H1 a xs) ∧ R (Itl K a) H1) ∨ ((∃ xs, SqT K H1 a xs) ∧ R (Itt K a) H1))
theorem pi_seq {tg l : Expr} {tl : TE} (hl : PE X l tl) : PI X tg l (iSeq X.K tl) := by
  refine ⟨fun pins s σ H R I h => ?_⟩
  refine thn (hl.run pins s σ H _ I h) fun v s1 ⟨x, H1, I1, r1, q1⟩ => ?_
  obtain ⟨a, e, q⟩ := q1
  subst e
  cases r1
  rcases q with ⟨⟨xs, hq⟩, q⟩ | ⟨⟨xs, hq⟩, q⟩
  · obtain ⟨its, rv, p, hz⟩ := I1.list hq
    refine wpAny_pyIter_list p.isList ?_
    refine ⟨s1.heap.objs.size, [s1.heap.objs.size], _, _, H1, rfl, I1.kept (t' := s1.toks) fun b o e => Heap.get?_push_of_some _ e, turn_list a _, ⟨_, Heap.get?_push_size _ rfl, rfl, rfl⟩, fun b hb => ?_, q⟩
    have e : b = s1.heap.objs.size := by simpa using hb
    subst e
    exact I1.fpOk (Nat.le_refl _) (I1.hok.fresh (Nat.le_refl _))
  · obtain ⟨its, rv, p, hz⟩ := I1.tuple hq
    refine wpAny_pyIter_tuple (show s1.heap.IsTuple a its.toArray from p) ?_
    refine ⟨s1.heap.objs.size, [s1.heap.objs.size], _, _, H1, rfl, I1.kept (t' := s1.toks) fun b o e => Heap.get?_push_of_some _ e, turn_tuple a _, ⟨_, Heap.get?_push_size _ rfl, rfl, rfl⟩, fun b hb => ?_, q⟩
    have e : b = s1.heap.objs.size := by simpa using hb
    subst e
    exact I1.fpOk (Nat.le_refl _) (I1.hok.fresh (Nat.le_refl _))
def itOf : PV → Option (List PV)
  | .lst ps => some ps
  | .tup ps => some ps
  | .scr ps => some ps
  | _ => none
def iU (f : PV → Option (List PV)) (a : E) : As := fun ρ => (a ρ).bind fun x ρ1 => ofO (f x) ρ1
theorem i_seq {tg : Expr} (C : Ct X G W) (h : EOk X G W a da) : IOk X G W tg a (iU itOf da) :=
  pi_weak (pi_seq h) fun σ H Q ⟨S, ρ, R, P⟩ => ⟨S, ρ, R, Post.bind (R1 := RE G.k) P fun x ρ1 v S1 H1 s1 R1 rv P1 => by
    obtain ⟨z, ez, P2⟩ := Post.ofO P1
    cases x <;> simp only [itOf] at ez <;> cases ez
    · simp only [Rep] at rv
      obtain ⟨l, us, rfl, h1, r⟩ := rv
      exact ⟨l, rfl, .inr ⟨⟨us, by rw [← C.K]; exact sqT_mono R1.sub h1⟩, P2 _ S1 H1 (.refl _) R1 (yl_tup C.K h1 r)⟩⟩
    · simp only [Rep] at rv
      obtain ⟨l, us, rfl, h1, r⟩ := rv
      exact ⟨l, rfl, .inl ⟨⟨us, .of (R1.sub _ _ h1)⟩, P2 _ S1 H1 (.refl _) R1 (yl_list C.K (.of h1) r)⟩⟩
    · simp only [Rep] at rv
      obtain ⟨l, us, rfl, h1, r⟩ := rv
      exact ⟨l, rfl, .inl ⟨⟨us, by rw [← C.K]; exact R1.sub.seq h1⟩, P2 _ S1 H1 (.refl _) R1 (yl_list C.K h1 r)⟩⟩⟩
/-- range -/
def rngP (lo : Int) (n : Nat) : List PV := (List.range n).map fun i => .int (lo + (i : Nat))
theorem rngP_len (lo : Int) (n : Nat) : (rngP lo n).length = n := by simp [rngP]
theorem rngP_get {lo : Int} {n i : Nat} {p : PV} (h : (rngP lo n)[i]? = some p) : p = .int (lo + (i : Nat)) := by
  unfold rngP at h
  rw [List.getElem?_map] at h
  cases q : (List.range n)[i]? with
  | none => rw [q] at h; cases h
  | some j =>
    rw [q] at h
    have := List.getElem?_eq_some_iff.mp q
    obtain ⟨h1, h2⟩ := this
    simp at h2
    subst h2
    exact (Option.some.inj h).symm
theorem yl_rng {k : Kx} {S : Hp} (lo : Int) (n : Nat) : Yl k S (Itr lo n) (rngP lo n) := by
  refine ⟨fun i S' H' e1 e2 hi => ?_, fun i S' H' x H'' e1 e2 hi hy => ?_, fun S' H' e1 e2 => ?_⟩
  · rw [rngP_len] at hi; exact hi
  · obtain ⟨rfl, rfl⟩ := hy
    refine ⟨S', .refl e2, fun p hp => ?_⟩
    rw [rngP_get hp]
    exact rep_int _
  · show n ≤ (rngP lo n).length
    rw [rngP_len]; exact Nat.le_refl _
def i62 (i : Int) : Bool := decide (-4611686018427387904 ≤ i) && decide (i < 4611686018427387904)
theorem i62_ok {i : Int} (h : i62 i = true) : -(2 ^ 62) ≤ i ∧ i < 2 ^ 62 := by
  unfold i62 at h
  simp only [Bool.and_eq_true, decide_eq_true_eq] at h
  exact ⟨by omega, by omega⟩
def pRng1 : List PV → Option (List PV)
  | [.int j] => if i62 j then some (rngP 0 j.toNat) else none
  | _ => none
def pRng2 : List PV → Option (List PV)
  | [.int i, .int j] => if i62 i && i62 j then some (rngP i (j - i).toNat) else none
  | _ => none
def iA (f : List PV → Option (List PV)) (a : As) : As := fun ρ => (a ρ).bind fun x ρ1 => ofO (f x) ρ1
theorem reps1 {k : Kx} {S : Hp} {i : Int} {vs : List V} (r : Reps k S [.int i] vs) : vs = [.int i] := by
  simp only [Reps, Rep] at r
  obtain ⟨u, us, rfl, rfl, rfl⟩ := r
  rfl
theorem reps2 {k : Kx} {S : Hp} {i j : Int} {vs : List V} (r : Reps k S [.int i, .int j] vs) : vs = [.int i, .int j] := by
  simp only [Reps, Rep] at r
  obtain ⟨u, us, rfl, rfl, u', us', rfl, rfl, rfl⟩ := r
  rfl
theorem i_rng1 {tg : Expr} {u : As} (hg : Gl X "range") (hm : X.mg "range" = none) (h : AOk X G W [a] u) (hs : starEach [a] X.env = [(false, eval a X.env)] := by rfl) : IOk X G W tg (.Call (.Name "range" p) [a] [] pos) (iA pRng1 u) :=
  pi_weak (pi_range1 hg hm h hs) fun σ H Q ⟨S, ρ, R, P⟩ => ⟨S, ρ, R, Post.bind (R1 := RA G.k) P fun x ρ1 v S1 H1 s1 R1 rv P1 => by
    obtain ⟨z, ez, P2⟩ := Post.ofO P1
    unfold pRng1 at ez
    split at ez
    · split at ez
      · rename_i j hj
        cases ez
        rw [reps1 rv]
        exact ⟨_, rfl, (i62_ok hj).1, (i62_ok hj).2, P2 _ S1 H1 (.refl _) R1 (yl_rng _ _)⟩
      · cases ez
    · cases ez⟩
theorem i_rng2 {tg : Expr} {u : As} (hg : Gl X "range") (hm : X.mg "range" = none) (h : AOk X G W [a, b] u) (hs : starEach [a, b] X.env = [(false, eval a X.env), (false, eval b X.env)] := by rfl) (hs2 : starEach [b] X.env = [(false, eval b X.env)] := by rfl) : IOk X G W tg (.Call (.Name "range" p) [a, b] [] pos) (iA pRng2 u) :=
  pi_weak (pi_range2 hg hm h hs hs2) fun σ H Q ⟨S, ρ, R, P⟩ => ⟨S, ρ, R, Post.bind (R1 := RA G.k) P fun x ρ1 v S1 H1 s1 R1 rv P1 => by
    obtain ⟨z, ez, P2⟩ := Post.ofO P1
    unfold pRng2 at ez
    split at ez
    · split at ez
      · rename_i i j hj
        rw [Bool.and_eq_true] at hj
        cases ez
        rw [reps2 rv]
        exact ⟨_, _, rfl, ⟨(i62_ok hj.1).1, (i62_ok hj.1).2, (i62_ok hj.2).1, (i62_ok hj.2).2⟩, P2 _ S1 H1 (.refl _) R1 (yl_rng _ _)⟩
      · cases ez
    · cases ez⟩
/-- range with a step -/
def rngC (lo c : Int) (n : Nat) : List PV := (List.range n).map fun i => .int (lo + (i : Nat) * c)
theorem rngC_len (lo c : Int) (n : Nat) : (rngC lo c n).length = n := by simp [rngC]
theorem rngC_get {lo c : Int} {n i : Nat} {p : PV} (h : (rngC lo c n)[i]? = some p) : p = .int (lo + (i : Nat) * c) := by
  unfold rngC at h
  rw [List.getElem?_map] at h
  cases q : (List.range n)[i]? with
  | none => rw [q] at h; cases h
  | some j =>
    rw [q] at h
    obtain ⟨h1, h2⟩ := List.getElem?_eq_some_iff.mp q
    simp at h2
    subst h2
    exact (Option.some.inj h).symm
theorem yl_rngC {k : Kx} {S : Hp} (lo c : Int) (n : Nat) : Yl k S (Itc lo c n) (rngC lo c n) := by
  refine ⟨fun i S' H' e1 e2 hi => ?_, fun i S' H' x H'' e1 e2 hi hy => ?_, fun S' H' e1 e2 => ?_⟩
  · rw [rngC_len] at hi; exact hi
  · obtain ⟨rfl, rfl⟩ := hy
    refine ⟨S', .refl e2, fun p hp => ?_⟩
    rw [rngC_get hp]
    exact rep_int _
  · show n ≤ (rngC lo c n).length
    rw [rngC_len]; exact Nat.le_refl _
/-- enumerate of a list -/
theorem tup2 {k : Kx} {S : Hp} {t : Addr} {p q : PV} {u v : V} (h : S t = some (.tup [u, v])) (r1 : Rep k S p u) (r2 : Rep k S q v) : Rep k S (.tup [p, q]) (.ref t) := rep_tup (.of h) (Reps.cons r1 (Reps.cons r2 Reps.nil))
def enumP : Nat → List PV → List PV
  | _, [] => []
  | n, x :: xs => .tup [.int (n : Nat), x] :: enumP (n + 1) xs
theorem enumP_len : ∀ (xs : List PV) (n : Nat), (enumP n xs).length = xs.length
  | [], _ => rfl
  | _ :: xs, n => by simp only [enumP, List.length_cons, enumP_len xs]
theorem enumP_get : ∀ {xs : List PV} {n i : Nat} {p : PV}, (enumP n xs)[i]? = some p → ∃ x, xs[i]? = some x ∧ p = .tup [.int ((n + i : Nat) : Nat), x]
  | [], _, _, _, h => by simp [enumP] at h
  | x :: xs, n, 0, p, h => by
    simp only [enumP, List.getElem?_cons_zero] at h
    cases h
    exact ⟨x, rfl, rfl⟩
  | x :: xs, n, i + 1, p, h => by
    simp only [enumP, List.getElem?_cons_succ] at h
    obtain ⟨y, h1, h2⟩ := enumP_get h
    refine ⟨y, by simpa using h1, ?_⟩
    rw [h2]
    have e : n + 1 + i = n + (i + 1) := by omega
    rw [e]
theorem yl_enum {k : Kx} {K : PySem.W.Frag} (hK : k.K = K) {S : Hp} {a : Addr} {ps : List PV} {us : List V} (h : SqL k.K S a us) (r : Reps k S ps us) : Yl k S (Ite K a) (enumP 0 ps) := by
  subst hK
  have up : ∀ {S' H'}, Same S S' → Same S' H' → SqL k.K H' a us := fun e1 e2 => e2.seq (e1.seq h)
  refine ⟨fun i S' H' e1 e2 hi => ?_, fun i S' H' x H'' e1 e2 hi hy => ?_, fun S' H' e1 e2 => ?_⟩
  · rw [enumP_len] at hi
    have hi' : i < us.length := by rw [← r.len]; exact hi
    exact ⟨us, us[i], up e1 e2, by simp [hi']⟩
  · obtain ⟨t, y, rfl, hn, rfl, hx⟩ := hy
    have g := Grow.new (S := S') e2 hn (noTb_tup (xs := [.int (i : Nat), y]))
    refine ⟨_, g, fun p hp => ?_⟩
    obtain ⟨z, hz, rfl⟩ := enumP_get hp
    obtain ⟨u, hu, ru⟩ := r.get hz
    have := hx us (up e1 e2)
    rw [hu] at this
    cases this
    rw [Nat.zero_add]
    exact tup2 upd_same (rep_int _) ((ru.mono e1).mono g.sS)
  · exact ⟨us, up e1 e2, by rw [enumP_len, r.len]; exact Nat.le_refl _⟩
def pEnum : List PV → Option (List PV)
  | [.lst ps] => some (enumP 0 ps)
  | _ => none
theorem i_enum {elts : List Expr} {kk : Nat} {tpos : Pos} {u : As} (C : Ct X G W) (hg : Gl X "enumerate") (hm : X.mg "enumerate" = none) (h : AOk X G W [a] u) (hs : starEach [a] X.env = [(false, eval a X.env)] := by rfl) : IOk X G W (.Tuple elts kk tpos) (.Call (.Name "enumerate" p) [a] [] pos) (iA pEnum u) :=
  pi_weak (pi_enum hg hm h hs) fun σ H Q ⟨S, ρ, R, P⟩ => ⟨S, ρ, R, Post.bind (R1 := RA G.k) P fun x ρ1 v S1 H1 s1 R1 rv P1 => by
    obtain ⟨z, ez, P2⟩ := Post.ofO P1
    unfold pEnum at ez
    split at ez
    · cases ez
      simp only [Reps, Rep] at rv
      obtain ⟨_, _, rfl, ⟨l, us, rfl, h1, r⟩, rfl⟩ := rv
      exact ⟨l, us, rfl, .of (R1.sub _ _ h1), P2 _ S1 H1 (.refl _) R1 (yl_enum C.K (.of h1) r)⟩
    · cases ez⟩
/-- zip of two lists, two tuples -/
def zipP : List PV → List PV → List PV
  | x :: xs, y :: ys => .tup [x, y] :: zipP xs ys
  | _, _ => []
theorem zipP_len : ∀ (xs ys : List PV), (zipP xs ys).length = min xs.length ys.length
  | [], _ => by simp [zipP]
  | _ :: _, [] => by simp [zipP]
  | _ :: xs, _ :: ys => by simp only [zipP, List.length_cons, zipP_len xs ys]; omega
theorem zipP_get : ∀ {xs ys : List PV} {i : Nat} {p : PV}, (zipP xs ys)[i]? = some p → ∃ x y, xs[i]? = some x ∧ ys[i]? = some y ∧ p = .tup [x, y]
  | [], _, _, _, h => by simp [zipP] at h
  | _ :: _, [], _, _, h => by simp [zipP] at h
  | x :: xs, y :: ys, 0, p, h => by
    simp only [zipP, List.getElem?_cons_zero] at h
    cases h
    exact ⟨x, y, rfl, rfl, rfl⟩
  | x :: xs, y :: ys, i + 1, p, h => by
    simp only [zipP, List.getElem?_cons_succ] at h
    obtain ⟨z, w, h1, h2, h3⟩ := zipP_get h
    exact ⟨z, w, by simpa using h1, by simpa using h2, h3⟩
theorem yl_zip {k : Kx} {K : PySem.W.Frag} (hK : k.K = K) {S : Hp} {a b : Addr} {ps qs : List PV} {us ws : List V} (h : SqL k.K S a us) (r : Reps k S ps us) (h' : SqL k.K S b ws) (r' : Reps k S qs ws) : Yl k S (Itz K a b) (zipP ps qs) := by
  subst hK
  have up : ∀ {S' H'}, Same S S' → Same S' H' → SqL k.K H' a us := fun e1 e2 => e2.seq (e1.seq h)
  have up' : ∀ {S' H'}, Same S S' → Same S' H' → SqL k.K H' b ws := fun e1 e2 => e2.seq (e1.seq h')
  refine ⟨fun i S' H' e1 e2 hi => ?_, fun i S' H' x H'' e1 e2 hi hy => ?_, fun S' H' e1 e2 => ?_⟩
  · rw [zipP_len, r.len, r'.len] at hi
    have h1 : i < us.length := by omega
    have h2 : i < ws.length := by omega
    exact ⟨us, ws, us[i], ws[i], up e1 e2, up' e1 e2, by simp [h1], by simp [h2]⟩
  · obtain ⟨t, y, w, rfl, hn, rfl, hx, hw⟩ := hy
    have g := Grow.new (S := S') e2 hn (noTb_tup (xs := [y, w]))
    refine ⟨_, g, fun p hp => ?_⟩
    obtain ⟨z, z', hz, hz', rfl⟩ := zipP_get hp
    obtain ⟨u, hu, ru⟩ := r.get hz
    obtain ⟨u', hu', ru'⟩ := r'.get hz'
    have q1 := hx us (up e1 e2)
    rw [hu] at q1
    cases q1
    have q2 := hw ws (up' e1 e2)
    rw [hu'] at q2
    cases q2
    exact tup2 upd_same ((ru.mono e1).mono g.sS) ((ru'.mono e1).mono g.sS)
  · refine ⟨us, ws, up e1 e2, up' e1 e2, ?_⟩
    rw [zipP_len, r.len, r'.len]
    omega
theorem yl_zipT {k : Kx} {K : PySem.W.Frag} (hK : k.K = K) {S : Hp} {a b : Addr} {ps qs : List PV} {us ws : List V} (h : SqT k.K S a us) (r : Reps k S ps us) (h' : SqT k.K S b ws) (r' : Reps k S qs ws) : Yl k S (RZ.ItzT K a b) (zipP ps qs) := by
  subst hK
  have up : ∀ {S' H'}, Same S S' → Same S' H' → SqT k.K H' a us := fun e1 e2 => sqT_mono e2 (sqT_mono e1 h)
  have up' : ∀ {S' H'}, Same S S' → Same S' H' → SqT k.K H' b ws := fun e1 e2 => sqT_mono e2 (sqT_mono e1 h')
  refine ⟨fun i S' H' e1 e2 hi => ?_, fun i S' H' x H'' e1 e2 hi hy => ?_, fun S' H' e1 e2 => ?_⟩
  · rw [zipP_len, r.len, r'.len] at hi
    have h1 : i < us.length := by omega
    have h2 : i < ws.length := by omega
    exact ⟨us, ws, us[i], ws[i], up e1 e2, up' e1 e2, by simp [h1], by simp [h2]⟩
  · obtain ⟨t, y, w, rfl, hn, rfl, hx, hw⟩ := hy
    have g := Grow.new (S := S') e2 hn (noTb_tup (xs := [y, w]))
    refine ⟨_, g, fun p hp => ?_⟩
    obtain ⟨z, z', hz, hz', rfl⟩ := zipP_get hp
    obtain ⟨u, hu, ru⟩ := r.get hz
    obtain ⟨u', hu', ru'⟩ := r'.get hz'
    have q1 := hx us (up e1 e2)
    rw [hu] at q1
    cases q1
    have q2 := hw ws (up' e1 e2)
    rw [hu'] at q2
    cases q2
    exact tup2 upd_same ((ru.mono e1).mono g.sS) ((ru'.mono e1).mono g.sS)
  · refine ⟨us, ws, up e1 e2, up' e1 e2, ?_⟩
    rw [zipP_len, r.len, r'.len]
    omega
def pZip : List PV → Option (List PV)
  | [.lst ps, .lst qs] => some (zipP ps qs)
  | [.tup ps, .tup qs] => some (zipP ps qs)
  | _ => none
theorem i_zip {elts : List Expr} {kk : Nat} {tpos : Pos} {u : As} (C : Ct X G W) (hg : Gl X "zip") (hm : X.mg "zip" = none) (h : AOk X G W [a, b] u) (hs : starEach [a, b] X.env = (false, eval a X.env) :: starEach [b] X.env := by rfl) (hpl : (backTo pos (starEach [b] X.env)).any (·.1) = false := by rfl) : IOk X G W (.Tuple elts kk tpos) (.Call (.Name "zip" p) [a, b] [] pos) (iA pZip u) :=
  pi_weak (RZ.pi_zipA hg hm h hs hpl) fun σ H Q ⟨S, ρ, R, P⟩ => ⟨S, ρ, R, Post.bind (R1 := RA G.k) P fun x ρ1 v S1 H1 s1 R1 rv P1 => by
    obtain ⟨z, ez, P2⟩ := Post.ofO P1
    unfold pZip at ez
    split at ez
    · cases ez
      simp only [Reps, Rep] at rv
      obtain ⟨_, _, rfl, ⟨l, us, rfl, h1, r⟩, _, _, rfl, ⟨l', us', rfl, h1', r'⟩, rfl⟩ := rv
      exact ⟨l, l', us, us', rfl, .inl ⟨.of (R1.sub _ _ h1), .of (R1.sub _ _ h1'), P2 _ S1 H1 (.refl _) R1 (yl_zip C.K (.of h1) r (.of h1') r')⟩⟩
    · cases ez
      simp only [Reps, Rep] at rv
      obtain ⟨_, _, rfl, ⟨l, us, rfl, h1, r⟩, _, _, rfl, ⟨l', us', rfl, h1', r'⟩, rfl⟩ := rv
      exact ⟨l, l', us, us', rfl, .inr ⟨by rw [← C.K]; exact sqT_mono R1.sub h1, by rw [← C.K]; exact sqT_mono R1.sub h1', P2 _ S1 H1 (.refl _) R1 (yl_zipT C.K h1 r h1' r')⟩⟩
    · cases ez⟩
end
end PF

set_option Elab.async false
set_option linter.all false
set_option maxRecDepth 100000
namespace PF
open PySem PySem.Spec PyProof.Rows L2

/-! ## Within a turn: the lists of one's own are handed in to be changed, all else stands -/
def ownL (ρ : Env) (σ : L2.St) : List (Nat × Addr) := (List.range ρ.length).filterMap fun i => match ρ[i]? with
  | some (Slot.own _) => match σ[i]? with
    | some (some (V.ref a)) => some (i, a)
    | _ => none
  | _ => none
theorem mem_ownL {ρ : Env} {σ : L2.St} {i : Nat} {a : Addr} : (i, a) ∈ ownL ρ σ ↔ (∃ p, ρ[i]? = some (.own p)) ∧ σ[i]? = some (some (V.ref a)) := by
  unfold ownL
  rw [List.mem_filterMap]
  constructor
  · rintro ⟨j, _, h⟩
    split at h
    · rename_i p h1
      split at h
      · rename_i b h2
        cases h
        exact ⟨⟨p, h1⟩, h2⟩
      · cases h
    · cases h
  · rintro ⟨⟨p, h1⟩, h2⟩
    refine ⟨i, List.mem_range.mpr (List.getElem?_eq_some_iff.mp h1).1, ?_⟩
    rw [h1, h2]
def Gam.nest (G : Gam) (S H : Hp) (ρ : Env) (σ : L2.St) : Gam := ⟨G.k, H, S, ownL ρ σ, G.fx⟩
section
variable {G : Gam} {S H S' H' : Hp} {ρ ρ' : Env} {σ σ' : L2.St}
theorem Rel.nest (R : Rel G S H ρ σ) : Rel (G.nest S H ρ σ) S H ρ σ where
  sub := R.sub
  s0 := .refl _
  al := fun a o e _ => ⟨o, e⟩
  fr := fun a o e _ _ => e
  nf := fun a o _ _ e => e
  nt := R.nt
  tabs := R.tabs
  len := R.len
  slot := R.slot
  new := fun i p a h1 h2 => .inr ⟨i, mem_ownL.mpr ⟨⟨p, h1⟩, h2⟩⟩
  dis := R.dis
  fix := R.fix
  pin := fun p hp => by
    obtain ⟨⟨q, h1⟩, h2⟩ := mem_ownL.mp (show (p.1, p.2) ∈ ownL ρ σ from hp)
    exact ⟨h2, q, h1⟩
/-- out of it again -/
theorem Rel.unnest (R : Rel G S H ρ σ) (R' : Rel (G.nest S H ρ σ) S' H' ρ' σ') : Rel G S' H' ρ' σ' where
  sub := R'.sub
  s0 := R.s0.trans R'.s0
  al := fun a o e eN => let ⟨o', e', eN'⟩ := R.known e eN; R'.al a o' e' eN'
  fr := fun a o e e1 e2 => R'.fr a o (R.fr a o e e1 e2) (fun p hp z => by
    obtain ⟨⟨q, h1⟩, h2⟩ := mem_ownL.mp (show (p.1, p.2) ∈ ownL ρ σ from hp)
    rw [z] at h2
    rcases R.new p.1 q a h1 h2 with h | ⟨j, h⟩
    · exact h o e e2
    · exact e1 _ h rfl) e2
  nf := fun a o e eN e1 => let ⟨o', e', eN'⟩ := R.known e eN; R'.nf a o' e' eN' (R.nf a o e eN e1)
  nt := R'.nt
  tabs := R'.tabs
  len := R'.len
  slot := R'.slot
  new := fun i p a h1 h2 => by
    rcases R'.new i p a h1 h2 with h | ⟨j, h⟩
    · exact .inl (R.freshNT h)
    · obtain ⟨⟨q, h3⟩, h4⟩ := mem_ownL.mp (show (j, a) ∈ ownL ρ σ from h)
      exact R.new j q a h3 h4
  dis := R'.dis
  fix := R'.fix
  pin := fun p hp => by
    obtain ⟨e1, q, e2⟩ := R.pin p hp
    exact R'.pin (p.1, p.2) (mem_ownL.mpr ⟨⟨q, e2⟩, e1⟩)
/-- what stands through a turn: an object that no slot owns -/
theorem Rel.through (R : Rel G S H ρ σ) (R' : Rel (G.nest S H ρ σ) S' H' ρ' σ') {a : Addr} {o : HO} (h : H a = some o) (hn : NotOwn ρ σ a) (ht : NoTb o) (hS : S a = none) : H' a = some o ∧ S' a = none ∧ NotOwn ρ' σ' a :=
  ⟨R'.fr a o h (fun p hp z => by
    obtain ⟨⟨q, h1⟩, h2⟩ := mem_ownL.mp (show (p.1, p.2) ∈ ownL ρ σ from hp)
    rw [z] at h2
    exact hn p.1 q h1 h2) ht, R'.nf a o h ht hS, fun i p h1 h2 => by
    rcases R'.new i p a h1 h2 with q | ⟨j, q⟩
    · exact q o h ht
    · obtain ⟨⟨w, h3⟩, h4⟩ := mem_ownL.mp (show (j, a) ∈ ownL ρ σ from q)
      exact hn j w h3 h4⟩
/-- a list that no slot owns changes -/
theorem Rel.other (R : Rel G S H ρ σ) {a : Addr} {us us' : List V} (h : H a = some (.lst us)) (hS : S a = none) (h0 : NT G.H0 a) (hn : NotOwn ρ σ a) : Rel G S (upd H a (.lst us')) ρ σ where
  sub := fun b o e => by rw [upd_ne (fun z => by rw [z, hS] at e; cases e)]; exact R.sub b o e
  s0 := R.s0
  al := fun b o e eN => by
    by_cases z : b = a
    · subst z; exact ⟨_, upd_same⟩
    · rw [upd_ne z]; exact R.al b o e eN
  fr := fun b o e e1 e2 => by rw [upd_ne (fun z => by rw [z] at e; exact h0 o e e2)]; exact R.fr b o e e1 e2
  nf := R.nf
  nt := R.nt
  tabs := fun p hp => by
    obtain ⟨ts, t1, t2, t3⟩ := R.tabs p hp
    have z : p.1 ≠ a := fun z => by rw [z, h] at t1; cases t1
    refine ⟨ts, by rw [upd_ne z]; exact t1, t2, fun pos cv hc => ?_⟩
    obtain ⟨c, c1, c2⟩ := t3 pos cv hc
    have z' : c ≠ a := fun z => by rw [z, h] at c2; cases c2
    exact ⟨c, c1, by rw [upd_ne z']; exact c2⟩
  len := R.len
  slot := fun j s o e1 e2 => by
    have q := R.slot j s o e1 e2
    cases s with
    | unb => trivial
    | val w => exact q
    | own w =>
      obtain ⟨b, qs, ws, f1, f2, f3, f4, f5⟩ := q
      subst f1
      have z : b ≠ a := fun z => by subst z; exact hn j w e1 e2
      exact ⟨b, qs, ws, rfl, f2, f3, by rw [upd_ne z]; exact f4, f5⟩
  new := R.new
  dis := R.dis
  pin := R.pin
  fix := R.fix
end

/-! ## Comprehensions -/
/-- the slots vs are forgotten -/
def wipeE (ρ : Env) : List Nat → Env
  | [] => ρ
  | v :: vs => (wipeE ρ vs).set v .unb
section
variable {G : Gam} {S H S' H' : Hp} {ρ ρ' : Env} {σ σ' : L2.St}
theorem Rel.wipe (R : Rel G S H ρ σ) : ∀ {vs : List Nat}, (∀ q ∈ G.ix, q.1 ∉ vs) → Rel G S H (wipeE ρ vs) (wipe σ vs)
  | [], _ => R
  | v :: vs, h => (Rel.wipe R (vs := vs) fun q hq z => h q hq (List.mem_cons_of_mem _ z)).unbind v none fun q hq z => h q hq (by rw [z]; exact List.mem_cons_self)
theorem wipeE_len (ρ : Env) : ∀ vs, (wipeE ρ vs).length = ρ.length
  | [] => rfl
  | v :: vs => by simp only [wipeE, List.length_set, wipeE_len ρ vs]
theorem wipeE_at (ρ : Env) {i : Nat} {s : Slot} : ∀ {vs : List Nat}, i ∈ vs → (wipeE ρ vs)[i]? = some s → s = .unb
  | [], h, _ => by simp at h
  | v :: vs, h, e => by
    unfold wipeE at e
    by_cases z : v = i
    · subst z
      by_cases hv : v < (wipeE ρ vs).length
      · rw [List.getElem?_set_self hv] at e; cases e; rfl
      · rw [List.getElem?_eq_none (by simpa using hv)] at e; cases e
    · rw [List.getElem?_set_ne z] at e
      exact wipeE_at ρ (by rcases List.mem_cons.mp h with q | q; exact absurd q.symm z; exact q) e
theorem wipe_out' {σ : L2.St} {i : Nat} : ∀ {vs : List Nat}, i ∉ vs → (wipe σ vs)[i]? = σ[i]?
  | [], _ => rfl
  | v :: vs, h => by
    unfold wipe
    rw [List.getElem?_set_ne (fun z => h (by rw [z]; exact List.mem_cons_self))]
    exact wipe_out' fun z => h (List.mem_cons_of_mem _ z)
/-- slots that are unbound in ρ may hold anything in σ -/
theorem Rel.resig (R : Rel G S H ρ σ) {vs : List Nat} (hx : ∀ q ∈ G.fx, q.1 ∉ vs) (hu : ∀ i s, i ∈ vs → ρ[i]? = some s → s = .unb) (hl : σ'.length = σ.length) (he : ∀ i, i ∉ vs → σ'[i]? = σ[i]?) : Rel G S H ρ σ' where
  sub := R.sub
  s0 := R.s0
  al := R.al
  fr := R.fr
  nf := R.nf
  nt := R.nt
  tabs := R.tabs
  len := R.len.trans hl.symm
  slot := fun i s o h1 h2 => by
    by_cases hi : i ∈ vs
    · have := hu i s hi h1
      subst this
      trivial
    · rw [he i hi] at h2
      exact R.slot i s o h1 h2
  new := fun i p a h1 h2 => by
    by_cases hi : i ∈ vs
    · cases hu i _ hi h1
    · rw [he i hi] at h2
      exact R.new i p a h1 h2
  dis := fun i j p q a h1 h2 h3 h4 => by
    by_cases hi : i ∈ vs
    · cases hu i _ hi h1
    · by_cases hj : j ∈ vs
      · cases hu j _ hj h2
      · rw [he i hi] at h3
        rw [he j hj] at h4
        exact R.dis i j p q a h1 h2 h3 h4
  pin := fun p hp => by
    obtain ⟨e1, q, e2⟩ := R.pin p hp
    have hi : p.1 ∉ vs := fun z => by cases hu _ _ z e2
    exact ⟨by rw [he _ hi]; exact e1, q, e2⟩
  fix := fun q hq => by rw [he _ (hx q hq)]; exact R.fix q hq
end
/-- an exception doesn't leave a comprehension -/
def noX {α : Type} (o : Out α) : Out α := match o with
  | .exc _ _ => .stuck
  | o => o
def lcL (g : Tg) (t : T) (e : E) (vs : List Nat) : List PV → List PV → Env → Out (List PV)
  | [], acc, ρ => .ok acc ρ
  | x :: xs, acc, ρ => match g x ρ with
    | some ρ1 => (noX (t ρ1)).bind fun b ρ2 => match b with
      | true => (noX (e ρ2)).bind fun y ρ3 => if acc.length < lineN then lcL g t e vs xs (acc ++ [y]) (wipeE ρ3 vs) else .stuck
      | false => lcL g t e vs xs acc (wipeE ρ2 vs)
    | none => .stuck
def fLc (vs : List Nat) (it : As) (g : Tg) (t : T) (e : E) : As := fun ρ => (it ρ).bind fun xs ρ1 => lcL g t e vs xs [] (wipeE ρ1 vs)
def tYesD : T := fun ρ => .ok true ρ
abbrev W0 : WX := fun _ _ _ _ => False
/-- within a comprehension's block: any state of the same kind -/
def XG (k : Kx) (vs : List Nat) (G' : Gam) : Prop := G'.k = k ∧ ∀ q ∈ G'.ix, q.1 ∉ vs
def LEx (k : Kx) (vs : List Nat) (d : E) : TE := fun σ H Q => ∃ G', XG k vs G' ∧ LE G' W0 d σ H Q
def LTx (k : Kx) (vs : List Nat) (d : T) : TT := fun σ H Q => ∃ G', XG k vs G' ∧ LT G' W0 d σ H Q
def LGx (k : Kx) (vs : List Nat) (g : Tg) : TG := fun v σ H Q => ∃ G', XG k vs G' ∧ LG G' vs g v σ H Q
section
variable {X : Cx} {k : Kx} {vs : List Nat}
theorem pe_x {e : Expr} {d : E} (h : ∀ G', XG k vs G' → PE X e (LE G' W0 d)) : PE X e (LEx k vs d) := ⟨fun pins s σ H Q I ⟨G', hk, q⟩ => (h G' hk).run pins s σ H Q I q⟩
theorem pts_x {es : List Expr} {d : T} (h : ∀ G', XG k vs G' → PTs X es (LT G' W0 d)) : PTs X es (LTx k vs d) := ⟨fun pins s σ H Q I ⟨G', hk, q⟩ => (h G' hk).run pins s σ H Q I q⟩
theorem pg_x {e : Expr} {d : Tg} (h : ∀ G', XG k vs G' → PG X e (LG G' vs d)) : PG X e (LGx k vs d) := ⟨fun pins s σ H v u Q I r ⟨G', hk, q⟩ => (h G' hk).run pins s σ H v u Q I r q⟩
theorem pts_yes {G : Gam} {W : WX} : PTs X [] (LT G W tYesD) := ⟨fun pins s σ H Q I ⟨S, ρ, R, P⟩ => pts_nil.run pins s σ H Q I (P true S H (.refl _) R rfl)⟩
theorem pts_if {G : Gam} {W : WX} {c : Expr} {t : T} (h : PT X c (LT G W t)) : PTs X [c] (LT G W t) := pts_one h
end
theorem Post.noX {α β γ δ : Type} {G : Gam} {σ : L2.St} {S : Hp} {o : Out α} {R1 : Env → Hp → Hp → α → β → Prop} {Q : β → Hp → Prop} {f : α → Env → Out γ} {z : Out γ} (h : (noX o).bind f = z) (hz : z ≠ .stuck) (k : ∀ x ρ', o = .ok x ρ' → ∀ v S' H', Same S S' → Rel G S' H' ρ' σ → R1 ρ' S' H' x v → f x ρ' = z → Q v H') : Post G W0 σ R1 o S Q := by
  cases o with
  | ok x ρ' => exact fun v S' H' e r q => k x ρ' rfl v S' H' e r q h
  | exc x ρ' => exact absurd h.symm hz
  | stuck => exact absurd h.symm hz
section
variable {X : Cx} {G : Gam} {W : WX}
/-- the loop of a comprehension, from a state in which D holds what is made so far -/
theorem lc_aux {vs : List Nat} {g : Tg} {t : T} {e : E} {J : It} {xs : List PV} {S1 H1 : Hp} {ρ1 : Env} {σ : L2.St} {zs : List PV} {ρz : Env} {Q : VK} (hvs : ∀ q ∈ G.ix, q.1 ∉ vs) (R1 : Rel G S1 H1 ρ1 σ) (yl : Yl G.k S1 J xs)
    (P : lcL g t e vs xs [] (wipeE ρ1 vs) = .ok zs ρz) (q : ∀ a us S' H', Same S1 S' → Rel G S' H' ρz σ → NT G.H0 a → S' a = none → H' a = some (.lst us) → Reps G.k S' zs us → NotOwn ρz σ a → Q (.ref a) H') :
    ∀ D, H1 D = none → ∃ W : Nat → Nat → Hp → Prop, (∃ m, W 0 m (upd H1 D (.lst []))) ∧ ∀ i m H, W i m H →
      (J.stop i H ∧ Q (.ref D) H) ∨ (J.go i H ∧ ∃ Nx : Hp → Prop, (∀ H', Nx H' → ∃ m', m' < m ∧ W (i + 1) m' H') ∧ ∀ x H', J.yld i H x H' → LGx G.k vs g x (wipe σ vs) H' fun σ2 H2 => wipe σ2 vs = wipe σ vs ∧ LTx G.k vs t σ2 H2 fun b H3 =>
        if b = true then LEx G.k vs e σ2 H3 fun y H4 => ∃ acc, H4 D = some (.lst acc) ∧ acc.length < sizeLine ∧ Nx (upd H4 D (.lst (acc ++ [y]))) else Nx H3) := by
  intro D hD
  have wd : ∀ i s, i ∈ vs → (wipeE ρ1 vs)[i]? = some s → s = .unb := fun i s => wipeE_at ρ1
  have step0 : ∀ {α β γ δ : Type} {o : Out α} {f : α → Env → Out β} {G' : Gam} {σ2 : L2.St} {S : Hp} {R1' : Env → Hp → Hp → α → γ → Prop} {Q' : γ → Hp → Prop} {z : β} {ρ' : Env} (h : (noX o).bind f = .ok z ρ')
      (k : ∀ x ρ', ∀ v S' H', Same S S' → Rel G' S' H' ρ' σ2 → R1' ρ' S' H' x v → f x ρ' = .ok z ρz → Q' v H'), ρ' = ρz → Post G' W0 σ2 R1' o S Q' := by
    intro α β γ δ o f G' σ2 S R1' Q' z ρ' h k ez
    subst ez
    exact Post.noX (δ := δ) h (by simp) fun x ρ'' _ v S' H' e1 r q1 h1 => k x ρ'' v S' H' e1 r q1 h1
  refine ⟨fun i m H => m = xs.length - i ∧ i ≤ xs.length ∧ ∃ S' ρ' acc us, Same S1 S' ∧ Rel G S' H ρ' (wipe σ vs) ∧ H D = some (.lst us) ∧ Reps G.k S' acc us ∧ S' D = none ∧ NotOwn ρ' (wipe σ vs) D ∧ (∀ i s, i ∈ vs → ρ'[i]? = some s → s = .unb) ∧ lcL g t e vs (xs.drop i) acc ρ' = .ok zs ρz, ⟨xs.length, by simp, Nat.zero_le _, ?_⟩, ?_⟩
  · have Rw := R1.wipe hvs
    have Rl := Rw.grow (.laid (o := .lst []) Rw.sub hD)
    exact ⟨S1, wipeE ρ1 vs, [], [], .refl _, Rl, upd_same, Reps.nil, R1.sub.free hD, Rw.notOwn hD, wd, P⟩
  · rintro i m H ⟨rfl, hi, S2, ρ2, acc, us, s2, R2, hDus, ra, hS2, hn2, hw2, P2⟩
    by_cases hlt : i < xs.length
    · have ed : xs.drop i = xs[i] :: xs.drop (i + 1) := List.drop_eq_getElem_cons hlt
      rw [ed] at P2
      unfold lcL at P2
      refine .inr ⟨yl.go i S2 H s2 R2.sub hlt, fun H' => ∃ S' ρ' acc us, Same S1 S' ∧ Rel G S' H' ρ' (wipe σ vs) ∧ H' D = some (.lst us) ∧ Reps G.k S' acc us ∧ S' D = none ∧ NotOwn ρ' (wipe σ vs) D ∧ (∀ i s, i ∈ vs → ρ'[i]? = some s → s = .unb) ∧ lcL g t e vs (xs.drop (i + 1)) acc ρ' = .ok zs ρz, fun H' n => ⟨xs.length - (i + 1), by omega, rfl, hlt, n⟩, fun x H3 hy => ?_⟩
      obtain ⟨S3, gr, rx⟩ := yl.yl i S2 H x H3 s2 R2.sub hlt hy
      have R3 := R2.grow gr
      have hD3 := gr.sH _ _ hDus
      have hS3 := gr.nf _ _ hDus hS2
      cases q0 : g xs[i] ρ2 with
      | none => rw [q0] at P2; cases P2
      | some ρ3 =>
        rw [q0] at P2
        have xg : XG G.k vs (G.nest S3 H3 ρ2 (wipe σ vs)) := ⟨rfl, fun q hq hz => by
          rcases List.mem_append.mp (show q ∈ ownL ρ2 (wipe σ vs) ++ G.fx from hq) with hq | hq
          · obtain ⟨⟨w, h1⟩, _⟩ := mem_ownL.mp (show (q.1, q.2) ∈ ownL ρ2 (wipe σ vs) from hq)
            cases hw2 _ _ hz h1
          · exact hvs q (List.mem_append_right _ hq) hz⟩
        refine ⟨G.nest S3 H3 ρ2 (wipe σ vs), xg, S3, ρ2, xs[i], ρ3, R3.nest, rx _ (by simp [hlt]), q0, fun σ4 R4 ag => ⟨?_, ?_⟩⟩
        · -- the slots outside are as they were
          apply List.ext_getElem?
          intro j
          by_cases hj : j ∈ vs
          · have w1 := wipe_length σ4 vs
            have w2 := wipe_length σ vs
            have l4 := ag.len
            have at_ : ∀ (τ : L2.St), ∀ {ws : List Nat}, j ∈ ws → (wipe τ ws)[j]? = if j < τ.length then some none else none := by
              intro τ ws
              induction ws with
              | nil => intro h; simp at h
              | cons w ws ih =>
                intro h
                unfold wipe
                by_cases z : w = j
                · subst z
                  by_cases hl : w < τ.length
                  · rw [List.getElem?_set_self (by rw [wipe_length]; exact hl), if_pos hl]
                  · rw [List.getElem?_eq_none (by rw [List.length_set, wipe_length]; omega), if_neg hl]
                · rw [List.getElem?_set_ne z]
                  exact ih (by rcases List.mem_cons.mp h with q | q; exact absurd q.symm z; exact q)
            rw [at_ σ4 hj, at_ σ hj, l4, w2]
          · rw [wipe_out' hj, ag.out j hj, wipe_out' hj]
        · refine ⟨G.nest S3 H3 ρ2 (wipe σ vs), xg, S3, ρ3, R4, step0 (δ := Unit) P2 (fun b ρ4 v S4 H4 s4 R5 eb P3 => ?_) rfl⟩
          cases eb
          -- a turn's end
          have fini : ∀ {ρ5 : Env} {S5 H5 : Hp} (R6 : Rel (G.nest S3 H3 ρ2 (wipe σ vs)) S5 H5 ρ5 σ4), Rel G S5 H5 (wipeE ρ5 vs) (wipe σ vs) ∧ H5 D = some (.lst us) ∧ S5 D = none ∧ NotOwn (wipeE ρ5 vs) (wipe σ vs) D := by
            intro ρ5 S5 H5 R6
            have R7 := R3.unnest R6
            obtain ⟨t1, t2, t3⟩ := R3.through R6 hD3 hn2 noTb_lst hS3
            have R8 := R7.wipe hvs
            have R9 : Rel G S5 H5 (wipeE ρ5 vs) (wipe σ vs) := R8.resig (vs := vs) (fun q hq => hvs q (List.mem_append_right _ hq)) (fun i s => wipeE_at ρ5) (by rw [wipe_length, wipe_length, ag.len, wipe_length]) (fun i hi => by rw [wipe_out' (σ := σ4) hi, ag.out i hi])
            refine ⟨R9, t1, t2, fun i w h1 h2 => ?_⟩
            obtain ⟨a, ps', us', e1, e2, e3, e4, e5⟩ := R9.own h1
            by_cases hi : i ∈ vs
            · cases wipeE_at ρ5 hi h1
            · have h1' : ρ5[i]? = some (.own w) := by
                have wo : ∀ {ws : List Nat}, i ∉ ws → (wipeE ρ5 ws)[i]? = ρ5[i]? := by
                  intro ws
                  induction ws with
                  | nil => intro _; rfl
                  | cons x ws ih =>
                    intro h
                    unfold wipeE
                    rw [List.getElem?_set_ne (fun z => h (by rw [z]; exact List.mem_cons_self))]
                    exact ih fun z => h (List.mem_cons_of_mem _ z)
                rw [← wo hi]; exact h1
              exact t3 i w h1' (by rw [ag.out i hi]; exact h2)
          cases b with
          | false =>
            rw [if_neg Bool.false_ne_true]
            obtain ⟨R9, t1, t2, t3⟩ := fini R5
            exact ⟨S4, _, acc, us, (s2.trans gr.sS).trans s4, R9, t1, ra.mono (gr.sS.trans s4), t2, t3, fun i s => wipeE_at ρ4, P3⟩
          | true =>
            rw [if_pos rfl]
            refine ⟨G.nest S3 H3 ρ2 (wipe σ vs), xg, S4, ρ4, R5, step0 (δ := Unit) P3 (fun y ρ5 v S5 H5 s5 R6 ry P4 => ?_) rfl⟩
            obtain ⟨R9, t1, t2, t3⟩ := fini R6
            split at P4
            · rename_i hz
              have hr := ra.mono (gr.sS.trans (s4.trans s5))
              refine ⟨us, t1, by rw [← ra.len, ← lineN_eq]; exact hz, S5, _, acc ++ [y], us ++ [v], ((s2.trans gr.sS).trans s4).trans s5, R9.other t1 t2 (R1.fresh0 hD) t3, upd_same, hr.append (Reps.cons ry Reps.nil), t2, t3, fun i s => wipeE_at ρ5, P4⟩
            · cases P4
    · have ei : i = xs.length := by omega
      subst ei
      rw [List.drop_length] at P2
      unfold lcL at P2
      cases P2
      refine .inl ⟨yl.stop S2 H s2 R2.sub, q D us S2 H s2 ?_ (R1.fresh0 hD) hS2 hDus ra ?_⟩
      · exact R2.resig (vs := vs) (fun q hq => hvs q (List.mem_append_right _ hq)) hw2 (wipe_length σ vs).symm (fun i hi => (wipe_out' hi).symm)
      · intro i w h1 h2
        by_cases hi : i ∈ vs
        · cases hw2 _ _ hi h1
        · exact hn2 i w h1 (by rw [wipe_out' hi]; exact h2)
theorem lcL_noexc {g : Tg} {t : T} {e : E} {vs : List Nat} {x : Exc} {ρz : Env} : ∀ (xs acc : List PV) (ρ : Env), lcL g t e vs xs acc ρ ≠ .exc x ρz := by
  intro xs
  induction xs with
  | nil => intro acc ρ h; cases h
  | cons y ys ih =>
    intro acc ρ h
    unfold lcL at h
    split at h
    · rename_i ρ1 _
      cases q1 : t ρ1 with
      | ok b ρ2 =>
        rw [q1] at h
        cases b with
        | true =>
          simp only [noX, Out.bind] at h
          cases q2 : e ρ2 with
          | ok z ρ3 =>
            rw [q2] at h
            simp only [noX, Out.bind] at h
            split at h
            · exact ih _ _ h
            · cases h
          | exc x' ρ3 => rw [q2] at h; cases h
          | stuck => rw [q2] at h; cases h
        | false => exact ih _ _ h
      | exc x' ρ2 => rw [q1] at h; cases h
      | stuck => rw [q1] at h; cases h
    · cases h
theorem f_lc {elt tg iter : Expr} {ifs : List Expr} {scope : Scope} {own : List (Str × Nat)} {pos : Pos} {it : As} {g : Tg} {t : T} {e : E} (C : Ct X G W) (hc : X.calm = true) (hi : IOk X G W tg iter it) (ok : BlkOk X.N X.env.scope scope own) (hvs : ∀ q ∈ G.ix, q.1 ∉ own.map (·.2))
    (hg : ∀ (s : Shared) (H : Hp) (Cc : Addr) (cl : List (Str × Addr)) (fp : List Addr) (G' : Gam), XG G.k (own.map (·.2)) G' → GOk (X.blk s H scope (compEnvC scope cl Cc X.env) fp) G' (own.map (·.2)) tg g)
    (ht : ∀ (s : Shared) (H : Hp) (Cc : Addr) (cl : List (Str × Addr)) (fp : List Addr) (G' : Gam), XG G.k (own.map (·.2)) G' → PTs (X.blk s H scope (compEnvC scope cl Cc X.env) fp) ifs (LT G' W0 t))
    (he : ∀ (s : Shared) (H : Hp) (Cc : Addr) (cl : List (Str × Addr)) (fp : List Addr) (G' : Gam), XG G.k (own.map (·.2)) G' → EOk (X.blk s H scope (compEnvC scope cl Cc X.env) fp) G' W0 elt e) (hs : ∀ x, foldedSetIterable iter X.env x = pure x := by intro _; rfl) :
    FOk X G W (.ListComp elt [⟨tg, iter, ifs, 0⟩] scope pos) (fLc (own.map (·.2)) it g t e) :=
  pe_weak (pe_lc (own := own) hc C.nd hi ok (fun s H Cc cl fp => pg_x (hg s H Cc cl fp)) (fun s H Cc cl fp => pts_x (ht s H Cc cl fp)) (fun s H Cc cl fp => pe_x (he s H Cc cl fp)) hs) fun σ H Q ⟨S, ρ, R, P⟩ => ⟨S, ρ, R, Post.bind (R1 := RI G.k) P fun xs ρ1 J S1 H1 s1 R1 yl P1 => by
    cases q : lcL g t e (own.map (·.2)) xs [] (wipeE ρ1 (own.map (·.2))) with
    | ok zs ρz =>
      rw [q] at P1
      exact lc_aux hvs R1 yl q fun a us S' H' e1 R' h0 hS hH hr hn => P1 _ S' H' e1 R' ⟨a, us, rfl, h0, hS, hH, hr, hn⟩
    | exc x ρz =>
      exact (lcL_noexc _ _ _ q).elim
    | stuck => rw [q] at P1; exact P1.elim⟩
/-- a comprehension's block within the body -/
theorem Ct.blk {s : Shared} {H : Hp} {scope : Scope} {cenv : PySem.Env} {fp : List Addr} {vs : List Nat} {G' : Gam} (C : Ct X G W) (h : XG G.k vs G') : Ct (X.blk s H scope cenv fp) G' W0 :=
  ⟨by rw [h.1]; exact C.K, by rw [h.1]; exact C.mg, fun u s' ⟨_, _, _, _, _, _, _, _, _, _, _, _, _, _, _, _, z⟩ => z, C.nd, C.un⟩
theorem FnAt.blk {s : Shared} {H : Hp} {scope : Scope} {cenv : PySem.Env} {fp : List Addr} {k : Kx} {x : Str} {ps : List Str} {io : Bool} {F : Fn} (h : FnAt X k x ps io F) : FnAt (X.blk s H scope cenv fp) k x ps io F := ⟨h.ar, h.ex⟩
end
end PF

set_option Elab.async false
set_option linter.all false
set_option maxRecDepth 100000
namespace PF
open PySem PySem.Spec PyProof.Rows L2

/-! ## Defs: from a body to a promise -/
def initE (n : Nat) (s : List Slot) : Env := s ++ List.replicate (n - s.length) .unb
def outF (o : Out Flow) : FOut := match o with
  | .ok .next _ => .ret .non []
  | .ok (.ret p) _ => .ret p []
  | .ok (.own qs) _ => .own qs []
  | .exc x _ => .exc x
  | _ => .stuck
/-- .. of a def whose first argument is changed -/
def outIO (o : Out Flow) : FOut := match o with
  | .ok f ρ => match ρ[0]? with
    | some (Slot.own h) => match f with
      | .next => .ret .non [h]
      | .ret p => .ret p [h]
      | .own qs => .own qs [h]
      | _ => .stuck
    | _ => .stuck
  | _ => .stuck
/-- a def of n slots and ar parameters -/
def runF (n ar : Nat) (d : C) : Fn := fun ps => if ps.length = ar then outF (d (initE n (ps.map .val))) else .stuck
def runIO (n ar : Nat) (d : C) : Fn := fun ps => if ps.length = ar then match ps with
  | h :: r => outIO (d (initE n (.own h :: r.map .val)))
  | [] => .stuck
  else .stuck
def runB (io : Bool) (n ar : Nat) (d : C) : Fn := match io with
  | false => runF n ar d
  | true => runIO n ar d
theorem runB_ar {io : Bool} {n ar : Nat} {d : C} : ∀ qs, qs.length ≠ ar → runB io n ar d qs = .stuck := by
  intro qs h
  cases io with
  | false => exact if_neg h
  | true => exact if_neg h
section
variable {k : Kx} {S H S' H' : Hp} {ρ' : Env} {σ' : L2.St}
theorem Rel.init {ps : List PV} {vs : List V} {N : List Str} (h1 : Same S H) (h2 : ∀ a o, S a = some o → NoTb o) (h3 : LamX.Tabs k.T H) (r : Reps k S ps vs) : Rel ⟨k, H, S, [], []⟩ S H (initE N.length (ps.map .val)) (L2.start N vs) where
  sub := h1
  s0 := .refl _
  al := fun a o e _ => ⟨o, e⟩
  fr := fun a o e _ _ => e
  nf := fun a o _ _ e => e
  nt := h2
  tabs := h3
  len := by
    have := r.len
    simp [initE, L2.start]
    omega
  slot := fun i s o e1 e2 => by
    have hl := r.len
    unfold initE at e1
    unfold L2.start at e2
    by_cases hi : i < ps.length
    · rw [List.getElem?_append_left (by simpa using hi), List.getElem?_map] at e1
      rw [List.getElem?_append_left (by simpa [← hl] using hi), List.getElem?_map] at e2
      cases q : ps[i]? with
      | none => rw [q] at e1; cases e1
      | some p =>
        rw [q] at e1
        cases e1
        obtain ⟨u, hu, ru⟩ := r.get q
        rw [hu] at e2
        cases e2
        exact ⟨u, rfl, ru⟩
    · rw [List.getElem?_append_right (by simpa using hi)] at e1
      have := List.getElem?_replicate (n := N.length - (ps.map Slot.val).length) (a := Slot.unb) (i := i - (ps.map Slot.val).length)
      rw [this] at e1
      split at e1
      · cases e1; trivial
      · cases e1
  new := fun i p a e1 e2 => by
    exfalso
    unfold initE at e1
    have hm := List.mem_of_getElem? e1
    rcases List.mem_append.mp hm with h | h
    · obtain ⟨q, _, e⟩ := List.mem_map.mp h; cases e
    · cases (List.mem_replicate.mp h).2
  dis := fun i j p q a e1 e2 e3 e4 => by
    exfalso
    unfold initE at e1
    have hm := List.mem_of_getElem? e1
    rcases List.mem_append.mp hm with h | h
    · obtain ⟨q, _, e⟩ := List.mem_map.mp h; cases e
    · cases (List.mem_replicate.mp h).2
  pin := fun p hp => by cases hp
  fix := fun p hp => by cases hp
theorem Rel.initIO {qs : List PV} {a : Addr} {us : List V} {ps : List PV} {vs : List V} {N : List Str} (h1 : Same S H) (h2 : ∀ a o, S a = some o → NoTb o) (h3 : LamX.Tabs k.T H) (hS : S a = none) (hH : H a = some (.lst us)) (hr : Reps k S qs us) (r : Reps k S ps vs) :
    Rel ⟨k, H, S, [(0, a)], []⟩ S H (initE N.length (.own (.lst qs) :: ps.map .val)) (L2.start N (.ref a :: vs)) where
  sub := h1
  s0 := .refl _
  al := fun a o e _ => ⟨o, e⟩
  fr := fun a o e _ _ => e
  nf := fun a o _ _ e => e
  nt := h2
  tabs := h3
  len := by
    have := r.len
    simp [initE, L2.start]
    omega
  slot := fun i s o e1 e2 => by
    have hl := r.len
    cases i with
    | zero =>
      simp only [initE, L2.start, List.cons_append, List.map_cons, List.getElem?_cons_zero] at e1 e2
      cases e1; cases e2
      exact ⟨a, qs, us, rfl, rfl, hS, hH, hr⟩
    | succ i =>
      simp only [initE, L2.start, List.cons_append, List.map_cons, List.getElem?_cons_succ] at e1 e2
      by_cases hi : i < ps.length
      · rw [List.getElem?_append_left (by simpa using hi), List.getElem?_map] at e1
        rw [List.getElem?_append_left (by simpa [← hl] using hi), List.getElem?_map] at e2
        cases q : ps[i]? with
        | none => rw [q] at e1; cases e1
        | some p =>
          rw [q] at e1
          cases e1
          obtain ⟨u, hu, ru⟩ := r.get q
          rw [hu] at e2
          cases e2
          exact ⟨u, rfl, ru⟩
      · rw [List.getElem?_append_right (by simpa using hi)] at e1
        rw [List.getElem?_replicate] at e1
        split at e1
        · cases e1; trivial
        · cases e1
  new := fun i p b e1 e2 => by
    cases i with
    | zero =>
      simp only [L2.start, List.cons_append, List.map_cons, List.getElem?_cons_zero] at e2
      cases e2
      exact .inr ⟨0, by simp⟩
    | succ i =>
      exfalso
      simp only [initE, List.cons_append, List.getElem?_cons_succ] at e1
      have hm := List.mem_of_getElem? e1
      rcases List.mem_append.mp hm with h | h
      · obtain ⟨q, _, e⟩ := List.mem_map.mp h; cases e
      · cases (List.mem_replicate.mp h).2
  dis := fun i j p q b e1 e2 e3 e4 => by
    have no : ∀ (i : Nat) (p : PV), (initE N.length (.own (.lst qs) :: ps.map .val))[i]? = some (.own p) → i = 0 := fun i p e1 => by
      cases i with
      | zero => rfl
      | succ i =>
        exfalso
        simp only [initE, List.cons_append, List.getElem?_cons_succ] at e1
        have hm := List.mem_of_getElem? e1
        rcases List.mem_append.mp hm with h | h
        · obtain ⟨q, _, e⟩ := List.mem_map.mp h; cases e
        · cases (List.mem_replicate.mp h).2
    rw [no i p e1, no j q e2]
  pin := fun p hp => by
    have e : p = (0, a) := by simpa using hp
    subst e
    exact ⟨rfl, .lst qs, rfl⟩
  fix := fun p hp => by cases hp
theorem EndR.of {io : List (Nat × Addr)} {fx : List (Nat × Addr)} (R : Rel ⟨k, H, S, io, fx⟩ S' H' ρ' σ') (hio : io = []) : EndR k S H S' H' [] [] := by
  subst hio
  exact ⟨R.s0, R.sub, R.al, fun a o e _ e2 => R.fr a o e (by simp) e2, R.nf, R.nt, R.tabs, fun a h => by cases h⟩
theorem EndR.of1 {a : Addr} {w : PV} (R : Rel ⟨k, H, S, [(0, a)], []⟩ S' H' ρ' σ') (h : ρ'[0]? = some (.own w)) : EndR k S H S' H' [a] [w] := by
  refine ⟨R.s0, R.sub, R.al, fun b o e e1 e2 => R.fr b o e (by simpa using fun z => e1 (by simp [z])) e2, R.nf, R.nt, R.tabs, fun b hb => ?_⟩
  have e : b = a := by simpa using hb
  subst e
  obtain ⟨e1, _⟩ := R.pin (0, b) (by simp)
  obtain ⟨a', ps, us, e2, ep, hS, hH, hr⟩ := R.own h
  rw [e1] at e2
  cases e2
  subst ep
  exact ⟨ps, us, rfl, hH, hr⟩
end

/-- what a module is made of -/
structure Mo where
  P : Program
  w : World
  K : PySem.W.Frag
  mg : Str → Option Value
  base : Heap
  T : List (Addr × Str)
def Mo.k (M : Mo) : Kx := ⟨M.K, M.mg, M.T⟩
/-- a context within a def of the module: N: the names of its slots, sc: its scope, wr: the slots that may be written, j: the rooms that are left -/
structure Bd (X : Cx) (M : Mo) (N : List Str) (sc : Scope) (wr : Nat → Bool) (j : Nat) (G : Gam) (W : WX) : Prop where
  ePr : X.prog = M.P
  eW : X.w = M.w
  eK : X.K = M.K
  eM : X.mg = M.mg
  eB : X.base = M.base
  eN : X.N = N
  eS : X.env.scope = sc
  eG : G.k = M.k
  tk : Takes X W
  wr : ∀ p ∈ G.ix, wr p.1 = false
  un : X.A.units + 65 < cLine
  room : X.calm = true → Room j X.A
  nd : N.Nodup
/-- what a def's own body has beyond -/
structure Bx (X : Cx) : Prop where
  fn : ∀ x, X.fn x = true
  calm : X.calm = true
  own : PassesOwn (model X.prog X.w) X.A X.env X.xe
  stk : X.stack = X.env :: X.outer
  frm : X.env.frame = some X.env.locals
/-- .. and its text -/
structure Bq (X : Cx) (M : Mo) (q : Str) (f : Addr) : Prop where
  eQ : X.env.qual = q ++ ".<locals>."
  code : ∃ oc od dV kV doc pm an ct osl name qu args body sc, M.K.lookup f = some ⟨oc, od, .func (PySem.W.fnOf name qu args body sc dV kV doc pm an X.env.code ct), osl⟩
/-- a def of the module that keeps its promise with j rooms -/
structure FnM (M : Mo) (x : Str) (ps : List Str) (io : Bool) (F : Fn) (j : Nat) : Prop where
  ar : ∀ qs, qs.length ≠ ps.length → F qs = .stuck
  ex : ∃ (f : Addr) (fd : FuncData), FnOk M.P M.w M.K M.mg M.base (L2.CX M.P M.w) j f fd ps (SpF M.k ps.length io F) ∧ M.mg x = some (.ref f) ∧ PySem.W.keepIn M.K (.ref f) = true ∧ Binds M.K fd ps [] ∧ ∃ oc od osl, M.K.lookup f = some ⟨oc, od, .func fd, osl⟩
theorem FnM.mono {M : Mo} {x : Str} {ps : List Str} {io : Bool} {F : Fn} {j j' : Nat} (h : FnM M x ps io F j) (hj : j ≤ j') : FnM M x ps io F j' := by
  obtain ⟨ar, f, fd, ok, r⟩ := h
  exact ⟨ar, f, fd, ok.mono hj, r⟩
/-- a comprehension's scope within sc -/
def relab (scope sc : Scope) : Scope := { scope with names := scope.names.map fun (n, k) => if (k == NameKind.free && sc.kind == .function && sc.names.lookup n == some .cell) then (n, NameKind.cell) else (n, k) }
section
variable {X : Cx} {M : Mo} {N : List Str} {q : Str} {f : Addr} {sc : Scope} {wr : Nat → Bool} {j : Nat} {G : Gam} {W : WX}
theorem Bd.ct (B : Bd X M N sc wr j G W) : Ct X G W :=
  ⟨by rw [B.eG, B.eK]; rfl, by rw [B.eG, B.eM]; rfl, B.tk, by rw [B.eN]; exact B.nd, B.un⟩
theorem Bd.at {x : Str} {ps : List Str} {io' : Bool} {F : Fn} {j' : Nat} (B : Bd X M N sc wr j G W) (h : FnM M x ps io' F j') (hc : X.calm = true) (hj : j' ≤ j := by decide) : FnAt X G.k x ps io' F := by
  obtain ⟨ar, g, fd, ok, hm, hk, hb, _⟩ := h
  obtain ⟨e1, e2, e3, e4, e5, _, _, e6, _, _, _, hr, _⟩ := B
  rw [e6]
  refine ⟨ar, j', g, fd, ?_, (hr hc).mono hj, by rw [e4]; exact hm, by rw [e3]; exact hk, by rw [e3]; exact hb⟩
  rw [e1, e2, e3, e4, e5]
  exact ok
theorem Bd.io (B : Bd X M N sc wr j G W) {i : Nat} (h : wr i = true := by rfl) : ∀ p ∈ G.ix, p.1 ≠ i := fun p hp z => by
  have := B.wr p hp
  rw [z, h] at this
  cases this
theorem Bd.iol (B : Bd X M N sc wr j G W) {vs : List Nat} (h : vs.all wr = true := by rfl) : ∀ p ∈ G.ix, p.1 ∉ vs := fun p hp z => by
  have := List.all_eq_true.mp h _ z
  rw [B.wr p hp] at this
  cases this
theorem Bd.pv (B : Bd X M N sc wr j G W) (i : Nat) {x : Str} {pos : Pos} (hN : N[i]? = some x) (hv : Vis sc x) (hd : (x == ("__debug__" : Str)) = false) (hcd : (x == ("__classdict__" : Str)) = false) : PE X (.Name x pos) (tVar i) :=
  pe_var (by rw [B.eN]; exact hN) (by rw [B.eS]; exact hv) hd hcd
theorem Bd.gl (B : Bd X M N sc wr j G W) {x : Str} (h : sc.names.lookup x = some .globalImplicit) : Gl X x := by
  unfold Gl
  show X.env.scope.names.lookup x = _
  rw [B.eS]; exact h
theorem Bd.non (B : Bd X M N sc wr j G W) {x : Str} (h : M.mg x = none) : X.mg x = none := by rw [B.eM]; exact h
theorem Bd.glo (B : Bd X M N sc wr j G W) {x : Str} {v : Value} (h : M.mg x = some v) : X.mg x = some v := by rw [B.eM]; exact h
theorem Bd.nx (B : Bd X M N sc wr j G W) {i : Nat} {x : Str} (h : N[i]? = some x) : X.N[i]? = some x := by rw [B.eN]; exact h
theorem Bd.loc (B : Bd X M N sc wr j G W) {x : Str} (h : Loc sc x) : Loc X.env.scope x := by rw [B.eS]; exact h
theorem Bd.lk (B : Bd X M N sc wr j G W) {x : Str} {o : Option NameKind} (h : sc.names.lookup x = o) : X.env.scope.names.lookup x = o := by rw [B.eS]; exact h
theorem Bd.nod (B : Bd X M N sc wr j G W) : X.N.Nodup := by rw [B.eN]; exact B.nd
theorem Bx.lfn (B : Bx X) (x : Str) : X.fn x = true ∨ X.env.scope.names.lookup x = some .local := .inl (B.fn x)
theorem Bd.blok (B : Bd X M N sc wr j G W) {scope : Scope} {own : List (Str × Nat)} (h : blkC N sc scope own = true) : BlkOk X.N X.env.scope scope own := by
  rw [B.eN, B.eS]; exact blkOk_by h
/-- within a comprehension -/
theorem Bd.blk (B : Bd X M N sc wr j G W) {s : Shared} {H : Hp} {scope : Scope} {Cc : Addr} {cl : List (Str × Addr)} {fp : List Addr} {vs : List Nat} {G' : Gam} (h : XG G.k vs G') : Bd (X.blk s H scope (compEnvC scope cl Cc X.env) fp) M N (relab scope sc) (fun i => vs.contains i) j G' W0 where
  ePr := B.ePr
  eW := B.eW
  eK := B.eK
  eM := B.eM
  eB := B.eB
  eN := B.eN
  eS := by
    rw [← B.eS]
    rfl
  eG := h.1.trans B.eG
  tk := fun u s' ⟨_, _, _, _, _, _, _, _, _, _, _, _, _, _, _, _, z⟩ => z
  wr := fun p hp => by
    have := h.2 p hp
    simpa using this
  un := B.un
  room := B.room
  nd := B.nd
theorem un65 {j : Nat} {A : Around} (hr : Room j A) : A.units + 65 < cLine := by have := hr.un; omega
/-- a def keeps its promise -/
theorem fn_ok {x : Str} {st : Stmt} {fd : FuncData} {ps : List Str} {d : C} (io : Bool) (F : Fun M.K x q st f fd) (Sc : FnScope N ps (defScope st)) (hm : M.mg x = some (.ref f)) (hb : Binds M.K fd ps [])
    (body : ∀ (X : Cx) (G : Gam) (W : WX), Bd X M N (defScope st) (fun i => !io || i != 0) j G W → Bx X → Bq X M q f → BsOk X G W (defBody st) d) : FnM M x ps io (runB io N.length ps.length d) (j + 1) := by
  obtain ⟨oc, od, kV, doc, pm, an, cdv, ct, osl, rfl, lk, hcd⟩ := F.ex
  refine ⟨runB_ar, f, _, ?_, hm, F.kp, hb, _, _, _, lk⟩
  refine fn_of lk hcd Sc (fun vs H Q E h => h.1) fun A outer s H vs Q E hr h => ?_
  obtain ⟨hn, S, qs, R, h1, h2, h3, ha, hF⟩ := h
  -- the context of the body
  have hB : ∀ (iol : List (Nat × Addr)), (∀ p ∈ iol, io = true ∧ p.1 = 0) → Bd (cxOf (L2.CX M.P M.w) M.P M.w M.K M.mg M.base N q (defScope st) f cdv A outer s H E) M N (defScope st) (fun i => !io || i != 0) j ⟨M.k, H, S, iol, []⟩ (fun cls d _ H => E cls d H) := fun iol hl =>
    { ePr := rfl, eW := rfl, eK := rfl, eM := rfl, eB := rfl, eN := rfl, eS := rfl, eG := rfl, tk := takes_of rfl rfl rfl rfl, un := un65 hr, room := fun _ => hr, nd := Sc.nd,
      wr := fun p hp => by
        have := hl p (by simpa [Gam.ix] using hp)
        simp [this.1, this.2] }
  have hX : Bx (cxOf (L2.CX M.P M.w) M.P M.w M.K M.mg M.base N q (defScope st) f cdv A outer s H E) :=
    { fn := fun _ => rfl, calm := rfl, own := passes_of rfl, stk := rfl, frm := rfl }
  have hY : Bq (cxOf (L2.CX M.P M.w) M.P M.w M.K M.mg M.base N q (defScope st) f cdv A outer s H E) M q f :=
    { eQ := rfl, code := ⟨_, _, _, _, _, _, _, _, _, _, _, _, _, _, lk⟩ }
  cases io with
  | false =>
    obtain ⟨ra, rfl⟩ := ha
    refine ⟨_, body _ _ _ (hB [] (by simp)) hX hY, S, _, Rel.init h1 h2 h3 ra, ?_⟩
    have hl : qs.length = ps.length := by rw [ra.len, hn]
    simp only [runB, runF, if_pos hl] at hF
    cases q1 : d (initE N.length (qs.map .val)) with
    | ok fl ρ' =>
      rw [q1] at hF
      cases fl with
      | next => exact fun σ' S' H' e R => hF _ S' H' (EndR.of R rfl) rep_non
      | ret p => exact fun v σ' S' H' e R r => hF v S' H' (EndR.of R rfl) r
      | own zs =>
        intro v σ' S' H' e R r
        obtain ⟨l, us, rfl, h0, hS, hH, hr, _⟩ := r
        exact hF l us S' H' (EndR.of R rfl) h0 hS hH hr
      | brk => exact hF.elim
      | cont => exact hF.elim
    | exc y ρ' =>
      rw [q1] at hF
      exact fun cls d σ' S' H' e R r => hF.2 cls d S' H' (EndR.of R rfl) r
    | stuck => rw [q1] at hF; exact hF.elim
  | true =>
    obtain ⟨a, us, ws, ps', vs', rfl, rfl, hS, hH, hr', ra, rfl⟩ := ha
    refine ⟨_, body _ _ _ (hB [(0, a)] (by simp)) hX hY, S, _, Rel.initIO h1 h2 h3 hS hH hr' ra, ?_⟩
    have hl : (PV.lst ws :: ps').length = ps.length := by
      simp only [List.length_cons] at hn ⊢
      rw [ra.len, hn]
    simp only [runB, runIO, if_pos hl] at hF
    cases q1 : d (initE N.length (.own (.lst ws) :: ps'.map .val)) with
    | ok fl ρ' =>
      rw [q1] at hF
      unfold outIO at hF
      simp only at hF
      cases q2 : ρ'[0]? with
      | none => rw [q2] at hF; exact hF.elim
      | some s0 =>
        rw [q2] at hF
        cases s0 with
        | unb => exact hF.elim
        | val z => exact hF.elim
        | own z =>
          cases fl with
          | next => exact fun σ' S' H' e R => hF _ S' H' (EndR.of1 R q2) rep_non
          | ret p => exact fun v σ' S' H' e R r => hF v S' H' (EndR.of1 R q2) r
          | own zs =>
            intro v σ' S' H' e R r
            obtain ⟨l, us, rfl, h0, hS, hH, hr, _⟩ := r
            exact hF l us S' H' (EndR.of1 R q2) h0 hS hH hr
          | brk => exact hF.elim
          | cont => exact hF.elim
    | exc y ρ' => rw [q1] at hF; exact hF.elim
    | stuck => rw [q1] at hF; exact hF.elim
end
end PF

set_option Elab.async false
set_option linter.all false
set_option maxRecDepth 100000
namespace PF
open PySem PySem.Spec PyProof.Rows L2

/-! ## Lists of one's own are changed -/
/-- x.append(e) -/
def sApp (i : Nat) (a : E) : C := fun ρ => match ρ[i]? with
  | some (Slot.own _) => (a ρ).bind fun p ρ1 => match ρ1[i]? with
    | some (Slot.own (.lst ps)) => if ps.length < lineN then .ok .next (ρ1.set i (.own (.lst (ps ++ [p])))) else .stuck
    | _ => .stuck
  | _ => .stuck
/-- x.extend(ys), ys another list -/
def sExt (i : Nat) (a : E) : C := fun ρ => match ρ[i]? with
  | some (Slot.own _) => (a ρ).bind fun p ρ1 => match ρ1[i]? with
    | some (Slot.own q) => match pCat q p with
      | some zs => .ok .next (ρ1.set i (.own (.lst zs)))
      | none => .stuck
    | _ => .stuck
  | _ => .stuck
/-- x.pop() -/
def dPop (i : Nat) : E := fun ρ => match ρ[i]? with
  | some (Slot.own (.lst ps)) => match ps[ps.length - 1]? with
    | some p => .ok p (ρ.set i (.own (.lst ps.dropLast)))
    | none => .stuck
  | _ => .stuck
def ixS (n : Nat) (k : Int) : Option Nat := if -(2 ^ 63) ≤ k ∧ k < 2 ^ 63 then seqIndex? k n else none
/-- x.pop(k) -/
def dPopAt (i : Nat) (a : E) : E := fun ρ => match ρ[i]? with
  | some (Slot.own _) => (a ρ).bind fun p ρ1 => match ρ1[i]? with
    | some (Slot.own (.lst ps)) => match p with
      | .int k => match ixS ps.length k with
        | some j => match ps[j]? with
          | some y => .ok y (ρ1.set i (.own (.lst (ps.eraseIdx j))))
          | none => .stuck
        | none => .stuck
      | _ => .stuck
    | _ => .stuck
  | _ => .stuck
/-- x[k] = e -/
def sSetI (i : Nat) (a ix : E) : C := fun ρ => (a ρ).bind fun p ρ1 => match ρ1[i]? with
  | some (Slot.own _) => (ix ρ1).bind fun k ρ2 => match ρ2[i]? with
    | some (Slot.own (.lst ps)) => match k with
      | .int k => match ixN ps.length k with
        | some j => .ok .next (ρ2.set i (.own (.lst (ps.set j p))))
        | none => .stuck
      | _ => .stuck
    | _ => .stuck
  | _ => .stuck
section
variable {X : Cx} {G : Gam} {W : WX} {e a b : Expr} {es : List Expr} {da db : E} {pos p apos pos2 : Pos} {c d : C}
theorem ownAt {ρ : Env} {i : Nat} (h : (∃ w, ρ[i]? = some (Slot.own w)) ∨ ¬ ∃ w, ρ[i]? = some (Slot.own w)) : True := trivial
theorem own_cases (ρ : Env) (i : Nat) : (∃ w, ρ[i]? = some (Slot.own w)) ∨ ∀ w, ρ[i]? ≠ some (Slot.own w) := by
  cases q : ρ[i]? with
  | none => exact .inr fun w h => by cases h
  | some s =>
    cases s with
    | own w => exact .inl ⟨w, rfl⟩
    | unb => exact .inr fun w h => by cases h
    | val w => exact .inr fun w h => by cases h
theorem tyL {K : PySem.W.Frag} {H : Hp} {l : Addr} {us : List V} (h : H l = some (.lst us)) : tyV K "list" (.ref l) H := .inl ⟨rfl, _, SqL.of h⟩
theorem s_app {i : Nat} (h : PE X a (tVar i)) (he : EOk X G W b db) (hb : PE X (.Call (.Attribute a "append" apos) [b] [] pos) (tBM X.K "list" rAppend (tVar i) (tCons (LE G W db) tNil))) (hs : swapsWith (.Call (.Attribute a "append" apos) [b] [] pos) none pos2.line X.env = pure false := by rfl) :
    SOk X G W (.Expr (.Call (.Attribute a "append" apos) [b] [] pos) pos2) (sApp i db) :=
  ps_weak (ps_expr hb hs) fun D σ H ⟨S, ρ, R, P⟩ => by
    unfold sApp at P
    rcases own_cases ρ i with ⟨w, q⟩ | q
    · rw [q] at P
      obtain ⟨l, ps, us, e2, ep, hS, hH, hr⟩ := R.own q
      refine ⟨.ref l, e2, tyL hH, S, ρ, R, PostS.bindE (R1 := RE G.k) P fun x ρ1 v S1 H1 s1 R1 rv P1 => ?_⟩
      rcases own_cases ρ1 i with ⟨w1, q1⟩ | q1
      · rw [q1] at P1
        obtain ⟨l', ps1, us1, e3, ep1, hS1, hH1, hr1⟩ := R1.own q1
        subst ep1
        rw [e2] at e3
        cases e3
        simp only at P1
        split at P1
        · rename_i hz
          exact ⟨l, us1, v, rfl, rfl, hH1, by rw [← hr1.len, ← lineN_eq]; exact hz, P1 _ S1 _ (.refl _) (R1.write q1 e2 (hr1.append (Reps.cons rv Reps.nil)))⟩
        · exact P1.elim
      · split at P1
        · rename_i h1; exact absurd h1 (q1 _)
        · exact P1.elim
    · split at P
      · rename_i h1; exact absurd h1 (q _)
      · exact P.elim
theorem s_ext {i : Nat} (h : PE X a (tVar i)) (he : BOk X G W b db) (hb : PE X (.Call (.Attribute a "extend" apos) [b] [] pos) (tBM X.K "list" rExtend (tVar i) (tCons (LB G W db) tNil))) (hs : swapsWith (.Call (.Attribute a "extend" apos) [b] [] pos) none pos2.line X.env = pure false := by rfl) :
    SOk X G W (.Expr (.Call (.Attribute a "extend" apos) [b] [] pos) pos2) (sExt i db) :=
  ps_weak (ps_expr hb hs) fun D σ H ⟨S, ρ, R, P⟩ => by
    unfold sExt at P
    rcases own_cases ρ i with ⟨w, q⟩ | q
    · rw [q] at P
      obtain ⟨l, ps, us, e2, ep, hS, hH, hr⟩ := R.own q
      refine ⟨.ref l, e2, tyL hH, S, ρ, R, PostS.bindE (R1 := RB G.k) P fun x ρ1 v S1 H1 s1 R1 rv P1 => ?_⟩
      rcases own_cases ρ1 i with ⟨w1, q1⟩ | q1
      · rw [q1] at P1
        obtain ⟨l', ps1, us1, e3, ep1, hS1, hH1, hr1⟩ := R1.own q1
        subst ep1
        rw [e2] at e3
        cases e3
        simp only at P1
        cases ec : pCat (.lst ps1) x with
        | none => rw [ec] at P1; exact P1.elim
        | some zs =>
          rw [ec] at P1
          cases x <;> simp only [pCat] at ec <;> try cases ec
          rename_i qs
          split at ec
          · rename_i hz
            cases ec
            obtain ⟨l2, us2, rfl, h2, r2⟩ := repB_lst R1.sub rv
            exact ⟨l, l2, us1, us2, rfl, rfl, hH1, h2, by rw [← hr1.len, ← r2.len, ← lineN_eq]; exact hz, P1 _ S1 _ (.refl _) (R1.write q1 e2 (hr1.append r2))⟩
          · cases ec
      · split at P1
        · rename_i h1; exact absurd h1 (q1 _)
        · exact P1.elim
    · split at P
      · rename_i h1; exact absurd h1 (q _)
      · exact P.elim
theorem Reps.dropLast {k : Kx} {S : Hp} {ps : List PV} {us : List V} (r : Reps k S ps us) : Reps k S ps.dropLast us.dropLast := by
  rw [List.dropLast_eq_take, List.dropLast_eq_take, r.len]
  exact r.take _
theorem Reps.erase {k : Kx} {S : Hp} {ps : List PV} {us : List V} (r : Reps k S ps us) (j : Nat) : Reps k S (ps.eraseIdx j) (us.eraseIdx j) := by
  rw [List.eraseIdx_eq_take_drop_succ, List.eraseIdx_eq_take_drop_succ]
  exact (r.take _).append (r.drop _)
theorem e_pop {i : Nat} (hb : PE X e (tBM0 X.K "list" rPop (tVar i))) : EOk X G W e (dPop i) :=
  pe_weak hb fun σ H Q ⟨S, ρ, R, P⟩ => by
    unfold dPop at P
    rcases own_cases ρ i with ⟨w, q⟩ | q
    · rw [q] at P
      obtain ⟨l, ps, us, e2, ep, hS, hH, hr⟩ := R.own q
      subst ep
      simp only at P
      cases ey : ps[ps.length - 1]? with
      | none => rw [ey] at P; exact P.elim
      | some y =>
        rw [ey] at P
        obtain ⟨u, hu, ru⟩ := hr.get ey
        exact ⟨.ref l, e2, tyL hH, l, us, u, rfl, rfl, hH, by rw [← hr.len]; exact hu, P u S _ (.refl _) (R.write q e2 hr.dropLast) ru⟩
    · split at P
      · rename_i h1; exact absurd h1 (q _)
      · exact P.elim
theorem e_popAt {i : Nat} (hb : PE X e (tBM X.K "list" rPopAt (tVar i) (tCons (LE G W db) tNil))) : EOk X G W e (dPopAt i db) :=
  pe_weak hb fun σ H Q ⟨S, ρ, R, P⟩ => by
    unfold dPopAt at P
    rcases own_cases ρ i with ⟨w, q⟩ | q
    · rw [q] at P
      obtain ⟨l, ps, us, e2, ep, hS, hH, hr⟩ := R.own q
      refine ⟨.ref l, e2, tyL hH, S, ρ, R, Post.bind (R1 := RE G.k) P fun x ρ1 v S1 H1 s1 R1 rv P1 => ?_⟩
      rcases own_cases ρ1 i with ⟨w1, q1⟩ | q1
      · rw [q1] at P1
        obtain ⟨l', ps1, us1, e3, ep1, hS1, hH1, hr1⟩ := R1.own q1
        subst ep1
        rw [e2] at e3
        cases e3
        simp only at P1
        cases x <;> try exact P1.elim
        rename_i n
        simp only at P1
        cases ej : ixS ps1.length n with
        | none => rw [ej] at P1; exact P1.elim
        | some j =>
          rw [ej] at P1
          simp only at P1
          cases ey : ps1[j]? with
          | none => rw [ey] at P1; exact P1.elim
          | some y =>
            rw [ey] at P1
            obtain ⟨u, hu, ru⟩ := hr1.get ey
            simp only [Rep] at rv
            subst rv
            unfold ixS at ej
            split at ej
            · rename_i hn
              exact ⟨l, us1, n, j, u, rfl, rfl, hH1, hn.1, hn.2, by rw [← hr1.len]; exact ej, hu, P1 u S1 _ (.refl _) (R1.write q1 e2 (hr1.erase j)) ru⟩
            · cases ej
      · split at P1
        · rename_i h1; exact absurd h1 (q1 _)
        · exact P1.elim
    · split at P
      · rename_i h1; exact absurd h1 (q _)
      · exact P.elim
theorem s_setI {i : Nat} {tpos : Pos} (h : PE X a (tVar i)) (hi : EOk X G W b db) (he : EOk X G W e da) (ha : ∀ v, assign (.Subscript a b tpos) X.env v = (do
      let ov ← holding [v] (eval a X.env)
      let iv ← holding [v, ov] (eval b X.env)
      standAt tpos
      holding [v, ov, iv] (setItem ov iv v)
      release [v, ov, iv] []) := by intro _; rfl)
    (hs : swapsWithSole [.Subscript a b tpos] e pos.line X.env = pure false := by rfl) (hw : swappedStores [.Subscript a b tpos] e X.env = pure none := by rfl) (h1 : (assignEach [.Subscript a b tpos] X.env).map (·.2) = [assign (.Subscript a b tpos) X.env] := by rfl) :
    SOk X G W (.Assign [.Subscript a b tpos] e pos) (sSetI i da db) :=
  ps_weak (ps_asg he (pg_sub h hi set_list ha) hs hw h1) fun D σ H ⟨S, ρ, R, P⟩ => ⟨S, ρ, R, PostS.bindE (R1 := RE G.k) P fun x ρ1 v S1 H1 s1 R1 rv P1 => by
    rcases own_cases ρ1 i with ⟨w1, q1⟩ | q1
    · rw [q1] at P1
      obtain ⟨l, ps1, us1, e2, ep1, hS1, hH1, hr1⟩ := R1.own q1
      refine ⟨.ref l, e2, S1, ρ1, R1, PostS.bindE (R1 := RE G.k) P1 fun y ρ2 u S2 H2 s2 R2 ru P2 => ?_⟩
      rcases own_cases ρ2 i with ⟨w2, q2⟩ | q2
      · rw [q2] at P2
        obtain ⟨l', ps2, us2, e3, ep2, hS2, hH2, hr2⟩ := R2.own q2
        subst ep2
        rw [e2] at e3
        cases e3
        simp only at P2
        cases y <;> try exact P2.elim
        rename_i n
        simp only at P2
        cases ej : ixN ps2.length n with
        | none => rw [ej] at P2; exact P2.elim
        | some j =>
          rw [ej] at P2
          simp only [Rep] at ru
          subst ru
          exact ⟨l, us2, n, j, rfl, rfl, hH2, by rw [← hr2.len]; exact ej, P2 _ S2 _ (.refl _) (R2.write q2 e2 (hr2.set j (rv.mono s2)))⟩
      · split at P2
        · rename_i h1; exact absurd h1 (q2 _)
        · exact P2.elim
    · split at P1
      · rename_i h1; exact absurd h1 (q1 _)
      · exact P1.elim⟩

/-! ## x = [.. for ..] -/
theorem s_ownLc {i : Nat} {y : Str} {py : Pos} {elt tg iter : Expr} {ifs : List Expr} {scope : Scope} {own : List (Str × Nat)} {spos : Pos} {it : As} {g : Tg} {t : T} {ee : E} (C : Ct X G W) (hc : X.calm = true) (hy : X.N[i]? = some y) (hyl : X.env.scope.names.lookup y = some .local) (hio : ∀ q ∈ G.ix, q.1 ≠ i)
    (hsw : swapsWith (.ListComp elt [⟨tg, iter, ifs, 0⟩] scope pos) (some (.Name y py)) spos.line X.env = pure true) (hi : IOk X G W tg iter it) (ok : BlkOk X.N X.env.scope scope own) (hvs : ∀ q ∈ G.ix, q.1 ∉ own.map (·.2))
    (hg : ∀ (s : Shared) (H : Hp) (Cc : Addr) (cl : List (Str × Addr)) (fp : List Addr) (G' : Gam), XG G.k (own.map (·.2)) G' → GOk (X.blk s H scope (compEnvC scope cl Cc X.env) fp) G' (own.map (·.2)) tg g)
    (ht : ∀ (s : Shared) (H : Hp) (Cc : Addr) (cl : List (Str × Addr)) (fp : List Addr) (G' : Gam), XG G.k (own.map (·.2)) G' → PTs (X.blk s H scope (compEnvC scope cl Cc X.env) fp) ifs (LT G' W0 t))
    (he : ∀ (s : Shared) (H : Hp) (Cc : Addr) (cl : List (Str × Addr)) (fp : List Addr) (G' : Gam), XG G.k (own.map (·.2)) G' → EOk (X.blk s H scope (compEnvC scope cl Cc X.env) fp) G' W0 elt ee) (hs : ∀ x, foldedSetIterable iter X.env x = pure x := by intro _; rfl) :
    SOk X G W (.Assign [.Name y py] (.ListComp elt [⟨tg, iter, ifs, 0⟩] scope pos) spos) (sOwn i (fLc (own.map (·.2)) it g t ee)) :=
  ps_weak (ps_setLc (own := own) hc C.nd hy hyl hsw hi ok (fun s H Cc cl fp => pg_x (hg s H Cc cl fp)) (fun s H Cc cl fp => pts_x (ht s H Cc cl fp)) (fun s H Cc cl fp => pe_x (he s H Cc cl fp)) hs) fun D σ H ⟨S, ρ, R, P⟩ => by
    refine ⟨S, ρ, R, ?_⟩
    have P0 : PostS G W (((it ρ).bind fun xs ρ1 => lcL g t ee (own.map (·.2)) xs [] (wipeE ρ1 (own.map (·.2)))).bind fun ps ρ1 => .ok .next (ρ1.set i (.own (.lst ps)))) S D := P
    have P' : PostS G W ((it ρ).bind fun xs ρ1 => (lcL g t ee (own.map (·.2)) xs [] (wipeE ρ1 (own.map (·.2)))).bind fun ps ρ1 => .ok .next (ρ1.set i (.own (.lst ps)))) S D := by
      cases q : it ρ with
      | ok xs ρ1 => rw [q] at P0; exact P0
      | exc x ρ1 => rw [q] at P0; exact P0
      | stuck => rw [q] at P0; exact P0
    refine PostS.bindE (R1 := RI G.k) P' fun xs ρ1 J S1 H1 s1 R1 yl P1 => ?_
    cases q : lcL g t ee (own.map (·.2)) xs [] (wipeE ρ1 (own.map (·.2))) with
    | ok zs ρz =>
      rw [q] at P1
      exact lc_aux (Q := fun x H1 => D.nx (σ.set i (some x)) H1) hvs R1 yl q fun a us S' H' e1 R' h0 hS hH hr hn => P1 _ S' H' e1 (R'.setOwn h0 hS hH hr hn hio)
    | exc x ρz => exact (lcL_noexc _ _ _ q).elim
    | stuck => rw [q] at P1; exact P1.elim
end
end PF

set_option Elab.async false
set_option linter.all false
set_option maxRecDepth 100000
namespace PF
open PySem PySem.Spec PyProof.Rows L2

/-! ## Exceptions of the program's own -/
/-- the classes: each with the names of all that it is -/
abbrev Tbl := List (Str × List Str)
def isSub (tbl : Tbl) (c d : Str) : Bool := match tbl.lookup c with
  | some l => l.contains d
  | none => false
/-- what is asked of one class -/
def excChk (K : PySem.W.Frag) (C : Addr) : Bool :=
  PySem.W.excIn K C [.type "ValueError", .type "Exception", .type "BaseException", .type "object"] "ValueError.__new__" && PySem.W.keepIn K (.ref C) &&
  (PySem.W.subIn K (.ref C) (.type "BaseException") == some true) && (PySem.W.typeIn K (.ref C) == some (.type "type")) &&
  (PySem.W.findIn K (.ref C) "__getattribute__" == some (some (.builtin "BaseException.__getattribute__"))) && (PySem.W.findIn K (.ref C) "__getattr__" == some none) &&
  PySem.W.hasDictIn K C && (PySem.W.findIn K (.ref C) "__class__" == some (some (.builtin "object.__class__"))) &&
  (PySem.W.specialIn K (.builtin "object.__class__") "__get__" == some (some (.builtin "getset_descriptor.__get__"))) && (PySem.W.takesIn K (.builtin "object.__class__") == some true) && (PySem.W.mroIn K C (.type "object") == some true) &&
  (PySem.W.kitOne K (.ref C) (.type "ValueError") == some true)
def pairChk (K : PySem.W.Frag) (tbl : Tbl) (as : List (Str × Addr)) (c : Str × Addr) : Bool := as.all fun d => PySem.W.kitOne K (.ref c.2) (.ref d.2) == some (isSub tbl c.1 d.1) && PySem.W.exmOne K (.ref c.2) (.ref d.2) == some (isSub tbl c.1 d.1)
def tblChk (K : PySem.W.Frag) (tbl : Tbl) (as : List (Str × Addr)) : Bool := as.all fun c => excChk K c.2 && pairChk K tbl as c
structure ExK (K : PySem.W.Frag) (C : Addr) : Prop where
  q : PySem.W.excIn K C [.type "ValueError", .type "Exception", .type "BaseException", .type "object"] "ValueError.__new__" = true
  kp : PySem.W.keepIn K (.ref C) = true
  sub : PySem.W.subIn K (.ref C) (.type "BaseException") = some true
  ty : PySem.W.typeIn K (.ref C) = some (.type "type")
  ec : ExcC K C
  ve : PySem.W.kitOne K (.ref C) (.type "ValueError") = some true
theorem exK_of {K : PySem.W.Frag} {C : Addr} (h : excChk K C = true) : ExK K C := by
  unfold excChk at h
  simp only [Bool.and_eq_true, beq_iff_eq] at h
  obtain ⟨⟨⟨⟨⟨⟨⟨⟨⟨⟨⟨h1, h2⟩, h3⟩, h4⟩, h5⟩, h6⟩, h7⟩, h8⟩, h9⟩, h10⟩, h11⟩, h12⟩ := h
  exact ⟨h1, h2, h3, h4, ⟨h5, h6, h3, h7, h8, h9, h10, h11⟩, h12⟩
/-- the module's classes -/
structure ExT (M : Mo) (tbl : Tbl) (as : List (Str × Addr)) : Prop where
  names : as.map (·.1) = tbl.map (·.1)
  mg : ∀ p ∈ as, M.mg p.1 = some (.ref p.2)
  k : ∀ p ∈ as, ExK M.K p.2
  kit : ∀ p ∈ as, ∀ q ∈ as, PySem.W.kitOne M.K (.ref p.2) (.ref q.2) = some (isSub tbl p.1 q.1)
  exm : ∀ p ∈ as, ∀ q ∈ as, PySem.W.exmOne M.K (.ref p.2) (.ref q.2) = some (isSub tbl p.1 q.1)
theorem exT_of {M : Mo} {tbl : Tbl} {as : List (Str × Addr)} (hn : as.map (·.1) = tbl.map (·.1)) (hm : ∀ p ∈ as, M.mg p.1 = some (.ref p.2)) (h : tblChk M.K tbl as = true) : ExT M tbl as := by
  unfold tblChk at h
  simp only [List.all_eq_true, Bool.and_eq_true] at h
  refine ⟨hn, hm, fun p hp => exK_of (h p hp).1, fun p hp q hq => ?_, fun p hp q hq => ?_⟩
  · have := (h p hp).2
    unfold pairChk at this
    simp only [List.all_eq_true, Bool.and_eq_true, beq_iff_eq] at this
    exact (this q hq).1
  · have := (h p hp).2
    unfold pairChk at this
    simp only [List.all_eq_true, Bool.and_eq_true, beq_iff_eq] at this
    exact (this q hq).2
section
variable {X : Cx} {C : Addr} {bmB : List Value} {B newId initId : String}
/-- X() -/
theorem pmk_own0 {x : Str} {p pos : Pos} (F : ExcBaseFacts B newId initId bmB) (q : PySem.W.excIn X.K C bmB newId = true) (gC : X.mg x = some (.ref C)) (kC : PySem.W.keepIn X.K (.ref C) = true) (r : Raises X (.ref C)) (hg : Gl X x)
    (hdb : (x == ("__debug__" : Str)) = false := by decide) : PMk X (.Call (.Name x p) [] [] pos) (fun _ H Q => Q (.ref C) none H) := by
  intro pins s σ H Q I h
  refine wpAny_Call_Name_kw (ld_glob I hg gC ?_ hdb)
  refine PySem.W.callWith_K0 I.kIn kC ?_
  obtain ⟨bm, N, nm, qn, bs, hdct, sn, sub, ab, col, dd, k0, k1, k2, k3, k5, mN, hC, hN, hni, T⟩ := exc_obj I.kIn q
  refine wpAny_call_exc_subT F T hC hN hni (fun h' e hm => ?_) (by show 0 ≤ sizeLine; exact Nat.zero_le _)
  exact mk_of I hm r h (I.hok.gone hm.new)
end
section
variable {X : Cx} {M : Mo} {N : List Str} {q : Str} {f : Addr} {sc : Scope} {wr : Nat → Bool} {j : Nat} {G : Gam} {W : WX} {tbl : Tbl} {as : List (Str × Addr)}
/-- raise X() -/
theorem s_raise {x : Str} {p pos pos2 : Pos} {D : Addr} (B : Bd X M N sc wr j G W) (hc : X.calm = true) (Z : ExT M tbl as) (hx : (x, D) ∈ as) (hg : sc.names.lookup x = some .globalImplicit) (hdb : (x == ("__debug__" : Str)) = false := by decide) :
    SOk X G W (.Raise (some (.Call (.Name x p) [] [] pos)) none pos2) (sRaise x) := by
  have k := Z.k _ hx
  have hm := Z.mg _ hx
  refine ps_weak (ps_raise hc B.tk (pmk_own0 (C := D) PySem.F.excBase_ValueError (by rw [B.eK]; exact k.q) (B.glo hm) (by rw [B.eK]; exact k.kp) (raises_own (by rw [B.eK]; exact k.sub) (by rw [B.eK]; exact k.ty)) (B.gl hg) hdb)) fun D' σ H ⟨S, ρ, R, P⟩ => ?_
  refine P (.ref D) none σ S H (.refl _) R ⟨?_, rfl⟩
  have : G.k.mg = M.mg := by rw [B.eG]; rfl
  rw [this]; exact hm
end
end PF

set_option Elab.async false
set_option linter.all false
set_option maxRecDepth 100000
namespace PF
open PySem PySem.Spec PyProof.Rows L2 LamX

/-! ## try and lambda -/
/-- what a call without arguments gives -/
inductive TR where
  | val (p : PV) | exc (x : Exc)
/-- the def that calls what it got, once: from the slots ρ1 at its try -/
def hOut (ρ1 : Env) (isRet : Bool) (tbl : Tbl) (cat : Str) (i : Nat) (suite : Exc → C) (post : C) (r : TR) : Out Flow := match r with
  | .val p => match isRet with
    | true => .ok (.ret p) ρ1
    | false => post ρ1
  | .exc x => match isSub tbl x.cls cat with
    | true => (suite x ρ1).bind fun fl ρ3 => match fl with
      | .next => post (ρ3.set i .unb)
      | f => .ok f ρ3
    | false => .stuck
def hRun (ρ1 : Env) (isRet : Bool) (tbl : Tbl) (cat : Str) (i : Nat) (suite : Exc → C) (post : C) (r : TR) : FOut := outF (hOut ρ1 isRet tbl cat i suite post r)
def hfin (o : FOut) (ρ : Env) : Out PV := match o with
  | .ret p _ => .ok p ρ
  | _ => .stuck
/-- f(lambda: e) -/
def dLam (hp : TR → FOut) (d : E) : E := fun ρ => match d ρ with
  | .ok p ρ' => hfin (hp (.val p)) ρ'
  | .exc x ρ' => hfin (hp (.exc x)) ρ'
  | .stuck => .stuck
/-- the lambda's reading -/
def LXe (k : Kx) (d : E) (E : XK) : TE := fun σ H Q => ∃ G', G'.k = k ∧ LE G' (fun cls d' _ H' => E cls d' H') d σ H Q
abbrev ThK := XK → Hp → VK → Prop
def TTh (k : Kx) (hp : TR → FOut) (tl : ThK) (H : Hp) (Q : VK) : Prop := ∃ (G : Gam) (S : Hp) (ρ : Env) (σ : L2.St) (W : WX) (d : E), G.k = k ∧ Rel G S H ρ σ ∧ (∀ E H' Q', LXe k d E σ H' Q' → tl E H' Q') ∧ Post G W σ (RE k) (dLam hp d ρ) S Q
section
variable {X : Cx} {pins : List (Addr × Obj)} {σ : L2.St} {H : Hp} {s : Shared}
/-- x(), in the def that got the lambda; the exception's wish may look at that def's slots -/
theorem pe_actS {CXg : CXT} {Eg : XK} {Ng : List Str} {qg : Str} {sg : Scope} {g f c' : Addr} {cdg pm ctv : Value} {params : Arguments} {body : Expr} {scope : Scope} {k i : Nat} {a : Str} {pn : List (Addr × Obj)} {xe : Value → Shared → Prop} {W : WX} {tb : XK → TE} {p1 p2 : Pos}
    (I : Inv X pins σ H s) (L : LamS X.env.scope scope) (hf : s.heap.get? f = some (PySem.W.kla_obj "<lambda>" (X.env.qual ++ "<lambda>") params body scope (cloFrom X.env.cells scope.names []) pm c' ctv)) (hfn : H f = none) (hfr : f ∉ frs X.stack)
    (hbind : bindArgs (PySem.W.kla_fn "<lambda>" (X.env.qual ++ "<lambda>") params body scope (cloFrom X.env.cells scope.names []) pm (.ref c') ctv) ⟨[], []⟩ = pure [])
    (tk : Takes ((cxOf CXg X.prog X.w X.K X.mg X.base Ng qg sg g cdg X.A X.stack s H Eg).tr pn xe) W) (hr : Room (k + 1) (X.A.deeper (envOfC qg sg s.heap.objs.size g cdg)))
    (hbody : ∀ (A : Around) (outer : List PySem.Env) (s : Shared) (H : Hp) (E : XK), Room k (A.deeper (lamEnv X scope s.heap.objs.size f c')) → PE (lamCx X A outer s H E scope f c') body (tb E))
    (hN : Ng[i]? = some a) (hv : Vis sg a) (hd : (a == ("__debug__" : Str)) = false := by decide) (hcd : (a == ("__classdict__" : Str)) = false := by decide) :
    PE ((cxOf CXg X.prog X.w X.K X.mg X.base Ng qg sg g cdg X.A X.stack s H Eg).tr pn xe) (.Call (.Name a p1) [] [] p2)
      (fun σZ HZ Q => σZ[i]? = some (some (.ref f)) ∧ HZ c' = some (CodeO c' (X.env.qual ++ "<lambda>")) ∧ tb (WE W σZ) σ HZ Q) := by
  refine ⟨fun pinsZ sZ σZ HZ Q IZ h => ?_⟩
  obtain ⟨hs, hc, ht⟩ := h
  refine wpAny_Call_Name_kw (thn ((pe_var (pos := p1) (i := i) hN hv hd hcd).run pinsZ sZ σZ HZ (fun v H1 => v = .ref f ∧ H1 = HZ) IZ ⟨.ref f, hs, rfl, rfl⟩) fun u s1 ⟨v, H1, I1, r1, q1⟩ => ?_)
  obtain ⟨ev, eH⟩ := q1
  subst ev
  rw [eH] at I1
  obtain rfl : u = Value.ref f := r1
  have of1 := I1.base.keep f _ hf hfn hfr (fun z => nomatch (show f ∈ ([] : List Addr) from z))
  refine PySem.W.callWith_F0 ⟨_, _, _, _, of1⟩ ?_
  have un : Un (frs X.stack) [] H HZ s.heap s1.heap := I1.base
  obtain ⟨⟨oc, vs, t, hoc, hdc, hvc⟩, _, _⟩ := I1.hok c' _ hc
  have rc : codeAny (model X.prog X.w) (X.A.deeper (envOfC qg sg s.heap.objs.size g cdg)) (.call (.ref f) ⟨[], []⟩) (CR (L2.CX X.prog X.w) (envOfC qg sg s.heap.objs.size g cdg :: X.stack) X.prog X.w HZ s1 Q (WE W σZ)) s1 := by
    refine PySem.W.kla_callFunE hr.depth of1 rfl L.co L.gen rfl ⟨c', oc, vs, t, rfl, hoc, hdc, hvc⟩ ?_
    rw [hbind]
    refine wpAny_pure (wpAny_newFunctionEnv (fun y hy => (L.own y hy).2) (fun y hy => absurd hy (by simp)) (fun h₁ hns hsb => ⟨I1.nolimit.fresh _ hsb, ?_⟩) L.kind)
    have kp : ∀ b o, s1.heap.get? b = some o → h₁.get? b = some o := fun b o e => hsb.extBut b o (Nat.ne_of_lt (Heap.lt_size e)) (Heap.get?_push_of_some _ e)
    have J : Inv (lamCx X (X.A.deeper (envOfC qg sg s.heap.objs.size g cdg)) (envOfC qg sg s.heap.objs.size g cdg :: X.stack) s1 HZ (WE W σZ) scope f c') [] σ HZ { s1 with heap := h₁, toks := s1.toks + ([] : List (Str × Value)).length } :=
      lam_start2 I L I1.env0 hr.hd un hns kp
    refine PySem.W.kla_codeExpr (wpAny_mono ((hbody _ _ s1 HZ (WE W σZ) (hr.deeper _)).run [] _ _ HZ Q J ht) (fun v s' hq => ?_) fun e s' hq => hq)
    obtain ⟨w', H', J', rv, q⟩ := hq
    exact ⟨w', H', J'.os, J'.bare, J'.base, J'.hok, rv, q⟩
  refine wpAny_call (codeAny_mono rc fun r s' hq => ?_)
  cases r with
  | error e => exact passAt tk σZ pinsZ HZ s1 e s' I1 hq
  | ok fl =>
    cases fl with
    | ret u => exact I1.after hq
    | next => exact False.elim hq
    | brk => exact False.elim hq
    | cont => exact False.elim hq
end
/-- the def that calls what it got -/
def Gives (X : Cx) (Ng : List Str) (x : Str) (sg : Scope) (g : Addr) (cdg : Value) (bg : List Stmt) (a : Str) (q : Str) (TT : ThK → Hp → VK → Prop) : Prop :=
  ∀ (f c' : Addr) (s : Shared) (H : Hp) (Q : VK) (tl : ThK),
    (∀ (W : WX) (pn : List (Addr × Obj)) (xe : Value → Shared → Prop) (p1 p2 : Pos), Takes ((cxOf C8.CX0 X.prog X.w X.K X.mg X.base Ng x sg g cdg X.A X.stack s H C8.E0).tr pn xe) W →
      PE ((cxOf C8.CX0 X.prog X.w X.K X.mg X.base Ng x sg g cdg X.A X.stack s H C8.E0).tr pn xe) (.Call (.Name a p1) [] [] p2) (fun σZ HZ Q => σZ[0]? = some (some (.ref f)) ∧ HZ c' = some (CodeO c' q) ∧ tl (WE W σZ) HZ Q)) →
    H c' = some (CodeO c' q) → TT tl H Q →
    ∃ t, PSs (cxOf C8.CX0 X.prog X.w X.K X.mg X.base Ng x sg g cdg X.A X.stack s H C8.E0).nox bg t ∧ t { nx := fun _ H' => Q .non H', rt := Q } (L2.start Ng [.ref f]) H
section
variable {X : Cx}
theorem pe_lamS {T : List (Addr × Str)} {TT : ThK → Hp → VK → Prop} {x a : Str} {g c P : Addr} {k : Nat} {pg : Arguments} {bg : List Stmt} {sg : Scope} {dV kV doc pm cdv ct oc : Value} {an od : Option Addr} {osl : Array (Option Value)} {Ng : List Str}
    {params : Arguments} {body : Expr} {scope : Scope} {t : XK → TE} {p lpos pos : Pos} (hg : Gl X x) (hm : X.mg x = some (.ref g)) (hk : PySem.W.keepIn X.K (.ref g) = true)
    (lk : X.K.lookup g = some ⟨oc, od, .func (PySem.W.fnOf x x pg bg sg dV kV doc pm an cdv ct), osl⟩) (hcg : PySem.W.codeIn X.K cdv x = true) (hb : L2.Binds X.K (PySem.W.fnOf x x pg bg sg dV kV doc pm an cdv ct) [a] []) (Sg : FnScope Ng [a] sg) (hNg : Ng[0]? = some a) (hva : Vis sg a)
    (hG : Gives X Ng x sg g cdv bg a (X.env.qual ++ "<lambda>") TT)
    (TB : TabB X.base X.mg c P) (hcode : X.env.code = .ref c) (hmT : (P, X.env.qual ++ "<lambda>") ∈ T) (hu : ∀ p ∈ T, p.1 = P → p.2 = X.env.qual ++ "<lambda>") (hr : Room (k + 2) X.A) (L : LamS X.env.scope scope) (hdef : defaultsOf params X.env = ([], []))
    (hbind : ∀ (q : Str) (cl : List (Str × Addr)) (pm cv ctv : Value), bindArgs (PySem.W.kla_fn "<lambda>" q params body scope cl pm cv ctv) ⟨[], []⟩ = pure [])
    (hbody : ∀ (A : Around) (outer : List PySem.Env) (s : Shared) (H : Hp) (E : XK) (f c' : Addr), Room k (A.deeper (lamEnv X scope s.heap.objs.size f c')) → PE (lamCx X A outer s H E scope f c') body (t E))
    (hdb : (x == ("__debug__" : Str)) = false := by decide) (hd : (a == ("__debug__" : Str)) = false := by decide) (hcd : (a == ("__classdict__" : Str)) = false := by decide) :
    PE X (.Call (.Name x p) [.Lambda params body scope lpos] [] pos) (tLam T TT t) := by
  refine ⟨fun pins s σ H Q I h => ?_⟩
  obtain ⟨hT, h⟩ := h
  refine wpAny_Call_Name_kw (ld_glob I hg hm ?_ hdb)
  refine PySem.W.callWith_K (h₀ := X.base) I.ok.mod.kin hk ?_ (by rfl) (by rfl)
  show wpAny _ _ (spliced ((false, eval (.Lambda params body scope lpos) X.env) :: backTo pos (starEach [] X.env))) _ _ s
  refine Calls.spliced_cons (lam_make2 I TB hcode hmT hu hT hdef (L.has I.ok) fun f c' pm' ctv H1 s' I1 eN T1 hf hfn hfr hco => ?_)
  refine Calls.spliced_nil ⟨I1.kIn, ?_⟩
  have rc : codeAny (model X.prog X.w) X.A (.call (.ref g) ⟨[.ref f], []⟩) (CR C8.CX0 X.stack X.prog X.w H1 s' Q C8.E0) s' := by
    refine run_ofS (N := Ng) (ps := [a]) (us := [.ref f]) (vs := [.ref f]) lk hcg Sg hr I1.env0 (hb s' [.ref f] I1.kIn rfl) (.cons rfl .nil) rfl fun hr' => ?_
    obtain ⟨t', ht', hq'⟩ := hG f c' s' H1 Q (fun E H' Q' => t E σ H' Q') (fun W pn xe p1 p2 tk => pe_actS (i := 0) I1 L hf hfn hfr (hbind _ _ _ _ _) tk hr' (fun A outer s H E hr2 => hbody A outer s H E f c' hr2) hNg hva hd hcd) hco (h H1 eN T1)
    exact ⟨t', ht'.nox, hq'⟩
  refine wpAny_call (codeAny_mono rc fun r s2 hq => ?_)
  cases r with
  | error e => exact (show False from hq).elim
  | ok fl =>
    cases fl with
    | ret u => exact I1.after hq
    | next => exact False.elim hq
    | brk => exact False.elim hq
    | cont => exact False.elim hq
end
end PF

set_option Elab.async false
set_option linter.all false
set_option maxRecDepth 100000
namespace PF
open PySem PySem.Spec PyProof.Rows L2 LamX

/-! ## The def that calls what it got -/
/-- the slots that own a list -/
def ownS (ρ : Env) : List Nat := (List.range ρ.length).filter fun i => match ρ[i]? with
  | some (.own _) => true
  | _ => false
theorem mem_ownS {ρ : Env} {i : Nat} {p : PV} (h : ρ[i]? = some (.own p)) : i ∈ ownS ρ := by
  unfold ownS
  rw [List.mem_filter]
  exact ⟨List.mem_range.mpr (List.getElem?_eq_some_iff.mp h).1, by rw [h]⟩
/-- the exception that a suite holds in slot i -/
structure ExAt (X : Cx) (G : Gam) (M : Mo) (as : List (Str × Addr)) (i : Nat) (x : Exc) : Prop where
  ex : ∃ (X0 : Cx) (a : Addr) (oe : Obj) (pn : List (Addr × Obj)) (D : Addr) (d : Option Addr), X = X0.suite a ((a, oe) :: pn) ∧ (i, a) ∈ G.fx ∧ (x.cls, D) ∈ as ∧ Zc (.ref D) d oe ∧ (∃ vs, oe.data = .fields vs) ∧ (x.fields = [] → d = none)
section
variable {k : Kx} {G : Gam} {S H S' H' S1 H1 S2 H2 S3 H3 : Hp} {ρ ρ' ρh ρ1 ρ3 : Env} {σ σh σ3 : L2.St}
theorem Rel.initU {N : List Str} {f : Addr} {a : Str} (h1 : Same S H) (h2 : ∀ a o, S a = some o → NoTb o) (h3 : LamX.Tabs k.T H) (hN : N[0]? = some a) : Rel ⟨k, H, S, [], [(0, f)]⟩ S H (initE N.length []) (L2.start N [.ref f]) where
  sub := h1
  s0 := .refl _
  al := fun a o e _ => ⟨o, e⟩
  fr := fun a o e _ _ => e
  nf := fun a o _ _ e => e
  nt := h2
  tabs := h3
  len := by
    have : 0 < N.length := (List.getElem?_eq_some_iff.mp hN).1
    simp [initE, L2.start]
    omega
  slot := fun i s o e1 e2 => by
    unfold initE at e1
    rw [List.nil_append, List.getElem?_replicate] at e1
    split at e1
    · cases e1; trivial
    · cases e1
  new := fun i p a e1 e2 => by
    unfold initE at e1
    rw [List.nil_append, List.getElem?_replicate] at e1
    split at e1 <;> cases e1
  dis := fun i j p q a e1 e2 e3 e4 => by
    unfold initE at e1
    rw [List.nil_append, List.getElem?_replicate] at e1
    split at e1 <;> cases e1
  pin := fun p hp => by cases hp
  fix := fun p hp => by
    have e : p = (0, f) := by simpa using hp
    subst e
    rfl
/-- the helper's state behind the call of the lambda: R: the maker's state at the call; RA: the helper's -/
theorem Rel.behind {fx : List (Nat × Addr)} (R0 : Rel G S H ρ σ) (RA : Rel ⟨k, H, S, [], fx⟩ S1 H1 ρh σh) (R1 : Rel G S1 H1 ρ σ) (Rn : Rel (G.nest S1 H1 ρ σ) S2 H2 ρ' σ) (sS : Same S1 S2) (hk : G.k = k) :
    Rel ⟨k, H2, S2, ownL ρh σh, fx⟩ S2 H2 ρh σh ∧ ∀ p ∈ ownL ρh σh, NT G.H0 p.2 ∧ NotOwn ρ' σ p.2 := by
  have key : ∀ (i : Nat) (q : PV) (b : Addr) (us : List V), ρh[i]? = some (.own q) → σh[i]? = some (some (V.ref b)) → H1 b = some (.lst us) → S1 b = none → H2 b = some (.lst us) ∧ S2 b = none ∧ NotOwn ρ' σ b ∧ NT G.H0 b := by
    intro i q b us e1 e2 e3 e4
    have nb : NT H b := by
      rcases RA.new i q b e1 e2 with z | ⟨j, z⟩
      · exact z
      · cases z
    have no : NotOwn ρ σ b := R0.notOwnNT nb
    obtain ⟨t1, t2, t3⟩ := R1.through Rn e3 no noTb_lst e4
    exact ⟨t1, t2, t3, R0.freshNT nb⟩
  refine ⟨⟨Rn.sub, .refl _, fun a o e _ => ⟨o, e⟩, fun a o e _ _ => e, fun a o _ _ e => e, Rn.nt, by have := Rn.tabs; rw [show (G.nest S1 H1 ρ σ).k = k from hk] at this; exact this, RA.len, fun i s o e1 e2 => ?_, fun i p a h1 h2 => .inr ⟨i, mem_ownL.mpr ⟨⟨p, h1⟩, h2⟩⟩, RA.dis, fun p hp => ?_, RA.fix⟩, fun p hp => ?_⟩
  · have z := RA.slot i s o e1 e2
    cases s with
    | unb => trivial
    | val w => obtain ⟨v, f1, f2⟩ := z; exact ⟨v, f1, f2.mono sS⟩
    | own w =>
      obtain ⟨b, qs, ws, f1, f2, f3, f4, f5⟩ := z
      subst f1
      obtain ⟨t1, t2, _⟩ := key i w b ws e1 e2 f4 f3
      exact ⟨b, qs, ws, rfl, f2, t2, t1, f5.mono sS⟩
  · obtain ⟨⟨q, h1⟩, h2⟩ := mem_ownL.mp (show (p.1, p.2) ∈ ownL ρh σh from hp)
    exact ⟨h2, q, h1⟩
  · obtain ⟨⟨q, h1⟩, h2⟩ := mem_ownL.mp (show (p.1, p.2) ∈ ownL ρh σh from hp)
    obtain ⟨b, ps, us, e1, e2, e3, e4, e5⟩ := RA.own h1
    rw [h2] at e1
    cases e1
    obtain ⟨_, _, t3, t4⟩ := key p.1 q p.2 us h1 h2 e4 e3
    exact ⟨t4, t3⟩
/-- the maker's state behind what the helper did beyond -/
theorem Rel.callX {io fx : List (Nat × Addr)} (R : Rel G S2 H2 ρ' σ) (RB : Rel ⟨k, H2, S2, io, fx⟩ S3 H3 ρ3 σ3) (hio : ∀ p ∈ io, NT G.H0 p.2 ∧ NotOwn ρ' σ p.2) (hk : G.k = k) : Rel G S3 H3 ρ' σ where
  sub := RB.sub
  s0 := R.s0.trans RB.s0
  al := fun a o e eN => let ⟨o', e', eN'⟩ := R.known e eN; RB.al a o' e' eN'
  fr := fun a o e e1 e2 => RB.fr a o (R.fr a o e e1 e2) (fun p hp z => (hio p hp).1 o (by rw [z]; exact e) e2) e2
  nf := fun a o e eN e1 => let ⟨o', e', eN'⟩ := R.known e eN; RB.nf a o' e' eN' (R.nf a o e eN e1)
  nt := RB.nt
  tabs := by have := RB.tabs; rw [hk]; exact this
  len := R.len
  slot := fun i s o e1 e2 => by
    have q := R.slot i s o e1 e2
    cases s with
    | unb => trivial
    | val w => obtain ⟨v, f1, f2⟩ := q; exact ⟨v, f1, f2.mono RB.s0⟩
    | own w =>
      obtain ⟨b, qs, ws, f1, f2, f3, f4, f5⟩ := q
      subst f1
      exact ⟨b, qs, ws, rfl, f2, RB.nf b _ f4 noTb_lst f3, RB.fr b _ f4 (fun p hp z => (hio p hp).2 i w e1 (by rw [e2, z])) noTb_lst, f5.mono RB.s0⟩
  new := R.new
  dis := R.dis
  pin := R.pin
  fix := R.fix
/-- one slot more holds one object -/
theorem Rel.fixed {k : Kx} {H0 S0 : Hp} {io fx : List (Nat × Addr)} {i : Nat} {a : Addr} (R : Rel ⟨k, H0, S0, io, fx⟩ S H ρ σ) (h : σ[i]? = some (some (V.ref a))) : Rel ⟨k, H0, S0, io, (i, a) :: fx⟩ S H ρ σ :=
  ⟨R.sub, R.s0, R.al, R.fr, R.nf, R.nt, R.tabs, R.len, R.slot, R.new, R.dis, R.pin, fun p hp => by
    rcases List.mem_cons.mp hp with e | e
    · rw [e]; exact h
    · exact R.fix p e⟩
theorem Rel.unfixed {k : Kx} {H0 S0 : Hp} {io fx : List (Nat × Addr)} {p : Nat × Addr} (R : Rel ⟨k, H0, S0, io, p :: fx⟩ S H ρ σ) : Rel ⟨k, H0, S0, io, fx⟩ S H ρ σ :=
  ⟨R.sub, R.s0, R.al, R.fr, R.nf, R.nt, R.tabs, R.len, R.slot, R.new, R.dis, R.pin, fun p hp => R.fix p (List.mem_cons_of_mem _ hp)⟩
end
/-- from what the maker wishes to what the helper's rest must meet -/
theorem fin_post {G GB : Gam} {W : WX} {S S2 : Hp} {ρ' : Env} {σ : L2.St} {k : Kx} {o : Out Flow} {Q : VK} {nx : L2.St → Hp → Prop} (hk : GB.k = k) (s : Same S S2) (up : ∀ S3 H3 ρ3 σ3, Same S2 S3 → Rel GB S3 H3 ρ3 σ3 → Rel G S3 H3 ρ' σ) (hnx : ∀ σ' H', Q .non H' → nx σ' H')
    (P : Post G W σ (RE k) (hfin (outF o) ρ') S Q) : PostS GB W0 o S2 { nx := nx, rt := Q } := by
  subst hk
  cases o with
  | ok f ρ3 =>
    cases f with
    | next => exact fun σ3 S3 H3 e R => hnx σ3 H3 (P .non S3 H3 (s.trans e) (up S3 H3 ρ3 σ3 e R) rep_non)
    | ret p => exact fun v σ3 S3 H3 e R r => P v S3 H3 (s.trans e) (up S3 H3 ρ3 σ3 e R) r
    | own p => exact P.elim
    | brk => exact P.elim
    | cont => exact P.elim
  | exc x ρ3 => exact P.elim
  | stuck => exact P.elim
end PF

set_option Elab.async false
set_option linter.all false
set_option maxRecDepth 100000
namespace PF
open PySem PySem.Spec PyProof.Rows L2 LamX
def wrS (ρ1 : Env) (i : Nat) : Nat → Bool := fun j => j != 0 && j != i && !(ownS ρ1).contains j
def wrP (ρ1 : Env) : Nat → Bool := fun j => j != 0 && !(ownS ρ1).contains j
/-- the helper's context -/
abbrev Xhl (X : Cx) (Ng : List Str) (x : Str) (sg : Scope) (g : Addr) (cdg : Value) (s : Shared) (H : Hp) : Cx := (cxOf C8.CX0 X.prog X.w X.K X.mg X.base Ng x sg g cdg X.A X.stack s H C8.E0).nox
/-- the suite's reading -/
def LSu (M : Mo) (as : List (Str × Addr)) (ρ1 : Env) (i : Nat) (ds : Exc → C) (a : Addr) (cls : Value) (d : Option Addr) : TS := fun D σ H =>
  ∃ (G' : Gam) (x : Exc) (Dx : Addr), G'.k = M.k ∧ (∀ p ∈ G'.ix, wrS ρ1 i p.1 = false) ∧ (i, a) ∈ G'.fx ∧ (x.cls, Dx) ∈ as ∧ cls = .ref Dx ∧ (x.fields = [] → d = none) ∧ LS G' W0 (ds x) D σ H
def LSp (M : Mo) (ρ1 : Env) (dp : C) : TS := fun D σ H => ∃ G' : Gam, G'.k = M.k ∧ (∀ p ∈ G'.ix, wrP ρ1 p.1 = false) ∧ LS G' W0 dp D σ H
/-- the state at the try -/
def callS (isRet : Bool) (a : Str) (p1 p2 p3 : Pos) : Stmt := match isRet with
  | true => .Return (some (.Call (.Name a p1) [] [] p2)) p3
  | false => .Expr (.Call (.Name a p1) [] [] p2) p3
theorem mem_tbl {tbl : Tbl} {c d : Str} (h : isSub tbl c d = true) : c ∈ tbl.map (·.1) := by
  unfold isSub at h
  cases q : tbl.lookup c with
  | none => rw [q] at h; cases h
  | some l => exact List.mem_map.mpr ⟨(c, l), PySem.mem_of_lookup q, rfl⟩
section
variable {X : Cx} {M : Mo} {Ng : List Str} {x a q cat en : Str} {sg : Scope} {g Dc : Addr} {cdg : Value} {tbl : Tbl} {as : List (Str × Addr)} {ρ1 : Env} {isRet : Bool} {i : Nat} {ds : Exc → C} {dp : C} {b₀ : Stmt} {suite post : List Stmt} {p1 p2 p3 np pos' pos : Pos}
theorem try_core (eP : X.prog = M.P) (eW : X.w = M.w) (eK : X.K = M.K) (eM : X.mg = M.mg) (eB : X.base = M.base) (hr : Room 1 X.A) (nd : Ng.Nodup) (Z : ExT M tbl as) (hcat : (cat, Dc) ∈ as) (hgc : sg.names.lookup cat = some .globalImplicit) (hdc : (cat == ("__debug__" : Str)) = false)
    (hi : Ng[i]? = some en) (hln : sg.names.lookup en = some .local) (hi0 : i ≠ 0) (hu : ρ1[i]? = some .unb)
    (suiteOk : ∀ (X' : Cx) (G' : Gam) (x : Exc), Bd X' M Ng sg (wrS ρ1 i) 0 G' W0 → (∀ y, X'.fn y = true) → ExAt X' G' M as i x → BsOk X' G' W0 (b₀ :: suite) (ds x))
    (postOk : ∀ (X' : Cx) (G' : Gam), Bd X' M Ng sg (wrP ρ1) 0 G' W0 → Bx X' → BsOk X' G' W0 post dp)
    {f c' : Addr} {s : Shared} {H : Hp} {Q : VK} {tl : ThK}
    (act : ∀ (W : WX) (pn : List (Addr × Obj)) (xe : Value → Shared → Prop) (p1 p2 : Pos), Takes ((cxOf C8.CX0 X.prog X.w X.K X.mg X.base Ng x sg g cdg X.A X.stack s H C8.E0).tr pn xe) W →
      PE ((cxOf C8.CX0 X.prog X.w X.K X.mg X.base Ng x sg g cdg X.A X.stack s H C8.E0).tr pn xe) (.Call (.Name a p1) [] [] p2) (fun σZ HZ Q => σZ[0]? = some (some (.ref f)) ∧ HZ c' = some (CodeO c' q) ∧ tl (WE W σZ) HZ Q))
    (hc : H c' = some (CodeO c' q)) {Gc : Gam} {S : Hp} {ρ : Env} {σ : L2.St} {W : WX} {d : E} (hk : Gc.k = M.k) (R : Rel Gc S H ρ σ) (htl : ∀ E H' Q', LXe M.k d E σ H' Q' → tl E H' Q')
    (P : Post Gc W σ (RE M.k) (dLam (hRun ρ1 isRet tbl cat i ds dp) d ρ) S Q) :
    ∃ t, PSs (cxOf C8.CX0 X.prog X.w X.K X.mg X.base Ng x sg g cdg X.A X.stack s H C8.E0).nox (.Try [callS isRet a p1 p2 p3] [.ExceptHandler (some (.Name cat np)) (some en) (b₀ :: suite) pos'] [] [] pos :: post) t ∧
      ∀ (σh : L2.St) (S1 H1 : Hp), Rel ⟨M.k, H, S, [], [(0, f)]⟩ S1 H1 ρ1 σh → t { nx := fun _ H' => Q .non H', rt := Q } σh H1 := by
  have hgl : Gl (cxOf C8.CX0 X.prog X.w X.K X.mg X.base Ng x sg g cdg X.A X.stack s H C8.E0).nox cat := hgc
  have hdeep := hr.deeper (envOfC x sg s.heap.objs.size g cdg)
  refine ⟨_, pss_cons (ps_try_as (X := (cxOf C8.CX0 X.prog X.w X.K X.mg X.base Ng x sg g cdg X.A X.stack s H C8.E0).nox) (c := .ref Dc) (i := i) (n := en)
      (tb := fun W D σ H => σ[0]? = some (some (.ref f)) ∧ H c' = some (CodeO c' q) ∧ tl (WE W σ) H (match isRet with | true => D.rt | false => fun _ H' => D.nx σ H'))
      (ts := LSu M as ρ1 i ds) (Wout := W0) rfl rfl nd hi hln ⟨hgl, hdc, .inl (show X.mg cat = _ by rw [eM]; exact Z.mg _ hcat)⟩ L2.takes0 (fun W pn xe tk _ => ?_) (fun a' oe cls d' pn hz hf => ?_))
      (show PSs _ post (LSp M ρ1 dp) from ?_), ?_⟩
  · -- the try's body
    have hp := act W pn xe p1 p2 tk
    cases isRet with
    | true => exact pss_one (ps_ret (pos := p3) hp)
    | false => exact pss_one (ps_expr (pos := p3) hp)
  · -- the suite
    refine ⟨fun pins s' σ' H' D I ⟨G', y, Dx, e1, e2, e3, e4, e5, e6, h⟩ => ?_⟩
    subst e5
    refine (suiteOk ((Xhl X Ng x sg g cdg s H).suite a' ((a', oe) :: pn)) G' y ⟨eP, eW, eK, eM, eB, rfl, rfl, e1, fun u s' ⟨_, _, _, _, _, _, _, _, _, _, _, _, _, _, _, _, z⟩ => z.elim, e2, (show _ from un65 hdeep : (X.A.deeper (envOfC x sg s.heap.objs.size g cdg)).units + 65 < cLine), fun z => absurd (show false = true from z) Bool.false_ne_true, nd⟩ (fun _ => rfl) ⟨Xhl X Ng x sg g cdg s H, a', oe, pn, Dx, d', rfl, e3, e4, hz, hf, e6⟩).run pins s' σ' H' D I h
  · refine ⟨fun pins s' σ' H' D I ⟨G', e1, e2, h⟩ => ?_⟩
    refine (postOk (Xhl X Ng x sg g cdg s H) G' ⟨eP, eW, eK, eM, eB, rfl, rfl, e1, fun u s' ⟨_, _, _, _, _, _, _, _, _, _, _, _, _, _, _, _, z⟩ => z.elim, e2, un65 hdeep, fun _ => hdeep, nd⟩ ⟨fun _ => rfl, rfl, PassesOwn.never, rfl, rfl⟩).run pins s' σ' H' D I h
  · intro σh S1 H1 RA
    have hEnd : EndR M.k S H S1 H1 [] [] := EndR.of RA rfl
    have R1 : Rel Gc S1 H1 ρ σ := R.call0 (by rw [hk]; exact hEnd)
    have i0 : ∀ p ∈ (⟨M.k, H, S, ([] : List (Nat × Addr)), [(0, f)]⟩ : Gam).ix, p.1 ≠ i := fun p hp z => hi0 (by
      have e : p = (0, f) := by simpa [Gam.ix] using hp
      rw [← z, e])
    refine ⟨RA.fix (0, f) (by simp), RA.fr c' _ hc (by simp) codeO_ne, htl _ _ _ ⟨Gc.nest S1 H1 ρ σ, hk, S1, ρ, R1.nest, ?_⟩⟩
    -- the lambda's end
    have wB : ∀ {fx : List (Nat × Addr)}, (∀ p ∈ fx, wrP ρ1 p.1 = false) → ∀ {H2 S2 : Hp}, ∀ p ∈ (⟨M.k, H2, S2, ownL ρ1 σh, fx⟩ : Gam).ix, wrP ρ1 p.1 = false := fun {fx} hf {H2 S2} p hp => by
      rcases List.mem_append.mp hp with hp | hp
      · obtain ⟨⟨w, h1⟩, _⟩ := mem_ownL.mp (show (p.1, p.2) ∈ ownL ρ1 σh from hp)
        unfold wrP
        have := mem_ownS h1
        simp [this]
      · exact hf p hp
    unfold dLam at P
    cases hd : d ρ with
    | stuck => rw [hd] at P; exact P.elim
    | ok p ρ' =>
      rw [hd] at P
      have P : Post Gc W σ (RE M.k) (hfin (outF (hOut ρ1 isRet tbl cat i ds dp (.val p))) ρ') S Q := P
      intro v S2 H2 s2 Rn rv
      have R2 := R1.unnest Rn
      obtain ⟨RB, hio⟩ := R.behind RA R1 Rn s2 hk
      have rv : Rep M.k S2 p v := by rw [← hk]; exact rv
      cases isRet with
      | true => exact P v S2 H2 (hEnd.sS.trans s2) R2 rv
      | false => exact ⟨_, rfl, wB (fun p hp => by have e : p = (0, f) := by simpa using hp
                                                   rw [e]; rfl), S2, ρ1, RB, fin_post rfl (hEnd.sS.trans s2) (fun S3 H3 ρ3 σ3 e R3 => R2.callX R3 hio hk) (fun _ _ h => h) P⟩
    | exc y ρ' =>
      rw [hd] at P
      have P : Post Gc W σ (RE M.k) (hfin (outF (hOut ρ1 isRet tbl cat i ds dp (.exc y))) ρ') S Q := P
      intro cls d' S2 H2 s2 Rn hx
      have R2 := R1.unnest Rn
      obtain ⟨RB, hio⟩ := R.behind RA R1 Rn s2 hk
      cases hsub : isSub tbl y.cls cat with
      | false =>
        unfold hOut at P
        simp only [hsub] at P
        exact P.elim
      | true =>
        unfold hOut at P
        simp only [hsub] at P
        -- the class
        have hy : y.cls ∈ as.map (·.1) := by rw [Z.names]; exact mem_tbl hsub
        obtain ⟨⟨yn, Dx⟩, hmem, ecls⟩ := List.mem_map.mp hy
        have ecls : yn = y.cls := ecls
        obtain ⟨hx1, hx2⟩ := hx
        have hx1 : M.mg y.cls = some cls := by
          have : (Gc.nest S1 H1 ρ σ).k.mg = M.mg := by
            show Gc.k.mg = _
            rw [hk]; rfl
          rw [← this]; exact hx1
        have ecl : cls = .ref Dx := by
          have : M.mg yn = some (.ref Dx) := Z.mg _ hmem
          rw [ecls, hx1] at this
          exact Option.some.inj this
        subst ecl
        refine ⟨true, ?_, fun _ a' ha' => ?_, fun z => by cases z⟩
        · show PySem.W.exmOne X.K _ _ = _
          rw [eK, Z.exm _ hmem _ hcat]
          show some (isSub tbl yn cat) = _
          rw [ecls, hsub]
        · have RC : Rel ⟨M.k, H2, S2, ownL ρ1 σh, [(0, f)]⟩ S2 H2 ρ1 (σh.set i (some (.ref a'))) := by
            have z := RB.unbind i (some (.ref a')) (fun p hp z => ?_)
            · have e : ρ1.set i .unb = ρ1 := by
                apply List.ext_getElem?
                intro j
                by_cases ej : j = i
                · subst ej
                  rw [List.getElem?_set_self (List.getElem?_eq_some_iff.mp hu).1, hu]
                · rw [List.getElem?_set_ne (Ne.symm ej)]
              rw [e] at z
              exact z
            · rcases List.mem_append.mp hp with hp | hp
              · obtain ⟨⟨w, h1⟩, _⟩ := mem_ownL.mp (show (p.1, p.2) ∈ ownL ρ1 σh from hp)
                rw [z, hu] at h1
                cases h1
              · have e : p = (0, f) := by simpa using hp
                exact hi0 (by rw [← z, e])
          have RD := RC.fixed (i := i) (a := a') (by
            have : i < σh.length := by rw [← RA.len]; exact (List.getElem?_eq_some_iff.mp hu).1
            rw [List.getElem?_set_self this])
          refine ⟨⟨M.k, H2, S2, ownL ρ1 σh, [(i, a'), (0, f)]⟩, y, Dx, rfl, fun p hp => ?_, by simp, by rw [← ecls]; exact hmem, rfl, fun z => by rw [z] at hx2; exact hx2, S2, ρ1, RD, ?_⟩
          · have := wB (fx := [(0, f)]) (fun p hp => by have e : p = (0, f) := by simpa using hp
                                                        rw [e]; rfl) (H2 := H2) (S2 := S2) p
            rcases List.mem_append.mp hp with hp | hp
            · have := this (List.mem_append_left _ hp)
              unfold wrS
              unfold wrP at this
              rw [Bool.and_assoc, Bool.and_comm (p.1 != i), ← Bool.and_assoc, this]
              rfl
            · simp only [List.mem_cons, List.not_mem_nil, or_false] at hp
              rcases hp with e | e
              · rw [e]; simp [wrS]
              · rw [e]; rfl
          · -- the suite, then the rest
            have upP : ∀ S3 H3 ρ3 σ3, Same S2 S3 → Rel ⟨M.k, H2, S2, ownL ρ1 σh, [(0, f)]⟩ S3 H3 ρ3 σ3 → Rel Gc S3 H3 ρ' σ := fun S3 H3 ρ3 σ3 e R3 => R2.callX R3 hio hk
            cases hs : ds y ρ1 with
            | stuck => rw [hs] at P; exact P.elim
            | exc z ρ3 => rw [hs] at P; exact P.elim
            | ok fl ρ3 =>
              rw [hs] at P
              cases fl with
              | brk => exact P.elim
              | cont => exact P.elim
              | own qs => exact P.elim
              | ret w => exact fun v σ3 S3 H3 e R3 r => P v S3 H3 (hEnd.sS.trans (s2.trans e)) (upP _ _ _ _ e R3.unfixed) r
              | next =>
                intro σ3 S3 H3 e R3
                have R4 : Rel ⟨M.k, H2, S2, ownL ρ1 σh, [(0, f)]⟩ S3 H3 (ρ3.set i .unb) (σ3.set i none) := R3.unfixed.unbind i none fun p hp z => by
                  rcases List.mem_append.mp hp with hp | hp
                  · obtain ⟨⟨w, h1⟩, _⟩ := mem_ownL.mp (show (p.1, p.2) ∈ ownL ρ1 σh from hp)
                    rw [z, hu] at h1
                    cases h1
                  · have e : p = (0, f) := by simpa using hp
                    exact hi0 (by rw [← z, e])
                exact ⟨_, rfl, wB (fun p hp => by have e : p = (0, f) := by simpa using hp
                                                  rw [e]; rfl), S3, _, R4, fin_post rfl (hEnd.sS.trans (s2.trans e)) (fun S4 H4 ρ4 σ4 e4 R5 => R2.callX R5 hio hk) (fun _ _ h => h) P⟩
end
end PF

set_option Elab.async false
set_option linter.all false
set_option maxRecDepth 100000
namespace PF
open PySem PySem.Spec PyProof.Rows L2 LamX
/-- what the making of a lambda needs -/
structure Lb (X : Cx) (M : Mo) (c P : Addr) (q : Str) : Prop where
  eQ : X.env.qual ++ "<lambda>" = q
  code : X.env.code = .ref c
  tab : TabB X.base X.mg c P
  mem : (P, q) ∈ M.T
  un : ∀ p ∈ M.T, p.1 = P → p.2 = q
theorem Lb.blk {X : Cx} {M : Mo} {c P : Addr} {q : Str} (L : Lb X M c P q) {s : Shared} {H : Hp} {scope : Scope} {Cc : Addr} {cl : List (Str × Addr)} {fp : List Addr} : Lb (X.blk s H scope (compEnvC scope cl Cc X.env) fp) M c P q := ⟨L.eQ, L.code, L.tab, L.mem, L.un⟩
/-- from a def's text -/
theorem Bq.lb {X : Cx} {M : Mo} {q : Str} {f c P : Addr} {G : Gam} {W : WX} {N : List Str} {sc : Scope} {wr : Nat → Bool} {j : Nat} (Y : Bq X M q f) (B : Bd X M N sc wr j G W) {oc : Value} {od an : Option Addr} {dV kV doc pm ct : Value} {osl : Array (Option Value)} {name qu : Str} {args : Arguments} {body : List Stmt} {sc' : Scope}
    (lk : M.K.lookup f = some ⟨oc, od, .func (PySem.W.fnOf name qu args body sc' dV kV doc pm an (.ref c) ct), osl⟩) (tab : TabB M.base M.mg c P) (mem : (P, q ++ ".<locals>." ++ "<lambda>") ∈ M.T) (un : ∀ p ∈ M.T, p.1 = P → p.2 = q ++ ".<locals>." ++ "<lambda>") : Lb X M c P (q ++ ".<locals>." ++ "<lambda>") := by
  obtain ⟨eQ, oc', od', dV', kV', doc', pm', an', ct', osl', name', qu', args', body', sc'', h⟩ := Y
  rw [lk] at h
  have hcode : X.env.code = .ref c := by
    have h := Option.some.inj h
    have h := congrArg Obj.data h
    have h : Data.func (PySem.W.fnOf name qu args body sc' dV kV doc pm an (.ref c) ct) = Data.func (PySem.W.fnOf name' qu' args' body' sc'' dV' kV' doc' pm' an' X.env.code ct') := h
    injection h with h
    unfold PySem.W.fnOf at h
    injection h <;> simp_all
  exact ⟨by rw [eQ], hcode, by rw [B.eB, B.eM]; exact tab, mem, un⟩
/-- the def x calls the lambda that it gets: hp: what it makes of the outcome -/
structure HlpM (M : Mo) (x : Str) (hp : TR → FOut) : Prop where
  ex : ∃ (g : Addr) (a : Str) (Ng : List Str) (pg : Arguments) (bg : List Stmt) (sg : Scope) (dV kV doc pm cdv ct oc : Value) (an od : Option Addr) (osl : Array (Option Value)),
    M.mg x = some (.ref g) ∧ PySem.W.keepIn M.K (.ref g) = true ∧ M.K.lookup g = some ⟨oc, od, .func (PySem.W.fnOf x x pg bg sg dV kV doc pm an cdv ct), osl⟩ ∧ PySem.W.codeIn M.K cdv x = true ∧ Binds M.K (PySem.W.fnOf x x pg bg sg dV kV doc pm an cdv ct) [a] [] ∧ FnScope Ng [a] sg ∧ Ng[0]? = some a ∧ Vis sg a ∧
    (a == ("__debug__" : Str)) = false ∧ (a == ("__classdict__" : Str)) = false ∧
    ∀ (X : Cx) (q : Str), X.prog = M.P → X.w = M.w → X.K = M.K → X.mg = M.mg → X.base = M.base → Room 1 X.A → Gives X Ng x sg g cdv bg a q (TTh M.k hp)
section
variable {M : Mo} {Ng : List Str} {x a cat en : Str} {g Dc : Addr} {tbl : Tbl} {as : List (Str × Addr)} {ρ1 : Env} {isRet : Bool} {i : Nat} {ds : Exc → C} {dp : C} {b₀ : Stmt} {suite post : List Stmt} {p1 p2 p3 np pos' pos : Pos} {st : Stmt} {fd : FuncData}
theorem hlp_ok0 (F : Fun M.K x x st g fd) (Sc : FnScope Ng [a] (defScope st)) (hm : M.mg x = some (.ref g)) (hb : Binds M.K fd [a] []) (h0 : Ng[0]? = some a) (hv : Vis (defScope st) a) (hd : (a == ("__debug__" : Str)) = false) (hcd : (a == ("__classdict__" : Str)) = false)
    (hbody : defBody st = .Try [callS isRet a p1 p2 p3] [.ExceptHandler (some (.Name cat np)) (some en) (b₀ :: suite) pos'] [] [] pos :: post) (Z : ExT M tbl as) (hcat : (cat, Dc) ∈ as) (hgc : (defScope st).names.lookup cat = some .globalImplicit) (hdc : (cat == ("__debug__" : Str)) = false)
    (hi : Ng[i]? = some en) (hln : (defScope st).names.lookup en = some .local) (hi0 : i ≠ 0) (hu : (initE Ng.length [])[i]? = some .unb)
    (suiteOk : ∀ (X' : Cx) (G' : Gam) (x : Exc), Bd X' M Ng (defScope st) (wrS (initE Ng.length []) i) 0 G' W0 → (∀ y, X'.fn y = true) → ExAt X' G' M as i x → BsOk X' G' W0 (b₀ :: suite) (ds x))
    (postOk : ∀ (X' : Cx) (G' : Gam), Bd X' M Ng (defScope st) (wrP (initE Ng.length [])) 0 G' W0 → Bx X' → BsOk X' G' W0 post dp) : HlpM M x (hRun (initE Ng.length []) isRet tbl cat i ds dp) := by
  obtain ⟨oc, od, kV, doc, pm, an, cdv, ct, osl, rfl, lk, hcode⟩ := F.ex
  refine ⟨g, a, Ng, _, _, _, _, _, _, _, _, _, _, _, _, _, hm, F.kp, lk, hcode, hb, Sc, h0, hv, hd, hcd, fun X q eP eW eK eM eB hr => ?_⟩
  intro f c' s H Q tl act hc ⟨Gc, S, ρ, σ, W, d, hk, R, htl, P⟩
  obtain ⟨t, ht, hq⟩ := try_core (p1 := p1) (p2 := p2) (p3 := p3) (np := np) (pos' := pos') (pos := pos) eP eW eK eM eB hr Sc.nd Z hcat hgc hdc hi hln hi0 hu suiteOk postOk act hc hk R htl P
  rw [hbody]
  exact ⟨t, ht, hq _ S H (Rel.initU R.sub R.nt (by have := R.tabs; rw [hk] at this; exact this) h0)⟩
theorem hlp_ok1 {s₀ : Stmt} {c₀ : C} (F : Fun M.K x x st g fd) (Sc : FnScope Ng [a] (defScope st)) (hm : M.mg x = some (.ref g)) (hb : Binds M.K fd [a] []) (h0 : Ng[0]? = some a) (hv : Vis (defScope st) a) (hd : (a == ("__debug__" : Str)) = false) (hcd : (a == ("__classdict__" : Str)) = false)
    (hbody : defBody st = s₀ :: .Try [callS isRet a p1 p2 p3] [.ExceptHandler (some (.Name cat np)) (some en) (b₀ :: suite) pos'] [] [] pos :: post) (Z : ExT M tbl as) (hcat : (cat, Dc) ∈ as) (hgc : (defScope st).names.lookup cat = some .globalImplicit) (hdc : (cat == ("__debug__" : Str)) = false)
    (hi : Ng[i]? = some en) (hln : (defScope st).names.lookup en = some .local) (hi0 : i ≠ 0) (hρ : c₀ (initE Ng.length []) = .ok .next ρ1) (hu : ρ1[i]? = some .unb)
    (preOk : ∀ (X' : Cx) (G' : Gam), Bd X' M Ng (defScope st) (fun j => j != 0) 0 G' W0 → Bx X' → SOk X' G' W0 s₀ c₀)
    (suiteOk : ∀ (X' : Cx) (G' : Gam) (x : Exc), Bd X' M Ng (defScope st) (wrS ρ1 i) 0 G' W0 → (∀ y, X'.fn y = true) → ExAt X' G' M as i x → BsOk X' G' W0 (b₀ :: suite) (ds x))
    (postOk : ∀ (X' : Cx) (G' : Gam), Bd X' M Ng (defScope st) (wrP ρ1) 0 G' W0 → Bx X' → BsOk X' G' W0 post dp) : HlpM M x (hRun ρ1 isRet tbl cat i ds dp) := by
  obtain ⟨oc, od, kV, doc, pm, an, cdv, ct, osl, rfl, lk, hcode⟩ := F.ex
  refine ⟨g, a, Ng, _, _, _, _, _, _, _, _, _, _, _, _, _, hm, F.kp, lk, hcode, hb, Sc, h0, hv, hd, hcd, fun X q eP eW eK eM eB hr => ?_⟩
  intro f c' s H Q tl act hc ⟨Gc, S, ρ, σ, W, d, hk, R, htl, P⟩
  obtain ⟨t, ht, hq⟩ := try_core (p1 := p1) (p2 := p2) (p3 := p3) (np := np) (pos' := pos') (pos := pos) eP eW eK eM eB hr Sc.nd Z hcat hgc hdc hi hln hi0 hu suiteOk postOk act hc hk R htl P
  rw [hbody]
  have hdeep := hr.deeper (envOfC x (defScope st) s.heap.objs.size g cdv)
  refine ⟨_, pss_cons (t := LS ⟨M.k, H, S, [], [(0, f)]⟩ W0 c₀) (preOk (Xhl X Ng x (defScope st) g cdv s H) _ ⟨eP, eW, eK, eM, eB, rfl, rfl, rfl, fun u s' ⟨_, _, _, _, _, _, _, _, _, _, _, _, _, _, _, _, z⟩ => z.elim, fun p hp => ?_, un65 hdeep, fun _ => hdeep, Sc.nd⟩ ⟨fun _ => rfl, rfl, PassesOwn.never, rfl, rfl⟩) ht, S, _, Rel.initU R.sub R.nt (by have := R.tabs; rw [hk] at this; exact this) h0, ?_⟩
  · have e : p = (0, f) := by simpa [Gam.ix] using hp
    rw [e]; rfl
  · rw [hρ]
    exact fun σ' S' H' e R' => hq σ' S' H' R'
end
/-- tables may grow -/
theorem Rel.extN {G : Gam} {S H H1 : Hp} {ρ : Env} {σ : L2.St} (R : Rel G S H ρ σ) (e : ExtN H H1) (t : Tabs G.k.T H1) : Rel G S H1 ρ σ where
  sub := fun a o h => e a o (R.sub a o h) (fun ps => R.nt a o h ps)
  s0 := R.s0
  al := fun a o h hN => by
    obtain ⟨o', h', hN'⟩ := R.known h hN
    exact ⟨o', e a o' h' hN'⟩
  fr := fun a o h1 h2 h3 => e a o (R.fr a o h1 h2 h3) h3
  nf := R.nf
  nt := R.nt
  tabs := t
  len := R.len
  slot := fun i s o h1 h2 => by
    have q := R.slot i s o h1 h2
    cases s with
    | unb => trivial
    | val w => exact q
    | own w =>
      obtain ⟨b, qs, ws, f1, f2, f3, f4, f5⟩ := q
      exact ⟨b, qs, ws, f1, f2, f3, e b _ f4 noTb_lst, f5⟩
  new := R.new
  dis := R.dis
  pin := R.pin
  fix := R.fix
section
variable {X : Cx} {M : Mo} {N : List Str} {sc : Scope} {wr : Nat → Bool} {j : Nat} {G : Gam} {W : WX}
theorem e_lam {x : Str} {hp : TR → FOut} {c P : Addr} {q : Str} {k : Nat} {params : Arguments} {body : Expr} {scope : Scope} {p lpos pos : Pos} {d : E} (B : Bd X M N sc wr j G W) (hc : X.calm = true) (L : Lb X M c P q) (h : HlpM M x hp) (hg : sc.names.lookup x = some .globalImplicit) (hls : lamSB sc scope = true)
    (hb : ∀ (X' : Cx) (G' : Gam) (W' : WX), Bd X' M N scope (fun _ => false) k G' W' → X'.calm = true → EOk X' G' W' body d) (hj : k + 2 ≤ j := by decide) (hdb : (x == ("__debug__" : Str)) = false := by decide) (hdef : defaultsOf params X.env = ([], []) := by rfl)
    (hbind : ∀ (q : Str) (cl : List (Str × Addr)) (pm cv ctv : Value), bindArgs (PySem.W.kla_fn "<lambda>" q params body scope cl pm cv ctv) ⟨[], []⟩ = pure [] := by intros; rfl) : EOk X G W (.Call (.Name x p) [.Lambda params body scope lpos] [] pos) (dLam hp d) := by
  obtain ⟨g, a, Ng, pg, bg, sg, dV, kV, doc, pm, cdv, ct, oc, an, od, osl, hm, hkp, lk, hcode, hbd, Sg, hN0, hva, hda, hcda, gives⟩ := h.ex
  refine pe_weak (pe_lamS (T := M.T) (TT := TTh M.k hp) (t := LXe M.k d) (B.gl hg) (B.glo hm) (by rw [B.eK]; exact hkp) (by rw [B.eK]; exact lk) (by rw [B.eK]; exact hcode) (by rw [B.eK]; exact hbd) Sg hN0 hva (gives X _ B.ePr B.eW B.eK B.eM B.eB ((B.room hc).mono (by omega))) L.tab L.code (by rw [L.eQ]; exact L.mem) (by rw [L.eQ]; exact L.un) ((B.room hc).mono hj)
    (by rw [B.eS]; exact lamS_by hls) hdef hbind (fun A outer s H E f c' hr => ?_) hdb hda hcda) fun σ H Q ⟨S, ρ, R, P'⟩ => ⟨?_, fun H1 eN T1 => ⟨G, S, ρ, σ, W, d, B.eG, R.extN eN (by rw [B.eG]; exact T1), fun E H' Q' h => h, ?_⟩⟩
  · refine ⟨fun pins s' σ' H' Q' I ⟨G', hk, h'⟩ => ?_⟩
    exact (hb (lamCx X A outer s H E scope f c') G' _ ⟨B.ePr, B.eW, B.eK, B.eM, B.eB, B.eN, rfl, hk, takes_of rfl rfl rfl rfl, fun _ _ => rfl, un65 hr, fun _ => hr, B.nd⟩ rfl).run pins s' σ' H' Q' I h'
  · have := R.tabs
    rw [B.eG] at this
    exact this
  · rw [← B.eG]
    exact P'
/-! ### isinstance of the exception that a suite holds -/
def dIsE (tbl : Tbl) (x : Exc) (c : Str) : E := fun ρ => match x.fields with
  | [] => .ok (.bl (isSub tbl x.cls c)) ρ
  | _ => .stuck
/-- isinstance(e, ValueError) -/
def dIsV (x : Exc) : E := fun ρ => match x.fields with
  | [] => .ok (.bl true) ρ
  | _ => .stuck
theorem e_isE {tbl : Tbl} {as : List (Str × Addr)} {i : Nat} {x : Exc} {en c : Str} {Dc : Addr} {p p2 p3 pos : Pos} (B : Bd X M N sc wr j G W) (Y : ExAt X G M as i x) (Z : ExT M tbl as) (hc : (c, Dc) ∈ as) (hN : N[i]? = some en) (hl : Vis sc en) (hg : sc.names.lookup c = some .globalImplicit)
    (hgi : sc.names.lookup ("isinstance" : Str) = some .globalImplicit) (hmi : M.mg "isinstance" = none) (hbi : bootBuiltins "isinstance" = some (.builtin "isinstance")) (hd1 : (en == ("__debug__" : Str)) = false) (hd2 : (en == ("__classdict__" : Str)) = false) (hd3 : (c == ("__debug__" : Str)) = false) :
    EOk X G W (.Call (.Name "isinstance" p) [.Name en p2, .Name c p3] [] pos) (dIsE tbl x c) := by
  obtain ⟨X0, a, oe, pn, D, d, eX, hfx, hmem, hz, hf, hd⟩ := Y
  refine ⟨fun pins s σ H Q I ⟨S, ρ, R, P⟩ => ?_⟩
  unfold dIsE at P
  cases e : x.fields with
  | cons y ys => rw [e] at P; exact P.elim
  | nil =>
    rw [e] at P
    have hd := hd e
    subst hd
    have hcall : CallR X (.builtin "isinstance") (rIsE X.K D a) := by
      have ec : ExcC X.K D := by rw [B.eK]; exact (Z.k _ hmem).ec
      subst eX
      exact call_isE ec hz hf
    refine (pe_callB hcall (B.gl hgi) (B.non hmi) hbi (pa_cons (B.pv i hN hl hd1 hd2) (pa_cons (pe_glob (v := .ref Dc) (B.gl hg) (B.glo (Z.mg _ hc)) rfl hd3) pa_nil)) (by decide) (by decide) rfl rfl).run pins s σ H Q I ?_
    refine ⟨.ref a, R.fix _ hfx, .ref Dc, .ref Dc, isSub tbl x.cls c, rfl, fun u hu => hu, ?_, P (.bl _) S H (.refl _) R (rep_bl _)⟩
    rw [B.eK]
    exact Z.kit _ hmem _ hc
theorem e_isV {tbl : Tbl} {as : List (Str × Addr)} {i : Nat} {x : Exc} {en : Str} {p p2 p3 pos : Pos} (B : Bd X M N sc wr j G W) (Y : ExAt X G M as i x) (Z : ExT M tbl as) (hN : N[i]? = some en) (hl : Vis sc en) (hg : sc.names.lookup ("ValueError" : Str) = some .globalImplicit) (hm : M.mg "ValueError" = none) (hbv : bootBuiltins "ValueError" = some (.type "ValueError"))
    (hgi : sc.names.lookup ("isinstance" : Str) = some .globalImplicit) (hmi : M.mg "isinstance" = none) (hbi : bootBuiltins "isinstance" = some (.builtin "isinstance")) (hd1 : (en == ("__debug__" : Str)) = false) (hd2 : (en == ("__classdict__" : Str)) = false) :
    EOk X G W (.Call (.Name "isinstance" p) [.Name en p2, .Name "ValueError" p3] [] pos) (dIsV x) := by
  obtain ⟨X0, a, oe, pn, D, d, eX, hfx, hmem, hz, hf, hd⟩ := Y
  refine ⟨fun pins s σ H Q I ⟨S, ρ, R, P⟩ => ?_⟩
  unfold dIsV at P
  cases e : x.fields with
  | cons y ys => rw [e] at P; exact P.elim
  | nil =>
    rw [e] at P
    have hd := hd e
    subst hd
    have hcall : CallR X (.builtin "isinstance") (rIsE X.K D a) := by
      have ec : ExcC X.K D := by rw [B.eK]; exact (Z.k _ hmem).ec
      subst eX
      exact call_isE ec hz hf
    refine (pe_callB hcall (B.gl hgi) (B.non hmi) hbi (pa_cons (B.pv i hN hl hd1 hd2) (pa_cons (pe_bltn (v := .ty "ValueError") (B.gl hg) (B.non hm) hbv rfl) pa_nil)) (by decide) (by decide) rfl rfl).run pins s σ H Q I ?_
    refine ⟨.ref a, R.fix _ hfx, .ty "ValueError", .type "ValueError", true, rfl, fun u hu => hu, ?_, P (.bl _) S H (.refl _) R (rep_bl _)⟩
    rw [B.eK]
    exact (Z.k _ hmem).ve
end
end PF

set_option Elab.async false
set_option linter.all false
set_option maxRecDepth 100000
namespace PF
open PySem PySem.Spec PyProof.Rows L2

/-! ## Methods of lists that read -/
def isLst : PV → Bool
  | .lst _ => true
  | _ => false
/-- x.m(e), x a list -/
def dLM (i : Nat) (b : E) (f : PV → PV → Option PV) : E := fun ρ => (dB i ρ).bind fun q _ => match isLst q with
  | true => (b ρ).bind fun y ρ2 => (dB i ρ2).bind fun x ρ3 => ofO (f x y) ρ3
  | false => .stuck
def OpM (f : PV → PV → Option PV) (r : PySem.W.Frag → V → List V → Hp → VK → Prop) : Prop := ∀ (k : Kx) (S H : Hp) (p q z : PV) (x y : V) (Q : VK), Same S H → RepB k S H p x → RepB k S H q y → f p q = some z → (∀ v S' H', Grow S H S' H' → Rep k S' z v → Q v H') → r k.K x [y] H Q
def pCount : PV → PV → Option PV
  | .lst xs, q => if deps xs ≤ 59 ∧ dep q ≤ 60 then some (.int (xs.countP fun z => eqv z q : Nat)) else none
  | _, _ => none
def pIndex : PV → PV → Option PV
  | .lst xs, q => if deps xs ≤ 59 ∧ dep q ≤ 60 then (xs.findIdx? fun z => eqv z q).map fun j => .int (j : Nat) else none
  | _, _ => none
def rCountD (K : PySem.W.Frag) : V → List V → Hp → VK → Prop := fun x xs H Q => ∃ (a : Addr) (y : V) (d : PyData) (ds : List PyData), x = V.ref a ∧ xs = [y] ∧ Dp K H (V.ref a) (.list ds) ∧ Dp K H y d ∧ SeqAt.shaped (.list ds) = true ∧ SeqAt.shaped d = true ∧ Q (.int (ds.countP fun z => PyData.eqv z d : Nat)) H
section
variable {X : Cx}
theorem mt_countD (hu : X.A.units + 65 < cLine) : MtR X "list.count" (rCountD X.K) := by
  intro pins s σ H x xs v us Q I rx rxs h
  obtain ⟨a, y, d, ds, rfl, rfl, hl, hy, sl, sd, q⟩ := h
  cases rx
  cases rxs with
  | cons ry rt =>
    rename_i uy ut
    cases rt
    obtain ⟨bs, r1⟩ := Dp.reads I d y uy hy ry
    have hxs : PyData.canLayAll0 ds = true := SeqAt.canLay_of_shaped sl
    have hroom : X.A.units + 1 + min (PyData.depthAll ds) d.depth < cLine := room_in1 sd hu
    cases hl with
    | lst hs ha =>
      obtain ⟨its, rv, ⟨⟨cls, dd, data, sls⟩, n, ho, hc, hdn, hdt⟩, hlen⟩ := I.list hs
      simp only at hc hdt
      subst hc hdt
      obtain ⟨as, h4⟩ := Dp.readsAll I ds _ its ha rv
      have hmap : its.map (SeqAt.readOf s.heap) = ds := SeqAt.readsAll_map ds its as hxs h4
      have ec : its.toArray.toList.countP (fun u => PyData.eqv (SeqAt.readOf s.heap u) d) = ds.countP fun z => PyData.eqv z d := by
        rw [← hmap, List.countP_map]
        rfl
      refine call_meets PySem.F.slot_list_count ⟨_, ho, rfl⟩ PySem.F.entry_list_count (PySem.F.args_list_count_2 _ _)
        (SeqAt.list_countAt a its.toArray n dd sls uy (fun u => PyData.eqv (SeqAt.readOf s.heap u) d)) ⟨ho, SeqAt.items_eqAt (vs := its.toArray) (show ReadsAll s.heap its.toArray.toList ds as from h4) r1 hxs (SeqAt.canLay_of_shaped sd) hroom, ?_⟩
      rw [ec]
      exact ⟨.int (ds.countP fun z => PyData.eqv z d : Nat), H, I.tok _, ⟨_, rfl⟩, q⟩
end
theorem dpL_of {k : Kx} {S H : Hp} (e : Same S H) {ps : List PV} {x : V} (hd : deps ps ≤ 59) (h : RepB k S H (.lst ps) x) : ∃ a, x = .ref a ∧ Dp k.K H (.ref a) (.list (toDs ps)) := by
  have := dpB_of e (p := .lst ps) (by simp only [dep]; omega) h
  obtain ⟨a, us, rfl, _⟩ := repB_lst e h
  exact ⟨a, rfl, by simpa only [toD] using this⟩
theorem countP_toDs : ∀ (qs : List PV) (p : PV), dep p < 100 → deps qs < 100 → ((toDs qs).countP fun z => PyData.eqv z (toD p)) = qs.countP fun z => eqv z p
  | [], _, _, _ => rfl
  | q :: qs, p, hp, hq => by
    simp only [deps] at hq
    rw [toDs, List.countP_cons, List.countP_cons, countP_toDs qs p hp (by omega), eqv_toD q p (by omega) hp]
theorem toDs_get : ∀ (qs : List PV) (j : Nat), (toDs qs)[j]? = (qs[j]?).map toD
  | [], j => by simp [toDs]
  | q :: qs, 0 => by simp [toDs]
  | q :: qs, j + 1 => by simp [toDs, toDs_get qs j]
theorem om_count : OpM pCount rCountD := by
  intro k S H p q z x y Q e rx ry h k1
  cases p <;> simp only [pCount] at h <;> try cases h
  rename_i ps
  split at h
  · rename_i hd
    cases h
    obtain ⟨a, rfl, hl⟩ := dpL_of e hd.1 rx
    refine ⟨a, y, toD q, toDs ps, rfl, rfl, hl, dpB_of e (by omega) ry, shaped_toDs hd.1, shaped_toD hd.2, ?_⟩
    rw [countP_toDs ps q (by omega) (by omega)]
    exact k1 _ S H (.refl e) (rep_int _)
  · cases h
theorem om_index : OpM pIndex rIndexD := by
  intro k S H p q z x y Q e rx ry h k1
  cases p <;> simp only [pIndex] at h <;> try cases h
  rename_i ps
  split at h
  · rename_i hd
    cases hj : ps.findIdx? fun z => eqv z q with
    | none => rw [hj] at h; cases h
    | some j =>
      rw [hj] at h
      cases h
      obtain ⟨a, rfl, hl⟩ := dpL_of e hd.1 rx
      obtain ⟨h1, h2, h3⟩ := List.findIdx?_eq_some_iff_getElem.mp hj
      refine ⟨a, y, toD q, toDs ps, j, toD ps[j], rfl, rfl, hl, dpB_of e (by omega) ry, shaped_toDs hd.1, shaped_toD hd.2, ?_, ?_, fun m z' hm hz => ?_, k1 _ S H (.refl e) (rep_int _)⟩
      · rw [toDs_get, List.getElem?_eq_getElem h1]; rfl
      · have := deps_get (ps := ps) (List.getElem_mem h1)
        rw [eqv_toD _ _ (by omega) (by omega)]; exact h2
      · have hmp : m < ps.length := by omega
        rw [toDs_get, List.getElem?_eq_getElem hmp] at hz
        cases hz
        have := deps_get (ps := ps) (List.getElem_mem hmp)
        rw [eqv_toD _ _ (by omega) (by omega)]
        simpa using h3 m hm
  · cases h
section
variable {X : Cx} {G : Gam} {W : WX} {e a b : Expr} {es : List Expr} {da db : E} {pos p : Pos}
theorem tyL' {k : Kx} {S H : Hp} {q : PV} {v : V} (e : Same S H) (r : RepB k S H q v) (h : isLst q = true) : tyV k.K "list" v H := by
  cases q <;> simp only [isLst] at h <;> try cases h
  obtain ⟨a, us, rfl, h1, _⟩ := repB_lst e r
  exact tyL h1
/-- x.m(e) of a list in a variable -/
theorem e_mV {i : Nat} {f : PV → PV → Option PV} {r : PySem.W.Frag → V → List V → Hp → VK → Prop} (C : Ct X G W) (od : OpM f r) (h : PE X e (tBM X.K "list" (r X.K) (tVar i) (tCons (LB G W db) tNil))) : EOk X G W e (dLM i db f) :=
  pe_weak h fun σ H Q ⟨S, ρ, R, P⟩ => by
    unfold dLM at P
    rcases dB_cases (i := i) (ρ := ρ) with ⟨q, hq⟩ | hq
    · rw [hq] at P
      obtain ⟨_, v, e1, rv⟩ := R.slotB hq
      cases hk : isLst q with
      | false => simp only [Out.bind, hk] at P; exact P.elim
      | true =>
        simp only [Out.bind, hk] at P
        refine ⟨v, e1, by rw [← C.K]; exact tyL' R.sub rv hk, S, ρ, R, Post.bind (R1 := RB G.k) (β := V) (δ := V) (Q := Q) (R2 := RE G.k) (g := fun y ρ2 => (dB i ρ2).bind fun x ρ3 => ofO (f x y) ρ3) P fun y ρ1 u S1 H1 s1 R1 ru P1 => ?_⟩
        rcases dB_cases (i := i) (ρ := ρ1) with ⟨q1, hq1⟩ | hq1
        · rw [hq1] at P1
          obtain ⟨_, v', e1', rv'⟩ := R1.slotB hq1
          rw [e1] at e1'
          cases e1'
          obtain ⟨z, ez, P2⟩ := Post.ofO P1
          rw [← C.K]
          exact od G.k S1 H1 q1 y z v u Q R1.sub rv' ru ez fun v' S' H' g r' => P2 v' S' H' g.sS (R1.grow g) r'
        · rw [hq1] at P1; exact P1.elim
    · rw [hq] at P; exact P.elim
/-- x.m(e) of a list that an expression gives -/
def dM1 (a b : E) (f : PV → PV → Option PV) : E := fun ρ => (a ρ).bind fun q ρ1 => match isLst q with
  | true => (b ρ1).bind fun y ρ2 => ofO (f q y) ρ2
  | false => .stuck
theorem Rep.frozen {k : Kx} {S : Hp} {q : PV} {v : V} {H : Hp} (r : Rep k S q v) : RepB k S H q v := .inl r
theorem e_m1 {f : PV → PV → Option PV} {r : PySem.W.Frag → V → List V → Hp → VK → Prop} (C : Ct X G W) (od : OpM f r) (h : PE X e (tBM X.K "list" (r X.K) (LE G W da) (tCons (LB G W db) tNil))) : EOk X G W e (dM1 da db f) :=
  pe_weak h fun σ H Q ⟨S, ρ, R, P⟩ => ⟨S, ρ, R, Post.bind (R1 := RE G.k) P fun q ρ1 v S1 H1 s1 R1 rv P1 => by
    cases hk : isLst q with
    | false => simp only [hk] at P1; exact P1.elim
    | true =>
      simp only [hk] at P1
      refine ⟨by rw [← C.K]; exact tyL' R1.sub (.inl rv) hk, S1, ρ1, R1, Post.bind (R1 := RB G.k) P1 fun y ρ2 u S2 H2 s2 R2 ru P2 => ?_⟩
      obtain ⟨z, ez, P3⟩ := Post.ofO P2
      rw [← C.K]
      exact od G.k S2 H2 q y z v u Q R2.sub (.inl (rv.mono s2)) ru ez fun v' S' H' g r' => P3 v' S' H' g.sS (R2.grow g) r'⟩
end
end PF

set_option Elab.async false
set_option linter.all false
set_option maxRecDepth 100000
namespace PF
open PySem PySem.Spec PyProof.Rows L2 LamX

/-! ## Facts that the kernel sees -/
def visB (sc : Scope) (x : Str) : Bool := match sc.names.lookup x with
  | some .local => true
  | some .cell => true
  | some .free => true
  | _ => false
theorem vis_of {sc : Scope} {x : Str} (h : visB sc x = true) : Vis sc x := by
  unfold visB at h
  split at h
  · rename_i h1; exact .inl h1
  · rename_i h1; exact .inr (.inl h1)
  · rename_i h1; exact .inr (.inr h1)
  · cases h
def locB (sc : Scope) (x : Str) : Bool := match sc.names.lookup x with
  | some .local => true
  | some .cell => true
  | _ => false
theorem loc_of {sc : Scope} {x : Str} (h : locB sc x = true) : Loc sc x := by
  unfold locB at h
  split at h
  · rename_i h1; exact .inl h1
  · rename_i h1; exact .inr h1
  · cases h
section
variable {X : Cx} {M : Mo} {N : List Str} {q : Str} {f : Addr} {sc : Scope} {wr : Nat → Bool} {j : Nat} {G : Gam} {W : WX}
/-- a name that stands in slot i: N and sc agree -/
theorem Bd.v (B : Bd X M N sc wr j G W) (i : Nat) {x : Str} {pos : Pos} (h : (N[i]? == some x && visB sc x && !(x == ("__debug__" : Str)) && !(x == ("__classdict__" : Str))) = true := by kernel_rfl) : PE X (.Name x pos) (tVar i) := by
  simp only [Bool.and_eq_true, beq_iff_eq, Bool.not_eq_true', beq_eq_false_iff_ne] at h
  exact B.pv i h.1.1.1 (vis_of h.1.1.2) (by simpa using h.1.2) (by simpa using h.2)
theorem Bd.g (B : Bd X M N sc wr j G W) {x : Str} (h : sc.names.lookup x = some .globalImplicit := by kernel_rfl) : Gl X x := B.gl h
theorem Bd.n (B : Bd X M N sc wr j G W) {i : Nat} {x : Str} (h : N[i]? = some x := by kernel_rfl) : X.N[i]? = some x := B.nx h
theorem Bd.lo (B : Bd X M N sc wr j G W) {x : Str} (h : locB sc x = true := by kernel_rfl) : Loc X.env.scope x := B.loc (loc_of h)
theorem Bd.lc (B : Bd X M N sc wr j G W) {x : Str} (h : sc.names.lookup x = some .local := by kernel_rfl) : X.env.scope.names.lookup x = some .local := B.lk h
/-- where x is assigned in a comprehension -/
theorem Bd.lfn (B : Bd X M N sc wr j G W) {x : Str} (h : sc.names.lookup x = some .local := by kernel_rfl) : X.fn x = true ∨ X.env.scope.names.lookup x = some .local := .inr (B.lk h)
end
/-! ### a, b = x, y -/
theorem sw2 {env : PySem.Env} {x y : Str} {px py pt pt2 : Pos} {kt k2 : Nat} {a b : Expr} (hk : env.scope.kind = .function) (hx : env.scope.names.lookup x = some .local) (hy : env.scope.names.lookup y = some .local) (hl : (px.line == px.line && py.line == px.line) = true)
    (hne : ([x, y].eraseDups.length != [x, y].length) = false) (hst : ([a, b].any fun | .Starred .. => true | _ => false) = false) (hf : [a, b].all (foldedForSure 8) = false) (hc : [a, b].all (constantsAlone 8) = false) :
    swappedStores [.Tuple [.Name x px, .Name y py] kt pt] (.Tuple [a, b] k2 pt2) env = pure (some [x, y]) := by
  have kx : env.kindOf x = some .local := hx
  have ky : env.kindOf y = some .local := hy
  have hb : env.blockKind = .function := by unfold PySem.Env.blockKind; rw [hk]; rfl
  have hl1 : (py.line == px.line) = true := by simp only [Bool.and_eq_true] at hl; exact hl.2
  unfold swappedStores
  simp only [hb, hf, hc, Expr.pos, List.head?_cons, Option.map_some, Option.getD_some, List.filterMap_cons, List.filterMap_nil, kx, ky, hl1, beq_self_eq_true, Bool.and_self, if_true]
  rw [hne]
  exact (if_neg (by simp)).trans ((if_neg (fun h => Bool.false_ne_true (hst.symm.trans h))).trans rfl)
theorem sw3 {env : PySem.Env} {x y z : Str} {px py pz pt pt2 : Pos} {kt k2 : Nat} {a b c : Expr} (hk : env.scope.kind = .function) (hx : env.scope.names.lookup x = some .local) (hy : env.scope.names.lookup y = some .local) (hz : env.scope.names.lookup z = some .local) (hl : (py.line == px.line && pz.line == px.line) = true)
    (hne : ([x, y, z].eraseDups.length != [x, y, z].length) = false) (hst : ([a, b, c].any fun | .Starred .. => true | _ => false) = false) (hf : [a, b, c].all (foldedForSure 8) = false) (hc : [a, b, c].all (constantsAlone 8) = false) :
    swappedStores [.Tuple [.Name x px, .Name y py, .Name z pz] kt pt] (.Tuple [a, b, c] k2 pt2) env = pure (some [x, y, z]) := by
  have kx : env.kindOf x = some .local := hx
  have ky : env.kindOf y = some .local := hy
  have kz : env.kindOf z = some .local := hz
  have hb : env.blockKind = .function := by unfold PySem.Env.blockKind; rw [hk]; rfl
  simp only [Bool.and_eq_true] at hl
  unfold swappedStores
  simp only [hb, hf, hc, Expr.pos, List.head?_cons, Option.map_some, Option.getD_some, List.filterMap_cons, List.filterMap_nil, kx, ky, kz, hl.1, hl.2, beq_self_eq_true, Bool.and_self, if_true]
  rw [hne]
  exact (if_neg (by simp)).trans ((if_neg (fun h => Bool.false_ne_true (hst.symm.trans h))).trans rfl)
section
variable {X : Cx} {M : Mo} {N : List Str} {sc : Scope} {wr : Nat → Bool} {jj : Nat} {G : Gam} {W : WX} {u : As}
/-- x, y = a, b with plain local names -/
theorem s_two {i j : Nat} {x y : Str} {px py pt pt2 pos : Pos} {kt k2 : Nat} {e1 e2 : Expr} (B : Bd X M N sc wr jj G W) (hc : X.calm = true) (ha : AOk X G W [e1, e2] u) (h : (N[i]? == some x && N[j]? == some y && i != j && wr i && wr j && sc.kind == .function && sc.names.lookup x == some .local && sc.names.lookup y == some .local) = true := by kernel_rfl)
    (hl : (px.line == px.line && py.line == px.line) = true := by kernel_rfl) (hne : ([x, y].eraseDups.length != [x, y].length) = false := by kernel_rfl) (hst : ([e1, e2].any fun | .Starred .. => true | _ => false) = false := by rfl) (hf : [e1, e2].all (foldedForSure 8) = false := by kernel_rfl) (hca : [e1, e2].all (constantsAlone 8) = false := by kernel_rfl)
    (hs : swapsWithSole [.Tuple [.Name x px, .Name y py] kt pt] (.Tuple [e1, e2] k2 pt2) pos.line X.env = pure false := by rfl) : SOk X G W (.Assign [.Tuple [.Name x px, .Name y py] kt pt] (.Tuple [e1, e2] k2 pt2) pos) (sPar [i, j] u) := by
  simp only [Bool.and_eq_true, beq_iff_eq, bne_iff_ne] at h
  obtain ⟨⟨⟨⟨⟨⟨⟨h1, h2⟩, h3⟩, h4⟩, h5⟩, h6⟩, h7⟩, h8⟩ := h
  have hx := B.lk h7
  have hy := B.lk h8
  exact s_par2 B.ct hc (B.nx h1) (B.nx h2) h3 hx hy (B.io h4) (B.io h5) ha (sw2 (by rw [B.eS]; exact h6) hx hy hl hne hst hf hca) hs
theorem s_three {i j l : Nat} {x y z : Str} {px py pz pt pt2 pos : Pos} {kt k2 : Nat} {e1 e2 e3 : Expr} (B : Bd X M N sc wr jj G W) (hc : X.calm = true) (ha : AOk X G W [e1, e2, e3] u)
    (h : (N[i]? == some x && N[j]? == some y && N[l]? == some z && i != j && i != l && j != l && wr i && wr j && wr l && sc.kind == .function && sc.names.lookup x == some .local && sc.names.lookup y == some .local && sc.names.lookup z == some .local) = true := by kernel_rfl)
    (hl : (py.line == px.line && pz.line == px.line) = true := by kernel_rfl) (hne : ([x, y, z].eraseDups.length != [x, y, z].length) = false := by kernel_rfl) (hst : ([e1, e2, e3].any fun | .Starred .. => true | _ => false) = false := by rfl) (hf : [e1, e2, e3].all (foldedForSure 8) = false := by kernel_rfl) (hca : [e1, e2, e3].all (constantsAlone 8) = false := by kernel_rfl)
    (hs : swapsWithSole [.Tuple [.Name x px, .Name y py, .Name z pz] kt pt] (.Tuple [e1, e2, e3] k2 pt2) pos.line X.env = pure false := by rfl) : SOk X G W (.Assign [.Tuple [.Name x px, .Name y py, .Name z pz] kt pt] (.Tuple [e1, e2, e3] k2 pt2) pos) (sPar [i, j, l] u) := by
  simp only [Bool.and_eq_true, beq_iff_eq, bne_iff_ne] at h
  obtain ⟨⟨⟨⟨⟨⟨⟨⟨⟨⟨⟨⟨h1, h2⟩, h3⟩, h12⟩, h13⟩, h23⟩, w1⟩, w2⟩, w3⟩, hk⟩, l1⟩, l2⟩, l3⟩ := h
  have hx := B.lk l1
  have hy := B.lk l2
  have hz := B.lk l3
  refine ps_weak (ps_par3 hc B.nod (B.nx h1) (B.nx h2) (B.nx h3) h12 h13 h23 hx hy hz ha (sw3 (by rw [B.eS]; exact hk) hx hy hz hl hne hst hf hca) hs) fun D σ H ⟨S, ρ, R, P⟩ => ⟨S, ρ, R, PostS.bindE (R1 := RA G.k) P fun zs ρ' v S' H' e r rv P' => ?_⟩
  split at P'
  · rename_i hl
    match zs, hl with
    | [q1, q2, q3], _ =>
      simp only [Reps] at rv
      obtain ⟨v1, _, rfl, r1, v2, _, rfl, r2, v3, _, rfl, r3, rfl⟩ := rv
      exact ⟨v1, v2, v3, rfl, P' _ S' H' (.refl _) (((r.set r1 (B.io w1)).set r2 (B.io w2)).set r3 (B.io w3))⟩
  · exact P'.elim
end
/-! ### constants of the module -/
def readB : Value → Option PV
  | .none => some .non
  | .bool b => some (.bl b)
  | .int i _ => some (.int i)
  | .str x _ => some (.str x)
  | _ => none
def readL (f : Value → Option PV) : List Value → Option (List PV)
  | [] => some []
  | v :: vs => match f v, readL f vs with
    | some p, some ps => some (p :: ps)
    | _, _ => none
def readK (K : PySem.W.Frag) : Nat → Value → Option PV
  | 0, v => readB v
  | n + 1, v => match v with
    | .ref a => match K.lookup a with
      | some ⟨.type "tuple", _, .seq its _, _⟩ => if its.size ≤ lineN then (readL (readK K n) its.toList).map .tup else none
      | _ => none
    | v => readB v
theorem readB_rep {k : Kx} {u : Value} {p : PV} (h : readB u = some p) : ∃ v, RelV v u ∧ ∀ S, Rep k S p v := by
  cases u <;> simp only [readB] at h <;> cases h
  · exact ⟨.non, rfl, fun S => rep_non⟩
  · exact ⟨.bl _, rfl, fun S => rep_bl _⟩
  · exact ⟨.int _, ⟨_, rfl⟩, fun S => rep_int _⟩
  · exact ⟨.str _, ⟨_, rfl⟩, fun S => rep_str _⟩
theorem readL_rep {k : Kx} {f : Value → Option PV} (hf : ∀ u p, f u = some p → ∃ v, RelV v u ∧ ∀ S, Rep k S p v) : ∀ (us : List Value) (ps : List PV), readL f us = some ps → ∃ vs, Vals vs us ∧ ∀ S, Reps k S ps vs
  | [], ps, h => by simp only [readL] at h; cases h; exact ⟨[], .nil, fun S => Reps.nil⟩
  | u :: us, ps, h => by
    simp only [readL] at h
    cases q : f u with
    | none => rw [q] at h; cases h
    | some p =>
      cases q' : readL f us with
      | none => rw [q, q'] at h; cases h
      | some ps' =>
        rw [q, q'] at h
        cases h
        obtain ⟨v, r, hr⟩ := hf u p q
        obtain ⟨vs, rs, hrs⟩ := readL_rep hf us ps' q'
        exact ⟨v :: vs, .cons r rs, fun S => Reps.cons (hr S) (hrs S)⟩
theorem readK_rep {k : Kx} : ∀ (n : Nat) (u : Value) (p : PV), readK k.K n u = some p → ∃ v, RelV v u ∧ ∀ S, Rep k S p v
  | 0, u, p, h => readB_rep h
  | n + 1, u, p, h => by
    unfold readK at h
    split at h
    · rename_i a
      split at h
      · rename_i dd its m sl hk
        split at h
        · rename_i hz
          cases q : readL (readK k.K n) its.toList with
          | none => rw [q] at h; cases h
          | some ps =>
            rw [q] at h
            cases h
            obtain ⟨vs, hv, hr⟩ := readL_rep (readK_rep n) its.toList ps q
            refine ⟨.ref a, rfl, fun S => ?_⟩
            exact rep_tup (.inr ⟨_, its, m, hk, rfl, rfl, by rw [← lineN_eq]; exact hz, hv⟩) (hr S)
        · cases h
      · cases h
    · exact readB_rep h
/-- a constant of the module -/
def CstM (M : Mo) (x : Str) (p : PV) : Prop := ∃ u, M.mg x = some u ∧ readK M.K 20 u = some p
section
variable {X : Cx} {M : Mo} {N : List Str} {sc : Scope} {wr : Nat → Bool} {j : Nat} {G : Gam} {W : WX}
theorem e_cst {x : Str} {p : PV} {pos : Pos} (B : Bd X M N sc wr j G W) (h : CstM M x p) (hg : sc.names.lookup x = some .globalImplicit := by kernel_rfl) (hd : (x == ("__debug__" : Str)) = false := by kernel_rfl) : EOk X G W (.Name x pos) (dC p) := by
  obtain ⟨u, hm, hr⟩ := h
  obtain ⟨v, rv, rp⟩ := readK_rep (k := M.k) 20 u p hr
  exact e_const (pe_glob (B.gl hg) (B.glo hm) rv hd) (by rw [B.eG]; exact rp)
/-- a def as a value -/
theorem e_fnv {x : Str} {f : Addr} {pos : Pos} (B : Bd X M N sc wr j G W) (hm : M.mg x = some (.ref f)) (hg : sc.names.lookup x = some .globalImplicit := by kernel_rfl) (hd : (x == ("__debug__" : Str)) = false := by kernel_rfl) : EOk X G W (.Name x pos) (dC (.fn x)) :=
  e_const (pe_glob (v := .ref f) (B.gl hg) (B.glo hm) rfl hd) fun S => by
    simp only [Rep]
    exact ⟨f, rfl, by rw [B.eG]; exact hm⟩
end
/-! ### defs of the module, as facts -/
def FunF (M : Mo) (x : Str) (st : Stmt) (ps : List Str) : Prop := ∃ (a : Addr) (fd : FuncData), Fun M.K x x st a fd ∧ M.mg x = some (.ref a) ∧ Binds M.K fd ps []
/-- .. of one that makes lambdas -/
def FunL (M : Mo) (x : Str) (st : Stmt) (ps : List Str) : Prop := ∃ (a : Addr) (fd : FuncData) (c P : Addr), Fun M.K x x st a fd ∧ M.mg x = some (.ref a) ∧ Binds M.K fd ps [] ∧
  (∃ oc od an dV kV doc pm ct osl name qu args body sc', M.K.lookup a = some ⟨oc, od, .func (PySem.W.fnOf name qu args body sc' dV kV doc pm an (.ref c) ct), osl⟩) ∧ TabB M.base M.mg c P ∧ (P, x ++ ".<locals>." ++ "<lambda>") ∈ M.T ∧ ∀ p ∈ M.T, p.1 = P → p.2 = x ++ ".<locals>." ++ "<lambda>"
theorem fn_okF {M : Mo} {N ps : List Str} {j : Nat} {x : Str} {st : Stmt} {d : C} (io : Bool) (h : FunF M x st ps) (Sc : FnScope N ps (defScope st))
    (body : ∀ (X : Cx) (G : Gam) (W : WX), Bd X M N (defScope st) (fun i => !io || i != 0) j G W → Bx X → BsOk X G W (defBody st) d) : FnM M x ps io (runB io N.length ps.length d) (j + 1) := by
  obtain ⟨a, fd, F, hm, hb⟩ := h
  exact fn_ok io F Sc hm hb fun X G W B BX _ => body X G W B BX
theorem fn_okL {M : Mo} {N ps : List Str} {j : Nat} {x : Str} {st : Stmt} {d : C} (io : Bool) (h : FunL M x st ps) (Sc : FnScope N ps (defScope st))
    (body : ∀ (X : Cx) (G : Gam) (W : WX) (c P : Addr), Bd X M N (defScope st) (fun i => !io || i != 0) j G W → Bx X → Lb X M c P (x ++ ".<locals>." ++ "<lambda>") → BsOk X G W (defBody st) d) : FnM M x ps io (runB io N.length ps.length d) (j + 1) := by
  obtain ⟨a, fd, c, P, F, hm, hb, ⟨oc, od, an, dV, kV, doc, pm, ct, osl, name, qu, args, body', sc', lk⟩, tab, mem, un⟩ := h
  exact fn_ok io F Sc hm hb fun X G W B BX BQ => body X G W c P B BX (BQ.lb B lk tab mem un)
theorem ExT.mem {M : Mo} {tbl : Tbl} {as : List (Str × Addr)} (Z : ExT M tbl as) {x : Str} (h : (tbl.map (·.1)).contains x = true) : ∃ D, (x, D) ∈ as := by
  have : x ∈ as.map (·.1) := by rw [Z.names]; simpa using h
  obtain ⟨⟨y, D⟩, hm, e⟩ := List.mem_map.mp this
  exact ⟨D, by rw [← e]; exact hm⟩
section
variable {X : Cx} {M : Mo} {N : List Str} {sc : Scope} {wr : Nat → Bool} {j : Nat} {G : Gam} {W : WX} {tbl : Tbl} {as : List (Str × Addr)}
theorem s_rais {x : Str} {p pos pos2 : Pos} (B : Bd X M N sc wr j G W) (hc : X.calm = true) (Z : ExT M tbl as) (hx : (tbl.map (·.1)).contains x = true := by kernel_rfl) (hg : sc.names.lookup x = some .globalImplicit := by kernel_rfl) (hdb : (x == ("__debug__" : Str)) = false := by kernel_rfl) :
    SOk X G W (.Raise (some (.Call (.Name x p) [] [] pos)) none pos2) (sRaise x) := by
  obtain ⟨D, hD⟩ := Z.mem hx
  exact s_raise B hc Z hD hg hdb
end
end PF

set_option Elab.async false
set_option linter.all false
set_option maxRecDepth 100000
namespace PF
open PySem PySem.Spec PyProof.Rows L2 LamX

/-! ## The end -/
def noTbl (H : Hp) : Hp := fun b => match H b with
  | some (.tbl _) => none
  | o => o
theorem noTbl_of {H : Hp} {a : Addr} {o : HO} (h : H a = some o) (hn : NoTb o) : noTbl H a = some o := by
  unfold noTbl
  rw [h]
  cases o <;> first | rfl | exact absurd rfl (hn _)
theorem of_noTbl {H : Hp} {a : Addr} {o : HO} (h : noTbl H a = some o) : H a = some o ∧ NoTb o := by
  unfold noTbl at h
  split at h
  · cases h
  · rename_i hne
    exact ⟨h, fun ps e => hne ps (by rw [h, e])⟩
theorem law_sp {k : Kx} {F : Fn} {cs : List (Addr × Addr)} (hT : ∀ p ∈ k.T, ∃ c, (c, p.1) ∈ cs) (hF : ∀ ns : List Int, ns.length ≤ 63 → (∀ z ∈ ns, Builtin.Int.intBits z ≤ 1048576) → ∃ io, F [.scr (ns.map .int)] = .ret (.bl true) io) {H : Hp} {a : Addr} {ns : List Int} (hl : ns.length ≤ 63)
    (hb : ∀ z ∈ ns, Builtin.Int.intBits z ≤ 1048576) (hH : ∀ p ∈ cs, H p.2 = some (.tbl #[])) (hS : SqL k.K H a (ns.map V.int)) : SpF k 1 false F [.ref a] H (fun v _ => v = .bl true) fun _ _ _ => False := by
  obtain ⟨io, h⟩ := hF ns hl hb
  have hS' : SqL k.K (noTbl H) a (ns.map V.int) := by
    rcases hS with (h1 | ⟨o, h1⟩) | h1
    · exact .inl (.inl (noTbl_of h1 (fun _ z => by cases z)))
    · exact .inl (.inr ⟨o, noTbl_of h1 (fun _ z => by cases z)⟩)
    · exact .inr h1
  refine ⟨rfl, noTbl H, [.scr (ns.map .int)], [], fun b o e => (of_noTbl e).1, fun b o e => (of_noTbl e).2, fun p hp => ?_, ⟨Reps.cons ?_ Reps.nil, rfl⟩, ?_⟩
  · obtain ⟨c, hc⟩ := hT p hp
    exact TabS.nil (hH _ hc)
  · simp only [Rep]
    exact ⟨a, ns.map V.int, rfl, hS', Reps.of_ints ns⟩
  · rw [h]
    intro v S' H' _ r
    simpa only [Rep] using r
theorem walk_pf {l : PySem.W.OpenLaw} {k : Nat} {q : Program} {loose : List Str} {XP : (Str → Option Value) → Heap → Prop} {YP : World → Heap → Prop} {d : DefRec} {K : Params → PySem.W.Frag} {Flaw : Fn} (st : Stmt)
    (hn : l.most = some 63) (hdf : d.params.defaults = []) (hnm : d.name = ("law" : Str)) (hr : Room k callerA) (hY : ∀ (w : World) (h : Heap), YP w h → (K w.params).In h)
    (hF : ∀ ns : List Int, ns.length ≤ 63 → (∀ z ∈ ns, Builtin.Int.intBits z ≤ 1048576) → ∃ io, Flaw [.scr (ns.map .int)] = .ret (.bl true) io)
    (F : ∀ (w : World) (mg : Str → Option Value) (h : Heap), YP w h → (K w.params).In h → h.Ns mainGlobals mg → ∃ (cs : List (Addr × Addr)) (T : List (Addr × Str)),
      (∀ p ∈ cs, h.get? p.2 = some { cls := .none, data := .fields #[] }) ∧ (∀ p ∈ cs, (K w.params).lookup p.2 = none) ∧ (∀ p ∈ cs, PySem.W.CodeHd h p.1 p.2) ∧ (∀ p ∈ T, ∃ c, (c, p.1) ∈ cs) ∧
      (∃ (fa : Addr) (fd : FuncData), Fun (K w.params) "law" "law" st fa fd ∧ mg "law" = some (.ref fa) ∧ ∀ (s : Shared) (u : Value), BindsTo s fd ⟨[u], []⟩ [("script", u)]) ∧
      ∀ base : Heap, (K w.params).In base → base.Ns mainGlobals mg → (∀ p ∈ cs, TabB base mg p.1 p.2) → FnM ⟨l.prog, w, K w.params, mg, base, T⟩ "law" ["script"] false Flaw k) :
    PySem.W.WalkO q loose XP YP l.row.toRowW d [] (fun f vs => PySem.call f vs) := by
  refine LamX.walk_ofTs (n := 63) (k := k) (x := "script") (CX := fun w => L2.CX l.prog w) hn (by decide) hdf hr hY (fun w mg fa h Y KX G hmg => ?_) fun w H s e s' z => ?_
  · obtain ⟨cs, T, h1, h2, h3, h4, ⟨fa', fd, Fd, hm, hbd⟩, hM⟩ := F w mg h Y KX G
    rw [hnm, hm] at hmg
    cases hmg
    refine ⟨fd, cs, SpF ⟨K w.params, mg, T⟩ 1 false Flaw, h1, h2, h3, hbd, fun H a ns hl hb hH hS => law_sp h4 hF hl hb hH hS, fun base b1 b2 b3 => ?_⟩
    obtain ⟨ar, f, fd', ok, hm', _, _, oc, od, osl, lk⟩ := hM base b1 b2 b3
    have hm' : mg "law" = some (.ref f) := hm'
    rw [hm] at hm'
    cases hm'
    obtain ⟨oc', od', kV, doc, pm, an, cdv, ct, osl', efd, lk', _⟩ := Fd.ex
    have lk : (K w.params).lookup _ = some ⟨oc, od, .func fd', osl⟩ := lk
    rw [lk'] at lk
    have e := congrArg Obj.data (Option.some.inj lk)
    have e : Data.func fd = Data.func fd' := e
    cases e
    exact ok
  · obtain ⟨_, _, _, _, _, _, _, _, _, _, _, _, z⟩ := z
    exact z
end PF

set_option Elab.async false
set_option linter.all false
set_option maxRecDepth 100000
namespace PF
open PySem PySem.Spec PyProof.Rows L2 LamX

/-! ## Built-ins, in short -/
def bltNames : List Str := ["len", "int", "abs", "tuple", "list", "sum", "all", "any", "max", "min", "sorted", "isinstance", "range", "enumerate", "zip", "reversed", "str", "repr", "bool", "set", "dict", "ValueError"]
/-- no name of the built-ins is taken -/
def Blt (M : Mo) : Prop := ∀ x ∈ bltNames, M.mg x = none
theorem blt_nil {mg : Str → Option Value} : ∀ x ∈ ([] : List Str), mg x = none := fun x h => by cases h
theorem blt_cons {mg : Str → Option Value} {y : Str} {ys : List Str} (h : mg y = none) (r : ∀ x ∈ ys, mg x = none) : ∀ x ∈ y :: ys, mg x = none := fun x hx => by
  rcases List.mem_cons.mp hx with e | e
  · rw [e]; exact h
  · exact r x e
theorem Blt.at {M : Mo} (h : Blt M) {x : Str} (hx : bltNames.contains x = true) : M.mg x = none := h x (by simpa using hx)
section
variable {X : Cx} {M : Mo} {N : List Str} {sc : Scope} {wr : Nat → Bool} {j : Nat} {G : Gam} {W : WX} {a b e : Expr} {da db : E} {p p2 p3 pos apos pos2 : Pos}
theorem b_len (B : Bd X M N sc wr j G W) (Y : Blt M) (h : BOk X G W a da) (hg : sc.names.lookup ("len" : Str) = some .globalImplicit := by kernel_rfl) (hs : starEach [a] X.env = (false, eval a X.env) :: starEach [] X.env := by rfl) : EOk X G W (.Call (.Name "len" p) [a] [] pos) (dUn pLen da) :=
  e_b1 B.ct o_len (pe_callB call_len (B.gl hg) (B.non (Y.at (by kernel_rfl))) PySem.boot_len (pa_cons h pa_nil hs) (by decide) (by decide) hs rfl)
theorem b_int (B : Bd X M N sc wr j G W) (Y : Blt M) (h : BOk X G W a da) (hg : sc.names.lookup ("int" : Str) = some .globalImplicit := by kernel_rfl) (hs : starEach [a] X.env = (false, eval a X.env) :: starEach [] X.env := by rfl) : EOk X G W (.Call (.Name "int" p) [a] [] pos) (dUn pInt da) :=
  e_b1 B.ct o_int (pe_callTy call_int1 (B.gl hg) (B.non (Y.at (by kernel_rfl))) (by decide +kernel) (pa_cons h pa_nil hs) (by decide) (by decide) hs rfl)
theorem b_abs (B : Bd X M N sc wr j G W) (Y : Blt M) (h : BOk X G W a da) (hg : sc.names.lookup ("abs" : Str) = some .globalImplicit := by kernel_rfl) (hs : starEach [a] X.env = (false, eval a X.env) :: starEach [] X.env := by rfl) : EOk X G W (.Call (.Name "abs" p) [a] [] pos) (dUn pAbs da) :=
  e_b1 B.ct o_abs (pe_callB call_abs (B.gl hg) (B.non (Y.at (by kernel_rfl))) (by decide +kernel) (pa_cons h pa_nil hs) (by decide) (by decide) hs rfl)
theorem b_tuple (B : Bd X M N sc wr j G W) (Y : Blt M) (h : BOk X G W a da) (hg : sc.names.lookup ("tuple" : Str) = some .globalImplicit := by kernel_rfl) (hs : starEach [a] X.env = (false, eval a X.env) :: starEach [] X.env := by rfl) : EOk X G W (.Call (.Name "tuple" p) [a] [] pos) (dUn pTuple da) :=
  e_b1 B.ct o_tuple (pe_callTy call_tuple_of (B.gl hg) (B.non (Y.at (by kernel_rfl))) (by decide +kernel) (pa_cons h pa_nil hs) (by decide) (by decide) hs rfl)
theorem b_list (B : Bd X M N sc wr j G W) (Y : Blt M) (h : BOk X G W a da) (hg : sc.names.lookup ("list" : Str) = some .globalImplicit := by kernel_rfl) (hs : starEach [a] X.env = (false, eval a X.env) :: starEach [] X.env := by rfl) : FOk X G W (.Call (.Name "list" p) [a] [] pos) (fUn itemsOf da) :=
  f_b1 B.ct o_list (pe_callTy call_list_of (B.gl hg) (B.non (Y.at (by kernel_rfl))) (by decide +kernel) (pa_cons h pa_nil hs) (by decide) (by decide) hs rfl)
theorem b_sum (B : Bd X M N sc wr j G W) (hc : X.calm = true) (Y : Blt M) (h : BOk X G W a da) (hg : sc.names.lookup ("sum" : Str) = some .globalImplicit := by kernel_rfl) (hs : starEach [a] X.env = (false, eval a X.env) :: starEach [] X.env := by rfl) : EOk X G W (.Call (.Name "sum" p) [a] [] pos) (dUn pSum da) :=
  e_b1 B.ct o_sum (pe_callB (cr_sumA hc) (B.gl hg) (B.non (Y.at (by kernel_rfl))) (by decide +kernel) (pa_cons h pa_nil hs) (by decide) (by decide) hs rfl)
theorem b_all (B : Bd X M N sc wr j G W) (hc : X.calm = true) (Y : Blt M) (h : BOk X G W a da) (hg : sc.names.lookup ("all" : Str) = some .globalImplicit := by kernel_rfl) (hs : starEach [a] X.env = (false, eval a X.env) :: starEach [] X.env := by rfl) : EOk X G W (.Call (.Name "all" p) [a] [] pos) (dUn pAll da) :=
  e_b1 B.ct o_all (pe_callB (cr_all hc) (B.gl hg) (B.non (Y.at (by kernel_rfl))) (by decide +kernel) (pa_cons h pa_nil hs) (by decide) (by decide) hs rfl)
theorem b_any (B : Bd X M N sc wr j G W) (hc : X.calm = true) (Y : Blt M) (h : BOk X G W a da) (hg : sc.names.lookup ("any" : Str) = some .globalImplicit := by kernel_rfl) (hs : starEach [a] X.env = (false, eval a X.env) :: starEach [] X.env := by rfl) : EOk X G W (.Call (.Name "any" p) [a] [] pos) (dUn pAny da) :=
  e_b1 B.ct o_any (pe_callB (cr_any hc) (B.gl hg) (B.non (Y.at (by kernel_rfl))) (by decide +kernel) (pa_cons h pa_nil hs) (by decide) (by decide) hs rfl)
theorem b_max1 (B : Bd X M N sc wr j G W) (hc : X.calm = true) (Y : Blt M) (h : BOk X G W a da) (hg : sc.names.lookup ("max" : Str) = some .globalImplicit := by kernel_rfl) (hs : starEach [a] X.env = (false, eval a X.env) :: starEach [] X.env := by rfl) : EOk X G W (.Call (.Name "max" p) [a] [] pos) (dUn pMax1 da) :=
  e_b1 B.ct o_max1 (pe_callB (cr_max hc) (B.gl hg) (B.non (Y.at (by kernel_rfl))) (by decide +kernel) (pa_cons h pa_nil hs) (by decide) (by decide) hs rfl)
theorem b_min1 (B : Bd X M N sc wr j G W) (hc : X.calm = true) (Y : Blt M) (h : BOk X G W a da) (hg : sc.names.lookup ("min" : Str) = some .globalImplicit := by kernel_rfl) (hs : starEach [a] X.env = (false, eval a X.env) :: starEach [] X.env := by rfl) : EOk X G W (.Call (.Name "min" p) [a] [] pos) (dUn pMin1 da) :=
  e_b1 B.ct o_min1 (pe_callB (cr_min hc) (B.gl hg) (B.non (Y.at (by kernel_rfl))) (by decide +kernel) (pa_cons h pa_nil hs) (by decide) (by decide) hs rfl)
theorem b_sorted (B : Bd X M N sc wr j G W) (Y : Blt M) (h : BOk X G W a da) (hg : sc.names.lookup ("sorted" : Str) = some .globalImplicit := by kernel_rfl) (hs : starEach [a] X.env = (false, eval a X.env) :: starEach [] X.env := by rfl) : FOk X G W (.Call (.Name "sorted" p) [a] [] pos) (fUn pSorted da) :=
  f_b1 B.ct o_sorted (pe_callB cr_sortedI (B.gl hg) (B.non (Y.at (by kernel_rfl))) (by decide +kernel) (pa_cons h pa_nil hs) (by decide) (by decide) hs rfl)
theorem b_max2 (B : Bd X M N sc wr j G W) (hc : X.calm = true) (Y : Blt M) (h : EOk X G W a da) (h' : EOk X G W b db) (hg : sc.names.lookup ("max" : Str) = some .globalImplicit := by kernel_rfl) (hs : starEach [a, b] X.env = (false, eval a X.env) :: starEach [b] X.env := by rfl) (hs2 : starEach [b] X.env = (false, eval b X.env) :: starEach [] X.env := by rfl) (hpl : (backTo pos (starEach [b] X.env)).any (·.1) = false := by rfl) : EOk X G W (.Call (.Name "max" p) [a, b] [] pos) (dOp pMax2 da db) :=
  e_b2 B.ct o_max2 (pe_callB (call_max2 hc) (B.gl hg) (B.non (Y.at (by kernel_rfl))) (by decide +kernel) (pa_cons h (pa_cons h' pa_nil hs2) hs) (by decide) (by decide) hs hpl)
theorem b_min2 (B : Bd X M N sc wr j G W) (hc : X.calm = true) (Y : Blt M) (h : EOk X G W a da) (h' : EOk X G W b db) (hg : sc.names.lookup ("min" : Str) = some .globalImplicit := by kernel_rfl) (hs : starEach [a, b] X.env = (false, eval a X.env) :: starEach [b] X.env := by rfl) (hs2 : starEach [b] X.env = (false, eval b X.env) :: starEach [] X.env := by rfl) (hpl : (backTo pos (starEach [b] X.env)).any (·.1) = false := by rfl) : EOk X G W (.Call (.Name "min" p) [a, b] [] pos) (dOp pMin2 da db) :=
  e_b2 B.ct o_min2 (pe_callB (call_min2 hc) (B.gl hg) (B.non (Y.at (by kernel_rfl))) (by decide +kernel) (pa_cons h (pa_cons h' pa_nil hs2) hs) (by decide) (by decide) hs hpl)
/-- isinstance(x, t), t a built-in type -/
theorem b_isi {t : String} {tn : Str} (B : Bd X M N sc wr j G W) (Y : Blt M) (kt : KitT t) (hv : bootBuiltins tn = some (.type t)) (h : BOk X G W a da) (hm : bltNames.contains tn = true := by kernel_rfl) (hg : sc.names.lookup ("isinstance" : Str) = some .globalImplicit := by kernel_rfl) (ht : sc.names.lookup tn = some .globalImplicit := by kernel_rfl)
    (hn : (tn == ("__name__" : Str)) = false := by kernel_rfl) (hd : (tn == ("__debug__" : Str)) = false := by kernel_rfl) (hs : starEach [a, .Name tn p2] X.env = (false, eval a X.env) :: starEach [.Name tn p2] X.env := by rfl) :
    EOk X G W (.Call (.Name "isinstance" p) [a, .Name tn p2] [] pos) (dUn (pIs t) da) :=
  e_isi B.ct kt (pe_callB call_isi (B.gl hg) (B.non (Y.at (by kernel_rfl))) (by decide +kernel) (pa_cons h (pa_cons (pe_bltn (v := .ty t) (B.gl ht) (B.non (Y.at hm)) hv rfl (by simpa using hn) hd) pa_nil rfl) hs) (by decide) (by decide) hs rfl)
theorem b_isi2 {t u : String} {tn un : Str} {kk : Nat} (B : Bd X M N sc wr j G W) (Y : Blt M) (kt : KitT t) (ku : KitT u) (hv : bootBuiltins tn = some (.type t)) (hv' : bootBuiltins un = some (.type u)) (h : BOk X G W a da) (hm : bltNames.contains tn = true := by kernel_rfl) (hm' : bltNames.contains un = true := by kernel_rfl)
    (hg : sc.names.lookup ("isinstance" : Str) = some .globalImplicit := by kernel_rfl) (ht : sc.names.lookup tn = some .globalImplicit := by kernel_rfl) (hu : sc.names.lookup un = some .globalImplicit := by kernel_rfl)
    (hn : (tn == ("__name__" : Str)) = false := by kernel_rfl) (hd : (tn == ("__debug__" : Str)) = false := by kernel_rfl) (hn' : (un == ("__name__" : Str)) = false := by kernel_rfl) (hd' : (un == ("__debug__" : Str)) = false := by kernel_rfl)
    (hs : starEach [a, .Tuple [.Name tn p2, .Name un p3] kk apos] X.env = (false, eval a X.env) :: starEach [.Tuple [.Name tn p2, .Name un p3] kk apos] X.env := by rfl) :
    EOk X G W (.Call (.Name "isinstance" p) [a, .Tuple [.Name tn p2, .Name un p3] kk apos] [] pos) (dUn (pIs2 t u) da) :=
  e_isi2 B.ct kt ku (pe_callB call_isiT (B.gl hg) (B.non (Y.at (by kernel_rfl))) (by decide +kernel) (pa_cons h (pa_cons (pe_tup (pa_cons (pe_bltn (v := .ty t) (B.gl ht) (B.non (Y.at hm)) hv rfl (by simpa using hn) hd) (pa_cons (pe_bltn (v := .ty u) (B.gl hu) (B.non (Y.at hm')) hv' rfl (by simpa using hn') hd') pa_nil rfl) rfl)) pa_nil rfl) hs) (by decide) (by decide) hs rfl)
/-- lists of one's own -/
theorem b_app {i : Nat} (h : PE X a (tVar i)) (he : EOk X G W b db) (hs : starEach [b] X.env = (false, eval b X.env) :: starEach [] X.env := by rfl) (hbase : attributeBase a "append" X.env (eval a X.env) = eval a X.env := by rfl) (hline : (apos.endLine == pos.line) = true := by rfl)
    (hfew : ((backTo pos (starEach [b] X.env)).all (fun x => !x.1) && (backToKw pos (keywordEach [] X.env)).all (fun x => x.1.isSome) && decide ([b].length + ([] : List Keyword).length + (if ([] : List Keyword).isEmpty then 0 else 1) < 30)) = true := by rfl)
    (hsw : swapsWith (.Call (.Attribute a "append" apos) [b] [] pos) none pos2.line X.env = pure false := by rfl) : SOk X G W (.Expr (.Call (.Attribute a "append" apos) [b] [] pos) pos2) (sApp i db) :=
  s_app h he (pe_bm PySem.F.plainAttrs_list PySem.F.slot_list_append PySem.F.type_list_append mt_append h (pa_cons he pa_nil hs) hbase hfew hline hs rfl) hsw
theorem b_ext {i : Nat} (h : PE X a (tVar i)) (he : BOk X G W b db) (hs : starEach [b] X.env = (false, eval b X.env) :: starEach [] X.env := by rfl) (hbase : attributeBase a "extend" X.env (eval a X.env) = eval a X.env := by rfl) (hline : (apos.endLine == pos.line) = true := by rfl)
    (hfew : ((backTo pos (starEach [b] X.env)).all (fun x => !x.1) && (backToKw pos (keywordEach [] X.env)).all (fun x => x.1.isSome) && decide ([b].length + ([] : List Keyword).length + (if ([] : List Keyword).isEmpty then 0 else 1) < 30)) = true := by rfl)
    (hsw : swapsWith (.Call (.Attribute a "extend" apos) [b] [] pos) none pos2.line X.env = pure false := by rfl) : SOk X G W (.Expr (.Call (.Attribute a "extend" apos) [b] [] pos) pos2) (sExt i db) :=
  s_ext h he (pe_bm PySem.F.plainAttrs_list PySem.F.slot_list_extend PySem.F.type_list_extend mt_extend h (pa_cons he pa_nil hs) hbase hfew hline hs rfl) hsw
theorem b_pop {i : Nat} (h : PE X a (tVar i)) (hbase : attributeBase a "pop" X.env (eval a X.env) = eval a X.env := by rfl) (hline : (apos.endLine == pos.line) = true := by rfl) : EOk X G W (.Call (.Attribute a "pop" apos) [] [] pos) (dPop i) :=
  e_pop (pe_bm0 PySem.F.plainAttrs_list PySem.F.slot_list_pop PySem.F.type_list_pop mt_pop h hbase hline)
theorem b_popAt {i : Nat} (h : PE X a (tVar i)) (he : EOk X G W b db) (hs : starEach [b] X.env = (false, eval b X.env) :: starEach [] X.env := by rfl) (hbase : attributeBase a "pop" X.env (eval a X.env) = eval a X.env := by rfl) (hline : (apos.endLine == pos.line) = true := by rfl)
    (hfew : ((backTo pos (starEach [b] X.env)).all (fun x => !x.1) && (backToKw pos (keywordEach [] X.env)).all (fun x => x.1.isSome) && decide ([b].length + ([] : List Keyword).length + (if ([] : List Keyword).isEmpty then 0 else 1) < 30)) = true := by rfl) :
    EOk X G W (.Call (.Attribute a "pop" apos) [b] [] pos) (dPopAt i db) :=
  e_popAt (pe_bm PySem.F.plainAttrs_list PySem.F.slot_list_pop PySem.F.type_list_pop mt_popAt h (pa_cons he pa_nil hs) hbase hfew hline hs rfl)
/-- x.count(e), x.index(e), x a variable's list -/
theorem b_count {i : Nat} (B : Bd X M N sc wr j G W) (h : PE X a (tVar i)) (he : BOk X G W b db) (hs : starEach [b] X.env = (false, eval b X.env) :: starEach [] X.env := by rfl) (hbase : attributeBase a "count" X.env (eval a X.env) = eval a X.env := by rfl) (hline : (apos.endLine == pos.line) = true := by rfl)
    (hfew : ((backTo pos (starEach [b] X.env)).all (fun x => !x.1) && (backToKw pos (keywordEach [] X.env)).all (fun x => x.1.isSome) && decide ([b].length + ([] : List Keyword).length + (if ([] : List Keyword).isEmpty then 0 else 1) < 30)) = true := by rfl) :
    EOk X G W (.Call (.Attribute a "count" apos) [b] [] pos) (dLM i db pCount) :=
  e_mV B.ct om_count (pe_bm PySem.F.plainAttrs_list PySem.F.slot_list_count PySem.F.type_list_count (mt_countD B.un) h (pa_cons he pa_nil hs) hbase hfew hline hs rfl)
theorem b_index {i : Nat} (B : Bd X M N sc wr j G W) (h : PE X a (tVar i)) (he : BOk X G W b db) (hs : starEach [b] X.env = (false, eval b X.env) :: starEach [] X.env := by rfl) (hbase : attributeBase a "index" X.env (eval a X.env) = eval a X.env := by rfl) (hline : (apos.endLine == pos.line) = true := by rfl)
    (hfew : ((backTo pos (starEach [b] X.env)).all (fun x => !x.1) && (backToKw pos (keywordEach [] X.env)).all (fun x => x.1.isSome) && decide ([b].length + ([] : List Keyword).length + (if ([] : List Keyword).isEmpty then 0 else 1) < 30)) = true := by rfl) :
    EOk X G W (.Call (.Attribute a "index" apos) [b] [] pos) (dLM i db pIndex) :=
  e_mV B.ct om_index (pe_bm PySem.F.plainAttrs_list PySem.F.slot_list_index PySem.F.type_list_index (mt_indexD B.un) h (pa_cons he pa_nil hs) hbase hfew hline hs rfl)
end
end PF

set_option Elab.async false
set_option linter.all false
set_option maxRecDepth 100000
namespace PF
open PySem PySem.Spec PyProof.Rows L2 LamX
theorem un_of : ∀ {T : List (Addr × Str)} {P : Addr} {q : Str}, (T.map (·.1)).Nodup → (P, q) ∈ T → ∀ p ∈ T, p.1 = P → p.2 = q
  | [], _, _, _, h, _, _, _ => by cases h
  | t :: T, P, q, nd, h, p, hp, e => by
    rw [List.map_cons, List.nodup_cons] at nd
    rcases List.mem_cons.mp h with h1 | h1
    · rcases List.mem_cons.mp hp with h2 | h2
      · rw [h2, ← h1]
      · subst h1
        exact absurd (List.mem_map.mpr ⟨p, h2, e⟩) nd.1
    · rcases List.mem_cons.mp hp with h2 | h2
      · subst h2
        exact absurd (List.mem_map.mpr ⟨(P, q), h1, e.symm⟩) nd.1
      · exact un_of nd.2 h1 p h2 e
theorem un64 {X : Cx} (h : X.A.units + 65 < cLine) : X.A.units + 64 < cLine := by omega
/-- the names of a tuple's targets that are plain local names of one line -/
def swNames (sc : Scope) (ts : List Expr) : List Str := ts.filterMap fun
  | .Name id pos => if sc.names.lookup id == some .local && pos.line == (ts.head?.map (·.pos.line)).getD 0 then some id else none
  | _ => none
theorem sw_none {env : PySem.Env} {sc : Scope} {ts vs : List Expr} {kt k2 : Nat} {pt pt2 : Pos} (he : env.scope = sc) (h : ((swNames sc ts).length != ts.length || vs.all (foldedForSure 8)) = true) :
    swappedStores [.Tuple ts kt pt] (.Tuple vs k2 pt2) env = pure none := by
  subst he
  unfold swappedStores
  simp only
  generalize hn : List.filterMap _ ts = nm
  have hn : swNames env.scope ts = nm := hn
  rw [hn] at h
  split
  · rfl
  · split
    · rfl
    · cases h1 : (nm.length != ts.length) with
      | true => rfl
      | false =>
        rw [h1, Bool.false_or] at h
        rw [Bool.false_or]
        first
          | rfl
          | (split <;> first | rfl | rw [if_pos h])
section
variable {X : Cx} {M : Mo} {N : List Str} {sc : Scope} {wr : Nat → Bool} {j : Nat} {G : Gam} {W : WX}
/-- a comprehension: one for, no or one if -/
theorem b_lc {elt tg iter : Expr} {ifs : List Expr} {scope : Scope} {own : List (Str × Nat)} {pos : Pos} {it : As} {g : Tg} {t : T} {e : E} (B : Bd X M N sc wr j G W) (hc : X.calm = true) (hi : IOk X G W tg iter it)
    (hg : ∀ (X' : Cx) (G' : Gam), Bd X' M N (relab scope sc) (fun i => (own.map (·.2)).contains i) j G' W0 → X'.calm = true → GOk X' G' (own.map (·.2)) tg g)
    (ht : ∀ (X' : Cx) (G' : Gam), Bd X' M N (relab scope sc) (fun i => (own.map (·.2)).contains i) j G' W0 → X'.calm = true → PTs X' ifs (LT G' W0 t))
    (he : ∀ (X' : Cx) (G' : Gam), Bd X' M N (relab scope sc) (fun i => (own.map (·.2)).contains i) j G' W0 → X'.calm = true → EOk X' G' W0 elt e)
    (hb : blkC N sc scope own = true := by kernel_rfl) (hw : (own.map (·.2)).all wr = true := by kernel_rfl) (hs : ∀ x, foldedSetIterable iter X.env x = pure x := by intro _; rfl) :
    FOk X G W (.ListComp elt [⟨tg, iter, ifs, 0⟩] scope pos) (fLc (own.map (·.2)) it g t e) :=
  f_lc (own := own) B.ct hc hi (B.blok hb) (B.iol hw) (fun _ _ _ _ _ G' hx => hg _ G' (B.blk hx) hc) (fun _ _ _ _ _ G' hx => ht _ G' (B.blk hx) hc) (fun _ _ _ _ _ G' hx => he _ G' (B.blk hx) hc) hs
/-- x = [.. for ..], x a plain local name -/
theorem b_ownLc {i : Nat} {y : Str} {py : Pos} {elt tg iter : Expr} {ifs : List Expr} {scope : Scope} {own : List (Str × Nat)} {pos spos : Pos} {it : As} {g : Tg} {t : T} {e : E} (B : Bd X M N sc wr j G W) (hc : X.calm = true) (hi : IOk X G W tg iter it)
    (hg : ∀ (X' : Cx) (G' : Gam), Bd X' M N (relab scope sc) (fun i => (own.map (·.2)).contains i) j G' W0 → X'.calm = true → GOk X' G' (own.map (·.2)) tg g)
    (ht : ∀ (X' : Cx) (G' : Gam), Bd X' M N (relab scope sc) (fun i => (own.map (·.2)).contains i) j G' W0 → X'.calm = true → PTs X' ifs (LT G' W0 t))
    (he : ∀ (X' : Cx) (G' : Gam), Bd X' M N (relab scope sc) (fun i => (own.map (·.2)).contains i) j G' W0 → X'.calm = true → EOk X' G' W0 elt e)
    (h : (N[i]? == some y && sc.names.lookup y == some .local && wr i && sc.kind == .function) = true := by kernel_rfl) (hl : (py.line == pos.line) = true := by kernel_rfl) (ha : (scope.names.any fun (n, k) => n == y && (k == .local || k == .cell)) = false := by kernel_rfl)
    (hb : blkC N sc scope own = true := by kernel_rfl) (hw : (own.map (·.2)).all wr = true := by kernel_rfl) (hs : ∀ x, foldedSetIterable iter X.env x = pure x := by intro _; rfl) :
    SOk X G W (.Assign [.Name y py] (.ListComp elt [⟨tg, iter, ifs, 0⟩] scope pos) spos) (sOwn i (fLc (own.map (·.2)) it g t e)) := by
  simp only [Bool.and_eq_true, beq_iff_eq] at h
  obtain ⟨⟨⟨h1, h2⟩, h3⟩, h4⟩ := h
  exact s_ownLc (own := own) B.ct hc (B.nx h1) (B.lk h2) (B.io h3) (sw_true (by rw [B.eS]; exact h4) (B.lk h2) hl ha) hi (B.blok hb) (B.iol hw) (fun _ _ _ _ _ G' hx => hg _ G' (B.blk hx) hc) (fun _ _ _ _ _ G' hx => ht _ G' (B.blk hx) hc) (fun _ _ _ _ _ G' hx => he _ G' (B.blk hx) hc) hs
/-- a list of one's own is a value at once -/
theorem s_ownFrz {st : Stmt} {i : Nat} {u : As} (h : SOk X G W st (sOwn i u)) (hio : ∀ q ∈ G.ix, q.1 ≠ i) : SOk X G W st (sSet i (dF u)) :=
  ps_weak h fun D σ H ⟨S, ρ, R, P⟩ => ⟨S, ρ, R, by
    unfold sSet dF at P
    unfold sOwn
    cases q : u ρ with
    | stuck => rw [q] at P; exact P.elim
    | exc x ρ1 => rw [q] at P; exact P
    | ok ps ρ1 =>
      rw [q] at P
      intro σ' S' H' e R'
      by_cases hi : i < ρ1.length
      · obtain ⟨S2, s2, R2⟩ := R'.freeze (i := i) (p := .lst ps) (List.getElem?_set_self hi) hio
        rw [List.set_set] at R2
        exact P σ' S2 H' (e.trans s2) R2
      · have e1 : ρ1.set i (.own (.lst ps)) = ρ1 := List.set_eq_of_length_le (by omega)
        have e2 : ρ1.set i (.val (.lst ps)) = ρ1 := List.set_eq_of_length_le (by omega)
        rw [e1] at R'
        have P : ∀ σ' S' H', Same S S' → Rel G S' H' (ρ1.set i (.val (.lst ps))) σ' → D.nx σ' H' := P
        rw [e2] at P
        exact P σ' S' H' e R'⟩
end
end PF

set_option Elab.async false
set_option linter.all false
set_option maxRecDepth 100000
namespace PF
open PySem L2

/-! ## Denotations, reckoned by simp -/
section
variable {α β : Type} {ρ ρ1 : Env} {a b c : E} {t u : T} {p q : PV} {i j : Nat} {n : Nat}
theorem bind_congr {o o' : Out α} {f : α → Env → Out β} (h : o = o') : o.bind f = o'.bind f := by rw [h]
@[simp] theorem bind_ok {x : α} {f : α → Env → Out β} : (Out.ok x ρ).bind f = f x ρ := rfl
@[simp] theorem bind_exc {x : Exc} {f : α → Env → Out β} : (Out.exc x ρ : Out α).bind f = .exc x ρ := rfl
@[simp] theorem bind_stuck {f : α → Env → Out β} : (Out.stuck : Out α).bind f = .stuck := rfl
@[simp] theorem bind_ite {P : Prop} [Decidable P] {x y : Out α} {f : α → Env → Out β} : (if P then x else y).bind f = if P then x.bind f else y.bind f := by split <;> rfl
@[simp] theorem ofO_some {x : α} : ofO (some x) ρ = .ok x ρ := rfl
@[simp] theorem ofO_none : ofO (none : Option α) ρ = .stuck := rfl
@[simp] theorem ofO_ite {P : Prop} [Decidable P] {x y : Option α} : ofO (if P then x else y) ρ = if P then ofO x ρ else ofO y ρ := by split <;> rfl
@[simp] theorem dC_e : dC p ρ = .ok p ρ := rfl
@[simp] theorem dV_e : dV i ρ = match ρ[i]? with | some (.val p) => .ok p ρ | _ => .stuck := rfl
@[simp] theorem dB_e : dB i ρ = match ρ[i]? with | some (.val p) => .ok p ρ | some (.own p) => .ok p ρ | _ => .stuck := rfl
@[simp ↓] theorem dOp_e {f : PV → PV → Option PV} : dOp f a b ρ = (a ρ).bind fun x ρ1 => (b ρ1).bind fun y ρ2 => ofO (f x y) ρ2 := rfl
@[simp ↓] theorem dUn_e {f : PV → Option PV} : dUn f a ρ = (a ρ).bind fun x ρ1 => ofO (f x) ρ1 := rfl
@[simp ↓] theorem tCmp_e {f : PV → PV → Option Bool} : tCmp f a b ρ = (a ρ).bind fun x ρ1 => (b ρ1).bind fun y ρ2 => ofO (f x y) ρ2 := rfl
@[simp ↓] theorem dT_e : dT t ρ = (t ρ).bind fun b ρ1 => .ok (.bl b) ρ1 := rfl
@[simp ↓] theorem tTru_e : tTru a ρ = (a ρ).bind fun x ρ1 => ofO (tru x) ρ1 := rfl
@[simp ↓] theorem tNot_e : tNot t ρ = (t ρ).bind fun b ρ1 => .ok (!b) ρ1 := rfl
@[simp ↓] theorem dNot_e : dNot a ρ = (a ρ).bind fun x ρ1 => (ofO (tru x) ρ1).bind fun b ρ2 => .ok (.bl (!b)) ρ2 := by
  unfold dNot dT tNot tTru
  cases a ρ with
  | ok x ρ1 => simp only [bind_ok]; cases ofO (tru x) ρ1 <;> rfl
  | exc x ρ1 => rfl
  | stuck => rfl
@[simp ↓] theorem tAnd_e : tAnd t u ρ = (t ρ).bind fun b ρ1 => if b = true then u ρ1 else .ok false ρ1 := by
  unfold tAnd
  congr
  funext b ρ1
  cases b <;> rfl
@[simp ↓] theorem tOr_e : tOr t u ρ = (t ρ).bind fun b ρ1 => if b = true then .ok true ρ1 else u ρ1 := by
  unfold tOr
  congr
  funext b ρ1
  cases b <;> rfl
@[simp ↓] theorem dIf_e : dIf t a b ρ = (t ρ).bind fun c ρ1 => if c = true then a ρ1 else b ρ1 := by
  unfold dIf
  congr
  funext b ρ1
  cases b <;> rfl
@[simp ↓] theorem dAnd_e : dAnd a b ρ = (a ρ).bind fun x ρ1 => (ofO (tru x) ρ1).bind fun k _ => if k = true then b ρ1 else .ok x ρ1 := by
  unfold dAnd
  congr
  funext x ρ1
  cases tru x with
  | none => rfl
  | some k => cases k <;> rfl
@[simp ↓] theorem dOr_e : dOr a b ρ = (a ρ).bind fun x ρ1 => (ofO (tru x) ρ1).bind fun k _ => if k = true then .ok x ρ1 else b ρ1 := by
  unfold dOr
  congr
  funext x ρ1
  cases tru x with
  | none => rfl
  | some k => cases k <;> rfl
@[simp ↓] theorem tChain_e {f g : PV → PV → Option Bool} : tChain f g a b c ρ = (a ρ).bind fun x ρ1 => (b ρ1).bind fun y ρ2 => (ofO (f x y) ρ2).bind fun k _ => if k = true then (c ρ2).bind fun z ρ3 => ofO (g y z) ρ3 else .ok false ρ2 := by
  unfold tChain
  congr
  funext x ρ1
  congr
  funext y ρ2
  cases f x y with
  | none => rfl
  | some k => cases k <;> rfl
@[simp] theorem aNil_e : aNil ρ = .ok [] ρ := rfl
@[simp ↓] theorem aCons_e {r : As} : aCons a r ρ = (a ρ).bind fun x ρ1 => (r ρ1).bind fun xs ρ2 => .ok (x :: xs) ρ2 := rfl
@[simp ↓] theorem dTup_e {r : As} : dTup r ρ = (r ρ).bind fun xs ρ1 => if xs.length ≤ 16777216 then .ok (.tup xs) ρ1 else .stuck := rfl
@[simp ↓] theorem fLst_e {r : As} : fLst r ρ = (r ρ).bind fun xs ρ1 => if xs.length ≤ 16777216 then .ok xs ρ1 else .stuck := rfl
@[simp ↓] theorem fCat_e : fCat a b ρ = (a ρ).bind fun x ρ1 => (b ρ1).bind fun y ρ2 => ofO (pCat x y) ρ2 := rfl
@[simp ↓] theorem fRep_e : fRep a b ρ = (a ρ).bind fun x ρ1 => (b ρ1).bind fun y ρ2 => ofO (pRep x y) ρ2 := rfl
@[simp ↓] theorem dF_e {r : As} : dF r ρ = (r ρ).bind fun xs ρ1 => .ok (.lst xs) ρ1 := rfl
@[simp ↓] theorem dLV_e {γ : Type} {b : Env → Out α} {f : PV → α → Option γ} : dLV i b f ρ = (dB i ρ).bind fun _ _ => (b ρ).bind fun y ρ2 => (dB i ρ2).bind fun x ρ3 => ofO (f x y) ρ3 := rfl
@[simp] theorem oNo_e : oNo ρ = .ok none ρ := rfl
@[simp ↓] theorem oSo_e : oSo a ρ = (a ρ).bind fun x ρ1 => match x with | .int i => .ok (some i) ρ1 | _ => .stuck := rfl
@[simp ↓] theorem oTwo_e {l h : Os} : oTwo l h ρ = (l ρ).bind fun x ρ1 => (h ρ1).bind fun y ρ2 => .ok (x, y) ρ2 := rfl
@[simp ↓] theorem dSl_e {l h : Os} : dSl a l h ρ = (a ρ).bind fun x ρ1 => (oTwo l h ρ1).bind fun b ρ2 => ofO (pSl x b) ρ2 := rfl
@[simp ↓] theorem fSl_e {l h : Os} : fSl a l h ρ = (a ρ).bind fun x ρ1 => (oTwo l h ρ1).bind fun b ρ2 => ofO (pSlL x b) ρ2 := rfl
@[simp ↓] theorem fUn_e {f : PV → Option (List PV)} : fUn f a ρ = (a ρ).bind fun x ρ1 => ofO (f x) ρ1 := rfl
@[simp] theorem fin_ret {io : List PV} : fin (.ret p io) ρ = .ok p ρ := rfl
@[simp] theorem fin_own {ps io : List PV} : fin (.own ps io) ρ = .ok (.lst ps) ρ := rfl
@[simp] theorem fin_exc {x : Exc} : fin (.exc x) ρ = .exc x ρ := rfl
@[simp] theorem fin_stuck : fin .stuck ρ = .stuck := rfl
@[simp] theorem fin_ite {P : Prop} [Decidable P] {x y : FOut} : fin (if P then x else y) ρ = if P then fin x ρ else fin y ρ := by split <;> rfl
@[simp ↓] theorem dCall_e {F : Fn} {r : As} : dCall F r ρ = (r ρ).bind fun ps ρ1 => fin (F ps) ρ1 := rfl
def finF (o : FOut) (ρ : Env) : Out (List PV) := match o with
  | .own qs _ => .ok qs ρ
  | .exc x => .exc x ρ
  | _ => .stuck
@[simp] theorem finF_own {ps io : List PV} : finF (.own ps io) ρ = .ok ps ρ := rfl
@[simp] theorem finF_exc {x : Exc} : finF (.exc x) ρ = .exc x ρ := rfl
@[simp ↓] theorem fCall_e {F : Fn} {r : As} : fCall F r ρ = (r ρ).bind fun ps ρ1 => finF (F ps) ρ1 := rfl
def finIO (i : Nat) (o : FOut) (ρ1 : Env) : Out PV := match o with
  | .ret p [h'] => .ok p (ρ1.set i (.own h'))
  | .own qs [h'] => .ok (.lst qs) (ρ1.set i (.own h'))
  | _ => .stuck
@[simp] theorem finIO_ret {h : PV} : finIO i (.ret p [h]) ρ = .ok p (ρ.set i (.own h)) := rfl
@[simp] theorem finIO_own {h : PV} {ps : List PV} : finIO i (.own ps [h]) ρ = .ok (.lst ps) (ρ.set i (.own h)) := rfl
@[simp ↓] theorem dCallIO_e {F : Fn} {r : As} : dCallIO F i r ρ = (dB i ρ).bind fun _ _ => (r ρ).bind fun ps ρ1 => match ρ1[i]? with
  | some (.own h) => finIO i (F (h :: ps)) ρ1
  | _ => .stuck := by
  unfold dCallIO
  congr
def finFIO (i : Nat) (o : FOut) (ρ1 : Env) : Out (List PV) := match o with
  | .own qs [h'] => .ok qs (ρ1.set i (.own h'))
  | _ => .stuck
@[simp] theorem finFIO_own {h : PV} {ps : List PV} : finFIO i (.own ps [h]) ρ = .ok ps (ρ.set i (.own h)) := rfl
@[simp ↓] theorem fCallIO_e {F : Fn} {r : As} : fCallIO F i r ρ = (dB i ρ).bind fun _ _ => (r ρ).bind fun ps ρ1 => match ρ1[i]? with
  | some (.own h) => finFIO i (F (h :: ps)) ρ1
  | _ => .stuck := by
  unfold fCallIO
  congr
@[simp ↓] theorem dLM_e {f : PV → PV → Option PV} : dLM i b f ρ = (dB i ρ).bind fun q _ => match isLst q with
  | true => (b ρ).bind fun y ρ2 => (dB i ρ2).bind fun x ρ3 => ofO (f x y) ρ3
  | false => .stuck := rfl
@[simp ↓] theorem dM1_e {f : PV → PV → Option PV} : dM1 a b f ρ = (a ρ).bind fun q ρ1 => match isLst q with
  | true => (b ρ1).bind fun y ρ2 => ofO (f q y) ρ2
  | false => .stuck := rfl
@[simp] theorem hfin_ret {io : List PV} : hfin (.ret p io) ρ = .ok p ρ := rfl
@[simp ↓] theorem dLam_e {hp : TR → FOut} : dLam hp a ρ = match a ρ with
  | .ok p ρ' => hfin (hp (.val p)) ρ'
  | .exc x ρ' => hfin (hp (.exc x)) ρ'
  | .stuck => .stuck := rfl
-- statements
@[simp] theorem sNext_e : sNext ρ = .ok .next ρ := rfl
def contS (f : Flow) (d : C) (ρ : Env) : Out Flow := match f with
  | .next => d ρ
  | f => .ok f ρ
theorem contS_congr {f f' : Flow} {d : C} {ρ ρ' : Env} (h : f = f') (h2 : ρ = ρ') : contS f d ρ = contS f' d ρ' := by rw [h, h2]
@[simp] theorem contS_next {d : C} : contS .next d ρ = d ρ := rfl
@[simp] theorem contS_brk {d : C} : contS .brk d ρ = .ok .brk ρ := rfl
@[simp] theorem contS_cont {d : C} : contS .cont d ρ = .ok .cont ρ := rfl
@[simp] theorem contS_ret {d : C} : contS (.ret p) d ρ = .ok (.ret p) ρ := rfl
@[simp] theorem contS_own {d : C} {ps : List PV} : contS (.own ps) d ρ = .ok (.own ps) ρ := rfl
@[simp ↓] theorem sSeq_e {c d : C} : sSeq c d ρ = (c ρ).bind fun f ρ1 => contS f d ρ1 := by
  unfold sSeq
  congr
@[simp ↓] theorem sExpr_e : sExpr a ρ = (a ρ).bind fun _ ρ1 => .ok .next ρ1 := rfl
@[simp ↓] theorem sSet_e : sSet i a ρ = (a ρ).bind fun p ρ1 => .ok .next (ρ1.set i (.val p)) := rfl
@[simp ↓] theorem sOwn_e {r : As} : sOwn i r ρ = (r ρ).bind fun ps ρ1 => .ok .next (ρ1.set i (.own (.lst ps))) := rfl
@[simp ↓] theorem sRet_e : sRet a ρ = (a ρ).bind fun p ρ1 => .ok (.ret p) ρ1 := rfl
@[simp] theorem sRetN_e : sRetN ρ = .ok (.ret .non) ρ := rfl
@[simp ↓] theorem sRetF_e {r : As} : sRetF r ρ = (r ρ).bind fun p ρ1 => .ok (.own p) ρ1 := rfl
@[simp] theorem sRetV_e : sRetV i ρ = match ρ[i]? with | some (.own (.lst ps)) => .ok (.own ps) (ρ.set i .unb) | _ => .stuck := rfl
@[simp ↓] theorem sIf_e {c d : C} : sIf t c d ρ = (t ρ).bind fun b ρ1 => if b = true then c ρ1 else d ρ1 := by
  unfold sIf
  congr
  funext b ρ1
  cases b <;> rfl
@[simp ↓] theorem sFrz_e {d : C} : sFrz i d ρ = match ρ[i]? with | some (.own p) => d (ρ.set i (.val p)) | _ => d ρ := rfl
@[simp] theorem sBrk_e : sBrk ρ = .ok .brk ρ := rfl
@[simp] theorem sCont_e : sCont ρ = .ok .cont ρ := rfl
@[simp] theorem sRaise_e {x : Str} : sRaise x ρ = .exc ⟨x, []⟩ ρ := rfl
@[simp ↓] theorem sPar_e {is : List Nat} {r : As} : sPar is r ρ = (r ρ).bind fun ps ρ1 => if ps.length = is.length then .ok .next ((is.zip ps).foldl (fun ρ q => ρ.set q.1 (.val q.2)) ρ1) else .stuck := rfl
@[simp ↓] theorem sAsg_e {g : Tg} : sAsg g a ρ = (a ρ).bind fun p ρ1 => match g p ρ1 with | some ρ2 => .ok .next ρ2 | none => .stuck := rfl
@[simp] theorem gN_e : gN i p ρ = some (ρ.set i (.val p)) := rfl
@[simp] theorem gs0_e : gs0 [] ρ = some ρ := rfl
@[simp] theorem gsC_e {g : Tg} {r : Tgs} {ps : List PV} : gsC g r (p :: ps) ρ = match g p ρ with | some ρ1 => r ps ρ1 | none => none := rfl
@[simp] theorem gT_e {g : Tgs} {ps : List PV} : gT n g (.tup ps) ρ = if ps.length = n then g ps ρ else none := rfl
@[simp ↓] theorem sApp_e : sApp i a ρ = match ρ[i]? with
  | some (Slot.own _) => (a ρ).bind fun p ρ1 => match ρ1[i]? with
    | some (Slot.own (.lst ps)) => if ps.length < 16777216 then .ok .next (ρ1.set i (.own (.lst (ps ++ [p])))) else .stuck
    | _ => .stuck
  | _ => .stuck := rfl
@[simp ↓] theorem sExt_e : sExt i a ρ = match ρ[i]? with
  | some (Slot.own _) => (a ρ).bind fun p ρ1 => match ρ1[i]? with
    | some (Slot.own q) => match pCat q p with
      | some zs => .ok .next (ρ1.set i (.own (.lst zs)))
      | none => .stuck
    | _ => .stuck
  | _ => .stuck := rfl
@[simp ↓] theorem sSetI_e {ix : E} : sSetI i a ix ρ = (a ρ).bind fun p ρ1 => match ρ1[i]? with
  | some (Slot.own _) => (ix ρ1).bind fun k ρ2 => match ρ2[i]? with
    | some (Slot.own (.lst ps)) => match k with
      | .int k => match ixN ps.length k with
        | some j => .ok .next (ρ2.set i (.own (.lst (ps.set j p))))
        | none => .stuck
      | _ => .stuck
    | _ => .stuck
  | _ => .stuck := rfl
@[simp ↓] theorem sFor_e {it : As} {g : Tg} {c : C} : sFor it g c ρ = (it ρ).bind fun xs ρ1 => forL g c xs ρ1 := rfl
@[simp ↓] theorem iU_e {f : PV → Option (List PV)} : iU f a ρ = (a ρ).bind fun x ρ1 => ofO (f x) ρ1 := rfl
@[simp ↓] theorem iA_e {f : List PV → Option (List PV)} {r : As} : iA f r ρ = (r ρ).bind fun x ρ1 => ofO (f x) ρ1 := rfl
@[simp ↓] theorem fLc_e {vs : List Nat} {it : As} {g : Tg} {e : E} : fLc vs it g t e ρ = (it ρ).bind fun xs ρ1 => lcL g t e vs xs [] (wipeE ρ1 vs) := rfl
@[simp] theorem tYesD_e : tYesD ρ = .ok true ρ := rfl
@[simp] theorem wipeE_nil : wipeE ρ [] = ρ := rfl
@[simp] theorem wipeE_cons {v : Nat} {vs : List Nat} : wipeE ρ (v :: vs) = (wipeE ρ vs).set v .unb := rfl
-- values
@[simp] theorem pAdd_i {i j : Int} : pAdd (.int i) (.int j) = some (.int (i + j)) := rfl
@[simp] theorem pAdd_t {a b : List PV} : pAdd (.tup a) (.tup b) = if a.length + b.length ≤ 16777216 then some (.tup (a ++ b)) else none := rfl
@[simp] theorem pCat_l {a b : List PV} : pCat (.lst a) (.lst b) = if a.length + b.length ≤ 16777216 then some (a ++ b) else none := rfl
@[simp] theorem pSub_i {i j : Int} : pSub (.int i) (.int j) = some (.int (i - j)) := rfl
theorem pMul_i {i j : Int} (h : mulOk i j = true) : pMul (.int i) (.int j) = some (.int (i * j)) := if_pos h
theorem pFloor_i {i j : Int} (h : 0 < j) (h2 : j.natAbs.log2 < 9000) : pFloor (.int i) (.int j) = some (.int (i / j)) := if_pos ⟨h, h2⟩
theorem pMod_i {i j : Int} (h : 0 < j) : pMod (.int i) (.int j) = some (.int (i % j)) := if_pos h
theorem pShl_i {i j : Int} (h : 0 ≤ j) (h2 : (Builtin.Int.intBits i : Int) + j ≤ 134217728) : pShl (.int i) (.int j) = some (.int (i * 2 ^ j.toNat)) := if_pos ⟨h, h2⟩
theorem pShr_i {i j : Int} (h : 0 ≤ j) : pShr (.int i) (.int j) = some (.int (i / 2 ^ j.toNat)) := if_pos h
@[simp] theorem pAnd_i {i j : Int} : pAnd (.int i) (.int j) = some (.int (Builtin.bitAnd i j)) := rfl
@[simp] theorem pOr_i {i j : Int} : pOr (.int i) (.int j) = some (.int (Builtin.bitOr i j)) := rfl
@[simp] theorem pXor_i {i j : Int} : pXor (.int i) (.int j) = some (.int (Builtin.bitXor i j)) := rfl
@[simp] theorem pNeg_i {i : Int} : pNeg (.int i) = some (.int (-i)) := rfl
@[simp] theorem pInv_i {i : Int} : pInv (.int i) = some (.int (Builtin.bitNot i)) := rfl
@[simp] theorem cLt_i {i j : Int} : cLt (.int i) (.int j) = some (decide (i < j)) := rfl
@[simp] theorem cLe_i {i j : Int} : cLe (.int i) (.int j) = some (decide (i ≤ j)) := rfl
@[simp] theorem cGt_i {i j : Int} : cGt (.int i) (.int j) = some (decide (j < i)) := rfl
@[simp] theorem cGe_i {i j : Int} : cGe (.int i) (.int j) = some (decide (j ≤ i)) := rfl
@[simp] theorem cEq_e : cEq p q = if dep p ≤ 60 ∧ dep q ≤ 60 then some (eqv p q) else none := rfl
@[simp] theorem cNe_e : cNe p q = if dep p ≤ 60 ∧ dep q ≤ 60 then some (!eqv p q) else none := rfl
@[simp] theorem eqv_ii {i j : Int} : eqv (.int i) (.int j) = (i == j) := by simp only [eqv]
@[simp] theorem eqv_bb {i j : Bool} : eqv (.bl i) (.bl j) = (i == j) := by simp only [eqv]
@[simp] theorem eqv_ss {i j : Str} : eqv (.str i) (.str j) = decide (i = j) := by simp only [eqv]; rfl
@[simp] theorem eqv_tt {i j : List PV} : eqv (.tup i) (.tup j) = eqvs i j := by simp only [eqv]
@[simp] theorem eqv_ll {i j : List PV} : eqv (.lst i) (.lst j) = eqvs i j := by simp only [eqv]
@[simp] theorem eqv_nn : eqv .non .non = true := by simp only [eqv]
@[simp] theorem eqvs_nil : eqvs [] [] = true := by simp only [eqvs]
@[simp] theorem eqvs_cons {xs ys : List PV} : eqvs (p :: xs) (q :: ys) = (eqv p q && eqvs xs ys) := by simp only [eqvs]
@[simp] theorem dep_i {i : Int} : dep (.int i) = 0 := by simp only [dep]
@[simp] theorem dep_b {i : Bool} : dep (.bl i) = 0 := by simp only [dep]
@[simp] theorem dep_n : dep .non = 0 := by simp only [dep]
@[simp] theorem dep_t {xs : List PV} : dep (.tup xs) = deps xs + 1 := by simp only [dep]
@[simp] theorem dep_l {xs : List PV} : dep (.lst xs) = deps xs + 1 := by simp only [dep]
theorem dep_s {x : Str} (h : PyData.strOk x = true) : dep (.str x) = 0 := by simp only [dep]; exact if_pos h
@[simp] theorem deps_nil : deps [] = 0 := by simp only [deps]
@[simp] theorem deps_cons {xs : List PV} : deps (p :: xs) = max (dep p) (deps xs) := by simp only [deps]
theorem deps_ints (ns : List Int) : deps (ns.map PV.int) = 0 := by
  induction ns with
  | nil => simp
  | cons n ns ih => simp [ih]
@[simp] theorem tru_n : tru .non = some false := rfl
@[simp] theorem tru_b {k : Bool} : tru (.bl k) = some k := rfl
@[simp] theorem tru_i {i : Int} : tru (.int i) = some (i != 0) := rfl
@[simp] theorem tru_t {xs : List PV} : tru (.tup xs) = some (!xs.isEmpty) := rfl
@[simp] theorem tru_l {xs : List PV} : tru (.lst xs) = some (!xs.isEmpty) := rfl
@[simp] theorem cIsN_n : cIsN .non .non = some true := rfl
@[simp] theorem cIsN_i {i : Int} : cIsN (.int i) .non = some false := rfl
@[simp] theorem cIsN_t {i : List PV} : cIsN (.tup i) .non = some false := rfl
@[simp] theorem cIsN_s {i : Str} : cIsN (.str i) .non = some false := rfl
@[simp] theorem cIsN_l {i : List PV} : cIsN (.lst i) .non = some false := rfl
@[simp] theorem cNotN_n : cNotN .non .non = some false := rfl
@[simp] theorem cNotN_i {i : Int} : cNotN (.int i) .non = some true := rfl
@[simp] theorem cNotN_t {i : List PV} : cNotN (.tup i) .non = some true := rfl
@[simp] theorem cNotN_s {i : Str} : cNotN (.str i) .non = some true := rfl
@[simp] theorem cNotN_l {i : List PV} : cNotN (.lst i) .non = some true := rfl
@[simp] theorem pInt_i {i : Int} : pInt (.int i) = some (.int i) := rfl
@[simp] theorem pInt_b {i : Bool} : pInt (.bl i) = some (.int (if i then 1 else 0)) := rfl
@[simp] theorem pAbs_i {i : Int} : pAbs (.int i) = some (.int (if i < 0 then -i else i)) := rfl
@[simp] theorem pTuple_l {xs : List PV} : pTuple (.lst xs) = some (.tup xs) := rfl
@[simp] theorem pTuple_t {xs : List PV} : pTuple (.tup xs) = some (.tup xs) := rfl
@[simp] theorem pLen_l {xs : List PV} : pLen (.lst xs) = some (.int (xs.length : Nat)) := rfl
@[simp] theorem pLen_t {xs : List PV} : pLen (.tup xs) = some (.int (xs.length : Nat)) := rfl
@[simp] theorem itemsOf_l {xs : List PV} : itemsOf (.lst xs) = some xs := rfl
@[simp] theorem itemsOf_t {xs : List PV} : itemsOf (.tup xs) = some xs := rfl
@[simp] theorem itOf_l {xs : List PV} : itOf (.lst xs) = some xs := rfl
@[simp] theorem itOf_t {xs : List PV} : itOf (.tup xs) = some xs := rfl
@[simp] theorem itOf_s {xs : List PV} : itOf (.scr xs) = some xs := rfl
@[simp] theorem isLst_l {xs : List PV} : isLst (.lst xs) = true := rfl
@[simp] theorem pRng1_i {i : Int} : pRng1 [.int i] = if i62 i = true then some (rngP 0 i.toNat) else none := rfl
@[simp] theorem pRng2_i {i j : Int} : pRng2 [.int i, .int j] = if (i62 i && i62 j) = true then some (rngP i (j - i).toNat) else none := rfl
theorem i62_of {i : Int} (h : -4611686018427387904 ≤ i) (h2 : i < 4611686018427387904) : i62 i = true := by
  unfold i62
  simp [h, h2]
-- defs
@[simp] theorem initE_0 : initE 0 [] = [] := rfl
@[simp] theorem initE_n : initE (n + 1) [] = .unb :: initE n [] := by
  simp [initE, List.replicate_succ]
@[simp] theorem initE_c {s : Slot} {ss : List Slot} : initE (n + 1) (s :: ss) = s :: initE n ss := by
  simp [initE]
@[simp] theorem runB_f {d : C} {ps : List PV} {ar : Nat} : runB false n ar d ps = if ps.length = ar then outF (d (initE n (ps.map .val))) else .stuck := rfl
@[simp] theorem runB_t {d : C} {h : PV} {ps : List PV} {ar : Nat} : runB true n ar d (h :: ps) = if ps.length + 1 = ar then outIO (d (initE n (.own h :: ps.map .val))) else .stuck := rfl
@[simp] theorem outF_next : outF (.ok .next ρ) = .ret .non [] := rfl
@[simp] theorem outF_ret : outF (.ok (.ret p) ρ) = .ret p [] := rfl
@[simp] theorem outF_own {ps : List PV} : outF (.ok (.own ps) ρ) = .own ps [] := rfl
@[simp] theorem outF_exc {x : Exc} : outF (.exc x ρ) = .exc x := rfl
@[simp] theorem outF_stuck : outF .stuck = .stuck := rfl
@[simp] theorem outF_ite {P : Prop} [Decidable P] {x y : Out Flow} : outF (if P then x else y) = if P then outF x else outF y := by split <;> rfl
@[simp] theorem outIO_ite {P : Prop} [Decidable P] {x y : Out Flow} : outIO (if P then x else y) = if P then outIO x else outIO y := by split <;> rfl
@[simp] theorem outIO_next {h : PV} {r : Env} : outIO (.ok .next (.own h :: r)) = .ret .non [h] := rfl
@[simp] theorem outIO_ret {h : PV} {r : Env} : outIO (.ok (.ret p) (.own h :: r)) = .ret p [h] := rfl
@[simp] theorem outIO_own {h : PV} {ps : List PV} {r : Env} : outIO (.ok (.own ps) (.own h :: r)) = .own ps [h] := rfl
end
theorem forL_congr {g : Tg} {b : C} {xs xs' : List PV} {ρ ρ' : Env} (h : xs = xs') (h2 : ρ = ρ') : forL g b xs ρ = forL g b xs' ρ' := by rw [h, h2]
theorem lcL_congr {g : Tg} {t : T} {e : E} {vs : List Nat} {xs xs' acc acc' : List PV} {ρ ρ' : Env} (h : xs = xs') (h3 : acc = acc') (h2 : ρ = ρ') : lcL g t e vs xs acc ρ = lcL g t e vs xs' acc' ρ' := by rw [h, h2, h3]
/-- a for loop whose body keeps to the next row -/
theorem forL_inv {g : Tg} {b : C} (I : Env → Prop) : ∀ (xs : List PV) (ρ : Env), I ρ → (∀ x ∈ xs, ∀ ρ, I ρ → ∃ ρ1 ρ2, g x ρ = some ρ1 ∧ b ρ1 = .ok .next ρ2 ∧ I ρ2) → ∃ ρ', forL g b xs ρ = .ok .next ρ' ∧ I ρ'
  | [], ρ, h, _ => ⟨ρ, rfl, h⟩
  | x :: xs, ρ, h, st => by
    obtain ⟨ρ1, ρ2, e1, e2, h2⟩ := st x List.mem_cons_self ρ h
    obtain ⟨ρ', e', h'⟩ := forL_inv I xs ρ2 h2 fun y hy => st y (List.mem_cons_of_mem _ hy)
    refine ⟨ρ', ?_, h'⟩
    unfold forL
    rw [e1]
    show (b ρ1).bind _ = _
    rw [e2]
    exact e'
/-- .. with a state of plain Lean that the items lead on -/
theorem forL_fold {σ : Type} {g : Tg} {b : C} (I : σ → Env → Prop) (f : σ → PV → σ) : ∀ (xs : List PV) (s : σ) (ρ : Env), I s ρ → (∀ x ∈ xs, ∀ s ρ, I s ρ → ∃ ρ1 ρ2, g x ρ = some ρ1 ∧ b ρ1 = .ok .next ρ2 ∧ I (f s x) ρ2) → ∃ ρ', forL g b xs ρ = .ok .next ρ' ∧ I (xs.foldl f s) ρ'
  | [], s, ρ, h, _ => ⟨ρ, rfl, h⟩
  | x :: xs, s, ρ, h, st => by
    obtain ⟨ρ1, ρ2, e1, e2, h2⟩ := st x List.mem_cons_self s ρ h
    obtain ⟨ρ', e', h'⟩ := forL_fold I f xs (f s x) ρ2 h2 fun y hy => st y (List.mem_cons_of_mem _ hy)
    refine ⟨ρ', ?_, h'⟩
    unfold forL
    rw [e1]
    show (b ρ1).bind _ = _
    rw [e2]
    exact e'
/-- a comprehension over a row, step by step -/
theorem lcL_map {g : Tg} {e : E} {vs : List Nat} (f : PV → PV) (ρ0 : Env) : ∀ (xs acc : List PV), acc.length + xs.length ≤ 16777216 → (∀ x ∈ xs, ∃ ρ1 ρ2, g x ρ0 = some ρ1 ∧ e ρ1 = .ok (f x) ρ2 ∧ wipeE ρ2 vs = ρ0) → lcL g tYesD e vs xs acc ρ0 = .ok (acc ++ xs.map f) ρ0
  | [], acc, _, _ => by simp [lcL]
  | x :: xs, acc, hl, st => by
    obtain ⟨ρ1, ρ2, e1, e2, h2⟩ := st x List.mem_cons_self
    unfold lcL
    rw [e1]
    simp only [tYesD, noX, bind_ok, e2]
    rw [if_pos (by simp only [List.length_cons] at hl; show acc.length < 16777216; omega), h2, lcL_map f ρ0 xs (acc ++ [f x]) (by simp at hl ⊢; omega) fun y hy => st y (List.mem_cons_of_mem _ hy)]
    simp
end PF

set_option Elab.async false
set_option linter.all false
set_option maxRecDepth 100000
namespace PF
open PySem L2

/-! ## Plain lemmas for the laws -/
/-- things that a law hands in: no defs, no script -/
def isDat : PV → Bool
  | .fn _ => false
  | .scr _ => false
  | _ => true
@[simp] theorem isDat_n : isDat .non = true := by simp only [isDat]
@[simp] theorem isDat_b {b : Bool} : isDat (.bl b) = true := by simp only [isDat]
@[simp] theorem isDat_i {b : Int} : isDat (.int b) = true := by simp only [isDat]
@[simp] theorem isDat_s {b : Str} : isDat (.str b) = true := by simp only [isDat]
@[simp] theorem isDat_t {b : List PV} : isDat (.tup b) = true := by simp only [isDat]
@[simp] theorem isDat_l {b : List PV} : isDat (.lst b) = true := by simp only [isDat]
def isI : PV → Bool
  | .int _ => true
  | _ => false
@[simp] theorem isI_n : isI .non = false := by simp only [isI]
@[simp] theorem isI_b {b : Bool} : isI (.bl b) = false := by simp only [isI]
@[simp] theorem isI_i {b : Int} : isI (.int b) = true := by simp only [isI]
@[simp] theorem isI_s {b : Str} : isI (.str b) = false := by simp only [isI]
@[simp] theorem isI_t {b : List PV} : isI (.tup b) = false := by simp only [isI]
@[simp] theorem isI_l {b : List PV} : isI (.lst b) = false := by simp only [isI]
def inR (p : PV) (a b : Int) : Bool := match p with
  | .int i => decide (a ≤ i) && decide (i ≤ b)
  | _ => false
@[simp] theorem inR_n {a b : Int} : inR .non a b = false := by simp only [inR]
@[simp] theorem inR_b {k : Bool} {a b : Int} : inR (.bl k) a b = false := by simp only [inR]
@[simp] theorem inR_i {i a b : Int} : inR (.int i) a b = (decide (a ≤ i) && decide (i ≤ b)) := by simp only [inR]
@[simp] theorem inR_s {x : Str} {a b : Int} : inR (.str x) a b = false := by simp only [inR]
@[simp] theorem inR_t {x : List PV} {a b : Int} : inR (.tup x) a b = false := by simp only [inR]
@[simp] theorem inR_l {x : List PV} {a b : Int} : inR (.lst x) a b = false := by simp only [inR]
theorem inR_of {i a b : Int} (h : a ≤ i) (h2 : i ≤ b) : inR (.int i) a b = true := by simp [h, h2]
theorem inR_iff {p : PV} {a b : Int} (h : inR p a b = true) : ∃ i, p = .int i ∧ a ≤ i ∧ i ≤ b := by
  cases p with
  | int i =>
    simp only [inR_i, Bool.and_eq_true, decide_eq_true_eq] at h
    exact ⟨i, rfl, h.1, h.2⟩
  | _ => cases h

/-! ### products, powers of two -/
theorem mulOk_l {i j : Int} (h : i.natAbs < 18446744073709551616) : mulOk i j = true := by unfold mulOk; rw [show (2 : Nat) ^ 64 = 18446744073709551616 from rfl]; simp [h]
theorem mulOk_r {i j : Int} (h : j.natAbs < 18446744073709551616) : mulOk i j = true := by unfold mulOk; rw [show (2 : Nat) ^ 64 = 18446744073709551616 from rfl]; simp [h]
theorem intBits_1 : Builtin.Int.intBits 1 = 1 := by decide
theorem shl1 {w : Int} (h : 0 ≤ w) (h2 : w ≤ 100000000) : pShl (.int 1) (.int w) = some (.int (2 ^ w.toNat)) := by
  rw [pShl_i h (by rw [intBits_1]; omega), Int.one_mul]
theorem two_pos (n : Nat) : (0 : Int) < 2 ^ n := Int.pow_pos (by decide)
theorem two_le {m n : Nat} (h : m ≤ n) : (2 : Int) ^ m ≤ 2 ^ n := by
  have := Nat.pow_le_pow_right (n := 2) (by decide) h
  exact_mod_cast this
theorem two_lt {m n : Nat} (h : m < n) : (2 : Int) ^ m < 2 ^ n := by
  have := Nat.pow_lt_pow_right (a := 2) (by decide) h
  exact_mod_cast this
theorem two_64 {w : Int} (h : 0 ≤ w) (h2 : w ≤ 64) : (2 : Int) ^ w.toNat ≤ 18446744073709551616 := by
  have := two_le (m := w.toNat) (n := 64) (by omega)
  simpa using this
@[simp] theorem pPow_e {i j : Int} : pPow (.int i) (.int j) = if 0 ≤ j ∧ j ≤ 1000000 ∧ i.natAbs < 18446744073709551616 then some (.int (i ^ j.toNat)) else none := rfl
theorem pMul_r {i j : Int} (h : j.natAbs < 18446744073709551616) : pMul (.int i) (.int j) = some (.int (i * j)) := pMul_i (mulOk_r h)
theorem pMul_l {i j : Int} (h : i.natAbs < 18446744073709551616) : pMul (.int i) (.int j) = some (.int (i * j)) := pMul_i (mulOk_l h)
theorem pMul_w {i j : Int} (h : 0 ≤ i) (h2 : i < 18446744073709551616) : pMul (.int i) (.int j) = some (.int (i * j)) := pMul_i (mulOk_l (by omega))
theorem pMul_em {x m j : Int} (h : 0 < m) (h2 : m ≤ 18446744073709551616) : pMul (.int (x % m)) (.int j) = some (.int (x % m * j)) := by
  have := Int.emod_nonneg x (b := m) (by omega)
  have := Int.emod_lt_of_pos x h
  exact pMul_w (by omega) (by omega)
theorem log2_64 {j : Int} (h : 0 < j) (h2 : j ≤ 18446744073709551616) : j.natAbs.log2 < 9000 := by
  have hn : j.natAbs ≠ 0 := by omega
  have hb : j.natAbs < 2 ^ 65 := by rw [show (2 : Nat) ^ 65 = 36893488147419103232 from rfl]; omega
  have := (Nat.log2_lt hn).mpr hb
  omega
theorem pFloor_64 {i j : Int} (h : 0 < j) (h2 : j ≤ 18446744073709551616) : pFloor (.int i) (.int j) = some (.int (i / j)) := pFloor_i h (log2_64 h h2)
/-! ### places of a row -/
theorem atI_nat {α : Type} {xs : List α} {i : Int} (h : 0 ≤ i) (h2 : i < xs.length) : atI xs i = xs[i.toNat]? := by
  unfold atI ixN
  rw [if_pos h, if_pos h2]
  rfl
theorem atI_ints {ns : List Int} {i : Int} (h : 0 ≤ i) (h2 : i < ns.length) : ∃ n ∈ ns, atI (ns.map PV.int) i = some (.int n) := by
  have hl : i.toNat < ns.length := by omega
  refine ⟨ns[i.toNat], List.getElem_mem hl, ?_⟩
  rw [atI_nat h (by simpa using h2), List.getElem?_map, List.getElem?_eq_getElem hl]
  rfl
@[simp] theorem pIx_l {xs : List PV} {i : Int} : pIx (.lst xs) (.int i) = atI xs i := rfl
@[simp] theorem pIx_t {xs : List PV} {i : Int} : pIx (.tup xs) (.int i) = atI xs i := rfl
@[simp] theorem pIx_s {xs : List PV} {i : Int} : pIx (.scr xs) (.int i) = atI xs i := rfl
/-- the rests of a mixed number -/
theorem emod_rng (x : Int) {m : Int} (h : 0 < m) : 0 ≤ x % m ∧ x % m < m := ⟨Int.emod_nonneg _ (by omega), Int.emod_lt_of_pos _ h⟩
end PF
namespace PF
open PySem L2
theorem foldl_two {α : Type} : ∀ (xs : List α) (a : Int), xs.foldl (fun s _ => 2 * s) a = a * 2 ^ xs.length
  | [], a => by simp
  | x :: xs, a => by
    rw [List.foldl_cons, foldl_two xs, List.length_cons, Int.pow_succ]
    rw [Int.mul_comm 2 a, Int.mul_assoc, Int.mul_comm 2]
theorem rngP_mem {lo : Int} {n : Nat} {p : PV} (h : p ∈ rngP lo n) : ∃ i : Int, p = .int i ∧ lo ≤ i ∧ i < lo + n := by
  unfold rngP at h
  obtain ⟨k, hk, rfl⟩ := List.mem_map.mp h
  have := List.mem_range.mp hk
  exact ⟨_, rfl, by omega, by omega⟩
end PF
namespace PF
open PySem L2
/-! ### bits of numbers from nought -/
theorem bitNot_e (x : Int) : Builtin.bitNot x = -x - 1 := rfl
theorem bitAnd_nat (a b : Nat) : Builtin.bitAnd (a : Int) (b : Int) = ((a &&& b : Nat) : Int) := by
  unfold Builtin.bitAnd
  rw [decide_eq_true (Int.natCast_nonneg a), decide_eq_true (Int.natCast_nonneg b)]
  simp
theorem bitOr_nat (a b : Nat) : Builtin.bitOr (a : Int) (b : Int) = ((a ||| b : Nat) : Int) := by
  have h1 : (Builtin.bitNot (a : Int)) = -(a : Int) - 1 := rfl
  have h2 : (Builtin.bitNot (b : Int)) = -(b : Int) - 1 := rfl
  unfold Builtin.bitOr
  rw [h1, h2]
  unfold Builtin.bitAnd
  rw [decide_eq_false (show ¬ (0 ≤ -(a : Int) - 1) by omega), decide_eq_false (show ¬ (0 ≤ -(b : Int) - 1) by omega)]
  simp only [bitNot_e]
  have e1 : (-(-(a : Int) - 1) - 1).toNat = a := by omega
  have e2 : (-(-(b : Int) - 1) - 1).toNat = b := by omega
  rw [e1, e2]
  omega
theorem bitOr_low {a b : Int} {k : Nat} (ha : 0 ≤ a) (hb : 0 ≤ b) (h : b < 2 ^ k) : Builtin.bitOr (a * 2 ^ k) b = a * 2 ^ k + b := by
  obtain ⟨m, rfl⟩ := Int.eq_ofNat_of_zero_le ha
  obtain ⟨n, rfl⟩ := Int.eq_ofNat_of_zero_le hb
  have hn : n < 2 ^ k := by exact_mod_cast h
  have e : ((m : Int) * 2 ^ k) = ((2 ^ k * m : Nat) : Int) := by push_cast; rw [Int.mul_comm]
  rw [e, bitOr_nat, ← Nat.two_pow_add_eq_or_of_lt hn m]
  push_cast
  rfl
theorem bitAnd_mask {x : Int} {k : Nat} (h : 0 ≤ x) : Builtin.bitAnd x (2 ^ k - 1) = x % 2 ^ k := by
  obtain ⟨n, rfl⟩ := Int.eq_ofNat_of_zero_le h
  have hp : 1 ≤ 2 ^ k := Nat.one_le_two_pow
  have e : ((2 : Int) ^ k - 1) = ((2 ^ k - 1 : Nat) : Int) := by
    rw [Int.natCast_sub hp]; push_cast; rfl
  rw [e, bitAnd_nat, Nat.and_two_pow_sub_one_eq_mod]
  push_cast
  rfl
theorem shr_div {x : Int} {k : Int} (h : 0 ≤ k) : pShr (.int x) (.int k) = some (.int (x / 2 ^ k.toNat)) := pShr_i h
/-- the bits of a small number -/
theorem intBits_le {i : Int} {k : Nat} (h : i.natAbs < 2 ^ k) : Builtin.Int.intBits i ≤ k + 1 := by
  unfold Builtin.Int.intBits
  by_cases h0 : i = 0
  · simp [h0]
  · have hn : i.natAbs ≠ 0 := by omega
    have := (Nat.log2_lt hn).mpr h
    have hb : (i == 0) = false := by simpa using h0
    rw [hb]
    simp only [Bool.false_eq_true, if_false]
    omega
end PF
namespace PF
open PySem L2
@[simp] theorem lcL_nil {g : Tg} {t : T} {e : E} {vs : List Nat} {acc : List PV} {ρ : Env} : lcL g t e vs [] acc ρ = .ok acc ρ := rfl
theorem boolsOf_fn {α : Type} (g : α → Bool) : ∀ xs : List α, boolsOf (xs.map fun x => PV.bl (g x)) = some (xs.map g)
  | [] => rfl
  | x :: xs => by simp only [List.map_cons, boolsOf, boolsOf_fn g xs]
theorem pAll_fn {α : Type} (g : α → Bool) (xs : List α) : pAll (.lst (xs.map fun x => PV.bl (g x))) = some (.bl (xs.all g)) := by
  have e := boolsOf_fn g xs
  simp only [pAll, e]
  simp [List.all_map]
theorem pAny_fn {α : Type} (g : α → Bool) (xs : List α) : pAny (.lst (xs.map fun x => PV.bl (g x))) = some (.bl (xs.any g)) := by
  have e := boolsOf_fn g xs
  simp only [pAny, e]
  simp [List.any_map]
theorem intsOf_fn {α : Type} (g : α → Int) : ∀ xs : List α, intsOf (xs.map fun x => PV.int (g x)) = some (xs.map g)
  | [] => rfl
  | x :: xs => by simp only [List.map_cons, intsOf, intsOf_fn g xs]
theorem pSum_fn {α : Type} (g : α → Int) (xs : List α) : pSum (.lst (xs.map fun x => PV.int (g x))) = some (.int (xs.map g).sum) := by
  have e := intsOf_fn g xs
  simp only [pSum, e]
  rfl
theorem map_map' {α β γ : Type} (f : β → γ) (g : α → β) (xs : List α) : (xs.map g).map f = xs.map fun x => f (g x) := by simp
/-- a comprehension with a list that is handed in to be changed: what is made has P -/
theorem lcL_inv {g : Tg} {e : E} {vs : List Nat} (I : Env → Prop) (P : PV → Prop) : ∀ (xs acc : List PV) (ρ : Env), acc.length + xs.length ≤ 16777216 → I ρ → (∀ x ∈ xs, ∀ ρ, I ρ → ∃ ρ1 y ρ2, g x ρ = some ρ1 ∧ e ρ1 = .ok y ρ2 ∧ P y ∧ I (wipeE ρ2 vs)) → (∀ y ∈ acc, P y) →
    ∃ ys ρ', lcL g tYesD e vs xs acc ρ = .ok ys ρ' ∧ I ρ' ∧ (∀ y ∈ ys, P y) ∧ ys.length = acc.length + xs.length
  | [], acc, ρ, _, h, _, ha => ⟨acc, ρ, rfl, h, ha, rfl⟩
  | x :: xs, acc, ρ, hl, h, st, ha => by
    obtain ⟨ρ1, y, ρ2, e1, e2, hy, h2⟩ := st x List.mem_cons_self ρ h
    obtain ⟨ys, ρ', e', h', hp, hn⟩ := lcL_inv I P xs (acc ++ [y]) (wipeE ρ2 vs) (by simp at hl ⊢; omega) h2 (fun z hz => st z (List.mem_cons_of_mem _ hz)) (fun z hz => by
      rcases List.mem_append.mp hz with q | q
      · exact ha z q
      · rw [List.mem_singleton.mp q]; exact hy)
    refine ⟨ys, ρ', ?_, h', hp, by simp at hn ⊢; omega⟩
    unfold lcL
    rw [e1]
    simp only [tYesD, noX, bind_ok, e2]
    rw [if_pos (by simp only [List.length_cons] at hl; show acc.length < 16777216; omega)]
    exact e'
theorem ints_of {P : Int → Prop} : ∀ {ys : List PV}, (∀ y ∈ ys, ∃ i, y = .int i ∧ P i) → ∃ ns : List Int, ys = ns.map .int ∧ ∀ n ∈ ns, P n
  | [], _ => ⟨[], rfl, fun n h => by cases h⟩
  | y :: ys, h => by
    obtain ⟨i, rfl, hi⟩ := h y List.mem_cons_self
    obtain ⟨ns, rfl, hn⟩ := ints_of fun z hz => h z (List.mem_cons_of_mem _ hz)
    exact ⟨i :: ns, rfl, fun n hn' => by
      rcases List.mem_cons.mp hn' with q | q
      · rw [q]; exact hi
      · exact hn n q⟩
end PF

set_option Elab.async false
set_option linter.all false
set_option maxRecDepth 100000
namespace PF
open PySem PySem.Spec PyProof.Rows L2

/-! ## x, y = [], e: new lists among what is handed out -/
theorem Rel.wipeS {G : Gam} {S H : Hp} {ρ : Env} {σ : L2.St} (R : Rel G S H ρ σ) : ∀ {vs : List Nat}, (∀ q ∈ G.ix, q.1 ∉ vs) → Rel G S H (wipeE ρ vs) σ
  | [], _ => R
  | v :: vs, h => by
    have R1 := Rel.wipeS R (vs := vs) fun q hq z => h q hq (List.mem_cons_of_mem _ z)
    by_cases hv : v < σ.length
    · have R2 := R1.unbind v σ[v] fun q hq z => h q hq (by rw [z]; exact List.mem_cons_self)
      rw [List.set_getElem_self] at R2
      exact R2
    · have e : (wipeE ρ vs).set v .unb = wipeE ρ vs := List.set_eq_of_length_le (by rw [R1.len]; omega)
      show Rel G S H ((wipeE ρ vs).set v .unb) σ
      rw [e]
      exact R1
/-- a thing or a new list -/
abbrev XL := Sum PV (List PV)
abbrev Xs := Env → Out (List XL)
def putS : XL → Slot
  | .inl p => .val p
  | .inr ps => .own (.lst ps)
def RX (G : Gam) (σ : L2.St) (ρ : Env) (S H : Hp) : XL → V → Prop
  | .inl p, v => Rep G.k S p v
  | .inr ps, v => RF G σ ρ S H ps v
def apart (x : XL) (v : V) : List XL → List V → Prop
  | y :: ys, w :: ws => ((∃ p q, x = .inr p ∧ y = .inr q) → v ≠ w) ∧ apart x v ys ws
  | _, _ => True
def RM (G : Gam) (σ : L2.St) (ρ : Env) (S H : Hp) : List XL → List V → Prop
  | [], vs => vs = []
  | x :: xs, vs => ∃ v us, vs = v :: us ∧ RX G σ ρ S H x v ∧ apart x v xs us ∧ RM G σ ρ S H xs us
def LM (G : Gam) (W : WX) (d : Xs) : TA := fun σ H Q => ∃ S ρ, Rel G S H ρ σ ∧ Post G W σ (RM G σ) (d ρ) S Q
abbrev MOk (X : Cx) (G : Gam) (W : WX) (es : List Expr) (d : Xs) : Prop := PA X es (LM G W d)
def mNil : Xs := fun ρ => .ok [] ρ
def mE (a : E) (r : Xs) : Xs := fun ρ => (a ρ).bind fun x ρ1 => (r ρ1).bind fun xs ρ2 => .ok (.inl x :: xs) ρ2
def mF (vs : List Nat) (a : As) (r : Xs) : Xs := fun ρ => (a ρ).bind fun x ρ1 => (r (wipeE ρ1 vs)).bind fun xs ρ2 => .ok (.inr x :: xs) ρ2
section
variable {X : Cx} {G : Gam} {W : WX} {a : Expr} {es : List Expr} {da : E} {ua : As} {r : Xs}
theorem m_nil : MOk X G W [] mNil := pa_weak pa_nil fun σ H Q ⟨S, ρ, R, P⟩ => P [] S H (.refl _) R rfl
theorem apart_inl {p : PV} {v : V} : ∀ (ys : List XL) (ws : List V), apart (.inl p) v ys ws
  | [], _ => trivial
  | _ :: _, [] => trivial
  | _ :: ys, _ :: ws => ⟨fun ⟨_, _, h, _⟩ => by (cases h), apart_inl ys ws⟩
theorem m_e (ha : EOk X G W a da) (hr : MOk X G W es r) (hs : starEach (a :: es) X.env = (false, eval a X.env) :: starEach es X.env := by rfl) : MOk X G W (a :: es) (mE da r) :=
  pa_weak (pa_cons ha hr hs) fun σ H Q ⟨S, ρ, R, P⟩ => ⟨S, ρ, R, Post.bind (R1 := RE G.k) P fun x ρ1 v S1 H1 s1 R1 rv P1 => ⟨S1, ρ1, R1, Post.bind (R1 := RM G σ) P1 fun y ρ2 us S2 H2 s2 R2 ru P2 => P2 _ S2 H2 (.refl _) R2 ⟨v, us, rfl, rv.mono s2, apart_inl _ _, ru⟩⟩⟩
def LMx (k : Kx) (vs : List Nat) (W : WX) (d : Xs) : TA := fun σ H Q => ∃ G', XG k vs G' ∧ LM G' W d σ H Q
theorem pa_x {k : Kx} {vs : List Nat} (h : ∀ G', XG k vs G' → PA X es (LM G' W r)) : PA X es (LMx k vs W r) := ⟨fun at_ pins s σ H Q I ⟨G', hk, q⟩ => (h G' hk).run at_ pins s σ H Q I q⟩
theorem xg_nest {S H : Hp} {ρ : Env} {σ : L2.St} {vs : List Nat} (hvs : ∀ q ∈ G.ix, q.1 ∉ vs) : XG G.k vs (G.nest S H (wipeE ρ vs) σ) := ⟨rfl, fun q hq hz => by
  rcases List.mem_append.mp (show q ∈ ownL (wipeE ρ vs) σ ++ G.fx from hq) with hq | hq
  · obtain ⟨⟨w, h1⟩, _⟩ := mem_ownL.mp (show (q.1, q.2) ∈ ownL (wipeE ρ vs) σ from hq)
    cases wipeE_at ρ hz h1
  · exact hvs q (List.mem_append_right _ hq) hz⟩
theorem RX.out {S H S' H' : Hp} {ρ ρ' : Env} {σ : L2.St} (R : Rel G S H ρ σ) {x : XL} {v : V} (h : RX (G.nest S H ρ σ) σ ρ' S' H' x v) : RX G σ ρ' S' H' x v := by
  cases x with
  | inl p => exact h
  | inr ps =>
    obtain ⟨b, us, e, h0, h1⟩ := h
    exact ⟨b, us, e, R.freshNT h0, h1⟩
theorem RM.out {S H S' H' : Hp} {ρ ρ' : Env} {σ : L2.St} (R : Rel G S H ρ σ) : ∀ {xs : List XL} {vs : List V}, RM (G.nest S H ρ σ) σ ρ' S' H' xs vs → RM G σ ρ' S' H' xs vs
  | [], _, h => h
  | _ :: _, _, ⟨v, us, e, h1, h2, h3⟩ => ⟨v, us, e, h1.out R, h2, h3.out R⟩
theorem apart_new {S H S' H' : Hp} {ρ ρ' : Env} {σ : L2.St} {a : Addr} {o : HO} (ha : H a = some o) (hn : NoTb o) {ps : List PV} : ∀ {xs : List XL} {vs : List V}, RM (G.nest S H ρ σ) σ ρ' S' H' xs vs → apart (.inr ps) (.ref a) xs vs
  | [], _, _ => trivial
  | x :: xs, _, ⟨v, us, e, h1, h2, h3⟩ => by
    subst e
    refine ⟨fun ⟨_, q, _, e⟩ => ?_, apart_new ha hn h3⟩
    subst e
    obtain ⟨b, us, rfl, h0, _⟩ := h1
    intro z
    cases z
    exact h0 o ha hn
theorem m_f {vs : List Nat} (hvs : ∀ q ∈ G.ix, q.1 ∉ vs) (ha : FOk X G W a ua) (hr : ∀ G', XG G.k vs G' → MOk X G' W es r) (hs : starEach (a :: es) X.env = (false, eval a X.env) :: starEach es X.env := by rfl) : MOk X G W (a :: es) (mF vs ua r) :=
  pa_weak (pa_cons ha (pa_x hr) hs) fun σ H Q ⟨S, ρ, R, P⟩ => ⟨S, ρ, R, Post.bind (R1 := RF G σ) P fun x ρ1 v S1 H1 s1 R1 rf P1 => by
    have Rw := R1.wipeS hvs
    refine ⟨G.nest S1 H1 (wipeE ρ1 vs) σ, xg_nest hvs, S1, wipeE ρ1 vs, Rw.nest, ?_⟩
    obtain ⟨a0, us0, rfl, h0, hS, hH, hr0, hn⟩ := rf
    have hn' : NotOwn (wipeE ρ1 vs) σ a0 := fun i p h1 h2 => by
      by_cases hi : i ∈ vs
      · cases wipeE_at ρ1 hi h1
      · have wo : ∀ {ws : List Nat}, i ∉ ws → (wipeE ρ1 ws)[i]? = ρ1[i]? := by
          intro ws
          induction ws with
          | nil => intro _; rfl
          | cons x ws ih =>
            intro h
            unfold wipeE
            rw [List.getElem?_set_ne (fun z => h (by rw [z]; exact List.mem_cons_self))]
            exact ih fun z => h (List.mem_cons_of_mem _ z)
        rw [wo hi] at h1
        exact hn i p h1 h2
    cases q : r (wipeE ρ1 vs) with
    | ok ys ρ2 =>
      rw [q] at P1
      intro us S2 H2 s2 R2 rm
      obtain ⟨t1, t2, t3⟩ := Rw.through R2 hH hn' noTb_lst hS
      exact P1 _ S2 H2 s2 (Rw.unnest R2) ⟨_, us, rfl, ⟨a0, us0, rfl, h0, t2, t1, hr0.mono s2, t3⟩, apart_new hH noTb_lst rm, rm.out Rw⟩
    | exc x ρ2 =>
      rw [q] at P1
      intro cls d S2 H2 s2 R2 ex
      exact P1 cls d S2 H2 s2 (Rw.unnest R2) ex
    | stuck => rw [q] at P1; exact P1.elim⟩
theorem Rel.put {S H : Hp} {ρ : Env} {σ : L2.St} (R : Rel G S H ρ σ) {x : XL} {v : V} (h : RX G σ ρ S H x v) {i : Nat} (hio : ∀ q ∈ G.ix, q.1 ≠ i) : Rel G S H (ρ.set i (putS x)) (σ.set i (some v)) := by
  cases x with
  | inl p => exact R.set h hio
  | inr ps =>
    obtain ⟨b, us, rfl, h0, hS, hH, hr, hn⟩ := h
    exact R.setOwn h0 hS hH hr hn hio
theorem RX.keep {S H : Hp} {ρ : Env} {σ : L2.St} (hl : ρ.length = σ.length) {x y : XL} {v w : V} (h : RX G σ ρ S H y w) (ha : (∃ p q, x = .inr p ∧ y = .inr q) → v ≠ w) (i : Nat) : RX G (σ.set i (some v)) (ρ.set i (putS x)) S H y w := by
  cases y with
  | inl p => exact h
  | inr ps =>
    obtain ⟨b, us, rfl, h0, hS, hH, hr, hn⟩ := h
    refine ⟨b, us, rfl, h0, hS, hH, hr, fun j p h1 h2 => ?_⟩
    by_cases z : i = j
    · subst z
      have hj : i < ρ.length := by simpa using (List.getElem?_eq_some_iff.mp h1).1
      rw [List.getElem?_set_self hj] at h1
      rw [List.getElem?_set_self (by rw [← hl]; exact hj)] at h2
      cases x with
      | inl p' => cases h1
      | inr ps' =>
        cases h2
        exact ha ⟨_, _, rfl, rfl⟩ rfl
    · rw [List.getElem?_set_ne z] at h1 h2
      exact hn j p h1 h2
def sMix (is : List Nat) (a : Xs) : C := fun ρ => (a ρ).bind fun ps ρ1 => if ps.length = is.length then .ok .next ((is.zip ps).foldl (fun ρ q => ρ.set q.1 (putS q.2)) ρ1) else .stuck
end
section
variable {X : Cx} {M : Mo} {N : List Str} {sc : Scope} {wr : Nat → Bool} {jj : Nat} {G : Gam} {W : WX} {u : Xs}
theorem Bd.nst (B : Bd X M N sc wr jj G W) {vs : List Nat} {G' : Gam} (h : XG G.k vs G') : Bd X M N sc (fun i => vs.contains i) jj G' W where
  ePr := B.ePr
  eW := B.eW
  eK := B.eK
  eM := B.eM
  eB := B.eB
  eN := B.eN
  eS := B.eS
  eG := by rw [h.1]; exact B.eG
  tk := B.tk
  wr := fun p hp => by
    have := h.2 p hp
    simpa using this
  un := B.un
  room := B.room
  nd := B.nd
theorem b_mf {a : Expr} {es : List Expr} {ua : As} {r : Xs} {vs : List Nat} (B : Bd X M N sc wr jj G W) (ha : FOk X G W a ua) (hr : ∀ G', Bd X M N sc (fun i => vs.contains i) jj G' W → MOk X G' W es r) (hw : vs.all wr = true := by kernel_rfl) (hs : starEach (a :: es) X.env = (false, eval a X.env) :: starEach es X.env := by rfl) : MOk X G W (a :: es) (mF vs ua r) :=
  m_f (B.iol hw) ha (fun G' h => hr G' (B.nst h)) hs
theorem s_mix2 {i j : Nat} {x y : Str} {px py pt pt2 pos : Pos} {kt k2 : Nat} {e1 e2 : Expr} (B : Bd X M N sc wr jj G W) (hc : X.calm = true) (ha : MOk X G W [e1, e2] u) (h : (N[i]? == some x && N[j]? == some y && i != j && wr i && wr j && sc.kind == .function && sc.names.lookup x == some .local && sc.names.lookup y == some .local) = true := by kernel_rfl)
    (hl : (px.line == px.line && py.line == px.line) = true := by kernel_rfl) (hne : ([x, y].eraseDups.length != [x, y].length) = false := by kernel_rfl) (hst : ([e1, e2].any fun | .Starred .. => true | _ => false) = false := by rfl) (hf : [e1, e2].all (foldedForSure 8) = false := by kernel_rfl) (hca : [e1, e2].all (constantsAlone 8) = false := by kernel_rfl)
    (hs : swapsWithSole [.Tuple [.Name x px, .Name y py] kt pt] (.Tuple [e1, e2] k2 pt2) pos.line X.env = pure false := by rfl) : SOk X G W (.Assign [.Tuple [.Name x px, .Name y py] kt pt] (.Tuple [e1, e2] k2 pt2) pos) (sMix [i, j] u) := by
  simp only [Bool.and_eq_true, beq_iff_eq, bne_iff_ne] at h
  obtain ⟨⟨⟨⟨⟨⟨⟨h1, h2⟩, h3⟩, h4⟩, h5⟩, h6⟩, h7⟩, h8⟩ := h
  have hx := B.lk h7
  have hy := B.lk h8
  refine ps_weak (ps_par hc B.ct.nd (B.nx h1) (B.nx h2) h3 hx hy ha (sw2 (by rw [B.eS]; exact h6) hx hy hl hne hst hf hca) hs) fun D σ H ⟨S, ρ, R, P⟩ => ⟨S, ρ, R, PostS.bindE (R1 := RM G σ) P fun zs ρ' v S' H' e r rv P' => ?_⟩
  split at P'
  · rename_i hl
    match zs, hl with
    | [q1, q2], _ =>
      obtain ⟨v1, _, rfl, r1, ap, v2, _, rfl, r2, _, rfl⟩ := rv
      exact ⟨v1, v2, rfl, P' _ S' H' (.refl _) ((r.put r1 (B.io h4)).put (r2.keep r.len ap.1 i) (B.io h5))⟩
  · exact P'.elim
theorem s_mix3 {i j l : Nat} {x y z : Str} {px py pz pt pt2 pos : Pos} {kt k2 : Nat} {e1 e2 e3 : Expr} (B : Bd X M N sc wr jj G W) (hc : X.calm = true) (ha : MOk X G W [e1, e2, e3] u)
    (h : (N[i]? == some x && N[j]? == some y && N[l]? == some z && i != j && i != l && j != l && wr i && wr j && wr l && sc.kind == .function && sc.names.lookup x == some .local && sc.names.lookup y == some .local && sc.names.lookup z == some .local) = true := by kernel_rfl)
    (hl : (py.line == px.line && pz.line == px.line) = true := by kernel_rfl) (hne : ([x, y, z].eraseDups.length != [x, y, z].length) = false := by kernel_rfl) (hst : ([e1, e2, e3].any fun | .Starred .. => true | _ => false) = false := by rfl) (hf : [e1, e2, e3].all (foldedForSure 8) = false := by kernel_rfl) (hca : [e1, e2, e3].all (constantsAlone 8) = false := by kernel_rfl)
    (hs : swapsWithSole [.Tuple [.Name x px, .Name y py, .Name z pz] kt pt] (.Tuple [e1, e2, e3] k2 pt2) pos.line X.env = pure false := by rfl) : SOk X G W (.Assign [.Tuple [.Name x px, .Name y py, .Name z pz] kt pt] (.Tuple [e1, e2, e3] k2 pt2) pos) (sMix [i, j, l] u) := by
  simp only [Bool.and_eq_true, beq_iff_eq, bne_iff_ne] at h
  obtain ⟨⟨⟨⟨⟨⟨⟨⟨⟨⟨⟨⟨h1, h2⟩, h3⟩, h12⟩, h13⟩, h23⟩, w1⟩, w2⟩, w3⟩, hk⟩, l1⟩, l2⟩, l3⟩ := h
  have hx := B.lk l1
  have hy := B.lk l2
  have hz := B.lk l3
  refine ps_weak (ps_par3 hc B.nod (B.nx h1) (B.nx h2) (B.nx h3) h12 h13 h23 hx hy hz ha (sw3 (by rw [B.eS]; exact hk) hx hy hz hl hne hst hf hca) hs) fun D σ H ⟨S, ρ, R, P⟩ => ⟨S, ρ, R, PostS.bindE (R1 := RM G σ) P fun zs ρ' v S' H' e r rv P' => ?_⟩
  split at P'
  · rename_i hl
    match zs, hl with
    | [q1, q2, q3], _ =>
      obtain ⟨v1, _, rfl, r1, ap, v2, _, rfl, r2, ap2, v3, _, rfl, r3, _, rfl⟩ := rv
      have R1 := r.put r1 (B.io w1)
      have R2 := R1.put (r2.keep r.len ap.1 i) (B.io w2)
      have k3 := (r3.keep r.len ap.2.1 i).keep R1.len ap2.1 j
      exact ⟨v1, v2, v3, rfl, P' _ S' H' (.refl _) (R2.put k3 (B.io w3))⟩
  · exact P'.elim
end
@[simp] theorem mNil_e {ρ : Env} : mNil ρ = .ok [] ρ := rfl
@[simp ↓] theorem mE_e {ρ : Env} {a : E} {r : Xs} : mE a r ρ = (a ρ).bind fun x ρ1 => (r ρ1).bind fun xs ρ2 => .ok (.inl x :: xs) ρ2 := rfl
@[simp ↓] theorem mF_e {ρ : Env} {vs : List Nat} {a : As} {r : Xs} : mF vs a r ρ = (a ρ).bind fun x ρ1 => (r (wipeE ρ1 vs)).bind fun xs ρ2 => .ok (.inr x :: xs) ρ2 := rfl
@[simp ↓] theorem sMix_e {ρ : Env} {is : List Nat} {a : Xs} : sMix is a ρ = (a ρ).bind fun ps ρ1 => if ps.length = is.length then .ok .next ((is.zip ps).foldl (fun ρ q => ρ.set q.1 (putS q.2)) ρ1) else .stuck := rfl
@[simp] theorem putS_l {p : PV} : putS (.inl p) = .val p := rfl
@[simp] theorem putS_r {p : List PV} : putS (.inr p) = .own (.lst p) := rfl

/-! ## range(a, b, c), reversed(xs) -/
def sizeC (i j c : Int) : Nat := (Builtin.Range.rangeSize i j c).toNat
def okC (i j c : Int) : Bool := c != 0 && decide (c.natAbs < 1073741824) && Builtin.Range.small i j c && decide (0 ≤ Builtin.Range.rangeSize i j c)
theorem okC_rg {i j c : Int} (h : okC i j c = true) : RgC i j c (sizeC i j c) := by
  unfold okC at h
  simp only [Bool.and_eq_true, bne_iff_ne, decide_eq_true_eq] at h
  obtain ⟨⟨⟨h1, h2⟩, h3⟩, h4⟩ := h
  refine ⟨h1, h2, h3, ?_⟩
  unfold sizeC
  omega
def pRng3 : List PV → Option (List PV)
  | [.int i, .int j, .int c] => if okC i j c then some (rngC i c (sizeC i j c)) else none
  | _ => none
theorem reps3 {k : Kx} {S : Hp} {i j l : Int} {vs : List V} (r : Reps k S [.int i, .int j, .int l] vs) : vs = [.int i, .int j, .int l] := by
  simp only [Reps, Rep] at r
  obtain ⟨u, us, rfl, rfl, u', us', rfl, rfl, u'', us'', rfl, rfl, rfl⟩ := r
  rfl
theorem yl_rngC' {k : Kx} {S : Hp} (lo c : Int) (n : Nat) : Yl k S (Itc lo c n) (rngC lo c n) := by
  refine ⟨fun i S' H' e1 e2 hi => ?_, fun i S' H' x H'' e1 e2 hi hy => ?_, fun S' H' e1 e2 => ?_⟩
  · rw [rngC_len] at hi; exact hi
  · obtain ⟨rfl, rfl⟩ := hy
    refine ⟨S', .refl e2, fun p hp => ?_⟩
    rw [rngC_get hp]
    exact rep_int _
  · show n ≤ (rngC lo c n).length
    rw [rngC_len]; exact Nat.le_refl _
section
variable {X : Cx} {G : Gam} {W : WX} {a b c : Expr} {p pos : Pos}
theorem i_rng3 {tg : Expr} {u : As} (hg : Gl X "range") (hm : X.mg "range" = none) (h : AOk X G W [a, b, c] u) (hs : starEach [a, b, c] X.env = (false, eval a X.env) :: starEach [b, c] X.env := by rfl) (hpl : (backTo pos (starEach [b, c] X.env)).any (·.1) = false := by rfl) :
    IOk X G W tg (.Call (.Name "range" p) [a, b, c] [] pos) (iA pRng3 u) :=
  pi_weak (pi_range3 hg hm h hs hpl) fun σ H Q ⟨S, ρ, R, P⟩ => ⟨S, ρ, R, Post.bind (R1 := RA G.k) P fun x ρ1 v S1 H1 s1 R1 rv P1 => by
    obtain ⟨z, ez, P2⟩ := Post.ofO P1
    unfold pRng3 at ez
    split at ez
    · split at ez
      · rename_i i j l hj
        cases ez
        rw [reps3 rv]
        exact ⟨_, _, _, _, rfl, okC_rg hj, P2 _ S1 H1 (.refl _) R1 (yl_rngC' _ _ _)⟩
      · cases ez
    · cases ez⟩
theorem yl_revL {k : Kx} {K : PySem.W.Frag} (hK : k.K = K) {S : Hp} {a : Addr} {ps : List PV} {us : List V} (h : SqL k.K S a us) (r : Reps k S ps us) : Yl k S (Itv K a us.length) ps.reverse := by
  subst hK
  have up : ∀ {S' H'}, Same S S' → Same S' H' → SqL k.K H' a us := fun e1 e2 => e2.seq (e1.seq h)
  have hl : ps.reverse.length = us.length := by rw [List.length_reverse, r.len]
  refine ⟨fun i S' H' e1 e2 hi => ?_, fun i S' H' x H'' e1 e2 hi hy => ?_, fun S' H' e1 e2 => ?_⟩
  · have hi' : i < us.length := by rw [← hl]; exact hi
    exact ⟨hi', us, us[us.length - 1 - i], up e1 e2, by simp [hi']⟩
  · obtain ⟨rfl, hx⟩ := hy
    refine ⟨S', .refl e2, fun p hp => ?_⟩
    obtain ⟨u, hu, ru⟩ := r.rev.get hp
    have := hx us (up e1 e2)
    rw [List.getElem?_reverse (by rw [← hl]; exact hi), this] at hu
    cases hu
    exact ru.mono e1
  · rw [hl]; exact Nat.le_refl _
theorem yl_revT {k : Kx} {K : PySem.W.Frag} (hK : k.K = K) {S : Hp} {a : Addr} {ps : List PV} {us : List V} (h : SqT k.K S a us) (r : Reps k S ps us) : Yl k S (RT.ItvT K a us.length) ps.reverse := by
  subst hK
  have up : ∀ {S' H'}, Same S S' → Same S' H' → SqT k.K H' a us := fun e1 e2 => sqT_mono e2 (sqT_mono e1 h)
  have hl : ps.reverse.length = us.length := by rw [List.length_reverse, r.len]
  refine ⟨fun i S' H' e1 e2 hi => ?_, fun i S' H' x H'' e1 e2 hi hy => ?_, fun S' H' e1 e2 => ?_⟩
  · have hi' : i < us.length := by rw [← hl]; exact hi
    exact ⟨hi', us, us[us.length - 1 - i], up e1 e2, by simp [hi']⟩
  · obtain ⟨rfl, hx⟩ := hy
    refine ⟨S', .refl e2, fun p hp => ?_⟩
    obtain ⟨u, hu, ru⟩ := r.rev.get hp
    have := hx us (up e1 e2)
    rw [List.getElem?_reverse (by rw [← hl]; exact hi), this] at hu
    cases hu
    exact ru.mono e1
  · rw [hl]; exact Nat.le_refl _
def revOf (p : PV) : Option (List PV) := (itOf p).map List.reverse
theorem i_rev {tg : Expr} {da : E} (C : Ct X G W) (hg : Gl X "reversed") (hm : X.mg "reversed" = none) (h : EOk X G W a da) (hs : starEach [a] X.env = (false, eval a X.env) :: starEach [] X.env := by rfl) :
    IOk X G W tg (.Call (.Name "reversed" p) [a] [] pos) (iU revOf da) :=
  pi_weak (RT.pi_revA hg hm h hs) fun σ H Q ⟨S, ρ, R, P⟩ => ⟨S, ρ, R, Post.bind (R1 := RE G.k) P fun x ρ1 v S1 H1 s1 R1 rv P1 => by
    obtain ⟨z, ez, P2⟩ := Post.ofO P1
    cases x <;> try cases ez
    · simp only [Rep] at rv
      obtain ⟨l, us, rfl, h1, h2⟩ := rv
      exact ⟨l, us, rfl, .inr ⟨by rw [← C.K]; exact sqT_mono R1.sub h1, P2 _ S1 H1 (.refl _) R1 (yl_revT C.K h1 h2)⟩⟩
    · simp only [Rep] at rv
      obtain ⟨l, us, rfl, h1, h2⟩ := rv
      exact ⟨l, us, rfl, .inl ⟨SqL.of (R1.sub _ _ h1), P2 _ S1 H1 (.refl _) R1 (yl_revL C.K (SqL.of h1) h2)⟩⟩
    · simp only [Rep] at rv
      obtain ⟨l, us, rfl, h1, h2⟩ := rv
      exact ⟨l, us, rfl, .inl ⟨by rw [← C.K]; exact R1.sub.seq h1, P2 _ S1 H1 (.refl _) R1 (yl_revL C.K h1 h2)⟩⟩⟩
end
@[simp] theorem revOf_l {ps : List PV} : revOf (.lst ps) = some ps.reverse := rfl
@[simp] theorem revOf_t {ps : List PV} : revOf (.tup ps) = some ps.reverse := rfl
@[simp] theorem revOf_s {ps : List PV} : revOf (.scr ps) = some ps.reverse := rfl
@[simp] theorem pRng3_i {i j c : Int} : pRng3 [.int i, .int j, .int c] = if okC i j c = true then some (rngC i c (sizeC i j c)) else none := rfl
end PF

set_option Elab.async false
set_option linter.all false
set_option maxRecDepth 100000
namespace PF
open PySem L2

/-! ## Places that are written -/
theorem atI_of {α : Type} {xs : List α} (n : Nat) : atI xs (n : Int) = xs[n]? := by
  unfold atI ixN
  by_cases h : n < xs.length
  · rw [if_pos (by omega), if_pos (by omega)]
    simp
  · rw [if_pos (by omega), if_neg (by omega), List.getElem?_eq_none (by omega)]
    rfl
@[simp] theorem atI_0 {α : Type} {xs : List α} : atI xs 0 = xs[0]? := atI_of 0
@[simp] theorem atI_1 {α : Type} {xs : List α} : atI xs 1 = xs[1]? := atI_of 1
@[simp] theorem atI_2 {α : Type} {xs : List α} : atI xs 2 = xs[2]? := atI_of 2
@[simp] theorem atI_3 {α : Type} {xs : List α} : atI xs 3 = xs[3]? := atI_of 3
@[simp] theorem atI_4 {α : Type} {xs : List α} : atI xs 4 = xs[4]? := atI_of 4
@[simp] theorem atI_5 {α : Type} {xs : List α} : atI xs 5 = xs[5]? := atI_of 5
@[simp] theorem atI_6 {α : Type} {xs : List α} : atI xs 6 = xs[6]? := atI_of 6
@[simp] theorem atI_7 {α : Type} {xs : List α} : atI xs 7 = xs[7]? := atI_of 7
@[simp] theorem atI_8 {α : Type} {xs : List α} : atI xs 8 = xs[8]? := atI_of 8
@[simp] theorem atI_9 {α : Type} {xs : List α} : atI xs 9 = xs[9]? := atI_of 9
@[simp] theorem atI_10 {α : Type} {xs : List α} : atI xs 10 = xs[10]? := atI_of 10
@[simp] theorem atI_11 {α : Type} {xs : List α} : atI xs 11 = xs[11]? := atI_of 11
@[simp] theorem atI_12 {α : Type} {xs : List α} : atI xs 12 = xs[12]? := atI_of 12
@[simp] theorem atI_13 {α : Type} {xs : List α} : atI xs 13 = xs[13]? := atI_of 13
@[simp] theorem atI_14 {α : Type} {xs : List α} : atI xs 14 = xs[14]? := atI_of 14
@[simp] theorem atI_15 {α : Type} {xs : List α} : atI xs 15 = xs[15]? := atI_of 15
@[simp] theorem atI_16 {α : Type} {xs : List α} : atI xs 16 = xs[16]? := atI_of 16
@[simp] theorem atI_17 {α : Type} {xs : List α} : atI xs 17 = xs[17]? := atI_of 17
@[simp] theorem atI_18 {α : Type} {xs : List α} : atI xs 18 = xs[18]? := atI_of 18
@[simp] theorem atI_19 {α : Type} {xs : List α} : atI xs 19 = xs[19]? := atI_of 19
@[simp] theorem atI_20 {α : Type} {xs : List α} : atI xs 20 = xs[20]? := atI_of 20
@[simp] theorem atI_21 {α : Type} {xs : List α} : atI xs 21 = xs[21]? := atI_of 21
@[simp] theorem atI_22 {α : Type} {xs : List α} : atI xs 22 = xs[22]? := atI_of 22
@[simp] theorem atI_23 {α : Type} {xs : List α} : atI xs 23 = xs[23]? := atI_of 23
@[simp] theorem atI_24 {α : Type} {xs : List α} : atI xs 24 = xs[24]? := atI_of 24
theorem atI_last {α : Type} {xs : List α} (h : xs ≠ []) : atI xs (-1) = xs[xs.length - 1]? := by
  have h0 : 0 < xs.length := List.length_pos_iff.mpr h
  unfold atI ixN
  have h1 : ¬ (0 : Int) ≤ -1 := by decide
  simp only [h1, if_false]
  rw [if_pos (by omega)]
  simp
  congr 1
  omega
/-! ## Quotients by numbers below nought -/
theorem log2_65 {j : Int} (h : j ≠ 0) (h1 : j ≤ 18446744073709551616) (h2 : -18446744073709551616 ≤ j) : j.natAbs.log2 < 9000 := by
  have hn : j.natAbs ≠ 0 := by omega
  have hb : j.natAbs < 2 ^ 65 := by rw [show (2 : Nat) ^ 65 = 36893488147419103232 from rfl]; omega
  have := (Nat.log2_lt hn).mpr hb
  omega
/-- a divisor of not too many bits -/
theorem pFloor_k {i j : Int} {k : Nat} (h : 0 < j) (h2 : j < 2 ^ k) (hk : k ≤ 9000) : pFloor (.int i) (.int j) = some (.int (i / j)) := by
  refine pFloor_i h ?_
  have hn : j.natAbs ≠ 0 := by omega
  have hb : j.natAbs < 2 ^ k := by
    have : ((j.natAbs : Nat) : Int) < ((2 ^ k : Nat) : Int) := by push_cast; omega
    exact_mod_cast this
  have := (Nat.log2_lt hn).mpr hb
  omega
theorem pFloor_n {i j : Int} (h : j < 0) (h2 : -18446744073709551616 ≤ j) : pFloor (.int i) (.int j) = some (.int (i.fdiv j)) := by
  have hl := log2_65 (j := j) (by omega) (by omega) h2
  have h0 : ¬ (0 < j) := by omega
  simp [pFloor, h, hl, h0]
theorem pFloor_z {i j : Int} (h : j ≠ 0) (h1 : j < 18446744073709551616) (h2 : -18446744073709551616 ≤ j) : pFloor (.int i) (.int j) = some (.int (i.fdiv j)) := by
  by_cases h0 : 0 < j
  · rw [pFloor_64 h0 (by omega), Int.fdiv_eq_ediv_of_nonneg _ (by omega)]
  · exact pFloor_n (by omega) h2
theorem pMod_z {i j : Int} (h : j ≠ 0) : pMod (.int i) (.int j) = some (.int (i.fmod j)) := by
  by_cases h0 : 0 < j
  · rw [pMod_i h0, Int.fmod_eq_emod_of_nonneg _ (by omega)]
  · have : j < 0 := by omega
    simp [pMod, h0, this]
/-- products of not too many bits -/
theorem mulOk_b {i j : Int} {m n : Nat} (h1 : i.natAbs < 2 ^ m) (h2 : j.natAbs < 2 ^ n) (h : m + n + 2 ≤ 134217728) : mulOk i j = true := by
  have e1 := intBits_le h1
  have e2 := intBits_le h2
  unfold mulOk
  simp only [Bool.or_eq_true, decide_eq_true_eq]
  exact .inr (by omega)
theorem pMul_b {i j : Int} {m n : Nat} (h1 : i.natAbs < 2 ^ m) (h2 : j.natAbs < 2 ^ n) (h : m + n + 2 ≤ 134217728) : pMul (.int i) (.int j) = some (.int (i * j)) := pMul_i (mulOk_b h1 h2 h)
theorem natAbs_lt {i : Int} {n : Nat} (h0 : 0 ≤ i) (h : i < 2 ^ n) : i.natAbs < 2 ^ n := by
  have : ((i.natAbs : Nat) : Int) < ((2 ^ n : Nat) : Int) := by push_cast; omega
  exact_mod_cast this
theorem pMul_p {i j : Int} {m n : Nat} (h0 : 0 ≤ i) (h1 : i < 2 ^ m) (h2 : 0 ≤ j) (h3 : j < 2 ^ n) (h : m + n + 2 ≤ 134217728) : pMul (.int i) (.int j) = some (.int (i * j)) := pMul_b (natAbs_lt h0 h1) (natAbs_lt h2 h3) h
theorem pShl_p {i j : Int} {m : Nat} (h0 : 0 ≤ i) (h1 : i < 2 ^ m) (h2 : 0 ≤ j) (h : (m : Int) + j + 1 ≤ 134217728) : pShl (.int i) (.int j) = some (.int (i * 2 ^ j.toNat)) := pShl_i h2 (by
  have := intBits_le (natAbs_lt h0 h1)
  omega)
end PF
namespace PF
open PySem L2
@[simp] theorem pMax2_i {i j : Int} : pMax2 (.int i) (.int j) = some (.int (max i j)) := by
  show some (PV.int (if j > i then j else i)) = _
  congr 2
  split <;> omega
@[simp] theorem pMin2_i {i j : Int} : pMin2 (.int i) (.int j) = some (.int (min i j)) := by
  show some (PV.int (if j < i then j else i)) = _
  congr 2
  split <;> omega
end PF

set_option Elab.async false
set_option linter.all false
set_option maxRecDepth 100000
namespace PF
open PySem L2

/-! ## While loops -/
/-- a while loop: I holds at its head, m falls; Q holds behind it -/
theorem whileN_inv {t : T} {b : C} (I : Nat → Env → Prop) (Q : Env → Prop) (st : ∀ m ρ, I m ρ → (∃ ρ1, t ρ = .ok false ρ1 ∧ Q ρ1) ∨ ∃ ρ1 ρ2 m', t ρ = .ok true ρ1 ∧ b ρ1 = .ok .next ρ2 ∧ m' < m ∧ I m' ρ2) :
    ∀ n m ρ, m < n → I m ρ → ∃ ρ', whileN t b n ρ = .ok .next ρ' ∧ Q ρ' := by
  intro n
  induction n with
  | zero => intro m ρ h; omega
  | succ n ih =>
    intro m ρ hm h
    rcases st m ρ h with ⟨ρ1, e, q⟩ | ⟨ρ1, ρ2, m', e1, e2, hm', h'⟩
    · exact ⟨ρ1, by unfold whileN; rw [e]; rfl, q⟩
    · obtain ⟨ρ', e, q⟩ := ih m' ρ2 (by omega) h'
      refine ⟨ρ', ?_, q⟩
      unfold whileN
      rw [e1]
      show (b ρ1).bind _ = _
      rw [e2]
      exact e
theorem while_inv {t : T} {b : C} (I : Nat → Env → Prop) (Q : Env → Prop) (st : ∀ m ρ, I m ρ → (∃ ρ1, t ρ = .ok false ρ1 ∧ Q ρ1) ∨ ∃ ρ1 ρ2 m', t ρ = .ok true ρ1 ∧ b ρ1 = .ok .next ρ2 ∧ m' < m ∧ I m' ρ2) {m : Nat} {ρ : Env} (hm : m < 2 ^ 200) (h : I m ρ) :
    ∃ ρ', sWhile t b ρ = .ok .next ρ' ∧ Q ρ' := whileN_inv I Q st fuel m ρ hm h
/-- .. that may be left with a flow: R ends it -/
theorem whileN_ends {t : T} {b : C} (I : Nat → Env → Prop) (R : Out Flow → Prop) (st : ∀ m ρ, I m ρ → (∃ ρ1, t ρ = .ok false ρ1 ∧ R (.ok .next ρ1)) ∨ (∃ ρ1 ρ2 m', t ρ = .ok true ρ1 ∧ (b ρ1 = .ok .next ρ2 ∨ b ρ1 = .ok .cont ρ2) ∧ m' < m ∧ I m' ρ2) ∨ (∃ ρ1 ρ2, t ρ = .ok true ρ1 ∧ b ρ1 = .ok .brk ρ2 ∧ R (.ok .next ρ2)) ∨ ∃ ρ1 p ρ2, t ρ = .ok true ρ1 ∧ b ρ1 = .ok (.ret p) ρ2 ∧ R (.ok (.ret p) ρ2)) :
    ∀ n m ρ, m < n → I m ρ → R (whileN t b n ρ) := by
  intro n
  induction n with
  | zero => intro m ρ h; omega
  | succ n ih =>
    intro m ρ hm h
    unfold whileN
    rcases st m ρ h with ⟨ρ1, e, q⟩ | ⟨ρ1, ρ2, m', e1, e2, hm', h'⟩ | ⟨ρ1, ρ2, e1, e2, q⟩ | ⟨ρ1, p, ρ2, e1, e2, q⟩
    · rw [e]; exact q
    · have := ih m' ρ2 (by omega) h'
      rw [e1]
      show R ((b ρ1).bind _)
      rcases e2 with e2 | e2 <;> rw [e2] <;> exact this
    · rw [e1]
      show R ((b ρ1).bind _)
      rw [e2]; exact q
    · rw [e1]
      show R ((b ρ1).bind _)
      rw [e2]; exact q
theorem while_ends {t : T} {b : C} (I : Nat → Env → Prop) (R : Out Flow → Prop) (st : ∀ m ρ, I m ρ → (∃ ρ1, t ρ = .ok false ρ1 ∧ R (.ok .next ρ1)) ∨ (∃ ρ1 ρ2 m', t ρ = .ok true ρ1 ∧ (b ρ1 = .ok .next ρ2 ∨ b ρ1 = .ok .cont ρ2) ∧ m' < m ∧ I m' ρ2) ∨ (∃ ρ1 ρ2, t ρ = .ok true ρ1 ∧ b ρ1 = .ok .brk ρ2 ∧ R (.ok .next ρ2)) ∨ ∃ ρ1 p ρ2, t ρ = .ok true ρ1 ∧ b ρ1 = .ok (.ret p) ρ2 ∧ R (.ok (.ret p) ρ2)) {m : Nat} {ρ : Env} (hm : m < 2 ^ 200) (h : I m ρ) :
    R (sWhile t b ρ) := whileN_ends I R st fuel m ρ hm h
/-- a for loop that may be left with a value -/
theorem forL_ends {g : Tg} {b : C} (I : List PV → Env → Prop) (R : Out Flow → Prop) (nil : ∀ ρ, I [] ρ → R (.ok .next ρ)) (st : ∀ x xs ρ, I (x :: xs) ρ → ∃ ρ1, g x ρ = some ρ1 ∧ ((∃ ρ2, (b ρ1 = .ok .next ρ2 ∨ b ρ1 = .ok .cont ρ2) ∧ I xs ρ2) ∨ (∃ ρ2, b ρ1 = .ok .brk ρ2 ∧ R (.ok .next ρ2)) ∨ ∃ p ρ2, b ρ1 = .ok (.ret p) ρ2 ∧ R (.ok (.ret p) ρ2))) :
    ∀ xs ρ, I xs ρ → R (forL g b xs ρ)
  | [], ρ, h => nil ρ h
  | x :: xs, ρ, h => by
    obtain ⟨ρ1, e, q⟩ := st x xs ρ h
    unfold forL
    rw [e]
    show R ((b ρ1).bind _)
    rcases q with ⟨ρ2, e2, h2⟩ | ⟨ρ2, e2, h2⟩ | ⟨p, ρ2, e2, h2⟩
    · have := forL_ends I R nil st xs ρ2 h2
      rcases e2 with e2 | e2 <;> rw [e2] <;> exact this
    · rw [e2]; exact h2
    · rw [e2]; exact h2
/-- a for loop over a range -/
theorem forL_rng {g : Tg} {b : C} (I : Nat → Env → Prop) (lo : Int) (n : Nat) (ρ : Env) (h : I 0 ρ) (st : ∀ k ρ, k < n → I k ρ → ∃ ρ1 ρ2, g (.int (lo + (k : Nat))) ρ = some ρ1 ∧ b ρ1 = .ok .next ρ2 ∧ I (k + 1) ρ2) : ∃ ρ', forL g b (rngP lo n) ρ = .ok .next ρ' ∧ I n ρ' := by
  have key : ∀ (m k : Nat) (ρ : Env), k + m = n → I k ρ → ∃ ρ', forL g b ((List.range' k m).map fun i : Nat => PV.int (lo + (i : Nat))) ρ = .ok .next ρ' ∧ I n ρ' := by
    intro m
    induction m with
    | zero => intro k ρ e h; have : k = n := by omega
              subst this; exact ⟨ρ, rfl, h⟩
    | succ m ih =>
      intro k ρ e h
      obtain ⟨ρ1, ρ2, e1, e2, h2⟩ := st k ρ (by omega) h
      obtain ⟨ρ', e3, h3⟩ := ih (k + 1) ρ2 (by omega) h2
      refine ⟨ρ', ?_, h3⟩
      rw [List.range'_succ, List.map_cons]
      unfold forL
      rw [e1]
      show (b ρ1).bind _ = _
      rw [e2]
      exact e3
  have := key n 0 ρ (by omega) h
  rw [← List.range_eq_range'] at this
  exact this
end PF

set_option Elab.async false
set_option linter.all false
set_option maxRecDepth 100000
namespace PF
/-! ## Numbers that leave the same rest -/
def Cg (m x y : Int) : Prop := ∃ t, x = y + m * t
namespace Cg
variable {m x y z u v : Int}
theorem refl (m x : Int) : Cg m x x := ⟨0, by simp⟩
theorem symm (h : Cg m x y) : Cg m y x := by
  obtain ⟨t, rfl⟩ := h
  exact ⟨-t, by grind⟩
theorem trans (h : Cg m x y) (h' : Cg m y z) : Cg m x z := by
  obtain ⟨t, rfl⟩ := h
  obtain ⟨s, rfl⟩ := h'
  exact ⟨s + t, by grind⟩
theorem add (h : Cg m x y) (h' : Cg m u v) : Cg m (x + u) (y + v) := by
  obtain ⟨t, rfl⟩ := h
  obtain ⟨s, rfl⟩ := h'
  exact ⟨s + t, by grind⟩
theorem sub (h : Cg m x y) (h' : Cg m u v) : Cg m (x - u) (y - v) := by
  obtain ⟨t, rfl⟩ := h
  obtain ⟨s, rfl⟩ := h'
  exact ⟨t - s, by grind⟩
theorem mul (h : Cg m x y) (h' : Cg m u v) : Cg m (x * u) (y * v) := by
  obtain ⟨t, rfl⟩ := h
  obtain ⟨s, rfl⟩ := h'
  exact ⟨y * s + t * v + t * m * s, by grind⟩
theorem pow (h : Cg m x y) : ∀ n : Nat, Cg m (x ^ n) (y ^ n)
  | 0 => by simp only [Int.pow_zero]; exact refl _ _
  | n + 1 => by simp only [Int.pow_succ]; exact (pow h n).mul h
theorem emod (m x : Int) : Cg m (x % m) x := ⟨-(x / m), by have := Int.mul_ediv_add_emod x m; grind⟩
theorem eq (h : Cg m x y) : x % m = y % m := by
  obtain ⟨t, rfl⟩ := h
  simp
theorem of_eq (h : x % m = y % m) : Cg m x y := (emod m x).symm.trans (h ▸ emod m y)
theorem of_rfl (h : x = y) : Cg m x y := h ▸ refl m x
theorem of_dvd (h : m ∣ x - y) : Cg m x y := by
  obtain ⟨t, h⟩ := h
  exact ⟨t, by omega⟩
theorem dvd (h : Cg m x y) : m ∣ x - y := by
  obtain ⟨t, rfl⟩ := h
  exact ⟨t, by omega⟩
theorem self (m t : Int) : Cg m (m * t) 0 := ⟨t, by simp⟩
theorem down {k : Int} (h : Cg m x y) (hk : k ∣ m) : Cg k x y := by
  obtain ⟨t, rfl⟩ := h
  obtain ⟨s, rfl⟩ := hk
  exact ⟨s * t, by grind⟩
theorem val (h : Cg m x y) (h0 : 0 ≤ y) (h1 : y < m) : x % m = y := by rw [h.eq, Int.emod_eq_of_lt h0 h1]
end Cg
theorem emod_mul_emod (x y m : Int) : (x % m) * y % m = x * y % m := ((Cg.emod m x).mul (Cg.refl m y)).eq
theorem mul_emod_emod (x y m : Int) : x * (y % m) % m = x * y % m := ((Cg.refl m x).mul (Cg.emod m y)).eq
/-- 1 + a + .. : n of them -/
def geo (a : Int) : Nat → Int
  | 0 => 0
  | n + 1 => a * geo a n + 1
theorem geo_add (a : Int) (i j : Nat) : geo a (i + j) = a ^ i * geo a j + geo a i := by
  induction i with
  | zero => simp [geo]
  | succ i ih =>
    rw [show i + 1 + j = (i + j) + 1 by omega]
    simp only [geo, ih, Int.pow_succ]
    grind
theorem geo_pow (a : Int) (n : Nat) : a ^ n - 1 = (a - 1) * geo a n := by
  induction n with
  | zero => simp [geo]
  | succ n ih =>
    simp only [geo, Int.pow_succ]
    grind
theorem pow_mul' (a : Int) (m n : Nat) : a ^ (m * n) = (a ^ m) ^ n := by
  induction n with
  | zero => simp
  | succ n ih => rw [Nat.mul_succ, Int.pow_add, ih, Int.pow_succ]
theorem geo_mul (a : Int) (m n : Nat) : geo a (m * n) = geo a m * geo (a ^ m) n := by
  induction n with
  | zero => simp [geo]
  | succ n ih =>
    rw [Nat.mul_succ, Nat.add_comm, geo_add, ih]
    simp only [geo]
    grind
theorem geo_cg {d a : Int} (h : Cg d a 1) (n : Nat) : Cg d (geo a n) n := by
  induction n with
  | zero => exact Cg.refl _ _
  | succ n ih =>
    have := (h.mul ih).add (Cg.refl d 1)
    simp only [geo]
    push_cast
    simpa using this
end PF
namespace PF
open PySem L2
section
variable {f : Env → Out Flow} {ρ : Env} {p : PV} {ps : List PV} {g : Tg} {b : C} {x : PV} {xs : List PV}
@[simp] theorem loopK_next : loopK f .next ρ = f ρ := rfl
@[simp] theorem loopK_cont : loopK f .cont ρ = f ρ := rfl
@[simp] theorem loopK_brk : loopK f .brk ρ = .ok .next ρ := rfl
@[simp] theorem loopK_ret : loopK f (.ret p) ρ = .ok (.ret p) ρ := rfl
@[simp] theorem loopK_own : loopK f (.own ps) ρ = .ok (.own ps) ρ := rfl
@[simp] theorem forL_nil : forL g b [] ρ = .ok .next ρ := rfl
theorem forL_cons : forL g b (x :: xs) ρ = (g x ρ).elim .stuck fun ρ1 => (b ρ1).bind (loopK (forL g b xs)) := by
  conv => lhs; unfold forL
  cases g x ρ <;> rfl
end
end PF
namespace PF
theorem lt200 {n : Nat} (h : (n : Int) ≤ 340282366920938463463374607431768211456) : n < 2 ^ 200 := by
  have : (2 : Nat) ^ 200 = 1606938044258990275541962092341162602522202993782792835301376 := by decide +kernel
  rw [this]
  omega
end PF
namespace PF
open PySem L2
theorem lineN_n : lineN = 16777216 := rfl
@[simp] theorem pRep_l {ps : List PV} {n : Int} : pRep (.lst ps) (.int n) = if (-9223372036854775808 ≤ n ∧ n < 9223372036854775808 ∧ ps.length * n.toNat ≤ 16777216) then some (List.replicate n.toNat ps).flatten else none := rfl
end PF

set_option Elab.async false
set_option linter.all false
set_option maxRecDepth 100000
namespace PF
/-! ## Quotients rounded up; recipes of quotients -/
def upD (x y : Int) : Int := -((-x) / y)
theorem upD_le {x y z : Int} (h : 0 < y) : upD x y ≤ z ↔ x ≤ z * y := by
  unfold upD
  constructor
  · intro h1
    have : -z ≤ -x / y := by omega
    have := (Int.le_ediv_iff_mul_le h).mp this
    rw [Int.neg_mul] at this
    omega
  · intro h1
    have : -z ≤ -x / y := (Int.le_ediv_iff_mul_le h).mpr (by rw [Int.neg_mul]; omega)
    omega
theorem upD_eq {x y : Int} (h : 0 < y) : upD x y = (x + y - 1) / y := by
  have h1 : upD x y ≤ (x + y - 1) / y := (upD_le h).mpr (by
    have e1 := Int.mul_ediv_add_emod (x + y - 1) y
    have e2 := Int.emod_lt_of_pos (x + y - 1) h
    rw [Int.mul_comm] at e1
    omega)
  have h2 : (x + y - 1) / y ≤ upD x y := by
    have h3 : (x + y - 1) / y < upD x y + 1 := (Int.ediv_lt_iff_lt_mul h).mpr (by
      have := (upD_le (x := x) (z := upD x y) h).mp (Int.le_refl _)
      rw [Int.add_mul]
      omega)
    omega
  omega
/-- the first number that a recipe tells wrongly, if there is one -/
def ff0 (d F W : Int) : Option Int :=
  if F * d - W = 0 then none
  else if F * d - W < 0 then some d
  else some (max 0 (upD (F - (F * d - W)) (F * d - W)) * d + max 0 (upD (W - max 0 (upD (F - (F * d - W)) (F * d - W)) * (F * d - W)) F))
theorem rec_div {d F W q r : Int} (hd : 0 < d) (hW : 0 < W) (hr : 0 ≤ r) (hr2 : r < d) : (q * d + r) * F / W = q + (q * (F * d - W) + r * F) / W ∧ (q * d + r) / d = q := by
  constructor
  · rw [show (q * d + r) * F = q * (F * d - W) + r * F + q * W by grind, Int.add_mul_ediv_right _ _ (by omega)]
    omega
  · rw [Int.add_comm, Int.add_mul_ediv_right _ _ (by omega), Int.ediv_eq_zero_of_lt hr hr2]
    omega
theorem ff0_none {d F W : Int} (hd : 0 < d) (hW : 0 < W) (hF : 0 ≤ F) (h : ff0 d F W = none) (n : Int) : n * F / W = n / d := by
  unfold ff0 at h
  split at h
  · rename_i he
    have hW2 : W = F * d := by omega
    have hF2 : 0 < F := by
      rcases Int.lt_or_eq_of_le hF with h | h
      · exact h
      · subst h; simp at hW2; omega
    rw [hW2, Int.mul_comm n F, Int.mul_ediv_mul_of_pos _ _ hF2]
  · split at h <;> cases h
theorem ff0_some {d F W n0 : Int} (hd : 0 < d) (hW : 0 < W) (hF : 0 ≤ F) (h : ff0 d F W = some n0) : 0 < n0 ∧ n0 * F / W ≠ n0 / d ∧ ∀ n, 0 ≤ n → n < n0 → n * F / W = n / d := by
  unfold ff0 at h
  split at h
  · cases h
  · rename_i h0
    split at h
    · rename_i h1
      cases h
      refine ⟨hd, ?_, fun n n0 n1 => ?_⟩
      · rw [Int.ediv_self (by omega), Int.mul_comm, Int.ediv_eq_zero_of_lt (Int.mul_nonneg hF (by omega)) (by omega)]
        decide
      · rw [Int.ediv_eq_zero_of_lt n0 n1]
        have : n * F ≤ d * F := Int.mul_le_mul_of_nonneg_right (by omega) hF
        rw [Int.mul_comm d F] at this
        exact Int.ediv_eq_zero_of_lt (Int.mul_nonneg n0 hF) (by omega)
    · rename_i h1
      have he : 0 < F * d - W := by omega
      have hF2 : 0 < F := by
        rcases Int.lt_or_eq_of_le hF with h | h
        · exact h
        · subst h; simp at he; omega
      have hdF : F * d - W = d * F - W := by rw [Int.mul_comm]
      generalize hee : F * d - W = e at *
      generalize hq : max 0 (upD (F - e) e) = q at *
      generalize hr : max 0 (upD (W - q * e) F) = r at *
      cases h
      have q0 : 0 ≤ q := by omega
      have r0 : 0 ≤ r := by omega
      have q1 : F - e ≤ q * e := (upD_le he).mp (by omega)
      have r1 : W - q * e ≤ r * F := (upD_le hF2).mp (by omega)
      have r2 : r < d := by
        have hdF' : (d - 1) * F = d * F - F := by grind
        have a1 : upD (W - q * e) F ≤ d - 1 := (upD_le hF2).mpr (by omega)
        omega
      -- any false number lies at or above
      have key : ∀ n, 0 ≤ n → n < q * d + r → n * F / W = n / d := by
        intro n n0 n1
        have hn := Int.mul_ediv_add_emod n d
        have hr0 := Int.emod_nonneg n (show d ≠ 0 by omega)
        have hr1 := Int.emod_lt_of_pos n hd
        have hq0 := Int.ediv_nonneg n0 (show 0 ≤ d by omega)
        generalize hb : n / d = b at *
        generalize hc : n % d = c at *
        have en : n = b * d + c := by rw [Int.mul_comm] at hn; omega
        have ⟨k1, k2⟩ := rec_div (F := F) (q := b) hd hW hr0 hr1
        rw [← en, hee] at k1
        rw [k1]
        have bc : 0 ≤ b * e := Int.mul_nonneg hq0 (by omega)
        have cF : 0 ≤ c * F := Int.mul_nonneg hr0 hF
        have : b * e + c * F < W := by
          by_cases hbq : b < q
          · -- below the quotient
            have h2 : ¬ (F - e ≤ b * e) := by
              intro h2
              have := (upD_le he).mpr h2
              omega
            have : c * F ≤ (d - 1) * F := Int.mul_le_mul_of_nonneg_right (by omega) hF
            have : (d - 1) * F = d * F - F := by grind
            omega
          · have hbq' : b = q := by
              rcases Int.lt_or_le q b with h | h
              · exfalso
                have : (q + 1) * d ≤ b * d := Int.mul_le_mul_of_nonneg_right (by omega) (by omega)
                rw [Int.add_mul] at this
                omega
              · omega
            subst hbq'
            have h2 : c < r := by omega
            have h3 : ¬ (W - b * e ≤ c * F) := by
              intro h3
              have := (upD_le hF2).mpr h3
              omega
            omega
        rw [Int.ediv_eq_zero_of_lt (by omega) this]
        omega
      have false_at : (q * d + r) * F / W ≠ (q * d + r) / d := by
        have ⟨k1, k2⟩ := rec_div (F := F) (q := q) hd hW r0 r2
        rw [hee] at k1
        rw [k1, k2]
        have : 1 ≤ (q * e + r * F) / W := (Int.le_ediv_iff_mul_le hW).mpr (by omega)
        omega
      have qd := Int.mul_nonneg q0 (show 0 ≤ d by omega)
      refine ⟨?_, false_at, key⟩
      rcases Int.lt_or_eq_of_le (show 0 ≤ q * d + r by omega) with h | h
      · exact h
      · rw [← h] at false_at
        simp at false_at
end PF
namespace PF
open PySem L2
@[simp] theorem cIsN_b {i : Bool} : cIsN (.bl i) .non = some false := rfl
theorem forL_rng_ends {g : Tg} {b : C} (I : Nat → Env → Prop) (R : Out Flow → Prop) (lo : Int) (n : Nat) (ρ : Env) (h : I 0 ρ) (fin : ∀ ρ, I n ρ → R (.ok .next ρ)) (st : ∀ k ρ, k < n → I k ρ → ∃ ρ1, g (.int (lo + (k : Nat))) ρ = some ρ1 ∧ ((∃ ρ2, (b ρ1 = .ok .next ρ2 ∨ b ρ1 = .ok .cont ρ2) ∧ I (k + 1) ρ2) ∨ (∃ ρ2, b ρ1 = .ok .brk ρ2 ∧ R (.ok .next ρ2)) ∨ ∃ p ρ2, b ρ1 = .ok (.ret p) ρ2 ∧ R (.ok (.ret p) ρ2))) : R (forL g b (rngP lo n) ρ) := by
  have key : ∀ (m k : Nat) (ρ : Env), k + m = n → I k ρ → R (forL g b ((List.range' k m).map fun i : Nat => PV.int (lo + (i : Nat))) ρ) := by
    intro m
    induction m with
    | zero => intro k ρ e h; have : k = n := by omega
              subst this; exact fin ρ h
    | succ m ih =>
      intro k ρ e h
      obtain ⟨ρ1, e1, q⟩ := st k ρ (by omega) h
      rw [List.range'_succ, List.map_cons]
      unfold forL
      rw [e1]
      show R ((b ρ1).bind _)
      rcases q with ⟨ρ2, e2, h2⟩ | ⟨ρ2, e2, h2⟩ | ⟨p, ρ2, e2, h2⟩
      · have := ih (k + 1) ρ2 (by omega) h2
        rcases e2 with e2 | e2 <;> rw [e2] <;> exact this
      · rw [e2]; exact h2
      · rw [e2]; exact h2
  have := key n 0 ρ (by omega) h
  rw [← List.range_eq_range'] at this
  exact this
end PF

set_option Elab.async false
set_option linter.all false
set_option maxRecDepth 100000
namespace PF
open PySem PySem.Spec PyProof.Rows L2
/-! ## x is True -/
def cIsB : PV → PV → Option Bool
  | .bl a, .bl b => some (a == b)
  | _, _ => none
def cNotB : PV → PV → Option Bool
  | .bl a, .bl b => some (a != b)
  | _, _ => none
theorem op_isTF {X : Cx} : OpR X (compareOp .Is) rIsB := op_isBl
theorem op_notTF {X : Cx} : OpR X (compareOp .IsNot) rNotB := op_notBl
theorem ob_isB : OpB cIsB (fun _ => rIsB) := by
  intro k S H p q z x y Q e rx ry h q1
  cases p <;> cases q <;> simp only [cIsB] at h <;> cases h
  rename_i a b
  cases repB_bl rx
  cases repB_bl ry
  exact ⟨a, b, rfl, rfl, by rw [show decide (a = b) = (a == b) by cases a <;> cases b <;> rfl]; exact q1⟩
theorem ob_notB : OpB cNotB (fun _ => rNotB) := by
  intro k S H p q z x y Q e rx ry h q1
  cases p <;> cases q <;> simp only [cNotB] at h <;> cases h
  rename_i a b
  cases repB_bl rx
  cases repB_bl ry
  exact ⟨a, b, rfl, rfl, by rw [show (!decide (a = b)) = (a != b) by cases a <;> cases b <;> rfl]; exact q1⟩
@[simp] theorem cIsB_b {a b : Bool} : cIsB (.bl a) (.bl b) = some (a == b) := rfl
@[simp] theorem cNotB_b {a b : Bool} : cNotB (.bl a) (.bl b) = some (a != b) := rfl
end PF

set_option Elab.async false
set_option linter.all false
set_option maxRecDepth 100000
namespace PF
open PySem L2
/-! ## Comprehensions with an if; the least number that does -/
theorem lcL_filter {g : Tg} {t : T} {e : E} {vs : List Nat} (p : PV → Bool) (f : PV → PV) (ρ0 : Env) : ∀ (xs acc : List PV), acc.length + xs.length ≤ 16777216 → (∀ x ∈ xs, ∃ ρ1 ρ2, g x ρ0 = some ρ1 ∧ t ρ1 = .ok (p x) ρ2 ∧ (p x = false → wipeE ρ2 vs = ρ0) ∧ (p x = true → ∃ ρ3, e ρ2 = .ok (f x) ρ3 ∧ wipeE ρ3 vs = ρ0)) → lcL g t e vs xs acc ρ0 = .ok (acc ++ (xs.filter p).map f) ρ0
  | [], acc, _, _ => by simp [lcL]
  | x :: xs, acc, hl, st => by
    obtain ⟨ρ1, ρ2, e1, e2, h0, h1⟩ := st x List.mem_cons_self
    unfold lcL
    rw [e1]
    simp only [e2, noX, bind_ok]
    cases hp : p x with
    | false =>
      simp only [hp]
      rw [h0 hp, lcL_filter p f ρ0 xs acc (by simp at hl; omega) fun y hy => st y (List.mem_cons_of_mem _ hy)]
      simp [hp]
    | true =>
      obtain ⟨ρ3, e3, h3⟩ := h1 hp
      simp only [e3, bind_ok]
      rw [if_pos (by simp only [List.length_cons] at hl; show acc.length < 16777216; omega), h3, lcL_filter p f ρ0 xs (acc ++ [f x]) (by simp at hl ⊢; omega) fun y hy => st y (List.mem_cons_of_mem _ hy)]
      simp [hp]
/-- the first of k, k + 1, .. that p tells of, among n -/
def leastN (p : Nat → Bool) : Nat → Nat → Nat
  | k, 0 => k
  | k, n + 1 => if p k then k else leastN p (k + 1) n
theorem leastN_ok (p : Nat → Bool) : ∀ (n k s : Nat), k ≤ s → s < k + n → p s = true → p (leastN p k n) = true ∧ k ≤ leastN p k n ∧ leastN p k n ≤ s ∧ ∀ j, k ≤ j → j < leastN p k n → p j = false
  | 0, k, s, h1, h2, _ => by omega
  | n + 1, k, s, h1, h2, h => by
    unfold leastN
    by_cases hp : p k = true
    · rw [if_pos hp]
      exact ⟨hp, Nat.le_refl _, h1, fun j a b => by omega⟩
    · rw [if_neg hp]
      have : k ≠ s := fun e => hp (e ▸ h)
      obtain ⟨a, b, c, d⟩ := leastN_ok p n (k + 1) s (by omega) (by omega) h
      refine ⟨a, by omega, c, fun j h3 h4 => ?_⟩
      by_cases hj : j = k
      · subst hj; simpa using hp
      · exact d j (by omega) h4
end PF

set_option Elab.async false
set_option linter.all false
set_option maxRecDepth 100000
namespace PF
open PySem L2
/-! ## Walks over rows that are made by a function; ranges downward -/
theorem forL_map {g : Tg} {b : C} (I : Nat → Env → Prop) (f : Nat → PV) (n : Nat) (ρ : Env) (h : I 0 ρ) (st : ∀ k ρ, k < n → I k ρ → ∃ ρ1 ρ2, g (f k) ρ = some ρ1 ∧ b ρ1 = .ok .next ρ2 ∧ I (k + 1) ρ2) : ∃ ρ', forL g b ((List.range n).map f) ρ = .ok .next ρ' ∧ I n ρ' := by
  have key : ∀ (m k : Nat) (ρ : Env), k + m = n → I k ρ → ∃ ρ', forL g b ((List.range' k m).map f) ρ = .ok .next ρ' ∧ I n ρ' := by
    intro m
    induction m with
    | zero => intro k ρ e h; have : k = n := by omega
              subst this; exact ⟨ρ, rfl, h⟩
    | succ m ih =>
      intro k ρ e h
      obtain ⟨ρ1, ρ2, e1, e2, h2⟩ := st k ρ (by omega) h
      obtain ⟨ρ', e3, h3⟩ := ih (k + 1) ρ2 (by omega) h2
      refine ⟨ρ', ?_, h3⟩
      rw [List.range'_succ, List.map_cons]
      unfold forL
      rw [e1]
      show (b ρ1).bind _ = _
      rw [e2]
      exact e3
  have := key n 0 ρ (by omega) h
  rw [← List.range_eq_range'] at this
  exact this
theorem forL_map_ends {g : Tg} {b : C} (I : Nat → Env → Prop) (R : Out PF.Flow → Prop) (f : Nat → PV) (n : Nat) (ρ : Env) (h : I 0 ρ) (fin : ∀ ρ, I n ρ → R (.ok .next ρ)) (st : ∀ k ρ, k < n → I k ρ → ∃ ρ1, g (f k) ρ = some ρ1 ∧ ((∃ ρ2, (b ρ1 = .ok .next ρ2 ∨ b ρ1 = .ok .cont ρ2) ∧ I (k + 1) ρ2) ∨ (∃ ρ2, b ρ1 = .ok .brk ρ2 ∧ R (.ok .next ρ2)) ∨ ∃ p ρ2, b ρ1 = .ok (.ret p) ρ2 ∧ R (.ok (.ret p) ρ2))) : R (forL g b ((List.range n).map f) ρ) := by
  have key : ∀ (m k : Nat) (ρ : Env), k + m = n → I k ρ → R (forL g b ((List.range' k m).map f) ρ) := by
    intro m
    induction m with
    | zero => intro k ρ e h; have : k = n := by omega
              subst this; exact fin ρ h
    | succ m ih =>
      intro k ρ e h
      obtain ⟨ρ1, e1, q⟩ := st k ρ (by omega) h
      rw [List.range'_succ, List.map_cons]
      unfold forL
      rw [e1]
      show R ((b ρ1).bind _)
      rcases q with ⟨ρ2, e2, h2⟩ | ⟨ρ2, e2, h2⟩ | ⟨p, ρ2, e2, h2⟩
      · have := ih (k + 1) ρ2 (by omega) h2
        rcases e2 with e2 | e2 <;> rw [e2] <;> exact this
      · rw [e2]; exact h2
      · rw [e2]; exact h2
  have := key n 0 ρ (by omega) h
  rw [← List.range_eq_range'] at this
  exact this
theorem rngC_down {i j : Int} (h1 : -4611686018427387904 ≤ i) (h2 : i < 4611686018427387904) (h3 : -4611686018427387904 ≤ j) (h4 : j < 4611686018427387904) : pRng3 [.int i, .int j, .int (-1)] = some ((List.range (i - j).toNat).map fun k : Nat => PV.int (i - k)) := by
  have hn := (RgC.neg (i := i) (j := j) (by omega) (by omega) (by omega) (by omega)).2.2.2
  have hs := (RgC.neg (i := i) (j := j) (by omega) (by omega) (by omega) (by omega)).2.2.1
  have ok : okC i j (-1) = true := by
    unfold okC
    rw [hn, hs]
    simp
    omega
  have sz : sizeC i j (-1) = (i - j).toNat := by unfold sizeC; rw [hn]; omega
  simp only [pRng3, ok, if_true, sz, rngC]
  congr 2
  funext k
  congr 1
  omega
/-! ## How many figures, how many ones -/
def bl (n : Nat) : Nat := if n = 0 then 0 else n.log2 + 1
theorem lt_bl (n k : Nat) : k < bl n ↔ 2 ^ k ≤ n := by
  unfold bl
  by_cases h : n = 0
  · subst h
    have := Nat.two_pow_pos k
    simp
  · rw [if_neg h, ← Nat.le_log2 h]
    omega
theorem bl_zero : bl 0 = 0 := rfl
theorem bl_half {n : Nat} (h : 0 < n) : bl n = bl (n / 2) + 1 := by
  have a : ∀ k, k < bl n ↔ k < bl (n / 2) + 1 := by
    intro k
    rw [lt_bl]
    cases k with
    | zero => simp; omega
    | succ k =>
      have : k + 1 < bl (n / 2) + 1 ↔ k < bl (n / 2) := by omega
      rw [this, lt_bl, Nat.pow_succ]
      omega
  have h1 := a (bl n)
  have h2 := a (bl (n / 2) + 1)
  omega
theorem bl_lt (n : Nat) : n < 2 ^ bl n := by
  have := lt_bl n (bl n)
  omega
theorem bl_le {n k : Nat} (h : n < 2 ^ k) : bl n ≤ k := by
  have := lt_bl n k
  omega
def pop (n : Nat) : Nat := if n = 0 then 0 else n % 2 + pop (n / 2)
termination_by n
decreasing_by omega
theorem pop_zero : pop 0 = 0 := by rw [pop]; simp
theorem pop_two (n b : Nat) (h : b < 2) : pop (2 * n + b) = pop n + b := by
  by_cases h0 : 2 * n + b = 0
  · have h1 : n = 0 := by omega
    have h2 : b = 0 := by omega
    subst h1; subst h2
    simp
  · rw [pop, if_neg h0, show (2 * n + b) % 2 = b by omega, show (2 * n + b) / 2 = n by omega]
    omega
/-- what undoes is one -/
theorem inv_one {m n r s : Int} (hr : Cg m (n * r) 1) (hs : Cg m (n * s) 1) (r0 : 0 ≤ r) (r1 : r < m) (s0 : 0 ≤ s) (s1 : s < m) : r = s := by
  have a : Cg m (n * r * s) s := by simpa using hr.mul (Cg.refl m s)
  have b : Cg m (n * s * r) r := by simpa using hs.mul (Cg.refl m r)
  have c : Cg m r s := b.symm.trans ((Cg.of_rfl (by grind)).trans a)
  have := c.eq
  rwa [Int.emod_eq_of_lt r0 r1, Int.emod_eq_of_lt s0 s1] at this
end PF
namespace PF
theorem two_dvd {a b : Nat} (h : a ≤ b) : ((2 : Int) ^ a) ∣ 2 ^ b := ⟨2 ^ (b - a), by rw [← Int.pow_add]; congr 1; omega⟩
end PF

set_option Elab.async false
set_option linter.all false
set_option maxRecDepth 100000
namespace PF
open PySem L2
/-! ## Odd parts -/
theorem odd_part : ∀ n : Nat, 0 < n → ∃ k j, n = 2 ^ k * (2 * j + 1)
  | n => fun h => by
    by_cases hn : n % 2 = 1
    · exact ⟨0, n / 2, by omega⟩
    · obtain ⟨k, j, e⟩ := odd_part (n / 2) (by omega)
      refine ⟨k + 1, j, ?_⟩
      rw [Nat.pow_succ, Nat.mul_right_comm, ← e]
      omega
termination_by n => n
decreasing_by omega
def oddP (n : Nat) : Nat := if n % 2 = 0 ∧ 0 < n then oddP (n / 2) else n
termination_by n
decreasing_by omega
theorem oddP_odd {n : Nat} (h : n % 2 = 1) : oddP n = n := by rw [oddP, if_neg (by omega)]
theorem oddP_half {n : Nat} (h : n % 2 = 0) (h0 : 0 < n) : oddP n = oddP (n / 2) := by rw [oddP, if_pos ⟨h, h0⟩]
theorem oddP_two (k j : Nat) : oddP (2 ^ k * (2 * j + 1)) = 2 * j + 1 := by
  induction k with
  | zero => rw [Nat.pow_zero, Nat.one_mul]; exact oddP_odd (by omega)
  | succ k ih =>
    have hp : 0 < 2 ^ k * (2 * j + 1) := Nat.mul_pos (Nat.two_pow_pos k) (by omega)
    have e : 2 ^ (k + 1) * (2 * j + 1) = 2 * (2 ^ k * (2 * j + 1)) := by rw [Nat.pow_succ]; grind
    rw [e, oddP_half (by omega) (by omega), show 2 * (2 ^ k * (2 * j + 1)) / 2 = 2 ^ k * (2 * j + 1) by omega, ih]
theorem oddP_is {n : Nat} (h : 0 < n) : oddP n % 2 = 1 ∧ oddP n ≤ n := by
  obtain ⟨k, j, rfl⟩ := odd_part n h
  rw [oddP_two]
  refine ⟨by omega, ?_⟩
  have := Nat.mul_le_mul_right (2 * j + 1) (Nat.one_le_two_pow (n := k))
  omega
theorem gcd_oddP {n b : Nat} (h : 0 < n) (hb : b % 2 = 1) : Nat.gcd (oddP n) b = Nat.gcd n b := by
  obtain ⟨k, j, rfl⟩ := odd_part n h
  rw [oddP_two]
  have c2 : Nat.Coprime 2 b := by
    unfold Nat.Coprime
    rw [Nat.gcd_rec, hb]
    rfl
  exact (Nat.Coprime.gcd_mul_left_cancel _ (c2.pow_left k)).symm
theorem and_pred (k j : Nat) : (2 ^ k * (2 * j + 1)) &&& (2 ^ k * (2 * j + 1) - 1) = 2 ^ (k + 1) * j := by
  have hp := Nat.two_pow_pos k
  have e1 : 2 ^ k * (2 * j + 1) = 2 ^ (k + 1) * j + 2 ^ k := by rw [Nat.pow_succ]; grind
  have e2 : 2 ^ k * (2 * j + 1) - 1 = 2 ^ (k + 1) * j + (2 ^ k - 1) := by omega
  have l1 : 2 ^ k < 2 ^ (k + 1) := by rw [Nat.pow_succ]; omega
  rw [e2, e1]
  refine Nat.eq_of_testBit_eq fun i => ?_
  rw [Nat.testBit_and, Nat.testBit_two_pow_mul_add j l1, Nat.testBit_two_pow_mul_add j (show 2 ^ k - 1 < 2 ^ (k + 1) by omega), Nat.testBit_two_pow_mul]
  by_cases hi : i < k + 1
  · rw [if_pos hi, if_pos hi, Nat.testBit_two_pow, Nat.testBit_two_pow_sub_one]
    have : ¬ (i ≥ k + 1) := by omega
    simp [this]
    omega
  · rw [if_neg hi, if_neg hi]
    have : i ≥ k + 1 := by omega
    simp [this]
/-- the lowest one of a word -/
theorem low_one (k j : Nat) : Builtin.bitAnd ((2 ^ k * (2 * j + 1) : Nat) : Int) (-((2 ^ k * (2 * j + 1) : Nat) : Int)) = ((2 ^ k : Nat) : Int) := by
  have hp := Nat.two_pow_pos k
  have h0 : 0 < 2 ^ k * (2 * j + 1) := Nat.mul_pos hp (by omega)
  have ha := and_pred k j
  have e1 : 2 ^ k * (2 * j + 1) = 2 ^ (k + 1) * j + 2 ^ k := by rw [Nat.pow_succ]; grind
  generalize hn : 2 ^ k * (2 * j + 1) = n at *
  unfold Builtin.bitAnd
  rw [decide_eq_true (show (0 : Int) ≤ n by omega), decide_eq_false (show ¬ ((0 : Int) ≤ -(n : Int)) by omega)]
  simp only [bitNot_e]
  rw [show (-(-(n : Int)) - 1).toNat = n - 1 by omega, Int.toNat_natCast, ha]
  omega
theorem bl_two (k : Nat) : bl (2 ^ k) = k + 1 := by
  have h1 := lt_bl (2 ^ k) k
  have h2 := lt_bl (2 ^ k) (k + 1)
  rw [Nat.pow_succ] at h2
  have := Nat.two_pow_pos k
  omega
theorem dvd_of_bits {a k : Nat} (h : ∀ i, i < k → a.testBit i = false) : 2 ^ k ∣ a := by
  refine Nat.dvd_of_mod_eq_zero (Nat.eq_of_testBit_eq fun i => ?_)
  rw [Nat.testBit_mod_two_pow, Nat.zero_testBit]
  by_cases hi : i < k
  · simp [hi, h i hi]
  · simp [hi]
/-- the lowest one of two words together -/
theorem or_low {a b k j : Nat} (h : a ||| b = 2 ^ k * (2 * j + 1)) : ∃ x y, a = 2 ^ k * x ∧ b = 2 ^ k * y ∧ (x % 2 = 1 ∨ y % 2 = 1) := by
  have hb : ∀ i, (a.testBit i || b.testBit i) = (decide (i ≥ k) && (2 * j + 1).testBit (i - k)) := fun i => by
    rw [← Nat.testBit_or, h, Nat.testBit_two_pow_mul]
  obtain ⟨x, hx⟩ := dvd_of_bits (a := a) (k := k) fun i hi => by
    have := hb i
    rw [decide_eq_false (by omega), Bool.false_and, Bool.or_eq_false_iff] at this
    exact this.1
  obtain ⟨y, hy⟩ := dvd_of_bits (a := b) (k := k) fun i hi => by
    have := hb i
    rw [decide_eq_false (by omega), Bool.false_and, Bool.or_eq_false_iff] at this
    exact this.2
  refine ⟨x, y, hx, hy, ?_⟩
  have := hb k
  rw [hx, hy, Nat.testBit_two_pow_mul, Nat.testBit_two_pow_mul] at this
  simp only [ge_iff_le, Nat.le_refl, decide_true, Bool.true_and, Nat.sub_self, Nat.testBit_zero] at this
  rw [decide_eq_true (show (2 * j + 1) % 2 = 1 by omega), Bool.or_eq_true, decide_eq_true_eq, decide_eq_true_eq] at this
  exact this
/-! ## The greatest divisor by differences -/
def diffN : Nat → Nat → Nat → Nat × Nat
  | 0, a, _ => (a, 0)
  | f + 1, a, b => if a = b then (a, 0) else ((diffN f (oddP (max a b - min a b)) (min a b)).1, (diffN f (oddP (max a b - min a b)) (min a b)).2 + 1)
theorem diffN_next {a b : Nat} (h : a ≠ b) (ha : a % 2 = 1) (hb : b % 2 = 1) : oddP (max a b - min a b) % 2 = 1 ∧ min a b % 2 = 1 ∧ oddP (max a b - min a b) + min a b < a + b := by
  have hp := oddP_is (n := max a b - min a b) (by omega)
  exact ⟨hp.1, by omega, by omega⟩
theorem diffN_gcd : ∀ (f a b : Nat), a % 2 = 1 → b % 2 = 1 → a + b ≤ f → (diffN f a b).1 = Nat.gcd a b
  | 0, a, b, ha, hb, h => by omega
  | f + 1, a, b, ha, hb, h => by
    unfold diffN
    by_cases e : a = b
    · rw [if_pos e, e, Nat.gcd_self]
    · rw [if_neg e]
      obtain ⟨n1, n2, n3⟩ := diffN_next e ha hb
      show (diffN f _ _).1 = _
      rw [diffN_gcd f _ _ n1 n2 (by omega), gcd_oddP (by omega) n2, Nat.gcd_sub_self_left (by omega)]
      rcases Nat.le_total a b with h | h
      · rw [Nat.max_eq_right h, Nat.min_eq_left h, Nat.gcd_comm]
      · rw [Nat.max_eq_left h, Nat.min_eq_right h]
/-! ## Roots by Newton's way -/
def newtN (n : Nat) : Nat → Nat → Nat × Nat
  | 0, h => (h, 0)
  | f + 1, h => if (h + n / h) / 2 < h then ((newtN n f ((h + n / h) / 2)).1, (newtN n f ((h + n / h) / 2)).2 + 1) else (h, 0)
theorem newt_step {n h : Nat} (h0 : 0 < h) (hn : n < (h + 1) * (h + 1)) : n < ((h + n / h) / 2 + 1) * ((h + n / h) / 2 + 1) := by
  have q := Nat.div_add_mod n h
  have r := Nat.mod_lt n h0
  generalize n / h = z at *
  generalize n % h = s at *
  have k1 : h + z + 1 ≤ 2 * ((h + z) / 2 + 1) := by omega
  generalize (h + z) / 2 + 1 = y at *
  -- 2 y >= h + z + 1, n < h (z + 1)
  have k2 : n < h * (z + 1) := by rw [Nat.mul_add]; omega
  have k3 : h * (h + z + 1) ≤ h * (2 * y) := Nat.mul_le_mul_left h k1
  have k4 : h * (h + z + 1) = h * h + h * (z + 1) := by grind
  -- n + h h < 2 h y <= y y + h h
  have k5 : h * (2 * y) ≤ y * y + h * h := by
    rcases Nat.le_total h y with l | l
    · obtain ⟨d, rfl⟩ := Nat.le.dest l
      have : (h + d) * (h + d) + h * h = h * (2 * (h + d)) + d * d := by grind
      omega
    · obtain ⟨d, rfl⟩ := Nat.le.dest l
      have : y * y + (y + d) * (y + d) = (y + d) * (2 * y) + d * d := by grind
      omega
  omega
theorem newtN_root {n : Nat} : ∀ (f h : Nat), h ≤ f → 0 < h → 0 < n → n < (h + 1) * (h + 1) → (newtN n f h).1 * (newtN n f h).1 ≤ n ∧ n < ((newtN n f h).1 + 1) * ((newtN n f h).1 + 1)
  | 0, h, hf, h0, _, hn => by omega
  | f + 1, h, hf, h0, n0, hn => by
    unfold newtN
    by_cases e : (h + n / h) / 2 < h
    · rw [if_pos e]
      have hp : 0 < (h + n / h) / 2 := by
        have : 1 ≤ n / h ∨ 2 ≤ h := by
          by_cases z : h = 1
          · subst z; left; rw [Nat.div_one]; omega
          · right; omega
        generalize n / h = y at this
        rcases this with z | z
        · omega
        · omega
      exact newtN_root f _ (by omega) hp n0 (newt_step h0 hn)
    · rw [if_neg e]
      refine ⟨?_, hn⟩
      have : h ≤ n / h := by omega
      exact (Nat.le_div_iff_mul_le h0).mp this
theorem root_one {n r s : Nat} (r1 : r * r ≤ n) (r2 : n < (r + 1) * (r + 1)) (s1 : s * s ≤ n) (s2 : n < (s + 1) * (s + 1)) : r = s := by
  rcases Nat.lt_trichotomy r s with h | h | h
  · have := Nat.mul_le_mul (show r + 1 ≤ s by omega) (show r + 1 ≤ s by omega)
    omega
  · exact h
  · have := Nat.mul_le_mul (show s + 1 ≤ r by omega) (show s + 1 ≤ r by omega)
    omega
end PF
namespace PF
theorem dec_beq {a b : Int} : decide (a = b) = (a == b) := by
  by_cases h : a = b <;> simp [h]
end PF

set_option Elab.async false
set_option linter.all false
set_option maxRecDepth 100000
namespace PF
open PySem PySem.Spec PyProof.Rows L2 HT

/-! ## xs[::-1] of a tuple -/
section
variable {prog : Program} {w : World} {A : Around} {E : Value → Shared → Prop} {s : Shared}
theorem back_places (n : Nat) : Builtin.Slice.sliceAdjust none none (-1) (n : Int) = ((n : Int) - 1, -1) ∧ Builtin.Slice.slicePlaces ((n : Int) - 1) (-1) (-1) = n := by
  constructor
  · simp [Builtin.Slice.sliceAdjust]
  · simp only [Builtin.Slice.slicePlaces]
    by_cases h : n = 0
    · subst h; decide
    · rw [if_neg (by decide), if_pos (by omega)]
      show (((n : Int) - 1 - -1 - 1) / 1 + 1).toNat = n
      rw [Int.ediv_one]
      omega
theorem fm_congr {α β : Type} {f g : α → Option β} : ∀ {xs : List α}, (∀ x ∈ xs, f x = g x) → xs.filterMap f = xs.filterMap g
  | [], _ => rfl
  | x :: xs, h => by
    rw [List.filterMap_cons, List.filterMap_cons, h x List.mem_cons_self, fm_congr (xs := xs) fun y hy => h y (List.mem_cons_of_mem _ hy)]
theorem back_picks {α : Type} (xs : Array α) : ((List.range xs.size).filterMap fun (m : Nat) => xs[((xs.size : Int) - 1 + (m : Int) * -1).toNat]?) = xs.toList.reverse := by
  have e1 : (List.range xs.size).filterMap (fun (m : Nat) => xs[((xs.size : Int) - 1 + (m : Int) * -1).toNat]?) = (List.range xs.size).filterMap fun m => xs.toList.reverse[m]? := by
    refine fm_congr fun m hm => ?_
    have hm := List.mem_range.mp hm
    rw [List.getElem?_reverse (by simpa using hm), Array.getElem?_toList]
    congr 1
    have : xs.toList.length = xs.size := by simp
    omega
  rw [e1]
  have key : ∀ (l : List α), (List.range l.length).filterMap (fun m => l[m]?) = l := by
    intro l
    induction l with
    | nil => rfl
    | cons a l ih =>
      rw [List.length_cons, List.range_succ_eq_map, List.filterMap_cons]
      simp only [List.getElem?_cons_zero, List.filterMap_map]
      congr 1
  have := key xs.toList.reverse
  rwa [List.length_reverse, Array.length_toList] at this
/-- a tuple's items from the last one on: another tuple -/
theorem back_tuple {t sl : Addr} {xs : Array Value} {a b c : Value} {Q : Value → Shared → Prop} (ht : IsTup s.heap t xs) (hs : s.heap.IsSliceOf sl a b c) (pa : IsPart a none) (pb : IsPart b none) (pc : IsPart c (some (-1)))
    (h : Q (.ref s.heap.objs.size) { s with heap := s.heap.push { cls := .type "tuple", data := .seq xs.toList.reverse.toArray } })
    (hsz : xs.size ≤ sizeLine) : wpAny (model prog w) A (getItem (.ref t) (.ref sl)) Q E s := by
  have fits : sizeOk (.seq xs.toList.reverse.toArray) := by
    show xs.toList.reverse.toArray.size ≤ sizeLine
    simpa using hsz
  obtain ⟨o, ho, oc, od⟩ := id hs
  have ty : s.TypeIs (.ref sl) "slice" := ⟨o, ho, oc⟩
  unfold getItem
  try with_reducible refine wpAny_holding ?_
  first
    | refine wpAny_bind (wpAny_pure ?_)
    | skip
  refine wpAny_bind (wpAny_sequenceKey ht.typeIs (by decide) (wpAny_bind ?_))
  refine wpAny_callSpecial?_slot (name := Str.ofString "__getitem__") ht.typeIs slot_tuple_getitem (wpAny_call_entry slot_tuple_getitem ht.typeIs
    entry_tuple_getitem ?_ (args_tuple_getitem _ _))
  show wpAny _ _ (Builtin.Tuple.tupleItemsOf (.ref t) >>= _) _ _ s
  refine wpAny_bind (tupleItemsOf_ ht (wpAny_bind (wpAny_typeOf ty ?_)))
  rw [if_pos (by decide)]
  obtain ⟨e1, e2⟩ := back_places xs.size
  have app : ∀ {A' : Around} {R : Int × Int × Nat → Shared → Prop}, R ((xs.size : Int) - 1, -1, xs.size) s → wpAny (model prog w) A' (Builtin.Slice.sliceApplied (.ref sl) (pure (xs.size : Int))) R E s := by
    intro A' R hR
    unfold Builtin.Slice.sliceApplied Builtin.Slice.sliceFields
    refine wpAny_bind (wpAny_bind (wpAny_field ho od (x := a) rfl (wpAny_bind ?_)))
    refine wpAny_field ho od (x := b) rfl (wpAny_bind (wpAny_field ho od (x := c) rfl (wpAny_pure (wpAny_bind ?_))))
    refine slicePart_ pc ?_
    show wpAny _ _ (if ((-1 : Int) == 0) = true then _ else _) _ _ s
    rw [if_neg (by decide)]
    refine wpAny_bind (slicePart_ pa (wpAny_bind (slicePart_ pb (wpAny_bind (wpAny_pure ?_)))))
    show wpAny _ _ (match Builtin.Slice.sliceAdjust none none (-1) (xs.size : Int) with
      | (lo, hi) => pure (lo, (-1 : Int), Builtin.Slice.slicePlaces lo hi (-1))) _ _ s
    rw [e1]
    show wpAny _ _ (pure ((xs.size : Int) - 1, (-1 : Int), Builtin.Slice.slicePlaces ((xs.size : Int) - 1) (-1) (-1))) _ _ s
    rw [e2]
    exact wpAny_pure hR
  refine wpAny_bind (app ?_)
  show wpAny _ _ (if ((((xs.size : Int) - 1) == 0 && (-1 : Int) == 1 && xs.size == xs.size) = true) then _ else _) _ _ s
  rw [if_neg (by simp)]
  rw [back_picks]
  first
    | exact wpAny_bind (m := Builtin.Tuple.tupleExact _) (wpAny_newObj_type (wpAny_pure ⟨_, rfl, wpAny_pure h⟩) fits)
    | exact wpAny_bind (wpAny_bind (m := Builtin.Tuple.tupleExact _) (wpAny_newObj_type (wpAny_pure ⟨_, rfl, wpAny_pure h⟩) fits))
    | exact wpAny_bind (wpAny_bind (m := Builtin.Tuple.tupleExact _) (wpAny_newObj_type (wpAny_pure (wpAny_pure ⟨_, rfl, wpAny_pure h⟩)) fits))
    | exact wpAny_bind (m := Builtin.Tuple.tupleExact _) (wpAny_newObj_type (wpAny_bind (wpAny_pure (wpAny_pure ⟨_, rfl, wpAny_pure h⟩))) fits)
end
end PF
namespace PF
open PySem PySem.Spec PyProof.Rows L2 HT
def tBack (K : PySem.W.Frag) (te : TE) : TE := fun σ H Q => te σ H fun x H1 => ∃ l zs, x = .ref l ∧ ((SqL K H1 l zs ∧ ∀ p, H1 p = none → Q (.ref p) (upd H1 p (.lst zs.reverse))) ∨ (SqT K H1 l zs ∧ ∀ p, H1 p = none → Q (.ref p) (upd H1 p (.tup zs.reverse))))
section
variable {X : Cx} {G : Gam} {W : WX} {a : Expr} {da : E} {p q q2 q3 q4 pos : Pos} {kk : Nat}
theorem pe_back {ta : TE} (ha : PE X a ta) : PE X (.Subscript a (.Slice none none (some (.UnaryOp .USub (.Constant (.int 1) kk q) q2)) q3) pos) (tBack X.K ta) := by
  refine ⟨fun held s σ H Q I h => ?_⟩
  refine Subscript_ (thn (ha.run held s σ H _ I h) fun v t1 ⟨x, H1, J1, r1, l, zs, ex, cases2⟩ => ?_)
  subst ex
  cases r1
  have part : PO X (some (.UnaryOp .USub (.Constant (.int 1) kk q) q2)) (tPart (tUn (rU fun i => .int (-i)) (tC (.int 1)))) :=
    po_some (pe_un un_neg pe_int)
  refine wpAny_Slice (thn (po_none.run held t1 σ H1 (fun o Hx => o = none ∧ Hx = H1) J1 ⟨rfl, rfl⟩) fun v1 t2 ⟨o1, H2, J2, pa, eo1, eH2⟩ => ?_)
  subst eo1
  subst eH2
  refine thn (po_none.run held t2 σ H2 (fun o Hx => o = none ∧ Hx = H2) J2 ⟨rfl, rfl⟩) fun v2 t3 ⟨o2, H3, J3, pb, eo2, eH3⟩ => ?_
  subst eo2
  subst eH3
  refine thn (part.run held t3 σ H3 (fun o Hx => o = some (-1) ∧ Hx = H3) J3 ⟨1, rfl, -1, rfl, rfl, rfl⟩) fun v3 t4 ⟨o3, H4, J4, pc, eo3, eH4⟩ => ?_
  subst eo3
  subst eH4
  have J5 : Inv X held σ H4 { t4 with heap := t4.heap.push { cls := .type "slice", data := .fields #[v1, v2, v3] } } :=
    J4.kept (t' := t4.toks) fun b ob e => Heap.get?_push_of_some _ e
  show wpAny (model X.prog X.w) X.A (subscriptTail a (.Slice none none (some (.UnaryOp .USub (.Constant (.int 1) kk q) q2)) q3) (.ref l) (.ref t4.heap.objs.size))
    (EP X held σ Q) X.xe { t4 with heap := t4.heap.push { cls := .type "slice", data := .fields #[v1, v2, v3] } }
  rcases cases2 with ⟨hl, fin⟩ | ⟨hl, fin⟩
  · obtain ⟨ys, ry, yl, yz⟩ := J5.list hl
    have len := ry.length
    refine tail_any (ops := [.ref l, .ref t4.heap.objs.size]) yl.isList.typeIs slot_list_getitem.lookup ?_
      (by with_unfolding_all rfl)
    refine wpAny_getItem_list_slice yl.isList (Heap.IsSliceOf.new _ v1 v2 v3) pa pb pc (by decide) ?_
      (by rw [List.size_toArray]; omega)
    rw [PySem.W.krv_pick]
    exact ⟨.ref _, _, J5.laid (t' := t4.toks) (o := .lst zs.reverse) (fun b ob e => Heap.get?_push_of_some _ e) (Nat.le_refl _)
      ⟨by rw [List.length_reverse]; exact yz, _, 0, ry.reverse, Heap.get?_push_size _ rfl⟩, rfl, fin _ (J5.hok.fresh (Nat.le_refl _))⟩
  · obtain ⟨ys, ry, yl, yz⟩ := J5.tuple hl
    have len := ry.length
    have yt : IsTup (t4.heap.push { cls := .type "slice", data := .fields #[v1, v2, v3] }) l ys.toArray := yl
    refine tail_any (ops := [.ref l, .ref t4.heap.objs.size]) yt.typeIs (slot_tuple_getitem.lookup) ?_
      (by with_unfolding_all rfl)
    refine back_tuple yt (Heap.IsSliceOf.new _ v1 v2 v3) pa pb pc ?_
      (by rw [List.size_toArray]; omega)
    exact ⟨.ref _, _, J5.laid (t' := t4.toks) (o := .tup zs.reverse) (fun b ob e => Heap.get?_push_of_some _ e) (Nat.le_refl _)
      (show ObjOk X.prog X.w _ _ _ (.tup zs.reverse) from ⟨by rw [List.length_reverse]; exact yz, ys.reverse, ry.reverse, IsTup.new _ _⟩), rfl, fin _ (J5.hok.fresh (Nat.le_refl _))⟩
def backT : PV → Option PV
  | .tup ps => some (.tup ps.reverse)
  | .lst ps => some (.lst ps.reverse)
  | .scr ps => some (.lst ps.reverse)
  | _ => none
def backL : PV → Option (List PV)
  | .lst ps => some ps.reverse
  | .scr ps => some ps.reverse
  | _ => none
def tupBack : PV → Option PV
  | .lst ps => some (.tup ps.reverse)
  | .scr ps => some (.tup ps.reverse)
  | _ => none
/-- what a list or a tuple is, as it lies -/
theorem seq_of {k : Kx} {S H : Hp} {p : PV} {v : V} (e : Same S H) (r : RepB k S H p v) : (∀ ps, p = .lst ps → ∃ l us, v = .ref l ∧ SqL k.K H l us ∧ Reps k S ps us) ∧ (∀ ps, p = .scr ps → ∃ l us, v = .ref l ∧ SqL k.K H l us ∧ Reps k S ps us) ∧ (∀ ps, p = .tup ps → ∃ l us, v = .ref l ∧ SqT k.K H l us ∧ Reps k S ps us) := by
  refine ⟨fun ps h => ?_, fun ps h => ?_, fun ps h => ?_⟩
  · subst h
    obtain ⟨l, us, e1, h1, h2⟩ := repB_lst e r
    exact ⟨l, us, e1, .of h1, h2⟩
  · subst h
    exact repB_scr e r
  · subst h
    obtain ⟨l, us, e1, _, h1, h2⟩ := repB_tup e r
    exact ⟨l, us, e1, h1, h2⟩
theorem e_back (C : Ct X G W) (h : BOk X G W a da) : EOk X G W (.Subscript a (.Slice none none (some (.UnaryOp .USub (.Constant (.int 1) kk q) q2)) q3) pos) (dUn backT da) :=
  pe_weak (pe_back h) fun σ H Q ⟨S, ρ, R, P⟩ => ⟨S, ρ, R, Post.bind (R1 := RB G.k) P fun x ρ1 v S1 H1 s1 R1 rv P1 => by
    obtain ⟨z, ez, P2⟩ := Post.ofO P1
    obtain ⟨c1, c2, c3⟩ := seq_of R1.sub rv
    rw [← C.K]
    cases x <;> simp only [backT] at ez <;> cases ez
    · obtain ⟨l, us, rfl, hq, hr⟩ := c3 _ rfl
      refine ⟨l, us, rfl, .inr ⟨hq, fun p hp => ?_⟩⟩
      have g := Grow.new (S := S1) R1.sub hp (noTb_tup (xs := us.reverse))
      exact P2 _ _ _ g.sS (R1.grow g) (rep_tup (.of upd_same) (hr.rev.mono g.sS))
    · obtain ⟨l, us, rfl, hq, hr⟩ := c1 _ rfl
      refine ⟨l, us, rfl, .inl ⟨hq, fun p hp => ?_⟩⟩
      have g := Grow.new (S := S1) R1.sub hp (noTb_lst (xs := us.reverse))
      exact P2 _ _ _ g.sS (R1.grow g) (rep_lst upd_same (hr.rev.mono g.sS))
    · obtain ⟨l, us, rfl, hq, hr⟩ := c2 _ rfl
      refine ⟨l, us, rfl, .inl ⟨hq, fun p hp => ?_⟩⟩
      have g := Grow.new (S := S1) R1.sub hp (noTb_lst (xs := us.reverse))
      exact P2 _ _ _ g.sS (R1.grow g) (rep_lst upd_same (hr.rev.mono g.sS))⟩
theorem f_back (C : Ct X G W) (h : BOk X G W a da) : FOk X G W (.Subscript a (.Slice none none (some (.UnaryOp .USub (.Constant (.int 1) kk q) q2)) q3) pos) (fUn backL da) :=
  pe_weak (pe_back h) fun σ H Q ⟨S, ρ, R, P⟩ => ⟨S, ρ, R, Post.bind (R1 := RB G.k) P fun x ρ1 v S1 H1 s1 R1 rv P1 => by
    obtain ⟨z, ez, P2⟩ := Post.ofO P1
    obtain ⟨c1, c2, c3⟩ := seq_of R1.sub rv
    rw [← C.K]
    cases x <;> simp only [backL] at ez <;> cases ez
    · obtain ⟨l, us, rfl, hq, hr⟩ := c1 _ rfl
      refine ⟨l, us, rfl, .inl ⟨hq, fun p hp => ?_⟩⟩
      obtain ⟨R2, F⟩ := R1.newList hp hr.rev
      exact P2 _ S1 _ (.refl _) R2 F
    · obtain ⟨l, us, rfl, hq, hr⟩ := c2 _ rfl
      refine ⟨l, us, rfl, .inl ⟨hq, fun p hp => ?_⟩⟩
      obtain ⟨R2, F⟩ := R1.newList hp hr.rev
      exact P2 _ S1 _ (.refl _) R2 F⟩
theorem e_tupBack (C : Ct X G W) (hc : X.calm = true) (hg : Gl X "tuple") (hm : X.mg "tuple" = none) (hg2 : Gl X "reversed") (hm2 : X.mg "reversed" = none) (h : BOk X G W a da)
    (hs : starEach [a] X.env = (false, eval a X.env) :: starEach [] X.env := by rfl)
    (hs2 : starEach [.Call (.Name "reversed" q2) [a] [] q3] X.env = (false, eval (.Call (.Name "reversed" q2) [a] [] q3) X.env) :: starEach [] X.env := by rfl) :
    EOk X G W (.Call (.Name "tuple" p) [.Call (.Name "reversed" q2) [a] [] q3] [] pos) (dUn tupBack da) :=
  pe_weak (RT.pe_tupRev hc hg hm hg2 hm2 h hs hs2) fun σ H Q ⟨S, ρ, R, P⟩ => ⟨S, ρ, R, Post.bind (R1 := RB G.k) P fun x ρ1 v S1 H1 s1 R1 rv P1 => by
    obtain ⟨z, ez, P2⟩ := Post.ofO P1
    obtain ⟨c1, c2, c3⟩ := seq_of R1.sub rv
    rw [← C.K]
    cases x <;> simp only [tupBack] at ez <;> cases ez
    · obtain ⟨l, us, rfl, hq, hr⟩ := c1 _ rfl
      refine ⟨l, us, rfl, hq, fun p hp => ?_⟩
      have g := Grow.new (S := S1) R1.sub hp (noTb_tup (xs := us.reverse))
      exact P2 _ _ _ g.sS (R1.grow g) (rep_tup (.of upd_same) (hr.rev.mono g.sS))
    · obtain ⟨l, us, rfl, hq, hr⟩ := c2 _ rfl
      refine ⟨l, us, rfl, hq, fun p hp => ?_⟩
      have g := Grow.new (S := S1) R1.sub hp (noTb_tup (xs := us.reverse))
      exact P2 _ _ _ g.sS (R1.grow g) (rep_tup (.of upd_same) (hr.rev.mono g.sS))⟩
end
@[simp] theorem backT_t {ps : List PV} : backT (.tup ps) = some (.tup ps.reverse) := rfl
@[simp] theorem backT_l {ps : List PV} : backT (.lst ps) = some (.lst ps.reverse) := rfl
@[simp] theorem backL_l {ps : List PV} : backL (.lst ps) = some ps.reverse := rfl
@[simp] theorem tupBack_l {ps : List PV} : tupBack (.lst ps) = some (.tup ps.reverse) := rfl
end PF
namespace PF
open PySem PySem.Spec PyProof.Rows L2
/-! ## Defs that call themselves -/
theorem bs_stuck {X : Cx} {G : Gam} {W : WX} {st : List Stmt} : BsOk X G W st (fun _ => .stuck) := ⟨fun pins s σ H D I h => by
  obtain ⟨S, ρ, R, P⟩ := h
  exact P.elim⟩
end PF

set_option Elab.async false
set_option linter.all false
set_option maxRecDepth 100000
namespace PF
open PySem L2
/-! ## Numbers by words, the last first -/
def val (t : Int) : List Int → Int
  | [] => 0
  | n :: ns => n + t * val t ns
theorem val_append (t : Int) (xs ys : List Int) : val t (xs ++ ys) = val t xs + t ^ xs.length * val t ys := by
  induction xs with
  | nil => simp [val]
  | cons x xs ih =>
    simp only [List.cons_append, val, ih, List.length_cons, Int.pow_succ]
    grind
theorem val_rng {t : Int} (ht : 0 < t) : ∀ {ns : List Int}, (∀ n ∈ ns, 0 ≤ n ∧ n < t) → 0 ≤ val t ns ∧ val t ns < t ^ ns.length
  | [], _ => by simp [val]
  | n :: ns, h => by
    have h1 := h n List.mem_cons_self
    have ⟨i1, i2⟩ := val_rng ht (ns := ns) fun m hm => h m (List.mem_cons_of_mem _ hm)
    simp only [val, List.length_cons, Int.pow_succ]
    have h3 := Int.mul_nonneg (Int.le_of_lt ht) i1
    have h4 : t * val t ns ≤ t * (t ^ ns.length - 1) := Int.mul_le_mul_of_nonneg_left (by omega) (Int.le_of_lt ht)
    have h5 : t * (t ^ ns.length - 1) = t ^ ns.length * t - t := by grind
    omega
/-- word j of n -/
def dig (t n : Int) (j : Nat) : Int := n / t ^ j % t
def digs (t n : Int) (k : Nat) : List Int := (List.range k).map (dig t n)
theorem digs_len (t n : Int) (k : Nat) : (digs t n k).length = k := by simp [digs]
theorem digs_rng {t : Int} (ht : 0 < t) (n : Int) (k : Nat) : ∀ x ∈ digs t n k, 0 ≤ x ∧ x < t := by
  intro x hx
  obtain ⟨j, _, rfl⟩ := List.mem_map.mp hx
  exact emod_rng _ ht
theorem dig_succ {t : Int} (ht : 0 < t) (n : Int) (j : Nat) : dig t n (j + 1) = dig t (n / t) j := by
  unfold dig
  rw [Int.pow_succ, Int.mul_comm, Int.ediv_ediv_of_nonneg (Int.le_of_lt ht)]
theorem digs_succ {t : Int} (ht : 0 < t) (n : Int) (k : Nat) : digs t n (k + 1) = n % t :: digs t (n / t) k := by
  unfold digs
  rw [List.range_succ_eq_map, List.map_cons, List.map_map]
  congr 1
  · simp [dig]
  · refine List.map_congr_left fun j _ => ?_
    exact dig_succ ht n j
theorem val_digs {t : Int} (ht : 0 < t) : ∀ (k : Nat) (n : Int), val t (digs t n k) = n % t ^ k
  | 0, n => by simp [digs, val, Int.emod_one]
  | k + 1, n => by
    have hp : 0 < t ^ k := Int.pow_pos ht
    rw [digs_succ ht, val, val_digs ht k, Int.pow_succ]
    have q1 := Int.mul_ediv_add_emod n t
    have q2 := Int.mul_ediv_add_emod (n / t) (t ^ k)
    have r1 := emod_rng n ht
    have r2 := emod_rng (n / t) hp
    refine (Cg.val (m := t ^ k * t) ⟨n / t / t ^ k, ?_⟩ ?_ ?_).symm
    · generalize n / t = a at *
      generalize n % t = b at *
      generalize a / t ^ k = c at *
      generalize a % t ^ k = d at *
      rw [← q1, ← q2]
      grind
    · have := Int.mul_nonneg (Int.le_of_lt ht) r2.1
      omega
    · have h4 : t * (n / t % t ^ k) ≤ t * (t ^ k - 1) := Int.mul_le_mul_of_nonneg_left (by omega) (Int.le_of_lt ht)
      have h5 : t * (t ^ k - 1) = t ^ k * t - t := by grind
      omega
theorem digs_val {t : Int} (ht : 0 < t) : ∀ {ns : List Int}, (∀ n ∈ ns, 0 ≤ n ∧ n < t) → digs t (val t ns) ns.length = ns
  | [], _ => rfl
  | n :: ns, h => by
    have h1 := h n List.mem_cons_self
    have e1 : val t (n :: ns) % t = n := by
      simp only [val]
      rw [Int.add_mul_emod_self_left, Int.emod_eq_of_lt h1.1 h1.2]
    have e2 : val t (n :: ns) / t = val t ns := by
      simp only [val]
      rw [Int.add_mul_ediv_left _ _ (by omega), Int.ediv_eq_zero_of_lt h1.1 h1.2]
      omega
    rw [List.length_cons, digs_succ ht, e1, e2, digs_val ht fun m hm => h m (List.mem_cons_of_mem _ hm)]
theorem foldl_val (t : Int) (ns : List Int) : ns.reverse.foldl (fun s n => s * t + n) 0 = val t ns := by
  rw [List.foldl_reverse]
  induction ns with
  | nil => rfl
  | cons n ns ih =>
    rw [List.foldr_cons, ih]
    simp only [val]
    rw [Int.mul_comm]
    omega
end PF
namespace PF
open PySem L2
theorem cut_last {α : Type} (xs : List α) (x : α) : cutP (xs ++ [x]) (some (-1)) none = [x] := by
  unfold cutP
  have : HT.sIx (xs ++ [x]).length 0 (some (-1)) = xs.length := by simp [HT.sIx]; omega
  rw [this, HT.sIx_none]
  simp
theorem cut_init {α : Type} (xs : List α) (x : α) : cutP (xs ++ [x]) none (some (-1)) = xs := by
  unfold cutP
  have : HT.sIx (xs ++ [x]).length (xs ++ [x]).length (some (-1)) = xs.length := by simp [HT.sIx]; omega
  rw [this, HT.sIx_none]
  simp
theorem cut_tail {α : Type} (x : α) (xs : List α) : cutP (x :: xs) (some 1) none = xs := by
  unfold cutP
  have : HT.sIx (x :: xs).length 0 (some 1) = 1 := by simp [HT.sIx] <;> omega
  rw [this, HT.sIx_none]
  simp
theorem pSl_t {ps : List PV} {b : Option Int × Option Int} : pSl (.tup ps) b = some (.tup (cutP ps b.1 b.2)) := rfl
theorem pSl_l {ps : List PV} {b : Option Int × Option Int} : pSl (.lst ps) b = some (.lst (cutP ps b.1 b.2)) := rfl
end PF

set_option Elab.async false
set_option linter.all false
set_option maxRecDepth 100000
namespace PF
open PySem PySem.Spec PyProof.Rows L2
/-! ## enumerate of a tuple -/
def tupIt (t : Addr) : Obj := { cls := Value.type "tuple_iterator", data := Data.fields #[Value.ref t, Value.int 0 0] }
def enumIt (h : Heap) : Obj := { cls := Value.type "enumerate", data := Data.fields #[Value.none, Value.bool false, Value.ref h.objs.size, rawInt 0, Value.none, Value.none] }
theorem meets_enum_newT (t : Addr) (items : Array Value) : Meets (Builtin.«enumerate.__new__» { pos := [Value.type "enumerate", Value.ref t] }) (fun _ R s => s.heap.IsTuple t items ∧
      R (Except.ok (PySem.Flow.ret (Value.ref (s.heap.push (tupIt t)).objs.size))) { s with heap := (s.heap.push (tupIt t)).push (enumIt s.heap) }) := by
  refine Meets.of_wp fun prog w A R s h => ?_
  obtain ⟨hp, g, d, tk, os⟩ := s
  obtain ⟨hT, h⟩ := h
  have hsub := sub_enumerate
  have hit := fun (A : Around) E => begins_tuple t items |>.iter prog w A E ⟨hp, g, d, tk, os⟩
  unfold Builtin.«enumerate.__new__»
  refine wpAny_bind ?_
  refine wpAny_bind ?_
  refine wpAny_pure ?_
  refine wpAny_ite_false rfl ?_
  refine wpAny_bind ?_
  refine wpAny_of_eq hsub ?_
  refine wpAny_ite_false rfl ?_
  refine wpAny_pure ?_
  refine wpAny_ite_true rfl ?_
  refine wpAny_bind ?_
  refine wpAny_bind ?_
  refine wpAny_stack_any fun st => ?_
  refine wpAny_pure ?_
  have two : ∀ b : Bool, wpAny (model prog w) A.in1 (if b = true then (do let x ← pure (Value.ref t, (none : Option Value)); (do let it ← pyIter x.1; let r ← Builtin.SmallTypes.newRecord (Value.type "enumerate") (Builtin.SmallTypes.ownedTupleFields ++ [it, rawInt 0, .none, Value.none]); ret r)) else (do let x ← pure (Value.ref t, (none : Option Value)); (do let it ← pyIter x.1; let r ← Builtin.SmallTypes.newRecord (Value.type "enumerate") (Builtin.SmallTypes.ownedTupleFields ++ [it, rawInt 0, .none, Value.none]); ret r))) (fun fin s' => ∃ v, fin = Fin.done (PySem.Flow.ret v) ∧ R (Except.ok (PySem.Flow.ret v)) s') (fun e s' => R (Except.error e) s') ⟨hp, g, d, tk, os⟩ := by
    intro b
    have e : ∀ (α : Type) (x : Sem α), (if b = true then x else x) = x := fun α x => by split <;> rfl
    rw [e]
    refine wpAny_bind ?_
    refine wpAny_pure ?_
    refine wpAny_bind ?_
    refine hit _ _ _ hT ?_
    refine wpAny_bind ?_
    refine wpAny_bind ?_
    refine wpAny_alloc ?_
    exact wpAny_pure (wpAny_pure ⟨_, rfl, h⟩)
  split
  · exact two _
  · exact two _
theorem call_enum_tuple {prog : Program} {w : World} {A : Around} {E : Value → Shared → Prop} {s : Shared} {t : Addr} {items : Array Value} {Q : Value → Shared → Prop} (hT : s.heap.IsTuple t items)
    (h : ∀ h' : Heap, IsEnum h' (s.heap.objs.size + 1) s.heap.objs.size 0 Value.none → h'.IsTupleIter s.heap.objs.size t 0 → h'.objs.size = s.heap.objs.size + 2 → (∀ (b : Addr) (o : Obj), s.heap.get? b = some o → h'.get? b = some o) →
      Q (Value.ref (s.heap.objs.size + 1)) { s with heap := h' }) : wpAny (model prog w) A (call (Value.type "enumerate") [Value.ref t]) Q E s := by
  refine callType_new F.called_enumerate (of_decide_eq_true rfl) (F.typeCall_enumerate_1 (Value.ref t)) (F.newCall_enumerate_1 (Value.ref t)) (fun obj => F.args_object_init_2 obj (Value.ref t)) F.entry_enumerate_new (meets_enum_newT t items) ⟨hT, ?_⟩
  have hz := Heap.size_push s.heap (tupIt t)
  have he : ((s.heap.push (tupIt t)).push (enumIt s.heap)).get? (s.heap.push (tupIt t)).objs.size = some (enumIt s.heap) := Heap.get?_push_size (s.heap.push (tupIt t)) rfl
  show Shared.TypeIs _ _ _ ∧ Q _ _
  rw [hz] at he ⊢
  refine ⟨⟨_, he, rfl⟩, h _ he ⟨_, Heap.get?_push_of_some _ (Heap.get?_push_size s.heap rfl), rfl, rfl⟩ ?_ fun b o q => Heap.get?_push_of_some _ (Heap.get?_push_of_some _ q)⟩
  rw [Heap.size_push, hz]
def IteT (K : PySem.W.Frag) (a : Addr) : It where
  go i H := ∃ xs x, SqT K H a xs ∧ xs[i]? = some x
  yld i H v H' := ∃ T x, v = V.ref T ∧ H T = none ∧ H' = upd H T (HO.tup [V.int (i : Nat), x]) ∧ ∀ xs : List V, SqT K H a xs → xs[i]? = some x
  stop i H := ∃ xs, SqT K H a xs ∧ xs.length = i
theorem turn_enumT {P : Program} {w : World} {K : PySem.W.Frag} {elts : List Expr} {kk : Nat} {tpos : Pos} (a e it : Addr) : Turn P w K (Expr.Tuple elts kk tpos) (IteT K a) [e, it] e fun i h => (∃ old, IsEnum h e it (i : Nat) old) ∧ h.IsTupleIter it a i ∧ e ≠ it ∧ a ≠ e ∧ a ≠ it where
  mem := List.mem_cons_self
  obj i h st b hb := by
    obtain ⟨⟨old, he⟩, ⟨o, ho, hc, hd⟩, _⟩ := st
    simp only [List.mem_cons, List.not_mem_nil, or_false] at hb
    rcases hb with rfl | rfl
    · exact ⟨_, he, fun v q => nomatch q⟩
    · exact ⟨_, ho, fun v q => by rw [hd] at q; cases q⟩
  keep i h h' st k := by
    obtain ⟨⟨old, he⟩, hi, hne⟩ := st
    exact ⟨⟨old, k _ (by simp) _ he⟩, hi.at fun o q => k _ (by simp) _ q, hne⟩
  item X hP hw hK hc i pins s σ H E I hf st hg := by
    subst hP hw hK
    obtain ⟨⟨old, he⟩, hit, hne, hae, hai⟩ := st
    obtain ⟨xs, x, hq, hx⟩ := hg
    obtain ⟨its, rv, p, hz⟩ := I.tuple hq
    obtain ⟨u, hu, ru⟩ := Vals.get rv hx
    have hl : i < its.toArray.size := by simpa using (List.getElem?_eq_some_iff.mp hu).1
    have W := WalksT.enumerateD (prog := X.prog) (w := X.w) (A := X.A) (Draws.tuple (A := X.A.in1) (I.ok.hd hc) it a hai its.toArray) e hne (by simp; exact ⟨hne, fun z => hae z.symm⟩) (by simp)
    have hel := Heap.lt_size he
    have hil : it < s.heap.objs.size := by obtain ⟨o, q, _⟩ := hit; exact Heap.lt_size q
    refine W.item i s _ _ hl ⟨⟨old, he⟩, hit, p⟩ fun T vals h' tk pt hT1 hT2 mid k1 => ⟨_, rfl, ?_⟩
    obtain ⟨t', x', hx', rfl⟩ := pt
    have ex' : x' = u := by
      have : its.toArray[i]? = some u := by rw [List.getElem?_toArray]; exact hu
      rw [this] at hx'
      exact (Option.some.inj hx').symm
    subst ex'
    have apt := W.apart i T h' mid
    refine W.go elts kk tpos i T _ _ _ mid fun h'' st2 k2 => ?_
    obtain ⟨o, ho, hcl, n, hd⟩ := hT2
    have hT3 : h''.get? T = some o := k2 T o apt ho
    have new : ObjOk X.prog X.w (upd H T (HO.tup [V.int (i : Nat), x])) h'' T (HO.tup [V.int (i : Nat), x]) := ⟨id (of_decide_eq_true (id (Eq.refl true))), [Value.int (i : Nat) t', x'], Paired.cons ⟨t', rfl⟩ (Paired.cons ru Paired.nil), o, hT3, hcl, n, hd⟩
    have I1 := Inv.turnedNew (t' := tk) I (fun b ob hb q => k2 b ob hb (k1 b ob hb q)) hf hT1 new
    refine ⟨V.ref T, _, I1, rfl, ⟨T, x, rfl, I.hok.fresh hT1, rfl, fun ys hy => by rw [I.tuple_inj hy hq]; exact hx⟩, ⟨st2.1, st2.2.1, hne, hae, hai⟩, fun b hb => ?_⟩
    have hb' : b < s.heap.objs.size := by
      simp only [List.mem_cons, List.not_mem_nil, or_false] at hb
      rcases hb with rfl | rfl
      · exact hel
      · exact hil
    rw [upd_ne (Nat.ne_of_lt (Nat.lt_of_lt_of_le hb' hT1))]
    exact (hf b hb).1
  done X hP hw hK hc i pins s σ H E I hf st hg := by
    subst hP hw hK
    obtain ⟨⟨old, he⟩, hit, hne, hae, hai⟩ := st
    obtain ⟨xs, hq, hx⟩ := hg
    obtain ⟨its, rv, p, hz⟩ := I.tuple hq
    have hl : i = its.toArray.size := by rw [← hx, Vals.length rv]; simp
    subst hl
    have W := WalksT.enumerateD (prog := X.prog) (w := X.w) (A := X.A) (Draws.tuple (A := X.A.in1) (I.ok.hd hc) it a hai its.toArray) e hne (by simp; exact ⟨hne, fun z => hae z.symm⟩) (by simp)
    refine W.done s _ _ ⟨⟨old, he⟩, hit, p⟩ fun h' tk k => ⟨rfl, ?_⟩
    exact Inv.turnedL I k hf
  self A i s Q E st h := by
    obtain ⟨⟨old, he⟩, _⟩ := st
    exact wpAny_pyIter_enum he h
def iEnumA (K : PySem.W.Frag) (ta : TA) : TI := fun σ H R => ta σ H fun vs H1 => ∃ a xs, vs = [V.ref a] ∧ (SqL K H1 a xs ∧ R (Ite K a) H1 ∨ SqT K H1 a xs ∧ R (IteT K a) H1)
theorem pi_enumA {X : Cx} {e : Expr} {ta : TA} {p pos tpos : Pos} {elts : List Expr} {kk : Nat} (hg : Gl X "enumerate") (hm : X.mg "enumerate" = none) (ha : PA X [e] ta) (hs : starEach [e] X.env = [(false, eval e X.env)] := by rfl) : PI X (.Tuple elts kk tpos) (.Call (.Name "enumerate" p) [e] [] pos) (iEnumA X.K ta) where
  run pins s σ H R I h := by
    refine Call_ (ld_blt I hg hm boot_enumerate (PyProof.Rows.callWith_type1 (thn (ha.run pos pins s σ H (fun vs H1 => ∃ a xs, vs = [V.ref a] ∧ (SqL X.K H1 a xs ∧ R (Ite X.K a) H1 ∨ SqT X.K H1 a xs ∧ R (IteT X.K a) H1)) I h) fun us s1 x => ?_) hs rfl) (of_decide_eq_true rfl) (of_decide_eq_true rfl)) rfl
    obtain ⟨vs, H1, I1, r1, a, xs, rfl, q1⟩ := x
    cases r1 with
    | cons r rr =>
      cases rr
      cases r
      rcases q1 with ⟨hq, q⟩ | ⟨hq, q⟩
      · obtain ⟨its, rv, p', hz⟩ := I1.list hq
        refine call_enumerate_list (PlainL.isList p') fun h' he hit hsz hk => wpAny_pyIter_enum he ?_
        refine ⟨_, [s1.heap.objs.size + 1, s1.heap.objs.size], _, _, H1, rfl, I1.kept hk, turn_enum a (s1.heap.objs.size + 1) s1.heap.objs.size, ⟨⟨_, he⟩, hit, Nat.succ_ne_self _⟩, fun b hb => ?_, q⟩
        have hle : s1.heap.objs.size ≤ b := by
          simp only [List.mem_cons, List.not_mem_nil, or_false] at hb
          rcases hb with rfl | rfl
          · exact Nat.le_add_right _ _
          · exact Nat.le_refl _
        exact I1.fpOk hle (I1.hok.fresh hle)
      · obtain ⟨its, rv, p', hz⟩ := I1.tuple hq
        have hT : s1.heap.IsTuple a its.toArray := p'
        have hlt : a < s1.heap.objs.size := by obtain ⟨o, z, _⟩ := hT; exact Heap.lt_size z
        refine call_enum_tuple hT fun h' he hit hsz hk => wpAny_pyIter_enum he ?_
        refine ⟨_, [s1.heap.objs.size + 1, s1.heap.objs.size], _, _, H1, rfl, I1.kept hk, turn_enumT a (s1.heap.objs.size + 1) s1.heap.objs.size, ⟨⟨_, he⟩, hit, Nat.succ_ne_self _, Nat.ne_of_lt (Nat.lt_succ_of_lt hlt), Nat.ne_of_lt hlt⟩, fun b hb => ?_, q⟩
        have hle : s1.heap.objs.size ≤ b := by
          simp only [List.mem_cons, List.not_mem_nil, or_false] at hb
          rcases hb with rfl | rfl
          · exact Nat.le_add_right _ _
          · exact Nat.le_refl _
        exact I1.fpOk hle (I1.hok.fresh hle)
theorem yl_enumT {k : Kx} {K : PySem.W.Frag} (hK : k.K = K) {S : Hp} {a : Addr} {ps : List PV} {us : List V} (h : SqT k.K S a us) (r : Reps k S ps us) : Yl k S (IteT K a) (enumP 0 ps) := by
  subst hK
  have up : ∀ {S' H'}, Same S S' → Same S' H' → SqT k.K H' a us := fun e1 e2 => sqT_mono e2 (sqT_mono e1 h)
  refine ⟨fun i S' H' e1 e2 hi => ?_, fun i S' H' x H'' e1 e2 hi hy => ?_, fun S' H' e1 e2 => ?_⟩
  · rw [enumP_len] at hi
    have hi' : i < us.length := by rw [← r.len]; exact hi
    exact ⟨us, us[i], up e1 e2, by simp [hi']⟩
  · obtain ⟨t, y, rfl, hn, rfl, hx⟩ := hy
    have g := Grow.new (S := S') e2 hn (noTb_tup (xs := [.int (i : Nat), y]))
    refine ⟨_, g, fun p hp => ?_⟩
    obtain ⟨z, hz, rfl⟩ := enumP_get hp
    obtain ⟨u, hu, ru⟩ := r.get hz
    have := hx us (up e1 e2)
    rw [hu] at this
    cases this
    rw [Nat.zero_add]
    exact tup2 upd_same (rep_int _) ((ru.mono e1).mono g.sS)
  · exact ⟨us, up e1 e2, by rw [enumP_len, r.len]⟩
def pEnumA : List PV → Option (List PV)
  | [.lst ps] => some (enumP 0 ps)
  | [.tup ps] => some (enumP 0 ps)
  | _ => none
theorem i_enumA {X : Cx} {G : Gam} {W : WX} {a : Expr} {p pos : Pos} {elts : List Expr} {kk : Nat} {tpos : Pos} {u : As} (C : Ct X G W) (hg : Gl X "enumerate") (hm : X.mg "enumerate" = none) (h : AOk X G W [a] u) (hs : starEach [a] X.env = [(false, eval a X.env)] := by rfl) : IOk X G W (.Tuple elts kk tpos) (.Call (.Name "enumerate" p) [a] [] pos) (iA pEnumA u) :=
  pi_weak (pi_enumA hg hm h hs) fun σ H Q ⟨S, ρ, R, P⟩ => ⟨S, ρ, R, Post.bind (R1 := RA G.k) P fun x ρ1 v S1 H1 s1 R1 rv P1 => by
    obtain ⟨z, ez, P2⟩ := Post.ofO P1
    unfold pEnumA at ez
    split at ez
    · cases ez
      simp only [Reps, Rep] at rv
      obtain ⟨_, _, rfl, ⟨l, us, rfl, h1, r⟩, rfl⟩ := rv
      exact ⟨l, us, rfl, .inl ⟨.of (R1.sub _ _ h1), P2 _ S1 H1 (.refl _) R1 (yl_enum C.K (.of h1) r)⟩⟩
    · cases ez
      simp only [Reps, Rep] at rv
      obtain ⟨_, _, rfl, ⟨l, us, rfl, h1, r⟩, rfl⟩ := rv
      exact ⟨l, us, rfl, .inr ⟨by rw [← C.K]; exact sqT_mono R1.sub h1, P2 _ S1 H1 (.refl _) R1 (yl_enumT C.K h1 r)⟩⟩
    · cases ez⟩
@[simp] theorem pEnumA_l {ps : List PV} : pEnumA [.lst ps] = some (enumP 0 ps) := by simp only [pEnumA]
@[simp] theorem pEnumA_t {ps : List PV} : pEnumA [.tup ps] = some (enumP 0 ps) := by simp only [pEnumA]
theorem enumP_from : ∀ (xs : List PV) (n : Nat), enumP n xs = (List.range xs.length).map fun k => PV.tup [.int ((n + k : Nat) : Nat), xs.getD k .non]
  | [], _ => rfl
  | x :: xs, n => by
    simp only [enumP, List.length_cons, List.range_succ_eq_map, List.map_cons, List.map_map, enumP_from xs (n + 1)]
    congr 1
    refine List.map_congr_left fun k _ => ?_
    simp only [Function.comp_apply, List.getD_cons_succ]
    congr 4
    omega
theorem enumP_map (xs : List PV) : enumP 0 xs = (List.range xs.length).map fun k => PV.tup [.int (k : Nat), xs.getD k .non] := by
  rw [enumP_from]
  refine List.map_congr_left fun k _ => ?_
  rw [Nat.zero_add]
/-- a walk over what is counted -/
theorem forL_enum {g : Tg} {b : C} (I : Nat → Env → Prop) (xs : List PV) (ρ : Env) (h : I 0 ρ) (st : ∀ k x ρ, xs[k]? = some x → I k ρ → ∃ ρ1 ρ2, g (.tup [.int (k : Nat), x]) ρ = some ρ1 ∧ b ρ1 = .ok .next ρ2 ∧ I (k + 1) ρ2) : ∃ ρ', forL g b (enumP 0 xs) ρ = .ok .next ρ' ∧ I xs.length ρ' := by
  rw [enumP_map]
  refine forL_map I _ xs.length ρ h fun k ρ hk hI => ?_
  have : xs[k]? = some (xs.getD k .non) := by simp [List.getD_eq_getElem?_getD, hk]
  exact st k _ ρ this hI
theorem forL_enum_ends {g : Tg} {b : C} (I : Nat → Env → Prop) (R : Out PF.Flow → Prop) (xs : List PV) (ρ : Env) (h : I 0 ρ) (fin : ∀ ρ, I xs.length ρ → R (.ok .next ρ)) (st : ∀ k x ρ, xs[k]? = some x → I k ρ → ∃ ρ1, g (.tup [.int (k : Nat), x]) ρ = some ρ1 ∧ ((∃ ρ2, (b ρ1 = .ok .next ρ2 ∨ b ρ1 = .ok .cont ρ2) ∧ I (k + 1) ρ2) ∨ (∃ ρ2, b ρ1 = .ok .brk ρ2 ∧ R (.ok .next ρ2)) ∨ ∃ p ρ2, b ρ1 = .ok (.ret p) ρ2 ∧ R (.ok (.ret p) ρ2))) : R (forL g b (enumP 0 xs) ρ) := by
  rw [enumP_map]
  refine forL_map_ends I R _ xs.length ρ h fin fun k ρ hk hI => ?_
  have : xs[k]? = some (xs.getD k .non) := by simp [List.getD_eq_getElem?_getD, hk]
  exact st k _ ρ this hI
theorem eqvs_intsA : ∀ ys : List Int, eqvs (ys.map .int) (ys.map .int) = true
  | [] => by simp
  | y :: ys => by simp [eqvs_intsA ys]
theorem eqvs_self : ∀ {ps : List PV}, (∀ p ∈ ps, eqv p p = true) → eqvs ps ps = true
  | [], _ => by simp
  | p :: ps, h => by simp [h p List.mem_cons_self, eqvs_self (ps := ps) fun q hq => h q (List.mem_cons_of_mem _ hq)]
end PF

set_option Elab.async false
set_option linter.all false
set_option maxRecDepth 100000
namespace PF
open PySem L2
/-! ## Bits put together -/
theorem or_and_add (a b : Nat) : (a ||| b) + (a &&& b) = a + b := by
  induction a using Nat.strongRecOn generalizing b with
  | ind a ih =>
    by_cases h0 : a = 0
    · subst h0; simp
    · have ih := ih (a / 2) (by omega) (b / 2)
      have e1 : (a ||| b) / 2 = a / 2 ||| b / 2 := Nat.or_div_two
      have e2 : (a &&& b) / 2 = a / 2 &&& b / 2 := Nat.and_div_two
      have e3 : (a ||| b) % 2 = 1 ↔ a % 2 = 1 ∨ b % 2 = 1 := Nat.or_mod_two_eq_one
      have e4 : (a &&& b) % 2 = 1 ↔ a % 2 = 1 ∧ b % 2 = 1 := Nat.and_mod_two_eq_one
      rw [← e1, ← e2] at ih
      omega
theorem xor_and_or (a b : Nat) : (a ^^^ b) + (a &&& b) = (a ||| b) := by
  induction a using Nat.strongRecOn generalizing b with
  | ind a ih =>
    by_cases h0 : a = 0
    · subst h0; simp
    · have ih := ih (a / 2) (by omega) (b / 2)
      have e1 : (a ||| b) / 2 = a / 2 ||| b / 2 := Nat.or_div_two
      have e2 : (a &&& b) / 2 = a / 2 &&& b / 2 := Nat.and_div_two
      have e5 : (a ^^^ b) / 2 = a / 2 ^^^ b / 2 := Nat.xor_div_two
      have e3 : (a ||| b) % 2 = 1 ↔ a % 2 = 1 ∨ b % 2 = 1 := Nat.or_mod_two_eq_one
      have e4 : (a &&& b) % 2 = 1 ↔ a % 2 = 1 ∧ b % 2 = 1 := Nat.and_mod_two_eq_one
      have e6 : (a ^^^ b) % 2 = 1 ↔ ¬ (a % 2 = 1 ↔ b % 2 = 1) := Nat.xor_mod_two_eq_one
      rw [← e1, ← e2, ← e5] at ih
      by_cases p : a % 2 = 1 <;> by_cases q : b % 2 = 1 <;> simp only [p, q, true_or, or_true, or_false, and_true, and_false, iff_true, true_iff, iff_false, not_true, not_false_iff, iff_self, false_iff] at e3 e4 e6 <;> omega
theorem bitXor_nat (a b : Nat) : Builtin.bitXor (a : Int) (b : Int) = ((a ^^^ b : Nat) : Int) := by
  unfold Builtin.bitXor
  rw [bitOr_nat, bitAnd_nat]
  have := xor_and_or a b
  omega
theorem xor_rec (a b : Nat) : a ^^^ b = 2 * (a / 2 ^^^ b / 2) + (a % 2 + b % 2) % 2 := by
  have e5 : (a ^^^ b) / 2 = a / 2 ^^^ b / 2 := Nat.xor_div_two
  have e6 : (a ^^^ b) % 2 = 1 ↔ ¬ (a % 2 = 1 ↔ b % 2 = 1) := Nat.xor_mod_two_eq_one
  rw [← e5]
  by_cases p : a % 2 = 1 <;> by_cases q : b % 2 = 1 <;> simp only [p, q, iff_true, true_iff, iff_false, not_true, not_false_iff, iff_self, false_iff] at e6 <;> omega
theorem or_rec (a b : Nat) : a ||| b = 2 * (a / 2 ||| b / 2) + max (a % 2) (b % 2) := by
  have e5 : (a ||| b) / 2 = a / 2 ||| b / 2 := Nat.or_div_two
  have e6 : (a ||| b) % 2 = 1 ↔ a % 2 = 1 ∨ b % 2 = 1 := Nat.or_mod_two_eq_one
  rw [← e5]
  omega
theorem and_rec (a b : Nat) : a &&& b = 2 * (a / 2 &&& b / 2) + min (a % 2) (b % 2) := by
  have e5 : (a &&& b) / 2 = a / 2 &&& b / 2 := Nat.and_div_two
  have e6 : (a &&& b) % 2 = 1 ↔ a % 2 = 1 ∧ b % 2 = 1 := Nat.and_mod_two_eq_one
  rw [← e5]
  omega
theorem and_top : ∀ (k n : Nat), n < 2 ^ (k + 1) → n &&& 2 ^ k = if 2 ^ k ≤ n then 2 ^ k else 0
  | 0, n, h => by
    have : n = 0 ∨ n = 1 := by simp at h; omega
    rcases this with rfl | rfl <;> simp
  | k + 1, n, h => by
    rw [and_rec, show 2 ^ (k + 1) / 2 = 2 ^ k by rw [Nat.pow_succ]; omega, and_top k (n / 2) (by rw [Nat.pow_succ] at h; omega), show 2 ^ (k + 1) % 2 = 0 by rw [Nat.pow_succ]; omega]
    have : 2 ^ k ≤ n / 2 ↔ 2 ^ (k + 1) ≤ n := by rw [Nat.pow_succ]; omega
    simp only [this, Nat.min_zero, Nat.add_zero]
    split
    · rw [Nat.pow_succ]; omega
    · rfl
theorem bitAnd_top {a : Int} {k : Nat} (a0 : 0 ≤ a) (a1 : a < 2 ^ (k + 1)) : Builtin.bitAnd a (2 ^ k) = if 2 ^ k ≤ a then 2 ^ k else 0 := by
  obtain ⟨n, rfl⟩ := Int.eq_ofNat_of_zero_le a0
  have e : (2 : Int) ^ k = ((2 ^ k : Nat) : Int) := by simp
  have h1 : n < 2 ^ (k + 1) := by exact_mod_cast a1
  rw [e, bitAnd_nat, and_top k n h1]
  split
  · rw [if_pos (by omega)]
  · rw [if_neg (by omega)]; rfl
/-- the two together -/
theorem bit_or_and {a b : Int} (a0 : 0 ≤ a) (b0 : 0 ≤ b) : Builtin.bitOr a b + Builtin.bitAnd a b = a + b := by
  obtain ⟨m, rfl⟩ := Int.eq_ofNat_of_zero_le a0
  obtain ⟨n, rfl⟩ := Int.eq_ofNat_of_zero_le b0
  rw [bitOr_nat, bitAnd_nat]
  have := or_and_add m n
  omega
theorem bit_and_le {a b : Int} (a0 : 0 ≤ a) (b0 : 0 ≤ b) : 0 ≤ Builtin.bitAnd a b ∧ Builtin.bitAnd a b ≤ Builtin.bitOr a b := by
  obtain ⟨m, rfl⟩ := Int.eq_ofNat_of_zero_le a0
  obtain ⟨n, rfl⟩ := Int.eq_ofNat_of_zero_le b0
  rw [bitOr_nat, bitAnd_nat]
  have := xor_and_or m n
  omega
/-- the carries, place by place -/
def crr (c a b : Int) : Nat → List Int
  | 0 => []
  | w + 1 => c :: crr ((a % 2 + b % 2 + c) / 2) (a / 2) (b / 2) w
def crv (c a b : Nat) : Nat → Nat
  | 0 => 0
  | w + 1 => c + 2 * crv ((a % 2 + b % 2 + c) / 2) (a / 2) (b / 2) w
theorem crr_len (c a b : Int) : ∀ w, (crr c a b w).length = w := by
  intro w
  induction w generalizing c a b with
  | zero => rfl
  | succ w ih => simp only [crr, List.length_cons, ih]
theorem crr_take (c a b : Int) : ∀ w, (crr c a b (w + 1)).take w = crr c a b w := by
  intro w
  induction w generalizing c a b with
  | zero => rfl
  | succ w ih =>
    rw [crr, List.take_succ_cons, ih]
    rfl
theorem crr_val (c a b : Nat) : ∀ w, val 2 (crr c a b w) = crv c a b w := by
  intro w
  induction w generalizing c a b with
  | zero => rfl
  | succ w ih =>
    have := ih ((a % 2 + b % 2 + c) / 2) (a / 2) (b / 2)
    simp only [crr, val, crv]
    rw [show ((a : Int) % 2 + (b : Int) % 2 + c) / 2 = (((a % 2 + b % 2 + c) / 2 : Nat) : Int) by omega, show (a : Int) / 2 = ((a / 2 : Nat) : Int) by omega, show (b : Int) / 2 = ((b / 2 : Nat) : Int) by omega, this]
    omega
theorem crv_xor : ∀ (w c a b : Nat), c ≤ 1 → a < 2 ^ w → b < 2 ^ w → crv c a b w = (a ^^^ b) ^^^ ((a + b + c) % 2 ^ w)
  | 0, c, a, b, _, ha, hb => by
    have : a = 0 := by simp at ha; omega
    have : b = 0 := by simp at hb; omega
    subst a; subst b
    simp [crv, Nat.mod_one]
  | w + 1, c, a, b, hc, ha, hb => by
    have ih := crv_xor w ((a % 2 + b % 2 + c) / 2) (a / 2) (b / 2) (by omega) (by rw [Nat.pow_succ] at ha; omega) (by rw [Nat.pow_succ] at hb; omega)
    rw [crv, ih, xor_rec (a ^^^ b)]
    have e5 : (a ^^^ b) / 2 = a / 2 ^^^ b / 2 := Nat.xor_div_two
    have e6 : (a ^^^ b) % 2 = 1 ↔ ¬ (a % 2 = 1 ↔ b % 2 = 1) := Nat.xor_mod_two_eq_one
    have e7 : (a + b + c) % 2 ^ (w + 1) / 2 = (a / 2 + b / 2 + (a % 2 + b % 2 + c) / 2) % 2 ^ w := by
      rw [Nat.pow_succ, Nat.mul_comm, Nat.mod_mul_right_div_self]
      congr 1
      omega
    have e8 : (a + b + c) % 2 ^ (w + 1) % 2 = (a + b + c) % 2 := Nat.mod_mod_of_dvd _ ⟨2 ^ w, by rw [Nat.pow_succ, Nat.mul_comm]⟩
    rw [e5, e7, e8]
    generalize ((a / 2 ^^^ b / 2) ^^^ ((a / 2 + b / 2 + (a % 2 + b % 2 + c) / 2) % 2 ^ w)) = z
    by_cases p : a % 2 = 1 <;> by_cases q : b % 2 = 1 <;> simp only [p, q, iff_true, true_iff, iff_false, not_true, not_false_iff, iff_self, false_iff] at e6 <;> omega
/-! ## Tests that stay open: opt in -/
section
variable {P : Prop} [Decidable P] {b c : Bool} {ρ : Env}
theorem mAnd : (if P then Out.ok c ρ else Out.ok false ρ) = Out.ok (decide P && c) ρ := by
  by_cases h : P <;> simp [h]
theorem mOr : (if P then Out.ok true ρ else Out.ok c ρ) = Out.ok (decide P || c) ρ := by
  by_cases h : P <;> simp [h]
theorem mAndV : (if P then Out.ok (PV.bl c) ρ else Out.ok (PV.bl (decide P)) ρ) = Out.ok (PV.bl (decide P && c)) ρ := by
  by_cases h : P <;> simp [h]
theorem mAndW : (if P then Out.ok (PV.bl c) ρ else Out.ok (PV.bl false) ρ) = Out.ok (PV.bl (decide P && c)) ρ := by
  by_cases h : P <;> simp [h]
theorem mOrV : (if P then Out.ok (PV.bl (decide P)) ρ else Out.ok (PV.bl c) ρ) = Out.ok (PV.bl (decide P || c)) ρ := by
  by_cases h : P <;> simp [h]
theorem mAndE {x y : Int} : (if x = y then Out.ok (PV.bl c) ρ else Out.ok (PV.bl (x == y)) ρ) = Out.ok (PV.bl ((x == y) && c)) ρ := by
  by_cases h : x = y <;> simp [h]
theorem mOrE {x y : Int} : (if x = y then Out.ok (PV.bl (x == y)) ρ else Out.ok (PV.bl c) ρ) = Out.ok (PV.bl ((x == y) || c)) ρ := by
  by_cases h : x = y <;> simp [h]
theorem mAndN {x y : Int} : (if x = y then Out.ok (PV.bl (!(x == y))) ρ else Out.ok (PV.bl c) ρ) = Out.ok (PV.bl (!(x == y) && c)) ρ := by
  by_cases h : x = y <;> simp [h]
theorem iteH {p q : Prop} [Decidable p] [Decidable q] {H : Int} (h : 0 < H) : ((if p then H else 0) = (if q then H else 0)) = (p ↔ q) := by
  apply propext
  by_cases k : p <;> by_cases l : q <;> simp [k, l] <;> omega
theorem mInt {x y : Int} : (if P then Out.ok (PV.int x) ρ else Out.ok (PV.int y) ρ) = Out.ok (PV.int (if P then x else y)) ρ := by
  by_cases h : P <;> simp [h]
end
/-! comprehensions over a row that is written, one by one: lcL_cons is opt in -/
section
variable {α : Type} {x : α} {ρ : Env}
@[simp] theorem noX_ok : noX (.ok x ρ) = .ok x ρ := rfl
@[simp] theorem noX_stuck : noX (.stuck : Out α) = .stuck := rfl
end
theorem lcL_cons {g : Tg} {t : T} {e : E} {vs : List Nat} {x : PV} {xs acc : List PV} {ρ : Env} : lcL g t e vs (x :: xs) acc ρ = (g x ρ).elim .stuck fun ρ1 => (noX (t ρ1)).bind fun b ρ2 => if b = true then (noX (e ρ2)).bind fun y ρ3 => if acc.length < 16777216 then lcL g t e vs xs (acc ++ [y]) (wipeE ρ3 vs) else .stuck else lcL g t e vs xs acc (wipeE ρ2 vs) := by
  rw [lcL]
  cases g x ρ with
  | none => rfl
  | some ρ1 =>
    show Out.bind _ _ = Out.bind _ _
    congr
    funext b ρ2
    cases b <;> rfl
end PF

set_option Elab.async false
set_option linter.all false
set_option maxRecDepth 100000
namespace PF
open PySem PySem.Spec PyProof.Rows L2
/-! ## Dicts that are only handed round: {}, {0: x} -/
theorem noTb_dK {xs : List (Key × V)} : NoTb (.dK xs) := fun _ h => by cases h
/-- {k: x} of a variable -/
def dDic1 (k : Key) (i : Nat) : E := fun ρ => match ρ[i]? with
  | some (.val p) => .ok (.dic [k] [p]) ρ
  | _ => .stuck
section
variable {X : Cx} {G : Gam} {W : WX}
theorem e_dic0 {pos : Pos} : EOk X G W (.Dict [] [] pos) (dC (.dic [] [])) := pe_weak pe_dnewK fun σ H Q ⟨S, ρ, R, P⟩ => by
  intro p hp
  have g := Grow.new (S := S) R.sub hp (noTb_dK (xs := []))
  exact P _ _ _ g.sS (R.grow g) (rep_dic (us := []) upd_same rfl Reps.nil)
theorem e_dic1 {i : Nat} {e : Expr} {k : Int} {j : Nat} {p1 pos : Pos} (h : PE X e (tVar i)) : EOk X G W (.Dict [some (.Constant (.int k) j p1)] [e] pos) (dDic1 (.inl k) i) :=
  pe_weak (pe_disp (pps_cons pe_int h pps_nil) (by rfl) (by rfl) (by simp) (by simp)) fun σ H Q ⟨S, ρ, R, P⟩ => by
    unfold dDic1 at P
    cases q : ρ[i]? with
    | none => rw [q] at P; exact P.elim
    | some s =>
      rw [q] at P
      cases s with
      | val w =>
        obtain ⟨v, e1, r⟩ := R.val q
        intro p hp
        have g := Grow.new (S := S) R.sub hp (noTb_dK (xs := [(.inl k, v)]))
        refine ⟨v, e1, upd_same, [(.inl k, v)], rfl, by simp, ?_⟩
        have em : mergeK [] [((.inl k : Key), v)] = [(.inl k, v)] := rfl
        rw [em, upd_upd]
        exact P _ _ _ g.sS (R.grow g) (rep_dic (ks := [.inl k]) (ps := [w]) (us := [v]) upd_same rfl (Reps.cons (r.mono g.sS) Reps.nil))
      | own w => exact P.elim
      | unb => exact P.elim
end
@[simp] theorem dDic1_e {k : Key} {i : Nat} {ρ : Env} : dDic1 k i ρ = match ρ[i]? with | some (.val p) => .ok (.dic [k] [p]) ρ | _ => .stuck := rfl
@[simp] theorem isDat_d {ks : List Key} {ps : List PV} : isDat (.dic ks ps) = true := by simp only [isDat]
@[simp] theorem isI_d {ks : List Key} {ps : List PV} : isI (.dic ks ps) = false := by simp only [isI]
@[simp] theorem inR_d {ks : List Key} {ps : List PV} {a b : Int} : inR (.dic ks ps) a b = false := by simp only [inR]
@[simp] theorem cIsN_d {ks : List Key} {ps : List PV} : cIsN (.dic ks ps) .non = some false := rfl
@[simp] theorem cNotN_d {ks : List Key} {ps : List PV} : cNotN (.dic ks ps) .non = some true := rfl
end PF

set_option Elab.async false
set_option linter.all false
set_option maxRecDepth 100000
namespace PF
open PySem PySem.Spec PyProof.Rows L2
/-! ## tuple * int -/
theorem tuple_mul1 (l : Addr) (items : Array Value) (n : Nat) (dd : Option Addr) (sl : Array (Option Value)) (u : Tok) : Meets (Builtin.«tuple.__mul__» { pos := [Value.ref l, Value.int 1 u] }) fun _ R s =>
    s.heap.get? l = some { cls := Value.type "tuple", dict := dd, data := Data.seq items n, slots := sl } ∧ R (Except.ok (PySem.Flow.ret (Value.ref l))) s := by
  refine Meets.of_wp fun prog w A R s h => ?_
  obtain ⟨hp, g, d, tk, os⟩ := s
  obtain ⟨hl, h⟩ := h
  have f1 := AutoSeq1.idx_int
  conv => arg 3; whnf
  refine wpAny_bind (m := load l) ?_
  refine wpAny_load' hl ?_
  refine wpAny_ite_true (c := (items.isEmpty || (1 : Int) == 1) = true) (by simp) ?_
  conv => arg 3; whnf
  refine wpAny_bind (m := load l) ?_
  refine wpAny_load' hl ?_
  conv => arg 3; whnf
  refine wpAny_bind (m := rule "tuple.repeat.same-object") ?_
  refine wpAny_rule ?_
  exact wpAny_pure ⟨_, rfl, h⟩
def rRepU : PySem.W.Frag → R2 := fun K x y H Q => ∃ l k xs, x = V.ref l ∧ y = V.int k ∧ SqT K H l xs ∧ xs ≠ [] ∧ 1 ≤ k ∧ xs.length * k.toNat ≤ 1000000 ∧ (k = 1 → Q (V.ref l) H) ∧ (2 ≤ k → ∀ p, H p = none → Q (V.ref p) (upd H p (HO.tup (List.replicate k.toNat xs).flatten)))
theorem op_repU {X : Cx} : OpR X (binaryOp Operator.Mult) (rRepU X.K) := by
  intro pins s σ H x y v u Q I rx ry h
  obtain ⟨l, k, xs, rfl, rfl, hT, hne, h1, hz, qa, qb⟩ := h
  cases rx
  obtain ⟨t, rfl⟩ := ry
  obtain ⟨its, r, ⟨⟨cls, dd, data, sl⟩, ho, hc, n, hd⟩, hs⟩ := I.tuple hT
  cases hc
  cases hd
  have hle : its.length = xs.length := (Vals.length r).symm
  have hn : its ≠ [] := fun e => hne (List.eq_nil_of_length_eq_zero (by rw [← hle, e]; rfl))
  have hi : its.toArray.isEmpty = false := by
    cases its with
    | nil => exact absurd rfl hn
    | cons a b => rfl
  refine wpAny_binaryOp_repeat_ref (of_decide_eq_true rfl) ⟨_, ho, rfl⟩ (fun s' => typeIs_int s' k t) noFill_tuple_mul F.fills_int_mul F.slot_int_rmul repeat_tuple F.slot_int_index.lookup
    (call_meets F.slot_int_rmul (typeIs_int s k t) F.entry_int_rmul (F.args_int_rmul_2 (Value.int k t) (Value.ref l)) (int_rmul_tuple k t l its.toArray n dd sl) ⟨ho, rfl, ⟨_, ho, rfl⟩, ?_⟩)
  by_cases k1 : k = 1
  · subst k1
    exact call_meets F.slot_tuple_mul ⟨_, ho, rfl⟩ F.entry_tuple_mul (F.args_tuple_mul_2 (Value.ref l) (Value.int 1 t)) (tuple_mul1 l its.toArray n dd sl t) ⟨ho, V.ref l, H, I, rfl, qa rfl⟩
  · have h2 : 2 ≤ k := by omega
    have hlx : 1 ≤ xs.length := by
      cases xs with
      | nil => exact absurd rfl hne
      | cons a b => exact Nat.succ_le_succ (Nat.zero_le _)
    have hsz0 : its.toArray.size = xs.length := by rw [List.size_toArray, hle]
    have hk : k ≤ 1000000 := by
      have := Nat.mul_le_mul hlx (Nat.le_refl k.toNat)
      omega
    have hm : (its.toArray.size : Int) * k ≤ 1000000 := by
      rw [hsz0]
      obtain ⟨m, rfl⟩ := Int.eq_ofNat_of_zero_le (show 0 ≤ k by omega)
      rw [Int.toNat_natCast] at hz
      rw [← Int.natCast_mul]
      exact Int.ofNat_le.mpr hz
    have hm0 : 0 ≤ (its.toArray.size : Int) * k := Int.mul_nonneg (by omega) (by omega)
    have flen : ((List.replicate k.toNat its).flatten).length ≤ sizeLine := by
      rw [lm_len_rep_flat, hle, sizeLine_eq, Nat.mul_comm]
      omega
    have c0 : (decide (k < -2 ^ 63) || decide (k ≥ 2 ^ 63)) = false := by
      rw [decide_eq_false (by omega), decide_eq_false (by omega)]
      rfl
    have c1 : (its.toArray.isEmpty || k == 1) = false := by
      rw [hi, Bool.false_or]
      exact beq_eq_false_iff_ne.mpr k1
    have c2 : (decide (k ≤ 0) || its.toArray.isEmpty) = false := by
      rw [hi, Bool.or_false]
      exact decide_eq_false (by omega)
    have c4 : Builtin.Tuple.tupleTooMany ((its.toArray.size : Int) * k) = false := by
      show decide ((its.toArray.size : Int) * k > (sizeLine : Int)) = false
      rw [sizeLine_eq]
      exact decide_eq_false (by omega)
    refine call_meets F.slot_tuple_mul ⟨_, ho, rfl⟩ F.entry_tuple_mul (F.args_tuple_mul_2 (Value.ref l) (Value.int k t)) (tuple_mulW l its.toArray n dd sl k t c0 c1 c2 (by omega) c4 (by rw [size_rep, List.size_toArray]; exact flen)) ⟨ho, ?_⟩
    rw [size_rep]
    have ok : ObjOk X.prog X.w (upd H s.heap.objs.size (HO.tup (List.replicate k.toNat xs).flatten)) (s.heap.push { cls := Value.type "tuple", data := Data.seq (List.replicate k.toNat its).flatten.toArray }) s.heap.objs.size (HO.tup (List.replicate k.toNat xs).flatten) := ⟨by rw [lm_len_rep_flat, sizeLine_eq, Nat.mul_comm]; omega, _, Vals.rep r k.toNat, IsTup.new s.heap _⟩
    exact ⟨V.ref s.heap.objs.size, _, Inv.laid I (fun b ob q => Heap.get?_push_of_some _ q) (Nat.le_refl _) ok, rfl, qb h2 _ (I.hok.fresh (Nat.le_refl _))⟩
def pRepT : PV → PV → Option PV
  | .tup ps, .int n => if ps ≠ [] ∧ 1 ≤ n ∧ ps.length * n.toNat ≤ 1000000 then some (.tup (List.replicate n.toNat ps).flatten) else none
  | _, _ => none
theorem od_repT : OpD pRepT rRepU := by
  intro k S H p q z x y Q e rx ry h q1
  cases p <;> cases q <;> simp only [pRepT] at h <;> try cases h
  rename_i ps n
  split at h
  · rename_i c
    cases h
    obtain ⟨a, us, rfl, hS, h1, r⟩ := repB_tup e rx
    cases repB_int ry
    refine ⟨a, n, us, rfl, rfl, h1, fun z => c.1 (by
      have := r.len
      rw [z] at this
      exact List.length_eq_zero_iff.mp this), c.2.1, by rw [← r.len]; exact c.2.2, fun n1 => ?_, fun n2 p hp => ?_⟩
    · subst n1
      have e1 : (List.replicate (1 : Int).toNat ps).flatten = ps := by simp
      refine q1 _ S H (.refl e) ?_
      rw [e1]
      exact rep_tup hS r
    · have g := Grow.new (S := S) e hp (noTb_tup (xs := (List.replicate n.toNat us).flatten))
      exact q1 _ _ _ g (rep_tup (.of upd_same) ((r.rep _).mono g.sS))
  · cases h
theorem e_repT {X : Cx} {G : Gam} {W : WX} {a b : Expr} {pos : Pos} {da db : E} (C : Ct X G W) (ha : EOk X G W a da) (hb : EOk X G W b db) : EOk X G W (.BinOp a .Mult b pos) (dOp pRepT da db) := e_bin od_repT op_repU C ha hb
@[simp] theorem pRepT_e {ps : List PV} {n : Int} : pRepT (.tup ps) (.int n) = if ps ≠ [] ∧ 1 ≤ n ∧ ps.length * n.toNat ≤ 1000000 then some (.tup (List.replicate n.toNat ps).flatten) else none := by simp only [pRepT]
end PF

set_option Elab.async false
set_option linter.all false
set_option maxRecDepth 100000
namespace PF
open PySem PySem.Spec PyProof.Rows L2
/-! ## f(..) where f is a variable that holds a def -/
def FVs (X : Cx) (k : Kx) : List (Str × Fn) → Prop
  | [] => True
  | q :: r => (∃ ps, FnAt X k q.1 ps false q.2) ∧ FVs X k r
theorem FVs.get {X : Cx} {k : Kx} : ∀ {T : List (Str × Fn)} {y : Str} {F : Fn}, FVs X k T → T.lookup y = some F → ∃ ps, FnAt X k y ps false F
  | [], _, _, _, h => by simp at h
  | (x, F') :: r, y, F, ⟨h1, h2⟩, h => by
    rw [List.lookup_cons] at h
    split at h
    · rename_i e
      have : y = x := by simpa using e
      subst this
      cases h
      exact h1
    · exact h2.get h
def dCallV (i : Nat) (T : List (Str × Fn)) (u : As) : E := fun ρ => match ρ[i]? with
  | some (.val (.fn y)) => match T.lookup y with
    | some F => dCall F u ρ
    | none => .stuck
  | _ => .stuck
theorem e_callV {X : Cx} {G : Gam} {W : WX} {x : Str} {p pos : Pos} {a : Expr} {es : List Expr} {i : Nat} {T : List (Str × Fn)} {u : As} (C : Ct X G W) (hv : PE X (.Name x p) (tVar i)) (fs : FVs X G.k T) (ha : AOk X G W (a :: es) u)
    (he : starEach (a :: es) X.env = (false, eval a X.env) :: starEach es X.env := by rfl) (hpl : (backTo pos (starEach es X.env)).any (·.1) = false := by rfl) : EOk X G W (.Call (.Name x p) (a :: es) [] pos) (dCallV i T u) := by
  refine ⟨fun pins s σ H Q I h => ?_⟩
  obtain ⟨S, ρ, R, P⟩ := h
  unfold dCallV at P
  split at P
  · rename_i y q
    split at P
    · rename_i F hF
      obtain ⟨v, e1, r⟩ := R.val q
      simp only [Rep] at r
      obtain ⟨f, rfl, hmg⟩ := r
      obtain ⟨ps, ar, j, fa, fd, ok, hr, hm, hk, hb⟩ := fs.get hF
      have efa : fa = f := by
        have : G.k.mg = X.mg := C.mg
        rw [this, hm] at hmg
        cases hmg
        rfl
      subst efa
      refine wpAny_Call_Name_kw (thn (hv.run pins s σ H (fun v H1 => v = V.ref fa ∧ H1 = H) I ⟨_, e1, rfl, rfl⟩) fun fv s1 z => ?_)
      obtain ⟨v, H1, I1, rv, rfl, rfl⟩ := z
      cases rv
      have hx := passAt (X := X) (σ := σ) C.tk
      refine PySem.W.callWith_K I1.ok.mod.kin hk (thn (ha.run pos pins s1 σ H1 (fun vs H2 => SpF G.k ps.length false F vs H2 Q (WE W σ)) I1 ⟨S, ρ, R, Post.bind (R1 := RA G.k) P fun qs ρ1 us S1 H2 s2 R1 rv P1 => ?_⟩) fun us s2 x => ?_) he hpl
      · exact run_spF R1 rv (len_of ar rv fun z => by rw [z] at P1; exact P1.elim) P1
      · obtain ⟨vs, H2, I2, r, q⟩ := x
        exact ⟨I2.kIn, run_fnS ok hr hb hx I2 r q⟩
    · exact P.elim
  · exact P.elim
@[simp ↓] theorem dCallV_e {i : Nat} {T : List (Str × Fn)} {u : As} {ρ : Env} : dCallV i T u ρ = match ρ[i]? with
  | some (.val (.fn y)) => match T.lookup y with
    | some F => dCall F u ρ
    | none => .stuck
  | _ => .stuck := rfl
end PF

set_option Elab.async false
set_option linter.all false
set_option maxRecDepth 100000
namespace PF
open PySem PySem.Spec PyProof.Rows L2
/-! ## x, y = [], e where x or y is not a plain local: the pair is made, and taken apart -/
theorem Grow.beside {S H : Hp} (h : Same S H) {p : Addr} {o : HO} (hp : H p = none) : Grow S H S (upd H p o) where
  sS := .refl _
  sH := fun b u e => by rw [upd_ne (ne_of_none e hp)]; exact e
  sub := fun b u e => by
    have := h b u e
    rw [upd_ne (ne_of_none this hp)]; exact this
  nf := fun _ _ _ h => h
  nt := fun _ _ h h' => by rw [h] at h'; cases h'
theorem RX.beside {G : Gam} {σ : L2.St} {ρ : Env} {S H : Hp} {x : XL} {v : V} {p : Addr} {o : HO} (hp : H p = none) (h : RX G σ ρ S H x v) : RX G σ ρ S (upd H p o) x v := by
  cases x with
  | inl q => exact h
  | inr ps =>
    obtain ⟨b, us, rfl, h0, hS, hH, hr, hn⟩ := h
    exact ⟨b, us, rfl, h0, hS, by rw [upd_ne (ne_of_none hH hp)]; exact hH, hr, hn⟩
theorem RM.len {G : Gam} {σ : L2.St} {ρ : Env} {S H : Hp} : ∀ {xs : List XL} {vs : List V}, RM G σ ρ S H xs vs → vs.length = xs.length
  | [], _, h => by
    have : _ = [] := h
    rw [this]; rfl
  | _ :: _, _, ⟨_, us, e, _, _, h⟩ => by rw [e, List.length_cons, List.length_cons, RM.len h]
theorem small_line {n : Nat} (h : n ≤ 3) : n ≤ sizeLine := Nat.le_trans h (by decide)
section
variable {X : Cx} {G : Gam} {W : WX} {u : Xs} {x y z : Str} {px py pz pt pt2 pos : Pos} {kt k2 i j l : Nat} {e1 e2 e3 : Expr}
theorem s_mixA2 (C : Ct X G W) (hc : X.calm = true) (nd : X.N.Nodup) (n1 : X.N[i]? = some x) (n2 : X.N[j]? = some y) (l1 : Loc X.env.scope x) (l2 : Loc X.env.scope y) (o1 : ∀ q ∈ G.ix, q.1 ≠ i) (o2 : ∀ q ∈ G.ix, q.1 ≠ j)
    (f1 : X.fn x = true ∨ X.env.scope.names.lookup x = some .local) (f2 : X.fn y = true ∨ X.env.scope.names.lookup y = some .local) (ha : MOk X G W [e1, e2] u)
    (hw : swappedStores [.Tuple [.Name x px, .Name y py] kt pt] (.Tuple [e1, e2] k2 pt2) X.env = pure none)
    (hs : swapsWithSole [.Tuple [.Name x px, .Name y py] kt pt] (.Tuple [e1, e2] k2 pt2) pos.line X.env = pure false := by rfl)
    (h1 : (assignEach [.Tuple [.Name x px, .Name y py] kt pt] X.env).map (·.2) = [assign (.Tuple [.Name x px, .Name y py] kt pt) X.env] := by rfl)
    (hn : (assignEach [.Name x px, .Name y py] X.env).length = 2 := by rfl) (hst : (assignEach [.Name x px, .Name y py] X.env).findIdx? (·.1) = none := by rfl)
    (ha1 : (assignEach (.Name x px :: [.Name y py]) X.env).map (·.2) = assign (.Name x px) X.env :: (assignEach [.Name y py] X.env).map (·.2) := by rfl)
    (ha2 : (assignEach (.Name y py :: []) X.env).map (·.2) = assign (.Name y py) X.env :: (assignEach [] X.env).map (·.2) := by rfl) :
    SOk X G W (.Assign [.Tuple [.Name x px, .Name y py] kt pt] (.Tuple [e1, e2] k2 pt2) pos) (sMix [i, j] u) := by
  refine ps_weak (ps_asg (pe_tup ha) (pg_tup hc (pgs_cons (pg_name nd n1 l1 f1) (pgs_cons (pg_name nd n2 l2 f2) pgs_nil ha2) ha1) hn hst) hs hw h1) fun D σ H ⟨S, ρ, R, P⟩ => ⟨S, ρ, R, PostS.bindE (R1 := RM G σ) P fun zs ρ' v S' H' e r rv P' => ?_⟩
  split at P'
  · rename_i hl
    match zs, hl with
    | [q1, q2], _ =>
      have vl := rv.len
      obtain ⟨v1, _, rfl, r1, ap, v2, _, rfl, r2, _, rfl⟩ := rv
      refine ⟨by rw [vl]; exact small_line (by simp), fun p hp => ⟨p, _, rfl, by rw [← C.K]; exact .of upd_same, rfl, v1, _, rfl, v2, _, rfl, rfl, ?_⟩⟩
      have g := Grow.beside (o := .tup [v1, v2]) r.sub hp
      have R0 := r.grow g
      exact P' _ S' _ (.refl _) ((R0.put (r1.beside hp) o1).put ((r2.beside hp).keep R0.len ap.1 i) o2)
  · exact P'.elim
theorem s_mixA3 (C : Ct X G W) (hc : X.calm = true) (nd : X.N.Nodup) (n1 : X.N[i]? = some x) (n2 : X.N[j]? = some y) (n3 : X.N[l]? = some z) (l1 : Loc X.env.scope x) (l2 : Loc X.env.scope y) (l3 : Loc X.env.scope z) (o1 : ∀ q ∈ G.ix, q.1 ≠ i) (o2 : ∀ q ∈ G.ix, q.1 ≠ j) (o3 : ∀ q ∈ G.ix, q.1 ≠ l)
    (f1 : X.fn x = true ∨ X.env.scope.names.lookup x = some .local) (f2 : X.fn y = true ∨ X.env.scope.names.lookup y = some .local) (f3 : X.fn z = true ∨ X.env.scope.names.lookup z = some .local) (ha : MOk X G W [e1, e2, e3] u)
    (hw : swappedStores [.Tuple [.Name x px, .Name y py, .Name z pz] kt pt] (.Tuple [e1, e2, e3] k2 pt2) X.env = pure none)
    (hs : swapsWithSole [.Tuple [.Name x px, .Name y py, .Name z pz] kt pt] (.Tuple [e1, e2, e3] k2 pt2) pos.line X.env = pure false := by rfl)
    (h1 : (assignEach [.Tuple [.Name x px, .Name y py, .Name z pz] kt pt] X.env).map (·.2) = [assign (.Tuple [.Name x px, .Name y py, .Name z pz] kt pt) X.env] := by rfl)
    (hn : (assignEach [.Name x px, .Name y py, .Name z pz] X.env).length = 3 := by rfl) (hst : (assignEach [.Name x px, .Name y py, .Name z pz] X.env).findIdx? (·.1) = none := by rfl)
    (ha1 : (assignEach (.Name x px :: [.Name y py, .Name z pz]) X.env).map (·.2) = assign (.Name x px) X.env :: (assignEach [.Name y py, .Name z pz] X.env).map (·.2) := by rfl)
    (ha2 : (assignEach (.Name y py :: [.Name z pz]) X.env).map (·.2) = assign (.Name y py) X.env :: (assignEach [.Name z pz] X.env).map (·.2) := by rfl)
    (ha3 : (assignEach (.Name z pz :: []) X.env).map (·.2) = assign (.Name z pz) X.env :: (assignEach [] X.env).map (·.2) := by rfl) :
    SOk X G W (.Assign [.Tuple [.Name x px, .Name y py, .Name z pz] kt pt] (.Tuple [e1, e2, e3] k2 pt2) pos) (sMix [i, j, l] u) := by
  refine ps_weak (ps_asg (pe_tup ha) (pg_tup hc (pgs_cons (pg_name nd n1 l1 f1) (pgs_cons (pg_name nd n2 l2 f2) (pgs_cons (pg_name nd n3 l3 f3) pgs_nil ha3) ha2) ha1) hn hst) hs hw h1) fun D σ H ⟨S, ρ, R, P⟩ => ⟨S, ρ, R, PostS.bindE (R1 := RM G σ) P fun zs ρ' v S' H' e r rv P' => ?_⟩
  split at P'
  · rename_i hl
    match zs, hl with
    | [q1, q2, q3], _ =>
      have vl := rv.len
      obtain ⟨v1, _, rfl, r1, ap, v2, _, rfl, r2, ap2, v3, _, rfl, r3, _, rfl⟩ := rv
      refine ⟨by rw [vl]; exact small_line (by simp), fun p hp => ⟨p, _, rfl, by rw [← C.K]; exact .of upd_same, rfl, v1, _, rfl, v2, _, rfl, v3, _, rfl, rfl, ?_⟩⟩
      have g := Grow.beside (o := .tup [v1, v2, v3]) r.sub hp
      have R0 := r.grow g
      have R1 := R0.put (r1.beside (o := .tup [v1, v2, v3]) hp) o1
      have R2 := R1.put ((r2.beside (o := .tup [v1, v2, v3]) hp).keep R0.len ap.1 i) o2
      have k3 := ((r3.beside (o := .tup [v1, v2, v3]) hp).keep R0.len ap.2.1 i).keep R1.len ap2.1 j
      exact P' _ S' _ (.refl _) (R2.put k3 o3)
  · exact P'.elim
end
end PF

set_option Elab.async false
set_option linter.all false
set_option maxRecDepth 100000
namespace PF
open PySem L2
/-! ## bit by bit, whole numbers of any sign -/
structure Bw (f g : Int → Int → Int) : Prop where
  step : ∀ x y, f x y = 2 * f (x / 2) (y / 2) + g (x % 2) (y % 2)
  nil : f 0 0 = 0
  bit : ∀ a b, 0 ≤ a → a < 2 → 0 ≤ b → b < 2 → 0 ≤ g a b ∧ g a b < 2
theorem not_half (x : Int) : Builtin.bitNot x / 2 = Builtin.bitNot (x / 2) := by unfold Builtin.bitNot; omega
theorem not_odd (x : Int) : Builtin.bitNot x % 2 = 1 - x % 2 := by unfold Builtin.bitNot; omega
theorem not_not (x : Int) : Builtin.bitNot (Builtin.bitNot x) = x := by unfold Builtin.bitNot; omega
theorem and_step (x y : Int) : Builtin.bitAnd x y = 2 * Builtin.bitAnd (x / 2) (y / 2) + min (x % 2) (y % 2) := by
  have nn : ∀ z : Int, ¬ 0 ≤ z → ∃ n : Nat, Builtin.bitNot z = n ∧ Builtin.bitNot (z / 2) = ((n / 2 : Nat) : Int) ∧ (n : Int) = -z - 1 := by
    intro z hz
    refine ⟨(Builtin.bitNot z).toNat, ?_, ?_, ?_⟩ <;> unfold Builtin.bitNot <;> omega
  have pp : ∀ z : Int, 0 ≤ z → ∃ n : Nat, z = n ∧ z / 2 = ((n / 2 : Nat) : Int) := by
    intro z hz
    exact ⟨z.toNat, by omega, by omega⟩
  by_cases hx : 0 ≤ x <;> by_cases hy : 0 ≤ y
  · obtain ⟨m, e1, e2⟩ := pp x hx
    obtain ⟨n, e3, e4⟩ := pp y hy
    rw [e2, e4, e1, e3]
    unfold Builtin.bitAnd
    simp only [Int.natCast_nonneg, decide_true, Int.toNat_natCast]
    have := and_rec m n
    omega
  · obtain ⟨m, e1, e2⟩ := pp x hx
    obtain ⟨n, e3, e4, e5⟩ := nn y hy
    have hy2 : ¬ 0 ≤ y / 2 := by omega
    have hx2 : 0 ≤ x / 2 := by omega
    unfold Builtin.bitAnd
    simp only [hx, hy, hx2, hy2, decide_true, decide_false]
    rw [e2, e4, e3, e1]
    simp only [Int.toNat_natCast]
    have r := and_rec m n
    generalize m &&& n = p at *
    generalize m / 2 &&& n / 2 = q at *
    omega
  · obtain ⟨m, e1, e2⟩ := pp y hy
    obtain ⟨n, e3, e4, e5⟩ := nn x hx
    have hy2 : 0 ≤ y / 2 := by omega
    have hx2 : ¬ 0 ≤ x / 2 := by omega
    unfold Builtin.bitAnd
    simp only [hx, hy, hx2, hy2, decide_true, decide_false]
    rw [e2, e4, e3, e1]
    simp only [Int.toNat_natCast]
    have r := and_rec m n
    generalize m &&& n = p at *
    generalize m / 2 &&& n / 2 = q at *
    omega
  · obtain ⟨m, e1, e2, e5⟩ := nn x hx
    obtain ⟨n, e3, e4, e6⟩ := nn y hy
    have hy2 : ¬ 0 ≤ y / 2 := by omega
    have hx2 : ¬ 0 ≤ x / 2 := by omega
    unfold Builtin.bitAnd
    simp only [hx, hy, hx2, hy2, decide_false]
    rw [e2, e4, e3, e1]
    simp only [Int.toNat_natCast]
    have r := or_rec m n
    generalize m ||| n = p at *
    generalize m / 2 ||| n / 2 = q at *
    unfold Builtin.bitNot
    omega
theorem or_def (x y : Int) : Builtin.bitOr x y = Builtin.bitNot (Builtin.bitAnd (Builtin.bitNot x) (Builtin.bitNot y)) := rfl
theorem or_step (x y : Int) : Builtin.bitOr x y = 2 * Builtin.bitOr (x / 2) (y / 2) + max (x % 2) (y % 2) := by
  rw [or_def, or_def, and_step, not_half, not_half, not_odd, not_odd]
  generalize Builtin.bitAnd _ _ = p
  unfold Builtin.bitNot
  omega
theorem xor_step (x y : Int) : Builtin.bitXor x y = 2 * Builtin.bitXor (x / 2) (y / 2) + (x % 2 + y % 2) % 2 := by
  have h1 := or_step x y
  have h2 := and_step x y
  unfold Builtin.bitXor
  omega
theorem bw_and : Bw Builtin.bitAnd (fun a b => min a b) := ⟨and_step, by decide, fun a b _ _ _ _ => by omega⟩
theorem bw_or : Bw Builtin.bitOr (fun a b => max a b) := ⟨or_step, by decide, fun a b _ _ _ _ => by omega⟩
theorem bw_xor : Bw Builtin.bitXor (fun a b => (a + b) % 2) := ⟨xor_step, by decide, fun a b _ _ _ _ => by omega⟩
/-- the low bits apart from the high ones -/
theorem Bw.split {f g : Int → Int → Int} (B : Bw f g) : ∀ (l : Nat) {a b : Int} (x y : Int), 0 ≤ a → a < 2 ^ l → 0 ≤ b → b < 2 ^ l → f (a + 2 ^ l * x) (b + 2 ^ l * y) = f a b + 2 ^ l * f x y ∧ 0 ≤ f a b ∧ f a b < 2 ^ l
  | 0, a, b, x, y, a0, a1, b0, b1 => by
    have ea : a = 0 := by simp at a1; omega
    have eb : b = 0 := by simp at b1; omega
    subst ea
    subst eb
    rw [B.nil]
    simp
  | l + 1, a, b, x, y, a0, a1, b0, b1 => by
    have e : (2 : Int) ^ (l + 1) = 2 * 2 ^ l := by rw [Int.pow_succ, Int.mul_comm]
    rw [e] at a1 b1 ⊢
    obtain ⟨i1, i2, i3⟩ := B.split l (a := a / 2) (b := b / 2) x y (by omega) (by omega) (by omega) (by omega)
    have h1 := B.step (a + 2 * 2 ^ l * x) (b + 2 * 2 ^ l * y)
    have h2 := B.step a b
    have h3 := B.bit (a % 2) (b % 2) (by omega) (by omega) (by omega) (by omega)
    have q : ∀ c z : Int, (c + 2 * 2 ^ l * z) / 2 = c / 2 + 2 ^ l * z ∧ (c + 2 * 2 ^ l * z) % 2 = c % 2 := by
      intro c z
      rw [Int.mul_assoc]
      omega
    rw [(q a x).1, (q b y).1, (q a x).2, (q b y).2, i1] at h1
    rw [h1, Int.mul_assoc]
    generalize (2 : Int) ^ l * f x y = P at *
    refine ⟨by omega, by omega, by omega⟩
theorem Bw.rng {f g : Int → Int → Int} (B : Bw f g) {l : Nat} {a b : Int} (a0 : 0 ≤ a) (a1 : a < 2 ^ l) (b0 : 0 ≤ b) (b1 : b < 2 ^ l) : 0 ≤ f a b ∧ f a b < 2 ^ l := (B.split l 0 0 a0 a1 b0 b1).2
/-! ## words of lanes -/
section
variable {α : Type}
/-- lanes told by φ, and what stands above them -/
def lanes (T : Int) (cs : List α) (φ : α → Int) (x : Int) : Int := val T (cs.map φ) + T ^ cs.length * x
def LR (T : Int) (cs : List α) (φ : α → Int) : Prop := ∀ c ∈ cs, 0 ≤ φ c ∧ φ c < T
theorem lanes_cons {T : Int} {c : α} {cs : List α} {φ : α → Int} {x : Int} : lanes T (c :: cs) φ x = φ c + T * lanes T cs φ x := by
  unfold lanes
  simp only [List.map_cons, val, List.length_cons, Int.pow_succ]
  grind
theorem lanes_nil {T : Int} {φ : α → Int} {x : Int} : lanes T [] φ x = x := by simp [lanes, val]
theorem lanes_cg {T : Int} {cs : List α} {φ ψ : α → Int} {x : Int} (h : ∀ c ∈ cs, φ c = ψ c) : lanes T cs φ x = lanes T cs ψ x := by
  unfold lanes
  rw [List.map_congr_left h]
theorem lanes_add {T : Int} : ∀ {cs : List α} {φ ψ : α → Int} {x y : Int}, lanes T cs φ x + lanes T cs ψ y = lanes T cs (fun c => φ c + ψ c) (x + y)
  | [], _, _, _, _ => by simp [lanes_nil]
  | c :: cs, φ, ψ, x, y => by
    rw [lanes_cons, lanes_cons, lanes_cons, ← lanes_add]
    grind
theorem lanes_sub {T : Int} : ∀ {cs : List α} {φ ψ : α → Int} {x y : Int}, lanes T cs φ x - lanes T cs ψ y = lanes T cs (fun c => φ c - ψ c) (x - y)
  | [], _, _, _, _ => by simp [lanes_nil]
  | c :: cs, φ, ψ, x, y => by
    rw [lanes_cons, lanes_cons, lanes_cons, ← lanes_sub]
    grind
theorem lanes_mul {T k : Int} : ∀ {cs : List α} {φ : α → Int} {x : Int}, k * lanes T cs φ x = lanes T cs (fun c => k * φ c) (k * x)
  | [], _, _ => by simp [lanes_nil]
  | c :: cs, φ, x => by
    rw [lanes_cons, lanes_cons, ← lanes_mul]
    grind
theorem lanes_not {T : Int} : ∀ {cs : List α} {φ : α → Int} {x : Int}, Builtin.bitNot (lanes T cs φ x) = lanes T cs (fun c => T - 1 - φ c) (Builtin.bitNot x)
  | [], _, _ => by simp [lanes_nil]
  | c :: cs, φ, x => by
    rw [lanes_cons, lanes_cons, ← lanes_not]
    unfold Builtin.bitNot
    grind
theorem LR.not {T : Int} {cs : List α} {φ : α → Int} (h : LR T cs φ) : LR T cs (fun c => T - 1 - φ c) := fun c hc => by
  have := h c hc
  show 0 ≤ T - 1 - φ c ∧ T - 1 - φ c < T
  omega
theorem LR.bw {f g : Int → Int → Int} (B : Bw f g) {l : Nat} {cs : List α} {φ ψ : α → Int} (h : LR (2 ^ l) cs φ) (k : LR (2 ^ l) cs ψ) : LR (2 ^ l) cs (fun c => f (φ c) (ψ c)) := fun c hc => B.rng (h c hc).1 (h c hc).2 (k c hc).1 (k c hc).2
theorem lanes_bw {f g : Int → Int → Int} (B : Bw f g) {l : Nat} : ∀ {cs : List α} {φ ψ : α → Int} {x y : Int}, LR (2 ^ l) cs φ → LR (2 ^ l) cs ψ → f (lanes (2 ^ l) cs φ x) (lanes (2 ^ l) cs ψ y) = lanes (2 ^ l) cs (fun c => f (φ c) (ψ c)) (f x y)
  | [], _, _, _, _, _, _ => by simp [lanes_nil]
  | c :: cs, φ, ψ, x, y, h, k => by
    have hc := h c List.mem_cons_self
    have kc := k c List.mem_cons_self
    rw [lanes_cons, lanes_cons, lanes_cons, (B.split l _ _ hc.1 hc.2 kc.1 kc.2).1, lanes_bw B (fun d hd => h d (List.mem_cons_of_mem _ hd)) fun d hd => k d (List.mem_cons_of_mem _ hd)]
theorem lanes_rng {T : Int} (ht : 0 < T) {cs : List α} {φ : α → Int} (h : LR T cs φ) : 0 ≤ lanes T cs φ 0 ∧ lanes T cs φ 0 < T ^ cs.length := by
  unfold lanes
  have := val_rng ht (ns := cs.map φ) (by
    intro n hn
    obtain ⟨c, hc, rfl⟩ := List.mem_map.mp hn
    exact h c hc)
  rw [List.length_map] at this
  omega
/-- all lanes alike -/
theorem lanes_rep {T : Int} (ht : 1 < T) (cs : List α) (k : Int) : (T ^ cs.length - 1) / (T - 1) * k = lanes T cs (fun _ => k) 0 := by
  have e : (T - 1) * lanes T cs (fun _ => 1) 0 = T ^ cs.length - 1 := by
    induction cs with
    | nil => simp [lanes_nil]
    | cons c cs ih =>
      rw [lanes_cons, List.length_cons, Int.pow_succ]
      have : (T - 1) * (1 + T * lanes T cs (fun _ => 1) 0) = (T - 1) + T * ((T - 1) * lanes T cs (fun _ => 1) 0) := by grind
      rw [this, ih]
      grind
  rw [← e, Int.mul_ediv_cancel_left _ (by omega), Int.mul_comm, lanes_mul]
  simp
/-- one bit each, laid out over the lane -/
theorem lanes_mask {T : Int} {l : Nat} (hT : T = 2 ^ l) {cs : List α} {φ : α → Int} (h : LR T cs φ) : Builtin.bitAnd (lanes T cs φ 0) (T ^ cs.length - 1) = lanes T cs φ 0 := by
  have r := lanes_rng (by rw [hT]; exact two_pos l) h
  have e : T ^ cs.length = 2 ^ (l * cs.length) := by rw [hT, pow_mul']
  rw [e, bitAnd_mask r.1, ← e, Int.emod_eq_of_lt r.1 r.2]
end
/-! ## one lane: its highest bit and the rest -/
section
variable {k : Nat} {a b : Int}
theorem parts2 (a : Int) (a0 : 0 ≤ a) (a1 : a < 2 ^ (k + 1)) : ∃ a' α : Int, a = a' + 2 ^ k * α ∧ 0 ≤ a' ∧ a' < 2 ^ k ∧ (α = 0 ∧ ¬ 2 ^ k ≤ a ∨ α = 1 ∧ 2 ^ k ≤ a) := by
  have e : (2 : Int) ^ (k + 1) = 2 * 2 ^ k := by rw [Int.pow_succ, Int.mul_comm]
  by_cases h : 2 ^ k ≤ a
  · exact ⟨a - 2 ^ k, 1, by omega, by omega, by omega, .inr ⟨rfl, h⟩⟩
  · exact ⟨a, 0, by omega, a0, by omega, .inl ⟨rfl, h⟩⟩
theorem xor_top (a0 : 0 ≤ a) (a1 : a < 2 ^ (k + 1)) (b0 : 0 ≤ b) (b1 : b < 2 ^ (k + 1)) : (2 ^ k ≤ Builtin.bitXor a b) ↔ ¬ ((2 : Int) ^ k ≤ a ↔ 2 ^ k ≤ b) := by
  obtain ⟨a', α, ea, h1, h2, hα⟩ := parts2 a a0 a1
  obtain ⟨b', β, eb, h3, h4, hβ⟩ := parts2 b b0 b1
  obtain ⟨s1, s2, s3⟩ := bw_xor.split k α β h1 h2 h3 h4
  rw [← ea, ← eb] at s1
  rw [s1]
  have x1 : Builtin.bitXor 0 0 = 0 := by decide
  have x2 : Builtin.bitXor 0 1 = 1 := by decide
  have x3 : Builtin.bitXor 1 0 = 1 := by decide
  have x4 : Builtin.bitXor 1 1 = 0 := by decide
  rcases hα with ⟨rfl, z1⟩ | ⟨rfl, z1⟩ <;> rcases hβ with ⟨rfl, z2⟩ | ⟨rfl, z2⟩ <;> simp only [x1, x2, x3, x4, z1, z2, Int.mul_zero, Int.mul_one, Int.add_zero, iff_self, not_true, iff_false, iff_true, not_false_iff, and_self, and_true, true_and, or_true, true_or, or_self, and_false, false_and, or_false, false_or, not_not] <;> omega
theorem and_top2 (a0 : 0 ≤ a) (a1 : a < 2 ^ (k + 1)) (b0 : 0 ≤ b) (b1 : b < 2 ^ (k + 1)) : (2 ^ k ≤ Builtin.bitAnd a b) ↔ ((2 : Int) ^ k ≤ a ∧ 2 ^ k ≤ b) := by
  obtain ⟨a', α, ea, h1, h2, hα⟩ := parts2 a a0 a1
  obtain ⟨b', β, eb, h3, h4, hβ⟩ := parts2 b b0 b1
  obtain ⟨s1, s2, s3⟩ := bw_and.split k α β h1 h2 h3 h4
  rw [← ea, ← eb] at s1
  rw [s1]
  have x1 : Builtin.bitAnd 0 0 = 0 := by decide
  have x2 : Builtin.bitAnd 0 1 = 0 := by decide
  have x3 : Builtin.bitAnd 1 0 = 0 := by decide
  have x4 : Builtin.bitAnd 1 1 = 1 := by decide
  rcases hα with ⟨rfl, z1⟩ | ⟨rfl, z1⟩ <;> rcases hβ with ⟨rfl, z2⟩ | ⟨rfl, z2⟩ <;> simp only [x1, x2, x3, x4, z1, z2, Int.mul_zero, Int.mul_one, Int.add_zero, iff_self, not_true, iff_false, iff_true, not_false_iff, and_self, and_true, true_and, or_true, true_or, or_self, and_false, false_and, or_false, false_or, not_not] <;> omega
theorem or_top (a0 : 0 ≤ a) (a1 : a < 2 ^ (k + 1)) (b0 : 0 ≤ b) (b1 : b < 2 ^ (k + 1)) : (2 ^ k ≤ Builtin.bitOr a b) ↔ ((2 : Int) ^ k ≤ a ∨ 2 ^ k ≤ b) := by
  obtain ⟨a', α, ea, h1, h2, hα⟩ := parts2 a a0 a1
  obtain ⟨b', β, eb, h3, h4, hβ⟩ := parts2 b b0 b1
  obtain ⟨s1, s2, s3⟩ := bw_or.split k α β h1 h2 h3 h4
  rw [← ea, ← eb] at s1
  rw [s1]
  have x1 : Builtin.bitOr 0 0 = 0 := by decide
  have x2 : Builtin.bitOr 0 1 = 1 := by decide
  have x3 : Builtin.bitOr 1 0 = 1 := by decide
  have x4 : Builtin.bitOr 1 1 = 1 := by decide
  rcases hα with ⟨rfl, z1⟩ | ⟨rfl, z1⟩ <;> rcases hβ with ⟨rfl, z2⟩ | ⟨rfl, z2⟩ <;> simp only [x1, x2, x3, x4, z1, z2, Int.mul_zero, Int.mul_one, Int.add_zero, iff_self, not_true, iff_false, iff_true, not_false_iff, and_self, and_true, true_and, or_true, true_or, or_self, and_false, false_and, or_false, false_or, not_not] <;> omega
theorem xor_zero (a : Int) (a0 : 0 ≤ a) : Builtin.bitXor a 0 = a := by
  obtain ⟨m, rfl⟩ := Int.eq_ofNat_of_zero_le a0
  have := bitXor_nat m 0
  simpa using this
theorem or_zero (a : Int) (a0 : 0 ≤ a) : Builtin.bitOr a 0 = a := by
  obtain ⟨m, rfl⟩ := Int.eq_ofNat_of_zero_le a0
  have := bitOr_nat m 0
  simpa using this
theorem and_zero (a : Int) (a0 : 0 ≤ a) : Builtin.bitAnd a 0 = 0 := by
  obtain ⟨m, rfl⟩ := Int.eq_ofNat_of_zero_le a0
  have := bitAnd_nat m 0
  simpa using this
theorem xor_self (a : Int) (a0 : 0 ≤ a) : Builtin.bitXor a a = 0 := by
  obtain ⟨m, rfl⟩ := Int.eq_ofNat_of_zero_le a0
  have := bitXor_nat m m
  simpa using this
theorem xor_nought {a b : Int} (a0 : 0 ≤ a) (b0 : 0 ≤ b) (h : Builtin.bitXor a b = 0) : a = b := by
  obtain ⟨m, rfl⟩ := Int.eq_ofNat_of_zero_le a0
  obtain ⟨n, rfl⟩ := Int.eq_ofNat_of_zero_le b0
  rw [bitXor_nat] at h
  have h' : m ^^^ n = 0 := by exact_mod_cast h
  have e : m = n := by
    have := congrArg (· ^^^ n) h'
    simpa [Nat.xor_assoc] using this
  rw [e]
theorem xor_comm (a b : Int) : Builtin.bitXor a b = Builtin.bitXor b a := by
  unfold Builtin.bitXor
  have c1 : Builtin.bitAnd a b = Builtin.bitAnd b a := by
    unfold Builtin.bitAnd
    by_cases hx : 0 ≤ a <;> by_cases hy : 0 ≤ b <;> simp [hx, hy, Nat.and_comm, Nat.or_comm]
  have c2 : Builtin.bitOr a b = Builtin.bitOr b a := by
    unfold Builtin.bitOr Builtin.bitAnd
    by_cases hx : 0 ≤ Builtin.bitNot a <;> by_cases hy : 0 ≤ Builtin.bitNot b <;> simp [hx, hy, Nat.and_comm, Nat.or_comm]
  rw [c1, c2]
/-- its highest bit turned -/
theorem xor_high (a0 : 0 ≤ a) (a1 : a < 2 ^ (k + 1)) : Builtin.bitXor a (2 ^ k) = if 2 ^ k ≤ a then a - 2 ^ k else a + 2 ^ k := by
  obtain ⟨a', α, ea, h1, h2, hα⟩ := parts2 a a0 a1
  have hp := two_pos k
  obtain ⟨s1, s2, s3⟩ := bw_xor.split k (a := a') (b := 0) α 1 h1 h2 (by omega) hp
  rw [← ea, Int.zero_add, Int.mul_one, xor_zero _ h1] at s1
  rw [s1]
  have x2 : Builtin.bitXor 0 1 = 1 := by decide
  have x4 : Builtin.bitXor 1 1 = 0 := by decide
  rcases hα with ⟨rfl, z1⟩ | ⟨rfl, z1⟩ <;> simp only [x2, x4, z1, if_true, if_false] <;> omega
theorem or_high (a0 : 0 ≤ a) (a1 : a < 2 ^ (k + 1)) : Builtin.bitOr a (2 ^ k) = if 2 ^ k ≤ a then a else a + 2 ^ k := by
  obtain ⟨a', α, ea, h1, h2, hα⟩ := parts2 a a0 a1
  have hp := two_pos k
  obtain ⟨s1, s2, s3⟩ := bw_or.split k (a := a') (b := 0) α 1 h1 h2 (by omega) hp
  rw [← ea, Int.zero_add, Int.mul_one, or_zero _ h1] at s1
  rw [s1]
  have x2 : Builtin.bitOr 0 1 = 1 := by decide
  have x4 : Builtin.bitOr 1 1 = 1 := by decide
  rcases hα with ⟨rfl, z1⟩ | ⟨rfl, z1⟩ <;> simp only [x2, x4, z1, if_true, if_false] <;> omega
theorem low_and (a0 : 0 ≤ a) (a1 : a < 2 ^ (k + 1)) : Builtin.bitAnd a (2 ^ k - 1) = if 2 ^ k ≤ a then a - 2 ^ k else a := by
  have e : (2 : Int) ^ (k + 1) = 2 * 2 ^ k := by rw [Int.pow_succ, Int.mul_comm]
  rw [bitAnd_mask a0]
  split
  · have : a = (a - 2 ^ k) + 2 ^ k * 1 := by omega
    rw [this, Int.add_mul_emod_self_left, Int.emod_eq_of_lt (by omega) (by omega)]
    omega
  · exact Int.emod_eq_of_lt a0 (by omega)
end
end PF

set_option Elab.async false
set_option linter.all false
set_option maxRecDepth 100000
namespace PF
open PySem L2
theorem and_comm' (a b : Int) : Builtin.bitAnd a b = Builtin.bitAnd b a := by
  unfold Builtin.bitAnd
  by_cases hx : 0 ≤ a <;> by_cases hy : 0 ≤ b <;> simp [hx, hy, Nat.and_comm, Nat.or_comm]
theorem or_comm' (a b : Int) : Builtin.bitOr a b = Builtin.bitOr b a := by
  rw [or_def, or_def, and_comm']
theorem and_nn {a b : Int} (b0 : 0 ≤ b) : 0 ≤ Builtin.bitAnd a b := by
  by_cases ha : 0 ≤ a
  · exact (bit_and_le ha b0).1
  · rw [and_comm']
    unfold Builtin.bitAnd
    simp only [b0, ha, decide_true, decide_false]
    have := Nat.and_le_left (n := b.toNat) (m := (Builtin.bitNot a).toNat)
    omega
theorem high_if {k : Nat} {a : Int} (a0 : 0 ≤ a) (a1 : a < 2 ^ (k + 1)) : Builtin.bitAnd a (2 ^ k) = if 2 ^ k ≤ a then 2 ^ k else 0 := bitAnd_top a0 a1
/-! ## one lane -/
section
variable {k : Nat} {T H a b : Int} (hT : T = 2 ^ (k + 1)) (hH : H = 2 ^ k) (a0 : 0 ≤ a) (a1 : a < T) (b0 : 0 ≤ b) (b1 : b < T)
include hT hH
theorem lane_TH : T = 2 * H ∧ 0 < H := by
  subst hT
  subst hH
  exact ⟨by rw [Int.pow_succ, Int.mul_comm], two_pos k⟩
include a0 a1
theorem full_and : Builtin.bitAnd a (T - 1) = a := by
  rw [hT, bitAnd_mask a0, ← hT, Int.emod_eq_of_lt a0 a1]
theorem full_or : Builtin.bitOr a (T - 1) = T - 1 := by
  have h := full_and hT hH a0 a1
  have := bit_or_and a0 (show 0 ≤ T - 1 by omega)
  omega
theorem low_if : Builtin.bitAnd a (T - 1 - H) = if H ≤ a then a - H else a := by
  obtain ⟨h1, h2⟩ := lane_TH hT hH
  rw [show T - 1 - H = H - 1 by omega, hH]
  exact low_and a0 (by rw [← hT]; exact a1)
include b0 b1
theorem mod_add : (a + b) % T = if a + b < T then a + b else a + b - T := by
  split
  · exact Int.emod_eq_of_lt (by omega) (by omega)
  · have : a + b = (a + b - T) + T * 1 := by omega
    rw [this, Int.add_mul_emod_self_left, Int.emod_eq_of_lt (by omega) (by omega)]
    omega
theorem mod_sub : (a - b) % T = if a < b then a - b + T else a - b := by
  split
  · have : a - b = (a - b + T) + T * (-1) := by omega
    rw [this, Int.add_mul_emod_self_left, Int.emod_eq_of_lt (by omega) (by omega)]
    omega
  · exact Int.emod_eq_of_lt (by omega) (by omega)
theorem lane_add : Builtin.bitXor (Builtin.bitAnd a (T - 1 - H) + Builtin.bitAnd b (T - 1 - H)) (Builtin.bitAnd (Builtin.bitXor a b) H) = (a + b) % T := by
  obtain ⟨h1, h2⟩ := lane_TH hT hH
  rw [mod_add hT hH a0 a1 b0 b1, low_if hT hH a0 a1, low_if hT hH b0 b1]
  have r := bw_xor.rng (l := k + 1) a0 (by rw [← hT]; exact a1) b0 (by rw [← hT]; exact b1)
  have x := xor_top (k := k) a0 (by rw [← hT]; exact a1) b0 (by rw [← hT]; exact b1)
  have hi := high_if (k := k) r.1 r.2
  rw [← hH] at x hi
  rw [hi]
  simp only [x]
  have xz : ∀ s : Int, 0 ≤ s → Builtin.bitXor s 0 = s := xor_zero
  have xh : ∀ s : Int, 0 ≤ s → s < T → Builtin.bitXor s H = if H ≤ s then s - H else s + H := by
    intro s s0 s1
    rw [hH]
    exact xor_high s0 (by rw [← hT]; exact s1)
  by_cases p : H ≤ a <;> by_cases q : H ≤ b <;> simp only [p, q, if_true, if_false, iff_self, not_true, not_false_iff, iff_false, iff_true, true_iff, false_iff]
  · rw [xz _ (by omega)]; split <;> omega
  · rw [xh _ (by omega) (by omega)]; (repeat' split) <;> omega
  · rw [xh _ (by omega) (by omega)]; (repeat' split) <;> omega
  · rw [xz _ (by omega)]; split <;> omega
theorem lane_sub : Builtin.bitXor (Builtin.bitOr a H - Builtin.bitAnd b (T - 1 - H)) (Builtin.bitAnd (Builtin.bitXor a (T - 1 - b)) H) = (a - b) % T := by
  obtain ⟨h1, h2⟩ := lane_TH hT hH
  rw [mod_sub hT hH a0 a1 b0 b1, low_if hT hH b0 b1]
  have r := bw_xor.rng (l := k + 1) (a := a) (b := T - 1 - b) a0 (by rw [← hT]; exact a1) (by omega) (by rw [← hT]; omega)
  have x := xor_top (k := k) (a := a) (b := T - 1 - b) a0 (by rw [← hT]; exact a1) (by omega) (by rw [← hT]; omega)
  have hi := high_if (k := k) r.1 r.2
  have oh := or_high (k := k) a0 (by rw [← hT]; exact a1)
  rw [← hH] at x hi oh
  rw [hi, oh]
  simp only [x]
  have xz : ∀ s : Int, 0 ≤ s → Builtin.bitXor s 0 = s := xor_zero
  have xh : ∀ s : Int, 0 ≤ s → s < T → Builtin.bitXor s H = if H ≤ s then s - H else s + H := by
    intro s s0 s1
    rw [hH]
    exact xor_high s0 (by rw [← hT]; exact s1)
  have nb : H ≤ T - 1 - b ↔ ¬ H ≤ b := by omega
  simp only [nb]
  by_cases p : H ≤ a <;> by_cases q : H ≤ b <;> simp only [p, q, if_true, if_false, iff_self, not_true, not_false_iff, iff_false, iff_true, true_iff, false_iff]
  · rw [xh _ (by omega) (by omega)]; (repeat' split) <;> omega
  · rw [xz _ (by omega)]; split <;> omega
  · rw [xz _ (by omega)]; split <;> omega
  · rw [xh _ (by omega) (by omega)]; (repeat' split) <;> omega
theorem lane_below : Builtin.bitAnd (Builtin.bitOr (Builtin.bitAnd (T - 1 - a) b) (Builtin.bitAnd (Builtin.bitOr (T - 1 - a) b) ((a - b) % T))) H = if a < b then H else 0 := by
  obtain ⟨h1, h2⟩ := lane_TH hT hH
  have na' : 0 ≤ T - 1 - a ∧ T - 1 - a < 2 ^ (k + 1) := by rw [← hT]; omega
  have rr := emod_rng (a - b) (show 0 < T by omega)
  have ms := mod_sub hT hH a0 a1 b0 b1
  generalize (a - b) % T = r at *
  have b1' : b < 2 ^ (k + 1) := by rw [← hT]; exact b1
  have rr' : r < 2 ^ (k + 1) := by rw [← hT]; exact rr.2
  have u1 := bw_and.rng (l := k + 1) na'.1 na'.2 b0 b1'
  have u2 := bw_or.rng (l := k + 1) na'.1 na'.2 b0 b1'
  have u3 := bw_and.rng (l := k + 1) u2.1 u2.2 rr.1 rr'
  have u4 := bw_or.rng (l := k + 1) u1.1 u1.2 u3.1 u3.2
  have t1 := and_top2 (k := k) na'.1 na'.2 b0 b1'
  have t2 := or_top (k := k) na'.1 na'.2 b0 b1'
  have t3 := and_top2 (k := k) u2.1 u2.2 rr.1 rr'
  have t4 := or_top (k := k) u1.1 u1.2 u3.1 u3.2
  have hi := high_if (k := k) u4.1 u4.2
  rw [← hH] at t1 t2 t3 t4 hi
  rw [hi]
  simp only [t4, t1, t3, t2]
  by_cases c : a < b
  · rw [if_pos c] at ms ⊢
    rw [if_pos]
    omega
  · rw [if_neg c] at ms ⊢
    rw [if_neg]
    omega
theorem lane_same : Builtin.bitAnd H (T - 1 - Builtin.bitOr (Builtin.bitAnd (Builtin.bitXor a b) (Builtin.bitXor (T - 1) H) + Builtin.bitXor (T - 1) H) (Builtin.bitXor a b)) = if a = b then H else 0 := by
  obtain ⟨h1, h2⟩ := lane_TH hT hH
  have r := bw_xor.rng (l := k + 1) a0 (by rw [← hT]; exact a1) b0 (by rw [← hT]; exact b1)
  rw [← hT] at r
  have e : Builtin.bitXor a b = 0 ↔ a = b := ⟨xor_nought a0 b0, fun h => by rw [h]; exact xor_self b b0⟩
  generalize Builtin.bitXor a b = c at *
  have eR : Builtin.bitXor (T - 1) H = T - 1 - H := by
    have := xor_high (k := k) (a := T - 1) (by omega) (by rw [← hT]; omega)
    rw [← hH, if_pos (by omega)] at this
    exact this
  rw [eR, low_if hT hH r.1 r.2]
  have s0 : 0 ≤ (if H ≤ c then c - H else c) + (T - 1 - H) ∧ (if H ≤ c then c - H else c) + (T - 1 - H) < T := by split <;> omega
  have top : H ≤ (if H ≤ c then c - H else c) + (T - 1 - H) ↔ c ≠ 0 ∧ c ≠ H := by split <;> omega
  generalize (if H ≤ c then c - H else c) + (T - 1 - H) = s at *
  have u := bw_or.rng (l := k + 1) s0.1 (by rw [← hT]; exact s0.2) r.1 (by rw [← hT]; exact r.2)
  have t := or_top (k := k) s0.1 (by rw [← hT]; exact s0.2) r.1 (by rw [← hT]; exact r.2)
  rw [← hT] at u
  rw [← hH] at t
  generalize Builtin.bitOr s c = o at *
  have hi := high_if (k := k) (a := T - 1 - o) (by omega) (by rw [← hT]; omega)
  rw [← hH] at hi
  rw [and_comm', hi]
  by_cases q : a = b
  · have c0 := e.mpr q
    rw [if_pos q, if_pos]
    omega
  · have c0 : ¬ c = 0 := fun z => q (e.mp z)
    rw [if_neg q, if_neg]
    omega
theorem lane_max : Builtin.bitOr (Builtin.bitAnd b (if a < b then T - 1 else 0)) (Builtin.bitAnd a (T - 1 - (if a < b then T - 1 else 0))) = max a b := by
  have f1 := full_and hT hH a0 a1
  have f2 := full_and hT hH b0 b1
  by_cases c : a < b
  · rw [if_pos c, f2, Int.sub_self, and_zero a a0, or_zero b b0]
    omega
  · rw [if_neg c, Int.sub_zero, f1, and_zero b b0, or_comm', or_zero a a0]
    omega
theorem lane_min : Builtin.bitOr (Builtin.bitAnd a (if a < b then T - 1 else 0)) (Builtin.bitAnd b (T - 1 - (if a < b then T - 1 else 0))) = min a b := by
  have f1 := full_and hT hH a0 a1
  have f2 := full_and hT hH b0 b1
  by_cases c : a < b
  · rw [if_pos c, f1, Int.sub_self, and_zero b b0, or_zero a a0]
    omega
  · rw [if_neg c, Int.sub_zero, f2, and_zero a a0, or_comm', or_zero b b0]
    omega
theorem lane_mix : Builtin.bitXor a (Builtin.bitAnd (Builtin.bitXor b a) (if a < b then T - 1 else 0)) = max a b := by
  have r := bw_xor.rng (l := k + 1) b0 (by rw [← hT]; exact b1) a0 (by rw [← hT]; exact a1)
  rw [← hT] at r
  by_cases c : a < b
  · rw [if_pos c, full_and hT hH r.1 r.2]
    have : Builtin.bitXor a (Builtin.bitXor b a) = b := by
      obtain ⟨m, rfl⟩ := Int.eq_ofNat_of_zero_le a0
      obtain ⟨n, rfl⟩ := Int.eq_ofNat_of_zero_le b0
      rw [bitXor_nat, bitXor_nat]
      congr 1
      rw [Nat.xor_comm n m, ← Nat.xor_assoc, Nat.xor_self, Nat.zero_xor]
    rw [this]
    omega
  · rw [if_neg c, and_zero _ r.1, xor_zero a a0]
    omega
theorem lane_stop : Builtin.bitOr ((a + b) % T) (if (a + b) % T < a then T - 1 else 0) = min (T - 1) (a + b) := by
  have ms := mod_add hT hH a0 a1 b0 b1
  have rr := emod_rng (a + b) (show 0 < T by omega)
  generalize (a + b) % T = s at *
  by_cases c : s < a
  · rw [if_pos c, full_or hT hH rr.1 rr.2]
    split at ms <;> omega
  · rw [if_neg c, or_zero s rr.1]
    split at ms <;> omega
end
/-! ## marks spread over their lanes; lanes of 0 -/
section
variable {α : Type} {k : Nat} {T H : Int} (hT : T = 2 ^ (k + 1)) (hH : H = 2 ^ k) {cs : List α}
include hT hH
theorem spread (P : α → Prop) [DecidablePred P] : Builtin.bitAnd (lanes T cs (fun c => if P c then H else 0) 0 * 2 ^ 1 - lanes T cs (fun c => if P c then H else 0) 0 / H) (T ^ cs.length - 1) = lanes T cs (fun c => if P c then T - 1 else 0) 0 := by
  obtain ⟨h1, h2⟩ := lane_TH hT hH
  have e : lanes T cs (fun c => if P c then H else 0) 0 = H * lanes T cs (fun c => if P c then 1 else 0) 0 := by
    rw [lanes_mul]
    simp only [Int.mul_zero]
    refine lanes_cg fun c _ => ?_
    show (if P c then H else 0) = H * (if P c then 1 else 0)
    split <;> simp
  have e2 : lanes T cs (fun c => if P c then T - 1 else 0) 0 = (T - 1) * lanes T cs (fun c => if P c then 1 else 0) 0 := by
    rw [lanes_mul]
    simp only [Int.mul_zero]
    refine lanes_cg fun c _ => ?_
    show (if P c then T - 1 else 0) = (T - 1) * (if P c then 1 else 0)
    split <;> simp
  have e3 : lanes T cs (fun c => if P c then H else 0) 0 * 2 ^ 1 - lanes T cs (fun c => if P c then H else 0) 0 / H = lanes T cs (fun c => if P c then T - 1 else 0) 0 := by
    rw [e2, e, Int.mul_ediv_cancel_left _ (by omega), h1]
    grind
  rw [e3]
  refine lanes_mask hT fun c _ => ?_
  show 0 ≤ (if P c then T - 1 else 0) ∧ (if P c then T - 1 else 0) < T
  split <;> omega
theorem mod_step {d X : Int} {n : Nat} (d0 : 0 ≤ d) (d1 : d < T) : (d + T * X) % T ^ (n + 1) = d + T * (X % T ^ n) := by
  have tp : 0 < T := by omega
  have hp : 0 < T ^ n := Int.pow_pos tp
  have q := Int.mul_ediv_add_emod X (T ^ n)
  have r := emod_rng X hp
  rw [Int.pow_succ]
  refine (Cg.val (m := T ^ n * T) ⟨X / T ^ n, ?_⟩ ?_ ?_)
  · generalize X / T ^ n = c at *
    generalize X % T ^ n = e at *
    rw [← q]
    grind
  · have := Int.mul_nonneg (Int.le_of_lt tp) r.1
    omega
  · have h4 : T * (X % T ^ n) ≤ T * (T ^ n - 1) := Int.mul_le_mul_of_nonneg_left (by omega) (Int.le_of_lt tp)
    have h5 : T * (T ^ n - 1) = T ^ n * T - T := by grind
    omega
theorem nought_law {φ : α → Int} (h : LR T cs φ) : Builtin.bitAnd (Builtin.bitAnd ((lanes T cs φ 0 - lanes T cs (fun _ => 1) 0) % T ^ cs.length) (Builtin.bitNot (lanes T cs φ 0))) (lanes T cs (fun _ => H) 0) = 0 ↔ ∀ c ∈ cs, φ c ≠ 0 := by
  obtain ⟨h1, h2⟩ := lane_TH hT hH
  have bn : ∀ a x : Int, Builtin.bitNot (a + T * x) = (T - 1 - a) + T * Builtin.bitNot x := by
    intro a x
    unfold Builtin.bitNot
    grind
  have sp : ∀ {a b : Int} (x y : Int), 0 ≤ a → a < T → 0 ≤ b → b < T → Builtin.bitAnd (a + T * x) (b + T * y) = Builtin.bitAnd a b + T * Builtin.bitAnd x y ∧ 0 ≤ Builtin.bitAnd a b ∧ Builtin.bitAnd a b < T := by
    intro a b x y a0 a1 b0 b1
    rw [hT] at *
    exact bw_and.split (k + 1) x y a0 a1 b0 b1
  have nn : ∀ (cs : List α) (x : Int) (m : Nat), m = cs.length → LR T cs φ → 0 ≤ Builtin.bitAnd (Builtin.bitAnd (x % T ^ m) (Builtin.bitNot (lanes T cs φ 0))) (lanes T cs (fun _ => H) 0) := by
    intro cs x m _ _
    have r2 := lanes_rng (T := T) (by omega) (cs := cs) (φ := fun _ => H) (fun c _ => by show 0 ≤ H ∧ H < T; omega)
    exact and_nn r2.1
  induction cs with
  | nil => simp [lanes_nil]; decide
  | cons c cs ih =>
    have hc := h c List.mem_cons_self
    have hs : LR T cs φ := fun d hd => h d (List.mem_cons_of_mem _ hd)
    have ih := ih hs
    rw [lanes_cons, lanes_cons, lanes_cons, List.length_cons, bn]
    by_cases z : φ c = 0
    · have e : φ c + T * lanes T cs φ 0 - (1 + T * lanes T cs (fun _ => 1) 0) = (T - 1) + T * (lanes T cs φ 0 - lanes T cs (fun _ => 1) 0 - 1) := by rw [z]; grind
      rw [e, mod_step hT hH (by omega) (by omega), z, Int.sub_zero]
      have s1 := sp ((lanes T cs φ 0 - lanes T cs (fun _ => 1) 0 - 1) % T ^ cs.length) (Builtin.bitNot (lanes T cs φ 0)) (a := T - 1) (b := T - 1) (by omega) (by omega) (by omega) (by omega)
      rw [s1.1]
      have f := full_and hT hH (a := T - 1) (by omega) (by omega)
      rw [f]
      have s2 := sp (Builtin.bitAnd ((lanes T cs φ 0 - lanes T cs (fun _ => 1) 0 - 1) % T ^ cs.length) (Builtin.bitNot (lanes T cs φ 0))) (lanes T cs (fun _ => H) 0) (a := T - 1) (b := H) (by omega) (by omega) (by omega) (by omega)
      rw [s2.1]
      have hh : Builtin.bitAnd (T - 1) H = H := by
        have := high_if (k := k) (a := T - 1) (by omega) (by rw [← hT]; omega)
        rw [← hH, if_pos (by omega)] at this
        exact this
      rw [hh]
      have n1 := nn cs (lanes T cs φ 0 - lanes T cs (fun _ => 1) 0 - 1) cs.length rfl hs
      have n2 := Int.mul_nonneg (show 0 ≤ T by omega) n1
      constructor
      · intro w; omega
      · intro w; exact absurd z (w c List.mem_cons_self)
    · have e : φ c + T * lanes T cs φ 0 - (1 + T * lanes T cs (fun _ => 1) 0) = (φ c - 1) + T * (lanes T cs φ 0 - lanes T cs (fun _ => 1) 0) := by grind
      rw [e, mod_step hT hH (by omega) (by omega)]
      have s1 := sp ((lanes T cs φ 0 - lanes T cs (fun _ => 1) 0) % T ^ cs.length) (Builtin.bitNot (lanes T cs φ 0)) (a := φ c - 1) (b := T - 1 - φ c) (by omega) (by omega) (by omega) (by omega)
      rw [s1.1]
      have s2 := sp (Builtin.bitAnd ((lanes T cs φ 0 - lanes T cs (fun _ => 1) 0) % T ^ cs.length) (Builtin.bitNot (lanes T cs φ 0))) (lanes T cs (fun _ => H) 0) (a := Builtin.bitAnd (φ c - 1) (T - 1 - φ c)) (b := H) s1.2.1 s1.2.2 (by omega) (by omega)
      rw [s2.1]
      have hh : Builtin.bitAnd (Builtin.bitAnd (φ c - 1) (T - 1 - φ c)) H = 0 := by
        have r := s1.2
        have hi := high_if (k := k) r.1 (by rw [← hT]; exact r.2)
        have t := and_top2 (k := k) (a := φ c - 1) (b := T - 1 - φ c) (by omega) (by rw [← hT]; omega) (by omega) (by rw [← hT]; omega)
        rw [← hH] at hi t
        rw [hi, if_neg]
        rw [t]
        omega
      rw [hh, Int.zero_add]
      constructor
      · intro w d hd
        have w' := (Int.mul_eq_zero.mp w).resolve_left (by omega)
        rcases List.mem_cons.mp hd with q | q
        · rw [q]; exact z
        · exact ih.mp w' d q
      · intro w
        rw [ih.mpr fun d hd => w d (List.mem_cons_of_mem _ hd), Int.mul_zero]
end
end PF

set_option Elab.async false
set_option linter.all false
set_option maxRecDepth 100000
namespace PF
open PySem L2
/-! ## rows of lanes -/
section
variable {α : Type} {k : Nat} {T H : Int} (hT : T = 2 ^ (k + 1)) (hH : H = 2 ^ k) {cs : List α} {φ ψ : α → Int}
include hT
theorem lbw {f g : Int → Int → Int} (B : Bw f g) {x y : Int} (h : LR T cs φ) (k' : LR T cs ψ) : f (lanes T cs φ x) (lanes T cs ψ y) = lanes T cs (fun c => f (φ c) (ψ c)) (f x y) := by
  subst hT
  exact lanes_bw B h k'
theorem lrw {f g : Int → Int → Int} (B : Bw f g) (h : LR T cs φ) (k' : LR T cs ψ) : LR T cs (fun c => f (φ c) (ψ c)) := by
  subst hT
  exact LR.bw B h k'
include hH
theorem lr_H : LR T cs (fun _ => H) := fun _ _ => by
  have := lane_TH hT hH
  show 0 ≤ H ∧ H < T
  omega
theorem row_sum (h : LR T cs φ) (h' : LR T cs ψ) : Builtin.bitXor (Builtin.bitAnd (lanes T cs φ 0) (Builtin.bitNot (lanes T cs (fun _ => H) 0)) + Builtin.bitAnd (lanes T cs ψ 0) (Builtin.bitNot (lanes T cs (fun _ => H) 0))) (Builtin.bitAnd (Builtin.bitXor (lanes T cs φ 0) (lanes T cs ψ 0)) (lanes T cs (fun _ => H) 0)) = lanes T cs (fun c => (φ c + ψ c) % T) 0 := by
  obtain ⟨e1, e2⟩ := lane_TH hT hH
  have hh := lr_H hT hH (cs := cs)
  have hn := LR.not hh
  rw [lanes_not, lbw hT bw_and h hn, lbw hT bw_and h' hn, lanes_add, lbw hT bw_xor h h', lbw hT bw_and (lrw hT bw_xor h h') hh, lbw hT bw_xor ?_ (lrw hT bw_and (lrw hT bw_xor h h') hh)]
  · rw [show Builtin.bitXor (Builtin.bitAnd 0 (Builtin.bitNot 0) + Builtin.bitAnd 0 (Builtin.bitNot 0)) (Builtin.bitAnd (Builtin.bitXor 0 0) 0) = 0 by decide]
    exact lanes_cg fun c hc => lane_add hT hH (h c hc).1 (h c hc).2 (h' c hc).1 (h' c hc).2
  · intro c hc
    have i1 := low_if hT hH (h c hc).1 (h c hc).2
    have i2 := low_if hT hH (h' c hc).1 (h' c hc).2
    have r1 := h c hc
    have r2 := h' c hc
    show 0 ≤ Builtin.bitAnd (φ c) (T - 1 - H) + Builtin.bitAnd (ψ c) (T - 1 - H) ∧ Builtin.bitAnd (φ c) (T - 1 - H) + Builtin.bitAnd (ψ c) (T - 1 - H) < T
    rw [i1, i2]
    (repeat' split) <;> omega
theorem row_sub (h : LR T cs φ) (h' : LR T cs ψ) : Builtin.bitXor (Builtin.bitOr (lanes T cs φ 0) (lanes T cs (fun _ => H) 0) - Builtin.bitAnd (lanes T cs ψ 0) (Builtin.bitNot (lanes T cs (fun _ => H) 0))) (Builtin.bitAnd (Builtin.bitXor (lanes T cs φ 0) (Builtin.bitNot (lanes T cs ψ 0))) (lanes T cs (fun _ => H) 0)) = lanes T cs (fun c => (φ c - ψ c) % T) 0 := by
  obtain ⟨e1, e2⟩ := lane_TH hT hH
  have hh := lr_H hT hH (cs := cs)
  have hn := LR.not hh
  have hp := LR.not h'
  rw [lanes_not, lanes_not, lbw hT bw_or h hh, lbw hT bw_and h' hn, lanes_sub, lbw hT bw_xor h hp, lbw hT bw_and (lrw hT bw_xor h hp) hh, lbw hT bw_xor ?_ (lrw hT bw_and (lrw hT bw_xor h hp) hh)]
  · rw [show Builtin.bitXor (Builtin.bitOr 0 0 - Builtin.bitAnd 0 (Builtin.bitNot 0)) (Builtin.bitAnd (Builtin.bitXor 0 (Builtin.bitNot 0)) 0) = 0 by decide]
    exact lanes_cg fun c hc => lane_sub hT hH (h c hc).1 (h c hc).2 (h' c hc).1 (h' c hc).2
  · intro c hc
    have r1 := h c hc
    have r2 := h' c hc
    have i2 := low_if hT hH r2.1 r2.2
    have i1 := or_high (k := k) r1.1 (by rw [← hT]; exact r1.2)
    rw [← hH] at i1
    show 0 ≤ Builtin.bitOr (φ c) H - Builtin.bitAnd (ψ c) (T - 1 - H) ∧ Builtin.bitOr (φ c) H - Builtin.bitAnd (ψ c) (T - 1 - H) < T
    rw [i1, i2]
    (repeat' split) <;> omega
theorem row_below (h : LR T cs φ) (h' : LR T cs ψ) : Builtin.bitAnd (Builtin.bitOr (Builtin.bitAnd (Builtin.bitNot (lanes T cs φ 0)) (lanes T cs ψ 0)) (Builtin.bitAnd (Builtin.bitOr (Builtin.bitNot (lanes T cs φ 0)) (lanes T cs ψ 0)) (lanes T cs (fun c => (φ c - ψ c) % T) 0))) (lanes T cs (fun _ => H) 0) = lanes T cs (fun c => if φ c < ψ c then H else 0) 0 := by
  obtain ⟨e1, e2⟩ := lane_TH hT hH
  have hh := lr_H hT hH (cs := cs)
  have hn := LR.not h
  have hr : LR T cs (fun c => (φ c - ψ c) % T) := fun c _ => emod_rng _ (by omega)
  have u1 := lrw hT bw_and hn h'
  have u2 := lrw hT bw_or hn h'
  have u3 := lrw hT bw_and u2 hr
  have u4 := lrw hT bw_or u1 u3
  rw [lanes_not, lbw hT bw_and hn h', lbw hT bw_or hn h', lbw hT bw_and u2 hr, lbw hT bw_or u1 u3, lbw hT bw_and u4 hh]
  rw [show Builtin.bitAnd (Builtin.bitOr (Builtin.bitAnd (Builtin.bitNot 0) 0) (Builtin.bitAnd (Builtin.bitOr (Builtin.bitNot 0) 0) 0)) 0 = 0 by decide]
  exact lanes_cg fun c hc => lane_below hT hH (h c hc).1 (h c hc).2 (h' c hc).1 (h' c hc).2
theorem lanes_full : T ^ cs.length - 1 = lanes T cs (fun _ => T - 1) 0 := by
  obtain ⟨e1, e2⟩ := lane_TH hT hH
  have e := lanes_rep (T := T) (by omega) cs (T - 1)
  rw [← e]
  have q : T ^ cs.length - 1 = (T - 1) * lanes T cs (fun _ => 1) 0 := by
    have := lanes_rep (T := T) (by omega) cs 1
    rw [Int.mul_one] at this
    induction cs with
    | nil => simp [lanes_nil]
    | cons c cs ih =>
      rw [lanes_cons, List.length_cons, Int.pow_succ]
      have ih := ih (lanes_rep (by omega) cs (T - 1)).symm.symm (by have := lanes_rep (T := T) (by omega) cs 1; rw [Int.mul_one] at this; exact this)
      have : (T - 1) * (1 + T * lanes T cs (fun _ => 1) 0) = (T - 1) + T * ((T - 1) * lanes T cs (fun _ => 1) 0) := by grind
      rw [this, ← ih]
      grind
  conv => lhs; rw [q]
  rw [q, Int.mul_ediv_cancel_left _ (by omega), Int.mul_comm]
theorem row_same (h : LR T cs φ) (h' : LR T cs ψ) : Builtin.bitAnd (lanes T cs (fun _ => H) 0) (Builtin.bitNot (Builtin.bitOr (Builtin.bitAnd (Builtin.bitXor (lanes T cs φ 0) (lanes T cs ψ 0)) (Builtin.bitXor (T ^ cs.length - 1) (lanes T cs (fun _ => H) 0)) + Builtin.bitXor (T ^ cs.length - 1) (lanes T cs (fun _ => H) 0)) (Builtin.bitXor (lanes T cs φ 0) (lanes T cs ψ 0)))) = lanes T cs (fun c => if φ c = ψ c then H else 0) 0 := by
  obtain ⟨e1, e2⟩ := lane_TH hT hH
  have hh := lr_H hT hH (cs := cs)
  have hf : LR T cs (fun _ => T - 1) := fun c _ => by show 0 ≤ T - 1 ∧ T - 1 < T; omega
  have hx := lrw hT bw_xor h h'
  have hr := lrw hT bw_xor hf hh
  have hc := lrw hT bw_and hx hr
  have eR : Builtin.bitXor (T - 1) H = T - 1 - H := by
    have := xor_high (k := k) (a := T - 1) (by omega) (by rw [← hT]; omega)
    rw [← hH, if_pos (by omega)] at this
    exact this
  have hs : LR T cs (fun c => Builtin.bitAnd (Builtin.bitXor (φ c) (ψ c)) (Builtin.bitXor (T - 1) H) + Builtin.bitXor (T - 1) H) := by
    intro c hc
    have r := hx c hc
    have i := low_if hT hH r.1 r.2
    show 0 ≤ Builtin.bitAnd (Builtin.bitXor (φ c) (ψ c)) (Builtin.bitXor (T - 1) H) + Builtin.bitXor (T - 1) H ∧ Builtin.bitAnd (Builtin.bitXor (φ c) (ψ c)) (Builtin.bitXor (T - 1) H) + Builtin.bitXor (T - 1) H < T
    rw [eR, i]
    have r : 0 ≤ Builtin.bitXor (φ c) (ψ c) ∧ Builtin.bitXor (φ c) (ψ c) < T := r
    split <;> omega
  have ho := lrw hT bw_or hs hx
  have hno := LR.not ho
  rw [lanes_full hT hH, lbw hT bw_xor h h', lbw hT bw_xor hf hh, lbw hT bw_and hx hr, lanes_add, lbw hT bw_or hs hx, lanes_not, lbw hT bw_and hh hno]
  rw [show Builtin.bitAnd 0 (Builtin.bitNot (Builtin.bitOr (Builtin.bitAnd (Builtin.bitXor 0 0) (Builtin.bitXor 0 0) + Builtin.bitXor 0 0) (Builtin.bitXor 0 0))) = 0 by decide]
  exact lanes_cg fun c hc => lane_same hT hH (h c hc).1 (h c hc).2 (h' c hc).1 (h' c hc).2
theorem lr_if {P : α → Prop} [DecidablePred P] : LR T cs (fun c => if P c then T - 1 else 0) := fun c _ => by
  have := lane_TH hT hH
  show 0 ≤ (if P c then T - 1 else 0) ∧ (if P c then T - 1 else 0) < T
  split <;> omega
theorem row_max (h : LR T cs φ) (h' : LR T cs ψ) : Builtin.bitOr (Builtin.bitAnd (lanes T cs ψ 0) (lanes T cs (fun c => if φ c < ψ c then T - 1 else 0) 0)) (Builtin.bitAnd (lanes T cs φ 0) (Builtin.bitNot (lanes T cs (fun c => if φ c < ψ c then T - 1 else 0) 0))) = lanes T cs (fun c => max (φ c) (ψ c)) 0 := by
  have hm := lr_if hT hH (cs := cs) (P := fun c => φ c < ψ c)
  have hn := LR.not hm
  rw [lbw hT bw_and h' hm, lanes_not, lbw hT bw_and h hn, lbw hT bw_or (lrw hT bw_and h' hm) (lrw hT bw_and h hn)]
  rw [show Builtin.bitOr (Builtin.bitAnd 0 0) (Builtin.bitAnd 0 (Builtin.bitNot 0)) = 0 by decide]
  exact lanes_cg fun c hc => lane_max hT hH (h c hc).1 (h c hc).2 (h' c hc).1 (h' c hc).2
theorem row_min (h : LR T cs φ) (h' : LR T cs ψ) : Builtin.bitOr (Builtin.bitAnd (lanes T cs φ 0) (lanes T cs (fun c => if φ c < ψ c then T - 1 else 0) 0)) (Builtin.bitAnd (lanes T cs ψ 0) (Builtin.bitNot (lanes T cs (fun c => if φ c < ψ c then T - 1 else 0) 0))) = lanes T cs (fun c => min (φ c) (ψ c)) 0 := by
  have hm := lr_if hT hH (cs := cs) (P := fun c => φ c < ψ c)
  have hn := LR.not hm
  rw [lbw hT bw_and h hm, lanes_not, lbw hT bw_and h' hn, lbw hT bw_or (lrw hT bw_and h hm) (lrw hT bw_and h' hn)]
  rw [show Builtin.bitOr (Builtin.bitAnd 0 0) (Builtin.bitAnd 0 (Builtin.bitNot 0)) = 0 by decide]
  exact lanes_cg fun c hc => lane_min hT hH (h c hc).1 (h c hc).2 (h' c hc).1 (h' c hc).2
theorem row_mix (h : LR T cs φ) (h' : LR T cs ψ) : Builtin.bitXor (lanes T cs φ 0) (Builtin.bitAnd (Builtin.bitXor (lanes T cs ψ 0) (lanes T cs φ 0)) (lanes T cs (fun c => if φ c < ψ c then T - 1 else 0) 0)) = lanes T cs (fun c => max (φ c) (ψ c)) 0 := by
  have hm := lr_if hT hH (cs := cs) (P := fun c => φ c < ψ c)
  have hx := lrw hT bw_xor h' h
  rw [lbw hT bw_xor h' h, lbw hT bw_and hx hm, lbw hT bw_xor h (lrw hT bw_and hx hm)]
  rw [show Builtin.bitXor 0 (Builtin.bitAnd (Builtin.bitXor 0 0) 0) = 0 by decide]
  exact lanes_cg fun c hc => lane_mix hT hH (h c hc).1 (h c hc).2 (h' c hc).1 (h' c hc).2
theorem row_stop (h : LR T cs φ) (h' : LR T cs ψ) : Builtin.bitOr (lanes T cs (fun c => (φ c + ψ c) % T) 0) (lanes T cs (fun c => if (φ c + ψ c) % T < φ c then T - 1 else 0) 0) = lanes T cs (fun c => min (T - 1) (φ c + ψ c)) 0 := by
  have := lane_TH hT hH
  have hm := lr_if hT hH (cs := cs) (P := fun c => (φ c + ψ c) % T < φ c)
  have hr : LR T cs (fun c => (φ c + ψ c) % T) := fun c _ => emod_rng _ (by omega)
  rw [lbw hT bw_or hr hm]
  rw [show Builtin.bitOr 0 0 = 0 by decide]
  exact lanes_cg fun c hc => lane_stop hT hH (h c hc).1 (h c hc).2 (h' c hc).1 (h' c hc).2
end
/-! ### the lanes of words -/
theorem zip_fst : ∀ {as bs : List Int}, as.length = bs.length → (as.zip bs).map (·.1) = as
  | [], _, _ => by simp
  | a :: as, [], h => by simp at h
  | a :: as, b :: bs, h => by simp [zip_fst (as := as) (bs := bs) (by simpa using h)]
theorem zip_snd : ∀ {as bs : List Int}, as.length = bs.length → (as.zip bs).map (·.2) = bs
  | [], [], _ => by simp
  | [], b :: bs, h => by simp at h
  | a :: as, [], h => by simp at h
  | a :: as, b :: bs, h => by simp [zip_snd (as := as) (bs := bs) (by simpa using h)]
theorem zip_P : ∀ (as bs : List Int), zipP (as.map PV.int) (bs.map .int) = (as.zip bs).map fun c => .tup [.int c.1, .int c.2]
  | [], _ => by simp [zipP]
  | a :: as, [] => by simp [zipP]
  | a :: as, b :: bs => by simp [zipP, zip_P as bs]
theorem lanes_digs {T x : Int} {n : Nat} (hT : 0 < T) (x0 : 0 ≤ x) (x1 : x < T ^ n) : val T (digs T x n) = x := by
  rw [val_digs hT, Int.emod_eq_of_lt x0 x1]
/-- a width of so many lanes -/
structure Sh (w l : Int) (n k : Nat) : Prop where
  hl : l = k + 1
  hk : 1 ≤ k
  hw : w = l * n
  hn : 1 ≤ n
  h64 : w ≤ 64
theorem Sh.w2 {w l : Int} {n k : Nat} (h : Sh w l n k) : l ≤ w ∧ 2 ≤ l ∧ w.toNat = (k + 1) * n := by
  obtain ⟨rfl, hk, rfl, hn, h64⟩ := h
  have : ((k : Int) + 1) * 1 ≤ ((k : Int) + 1) * n := Int.mul_le_mul_of_nonneg_left (by omega) (by omega)
  refine ⟨by omega, by omega, ?_⟩
  have e : ((k : Int) + 1) * n = (((k + 1) * n : Nat) : Int) := by push_cast; rfl
  rw [e, Int.toNat_natCast]
theorem Sh.pw {w l : Int} {n k : Nat} (h : Sh w l n k) : (2 : Int) ^ w.toNat = (2 ^ (k + 1)) ^ n := by
  rw [h.w2.2.2, pow_mul']
theorem Sh.t2 {w l : Int} {n k : Nat} (h : Sh w l n k) : (2 : Int) ^ l.toNat = 2 ^ (k + 1) := by
  have := h.hl
  congr 1
  omega
end PF

set_option Elab.async false
set_option linter.all false
set_option maxRecDepth 100000
namespace PF
open PySem L2
/-! ## the places of lanes -/
theorem rng_small : ∀ w : Fin 65, ∀ l : Fin 65, 2 ≤ l.val → w.val % l.val = 0 → okC 0 (w.val : Int) (l.val : Int) = true ∧ sizeC 0 (w.val : Int) (l.val : Int) = w.val / l.val := by decide +kernel
theorem rng_lanes {w l : Int} {n k : Nat} (h : Sh w l n k) : pRng3 [.int 0, .int w, .int l] = some ((List.range n).map fun j : Nat => PV.int (l * (j : Int))) := by
  have ⟨w1, w2, w3⟩ := h.w2
  have h64 := h.h64
  have hl : l = ((k + 1 : Nat) : Int) := h.hl
  have hw : w = (((k + 1) * n : Nat) : Int) := by rw [h.hw, hl]; push_cast; rfl
  have b1 : (k + 1) * n < 65 := by omega
  have b2 : k + 1 < 65 := by omega
  have := rng_small ⟨(k + 1) * n, b1⟩ ⟨k + 1, b2⟩ (by have := h.hk; show 2 ≤ k + 1; omega) (by show (k + 1) * n % (k + 1) = 0; simp)
  simp only at this
  rw [← hl, ← hw, Nat.mul_div_cancel_left _ (by omega)] at this
  rw [pRng3_i, if_pos this.1, this.2]
  unfold rngC
  congr 2
  funext j
  congr 1
  rw [Int.mul_comm]
  omega
/-- a comprehension over places -/
theorem lcL_at {g : Tg} {e : E} {vs : List Nat} (p : Nat → PV) (f : Nat → PV) (ρ0 : PF.Env) (n : Nat) (hn : n ≤ 1000000) (st : ∀ j, j < n → ∃ ρ1 ρ2, g (p j) ρ0 = some ρ1 ∧ e ρ1 = .ok (f j) ρ2 ∧ wipeE ρ2 vs = ρ0) : lcL g tYesD e vs ((List.range n).map p) [] ρ0 = .ok ((List.range n).map f) ρ0 := by
  have key : ∀ (js : List Nat) (acc : List PV), acc.length + js.length ≤ 16777216 → (∀ j ∈ js, j < n) → lcL g tYesD e vs (js.map p) acc ρ0 = .ok (acc ++ js.map f) ρ0 := by
    intro js
    induction js with
    | nil => intro acc _ _; simp [lcL]
    | cons j js ih =>
      intro acc hl hj
      obtain ⟨ρ1, ρ2, e1, e2, h2⟩ := st j (hj j List.mem_cons_self)
      rw [List.map_cons]
      unfold lcL
      rw [e1]
      simp only [tYesD, noX, bind_ok, e2]
      rw [if_pos (by simp only [List.length_cons] at hl; show acc.length < 16777216; omega), h2, ih (acc ++ [f j]) (by simp at hl ⊢; omega) fun y hy => hj y (List.mem_cons_of_mem _ hy)]
      simp
  have := key (List.range n) [] (by simp; omega) (fun j hj => List.mem_range.mp hj)
  simpa using this
/-- the parts of a word -/
theorem part_at {w l : Int} {n k : Nat} (h : Sh w l n k) {x : Int} (x0 : 0 ≤ x) (j : Nat) : pShr (.int x) (.int (l * (j : Int))) = some (.int (x / (2 ^ (k + 1)) ^ j)) ∧ Builtin.bitAnd (x / (2 ^ (k + 1)) ^ j) (2 ^ (k + 1) - 1) = dig (2 ^ (k + 1)) x j := by
  have hl : l = ((k + 1 : Nat) : Int) := h.hl
  have e : l * (j : Int) = (((k + 1) * j : Nat) : Int) := by rw [hl]; push_cast; rfl
  refine ⟨?_, ?_⟩
  · rw [pShr_i (by omega), e, Int.toNat_natCast, pow_mul']
  · exact bitAnd_mask (Int.ediv_nonneg x0 (Int.le_of_lt (Int.pow_pos (two_pos _))))
/-- numbers at places put together -/
def atI' (T : Int) : Nat → List Int → List Int
  | _, [] => []
  | s, a :: as => a * T ^ s :: atI' T (s + 1) as
theorem atI_sum (T : Int) : ∀ (as : List Int) (s : Nat), (atI' T s as).sum = T ^ s * val T as
  | [], s => by simp [atI', val]
  | a :: as, s => by
    simp only [atI', List.sum_cons, val, atI_sum T as (s + 1), Int.pow_succ]
    grind
theorem lcL_places {g : Tg} {e : E} {vs : List Nat} (T : Int) (ρ0 : PF.Env) (q : Int → Int) : ∀ (as : List Int) (s : Nat) (acc : List Int), acc.length + as.length ≤ 1000000 → (∀ (j : Nat) a, a ∈ as → j < s + as.length → ∃ ρ1 ρ2, g (.tup [.int (j : Nat), .int a]) ρ0 = some ρ1 ∧ e ρ1 = .ok (.int (q a * T ^ j)) ρ2 ∧ wipeE ρ2 vs = ρ0) → lcL g tYesD e vs (enumP s (as.map .int)) (acc.map .int) ρ0 = .ok ((acc ++ atI' T s (as.map q)).map .int) ρ0
  | [], s, acc, _, _ => by simp [enumP, lcL, atI']
  | a :: as, s, acc, hl, st => by
    obtain ⟨ρ1, ρ2, e1, e2, h2⟩ := st s a List.mem_cons_self (by simp)
    rw [List.map_cons, enumP]
    unfold lcL
    rw [e1]
    simp only [tYesD, noX, bind_ok, e2]
    have := lcL_places T ρ0 q as (s + 1) (acc ++ [q a * T ^ s]) (by simp at hl ⊢; omega) fun j b hb hj => st j b (List.mem_cons_of_mem _ hb) (by simp; omega)
    rw [if_pos (by simp only [List.length_cons, List.length_map] at hl ⊢; show acc.length < 16777216; omega), h2]
    rw [List.map_append, List.map_cons, List.map_nil] at this
    rw [this]
    simp [atI']
theorem sum_places (T : Int) (as : List Int) : pSum (.lst ((atI' T 0 as).map .int)) = some (.int (val T as)) := by
  have e := intsOf_fn (fun n : Int => n) (atI' T 0 as)
  simp only [pSum]
  rw [e]
  simp [atI_sum]
/-! ## halves of sums; lanes moved up; words mixed -/
theorem row_half {α : Type} {k : Nat} {T H : Int} (hT : T = 2 ^ (k + 1)) (hH : H = 2 ^ k) : ∀ {cs : List α} {ξ : α → Int}, LR T cs ξ → Builtin.bitAnd (lanes T cs ξ 0 / 2) (Builtin.bitNot (lanes T cs (fun _ => H) 0)) = lanes T cs (fun c => ξ c / 2) 0
  | [], ξ, _ => by simp [lanes_nil]; decide
  | c :: cs, ξ, h => by
    obtain ⟨h1, h2⟩ := lane_TH hT hH
    have ih := row_half hT hH (cs := cs) (ξ := ξ) fun d hd => h d (List.mem_cons_of_mem _ hd)
    have hc := h c List.mem_cons_self
    rw [lanes_cons, lanes_cons, lanes_cons, ← ih]
    generalize lanes T cs ξ 0 = X at *
    generalize lanes T cs (fun _ => H) 0 = Y at *
    have e1 : (ξ c + T * X) / 2 = (ξ c / 2 + H * (X % 2)) + T * (X / 2) := by
      have : ξ c + T * X = ξ c + 2 * (H * X) := by rw [h1]; grind
      rw [this, Int.add_mul_ediv_left _ _ (by omega)]
      have q := Int.mul_ediv_add_emod X 2
      have : H * X = H * (X % 2) + T * (X / 2) := by
        rw [h1]
        generalize X / 2 = Q at *
        generalize X % 2 = R at *
        rw [← q]
        grind
      omega
    have e2 : Builtin.bitNot (H + T * Y) = (T - 1 - H) + T * Builtin.bitNot Y := by unfold Builtin.bitNot; grind
    have r2 : X % 2 = 0 ∨ X % 2 = 1 := by omega
    have ra : 0 ≤ ξ c / 2 + H * (X % 2) ∧ ξ c / 2 + H * (X % 2) < T := by rcases r2 with r | r <;> rw [r] <;> omega
    have sp := bw_and.split (k + 1) (X / 2) (Builtin.bitNot Y) (a := ξ c / 2 + H * (X % 2)) (b := T - 1 - H) ra.1 (by rw [← hT]; exact ra.2) (by omega) (by rw [← hT]; omega)
    rw [← hT] at sp
    rw [e1, e2, sp.1, low_if hT hH ra.1 ra.2]
    congr 1
    rcases r2 with r | r <;> rw [r] <;> split <;> omega
theorem lane_mid {a b : Int} (a0 : 0 ≤ a) (b0 : 0 ≤ b) : Builtin.bitAnd a b + Builtin.bitXor a b / 2 = (a + b) / 2 := by
  have h := bit_or_and a0 b0
  unfold Builtin.bitXor
  omega
theorem row_mid {α : Type} {k : Nat} {T H : Int} (hT : T = 2 ^ (k + 1)) (hH : H = 2 ^ k) {cs : List α} {φ ψ : α → Int} (h : LR T cs φ) (h' : LR T cs ψ) : Builtin.bitAnd (lanes T cs φ 0) (lanes T cs ψ 0) + Builtin.bitAnd (Builtin.bitXor (lanes T cs φ 0) (lanes T cs ψ 0) / 2) (Builtin.bitNot (lanes T cs (fun _ => H) 0)) = lanes T cs (fun c => (φ c + ψ c) / 2) 0 := by
  rw [lbw hT bw_and h h', lbw hT bw_xor h h', show Builtin.bitXor 0 0 = 0 by decide, row_half hT hH (lrw hT bw_xor h h'), lanes_add]
  rw [show Builtin.bitAnd 0 0 + 0 = 0 by decide]
  exact lanes_cg fun c hc => lane_mid (h c hc).1 (h' c hc).1
theorem row_up {α : Type} {k s : Nat} {T : Int} (hT : T = 2 ^ (k + 1)) (hs : s ≤ k) : ∀ {cs : List α} {φ : α → Int} {c : Int}, LR T cs φ → 0 ≤ c → c < 2 ^ s → Builtin.bitAnd (lanes T cs φ 0 * 2 ^ s + c) (lanes T cs (fun _ => T - 2 ^ s) 0) = lanes T cs (fun d => φ d * 2 ^ s % T) 0
  | [], φ, c, _, c0, c1 => by
    simp only [lanes_nil, Int.zero_mul, Int.zero_add]
    exact and_zero c c0
  | d :: ds, φ, c, h, c0, c1 => by
    have hd := h d List.mem_cons_self
    have sp := two_pos s
    have sT : (2 : Int) ^ s * 2 ^ (k + 1 - s) = T := by rw [hT, ← Int.pow_add]; congr 1; omega
    have sP := two_pos (k + 1 - s)
    have q := Int.mul_ediv_add_emod (φ d * 2 ^ s) T
    have r := emod_rng (φ d * 2 ^ s) (show 0 < T by rw [hT]; exact two_pos _)
    -- the low part is a multiple
    have lo : φ d * 2 ^ s % T = 2 ^ s * (φ d % 2 ^ (k + 1 - s)) := by
      rw [← sT, Int.mul_comm (φ d), Int.mul_emod_mul_of_pos _ _ sp]
    have hi0 : 0 ≤ φ d * 2 ^ s / T := Int.ediv_nonneg (Int.mul_nonneg hd.1 (Int.le_of_lt sp)) (by omega)
    have hi1 : φ d * 2 ^ s / T < 2 ^ s := Int.ediv_lt_of_lt_mul (by omega) (by
      rw [Int.mul_comm (2 ^ s) T]
      exact Int.mul_lt_mul_of_pos_right hd.2 sp)
    have ih := row_up hT hs (cs := ds) (φ := φ) (c := φ d * 2 ^ s / T) (fun e he => h e (List.mem_cons_of_mem _ he)) hi0 hi1
    have e1 : (φ d + T * lanes T ds φ 0) * 2 ^ s + c = (c + φ d * 2 ^ s % T) + T * (lanes T ds φ 0 * 2 ^ s + φ d * 2 ^ s / T) := by
      generalize φ d * 2 ^ s / T = Q at *
      generalize φ d * 2 ^ s % T = R at *
      have : φ d * 2 ^ s = T * Q + R := by omega
      have e : (φ d + T * lanes T ds φ 0) * 2 ^ s = φ d * 2 ^ s + T * (lanes T ds φ 0 * 2 ^ s) := by grind
      rw [e, this]
      grind
    have rm := emod_rng (φ d) sP
    have b1 : 2 ^ s * (φ d % 2 ^ (k + 1 - s)) ≤ 2 ^ s * (2 ^ (k + 1 - s) - 1) := Int.mul_le_mul_of_nonneg_left (by omega) (Int.le_of_lt sp)
    have b2 : (2 : Int) ^ s * (2 ^ (k + 1 - s) - 1) = T - 2 ^ s := by rw [Int.mul_sub, sT, Int.mul_one]
    have b0 : 0 ≤ 2 ^ s * (φ d % 2 ^ (k + 1 - s)) := Int.mul_nonneg (Int.le_of_lt sp) rm.1
    have tt : 0 ≤ T - 2 ^ s := by rw [← b2]; exact Int.mul_nonneg (Int.le_of_lt sp) (by omega)
    have sl := bw_and.split (k + 1) (lanes T ds φ 0 * 2 ^ s + φ d * 2 ^ s / T) (lanes T ds (fun _ => T - 2 ^ s) 0) (a := c + φ d * 2 ^ s % T) (b := T - 2 ^ s) (by omega) (by rw [← hT, lo]; omega) tt (by rw [← hT]; omega)
    rw [← hT] at sl
    rw [lanes_cons, lanes_cons, lanes_cons, e1, sl.1, ih]
    congr 1
    have s2 := bw_and.split s (φ d % 2 ^ (k + 1 - s)) (2 ^ (k + 1 - s) - 1) (a := c) (b := 0) c0 c1 (by omega) sp
    rw [Int.zero_add, b2, ← lo, and_zero c c0, bitAnd_mask rm.1, Int.emod_emod, Int.zero_add, ← lo] at s2
    exact s2.1
theorem mix_law : ∀ (w : Nat) {a b m : Int}, 0 ≤ a → a < 2 ^ w → 0 ≤ b → b < 2 ^ w → 0 ≤ m → m < 2 ^ w → Builtin.bitXor b (Builtin.bitAnd (Builtin.bitXor a b) m) = Builtin.bitOr (Builtin.bitAnd a m) (Builtin.bitAnd b (2 ^ w - 1 - m))
  | 0, a, b, m, a0, a1, b0, b1, m0, m1 => by
    have ea : a = 0 := by simp at a1; omega
    have eb : b = 0 := by simp at b1; omega
    have em : m = 0 := by simp at m1; omega
    subst ea
    subst eb
    subst em
    decide
  | w + 1, a, b, m, a0, a1, b0, b1, m0, m1 => by
    have e : (2 : Int) ^ (w + 1) = 2 * 2 ^ w := by rw [Int.pow_succ, Int.mul_comm]
    rw [e] at a1 b1 m1 ⊢
    have ih := mix_law w (a := a / 2) (b := b / 2) (m := m / 2) (by omega) (by omega) (by omega) (by omega) (by omega) (by omega)
    have hK : (2 * 2 ^ w - 1 - m) / 2 = 2 ^ w - 1 - m / 2 := by omega
    have oK : (2 * 2 ^ w - 1 - m) % 2 = 1 - m % 2 := by omega
    have t1 := xor_step a b
    have t2 := and_step (Builtin.bitXor a b) m
    have t3 := xor_step b (Builtin.bitAnd (Builtin.bitXor a b) m)
    have t4 := and_step a m
    have t5 := and_step b (2 * 2 ^ w - 1 - m)
    have t6 := or_step (Builtin.bitAnd a m) (Builtin.bitAnd b (2 * 2 ^ w - 1 - m))
    have x1 : Builtin.bitXor a b / 2 = Builtin.bitXor (a / 2) (b / 2) := by omega
    have x1' : Builtin.bitXor a b % 2 = (a % 2 + b % 2) % 2 := by omega
    rw [x1, x1'] at t2
    have x2 : Builtin.bitAnd (Builtin.bitXor a b) m / 2 = Builtin.bitAnd (Builtin.bitXor (a / 2) (b / 2)) (m / 2) := by omega
    have x2' : Builtin.bitAnd (Builtin.bitXor a b) m % 2 = min ((a % 2 + b % 2) % 2) (m % 2) := by omega
    rw [x2, x2'] at t3
    rw [hK, oK] at t5
    have x4 : Builtin.bitAnd a m / 2 = Builtin.bitAnd (a / 2) (m / 2) := by omega
    have x4' : Builtin.bitAnd a m % 2 = min (a % 2) (m % 2) := by omega
    have x5 : Builtin.bitAnd b (2 * 2 ^ w - 1 - m) / 2 = Builtin.bitAnd (b / 2) (2 ^ w - 1 - m / 2) := by omega
    have x5' : Builtin.bitAnd b (2 * 2 ^ w - 1 - m) % 2 = min (b % 2) (1 - m % 2) := by omega
    rw [x4, x4', x5, x5'] at t6
    rw [t3, t6, ih]
    omega
end PF

set_option Elab.async false
set_option linter.all false
set_option maxRecDepth 100000
namespace PF
open PySem PySem.Spec PyProof.Rows L2
/-! ## x, y = a list -/
def gTL (n : Nat) (gs : Tgs) : Tg := fun p ρ => match p with
  | .lst ps => if ps.length = n then gs ps ρ else none
  | _ => none
theorem g_tL {X : Cx} {G : Gam} {es : List Expr} {pos : Pos} {gs : Tgs} {n kk : Nat} {vs : List Nat} (C : X.calm = true) (hK : G.k.K = X.K) (h : GsOk X G vs es gs) (hn : (assignEach es X.env).length = n := by rfl) (hst : (assignEach es X.env).findIdx? (·.1) = none := by rfl) : GOk X G vs (.Tuple es kk pos) (gTL n gs) :=
  pg_weak (pg_lst C h hn hst) fun v σ H Q ⟨S, ρ, q, ρ', R, r, e, k⟩ => by
    cases q <;> try cases e
    rename_i ps
    unfold gTL at e
    simp only at e
    split at e
    · rename_i hl
      simp only [Rep] at r
      obtain ⟨l, us, rfl, h1, h2⟩ := r
      exact ⟨l, us, rfl, by rw [← hK]; exact .of (R.sub _ _ h1), by rw [← h2.len]; exact hl, S, ρ, ps, ρ', R, h2, e, k⟩
    · cases e
@[simp] theorem gTL_e {n : Nat} {g : Tgs} {ps : List PV} {ρ : PF.Env} : gTL n g (.lst ps) ρ = if ps.length = n then g ps ρ else none := rfl
end PF

set_option Elab.async false
set_option linter.all false
set_option maxRecDepth 100000
namespace PF
open PySem PySem.Spec PyProof.Rows L2
/-! ## repr of a flag -/
def rReprB (_ : PySem.W.Frag) : List V → Hp → VK → Prop := fun xs H Q => ∃ b, xs = [V.bl b] ∧ Q (.str (if b then "True" else "False")) H
theorem cr_reprB {X : Cx} : CallR X (.builtin "repr") (rReprB X.K) := by
  intro pins s σ H xs us Q I r h
  obtain ⟨b, rfl, q⟩ := h
  obtain ⟨u, rfl, t⟩ := vals1 r
  cases t
  exact PySem.P.repr_of_bool ⟨.str _, H, I.tok _, ⟨_, rfl⟩, q⟩
def pReprB : PV → Option PV
  | .bl b => some (.str (if b then "True" else "False"))
  | _ => none
theorem o_reprB : Op1 pReprB rReprB := by
  intro k S H p z x Q e rx h q1
  cases p <;> simp only [pReprB] at h <;> cases h
  rename_i b
  rcases rx with rx | ⟨ps, a, us, h1, _⟩
  · have : x = V.bl b := by simpa only [Rep] using rx
    subst this
    exact ⟨b, rfl, q1 _ S H (.refl e) (by simp only [Rep])⟩
  · cases h1
section
variable {X : Cx} {M : Mo} {N : List Str} {sc : Scope} {wr : Nat → Bool} {j : Nat} {G : Gam} {W : WX} {a : Expr} {da : E} {p pos : Pos}
theorem b_repr (B : Bd X M N sc wr j G W) (Y : Blt M) (h : BOk X G W a da) (hg : sc.names.lookup ("repr" : Str) = some .globalImplicit := by kernel_rfl) (hs : starEach [a] X.env = (false, eval a X.env) :: starEach [] X.env := by rfl) : EOk X G W (.Call (.Name "repr" p) [a] [] pos) (dUn pReprB da) :=
  e_b1 B.ct o_reprB (pe_callB cr_reprB (B.gl hg) (B.non (Y.at (by kernel_rfl))) (by decide +kernel) (pa_cons h pa_nil hs) (by decide) (by decide) hs rfl)
end
@[simp] theorem pReprB_e {b : Bool} : pReprB (.bl b) = some (.str (if b then "True" else "False")) := rfl
end PF

set_option Elab.async false
set_option linter.all false
set_option maxRecDepth 100000
namespace PF
open PySem PySem.Spec PyProof.Rows L2
open PySem.W (AlikeAll minD min_list_data dataLt alike readsAll_atA)
/-! ## min of a list of alike data -/
theorem vals_at : ∀ {xs : List V} {us : List Value} {i : Nat} {u : Value}, Vals xs us → us[i]? = some u → ∃ x, xs[i]? = some x ∧ RelV x u
  | _, _, _, _, .nil, e => by simp at e
  | _, _, 0, _, .cons r _, e => by simp at e; subst e; exact ⟨_, rfl, r⟩
  | _, _, i + 1, u, .cons _ t, e => by
    obtain ⟨x, h1, h2⟩ := vals_at (i := i) (u := u) t (by simpa using e)
    exact ⟨x, by simpa using h1, h2⟩
def rMinD (K : PySem.W.Frag) : List V → Hp → VK → Prop := fun vs H Q => ∃ (a : Addr) (us : List V) (d : PyData) (ds : List PyData), vs = [V.ref a] ∧ SqL K H a us ∧ DpAll K H us (d :: ds) ∧ AlikeAll (d :: ds) ∧ PyData.depthAll (d :: ds) ≤ 60 ∧
  ∀ (i : Nat) (v : V), us[i]? = some v → (d :: ds)[i]? = some (minD d ds) → Q v H
theorem cr_minD {X : Cx} (hc : X.calm = true) (hu : X.A.units + 65 < cLine) : CallR X (.builtin "min") (rMinD X.K) := by
  intro pins s σ H vs us Q I r h
  obtain ⟨a, xs, d, ds, rfl, hs, hd, ha, hz, q⟩ := h
  obtain ⟨its, rv, hl, _⟩ := I.list hs
  rw [Vals.ref1 r]
  obtain ⟨as, hr⟩ := Dp.readsAll I (d :: ds) xs its hd rv
  have hr' : ReadsAll s.heap its.toArray.toList (d :: ds) as := by simpa using hr
  refine min_list_data (I.ok.hd hc) hl.isList hr' ha (by omega) fun i v h' tk bs hv rd hk => ?_
  obtain ⟨x, hx, rx⟩ := vals_at rv (by simpa using hv)
  obtain ⟨cs, r2, hi, _, _⟩ := readsAll_atA hr' i v hv
  have e := (PyProof.Rows.reads_det (fun b o e _ => hk b o e) r2 rd).1
  refine ⟨x, H, I.kept hk, rx, q i x hx ?_⟩
  rw [e]
  rw [List.getD_eq_getElem?_getD, List.getElem?_eq_getElem hi]
  rfl
/-- the first of the least -/
def minP : PV → List PV → PV
  | p, [] => p
  | p, q :: r => minP (if dataLt (toD q) (toD p) then q else p) r
theorem minP_mem : ∀ (ps : List PV) (p : PV), minP p ps ∈ p :: ps
  | [], p => by simp [minP]
  | q :: r, p => by
    unfold minP
    have := minP_mem r (if dataLt (toD q) (toD p) then q else p)
    rcases List.mem_cons.mp this with h | h
    · rw [h]; split <;> simp
    · simp [h]
theorem minP_toD : ∀ (ps : List PV) (p : PV), toD (minP p ps) = minD (toD p) (toDs ps)
  | [], p => rfl
  | q :: r, p => by
    unfold minP
    rw [minP_toD r]
    show minD _ _ = List.foldl _ _ (toD q :: toDs r)
    rw [List.foldl_cons]
    unfold minD
    congr 1
    by_cases h : dataLt (toD q) (toD p) = true
    · rw [if_pos h, if_pos h]
    · rw [if_neg h, if_neg h]
mutual
theorem toD_inj : ∀ (p q : PV), dep p < 100 → dep q < 100 → toD p = toD q → p = q
  | .non, q, _, hq, h => by cases q <;> simp_all [toD, dep]
  | .bl b, q, _, hq, h => by cases q <;> simp_all [toD, dep]
  | .int i, q, _, hq, h => by cases q <;> simp_all [toD, dep]
  | .str x, q, _, hq, h => by cases q <;> simp_all [toD, dep]
  | .tup xs, q, hp, hq, h => by
    cases q with
    | tup ys =>
      simp only [toD, PyData.tuple.injEq] at h
      simp only [dep] at hp hq
      rw [toDs_inj xs ys (by omega) (by omega) h]
    | _ => simp_all [toD, dep]
  | .lst xs, q, hp, hq, h => by
    cases q with
    | lst ys =>
      simp only [toD, PyData.list.injEq] at h
      simp only [dep] at hp hq
      rw [toDs_inj xs ys (by omega) (by omega) h]
    | _ => simp_all [toD, dep]
  | .fn _, _, hp, _, _ => by simp [dep] at hp
  | .dic _ _, _, hp, _, _ => by simp [dep] at hp
  | .scr _, _, hp, _, _ => by simp [dep] at hp
theorem toDs_inj : ∀ (ps qs : List PV), deps ps < 100 → deps qs < 100 → toDs ps = toDs qs → ps = qs
  | [], [], _, _, _ => rfl
  | [], _ :: _, _, _, h => by simp [toDs] at h
  | _ :: _, [], _, _, h => by simp [toDs] at h
  | p :: ps, q :: qs, hp, hq, h => by
    simp only [deps] at hp hq
    simp only [toDs, List.cons.injEq] at h
    rw [toD_inj p q (by omega) (by omega) h.1, toDs_inj ps qs (by omega) (by omega) h.2]
end
theorem toDs_at : ∀ (ps : List PV) (i : Nat), (toDs ps)[i]? = ps[i]?.map toD
  | [], i => by simp [toDs]
  | p :: ps, 0 => by simp [toDs]
  | p :: ps, i + 1 => by simpa [toDs] using toDs_at ps i
theorem reps_at {k : Kx} {S : Hp} : ∀ {ps : List PV} {us : List V} {i : Nat} {u : V}, Reps k S ps us → us[i]? = some u → ∃ p, ps[i]? = some p ∧ Rep k S p u
  | [], us, i, u, h, e => by simp only [Reps] at h; subst h; simp at e
  | p :: ps, us, i, u, h, e => by
    simp only [Reps] at h
    obtain ⟨v, r, rfl, h1, h2⟩ := h
    cases i with
    | zero => simp at e; subst e; exact ⟨p, rfl, h1⟩
    | succ i => exact reps_at (i := i) h2 (by simpa using e)
def isNon : PyData → Bool
  | .none => true
  | _ => false
def alikeP (ps : List PV) : Bool := (toDs ps).all (fun x => (toDs ps).all fun y => alike x y) && (toDs ps).all fun x => !isNon x
theorem alikeP_all {ps : List PV} (h : alikeP ps = true) : AlikeAll (toDs ps) := by
  unfold alikeP at h
  rw [Bool.and_eq_true] at h
  refine ⟨fun x hx y hy => ?_, fun x hx e => ?_⟩
  · exact List.all_eq_true.mp (List.all_eq_true.mp h.1 x hx) y hy
  · have := List.all_eq_true.mp h.2 x hx
    rw [e] at this
    simp [isNon] at this
def pMinD : PV → Option PV
  | .lst (p :: ps) => if deps (p :: ps) ≤ 59 ∧ alikeP (p :: ps) = true then some (minP p ps) else none
  | _ => none
theorem depthAll_toDs : ∀ (ps : List PV), deps ps < 100 → PyData.depthAll (toDs ps) ≤ deps ps
  | [], _ => by simp [toDs, PyData.depthAll]
  | p :: ps, h => by
    simp only [deps] at h
    have h1 := (lay_toD p (by omega)).2
    have h2 := depthAll_toDs ps (by omega)
    simp only [toDs, PyData.depthAll, deps]
    omega
theorem o_minD : Op1 pMinD rMinD := by
  intro k S H p z x Q e rx h q1
  match p, h with
  | .lst (p :: ps), h =>
    simp only [pMinD] at h
    by_cases c : deps (p :: ps) ≤ 59 ∧ alikeP (p :: ps) = true
    · rw [if_pos c] at h; cases h
      obtain ⟨a, us, rfl, h1, r⟩ := repB_lst e rx
      have dp := dps_of e (p :: ps) us (by omega) r
      refine ⟨a, us, toD p, toDs ps, rfl, .of h1, dp, alikeP_all c.2, ?_, fun i v hv hm => ?_⟩
      · have := depthAll_toDs (p :: ps) (by omega)
        simp only [toDs] at this
        omega
      · obtain ⟨y, hy, ry⟩ := reps_at r hv
        have ht : (toDs (p :: ps))[i]? = some (minD (toD p) (toDs ps)) := hm
        rw [toDs_at, hy] at ht
        simp only [Option.map_some, Option.some.injEq] at ht
        rw [← minP_toD] at ht
        have hd := fun {z : PV} (hz : z ∈ p :: ps) => deps_get hz
        have hym : y ∈ p :: ps := List.mem_of_getElem? hy
        have e2 : y = minP p ps := toD_inj _ _ (by have := hd hym; omega) (by have := hd (minP_mem ps p); omega) ht
        exact q1 v S H (.refl e) (by rw [← e2]; exact ry)
    · rw [if_neg c] at h; cases h
def rMinA (K : PySem.W.Frag) : List V → Hp → VK → Prop := fun vs H Q => rMin K vs H Q ∨ rMinD K vs H Q
theorem cr_minA {X : Cx} (hc : X.calm = true) (hu : X.A.units + 65 < cLine) : CallR X (.builtin "min") (rMinA X.K) := by
  intro pins s σ H vs us Q I r h
  rcases h with h | h
  · exact cr_min hc pins s σ H vs us Q I r h
  · exact cr_minD hc hu pins s σ H vs us Q I r h
/-- of ints, or of alike data -/
def pMinA (p : PV) : Option PV := match pMin1 p with
  | some z => some z
  | none => pMinD p
theorem pMinA_1 {p z : PV} (h : pMin1 p = some z) : pMinA p = some z := by unfold pMinA; rw [h]
theorem o_minA : Op1 pMinA rMinA := by
  intro k S H p z x Q e rx h q1
  unfold pMinA at h
  cases c : pMin1 p with
  | some y =>
    rw [c] at h
    cases h
    exact .inl (o_min1 k S H p z x Q e rx c q1)
  | none =>
    rw [c] at h
    exact .inr (o_minD k S H p z x Q e rx h q1)
section
variable {X : Cx} {M : Mo} {N : List Str} {sc : Scope} {wr : Nat → Bool} {j : Nat} {G : Gam} {W : WX} {a : Expr} {da : E} {p pos : Pos}
theorem b_minA (B : Bd X M N sc wr j G W) (hc : X.calm = true) (Y : Blt M) (h : BOk X G W a da) (hg : sc.names.lookup ("min" : Str) = some .globalImplicit := by kernel_rfl) (hs : starEach [a] X.env = (false, eval a X.env) :: starEach [] X.env := by rfl) : EOk X G W (.Call (.Name "min" p) [a] [] pos) (dUn pMinA da) :=
  e_b1 B.ct o_minA (pe_callB (cr_minA hc B.un) (B.gl hg) (B.non (Y.at (by kernel_rfl))) (by decide +kernel) (pa_cons h pa_nil hs) (by decide) (by decide) hs rfl)
end
end PF

set_option Elab.async false
set_option linter.all false
set_option maxRecDepth 100000
namespace PF
open PySem PySem.Spec PyProof.Rows L2
/-! ## comprehensions within comprehensions: the inner ones' slots (ex) hold no own list -/
def LGy (k : Kx) (ws vs : List Nat) (g : Tg) : TG := fun v σ H Q => ∃ G', XG k ws G' ∧ LG G' vs g v σ H Q
theorem pg_y {X : Cx} {k : Kx} {ws vs : List Nat} {e : Expr} {d : Tg} (h : ∀ G', XG k ws G' → PG X e (LG G' vs d)) : PG X e (LGy k ws vs d) := ⟨fun pins s σ H v u Q I r ⟨G', hk, q⟩ => (h G' hk).run pins s σ H v u Q I r q⟩
def isOwnB (ρ : Env) (i : Nat) : Bool := match ρ[i]? with
  | some (.own _) => true
  | _ => false
/-- a target, where no slot of ex holds an own list -/
def gX (ex : List Nat) (g : Tg) : Tg := fun p ρ => if ex.any (isOwnB ρ) = true then none else g p ρ
theorem gX_own {ex : List Nat} {g : Tg} {x : PV} {ρ ρ' : Env} (h : gX ex g x ρ = some ρ') : ∀ i, i ∈ ex → ∀ p, ρ[i]? ≠ some (.own p) := by
  intro i hi p e
  unfold gX at h
  have : ex.any (isOwnB ρ) = true := List.any_eq_true.mpr ⟨i, hi, by unfold isOwnB; rw [e]⟩
  rw [if_pos this] at h
  cases h
section
variable {X : Cx} {G : Gam} {W : WX}
/-- the loop of a comprehension, from a state in which D holds what is made so far -/
theorem lc_auxW {vs ws : List Nat} {g : Tg} {t : T} {e : E} {J : It} {xs : List PV} {S1 H1 : Hp} {ρ1 : Env} {σ : L2.St} {zs : List PV} {ρz : Env} {Q : VK} (hvs : ∀ q ∈ G.ix, q.1 ∉ vs) (hws : ∀ q ∈ G.ix, q.1 ∉ ws) (hg0 : ∀ x ρ ρ', g x ρ = some ρ' → ∀ i, i ∈ ws → i ∉ vs → ∀ p, ρ[i]? ≠ some (.own p)) (R1 : Rel G S1 H1 ρ1 σ) (yl : Yl G.k S1 J xs)
    (P : lcL g t e vs xs [] (wipeE ρ1 vs) = .ok zs ρz) (q : ∀ a us S' H', Same S1 S' → Rel G S' H' ρz σ → NT G.H0 a → S' a = none → H' a = some (.lst us) → Reps G.k S' zs us → NotOwn ρz σ a → Q (.ref a) H') :
    ∀ D, H1 D = none → ∃ W : Nat → Nat → Hp → Prop, (∃ m, W 0 m (upd H1 D (.lst []))) ∧ ∀ i m H, W i m H →
      (J.stop i H ∧ Q (.ref D) H) ∨ (J.go i H ∧ ∃ Nx : Hp → Prop, (∀ H', Nx H' → ∃ m', m' < m ∧ W (i + 1) m' H') ∧ ∀ x H', J.yld i H x H' → LGy G.k ws vs g x (wipe σ vs) H' fun σ2 H2 => wipe σ2 vs = wipe σ vs ∧ LTx G.k ws t σ2 H2 fun b H3 =>
        if b = true then LEx G.k ws e σ2 H3 fun y H4 => ∃ acc, H4 D = some (.lst acc) ∧ acc.length < sizeLine ∧ Nx (upd H4 D (.lst (acc ++ [y]))) else Nx H3) := by
  intro D hD
  have wd : ∀ i s, i ∈ vs → (wipeE ρ1 vs)[i]? = some s → s = .unb := fun i s => wipeE_at ρ1
  have step0 : ∀ {α β γ δ : Type} {o : Out α} {f : α → Env → Out β} {G' : Gam} {σ2 : L2.St} {S : Hp} {R1' : Env → Hp → Hp → α → γ → Prop} {Q' : γ → Hp → Prop} {z : β} {ρ' : Env} (h : (noX o).bind f = .ok z ρ')
      (k : ∀ x ρ', ∀ v S' H', Same S S' → Rel G' S' H' ρ' σ2 → R1' ρ' S' H' x v → f x ρ' = .ok z ρz → Q' v H'), ρ' = ρz → Post G' W0 σ2 R1' o S Q' := by
    intro α β γ δ o f G' σ2 S R1' Q' z ρ' h k ez
    subst ez
    exact Post.noX (δ := δ) h (by simp) fun x ρ'' _ v S' H' e1 r q1 h1 => k x ρ'' v S' H' e1 r q1 h1
  refine ⟨fun i m H => m = xs.length - i ∧ i ≤ xs.length ∧ ∃ S' ρ' acc us, Same S1 S' ∧ Rel G S' H ρ' (wipe σ vs) ∧ H D = some (.lst us) ∧ Reps G.k S' acc us ∧ S' D = none ∧ NotOwn ρ' (wipe σ vs) D ∧ (∀ i s, i ∈ vs → ρ'[i]? = some s → s = .unb) ∧ lcL g t e vs (xs.drop i) acc ρ' = .ok zs ρz, ⟨xs.length, by simp, Nat.zero_le _, ?_⟩, ?_⟩
  · have Rw := R1.wipe hvs
    have Rl := Rw.grow (.laid (o := .lst []) Rw.sub hD)
    exact ⟨S1, wipeE ρ1 vs, [], [], .refl _, Rl, upd_same, Reps.nil, R1.sub.free hD, Rw.notOwn hD, wd, P⟩
  · rintro i m H ⟨rfl, hi, S2, ρ2, acc, us, s2, R2, hDus, ra, hS2, hn2, hw2, P2⟩
    by_cases hlt : i < xs.length
    · have ed : xs.drop i = xs[i] :: xs.drop (i + 1) := List.drop_eq_getElem_cons hlt
      rw [ed] at P2
      unfold lcL at P2
      refine .inr ⟨yl.go i S2 H s2 R2.sub hlt, fun H' => ∃ S' ρ' acc us, Same S1 S' ∧ Rel G S' H' ρ' (wipe σ vs) ∧ H' D = some (.lst us) ∧ Reps G.k S' acc us ∧ S' D = none ∧ NotOwn ρ' (wipe σ vs) D ∧ (∀ i s, i ∈ vs → ρ'[i]? = some s → s = .unb) ∧ lcL g t e vs (xs.drop (i + 1)) acc ρ' = .ok zs ρz, fun H' n => ⟨xs.length - (i + 1), by omega, rfl, hlt, n⟩, fun x H3 hy => ?_⟩
      obtain ⟨S3, gr, rx⟩ := yl.yl i S2 H x H3 s2 R2.sub hlt hy
      have R3 := R2.grow gr
      have hD3 := gr.sH _ _ hDus
      have hS3 := gr.nf _ _ hDus hS2
      cases q0 : g xs[i] ρ2 with
      | none => rw [q0] at P2; cases P2
      | some ρ3 =>
        rw [q0] at P2
        have xg : XG G.k ws (G.nest S3 H3 ρ2 (wipe σ vs)) := ⟨rfl, fun q hq hz => by
          rcases List.mem_append.mp (show q ∈ ownL ρ2 (wipe σ vs) ++ G.fx from hq) with hq | hq
          · obtain ⟨⟨w, h1⟩, _⟩ := mem_ownL.mp (show (q.1, q.2) ∈ ownL ρ2 (wipe σ vs) from hq)
            by_cases hzv : q.1 ∈ vs
            · cases hw2 _ _ hzv h1
            · exact hg0 _ _ _ q0 _ hz hzv _ h1
          · exact hws q (List.mem_append_right _ hq) hz⟩
        refine ⟨G.nest S3 H3 ρ2 (wipe σ vs), xg, S3, ρ2, xs[i], ρ3, R3.nest, rx _ (by simp [hlt]), q0, fun σ4 R4 ag => ⟨?_, ?_⟩⟩
        · -- the slots outside are as they were
          apply List.ext_getElem?
          intro j
          by_cases hj : j ∈ vs
          · have w1 := wipe_length σ4 vs
            have w2 := wipe_length σ vs
            have l4 := ag.len
            have at_ : ∀ (τ : L2.St), ∀ {ws : List Nat}, j ∈ ws → (wipe τ ws)[j]? = if j < τ.length then some none else none := by
              intro τ ws
              induction ws with
              | nil => intro h; simp at h
              | cons w ws ih =>
                intro h
                unfold wipe
                by_cases z : w = j
                · subst z
                  by_cases hl : w < τ.length
                  · rw [List.getElem?_set_self (by rw [wipe_length]; exact hl), if_pos hl]
                  · rw [List.getElem?_eq_none (by rw [List.length_set, wipe_length]; omega), if_neg hl]
                · rw [List.getElem?_set_ne z]
                  exact ih (by rcases List.mem_cons.mp h with q | q; exact absurd q.symm z; exact q)
            rw [at_ σ4 hj, at_ σ hj, l4, w2]
          · rw [wipe_out' hj, ag.out j hj, wipe_out' hj]
        · refine ⟨G.nest S3 H3 ρ2 (wipe σ vs), xg, S3, ρ3, R4, step0 (δ := Unit) P2 (fun b ρ4 v S4 H4 s4 R5 eb P3 => ?_) rfl⟩
          cases eb
          -- a turn's end
          have fini : ∀ {ρ5 : Env} {S5 H5 : Hp} (R6 : Rel (G.nest S3 H3 ρ2 (wipe σ vs)) S5 H5 ρ5 σ4), Rel G S5 H5 (wipeE ρ5 vs) (wipe σ vs) ∧ H5 D = some (.lst us) ∧ S5 D = none ∧ NotOwn (wipeE ρ5 vs) (wipe σ vs) D := by
            intro ρ5 S5 H5 R6
            have R7 := R3.unnest R6
            obtain ⟨t1, t2, t3⟩ := R3.through R6 hD3 hn2 noTb_lst hS3
            have R8 := R7.wipe hvs
            have R9 : Rel G S5 H5 (wipeE ρ5 vs) (wipe σ vs) := R8.resig (vs := vs) (fun q hq => hvs q (List.mem_append_right _ hq)) (fun i s => wipeE_at ρ5) (by rw [wipe_length, wipe_length, ag.len, wipe_length]) (fun i hi => by rw [wipe_out' (σ := σ4) hi, ag.out i hi])
            refine ⟨R9, t1, t2, fun i w h1 h2 => ?_⟩
            obtain ⟨a, ps', us', e1, e2, e3, e4, e5⟩ := R9.own h1
            by_cases hi : i ∈ vs
            · cases wipeE_at ρ5 hi h1
            · have h1' : ρ5[i]? = some (.own w) := by
                have wo : ∀ {ws : List Nat}, i ∉ ws → (wipeE ρ5 ws)[i]? = ρ5[i]? := by
                  intro ws
                  induction ws with
                  | nil => intro _; rfl
                  | cons x ws ih =>
                    intro h
                    unfold wipeE
                    rw [List.getElem?_set_ne (fun z => h (by rw [z]; exact List.mem_cons_self))]
                    exact ih fun z => h (List.mem_cons_of_mem _ z)
                rw [← wo hi]; exact h1
              exact t3 i w h1' (by rw [ag.out i hi]; exact h2)
          cases b with
          | false =>
            rw [if_neg Bool.false_ne_true]
            obtain ⟨R9, t1, t2, t3⟩ := fini R5
            exact ⟨S4, _, acc, us, (s2.trans gr.sS).trans s4, R9, t1, ra.mono (gr.sS.trans s4), t2, t3, fun i s => wipeE_at ρ4, P3⟩
          | true =>
            rw [if_pos rfl]
            refine ⟨G.nest S3 H3 ρ2 (wipe σ vs), xg, S4, ρ4, R5, step0 (δ := Unit) P3 (fun y ρ5 v S5 H5 s5 R6 ry P4 => ?_) rfl⟩
            obtain ⟨R9, t1, t2, t3⟩ := fini R6
            split at P4
            · rename_i hz
              have hr := ra.mono (gr.sS.trans (s4.trans s5))
              refine ⟨us, t1, by rw [← ra.len, ← lineN_eq]; exact hz, S5, _, acc ++ [y], us ++ [v], ((s2.trans gr.sS).trans s4).trans s5, R9.other t1 t2 (R1.fresh0 hD) t3, upd_same, hr.append (Reps.cons ry Reps.nil), t2, t3, fun i s => wipeE_at ρ5, P4⟩
            · cases P4
    · have ei : i = xs.length := by omega
      subst ei
      rw [List.drop_length] at P2
      unfold lcL at P2
      cases P2
      refine .inl ⟨yl.stop S2 H s2 R2.sub, q D us S2 H s2 ?_ (R1.fresh0 hD) hS2 hDus ra ?_⟩
      · exact R2.resig (vs := vs) (fun q hq => hvs q (List.mem_append_right _ hq)) hw2 (wipe_length σ vs).symm (fun i hi => (wipe_out' hi).symm)
      · intro i w h1 h2
        by_cases hi : i ∈ vs
        · cases hw2 _ _ hi h1
        · exact hn2 i w h1 (by rw [wipe_out' hi]; exact h2)
theorem f_lcW {ws : List Nat} {elt tg iter : Expr} {ifs : List Expr} {scope : Scope} {own : List (Str × Nat)} {pos : Pos} {it : As} {g : Tg} {t : T} {e : E} (C : Ct X G W) (hc : X.calm = true) (hi : IOk X G W tg iter it) (ok : BlkOk X.N X.env.scope scope own) (hvs : ∀ q ∈ G.ix, q.1 ∉ own.map (·.2)) (hws : ∀ q ∈ G.ix, q.1 ∉ ws) (hg0 : ∀ x ρ ρ', g x ρ = some ρ' → ∀ i, i ∈ ws → i ∉ own.map (·.2) → ∀ p, ρ[i]? ≠ some (.own p))
    (hg : ∀ (s : Shared) (H : Hp) (Cc : Addr) (cl : List (Str × Addr)) (fp : List Addr) (G' : Gam), XG G.k ws G' → GOk (X.blk s H scope (compEnvC scope cl Cc X.env) fp) G' (own.map (·.2)) tg g)
    (ht : ∀ (s : Shared) (H : Hp) (Cc : Addr) (cl : List (Str × Addr)) (fp : List Addr) (G' : Gam), XG G.k ws G' → PTs (X.blk s H scope (compEnvC scope cl Cc X.env) fp) ifs (LT G' W0 t))
    (he : ∀ (s : Shared) (H : Hp) (Cc : Addr) (cl : List (Str × Addr)) (fp : List Addr) (G' : Gam), XG G.k ws G' → EOk (X.blk s H scope (compEnvC scope cl Cc X.env) fp) G' W0 elt e) (hs : ∀ x, foldedSetIterable iter X.env x = pure x := by intro _; rfl) :
    FOk X G W (.ListComp elt [⟨tg, iter, ifs, 0⟩] scope pos) (fLc (own.map (·.2)) it g t e) :=
  pe_weak (pe_lc (own := own) hc C.nd hi ok (fun s H Cc cl fp => pg_y (hg s H Cc cl fp)) (fun s H Cc cl fp => pts_x (ht s H Cc cl fp)) (fun s H Cc cl fp => pe_x (he s H Cc cl fp)) hs) fun σ H Q ⟨S, ρ, R, P⟩ => ⟨S, ρ, R, Post.bind (R1 := RI G.k) P fun xs ρ1 J S1 H1 s1 R1 yl P1 => by
    cases q : lcL g t e (own.map (·.2)) xs [] (wipeE ρ1 (own.map (·.2))) with
    | ok zs ρz =>
      rw [q] at P1
      exact lc_auxW hvs hws hg0 R1 yl q fun a us S' H' e1 R' h0 hS hH hr hn => P1 _ S' H' e1 R' ⟨a, us, rfl, h0, hS, hH, hr, hn⟩
    | exc x ρz =>
      exact (lcL_noexc _ _ _ q).elim
    | stuck => rw [q] at P1; exact P1.elim⟩
end
theorem g_X {X : Cx} {G : Gam} {ex vs : List Nat} {t : Expr} {g : Tg} (h : GOk X G vs t g) : GOk X G vs t (gX ex g) := by
  refine pg_weak h fun v σ H Q ⟨S, ρ, q, ρ', R, r, e, k⟩ => ?_
  unfold gX at e
  split at e
  · cases e
  · exact ⟨S, ρ, q, ρ', R, r, e, k⟩
section
variable {X : Cx} {M : Mo} {N : List Str} {sc : Scope} {wr : Nat → Bool} {j : Nat} {G : Gam} {W : WX}
theorem b_lcW {ex : List Nat} {elt tg iter : Expr} {ifs : List Expr} {scope : Scope} {own : List (Str × Nat)} {pos : Pos} {it : As} {g : Tg} {t : T} {e : E} (B : Bd X M N sc wr j G W) (hc : X.calm = true) (hi : IOk X G W tg iter it)
    (hg : ∀ (X' : Cx) (G' : Gam), Bd X' M N (relab scope sc) (fun i => (own.map (·.2) ++ ex).contains i) j G' W0 → X'.calm = true → GOk X' G' (own.map (·.2)) tg g)
    (ht : ∀ (X' : Cx) (G' : Gam), Bd X' M N (relab scope sc) (fun i => (own.map (·.2) ++ ex).contains i) j G' W0 → X'.calm = true → PTs X' ifs (LT G' W0 t))
    (he : ∀ (X' : Cx) (G' : Gam), Bd X' M N (relab scope sc) (fun i => (own.map (·.2) ++ ex).contains i) j G' W0 → X'.calm = true → EOk X' G' W0 elt e)
    (hb : blkC N sc scope own = true := by kernel_rfl) (hw : (own.map (·.2)).all wr = true := by kernel_rfl) (hw2 : (own.map (·.2) ++ ex).all wr = true := by kernel_rfl) (hs : ∀ x, foldedSetIterable iter X.env x = pure x := by intro _; rfl) :
    FOk X G W (.ListComp elt [⟨tg, iter, ifs, 0⟩] scope pos) (fLc (own.map (·.2)) it (gX ex g) t e) :=
  f_lcW (ws := own.map (·.2) ++ ex) (own := own) B.ct hc hi (B.blok hb) (B.iol hw) (B.iol hw2) (fun x ρ ρ' h i hi hn => gX_own h i (by
      rcases List.mem_append.mp hi with q | q
      · exact absurd q hn
      · exact q)) (fun _ _ _ _ _ G' hx => g_X (hg _ G' (B.blk hx) hc)) (fun _ _ _ _ _ G' hx => ht _ G' (B.blk hx) hc) (fun _ _ _ _ _ G' hx => he _ G' (B.blk hx) hc) hs
end
section
variable {X : Cx} {G : Gam} {W : WX} {pos : Pos}
theorem s_ownLcW {ws : List Nat} {i : Nat} {y : Str} {py : Pos} {elt tg iter : Expr} {ifs : List Expr} {scope : Scope} {own : List (Str × Nat)} {spos : Pos} {it : As} {g : Tg} {t : T} {ee : E} (C : Ct X G W) (hc : X.calm = true) (hy : X.N[i]? = some y) (hyl : X.env.scope.names.lookup y = some .local) (hio : ∀ q ∈ G.ix, q.1 ≠ i)
    (hsw : swapsWith (.ListComp elt [⟨tg, iter, ifs, 0⟩] scope pos) (some (.Name y py)) spos.line X.env = pure true) (hi : IOk X G W tg iter it) (ok : BlkOk X.N X.env.scope scope own) (hvs : ∀ q ∈ G.ix, q.1 ∉ own.map (·.2)) (hws : ∀ q ∈ G.ix, q.1 ∉ ws) (hg0 : ∀ x ρ ρ', g x ρ = some ρ' → ∀ i, i ∈ ws → i ∉ own.map (·.2) → ∀ p, ρ[i]? ≠ some (.own p))
    (hg : ∀ (s : Shared) (H : Hp) (Cc : Addr) (cl : List (Str × Addr)) (fp : List Addr) (G' : Gam), XG G.k ws G' → GOk (X.blk s H scope (compEnvC scope cl Cc X.env) fp) G' (own.map (·.2)) tg g)
    (ht : ∀ (s : Shared) (H : Hp) (Cc : Addr) (cl : List (Str × Addr)) (fp : List Addr) (G' : Gam), XG G.k ws G' → PTs (X.blk s H scope (compEnvC scope cl Cc X.env) fp) ifs (LT G' W0 t))
    (he : ∀ (s : Shared) (H : Hp) (Cc : Addr) (cl : List (Str × Addr)) (fp : List Addr) (G' : Gam), XG G.k ws G' → EOk (X.blk s H scope (compEnvC scope cl Cc X.env) fp) G' W0 elt ee) (hs : ∀ x, foldedSetIterable iter X.env x = pure x := by intro _; rfl) :
    SOk X G W (.Assign [.Name y py] (.ListComp elt [⟨tg, iter, ifs, 0⟩] scope pos) spos) (sOwn i (fLc (own.map (·.2)) it g t ee)) :=
  ps_weak (ps_setLc (own := own) hc C.nd hy hyl hsw hi ok (fun s H Cc cl fp => pg_y (hg s H Cc cl fp)) (fun s H Cc cl fp => pts_x (ht s H Cc cl fp)) (fun s H Cc cl fp => pe_x (he s H Cc cl fp)) hs) fun D σ H ⟨S, ρ, R, P⟩ => by
    refine ⟨S, ρ, R, ?_⟩
    have P0 : PostS G W (((it ρ).bind fun xs ρ1 => lcL g t ee (own.map (·.2)) xs [] (wipeE ρ1 (own.map (·.2)))).bind fun ps ρ1 => .ok .next (ρ1.set i (.own (.lst ps)))) S D := P
    have P' : PostS G W ((it ρ).bind fun xs ρ1 => (lcL g t ee (own.map (·.2)) xs [] (wipeE ρ1 (own.map (·.2)))).bind fun ps ρ1 => .ok .next (ρ1.set i (.own (.lst ps)))) S D := by
      cases q : it ρ with
      | ok xs ρ1 => rw [q] at P0; exact P0
      | exc x ρ1 => rw [q] at P0; exact P0
      | stuck => rw [q] at P0; exact P0
    refine PostS.bindE (R1 := RI G.k) P' fun xs ρ1 J S1 H1 s1 R1 yl P1 => ?_
    cases q : lcL g t ee (own.map (·.2)) xs [] (wipeE ρ1 (own.map (·.2))) with
    | ok zs ρz =>
      rw [q] at P1
      exact lc_auxW (Q := fun x H1 => D.nx (σ.set i (some x)) H1) hvs hws hg0 R1 yl q fun a us S' H' e1 R' h0 hS hH hr hn => P1 _ S' H' e1 (R'.setOwn h0 hS hH hr hn hio)
    | exc x ρz => exact (lcL_noexc _ _ _ q).elim
    | stuck => rw [q] at P1; exact P1.elim
end
section
variable {X : Cx} {M : Mo} {N : List Str} {sc : Scope} {wr : Nat → Bool} {j : Nat} {G : Gam} {W : WX}
theorem b_ownLcW {ex : List Nat} {i : Nat} {y : Str} {py : Pos} {elt tg iter : Expr} {ifs : List Expr} {scope : Scope} {own : List (Str × Nat)} {pos spos : Pos} {it : As} {g : Tg} {t : T} {e : E} (B : Bd X M N sc wr j G W) (hc : X.calm = true) (hi : IOk X G W tg iter it)
    (hg : ∀ (X' : Cx) (G' : Gam), Bd X' M N (relab scope sc) (fun i => (own.map (·.2) ++ ex).contains i) j G' W0 → X'.calm = true → GOk X' G' (own.map (·.2)) tg g)
    (ht : ∀ (X' : Cx) (G' : Gam), Bd X' M N (relab scope sc) (fun i => (own.map (·.2) ++ ex).contains i) j G' W0 → X'.calm = true → PTs X' ifs (LT G' W0 t))
    (he : ∀ (X' : Cx) (G' : Gam), Bd X' M N (relab scope sc) (fun i => (own.map (·.2) ++ ex).contains i) j G' W0 → X'.calm = true → EOk X' G' W0 elt e)
    (h : (N[i]? == some y && sc.names.lookup y == some .local && wr i && sc.kind == .function) = true := by kernel_rfl) (hl : (py.line == pos.line) = true := by kernel_rfl) (ha : (scope.names.any fun (n, k) => n == y && (k == .local || k == .cell)) = false := by kernel_rfl)
    (hb : blkC N sc scope own = true := by kernel_rfl) (hw : (own.map (·.2)).all wr = true := by kernel_rfl) (hw2 : (own.map (·.2) ++ ex).all wr = true := by kernel_rfl) (hs : ∀ x, foldedSetIterable iter X.env x = pure x := by intro _; rfl) :
    SOk X G W (.Assign [.Name y py] (.ListComp elt [⟨tg, iter, ifs, 0⟩] scope pos) spos) (sOwn i (fLc (own.map (·.2)) it (gX ex g) t e)) := by
  simp only [Bool.and_eq_true, beq_iff_eq] at h
  obtain ⟨⟨⟨h1, h2⟩, h3⟩, h4⟩ := h
  exact s_ownLcW (ws := own.map (·.2) ++ ex) (own := own) B.ct hc (B.nx h1) (B.lk h2) (B.io h3) (sw_true (by rw [B.eS]; exact h4) (B.lk h2) hl ha) hi (B.blok hb) (B.iol hw) (B.iol hw2) (fun x ρ ρ' h i hi hn => gX_own h i (by
      rcases List.mem_append.mp hi with q | q
      · exact absurd q hn
      · exact q)) (fun _ _ _ _ _ G' hx => g_X (hg _ G' (B.blk hx) hc)) (fun _ _ _ _ _ G' hx => ht _ G' (B.blk hx) hc) (fun _ _ _ _ _ G' hx => he _ G' (B.blk hx) hc) hs
end
@[simp] theorem gX_e {ex : List Nat} {g : Tg} {p : PV} {ρ : Env} : gX ex g p ρ = if ex.any (isOwnB ρ) = true then none else g p ρ := rfl
theorem isOwnB_e {ρ : Env} {i : Nat} : isOwnB ρ i = match ρ[i]? with
  | some (.own _) => true
  | _ => false := rfl
end PF

set_option Elab.async false
set_option linter.all false
set_option maxRecDepth 100000
namespace PF
open PySem PySem.Spec PyProof.Rows L2
/-! ## f(x, y, ..) of variables, own lists too, where f only reads and hands back a number, a text, a flag, None -/
def scal : PV → Bool
  | .non => true
  | .bl _ => true
  | .int _ => true
  | .str _ => true
  | _ => false
theorem scal_rep {k : Kx} {S S' : Hp} : ∀ {p : PV} {v : V}, scal p = true → Rep k S p v → Rep k S' p v
  | .non, _, _, h => by simpa only [Rep] using h
  | .bl _, _, _, h => by simpa only [Rep] using h
  | .int _, _, _, h => by simpa only [Rep] using h
  | .str _, _, _, h => by simpa only [Rep] using h
  | .tup _, _, z, _ => by simp [scal] at z
  | .lst _, _, z, _ => by simp [scal] at z
  | .fn _, _, z, _ => by simp [scal] at z
  | .scr _, _, z, _ => by simp [scal] at z
  | .dic _ _, _, z, _ => by simp [scal] at z
def slotsB (ρ : Env) : List Nat → Option (List PV)
  | [] => some []
  | i :: is => match ρ[i]? with
    | some (.val p) => (slotsB ρ is).map (p :: ·)
    | some (.own p) => (slotsB ρ is).map (p :: ·)
    | _ => none
def finB (ρ : Env) : FOut → Out PV
  | .ret p _ => if scal p = true then .ok p ρ else .stuck
  | .exc x => .exc x ρ
  | _ => .stuck
def callB (F : Fn) (ρ : Env) : Option (List PV) → Out PV
  | some ps => finB ρ (F ps)
  | none => .stuck
def dCallB (F : Fn) (is : List Nat) : E := fun ρ => callB F ρ (slotsB ρ is)
def tVs : List Nat → TA
  | [] => tNil
  | i :: is => tCons (tVar i) (tVs is)
theorem tVs_of {σ : L2.St} {H : Hp} {Q : List V → Hp → Prop} : ∀ {is : List Nat} {vs : List V}, (∀ (n : Nat) (i : Nat), is[n]? = some i → ∃ v, vs[n]? = some v ∧ σ[i]? = some (some v)) → vs.length = is.length → Q vs H → tVs is σ H Q
  | [], vs, _, hl, q => by
    have : vs = [] := List.length_eq_zero_iff.mp hl
    subst this
    exact q
  | i :: is, vs, h, hl, q => by
    cases vs with
    | nil => simp at hl
    | cons v vs =>
      obtain ⟨v', e, e2⟩ := h 0 i rfl
      simp at e
      subst e
      refine ⟨_, e2, ?_⟩
      refine tVs_of (is := is) (vs := vs) (Q := fun xs H => Q (v :: xs) H) (fun n j hj => ?_) (by simpa using hl) q
      obtain ⟨v', e3, e4⟩ := h (n + 1) j (by simpa using hj)
      exact ⟨v', by simpa using e3, e4⟩
section
variable {X : Cx} {G : Gam} {W : WX} {S H S' H' : Hp} {ρ : Env} {σ : L2.St}
/-- the own lists of some slots told as values for a while -/
theorem Rel.lend (R : Rel G S H ρ σ) : ∀ {is : List Nat} {ps : List PV}, slotsB ρ is = some ps → ∃ S1 vs, Same S S1 ∧ Same S1 H ∧ (∀ a o, S1 a = some o → NoTb o) ∧ Reps G.k S1 ps vs ∧ vs.length = is.length ∧ ∀ (n : Nat) (i : Nat), is[n]? = some i → ∃ v, vs[n]? = some v ∧ σ[i]? = some (some v)
  | [], ps, h => by
    simp only [slotsB, Option.some.injEq] at h
    subst h
    exact ⟨S, [], .refl _, R.sub, R.nt, by simp only [Reps], rfl, fun n i h => by simp at h⟩
  | i :: is, ps, h => by
    unfold slotsB at h
    have hi : i < ρ.length ∨ ρ[i]? = none := by
      by_cases z : i < ρ.length
      · exact .inl z
      · exact .inr (List.getElem?_eq_none (by omega))
    have key : ∀ (p : PV) (qs : List PV), slotsB ρ is = some qs → (∃ v S2, σ[i]? = some (some v) ∧ Same S S2 ∧ Same S2 H ∧ (∀ a o, S2 a = some o → NoTb o) ∧ Rep G.k S2 p v) → ∃ S1 vs, Same S S1 ∧ Same S1 H ∧ (∀ a o, S1 a = some o → NoTb o) ∧ Reps G.k S1 (p :: qs) vs ∧ vs.length = (i :: is).length ∧ ∀ (n : Nat) (j : Nat), (i :: is)[n]? = some j → ∃ v, vs[n]? = some v ∧ σ[j]? = some (some v) := by
      intro p qs e ⟨v, S2, e1, s1, s2, nt, r⟩
      obtain ⟨S1, vs, t1, t2, t3, t4, t5, t6⟩ := R.lend e
      have up : Same S1 (fun a => match S1 a with | some o => some o | none => S2 a) := fun a o h => by simp only [h]
      have up2 : Same S2 (fun a => match S1 a with | some o => some o | none => S2 a) := fun a o h => by
        simp only
        cases z : S1 a with
        | none => exact h
        | some o' =>
          have a1 := t2 a o' z
          have a2 := s2 a o h
          rw [a1] at a2
          exact a2
      refine ⟨fun a => match S1 a with | some o => some o | none => S2 a, v :: vs, t1.trans up, fun a o h => ?_, fun a o h => ?_, ?_, by simp [t5], fun n j hj => ?_⟩
      · cases z : S1 a with
        | none => simp only [z] at h; exact s2 a o h
        | some o' => simp only [z, Option.some.injEq] at h; subst h; exact t2 a _ z
      · cases z : S1 a with
        | none => simp only [z] at h; exact nt a o h
        | some o' => simp only [z, Option.some.injEq] at h; subst h; exact t3 a _ z
      · simp only [Reps]
        exact ⟨v, vs, rfl, r.mono up2, t4.mono up⟩
      · cases n with
        | zero => simp at hj; subst hj; exact ⟨v, rfl, e1⟩
        | succ n =>
          obtain ⟨v', a1, a2⟩ := t6 n j (by simpa using hj)
          exact ⟨v', by simpa using a1, a2⟩
    cases e1 : ρ[i]? with
    | none => rw [e1] at h; cases h
    | some s =>
      have hil : i < ρ.length := (List.getElem?_eq_some_iff.mp e1).1
      have hio : ∃ o, σ[i]? = some o := ⟨σ[i]'(by rw [← R.len]; exact hil), List.getElem?_eq_getElem _⟩
      obtain ⟨o, eo⟩ := hio
      have sl := R.slot i s o e1 eo
      rw [e1] at h
      cases s with
      | unb => cases h
      | val p =>
        simp only [Option.map_eq_some_iff] at h
        obtain ⟨qs, e2, rfl⟩ := h
        obtain ⟨v, rfl, r⟩ := sl
        exact key p qs e2 ⟨v, S, eo, .refl _, R.sub, R.nt, r⟩
      | own p =>
        simp only [Option.map_eq_some_iff] at h
        obtain ⟨qs, e2, rfl⟩ := h
        obtain ⟨a, ps, us, rfl, rfl, hS, hH, r⟩ := sl
        refine key _ qs e2 ⟨.ref a, upd S a (.lst us), eo, ?_, ?_, ?_, ?_⟩
        · intro b ob hb
          rw [upd_ne (ne_of_none hb hS)]
          exact hb
        · intro b ob hb
          by_cases z : b = a
          · subst z
            rw [upd_same] at hb
            cases hb
            exact hH
          · rw [upd_ne z] at hb
            exact R.sub b ob hb
        · intro b ob hb
          by_cases z : b = a
          · subst z
            rw [upd_same] at hb
            cases hb
            exact noTb_lst
          · rw [upd_ne z] at hb
            exact R.nt b ob hb
        · simp only [Rep]
          refine ⟨a, us, rfl, upd_same, r.mono ?_⟩
          intro b ob hb
          rw [upd_ne (ne_of_none hb hS)]
          exact hb
theorem Rel.back (R : Rel G S H ρ σ) {S1 : Hp} {io : List PV} (h : EndR G.k S1 H S' H' [] io) : EndR G.k S H S H' [] [] where
  sS := .refl _
  sub := fun a o e => h.fr a o (R.sub a o e) (by simp) (R.nt a o e)
  al := h.al
  fr := h.fr
  nf := fun _ _ _ _ e => e
  nt := R.nt
  tabs := h.tabs
  io := fun a ha => by simp at ha
theorem e_callB {x : Str} {ps : List Str} {F : Fn} {is : List Nat} {a : Expr} {es : List Expr} {pos p : Pos} (C : Ct X G W) (f : FnAt X G.k x ps false F) (hg : Gl X x) (ha : PA X (a :: es) (tVs is)) (hdb : (x == ("__debug__" : Str)) = false := by decide)
    (he : starEach (a :: es) X.env = (false, eval a X.env) :: starEach es X.env := by rfl) (hpl : (backTo pos (starEach es X.env)).any (·.1) = false := by rfl) : EOk X G W (.Call (.Name x p) (a :: es) [] pos) (dCallB F is) := by
  obtain ⟨ar, j, fa, fd, ok, hr, hm, hk, hb⟩ := f
  refine pe_weak (pe_callS ok hr hg hm hk hb (fun σ => passAt C.tk σ) ha hdb he hpl) fun σ H Q ⟨S, ρ, R, P⟩ => ?_
  unfold dCallB at P
  cases q : slotsB ρ is with
  | none => rw [q] at P; exact P.elim
  | some qs =>
    rw [q] at P
    simp only [callB] at P
    obtain ⟨S1, vs, t1, t2, t3, t4, t5, t6⟩ := R.lend q
    refine tVs_of t6 t5 ?_
    have hn : vs.length = ps.length := by
      rw [← t4.len]
      exact Decidable.byContradiction fun z => by
        rw [ar qs z] at P
        exact P.elim
    refine ⟨hn, S1, qs, [], t2, t3, R.tabs, ⟨t4, rfl⟩, ?_⟩
    cases q2 : F qs with
    | ret w out =>
      rw [q2] at P
      by_cases hw : scal w = true
      · simp only [finB, if_pos hw] at P
        intro v S' H' h rv
        exact P v S H' (.refl _) (R.call0 (R.back h)) (scal_rep hw rv)
      · simp only [finB, if_neg hw] at P
        exact P.elim
    | own zs out => rw [q2] at P; exact P.elim
    | exc y =>
      rw [q2] at P
      exact ⟨rfl, fun cls d S' H' h hx => P cls d S H' (.refl _) (R.call0 (R.back h)) hx⟩
    | stuck => rw [q2] at P; exact P.elim
end
@[simp ↓] theorem dCallB_e {F : Fn} {is : List Nat} {ρ : Env} : dCallB F is ρ = callB F ρ (slotsB ρ is) := rfl
@[simp] theorem callB_some {F : Fn} {ps : List PV} {ρ : Env} : callB F ρ (some ps) = finB ρ (F ps) := rfl
@[simp] theorem finB_ret {ρ : Env} {p : PV} {io : List PV} : finB ρ (.ret p io) = if scal p = true then .ok p ρ else .stuck := rfl
@[simp] theorem finB_exc {ρ : Env} {x : Exc} : finB ρ (.exc x) = .exc x ρ := rfl
@[simp] theorem slotsB_nil {ρ : Env} : slotsB ρ [] = some [] := rfl
@[simp] theorem slotsB_cons {ρ : Env} {i : Nat} {is : List Nat} : slotsB ρ (i :: is) = match ρ[i]? with
    | some (.val p) => (slotsB ρ is).map (p :: ·)
    | some (.own p) => (slotsB ρ is).map (p :: ·)
    | _ => none := rfl
@[simp] theorem scal_n : scal .non = true := rfl
@[simp] theorem scal_b {b : Bool} : scal (.bl b) = true := rfl
@[simp] theorem scal_i {i : Int} : scal (.int i) = true := rfl
@[simp] theorem scal_s {s : Str} : scal (.str s) = true := rfl
end PF

set_option Elab.async false
set_option linter.all false
set_option maxRecDepth 100000
namespace PF.Bt
open PF PySem L2
def Bits (bs : List Int) : Prop := ∀ b ∈ bs, b = 0 ∨ b = 1
theorem Bits.head {b : Int} {r : List Int} (h : Bits (b :: r)) : b = 0 ∨ b = 1 := h b List.mem_cons_self
theorem Bits.tail {b : Int} {r : List Int} (h : Bits (b :: r)) : Bits r := fun x hx => h x (List.mem_cons_of_mem _ hx)
theorem digs_bits (n : Int) (k : Nat) : Bits (digs 2 n k) := fun x hx => by
  have := digs_rng (t := 2) (by omega) n k x hx
  omega
theorem Bits.rng {bs : List Int} (h : Bits bs) : ∀ b ∈ bs, 0 ≤ b ∧ b < 2 := fun b hb => by rcases h b hb with q | q <;> omega
theorem val_b (b : Int) (r : List Int) : val 2 (b :: r) = b + 2 * val 2 r := rfl
theorem Bits.nn {bs : List Int} (h : Bits bs) : 0 ≤ val 2 bs ∧ val 2 bs < 2 ^ bs.length := val_rng (by omega) h.rng
theorem val_rep0 : ∀ (k : Nat) (r : List Int), val 2 (List.replicate k 0 ++ r) = 2 ^ k * val 2 r
  | 0, r => by simp
  | k + 1, r => by rw [List.replicate_succ, List.cons_append, val_b, val_rep0 k r, Int.pow_succ, Int.mul_comm ((2 : Int) ^ k) 2, Int.mul_assoc]; omega
theorem val_rep1 : ∀ (k : Nat), val 2 (List.replicate k 1) = 2 ^ k - 1
  | 0 => by simp [val]
  | k + 1 => by rw [List.replicate_succ, val_b, val_rep1 k, Int.pow_succ]; omega
theorem low_split : ∀ {bs : List Int}, Bits bs → (bs = List.replicate bs.length 0) ∨ ∃ k r, bs = List.replicate k 0 ++ 1 :: r
  | [], _ => .inl rfl
  | b :: bs, h => by
    rcases h.head with rfl | rfl
    · rcases low_split h.tail with q | ⟨k, r, q⟩
      · left; rw [List.length_cons, List.replicate_succ, ← q]
      · right; exact ⟨k + 1, r, by rw [q, List.replicate_succ, List.cons_append]⟩
    · right; exact ⟨0, bs, rfl⟩
theorem bits_app {as bs : List Int} (h : Bits (as ++ bs)) : Bits as ∧ Bits bs := ⟨fun x hx => h x (List.mem_append.mpr (.inl hx)), fun x hx => h x (List.mem_append.mpr (.inr hx))⟩
theorem pow_nat (k : Nat) : ((2 ^ k : Nat) : Int) = 2 ^ k := by simp
theorem odd_nat {r : List Int} (hr : Bits r) (k : Nat) : ∃ j : Nat, val 2 r = j ∧ (2 : Int) ^ k * val 2 (1 :: r) = ((2 ^ k * (2 * j + 1) : Nat) : Int) := by
  obtain ⟨j, hj⟩ := Int.eq_ofNat_of_zero_le hr.nn.1
  refine ⟨j, hj, ?_⟩
  rw [val_b, hj, Int.natCast_mul, pow_nat]
  congr 1
  omega
theorem and_neg {r : List Int} (hr : Bits r) (k : Nat) : Builtin.bitAnd (2 ^ k * val 2 (1 :: r)) (-(2 ^ k * val 2 (1 :: r))) = 2 ^ k := by
  obtain ⟨j, _, e⟩ := odd_nat hr k
  rw [e, low_one, pow_nat]
theorem and_less {r : List Int} (hr : Bits r) (k : Nat) : Builtin.bitAnd (2 ^ k * val 2 (1 :: r)) (2 ^ k * val 2 (1 :: r) - 1) = 2 ^ k * val 2 (1 :: r) - 2 ^ k := by
  obtain ⟨j, hj, e⟩ := odd_nat hr k
  have hp := Nat.two_pow_pos k
  have h0 : 0 < 2 ^ k * (2 * j + 1) := Nat.mul_pos hp (by omega)
  have e2 : ((2 ^ k * (2 * j + 1) : Nat) : Int) - 1 = ((2 ^ k * (2 * j + 1) - 1 : Nat) : Int) := by omega
  rw [e, e2, bitAnd_nat, and_pred, ← pow_nat]
  have e3 : 2 ^ k * (2 * j + 1) = 2 ^ (k + 1) * j + 2 ^ k := by rw [Nat.pow_succ]; grind
  rw [e3]
  omega
theorem run_split : ∀ {bs : List Int}, Bits bs → (bs = List.replicate bs.length 1) ∨ ∃ j r, bs = List.replicate j 1 ++ 0 :: r
  | [], _ => .inl rfl
  | b :: bs, h => by
    rcases h.head with rfl | rfl
    · right; exact ⟨0, bs, rfl⟩
    · rcases run_split h.tail with q | ⟨k, r, q⟩
      · left; rw [List.length_cons, List.replicate_succ, ← q]
      · right; exact ⟨k + 1, r, by rw [q, List.replicate_succ, List.cons_append]⟩
theorem bnot_e (x : Int) : Builtin.bitNot x = -x - 1 := by unfold Builtin.bitNot; omega
theorem zero_or {a : Int} (h : 0 ≤ a) : Builtin.bitOr 0 a = a := by
  obtain ⟨n, rfl⟩ := Int.eq_ofNat_of_zero_le h
  have := bitOr_nat 0 n
  simpa using this
def spotsF : Nat → List Int → List Int
  | _, [] => []
  | k, b :: r => if b = 1 then (k : Int) :: spotsF (k + 1) r else spotsF (k + 1) r
theorem spots_len : ∀ {bs : List Int} (k : Nat), Bits bs → ((spotsF k bs).length : Int) = bs.sum
  | [], _, _ => rfl
  | b :: r, k, h => by
    have ih := spots_len (k + 1) h.tail
    rw [List.sum_cons, spotsF]
    rcases h.head with rfl | rfl
    · rw [if_neg (by omega), ih]; omega
    · rw [if_pos rfl, List.length_cons]; omega
theorem spots_zero : ∀ (n k : Nat) (r : List Int), spotsF k (List.replicate n 0 ++ r) = spotsF (k + n) r
  | 0, k, r => by simp
  | n + 1, k, r => by
    rw [List.replicate_succ, List.cons_append, spotsF, if_neg (by omega), spots_zero n]
    congr 1
    omega
theorem spots_app : ∀ (as bs : List Int) (k : Nat), spotsF k (as ++ bs) = spotsF k as ++ spotsF (k + as.length) bs
  | [], _, _ => by simp [spotsF]
  | a :: as, bs, k => by
    rw [List.cons_append, spotsF, spotsF, spots_app as bs, List.length_cons, show k + 1 + as.length = k + (as.length + 1) by omega]
    split
    · rfl
    · rfl
theorem high_split {bs : List Int} (h : Bits bs) : (bs = List.replicate bs.length 0) ∨ ∃ as z, bs = as ++ 1 :: List.replicate z 0 := by
  have hr : Bits bs.reverse := fun b hb => h b (List.mem_reverse.mp hb)
  rcases low_split hr with q | ⟨k, r, q⟩
  · left
    have := congrArg List.reverse q
    rwa [List.reverse_reverse, List.reverse_replicate, List.length_reverse] at this
  · right
    have := congrArg List.reverse q
    rw [List.reverse_reverse, List.reverse_append, List.reverse_cons, List.reverse_replicate] at this
    exact ⟨r.reverse, k, by rw [this]; simp⟩
def isOneP : PV → Bool
  | .tup [_, .int b] => decide (b = 1)
  | _ => false
def fstP : PV → PV
  | .tup [k, _] => k
  | _ => .non
theorem spots_e (bs : List Int) : ((enumP 0 (bs.map .int)).filter isOneP).map fstP = (spotsF 0 bs).map .int := by
  have : ∀ (bs : List Int) (k : Nat), ((enumP k (bs.map .int)).filter isOneP).map fstP = (spotsF k bs).map .int := by
    intro bs
    induction bs with
    | nil => intro k; rfl
    | cons b r ih =>
      intro k
      rw [List.map_cons, enumP, spotsF]
      by_cases h : b = 1
      · rw [if_pos h, List.map_cons, ← ih (k + 1), List.filter_cons_of_pos (by simpa [isOneP] using h)]
        rfl
      · rw [if_neg h, ← ih (k + 1), List.filter_cons_of_neg (by simpa [isOneP] using h)]
  exact this bs 0
theorem spots_ends {bs : List Int} (h : Bits bs) (hz : val 2 bs ≠ 0) : ∃ (k : Nat) (r : List Int) (hp : Nat), bs = List.replicate k 0 ++ 1 :: r ∧ Bits r ∧ k < bs.length ∧ atI ((spotsF 0 bs).map PV.int) 0 = some (.int k) ∧ atI ((spotsF 0 bs).map PV.int) (-1) = some (.int hp) ∧ bl (val 2 bs).toNat = hp + 1 := by
  have zero : ∀ n : Nat, val 2 (List.replicate n 0) = 0 := fun n => by
    have := val_rep0 n []
    rw [List.append_nil] at this
    rw [this]
    simp [val]
  rcases low_split h with q | ⟨k, r, q⟩
  · rw [q, zero] at hz; exact absurd rfl hz
  · rcases high_split h with q2 | ⟨as, z, q2⟩
    · rw [q2, zero] at hz; exact absurd rfl hz
    · have hr : Bits r := (bits_app (q ▸ h)).2.tail
      have ha : Bits as := (bits_app (q2 ▸ h)).1
      have f1 : spotsF 0 bs = (k : Int) :: spotsF (k + 1) r := by
        rw [q, spots_zero, Nat.zero_add, spotsF, if_pos rfl]
      have f2 : spotsF 0 bs = spotsF 0 as ++ [(as.length : Int)] := by
        rw [q2, spots_app, Nat.zero_add, spotsF, if_pos rfl]
        have := spots_zero z (as.length + 1) []
        rw [List.append_nil] at this
        rw [this]
        rfl
      refine ⟨k, r, as.length, q, hr, by rw [q]; simp, by rw [f1]; simp, by rw [f2, atI_last (by simp)]; simp, ?_⟩
      have hv : val 2 bs = val 2 as + 2 ^ as.length := by
        rw [q2, val_append, val_b, zero]
        omega
      have hn := ha.nn
      have hp : (0 : Int) < 2 ^ as.length := Int.pow_pos (by omega)
      have hnat : (val 2 bs).toNat = (val 2 as).toNat + 2 ^ as.length := by
        rw [hv, Int.toNat_add hn.1 (by omega)]
        rw [← pow_nat, Int.toNat_natCast]
      have h3 : (val 2 as).toNat < 2 ^ as.length := by
        have := hn.2
        rw [← pow_nat] at this
        omega
      have g1 := lt_bl (val 2 bs).toNat as.length
      have g2 := lt_bl (val 2 bs).toNat (as.length + 1)
      rw [Nat.pow_succ] at g2
      omega
theorem drop_cons {α : Type} {xs : List α} {k : Nat} (h : k < xs.length) : xs.drop k = xs[k] :: xs.drop (k + 1) := List.drop_eq_getElem_cons h
theorem atb {D : List Int} {k : Nat} (hk : k < D.length) : atI (D.map PV.int) (k : Nat) = some (.int D[k]) := by
  rw [atI_of, List.getElem?_map, List.getElem?_eq_getElem hk]
  rfl
theorem sl_none {α : Type} (xs : List α) (n : Nat) : cutP xs none (some (n : Int)) = xs.take n := by
  unfold cutP
  have e : HT.sIx xs.length 0 none = 0 := rfl
  have e2 : HT.sIx xs.length xs.length (some (n : Int)) = min n xs.length := by
    simp [HT.sIx]
    omega
  rw [e, e2]
  simp
theorem sl_some {α : Type} (xs : List α) (n : Nat) : cutP xs (some (n : Int)) none = xs.drop n := by
  unfold cutP
  have e2 : HT.sIx xs.length 0 (some (n : Int)) = min n xs.length := by
    simp [HT.sIx]
    omega
  rw [e2, HT.sIx_none]
  by_cases h : n ≤ xs.length
  · rw [Nat.min_eq_left h]
    exact List.take_of_length_le (by rw [List.length_drop]; omega)
  · rw [Nat.min_eq_right (by omega), List.drop_eq_nil_of_le (by omega : xs.length ≤ n)]
    try simp
theorem lst_trich {a b : List Int} (h : ¬ a < b) (g : ¬ b < a) : a = b := List.le_antisymm (List.not_lt.mp g) (List.not_lt.mp h)
theorem minP_key {α : Type} (f : α → PV) (key : α → List Int) (hlt : ∀ a b, PySem.W.dataLt (toD (f a)) (toD (f b)) = decide (key a < key b)) : ∀ (as : List α) (a : α), ∃ m ∈ a :: as, minP (f a) (as.map f) = f m ∧ ∀ x ∈ a :: as, ¬ key x < key m
  | [], a => ⟨a, by simp, rfl, by simp⟩
  | b :: r, a => by
    rw [List.map_cons]
    unfold minP
    rw [hlt b a]
    by_cases h : key b < key a
    · rw [if_pos (decide_eq_true h)]
      obtain ⟨m, hm, e, hx⟩ := minP_key f key hlt r b
      refine ⟨m, List.mem_cons_of_mem _ hm, e, fun x xm => ?_⟩
      rcases List.mem_cons.mp xm with rfl | xm
      · exact fun z => hx b List.mem_cons_self (List.lt_trans h z)
      · exact hx x xm
    · rw [if_neg (by simpa using h)]
      obtain ⟨m, hm, e, hx⟩ := minP_key f key hlt r a
      refine ⟨m, ?_, e, fun x xm => ?_⟩
      · rcases List.mem_cons.mp hm with q | q
        · rw [q]; simp
        · simp [q]
      · rcases List.mem_cons.mp xm with rfl | xm
        · exact hx _ List.mem_cons_self
        · rcases List.mem_cons.mp xm with rfl | xm
          · intro z
            have h1 := hx a List.mem_cons_self
            by_cases e2 : key m = key a
            · rw [e2] at z; exact h z
            · have h3 : key m < key a := Classical.byContradiction fun q => e2 (lst_trich q h1)
              exact h (List.lt_trans z h3)
          · exact hx x (List.mem_cons_of_mem _ xm)
theorem toDs_ints : ∀ o : List Int, toDs (o.map PV.int) = o.map PyData.int
  | [] => rfl
  | n :: r => by simp only [List.map_cons, toDs, toD, toDs_ints r]
def ordP (o : List Int) : PV := .tup (o.map .int)
theorem ordP_lt (a b : List Int) : PySem.W.dataLt (toD (ordP a)) (toD (ordP b)) = decide (a < b) := by
  unfold ordP
  simp only [toD, toDs_ints]
  rw [PySem.W.dataLt_tuple]
  exact PySem.W.dataLt_ints a b
theorem ordP_alike (a b : List Int) : PySem.W.alike (toD (ordP a)) (toD (ordP b)) = true := by
  unfold ordP
  simp only [toD, toDs_ints, PySem.W.alike]
  exact PySem.W.alike_ints a b
theorem ordP_dep (o : List Int) : dep (ordP o) = 1 := by simp [ordP, dep, deps_ints]
theorem alikeP_map {α : Type} (f : α → PV) (h : ∀ a b, PySem.W.alike (toD (f a)) (toD (f b)) = true) (h2 : ∀ a, isNon (toD (f a)) = false) (as : List α) : alikeP (as.map f) = true := by
  have e : toDs (as.map f) = as.map fun a => toD (f a) := by
    induction as with
    | nil => rfl
    | cons a r ih => simp only [List.map_cons, toDs, ih]
  unfold alikeP
  rw [e]
  simp [List.all_eq_true, h, h2]
theorem deps_map_le {α : Type} (f : α → PV) (n : Nat) (h : ∀ a, dep (f a) ≤ n) : ∀ as : List α, deps (as.map f) ≤ n
  | [] => by simp
  | a :: r => by
    have := deps_map_le f n h r
    have := h a
    simp only [List.map_cons, deps_cons]
    omega
theorem pMinA_map {α : Type} (f : α → PV) (key : α → List Int) (hlt : ∀ a b, PySem.W.dataLt (toD (f a)) (toD (f b)) = decide (key a < key b)) (h : ∀ a b, PySem.W.alike (toD (f a)) (toD (f b)) = true) (h2 : ∀ a, isNon (toD (f a)) = false) (hd : ∀ a, dep (f a) ≤ 59) (ht : ∀ a, ∃ ps, f a = .tup ps) {as : List α} (hne : as ≠ []) : ∃ m ∈ as, pMinA (.lst (as.map f)) = some (f m) ∧ ∀ x ∈ as, ¬ key x < key m := by
  cases as with
  | nil => exact absurd rfl hne
  | cons a r =>
    obtain ⟨m, hm, e, hx⟩ := minP_key f key hlt r a
    refine ⟨m, hm, ?_, hx⟩
    have n1 : pMin1 (.lst ((a :: r).map f)) = none := by
      obtain ⟨ps, q⟩ := ht a
      rw [List.map_cons, q]
      rfl
    unfold pMinA
    rw [n1]
    show pMinD (.lst (f a :: r.map f)) = _
    unfold pMinD
    have al := alikeP_map f h h2 (a :: r)
    have dp := deps_map_le f 59 hd (a :: r)
    rw [List.map_cons] at al dp
    show (if deps (f a :: r.map f) ≤ 59 ∧ alikeP (f a :: r.map f) = true then some (minP (f a) (r.map f)) else none) = _
    rw [if_pos ⟨dp, al⟩, e]
theorem val_zero_sum : ∀ {r : List Int}, Bits r → (val 2 r = 0 ↔ r.sum = 0)
  | [], _ => by simp [val]
  | b :: r, h => by
    have ih := val_zero_sum h.tail
    have n1 := h.tail.nn.1
    have hs : 0 ≤ r.sum := by
      have := spots_len 0 h.tail
      omega
    have hb := h.head
    rw [val_b, List.sum_cons]
    constructor
    · intro z
      have : val 2 r = 0 := by omega
      have := ih.mp this
      omega
    · intro z
      have : r.sum = 0 := by omega
      have := ih.mpr this
      omega
theorem sum_rep0 (k : Nat) (r : List Int) : (List.replicate k 0 ++ r).sum = r.sum := by
  induction k with
  | zero => simp
  | succ k ih => rw [List.replicate_succ, List.cons_append, List.sum_cons, ih]; omega
theorem sort_run (k j : Nat) : sortI (List.replicate k 0 ++ List.replicate j 1) = List.replicate k 0 ++ List.replicate j 1 := by
  refine sorted_unique (sortI_perm _) (sortI_sorted _) ?_
  refine List.pairwise_append.mpr ⟨?_, ?_, ?_⟩
  · exact List.pairwise_replicate.mpr (.inr (Int.le_refl _))
  · exact List.pairwise_replicate.mpr (.inr (Int.le_refl _))
  · intro a ha b hb
    rw [List.eq_of_mem_replicate ha, List.eq_of_mem_replicate hb]
    omega
theorem ordP_eqv (a b : List Int) : PyData.eqv (toD (ordP a)) (toD (ordP b)) = decide (a = b) := by
  unfold ordP
  simp only [toD, toDs_ints, PyData.eqv]
  exact PySem.W.eqvAll_map a b
def rowP (e : Int) (o : List Int) : PV := .tup [.int e, ordP o]
theorem rowP_toD (e : Int) (o : List Int) : toD (rowP e o) = .tuple [.int e, toD (ordP o)] := by simp [rowP, toD, toDs]
theorem rowP_alike (e e' : Int) (a b : List Int) : PySem.W.alike (toD (rowP e a)) (toD (rowP e' b)) = true := by
  rw [rowP_toD, rowP_toD]
  simp only [PySem.W.alike, PySem.W.alikeAll, ordP_alike, Bool.and_self]
theorem rowP_lt (e e' : Int) (a b : List Int) : PySem.W.dataLt (toD (rowP e a)) (toD (rowP e' b)) = decide (e :: a < e' :: b) := by
  rw [rowP_toD, rowP_toD, PySem.W.dataLt_pair (by simp [PySem.W.alike]) (ordP_alike a b), ordP_eqv, ordP_lt, PySem.W.dataLt_int]
  simp only [PyData.eqv, beq_iff_eq, List.cons_lt_cons_iff]
  by_cases h : e = e'
  · by_cases h2 : a = b
    · subst h2; simp [h, List.lt_irrefl]
    · simp [h, h2]
  · simp [h]
theorem rowP_dep (e : Int) (o : List Int) : dep (rowP e o) = 2 := by simp [rowP, dep, ordP_dep]
theorem cut_take {α : Type} (xs : List α) (n : Nat) : cutP xs none (some (n : Int)) = xs.take n := by
  unfold cutP
  have e : HT.sIx xs.length 0 none = 0 := rfl
  have e2 : HT.sIx xs.length xs.length (some (n : Int)) = min n xs.length := by
    simp [HT.sIx]
    omega
  rw [e, e2]
  simp
end PF.Bt
namespace PF.Bt
open PF PySem L2
theorem hv' {w : Nat} {x : Int} (x0 : 0 ≤ x) (x1 : x < 2 ^ w) : val 2 (digs 2 x w) = x := by rw [val_digs (by omega), Int.emod_eq_of_lt x0 x1]
theorem bit_and' {x : Int} (x0 : 0 ≤ x) (k : Nat) : Builtin.bitAnd (x / 2 ^ k) 1 = dig 2 x k := by
  obtain ⟨n, hn⟩ := Int.eq_ofNat_of_zero_le (show 0 ≤ x / 2 ^ k from Int.ediv_nonneg x0 (Int.le_of_lt (Int.pow_pos (by omega))))
  unfold dig
  rw [hn]
  have := bitAnd_nat n 1
  rw [Nat.and_one_is_mod] at this
  exact_mod_cast this
theorem dig_bit (x : Int) (k : Nat) : dig 2 x k = 0 ∨ dig 2 x k = 1 := by
  unfold dig
  omega
theorem digs_snoc (x : Int) (k : Nat) : digs 2 x (k + 1) = digs 2 x k ++ [dig 2 x k] := by
  unfold digs
  rw [List.range_succ, List.map_append]
  rfl
theorem and_mask {a : Int} {k : Nat} (a0 : 0 ≤ a) : Builtin.bitAnd a (2 ^ k - 1) = a % 2 ^ k := by
  obtain ⟨n, rfl⟩ := Int.eq_ofNat_of_zero_le a0
  have e3 : (2 : Int) ^ k - 1 = ((2 ^ k - 1 : Nat) : Int) := by have := Nat.two_pow_pos k; rw [← pow_nat]; omega
  rw [e3, bitAnd_nat, Nat.and_two_pow_sub_one_eq_mod]
  simp
theorem or_shift {a b : Int} {k : Nat} (a0 : 0 ≤ a) (a1 : a < 2 ^ k) (b0 : 0 ≤ b) : Builtin.bitOr a (b * 2 ^ k) = a + 2 ^ k * b := by
  have pk : (0 : Int) < 2 ^ k := Int.pow_pos (by omega)
  have o1 := (Bw.split bw_or k 0 b a0 a1 (by omega : (0 : Int) ≤ 0) pk).1
  rw [Int.zero_add, Int.mul_zero, Int.add_zero, or_zero _ a0, zero_or b0, Int.mul_comm (2 ^ k) b] at o1
  rw [o1, Int.mul_comm]
theorem val_snoc (A : List Int) (b : Int) : val 2 (A ++ [b]) = val 2 A + 2 ^ A.length * b := by
  rw [val_append]
  simp [val]
theorem Bits.app {A B : List Int} (h : Bits A) (g : Bits B) : Bits (A ++ B) := fun x hx => by
  rcases List.mem_append.mp hx with q | q
  · exact h x q
  · exact g x q
theorem Bits.one {b : Int} (h : b = 0 ∨ b = 1) : Bits [b] := fun x hx => by rw [List.mem_singleton.mp hx]; exact h
theorem Bits.take {A : List Int} (h : Bits A) (n : Nat) : Bits (A.take n) := fun x hx => h x (List.mem_of_mem_take hx)
theorem Bits.drop {A : List Int} (h : Bits A) (n : Nat) : Bits (A.drop n) := fun x hx => h x (List.mem_of_mem_drop hx)
theorem digs_drop (x : Int) (k n : Nat) : (digs 2 x (k + n)).drop k = digs 2 (x / 2 ^ k) n := by
  apply List.ext_getElem
  · simp [digs]
  · intro i h1 h2
    simp only [digs, List.getElem_drop, List.getElem_map, List.getElem_range]
    unfold dig
    rw [Int.ediv_ediv_of_nonneg (Int.le_of_lt (Int.pow_pos (by omega))), ← Int.pow_add]
theorem digs_take (x : Int) (k n : Nat) (h : k ≤ n) : (digs 2 x n).take k = digs 2 x k := by
  apply List.ext_getElem
  · simp [digs]; omega
  · intro i h1 h2
    simp [digs]
theorem digs_of {D : List Int} (h : Bits D) : digs 2 (val 2 D) D.length = D := digs_val (by omega) h.rng
/-- [x:y] of a list -/
theorem sl_two {α : Type} (xs : List α) (m n : Nat) (h : m ≤ n) (h2 : n ≤ xs.length) : cutP xs (some (m : Int)) (some (n : Int)) = (xs.drop m).take (n - m) := by
  unfold cutP
  have e1 : HT.sIx xs.length 0 (some (m : Int)) = m := by
    have e : HT.sIx xs.length 0 (some (m : Int)) = min m xs.length := by
      simp [HT.sIx]
      omega
    rw [e]; omega
  have e2 : HT.sIx xs.length xs.length (some (n : Int)) = n := by
    have e : HT.sIx xs.length xs.length (some (n : Int)) = min n xs.length := by
      simp [HT.sIx]
      omega
    rw [e]; omega
  rw [e1, e2]

end PF.Bt

set_option Elab.async false
set_option linter.all false
set_option maxRecDepth 100000
namespace PF
open PySem PySem.Spec PyProof.Rows L2
/-! ## list(range(..)), tuple(range(..)) -/
def rgP : PV → PV → Option (List PV)
  | .int a, .int b => if (i62 a && i62 b && decide ((b - a).toNat ≤ 16777216)) = true then some (rngP a (b - a).toNat) else none
  | _, _ => none
def fRg2 (a b : E) : As := fun ρ => (a ρ).bind fun x ρ1 => (b ρ1).bind fun y ρ2 => ofO (rgP x y) ρ2
def fRg1 (a : E) : As := fun ρ => (a ρ).bind fun x ρ1 => ofO (rgP (.int 0) x) ρ1
def dRg2 (a b : E) : E := fun ρ => (a ρ).bind fun x ρ1 => (b ρ1).bind fun y ρ2 => ofO ((rgP x y).map .tup) ρ2
def dRg1 (a : E) : E := fun ρ => (a ρ).bind fun x ρ1 => ofO ((rgP (.int 0) x).map .tup) ρ1
theorem reps_rg {k : Kx} {S : Hp} (a b : Int) : Reps k S (rngP a (b - a).toNat) (rgV a b) := by
  unfold rngP rgV
  generalize List.range (b - a).toNat = L
  induction L with
  | nil => exact Reps.nil
  | cons i r ih => exact Reps.cons (by simp only [Rep]) ih
theorem rgP_of {k : Kx} {S : Hp} {p q : PV} {x y : V} {zs : List PV} (rx : Rep k S p x) (ry : Rep k S q y) (h : rgP p q = some zs) : ∃ a b, x = .int a ∧ y = .int b ∧ RgOk a b ∧ zs = rngP a (b - a).toNat := by
  cases p <;> cases q <;> simp only [rgP] at h <;> try cases h
  rename_i a b
  split at h
  · rename_i c
    cases h
    simp only [Rep] at rx ry
    subst rx
    subst ry
    simp only [Bool.and_eq_true, decide_eq_true_eq, i62] at c
    exact ⟨a, b, rfl, rfl, ⟨by omega, by omega, by omega, by omega, by omega⟩, rfl⟩
  · cases h
section
variable {X : Cx} {M : Mo} {N : List Str} {sc : Scope} {wr : Nat → Bool} {j : Nat} {G : Gam} {W : WX} {a b e : Expr} {da db : E} {p p2 pos pos2 : Pos}
theorem f_rg2 {e : Expr} (h : PE X e (tLstRg (tRg2 (LE G W da) (LE G W db)))) : FOk X G W e (fRg2 da db) :=
  pe_weak h fun σ H Q ⟨S, ρ, R, P⟩ => ⟨S, ρ, R, Post.bind (R1 := RE G.k) P fun x ρ1 v S1 H1 s1 R1 rv P1 => ⟨S1, ρ1, R1, Post.bind (R1 := RE G.k) P1 fun y ρ2 u S2 H2 s2 R2 ru P2 => by
    obtain ⟨z, ez, P3⟩ := Post.ofO P2
    obtain ⟨i, l, rfl, rfl, ok, rfl⟩ := rgP_of (rv.mono s2) ru ez
    refine ⟨i, l, rfl, rfl, ok, fun q hq => ?_⟩
    obtain ⟨R3, F⟩ := R2.newList hq (reps_rg i l)
    exact P3 _ S2 _ (.refl _) R3 F⟩⟩
theorem f_rg1 {e : Expr} (h : PE X e (tLstRg (tRg1 (LE G W da)))) : FOk X G W e (fRg1 da) :=
  pe_weak h fun σ H Q ⟨S, ρ, R, P⟩ => ⟨S, ρ, R, Post.bind (R1 := RE G.k) P fun x ρ1 v S1 H1 s1 R1 rv P1 => by
    obtain ⟨z, ez, P3⟩ := Post.ofO P1
    obtain ⟨i, l, ei, rfl, ok, rfl⟩ := rgP_of (k := G.k) (S := S1) (p := .int 0) (x := .int 0) (by simp only [Rep]) rv ez
    cases ei
    refine ⟨l, rfl, ok, fun q hq => ?_⟩
    obtain ⟨R3, F⟩ := R1.newList hq (reps_rg 0 l)
    exact P3 _ S1 _ (.refl _) R3 F⟩
theorem e_rg2 {e : Expr} (h : PE X e (tTupRg (tRg2 (LE G W da) (LE G W db)))) : EOk X G W e (dRg2 da db) :=
  pe_weak h fun σ H Q ⟨S, ρ, R, P⟩ => ⟨S, ρ, R, Post.bind (R1 := RE G.k) P fun x ρ1 v S1 H1 s1 R1 rv P1 => ⟨S1, ρ1, R1, Post.bind (R1 := RE G.k) P1 fun y ρ2 u S2 H2 s2 R2 ru P2 => by
    obtain ⟨z, ez, P3⟩ := Post.ofO P2
    obtain ⟨zs, ez2, rfl⟩ := Option.map_eq_some_iff.mp ez
    obtain ⟨i, l, rfl, rfl, ok, rfl⟩ := rgP_of (rv.mono s2) ru ez2
    refine ⟨i, l, rfl, rfl, ok, fun q hq => ?_⟩
    have g := Grow.new (S := S2) R2.sub hq (noTb_tup (xs := rgV i l))
    exact P3 _ _ _ g.sS (R2.grow g) (rep_tup (.of upd_same) (reps_rg i l))⟩⟩
theorem e_rg1 {e : Expr} (h : PE X e (tTupRg (tRg1 (LE G W da)))) : EOk X G W e (dRg1 da) :=
  pe_weak h fun σ H Q ⟨S, ρ, R, P⟩ => ⟨S, ρ, R, Post.bind (R1 := RE G.k) P fun x ρ1 v S1 H1 s1 R1 rv P1 => by
    obtain ⟨z, ez, P3⟩ := Post.ofO P1
    obtain ⟨zs, ez2, rfl⟩ := Option.map_eq_some_iff.mp ez
    obtain ⟨i, l, ei, rfl, ok, rfl⟩ := rgP_of (k := G.k) (S := S1) (p := .int 0) (x := .int 0) (by simp only [Rep]) rv ez2
    cases ei
    refine ⟨l, rfl, ok, fun q hq => ?_⟩
    have g := Grow.new (S := S1) R1.sub hq (noTb_tup (xs := rgV 0 l))
    exact P3 _ _ _ g.sS (R1.grow g) (rep_tup (.of upd_same) (reps_rg 0 l))⟩
theorem b_listRg1 (B : Bd X M N sc wr j G W) (hc : X.calm = true) (Y : Blt M) (h : EOk X G W a da) (hg : sc.names.lookup ("list" : Str) = some .globalImplicit := by kernel_rfl) (hr : sc.names.lookup ("range" : Str) = some .globalImplicit := by kernel_rfl)
    (na : starEach [a] X.env = (false, eval a X.env) :: starEach [] X.env := by rfl) (nr : starEach [.Call (.Name "range" p2) [a] [] pos2] X.env = (false, eval (.Call (.Name "range" p2) [a] [] pos2) X.env) :: starEach [] X.env := by rfl) : FOk X G W (.Call (.Name "list" p) [.Call (.Name "range" p2) [a] [] pos2] [] pos) (fRg1 da) :=
  f_rg1 (pe_listRg hc (B.gl hg) (B.non (Y.at (by kernel_rfl))) (prg_1 (B.gl hr) (B.non (Y.at (by kernel_rfl))) h na) nr)
theorem b_listRg2 (B : Bd X M N sc wr j G W) (hc : X.calm = true) (Y : Blt M) (h : EOk X G W a da) (h' : EOk X G W b db) (hg : sc.names.lookup ("list" : Str) = some .globalImplicit := by kernel_rfl) (hr : sc.names.lookup ("range" : Str) = some .globalImplicit := by kernel_rfl)
    (na : starEach [a, b] X.env = (false, eval a X.env) :: starEach [b] X.env := by rfl) (nb : starEach [b] X.env = (false, eval b X.env) :: starEach [] X.env := by rfl) (hp : (backTo pos2 (starEach [b] X.env)).any (·.1) = false := by rfl) (nr : starEach [.Call (.Name "range" p2) [a, b] [] pos2] X.env = (false, eval (.Call (.Name "range" p2) [a, b] [] pos2) X.env) :: starEach [] X.env := by rfl) : FOk X G W (.Call (.Name "list" p) [.Call (.Name "range" p2) [a, b] [] pos2] [] pos) (fRg2 da db) :=
  f_rg2 (pe_listRg hc (B.gl hg) (B.non (Y.at (by kernel_rfl))) (prg_2 (B.gl hr) (B.non (Y.at (by kernel_rfl))) h h' na nb hp) nr)
theorem b_tupRg1 (B : Bd X M N sc wr j G W) (hc : X.calm = true) (Y : Blt M) (h : EOk X G W a da) (hg : sc.names.lookup ("tuple" : Str) = some .globalImplicit := by kernel_rfl) (hr : sc.names.lookup ("range" : Str) = some .globalImplicit := by kernel_rfl)
    (na : starEach [a] X.env = (false, eval a X.env) :: starEach [] X.env := by rfl) (nr : starEach [.Call (.Name "range" p2) [a] [] pos2] X.env = (false, eval (.Call (.Name "range" p2) [a] [] pos2) X.env) :: starEach [] X.env := by rfl) : EOk X G W (.Call (.Name "tuple" p) [.Call (.Name "range" p2) [a] [] pos2] [] pos) (dRg1 da) :=
  e_rg1 (pe_tupRg hc (B.gl hg) (B.non (Y.at (by kernel_rfl))) (prg_1 (B.gl hr) (B.non (Y.at (by kernel_rfl))) h na) nr)
theorem b_tupRg2 (B : Bd X M N sc wr j G W) (hc : X.calm = true) (Y : Blt M) (h : EOk X G W a da) (h' : EOk X G W b db) (hg : sc.names.lookup ("tuple" : Str) = some .globalImplicit := by kernel_rfl) (hr : sc.names.lookup ("range" : Str) = some .globalImplicit := by kernel_rfl)
    (na : starEach [a, b] X.env = (false, eval a X.env) :: starEach [b] X.env := by rfl) (nb : starEach [b] X.env = (false, eval b X.env) :: starEach [] X.env := by rfl) (hp : (backTo pos2 (starEach [b] X.env)).any (·.1) = false := by rfl) (nr : starEach [.Call (.Name "range" p2) [a, b] [] pos2] X.env = (false, eval (.Call (.Name "range" p2) [a, b] [] pos2) X.env) :: starEach [] X.env := by rfl) : EOk X G W (.Call (.Name "tuple" p) [.Call (.Name "range" p2) [a, b] [] pos2] [] pos) (dRg2 da db) :=
  e_rg2 (pe_tupRg hc (B.gl hg) (B.non (Y.at (by kernel_rfl))) (prg_2 (B.gl hr) (B.non (Y.at (by kernel_rfl))) h h' na nb hp) nr)
end
@[simp ↓] theorem fRg2_e {a b : E} {ρ : Env} : fRg2 a b ρ = (a ρ).bind fun x ρ1 => (b ρ1).bind fun y ρ2 => ofO (rgP x y) ρ2 := rfl
@[simp ↓] theorem fRg1_e {a : E} {ρ : Env} : fRg1 a ρ = (a ρ).bind fun x ρ1 => ofO (rgP (.int 0) x) ρ1 := rfl
@[simp ↓] theorem dRg2_e {a b : E} {ρ : Env} : dRg2 a b ρ = (a ρ).bind fun x ρ1 => (b ρ1).bind fun y ρ2 => ofO ((rgP x y).map .tup) ρ2 := rfl
@[simp ↓] theorem dRg1_e {a : E} {ρ : Env} : dRg1 a ρ = (a ρ).bind fun x ρ1 => ofO ((rgP (.int 0) x).map .tup) ρ1 := rfl
theorem rgP_of_le {a b : Int} (h0 : 0 ≤ a) (h1 : b ≤ 16777216) (h2 : a ≤ 16777216) (h3 : 0 ≤ b) : rgP (.int a) (.int b) = some (rngP a (b - a).toNat) := by
  show (if (i62 a && i62 b && decide ((b - a).toNat ≤ 16777216)) = true then some (rngP a (b - a).toNat) else none) = _
  rw [if_pos]
  rw [i62_of (by omega) (by omega), i62_of (by omega) (by omega)]
  simp
  omega
end PF

set_option Elab.async false
set_option linter.all false
set_option maxRecDepth 100000
namespace PF
open PySem PySem.Spec PyProof.Rows L2
/-! ## zip of three lists, of three tuples -/
def SqB (b : Bool) (K : PySem.W.Frag) (H : Hp) (a : Addr) (xs : List V) : Prop := match b with
  | true => SqL K H a xs
  | false => SqT K H a xs
def ItB (b : Bool) (h : Heap) (it a : Addr) (i : Nat) : Prop := match b with
  | true => h.IsListIter it a i
  | false => h.IsTupleIter it a i
def HsB (b : Bool) (h : Heap) (a : Addr) (items : Array Value) : Prop := match b with
  | true => h.IsList a items
  | false => h.IsTuple a items
theorem drawsB {prog : Program} {w : World} {A : Around} (b : Bool) (hh : A.handled = none) (it a : Addr) (hne : a ≠ it) (items : Array Value) : Draws prog w A it [it, a] items.size (fun i v => items[i]? = some v) (fun i h => ItB b h it a i ∧ HsB b h a items) := by
  cases b
  · exact Draws.tuple hh it a hne items
  · exact Draws.list hh it a hne items
section
variable {X : Cx} {pins : List (Addr × Obj)} {σ : L2.St} {H : Hp} {s : Shared} {a : Addr} {xs ys : List V}
theorem sqB_items {b : Bool} (I : Inv X pins σ H s) (h : SqB b X.K H a xs) : ∃ its : List Value, Vals xs its ∧ HsB b s.heap a its.toArray := by
  cases b
  · obtain ⟨its, rv, p, _⟩ := I.tuple h
    exact ⟨its, rv, p⟩
  · obtain ⟨its, rv, p, _⟩ := I.list h
    exact ⟨its, rv, p.isList⟩
theorem sqB_inj {b : Bool} (I : Inv X pins σ H s) (h : SqB b X.K H a xs) (h' : SqB b X.K H a ys) : xs = ys := by
  cases b
  · exact I.tuple_inj h h'
  · exact I.list_inj h h'
theorem hsB_lt {b : Bool} {h : Heap} {items : Array Value} (p : HsB b h a items) : a < h.objs.size := by
  cases b
  · obtain ⟨o, e, _⟩ := p; exact Heap.lt_size e
  · obtain ⟨o, e, _⟩ := p; exact Heap.lt_size e
theorem itB_obj {b : Bool} {h : Heap} {it : Addr} {i : Nat} (p : ItB b h it a i) : ∃ o, h.get? it = some o ∧ (∀ v, o.data ≠ .cell v) := by
  cases b
  · obtain ⟨o, e, _, d⟩ := p; exact ⟨o, e, fun v q => by rw [d] at q; cases q⟩
  · obtain ⟨o, e, _, d⟩ := p; exact ⟨o, e, fun v q => by rw [d] at q; cases q⟩
theorem itB_at {b : Bool} {h h' : Heap} {it : Addr} {i : Nat} (p : ItB b h it a i) (k : ∀ o, h.get? it = some o → h'.get? it = some o) : ItB b h' it a i := by
  cases b
  · exact Heap.IsTupleIter.at p k
  · exact Heap.IsListIter.at p k
end
def It3 (b : Bool) (K : PySem.W.Frag) (a1 a2 a3 : Addr) : It where
  go i H := ∃ xs ys zs x y z, SqB b K H a1 xs ∧ SqB b K H a2 ys ∧ SqB b K H a3 zs ∧ xs[i]? = some x ∧ ys[i]? = some y ∧ zs[i]? = some z
  yld i H v H' := ∃ T x y z, v = V.ref T ∧ H T = none ∧ H' = upd H T (HO.tup [x, y, z]) ∧ (∀ xs, SqB b K H a1 xs → xs[i]? = some x) ∧ (∀ xs, SqB b K H a2 xs → xs[i]? = some y) ∧ ∀ xs, SqB b K H a3 xs → xs[i]? = some z
  stop i H := ∃ xs ys zs : List V, SqB b K H a1 xs ∧ SqB b K H a2 ys ∧ SqB b K H a3 zs ∧ i = min (min xs.length ys.length) zs.length
theorem turn_zip3 {P : Program} {w : World} {K : PySem.W.Frag} {elts : List Expr} {kk : Nat} {tpos : Pos} (b : Bool) {a1 a2 a3 z TI TO i1 i2 i3 : Addr} (D : ZipSep3 z TI TO i1 i2 i3 [i1, a1] [i2, a2] [i3, a3]) (n1 : a1 ≠ i1) (n2 : a2 ≠ i2) (n3 : a3 ≠ i3) :
    Turn P w K (.Tuple elts kk tpos) (It3 b K a1 a2 a3) [z, TI, TO, i1, i2, i3] z (fun i h => IsZip h z TI TO .none ∧ IsTupOf3 h TI (.ref i1) (.ref i2) (.ref i3) ∧ (∃ x y w, IsTupOf3 h TO x y w) ∧ ItB b h i1 a1 i ∧ ItB b h i2 a2 i ∧ ItB b h i3 a3 i) where
  mem := by simp
  obj i h st c hc := by
    obtain ⟨hz, hTI, ⟨x, y, u, hTO⟩, q1, q2, q3⟩ := st
    have e' : c = z ∨ c = TI ∨ c = TO ∨ c = i1 ∨ c = i2 ∨ c = i3 := by simpa using hc
    rcases e' with q | q | q | q | q | q
    · rw [q]; exact ⟨_, hz, fun v q => nomatch q⟩
    · rw [q]; exact ⟨_, hTI, fun v q => nomatch q⟩
    · rw [q]; exact ⟨_, hTO, fun v q => nomatch q⟩
    · rw [q]; exact itB_obj q1
    · rw [q]; exact itB_obj q2
    · rw [q]; exact itB_obj q3
  keep i h h' st k := by
    obtain ⟨hz, hTI, ⟨x, y, u, hTO⟩, q1, q2, q3⟩ := st
    exact ⟨k z (by simp) _ hz, k TI (by simp) _ hTI, ⟨x, y, u, k TO (by simp) _ hTO⟩, itB_at q1 fun o q => k i1 (by simp) o q, itB_at q2 fun o q => k i2 (by simp) o q, itB_at q3 fun o q => k i3 (by simp) o q⟩
  item X hP hw hK hc i pins s σ H E I hf st hg := by
    subst hP hw hK
    obtain ⟨hz, hTI, hTO, q1, q2, q3⟩ := st
    obtain ⟨xs, ys, zs, x, y, u, hx1, hx2, hx3, gx, gy, gu⟩ := hg
    obtain ⟨t1, r1, p1⟩ := sqB_items I hx1
    obtain ⟨t2, r2, p2⟩ := sqB_items I hx2
    obtain ⟨t3, r3, p3⟩ := sqB_items I hx3
    obtain ⟨v1, e1, w1⟩ := Vals.get r1 gx
    obtain ⟨v2, e2, w2⟩ := Vals.get r2 gy
    obtain ⟨v3, e3, w3⟩ := Vals.get r3 gu
    have l1 : i < t1.toArray.size := by simpa using (List.getElem?_eq_some_iff.mp e1).1
    have l2 : i < t2.toArray.size := by simpa using (List.getElem?_eq_some_iff.mp e2).1
    have l3 : i < t3.toArray.size := by simpa using (List.getElem?_eq_some_iff.mp e3).1
    have Wk := WalksT.zipD3 (prog := X.prog) (w := X.w) (A := X.A) D (drawsB b (A := X.A.in1) (I.ok.hd hc) i1 a1 n1 t1.toArray) (drawsB b (A := X.A.in1) (I.ok.hd hc) i2 a2 n2 t2.toArray) (drawsB b (A := X.A.in1) (I.ok.hd hc) i3 a3 n3 t3.toArray)
    obtain ⟨o1, ho1, _⟩ := itB_obj q1
    obtain ⟨o2, ho2, _⟩ := itB_obj q2
    obtain ⟨o3, ho3, _⟩ := itB_obj q3
    obtain ⟨b1, b2, b3, hTO'⟩ := id hTO
    have lt : ∀ c ∈ [z, TI, TO, i1, i2, i3], c < s.heap.objs.size := by
      intro c hc
      have e' : c = z ∨ c = TI ∨ c = TO ∨ c = i1 ∨ c = i2 ∨ c = i3 := by simpa using hc
      rcases e' with q | q | q | q | q | q
      · rw [q]; exact Heap.lt_size hz
      · rw [q]; exact Heap.lt_size hTI
      · rw [q]; exact Heap.lt_size hTO'
      · rw [q]; exact Heap.lt_size ho1
      · rw [q]; exact Heap.lt_size ho2
      · rw [q]; exact Heap.lt_size ho3
    have nin : ∀ c, c ∉ [z, TI, TO, i1, i2, i3] → c ∉ [z, TO, i1, i2, i3] := fun c h h' => h (by
      have e' : c = z ∨ c = TO ∨ c = i1 ∨ c = i2 ∨ c = i3 := by simpa using h'
      rcases e' with q | q | q | q | q <;> simp [q])
    refine Wk.item i s _ _ (by omega) ⟨hz, hTI, hTO, ⟨q1, p1⟩, ⟨q2, p2⟩, ⟨q3, p3⟩⟩ fun T vals h' tk pt hT1 hT2 mid k1 => ⟨_, rfl, ?_⟩
    obtain ⟨v1', v2', v3', f1, f2, f3, rfl⟩ := pt
    have ev1 : v1' = v1 := by
      rw [List.getElem?_toArray, e1] at f1
      exact (Option.some.inj f1).symm
    have ev2 : v2' = v2 := by
      rw [List.getElem?_toArray, e2] at f2
      exact (Option.some.inj f2).symm
    have ev3 : v3' = v3 := by
      rw [List.getElem?_toArray, e3] at f3
      exact (Option.some.inj f3).symm
    subst ev1
    subst ev2
    subst ev3
    have apt := Wk.apart i T h' mid
    refine Wk.go elts kk tpos i T _ _ _ mid fun h'' st2 k2 => ?_
    obtain ⟨o, ho, hcl, n, hd⟩ := hT2
    have hT3 : h''.get? T = some o := k2 T o apt ho
    have new : ObjOk X.prog X.w (upd H T (HO.tup [x, y, u])) h'' T (HO.tup [x, y, u]) := ⟨id (of_decide_eq_true (id (Eq.refl true))), [v1', v2', v3'], Paired.cons w1 (Paired.cons w2 (Paired.cons w3 Paired.nil)), o, hT3, hcl, n, hd⟩
    have I1 := Inv.turnedNew (t' := tk) (ch := [z, TI, TO, i1, i2, i3]) I (fun c ob hb q => k2 c ob (nin c hb) (k1 c ob (nin c hb) q)) hf hT1 new
    refine ⟨V.ref T, _, I1, rfl, ⟨T, x, y, u, rfl, I.hok.fresh hT1, rfl, fun l hl => by rw [sqB_inj I hl hx1]; exact gx, fun l hl => by rw [sqB_inj I hl hx2]; exact gy, fun l hl => by rw [sqB_inj I hl hx3]; exact gu⟩, ⟨st2.1, st2.2.1, st2.2.2.1, st2.2.2.2.1.1, st2.2.2.2.2.1.1, st2.2.2.2.2.2.1⟩, fun c hb => ?_⟩
    rw [upd_ne (Nat.ne_of_lt (Nat.lt_of_lt_of_le (lt c hb) hT1))]
    exact (hf c hb).1
  done X hP hw hK hc i pins s σ H E I hf st hg := by
    subst hP hw hK
    obtain ⟨hz, hTI, hTO, q1, q2, q3⟩ := st
    obtain ⟨xs, ys, zs, hx1, hx2, hx3, hi⟩ := hg
    obtain ⟨t1, r1, p1⟩ := sqB_items I hx1
    obtain ⟨t2, r2, p2⟩ := sqB_items I hx2
    obtain ⟨t3, r3, p3⟩ := sqB_items I hx3
    have hl : i = min (min t1.toArray.size t2.toArray.size) t3.toArray.size := by
      rw [hi, Vals.length r1, Vals.length r2, Vals.length r3]
      simp
    subst hl
    have Wk := WalksT.zipD3 (prog := X.prog) (w := X.w) (A := X.A) D (drawsB b (A := X.A.in1) (I.ok.hd hc) i1 a1 n1 t1.toArray) (drawsB b (A := X.A.in1) (I.ok.hd hc) i2 a2 n2 t2.toArray) (drawsB b (A := X.A.in1) (I.ok.hd hc) i3 a3 n3 t3.toArray)
    have nin : ∀ c, c ∉ [z, TI, TO, i1, i2, i3] → c ∉ [z, TO, i1, i2, i3] := fun c h h' => h (by
      have e' : c = z ∨ c = TO ∨ c = i1 ∨ c = i2 ∨ c = i3 := by simpa using h'
      rcases e' with q | q | q | q | q <;> simp [q])
    refine Wk.done s _ _ ⟨hz, hTI, hTO, ⟨q1, p1⟩, ⟨q2, p2⟩, ⟨q3, p3⟩⟩ fun h' tk k => ⟨rfl, ?_⟩
    exact Inv.turnedL (ch := [z, TI, TO, i1, i2, i3]) I (fun c o hb q => k c o (nin c hb) q) hf
  self A i s Q E st h := wpAny_pyIter_zip st.1 h
theorem begins_B {v : Addr} (b : Bool) (items : Array Value) : ∃ o : Obj, Begins (.ref v) o (fun h => HsB b h v items) ∧ ∀ (h : Heap) (it : Addr), h.get? it = some o → ItB b h it v 0 := by
  cases b
  · exact ⟨_, begins_tuple v items, fun h it e => ⟨_, e, rfl, rfl⟩⟩
  · exact ⟨_, begins_list v items, fun h it e => ⟨_, e, rfl, rfl⟩⟩
def iZip3 (K : PySem.W.Frag) (ta : TA) : TI := fun σ H R => ta σ H fun vs H1 => ∃ (b : Bool) (a1 a2 a3 : Addr) (xs ys zs : List V), vs = [.ref a1, .ref a2, .ref a3] ∧ SqB b K H1 a1 xs ∧ SqB b K H1 a2 ys ∧ SqB b K H1 a3 zs ∧ R (It3 b K a1 a2 a3) H1
theorem pi_zip3 {X : Cx} {e e2 e3 : Expr} {ta : TA} {p pos tpos : Pos} {elts : List Expr} {kk : Nat} (hg : Gl X "zip") (hm : X.mg "zip" = none) (ha : PA X [e, e2, e3] ta)
    (hs : starEach [e, e2, e3] X.env = (false, eval e X.env) :: starEach [e2, e3] X.env := by rfl) (hpl : (backTo pos (starEach [e2, e3] X.env)).any (·.1) = false := by rfl) :
    PI X (.Tuple elts kk tpos) (.Call (.Name "zip" p) [e, e2, e3] [] pos) (iZip3 X.K ta) := by
  refine ⟨fun pins s σ H R I h => ?_⟩
  refine Call_ (ld_blt I hg hm PyProof.Rows.boot_zip (PyProof.Rows.callWith_type1 (thn (ha.run pos pins s σ H _ I h) fun us s1 ⟨vs, H1, I1, r1, q1⟩ => ?_) hs hpl))
  obtain ⟨b, a1, a2, a3, xs, ys, zs, ex, h1, h2, h3, q⟩ := q1
  subst ex
  cases r1 with
  | cons r rr =>
    cases rr with
    | cons r' rr =>
      cases rr with
      | cons r'' rr =>
        cases rr
        cases r
        cases r'
        cases r''
        obtain ⟨t1, _, p1⟩ := sqB_items I1 h1
        obtain ⟨t2, _, p2⟩ := sqB_items I1 h2
        obtain ⟨t3, _, p3⟩ := sqB_items I1 h3
        obtain ⟨o1, B1, g1⟩ := begins_B b t1.toArray (v := a1)
        obtain ⟨o2, B2, g2⟩ := begins_B b t2.toArray (v := a2)
        obtain ⟨o3, B3, g3⟩ := begins_B b t3.toArray (v := a3)
        have k1 := hsB_lt p1
        have k2 := hsB_lt p2
        have k3 := hsB_lt p3
        refine zip_begins3 B1 B2 B3 p1 p2 p3 fun h' hz hTI hTO e1 e2 e3 hsz hk => wpAny_pyIter_zip hz ?_
        have I2 : Inv X pins σ H1 { s1 with heap := h' } := I1.kept (t' := s1.toks) hk
        have D := zip_sep3 (N := s1.heap.objs.size) (fp1 := [a1]) (fp2 := [a2]) (fp3 := [a3]) (by simpa using k1) (by simpa using k2) (by simpa using k3)
        refine ⟨s1.heap.objs.size + 5, [s1.heap.objs.size + 5, s1.heap.objs.size + 3, s1.heap.objs.size + 4, s1.heap.objs.size, s1.heap.objs.size + 1, s1.heap.objs.size + 2], _, _, H1, rfl, I2, turn_zip3 b D (Nat.ne_of_lt k1) (Nat.ne_of_lt (Nat.lt_of_lt_of_le k2 (Nat.le_add_right _ _))) (Nat.ne_of_lt (Nat.lt_of_lt_of_le k3 (Nat.le_add_right _ _))), ⟨hz, hTI, ⟨_, _, _, hTO⟩, g1 _ _ e1, g2 _ _ e2, g3 _ _ e3⟩, fun c hcm => ?_, q⟩
        have hle : s1.heap.objs.size ≤ c := by
          have e' : c = s1.heap.objs.size + 5 ∨ c = s1.heap.objs.size + 3 ∨ c = s1.heap.objs.size + 4 ∨ c = s1.heap.objs.size ∨ c = s1.heap.objs.size + 1 ∨ c = s1.heap.objs.size + 2 := by simpa using hcm
          rcases e' with z | z | z | z | z | z <;> (rw [z]; first | exact Nat.le_add_right _ _ | exact Nat.le_refl _)
        exact I1.fpOk hle (I1.hok.fresh hle)
def zipP3 : List PV → List PV → List PV → List PV
  | x :: xs, y :: ys, z :: zs => .tup [x, y, z] :: zipP3 xs ys zs
  | _, _, _ => []
theorem zipP3_len : ∀ (xs ys zs : List PV), (zipP3 xs ys zs).length = min (min xs.length ys.length) zs.length
  | [], _, _ => by simp [zipP3]
  | _ :: _, [], _ => by simp [zipP3]
  | _ :: _, _ :: _, [] => by simp [zipP3]
  | _ :: xs, _ :: ys, _ :: zs => by simp only [zipP3, List.length_cons, zipP3_len xs ys zs]; omega
theorem zipP3_get : ∀ {xs ys zs : List PV} {i : Nat} {p : PV}, (zipP3 xs ys zs)[i]? = some p → ∃ x y z, xs[i]? = some x ∧ ys[i]? = some y ∧ zs[i]? = some z ∧ p = .tup [x, y, z]
  | [], _, _, _, _, h => by simp [zipP3] at h
  | _ :: _, [], _, _, _, h => by simp [zipP3] at h
  | _ :: _, _ :: _, [], _, _, h => by simp [zipP3] at h
  | x :: xs, y :: ys, z :: zs, 0, p, h => by
    simp only [zipP3, List.getElem?_cons_zero] at h
    cases h
    exact ⟨x, y, z, rfl, rfl, rfl, rfl⟩
  | x :: xs, y :: ys, z :: zs, i + 1, p, h => by
    simp only [zipP3, List.getElem?_cons_succ] at h
    obtain ⟨a, b, c, h1, h2, h3, h4⟩ := zipP3_get h
    exact ⟨a, b, c, by simpa using h1, by simpa using h2, by simpa using h3, h4⟩
theorem sqB_mono {b : Bool} {K : PySem.W.Frag} {S H : Hp} {a : Addr} {xs : List V} (e : Same S H) (h : SqB b K S a xs) : SqB b K H a xs := by
  cases b
  · exact sqT_mono e h
  · exact e.seq h
theorem tup3 {k : Kx} {S : Hp} {t : Addr} {a b c : PV} {u v w : V} (h : S t = some (.tup [u, v, w])) (ra : Rep k S a u) (rb : Rep k S b v) (rc : Rep k S c w) : Rep k S (.tup [a, b, c]) (.ref t) :=
  rep_tup (.of h) (Reps.cons ra (Reps.cons rb (Reps.cons rc Reps.nil)))
theorem yl_zip3 {b : Bool} {k : Kx} {K : PySem.W.Frag} (hK : k.K = K) {S : Hp} {a1 a2 a3 : Addr} {ps qs rs : List PV} {us ws xs : List V} (h : SqB b k.K S a1 us) (r : Reps k S ps us) (h' : SqB b k.K S a2 ws) (r' : Reps k S qs ws) (h'' : SqB b k.K S a3 xs) (r'' : Reps k S rs xs) : Yl k S (It3 b K a1 a2 a3) (zipP3 ps qs rs) := by
  subst hK
  have up : ∀ {S' H' a} {l : List V}, Same S S' → Same S' H' → SqB b k.K S a l → SqB b k.K H' a l := fun e1 e2 h => sqB_mono e2 (sqB_mono e1 h)
  refine ⟨fun i S' H' e1 e2 hi => ?_, fun i S' H' x H'' e1 e2 hi hy => ?_, fun S' H' e1 e2 => ?_⟩
  · rw [zipP3_len, r.len, r'.len, r''.len] at hi
    have h1 : i < us.length := by omega
    have h2 : i < ws.length := by omega
    have h3 : i < xs.length := by omega
    exact ⟨us, ws, xs, us[i], ws[i], xs[i], up e1 e2 h, up e1 e2 h', up e1 e2 h'', by simp [h1], by simp [h2], by simp [h3]⟩
  · obtain ⟨t, y, w, v, rfl, hn, rfl, hx, hw, hv⟩ := hy
    have g := Grow.new (S := S') e2 hn (noTb_tup (xs := [y, w, v]))
    refine ⟨_, g, fun p hp => ?_⟩
    obtain ⟨z, z', z'', hz, hz', hz'', rfl⟩ := zipP3_get hp
    obtain ⟨u, hu, ru⟩ := r.get hz
    obtain ⟨u', hu', ru'⟩ := r'.get hz'
    obtain ⟨u'', hu'', ru''⟩ := r''.get hz''
    have q1 := hx us (up e1 e2 h)
    rw [hu] at q1
    cases q1
    have q2 := hw ws (up e1 e2 h')
    rw [hu'] at q2
    cases q2
    have q3 := hv xs (up e1 e2 h'')
    rw [hu''] at q3
    cases q3
    exact tup3 upd_same ((ru.mono e1).mono g.sS) ((ru'.mono e1).mono g.sS) ((ru''.mono e1).mono g.sS)
  · exact ⟨us, ws, xs, up e1 e2 h, up e1 e2 h', up e1 e2 h'', by rw [zipP3_len, r.len, r'.len, r''.len]⟩
def pZip3 : List PV → Option (List PV)
  | [.lst ps, .lst qs, .lst rs] => some (zipP3 ps qs rs)
  | [.tup ps, .tup qs, .tup rs] => some (zipP3 ps qs rs)
  | _ => none
section
variable {X : Cx} {G : Gam} {W : WX} {a b c : Expr} {p pos : Pos}
theorem i_zip3 {elts : List Expr} {kk : Nat} {tpos : Pos} {u : As} (C : Ct X G W) (hg : Gl X "zip") (hm : X.mg "zip" = none) (h : AOk X G W [a, b, c] u) (hs : starEach [a, b, c] X.env = (false, eval a X.env) :: starEach [b, c] X.env := by rfl) (hpl : (backTo pos (starEach [b, c] X.env)).any (·.1) = false := by rfl) : IOk X G W (.Tuple elts kk tpos) (.Call (.Name "zip" p) [a, b, c] [] pos) (iA pZip3 u) :=
  pi_weak (pi_zip3 hg hm h hs hpl) fun σ H Q ⟨S, ρ, R, P⟩ => ⟨S, ρ, R, Post.bind (R1 := RA G.k) P fun x ρ1 v S1 H1 s1 R1 rv P1 => by
    obtain ⟨z, ez, P2⟩ := Post.ofO P1
    unfold pZip3 at ez
    split at ez
    · cases ez
      simp only [Reps, Rep] at rv
      obtain ⟨_, _, rfl, ⟨l, us, rfl, h1, r⟩, _, _, rfl, ⟨l', us', rfl, h1', r'⟩, _, _, rfl, ⟨l'', us'', rfl, h1'', r''⟩, rfl⟩ := rv
      exact ⟨true, l, l', l'', us, us', us'', rfl, .of (R1.sub _ _ h1), .of (R1.sub _ _ h1'), .of (R1.sub _ _ h1''), P2 _ S1 H1 (.refl _) R1 (yl_zip3 (b := true) C.K (.of h1) r (.of h1') r' (.of h1'') r'')⟩
    · cases ez
      simp only [Reps, Rep] at rv
      obtain ⟨_, _, rfl, ⟨l, us, rfl, h1, r⟩, _, _, rfl, ⟨l', us', rfl, h1', r'⟩, _, _, rfl, ⟨l'', us'', rfl, h1'', r''⟩, rfl⟩ := rv
      exact ⟨false, l, l', l'', us, us', us'', rfl, by rw [← C.K]; exact sqT_mono R1.sub h1, by rw [← C.K]; exact sqT_mono R1.sub h1', by rw [← C.K]; exact sqT_mono R1.sub h1'', P2 _ S1 H1 (.refl _) R1 (yl_zip3 (b := false) C.K h1 r h1' r' h1'' r'')⟩
    · cases ez⟩
end
@[simp] theorem pZip3_l {ps qs rs : List PV} : pZip3 [.lst ps, .lst qs, .lst rs] = some (zipP3 ps qs rs) := rfl
@[simp] theorem pZip3_t {ps qs rs : List PV} : pZip3 [.tup ps, .tup qs, .tup rs] = some (zipP3 ps qs rs) := rfl
end PF

set_option Elab.async false
set_option linter.all false
set_option maxRecDepth 100000
namespace PF.Bt
open PF PySem L2
/-! ## words told by their bits, one by one -/
theorem bw_half {f g : Int → Int → Int} (B : Bw f g) (x y : Int) : f x y / 2 = f (x / 2) (y / 2) ∧ f x y % 2 = g (x % 2) (y % 2) := by
  have h := B.step x y
  have b := B.bit (x % 2) (y % 2) (by omega) (by omega) (by omega) (by omega)
  omega
theorem bw_dig {f g : Int → Int → Int} (B : Bw f g) : ∀ (i : Nat) (x y : Int), dig 2 (f x y) i = g (dig 2 x i) (dig 2 y i)
  | 0, x, y => by
    have := (bw_half B x y).2
    unfold dig
    simpa using this
  | i + 1, x, y => by
    rw [dig_succ (by omega), dig_succ (by omega), dig_succ (by omega), (bw_half B x y).1, bw_dig B i]
theorem bw_top {f g : Int → Int → Int} (B : Bw f g) : ∀ (w : Nat) (x y : Int), f x y / 2 ^ w = f (x / 2 ^ w) (y / 2 ^ w)
  | 0, x, y => by simp
  | w + 1, x, y => by
    have e : ∀ z : Int, z / 2 ^ (w + 1) = z / 2 / 2 ^ w := fun z => by rw [Int.pow_succ, Int.mul_comm, ← Int.ediv_ediv_of_nonneg (by omega)]
    rw [e, e, e, (bw_half B x y).1, bw_top B w]
theorem int_ext : ∀ (w : Nat) {x y : Int}, x / 2 ^ w = y / 2 ^ w → (∀ i, i < w → dig 2 x i = dig 2 y i) → x = y
  | 0, x, y, h, _ => by simpa using h
  | w + 1, x, y, h, g => by
    have e : ∀ z : Int, z / 2 ^ (w + 1) = z / 2 / 2 ^ w := fun z => by rw [Int.pow_succ, Int.mul_comm, ← Int.ediv_ediv_of_nonneg (by omega)]
    rw [e, e] at h
    have h2 := int_ext w h fun i hi => by
      have := g (i + 1) (by omega)
      rwa [dig_succ (by omega), dig_succ (by omega)] at this
    have h3 := g 0 (by omega)
    unfold dig at h3
    simp at h3
    omega
theorem top_zero {w : Nat} {x : Int} : x / 2 ^ w = 0 ↔ 0 ≤ x ∧ x < 2 ^ w := by
  have hp : (0 : Int) < 2 ^ w := Int.pow_pos (by omega)
  constructor
  · intro h
    have h1 := Int.emod_add_mul_ediv x (2 ^ w)
    have h2 := Int.emod_nonneg x (show (2 : Int) ^ w ≠ 0 by omega)
    have h3 := Int.emod_lt_of_pos x hp
    rw [h, Int.mul_zero] at h1
    omega
  · rintro ⟨h1, h2⟩
    exact Int.ediv_eq_zero_of_lt h1 h2
theorem word_ext {w : Nat} {x y : Int} (x0 : 0 ≤ x) (x1 : x < 2 ^ w) (y0 : 0 ≤ y) (y1 : y < 2 ^ w) (h : ∀ i, i < w → dig 2 x i = dig 2 y i) : x = y :=
  int_ext w (by rw [top_zero.mpr ⟨x0, x1⟩, top_zero.mpr ⟨y0, y1⟩]) h
theorem dig_and (x y : Int) (i : Nat) : dig 2 (Builtin.bitAnd x y) i = min (dig 2 x i) (dig 2 y i) := bw_dig bw_and i x y
theorem dig_or (x y : Int) (i : Nat) : dig 2 (Builtin.bitOr x y) i = max (dig 2 x i) (dig 2 y i) := bw_dig bw_or i x y
theorem dig_xor (x y : Int) (i : Nat) : dig 2 (Builtin.bitXor x y) i = (dig 2 x i + dig 2 y i) % 2 := bw_dig bw_xor i x y
theorem dig_not : ∀ (i : Nat) (x : Int), dig 2 (Builtin.bitNot x) i = 1 - dig 2 x i
  | 0, x => by
    have := not_odd x
    unfold dig
    simpa using this
  | i + 1, x => by rw [dig_succ (by omega), dig_succ (by omega), not_half, dig_not i]
theorem dig_shr (x : Int) (k i : Nat) : dig 2 (x / 2 ^ k) i = dig 2 x (k + i) := by
  unfold dig
  rw [Int.ediv_ediv_of_nonneg (Int.le_of_lt (Int.pow_pos (by omega))), ← Int.pow_add]
theorem dig_shl (x : Int) (k i : Nat) : dig 2 (x * 2 ^ k) i = if i < k then 0 else dig 2 x (i - k) := by
  have hp : ∀ k : Nat, (0 : Int) < 2 ^ k := fun k => Int.pow_pos (by omega)
  unfold dig
  by_cases h : i < k
  · rw [if_pos h, show (2 : Int) ^ k = 2 ^ (k - i - 1) * 2 * 2 ^ i by rw [← Int.pow_succ, ← Int.pow_add]; congr 1; omega, ← Int.mul_assoc, Int.mul_ediv_cancel _ (by have := hp i; omega), ← Int.mul_assoc]
    omega
  · rw [if_neg h]
    obtain ⟨j, rfl⟩ := Nat.le.dest (Nat.le_of_not_lt h)
    rw [Int.pow_add, ← Int.ediv_ediv_of_nonneg (Int.le_of_lt (hp k)), Int.mul_ediv_cancel _ (by have := hp k; omega), Nat.add_sub_cancel_left]
theorem dig_big {w : Nat} {x : Int} (x0 : 0 ≤ x) (x1 : x < 2 ^ w) {i : Nat} (h : w ≤ i) : dig 2 x i = 0 := by
  unfold dig
  have : x < 2 ^ i := Int.lt_of_lt_of_le x1 (two_le h)
  rw [Int.ediv_eq_zero_of_lt x0 this]
  rfl
theorem dig_ones (w i : Nat) : dig 2 (2 ^ w - 1) i = if i < w then 1 else 0 := by
  have e : (2 : Int) ^ w - 1 = Builtin.bitNot (-1 * 2 ^ w) := by unfold Builtin.bitNot; omega
  have m1 : ∀ i : Nat, dig 2 (-1) i = 1 := fun i => by
    have := dig_not i 0
    unfold dig at this ⊢
    have e : Builtin.bitNot 0 = -1 := rfl
    rw [e, Int.zero_ediv] at this
    simpa using this
  rw [e, dig_not, dig_shl, m1]
  split <;> rfl
theorem dig_zero (i : Nat) : dig 2 0 i = 0 := by unfold dig; simp
theorem dig_digs {x : Int} {i w : Nat} (h : i < w) : (digs 2 x w)[i]'(by rw [digs_len]; exact h) = dig 2 x i := by simp [digs]
theorem dig_valF : ∀ (P : List Int) (j : Nat), Bits P → dig 2 (val 2 P) j = P.getD j 0
  | [], j, _ => by simp [val, dig_zero]
  | b :: r, 0, h => by
    rw [val_b]
    unfold dig
    have := h.head
    simp
    omega
  | b :: r, j + 1, h => by
    rw [dig_succ (by omega), val_b]
    have := h.head
    have e : (b + 2 * val 2 r) / 2 = val 2 r := by omega
    rw [e, dig_valF r j h.tail]
    rfl
/-- the word whose bits are told by φ -/
def wordF (w : Nat) (φ : Nat → Int) : Int := val 2 ((List.range w).map φ)
theorem wordF_rng {w : Nat} {φ : Nat → Int} (h : ∀ i, i < w → φ i = 0 ∨ φ i = 1) : 0 ≤ wordF w φ ∧ wordF w φ < 2 ^ w := by
  have hb : Bits ((List.range w).map φ) := by
    intro x hx
    obtain ⟨i, hi, rfl⟩ := List.mem_map.mp hx
    exact h i (List.mem_range.mp hi)
  have := hb.nn
  rw [List.length_map, List.length_range] at this
  exact this
theorem dig_wordF {w : Nat} {φ : Nat → Int} (h : ∀ i, i < w → φ i = 0 ∨ φ i = 1) {i : Nat} (hi : i < w) : dig 2 (wordF w φ) i = φ i := by
  unfold wordF
  rw [dig_valF _ _ (by
    intro x hx
    obtain ⟨i, hi, rfl⟩ := List.mem_map.mp hx
    exact h i (List.mem_range.mp hi))]
  simp [List.getD, List.getElem?_map, List.getElem?_range hi]
theorem wordF_of {w : Nat} {x : Int} (x0 : 0 ≤ x) (x1 : x < 2 ^ w) : wordF w (dig 2 x) = x := hv' x0 x1
theorem eq_wordF {w : Nat} {x : Int} {φ : Nat → Int} (x0 : 0 ≤ x) (x1 : x < 2 ^ w) (h : ∀ i, i < w → dig 2 x i = φ i) : x = wordF w φ := by
  rw [← wordF_of x0 x1]
  unfold wordF
  rw [List.map_congr_left fun i hi => h i (List.mem_range.mp hi)]
theorem and_top0 (a : Int) : Builtin.bitAnd a 0 = 0 := by
  by_cases h : 0 ≤ a
  · exact and_zero a h
  · unfold Builtin.bitAnd
    simp [h]
theorem and_top1 (a : Int) : Builtin.bitAnd 0 a = 0 := by
  by_cases h : 0 ≤ a
  · unfold Builtin.bitAnd
    simp [h]
  · unfold Builtin.bitAnd
    simp [h]
theorem and_wordR {w : Nat} (x : Int) {y : Int} (y0 : 0 ≤ y) (y1 : y < 2 ^ w) : 0 ≤ Builtin.bitAnd x y ∧ Builtin.bitAnd x y < 2 ^ w := by
  rw [← top_zero, bw_top bw_and, top_zero.mpr ⟨y0, y1⟩, and_top0]
theorem and_wordL {w : Nat} (x : Int) {y : Int} (y0 : 0 ≤ y) (y1 : y < 2 ^ w) : 0 ≤ Builtin.bitAnd y x ∧ Builtin.bitAnd y x < 2 ^ w := by
  rw [← top_zero, bw_top bw_and, top_zero.mpr ⟨y0, y1⟩, and_top1]
theorem or_word {w : Nat} {x y : Int} (x0 : 0 ≤ x) (x1 : x < 2 ^ w) (y0 : 0 ≤ y) (y1 : y < 2 ^ w) : 0 ≤ Builtin.bitOr x y ∧ Builtin.bitOr x y < 2 ^ w := Bw.rng bw_or x0 x1 y0 y1
theorem xor_word {w : Nat} {x y : Int} (x0 : 0 ≤ x) (x1 : x < 2 ^ w) (y0 : 0 ≤ y) (y1 : y < 2 ^ w) : 0 ≤ Builtin.bitXor x y ∧ Builtin.bitXor x y < 2 ^ w := Bw.rng bw_xor x0 x1 y0 y1
theorem shr_word {w : Nat} {x : Int} (x0 : 0 ≤ x) (x1 : x < 2 ^ w) (k : Nat) : 0 ≤ x / 2 ^ k ∧ x / 2 ^ k < 2 ^ w :=
  ⟨Int.ediv_nonneg x0 (Int.le_of_lt (Int.pow_pos (by omega))), Int.lt_of_le_of_lt (Int.ediv_le_self _ x0) x1⟩
theorem ones_word (w : Nat) : (0 : Int) ≤ 2 ^ w - 1 ∧ (2 : Int) ^ w - 1 < 2 ^ w := by
  have hp : (0 : Int) < 2 ^ w := Int.pow_pos (by omega)
  omega
end PF.Bt

set_option Elab.async false
set_option linter.all false
set_option maxRecDepth 100000
namespace PF.Nt
open PF PF.Bt PySem L2
/-! ## nets that find carries -/
abbrev Lv := List (Nat × Nat)
def lvU {α : Type} (L : Lv) (old : Nat → α) (g : Nat → Nat → α) : Nat → α := L.foldl (fun h c => fun i => if i = c.1 then g c.1 c.2 else h i) old
theorem lvU_snoc {α : Type} (L : Lv) (c : Nat × Nat) (old : Nat → α) (g : Nat → Nat → α) : lvU (L ++ [c]) old g = fun i => if i = c.1 then g c.1 c.2 else lvU L old g i := by
  unfold lvU
  rw [List.foldl_append]
  rfl
/-- a level of a width: lesser places, ascending by place -/
structure LvOk (w : Nat) (L : Lv) : Prop where
  rng : ∀ c ∈ L, c.2 < c.1 ∧ c.1 < w
  asc : L.Pairwise (fun c d => c.1 < d.1)
theorem lvF_out {α : Type} (p : Nat) (g : Nat → Nat → α) : ∀ (L : Lv) (h : Nat → α), (∀ c ∈ L, c.1 ≠ p) → L.foldl (fun h c => fun i => if i = c.1 then g c.1 c.2 else h i) h p = h p
  | [], _, _ => rfl
  | d :: L, h, hh => by
    rw [List.foldl_cons, lvF_out p g L _ fun c hc => hh c (List.mem_cons_of_mem _ hc)]
    have := hh d List.mem_cons_self
    rw [if_neg (fun z => this z.symm)]
theorem lvF_in {α : Type} (g : Nat → Nat → α) : ∀ (L : Lv) (h : Nat → α), L.Pairwise (fun c d => c.1 < d.1) → ∀ c ∈ L, L.foldl (fun h c => fun i => if i = c.1 then g c.1 c.2 else h i) h c.1 = g c.1 c.2
  | [], _, _, c, hc => by simp at hc
  | d :: L, h, hp, c, hc => by
    rw [List.pairwise_cons] at hp
    rw [List.foldl_cons]
    rcases List.mem_cons.mp hc with q | q
    · rw [q, lvF_out _ g L _ fun e he => by have := hp.1 e he; omega, if_pos rfl]
    · exact lvF_in g L _ hp.2 c q
theorem lvU_out {α : Type} (p : Nat) (old : Nat → α) (g : Nat → Nat → α) (L : Lv) (h : ∀ c ∈ L, c.1 ≠ p) : lvU L old g p = old p := lvF_out p g L old h
theorem lvU_in {α : Type} (old : Nat → α) (g : Nat → Nat → α) (L : Lv) (h : L.Pairwise (fun c d => c.1 < d.1)) : ∀ c ∈ L, lvU L old g c.1 = g c.1 c.2 := lvF_in g L old h
/-- either in a level or not -/
theorem lv_cases {w : Nat} {L : Lv} (h : LvOk w L) (p : Nat) : (∃ o, (p, o) ∈ L ∧ o < p ∧ p < w ∧ ∀ {α : Type} (old : Nat → α) (g : Nat → Nat → α), lvU L old g p = g p o) ∨ ((∀ c ∈ L, c.1 ≠ p) ∧ ∀ {α : Type} (old : Nat → α) (g : Nat → Nat → α), lvU L old g p = old p) := by
  by_cases hp : ∃ o, (p, o) ∈ L
  · obtain ⟨o, ho⟩ := hp
    have := h.rng _ ho
    exact .inl ⟨o, ho, this.1, this.2, fun old g => lvU_in old g L h.asc _ ho⟩
  · have : ∀ c ∈ L, c.1 ≠ p := fun c hc z => hp ⟨c.2, by rw [← z]; exact hc⟩
    exact .inr ⟨this, fun old g => lvU_out p old g L this⟩
def lowG (f : Nat → Nat) (p o : Nat) : Nat := if f p ≤ o + 1 then min (f p) (f o) else f p
def lowS (f : Nat → Nat) (L : Lv) : Nat → Nat := lvU L f (lowG f)
def mkG (m q : Nat → Bool) (p o : Nat) : Bool := m p || (q p && m o)
def psG (q : Nat → Bool) (p o : Nat) : Bool := q p && q o
def sumS (s : (Nat → Bool) × (Nat → Bool)) (L : Lv) : (Nat → Bool) × (Nat → Bool) := (lvU L s.1 (mkG s.1 s.2), lvU L s.2 (psG s.2))
def lowsN (f : Nat → Nat) (net : List Lv) : Nat → Nat := net.foldl lowS f
def runN (s : (Nat → Bool) × (Nat → Bool)) (net : List Lv) : (Nat → Bool) × (Nat → Bool) := net.foldl sumS s
def gapL (f : Nat → Nat) (L : Lv) : Option (Nat × Nat) := L.find? fun c => decide (c.2 + 1 < f c.1)
def gapN : Nat → (Nat → Nat) → List Lv → Option (Nat × Nat)
  | _, _, [] => none
  | k, f, L :: net => match gapL f L with
    | some c => some (k, c.1)
    | none => gapN (k + 1) (lowS f L) net
def NetOk (w : Nat) (net : List Lv) : Prop := ∀ L ∈ net, LvOk w L
theorem low_le {w : Nat} {L : Lv} (h : LvOk w L) {f : Nat → Nat} (hf : ∀ p, f p ≤ p) : ∀ p, lowS f L p ≤ p := by
  intro p
  rcases lv_cases h p with ⟨o, _, _, _, e⟩ | ⟨_, e⟩
  · unfold lowS
    rw [e]
    unfold lowG
    have := hf p
    split <;> omega
  · unfold lowS
    rw [e]
    exact hf p
theorem lows_le {w : Nat} : ∀ {net : List Lv} {f : Nat → Nat}, NetOk w net → (∀ p, f p ≤ p) → ∀ p, lowsN f net p ≤ p
  | [], _, _, hf => hf
  | L :: net, f, h, hf => lows_le (net := net) (f := lowS f L) (fun M hM => h M (List.mem_cons_of_mem _ hM)) (low_le (h L List.mem_cons_self) hf)
/-! ## spans of carries -/
section
variable (g t : Nat → Prop)
def Gq (l p : Nat) : Prop := ∃ i, l ≤ i ∧ i ≤ p ∧ g i ∧ ∀ j, i < j → j ≤ p → t j
def Pq (l p : Nat) : Prop := ∀ j, l ≤ j → j ≤ p → t j
theorem gq_min {l l2 o p : Nat} (h1 : l ≤ o + 1) (h2 : o < p) : (Gq g t l p ∨ Pq t l p ∧ Gq g t l2 o) ↔ Gq g t (min l l2) p := by
  constructor
  · rintro (⟨i, a, b, c, d⟩ | ⟨q, i, a, b, c, d⟩)
    · exact ⟨i, by omega, b, c, d⟩
    · refine ⟨i, by omega, by omega, c, fun j j1 j2 => ?_⟩
      by_cases hj : j ≤ o
      · exact d j j1 hj
      · exact q j (by omega) j2
  · rintro ⟨i, a, b, c, d⟩
    by_cases hi : l ≤ i
    · exact .inl ⟨i, hi, b, c, d⟩
    · refine .inr ⟨fun j j1 j2 => d j (by omega) j2, i, by omega, by omega, c, fun j j1 j2 => d j j1 (by omega)⟩
theorem pq_min {l l2 o p : Nat} (h1 : l ≤ o + 1) (h2 : o < p) : (Pq t l p ∧ Pq t l2 o) ↔ Pq t (min l l2) p := by
  constructor
  · rintro ⟨a, b⟩ j j1 j2
    by_cases hj : l ≤ j
    · exact a j hj j2
    · exact b j (by omega) (by omega)
  · intro h
    exact ⟨fun j j1 j2 => h j (by omega) j2, fun j j1 j2 => h j (by omega) (by omega)⟩
/-- what makes and passes tell -/
def Tells (f : Nat → Nat) (s : (Nat → Bool) × (Nat → Bool)) : Prop := ∀ p, (s.1 p = true ↔ Gq g t (f p) p) ∧ (s.2 p = true ↔ Pq t (f p) p)
theorem tells_step {w : Nat} {L : Lv} (h : LvOk w L) {f : Nat → Nat} {s : (Nat → Bool) × (Nat → Bool)} (hs : Tells g t f s) (hg : gapL f L = none) : Tells g t (lowS f L) (sumS s L) := by
  intro p
  unfold sumS lowS
  rcases lv_cases h p with ⟨o, hm, ho, hp, e⟩ | ⟨_, e⟩
  · have hl : f p ≤ o + 1 := by
      have := List.find?_eq_none.mp hg _ hm
      simp only [decide_eq_true_eq] at this
      omega
    simp only [e]
    unfold lowG mkG psG
    rw [if_pos hl]
    have a := hs p
    have b := hs o
    rw [Bool.or_eq_true, Bool.and_eq_true, Bool.and_eq_true, a.1, a.2, b.1, b.2]
    exact ⟨gq_min g t hl ho, pq_min t hl ho⟩
  · simp only [e]
    exact hs p
theorem tells_all {w : Nat} : ∀ {net : List Lv} {k : Nat} {f : Nat → Nat} {s : (Nat → Bool) × (Nat → Bool)}, NetOk w net → Tells g t f s → gapN k f net = none → Tells g t (lowsN f net) (runN s net)
  | [], _, _, _, _, hs, _ => hs
  | L :: net, k, f, s, h, hs, hg => by
    unfold gapN at hg
    cases hL : gapL f L with
    | some c => rw [hL] at hg; cases hg
    | none =>
      rw [hL] at hg
      exact tells_all (net := net) (k := k + 1) (f := lowS f L) (s := sumS s L) (fun M hM => h M (List.mem_cons_of_mem _ hM)) (tells_step g t (h L List.mem_cons_self) hs hL) hg
end
/-- what is made stays made -/
theorem made_step {w : Nat} {L : Lv} (h : LvOk w L) {s : (Nat → Bool) × (Nat → Bool)} {p : Nat} (hm : s.1 p = true) : (sumS s L).1 p = true := by
  unfold sumS
  rcases lv_cases h p with ⟨o, _, _, _, e⟩ | ⟨_, e⟩
  · simp only [e, mkG, hm, Bool.true_or]
  · simp only [e, hm]
theorem made_stays {w : Nat} : ∀ {net : List Lv} {s : (Nat → Bool) × (Nat → Bool)} {p : Nat}, NetOk w net → s.1 p = true → (runN s net).1 p = true
  | [], _, _, _, hm => hm
  | L :: net, s, p, h, hm => made_stays (net := net) (s := sumS s L) (fun M hM => h M (List.mem_cons_of_mem _ hM)) (made_step (h L List.mem_cons_self) hm)
theorem gap_split {w : Nat} : ∀ {net : List Lv} {k : Nat} {f : Nat → Nat} {r : Nat × Nat}, NetOk w net → gapN k f net = some r → ∃ pre L post p o, net = pre ++ L :: post ∧ gapN k f pre = none ∧ (p, o) ∈ L ∧ o + 1 < lowsN f pre p
  | [], _, _, _, _, h => by cases h
  | L :: net, k, f, r, h, hg => by
    unfold gapN at hg
    cases hL : gapL f L with
    | some c =>
      have h1 := List.find?_some hL
      simp only [decide_eq_true_eq] at h1
      exact ⟨[], L, net, c.1, c.2, rfl, rfl, List.mem_of_find?_eq_some hL, h1⟩
    | none =>
      rw [hL] at hg
      obtain ⟨pre, M, post, p, o, e1, e2, e3, e4⟩ := gap_split (net := net) (fun M hM => h M (List.mem_cons_of_mem _ hM)) hg
      refine ⟨L :: pre, M, post, p, o, by rw [e1]; rfl, ?_, e3, e4⟩
      unfold gapN
      rw [hL]
      exact e2
/-- the start: each place by itself -/
def startS (a b : Nat → Bool) : (Nat → Bool) × (Nat → Bool) := (fun i => a i && b i, fun i => Bool.xor (a i) (b i))
def gOf (a b : Nat → Bool) (i : Nat) : Prop := (a i && b i) = true
def tOf (a b : Nat → Bool) (i : Nat) : Prop := Bool.xor (a i) (b i) = true
theorem start_tells (a b : Nat → Bool) : Tells (gOf a b) (tOf a b) id (startS a b) := by
  intro p
  constructor
  · constructor
    · intro h
      exact ⟨p, Nat.le_refl _, Nat.le_refl _, h, fun j j1 j2 => by omega⟩
    · rintro ⟨i, i1, i2, i3, _⟩
      have : i = p := by simp at i1; omega
      rw [this] at i3
      exact i3
  · constructor
    · intro h j j1 j2
      have : j = p := by simp at j1; omega
      rw [this]
      exact h
    · intro h
      exact h p (Nat.le_refl _) (Nat.le_refl _)
/-- the true carries out of places -/
def carP (a b : Nat → Bool) (p : Nat) : Prop := Gq (gOf a b) (tOf a b) 0 p
def wholeN (w : Nat) (net : List Lv) : Prop := gapN 0 id net = none ∧ ∀ p, p < w → lowsN id net p = 0
theorem whole_true {w : Nat} {net : List Lv} (h : NetOk w net) (hw : wholeN w net) (a b : Nat → Bool) {p : Nat} (hp : p < w) : (runN (startS a b) net).1 p = true ↔ carP a b p := by
  have := (tells_all (gOf a b) (tOf a b) h (start_tells a b) hw.1 p).1
  rw [hw.2 p hp] at this
  exact this
theorem whole_false {w : Nat} {net : List Lv} (h : NetOk w net) (hw : ¬ wholeN w net) : ∃ (a b : Nat → Bool) (p : Nat), p < w ∧ (∀ i, b i = true → a i = true) ∧ (∀ i, w ≤ i → a i = false) ∧ ¬ ((runN (startS a b) net).1 p = true ↔ carP a b p) := by
  cases hg : gapN 0 id net with
  | some r =>
    obtain ⟨pre, L, post, p, o, e1, e2, e3, e4⟩ := gap_split h hg
    have hpre : NetOk w pre := fun M hM => h M (by rw [e1]; simp [hM])
    have hL : LvOk w L := h L (by rw [e1]; simp)
    have hpost : NetOk w post := fun M hM => h M (by rw [e1]; simp [hM])
    have op := hL.rng _ e3
    have lp := lows_le hpre (f := id) (fun p => Nat.le_refl p) p
    have lo := lows_le hpre (f := id) (fun p => Nat.le_refl p) o
    generalize hl : lowsN id pre p = l at *
    let a : Nat → Bool := fun i => (decide (l ≤ i) && decide (i ≤ p)) || decide (i = o)
    let b : Nat → Bool := fun i => decide (i = o)
    have tl := tells_all (gOf a b) (tOf a b) hpre (start_tells a b) e2
    refine ⟨a, b, p, op.2, ?_, ?_, ?_⟩
    · intro i hi
      simp only [b, decide_eq_true_eq] at hi
      simp [a, hi]
    · intro i hi
      simp only [a]
      have h1 : ¬ i ≤ p := by omega
      have h2 : ¬ i = o := by omega
      simp [h1, h2]
    · intro z
      have made : (runN (startS a b) net).1 p = true := by
        have er : runN (startS a b) (pre ++ L :: post) = runN (sumS (runN (startS a b) pre) L) post := by
          unfold runN
          rw [List.foldl_append, List.foldl_cons]
        rw [e1, er]
        refine made_stays (w := w) hpost ?_
        show lvU L (runN (startS a b) pre).1 (mkG (runN (startS a b) pre).1 (runN (startS a b) pre).2) p = true
        rw [lvU_in _ _ L hL.asc _ e3]
        unfold mkG
        rw [Bool.or_eq_true, Bool.and_eq_true]
        right
        constructor
        · refine (tl p).2.mpr ?_
          rw [hl]
          intro j j1 j2
          have h2 : ¬ j = o := by omega
          simp [tOf, a, b, j1, j2, h2]
        · refine (tl o).1.mpr ⟨o, lo, Nat.le_refl _, ?_, fun j j1 j2 => by omega⟩
          simp [gOf, a, b]
      obtain ⟨i, _, i2, i3, i4⟩ := z.mp made
      have io : i = o := by
        simp only [gOf, Bool.and_eq_true, b, decide_eq_true_eq] at i3
        exact i3.2
      have := i4 (l - 1) (by omega) (by omega)
      have h1 : ¬ l ≤ l - 1 := by omega
      have h2 : ¬ l - 1 = o := by omega
      simp [tOf, a, b, h1, h2] at this
  | none =>
    have : ∃ p, p < w ∧ lowsN id net p ≠ 0 := by
      refine Classical.byContradiction fun z => hw ⟨hg, fun p hp => ?_⟩
      exact Classical.byContradiction fun y => z ⟨p, hp, y⟩
    obtain ⟨p, hp, hl⟩ := this
    have lp := lows_le h (f := id) (fun p => Nat.le_refl p) p
    generalize hl' : lowsN id net p = l at *
    let a : Nat → Bool := fun i => decide (l - 1 ≤ i) && decide (i ≤ p)
    let b : Nat → Bool := fun i => decide (i = l - 1)
    have tl := (tells_all (gOf a b) (tOf a b) h (start_tells a b) hg p).1
    rw [hl'] at tl
    refine ⟨a, b, p, hp, ?_, ?_, ?_⟩
    · intro i hi
      simp only [b, decide_eq_true_eq] at hi
      simp only [a, hi, Bool.and_eq_true, decide_eq_true_eq]
      omega
    · intro i hi
      simp only [a]
      have h1 : ¬ i ≤ p := by omega
      simp [h1]
    · intro z
      have car : carP a b p := by
        refine ⟨l - 1, by omega, by omega, ?_, fun j j1 j2 => ?_⟩
        · have h1 : l - 1 ≤ p := by omega
          simp only [gOf, a, b, decide_eq_true h1, Nat.le_refl, decide_true]
          rfl
        · have h1 : l - 1 ≤ j := by omega
          have h2 : ¬ j = l - 1 := by omega
          simp only [tOf, a, b, decide_eq_true h1, decide_eq_true j2, decide_eq_false h2]
          rfl
      obtain ⟨i, i1, _, i3, _⟩ := tl.mp (z.mpr car)
      simp only [gOf, Bool.and_eq_true, b, decide_eq_true_eq] at i3
      omega
end PF.Nt

set_option Elab.async false
set_option linter.all false
set_option maxRecDepth 100000
namespace PF.Nt
open PF PF.Bt PySem L2
/-! ## sums by nets -/
def bI (b : Bool) : Int := if b then 1 else 0
theorem bI_bit (b : Bool) : bI b = 0 ∨ bI b = 1 := by cases b <;> simp [bI]
theorem bI_inj {b c : Bool} (h : bI b = bI c) : b = c := by revert h; cases b <;> cases c <;> decide
def cmk (m : Nat → Bool) : Nat → Bool
  | 0 => false
  | i + 1 => m i
def sumD (w : Nat) (a b m : Nat → Bool) (i : Nat) : Int := if i < w then bI (Bool.xor (Bool.xor (a i) (b i)) (cmk m i)) else bI (cmk m w)
def sumOf (w : Nat) (a b m : Nat → Bool) : Int := wordF (w + 1) (sumD w a b m)
theorem sumD_bit (w : Nat) (a b m : Nat → Bool) (i : Nat) : sumD w a b m i = 0 ∨ sumD w a b m i = 1 := by
  unfold sumD
  split <;> exact bI_bit _
theorem sum_cg {w : Nat} {a b m m' : Nat → Bool} (hw : 1 ≤ w) : sumOf w a b m = sumOf w a b m' ↔ ∀ p, p < w → m p = m' p := by
  constructor
  · intro h p hp
    have e : ∀ i, i < w + 1 → sumD w a b m i = sumD w a b m' i := by
      intro i hi
      have := congrArg (fun x => dig 2 x i) h
      simp only [sumOf] at this
      rwa [dig_wordF (fun i _ => sumD_bit w a b m i) hi, dig_wordF (fun i _ => sumD_bit w a b m' i) hi] at this
    have := e (p + 1) (by omega)
    unfold sumD at this
    by_cases h2 : p + 1 < w
    · rw [if_pos h2, if_pos h2] at this
      have := bI_inj this
      simp only [cmk] at this
      revert this
      cases m p <;> cases m' p <;> cases a (p + 1) <;> cases b (p + 1) <;> decide
    · rw [if_neg h2, if_neg h2, show w = p + 1 by omega] at this
      exact bI_inj this
  · intro h
    unfold sumOf wordF
    congr 1
    apply List.map_congr_left
    intro i hi
    have hc : ∀ i, i ≤ w → cmk m i = cmk m' i := by
      intro i hi
      cases i with
      | zero => rfl
      | succ i => exact h i (by omega)
    unfold sumD
    split
    · rw [hc i (by omega)]
    · rw [hc w (by omega)]
theorem wordF_succ (w : Nat) (φ : Nat → Int) : wordF (w + 1) φ = wordF w φ + 2 ^ w * φ w := by
  unfold wordF
  rw [List.range_succ, List.map_append, List.map_cons, List.map_nil, val_snoc, List.length_map, List.length_range]
theorem wordF_cg {w : Nat} {φ ψ : Nat → Int} (h : ∀ i, i < w → φ i = ψ i) : wordF w φ = wordF w ψ := by
  unfold wordF
  rw [List.map_congr_left fun i hi => h i (List.mem_range.mp hi)]
theorem sumOf_e {w : Nat} {a b m : Nat → Bool} : sumOf w a b m = wordF w (fun i => bI (Bool.xor (Bool.xor (a i) (b i)) (cmk m i))) + 2 ^ w * bI (cmk m w) := by
  unfold sumOf
  rw [wordF_succ, wordF_cg (w := w) (ψ := fun i => bI (Bool.xor (Bool.xor (a i) (b i)) (cmk m i)))]
  · unfold sumD
    rw [if_neg (by omega)]
  · intro i hi
    unfold sumD
    rw [if_pos hi]
/-- the carry into a place -/
def cI (a b : Nat → Bool) : Nat → Bool
  | 0 => false
  | i + 1 => (a i && b i) || (Bool.xor (a i) (b i) && cI a b i)
theorem add_bits (a b : Nat → Bool) : ∀ w : Nat, wordF w (fun i => bI (a i)) + wordF w (fun i => bI (b i)) = wordF w (fun i => bI (Bool.xor (Bool.xor (a i) (b i)) (cI a b i))) + 2 ^ w * bI (cI a b w)
  | 0 => by simp [wordF, val, cI, bI]
  | w + 1 => by
    have ih := add_bits a b w
    rw [wordF_succ, wordF_succ, wordF_succ, Int.pow_succ]
    have e : bI (a w) + bI (b w) + bI (cI a b w) = bI (Bool.xor (Bool.xor (a w) (b w)) (cI a b w)) + 2 * bI (cI a b (w + 1)) := by
      simp only [cI]
      cases a w <;> cases b w <;> cases cI a b w <;> decide
    grind
theorem car_iff (a b : Nat → Bool) : ∀ p : Nat, carP a b p ↔ cI a b (p + 1) = true
  | 0 => by
    constructor
    · rintro ⟨i, _, i2, i3, _⟩
      have : i = 0 := by omega
      subst this
      simp only [gOf] at i3
      simp only [cI, i3, Bool.true_or]
    · intro h
      simp only [cI, Bool.and_false, Bool.or_false] at h
      exact ⟨0, Nat.le_refl _, Nat.le_refl _, h, fun j j1 j2 => by omega⟩
  | p + 1 => by
    have ih := car_iff a b p
    rw [cI, Bool.or_eq_true, Bool.and_eq_true (Bool.xor _ _), ← ih]
    constructor
    · rintro ⟨i, i1, i2, i3, i4⟩
      by_cases h : i = p + 1
      · left; rw [← h]; exact i3
      · exact .inr ⟨i4 (p + 1) (by omega) (Nat.le_refl _), i, i1, by omega, i3, fun j j1 j2 => i4 j j1 (by omega)⟩
    · rintro (h | ⟨h, i, i1, i2, i3, i4⟩)
      · exact ⟨p + 1, by omega, Nat.le_refl _, h, fun j j1 j2 => by omega⟩
      · refine ⟨i, i1, by omega, i3, fun j j1 j2 => ?_⟩
        by_cases hj : j ≤ p
        · exact i4 j j1 hj
        · rw [show j = p + 1 by omega]; exact h
/-- bits of a word -/
def bitF (x : Int) (i : Nat) : Bool := decide (dig 2 x i = 1)
theorem bitF_e (x : Int) (i : Nat) : bI (bitF x i) = dig 2 x i := by
  unfold bitF bI
  have := dig_bit x i
  by_cases h : dig 2 x i = 1
  · simp [h]
  · simp [h]; omega
theorem word_bits {w : Nat} {x : Int} (x0 : 0 ≤ x) (x1 : x < 2 ^ w) : wordF w (fun i => bI (bitF x i)) = x := by
  rw [wordF_cg fun i _ => bitF_e x i]
  exact wordF_of x0 x1
/-- a sum is the true one just where all carries are -/
theorem sum_true {w : Nat} (hw : 1 ≤ w) {x y : Int} (x0 : 0 ≤ x) (x1 : x < 2 ^ w) (y0 : 0 ≤ y) (y1 : y < 2 ^ w) (m : Nat → Bool) : sumOf w (bitF x) (bitF y) m = x + y ↔ ∀ p, p < w → (m p = true ↔ carP (bitF x) (bitF y) p) := by
  have e : x + y = sumOf w (bitF x) (bitF y) (fun p => cI (bitF x) (bitF y) (p + 1)) := by
    have h := add_bits (bitF x) (bitF y) w
    rw [word_bits x0 x1, word_bits y0 y1] at h
    rw [h, sumOf_e]
    have hc : ∀ i, cmk (fun p => cI (bitF x) (bitF y) (p + 1)) i = cI (bitF x) (bitF y) i := by
      intro i
      cases i <;> rfl
    rw [hc]
    congr 1
    apply wordF_cg
    intro i _
    rw [hc]
  rw [e, sum_cg hw]
  constructor
  · intro h p hp
    rw [car_iff, h p hp]
  · intro h p hp
    rw [Bool.eq_iff_iff, h p hp, car_iff]
def netSum (w : Nat) (net : List Lv) (x y : Int) : Int := sumOf w (bitF x) (bitF y) (runN (startS (bitF x) (bitF y)) net).1
theorem whole_sum {w : Nat} (hw : 1 ≤ w) {net : List Lv} (h : NetOk w net) (hn : wholeN w net) {x y : Int} (x0 : 0 ≤ x) (x1 : x < 2 ^ w) (y0 : 0 ≤ y) (y1 : y < 2 ^ w) : netSum w net x y = x + y :=
  (sum_true hw x0 x1 y0 y1 _).mpr fun p hp => whole_true h hn _ _ hp
theorem bitF_wordF {w : Nat} (a : Nat → Bool) (ha : ∀ i, w ≤ i → a i = false) : bitF (wordF w (fun i => bI (a i))) = a := by
  funext i
  have r := wordF_rng (w := w) (φ := fun i => bI (a i)) fun i _ => bI_bit _
  apply bI_inj
  rw [bitF_e]
  by_cases hi : i < w
  · exact dig_wordF (fun i _ => bI_bit _) hi
  · rw [dig_big r.1 r.2 (by omega), ha i (by omega)]
    rfl
/-- a net that is not whole tells some sum wrongly -/
theorem false_sum {w : Nat} (hw : 1 ≤ w) {net : List Lv} (h : NetOk w net) (hn : ¬ wholeN w net) : ∃ x y : Int, 0 ≤ y ∧ y ≤ x ∧ x < 2 ^ w ∧ netSum w net x y ≠ x + y := by
  obtain ⟨a, b, p, hp, hab, ha, hne⟩ := whole_false h hn
  have hb : ∀ i, w ≤ i → b i = false := fun i hi => by
    have h1 := ha i hi
    have h2 := hab i
    rw [h1] at h2
    simpa using h2
  have ra := wordF_rng (w := w) (φ := fun i => bI (a i)) fun i _ => bI_bit _
  have rb := wordF_rng (w := w) (φ := fun i => bI (b i)) fun i _ => bI_bit _
  refine ⟨wordF w (fun i => bI (a i)), wordF w (fun i => bI (b i)), rb.1, ?_, ra.2, ?_⟩
  · have : ∀ n : Nat, wordF n (fun i => bI (b i)) ≤ wordF n (fun i => bI (a i)) := by
      intro n
      induction n with
      | zero => exact Int.le_refl _
      | succ n ih =>
        rw [wordF_succ, wordF_succ]
        have hp := two_pos n
        have : bI (b n) ≤ bI (a n) := by
          have := hab n
          unfold bI
          cases hbn : b n with
          | false => cases a n <;> simp
          | true => simp [this hbn]
        have := Int.mul_le_mul_of_nonneg_left this (Int.le_of_lt hp)
        omega
    exact this w
  · intro z
    have := (sum_true hw ra.1 ra.2 rb.1 rb.2 _).mp z p hp
    rw [bitF_wordF a ha, bitF_wordF b hb] at this
    exact hne this
/-! ## lists of bits that are set -/
def bL (w : Nat) (m : Nat → Bool) : List PV := (List.range w).map fun i => .int (bI (m i))
def nL (w : Nat) (f : Nat → Nat) : List PV := (List.range w).map fun i => .int (f i : Nat)
theorem set_map {α : Type} (w : Nat) (φ : Nat → α) {p : Nat} (hp : p < w) (v : α) : ((List.range w).map φ).set p v = (List.range w).map fun i => if i = p then v else φ i := by
  apply List.ext_getElem
  · simp
  · intro i h1 h2
    rw [List.getElem_set, List.getElem_map, List.getElem_range]
    simp only [List.getElem_map, List.getElem_range]
    by_cases h : p = i
    · rw [if_pos h, if_pos h.symm]
    · rw [if_neg h, if_neg (fun z => h z.symm)]
theorem bL_set (w : Nat) (m : Nat → Bool) {p : Nat} (hp : p < w) (b : Bool) : (bL w m).set p (.int (bI b)) = bL w (fun i => if i = p then b else m i) := by
  unfold bL
  rw [set_map w _ hp]
  apply List.map_congr_left
  intro i _
  by_cases h : i = p <;> simp [h]
theorem nL_set (w : Nat) (f : Nat → Nat) {p : Nat} (hp : p < w) (v : Nat) : (nL w f).set p (.int (v : Nat)) = nL w (fun i => if i = p then v else f i) := by
  unfold nL
  rw [set_map w _ hp]
  apply List.map_congr_left
  intro i _
  by_cases h : i = p <;> simp [h]
theorem bL_at (w : Nat) (m : Nat → Bool) {p : Nat} (hp : p < w) : atI (bL w m) (p : Nat) = some (.int (bI (m p))) := by
  rw [atI_of]
  simp [bL, hp]
theorem nL_at (w : Nat) (f : Nat → Nat) {p : Nat} (hp : p < w) : atI (nL w f) (p : Nat) = some (.int (f p : Nat)) := by
  rw [atI_of]
  simp [nL, hp]
theorem bL_len (w : Nat) (m : Nat → Bool) : (bL w m).length = w := by simp [bL]
theorem nL_len (w : Nat) (f : Nat → Nat) : (nL w f).length = w := by simp [nL]
theorem bI_and (b c : Bool) : Builtin.bitAnd (bI b) (bI c) = bI (b && c) := by cases b <;> cases c <;> decide
theorem bI_or (b c : Bool) : Builtin.bitOr (bI b) (bI c) = bI (b || c) := by cases b <;> cases c <;> decide
theorem bI_xor (b c : Bool) : Builtin.bitXor (bI b) (bI c) = bI (Bool.xor b c) := by cases b <;> cases c <;> decide
/-- nets as things -/
def prP (c : Nat × Nat) : PV := .tup [.int (c.1 : Nat), .int (c.2 : Nat)]
def lvP (L : Lv) : PV := .tup (L.map prP)
def netP (net : List Lv) : PV := .tup (net.map lvP)
end PF.Nt

set_option Elab.async false
set_option linter.all false
set_option maxRecDepth 100000
namespace PF
open PySem PySem.Spec PyProof.Rows L2
open PySem.W (AlikeAll maxD max_tuple_data any_list_data readsAll_atA)
/-! ## any of a list of ints; max of a tuple of ints -/
theorem dp_ints {K : PySem.W.Frag} {H : Hp} : ∀ ns : List Int, DpAll K H (ns.map V.int) (ns.map PyData.int)
  | [] => .nil
  | n :: ns => .cons (.int n) (dp_ints ns)
def rAnyI (K : PySem.W.Frag) : List V → Hp → VK → Prop := fun vs H Q => ∃ (a : Addr) (ns : List Int), vs = [V.ref a] ∧ SqL K H a (ns.map V.int) ∧ Q (.bl (ns.any fun n => n != 0)) H
theorem plain_ints : ∀ ns : List Int, PyData.plainAll (ns.map PyData.int) = true
  | [] => rfl
  | n :: ns => by
    rw [List.map_cons, PyData.plainAll, plain_ints ns]
    rfl
theorem cr_anyI {X : Cx} (hc : X.calm = true) : CallR X (.builtin "any") (rAnyI X.K) := by
  intro pins s σ H vs us Q I r h
  obtain ⟨a, ns, rfl, hs, q⟩ := h
  obtain ⟨its, rv, hl, _⟩ := I.list hs
  rw [Vals.ref1 r]
  obtain ⟨as, hr⟩ := Dp.readsAll I (ns.map PyData.int) _ its (dp_ints ns) rv
  have hr' : ReadsAll s.heap its.toArray.toList (ns.map PyData.int) as := by simpa using hr
  refine any_list_data (I.ok.hd hc) hl.isList hr' (plain_ints ns) (fun x hx => ?_) fun h' tk hk => ⟨.bl _, H, I.kept hk, rfl, ?_⟩
  · obtain ⟨n, _, rfl⟩ := List.mem_map.mp hx
    trivial
  · have e : (ns.map PyData.int).any PyData.truthy = ns.any fun n => n != 0 := by rw [List.any_map]; rfl
    rw [e]
    exact q
def pAnyI : PV → Option PV
  | .lst ps => (intsOf ps).map fun ns => .bl (ns.any fun n => n != 0)
  | _ => none
theorem o_anyI : Op1 pAnyI rAnyI := by
  intro k S H p z x Q e rx h q1
  cases p <;> simp only [pAnyI] at h <;> try cases h
  rename_i ps
  cases q : intsOf ps with
  | none => rw [q] at h; cases h
  | some ns =>
    rw [q] at h; cases h
    obtain ⟨a, rfl, hs⟩ := lst_ints e rx q
    exact ⟨a, ns, rfl, hs, q1 _ S H (.refl e) (rep_bl _)⟩
def rAnyA (K : PySem.W.Frag) : List V → Hp → VK → Prop := fun vs H Q => rAny K vs H Q ∨ rAnyI K vs H Q
theorem cr_anyA {X : Cx} (hc : X.calm = true) : CallR X (.builtin "any") (rAnyA X.K) := by
  intro pins s σ H vs us Q I r h
  rcases h with h | h
  · exact cr_any hc pins s σ H vs us Q I r h
  · exact cr_anyI hc pins s σ H vs us Q I r h
/-- of flags, or of ints -/
def pAnyA (p : PV) : Option PV := match pAny p with
  | some z => some z
  | none => pAnyI p
theorem o_anyA : Op1 pAnyA rAnyA := by
  intro k S H p z x Q e rx h q1
  unfold pAnyA at h
  cases c : pAny p with
  | some y =>
    rw [c] at h
    cases h
    exact .inl (o_any k S H p z x Q e rx c q1)
  | none =>
    rw [c] at h
    exact .inr (o_anyI k S H p z x Q e rx h q1)
def rMaxT (K : PySem.W.Frag) : List V → Hp → VK → Prop := fun vs H Q => ∃ (a : Addr) (n : Int) (ns : List Int), vs = [V.ref a] ∧ SqT K H a ((n :: ns).map V.int) ∧ Q (.int (maxL n ns)) H
theorem maxL_fold : ∀ (ns : List Int) (n : Int), ns.foldl max n = maxL n ns
  | [], n => rfl
  | m :: ns, n => by
    rw [List.foldl_cons, show max n m = (if n < m then m else n) by split <;> omega]
    exact maxL_fold ns _
theorem alike_ints (ns : List Int) : AlikeAll (ns.map PyData.int) := by
  refine ⟨fun x hx y hy => ?_, fun x hx e => ?_⟩
  · obtain ⟨n, _, rfl⟩ := List.mem_map.mp hx
    obtain ⟨m, _, rfl⟩ := List.mem_map.mp hy
    rfl
  · obtain ⟨n, _, rfl⟩ := List.mem_map.mp hx
    cases e
theorem depth_ints : ∀ ns : List Int, PyData.depthAll (ns.map PyData.int) = 0
  | [] => by simp [PyData.depthAll]
  | n :: ns => by simp [PyData.depthAll, PyData.depth, depth_ints ns]
theorem cr_maxT {X : Cx} (hc : X.calm = true) (hu : X.A.units + 65 < cLine) : CallR X (.builtin "max") (rMaxT X.K) := by
  intro pins s σ H vs us Q I r h
  obtain ⟨a, n, ns, rfl, hs, q⟩ := h
  obtain ⟨its, rv, hl, _⟩ := I.tuple hs
  rw [Vals.ref1 r]
  obtain ⟨as, hr⟩ := Dp.readsAll I ((n :: ns).map PyData.int) _ its (dp_ints (n :: ns)) rv
  have hr' : ReadsAll s.heap its.toArray.toList (PyData.int n :: ns.map PyData.int) as := by simpa using hr
  refine max_tuple_data (I.ok.hd hc) hl hr' (alike_ints (n :: ns)) (by
    have := depth_ints (n :: ns)
    simp only [List.map_cons] at this
    omega) fun i v h' tk bs hv rd hk => ?_
  rw [PySem.W.maxD_ints, maxL_fold] at rd
  cases rd
  exact ⟨.int _, H, I.kept hk, ⟨_, rfl⟩, q⟩
def pMaxT : PV → Option PV
  | .tup ps => match intsOf ps with
    | some (n :: ns) => some (.int (maxL n ns))
    | _ => none
  | _ => none
theorem o_maxT : Op1 pMaxT rMaxT := by
  intro k S H p z x Q e rx h q1
  cases p <;> simp only [pMaxT] at h <;> try cases h
  rename_i ps
  cases q : intsOf ps with
  | none => rw [q] at h; cases h
  | some ns =>
    rw [q] at h
    cases ns with
    | nil => cases h
    | cons n ns =>
      cases h
      obtain ⟨a, us, rfl, hs, h1, r⟩ := repB_tup e rx
      rw [intsOf_some q] at r
      rw [r.ints] at h1
      exact ⟨a, n, ns, rfl, h1, q1 _ S H (.refl e) (rep_int _)⟩
def rMaxA (K : PySem.W.Frag) : List V → Hp → VK → Prop := fun vs H Q => rMax K vs H Q ∨ rMaxT K vs H Q
theorem cr_maxA {X : Cx} (hc : X.calm = true) (hu : X.A.units + 65 < cLine) : CallR X (.builtin "max") (rMaxA X.K) := by
  intro pins s σ H vs us Q I r h
  rcases h with h | h
  · exact cr_max hc pins s σ H vs us Q I r h
  · exact cr_maxT hc hu pins s σ H vs us Q I r h
/-- of a list of ints, or of a tuple of them -/
def pMaxA (p : PV) : Option PV := match pMax1 p with
  | some z => some z
  | none => pMaxT p
theorem o_maxA : Op1 pMaxA rMaxA := by
  intro k S H p z x Q e rx h q1
  unfold pMaxA at h
  cases c : pMax1 p with
  | some y =>
    rw [c] at h
    cases h
    exact .inl (o_max1 k S H p z x Q e rx c q1)
  | none =>
    rw [c] at h
    exact .inr (o_maxT k S H p z x Q e rx h q1)
section
variable {X : Cx} {M : Mo} {N : List Str} {sc : Scope} {wr : Nat → Bool} {j : Nat} {G : Gam} {W : WX} {a : Expr} {da : E} {p pos : Pos}
theorem b_anyA (B : Bd X M N sc wr j G W) (hc : X.calm = true) (Y : Blt M) (h : BOk X G W a da) (hg : sc.names.lookup ("any" : Str) = some .globalImplicit := by kernel_rfl) (hs : starEach [a] X.env = (false, eval a X.env) :: starEach [] X.env := by rfl) : EOk X G W (.Call (.Name "any" p) [a] [] pos) (dUn pAnyA da) :=
  e_b1 B.ct o_anyA (pe_callB (cr_anyA hc) (B.gl hg) (B.non (Y.at (by kernel_rfl))) (by decide +kernel) (pa_cons h pa_nil hs) (by decide) (by decide) hs rfl)
theorem b_maxA (B : Bd X M N sc wr j G W) (hc : X.calm = true) (Y : Blt M) (h : BOk X G W a da) (hg : sc.names.lookup ("max" : Str) = some .globalImplicit := by kernel_rfl) (hs : starEach [a] X.env = (false, eval a X.env) :: starEach [] X.env := by rfl) : EOk X G W (.Call (.Name "max" p) [a] [] pos) (dUn pMaxA da) :=
  e_b1 B.ct o_maxA (pe_callB (cr_maxA hc B.un) (B.gl hg) (B.non (Y.at (by kernel_rfl))) (by decide +kernel) (pa_cons h pa_nil hs) (by decide) (by decide) hs rfl)
end
theorem pAnyA_i (ns : List Int) (h : ns ≠ []) : pAnyA (.lst (ns.map .int)) = some (.bl (ns.any fun n => n != 0)) := by
  have e : pAny (.lst (ns.map PV.int)) = none := by
    cases ns with
    | nil => exact absurd rfl h
    | cons n ns => rfl
  unfold pAnyA
  rw [e]
  simp only [pAnyI, intsOf_map]
  rfl
theorem pMaxA_t (n : Int) (ns : List Int) : pMaxA (.tup ((n :: ns).map .int)) = some (.int (maxL n ns)) := by
  have i := intsOf_map (n :: ns)
  unfold pMaxA
  simp only [pMax1, pMaxT, i]
theorem pMaxA_1 {p z : PV} (h : pMax1 p = some z) : pMaxA p = some z := by unfold pMaxA; rw [h]
theorem pAnyA_1 {p z : PV} (h : pAny p = some z) : pAnyA p = some z := by unfold pAnyA; rw [h]
end PF

set_option Elab.async false
set_option linter.all false
set_option maxRecDepth 100000
namespace L2
open PySem PySem.Spec PyProof.Rows
/-! ## a op1 b op2 c op3 d -/
section
variable {X : Cx} {a b c d : Expr} {pos : Pos} {ta tb tc td : TE}
def tChain3 (r r' r'' : R2) (ta tb tc td : TE) : TE := fun σ H Q => ta σ H fun x H1 => tb σ H1 fun y H2 => r x y H2 fun z H3 => ∃ k, z = .bl k ∧
  (if k = true then tc σ H3 fun w' H4 => r' y w' H4 fun z' H5 => ∃ k', z' = .bl k' ∧ (if k' = true then td σ H5 fun v' H6 => r'' w' v' H6 Q else Q (.bl false) H5) else Q (.bl false) H3)
theorem pe_chain3 {op op' op'' : CmpOp} {r r' r'' : R2} (ho : OpR X (compareOp op) r) (ho' : OpR X (compareOp op') r') (ho'' : OpR X (compareOp op'') r'') (ha : PE X a ta) (hb : PE X b tb) (hc : PE X c tc) (hd : PE X d td)
    (hm : lastMarks [op, op', op''] [b, c, d] = false := by with_unfolding_all rfl) : PE X (.Compare a [op, op', op''] [b, c, d] pos) (tChain3 r r' r'' ta tb tc td) := by
  refine ⟨fun pins s σ H Q I h => ?_⟩
  refine Compare_chain (thn (ha.run pins s σ H _ I h) fun v s1 ⟨x, H1, I1, r1, q1⟩ => chain_link (thn (hb.run pins s1 σ H1 _ I1 q1) fun u s2 ⟨y, H2, I2, r2, q2⟩ =>
    thn (ho pins s2 σ H2 x y v u _ I2 r1 r2 q2) fun d s3 ⟨z, H3, I3, r3, k, e, q3⟩ => ?_)) hm
  subst e
  cases r3
  refine wpAny_truthy_bool ?_
  cases k with
  | false => exact ite_ff ⟨.bl false, H3, I3, rfl, q3⟩
  | true =>
    refine ite_tt (chain_link (thn (hc.run pins s3 σ H3 _ I3 q3) fun w' s4 ⟨z', H4, I4, r4, q4⟩ => thn (ho' pins s4 σ H4 y z' u w' _ I4 r2 r4 q4) fun d' s5 ⟨z5, H5, I5, r5, k', e', q5⟩ => ?_))
    subst e'
    cases r5
    refine wpAny_truthy_bool ?_
    cases k' with
    | false => exact ite_ff ⟨.bl false, H5, I5, rfl, q5⟩
    | true => exact ite_tt (chain_last (thn (hd.run pins s5 σ H5 _ I5 q5) fun v' s6 ⟨z6, H6, I6, r6, q6⟩ => ho'' pins s6 σ H6 z' z6 w' v' Q I6 r4 r6 q6))
theorem pt_chain3 {op op' op'' : CmpOp} {r r' r'' : R2} (ho : OpR X (compareOp op) r) (ho' : OpR X (compareOp op') r') (ho'' : OpR X (compareOp op'') r'') (ha : PE X a ta) (hb : PE X b tb) (hc : PE X c tc) (hd : PE X d td)
    (hm : lastMarks [op, op', op''] [b, c, d] = false := by with_unfolding_all rfl) : PT X (.Compare a [op, op', op''] [b, c, d] pos) (tTest (tChain3 r r' r'' ta tb tc td)) := by
  refine ⟨fun pins s σ H Q I h => ?_⟩
  refine isTrue_chain (thn (ha.run pins s σ H _ I h) fun v s1 ⟨x, H1, I1, r1, q1⟩ => test_link (thn (hb.run pins s1 σ H1 _ I1 q1) fun u s2 ⟨y, H2, I2, r2, q2⟩ =>
    thn (ho pins s2 σ H2 x y v u _ I2 r1 r2 q2) fun d s3 ⟨z, H3, I3, r3, k, e, q3⟩ => ?_)) hm
  subst e
  cases r3
  refine wpAny_truthy_bool ?_
  cases k with
  | false =>
    obtain ⟨k', e', q'⟩ := q3
    cases e'
    exact ite_ff ⟨H3, I3, q'⟩
  | true =>
    refine ite_tt (test_link (thn (hc.run pins s3 σ H3 _ I3 q3) fun w' s4 ⟨z', H4, I4, r4, q4⟩ => thn (ho' pins s4 σ H4 y z' u w' _ I4 r2 r4 q4) fun d' s5 ⟨z5, H5, I5, r5, k', e', q5⟩ => ?_))
    subst e'
    cases r5
    refine wpAny_truthy_bool ?_
    cases k' with
    | false =>
      obtain ⟨k'', e'', q'⟩ := q5
      cases e''
      exact ite_ff ⟨H5, I5, q'⟩
    | true =>
      refine ite_tt (test_last (thn (hd.run pins s5 σ H5 _ I5 q5) fun v' s6 ⟨z6, H6, I6, r6, q6⟩ => thn (ho'' pins s6 σ H6 z' z6 w' v' _ I6 r4 r6 q6) fun c' s7 ⟨z7, H7, I7, r7, k7, e7, q7⟩ => ?_))
      subst e7
      cases r7
      exact wpAny_truthy_bool ⟨H7, I7, q7⟩
end
end L2
namespace PF
open PySem PySem.Spec PyProof.Rows L2
def tChain3 (f g h : PV → PV → Option Bool) (a b c d : E) : T := fun ρ => (a ρ).bind fun x ρ1 => (b ρ1).bind fun y ρ2 => match f x y with
  | some true => (c ρ2).bind fun z ρ3 => match g y z with
    | some true => (d ρ3).bind fun w ρ4 => ofO (h z w) ρ4
    | some false => .ok false ρ3
    | none => .stuck
  | some false => .ok false ρ2
  | none => .stuck
@[simp ↓] theorem tChain3_e {f g h : PV → PV → Option Bool} {a b c d : E} {ρ : Env} : tChain3 f g h a b c d ρ = (a ρ).bind fun x ρ1 => (b ρ1).bind fun y ρ2 => (ofO (f x y) ρ2).bind fun k _ => if k = true then (c ρ2).bind fun z ρ3 => (ofO (g y z) ρ3).bind fun k' _ => if k' = true then (d ρ3).bind fun w ρ4 => ofO (h z w) ρ4 else .ok false ρ3 else .ok false ρ2 := by
  unfold tChain3
  congr 1
  funext x ρ1
  congr 1
  funext y ρ2
  cases f x y with
  | none => rfl
  | some k =>
    cases k with
    | false => rfl
    | true =>
      simp only [ofO, Out.bind, if_true]
      congr 1
      funext z ρ3
      cases g y z with
      | none => rfl
      | some k' => cases k' <;> rfl
section
variable {X : Cx} {G : Gam} {W : WX} {a b c d : Expr} {pos : Pos} {da db dc dd : E} {g g' g'' : PV → PV → Option Bool} {r r' r'' : PySem.W.Frag → R2}
theorem chain3_aux (o1 : OpB g r) (o2 : OpB g' r') (o3 : OpB g'' r'') (C : Ct X G W) {σ : L2.St} {H S : Hp} {ρ : Env} {Q : VK} (R : Rel G S H ρ σ) (P : Post G W σ RT (PF.tChain3 g g' g'' da db dc dd ρ) S (fun k H' => Q (.bl k) H')) :
    L2.tChain3 (r X.K) (r' X.K) (r'' X.K) (LE G W da) (LE G W db) (LE G W dc) (LE G W dd) σ H Q :=
  ⟨S, ρ, R, Post.bind (R1 := RE G.k) P fun x ρ1 v S1 H1 s1 R1 rv P1 => ⟨S1, ρ1, R1, Post.bind (R1 := RE G.k) P1 fun y ρ2 u S2 H2 s2 R2 ru P2 => by
    rw [← C.K]
    cases ez : g x y with
    | none => rw [ez] at P2; exact P2.elim
    | some z =>
      rw [ez] at P2
      refine o1 G.k S2 H2 x y z v u _ R2.sub (.inl (rv.mono s2)) (.inl ru) ez ⟨z, rfl, ?_⟩
      cases z with
      | false => rw [if_neg Bool.false_ne_true]; exact P2 false S2 H2 (.refl _) R2 rfl
      | true =>
        rw [if_pos rfl]
        exact ⟨S2, ρ2, R2, Post.bind (R1 := RE G.k) P2 fun w ρ3 t S3 H3 s3 R3 rt P3 => by
          cases ey : g' y w with
          | none => rw [ey] at P3; exact P3.elim
          | some k =>
            rw [ey] at P3
            refine o2 G.k S3 H3 y w k u t _ R3.sub (.inl (ru.mono s3)) (.inl rt) ey ⟨k, rfl, ?_⟩
            cases k with
            | false => rw [if_neg Bool.false_ne_true]; exact P3 false S3 H3 (.refl _) R3 rfl
            | true =>
              rw [if_pos rfl]
              exact ⟨S3, ρ3, R3, Post.bind (R1 := RE G.k) P3 fun q ρ4 tt S4 H4 s4 R4 rq P4 => by
                obtain ⟨z', ez', P5⟩ := Post.ofO P4
                exact o3 G.k S4 H4 w q z' t tt _ R4.sub (.inl (rt.mono s4)) (.inl rq) ez' (P5 z' S4 H4 (.refl _) R4 rfl)⟩⟩⟩⟩
theorem t_chain3 {op op' op'' : CmpOp} (o1 : OpB g r) (o2 : OpB g' r') (o3 : OpB g'' r'') (ho : OpR X (compareOp op) (r X.K)) (ho' : OpR X (compareOp op') (r' X.K)) (ho'' : OpR X (compareOp op'') (r'' X.K)) (C : Ct X G W) (ha : EOk X G W a da) (hb : EOk X G W b db) (hc : EOk X G W c dc) (hd : EOk X G W d dd)
    (hm : lastMarks [op, op', op''] [b, c, d] = false := by with_unfolding_all rfl) : TOk X G W (.Compare a [op, op', op''] [b, c, d] pos) (PF.tChain3 g g' g'' da db dc dd) :=
  pt_weak (pt_chain3 ho ho' ho'' ha hb hc hd hm) fun σ H Q ⟨S, ρ, R, P⟩ => chain3_aux (Q := fun x H' => ∃ c, x = V.bl c ∧ Q c H') o1 o2 o3 C R (post_tst P)
theorem e_chain3 {op op' op'' : CmpOp} (o1 : OpB g r) (o2 : OpB g' r') (o3 : OpB g'' r'') (ho : OpR X (compareOp op) (r X.K)) (ho' : OpR X (compareOp op') (r' X.K)) (ho'' : OpR X (compareOp op'') (r'' X.K)) (C : Ct X G W) (ha : EOk X G W a da) (hb : EOk X G W b db) (hc : EOk X G W c dc) (hd : EOk X G W d dd)
    (hm : lastMarks [op, op', op''] [b, c, d] = false := by with_unfolding_all rfl) : EOk X G W (.Compare a [op, op', op''] [b, c, d] pos) (dT (PF.tChain3 g g' g'' da db dc dd)) :=
  pe_weak (pe_chain3 ho ho' ho'' ha hb hc hd hm) fun σ H Q ⟨S, ρ, R, P⟩ => chain3_aux o1 o2 o3 C R (post_dT P)
end
end PF

set_option Elab.async false
set_option linter.all false
set_option maxRecDepth 100000
namespace K39
open PySem PySem.Spec PyProof.Rows L2 LamX PF
abbrev top (i : Nat) : Stmt := PySem.Challenge.pw_wordhouse_k39_whole_net_sums.main.body.getD i (.Pass ⟨0, 0, 0, 0⟩)
def tbl : Tbl := [("WordError", ["WordError", "ValueError"]), ("BadFloat", ["BadFloat", "WordError", "ValueError"]), ("BadForm", ["BadForm", "WordError", "ValueError"]), ("BadHeights", ["BadHeights", "WordError", "ValueError"]), ("BadNet", ["BadNet", "WordError", "ValueError"]), ("BadNumber", ["BadNumber", "WordError", "ValueError"]), ("BadRounding", ["BadRounding", "WordError", "ValueError"]), ("BadWidth", ["BadWidth", "WordError", "ValueError"]), ("BadWord", ["BadWord", "WordError", "ValueError"])]
def d__law_hand : C := sSeq (sSet 1 (dF (fLc [2] (iU itOf (dSl (dV 0) (oNo) (oSo (dC (.int (63)))))) (gN 2) (tYesD) (dUn pAbs (dUn pInt (dV 2))))))
    (sRetF (fLst (aCons (dV 1) (aCons (dC (.int (0))) (aCons (dC (.int (0))) (aCons (dOp pAdd (dC (.int (61))) (dOp pMul (dC (.int (7))) (dUn pLen (dV 1)))) (aCons (dC (.int (0))) (aNil))))))))
def F__law_hand : Fn := runB false 3 1 d__law_hand
def d__law_is (R : Fn) : C := sSeq (sIf (tOr (tCmp cIsN (dV 1) (dC .non)) (tCmp cIsN (dV 0) (dC .non)))
    (sRet (dAnd (dT (tCmp cIsN (dV 1) (dC .non))) (dT (tCmp cIsN (dV 0) (dC .non)))))
    (sNext))
    (sSeq (sIf (tTru (dUn (pIs2 "tuple" "list") (dV 1)))
    (sSeq (sIf (tOr (tCmp cNe (dUn (pIs "tuple") (dV 0)) (dUn (pIs "tuple") (dV 1))) (tCmp cNe (dUn (pIs "list") (dV 0)) (dUn (pIs "list") (dV 1))))
    (sRet (dC (.bl false)))
    (sNext))
    (sRet (dAnd (dT (tCmp cEq (dUn pLen (dV 0)) (dUn pLen (dV 1)))) (dUn pAll (dF (fLc [2, 3] (iA pZip (aCons (dV 0) (aCons (dV 1) (aNil)))) (gT 2 (gsC (gN 2) (gsC (gN 3) (gs0)))) (tYesD) (dCall R (aCons (dV 2) (aCons (dV 3) (aNil))))))))))
    (sNext))
    (sSeq (sIf (tOr (tCmp cNe (dUn (pIs "bool") (dV 0)) (dUn (pIs "bool") (dV 1))) (tCmp cNe (dUn (pIs "int") (dV 0)) (dUn (pIs "int") (dV 1))))
    (sRet (dC (.bl false)))
    (sNext))
    (sRet (dAnd (dT (tCmp cEq (dUn (pIs "str") (dV 0)) (dUn (pIs "str") (dV 1)))) (dT (tCmp cEq (dV 0) (dV 1)))))))
def I__law_is : Nat → Fn
  | 0 => runB false 4 2 (fun _ => .stuck)
  | k + 1 => runB false 4 2 (d__law_is (I__law_is k))
def F__law_is : Fn := I__law_is 8
def d__law_draw : C := sSeq (sIf (tAnd (tCmp cEq (dLV 0 (dC (.int (2))) pIx) (dC (.int (0)))) (tCmp cLt (dLV 0 (dC (.int (1))) pIx) (dUn pLen (dLV 0 (dC (.int (0))) pIx))))
    (sSeq (sSet 2 (dOp pIx (dLV 0 (dC (.int (0))) pIx) (dLV 0 (dC (.int (1))) pIx)))
    (sSeq (sSetI 0 (dOp pAdd (dLV 0 (dC (.int (1))) pIx) (dC (.int (1)))) (dC (.int (1))))
    (sSeq (sSetI 0 (dOp pMod (dUn pInt (dOp pAdd (dOp pAdd (dOp pMul (dLV 0 (dC (.int (3))) pIx) (dC (.int (69621)))) (dOp pMul (dV 2) (dC (.int (40692))))) (dC (.int (23))))) (dC (.int (2147483629)))) (dC (.int (3))))
    (sIf (tCmp cGe (dV 2) (dOp pPow (dC (.int (10))) (dC (.int (18)))))
    (sSetI 0 (dV 2) (dC (.int (2))))
    (sNext)))))
    (sNext))
    (sSeq (sIf (tCmp cGt (dLV 0 (dC (.int (2))) pIx) (dC (.int (0))))
    (sSeq (sSet 3 (dOp pMod (dUn pInt (dLV 0 (dC (.int (2))) pIx)) (dV 1)))
    (sSeq (sSetI 0 (dOp pFloor (dLV 0 (dC (.int (2))) pIx) (dV 1)) (dC (.int (2))))
    (sRet (dV 3))))
    (sNext))
    (sSeq (sSetI 0 (dOp pAdd (dLV 0 (dC (.int (4))) pIx) (dC (.int (1)))) (dC (.int (4))))
    (sSeq (sSet 4 (dOp pMod (dUn pInt (dOp pMul (dUn pInt (dOp pAdd (dLV 0 (dC (.int (3))) pIx) (dOp pMul (dC (.int (7919))) (dLV 0 (dC (.int (4))) pIx)))) (dC (.int (48271))))) (dC (.int (2147483647)))))
    (sSeq (sSet 4 (dOp pMod (dUn pInt (dOp pMul (dV 4) (dOp pAdd (dOp pFloor (dV 4) (dC (.int (1009)))) (dC (.int (69621)))))) (dC (.int (2147483647)))))
    (sSeq (sSet 4 (dOp pMod (dUn pInt (dOp pMul (dV 4) (dOp pAdd (dOp pFloor (dV 4) (dC (.int (2003)))) (dC (.int (40014)))))) (dC (.int (2147483563)))))
    (sRet (dOp pMod (dUn pInt (dOp pFloor (dV 4) (dC (.int (16))))) (dV 1))))))))
def F__law_draw : Fn := runB true 5 2 d__law_draw
def d__law_any : C := sRet (dLV 1 (dCallIO F__law_draw 0 (aCons (dUn pLen (dV 1)) (aNil))) pIx)
def F__law_any : Fn := runB true 2 2 d__law_any
def b1__law_net : C := sSeq (sSet 9 (dF (fLc [11] (iA pRng1 (aCons (dV 8) (aNil))) (gN 11) (tOr (tCmp cEq (dV 2) (dC (.int (0)))) (tCmp cGe (dV 11) (dOp pSub (dLV 4 (dV 8) pIx) (dC (.int (1)))))) (dV 11))))
    (sSeq (sIf (tCmp cEq (dV 2) (dC (.int (3))))
    (sSet 9 (dIf (tCmp cEq (dV 8) (dOp pAdd (dV 5) (dC (.int (1))))) (dF (fLst (aCons (dOp pSub (dV 8) (dC (.int (1)))) (aNil)))) (dF (fLst (aNil)))))
    (sNext))
    (sSeq (sIf (tCmp cEq (dV 2) (dC (.int (4))))
    (sSeq (sSet 10 (dOp pShl (dC (.int (1))) (dOp pMin2 (dV 5) (dC (.int (7))))))
    (sSet 9 (dIf (tCmp cGe (dV 8) (dV 10)) (dF (fLst (aCons (dOp pSub (dV 8) (dV 10)) (aNil)))) (dF (fLst (aNil))))))
    (sNext))
    (sIf (tAnd (tCmp cGt (dUn pLen (dV 9)) (dC (.int (0)))) (tOr (tCmp cGt (dV 2) (dC (.int (2)))) (tCmp cGt (dCallIO F__law_draw 0 (aCons (dC (.int (3))) (aNil))) (dC (.int (0))))))
    (sSeq (sSet 11 (dCallIO F__law_any 0 (aCons (dV 9) (aNil))))
    (sSeq (sApp 6 (dTup (aCons (dV 8) (aCons (dV 11) (aNil)))))
    (sIf (tCmp cGe (dV 11) (dOp pSub (dLV 4 (dV 8) pIx) (dC (.int (1)))))
    (sSetI 7 (dOp pMin2 (dLV 4 (dV 8) pIx) (dLV 4 (dV 11) pIx)) (dV 8))
    (sNext))))
    (sNext))))
def b2__law_net : C := sSeq (sMix [6, 7] (mF [] (fLst (aNil)) (mF [] (fUn itemsOf (dV 4)) (mNil))))
    (sSeq (sFor (iA pRng2 (aCons (dC (.int (1))) (aCons (dV 1) (aNil)))) (gN 8) b1__law_net)
    (sFrz 7 (sMix [3, 4] (mF [] (dLV 3 (dF (fLst (aCons (dUn pTuple (dB 6)) (aNil)))) pCat) (mE (dV 7) (mNil))))))
def d__law_net : C := sSeq (sMix [2, 3, 4] (mE (dCallIO F__law_draw 0 (aCons (dC (.int (5))) (aNil))) (mF [] (fLst (aNil)) (mE (dF (fRg1 (dV 1))) (mNil)))))
    (sSeq (sFor (iA pRng1 (aCons (dIf (tCmp cLt (dV 2) (dC (.int (3)))) (dCallIO F__law_draw 0 (aCons (dC (.int (6))) (aNil))) (dV 1)) (aNil))) (gN 5) b2__law_net)
    (sSeq (sIf (tAnd (tCmp cGt (dUn pLen (dB 3)) (dC (.int (0)))) (tCmp cEq (dCallIO F__law_draw 0 (aCons (dC (.int (3))) (aNil))) (dC (.int (0)))))
    (sSeq (sSet 12 (dCallIO F__law_draw 0 (aCons (dUn pLen (dB 3)) (aNil))))
    (sSeq (sSet 13 (dCallIO F__law_draw 0 (aCons (dOp pAdd (dUn pLen (dLV 3 (dV 12) pIx)) (dC (.int (1)))) (aNil))))
    (sSetI 3 (dOp pAdd (dSl (dLV 3 (dV 12) pIx) (oNo) (oSo (dV 13))) (dSl (dLV 3 (dV 12) pIx) (oSo (dOp pAdd (dV 13) (dC (.int (1))))) (oNo))) (dV 12))))
    (sNext))
    (sRet (dUn pTuple (dB 3)))))
def F__law_net : Fn := runB true 14 2 d__law_net
def d__law_any_word : C := sSeq (sSet 2 (dOp pSub (dOp pShl (dC (.int (1))) (dV 1)) (dC (.int (1)))))
    (sRet (dCallIO F__law_any 0 (aCons (dF (fLst (aCons (dCallIO F__law_draw 0 (aCons (dOp pAdd (dV 2) (dC (.int (1)))) (aNil))) (aCons (dV 2) (aCons (dOp pShl (dC (.int (1))) (dCallIO F__law_draw 0 (aCons (dV 1) (aNil)))) (aCons (dC (.int (0))) (aCons (dOp pSub (dV 2) (dCallIO F__law_draw 0 (aCons (dC (.int (2))) (aNil)))) (aNil)))))))) (aNil))))
def F__law_any_word : Fn := runB true 3 2 d__law_any_word
def d_is_integer : C := sRet (dAnd (dUn (pIs "int") (dV 0)) (dNot (dUn (pIs "bool") (dV 0))))
def F_is_integer : Fn := runB false 1 1 d_is_integer
def d_is_within : C := sRet (dAnd (dCall F_is_integer (aCons (dV 0) (aNil))) (dT (tChain cLe cLe (dV 1) (dV 0) (dV 2))))
def F_is_within : Fn := runB false 3 3 d_is_within
def d_check_width : C := sIf (tNot (tTru (dCall F_is_within (aCons (dV 0) (aCons (dC (.int (1))) (aCons (dC (.int (64))) (aNil)))))))
    (sRaise "BadWidth")
    (sNext)
def F_check_width : Fn := runB false 1 1 d_check_width
def d_is_tuple_of : C := sRet (dAnd (dUn (pIs "tuple") (dV 0)) (dT (tCmp cEq (dUn pLen (dV 0)) (dV 1))))
def F_is_tuple_of : Fn := runB false 2 2 d_is_tuple_of
def b1_is_net : C := sSeq (sIf (tOr (tNot (tTru (dCall F_is_within (aCons (dV 4) (aCons (dC (.int (0))) (aCons (dOp pSub (dV 0) (dC (.int (1)))) (aNil))))))) (tNot (tTru (dCall F_is_within (aCons (dV 5) (aCons (dC (.int (0))) (aCons (dOp pSub (dV 0) (dC (.int (1)))) (aNil))))))))
    (sRet (dC (.bl false)))
    (sNext))
    (sSeq (sIf (tOr (tCmp cLe (dV 4) (dV 3)) (tCmp cGe (dV 5) (dV 4)))
    (sRet (dC (.bl false)))
    (sNext))
    (sSet 3 (dV 4)))
def b2_is_net : C := sSeq (sIf (tOr (tNot (tTru (dUn (pIs "tuple") (dV 2)))) (tNot (tTru (dUn pAll (dF (fLc [6] (iU itOf (dV 2)) (gN 6) (tYesD) (dCall F_is_tuple_of (aCons (dV 6) (aCons (dC (.int (2))) (aNil))))))))))
    (sRet (dC (.bl false)))
    (sNext))
    (sSeq (sSet 3 (dUn pNeg (dC (.int (1)))))
    (sFor (iU itOf (dV 2)) (gT 2 (gsC (gN 4) (gsC (gN 5) (gs0)))) b1_is_net))
def d_is_net : C := sSeq (sExpr (dCall F_check_width (aCons (dV 0) (aNil))))
    (sSeq (sIf (tOr (tNot (tTru (dUn (pIs "tuple") (dV 1)))) (tCmp cGt (dUn pLen (dV 1)) (dC (.int (200)))))
    (sRet (dC (.bl false)))
    (sNext))
    (sSeq (sFor (iU itOf (dV 1)) (gN 2) b2_is_net)
    (sRet (dC (.bl true)))))
def F_is_net : Fn := runB false 7 2 d_is_net
def d_check_net : C := sIf (tNot (tTru (dCall F_is_net (aCons (dV 0) (aCons (dV 1) (aNil))))))
    (sRaise "BadNet")
    (sNext)
def F_check_net : Fn := runB false 2 2 d_check_net
def d_is_word : C := sSeq (sExpr (dCall F_check_width (aCons (dV 0) (aNil))))
    (sRet (dCall F_is_within (aCons (dV 1) (aCons (dC (.int (0))) (aCons (dOp pSub (dOp pShl (dC (.int (1))) (dV 0)) (dC (.int (1)))) (aNil))))))
def F_is_word : Fn := runB false 2 2 d_is_word
def d_check_word : C := sIf (tNot (tTru (dCall F_is_word (aCons (dV 0) (aCons (dV 1) (aNil))))))
    (sRaise "BadWord")
    (sNext)
def F_check_word : Fn := runB false 2 2 d_check_word
def b1_net_sum : C := sSeq (sSetI 9 (dOp pOr (dLV 6 (dV 11) pIx) (dOp pAnd (dLV 7 (dV 11) pIx) (dLV 6 (dV 12) pIx))) (dV 11))
    (sSetI 10 (dOp pAnd (dLV 7 (dV 11) pIx) (dLV 7 (dV 12) pIx)) (dV 11))
def b2_net_sum : C := sSeq (sMix [9, 10] (mF [] (fUn itemsOf (dV 6)) (mF [] (fUn itemsOf (dV 7)) (mNil))))
    (sSeq (sFor (iU itOf (dV 8)) (gT 2 (gsC (gN 11) (gsC (gN 12) (gs0)))) b1_net_sum)
    (sFrz 10 (sFrz 9 (sPar [6, 7] (aCons (dV 9) (aCons (dV 10) (aNil)))))))
def b3_net_sum : C := sSet 13 (dOp pXor (dV 13) (dOp pShl (dV 14) (dOp pAdd (dV 11) (dC (.int (1))))))
def d_net_sum : C := sSeq (sExpr (dCall F_check_net (aCons (dV 0) (aCons (dV 1) (aNil)))))
    (sSeq (sExpr (dCall F_check_word (aCons (dV 0) (aCons (dV 2) (aNil)))))
    (sSeq (sExpr (dCall F_check_word (aCons (dV 0) (aCons (dV 3) (aNil)))))
    (sSeq (sAsg (gT 2 (gsC (gN 4) (gsC (gN 5) (gs0)))) (dTup (aCons (dOp pAnd (dV 2) (dV 3)) (aCons (dOp pXor (dV 2) (dV 3)) (aNil)))))
    (sSeq (sSet 6 (dF (fLc [11] (iA pRng1 (aCons (dV 0) (aNil))) (gN 11) (tYesD) (dOp pAnd (dOp pShr (dV 4) (dV 11)) (dC (.int (1)))))))
    (sSeq (sSet 7 (dF (fLc [11] (iA pRng1 (aCons (dV 0) (aNil))) (gN 11) (tYesD) (dOp pAnd (dOp pShr (dV 5) (dV 11)) (dC (.int (1)))))))
    (sSeq (sFor (iU itOf (dV 1)) (gN 8) b2_net_sum)
    (sSeq (sSet 13 (dV 5))
    (sSeq (sFor (iA pEnumA (aCons (dV 6) (aNil))) (gT 2 (gsC (gN 11) (gsC (gN 14) (gs0)))) b3_net_sum)
    (sRet (dV 13))))))))))
def F_net_sum : Fn := runB false 15 4 d_net_sum
def b1_last_tries : C := sSeq (sSet 5 (dOp pXor (dOp pXor (dOp pSub (dOp pShl (dC (.int (1))) (dV 0)) (dC (.int (1)))) (dOp pShl (dC (.int (1))) (dV 2))) (dOp pShl (dC (.int (1))) (dV 3))))
    (sSeq (sApp 1 (dTup (aCons (dOp pOr (dV 5) (dOp pShl (dC (.int (1))) (dV 2))) (aCons (dOp pShl (dC (.int (1))) (dV 2)) (aNil)))))
    (sApp 1 (dTup (aCons (dOp pXor (dV 5) (dOp pShl (dC (.int (1))) (dV 4))) (aCons (dOp pOr (dOp pShl (dC (.int (1))) (dV 2)) (dOp pShl (dC (.int (1))) (dV 4))) (aNil))))))
def b2_last_tries : C := sFor (iA pRng2 (aCons (dOp pAdd (dV 3) (dC (.int (1)))) (aCons (dV 0) (aNil)))) (gN 4) b1_last_tries
def b3_last_tries : C := sFor (iA pRng2 (aCons (dOp pAdd (dV 2) (dC (.int (1)))) (aCons (dV 0) (aNil)))) (gN 3) b2_last_tries
def d_last_tries : C := sSeq (sOwn 1 (fLst (aNil)))
    (sSeq (sFor (iA pRng1 (aCons (dV 0) (aNil))) (gN 2) b3_last_tries)
    (sRetV 1))
def F_last_tries : Fn := runB false 6 1 d_last_tries
def b1_false_words : C := sSeq (sSet 4 (dOp pShl (dC (.int (1))) (dV 3)))
    (sSeq (sPar [5, 6] (aCons (dOp pXor (dOp pSub (dOp pShl (dC (.int (1))) (dOp pAdd (dV 2) (dC (.int (1))))) (dC (.int (1)))) (dOp pSub (dV 4) (dC (.int (1))))) (aCons (dV 4) (aNil))))
    (sIf (tCmp cNe (dCall F_net_sum (aCons (dV 0) (aCons (dV 1) (aCons (dV 5) (aCons (dV 6) (aNil)))))) (dOp pAdd (dV 5) (dV 6)))
    (sRet (dTup (aCons (dV 5) (aCons (dV 6) (aNil)))))
    (sNext)))
def b2_false_words : C := sFor (iA pRng1 (aCons (dOp pAdd (dV 2) (dC (.int (1)))) (aNil))) (gN 3) b1_false_words
def b3_false_words : C := sIf (tCmp cNe (dCall F_net_sum (aCons (dV 0) (aCons (dV 1) (aCons (dV 5) (aCons (dV 6) (aNil)))))) (dOp pAdd (dV 5) (dV 6)))
    (sRet (dTup (aCons (dV 5) (aCons (dV 6) (aNil)))))
    (sNext)
def d_false_words : C := sSeq (sExpr (dCall F_check_net (aCons (dV 0) (aCons (dV 1) (aNil)))))
    (sSeq (sIf (tCmp cGt (dV 0) (dC (.int (16))))
    (sRaise "BadNumber")
    (sNext))
    (sSeq (sFor (iA pRng1 (aCons (dV 0) (aNil))) (gN 2) b2_false_words)
    (sSeq (sFor (iU itOf (dCall F_last_tries (aCons (dV 0) (aNil)))) (gT 2 (gsC (gN 5) (gsC (gN 6) (gs0)))) b3_false_words)
    (sRet (dC .non)))))
def F_false_words : Fn := runB false 7 2 d_false_words
def b1__law_sum : C := sSeq (sSetI 4 (dOp pOr (dLV 8 (dV 10) pIx) (dOp pAnd (dLV 9 (dV 10) pIx) (dLV 8 (dV 11) pIx))) (dV 10))
    (sSetI 5 (dOp pAnd (dLV 9 (dV 10) pIx) (dLV 9 (dV 11) pIx)) (dV 10))
def b2__law_sum : C := sSeq (sPar [8, 9] (aCons (dF (fUn itemsOf (dB 4))) (aCons (dF (fUn itemsOf (dB 5))) (aNil))))
    (sFor (iU itOf (dV 7)) (gT 2 (gsC (gN 10) (gsC (gN 11) (gs0)))) b1__law_sum)
def b3__law_sum : C := sSeq (sSet 14 (dIf (tCmp cGt (dV 13) (dC (.int (0)))) (dLV 4 (dOp pSub (dV 13) (dC (.int (1)))) pIx) (dC (.int (0)))))
    (sSet 12 (dOp pAdd (dV 12) (dOp pShl (dOp pXor (dLV 6 (dV 13) pIx) (dV 14)) (dV 13))))
def d__law_sum : C := sSeq (sOwn 4 (fLc [13] (iA pRng1 (aCons (dV 0) (aNil))) (gN 13) (tYesD) (dOp pAnd (dOp pShr (dUn pInt (dOp pAnd (dV 2) (dV 3))) (dV 13)) (dC (.int (1))))))
    (sSeq (sOwn 5 (fLc [13] (iA pRng1 (aCons (dV 0) (aNil))) (gN 13) (tYesD) (dOp pAnd (dOp pShr (dUn pInt (dOp pXor (dV 2) (dV 3))) (dV 13)) (dC (.int (1))))))
    (sSeq (sSet 6 (dF (fUn itemsOf (dB 5))))
    (sSeq (sFor (iU itOf (dV 1)) (gN 7) b2__law_sum)
    (sSeq (sSet 12 (dOp pShl (dLV 4 (dOp pSub (dV 0) (dC (.int (1)))) pIx) (dV 0)))
    (sSeq (sFor (iA pRng1 (aCons (dV 0) (aNil))) (gN 13) b3__law_sum)
    (sRet (dV 12)))))))
def F__law_sum : Fn := runB false 15 4 d__law_sum
def b1_spans_of : C := sIf (tAnd (tCmp cLe (dLV 2 (dV 6) pIx) (dOp pAdd (dV 7) (dC (.int (1))))) (tCmp cGt (dLV 2 (dV 6) pIx) (dLV 2 (dV 7) pIx)))
    (sSetI 5 (dLV 2 (dV 7) pIx) (dV 6))
    (sIf (tCmp cGt (dLV 2 (dV 6) pIx) (dOp pAdd (dV 7) (dC (.int (1)))))
    (sSet 3 (dC (.bl false)))
    (sNext))
def b2_spans_of : C := sSeq (sOwn 5 (fUn itemsOf (dV 2)))
    (sSeq (sFor (iU itOf (dV 4)) (gT 2 (gsC (gN 6) (gsC (gN 7) (gs0)))) b1_spans_of)
    (sFrz 5 (sSet 2 (dV 5))))
def d_spans_of : C := sSeq (sPar [2, 3] (aCons (dF (fRg1 (dV 0))) (aCons (dC (.bl true)) (aNil))))
    (sSeq (sFor (iU itOf (dV 1)) (gN 4) b2_spans_of)
    (sRet (dTup (aCons (dV 2) (aCons (dV 3) (aNil))))))
def F_spans_of : Fn := runB false 8 2 d_spans_of
def d_is_whole : C := sSeq (sIf (tNot (tTru (dCall F_is_net (aCons (dV 0) (aCons (dV 1) (aNil))))))
    (sRet (dC (.bl false)))
    (sNext))
    (sSeq (sAsg (gT 2 (gsC (gN 2) (gsC (gN 3) (gs0)))) (dCall F_spans_of (aCons (dV 0) (aCons (dV 1) (aNil)))))
    (sRet (dAnd (dV 3) (dNot (dUn pAnyA (dV 2))))))
def F_is_whole : Fn := runB false 4 2 d_is_whole
def b1__law_spans : C := sIf (tCmp cGe (dV 8) (dOp pSub (dLV 2 (dV 7) pIx) (dC (.int (1)))))
    (sSetI 6 (dOp pMin2 (dLV 2 (dV 7) pIx) (dLV 2 (dV 8) pIx)) (dV 7))
    (sIf (tCmp cIsN (dV 3) (dC .non))
    (sSet 3 (dTup (aCons (dV 4) (aCons (dV 7) (aNil)))))
    (sNext))
def b2__law_spans : C := sSeq (sOwn 6 (fUn itemsOf (dV 2)))
    (sSeq (sFor (iU itOf (dV 5)) (gT 2 (gsC (gN 7) (gsC (gN 8) (gs0)))) b1__law_spans)
    (sFrz 6 (sSet 2 (dV 6))))
def d__law_spans : C := sSeq (sPar [2, 3] (aCons (dF (fRg1 (dV 0))) (aCons (dC .non) (aNil))))
    (sSeq (sFor (iA pEnumA (aCons (dV 1) (aNil))) (gT 2 (gsC (gN 4) (gsC (gN 5) (gs0)))) b2__law_spans)
    (sRet (dTup (aCons (dUn pTuple (dV 2)) (aCons (dV 3) (aNil))))))
def F__law_spans : Fn := runB false 9 2 d__law_spans
def d__law_is_int : C := sRet (dAnd (dUn (pIs "int") (dV 0)) (dNot (dUn (pIs "bool") (dV 0))))
def F__law_is_int : Fn := runB false 1 1 d__law_is_int
def b1__law_is_net : C := sSeq (sIf (tOr (tNot (tTru (dUn (pIs "tuple") (dV 3)))) (tOr (tCmp cNe (dUn pLen (dV 3)) (dC (.int (2)))) (tNot (tTru (dUn pAll (dF (fLc [4] (iU itOf (dV 3)) (gN 4) (tYesD) (dCall F__law_is_int (aCons (dV 4) (aNil))))))))))
    (sRet (dC (.bl false)))
    (sNext))
    (sIf (tNot (PF.tChain3 cLe cLt cLt (dC (.int (0))) (dLV 3 (dC (.int (1))) pIx) (dLV 3 (dC (.int (0))) pIx) (dV 0)))
    (sRet (dC (.bl false)))
    (sNext))
def b2__law_is_net : C := sSeq (sIf (tNot (tTru (dUn (pIs "tuple") (dV 2))))
    (sRet (dC (.bl false)))
    (sNext))
    (sSeq (sFor (iU itOf (dV 2)) (gN 3) b1__law_is_net)
    (sIf (tNot (tTru (dUn pAll (dF (fLc [4, 5] (iA pZip (aCons (dV 2) (aCons (dSl (dV 2) (oSo (dC (.int (1)))) (oNo)) (aNil)))) (gT 2 (gsC (gN 4) (gsC (gN 5) (gs0)))) (tYesD) (dT (tCmp cLt (dLV 4 (dC (.int (0))) pIx) (dLV 5 (dC (.int (0))) pIx))))))))
    (sRet (dC (.bl false)))
    (sNext)))
def d__law_is_net : C := sSeq (sIf (tOr (tNot (tTru (dUn (pIs "tuple") (dV 1)))) (tCmp cGt (dUn pLen (dV 1)) (dC (.int (200)))))
    (sRet (dC (.bl false)))
    (sNext))
    (sSeq (sFor (iU itOf (dV 1)) (gN 2) b2__law_is_net)
    (sRet (dC (.bl true))))
def F__law_is_net : Fn := runB false 6 2 d__law_is_net
def d__law_is_whole : C := sSeq (sIf (tNot (tTru (dCall F__law_is_net (aCons (dV 0) (aCons (dV 1) (aNil))))))
    (sRet (dC (.bl false)))
    (sNext))
    (sSeq (sAsg (gT 2 (gsC (gN 2) (gsC (gN 3) (gs0)))) (dCall F__law_spans (aCons (dV 0) (aCons (dV 1) (aNil)))))
    (sRet (dAnd (dT (tCmp cIsN (dV 3) (dC .non))) (dT (tCmp cEq (dUn pMaxA (dV 2)) (dC (.int (0))))))))
def F__law_is_whole : Fn := runB false 4 2 d__law_is_whole
def s__law_word (x : Exc) : C := sSeq (sSet 3 (dF (fLst (aCons (dIsE tbl x "BadFloat") (aCons (dIsE tbl x "BadForm") (aCons (dIsE tbl x "BadHeights") (aNil)))))))
    (sSeq (sSet 3 (dF (fCat (dV 3) (dF (fLst (aCons (dIsE tbl x "BadNet") (aCons (dIsE tbl x "BadNumber") (aCons (dIsE tbl x "BadRounding") (aNil)))))))))
    (sSeq (sSet 3 (dF (fCat (dV 3) (dF (fLst (aCons (dIsE tbl x "BadWidth") (aCons (dIsE tbl x "BadWord") (aNil))))))))
    (sSeq (sSet 4 (dF (fLst (aCons (dC (.str "float")) (aCons (dC (.str "form")) (aCons (dC (.str "heights")) (aCons (dC (.str "net")) (aCons (dC (.str "number")) (aCons (dC (.str "rounding")) (aCons (dC (.str "width")) (aCons (dC (.str "word")) (aNil))))))))))))
    (sSet 1 (dIf (tAnd (tCmp cEq (dLM 3 (dC (.bl true)) pCount) (dC (.int (1)))) (tTru (dIsV x))) (dLV 4 (dLM 3 (dC (.bl true)) pIndex) pIx) (dC (.str "odd")))))))
def q__law_word : C := sRet (dV 1)
def p__law_word : C := sSet 1 (dC (.str "told"))
def r__law_word : PF.Env := match p__law_word (initE 5 []) with | .ok _ ρ => ρ | _ => []
def H__law_word : TR → FOut := hRun r__law_word false tbl "WordError" 2 s__law_word q__law_word
def b1__law_is_right : C := sSeq (sPar [4, 5] (aCons (dCallIO F__law_any_word 0 (aCons (dV 1) (aNil))) (aCons (dCallIO F__law_any_word 0 (aCons (dV 1) (aNil))) (aNil))))
    (sSeq (sSet 6 (dCall F__law_sum (aCons (dV 1) (aCons (dV 2) (aCons (dV 4) (aCons (dV 5) (aNil)))))))
    (sSeq (sIf (tNot (tTru (dCall F__law_is (aCons (dF (fLst (aCons (dCall F_net_sum (aCons (dV 1) (aCons (dV 2) (aCons (dV 4) (aCons (dV 5) (aNil)))))) (aCons (dCall F_net_sum (aCons (dV 1) (aCons (dV 2) (aCons (dV 5) (aCons (dV 4) (aNil)))))) (aNil))))) (aCons (dF (fLst (aCons (dV 6) (aCons (dV 6) (aNil))))) (aNil))))))
    (sRet (dC (.bl false)))
    (sNext))
    (sIf (tAnd (tTru (dCall F__law_is_whole (aCons (dV 1) (aCons (dV 2) (aNil))))) (tCmp cNe (dV 6) (dOp pAdd (dV 4) (dV 5))))
    (sRet (dC (.bl false)))
    (sNext))))
def d__law_is_right : C := sSeq (sFor (iA pRng1 (aCons (dC (.int (4))) (aNil))) (gN 3) b1__law_is_right)
    (sSeq (sIf (tCmp cGt (dV 1) (dC (.int (16))))
    (sRet (dT (tCmp cEq (dLam H__law_word (dCall F_false_words (aCons (dV 1) (aCons (dV 2) (aNil))))) (dC (.str "number")))))
    (sNext))
    (sSeq (sSet 7 (dCall F_false_words (aCons (dV 1) (aCons (dV 2) (aNil)))))
    (sSeq (sIf (tCmp cIsN (dV 7) (dC .non))
    (sRet (dC (.bl true)))
    (sNext))
    (sSeq (sIf (tOr (tNot (tTru (dUn (pIs "tuple") (dV 7)))) (tOr (tCmp cNe (dUn pLen (dV 7)) (dC (.int (2)))) (tNot (tTru (dUn pAll (dF (fLc [4] (iU itOf (dV 7)) (gN 4) (tYesD) (dCall F__law_is_int (aCons (dV 4) (aNil))))))))))
    (sRet (dC (.bl false)))
    (sNext))
    (sSeq (sIf (tOr (tNot (tTru (dUn pAll (dF (fLc [4] (iU itOf (dV 7)) (gN 4) (tYesD) (dT (tChain cLe cLt (dC (.int (0))) (dV 4) (dOp pShl (dC (.int (1))) (dV 1))))))))) (tTru (dCall F_is_whole (aCons (dV 1) (aCons (dV 2) (aNil))))))
    (sRet (dC (.bl false)))
    (sNext))
    (sRet (dT (tCmp cNe (dCall F__law_sum (aCons (dV 1) (aCons (dV 2) (aCons (dLV 7 (dC (.int (0))) pIx) (aCons (dLV 7 (dC (.int (1))) pIx) (aNil)))))) (dUn pSum (dV 7))))))))))
def F__law_is_right : Fn := runB true 8 3 d__law_is_right
def d__law_no_width : C := sRet (dCallIO F__law_any 0 (aCons (dF (fLst (aCons (dC (.int (0))) (aCons (dC (.int (65))) (aCons (dUn pNeg (dC (.int (1)))) (aCons (dC .non) (aCons (dC (.bl true)) (aCons (dC (.str "8")) (aCons (dTup (aCons (dC (.int (8))) (aNil))) (aNil)))))))))) (aNil)))
def F__law_no_width : Fn := runB true 1 1 d__law_no_width
def d__law_are_refused_right : C := sSeq (sAsg (gT 2 (gsC (gN 3) (gsC (gN 4) (gs0)))) (dTup (aCons (dCallIO F__law_no_width 0 (aNil)) (aCons (dCallIO F__law_any 0 (aCons (dF (fLst (aCons (dC .non) (aCons (dF (fLst (aCons (dTup (aNil)) (aNil)))) (aCons (dTup (aCons (dTup (aCons (dC (.int (1))) (aCons (dC (.int (0))) (aNil)))) (aNil))) (aCons (dTup (aCons (dTup (aCons (dTup (aCons (dC (.int (1))) (aCons (dC (.int (1))) (aNil)))) (aNil))) (aNil))) (aCons (dC (.int (0))) (aCons (dC (.dic [] [])) (aCons (dTup (aCons (dTup (aCons (dTup (aCons (dV 1) (aCons (dC (.int (0))) (aNil)))) (aNil))) (aNil))) (aNil)))))))))) (aNil))) (aNil)))))
    (sSeq (sSet 5 (dCallIO F__law_any 0 (aCons (dF (fLst (aCons (dUn pNeg (dC (.int (1)))) (aCons (dOp pShl (dC (.int (1))) (dV 1)) (aCons (dC .non) (aCons (dC (.bl true)) (aCons (dC (.str "0")) (aCons (dTup (aCons (dC (.int (0))) (aNil))) (aNil))))))))) (aNil))))
    (sSeq (sOwn 6 (fLst (aCons (dLam H__law_word (dCall F_net_sum (aCons (dV 3) (aCons (dV 4) (aCons (dV 5) (aCons (dV 5) (aNil))))))) (aNil))))
    (sSeq (sApp 6 (dLam H__law_word (dCall F_net_sum (aCons (dV 1) (aCons (dV 4) (aCons (dV 5) (aCons (dV 5) (aNil))))))))
    (sSeq (sApp 6 (dLam H__law_word (dCall F_net_sum (aCons (dV 1) (aCons (dV 2) (aCons (dV 5) (aCons (dC (.int (0))) (aNil))))))))
    (sSeq (sApp 6 (dLam H__law_word (dCall F_net_sum (aCons (dV 1) (aCons (dV 2) (aCons (dC (.int (0))) (aCons (dV 5) (aNil))))))))
    (sSeq (sApp 6 (dLam H__law_word (dCall F_false_words (aCons (dV 3) (aCons (dV 4) (aNil))))))
    (sSeq (sApp 6 (dLam H__law_word (dCall F_false_words (aCons (dOp pAdd (dC (.int (17))) (dCallIO F__law_draw 0 (aCons (dC (.int (48))) (aNil)))) (aCons (dTup (aNil)) (aNil))))))
    (sSeq (sSet 7 (dCallIO F__law_any 0 (aCons (dF (fLst (aCons (dC .non) (aCons (dF (fLst (aCons (dTup (aNil)) (aNil)))) (aCons (dTup (aCons (dTup (aCons (dTup (aCons (dC (.int (1))) (aCons (dC (.int (1))) (aNil)))) (aNil))) (aNil))) (aCons (dC (.int (0))) (aNil))))))) (aNil))))
    (sSeq (sApp 6 (dLam H__law_word (dCall F_false_words (aCons (dOp pAdd (dC (.int (17))) (dCallIO F__law_draw 0 (aCons (dC (.int (48))) (aNil)))) (aCons (dV 7) (aNil))))))
    (sSeq (sApp 6 (dLam H__law_word (dCall F_false_words (aCons (dOp pMin2 (dV 1) (dC (.int (16)))) (aCons (dCallIO F__law_any 0 (aCons (dF (fLst (aCons (dC .non) (aCons (dF (fLst (aCons (dTup (aNil)) (aNil)))) (aCons (dTup (aCons (dTup (aCons (dTup (aCons (dC (.int (1))) (aCons (dC (.int (1))) (aNil)))) (aNil))) (aNil))) (aCons (dC (.int (0))) (aNil))))))) (aNil))) (aNil))))))
    (sRet (dT (dLV 6 (dF (fLst (aCons (dC (.str "width")) (aCons (dC (.str "net")) (aCons (dC (.str "word")) (aCons (dC (.str "word")) (aCons (dC (.str "width")) (aCons (dC (.str "number")) (aCons (dC (.str "net")) (aCons (dC (.str "net")) (aNil))))))))))) cEq)))))))))))))
def F__law_are_refused_right : Fn := runB true 8 3 d__law_are_refused_right
def b1_law : C := sSeq (sSet 3 (dOp pAdd (dC (.int (1))) (dCallIO F__law_draw 1 (aCons (dCallIO F__law_any 1 (aCons (dF (fLst (aCons (dC (.int (4))) (aCons (dC (.int (10))) (aCons (dC (.int (16))) (aCons (dC (.int (64))) (aNil))))))) (aNil))) (aNil)))))
    (sSeq (sSet 4 (dCallIO F__law_net 1 (aCons (dV 3) (aNil))))
    (sSeq (sIf (tOr (tNot (tTru (dCallIO F__law_is_right 1 (aCons (dV 3) (aCons (dV 4) (aNil)))))) (tNot (tTru (dCallIO F__law_are_refused_right 1 (aCons (dV 3) (aCons (dV 4) (aNil)))))))
    (sRet (dC (.bl false)))
    (sNext))
    (sSeq (sPar [5, 6] (aCons (dCallIO F__law_any_word 1 (aCons (dV 3) (aNil))) (aCons (dCallIO F__law_any_word 1 (aCons (dV 3) (aNil))) (aNil))))
    (sIf (tNot (tTru (dCall F__law_is (aCons (dCall F_net_sum (aCons (dV 3) (aCons (dTup (aNil)) (aCons (dV 5) (aCons (dV 6) (aNil)))))) (aCons (dOp pXor (dOp pXor (dV 5) (dV 6)) (dOp pMul (dC (.int (2))) (dOp pAnd (dV 5) (dV 6)))) (aNil))))))
    (sRet (dC (.bl false)))
    (sNext)))))
def d_law : C := sSeq (sOwn 1 (fCall F__law_hand (aCons (dV 0) (aNil))))
    (sSeq (sFor (iA pRng1 (aCons (dC (.int (5))) (aNil))) (gN 2) b1_law)
    (sRet (dCall F__law_is (aCons (dF (fLst (aCons (dCall F_net_sum (aCons (dC (.int (2))) (aCons (dTup (aCons (dTup (aCons (dTup (aCons (dC (.int (1))) (aCons (dC (.int (0))) (aNil)))) (aNil))) (aNil))) (aCons (dC (.int (3))) (aCons (dC (.int (1))) (aNil)))))) (aCons (dCall F_net_sum (aCons (dC (.int (2))) (aCons (dTup (aNil)) (aCons (dC (.int (3))) (aCons (dC (.int (1))) (aNil)))))) (aCons (dCall F_false_words (aCons (dC (.int (1))) (aCons (dTup (aNil)) (aNil)))) (aNil)))))) (aCons (dF (fLst (aCons (dC (.int (4))) (aCons (dC (.int (0))) (aCons (dC .non) (aNil)))))) (aNil))))))
def F_law : Fn := runB false 7 1 d_law
end K39

set_option Elab.async false
set_option linter.all false
set_option maxRecDepth 100000
namespace K39
open PySem PySem.Spec PyProof.Rows L2 LamX PF
structure Fx (M : Mo) : Prop where
  blt : Blt M
  exc : ∃ as, ExT M tbl as
  c_MOST_WIDTH : CstM M "MOST_WIDTH" (.int (64))
  f__law_hand : FunF M "_law_hand" (top 28) ["script"]
  f__law_is : FunF M "_law_is" (top 31) ["answer", "due"]
  f__law_draw : FunF M "_law_draw" (top 29) ["hand", "many"]
  f__law_any : FunF M "_law_any" (top 30) ["hand", "some"]
  f__law_net : FunF M "_law_net" (top 34) ["hand", "width"]
  f__law_any_word : FunF M "_law_any_word" (top 40) ["hand", "width"]
  f_is_integer : FunF M "is_integer" (top 1) ["thing"]
  f_is_within : FunF M "is_within" (top 2) ["thing", "low", "high"]
  f_check_width : FunF M "check_width" (top 16) ["width"]
  f_is_tuple_of : FunF M "is_tuple_of" (top 3) ["thing", "many"]
  f_is_net : FunF M "is_net" (top 20) ["width", "thing"]
  f_check_net : FunF M "check_net" (top 21) ["width", "net"]
  f_is_word : FunF M "is_word" (top 17) ["width", "thing"]
  f_check_word : FunF M "check_word" (top 18) ["width", "word"]
  f_net_sum : FunF M "net_sum" (top 26) ["width", "net", "one", "other"]
  f_last_tries : FunF M "last_tries" (top 25) ["width"]
  f_false_words : FunF M "false_words" (top 24) ["width", "net"]
  f__law_sum : FunF M "_law_sum" (top 38) ["width", "net", "one", "other"]
  f_spans_of : FunF M "spans_of" (top 22) ["width", "net"]
  f_is_whole : FunF M "is_whole" (top 23) ["width", "thing"]
  f__law_spans : FunF M "_law_spans" (top 35) ["width", "net"]
  f__law_is_int : FunF M "_law_is_int" (top 33) ["thing"]
  f__law_is_net : FunF M "_law_is_net" (top 36) ["width", "thing"]
  f__law_is_whole : FunF M "_law_is_whole" (top 37) ["width", "thing"]
  f__law_word : FunF M "_law_word" (top 32) ["call"]
  f__law_is_right : FunL M "_law_is_right" (top 41) ["hand", "width", "net"]
  f__law_no_width : FunF M "_law_no_width" (top 39) ["hand"]
  f__law_are_refused_right : FunL M "_law_are_refused_right" (top 42) ["hand", "width", "net"]
  f_law : FunF M "law" (top 43) ["script"]
theorem sc__law_hand : FnScope ["script", "cells", "cell"] ["script"] (defScope (top 28)) := ⟨rfl, rfl, rfl, by decide +kernel, rfl, by decide +kernel, by decide +kernel⟩
theorem ok__law_hand {M : Mo} (Y : Fx M) : FnM M "_law_hand" ["script"] false F__law_hand 1 := by
  obtain ⟨as, Z⟩ := Y.exc
  exact fn_okF (x := "_law_hand") (N := ["script", "cells", "cell"]) (ps := ["script"]) (st := top 28) (d := d__law_hand) (j := 0) false Y.f__law_hand sc__law_hand fun X G W B BX =>
    (bs_cons (s_ownFrz (b_ownLc (i := 1) (own := [("cell", 2)]) B BX.calm (i_seq B.ct (e_sl B.ct (e_var (B.v 0)) o_no (o_so e_int))) (fun _ _ B5 hc5 => (g_n (i := 2) B5.nod B5.n B5.lo (B5.io) B5.lfn (by decide))) (fun _ _ B5 hc5 => pts_yes) (fun _ _ B5 hc5 => (b_abs B5 Y.blt (b_of (b_int B5 Y.blt (b_of (e_var (B5.v 2)))))))) (B.io))
    (bs_one (s_retF (f_lst (a_cons (e_var (B.v 1)) (a_cons e_int (a_cons e_int (a_cons (e_add B.ct e_int (e_mul B.ct e_int (b_len B Y.blt (b_of (e_var (B.v 1)))))) (a_cons e_int a_nil)))))))))
theorem sc__law_is : FnScope ["answer", "due", "one", "other"] ["answer", "due"] (defScope (top 31)) := ⟨rfl, rfl, rfl, by decide +kernel, rfl, by decide +kernel, by decide +kernel⟩
theorem oi__law_is {M : Mo} (Y : Fx M) : ∀ n, FnM M "_law_is" ["answer", "due"] false (I__law_is n) (1 + n)
  | 0 => fn_okF (x := "_law_is") (N := ["answer", "due", "one", "other"]) (ps := ["answer", "due"]) (st := top 31) (d := fun _ => .stuck) (j := 0) false Y.f__law_is sc__law_is fun X G W B BX => bs_stuck
  | n + 1 => by
    have ih := oi__law_is Y n
    obtain ⟨as, Z⟩ := Y.exc
    exact fn_okF (x := "_law_is") (N := ["answer", "due", "one", "other"]) (ps := ["answer", "due"]) (st := top 31) (d := d__law_is (I__law_is n)) (j := 1 + n) false Y.f__law_is sc__law_is fun X G W B BX =>
    (bs_cons (s_if (t_w (w_or (t_cmp ob_isN op_isNo rfl B.ct (e_var (B.v 1)) (b_of e_non)) (w_or1 (t_cmp ob_isN op_isNo rfl B.ct (e_var (B.v 0)) (b_of e_non)))))
    (bs_one (s_ret (e_andV B.ct (e_cmp ob_isN op_isNo rfl B.ct (e_var (B.v 1)) (b_of e_non)) (e_one (e_cmp ob_isN op_isNo rfl B.ct (e_var (B.v 0)) (b_of e_non))))))
    bs_nil)
    (bs_cons (s_if (t_tru B.ct (b_of (b_isi2 B Y.blt kit_tuple kit_list (by decide +kernel) (by decide +kernel) (b_of (e_var (B.v 1))))))
    (bs_cons (s_if (t_w (w_or (t_cmp ob_ne (op_neD (un64 B.un)) rfl B.ct (b_isi B Y.blt kit_tuple (by decide +kernel) (b_of (e_var (B.v 0)))) (b_of (b_isi B Y.blt kit_tuple (by decide +kernel) (b_of (e_var (B.v 1)))))) (w_or1 (t_cmp ob_ne (op_neD (un64 B.un)) rfl B.ct (b_isi B Y.blt kit_list (by decide +kernel) (b_of (e_var (B.v 0)))) (b_of (b_isi B Y.blt kit_list (by decide +kernel) (b_of (e_var (B.v 1)))))))))
    (bs_one (s_ret e_bl))
    bs_nil)
    (bs_one (s_ret (e_andV B.ct (e_cmp ob_eq (op_eqD (un64 B.un)) rfl B.ct (b_len B Y.blt (b_of (e_var (B.v 0)))) (b_of (b_len B Y.blt (b_of (e_var (B.v 1)))))) (e_one (b_all B BX.calm Y.blt (b_f (b_lc (own := [("one", 2), ("other", 3)]) B BX.calm (i_zip B.ct B.g (B.non (Y.blt.at (by kernel_rfl))) (a_cons (e_var (B.v 0)) (a_cons (e_var (B.v 1)) a_nil))) (fun _ _ B5 hc5 => (g_t hc5 B5.ct.K (gs_c (g_n (i := 2) B5.nod B5.n B5.lo (B5.io) B5.lfn (by decide)) (gs_c (g_n (i := 3) B5.nod B5.n B5.lo (B5.io) B5.lfn (by decide)) gs_0)))) (fun _ _ B5 hc5 => pts_yes) (fun _ _ B5 hc5 => (e_call B5.ct (B5.at ih hc5 (Nat.le_refl _)) B5.g (a_cons (e_var (B5.v 2)) (a_cons (e_var (B5.v 3)) a_nil))))))))))))
    bs_nil)
    (bs_cons (s_if (t_w (w_or (t_cmp ob_ne (op_neD (un64 B.un)) rfl B.ct (b_isi B Y.blt kit_bool (by decide +kernel) (b_of (e_var (B.v 0)))) (b_of (b_isi B Y.blt kit_bool (by decide +kernel) (b_of (e_var (B.v 1)))))) (w_or1 (t_cmp ob_ne (op_neD (un64 B.un)) rfl B.ct (b_isi B Y.blt kit_int (by decide +kernel) (b_of (e_var (B.v 0)))) (b_of (b_isi B Y.blt kit_int (by decide +kernel) (b_of (e_var (B.v 1)))))))))
    (bs_one (s_ret e_bl))
    bs_nil)
    (bs_one (s_ret (e_andV B.ct (e_cmp ob_eq (op_eqD (un64 B.un)) rfl B.ct (b_isi B Y.blt kit_str (by decide +kernel) (b_of (e_var (B.v 0)))) (b_of (b_isi B Y.blt kit_str (by decide +kernel) (b_of (e_var (B.v 1)))))) (e_one (e_cmp ob_eq (op_eqD (un64 B.un)) rfl B.ct (e_var (B.v 0)) (b_of (e_var (B.v 1)))))))))))
theorem ok__law_is {M : Mo} (Y : Fx M) : FnM M "_law_is" ["answer", "due"] false F__law_is 9 := oi__law_is Y 8
theorem sc__law_draw : FnScope ["hand", "many", "cell", "digit", "number"] ["hand", "many"] (defScope (top 29)) := ⟨rfl, rfl, rfl, by decide +kernel, rfl, by decide +kernel, by decide +kernel⟩
theorem ok__law_draw {M : Mo} (Y : Fx M) : FnM M "_law_draw" ["hand", "many"] true F__law_draw 1 := by
  obtain ⟨as, Z⟩ := Y.exc
  exact fn_okF (x := "_law_draw") (N := ["hand", "many", "cell", "digit", "number"]) (ps := ["hand", "many"]) (st := top 29) (d := d__law_draw) (j := 0) true Y.f__law_draw sc__law_draw fun X G W B BX =>
    (bs_cons (s_if (t_w (w_and (t_cmp ob_eq (op_eqD (un64 B.un)) rfl B.ct (e_ixV B.ct (B.v 0) e_int) (b_of e_int)) (w_and1 (t_cmp ob_lt op_lt rfl B.ct (e_ixV B.ct (B.v 0) e_int) (b_of (b_len B Y.blt (b_of (e_ixV B.ct (B.v 0) e_int))))))))
    (bs_cons (s_set B.ct B.n B.lo (B.io) (e_ix B.ct (e_ixV B.ct (B.v 0) e_int) (e_ixV B.ct (B.v 0) e_int)) (BX.lfn _))
    (bs_cons (s_setI (B.v 0) e_int (e_add B.ct (e_ixV B.ct (B.v 0) e_int) e_int))
    (bs_cons (s_setI (B.v 0) e_int (e_mod B.ct (b_int B Y.blt (b_of (e_add B.ct (e_add B.ct (e_mul B.ct (e_ixV B.ct (B.v 0) e_int) e_int) (e_mul B.ct (e_var (B.v 2)) e_int)) e_int))) e_int))
    (bs_one (s_if (t_cmp ob_ge op_ge rfl B.ct (e_var (B.v 2)) (b_of (e_pow B.ct e_int e_int)))
    (bs_one (s_setI (B.v 0) e_int (e_var (B.v 2))))
    bs_nil)))))
    bs_nil)
    (bs_cons (s_if (t_cmp ob_gt op_gt rfl B.ct (e_ixV B.ct (B.v 0) e_int) (b_of e_int))
    (bs_cons (s_set B.ct B.n B.lo (B.io) (e_mod B.ct (b_int B Y.blt (b_of (e_ixV B.ct (B.v 0) e_int))) (e_var (B.v 1))) (BX.lfn _))
    (bs_cons (s_setI (B.v 0) e_int (e_floor B.ct (e_ixV B.ct (B.v 0) e_int) (e_var (B.v 1))))
    (bs_one (s_ret (e_var (B.v 3))))))
    bs_nil)
    (bs_cons (s_setI (B.v 0) e_int (e_add B.ct (e_ixV B.ct (B.v 0) e_int) e_int))
    (bs_cons (s_set B.ct B.n B.lo (B.io) (e_mod B.ct (b_int B Y.blt (b_of (e_mul B.ct (b_int B Y.blt (b_of (e_add B.ct (e_ixV B.ct (B.v 0) e_int) (e_mul B.ct e_int (e_ixV B.ct (B.v 0) e_int))))) e_int))) e_int) (BX.lfn _))
    (bs_cons (s_set B.ct B.n B.lo (B.io) (e_mod B.ct (b_int B Y.blt (b_of (e_mul B.ct (e_var (B.v 4)) (e_add B.ct (e_floor B.ct (e_var (B.v 4)) e_int) e_int)))) e_int) (BX.lfn _))
    (bs_cons (s_set B.ct B.n B.lo (B.io) (e_mod B.ct (b_int B Y.blt (b_of (e_mul B.ct (e_var (B.v 4)) (e_add B.ct (e_floor B.ct (e_var (B.v 4)) e_int) e_int)))) e_int) (BX.lfn _))
    (bs_one (s_ret (e_mod B.ct (b_int B Y.blt (b_of (e_floor B.ct (e_var (B.v 4)) e_int))) (e_var (B.v 1)))))))))))
theorem sc__law_any : FnScope ["hand", "some"] ["hand", "some"] (defScope (top 30)) := ⟨rfl, rfl, rfl, by decide +kernel, rfl, by decide +kernel, by decide +kernel⟩
theorem ok__law_any {M : Mo} (Y : Fx M) : FnM M "_law_any" ["hand", "some"] true F__law_any 2 := by
  obtain ⟨as, Z⟩ := Y.exc
  exact fn_okF (x := "_law_any") (N := ["hand", "some"]) (ps := ["hand", "some"]) (st := top 30) (d := d__law_any) (j := 1) true Y.f__law_any sc__law_any fun X G W B BX =>
    (bs_one (s_ret (e_ixV B.ct (B.v 1) (e_callIO B.ct (B.at (ok__law_draw Y) BX.calm) B.g (B.v 0) (a_cons (b_len B Y.blt (b_of (e_var (B.v 1)))) a_nil)))))
theorem sc__law_net : FnScope ["hand", "width", "kind", "found", "lows", "turn", "level", "fresh", "place", "some", "back", "other", "at", "spot"] ["hand", "width"] (defScope (top 34)) := ⟨rfl, rfl, rfl, by decide +kernel, rfl, by decide +kernel, by decide +kernel⟩
theorem ok__law_net {M : Mo} (Y : Fx M) : FnM M "_law_net" ["hand", "width"] true F__law_net 3 := by
  obtain ⟨as, Z⟩ := Y.exc
  exact fn_okF (x := "_law_net") (N := ["hand", "width", "kind", "found", "lows", "turn", "level", "fresh", "place", "some", "back", "other", "at", "spot"]) (ps := ["hand", "width"]) (st := top 34) (d := d__law_net) (j := 2) true Y.f__law_net sc__law_net fun X G W B BX =>
    (bs_cons (s_mixA3 (i := 2) (j := 3) (l := 4) B.ct BX.calm B.nod B.n B.n B.n B.lo B.lo B.lo (B.io) (B.io) (B.io) (BX.lfn _) (BX.lfn _) (BX.lfn _) (m_e (e_callIO B.ct (B.at (ok__law_draw Y) BX.calm) B.g (B.v 0) (a_cons e_int a_nil)) (b_mf (vs := []) B (f_lst a_nil) (fun _ Bn1 => (m_e (e_f (b_listRg1 Bn1 BX.calm Y.blt (e_var (Bn1.v 1)))) m_nil)))) (sw_none B.eS (by kernel_rfl)))
    (bs_cons (s_for (vs := [5]) BX.own B.ct BX.calm (i_rng1 B.g (B.non (Y.blt.at (by kernel_rfl))) (a_cons (e_if (t_cmp ob_lt op_lt rfl B.ct (e_var (B.v 2)) (b_of e_int)) (e_callIO B.ct (B.at (ok__law_draw Y) BX.calm) B.g (B.v 0) (a_cons e_int a_nil)) (e_var (B.v 1))) a_nil)) (g_n (i := 5) B.nod B.n B.lo (B.io) (BX.lfn _) (by decide))
    (bs_cons (s_mix2 B BX.calm (b_mf (vs := []) B (f_lst a_nil) (fun _ Bn2 => (b_mf (vs := []) Bn2 (b_list Bn2 Y.blt (b_of (e_var (Bn2.v 4)))) (fun _ Bn3 => m_nil)))))
    (bs_cons (s_for (vs := [8]) BX.own B.ct BX.calm (i_rng2 B.g (B.non (Y.blt.at (by kernel_rfl))) (a_cons e_int (a_cons (e_var (B.v 1)) a_nil))) (g_n (i := 8) B.nod B.n B.lo (B.io) (BX.lfn _) (by decide))
    (bs_cons (s_ownFrz (b_ownLc (i := 9) (own := [("other", 11)]) B BX.calm (i_rng1 B.g (B.non (Y.blt.at (by kernel_rfl))) (a_cons (e_var (B.v 8)) a_nil)) (fun _ _ B5 hc5 => (g_n (i := 11) B5.nod B5.n B5.lo (B5.io) B5.lfn (by decide))) (fun _ _ B5 hc5 => (pts_if (t_w (w_or (t_cmp ob_eq (op_eqD (un64 B5.un)) rfl B5.ct (e_var (B5.v 2)) (b_of e_int)) (w_or1 (t_cmp ob_ge op_ge rfl B5.ct (e_var (B5.v 11)) (b_of (e_sub B5.ct (e_ixV B5.ct (B5.v 4) (e_var (B5.v 8))) e_int)))))))) (fun _ _ B5 hc5 => (e_var (B5.v 11)))) (B.io))
    (bs_cons (s_if (t_cmp ob_eq (op_eqD (un64 B.un)) rfl B.ct (e_var (B.v 2)) (b_of e_int))
    (bs_one (s_set B.ct B.n B.lo (B.io) (e_if (t_cmp ob_eq (op_eqD (un64 B.un)) rfl B.ct (e_var (B.v 8)) (b_of (e_add B.ct (e_var (B.v 5)) e_int))) (e_f (f_lst (a_cons (e_sub B.ct (e_var (B.v 8)) e_int) a_nil))) (e_f (f_lst a_nil))) (BX.lfn _)))
    bs_nil)
    (bs_cons (s_if (t_cmp ob_eq (op_eqD (un64 B.un)) rfl B.ct (e_var (B.v 2)) (b_of e_int))
    (bs_cons (s_set B.ct B.n B.lo (B.io) (e_shl B.ct e_int (b_min2 B BX.calm Y.blt (e_var (B.v 5)) e_int)) (BX.lfn _))
    (bs_one (s_set B.ct B.n B.lo (B.io) (e_if (t_cmp ob_ge op_ge rfl B.ct (e_var (B.v 8)) (b_of (e_var (B.v 10)))) (e_f (f_lst (a_cons (e_sub B.ct (e_var (B.v 8)) (e_var (B.v 10))) a_nil))) (e_f (f_lst a_nil))) (BX.lfn _))))
    bs_nil)
    (bs_one (s_if (t_w (w_and (t_cmp ob_gt op_gt rfl B.ct (b_len B Y.blt (b_of (e_var (B.v 9)))) (b_of e_int)) (w_and1 (t_w (w_or (t_cmp ob_gt op_gt rfl B.ct (e_var (B.v 2)) (b_of e_int)) (w_or1 (t_cmp ob_gt op_gt rfl B.ct (e_callIO B.ct (B.at (ok__law_draw Y) BX.calm) B.g (B.v 0) (a_cons e_int a_nil)) (b_of e_int))))))))
    (bs_cons (s_set B.ct B.n B.lo (B.io) (e_callIO B.ct (B.at (ok__law_any Y) BX.calm) B.g (B.v 0) (a_cons (e_var (B.v 9)) a_nil)) (BX.lfn _))
    (bs_cons (b_app (B.v 6) (e_tup (a_cons (e_var (B.v 8)) (a_cons (e_var (B.v 11)) a_nil))))
    (bs_one (s_if (t_cmp ob_ge op_ge rfl B.ct (e_var (B.v 11)) (b_of (e_sub B.ct (e_ixV B.ct (B.v 4) (e_var (B.v 8))) e_int)))
    (bs_one (s_setI (B.v 7) (e_var (B.v 8)) (b_min2 B BX.calm Y.blt (e_ixV B.ct (B.v 4) (e_var (B.v 8))) (e_ixV B.ct (B.v 4) (e_var (B.v 11))))))
    bs_nil))))
    bs_nil))))))
    (bs_one (s_frz (s_mixA2 (i := 3) (j := 4) B.ct BX.calm B.nod B.n B.n B.lo B.lo (B.io) (B.io) (BX.lfn _) (BX.lfn _) (b_mf (vs := []) B (f_catV (B.v 3) (b_f (f_lst (a_cons (b_tuple B Y.blt (b_var (B.v 6))) a_nil)))) (fun _ Bn5 => (m_e (e_var (Bn5.v 7)) m_nil))) (sw_none B.eS (by kernel_rfl))) (B.io))))))
    (bs_cons (s_if (t_w (w_and (t_cmp ob_gt op_gt rfl B.ct (b_len B Y.blt (b_var (B.v 3))) (b_of e_int)) (w_and1 (t_cmp ob_eq (op_eqD (un64 B.un)) rfl B.ct (e_callIO B.ct (B.at (ok__law_draw Y) BX.calm) B.g (B.v 0) (a_cons e_int a_nil)) (b_of e_int)))))
    (bs_cons (s_set B.ct B.n B.lo (B.io) (e_callIO B.ct (B.at (ok__law_draw Y) BX.calm) B.g (B.v 0) (a_cons (b_len B Y.blt (b_var (B.v 3))) a_nil)) (BX.lfn _))
    (bs_cons (s_set B.ct B.n B.lo (B.io) (e_callIO B.ct (B.at (ok__law_draw Y) BX.calm) B.g (B.v 0) (a_cons (e_add B.ct (b_len B Y.blt (b_of (e_ixV B.ct (B.v 3) (e_var (B.v 12))))) e_int) a_nil)) (BX.lfn _))
    (bs_one (s_setI (B.v 3) (e_var (B.v 12)) (e_add B.ct (e_sl B.ct (e_ixV B.ct (B.v 3) (e_var (B.v 12))) o_no (o_so (e_var (B.v 13)))) (e_sl B.ct (e_ixV B.ct (B.v 3) (e_var (B.v 12))) (o_so (e_add B.ct (e_var (B.v 13)) e_int)) o_no))))))
    bs_nil)
    (bs_one (s_ret (b_tuple B Y.blt (b_var (B.v 3))))))))
theorem sc__law_any_word : FnScope ["hand", "width", "top"] ["hand", "width"] (defScope (top 40)) := ⟨rfl, rfl, rfl, by decide +kernel, rfl, by decide +kernel, by decide +kernel⟩
theorem ok__law_any_word {M : Mo} (Y : Fx M) : FnM M "_law_any_word" ["hand", "width"] true F__law_any_word 3 := by
  obtain ⟨as, Z⟩ := Y.exc
  exact fn_okF (x := "_law_any_word") (N := ["hand", "width", "top"]) (ps := ["hand", "width"]) (st := top 40) (d := d__law_any_word) (j := 2) true Y.f__law_any_word sc__law_any_word fun X G W B BX =>
    (bs_cons (s_set B.ct B.n B.lo (B.io) (e_sub B.ct (e_shl B.ct e_int (e_var (B.v 1))) e_int) (BX.lfn _))
    (bs_one (s_ret (e_callIO B.ct (B.at (ok__law_any Y) BX.calm) B.g (B.v 0) (a_cons (e_f (f_lst (a_cons (e_callIO B.ct (B.at (ok__law_draw Y) BX.calm) B.g (B.v 0) (a_cons (e_add B.ct (e_var (B.v 2)) e_int) a_nil)) (a_cons (e_var (B.v 2)) (a_cons (e_shl B.ct e_int (e_callIO B.ct (B.at (ok__law_draw Y) BX.calm) B.g (B.v 0) (a_cons (e_var (B.v 1)) a_nil))) (a_cons e_int (a_cons (e_sub B.ct (e_var (B.v 2)) (e_callIO B.ct (B.at (ok__law_draw Y) BX.calm) B.g (B.v 0) (a_cons e_int a_nil))) a_nil))))))) a_nil)))))
theorem sc_is_integer : FnScope ["thing"] ["thing"] (defScope (top 1)) := ⟨rfl, rfl, rfl, by decide +kernel, rfl, by decide +kernel, by decide +kernel⟩
theorem ok_is_integer {M : Mo} (Y : Fx M) : FnM M "is_integer" ["thing"] false F_is_integer 1 := by
  obtain ⟨as, Z⟩ := Y.exc
  exact fn_okF (x := "is_integer") (N := ["thing"]) (ps := ["thing"]) (st := top 1) (d := d_is_integer) (j := 0) false Y.f_is_integer sc_is_integer fun X G W B BX =>
    (bs_one (s_ret (e_andV B.ct (b_isi B Y.blt kit_int (by decide +kernel) (b_of (e_var (B.v 0)))) (e_one (e_not B.ct (b_of (b_isi B Y.blt kit_bool (by decide +kernel) (b_of (e_var (B.v 0))))))))))
theorem sc_is_within : FnScope ["thing", "low", "high"] ["thing", "low", "high"] (defScope (top 2)) := ⟨rfl, rfl, rfl, by decide +kernel, rfl, by decide +kernel, by decide +kernel⟩
theorem ok_is_within {M : Mo} (Y : Fx M) : FnM M "is_within" ["thing", "low", "high"] false F_is_within 2 := by
  obtain ⟨as, Z⟩ := Y.exc
  exact fn_okF (x := "is_within") (N := ["thing", "low", "high"]) (ps := ["thing", "low", "high"]) (st := top 2) (d := d_is_within) (j := 1) false Y.f_is_within sc_is_within fun X G W B BX =>
    (bs_one (s_ret (e_andV B.ct (e_call B.ct (B.at (ok_is_integer Y) BX.calm) B.g (a_cons (e_var (B.v 0)) a_nil)) (e_one (e_chain ob_le ob_le op_le op_le B.ct (e_var (B.v 1)) (e_var (B.v 0)) (e_var (B.v 2)))))))
theorem sc_check_width : FnScope ["width"] ["width"] (defScope (top 16)) := ⟨rfl, rfl, rfl, by decide +kernel, rfl, by decide +kernel, by decide +kernel⟩
theorem ok_check_width {M : Mo} (Y : Fx M) : FnM M "check_width" ["width"] false F_check_width 3 := by
  obtain ⟨as, Z⟩ := Y.exc
  exact fn_okF (x := "check_width") (N := ["width"]) (ps := ["width"]) (st := top 16) (d := d_check_width) (j := 2) false Y.f_check_width sc_check_width fun X G W B BX =>
    (bs_one (s_if (t_not (t_tru B.ct (b_of (e_call B.ct (B.at (ok_is_within Y) BX.calm) B.g (a_cons (e_var (B.v 0)) (a_cons e_int (a_cons (e_cst B Y.c_MOST_WIDTH) a_nil)))))))
    (bs_one (s_rais B BX.calm Z))
    bs_nil))
theorem sc_is_tuple_of : FnScope ["thing", "many"] ["thing", "many"] (defScope (top 3)) := ⟨rfl, rfl, rfl, by decide +kernel, rfl, by decide +kernel, by decide +kernel⟩
theorem ok_is_tuple_of {M : Mo} (Y : Fx M) : FnM M "is_tuple_of" ["thing", "many"] false F_is_tuple_of 1 := by
  obtain ⟨as, Z⟩ := Y.exc
  exact fn_okF (x := "is_tuple_of") (N := ["thing", "many"]) (ps := ["thing", "many"]) (st := top 3) (d := d_is_tuple_of) (j := 0) false Y.f_is_tuple_of sc_is_tuple_of fun X G W B BX =>
    (bs_one (s_ret (e_andV B.ct (b_isi B Y.blt kit_tuple (by decide +kernel) (b_of (e_var (B.v 0)))) (e_one (e_cmp ob_eq (op_eqD (un64 B.un)) rfl B.ct (b_len B Y.blt (b_of (e_var (B.v 0)))) (b_of (e_var (B.v 1))))))))
theorem sc_is_net : FnScope ["width", "thing", "level", "last", "place", "other", "pair"] ["width", "thing"] (defScope (top 20)) := ⟨rfl, rfl, rfl, by decide +kernel, rfl, by decide +kernel, by decide +kernel⟩
theorem ok_is_net {M : Mo} (Y : Fx M) : FnM M "is_net" ["width", "thing"] false F_is_net 4 := by
  obtain ⟨as, Z⟩ := Y.exc
  exact fn_okF (x := "is_net") (N := ["width", "thing", "level", "last", "place", "other", "pair"]) (ps := ["width", "thing"]) (st := top 20) (d := d_is_net) (j := 3) false Y.f_is_net sc_is_net fun X G W B BX =>
    (bs_cons (s_expr (e_call B.ct (B.at (ok_check_width Y) BX.calm) B.g (a_cons (e_var (B.v 0)) a_nil)))
    (bs_cons (s_if (t_w (w_or (t_not (t_tru B.ct (b_of (b_isi B Y.blt kit_tuple (by decide +kernel) (b_of (e_var (B.v 1))))))) (w_or1 (t_cmp ob_gt op_gt rfl B.ct (b_len B Y.blt (b_of (e_var (B.v 1)))) (b_of e_int)))))
    (bs_one (s_ret e_bl))
    bs_nil)
    (bs_cons (s_for (vs := [2]) BX.own B.ct BX.calm (i_seq B.ct (e_var (B.v 1))) (g_n (i := 2) B.nod B.n B.lo (B.io) (BX.lfn _) (by decide))
    (bs_cons (s_if (t_w (w_or (t_not (t_tru B.ct (b_of (b_isi B Y.blt kit_tuple (by decide +kernel) (b_of (e_var (B.v 2))))))) (w_or1 (t_not (t_tru B.ct (b_of (b_all B BX.calm Y.blt (b_f (b_lc (own := [("pair", 6)]) B BX.calm (i_seq B.ct (e_var (B.v 2))) (fun _ _ B5 hc5 => (g_n (i := 6) B5.nod B5.n B5.lo (B5.io) B5.lfn (by decide))) (fun _ _ B5 hc5 => pts_yes) (fun _ _ B5 hc5 => (e_call B5.ct (B5.at (ok_is_tuple_of Y) hc5) B5.g (a_cons (e_var (B5.v 6)) (a_cons e_int a_nil)))))))))))))
    (bs_one (s_ret e_bl))
    bs_nil)
    (bs_cons (s_set B.ct B.n B.lo (B.io) (e_neg B.ct e_int) (BX.lfn _))
    (bs_one (s_for (vs := [4, 5]) BX.own B.ct BX.calm (i_seq B.ct (e_var (B.v 2))) (g_t BX.calm B.ct.K (gs_c (g_n (i := 4) B.nod B.n B.lo (B.io) (BX.lfn _) (by decide)) (gs_c (g_n (i := 5) B.nod B.n B.lo (B.io) (BX.lfn _) (by decide)) gs_0)))
    (bs_cons (s_if (t_w (w_or (t_not (t_tru B.ct (b_of (e_call B.ct (B.at (ok_is_within Y) BX.calm) B.g (a_cons (e_var (B.v 4)) (a_cons e_int (a_cons (e_sub B.ct (e_var (B.v 0)) e_int) a_nil))))))) (w_or1 (t_not (t_tru B.ct (b_of (e_call B.ct (B.at (ok_is_within Y) BX.calm) B.g (a_cons (e_var (B.v 5)) (a_cons e_int (a_cons (e_sub B.ct (e_var (B.v 0)) e_int) a_nil))))))))))
    (bs_one (s_ret e_bl))
    bs_nil)
    (bs_cons (s_if (t_w (w_or (t_cmp ob_le op_le rfl B.ct (e_var (B.v 4)) (b_of (e_var (B.v 3)))) (w_or1 (t_cmp ob_ge op_ge rfl B.ct (e_var (B.v 5)) (b_of (e_var (B.v 4)))))))
    (bs_one (s_ret e_bl))
    bs_nil)
    (bs_one (s_set B.ct B.n B.lo (B.io) (e_var (B.v 4)) (BX.lfn _))))))))))
    (bs_one (s_ret e_bl)))))
theorem sc_check_net : FnScope ["width", "net"] ["width", "net"] (defScope (top 21)) := ⟨rfl, rfl, rfl, by decide +kernel, rfl, by decide +kernel, by decide +kernel⟩
theorem ok_check_net {M : Mo} (Y : Fx M) : FnM M "check_net" ["width", "net"] false F_check_net 5 := by
  obtain ⟨as, Z⟩ := Y.exc
  exact fn_okF (x := "check_net") (N := ["width", "net"]) (ps := ["width", "net"]) (st := top 21) (d := d_check_net) (j := 4) false Y.f_check_net sc_check_net fun X G W B BX =>
    (bs_one (s_if (t_not (t_tru B.ct (b_of (e_call B.ct (B.at (ok_is_net Y) BX.calm) B.g (a_cons (e_var (B.v 0)) (a_cons (e_var (B.v 1)) a_nil))))))
    (bs_one (s_rais B BX.calm Z))
    bs_nil))
theorem sc_is_word : FnScope ["width", "thing"] ["width", "thing"] (defScope (top 17)) := ⟨rfl, rfl, rfl, by decide +kernel, rfl, by decide +kernel, by decide +kernel⟩
theorem ok_is_word {M : Mo} (Y : Fx M) : FnM M "is_word" ["width", "thing"] false F_is_word 4 := by
  obtain ⟨as, Z⟩ := Y.exc
  exact fn_okF (x := "is_word") (N := ["width", "thing"]) (ps := ["width", "thing"]) (st := top 17) (d := d_is_word) (j := 3) false Y.f_is_word sc_is_word fun X G W B BX =>
    (bs_cons (s_expr (e_call B.ct (B.at (ok_check_width Y) BX.calm) B.g (a_cons (e_var (B.v 0)) a_nil)))
    (bs_one (s_ret (e_call B.ct (B.at (ok_is_within Y) BX.calm) B.g (a_cons (e_var (B.v 1)) (a_cons e_int (a_cons (e_sub B.ct (e_shl B.ct e_int (e_var (B.v 0))) e_int) a_nil)))))))
theorem sc_check_word : FnScope ["width", "word"] ["width", "word"] (defScope (top 18)) := ⟨rfl, rfl, rfl, by decide +kernel, rfl, by decide +kernel, by decide +kernel⟩
theorem ok_check_word {M : Mo} (Y : Fx M) : FnM M "check_word" ["width", "word"] false F_check_word 5 := by
  obtain ⟨as, Z⟩ := Y.exc
  exact fn_okF (x := "check_word") (N := ["width", "word"]) (ps := ["width", "word"]) (st := top 18) (d := d_check_word) (j := 4) false Y.f_check_word sc_check_word fun X G W B BX =>
    (bs_one (s_if (t_not (t_tru B.ct (b_of (e_call B.ct (B.at (ok_is_word Y) BX.calm) B.g (a_cons (e_var (B.v 0)) (a_cons (e_var (B.v 1)) a_nil))))))
    (bs_one (s_rais B BX.calm Z))
    bs_nil))
theorem sc_net_sum : FnScope ["width", "net", "one", "other", "made", "passed", "makes", "passes", "level", "later_makes", "later_passes", "place", "lower", "found", "make"] ["width", "net", "one", "other"] (defScope (top 26)) := ⟨rfl, rfl, rfl, by decide +kernel, rfl, by decide +kernel, by decide +kernel⟩
theorem ok_net_sum {M : Mo} (Y : Fx M) : FnM M "net_sum" ["width", "net", "one", "other"] false F_net_sum 6 := by
  obtain ⟨as, Z⟩ := Y.exc
  exact fn_okF (x := "net_sum") (N := ["width", "net", "one", "other", "made", "passed", "makes", "passes", "level", "later_makes", "later_passes", "place", "lower", "found", "make"]) (ps := ["width", "net", "one", "other"]) (st := top 26) (d := d_net_sum) (j := 5) false Y.f_net_sum sc_net_sum fun X G W B BX =>
    (bs_cons (s_expr (e_call B.ct (B.at (ok_check_net Y) BX.calm) B.g (a_cons (e_var (B.v 0)) (a_cons (e_var (B.v 1)) a_nil))))
    (bs_cons (s_expr (e_call B.ct (B.at (ok_check_word Y) BX.calm) B.g (a_cons (e_var (B.v 0)) (a_cons (e_var (B.v 2)) a_nil))))
    (bs_cons (s_expr (e_call B.ct (B.at (ok_check_word Y) BX.calm) B.g (a_cons (e_var (B.v 0)) (a_cons (e_var (B.v 3)) a_nil))))
    (bs_cons (s_asg (vs := [4, 5]) (g_t BX.calm B.ct.K (gs_c (g_n (i := 4) B.nod B.n B.lo (B.io) (BX.lfn _) (by decide)) (gs_c (g_n (i := 5) B.nod B.n B.lo (B.io) (BX.lfn _) (by decide)) gs_0))) (e_tup (a_cons (e_and B.ct (e_var (B.v 2)) (e_var (B.v 3))) (a_cons (e_xor B.ct (e_var (B.v 2)) (e_var (B.v 3))) a_nil))) (hw := sw_none B.eS (by kernel_rfl)))
    (bs_cons (s_ownFrz (b_ownLc (i := 6) (own := [("place", 11)]) B BX.calm (i_rng1 B.g (B.non (Y.blt.at (by kernel_rfl))) (a_cons (e_var (B.v 0)) a_nil)) (fun _ _ B5 hc5 => (g_n (i := 11) B5.nod B5.n B5.lo (B5.io) B5.lfn (by decide))) (fun _ _ B5 hc5 => pts_yes) (fun _ _ B5 hc5 => (e_and B5.ct (e_shr B5.ct (e_var (B5.v 4)) (e_var (B5.v 11))) e_int))) (B.io))
    (bs_cons (s_ownFrz (b_ownLc (i := 7) (own := [("place", 11)]) B BX.calm (i_rng1 B.g (B.non (Y.blt.at (by kernel_rfl))) (a_cons (e_var (B.v 0)) a_nil)) (fun _ _ B5 hc5 => (g_n (i := 11) B5.nod B5.n B5.lo (B5.io) B5.lfn (by decide))) (fun _ _ B5 hc5 => pts_yes) (fun _ _ B5 hc5 => (e_and B5.ct (e_shr B5.ct (e_var (B5.v 5)) (e_var (B5.v 11))) e_int))) (B.io))
    (bs_cons (s_for (vs := [8]) BX.own B.ct BX.calm (i_seq B.ct (e_var (B.v 1))) (g_n (i := 8) B.nod B.n B.lo (B.io) (BX.lfn _) (by decide))
    (bs_cons (s_mix2 B BX.calm (b_mf (vs := []) B (b_list B Y.blt (b_of (e_var (B.v 6)))) (fun _ Bn1 => (b_mf (vs := []) Bn1 (b_list Bn1 Y.blt (b_of (e_var (Bn1.v 7)))) (fun _ Bn2 => m_nil)))))
    (bs_cons (s_for (vs := [11, 12]) BX.own B.ct BX.calm (i_seq B.ct (e_var (B.v 8))) (g_t BX.calm B.ct.K (gs_c (g_n (i := 11) B.nod B.n B.lo (B.io) (BX.lfn _) (by decide)) (gs_c (g_n (i := 12) B.nod B.n B.lo (B.io) (BX.lfn _) (by decide)) gs_0)))
    (bs_cons (s_setI (B.v 9) (e_var (B.v 11)) (e_or B.ct (e_ixV B.ct (B.v 6) (e_var (B.v 11))) (e_and B.ct (e_ixV B.ct (B.v 7) (e_var (B.v 11))) (e_ixV B.ct (B.v 6) (e_var (B.v 12))))))
    (bs_one (s_setI (B.v 10) (e_var (B.v 11)) (e_and B.ct (e_ixV B.ct (B.v 7) (e_var (B.v 11))) (e_ixV B.ct (B.v 7) (e_var (B.v 12))))))))
    (bs_one (s_frz (s_frz (s_two B BX.calm (a_cons (e_var (B.v 9)) (a_cons (e_var (B.v 10)) a_nil))) (B.io)) (B.io))))))
    (bs_cons (s_set B.ct B.n B.lo (B.io) (e_var (B.v 5)) (BX.lfn _))
    (bs_cons (s_for (vs := [11, 14]) BX.own B.ct BX.calm (i_enumA B.ct B.g (B.non (Y.blt.at (by kernel_rfl))) (a_cons (e_var (B.v 6)) a_nil)) (g_t BX.calm B.ct.K (gs_c (g_n (i := 11) B.nod B.n B.lo (B.io) (BX.lfn _) (by decide)) (gs_c (g_n (i := 14) B.nod B.n B.lo (B.io) (BX.lfn _) (by decide)) gs_0)))
    (bs_one (s_set B.ct B.n B.lo (B.io) (e_xor B.ct (e_var (B.v 13)) (e_shl B.ct (e_var (B.v 14)) (e_add B.ct (e_var (B.v 11)) e_int))) (BX.lfn _))))
    (bs_one (s_ret (e_var (B.v 13)))))))))))))
theorem sc_last_tries : FnScope ["width", "found", "start", "stop", "more", "ones"] ["width"] (defScope (top 25)) := ⟨rfl, rfl, rfl, by decide +kernel, rfl, by decide +kernel, by decide +kernel⟩
theorem ok_last_tries {M : Mo} (Y : Fx M) : FnM M "last_tries" ["width"] false F_last_tries 1 := by
  obtain ⟨as, Z⟩ := Y.exc
  exact fn_okF (x := "last_tries") (N := ["width", "found", "start", "stop", "more", "ones"]) (ps := ["width"]) (st := top 25) (d := d_last_tries) (j := 0) false Y.f_last_tries sc_last_tries fun X G W B BX =>
    (bs_cons (s_own B.ct B.n B.lo (B.io) (f_lst a_nil) (BX.lfn _))
    (bs_cons (s_for (vs := [2]) BX.own B.ct BX.calm (i_rng1 B.g (B.non (Y.blt.at (by kernel_rfl))) (a_cons (e_var (B.v 0)) a_nil)) (g_n (i := 2) B.nod B.n B.lo (B.io) (BX.lfn _) (by decide))
    (bs_one (s_for (vs := [3]) BX.own B.ct BX.calm (i_rng2 B.g (B.non (Y.blt.at (by kernel_rfl))) (a_cons (e_add B.ct (e_var (B.v 2)) e_int) (a_cons (e_var (B.v 0)) a_nil))) (g_n (i := 3) B.nod B.n B.lo (B.io) (BX.lfn _) (by decide))
    (bs_one (s_for (vs := [4]) BX.own B.ct BX.calm (i_rng2 B.g (B.non (Y.blt.at (by kernel_rfl))) (a_cons (e_add B.ct (e_var (B.v 3)) e_int) (a_cons (e_var (B.v 0)) a_nil))) (g_n (i := 4) B.nod B.n B.lo (B.io) (BX.lfn _) (by decide))
    (bs_cons (s_set B.ct B.n B.lo (B.io) (e_xor B.ct (e_xor B.ct (e_sub B.ct (e_shl B.ct e_int (e_var (B.v 0))) e_int) (e_shl B.ct e_int (e_var (B.v 2)))) (e_shl B.ct e_int (e_var (B.v 3)))) (BX.lfn _))
    (bs_cons (b_app (B.v 1) (e_tup (a_cons (e_or B.ct (e_var (B.v 5)) (e_shl B.ct e_int (e_var (B.v 2)))) (a_cons (e_shl B.ct e_int (e_var (B.v 2))) a_nil))))
    (bs_one (b_app (B.v 1) (e_tup (a_cons (e_xor B.ct (e_var (B.v 5)) (e_shl B.ct e_int (e_var (B.v 4)))) (a_cons (e_or B.ct (e_shl B.ct e_int (e_var (B.v 2))) (e_shl B.ct e_int (e_var (B.v 4)))) a_nil))))))))))))
    (bs_one (s_retV (B.v 1) (B.io)))))
theorem sc_false_words : FnScope ["width", "net", "place", "start", "low", "one", "other"] ["width", "net"] (defScope (top 24)) := ⟨rfl, rfl, rfl, by decide +kernel, rfl, by decide +kernel, by decide +kernel⟩
theorem ok_false_words {M : Mo} (Y : Fx M) : FnM M "false_words" ["width", "net"] false F_false_words 7 := by
  obtain ⟨as, Z⟩ := Y.exc
  exact fn_okF (x := "false_words") (N := ["width", "net", "place", "start", "low", "one", "other"]) (ps := ["width", "net"]) (st := top 24) (d := d_false_words) (j := 6) false Y.f_false_words sc_false_words fun X G W B BX =>
    (bs_cons (s_expr (e_call B.ct (B.at (ok_check_net Y) BX.calm) B.g (a_cons (e_var (B.v 0)) (a_cons (e_var (B.v 1)) a_nil))))
    (bs_cons (s_if (t_cmp ob_gt op_gt rfl B.ct (e_var (B.v 0)) (b_of e_int))
    (bs_one (s_rais B BX.calm Z))
    bs_nil)
    (bs_cons (s_for (vs := [2]) BX.own B.ct BX.calm (i_rng1 B.g (B.non (Y.blt.at (by kernel_rfl))) (a_cons (e_var (B.v 0)) a_nil)) (g_n (i := 2) B.nod B.n B.lo (B.io) (BX.lfn _) (by decide))
    (bs_one (s_for (vs := [3]) BX.own B.ct BX.calm (i_rng1 B.g (B.non (Y.blt.at (by kernel_rfl))) (a_cons (e_add B.ct (e_var (B.v 2)) e_int) a_nil)) (g_n (i := 3) B.nod B.n B.lo (B.io) (BX.lfn _) (by decide))
    (bs_cons (s_set B.ct B.n B.lo (B.io) (e_shl B.ct e_int (e_var (B.v 3))) (BX.lfn _))
    (bs_cons (s_two B BX.calm (a_cons (e_xor B.ct (e_sub B.ct (e_shl B.ct e_int (e_add B.ct (e_var (B.v 2)) e_int)) e_int) (e_sub B.ct (e_var (B.v 4)) e_int)) (a_cons (e_var (B.v 4)) a_nil)))
    (bs_one (s_if (t_cmp ob_ne (op_neD (un64 B.un)) rfl B.ct (e_call B.ct (B.at (ok_net_sum Y) BX.calm) B.g (a_cons (e_var (B.v 0)) (a_cons (e_var (B.v 1)) (a_cons (e_var (B.v 5)) (a_cons (e_var (B.v 6)) a_nil))))) (b_of (e_add B.ct (e_var (B.v 5)) (e_var (B.v 6)))))
    (bs_one (s_ret (e_tup (a_cons (e_var (B.v 5)) (a_cons (e_var (B.v 6)) a_nil)))))
    bs_nil)))))))
    (bs_cons (s_for (vs := [5, 6]) BX.own B.ct BX.calm (i_seq B.ct (e_call B.ct (B.at (ok_last_tries Y) BX.calm) B.g (a_cons (e_var (B.v 0)) a_nil))) (g_t BX.calm B.ct.K (gs_c (g_n (i := 5) B.nod B.n B.lo (B.io) (BX.lfn _) (by decide)) (gs_c (g_n (i := 6) B.nod B.n B.lo (B.io) (BX.lfn _) (by decide)) gs_0)))
    (bs_one (s_if (t_cmp ob_ne (op_neD (un64 B.un)) rfl B.ct (e_call B.ct (B.at (ok_net_sum Y) BX.calm) B.g (a_cons (e_var (B.v 0)) (a_cons (e_var (B.v 1)) (a_cons (e_var (B.v 5)) (a_cons (e_var (B.v 6)) a_nil))))) (b_of (e_add B.ct (e_var (B.v 5)) (e_var (B.v 6)))))
    (bs_one (s_ret (e_tup (a_cons (e_var (B.v 5)) (a_cons (e_var (B.v 6)) a_nil)))))
    bs_nil)))
    (bs_one (s_ret e_non))))))
theorem sc__law_sum : FnScope ["width", "net", "one", "other", "make", "passes", "plain", "level", "old", "ahead", "place", "lesser", "total", "at", "carry"] ["width", "net", "one", "other"] (defScope (top 38)) := ⟨rfl, rfl, rfl, by decide +kernel, rfl, by decide +kernel, by decide +kernel⟩
theorem ok__law_sum {M : Mo} (Y : Fx M) : FnM M "_law_sum" ["width", "net", "one", "other"] false F__law_sum 1 := by
  obtain ⟨as, Z⟩ := Y.exc
  exact fn_okF (x := "_law_sum") (N := ["width", "net", "one", "other", "make", "passes", "plain", "level", "old", "ahead", "place", "lesser", "total", "at", "carry"]) (ps := ["width", "net", "one", "other"]) (st := top 38) (d := d__law_sum) (j := 0) false Y.f__law_sum sc__law_sum fun X G W B BX =>
    (bs_cons (b_ownLc (i := 4) (own := [("at", 13)]) B BX.calm (i_rng1 B.g (B.non (Y.blt.at (by kernel_rfl))) (a_cons (e_var (B.v 0)) a_nil)) (fun _ _ B5 hc5 => (g_n (i := 13) B5.nod B5.n B5.lo (B5.io) B5.lfn (by decide))) (fun _ _ B5 hc5 => pts_yes) (fun _ _ B5 hc5 => (e_and B5.ct (e_shr B5.ct (b_int B5 Y.blt (b_of (e_and B5.ct (e_var (B5.v 2)) (e_var (B5.v 3))))) (e_var (B5.v 13))) e_int)))
    (bs_cons (b_ownLc (i := 5) (own := [("at", 13)]) B BX.calm (i_rng1 B.g (B.non (Y.blt.at (by kernel_rfl))) (a_cons (e_var (B.v 0)) a_nil)) (fun _ _ B5 hc5 => (g_n (i := 13) B5.nod B5.n B5.lo (B5.io) B5.lfn (by decide))) (fun _ _ B5 hc5 => pts_yes) (fun _ _ B5 hc5 => (e_and B5.ct (e_shr B5.ct (b_int B5 Y.blt (b_of (e_xor B5.ct (e_var (B5.v 2)) (e_var (B5.v 3))))) (e_var (B5.v 13))) e_int)))
    (bs_cons (s_set B.ct B.n B.lo (B.io) (e_f (b_list B Y.blt (b_var (B.v 5)))) (BX.lfn _))
    (bs_cons (s_for (vs := [7]) BX.own B.ct BX.calm (i_seq B.ct (e_var (B.v 1))) (g_n (i := 7) B.nod B.n B.lo (B.io) (BX.lfn _) (by decide))
    (bs_cons (s_two B BX.calm (a_cons (e_f (b_list B Y.blt (b_var (B.v 4)))) (a_cons (e_f (b_list B Y.blt (b_var (B.v 5)))) a_nil)))
    (bs_one (s_for (vs := [10, 11]) BX.own B.ct BX.calm (i_seq B.ct (e_var (B.v 7))) (g_t BX.calm B.ct.K (gs_c (g_n (i := 10) B.nod B.n B.lo (B.io) (BX.lfn _) (by decide)) (gs_c (g_n (i := 11) B.nod B.n B.lo (B.io) (BX.lfn _) (by decide)) gs_0)))
    (bs_cons (s_setI (B.v 4) (e_var (B.v 10)) (e_or B.ct (e_ixV B.ct (B.v 8) (e_var (B.v 10))) (e_and B.ct (e_ixV B.ct (B.v 9) (e_var (B.v 10))) (e_ixV B.ct (B.v 8) (e_var (B.v 11))))))
    (bs_one (s_setI (B.v 5) (e_var (B.v 10)) (e_and B.ct (e_ixV B.ct (B.v 9) (e_var (B.v 10))) (e_ixV B.ct (B.v 9) (e_var (B.v 11)))))))))))
    (bs_cons (s_set B.ct B.n B.lo (B.io) (e_shl B.ct (e_ixV B.ct (B.v 4) (e_sub B.ct (e_var (B.v 0)) e_int)) (e_var (B.v 0))) (BX.lfn _))
    (bs_cons (s_for (vs := [13]) BX.own B.ct BX.calm (i_rng1 B.g (B.non (Y.blt.at (by kernel_rfl))) (a_cons (e_var (B.v 0)) a_nil)) (g_n (i := 13) B.nod B.n B.lo (B.io) (BX.lfn _) (by decide))
    (bs_cons (s_set B.ct B.n B.lo (B.io) (e_if (t_cmp ob_gt op_gt rfl B.ct (e_var (B.v 13)) (b_of e_int)) (e_ixV B.ct (B.v 4) (e_sub B.ct (e_var (B.v 13)) e_int)) e_int) (BX.lfn _))
    (bs_one (s_set B.ct B.n B.lo (B.io) (e_add B.ct (e_var (B.v 12)) (e_shl B.ct (e_xor B.ct (e_ixV B.ct (B.v 6) (e_var (B.v 13))) (e_var (B.v 14))) (e_var (B.v 13)))) (BX.lfn _)))))
    (bs_one (s_ret (e_var (B.v 12))))))))))
theorem sc_spans_of : FnScope ["width", "net", "lows", "is_right", "level", "later", "place", "other"] ["width", "net"] (defScope (top 22)) := ⟨rfl, rfl, rfl, by decide +kernel, rfl, by decide +kernel, by decide +kernel⟩
theorem ok_spans_of {M : Mo} (Y : Fx M) : FnM M "spans_of" ["width", "net"] false F_spans_of 1 := by
  obtain ⟨as, Z⟩ := Y.exc
  exact fn_okF (x := "spans_of") (N := ["width", "net", "lows", "is_right", "level", "later", "place", "other"]) (ps := ["width", "net"]) (st := top 22) (d := d_spans_of) (j := 0) false Y.f_spans_of sc_spans_of fun X G W B BX =>
    (bs_cons (s_two B BX.calm (a_cons (e_f (b_listRg1 B BX.calm Y.blt (e_var (B.v 0)))) (a_cons e_bl a_nil)))
    (bs_cons (s_for (vs := [4]) BX.own B.ct BX.calm (i_seq B.ct (e_var (B.v 1))) (g_n (i := 4) B.nod B.n B.lo (B.io) (BX.lfn _) (by decide))
    (bs_cons (s_own B.ct B.n B.lo (B.io) (b_list B Y.blt (b_of (e_var (B.v 2)))) (BX.lfn _))
    (bs_cons (s_for (vs := [6, 7]) BX.own B.ct BX.calm (i_seq B.ct (e_var (B.v 4))) (g_t BX.calm B.ct.K (gs_c (g_n (i := 6) B.nod B.n B.lo (B.io) (BX.lfn _) (by decide)) (gs_c (g_n (i := 7) B.nod B.n B.lo (B.io) (BX.lfn _) (by decide)) gs_0)))
    (bs_one (s_if (t_w (w_and (t_cmp ob_le op_le rfl B.ct (e_ixV B.ct (B.v 2) (e_var (B.v 6))) (b_of (e_add B.ct (e_var (B.v 7)) e_int))) (w_and1 (t_cmp ob_gt op_gt rfl B.ct (e_ixV B.ct (B.v 2) (e_var (B.v 6))) (b_of (e_ixV B.ct (B.v 2) (e_var (B.v 7))))))))
    (bs_one (s_setI (B.v 5) (e_var (B.v 6)) (e_ixV B.ct (B.v 2) (e_var (B.v 7)))))
    (bs_one (s_if (t_cmp ob_gt op_gt rfl B.ct (e_ixV B.ct (B.v 2) (e_var (B.v 6))) (b_of (e_add B.ct (e_var (B.v 7)) e_int)))
    (bs_one (s_set B.ct B.n B.lo (B.io) e_bl (BX.lfn _)))
    bs_nil)))))
    (bs_one (s_frz (s_set B.ct B.n B.lo (B.io) (e_var (B.v 5)) (BX.lfn _)) (B.io))))))
    (bs_one (s_ret (e_tup (a_cons (e_var (B.v 2)) (a_cons (e_var (B.v 3)) a_nil)))))))
theorem sc_is_whole : FnScope ["width", "thing", "lows", "is_right"] ["width", "thing"] (defScope (top 23)) := ⟨rfl, rfl, rfl, by decide +kernel, rfl, by decide +kernel, by decide +kernel⟩
theorem ok_is_whole {M : Mo} (Y : Fx M) : FnM M "is_whole" ["width", "thing"] false F_is_whole 5 := by
  obtain ⟨as, Z⟩ := Y.exc
  exact fn_okF (x := "is_whole") (N := ["width", "thing", "lows", "is_right"]) (ps := ["width", "thing"]) (st := top 23) (d := d_is_whole) (j := 4) false Y.f_is_whole sc_is_whole fun X G W B BX =>
    (bs_cons (s_if (t_not (t_tru B.ct (b_of (e_call B.ct (B.at (ok_is_net Y) BX.calm) B.g (a_cons (e_var (B.v 0)) (a_cons (e_var (B.v 1)) a_nil))))))
    (bs_one (s_ret e_bl))
    bs_nil)
    (bs_cons (s_asg (vs := [2, 3]) (g_t BX.calm B.ct.K (gs_c (g_n (i := 2) B.nod B.n B.lo (B.io) (BX.lfn _) (by decide)) (gs_c (g_n (i := 3) B.nod B.n B.lo (B.io) (BX.lfn _) (by decide)) gs_0))) (e_call B.ct (B.at (ok_spans_of Y) BX.calm) B.g (a_cons (e_var (B.v 0)) (a_cons (e_var (B.v 1)) a_nil))))
    (bs_one (s_ret (e_andV B.ct (e_var (B.v 3)) (e_one (e_not B.ct (b_of (b_anyA B BX.calm Y.blt (b_of (e_var (B.v 2))))))))))))
theorem sc__law_spans : FnScope ["width", "net", "lows", "gap", "at", "level", "fresh", "place", "other"] ["width", "net"] (defScope (top 35)) := ⟨rfl, rfl, rfl, by decide +kernel, rfl, by decide +kernel, by decide +kernel⟩
theorem ok__law_spans {M : Mo} (Y : Fx M) : FnM M "_law_spans" ["width", "net"] false F__law_spans 1 := by
  obtain ⟨as, Z⟩ := Y.exc
  exact fn_okF (x := "_law_spans") (N := ["width", "net", "lows", "gap", "at", "level", "fresh", "place", "other"]) (ps := ["width", "net"]) (st := top 35) (d := d__law_spans) (j := 0) false Y.f__law_spans sc__law_spans fun X G W B BX =>
    (bs_cons (s_two B BX.calm (a_cons (e_f (b_listRg1 B BX.calm Y.blt (e_var (B.v 0)))) (a_cons e_non a_nil)))
    (bs_cons (s_for (vs := [4, 5]) BX.own B.ct BX.calm (i_enumA B.ct B.g (B.non (Y.blt.at (by kernel_rfl))) (a_cons (e_var (B.v 1)) a_nil)) (g_t BX.calm B.ct.K (gs_c (g_n (i := 4) B.nod B.n B.lo (B.io) (BX.lfn _) (by decide)) (gs_c (g_n (i := 5) B.nod B.n B.lo (B.io) (BX.lfn _) (by decide)) gs_0)))
    (bs_cons (s_own B.ct B.n B.lo (B.io) (b_list B Y.blt (b_of (e_var (B.v 2)))) (BX.lfn _))
    (bs_cons (s_for (vs := [7, 8]) BX.own B.ct BX.calm (i_seq B.ct (e_var (B.v 5))) (g_t BX.calm B.ct.K (gs_c (g_n (i := 7) B.nod B.n B.lo (B.io) (BX.lfn _) (by decide)) (gs_c (g_n (i := 8) B.nod B.n B.lo (B.io) (BX.lfn _) (by decide)) gs_0)))
    (bs_one (s_if (t_cmp ob_ge op_ge rfl B.ct (e_var (B.v 8)) (b_of (e_sub B.ct (e_ixV B.ct (B.v 2) (e_var (B.v 7))) e_int)))
    (bs_one (s_setI (B.v 6) (e_var (B.v 7)) (b_min2 B BX.calm Y.blt (e_ixV B.ct (B.v 2) (e_var (B.v 7))) (e_ixV B.ct (B.v 2) (e_var (B.v 8))))))
    (bs_one (s_if (t_cmp ob_isN op_isNo rfl B.ct (e_var (B.v 3)) (b_of e_non))
    (bs_one (s_set B.ct B.n B.lo (B.io) (e_tup (a_cons (e_var (B.v 4)) (a_cons (e_var (B.v 7)) a_nil))) (BX.lfn _)))
    bs_nil)))))
    (bs_one (s_frz (s_set B.ct B.n B.lo (B.io) (e_var (B.v 6)) (BX.lfn _)) (B.io))))))
    (bs_one (s_ret (e_tup (a_cons (b_tuple B Y.blt (b_of (e_var (B.v 2)))) (a_cons (e_var (B.v 3)) a_nil)))))))
theorem sc__law_is_int : FnScope ["thing"] ["thing"] (defScope (top 33)) := ⟨rfl, rfl, rfl, by decide +kernel, rfl, by decide +kernel, by decide +kernel⟩
theorem ok__law_is_int {M : Mo} (Y : Fx M) : FnM M "_law_is_int" ["thing"] false F__law_is_int 1 := by
  obtain ⟨as, Z⟩ := Y.exc
  exact fn_okF (x := "_law_is_int") (N := ["thing"]) (ps := ["thing"]) (st := top 33) (d := d__law_is_int) (j := 0) false Y.f__law_is_int sc__law_is_int fun X G W B BX =>
    (bs_one (s_ret (e_andV B.ct (b_isi B Y.blt kit_int (by decide +kernel) (b_of (e_var (B.v 0)))) (e_one (e_not B.ct (b_of (b_isi B Y.blt kit_bool (by decide +kernel) (b_of (e_var (B.v 0))))))))))
theorem sc__law_is_net : FnScope ["width", "thing", "level", "pair", "one", "other"] ["width", "thing"] (defScope (top 36)) := ⟨rfl, rfl, rfl, by decide +kernel, rfl, by decide +kernel, by decide +kernel⟩
theorem ok__law_is_net {M : Mo} (Y : Fx M) : FnM M "_law_is_net" ["width", "thing"] false F__law_is_net 2 := by
  obtain ⟨as, Z⟩ := Y.exc
  exact fn_okF (x := "_law_is_net") (N := ["width", "thing", "level", "pair", "one", "other"]) (ps := ["width", "thing"]) (st := top 36) (d := d__law_is_net) (j := 1) false Y.f__law_is_net sc__law_is_net fun X G W B BX =>
    (bs_cons (s_if (t_w (w_or (t_not (t_tru B.ct (b_of (b_isi B Y.blt kit_tuple (by decide +kernel) (b_of (e_var (B.v 1))))))) (w_or1 (t_cmp ob_gt op_gt rfl B.ct (b_len B Y.blt (b_of (e_var (B.v 1)))) (b_of e_int)))))
    (bs_one (s_ret e_bl))
    bs_nil)
    (bs_cons (s_for (vs := [2]) BX.own B.ct BX.calm (i_seq B.ct (e_var (B.v 1))) (g_n (i := 2) B.nod B.n B.lo (B.io) (BX.lfn _) (by decide))
    (bs_cons (s_if (t_not (t_tru B.ct (b_of (b_isi B Y.blt kit_tuple (by decide +kernel) (b_of (e_var (B.v 2)))))))
    (bs_one (s_ret e_bl))
    bs_nil)
    (bs_cons (s_for (vs := [3]) BX.own B.ct BX.calm (i_seq B.ct (e_var (B.v 2))) (g_n (i := 3) B.nod B.n B.lo (B.io) (BX.lfn _) (by decide))
    (bs_cons (s_if (t_w (w_or (t_not (t_tru B.ct (b_of (b_isi B Y.blt kit_tuple (by decide +kernel) (b_of (e_var (B.v 3))))))) (w_or (t_cmp ob_ne (op_neD (un64 B.un)) rfl B.ct (b_len B Y.blt (b_of (e_var (B.v 3)))) (b_of e_int)) (w_or1 (t_not (t_tru B.ct (b_of (b_all B BX.calm Y.blt (b_f (b_lc (own := [("one", 4)]) B BX.calm (i_seq B.ct (e_var (B.v 3))) (fun _ _ B5 hc5 => (g_n (i := 4) B5.nod B5.n B5.lo (B5.io) B5.lfn (by decide))) (fun _ _ B5 hc5 => pts_yes) (fun _ _ B5 hc5 => (e_call B5.ct (B5.at (ok__law_is_int Y) hc5) B5.g (a_cons (e_var (B5.v 4)) a_nil)))))))))))))
    (bs_one (s_ret e_bl))
    bs_nil)
    (bs_one (s_if (t_not (t_chain3 ob_le ob_lt ob_lt op_le op_lt op_lt B.ct e_int (e_ixV B.ct (B.v 3) e_int) (e_ixV B.ct (B.v 3) e_int) (e_var (B.v 0))))
    (bs_one (s_ret e_bl))
    bs_nil))))
    (bs_one (s_if (t_not (t_tru B.ct (b_of (b_all B BX.calm Y.blt (b_f (b_lc (own := [("one", 4), ("other", 5)]) B BX.calm (i_zip B.ct B.g (B.non (Y.blt.at (by kernel_rfl))) (a_cons (e_var (B.v 2)) (a_cons (e_sl B.ct (e_var (B.v 2)) (o_so e_int) o_no) a_nil))) (fun _ _ B5 hc5 => (g_t hc5 B5.ct.K (gs_c (g_n (i := 4) B5.nod B5.n B5.lo (B5.io) B5.lfn (by decide)) (gs_c (g_n (i := 5) B5.nod B5.n B5.lo (B5.io) B5.lfn (by decide)) gs_0)))) (fun _ _ B5 hc5 => pts_yes) (fun _ _ B5 hc5 => (e_cmp ob_lt op_lt rfl B5.ct (e_ixV B5.ct (B5.v 4) e_int) (b_of (e_ixV B5.ct (B5.v 5) e_int))))))))))
    (bs_one (s_ret e_bl))
    bs_nil)))))
    (bs_one (s_ret e_bl))))
theorem sc__law_is_whole : FnScope ["width", "thing", "lows", "gap"] ["width", "thing"] (defScope (top 37)) := ⟨rfl, rfl, rfl, by decide +kernel, rfl, by decide +kernel, by decide +kernel⟩
theorem ok__law_is_whole {M : Mo} (Y : Fx M) : FnM M "_law_is_whole" ["width", "thing"] false F__law_is_whole 3 := by
  obtain ⟨as, Z⟩ := Y.exc
  exact fn_okF (x := "_law_is_whole") (N := ["width", "thing", "lows", "gap"]) (ps := ["width", "thing"]) (st := top 37) (d := d__law_is_whole) (j := 2) false Y.f__law_is_whole sc__law_is_whole fun X G W B BX =>
    (bs_cons (s_if (t_not (t_tru B.ct (b_of (e_call B.ct (B.at (ok__law_is_net Y) BX.calm) B.g (a_cons (e_var (B.v 0)) (a_cons (e_var (B.v 1)) a_nil))))))
    (bs_one (s_ret e_bl))
    bs_nil)
    (bs_cons (s_asg (vs := [2, 3]) (g_t BX.calm B.ct.K (gs_c (g_n (i := 2) B.nod B.n B.lo (B.io) (BX.lfn _) (by decide)) (gs_c (g_n (i := 3) B.nod B.n B.lo (B.io) (BX.lfn _) (by decide)) gs_0))) (e_call B.ct (B.at (ok__law_spans Y) BX.calm) B.g (a_cons (e_var (B.v 0)) (a_cons (e_var (B.v 1)) a_nil))))
    (bs_one (s_ret (e_andV B.ct (e_cmp ob_isN op_isNo rfl B.ct (e_var (B.v 3)) (b_of e_non)) (e_one (e_cmp ob_eq (op_eqD (un64 B.un)) rfl B.ct (b_maxA B BX.calm Y.blt (b_of (e_var (B.v 2)))) (b_of e_int))))))))
theorem sc__law_word : FnScope ["call", "found", "error", "flags", "words"] ["call"] (defScope (top 32)) := ⟨rfl, rfl, rfl, by decide +kernel, rfl, by decide +kernel, by decide +kernel⟩
theorem hlp__law_word {M : Mo} (Y : Fx M) : HlpM M "_law_word" H__law_word := by
  obtain ⟨as, Z⟩ := Y.exc
  obtain ⟨a, fd, F, hm, hb⟩ := Y.f__law_word
  obtain ⟨Dc, hDc⟩ := Z.mem (x := "WordError") (by kernel_rfl)
  exact hlp_ok1 (Ng := ["call", "found", "error", "flags", "words"]) (isRet := false) (i := 2) (c₀ := p__law_word) (ρ1 := r__law_word) (ds := s__law_word) (dp := q__law_word) F sc__law_word hm hb rfl (vis_of (by kernel_rfl)) (by decide) (by decide) rfl Z hDc (by kernel_rfl) (by decide) rfl (by kernel_rfl) (by decide) rfl rfl
    (fun X G B BX => (s_set B.ct B.n B.lo (B.io) e_str (BX.lfn _)))
    (fun X G x B hfn X2 => (bs_cons (s_set B.ct B.n B.lo (B.io) (e_f (f_lst (a_cons (let ⟨_, hD⟩ := Z.mem (x := "BadFloat") (by kernel_rfl); e_isE B X2 Z hD (by kernel_rfl) (vis_of (by kernel_rfl)) (by kernel_rfl) (by kernel_rfl) (Y.blt.at (by kernel_rfl)) (by decide +kernel) (by kernel_rfl) (by kernel_rfl) (by kernel_rfl)) (a_cons (let ⟨_, hD⟩ := Z.mem (x := "BadForm") (by kernel_rfl); e_isE B X2 Z hD (by kernel_rfl) (vis_of (by kernel_rfl)) (by kernel_rfl) (by kernel_rfl) (Y.blt.at (by kernel_rfl)) (by decide +kernel) (by kernel_rfl) (by kernel_rfl) (by kernel_rfl)) (a_cons (let ⟨_, hD⟩ := Z.mem (x := "BadHeights") (by kernel_rfl); e_isE B X2 Z hD (by kernel_rfl) (vis_of (by kernel_rfl)) (by kernel_rfl) (by kernel_rfl) (Y.blt.at (by kernel_rfl)) (by decide +kernel) (by kernel_rfl) (by kernel_rfl) (by kernel_rfl)) a_nil))))) (.inl (hfn _)))
    (bs_cons (s_set B.ct B.n B.lo (B.io) (e_f (f_cat (e_var (B.v 3)) (b_f (f_lst (a_cons (let ⟨_, hD⟩ := Z.mem (x := "BadNet") (by kernel_rfl); e_isE B X2 Z hD (by kernel_rfl) (vis_of (by kernel_rfl)) (by kernel_rfl) (by kernel_rfl) (Y.blt.at (by kernel_rfl)) (by decide +kernel) (by kernel_rfl) (by kernel_rfl) (by kernel_rfl)) (a_cons (let ⟨_, hD⟩ := Z.mem (x := "BadNumber") (by kernel_rfl); e_isE B X2 Z hD (by kernel_rfl) (vis_of (by kernel_rfl)) (by kernel_rfl) (by kernel_rfl) (Y.blt.at (by kernel_rfl)) (by decide +kernel) (by kernel_rfl) (by kernel_rfl) (by kernel_rfl)) (a_cons (let ⟨_, hD⟩ := Z.mem (x := "BadRounding") (by kernel_rfl); e_isE B X2 Z hD (by kernel_rfl) (vis_of (by kernel_rfl)) (by kernel_rfl) (by kernel_rfl) (Y.blt.at (by kernel_rfl)) (by decide +kernel) (by kernel_rfl) (by kernel_rfl) (by kernel_rfl)) a_nil))))))) (.inl (hfn _)))
    (bs_cons (s_set B.ct B.n B.lo (B.io) (e_f (f_cat (e_var (B.v 3)) (b_f (f_lst (a_cons (let ⟨_, hD⟩ := Z.mem (x := "BadWidth") (by kernel_rfl); e_isE B X2 Z hD (by kernel_rfl) (vis_of (by kernel_rfl)) (by kernel_rfl) (by kernel_rfl) (Y.blt.at (by kernel_rfl)) (by decide +kernel) (by kernel_rfl) (by kernel_rfl) (by kernel_rfl)) (a_cons (let ⟨_, hD⟩ := Z.mem (x := "BadWord") (by kernel_rfl); e_isE B X2 Z hD (by kernel_rfl) (vis_of (by kernel_rfl)) (by kernel_rfl) (by kernel_rfl) (Y.blt.at (by kernel_rfl)) (by decide +kernel) (by kernel_rfl) (by kernel_rfl) (by kernel_rfl)) a_nil)))))) (.inl (hfn _)))
    (bs_cons (s_set B.ct B.n B.lo (B.io) (e_f (f_lst (a_cons e_str (a_cons e_str (a_cons e_str (a_cons e_str (a_cons e_str (a_cons e_str (a_cons e_str (a_cons e_str a_nil)))))))))) (.inl (hfn _)))
    (bs_one (s_set B.ct B.n B.lo (B.io) (e_if (t_w (w_and (t_cmp ob_eq (op_eqD (un64 B.un)) rfl B.ct (b_count B (B.v 3) (b_of e_bl)) (b_of e_int)) (w_and1 (t_tru B.ct (b_of (e_isV B X2 Z (by kernel_rfl) (vis_of (by kernel_rfl)) (by kernel_rfl) (Y.blt.at (by kernel_rfl)) (by decide +kernel) (by kernel_rfl) (Y.blt.at (by kernel_rfl)) (by decide +kernel) (by kernel_rfl) (by kernel_rfl))))))) (e_ixV B.ct (B.v 4) (b_index B (B.v 3) (b_of e_bl))) e_str) (.inl (hfn _)))))))))
    (fun X G B BX => (bs_one (s_ret (e_var (B.v 1)))))
theorem sc__law_is_right : FnScope ["hand", "width", "net", "turn", "one", "other", "due", "told"] ["hand", "width", "net"] (defScope (top 41)) := ⟨rfl, rfl, rfl, by decide +kernel, rfl, by decide +kernel, by decide +kernel⟩
theorem ok__law_is_right {M : Mo} (Y : Fx M) : FnM M "_law_is_right" ["hand", "width", "net"] true F__law_is_right 12 := by
  obtain ⟨as, Z⟩ := Y.exc
  exact fn_okL (x := "_law_is_right") (N := ["hand", "width", "net", "turn", "one", "other", "due", "told"]) (ps := ["hand", "width", "net"]) (st := top 41) (d := d__law_is_right) (j := 11) true Y.f__law_is_right sc__law_is_right fun X G W c P B BX L =>
    (bs_cons (s_for (vs := [3]) BX.own B.ct BX.calm (i_rng1 B.g (B.non (Y.blt.at (by kernel_rfl))) (a_cons e_int a_nil)) (g_n (i := 3) B.nod B.n B.lo (B.io) (BX.lfn _) (by decide))
    (bs_cons (s_two B BX.calm (a_cons (e_callIO B.ct (B.at (ok__law_any_word Y) BX.calm) B.g (B.v 0) (a_cons (e_var (B.v 1)) a_nil)) (a_cons (e_callIO B.ct (B.at (ok__law_any_word Y) BX.calm) B.g (B.v 0) (a_cons (e_var (B.v 1)) a_nil)) a_nil)))
    (bs_cons (s_set B.ct B.n B.lo (B.io) (e_call B.ct (B.at (ok__law_sum Y) BX.calm) B.g (a_cons (e_var (B.v 1)) (a_cons (e_var (B.v 2)) (a_cons (e_var (B.v 4)) (a_cons (e_var (B.v 5)) a_nil))))) (BX.lfn _))
    (bs_cons (s_if (t_not (t_tru B.ct (b_of (e_call B.ct (B.at (ok__law_is Y) BX.calm) B.g (a_cons (e_f (f_lst (a_cons (e_call B.ct (B.at (ok_net_sum Y) BX.calm) B.g (a_cons (e_var (B.v 1)) (a_cons (e_var (B.v 2)) (a_cons (e_var (B.v 4)) (a_cons (e_var (B.v 5)) a_nil))))) (a_cons (e_call B.ct (B.at (ok_net_sum Y) BX.calm) B.g (a_cons (e_var (B.v 1)) (a_cons (e_var (B.v 2)) (a_cons (e_var (B.v 5)) (a_cons (e_var (B.v 4)) a_nil))))) a_nil)))) (a_cons (e_f (f_lst (a_cons (e_var (B.v 6)) (a_cons (e_var (B.v 6)) a_nil)))) a_nil))))))
    (bs_one (s_ret e_bl))
    bs_nil)
    (bs_one (s_if (t_w (w_and (t_tru B.ct (b_of (e_call B.ct (B.at (ok__law_is_whole Y) BX.calm) B.g (a_cons (e_var (B.v 1)) (a_cons (e_var (B.v 2)) a_nil))))) (w_and1 (t_cmp ob_ne (op_neD (un64 B.un)) rfl B.ct (e_var (B.v 6)) (b_of (e_add B.ct (e_var (B.v 4)) (e_var (B.v 5))))))))
    (bs_one (s_ret e_bl))
    bs_nil))))))
    (bs_cons (s_if (t_cmp ob_gt op_gt rfl B.ct (e_var (B.v 1)) (b_of e_int))
    (bs_one (s_ret (e_cmp ob_eq (op_eqD (un64 B.un)) rfl B.ct (e_lam (k := 9) B BX.calm L (hlp__law_word Y) (by kernel_rfl) (by kernel_rfl) (fun _ _ _ B2 hc2 => (e_call B2.ct (B2.at (ok_false_words Y) hc2) B2.g (a_cons (e_var (B2.v 1)) (a_cons (e_var (B2.v 2)) a_nil))))) (b_of e_str))))
    bs_nil)
    (bs_cons (s_set B.ct B.n B.lo (B.io) (e_call B.ct (B.at (ok_false_words Y) BX.calm) B.g (a_cons (e_var (B.v 1)) (a_cons (e_var (B.v 2)) a_nil))) (BX.lfn _))
    (bs_cons (s_if (t_cmp ob_isN op_isNo rfl B.ct (e_var (B.v 7)) (b_of e_non))
    (bs_one (s_ret e_bl))
    bs_nil)
    (bs_cons (s_if (t_w (w_or (t_not (t_tru B.ct (b_of (b_isi B Y.blt kit_tuple (by decide +kernel) (b_of (e_var (B.v 7))))))) (w_or (t_cmp ob_ne (op_neD (un64 B.un)) rfl B.ct (b_len B Y.blt (b_of (e_var (B.v 7)))) (b_of e_int)) (w_or1 (t_not (t_tru B.ct (b_of (b_all B BX.calm Y.blt (b_f (b_lc (own := [("one", 4)]) B BX.calm (i_seq B.ct (e_var (B.v 7))) (fun _ _ B5 hc5 => (g_n (i := 4) B5.nod B5.n B5.lo (B5.io) B5.lfn (by decide))) (fun _ _ B5 hc5 => pts_yes) (fun _ _ B5 hc5 => (e_call B5.ct (B5.at (ok__law_is_int Y) hc5) B5.g (a_cons (e_var (B5.v 4)) a_nil)))))))))))))
    (bs_one (s_ret e_bl))
    bs_nil)
    (bs_cons (s_if (t_w (w_or (t_not (t_tru B.ct (b_of (b_all B BX.calm Y.blt (b_f (b_lc (own := [("one", 4)]) B BX.calm (i_seq B.ct (e_var (B.v 7))) (fun _ _ B5 hc5 => (g_n (i := 4) B5.nod B5.n B5.lo (B5.io) B5.lfn (by decide))) (fun _ _ B5 hc5 => pts_yes) (fun _ _ B5 hc5 => (e_chain ob_le ob_lt op_le op_lt B5.ct e_int (e_var (B5.v 4)) (e_shl B5.ct e_int (e_var (B5.v 1))))))))))) (w_or1 (t_tru B.ct (b_of (e_call B.ct (B.at (ok_is_whole Y) BX.calm) B.g (a_cons (e_var (B.v 1)) (a_cons (e_var (B.v 2)) a_nil))))))))
    (bs_one (s_ret e_bl))
    bs_nil)
    (bs_one (s_ret (e_cmp ob_ne (op_neD (un64 B.un)) rfl B.ct (e_call B.ct (B.at (ok__law_sum Y) BX.calm) B.g (a_cons (e_var (B.v 1)) (a_cons (e_var (B.v 2)) (a_cons (e_ixV B.ct (B.v 7) e_int) (a_cons (e_ixV B.ct (B.v 7) e_int) a_nil))))) (b_of (b_sum B BX.calm Y.blt (b_of (e_var (B.v 7))))))))))))))
theorem sc__law_no_width : FnScope ["hand"] ["hand"] (defScope (top 39)) := ⟨rfl, rfl, rfl, by decide +kernel, rfl, by decide +kernel, by decide +kernel⟩
theorem ok__law_no_width {M : Mo} (Y : Fx M) : FnM M "_law_no_width" ["hand"] true F__law_no_width 3 := by
  obtain ⟨as, Z⟩ := Y.exc
  exact fn_okF (x := "_law_no_width") (N := ["hand"]) (ps := ["hand"]) (st := top 39) (d := d__law_no_width) (j := 2) true Y.f__law_no_width sc__law_no_width fun X G W B BX =>
    (bs_one (s_ret (e_callIO B.ct (B.at (ok__law_any Y) BX.calm) B.g (B.v 0) (a_cons (e_f (f_lst (a_cons e_int (a_cons e_int (a_cons (e_neg B.ct e_int) (a_cons e_non (a_cons e_bl (a_cons e_str (a_cons (e_tup (a_cons e_int a_nil)) a_nil))))))))) a_nil))))
theorem sc__law_are_refused_right : FnScope ["hand", "width", "net", "no", "bad", "odd", "words", "wrong"] ["hand", "width", "net"] (defScope (top 42)) := ⟨rfl, rfl, rfl, by decide +kernel, rfl, by decide +kernel, by decide +kernel⟩
theorem ok__law_are_refused_right {M : Mo} (Y : Fx M) : FnM M "_law_are_refused_right" ["hand", "width", "net"] true F__law_are_refused_right 10 := by
  obtain ⟨as, Z⟩ := Y.exc
  exact fn_okL (x := "_law_are_refused_right") (N := ["hand", "width", "net", "no", "bad", "odd", "words", "wrong"]) (ps := ["hand", "width", "net"]) (st := top 42) (d := d__law_are_refused_right) (j := 9) true Y.f__law_are_refused_right sc__law_are_refused_right fun X G W c P B BX L =>
    (bs_cons (s_asg (vs := [3, 4]) (g_t BX.calm B.ct.K (gs_c (g_n (i := 3) B.nod B.n B.lo (B.io) (BX.lfn _) (by decide)) (gs_c (g_n (i := 4) B.nod B.n B.lo (B.io) (BX.lfn _) (by decide)) gs_0))) (e_tup (a_cons (e_callIO B.ct (B.at (ok__law_no_width Y) BX.calm) B.g (B.v 0) a_nil) (a_cons (e_callIO B.ct (B.at (ok__law_any Y) BX.calm) B.g (B.v 0) (a_cons (e_f (f_lst (a_cons e_non (a_cons (e_f (f_lst (a_cons (e_tup a_nil) a_nil))) (a_cons (e_tup (a_cons (e_tup (a_cons e_int (a_cons e_int a_nil))) a_nil)) (a_cons (e_tup (a_cons (e_tup (a_cons (e_tup (a_cons e_int (a_cons e_int a_nil))) a_nil)) a_nil)) (a_cons e_int (a_cons e_dic0 (a_cons (e_tup (a_cons (e_tup (a_cons (e_tup (a_cons (e_var (B.v 1)) (a_cons e_int a_nil))) a_nil)) a_nil)) a_nil))))))))) a_nil)) a_nil))) (hw := sw_none B.eS (by kernel_rfl)))
    (bs_cons (s_set B.ct B.n B.lo (B.io) (e_callIO B.ct (B.at (ok__law_any Y) BX.calm) B.g (B.v 0) (a_cons (e_f (f_lst (a_cons (e_neg B.ct e_int) (a_cons (e_shl B.ct e_int (e_var (B.v 1))) (a_cons e_non (a_cons e_bl (a_cons e_str (a_cons (e_tup (a_cons e_int a_nil)) a_nil)))))))) a_nil)) (BX.lfn _))
    (bs_cons (s_own B.ct B.n B.lo (B.io) (f_lst (a_cons (e_lam (k := 7) B BX.calm L (hlp__law_word Y) (by kernel_rfl) (by kernel_rfl) (fun _ _ _ B2 hc2 => (e_call B2.ct (B2.at (ok_net_sum Y) hc2) B2.g (a_cons (e_var (B2.v 3)) (a_cons (e_var (B2.v 4)) (a_cons (e_var (B2.v 5)) (a_cons (e_var (B2.v 5)) a_nil))))))) a_nil)) (BX.lfn _))
    (bs_cons (b_app (B.v 6) (e_lam (k := 7) B BX.calm L (hlp__law_word Y) (by kernel_rfl) (by kernel_rfl) (fun _ _ _ B2 hc2 => (e_call B2.ct (B2.at (ok_net_sum Y) hc2) B2.g (a_cons (e_var (B2.v 1)) (a_cons (e_var (B2.v 4)) (a_cons (e_var (B2.v 5)) (a_cons (e_var (B2.v 5)) a_nil))))))))
    (bs_cons (b_app (B.v 6) (e_lam (k := 7) B BX.calm L (hlp__law_word Y) (by kernel_rfl) (by kernel_rfl) (fun _ _ _ B2 hc2 => (e_call B2.ct (B2.at (ok_net_sum Y) hc2) B2.g (a_cons (e_var (B2.v 1)) (a_cons (e_var (B2.v 2)) (a_cons (e_var (B2.v 5)) (a_cons e_int a_nil))))))))
    (bs_cons (b_app (B.v 6) (e_lam (k := 7) B BX.calm L (hlp__law_word Y) (by kernel_rfl) (by kernel_rfl) (fun _ _ _ B2 hc2 => (e_call B2.ct (B2.at (ok_net_sum Y) hc2) B2.g (a_cons (e_var (B2.v 1)) (a_cons (e_var (B2.v 2)) (a_cons e_int (a_cons (e_var (B2.v 5)) a_nil))))))))
    (bs_cons (b_app (B.v 6) (e_lam (k := 7) B BX.calm L (hlp__law_word Y) (by kernel_rfl) (by kernel_rfl) (fun _ _ _ B2 hc2 => (e_call B2.ct (B2.at (ok_false_words Y) hc2) B2.g (a_cons (e_var (B2.v 3)) (a_cons (e_var (B2.v 4)) a_nil))))))
    (bs_cons (b_app (B.v 6) (e_lam (k := 7) B BX.calm L (hlp__law_word Y) (by kernel_rfl) (by kernel_rfl) (fun _ _ _ B2 hc2 => (e_call B2.ct (B2.at (ok_false_words Y) hc2) B2.g (a_cons (e_add B2.ct e_int (e_callIO B2.ct (B2.at (ok__law_draw Y) hc2) B2.g (B2.v 0) (a_cons e_int a_nil))) (a_cons (e_tup a_nil) a_nil))))))
    (bs_cons (s_set B.ct B.n B.lo (B.io) (e_callIO B.ct (B.at (ok__law_any Y) BX.calm) B.g (B.v 0) (a_cons (e_f (f_lst (a_cons e_non (a_cons (e_f (f_lst (a_cons (e_tup a_nil) a_nil))) (a_cons (e_tup (a_cons (e_tup (a_cons (e_tup (a_cons e_int (a_cons e_int a_nil))) a_nil)) a_nil)) (a_cons e_int a_nil)))))) a_nil)) (BX.lfn _))
    (bs_cons (b_app (B.v 6) (e_lam (k := 7) B BX.calm L (hlp__law_word Y) (by kernel_rfl) (by kernel_rfl) (fun _ _ _ B2 hc2 => (e_call B2.ct (B2.at (ok_false_words Y) hc2) B2.g (a_cons (e_add B2.ct e_int (e_callIO B2.ct (B2.at (ok__law_draw Y) hc2) B2.g (B2.v 0) (a_cons e_int a_nil))) (a_cons (e_var (B2.v 7)) a_nil))))))
    (bs_cons (b_app (B.v 6) (e_lam (k := 7) B BX.calm L (hlp__law_word Y) (by kernel_rfl) (by kernel_rfl) (fun _ _ _ B2 hc2 => (e_call B2.ct (B2.at (ok_false_words Y) hc2) B2.g (a_cons (b_min2 B2 hc2 Y.blt (e_var (B2.v 1)) e_int) (a_cons (e_callIO B2.ct (B2.at (ok__law_any Y) hc2) B2.g (B2.v 0) (a_cons (e_f (f_lst (a_cons e_non (a_cons (e_f (f_lst (a_cons (e_tup a_nil) a_nil))) (a_cons (e_tup (a_cons (e_tup (a_cons (e_tup (a_cons e_int (a_cons e_int a_nil))) a_nil)) a_nil)) (a_cons e_int a_nil)))))) a_nil)) a_nil))))))
    (bs_one (s_ret (e_cmpV ob_eq (op_eqD (un64 B.un)) rfl B.ct (B.v 6) (b_f (f_lst (a_cons e_str (a_cons e_str (a_cons e_str (a_cons e_str (a_cons e_str (a_cons e_str (a_cons e_str (a_cons e_str a_nil))))))))))))))))))))))))
theorem sc_law : FnScope ["script", "hand", "turn", "width", "net", "one", "other"] ["script"] (defScope (top 43)) := ⟨rfl, rfl, rfl, by decide +kernel, rfl, by decide +kernel, by decide +kernel⟩
theorem ok_law {M : Mo} (Y : Fx M) : FnM M "law" ["script"] false F_law 13 := by
  obtain ⟨as, Z⟩ := Y.exc
  exact fn_okF (x := "law") (N := ["script", "hand", "turn", "width", "net", "one", "other"]) (ps := ["script"]) (st := top 43) (d := d_law) (j := 12) false Y.f_law sc_law fun X G W B BX =>
    (bs_cons (s_own B.ct B.n B.lo (B.io) (f_call B.ct (B.at (ok__law_hand Y) BX.calm) B.g (a_cons (e_var (B.v 0)) a_nil)) (BX.lfn _))
    (bs_cons (s_for (vs := [2]) BX.own B.ct BX.calm (i_rng1 B.g (B.non (Y.blt.at (by kernel_rfl))) (a_cons e_int a_nil)) (g_n (i := 2) B.nod B.n B.lo (B.io) (BX.lfn _) (by decide))
    (bs_cons (s_set B.ct B.n B.lo (B.io) (e_add B.ct e_int (e_callIO B.ct (B.at (ok__law_draw Y) BX.calm) B.g (B.v 1) (a_cons (e_callIO B.ct (B.at (ok__law_any Y) BX.calm) B.g (B.v 1) (a_cons (e_f (f_lst (a_cons e_int (a_cons e_int (a_cons e_int (a_cons e_int a_nil)))))) a_nil)) a_nil))) (BX.lfn _))
    (bs_cons (s_set B.ct B.n B.lo (B.io) (e_callIO B.ct (B.at (ok__law_net Y) BX.calm) B.g (B.v 1) (a_cons (e_var (B.v 3)) a_nil)) (BX.lfn _))
    (bs_cons (s_if (t_w (w_or (t_not (t_tru B.ct (b_of (e_callIO B.ct (B.at (ok__law_is_right Y) BX.calm) B.g (B.v 1) (a_cons (e_var (B.v 3)) (a_cons (e_var (B.v 4)) a_nil)))))) (w_or1 (t_not (t_tru B.ct (b_of (e_callIO B.ct (B.at (ok__law_are_refused_right Y) BX.calm) B.g (B.v 1) (a_cons (e_var (B.v 3)) (a_cons (e_var (B.v 4)) a_nil)))))))))
    (bs_one (s_ret e_bl))
    bs_nil)
    (bs_cons (s_two B BX.calm (a_cons (e_callIO B.ct (B.at (ok__law_any_word Y) BX.calm) B.g (B.v 1) (a_cons (e_var (B.v 3)) a_nil)) (a_cons (e_callIO B.ct (B.at (ok__law_any_word Y) BX.calm) B.g (B.v 1) (a_cons (e_var (B.v 3)) a_nil)) a_nil)))
    (bs_one (s_if (t_not (t_tru B.ct (b_of (e_call B.ct (B.at (ok__law_is Y) BX.calm) B.g (a_cons (e_call B.ct (B.at (ok_net_sum Y) BX.calm) B.g (a_cons (e_var (B.v 3)) (a_cons (e_tup a_nil) (a_cons (e_var (B.v 5)) (a_cons (e_var (B.v 6)) a_nil))))) (a_cons (e_xor B.ct (e_xor B.ct (e_var (B.v 5)) (e_var (B.v 6))) (e_mul B.ct e_int (e_and B.ct (e_var (B.v 5)) (e_var (B.v 6))))) a_nil))))))
    (bs_one (s_ret e_bl))
    bs_nil)))))))
    (bs_one (s_ret (e_call B.ct (B.at (ok__law_is Y) BX.calm) B.g (a_cons (e_f (f_lst (a_cons (e_call B.ct (B.at (ok_net_sum Y) BX.calm) B.g (a_cons e_int (a_cons (e_tup (a_cons (e_tup (a_cons (e_tup (a_cons e_int (a_cons e_int a_nil))) a_nil)) a_nil)) (a_cons e_int (a_cons e_int a_nil))))) (a_cons (e_call B.ct (B.at (ok_net_sum Y) BX.calm) B.g (a_cons e_int (a_cons (e_tup a_nil) (a_cons e_int (a_cons e_int a_nil))))) (a_cons (e_call B.ct (B.at (ok_false_words Y) BX.calm) B.g (a_cons e_int (a_cons (e_tup a_nil) a_nil))) a_nil))))) (a_cons (e_f (f_lst (a_cons e_int (a_cons e_int (a_cons e_non a_nil))))) a_nil)))))))
set_option maxHeartbeats 4000000 in
theorem all_mk {P : Program} {w : World} {K : PySem.W.Frag} {h : Heap} {mg : Str → Option Value} (X : K.In h) (G : h.Ns mainGlobals mg) {x0 x1 x2 x3 x4 x5 x6 x7 x8 f0 f1 f2 f3 f4 f5 f6 f7 f8 f9 f10 f11 f12 f13 f14 f15 f16 f17 f18 f19 f20 f21 f22 f23 f24 f25 f26 f27 f28 q25 t25 q27 t27 : Addr} {u0 : Value} {od0 an0 od1 an1 od2 an2 od3 an3 od4 an4 od5 an5 od6 an6 od7 an7 od8 an8 od9 an9 od10 an10 od11 an11 od12 an12 od13 an13 od14 an14 od15 an15 od16 an16 od17 an17 od18 an18 od19 an19 od20 an20 od21 an21 od22 an22 od23 an23 od24 an24 od25 an25 od26 an26 od27 an27 od28 an28 : Option Addr} {sl0 sl1 sl2 sl3 sl4 sl5 sl6 sl7 sl8 sl9 sl10 sl11 sl12 sl13 sl14 sl15 sl16 sl17 sl18 sl19 sl20 sl21 sl22 sl23 sl24 sl25 sl26 sl27 sl28 : Array (Option Value)} {oc0 kV0 dc0 pm0 ct0 cd0 oc1 kV1 dc1 pm1 ct1 cd1 oc2 kV2 dc2 pm2 ct2 cd2 oc3 kV3 dc3 pm3 ct3 cd3 oc4 kV4 dc4 pm4 ct4 cd4 oc5 kV5 dc5 pm5 ct5 cd5 oc6 kV6 dc6 pm6 ct6 cd6 oc7 kV7 dc7 pm7 ct7 cd7 oc8 kV8 dc8 pm8 ct8 cd8 oc9 kV9 dc9 pm9 ct9 cd9 oc10 kV10 dc10 pm10 ct10 cd10 oc11 kV11 dc11 pm11 ct11 cd11 oc12 kV12 dc12 pm12 ct12 cd12 oc13 kV13 dc13 pm13 ct13 cd13 oc14 kV14 dc14 pm14 ct14 cd14 oc15 kV15 dc15 pm15 ct15 cd15 oc16 kV16 dc16 pm16 ct16 cd16 oc17 kV17 dc17 pm17 ct17 cd17 oc18 kV18 dc18 pm18 ct18 cd18 oc19 kV19 dc19 pm19 ct19 cd19 oc20 kV20 dc20 pm20 ct20 cd20 oc21 kV21 dc21 pm21 ct21 cd21 oc22 kV22 dc22 pm22 ct22 cd22 oc23 kV23 dc23 pm23 ct23 cd23 oc24 kV24 dc24 pm24 ct24 cd24 oc25 kV25 dc25 pm25 ct25 oc26 kV26 dc26 pm26 ct26 cd26 oc27 kV27 dc27 pm27 ct27 oc28 kV28 dc28 pm28 ct28 cd28 : Value} {op25 op27 : Value} {oq25 oq27 : Option Addr} {vs25 vs27 : Array Value} {os25 os27 : Array (Option Value)}
    (b0 : PySem.W.nsIn K mainGlobals "len" = some none)
    (b1 : PySem.W.nsIn K mainGlobals "int" = some none)
    (b2 : PySem.W.nsIn K mainGlobals "abs" = some none)
    (b3 : PySem.W.nsIn K mainGlobals "tuple" = some none)
    (b4 : PySem.W.nsIn K mainGlobals "list" = some none)
    (b5 : PySem.W.nsIn K mainGlobals "sum" = some none)
    (b6 : PySem.W.nsIn K mainGlobals "all" = some none)
    (b7 : PySem.W.nsIn K mainGlobals "any" = some none)
    (b8 : PySem.W.nsIn K mainGlobals "max" = some none)
    (b9 : PySem.W.nsIn K mainGlobals "min" = some none)
    (b10 : PySem.W.nsIn K mainGlobals "sorted" = some none)
    (b11 : PySem.W.nsIn K mainGlobals "isinstance" = some none)
    (b12 : PySem.W.nsIn K mainGlobals "range" = some none)
    (b13 : PySem.W.nsIn K mainGlobals "enumerate" = some none)
    (b14 : PySem.W.nsIn K mainGlobals "zip" = some none)
    (b15 : PySem.W.nsIn K mainGlobals "reversed" = some none)
    (b16 : PySem.W.nsIn K mainGlobals "str" = some none)
    (b17 : PySem.W.nsIn K mainGlobals "repr" = some none)
    (b18 : PySem.W.nsIn K mainGlobals "bool" = some none)
    (b19 : PySem.W.nsIn K mainGlobals "set" = some none)
    (b20 : PySem.W.nsIn K mainGlobals "dict" = some none)
    (b21 : PySem.W.nsIn K mainGlobals "ValueError" = some none)
    (e0 : PySem.W.nsIn K mainGlobals "WordError" = some (some (.ref x0)))
    (e1 : PySem.W.nsIn K mainGlobals "BadFloat" = some (some (.ref x1)))
    (e2 : PySem.W.nsIn K mainGlobals "BadForm" = some (some (.ref x2)))
    (e3 : PySem.W.nsIn K mainGlobals "BadHeights" = some (some (.ref x3)))
    (e4 : PySem.W.nsIn K mainGlobals "BadNet" = some (some (.ref x4)))
    (e5 : PySem.W.nsIn K mainGlobals "BadNumber" = some (some (.ref x5)))
    (e6 : PySem.W.nsIn K mainGlobals "BadRounding" = some (some (.ref x6)))
    (e7 : PySem.W.nsIn K mainGlobals "BadWidth" = some (some (.ref x7)))
    (e8 : PySem.W.nsIn K mainGlobals "BadWord" = some (some (.ref x8)))
    (ex : tblChk K tbl [("WordError", x0), ("BadFloat", x1), ("BadForm", x2), ("BadHeights", x3), ("BadNet", x4), ("BadNumber", x5), ("BadRounding", x6), ("BadWidth", x7), ("BadWord", x8)] = true)
    (g0 : PySem.W.nsIn K mainGlobals "MOST_WIDTH" = some (some u0))
    (r0 : readK K 20 u0 = some (.int (64)))
    (a0 : PySem.W.nsIn K mainGlobals "_law_hand" = some (some (.ref f0)))
    (l0 : K.lookup f0 = some ⟨oc0, od0, .func (PySem.W.fnOf "_law_hand" "_law_hand" (defArgs (top 28)) (defBody (top 28)) (defScope (top 28)) .none kV0 dc0 pm0 an0 cd0 ct0), sl0⟩)
    (c0 : PySem.W.codeIn K cd0 "_law_hand" = true)
    (k0 : PySem.W.keepIn K (.ref f0) = true)
    (a1 : PySem.W.nsIn K mainGlobals "_law_is" = some (some (.ref f1)))
    (l1 : K.lookup f1 = some ⟨oc1, od1, .func (PySem.W.fnOf "_law_is" "_law_is" (defArgs (top 31)) (defBody (top 31)) (defScope (top 31)) .none kV1 dc1 pm1 an1 cd1 ct1), sl1⟩)
    (c1 : PySem.W.codeIn K cd1 "_law_is" = true)
    (k1 : PySem.W.keepIn K (.ref f1) = true)
    (a2 : PySem.W.nsIn K mainGlobals "_law_draw" = some (some (.ref f2)))
    (l2 : K.lookup f2 = some ⟨oc2, od2, .func (PySem.W.fnOf "_law_draw" "_law_draw" (defArgs (top 29)) (defBody (top 29)) (defScope (top 29)) .none kV2 dc2 pm2 an2 cd2 ct2), sl2⟩)
    (c2 : PySem.W.codeIn K cd2 "_law_draw" = true)
    (k2 : PySem.W.keepIn K (.ref f2) = true)
    (a3 : PySem.W.nsIn K mainGlobals "_law_any" = some (some (.ref f3)))
    (l3 : K.lookup f3 = some ⟨oc3, od3, .func (PySem.W.fnOf "_law_any" "_law_any" (defArgs (top 30)) (defBody (top 30)) (defScope (top 30)) .none kV3 dc3 pm3 an3 cd3 ct3), sl3⟩)
    (c3 : PySem.W.codeIn K cd3 "_law_any" = true)
    (k3 : PySem.W.keepIn K (.ref f3) = true)
    (a4 : PySem.W.nsIn K mainGlobals "_law_net" = some (some (.ref f4)))
    (l4 : K.lookup f4 = some ⟨oc4, od4, .func (PySem.W.fnOf "_law_net" "_law_net" (defArgs (top 34)) (defBody (top 34)) (defScope (top 34)) .none kV4 dc4 pm4 an4 cd4 ct4), sl4⟩)
    (c4 : PySem.W.codeIn K cd4 "_law_net" = true)
    (k4 : PySem.W.keepIn K (.ref f4) = true)
    (a5 : PySem.W.nsIn K mainGlobals "_law_any_word" = some (some (.ref f5)))
    (l5 : K.lookup f5 = some ⟨oc5, od5, .func (PySem.W.fnOf "_law_any_word" "_law_any_word" (defArgs (top 40)) (defBody (top 40)) (defScope (top 40)) .none kV5 dc5 pm5 an5 cd5 ct5), sl5⟩)
    (c5 : PySem.W.codeIn K cd5 "_law_any_word" = true)
    (k5 : PySem.W.keepIn K (.ref f5) = true)
    (a6 : PySem.W.nsIn K mainGlobals "is_integer" = some (some (.ref f6)))
    (l6 : K.lookup f6 = some ⟨oc6, od6, .func (PySem.W.fnOf "is_integer" "is_integer" (defArgs (top 1)) (defBody (top 1)) (defScope (top 1)) .none kV6 dc6 pm6 an6 cd6 ct6), sl6⟩)
    (c6 : PySem.W.codeIn K cd6 "is_integer" = true)
    (k6 : PySem.W.keepIn K (.ref f6) = true)
    (a7 : PySem.W.nsIn K mainGlobals "is_within" = some (some (.ref f7)))
    (l7 : K.lookup f7 = some ⟨oc7, od7, .func (PySem.W.fnOf "is_within" "is_within" (defArgs (top 2)) (defBody (top 2)) (defScope (top 2)) .none kV7 dc7 pm7 an7 cd7 ct7), sl7⟩)
    (c7 : PySem.W.codeIn K cd7 "is_within" = true)
    (k7 : PySem.W.keepIn K (.ref f7) = true)
    (a8 : PySem.W.nsIn K mainGlobals "check_width" = some (some (.ref f8)))
    (l8 : K.lookup f8 = some ⟨oc8, od8, .func (PySem.W.fnOf "check_width" "check_width" (defArgs (top 16)) (defBody (top 16)) (defScope (top 16)) .none kV8 dc8 pm8 an8 cd8 ct8), sl8⟩)
    (c8 : PySem.W.codeIn K cd8 "check_width" = true)
    (k8 : PySem.W.keepIn K (.ref f8) = true)
    (a9 : PySem.W.nsIn K mainGlobals "is_tuple_of" = some (some (.ref f9)))
    (l9 : K.lookup f9 = some ⟨oc9, od9, .func (PySem.W.fnOf "is_tuple_of" "is_tuple_of" (defArgs (top 3)) (defBody (top 3)) (defScope (top 3)) .none kV9 dc9 pm9 an9 cd9 ct9), sl9⟩)
    (c9 : PySem.W.codeIn K cd9 "is_tuple_of" = true)
    (k9 : PySem.W.keepIn K (.ref f9) = true)
    (a10 : PySem.W.nsIn K mainGlobals "is_net" = some (some (.ref f10)))
    (l10 : K.lookup f10 = some ⟨oc10, od10, .func (PySem.W.fnOf "is_net" "is_net" (defArgs (top 20)) (defBody (top 20)) (defScope (top 20)) .none kV10 dc10 pm10 an10 cd10 ct10), sl10⟩)
    (c10 : PySem.W.codeIn K cd10 "is_net" = true)
    (k10 : PySem.W.keepIn K (.ref f10) = true)
    (a11 : PySem.W.nsIn K mainGlobals "check_net" = some (some (.ref f11)))
    (l11 : K.lookup f11 = some ⟨oc11, od11, .func (PySem.W.fnOf "check_net" "check_net" (defArgs (top 21)) (defBody (top 21)) (defScope (top 21)) .none kV11 dc11 pm11 an11 cd11 ct11), sl11⟩)
    (c11 : PySem.W.codeIn K cd11 "check_net" = true)
    (k11 : PySem.W.keepIn K (.ref f11) = true)
    (a12 : PySem.W.nsIn K mainGlobals "is_word" = some (some (.ref f12)))
    (l12 : K.lookup f12 = some ⟨oc12, od12, .func (PySem.W.fnOf "is_word" "is_word" (defArgs (top 17)) (defBody (top 17)) (defScope (top 17)) .none kV12 dc12 pm12 an12 cd12 ct12), sl12⟩)
    (c12 : PySem.W.codeIn K cd12 "is_word" = true)
    (k12 : PySem.W.keepIn K (.ref f12) = true)
    (a13 : PySem.W.nsIn K mainGlobals "check_word" = some (some (.ref f13)))
    (l13 : K.lookup f13 = some ⟨oc13, od13, .func (PySem.W.fnOf "check_word" "check_word" (defArgs (top 18)) (defBody (top 18)) (defScope (top 18)) .none kV13 dc13 pm13 an13 cd13 ct13), sl13⟩)
    (c13 : PySem.W.codeIn K cd13 "check_word" = true)
    (k13 : PySem.W.keepIn K (.ref f13) = true)
    (a14 : PySem.W.nsIn K mainGlobals "net_sum" = some (some (.ref f14)))
    (l14 : K.lookup f14 = some ⟨oc14, od14, .func (PySem.W.fnOf "net_sum" "net_sum" (defArgs (top 26)) (defBody (top 26)) (defScope (top 26)) .none kV14 dc14 pm14 an14 cd14 ct14), sl14⟩)
    (c14 : PySem.W.codeIn K cd14 "net_sum" = true)
    (k14 : PySem.W.keepIn K (.ref f14) = true)
    (a15 : PySem.W.nsIn K mainGlobals "last_tries" = some (some (.ref f15)))
    (l15 : K.lookup f15 = some ⟨oc15, od15, .func (PySem.W.fnOf "last_tries" "last_tries" (defArgs (top 25)) (defBody (top 25)) (defScope (top 25)) .none kV15 dc15 pm15 an15 cd15 ct15), sl15⟩)
    (c15 : PySem.W.codeIn K cd15 "last_tries" = true)
    (k15 : PySem.W.keepIn K (.ref f15) = true)
    (a16 : PySem.W.nsIn K mainGlobals "false_words" = some (some (.ref f16)))
    (l16 : K.lookup f16 = some ⟨oc16, od16, .func (PySem.W.fnOf "false_words" "false_words" (defArgs (top 24)) (defBody (top 24)) (defScope (top 24)) .none kV16 dc16 pm16 an16 cd16 ct16), sl16⟩)
    (c16 : PySem.W.codeIn K cd16 "false_words" = true)
    (k16 : PySem.W.keepIn K (.ref f16) = true)
    (a17 : PySem.W.nsIn K mainGlobals "_law_sum" = some (some (.ref f17)))
    (l17 : K.lookup f17 = some ⟨oc17, od17, .func (PySem.W.fnOf "_law_sum" "_law_sum" (defArgs (top 38)) (defBody (top 38)) (defScope (top 38)) .none kV17 dc17 pm17 an17 cd17 ct17), sl17⟩)
    (c17 : PySem.W.codeIn K cd17 "_law_sum" = true)
    (k17 : PySem.W.keepIn K (.ref f17) = true)
    (a18 : PySem.W.nsIn K mainGlobals "spans_of" = some (some (.ref f18)))
    (l18 : K.lookup f18 = some ⟨oc18, od18, .func (PySem.W.fnOf "spans_of" "spans_of" (defArgs (top 22)) (defBody (top 22)) (defScope (top 22)) .none kV18 dc18 pm18 an18 cd18 ct18), sl18⟩)
    (c18 : PySem.W.codeIn K cd18 "spans_of" = true)
    (k18 : PySem.W.keepIn K (.ref f18) = true)
    (a19 : PySem.W.nsIn K mainGlobals "is_whole" = some (some (.ref f19)))
    (l19 : K.lookup f19 = some ⟨oc19, od19, .func (PySem.W.fnOf "is_whole" "is_whole" (defArgs (top 23)) (defBody (top 23)) (defScope (top 23)) .none kV19 dc19 pm19 an19 cd19 ct19), sl19⟩)
    (c19 : PySem.W.codeIn K cd19 "is_whole" = true)
    (k19 : PySem.W.keepIn K (.ref f19) = true)
    (a20 : PySem.W.nsIn K mainGlobals "_law_spans" = some (some (.ref f20)))
    (l20 : K.lookup f20 = some ⟨oc20, od20, .func (PySem.W.fnOf "_law_spans" "_law_spans" (defArgs (top 35)) (defBody (top 35)) (defScope (top 35)) .none kV20 dc20 pm20 an20 cd20 ct20), sl20⟩)
    (c20 : PySem.W.codeIn K cd20 "_law_spans" = true)
    (k20 : PySem.W.keepIn K (.ref f20) = true)
    (a21 : PySem.W.nsIn K mainGlobals "_law_is_int" = some (some (.ref f21)))
    (l21 : K.lookup f21 = some ⟨oc21, od21, .func (PySem.W.fnOf "_law_is_int" "_law_is_int" (defArgs (top 33)) (defBody (top 33)) (defScope (top 33)) .none kV21 dc21 pm21 an21 cd21 ct21), sl21⟩)
    (c21 : PySem.W.codeIn K cd21 "_law_is_int" = true)
    (k21 : PySem.W.keepIn K (.ref f21) = true)
    (a22 : PySem.W.nsIn K mainGlobals "_law_is_net" = some (some (.ref f22)))
    (l22 : K.lookup f22 = some ⟨oc22, od22, .func (PySem.W.fnOf "_law_is_net" "_law_is_net" (defArgs (top 36)) (defBody (top 36)) (defScope (top 36)) .none kV22 dc22 pm22 an22 cd22 ct22), sl22⟩)
    (c22 : PySem.W.codeIn K cd22 "_law_is_net" = true)
    (k22 : PySem.W.keepIn K (.ref f22) = true)
    (a23 : PySem.W.nsIn K mainGlobals "_law_is_whole" = some (some (.ref f23)))
    (l23 : K.lookup f23 = some ⟨oc23, od23, .func (PySem.W.fnOf "_law_is_whole" "_law_is_whole" (defArgs (top 37)) (defBody (top 37)) (defScope (top 37)) .none kV23 dc23 pm23 an23 cd23 ct23), sl23⟩)
    (c23 : PySem.W.codeIn K cd23 "_law_is_whole" = true)
    (k23 : PySem.W.keepIn K (.ref f23) = true)
    (a24 : PySem.W.nsIn K mainGlobals "_law_word" = some (some (.ref f24)))
    (l24 : K.lookup f24 = some ⟨oc24, od24, .func (PySem.W.fnOf "_law_word" "_law_word" (defArgs (top 32)) (defBody (top 32)) (defScope (top 32)) .none kV24 dc24 pm24 an24 cd24 ct24), sl24⟩)
    (c24 : PySem.W.codeIn K cd24 "_law_word" = true)
    (k24 : PySem.W.keepIn K (.ref f24) = true)
    (a25 : PySem.W.nsIn K mainGlobals "_law_is_right" = some (some (.ref f25)))
    (l25 : K.lookup f25 = some ⟨oc25, od25, .func (PySem.W.fnOf "_law_is_right" "_law_is_right" (defArgs (top 41)) (defBody (top 41)) (defScope (top 41)) .none kV25 dc25 pm25 an25 (.ref q25) ct25), sl25⟩)
    (c25 : PySem.W.codeIn K (.ref q25) "_law_is_right" = true)
    (k25 : PySem.W.keepIn K (.ref f25) = true)
    (a26 : PySem.W.nsIn K mainGlobals "_law_no_width" = some (some (.ref f26)))
    (l26 : K.lookup f26 = some ⟨oc26, od26, .func (PySem.W.fnOf "_law_no_width" "_law_no_width" (defArgs (top 39)) (defBody (top 39)) (defScope (top 39)) .none kV26 dc26 pm26 an26 cd26 ct26), sl26⟩)
    (c26 : PySem.W.codeIn K cd26 "_law_no_width" = true)
    (k26 : PySem.W.keepIn K (.ref f26) = true)
    (a27 : PySem.W.nsIn K mainGlobals "_law_are_refused_right" = some (some (.ref f27)))
    (l27 : K.lookup f27 = some ⟨oc27, od27, .func (PySem.W.fnOf "_law_are_refused_right" "_law_are_refused_right" (defArgs (top 42)) (defBody (top 42)) (defScope (top 42)) .none kV27 dc27 pm27 an27 (.ref q27) ct27), sl27⟩)
    (c27 : PySem.W.codeIn K (.ref q27) "_law_are_refused_right" = true)
    (k27 : PySem.W.keepIn K (.ref f27) = true)
    (a28 : PySem.W.nsIn K mainGlobals "law" = some (some (.ref f28)))
    (l28 : K.lookup f28 = some ⟨oc28, od28, .func (PySem.W.fnOf "law" "law" (defArgs (top 43)) (defBody (top 43)) (defScope (top 43)) .none kV28 dc28 pm28 an28 cd28 ct28), sl28⟩)
    (c28 : PySem.W.codeIn K cd28 "law" = true)
    (k28 : PySem.W.keepIn K (.ref f28) = true)
    (p25 : K.lookup q25 = some ⟨op25, oq25, .fields vs25, os25⟩)
    (v25 : vs25[11]? = some (.ref t25))
    (d25 : PySem.W.codeHdIn K q25 t25 = true)
    (n25 : K.lookup t25 = none)
    (h25 : h.get? t25 = some { cls := .none, data := .fields #[] })
    (p27 : K.lookup q27 = some ⟨op27, oq27, .fields vs27, os27⟩)
    (v27 : vs27[11]? = some (.ref t27))
    (d27 : PySem.W.codeHdIn K q27 t27 = true)
    (n27 : K.lookup t27 = none)
    (h27 : h.get? t27 = some { cls := .none, data := .fields #[] })
    (ne : ([t25, t27] : List Addr).Nodup) :
    ∃ (cs : List (Addr × Addr)) (T : List (Addr × Str)), (∀ p ∈ cs, h.get? p.2 = some { cls := .none, data := .fields #[] }) ∧ (∀ p ∈ cs, K.lookup p.2 = none) ∧ (∀ p ∈ cs, PySem.W.CodeHd h p.1 p.2) ∧ (∀ p ∈ T, ∃ c, (c, p.1) ∈ cs) ∧
      (∃ (fa : Addr) (fd : FuncData), Fun K "law" "law" (top 43) fa fd ∧ mg "law" = some (.ref fa) ∧ ∀ (s : Shared) (u : Value), BindsTo s fd ⟨[u], []⟩ [("script", u)]) ∧
      ∀ base : Heap, K.In base → base.Ns mainGlobals mg → (∀ p ∈ cs, TabB base mg p.1 p.2) → FnM ⟨P, w, K, mg, base, T⟩ "law" ["script"] false F_law 13 := by
  refine ⟨[(q25, t25), (q27, t27)], [(t25, ("_law_is_right" : Str) ++ ".<locals>." ++ "<lambda>"), (t27, ("_law_are_refused_right" : Str) ++ ".<locals>." ++ "<lambda>")], (List.forall_mem_cons.mpr ⟨h25, (List.forall_mem_cons.mpr ⟨h27, (fun _ h => by cases h)⟩)⟩), (List.forall_mem_cons.mpr ⟨n25, (List.forall_mem_cons.mpr ⟨n27, (fun _ h => by cases h)⟩)⟩), (List.forall_mem_cons.mpr ⟨PySem.W.codeHd_of_K X d25, (List.forall_mem_cons.mpr ⟨PySem.W.codeHd_of_K X d27, (fun _ h => by cases h)⟩)⟩), (List.forall_mem_cons.mpr ⟨⟨q25, (.head _)⟩, (List.forall_mem_cons.mpr ⟨⟨q27, (.tail _ (.head _))⟩, (fun _ h => by cases h)⟩)⟩), ⟨f28, _, fun_mk (st := top 43) l28 c28 k28, PySem.W.mg_of X G a28, fun s u => .of_eq rfl⟩, fun base X1 G1 TB => ok_law ?_⟩
  exact {
    blt := (blt_cons (PySem.W.mg_none_of X G b0) (blt_cons (PySem.W.mg_none_of X G b1) (blt_cons (PySem.W.mg_none_of X G b2) (blt_cons (PySem.W.mg_none_of X G b3) (blt_cons (PySem.W.mg_none_of X G b4) (blt_cons (PySem.W.mg_none_of X G b5) (blt_cons (PySem.W.mg_none_of X G b6) (blt_cons (PySem.W.mg_none_of X G b7) (blt_cons (PySem.W.mg_none_of X G b8) (blt_cons (PySem.W.mg_none_of X G b9) (blt_cons (PySem.W.mg_none_of X G b10) (blt_cons (PySem.W.mg_none_of X G b11) (blt_cons (PySem.W.mg_none_of X G b12) (blt_cons (PySem.W.mg_none_of X G b13) (blt_cons (PySem.W.mg_none_of X G b14) (blt_cons (PySem.W.mg_none_of X G b15) (blt_cons (PySem.W.mg_none_of X G b16) (blt_cons (PySem.W.mg_none_of X G b17) (blt_cons (PySem.W.mg_none_of X G b18) (blt_cons (PySem.W.mg_none_of X G b19) (blt_cons (PySem.W.mg_none_of X G b20) (blt_cons (PySem.W.mg_none_of X G b21) blt_nil))))))))))))))))))))))
    exc := ⟨_, exT_of (by rfl) (List.forall_mem_cons.mpr ⟨PySem.W.mg_of X G e0, (List.forall_mem_cons.mpr ⟨PySem.W.mg_of X G e1, (List.forall_mem_cons.mpr ⟨PySem.W.mg_of X G e2, (List.forall_mem_cons.mpr ⟨PySem.W.mg_of X G e3, (List.forall_mem_cons.mpr ⟨PySem.W.mg_of X G e4, (List.forall_mem_cons.mpr ⟨PySem.W.mg_of X G e5, (List.forall_mem_cons.mpr ⟨PySem.W.mg_of X G e6, (List.forall_mem_cons.mpr ⟨PySem.W.mg_of X G e7, (List.forall_mem_cons.mpr ⟨PySem.W.mg_of X G e8, (fun _ h => by cases h)⟩)⟩)⟩)⟩)⟩)⟩)⟩)⟩)⟩) ex⟩
    c_MOST_WIDTH := ⟨_, PySem.W.mg_of X G g0, r0⟩
    f__law_hand := ⟨f0, _, fun_mk (st := top 28) l0 c0 k0, PySem.W.mg_of X G a0, ((fun_mk (st := top 28) l0 c0 k0).binds (ps := ["script"]) fun _ _ _ _ _ _ us hl => match us, hl with | [_], _ => rfl)⟩
    f__law_is := ⟨f1, _, fun_mk (st := top 31) l1 c1 k1, PySem.W.mg_of X G a1, ((fun_mk (st := top 31) l1 c1 k1).binds (ps := ["answer", "due"]) fun _ _ _ _ _ _ us hl => match us, hl with | [_, _], _ => rfl)⟩
    f__law_draw := ⟨f2, _, fun_mk (st := top 29) l2 c2 k2, PySem.W.mg_of X G a2, ((fun_mk (st := top 29) l2 c2 k2).binds (ps := ["hand", "many"]) fun _ _ _ _ _ _ us hl => match us, hl with | [_, _], _ => rfl)⟩
    f__law_any := ⟨f3, _, fun_mk (st := top 30) l3 c3 k3, PySem.W.mg_of X G a3, ((fun_mk (st := top 30) l3 c3 k3).binds (ps := ["hand", "some"]) fun _ _ _ _ _ _ us hl => match us, hl with | [_, _], _ => rfl)⟩
    f__law_net := ⟨f4, _, fun_mk (st := top 34) l4 c4 k4, PySem.W.mg_of X G a4, ((fun_mk (st := top 34) l4 c4 k4).binds (ps := ["hand", "width"]) fun _ _ _ _ _ _ us hl => match us, hl with | [_, _], _ => rfl)⟩
    f__law_any_word := ⟨f5, _, fun_mk (st := top 40) l5 c5 k5, PySem.W.mg_of X G a5, ((fun_mk (st := top 40) l5 c5 k5).binds (ps := ["hand", "width"]) fun _ _ _ _ _ _ us hl => match us, hl with | [_, _], _ => rfl)⟩
    f_is_integer := ⟨f6, _, fun_mk (st := top 1) l6 c6 k6, PySem.W.mg_of X G a6, ((fun_mk (st := top 1) l6 c6 k6).binds (ps := ["thing"]) fun _ _ _ _ _ _ us hl => match us, hl with | [_], _ => rfl)⟩
    f_is_within := ⟨f7, _, fun_mk (st := top 2) l7 c7 k7, PySem.W.mg_of X G a7, ((fun_mk (st := top 2) l7 c7 k7).binds (ps := ["thing", "low", "high"]) fun _ _ _ _ _ _ us hl => match us, hl with | [_, _, _], _ => rfl)⟩
    f_check_width := ⟨f8, _, fun_mk (st := top 16) l8 c8 k8, PySem.W.mg_of X G a8, ((fun_mk (st := top 16) l8 c8 k8).binds (ps := ["width"]) fun _ _ _ _ _ _ us hl => match us, hl with | [_], _ => rfl)⟩
    f_is_tuple_of := ⟨f9, _, fun_mk (st := top 3) l9 c9 k9, PySem.W.mg_of X G a9, ((fun_mk (st := top 3) l9 c9 k9).binds (ps := ["thing", "many"]) fun _ _ _ _ _ _ us hl => match us, hl with | [_, _], _ => rfl)⟩
    f_is_net := ⟨f10, _, fun_mk (st := top 20) l10 c10 k10, PySem.W.mg_of X G a10, ((fun_mk (st := top 20) l10 c10 k10).binds (ps := ["width", "thing"]) fun _ _ _ _ _ _ us hl => match us, hl with | [_, _], _ => rfl)⟩
    f_check_net := ⟨f11, _, fun_mk (st := top 21) l11 c11 k11, PySem.W.mg_of X G a11, ((fun_mk (st := top 21) l11 c11 k11).binds (ps := ["width", "net"]) fun _ _ _ _ _ _ us hl => match us, hl with | [_, _], _ => rfl)⟩
    f_is_word := ⟨f12, _, fun_mk (st := top 17) l12 c12 k12, PySem.W.mg_of X G a12, ((fun_mk (st := top 17) l12 c12 k12).binds (ps := ["width", "thing"]) fun _ _ _ _ _ _ us hl => match us, hl with | [_, _], _ => rfl)⟩
    f_check_word := ⟨f13, _, fun_mk (st := top 18) l13 c13 k13, PySem.W.mg_of X G a13, ((fun_mk (st := top 18) l13 c13 k13).binds (ps := ["width", "word"]) fun _ _ _ _ _ _ us hl => match us, hl with | [_, _], _ => rfl)⟩
    f_net_sum := ⟨f14, _, fun_mk (st := top 26) l14 c14 k14, PySem.W.mg_of X G a14, ((fun_mk (st := top 26) l14 c14 k14).binds (ps := ["width", "net", "one", "other"]) fun _ _ _ _ _ _ us hl => match us, hl with | [_, _, _, _], _ => rfl)⟩
    f_last_tries := ⟨f15, _, fun_mk (st := top 25) l15 c15 k15, PySem.W.mg_of X G a15, ((fun_mk (st := top 25) l15 c15 k15).binds (ps := ["width"]) fun _ _ _ _ _ _ us hl => match us, hl with | [_], _ => rfl)⟩
    f_false_words := ⟨f16, _, fun_mk (st := top 24) l16 c16 k16, PySem.W.mg_of X G a16, ((fun_mk (st := top 24) l16 c16 k16).binds (ps := ["width", "net"]) fun _ _ _ _ _ _ us hl => match us, hl with | [_, _], _ => rfl)⟩
    f__law_sum := ⟨f17, _, fun_mk (st := top 38) l17 c17 k17, PySem.W.mg_of X G a17, ((fun_mk (st := top 38) l17 c17 k17).binds (ps := ["width", "net", "one", "other"]) fun _ _ _ _ _ _ us hl => match us, hl with | [_, _, _, _], _ => rfl)⟩
    f_spans_of := ⟨f18, _, fun_mk (st := top 22) l18 c18 k18, PySem.W.mg_of X G a18, ((fun_mk (st := top 22) l18 c18 k18).binds (ps := ["width", "net"]) fun _ _ _ _ _ _ us hl => match us, hl with | [_, _], _ => rfl)⟩
    f_is_whole := ⟨f19, _, fun_mk (st := top 23) l19 c19 k19, PySem.W.mg_of X G a19, ((fun_mk (st := top 23) l19 c19 k19).binds (ps := ["width", "thing"]) fun _ _ _ _ _ _ us hl => match us, hl with | [_, _], _ => rfl)⟩
    f__law_spans := ⟨f20, _, fun_mk (st := top 35) l20 c20 k20, PySem.W.mg_of X G a20, ((fun_mk (st := top 35) l20 c20 k20).binds (ps := ["width", "net"]) fun _ _ _ _ _ _ us hl => match us, hl with | [_, _], _ => rfl)⟩
    f__law_is_int := ⟨f21, _, fun_mk (st := top 33) l21 c21 k21, PySem.W.mg_of X G a21, ((fun_mk (st := top 33) l21 c21 k21).binds (ps := ["thing"]) fun _ _ _ _ _ _ us hl => match us, hl with | [_], _ => rfl)⟩
    f__law_is_net := ⟨f22, _, fun_mk (st := top 36) l22 c22 k22, PySem.W.mg_of X G a22, ((fun_mk (st := top 36) l22 c22 k22).binds (ps := ["width", "thing"]) fun _ _ _ _ _ _ us hl => match us, hl with | [_, _], _ => rfl)⟩
    f__law_is_whole := ⟨f23, _, fun_mk (st := top 37) l23 c23 k23, PySem.W.mg_of X G a23, ((fun_mk (st := top 37) l23 c23 k23).binds (ps := ["width", "thing"]) fun _ _ _ _ _ _ us hl => match us, hl with | [_, _], _ => rfl)⟩
    f__law_word := ⟨f24, _, fun_mk (st := top 32) l24 c24 k24, PySem.W.mg_of X G a24, ((fun_mk (st := top 32) l24 c24 k24).binds (ps := ["call"]) fun _ _ _ _ _ _ us hl => match us, hl with | [_], _ => rfl)⟩
    f__law_is_right := ⟨f25, _, q25, t25, fun_mk (st := top 41) l25 c25 k25, PySem.W.mg_of X G a25, ((fun_mk (st := top 41) l25 c25 k25).binds (ps := ["hand", "width", "net"]) fun _ _ _ _ _ _ us hl => match us, hl with | [_, _, _], _ => rfl), ⟨_, _, _, _, _, _, _, _, _, _, _, _, _, _, l25⟩, TB (q25, t25) (.head _), (.head _), (un_of (ne) (.head _))⟩
    f__law_no_width := ⟨f26, _, fun_mk (st := top 39) l26 c26 k26, PySem.W.mg_of X G a26, ((fun_mk (st := top 39) l26 c26 k26).binds (ps := ["hand"]) fun _ _ _ _ _ _ us hl => match us, hl with | [_], _ => rfl)⟩
    f__law_are_refused_right := ⟨f27, _, q27, t27, fun_mk (st := top 42) l27 c27 k27, PySem.W.mg_of X G a27, ((fun_mk (st := top 42) l27 c27 k27).binds (ps := ["hand", "width", "net"]) fun _ _ _ _ _ _ us hl => match us, hl with | [_, _, _], _ => rfl), ⟨_, _, _, _, _, _, _, _, _, _, _, _, _, _, l27⟩, TB (q27, t27) (.tail _ (.head _)), (.tail _ (.head _)), (un_of (ne) (.tail _ (.head _)))⟩
    f_law := ⟨f28, _, fun_mk (st := top 43) l28 c28 k28, PySem.W.mg_of X G a28, ((fun_mk (st := top 43) l28 c28 k28).binds (ps := ["script"]) fun _ _ _ _ _ _ us hl => match us, hl with | [_], _ => rfl)⟩
  }
end K39

set_option linter.all false
set_option maxRecDepth 100000
namespace K39
open PF PySem L2
@[simp] theorem lit0 : dep (.str ("0" : Str)) = 0 := by kernel_rfl
@[simp] theorem lit1 : dep (.str ("8" : Str)) = 0 := by kernel_rfl
@[simp] theorem lit2 : dep (.str ("float" : Str)) = 0 := by kernel_rfl
@[simp] theorem lit3 : dep (.str ("form" : Str)) = 0 := by kernel_rfl
@[simp] theorem lit4 : dep (.str ("heights" : Str)) = 0 := by kernel_rfl
@[simp] theorem lit5 : dep (.str ("law_wordhouse_k39_whole_net_sums" : Str)) = 0 := by kernel_rfl
@[simp] theorem lit6 : dep (.str ("net" : Str)) = 0 := by kernel_rfl
@[simp] theorem lit7 : dep (.str ("number" : Str)) = 0 := by kernel_rfl
@[simp] theorem lit8 : dep (.str ("odd" : Str)) = 0 := by kernel_rfl
@[simp] theorem lit9 : dep (.str ("rounding" : Str)) = 0 := by kernel_rfl
@[simp] theorem lit10 : dep (.str ("told" : Str)) = 0 := by kernel_rfl
@[simp] theorem lit11 : dep (.str ("width" : Str)) = 0 := by kernel_rfl
@[simp] theorem lit12 : dep (.str ("word" : Str)) = 0 := by kernel_rfl
@[simp] theorem lit13 : dep (.str ("wordhouse.basics" : Str)) = 0 := by kernel_rfl
@[simp] theorem lit14 : dep (.str ("wordhouse.errors" : Str)) = 0 := by kernel_rfl
@[simp] theorem lit15 : dep (.str ("wordhouse.nets" : Str)) = 0 := by kernel_rfl
@[simp] theorem lit16 : dep (.str ("wordhouse.words" : Str)) = 0 := by kernel_rfl
theorem is_integer_e (p : PV) (h : isDat p = true) : F_is_integer [p] = .ret (.bl (isI p)) [] := by
  cases p <;> first | (simp [isDat] at h; done) | simp [F_is_integer, d_is_integer, pIs, isTy, tyOf]

theorem is_within_e (p : PV) (a b : Int) (h : isDat p = true) : F_is_within [p, .int a, .int b] = .ret (.bl (inR p a b)) [] := by
  cases p with
  | int i =>
    simp [F_is_within, d_is_within, is_integer_e]
    by_cases h1 : a ≤ i <;> simp [h1]
  | _ => first | (simp [isDat] at h; done) | simp [F_is_within, d_is_within, is_integer_e]

theorem check_width_e (p : PV) (h : isDat p = true) : F_check_width [p] = if inR p 1 64 = true then .ret .non [] else .exc ⟨"BadWidth", []⟩ := by
  simp [F_check_width, d_check_width, is_within_e p 1 64 h]
  cases inR p 1 64 <;> simp

theorem is_word_e {w : Int} (h1 : 1 ≤ w) (h2 : w ≤ 64) (q : PV) (h : isDat q = true) : F_is_word [.int w, q] = .ret (.bl (inR q 0 (2 ^ w.toNat - 1))) [] := by
  simp [F_is_word, d_is_word, check_width_e, h1, h2, shl1 (w := w) (by omega) (by omega), is_within_e q _ _ h]
theorem is_word_b (p q : PV) (h : isDat p = true) (hp : inR p 1 64 = false) : F_is_word [p, q] = .exc ⟨"BadWidth", []⟩ := by
  simp [F_is_word, d_is_word, check_width_e, h, hp]
theorem check_word_e {w : Int} (h1 : 1 ≤ w) (h2 : w ≤ 64) (q : PV) (h : isDat q = true) : F_check_word [.int w, q] = if inR q 0 (2 ^ w.toNat - 1) = true then .ret .non [] else .exc ⟨"BadWord", []⟩ := by
  simp [F_check_word, d_check_word, is_word_e h1 h2 q h]
  cases inR q 0 (2 ^ w.toNat - 1) <;> simp
theorem check_word_b (p q : PV) (h : isDat p = true) (hp : inR p 1 64 = false) : F_check_word [p, q] = .exc ⟨"BadWidth", []⟩ := by
  simp [F_check_word, d_check_word, is_word_b p q h hp]
/-- a word -/
theorem check_word_w {w x : Int} (h1 : 1 ≤ w) (h2 : w ≤ 64) (h3 : 0 ≤ x) (h4 : x < 2 ^ w.toNat) : F_check_word [.int w, .int x] = .ret .non [] := by
  rw [check_word_e h1 h2 _ rfl, if_pos (inR_of h3 (by omega))]

/-! the hand -/
def Hd (p : PV) : Prop := ∃ (cs : List Int) (pos cur seed cnt : Int), p = .lst [.lst (cs.map .int), .int pos, .int cur, .int seed, .int cnt] ∧ (∀ c ∈ cs, 0 ≤ c) ∧ 0 ≤ pos ∧ 0 ≤ cur
theorem draw_ok {p : PV} (h : Hd p) {m : Int} (hm : 0 < m) (hm2 : m ≤ 18446744073709551616) : ∃ r p', 0 ≤ r ∧ r < m ∧ Hd p' ∧ F__law_draw [p, .int m] = .ret (.int r) [p'] := by
  obtain ⟨cs, pos, cur, seed, cnt, rfl, hc, hp, hq⟩ := h
  have e1 : ∀ x : Int, 0 ≤ x % m := fun x => (emod_rng x hm).1
  have e2 : ∀ x : Int, x % m < m := fun x => (emod_rng x hm).2
  have a0 : ∀ v w x y z : PV, atI [v, w, x, y, z] 0 = some v := fun _ _ _ _ _ => rfl
  have a1 : ∀ v w x y z : PV, atI [v, w, x, y, z] 1 = some w := fun _ _ _ _ _ => rfl
  have a2 : ∀ v w x y z : PV, atI [v, w, x, y, z] 2 = some x := fun _ _ _ _ _ => rfl
  have a3 : ∀ v w x y z : PV, atI [v, w, x, y, z] 3 = some y := fun _ _ _ _ _ => rfl
  have a4 : ∀ v w x y z : PV, atI [v, w, x, y, z] 4 = some z := fun _ _ _ _ _ => rfl
  have i1 : ixN 5 1 = some 1 := rfl
  have i2 : ixN 5 2 = some 2 := rfl
  have i3 : ixN 5 3 = some 3 := rfl
  have i4 : ixN 5 4 = some 4 := rfl
  by_cases h1 : cur = 0
  · subst h1
    by_cases h2 : pos < cs.length
    · obtain ⟨c, hcm, hat⟩ := atI_ints hp h2
      have := hc c hcm
      by_cases h3 : 1000000000000000000 ≤ c
      · have h4 : 0 < c := by omega
        simp [F__law_draw, d__law_draw, a0, a1, a2, a3, a4, i1, i2, i3, i4, h2, hat, pMul_r, pMul_w, pMod_i, h3, h4, hm, pFloor_64, hm2, e1, e2]
        exact ⟨_, e1 _, e2 _, ⟨cs, _, _, _, _, rfl, hc, by omega, Int.ediv_nonneg this (by omega)⟩, rfl⟩
      · simp [F__law_draw, d__law_draw, a0, a1, a2, a3, a4, i1, i2, i3, i4, h2, hat, pMul_r, pMul_l, pMul_em, pMul_w, pMod_i, h3, hm, pFloor_64, hm2, e1, e2]
        exact ⟨_, e1 _, e2 _, ⟨cs, _, _, _, _, rfl, hc, by omega, by omega⟩, rfl⟩
    · simp [F__law_draw, d__law_draw, a0, a1, a2, a3, a4, i1, i2, i3, i4, h2, pMul_r, pMul_l, pMul_em, pMul_w, pMod_i, hm, pFloor_64, hm2, e1, e2]
      exact ⟨_, e1 _, e2 _, ⟨cs, _, _, _, _, rfl, hc, by omega, by omega⟩, rfl⟩
  · have h4 : 0 < cur := by omega
    simp [F__law_draw, d__law_draw, a0, a1, a2, a3, a4, i1, i2, i3, i4, h1, h4, pMul_r, pMul_l, pMul_em, pMul_w, pMod_i, hm, pFloor_64, hm2, e1, e2]
    exact ⟨_, e1 _, e2 _, ⟨cs, _, _, _, _, rfl, hc, hp, Int.ediv_nonneg hq (by omega)⟩, rfl⟩

theorem any_ok {p : PV} (h : Hd p) {xs : List PV} (hx : xs ≠ []) (hl : xs.length ≤ 1000000) : ∃ x ∈ xs, ∃ p', Hd p' ∧ F__law_any [p, .lst xs] = .ret x [p'] := by
  have h0 : 0 < xs.length := List.length_pos_iff.mpr hx
  obtain ⟨r, p', h1, h2, h3, e⟩ := draw_ok h (m := (xs.length : Int)) (by omega) (by omega)
  have hr : r.toNat < xs.length := by omega
  refine ⟨xs[r.toNat], List.getElem_mem hr, p', h3, ?_⟩
  have : atI xs r = some xs[r.toNat] := by rw [atI_nat h1 h2, List.getElem?_eq_getElem hr]
  simp [F__law_any, d__law_any, e, this]
theorem any_p {p : PV} (h : Hd p) {xs : List PV} (P : PV → Prop) (hx : xs ≠ []) (hl : xs.length ≤ 1000000) (hP : ∀ x ∈ xs, P x) : ∃ x p', P x ∧ Hd p' ∧ F__law_any [p, .lst xs] = .ret x [p'] := by
  obtain ⟨x, hm, p', h1, e⟩ := any_ok h hx hl
  exact ⟨x, p', hP x hm, h1, e⟩

-- has: cells = [abs(int(cell)) for cell in script[:63]]
theorem hand_ok (ns : List Int) (h : ns.length ≤ 63) : ∃ p, Hd (.lst p) ∧ F__law_hand [.scr (ns.map .int)] = .own p [] := by
  have e := lcL_map (g := gN 2) (e := dUn pAbs (dUn pInt (dV 2))) (vs := [2]) (fun p => match p with | .int n => PV.int (if n < 0 then -n else n) | _ => .non) [.val (.scr (ns.map .int)), .unb, .unb] (ns.map .int) [] (by simp; omega) (by
    intro x hx
    obtain ⟨n, hn, rfl⟩ := List.mem_map.mp hx
    exact ⟨_, [.val (.scr (ns.map .int)), .unb, .val (.int n)], rfl, by simp, rfl⟩)
  simp only [List.nil_append, map_map'] at e
  have hc : cutP (ns.map PV.int) none (some 63) = ns.map PV.int := by
    unfold cutP
    simp only [HT.sIx_none, List.drop_zero]
    refine List.take_of_length_le ?_
    simp [HT.sIx]
    omega
  have key : ∃ s : Int, F__law_hand [.scr (ns.map .int)] = .own [.lst ((ns.map fun n => if n < 0 then -n else n).map .int), .int 0, .int 0, .int s, .int 0] [] := by
    simp only [F__law_hand, d__law_hand]
    simp [pSl, hc, e, pMul_l]
  obtain ⟨s, key⟩ := key
  refine ⟨_, ⟨ns.map fun n => if n < 0 then -n else n, 0, 0, s, 0, rfl, ?_, by omega, by omega⟩, key⟩
  intro c hcm
  obtain ⟨n, _, rfl⟩ := List.mem_map.mp hcm
  split <;> omega

-- has: return len(answer) == len(due) and all([_law_is(one, other) for one, other in zip(answer, due)])
def isOk : Nat → PV → Bool
  | 0, _ => false
  | n + 1, .tup ps => decide (ps.length ≤ 100000) && ps.all (isOk n)
  | n + 1, .lst ps => decide (ps.length ≤ 100000) && ps.all (isOk n)
  | n + 1, .int _ => true
  | n + 1, .bl _ => true
  | n + 1, .non => true
  | n + 1, .str s => decide (dep (.str s) = 0)
  | _, _ => false
theorem zipP_self (ps : List PV) : zipP ps ps = ps.map fun p => PV.tup [p, p] := by
  induction ps with
  | nil => rfl
  | cons p ps ih => simp only [zipP, ih, List.map_cons]
theorem cEq_bb (b : Bool) : cEq (.bl b) (.bl b) = some true := by cases b <;> rfl
theorem lis_k : ∀ (n : Nat) (p : PV), isOk n p = true → I__law_is n [p, p] = .ret (.bl true) []
  | 0, _, h => by simp [isOk] at h
  | n + 1, p, h => by
    have seq : ∀ (ps : List PV) (q : PV), (q = .tup ps ∨ q = .lst ps) → ps.length ≤ 100000 → (∀ p ∈ ps, isOk n p = true) → I__law_is (n + 1) [q, q] = .ret (.bl true) [] := by
      intro ps q hq hl hps
      have e := lcL_map (g := gT 2 (gsC (gN 2) (gsC (gN 3) gs0))) (e := dCall (I__law_is n) (aCons (dV 2) (aCons (dV 3) aNil))) (vs := [2, 3]) (fun _ => PV.bl true) [.val q, .val q, .unb, .unb] (zipP ps ps) [] (by rw [zipP_len]; simp; omega) (by
        intro x hx
        rw [zipP_self] at hx
        obtain ⟨p, hp, rfl⟩ := List.mem_map.mp hx
        have ih := lis_k n p (hps p hp)
        refine ⟨[.val q, .val q, .val p, .val p], [.val q, .val q, .val p, .val p], by simp, ?_, rfl⟩
        simp -implicitDefEqProofs [ih])
      simp only [List.nil_append] at e
      have pa : pAll (.lst ((zipP ps ps).map fun _ => PV.bl true)) = some (.bl true) := by
        have := pAll_fn (fun _ : PV => true) (zipP ps ps)
        rw [this]
        simp
      rcases hq with rfl | rfl
      · simp only [I__law_is, d__law_is]
        have z : pZip [.tup ps, .tup ps] = some (zipP ps ps) := rfl
        simp -implicitDefEqProofs [pIs2, pIs, isTy, tyOf, cIsN, z, e, pa]
      · simp only [I__law_is, d__law_is]
        have z : pZip [.lst ps, .lst ps] = some (zipP ps ps) := rfl
        simp -implicitDefEqProofs [pIs2, pIs, isTy, tyOf, cIsN, z, e, pa]
    cases p with
    | tup ps =>
      simp only [isOk, Bool.and_eq_true, decide_eq_true_eq, List.all_eq_true] at h
      exact seq ps _ (.inl rfl) h.1 h.2
    | lst ps =>
      simp only [isOk, Bool.and_eq_true, decide_eq_true_eq, List.all_eq_true] at h
      exact seq ps _ (.inr rfl) h.1 h.2
    | int i =>
      simp only [I__law_is, d__law_is]
      simp -implicitDefEqProofs [pIs2, pIs, isTy, tyOf, cIsN]
    | bl b =>
      simp only [I__law_is, d__law_is]
      simp -implicitDefEqProofs [pIs2, pIs, isTy, tyOf, cIsN]
    | non =>
      simp only [I__law_is, d__law_is]
      simp -implicitDefEqProofs [pIs2, pIs, isTy, tyOf, cIsN]
    | str s =>
      simp only [isOk, decide_eq_true_eq] at h
      simp only [I__law_is, d__law_is]
      simp -implicitDefEqProofs [pIs2, pIs, isTy, tyOf, cIsN, h]
    | _ => simp [isOk] at h
theorem lis_ok {p q : PV} (hq : p = q) (h : isOk 8 p = true) : F__law_is [p, q] = .ret (.bl true) [] := by
  subst hq
  exact lis_k 8 p h

end K39

set_option Elab.async false
set_option linter.all false
set_option maxRecDepth 100000
namespace K39
open PF PF.Bt PF.Nt PySem L2
theorem ixN_nat {n k : Nat} (h : k < n) : ixN n (k : Nat) = some k := by
  unfold ixN
  rw [if_pos (by omega)]
  split <;> first | omega | simp_all
theorem cwid {w : Nat} (h1 : 1 ≤ w) (h2 : w ≤ 64) : F_check_width [.int w] = .ret .non [] := by rw [check_width_e _ rfl, if_pos (inR_of (by omega) (by omega))]
theorem within_ok {p w : Nat} (h : p < w) : F_is_within [.int p, .int 0, .int ((w : Int) - 1)] = .ret (.bl true) [] := by
  rw [is_within_e _ _ _ rfl, inR_of (by omega) (by omega)]
/-! ## is_net -/
theorem net_inner (w : Nat) (y1 y2 y6 : Slot) : ∀ (L : Lv) (last : Int) (o4 o5 : Slot), (∀ c ∈ L, c.2 < c.1 ∧ c.1 < w) → L.Pairwise (fun c d => c.1 < d.1) → (∀ c ∈ L, last < c.1) → ∃ u3 u4 u5, forL (gT 2 (gsC (gN 4) (gsC (gN 5) gs0))) b1_is_net (L.map prP) [.val (.int w), y1, y2, .val (.int last), o4, o5, y6] = .ok .next [.val (.int w), y1, y2, u3, u4, u5, y6]
  | [], last, o4, o5, _, _, _ => ⟨_, _, _, rfl⟩
  | c :: L, last, o4, o5, h, ha, hl => by
    rw [List.pairwise_cons] at ha
    have hc := h c List.mem_cons_self
    have hlc := hl c List.mem_cons_self
    obtain ⟨u3, u4, u5, e⟩ := net_inner w y1 y2 y6 L (c.1 : Nat) (.val (.int (c.1 : Nat))) (.val (.int (c.2 : Nat))) (fun d hd => h d (List.mem_cons_of_mem _ hd)) ha.2 (fun d hd => by have := ha.1 d hd; omega)
    refine ⟨u3, u4, u5, ?_⟩
    have hg : gT 2 (gsC (gN 4) (gsC (gN 5) gs0)) (prP c) [.val (.int w), y1, y2, .val (.int last), o4, o5, y6] = some [.val (.int w), y1, y2, .val (.int last), .val (.int (c.1 : Nat)), .val (.int (c.2 : Nat)), y6] := rfl
    have w1 := within_ok (p := c.1) (w := w) hc.2
    have w2 := within_ok (p := c.2) (w := w) (by omega)
    have n1 : ¬ ((c.1 : Nat) : Int) ≤ last := by omega
    have n2 : ¬ ((c.1 : Nat) : Int) ≤ ((c.2 : Nat) : Int) := by omega
    have n2' : ¬ c.1 ≤ c.2 := by omega
    have eb : b1_is_net [.val (.int w), y1, y2, .val (.int last), .val (.int (c.1 : Nat)), .val (.int (c.2 : Nat)), y6] = .ok .next [.val (.int w), y1, y2, .val (.int (c.1 : Nat)), .val (.int (c.1 : Nat)), .val (.int (c.2 : Nat)), y6] := by
      simp -implicitDefEqProofs [b1_is_net, w1, w2, n1, n2, n2']
    rw [List.map_cons, forL_cons, hg, Option.elim_some, eb, bind_ok, loopK_next, e]
theorem pair_ok (c : Nat × Nat) : F_is_tuple_of [prP c, .int 2] = .ret (.bl true) [] := by
  unfold prP
  simp -implicitDefEqProofs [F_is_tuple_of, d_is_tuple_of, pIs, isTy, tyOf]
theorem is_net_ok {w : Nat} (h1 : 1 ≤ w) (h2 : w ≤ 64) {net : List Lv} (h : NetOk w net) (hl : net.length ≤ 200) : F_is_net [.int w, netP net] = .ret (.bl true) [] := by
  have c := cwid h1 h2
  obtain ⟨ρ', e, t2, t3, t4, t5, rfl⟩ := forL_inv (g := gN 2) (b := b2_is_net) (fun ρ => ∃ t2 t3 t4 t5, ρ = [.val (.int w), .val (netP net), t2, t3, t4, t5, .unb]) (net.map lvP) [.val (.int w), .val (netP net), .unb, .unb, .unb, .unb, .unb] ⟨_, _, _, _, rfl⟩ (by
    rintro x hx ρ ⟨t2, t3, t4, t5, rfl⟩
    obtain ⟨L, hL, rfl⟩ := List.mem_map.mp hx
    have ok := h L hL
    have len : L.length ≤ w := by
      have : ∀ (L : Lv) (k : Nat), L.Pairwise (fun c d => c.1 < d.1) → (∀ c ∈ L, k ≤ c.1 ∧ c.1 < w) → L.length + k ≤ max w k := by
        intro L
        induction L with
        | nil => intro k _ _; simp; omega
        | cons c L ih =>
          intro k hp hb
          rw [List.pairwise_cons] at hp
          have hc := hb c List.mem_cons_self
          have := ih (c.1 + 1) hp.2 fun d hd => ⟨hp.1 d hd, (hb d (List.mem_cons_of_mem _ hd)).2⟩
          rw [List.length_cons]
          omega
      have := this L 0 ok.asc fun c hc => ⟨Nat.zero_le _, (ok.rng c hc).2⟩
      omega
    have el := lcL_map (g := gN 6) (e := dCall F_is_tuple_of (aCons (dV 6) (aCons (dC (.int 2)) aNil))) (vs := [6]) (fun _ => PV.bl true) [.val (.int w), .val (netP net), .val (lvP L), t3, t4, t5, .unb] (L.map prP) [] (by simp; omega) (by
      intro z hz
      obtain ⟨c, _, rfl⟩ := List.mem_map.mp hz
      have := pair_ok c
      refine ⟨_, [.val (.int w), .val (netP net), .val (lvP L), t3, t4, t5, .val (prP c)], rfl, ?_, rfl⟩
      generalize netP net = N at *
      generalize lvP L = LP at *
      generalize prP c = PC at *
      simp -implicitDefEqProofs [this])
    rw [List.nil_append] at el
    have pa : pAll (.lst ((L.map prP).map fun _ => PV.bl true)) = some (.bl true) := by
      rw [pAll_fn (fun _ : PV => true)]
      simp
    obtain ⟨u3, u4, u5, e⟩ := net_inner w (.val (netP net)) (.val (lvP L)) .unb L (-1) t4 t5 ok.rng ok.asc (fun c _ => by omega)
    refine ⟨[.val (.int w), .val (netP net), .val (lvP L), t3, t4, t5, .unb], [.val (.int w), .val (netP net), .val (lvP L), u3, u4, u5, .unb], rfl, ?_, _, _, _, _, rfl⟩
    have it : itOf (lvP L) = some (L.map prP) := rfl
    have ty : pIs "tuple" (lvP L) = some (.bl true) := rfl
    generalize netP net = N at *
    generalize lvP L = LP at *
    generalize L.map prP = LL at *
    generalize (LL.map fun _ => PV.bl true) = BB at *
    simp -implicitDefEqProofs [b2_is_net, ty, it, el, pa, e])
  have it : itOf (netP net) = some (net.map lvP) := rfl
  have ty : pIs "tuple" (netP net) = some (.bl true) := rfl
  have pl : pLen (netP net) = some (.int (net.length : Nat)) := by simp [netP]
  have nl : ¬ (200 < ((net.length : Nat) : Int)) := by omega
  have nl' : ¬ 200 < net.length := by omega
  generalize netP net = N at *
  generalize net.map lvP = NN at *
  simp only [F_is_net, d_is_net]
  simp -implicitDefEqProofs [c, ty, pl, nl, nl', it, e]
theorem check_net_ok {w : Nat} (h1 : 1 ≤ w) (h2 : w ≤ 64) {net : List Lv} (h : NetOk w net) (hl : net.length ≤ 200) : F_check_net [.int w, netP net] = .ret .non [] := by
  have := is_net_ok h1 h2 h hl
  generalize netP net = N at *
  simp -implicitDefEqProofs [F_check_net, d_check_net, this]
end K39

set_option Elab.async false
set_option linter.all false
set_option maxRecDepth 100000
namespace K39
open PF PF.Bt PF.Nt PySem L2
theorem lvU_same {f : Nat → Nat} {done : Lv} {c : Nat × Nat} (hd : ∀ d ∈ done, d.1 ≠ c.1) (hg : lowG f c.1 c.2 = f c.1) : lvU (done ++ [c]) f (lowG f) = lvU done f (lowG f) := by
  rw [lvU_snoc]
  funext i
  by_cases h : i = c.1
  · rw [if_pos h, hg, h, lvU_out _ _ _ _ hd]
  · rw [if_neg h]
theorem lvU_set {f : Nat → Nat} {done : Lv} {c : Nat × Nat} {v : Nat} (hg : lowG f c.1 c.2 = v) : (fun i => if i = c.1 then v else lvU done f (lowG f) i) = lvU (done ++ [c]) f (lowG f) := by
  rw [lvU_snoc, hg]
/-! ## spans -/
def okB (f : Nat → Nat) (L : Lv) : Bool := L.all fun c => !decide (c.2 + 1 < f c.1)
theorem okB_gap (f : Nat → Nat) (L : Lv) : okB f L = (gapL f L).isNone := by
  unfold okB gapL
  induction L with
  | nil => rfl
  | cons c L ih =>
    rw [List.all_cons, List.find?_cons, ih]
    cases decide (c.2 + 1 < f c.1) <;> simp
theorem spans_inner (w : Nat) (f : Nat → Nat) (y0 y1 y4 : Slot) : ∀ (rest done : Lv) (r : Bool) (o6 o7 : Slot), (∀ c ∈ rest, c.2 < c.1 ∧ c.1 < w) → rest.Pairwise (fun c d => c.1 < d.1) → (∀ d ∈ done, ∀ c ∈ rest, d.1 ≠ c.1) → ∃ u6 u7, forL (gT 2 (gsC (gN 6) (gsC (gN 7) gs0))) b1_spans_of (rest.map prP) [y0, y1, .val (.lst (nL w f)), .val (.bl r), y4, .own (.lst (nL w (lvU done f (lowG f)))), o6, o7] = .ok .next [y0, y1, .val (.lst (nL w f)), .val (.bl (r && okB f rest)), y4, .own (.lst (nL w (lvU (done ++ rest) f (lowG f)))), u6, u7]
  | [], done, r, o6, o7, _, _, _ => ⟨o6, o7, by rw [List.append_nil]; simp [okB]⟩
  | c :: rest, done, r, o6, o7, h, ha, hd => by
    rw [List.pairwise_cons] at ha
    have hc := h c List.mem_cons_self
    have hdc : ∀ d ∈ done, d.1 ≠ c.1 := fun d hd' => hd d hd' c List.mem_cons_self
    have nxt := fun r' => spans_inner w f y0 y1 y4 rest (done ++ [c]) r' (.val (.int (c.1 : Nat))) (.val (.int (c.2 : Nat))) (fun d hd' => h d (List.mem_cons_of_mem _ hd')) ha.2 (fun d hd' e he => by
      rcases List.mem_append.mp hd' with q | q
      · exact hd d q e (List.mem_cons_of_mem _ he)
      · rw [List.mem_singleton.mp q]
        have := ha.1 e he
        omega)
    rw [List.append_assoc, List.singleton_append] at nxt
    have hg : gT 2 (gsC (gN 6) (gsC (gN 7) gs0)) (prP c) [y0, y1, .val (.lst (nL w f)), .val (.bl r), y4, .own (.lst (nL w (lvU done f (lowG f)))), o6, o7] = some [y0, y1, .val (.lst (nL w f)), .val (.bl r), y4, .own (.lst (nL w (lvU done f (lowG f)))), .val (.int (c.1 : Nat)), .val (.int (c.2 : Nat))] := rfl
    have a1 := nL_at w f hc.2
    have a2 := nL_at w f (p := c.2) (by omega)
    have ll := nL_len w (lvU done f (lowG f))
    have ix := ixN_nat hc.2
    have st := nL_set w (lvU done f (lowG f)) hc.2 (f c.2)
    by_cases h1 : c.2 + 1 < f c.1
    · obtain ⟨u6, u7, e⟩ := nxt false
      have hs := lvU_same (f := f) hdc (by unfold lowG; rw [if_neg (by omega)])
      have ob : okB f (c :: rest) = false := by unfold okB; rw [List.all_cons, decide_eq_true h1]; rfl
      rw [ob, Bool.and_false]
      rw [hs, Bool.false_and] at e
      refine ⟨u6, u7, ?_⟩
      have n1 : ¬ ((f c.1 : Nat) : Int) ≤ ((c.2 : Nat) : Int) + 1 := by omega
      have n2 : ((c.2 : Nat) : Int) + 1 < ((f c.1 : Nat) : Int) := by omega
      have eb : b1_spans_of [y0, y1, .val (.lst (nL w f)), .val (.bl r), y4, .own (.lst (nL w (lvU done f (lowG f)))), .val (.int (c.1 : Nat)), .val (.int (c.2 : Nat))] = .ok .next [y0, y1, .val (.lst (nL w f)), .val (.bl false), y4, .own (.lst (nL w (lvU done f (lowG f)))), .val (.int (c.1 : Nat)), .val (.int (c.2 : Nat))] := by
        generalize nL w (lvU done f (lowG f)) = LL at *
        generalize nL w f = FF at *
        simp -implicitDefEqProofs [b1_spans_of, a1, a2, n1, n2]
      rw [List.map_cons, forL_cons, hg, Option.elim_some, eb, bind_ok, loopK_next, e]
    · obtain ⟨u6, u7, e⟩ := nxt r
      have ob : okB f (c :: rest) = okB f rest := by unfold okB; rw [List.all_cons, decide_eq_false h1]; rfl
      rw [ob]
      refine ⟨u6, u7, ?_⟩
      have n1 : ((f c.1 : Nat) : Int) ≤ ((c.2 : Nat) : Int) + 1 := by omega
      have n2 : ¬ ((c.2 : Nat) : Int) + 1 < ((f c.1 : Nat) : Int) := by omega
      have eb : b1_spans_of [y0, y1, .val (.lst (nL w f)), .val (.bl r), y4, .own (.lst (nL w (lvU done f (lowG f)))), .val (.int (c.1 : Nat)), .val (.int (c.2 : Nat))] = .ok .next [y0, y1, .val (.lst (nL w f)), .val (.bl r), y4, .own (.lst (nL w (lvU (done ++ [c]) f (lowG f)))), .val (.int (c.1 : Nat)), .val (.int (c.2 : Nat))] := by
        by_cases h3 : f c.2 < f c.1
        · have hs := lvU_set (f := f) (done := done) (c := c) (v := f c.2) (by unfold lowG; rw [if_pos (by omega)]; omega)
          rw [← hs, ← st]
          generalize nL w (lvU done f (lowG f)) = LL at *
          generalize nL w f = FF at *
          simp -implicitDefEqProofs [b1_spans_of, a1, a2, n1, n2, h3, ll, ix]
        · have hs := lvU_same (f := f) hdc (by unfold lowG; rw [if_pos (by omega)]; omega)
          rw [hs]
          generalize nL w (lvU done f (lowG f)) = LL at *
          generalize nL w f = FF at *
          simp -implicitDefEqProofs [b1_spans_of, a1, a2, n1, n2, h3]
      rw [List.map_cons, forL_cons, hg, Option.elim_some, eb, bind_ok, loopK_next, e]
theorem spans_loop (w : Nat) (y0 y1 : Slot) : ∀ (net : List Lv) (k : Nat) (f : Nat → Nat) (r : Bool) (o4 o5 o6 o7 : Slot), NetOk w net → ∃ u4 u5 u6 u7, forL (gN 4) b2_spans_of (net.map lvP) [y0, y1, .val (.lst (nL w f)), .val (.bl r), o4, o5, o6, o7] = .ok .next [y0, y1, .val (.lst (nL w (lowsN f net))), .val (.bl (r && (gapN k f net).isNone)), u4, u5, u6, u7]
  | [], k, f, r, o4, o5, o6, o7, _ => ⟨o4, o5, o6, o7, by simp [gapN, lowsN]⟩
  | L :: net, k, f, r, o4, o5, o6, o7, h => by
    have ok := h L List.mem_cons_self
    obtain ⟨u6, u7, e⟩ := spans_inner w f y0 y1 (.val (lvP L)) L [] r o6 o7 ok.rng ok.asc (by simp)
    obtain ⟨v4, v5, v6, v7, e2⟩ := spans_loop w y0 y1 net (k + 1) (lowS f L) (r && okB f L) (.val (lvP L)) (.val (.lst (nL w (lowS f L)))) u6 u7 (fun M hM => h M (List.mem_cons_of_mem _ hM))
    refine ⟨v4, v5, v6, v7, ?_⟩
    have hg : gN 4 (lvP L) [y0, y1, .val (.lst (nL w f)), .val (.bl r), o4, o5, o6, o7] = some [y0, y1, .val (.lst (nL w f)), .val (.bl r), .val (lvP L), o5, o6, o7] := rfl
    have it : itOf (lvP L) = some (L.map prP) := rfl
    have io : itemsOf (.lst (nL w f)) = some (nL w f) := rfl
    have eb : b2_spans_of [y0, y1, .val (.lst (nL w f)), .val (.bl r), .val (lvP L), o5, o6, o7] = .ok .next [y0, y1, .val (.lst (nL w (lowS f L))), .val (.bl (r && okB f L)), .val (lvP L), .val (.lst (nL w (lowS f L))), u6, u7] := by
      have e' : forL (gT 2 (gsC (gN 6) (gsC (gN 7) gs0))) b1_spans_of (L.map prP) [y0, y1, .val (.lst (nL w f)), .val (.bl r), .val (lvP L), .own (.lst (nL w f)), o6, o7] = .ok .next [y0, y1, .val (.lst (nL w f)), .val (.bl (r && okB f L)), .val (lvP L), .own (.lst (nL w (lowS f L))), u6, u7] := e
      generalize lvP L = LP at *
      generalize nL w (lowS f L) = FF' at *
      generalize nL w f = FF at *
      simp -implicitDefEqProofs [b2_spans_of, it, io, e']
    have eg : (r && okB f L && (gapN (k + 1) (lowS f L) net).isNone) = (r && (gapN k f (L :: net)).isNone) := by
      rw [okB_gap, Bool.and_assoc]
      congr 1
      conv => rhs; unfold gapN
      cases gapL f L <;> simp
    rw [List.map_cons, forL_cons, hg, Option.elim_some, eb, bind_ok, loopK_next, e2, eg]
    rfl
theorem rng_nL (w : Nat) : rngP 0 w = nL w id := by
  unfold rngP nL
  apply List.map_congr_left
  intro i _
  simp
def gapP : Option (Nat × Nat) → PV
  | none => .non
  | some r => .tup [.int (r.1 : Nat), .int (r.2 : Nat)]
theorem spans_of_e {w : Nat} (h2 : w ≤ 64) {net : List Lv} (h : NetOk w net) : F_spans_of [.int w, netP net] = .ret (.tup [.lst (nL w (lowsN id net)), .bl (gapN 0 id net).isNone]) [] := by
  obtain ⟨u4, u5, u6, u7, e⟩ := spans_loop w (.val (.int w)) (.val (netP net)) net 0 id true .unb .unb .unb .unb h
  rw [Bool.true_and] at e
  have it : itOf (netP net) = some (net.map lvP) := rfl
  have rg : rgP (.int 0) (.int (w : Int)) = some (nL w id) := by rw [rgP_of_le (by omega) (by omega) (by omega) (by omega), ← rng_nL]; simp
  generalize netP net = N at *
  generalize nL w (lowsN id net) = A at *
  generalize nL w id = B at *
  simp only [F_spans_of, d_spans_of]
  simp -implicitDefEqProofs [it, rg, e]
def wholeB (w : Nat) (net : List Lv) : Bool := (gapN 0 id net).isNone && !((List.range w).map (lowsN id net)).any (fun n => n != 0)
theorem wholeB_iff (w : Nat) (net : List Lv) : wholeB w net = true ↔ wholeN w net := by
  unfold wholeB wholeN
  rw [Bool.and_eq_true, Option.isNone_iff_eq_none]
  simp
theorem any_nL {w : Nat} (h1 : 1 ≤ w) (f : Nat → Nat) : pAnyA (.lst (nL w f)) = some (.bl (((List.range w).map f).any fun n => n != 0)) := by
  have e : nL w f = ((List.range w).map fun i => ((f i : Nat) : Int)).map PV.int := by unfold nL; rw [List.map_map]; rfl
  rw [e, pAnyA_i _ (by simp; omega)]
  congr 2
  rw [List.any_map, List.any_map]
  congr 1
  funext i
  simp [bne, BEq.beq]
theorem is_whole_e {w : Nat} (h1 : 1 ≤ w) (h2 : w ≤ 64) {net : List Lv} (h : NetOk w net) (hl : net.length ≤ 200) : F_is_whole [.int w, netP net] = .ret (.bl (wholeB w net)) [] := by
  have e1 := is_net_ok h1 h2 h hl
  have e2 := spans_of_e h2 h
  have e3 := any_nL h1 (lowsN id net)
  unfold wholeB
  generalize netP net = N at *
  generalize nL w (lowsN id net) = A at *
  generalize (((List.range w).map (lowsN id net)).any fun n => n != 0) = B at *
  generalize (gapN 0 id net).isNone = C at *
  simp only [F_is_whole, d_is_whole]
  cases C <;> simp -implicitDefEqProofs [e1, e2, e3]
end K39

set_option Elab.async false
set_option linter.all false
set_option maxRecDepth 100000
namespace K39
open PF PF.Bt PF.Nt PySem L2
theorem gapL_cons (f : Nat → Nat) (c : Nat × Nat) (L : Lv) : gapL f (c :: L) = if c.2 + 1 < f c.1 then some c else gapL f L := by
  unfold gapL
  rw [List.find?_cons]
  by_cases h : c.2 + 1 < f c.1
  · rw [decide_eq_true h, if_pos h]
  · rw [decide_eq_false h, if_neg h]
/-! ## the law's spans -/
theorem lspans_inner (w k : Nat) (f : Nat → Nat) (y0 y1 y5 : Slot) : ∀ (rest done : Lv) (r : Option (Nat × Nat)) (o7 o8 : Slot), (∀ c ∈ rest, c.2 < c.1 ∧ c.1 < w) → rest.Pairwise (fun c d => c.1 < d.1) → (∀ d ∈ done, ∀ c ∈ rest, d.1 ≠ c.1) → ∃ u7 u8, forL (gT 2 (gsC (gN 7) (gsC (gN 8) gs0))) b1__law_spans (rest.map prP) [y0, y1, .val (.lst (nL w f)), .val (gapP r), .val (.int k), y5, .own (.lst (nL w (lvU done f (lowG f)))), o7, o8] = .ok .next [y0, y1, .val (.lst (nL w f)), .val (gapP (r.or ((gapL f rest).map fun c => (k, c.1)))), .val (.int k), y5, .own (.lst (nL w (lvU (done ++ rest) f (lowG f)))), u7, u8]
  | [], done, r, o7, o8, _, _, _ => ⟨o7, o8, by rw [List.append_nil]; simp [gapL]⟩
  | c :: rest, done, r, o7, o8, h, ha, hd => by
    rw [List.pairwise_cons] at ha
    have hc := h c List.mem_cons_self
    have hdc : ∀ d ∈ done, d.1 ≠ c.1 := fun d hd' => hd d hd' c List.mem_cons_self
    have nxt := fun r' => lspans_inner w k f y0 y1 y5 rest (done ++ [c]) r' (.val (.int (c.1 : Nat))) (.val (.int (c.2 : Nat))) (fun d hd' => h d (List.mem_cons_of_mem _ hd')) ha.2 (fun d hd' e he => by
      rcases List.mem_append.mp hd' with q | q
      · exact hd d q e (List.mem_cons_of_mem _ he)
      · rw [List.mem_singleton.mp q]
        have := ha.1 e he
        omega)
    rw [List.append_assoc, List.singleton_append] at nxt
    have hg : gT 2 (gsC (gN 7) (gsC (gN 8) gs0)) (prP c) [y0, y1, .val (.lst (nL w f)), .val (gapP r), .val (.int k), y5, .own (.lst (nL w (lvU done f (lowG f)))), o7, o8] = some [y0, y1, .val (.lst (nL w f)), .val (gapP r), .val (.int k), y5, .own (.lst (nL w (lvU done f (lowG f)))), .val (.int (c.1 : Nat)), .val (.int (c.2 : Nat))] := rfl
    have a1 := nL_at w f hc.2
    have a2 := nL_at w f (p := c.2) (by omega)
    have ll := nL_len w (lvU done f (lowG f))
    have ix := ixN_nat hc.2
    rw [gapL_cons]
    by_cases h1 : c.2 + 1 < f c.1
    · rw [if_pos h1]
      have hs := lvU_same (f := f) hdc (by unfold lowG; rw [if_neg (by omega)])
      have n2 : ¬ ((f c.1 : Nat) : Int) - 1 ≤ ((c.2 : Nat) : Int) := by omega
      have n3 : ¬ ((f c.1 : Nat) : Int) ≤ ((c.2 : Nat) : Int) + 1 := by omega
      cases r with
      | none =>
        obtain ⟨u7, u8, e⟩ := nxt (some (k, c.1))
        rw [hs] at e
        refine ⟨u7, u8, ?_⟩
        have eb : b1__law_spans [y0, y1, .val (.lst (nL w f)), .val (gapP none), .val (.int k), y5, .own (.lst (nL w (lvU done f (lowG f)))), .val (.int (c.1 : Nat)), .val (.int (c.2 : Nat))] = .ok .next [y0, y1, .val (.lst (nL w f)), .val (gapP (some (k, c.1))), .val (.int k), y5, .own (.lst (nL w (lvU done f (lowG f)))), .val (.int (c.1 : Nat)), .val (.int (c.2 : Nat))] := by
          unfold gapP
          generalize nL w (lvU done f (lowG f)) = LL at *
          generalize nL w f = FF at *
          simp -implicitDefEqProofs [b1__law_spans, a1, a2, n2, n3, cIsN]
        rw [List.map_cons, forL_cons, hg, Option.elim_some, eb, bind_ok, loopK_next, e]
        rfl
      | some r =>
        obtain ⟨u7, u8, e⟩ := nxt (some r)
        rw [hs] at e
        refine ⟨u7, u8, ?_⟩
        have eb : b1__law_spans [y0, y1, .val (.lst (nL w f)), .val (gapP (some r)), .val (.int k), y5, .own (.lst (nL w (lvU done f (lowG f)))), .val (.int (c.1 : Nat)), .val (.int (c.2 : Nat))] = .ok .next [y0, y1, .val (.lst (nL w f)), .val (gapP (some r)), .val (.int k), y5, .own (.lst (nL w (lvU done f (lowG f)))), .val (.int (c.1 : Nat)), .val (.int (c.2 : Nat))] := by
          unfold gapP
          generalize nL w (lvU done f (lowG f)) = LL at *
          generalize nL w f = FF at *
          simp -implicitDefEqProofs [b1__law_spans, a1, a2, n2, n3, cIsN]
        rw [List.map_cons, forL_cons, hg, Option.elim_some, eb, bind_ok, loopK_next, e]
        rfl
    · rw [if_neg h1]
      obtain ⟨u7, u8, e⟩ := nxt r
      refine ⟨u7, u8, ?_⟩
      have n2 : ((f c.1 : Nat) : Int) - 1 ≤ ((c.2 : Nat) : Int) := by omega
      have n3 : ((f c.1 : Nat) : Int) ≤ ((c.2 : Nat) : Int) + 1 := by omega
      have mn : min ((f c.1 : Nat) : Int) ((f c.2 : Nat) : Int) = ((min (f c.1) (f c.2) : Nat) : Int) := by omega
      have hs := lvU_set (f := f) (done := done) (c := c) (v := min (f c.1) (f c.2)) (by unfold lowG; rw [if_pos (by omega)])
      have st := nL_set w (lvU done f (lowG f)) hc.2 (min (f c.1) (f c.2))
      have eb : b1__law_spans [y0, y1, .val (.lst (nL w f)), .val (gapP r), .val (.int k), y5, .own (.lst (nL w (lvU done f (lowG f)))), .val (.int (c.1 : Nat)), .val (.int (c.2 : Nat))] = .ok .next [y0, y1, .val (.lst (nL w f)), .val (gapP r), .val (.int k), y5, .own (.lst (nL w (lvU (done ++ [c]) f (lowG f)))), .val (.int (c.1 : Nat)), .val (.int (c.2 : Nat))] := by
        rw [← hs, ← st]
        generalize nL w (lvU done f (lowG f)) = LL at *
        generalize nL w f = FF at *
        generalize gapP r = GG at *
        simp -implicitDefEqProofs [b1__law_spans, a1, a2, n2, n3, mn, ll, ix]
      rw [List.map_cons, forL_cons, hg, Option.elim_some, eb, bind_ok, loopK_next, e]
theorem lspans_loop (w : Nat) (y0 y1 : Slot) : ∀ (net : List Lv) (k : Nat) (f : Nat → Nat) (r : Option (Nat × Nat)) (o4 o5 o6 o7 o8 : Slot), NetOk w net → ∃ u4 u5 u6 u7 u8, forL (gT 2 (gsC (gN 4) (gsC (gN 5) gs0))) b2__law_spans (enumP k (net.map lvP)) [y0, y1, .val (.lst (nL w f)), .val (gapP r), o4, o5, o6, o7, o8] = .ok .next [y0, y1, .val (.lst (nL w (lowsN f net))), .val (gapP (r.or (gapN k f net))), u4, u5, u6, u7, u8]
  | [], k, f, r, o4, o5, o6, o7, o8, _ => ⟨o4, o5, o6, o7, o8, by simp [gapN, lowsN, enumP]⟩
  | L :: net, k, f, r, o4, o5, o6, o7, o8, h => by
    have ok := h L List.mem_cons_self
    obtain ⟨u7, u8, e⟩ := lspans_inner w k f y0 y1 (.val (lvP L)) L [] r o7 o8 ok.rng ok.asc (by simp)
    obtain ⟨v4, v5, v6, v7, v8, e2⟩ := lspans_loop w y0 y1 net (k + 1) (lowS f L) (r.or ((gapL f L).map fun c => (k, c.1))) (.val (.int k)) (.val (lvP L)) (.val (.lst (nL w (lowS f L)))) u7 u8 (fun M hM => h M (List.mem_cons_of_mem _ hM))
    refine ⟨v4, v5, v6, v7, v8, ?_⟩
    have hg : gT 2 (gsC (gN 4) (gsC (gN 5) gs0)) (.tup [.int (k : Nat), lvP L]) [y0, y1, .val (.lst (nL w f)), .val (gapP r), o4, o5, o6, o7, o8] = some [y0, y1, .val (.lst (nL w f)), .val (gapP r), .val (.int k), .val (lvP L), o6, o7, o8] := rfl
    have it : itOf (lvP L) = some (L.map prP) := rfl
    have io : itemsOf (.lst (nL w f)) = some (nL w f) := rfl
    have e' : forL (gT 2 (gsC (gN 7) (gsC (gN 8) gs0))) b1__law_spans (L.map prP) [y0, y1, .val (.lst (nL w f)), .val (gapP r), .val (.int k), .val (lvP L), .own (.lst (nL w f)), o7, o8] = .ok .next [y0, y1, .val (.lst (nL w f)), .val (gapP (r.or ((gapL f L).map fun c => (k, c.1)))), .val (.int k), .val (lvP L), .own (.lst (nL w (lowS f L))), u7, u8] := e
    have eb : b2__law_spans [y0, y1, .val (.lst (nL w f)), .val (gapP r), .val (.int k), .val (lvP L), o6, o7, o8] = .ok .next [y0, y1, .val (.lst (nL w (lowS f L))), .val (gapP (r.or ((gapL f L).map fun c => (k, c.1)))), .val (.int k), .val (lvP L), .val (.lst (nL w (lowS f L))), u7, u8] := by
      clear e2 e
      generalize gapP (r.or ((gapL f L).map fun c => (k, c.1))) = GG' at *
      generalize gapP r = GG at *
      generalize lvP L = LP at *
      generalize nL w (lowS f L) = FF' at *
      generalize nL w f = FF at *
      simp -implicitDefEqProofs [b2__law_spans, it, io, e']
    have eg : (r.or ((gapL f L).map fun c => (k, c.1))).or (gapN (k + 1) (lowS f L) net) = r.or (gapN k f (L :: net)) := by
      conv => rhs; unfold gapN
      cases r <;> cases gapL f L <;> simp
    rw [List.map_cons, enumP, forL_cons, hg, Option.elim_some, eb, bind_ok, loopK_next, e2, eg]
    rfl
theorem lspans_e {w : Nat} (h1 : 1 ≤ w) (h2 : w ≤ 64) {net : List Lv} (h : NetOk w net) : F__law_spans [.int w, netP net] = .ret (.tup [.tup (nL w (lowsN id net)), gapP (gapN 0 id net)]) [] := by
  obtain ⟨u4, u5, u6, u7, u8, e⟩ := lspans_loop w (.val (.int w)) (.val (netP net)) net 0 id none .unb .unb .unb .unb .unb h
  rw [Option.none_or] at e
  have en : pEnumA [netP net] = some (enumP 0 (net.map lvP)) := pEnumA_t
  have rg : rgP (.int 0) (.int (w : Int)) = some (nL w id) := by rw [rgP_of_le (by omega) (by omega) (by omega) (by omega), ← rng_nL]; simp
  have e' : forL (gT 2 (gsC (gN 4) (gsC (gN 5) gs0))) b2__law_spans (enumP 0 (net.map lvP)) [.val (.int w), .val (netP net), .val (.lst (nL w id)), .val .non, .unb, .unb, .unb, .unb, .unb] = .ok .next [.val (.int w), .val (netP net), .val (.lst (nL w (lowsN id net))), .val (gapP (gapN 0 id net)), u4, u5, u6, u7, u8] := e
  generalize gapP (gapN 0 id net) = GG at *
  generalize netP net = N at *
  generalize nL w (lowsN id net) = A at *
  generalize nL w id = B at *
  simp only [F__law_spans, d__law_spans]
  simp -implicitDefEqProofs [en, rg, e']
end K39

set_option Elab.async false
set_option linter.all false
set_option maxRecDepth 100000
namespace K39
open PF PF.Bt PF.Nt PySem L2
theorem chw {w : Nat} (h1 : 1 ≤ w) (h2 : w ≤ 64) {x : Int} (x0 : 0 ≤ x) (x1 : x < 2 ^ w) : F_check_word [.int w, .int x] = .ret .non [] := check_word_w (by omega) (by omega) x0 (by simpa using x1)
theorem pA (b c : Bool) : pAnd (.int (bI b)) (.int (bI c)) = some (.int (bI (b && c))) := by rw [← bI_and]; rfl
theorem pO (b c : Bool) : pOr (.int (bI b)) (.int (bI c)) = some (.int (bI (b || c))) := by rw [← bI_or]; rfl
theorem pX (b c : Bool) : pXor (.int (bI b)) (.int (bI c)) = some (.int (bI (Bool.xor b c))) := by rw [← bI_xor]; rfl
theorem mk_snoc (w : Nat) (m q : Nat → Bool) (done : Lv) (c : Nat × Nat) (hc : c.1 < w) : (bL w (lvU done m (mkG m q))).set c.1 (.int (bI (m c.1 || (q c.1 && m c.2)))) = bL w (lvU (done ++ [c]) m (mkG m q)) := by
  rw [bL_set w _ hc, lvU_snoc]
  rfl
theorem ps_snoc (w : Nat) (q : Nat → Bool) (done : Lv) (c : Nat × Nat) (hc : c.1 < w) : (bL w (lvU done q (psG q))).set c.1 (.int (bI (q c.1 && q c.2))) = bL w (lvU (done ++ [c]) q (psG q)) := by
  rw [bL_set w _ hc, lvU_snoc]
  rfl
theorem sum_inner (w : Nat) (m q : Nat → Bool) (y0 y1 y2 y3 y4 y5 y8 y13 y14 : Slot) : ∀ (rest done : Lv) (o11 o12 : Slot), (∀ c ∈ rest, c.2 < c.1 ∧ c.1 < w) → ∃ u11 u12, forL (gT 2 (gsC (gN 11) (gsC (gN 12) gs0))) b1_net_sum (rest.map prP) [y0, y1, y2, y3, y4, y5, .val (.lst (bL w m)), .val (.lst (bL w q)), y8, .own (.lst (bL w (lvU done m (mkG m q)))), .own (.lst (bL w (lvU done q (psG q)))), o11, o12, y13, y14] = .ok .next [y0, y1, y2, y3, y4, y5, .val (.lst (bL w m)), .val (.lst (bL w q)), y8, .own (.lst (bL w (lvU (done ++ rest) m (mkG m q)))), .own (.lst (bL w (lvU (done ++ rest) q (psG q)))), u11, u12, y13, y14]
  | [], done, o11, o12, _ => ⟨o11, o12, by rw [List.append_nil]; rfl⟩
  | c :: rest, done, o11, o12, h => by
    have hc := h c List.mem_cons_self
    obtain ⟨u11, u12, e⟩ := sum_inner w m q y0 y1 y2 y3 y4 y5 y8 y13 y14 rest (done ++ [c]) (.val (.int (c.1 : Nat))) (.val (.int (c.2 : Nat))) (fun d hd' => h d (List.mem_cons_of_mem _ hd'))
    rw [List.append_assoc, List.singleton_append] at e
    refine ⟨u11, u12, ?_⟩
    have hg : gT 2 (gsC (gN 11) (gsC (gN 12) gs0)) (prP c) [y0, y1, y2, y3, y4, y5, .val (.lst (bL w m)), .val (.lst (bL w q)), y8, .own (.lst (bL w (lvU done m (mkG m q)))), .own (.lst (bL w (lvU done q (psG q)))), o11, o12, y13, y14] = some [y0, y1, y2, y3, y4, y5, .val (.lst (bL w m)), .val (.lst (bL w q)), y8, .own (.lst (bL w (lvU done m (mkG m q)))), .own (.lst (bL w (lvU done q (psG q)))), .val (.int (c.1 : Nat)), .val (.int (c.2 : Nat)), y13, y14] := rfl
    have a1 := bL_at w m hc.2
    have a2 := bL_at w m (p := c.2) (by omega)
    have a3 := bL_at w q hc.2
    have a4 := bL_at w q (p := c.2) (by omega)
    have l1 := bL_len w (lvU done m (mkG m q))
    have l2 := bL_len w (lvU done q (psG q))
    have ix := ixN_nat hc.2
    have p1 := bI_and (q c.1) (m c.2)
    have p2 := bI_or (m c.1) (q c.1 && m c.2)
    have p3 := bI_and (q c.1) (q c.2)
    have s1 := mk_snoc w m q done c hc.2
    have s2 := ps_snoc w q done c hc.2
    have eb : b1_net_sum [y0, y1, y2, y3, y4, y5, .val (.lst (bL w m)), .val (.lst (bL w q)), y8, .own (.lst (bL w (lvU done m (mkG m q)))), .own (.lst (bL w (lvU done q (psG q)))), .val (.int (c.1 : Nat)), .val (.int (c.2 : Nat)), y13, y14] = .ok .next [y0, y1, y2, y3, y4, y5, .val (.lst (bL w m)), .val (.lst (bL w q)), y8, .own (.lst (bL w (lvU (done ++ [c]) m (mkG m q)))), .own (.lst (bL w (lvU (done ++ [c]) q (psG q)))), .val (.int (c.1 : Nat)), .val (.int (c.2 : Nat)), y13, y14] := by
      rw [← s1, ← s2]
      clear s1 s2 e
      generalize bL w (lvU done m (mkG m q)) = LL at *
      generalize bL w (lvU done q (psG q)) = PP at *
      generalize bL w m = MM at *
      generalize bL w q = QQ at *
      generalize bI (m c.1 || (q c.1 && m c.2)) = B1 at *
      generalize bI (q c.1 && m c.2) = B2 at *
      generalize bI (q c.1 && q c.2) = B3 at *
      generalize bI (m c.1) = B4 at *
      generalize bI (m c.2) = B5 at *
      generalize bI (q c.1) = B6 at *
      generalize bI (q c.2) = B7 at *
      simp -implicitDefEqProofs [b1_net_sum, a1, a2, a3, a4, l1, l2, ix, p1, p2, p3]
    rw [List.map_cons, forL_cons, hg, Option.elim_some, eb, bind_ok, loopK_next, e]
theorem sum_loop (w : Nat) (y0 y1 y2 y3 y4 y5 y13 y14 : Slot) : ∀ (net : List Lv) (s : (Nat → Bool) × (Nat → Bool)) (o8 o9 o10 o11 o12 : Slot), NetOk w net → ∃ u8 u9 u10 u11 u12, forL (gN 8) b2_net_sum (net.map lvP) [y0, y1, y2, y3, y4, y5, .val (.lst (bL w s.1)), .val (.lst (bL w s.2)), o8, o9, o10, o11, o12, y13, y14] = .ok .next [y0, y1, y2, y3, y4, y5, .val (.lst (bL w (runN s net).1)), .val (.lst (bL w (runN s net).2)), u8, u9, u10, u11, u12, y13, y14]
  | [], s, o8, o9, o10, o11, o12, _ => ⟨o8, o9, o10, o11, o12, rfl⟩
  | L :: net, s, o8, o9, o10, o11, o12, h => by
    have ok := h L List.mem_cons_self
    obtain ⟨u11, u12, e⟩ := sum_inner w s.1 s.2 y0 y1 y2 y3 y4 y5 (.val (lvP L)) y13 y14 L [] o11 o12 ok.rng
    obtain ⟨v8, v9, v10, v11, v12, e2⟩ := sum_loop w y0 y1 y2 y3 y4 y5 y13 y14 net (sumS s L) (.val (lvP L)) (.val (.lst (bL w (sumS s L).1))) (.val (.lst (bL w (sumS s L).2))) u11 u12 (fun M hM => h M (List.mem_cons_of_mem _ hM))
    refine ⟨v8, v9, v10, v11, v12, ?_⟩
    have hg : gN 8 (lvP L) [y0, y1, y2, y3, y4, y5, .val (.lst (bL w s.1)), .val (.lst (bL w s.2)), o8, o9, o10, o11, o12, y13, y14] = some [y0, y1, y2, y3, y4, y5, .val (.lst (bL w s.1)), .val (.lst (bL w s.2)), .val (lvP L), o9, o10, o11, o12, y13, y14] := rfl
    have it : itOf (lvP L) = some (L.map prP) := rfl
    have io1 : itemsOf (.lst (bL w s.1)) = some (bL w s.1) := rfl
    have io2 : itemsOf (.lst (bL w s.2)) = some (bL w s.2) := rfl
    have e' : forL (gT 2 (gsC (gN 11) (gsC (gN 12) gs0))) b1_net_sum (L.map prP) [y0, y1, y2, y3, y4, y5, .val (.lst (bL w s.1)), .val (.lst (bL w s.2)), .val (lvP L), .own (.lst (bL w s.1)), .own (.lst (bL w s.2)), o11, o12, y13, y14] = .ok .next [y0, y1, y2, y3, y4, y5, .val (.lst (bL w s.1)), .val (.lst (bL w s.2)), .val (lvP L), .own (.lst (bL w (sumS s L).1)), .own (.lst (bL w (sumS s L).2)), u11, u12, y13, y14] := e
    have eb : b2_net_sum [y0, y1, y2, y3, y4, y5, .val (.lst (bL w s.1)), .val (.lst (bL w s.2)), .val (lvP L), o9, o10, o11, o12, y13, y14] = .ok .next [y0, y1, y2, y3, y4, y5, .val (.lst (bL w (sumS s L).1)), .val (.lst (bL w (sumS s L).2)), .val (lvP L), .val (.lst (bL w (sumS s L).1)), .val (.lst (bL w (sumS s L).2)), u11, u12, y13, y14] := by
      clear e2 e
      generalize lvP L = LP at *
      generalize bL w (sumS s L).1 = M' at *
      generalize bL w (sumS s L).2 = Q' at *
      generalize bL w s.1 = M at *
      generalize bL w s.2 = Q at *
      simp -implicitDefEqProofs [b2_net_sum, it, io1, io2, e', putS]
    rw [List.map_cons, forL_cons, hg, Option.elim_some, eb, bind_ok, loopK_next, e2]
    rfl
theorem dig_bI (b : Bool) (j : Nat) : dig 2 (bI b) j = if j = 0 then bI b else 0 := by
  by_cases h : j = 0
  · subst h
    rw [if_pos rfl]
    unfold dig
    cases b <;> simp [bI]
  · rw [if_neg h]
    have := bI_bit b
    exact dig_big (w := 1) (by omega) (by simp; omega) (by omega)
theorem found_loop (w : Nat) (hw : w ≤ 64) (a b m : Nat → Bool) (p0 : Int) (h0 : 0 ≤ p0) (h1 : p0 < 2 ^ w) (hd : ∀ i, i < w → dig 2 p0 i = bI (Bool.xor (a i) (b i))) (y0 y1 y2 y3 y4 y5 y6 y7 y8 y9 y10 o11 y12 o14 : Slot) : ∃ u11 u14, forL (gT 2 (gsC (gN 11) (gsC (gN 14) gs0))) b3_net_sum (enumP 0 (bL w m)) [y0, y1, y2, y3, y4, y5, y6, y7, y8, y9, y10, o11, y12, .val (.int p0), o14] = .ok .next [y0, y1, y2, y3, y4, y5, y6, y7, y8, y9, y10, u11, y12, .val (.int (sumOf w a b m)), u14] := by
  have lt : (2 : Int) ^ w < 2 ^ (w + 1) := two_lt (by omega)
  obtain ⟨ρ', e, v, u11, u14, v0, v1, vd, rfl⟩ := forL_enum (g := gT 2 (gsC (gN 11) (gsC (gN 14) gs0))) (b := b3_net_sum) (fun k ρ => ∃ (v : Int) (u11 u14 : Slot), 0 ≤ v ∧ v < 2 ^ (w + 1) ∧ (∀ i, i < w + 1 → dig 2 v i = (dig 2 p0 i + (if 1 ≤ i ∧ i ≤ k then bI (m (i - 1)) else 0)) % 2) ∧ ρ = [y0, y1, y2, y3, y4, y5, y6, y7, y8, y9, y10, u11, y12, .val (.int v), u14]) (bL w m) [y0, y1, y2, y3, y4, y5, y6, y7, y8, y9, y10, o11, y12, .val (.int p0), o14] ⟨p0, o11, o14, h0, by omega, fun i _ => by
      rw [if_neg (by omega)]
      have := dig_bit p0 i
      omega, rfl⟩ (by
    rintro k x ρ hx ⟨v, u11, u14, v0, v1, vd, rfl⟩
    have hk : k < w := by
      have := List.getElem?_eq_some_iff.mp hx
      obtain ⟨h, _⟩ := this
      rwa [bL_len] at h
    have hxe : x = .int (bI (m k)) := by
      have := bL_at w m hk
      rw [atI_of, hx] at this
      exact Option.some.inj this
    subst hxe
    have hb := bI_bit (m k)
    have sh : pShl (.int (bI (m k))) (.int ((k : Int) + 1)) = some (.int (bI (m k) * 2 ^ (k + 1))) := by
      rw [pShl_p (m := 1) (by omega) (by simp; omega) (by omega) (by omega), show ((k : Int) + 1).toNat = k + 1 by omega]
    have pk := two_pos (k + 1)
    have lk : (2 : Int) ^ (k + 1) ≤ 2 ^ w := two_le (by omega)
    have r0 : 0 ≤ bI (m k) * 2 ^ (k + 1) ∧ bI (m k) * 2 ^ (k + 1) < 2 ^ (w + 1) := by
      rcases hb with h | h <;> rw [h]
      · rw [Int.zero_mul]; omega
      · rw [Int.one_mul]; omega
    have rx := xor_word v0 v1 r0.1 r0.2
    refine ⟨[y0, y1, y2, y3, y4, y5, y6, y7, y8, y9, y10, .val (.int (k : Nat)), y12, .val (.int v), .val (.int (bI (m k)))], [y0, y1, y2, y3, y4, y5, y6, y7, y8, y9, y10, .val (.int (k : Nat)), y12, .val (.int (Builtin.bitXor v (bI (m k) * 2 ^ (k + 1)))), .val (.int (bI (m k)))], rfl, ?_, _, _, _, rx.1, rx.2, ?_, rfl⟩
    · generalize bI (m k) * 2 ^ (k + 1) = S at *
      generalize bI (m k) = B at *
      simp -implicitDefEqProofs [b3_net_sum, sh]
    · intro i hi
      rw [dig_xor, vd i hi, dig_shl, dig_bI]
      have := dig_bit p0 i
      by_cases g1 : i < k + 1
      · rw [if_pos g1]
        by_cases g2 : 1 ≤ i
        · rw [if_pos ⟨g2, by omega⟩, if_pos ⟨g2, by omega⟩]
          have := bI_bit (m (i - 1))
          omega
        · rw [if_neg (by omega), if_neg (by omega)]
          omega
      · rw [if_neg g1]
        by_cases g2 : i = k + 1
        · rw [if_neg (by omega), if_pos (by omega), if_pos ⟨by omega, by omega⟩, show i - 1 = k by omega]
          omega
        · rw [if_neg (by omega), if_neg (by omega), if_neg (by omega)]
          omega)
  refine ⟨u11, u14, ?_⟩
  rw [e]
  have ev : v = sumOf w a b m := by
    refine eq_wordF v0 v1 fun i hi => ?_
    rw [vd i hi]
    unfold sumD
    by_cases g : i < w
    · rw [if_pos g, hd i g]
      cases i with
      | zero => rw [if_neg (by omega)]; simp only [cmk]; cases a 0 <;> cases b 0 <;> decide
      | succ i =>
        rw [if_pos ⟨by omega, by rw [bL_len]; omega⟩]
        simp only [cmk, Nat.add_sub_cancel]
        cases a (i + 1) <;> cases b (i + 1) <;> cases m i <;> decide
    · have hi' : i = w := by omega
      rw [if_neg g, hi', dig_big h0 h1 (Nat.le_refl _)]
      cases w with
      | zero => rw [if_neg (by omega)]; rfl
      | succ w =>
        rw [if_pos ⟨by omega, by rw [bL_len]; omega⟩]
        simp only [cmk, Nat.add_sub_cancel]
        cases m w <;> decide
  rw [ev]
/-! ## bits of words as lists -/
theorem bits_and (x y : Int) (i : Nat) : dig 2 (Builtin.bitAnd x y) i = bI (bitF x i && bitF y i) := by
  rw [dig_and, ← bitF_e x, ← bitF_e y, ← bI_and]
  have h1 := bI_bit (bitF x i)
  have h2 := bI_bit (bitF y i)
  cases bitF x i <;> cases bitF y i <;> decide
theorem bits_xor (x y : Int) (i : Nat) : dig 2 (Builtin.bitXor x y) i = bI (Bool.xor (bitF x i) (bitF y i)) := by
  rw [dig_xor, ← bitF_e x, ← bitF_e y]
  cases bitF x i <;> cases bitF y i <;> decide
theorem net_sum_e {w : Nat} (h1 : 1 ≤ w) (h2 : w ≤ 64) {net : List Lv} (h : NetOk w net) (hl : net.length ≤ 200) {x y : Int} (x0 : 0 ≤ x) (x1 : x < 2 ^ w) (y0 : 0 ≤ y) (y1 : y < 2 ^ w) : F_net_sum [.int w, netP net, .int x, .int y] = .ret (.int (netSum w net x y)) [] := by
  have c := check_net_ok h1 h2 h hl
  have cx := chw h1 h2 x0 x1
  have cy := chw h1 h2 y0 y1
  have ra := Bw.rng bw_and x0 x1 y0 y1
  have rx := xor_word x0 x1 y0 y1
  have iw : i62 (w : Int) = true := i62_of (by omega) (by omega)
  have e6 := lcL_map (g := gN 11) (e := dOp pAnd (dOp pShr (dV 4) (dV 11)) (dC (.int 1))) (vs := [11]) (fun q => match q with | .int i => PV.int (dig 2 (Builtin.bitAnd x y) i.toNat) | _ => .non) [.val (.int w), .val (netP net), .val (.int x), .val (.int y), .val (.int (Builtin.bitAnd x y)), .val (.int (Builtin.bitXor x y)), .unb, .unb, .unb, .unb, .unb, .unb, .unb, .unb, .unb] (rngP 0 w) [] (by rw [rngP_len]; simp; omega) (by
    intro q hq
    obtain ⟨i, rfl, i0, i1⟩ := rngP_mem hq
    obtain ⟨n, rfl⟩ := Int.eq_ofNat_of_zero_le i0
    refine ⟨_, [.val (.int w), .val (netP net), .val (.int x), .val (.int y), .val (.int (Builtin.bitAnd x y)), .val (.int (Builtin.bitXor x y)), .unb, .unb, .unb, .unb, .unb, .val (.int (n : Nat)), .unb, .unb, .unb], rfl, ?_, rfl⟩
    have s := shr_div (x := Builtin.bitAnd x y) (k := (n : Int)) (by omega)
    have b := bit_and' ra.1 n
    rw [Int.toNat_natCast] at s
    generalize netP net = N at *
    generalize Builtin.bitAnd x y = A at *
    generalize Builtin.bitXor x y = X at *
    simp -implicitDefEqProofs [s, b])
  have f6 : (rngP 0 w).map (fun q => match q with | .int i => PV.int (dig 2 (Builtin.bitAnd x y) i.toNat) | _ => .non) = bL w (startS (bitF x) (bitF y)).1 := by
    unfold rngP bL
    rw [List.map_map]
    apply List.map_congr_left
    intro i _
    simp only [Function.comp, startS]
    rw [show ((0 : Int) + (i : Nat)).toNat = i by omega, bits_and]
  rw [List.nil_append, f6] at e6
  have e7 := lcL_map (g := gN 11) (e := dOp pAnd (dOp pShr (dV 5) (dV 11)) (dC (.int 1))) (vs := [11]) (fun q => match q with | .int i => PV.int (dig 2 (Builtin.bitXor x y) i.toNat) | _ => .non) [.val (.int w), .val (netP net), .val (.int x), .val (.int y), .val (.int (Builtin.bitAnd x y)), .val (.int (Builtin.bitXor x y)), .val (.lst (bL w (startS (bitF x) (bitF y)).1)), .unb, .unb, .unb, .unb, .unb, .unb, .unb, .unb] (rngP 0 w) [] (by rw [rngP_len]; simp; omega) (by
    intro q hq
    obtain ⟨i, rfl, i0, i1⟩ := rngP_mem hq
    obtain ⟨n, rfl⟩ := Int.eq_ofNat_of_zero_le i0
    refine ⟨_, [.val (.int w), .val (netP net), .val (.int x), .val (.int y), .val (.int (Builtin.bitAnd x y)), .val (.int (Builtin.bitXor x y)), .val (.lst (bL w (startS (bitF x) (bitF y)).1)), .unb, .unb, .unb, .unb, .val (.int (n : Nat)), .unb, .unb, .unb], rfl, ?_, rfl⟩
    have s := shr_div (x := Builtin.bitXor x y) (k := (n : Int)) (by omega)
    have b := bit_and' rx.1 n
    rw [Int.toNat_natCast] at s
    generalize bL w (startS (bitF x) (bitF y)).1 = M at *
    generalize netP net = N at *
    generalize Builtin.bitAnd x y = A at *
    generalize Builtin.bitXor x y = X at *
    simp -implicitDefEqProofs [s, b])
  have f7 : (rngP 0 w).map (fun q => match q with | .int i => PV.int (dig 2 (Builtin.bitXor x y) i.toNat) | _ => .non) = bL w (startS (bitF x) (bitF y)).2 := by
    unfold rngP bL
    rw [List.map_map]
    apply List.map_congr_left
    intro i _
    simp only [Function.comp, startS]
    rw [show ((0 : Int) + (i : Nat)).toNat = i by omega, bits_xor]
  rw [List.nil_append, f7] at e7
  obtain ⟨u8, u9, u10, u11, u12, e8⟩ := sum_loop w (.val (.int w)) (.val (netP net)) (.val (.int x)) (.val (.int y)) (.val (.int (Builtin.bitAnd x y))) (.val (.int (Builtin.bitXor x y))) .unb .unb net (startS (bitF x) (bitF y)) .unb .unb .unb .unb .unb h
  obtain ⟨v11, v14, e9⟩ := found_loop w h2 (bitF x) (bitF y) (runN (startS (bitF x) (bitF y)) net).1 (Builtin.bitXor x y) rx.1 rx.2 (fun i _ => bits_xor x y i) (.val (.int w)) (.val (netP net)) (.val (.int x)) (.val (.int y)) (.val (.int (Builtin.bitAnd x y))) (.val (.int (Builtin.bitXor x y))) (.val (.lst (bL w (runN (startS (bitF x) (bitF y)) net).1))) (.val (.lst (bL w (runN (startS (bitF x) (bitF y)) net).2))) u8 u9 u10 u11 u12 .unb
  have it : itOf (netP net) = some (net.map lvP) := rfl
  unfold netSum
  clear f6 f7
  generalize sumOf w (bitF x) (bitF y) (runN (startS (bitF x) (bitF y)) net).1 = SS at *
  generalize bL w (runN (startS (bitF x) (bitF y)) net).1 = M' at *
  generalize bL w (runN (startS (bitF x) (bitF y)) net).2 = Q' at *
  generalize bL w (startS (bitF x) (bitF y)).1 = M at *
  generalize bL w (startS (bitF x) (bitF y)).2 = Q at *
  generalize netP net = N at *
  simp only [F_net_sum, d_net_sum]
  simp -implicitDefEqProofs [c, cx, cy, iw, e6, e7, it, e8, e9]
end K39

set_option Elab.async false
set_option linter.all false
set_option maxRecDepth 100000
namespace K39
open PF PF.Bt PF.Nt PySem L2
/-! ## the law's sum -/
theorem lsum_inner (w : Nat) (m q : Nat → Bool) (y0 y1 y2 y3 y6 y7 y12 y13 y14 : Slot) : ∀ (rest done : Lv) (o10 o11 : Slot), (∀ c ∈ rest, c.2 < c.1 ∧ c.1 < w) → ∃ u10 u11, forL (gT 2 (gsC (gN 10) (gsC (gN 11) gs0))) b1__law_sum (rest.map prP) [y0, y1, y2, y3, .own (.lst (bL w (lvU done m (mkG m q)))), .own (.lst (bL w (lvU done q (psG q)))), y6, y7, .val (.lst (bL w m)), .val (.lst (bL w q)), o10, o11, y12, y13, y14] = .ok .next [y0, y1, y2, y3, .own (.lst (bL w (lvU (done ++ rest) m (mkG m q)))), .own (.lst (bL w (lvU (done ++ rest) q (psG q)))), y6, y7, .val (.lst (bL w m)), .val (.lst (bL w q)), u10, u11, y12, y13, y14]
  | [], done, o11, o12, _ => ⟨o11, o12, by rw [List.append_nil]; rfl⟩
  | c :: rest, done, o11, o12, h => by
    have hc := h c List.mem_cons_self
    obtain ⟨u11, u12, e⟩ := lsum_inner w m q y0 y1 y2 y3 y6 y7 y12 y13 y14 rest (done ++ [c]) (.val (.int (c.1 : Nat))) (.val (.int (c.2 : Nat))) (fun d hd' => h d (List.mem_cons_of_mem _ hd'))
    rw [List.append_assoc, List.singleton_append] at e
    refine ⟨u11, u12, ?_⟩
    have hg : gT 2 (gsC (gN 10) (gsC (gN 11) gs0)) (prP c) [y0, y1, y2, y3, .own (.lst (bL w (lvU done m (mkG m q)))), .own (.lst (bL w (lvU done q (psG q)))), y6, y7, .val (.lst (bL w m)), .val (.lst (bL w q)), o11, o12, y12, y13, y14] = some [y0, y1, y2, y3, .own (.lst (bL w (lvU done m (mkG m q)))), .own (.lst (bL w (lvU done q (psG q)))), y6, y7, .val (.lst (bL w m)), .val (.lst (bL w q)), .val (.int (c.1 : Nat)), .val (.int (c.2 : Nat)), y12, y13, y14] := rfl
    have a1 := bL_at w m hc.2
    have a2 := bL_at w m (p := c.2) (by omega)
    have a3 := bL_at w q hc.2
    have a4 := bL_at w q (p := c.2) (by omega)
    have l1 := bL_len w (lvU done m (mkG m q))
    have l2 := bL_len w (lvU done q (psG q))
    have ix := ixN_nat hc.2
    have p1 := bI_and (q c.1) (m c.2)
    have p2 := bI_or (m c.1) (q c.1 && m c.2)
    have p3 := bI_and (q c.1) (q c.2)
    have s1 := mk_snoc w m q done c hc.2
    have s2 := ps_snoc w q done c hc.2
    have eb : b1__law_sum [y0, y1, y2, y3, .own (.lst (bL w (lvU done m (mkG m q)))), .own (.lst (bL w (lvU done q (psG q)))), y6, y7, .val (.lst (bL w m)), .val (.lst (bL w q)), .val (.int (c.1 : Nat)), .val (.int (c.2 : Nat)), y12, y13, y14] = .ok .next [y0, y1, y2, y3, .own (.lst (bL w (lvU (done ++ [c]) m (mkG m q)))), .own (.lst (bL w (lvU (done ++ [c]) q (psG q)))), y6, y7, .val (.lst (bL w m)), .val (.lst (bL w q)), .val (.int (c.1 : Nat)), .val (.int (c.2 : Nat)), y12, y13, y14] := by
      rw [← s1, ← s2]
      clear s1 s2 e
      generalize bL w (lvU done m (mkG m q)) = LL at *
      generalize bL w (lvU done q (psG q)) = PP at *
      generalize bL w m = MM at *
      generalize bL w q = QQ at *
      generalize bI (m c.1 || (q c.1 && m c.2)) = B1 at *
      generalize bI (q c.1 && m c.2) = B2 at *
      generalize bI (q c.1 && q c.2) = B3 at *
      generalize bI (m c.1) = B4 at *
      generalize bI (m c.2) = B5 at *
      generalize bI (q c.1) = B6 at *
      generalize bI (q c.2) = B7 at *
      simp -implicitDefEqProofs [b1__law_sum, a1, a2, a3, a4, l1, l2, ix, p1, p2, p3]
    rw [List.map_cons, forL_cons, hg, Option.elim_some, eb, bind_ok, loopK_next, e]
theorem lsum_loop (w : Nat) (hw : w ≤ 64) (y0 y1 y2 y3 y6 y12 y13 y14 : Slot) : ∀ (net : List Lv) (s : (Nat → Bool) × (Nat → Bool)) (o7 o8 o9 o10 o11 : Slot), NetOk w net → ∃ u7 u8 u9 u10 u11, forL (gN 7) b2__law_sum (net.map lvP) [y0, y1, y2, y3, .own (.lst (bL w s.1)), .own (.lst (bL w s.2)), y6, o7, o8, o9, o10, o11, y12, y13, y14] = .ok .next [y0, y1, y2, y3, .own (.lst (bL w (runN s net).1)), .own (.lst (bL w (runN s net).2)), y6, u7, u8, u9, u10, u11, y12, y13, y14]
  | [], s, o8, o9, o10, o11, o12, _ => ⟨o8, o9, o10, o11, o12, rfl⟩
  | L :: net, s, o7, o8, o9, o10, o11, h => by
    have ok := h L List.mem_cons_self
    obtain ⟨u10, u11, e⟩ := lsum_inner w s.1 s.2 y0 y1 y2 y3 y6 (.val (lvP L)) y12 y13 y14 L [] o10 o11 ok.rng
    obtain ⟨v7, v8, v9, v10, v11, e2⟩ := lsum_loop w hw y0 y1 y2 y3 y6 y12 y13 y14 net (sumS s L) (.val (lvP L)) (.val (.lst (bL w s.1))) (.val (.lst (bL w s.2))) u10 u11 (fun M hM => h M (List.mem_cons_of_mem _ hM))
    refine ⟨v7, v8, v9, v10, v11, ?_⟩
    have hg : gN 7 (lvP L) [y0, y1, y2, y3, .own (.lst (bL w s.1)), .own (.lst (bL w s.2)), y6, o7, o8, o9, o10, o11, y12, y13, y14] = some [y0, y1, y2, y3, .own (.lst (bL w s.1)), .own (.lst (bL w s.2)), y6, .val (lvP L), o8, o9, o10, o11, y12, y13, y14] := rfl
    have it : itOf (lvP L) = some (L.map prP) := rfl
    have io1 : itemsOf (.lst (bL w s.1)) = some (bL w s.1) := rfl
    have io2 : itemsOf (.lst (bL w s.2)) = some (bL w s.2) := rfl
    have n1 : (bL w s.1).length ≤ 16777216 := by rw [bL_len]; omega
    have n2 : (bL w s.2).length ≤ 16777216 := by rw [bL_len]; omega
    have e' : forL (gT 2 (gsC (gN 10) (gsC (gN 11) gs0))) b1__law_sum (L.map prP) [y0, y1, y2, y3, .own (.lst (bL w s.1)), .own (.lst (bL w s.2)), y6, .val (lvP L), .val (.lst (bL w s.1)), .val (.lst (bL w s.2)), o10, o11, y12, y13, y14] = .ok .next [y0, y1, y2, y3, .own (.lst (bL w (sumS s L).1)), .own (.lst (bL w (sumS s L).2)), y6, .val (lvP L), .val (.lst (bL w s.1)), .val (.lst (bL w s.2)), u10, u11, y12, y13, y14] := e
    have eb : b2__law_sum [y0, y1, y2, y3, .own (.lst (bL w s.1)), .own (.lst (bL w s.2)), y6, .val (lvP L), o8, o9, o10, o11, y12, y13, y14] = .ok .next [y0, y1, y2, y3, .own (.lst (bL w (sumS s L).1)), .own (.lst (bL w (sumS s L).2)), y6, .val (lvP L), .val (.lst (bL w s.1)), .val (.lst (bL w s.2)), u10, u11, y12, y13, y14] := by
      clear e2 e
      generalize lvP L = LP at *
      generalize bL w (sumS s L).1 = M' at *
      generalize bL w (sumS s L).2 = Q' at *
      generalize bL w s.1 = M at *
      generalize bL w s.2 = Q at *
      simp -implicitDefEqProofs [b2__law_sum, it, io1, io2, n1, n2, e', putS]
    rw [List.map_cons, forL_cons, hg, Option.elim_some, eb, bind_ok, loopK_next, e2]
    rfl
theorem total_loop (w : Nat) (h1 : 1 ≤ w) (hw : w ≤ 64) (a b m : Nat → Bool) (y1 y2 y3 y5 y7 y8 y9 y10 y11 : Slot) : ∃ u13 u14, forL (gN 13) b3__law_sum (rngP 0 w) [.val (.int w), y1, y2, y3, .own (.lst (bL w m)), y5, .val (.lst (bL w (fun i => Bool.xor (a i) (b i)))), y7, y8, y9, y10, y11, .val (.int (bI (m (w - 1)) * 2 ^ w)), .unb, .unb] = .ok .next [.val (.int w), y1, y2, y3, .own (.lst (bL w m)), y5, .val (.lst (bL w (fun i => Bool.xor (a i) (b i)))), y7, y8, y9, y10, y11, .val (.int (sumOf w a b m)), u13, u14] := by
  obtain ⟨ρ', e, u13, u14, rfl⟩ := forL_rng (g := gN 13) (b := b3__law_sum) (fun k ρ => ∃ u13 u14, ρ = [.val (.int w), y1, y2, y3, .own (.lst (bL w m)), y5, .val (.lst (bL w (fun i => Bool.xor (a i) (b i)))), y7, y8, y9, y10, y11, .val (.int (bI (m (w - 1)) * 2 ^ w + wordF k (fun i => bI (Bool.xor (Bool.xor (a i) (b i)) (cmk m i))))), u13, u14]) 0 w [.val (.int w), y1, y2, y3, .own (.lst (bL w m)), y5, .val (.lst (bL w (fun i => Bool.xor (a i) (b i)))), y7, y8, y9, y10, y11, .val (.int (bI (m (w - 1)) * 2 ^ w)), .unb, .unb] ⟨.unb, .unb, by simp [wordF, val]⟩ (by
    rintro k ρ hk ⟨u13, u14, rfl⟩
    have ap := bL_at w (fun i => Bool.xor (a i) (b i)) hk
    have px := bI_xor (Bool.xor (a k) (b k)) (cmk m k)
    have hb := bI_bit (Bool.xor (Bool.xor (a k) (b k)) (cmk m k))
    have sh : pShl (.int (bI (Bool.xor (Bool.xor (a k) (b k)) (cmk m k)))) (.int (k : Nat)) = some (.int (bI (Bool.xor (Bool.xor (a k) (b k)) (cmk m k)) * 2 ^ k)) := by
      rw [pShl_p (m := 1) (by omega) (by have q : (2 : Int) ^ 1 = 2 := rfl; omega) (by omega) (by omega), Int.toNat_natCast]
    have ws := wordF_succ k (fun i => bI (Bool.xor (Bool.xor (a i) (b i)) (cmk m i)))
    have ac : (0 < k → atI (bL w m) ((k : Int) - 1) = some (.int (bI (cmk m k)))) ∧ (k = 0 → cmk m k = false) := by
      cases k with
      | zero => exact ⟨fun h => by omega, fun _ => rfl⟩
      | succ k =>
        refine ⟨fun _ => ?_, fun h => by omega⟩
        have := bL_at w m (p := k) (by omega)
        rw [show ((k + 1 : Nat) : Int) - 1 = (k : Nat) by omega, this]
        rfl
    have hz : (0 : Int) + (k : Nat) = k := by omega
    refine ⟨[.val (.int w), y1, y2, y3, .own (.lst (bL w m)), y5, .val (.lst (bL w (fun i => Bool.xor (a i) (b i)))), y7, y8, y9, y10, y11, .val (.int (bI (m (w - 1)) * 2 ^ w + wordF k (fun i => bI (Bool.xor (Bool.xor (a i) (b i)) (cmk m i))))), .val (.int (k : Nat)), u14], [.val (.int w), y1, y2, y3, .own (.lst (bL w m)), y5, .val (.lst (bL w (fun i => Bool.xor (a i) (b i)))), y7, y8, y9, y10, y11, .val (.int (bI (m (w - 1)) * 2 ^ w + wordF (k + 1) (fun i => bI (Bool.xor (Bool.xor (a i) (b i)) (cmk m i))))), .val (.int (k : Nat)), .val (.int (bI (cmk m k)))], by rw [hz]; rfl, ?_, _, _, rfl⟩
    rw [ws, ← Int.add_assoc, Int.mul_comm (2 ^ k)]
    clear ws
    generalize bI (m (w - 1)) * 2 ^ w + wordF k (fun i => bI (Bool.xor (Bool.xor (a i) (b i)) (cmk m i))) = T at *
    generalize bL w (fun i => Bool.xor (a i) (b i)) = P at *
    generalize bL w m = M at *
    generalize bI (Bool.xor (Bool.xor (a k) (b k)) (cmk m k)) * 2 ^ k = S at *
    generalize hX : bI (Bool.xor (Bool.xor (a k) (b k)) (cmk m k)) = X at *
    generalize bI (Bool.xor (a k) (b k)) = Y at *
    by_cases k0 : k = 0
    · have c0 := ac.2 k0
      rw [c0] at px ⊢
      have z : bI false = 0 := rfl
      rw [z] at px ⊢
      subst k0
      simp only [Int.natCast_zero] at ap sh ⊢
      simp -implicitDefEqProofs [b3__law_sum, ap, px, sh]
    · have kp : 0 < k := by omega
      have kp' : (0 : Int) < (k : Nat) := by omega
      have a1 := ac.1 kp
      generalize bI (cmk m k) = C at *
      simp -implicitDefEqProofs [b3__law_sum, ap, px, sh, kp, kp', a1])
  refine ⟨u13, u14, ?_⟩
  rw [e, sumOf_e]
  have : cmk m w = m (w - 1) := by
    cases w with
    | zero => omega
    | succ w => rfl
  rw [this, Int.add_comm, Int.mul_comm (2 ^ w)]
theorem lsum_e {w : Nat} (h1 : 1 ≤ w) (h2 : w ≤ 64) {net : List Lv} (h : NetOk w net) {x y : Int} (x0 : 0 ≤ x) (x1 : x < 2 ^ w) (y0 : 0 ≤ y) (y1 : y < 2 ^ w) : F__law_sum [.int w, netP net, .int x, .int y] = .ret (.int (netSum w net x y)) [] := by
  have ra := Bw.rng bw_and x0 x1 y0 y1
  have rx := xor_word x0 x1 y0 y1
  have iw : i62 (w : Int) = true := i62_of (by omega) (by omega)
  have e6 := lcL_map (g := gN 13) (e := dOp pAnd (dOp pShr (dUn pInt (dOp pAnd (dV 2) (dV 3))) (dV 13)) (dC (.int 1))) (vs := [13]) (fun q => match q with | .int i => PV.int (dig 2 (Builtin.bitAnd x y) i.toNat) | _ => .non) [.val (.int w), .val (netP net), .val (.int x), .val (.int y), .unb, .unb, .unb, .unb, .unb, .unb, .unb, .unb, .unb, .unb, .unb] (rngP 0 w) [] (by rw [rngP_len]; simp; omega) (by
    intro q hq
    obtain ⟨i, rfl, i0, i1⟩ := rngP_mem hq
    obtain ⟨n, rfl⟩ := Int.eq_ofNat_of_zero_le i0
    refine ⟨_, [.val (.int w), .val (netP net), .val (.int x), .val (.int y), .unb, .unb, .unb, .unb, .unb, .unb, .unb, .unb, .unb, .val (.int (n : Nat)), .unb], rfl, ?_, rfl⟩
    have s := shr_div (x := Builtin.bitAnd x y) (k := (n : Int)) (by omega)
    have b := bit_and' ra.1 n
    rw [Int.toNat_natCast] at s
    generalize netP net = N at *
    simp -implicitDefEqProofs [s, b])
  have f6 : (rngP 0 w).map (fun q => match q with | .int i => PV.int (dig 2 (Builtin.bitAnd x y) i.toNat) | _ => .non) = bL w (startS (bitF x) (bitF y)).1 := by
    unfold rngP bL
    rw [List.map_map]
    apply List.map_congr_left
    intro i _
    simp only [Function.comp, startS]
    rw [show ((0 : Int) + (i : Nat)).toNat = i by omega, bits_and]
  rw [List.nil_append, f6] at e6
  have e7 := lcL_map (g := gN 13) (e := dOp pAnd (dOp pShr (dUn pInt (dOp pXor (dV 2) (dV 3))) (dV 13)) (dC (.int 1))) (vs := [13]) (fun q => match q with | .int i => PV.int (dig 2 (Builtin.bitXor x y) i.toNat) | _ => .non) [.val (.int w), .val (netP net), .val (.int x), .val (.int y), .own (.lst (bL w (startS (bitF x) (bitF y)).1)), .unb, .unb, .unb, .unb, .unb, .unb, .unb, .unb, .unb, .unb] (rngP 0 w) [] (by rw [rngP_len]; simp; omega) (by
    intro q hq
    obtain ⟨i, rfl, i0, i1⟩ := rngP_mem hq
    obtain ⟨n, rfl⟩ := Int.eq_ofNat_of_zero_le i0
    refine ⟨_, [.val (.int w), .val (netP net), .val (.int x), .val (.int y), .own (.lst (bL w (startS (bitF x) (bitF y)).1)), .unb, .unb, .unb, .unb, .unb, .unb, .unb, .unb, .val (.int (n : Nat)), .unb], rfl, ?_, rfl⟩
    have s := shr_div (x := Builtin.bitXor x y) (k := (n : Int)) (by omega)
    have b := bit_and' rx.1 n
    rw [Int.toNat_natCast] at s
    generalize bL w (startS (bitF x) (bitF y)).1 = M at *
    generalize netP net = N at *
    simp -implicitDefEqProofs [s, b])
  have f7 : (rngP 0 w).map (fun q => match q with | .int i => PV.int (dig 2 (Builtin.bitXor x y) i.toNat) | _ => .non) = bL w (startS (bitF x) (bitF y)).2 := by
    unfold rngP bL
    rw [List.map_map]
    apply List.map_congr_left
    intro i _
    simp only [Function.comp, startS]
    rw [show ((0 : Int) + (i : Nat)).toNat = i by omega, bits_xor]
  rw [List.nil_append, f7] at e7
  obtain ⟨u7, u8, u9, u10, u11, e8⟩ := lsum_loop w h2 (.val (.int w)) (.val (netP net)) (.val (.int x)) (.val (.int y)) (.val (.lst (bL w (startS (bitF x) (bitF y)).2))) .unb .unb .unb net (startS (bitF x) (bitF y)) .unb .unb .unb .unb .unb h
  obtain ⟨v13, v14, e9⟩ := total_loop w h1 h2 (bitF x) (bitF y) (runN (startS (bitF x) (bitF y)) net).1 (.val (netP net)) (.val (.int x)) (.val (.int y)) (.own (.lst (bL w (runN (startS (bitF x) (bitF y)) net).2))) u7 u8 u9 u10 u11
  have e9' : forL (gN 13) b3__law_sum (rngP 0 w) [.val (.int w), .val (netP net), .val (.int x), .val (.int y), .own (.lst (bL w (runN (startS (bitF x) (bitF y)) net).1)), .own (.lst (bL w (runN (startS (bitF x) (bitF y)) net).2)), .val (.lst (bL w (startS (bitF x) (bitF y)).2)), u7, u8, u9, u10, u11, .val (.int (bI ((runN (startS (bitF x) (bitF y)) net).1 (w - 1)) * 2 ^ w)), .unb, .unb] = _ := e9
  have it : itOf (netP net) = some (net.map lvP) := rfl
  have io : itemsOf (.lst (bL w (startS (bitF x) (bitF y)).2)) = some (bL w (startS (bitF x) (bitF y)).2) := rfl
  have n1 : (bL w (startS (bitF x) (bitF y)).2).length ≤ 16777216 := by rw [bL_len]; omega
  have al := bL_at w (runN (startS (bitF x) (bitF y)) net).1 (p := w - 1) (by omega)
  rw [show ((w - 1 : Nat) : Int) = (w : Int) - 1 by omega] at al
  have hb := bI_bit ((runN (startS (bitF x) (bitF y)) net).1 (w - 1))
  have sh : pShl (.int (bI ((runN (startS (bitF x) (bitF y)) net).1 (w - 1)))) (.int (w : Int)) = some (.int (bI ((runN (startS (bitF x) (bitF y)) net).1 (w - 1)) * 2 ^ w)) := by
    rw [pShl_p (m := 1) (by omega) (by have q : (2 : Int) ^ 1 = 2 := rfl; omega) (by omega) (by omega), Int.toNat_natCast]
  unfold netSum
  clear f6 f7 e9
  rw [show (startS (bitF x) (bitF y)).2 = fun i => Bool.xor (bitF x i) (bitF y i) from rfl] at e7 e8 io n1 e9'
  generalize sumOf w (bitF x) (bitF y) (runN (startS (bitF x) (bitF y)) net).1 = SS at *
  generalize bI ((runN (startS (bitF x) (bitF y)) net).1 (w - 1)) * 2 ^ w = TT at *
  generalize bI ((runN (startS (bitF x) (bitF y)) net).1 (w - 1)) = BB at *
  generalize bL w (runN (startS (bitF x) (bitF y)) net).1 = M' at *
  generalize bL w (runN (startS (bitF x) (bitF y)) net).2 = Q' at *
  generalize bL w (startS (bitF x) (bitF y)).1 = M at *
  generalize bL w (fun i => Bool.xor (bitF x i) (bitF y i)) = Q at *
  generalize netP net = N at *
  simp only [F__law_sum, d__law_sum]
  simp -implicitDefEqProofs [iw, e6, e7, io, n1, it, e8, al, sh, e9']
end K39

set_option Elab.async false
set_option linter.all false
set_option maxRecDepth 100000
namespace K39
open PF PF.Bt PF.Nt PySem L2
/-! ## drawn nets -/
theorem seq_ok {c d : C} {ρ ρ1 : List Slot} (h : c ρ = .ok .next ρ1) : sSeq c d ρ = d ρ1 := by
  simp -implicitDefEqProofs [h]
def selP (k : Int) (f : Nat → Nat) (p : Nat) : PV → Bool
  | .int i => decide (k = 0) || decide ((f p : Int) - 1 ≤ i)
  | _ => false
theorem some_ok (w : Nat) (hw : w ≤ 64) {p : Nat} (p1 : 1 ≤ p) (p2 : p < w) (k : Int) (f : Nat → Nat) (t : Nat) (y0 y3 y6 y7 o9 o10 o11 y12 y13 : Slot) : ∃ (S : List Int) (u10 : Slot), (∀ o ∈ S, 0 ≤ o ∧ o < p) ∧ S.length ≤ 64 ∧ ∀ d : C, sSeq (sSet 9 (dF (fLc [11] (iA pRng1 (aCons (dV 8) (aNil))) (gN 11) (tOr (tCmp cEq (dV 2) (dC (.int (0)))) (tCmp cGe (dV 11) (dOp pSub (dLV 4 (dV 8) pIx) (dC (.int (1)))))) (dV 11)))) (sSeq (sIf (tCmp cEq (dV 2) (dC (.int (3))))
    (sSet 9 (dIf (tCmp cEq (dV 8) (dOp pAdd (dV 5) (dC (.int (1))))) (dF (fLst (aCons (dOp pSub (dV 8) (dC (.int (1)))) (aNil)))) (dF (fLst (aNil)))))
    (sNext))
    (sSeq (sIf (tCmp cEq (dV 2) (dC (.int (4))))
    (sSeq (sSet 10 (dOp pShl (dC (.int (1))) (dOp pMin2 (dV 5) (dC (.int (7))))))
    (sSet 9 (dIf (tCmp cGe (dV 8) (dV 10)) (dF (fLst (aCons (dOp pSub (dV 8) (dV 10)) (aNil)))) (dF (fLst (aNil))))))
    (sNext)) d)) [y0, .val (.int w), .val (.int k), y3, .val (.lst (nL w f)), .val (.int t), y6, y7, .val (.int p), o9, o10, o11, y12, y13] = d [y0, .val (.int w), .val (.int k), y3, .val (.lst (nL w f)), .val (.int t), y6, y7, .val (.int p), .val (.lst (S.map .int)), u10, .unb, y12, y13] := by
  have i1 : i62 (p : Int) = true := i62_of (by omega) (by omega)
  have ap := nL_at w f p2
  have ef := lcL_filter (g := gN 11) (t := tOr (tCmp cEq (dV 2) (dC (.int (0)))) (tCmp cGe (dV 11) (dOp pSub (dLV 4 (dV 8) pIx) (dC (.int (1)))))) (e := dV 11) (vs := [11]) (selP k f p) (fun q => q) [y0, .val (.int w), .val (.int k), y3, .val (.lst (nL w f)), .val (.int t), y6, y7, .val (.int p), o9, o10, .unb, y12, y13] (rngP 0 p) [] (by rw [rngP_len]; simp; omega) (by
    intro q hq
    obtain ⟨i, rfl, i0, i1⟩ := rngP_mem hq
    refine ⟨[y0, .val (.int w), .val (.int k), y3, .val (.lst (nL w f)), .val (.int t), y6, y7, .val (.int p), o9, o10, .val (.int i), y12, y13], [y0, .val (.int w), .val (.int k), y3, .val (.lst (nL w f)), .val (.int t), y6, y7, .val (.int p), o9, o10, .val (.int i), y12, y13], rfl, ?_, fun _ => rfl, fun _ => ⟨[y0, .val (.int w), .val (.int k), y3, .val (.lst (nL w f)), .val (.int t), y6, y7, .val (.int p), o9, o10, .val (.int i), y12, y13], rfl, rfl⟩⟩
    unfold selP
    generalize nL w f = F at *
    by_cases h : k = 0
    · simp -implicitDefEqProofs [h]
    · simp -implicitDefEqProofs [h, ap])
  have es : ∃ S : List Int, ((rngP 0 p).filter (selP k f p)).map (fun q => q) = S.map .int ∧ (∀ o ∈ S, 0 ≤ o ∧ o < p) ∧ S.length ≤ 64 := by
    rw [List.map_id']
    obtain ⟨S, h, hS⟩ := ints_of (P := fun o => 0 ≤ o ∧ o < (p : Int)) (ys := (rngP 0 p).filter (selP k f p)) fun y hy => by
      obtain ⟨i, rfl, i0, i1⟩ := rngP_mem (List.mem_filter.mp hy).1
      exact ⟨i, rfl, by omega, by omega⟩
    refine ⟨S, h, hS, ?_⟩
    have := congrArg List.length h
    rw [List.length_map] at this
    have l := List.length_filter_le (selP k f p) (rngP 0 p)
    rw [rngP_len] at l
    omega
  obtain ⟨S0, e0, hS0, hl0⟩ := es
  rw [List.nil_append, e0] at ef
  have st1 : ∀ d : C, sSeq (sSet 9 (dF (fLc [11] (iA pRng1 (aCons (dV 8) (aNil))) (gN 11) (tOr (tCmp cEq (dV 2) (dC (.int (0)))) (tCmp cGe (dV 11) (dOp pSub (dLV 4 (dV 8) pIx) (dC (.int (1)))))) (dV 11)))) d [y0, .val (.int w), .val (.int k), y3, .val (.lst (nL w f)), .val (.int t), y6, y7, .val (.int p), o9, o10, o11, y12, y13] = d [y0, .val (.int w), .val (.int k), y3, .val (.lst (nL w f)), .val (.int t), y6, y7, .val (.int p), .val (.lst (S0.map .int)), o10, .unb, y12, y13] := by
    intro d
    generalize nL w f = F at *
    refine seq_ok ?_
    simp -implicitDefEqProofs [i1, ef]
  by_cases k3 : k = 3
  · by_cases pt : p = t + 1
    · refine ⟨[(p : Int) - 1], o10, by intro o ho; rw [List.mem_singleton.mp ho]; omega, by simp, fun d => ?_⟩
      have pt' : (p : Int) = (t : Int) + 1 := by omega
      rw [st1]
      generalize nL w f = F at *
      generalize S0.map PV.int = SS at *
      rw [seq_ok (ρ1 := [y0, .val (.int w), .val (.int k), y3, .val (.lst F), .val (.int t), y6, y7, .val (.int p), .val (.lst [.int ((p : Int) - 1)]), o10, .unb, y12, y13]) (by simp -implicitDefEqProofs [k3, pt']), seq_ok (ρ1 := [y0, .val (.int w), .val (.int k), y3, .val (.lst F), .val (.int t), y6, y7, .val (.int p), .val (.lst [.int ((p : Int) - 1)]), o10, .unb, y12, y13]) (by simp -implicitDefEqProofs [k3])]
      rfl
    · refine ⟨[], o10, by simp, by simp, fun d => ?_⟩
      have pt' : ¬ (p : Int) = (t : Int) + 1 := by omega
      rw [st1]
      generalize nL w f = F at *
      generalize S0.map PV.int = SS at *
      rw [seq_ok (ρ1 := [y0, .val (.int w), .val (.int k), y3, .val (.lst F), .val (.int t), y6, y7, .val (.int p), .val (.lst []), o10, .unb, y12, y13]) (by simp -implicitDefEqProofs [k3, pt']), seq_ok (ρ1 := [y0, .val (.int w), .val (.int k), y3, .val (.lst F), .val (.int t), y6, y7, .val (.int p), .val (.lst []), o10, .unb, y12, y13]) (by simp -implicitDefEqProofs [k3])]
      rfl
  · have e2 : ∀ d : C, sSeq (sIf (tCmp cEq (dV 2) (dC (.int (3)))) (sSet 9 (dIf (tCmp cEq (dV 8) (dOp pAdd (dV 5) (dC (.int (1))))) (dF (fLst (aCons (dOp pSub (dV 8) (dC (.int (1)))) (aNil)))) (dF (fLst (aNil))))) (sNext)) d [y0, .val (.int w), .val (.int k), y3, .val (.lst (nL w f)), .val (.int t), y6, y7, .val (.int p), .val (.lst (S0.map .int)), o10, .unb, y12, y13] = d [y0, .val (.int w), .val (.int k), y3, .val (.lst (nL w f)), .val (.int t), y6, y7, .val (.int p), .val (.lst (S0.map .int)), o10, .unb, y12, y13] := by
      intro d
      generalize nL w f = F at *
      generalize S0.map PV.int = SS at *
      exact seq_ok (by simp -implicitDefEqProofs [k3])
    by_cases k4 : k = 4
    · obtain ⟨b, hb0, hb⟩ : ∃ b : Int, 1 ≤ b ∧ pShl (.int 1) (.int (min (t : Int) 7)) = some (.int b) := by
        refine ⟨2 ^ (min (t : Int) 7).toNat, ?_, shl1 (by omega) (by omega)⟩
        have := two_pos (min (t : Int) 7).toNat
        omega
      by_cases pb : b ≤ (p : Int)
      · refine ⟨[(p : Int) - b], .val (.int b), by intro o ho; rw [List.mem_singleton.mp ho]; omega, by simp, fun d => ?_⟩
        rw [st1, e2]
        generalize nL w f = F at *
        generalize S0.map PV.int = SS at *
        rw [seq_ok (ρ1 := [y0, .val (.int w), .val (.int k), y3, .val (.lst F), .val (.int t), y6, y7, .val (.int p), .val (.lst [.int ((p : Int) - b)]), .val (.int b), .unb, y12, y13]) (by simp -implicitDefEqProofs [k4, hb, pb])]
        rfl
      · refine ⟨[], .val (.int b), by simp, by simp, fun d => ?_⟩
        rw [st1, e2]
        generalize nL w f = F at *
        generalize S0.map PV.int = SS at *
        rw [seq_ok (ρ1 := [y0, .val (.int w), .val (.int k), y3, .val (.lst F), .val (.int t), y6, y7, .val (.int p), .val (.lst []), .val (.int b), .unb, y12, y13]) (by simp -implicitDefEqProofs [k4, hb, pb])]
        rfl
    · refine ⟨S0, o10, hS0, hl0, fun d => ?_⟩
      rw [st1, e2]
      generalize nL w f = F at *
      generalize S0.map PV.int = SS at *
      exact seq_ok (by simp -implicitDefEqProofs [k4])
theorem place_ok (w : Nat) (hw : w ≤ 64) {p : Nat} (p1 : 1 ≤ p) (p2 : p < w) (k : Int) (f h : Nat → Nat) (t : Nat) {L : Lv} (hL : LvOk w L) (hp : ∀ c ∈ L, c.1 < p) {q : PV} (hq : Hd q) (y3 o9 o10 o11 y12 y13 : Slot) : ∃ (q' : PV) (L' : Lv) (h' : Nat → Nat) (u9 u10 u11 : Slot), Hd q' ∧ LvOk w L' ∧ (∀ c ∈ L', c.1 < p + 1) ∧ b1__law_net [.own q, .val (.int w), .val (.int k), y3, .val (.lst (nL w f)), .val (.int t), .own (.lst (L.map prP)), .own (.lst (nL w h)), .val (.int p), o9, o10, o11, y12, y13] = .ok .next [.own q', .val (.int w), .val (.int k), y3, .val (.lst (nL w f)), .val (.int t), .own (.lst (L'.map prP)), .own (.lst (nL w h')), .val (.int p), u9, u10, u11, y12, y13] := by
  obtain ⟨S, u10, hS, hl, e⟩ := some_ok w hw p1 p2 k f t (.own q) y3 (.own (.lst (L.map prP))) (.own (.lst (nL w h))) o9 o10 o11 y12 y13
  unfold b1__law_net
  rw [e]
  have ap := nL_at w f p2
  have lS : (S.map PV.int).length = S.length := by simp
  have keep : ∀ q', Hd q' → ∃ (q'' : PV) (L' : Lv) (h' : Nat → Nat) (u9 u10' u11 : Slot), Hd q'' ∧ LvOk w L' ∧ (∀ c ∈ L', c.1 < p + 1) ∧ (Out.ok PF.Flow.next [.own q', .val (.int w), .val (.int k), y3, .val (.lst (nL w f)), .val (.int t), .own (.lst (L.map prP)), .own (.lst (nL w h)), .val (.int p), .val (.lst (S.map .int)), u10, .unb, y12, y13] : Out PF.Flow) = .ok .next [.own q'', .val (.int w), .val (.int k), y3, .val (.lst (nL w f)), .val (.int t), .own (.lst (L'.map prP)), .own (.lst (nL w h')), .val (.int p), u9, u10', u11, y12, y13] := fun q' hq' => ⟨q', L, h, _, _, _, hq', hL, fun c hc => by have := hp c hc; omega, rfl⟩
  by_cases hS0 : S = []
  · subst hS0
    obtain ⟨q'', L', h', u9, v10, u11, a1, a2, a3, a4⟩ := keep q hq
    refine ⟨q'', L', h', u9, v10, u11, a1, a2, a3, ?_⟩
    rw [← a4]
    rw [List.map_nil]
    generalize nL w f = F at *
    generalize nL w h = H at *
    generalize L.map prP = LL at *
    simp -implicitDefEqProofs
  · have pos : 0 < S.length := List.length_pos_iff.mpr hS0
    have posI : (0 : Int) < (S.length : Nat) := by omega
    -- drawn or not
    have go : ∃ q1, Hd q1 ∧ ((tAnd (tCmp cGt (dUn pLen (dV 9)) (dC (.int (0)))) (tOr (tCmp cGt (dV 2) (dC (.int (2)))) (tCmp cGt (dCallIO F__law_draw 0 (aCons (dC (.int (3))) (aNil))) (dC (.int (0)))))) [.own q, .val (.int w), .val (.int k), y3, .val (.lst (nL w f)), .val (.int t), .own (.lst (L.map prP)), .own (.lst (nL w h)), .val (.int p), .val (.lst (S.map .int)), u10, .unb, y12, y13] = .ok true [.own q1, .val (.int w), .val (.int k), y3, .val (.lst (nL w f)), .val (.int t), .own (.lst (L.map prP)), .own (.lst (nL w h)), .val (.int p), .val (.lst (S.map .int)), u10, .unb, y12, y13] ∨ (tAnd (tCmp cGt (dUn pLen (dV 9)) (dC (.int (0)))) (tOr (tCmp cGt (dV 2) (dC (.int (2)))) (tCmp cGt (dCallIO F__law_draw 0 (aCons (dC (.int (3))) (aNil))) (dC (.int (0)))))) [.own q, .val (.int w), .val (.int k), y3, .val (.lst (nL w f)), .val (.int t), .own (.lst (L.map prP)), .own (.lst (nL w h)), .val (.int p), .val (.lst (S.map .int)), u10, .unb, y12, y13] = .ok false [.own q1, .val (.int w), .val (.int k), y3, .val (.lst (nL w f)), .val (.int t), .own (.lst (L.map prP)), .own (.lst (nL w h)), .val (.int p), .val (.lst (S.map .int)), u10, .unb, y12, y13]) := by
      clear e keep
      by_cases k2 : 2 < k
      · refine ⟨q, hq, .inl ?_⟩
        generalize nL w f = F at *
        generalize nL w h = H at *
        generalize L.map prP = LL at *
        generalize S.map PV.int = SS at *
        simp -implicitDefEqProofs [lS, pos, posI, k2]
      · obtain ⟨r, q1, r0, r1, hq1, er⟩ := draw_ok hq (m := 3) (by omega) (by omega)
        by_cases hr : 0 < r
        · refine ⟨q1, hq1, .inl ?_⟩
          generalize nL w f = F at *
          generalize nL w h = H at *
          generalize L.map prP = LL at *
          generalize S.map PV.int = SS at *
          simp -implicitDefEqProofs [lS, pos, posI, k2, er, hr]
        · refine ⟨q1, hq1, .inr ?_⟩
          generalize nL w f = F at *
          generalize nL w h = H at *
          generalize L.map prP = LL at *
          generalize S.map PV.int = SS at *
          simp -implicitDefEqProofs [lS, pos, posI, k2, er, hr]
    obtain ⟨q1, hq1, go | go⟩ := go
    · obtain ⟨z, q2, hz, hq2, ez⟩ := any_p hq1 (xs := S.map .int) (fun z => ∃ o : Nat, z = .int (o : Nat) ∧ o < p) (by simpa using hS0) (by rw [List.length_map]; omega) (by
        intro z hz
        obtain ⟨i, hi, rfl⟩ := List.mem_map.mp hz
        have := hS i hi
        exact ⟨i.toNat, by congr 1; omega, by omega⟩)
      obtain ⟨o, rfl, ho⟩ := hz
      have ao := nL_at w f (p := o) (by omega)
      have L1 : LvOk w (L ++ [(p, o)]) := ⟨fun c hc => by
        rcases List.mem_append.mp hc with z | z
        · exact hL.rng c z
        · rw [List.mem_singleton.mp z]; exact ⟨ho, p2⟩, List.pairwise_append.mpr ⟨hL.asc, by simp, fun c hc d hd => by rw [List.mem_singleton.mp hd]; exact hp c hc⟩⟩
      have L2 : ∀ c ∈ L ++ [(p, o)], c.1 < p + 1 := fun c hc => by
        rcases List.mem_append.mp hc with z | z
        · have := hp c z; omega
        · rw [List.mem_singleton.mp z]; simp
      have ll : (L.map prP).length < 16777216 := by
        have : ∀ (L : Lv) (k : Nat), L.Pairwise (fun c d => c.1 < d.1) → (∀ c ∈ L, k ≤ c.1 ∧ c.1 < w) → L.length + k ≤ max w k := by
          intro L
          induction L with
          | nil => intro k _ _; simp; omega
          | cons c L ih =>
            intro k hp hb
            rw [List.pairwise_cons] at hp
            have hc := hb c List.mem_cons_self
            have := ih (c.1 + 1) hp.2 fun d hd => ⟨hp.1 d hd, (hb d (List.mem_cons_of_mem _ hd)).2⟩
            rw [List.length_cons]
            omega
        have := this L 0 hL.asc fun c hc => ⟨Nat.zero_le _, (hL.rng c hc).2⟩
        rw [List.length_map]
        omega
      have eL : (L ++ [(p, o)]).map prP = L.map prP ++ [.tup [.int (p : Nat), .int (o : Nat)]] := by rw [List.map_append]; rfl
      have lH := nL_len w h
      have ix := ixN_nat p2
      by_cases cnd : (f p : Int) - 1 ≤ (o : Int)
      · have st := nL_set w h p2 (min (f p) (f o))
        have mn : min ((f p : Nat) : Int) ((f o : Nat) : Int) = ((min (f p) (f o) : Nat) : Int) := by omega
        have cnd' : (f p : Int) ≤ (o : Int) + 1 := by omega
        refine ⟨q2, L ++ [(p, o)], fun i => if i = p then min (f p) (f o) else h i, .val (.lst (S.map .int)), u10, .val (.int (o : Nat)), hq2, L1, L2, ?_⟩
        rw [eL, ← st]
        clear st eL e keep
        generalize nL w f = F at *
        generalize nL w h = H at *
        generalize L.map prP = LL at *
        generalize S.map PV.int = SS at *
        simp -implicitDefEqProofs [-tAnd_e, go, ez, ap, ao, cnd, cnd', mn, ll, lH, ix]
      · have cnd' : ¬ (f p : Int) ≤ (o : Int) + 1 := by omega
        refine ⟨q2, L ++ [(p, o)], h, .val (.lst (S.map .int)), u10, .val (.int (o : Nat)), hq2, L1, L2, ?_⟩
        rw [eL]
        clear eL e keep
        generalize nL w f = F at *
        generalize nL w h = H at *
        generalize L.map prP = LL at *
        generalize S.map PV.int = SS at *
        simp -implicitDefEqProofs [-tAnd_e, go, ez, ap, ao, cnd, cnd', ll]
    · obtain ⟨q'', L', h', u9, v10, u11, a1, a2, a3, a4⟩ := keep q1 hq1
      refine ⟨q'', L', h', u9, v10, u11, a1, a2, a3, ?_⟩
      rw [← a4]
      clear e keep a4
      generalize nL w f = F at *
      generalize nL w h = H at *
      generalize L.map prP = LL at *
      generalize S.map PV.int = SS at *
      simp -implicitDefEqProofs [-tAnd_e, go]
end K39

set_option Elab.async false
set_option linter.all false
set_option maxRecDepth 100000
namespace K39
open PF PF.Bt PF.Nt PySem L2
theorem lv_len {w : Nat} {L : Lv} (hL : LvOk w L) : L.length ≤ w := by
  have : ∀ (L : Lv) (k : Nat), L.Pairwise (fun c d => c.1 < d.1) → (∀ c ∈ L, k ≤ c.1 ∧ c.1 < w) → L.length + k ≤ max w k := by
    intro L
    induction L with
    | nil => intro k _ _; simp; omega
    | cons c L ih =>
      intro k hp hb
      rw [List.pairwise_cons] at hp
      have hc := hb c List.mem_cons_self
      have := ih (c.1 + 1) hp.2 fun d hd => ⟨hp.1 d hd, (hb d (List.mem_cons_of_mem _ hd)).2⟩
      rw [List.length_cons]
      omega
  have := this L 0 hL.asc fun c hc => ⟨Nat.zero_le _, (hL.rng c hc).2⟩
  omega
theorem level_ok (w : Nat) (h1 : 1 ≤ w) (hw : w ≤ 64) (k : Int) (f : Nat → Nat) (t : Nat) {net : List Lv} (hn : NetOk w net) (hl : net.length ≤ 100) {q : PV} (hq : Hd q) (o6 o7 o8 o9 o10 o11 y12 y13 : Slot) : ∃ (q' : PV) (L : Lv) (f' : Nat → Nat) (u6 u7 u8 u9 u10 u11 : Slot), Hd q' ∧ LvOk w L ∧ b2__law_net [.own q, .val (.int w), .val (.int k), .own (.lst (net.map lvP)), .val (.lst (nL w f)), .val (.int t), o6, o7, o8, o9, o10, o11, y12, y13] = .ok .next [.own q', .val (.int w), .val (.int k), .own (.lst ((net ++ [L]).map lvP)), .val (.lst (nL w f')), .val (.int t), u6, u7, u8, u9, u10, u11, y12, y13] := by
  have i1 : i62 (1 : Int) = true := i62_of (by omega) (by omega)
  have iw : i62 (w : Int) = true := i62_of (by omega) (by omega)
  obtain ⟨ρ', e, q', L, h, u8, u9, u10, u11, hq', hL, _, rfl⟩ := forL_rng (g := gN 8) (b := b1__law_net) (fun j ρ => ∃ (q' : PV) (L : Lv) (h : Nat → Nat) (u8 u9 u10 u11 : Slot), Hd q' ∧ LvOk w L ∧ (∀ c ∈ L, c.1 < j + 1) ∧ ρ = [.own q', .val (.int w), .val (.int k), .own (.lst (net.map lvP)), .val (.lst (nL w f)), .val (.int t), .own (.lst (L.map prP)), .own (.lst (nL w h)), u8, u9, u10, u11, y12, y13]) 1 (w - 1) [.own q, .val (.int w), .val (.int k), .own (.lst (net.map lvP)), .val (.lst (nL w f)), .val (.int t), .own (.lst []), .own (.lst (nL w f)), o8, o9, o10, o11, y12, y13] ⟨q, [], f, o8, o9, o10, o11, hq, ⟨by simp, by simp⟩, by simp, rfl⟩ (by
    rintro j ρ hj ⟨q', L, h, u8, u9, u10, u11, hq', hL, hp, rfl⟩
    obtain ⟨q2, L2, h2, v9, v10, v11, g1, g2, g3, e⟩ := place_ok w hw (p := j + 1) (by omega) (by omega) k f h t hL hp hq' (.own (.lst (net.map lvP))) u9 u10 u11 y12 y13
    refine ⟨[.own q', .val (.int w), .val (.int k), .own (.lst (net.map lvP)), .val (.lst (nL w f)), .val (.int t), .own (.lst (L.map prP)), .own (.lst (nL w h)), .val (.int ((j + 1 : Nat) : Int)), u9, u10, u11, y12, y13], _, ?_, e, q2, L2, h2, _, _, _, _, g1, g2, g3, rfl⟩
    rw [show (1 : Int) + (j : Nat) = ((j + 1 : Nat) : Int) by omega]
    rfl)
  refine ⟨q', L, h, .own (.lst (L.map prP)), .val (.lst (nL w h)), u8, u9, u10, u11, hq', hL, ?_⟩
  have rp : pRng2 [.int 1, .int (w : Int)] = some (rngP 1 (w - 1)) := by
    rw [pRng2_i, i1, iw]
    simp
  have io : itemsOf (.lst (nL w f)) = some (nL w f) := rfl
  have n1 : (nL w f).length ≤ 16777216 := by rw [nL_len]; omega
  have pt : pTuple (.lst (L.map prP)) = some (lvP L) := by
    have := lv_len hL
    simp [lvP]
    try omega
  have pc : pCat (.lst (net.map lvP)) (.lst [lvP L]) = some ((net ++ [L]).map lvP) := by
    rw [pCat_l, if_pos (by simp; omega), List.map_append]
    rfl
  generalize lvP L = LP at *
  generalize (net ++ [L]).map lvP = NN at *
  generalize net.map lvP = N at *
  generalize L.map prP = LL at *
  generalize nL w f = F at *
  generalize nL w h = H at *
  simp -implicitDefEqProofs [b2__law_net, -pRng2_i, rp, io, n1, e, pt, pc, putS, -pCat_l]
theorem net_ok {p : PV} (hp : Hd p) {w : Nat} (h1 : 1 ≤ w) (hw : w ≤ 64) : ∃ (net : List Lv) (p' : PV), NetOk w net ∧ net.length ≤ 64 ∧ Hd p' ∧ F__law_net [p, .int w] = .ret (netP net) [p'] := by
  obtain ⟨k, p1, k0, k1, g1, e1⟩ := draw_ok hp (m := 5) (by omega) (by omega)
  have rg : rgP (.int 0) (.int (w : Int)) = some (nL w id) := by rw [rgP_of_le (by omega) (by omega) (by omega) (by omega), ← rng_nL]; simp
  -- how many levels
  obtain ⟨n, p2, g2, hn, e2⟩ : ∃ (n : Nat) (p2 : PV), Hd p2 ∧ n ≤ 64 ∧ dIf (tCmp cLt (dV 2) (dC (.int (3)))) (dCallIO F__law_draw 0 (aCons (dC (.int (6))) (aNil))) (dV 1) [.own p1, .val (.int w), .val (.int k), .own (.lst []), .val (.lst (nL w id)), .unb, .unb, .unb, .unb, .unb, .unb, .unb, .unb, .unb] = .ok (.int (n : Nat)) [.own p2, .val (.int w), .val (.int k), .own (.lst []), .val (.lst (nL w id)), .unb, .unb, .unb, .unb, .unb, .unb, .unb, .unb, .unb] := by
    by_cases h : k < 3
    · obtain ⟨r, p2, r0, r1, g2, er⟩ := draw_ok g1 (m := 6) (by omega) (by omega)
      obtain ⟨n, rfl⟩ := Int.eq_ofNat_of_zero_le r0
      refine ⟨n, p2, g2, by omega, ?_⟩
      generalize nL w id = F at *
      simp -implicitDefEqProofs [h, er]
    · refine ⟨w, p1, g1, hw, ?_⟩
      generalize nL w id = F at *
      simp -implicitDefEqProofs [h]
  have i1 : i62 (n : Int) = true := i62_of (by omega) (by omega)
  obtain ⟨ρ', e3, p3, net, f, t5, t6, t7, t8, t9, t10, t11, g3, ok, nl, rfl⟩ := forL_rng (g := gN 5) (b := b2__law_net) (fun j ρ => ∃ (p3 : PV) (net : List Lv) (f : Nat → Nat) (t5 t6 t7 t8 t9 t10 t11 : Slot), Hd p3 ∧ NetOk w net ∧ net.length = j ∧ ρ = [.own p3, .val (.int w), .val (.int k), .own (.lst (net.map lvP)), .val (.lst (nL w f)), t5, t6, t7, t8, t9, t10, t11, .unb, .unb]) 0 n [.own p2, .val (.int w), .val (.int k), .own (.lst []), .val (.lst (nL w id)), .unb, .unb, .unb, .unb, .unb, .unb, .unb, .unb, .unb] ⟨p2, [], id, _, _, _, _, _, _, _, g2, by intro L hL; simp at hL, rfl, rfl⟩ (by
    rintro j ρ hj ⟨p3, net, f, t5, t6, t7, t8, t9, t10, t11, g3, ok, nl, rfl⟩
    obtain ⟨p4, L, f', u6, u7, u8, u9, u10, u11, g4, hL, e⟩ := level_ok w h1 hw k f j ok (by omega) g3 t6 t7 t8 t9 t10 t11 .unb .unb
    refine ⟨[.own p3, .val (.int w), .val (.int k), .own (.lst (net.map lvP)), .val (.lst (nL w f)), .val (.int (j : Nat)), t6, t7, t8, t9, t10, t11, .unb, .unb], _, ?_, e, p4, net ++ [L], f', _, _, _, _, _, _, _, g4, ?_, by rw [List.length_append, nl]; rfl, rfl⟩
    · rw [show (0 : Int) + (j : Nat) = (j : Nat) by omega]
      rfl
    · intro M hM
      rcases List.mem_append.mp hM with z | z
      · exact ok M z
      · rw [List.mem_singleton.mp z]; exact hL)
  have ll : (net.map lvP).length = net.length := by simp
  have ix0 : ∀ {n : Nat}, (PV.tup (net.map lvP)) = netP net := rfl
  have pt : ∀ net : List Lv, net.length ≤ 64 → pTuple (.lst (net.map lvP)) = some (netP net) := fun net h => by
    simp [netP]
    try omega
  by_cases hz : net = []
  · subst hz
    refine ⟨[], p3, by intro L hL; simp at hL, by simp, g3, ?_⟩
    have pt0 := pt [] (by simp)
    rw [List.map_nil] at e3 pt0
    generalize nL w id = F at *
    generalize nL w f = F' at *
    generalize netP [] = NP at *
    simp only [F__law_net, d__law_net]
    simp -implicitDefEqProofs [-dIf_e, e1, rg, e2, i1, e3, pt0, putS]
  · have pos : 0 < net.length := List.length_pos_iff.mpr hz
    have posI : (0 : Int) < (net.length : Nat) := by omega
    obtain ⟨r, p4, r0, r1, g4, e4⟩ := draw_ok g3 (m := 3) (by omega) (by omega)
    by_cases hr : r = 0
    · subst hr
      obtain ⟨at_, p5, a0, a1, g5, e5⟩ := draw_ok g4 (m := (net.length : Nat)) (by omega) (by omega)
      obtain ⟨a, rfl⟩ := Int.eq_ofNat_of_zero_le a0
      have ha : a < net.length := by omega
      have hL := ok _ (List.getElem_mem ha)
      have lL := lv_len hL
      obtain ⟨sp, p6, s0, s1, g6, e6⟩ := draw_ok g5 (m := ((net[a]).length : Nat) + 1) (by omega) (by omega)
      obtain ⟨s, rfl⟩ := Int.eq_ofNat_of_zero_le s0
      refine ⟨net.set a ((net[a]).take s ++ (net[a]).drop (s + 1)), p6, ?_, by rw [List.length_set]; omega, g6, ?_⟩
      · intro M hM
        rcases List.mem_or_eq_of_mem_set hM with z | z
        · exact ok M z
        · subst z
          have sub : ((net[a]).take s ++ (net[a]).drop (s + 1)).Sublist (net[a]) := by
            have e : (net[a]).take s ++ (net[a]).drop s = net[a] := List.take_append_drop s _
            conv => rhs; rw [← e]
            refine List.Sublist.append (List.Sublist.refl _) ?_
            rw [← List.drop_drop]
            exact List.drop_sublist _ _
          exact ⟨fun c hc => hL.rng c (sub.mem hc), hL.asc.sublist sub⟩
      · have al : atI (net.map lvP) (a : Nat) = some (lvP net[a]) := by
          rw [atI_of, List.getElem?_map, List.getElem?_eq_getElem ha]
          rfl
        have ix := ixN_nat (n := net.length) ha
        have pl : pLen (lvP net[a]) = some (.int ((net[a]).length : Nat)) := by simp [lvP]
        have sl1 : pSl (lvP net[a]) (none, some (s : Int)) = some (lvP ((net[a]).take s)) := by
          unfold lvP
          rw [pSl_t, sl_none, List.map_take]
        have sl2 : pSl (lvP net[a]) (some ((s : Int) + 1), none) = some (lvP ((net[a]).drop (s + 1))) := by
          unfold lvP
          rw [pSl_t, show ((s : Int) + 1) = ((s + 1 : Nat) : Int) by omega, sl_some, List.map_drop]
        have pa : pAdd (lvP ((net[a]).take s)) (lvP ((net[a]).drop (s + 1))) = some (lvP ((net[a]).take s ++ (net[a]).drop (s + 1))) := by
          unfold lvP
          rw [List.map_append]
          simp
          try omega
        have st : (net.map lvP).set a (lvP ((net[a]).take s ++ (net[a]).drop (s + 1))) = (net.set a ((net[a]).take s ++ (net[a]).drop (s + 1))).map lvP := by rw [List.map_set]
        have pt1 := pt (net.set a ((net[a]).take s ++ (net[a]).drop (s + 1))) (by rw [List.length_set]; omega)
        rw [← st] at pt1
        clear st pt
        generalize netP (net.set a ((net[a]).take s ++ (net[a]).drop (s + 1))) = NP at *
        generalize lvP ((net[a]).take s ++ (net[a]).drop (s + 1)) = L4 at *
        generalize lvP ((net[a]).take s) = L3 at *
        generalize lvP ((net[a]).drop (s + 1)) = L2 at *
        generalize lvP net[a] = L1 at *
        generalize net.map lvP = N at *
        generalize nL w id = F at *
        generalize nL w f = F' at *
        simp only [F__law_net, d__law_net]
        simp -implicitDefEqProofs [-dIf_e, e1, rg, e2, i1, e3, ll, pos, posI, e4, e5, al, pl, e6, sl1, sl2, pa, ix, pt1, putS]
    · refine ⟨net, p4, ok, by omega, g4, ?_⟩
      have pt1 := pt net (by omega)
      clear pt
      generalize netP net = NP at *
      generalize net.map lvP = N at *
      generalize nL w id = F at *
      generalize nL w f = F' at *
      simp only [F__law_net, d__law_net]
      simp -implicitDefEqProofs [-dIf_e, e1, rg, e2, i1, e3, ll, pos, posI, e4, hr, pt1, putS]
end K39

set_option Elab.async false
set_option linter.all false
set_option maxRecDepth 100000
namespace K39
open PF PF.Bt PF.Nt PySem L2
/-! ## levels more -/
theorem lowS_nil (f : Nat → Nat) : lowS f [] = f := rfl
theorem lowsN_app (f : Nat → Nat) (a b : List Lv) : lowsN f (a ++ b) = lowsN (lowsN f a) b := by unfold lowsN; rw [List.foldl_append]
theorem gapN_some (f : Nat → Nat) : ∀ (net : List Lv) (k j : Nat), (gapN k f net).isNone = (gapN j f net).isNone := by
  intro net
  induction net generalizing f with
  | nil => intro k j; rfl
  | cons L net ih =>
    intro k j
    unfold gapN
    cases gapL f L with
    | some c => rfl
    | none => exact ih (lowS f L) (k + 1) (j + 1)
theorem gapN_app : ∀ (a b : List Lv) (k : Nat) (f : Nat → Nat), (gapN k f (a ++ b)).isNone = ((gapN k f a).isNone && (gapN k (lowsN f a) b).isNone)
  | [], b, k, f => by simp [gapN, lowsN]
  | L :: a, b, k, f => by
    rw [List.cons_append, gapN, gapN]
    cases gapL f L with
    | some c => rfl
    | none =>
      dsimp only
      rw [gapN_app a b (k + 1) (lowS f L)]
      congr 1
      exact gapN_some _ b (k + 1) k
theorem wide_lows (a b : List Lv) (f : Nat → Nat) : lowsN f (a ++ [] :: b) = lowsN f (a ++ b) := by
  rw [lowsN_app, lowsN_app]
  rfl
theorem wide_gap (a b : List Lv) (k : Nat) (f : Nat → Nat) : (gapN k f (a ++ [] :: b)).isNone = (gapN k f (a ++ b)).isNone := by
  rw [gapN_app, gapN_app]
  congr 1
  rw [gapN]
  exact gapN_some _ b (k + 1) k
theorem wide_whole (w : Nat) (a b : List Lv) : wholeB w (a ++ [] :: b) = wholeB w (a ++ b) := by
  unfold wholeB
  rw [wide_lows, wide_gap]
theorem more_whole {w : Nat} {net : List Lv} (hw : wholeN w net) {p o : Nat} (ho : o < p) (hp : p < w) : wholeN w (net ++ [[(p, o)]]) := by
  have fp := hw.2 p hp
  have fo := hw.2 o (by omega)
  constructor
  · rw [← Option.isNone_iff_eq_none, gapN_app, hw.1]
    have : gapL (lowsN id net) [(p, o)] = none := by
      unfold gapL
      rw [List.find?_cons]
      simp [fp]
    simp [gapN, this]
  · intro i hi
    rw [lowsN_app]
    show lowS (lowsN id net) [(p, o)] i = 0
    unfold lowS lvU
    simp only [List.foldl_cons, List.foldl_nil]
    by_cases h : i = p
    · rw [if_pos h]
      unfold lowG
      rw [fp]
      simp
    · rw [if_neg h]
      exact hw.2 i hi
theorem wholeB_not {w : Nat} {net : List Lv} (h : wholeB w net = false) : ¬ wholeN w net := fun z => by
  rw [← wholeB_iff, h] at z
  cases z
theorem NetOk.take {w : Nat} {net : List Lv} (h : NetOk w net) (n : Nat) : NetOk w (net.take n) := fun L hL => h L (List.mem_of_mem_take hL)
theorem NetOk.wide {w : Nat} {net : List Lv} (h : NetOk w net) (n : Nat) : NetOk w (net.take n ++ [] :: net.drop n) := by
  intro L hL
  rcases List.mem_append.mp hL with z | z
  · exact h L (List.mem_of_mem_take z)
  · rcases List.mem_cons.mp z with z | z
    · subst z; exact ⟨by simp, by simp⟩
    · exact h L (List.mem_of_mem_drop z)
theorem NetOk.more {w : Nat} {net : List Lv} (h : NetOk w net) {p o : Nat} (ho : o < p) (hp : p < w) : NetOk w (net ++ [[(p, o)]]) := by
  intro L hL
  rcases List.mem_append.mp hL with z | z
  · exact h L z
  · rw [List.mem_singleton.mp z]
    exact ⟨fun c hc => by rw [List.mem_singleton.mp hc]; exact ⟨ho, hp⟩, by simp⟩
theorem isOk_nL (n : Nat) (w : Nat) (hw : w ≤ 64) (f : Nat → Nat) : isOk (n + 2) (.tup (nL w f)) = true := by
  simp [isOk, nL]
  omega
theorem isOk_gap (n : Nat) (r : Option (Nat × Nat)) : isOk (n + 2) (gapP r) = true := by
  cases r <;> simp [gapP, isOk]
theorem max_nL {w : Nat} (h1 : 1 ≤ w) (f : Nat → Nat) : ∃ m : Int, pMaxA (.tup (nL w f)) = some (.int m) ∧ (m = 0 ↔ ((List.range w).map f).any (fun n => n != 0) = false) := by
  obtain ⟨v, rfl⟩ : ∃ v, w = v + 1 := ⟨w - 1, by omega⟩
  have e : nL (v + 1) f = (((f 0 : Nat) : Int) :: (List.range v).map fun i => ((f (i + 1) : Nat) : Int)).map PV.int := by
    unfold nL
    rw [List.range_succ_eq_map, List.map_cons, List.map_map, List.map_cons, List.map_map]
    rfl
  refine ⟨maxL ((f 0 : Nat) : Int) ((List.range v).map fun i => ((f (i + 1) : Nat) : Int)), by rw [e]; exact pMaxA_t _ _, ?_⟩
  have mm := maxL_mem ((List.range v).map fun i => ((f (i + 1) : Nat) : Int)) ((f 0 : Nat) : Int)
  generalize maxL ((f 0 : Nat) : Int) ((List.range v).map fun i => ((f (i + 1) : Nat) : Int)) = M at *
  have all : ∀ i, i < v + 1 → ((f i : Nat) : Int) ≤ M := by
    intro i hi
    apply mm.2
    cases i with
    | zero => exact List.mem_cons_self
    | succ i => exact List.mem_cons_of_mem _ (List.mem_map.mpr ⟨i, List.mem_range.mpr (by omega), rfl⟩)
  have some : ∃ i, i < v + 1 ∧ M = ((f i : Nat) : Int) := by
    rcases List.mem_cons.mp mm.1 with z | z
    · exact ⟨0, by omega, z⟩
    · obtain ⟨i, hi, z⟩ := List.mem_map.mp z
      exact ⟨i + 1, by have := List.mem_range.mp hi; omega, z.symm⟩
  rw [List.any_eq_false]
  constructor
  · intro h n hn
    obtain ⟨i, hi, rfl⟩ := List.mem_map.mp hn
    have := all i (List.mem_range.mp hi)
    have z : f i = 0 := by omega
    simp [z]
  · intro h
    obtain ⟨i, hi, z⟩ := some
    have := h (f i) (List.mem_map.mpr ⟨i, List.mem_range.mpr hi, rfl⟩)
    simp at this
    omega
theorem lwhole_e {w : Nat} (h1 : 1 ≤ w) (net : List Lv) : ∃ m : Int, pMaxA (.tup (nL w (lowsN id net))) = some (.int m) ∧ wholeB w net = ((gapN 0 id net).isNone && decide (m = 0)) := by
  obtain ⟨m, e, h⟩ := max_nL h1 (lowsN id net)
  refine ⟨m, e, ?_⟩
  unfold wholeB
  congr 1
  rw [Bool.eq_iff_iff, decide_eq_true_eq, h, Bool.not_eq_true']
theorem gap_non (r : Option (Nat × Nat)) : cIsN (gapP r) .non = some r.isNone := by cases r <;> rfl
end K39

set_option Elab.async false
set_option linter.all false
set_option maxRecDepth 100000
namespace K39
open PF PF.Bt PF.Nt PySem L2
theorem two_cap {w : Nat} (h2 : w ≤ 64) : (2 : Int) ^ w ≤ 18446744073709551616 := by
  have : (2 : Int) ^ w ≤ 2 ^ 64 := two_le h2
  have e : (2 : Int) ^ 64 = 18446744073709551616 := rfl
  omega
theorem sh1 (k : Nat) (hk : k ≤ 100) : pShl (.int 1) (.int (k : Nat)) = some (.int (2 ^ k)) := by rw [shl1 (by omega) (by omega), Int.toNat_natCast]
theorem bit_word {w k : Nat} (h : k < w) : (0 : Int) ≤ 2 ^ k ∧ (2 : Int) ^ k < 2 ^ w := ⟨Int.le_of_lt (two_pos k), two_lt h⟩
/-! ## tries -/
def PairOk (w : Nat) (q : PV) : Prop := ∃ a b : Int, q = .tup [.int a, .int b] ∧ 0 ≤ a ∧ a < 2 ^ w ∧ 0 ≤ b ∧ b < 2 ^ w
theorem last_tries_ok {w : Nat} (hw : w ≤ 16) : ∃ qs : List PV, F_last_tries [.int w] = .own qs [] ∧ (∀ q ∈ qs, PairOk w q) ∧ qs.length ≤ 100000 := by
  have iw : i62 (w : Int) = true := i62_of (by omega) (by omega)
  have sw := sh1 w (by omega)
  have ow := ones_word w
  have add : ∀ {qs : List PV} {q : PV}, (∀ q ∈ qs, PairOk w q) → PairOk w q → ∀ r ∈ qs ++ [q], PairOk w r := by
    intro qs q h g r hr
    rcases List.mem_append.mp hr with z | z
    · exact h r z
    · rw [List.mem_singleton.mp z]; exact g
  -- the innermost
  have in1 : ∀ (start stop : Nat) (qs : List PV) (o4 o5 : Slot), start < w → stop < w → (∀ q ∈ qs, PairOk w q) → qs.length ≤ 50000 → ∃ (qs' : List PV) (u4 u5 : Slot), forL (gN 4) b1_last_tries (rngP ((stop : Int) + 1) (w - (stop + 1))) [.val (.int w), .own (.lst qs), .val (.int start), .val (.int stop), o4, o5] = .ok .next [.val (.int w), .own (.lst qs'), .val (.int start), .val (.int stop), u4, u5] ∧ (∀ q ∈ qs', PairOk w q) ∧ qs'.length ≤ qs.length + 32 := by
    intro start stop qs o4 o5 h1 h2 hq hl
    obtain ⟨ρ', e, qs', u4, u5, rfl, hq', hl'⟩ := forL_rng (g := gN 4) (b := b1_last_tries) (fun k ρ => ∃ (qs' : List PV) (u4 u5 : Slot), ρ = [.val (.int w), .own (.lst qs'), .val (.int start), .val (.int stop), u4, u5] ∧ (∀ q ∈ qs', PairOk w q) ∧ qs'.length ≤ qs.length + 2 * k) ((stop : Int) + 1) (w - (stop + 1)) [.val (.int w), .own (.lst qs), .val (.int start), .val (.int stop), o4, o5] ⟨qs, o4, o5, rfl, hq, by omega⟩ (by
      rintro k ρ hk ⟨qs', u4, u5, rfl, hq', hl'⟩
      have em : (stop : Int) + 1 + (k : Nat) = ((stop + 1 + k : Nat) : Int) := by omega
      have s1 := sh1 start (by omega)
      have s2 := sh1 stop (by omega)
      have s3 := sh1 (stop + 1 + k) (by omega)
      have b1 := bit_word h1
      have b2 := bit_word h2
      have b3 := bit_word (w := w) (k := stop + 1 + k) (by omega)
      have x1 := xor_word ow.1 ow.2 b1.1 b1.2
      have x2 := xor_word x1.1 x1.2 b2.1 b2.2
      have y1 := or_word x2.1 x2.2 b1.1 b1.2
      have y2 := xor_word x2.1 x2.2 b3.1 b3.2
      have y3 := or_word b1.1 b1.2 b3.1 b3.2
      have l1 : qs'.length < 16777216 := by omega
      have l2 : qs'.length + 1 < 16777216 := by omega
      refine ⟨[.val (.int w), .own (.lst qs'), .val (.int start), .val (.int stop), .val (.int ((stop + 1 + k : Nat) : Int)), u5], [.val (.int w), .own (.lst (qs' ++ [.tup [.int (Builtin.bitOr (Builtin.bitXor (Builtin.bitXor (2 ^ w - 1) (2 ^ start)) (2 ^ stop)) (2 ^ start)), .int (2 ^ start)]] ++ [.tup [.int (Builtin.bitXor (Builtin.bitXor (Builtin.bitXor (2 ^ w - 1) (2 ^ start)) (2 ^ stop)) (2 ^ (stop + 1 + k))), .int (Builtin.bitOr (2 ^ start) (2 ^ (stop + 1 + k)))]])), .val (.int start), .val (.int stop), .val (.int ((stop + 1 + k : Nat) : Int)), .val (.int (Builtin.bitXor (Builtin.bitXor (2 ^ w - 1) (2 ^ start)) (2 ^ stop)))], by rw [em]; rfl, ?_, _, _, _, rfl, add (add hq' ⟨_, _, rfl, y1.1, y1.2, b1.1, b1.2⟩) ⟨_, _, rfl, y2.1, y2.2, y3.1, y3.2⟩, by simp; omega⟩
      clear hq' add
      generalize ((stop + 1 + k : Nat) : Int) = M at *
      generalize (2 : Int) ^ (stop + 1 + k) = P3 at *
      generalize (2 : Int) ^ start = P1 at *
      generalize (2 : Int) ^ stop = P2 at *
      generalize (2 : Int) ^ w = W at *
      simp -implicitDefEqProofs [b1_last_tries, s1, s2, s3, sw, l1, l2])
    exact ⟨qs', u4, u5, e, hq', by omega⟩
  have in2 : ∀ (start : Nat) (qs : List PV) (o3 o4 o5 : Slot), start < w → (∀ q ∈ qs, PairOk w q) → qs.length ≤ 40000 → ∃ (qs' : List PV) (u3 u4 u5 : Slot), forL (gN 3) b2_last_tries (rngP ((start : Int) + 1) (w - (start + 1))) [.val (.int w), .own (.lst qs), .val (.int start), o3, o4, o5] = .ok .next [.val (.int w), .own (.lst qs'), .val (.int start), u3, u4, u5] ∧ (∀ q ∈ qs', PairOk w q) ∧ qs'.length ≤ qs.length + 512 := by
    intro start qs o3 o4 o5 h1 hq hl
    obtain ⟨ρ', e, qs', u3, u4, u5, rfl, hq', hl'⟩ := forL_rng (g := gN 3) (b := b2_last_tries) (fun k ρ => ∃ (qs' : List PV) (u3 u4 u5 : Slot), ρ = [.val (.int w), .own (.lst qs'), .val (.int start), u3, u4, u5] ∧ (∀ q ∈ qs', PairOk w q) ∧ qs'.length ≤ qs.length + 32 * k) ((start : Int) + 1) (w - (start + 1)) [.val (.int w), .own (.lst qs), .val (.int start), o3, o4, o5] ⟨qs, o3, o4, o5, rfl, hq, by omega⟩ (by
      rintro k ρ hk ⟨qs', u3, u4, u5, rfl, hq', hl'⟩
      have em : (start : Int) + 1 + (k : Nat) = ((start + 1 + k : Nat) : Int) := by omega
      obtain ⟨qs2, v4, v5, e, hq2, hl2⟩ := in1 start (start + 1 + k) qs' u4 u5 h1 (by omega) hq' (by omega)
      have i1 : i62 (((start + 1 + k : Nat) : Int) + 1) = true := i62_of (by omega) (by omega)
      have rp : pRng2 [.int (((start + 1 + k : Nat) : Int) + 1), .int (w : Int)] = some (rngP (((start + 1 + k : Nat) : Int) + 1) (w - (start + 1 + k + 1))) := by
        rw [pRng2_i, i1, iw, Bool.and_self, if_pos rfl, show ((w : Int) - (((start + 1 + k : Nat) : Int) + 1)).toNat = w - (start + 1 + k + 1) by omega]
      refine ⟨[.val (.int w), .own (.lst qs'), .val (.int start), .val (.int ((start + 1 + k : Nat) : Int)), u4, u5], [.val (.int w), .own (.lst qs2), .val (.int start), .val (.int ((start + 1 + k : Nat) : Int)), v4, v5], by rw [em]; rfl, ?_, _, _, _, _, rfl, hq2, by omega⟩
      generalize ((start + 1 + k : Nat) : Int) = M at *
      simp -implicitDefEqProofs [b2_last_tries, -pRng2_i, rp, e])
    exact ⟨qs', u3, u4, u5, e, hq', by omega⟩
  obtain ⟨ρ', e, qs', u2, u3, u4, u5, rfl, hq', hl'⟩ := forL_rng (g := gN 2) (b := b3_last_tries) (fun k ρ => ∃ (qs' : List PV) (u2 u3 u4 u5 : Slot), ρ = [.val (.int w), .own (.lst qs'), u2, u3, u4, u5] ∧ (∀ q ∈ qs', PairOk w q) ∧ qs'.length ≤ 512 * k) 0 w [.val (.int w), .own (.lst []), .unb, .unb, .unb, .unb] ⟨[], _, _, _, _, rfl, by simp, by simp⟩ (by
    rintro k ρ hk ⟨qs', u2, u3, u4, u5, rfl, hq', hl'⟩
    have em : (0 : Int) + (k : Nat) = (k : Nat) := by omega
    obtain ⟨qs2, v3, v4, v5, e, hq2, hl2⟩ := in2 k qs' u3 u4 u5 hk hq' (by omega)
    have i1 : i62 ((k : Int) + 1) = true := i62_of (by omega) (by omega)
    have rp : pRng2 [.int ((k : Int) + 1), .int (w : Int)] = some (rngP ((k : Int) + 1) (w - (k + 1))) := by
      rw [pRng2_i, i1, iw, Bool.and_self, if_pos rfl, show ((w : Int) - ((k : Int) + 1)).toNat = w - (k + 1) by omega]
    refine ⟨[.val (.int w), .own (.lst qs'), .val (.int k), u3, u4, u5], [.val (.int w), .own (.lst qs2), .val (.int k), v3, v4, v5], by rw [em]; rfl, ?_, _, _, _, _, _, rfl, hq2, by omega⟩
    simp -implicitDefEqProofs [b3_last_tries, -pRng2_i, rp, e])
  refine ⟨qs', ?_, hq', by omega⟩
  simp only [F_last_tries, d_last_tries]
  simp -implicitDefEqProofs [iw, e]
/-! ## false words -/
def FalseOk (w : Nat) (net : List Lv) (v : PV) : Prop := ∃ a b : Int, v = .tup [.int a, .int b] ∧ 0 ≤ a ∧ a < 2 ^ w ∧ 0 ≤ b ∧ b < 2 ^ w ∧ netSum w net a b ≠ a + b
def EndsN (w : Nat) (net : List Lv) (pre : List Slot) (n : Nat) (o : Out PF.Flow) : Prop := (∃ us : List Slot, us.length = n ∧ o = .ok .next (pre ++ us)) ∨ ∃ v ρ, o = .ok (.ret v) ρ ∧ FalseOk w net v
theorem false_words_ok {w : Nat} (h1 : 1 ≤ w) (hw : w ≤ 16) {net : List Lv} (h : NetOk w net) (hl : net.length ≤ 200) : ∃ v, F_false_words [.int w, netP net] = .ret v [] ∧ (v = .non ∨ FalseOk w net v) := by
  have ck := check_net_ok h1 (by omega) h hl
  have iw : i62 (w : Int) = true := i62_of (by omega) (by omega)
  have n16 : ¬ (16 : Int) < (w : Nat) := by omega
  have n16' : ¬ 16 < w := by omega
  have in1 : ∀ (p : Nat) (o3 o4 o5 o6 : Slot), p < w → EndsN w net [.val (.int w), .val (netP net), .val (.int p)] 4 (forL (gN 3) b1_false_words (rngP 0 (p + 1)) [.val (.int w), .val (netP net), .val (.int p), o3, o4, o5, o6]) := by
    intro p o3 o4 o5 o6 hp
    refine forL_rng_ends (g := gN 3) (b := b1_false_words) (fun k ρ => ∃ u3 u4 u5 u6, ρ = [.val (.int w), .val (netP net), .val (.int p), u3, u4, u5, u6]) _ 0 (p + 1) _ ⟨o3, o4, o5, o6, rfl⟩ (fun ρ hρ => by
      obtain ⟨u3, u4, u5, u6, rfl⟩ := hρ
      exact .inl ⟨[u3, u4, u5, u6], rfl, rfl⟩) ?_
    rintro k ρ hk ⟨u3, u4, u5, u6, rfl⟩
    have em : (0 : Int) + (k : Nat) = (k : Nat) := by omega
    have s1 := sh1 k (by omega)
    have s2 := sh1 (p + 1) (by omega)
    rw [show ((p + 1 : Nat) : Int) = (p : Int) + 1 by omega] at s2
    have b1 := bit_word (w := w) (k := k) (by omega)
    have lp : (2 : Int) ^ (p + 1) ≤ 2 ^ w := two_le (by omega)
    have pp := two_pos (p + 1)
    have pk := two_pos k
    have r1 : (0 : Int) ≤ 2 ^ (p + 1) - 1 ∧ (2 : Int) ^ (p + 1) - 1 < 2 ^ w := by omega
    have r2 : (0 : Int) ≤ 2 ^ k - 1 ∧ (2 : Int) ^ k - 1 < 2 ^ w := by omega
    have x1 := xor_word r1.1 r1.2 r2.1 r2.2
    have ns := net_sum_e h1 (by omega) h hl x1.1 x1.2 b1.1 b1.2
    refine ⟨[.val (.int w), .val (netP net), .val (.int p), .val (.int k), u4, u5, u6], by rw [em]; rfl, ?_⟩
    by_cases hn : netSum w net (Builtin.bitXor (2 ^ (p + 1) - 1) (2 ^ k - 1)) (2 ^ k) = Builtin.bitXor (2 ^ (p + 1) - 1) (2 ^ k - 1) + 2 ^ k
    · left
      refine ⟨[.val (.int w), .val (netP net), .val (.int p), .val (.int k), .val (.int (2 ^ k)), .val (.int (Builtin.bitXor (2 ^ (p + 1) - 1) (2 ^ k - 1))), .val (.int (2 ^ k))], .inl ?_, _, _, _, _, rfl⟩
      rw [hn] at ns
      clear r1 r2 x1 b1 lp pp pk hn
      generalize netP net = N at *
      generalize (2 : Int) ^ k = K at *
      generalize (2 : Int) ^ (p + 1) = P at *
      simp -implicitDefEqProofs [b1_false_words, s1, s2, ns]
    · right; right
      refine ⟨.tup [.int (Builtin.bitXor (2 ^ (p + 1) - 1) (2 ^ k - 1)), .int (2 ^ k)], [.val (.int w), .val (netP net), .val (.int p), .val (.int k), .val (.int (2 ^ k)), .val (.int (Builtin.bitXor (2 ^ (p + 1) - 1) (2 ^ k - 1))), .val (.int (2 ^ k))], ?_, .inr ⟨_, _, rfl, _, _, rfl, x1.1, x1.2, b1.1, b1.2, hn⟩⟩
      clear r1 r2 x1 b1 lp pp pk
      generalize netSum w net (Builtin.bitXor (2 ^ (p + 1) - 1) (2 ^ k - 1)) (2 ^ k) = NS at *
      generalize netP net = N at *
      generalize (2 : Int) ^ k = K at *
      generalize (2 : Int) ^ (p + 1) = P at *
      simp -implicitDefEqProofs [b1_false_words, s1, s2, ns, hn]
  have in2 : EndsN w net [.val (.int w), .val (netP net)] 5 (forL (gN 2) b2_false_words (rngP 0 w) [.val (.int w), .val (netP net), .unb, .unb, .unb, .unb, .unb]) := by
    refine forL_rng_ends (g := gN 2) (b := b2_false_words) (fun k ρ => ∃ u2 u3 u4 u5 u6, ρ = [.val (.int w), .val (netP net), u2, u3, u4, u5, u6]) _ 0 w _ ⟨_, _, _, _, _, rfl⟩ (fun ρ hρ => by
      obtain ⟨u2, u3, u4, u5, u6, rfl⟩ := hρ
      exact .inl ⟨[u2, u3, u4, u5, u6], rfl, rfl⟩) ?_
    rintro k ρ hk ⟨u2, u3, u4, u5, u6, rfl⟩
    have em : (0 : Int) + (k : Nat) = (k : Nat) := by omega
    have i1 : i62 ((k : Int) + 1) = true := i62_of (by omega) (by omega)
    have n1 : ((k : Int) + 1).toNat = k + 1 := by omega
    refine ⟨[.val (.int w), .val (netP net), .val (.int k), u3, u4, u5, u6], by rw [em]; rfl, ?_⟩
    rcases in1 k u3 u4 u5 u6 hk with ⟨us, hu, e⟩ | ⟨v, ρ, e, hv⟩
    · obtain ⟨v3, v4, v5, v6, rfl⟩ : ∃ a b c d, us = [a, b, c, d] := by
        rcases us with _ | ⟨a, _ | ⟨b, _ | ⟨c, _ | ⟨d, _ | ⟨e, us⟩⟩⟩⟩⟩ <;> simp at hu
        exact ⟨_, _, _, _, rfl⟩
      left
      refine ⟨[.val (.int w), .val (netP net), .val (.int k), v3, v4, v5, v6], .inl ?_, _, _, _, _, _, rfl⟩
      simp only [List.cons_append, List.nil_append] at e
      generalize netP net = N at *
      simp -implicitDefEqProofs [b2_false_words, i1, n1, e]
    · right; right
      refine ⟨v, ρ, ?_, .inr ⟨v, ρ, rfl, hv⟩⟩
      generalize netP net = N at *
      simp -implicitDefEqProofs [b2_false_words, i1, n1, e]
  obtain ⟨qs, el, hq, ll⟩ := last_tries_ok hw
  have in3 : ∀ (rs : List PV) (u2 u3 u4 u5 u6 : Slot), (∀ q ∈ rs, PairOk w q) → EndsN w net [.val (.int w), .val (netP net)] 5 (forL (gT 2 (gsC (gN 5) (gsC (gN 6) gs0))) b3_false_words rs [.val (.int w), .val (netP net), u2, u3, u4, u5, u6]) := by
    intro rs
    induction rs with
    | nil => intro u2 u3 u4 u5 u6 _; exact .inl ⟨[u2, u3, u4, u5, u6], rfl, rfl⟩
    | cons q rs ih =>
      intro u2 u3 u4 u5 u6 hr
      obtain ⟨a, b, rfl, a0, a1, b0, b1⟩ := hr q List.mem_cons_self
      have ns := net_sum_e h1 (by omega) h hl a0 a1 b0 b1
      have hg : gT 2 (gsC (gN 5) (gsC (gN 6) gs0)) (.tup [.int a, .int b]) [.val (.int w), .val (netP net), u2, u3, u4, u5, u6] = some [.val (.int w), .val (netP net), u2, u3, u4, .val (.int a), .val (.int b)] := rfl
      rw [forL_cons, hg, Option.elim_some]
      by_cases hn : netSum w net a b = a + b
      · have eb : b3_false_words [.val (.int w), .val (netP net), u2, u3, u4, .val (.int a), .val (.int b)] = .ok .next [.val (.int w), .val (netP net), u2, u3, u4, .val (.int a), .val (.int b)] := by
          rw [hn] at ns
          generalize netP net = N at *
          simp -implicitDefEqProofs [b3_false_words, ns]
        rw [eb, bind_ok, loopK_next]
        exact ih u2 u3 u4 _ _ fun r hr' => hr r (List.mem_cons_of_mem _ hr')
      · have eb : b3_false_words [.val (.int w), .val (netP net), u2, u3, u4, .val (.int a), .val (.int b)] = .ok (.ret (.tup [.int a, .int b])) [.val (.int w), .val (netP net), u2, u3, u4, .val (.int a), .val (.int b)] := by
          generalize netSum w net a b = NS at *
          generalize netP net = N at *
          simp -implicitDefEqProofs [b3_false_words, ns, hn]
        rw [eb]
        exact .inr ⟨_, _, rfl, a, b, rfl, a0, a1, b0, b1, hn⟩
  rcases in2 with ⟨us, hu, e⟩ | ⟨v, ρ, e, hv⟩
  · obtain ⟨v2, v3, v4, v5, v6, rfl⟩ : ∃ a b c d f, us = [a, b, c, d, f] := by
      rcases us with _ | ⟨a, _ | ⟨b, _ | ⟨c, _ | ⟨d, _ | ⟨e, _ | ⟨f, us⟩⟩⟩⟩⟩⟩ <;> simp at hu
      exact ⟨_, _, _, _, _, rfl⟩
    simp only [List.cons_append, List.nil_append] at e
    rcases in3 qs v2 v3 v4 v5 v6 hq with ⟨us, hu, e2⟩ | ⟨v, ρ, e2, hv⟩
    · refine ⟨.non, ?_, .inl rfl⟩
      generalize netP net = N at *
      simp only [F_false_words, d_false_words]
      simp -implicitDefEqProofs [ck, n16, n16', iw, e, el, e2]
    · refine ⟨v, ?_, .inr hv⟩
      generalize netP net = N at *
      simp only [F_false_words, d_false_words]
      simp -implicitDefEqProofs [ck, n16, n16', iw, e, el, e2]
  · refine ⟨v, ?_, .inr hv⟩
    generalize netP net = N at *
    simp only [F_false_words, d_false_words]
    simp -implicitDefEqProofs [ck, n16, n16', iw, e]
theorem false_words_far {w : Nat} (h1 : 1 ≤ w) (h2 : w ≤ 64) (hw : 16 < w) {net : List Lv} (h : NetOk w net) (hl : net.length ≤ 200) : F_false_words [.int w, netP net] = .exc ⟨"BadNumber", []⟩ := by
  have ck := check_net_ok h1 h2 h hl
  have n16 : (16 : Int) < (w : Nat) := by omega
  generalize netP net = N at *
  simp only [F_false_words, d_false_words]
  simp -implicitDefEqProofs [ck, n16, hw]
end K39

set_option Elab.async false
set_option linter.all false
set_option maxRecDepth 100000
namespace K39
open PF PF.Bt PF.Nt PySem L2
theorem lint_ok (i : Int) : F__law_is_int [.int i] = .ret (.bl true) [] := by
  simp -implicitDefEqProofs [F__law_is_int, d__law_is_int, pIs, isTy, tyOf]
theorem two_ints (y0 y1 y2 y3 y5 : Slot) (p q : Int) : lcL (gN 4) tYesD (dCall F__law_is_int (aCons (dV 4) aNil)) [4] [.int p, .int q] [] [y0, y1, y2, y3, .unb, y5] = .ok [.bl true, .bl true] [y0, y1, y2, y3, .unb, y5] := by
  have l1 := lint_ok p
  have l2 := lint_ok q
  simp -implicitDefEqProofs [lcL_cons, tYesD, l1, l2, wipeE]
theorem lnet_pairs (w : Nat) (y1 y2 : Slot) : ∀ (L : Lv) (o3 : Slot), (∀ c ∈ L, c.2 < c.1 ∧ c.1 < w) → ∃ u3, forL (gN 3) b1__law_is_net (L.map prP) [.val (.int w), y1, y2, o3, .unb, .unb] = .ok .next [.val (.int w), y1, y2, u3, .unb, .unb]
  | [], o3, _ => ⟨o3, rfl⟩
  | c :: L, o3, h => by
    have hc := h c List.mem_cons_self
    obtain ⟨u3, e⟩ := lnet_pairs w y1 y2 L (.val (prP c)) fun d hd => h d (List.mem_cons_of_mem _ hd)
    refine ⟨u3, ?_⟩
    have hg : gN 3 (prP c) [.val (.int w), y1, y2, o3, .unb, .unb] = some [.val (.int w), y1, y2, .val (prP c), .unb, .unb] := rfl
    have ti := two_ints (.val (.int w)) y1 y2 (.val (prP c)) .unb (c.1 : Nat) (c.2 : Nat)
    have it : itOf (prP c) = some [.int (c.1 : Nat), .int (c.2 : Nat)] := rfl
    have ty : pIs "tuple" (prP c) = some (.bl true) := rfl
    have pl : pLen (prP c) = some (.int 2) := rfl
    have x0 : pIx (prP c) (.int 0) = some (.int (c.1 : Nat)) := rfl
    have x1 : pIx (prP c) (.int 1) = some (.int (c.2 : Nat)) := rfl
    have pa : pAll (.lst [.bl true, .bl true]) = some (.bl true) := rfl
    have c1 : (0 : Int) ≤ (c.2 : Nat) := by omega
    have c2 : ((c.2 : Nat) : Int) < (c.1 : Nat) := by omega
    have c3 : ((c.1 : Nat) : Int) < (w : Nat) := by omega
    have eb : b1__law_is_net [.val (.int w), y1, y2, .val (prP c), .unb, .unb] = .ok .next [.val (.int w), y1, y2, .val (prP c), .unb, .unb] := by
      generalize prP c = PC at *
      simp -implicitDefEqProofs [b1__law_is_net, ty, pl, it, ti, pa, x0, x1, c1, c2, c3, hc]
    rw [List.map_cons, forL_cons, hg, Option.elim_some, eb, bind_ok, loopK_next, e]
theorem zip_next : ∀ {L : Lv}, L.Pairwise (fun c d => c.1 < d.1) → ∀ x ∈ zipP (L.map prP) ((L.drop 1).map prP), ∃ c d : Nat × Nat, x = .tup [prP c, prP d] ∧ c.1 < d.1
  | [], _, x, hx => by simp [zipP] at hx
  | [c], _, x, hx => by simp [zipP] at hx
  | c :: d :: L, h, x, hx => by
    rw [List.pairwise_cons] at h
    simp only [List.map_cons, List.drop_succ_cons, List.drop_zero, zipP] at hx
    rcases List.mem_cons.mp hx with z | z
    · exact ⟨c, d, z, h.1 d List.mem_cons_self⟩
    · exact zip_next (L := d :: L) h.2 x z
theorem lnet_ok {w : Nat} (h2 : w ≤ 64) {net : List Lv} (h : NetOk w net) (hl : net.length ≤ 200) : F__law_is_net [.int w, netP net] = .ret (.bl true) [] := by
  obtain ⟨ρ', e, t2, t3, rfl⟩ := forL_inv (g := gN 2) (b := b2__law_is_net) (fun ρ => ∃ t2 t3, ρ = [.val (.int w), .val (netP net), t2, t3, .unb, .unb]) (net.map lvP) [.val (.int w), .val (netP net), .unb, .unb, .unb, .unb] ⟨_, _, rfl⟩ (by
    rintro x hx ρ ⟨t2, t3, rfl⟩
    obtain ⟨L, hL, rfl⟩ := List.mem_map.mp hx
    have ok := h L hL
    have ll := lv_len ok
    obtain ⟨u3, e⟩ := lnet_pairs w (.val (netP net)) (.val (lvP L)) L t3 ok.rng
    have it : itOf (lvP L) = some (L.map prP) := rfl
    have ty : pIs "tuple" (lvP L) = some (.bl true) := rfl
    have sl : pSl (lvP L) (some 1, none) = some (lvP (L.drop 1)) := by
      unfold lvP
      rw [pSl_t, show (1 : Int) = ((1 : Nat) : Int) by omega, sl_some, List.map_drop]
    have pz : pZip [lvP L, lvP (L.drop 1)] = some (zipP (L.map prP) ((L.drop 1).map prP)) := rfl
    have zn := zip_next ok.asc
    have zl : (zipP (L.map prP) ((L.drop 1).map prP)).length ≤ 100 := by
      rw [zipP_len]
      simp
      omega
    have el := lcL_map (g := gT 2 (gsC (gN 4) (gsC (gN 5) gs0))) (e := dT (tCmp cLt (dLV 4 (dC (.int 0)) pIx) (dLV 5 (dC (.int 0)) pIx))) (vs := [4, 5]) (fun _ => PV.bl true) [.val (.int w), .val (netP net), .val (lvP L), u3, .unb, .unb] (zipP (L.map prP) ((L.drop 1).map prP)) [] (by rw [List.length_nil]; omega) (by
      intro z hz
      obtain ⟨c, d, rfl, hcd⟩ := zn z hz
      have x0 : pIx (prP c) (.int 0) = some (.int (c.1 : Nat)) := rfl
      have x1 : pIx (prP d) (.int 0) = some (.int (d.1 : Nat)) := rfl
      have hcd' : ((c.1 : Nat) : Int) < (d.1 : Nat) := by omega
      refine ⟨[.val (.int w), .val (netP net), .val (lvP L), u3, .val (prP c), .val (prP d)], [.val (.int w), .val (netP net), .val (lvP L), u3, .val (prP c), .val (prP d)], by simp, ?_, rfl⟩
      clear hz it ty sl pz e
      generalize netP net = N at *
      generalize lvP L = LP at *
      generalize prP c = PC at *
      generalize prP d = PD at *
      simp -implicitDefEqProofs [x0, x1, hcd, hcd'])
    rw [List.nil_append] at el
    have pa : pAll (.lst ((zipP (L.map prP) ((L.drop 1).map prP)).map fun _ => PV.bl true)) = some (.bl true) := by
      rw [pAll_fn (fun _ : PV => true)]
      simp
    refine ⟨[.val (.int w), .val (netP net), .val (lvP L), t3, .unb, .unb], [.val (.int w), .val (netP net), .val (lvP L), u3, .unb, .unb], rfl, ?_, _, _, rfl⟩
    clear zn
    generalize ((zipP (L.map prP) ((L.drop 1).map prP)).map fun _ => PV.bl true) = BB at *
    generalize zipP (L.map prP) ((L.drop 1).map prP) = ZZ at *
    generalize netP net = N at *
    generalize lvP L = LP at *
    generalize lvP (L.drop 1) = LQ at *
    generalize L.map prP = LL at *
    simp -implicitDefEqProofs [b2__law_is_net, ty, it, e, sl, pz, el, pa])
  have it : itOf (netP net) = some (net.map lvP) := rfl
  have ty : pIs "tuple" (netP net) = some (.bl true) := rfl
  have pl : pLen (netP net) = some (.int (net.length : Nat)) := by simp [netP]
  have nl : ¬ (200 < ((net.length : Nat) : Int)) := by omega
  have nl' : ¬ 200 < net.length := by omega
  generalize netP net = N at *
  generalize net.map lvP = NN at *
  simp only [F__law_is_net, d__law_is_net]
  simp -implicitDefEqProofs [ty, pl, nl, nl', it, e]
theorem lwhole_ok {w : Nat} (h1 : 1 ≤ w) (h2 : w ≤ 64) {net : List Lv} (h : NetOk w net) (hl : net.length ≤ 200) : F__law_is_whole [.int w, netP net] = .ret (.bl (wholeB w net)) [] := by
  have e1 := lnet_ok h2 h hl
  have e2 := lspans_e h1 h2 h
  obtain ⟨m, em, ew⟩ := lwhole_e h1 net
  have gn := gap_non (gapN 0 id net)
  rw [ew]
  generalize netP net = N at *
  generalize gapP (gapN 0 id net) = GP at *
  generalize (gapN 0 id net).isNone = GI at *
  generalize nL w (lowsN id net) = NL at *
  simp only [F__law_is_whole, d__law_is_whole]
  cases GI with
  | true =>
    by_cases m0 : m = 0
    · simp -implicitDefEqProofs [e1, e2, gn, em, m0]
    · simp -implicitDefEqProofs [e1, e2, gn, em, m0]
  | false => simp -implicitDefEqProofs [e1, e2, gn, em]
theorem any_word_ok {p : PV} (hp : Hd p) {w : Nat} (h1 : 1 ≤ w) (h2 : w ≤ 64) : ∃ (x : Int) (p' : PV), 0 ≤ x ∧ x < 2 ^ w ∧ Hd p' ∧ F__law_any_word [p, .int w] = .ret (.int x) [p'] := by
  have hc := two_cap h2
  have pw := two_pos w
  have sw := sh1 w (by omega)
  have w2 : (2 : Int) ^ 1 ≤ 2 ^ w := two_le h1
  have e2 : (2 : Int) ^ 1 = 2 := rfl
  obtain ⟨d1, p1, a0, a1, g1, q1⟩ := draw_ok hp (m := 2 ^ w - 1 + 1) (by omega) (by omega)
  obtain ⟨r, p2, r0, r1, g2, q2⟩ := draw_ok g1 (m := (w : Int)) (by omega) (by omega)
  obtain ⟨n, rfl⟩ := Int.eq_ofNat_of_zero_le r0
  have sn := sh1 n (by omega)
  have bn := bit_word (w := w) (k := n) (by omega)
  obtain ⟨d3, p3, b0, b1, g3, q3⟩ := draw_ok g2 (m := 2) (by omega) (by omega)
  obtain ⟨z, p4, hz, g4, q4⟩ := any_p g3 (xs := [.int d1, .int (2 ^ w - 1), .int (2 ^ n), .int 0, .int (2 ^ w - 1 - d3)]) (fun z => ∃ x : Int, z = .int x ∧ 0 ≤ x ∧ x < 2 ^ w) (by simp) (by simp) (by
    intro z hz
    simp only [List.mem_cons, List.not_mem_nil, or_false] at hz
    rcases hz with rfl | rfl | rfl | rfl | rfl
    · exact ⟨_, rfl, a0, by omega⟩
    · exact ⟨_, rfl, by omega, by omega⟩
    · exact ⟨_, rfl, by omega, by omega⟩
    · exact ⟨_, rfl, by omega, by omega⟩
    · exact ⟨_, rfl, by omega, by omega⟩)
  obtain ⟨x, rfl, x0, x1⟩ := hz
  refine ⟨x, p4, x0, x1, g4, ?_⟩
  clear bn
  generalize (2 : Int) ^ w = W at *
  generalize (2 : Int) ^ n = N at *
  have we : W - 1 + 1 = W := by omega
  rw [we] at q1
  simp only [F__law_any_word, d__law_any_word]
  simp -implicitDefEqProofs [sw, q1, q2, sn, q3, q4, we]
theorem netSum_comm (w : Nat) (net : List Lv) (x y : Int) : netSum w net y x = netSum w net x y := by
  have e : startS (bitF y) (bitF x) = startS (bitF x) (bitF y) := by
    unfold startS
    congr 1
    · funext i; exact Bool.and_comm _ _
    · funext i; exact Bool.xor_comm _ _
  unfold netSum
  rw [e]
  unfold sumOf
  congr 1
  funext i
  unfold sumD
  rw [Bool.xor_comm (bitF y i)]
end K39

set_option Elab.async false
set_option linter.all false
set_option maxRecDepth 100000
namespace K39
open PF PF.Bt PF.Nt PySem L2
theorem said_width : H__law_word (.exc ⟨"BadWidth", []⟩) = .ret (.str "width") [] := by kernel_rfl
theorem said_net : H__law_word (.exc ⟨"BadNet", []⟩) = .ret (.str "net") [] := by kernel_rfl
theorem said_word : H__law_word (.exc ⟨"BadWord", []⟩) = .ret (.str "word") [] := by kernel_rfl
theorem said_number : H__law_word (.exc ⟨"BadNumber", []⟩) = .ret (.str "number") [] := by kernel_rfl
theorem two_in (y0 y1 y2 y3 y5 y6 y7 : Slot) {w : Nat} (hw : w ≤ 64) {p q : Int} (p0 : 0 ≤ p) (p1 : p < 2 ^ w) (q0 : 0 ≤ q) (q1 : q < 2 ^ w) : lcL (gN 4) tYesD (dT (tChain cLe cLt (dC (.int (0))) (dV 4) (dOp pShl (dC (.int (1))) (dV 1)))) [4] [.int p, .int q] [] [y0, .val (.int w), y2, y3, .unb, y5, y6, y7] = .ok [.bl true, .bl true] [y0, .val (.int w), y2, y3, .unb, y5, y6, y7] := by
  have sw := sh1 w (by omega)
  simp -implicitDefEqProofs [lcL_cons, tYesD, sw, wipeE, p0, p1, q0, q1]
theorem two_ints' (y0 y1 y2 y3 y5 y6 y7 : Slot) (p q : Int) : lcL (gN 4) tYesD (dCall F__law_is_int (aCons (dV 4) aNil)) [4] [.int p, .int q] [] [y0, y1, y2, y3, .unb, y5, y6, y7] = .ok [.bl true, .bl true] [y0, y1, y2, y3, .unb, y5, y6, y7] := by
  have l1 := lint_ok p
  have l2 := lint_ok q
  simp -implicitDefEqProofs [lcL_cons, tYesD, l1, l2, wipeE]
theorem is_right_ok {p : PV} (hp : Hd p) {w : Nat} (h1 : 1 ≤ w) (h2 : w ≤ 64) {net : List Lv} (h : NetOk w net) (hl : net.length ≤ 64) : ∃ p', Hd p' ∧ F__law_is_right [p, .int w, netP net] = .ret (.bl true) [p'] := by
  obtain ⟨ρ', e, p1, g1, t3, t4, t5, t6, rfl⟩ := forL_inv (g := gN 3) (b := b1__law_is_right) (fun ρ => ∃ p, Hd p ∧ ∃ t3 t4 t5 t6, ρ = [.own p, .val (.int w), .val (netP net), t3, t4, t5, t6, .unb]) (rngP 0 4) [.own p, .val (.int w), .val (netP net), .unb, .unb, .unb, .unb, .unb] ⟨p, hp, _, _, _, _, rfl⟩ (by
    rintro q hq ρ ⟨p, hp, t3, t4, t5, t6, rfl⟩
    obtain ⟨x, p1, x0, x1, g1, e1⟩ := any_word_ok hp h1 h2
    obtain ⟨y, p2, y0, y1, g2, e2⟩ := any_word_ok g1 h1 h2
    have ls := lsum_e h1 h2 h x0 x1 y0 y1
    have n1 := net_sum_e h1 h2 h (by omega) x0 x1 y0 y1
    have n2 := net_sum_e h1 h2 h (by omega) y0 y1 x0 x1
    rw [netSum_comm] at n2
    have lw := lwhole_ok h1 h2 h (by omega)
    have l1 : F__law_is [.lst [.int (netSum w net x y), .int (netSum w net x y)], .lst [.int (netSum w net x y), .int (netSum w net x y)]] = .ret (.bl true) [] := lis_ok rfl rfl
    refine ⟨[.own p, .val (.int w), .val (netP net), .val q, t4, t5, t6, .unb], [.own p2, .val (.int w), .val (netP net), .val q, .val (.int x), .val (.int y), .val (.int (netSum w net x y)), .unb], rfl, ?_, p2, g2, _, _, _, _, rfl⟩
    clear hq
    cases hw : wholeB w net with
    | true =>
      rw [whole_sum h1 h ((wholeB_iff w net).mp hw) x0 x1 y0 y1] at ls n1 n2 l1 ⊢
      rw [hw] at lw
      generalize netP net = N at *
      simp -implicitDefEqProofs [b1__law_is_right, e1, e2, ls, n1, n2, l1, lw]
    | false =>
      rw [hw] at lw
      generalize netSum w net x y = NS at *
      generalize netP net = N at *
      simp -implicitDefEqProofs [b1__law_is_right, e1, e2, ls, n1, n2, l1, lw])
  have i4 : i62 (4 : Int) = true := i62_of (by omega) (by omega)
  refine ⟨p1, g1, ?_⟩
  by_cases h16 : 16 < w
  · have ff := false_words_far h1 h2 h16 h (by omega)
    have i16 : (16 : Int) < (w : Nat) := by omega
    generalize netP net = N at *
    simp only [F__law_is_right, d__law_is_right]
    simp -implicitDefEqProofs [i4, e, i16, h16, ff, said_number]
  · have i16 : ¬ (16 : Int) < (w : Nat) := by omega
    obtain ⟨v, ff, hv⟩ := false_words_ok h1 (by omega) h (by omega)
    rcases hv with rfl | ⟨a, b, rfl, a0, a1, b0, b1, hn⟩
    · generalize netP net = N at *
      simp only [F__law_is_right, d__law_is_right]
      simp -implicitDefEqProofs [i4, e, i16, h16, ff, cIsN]
    · have wb : wholeB w net = false := by
        cases hw : wholeB w net with
        | false => rfl
        | true => exact absurd (whole_sum h1 h ((wholeB_iff w net).mp hw) a0 a1 b0 b1) hn
      have iw := is_whole_e h1 h2 h (by omega)
      rw [wb] at iw
      have ls := lsum_e h1 h2 h a0 a1 b0 b1
      have c1 := two_ints' (.own p1) (.val (.int w)) (.val (netP net)) t3 t5 t6 (.val (.tup [.int a, .int b])) a b
      have c2 := two_in (.own p1) (.val (netP net)) t3 t5 t6 (.val (.tup [.int a, .int b])) .unb h2 a0 a1 b0 b1
      have c2' := two_in (.own p1) (.unb) (.val (netP net)) t3 t5 t6 (.val (.tup [.int a, .int b])) h2 a0 a1 b0 b1
      have pa : pAll (.lst [.bl true, .bl true]) = some (.bl true) := rfl
      have x0 : atI [PV.int a, PV.int b] 0 = some (.int a) := rfl
      have x1 : atI [PV.int a, PV.int b] 1 = some (.int b) := rfl
      have ps : pSum (.tup [.int a, .int b]) = some (.int (a + b)) := by
        show some (PV.int (a + (b + 0))) = _
        rw [Int.add_zero]
      have ty : pIs "tuple" (.tup [.int a, .int b]) = some (.bl true) := rfl
      have nb : (netSum w net a b == a + b) = false := by simpa using hn
      generalize netSum w net a b = NS at *
      generalize netP net = N at *
      simp only [F__law_is_right, d__law_is_right]
      simp -implicitDefEqProofs [i4, e, i16, h16, ff, cIsN, ty, c1, c2', pa, iw, x0, x1, ls, ps, hn, nb]
theorem bad_net {v : Nat} (h1 : 1 ≤ v) (h2 : v ≤ 64) (q : PV) (hq : q ∈ [PV.non, .lst [.tup []], .tup [.tup [.int 1, .int 0]], .tup [.tup [.tup [.int 1, .int 1]]], .int 0, .dic [] [], .tup [.tup [.tup [.int (v : Nat), .int 0]]]]) : F_check_net [.int v, q] = .exc ⟨"BadNet", []⟩ := by
  have c := cwid h1 h2
  have fin : ∀ q, F_is_net [.int v, q] = .ret (.bl false) [] → F_check_net [.int v, q] = .exc ⟨"BadNet", []⟩ := by
    intro q e
    simp -implicitDefEqProofs [F_check_net, d_check_net, e]
  have t2 : ∀ a b : PV, F_is_tuple_of [.tup [a, b], .int 2] = .ret (.bl true) [] := by
    intro a b
    simp -implicitDefEqProofs [F_is_tuple_of, d_is_tuple_of, pIs, isTy, tyOf]
  have ti : ∀ i : Int, F_is_tuple_of [.int i, .int 2] = .ret (.bl false) [] := by
    intro i
    simp -implicitDefEqProofs [F_is_tuple_of, d_is_tuple_of, pIs, isTy, tyOf]
  have a1 : pAll (.lst [.bl true]) = some (.bl true) := rfl
  have a2 : pAll (.lst [.bl false, .bl false]) = some (.bl false) := rfl
  have w0 := is_within_e (.int 0) 0 ((v : Int) - 1) rfl
  have w1 := is_within_e (.int 1) 0 ((v : Int) - 1) rfl
  have wv := is_within_e (.int v) 0 ((v : Int) - 1) rfl
  have nv : inR (.int (v : Int)) 0 ((v : Int) - 1) = false := by simp; omega
  rw [nv] at wv
  simp only [List.mem_cons, List.not_mem_nil, or_false] at hq
  rcases hq with rfl | rfl | rfl | rfl | rfl | rfl | rfl
  · exact fin _ (by simp -implicitDefEqProofs [F_is_net, d_is_net, c, pIs, isTy, tyOf])
  · exact fin _ (by simp -implicitDefEqProofs [F_is_net, d_is_net, c, pIs, isTy, tyOf])
  · exact fin _ (by simp -implicitDefEqProofs [F_is_net, d_is_net, c, pIs, isTy, tyOf, forL_cons, b2_is_net, lcL_cons, tYesD, ti, a2, wipeE])
  · cases hi : inR (.int 1) 0 ((v : Int) - 1) with
    | true =>
      rw [hi] at w1
      exact fin _ (by simp -implicitDefEqProofs [F_is_net, d_is_net, c, pIs, isTy, tyOf, forL_cons, b2_is_net, b1_is_net, lcL_cons, tYesD, t2, a1, wipeE, w1])
    | false =>
      rw [hi] at w1
      exact fin _ (by simp -implicitDefEqProofs [F_is_net, d_is_net, c, pIs, isTy, tyOf, forL_cons, b2_is_net, b1_is_net, lcL_cons, tYesD, t2, a1, wipeE, w1])
  · exact fin _ (by simp -implicitDefEqProofs [F_is_net, d_is_net, c, pIs, isTy, tyOf])
  · exact fin _ (by simp -implicitDefEqProofs [F_is_net, d_is_net, c, pIs, isTy, tyOf])
  · exact fin _ (by simp -implicitDefEqProofs [F_is_net, d_is_net, c, pIs, isTy, tyOf, forL_cons, b2_is_net, b1_is_net, lcL_cons, tYesD, t2, a1, wipeE, wv])
theorem check_net_b (o q : PV) (h : isDat o = true) (hr : inR o 1 64 = false) : F_check_net [o, q] = .exc ⟨"BadWidth", []⟩ := by
  have c : F_check_width [o] = .exc ⟨"BadWidth", []⟩ := by rw [check_width_e o h, if_neg (by rw [hr]; simp)]
  simp only [F_check_net, d_check_net, F_is_net, d_is_net]
  simp -implicitDefEqProofs [c]
theorem no_width_ok {p : PV} (hp : Hd p) : ∃ o p', (isDat o = true ∧ inR o 1 64 = false) ∧ Hd p' ∧ F__law_no_width [p] = .ret o [p'] := by
  obtain ⟨o, p1, ho, g1, e1⟩ := any_p hp (xs := [.int 0, .int 65, .int (-1), .non, .bl true, .str "8", .tup [.int 8]]) (fun o => isDat o = true ∧ inR o 1 64 = false) (by simp) (by simp) (by
    intro x hx
    simp only [List.mem_cons, List.not_mem_nil, or_false] at hx
    rcases hx with rfl | rfl | rfl | rfl | rfl | rfl | rfl <;> simp)
  refine ⟨o, p1, ho, g1, ?_⟩
  simp only [F__law_no_width, d__law_no_width]
  simp -implicitDefEqProofs [e1]
theorem refused_ok {p : PV} (hp : Hd p) {w : Nat} (h1 : 1 ≤ w) (h2 : w ≤ 64) {net : List Lv} (h : NetOk w net) (hl : net.length ≤ 64) : ∃ p', Hd p' ∧ F__law_are_refused_right [p, .int w, netP net] = .ret (.bl true) [p'] := by
  have sw := sh1 w (by omega)
  have pw := two_pos w
  obtain ⟨o, p1, ⟨od, or⟩, g1, e1⟩ := no_width_ok hp
  obtain ⟨bad, p2, hb, g2, e2⟩ := any_p g1 (xs := [PV.non, .lst [.tup []], .tup [.tup [.int 1, .int 0]], .tup [.tup [.tup [.int 1, .int 1]]], .int 0, .dic [] [], .tup [.tup [.tup [.int (w : Nat), .int 0]]]]) (fun q => F_check_net [.int w, q] = .exc ⟨"BadNet", []⟩) (by simp) (by simp) (fun q hq => bad_net h1 h2 q hq)
  obtain ⟨odd, p3, ⟨dd, dr⟩, g3, e3⟩ := any_p g2 (xs := [.int (-1), .int (2 ^ w), .non, .bl true, .str "0", .tup [.int 0]]) (fun q => isDat q = true ∧ inR q 0 (2 ^ w - 1) = false) (by simp) (by simp) (by
    intro x hx
    simp only [List.mem_cons, List.not_mem_nil, or_false] at hx
    rcases hx with rfl | rfl | rfl | rfl | rfl | rfl
    · exact ⟨rfl, by simp⟩
    · exact ⟨rfl, by simp; omega⟩
    · exact ⟨rfl, rfl⟩
    · exact ⟨rfl, rfl⟩
    · exact ⟨rfl, rfl⟩
    · exact ⟨rfl, rfl⟩)
  have ck := check_net_ok h1 h2 h (by omega)
  have cb := check_net_b o bad od or
  have cw : F_check_word [.int w, odd] = .exc ⟨"BadWord", []⟩ := by
    rw [check_word_e (by omega) (by omega) odd dd, Int.toNat_natCast, dr, if_neg (by simp)]
  have c0 := chw h1 h2 (x := 0) (by omega) pw
  have q1 : F_net_sum [o, bad, odd, odd] = .exc ⟨"BadWidth", []⟩ := by simp -implicitDefEqProofs [F_net_sum, d_net_sum, cb]
  have q2 : F_net_sum [.int w, bad, odd, odd] = .exc ⟨"BadNet", []⟩ := by simp -implicitDefEqProofs [F_net_sum, d_net_sum, hb]
  have q3 : F_net_sum [.int w, netP net, odd, .int 0] = .exc ⟨"BadWord", []⟩ := by simp -implicitDefEqProofs [F_net_sum, d_net_sum, ck, cw]
  have q4 : F_net_sum [.int w, netP net, .int 0, odd] = .exc ⟨"BadWord", []⟩ := by simp -implicitDefEqProofs [F_net_sum, d_net_sum, ck, c0, cw]
  have q5 : F_false_words [o, bad] = .exc ⟨"BadWidth", []⟩ := by simp -implicitDefEqProofs [F_false_words, d_false_words, cb]
  obtain ⟨d, p4, d0, d1, g4, e4⟩ := draw_ok g3 (m := 48) (by omega) (by omega)
  obtain ⟨v, hv⟩ : ∃ v : Nat, 17 + d = (v : Int) := ⟨(17 + d).toNat, by omega⟩
  have q6 : F_false_words [.int v, .tup []] = .exc ⟨"BadNumber", []⟩ := false_words_far (w := v) (by omega) (by omega) (by omega) (net := []) (by intro L hL; simp at hL) (by simp)
  obtain ⟨wrong, p5, hw, g5, e5⟩ := any_p g4 (xs := [.non, .lst [.tup []], .tup [.tup [.tup [.int 1, .int 1]]], .int 0]) (fun q => ∀ v : Nat, 1 ≤ v → v ≤ 64 → F_check_net [.int v, q] = .exc ⟨"BadNet", []⟩) (by simp) (by simp) (by
    intro x hx v v1 v2
    refine bad_net v1 v2 x ?_
    simp only [List.mem_cons, List.not_mem_nil, or_false] at hx ⊢
    rcases hx with rfl | rfl | rfl | rfl <;> simp)
  obtain ⟨d', p6, d0', d1', g6, e6⟩ := draw_ok g5 (m := 48) (by omega) (by omega)
  obtain ⟨v', hv'⟩ : ∃ v : Nat, 17 + d' = (v : Int) := ⟨(17 + d').toNat, by omega⟩
  have cw1 := hw v' (by omega) (by omega)
  have q7 : F_false_words [.int v', wrong] = .exc ⟨"BadNet", []⟩ := by simp -implicitDefEqProofs [F_false_words, d_false_words, cw1]
  obtain ⟨wrong2, p7, hw2, g7, e7⟩ := any_p g6 (xs := [.non, .lst [.tup []], .tup [.tup [.tup [.int 1, .int 1]]], .int 0]) (fun q => ∀ v : Nat, 1 ≤ v → v ≤ 64 → F_check_net [.int v, q] = .exc ⟨"BadNet", []⟩) (by simp) (by simp) (by
    intro x hx v v1 v2
    refine bad_net v1 v2 x ?_
    simp only [List.mem_cons, List.not_mem_nil, or_false] at hx ⊢
    rcases hx with rfl | rfl | rfl | rfl <;> simp)
  have em : min (w : Int) 16 = ((min w 16 : Nat) : Int) := by omega
  have cw2 := hw2 (min w 16) (by omega) (by omega)
  have q8 : F_false_words [.int ((min w 16 : Nat) : Int), wrong2] = .exc ⟨"BadNet", []⟩ := by simp -implicitDefEqProofs [F_false_words, d_false_words, cw2]
  refine ⟨p7, g7, ?_⟩
  rw [← em] at q8
  clear hw hw2 cw2 em
  generalize netP net = N at *
  generalize (2 : Int) ^ w = W at *
  simp only [F__law_are_refused_right, d__law_are_refused_right]
  simp -implicitDefEqProofs [e1, e2, sw, e3, q1, q2, q3, q4, q5, e4, hv, q6, e5, e6, hv', q7, e7, q8, said_width, said_net, said_word, said_number]
theorem empty_sum {w : Nat} (h1 : 1 ≤ w) {x y : Int} (x0 : 0 ≤ x) (x1 : x < 2 ^ w) (y0 : 0 ≤ y) (y1 : y < 2 ^ w) : netSum w [] x y = Builtin.bitXor (Builtin.bitXor x y) (2 * Builtin.bitAnd x y) := by
  have ra := Bw.rng bw_and x0 x1 y0 y1
  have rx := xor_word x0 x1 y0 y1
  have lt : (2 : Int) ^ (w + 1) = 2 * 2 ^ w := by rw [Int.pow_succ, Int.mul_comm]
  have r := xor_word (w := w + 1) (x := Builtin.bitXor x y) (y := 2 * Builtin.bitAnd x y) rx.1 (by omega) (by omega) (by omega)
  symm
  refine eq_wordF r.1 r.2 fun i hi => ?_
  rw [dig_xor, bits_xor, Int.mul_comm 2, show Builtin.bitAnd x y * 2 = Builtin.bitAnd x y * 2 ^ 1 from rfl, dig_shl]
  have big : ∀ i, w ≤ i → bitF x i = false ∧ bitF y i = false := by
    intro i hi
    unfold bitF
    rw [dig_big x0 x1 hi, dig_big y0 y1 hi]
    simp
  show _ = sumD w (bitF x) (bitF y) (fun i => bitF x i && bitF y i) i
  unfold sumD
  cases i with
  | zero =>
    rw [if_pos (by omega), if_pos (by omega)]
    simp only [cmk]
    cases bitF x 0 <;> cases bitF y 0 <;> decide
  | succ i =>
    rw [if_neg (by omega), Nat.add_sub_cancel, bits_and]
    by_cases g : i + 1 < w
    · rw [if_pos g]
      simp only [cmk]
      cases bitF x (i + 1) <;> cases bitF y (i + 1) <;> cases bitF x i <;> cases bitF y i <;> decide
    · have ew : w = i + 1 := by omega
      rw [if_neg g, (big (i + 1) (by omega)).1, (big (i + 1) (by omega)).2, ew]
      simp only [cmk]
      cases bitF x i <;> cases bitF y i <;> decide
theorem turn_ok {p : PV} (hp : Hd p) (sc : PV) (s2 s3 s4 s5 s6 : Slot) : ∃ p', Hd p' ∧ ∃ u3 u4 u5 u6, b1_law [.val sc, .own p, s2, s3, s4, s5, s6] = .ok .next [.val sc, .own p', s2, u3, u4, u5, u6] := by
  obtain ⟨m, p1, hm, g1, e1⟩ := any_p hp (xs := [.int 4, .int 10, .int 16, .int 64]) (fun z => ∃ m : Int, z = .int m ∧ 0 < m ∧ m ≤ 64) (by simp) (by simp) (by
    intro x hx
    simp only [List.mem_cons, List.not_mem_nil, or_false] at hx
    rcases hx with rfl | rfl | rfl | rfl
    · exact ⟨_, rfl, by omega, by omega⟩
    · exact ⟨_, rfl, by omega, by omega⟩
    · exact ⟨_, rfl, by omega, by omega⟩
    · exact ⟨_, rfl, by omega, by omega⟩)
  obtain ⟨m, rfl, m0, m1⟩ := hm
  obtain ⟨r, p2, r0, r1, g2, e2⟩ := draw_ok g1 (m := m) m0 (by omega)
  obtain ⟨w, hw⟩ : ∃ w : Nat, 1 + r = (w : Int) := ⟨(1 + r).toNat, by omega⟩
  have h1 : 1 ≤ w := by omega
  have h2 : w ≤ 64 := by omega
  obtain ⟨net, p3, ok, nl, g3, e3⟩ := net_ok g2 h1 h2
  obtain ⟨p4, g4, e4⟩ := is_right_ok g3 h1 h2 ok nl
  obtain ⟨p5, g5, e5⟩ := refused_ok g4 h1 h2 ok nl
  obtain ⟨x, p6, x0, x1, g6, e6⟩ := any_word_ok g5 h1 h2
  obtain ⟨y, p7, y0, y1, g7, e7⟩ := any_word_ok g6 h1 h2
  have ns : F_net_sum [.int w, .tup [], .int x, .int y] = .ret (.int (netSum w [] x y)) [] := net_sum_e h1 h2 (net := []) (by intro L hL; simp at hL) (by simp) x0 x1 y0 y1
  rw [empty_sum h1 x0 x1 y0 y1] at ns
  have pm : pMul (.int 2) (.int (Builtin.bitAnd x y)) = some (.int (2 * Builtin.bitAnd x y)) := pMul_l (by omega)
  have l1 : F__law_is [.int (Builtin.bitXor (Builtin.bitXor x y) (2 * Builtin.bitAnd x y)), .int (Builtin.bitXor (Builtin.bitXor x y) (2 * Builtin.bitAnd x y))] = .ret (.bl true) [] := lis_ok rfl rfl
  refine ⟨p7, g7, ?_⟩
  generalize netP net = N1 at *
  simp only [b1_law]
  simp -implicitDefEqProofs [e1, e2, hw, e3, e4, e5, e6, e7, ns, pm, l1]
theorem end1 : F_net_sum [.int 2, .tup [.tup [.tup [.int 1, .int 0]]], .int 3, .int 1] = .ret (.int 4) [] := by kernel_rfl
theorem end2 : F_net_sum [.int 2, .tup [], .int 3, .int 1] = .ret (.int 0) [] := by kernel_rfl
theorem end3 : F_false_words [.int 1, .tup []] = .ret .non [] := by kernel_rfl
theorem end4 : F__law_is [.lst [.int 4, .int 0, .non], .lst [.int 4, .int 0, .non]] = .ret (.bl true) [] := lis_ok rfl rfl
theorem law_true (ns : List Int) (h : ns.length ≤ 63) (h2 : ∀ z ∈ ns, Builtin.Int.intBits z ≤ 1048576) : ∃ io, F_law [.scr (ns.map .int)] = .ret (.bl true) io := by
  obtain ⟨q, hq, e⟩ := hand_ok ns h
  obtain ⟨ρ', e2, p, hp, t2, t3, t4, t5, t6, rfl⟩ := forL_inv (g := gN 2) (b := b1_law) (fun ρ => ∃ p, Hd p ∧ ∃ t2 t3 t4 t5 t6, ρ = [.val (.scr (ns.map .int)), .own p, t2, t3, t4, t5, t6]) (rngP 0 5)
    [.val (.scr (ns.map .int)), .own (.lst q), .unb, .unb, .unb, .unb, .unb] ⟨_, hq, _, _, _, _, _, rfl⟩ (by
      rintro x hx ρ ⟨p, hp, t2, t3, t4, t5, t6, rfl⟩
      obtain ⟨p', hp', u3, u4, u5, u6, e⟩ := turn_ok hp (.scr (ns.map .int)) (.val x) t3 t4 t5 t6
      exact ⟨_, _, rfl, e, p', hp', _, _, _, _, _, rfl⟩)
  refine ⟨[], ?_⟩
  simp only [F_law, d_law]
  simp -implicitDefEqProofs [e, i62, e2, end1, end2, end3, end4]
end K39

set_option Elab.async false
set_option linter.all false
set_option maxRecDepth 100000
open PySem PySem.W PyProof.Rows in
set_option maxRecDepth 100000 in
set_option maxHeartbeats 0 in
theorem PySem.Challenge.cw_wordhouse_k39_whole_net_sums_holds : PySem.Challenge.rw_wordhouse_k39_whole_net_sums.Holds := by
  w_on; o_law; k_head; (case hw => w_witness2)
  k_fill
  refine PF.walk_pf (l := PySem.Challenge.rw_wordhouse_k39_whole_net_sums) (k := 13) (Flaw := K39.F_law) (K39.top 43) rfl rfl rfl ⟨rfl, by decide, by decide⟩ (fun w h Y => PySem.W.km_in_of Y) K39.law_true ?F
  case F =>
    intro w mg h Y KX G
    have hT := PySem.W.km_tabs_of Y
    refine' K39.all_mk KX G ?zzb0 ?zzb1 ?zzb2 ?zzb3 ?zzb4 ?zzb5 ?zzb6 ?zzb7 ?zzb8 ?zzb9 ?zzb10 ?zzb11 ?zzb12 ?zzb13 ?zzb14 ?zzb15 ?zzb16 ?zzb17 ?zzb18 ?zzb19 ?zzb20 ?zzb21 ?zze0 ?zze1 ?zze2 ?zze3 ?zze4 ?zze5 ?zze6 ?zze7 ?zze8 ?zzex ?zzg0 ?zzr0 ?zza0 ?zzl0 ?zzc0 ?zzk0 ?zza1 ?zzl1 ?zzc1 ?zzk1 ?zza2 ?zzl2 ?zzc2 ?zzk2 ?zza3 ?zzl3 ?zzc3 ?zzk3 ?zza4 ?zzl4 ?zzc4 ?zzk4 ?zza5 ?zzl5 ?zzc5 ?zzk5 ?zza6 ?zzl6 ?zzc6 ?zzk6 ?zza7 ?zzl7 ?zzc7 ?zzk7 ?zza8 ?zzl8 ?zzc8 ?zzk8 ?zza9 ?zzl9 ?zzc9 ?zzk9 ?zza10 ?zzl10 ?zzc10 ?zzk10 ?zza11 ?zzl11 ?zzc11 ?zzk11 ?zza12 ?zzl12 ?zzc12 ?zzk12 ?zza13 ?zzl13 ?zzc13 ?zzk13 ?zza14 ?zzl14 ?zzc14 ?zzk14 ?zza15 ?zzl15 ?zzc15 ?zzk15 ?zza16 ?zzl16 ?zzc16 ?zzk16 ?zza17 ?zzl17 ?zzc17 ?zzk17 ?zza18 ?zzl18 ?zzc18 ?zzk18 ?zza19 ?zzl19 ?zzc19 ?zzk19 ?zza20 ?zzl20 ?zzc20 ?zzk20 ?zza21 ?zzl21 ?zzc21 ?zzk21 ?zza22 ?zzl22 ?zzc22 ?zzk22 ?zza23 ?zzl23 ?zzc23 ?zzk23 ?zza24 ?zzl24 ?zzc24 ?zzk24 ?zza25 ?zzl25 ?zzc25 ?zzk25 ?zza26 ?zzl26 ?zzc26 ?zzk26 ?zza27 ?zzl27 ?zzc27 ?zzk27 ?zza28 ?zzl28 ?zzc28 ?zzk28 ?zzp25 ?zzv25 ?zzd25 ?zzn25 ?zzh25 ?zzp27 ?zzv27 ?zzd27 ?zzn27 ?zzh27 ?zzne
    (case zzb0 => k_is)
    (case zzb1 => k_is)
    (case zzb2 => k_is)
    (case zzb3 => k_is)
    (case zzb4 => k_is)
    (case zzb5 => k_is)
    (case zzb6 => k_is)
    (case zzb7 => k_is)
    (case zzb8 => k_is)
    (case zzb9 => k_is)
    (case zzb10 => k_is)
    (case zzb11 => k_is)
    (case zzb12 => k_is)
    (case zzb13 => k_is)
    (case zzb14 => k_is)
    (case zzb15 => k_is)
    (case zzb16 => k_is)
    (case zzb17 => k_is)
    (case zzb18 => k_is)
    (case zzb19 => k_is)
    (case zzb20 => k_is)
    (case zzb21 => k_is)
    (case zze0 => k_is)
    (case zze1 => k_is)
    (case zze2 => k_is)
    (case zze3 => k_is)
    (case zze4 => k_is)
    (case zze5 => k_is)
    (case zze6 => k_is)
    (case zze7 => k_is)
    (case zze8 => k_is)
    (case zzex => kernel_rfl)
    (case zzg0 => k_is)
    (case zzr0 => kernel_rfl)
    (case zza0 => k_is)
    (case zzl0 => k_is)
    (case zzc0 => k_is)
    (case zzk0 => k_is)
    (case zza1 => k_is)
    (case zzl1 => k_is)
    (case zzc1 => k_is)
    (case zzk1 => k_is)
    (case zza2 => k_is)
    (case zzl2 => k_is)
    (case zzc2 => k_is)
    (case zzk2 => k_is)
    (case zza3 => k_is)
    (case zzl3 => k_is)
    (case zzc3 => k_is)
    (case zzk3 => k_is)
    (case zza4 => k_is)
    (case zzl4 => k_is)
    (case zzc4 => k_is)
    (case zzk4 => k_is)
    (case zza5 => k_is)
    (case zzl5 => k_is)
    (case zzc5 => k_is)
    (case zzk5 => k_is)
    (case zza6 => k_is)
    (case zzl6 => k_is)
    (case zzc6 => k_is)
    (case zzk6 => k_is)
    (case zza7 => k_is)
    (case zzl7 => k_is)
    (case zzc7 => k_is)
    (case zzk7 => k_is)
    (case zza8 => k_is)
    (case zzl8 => k_is)
    (case zzc8 => k_is)
    (case zzk8 => k_is)
    (case zza9 => k_is)
    (case zzl9 => k_is)
    (case zzc9 => k_is)
    (case zzk9 => k_is)
    (case zza10 => k_is)
    (case zzl10 => k_is)
    (case zzc10 => k_is)
    (case zzk10 => k_is)
    (case zza11 => k_is)
    (case zzl11 => k_is)
    (case zzc11 => k_is)
    (case zzk11 => k_is)
    (case zza12 => k_is)
    (case zzl12 => k_is)
    (case zzc12 => k_is)
    (case zzk12 => k_is)
    (case zza13 => k_is)
    (case zzl13 => k_is)
    (case zzc13 => k_is)
    (case zzk13 => k_is)
    (case zza14 => k_is)
    (case zzl14 => k_is)
    (case zzc14 => k_is)
    (case zzk14 => k_is)
    (case zza15 => k_is)
    (case zzl15 => k_is)
    (case zzc15 => k_is)
    (case zzk15 => k_is)
    (case zza16 => k_is)
    (case zzl16 => k_is)
    (case zzc16 => k_is)
    (case zzk16 => k_is)
    (case zza17 => k_is)
    (case zzl17 => k_is)
    (case zzc17 => k_is)
    (case zzk17 => k_is)
    (case zza18 => k_is)
    (case zzl18 => k_is)
    (case zzc18 => k_is)
    (case zzk18 => k_is)
    (case zza19 => k_is)
    (case zzl19 => k_is)
    (case zzc19 => k_is)
    (case zzk19 => k_is)
    (case zza20 => k_is)
    (case zzl20 => k_is)
    (case zzc20 => k_is)
    (case zzk20 => k_is)
    (case zza21 => k_is)
    (case zzl21 => k_is)
    (case zzc21 => k_is)
    (case zzk21 => k_is)
    (case zza22 => k_is)
    (case zzl22 => k_is)
    (case zzc22 => k_is)
    (case zzk22 => k_is)
    (case zza23 => k_is)
    (case zzl23 => k_is)
    (case zzc23 => k_is)
    (case zzk23 => k_is)
    (case zza24 => k_is)
    (case zzl24 => k_is)
    (case zzc24 => k_is)
    (case zzk24 => k_is)
    (case zza25 => k_is)
    (case zzl25 => k_is)
    (case zzc25 => k_is)
    (case zzk25 => k_is)
    (case zza26 => k_is)
    (case zzl26 => k_is)
    (case zzc26 => k_is)
    (case zzk26 => k_is)
    (case zza27 => k_is)
    (case zzl27 => k_is)
    (case zzc27 => k_is)
    (case zzk27 => k_is)
    (case zza28 => k_is)
    (case zzl28 => k_is)
    (case zzc28 => k_is)
    (case zzk28 => k_is)
    (case zzp25 => k_is)
    (case zzv25 => rfl)
    (case zzd25 => kernel_rfl)
    (case zzn25 => kernel_rfl)
    (case zzh25 => exact hT _ (by simp))
    (case zzp27 => k_is)
    (case zzv27 => rfl)
    (case zzd27 => kernel_rfl)
    (case zzn27 => kernel_rfl)
    (case zzh27 => exact hT _ (by simp))
    (case zzne => decide)

