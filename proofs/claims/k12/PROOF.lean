import PyProof.Rows.All
import Wide.All
import OpenK.AllK
import Wide.FinOn
import HandS.ForMost
import HandS.ForExc
import HandS.Flow
import HandS.IsInst
import HandS.Walk
import HandS.Wide
import HandS.Evl
import HandS.Lambda
import HandS.ExcValue
import HandS.TupAny
import HandS.TupLe
import HandS.TupMul
import HandS.Deep
import HandS.Style
import HandS.Zip
import HandS.Conv
import HandS.StrMore
import HandS.EndTab
import HandS.Defaults
import HandS.ExcIs
import HandS.SetIn
import KE.KIntText
import HandS.Star
import HandS.More
import HandS.DictTup
import PySem.Challenge.RW_earlysettled_k12_tests
set_option Elab.async false
set_option linter.all false
set_option maxRecDepth 100000
set_option maxHeartbeats 1000000
/-! DL1: values as data, and what the slots of a def hold; the core of the data layer. -/
namespace DL
open PySem PySem.Spec PyProof.Rows L2

/-- data: what a value says, without addresses -/
inductive D where
  | non
  | bl (b : Bool)
  | int (i : Int)
  | str (x : Str)
  | tup (ds : List D)
  | lst (ds : List D)
  | dct (ks : List Key) (ds : List D)
  | obj (C : Addr) (ns : List Str) (ds : List D)
  | exc (C : Addr)
  | hdl (a : Addr)
  | scr (ns : List Int)
  | ty (n : String)

/-- an own exception that is held as a value -/
def ExcO (C a : Addr) : HO := .ext fun h => ∃ (oe : Obj) (vs : Array Value), h.get? a = some oe ∧ Zc (.ref C) none oe ∧ oe.data = .fields vs

/-- a tuple that is tracked -/
def SqU (_ : PySem.W.Frag) (H : Hp) (a : Addr) (xs : List V) : Prop := H a = some (.tup xs)
theorem SqU.toT {K : PySem.W.Frag} {H : Hp} {a : Addr} {xs : List V} (h : SqU K H a xs) : SqT K H a xs := .inl (.inl h)
theorem sameU {K : PySem.W.Frag} {H H' : Hp} {a : Addr} {xs : List V} (e : Same H H') (h : SqU K H a xs) : SqU K H' a xs := e _ _ h
mutual
/-- the value v stands for the data in the heap H -/
def Rep (K : PySem.W.Frag) (H : Hp) (v : V) : D → Prop
  | .non => v = .non
  | .bl b => v = .bl b
  | .int i => v = .int i
  | .str x => v = .str x
  | .tup ds => ∃ a vs, v = .ref a ∧ SqU K H a vs ∧ RepL K H vs ds
  | .lst ds => ∃ a vs, v = .ref a ∧ H a = some (.lst vs) ∧ RepL K H vs ds
  | .dct ks ds => ∃ a vs, v = .ref a ∧ H a = some (.dK (ks.zip vs)) ∧ ks.length = vs.length ∧ RepL K H vs ds
  | .obj C ns ds => ∃ a dx vs, v = .ref a ∧ H a = some (.ins C dx (ns.zip vs)) ∧ ns.length = vs.length ∧ RepL K H vs ds
  | .exc C => ∃ a, v = .ref a ∧ H a = some (ExcO C a)
  | .hdl a => v = .ref a
  | .scr ns => ∃ a, v = .ref a ∧ SqL K H a (ns.map V.int)
  | .ty n => v = .ty n
def RepL (K : PySem.W.Frag) (H : Hp) (vs : List V) : List D → Prop
  | [] => vs = []
  | d :: ds => ∃ v r, vs = v :: r ∧ Rep K H v d ∧ RepL K H r ds
end

theorem sameT {K : PySem.W.Frag} {H H' : Hp} {a : Addr} {xs : List V} (e : Same H H') (h : SqT K H a xs) : SqT K H' a xs := by
  rcases h with (h | ⟨o, h⟩) | h
  · exact .inl (.inl (e _ _ h))
  · exact .inl (.inr ⟨o, e _ _ h⟩)
  · exact .inr h
mutual
theorem Rep.mono {K : PySem.W.Frag} {H H' : Hp} (e : Same H H') : ∀ (d : D) (v : V), Rep K H v d → Rep K H' v d
  | .non, v, h => by simpa [Rep] using h
  | .bl _, v, h => by simpa [Rep] using h
  | .int _, v, h => by simpa [Rep] using h
  | .str _, v, h => by simpa [Rep] using h
  | .tup ds, v, h => by
    simp only [Rep] at h ⊢
    obtain ⟨a, vs, rfl, h1, h2⟩ := h
    exact ⟨a, vs, rfl, sameU e h1, RepL.mono e ds vs h2⟩
  | .lst ds, v, h => by
    simp only [Rep] at h ⊢
    obtain ⟨a, vs, rfl, h1, h2⟩ := h
    exact ⟨a, vs, rfl, e _ _ h1, RepL.mono e ds vs h2⟩
  | .dct ks ds, v, h => by
    simp only [Rep] at h ⊢
    obtain ⟨a, vs, rfl, h1, h2, h3⟩ := h
    exact ⟨a, vs, rfl, e _ _ h1, h2, RepL.mono e ds vs h3⟩
  | .obj C ns ds, v, h => by
    simp only [Rep] at h ⊢
    obtain ⟨a, dx, vs, rfl, h1, h2, h3⟩ := h
    exact ⟨a, dx, vs, rfl, e _ _ h1, h2, RepL.mono e ds vs h3⟩
  | .exc C, v, h => by
    simp only [Rep] at h ⊢
    obtain ⟨a, rfl, h1⟩ := h
    exact ⟨a, rfl, e _ _ h1⟩
  | .hdl _, v, h => by simpa [Rep] using h
  | .scr ns, v, h => by
    simp only [Rep] at h ⊢
    obtain ⟨a, rfl, h1⟩ := h
    exact ⟨a, rfl, e.seq h1⟩
  | .ty _, v, h => by simpa [Rep] using h
theorem RepL.mono {K : PySem.W.Frag} {H H' : Hp} (e : Same H H') : ∀ (ds : List D) (vs : List V), RepL K H vs ds → RepL K H' vs ds
  | [], vs, h => by simpa [RepL] using h
  | d :: ds, vs, h => by
    simp only [RepL] at h ⊢
    obtain ⟨v, r, rfl, h1, h2⟩ := h
    exact ⟨v, r, rfl, Rep.mono e d v h1, RepL.mono e ds r h2⟩
end
section
variable {K : PySem.W.Frag} {H H' : Hp} {v w : V} {vs ws : List V} {d : D} {ds es : List D}
theorem RepL.len : ∀ {ds : List D} {vs : List V}, RepL K H vs ds → vs.length = ds.length
  | [], _, h => by simp only [RepL] at h; rw [h]; rfl
  | _ :: _, _, h => by
    simp only [RepL] at h
    obtain ⟨v, r, rfl, _, h2⟩ := h
    simp [RepL.len h2]
theorem RepL.cons (h : Rep K H v d) (t : RepL K H vs ds) : RepL K H (v :: vs) (d :: ds) := by
  simp only [RepL]
  exact ⟨v, vs, rfl, h, t⟩
theorem RepL.nil : RepL K H [] [] := by simp only [RepL]
theorem RepL.one (h : Rep K H v d) : RepL K H [v] [d] := .cons h .nil
theorem RepL.append : ∀ {ds : List D} {vs : List V}, RepL K H vs ds → RepL K H ws es → RepL K H (vs ++ ws) (ds ++ es)
  | [], _, h, t => by simp only [RepL] at h; subst h; exact t
  | _ :: _, _, h, t => by
    simp only [RepL] at h
    obtain ⟨v, r, rfl, h1, h2⟩ := h
    exact .cons h1 (RepL.append h2 t)
theorem RepL.get : ∀ {ds : List D} {vs : List V} {i : Nat} {v : V}, RepL K H vs ds → vs[i]? = some v → ∃ d, ds[i]? = some d ∧ Rep K H v d
  | [], _, i, v, h, e => by simp only [RepL] at h; subst h; simp at e
  | d :: ds, _, 0, v, h, e => by
    simp only [RepL] at h
    obtain ⟨v, r, rfl, h1, h2⟩ := h
    simp at e; subst e
    exact ⟨d, by simp, h1⟩
  | d :: ds, _, i + 1, v, h, e => by
    simp only [RepL] at h
    obtain ⟨v, r, rfl, h1, h2⟩ := h
    simp at e
    obtain ⟨d', e', h'⟩ := RepL.get h2 e
    exact ⟨d', by simpa using e', h'⟩
theorem RepL.get' {i : Nat} (h : RepL K H vs ds) (e : ds[i]? = some d) : ∃ v, vs[i]? = some v ∧ Rep K H v d := by
  have hl := h.len
  have hi : i < vs.length := by rw [hl]; exact (List.getElem?_eq_some_iff.mp e).1
  obtain ⟨d', e', h'⟩ := h.get (i := i) (v := vs[i]) (by simp [hi])
  rw [e] at e'; cases e'
  exact ⟨_, by simp [hi], h'⟩
theorem RepL.take : ∀ {ds : List D} {vs : List V} (n : Nat), RepL K H vs ds → RepL K H (vs.take n) (ds.take n)
  | _, _, 0, h => by simp only [List.take_zero]; exact .nil
  | [], _, n + 1, h => by simp only [RepL] at h; subst h; simp only [List.take_nil]; exact .nil
  | d :: ds, _, n + 1, h => by
    simp only [RepL] at h
    obtain ⟨v, r, rfl, h1, h2⟩ := h
    exact .cons h1 (RepL.take n h2)
theorem RepL.drop : ∀ {ds : List D} {vs : List V} (n : Nat), RepL K H vs ds → RepL K H (vs.drop n) (ds.drop n)
  | _, _, 0, h => h
  | [], _, n + 1, h => by simp only [RepL] at h; subst h; simp only [List.drop_nil]; exact .nil
  | d :: ds, _, n + 1, h => by
    simp only [RepL] at h
    obtain ⟨v, r, rfl, h1, h2⟩ := h
    exact RepL.drop n h2
theorem RepL.set : ∀ {ds : List D} {vs : List V} (n : Nat), Rep K H v d → RepL K H vs ds → RepL K H (vs.set n v) (ds.set n d)
  | [], _, n, _, h => by simp only [RepL] at h; subst h; simp only [List.set_nil]; exact .nil
  | _ :: ds, _, 0, h0, h => by
    simp only [RepL] at h
    obtain ⟨v, r, rfl, h1, h2⟩ := h
    exact .cons h0 h2
  | _ :: ds, _, n + 1, h0, h => by
    simp only [RepL] at h
    obtain ⟨v, r, rfl, h1, h2⟩ := h
    exact .cons h1 (RepL.set n h0 h2)
theorem RepL.rev : ∀ {ds : List D} {vs : List V}, RepL K H vs ds → RepL K H vs.reverse ds.reverse
  | [], _, h => by simp only [RepL] at h; subst h; exact .nil
  | d :: ds, _, h => by
    simp only [RepL] at h
    obtain ⟨v, r, rfl, h1, h2⟩ := h
    rw [List.reverse_cons, List.reverse_cons]
    exact (RepL.rev h2).append (.one h1)
theorem RepL.ints : ∀ {ns : List Int} {vs : List V}, RepL K H vs (ns.map D.int) → vs = ns.map V.int
  | [], _, h => by simpa [RepL] using h
  | n :: ns, _, h => by
    simp only [List.map_cons, RepL, Rep] at h
    obtain ⟨v, r, rfl, h1, h2⟩ := h
    rw [h1, RepL.ints h2]; rfl
theorem RepL.of_ints : ∀ (ns : List Int), RepL K H (ns.map V.int) (ns.map D.int)
  | [] => .nil
  | n :: ns => .cons (by simp only [Rep]) (RepL.of_ints ns)
theorem RepL.strs : ∀ {ns : List Str} {vs : List V}, RepL K H vs (ns.map D.str) → vs = ns.map V.str
  | [], _, h => by simpa [RepL] using h
  | n :: ns, _, h => by
    simp only [List.map_cons, RepL, Rep] at h
    obtain ⟨v, r, rfl, h1, h2⟩ := h
    rw [h1, RepL.strs h2]; rfl
theorem RepL.bls : ∀ {ns : List Bool} {vs : List V}, RepL K H vs (ns.map D.bl) → vs = ns.map V.bl
  | [], _, h => by simpa [RepL] using h
  | n :: ns, _, h => by
    simp only [List.map_cons, RepL, Rep] at h
    obtain ⟨v, r, rfl, h1, h2⟩ := h
    rw [h1, RepL.bls h2]; rfl
end

/-! ### hidden addresses -/
open Classical in
/-- the heap without what is hidden -/
noncomputable def hide (Z : Addr → Prop) (H : Hp) : Hp := fun a => if Z a then none else H a
theorem hide_no {Z : Addr → Prop} {H : Hp} {a : Addr} (h : ¬ Z a) : hide Z H a = H a := by unfold hide; rw [if_neg h]
theorem hide_yes {Z : Addr → Prop} {H : Hp} {a : Addr} (h : Z a) : hide Z H a = none := by unfold hide; rw [if_pos h]
theorem hide_some {Z : Addr → Prop} {H : Hp} {a : Addr} {o : HO} (h : hide Z H a = some o) : ¬ Z a ∧ H a = some o := by
  by_cases z : Z a
  · rw [hide_yes z] at h; cases h
  · exact ⟨z, (hide_no z).symm.trans h⟩
theorem hide_sub {Z : Addr → Prop} {H : Hp} : Same (hide Z H) H := fun _ _ h => (hide_some h).2
/-- less is hidden -/
theorem hide_less {Z Z' : Addr → Prop} {H : Hp} (h : ∀ a, Z' a → Z a) : Same (hide Z H) (hide Z' H) := fun a o e => by
  obtain ⟨z, e⟩ := hide_some e
  exact (hide_no fun q => z (h a q)).trans e
theorem hide_same {Z : Addr → Prop} {H H' : Hp} (e : Same H H') : Same (hide Z H) (hide Z H') := fun a o h => by
  obtain ⟨z, h⟩ := hide_some h
  exact (hide_no z).trans (e a o h)
/-- what is hidden is written -/
theorem hide_upd {Z : Addr → Prop} {H : Hp} {p : Addr} {o : HO} (z : Z p) : hide Z (upd H p o) = hide Z H := by
  funext a
  by_cases h : Z a
  · exact (hide_yes (H := upd H p o) h).trans (hide_yes (H := H) h).symm
  · have ne : a ≠ p := fun e => h (e ▸ z)
    exact ((hide_no (H := upd H p o) h).trans (upd_ne ne)).trans (hide_no (H := H) h).symm
theorem same_new {H : Hp} {p : Addr} {o : HO} (h : H p = none) : Same H (upd H p o) := fun a u e => by
  rw [upd_ne (ne_of_none e h)]; exact e

/-! ### what may change: the volatile part -/
/-- an object that this layer never writes -/
def Fix : HO → Prop
  | .lst _ => False
  | .dK _ => False
  | .dT _ => False
  | .ins _ _ _ => False
  | .tbl _ => False
  | _ => True
/-- S: the addresses that the called defs may write; J: what holds of them throughout -/
structure Vol where
  S : Addr → Prop
  J : Nat → Hp → Prop
  there : ∀ n H a, J n H → S a → ∃ o, H a = some o
  stay : ∀ n H H', J n H → (∀ a o, H a = some o → S a ∨ Fix o → H' a = some o) → J n H'
  nfix : ∀ n H a o, J n H → S a → H a = some o → ¬ Fix o
/-- nothing is volatile -/
def Vol.no : Vol := ⟨fun _ => False, fun _ _ => True, fun _ _ _ _ h => h.elim, fun _ _ _ _ _ => trivial, fun _ _ _ _ _ h => h.elim⟩

/-! ### what the slots hold -/
inductive MC where
  | lst (ds : List D)
  | dK (ks : List Key) (ds : List D)
  | dT (ks : List (List Key)) (ds : List D)
inductive Slot where
  | no
  | dat (d : D)
  /-- a list (a dict) of the def's own, that nothing else knows -/
  | own (c : MC)
/-- the slots, and how far the volatile part has come -/
structure EnvD where
  l : List Slot
  c : Nat
@[reducible] def EnvD.st (ρ : EnvD) (i : Nat) (s : Slot) : EnvD := ⟨ρ.l.set i s, ρ.c⟩
@[reducible] def EnvD.at (ρ : EnvD) (n : Nat) : EnvD := ⟨ρ.l, n⟩
inductive RepM (K : PySem.W.Frag) (Hv : Hp) : HO → MC → Prop where
  | lst {vs : List V} {ds : List D} (h : RepL K Hv vs ds) : RepM K Hv (HO.lst vs) (MC.lst ds)
  | dK {ks : List Key} {vs : List V} {ds : List D} (e : ks.length = vs.length) (h : RepL K Hv vs ds) : RepM K Hv (HO.dK (ks.zip vs)) (MC.dK ks ds)
  | dT {ks : List (List Key)} {vs : List V} {ds : List D} (e : ks.length = vs.length) (h : RepL K Hv vs ds) : RepM K Hv (HO.dT (ks.zip vs)) (MC.dT ks ds)
theorem RepM.nofix {K : PySem.W.Frag} {Hv : Hp} {o : HO} {c : MC} (h : RepM K Hv o c) : ¬ Fix o := by
  cases h <;> exact id
theorem RepM.mono {K : PySem.W.Frag} {Hv Hv' : Hp} (e : Same Hv Hv') {o : HO} {c : MC} (h : RepM K Hv o c) : RepM K Hv' o c := by
  cases h with
  | lst h => exact .lst (RepL.mono e _ _ h)
  | dK z h => exact .dK z (RepL.mono e _ _ h)
  | dT z h => exact .dT z (RepL.mono e _ _ h)
def OwnAt (σ : L2.St) (ρ : EnvD) (i : Nat) (p : Addr) : Prop := σ[i]? = some (some (.ref p)) ∧ ∃ c, ρ.l[i]? = some (.own c)
def Owns (σ : L2.St) (ρ : EnvD) (p : Addr) : Prop := ∃ i, OwnAt σ ρ i p
/-- what the data must not lean on: the volatile part, what the callers hide, what the def owns -/
def Hid (U : Vol) (Z : Addr → Prop) (σ : L2.St) (ρ : EnvD) (a : Addr) : Prop := U.S a ∨ Z a ∨ Owns σ ρ a
noncomputable abbrev VH (U : Vol) (Z : Addr → Prop) (σ : L2.St) (ρ : EnvD) (H : Hp) : Hp := hide (Hid U Z σ ρ) H

structure EnvOk (K : PySem.W.Frag) (U : Vol) (Z : Addr → Prop) (σ : L2.St) (ρ : EnvD) (H : Hp) : Prop where
  len : σ.length = ρ.l.length
  dat : ∀ (i : Nat) d, ρ.l[i]? = some (.dat d) → ∃ v, σ[i]? = some (some v) ∧ Rep K (VH U Z σ ρ H) v d
  own : ∀ (i : Nat) c, ρ.l[i]? = some (.own c) → ∃ p o, σ[i]? = some (some (.ref p)) ∧ H p = some o ∧ RepM K (VH U Z σ ρ H) o c
  one : ∀ (i j : Nat) p, OwnAt σ ρ i p → OwnAt σ ρ j p → i = j
  vj : U.J ρ.c H
  zt : ∀ a, Z a → ∃ o, H a = some o ∧ ¬ Fix o
  zs : ∀ a, Z a → ¬ U.S a
  oz : ∀ p, Owns σ ρ p → ¬ U.S p ∧ ¬ Z p

/-- all but the volatile part and what was owned stays, and is not owned -/
def Tr (S l : Addr → Prop) (H : Hp) (l' : Addr → Prop) (H' : Hp) : Prop := ∀ a o, ¬ S a → ¬ l a → H a = some o → H' a = some o ∧ ¬ l' a
section
variable {K : PySem.W.Frag} {U : Vol} {Z : Addr → Prop} {σ σ' σ'' : L2.St} {ρ ρ' ρ'' : EnvD} {H H' H'' : Hp} {S l l' l'' : Addr → Prop} {v : V} {d : D} {p : Addr}
theorem Tr.trans (a : Tr S l H l' H') (b : Tr S l' H' l'' H'') : Tr S l H l'' H'' := fun q o h1 h2 h3 => b q o h1 (a q o h1 h2 h3).2 (a q o h1 h2 h3).1
theorem Tr.of_same (e : Same H H') : Tr S l H l H' := fun a o _ h h1 => ⟨e a o h1, h⟩
theorem Tr.refl : Tr S l H l H := .of_same (Same.refl H)
theorem Tr.vis (t : Tr U.S (Owns σ ρ) H (Owns σ' ρ') H') : Same (VH U Z σ ρ H) (VH U Z σ' ρ' H') := fun a o h => by
  obtain ⟨z, h⟩ := hide_some h
  have h1 := t a o (fun q => z (.inl q)) (fun q => z (.inr (.inr q))) h
  have n : ¬ Hid U Z σ' ρ' a := by
    rintro (q | q | q)
    · exact z (.inl q)
    · exact z (.inr (.inl q))
    · exact h1.2 q
  show hide _ _ a = some o
  rw [hide_no n]; exact h1.1
theorem EnvOk.owned (E : EnvOk K U Z σ ρ H) (h : Owns σ ρ p) : ∃ o, H p = some o ∧ ¬ Fix o := by
  obtain ⟨i, h1, c, h2⟩ := h
  obtain ⟨q, o, e1, e2, e3⟩ := E.own i c h2
  rw [h1] at e1; cases e1
  exact ⟨o, e2, e3.nofix⟩
theorem EnvOk.hidden (E : EnvOk K U Z σ ρ H) (h : Hid U Z σ ρ p) : ∃ o, H p = some o := by
  rcases h with h | h | h
  · exact U.there _ H p E.vj h
  · obtain ⟨o, h, _⟩ := E.zt p h
    exact ⟨o, h⟩
  · obtain ⟨o, h, _⟩ := E.owned h
    exact ⟨o, h⟩
/-- what is hidden is what may be written -/
theorem EnvOk.hiddenF (E : EnvOk K U Z σ ρ H) (h : Hid U Z σ ρ p) : ∃ o, H p = some o ∧ ¬ Fix o := by
  rcases h with h | h | h
  · obtain ⟨o, e⟩ := U.there _ H p E.vj h
    exact ⟨o, e, U.nfix _ H p o E.vj h e⟩
  · exact E.zt p h
  · exact E.owned h
/-- a tuple is never hidden -/
theorem EnvOk.tupSeen (E : EnvOk K U Z σ ρ H) {xs : List V} (h : H p = some (.tup xs)) : ¬ Hid U Z σ ρ p := fun q => by
  obtain ⟨o, e, f⟩ := E.hiddenF q
  rw [h] at e; cases e; exact f trivial
theorem EnvOk.fresh (E : EnvOk K U Z σ ρ H) (h : H p = none) : ¬ Hid U Z σ ρ p := fun q => by
  obtain ⟨o, e⟩ := E.hidden q
  rw [h] at e; cases e
/-- only more stands -/
theorem EnvOk.same (E : EnvOk K U Z σ ρ H) (e : Same H H') : EnvOk K U Z σ ρ H' := by
  have hv : Same (VH U Z σ ρ H) (VH U Z σ ρ H') := hide_same e
  refine ⟨E.len, fun i d h => ?_, fun i c h => ?_, E.one, U.stay _ H H' E.vj fun a o h _ => e a o h, fun a z => ?_, E.zs, E.oz⟩
  · obtain ⟨v, h1, h2⟩ := E.dat i d h
    exact ⟨v, h1, h2.mono hv⟩
  · obtain ⟨p, o, h1, h2, h3⟩ := E.own i c h
    exact ⟨p, o, h1, e _ _ h2, h3.mono hv⟩
  · obtain ⟨o, h, f⟩ := E.zt a z
    exact ⟨o, e _ _ h, f⟩
/-- other slots' content -/
theorem owns_set_dat {i : Nat} {v : V} {d : D} (h : Owns (σ.set i (some v)) (ρ.st i (.dat d)) p) : Owns σ ρ p := by
  obtain ⟨j, h1, c, h2⟩ := h
  by_cases e : i = j
  · subst e
    by_cases hl : i < ρ.l.length
    · rw [List.getElem?_set_self hl] at h2; cases h2
    · rw [List.getElem?_eq_none (by simpa using hl)] at h2; cases h2
  · rw [List.getElem?_set_ne e] at h1 h2
    exact ⟨j, h1, c, h2⟩
end

/-! ### exceptions -/
inductive Xn where
  | own (C : Addr)
  | fld (C : Addr) (ns : List Str) (ds : List D)
def XnOk (K : PySem.W.Frag) (Hv : Hp) (H : Hp) : Xn → Value → Option Addr → Prop
  | .own C, cls, dd => cls = .ref C ∧ dd = none
  | .fld C ns ds, cls, dd => cls = .ref C ∧ ∃ d vs, dd = some d ∧ H d = some (.xd (ns.zip vs)) ∧ ns.length = vs.length ∧ RepL K Hv vs ds
theorem XnOk.mono {K : PySem.W.Frag} {Hv Hv' H H' : Hp} (e : Same Hv Hv') (e' : ∀ d fs, H d = some (.xd fs) → H' d = some (.xd fs)) : ∀ {xn : Xn} {cls : Value} {dd : Option Addr}, XnOk K Hv H xn cls dd → XnOk K Hv' H' xn cls dd
  | .own _, _, _, h => h
  | .fld _ _ ds, _, _, ⟨h1, d, vs, h2, h3, h4, h5⟩ => ⟨h1, d, vs, h2, e' _ _ h3, h4, RepL.mono e ds vs h5⟩

/-! ### meanings -/
abbrev KD := D → EnvD → Prop
abbrev KX := Xn → EnvD → Prop
abbrev ME := EnvD → KD → KX → Prop
abbrev MT := EnvD → (Bool → EnvD → Prop) → KX → Prop
abbrev MA := EnvD → (List D → EnvD → Prop) → KX → Prop
structure MK where
  nx : EnvD → Prop
  rt : D → EnvD → Prop
  bk : EnvD → Prop
  ct : EnvD → Prop
  xn : KX
abbrev MS := MK → EnvD → Prop
/-- what is wanted of an exception, by the slots -/
abbrev XS := L2.St → XK

section
variable (K : PySem.W.Frag) (U : Vol) (E : XS)
/-- what follows an exception -/
def XFin (Z : Addr → Prop) (σ : L2.St) (ρ : EnvD) (H : Hp) (x : KX) : Prop :=
  ∀ xn cls dd σ' ρ' H', Tr U.S (Owns σ ρ) H (Owns σ' ρ') H' → EnvOk K U Z σ' ρ' H' → XnOk K (VH U Z σ' ρ' H') H' xn cls dd → x xn ρ' → E σ' cls dd H'
/-- .. of an expression: the slots stay -/
def XFinE (Z : Addr → Prop) (σ : L2.St) (ρ : EnvD) (H : Hp) (x : KX) : Prop :=
  ∀ xn cls dd ρ' H', Tr U.S (Owns σ ρ) H (Owns σ ρ') H' → EnvOk K U Z σ ρ' H' → XnOk K (VH U Z σ ρ' H') H' xn cls dd → x xn ρ' → E σ cls dd H'
def SndE (t : TE) (m : ME) : Prop := ∀ (Z : Addr → Prop) (σ : L2.St) (ρ : EnvD) (H : Hp) (k : KD) (x : KX) (Q : VK), EnvOk K U Z σ ρ H → m ρ k x →
  (∀ d ρ' v H', Tr U.S (Owns σ ρ) H (Owns σ ρ') H' → EnvOk K U Z σ ρ' H' → Rep K (VH U Z σ ρ' H') v d → k d ρ' → Q v H') → XFinE K U E Z σ ρ H x → t σ H Q
/-- .. a new list -/
def SndF (t : TE) (m : EnvD → (List D → EnvD → Prop) → KX → Prop) : Prop := ∀ (Z : Addr → Prop) (σ : L2.St) (ρ : EnvD) (H : Hp) (k : List D → EnvD → Prop) (x : KX) (Q : VK), EnvOk K U Z σ ρ H → m ρ k x →
  (∀ ds ρ' p vs H', Tr U.S (Owns σ ρ) H (Owns σ ρ') H' → EnvOk K U (fun a => Z a ∨ a = p) σ ρ' H' → ¬ U.S p → ¬ Z p → H' p = some (.lst vs) → (∀ o, ¬ Owns σ ρ p → H p = some o → False) → RepL K (VH U (fun a => Z a ∨ a = p) σ ρ' H') vs ds → k ds ρ' → Q (.ref p) H') →
  XFinE K U E Z σ ρ H x → t σ H Q
def SndT (t : TT) (m : MT) : Prop := ∀ (Z : Addr → Prop) (σ : L2.St) (ρ : EnvD) (H : Hp) (k : Bool → EnvD → Prop) (x : KX) (Q : Bool → Hp → Prop), EnvOk K U Z σ ρ H → m ρ k x →
  (∀ b ρ' H', Tr U.S (Owns σ ρ) H (Owns σ ρ') H' → EnvOk K U Z σ ρ' H' → k b ρ' → Q b H') → XFinE K U E Z σ ρ H x → t σ H Q
def SndA (t : TA) (m : MA) : Prop := ∀ (Z : Addr → Prop) (σ : L2.St) (ρ : EnvD) (H : Hp) (k : List D → EnvD → Prop) (x : KX) (Q : List V → Hp → Prop), EnvOk K U Z σ ρ H → m ρ k x →
  (∀ ds ρ' vs H', Tr U.S (Owns σ ρ) H (Owns σ ρ') H' → EnvOk K U Z σ ρ' H' → RepL K (VH U Z σ ρ' H') vs ds → k ds ρ' → Q vs H') → XFinE K U E Z σ ρ H x → t σ H Q
structure Fin (Z : Addr → Prop) (σ : L2.St) (ρ : EnvD) (H : Hp) (k : MK) (Dn : Ends) : Prop where
  nx : ∀ σ' ρ' H', Tr U.S (Owns σ ρ) H (Owns σ' ρ') H' → EnvOk K U Z σ' ρ' H' → k.nx ρ' → Dn.nx σ' H'
  rt : ∀ d σ' ρ' v H', Tr U.S (Owns σ ρ) H (Owns σ' ρ') H' → EnvOk K U Z σ' ρ' H' → Rep K (VH U Z σ' ρ' H') v d → k.rt d ρ' → Dn.rt v H'
  bk : ∀ σ' ρ' H', Tr U.S (Owns σ ρ) H (Owns σ' ρ') H' → EnvOk K U Z σ' ρ' H' → k.bk ρ' → Dn.bk σ' H'
  ct : ∀ σ' ρ' H', Tr U.S (Owns σ ρ) H (Owns σ' ρ') H' → EnvOk K U Z σ' ρ' H' → k.ct ρ' → Dn.ct σ' H'
  xn : XFin K U E Z σ ρ H k.xn
def SndS (t : TS) (m : MS) : Prop := ∀ (Z : Addr → Prop) (σ : L2.St) (ρ : EnvD) (H : Hp) (k : MK) (Dn : Ends), EnvOk K U Z σ ρ H → m k ρ → Fin K U E Z σ ρ H k Dn → t Dn σ H
/-- a target that takes a value -/
abbrev MG := D → EnvD → (EnvD → Prop) → Prop
def SndG (g : TG) (m : MG) : Prop := ∀ (Z : Addr → Prop) (σ : L2.St) (ρ : EnvD) (H : Hp) (v : V) (d : D) (k : EnvD → Prop) (Q : L2.St → Hp → Prop), EnvOk K U Z σ ρ H → Rep K (VH U Z σ ρ H) v d → m d ρ k →
  (∀ σ' ρ' H', Tr U.S (Owns σ ρ) H (Owns σ' ρ') H' → EnvOk K U Z σ' ρ' H' → k ρ' → Q σ' H') → g v σ H Q
end
section
variable {ι : Type} (Xs : ι → Cx) (K : PySem.W.Frag) (U : Vol) (E : XS)
def DE (e : Expr) (m : ME) : Prop := ∃ t, (∀ i, PE (Xs i) e t) ∧ SndE K U E t m
def DF (e : Expr) (m : EnvD → (List D → EnvD → Prop) → KX → Prop) : Prop := ∃ t, (∀ i, PE (Xs i) e t) ∧ SndF K U E t m
def DT (e : Expr) (m : MT) : Prop := ∃ t, (∀ i, PT (Xs i) e t) ∧ SndT K U E t m
def DW (e : Expr) (m : MT) : Prop := ∃ t, (∀ i, PW (Xs i) e t) ∧ SndT K U E t m
def DA (es : List Expr) (m : MA) : Prop := ∃ t, (∀ i, PA (Xs i) es t) ∧ SndA K U E t m
def DS (st : Stmt) (m : MS) : Prop := ∃ t, (∀ i, PS (Xs i) st t) ∧ SndS K U E t m
def DSs (sts : List Stmt) (m : MS) : Prop := ∃ t, (∀ i, PSs (Xs i) sts t) ∧ SndS K U E t m
def DG (e : Expr) (m : MG) : Prop := ∃ t, (∀ i, PG (Xs i) e t) ∧ SndG K U t m
end
/-- where one stands: the contexts Xs, of one text and one wish about exceptions -/
structure Fam {ι : Type} (Xs : ι → Cx) (P : Program) (w : World) (K : PySem.W.Frag) (mg : Str → Option Value) (base : Heap) (E : XS) (lv : Nat) : Prop where
  p : ∀ i, (Xs i).prog = P
  w : ∀ i, (Xs i).w = w
  k : ∀ i, (Xs i).K = K
  mg : ∀ i, (Xs i).mg = mg
  base : ∀ i, (Xs i).base = base
  calm : ∀ i, (Xs i).calm = true
  nd : ∀ i, (Xs i).N.Nodup
  room : ∀ i, Room lv (Xs i).A
  pass : ∀ i σ, PassesAt (L2.CX (Xs i).prog (Xs i).w) (Xs i) σ (E σ)
  own : ∀ i, PassesOwn (model (Xs i).prog (Xs i).w) (Xs i).A (Xs i).env (Xs i).xe
  tk : ∀ i, Takes (Xs i) (fun cls d σ H => E σ cls d H)
section
variable {K : PySem.W.Frag} {U : Vol} {E : XS} {Z : Addr → Prop} {σ σ' : L2.St} {ρ ρ' : EnvD} {H H' : Hp} {x : KX} {k : MK} {Dn : Ends}
theorem XFin.go (f : XFin K U E Z σ ρ H x) (t : Tr U.S (Owns σ ρ) H (Owns σ' ρ') H') : XFin K U E Z σ' ρ' H' x := fun xn cls dd σ2 ρ2 H2 t2 => f xn cls dd σ2 ρ2 H2 (t.trans t2)
theorem XFinE.go (f : XFinE K U E Z σ ρ H x) (t : Tr U.S (Owns σ ρ) H (Owns σ ρ') H') : XFinE K U E Z σ ρ' H' x := fun xn cls dd ρ2 H2 t2 => f xn cls dd ρ2 H2 (t.trans t2)
theorem XFin.e (f : XFin K U E Z σ ρ H x) : XFinE K U E Z σ ρ H x := fun xn cls dd ρ' H' t => f xn cls dd σ ρ' H' t
theorem Fin.go (f : Fin K U E Z σ ρ H k Dn) (t : Tr U.S (Owns σ ρ) H (Owns σ' ρ') H') : Fin K U E Z σ' ρ' H' k Dn :=
  ⟨fun a b c t2 => f.nx a b c (t.trans t2), fun a b c d e t2 => f.rt a b c d e (t.trans t2), fun a b c t2 => f.bk a b c (t.trans t2), fun a b c t2 => f.ct a b c (t.trans t2), f.xn.go t⟩
end
end DL

set_option maxRecDepth 100000
set_option maxHeartbeats 1000000
/-! DL2: expressions: names, constants, operators, tests. -/
namespace DL
open PySem PySem.Spec PyProof.Rows L2

section
variable {K : PySem.W.Frag} {U : Vol} {E : XS} {Z : Addr → Prop} {σ σ' : L2.St} {ρ ρ' : EnvD} {H H' : Hp} {G : Addr → Prop}

/-! ### names and constants -/
def eVar (i : Nat) : ME := fun ρ k _ => match ρ.l[i]? with
  | some (.dat d) => k d ρ
  | _ => False
def eC (d : D) : ME := fun ρ k _ => k d ρ
theorem snd_var {i : Nat} : SndE K U E (tVar i) (eVar i) := by
  intro Z σ ρ H k x Q I h q _
  unfold eVar at h
  split at h
  · rename_i d e
    obtain ⟨v, e1, r⟩ := I.dat i d e
    exact ⟨v, e1, q d ρ v H .refl I r h⟩
  · exact h.elim
theorem snd_c {v : V} {d : D} (r : ∀ H, Rep K H v d) : SndE K U E (tC v) (eC d) := fun Z σ ρ H k x Q I h q _ => q d ρ v H .refl I (r _) h

/-! ### what operators say of data -/
/-- a two-place operation on values that writes nothing -/
def OpS (K : PySem.W.Frag) (r : R2) (f : D → D → (D → Prop) → Prop) : Prop :=
  ∀ (G : Addr → Prop) (H : Hp) (v w : V) (a b : D) (k : D → Prop) (Q : VK), (∀ p, G p → ∃ o, H p = some o) → Rep K (hide G H) v a → Rep K (hide G H) w b → f a b k →
    (∀ d u H', Same H H' → Rep K (hide G H') u d → k d → Q u H') → r v w H Q
def UnS (K : PySem.W.Frag) (r : V → Hp → VK → Prop) (f : D → (D → Prop) → Prop) : Prop :=
  ∀ (G : Addr → Prop) (H : Hp) (v : V) (a : D) (k : D → Prop) (Q : VK), (∀ p, G p → ∃ o, H p = some o) → Rep K (hide G H) v a → f a k → (∀ d u H', Same H H' → Rep K (hide G H') u d → k d → Q u H') → r v H Q
def CaS (K : PySem.W.Frag) (r : List V → Hp → VK → Prop) (f : List D → (D → Prop) → Prop) : Prop :=
  ∀ (G : Addr → Prop) (H : Hp) (vs : List V) (ds : List D) (k : D → Prop) (Q : VK), (∀ p, G p → ∃ o, H p = some o) → RepL K (hide G H) vs ds → f ds k → (∀ d u H', Same H H' → Rep K (hide G H') u d → k d → Q u H') → r vs H Q
def eOp (f : D → D → (D → Prop) → Prop) (ma mb : ME) : ME := fun ρ k x => ma ρ (fun d1 ρ1 => mb ρ1 (fun d2 ρ2 => f d1 d2 fun d => k d ρ2) x) x
def eUn (f : D → (D → Prop) → Prop) (ma : ME) : ME := fun ρ k x => ma ρ (fun d1 ρ1 => f d1 fun d => k d ρ1) x
def eCa (f : List D → (D → Prop) → Prop) (ma : MA) : ME := fun ρ k x => ma ρ (fun ds ρ1 => f ds fun d => k d ρ1) x
/-- the end of an operation that writes nothing -/
theorem fin_same {Q : VK} {k : KD} {ρ1 : EnvD} {H1 : Hp} (I1 : EnvOk K U Z σ ρ1 H1) (t1 : Tr U.S (Owns σ ρ) H (Owns σ ρ1) H1)
    (q : ∀ d ρ' v H', Tr U.S (Owns σ ρ) H (Owns σ ρ') H' → EnvOk K U Z σ ρ' H' → Rep K (VH U Z σ ρ' H') v d → k d ρ' → Q v H') :
    ∀ d u H', Same H1 H' → Rep K (hide (Hid U Z σ ρ1) H') u d → k d ρ1 → Q u H' := fun d u H' e r h => q d ρ1 u H' (t1.trans (.of_same e)) (I1.same e) r h
theorem snd_op {ta tb : TE} {ma mb : ME} {r : R2} {f : D → D → (D → Prop) → Prop} (ho : OpS K r f) (ha : SndE K U E ta ma) (hb : SndE K U E tb mb) : SndE K U E (tOp r ta tb) (eOp f ma mb) := by
  intro Z σ ρ H k x Q I h q X
  refine ha Z σ ρ H _ x _ I h (fun d1 ρ1 v1 H1 t1 I1 r1 h1 => ?_) X
  refine hb Z σ ρ1 H1 _ x _ I1 h1 (fun d2 ρ2 v2 H2 t2 I2 r2 h2 => ?_) (X.go t1)
  exact ho _ H2 v1 v2 d1 d2 _ Q (fun p hp => I2.hidden hp) (r1.mono t2.vis) r2 h2 (fin_same I2 (t1.trans t2) q)
theorem snd_un {ta : TE} {ma : ME} {r : V → Hp → VK → Prop} {f : D → (D → Prop) → Prop} (ho : UnS K r f) (ha : SndE K U E ta ma) : SndE K U E (tUn r ta) (eUn f ma) := by
  intro Z σ ρ H k x Q I h q X
  refine ha Z σ ρ H _ x _ I h (fun d1 ρ1 v1 H1 t1 I1 r1 h1 => ?_) X
  exact ho _ H1 v1 d1 _ Q (fun p hp => I1.hidden hp) r1 h1 (fin_same I1 t1 q)
theorem snd_ca {ta : TA} {ma : MA} {r : List V → Hp → VK → Prop} {f : List D → (D → Prop) → Prop} (ho : CaS K r f) (ha : SndA K U E ta ma) : SndE K U E (tCB r ta) (eCa f ma) := by
  intro Z σ ρ H k x Q I h q X
  refine ha Z σ ρ H _ x _ I h (fun d1 ρ1 v1 H1 t1 I1 r1 h1 => ?_) X
  exact ho _ H1 v1 d1 _ Q (fun p hp => I1.hidden hp) r1 h1 (fin_same I1 t1 q)
/-- either of two -/
theorem OpS.or {r r' : R2} {f f' g : D → D → (D → Prop) → Prop} (h : OpS K r f) (h' : OpS K r' f') (e : ∀ a b k, g a b k → f a b k ∨ f' a b k) : OpS K (fun x y H Q => r x y H Q ∨ r' x y H Q) g := by
  intro G H v w a b k Q g1 r1 r2 h0 q
  rcases e a b k h0 with z | z
  · exact .inl (h G H v w a b k Q g1 r1 r2 z q)
  · exact .inr (h' G H v w a b k Q g1 r1 r2 z q)
theorem CaS.or {r r' : List V → Hp → VK → Prop} {f f' g : List D → (D → Prop) → Prop} (h : CaS K r f) (h' : CaS K r' f') (e : ∀ a k, g a k → f a k ∨ f' a k) : CaS K (fun x H Q => r x H Q ∨ r' x H Q) g := by
  intro G H v a k Q g1 r1 h0 q
  rcases e a k h0 with z | z
  · exact .inl (h G H v a k Q g1 r1 z q)
  · exact .inr (h' G H v a k Q g1 r1 z q)

/-! ### new objects -/
theorem notG {p : Addr} (g : ∀ p, G p → ∃ o, H p = some o) (h : H p = none) : ¬ G p := fun z => by
  obtain ⟨o, e⟩ := g p z
  rw [h] at e; cases e
theorem rep_tup {p : Addr} {vs : List V} {ds : List D} (g : ∀ p, G p → ∃ o, H p = some o) (h : H p = none) (r : RepL K (hide G H) vs ds) : Rep K (hide G (upd H p (.tup vs))) (.ref p) (.tup ds) := by
  simp only [Rep]
  exact ⟨p, vs, rfl, ((hide_no (notG g h)).trans upd_same), r.mono (hide_same (same_new h))⟩
theorem rep_lst {p : Addr} {vs : List V} {ds : List D} (g : ∀ p, G p → ∃ o, H p = some o) (h : H p = none) (r : RepL K (hide G H) vs ds) : Rep K (hide G (upd H p (.lst vs))) (.ref p) (.lst ds) := by
  simp only [Rep]
  exact ⟨p, vs, rfl, (hide_no (notG g h)).trans upd_same, r.mono (hide_same (same_new h))⟩

/-! ### + -/
def addD : D → D → (D → Prop) → Prop
  | .int i, .int j, k => k (.int (i + j))
  | .str a, .str b, k => a.length + b.length ≤ sizeLine ∧ k (.str (a ++ b))
  | .tup a, .tup b, k => a.length + b.length ≤ sizeLine ∧ k (.tup (a ++ b))
  | _, _, _ => False
def rAddA (K : PySem.W.Frag) : R2 := fun x y H Q => (∃ i j, x = .int i ∧ y = .int j ∧ Q (.int (i + j)) H) ∨ (∃ i j, x = .str i ∧ y = .str j ∧ i.length + j.length ≤ sizeLine ∧ Q (.str (i ++ j)) H) ∨ rCatA K x y H Q
theorem opS_add : OpS K (rAddA K) addD := by
  intro G H v w a b k Q g r1 r2 h q
  unfold addD at h
  split at h
  · simp only [Rep] at r1 r2
    exact .inl ⟨_, _, r1, r2, q _ _ H (Same.refl H) (by simp only [Rep]) h⟩
  · simp only [Rep] at r1 r2
    exact .inr (.inl ⟨_, _, r1, r2, h.1, q _ _ H (Same.refl H) (by simp only [Rep]) h.2⟩)
  · rename_i as bs
    simp only [Rep] at r1 r2
    obtain ⟨p1, vs, rfl, s1, l1⟩ := r1
    obtain ⟨p2, ws, rfl, s2, l2⟩ := r2
    have e1 := l1.len
    have e2 := l2.len
    refine .inr (.inr ⟨p1, p2, vs, ws, rfl, rfl, sameT hide_sub s1.toT, sameT hide_sub s2.toT, by omega, fun e => ?_, fun _ e => ?_, fun _ _ p hp => ?_⟩)
    · refine q _ _ H (Same.refl H) ?_ h.2
      have : as = [] := by cases as with | nil => rfl | cons _ _ => subst e; simp at e1
      subst this
      simp only [Rep, List.nil_append]
      exact ⟨p2, ws, rfl, s2, l2⟩
    · refine q _ _ H (Same.refl H) ?_ h.2
      have : bs = [] := by cases bs with | nil => rfl | cons _ _ => subst e; simp at e2
      subst this
      simp only [Rep, List.append_nil]
      exact ⟨p1, vs, rfl, s1, l1⟩
    · exact q _ _ _ (same_new hp) (rep_tup g hp (l1.append l2)) h.2
  · exact h.elim

/-! ### arithmetic -/
def subD : D → D → (D → Prop) → Prop
  | .int i, .int j, k => k (.int (i - j))
  | _, _, _ => False
def mulD : D → D → (D → Prop) → Prop
  | .int i, .int j, k => IntMulOk i j ∧ k (.int (i * j))
  | _, _, _ => False
def divD : D → D → (D → Prop) → Prop
  | .int i, .int j, k => CDivW i j ∧ k (.int (i / j))
  | _, _, _ => False
def modD : D → D → (D → Prop) → Prop
  | .int i, .int j, k => 0 < j ∧ k (.int (i % j))
  | _, _, _ => False
def powD : D → D → (D → Prop) → Prop
  | .int i, .int j, k => CPow i j ∧ k (.int (i ^ j.toNat))
  | _, _, _ => False
def negD : D → (D → Prop) → Prop
  | .int i, k => k (.int (-i))
  | _, _ => False
theorem opS_sub : OpS K (rI0 fun i j => .int (i - j)) subD := by
  intro G H v w a b k Q g r1 r2 h q
  unfold subD at h
  split at h
  · simp only [Rep] at r1 r2
    exact ⟨_, _, r1, r2, q _ _ H (Same.refl H) (by simp only [Rep]) h⟩
  · exact h.elim
theorem op_mulI {X : Cx} : OpR X (binaryOp .Mult) (rI IntMulOk fun i j => .int (i * j)) := opI fun _ _ _ _ _ _ _ hc q => mul_int q hc
theorem opS_mul : OpS K (rI IntMulOk fun i j => .int (i * j)) mulD := by
  intro G H v w a b k Q g r1 r2 h q
  unfold mulD at h
  split at h
  · simp only [Rep] at r1 r2
    exact ⟨_, _, r1, r2, h.1, q _ _ H (Same.refl H) (by simp only [Rep]) h.2⟩
  · exact h.elim
theorem opS_div : OpS K (rI CDivW fun i j => .int (i / j)) divD := by
  intro G H v w a b k Q g r1 r2 h q
  unfold divD at h
  split at h
  · simp only [Rep] at r1 r2
    exact ⟨_, _, r1, r2, h.1, q _ _ H (Same.refl H) (by simp only [Rep]) h.2⟩
  · exact h.elim
theorem opS_mod : OpS K (rI (fun _ j => 0 < j) fun i j => .int (i % j)) modD := by
  intro G H v w a b k Q g r1 r2 h q
  unfold modD at h
  split at h
  · simp only [Rep] at r1 r2
    exact ⟨_, _, r1, r2, h.1, q _ _ H (Same.refl H) (by simp only [Rep]) h.2⟩
  · exact h.elim
theorem opS_pow : OpS K (rI CPow fun i j => .int (i ^ j.toNat)) powD := by
  intro G H v w a b k Q g r1 r2 h q
  unfold powD at h
  split at h
  · simp only [Rep] at r1 r2
    exact ⟨_, _, r1, r2, h.1, q _ _ H (Same.refl H) (by simp only [Rep]) h.2⟩
  · exact h.elim
theorem unS_neg : UnS K (rU fun i => .int (-i)) negD := by
  intro G H v a k Q g r1 h q
  unfold negD at h
  split at h
  · simp only [Rep] at r1
    exact ⟨_, r1, q _ _ H (Same.refl H) (by simp only [Rep]) h⟩
  · exact h.elim

/-! ### order -/
def cmpD (fi : Int → Int → Bool) (fs : List Nat → List Nat → Bool) : D → D → (D → Prop) → Prop
  | .int i, .int j, k => k (.bl (fi i j))
  | .str a, .str b, k => k (.bl (fs a.cps.toList b.cps.toList))
  | _, _, _ => False
def ltD := cmpD (fun i j => decide (i < j)) (fun a b => decide (a < b))
def leD := cmpD (fun i j => decide (i ≤ j)) (fun a b => !decide (b < a))
def gtD := cmpD (fun i j => decide (j < i)) (fun a b => decide (b < a))
def geD := cmpD (fun i j => decide (j ≤ i)) (fun a b => !decide (a < b))
def rCmp (fi : Int → Int → Bool) (fs : List Nat → List Nat → Bool) : R2 := fun x y H Q => (rI0 (fun i j => .bl (fi i j)) x y H Q) ∨ (∃ i j, x = .str i ∧ y = .str j ∧ Q (.bl (fs i.cps.toList j.cps.toList)) H)
theorem opS_cmp {fi : Int → Int → Bool} {fs : List Nat → List Nat → Bool} : OpS K (rCmp fi fs) (cmpD fi fs) := by
  intro G H v w a b k Q g r1 r2 h q
  unfold cmpD at h
  split at h
  · simp only [Rep] at r1 r2
    exact .inl ⟨_, _, r1, r2, q _ _ H (Same.refl H) (by simp only [Rep]) h⟩
  · simp only [Rep] at r1 r2
    exact .inr ⟨_, _, r1, r2, q _ _ H (Same.refl H) (by simp only [Rep]) h⟩
  · exact h.elim
end

/-! ### the rules by syntax -/
section
variable {ι : Type} {Xs : ι → Cx} {P : Program} {w : World} {K : PySem.W.Frag} {mg : Str → Option Value} {base : Heap} {U : Vol} {E : XS} {lv : Nat} {pos : Pos} {a b : Expr} {ma mb : ME}
theorem de_var (i : Nat) {x : Str} (hN : ∀ j, (Xs j).N[i]? = some x := by intro _; rfl) (hv : ∀ j, Vis (Xs j).env.scope x := by intro _; first | exact Or.inl rfl | exact Or.inr (Or.inl rfl) | exact Or.inr (Or.inr rfl))
    (hd : (x == ("__debug__" : Str)) = false := by decide) (hcd : (x == ("__classdict__" : Str)) = false := by decide) : DE Xs K U E (.Name x pos) (eVar i) := ⟨_, fun j => pe_var (hN j) (hv j) hd hcd, snd_var⟩
theorem de_int {i : Int} {j} : DE Xs K U E (.Constant (.int i) j pos) (eC (.int i)) := ⟨_, fun _ => pe_int, snd_c fun H => by simp only [Rep]⟩
theorem de_bl {i : Bool} {j} : DE Xs K U E (.Constant (.bool i) j pos) (eC (.bl i)) := ⟨_, fun _ => pe_bl, snd_c fun H => by simp only [Rep]⟩
theorem de_non {j} : DE Xs K U E (.Constant .none j pos) (eC .non) := ⟨_, fun _ => pe_non, snd_c fun H => by simp only [Rep]⟩
theorem de_str {i : Str} {j} : DE Xs K U E (.Constant (.str i) j pos) (eC (.str i)) := ⟨_, fun _ => pe_str, snd_c fun H => by simp only [Rep]⟩
/-- a module's constant -/
theorem de_glob {x : Str} {u : Value} {v : V} {d : D} (F : Fam Xs P w K mg base E lv) (hm : mg x = some u) (r : RelV v u) (rd : ∀ H, Rep K H v d) (hg : ∀ j, Gl (Xs j) x := by intro _; rfl) (hd : (x == ("__debug__" : Str)) = false := by decide) : DE Xs K U E (.Name x pos) (eC d) :=
  ⟨_, fun j => pe_glob (hg j) (by rw [F.mg j]; exact hm) r hd, snd_c rd⟩
theorem de_bin {op : Operator} {r : R2} {f : D → D → (D → Prop) → Prop} (ho : ∀ j, OpR (Xs j) (binaryOp op) r) (hs : OpS K r f) (ha : DE Xs K U E a ma) (hb : DE Xs K U E b mb) : DE Xs K U E (.BinOp a op b pos) (eOp f ma mb) := by
  obtain ⟨ta, ha, sa⟩ := ha
  obtain ⟨tb, hb, sb⟩ := hb
  exact ⟨_, fun j => pe_op (ho j) (ha j) (hb j), snd_op hs sa sb⟩
theorem de_add (F : Fam Xs P w K mg base E lv) (ha : DE Xs K U E a ma) (hb : DE Xs K U E b mb) : DE Xs K U E (.BinOp a .Add b pos) (eOp addD ma mb) :=
  de_bin (r := rAddA K) (fun j pins s σ H x y v u Q I rx ry h => by
    rcases h with h | h | h
    · exact op_add pins s σ H x y v u Q I rx ry h
    · exact op_add_str pins s σ H x y v u Q I rx ry h
    · rw [← F.k j] at h
      exact op_catA pins s σ H x y v u Q I rx ry h) opS_add ha hb
theorem de_sub (ha : DE Xs K U E a ma) (hb : DE Xs K U E b mb) : DE Xs K U E (.BinOp a .Sub b pos) (eOp subD ma mb) := de_bin (fun _ => op_sub) opS_sub ha hb
theorem de_mul (ha : DE Xs K U E a ma) (hb : DE Xs K U E b mb) : DE Xs K U E (.BinOp a .Mult b pos) (eOp mulD ma mb) := de_bin (fun _ => op_mulI) opS_mul ha hb
theorem de_div (ha : DE Xs K U E a ma) (hb : DE Xs K U E b mb) : DE Xs K U E (.BinOp a .FloorDiv b pos) (eOp divD ma mb) := de_bin (fun _ => op_fdivW) opS_div ha hb
theorem de_mod (ha : DE Xs K U E a ma) (hb : DE Xs K U E b mb) : DE Xs K U E (.BinOp a .Mod b pos) (eOp modD ma mb) := de_bin (fun _ => op_mod) opS_mod ha hb
theorem de_pow (ha : DE Xs K U E a ma) (hb : DE Xs K U E b mb) : DE Xs K U E (.BinOp a .Pow b pos) (eOp powD ma mb) := de_bin (fun _ => op_pow) opS_pow ha hb
theorem de_neg (ha : DE Xs K U E a ma) : DE Xs K U E (.UnaryOp .USub a pos) (eUn negD ma) := by
  obtain ⟨ta, ha, sa⟩ := ha
  exact ⟨_, fun j => pe_un un_neg (ha j), snd_un unS_neg sa⟩

/-! ### comparisons, as values and as tests -/
theorem de_cmp {op : CmpOp} {r : R2} {f : D → D → (D → Prop) → Prop} (ho : ∀ j, OpR (Xs j) (compareOp op) r) (hs : OpS K r f) (ha : DE Xs K U E a ma) (hb : DE Xs K U E b mb) (hm : behindInMarks op b = false) :
    DE Xs K U E (.Compare a [op] [b] pos) (eOp f ma mb) := by
  obtain ⟨ta, ha, sa⟩ := ha
  obtain ⟨tb, hb, sb⟩ := hb
  exact ⟨_, fun j => pe_cmpR (ho j) (ha j) (hb j) hm, snd_op hs sa sb⟩
def eTest (m : ME) : MT := fun ρ k x => m ρ (fun d ρ1 => match d with
  | .bl c => k c ρ1
  | _ => False) x
theorem snd_test {t : TE} {m : ME} (h : SndE K U E t m) : SndT K U E (tTest t) (eTest m) := by
  intro Z σ ρ H k x Q I h0 q X
  refine h Z σ ρ H _ x _ I h0 (fun d ρ1 v H1 t1 I1 r1 h1 => ?_) X
  split at h1
  · simp only [Rep] at r1
    exact ⟨_, r1, q _ ρ1 H1 t1 I1 h1⟩
  · exact h1.elim
theorem dt_cmp {op : CmpOp} {r : R2} {f : D → D → (D → Prop) → Prop} (ho : ∀ j, OpR (Xs j) (compareOp op) r) (hs : OpS K r f) (ha : DE Xs K U E a ma) (hb : DE Xs K U E b mb) (hm : behindInMarks op b = false) :
    DT Xs K U E (.Compare a [op] [b] pos) (eTest (eOp f ma mb)) := by
  obtain ⟨ta, ha, sa⟩ := ha
  obtain ⟨tb, hb, sb⟩ := hb
  exact ⟨_, fun j => pt_cmpR (ho j) (ha j) (hb j) hm, snd_test (snd_op hs sa sb)⟩
/-- what a comparison's rule is -/
structure CmpOk (Xs : ι → Cx) (K : PySem.W.Frag) (op : CmpOp) (f : D → D → (D → Prop) → Prop) : Prop where
  ok : ∃ r, (∀ j, OpR (Xs j) (compareOp op) r) ∧ OpS K r f
theorem de_cmpO {op : CmpOp} {f : D → D → (D → Prop) → Prop} (c : CmpOk Xs K op f) (ha : DE Xs K U E a ma) (hb : DE Xs K U E b mb) (hm : behindInMarks op b = false := by rfl) : DE Xs K U E (.Compare a [op] [b] pos) (eOp f ma mb) :=
  let ⟨_, h1, h2⟩ := c.ok; de_cmp h1 h2 ha hb hm
theorem dt_cmpO {op : CmpOp} {f : D → D → (D → Prop) → Prop} (c : CmpOk Xs K op f) (ha : DE Xs K U E a ma) (hb : DE Xs K U E b mb) (hm : behindInMarks op b = false := by rfl) : DT Xs K U E (.Compare a [op] [b] pos) (eTest (eOp f ma mb)) :=
  let ⟨_, h1, h2⟩ := c.ok; dt_cmp h1 h2 ha hb hm
theorem c_lt : CmpOk Xs K .Lt ltD := ⟨_, fun j => OpR.or op_lt op_lt_str, opS_cmp⟩
theorem c_le : CmpOk Xs K .LtE leD := ⟨_, fun j => OpR.or op_le op_le_str, opS_cmp⟩
theorem c_gt : CmpOk Xs K .Gt gtD := ⟨_, fun j => OpR.or op_gt op_gt_str, opS_cmp⟩
theorem c_ge : CmpOk Xs K .GtE geD := ⟨_, fun j => OpR.or op_ge op_ge_str, opS_cmp⟩
/-- a < b < c -/
def eChain (f g : D → D → (D → Prop) → Prop) (ma mb mc : ME) : ME := fun ρ k x => ma ρ (fun d1 ρ1 => mb ρ1 (fun d2 ρ2 => f d1 d2 fun d => match d with
  | .bl true => mc ρ2 (fun d3 ρ3 => g d2 d3 fun d => k d ρ3) x
  | .bl false => k (.bl false) ρ2
  | _ => False) x) x
theorem snd_chain {r r' : R2} {f g : D → D → (D → Prop) → Prop} {ta tb tc : TE} {mc : ME} (h1 : OpS K r f) (h2 : OpS K r' g) (ha : SndE K U E ta ma) (hb : SndE K U E tb mb) (hc : SndE K U E tc mc) : SndE K U E (tChain r r' ta tb tc) (eChain f g ma mb mc) := by
  intro Z σ ρ H k x Q I h q X
  refine ha Z σ ρ H _ x _ I h (fun d1 ρ1 v1 H1 t1 I1 r1 h1' => ?_) X
  refine hb Z σ ρ1 H1 _ x _ I1 h1' (fun d2 ρ2 v2 H2 t2 I2 r2 h2' => ?_) (X.go t1)
  refine h1 _ H2 v1 v2 d1 d2 _ _ (fun p hp => I2.hidden hp) (r1.mono t2.vis) r2 h2' fun d u H3 e3 r3 h3 => ?_
  have I3 := I2.same e3
  have t3 : Tr U.S (Owns σ ρ) H (Owns σ ρ2) H3 := (t1.trans t2).trans (.of_same e3)
  split at h3
  · simp only [Rep] at r3
    refine ⟨true, r3, ?_⟩
    rw [if_pos rfl]
    refine hc Z σ ρ2 H3 _ x _ I3 h3 (fun d4 ρ4 v4 H4 t4 I4 r4 h4 => ?_) (X.go t3)
    exact h2 _ H4 v2 v4 d2 d4 _ Q (fun p hp => I4.hidden hp) ((r2.mono (hide_same e3)).mono t4.vis) r4 h4 (fin_same I4 (t3.trans t4) q)
  · simp only [Rep] at r3
    refine ⟨false, r3, ?_⟩
    rw [if_neg Bool.false_ne_true]
    exact q _ ρ2 _ H3 t3 I3 (by simp only [Rep]) h3
  · exact h3.elim
theorem de_chain {op op' : CmpOp} {f g : D → D → (D → Prop) → Prop} {c : Expr} {mc : ME} (hm : lastMarks [op, op'] [b, c] = false) (c1 : CmpOk Xs K op f) (c2 : CmpOk Xs K op' g) (ha : DE Xs K U E a ma) (hb : DE Xs K U E b mb) (hc : DE Xs K U E c mc) : DE Xs K U E (.Compare a [op, op'] [b, c] pos) (eChain f g ma mb mc) := by
  obtain ⟨r, h1, s1⟩ := c1.ok
  obtain ⟨r', h2, s2⟩ := c2.ok
  obtain ⟨ta, ha, sa⟩ := ha
  obtain ⟨tb, hb, sb⟩ := hb
  obtain ⟨tc, hc, sc⟩ := hc
  exact ⟨_, fun j => pe_chain (h1 j) (h2 j) (ha j) (hb j) (hc j) hm, snd_chain s1 s2 sa sb sc⟩
theorem dt_chain {op op' : CmpOp} {f g : D → D → (D → Prop) → Prop} {c : Expr} {mc : ME} (hm : lastMarks [op, op'] [b, c] = false) (c1 : CmpOk Xs K op f) (c2 : CmpOk Xs K op' g) (ha : DE Xs K U E a ma) (hb : DE Xs K U E b mb) (hc : DE Xs K U E c mc) : DT Xs K U E (.Compare a [op, op'] [b, c] pos) (eTest (eChain f g ma mb mc)) := by
  obtain ⟨r, h1, s1⟩ := c1.ok
  obtain ⟨r', h2, s2⟩ := c2.ok
  obtain ⟨ta, ha, sa⟩ := ha
  obtain ⟨tb, hb, sb⟩ := hb
  obtain ⟨tc, hc, sc⟩ := hc
  exact ⟨_, fun j => pt_chain (h1 j) (h2 j) (ha j) (hb j) (hc j) hm, snd_test (snd_chain s1 s2 sa sb sc)⟩
end
end DL

set_option maxRecDepth 100000
set_option maxHeartbeats 1000000
/-! DL3: == of data, in, is; truth; and, or, not; conditional expressions. -/
namespace DL
open PySem PySem.Spec PyProof.Rows L2

mutual
/-- == of plain data -/
def eqv : D → D → Bool
  | .non, b => match b with
    | .non => true
    | _ => false
  | .bl i, b => match b with
    | .bl j => i == j
    | .int j => (if i then 1 else 0) == j
    | _ => false
  | .int i, b => match b with
    | .bl j => i == (if j then 1 else 0)
    | .int j => i == j
    | _ => false
  | .str x, b => match b with
    | .str y => x == y
    | _ => false
  | .tup as, b => match b with
    | .tup bs => eqvL as bs
    | _ => false
  | .lst as, b => match b with
    | .lst bs => eqvL as bs
    | _ => false
  | _, _ => false
def eqvL : List D → List D → Bool
  | [], b => match b with
    | [] => true
    | _ => false
  | a :: as, b => match b with
    | b :: bs => eqv a b && eqvL as bs
    | _ => false
end
mutual
/-- None, bools, ints, texts, tuples and lists of these, at most n deep -/
def pln : Nat → D → Bool
  | _, .non => true
  | _, .bl _ => true
  | _, .int _ => true
  | _, .str _ => true
  | 0, _ => false
  | n + 1, .tup ds => plnL n ds
  | n + 1, .lst ds => plnL n ds
  | _, _ => false
def plnL : Nat → List D → Bool
  | _, [] => true
  | n, d :: ds => pln n d && plnL n ds
end
theorem plnL_get : ∀ {n : Nat} {ds : List D} {i : Nat} {d : D}, plnL n ds = true → ds[i]? = some d → pln n d = true
  | _, [], i, d, _, e => by simp at e
  | n, a :: ds, 0, d, h, e => by
    simp at e; subst e
    simp only [plnL, Bool.and_eq_true] at h
    exact h.1
  | n, a :: ds, i + 1, d, h, e => by
    simp at e
    simp only [plnL, Bool.and_eq_true] at h
    exact plnL_get h.2 e
theorem eqvL_len : ∀ {as bs : List D}, as.length ≠ bs.length → eqvL as bs = false
  | [], [], h => by simp at h
  | [], _ :: _, _ => by simp [eqvL]
  | _ :: _, [], _ => by simp [eqvL]
  | a :: as, b :: bs, h => by
    simp only [eqvL]
    rw [eqvL_len (as := as) (bs := bs) (by simpa using h), Bool.and_false]
theorem eqvL_all : ∀ {as bs : List D} {e : Nat → Bool}, as.length = bs.length → (∀ (j : Nat) (a b : D), as[j]? = some a → bs[j]? = some b → e j = eqv a b) → (List.range as.length).all e = eqvL as bs
  | [], [], _, _, _ => by simp [eqvL]
  | [], _ :: _, _, h, _ => by simp at h
  | _ :: _, [], _, h, _ => by simp at h
  | a :: as, b :: bs, e, h, he => by
    simp only [eqvL, List.length_cons]
    rw [List.range_succ_eq_map, List.all_cons, he 0 a b (by simp) (by simp), List.all_map, ← eqvL_all (as := as) (bs := bs) (e := e ∘ Nat.succ) (by simpa using h) fun j x y h1 h2 => he (j + 1) x y (by simpa using h1) (by simpa using h2)]
theorem range_min {as bs : List D} {e : Nat → Bool} (he : ∀ (j : Nat) (a b : D), as[j]? = some a → bs[j]? = some b → e j = eqv a b) : ((List.range (min as.length bs.length)).all e && as.length == bs.length) = eqvL as bs := by
  by_cases h : as.length = bs.length
  · rw [h, Nat.min_self, beq_self_eq_true, Bool.and_true, ← h]
    exact eqvL_all h he
  · rw [eqvL_len h, show (as.length == bs.length) = false from beq_eq_false_iff_ne.mpr h, Bool.and_false]
mutual
theorem eqv_refl : ∀ {n : Nat} (a : D), pln n a = true → eqv a a = true
  | _, .non, _ => by simp [eqv]
  | _, .bl _, _ => by simp [eqv]
  | _, .int _, _ => by simp [eqv]
  | _, .str _, _ => by simp [eqv]
  | 0, .tup ds, h => by simp [pln] at h
  | n + 1, .tup ds, h => by simp only [pln] at h; simp only [eqv]; exact eqvL_refl (n := n) ds h
  | 0, .lst ds, h => by simp [pln] at h
  | n + 1, .lst ds, h => by simp only [pln] at h; simp only [eqv]; exact eqvL_refl (n := n) ds h
  | n, .dct _ _, h => by cases n <;> simp [pln] at h
  | n, .obj _ _ _, h => by cases n <;> simp [pln] at h
  | n, .exc _, h => by cases n <;> simp [pln] at h
  | n, .hdl _, h => by cases n <;> simp [pln] at h
  | n, .scr _, h => by cases n <;> simp [pln] at h
  | n, .ty _, h => by cases n <;> simp [pln] at h
theorem eqvL_refl : ∀ {n : Nat} (as : List D), plnL n as = true → eqvL as as = true
  | _, [], _ => by simp [eqvL]
  | n, a :: as, h => by
    simp only [plnL, Bool.and_eq_true] at h
    simp only [eqvL, Bool.and_eq_true]
    exact ⟨eqv_refl (n := n) a h.1, eqvL_refl (n := n) as h.2⟩
end

section
variable {X : Cx} {pins : List (Addr × Obj)} {σ : L2.St} {H : Hp} {s : Shared}
theorem list_not_tuple (I : Inv X pins σ H s) {a : Addr} {xs ys : List V} (h : SqL X.K H a xs) (h' : SqT X.K H a ys) : False := by
  obtain ⟨its, r, ⟨o, n, e, hc, _⟩, _⟩ := I.list h
  obtain ⟨its', r', ⟨o', e', hc', _⟩, _⟩ := I.tuple h'
  rw [e] at e'; cases e'
  rw [hc] at hc'
  exact absurd hc' (by decide)
mutual
theorem rep_inj (I : Inv X pins σ H s) : ∀ {n m : Nat} (a b : D) (v : V), pln n a = true → pln m b = true → Rep X.K H v a → Rep X.K H v b → a = b
  | _, m, .non, b, v, _, hb, r1, r2 => by
    cases b with
    | non => rfl
    | _ => cases m <;> simp only [pln, Rep, reduceCtorEq] at hb r1 r2 <;> (subst r1; simp at r2)
  | _, m, .bl i, b, v, _, hb, r1, r2 => by
    cases b with
    | bl j => simp only [Rep] at r1 r2; subst r1; cases r2; rfl
    | _ => cases m <;> simp only [pln, Rep, reduceCtorEq] at hb r1 r2 <;> (subst r1; simp at r2)
  | _, m, .int i, b, v, _, hb, r1, r2 => by
    cases b with
    | int j => simp only [Rep] at r1 r2; subst r1; cases r2; rfl
    | _ => cases m <;> simp only [pln, Rep, reduceCtorEq] at hb r1 r2 <;> (subst r1; simp at r2)
  | _, m, .str x, b, v, _, hb, r1, r2 => by
    cases b with
    | str j => simp only [Rep] at r1 r2; subst r1; cases r2; rfl
    | _ => cases m <;> simp only [pln, Rep, reduceCtorEq] at hb r1 r2 <;> (subst r1; simp at r2)
  | 0, _, .tup ds, b, v, ha, _, _, _ => by simp [pln] at ha
  | n + 1, m, .tup ds, b, v, ha, hb, r1, r2 => by
    simp only [pln, Rep] at ha r1
    obtain ⟨p, vs, rfl, s1, l1⟩ := r1
    replace s1 := s1.toT
    cases b with
    | tup es =>
      cases m with
      | zero => simp [pln] at hb
      | succ m =>
        simp only [pln, Rep] at hb r2
        obtain ⟨q, ws, e, s2, l2⟩ := r2
        cases e
        rw [I.tuple_inj s2.toT s1] at l2
        rw [repL_inj I ds es vs ha hb l1 l2]
    | lst es =>
      simp only [Rep] at r2
      obtain ⟨q, ws, e, s2, l2⟩ := r2
      cases e
      exact (list_not_tuple I (SqL.of s2) s1).elim
    | _ => cases m <;> simp [pln, Rep] at hb r2
  | 0, _, .lst ds, b, v, ha, _, _, _ => by simp [pln] at ha
  | n + 1, m, .lst ds, b, v, ha, hb, r1, r2 => by
    simp only [pln, Rep] at ha r1
    obtain ⟨p, vs, rfl, s1, l1⟩ := r1
    cases b with
    | lst es =>
      cases m with
      | zero => simp [pln] at hb
      | succ m =>
        simp only [pln, Rep] at hb r2
        obtain ⟨q, ws, e, s2, l2⟩ := r2
        cases e
        rw [I.list_inj (SqL.of s2) (SqL.of s1)] at l2
        rw [repL_inj I ds es vs ha hb l1 l2]
    | tup es =>
      simp only [Rep] at r2
      obtain ⟨q, ws, e, s2, l2⟩ := r2
      cases e
      exact (list_not_tuple I (SqL.of s1) s2.toT).elim
    | _ => cases m <;> simp [pln, Rep] at hb r2
  | n, _, .dct _ _, _, _, h, _, _, _ => by cases n <;> simp [pln] at h
  | n, _, .obj _ _ _, _, _, h, _, _, _ => by cases n <;> simp [pln] at h
  | n, _, .exc _, _, _, h, _, _, _ => by cases n <;> simp [pln] at h
  | n, _, .hdl _, _, _, h, _, _, _ => by cases n <;> simp [pln] at h
  | n, _, .scr _, _, _, h, _, _, _ => by cases n <;> simp [pln] at h
  | n, _, .ty _, _, _, h, _, _, _ => by cases n <;> simp [pln] at h
theorem repL_inj (I : Inv X pins σ H s) : ∀ {n m : Nat} (as bs : List D) (vs : List V), plnL n as = true → plnL m bs = true → RepL X.K H vs as → RepL X.K H vs bs → as = bs
  | _, _, [], bs, vs, _, _, r1, r2 => by
    simp only [RepL] at r1
    subst r1
    cases bs with
    | nil => rfl
    | cons _ _ => simp [RepL] at r2
  | n, m, a :: as, bs, vs, ha, hb, r1, r2 => by
    simp only [RepL] at r1
    obtain ⟨v, r, rfl, r3, r4⟩ := r1
    cases bs with
    | nil => simp [RepL] at r2
    | cons b bs =>
      simp only [RepL] at r2
      obtain ⟨v', r', e, r5, r6⟩ := r2
      cases e
      simp only [plnL, Bool.and_eq_true] at ha hb
      rw [rep_inj I a b v ha.1 hb.1 r3 r5, repL_inj I as bs r ha.2 hb.2 r4 r6]
end
theorem len_of (I : Inv X pins σ H s) {vs : List V} {ds : List D} {its : List Value} (l : RepL X.K H vs ds) (r : Vals vs its) : its.length = ds.length := by rw [← r.length, l.len]
theorem eqAt_flat_l {A : Around} {x : V} {u : Value} {p : Addr} {its : Array Value} (f : flatV x = true) (r : RelV x u) (hl : s.heap.IsList p its) (hu : A.units < cLine) : SeqAt.EqAt A s u (.ref p) false := by
  cases x with
  | non => cases r; exact SeqAt.EqAt.none_list hl hu
  | bl b => cases r; exact SeqAt.EqAt.bool_list _ hl hu
  | int i => obtain ⟨t, rfl⟩ := r; exact SeqAt.EqAt.int_list _ _ hl hu
  | str i => obtain ⟨t, rfl⟩ := r; exact SeqAt.EqAt.str_list _ _ hl hu
  | _ => simp [flatV] at f
theorem eqAt_flat_t {A : Around} {x : V} {u : Value} {p : Addr} {its : Array Value} (f : flatV x = true) (r : RelV x u) (hl : s.heap.IsTuple p its) (hu : A.units < cLine) : SeqAt.EqAt A s u (.ref p) false := by
  cases x with
  | non => cases r; exact SeqAt.EqAt.none_tuple hl hu
  | bl b => cases r; exact SeqAt.EqAt.bool_tuple _ hl hu
  | int i => obtain ⟨t, rfl⟩ := r; exact SeqAt.EqAt.int_tuple _ _ hl hu
  | str i => obtain ⟨t, rfl⟩ := r; exact SeqAt.EqAt.str_tuple _ _ hl hu
  | _ => simp [flatV] at f
theorem eqAt_l_flat {A : Around} {x : V} {u : Value} {p : Addr} {its : Array Value} (f : flatV x = true) (r : RelV x u) (hl : s.heap.IsList p its) (hu : A.units < cLine) : SeqAt.EqAt A s (.ref p) u false := by
  cases x with
  | non => cases r; exact SeqAt.EqAt.list_none hl hu
  | bl b => cases r; exact SeqAt.EqAt.list_bool _ hl hu
  | int i => obtain ⟨t, rfl⟩ := r; exact SeqAt.EqAt.list_int _ _ hl hu
  | str i => obtain ⟨t, rfl⟩ := r; exact SeqAt.EqAt.list_str _ _ hl hu
  | _ => simp [flatV] at f
theorem eqAt_t_flat {A : Around} {x : V} {u : Value} {p : Addr} {its : Array Value} (f : flatV x = true) (r : RelV x u) (hl : s.heap.IsTuple p its) (hu : A.units < cLine) : SeqAt.EqAt A s (.ref p) u false := by
  cases x with
  | non => cases r; exact SeqAt.EqAt.tuple_none hl hu
  | bl b => cases r; exact SeqAt.EqAt.tuple_bool _ hl hu
  | int i => obtain ⟨t, rfl⟩ := r; exact SeqAt.EqAt.tuple_int _ _ hl hu
  | str i => obtain ⟨t, rfl⟩ := r; exact SeqAt.EqAt.tuple_str _ _ hl hu
  | _ => simp [flatV] at f
/-- None, a bool, an int, a text -/
def scl : D → Option V
  | .non => some .non
  | .bl b => some (.bl b)
  | .int i => some (.int i)
  | .str x => some (.str x)
  | _ => none
theorem scl_rep {K : PySem.W.Frag} {H : Hp} {d : D} {v x : V} (e : scl d = some x) (r : Rep K H v d) : v = x ∧ flatV x = true := by
  cases d <;> simp [scl] at e <;> simp only [Rep] at r <;> subst e <;> exact ⟨r, rfl⟩
theorem scl_eqv {a b : D} {x y : V} (e : scl a = some x) (e' : scl b = some y) : eqv a b = eqV x y := by
  cases a <;> simp [scl] at e <;> subst e <;> cases b <;> simp [scl] at e' <;> subst e' <;> rfl
theorem scl_tup {a : D} {x : V} {es : List D} (e : scl a = some x) : eqv a (.tup es) = false ∧ eqv a (.lst es) = false ∧ eqv (.tup es) a = false ∧ eqv (.lst es) a = false := by
  cases a <;> simp [scl] at e <;> simp [eqv]
theorem pln_cases {n : Nat} {a : D} (h : pln n a = true) : (∃ x, scl a = some x) ∨ (∃ ds m, a = .tup ds ∧ n = m + 1 ∧ plnL m ds = true) ∨ (∃ ds m, a = .lst ds ∧ n = m + 1 ∧ plnL m ds = true) := by
  cases a with
  | non => exact .inl ⟨_, rfl⟩
  | bl _ => exact .inl ⟨_, rfl⟩
  | int _ => exact .inl ⟨_, rfl⟩
  | str _ => exact .inl ⟨_, rfl⟩
  | tup ds => cases n with
    | zero => simp [pln] at h
    | succ m => exact .inr (.inl ⟨ds, m, rfl, rfl, by simpa [pln] using h⟩)
  | lst ds => cases n with
    | zero => simp [pln] at h
    | succ m => exact .inr (.inr ⟨ds, m, rfl, rfl, by simpa [pln] using h⟩)
  | _ => cases n <;> simp [pln] at h
theorem vals_at {vs : List V} {its : List Value} {ds : List D} (r : Vals vs its) (l : RepL X.K H vs ds) {j : Nat} {u : Value} (e : its[j]? = some u) : ∃ v d, ds[j]? = some d ∧ Rep X.K H v d ∧ RelV v u := by
  have hj : j < vs.length := by rw [r.length]; exact (List.getElem?_eq_some_iff.mp e).1
  obtain ⟨u', e', r'⟩ := r.get (i := j) (x := vs[j]) (by simp [hj])
  rw [e] at e'; cases e'
  obtain ⟨d, e2, r2⟩ := l.get (i := j) (v := vs[j]) (by simp [hj])
  exact ⟨_, d, e2, r2, r'⟩
/-- == in all nested places -/
theorem eqAt_rep (I : Inv X pins σ H s) : ∀ (n : Nat) {m : Nat} (a b : D) (A : Around) (v w : V) (u z : Value), pln n a = true → pln m b = true → A.units + n < cLine → Rep X.K H v a → Rep X.K H w b → RelV v u → RelV w z → SeqAt.EqAt A s u z (eqv a b) := by
  intro n
  induction n with
  | zero =>
    intro m a b A v w u z ha hb hu r1 r2 q1 q2
    rcases pln_cases ha with ⟨x, e⟩ | ⟨_, _, _, h, _⟩ | ⟨_, _, _, h, _⟩
    · obtain ⟨rfl, f⟩ := scl_rep e r1
      rcases pln_cases hb with ⟨y, e'⟩ | ⟨ds, k, rfl, _, _⟩ | ⟨ds, k, rfl, _, _⟩
      · obtain ⟨rfl, f'⟩ := scl_rep e' r2
        rw [scl_eqv e e']
        exact eqAt_V q1 q2 f f'
      · simp only [Rep] at r2
        obtain ⟨p, vs, rfl, s1, l1⟩ := r2
        obtain ⟨its, r, pl, _⟩ := I.tuple s1.toT
        cases q2
        rw [(scl_tup e).1]
        exact eqAt_flat_t f q1 pl (by omega)
      · simp only [Rep] at r2
        obtain ⟨p, vs, rfl, s1, l1⟩ := r2
        obtain ⟨its, r, pl, _⟩ := I.list (SqL.of s1)
        cases q2
        rw [(scl_tup e).2.1]
        exact eqAt_flat_l f q1 pl.isList (by omega)
    · omega
    · omega
  | succ n ih =>
    intro m a b A v w u z ha hb hu r1 r2 q1 q2
    have inner : ∀ {ds es : List D} {k : Nat} {vs ws : List V} {its iws : List Value}, plnL n ds = true → plnL k es = true → RepL X.K H vs ds → RepL X.K H ws es → Vals vs its → Vals ws iws →
        ∀ (j : Nat) (x y : Value) (d e : D), its[j]? = some x → iws[j]? = some y → ds[j]? = some d → es[j]? = some e → SeqAt.EqAt A.in1 s x y (eqv d e) := by
      intro ds es k vs ws its iws h1 h2 l1 l2 rr1 rr2 j x y d e e1 e2 e3 e4
      obtain ⟨v1, d1, z1, z2, z3⟩ := vals_at rr1 l1 e1
      obtain ⟨v2, d2, y1, y2, y3⟩ := vals_at rr2 l2 e2
      rw [e3] at z1; cases z1
      rw [e4] at y1; cases y1
      exact ih d e A.in1 v1 v2 x y (plnL_get h1 e3) (plnL_get h2 e4) (by show A.units + 1 + n < cLine; omega) z2 y2 z3 y3
    rcases pln_cases ha with ⟨x, e⟩ | ⟨ds, n', rfl, hn, hd⟩ | ⟨ds, n', rfl, hn, hd⟩
    · obtain ⟨rfl, f⟩ := scl_rep e r1
      rcases pln_cases hb with ⟨y, e'⟩ | ⟨es, k, rfl, _, _⟩ | ⟨es, k, rfl, _, _⟩
      · obtain ⟨rfl, f'⟩ := scl_rep e' r2
        rw [scl_eqv e e']
        exact eqAt_V q1 q2 f f'
      · simp only [Rep] at r2
        obtain ⟨p, vs, rfl, s1, l1⟩ := r2
        obtain ⟨its, r, pl, _⟩ := I.tuple s1.toT
        cases q2
        rw [(scl_tup e).1]
        exact eqAt_flat_t f q1 pl (by omega)
      · simp only [Rep] at r2
        obtain ⟨p, vs, rfl, s1, l1⟩ := r2
        obtain ⟨its, r, pl, _⟩ := I.list (SqL.of s1)
        cases q2
        rw [(scl_tup e).2.1]
        exact eqAt_flat_l f q1 pl.isList (by omega)
    · cases hn
      simp only [Rep] at r1
      obtain ⟨p, vs, rfl, s1, l1⟩ := r1
      obtain ⟨its, rv, pl, _⟩ := I.tuple s1.toT
      cases q1
      rcases pln_cases hb with ⟨y, e'⟩ | ⟨es, k, rfl, _, he⟩ | ⟨es, k, rfl, _, he⟩
      · obtain ⟨rfl, f'⟩ := scl_rep e' r2
        rw [(scl_tup e').2.2.1]
        exact eqAt_t_flat f' q2 pl (by omega)
      · simp only [Rep] at r2
        obtain ⟨p2, ws, rfl, s2, l2⟩ := r2
        cases q2
        by_cases hp : p = p2
        · subst hp
          rw [I.tuple_inj s2.toT s1.toT] at l2
          have e := repL_inj I ds es vs hd he l1 l2
          subst e
          simp only [eqv]
          rw [eqvL_refl ds hd]
          exact SeqAt.EqAt.same _
        · obtain ⟨iws, rw', pl2, _⟩ := I.tuple s2.toT
          have h1 := len_of I l1 rv
          have h2 := len_of I l2 rw'
          simp only [eqv]
          rw [← range_min (as := ds) (bs := es) (e := fun j => match ds[j]?, es[j]? with
            | some d, some e => eqv d e
            | _, _ => false) (fun j a b e1 e2 => by simp [e1, e2])]
          have hsz : its.toArray.size = ds.length := by simpa using h1
          have hsz2 : iws.toArray.size = es.length := by simpa using h2
          rw [← hsz, ← hsz2]
          refine SeqAt.EqAt.of_refs hp (SeqAt.RcAt.tuples (show s.heap.IsTuple p its.toArray from pl) (show s.heap.IsTuple p2 iws.toArray from pl2) (by omega) fun j g1 g2 => ?_)
          have k1 : j < ds.length := by omega
          have k2 : j < es.length := by omega
          have := inner hd he l1 l2 rv rw' j its.toArray[j] iws.toArray[j] ds[j] es[j] (by simp) (by simp) (by simp [k1]) (by simp [k2])
          simpa [k1, k2] using this
      · simp only [Rep] at r2
        obtain ⟨p2, ws, rfl, s2, l2⟩ := r2
        obtain ⟨iws, rw', pl2, _⟩ := I.list (SqL.of s2)
        cases q2
        simp only [eqv]
        exact SeqAt.EqAt.tuple_list (show s.heap.IsTuple p its.toArray from pl) pl2.isList (by omega)
    · cases hn
      simp only [Rep] at r1
      obtain ⟨p, vs, rfl, s1, l1⟩ := r1
      obtain ⟨its, rv, pl, _⟩ := I.list (SqL.of s1)
      cases q1
      rcases pln_cases hb with ⟨y, e'⟩ | ⟨es, k, rfl, _, he⟩ | ⟨es, k, rfl, _, he⟩
      · obtain ⟨rfl, f'⟩ := scl_rep e' r2
        rw [(scl_tup e').2.2.2]
        exact eqAt_l_flat f' q2 pl.isList (by omega)
      · simp only [Rep] at r2
        obtain ⟨p2, ws, rfl, s2, l2⟩ := r2
        obtain ⟨iws, rw', pl2, _⟩ := I.tuple s2.toT
        cases q2
        simp only [eqv]
        exact SeqAt.EqAt.list_tuple pl.isList (show s.heap.IsTuple p2 iws.toArray from pl2) (by omega)
      · simp only [Rep] at r2
        obtain ⟨p2, ws, rfl, s2, l2⟩ := r2
        cases q2
        by_cases hp : p = p2
        · subst hp
          rw [I.list_inj (SqL.of s2) (SqL.of s1)] at l2
          have e := repL_inj I ds es vs hd he l1 l2
          subst e
          simp only [eqv]
          rw [eqvL_refl ds hd]
          exact SeqAt.EqAt.same _
        · obtain ⟨iws, rw', pl2, _⟩ := I.list (SqL.of s2)
          have h1 := len_of I l1 rv
          have h2 := len_of I l2 rw'
          have hsz : its.toArray.size = ds.length := by simpa using h1
          have hsz2 : iws.toArray.size = es.length := by simpa using h2
          simp only [eqv]
          by_cases hl : ds.length = es.length
          · rw [← eqvL_all (as := ds) (bs := es) (e := fun j => match ds[j]?, es[j]? with
              | some d, some e => eqv d e
              | _, _ => false) hl (fun j a b e1 e2 => by simp [e1, e2])]
            rw [← hsz]
            refine SeqAt.EqAt.of_refs hp (SeqAt.RcAt.lists pl.isList pl2.isList (by omega) (by omega) fun j g1 g2 => ?_)
            have k1 : j < ds.length := by omega
            have k2 : j < es.length := by omega
            have := inner hd he l1 l2 rv rw' j its.toArray[j] iws.toArray[j] ds[j] es[j] (by simp) (by simp) (by simp [k1]) (by simp [k2])
            simpa [k1, k2] using this
          · rw [eqvL_len hl]
            exact SeqAt.EqAt.of_refs hp (SeqAt.RcAt.lists_lengths pl.isList pl2.isList (bne_iff_ne.mpr (by omega)) (by omega))
end
end DL

set_option maxRecDepth 100000
set_option maxHeartbeats 1000000
/-! DL4: == and its kin by syntax; truth; and, or, not; conditional expressions; displays, items, slices. -/
namespace DL
open PySem PySem.Spec PyProof.Rows L2

/-! ### == != -/
def eqD : D → D → (D → Prop) → Prop
  | .tup as, .tup bs, k => plnL 40 as = true ∧ plnL 40 bs = true ∧ k (.bl (eqvL as bs))
  | .lst as, .lst bs, k => (as.length ≠ bs.length ∧ k (.bl false)) ∨ (plnL 40 as = true ∧ plnL 40 bs = true ∧ k (.bl (eqvL as bs)))
  | .int i, .int j, k => k (.bl (decide (i = j)))
  | .str i, .str j, k => k (.bl (decide (i = j)))
  | .bl i, .bl j, k => k (.bl (decide (i = j)))
  | .non, .non, k => k (.bl true)
  | .non, .int _, k => k (.bl false)
  | .non, .str _, k => k (.bl false)
  | .int _, .str _, k => k (.bl false)
  | .str _, .int _, k => k (.bl false)
  | .str _, .non, k => k (.bl false)
  | .int _, .non, k => k (.bl false)
  | _, _, _ => False
def neD : D → D → (D → Prop) → Prop := fun a b k => eqD a b fun d => match d with
  | .bl c => k (.bl (!c))
  | _ => False
section
variable {X : Cx} {pins : List (Addr × Obj)} {σ : L2.St} {H : Hp} {s : Shared}
theorem rc_tup (I : Inv X pins σ H s) (hu : X.A.units + 60 < cLine) {p q : Addr} {vs ws : List V} {as bs : List D} (s1 : SqT X.K H p vs) (s2 : SqT X.K H q ws) (l1 : RepL X.K H vs as) (l2 : RepL X.K H ws bs) (ha : plnL 40 as = true) (hb : plnL 40 bs = true) :
    SeqAt.RcAt X.A s (.ref p) (.ref q) (eqvL as bs) ∧ SeqAt.RcNeAt X.A s (.ref p) (.ref q) (!eqvL as bs) := by
  obtain ⟨its, rv, pl, _⟩ := I.tuple s1
  obtain ⟨iws, rw', pl2, _⟩ := I.tuple s2
  have h1 := len_of I l1 rv
  have h2 := len_of I l2 rw'
  have hsz : its.toArray.size = as.length := by simpa using h1
  have hsz2 : iws.toArray.size = bs.length := by simpa using h2
  have key : ∀ (j : Nat) (g1 : j < its.toArray.size) (g2 : j < iws.toArray.size), SeqAt.EqAt X.A.in1 s its.toArray[j] iws.toArray[j] (match as[j]?, bs[j]? with
      | some d, some e => eqv d e
      | _, _ => false) := fun j g1 g2 => by
    have k1 : j < as.length := by omega
    have k2 : j < bs.length := by omega
    obtain ⟨v1, d1, z1, z2, z3⟩ := vals_at (j := j) (u := its.toArray[j]) rv l1 (by simp)
    obtain ⟨v2, d2, y1, y2, y3⟩ := vals_at (j := j) (u := iws.toArray[j]) rw' l2 (by simp)
    rw [z1, y1]
    exact eqAt_rep I 40 d1 d2 X.A.in1 v1 v2 _ _ (plnL_get ha z1) (plnL_get hb y1) (by show X.A.units + 1 + 40 < cLine; omega) z2 y2 z3 y3
  have e := range_min (as := as) (bs := bs) (e := fun j => match as[j]?, bs[j]? with
    | some d, some e => eqv d e
    | _, _ => false) (fun j a b e1 e2 => by simp [e1, e2])
  rw [← e, ← hsz, ← hsz2]
  exact ⟨SeqAt.RcAt.tuples (show s.heap.IsTuple p its.toArray from pl) (show s.heap.IsTuple q iws.toArray from pl2) (by omega) key,
    SeqAt.RcNeAt.tuples (show s.heap.IsTuple p its.toArray from pl) (show s.heap.IsTuple q iws.toArray from pl2) (by omega) key⟩
theorem rc_lst (I : Inv X pins σ H s) (hu : X.A.units + 60 < cLine) {p q : Addr} {vs ws : List V} {as bs : List D} (s1 : SqL X.K H p vs) (s2 : SqL X.K H q ws) (l1 : RepL X.K H vs as) (l2 : RepL X.K H ws bs) (h : as.length ≠ bs.length ∨ (plnL 40 as = true ∧ plnL 40 bs = true)) :
    SeqAt.RcAt X.A s (.ref p) (.ref q) (eqvL as bs) ∧ SeqAt.RcNeAt X.A s (.ref p) (.ref q) (!eqvL as bs) := by
  obtain ⟨its, rv, pl, _⟩ := I.list s1
  obtain ⟨iws, rw', pl2, _⟩ := I.list s2
  have h1 := len_of I l1 rv
  have h2 := len_of I l2 rw'
  have hsz : its.toArray.size = as.length := by simpa using h1
  have hsz2 : iws.toArray.size = bs.length := by simpa using h2
  by_cases hl : as.length = bs.length
  · obtain ⟨ha, hb⟩ := h.resolve_left fun z => z hl
    have key : ∀ (j : Nat) (g1 : j < its.toArray.size) (g2 : j < iws.toArray.size), SeqAt.EqAt X.A.in1 s its.toArray[j] iws.toArray[j] (match as[j]?, bs[j]? with
        | some d, some e => eqv d e
        | _, _ => false) := fun j g1 g2 => by
      have k1 : j < as.length := by omega
      have k2 : j < bs.length := by omega
      obtain ⟨v1, d1, z1, z2, z3⟩ := vals_at (j := j) (u := its.toArray[j]) rv l1 (by simp)
      obtain ⟨v2, d2, y1, y2, y3⟩ := vals_at (j := j) (u := iws.toArray[j]) rw' l2 (by simp)
      rw [z1, y1]
      exact eqAt_rep I 40 d1 d2 X.A.in1 v1 v2 _ _ (plnL_get ha z1) (plnL_get hb y1) (by show X.A.units + 1 + 40 < cLine; omega) z2 y2 z3 y3
    have e := eqvL_all (as := as) (bs := bs) (e := fun j => match as[j]?, bs[j]? with
      | some d, some e => eqv d e
      | _, _ => false) hl (fun j a b e1 e2 => by simp [e1, e2])
    rw [← e, ← hsz]
    exact ⟨SeqAt.RcAt.lists pl.isList pl2.isList (by omega) (by omega) key, SeqAt.RcNeAt.lists pl.isList pl2.isList (by omega) (by omega) key⟩
  · rw [eqvL_len hl]
    exact ⟨SeqAt.RcAt.lists_lengths pl.isList pl2.isList (bne_iff_ne.mpr (by omega)) (by omega), SeqAt.RcNeAt.lists_lengths pl.isList pl2.isList (bne_iff_ne.mpr (by omega)) (by omega)⟩
end
def rEqA (K : PySem.W.Frag) (neg : Bool) : R2 := fun x y H Q => (scal x y = true ∧ Q (.bl (if neg then !decide (x = y) else decide (x = y))) H) ∨
  (∃ p q vs ws as bs, x = .ref p ∧ y = .ref q ∧ SqT K H p vs ∧ SqT K H q ws ∧ RepL K H vs as ∧ RepL K H ws bs ∧ plnL 40 as = true ∧ plnL 40 bs = true ∧ Q (.bl (if neg then !eqvL as bs else eqvL as bs)) H) ∨
  (∃ p q vs ws as bs, x = .ref p ∧ y = .ref q ∧ SqL K H p vs ∧ SqL K H q ws ∧ RepL K H vs as ∧ RepL K H ws bs ∧ (as.length ≠ bs.length ∨ (plnL 40 as = true ∧ plnL 40 bs = true)) ∧ Q (.bl (if neg then !eqvL as bs else eqvL as bs)) H)
theorem opr_eq {X : Cx} (hu : X.A.units + 60 < cLine) : OpR X (compareOp .Eq) (rEqA X.K false) := by
  intro pins s σ H x y v u Q I rx ry h
  rcases h with ⟨h, q⟩ | ⟨p, q, vs, ws, as, bs, rfl, rfl, s1, s2, l1, l2, ha, hb, k⟩ | ⟨p, q, vs, ws, as, bs, rfl, rfl, s1, s2, l1, l2, h, k⟩
  · exact op_eq pins s σ H x y v u Q I rx ry ⟨h, q⟩
  · cases rx
    cases ry
    exact (rc_tup I hu s1 s2 l1 l2 ha hb).1 _ _ _ _ ⟨.bl _, H, I, rfl, k⟩
  · cases rx
    cases ry
    exact (rc_lst I hu s1 s2 l1 l2 h).1 _ _ _ _ ⟨.bl _, H, I, rfl, k⟩
theorem opr_ne {X : Cx} (hu : X.A.units + 60 < cLine) : OpR X (compareOp .NotEq) (rEqA X.K true) := by
  intro pins s σ H x y v u Q I rx ry h
  rcases h with ⟨h, q⟩ | ⟨p, q, vs, ws, as, bs, rfl, rfl, s1, s2, l1, l2, ha, hb, k⟩ | ⟨p, q, vs, ws, as, bs, rfl, rfl, s1, s2, l1, l2, h, k⟩
  · exact op_ne pins s σ H x y v u Q I rx ry ⟨h, q⟩
  · cases rx
    cases ry
    exact (rc_tup I hu s1 s2 l1 l2 ha hb).2 _ _ _ _ ⟨.bl _, H, I, rfl, k⟩
  · cases rx
    cases ry
    exact (rc_lst I hu s1 s2 l1 l2 h).2 _ _ _ _ ⟨.bl _, H, I, rfl, k⟩
theorem opS_eqA {K : PySem.W.Frag} (neg : Bool) : OpS K (rEqA K neg) (fun a b k => eqD a b fun d => match d with
  | .bl c => k (.bl (if neg then !c else c))
  | _ => False) := by
  intro G H v w a b k Q g r1 r2 h q
  have fin : ∀ c : Bool, k (.bl c) → Q (.bl c) H := fun c hc => q _ _ H (Same.refl H) (by simp only [Rep]) hc
  unfold eqD at h
  split at h
  · simp only [Rep] at r1 r2
    obtain ⟨p1, vs, rfl, s1, l1⟩ := r1
    obtain ⟨p2, ws, rfl, s2, l2⟩ := r2
    exact .inr (.inl ⟨p1, p2, vs, ws, _, _, rfl, rfl, sameT hide_sub s1.toT, sameT hide_sub s2.toT, l1.mono hide_sub, l2.mono hide_sub, h.1, h.2.1, fin _ h.2.2⟩)
  · simp only [Rep] at r1 r2
    obtain ⟨p1, vs, rfl, s1, l1⟩ := r1
    obtain ⟨p2, ws, rfl, s2, l2⟩ := r2
    refine .inr (.inr ⟨p1, p2, vs, ws, _, _, rfl, rfl, SqL.of (hide_sub _ _ s1), SqL.of (hide_sub _ _ s2), l1.mono hide_sub, l2.mono hide_sub, ?_, fin _ ?_⟩)
    · rcases h with h | h
      · exact .inl h.1
      · exact .inr ⟨h.1, h.2.1⟩
    · rcases h with h | h
      · rw [eqvL_len h.1]; exact h.2
      · exact h.2.2
  all_goals first
    | exact h.elim
    | (simp only [Rep] at r1 r2; subst r1 r2
       refine .inl ⟨rfl, fin _ ?_⟩
       first
         | exact h
         | (simp; exact h)
         | (simpa using h)
         | (cases neg <;> simp at h ⊢ <;> exact h))
section
variable {ι : Type} {Xs : ι → Cx} {P : Program} {w : World} {K : PySem.W.Frag} {mg : Str → Option Value} {base : Heap} {U : Vol} {E : XS} {lv : Nat}
theorem Fam.u (F : Fam Xs P w K mg base E lv) (j : ι) : (Xs j).A.units + 60 < cLine := by have := (F.room j).un; omega
theorem c_eq (F : Fam Xs P w K mg base E lv) : CmpOk Xs K .Eq eqD := ⟨rEqA K false, fun j => by have := opr_eq (F.u j); rw [F.k j] at this; exact this, by
  intro G H v w a b k Q g r1 r2 h q
  refine opS_eqA false G H v w a b k Q g r1 r2 ?_ q
  unfold eqD at h ⊢
  split at h <;> first | exact h | exact False.elim h⟩
theorem c_ne (F : Fam Xs P w K mg base E lv) : CmpOk Xs K .NotEq neD := ⟨rEqA K true, fun j => by have := opr_ne (F.u j); rw [F.k j] at this; exact this, opS_eqA true⟩
end

/-! ### in -/
def sclL : List D → Option (List V)
  | [] => some []
  | d :: ds => match scl d, sclL ds with
    | some v, some vs => some (v :: vs)
    | _, _ => none
theorem sclL_rep {K : PySem.W.Frag} {H : Hp} : ∀ {ds : List D} {vs xs : List V}, sclL ds = some xs → RepL K H vs ds → vs = xs ∧ xs.all flatV = true
  | [], vs, xs, e, r => by
    simp only [sclL, Option.some.injEq] at e
    simp only [RepL] at r
    subst e r
    exact ⟨rfl, rfl⟩
  | d :: ds, vs, xs, e, r => by
    simp only [RepL] at r
    obtain ⟨v, r', rfl, r1, r2⟩ := r
    simp only [sclL] at e
    split at e
    · rename_i v' vs' e1 e2
      cases e
      obtain ⟨rfl, f⟩ := scl_rep e1 r1
      obtain ⟨rfl, fs⟩ := sclL_rep e2 r2
      exact ⟨rfl, by rw [List.all_cons, f, fs]; rfl⟩
    · cases e
/-- x in xs: scalars in a list, a tuple; one sign in a text; a key in a dict -/
def inD : D → D → (D → Prop) → Prop
  | a, .lst ds, k => match scl a, sclL ds with
    | some v, some vs => k (.bl (inV v vs))
    | _, _ => False
  | a, .tup ds, k => match scl a, sclL ds with
    | some v, some vs => k (.bl (inV v vs))
    | _, _ => False
  | .str x, .str z, k => match x.cps.toList with
    | [c] => k (.bl (decide (c ∈ z.cps.toList)))
    | _ => False
  | _, _, _ => False
def notInD : D → D → (D → Prop) → Prop := fun a b k => inD a b fun d => match d with
  | .bl c => k (.bl (!c))
  | _ => False
def rInA (K : PySem.W.Frag) (neg : Bool) : R2 := fun x y H Q => rIn K neg x y H Q ∨ (∃ (c : Nat) (z : Str), x = .str ⟨#[c]⟩ ∧ y = .str z ∧ Q (.bl (if neg then !decide (c ∈ z.cps.toList) else decide (c ∈ z.cps.toList))) H)
theorem sign_of {x : Str} {c : Nat} (h : x.cps.toList = [c]) : x = ⟨#[c]⟩ := by
  obtain ⟨a⟩ := x
  simp only at h
  have : a = #[c] := by rw [← Array.toArray_toList (xs := a), h]
  rw [this]
theorem opS_in {K : PySem.W.Frag} (neg : Bool) : OpS K (rInA K neg) (fun a b k => inD a b fun d => match d with
  | .bl c => k (.bl (if neg then !c else c))
  | _ => False) := by
  intro G H v w a b k Q g r1 r2 h q
  have fin : ∀ c : Bool, k (.bl c) → Q (.bl c) H := fun c hc => q _ _ H (Same.refl H) (by simp only [Rep]) hc
  unfold inD at h
  split at h
  · split at h
    · rename_i e1 e2
      simp only [Rep] at r2
      obtain ⟨p2, ws, rfl, s2, l2⟩ := r2
      obtain ⟨rfl, f⟩ := scl_rep e1 r1
      obtain ⟨rfl, fs⟩ := sclL_rep e2 l2
      exact .inl ⟨p2, ws, rfl, .inl (SqL.of (hide_sub _ _ s2)), f, fs, fin _ h⟩
    · exact h.elim
  · split at h
    · rename_i e1 e2
      simp only [Rep] at r2
      obtain ⟨p2, ws, rfl, s2, l2⟩ := r2
      obtain ⟨rfl, f⟩ := scl_rep e1 r1
      obtain ⟨rfl, fs⟩ := sclL_rep e2 l2
      exact .inl ⟨p2, ws, rfl, .inr (sameT hide_sub s2.toT), f, fs, fin _ h⟩
    · exact h.elim
  · split at h
    · rename_i c e
      simp only [Rep] at r1 r2
      have := sign_of e
      subst this r1 r2
      exact .inr ⟨c, _, rfl, rfl, fin _ h⟩
    · exact h.elim
  · exact h.elim
section
variable {ι : Type} {Xs : ι → Cx} {P : Program} {w : World} {K : PySem.W.Frag} {mg : Str → Option Value} {base : Heap} {U : Vol} {E : XS} {lv : Nat}
theorem c_in (F : Fam Xs P w K mg base E lv) : CmpOk Xs K .In inD := ⟨rInA K false, fun j pins s σ H x y v u Q I rx ry h => by
    rcases h with h | h
    · rw [← F.k j] at h
      exact op_in_seq pins s σ H x y v u Q I rx ry h
    · exact op_in_sign pins s σ H x y v u Q I rx ry h, by
  intro G H v w a b k Q g r1 r2 h q
  refine opS_in false G H v w a b k Q g r1 r2 ?_ q
  unfold inD at h ⊢
  split at h <;> (try split at h) <;> first | exact False.elim h | simp_all⟩
theorem c_notIn (F : Fam Xs P w K mg base E lv) : CmpOk Xs K .NotIn notInD := ⟨rInA K true, fun j pins s σ H x y v u Q I rx ry h => by
    rcases h with h | h
    · rw [← F.k j] at h
      exact op_notIn_seq pins s σ H x y v u Q I rx ry h
    · exact op_notIn_sign pins s σ H x y v u Q I rx ry h, opS_in true⟩
end

/-! ### is None, is True, is False -/
def isN : D → Bool
  | .non => true
  | _ => false
def isD : D → D → (D → Prop) → Prop
  | a, .non, k => k (.bl (isN a))
  | .bl i, .bl j, k => k (.bl (decide (i = j)))
  | .int _, .bl _, k => k (.bl false)
  | .str _, .bl _, k => k (.bl false)
  | .non, .bl _, k => k (.bl false)
  | _, _, _ => False
def isNotD : D → D → (D → Prop) → Prop := fun a b k => isD a b fun d => match d with
  | .bl c => k (.bl (!c))
  | _ => False
def rIsA (neg : Bool) : R2 := fun x y H Q => (y = .non ∧ Q (.bl (if neg then !decide (x = .non) else decide (x = .non))) H) ∨
  (∃ b, y = .bl b ∧ flatV x = true ∧ Q (.bl (if neg then !decide (x = .bl b) else decide (x = .bl b))) H)
theorem opr_is {X : Cx} : OpR X (compareOp .Is) (rIsA false) := by
  intro pins s σ H x y v u Q I rx ry h
  rcases h with h | ⟨b, rfl, f, q⟩
  · exact op_isN pins s σ H x y v u Q I rx ry h
  · cases ry
    cases x with
    | non => cases rx; exact wpAny_is_other rfl (fun z => nomatch z) ⟨.bl _, H, I, rfl, q⟩
    | bl i =>
      cases rx
      refine wpAny_is_plain rfl ⟨.bl _, H, I, rfl, ?_⟩
      by_cases e : i = b
      · subst e; simpa using q
      · simp only [V.bl.injEq, e] at q
        rw [show (Value.bool i == Value.bool b) = false from beq_eq_false_iff_ne.mpr fun z => e (Value.bool.inj z)]
        exact q
    | int i => obtain ⟨t, rfl⟩ := rx; exact wpAny_is_other rfl (fun z => nomatch z) ⟨.bl _, H, I, rfl, q⟩
    | str i => obtain ⟨t, rfl⟩ := rx; exact wpAny_is_other rfl (fun z => nomatch z) ⟨.bl _, H, I, rfl, q⟩
    | _ => simp [flatV] at f
theorem opr_isNot {X : Cx} : OpR X (compareOp .IsNot) (rIsA true) := by
  intro pins s σ H x y v u Q I rx ry h
  rcases h with h | ⟨b, rfl, f, q⟩
  · exact op_notN pins s σ H x y v u Q I rx ry h
  · cases ry
    cases x with
    | non => cases rx; exact wpAny_isNot_other rfl (fun z => nomatch z) ⟨.bl _, H, I, rfl, q⟩
    | bl i =>
      cases rx
      refine wpAny_isNot_plain rfl ⟨.bl _, H, I, rfl, ?_⟩
      by_cases e : i = b
      · subst e; simpa using q
      · simp only [V.bl.injEq, e] at q
        rw [show (Value.bool i == Value.bool b) = false from beq_eq_false_iff_ne.mpr fun z => e (Value.bool.inj z)]
        exact q
    | int i => obtain ⟨t, rfl⟩ := rx; exact wpAny_isNot_other rfl (fun z => nomatch z) ⟨.bl _, H, I, rfl, q⟩
    | str i => obtain ⟨t, rfl⟩ := rx; exact wpAny_isNot_other rfl (fun z => nomatch z) ⟨.bl _, H, I, rfl, q⟩
    | _ => simp [flatV] at f
theorem rep_non {K : PySem.W.Frag} {H : Hp} {v : V} {d : D} (r : Rep K H v d) : decide (v = .non) = isN d := by
  cases d <;> simp only [Rep] at r
  all_goals first
    | (subst r; rfl)
    | (obtain ⟨_, _, rfl, _⟩ := r; rfl)
    | (obtain ⟨_, _, _, rfl, _⟩ := r; rfl)
    | (obtain ⟨_, rfl, _⟩ := r; rfl)
theorem opS_is {K : PySem.W.Frag} (neg : Bool) : OpS K (rIsA neg) (fun a b k => isD a b fun d => match d with
  | .bl c => k (.bl (if neg then !c else c))
  | _ => False) := by
  intro G H v w a b k Q g r1 r2 h q
  have fin : ∀ c : Bool, k (.bl c) → Q (.bl c) H := fun c hc => q _ _ H (Same.refl H) (by simp only [Rep]) hc
  unfold isD at h
  split at h
  · simp only [Rep] at r2
    refine .inl ⟨r2, fin _ ?_⟩
    rw [rep_non r1]; exact h
  all_goals first
    | exact h.elim
    | (simp only [Rep] at r1 r2; subst r1 r2
       refine .inr ⟨_, rfl, rfl, fin _ ?_⟩
       first
         | exact h
         | (simpa using h))
section
variable {ι : Type} {Xs : ι → Cx} {K : PySem.W.Frag}
theorem c_is : CmpOk Xs K .Is isD := ⟨rIsA false, fun j => opr_is, by
  intro G H v w a b k Q g r1 r2 h q
  refine opS_is false G H v w a b k Q g r1 r2 ?_ q
  unfold isD at h ⊢
  split at h <;> first | exact h | exact False.elim h⟩
theorem c_isNot : CmpOk Xs K .IsNot isNotD := ⟨rIsA true, fun j => opr_isNot, opS_is true⟩
end
end DL

set_option maxRecDepth 100000
set_option maxHeartbeats 1000000
/-! DL5: truth; and, or, not; conditional expressions; displays, items, slices. -/
namespace DL
open PySem PySem.Spec PyProof.Rows L2

/-! ### truth -/
def truD : D → (Bool → Prop) → Prop
  | .non, k => k false
  | .bl b, k => k b
  | .int i, k => k (i != 0)
  | .str x, k => x.length ≤ sizeLine ∧ k ((x.length : Int) != 0)
  | .tup ds, k => k (!ds.isEmpty)
  | .lst ds, k => k (!ds.isEmpty)
  | _, _ => False
theorem repL_empty {K : PySem.W.Frag} {H : Hp} {ds : List D} {vs : List V} (r : RepL K H vs ds) : vs.isEmpty = ds.isEmpty := by
  cases ds with
  | nil => simp only [RepL] at r; subst r; rfl
  | cons _ _ => simp only [RepL] at r; obtain ⟨_, _, rfl, _⟩ := r; rfl
theorem tru_of {K : PySem.W.Frag} {G : Addr → Prop} {H : Hp} {v : V} {d : D} {k : Bool → Prop} (r : Rep K (hide G H) v d) (h : truD d k) : ∃ b, TruV K v H b ∧ k b := by
  unfold truD at h
  split at h
  · simp only [Rep] at r; subst r; exact ⟨_, rfl, h⟩
  · simp only [Rep] at r; subst r; exact ⟨_, rfl, h⟩
  · simp only [Rep] at r; subst r; exact ⟨_, rfl, h⟩
  · simp only [Rep] at r; subst r; exact ⟨_, ⟨h.1, rfl⟩, h.2⟩
  · simp only [Rep] at r
    obtain ⟨p, vs, rfl, s1, l1⟩ := r
    exact ⟨_, .inr (.inl ⟨vs, sameT hide_sub s1.toT, by rw [repL_empty l1]⟩), h⟩
  · simp only [Rep] at r
    obtain ⟨p, vs, rfl, s1, l1⟩ := r
    exact ⟨_, .inl ⟨vs, SqL.of (hide_sub _ _ s1), by rw [repL_empty l1]⟩, h⟩
  · exact h.elim
def eTru (m : ME) : MT := fun ρ k x => m ρ (fun d ρ1 => truD d fun b => k b ρ1) x
def eOrV (ma mb : ME) : ME := fun ρ k x => ma ρ (fun d ρ1 => truD d fun b => if b = true then k d ρ1 else mb ρ1 k x) x
def eAndV (ma mb : ME) : ME := fun ρ k x => ma ρ (fun d ρ1 => truD d fun b => if b = true then mb ρ1 k x else k d ρ1) x
def eNotV (ma : ME) : ME := fun ρ k x => ma ρ (fun d ρ1 => truD d fun b => k (.bl (!b)) ρ1) x
def tAndM (ma mb : MT) : MT := fun ρ k x => ma ρ (fun b ρ1 => if b = true then mb ρ1 k x else k false ρ1) x
def tOrM (ma mb : MT) : MT := fun ρ k x => ma ρ (fun b ρ1 => if b = true then k true ρ1 else mb ρ1 k x) x
def tNotM (ma : MT) : MT := fun ρ k x => ma ρ (fun b ρ1 => k (!b) ρ1) x
def eIf (mt : MT) (ma mb : ME) : ME := fun ρ k x => mt ρ (fun b ρ1 => if b = true then ma ρ1 k x else mb ρ1 k x) x
section
variable {K : PySem.W.Frag} {U : Vol} {E : XS} {ta tb : TE} {t t' : TT} {ma mb : ME} {mt mt' : MT}
theorem snd_tru (ha : SndE K U E ta ma) : SndT K U E (fun σ H Q => ta σ H fun x H' => ∃ k, TruV K x H' k ∧ Q k H') (eTru ma) := by
  intro Z σ ρ H k x Q I h q X
  refine ha Z σ ρ H _ x _ I h (fun d ρ1 v H1 t1 I1 r1 h1 => ?_) X
  obtain ⟨b, e, h2⟩ := tru_of r1 h1
  exact ⟨b, e, q b ρ1 H1 t1 I1 h2⟩
theorem snd_orV (ha : SndE K U E ta ma) (hb : SndE K U E tb mb) : SndE K U E (tOrT K ta tb) (eOrV ma mb) := by
  intro Z σ ρ H k x Q I h q X
  refine ha Z σ ρ H _ x _ I h (fun d ρ1 v H1 t1 I1 r1 h1 => ?_) X
  obtain ⟨b, e, h2⟩ := tru_of r1 h1
  refine ⟨b, e, ?_⟩
  cases b with
  | true => exact q d ρ1 v H1 t1 I1 r1 h2
  | false => exact hb Z σ ρ1 H1 k x Q I1 h2 (fun d' ρ' v' H' t' => q d' ρ' v' H' (t1.trans t')) (X.go t1)
theorem snd_andV (ha : SndE K U E ta ma) (hb : SndE K U E tb mb) : SndE K U E (tAndT K ta tb) (eAndV ma mb) := by
  intro Z σ ρ H k x Q I h q X
  refine ha Z σ ρ H _ x _ I h (fun d ρ1 v H1 t1 I1 r1 h1 => ?_) X
  obtain ⟨b, e, h2⟩ := tru_of r1 h1
  refine ⟨b, e, ?_⟩
  cases b with
  | false => exact q d ρ1 v H1 t1 I1 r1 h2
  | true => exact hb Z σ ρ1 H1 k x Q I1 h2 (fun d' ρ' v' H' t' => q d' ρ' v' H' (t1.trans t')) (X.go t1)
theorem snd_notV (ha : SndE K U E ta ma) : SndE K U E (tNotT K ta) (eNotV ma) := by
  intro Z σ ρ H k x Q I h q X
  refine ha Z σ ρ H _ x _ I h (fun d ρ1 v H1 t1 I1 r1 h1 => ?_) X
  obtain ⟨b, e, h2⟩ := tru_of r1 h1
  exact ⟨b, e, q _ ρ1 _ H1 t1 I1 (by simp only [Rep]) h2⟩
theorem snd_tand (ha : SndT K U E t mt) (hb : SndT K U E t' mt') : SndT K U E (tAnd t t') (tAndM mt mt') := by
  intro Z σ ρ H k x Q I h q X
  refine ha Z σ ρ H _ x _ I h (fun b ρ1 H1 t1 I1 h1 => ?_) X
  cases b with
  | true => exact hb Z σ ρ1 H1 k x Q I1 h1 (fun b' ρ' H' t' => q b' ρ' H' (t1.trans t')) (X.go t1)
  | false => exact q _ ρ1 H1 t1 I1 h1
theorem snd_tor (ha : SndT K U E t mt) (hb : SndT K U E t' mt') : SndT K U E (tOr t t') (tOrM mt mt') := by
  intro Z σ ρ H k x Q I h q X
  refine ha Z σ ρ H _ x _ I h (fun b ρ1 H1 t1 I1 h1 => ?_) X
  cases b with
  | false => exact hb Z σ ρ1 H1 k x Q I1 h1 (fun b' ρ' H' t' => q b' ρ' H' (t1.trans t')) (X.go t1)
  | true => exact q _ ρ1 H1 t1 I1 h1
theorem snd_tnot (ha : SndT K U E t mt) : SndT K U E (tNot t) (tNotM mt) := by
  intro Z σ ρ H k x Q I h q X
  exact ha Z σ ρ H _ x _ I h (fun b ρ1 H1 t1 I1 h1 => q _ ρ1 H1 t1 I1 h1) X
theorem snd_if (hc : SndT K U E t mt) (ha : SndE K U E ta ma) (hb : SndE K U E tb mb) : SndE K U E (tIf t ta tb) (eIf mt ma mb) := by
  intro Z σ ρ H k x Q I h q X
  refine hc Z σ ρ H _ x _ I h (fun b ρ1 H1 t1 I1 h1 => ?_) X
  cases b with
  | true => exact ha Z σ ρ1 H1 k x Q I1 h1 (fun d' ρ' v' H' t' => q d' ρ' v' H' (t1.trans t')) (X.go t1)
  | false => exact hb Z σ ρ1 H1 k x Q I1 h1 (fun d' ρ' v' H' t' => q d' ρ' v' H' (t1.trans t')) (X.go t1)
end
section
variable {ι : Type} {Xs : ι → Cx} {P : Program} {w : World} {K : PySem.W.Frag} {mg : Str → Option Value} {base : Heap} {U : Vol} {E : XS} {lv : Nat} {pos : Pos} {a b c : Expr} {rest : List Expr} {ma mb : ME} {mt mt' : MT}
/-- an expression of any kind as a test -/
theorem dt_tru (F : Fam Xs P w K mg base E lv) (ha : DE Xs K U E a ma) (he : ∀ j whole, isTrue a (Xs j).env whole = (do let v ← whole; standAt a.pos; holding [v] (truthy v)) := by intro _ _; rfl) : DT Xs K U E a (eTru ma) := by
  obtain ⟨ta, ha, sa⟩ := ha
  refine ⟨_, fun j => ?_, snd_tru sa⟩
  have := pt_truth (ha j) (he j)
  rw [F.k j] at this
  exact this
theorem dw_and1 (h : DT Xs K U E a mt) : DW Xs K U E (.BoolOp .And [a] pos) mt := let ⟨_, h, s⟩ := h; ⟨_, fun j => pw_and1 (h j), s⟩
theorem dw_or1 (h : DT Xs K U E a mt) : DW Xs K U E (.BoolOp .Or [a] pos) mt := let ⟨_, h, s⟩ := h; ⟨_, fun j => pw_or1 (h j), s⟩
theorem dw_and (h : DT Xs K U E a mt) (h' : DW Xs K U E (.BoolOp .And (b :: rest) pos) mt') : DW Xs K U E (.BoolOp .And (a :: b :: rest) pos) (tAndM mt mt') :=
  let ⟨_, h, s⟩ := h; let ⟨_, h', s'⟩ := h'; ⟨_, fun j => pw_and (h j) (h' j), snd_tand s s'⟩
theorem dw_or (h : DT Xs K U E a mt) (h' : DW Xs K U E (.BoolOp .Or (b :: rest) pos) mt') : DW Xs K U E (.BoolOp .Or (a :: b :: rest) pos) (tOrM mt mt') :=
  let ⟨_, h, s⟩ := h; let ⟨_, h', s'⟩ := h'; ⟨_, fun j => pw_or (h j) (h' j), snd_tor s s'⟩
theorem DW.dt (h : DW Xs K U E a mt) : DT Xs K U E a mt := let ⟨_, h, s⟩ := h; ⟨_, fun j => (h j).pt, s⟩
theorem dt_not (h : DT Xs K U E a mt) : DT Xs K U E (.UnaryOp .Not a pos) (tNotM mt) := let ⟨_, h, s⟩ := h; ⟨_, fun j => pt_not (h j), snd_tnot s⟩
/-- and, or, not as values -/
theorem de_one {op} (h : DE Xs K U E a ma) : DE Xs K U E (.BoolOp op [a] pos) ma := let ⟨_, h, s⟩ := h; ⟨_, fun j => pe_one (h j), s⟩
theorem de_and (F : Fam Xs P w K mg base E lv) (h : DE Xs K U E a ma) (h' : DE Xs K U E (.BoolOp .And (b :: rest) pos) mb) : DE Xs K U E (.BoolOp .And (a :: b :: rest) pos) (eAndV ma mb) := by
  obtain ⟨ta, ha, sa⟩ := h
  obtain ⟨tb, hb, sb⟩ := h'
  refine ⟨_, fun j => ?_, snd_andV sa sb⟩
  have := pe_andT (ha j) (hb j)
  rw [F.k j] at this
  exact this
theorem de_or (F : Fam Xs P w K mg base E lv) (h : DE Xs K U E a ma) (h' : DE Xs K U E (.BoolOp .Or (b :: rest) pos) mb) : DE Xs K U E (.BoolOp .Or (a :: b :: rest) pos) (eOrV ma mb) := by
  obtain ⟨ta, ha, sa⟩ := h
  obtain ⟨tb, hb, sb⟩ := h'
  refine ⟨_, fun j => ?_, snd_orV sa sb⟩
  have := pe_orT (ha j) (hb j)
  rw [F.k j] at this
  exact this
theorem de_not (F : Fam Xs P w K mg base E lv) (h : DE Xs K U E a ma) : DE Xs K U E (.UnaryOp .Not a pos) (eNotV ma) := by
  obtain ⟨ta, ha, sa⟩ := h
  refine ⟨_, fun j => ?_, snd_notV sa⟩
  have := pe_notT (pos := pos) (ha j)
  rw [F.k j] at this
  exact this
theorem de_if (hc : DT Xs K U E c mt) (ha : DE Xs K U E a ma) (hb : DE Xs K U E b mb) : DE Xs K U E (.IfExp c a b pos) (eIf mt ma mb) :=
  let ⟨_, h, s⟩ := hc; let ⟨_, h1, s1⟩ := ha; let ⟨_, h2, s2⟩ := hb; ⟨_, fun j => pe_ifExp (h j) (h1 j) (h2 j), snd_if s s1 s2⟩
end

/-! ### arguments, displays -/
def aNil : MA := fun ρ k _ => k [] ρ
def aCons (m : ME) (r : MA) : MA := fun ρ k x => m ρ (fun d ρ1 => r ρ1 (fun ds ρ2 => k (d :: ds) ρ2) x) x
def eTup (m : MA) : ME := fun ρ k x => m ρ (fun ds ρ1 => ds.length ≤ sizeLine ∧ k (.tup ds) ρ1) x
def fLst (m : MA) : EnvD → (List D → EnvD → Prop) → KX → Prop := fun ρ k x => m ρ (fun ds ρ1 => ds.length ≤ sizeLine ∧ k ds ρ1) x
def eF (f : EnvD → (List D → EnvD → Prop) → KX → Prop) : ME := fun ρ k x => f ρ (fun ds ρ1 => k (.lst ds) ρ1) x
section
variable {K : PySem.W.Frag} {U : Vol} {E : XS} {Z : Addr → Prop} {σ : L2.St} {ρ : EnvD} {H : Hp} {ta : TE} {tA tr : TA} {ma : ME} {mA mr : MA} {p : Addr}
theorem snd_nil : SndA K U E tNil aNil := fun Z σ ρ H k x Q I h q _ => q [] ρ [] H .refl I .nil h
theorem snd_cons (ha : SndE K U E ta ma) (hr : SndA K U E tr mr) : SndA K U E (tCons ta tr) (aCons ma mr) := by
  intro Z σ ρ H k x Q I h q X
  refine ha Z σ ρ H _ x _ I h (fun d ρ1 v H1 t1 I1 r1 h1 => ?_) X
  exact hr Z σ ρ1 H1 _ x _ I1 h1 (fun ds ρ2 vs H2 t2 I2 r2 h2 => q _ ρ2 _ H2 (t1.trans t2) I2 (.cons (r1.mono t2.vis) r2) h2) (X.go t1)
theorem snd_tup (ha : SndA K U E tA mA) : SndE K U E (tTup tA) (eTup mA) := by
  intro Z σ ρ H k x Q I h q X
  refine ha Z σ ρ H _ x _ I h (fun ds ρ1 vs H1 t1 I1 r1 h1 => ?_) X
  refine ⟨by rw [r1.len]; exact h1.1, fun p hp => ?_⟩
  exact q _ ρ1 _ _ (t1.trans (.of_same (same_new hp))) (I1.same (same_new hp)) (rep_tup (fun a ha => I1.hidden ha) hp r1) h1.2
/-- a new list stands at p: hidden, the rest is as before -/
theorem EnvOk.more (I : EnvOk K U Z σ ρ H) {o : HO} (h : H p = none) (nf : ¬ Fix o := by exact id) : EnvOk K U (fun a => Z a ∨ a = p) σ ρ (upd H p o) ∧ Same (VH U Z σ ρ H) (VH U (fun a => Z a ∨ a = p) σ ρ (upd H p o)) := by
  have I1 := I.same (same_new (o := o) h)
  have np := I.fresh h
  have hv : Same (VH U Z σ ρ H) (VH U (fun a => Z a ∨ a = p) σ ρ (upd H p o)) := fun a u e => by
    obtain ⟨z, e⟩ := hide_some e
    have ne : a ≠ p := ne_of_none e h
    have z' : ¬ Hid U (fun a => Z a ∨ a = p) σ ρ a := by
      rintro (q | q | q)
      · exact z (.inl q)
      · rcases q with q | q
        · exact z (.inr (.inl q))
        · exact ne q
      · exact z (.inr (.inr q))
    exact (hide_no z').trans ((upd_ne ne).trans e)
  refine ⟨⟨I.len, fun i d e => ?_, fun i c e => ?_, I.one, I1.vj, fun a z => ?_, fun a z => ?_, fun a z => ?_⟩, hv⟩
  · obtain ⟨v, e1, r⟩ := I.dat i d e
    exact ⟨v, e1, r.mono hv⟩
  · obtain ⟨q, u, e1, e2, r⟩ := I.own i c e
    exact ⟨q, u, e1, same_new h _ _ e2, r.mono hv⟩
  · rcases z with z | z
    · exact I1.zt a z
    · subst z
      exact ⟨o, upd_same, nf⟩
  · rcases z with z | z
    · exact I.zs a z
    · subst z
      exact fun y => np (.inl y)
  · refine ⟨(I.oz a z).1, fun y => ?_⟩
    rcases y with y | y
    · exact (I.oz a z).2 y
    · subst y
      exact np (.inr (.inr z))
/-- .. no longer hidden -/
theorem EnvOk.less (I : EnvOk K U (fun a => Z a ∨ a = p) σ ρ H) : EnvOk K U Z σ ρ H ∧ Same (VH U (fun a => Z a ∨ a = p) σ ρ H) (VH U Z σ ρ H) := by
  have hv : Same (VH U (fun a => Z a ∨ a = p) σ ρ H) (VH U Z σ ρ H) := hide_less fun a => by
    rintro (q | q | q)
    · exact .inl q
    · exact .inr (.inl (.inl q))
    · exact .inr (.inr q)
  refine ⟨⟨I.len, fun i d e => ?_, fun i c e => ?_, I.one, I.vj, fun a z => I.zt a (.inl z), fun a z => I.zs a (.inl z), fun a z => ⟨(I.oz a z).1, fun y => (I.oz a z).2 (.inl y)⟩⟩, hv⟩
  · obtain ⟨v, e1, r⟩ := I.dat i d e
    exact ⟨v, e1, r.mono hv⟩
  · obtain ⟨q, u, e1, e2, r⟩ := I.own i c e
    exact ⟨q, u, e1, e2, r.mono hv⟩
theorem snd_lst (ha : SndA K U E tA mA) : SndF K U E (tLst tA) (fLst mA) := by
  intro Z σ ρ H k x Q I h q X
  refine ha Z σ ρ H _ x _ I h (fun ds ρ1 vs H1 t1 I1 r1 h1 => ?_) X
  refine ⟨by rw [r1.len]; exact h1.1, fun p hp => ?_⟩
  obtain ⟨I2, hv⟩ := I1.more (o := .lst vs) hp
  refine q ds ρ1 p vs _ (t1.trans (.of_same (same_new hp))) I2 (fun z => I1.fresh hp (.inl z)) (fun z => I1.fresh hp (.inr (.inl z))) upd_same (fun o ho e => ?_) (r1.mono hv) h1.2
  have := (t1 p o (fun z => I1.fresh hp (.inl z)) ho e).1
  rw [hp] at this; cases this
theorem snd_F {t : TE} {f : EnvD → (List D → EnvD → Prop) → KX → Prop} (h : SndF K U E t f) : SndE K U E t (eF f) := by
  intro Z σ ρ H k x Q I h0 q X
  refine h Z σ ρ H _ x _ I h0 (fun ds ρ1 p vs H1 t1 I1 n1 n2 hp _ r1 h1 => ?_) X
  obtain ⟨I2, hv⟩ := I1.less
  refine q _ ρ1 _ H1 t1 I2 ?_ h1
  have np : ¬ Hid U Z σ ρ1 p := by
    rintro (z | z | z)
    · exact n1 z
    · exact n2 z
    · exact (I1.oz p z).2 (.inr rfl)
  simp only [Rep]
  exact ⟨p, vs, rfl, (hide_no np).trans hp, r1.mono hv⟩
end
section
variable {ι : Type} {Xs : ι → Cx} {P : Program} {w : World} {K : PySem.W.Frag} {mg : Str → Option Value} {base : Heap} {U : Vol} {E : XS} {lv : Nat} {pos : Pos} {e : Expr} {es : List Expr} {m : ME} {mr : MA}
theorem da_nil : DA Xs K U E [] aNil := ⟨_, fun _ => pa_nil, snd_nil⟩
theorem da_cons (h : DE Xs K U E e m) (hr : DA Xs K U E es mr) (hs : ∀ j, starEach (e :: es) (Xs j).env = (false, eval e (Xs j).env) :: starEach es (Xs j).env := by intro _; rfl) : DA Xs K U E (e :: es) (aCons m mr) :=
  let ⟨_, h, s⟩ := h; let ⟨_, hr, sr⟩ := hr; ⟨_, fun j => pa_cons (h j) (hr j) (hs j), snd_cons s sr⟩
theorem de_tup {x1} (h : DA Xs K U E es mr) : DE Xs K U E (.Tuple es x1 pos) (eTup mr) := let ⟨_, h, s⟩ := h; ⟨_, fun j => pe_tup (h j), snd_tup s⟩
theorem df_lst (h : DA Xs K U E es mr) : DF Xs K U E (.List es pos) (fLst mr) := let ⟨_, h, s⟩ := h; ⟨_, fun j => pe_lst (h j), snd_lst s⟩
theorem DF.de {f : EnvD → (List D → EnvD → Prop) → KX → Prop} (h : DF Xs K U E e f) : DE Xs K U E e (eF f) := let ⟨_, h, s⟩ := h; ⟨_, h, snd_F s⟩
end
end DL

set_option maxRecDepth 100000
set_option maxHeartbeats 1000000
/-! DL6: items, slices, more operators, calls of built-ins. -/
namespace DL
open PySem PySem.Spec PyProof.Rows L2

section
variable {K : PySem.W.Frag} {U : Vol} {E : XS}
/-! ### items -/
def ixD : D → D → (D → Prop) → Prop
  | .lst ds, .int i, k => match atI ds i with
    | some d => k d
    | none => False
  | .tup ds, .int i, k => match atI ds i with
    | some d => k d
    | none => False
  | .str z, .int i, k => z.length ≤ sizeLine ∧ match atI z.cps.toList i with
    | some c => k (.str ⟨#[c]⟩)
    | none => False
  | _, _, _ => False
theorem atI_rep {H : Hp} {vs : List V} {ds : List D} {i : Int} {d : D} (r : RepL K H vs ds) (e : atI ds i = some d) : ∃ v, atI vs i = some v ∧ Rep K H v d := by
  unfold atI at e ⊢
  rw [r.len]
  cases h : ixN ds.length i with
  | none => rw [h] at e; cases e
  | some j =>
    rw [h] at e
    exact r.get' e
theorem opS_ix : OpS K (rIx K) ixD := by
  intro G H v w a b k Q g r1 r2 h q
  unfold ixD at h
  split at h
  · split at h
    · rename_i e
      simp only [Rep] at r1 r2
      obtain ⟨p, vs, rfl, s1, l1⟩ := r1
      obtain ⟨x, e1, r3⟩ := atI_rep l1 e
      exact .inl ⟨p, vs, _, x, rfl, r2, SqL.of (hide_sub _ _ s1), e1, q _ _ H (Same.refl H) r3 h⟩
    · exact h.elim
  · split at h
    · rename_i e
      simp only [Rep] at r1 r2
      obtain ⟨p, vs, rfl, s1, l1⟩ := r1
      obtain ⟨x, e1, r3⟩ := atI_rep l1 e
      exact .inr (.inl ⟨p, vs, _, x, rfl, r2, sameT hide_sub s1.toT, e1, q _ _ H (Same.refl H) r3 h⟩)
    · exact h.elim
  · obtain ⟨hz, h⟩ := h
    split at h
    · rename_i c e
      simp only [Rep] at r1 r2
      exact .inr (.inr ⟨_, _, c, r1, r2, hz, e, q _ _ H (Same.refl H) (by simp only [Rep]) h⟩)
    · exact h.elim
  · exact h.elim

/-! ### slices -/
abbrev MO := EnvD → (Option Int → EnvD → Prop) → KX → Prop
def SndO (K : PySem.W.Frag) (U : Vol) (E : XS) (t : TO) (m : MO) : Prop := ∀ (Z : Addr → Prop) (σ : L2.St) (ρ : EnvD) (H : Hp) (k : Option Int → EnvD → Prop) (x : KX) (Q : Option Int → Hp → Prop), EnvOk K U Z σ ρ H → m ρ k x →
  (∀ o ρ' H', Tr U.S (Owns σ ρ) H (Owns σ ρ') H' → EnvOk K U Z σ ρ' H' → k o ρ' → Q o H') → XFinE K U E Z σ ρ H x → t σ H Q
def oNo : MO := fun ρ k _ => k none ρ
def oSome (m : ME) : MO := fun ρ k x => m ρ (fun d ρ1 => match d with
  | .int i => k (some i) ρ1
  | _ => False) x
theorem snd_oNo : SndO K U E tNoPart oNo := fun Z σ ρ H k x Q I h q _ => q none ρ H .refl I h
theorem snd_oSome {t : TE} {m : ME} (h : SndE K U E t m) : SndO K U E (tPart t) (oSome m) := by
  intro Z σ ρ H k x Q I h0 q X
  refine h Z σ ρ H _ x _ I h0 (fun d ρ1 v H1 t1 I1 r1 h1 => ?_) X
  split at h1
  · simp only [Rep] at r1
    exact ⟨_, r1, q _ ρ1 H1 t1 I1 h1⟩
  · exact h1.elim
/-- a part of a list -/
def cutL {α : Type} (xs : List α) (lo hi : Option Int) : List α := (xs.drop (HT.sIx xs.length 0 lo)).take (HT.sIx xs.length xs.length hi - HT.sIx xs.length 0 lo)
theorem RepL.cut {H : Hp} {vs : List V} {ds : List D} (r : RepL K H vs ds) (lo hi : Option Int) : RepL K H (cutV vs lo hi) (cutL ds lo hi) := by
  unfold cutV cutL
  rw [r.len]
  exact (r.drop _).take _
def slD : D → Option Int → Option Int → (D → Prop) → Prop
  | .tup ds, lo, hi, k => k (.tup (cutL ds lo hi))
  | .lst ds, lo, hi, k => k (.lst (cutL ds lo hi))
  | .str z, lo, hi, k => z.length ≤ sizeLine ∧ k (.str (cutS z lo hi))
  | _, _, _, _ => False
def eSl (m : ME) (ml mh : MO) : ME := fun ρ k x => m ρ (fun d ρ1 => ml ρ1 (fun lo ρ2 => mh ρ2 (fun hi ρ3 => slD d lo hi fun e => k e ρ3) x) x) x
def rSlAll (K : PySem.W.Frag) : V → Option Int → Option Int → Hp → VK → Prop := fun x lo hi H Q => rSlA K x lo hi H Q ∨ rSlL K x lo hi H Q ∨ rSlS x lo hi H Q
theorem sIx_full {n : Nat} {lo hi : Option Int} (h1 : HT.sIx n 0 lo = 0) (h2 : HT.sIx n n hi = n) {α : Type} (xs : List α) (hn : xs.length = n) : cutL xs lo hi = xs := by
  unfold cutL
  rw [hn, h1, h2, List.drop_zero, Nat.sub_zero, ← hn, List.take_length]
theorem snd_sl {t : TE} {tl th : TO} {m : ME} {ml mh : MO} (he : SndE K U E t m) (hl : SndO K U E tl ml) (hh : SndO K U E th mh) : SndE K U E (tSl (rSlAll K) t tl th) (eSl m ml mh) := by
  intro Z σ ρ H k x Q I h q X
  refine he Z σ ρ H _ x _ I h (fun d ρ1 v H1 t1 I1 r1 h1 => ?_) X
  refine hl Z σ ρ1 H1 _ x _ I1 h1 (fun lo ρ2 H2 t2 I2 h2 => ?_) (X.go t1)
  refine hh Z σ ρ2 H2 _ x _ I2 h2 (fun hi ρ3 H3 t3 I3 h3 => ?_) (X.go (t1.trans t2))
  have r3 := r1.mono (t2.trans t3).vis
  have T := (t1.trans t2).trans t3
  unfold slD at h3
  split at h3
  · simp only [Rep] at r3
    obtain ⟨p, vs, rfl, s1, l1⟩ := r3
    refine .inl ⟨p, vs, rfl, sameT hide_sub s1.toT, fun e => ?_, fun e z hz => ?_⟩
    · refine q _ ρ3 _ H3 T I3 ?_ h3
      simp only [Rep]
      refine ⟨p, vs, rfl, s1, ?_⟩
      rw [l1.len] at e
      rw [sIx_full e.1 e.2 _ rfl]
      exact l1
    · exact q _ ρ3 _ _ (T.trans (.of_same (same_new hz))) (I3.same (same_new hz)) (rep_tup (fun a ha => I3.hidden ha) hz (l1.cut _ _)) h3
  · simp only [Rep] at r3
    obtain ⟨p, vs, rfl, s1, l1⟩ := r3
    refine .inr (.inl ⟨p, vs, rfl, SqL.of (hide_sub _ _ s1), fun z hz => ?_⟩)
    exact q _ ρ3 _ _ (T.trans (.of_same (same_new hz))) (I3.same (same_new hz)) (rep_lst (fun a ha => I3.hidden ha) hz (l1.cut _ _)) h3
  · simp only [Rep] at r3
    exact .inr (.inr ⟨_, r3, h3.1, q _ ρ3 _ H3 T I3 (by simp only [Rep]) h3.2⟩)
  · exact h3.elim

/-! ### lists and texts, repeated -/
def mul2D : D → D → (D → Prop) → Prop
  | .int i, .int j, k => IntMulOk i j ∧ k (.int (i * j))
  | .lst ds, .int j, k => -(2 ^ 63) ≤ j ∧ j < 2 ^ 63 ∧ ds.length * j.toNat ≤ sizeLine ∧ k (.lst (List.replicate j.toNat ds).flatten)
  | .str z, .int j, k => MulOk z j ∧ k (.str (Txt.mul z j))
  | _, _, _ => False
def rMul2 : R2 := fun x y H Q => rI IntMulOk (fun i j => .int (i * j)) x y H Q ∨ rRep x y H Q ∨ (∃ z j, x = .str z ∧ y = .int j ∧ MulOk z j ∧ Q (.str (Txt.mul z j)) H)
theorem repL_rep {H : Hp} {vs : List V} {ds : List D} (r : RepL K H vs ds) : ∀ n : Nat, RepL K H (List.replicate n vs).flatten (List.replicate n ds).flatten
  | 0 => .nil
  | n + 1 => by
    rw [List.replicate_succ, List.replicate_succ, List.flatten_cons, List.flatten_cons]
    exact r.append (repL_rep r n)
theorem opS_mul2 : OpS K rMul2 mul2D := by
  intro G H v w a b k Q g r1 r2 h q
  unfold mul2D at h
  split at h
  · simp only [Rep] at r1 r2
    exact .inl ⟨_, _, r1, r2, h.1, q _ _ H (Same.refl H) (by simp only [Rep]) h.2⟩
  · simp only [Rep] at r1 r2
    obtain ⟨p, vs, rfl, s1, l1⟩ := r1
    obtain ⟨h1, h2, h3, h4⟩ := h
    refine .inr (.inl ⟨p, _, vs, rfl, r2, hide_sub _ _ s1, h1, h2, by rw [l1.len]; exact h3, fun z hz => ?_⟩)
    exact q _ _ _ (same_new hz) (rep_lst g hz (repL_rep l1 _)) h4
  · simp only [Rep] at r1 r2
    exact .inr (.inr ⟨_, _, r1, r2, h.1, q _ _ H (Same.refl H) (by simp only [Rep]) h.2⟩)
  · exact h.elim
def add2D : D → D → (D → Prop) → Prop
  | .lst a, .lst b, k => a.length + b.length ≤ sizeLine ∧ k (.lst (a ++ b))
  | a, b, k => addD a b k
theorem opS_add2 : OpS K (fun x y H Q => rCat x y H Q ∨ rAddA K x y H Q) add2D := by
  intro G H v w a b k Q g r1 r2 h q
  unfold add2D at h
  split at h
  · simp only [Rep] at r1 r2
    obtain ⟨p, vs, rfl, s1, l1⟩ := r1
    obtain ⟨p2, ws, rfl, s2, l2⟩ := r2
    refine .inl ⟨p, p2, vs, ws, rfl, rfl, hide_sub _ _ s1, hide_sub _ _ s2, by rw [l1.len, l2.len]; exact h.1, fun z hz => ?_⟩
    exact q _ _ _ (same_new hz) (rep_lst g hz (l1.append l2)) h.2
  · exact .inr (opS_add G H v w _ _ k Q g r1 r2 h q)

/-! ### calls -/
def tyN : D → Option String
  | .non => some "NoneType"
  | .bl _ => some "bool"
  | .int _ => some "int"
  | .str _ => some "str"
  | .tup _ => some "tuple"
  | .lst _ => some "list"
  | .dct _ _ => some "dict"
  | _ => none
/-- isinstance by names -/
def kit6 (a b : String) : Bool := a == b || (a == "bool" && b == "int")
def tys6 : List String := ["int", "bool", "str", "tuple", "list", "dict"]
theorem kit6_ok : ∀ a ∈ ["NoneType", "bool", "int", "str", "tuple", "list", "dict"], ∀ b ∈ tys6, kitB a b = some (kit6 a b) := by decide +kernel
theorem tyN_mem {d : D} {a : String} (h : tyN d = some a) : a ∈ ["NoneType", "bool", "int", "str", "tuple", "list", "dict"] := by
  cases d <;> simp [tyN] at h <;> subst h <;> simp
theorem tyN_x {H : Hp} {v : V} {d : D} {a : String} (h : tyN d = some a) (r : Rep K H v d) : TyX K H v (.type a) := by
  cases d <;> simp [tyN] at h <;> subst h <;> simp only [Rep] at r
  · subst r; exact .base .non
  · subst r; exact .base (.bl _)
  · subst r; exact .base (.int _)
  · subst r; exact .base (.str _)
  · obtain ⟨p, vs, rfl, s1, _⟩ := r
    exact .base (.tup s1)
  · obtain ⟨p, vs, rfl, s1, _⟩ := r
    exact .base (.lst s1)
  · obtain ⟨p, vs, rfl, s1, _⟩ := r
    exact .base (.dK s1)
def tyNames : List D → Option (List String)
  | [] => some []
  | .ty n :: ds => (tyNames ds).map (n :: ·)
  | _ :: _ => none
def isiD : List D → (D → Prop) → Prop
  | [d, .ty b], k => match tyN d with
    | some a => b ∈ tys6 ∧ k (.bl (kit6 a b))
    | none => False
  | [d, .tup bs], k => match tyN d, tyNames bs with
    | some a, some ns => (∀ b ∈ ns, b ∈ tys6) ∧ k (.bl (ns.any fun b => kit6 a b))
    | _, _ => False
  | _, _ => False
def rIsi2 (K : PySem.W.Frag) : List V → Hp → VK → Prop := fun xs H Q => rIsi K xs H Q ∨ rIsiT K xs H Q ∨ rIsiK K xs H Q
theorem tyNames_rep {H : Hp} : ∀ {bs : List D} {ns : List String} {vs : List V}, tyNames bs = some ns → RepL K H vs bs → vs = ns.map V.ty
  | [], ns, vs, e, r => by
    simp only [tyNames, Option.some.injEq] at e
    simp only [RepL] at r
    subst e r; rfl
  | d :: ds, ns, vs, e, r => by
    simp only [RepL] at r
    obtain ⟨v, r', rfl, r1, r2⟩ := r
    cases d <;> simp [tyNames] at e
    obtain ⟨ms, e1, rfl⟩ := e
    simp only [Rep] at r1
    subst r1
    rw [tyNames_rep e1 r2]; rfl
theorem kitAny6 {a : String} (ha : a ∈ ["NoneType", "bool", "int", "str", "tuple", "list", "dict"]) : ∀ {ns : List String}, (∀ b ∈ ns, b ∈ tys6) → PySem.W.kitAny K (.type a) (ns.map Value.type) = some (ns.any fun b => kit6 a b)
  | [], _ => rfl
  | b :: ns, h => by
    have h1 := kit6_ok a ha b (h b (by simp))
    refine kitAny_cons (b := kit6 a b) (kit_ty h1) (fun e => ?_) (fun e => ?_)
    · rw [List.any_cons, e, Bool.false_or]
      exact kitAny6 ha fun c hc => h c (by simp [hc])
    · rw [List.any_cons, e, Bool.true_or]
theorem caS_isi : CaS K (rIsi2 K) isiD := by
  intro G H vs ds k Q g r h q
  unfold isiD at h
  split at h
  · split at h
    · rename_i d _ b _ a e
      simp only [RepL] at r
      obtain ⟨v, _, rfl, r1, v2, _, rfl, r2, rfl⟩ := r
      simp only [Rep] at r2
      subst r2
      exact .inl ⟨v, .ty b, .type a, .type b, _, rfl, .ty b, tyN_x e (r1.mono hide_sub), kit_ty (kit6_ok a (tyN_mem e) b h.1), q _ _ H (Same.refl H) (by simp only [Rep]) h.2⟩
    · exact h.elim
  · split at h
    · rename_i d bs a ns e e2
      simp only [RepL] at r
      obtain ⟨v, _, rfl, r1, v2, _, rfl, r2, rfl⟩ := r
      simp only [Rep] at r2
      obtain ⟨p, ws, rfl, s1, l1⟩ := r2
      have ew := tyNames_rep e2 l1
      have hk := kitAny6 (K := K) (tyN_mem e) h.1
      refine .inr (.inl ⟨v, p, ws, .type a, ns.map Value.type, _, rfl, hide_sub _ _ s1, ?_, tyN_x e (r1.mono hide_sub), hk, q _ _ H (Same.refl H) (by simp only [Rep]) h.2⟩)
      subst ew
      clear h hk l1 s1 e2
      induction ns with
      | nil => exact .nil
      | cons n ns ih => exact .cons (.ty n) ih
    · exact h.elim
  · exact h.elim

def lenD : List D → (D → Prop) → Prop
  | [.tup ds], k => k (.int (ds.length : Nat))
  | [.lst ds], k => k (.int (ds.length : Nat))
  | [.str x], k => x.length ≤ sizeLine ∧ k (.int (x.length : Nat))
  | [.scr ns], k => k (.int (ns.length : Nat))
  | _, _ => False
theorem caS_len : CaS K (fun xs H Q => ∃ x n, xs = [x] ∧ LenV K x H n ∧ Q (.int (n : Nat)) H) lenD := by
  intro G H vs ds k Q g r h q
  unfold lenD at h
  split at h
  all_goals first
    | exact h.elim
    | (simp only [RepL] at r
       obtain ⟨v, _, rfl, r1, rfl⟩ := r
       simp only [Rep] at r1)
  · obtain ⟨p, vs, rfl, s1, l1⟩ := r1
    exact ⟨.ref p, vs.length, rfl, .inr ⟨vs, sameT hide_sub s1.toT, rfl⟩, q _ _ H (Same.refl H) (by simp only [Rep, l1.len]) h⟩
  · obtain ⟨p, vs, rfl, s1, l1⟩ := r1
    exact ⟨.ref p, vs.length, rfl, .inl ⟨vs, SqL.of (hide_sub _ _ s1), rfl⟩, q _ _ H (Same.refl H) (by simp only [Rep, l1.len]) h⟩
  · subst r1
    exact ⟨.str _, _, rfl, ⟨h.1, rfl⟩, q _ _ H (Same.refl H) (by simp only [Rep]) h.2⟩
  · obtain ⟨p, rfl, s1⟩ := r1
    exact ⟨.ref p, _, rfl, .inl ⟨_, Same.seq hide_sub s1, rfl⟩, q _ _ H (Same.refl H) (by simp only [Rep, List.length_map]) h⟩
def absD : List D → (D → Prop) → Prop
  | [.int i], k => k (.int (if i < 0 then -i else i))
  | _, _ => False
theorem caS_abs : CaS K (fun xs H Q => ∃ i, xs = [.int i] ∧ Q (.int (if i < 0 then -i else i)) H) absD := by
  intro G H vs ds k Q g r h q
  unfold absD at h
  split at h
  · simp only [RepL, Rep] at r
    obtain ⟨v, _, rfl, rfl, rfl⟩ := r
    exact ⟨_, rfl, q _ _ H (Same.refl H) (by simp only [Rep]) h⟩
  · exact h.elim
def max2D : List D → (D → Prop) → Prop
  | [.int i, .int j], k => k (.int (if j > i then j else i))
  | _, _ => False
theorem caS_max2 : CaS K (fun xs H Q => ∃ i j, xs = [.int i, .int j] ∧ Q (.int (if j > i then j else i)) H) max2D := by
  intro G H vs ds k Q g r h q
  unfold max2D at h
  split at h
  · simp only [RepL, Rep] at r
    obtain ⟨v, _, rfl, rfl, v2, _, rfl, rfl, rfl⟩ := r
    exact ⟨_, _, rfl, q _ _ H (Same.refl H) (by simp only [Rep]) h⟩
  · exact h.elim
def min2D : List D → (D → Prop) → Prop
  | [.int i, .int j], k => k (.int (if j < i then j else i))
  | _, _ => False
theorem caS_min2 : CaS K (fun xs H Q => ∃ i j, xs = [.int i, .int j] ∧ Q (.int (if j < i then j else i)) H) min2D := by
  intro G H vs ds k Q g r h q
  unfold min2D at h
  split at h
  · simp only [RepL, Rep] at r
    obtain ⟨v, _, rfl, rfl, v2, _, rfl, rfl, rfl⟩ := r
    exact ⟨_, _, rfl, q _ _ H (Same.refl H) (by simp only [Rep]) h⟩
  · exact h.elim
def ordD : List D → (D → Prop) → Prop
  | [.str x], k => match x.cps.toList with
    | [c] => k (.int (c : Nat))
    | _ => False
  | _, _ => False
theorem caS_ord : CaS K (fun xs H Q => ∃ x, xs = [.str x] ∧ x.length = 1 ∧ Q (.int (x.cps.getD 0 0 : Nat)) H) ordD := by
  intro G H vs ds k Q g r h q
  unfold ordD at h
  split at h
  · split at h
    · rename_i c e
      simp only [RepL, Rep] at r
      obtain ⟨v, _, rfl, rfl, rfl⟩ := r
      have := sign_of e
      subst this
      exact ⟨_, rfl, rfl, q _ _ H (Same.refl H) (by simp only [Rep]; rfl) h⟩
    · exact h.elim
  · exact h.elim
def intD : List D → (D → Prop) → Prop
  | [.int i], k => k (.int i)
  | [.bl b], k => k (.int (if b then 1 else 0))
  | [.str a], k => ∃ n, PySem.intText? a = some n ∧ a.length ≤ 640 ∧ k (.int n)
  | _, _ => False
theorem caS_int : CaS K (fun xs H Q => ((∃ i, xs = [.int i] ∧ Q (.int i) H) ∨ ∃ k, xs = [.bl k] ∧ Q (.int (if k then 1 else 0)) H) ∨ ∃ a n, xs = [.str a] ∧ PySem.intText? a = some n ∧ a.length ≤ 640 ∧ Q (.int n) H) intD := by
  intro G H vs ds k Q g r h q
  unfold intD at h
  split at h
  all_goals first
    | exact h.elim
    | (simp only [RepL, Rep] at r
       obtain ⟨v, _, rfl, rfl, rfl⟩ := r)
  · exact .inl (.inl ⟨_, rfl, q _ _ H (Same.refl H) (by simp only [Rep]) h⟩)
  · exact .inl (.inr ⟨_, rfl, q _ _ H (Same.refl H) (by simp only [Rep]) h⟩)
  · obtain ⟨n, h1, h2, h3⟩ := h
    exact .inr ⟨_, n, rfl, h1, h2, q _ _ H (Same.refl H) (by simp only [Rep]) h3⟩
def strD : List D → (D → Prop) → Prop
  | [.int i], k => i.natAbs.log2 < 1920 ∧ k (.str (toString i))
  | _, _ => False
theorem caS_str : CaS K (fun xs H Q => ∃ i, xs = [.int i] ∧ i.natAbs.log2 < 1920 ∧ Q (.str (toString i)) H) strD := by
  intro G H vs ds k Q g r h q
  unfold strD at h
  split at h
  · simp only [RepL, Rep] at r
    obtain ⟨v, _, rfl, rfl, rfl⟩ := r
    exact ⟨_, rfl, h.1, q _ _ H (Same.refl H) (by simp only [Rep]) h.2⟩
  · exact h.elim
def tupD : List D → (D → Prop) → Prop
  | [.tup ds], k => k (.tup ds)
  | [.lst ds], k => k (.tup ds)
  | _, _ => False
theorem caS_tup : CaS K (fun xs H Q => ∃ p ys, xs = [.ref p] ∧ ((SqL K H p ys ∧ ∀ l, H l = none → Q (.ref l) (upd H l (.tup ys))) ∨ (SqT K H p ys ∧ Q (.ref p) H))) tupD := by
  intro G H vs ds k Q g r h q
  unfold tupD at h
  split at h
  all_goals first
    | exact h.elim
    | (simp only [RepL] at r
       obtain ⟨v, _, rfl, r1, rfl⟩ := r
       have r0 := r1
       simp only [Rep] at r1)
  · obtain ⟨p, vs, rfl, s1, l1⟩ := r1
    exact ⟨p, vs, rfl, .inr ⟨sameT hide_sub s1.toT, q _ _ H (Same.refl H) r0 h⟩⟩
  · obtain ⟨p, vs, rfl, s1, l1⟩ := r1
    exact ⟨p, vs, rfl, .inl ⟨SqL.of (hide_sub _ _ s1), fun z hz => q _ _ _ (same_new hz) (rep_tup g hz l1) h⟩⟩
def lstD : List D → (D → Prop) → Prop
  | [.tup ds], k => k (.lst ds)
  | [.lst ds], k => k (.lst ds)
  | _, _ => False
theorem caS_lst : CaS K (fun xs H Q => ∃ p ys, xs = [.ref p] ∧ (SqL K H p ys ∨ SqT K H p ys) ∧ ∀ l, H l = none → Q (.ref l) (upd H l (.lst ys))) lstD := by
  intro G H vs ds k Q g r h q
  unfold lstD at h
  split at h
  all_goals first
    | exact h.elim
    | (simp only [RepL] at r
       obtain ⟨v, _, rfl, r1, rfl⟩ := r
       simp only [Rep] at r1)
  · obtain ⟨p, vs, rfl, s1, l1⟩ := r1
    exact ⟨p, vs, rfl, .inr (sameT hide_sub s1.toT), fun z hz => q _ _ _ (same_new hz) (rep_lst g hz l1) h⟩
  · obtain ⟨p, vs, rfl, s1, l1⟩ := r1
    exact ⟨p, vs, rfl, .inl (SqL.of (hide_sub _ _ s1)), fun z hz => q _ _ _ (same_new hz) (rep_lst g hz l1) h⟩
def blL : List D → Option (List Bool)
  | [] => some []
  | .bl b :: ds => (blL ds).map (b :: ·)
  | _ :: _ => none
theorem blL_rep {H : Hp} : ∀ {ds : List D} {bs : List Bool} {vs : List V}, blL ds = some bs → RepL K H vs ds → vs = bs.map V.bl
  | [], bs, vs, e, r => by
    simp only [blL, Option.some.injEq] at e
    simp only [RepL] at r
    subst e r; rfl
  | d :: ds, ns, vs, e, r => by
    simp only [RepL] at r
    obtain ⟨v, r', rfl, r1, r2⟩ := r
    cases d <;> simp [blL] at e
    obtain ⟨ms, e1, rfl⟩ := e
    simp only [Rep] at r1
    subst r1
    rw [blL_rep e1 r2]; rfl
def allD : List D → (D → Prop) → Prop
  | [.lst ds], k => match blL ds with
    | some bs => k (.bl (bs.all id))
    | none => False
  | _, _ => False
def anyD : List D → (D → Prop) → Prop
  | [.lst ds], k => match blL ds with
    | some bs => k (.bl (bs.any id))
    | none => False
  | _, _ => False
theorem caS_all : CaS K (rAll K) allD := by
  intro G H vs ds k Q g r h q
  unfold allD at h
  split at h
  · split at h
    · rename_i bs e
      simp only [RepL, Rep] at r
      obtain ⟨v, _, rfl, ⟨p, vs, rfl, s1, l1⟩, rfl⟩ := r
      have := blL_rep e l1
      subst this
      exact ⟨p, bs, rfl, SqL.of (hide_sub _ _ s1), q _ _ H (Same.refl H) (by simp only [Rep]) h⟩
    · exact h.elim
  · exact h.elim
theorem caS_any : CaS K (rAny K) anyD := by
  intro G H vs ds k Q g r h q
  unfold anyD at h
  split at h
  · split at h
    · rename_i bs e
      simp only [RepL, Rep] at r
      obtain ⟨v, _, rfl, ⟨p, vs, rfl, s1, l1⟩, rfl⟩ := r
      have := blL_rep e l1
      subst this
      exact ⟨p, bs, rfl, SqL.of (hide_sub _ _ s1), q _ _ H (Same.refl H) (by simp only [Rep]) h⟩
    · exact h.elim
  · exact h.elim
end
end DL

set_option maxRecDepth 100000
set_option maxHeartbeats 1000000
/-! DL7: items, slices, calls by syntax. -/
namespace DL
open PySem PySem.Spec PyProof.Rows L2

/-- the built-in names that the text leaves alone -/
structure Blt (mg : Str → Option Value) : Prop where
  len : mg "len" = none
  abs : mg "abs" = none
  max : mg "max" = none
  min : mg "min" = none
  ord : mg "ord" = none
  int : mg "int" = none
  str : mg "str" = none
  bool : mg "bool" = none
  tuple : mg "tuple" = none
  list : mg "list" = none
  dict : mg "dict" = none
  isi : mg "isinstance" = none
  all : mg "all" = none
  any : mg "any" = none
  range : mg "range" = none
  zip : mg "zip" = none
  enum : mg "enumerate" = none

/-- a call's promise over data: U the volatile part, n how far it has come, k what follows, x what is raised -/
abbrev DF0 := Vol → Nat → List D → (D → Nat → Prop) → (Xn → Nat → Prop) → Prop
def SpD (K : PySem.W.Frag) (f : DF0) : Sp := fun vs H Q E => ∃ (U : Vol) (n : Nat) (Z : Addr → Prop) (ds : List D) (k : D → Nat → Prop) (x : Xn → Nat → Prop), U.J n H ∧ (∀ a, Z a → ∃ o, H a = some o ∧ ¬ Fix o) ∧ (∀ a, Z a → ¬ U.S a) ∧
  RepL K (hide (fun a => U.S a ∨ Z a) H) vs ds ∧ f U n ds k x ∧
  (∀ d v H' n', Tr U.S (fun _ => False) H (fun _ => False) H' → U.J n' H' → Rep K (hide (fun a => U.S a ∨ Z a) H') v d → k d n' → Q v H') ∧
  (∀ xn cls dd H' n', Tr U.S (fun _ => False) H (fun _ => False) H' → U.J n' H' → XnOk K (hide (fun a => U.S a ∨ Z a) H') H' xn cls dd → x xn n' → E cls dd H')
def eCall (f : Nat → List D → (D → Nat → Prop) → (Xn → Nat → Prop) → Prop) (m : MA) : ME := fun ρ k x => m ρ (fun ds ρ1 => f ρ1.c ds (fun d n => k d (ρ1.at n)) (fun xn n => x xn (ρ1.at n))) x
section
variable {K : PySem.W.Frag} {U : Vol} {E : XS} {Z : Addr → Prop} {σ : L2.St} {ρ : EnvD} {H H' : Hp} {n' : Nat}
/-- behind a call: what was the caller's own stands -/
theorem EnvOk.after (I : EnvOk K U Z σ ρ H) (t : Tr U.S (fun _ => False) H (fun _ => False) H') (j : U.J n' H') : EnvOk K U Z σ (ρ.at n') H' ∧ Tr U.S (Owns σ ρ) H (Owns σ (ρ.at n')) H' := by
  have T : Tr U.S (Owns σ ρ) H (Owns σ (ρ.at n')) H' := fun a o h1 h2 h3 => ⟨(t a o h1 (fun z => z) h3).1, h2⟩
  refine ⟨⟨I.len, fun i d e => ?_, fun i c e => ?_, I.one, j, fun a z => ?_, I.zs, I.oz⟩, T⟩
  · obtain ⟨v, e1, r⟩ := I.dat i d e
    exact ⟨v, e1, r.mono T.vis⟩
  · obtain ⟨q, o, e1, e2, r⟩ := I.own i c e
    exact ⟨q, o, e1, (t q o (I.oz q ⟨i, e1, c, e⟩).1 (fun z => z) e2).1, r.mono T.vis⟩
  · obtain ⟨o, h, f⟩ := I.zt a z
    exact ⟨o, (t a o (I.zs a z) (fun z => z) h).1, f⟩
/-- a promise that is asked for data is kept for values -/
theorem sp_use {f : DF0} {vs : List V} {ds : List D} {k : D → Nat → Prop} {x : Xn → Nat → Prop} {Q : VK} {W : XK} (I : EnvOk K U Z σ ρ H) (r : RepL K (VH U Z σ ρ H) vs ds) (h : f U ρ.c ds k x)
    (q : ∀ d v H' n', EnvOk K U Z σ (ρ.at n') H' → Tr U.S (Owns σ ρ) H (Owns σ (ρ.at n')) H' → Rep K (VH U Z σ (ρ.at n') H') v d → k d n' → Q v H')
    (qx : ∀ xn cls dd H' n', EnvOk K U Z σ (ρ.at n') H' → Tr U.S (Owns σ ρ) H (Owns σ (ρ.at n')) H' → XnOk K (VH U Z σ (ρ.at n') H') H' xn cls dd → x xn n' → W cls dd H') : SpD K f vs H Q W := by
  refine ⟨U, ρ.c, fun a => Z a ∨ Owns σ ρ a, ds, k, x, I.vj, fun a z => ?_, fun a z => ?_, r, h, fun d v H' n' t j r' hk => ?_, fun xn cls dd H' n' t j r' hx => ?_⟩
  · exact I.hiddenF (.inr z)
  · rcases z with z | z
    · exact I.zs a z
    · exact (I.oz a z).1
  · obtain ⟨I', T⟩ := I.after t j
    exact q d v H' n' I' T r' hk
  · obtain ⟨I', T⟩ := I.after t j
    exact qx xn cls dd H' n' I' T r' hx
theorem snd_call {f : DF0} {tA : TA} {mA : MA} (ha : SndA K U E tA mA) : SndE K U E (tCallS (SpD K f) E tA) (eCall (f U) mA) := by
  intro Z σ ρ H k x Q I h q X
  refine ha Z σ ρ H _ x _ I h (fun ds ρ1 vs H1 t1 I1 r1 h1 => ?_) X
  exact sp_use I1 r1 h1 (fun d v H' n' I' T r hk => q d (ρ1.at n') v H' (t1.trans T) I' r hk) fun xn cls dd H' n' I' T r hx => X xn cls dd (ρ1.at n') H' (t1.trans T) I' r hx
/-- .. where nothing is raised -/
def eCall0 (f : Nat → List D → (D → Nat → Prop) → (Xn → Nat → Prop) → Prop) (m : MA) : ME := fun ρ k x => m ρ (fun ds ρ1 => f ρ1.c ds (fun d n => k d (ρ1.at n)) (fun _ _ => False)) x
theorem snd_call0 {f : DF0} {tA : TA} {mA : MA} (ha : SndA K U E tA mA) : SndE K U E (tCall (SpD K f) [] E0 tA) (eCall0 (f U) mA) := by
  intro Z σ ρ H k x Q I h q X
  refine ha Z σ ρ H _ x _ I h (fun ds ρ1 vs H1 t1 I1 r1 h1 => ?_) X
  rw [List.append_nil]
  exact sp_use I1 r1 h1 (fun d v H' n' I' T r hk => q d (ρ1.at n') v H' (t1.trans T) I' r hk) fun xn cls dd H' n' I' T r hx => hx.elim
end

/-! ### by syntax -/
section
variable {ι : Type} {Xs : ι → Cx} {P : Program} {w : World} {K : PySem.W.Frag} {mg : Str → Option Value} {base : Heap} {U : Vol} {E : XS} {lv : Nat} {pos p p2 : Pos} {a b e c : Expr} {es : List Expr} {ma mb : ME} {mA : MA} {mt : MT} {x : Str}
theorem de_ix (F : Fam Xs P w K mg base E lv) (ha : DE Xs K U E a ma) (hb : DE Xs K U E b mb) (hs : PlainIx b := by exact fun _ _ => rfl) : DE Xs K U E (.Subscript a b pos) (eOp ixD ma mb) := by
  obtain ⟨ta, ha, sa⟩ := ha
  obtain ⟨tb, hb, sb⟩ := hb
  refine ⟨_, fun j => ?_, snd_op opS_ix sa sb⟩
  have h := pe_ix (pos := pos) (ix_seq (X := Xs j)) (ha j) (hb j) hs
  rw [F.k j] at h
  exact h
def DO (Xs : ι → Cx) (K : PySem.W.Frag) (U : Vol) (E : XS) (e : Option Expr) (m : MO) : Prop := ∃ t, (∀ i, PO (Xs i) e t) ∧ SndO K U E t m
theorem do_none : DO Xs K U E none oNo := ⟨_, fun _ => po_none, snd_oNo⟩
theorem do_some (h : DE Xs K U E a ma) : DO Xs K U E (some a) (oSome ma) := let ⟨_, h, s⟩ := h; ⟨_, fun j => po_some (h j), snd_oSome s⟩
theorem de_sl (F : Fam Xs P w K mg base E lv) {lo hi : Option Expr} {ml mh : MO} (ha : DE Xs K U E a ma) (hl : DO Xs K U E lo ml) (hh : DO Xs K U E hi mh) : DE Xs K U E (.Subscript a (.Slice lo hi none p2) pos) (eSl ma ml mh) := by
  obtain ⟨ta, ha, sa⟩ := ha
  obtain ⟨tl, hl, sl⟩ := hl
  obtain ⟨th, hh, sh⟩ := hh
  refine ⟨_, fun j => ?_, snd_sl sa sl sh⟩
  have h := pe_slice (p2 := p2) (pos := pos) (SlR.or (sl_tupA (X := Xs j)) (SlR.or (sl_list (X := Xs j)) sl_str)) (ha j) (hl j) (hh j)
  rw [F.k j] at h
  exact h
theorem de_add2 (F : Fam Xs P w K mg base E lv) (ha : DE Xs K U E a ma) (hb : DE Xs K U E b mb) : DE Xs K U E (.BinOp a .Add b pos) (eOp add2D ma mb) :=
  de_bin (r := fun x y H Q => rCat x y H Q ∨ rAddA K x y H Q) (fun j pins s σ H x y v u Q I rx ry h => by
    rcases h with h | h | h | h
    · exact op_cat pins s σ H x y v u Q I rx ry h
    · exact op_add pins s σ H x y v u Q I rx ry h
    · exact op_add_str pins s σ H x y v u Q I rx ry h
    · rw [← F.k j] at h
      exact op_catA pins s σ H x y v u Q I rx ry h) opS_add2 ha hb
theorem op_mulS {X : Cx} : OpR X (binaryOp .Mult) (fun x y H Q => ∃ z j, x = .str z ∧ y = .int j ∧ MulOk z j ∧ Q (.str (Txt.mul z j)) H) := by
  intro pins s σ H x y v u Q I rx ry h
  obtain ⟨z, j, rfl, rfl, h1, q⟩ := h
  obtain ⟨t, rfl⟩ := rx
  obtain ⟨t', rfl⟩ := ry
  exact SB.mul h1 fun t2 k => ⟨.str _, H, I.tok _, ⟨_, rfl⟩, q⟩
theorem de_mul2 (ha : DE Xs K U E a ma) (hb : DE Xs K U E b mb) : DE Xs K U E (.BinOp a .Mult b pos) (eOp mul2D ma mb) :=
  de_bin (r := rMul2) (fun j => OpR.or op_mulI (OpR.or op_rep op_mulS)) opS_mul2 ha hb
theorem snd_revL {t : TE} {m : ME} (h : SndE K U E t m) : SndE K U E (tRevL K t) (fun ρ k x => m ρ (fun d ρ1 => match d with
    | .lst ds => k (.lst ds.reverse) ρ1
    | _ => False) x) := by
  intro Z σ ρ H k x Q I h0 q X
  refine h Z σ ρ H _ x _ I h0 (fun d ρ1 v H1 t1 I1 r1 h1 => ?_) X
  split at h1
  · simp only [Rep] at r1
    obtain ⟨p, vs, rfl, s1, l1⟩ := r1
    exact ⟨p, vs, rfl, SqL.of (hide_sub _ _ s1), fun z hz => q _ ρ1 _ _ (t1.trans (.of_same (same_new hz))) (I1.same (same_new hz)) (rep_lst (fun a ha => I1.hidden ha) hz l1.rev) h1⟩
  · exact h1.elim
def eRev (m : ME) : ME := fun ρ k x => m ρ (fun d ρ1 => match d with
    | .lst ds => k (.lst ds.reverse) ρ1
    | _ => False) x
theorem de_rev (F : Fam Xs P w K mg base E lv) {k0 : Nat} {p1 p2 p3 : Pos} (ha : DE Xs K U E a ma) : DE Xs K U E (.Subscript a (.Slice none none (some (.UnaryOp .USub (.Constant (.int 1) k0 p1) p2)) p3) pos) (eRev ma) := by
  obtain ⟨ta, ha, sa⟩ := ha
  refine ⟨_, fun j => ?_, snd_revL sa⟩
  have h := pe_revL (k := k0) (p1 := p1) (p2 := p2) (p3 := p3) (pos := pos) (ha j)
  rw [F.k j] at h
  exact h
/-- a type's name as a value -/
theorem de_ty (F : Fam Xs P w K mg base E lv) {n : String} (hm : mg x = none) (hv : bootBuiltins x = some (.type n)) (hg : ∀ j, Gl (Xs j) x := by intro _; rfl) (hn : x ≠ "__name__" := by decide) (hd : (x == ("__debug__" : Str)) = false := by decide) : DE Xs K U E (.Name x pos) (eC (.ty n)) :=
  ⟨_, fun j => pe_bltn (v := .ty n) (hg j) (by rw [F.mg j]; exact hm) hv rfl hn hd, snd_c fun H => by simp only [Rep]⟩
theorem de_callB (F : Fam Xs P w K mg base E lv) {id : String} {r : List V → Hp → VK → Prop} {f : List D → (D → Prop) → Prop} (hc : ∀ j, CallR (Xs j) (.builtin id) r) (hs : CaS K r f) (hm : mg x = none) (hv : bootBuiltins x = some (.builtin id)) (ha : DA Xs K U E (e :: es) mA)
    (hg : ∀ j, Gl (Xs j) x := by intro _; rfl) (hn : x ≠ "__name__" := by decide) (hdb : (x == ("__debug__" : Str)) = false := by decide)
    (he : ∀ j, starEach (e :: es) (Xs j).env = (false, eval e (Xs j).env) :: starEach es (Xs j).env := by intro _; rfl) (hpl : ∀ j, (backTo pos (starEach es (Xs j).env)).any (·.1) = false := by intro _; rfl) : DE Xs K U E (.Call (.Name x p) (e :: es) [] pos) (eCa f mA) := by
  obtain ⟨tA, ha, sa⟩ := ha
  exact ⟨_, fun j => pe_callB (hc j) (hg j) (by rw [F.mg j]; exact hm) hv (ha j) hn hdb (he j) (hpl j), snd_ca hs sa⟩
theorem de_callT (F : Fam Xs P w K mg base E lv) {T : String} {r : List V → Hp → VK → Prop} {f : List D → (D → Prop) → Prop} (hc : ∀ j, CallR (Xs j) (.type T) r) (hs : CaS K r f) (hm : mg x = none) (hv : bootBuiltins x = some (.type T)) (ha : DA Xs K U E (e :: es) mA)
    (hg : ∀ j, Gl (Xs j) x := by intro _; rfl) (hn : x ≠ "__name__" := by decide) (hdb : (x == ("__debug__" : Str)) = false := by decide)
    (he : ∀ j, starEach (e :: es) (Xs j).env = (false, eval e (Xs j).env) :: starEach es (Xs j).env := by intro _; rfl) (hpl : ∀ j, (backTo pos (starEach es (Xs j).env)).any (·.1) = false := by intro _; rfl) : DE Xs K U E (.Call (.Name x p) (e :: es) [] pos) (eCa f mA) := by
  obtain ⟨tA, ha, sa⟩ := ha
  exact ⟨_, fun j => pe_callTy (hc j) (hg j) (by rw [F.mg j]; exact hm) hv (ha j) hn hdb (he j) (hpl j), snd_ca hs sa⟩
theorem b_isi (F : Fam Xs P w K mg base E lv) (j : ι) : CallR (Xs j) (.builtin "isinstance") (rIsi2 K) := by
  have h := CallR.or (call_isi (X := Xs j)) (CallR.or call_isiT call_isiK)
  rw [F.k j] at h
  exact h
theorem b_len (F : Fam Xs P w K mg base E lv) (j : ι) : CallR (Xs j) (.builtin "len") (fun xs H Q => ∃ x n, xs = [x] ∧ LenV K x H n ∧ Q (.int (n : Nat)) H) := by
  have h := call_len (X := Xs j)
  rw [F.k j] at h
  exact h
theorem b_tup (F : Fam Xs P w K mg base E lv) (j : ι) : CallR (Xs j) (.type "tuple") (fun xs H Q => ∃ p ys, xs = [.ref p] ∧ ((SqL K H p ys ∧ ∀ l, H l = none → Q (.ref l) (upd H l (.tup ys))) ∨ (SqT K H p ys ∧ Q (.ref p) H))) := by
  have h := call_tuple_of (X := Xs j)
  rw [F.k j] at h
  exact h
theorem b_lst (F : Fam Xs P w K mg base E lv) (j : ι) : CallR (Xs j) (.type "list") (fun xs H Q => ∃ p ys, xs = [.ref p] ∧ (SqL K H p ys ∨ SqT K H p ys) ∧ ∀ l, H l = none → Q (.ref l) (upd H l (.lst ys))) := by
  have h := call_list_of (X := Xs j)
  rw [F.k j] at h
  exact h
theorem b_all (F : Fam Xs P w K mg base E lv) (j : ι) : CallR (Xs j) (.builtin "all") (rAll K) := by
  have h := cr_all (X := Xs j) (F.calm j)
  rw [F.k j] at h
  exact h
theorem b_any (F : Fam Xs P w K mg base E lv) (j : ι) : CallR (Xs j) (.builtin "any") (rAny K) := by
  have h := cr_any (X := Xs j) (F.calm j)
  rw [F.k j] at h
  exact h
theorem b_int (j : ι) : CallR (Xs j) (.type "int") (fun xs H Q => ((∃ i, xs = [.int i] ∧ Q (.int i) H) ∨ ∃ k, xs = [.bl k] ∧ Q (.int (if k then 1 else 0)) H) ∨ ∃ a n, xs = [.str a] ∧ PySem.intText? a = some n ∧ a.length ≤ 640 ∧ Q (.int n) H) := CallR.or call_int1 call_int_str
theorem boot_max : bootBuiltins "max" = some (.builtin "max") := by decide +kernel
theorem boot_min : bootBuiltins "min" = some (.builtin "min") := by decide +kernel
theorem boot_all : bootBuiltins "all" = some (.builtin "all") := by decide +kernel
theorem boot_any : bootBuiltins "any" = some (.builtin "any") := by decide +kernel
/-- a def of the text is called -/
structure FnAt (P : Program) (w : World) (K : PySem.W.Frag) (mg : Str → Option Value) (base : Heap) (lv : Nat) (x : Str) (ps : List Str) (f : DF0) : Prop where
  at_ : ∃ (a : Addr) (fd : FuncData) (j : Nat), FnOk P w K mg base (L2.CX P w) j a fd ps (SpD K f) ∧ j ≤ lv ∧ mg x = some (.ref a) ∧ PySem.W.keepIn K (.ref a) = true ∧ Binds K fd ps []
theorem FnAt.mono {ps : List Str} {f : DF0} {l : Nat} (h : FnAt P w K mg base lv x ps f) (hl : lv ≤ l) : FnAt P w K mg base l x ps f := by
  obtain ⟨a, fd, j, h1, h2, h3⟩ := h.at_
  exact ⟨a, fd, j, h1, Nat.le_trans h2 hl, h3⟩
theorem de_call (F : Fam Xs P w K mg base E lv) {l : Nat} {ps : List Str} {f : DF0} (C : FnAt P w K mg base l x ps f) (ha : DA Xs K U E (e :: es) mA) (hl : l ≤ lv := by decide) (hg : ∀ j, Gl (Xs j) x := by intro _; rfl) (hdb : (x == ("__debug__" : Str)) = false := by decide)
    (he : ∀ j, starEach (e :: es) (Xs j).env = (false, eval e (Xs j).env) :: starEach es (Xs j).env := by intro _; rfl) (hpl : ∀ j, (backTo pos (starEach es (Xs j).env)).any (·.1) = false := by intro _; rfl) : DE Xs K U E (.Call (.Name x p) (e :: es) [] pos) (eCall (f U) mA) := by
  obtain ⟨tA, ha, sa⟩ := ha
  obtain ⟨a, fd, i, h1, h2, h3, h4, h5⟩ := C.at_
  refine ⟨_, fun j => ?_, snd_call sa⟩
  have h1' : FnOk (Xs j).prog (Xs j).w (Xs j).K (Xs j).mg (Xs j).base (L2.CX (Xs j).prog (Xs j).w) i a fd ps (SpD K f) := by rw [F.p j, F.w j, F.k j, F.mg j, F.base j]; exact h1
  exact pe_callS h1' ((F.room j).mono (Nat.le_trans h2 hl)) (hg j) (by rw [F.mg j]; exact h3) (by rw [F.k j]; exact h4) (by rw [F.k j]; exact h5) (F.pass j) (ha j) hdb (he j) (hpl j)
theorem de_call0 (F : Fam Xs P w K mg base E lv) {l : Nat} {f : DF0} (C : FnAt P w K mg base l x [] f) (hl : l ≤ lv := by decide) (hg : ∀ j, Gl (Xs j) x := by intro _; rfl) (hdb : (x == ("__debug__" : Str)) = false := by decide) : DE Xs K U E (.Call (.Name x p) [] [] pos) (eCall0 (f U) aNil) := by
  obtain ⟨a, fd, i, h1, h2, h3, h4, h5⟩ := C.at_
  refine ⟨_, fun j => ?_, snd_call0 snd_nil⟩
  have h1' : FnOk (Xs j).prog (Xs j).w (Xs j).K (Xs j).mg (Xs j).base (L2.CX (Xs j).prog (Xs j).w) i a fd [] (SpD K f) := by rw [F.p j, F.w j, F.k j, F.mg j, F.base j]; exact h1
  exact pe_call0 h1' ((F.room j).mono (Nat.le_trans h2 hl)) (hg j) (by rw [F.mg j]; exact h3) (by rw [F.k j]; exact h4) (by rw [F.k j]; exact h5) .nil passL hdb
end
end DL

set_option maxRecDepth 100000
set_option maxHeartbeats 1000000
/-! DL8: what a for walks; for, while, statements. -/
namespace DL
open PySem PySem.Spec PyProof.Rows L2 RZ

/-- over the visible heap B the iterator J yields the data ds -/
def WalkD (K : PySem.W.Frag) (U : Vol) (B : Hp) (J : It) (ds : List D) : Prop := ∃ (G : Hp → Prop) (Y : Nat → Hp → V → Hp → Prop), Walk J ds.length G Y ∧ (∀ H, Same B H → (∃ n, U.J n H) → G H) ∧
  ∀ (i : Nat) (H : Hp) (v : V) (H' : Hp), i < ds.length → Same B H → (∃ n, U.J n H) → Y i H v H' → Same H H' ∧ ∃ d, ds[i]? = some d ∧ ∀ Zd : Addr → Prop, (∀ a, Zd a → ∃ o, H a = some o) → Same B (hide Zd H) → Rep K (hide Zd H') v d
abbrev MI := EnvD → (List D → EnvD → Prop) → KX → Prop
def SndI (K : PySem.W.Frag) (U : Vol) (E : XS) (wi : TI) (m : MI) : Prop := ∀ (Z : Addr → Prop) (σ : L2.St) (ρ : EnvD) (H : Hp) (k : List D → EnvD → Prop) (x : KX) (R : It → Hp → Prop), EnvOk K U Z σ ρ H → m ρ k x →
  (∀ ds ρ' J H', Tr U.S (Owns σ ρ) H (Owns σ ρ') H' → EnvOk K U Z σ ρ' H' → WalkD K U (VH U Z σ ρ' H') J ds → k ds ρ' → R J H') → XFinE K U E Z σ ρ H x → wi σ H R
def DI {ι : Type} (Xs : ι → Cx) (K : PySem.W.Frag) (U : Vol) (E : XS) (tg e : Expr) (m : MI) : Prop := ∃ wi, (∀ i, PI (Xs i) tg e wi) ∧ SndI K U E wi m
section
variable {K : PySem.W.Frag} {U : Vol} {E : XS} {B H : Hp} {ta : TE} {ma : ME} {tA : TA} {mA : MA}
theorem walkD_list {p : Addr} {vs : List V} {ds : List D} (s1 : B p = some (.lst vs)) (l1 : RepL K B vs ds) : WalkD K U B (Itl K p) ds := by
  refine ⟨_, _, by rw [← l1.len]; exact walk_list (xs := vs), fun H e _ => SqL.of (e _ _ s1), fun i H v H' hi e _ y => ?_⟩
  obtain ⟨e1, e2⟩ := y
  subst e1
  obtain ⟨d, e3, r⟩ := l1.get e2
  exact ⟨Same.refl _, d, e3, fun Zd _ hv => r.mono hv⟩
theorem walkD_tup {p : Addr} {vs : List V} {ds : List D} (s1 : SqU K B p vs) (l1 : RepL K B vs ds) : WalkD K U B (Itt K p) ds := by
  refine ⟨_, _, by rw [← l1.len]; exact walk_tup (xs := vs), fun H e _ => (sameU e s1).toT, fun i H v H' hi e _ y => ?_⟩
  obtain ⟨e1, e2⟩ := y
  subst e1
  obtain ⟨d, e3, r⟩ := l1.get e2
  exact ⟨Same.refl _, d, e3, fun Zd _ hv => r.mono hv⟩
theorem walkD_scr {p : Addr} {ns : List Int} (s1 : SqL K B p (ns.map V.int)) : WalkD K U B (Itl K p) (ns.map D.int) := by
  refine ⟨_, _, by rw [List.length_map]; have := walk_list (K := K) (a := p) (xs := ns.map V.int); rw [List.length_map] at this; exact this, fun H e _ => e.seq s1, fun i H v H' hi e _ y => ?_⟩
  obtain ⟨e1, e2⟩ := y
  subst e1
  rw [List.getElem?_map] at e2
  cases h : ns[i]? with
  | none => rw [h] at e2; cases e2
  | some n =>
    rw [h] at e2
    cases e2
    exact ⟨Same.refl _, .int n, by simp [h], fun Zd _ _ => by simp only [Rep]⟩
/-- a text's signs -/
def signs (z : Str) : List D := z.cps.toList.map fun c => .str ⟨#[c]⟩
theorem walkD_str {z : Str} : WalkD K U B (Its z) (signs z) := by
  refine ⟨_, _, by unfold signs; rw [List.length_map, Array.length_toList]; exact walk_str, fun _ _ _ => trivial, fun i H v H' hi e _ y => ?_⟩
  obtain ⟨e1, c, e2, e3⟩ := y
  subst e1 e3
  refine ⟨Same.refl _, .str ⟨#[c]⟩, ?_, fun Zd _ _ => by simp only [Rep]⟩
  unfold signs
  rw [List.getElem?_map, Array.getElem?_toList, e2]; rfl
def rngL (lo : Int) (n : Nat) : List D := (List.range n).map fun i => .int (lo + (i : Nat))
theorem walkD_range {lo : Int} {n : Nat} : WalkD K U B (Itr lo n) (rngL lo n) := by
  refine ⟨_, _, by unfold rngL; rw [List.length_map, List.length_range]; exact walk_range, fun _ _ _ => trivial, fun i H v H' hi e _ y => ?_⟩
  obtain ⟨e1, e2⟩ := y
  subst e1 e2
  have hi' : i < n := by unfold rngL at hi; simpa using hi
  refine ⟨Same.refl _, .int (lo + (i : Nat)), ?_, fun Zd _ _ => by simp only [Rep]⟩
  unfold rngL
  rw [List.getElem?_map, List.getElem?_range hi']; rfl
def pairs (as bs : List D) : List D := List.zipWith (fun a b => .tup [a, b]) as bs
theorem pair_new {T : Addr} {x y : V} {a b : D} (hT : H T = none) (r1 : Rep K B x a) (r2 : Rep K B y b) (Zd : Addr → Prop) (hz : ∀ a, Zd a → ∃ o, H a = some o) (hv : Same B (hide Zd H)) : Rep K (hide Zd (upd H T (.tup [x, y]))) (.ref T) (.tup [a, b]) :=
  rep_tup hz hT (.cons (r1.mono hv) (.one (r2.mono hv)))
theorem pairs_at {as bs : List D} {vs ws : List V} (l1 : RepL K B vs as) (l2 : RepL K B ws bs) {i : Nat} {x y : V} (e1 : vs[i]? = some x) (e2 : ws[i]? = some y) : ∃ a b, Rep K B x a ∧ Rep K B y b ∧ (pairs as bs)[i]? = some (.tup [a, b]) := by
  obtain ⟨a, h1, r1⟩ := l1.get e1
  obtain ⟨b, h2, r2⟩ := l2.get e2
  refine ⟨a, b, r1, r2, ?_⟩
  unfold pairs
  rw [List.getElem?_zipWith, h1, h2]
theorem walkD_zipL {p q : Addr} {vs ws : List V} {as bs : List D} (s1 : B p = some (.lst vs)) (s2 : B q = some (.lst ws)) (l1 : RepL K B vs as) (l2 : RepL K B ws bs) : WalkD K U B (Itz K p q) (pairs as bs) := by
  have hn : (pairs as bs).length = min vs.length ws.length := by unfold pairs; rw [List.length_zipWith, l1.len, l2.len]
  refine ⟨_, _, by rw [hn]; exact walk_zip (K := K) (a := p) (b := q) (xs := vs) (ys := ws) rfl, fun H e _ => And.intro (SqL.of (e _ _ s1)) (SqL.of (e _ _ s2)), fun i H v H' hi e _ y => ?_⟩
  obtain ⟨T, x, y', rfl, hT, rfl, e1, e2⟩ := y
  obtain ⟨a, b, r1, r2, e3⟩ := pairs_at l1 l2 e1 e2
  exact ⟨same_new hT, _, e3, pair_new hT r1 r2⟩
theorem walk_zipT {p q : Addr} {xs ys : List V} {n : Nat} (hn : n = min xs.length ys.length) : Walk (ItzT K p q) n (fun H => SqT K H p xs ∧ SqT K H q ys) (YPair (fun i => xs[i]?) (fun i => ys[i]?)) := by
  subst hn
  refine ⟨fun i H hi h => ?_, fun H h => ⟨xs, ys, h.1, h.2, by omega⟩, fun i H v H' hi h y => ?_⟩
  · have h1 : i < xs.length := by omega
    have h2 : i < ys.length := by omega
    exact ⟨xs, ys, xs[i], ys[i], h.1, h.2, by simp [h1], by simp [h2]⟩
  · obtain ⟨T, x, z, g1, g2, g3, g4, g5⟩ := y
    exact ⟨T, x, z, g1, g2, g3, g4 xs h.1, g5 ys h.2⟩
theorem walkD_zipT {p q : Addr} {vs ws : List V} {as bs : List D} (s1 : SqU K B p vs) (s2 : SqU K B q ws) (l1 : RepL K B vs as) (l2 : RepL K B ws bs) : WalkD K U B (ItzT K p q) (pairs as bs) := by
  have hn : (pairs as bs).length = min vs.length ws.length := by unfold pairs; rw [List.length_zipWith, l1.len, l2.len]
  refine ⟨_, _, by rw [hn]; exact walk_zipT (K := K) (p := p) (q := q) (xs := vs) (ys := ws) rfl, fun H e _ => And.intro (sameU e s1).toT (sameU e s2).toT, fun i H v H' hi e _ y => ?_⟩
  obtain ⟨T, x, y', rfl, hT, rfl, e1, e2⟩ := y
  obtain ⟨a, b, r1, r2, e3⟩ := pairs_at l1 l2 e1 e2
  exact ⟨same_new hT, _, e3, pair_new hT r1 r2⟩
def enumL (ds : List D) : List D := pairs (rngL 0 ds.length) ds
theorem walkD_enum {p : Addr} {vs : List V} {ds : List D} (s1 : B p = some (.lst vs)) (l1 : RepL K B vs ds) : WalkD K U B (Ite K p) (enumL ds) := by
  have hn : (enumL ds).length = vs.length := by unfold enumL pairs rngL; rw [List.length_zipWith, List.length_map, List.length_range, l1.len, Nat.min_self]
  refine ⟨_, _, by rw [hn]; exact walk_enum (xs := vs), fun H e _ => SqL.of (e _ _ s1), fun i H v H' hi e _ y => ?_⟩
  obtain ⟨T, x, y', rfl, hT, rfl, e1, e2⟩ := y
  cases e1
  obtain ⟨d, h1, r1⟩ := l1.get e2
  refine ⟨same_new hT, .tup [.int (0 + (i : Nat)), d], ?_, pair_new hT (by simp only [Rep]; simp) r1⟩
  have hi' : i < ds.length := by rw [hn, l1.len] at hi; exact hi
  unfold enumL pairs rngL
  rw [List.getElem?_zipWith, List.getElem?_map, List.getElem?_range hi', h1]; rfl

/-! ### sources -/
def iLst (m : ME) : MI := fun ρ k x => m ρ (fun d ρ1 => match d with
  | .lst ds => k ds ρ1
  | .scr ns => k (ns.map D.int) ρ1
  | _ => False) x
def iTpl (m : ME) : MI := fun ρ k x => m ρ (fun d ρ1 => match d with
  | .tup ds => k ds ρ1
  | _ => False) x
def iTxt (m : ME) : MI := fun ρ k x => m ρ (fun d ρ1 => match d with
  | .str z => k (signs z) ρ1
  | _ => False) x
theorem sndI_lst (h : SndE K U E ta ma) : SndI K U E (iList K ta) (iLst ma) := by
  intro Z σ ρ H k x R I h0 q X
  refine h Z σ ρ H _ x _ I h0 (fun d ρ1 v H1 t1 I1 r1 h1 => ?_) X
  split at h1
  · simp only [Rep] at r1
    obtain ⟨p, vs, rfl, s1, l1⟩ := r1
    exact ⟨p, rfl, ⟨vs, SqL.of (hide_sub _ _ s1)⟩, q _ ρ1 _ H1 t1 I1 (walkD_list s1 l1) h1⟩
  · simp only [Rep] at r1
    obtain ⟨p, rfl, s1⟩ := r1
    exact ⟨p, rfl, ⟨_, Same.seq hide_sub s1⟩, q _ ρ1 _ H1 t1 I1 (walkD_scr s1) h1⟩
  · exact h1.elim
theorem sndI_tup (h : SndE K U E ta ma) : SndI K U E (iTup K ta) (iTpl ma) := by
  intro Z σ ρ H k x R I h0 q X
  refine h Z σ ρ H _ x _ I h0 (fun d ρ1 v H1 t1 I1 r1 h1 => ?_) X
  split at h1
  · simp only [Rep] at r1
    obtain ⟨p, vs, rfl, s1, l1⟩ := r1
    exact ⟨p, rfl, ⟨vs, sameT hide_sub s1.toT⟩, q _ ρ1 _ H1 t1 I1 (walkD_tup s1 l1) h1⟩
  · exact h1.elim
theorem sndI_str (h : SndE K U E ta ma) : SndI K U E (iStr ta) (iTxt ma) := by
  intro Z σ ρ H k x R I h0 q X
  refine h Z σ ρ H _ x _ I h0 (fun d ρ1 v H1 t1 I1 r1 h1 => ?_) X
  split at h1
  · simp only [Rep] at r1
    exact ⟨_, r1, q _ ρ1 _ H1 t1 I1 walkD_str h1⟩
  · exact h1.elim
def iR1 (m : MA) : MI := fun ρ k x => m ρ (fun ds ρ1 => match ds with
  | [.int j] => -(2 ^ 62) ≤ j ∧ j < 2 ^ 62 ∧ k (rngL 0 j.toNat) ρ1
  | _ => False) x
def iR2 (m : MA) : MI := fun ρ k x => m ρ (fun ds ρ1 => match ds with
  | [.int i, .int j] => (-(2 ^ 62) ≤ i ∧ i < 2 ^ 62 ∧ -(2 ^ 62) ≤ j ∧ j < 2 ^ 62) ∧ k (rngL i (j - i).toNat) ρ1
  | _ => False) x
def iZp (m : MA) : MI := fun ρ k x => m ρ (fun ds ρ1 => match ds with
  | [.tup as, .tup bs] => k (pairs as bs) ρ1
  | [.lst as, .lst bs] => k (pairs as bs) ρ1
  | _ => False) x
def iEn (m : MA) : MI := fun ρ k x => m ρ (fun ds ρ1 => match ds with
  | [.lst as] => k (enumL as) ρ1
  | _ => False) x
theorem sndI_r1 (h : SndA K U E tA mA) : SndI K U E (iRng1 tA) (iR1 mA) := by
  intro Z σ ρ H k x R I h0 q X
  refine h Z σ ρ H _ x _ I h0 (fun d ρ1 v H1 t1 I1 r1 h1 => ?_) X
  split at h1
  · simp only [RepL, Rep] at r1
    obtain ⟨v, _, rfl, rfl, rfl⟩ := r1
    exact ⟨_, rfl, h1.1, h1.2.1, q _ ρ1 _ H1 t1 I1 walkD_range h1.2.2⟩
  · exact h1.elim
theorem sndI_r2 (h : SndA K U E tA mA) : SndI K U E (iRng2 tA) (iR2 mA) := by
  intro Z σ ρ H k x R I h0 q X
  refine h Z σ ρ H _ x _ I h0 (fun d ρ1 v H1 t1 I1 r1 h1 => ?_) X
  split at h1
  · simp only [RepL, Rep] at r1
    obtain ⟨v, _, rfl, rfl, w, _, rfl, rfl, rfl⟩ := r1
    exact ⟨_, _, rfl, h1.1, q _ ρ1 _ H1 t1 I1 walkD_range h1.2⟩
  · exact h1.elim
theorem sndI_zip (h : SndA K U E tA mA) : SndI K U E (iZipA K tA) (iZp mA) := by
  intro Z σ ρ H k x R I h0 q X
  refine h Z σ ρ H _ x _ I h0 (fun d ρ1 v H1 t1 I1 r1 h1 => ?_) X
  split at h1
  · simp only [RepL, Rep] at r1
    obtain ⟨v, _, rfl, ⟨p, vs, rfl, s1, l1⟩, w, _, rfl, ⟨p2, ws, rfl, s2, l2⟩, rfl⟩ := r1
    exact ⟨p, p2, vs, ws, rfl, .inr ⟨sameT hide_sub s1.toT, sameT hide_sub s2.toT, q _ ρ1 _ H1 t1 I1 (walkD_zipT s1 s2 l1 l2) h1⟩⟩
  · simp only [RepL, Rep] at r1
    obtain ⟨v, _, rfl, ⟨p, vs, rfl, s1, l1⟩, w, _, rfl, ⟨p2, ws, rfl, s2, l2⟩, rfl⟩ := r1
    exact ⟨p, p2, vs, ws, rfl, .inl ⟨SqL.of (hide_sub _ _ s1), SqL.of (hide_sub _ _ s2), q _ ρ1 _ H1 t1 I1 (walkD_zipL s1 s2 l1 l2) h1⟩⟩
  · exact h1.elim
theorem sndI_enum (h : SndA K U E tA mA) : SndI K U E (iEnum K tA) (iEn mA) := by
  intro Z σ ρ H k x R I h0 q X
  refine h Z σ ρ H _ x _ I h0 (fun d ρ1 v H1 t1 I1 r1 h1 => ?_) X
  split at h1
  · simp only [RepL, Rep] at r1
    obtain ⟨v, _, rfl, ⟨p, vs, rfl, s1, l1⟩, rfl⟩ := r1
    exact ⟨p, vs, rfl, SqL.of (hide_sub _ _ s1), q _ ρ1 _ H1 t1 I1 (walkD_enum s1 l1) h1⟩
  · exact h1.elim
end
section
variable {ι : Type} {Xs : ι → Cx} {P : Program} {w : World} {K : PySem.W.Frag} {mg : Str → Option Value} {base : Heap} {U : Vol} {E : XS} {lv : Nat} {pos p tpos : Pos} {a b e tg : Expr} {elts : List Expr} {kk : Nat} {ma mb : ME} {mA : MA}
theorem di_lst (F : Fam Xs P w K mg base E lv) (h : DE Xs K U E e ma) : DI Xs K U E tg e (iLst ma) := by
  obtain ⟨t, h, s⟩ := h
  refine ⟨_, fun j => ?_, sndI_lst s⟩
  have := pi_list (tg := tg) (h j)
  rw [F.k j] at this
  exact this
theorem di_tup (F : Fam Xs P w K mg base E lv) (h : DE Xs K U E e ma) : DI Xs K U E tg e (iTpl ma) := by
  obtain ⟨t, h, s⟩ := h
  refine ⟨_, fun j => ?_, sndI_tup s⟩
  have := pi_tup (tg := tg) (h j)
  rw [F.k j] at this
  exact this
theorem di_str (h : DE Xs K U E e ma) : DI Xs K U E tg e (iTxt ma) := let ⟨_, h, s⟩ := h; ⟨_, fun j => pi_str (h j), sndI_str s⟩
theorem di_r1 (F : Fam Xs P w K mg base E lv) (hm : mg "range" = none) (h : DA Xs K U E [a] mA) (hg : ∀ j, Gl (Xs j) "range" := by intro _; rfl) (hs : ∀ j, starEach [a] (Xs j).env = [(false, eval a (Xs j).env)] := by intro _; rfl) : DI Xs K U E tg (.Call (.Name "range" p) [a] [] pos) (iR1 mA) :=
  let ⟨_, h, s⟩ := h; ⟨_, fun j => pi_range1 (hg j) (by rw [F.mg j]; exact hm) (h j) (hs j), sndI_r1 s⟩
theorem di_r2 (F : Fam Xs P w K mg base E lv) (hm : mg "range" = none) (h : DA Xs K U E [a, b] mA) (hg : ∀ j, Gl (Xs j) "range" := by intro _; rfl) (hs : ∀ j, starEach [a, b] (Xs j).env = [(false, eval a (Xs j).env), (false, eval b (Xs j).env)] := by intro _; rfl) (hs2 : ∀ j, starEach [b] (Xs j).env = [(false, eval b (Xs j).env)] := by intro _; rfl) : DI Xs K U E tg (.Call (.Name "range" p) [a, b] [] pos) (iR2 mA) :=
  let ⟨_, h, s⟩ := h; ⟨_, fun j => pi_range2 (hg j) (by rw [F.mg j]; exact hm) (h j) (hs j) (hs2 j), sndI_r2 s⟩
theorem di_zip (F : Fam Xs P w K mg base E lv) (hm : mg "zip" = none) (h : DA Xs K U E [a, b] mA) (hg : ∀ j, Gl (Xs j) "zip" := by intro _; rfl) (hs : ∀ j, starEach [a, b] (Xs j).env = (false, eval a (Xs j).env) :: starEach [b] (Xs j).env := by intro _; rfl) (hpl : ∀ j, (backTo pos (starEach [b] (Xs j).env)).any (·.1) = false := by intro _; rfl) : DI Xs K U E (.Tuple elts kk tpos) (.Call (.Name "zip" p) [a, b] [] pos) (iZp mA) := by
  obtain ⟨t, h, s⟩ := h
  refine ⟨_, fun j => ?_, sndI_zip s⟩
  have := pi_zipA (elts := elts) (kk := kk) (tpos := tpos) (p := p) (pos := pos) (hg j) (by rw [F.mg j]; exact hm) (h j) (hs j) (hpl j)
  rw [F.k j] at this
  exact this
theorem di_enum (F : Fam Xs P w K mg base E lv) (hm : mg "enumerate" = none) (h : DA Xs K U E [a] mA) (hg : ∀ j, Gl (Xs j) "enumerate" := by intro _; rfl) (hs : ∀ j, starEach [a] (Xs j).env = [(false, eval a (Xs j).env)] := by intro _; rfl) : DI Xs K U E (.Tuple elts kk tpos) (.Call (.Name "enumerate" p) [a] [] pos) (iEn mA) := by
  obtain ⟨t, h, s⟩ := h
  refine ⟨_, fun j => ?_, sndI_enum s⟩
  have := pi_enum (elts := elts) (kk := kk) (tpos := tpos) (p := p) (pos := pos) (hg j) (by rw [F.mg j]; exact hm) (h j) (hs j)
  rw [F.k j] at this
  exact this
end
end DL

set_option maxRecDepth 100000
set_option maxHeartbeats 1000000
/-! DL9: statements. -/
namespace DL
open PySem PySem.Spec PyProof.Rows L2

/-! ### slots stored -/
section
variable {K : PySem.W.Frag} {U : Vol} {E : XS} {Z : Addr → Prop} {σ : L2.St} {ρ : EnvD} {H H' : Hp} {i : Nat} {v : V} {d : D} {p : Addr}
/-- a slot takes data -/
theorem EnvOk.put (I : EnvOk K U Z σ ρ H) (r : Rep K (VH U Z σ ρ H) v d) : EnvOk K U Z (σ.set i (some v)) (ρ.st i (.dat d)) H ∧ Tr U.S (Owns σ ρ) H (Owns (σ.set i (some v)) (ρ.st i (.dat d))) H := by
  have ho : ∀ q, Owns (σ.set i (some v)) (ρ.st i (.dat d)) q → Owns σ ρ q := fun q h => owns_set_dat h
  have T : Tr U.S (Owns σ ρ) H (Owns (σ.set i (some v)) (ρ.st i (.dat d))) H := fun a o h1 h2 h3 => ⟨h3, fun z => h2 (ho a z)⟩
  have at_ : ∀ (j : Nat) q, OwnAt (σ.set i (some v)) (ρ.st i (.dat d)) j q → OwnAt σ ρ j q := fun j q ⟨h1, c, h2⟩ => by
    by_cases e : i = j
    · subst e
      by_cases hl : i < ρ.l.length
      · rw [List.getElem?_set_self hl] at h2; cases h2
      · rw [List.getElem?_eq_none (by simpa using hl)] at h2; cases h2
    · rw [List.getElem?_set_ne e] at h1 h2
      exact ⟨h1, c, h2⟩
  refine ⟨⟨by simpa using I.len, fun j d' h => ?_, fun j c h => ?_, fun j l q h1 h2 => I.one j l q (at_ j q h1) (at_ l q h2), I.vj, I.zt, I.zs, fun q h => I.oz q (ho q h)⟩, T⟩
  · by_cases e : i = j
    · subst e
      have hl : i < ρ.l.length := by
        by_cases hl : i < ρ.l.length
        · exact hl
        · rw [List.getElem?_eq_none (by simpa using hl)] at h; cases h
      rw [List.getElem?_set_self hl] at h
      cases h
      exact ⟨v, by rw [List.getElem?_set_self (by rw [I.len]; exact hl)], r.mono T.vis⟩
    · rw [List.getElem?_set_ne e] at h
      obtain ⟨v', h1, h2⟩ := I.dat j d' h
      exact ⟨v', by rw [List.getElem?_set_ne e]; exact h1, h2.mono T.vis⟩
  · have e : i ≠ j := fun e => by
      subst e
      by_cases hl : i < ρ.l.length
      · rw [List.getElem?_set_self hl] at h; cases h
      · rw [List.getElem?_eq_none (by simpa using hl)] at h; cases h
    rw [List.getElem?_set_ne e] at h
    obtain ⟨q, o, h1, h2, h3⟩ := I.own j c h
    exact ⟨q, o, by rw [List.getElem?_set_ne e]; exact h1, h2, h3.mono T.vis⟩
/-- a slot takes a new object of its own -/
theorem EnvOk.putOwn {c : MC} {o : HO} (I : EnvOk K U (fun a => Z a ∨ a = p) σ ρ H) (nS : ¬ U.S p) (nZ : ¬ Z p) (ho : H p = some o) (r : RepM K (VH U (fun a => Z a ∨ a = p) σ ρ H) o c) (hi : i < ρ.l.length) :
    EnvOk K U Z (σ.set i (some (.ref p))) (ρ.st i (.own c)) H := by
  have np : ∀ j, ¬ OwnAt σ ρ j p := fun j h => (I.oz p ⟨j, h⟩).2 (.inr rfl)
  have at_ : ∀ (j : Nat) q, OwnAt (σ.set i (some (.ref p))) (ρ.st i (.own c)) j q → (j = i ∧ q = p) ∨ (j ≠ i ∧ OwnAt σ ρ j q) := fun j q ⟨h1, c', h2⟩ => by
    by_cases e : i = j
    · subst e
      rw [List.getElem?_set_self (by rw [I.len]; exact hi)] at h1
      cases h1
      exact .inl ⟨rfl, rfl⟩
    · rw [List.getElem?_set_ne e] at h1 h2
      exact .inr ⟨fun z => e z.symm, h1, c', h2⟩
  have hv : Same (VH U (fun a => Z a ∨ a = p) σ ρ H) (VH U Z (σ.set i (some (.ref p))) (ρ.st i (.own c)) H) := hide_less fun a => by
    rintro (q | q | ⟨j, q⟩)
    · exact .inl q
    · exact .inr (.inl (.inl q))
    · rcases at_ j a q with ⟨_, rfl⟩ | ⟨_, q⟩
      · exact .inr (.inl (.inr rfl))
      · exact .inr (.inr ⟨j, q⟩)
  refine ⟨by simpa using I.len, fun j d' h => ?_, fun j c' h => ?_, fun j l q h1 h2 => ?_, I.vj, fun a z => I.zt a (.inl z), fun a z => I.zs a (.inl z), fun q ⟨j, h⟩ => ?_⟩
  · have e : i ≠ j := fun e => by
      subst e
      rw [List.getElem?_set_self hi] at h; cases h
    rw [List.getElem?_set_ne e] at h
    obtain ⟨v', h1, h2⟩ := I.dat j d' h
    exact ⟨v', by rw [List.getElem?_set_ne e]; exact h1, h2.mono hv⟩
  · by_cases e : i = j
    · subst e
      rw [List.getElem?_set_self hi] at h
      cases h
      exact ⟨p, o, by rw [List.getElem?_set_self (by rw [I.len]; exact hi)], ho, r.mono hv⟩
    · rw [List.getElem?_set_ne e] at h
      obtain ⟨q, o', h1, h2, h3⟩ := I.own j c' h
      exact ⟨q, o', by rw [List.getElem?_set_ne e]; exact h1, h2, h3.mono hv⟩
  · rcases at_ j q h1 with ⟨rfl, rfl⟩ | ⟨_, k1⟩
    · rcases at_ l _ h2 with ⟨rfl, _⟩ | ⟨_, k2⟩
      · rfl
      · exact (np _ k2).elim
    · rcases at_ l q h2 with ⟨rfl, rfl⟩ | ⟨_, k2⟩
      · exact (np _ k1).elim
      · exact I.one j l q k1 k2
  · rcases at_ j q h with ⟨_, rfl⟩ | ⟨_, h⟩
    · exact ⟨nS, nZ⟩
    · have := I.oz q ⟨j, h⟩
      exact ⟨this.1, fun z => this.2 (.inl z)⟩
/-- a list of the def's own becomes data -/
theorem EnvOk.freeze {ds : List D} (I : EnvOk K U Z σ ρ H) (h : ρ.l[i]? = some (.own (.lst ds))) : EnvOk K U Z σ (ρ.st i (.dat (.lst ds))) H ∧ Tr U.S (Owns σ ρ) H (Owns σ (ρ.st i (.dat (.lst ds)))) H := by
  obtain ⟨p, o, hp, ho, r⟩ := I.own i _ h
  have hl : i < ρ.l.length := (List.getElem?_eq_some_iff.mp h).1
  have at_ : ∀ (j : Nat) q, OwnAt σ (ρ.st i (.dat (.lst ds))) j q → OwnAt σ ρ j q ∧ j ≠ i := fun j q ⟨h1, c', h2⟩ => by
    by_cases e : i = j
    · subst e
      rw [List.getElem?_set_self hl] at h2; cases h2
    · rw [List.getElem?_set_ne e] at h2
      exact ⟨⟨h1, c', h2⟩, fun z => e z.symm⟩
  have T : Tr U.S (Owns σ ρ) H (Owns σ (ρ.st i (.dat (.lst ds)))) H := fun a o h1 h2 h3 => ⟨h3, fun ⟨j, z⟩ => h2 ⟨j, (at_ j a z).1⟩⟩
  have np : ¬ Hid U Z σ (ρ.st i (.dat (.lst ds))) p := by
    have ow : OwnAt σ ρ i p := ⟨hp, _, h⟩
    rintro (q | q | ⟨j, q⟩)
    · exact (I.oz p ⟨i, ow⟩).1 q
    · exact (I.oz p ⟨i, ow⟩).2 q
    · exact (at_ j p q).2 (I.one j i p (at_ j p q).1 ow)
  refine ⟨⟨by simpa using I.len, fun j d' h' => ?_, fun j c' h' => ?_, fun j l q h1 h2 => I.one j l q (at_ j q h1).1 (at_ l q h2).1, I.vj, I.zt, I.zs, fun q ⟨j, z⟩ => I.oz q ⟨j, (at_ j q z).1⟩⟩, T⟩
  · by_cases e : i = j
    · subst e
      rw [List.getElem?_set_self hl] at h'
      cases h'
      cases r with
      | lst r =>
        refine ⟨.ref p, hp, ?_⟩
        simp only [Rep]
        exact ⟨p, _, rfl, (hide_no np).trans ho, r.mono T.vis⟩
    · rw [List.getElem?_set_ne e] at h'
      obtain ⟨v', h1, h2⟩ := I.dat j d' h'
      exact ⟨v', h1, h2.mono T.vis⟩
  · have e : i ≠ j := fun e => by
      subst e
      rw [List.getElem?_set_self hl] at h'; cases h'
    rw [List.getElem?_set_ne e] at h'
    obtain ⟨q, o', h1, h2, h3⟩ := I.own j c' h'
    exact ⟨q, o', h1, h2, h3.mono T.vis⟩
/-- an object of the def's own is written -/
theorem EnvOk.write {c c' : MC} {o : HO} (I : EnvOk K U Z σ ρ H) (h : ρ.l[i]? = some (.own c)) (hp : σ[i]? = some (some (.ref p))) (r : RepM K (VH U Z σ ρ H) o c') :
    EnvOk K U Z σ (ρ.st i (.own c')) (upd H p o) ∧ Tr U.S (Owns σ ρ) H (Owns σ (ρ.st i (.own c'))) (upd H p o) := by
  have hl : i < ρ.l.length := (List.getElem?_eq_some_iff.mp h).1
  have ow : OwnAt σ ρ i p := ⟨hp, _, h⟩
  have at_ : ∀ (j : Nat) q, OwnAt σ (ρ.st i (.own c')) j q ↔ OwnAt σ ρ j q := fun j q => by
    by_cases e : i = j
    · subst e
      unfold OwnAt
      rw [List.getElem?_set_self hl]
      exact ⟨fun ⟨h1, _⟩ => ⟨h1, _, h⟩, fun ⟨h1, _⟩ => ⟨h1, _, rfl⟩⟩
    · unfold OwnAt
      rw [List.getElem?_set_ne e]
  have oeq : ∀ q, Owns σ (ρ.st i (.own c')) q ↔ Owns σ ρ q := fun q => ⟨fun ⟨j, z⟩ => ⟨j, (at_ j q).1 z⟩, fun ⟨j, z⟩ => ⟨j, (at_ j q).2 z⟩⟩
  have T : Tr U.S (Owns σ ρ) H (Owns σ (ρ.st i (.own c'))) (upd H p o) := fun a u h1 h2 h3 => by
    have ne : a ≠ p := fun e => h2 (e ▸ ⟨i, ow⟩)
    exact ⟨by rw [upd_ne ne]; exact h3, fun z => h2 ((oeq a).1 z)⟩
  obtain ⟨oz1, oz2⟩ := I.oz p ⟨i, ow⟩
  obtain ⟨o0, ho0, nf⟩ := I.owned ⟨i, ow⟩
  refine ⟨⟨by simpa using I.len, fun j d' h' => ?_, fun j c2 h' => ?_, fun j l q h1 h2 => I.one j l q ((at_ j q).1 h1) ((at_ l q).1 h2), U.stay _ H _ I.vj fun a u e z => ?_, fun a z => ?_, I.zs, fun q z => I.oz q ((oeq q).1 z)⟩, T⟩
  · have e : i ≠ j := fun e => by
      subst e
      rw [List.getElem?_set_self hl] at h'; cases h'
    rw [List.getElem?_set_ne e] at h'
    obtain ⟨v', h1, h2⟩ := I.dat j d' h'
    exact ⟨v', h1, h2.mono T.vis⟩
  · by_cases e : i = j
    · subst e
      rw [List.getElem?_set_self hl] at h'
      cases h'
      exact ⟨p, o, hp, upd_same, r.mono T.vis⟩
    · rw [List.getElem?_set_ne e] at h'
      obtain ⟨q, o', h1, h2, h3⟩ := I.own j c2 h'
      have ne : q ≠ p := fun z => e (I.one i j p ow (z ▸ ⟨h1, c2, h'⟩))
      exact ⟨q, o', h1, by rw [upd_ne ne]; exact h2, h3.mono T.vis⟩
  · have ne : a ≠ p := fun y => by
      subst y
      rcases z with z | z
      · exact oz1 z
      · rw [ho0] at e; cases e; exact nf z
    rw [upd_ne ne]; exact e
  · obtain ⟨u, e, f⟩ := I.zt a z
    have ne : a ≠ p := fun y => oz2 (y ▸ z)
    exact ⟨u, by rw [upd_ne ne]; exact e, f⟩
end

/-! ### targets -/
def gNm (i : Nat) : MG := fun d ρ k => k (ρ.st i (.dat d))
abbrev MGs := List D → EnvD → (EnvD → Prop) → Prop
def SndGs (K : PySem.W.Frag) (U : Vol) (g : TGs) (m : MGs) : Prop := ∀ (Z : Addr → Prop) (σ : L2.St) (ρ : EnvD) (H : Hp) (vs : List V) (ds : List D) (k : EnvD → Prop) (Q : L2.St → Hp → Prop), EnvOk K U Z σ ρ H → RepL K (VH U Z σ ρ H) vs ds → m ds ρ k →
  (∀ σ' ρ' H', Tr U.S (Owns σ ρ) H (Owns σ' ρ') H' → EnvOk K U Z σ' ρ' H' → k ρ' → Q σ' H') → g vs σ H Q
def gNl : MGs := fun ds ρ k => match ds with
  | [] => k ρ
  | _ => False
def gCs (m : MG) (ms : MGs) : MGs := fun ds ρ k => match ds with
  | d :: ds => m d ρ fun ρ1 => ms ds ρ1 k
  | _ => False
def gTp (ms : MGs) (n : Nat) : MG := fun d ρ k => match d with
  | .tup ds => ds.length = n ∧ ms ds ρ k
  | _ => False
section
variable {K : PySem.W.Frag} {U : Vol} {E : XS} {g : TG} {gs : TGs} {m : MG} {ms : MGs} {i n : Nat}
theorem sndG_name : SndG K U (gName i) (gNm i) := by
  intro Z σ ρ H v d k Q I r h q
  obtain ⟨I', T⟩ := I.put (i := i) r
  exact q _ _ H T I' h
theorem sndGs_nil : SndGs K U gNil gNl := by
  intro Z σ ρ H vs ds k Q I r h q
  unfold gNl at h
  split at h
  · simp only [RepL] at r
    exact ⟨r, q σ ρ H .refl I h⟩
  · exact h.elim
theorem sndGs_cons (h1 : SndG K U g m) (h2 : SndGs K U gs ms) : SndGs K U (gCons g gs) (gCs m ms) := by
  intro Z σ ρ H vs ds k Q I r h q
  unfold gCs at h
  split at h
  · simp only [RepL] at r
    obtain ⟨v, r', rfl, r1, r2⟩ := r
    refine ⟨v, r', rfl, h1 Z σ ρ H v _ _ _ I r1 h fun σ1 ρ1 H1 t1 I1 k1 => ?_⟩
    exact h2 Z σ1 ρ1 H1 r' _ k Q I1 (r2.mono t1.vis) k1 fun σ2 ρ2 H2 t2 I2 k2 => q σ2 ρ2 H2 (t1.trans t2) I2 k2
  · exact h.elim
theorem sndG_tup (h : SndGs K U gs ms) : SndG K U (gTup K n gs) (gTp ms n) := by
  intro Z σ ρ H v d k Q I r h0 q
  unfold gTp at h0
  split at h0
  · simp only [Rep] at r
    obtain ⟨p, vs, rfl, s1, l1⟩ := r
    exact ⟨p, vs, rfl, sameT hide_sub s1.toT, by rw [l1.len]; exact h0.1, h Z σ ρ H vs _ k Q I l1 h0.2 q⟩
  · exact h0.elim
end

/-! ### statements -/
def sNext : MS := fun k ρ => k.nx ρ
def sSeq (a b : MS) : MS := fun k ρ => a { k with nx := b k } ρ
def sBreak : MS := fun k ρ => k.bk ρ
def sCont : MS := fun k ρ => k.ct ρ
def sDrop (m : ME) : MS := fun k ρ => m ρ (fun _ ρ1 => k.nx ρ1) k.xn
def sRet (m : ME) : MS := fun k ρ => m ρ k.rt k.xn
def sRetN : MS := fun k ρ => k.rt .non ρ
def sIf (c : MT) (a b : MS) : MS := fun k ρ => c ρ (fun t ρ1 => if t = true then a k ρ1 else b k ρ1) k.xn
def sAsg (m : ME) (g : MG) : MS := fun k ρ => m ρ (fun d ρ1 => g d ρ1 k.nx) k.xn
/-- turn i -/
def forM (g : MG) (b : MS) (k : MK) : List D → EnvD → Prop
  | [], ρ => k.nx ρ
  | d :: ds, ρ => g d ρ fun ρ1 => b { k with nx := forM g b k ds, ct := forM g b k ds, bk := k.nx } ρ1
def sFor (i : MI) (g : MG) (b : MS) : MS := fun k ρ => i ρ (fun ds ρ1 => forM g b k ds ρ1) k.xn
def sWhile (c : MT) (b : MS) : MS := fun k ρ => ∃ W : Nat → EnvD → Prop, (∃ n, W n ρ) ∧ ∀ n ρ, W n ρ → c ρ (fun t ρ1 => if t = true then b { k with nx := fun ρ' => ∃ m, m < n ∧ W m ρ', ct := fun ρ' => ∃ m, m < n ∧ W m ρ', bk := k.nx } ρ1 else k.nx ρ1) k.xn
/-- an own list, an own dict becomes data -/
def sFrz (i : Nat) (b : MS) : MS := fun k ρ => match ρ.l[i]? with
  | some (.own (.lst ds)) => b k (ρ.st i (.dat (.lst ds)))
  | _ => False
/-- a slot takes a new list as its own -/
def sOwn (i : Nat) (f : EnvD → (List D → EnvD → Prop) → KX → Prop) : MS := fun k ρ => f ρ (fun ds ρ1 => i < ρ1.l.length ∧ k.nx (ρ1.st i (.own (.lst ds)))) k.xn
section
variable {K : PySem.W.Frag} {U : Vol} {E : XS} {t u : TS} {te : TE} {tc : TT} {a b : MS} {m : ME} {c : MT} {g : TG} {mg : MG} {wi : TI} {mi : MI} {i : Nat}
theorem snd_next : SndS K U E tNext sNext := fun Z σ ρ H k Dn I h f => f.nx σ ρ H .refl I h
theorem snd_seq (h1 : SndS K U E t a) (h2 : SndS K U E u b) : SndS K U E (tSeq t u) (sSeq a b) := by
  intro Z σ ρ H k Dn I h f
  refine h1 Z σ ρ H { k with nx := b k } { Dn with nx := u Dn } I h ⟨fun σ' ρ' H' T I' h' => ?_, f.rt, f.bk, f.ct, f.xn⟩
  exact h2 Z σ' ρ' H' k Dn I' h' (f.go T)
theorem snd_break : SndS K U E tBreak sBreak := fun Z σ ρ H k Dn I h f => f.bk σ ρ H .refl I h
theorem snd_cont : SndS K U E tCont sCont := fun Z σ ρ H k Dn I h f => f.ct σ ρ H .refl I h
theorem snd_drop (h : SndE K U E te m) : SndS K U E (tDrop te) (sDrop m) := fun Z σ ρ H k Dn I h0 f => h Z σ ρ H _ _ _ I h0 (fun d ρ1 v H1 t1 I1 r1 h1 => f.nx σ ρ1 H1 t1 I1 h1) f.xn.e
theorem snd_ret (h : SndE K U E te m) : SndS K U E (tRet te) (sRet m) := fun Z σ ρ H k Dn I h0 f => h Z σ ρ H _ _ _ I h0 (fun d ρ1 v H1 t1 I1 r1 h1 => f.rt d σ ρ1 v H1 t1 I1 r1 h1) f.xn.e
theorem snd_retN : SndS K U E tRetN sRetN := fun Z σ ρ H k Dn I h f => f.rt .non σ ρ .non H .refl I (by simp only [Rep]) h
theorem snd_ifS (hc : SndT K U E tc c) (h1 : SndS K U E t a) (h2 : SndS K U E u b) : SndS K U E (tIfS tc t u) (sIf c a b) := by
  intro Z σ ρ H k Dn I h f
  refine hc Z σ ρ H _ _ _ I h (fun t ρ1 H1 t1 I1 h' => ?_) f.xn.e
  cases t with
  | true => exact h1 Z σ ρ1 H1 k Dn I1 h' (f.go t1)
  | false => exact h2 Z σ ρ1 H1 k Dn I1 h' (f.go t1)
theorem snd_asg (h : SndE K U E te m) (hg : SndG K U g mg) : SndS K U E (tAsg te g) (sAsg m mg) := by
  intro Z σ ρ H k Dn I h0 f
  refine h Z σ ρ H _ _ _ I h0 (fun d ρ1 v H1 t1 I1 r1 h1 => ?_) f.xn.e
  exact hg Z σ ρ1 H1 v d _ _ I1 r1 h1 fun σ2 ρ2 H2 t2 I2 h2 => f.nx σ2 ρ2 H2 (t1.trans t2) I2 h2
theorem snd_for (hi : SndI K U E wi mi) (hg : SndG K U g mg) (hb : SndS K U E t b) : SndS K U E (tFor wi g t) (sFor mi mg b) := by
  intro Z σ ρ H k Dn I h f
  refine hi Z σ ρ H _ _ _ I h (fun ds ρ1 J H1 t1 I1 wd h1 => ?_) f.xn.e
  obtain ⟨G, Y, wk, hG, hY⟩ := wd
  refine for_it wk (fun n σ' H' => ∃ ρ', Tr U.S (Owns σ ρ1) H1 (Owns σ' ρ') H' ∧ EnvOk K U Z σ' ρ' H' ∧ forM mg b k (ds.drop n) ρ') ⟨ρ1, .refl, I1, h1⟩ (fun n σ' H' _ ⟨ρ', T, I', _⟩ => hG H' (fun a o e => hide_sub a o (T.vis a o e)) ⟨_, I'.vj⟩) ?_ ?_
  · rintro n x σ' H' H2 hn ⟨ρ', T, I', hf⟩ hy
    obtain ⟨e2, d, hd, rd⟩ := hY n H' x H2 hn (fun a o e => hide_sub a o (T.vis a o e)) ⟨_, I'.vj⟩ hy
    have I2 := I'.same e2
    have T2 : Tr U.S (Owns σ ρ1) H1 (Owns σ' ρ') H2 := T.trans (.of_same e2)
    rw [List.drop_eq_getElem_cons hn] at hf
    have ed : ds[n] = d := by
      rw [List.getElem?_eq_getElem hn] at hd
      exact Option.some.inj hd
    rw [ed] at hf
    refine hg Z σ' ρ' H2 x d _ _ I2 (rd _ (fun a ha => I'.hidden ha) T.vis) hf fun σ3 ρ3 H3 T3 I3 h3 => ?_
    have T13 := (t1.trans T2).trans T3
    refine hb Z σ3 ρ3 H3 _ _ I3 h3 ⟨fun σ4 ρ4 H4 T4 I4 h4 => ⟨ρ4, (T2.trans T3).trans T4, I4, h4⟩, fun d' σ4 ρ4 v H4 T4 => f.rt d' σ4 ρ4 v H4 (T13.trans T4), fun σ4 ρ4 H4 T4 => f.nx σ4 ρ4 H4 (T13.trans T4), fun σ4 ρ4 H4 T4 I4 h4 => ⟨ρ4, (T2.trans T3).trans T4, I4, h4⟩, f.xn.go T13⟩
  · rintro σ' H' ⟨ρ', T, I', hf⟩
    rw [List.drop_length] at hf
    exact f.nx σ' ρ' H' (t1.trans T) I' hf
theorem snd_while (hc : SndT K U E tc c) (hb : SndS K U E t b) : SndS K U E (tWhile tc t) (sWhile c b) := by
  intro Z σ ρ H k Dn I h f
  obtain ⟨W, ⟨n0, w0⟩, turn⟩ := h
  refine ⟨fun n σ' H' => ∃ ρ', Tr U.S (Owns σ ρ) H (Owns σ' ρ') H' ∧ EnvOk K U Z σ' ρ' H' ∧ W n ρ', ⟨n0, ρ, .refl, I, w0⟩, ?_⟩
  rintro n σ' H' ⟨ρ', T, I', wn⟩
  refine hc Z σ' ρ' H' _ _ _ I' (turn n ρ' wn) (fun t ρ1 H1 t1 I1 h1 => ?_) (f.xn.go T).e
  cases t with
  | false => exact f.nx σ' ρ1 H1 (T.trans t1) I1 h1
  | true =>
    refine ⟨fun σ2 H2 => ∃ m, m < n ∧ ∃ ρ2, Tr U.S (Owns σ ρ) H (Owns σ2 ρ2) H2 ∧ EnvOk K U Z σ2 ρ2 H2 ∧ W m ρ2, fun σ2 H2 ⟨m, hm, q⟩ => ⟨m, hm, q⟩, ?_⟩
    have T1 := T.trans t1
    exact hb Z σ' ρ1 H1 _ _ I1 h1 ⟨fun σ2 ρ2 H2 T2 I2 ⟨m, hm, wm⟩ => ⟨m, hm, ρ2, T1.trans T2, I2, wm⟩, fun d' σ4 ρ4 v H4 T4 => f.rt d' σ4 ρ4 v H4 (T1.trans T4), fun σ4 ρ4 H4 T4 => f.nx σ4 ρ4 H4 (T1.trans T4), fun σ2 ρ2 H2 T2 I2 ⟨m, hm, wm⟩ => ⟨m, hm, ρ2, T1.trans T2, I2, wm⟩, f.xn.go T1⟩
theorem snd_frz (h : SndS K U E t b) : SndS K U E t (sFrz i b) := by
  intro Z σ ρ H k Dn I h0 f
  unfold sFrz at h0
  split at h0
  · rename_i ds e
    obtain ⟨I1, T1⟩ := I.freeze e
    exact h Z σ _ H k Dn I1 h0 (f.go T1)
  · exact h0.elim
theorem snd_own {fm : EnvD → (List D → EnvD → Prop) → KX → Prop} (h : SndF K U E te fm) : SndS K U E (tAsg te (gName i)) (sOwn i fm) := by
  intro Z σ ρ H k Dn I h0 f
  refine h Z σ ρ H _ _ _ I h0 (fun ds ρ1 p vs H1 t1 I1 nS nZ hp nh r1 h1 => ?_) f.xn.e
  have I2 := I1.putOwn (i := i) nS nZ hp (.lst r1) h1.1
  refine f.nx _ _ H1 (fun a o g1 g2 g3 => ?_) I2 h1.2
  obtain ⟨k1, k2⟩ := t1 a o g1 g2 g3
  refine ⟨k1, fun ⟨j, q1, c', q2⟩ => ?_⟩
  by_cases e : i = j
  · subst e
    rw [List.getElem?_set_self (by rw [I1.len]; exact h1.1)] at q1
    cases q1
    exact nh o g2 g3
  · rw [List.getElem?_set_ne e] at q1 q2
    exact k2 ⟨j, q1, c', q2⟩
end
section
variable {ι : Type} {Xs : ι → Cx} {P : Program} {w : World} {K : PySem.W.Frag} {mg : Str → Option Value} {base : Heap} {U : Vol} {E : XS} {lv : Nat} {pos p tpos pos' : Pos} {a b c e tg iter : Expr} {st : Stmt} {sts body : List Stmt} {ma mb m : ME} {mA : MA} {s1 s2 : MS} {mt : MT} {mgt : MG} {mi : MI} {x : Str} {i : Nat}
theorem dg_name (F : Fam Xs P w K mg base E lv) (hi : ∀ j, (Xs j).N[i]? = some x := by intro _; rfl) (hx : ∀ j, Loc (Xs j).env.scope x := by intro _; first | exact Or.inl rfl | exact Or.inr rfl) (hf : ∀ j, (Xs j).fn x = true ∨ (Xs j).env.scope.names.lookup x = some .local := by intro _; first | exact .inl rfl | exact .inr rfl) : DG Xs K U (.Name x pos) (gNm i) :=
  ⟨_, fun j => pg_name (F.nd j) (hi j) (hx j) (hf j), sndG_name⟩
def DGs (Xs : ι → Cx) (K : PySem.W.Frag) (U : Vol) (es : List Expr) (m : MGs) : Prop := ∃ t, (∀ i, PGs (Xs i) es t) ∧ SndGs K U t m
theorem dgs_nil : DGs Xs K U [] gNl := ⟨_, fun _ => pgs_nil, sndGs_nil⟩
theorem dgs_cons {es : List Expr} {ms : MGs} (h1 : DG Xs K U e mgt) (h2 : DGs Xs K U es ms) (hs : ∀ j, (assignEach (e :: es) (Xs j).env).map (·.2) = assign e (Xs j).env :: (assignEach es (Xs j).env).map (·.2) := by intro _; rfl) : DGs Xs K U (e :: es) (gCs mgt ms) :=
  let ⟨_, h1, s1⟩ := h1; let ⟨_, h2, s2⟩ := h2; ⟨_, fun j => pgs_cons (h1 j) (h2 j) (hs j), sndGs_cons s1 s2⟩
theorem dg_tup (F : Fam Xs P w K mg base E lv) {es : List Expr} {ms : MGs} {k n : Nat} (h : DGs Xs K U es ms) (hn : ∀ j, (assignEach es (Xs j).env).length = n := by intro _; rfl) (hst : ∀ j, (assignEach es (Xs j).env).findIdx? (·.1) = none := by intro _; rfl) : DG Xs K U (.Tuple es k pos) (gTp ms n) := by
  obtain ⟨t, h, s⟩ := h
  refine ⟨_, fun j => ?_, sndG_tup s⟩
  have := pg_tup (k := k) (pos := pos) (F.calm j) (h j) (hn j) (hst j)
  rw [F.k j] at this
  exact this
theorem dss_nil : DSs Xs K U E [] sNext := ⟨_, fun _ => pss_nil, snd_next⟩
theorem dss_cons (h1 : DS Xs K U E st s1) (h2 : DSs Xs K U E sts s2) : DSs Xs K U E (st :: sts) (sSeq s1 s2) := let ⟨_, h1, q1⟩ := h1; let ⟨_, h2, q2⟩ := h2; ⟨_, fun j => pss_cons (h1 j) (h2 j), snd_seq q1 q2⟩
theorem dss_one (h1 : DS Xs K U E st s1) : DSs Xs K U E [st] s1 := let ⟨_, h1, q1⟩ := h1; ⟨_, fun j => pss_one (h1 j), q1⟩
theorem ds_pass : DS Xs K U E (.Pass pos) sNext := ⟨_, fun _ => ps_pass, snd_next⟩
theorem ds_break : DS Xs K U E (.Break pos) sBreak := ⟨_, fun _ => ps_break, snd_break⟩
theorem ds_continue : DS Xs K U E (.Continue pos) sCont := ⟨_, fun _ => ps_continue, snd_cont⟩
theorem ds_expr (h : DE Xs K U E e m) (hs : ∀ j, swapsWith e none pos.line (Xs j).env = pure false := by intro _; rfl) : DS Xs K U E (.Expr e pos) (sDrop m) := let ⟨_, h, s⟩ := h; ⟨_, fun j => ps_expr (h j) (hs j), snd_drop s⟩
theorem ds_ret (h : DE Xs K U E e m) : DS Xs K U E (.Return (some e) pos) (sRet m) := let ⟨_, h, s⟩ := h; ⟨_, fun j => ps_ret (h j), snd_ret s⟩
theorem ds_retN : DS Xs K U E (.Return none pos) sRetN := ⟨_, fun _ => ps_retN, snd_retN⟩
theorem ds_if {bs : List Stmt} (hc : DT Xs K U E c mt) (h1 : DSs Xs K U E body s1) (h2 : DSs Xs K U E bs s2) : DS Xs K U E (.If c body bs pos) (sIf mt s1 s2) := let ⟨_, hc, q⟩ := hc; let ⟨_, h1, q1⟩ := h1; let ⟨_, h2, q2⟩ := h2; ⟨_, fun j => ps_if (hc j) (h1 j) (h2 j), snd_ifS q q1 q2⟩
theorem ds_asg (h : DE Xs K U E e m) (hg : DG Xs K U tg mgt) (hs : ∀ j, swapsWithSole [tg] e pos.line (Xs j).env = pure false := by intro _; rfl) (hw : ∀ j, swappedStores [tg] e (Xs j).env = pure none := by intro _; rfl) (h1 : ∀ j, (assignEach [tg] (Xs j).env).map (·.2) = [assign tg (Xs j).env] := by intro _; rfl) : DS Xs K U E (.Assign [tg] e pos) (sAsg m mgt) :=
  let ⟨_, h, s⟩ := h; let ⟨_, hg, sg⟩ := hg; ⟨_, fun j => ps_asg (h j) (hg j) (hs j) (hw j) (h1 j), snd_asg s sg⟩
theorem ds_set (F : Fam Xs P w K mg base E lv) (i : Nat) (h : DE Xs K U E e m) (hi : ∀ j, (Xs j).N[i]? = some x := by intro _; rfl) (hx : ∀ j, Loc (Xs j).env.scope x := by intro _; first | exact Or.inl rfl | exact Or.inr rfl) (hs : ∀ j, swapsWith e (some (.Name x pos')) pos.line (Xs j).env = pure false := by intro _; rfl) (hf : ∀ j, (Xs j).fn x = true ∨ (Xs j).env.scope.names.lookup x = some .local := by intro _; first | exact .inl rfl | exact .inr rfl) : DS Xs K U E (.Assign [.Name x pos'] e pos) (sAsg m (gNm i)) :=
  let ⟨_, h, s⟩ := h; ⟨_, fun j => ps_set (F.nd j) (hi j) (hx j) (h j) (hs j) (hf j), snd_asg s sndG_name⟩
theorem ds_own (F : Fam Xs P w K mg base E lv) (i : Nat) {f : EnvD → (List D → EnvD → Prop) → KX → Prop} (h : DF Xs K U E e f) (hi : ∀ j, (Xs j).N[i]? = some x := by intro _; rfl) (hx : ∀ j, Loc (Xs j).env.scope x := by intro _; first | exact Or.inl rfl | exact Or.inr rfl) (hs : ∀ j, swapsWith e (some (.Name x pos')) pos.line (Xs j).env = pure false := by intro _; rfl) (hf : ∀ j, (Xs j).fn x = true ∨ (Xs j).env.scope.names.lookup x = some .local := by intro _; first | exact .inl rfl | exact .inr rfl) : DS Xs K U E (.Assign [.Name x pos'] e pos) (sOwn i f) :=
  let ⟨_, h, s⟩ := h; ⟨_, fun j => ps_set (F.nd j) (hi j) (hx j) (h j) (hs j) (hf j), snd_own s⟩
theorem DSs.frz (i : Nat) (h : DSs Xs K U E sts s1) : DSs Xs K U E sts (sFrz i s1) := let ⟨_, h, s⟩ := h; ⟨_, h, snd_frz s⟩
theorem DS.frz (i : Nat) (h : DS Xs K U E st s1) : DS Xs K U E st (sFrz i s1) := let ⟨_, h, s⟩ := h; ⟨_, h, snd_frz s⟩
theorem ds_for (F : Fam Xs P w K mg base E lv) (hi : DI Xs K U E tg iter mi) (hg : DG Xs K U tg mgt) (hb : DSs Xs K U E body s1) (hs : ∀ j x, foldedSetIterable iter (Xs j).env x = pure x := by intro _ _; rfl) : DS Xs K U E (.For tg iter body [] pos) (sFor mi mgt s1) :=
  let ⟨_, hi, q⟩ := hi; let ⟨_, hg, sg⟩ := hg; let ⟨_, hb, sb⟩ := hb; ⟨_, fun j => ps_for (F.own j) (F.calm j) (hi j) (hg j) (hb j) (hs j), snd_for q sg sb⟩
theorem ds_while (F : Fam Xs P w K mg base E lv) (hc : DT Xs K U E c mt) (hb : DSs Xs K U E body s1) : DS Xs K U E (.While c body [] pos) (sWhile mt s1) :=
  let ⟨_, hc, q⟩ := hc; let ⟨_, hb, sb⟩ := hb; ⟨_, fun j => ps_while (F.own j) (hc j) (hb j), snd_while q sb⟩
end
end DL

set_option maxRecDepth 100000
set_option maxHeartbeats 1000000
/-! DL10: comprehensions, own lists, a def's promise. -/
namespace DL
open PySem PySem.Spec PyProof.Rows L2

/-! ### the slots of a comprehension's own names, forgotten -/
def wipeL (l : List Slot) : List Nat → List Slot
  | [] => l
  | v :: vs => (wipeL l vs).set v .no
@[reducible] def wipeD (ρ : EnvD) (vs : List Nat) : EnvD := ⟨wipeL ρ.l vs, ρ.c⟩
theorem wipeL_length (l : List Slot) : ∀ vs, (wipeL l vs).length = l.length
  | [] => rfl
  | v :: vs => by unfold wipeL; rw [List.length_set, wipeL_length l vs]
theorem wipeD_length (ρ : EnvD) (vs : List Nat) : (wipeD ρ vs).l.length = ρ.l.length := wipeL_length ρ.l vs
theorem wipeL_get {l : List Slot} {i : Nat} {s : Slot} : ∀ {vs : List Nat}, (wipeL l vs)[i]? = some s → s ≠ .no → l[i]? = some s ∧ i ∉ vs
  | [], h, _ => ⟨h, by simp⟩
  | v :: vs, h, n => by
    unfold wipeL at h
    by_cases hi : v = i
    · subst hi
      by_cases hv : v < (wipeL l vs).length
      · rw [List.getElem?_set_self hv] at h; cases h; exact (n rfl).elim
      · rw [List.getElem?_eq_none (by simpa using hv)] at h; cases h
    · rw [List.getElem?_set_ne hi] at h
      obtain ⟨h1, h2⟩ := wipeL_get h n
      exact ⟨h1, by simp only [List.mem_cons, not_or]; exact ⟨fun e => hi e.symm, h2⟩⟩
theorem wipeD_get {ρ : EnvD} {i : Nat} {s : Slot} {vs : List Nat} (h : (wipeD ρ vs).l[i]? = some s) (n : s ≠ .no) : ρ.l[i]? = some s ∧ i ∉ vs := wipeL_get h n
theorem wipe_get {σ : L2.St} {i : Nat} : ∀ {vs : List Nat}, i ∉ vs → (wipe σ vs)[i]? = σ[i]?
  | [], _ => rfl
  | v :: vs, h => by
    simp only [List.mem_cons, not_or] at h
    unfold wipe
    rw [List.getElem?_set_ne fun e => h.1 e.symm]
    exact wipe_get h.2
theorem wipe_in {σ : L2.St} {i : Nat} : ∀ {vs : List Nat}, i ∈ vs → (wipe σ vs)[i]? = (σ[i]?).map fun _ => none
  | v :: vs, h => by
    unfold wipe
    by_cases e : v = i
    · subst e
      by_cases hv : v < σ.length
      · rw [List.getElem?_set_self (by rw [wipe_length]; exact hv), List.getElem?_eq_getElem hv]; rfl
      · rw [List.getElem?_eq_none (by rw [List.length_set, wipe_length]; omega), List.getElem?_eq_none (by omega)]; rfl
    · rw [List.getElem?_set_ne e]
      simp only [List.mem_cons] at h
      rcases h with h | h
      · exact (e h.symm).elim
      · exact wipe_in h
theorem wipe_eq {σ σ' : L2.St} {vs : List Nat} (hl : σ'.length = σ.length) (h : ∀ i, i ∉ vs → σ'[i]? = σ[i]?) : wipe σ' vs = wipe σ vs := by
  refine List.ext_getElem? fun i => ?_
  by_cases hi : i ∈ vs
  · rw [wipe_in hi, wipe_in hi]
    by_cases hl' : i < σ.length
    · rw [List.getElem?_eq_getElem hl', List.getElem?_eq_getElem (by omega)]; rfl
    · rw [List.getElem?_eq_none (by omega), List.getElem?_eq_none (by omega)]
  · rw [wipe_get hi, wipe_get hi, h i hi]
section
variable {K : PySem.W.Frag} {U : Vol} {E : XS} {Z : Addr → Prop} {σ σ' : L2.St} {ρ : EnvD} {H H' : Hp} {vs : List Nat} {p : Addr} {S l l' : Addr → Prop}
/-- other values in the slots that are forgotten -/
theorem EnvOk.wiped (I : EnvOk K U Z σ ρ H) (hl : σ'.length = σ.length) (h : ∀ i, i ∉ vs → σ'[i]? = σ[i]?) : EnvOk K U Z σ' (wipeD ρ vs) H ∧ Tr U.S (Owns σ ρ) H (Owns σ' (wipeD ρ vs)) H := by
  have at_ : ∀ (j : Nat) q, OwnAt σ' (wipeD ρ vs) j q → OwnAt σ ρ j q := fun j q ⟨h1, c, h2⟩ => by
    obtain ⟨h3, h4⟩ := wipeD_get h2 fun z => nomatch z
    exact ⟨(h j h4).symm.trans h1, c, h3⟩
  have T : Tr U.S (Owns σ ρ) H (Owns σ' (wipeD ρ vs)) H := fun a o h1 h2 h3 => ⟨h3, fun ⟨j, z⟩ => h2 ⟨j, at_ j a z⟩⟩
  refine ⟨⟨by rw [hl, I.len, wipeD_length], fun j d h' => ?_, fun j c h' => ?_, fun i j q h1 h2 => I.one i j q (at_ i q h1) (at_ j q h2), I.vj, I.zt, I.zs, fun q ⟨j, z⟩ => I.oz q ⟨j, at_ j q z⟩⟩, T⟩
  · obtain ⟨h3, h4⟩ := wipeD_get h' fun z => nomatch z
    obtain ⟨v, h5, h6⟩ := I.dat j d h3
    exact ⟨v, (h j h4).trans h5, h6.mono T.vis⟩
  · obtain ⟨h3, h4⟩ := wipeD_get h' fun z => nomatch z
    obtain ⟨q, o, h5, h6, h7⟩ := I.own j c h3
    exact ⟨q, o, (h j h4).trans h5, h6, h7.mono T.vis⟩
/-- a hidden object is written -/
theorem EnvOk.writeZ {o o' : HO} (I : EnvOk K U Z σ ρ H) (hz : Z p) (hp : H p = some o) (nf : ¬ Fix o) (nf' : ¬ Fix o' := by exact id) : EnvOk K U Z σ ρ (upd H p o') := by
  have hv : VH U Z σ ρ (upd H p o') = VH U Z σ ρ H := hide_upd (.inr (.inl hz))
  refine ⟨I.len, fun i d h => ?_, fun i c h => ?_, I.one, U.stay _ H _ I.vj fun a u e z => ?_, fun a z => ?_, I.zs, I.oz⟩
  · rw [hv]; exact I.dat i d h
  · obtain ⟨q, u, h1, h2, h3⟩ := I.own i c h
    have ne : q ≠ p := fun e => (I.oz q ⟨i, h1, c, h⟩).2 (e ▸ hz)
    rw [hv]
    exact ⟨q, u, h1, by rw [upd_ne ne]; exact h2, h3⟩
  · have ne : a ≠ p := fun y => by
      subst y
      rcases z with z | z
      · exact I.zs a hz z
      · rw [hp] at e; cases e; exact nf z
    rw [upd_ne ne]; exact e
  · by_cases e : a = p
    · subst e; exact ⟨_, upd_same, nf'⟩
    · obtain ⟨u, h, f⟩ := I.zt a z
      exact ⟨u, by rw [upd_ne e]; exact h, f⟩
theorem Tr.updNew {o : HO} (t : Tr S l H l' H') (h : H p = none) : Tr S l H l' (upd H' p o) := fun a u h1 h2 h3 => by
  obtain ⟨k1, k2⟩ := t a u h1 h2 h3
  exact ⟨by rw [upd_ne (ne_of_none h3 h)]; exact k1, k2⟩

/-! ### list comprehensions -/
def xF : KX := fun _ _ => False
def lcM (g : MG) (tt : MT) (te : ME) (vs : List Nat) (k : List D → EnvD → Prop) : List D → List D → EnvD → Prop
  | [], acc, ρ => k acc (wipeD ρ vs)
  | d :: ds, acc, ρ => g d ρ fun ρ1 => tt ρ1 (fun b ρ2 => if b = true then te ρ2 (fun y ρ3 => acc.length < sizeLine ∧ lcM g tt te vs k ds (acc ++ [y]) (wipeD ρ3 vs)) xF else lcM g tt te vs k ds acc (wipeD ρ2 vs)) xF
def fLc (i : MI) (g : MG) (tt : MT) (te : ME) (vs : List Nat) : EnvD → (List D → EnvD → Prop) → KX → Prop := fun ρ k x => i ρ (fun ds ρ1 => lcM g tt te vs k ds [] (wipeD ρ1 vs)) x
/-- a target that stores into the forgotten slots alone -/
def TgIn (g : TG) (vs : List Nat) : Prop := ∀ (v : V) (σ : L2.St) (H : Hp) (Q Q' : L2.St → Hp → Prop), (∀ σ' H', σ'.length = σ.length → (∀ i, i ∉ vs → σ'[i]? = σ[i]?) → Q σ' H' → Q' σ' H') → g v σ H Q → g v σ H Q'
def TgsIn (g : TGs) (vs : List Nat) : Prop := ∀ (xs : List V) (σ : L2.St) (H : Hp) (Q Q' : L2.St → Hp → Prop), (∀ σ' H', σ'.length = σ.length → (∀ i, i ∉ vs → σ'[i]? = σ[i]?) → Q σ' H' → Q' σ' H') → g xs σ H Q → g xs σ H Q'
theorem tgIn_name {i : Nat} (h : i ∈ vs) : TgIn (gName i) vs := fun v σ H Q Q' m q => m _ _ (by simp) (fun j hj => by rw [List.getElem?_set_ne (fun e => hj (by rw [← e]; exact h))]) q
theorem tgsIn_nil : TgsIn gNil vs := fun v σ H Q Q' m q => ⟨q.1, m _ _ rfl (fun _ _ => rfl) q.2⟩
theorem tgsIn_cons {g : TG} {gs : TGs} (h1 : TgIn g vs) (h2 : TgsIn gs vs) : TgsIn (gCons g gs) vs := fun xs σ H Q Q' m ⟨v, r, e, q⟩ =>
  ⟨v, r, e, h1 v σ H _ _ (fun σ1 H1 l1 e1 q1 => h2 r σ1 H1 _ _ (fun σ2 H2 l2 e2 q2 => m σ2 H2 (l2.trans l1) (fun i hi => (e2 i hi).trans (e1 i hi)) q2) q1) q⟩
theorem tgIn_tup {gs : TGs} {n : Nat} (h : TgsIn gs vs) : TgIn (gTup K n gs) vs := fun v σ H Q Q' m ⟨a, xs, e, s, l, q⟩ => ⟨a, xs, e, s, l, h xs σ H Q Q' m q⟩
theorem xfin0 {x : KX} (h : ∀ a b, ¬ x a b) : XFinE K U (fun _ => E0) Z σ ρ H x := fun xn _ _ ρ' _ _ _ _ hx => (h xn ρ' hx).elim
theorem snd_lc {wi : TI} {mi : MI} {g : TG} {mg : MG} {tt : TT} {mt : MT} {te : TE} {me : ME} (hi : SndI K U E wi mi) (hg : SndG K U g mg) (hv : TgIn g vs) (ht : SndT K U (fun _ => E0) tt mt) (he : SndE K U (fun _ => E0) te me) :
    SndF K U E (tLc wi g tt te vs) (fLc mi mg mt me vs) := by
  intro Z σ ρ H k x Q I h q X
  refine hi Z σ ρ H _ x _ I h (fun ds ρ1 J H1 t1 I1 wd h1 => ?_) X
  obtain ⟨G, Y, wk, hG, hY⟩ := wd
  intro L0 hD
  obtain ⟨Iw, Tw⟩ := I1.wiped (σ' := wipe σ vs) (vs := vs) (wipe_length σ vs) fun i hi => wipe_get hi
  obtain ⟨Im, hm⟩ := Iw.more (o := .lst []) hD
  have nS : ¬ U.S L0 := fun z => I1.fresh hD (.inl z)
  have nZ : ¬ Z L0 := fun z => I1.fresh hD (.inr (.inl z))
  refine lc_it wk (fun n H' => ∃ ρ' acc vacc, Tr U.S (Owns σ ρ1) H1 (Owns (wipe σ vs) ρ') H' ∧ EnvOk K U (fun a => Z a ∨ a = L0) (wipe σ vs) ρ' H' ∧ H' L0 = some (.lst vacc) ∧ RepL K (VH U (fun a => Z a ∨ a = L0) (wipe σ vs) ρ' H') vacc acc ∧ lcM mg mt me vs k (ds.drop n) acc ρ')
    ⟨_, [], [], Tw.updNew hD, Im, upd_same, .nil, h1⟩ (fun n H' _ ⟨ρ', acc, vacc, T, I', _⟩ => hG H' (fun a o e => ?_) ⟨_, I'.vj⟩) ?_ ?_
  · obtain ⟨z, e⟩ := hide_some e
    exact (T a o (fun y => z (.inl y)) (fun y => z (.inr (.inr y))) e).1
  · rintro n x' H' H2 hn ⟨ρ', acc, vacc, T, I', hDl, racc, hl⟩ hy
    have hB : Same (VH U Z σ ρ1 H1) (VH U (fun a => Z a ∨ a = L0) (wipe σ vs) ρ' H') := fun a o e => by
      obtain ⟨z, e⟩ := hide_some e
      obtain ⟨k1, k2⟩ := T a o (fun y => z (.inl y)) (fun y => z (.inr (.inr y))) e
      have nh : ¬ Hid U (fun a => Z a ∨ a = L0) (wipe σ vs) ρ' a := by
        rintro (y | (y | y) | y)
        · exact z (.inl y)
        · exact z (.inr (.inl y))
        · exact ne_of_none e hD y
        · exact k2 y
      exact (hide_no nh).trans k1
    obtain ⟨e2, d, hd, rd⟩ := hY n H' x' H2 hn (fun a o e => hide_sub a o (hB a o e)) ⟨_, I'.vj⟩ hy
    have I2 := I'.same e2
    have T2 : Tr U.S (Owns σ ρ1) H1 (Owns (wipe σ vs) ρ') H2 := T.trans (.of_same e2)
    have racc2 := racc.mono (hide_same e2)
    rw [List.drop_eq_getElem_cons hn] at hl
    have ed : ds[n] = d := by
      rw [List.getElem?_eq_getElem hn] at hd
      exact Option.some.inj hd
    rw [ed] at hl
    have step := hg _ (wipe σ vs) ρ' H2 x' d _ (fun σ3 H3 => ∃ ρ3, Tr U.S (Owns (wipe σ vs) ρ') H2 (Owns σ3 ρ3) H3 ∧ EnvOk K U (fun a => Z a ∨ a = L0) σ3 ρ3 H3 ∧ _) I2 (rd _ (fun a ha => I'.hidden ha) hB) hl fun σ3 ρ3 H3 T3 I3 h3 => ⟨ρ3, T3, I3, h3⟩
    refine hv x' (wipe σ vs) H2 _ _ (fun σ3 H3 l3 e3 ⟨ρ3, T3, I3, h3⟩ => ?_) step
    have ew : wipe σ3 vs = wipe σ vs := by
      rw [wipe_eq l3 e3]
      exact wipe_eq (wipe_length σ vs) fun i hi => wipe_get hi
    refine ⟨ew, ht _ σ3 ρ3 H3 _ xF _ I3 h3 (fun b ρ4 H4 T4 I4 h4 => ?_) (xfin0 fun _ _ z => z)⟩
    have T24 := T3.trans T4
    have back : ∀ {ρ5 : EnvD} {H5 : Hp}, EnvOk K U (fun a => Z a ∨ a = L0) σ3 ρ5 H5 → Tr U.S (Owns (wipe σ vs) ρ') H2 (Owns σ3 ρ5) H5 → EnvOk K U (fun a => Z a ∨ a = L0) (wipe σ vs) (wipeD ρ5 vs) H5 ∧ Tr U.S (Owns (wipe σ vs) ρ') H2 (Owns (wipe σ vs) (wipeD ρ5 vs)) H5 := fun {ρ5 H5} I5 T5 => by
      obtain ⟨a1, a2⟩ := I5.wiped (σ' := wipe σ vs) (vs := vs) l3.symm fun i hi => (e3 i hi).symm
      exact ⟨a1, T5.trans a2⟩
    have dz : (fun a => Z a ∨ a = L0) L0 := .inr rfl
    have hD2 : H2 L0 = some (.lst vacc) := e2 _ _ hDl
    have keepD : ∀ {l : Addr → Prop} {H5 : Hp}, Tr U.S (Owns (wipe σ vs) ρ') H2 l H5 → H5 L0 = some (.lst vacc) := fun t => (t L0 _ nS (fun z => (I2.oz L0 z).2 dz) hD2).1
    cases b with
    | false =>
      obtain ⟨I5, T5⟩ := back I4 T24
      exact ⟨_, acc, vacc, T2.trans T5, I5, keepD T5, racc2.mono T5.vis, h4⟩
    | true =>
      refine he _ σ3 ρ4 H4 _ xF _ I4 h4 (fun y ρ5 v5 H5 T5 I5 r5 h5 => ?_) (xfin0 fun _ _ z => z)
      obtain ⟨I6, T6⟩ := back I5 (T24.trans T5)
      have hD5 := keepD T6
      have hvz : ∀ {o : HO}, VH U (fun a => Z a ∨ a = L0) (wipe σ vs) (wipeD ρ5 vs) (upd H5 L0 o) = VH U (fun a => Z a ∨ a = L0) (wipe σ vs) (wipeD ρ5 vs) H5 := fun {o} => hide_upd (.inr (.inl dz))
      have r6 : Rep K (VH U (fun a => Z a ∨ a = L0) (wipe σ vs) (wipeD ρ5 vs) H5) v5 y := r5.mono (I5.wiped (σ' := wipe σ vs) (vs := vs) l3.symm fun i hi => (e3 i hi).symm).2.vis
      have racc6 := racc2.mono T6.vis
      refine ⟨vacc, hD5, by rw [racc.len]; exact h5.1, _, acc ++ [y], vacc ++ [v5], (T2.trans T6).updNew hD, I6.writeZ dz hD5 (fun z => z), upd_same, ?_, h5.2⟩
      rw [hvz]
      exact racc6.append (.one r6)
  · rintro H' ⟨ρ', acc, vacc, T, I', hDl, racc, hl⟩
    rw [List.drop_length] at hl
    obtain ⟨I6, T6⟩ := I'.wiped (σ' := σ) (vs := vs) (wipe_length σ vs).symm fun i hi => (wipe_get hi).symm
    refine q acc _ L0 vacc H' (t1.trans (T.trans T6)) I6 nS nZ hDl (fun o ho e => ?_) (racc.mono T6.vis) hl
    have := (t1 L0 o nS ho e).1
    rw [hD] at this; cases this
end
/-- what a comprehension's block needs -/
structure BA where
  s : Shared
  H : Hp
  C : Addr
  cl : List (Str × Addr)
  fp : List Addr
def blkF {ι : Type} (Xs : ι → Cx) (scope : Scope) : ι × BA → Cx := fun q => (Xs q.1).blk q.2.s q.2.H scope (compEnvC scope q.2.cl q.2.C (Xs q.1).env) q.2.fp
section
variable {ι : Type} {Xs : ι → Cx} {P : Program} {w : World} {K : PySem.W.Frag} {mg : Str → Option Value} {base : Heap} {U : Vol} {E : XS} {lv : Nat} {pos p tpos pos' : Pos} {a b c e elt tg iter : Expr} {scope : Scope} {ma mb m me : ME} {mt : MT} {mgt : MG} {mi : MI} {x : Str} {i : Nat} {vs : List Nat}
theorem Fam.blk (F : Fam Xs P w K mg base E lv) (scope : Scope) : Fam (blkF Xs scope) P w K mg base (fun _ => E0) lv where
  p := fun q => F.p q.1
  w := fun q => F.w q.1
  k := fun q => F.k q.1
  mg := fun q => F.mg q.1
  base := fun q => F.base q.1
  calm := fun q => F.calm q.1
  nd := fun q => F.nd q.1
  room := fun q => F.room q.1
  pass := fun q σ pins H s e s' I h => passL pins σ H s e s' I h
  own := fun q => PassesOwn.never
  tk := fun q => LamX.takes0
/-- the tests of a comprehension -/
def DTs (Xs : ι → Cx) (K : PySem.W.Frag) (U : Vol) (E : XS) (ifs : List Expr) (m : MT) : Prop := ∃ t, (∀ i, PTs (Xs i) ifs t) ∧ SndT K U E t m
def tYesM : MT := fun ρ k _ => k true ρ
theorem dts_nil : DTs Xs K U E [] tYesM := ⟨_, fun _ => pts_nil, fun Z σ ρ H k x Q I h q _ => q true ρ H .refl I h⟩
theorem dts_one (h : DT Xs K U E c mt) : DTs Xs K U E [c] mt := let ⟨_, h, s⟩ := h; ⟨_, fun j => pts_one (h j), s⟩
/-- a target of a comprehension -/
def DGc (Xs : ι → Cx) (K : PySem.W.Frag) (U : Vol) (vs : List Nat) (e : Expr) (m : MG) : Prop := ∃ t, (∀ i, PG (Xs i) e t) ∧ SndG K U t m ∧ TgIn t vs
def DGcs (Xs : ι → Cx) (K : PySem.W.Frag) (U : Vol) (vs : List Nat) (es : List Expr) (m : MGs) : Prop := ∃ t, (∀ i, PGs (Xs i) es t) ∧ SndGs K U t m ∧ TgsIn t vs
theorem dgc_name (F : Fam Xs P w K mg base E lv) (h : i ∈ vs) (hi : ∀ j, (Xs j).N[i]? = some x := by intro _; rfl) (hx : ∀ j, Loc (Xs j).env.scope x := by intro _; first | exact Or.inl rfl | exact Or.inr rfl) (hf : ∀ j, (Xs j).fn x = true ∨ (Xs j).env.scope.names.lookup x = some .local := by intro _; first | exact .inl rfl | exact .inr rfl) : DGc Xs K U vs (.Name x pos) (gNm i) :=
  ⟨_, fun j => pg_name (F.nd j) (hi j) (hx j) (hf j), sndG_name, tgIn_name h⟩
theorem dgcs_nil : DGcs Xs K U vs [] gNl := ⟨_, fun _ => pgs_nil, sndGs_nil, tgsIn_nil⟩
theorem dgcs_cons {es : List Expr} {ms : MGs} (h1 : DGc Xs K U vs e mgt) (h2 : DGcs Xs K U vs es ms) (hs : ∀ j, (assignEach (e :: es) (Xs j).env).map (·.2) = assign e (Xs j).env :: (assignEach es (Xs j).env).map (·.2) := by intro _; rfl) : DGcs Xs K U vs (e :: es) (gCs mgt ms) :=
  let ⟨_, h1, s1, v1⟩ := h1; let ⟨_, h2, s2, v2⟩ := h2; ⟨_, fun j => pgs_cons (h1 j) (h2 j) (hs j), sndGs_cons s1 s2, tgsIn_cons v1 v2⟩
theorem dgc_tup (F : Fam Xs P w K mg base E lv) {es : List Expr} {ms : MGs} {k n : Nat} (h : DGcs Xs K U vs es ms) (hn : ∀ j, (assignEach es (Xs j).env).length = n := by intro _; rfl) (hst : ∀ j, (assignEach es (Xs j).env).findIdx? (·.1) = none := by intro _; rfl) : DGc Xs K U vs (.Tuple es k pos) (gTp ms n) := by
  obtain ⟨t, h, s, v⟩ := h
  refine ⟨_, fun j => ?_, sndG_tup s, tgIn_tup v⟩
  have := pg_tup (k := k) (pos := pos) (F.calm j) (h j) (hn j) (hst j)
  rw [F.k j] at this
  exact this
theorem df_lc (F : Fam Xs P w K mg base E lv) (own : List (Str × Nat)) {ifs : List Expr} (hi : DI Xs K U E tg iter mi) (ok : ∀ j, blkC (Xs j).N (Xs j).env.scope scope own = true) (hg : DGc (blkF Xs scope) K U (own.map (·.2)) tg mgt) (ht : DTs (blkF Xs scope) K U (fun _ => E0) ifs mt) (he : DE (blkF Xs scope) K U (fun _ => E0) elt me)
    (hs : ∀ j x, foldedSetIterable iter (Xs j).env x = pure x := by intro _ _; rfl) : DF Xs K U E (.ListComp elt [⟨tg, iter, ifs, 0⟩] scope pos) (fLc mi mgt mt me (own.map (·.2))) := by
  obtain ⟨wi, hi, si⟩ := hi
  obtain ⟨g, hg, sg, vg⟩ := hg
  obtain ⟨tt, ht, st⟩ := ht
  obtain ⟨te, he, se⟩ := he
  exact ⟨_, fun j => pe_lc (F.calm j) (F.nd j) (hi j) (blkOk_by (ok j)) (fun s H C cl fp => hg (j, ⟨s, H, C, cl, fp⟩)) (fun s H C cl fp => ht (j, ⟨s, H, C, cl, fp⟩)) (fun s H C cl fp => he (j, ⟨s, H, C, cl, fp⟩)) (hs j), snd_lc si sg vg st se⟩
/-- y = [..] where the model stores within the block -/
theorem ds_lcF (F : Fam Xs P w K mg base E lv) (i : Nat) (own : List (Str × Nat)) {ifs : List Expr} {py spos : Pos} (hi : DI Xs K U E tg iter mi) (ok : ∀ j, blkC (Xs j).N (Xs j).env.scope scope own = true) (hg : DGc (blkF Xs scope) K U (own.map (·.2)) tg mgt) (ht : DTs (blkF Xs scope) K U (fun _ => E0) ifs mt) (he : DE (blkF Xs scope) K U (fun _ => E0) elt me)
    (hsw : ∀ j, swapsWith (.ListComp elt [⟨tg, iter, ifs, 0⟩] scope pos) (some (.Name x py)) spos.line (Xs j).env = pure true) (hN : ∀ j, (Xs j).N[i]? = some x := by intro _; rfl) (hyl : ∀ j, (Xs j).env.scope.names.lookup x = some .local := by intro _; rfl)
    (hs : ∀ j x, foldedSetIterable iter (Xs j).env x = pure x := by intro _ _; rfl) : ∃ t, (∀ j, PS (Xs j) (.Assign [.Name x py] (.ListComp elt [⟨tg, iter, ifs, 0⟩] scope pos) spos) (tAsg t (gName i))) ∧ SndF K U E t (fLc mi mgt mt me (own.map (·.2))) := by
  obtain ⟨wi, hi, si⟩ := hi
  obtain ⟨g, hg, sg, vg⟩ := hg
  obtain ⟨tt, ht, st⟩ := ht
  obtain ⟨te, he, se⟩ := he
  exact ⟨_, fun j => ps_setLc (F.calm j) (F.nd j) (hN j) (hyl j) (hsw j) (hi j) (blkOk_by (ok j)) (fun s H C cl fp => hg (j, ⟨s, H, C, cl, fp⟩)) (fun s H C cl fp => ht (j, ⟨s, H, C, cl, fp⟩)) (fun s H C cl fp => he (j, ⟨s, H, C, cl, fp⟩)) (hs j), snd_lc si sg vg st se⟩
theorem ds_lc {f : EnvD → (List D → EnvD → Prop) → KX → Prop} {st : Stmt} (h : ∃ t, (∀ j, PS (Xs j) st (tAsg t (gName i))) ∧ SndF K U E t f) : DS Xs K U E st (sAsg (eF f) (gNm i)) := let ⟨_, h, s⟩ := h; ⟨_, h, snd_asg (snd_F s) sndG_name⟩
theorem ds_lcOwn {f : EnvD → (List D → EnvD → Prop) → KX → Prop} {st : Stmt} (h : ∃ t, (∀ j, PS (Xs j) st (tAsg t (gName i))) ∧ SndF K U E t f) : DS Xs K U E st (sOwn i f) := let ⟨_, h, s⟩ := h; ⟨_, h, snd_own s⟩
end

/-! ### a def's promise, by its body -/
def startD (N : List Str) (ds : List D) (n : Nat) : EnvD := ⟨ds.map Slot.dat ++ List.replicate (N.length - ds.length) Slot.no, n⟩
theorem start_ok {K : PySem.W.Frag} {U : Vol} {Z : Addr → Prop} {H : Hp} {N : List Str} {vs : List V} {ds : List D} (r : RepL K (hide (fun a => U.S a ∨ Z a) H) vs ds) {n : Nat} (j : U.J n H) (zt : ∀ a, Z a → ∃ o, H a = some o ∧ ¬ Fix o) (zs : ∀ a, Z a → ¬ U.S a) : EnvOk K U Z (L2.start N vs) (startD N ds n) H ∧ (∀ p, ¬ Owns (L2.start N vs) (startD N ds n) p) := by
  have no : ∀ (i : Nat) c, (startD N ds n).l[i]? ≠ some (.own c) := fun i c h => by
    unfold startD at h
    rw [List.getElem?_append] at h
    split at h
    · rw [List.getElem?_map] at h
      cases e : ds[i]? with
      | none => rw [e] at h; cases h
      | some d => rw [e] at h; cases h
    · rw [List.getElem?_replicate] at h
      split at h <;> cases h
  have nO : ∀ p, ¬ Owns (L2.start N vs) (startD N ds n) p := fun p ⟨i, _, c, h⟩ => no i c h
  have hv : Same (hide (fun a => U.S a ∨ Z a) H) (VH U Z (L2.start N vs) (startD N ds n) H) := hide_less fun a => by
    rintro (q | q | q)
    · exact .inl q
    · exact .inr q
    · exact (nO a q).elim
  refine ⟨⟨by unfold L2.start startD; simp [r.len], fun i d h => ?_, fun i c h => (no i c h).elim, fun i j p h => (nO p ⟨i, h⟩).elim, j, zt, zs, fun p h => (nO p h).elim⟩, nO⟩
  unfold startD at h
  rw [List.getElem?_append] at h
  split at h
  · rename_i hi
    rw [List.length_map] at hi
    rw [List.getElem?_map, List.getElem?_eq_getElem hi] at h
    cases h
    obtain ⟨v, h1, h2⟩ := r.get' (List.getElem?_eq_getElem hi)
    refine ⟨v, ?_, h2.mono hv⟩
    unfold L2.start
    rw [List.getElem?_append_left (by rw [List.length_map, r.len]; exact hi), List.getElem?_map, h1]; rfl
  · rw [List.getElem?_replicate] at h
    split at h <;> cases h
/-- the context of a def's body, by what may vary -/
structure FA where
  cdv : Value
  A : Around
  outer : List Env
  s : Shared
  H : Hp
section
variable {P : Program} {w : World} {K : PySem.W.Frag} {mg : Str → Option Value} {base : Heap} {x qual : Str} {st : Stmt} {f : Addr} {fd : FuncData} {N ps : List Str} {n : Nat} {sf : DF0}
/-- the ends of a def's body -/
def MKf (k : D → Nat → Prop) (x : Xn → Nat → Prop) : MK := ⟨fun ρ => k .non ρ.c, fun d ρ => k d ρ.c, fun _ => False, fun _ => False, fun xn ρ => x xn ρ.c⟩
theorem fn_ok (F : Fun K x qual st f fd) (S : FnScope N ps (defScope st)) (len : ∀ U c ds k x, sf U c ds k x → ds.length = ps.length)
    (body : ∀ (U : Vol) (E : XK) (cdv : Value) (A : Around) (outer : List Env) (s : Shared) (H : Hp), Fam (fun _ : Unit => cxOf (L2.CX P w) P w K mg base N qual (defScope st) f cdv A outer s H E) P w K mg base (fun _ => E) n →
      ∃ ms, DSs (fun _ : Unit => cxOf (L2.CX P w) P w K mg base N qual (defScope st) f cdv A outer s H E) K U (fun _ => E) (defBody st) ms ∧
        ∀ c ds k x, sf U c ds k x → ms (MKf k x) (startD N ds c)) : FnOk P w K mg base (L2.CX P w) (n + 1) f fd ps (SpD K sf) := by
  refine F.okX S (fun vs H Q E h => ?_) (fun cdv A outer s H vs Q E hr h => ?_)
  · obtain ⟨U, c, Z, ds, k, x, _, _, _, r, h, _⟩ := h
    rw [r.len]; exact len U c ds k x h
  · obtain ⟨U, c, Z, ds, k, x, j, zt, zs, r, h, q, qx⟩ := h
    obtain ⟨ms, ⟨t, ht, sn⟩, hm⟩ := body U E cdv A outer s H ⟨fun _ => rfl, fun _ => rfl, fun _ => rfl, fun _ => rfl, fun _ => rfl, fun _ => rfl, fun _ => S.nd, fun _ => hr, fun _ σ => fun pins H' s' e s'' I c => passes_call (takes_of rfl rfl rfl rfl) (fun _ _ _ _ h => h) pins σ H' s' e s'' I c, fun _ => passes_of rfl, fun _ => takes_of rfl rfl rfl rfl⟩
    obtain ⟨I, nO⟩ := start_ok (N := N) r j zt zs
    refine ⟨t, ht (), sn Z _ _ H _ _ I (hm c ds k x h) ⟨fun σ' ρ' H' T I' h' => ?_, fun d σ' ρ' v H' T I' r' h' => ?_, fun σ' ρ' H' T I' h' => h'.elim, fun σ' ρ' H' T I' h' => h'.elim, fun xn cls dd σ' ρ' H' T I' hx h' => ?_⟩⟩
    all_goals have T' : Tr U.S (fun _ => False) H (fun _ => False) H' := fun a o h1 _ h3 => ⟨(T a o h1 (nO a) h3).1, id⟩
    all_goals have hv : Same (VH U Z σ' ρ' H') (hide (fun a => U.S a ∨ Z a) H') := hide_less fun a y => y.elim (fun y => .inl y) fun y => .inr (.inl y)
    · exact q .non .non H' _ T' I'.vj (by simp only [Rep]) h'
    · exact q d v H' _ T' I'.vj (r'.mono hv) h'
    · exact qx xn cls dd H' _ T' I'.vj (hx.mono hv fun _ _ e => e) h'
end
end DL

set_option maxRecDepth 100000
set_option maxHeartbeats 1000000
/-! DL11: raise, op=, own lists written, keywords, own exceptions asked, globals. -/
namespace DL
open PySem PySem.Spec PyProof.Rows L2

/-! ### raise -/
abbrev bmVE : List Value := [.type "ValueError", .type "Exception", .type "BaseException", .type "object"]
/-- an own exception class -/
structure ExA (K : PySem.W.Frag) (mg : Str → Option Value) (x : Str) (C : Addr) : Prop where
  q : PySem.W.excIn K C bmVE "ValueError.__new__" = true
  m : mg x = some (.ref C)
  k : PySem.W.keepIn K (.ref C) = true
  b : PySem.W.subIn K (.ref C) (.type "BaseException") = some true
  t : PySem.W.typeIn K (.ref C) = some (.type "type")
def sRaise (C : Addr) : MS := fun k ρ => k.xn (.own C) ρ
section
variable {ι : Type} {Xs : ι → Cx} {P : Program} {w : World} {K : PySem.W.Frag} {mg : Str → Option Value} {base : Heap} {U : Vol} {E : XS} {lv : Nat} {pos p p2 tpos pos' : Pos} {a b c e tg iter : Expr} {st : Stmt} {sts body : List Stmt} {ma mb m : ME} {mA : MA} {s1 s2 : MS} {mt : MT} {mgt : MG} {mi : MI} {x : Str} {i : Nat}
theorem ds_raise (F : Fam Xs P w K mg base E lv) {C : Addr} {m : Str} {jj : Nat} (X : ExA K mg x C) (hg : ∀ j, Gl (Xs j) x := by intro _; rfl) (hdb : (x == ("__debug__" : Str)) = false := by decide) : DS Xs K U E (.Raise (some (.Call (.Name x p) [.Constant (.str m) jj p2] [] pos)) none pos') (sRaise C) := by
  refine ⟨_, fun j => ps_raise (F.calm j) (F.tk j) (pmk_own PySem.F.excBase_ValueError (by rw [F.k j]; exact X.q) (by rw [F.mg j]; exact X.m) (by rw [F.k j]; exact X.k) (raises_own (by rw [F.k j]; exact X.b) (by rw [F.k j]; exact X.t)) (hg j) hdb), ?_⟩
  intro Z σ ρ H k Dn I h f
  exact f.xn (.own C) _ _ σ ρ H .refl I (And.intro rfl rfl) h

/-! ### op= -/
def sAug (i : Nat) (f : D → D → (D → Prop) → Prop) (m : ME) : MS := fun k ρ => match ρ.l[i]? with
  | some (.dat d) => m ρ (fun d2 ρ1 => f d d2 fun d3 => k.nx (ρ1.st i (.dat d3))) k.xn
  | _ => False
theorem snd_aug {te : TE} {r : R2} {f : D → D → (D → Prop) → Prop} (h : SndE K U E te m) (hs : OpS K r f) : SndS K U E (tAug i te r) (sAug i f m) := by
  intro Z σ ρ H k Dn I h0 fn
  unfold sAug at h0
  split at h0
  · rename_i d e
    obtain ⟨v, e1, r1⟩ := I.dat i d e
    refine ⟨v, e1, h Z σ ρ H _ _ _ I h0 (fun d2 ρ1 v2 H1 t1 I1 r2 h1 => ?_) fn.xn.e⟩
    refine hs _ H1 v v2 d d2 _ _ (fun p hp => I1.hidden hp) (r1.mono t1.vis) r2 h1 fun d3 u H2 e2 r3 h3 => ?_
    obtain ⟨I3, T3⟩ := (I1.same e2).put (i := i) r3
    exact fn.nx _ _ H2 ((t1.trans (.of_same e2)).trans T3) I3 h3
  · exact h0.elim
def addID : D → D → (D → Prop) → Prop
  | .int i, .int j, k => k (.int (i + j))
  | .str a, .str b, k => a.length + b.length ≤ sizeLine ∧ k (.str (a ++ b))
  | _, _, _ => False
theorem opS_addI : OpS K (fun x y H Q => rI0 (fun i j => .int (i + j)) x y H Q ∨ ∃ i j, x = .str i ∧ y = .str j ∧ i.length + j.length ≤ sizeLine ∧ Q (.str (i ++ j)) H) addID := by
  intro G H v w a b k Q g r1 r2 h q
  unfold addID at h
  split at h
  · simp only [Rep] at r1 r2
    exact .inl ⟨_, _, r1, r2, q _ _ H (Same.refl H) (by simp only [Rep]) h⟩
  · simp only [Rep] at r1 r2
    exact .inr ⟨_, _, r1, r2, h.1, q _ _ H (Same.refl H) (by simp only [Rep]) h.2⟩
  · exact h.elim
theorem ds_aug (F : Fam Xs P w K mg base E lv) (i : Nat) {op : Operator} {r : R2} {f : D → D → (D → Prop) → Prop} (ho : ∀ j, PIp (Xs j) op r) (hs : OpS K r f) (h : DE Xs K U E e m) (hi : ∀ j, (Xs j).N[i]? = some x := by intro _; rfl) (hx : ∀ j, Loc (Xs j).env.scope x := by intro _; first | exact Or.inl rfl | exact Or.inr rfl) (hf : ∀ j, (Xs j).fn x = true ∨ (Xs j).env.scope.names.lookup x = some .local := by intro _; first | exact .inl rfl | exact .inr rfl) : DS Xs K U E (.AugAssign (.Name x pos') op e pos) (sAug i f m) := by
  obtain ⟨t, h, s⟩ := h
  exact ⟨_, fun j => ps_aug (F.nd j) (hi j) (hx j) (h j) (ho j) (hf j), snd_aug s hs⟩
theorem ds_augAdd (F : Fam Xs P w K mg base E lv) (i : Nat) (h : DE Xs K U E e m) (hi : ∀ j, (Xs j).N[i]? = some x := by intro _; rfl) (hx : ∀ j, Loc (Xs j).env.scope x := by intro _; first | exact Or.inl rfl | exact Or.inr rfl) (hf : ∀ j, (Xs j).fn x = true ∨ (Xs j).env.scope.names.lookup x = some .local := by intro _; first | exact .inl rfl | exact .inr rfl) : DS Xs K U E (.AugAssign (.Name x pos') .Add e pos) (sAug i addID m) :=
  ds_aug F i (fun j => OpR.or (X := Xs j) iop_add iop_add_str) opS_addI h hi hx hf
theorem ds_augSub (F : Fam Xs P w K mg base E lv) (i : Nat) (h : DE Xs K U E e m) (hi : ∀ j, (Xs j).N[i]? = some x := by intro _; rfl) (hx : ∀ j, Loc (Xs j).env.scope x := by intro _; first | exact Or.inl rfl | exact Or.inr rfl) (hf : ∀ j, (Xs j).fn x = true ∨ (Xs j).env.scope.names.lookup x = some .local := by intro _; first | exact .inl rfl | exact .inr rfl) : DS Xs K U E (.AugAssign (.Name x pos') .Sub e pos) (sAug i subD m) :=
  ds_aug F i (fun j => iop_sub (X := Xs j)) opS_sub h hi hx hf

/-! ### own lists -/
def eApp (i : Nat) (m : ME) : ME := fun ρ k x => m ρ (fun d ρ1 => match ρ1.l[i]? with
  | some (.own (.lst ds)) => ds.length < sizeLine ∧ k .non (ρ1.st i (.own (.lst (ds ++ [d]))))
  | _ => False) x
theorem own_slot {Z : Addr → Prop} {σ : L2.St} {ρ ρ' : EnvD} {H H' : Hp} {c c' : MC} (I : EnvOk K U Z σ ρ H) (I' : EnvOk K U Z σ ρ' H') (h : ρ.l[i]? = some (.own c)) (h' : ρ'.l[i]? = some (.own c')) : ∃ p o o', σ[i]? = some (some (.ref p)) ∧ H p = some o ∧ RepM K (VH U Z σ ρ H) o c ∧ H' p = some o' ∧ RepM K (VH U Z σ ρ' H') o' c' := by
  obtain ⟨p, o, h1, h2, h3⟩ := I.own i c h
  obtain ⟨q, o', g1, g2, g3⟩ := I'.own i c' h'
  rw [h1] at g1; cases g1
  exact ⟨p, o, o', h1, h2, h3, g2, g3⟩
theorem repM_lst {H : Hp} {o : HO} {ds : List D} (r : RepM K H o (.lst ds)) : ∃ vs, o = .lst vs ∧ RepL K H vs ds := by
  cases r with
  | lst h => exact ⟨_, rfl, h⟩
/-- xs.append(e), xs an own list; the list is read before e, so it must be own there too -/
def eAppM (i : Nat) (m : ME) : ME := fun ρ k x => (∃ c, ρ.l[i]? = some (.own (.lst c))) ∧ eApp i m ρ k x
theorem snd_app {te : TE} (h : SndE K U E te m) : SndE K U E (tBM K "list" rAppend (tVar i) (tCons te tNil)) (eAppM i m) := by
  intro Z σ ρ H k x Q I h0 q X
  obtain ⟨⟨c, hc⟩, h0⟩ := h0
  obtain ⟨p, o, h1, h2, h3⟩ := I.own i _ hc
  obtain ⟨vs, rfl, _⟩ := repM_lst h3
  refine ⟨.ref p, h1, .inl ⟨rfl, vs, SqL.of h2⟩, ?_⟩
  refine h Z σ ρ H _ x _ I h0 (fun d ρ1 v1 H1 t1 I1 r1 h4 => ?_) X
  split at h4
  · rename_i ds e
    obtain ⟨p', _, o', g1, _, _, g2, g3⟩ := own_slot I I1 hc e
    rw [h1] at g1; cases g1
    obtain ⟨vs', rfl, g4⟩ := repM_lst g3
    obtain ⟨I2, T2⟩ := I1.write (o := .lst (vs' ++ [v1])) e h1 (.lst (g4.append (.one r1)))
    exact ⟨p, vs', v1, rfl, rfl, g2, by rw [g4.len]; exact h4.1, q _ _ _ _ (t1.trans T2) I2 (by simp only [Rep]) h4.2⟩
  · exact h4.elim
theorem de_app (i : Nat) {apos cpos npos : Pos} (h : DE Xs K U E e m) (F : Fam Xs P w K mg base E lv) (hN : ∀ j, (Xs j).N[i]? = some x := by intro _; rfl) (hv : ∀ j, Vis (Xs j).env.scope x := by intro _; first | exact Or.inl rfl | exact Or.inr (Or.inl rfl) | exact Or.inr (Or.inr rfl))
    (hbase : ∀ j, attributeBase (.Name x npos) "append" (Xs j).env (eval (.Name x npos) (Xs j).env) = eval (.Name x npos) (Xs j).env := by intro _; rfl)
    (hfew : ∀ j, ((backTo cpos (starEach [e] (Xs j).env)).all (fun x => !x.1) && (backToKw cpos (keywordEach [] (Xs j).env)).all (fun x => x.1.isSome) && decide ([e].length + ([] : List Keyword).length + (if ([] : List Keyword).isEmpty then 0 else 1) < 30)) = true := by intro _; rfl)
    (hline : (apos.endLine == cpos.line) = true := by rfl) (hs : ∀ j, starEach [e] (Xs j).env = (false, eval e (Xs j).env) :: starEach [] (Xs j).env := by intro _; rfl) (hplain : ∀ j, (backTo cpos (starEach [] (Xs j).env)).any (·.1) = false := by intro _; rfl)
    (hd : (x == ("__debug__" : Str)) = false := by decide) (hcd : (x == ("__classdict__" : Str)) = false := by decide) : DE Xs K U E (.Call (.Attribute (.Name x npos) "append" apos) [e] [] cpos) (eAppM i m) := by
  obtain ⟨t, h, s⟩ := h
  refine ⟨_, fun j => ?_, snd_app s⟩
  have hp := pe_bm PySem.F.plainAttrs_list PySem.F.slot_list_append PySem.F.type_list_append (mt_append (X := Xs j)) (pe_var (pos := npos) (hN j) (hv j) hd hcd) (pa_cons (h j) pa_nil (hs j)) (hbase j) (hfew j) hline (hs j) (hplain j)
  rw [F.k j] at hp
  exact hp

/-! ### keywords alone -/
def DK (Xs : ι → Cx) (K : PySem.W.Frag) (U : Vol) (E : XS) (kws : List Keyword) (m : MA) : Prop := ∃ t, (∀ i, PK (Xs i) kws t) ∧ SndA K U E t m
variable {kpos : Pos} {nm : Option Str} {kws : List Keyword}
theorem dk_nil : DK Xs K U E [] aNil := ⟨_, fun _ => pk_nil, snd_nil⟩
theorem dk_cons (h : DE Xs K U E e m) (hr : DK Xs K U E kws mA) : DK Xs K U E (⟨nm, e, kpos⟩ :: kws) (aCons m mA) := let ⟨_, h, s⟩ := h; let ⟨_, hr, sr⟩ := hr; ⟨_, fun j => pk_cons (h j) (hr j), snd_cons s sr⟩
/-- f(k = v, ..) -/
theorem pe_callKW0 {X : Cx} {CX : CXT} {k : Nat} {f : Addr} {fd : FuncData} {ps ks : List Str} {sp : Sp} {E : L2.St → XK} {g : List Value → List Value → List Value} {gV : List V → List V → List V} {tk : TA} (F : FnOk X.prog X.w X.K X.mg X.base CX k f fd ps sp) (hr : Room k X.A) (hg : Gl X x) (hm : X.mg x = some (.ref f)) (hk : PySem.W.keepIn X.K (.ref f) = true) (hb : KBinds X.K fd ps ks g gV) (hx : ∀ σ, PassesAt CX X σ (E σ)) (hkw : PK X kws tk)
    (hall : (backToKw pos (keywordEach kws X.env)).all (·.1.isSome) = true) (hks : (backToKw pos (keywordEach kws X.env)).filterMap (·.1) = ks) (hdb : (x == ("__debug__" : Str)) = false)
    (hpl : ((backTo pos (starEach [] X.env)).any (·.1) || (backToKw pos (keywordEach kws X.env)).any (·.1.isNone)) = false) :
    PE X (.Call (.Name x p) [] kws pos) (fun σ H Q => tk σ H fun zs H2 => sp (gV [] zs) H2 Q (E σ)) := by
  refine ⟨fun pins s σ H Q I h => ?_⟩
  refine wpAny_Call_Name_kw (ld_glob I hg hm ?_ hdb)
  refine PySem.W.callWith_KW0 (h₀ := X.base) I.ok.mod.kin hk hall ?_ hpl
  refine thn (hkw.run pos pins s σ H _ I h) fun ws s2 ⟨zs, H2, I2, rz, q2⟩ => ⟨I2.kIn, ?_⟩
  rw [hks]
  have r2 := hb.rel .nil rz
  have hl : (g [] ws).length = ps.length := by rw [← r2.length]; exact F.len _ _ _ _ q2
  refine wpAny_call (codeAny_mono (F.run X.A X.stack s2 H2 ⟨[], ks.zip ws⟩ (g [] ws) (gV [] zs) Q (E σ) hr I2.env0 (hb.to s2 [] ws I2.kIn hl) r2 q2) fun r s' hq => ?_)
  cases r with
  | error e => exact hx σ pins H2 s2 e s' I2 hq
  | ok fl =>
    cases fl with
    | ret u => exact I2.after hq
    | next => exact False.elim hq
    | brk => exact False.elim hq
    | cont => exact False.elim hq
/-- a def of the text, called by keywords alone; gD: the values in the parameters' order -/
structure FnAtK (P : Program) (w : World) (K : PySem.W.Frag) (mg : Str → Option Value) (base : Heap) (lv : Nat) (x : Str) (ps ks : List Str) (gV : List V → List V → List V) (f : DF0) : Prop where
  at_ : ∃ (a : Addr) (fd : FuncData) (j : Nat) (g : List Value → List Value → List Value), FnOk P w K mg base (L2.CX P w) j a fd ps (SpD K f) ∧ j ≤ lv ∧ mg x = some (.ref a) ∧ PySem.W.keepIn K (.ref a) = true ∧ KBinds K fd ps ks g gV
def eCallKw (f : Nat → List D → (D → Nat → Prop) → (Xn → Nat → Prop) → Prop) (gD : List D → List D) (m : MA) : ME := fun ρ k x => m ρ (fun ds ρ1 => f ρ1.c (gD ds) (fun d n => k d (ρ1.at n)) (fun xn n => x xn (ρ1.at n))) x
theorem de_callKw (F : Fam Xs P w K mg base E lv) {l : Nat} {ps ks : List Str} {f : DF0} {gV : List V → List V → List V} (gD : List D → List D) (hgD : ∀ (H : Hp) (vs : List V) (ds : List D), RepL K H vs ds → RepL K H (gV [] vs) (gD ds)) (C : FnAtK P w K mg base l x ps ks gV f) (ha : DK Xs K U E kws mA) (hl : l ≤ lv := by decide) (hg : ∀ j, Gl (Xs j) x := by intro _; rfl) (hdb : (x == ("__debug__" : Str)) = false := by decide)
    (hall : ∀ j, (backToKw pos (keywordEach kws (Xs j).env)).all (·.1.isSome) = true := by intro _; rfl) (hks : ∀ j, (backToKw pos (keywordEach kws (Xs j).env)).filterMap (·.1) = ks := by intro _; rfl)
    (hpl : ∀ j, ((backTo pos (starEach [] (Xs j).env)).any (·.1) || (backToKw pos (keywordEach kws (Xs j).env)).any (·.1.isNone)) = false := by intro _; rfl) : DE Xs K U E (.Call (.Name x p) [] kws pos) (eCallKw (f U) gD mA) := by
  obtain ⟨tA, ha, sa⟩ := ha
  obtain ⟨a, fd, i, g, h1, h2, h3, h4, h5⟩ := C.at_
  refine ⟨fun σ H Q => tA σ H fun zs H2 => SpD K f (gV [] zs) H2 Q (E σ), fun j => ?_, ?_⟩
  · have h1' : FnOk (Xs j).prog (Xs j).w (Xs j).K (Xs j).mg (Xs j).base (L2.CX (Xs j).prog (Xs j).w) i a fd ps (SpD K f) := by rw [F.p j, F.w j, F.k j, F.mg j, F.base j]; exact h1
    exact pe_callKW0 (E := E) h1' ((F.room j).mono (Nat.le_trans h2 hl)) (hg j) (by rw [F.mg j]; exact h3) (by rw [F.k j]; exact h4) (by rw [F.k j]; exact h5) (F.pass j) (ha j) (hall j) (hks j) hdb (hpl j)
  · intro Z σ ρ H k x Q I h q X
    refine sa Z σ ρ H _ x _ I h (fun ds ρ1 vs H1 t1 I1 r1 h1 => ?_) X
    exact sp_use I1 (hgD _ _ _ r1) h1 (fun d v H' n' I' T r hk => q d (ρ1.at n') v H' (t1.trans T) I' r hk) fun xn cls dd H' n' I' T r hx => X xn cls dd (ρ1.at n') H' (t1.trans T) I' r hx

/-! ### names of the module: classes -/
theorem de_cls (F : Fam Xs P w K mg base E lv) {C : Addr} (hm : mg x = some (.ref C)) (hg : ∀ j, Gl (Xs j) x := by intro _; rfl) (hd : (x == ("__debug__" : Str)) = false := by decide) : DE Xs K U E (.Name x pos) (eC (.hdl C)) := de_glob F hm (v := .ref C) rfl (fun H => by simp only [Rep]) hg hd

/-! ### isinstance of an exception that is held -/
structure ExTab (K : PySem.W.Frag) (C c : Addr) (b : Bool) : Prop where
  ok : ExcC K C
  kit : PySem.W.kitOne K (.ref C) (.ref c) = some b
def rIsX (K : PySem.W.Frag) : List V → Hp → VK → Prop := fun xs H Q => ∃ (a C c : Addr) (b : Bool), xs = [.ref a, .ref c] ∧ H a = some (ExcO C a) ∧ ExTab K C c b ∧ Q (.bl b) H
theorem call_isX {X : Cx} : CallR X (.builtin "isinstance") (rIsX X.K) := by
  intro pins s σ H xs us Q I r h
  obtain ⟨a, C, c, b, rfl, hH, T, q⟩ := h
  obtain ⟨u1, u2, rfl, r1, r2⟩ := vals2 r
  cases r1
  cases r2
  obtain ⟨⟨oe, vs, hget, hz, hv⟩, _, _⟩ := I.hok a _ hH
  have J : PySem.W.InstAt s.heap a oe C none := by
    obtain ⟨oc, od, oda, osl⟩ := oe
    obtain ⟨h1, h2⟩ := hz
    dsimp only at h1 h2 hv
    subst h1 h2 hv
    exact ⟨hget, rfl, rfl, trivial⟩
  exact PySem.W.kia_one (PySem.W.handS_kitx_exc T.ok.hg T.ok.hk T.ok.hs T.ok.hd T.ok.ha T.ok.hn T.ok.ht T.ok.hm) I.kIn J T.kit (fun z => nomatch z) fun tk => ⟨.bl b, H, I.kept (t' := tk) fun _ _ z => z, rfl, q⟩
/-- isinstance(e, C), e an exception that is held; others as isiD; T tells the classes -/
def isxD (K : PySem.W.Frag) : List D → (D → Prop) → Prop
  | [.exc C, .hdl c], k => ∃ b, ExTab K C c b ∧ k (.bl b)
  | ds, k => isiD ds k
theorem caS_isx : CaS K (fun xs H Q => rIsi2 K xs H Q ∨ rIsX K xs H Q) (isxD K) := by
  intro G H vs ds k Q g r h q
  unfold isxD at h
  split at h
  · obtain ⟨b, T, h⟩ := h
    simp only [RepL, Rep] at r
    obtain ⟨v, _, rfl, ⟨a, rfl, hH⟩, v2, _, rfl, rfl, rfl⟩ := r
    exact .inr ⟨a, _, _, b, rfl, hide_sub _ _ hH, T, q _ _ H (Same.refl H) (by simp only [Rep]) h⟩
  · exact .inl (caS_isi G H vs _ k Q g r h q)
theorem b_isx (F : Fam Xs P w K mg base E lv) (j : ι) : CallR (Xs j) (.builtin "isinstance") (fun xs H Q => rIsi2 K xs H Q ∨ rIsX K xs H Q) := by
  have h := CallR.or (b_isi F j) (call_isX (X := Xs j))
  rw [F.k j] at h
  exact h
end
end DL

set_option maxRecDepth 100000
set_option maxHeartbeats 1000000
/-! DL12: what a printed derivation leans on. -/
namespace DL
open PySem PySem.Spec PyProof.Rows L2
theorem bt_len : bootBuiltins "len" = some (.builtin "len") := by decide +kernel
theorem bt_abs : bootBuiltins "abs" = some (.builtin "abs") := by decide +kernel
theorem bt_ord : bootBuiltins "ord" = some (.builtin "ord") := by decide +kernel
theorem bt_isi : bootBuiltins "isinstance" = some (.builtin "isinstance") := by decide +kernel
theorem bt_int : bootBuiltins "int" = some (.type "int") := by decide +kernel
theorem bt_str : bootBuiltins "str" = some (.type "str") := by decide +kernel
theorem bt_bool : bootBuiltins "bool" = some (.type "bool") := by decide +kernel
theorem bt_tuple : bootBuiltins "tuple" = some (.type "tuple") := by decide +kernel
theorem bt_list : bootBuiltins "list" = some (.type "list") := by decide +kernel
theorem bt_dict : bootBuiltins "dict" = some (.type "dict") := by decide +kernel
/-- anything at all, where no way leads -/
def eNone : ME := fun _ _ _ => False
def sNone : MS := fun _ _ => False
section
variable {ι : Type} {Xs : ι → Cx} {K : PySem.W.Frag} {U : Vol} {E : XS} {e : Expr} {st : Stmt} {tg : Expr}
theorem de_none : DE Xs K U E e eNone := ⟨fun _ _ _ => False, fun _ => ⟨fun _ _ _ _ _ _ h => h.elim⟩, fun _ _ _ _ _ _ _ _ h _ => h.elim⟩
theorem ds_none : DS Xs K U E st sNone := ⟨fun _ _ _ => False, fun _ => ⟨fun _ _ _ _ _ _ h => h.elim⟩, fun _ _ _ _ _ _ _ h _ => h.elim⟩
theorem dss_none {sts : List Stmt} : DSs Xs K U E sts sNone := ⟨fun _ _ _ => False, fun _ => ⟨fun _ _ _ _ _ _ h => h.elim⟩, fun _ _ _ _ _ _ _ h _ => h.elim⟩
def iNone : MI := fun _ _ _ => False
theorem di_none : DI Xs K U E tg e iNone := ⟨fun _ _ _ => False, fun _ => ⟨fun _ _ _ _ _ _ h => h.elim⟩, fun _ _ _ _ _ _ _ _ h _ => h.elim⟩
end
/-- a constant of the module -/
structure Cst (K : PySem.W.Frag) (mg : Str → Option Value) (x : Str) (d : D) : Prop where
  at_ : ∃ (u : Value) (v : V), mg x = some u ∧ RelV v u ∧ ∀ H, Rep K H v d
/-! ### a, b = x, y -/
def sPar (i j : Nat) (m : MA) : MS := fun k ρ => m ρ (fun ds ρ1 => match ds with
  | [a, b] => k.nx ((ρ1.st i (.dat a)).st j (.dat b))
  | _ => False) k.xn
def sPar3 (i j l : Nat) (m : MA) : MS := fun k ρ => m ρ (fun ds ρ1 => match ds with
  | [a, b, c] => k.nx (((ρ1.st i (.dat a)).st j (.dat b)).st l (.dat c))
  | _ => False) k.xn
section
variable {ι : Type} {Xs : ι → Cx} {P : Program} {w : World} {K : PySem.W.Frag} {mg : Str → Option Value} {base : Heap} {U : Vol} {E : XS} {lv : Nat} {pos px py pz pt pt2 : Pos} {a b c : Expr} {kt k2 : Nat} {mA : MA} {x y z : Str} {ta : TA}
theorem snd_par {i j : Nat} (h : SndA K U E ta mA) : SndS K U E (tPar i j ta) (sPar i j mA) := by
  intro Z σ ρ H k Dn I h0 f
  refine h Z σ ρ H _ _ _ I h0 (fun ds ρ1 vs H1 t1 I1 r1 h1 => ?_) f.xn.e
  split at h1
  · simp only [RepL] at r1
    obtain ⟨v, _, rfl, r1, w, _, rfl, r2, rfl⟩ := r1
    obtain ⟨I2, T2⟩ := I1.put (i := i) r1
    obtain ⟨I3, T3⟩ := I2.put (i := j) (r2.mono T2.vis)
    exact ⟨v, w, rfl, f.nx _ _ H1 ((t1.trans T2).trans T3) I3 h1⟩
  · exact h1.elim
theorem snd_par3 {i j l : Nat} (h : SndA K U E ta mA) : SndS K U E (tPar3 i j l ta) (sPar3 i j l mA) := by
  intro Z σ ρ H k Dn I h0 f
  refine h Z σ ρ H _ _ _ I h0 (fun ds ρ1 vs H1 t1 I1 r1 h1 => ?_) f.xn.e
  split at h1
  · simp only [RepL] at r1
    obtain ⟨v, _, rfl, r1, w, _, rfl, r2, u, _, rfl, r3, rfl⟩ := r1
    obtain ⟨I2, T2⟩ := I1.put (i := i) r1
    obtain ⟨I3, T3⟩ := I2.put (i := j) (r2.mono T2.vis)
    obtain ⟨I4, T4⟩ := I3.put (i := l) ((r3.mono T2.vis).mono T3.vis)
    exact ⟨v, w, u, rfl, f.nx _ _ H1 (((t1.trans T2).trans T3).trans T4) I4 h1⟩
  · exact h1.elim
theorem ds_par (F : Fam Xs P w K mg base E lv) (i j : Nat) (ha : DA Xs K U E [a, b] mA) (hi : ∀ q, (Xs q).N[i]? = some x := by intro _; rfl) (hj : ∀ q, (Xs q).N[j]? = some y := by intro _; rfl) (hij : i ≠ j := by decide) (hx : ∀ q, (Xs q).env.scope.names.lookup x = some .local := by intro _; rfl) (hy : ∀ q, (Xs q).env.scope.names.lookup y = some .local := by intro _; rfl)
    (hw : ∀ q, swappedStores [.Tuple [.Name x px, .Name y py] kt pt] (.Tuple [a, b] k2 pt2) (Xs q).env = pure (some [x, y]) := by intro _; rfl) : DS Xs K U E (.Assign [.Tuple [.Name x px, .Name y py] kt pt] (.Tuple [a, b] k2 pt2) pos) (sPar i j mA) := by
  obtain ⟨t, h, s⟩ := ha
  exact ⟨_, fun q => ps_par (F.calm q) (F.nd q) (hi q) (hj q) hij (hx q) (hy q) (h q) (hw q), snd_par s⟩
theorem ds_par3 (F : Fam Xs P w K mg base E lv) (i j l : Nat) (ha : DA Xs K U E [a, b, c] mA) (hi : ∀ q, (Xs q).N[i]? = some x := by intro _; rfl) (hj : ∀ q, (Xs q).N[j]? = some y := by intro _; rfl) (hl : ∀ q, (Xs q).N[l]? = some z := by intro _; rfl) (hij : i ≠ j := by decide) (hil : i ≠ l := by decide) (hjl : j ≠ l := by decide) (hx : ∀ q, (Xs q).env.scope.names.lookup x = some .local := by intro _; rfl) (hy : ∀ q, (Xs q).env.scope.names.lookup y = some .local := by intro _; rfl) (hz : ∀ q, (Xs q).env.scope.names.lookup z = some .local := by intro _; rfl)
    (hw : ∀ q, swappedStores [.Tuple [.Name x px, .Name y py, .Name z pz] kt pt] (.Tuple [a, b, c] k2 pt2) (Xs q).env = pure (some [x, y, z]) := by intro _; rfl) : DS Xs K U E (.Assign [.Tuple [.Name x px, .Name y py, .Name z pz] kt pt] (.Tuple [a, b, c] k2 pt2) pos) (sPar3 i j l mA) := by
  obtain ⟨t, h, s⟩ := ha
  exact ⟨_, fun q => ps_par3 (F.calm q) (F.nd q) (hi q) (hj q) (hl q) hij hil hjl (hx q) (hy q) (hz q) (h q) (hw q), snd_par3 s⟩
end
/-! ### plain promises -/
def fn1 (g : D → Option D) : DF0 := fun _ n ds k _ => ∃ a r, ds = [a] ∧ g a = some r ∧ k r n
def fn2 (g : D → D → Option D) : DF0 := fun _ n ds k _ => ∃ a b r, ds = [a, b] ∧ g a b = some r ∧ k r n
end DL

set_option maxRecDepth 100000
set_option maxHeartbeats 1000000
/-! DL13: the law's draw state: a dict that the called defs write. -/
namespace DL
open PySem PySem.Spec PyProof.Rows L2

def stL (gr ce : Addr) (r t : Int) : List (Key × V) := [(.inr "great", .ref gr), (.inr "cells", .ref ce), (.inr "rest", .int r), (.inr "turn", .int t)]
/-- the state at st, its lists at gr and ce (the cells cs); T: the tables of code objects -/
def stU (st gr ce : Addr) (cs : List Int) (T : List (Addr × Str)) : Vol where
  S a := a = st ∨ a = gr ∨ a = ce ∨ ∃ p ∈ T, a = p.1
  J n H := ∃ (gs : List Int) (r t : Int), t = (n : Nat) ∧ H st = some (.dK (stL gr ce r t)) ∧ H gr = some (.lst (gs.map V.int)) ∧ H ce = some (.lst (cs.map V.int)) ∧ gr ≠ ce ∧ 0 ≤ r ∧ (∀ g ∈ gs, 0 ≤ g) ∧ LamX.Tabs T H
  there n H a := by
    rintro ⟨gs, r, t, h0, h1, h2, h3, h4, h5, h6, h7⟩ h
    rcases h with rfl | rfl | rfl | ⟨p, hp, rfl⟩
    · exact ⟨_, h1⟩
    · exact ⟨_, h2⟩
    · exact ⟨_, h3⟩
    · obtain ⟨ps, hP, _⟩ := h7 p hp
      exact ⟨_, hP⟩
  stay n H H' := by
    rintro ⟨gs, r, t, h0, h1, h2, h3, h4, h5, h6, h7⟩ h
    refine ⟨gs, r, t, h0, h _ _ h1 (.inl (.inl rfl)), h _ _ h2 (.inl (.inr (.inl rfl))), h _ _ h3 (.inl (.inr (.inr (.inl rfl)))), h4, h5, h6, fun p hp => ?_⟩
    obtain ⟨ps, hP, ht, ha⟩ := h7 p hp
    refine ⟨ps, h _ _ hP (.inl (.inr (.inr (.inr ⟨p, hp, rfl⟩)))), ht, fun pos cv hc => ?_⟩
    obtain ⟨c, e1, e2⟩ := ha pos cv hc
    exact ⟨c, e1, h _ _ e2 (.inr trivial)⟩
  nfix n H a o := by
    rintro ⟨gs, r, t, h0, h1, h2, h3, h4, h5, h6, h7⟩ h e f
    rcases h with rfl | rfl | rfl | ⟨p, hp, rfl⟩
    · rw [h1] at e; cases e; exact f
    · rw [h2] at e; cases e; exact f
    · rw [h3] at e; cases e; exact f
    · obtain ⟨ps, hP, _⟩ := h7 p hp
      rw [hP] at e; cases e; exact f
/-- U is a state's part, the slot i holds the state -/
def IsSt (U : Vol) (ρ : EnvD) (i : Nat) : Prop := ∃ st gr ce cs T, U = stU st gr ce cs T ∧ ρ.l[i]? = some (.dat (.hdl st))
def eStR (U : Vol) (i : Nat) : ME := fun ρ k _ => IsSt U ρ i ∧ ∀ r : Int, 0 ≤ r → k (.int r) ρ
def eStT (U : Vol) (i : Nat) : ME := fun ρ k _ => IsSt U ρ i ∧ k (.int (ρ.c : Nat)) ρ
def iStC (U : Vol) (i : Nat) : MI := fun ρ k _ => IsSt U ρ i ∧ ∀ cs : List Int, k (cs.map D.int) ρ
def sStR (U : Vol) (i : Nat) (m : ME) : MS := fun k ρ => m ρ (fun d ρ1 => IsSt U ρ1 i ∧ match d with
  | .int r => 0 ≤ r ∧ k.nx ρ1
  | _ => False) k.xn
def sStT (U : Vol) (i : Nat) (m : ME) : MS := fun k ρ => m ρ (fun d ρ1 => IsSt U ρ1 i ∧ match d with
  | .int r => 0 ≤ r ∧ k.nx (ρ1.at r.toNat)
  | _ => False) k.xn
def eStG (U : Vol) (i : Nat) (m : ME) : ME := fun ρ k x => IsSt U ρ i ∧ (∀ g : Int, 0 ≤ g → k (.int g) ρ) ∧ m ρ k x
section
variable {K : PySem.W.Frag} {U : Vol} {E : XS} {Z : Addr → Prop} {σ : L2.St} {ρ : EnvD} {H H' : Hp} {i : Nat} {te : TE} {m : ME}
theorem EnvOk.upS {p : Addr} {o : HO} (I : EnvOk K U Z σ ρ H) (h : U.S p) {n' : Nat} (j : U.J n' (upd H p o)) : EnvOk K U Z σ (ρ.at n') (upd H p o) ∧ Tr U.S (Owns σ ρ) H (Owns σ (ρ.at n')) (upd H p o) :=
  I.after (fun a u h1 _ h3 => ⟨by rw [upd_ne (fun e => h1 (by rw [e]; exact h))]; exact h3, id⟩) j
theorem IsSt.slot (h : IsSt U ρ i) (I : EnvOk K U Z σ ρ H) : ∃ st gr ce cs T, U = stU st gr ce cs T ∧ σ[i]? = some (some (.ref st)) := by
  obtain ⟨st, gr, ce, cs, T, e, h⟩ := h
  obtain ⟨v, h1, r⟩ := I.dat i _ h
  simp only [Rep] at r
  subst r
  exact ⟨st, gr, ce, cs, T, e, h1⟩
theorem val_great {gr ce : Addr} {r t : Int} : valV (stL gr ce r t) (.inr "great") = some (.ref gr) := rfl
theorem val_cells {gr ce : Addr} {r t : Int} : valV (stL gr ce r t) (.inr "cells") = some (.ref ce) := rfl
theorem val_rest {gr ce : Addr} {r t : Int} : valV (stL gr ce r t) (.inr "rest") = some (.int r) := rfl
theorem val_turn {gr ce : Addr} {r t : Int} : valV (stL gr ce r t) (.inr "turn") = some (.int t) := rfl
theorem put_rest {gr ce : Addr} {r t r' : Int} : putK (stL gr ce r t) (.inr "rest") (.int r') = stL gr ce r' t := rfl
theorem put_turn {gr ce : Addr} {r t r' : Int} : putK (stL gr ce r t) (.inr "turn") (.int r') = stL gr ce r r' := rfl
theorem snd_stR : SndE K U E (tDGet (tVar i) (tC (.str "rest"))) (eStR U i) := by
  intro Z σ ρ H k x Q I h q X
  obtain ⟨h, h2⟩ := h
  obtain ⟨st, gr, ce, cs, T, rfl, h1⟩ := h.slot I
  obtain ⟨gs, r, t, j0, j1, j2, j3, j4, j5, j6, j7⟩ := id I.vj
  exact ⟨.ref st, h1, st, .int r, rfl, DGet.k (k := .inr "rest") j1, q _ ρ _ H .refl I (by simp only [Rep]) (h2 r j5)⟩
theorem snd_stT : SndE K U E (tDGet (tVar i) (tC (.str "turn"))) (eStT U i) := by
  intro Z σ ρ H k x Q I h q X
  obtain ⟨h, h2⟩ := h
  obtain ⟨st, gr, ce, cs, T, rfl, h1⟩ := h.slot I
  obtain ⟨gs, r, t, j0, j1, j2, j3, j4, j5, j6, j7⟩ := id I.vj
  exact ⟨.ref st, h1, st, .int t, rfl, DGet.k (k := .inr "turn") j1, q _ ρ _ H .refl I (by simp only [Rep]; rw [j0]) h2⟩
theorem snd_stC : SndI K U E (iList K (tDGet (tVar i) (tC (.str "cells")))) (iStC U i) := by
  intro Z σ ρ H k x R I h q X
  obtain ⟨h, h2⟩ := h
  obtain ⟨st, gr, ce, cs, T, rfl, h1⟩ := h.slot I
  obtain ⟨gs, r, t, j0, j1, j2, j3, j4, j5, j6, j7⟩ := id I.vj
  refine ⟨.ref st, h1, st, .ref ce, rfl, DGet.k (k := .inr "cells") j1, ce, rfl, ⟨_, SqL.of j3⟩, q _ ρ _ H .refl I ?_ (h2 cs)⟩
  refine ⟨_, _, by rw [List.length_map]; have := walk_list (K := K) (a := ce) (xs := cs.map V.int); rw [List.length_map] at this; exact this, fun H' _ j => ?_, fun i' H' v H2 hi e _ y => ?_⟩
  · obtain ⟨n', gs', r', t', _, _, _, k3, _⟩ := j
    exact SqL.of k3
  · obtain ⟨e1, e2⟩ := y
    subst e1
    rw [List.getElem?_map] at e2
    cases h : cs[i']? with
    | none => rw [h] at e2; cases e2
    | some n =>
      rw [h] at e2
      cases e2
      exact ⟨Same.refl _, .int n, by simp [h], fun Zd _ _ => by simp only [Rep]⟩
theorem st_ne {gr ce : Addr} {st : Addr} {H : Hp} {r t : Int} {xs : List V} {a : Addr} (h1 : H st = some (.dK (stL gr ce r t))) (h2 : H a = some (.lst xs)) : a ≠ st := fun e => by
  rw [e, h1] at h2; cases h2
theorem tab_upd {T : List (Addr × Str)} {H : Hp} {p : Addr} {o o' : HO} (h : LamX.Tabs T H) (hp : H p = some o) (n1 : ∀ ps, o ≠ .tbl ps) (n2 : ∀ c q, o ≠ LamX.CodeO c q) : LamX.Tabs T (upd H p o') := fun q hq => by
  obtain ⟨ps, h1, h2, h3⟩ := h q hq
  refine ⟨ps, by rw [upd_ne (fun e => by rw [e, hp] at h1; cases h1; exact n1 _ rfl)]; exact h1, h2, fun pos cv hc => ?_⟩
  obtain ⟨c, e1, e2⟩ := h3 pos cv hc
  exact ⟨c, e1, by rw [upd_ne (fun e => by rw [e, hp] at e2; cases e2; exact n2 _ _ rfl)]; exact e2⟩
theorem snd_sStR (h : SndE K U E te m) : SndS K U E (sDPut (tVar i) (tC (.str "rest")) te) (sStR U i m) := by
  intro Z σ ρ H k Dn I h0 f
  refine h Z σ ρ H _ _ _ I h0 (fun d ρ1 v H1 t1 I1 r1 h1 => ?_) f.xn.e
  obtain ⟨hs, h1⟩ := h1
  obtain ⟨st, gr, ce, cs, T, rfl, e1⟩ := hs.slot I1
  obtain ⟨gs, r, t, j0, j1, j2, j3, j4, j5, j6, j7⟩ := id I1.vj
  split at h1
  · rename_i r'
    simp only [Rep] at r1
    subst r1
    refine ⟨.ref st, e1, st, _, rfl, DPut.k (k := .inr "rest") j1 (by show 4 < sizeLine; decide), ?_⟩
    rw [put_rest]
    obtain ⟨I2, T2⟩ := I1.upS (p := st) (o := .dK (stL gr ce r' t)) (.inl rfl) (n' := ρ1.c) ⟨gs, r', t, j0, upd_same, by rw [upd_ne (st_ne j1 j2)]; exact j2, by rw [upd_ne (st_ne j1 j3)]; exact j3, j4, h1.1, j6, tab_upd j7 j1 (fun _ z => nomatch z) (fun _ _ z => by unfold LamX.CodeO at z; cases z)⟩
    exact f.nx _ _ _ (t1.trans T2) I2 h1.2
  · exact h1.elim
theorem snd_sStT (h : SndE K U E te m) : SndS K U E (sDPut (tVar i) (tC (.str "turn")) te) (sStT U i m) := by
  intro Z σ ρ H k Dn I h0 f
  refine h Z σ ρ H _ _ _ I h0 (fun d ρ1 v H1 t1 I1 r1 h1 => ?_) f.xn.e
  obtain ⟨hs, h1⟩ := h1
  obtain ⟨st, gr, ce, cs, T, rfl, e1⟩ := hs.slot I1
  obtain ⟨gs, r, t, j0, j1, j2, j3, j4, j5, j6, j7⟩ := id I1.vj
  split at h1
  · rename_i r'
    simp only [Rep] at r1
    subst r1
    refine ⟨.ref st, e1, st, _, rfl, DPut.k (k := .inr "turn") j1 (by show 4 < sizeLine; decide), ?_⟩
    rw [put_turn]
    obtain ⟨I2, T2⟩ := I1.upS (p := st) (o := .dK (stL gr ce r r')) (.inl rfl) (n' := r'.toNat) ⟨gs, r, r', by have := h1.1; omega, upd_same, by rw [upd_ne (st_ne j1 j2)]; exact j2, by rw [upd_ne (st_ne j1 j3)]; exact j3, j4, j5, j6, tab_upd j7 j1 (fun _ z => nomatch z) (fun _ _ z => by unfold LamX.CodeO at z; cases z)⟩
    exact f.nx _ _ _ (t1.trans T2) I2 h1.2
  · exact h1.elim
theorem snd_stG (h : SndE K U E te m) : SndE K U E (tIf (tTest (tOp (rEqA K true) (tDGet (tVar i) (tC (.str "great"))) (tLst tNil))) (tBM K "list" rPopAt (tDGet (tVar i) (tC (.str "great"))) (tCons (tC (.int 0)) tNil)) te) (eStG U i m) := by
  intro Z σ ρ H k x Q I h0 q X
  obtain ⟨hs, h1, h2⟩ := h0
  obtain ⟨st, gr, ce, cs, T, rfl, e1⟩ := hs.slot I
  obtain ⟨gs, r, t, j0, j1, j2, j3, j4, j5, j6, j7⟩ := id I.vj
  refine ⟨.ref st, e1, st, .ref gr, rfl, DGet.k (k := .inr "great") j1, by decide, fun p hp => ?_⟩
  have hs1 : Same H (upd H p (.lst [])) := same_new hp
  have I1 := I.same hs1
  have T1 : Tr (stU st gr ce cs T).S (Owns σ ρ) H (Owns σ ρ) (upd H p (.lst [])) := .of_same hs1
  refine .inr (.inr ⟨gr, p, gs.map V.int, [], gs.map D.int, [], rfl, rfl, SqL.of (hs1 _ _ j2), SqL.of upd_same, RepL.of_ints gs, .nil, ?_, ?_⟩)
  · cases gs with
    | nil => exact .inr ⟨by decide, by decide⟩
    | cons g gs => exact .inl (by simp)
  · cases gs with
    | nil =>
      refine ⟨false, by simp [eqvL], ?_⟩
      show ite _ _ _
      rw [if_neg Bool.false_ne_true]
      exact h Z σ ρ _ k x Q I1 h2 (fun d ρ' v H' t' => q d ρ' v H' (T1.trans t')) (X.go T1)
    | cons g gs =>
      refine ⟨true, by simp [eqvL], ?_⟩
      show ite _ _ _
      rw [if_pos rfl]
      refine ⟨.ref st, e1, st, .ref gr, rfl, DGet.k (k := .inr "great") (hs1 _ _ j1), .inl ⟨rfl, _, SqL.of (hs1 _ _ j2)⟩, gr, _, 0, 0, .int g, rfl, rfl, hs1 _ _ j2, by decide, by decide, by simp [seqIndex?], by simp, ?_⟩
      have ng : gr ≠ p := ne_of_none j2 hp
      obtain ⟨I2, T2⟩ := I1.upS (p := gr) (o := .lst (gs.map V.int)) (.inr (.inl rfl)) (n' := ρ.c) ⟨gs, r, t, j0, by rw [upd_ne (st_ne j1 j2).symm]; exact hs1 _ _ j1, upd_same, by rw [upd_ne j4.symm]; exact hs1 _ _ j3, j4, j5, fun g' hg => j6 g' (by simp [hg]), tab_upd (j7.ext hs1) (hs1 _ _ j2) (fun _ z => nomatch z) (fun _ _ z => by unfold LamX.CodeO at z; cases z)⟩
      exact q (.int g) ρ _ _ (T1.trans T2) I2 (by simp only [Rep]) (h1 g (j6 g (by simp)))
end
section
variable {ι : Type} {Xs : ι → Cx} {P : Program} {w : World} {K : PySem.W.Frag} {mg : Str → Option Value} {base : Heap} {U : Vol} {E : XS} {lv : Nat} {pos p p2 pos' apos cpos lpos q1 q2 q3 q4 : Pos} {a b c e tg : Expr} {ma mb m : ME} {x : Str} {n1 n2 n3 : Nat}
theorem pe_st {X : Cx} (i : Nat) {key : Str} {n1 : Nat} {p p2 pos : Pos} (hu : X.A.units + 1 < cLine) (hN : X.N[i]? = some x) (hv : Vis X.env.scope x) (hd : (x == ("__debug__" : Str)) = false) (hcd : (x == ("__classdict__" : Str)) = false) : PE X (.Subscript (.Name x p) (.Constant (.str key) n1 p2) pos) (tDGet (tVar i) (tC (.str key))) :=
  pe_dget hu (pe_var hN hv hd hcd) pe_str (fun _ _ => rfl)
theorem de_stR (F : Fam Xs P w K mg base E lv) (i : Nat) (hN : ∀ j, (Xs j).N[i]? = some x := by intro _; rfl) (hv : ∀ j, Vis (Xs j).env.scope x := by intro _; first | exact Or.inl rfl | exact Or.inr (Or.inl rfl) | exact Or.inr (Or.inr rfl)) (hd : (x == ("__debug__" : Str)) = false := by decide) (hcd : (x == ("__classdict__" : Str)) = false := by decide) : DE Xs K U E (.Subscript (.Name x p) (.Constant (.str "rest") n1 p2) pos) (eStR U i) :=
  ⟨_, fun j => pe_st i (by have := F.u j; omega) (hN j) (hv j) hd hcd, snd_stR⟩
theorem de_stT (F : Fam Xs P w K mg base E lv) (i : Nat) (hN : ∀ j, (Xs j).N[i]? = some x := by intro _; rfl) (hv : ∀ j, Vis (Xs j).env.scope x := by intro _; first | exact Or.inl rfl | exact Or.inr (Or.inl rfl) | exact Or.inr (Or.inr rfl)) (hd : (x == ("__debug__" : Str)) = false := by decide) (hcd : (x == ("__classdict__" : Str)) = false := by decide) : DE Xs K U E (.Subscript (.Name x p) (.Constant (.str "turn") n1 p2) pos) (eStT U i) :=
  ⟨_, fun j => pe_st i (by have := F.u j; omega) (hN j) (hv j) hd hcd, snd_stT⟩
theorem di_stC (F : Fam Xs P w K mg base E lv) (i : Nat) (hN : ∀ j, (Xs j).N[i]? = some x := by intro _; rfl) (hv : ∀ j, Vis (Xs j).env.scope x := by intro _; first | exact Or.inl rfl | exact Or.inr (Or.inl rfl) | exact Or.inr (Or.inr rfl)) (hd : (x == ("__debug__" : Str)) = false := by decide) (hcd : (x == ("__classdict__" : Str)) = false := by decide) : DI Xs K U E tg (.Subscript (.Name x p) (.Constant (.str "cells") n1 p2) pos) (iStC U i) := by
  refine ⟨_, fun j => ?_, snd_stC⟩
  have := pi_list (tg := tg) (pe_st (x := x) (key := "cells") (n1 := n1) (p := p) (p2 := p2) (pos := pos) i (by have := F.u j; omega) (hN j) (hv j) hd hcd)
  rw [F.k j] at this
  exact this
theorem ds_stR (F : Fam Xs P w K mg base E lv) (i : Nat) (h : DE Xs K U E e m) (hN : ∀ j, (Xs j).N[i]? = some x := by intro _; rfl) (hv : ∀ j, Vis (Xs j).env.scope x := by intro _; first | exact Or.inl rfl | exact Or.inr (Or.inl rfl) | exact Or.inr (Or.inr rfl)) (hd : (x == ("__debug__" : Str)) = false := by decide) (hcd : (x == ("__classdict__" : Str)) = false := by decide)
    (hs : ∀ j, swapsWith e (some (.Subscript (.Name x p) (.Constant (.str "rest") n1 p2) pos')) pos.line (Xs j).env = pure false := by intro _; rfl) : DS Xs K U E (.Assign [.Subscript (.Name x p) (.Constant (.str "rest") n1 p2) pos'] e pos) (sStR U i m) :=
  let ⟨_, h, s⟩ := h; ⟨_, fun j => ps_dput (by have := F.u j; omega) (pe_var (hN j) (hv j) hd hcd) pe_str (h j) (hs j), snd_sStR s⟩
theorem ds_stT (F : Fam Xs P w K mg base E lv) (i : Nat) (h : DE Xs K U E e m) (hN : ∀ j, (Xs j).N[i]? = some x := by intro _; rfl) (hv : ∀ j, Vis (Xs j).env.scope x := by intro _; first | exact Or.inl rfl | exact Or.inr (Or.inl rfl) | exact Or.inr (Or.inr rfl)) (hd : (x == ("__debug__" : Str)) = false := by decide) (hcd : (x == ("__classdict__" : Str)) = false := by decide)
    (hs : ∀ j, swapsWith e (some (.Subscript (.Name x p) (.Constant (.str "turn") n1 p2) pos')) pos.line (Xs j).env = pure false := by intro _; rfl) : DS Xs K U E (.Assign [.Subscript (.Name x p) (.Constant (.str "turn") n1 p2) pos'] e pos) (sStT U i m) :=
  let ⟨_, h, s⟩ := h; ⟨_, fun j => ps_dput (by have := F.u j; omega) (pe_var (hN j) (hv j) hd hcd) pe_str (h j) (hs j), snd_sStT s⟩
theorem de_stG (F : Fam Xs P w K mg base E lv) (i : Nat) (h : DE Xs K U E e m) {p3 p4 p5 p6 p7 : Pos} (hN : ∀ j, (Xs j).N[i]? = some x := by intro _; rfl) (hv : ∀ j, Vis (Xs j).env.scope x := by intro _; first | exact Or.inl rfl | exact Or.inr (Or.inl rfl) | exact Or.inr (Or.inr rfl)) (hd : (x == ("__debug__" : Str)) = false := by decide) (hcd : (x == ("__classdict__" : Str)) = false := by decide)
    (hbase : ∀ j, attributeBase (.Subscript (.Name x p) (.Constant (.str "great") n1 p2) pos) "pop" (Xs j).env (eval (.Subscript (.Name x p) (.Constant (.str "great") n1 p2) pos) (Xs j).env) = eval (.Subscript (.Name x p) (.Constant (.str "great") n1 p2) pos) (Xs j).env := by intro _; rfl)
    (hfew : ∀ j, ((backTo cpos (starEach [.Constant (.int 0) n2 p3] (Xs j).env)).all (fun x => !x.1) && (backToKw cpos (keywordEach [] (Xs j).env)).all (fun x => x.1.isSome) && decide ([Expr.Constant (.int 0) n2 p3].length + ([] : List Keyword).length + (if ([] : List Keyword).isEmpty then 0 else 1) < 30)) = true := by intro _; rfl)
    (hline : (apos.endLine == cpos.line) = true := by rfl) (hs : ∀ j, starEach [.Constant (.int 0) n2 p3] (Xs j).env = (false, eval (.Constant (.int 0) n2 p3) (Xs j).env) :: starEach [] (Xs j).env := by intro _; rfl) (hplain : ∀ j, (backTo cpos (starEach [] (Xs j).env)).any (·.1) = false := by intro _; rfl)
    (hm : behindInMarks .NotEq (.List [] p7) = false := by rfl) :
    DE Xs K U E (.IfExp (.Compare (.Subscript (.Name x p4) (.Constant (.str "great") n3 p5) p6) [.NotEq] [.List [] p7] lpos) (.Call (.Attribute (.Subscript (.Name x p) (.Constant (.str "great") n1 p2) pos) "pop" apos) [.Constant (.int 0) n2 p3] [] cpos) e pos') (eStG U i m) := by
  obtain ⟨t, h, s⟩ := h
  refine ⟨_, fun j => ?_, snd_stG s⟩
  have u1 : (Xs j).A.units + 1 < cLine := by have := F.u j; omega
  have hp := pe_bm (cpos := cpos) (apos := apos) PySem.F.plainAttrs_list PySem.F.slot_list_pop PySem.F.type_list_pop (mt_popAt (X := Xs j)) (pe_st (x := x) (key := "great") (n1 := n1) (p := p) (p2 := p2) (pos := pos) i u1 (hN j) (hv j) hd hcd) (pa_cons pe_int pa_nil (hs j)) (hbase j) (hfew j) hline (hs j) (hplain j)
  have ht := pt_cmpR (pos := lpos) (opr_ne (F.u j)) (pe_st (x := x) (key := "great") (n1 := n3) (p := p4) (p2 := p5) (pos := p6) i u1 (hN j) (hv j) hd hcd) (pe_lst (pos := p7) pa_nil) hm
  rw [F.k j] at hp ht
  exact pe_ifExp ht hp (h j)
end
/-! ### the draw -/
/-- as many draws as ever are made -/
def mostN : Nat := 2 ^ 40
def f_draw : DF0 := fun U n ds k _ => ∃ st gr ce cs T, U = stU st gr ce cs T ∧ n + 1 ≤ mostN ∧ ∃ room : Int, ds = [.hdl st, .int room] ∧ 0 < room ∧ room.natAbs.log2 < 9000 ∧ ∀ (v : Int) (n' : Nat), 0 ≤ v → v < room → n ≤ n' → n' ≤ n + 1 → k (.int v) n'
def f_mixed : DF0 := fun U n ds k _ => ∃ st gr ce cs T, U = stU st gr ce cs T ∧ n + 1 ≤ mostN ∧ ds = [.hdl st] ∧ ∀ v : Int, 0 ≤ v → k (.int v) (n + 1)
def f_pick : DF0 := fun U n ds k _ => ∃ st gr ce cs T, U = stU st gr ce cs T ∧ n + 1 ≤ mostN ∧ ∃ (c : D) (some : List D), ds = [.hdl st, c] ∧ (c = .lst some ∨ c = .tup some) ∧ 0 < some.length ∧ some.length ≤ sizeLine ∧ ∀ (d : D) (n' : Nat), d ∈ some → n ≤ n' → n' ≤ n + 1 → k d n'
end DL

set_option maxRecDepth 100000
set_option maxHeartbeats 2000000
/-! DL14: a caught error held as a value; a lambda handed to a def that calls it in a try. -/
namespace DL
open PySem PySem.Spec PyProof.Rows L2
section
variable {X : Cx} {pins : List (Addr × Obj)} {σ : L2.St} {H : Hp} {s : Shared}
/-- an error that stands in the heap is tracked from here on -/
theorem track_exc {a C : Addr} {oe : Obj} {vs : Array Value} (I : L2.Inv X pins σ H s) (e : s.heap.get? a = some oe) (z : Zc (.ref C) none oe) (d : oe.data = .fields vs) (hn : H a = none) (n0 : X.s_0.heap.get? a = none) (nL : a ≠ X.env.locals)
    (nC : ∀ x c, X.env.cells.lookup x = some c → c ≠ a) (nP : ∀ p ∈ X.pn ++ pins, p.1 ≠ a) : L2.Inv X pins σ (upd H a (ExcO C a)) s := by
  have up : ∀ {b : Addr} {o : HO}, H b = some o → upd H a (ExcO C a) b = some o := fun {b o} q => by rw [upd_ne (ne_of_none q hn)]; exact q
  refine ⟨I.ok, I.os, I.bare, ⟨I.base.keep, I.base.slot, fun b o q1 q2 q3 => ?_, I.base.there, fun b xs q => up (I.base.tups b xs q), fun b o u q => up (I.base.frzs b o u q), fun b ps q => ?_⟩, I.loc, I.cell, ?_, fun x c q => ?_, fun p hp => ?_, fun b u q => ?_, I.len⟩
  · have ne : b ≠ a := fun y => by rw [y, n0] at q1; cases q1
    rw [upd_ne ne]; exact I.base.free b o q1 q2 q3
  · obtain ⟨m, q⟩ := I.base.tbls b ps q
    exact ⟨m, up q⟩
  · rw [upd_ne nL.symm]; exact I.free
  · rw [upd_ne (nC x c q)]; exact I.freeC x c q
  · obtain ⟨k1, k2, k3⟩ := I.pin p hp
    exact ⟨k1, by rw [upd_ne (nP p hp)]; exact k2, k3⟩
  · by_cases hb : b = a
    · subst hb
      rw [upd_same] at q
      cases q
      exact ⟨⟨oe, vs, e, z, d⟩, ⟨oe, e⟩, fun _ _ ⟨o, v, k1, k2⟩ k => ⟨o, v, k o k1, k2⟩⟩
    · rw [upd_ne hb] at q
      exact (I.hok b u q).stay (fun _ _ _ y => y) (fun _ y => up y) fun _ _ y => up y
/-- what the clause wishes where the error is held on: slot i is the name's -/
def wHold (K : PySem.W.Frag) (c : Value) (i : Nat) (ts : Addr → TS) (Wout : WX) (Dn : Ends) : WX := fun cls d σ H =>
  ∃ b, PySem.W.exmOne K cls c = some b ∧ (b = true → d = none ∧ ∃ C, cls = .ref C ∧ ∀ a, H a = none → ts a { nx := fun σ' H' => H' a = none ∧ Dn.nx (σ'.set i none) (upd H' a (ExcO C a)), rt := fun _ _ => False, bk := fun _ _ => False, ct := fun _ _ => False } (σ.set i (some (.ref a))) H) ∧
    (b = false → Wout cls d σ H)
theorem ps_try_hold {x n : Str} {c : Value} {i : Nat} {body suite : List Stmt} {b₀ : Stmt} {np pos pos' : Pos} {tb : WX → TS} {ts : Addr → TS} {Wout : WX} (hst : X.stack = X.env :: X.outer) (hfm : X.env.frame = some X.env.locals) (nd : X.N.Nodup) (hi : X.N[i]? = some n) (hk : X.env.kindOf n = some .local) (hx : X.ex = []) (hc : Names X x c) (tk : Takes X Wout)
    (hb : ∀ (W : WX) (pn : List (Addr × Obj)) (xe : Value → Shared → Prop), Takes (X.tr pn xe) W → PassesOwn (model X.prog X.w) X.A X.env xe → PSs (X.tr pn xe) body (tb W))
    (hsu : ∀ (a : Addr) (pn : List (Addr × Obj)), PSs (X.suite a pn) (b₀ :: suite) (ts a)) :
    PS X (.Try body [.ExceptHandler (some (.Name x np)) (some n) (b₀ :: suite) pos'] [] [] pos) (fun Dn σ H => tb (wHold X.K c i ts Wout Dn) Dn σ H) := by
  refine ⟨fun pins st0 τ G Dn J0 hyp => ?_⟩
  have okX := J0.ok
  have hA : X.A.frames = some (X.env :: X.outer) := by rw [okX.frames, hst]
  refine wpAny_Try_except (wpAny_mono ((hb (wHold X.K c i ts Wout Dn) (X.pn ++ pins) (fun ev t1 => wpAny (model X.prog X.w) X.A (noteFrame ev X.env) (fun _ t2 => wpAny (model X.prog X.w) X.A (setFlight ev none) (fun _ t3 =>
    wpAny (model X.prog X.w) X.A (handleBy ev X.env [.ExceptHandler (some (.Name x np)) (some n) (b₀ :: suite) pos']) (SP X pins Dn) X.xe t3) X.xe t2) X.xe t1) (fun u t0 air => ?_) PassesOwn.looking).run [] st0 τ G Dn (J0.toTry _) hyp) (fun fl t1 hfl => ?_) fun _ _ y => y)
  · obtain ⟨a, B, u0, pins0, τ1, G1, cls, d, rfl, JT, nb, up0, sky, na, os, ag, b, e1, yes, no⟩ := air
    have J1 : L2.Inv X pins τ1 G1 u0 := JT.ofTry okX
    have sky1 : Sky B (X.env :: X.outer) a (Zc cls d) X.env.locals t0.heap := hst ▸ sky
    show wpAny (model X.prog X.w) X.A (noteFrame (.ref a) X.env) _ _ _
    refine Sky.land Zc.steady hA hfm sky1 fun g3 fly3 lift3 => ?_
    have J3 : L2.Inv X pins τ1 G1 { t0 with heap := g3 } := J1.landed nb fly3.1 (up0.trans lift3) os ag
    obtain ⟨x3, w3, get3, zc3, dat3⟩ := fly3.there
    have outF : a ∉ frs (X.env :: X.outer) := fun hm => by
      obtain ⟨_, o', q1, q2⟩ := fly3.2.2.1.mem hm
      rw [get3] at q1; cases q1
      exact q2 _ dat3
    have nL : a ≠ X.env.locals := fun q => outF (List.mem_filterMap.mpr ⟨X.env, List.mem_cons_self, by rw [hfm, q]⟩)
    have nF : a ∉ X.fs := fun hm => by
      obtain ⟨v, q1, q2⟩ := List.mem_filterMap.mp hm
      exact outF (List.mem_filterMap.mpr ⟨v, List.mem_cons_of_mem _ q1, q2⟩)
    have nB : ∀ o, u0.heap.get? a = some o → False := fun o q => by
      have q2 := nb a o q (by rw [hst]; exact outF)
      rw [fly3.2.1] at q2; cases q2
    have n0 : X.s_0.heap.get? a = none := by
      cases q : X.s_0.heap.get? a with
      | none => rfl
      | some o =>
        obtain ⟨o', q2⟩ := J1.base.there a o q (by rw [hx]; exact fun y => nomatch y)
        exact (nB o' q2).elim
    have nC : ∀ y cc, X.env.cells.lookup y = some cc → cc ≠ a := fun y cc q z => by
      obtain ⟨v, o, q2, _⟩ := J1.cell y cc q
      exact nB o (z ▸ q2)
    have nP : ∀ p ∈ X.pn ++ pins, p.1 ≠ a := fun p hp z => nB p.2 (z ▸ (J1.pin p hp).1)
    have V3 := J3.suite get3 dat3 na nL nF
    refine wpAny_handleBy_cons (codeAny_handlers_test ?_) (by intro q; cases q)
    have lookT : PySem.W.Looks (model X.prog X.w) g3 (typeOf (.ref a)) cls := fun _ _ _ _ kk qq => wpAny_typeOf_ref (kk _ _ get3) (by rw [zc3.1]; exact qq)
    have lookM := PySem.W.exm_one (M := model X.prog X.w) (J3.kIn) lookT e1
    have named : ∀ {Q : Value → Shared → Prop} {E : Value → Shared → Prop}, Q c { t0 with heap := g3 } → wpAny (model X.prog X.w) (X.A.mark (some (.ref a))) (eval (.Name x np) X.env) Q E { t0 with heap := g3 } := fun {Q E} q => by
      rcases hc with ⟨q1, q2, q3 | ⟨q3, q4, q5⟩⟩
      · exact ld_glob (X := X.suite a ((a, x3) :: (X.pn ++ pins))) V3 q1 q3 q q2
      · exact ld_blt (X := X.suite a ((a, x3) :: (X.pn ++ pins))) V3 q1 q3 q4 q q5 q2
    refine named (lookM.here ?_)
    cases b with
    | true =>
      obtain ⟨rfl, C, rfl, yes2⟩ := yes rfl
      refine codeAny_handlers_suite_as (HandSPX.lands_againZ fly3 fun g4 fly4 lift4 => ?_)
      have J4 : L2.Inv X pins τ1 G1 { t0 with heap := g4 } := J1.landed nb fly4.1 ((up0.trans lift3).trans lift4) os ag
      obtain ⟨x4, w4, get4, zc4, dat4⟩ := fly4.there
      have V4 := J4.suite get4 dat4 na nL nF
      refine store_ok (X := X.suite a ((a, x4) :: (X.pn ++ pins))) (v := .ref a) V4 nd hi (.inl hk) rfl (fun t5 V5 => ?_) (.inr hk)
      refine wpAny_mono ((hsu a ((a, x4) :: (X.pn ++ pins))).run [] t5 _ G1 _ V5 (yes2 a na)) (fun f6 t6 h6 => ?_) (fun _ _ y => False.elim y)
      cases f6 with
      | next =>
        obtain ⟨τ6, G6, V6, q6a, q6⟩ := h6
        have at6 := (V6.pin (a, x4) (List.mem_append_left _ List.mem_cons_self)).1
        exact gone_ok (track_exc (V6.unsuite okX) at6 zc4 dat4 q6a n0 nL nC nP) nd hi hk fun t7 J7 => ⟨_, _, J7, q6⟩
      | brk =>
        obtain ⟨_, _, _, q6⟩ := h6
        exact False.elim q6
      | cont =>
        obtain ⟨_, _, _, q6⟩ := h6
        exact False.elim q6
      | ret u =>
        obtain ⟨_, _, _, _, _, q6⟩ := h6
        exact False.elim q6
    | false =>
      show wpAny _ X.A (handleBy (.ref a) X.env []) _ _ _
      refine wpAny_handleBy_nil ?_
      obtain ⟨_, _, _, ox, wx, T, oT, tq, m1, m2, m3, m4, m5⟩ := id fly3
      unfold PySem.passOn
      refine wpAny_bind (wpAny_field m1 m3 m4 ?_)
      rw [if_neg (by simp : ¬ ((Value.ref T == Value.none) = true))]
      have out : wpAny (model X.prog X.w) X.A (setFlight (.ref a) X.env.frame) (fun _ t4 => wpAny (model X.prog X.w) X.A (throw (.ref a) : Sem Flow) (SP X pins Dn) X.xe t4) X.xe { t0 with heap := g3 } := by
        rw [hfm]
        refine HandSPX.setFlight_upZ fly3 fun g5 held5 lift5 => wpAny_throw (tk _ _ ?_)
        exact ⟨a, B, u0, pins, τ1, G1, cls, d, rfl, J1, nb, (up0.trans lift3).trans lift5, .inr (.inr (by rw [hst]; exact held5)), na, os, ag, no rfl⟩
      first
        | exact wpAny_bind (wpAny_pure (wpAny_bind out))
        | exact wpAny_bind out
  · cases fl with
    | next =>
      obtain ⟨τ', G', J', q⟩ := hfl
      exact wpAny_execs_nil ⟨τ', G', J'.ofTry okX, q⟩
    | brk =>
      obtain ⟨τ', G', J', q⟩ := hfl
      exact ⟨τ', G', J'.ofTry okX, q⟩
    | cont =>
      obtain ⟨τ', G', J', q⟩ := hfl
      exact ⟨τ', G', J'.ofTry okX, q⟩
    | ret u =>
      obtain ⟨v, τ', G', J', r, q⟩ := hfl
      exact ⟨v, τ', G', J'.ofTry okX, r, q⟩
end
end DL

set_option maxRecDepth 100000
set_option maxHeartbeats 2000000
/-! DL15: f(lambda: e), f calling its argument in a try. -/
namespace DL
open PySem PySem.Spec PyProof.Rows L2 LamX
/-- all but the object at P stays -/
def ExtP (P : Addr) (H H1 : Hp) : Prop := ∀ b o, H b = some o → b ≠ P → H1 b = some o
section
variable {X : Cx} {pins : List (Addr × Obj)} {σ : L2.St} {H : Hp} {s : Shared}
theorem lam_make3 {T : List (Addr × Str)} {c P : Addr} {params : Arguments} {body : Expr} {scope : Scope} {pos : Pos} {E : Value → Shared → Prop} {Q : Value → Shared → Prop} (I : L2.Inv X pins σ H s) (TB : TabB X.base X.mg c P) (hcode : X.env.code = .ref c)
    (hmem : (P, X.env.qual ++ "<lambda>") ∈ T) (huni : ∀ p ∈ T, p.1 = P → p.2 = X.env.qual ++ "<lambda>") (hT : Tabs T H) (hdef : defaultsOf params X.env = ([], [])) (hfr : ∀ y ∈ scope.names, y.2 = .free → ∃ c, X.env.cells.lookup y.1 = some c)
    (fin : ∀ (f d : Addr) (pm ctv : Value) (H1 : Hp) (s' : Shared), L2.Inv X pins σ H1 s' → ExtP P H H1 → Tabs T H1 →
      s'.heap.get? f = some (PySem.W.kla_obj "<lambda>" (X.env.qual ++ "<lambda>") params body scope (cloFrom X.env.cells scope.names []) pm d ctv) → H1 f = none → f ∉ frs X.stack → H1 d = some (CodeO d (X.env.qual ++ "<lambda>")) → Q (.ref f) s') :
    wpAny (model X.prog X.w) X.A (eval (.Lambda params body scope pos) X.env) Q E s := by
  obtain ⟨ps, atP, trip, names⟩ := hT _ hmem
  refine PySem.W.kla_eval hdef ?_
  have bltP : s.heap.BuiltinsAt X.mg P := TB.bm.keeps I.bk
  have objP : s.heap.get? P = some { cls := .none, data := .fields ps } := I.hok P _ atP
  have away : ∀ f, s.heap.objs.size ≤ f → f ∉ frs X.stack := fun f big z => by
    rcases List.mem_cons.mp (I.stkSub _ z) with e | e
    · exact absurd (Nat.lt_of_lt_of_le (e ▸ I.lt : f < _) big) (Nat.lt_irrefl _)
    · exact I.nofs big e
  cases look : codeAmong pos ps.toList with
  | some cv =>
    obtain ⟨d, rfl, atd⟩ := names pos cv look
    refine PySem.W.kla_makeFunctionHit (mg := X.mg) (c := c) (P := P) (ps := ps) (closure_ok hfr) I.ok.glob (I.mod.glob.keeps I.bk) hcode (TB.code.keeps I.bk) objP trip look bltP fun ctv g tk more big => ?_
    have I1 : L2.Inv X pins σ H { s with heap := g.push (PySem.W.kla_obj "<lambda>" (X.env.qual ++ "<lambda>") params body scope (cloFrom X.env.cells scope.names []) ((X.mg "__name__").getD .none) d ctv), toks := tk } :=
      I.kept fun b o e => Heap.get?_push_of_some _ (more b o e)
    exact fin g.objs.size d _ ctv H _ I1 (fun _ _ e _ => e) hT (Heap.get?_push_size _ rfl) (I.hok.fresh big) (away _ big) atd
  | none =>
    refine PySem.W.kla_makeFunction (mg := X.mg) (c := c) (P := P) (ps := ps) (closure_ok hfr) I.ok.glob (I.mod.glob.keeps I.bk) hcode (TB.code.keeps I.bk) objP trip look TB.gP bltP fun d ctv g tk more lo hi rec tab => ?_
    obtain ⟨d2, oc, vs, t, z, getd, dat, nam⟩ := rec
    cases z
    have big : s.heap.objs.size ≤ g.objs.size := Nat.le_trans lo (Nat.le_of_lt hi)
    have newd : H d = none := I.hok.fresh lo
    have I1 := inv_table (t' := tk) (more := #[rawInt pos.line, rawInt pos.col, .ref d]) (h' := g.push (PySem.W.kla_obj "<lambda>" (X.env.qual ++ "<lambda>") params body scope (cloFrom X.env.cells scope.names []) ((X.mg "__name__").getD .none) d ctv)) I atP
      (fun b o nb e => Heap.get?_push_of_some _ (more b o nb e)) (Heap.get?_push_of_some _ tab) lo ⟨oc, vs, t, Heap.get?_push_of_some _ getd, dat, nam⟩
    have ext : ExtP P H (upd (upd H P (.tbl (ps ++ #[rawInt pos.line, rawInt pos.col, .ref d]))) d (CodeO d (X.env.qual ++ "<lambda>"))) := fun b o e nb => by
      rw [upd_ne (ne_of_none e newd), upd_ne nb]
      exact e
    have lst : (ps ++ #[rawInt pos.line, rawInt pos.col, .ref d]).toList = ps.toList ++ [rawInt pos.line, rawInt pos.col, .ref d] := by simp
    have code_stay : ∀ {b : Addr} {q : Str}, H b = some (CodeO b q) → upd (upd H P (.tbl (ps ++ #[rawInt pos.line, rawInt pos.col, .ref d]))) d (CodeO d (X.env.qual ++ "<lambda>")) b = some (CodeO b q) := fun {b q} e => by
      refine ext b _ e fun z => ?_
      rw [z, atP] at e
      exact codeO_ne ps (Option.some.inj e).symm
    refine fin g.objs.size d ((X.mg "__name__").getD .none) ctv _ _ I1 ext (fun p hp => ?_) (Heap.get?_push_size _ rfl) ?_ (away _ big) upd_same
    · by_cases same : p.1 = P
      · rw [huni p hp same, same]
        refine ⟨_, by rw [upd_ne (ne_of_none atP newd), upd_same], by rw [lst]; exact PySem.TriplesOk_snoc _ _ _ _ trip, fun pos' cv hcv => ?_⟩
        rw [lst] at hcv
        rcases among_app _ trip hcv with z | z
        · obtain ⟨c0, q1, q2⟩ := names pos' cv z
          exact ⟨c0, q1, code_stay q2⟩
        · exact ⟨d, z, upd_same⟩
      · obtain ⟨ps', a1, a2, a3⟩ := hT p hp
        refine ⟨ps', ext _ _ a1 same, a2, fun pos' cv hcv => ?_⟩
        obtain ⟨c0, q1, q2⟩ := a3 pos' cv hcv
        exact ⟨c0, q1, code_stay q2⟩
    · have n1 : g.objs.size ≠ d := Nat.ne_of_gt hi
      have n2 : g.objs.size ≠ P := Nat.ne_of_gt (Nat.lt_of_lt_of_le (Heap.lt_size objP) big)
      rw [upd_ne n1, upd_ne n2]
      exact I.hok.fresh big
end
/-- the argument called: whatever leaves it is taken at the slots of that very state -/
theorem pe_act3 {CXg : CXT} {Eg : XK} {Ng : List Str} {qg : Str} {sg : Scope} {g f d : Addr} {cdg pm ctv : Value} {params : Arguments} {body : Expr} {scope : Scope} {k i : Nat} {a : Str} {pn : List (Addr × Obj)} {xe : Value → Shared → Prop} {W : WX} {t : XK → TE} {p1 p2 : Pos} {pins : List (Addr × Obj)} {σ : L2.St} {H : Hp} {s : Shared} {X : Cx}
    (I : L2.Inv X pins σ H s) (L : LamS X.env.scope scope) (hf : s.heap.get? f = some (PySem.W.kla_obj "<lambda>" (X.env.qual ++ "<lambda>") params body scope (cloFrom X.env.cells scope.names []) pm d ctv)) (newf : H f = none) (outf : f ∉ frs X.stack)
    (hbind : bindArgs (PySem.W.kla_fn "<lambda>" (X.env.qual ++ "<lambda>") params body scope (cloFrom X.env.cells scope.names []) pm (.ref d) ctv) ⟨[], []⟩ = pure [])
    (tk : Takes ((cxOf CXg X.prog X.w X.K X.mg X.base Ng qg sg g cdg X.A X.stack s H Eg).tr pn xe) W) (hr : Room (k + 1) (X.A.deeper (envOfC qg sg s.heap.objs.size g cdg)))
    (hbody : ∀ (A : Around) (outer : List Env) (s : Shared) (H : Hp) (E : XK), Room k (A.deeper (lamEnv X scope s.heap.objs.size f d)) → PE (lamCx X A outer s H E scope f d) body (t E))
    (hN : Ng[i]? = some a) (hv : Vis sg a) (hd : (a == ("__debug__" : Str)) = false) (hcd : (a == ("__classdict__" : Str)) = false) :
    PE ((cxOf CXg X.prog X.w X.K X.mg X.base Ng qg sg g cdg X.A X.stack s H Eg).tr pn xe) (.Call (.Name a p1) [] [] p2)
      (fun τ G Q => τ[i]? = some (some (.ref f)) ∧ G d = some (CodeO d (X.env.qual ++ "<lambda>")) ∧ t (fun cls dd G' => W cls dd τ G') σ G Q) := by
  refine ⟨fun pinsY sY τ G Q J hyp => ?_⟩
  obtain ⟨h1, h2, h3⟩ := hyp
  refine wpAny_Call_Name_kw (thn ((pe_var (pos := p1) (i := i) hN hv hd hcd).run pinsY sY τ G (fun v G1 => v = .ref f ∧ G1 = G) J ⟨.ref f, h1, rfl, rfl⟩) fun u s1 ⟨v, G1, J1, r1, e1, e2⟩ => ?_)
  subst e1
  rw [e2] at J1
  obtain rfl : u = Value.ref f := r1
  have getf : s1.heap.get? f = some (PySem.W.kla_obj "<lambda>" (X.env.qual ++ "<lambda>") params body scope (cloFrom X.env.cells scope.names []) pm d ctv) := J1.base.keep f _ hf newf outf (fun z => nomatch (show f ∈ ([] : List Addr) from z))
  refine PySem.W.callWith_F0 ⟨_, _, _, _, getf⟩ ?_
  have un : Un (frs X.stack) [] H G s.heap s1.heap := J1.base
  obtain ⟨⟨oc, vs, tt, k1, k2, k3⟩, _, _⟩ := J1.hok d _ h2
  have run : codeAny (model X.prog X.w) (X.A.deeper (envOfC qg sg s.heap.objs.size g cdg)) (.call (.ref f) ⟨[], []⟩) (CR (L2.CX X.prog X.w) (envOfC qg sg s.heap.objs.size g cdg :: X.stack) X.prog X.w G s1 Q (fun cls dd G' => W cls dd τ G')) s1 := by
    refine PySem.W.kla_callFunE hr.depth getf rfl L.co L.gen rfl ⟨d, oc, vs, tt, rfl, k1, k2, k3⟩ ?_
    rw [hbind]
    refine wpAny_pure (wpAny_newFunctionEnv (fun y hy => (L.own y hy).2) (fun y hy => absurd hy (by simp)) (fun g1 ns sb => ⟨J1.nolimit.fresh _ sb, ?_⟩) L.kind)
    show codeAny _ _ (.expr body (lamEnv X scope s1.heap.objs.size f d)) _ _
    have stays : ∀ b o, s1.heap.get? b = some o → g1.get? b = some o := fun b o e => sb.extBut b o (Nat.ne_of_lt (Heap.lt_size e)) (Heap.get?_push_of_some _ e)
    have J2 : L2.Inv (lamCx X (X.A.deeper (envOfC qg sg s.heap.objs.size g cdg)) (envOfC qg sg s.heap.objs.size g cdg :: X.stack) s1 G (fun cls dd G' => W cls dd τ G') scope f d) [] σ G { s1 with heap := g1, toks := s1.toks + ([] : List (Str × Value)).length } :=
      lam_start2 I L J1.env0 hr.hd un ns stays
    refine PySem.W.kla_codeExpr (wpAny_mono ((hbody _ _ s1 G _ (hr.deeper _)).run [] _ _ G Q J2 h3) (fun v s' hq => ?_) fun e s' hq => hq)
    obtain ⟨w', G', J3, rv, q⟩ := hq
    exact ⟨w', G', J3.os, J3.bare, J3.base, J3.hok, rv, q⟩
  refine wpAny_call (codeAny_mono run fun r s' hq => ?_)
  cases r with
  | error e => exact passAt tk τ pinsY G s1 e s' J1 hq
  | ok fl =>
    cases fl with
    | ret u => exact J1.after hq
    | next => exact False.elim hq
    | brk => exact False.elim hq
    | cont => exact False.elim hq
def Gives3 (X : Cx) (Ng : List Str) (x : Str) (sg : Scope) (g : Addr) (cdg : Value) (bg : List Stmt) (a : Str) (q : Str) (TT : (XK → Hp → VK → Prop) → Hp → VK → Prop) : Prop :=
  ∀ (f d : Addr) (s : Shared) (H : Hp) (Q : VK) (tl : XK → Hp → VK → Prop),
    (∀ (W : WX) (pn : List (Addr × Obj)) (xe : Value → Shared → Prop) (p1 p2 : Pos), Takes ((cxOf C8.CX0 X.prog X.w X.K X.mg X.base Ng x sg g cdg X.A X.stack s H C8.E0).tr pn xe) W →
      PE ((cxOf C8.CX0 X.prog X.w X.K X.mg X.base Ng x sg g cdg X.A X.stack s H C8.E0).tr pn xe) (.Call (.Name a p1) [] [] p2) (fun τ G Q => τ[0]? = some (some (.ref f)) ∧ G d = some (CodeO d q) ∧ tl (fun cls dd G' => W cls dd τ G') G Q)) →
    H d = some (CodeO d q) → TT tl H Q →
    ∃ t, PSs (cxOf C8.CX0 X.prog X.w X.K X.mg X.base Ng x sg g cdg X.A X.stack s H C8.E0).nox bg t ∧ t { nx := fun _ H' => Q .non H', rt := Q } (L2.start Ng [.ref f]) H
def tLam3 (T : List (Addr × Str)) (P : Addr) (TT : (XK → Hp → VK → Prop) → Hp → VK → Prop) (t : XK → TE) : TE := fun σ H Q => Tabs T H ∧ ∀ H1, ExtP P H H1 → Tabs T H1 → TT (fun E H' Q' => t E σ H' Q') H1 Q
section
variable {X : Cx}
theorem pe_lam3 {T : List (Addr × Str)} {TT : (XK → Hp → VK → Prop) → Hp → VK → Prop} {x a : Str} {g c P : Addr} {k : Nat} {pg : Arguments} {bg : List Stmt} {sg : Scope} {dV kV doc pm cdv ct oc : Value} {an od : Option Addr} {osl : Array (Option Value)} {Ng : List Str}
    {params : Arguments} {body : Expr} {scope : Scope} {t : XK → TE} {p lpos pos : Pos} (hg : Gl X x) (hm : X.mg x = some (.ref g)) (hk : PySem.W.keepIn X.K (.ref g) = true)
    (lk : X.K.lookup g = some ⟨oc, od, .func (PySem.W.fnOf x x pg bg sg dV kV doc pm an cdv ct), osl⟩) (hcg : PySem.W.codeIn X.K cdv x = true) (hb : L2.Binds X.K (PySem.W.fnOf x x pg bg sg dV kV doc pm an cdv ct) [a] []) (Sg : FnScope Ng [a] sg) (hNg : Ng[0]? = some a) (hva : Vis sg a)
    (hG : Gives3 X Ng x sg g cdv bg a (X.env.qual ++ "<lambda>") TT)
    (TB : TabB X.base X.mg c P) (hcode : X.env.code = .ref c) (hmem : (P, X.env.qual ++ "<lambda>") ∈ T) (huni : ∀ p ∈ T, p.1 = P → p.2 = X.env.qual ++ "<lambda>") (hr : Room (k + 2) X.A) (L : LamS X.env.scope scope) (hdef : defaultsOf params X.env = ([], []))
    (hbind : ∀ (q : Str) (cl : List (Str × Addr)) (pm cv ctv : Value), bindArgs (PySem.W.kla_fn "<lambda>" q params body scope cl pm cv ctv) ⟨[], []⟩ = pure [])
    (hbody : ∀ (A : Around) (outer : List Env) (s : Shared) (H : Hp) (E : XK) (f d : Addr), Room k (A.deeper (lamEnv X scope s.heap.objs.size f d)) → PE (lamCx X A outer s H E scope f d) body (t E))
    (hdb : (x == ("__debug__" : Str)) = false) (hd : (a == ("__debug__" : Str)) = false) (hcd : (a == ("__classdict__" : Str)) = false) :
    PE X (.Call (.Name x p) [.Lambda params body scope lpos] [] pos) (tLam3 T P TT t) := by
  refine ⟨fun pins s σ H Q I hyp => ?_⟩
  obtain ⟨hT, hyp⟩ := hyp
  refine wpAny_Call_Name_kw (ld_glob I hg hm (PySem.W.callWith_K (h₀ := X.base) I.ok.mod.kin hk ?_ (by rfl) (by rfl)) hdb)
  show wpAny _ _ (spliced ((false, eval (.Lambda params body scope lpos) X.env) :: backTo pos (starEach [] X.env))) _ _ s
  refine Calls.spliced_cons (lam_make3 I TB hcode hmem huni hT hdef (L.has I.ok) fun f d pm' ctv H1 s' I1 ext T1 getf newf nofr atd => Calls.spliced_nil ⟨I1.kIn, ?_⟩)
  refine wpAny_call (codeAny_mono (?_ : codeAny (model X.prog X.w) X.A (.call (.ref g) ⟨[.ref f], []⟩) (CR C8.CX0 X.stack X.prog X.w H1 s' Q C8.E0) s') fun r s2 hq => ?_)
  · refine run_ofS (N := Ng) (ps := [a]) (us := [.ref f]) (vs := [.ref f]) lk hcg Sg hr I1.env0 (hb s' [.ref f] I1.kIn rfl) (.cons rfl .nil) rfl fun hr' => ?_
    obtain ⟨u, hu, hq⟩ := hG f d s' H1 Q (fun E H' Q' => t E σ H' Q') (fun W pn xe p1 p2 tk => pe_act3 (i := 0) I1 L getf newf nofr (hbind _ _ _ _ _) tk hr' (fun A outer s H E hr2 => hbody A outer s H E f d hr2) hNg hva hd hcd) atd (hyp H1 ext T1)
    exact ⟨u, hu.nox, hq⟩
  · cases r with
    | error e => exact (show False from hq).elim
    | ok fl =>
      cases fl with
      | ret u => exact I1.after hq
      | next => exact False.elim hq
      | brk => exact False.elim hq
      | cont => exact False.elim hq
/-- the error that leaves the action, held on -/
def ECc (K : PySem.W.Frag) (CS L : Addr) (Q : VK) : XK := fun cls dd H' => H' L = some (.lst []) ∧ PySem.W.exmOne K cls (.ref CS) = some true ∧ dd = none ∧ ∃ C, cls = .ref C ∧ ∀ a H3, H' a = none → (∀ b o, b ≠ L → H' b = some o → H3 b = some o) → H3 a = some (ExcO C a) → Q (.ref a) H3
/-- what _law_caught(action) makes of its action -/
def TTc (K : PySem.W.Frag) (CS : Addr) : (XK → Hp → VK → Prop) → Hp → VK → Prop := fun tl H Q => ∀ L, H L = none → ∀ (E' : XK) (Q' : VK), (∀ cls dd H', ECc K CS L Q cls dd H' → E' cls dd H') →
  (∀ v H', H' L = some (.lst []) → (∀ H3, Same H' H3 → Q .non H3) → Q' v H') → tl E' (upd H L (.lst [])) Q'
theorem caught_gives {sg : Scope} {g CS : Addr} {cdg : Value} {q : Str} {rr : Nat} {n1 n2 : Nat} {p1 p2 p3 p4 p5 p6 p7 p8 p9 q1 q2 q3 q4 q5 q6 q7 q8 q9 r1 r2 r3 r4 r5 : Pos} (hr : Room (rr + 1) X.A) (nd : (["action", "found", "error"] : List Str).Nodup) (hf : sg.names.lookup ("found" : Str) = some .local) (he : sg.names.lookup ("error" : Str) = some .local) (hR : sg.names.lookup ("ReadError" : Str) = some .globalImplicit) (hmR : X.mg "ReadError" = some (.ref CS)) (hl : (p9.endLine == q2.line) = true) :
    Gives3 X ["action", "found", "error"] "_law_caught" sg g cdg
      [.Assign [.Name "found" p1] (.List [] p2) p3,
       .Try [.Expr (.Call (.Name "action" p4) [] [] p5) p6] [.ExceptHandler (some (.Name "ReadError" p7)) (some "error") [.Expr (.Call (.Attribute (.Name "found" p8) "append" p9) [.Name "error" q1] [] q2) q3] q4] [] [] q5,
       .Return (some (.IfExp (.Compare (.Name "found" q6) [.NotEq] [.List [] q7] q8) (.Subscript (.Name "found" q9) (.Constant (.int 0) n1 r1) r2) (.Constant .none n2 r3) r4)) r5] "action" q (TTc X.K CS) := by
  intro f c' s H Q tl act hc hTT
  have u60 : (cxOf C8.CX0 X.prog X.w X.K X.mg X.base ["action", "found", "error"] "_law_caught" sg g cdg X.A X.stack s H C8.E0).nox.A.units + 60 < cLine := by
    have := (hr.deeper (envOfC "_law_caught" sg s.heap.objs.size g cdg)).un
    show (X.A.deeper _).units + 60 < cLine
    omega
  have v1 : PE (cxOf C8.CX0 X.prog X.w X.K X.mg X.base ["action", "found", "error"] "_law_caught" sg g cdg X.A X.stack s H C8.E0).nox (.Name "found" q6) (tVar 1) := pe_var rfl (.inl hf)
  have v2 : PE (cxOf C8.CX0 X.prog X.w X.K X.mg X.base ["action", "found", "error"] "_law_caught" sg g cdg X.A X.stack s H C8.E0).nox (.Name "found" q9) (tVar 1) := pe_var rfl (.inl hf)
  refine ⟨_, pss_cons (ps_set (i := 1) nd rfl (.inl hf) (pe_lst pa_nil)) (pss_cons (ps_try_hold (X := (cxOf C8.CX0 X.prog X.w X.K X.mg X.base ["action", "found", "error"] "_law_caught" sg g cdg X.A X.stack s H C8.E0).nox) (c := .ref CS) (i := 2)
      (tb := fun W Dn σ H => σ[0]? = some (some (.ref f)) ∧ H c' = some (CodeO c' q) ∧ tl (fun cls d H' => W cls d σ H') H fun _ H1 => Dn.nx σ H1)
      rfl rfl nd rfl he rfl ⟨hR, by decide, .inl hmR⟩ L2.takes0 (fun W pn xe tk _ => ?_) (ts := fun _ => tDrop (tBM X.K "list" rAppend (tVar 1) (tCons (tVar 2) tNil))) (fun a pn => pss_one (ps_expr (by exact pe_bm PySem.F.plainAttrs_list PySem.F.slot_list_append PySem.F.type_list_append mt_append (pe_var (x := "found") (i := 1) rfl (.inl hf)) (pa_cons (pe_var (x := "error") (i := 2) rfl (.inl he)) pa_nil) rfl rfl hl))))
    (pss_one (ps_ret (pe_ifExp (pt_cmpR (opr_ne u60) v1 (pe_lst pa_nil) rfl) (pe_ix ix_seq v2 pe_int (fun _ _ => rfl)) pe_non)))), ?_⟩
  · refine ⟨fun pins s' σ H' Dn I h' => ?_⟩
    exact (pss_one (ps_expr (pos := p6) (act W pn xe p4 p5 tk))).run pins s' σ H' Dn I h'
  · refine ⟨by decide, fun L hL => ?_⟩
    have hc2 : upd H L (.lst []) c' = some (CodeO c' q) := by rw [upd_ne (ne_of_none hc hL)]; exact hc
    refine ⟨rfl, hc2, hTT L hL _ _ (fun cls dd H' hE => ?_) fun v H' hG hQ => ?_⟩
    · obtain ⟨k1, k2, rfl, C, rfl, k5⟩ := hE
      refine ⟨true, k2, fun _ => ⟨rfl, C, rfl, fun a ha => ?_⟩, fun z => nomatch z⟩
      have na : L ≠ a := fun z => by rw [z, ha] at k1; cases k1
      refine ⟨.ref L, rfl, .inl ⟨rfl, [], SqL.of k1⟩, .ref a, rfl, L, [], .ref a, rfl, rfl, k1, by decide, ?_, ?_⟩
      · rw [upd_ne na.symm]; exact ha
      · have hL2 : upd (upd H' L (.lst [.ref a])) a (ExcO C a) L = some (.lst [.ref a]) := by rw [upd_ne na, upd_same]
        have hA2 : upd (upd H' L (.lst [.ref a])) a (ExcO C a) a = some (ExcO C a) := upd_same
        refine ⟨.ref L, rfl, by decide, fun p hp => ?_⟩
        refine .inr (.inr ⟨L, p, [.ref a], [], [.exc C], [], rfl, rfl, SqL.of (same_new hp _ _ hL2), SqL.of upd_same, .one (by simp only [Rep]; exact ⟨a, rfl, same_new hp _ _ hA2⟩), .nil, .inl (by simp), true, rfl, ?_⟩)
        refine ⟨.ref L, rfl, .inl ⟨L, [.ref a], 0, .ref a, rfl, rfl, SqL.of (same_new hp _ _ hL2), rfl, k5 a _ ha (fun b o nb e => ?_) (same_new hp _ _ hA2)⟩⟩
        refine same_new hp _ _ ?_
        rw [upd_ne (ne_of_none e ha), upd_ne nb]
        exact e
    · refine ⟨.ref L, rfl, by decide, fun p hp => ?_⟩
      refine .inr (.inr ⟨L, p, [], [], [], [], rfl, rfl, SqL.of (same_new hp _ _ hG), SqL.of upd_same, .nil, .nil, .inr ⟨rfl, rfl⟩, false, rfl, ?_⟩)
      exact hQ _ (same_new hp)
end
end DL

set_option maxRecDepth 100000
set_option maxHeartbeats 2000000
/-! DL16: _law_caught(lambda: e) over data. -/
namespace DL
open PySem PySem.Spec PyProof.Rows L2 LamX
structure TabU (U : Vol) (P : Addr) (T : List (Addr × Str)) : Prop where
  tabs : ∀ n H, U.J n H → Tabs T H
  inS : U.S P
  grow : ∀ n H H1, U.J n H → ExtP P H H1 → Tabs T H1 → U.J n H1
theorem tabU_st {st gr ce P : Addr} {cs : List Int} {T : List (Addr × Str)} (h : ∃ q, (P, q) ∈ T) : TabU (stU st gr ce cs T) P T where
  tabs := fun n H ⟨gs, r, t, h0, h1, h2, h3, h4, h5, h6, h7⟩ => h7
  inS := by
    obtain ⟨q, hq⟩ := h
    exact .inr (.inr (.inr ⟨_, hq, rfl⟩))
  grow := fun n H H1 ⟨gs, r, t, h0, h1, h2, h3, h4, h5, h6, h7⟩ e hT => by
    obtain ⟨q, hq⟩ := h
    obtain ⟨ps, hP, _⟩ := h7 _ hq
    have n : ∀ {a : Addr} {o : HO}, H a = some o → (∀ ps, o ≠ .tbl ps) → a ≠ P := fun {a o} h n z => by
      rw [z] at h
      rw [show H P = _ from hP] at h
      cases h
      exact n _ rfl
    exact ⟨gs, r, t, h0, e _ _ h1 (n h1 fun _ z => nomatch z), e _ _ h2 (n h2 fun _ z => nomatch z), e _ _ h3 (n h3 fun _ z => nomatch z), h4, h5, h6, hT⟩
structure LA where
  A : Around
  outer : List Env
  s : Shared
  H : Hp
  f : Addr
  d : Addr
def lamF {ι : Type} (Xs : ι → Cx) (scope : Scope) (E : XK) (k : Nat) : {q : ι × LA // Room k (q.2.A.deeper (lamEnv (Xs q.1) scope q.2.s.heap.objs.size q.2.f q.2.d))} → Cx :=
  fun q => lamCx (Xs q.1.1) q.1.2.A q.1.2.outer q.1.2.s q.1.2.H E scope q.1.2.f q.1.2.d
def eCaught (K : PySem.W.Frag) (CS : Addr) (m : ME) : ME := fun ρ k x => m ρ (fun _ ρ1 => k .non ρ1) (fun xn ρ1 => match xn with
  | .own C => PySem.W.exmOne K (.ref C) (.ref CS) = some true ∧ k (.exc C) ρ1
  | _ => False)
section
variable {ι : Type} {Xs : ι → Cx} {P : Program} {w : World} {K : PySem.W.Frag} {mg : Str → Option Value} {base : Heap} {U : Vol} {E : XS} {lv : Nat} {scope : Scope} {m : ME}
theorem Fam.lam (F : Fam Xs P w K mg base E lv) (scope : Scope) (E' : XK) (k : Nat) : Fam (lamF Xs scope E' k) P w K mg base (fun _ => E') k where
  p := fun q => F.p q.1.1
  w := fun q => F.w q.1.1
  k := fun q => F.k q.1.1
  mg := fun q => F.mg q.1.1
  base := fun q => F.base q.1.1
  calm := fun q => rfl
  nd := fun q => F.nd q.1.1
  room := fun q => q.2
  pass := fun q σ => fun pins H' s' e s'' I c => passes_call (X := lamF Xs scope E' k q) (takes_of rfl rfl rfl rfl) (fun _ _ _ _ h => h) pins σ H' s' e s'' I c
  own := fun q => passes_of (X := lamF Xs scope E' k q) rfl
  tk := fun q => takes_of (X := lamF Xs scope E' k q) rfl rfl rfl rfl
theorem snd_caught {T : List (Addr × Str)} {Pt CS : Addr} {t : XK → TE} (TU : TabU U Pt T) (h : ∀ E' : XK, SndE K U (fun _ => E') (t E') m) : SndE K U E (tLam3 T Pt (TTc K CS) t) (eCaught K CS m) := by
  intro Z σ ρ H k x Q I h0 q X
  refine ⟨TU.tabs _ H I.vj, fun H1 e1 hT1 L hL E' Q' hE hQ => ?_⟩
  obtain ⟨I1, T1⟩ := I.after (fun a o n1 _ h3 => ⟨e1 a o h3 fun z => n1 (z ▸ TU.inS), id⟩) (TU.grow _ H H1 I.vj e1 hT1)
  obtain ⟨I2, _⟩ := I1.more (o := .lst []) hL
  have T2 : Tr U.S (Owns σ ρ) H (Owns σ ρ) (upd H1 L (.lst [])) := T1.trans (.of_same (same_new hL))
  have nS : ¬ U.S L := fun z => I1.fresh hL (.inl z)
  have keep : ∀ {l : Addr → Prop} {H' : Hp}, Tr U.S (Owns σ ρ) (upd H1 L (.lst [])) l H' → H' L = some (.lst []) := fun t => (t L _ nS (fun z => I1.fresh hL (.inr (.inr z))) upd_same).1
  refine h E' _ σ ρ _ _ _ Q' I2 h0 (fun d ρ' v H' T' I' r' k' => hQ v H' (keep T') fun H3 e3 => ?_) fun xn cls dd ρ' H' T' I' hx k' => hE cls dd H' ?_
  · exact q .non ρ' .non H3 ((T2.trans T').trans (.of_same e3)) (I'.less.1.same e3) (by simp only [Rep]) k'
  · split at k'
    · rename_i C
      obtain ⟨rfl, rfl⟩ := (show cls = .ref C ∧ dd = none from hx)
      refine ⟨keep T', k'.1, rfl, C, rfl, fun a H3 ha e3 hA => ?_⟩
      have TZ : ∀ b o, b ≠ L → H' b = some o → H3 b = some o := e3
      have I3 : EnvOk K U Z σ ρ' H3 ∧ Tr U.S (Owns σ ρ') H' (Owns σ ρ') (H3) ∨ True := .inr trivial
      -- the list at L is hidden, then forgotten
      have IL := I'
      have hv : Same (VH U (fun a => Z a ∨ a = L) σ ρ' H') (VH U (fun a => Z a ∨ a = L) σ ρ' H3) := fun b o hb => by
        obtain ⟨z, hb⟩ := hide_some hb
        exact (hide_no z).trans (e3 b o (fun y => z (.inr (.inl (.inr y)))) hb)
      have nLo : ∀ p, Owns σ ρ' p → p ≠ L := fun p hp y => (IL.oz p hp).2 (.inr y)
      have hzL : H3 L ≠ none ∨ H3 L = none := by cases H3 L <;> simp
      have jL : U.J ρ'.c H3 := U.stay _ H' H3 IL.vj fun b o hb hs => by
        by_cases y : b = L
        · subst y
          rw [keep T'] at hb
          cases hb
          rcases hs with hs | hs
          · exact (nS hs).elim
          · exact hs.elim
        · exact e3 b o y hb
      have I4 : EnvOk K U Z σ ρ' H3 := by
        have base3 := IL.less
        refine ⟨IL.len, fun i d hd => ?_, fun i c hc => ?_, IL.one, jL, fun b hb => ?_, fun b hb => IL.zs b (.inl hb), fun p hp => ⟨(IL.oz p hp).1, fun y => (IL.oz p hp).2 (.inl y)⟩⟩
        · obtain ⟨v, g1, g2⟩ := IL.dat i d hd
          refine ⟨v, g1, (g2.mono hv).mono (hide_less fun b => ?_)⟩
          rintro (y | y | y)
          · exact .inl y
          · exact .inr (.inl (.inl y))
          · exact .inr (.inr y)
        · obtain ⟨p, o, g1, g2, g3⟩ := IL.own i c hc
          refine ⟨p, o, g1, e3 p o (nLo p ⟨i, g1, c, hc⟩) g2, (g3.mono hv).mono (hide_less fun b => ?_)⟩
          rintro (y | y | y)
          · exact .inl y
          · exact .inr (.inl (.inl y))
          · exact .inr (.inr y)
        · obtain ⟨o, g, gf⟩ := IL.zt b (.inl hb)
          by_cases y : b = L
          · subst y
            exact (I1.fresh hL (.inr (.inl hb))).elim
          · exact ⟨o, e3 b o y g, gf⟩
      refine q (.exc C) ρ' (.ref a) H3 (fun b o n1 n2 hb => ?_) I4 ?_ k'.2
      · have nb : b ≠ L := ne_of_none (T1 b o n1 n2 hb).1 hL
        obtain ⟨g1, g2⟩ := (T2.trans T') b o n1 n2 hb
        exact ⟨e3 b o nb g1, g2⟩
      · simp only [Rep]
        refine ⟨a, rfl, (hide_no fun y => ?_).trans hA⟩
        obtain ⟨o, g⟩ := IL.hidden (p := a) (y.elim .inl fun y => y.elim (fun y => .inr (.inl (.inl y))) fun y => .inr (.inr y))
        rw [ha] at g; cases g
    · exact k'.elim
theorem de_caught (F : Fam Xs P w K mg base E lv) {CS c Pt : Addr} {g : Addr} {k : Nat} {pg : Arguments} {bg : List Stmt} {sg : Scope} {dV kV doc pm cdv ct oc : Value} {an od : Option Addr} {osl : Array (Option Value)} {Ng : List Str} {q : Str} {T : List (Addr × Str)} {params : Arguments} {body : Expr} {p lpos pos : Pos}
    (hm : mg "_law_caught" = some (.ref g)) (hk : PySem.W.keepIn K (.ref g) = true) (lk : K.lookup g = some ⟨oc, od, .func (PySem.W.fnOf "_law_caught" "_law_caught" pg bg sg dV kV doc pm an cdv ct), osl⟩) (hcg : PySem.W.codeIn K cdv "_law_caught" = true)
    (hb : L2.Binds K (PySem.W.fnOf "_law_caught" "_law_caught" pg bg sg dV kV doc pm an cdv ct) ["action"] []) (Sg : FnScope Ng ["action"] sg) (hNg : Ng[0]? = some ("action" : Str)) (hva : Vis sg "action")
    (hG : ∀ j, Gives3 (Xs j) Ng "_law_caught" sg g cdv bg "action" q (TTc K CS)) (TB : TabB base mg c Pt) (TU : TabU U Pt T) (hmem : (Pt, q) ∈ T) (huni : ∀ p ∈ T, p.1 = Pt → p.2 = q) (hkl : k + 2 ≤ lv)
    (hbody : ∀ E' : XK, DE (lamF Xs scope E' k) K U (fun _ => E') body m)
    (hcode : ∀ j, (Xs j).env.code = .ref c := by intro _; rfl) (hq : ∀ j, (Xs j).env.qual ++ "<lambda>" = q := by intro _; rfl) (hg : ∀ j, Gl (Xs j) "_law_caught" := by intro _; rfl) (L : ∀ j, lamSB (Xs j).env.scope scope = true := by intro _; rfl) (hdef : ∀ j, defaultsOf params (Xs j).env = ([], []) := by intro _; rfl)
    (hbind : ∀ (q : Str) (cl : List (Str × Addr)) (pm cv ctv : Value), bindArgs (PySem.W.kla_fn "<lambda>" q params body scope cl pm cv ctv) ⟨[], []⟩ = pure [] := by intro _ _ _ _ _; rfl) :
    DE Xs K U E (.Call (.Name "_law_caught" p) [.Lambda params body scope lpos] [] pos) (eCaught K CS m) := by
  have ch : ∀ E' : XK, ∃ t, (∀ i, PE (lamF Xs scope E' k i) body t) ∧ SndE K U (fun _ => E') t m := hbody
  refine ⟨tLam3 T Pt (TTc K CS) fun E' => (ch E').choose, fun j => ?_, snd_caught TU fun E' => (ch E').choose_spec.2⟩
  refine pe_lam3 (g := g) (c := c) (k := k) (hg j) (by rw [F.mg j]; exact hm) (by rw [F.k j]; exact hk) (by rw [F.k j]; exact lk) (by rw [F.k j]; exact hcg) (by rw [F.k j]; exact hb) Sg hNg hva (by rw [hq j]; exact hG j) (by rw [F.base j, F.mg j]; exact TB) (hcode j) (by rw [hq j]; exact hmem) (by rw [hq j]; exact huni)
    ((F.room j).mono hkl) (lamS_by (L j)) (hdef j) hbind (fun A outer s H E' f d hr => ?_) (by decide) (by decide) (by decide)
  exact (ch E').choose_spec.1 ⟨(j, ⟨A, outer, s, H, f, d⟩), hr⟩
end
end DL

set_option maxRecDepth 100000
set_option maxHeartbeats 1000000
/-! DL17: the meanings, unfolded by simp. -/
namespace DL
open PySem PySem.Spec PyProof.Rows L2
section
variable (ρ : EnvD) (k : KD) (x : KX) (kt : Bool → EnvD → Prop) (ka : List D → EnvD → Prop) (K0 : MK) (i j l n : Nat) (d a b : D) (ds : List D) (f g : D → D → (D → Prop) → Prop) (f1 : D → (D → Prop) → Prop) (fa : List D → (D → Prop) → Prop) (ma mb mc m : ME) (mA : MA) (mt mt' : MT) (kn : EnvD → Prop) (mG : MG) (mGs : MGs) (mi : MI) (s1 s2 : MS) (fl : EnvD → (List D → EnvD → Prop) → KX → Prop) (fc : Nat → List D → (D → Nat → Prop) → (Xn → Nat → Prop) → Prop) (vs : List Nat)
@[simp] theorem st_mk (l : List Slot) (c : Nat) (s : Slot) : EnvD.st ⟨l, c⟩ i s = ⟨l.set i s, c⟩ := rfl
@[simp] theorem at_mk (l : List Slot) (c m : Nat) : EnvD.at ⟨l, c⟩ m = ⟨l, m⟩ := rfl
@[simp] theorem x_sz : sizeLine = 16777216 := by decide
@[simp ↓] theorem x_eVar : eVar i ρ k x = (match ρ.l[i]? with
  | some (.dat d) => k d ρ
  | _ => False) := propext Iff.rfl
@[simp ↓] theorem x_eC : eC d ρ k x = k d ρ := propext Iff.rfl
@[simp ↓] theorem x_eOp : eOp f ma mb ρ k x = ma ρ (fun d1 ρ1 => mb ρ1 (fun d2 ρ2 => f d1 d2 fun d => k d ρ2) x) x := propext Iff.rfl
@[simp ↓] theorem x_eUn : eUn f1 ma ρ k x = ma ρ (fun d1 ρ1 => f1 d1 fun d => k d ρ1) x := propext Iff.rfl
@[simp ↓] theorem x_eCa : eCa fa mA ρ k x = mA ρ (fun ds ρ1 => fa ds fun d => k d ρ1) x := propext Iff.rfl
@[simp ↓] theorem x_eTest : eTest m ρ kt x = m ρ (fun d ρ1 => match d with
  | .bl c => kt c ρ1
  | _ => False) x := propext Iff.rfl
@[simp ↓] theorem x_eChain : eChain f g ma mb mc ρ k x = ma ρ (fun d1 ρ1 => mb ρ1 (fun d2 ρ2 => f d1 d2 fun d => match d with
  | .bl true => mc ρ2 (fun d3 ρ3 => g d2 d3 fun d => k d ρ3) x
  | .bl false => k (.bl false) ρ2
  | _ => False) x) x := propext Iff.rfl
@[simp ↓] theorem x_eTru : eTru m ρ kt x = m ρ (fun d ρ1 => truD d fun b => kt b ρ1) x := propext Iff.rfl
@[simp ↓] theorem x_eOrV : eOrV ma mb ρ k x = ma ρ (fun d ρ1 => truD d fun b => if b = true then k d ρ1 else mb ρ1 k x) x := propext Iff.rfl
@[simp ↓] theorem x_eAndV : eAndV ma mb ρ k x = ma ρ (fun d ρ1 => truD d fun b => if b = true then mb ρ1 k x else k d ρ1) x := propext Iff.rfl
@[simp ↓] theorem x_eNotV : eNotV ma ρ k x = ma ρ (fun d ρ1 => truD d fun b => k (.bl (!b)) ρ1) x := propext Iff.rfl
@[simp ↓] theorem x_tAndM : tAndM mt mt' ρ kt x = mt ρ (fun b ρ1 => if b = true then mt' ρ1 kt x else kt false ρ1) x := propext Iff.rfl
@[simp ↓] theorem x_tOrM : tOrM mt mt' ρ kt x = mt ρ (fun b ρ1 => if b = true then kt true ρ1 else mt' ρ1 kt x) x := propext Iff.rfl
@[simp ↓] theorem x_tNotM : tNotM mt ρ kt x = mt ρ (fun b ρ1 => kt (!b) ρ1) x := propext Iff.rfl
@[simp ↓] theorem x_eIf : eIf mt ma mb ρ k x = mt ρ (fun b ρ1 => if b = true then ma ρ1 k x else mb ρ1 k x) x := propext Iff.rfl
@[simp ↓] theorem x_aNil : aNil ρ ka x = ka [] ρ := propext Iff.rfl
@[simp ↓] theorem x_aCons : aCons m mA ρ ka x = m ρ (fun d ρ1 => mA ρ1 (fun ds ρ2 => ka (d :: ds) ρ2) x) x := propext Iff.rfl
@[simp ↓] theorem x_eTup : eTup mA ρ k x = mA ρ (fun ds ρ1 => ds.length ≤ sizeLine ∧ k (.tup ds) ρ1) x := propext Iff.rfl
@[simp ↓] theorem x_fLst : fLst mA ρ ka x = mA ρ (fun ds ρ1 => ds.length ≤ sizeLine ∧ ka ds ρ1) x := propext Iff.rfl
@[simp ↓] theorem x_eF : eF fl ρ k x = fl ρ (fun ds ρ1 => k (.lst ds) ρ1) x := propext Iff.rfl
@[simp ↓] theorem x_eCall : eCall fc mA ρ k x = mA ρ (fun ds ρ1 => fc ρ1.c ds (fun d n => k d (ρ1.at n)) (fun xn n => x xn (ρ1.at n))) x := propext Iff.rfl
@[simp ↓] theorem x_eCall0 : eCall0 fc mA ρ k x = mA ρ (fun ds ρ1 => fc ρ1.c ds (fun d n => k d (ρ1.at n)) (fun _ _ => False)) x := propext Iff.rfl
@[simp ↓] theorem x_eCallKw (gD : List D → List D) : eCallKw fc gD mA ρ k x = mA ρ (fun ds ρ1 => fc ρ1.c (gD ds) (fun d n => k d (ρ1.at n)) (fun xn n => x xn (ρ1.at n))) x := propext Iff.rfl
@[simp ↓] theorem x_eRev : eRev m ρ k x = m ρ (fun d ρ1 => match d with
    | .lst ds => k (.lst ds.reverse) ρ1
    | _ => False) x := propext Iff.rfl
@[simp ↓] theorem x_iLst : iLst m ρ ka x = m ρ (fun d ρ1 => match d with
  | .lst ds => ka ds ρ1
  | .scr ns => ka (ns.map D.int) ρ1
  | _ => False) x := propext Iff.rfl
@[simp ↓] theorem x_iTpl : iTpl m ρ ka x = m ρ (fun d ρ1 => match d with
  | .tup ds => ka ds ρ1
  | _ => False) x := propext Iff.rfl
@[simp ↓] theorem x_iTxt : iTxt m ρ ka x = m ρ (fun d ρ1 => match d with
  | .str z => ka (signs z) ρ1
  | _ => False) x := propext Iff.rfl
@[simp ↓] theorem x_iR1 : iR1 mA ρ ka x = mA ρ (fun ds ρ1 => match ds with
  | [.int j] => -(2 ^ 62) ≤ j ∧ j < 2 ^ 62 ∧ ka (rngL 0 j.toNat) ρ1
  | _ => False) x := propext Iff.rfl
@[simp ↓] theorem x_iR2 : iR2 mA ρ ka x = mA ρ (fun ds ρ1 => match ds with
  | [.int i, .int j] => (-(2 ^ 62) ≤ i ∧ i < 2 ^ 62 ∧ -(2 ^ 62) ≤ j ∧ j < 2 ^ 62) ∧ ka (rngL i (j - i).toNat) ρ1
  | _ => False) x := propext Iff.rfl
@[simp ↓] theorem x_iZp : iZp mA ρ ka x = mA ρ (fun ds ρ1 => match ds with
  | [.tup as, .tup bs] => ka (pairs as bs) ρ1
  | [.lst as, .lst bs] => ka (pairs as bs) ρ1
  | _ => False) x := propext Iff.rfl
@[simp ↓] theorem x_iEn : iEn mA ρ ka x = mA ρ (fun ds ρ1 => match ds with
  | [.lst as] => ka (enumL as) ρ1
  | _ => False) x := propext Iff.rfl
@[simp ↓] theorem x_gNm : gNm i d ρ kn = kn (ρ.st i (.dat d)) := propext Iff.rfl
@[simp ↓] theorem x_gNl : gNl ds ρ kn = (match ds with
  | [] => kn ρ
  | _ => False) := propext Iff.rfl
@[simp ↓] theorem x_gCs : gCs mG mGs ds ρ kn = (match ds with
  | d :: ds => mG d ρ fun ρ1 => mGs ds ρ1 kn
  | _ => False) := propext Iff.rfl
@[simp ↓] theorem x_gTp : gTp mGs n d ρ kn = (match d with
  | .tup ds => ds.length = n ∧ mGs ds ρ kn
  | _ => False) := propext Iff.rfl
@[simp ↓] theorem x_sNext : sNext K0 ρ = K0.nx ρ := propext Iff.rfl
@[simp ↓] theorem x_sSeq : sSeq s1 s2 K0 ρ = s1 { K0 with nx := s2 K0 } ρ := propext Iff.rfl
@[simp ↓] theorem x_sBreak : sBreak K0 ρ = K0.bk ρ := propext Iff.rfl
@[simp ↓] theorem x_sCont : sCont K0 ρ = K0.ct ρ := propext Iff.rfl
@[simp ↓] theorem x_sDrop : sDrop m K0 ρ = m ρ (fun _ ρ1 => K0.nx ρ1) K0.xn := propext Iff.rfl
@[simp ↓] theorem x_sRet : sRet m K0 ρ = m ρ K0.rt K0.xn := propext Iff.rfl
@[simp ↓] theorem x_sRetN : sRetN K0 ρ = K0.rt .non ρ := propext Iff.rfl
@[simp ↓] theorem x_sIf : sIf mt s1 s2 K0 ρ = mt ρ (fun t ρ1 => if t = true then s1 K0 ρ1 else s2 K0 ρ1) K0.xn := propext Iff.rfl
@[simp ↓] theorem x_sAsg : sAsg m mG K0 ρ = m ρ (fun d ρ1 => mG d ρ1 K0.nx) K0.xn := propext Iff.rfl
@[simp ↓] theorem x_sFor : sFor mi mG s1 K0 ρ = mi ρ (fun ds ρ1 => forM mG s1 K0 ds ρ1) K0.xn := propext Iff.rfl
@[simp ↓] theorem x_sFrz : sFrz i s1 K0 ρ = (match ρ.l[i]? with
  | some (.own (.lst ds)) => s1 K0 (ρ.st i (.dat (.lst ds)))
  | _ => False) := propext Iff.rfl
@[simp ↓] theorem x_sOwn : sOwn i fl K0 ρ = fl ρ (fun ds ρ1 => i < ρ1.l.length ∧ K0.nx (ρ1.st i (.own (.lst ds)))) K0.xn := propext Iff.rfl
@[simp ↓] theorem x_fLc : fLc mi mG mt m vs ρ ka x = mi ρ (fun ds ρ1 => lcM mG mt m vs ka ds [] (wipeD ρ1 vs)) x := propext Iff.rfl
@[simp ↓] theorem x_tYes : tYesM ρ kt x = kt true ρ := propext Iff.rfl
@[simp ↓] theorem x_eApp : eApp i m ρ k x = m ρ (fun d ρ1 => match ρ1.l[i]? with
  | some (.own (.lst ds)) => ds.length < sizeLine ∧ k .non (ρ1.st i (.own (.lst (ds ++ [d]))))
  | _ => False) x := propext Iff.rfl
@[simp ↓] theorem x_eAppM : eAppM i m ρ k x = ((∃ c, ρ.l[i]? = some (.own (.lst c))) ∧ eApp i m ρ k x) := propext Iff.rfl
@[simp ↓] theorem x_sAug : sAug i f m K0 ρ = (match ρ.l[i]? with
  | some (.dat d) => m ρ (fun d2 ρ1 => f d d2 fun d3 => K0.nx (ρ1.st i (.dat d3))) K0.xn
  | _ => False) := propext Iff.rfl
@[simp ↓] theorem x_sPar : sPar i j mA K0 ρ = mA ρ (fun ds ρ1 => match ds with
  | [a, b] => K0.nx ((ρ1.st i (.dat a)).st j (.dat b))
  | _ => False) K0.xn := propext Iff.rfl
@[simp ↓] theorem x_sPar3 : sPar3 i j l mA K0 ρ = mA ρ (fun ds ρ1 => match ds with
  | [a, b, c] => K0.nx (((ρ1.st i (.dat a)).st j (.dat b)).st l (.dat c))
  | _ => False) K0.xn := propext Iff.rfl
@[simp ↓] theorem x_sRaise (C : Addr) : sRaise C K0 ρ = K0.xn (.own C) ρ := propext Iff.rfl
@[simp ↓] theorem x_eNone : eNone ρ k x = False := propext Iff.rfl
@[simp ↓] theorem x_sNone : sNone K0 ρ = False := propext Iff.rfl
@[simp ↓] theorem x_iNone : iNone ρ ka x = False := propext Iff.rfl
@[simp ↓] theorem x_eStR (U : Vol) : eStR U i ρ k x = (IsSt U ρ i ∧ ∀ r : Int, 0 ≤ r → k (.int r) ρ) := propext Iff.rfl
@[simp ↓] theorem x_eStT (U : Vol) : eStT U i ρ k x = (IsSt U ρ i ∧ k (.int (ρ.c : Nat)) ρ) := propext Iff.rfl
@[simp ↓] theorem x_iStC (U : Vol) : iStC U i ρ ka x = (IsSt U ρ i ∧ ∀ cs : List Int, ka (cs.map D.int) ρ) := propext Iff.rfl
@[simp ↓] theorem x_sStR (U : Vol) : sStR U i m K0 ρ = m ρ (fun d ρ1 => IsSt U ρ1 i ∧ match d with
  | .int r => 0 ≤ r ∧ K0.nx ρ1
  | _ => False) K0.xn := propext Iff.rfl
@[simp ↓] theorem x_sStT (U : Vol) : sStT U i m K0 ρ = m ρ (fun d ρ1 => IsSt U ρ1 i ∧ match d with
  | .int r => 0 ≤ r ∧ K0.nx (ρ1.at r.toNat)
  | _ => False) K0.xn := propext Iff.rfl
@[simp ↓] theorem x_eStG (U : Vol) : eStG U i m ρ k x = (IsSt U ρ i ∧ (∀ g : Int, 0 ≤ g → k (.int g) ρ) ∧ m ρ k x) := propext Iff.rfl
@[simp ↓] theorem x_eCaught (K : PySem.W.Frag) (CS : Addr) : eCaught K CS m ρ k x = m ρ (fun _ ρ1 => k .non ρ1) (fun xn ρ1 => match xn with
  | .own C => PySem.W.exmOne K (.ref C) (.ref CS) = some true ∧ k (.exc C) ρ1
  | _ => False) := propext Iff.rfl
@[simp] theorem forM_nil : forM mG s1 K0 [] ρ = K0.nx ρ := propext Iff.rfl
theorem forM_cons : forM mG s1 K0 (d :: ds) ρ = mG d ρ fun ρ1 => s1 { K0 with nx := forM mG s1 K0 ds, ct := forM mG s1 K0 ds, bk := K0.nx } ρ1 := propext Iff.rfl
@[simp] theorem lcM_nil (acc : List D) : lcM mG mt m vs ka [] acc ρ = ka acc (wipeD ρ vs) := propext Iff.rfl
theorem lcM_cons (acc : List D) : lcM mG mt m vs ka (d :: ds) acc ρ = mG d ρ fun ρ1 => mt ρ1 (fun b ρ2 => if b = true then m ρ2 (fun y ρ3 => acc.length < sizeLine ∧ lcM mG mt m vs ka ds (acc ++ [y]) (wipeD ρ3 vs)) xF else lcM mG mt m vs ka ds acc (wipeD ρ2 vs)) xF := propext Iff.rfl
@[simp] theorem x_wipeD (l : List Slot) (c : Nat) : wipeD ⟨l, c⟩ vs = ⟨wipeL l vs, c⟩ := rfl
@[simp] theorem x_wipe0 (l : List Slot) : wipeL l [] = l := rfl
@[simp] theorem x_wipe1 (l : List Slot) (v : Nat) : wipeL l (v :: vs) = (wipeL l vs).set v .no := rfl
@[simp ↓] theorem x_MKf_nx (k : D → Nat → Prop) (x : Xn → Nat → Prop) : (MKf k x).nx ρ = k .non ρ.c := propext Iff.rfl
@[simp ↓] theorem x_MKf_rt (k : D → Nat → Prop) (x : Xn → Nat → Prop) : (MKf k x).rt d ρ = k d ρ.c := propext Iff.rfl
@[simp ↓] theorem x_MKf_xn (k : D → Nat → Prop) (x : Xn → Nat → Prop) (xn : Xn) : (MKf k x).xn xn ρ = x xn ρ.c := propext Iff.rfl
end
/-- str(i); a < b of texts -/
def sI (i : Int) : Str := Str.ofString (toString i)
def sLt (a b : Str) : Bool := decide (a.cps.toList < b.cps.toList)
section
variable (i j : Int) (a b z : Str) (as bs : List D) (p q : Bool) (k : D → Prop) (kb : Bool → Prop) (d e : D)
@[simp ↓] theorem x_add_i : add2D (.int i) (.int j) k = k (.int (i + j)) := propext Iff.rfl
@[simp ↓] theorem x_add_s : add2D (.str a) (.str b) k = (a.length + b.length ≤ sizeLine ∧ k (.str (a ++ b))) := propext Iff.rfl
@[simp ↓] theorem x_add_t : add2D (.tup as) (.tup bs) k = (as.length + bs.length ≤ sizeLine ∧ k (.tup (as ++ bs))) := propext Iff.rfl
@[simp ↓] theorem x_add_l : add2D (.lst as) (.lst bs) k = (as.length + bs.length ≤ sizeLine ∧ k (.lst (as ++ bs))) := propext Iff.rfl
@[simp ↓] theorem x_addI_i : addID (.int i) (.int j) k = k (.int (i + j)) := propext Iff.rfl
@[simp ↓] theorem x_addI_s : addID (.str a) (.str b) k = (a.length + b.length ≤ sizeLine ∧ k (.str (a ++ b))) := propext Iff.rfl
@[simp ↓] theorem x_sub : subD (.int i) (.int j) k = k (.int (i - j)) := propext Iff.rfl
@[simp ↓] theorem x_mul_i : mul2D (.int i) (.int j) k = (IntMulOk i j ∧ k (.int (i * j))) := propext Iff.rfl
@[simp ↓] theorem x_mul_l : mul2D (.lst as) (.int j) k = (-(2 ^ 63) ≤ j ∧ j < 2 ^ 63 ∧ as.length * j.toNat ≤ sizeLine ∧ k (.lst (List.replicate j.toNat as).flatten)) := propext Iff.rfl
@[simp ↓] theorem x_mul_s : mul2D (.str z) (.int j) k = (MulOk z j ∧ k (.str (Txt.mul z j))) := propext Iff.rfl
@[simp ↓] theorem x_div : divD (.int i) (.int j) k = (CDivW i j ∧ k (.int (i / j))) := propext Iff.rfl
@[simp ↓] theorem x_mod : modD (.int i) (.int j) k = (0 < j ∧ k (.int (i % j))) := propext Iff.rfl
@[simp ↓] theorem x_pow : powD (.int i) (.int j) k = (CPow i j ∧ k (.int (i ^ j.toNat))) := propext Iff.rfl
@[simp ↓] theorem x_neg : negD (.int i) k = k (.int (-i)) := propext Iff.rfl
@[simp ↓] theorem x_lt_i : ltD (.int i) (.int j) k = k (.bl (decide (i < j))) := propext Iff.rfl
@[simp ↓] theorem x_le_i : leD (.int i) (.int j) k = k (.bl (decide (i ≤ j))) := propext Iff.rfl
@[simp ↓] theorem x_gt_i : gtD (.int i) (.int j) k = k (.bl (decide (j < i))) := propext Iff.rfl
@[simp ↓] theorem x_ge_i : geD (.int i) (.int j) k = k (.bl (decide (j ≤ i))) := propext Iff.rfl
@[simp ↓] theorem x_lt_s : ltD (.str a) (.str b) k = k (.bl (sLt a b)) := propext Iff.rfl
@[simp ↓] theorem x_gt_s : gtD (.str a) (.str b) k = k (.bl (sLt b a)) := propext Iff.rfl
@[simp ↓] theorem x_eq_i : eqD (.int i) (.int j) k = k (.bl (decide (i = j))) := propext Iff.rfl
@[simp ↓] theorem x_eq_s : eqD (.str a) (.str b) k = k (.bl (decide (a = b))) := propext Iff.rfl
@[simp ↓] theorem x_eq_b : eqD (.bl p) (.bl q) k = k (.bl (decide (p = q))) := propext Iff.rfl
@[simp ↓] theorem x_eq_t : eqD (.tup as) (.tup bs) k = (plnL 40 as = true ∧ plnL 40 bs = true ∧ k (.bl (eqvL as bs))) := propext Iff.rfl
@[simp ↓] theorem x_eq_n : eqD .non .non k = k (.bl true) := propext Iff.rfl
@[simp ↓] theorem x_eq_l : eqD (.lst as) (.lst bs) k = ((as.length ≠ bs.length ∧ k (.bl false)) ∨ (plnL 40 as = true ∧ plnL 40 bs = true ∧ k (.bl (eqvL as bs)))) := propext Iff.rfl
@[simp ↓] theorem x_ne_l : neD (.lst as) (.lst bs) k = ((as.length ≠ bs.length ∧ k (.bl true)) ∨ (plnL 40 as = true ∧ plnL 40 bs = true ∧ k (.bl (!eqvL as bs)))) := propext Iff.rfl
@[simp ↓] theorem x_is_bb : isD (.bl p) (.bl q) k = k (.bl (decide (p = q))) := propext Iff.rfl
@[simp ↓] theorem x_is_ib : isD (.int i) (.bl q) k = k (.bl false) := propext Iff.rfl
@[simp] theorem x_isN1 : isN .non = true := rfl
@[simp] theorem x_isN2 : isN (.bl p) = false := rfl
@[simp] theorem x_isN3 : isN (.int i) = false := rfl
@[simp] theorem x_isN4 : isN (.str a) = false := rfl
@[simp] theorem x_isN5 : isN (.tup as) = false := rfl
@[simp] theorem x_isN6 : isN (.lst as) = false := rfl
@[simp] theorem x_isN7 (C : Addr) : isN (.exc C) = false := rfl
@[simp ↓] theorem x_tru_b : truD (.bl p) kb = kb p := propext Iff.rfl
@[simp ↓] theorem x_tru_i : truD (.int i) kb = kb (i != 0) := propext Iff.rfl
@[simp ↓] theorem x_tru_t : truD (.tup as) kb = kb (!as.isEmpty) := propext Iff.rfl
@[simp ↓] theorem x_tru_l : truD (.lst as) kb = kb (!as.isEmpty) := propext Iff.rfl
@[simp ↓] theorem x_tru_n : truD .non kb = kb false := propext Iff.rfl
@[simp ↓] theorem x_is_n : isD d .non k = k (.bl (isN d)) := by cases d <;> exact propext Iff.rfl
@[simp] theorem x_isNot_n : isNotD d .non k = k (.bl (!isN d)) := by unfold isNotD; rw [x_is_n]
@[simp ↓] theorem x_abs : absD [.int i] k = k (.int (i.natAbs : Nat)) := by
  show k _ = _
  congr 2
  split <;> omega
@[simp ↓] theorem x_max : max2D [.int i, .int j] k = k (.int (if j > i then j else i)) := propext Iff.rfl
@[simp ↓] theorem x_min : min2D [.int i, .int j] k = k (.int (if j < i then j else i)) := propext Iff.rfl
@[simp ↓] theorem x_len_t : lenD [.tup as] k = k (.int (as.length : Nat)) := propext Iff.rfl
@[simp ↓] theorem x_len_l : lenD [.lst as] k = k (.int (as.length : Nat)) := propext Iff.rfl
@[simp ↓] theorem x_len_s : lenD [.str z] k = (z.length ≤ sizeLine ∧ k (.int (z.length : Nat))) := propext Iff.rfl
@[simp ↓] theorem x_len_c (ns : List Int) : lenD [.scr ns] k = k (.int (ns.length : Nat)) := propext Iff.rfl
@[simp ↓] theorem x_int_i : intD [.int i] k = k (.int i) := propext Iff.rfl
@[simp ↓] theorem x_int_b : intD [.bl p] k = k (.int (if p then 1 else 0)) := propext Iff.rfl
@[simp ↓] theorem x_str_i : strD [.int i] k = (i.natAbs.log2 < 1920 ∧ k (.str (sI i))) := propext Iff.rfl
@[simp ↓] theorem x_tup_t : tupD [.tup as] k = k (.tup as) := propext Iff.rfl
@[simp ↓] theorem x_tup_l : tupD [.lst as] k = k (.tup as) := propext Iff.rfl
@[simp ↓] theorem x_lst_t : lstD [.tup as] k = k (.lst as) := propext Iff.rfl
@[simp ↓] theorem x_lst_l : lstD [.lst as] k = k (.lst as) := propext Iff.rfl
theorem atI_nat {α : Type} {xs : List α} {i : Int} (h : 0 ≤ i) (h2 : i < xs.length) : atI xs i = xs[i.toNat]? := by
  unfold atI ixN
  rw [if_pos h]
  first
    | (rw [if_pos h2]; rfl)
    | (rw [if_pos (by omega)]; rfl)
@[simp] theorem atI_0 {α : Type} {a : α} {xs : List α} : atI (a :: xs) 0 = some a := by rw [atI_nat (by decide) (by simp <;> omega)]; rfl
@[simp] theorem atI_1 {α : Type} {a b : α} {xs : List α} : atI (a :: b :: xs) 1 = some b := by rw [atI_nat (by decide) (by simp <;> omega)]; rfl
@[simp] theorem atI_2 {α : Type} {a b c : α} {xs : List α} : atI (a :: b :: c :: xs) 2 = some c := by rw [atI_nat (by decide) (by simp <;> omega)]; rfl
@[simp ↓] theorem x_ix_t : ixD (.tup as) (.int i) k = (match atI as i with
    | some d => k d
    | none => False) := propext Iff.rfl
@[simp ↓] theorem x_ix_l : ixD (.lst as) (.int i) k = (match atI as i with
    | some d => k d
    | none => False) := propext Iff.rfl
@[simp ↓] theorem x_ix_s : ixD (.str z) (.int i) k = (z.length ≤ sizeLine ∧ match atI z.cps.toList i with
    | some c => k (.str ⟨#[c]⟩)
    | none => False) := propext Iff.rfl
@[simp ↓] theorem x_ne_i : neD (.int i) (.int j) k = k (.bl (!decide (i = j))) := propext Iff.rfl
@[simp ↓] theorem x_ne_s : neD (.str a) (.str b) k = k (.bl (!decide (a = b))) := propext Iff.rfl
@[simp ↓] theorem x_ne_b : neD (.bl p) (.bl q) k = k (.bl (!decide (p = q))) := propext Iff.rfl
@[simp ↓] theorem x_ne_t : neD (.tup as) (.tup bs) k = (plnL 40 as = true ∧ plnL 40 bs = true ∧ k (.bl (!eqvL as bs))) := propext Iff.rfl
@[simp ↓] theorem x_isx_ty (K : PySem.W.Frag) (b : String) : isxD K [d, .ty b] k = (match tyN d with
    | some a => b ∈ tys6 ∧ k (.bl (kit6 a b))
    | none => False) := by cases d <;> exact propext Iff.rfl
@[simp ↓] theorem x_isx_tup (K : PySem.W.Frag) : isxD K [d, .tup bs] k = (match tyN d, tyNames bs with
    | some a, some ns => (∀ b ∈ ns, b ∈ tys6) ∧ k (.bl (ns.any fun b => kit6 a b))
    | _, _ => False) := by cases d <;> exact propext Iff.rfl
@[simp ↓] theorem x_isx_exc (K : PySem.W.Frag) (C c : Addr) : isxD K [.exc C, .hdl c] k = (∃ b, ExTab K C c b ∧ k (.bl b)) := propext Iff.rfl
end
end DL

set_option maxRecDepth 100000
set_option maxHeartbeats 1000000
/-! DH1: the law's own defs that all laws share: the draw, the equality. -/
namespace DL
open PySem PySem.Spec PyProof.Rows L2
def m_law_mixed (K : PySem.W.Frag) (U : Vol) : MS :=
  sSeq (sPar 1 2 (aCons (eOp add2D (eStT U 0) (eC (.int 1))) (aCons (eC (.int 0)) (aNil)))) (sSeq (sStT U 0 (eVar 1)) (sSeq (sFor (iLst (eF (fLst (aCons (eC (.int 2147483629)) (aCons (eC (.int 2147483587)) (aCons (eC (.int 2147483579)) (aCons (eC (.int 2147483563)) (aNil)))))))) (gNm 3) (sSeq (sAsg (eOp add2D (eOp mul2D (eC (.int 69621)) (eVar 1)) (eOp divD (eVar 3) (eC (.int 41)))) (gNm 4)) (sSeq (sFor (iStC U 0) (gNm 5) (sAsg (eOp modD (eCa intD (aCons (eOp add2D (eOp add2D (eOp mul2D (eVar 4) (eC (.int 48271))) (eVar 5)) (eVar 1)) (aNil))) (eVar 3)) (gNm 4))) (sAsg (eOp add2D (eOp mul2D (eVar 2) (eC (.int 2147483659))) (eOp modD (eCa intD (aCons (eOp powD (eVar 4) (eC (.int 5))) (aNil))) (eVar 3))) (gNm 2))))) (sRet (eVar 2))))
def m_law_draw (K : PySem.W.Frag) (U : Vol) (f_law_mixed : DF0) : MS :=
  sSeq (sIf (eTest (eOp eqD (eStR U 0) (eC (.int 0)))) (sStR U 0 (eStG U 0 (eCall (f_law_mixed U) (aCons (eVar 0) (aNil))))) (sNext)) (sSeq (sAsg (eOp modD (eCa intD (aCons (eStR U 0) (aNil))) (eVar 1)) (gNm 2)) (sSeq (sStR U 0 (eOp divD (eStR U 0) (eVar 1))) (sRet (eVar 2))))
def m_law_pick (K : PySem.W.Frag) (U : Vol) (f_law_draw : DF0) : MS :=
  sRet (eOp ixD (eVar 1) (eCall (f_law_draw U) (aCons (eVar 0) (aCons (eCa lenD (aCons (eVar 1) (aNil))) (aNil)))))
def m_law_is (K : PySem.W.Frag) (U : Vol) (f_law_is : DF0) : MS :=
  sSeq (sIf (eTru (eCa (isxD K) (aCons (eVar 1) (aCons (eTup (aCons (eC (.ty "tuple")) (aCons (eC (.ty "list")) (aNil)))) (aNil))))) (sSeq (sIf (tOrM (eTest (eOp neD (eCa (isxD K) (aCons (eVar 1) (aCons (eC (.ty "tuple")) (aNil)))) (eCa (isxD K) (aCons (eVar 0) (aCons (eC (.ty "tuple")) (aNil)))))) (tOrM (eTest (eOp neD (eCa (isxD K) (aCons (eVar 1) (aCons (eC (.ty "list")) (aNil)))) (eCa (isxD K) (aCons (eVar 0) (aCons (eC (.ty "list")) (aNil)))))) (eTest (eOp neD (eCa lenD (aCons (eVar 0) (aNil))) (eCa lenD (aCons (eVar 1) (aNil))))))) (sRet (eC (.bl false))) (sNext)) (sRet (eOp eqD (eF (fLc (iZp (aCons (eVar 0) (aCons (eVar 1) (aNil)))) (gTp (gCs (gNm 2) (gCs (gNm 3) (gNl))) 2) (tNotM (eTru (eCall (f_law_is U) (aCons (eVar 2) (aCons (eVar 3) (aNil)))))) (eC (.int 1)) [2, 3])) (eF (fLst (aNil)))))) (sNext)) (sSeq (sIf (eTru (eCa (isxD K) (aCons (eVar 1) (aCons (eC (.ty "dict")) (aNil))))) (sRet (eAndV (eCa (isxD K) (aCons (eVar 0) (aCons (eC (.ty "dict")) (aNil)))) (eNone))) (sNext)) (sSeq (sIf (tOrM (eTest (eOp isD (eVar 1) (eC .non))) (eTru (eCa (isxD K) (aCons (eVar 1) (aCons (eC (.ty "str")) (aNil)))))) (sRet (eAndV (eOp eqD (eCa (isxD K) (aCons (eVar 0) (aCons (eC (.ty "str")) (aNil)))) (eCa (isxD K) (aCons (eVar 1) (aCons (eC (.ty "str")) (aNil))))) (eOp eqD (eVar 0) (eVar 1)))) (sNext)) (sRet (eAndV (eCa (isxD K) (aCons (eVar 0) (aCons (eC (.ty "int")) (aNil)))) (eAndV (eOp eqD (eVar 0) (eVar 1)) (eAndV (eOp eqD (eOp isD (eVar 0) (eC (.bl true))) (eOp isD (eVar 1) (eC (.bl true)))) (eOp eqD (eOp isD (eVar 0) (eC (.bl false))) (eOp isD (eVar 1) (eC (.bl false))))))))))
theorem isSt0 {st gr ce : Addr} {cs : List Int} {T : List (Addr × Str)} {l : List Slot} {n : Nat} : IsSt (stU st gr ce cs T) ⟨.dat (.hdl st) :: l, n⟩ 0 := ⟨st, gr, ce, cs, T, rfl, rfl⟩
theorem bits64 {i : Int} (h : i.natAbs < 2 ^ 64) : Builtin.Int.intBits i ≤ 64 := by
  unfold Builtin.Int.intBits
  split
  · omega
  · rename_i h0
    have hn : i.natAbs ≠ 0 := by simpa using h0
    have := (Nat.log2_lt hn).2 h
    omega
theorem mulL {i j : Int} (h : i.natAbs < 2 ^ 64) : IntMulOk i j := .of_left (bits64 h)
theorem mulR {i j : Int} (h : j.natAbs < 2 ^ 64) : IntMulOk i j := .of_right (bits64 h)
theorem divOk {i j : Int} (h : 0 < j) (h2 : j.natAbs < 2 ^ 64) : CDivW i j := ⟨h, by
  have := (Nat.log2_lt (by omega)).2 h2
  omega⟩
/-- a for over a list, by what holds ahead of each turn -/
theorem forM_ind {g : MG} {b : MS} {k : MK} (I : List D → EnvD → Prop) (hn : ∀ ρ, I [] ρ → k.nx ρ) (hs : ∀ (R : EnvD → Prop) d ds ρ, (∀ ρ', I ds ρ' → R ρ') → I (d :: ds) ρ → g d ρ fun ρ1 => b { k with nx := R, ct := R, bk := k.nx } ρ1) : ∀ ds ρ, I ds ρ → forM g b k ds ρ
  | [], ρ, h => hn ρ h
  | d :: ds, ρ, h => hs _ d ds ρ (fun ρ' h' => forM_ind I hn hs ds ρ' h') h
theorem lcM_ind {g : MG} {tt : MT} {te : ME} {vs : List Nat} {k : List D → EnvD → Prop} (I : List D → List D → EnvD → Prop) (hn : ∀ acc ρ, I [] acc ρ → k acc (wipeD ρ vs))
    (hs : ∀ (R : List D → EnvD → Prop) d ds acc ρ, (∀ acc' ρ', I ds acc' ρ' → R acc' ρ') → I (d :: ds) acc ρ → g d ρ fun ρ1 => tt ρ1 (fun b ρ2 => if b = true then te ρ2 (fun y ρ3 => acc.length < sizeLine ∧ R (acc ++ [y]) (wipeD ρ3 vs)) xF else R acc (wipeD ρ2 vs)) xF) : ∀ ds acc ρ, I ds acc ρ → lcM g tt te vs k ds acc ρ
  | [], acc, ρ, h => hn acc ρ h
  | d :: ds, acc, ρ, h => hs _ d ds acc ρ (fun acc' ρ' h' => lcM_ind I hn hs ds acc' ρ' h') h
theorem mixed_ok {K : PySem.W.Frag} {U : Vol} {n : Nat} {ds : List D} {k : D → Nat → Prop} {x : Xn → Nat → Prop} (h : f_mixed U n ds k x) : m_law_mixed K U (MKf k x) (startD ["state", "turn", "found", "prime", "blend", "cell"] ds n) := by
  obtain ⟨st, gr, ce, cs0, T, rfl, hn, rfl, h⟩ := h
  simp [m_law_mixed, startD, List.replicate, isSt0]
  refine ⟨by omega, ?_⟩
  refine forM_ind (fun ds ρ => (∃ (f : Int) (a b c : Slot), 0 ≤ f ∧ ρ = ⟨[.dat (.hdl st), .dat (.int ((n : Nat) + 1)), .dat (.int f), a, b, c], n + 1⟩) ∧ ∀ d ∈ ds, ∃ p : Int, d = .int p ∧ 0 < p ∧ p < 2147483648) (fun ρ => ?_) (fun R d ds ρ hR hI => ?_) _ _ ⟨⟨0, .no, .no, .no, by decide, rfl⟩, ?_⟩
  · rintro ⟨⟨f, a, b, c, hf, rfl⟩, _⟩
    simpa using h f hf
  · obtain ⟨⟨f, a, b, c, hf, rfl⟩, hds⟩ := hI
    obtain ⟨p, rfl, hp, hp2⟩ := hds d (by simp)
    simp [isSt0]
    have hm : n + 1 ≤ 1099511627776 := hn
    refine ⟨mulL (by decide), divOk (by decide) (by decide), fun cs => ?_⟩
    refine forM_ind (fun ds ρ => (∃ (b : Int) (c : Slot), 0 ≤ b ∧ b < 2 ^ 62 ∧ ρ = ⟨[.dat (.hdl st), .dat (.int ((n : Nat) + 1)), .dat (.int f), .dat (.int p), .dat (.int b), c], n + 1⟩) ∧ ∀ d ∈ ds, ∃ c : Int, d = .int c) (fun ρ => ?_) (fun R' d' ds' ρ hR' hI => ?_) _ _ ⟨⟨_, c, ?_, ?_, rfl⟩, ?_⟩
    · rintro ⟨⟨b, c, hb, hb2, rfl⟩, _⟩
      simp
      refine ⟨mulR (by decide), ⟨by decide, by decide, by omega⟩, hp, hR _ ⟨⟨f * 2147483659 + b ^ 5 % p, _, _, _, ?_, rfl⟩, fun d hd => hds d (by simp [hd])⟩⟩
      have := Int.emod_nonneg (b ^ 5) (show p ≠ 0 by omega)
      omega
    · obtain ⟨⟨b, c, hb, hb2, rfl⟩, hd'⟩ := hI
      obtain ⟨c', rfl⟩ := hd' d' (by simp)
      simp
      refine ⟨mulR (by decide), hp, hR' _ ⟨⟨_, _, ?_, ?_, rfl⟩, fun d hd => hd' d (by simp [hd])⟩⟩
      · exact Int.emod_nonneg _ (by omega)
      · have := Int.emod_lt_of_pos (b * 48271 + c' + (↑n + 1)) hp
        omega
    · omega
    · omega
    · simp

  · simp
theorem draw_ok {K : PySem.W.Frag} {U : Vol} {n : Nat} {ds : List D} {k : D → Nat → Prop} {x : Xn → Nat → Prop} (h : f_draw U n ds k x) : m_law_draw K U f_mixed (MKf k x) (startD ["state", "room", "found"] ds n) := by
  obtain ⟨st, gr, ce, cs0, T, rfl, hn, room, rfl, h0, h1, h⟩ := h
  simp [m_law_draw, startD, List.replicate, isSt0]
  have last : ∀ m : Nat, n ≤ m → m ≤ n + 1 → ∀ r : Int, 0 < room ∧ ∀ r' : Int, 0 ≤ r' → CDivW r' room ∧ 0 ≤ r' / room ∧ k (.int (r % room)) m := fun m hm hm2 r =>
    ⟨h0, fun r' hr => ⟨⟨h0, h1⟩, Int.ediv_nonneg hr (by omega), h _ m (Int.emod_nonneg _ (by omega)) (Int.emod_lt_of_pos _ h0) hm hm2⟩⟩
  intro r hr
  by_cases e : r = 0
  · simp [e]
    refine ⟨fun g hg => ⟨hg, fun r _ => last n (by omega) (by omega) r⟩, ⟨st, gr, ce, cs0, T, rfl, hn, rfl, fun v hv => ?_⟩⟩
    simp [isSt0]
    exact ⟨hv, fun r _ => last (n + 1) (by omega) (by omega) r⟩
  · simp [e]
    exact fun r _ => last n (by omega) (by omega) r
theorem pick_ok {K : PySem.W.Frag} {U : Vol} {n : Nat} {ds : List D} {k : D → Nat → Prop} {x : Xn → Nat → Prop} (h : f_pick U n ds k x) : m_law_pick K U f_draw (MKf k x) (startD ["state", "some"] ds n) := by
  obtain ⟨st, gr, ce, cs0, T, rfl, hn, c, sm, rfl, hc, h0, h1, h⟩ := h
  have hlog : ((sm.length : Int)).natAbs.log2 < 9000 := by
    have : sm.length < 2 ^ 25 := by
      have : sizeLine = 16777216 := x_sz
      omega
    have := (Nat.log2_lt (by omega)).2 this
    simp; omega
  have last : ∀ (v : Int) (n' : Nat), 0 ≤ v → v < sm.length → n ≤ n' → n' ≤ n + 1 → ∃ d, atI sm v = some d ∧ k d n' := fun v n' h2 h3 h4 h5 => by
    rw [atI_nat h2 h3]
    have : v.toNat < sm.length := by omega
    exact ⟨_, List.getElem?_eq_getElem this, h _ n' (List.getElem_mem this) h4 h5⟩
  rcases hc with rfl | rfl
  · simp [m_law_pick, startD, List.replicate]
    refine ⟨st, gr, ce, cs0, T, rfl, hn, _, rfl, by omega, hlog, fun v n' h2 h3 h4 h5 => ?_⟩
    obtain ⟨d, e1, e2⟩ := last v n' h2 h3 h4 h5
    simp [e1, e2]
  · simp [m_law_pick, startD, List.replicate]
    refine ⟨st, gr, ce, cs0, T, rfl, hn, _, rfl, by omega, hlog, fun v n' h2 h3 h4 h5 => ?_⟩
    obtain ⟨d, e1, e2⟩ := last v n' h2 h3 h4 h5
    simp [e1, e2]
end DL

set_option maxRecDepth 100000
set_option maxHeartbeats 1000000
/-! DH2: _law_is at equal data. -/
namespace DL
open PySem PySem.Spec PyProof.Rows L2
def f_no : DF0 := fun _ _ _ _ _ => False
/-- found and due are the same data, at most m deep -/
def f_isq (m : Nat) : DF0 := fun _ n ds k _ => ∃ d, ds = [d, d] ∧ pln m d = true ∧ m ≤ 40 ∧ k (.bl true) n
def f_isqP : Nat → DF0
  | 0 => f_no
  | m + 1 => f_isq m
theorem pairs_same (f : D → Prop) : ∀ (ds : List D), (∀ d ∈ ds, f d) → ∀ p ∈ pairs ds ds, ∃ d, p = .tup [d, d] ∧ f d
  | [], _, p, h => by simp [pairs] at h
  | d :: ds, hf, p, h => by
    simp only [pairs, List.zipWith_cons_cons, List.mem_cons] at h
    rcases h with rfl | h
    · exact ⟨d, rfl, hf d (by simp)⟩
    · exact pairs_same f ds (fun d hd => hf d (by simp [hd])) p h
theorem plnL_mem : ∀ {m : Nat} {ds : List D}, plnL m ds = true → ∀ d ∈ ds, pln m d = true
  | _, [], _, d, h => by simp at h
  | m, a :: ds, h, d, hd => by
    simp only [plnL, Bool.and_eq_true] at h
    simp only [List.mem_cons] at hd
    rcases hd with rfl | hd
    · exact h.1
    · exact plnL_mem h.2 d hd
theorem isq_ok {K : PySem.W.Frag} {U : Vol} {n m : Nat} {ds : List D} {k : D → Nat → Prop} {x : Xn → Nat → Prop} (h : f_isq m U n ds k x) : m_law_is K U (f_isqP m) (MKf k x) (startD ["found", "due", "one", "other"] ds n) := by
  obtain ⟨d, rfl, hp, hm, h⟩ := h
  have hseq : ∀ (ds : List D) (sl : List Slot) (kk : List D → EnvD → Prop), (∀ d ∈ ds, pln (m - 1) d = true) → 0 < m → sl.length = 2 → (∀ sl', kk [] ⟨.dat d :: .dat d :: sl', n⟩) →
      lcM (gTp (gCs (gNm 2) (gCs (gNm 3) gNl)) 2) (tNotM (eTru (eCall (f_isqP m U) (aCons (eVar 2) (aCons (eVar 3) aNil))))) (eC (.int 1)) [2, 3] kk (pairs ds ds) [] ⟨.dat d :: .dat d :: sl, n⟩ := by
    intro ds sl kk hds h0 hsl hk
    refine lcM_ind (fun ps acc ρ => acc = [] ∧ (∃ sl' : List Slot, sl'.length = 2 ∧ ρ = ⟨.dat d :: .dat d :: sl', n⟩) ∧ ∀ p ∈ ps, ∃ e, p = .tup [e, e] ∧ pln (m - 1) e = true) (fun acc ρ => ?_) (fun R p ps acc ρ hR hI => ?_) _ _ _ ⟨rfl, ⟨sl, hsl, rfl⟩, pairs_same _ ds hds⟩
    · rintro ⟨rfl, ⟨sl', hl, rfl⟩, _⟩
      match sl', hl with
      | [a, b], _ => exact hk _
    · obtain ⟨rfl, ⟨sl', hl, rfl⟩, hps⟩ := hI
      obtain ⟨e, rfl, he⟩ := hps p (by simp)
      match sl', hl with
      | [a, b], _ =>
        match m, h0 with
        | m + 1, _ =>
          simp
          exact ⟨e, rfl, by simpa using he, by omega, by
            simp
            exact hR _ _ ⟨rfl, ⟨[.no, .no], rfl, rfl⟩, fun q hq => hps q (by simp [hq])⟩⟩
  cases d with
  | non => simp [m_law_is, startD, List.replicate, tyN, tyNames, tys6, kit6, h]
  | bl b => cases b <;> simp [m_law_is, startD, List.replicate, tyN, tyNames, tys6, kit6, h]
  | int i => simp [m_law_is, startD, List.replicate, tyN, tyNames, tys6, kit6, h]
  | str z => simp [m_law_is, startD, List.replicate, tyN, tyNames, tys6, kit6, h]
  | tup ds =>
    have h0 : 0 < m := by
      cases m with
      | zero => simp [pln] at hp
      | succ m => omega
    have h1 : ∀ d ∈ ds, pln (m - 1) d = true := by
      cases m with
      | zero => omega
      | succ m => exact plnL_mem (by simpa [pln] using hp)
    simp [m_law_is, startD, List.replicate, tyN, tyNames, tys6, kit6]
    exact hseq ds _ _ h1 h0 rfl fun sl' => by simp [plnL, eqvL, h]
  | lst ds =>
    have h0 : 0 < m := by
      cases m with
      | zero => simp [pln] at hp
      | succ m => omega
    have h1 : ∀ d ∈ ds, pln (m - 1) d = true := by
      cases m with
      | zero => omega
      | succ m => exact plnL_mem (by simpa [pln] using hp)
    simp [m_law_is, startD, List.replicate, tyN, tyNames, tys6, kit6]
    exact hseq ds _ _ h1 h0 rfl fun sl' => by simp [plnL, eqvL, h]
  | dct ks ds => cases m <;> simp [pln] at hp
  | obj C ns ds => cases m <;> simp [pln] at hp
  | exc C => cases m <;> simp [pln] at hp
  | hdl a => cases m <;> simp [pln] at hp
  | scr ns => cases m <;> simp [pln] at hp
  | ty t => cases m <;> simp [pln] at hp
end DL

set_option maxRecDepth 100000
set_option maxHeartbeats 1000000
/-! DM1: decimals: tests, order. -/
namespace DL
open PySem PySem.Spec PyProof.Rows L2
def m_is_whole (K : PySem.W.Frag) (U : Vol) : MS :=
  sRet (eAndV (eCa (isxD K) (aCons (eVar 0) (aCons (eC (.ty "int")) (aNil)))) (eNotV (eCa (isxD K) (aCons (eVar 0) (aCons (eC (.ty "bool")) (aNil))))))
def m_is_decimal (K : PySem.W.Frag) (U : Vol) (f_is_whole : DF0) : MS :=
  sSeq (sIf (tOrM (tNotM (eTru (eCa (isxD K) (aCons (eVar 0) (aCons (eC (.ty "tuple")) (aNil)))))) (tOrM (eTest (eOp neD (eCa lenD (aCons (eVar 0) (aNil))) (eC (.int 2)))) (tOrM (tNotM (eTru (eCall (f_is_whole U) (aCons (eOp ixD (eVar 0) (eC (.int 0))) (aNil))))) (tNotM (eTru (eCall (f_is_whole U) (aCons (eOp ixD (eVar 0) (eC (.int 1))) (aNil)))))))) (sRet (eC (.bl false))) (sNext)) (sRet (eOrV (eOp neD (eOp modD (eOp ixD (eVar 0) (eC (.int 0))) (eC (.int 10))) (eC (.int 0))) (eOp eqD (eVar 0) (eTup (aCons (eC (.int 0)) (aCons (eC (.int 0)) (aNil)))))))
def m_need_decimal (K : PySem.W.Frag) (U : Vol) (c_InvalidNumber : Addr) (f_is_decimal : DF0) : MS :=
  sIf (tNotM (eTru (eCall (f_is_decimal U) (aCons (eVar 0) (aNil))))) (sRaise c_InvalidNumber) (sNext)
def m_sign_of (K : PySem.W.Frag) (U : Vol) : MS :=
  sRet (eIf (eTest (eOp gtD (eOp ixD (eVar 0) (eC (.int 0))) (eC (.int 0)))) (eC (.int 1)) (eIf (eTest (eOp ltD (eOp ixD (eVar 0) (eC (.int 0))) (eC (.int 0)))) (eUn negD (eC (.int 1))) (eC (.int 0))))
def m_size_of (K : PySem.W.Frag) (U : Vol) : MS :=
  sRet (eOp add2D (eCa lenD (aCons (eCa strD (aCons (eCa absD (aCons (eOp ixD (eVar 0) (eC (.int 0))) (aNil))) (aNil))) (aNil))) (eOp ixD (eVar 0) (eC (.int 1))))
def m_order_of (K : PySem.W.Frag) (U : Vol) : MS :=
  sRet (eIf (eTest (eOp ltD (eVar 0) (eVar 1))) (eUn negD (eC (.int 1))) (eIf (eTest (eOp gtD (eVar 0) (eVar 1))) (eC (.int 1)) (eC (.int 0))))
def m_order_of_sizes (K : PySem.W.Frag) (U : Vol) (f_order_of : DF0) (f_size_of : DF0) : MS :=
  sSeq (sIf (eTest (eOp neD (eCall (f_size_of U) (aCons (eVar 0) (aNil))) (eCall (f_size_of U) (aCons (eVar 1) (aNil))))) (sRet (eCall (f_order_of U) (aCons (eCall (f_size_of U) (aCons (eVar 0) (aNil))) (aCons (eCall (f_size_of U) (aCons (eVar 1) (aNil))) (aNil))))) (sNext)) (sSeq (sPar 2 3 (aCons (eCa strD (aCons (eCa absD (aCons (eOp ixD (eVar 0) (eC (.int 0))) (aNil))) (aNil))) (aCons (eCa strD (aCons (eCa absD (aCons (eOp ixD (eVar 1) (eC (.int 0))) (aNil))) (aNil))) (aNil)))) (sSeq (sAsg (eCa max2D (aCons (eCa lenD (aCons (eVar 2) (aNil))) (aCons (eCa lenD (aCons (eVar 3) (aNil))) (aNil)))) (gNm 4)) (sRet (eCall (f_order_of U) (aCons (eOp add2D (eVar 2) (eOp mul2D (eC (.str "0")) (eOp subD (eVar 4) (eCa lenD (aCons (eVar 2) (aNil)))))) (aCons (eOp add2D (eVar 3) (eOp mul2D (eC (.str "0")) (eOp subD (eVar 4) (eCa lenD (aCons (eVar 3) (aNil)))))) (aNil)))))))
def m_order (K : PySem.W.Frag) (U : Vol) (f_need_decimal : DF0) (f_order_of : DF0) (f_order_of_sizes : DF0) (f_sign_of : DF0) : MS :=
  sSeq (sDrop (eCall (f_need_decimal U) (aCons (eVar 0) (aNil)))) (sSeq (sDrop (eCall (f_need_decimal U) (aCons (eVar 1) (aNil)))) (sSeq (sIf (eTest (eOp neD (eCall (f_sign_of U) (aCons (eVar 0) (aNil))) (eCall (f_sign_of U) (aCons (eVar 1) (aNil))))) (sRet (eCall (f_order_of U) (aCons (eCall (f_sign_of U) (aCons (eVar 0) (aNil))) (aCons (eCall (f_sign_of U) (aCons (eVar 1) (aNil))) (aNil))))) (sNext)) (sRet (eIf (eTest (eOp eqD (eCall (f_sign_of U) (aCons (eVar 0) (aNil))) (eC (.int 0)))) (eC (.int 0)) (eOp mul2D (eCall (f_sign_of U) (aCons (eVar 0) (aNil))) (eCall (f_order_of_sizes U) (aCons (eVar 0) (aCons (eVar 1) (aNil)))))))))
def m_law_some_decimal (K : PySem.W.Frag) (U : Vol) (f_law_draw : DF0) (f_law_pick : DF0) : MS :=
  sSeq (sAsg (eOp subD (eCall (f_law_draw U) (aCons (eVar 0) (aCons (eCall (f_law_pick U) (aCons (eVar 0) (aCons (eF (fLst (aCons (eC (.int 10)) (aCons (eC (.int 100)) (aCons (eC (.int 100000)) (aNil)))))) (aNil)))) (aNil)))) (eCall (f_law_pick U) (aCons (eVar 0) (aCons (eF (fLst (aCons (eC (.int 0)) (aCons (eC (.int 0)) (aCons (eC (.int 50)) (aNil)))))) (aNil))))) (gNm 1)) (sSeq (sAsg (eCall (f_law_pick U) (aCons (eVar 0) (aCons (eF (fLst (aCons (eC (.int 0)) (aCons (eC (.int 0)) (aCons (eC (.int 0)) (aCons (eC (.int 1)) (aCons (eOp subD (eC (.int 0)) (eC (.int 1))) (aCons (eC (.int 7)) (aCons (eOp subD (eC (.int 0)) (eC (.int 12))) (aNil)))))))))) (aNil)))) (gNm 2)) (sSeq (sWhile (tAndM (eTest (eOp neD (eVar 1) (eC (.int 0)))) (eTest (eOp eqD (eOp modD (eCa intD (aCons (eVar 1) (aNil))) (eC (.int 10))) (eC (.int 0))))) (sSeq (sAsg (eOp divD (eVar 1) (eC (.int 10))) (gNm 1)) (sAug 2 addID (eC (.int 1))))) (sRet (eIf (eTest (eOp neD (eVar 1) (eC (.int 0)))) (eTup (aCons (eVar 1) (aCons (eVar 2) (aNil)))) (eTup (aCons (eC (.int 0)) (aCons (eC (.int 0)) (aNil))))))))
def m_law_order (K : PySem.W.Frag) (U : Vol) : MS :=
  sSeq (sAsg (eCa min2D (aCons (eOp ixD (eVar 0) (eC (.int 1))) (aCons (eOp ixD (eVar 1) (eC (.int 1))) (aNil)))) (gNm 2)) (sSeq (sPar 3 4 (aCons (eOp ixD (eVar 0) (eC (.int 0))) (aCons (eOp ixD (eVar 1) (eC (.int 0))) (aNil)))) (sSeq (sFor (iR1 (aCons (eOp subD (eOp ixD (eVar 0) (eC (.int 1))) (eVar 2)) (aNil))) (gNm 5) (sAsg (eOp mul2D (eC (.int 10)) (eVar 3)) (gNm 3))) (sSeq (sFor (iR1 (aCons (eOp subD (eOp ixD (eVar 1) (eC (.int 1))) (eVar 2)) (aNil))) (gNm 5) (sAsg (eOp mul2D (eC (.int 10)) (eVar 4)) (gNm 4))) (sRet (eIf (eTest (eOp ltD (eVar 3) (eVar 4))) (eOp subD (eC (.int 0)) (eC (.int 1))) (eIf (eTest (eOp gtD (eVar 3) (eVar 4))) (eC (.int 1)) (eC (.int 0))))))))
/-! ### tests -/
def isW : D → Bool
  | .int _ => true
  | _ => false
def isDec : D → Bool
  | .tup [.int a, .int b] => decide (a % 10 ≠ 0) || (decide (a = 0) && decide (b = 0))
  | _ => false
def f_is_whole : DF0 := fun _ n ds k _ => ∃ d, ds = [d] ∧ pln 40 d = true ∧ k (.bl (isW d)) n
def f_is_decimal : DF0 := fun _ n ds k _ => ∃ d, ds = [d] ∧ pln 40 d = true ∧ k (.bl (isDec d)) n
def f_need_decimal (c : Addr) : DF0 := fun _ n ds k x => ∃ d, ds = [d] ∧ pln 40 d = true ∧ (isDec d = true → k .non n) ∧ (isDec d = false → x (.own c) n)
section
variable {K : PySem.W.Frag} {U : Vol} {n : Nat} {ds : List D} {k : D → Nat → Prop} {x : Xn → Nat → Prop}
theorem whole_ok (h : f_is_whole U n ds k x) : m_is_whole K U (MKf k x) (startD ["value"] ds n) := by
  obtain ⟨d, rfl, hp, h⟩ := h
  cases d <;> first
    | (cases hp; done)
    | (simp [m_is_whole, startD, tyN, tys6, kit6]; simpa [isW] using h)
    | simp [pln] at hp
theorem plnL_iff {m : Nat} : ∀ {ds : List D}, plnL m ds = true ↔ ∀ d ∈ ds, pln m d = true
  | [] => by simp [plnL]
  | d :: ds => by simp [plnL, plnL_iff (ds := ds)]
theorem pln_up : ∀ {m : Nat} {d : D}, pln m d = true → pln (m + 1) d = true
  | m, .non, _ => by simp [pln]
  | m, .bl _, _ => by simp [pln]
  | m, .int _, _ => by simp [pln]
  | m, .str _, _ => by simp [pln]
  | 0, .tup ds, h => by simp [pln] at h
  | 0, .lst ds, h => by simp [pln] at h
  | m + 1, .tup ds, h => by
    simp only [pln] at h ⊢
    exact plnL_iff.2 fun d hd => pln_up (plnL_iff.1 h d hd)
  | m + 1, .lst ds, h => by
    simp only [pln] at h ⊢
    exact plnL_iff.2 fun d hd => pln_up (plnL_iff.1 h d hd)
  | m, .dct ks ds, h => by cases m <;> simp [pln] at h
  | m, .obj C ns ds, h => by cases m <;> simp [pln] at h
  | m, .exc C, h => by cases m <;> simp [pln] at h
  | m, .hdl a, h => by cases m <;> simp [pln] at h
  | m, .scr ns, h => by cases m <;> simp [pln] at h
  | m, .ty t, h => by cases m <;> simp [pln] at h
theorem isDec_two {a b : D} (h : isW a = true) (h2 : isW b = true) : ∃ i j, a = .int i ∧ b = .int j := by
  cases a <;> simp [isW] at h
  cases b <;> simp [isW] at h2
  exact ⟨_, _, rfl, rfl⟩
theorem decimal_ok (h : f_is_decimal U n ds k x) : m_is_decimal K U f_is_whole (MKf k x) (startD ["value"] ds n) := by
  obtain ⟨d, rfl, hp, h⟩ := h
  cases d with
  | tup ds =>
    match ds, hp with
    | [], _ => simp [m_is_decimal, startD, tyN, tys6, kit6]; simpa [isDec] using h
    | [a], _ => simp [m_is_decimal, startD, tyN, tys6, kit6]; simpa [isDec] using h
    | a :: b :: c :: r, _ =>
      simp [m_is_decimal, startD, tyN, tys6, kit6]
      rw [if_neg (by omega)]
      simpa [isDec] using h
    | [a, b], hp =>
      have hl : plnL 39 [a, b] = true := by simpa only [pln] using hp
      have ha := pln_up (plnL_iff.1 hl a (by simp))
      have hb := pln_up (plnL_iff.1 hl b (by simp))
      simp [m_is_decimal, startD, tyN, tys6, kit6]
      refine ⟨a, rfl, ha, ?_⟩
      cases ea : isW a with
      | false =>
        have : isDec (.tup [a, b]) = false := by cases a <;> simp [isW] at ea <;> simp [isDec]
        rw [this] at h
        simpa using h
      | true =>
        simp
        refine ⟨b, rfl, hb, ?_⟩
        cases eb : isW b with
        | false =>
          have : isDec (.tup [a, b]) = false := by cases a <;> cases b <;> simp [isW] at eb <;> simp [isDec]
          rw [this] at h
          simpa using h
        | true =>
          obtain ⟨i, j, rfl, rfl⟩ := isDec_two ea eb
          simp [plnL, pln, eqvL, eqv]
          simp [isDec] at h
          by_cases e : i % 10 = 0
          · have hz : ∀ z : Int, (z == 0) = decide (z = 0) := fun z => by by_cases h : z = 0 <;> simp [h]
            simp only [e] at h ⊢
            simp [hz]
            simpa using h
          · simpa [e] using h
  | non => simp [m_is_decimal, startD, tyN, tys6, kit6]; simpa [isDec] using h
  | bl b => simp [m_is_decimal, startD, tyN, tys6, kit6]; simpa [isDec] using h
  | int b => simp [m_is_decimal, startD, tyN, tys6, kit6]; simpa [isDec] using h
  | str b => simp [m_is_decimal, startD, tyN, tys6, kit6]; simpa [isDec] using h
  | lst b => simp [m_is_decimal, startD, tyN, tys6, kit6]; simpa [isDec] using h
  | _ => simp [pln] at hp
theorem need_ok {c : Addr} (h : f_need_decimal c U n ds k x) : m_need_decimal K U c f_is_decimal (MKf k x) (startD ["value"] ds n) := by
  obtain ⟨d, rfl, hp, h1, h2⟩ := h
  simp [m_need_decimal, startD]
  refine ⟨d, rfl, hp, ?_⟩
  cases e : isDec d with
  | true => simpa using h1 e
  | false => simpa using h2 e
/-! ### order, the mathematics -/
def cmpI (x y : Int) : Int := if x < y then -1 else if y < x then 1 else 0
/-- the order of a · 10^e and b · 10^f -/
def ordI (a e b f : Int) : Int := cmpI (a * 10 ^ (e - min e f).toNat) (b * 10 ^ (f - min e f).toNat)
theorem cmpI_neg (x y : Int) : cmpI y x = -cmpI x y := by
  unfold cmpI
  by_cases h : x < y <;> by_cases h2 : y < x <;> simp [h, h2] <;> omega
theorem ordI_neg (a e b f : Int) : ordI b f a e = -ordI a e b f := by
  unfold ordI
  rw [show min f e = min e f by omega]
  exact cmpI_neg _ _
theorem ordI_shift (a e b f s : Int) : ordI a (e + s) b (f + s) = ordI a e b f := by
  unfold ordI
  rw [show e + s - min (e + s) (f + s) = e - min e f by omega, show f + s - min (e + s) (f + s) = f - min e f by omega]
theorem pow10_pos (n : Nat) : (0 : Int) < 10 ^ n := Int.pow_pos (by decide)
theorem mul10_sign {a : Int} (n : Nat) : (0 < a → 0 < a * 10 ^ n) ∧ (a < 0 → a * 10 ^ n < 0) := ⟨fun h => Int.mul_pos h (pow10_pos n), fun h => Int.mul_neg_of_neg_of_pos h (pow10_pos n)⟩
theorem ordI_zl (e b f : Int) : ordI 0 e b f = cmpI 0 b := by
  unfold ordI
  rw [Int.zero_mul]
  have := mul10_sign (a := b) (f - min e f).toNat
  rcases Int.lt_trichotomy b 0 with h | h | h
  · have h1 := this.2 h
    unfold cmpI
    rw [if_neg (by omega), if_pos h1, if_neg (by omega), if_pos h]
  · subst h; rw [Int.zero_mul]
  · have h1 := this.1 h
    unfold cmpI
    rw [if_pos h1, if_pos h]
theorem ordI_zr (a e f : Int) : ordI a e 0 f = cmpI a 0 := by rw [ordI_neg, ordI_zl, cmpI_neg]; omega
theorem ordI_sgn {a e b f : Int} (h : a.sign ≠ b.sign) : ordI a e b f = cmpI a.sign b.sign := by
  rcases Int.lt_trichotomy a 0 with ha | ha | ha
  · rcases Int.lt_trichotomy b 0 with hb | hb | hb
    · rw [Int.sign_eq_neg_one_of_neg ha, Int.sign_eq_neg_one_of_neg hb] at h; exact (h rfl).elim
    · subst hb
      rw [ordI_zr, Int.sign_eq_neg_one_of_neg ha]
      unfold cmpI; rw [if_pos ha]; rfl
    · rw [Int.sign_eq_neg_one_of_neg ha, Int.sign_eq_one_of_pos hb]
      unfold ordI cmpI
      have h1 := (mul10_sign (a := a) (e - min e f).toNat).2 ha
      have h2 := (mul10_sign (a := b) (f - min e f).toNat).1 hb
      rw [if_pos (by omega)]; rfl
  · subst ha
    rw [ordI_zl]
    rcases Int.lt_trichotomy b 0 with hb | hb | hb
    · rw [Int.sign_eq_neg_one_of_neg hb]
      unfold cmpI; rw [if_neg (by omega), if_pos hb]; rfl
    · subst hb; exact (h rfl).elim
    · rw [Int.sign_eq_one_of_pos hb]
      unfold cmpI; rw [if_pos hb]; rfl
  · rcases Int.lt_trichotomy b 0 with hb | hb | hb
    · rw [Int.sign_eq_neg_one_of_neg hb, Int.sign_eq_one_of_pos ha]
      unfold ordI cmpI
      have h1 := (mul10_sign (a := a) (e - min e f).toNat).1 ha
      have h2 := (mul10_sign (a := b) (f - min e f).toNat).2 hb
      rw [if_neg (by omega), if_pos (by omega)]; rfl
    · subst hb
      rw [ordI_zr, Int.sign_eq_one_of_pos ha]
      unfold cmpI; rw [if_neg (by omega), if_pos ha]; rfl
    · rw [Int.sign_eq_one_of_pos ha, Int.sign_eq_one_of_pos hb] at h; exact (h rfl).elim
theorem ordI_negs (a e b f : Int) : ordI (-a) e (-b) f = -ordI a e b f := by
  unfold ordI
  rw [Int.neg_mul, Int.neg_mul]
  generalize a * 10 ^ (e - min e f).toNat = x
  generalize b * 10 ^ (f - min e f).toNat = y
  unfold cmpI
  by_cases h : x < y
  · rw [if_neg (by omega), if_pos (by omega), if_pos h]; rfl
  · by_cases h2 : y < x
    · rw [if_pos (by omega), if_neg h, if_pos h2]
    · rw [if_neg (by omega), if_neg (by omega), if_neg h, if_neg h2]; rfl
/-! digits -/
def digs (m : Nat) : List Nat := (Nat.toDigits 10 m).map Char.toNat
def nd (m : Nat) : Nat := (Nat.toDigits 10 m).length
theorem digs_len (m : Nat) : (digs m).length = nd m := by unfold digs nd; simp
theorem nd_pos (m : Nat) : 0 < nd m := Nat.length_toDigits_pos
theorem nd_hi (m : Nat) : m < 10 ^ nd m := (Nat.length_toDigits_le_iff (by decide) (nd_pos m)).1 (Nat.le_refl _)
theorem nd_lo {m : Nat} (h : 0 < m) : 10 ^ (nd m - 1) ≤ m := by
  by_cases h1 : nd m = 1
  · rw [h1]; simpa using (show 1 ≤ m from h)
  · have hp := nd_pos m
    by_cases hc : m < 10 ^ (nd m - 1)
    · have := (Nat.length_toDigits_le_iff (b := 10) (n := m) (k := nd m - 1) (by decide) (by omega)).2 hc
      have e : (Nat.toDigits 10 m).length = nd m := rfl
      omega
    · omega
def v10 (l : List Nat) : Nat := l.foldl (fun a c => a * 10 + (c - 48)) 0
theorem digs_dig (m : Nat) : ∀ c ∈ digs m, 48 ≤ c ∧ c ≤ 57 := by
  intro c hc
  unfold digs at hc
  obtain ⟨ch, h1, rfl⟩ := List.mem_map.mp hc
  have := Nat.isDigit_of_mem_toDigits (by decide) (by decide) h1
  unfold Char.isDigit at this
  simp at this
  exact ⟨this.1, this.2⟩
theorem v10_from (l : List Nat) (a : Nat) : l.foldl (fun a c => a * 10 + (c - 48)) a = a * 10 ^ l.length + v10 l := by
  unfold v10
  induction l generalizing a with
  | nil => simp
  | cons c l ih =>
    simp only [List.foldl_cons, List.length_cons]
    rw [ih, ih (0 * 10 + (c - 48)), Nat.pow_succ, Nat.add_mul, Nat.zero_mul, Nat.zero_add, Nat.mul_assoc, Nat.mul_comm 10]
    omega
theorem v10_cons (c : Nat) (l : List Nat) : v10 (c :: l) = (c - 48) * 10 ^ l.length + v10 l := by
  unfold v10
  simp only [List.foldl_cons]
  rw [v10_from]
  unfold v10
  simp
theorem v10_append (l r : List Nat) : v10 (l ++ r) = v10 l * 10 ^ r.length + v10 r := by
  unfold v10
  rw [List.foldl_append, v10_from]
  rfl
theorem v10_zeros (k : Nat) : v10 (List.replicate k 48) = 0 := by
  induction k with
  | zero => rfl
  | succ k ih => rw [List.replicate_succ, v10_cons, ih]; simp
theorem v10_digs (m : Nat) : v10 (digs m) = m := by
  have h := Nat.ofDigitChars_toDigits (b := 10) (n := m) (by decide) (by decide)
  unfold v10 digs
  rw [List.foldl_map, show (fun (x : Nat) (y : Char) => x * 10 + (y.toNat - 48)) = fun sofar c => 10 * sofar + (c.toNat - '0'.toNat) from by
    funext a c
    rw [Nat.mul_comm]; rfl]
  exact h
theorem v10_lt {l : List Nat} (h : ∀ c ∈ l, 48 ≤ c ∧ c ≤ 57) : v10 l < 10 ^ l.length := by
  induction l with
  | nil => decide
  | cons c l ih =>
    rw [v10_cons, List.length_cons, Nat.pow_succ]
    have h1 := ih fun d hd => h d (by simp [hd])
    have h2 := h c (by simp)
    have : (c - 48) * 10 ^ l.length ≤ 9 * 10 ^ l.length := Nat.mul_le_mul_right _ (by omega)
    omega
theorem lex_val : ∀ {l r : List Nat}, l.length = r.length → (∀ c ∈ l, 48 ≤ c ∧ c ≤ 57) → (∀ c ∈ r, 48 ≤ c ∧ c ≤ 57) → (l < r ↔ v10 l < v10 r)
  | [], [], _, _, _ => by simp [v10]
  | c :: l, d :: r, hl, h1, h2 => by
    have hl' : l.length = r.length := by simpa using hl
    have g1 := h1 c (by simp)
    have g2 := h2 d (by simp)
    have k1 : ∀ c ∈ l, 48 ≤ c ∧ c ≤ 57 := fun d hd => h1 d (by simp [hd])
    have k2 : ∀ c ∈ r, 48 ≤ c ∧ c ≤ 57 := fun d hd => h2 d (by simp [hd])
    have v1 := v10_lt k1
    have v2 := v10_lt k2
    rw [List.cons_lt_cons_iff, v10_cons, v10_cons, hl', lex_val hl' k1 k2]
    rw [hl'] at v1
    constructor
    · rintro (h | ⟨rfl, h⟩)
      · have : (c - 48 + 1) * 10 ^ r.length ≤ (d - 48) * 10 ^ r.length := Nat.mul_le_mul_right _ (by omega)
        rw [Nat.add_mul] at this
        omega
      · omega
    · intro h
      rcases Nat.lt_trichotomy c d with q | q | q
      · exact .inl q
      · subst q
        exact .inr ⟨rfl, by omega⟩
      · have : (d - 48 + 1) * 10 ^ r.length ≤ (c - 48) * 10 ^ r.length := Nat.mul_le_mul_right _ (by omega)
        rw [Nat.add_mul] at this
        omega
/-- the texts of two numbers, made as long as each other, are in the numbers' order -/
theorem pad_lt {a b m : Nat} (ha : nd a ≤ m) (hb : nd b ≤ m) : (digs a ++ List.replicate (m - nd a) 48 < digs b ++ List.replicate (m - nd b) 48) ↔ a * 10 ^ (m - nd a) < b * 10 ^ (m - nd b) := by
  have z : ∀ (k : Nat), ∀ c ∈ List.replicate k 48, 48 ≤ c ∧ c ≤ 57 := fun k c hc => by
    obtain ⟨_, rfl⟩ := List.mem_replicate.1 hc
    decide
  have g : ∀ x, ∀ c ∈ digs x ++ List.replicate (m - nd x) 48, 48 ≤ c ∧ c ≤ 57 := fun x c hc => by
    rcases List.mem_append.1 hc with h | h
    · exact digs_dig x c h
    · exact z _ c h
  rw [lex_val (by simp only [List.length_append, List.length_replicate, digs_len]; omega) (g a) (g b), v10_append, v10_append, v10_zeros, v10_zeros, v10_digs, v10_digs, List.length_replicate, List.length_replicate]
  omega
/-- what the order of two positive numbers is, by their sizes and texts -/
def sizI (a : Nat) (e : Int) (b : Nat) (f : Int) : Int :=
  if (nd a : Int) + e ≠ (nd b : Int) + f then cmpI ((nd a : Int) + e) ((nd b : Int) + f)
  else cmpI ((a * 10 ^ (max (nd a) (nd b) - nd a) : Nat) : Int) ((b * 10 ^ (max (nd a) (nd b) - nd b) : Nat) : Int)
theorem sizI_lt {a b : Nat} {e f : Int} (ha : 0 < a) (hb : 0 < b) (h : (nd a : Int) + e < (nd b : Int) + f) : a * 10 ^ (e - min e f).toNat < b * 10 ^ (f - min e f).toNat := by
  have h1 := nd_hi a
  have h2 := nd_lo hb
  have p1 := nd_pos a
  have p2 := nd_pos b
  calc a * 10 ^ (e - min e f).toNat < 10 ^ nd a * 10 ^ (e - min e f).toNat := Nat.mul_lt_mul_of_pos_right h1 (Nat.pow_pos (by decide))
    _ = 10 ^ (nd a + (e - min e f).toNat) := (Nat.pow_add ..).symm
    _ ≤ 10 ^ (nd b - 1 + (f - min e f).toNat) := Nat.pow_le_pow_right (by decide) (by omega)
    _ = 10 ^ (nd b - 1) * 10 ^ (f - min e f).toNat := Nat.pow_add ..
    _ ≤ b * 10 ^ (f - min e f).toNat := Nat.mul_le_mul_right _ h2
theorem sizI_is {a b : Nat} (e f : Int) (ha : 0 < a) (hb : 0 < b) : sizI a e b f = ordI a e b f := by
  have cast : ∀ (x n : Nat), ((x * 10 ^ n : Nat) : Int) = (x : Int) * 10 ^ n := fun x n => by simp
  unfold sizI
  rcases Int.lt_trichotomy ((nd a : Int) + e) ((nd b : Int) + f) with h | h | h
  · rw [if_pos (by omega)]
    have := sizI_lt ha hb h
    unfold ordI cmpI
    rw [if_pos h, ← cast, ← cast, if_pos (by omega)]
  · rw [if_neg (by omega)]
    unfold ordI
    rw [← cast, ← cast, show (e - min e f).toNat = max (nd a) (nd b) - nd a by omega, show (f - min e f).toNat = max (nd a) (nd b) - nd b by omega]
  · rw [if_pos (by omega)]
    have := sizI_lt hb ha h
    rw [show min f e = min e f by omega] at this
    unfold ordI cmpI
    rw [if_neg (by omega), if_pos h, ← cast, ← cast, if_neg (by omega), if_pos (by omega)]
end
end DL

set_option maxRecDepth 100000
set_option maxHeartbeats 1000000
/-! DM2: the order of decimals, as the program asks it. -/
namespace DL
open PySem PySem.Spec PyProof.Rows L2
theorem sI_cps (m : Nat) : (sI (m : Int)).cps.toList = digs m := PySem.W.KIN.signs_num m
theorem sI_len (m : Nat) : (sI (m : Int)).length = nd m := by
  have h := congrArg List.length (sI_cps m)
  rw [digs_len] at h
  simpa [Str.length] using h
theorem nd_small {m : Nat} (h : m.log2 < 1920) : nd m ≤ 1921 := by
  have := int_text_len_1921 (i := (m : Int)) (by simpa using h)
  have e := sI_len m
  unfold sI at e
  omega
theorem str_app (a b : Str) : (a ++ b).cps.toList = a.cps.toList ++ b.cps.toList := by
  show (a.cps ++ b.cps).toList = _
  simp
theorem str_app_len (a b : Str) : (a ++ b).length = a.length + b.length := by
  show (a.cps ++ b.cps).size = _
  simp [Str.length]
theorem fold_rep (c : Nat) : ∀ (j : Nat) (acc : Array Nat), ((List.replicate j (#[c] : Array Nat)).foldl (fun x y => x ++ y) acc).toList = acc.toList ++ List.replicate j c
  | 0, acc => by simp
  | j + 1, acc => by
    rw [List.replicate_succ, List.foldl_cons, fold_rep c j, List.replicate_succ]
    simp
theorem zeros_cps (j : Nat) : (Txt.mul "0" (j : Int)).cps.toList = List.replicate j 48 := by
  have h0 : (("0" : Str)).cps = #[48] := by decide
  have hl : (("0" : Str)).length = 1 := by decide
  unfold Txt.mul
  by_cases h : (j : Int) < 1
  · rw [if_pos h]
    have : j = 0 := by omega
    subst this
    rfl
  · rw [if_neg h]
    by_cases h1 : ((j : Int) == 1 || ("0" : Str).length == 0) = true
    · rw [if_pos h1]
      rw [hl] at h1
      have : j = 1 := by
        have h2 : (j : Int) = 1 := by simpa using h1
        omega
      subst this
      rw [h0]; rfl
    · rw [if_neg h1]
      show (List.foldl (fun x y => x ++ y) #[] (List.replicate (j : Int).toNat ("0" : Str).cps)).toList = _
      rw [h0, fold_rep]
      simp
theorem zeros_len (j : Nat) : (Txt.mul "0" (j : Int)).length = j := by
  have h := congrArg List.length (zeros_cps j)
  simpa [Str.length] using h
theorem zeros_ok {j : Nat} (h : j ≤ 4000) : MulOk "0" (j : Int) := by
  have hl : (("0" : Str)).length = 1 := by decide
  unfold MulOk
  rw [hl]
  refine ⟨by simp; omega, fun h1 _ => ?_, fun h1 _ => ?_⟩
  · have : (4000 : Int) ≤ (2 ^ 63 - 1) / (j : Int) := by
      rw [Int.le_ediv_iff_mul_le (by omega)]
      omega
    omega
  · unfold Builtin.Str.tooLong
    simp
    omega
def f_sign_of : DF0 := fun _ n ds k _ => ∃ a e : Int, ds = [.tup [.int a, .int e]] ∧ k (.int a.sign) n
def f_size_of : DF0 := fun _ n ds k _ => ∃ a e : Int, ds = [.tup [.int a, .int e]] ∧ a.natAbs.log2 < 1920 ∧ k (.int ((nd a.natAbs : Nat) + e)) n
def f_order_of : DF0 := fun _ n ds k _ => (∃ a b : Int, ds = [.int a, .int b] ∧ k (.int (cmpI a b)) n) ∨ (∃ a b : Str, ds = [.str a, .str b] ∧ k (.int (if sLt a b = true then -1 else if sLt b a = true then 1 else 0)) n)
def f_order_of_sizes : DF0 := fun _ n ds k _ => ∃ a e b f : Int, ds = [.tup [.int a, .int e], .tup [.int b, .int f]] ∧ a.natAbs.log2 < 1920 ∧ b.natAbs.log2 < 1920 ∧ k (.int (sizI a.natAbs e b.natAbs f)) n
def f_order (c : Addr) : DF0 := fun _ n ds k x => ∃ a b : D, ds = [a, b] ∧ pln 40 a = true ∧ pln 40 b = true ∧ (isDec a = false → x (.own c) n) ∧ (isDec a = true → isDec b = false → x (.own c) n) ∧
  ∀ i e j f : Int, a = .tup [.int i, .int e] → b = .tup [.int j, .int f] → isDec a = true → isDec b = true → i.natAbs.log2 < 1920 ∧ j.natAbs.log2 < 1920 ∧ k (.int (ordI i e j f)) n
section
variable {K : PySem.W.Frag} {U : Vol} {n : Nat} {ds : List D} {k : D → Nat → Prop} {x : Xn → Nat → Prop}
theorem sign_of_ok (h : f_sign_of U n ds k x) : m_sign_of K U (MKf k x) (startD ["decimal"] ds n) := by
  obtain ⟨a, e, rfl, h⟩ := h
  simp [m_sign_of, startD]
  rcases Int.lt_trichotomy a 0 with q | q | q
  · rw [Int.sign_eq_neg_one_of_neg q] at h
    rw [if_neg (by omega), if_pos q]; exact h
  · subst q; simpa using h
  · rw [Int.sign_eq_one_of_pos q] at h
    rw [if_pos q]; exact h
theorem size_of_ok (h : f_size_of U n ds k x) : m_size_of K U (MKf k x) (startD ["decimal"] ds n) := by
  obtain ⟨a, e, rfl, hl, h⟩ := h
  simp [m_size_of, startD]
  have := nd_small hl
  rw [sI_len]
  exact ⟨hl, by omega, h⟩
theorem order_of_ok (h : f_order_of U n ds k x) : m_order_of K U (MKf k x) (startD ["one", "other"] ds n) := by
  rcases h with ⟨a, b, rfl, h⟩ | ⟨a, b, rfl, h⟩
  · simp [m_order_of, startD]
    unfold cmpI at h
    by_cases h1 : a < b
    · rw [if_pos h1] at h ⊢; exact h
    · rw [if_neg h1] at h ⊢
      by_cases h2 : b < a
      · rw [if_pos h2] at h ⊢; exact h
      · rw [if_neg h2] at h ⊢; exact h
  · simp [m_order_of, startD]
    by_cases h1 : sLt a b = true
    · rw [if_pos h1] at h ⊢; exact h
    · rw [if_neg h1] at h ⊢
      by_cases h2 : sLt b a = true
      · rw [if_pos h2] at h ⊢; exact h
      · rw [if_neg h2] at h ⊢; exact h
theorem sizes_ok (h : f_order_of_sizes U n ds k x) : m_order_of_sizes K U f_order_of f_size_of (MKf k x) (startD ["one", "other", "first", "second", "many"] ds n) := by
  obtain ⟨a, e, b, f, rfl, ha, hb, h⟩ := h
  simp [m_order_of_sizes, startD, List.replicate]
  refine ⟨a, e, rfl, ha, ?_⟩
  simp
  refine ⟨b, f, rfl, hb, ?_⟩
  simp
  have la := nd_small ha
  have lb := nd_small hb
  have pa := nd_pos a.natAbs
  have pb := nd_pos b.natAbs
  simp only [sI_len]
  unfold sizI at h
  by_cases he : ((nd a.natAbs : Nat) : Int) + e = (nd b.natAbs : Nat) + f
  · rw [if_pos he]
    rw [if_neg (by simpa using he)] at h
    have hm : (if nd a.natAbs < nd b.natAbs then ((nd b.natAbs : Nat) : Int) else (nd a.natAbs : Nat)) = ((max (nd a.natAbs) (nd b.natAbs) : Nat) : Int) := by split <;> omega
    rw [hm]
    have e1 : ((max (nd a.natAbs) (nd b.natAbs) : Nat) : Int) - (nd a.natAbs : Nat) = ((max (nd a.natAbs) (nd b.natAbs) - nd a.natAbs : Nat) : Int) := by omega
    have e2 : ((max (nd a.natAbs) (nd b.natAbs) : Nat) : Int) - (nd b.natAbs : Nat) = ((max (nd a.natAbs) (nd b.natAbs) - nd b.natAbs : Nat) : Int) := by omega
    rw [e1, e2, zeros_len, zeros_len]
    refine ⟨ha, hb, by omega, by omega, by omega, zeros_ok (by omega), by omega, by omega, zeros_ok (by omega), by omega, .inr ⟨_, _, rfl, ?_⟩⟩
    have p1 := pad_lt (a := a.natAbs) (b := b.natAbs) (m := max (nd a.natAbs) (nd b.natAbs)) (by omega) (by omega)
    have p2 := pad_lt (a := b.natAbs) (b := a.natAbs) (m := max (nd a.natAbs) (nd b.natAbs)) (by omega) (by omega)
    unfold sLt
    simp only [decide_eq_true_eq, str_app, sI_cps, zeros_cps, p1, p2]
    unfold cmpI at h
    simpa only [Int.ofNat_lt] using h
  · rw [if_neg he]
    rw [if_pos (by simpa using he)] at h
    exact ⟨a, e, rfl, ha, b, f, rfl, hb, .inl ⟨_, _, rfl, h⟩⟩
theorem isDec_is {d : D} (h : isDec d = true) : ∃ i e : Int, d = .tup [.int i, .int e] := by
  unfold isDec at h
  split at h
  · exact ⟨_, _, rfl⟩
  · cases h
theorem sign_mul_siz {i j e f : Int} (h : i.sign = j.sign) (h0 : i.sign ≠ 0) : i.sign * sizI i.natAbs e j.natAbs f = ordI i e j f := by
  rcases Int.lt_trichotomy i 0 with q | q | q
  · have hj : j < 0 := by
      rw [Int.sign_eq_neg_one_of_neg q] at h
      exact Int.sign_eq_neg_one_iff_neg.1 h.symm
    rw [Int.sign_eq_neg_one_of_neg q, sizI_is e f (by omega) (by omega)]
    have := ordI_negs (i.natAbs : Int) e (j.natAbs : Int) f
    rw [show (-(i.natAbs : Int)) = i by omega, show (-(j.natAbs : Int)) = j by omega] at this
    rw [this]; omega
  · subst q; exact (h0 rfl).elim
  · have hj : 0 < j := by
      rw [Int.sign_eq_one_of_pos q] at h
      exact Int.sign_eq_one_iff_pos.1 h.symm
    rw [Int.sign_eq_one_of_pos q, sizI_is e f (by omega) (by omega), show ((i.natAbs : Nat) : Int) = i by omega, show ((j.natAbs : Nat) : Int) = j by omega, Int.one_mul]
theorem sizI_small (a : Nat) (e : Int) (b : Nat) (f : Int) : (sizI a e b f).natAbs < 2 ^ 64 := by
  unfold sizI cmpI
  split <;> (split <;> (try split)) <;> decide
theorem order_ok {c : Addr} (h : f_order c U n ds k x) : m_order K U (f_need_decimal c) f_order_of f_order_of_sizes f_sign_of (MKf k x) (startD ["one", "other"] ds n) := by
  obtain ⟨a, b, rfl, pa, pb, h1, h2, h3⟩ := h
  simp [m_order, startD]
  refine ⟨a, rfl, pa, fun da => ?_, fun da => by simpa using h1 da⟩
  simp
  refine ⟨b, rfl, pb, fun db => ?_, fun db => by simpa using h2 da db⟩
  obtain ⟨i, e, rfl⟩ := isDec_is da
  obtain ⟨j, f, rfl⟩ := isDec_is db
  obtain ⟨hi, hj, h⟩ := h3 i e j f rfl rfl da db
  refine ⟨i, e, rfl, ?_⟩
  refine ⟨j, f, rfl, ?_⟩
  simp
  by_cases hs : i.sign = j.sign
  · simp [hs]
    refine ⟨i, e, rfl, ?_⟩
    by_cases h0 : i.sign = 0
    · simp [h0]
      have e1 : i = 0 := Int.sign_eq_zero_iff_zero.1 h0
      have e2 : j = 0 := Int.sign_eq_zero_iff_zero.1 (hs ▸ h0)
      subst e1 e2
      rw [ordI_zl] at h
      exact h
    · simp [h0]
      refine ⟨i, e, rfl, ⟨i, e, j, f, rfl, hi, hj, ?_⟩⟩
      simp
      refine ⟨mulR (sizI_small ..), ?_⟩
      rw [sign_mul_siz hs h0]; exact h
  · simp [hs]
    refine ⟨i, e, rfl, ⟨j, f, rfl, .inl ⟨_, _, rfl, ?_⟩⟩⟩
    rw [ordI_sgn hs] at h
    exact h
end
end DL

set_option maxRecDepth 100000
set_option maxHeartbeats 1000000
/-! DM3: the law's own decimals and their order. -/
namespace DL
open PySem PySem.Spec PyProof.Rows L2
def f_law_order : DF0 := fun _ n ds k _ => ∃ a e b f : Int, ds = [.tup [.int a, .int e], .tup [.int b, .int f]] ∧ e.natAbs < 2 ^ 60 ∧ f.natAbs < 2 ^ 60 ∧ k (.int (ordI a e b f)) n
def f_some_decimal : DF0 := fun U n ds k _ => ∃ st gr ce cs T, U = stU st gr ce cs T ∧ n + 4 ≤ mostN ∧ ds = [.hdl st] ∧
  ∀ (a e : Int) (n' : Nat), isDec (.tup [.int a, .int e]) = true → a.natAbs ≤ 100000 → e.natAbs ≤ 100100 → n ≤ n' → n' ≤ n + 4 → k (.tup [.int a, .int e]) n'
section
variable {K : PySem.W.Frag} {U : Vol} {n : Nat} {ds : List D} {k : D → Nat → Prop} {x : Xn → Nat → Prop}
theorem rngL_len (lo : Int) (n : Nat) : (rngL lo n).length = n := by simp [rngL]
theorem law_order_ok (h : f_law_order U n ds k x) : m_law_order K U (MKf k x) (startD ["one", "other", "low", "here", "there", "lap"] ds n) := by
  obtain ⟨a, e, b, f, rfl, he, hf, h⟩ := h
  simp [m_law_order, startD, List.replicate]
  have hmin : (if f < e then f else e) = min e f := by split <;> omega
  simp only [hmin]
  refine ⟨by omega, by omega, ?_⟩
  refine forM_ind (fun ds ρ => ∃ (y : Int) (s : Slot), y * 10 ^ ds.length = a * 10 ^ (e - min e f).toNat ∧ ρ = ⟨[.dat (.tup [.int a, .int e]), .dat (.tup [.int b, .int f]), .dat (.int (min e f)), .dat (.int y), .dat (.int b), s], n⟩) (fun ρ => ?_) (fun R d ds ρ hR hI => ?_) _ _ ⟨a, .no, by rw [rngL_len], rfl⟩
  · rintro ⟨y, s, hy, rfl⟩
    simp at hy
    subst hy
    simp
    refine ⟨by omega, by omega, ?_⟩
    refine forM_ind (fun ds ρ => ∃ (z : Int) (s : Slot), z * 10 ^ ds.length = b * 10 ^ (f - min e f).toNat ∧ ρ = ⟨[.dat (.tup [.int a, .int e]), .dat (.tup [.int b, .int f]), .dat (.int (min e f)), .dat (.int (a * 10 ^ (e - min e f).toNat)), .dat (.int z), s], n⟩) (fun ρ => ?_) (fun R d ds ρ hR hI => ?_) _ _ ⟨b, s, by rw [rngL_len], rfl⟩
    · rintro ⟨z, s, hz, rfl⟩
      simp at hz
      subst hz
      simp
      unfold ordI cmpI at h
      by_cases h1 : a * 10 ^ (e - min e f).toNat < b * 10 ^ (f - min e f).toNat
      · rw [if_pos h1] at h ⊢; exact h
      · rw [if_neg h1] at h ⊢
        by_cases h2 : b * 10 ^ (f - min e f).toNat < a * 10 ^ (e - min e f).toNat
        · rw [if_pos h2] at h ⊢; exact h
        · rw [if_neg h2] at h ⊢; exact h
    · obtain ⟨z, s, hz, rfl⟩ := hI
      simp
      exact ⟨mulL (by decide), hR _ ⟨_, _, by rw [← hz, List.length_cons, Int.pow_succ', Int.mul_assoc, Int.mul_left_comm], rfl⟩⟩
  · obtain ⟨y, s, hy, rfl⟩ := hI
    simp
    exact ⟨mulL (by decide), hR _ ⟨_, _, by rw [← hy, List.length_cons, Int.pow_succ', Int.mul_assoc, Int.mul_left_comm], rfl⟩⟩
theorem some_decimal_ok (h : f_some_decimal U n ds k x) : m_law_some_decimal K U f_draw f_pick (MKf k x) (startD ["state", "number", "exponent"] ds n) := by
  obtain ⟨st, gr, ce, cs, T, rfl, hn, rfl, h⟩ := h
  simp [m_law_some_decimal, startD, List.replicate]
  refine ⟨st, gr, ce, cs, T, rfl, by omega, _, _, rfl, .inl rfl, by decide, by decide, fun d n1 hd l1 u1 => ?_⟩
  obtain ⟨room, rfl, r0, r1⟩ : ∃ r : Int, d = .int r ∧ 0 < r ∧ r ≤ 100000 := by
    simp at hd
    rcases hd with rfl | rfl | rfl
    · exact ⟨_, rfl, by decide, by decide⟩
    · exact ⟨_, rfl, by decide, by decide⟩
    · exact ⟨_, rfl, by decide, by decide⟩
  have hlog : room.natAbs.log2 < 9000 := by
    have := (Nat.log2_lt (n := room.natAbs) (k := 20) (by omega)).2 (by omega)
    omega
  refine ⟨st, gr, ce, cs, T, rfl, by omega, room, rfl, r0, hlog, fun v n2 v0 v1 l2 u2 => ?_⟩
  refine ⟨st, gr, ce, cs, T, rfl, by omega, _, _, rfl, .inl rfl, by decide, by decide, fun d n3 hd l3 u3 => ?_⟩
  obtain ⟨w, rfl, w0, w1⟩ : ∃ r : Int, d = .int r ∧ 0 ≤ r ∧ r ≤ 50 := by
    simp at hd
    rcases hd with rfl | rfl
    · exact ⟨_, rfl, by decide, by decide⟩
    · exact ⟨_, rfl, by decide, by decide⟩
  simp
  refine ⟨st, gr, ce, cs, T, rfl, by omega, _, _, rfl, .inl rfl, by decide, by decide, fun d n4 hd l4 u4 => ?_⟩
  obtain ⟨e, rfl, e0, e1⟩ : ∃ r : Int, d = .int r ∧ -12 ≤ r ∧ r ≤ 7 := by
    simp at hd
    rcases hd with rfl | rfl | rfl | rfl | rfl
    all_goals exact ⟨_, rfl, by decide, by decide⟩
  refine ⟨fun m ρ => ∃ a e : Int, a.natAbs ≤ m ∧ a.natAbs ≤ 100000 ∧ -12 ≤ e ∧ e + a.natAbs ≤ 100100 ∧ ρ = ⟨[.dat (.hdl st), .dat (.int a), .dat (.int e)], n4⟩, ⟨_, v - w, e, Nat.le_refl _, by omega, e0, by omega, rfl⟩, ?_⟩
  rintro m ρ ⟨a, e, hm, ha, e0, e1, rfl⟩
  by_cases h0 : a = 0
  · subst h0
    simp
    exact h 0 0 n4 (by decide) (by decide) (by decide) (by omega) (by omega)
  · by_cases h1 : a % 10 = 0
    · simp [h0, h1]
      refine ⟨divOk (by decide) (by decide), m - 1, by omega, ?_⟩
      exact ⟨_, by omega, by omega, e + 1, by omega, by omega, rfl, rfl⟩
    · simp [h0, h1]
      exact h a e n4 (by simp [isDec, h1]) ha (by omega) (by omega) (by omega)
end
end DL

set_option maxRecDepth 100000
set_option maxHeartbeats 1000000
/-! DH3: the draw state is made; the law's start. -/
namespace DL
open PySem PySem.Spec PyProof.Rows L2
def beG : EnvD → (List D → EnvD → Prop) → KX → Prop := fLc (iLst (eVar 0)) (gNm 2) (eTest (eOp geD (eCa absD (aCons (eVar 2) (aNil))) (eOp powD (eC (.int 10)) (eC (.int 18))))) (eOp subD (eCa absD (aCons (eVar 2) (aNil))) (eOp powD (eC (.int 10)) (eC (.int 18)))) [2]
def beC : EnvD → (List D → EnvD → Prop) → KX → Prop := fLc (iLst (eVar 0)) (gNm 2) (tYesM) (eCa absD (aCons (eVar 2) (aNil))) [2]
theorem beG_ok {ns : List Int} {s1 s2 : Slot} {c : Nat} (hl : ns.length ≤ 100) {k : List D → EnvD → Prop} {x : KX} (h : ∀ (gs : List Int) (ρ : EnvD), (∀ g ∈ gs, 0 ≤ g) → k (gs.map D.int) ρ) : beG ⟨[.dat (.scr ns), s1, s2], c⟩ k x := by
  simp [beG]
  refine lcM_ind (fun ds acc ρ => (∃ gs : List Int, acc = gs.map D.int ∧ (∀ g ∈ gs, 0 ≤ g) ∧ gs.length + ds.length ≤ 100) ∧ (∃ s, ρ = ⟨[.dat (.scr ns), s1, s], c⟩) ∧ ∀ d ∈ ds, ∃ i : Int, d = .int i) (fun acc ρ => ?_) (fun R d ds acc ρ hR hI => ?_) _ _ _ ⟨⟨[], rfl, by simp, by simpa using hl⟩, ⟨_, rfl⟩, by simp⟩
  · rintro ⟨⟨gs, rfl, hg, _⟩, _⟩
    exact h gs _ hg
  · obtain ⟨⟨gs, rfl, hg, hlen⟩, ⟨s, rfl⟩, hd⟩ := hI
    obtain ⟨i, rfl⟩ := hd d (by simp)
    simp at hlen
    simp
    refine ⟨⟨by decide, by decide, by decide⟩, ?_⟩
    by_cases hb : (1000000000000000000 : Int) ≤ (i.natAbs : Nat)
    · rw [if_pos hb]
      refine ⟨⟨by decide, by decide, by decide⟩, by omega, hR _ _ ⟨⟨gs ++ [((i.natAbs : Nat) : Int) - 1000000000000000000], by simp, fun g hgm => ?_, by simp; omega⟩, ⟨_, rfl⟩, fun d hdm => hd d (by simp [hdm])⟩⟩
      rcases List.mem_append.1 hgm with q | q
      · exact hg g q
      · simp at q; omega
    · rw [if_neg hb]
      exact hR _ _ ⟨⟨gs, rfl, hg, by omega⟩, ⟨_, rfl⟩, fun d hdm => hd d (by simp [hdm])⟩
theorem beC_ok {ns : List Int} {s1 s2 : Slot} {c : Nat} (hl : ns.length ≤ 100) {k : List D → EnvD → Prop} {x : KX} (h : ∀ (gs : List Int) (ρ : EnvD), k (gs.map D.int) ρ) : beC ⟨[.dat (.scr ns), s1, s2], c⟩ k x := by
  simp [beC]
  refine lcM_ind (fun ds acc ρ => (∃ gs : List Int, acc = gs.map D.int ∧ gs.length + ds.length ≤ 100) ∧ (∃ s, ρ = ⟨[.dat (.scr ns), s1, s], c⟩) ∧ ∀ d ∈ ds, ∃ i : Int, d = .int i) (fun acc ρ => ?_) (fun R d ds acc ρ hR hI => ?_) _ _ _ ⟨⟨[], rfl, by simpa using hl⟩, ⟨_, rfl⟩, by simp⟩
  · rintro ⟨⟨gs, rfl, _⟩, _⟩
    exact h gs _
  · obtain ⟨⟨gs, rfl, hlen⟩, ⟨s, rfl⟩, hd⟩ := hI
    obtain ⟨i, rfl⟩ := hd d (by simp)
    simp at hlen
    simp
    exact ⟨by omega, hR _ _ ⟨⟨gs ++ [((i.natAbs : Nat) : Int)], by simp, by simp; omega⟩, ⟨_, rfl⟩, fun d hdm => hd d (by simp [hdm])⟩⟩
theorem seq_hide {K : PySem.W.Frag} {H0 H : Hp} {Z : Addr → Prop} {a : Addr} {xs : List V} (h : SqL K H0 a xs) (e : ∀ b o, H0 b = some o → H b = some o ∧ ¬ Z b) : SqL K (hide Z H) a xs := by
  rcases h with (h | ⟨o, h⟩) | h
  · exact .inl (.inl ((hide_no (e _ _ h).2).trans (e _ _ h).1))
  · exact .inl (.inr ⟨o, (hide_no (e _ _ h).2).trans (e _ _ h).1⟩)
  · exact .inr h
theorem env_scr {K : PySem.W.Frag} {H0 H : Hp} {Z : Addr → Prop} {a : Addr} {ns : List Int} {t1 t2 : Option V} (h : SqL K H0 a (ns.map V.int)) (e : ∀ b o, H0 b = some o → H b = some o ∧ ¬ Z b) (zt : ∀ b, Z b → ∃ o, H b = some o ∧ ¬ Fix o) : EnvOk K Vol.no Z [some (.ref a), t1, t2] ⟨[.dat (.scr ns), .no, .no], 0⟩ H := by
  have nO : ∀ p, ¬ Owns [some (V.ref a), t1, t2] ⟨[.dat (.scr ns), .no, .no], 0⟩ p := fun p ⟨i, _, c, q⟩ => by
    match i, q with
    | 0, q => simp at q
    | 1, q => simp at q
    | 2, q => simp at q
    | i + 3, q => simp at q
  refine ⟨rfl, fun i d q => ?_, fun i c q => ?_, fun i j p q => (nO p ⟨i, q⟩).elim, trivial, zt, fun _ _ z => z, fun p q => (nO p q).elim⟩
  · match i, q with
    | 0, q =>
      simp at q
      subst q
      refine ⟨.ref a, rfl, ?_⟩
      simp only [Rep]
      exact ⟨a, rfl, seq_hide h fun b o hb => ⟨(e b o hb).1, fun z => z.elim (fun z => z) fun z => z.elim (fun z => (e b o hb).2 z) fun z => nO _ z⟩⟩
    | 1, q => simp at q
    | 2, q => simp at q
    | i + 3, q => simp at q
  · match i, q with
    | 0, q => simp at q
    | 1, q => simp at q
    | 2, q => simp at q
    | i + 3, q => simp at q
def spBegun (K : PySem.W.Frag) : Sp := fun vs H Q _ => ∃ (a : Addr) (ns : List Int), vs = [.ref a] ∧ SqL K H a (ns.map V.int) ∧ ns.length ≤ 100 ∧
  ∀ (H' : Hp) (st gr ce : Addr) (gs cs : List Int), Same H H' → H st = none → H gr = none → H ce = none → gr ≠ ce → H' st = some (.dK (stL gr ce 0 0)) → H' gr = some (.lst (gs.map V.int)) → H' ce = some (.lst (cs.map V.int)) → (∀ g ∈ gs, 0 ≤ g) → Q (.ref st) H'
theorem begun_t {K : PySem.W.Frag} {E : XK} {t1 t2 : TE} (h1 : SndF K Vol.no (fun _ => E) t1 beG) (h2 : SndF K Vol.no (fun _ => E) t2 beC) {vs : List V} {H : Hp} {Q : VK} (h : spBegun K vs H Q E) :
    tSeq (tAsg t1 (gName 1)) (tRet (tDisp [(tC (.str "great"), tVar 1), (tC (.str "cells"), t2), (tC (.str "rest"), tC (.int 0)), (tC (.str "turn"), tC (.int 0))])) { nx := fun _ H' => Q .non H', rt := Q } (L2.start ["script", "great", "cell"] vs) H := by
  obtain ⟨a, ns, rfl, hS, hl, h⟩ := h
  have none_ : ∀ (σ : L2.St) (p : Addr), ¬ Owns σ ⟨[.dat (.scr ns), .no, .no], 0⟩ p := fun σ p ⟨i, _, c, q⟩ => by
    match i, q with
    | 0, q => simp at q
    | 1, q => simp at q
    | 2, q => simp at q
    | i + 3, q => simp at q
  refine h1 (fun _ => False) [some (.ref a), none, none] _ H (fun ds ρ => ∃ gs : List Int, ds = gs.map D.int ∧ ∀ g ∈ gs, 0 ≤ g) (fun _ _ => False) _ (env_scr hS (fun b o e => ⟨e, fun z => z⟩) fun _ z => z.elim) (beG_ok hl fun gs ρ hg => ⟨gs, rfl, hg⟩) (fun ds ρ' p1 vs1 H1 T1 I1 nS1 nZ1 hp1 new1 r1 hk => ?_) (fun _ _ _ _ _ _ _ _ z => z.elim)
  obtain ⟨gs, rfl, hg⟩ := hk
  have e1 := r1.ints
  subst e1
  have hH1 : Same H H1 := fun b o e => (T1 b o (fun z => z) (none_ _ b) e).1
  have n1 : H p1 = none := by
    cases q : H p1 with
    | none => rfl
    | some o => exact (new1 o (none_ _ p1) q).elim
  intro p hp
  have n2 : H p = none := by
    cases q : H p with
    | none => rfl
    | some o => rw [hH1 _ _ q] at hp; cases hp
  have ne1 : p1 ≠ p := fun z => by rw [z, hp] at hp1; cases hp1
  refine ⟨.ref p1, rfl, ?_⟩
  refine h2 (fun b => b = p1 ∨ b = p) [some (.ref a), some (.ref p1), none] ⟨[.dat (.scr ns), .no, .no], 0⟩ (upd H1 p (.dK [])) (fun ds ρ => ∃ cs : List Int, ds = cs.map D.int) (fun _ _ => False) _
    (env_scr hS (fun b o e => ⟨by rw [upd_ne (ne_of_none e n2)]; exact hH1 _ _ e, fun z => z.elim (fun z => ne_of_none e n1 z) fun z => ne_of_none e n2 z⟩) fun b z => z.elim (fun z => by subst z; exact ⟨_, by rw [upd_ne ne1]; exact hp1, id⟩) fun z => by subst z; exact ⟨_, upd_same, id⟩) (beC_ok hl fun gs ρ => ⟨gs, rfl⟩)
    (fun ds ρ' p2 vs2 H2 T2 I2 nS2 nZ2 hp2 new2 r2 hk => ?_) (fun _ _ _ _ _ _ _ _ z => z.elim)
  obtain ⟨cs, rfl⟩ := hk
  have e2 := r2.ints
  subst e2
  have hH2 : Same (upd H1 p (.dK [])) H2 := fun b o e => (T2 b o (fun z => z) (none_ _ b) e).1
  have n3 : upd H1 p (.dK []) p2 = none := by
    cases q : upd H1 p (.dK []) p2 with
    | none => rfl
    | some o => exact (new2 o (none_ _ p2) q).elim
  have ne2 : p2 ≠ p := fun z => nZ2 (.inr z)
  have ne3 : p2 ≠ p1 := fun z => nZ2 (.inl z)
  rw [upd_ne ne2] at n3
  have n4 : H p2 = none := by
    cases q : H p2 with
    | none => rfl
    | some o => rw [hH1 _ _ q] at n3; cases n3
  refine ⟨hH2 _ _ upd_same, stL p1 p2 0 0, rfl, (by show 4 ≤ 15; decide), ?_⟩
  have em : mergeK [] (stL p1 p2 0 0) = stL p1 p2 0 0 := rfl
  rw [em]
  refine h _ p p1 p2 gs cs (fun b o e => ?_) n2 n1 n4 ne3.symm upd_same ?_ ?_ hg
  · have nb : b ≠ p := ne_of_none e n2
    rw [upd_ne nb]
    exact hH2 _ _ (by rw [upd_ne nb]; exact hH1 _ _ e)
  · rw [upd_ne ne1]
    exact hH2 _ _ (by rw [upd_ne ne1]; exact hp1)
  · rw [upd_ne ne2]; exact hp2
/-! ### the law -/
def tAnyS {ι : Type} (Xs : ι → Cx) (sts : List Stmt) : TS := fun Dn σ H => ∃ t, (∀ j, PSs (Xs j) sts t) ∧ t Dn σ H
theorem pss_any {ι : Type} {Xs : ι → Cx} {sts : List Stmt} (j : ι) : PSs (Xs j) sts (tAnyS Xs sts) := ⟨fun pins s σ H Dn I ⟨_, ht, h⟩ => (ht j).run pins s σ H Dn I h⟩
theorem snd_any {ι : Type} {Xs : ι → Cx} {sts : List Stmt} {K : PySem.W.Frag} {U : Vol} {E : XS} {m : MS} (h : DSs Xs K U E sts m) : SndS K U E (tAnyS Xs sts) m := by
  obtain ⟨t, ht, sn⟩ := h
  exact fun Z σ ρ H k Dn I h0 f => ⟨t, ht, sn Z σ ρ H k Dn I h0 f⟩
def spLaw (K : PySem.W.Frag) (T : List (Addr × Str)) : Sp := fun vs H Q _ => ∃ (a : Addr) (ns : List Int), vs = [.ref a] ∧ SqL K H a (ns.map V.int) ∧ ns.length ≤ 63 ∧ LamX.Tabs T H ∧ ∀ H', Q (.bl true) H'
/-- the law's slots behind its first statement -/
def lawD (r : Nat) (ns : List Int) (st : Addr) : EnvD := ⟨.dat (.scr ns) :: .dat (.hdl st) :: List.replicate r .no, 0⟩
def MKl : MK := ⟨fun _ => False, fun d _ => d = .bl true, fun _ => False, fun _ => False, fun _ _ => False⟩
theorem seq_hide2 {K : PySem.W.Frag} {H0 H : Hp} {Z : Addr → Prop} {a : Addr} {xs : List V} (h : SqL K H0 a xs) (e : ∀ b o, H0 b = some o → (∀ ps, o ≠ .tbl ps) → H b = some o ∧ ¬ Z b) : SqL K (hide Z H) a xs := by
  rcases h with (h | ⟨o, h⟩) | h
  · have := e _ _ h (fun _ z => nomatch z)
    exact .inl (.inl ((hide_no this.2).trans this.1))
  · have := e _ _ h (fun _ z => nomatch z)
    exact .inl (.inr ⟨o, (hide_no this.2).trans this.1⟩)
  · exact .inr h
theorem law_t {K : PySem.W.Frag} {T : List (Addr × Str)} {E : XK} {tr : TS} {N : List Str} {mr : Vol → MS} {r : Nat} (hN : N.length = r + 2) (hs : ∀ st gr ce cs, SndS K (stU st gr ce cs T) (fun _ => E) tr (mr (stU st gr ce cs T)))
    (hd : ∀ st gr ce cs (ns : List Int), ns.length ≤ 63 → mr (stU st gr ce cs T) MKl (lawD r ns st)) {vs : List V} {H : Hp} {Q : VK} (h : spLaw K T vs H Q E) :
    tSeq (tAsg (tCallS (spBegun K) (fun _ => E) (tCons (tVar 0) tNil)) (gName 1)) tr { nx := fun _ H' => Q .non H', rt := Q } (L2.start N vs) H := by
  obtain ⟨a, ns, rfl, hS, hl, hT, hQ⟩ := h
  have e0 : L2.start N [V.ref a] = some (V.ref a) :: none :: List.replicate r none := by
    unfold L2.start
    rw [hN]
    simp [List.replicate_succ]
  rw [e0]
  refine ⟨.ref a, rfl, a, ns, rfl, hS, by omega, fun H' st gr ce gs cs hH n1 n2 n3 ne h1 h2 h3 hg => ?_⟩
  have nO : ∀ p, ¬ Owns (some (V.ref a) :: some (V.ref st) :: List.replicate r none) (lawD r ns st) p := fun p ⟨i, q1, c, q⟩ => by
    match i, q1, q with
    | 0, _, q => simp [lawD] at q
    | 1, _, q => simp [lawD] at q
    | i + 2, q1, q =>
      simp [lawD, List.getElem?_replicate] at q
  have I : EnvOk K (stU st gr ce cs T) (fun _ => False) (some (V.ref a) :: some (V.ref st) :: List.replicate r none) (lawD r ns st) H' := by
    refine ⟨by simp [lawD], fun i d q => ?_, fun i c q => ?_, fun i j p q => (nO p ⟨i, q⟩).elim, ⟨gs, 0, 0, rfl, h1, h2, h3, ne, Int.le_refl _, hg, hT.ext hH⟩, fun _ z => z.elim, fun _ z => z.elim, fun p q => (nO p q).elim⟩
    · match i, q with
      | 0, q =>
        simp [lawD] at q
        subst q
        refine ⟨.ref a, rfl, ?_⟩
        simp only [Rep]
        refine ⟨a, rfl, seq_hide2 hS fun b o hb nt => ⟨hH _ _ hb, ?_⟩⟩
        rintro (z | z | z)
        · rcases z with z | z | z | ⟨p, hp, z⟩
          · exact ne_of_none hb n1 z
          · exact ne_of_none hb n2 z
          · exact ne_of_none hb n3 z
          · obtain ⟨ps, hP, _⟩ := hT p hp
            rw [z, hP] at hb
            cases hb
            exact nt _ rfl
        · exact z
        · exact nO _ z
      | 1, q =>
        simp [lawD] at q
        subst q
        exact ⟨.ref st, rfl, by simp only [Rep]⟩
      | i + 2, q => simp [lawD, List.getElem?_replicate] at q
    · match i, q with
      | 0, q => simp [lawD] at q
      | 1, q => simp [lawD] at q
      | i + 2, q => simp [lawD, List.getElem?_replicate] at q
  refine hs st gr ce cs (fun _ => False) _ _ H' MKl _ I (hd st gr ce cs ns hl) ⟨fun _ _ _ _ _ z => z.elim, fun d σ' ρ' v H2 _ _ r hd => ?_, fun _ _ _ _ _ z => z.elim, fun _ _ _ _ _ z => z.elim, fun _ _ _ _ _ _ _ _ _ z => z.elim⟩
  have hd : d = .bl true := hd
  subst hd
  simp only [Rep] at r
  subst r
  exact hQ H2
end DL

set_option maxRecDepth 100000
set_option maxHeartbeats 1000000
/-! DH4: the defs joined. -/
namespace DL
open PySem PySem.Spec PyProof.Rows L2
/-- a def of the text, under its name -/
def PFn (K : PySem.W.Frag) (mg : Str → Option Value) (x : Str) (st : Stmt) : Prop := ∃ (a : Addr) (fd : FuncData), Fun K x x st a fd ∧ mg x = some (.ref a)
theorem pfn_mk {K : PySem.W.Frag} {mg : Str → Option Value} {h : Heap} {x : Str} {st : Stmt} {f : Addr} {oc : Value} {od an : Option Addr} {osl : Array (Option Value)} {kV doc pm cdv ct : Value} (X : K.In h) (G : h.Ns mainGlobals mg) (a : PySem.W.nsIn K mainGlobals x = some (some (.ref f)))
    (l : K.lookup f = some ⟨oc, od, .func (PySem.W.fnOf x x (defArgs st) (defBody st) (defScope st) .none kV doc pm an cdv ct), osl⟩) (c : PySem.W.codeIn K cdv x = true) (k : PySem.W.keepIn K (.ref f) = true) : PFn K mg x st := ⟨f, _, fun_mk l c k, PySem.W.mg_of X G a⟩
/-- .. of the law: its code object stands at c -/
def PLaw (K : PySem.W.Frag) (mg : Str → Option Value) (st : Stmt) (c : Addr) (fa : Addr) (fd : FuncData) : Prop := ∃ (oc : Value) (od : Option Addr) (kV doc pm : Value) (an : Option Addr) (ct : Value) (osl : Array (Option Value)), fd = PySem.W.fnOf "law" "law" (defArgs st) (defBody st) (defScope st) .none kV doc pm an (.ref c) ct ∧
  K.lookup fa = some ⟨oc, od, .func (PySem.W.fnOf "law" "law" (defArgs st) (defBody st) (defScope st) .none kV doc pm an (.ref c) ct), osl⟩ ∧ PySem.W.codeIn K (.ref c) "law" = true
section
variable {P : Program} {w : World} {K : PySem.W.Frag} {mg : Str → Option Value} {base : Heap}
theorem FnAt.no {x : Str} {st : Stmt} {ps : List Str} (p : PFn K mg x st) (hb : ∀ (kV doc pm : Value) (an : Option Addr) (cdv ct : Value) (us : List Value), us.length = ps.length → bindArgs (PySem.W.fnOf x x (defArgs st) (defBody st) (defScope st) .none kV doc pm an cdv ct) ⟨us, []⟩ = pure (ps.zip us)) : FnAt P w K mg base 0 x ps f_no := by
  obtain ⟨a, fd, Fx, hm⟩ := p
  refine ⟨a, fd, 0, ⟨fun vs H Q E h => ?_, fun A outer s H args us vs Q E _ _ _ _ h => ?_⟩, Nat.le_refl _, hm, Fx.kp, Fx.binds hb⟩
  · obtain ⟨_, _, _, _, _, _, _, _, _, _, h, _⟩ := h
    exact (show False from h).elim
  · obtain ⟨_, _, _, _, _, _, _, _, _, _, h, _⟩ := h
    exact (show False from h).elim
theorem at_of {x : Str} {st : Stmt} {N ps : List Str} {n : Nat} {sf : DF0} (p : PFn K mg x st) (S : FnScope N ps (defScope st)) (len : ∀ U c ds k x, sf U c ds k x → ds.length = ps.length)
    (hb : ∀ (kV doc pm : Value) (an : Option Addr) (cdv ct : Value) (us : List Value), us.length = ps.length → bindArgs (PySem.W.fnOf x x (defArgs st) (defBody st) (defScope st) .none kV doc pm an cdv ct) ⟨us, []⟩ = pure (ps.zip us))
    (body : ∀ (U : Vol) (E : XK) (cdv : Value) (A : Around) (outer : List Env) (s : Shared) (H : Hp) (f : Addr), Fam (fun _ : Unit => cxOf (L2.CX P w) P w K mg base N x (defScope st) f cdv A outer s H E) P w K mg base (fun _ => E) n →
      ∃ ms, DSs (fun _ : Unit => cxOf (L2.CX P w) P w K mg base N x (defScope st) f cdv A outer s H E) K U (fun _ => E) (defBody st) ms ∧ ∀ c ds k x, sf U c ds k x → ms (MKf k x) (startD N ds c)) : FnAt P w K mg base (n + 1) x ps sf := by
  obtain ⟨a, fd, Fx, hm⟩ := p
  exact ⟨a, fd, n + 1, fn_ok Fx S len fun U E cdv A outer s H F => body U E cdv A outer s H a F, Nat.le_refl _, hm, Fx.kp, Fx.binds hb⟩
/-- .. called by all its names, in their order -/
def gKV (vs zs : List V) : List V := if vs.isEmpty then zs else []
theorem vals_empty {vs : List V} {us : List Value} (r : Vals vs us) : vs.isEmpty = us.isEmpty := by
  cases r <;> rfl
theorem atK_of {x : Str} {st : Stmt} {N ps : List Str} {n : Nat} {sf : DF0} (p : PFn K mg x st) (S : FnScope N ps (defScope st)) (len : ∀ U c ds k x, sf U c ds k x → ds.length = ps.length) (h0 : 0 < ps.length)
    (hb : ∀ (kV doc pm : Value) (an : Option Addr) (cdv ct : Value) (us : List Value), us.length = ps.length → bindArgs (PySem.W.fnOf x x (defArgs st) (defBody st) (defScope st) .none kV doc pm an cdv ct) ⟨[], ps.zip us⟩ = pure (ps.zip us))
    (body : ∀ (U : Vol) (E : XK) (cdv : Value) (A : Around) (outer : List Env) (s : Shared) (H : Hp) (f : Addr), Fam (fun _ : Unit => cxOf (L2.CX P w) P w K mg base N x (defScope st) f cdv A outer s H E) P w K mg base (fun _ => E) n →
      ∃ ms, DSs (fun _ : Unit => cxOf (L2.CX P w) P w K mg base N x (defScope st) f cdv A outer s H E) K U (fun _ => E) (defBody st) ms ∧ ∀ c ds k x, sf U c ds k x → ms (MKf k x) (startD N ds c)) : FnAtK P w K mg base (n + 1) x ps ps gKV sf := by
  obtain ⟨a, fd, Fx, hm⟩ := p
  refine ⟨a, fd, n + 1, fun us ws => if us.isEmpty then ws else [], fn_ok Fx S len fun U E cdv A outer s H F => body U E cdv A outer s H a F, Nat.le_refl _, hm, Fx.kp, fun s us ws _ hl => ?_, fun {vs us zs ws} r1 r2 => ?_⟩
  · obtain ⟨oc, od, kV, doc, pm, an, cdv, ct, osl, rfl, _, _⟩ := Fx.ex
    cases us with
    | nil => exact .of_eq (hb kV doc pm an cdv ct ws (by simpa using hl))
    | cons u us =>
      simp at hl
      omega
  · unfold gKV
    rw [vals_empty r1]
    split
    · exact r2
    · exact .nil
theorem famC {N ps : List Str} {qual : Str} {sc : Scope} {f : Addr} {cdv : Value} {A : Around} {outer : List Env} {s : Shared} {H : Hp} {E : XK} {n : Nat} (S : FnScope N ps sc) (hr : Room n (A.deeper (envOfC qual sc s.heap.objs.size f cdv))) :
    Fam (fun _ : Unit => cxOf (L2.CX P w) P w K mg base N qual sc f cdv A outer s H E) P w K mg base (fun _ => E) n :=
  ⟨fun _ => rfl, fun _ => rfl, fun _ => rfl, fun _ => rfl, fun _ => rfl, fun _ => rfl, fun _ => S.nd, fun _ => hr, fun _ σ => fun pins H' s' e s'' I c => passes_call (takes_of rfl rfl rfl rfl) (fun _ _ _ _ h => h) pins σ H' s' e s'' I c, fun _ => passes_of rfl, fun _ => takes_of rfl rfl rfl rfl⟩
/-- what a law that hands lambdas to _law_caught needs of it -/
structure CgtS (K : PySem.W.Frag) (mg : Str → Option Value) (base : Heap) (c Pt CS : Addr) (stC : Stmt) : Prop where
  fn : PFn K mg "_law_caught" stC
  sc : FnScope ["action", "found", "error"] ["action"] (defScope stC)
  vis : Vis (defScope stC) "action"
  bind : ∀ (kV doc pm : Value) (an : Option Addr) (cdv ct : Value) (us : List Value), us.length = (["action"] : List Str).length → bindArgs (PySem.W.fnOf "_law_caught" "_law_caught" (defArgs stC) (defBody stC) (defScope stC) .none kV doc pm an cdv ct) ⟨us, []⟩ = pure ((["action"] : List Str).zip us)
  gives : ∀ (X : Cx), Room 2 X.A → X.mg = mg → ∀ (g : Addr) (cdg : Value) (q : Str), Gives3 X ["action", "found", "error"] "_law_caught" (defScope stC) g cdg (defBody stC) "action" q (TTc X.K CS)
  TB : LamX.TabB base mg c Pt
theorem lawq : (((("law" : Str)) ++ ((".<locals>." : Str))) ++ (("<lambda>" : Str))) = ("law.<locals>.<lambda>" : Str) := by decide +kernel
theorem de_caught2 {ι : Type} {Xs : ι → Cx} {U : Vol} {E : XS} {lv l : Nat} {scope : Scope} {m : ME} {c Pt CS : Addr} {stC : Stmt} {params : Arguments} {body : Expr} {p lpos pos : Pos} (F : Fam Xs P w K mg base E lv) (C : CgtS K mg base c Pt CS stC) (TU : TabU U Pt [(Pt, "law.<locals>.<lambda>")]) (hl : l + 2 ≤ lv)
    (hbody : ∀ E' : XK, DE (lamF Xs scope E' l) K U (fun _ => E') body m)
    (hcode : ∀ j, (Xs j).env.code = .ref c := by intro _; rfl) (hq : ∀ j, (Xs j).env.qual = (("law" : Str)) ++ ((".<locals>." : Str)) := by intro _; rfl) (hg : ∀ j, Gl (Xs j) "_law_caught" := by intro _; rfl) (L : ∀ j, LamX.lamSB (Xs j).env.scope scope = true := by intro _; rfl) (hdef : ∀ j, defaultsOf params (Xs j).env = ([], []) := by intro _; rfl)
    (hbind : ∀ (q : Str) (cl : List (Str × Addr)) (pm cv ctv : Value), bindArgs (PySem.W.kla_fn "<lambda>" q params body scope cl pm cv ctv) ⟨[], []⟩ = pure [] := by intro _ _ _ _ _; rfl) :
    DE Xs K U E (.Call (.Name "_law_caught" p) [.Lambda params body scope lpos] [] pos) (eCaught K CS m) := by
  obtain ⟨a, fd, Fx, hm⟩ := C.fn
  obtain ⟨oc, od, kV, doc, pm, an, cdv, ct, osl, rfl, lk, hcd⟩ := Fx.ex
  exact de_caught F hm Fx.kp lk hcd (Fx.binds C.bind) C.sc rfl C.vis (fun j => by have h := C.gives (Xs j) ((F.room j).mono (by omega)) (F.mg j) a cdv "law.<locals>.<lambda>"; rw [F.k j] at h; exact h) C.TB TU (by simp) (by simp) hl hbody hcode (fun j => by rw [hq j]; exact lawq) hg L hdef hbind
/-- the law keeps its promise, by what its rest does -/
theorem law_ok {stL : Stmt} {fd : FuncData} {c fa : Addr} {N : List Str} {n r l : Nat} {T : List (Addr × Str)} {mr : Vol → MS} {p1 p2 p3 p4 p5 : Pos} (pl : PLaw K mg stL c fa fd) (S : FnScope N ["script"] (defScope stL)) (hN : N.length = r + 2) {rest : List Stmt}
    (hbody : defBody stL = .Assign [.Name "state" p1] (.Call (.Name "_law_begun" p2) [.Name "script" p3] [] p4) p5 :: rest)
    (hb : ∃ (a : Addr) (fd : FuncData), FnOk P w K mg base (L2.CX P w) l a fd ["script"] (spBegun K) ∧ mg "_law_begun" = some (.ref a) ∧ PySem.W.keepIn K (.ref a) = true ∧ Binds K fd ["script"] []) (hl : l ≤ n)
    (h1 : N[1]? = some ("state" : Str)) (h0 : N[0]? = some ("script" : Str)) (hx : Loc (defScope stL) "state") (hv : Vis (defScope stL) "script") (hg : (defScope stL).names.lookup ("_law_begun" : Str) = some .globalImplicit)
    (hf : ∀ (A : Around) (outer : List Env) (s : Shared) (H : Hp) (E : XK), (cxOf (L2.CX P w) P w K mg base N "law" (defScope stL) fa (.ref c) A outer s H E).fn "state" = true ∨ (defScope stL).names.lookup ("state" : Str) = some .local)
    (ds : ∀ (A : Around) (outer : List Env) (s : Shared) (H : Hp) (E : XK) (st gr ce : Addr) (cs : List Int), Fam (fun _ : Unit => cxOf (L2.CX P w) P w K mg base N "law" (defScope stL) fa (.ref c) A outer s H E) P w K mg base (fun _ => E) n →
      DSs (fun _ : Unit => cxOf (L2.CX P w) P w K mg base N "law" (defScope stL) fa (.ref c) A outer s H E) K (stU st gr ce cs T) (fun _ => E) rest (mr (stU st gr ce cs T)))
    (hd : ∀ st gr ce cs (ns : List Int), ns.length ≤ 63 → mr (stU st gr ce cs T) MKl (lawD r ns st)) : FnOk P w K mg base (L2.CX P w) (n + 1) fa fd ["script"] (spLaw K T) := by
  obtain ⟨oc, od, kV, doc, pm, an, ct, osl, rfl, lk, hcd⟩ := pl
  refine fn_of lk hcd S (fun vs H Q E h => ?_) fun A outer s H vs Q E hr h => ?_
  · obtain ⟨a, ns, rfl, _⟩ := h
    rfl
  · have F := famC (P := P) (w := w) (K := K) (mg := mg) (base := base) (H := H) (outer := outer) (E := E) S hr
    obtain ⟨a, fd, k1, k2, k3, k4⟩ := hb
    refine ⟨_, ?_, law_t (tr := tAnyS (fun _ : Unit => cxOf (L2.CX P w) P w K mg base N "law" (defScope stL) fa (.ref c) A outer s H E) rest) hN (fun st gr ce cs => snd_any (ds A outer s H E st gr ce cs F)) hd h⟩
    rw [hbody]
    refine pss_cons (ps_set (i := 1) S.nd h1 hx ?_ rfl (hf A outer s H E)) (pss_any (Xs := fun _ : Unit => cxOf (L2.CX P w) P w K mg base N "law" (defScope stL) fa (.ref c) A outer s H E) ())
    exact pe_callS k1 (hr.mono hl) hg k2 k3 k4 (F.pass ()) (pa_cons (pe_var (x := "script") h0 hv) pa_nil)
theorem begun_of {st : Stmt} {s0 : Stmt} {lc : Expr} {n1 n2 n3 n4 n5 n6 : Nat} {p1 p2 p3 p4 p5 p6 p7 p8 p9 : Pos} (p : PFn K mg "_law_begun" st) (S : FnScope ["script", "great", "cell"] ["script"] (defScope st)) (hv : (defScope st).names.lookup ("great" : Str) = some .local)
    (shape : defBody st = [s0, .Return (some (.Dict [some (.Constant (.str "great") n1 p1), some (.Constant (.str "cells") n2 p2), some (.Constant (.str "rest") n3 p3), some (.Constant (.str "turn") n4 p4)] [.Name "great" p5, lc, .Constant (.int 0) n5 p6, .Constant (.int 0) n6 p7] p8)) p9])
    (hb : ∀ (kV doc pm : Value) (an : Option Addr) (cdv ct : Value) (us : List Value), us.length = (["script"] : List Str).length → bindArgs (PySem.W.fnOf "_law_begun" "_law_begun" (defArgs st) (defBody st) (defScope st) .none kV doc pm an cdv ct) ⟨us, []⟩ = pure ((["script"] : List Str).zip us))
    (d1 : ∀ (cdv : Value) (A : Around) (outer : List Env) (s : Shared) (H : Hp) (E : XK) (f : Addr), Fam (fun _ : Unit => cxOf (L2.CX P w) P w K mg base ["script", "great", "cell"] "_law_begun" (defScope st) f cdv A outer s H E) P w K mg base (fun _ => E) 0 →
      ∃ t, (∀ j, PS ((fun _ : Unit => cxOf (L2.CX P w) P w K mg base ["script", "great", "cell"] "_law_begun" (defScope st) f cdv A outer s H E) j) s0 (tAsg t (gName 1))) ∧ SndF K Vol.no (fun _ => E) t beG)
    (d2 : ∀ (cdv : Value) (A : Around) (outer : List Env) (s : Shared) (H : Hp) (E : XK) (f : Addr), Fam (fun _ : Unit => cxOf (L2.CX P w) P w K mg base ["script", "great", "cell"] "_law_begun" (defScope st) f cdv A outer s H E) P w K mg base (fun _ => E) 0 →
      DF (fun _ : Unit => cxOf (L2.CX P w) P w K mg base ["script", "great", "cell"] "_law_begun" (defScope st) f cdv A outer s H E) K Vol.no (fun _ => E) lc beC) :
    ∃ (a : Addr) (fd : FuncData), FnOk P w K mg base (L2.CX P w) 1 a fd ["script"] (spBegun K) ∧ mg "_law_begun" = some (.ref a) ∧ PySem.W.keepIn K (.ref a) = true ∧ Binds K fd ["script"] [] := by
  obtain ⟨a, fd, Fx, hm⟩ := p
  refine ⟨a, fd, Fx.okX S (fun vs H Q E h => ?_) (fun cdv A outer s H vs Q E hr h => ?_), hm, Fx.kp, Fx.binds hb⟩
  · obtain ⟨a, ns, rfl, _⟩ := h
    rfl
  · have F := famC (P := P) (w := w) (K := K) (mg := mg) (base := base) (H := H) (outer := outer) (E := E) S hr
    obtain ⟨t1, k1, s1⟩ := d1 cdv A outer s H E a F
    obtain ⟨t2, k2, s2⟩ := d2 cdv A outer s H E a F
    refine ⟨_, ?_, begun_t s1 s2 h⟩
    rw [shape]
    exact pss_cons (k1 ()) (pss_one (ps_ret (pe_disp (pps_cons pe_str (pe_var (x := "great") rfl (.inl hv)) (pps_cons pe_str (k2 ()) (pps_cons pe_str pe_int (pps_cons pe_str pe_int pps_nil)))) rfl rfl (by simp) (by show 4 ≤ 15; decide))))
/-- the row's question about the law, answered -/
theorem lawAt_mk {l : PySem.W.OpenLaw} {h : Heap} {fa c Pt : Addr} {fd : FuncData} {n : Nat} {q : Str} (hT : h.get? Pt = some { cls := .none, data := .fields #[] }) (nT : K.lookup Pt = none) (C : PySem.W.CodeHd h c Pt) (hb : ∀ (s : Shared) (u : Value), BindsTo s fd ⟨[u], []⟩ [("script", u)])
    (F : ∀ base : Heap, LamX.TabB base mg c Pt → FnOk l.prog w K mg base (L2.CX l.prog w) n fa fd ["script"] (spLaw K [(Pt, q)])) : LamX.LawAtS l w K (L2.CX l.prog w) n 63 "script" mg fa h := by
  refine ⟨fd, [(c, Pt)], spLaw K [(Pt, q)], ?_, ?_, ?_, hb, fun H a ns hl _ ht hS => ⟨a, ns, rfl, hS, hl, ?_, fun _ => rfl⟩, fun base _ _ tb => F base (tb _ List.mem_cons_self)⟩
  · intro p hp
    simp at hp
    subst hp
    exact hT
  · intro p hp
    simp at hp
    subst hp
    exact nT
  · intro p hp
    simp at hp
    subst hp
    exact C
  · intro p hp
    simp at hp
    subst hp
    exact LamX.TabS.nil (ht _ List.mem_cons_self)
theorem cx_false {P : Program} {w : World} {H : Hp} {s : Shared} {e : Value} {s' : Shared} (h : L2.CX P w [] H s (fun _ _ _ => False) e s') : False := by
  obtain ⟨_, _, _, _, _, _, _, _, _, _, _, _, z⟩ := h
  exact z
end
end DL

set_option maxRecDepth 100000
set_option maxHeartbeats 1000000
/-! DL18: written dicts and constants, starred items, join, own lists made longer. -/
namespace DL
open PySem PySem.Spec PyProof.Rows L2
/-! ### starred items of a display -/
def aStar (m : ME) (r : MA) : MA := fun ρ k x => m ρ (fun d ρ1 => match d with
  | .tup xs => r ρ1 (fun ds ρ2 => k (xs ++ ds) ρ2) x
  | .lst xs => r ρ1 (fun ds ρ2 => k (xs ++ ds) ρ2) x
  | _ => False) x
/-! ### text methods -/
def strsL : List D → Option (List Str)
  | [] => some []
  | .str z :: ds => (strsL ds).map (z :: ·)
  | _ :: _ => none
theorem strsL_map : ∀ (zs : List Str), strsL (zs.map D.str) = some zs
  | [] => rfl
  | z :: zs => by simp [strsL, strsL_map zs]
theorem strsL_rep {K : PySem.W.Frag} {H : Hp} : ∀ {ds : List D} {zs : List Str} {vs : List V}, strsL ds = some zs → RepL K H vs ds → vs = zs.map V.str
  | [], zs, vs, e, r => by
    simp only [strsL, Option.some.injEq] at e
    simp only [RepL] at r
    subst e r; rfl
  | d :: ds, zs, vs, e, r => by
    simp only [RepL] at r
    obtain ⟨v, r', rfl, r1, r2⟩ := r
    cases d <;> simp [strsL] at e
    obtain ⟨ms, e1, rfl⟩ := e
    simp only [Rep] at r1
    subst r1
    rw [strsL_rep e1 r2]; rfl
def joinD (a : Str) (ds : List D) (k : D → Prop) : Prop := match strsL ds with
  | some ys => (ys.map (·.length)).sum + ys.length * a.length ≤ 16777216 ∧ k (.str (Txt.join a ys))
  | none => False
def eJoin (mo me : ME) : ME := fun ρ k x => mo ρ (fun a ρ1 => match a with
  | .str a => me ρ1 (fun d ρ2 => match d with
    | .lst ds => joinD a ds fun r => k r ρ2
    | .tup ds => joinD a ds fun r => k r ρ2
    | _ => False) x
  | _ => False) x
def eUpper (mo : ME) : ME := fun ρ k x => mo ρ (fun a ρ1 => match a with
  | .str a => a.length ≤ 5592405 ∧ k (.str (Txt.upper a)) ρ1
  | _ => False) x
def eSplit (mo me : ME) : ME := fun ρ k x => mo ρ (fun a ρ1 => match a with
  | .str a => me ρ1 (fun b ρ2 => match b with
    | .str b => (b.length == 0) = false ∧ a.length + 2 ≤ sizeLine ∧ k (.lst ((Txt.split a b).map D.str)) ρ2
    | _ => False) x
  | _ => False) x
/-! ### own lists made longer -/
def sExt (i : Nat) (m : ME) : MS := fun k ρ => (∃ c, ρ.l[i]? = some (.own (.lst c))) ∧ m ρ (fun d ρ1 => match d with
  | .lst es => match ρ1.l[i]? with
    | some (.own (.lst ds)) => ds.length + es.length ≤ sizeLine ∧ k.nx (ρ1.st i (.own (.lst (ds ++ es))))
    | _ => False
  | _ => False) k.xn
/-! ### written dicts -/
structure KdC (K : PySem.W.Frag) (w : World) (mg : Str → Option Value) (x : Str) (tab : List (Str × D)) : Prop where
  at_ : ∃ (a : Addr) (es : Array DictEntry) (n : Nat), mg x = some (.ref a) ∧ KDict K w a es n ∧ ∀ z : Str, (tab.lookup z = none → PySem.W.nsIn K a z = some none) ∧ ∀ d, tab.lookup z = some d → ∃ (u : Value) (v : V), PySem.W.nsIn K a z = some (some u) ∧ RelV v u ∧ ∀ H, Rep K H v d
def eKdIx (tab : List (Str × D)) (m : ME) : ME := fun ρ k x => m ρ (fun d ρ1 => match d with
  | .str z => match tab.lookup z with
    | some d => k d ρ1
    | none => False
  | _ => False) x
def eKdIn (tab : List (Str × D)) (m : ME) : ME := fun ρ k x => m ρ (fun d ρ1 => match d with
  | .str z => k (.bl (tab.lookup z).isSome) ρ1
  | _ => False) x
section
variable {K : PySem.W.Frag} {U : Vol} {E : XS} {te to : TE} {tA : TA} {m mo : ME} {mA : MA}
theorem snd_star (h : SndE K U E te m) (hr : SndA K U E tA mA) : SndA K U E (StX.tStar K te tA) (aStar m mA) := by
  intro Z σ ρ H k x Q I h0 q X
  refine h Z σ ρ H _ x _ I h0 (fun d ρ1 v H1 t1 I1 r1 h1 => ?_) X
  split at h1
  · simp only [Rep] at r1
    obtain ⟨p, vs, rfl, s1, l1⟩ := r1
    exact ⟨p, vs, rfl, .inl (sameT hide_sub s1.toT), hr Z σ ρ1 H1 _ x _ I1 h1 (fun ds ρ2 ws H2 t2 I2 r2 h2 => q _ ρ2 _ H2 (t1.trans t2) I2 ((l1.mono t2.vis).append r2) h2) (X.go t1)⟩
  · simp only [Rep] at r1
    obtain ⟨p, vs, rfl, s1, l1⟩ := r1
    exact ⟨p, vs, rfl, .inr (SqL.of (hide_sub _ _ s1)), hr Z σ ρ1 H1 _ x _ I1 h1 (fun ds ρ2 ws H2 t2 I2 r2 h2 => q _ ρ2 _ H2 (t1.trans t2) I2 ((l1.mono t2.vis).append r2) h2) (X.go t1)⟩
  · exact h1.elim
theorem snd_join (ho : SndE K U E to mo) (h : SndE K U E te m) : SndE K U E (tM1 (fun x xs H Q => ∃ a p, ∃ ys : List Str, x = .str a ∧ xs = [.ref p] ∧ (SqL K H p (ys.map V.str) ∨ SqT K H p (ys.map V.str)) ∧ (ys.map (·.length)).sum + ys.length * a.length ≤ 16777216 ∧ Q (.str (Txt.join a ys)) H) to te) (eJoin mo m) := by
  intro Z σ ρ H k x Q I h0 q X
  refine ho Z σ ρ H _ x _ I h0 (fun d ρ1 v H1 t1 I1 r1 h1 => ?_) X
  split at h1
  · rename_i a
    simp only [Rep] at r1
    subst r1
    refine ⟨⟨a, rfl⟩, h Z σ ρ1 H1 _ x _ I1 h1 (fun d2 ρ2 v2 H2 t2 I2 r2 h2 => ?_) (X.go t1)⟩
    split at h2
    · simp only [Rep] at r2
      obtain ⟨p, vs, rfl, s1, l1⟩ := r2
      unfold joinD at h2
      split at h2
      · rename_i ys e
        have := strsL_rep e l1
        subst this
        exact ⟨a, p, ys, rfl, rfl, .inl (SqL.of (hide_sub _ _ s1)), h2.1, q _ ρ2 _ H2 (t1.trans t2) I2 (by simp only [Rep]) h2.2⟩
      · exact h2.elim
    · simp only [Rep] at r2
      obtain ⟨p, vs, rfl, s1, l1⟩ := r2
      unfold joinD at h2
      split at h2
      · rename_i ys e
        have := strsL_rep e l1
        subst this
        exact ⟨a, p, ys, rfl, rfl, .inr (sameT hide_sub s1.toT), h2.1, q _ ρ2 _ H2 (t1.trans t2) I2 (by simp only [Rep]) h2.2⟩
      · exact h2.elim
    · exact h2.elim
  · exact h1.elim
theorem snd_upper (ho : SndE K U E to mo) : SndE K U E (tM0 (fun x xs H Q => ∃ a, x = .str a ∧ xs = [] ∧ a.length ≤ 5592405 ∧ Q (.str (Txt.upper a)) H) to) (eUpper mo) := by
  intro Z σ ρ H k x Q I h0 q X
  refine ho Z σ ρ H _ x _ I h0 (fun d ρ1 v H1 t1 I1 r1 h1 => ?_) X
  split at h1
  · rename_i a
    simp only [Rep] at r1
    subst r1
    exact ⟨⟨a, rfl⟩, a, rfl, rfl, h1.1, q _ ρ1 _ H1 t1 I1 (by simp only [Rep]) h1.2⟩
  · exact h1.elim
theorem repL_strs {H : Hp} : ∀ (zs : List Str), RepL K H (zs.map V.str) (zs.map D.str)
  | [] => .nil
  | z :: zs => .cons (by simp only [Rep]) (repL_strs zs)
theorem snd_split (ho : SndE K U E to mo) (h : SndE K U E te m) : SndE K U E (tM1 (fun x xs H Q => ∃ a b, x = .str a ∧ xs = [.str b] ∧ (b.length == 0) = false ∧ a.length + 2 ≤ sizeLine ∧ rNewStrs (Txt.split a b) H Q) to te) (eSplit mo m) := by
  intro Z σ ρ H k x Q I h0 q X
  refine ho Z σ ρ H _ x _ I h0 (fun d ρ1 v H1 t1 I1 r1 h1 => ?_) X
  split at h1
  · rename_i a
    simp only [Rep] at r1
    subst r1
    refine ⟨⟨a, rfl⟩, h Z σ ρ1 H1 _ x _ I1 h1 (fun d2 ρ2 v2 H2 t2 I2 r2 h2 => ?_) (X.go t1)⟩
    split at h2
    · rename_i b
      simp only [Rep] at r2
      subst r2
      exact ⟨a, b, rfl, rfl, h2.1, h2.2.1, fun p hp => q _ ρ2 _ _ ((t1.trans t2).trans (.of_same (same_new hp))) (I2.same (same_new hp)) (rep_lst (fun a ha => I2.hidden ha) hp (repL_strs _)) h2.2.2⟩
    · exact h2.elim
  · exact h1.elim
/-- xs += e, xs.extend(e) -/
theorem snd_extAug {i : Nat} (h : SndE K U E te m) : SndS K U E (tAug i te rExt2) (sExt i m) := by
  intro Z σ ρ H k Dn I h0 f
  obtain ⟨⟨c, hc⟩, h0⟩ := h0
  obtain ⟨p, o, h1, h2, h3⟩ := I.own i _ hc
  refine ⟨.ref p, h1, h Z σ ρ H _ _ _ I h0 (fun d ρ1 v1 H1 t1 I1 r1 h4 => ?_) f.xn.e⟩
  split at h4
  · rename_i es
    split at h4
    · rename_i ds e
      obtain ⟨p', _, o', g1, _, _, g2, g3⟩ := own_slot I I1 hc e
      rw [h1] at g1; cases g1
      obtain ⟨vs', rfl, g4⟩ := repM_lst g3
      simp only [Rep] at r1
      obtain ⟨b, ws, rfl, s1, l1⟩ := r1
      obtain ⟨I2, T2⟩ := I1.write (o := .lst (vs' ++ ws)) e h1 (.lst (g4.append l1))
      have es' : σ.set i (some (.ref p)) = σ := by
        refine List.ext_getElem? fun j => ?_
        by_cases hj : i = j
        · subst hj
          rw [List.getElem?_set_self (List.getElem?_eq_some_iff.mp h1).1]; exact h1.symm
        · rw [List.getElem?_set_ne hj]
      refine ⟨p, b, vs', ws, rfl, rfl, g2, hide_sub _ _ s1, by rw [g4.len, l1.len]; exact h4.1, ?_⟩
      show Dn.nx (σ.set i (some (.ref p))) _
      rw [es']
      exact f.nx _ _ _ (t1.trans T2) I2 h4.2
    · exact h4.elim
  · exact h4.elim
theorem snd_extBM {i : Nat} (h : SndE K U E te m) : SndS K U E (tDrop (tBM K "list" rExtend (tVar i) (tCons te tNil))) (sExt i m) := by
  intro Z σ ρ H k Dn I h0 f
  obtain ⟨⟨c, hc⟩, h0⟩ := h0
  obtain ⟨p, o, h1, h2, h3⟩ := I.own i _ hc
  obtain ⟨vs, rfl, _⟩ := repM_lst h3
  refine ⟨.ref p, h1, .inl ⟨rfl, vs, SqL.of h2⟩, h Z σ ρ H _ _ _ I h0 (fun d ρ1 v1 H1 t1 I1 r1 h4 => ?_) f.xn.e⟩
  split at h4
  · rename_i es
    split at h4
    · rename_i ds e
      obtain ⟨p', _, o', g1, _, _, g2, g3⟩ := own_slot I I1 hc e
      rw [h1] at g1; cases g1
      obtain ⟨vs', rfl, g4⟩ := repM_lst g3
      simp only [Rep] at r1
      obtain ⟨b, ws, rfl, s1, l1⟩ := r1
      obtain ⟨I2, T2⟩ := I1.write (o := .lst (vs' ++ ws)) e h1 (.lst (g4.append l1))
      exact ⟨p, b, vs', ws, rfl, rfl, g2, hide_sub _ _ s1, by rw [g4.len, l1.len]; exact h4.1, f.nx _ _ _ (t1.trans T2) I2 h4.2⟩
    · exact h4.elim
  · exact h4.elim
end
section
variable {ι : Type} {Xs : ι → Cx} {P : Program} {w : World} {K : PySem.W.Frag} {mg : Str → Option Value} {base : Heap} {U : Vol} {E : XS} {lv : Nat} {pos p p2 pos' apos cpos npos : Pos} {a b c e o : Expr} {es : List Expr} {ma mb m mo : ME} {mr : MA} {x : Str}
theorem de_cst (F : Fam Xs P w K mg base E lv) {d : D} (g : Cst K mg x d) (hg : ∀ j, Gl (Xs j) x := by intro _; rfl) (hd : (x == ("__debug__" : Str)) = false := by decide) : DE Xs K U E (.Name x pos) (eC d) := by
  obtain ⟨u, v, h1, h2, h3⟩ := g.at_
  exact de_glob F h1 h2 h3 hg hd
theorem da_star (F : Fam Xs P w K mg base E lv) (h : DE Xs K U E e m) (hr : DA Xs K U E es mr) (hs : ∀ j, starEach (.Starred e p :: es) (Xs j).env = (true, eval e (Xs j).env) :: starEach es (Xs j).env := by intro _; rfl) : DA Xs K U E (.Starred e p :: es) (aStar m mr) := by
  obtain ⟨t, h, s⟩ := h
  obtain ⟨u, hr, sr⟩ := hr
  refine ⟨_, fun j => ?_, snd_star s sr⟩
  have := StX.pa_star (p := p) (h j) (hr j) (hs j)
  rw [F.k j] at this
  exact this
theorem de_join (F : Fam Xs P w K mg base E lv) (ho : DE Xs K U E o mo) (h : DE Xs K U E e m) (hs : ∀ j, starEach [e] (Xs j).env = [(false, eval e (Xs j).env)] := by intro _; rfl) (hbase : ∀ j, attributeBase o "join" (Xs j).env (eval o (Xs j).env) = eval o (Xs j).env := by intro _; rfl) (hline : (apos.endLine == pos.line) = true := by rfl) : DE Xs K U E (.Call (.Attribute o "join" apos) [e] [] pos) (eJoin mo m) := by
  obtain ⟨to, ho, so⟩ := ho
  obtain ⟨t, h, s⟩ := h
  refine ⟨_, fun j => ?_, snd_join so s⟩
  have := pe_join (apos := apos) (pos := pos) (ho j) (h j) (hs j) (hbase j) hline
  rw [F.k j] at this
  exact this
theorem de_upper (ho : DE Xs K U E o mo) (hbase : ∀ j, attributeBase o "upper" (Xs j).env (eval o (Xs j).env) = eval o (Xs j).env := by intro _; rfl) (hline : (apos.endLine == pos.line) = true := by rfl) : DE Xs K U E (.Call (.Attribute o "upper" apos) [] [] pos) (eUpper mo) := by
  obtain ⟨to, ho, so⟩ := ho
  exact ⟨_, fun j => pe_m0 PySem.F.slot_str_upper PySem.F.type_str_upper mt_upper (ho j) (hbase j) hline, snd_upper so⟩
theorem de_split (ho : DE Xs K U E o mo) (h : DE Xs K U E e m) (hs : ∀ j, starEach [e] (Xs j).env = [(false, eval e (Xs j).env)] := by intro _; rfl) (hbase : ∀ j, attributeBase o "split" (Xs j).env (eval o (Xs j).env) = eval o (Xs j).env := by intro _; rfl) (hline : (apos.endLine == pos.line) = true := by rfl) : DE Xs K U E (.Call (.Attribute o "split" apos) [e] [] pos) (eSplit mo m) := by
  obtain ⟨to, ho, so⟩ := ho
  obtain ⟨t, h, s⟩ := h
  exact ⟨_, fun j => pe_m1 PySem.F.slot_str_split PySem.F.type_str_split mt_split (ho j) (h j) (hs j) (hbase j) hline, snd_split so s⟩
theorem ds_extAug (F : Fam Xs P w K mg base E lv) (i : Nat) (h : DE Xs K U E e m) (hi : ∀ j, (Xs j).N[i]? = some x := by intro _; rfl) (hx : ∀ j, Loc (Xs j).env.scope x := by intro _; first | exact Or.inl rfl | exact Or.inr rfl) (hf : ∀ j, (Xs j).fn x = true ∨ (Xs j).env.scope.names.lookup x = some .local := by intro _; first | exact .inl rfl | exact .inr rfl) : DS Xs K U E (.AugAssign (.Name x pos') .Add e pos) (sExt i m) := by
  obtain ⟨t, h, s⟩ := h
  exact ⟨_, fun j => ps_aug (F.nd j) (hi j) (hx j) (h j) (iop_ext (X := Xs j)) (hf j), snd_extAug s⟩
theorem ds_ext (F : Fam Xs P w K mg base E lv) (i : Nat) (h : DE Xs K U E e m) (hN : ∀ j, (Xs j).N[i]? = some x := by intro _; rfl) (hv : ∀ j, Vis (Xs j).env.scope x := by intro _; first | exact Or.inl rfl | exact Or.inr (Or.inl rfl) | exact Or.inr (Or.inr rfl))
    (hbase : ∀ j, attributeBase (.Name x npos) "extend" (Xs j).env (eval (.Name x npos) (Xs j).env) = eval (.Name x npos) (Xs j).env := by intro _; rfl)
    (hfew : ∀ j, ((backTo cpos (starEach [e] (Xs j).env)).all (fun x => !x.1) && (backToKw cpos (keywordEach [] (Xs j).env)).all (fun x => x.1.isSome) && decide ([e].length + ([] : List Keyword).length + (if ([] : List Keyword).isEmpty then 0 else 1) < 30)) = true := by intro _; rfl)
    (hline : (apos.endLine == cpos.line) = true := by rfl) (hs : ∀ j, starEach [e] (Xs j).env = (false, eval e (Xs j).env) :: starEach [] (Xs j).env := by intro _; rfl) (hplain : ∀ j, (backTo cpos (starEach [] (Xs j).env)).any (·.1) = false := by intro _; rfl)
    (hsw : ∀ j, swapsWith (.Call (.Attribute (.Name x npos) "extend" apos) [e] [] cpos) none pos.line (Xs j).env = pure false := by intro _; rfl)
    (hd : (x == ("__debug__" : Str)) = false := by decide) (hcd : (x == ("__classdict__" : Str)) = false := by decide) : DS Xs K U E (.Expr (.Call (.Attribute (.Name x npos) "extend" apos) [e] [] cpos) pos) (sExt i m) := by
  obtain ⟨t, h, s⟩ := h
  refine ⟨_, fun j => ps_expr ?_ (hsw j), snd_extBM s⟩
  have hp := pe_bm PySem.F.plainAttrs_list PySem.F.slot_list_extend PySem.F.type_list_extend (mt_extend (X := Xs j)) (pe_var (pos := npos) (hN j) (hv j) hd hcd) (pa_cons (h j) pa_nil (hs j)) (hbase j) (hfew j) hline (hs j) (hplain j)
  rw [F.k j] at hp
  exact hp
end
end DL

set_option maxRecDepth 100000
set_option maxHeartbeats 1000000
/-! DL19: written dicts asked; dict displays, d[k], d.get(k, x). -/
namespace DL
open PySem PySem.Spec PyProof.Rows L2
section
variable {ι : Type} {Xs : ι → Cx} {P : Program} {w : World} {K : PySem.W.Frag} {mg : Str → Option Value} {base : Heap} {U : Vol} {E : XS} {lv : Nat} {pos p p2 pos' apos cpos npos : Pos} {a b c e o : Expr} {es : List Expr} {ma mb m mo : ME} {mr : MA} {x : Str} {tab : List (Str × D)} {te : TE}
theorem de_kdix (F : Fam Xs P w K mg base E lv) (g : KdC K w mg x tab) (h : DE Xs K U E e m) (hg : ∀ j, Gl (Xs j) x := by intro _; rfl) (hd : (x == ("__debug__" : Str)) = false := by decide) (hs : PlainIx e := by exact fun _ _ => rfl) : DE Xs K U E (.Subscript (.Name x p) e pos) (eKdIx tab m) := by
  obtain ⟨t, h, s⟩ := h
  obtain ⟨a, es, n, hm, D, ht⟩ := g.at_
  refine ⟨tOp (rIxD K w) (tC (.ref a)) t, fun j => ?_, ?_⟩
  · have := pe_ix (pos := pos) (ix_kdict (X := Xs j)) (pe_glob (pos := p) (hg j) (by rw [F.mg j]; exact hm) (v := .ref a) rfl hd) (h j) hs
    rw [F.k j, F.w j] at this
    exact this
  · intro Z σ ρ H k x Q I h0 q X
    refine s Z σ ρ H _ x _ I h0 (fun d ρ1 v H1 t1 I1 r1 h1 => ?_) X
    split at h1
    · rename_i z
      simp only [Rep] at r1
      subst r1
      split at h1
      · rename_i d e1
        obtain ⟨u, v, e2, e3, e4⟩ := (ht z).2 d e1
        exact ⟨a, z, v, rfl, rfl, ⟨es, n, u, D.at_, D.lit, e2, e3⟩, q d ρ1 v H1 t1 I1 (e4 _) h1⟩
      · exact h1.elim
    · exact h1.elim
theorem kd_in (F : Fam Xs P w K mg base E lv) (g : KdC K w mg x tab) : ∃ a : Addr, mg x = some (.ref a) ∧ ∃ r : R2, (∀ j, OpR (Xs j) (compareOp .In) r) ∧ ∀ (z : Str) (H : Hp) (Q : VK), Q (.bl (tab.lookup z).isSome) H → r (.str z) (.ref a) H Q := by
  obtain ⟨a, es, n, hm, D, ht⟩ := g.at_
  refine ⟨a, hm, fun x y H Q => ∃ (z : Str) (r : Option Value), x = .str z ∧ y = .ref a ∧ PySem.W.nsIn K a z = some r ∧ Q (.bl r.isSome) H, fun j => ?_, fun z H Q q => ?_⟩
  · have D' : KDict (Xs j).K (Xs j).w a es n := by rw [F.k j, F.w j]; exact D
    have := op_in_kd (X := Xs j) D'
    rw [F.k j] at this
    exact this
  · cases e : tab.lookup z with
    | none => exact ⟨z, none, rfl, rfl, (ht z).1 e, by rw [e] at q; exact q⟩
    | some d =>
      obtain ⟨u, v, e2, _, _⟩ := (ht z).2 d e
      exact ⟨z, some u, rfl, rfl, e2, by rw [e] at q; exact q⟩
theorem snd_kdin {r : R2} {a : Addr} (hr : ∀ (z : Str) (H : Hp) (Q : VK), Q (.bl (tab.lookup z).isSome) H → r (.str z) (.ref a) H Q) (s : SndE K U E te m) : SndE K U E (tOp r te (tC (.ref a))) (eKdIn tab m) := by
  intro Z σ ρ H k x Q I h0 q X
  refine s Z σ ρ H _ x _ I h0 (fun d ρ1 v H1 t1 I1 r1 h1 => ?_) X
  split at h1
  · rename_i z
    simp only [Rep] at r1
    subst r1
    exact hr z H1 Q (q _ ρ1 _ H1 t1 I1 (by simp only [Rep]) h1)
  · exact h1.elim
theorem de_kdin (F : Fam Xs P w K mg base E lv) (g : KdC K w mg x tab) (h : DE Xs K U E e m) (hg : ∀ j, Gl (Xs j) x := by intro _; rfl) (hd : (x == ("__debug__" : Str)) = false := by decide) (hb : behindInMarks .In (.Name x p) = false := by rfl) : DE Xs K U E (.Compare e [.In] [.Name x p] pos) (eKdIn tab m) := by
  obtain ⟨t, h, s⟩ := h
  obtain ⟨a, hm, r, h1, h2⟩ := kd_in F g
  exact ⟨_, fun j => pe_cmpR (h1 j) (h j) (pe_glob (pos := p) (hg j) (by rw [F.mg j]; exact hm) (v := .ref a) rfl hd) hb, snd_kdin h2 s⟩
theorem dt_kdin (F : Fam Xs P w K mg base E lv) (g : KdC K w mg x tab) (h : DE Xs K U E e m) (hg : ∀ j, Gl (Xs j) x := by intro _; rfl) (hd : (x == ("__debug__" : Str)) = false := by decide) (hb : behindInMarks .In (.Name x p) = false := by rfl) : DT Xs K U E (.Compare e [.In] [.Name x p] pos) (eTest (eKdIn tab m)) := by
  obtain ⟨t, h, s⟩ := h
  obtain ⟨a, hm, r, h1, h2⟩ := kd_in F g
  exact ⟨_, fun j => pt_cmpR (h1 j) (h j) (pe_glob (pos := p) (hg j) (by rw [F.mg j]; exact hm) (v := .ref a) rfl hd) hb, snd_test (snd_kdin h2 s)⟩
end

/-! ### displays -/
def keyD : Key → D
  | .inl i => .int i
  | .inr z => .str z
def dKey : D → Option Key
  | .int i => some (.inl i)
  | .str z => some (.inr z)
  | _ => none
def eDct (ks : List Key) (mv : MA) : ME := fun ρ k x => mv ρ (fun ds ρ1 => k (.dct ks ds) ρ1) x
def dctGet (ks : List Key) (ds : List D) (q : Key) : Option D := ((ks.zip ds).find? fun kv => decide (kv.1 = q)).map (·.2)
def eDIx (ma mb : ME) : ME := eOp (fun a b k => match a with
  | .dct ks ds => match dKey b with
    | some q => match dctGet ks ds q with
      | some d => k d
      | none => False
    | none => False
  | _ => False) ma mb
def eDGet (ma mb mc : ME) : ME := fun ρ k x => ma ρ (fun a ρ1 => match a with
  | .dct ks ds => ks.length = ds.length ∧ mb ρ1 (fun b ρ2 => mc ρ2 (fun c ρ3 => match dKey b with
    | some q => match dctGet ks ds q with
      | some d => k d ρ3
      | none => k c ρ3
    | none => False) x) x
  | _ => False) x
section
variable {K : PySem.W.Frag} {U : Vol} {E : XS}
theorem putK_new {kvs : List (Key × V)} {q : Key} {v : V} (h : ∀ kv ∈ kvs, kv.1 ≠ q) : putK kvs q v = kvs ++ [(q, v)] := by
  unfold putK
  rw [if_neg]
  intro z
  rw [List.any_eq_true] at z
  obtain ⟨kv, h1, h2⟩ := z
  exact h kv h1 (of_decide_eq_true h2)
theorem merge_new : ∀ (more acc : List (Key × V)), (acc.map (·.1) ++ more.map (·.1)).Nodup → mergeK acc more = acc ++ more
  | [], acc, _ => by simp [mergeK]
  | (q, v) :: more, acc, h => by
    have e1 : putK acc q v = acc ++ [(q, v)] := putK_new fun kv hk e => by
      have := (List.nodup_append.1 h).2.2 kv.1 (List.mem_map.2 ⟨kv, hk, rfl⟩) q (by simp)
      exact this e
    show mergeK (putK acc q v) more = _
    rw [e1, merge_new more (acc ++ [(q, v)]) (by simpa using h)]
    simp
theorem dctGet_rep {H : Hp} : ∀ {ks : List Key} {vs : List V} {ds : List D} {q : Key}, RepL K H vs ds → (∀ d, dctGet ks ds q = some d → ∃ v, valV (ks.zip vs) q = some v ∧ Rep K H v d) ∧ (ks.length = ds.length → dctGet ks ds q = none → valV (ks.zip vs) q = none)
  | [], vs, ds, q, r => ⟨fun d h => by simp [dctGet] at h, fun _ _ => by simp [valV]⟩
  | key :: ks, vs, [], q, r => by
    simp only [RepL] at r
    subst r
    exact ⟨fun d h => by simp [dctGet] at h, fun h => by simp at h⟩
  | key :: ks, vs, d :: ds, q, r => by
    simp only [RepL] at r
    obtain ⟨v, r', rfl, r1, r2⟩ := r
    have ih := dctGet_rep (ks := ks) (q := q) r2
    by_cases e : key = q
    · constructor
      · intro d' h
        simp [dctGet, List.find?_cons, e] at h
        subst h
        exact ⟨v, by simp [valV, List.find?_cons, e], r1⟩
      · intro _ h
        simp [dctGet, List.find?_cons, e] at h
    · have e1 : dctGet (key :: ks) (d :: ds) q = dctGet ks ds q := by simp [dctGet, List.find?_cons, e]
      have e2 : valV ((key :: ks).zip (v :: r')) q = valV (ks.zip r') q := by simp [valV, List.find?_cons, e]
      rw [e1, e2]
      exact ⟨ih.1, fun hl => ih.2 (by simpa using hl)⟩
def SndP (K : PySem.W.Frag) (U : Vol) (E : XS) (trs : List (TE × TE)) (ks : List Key) (mv : MA) : Prop := ∀ (Z : Addr → Prop) (σ : L2.St) (ρ : EnvD) (H : Hp) (k : List D → EnvD → Prop) (x : KX) (Q : List (V × V) → Hp → Prop), EnvOk K U Z σ ρ H → mv ρ k x →
  (∀ ds ρ' vs H', Tr U.S (Owns σ ρ) H (Owns σ ρ') H' → EnvOk K U Z σ ρ' H' → RepL K (VH U Z σ ρ' H') vs ds → ds.length = ks.length → k ds ρ' → Q ((ks.map kV).zip vs) H') → XFinE K U E Z σ ρ H x → tPairs trs σ H Q
theorem sndP_nil : SndP K U E [] [] aNil := fun Z σ ρ H k x Q I h q _ => q [] ρ [] H .refl I .nil rfl h
theorem sndP_cons {te : TE} {trs : List (TE × TE)} {q0 : Key} {ks : List Key} {m : ME} {mv : MA} (h : SndE K U E te m) (hr : SndP K U E trs ks mv) : SndP K U E ((tC (kV q0), te) :: trs) (q0 :: ks) (aCons m mv) := by
  intro Z σ ρ H k x Q I h0 q X
  refine h Z σ ρ H _ x _ I h0 (fun d ρ1 v H1 t1 I1 r1 h1 => ?_) X
  exact hr Z σ ρ1 H1 _ x _ I1 h1 (fun ds ρ2 vs H2 t2 I2 r2 l2 h2 => q _ ρ2 _ H2 (t1.trans t2) I2 (.cons (r1.mono t2.vis) r2) (by simp [l2]) h2) (X.go t1)
theorem snd_dct {trs : List (TE × TE)} {ks : List Key} {mv : MA} (h : SndP K U E trs ks mv) (hn : ks.Nodup) (hl : ks.length ≤ 15) : SndE K U E (tDisp trs) (eDct ks mv) := by
  intro Z σ ρ H k x Q I h0 q X
  intro p hp
  obtain ⟨I1, hv1⟩ := I.more (o := .dK []) hp
  have T1 : Tr U.S (Owns σ ρ) H (Owns σ ρ) (upd H p (.dK [])) := .of_same (same_new hp)
  refine h (fun a => Z a ∨ a = p) σ ρ _ _ x _ I1 h0 (fun ds ρ' vs H2 t2 I2 r2 l2 h2 => ?_) fun xn cls dd ρ' H' t' I' hx hk => ?_
  · have nS : ¬ U.S p := fun z => I.fresh hp (.inl z)
    have k1 : H2 p = some (.dK []) := (t2 p _ nS (fun z => I.fresh hp (.inr (.inr z))) upd_same).1
    have hlen : vs.length = ks.length := by rw [r2.len, l2]
    have e1 : (ks.map kV).zip vs = (ks.zip vs).map fun kv => (kV kv.1, kv.2) := by
      rw [List.zip_map_left]; rfl
    have e2 : mergeK [] (ks.zip vs) = ks.zip vs := by
      have := merge_new (ks.zip vs) [] (by simp [List.map_fst_zip (by omega : ks.length ≤ vs.length)]; exact hn)
      simpa using this
    refine ⟨k1, ks.zip vs, e1, by simp; omega, ?_⟩
    rw [e2]
    have dz : (fun a => Z a ∨ a = p) p := .inr rfl
    have I3 := I2.writeZ (o' := .dK (ks.zip vs)) dz k1 (fun z => z)
    obtain ⟨I4, hv4⟩ := I3.less
    have T4 : Tr U.S (Owns σ ρ) H (Owns σ ρ') (upd H2 p (.dK (ks.zip vs))) := fun a o n1 n2 n3 => by
      obtain ⟨g1, g2⟩ := (T1.trans t2) a o n1 n2 n3
      exact ⟨by rw [upd_ne (ne_of_none n3 hp)]; exact g1, g2⟩
    refine q _ ρ' _ _ T4 I4 ?_ h2
    have np : ¬ Hid U Z σ ρ' p := by
      rintro (z | z | z)
      · exact nS z
      · exact I.fresh hp (.inr (.inl z))
      · exact (I2.oz p z).2 (.inr rfl)
    simp only [Rep]
    refine ⟨p, vs, rfl, (hide_no np).trans upd_same, hlen.symm, ?_⟩
    have e3 : VH U (fun a => Z a ∨ a = p) σ ρ' (upd H2 p (.dK (ks.zip vs))) = VH U (fun a => Z a ∨ a = p) σ ρ' H2 := hide_upd (.inr (.inl dz))
    exact (e3 ▸ r2).mono hv4
  · obtain ⟨I5, hv5⟩ := I'.less
    exact X xn cls dd ρ' H' (T1.trans t') I5 (hx.mono hv5 fun _ _ e => e) hk
end
end DL

set_option maxRecDepth 100000
set_option maxHeartbeats 1000000
/-! DL20: d[k], d.get(k, x) of displays, by syntax. -/
namespace DL
open PySem PySem.Spec PyProof.Rows L2
section
variable {K : PySem.W.Frag} {U : Vol} {E : XS} {ta tb tc : TE} {ma mb mc : ME}
theorem dKey_rep {H : Hp} {v : V} {d : D} {q : Key} (h : dKey d = some q) (r : Rep K H v d) : v = kV q := by
  cases d <;> simp [dKey] at h <;> subst h <;> simpa only [Rep, kV] using r
theorem snd_dix (ha : SndE K U E ta ma) (hb : SndE K U E tb mb) : SndE K U E (tDGet ta tb) (eDIx ma mb) := by
  intro Z σ ρ H k x Q I h q X
  refine ha Z σ ρ H _ x _ I h (fun d1 ρ1 v1 H1 t1 I1 r1 h1 => ?_) X
  refine hb Z σ ρ1 H1 _ x _ I1 h1 (fun d2 ρ2 v2 H2 t2 I2 r2 h2 => ?_) (X.go t1)
  have r1' := r1.mono t2.vis
  dsimp only at h2
  split at h2
  · split at h2
    · rename_i qk ek
      split at h2
      · rename_i d ed
        simp only [Rep] at r1'
        obtain ⟨a, vs, rfl, s1, hl, l1⟩ := r1'
        have ev := dKey_rep ek r2
        subst ev
        obtain ⟨v, e1, rv⟩ := (dctGet_rep l1).1 d ed
        exact ⟨a, v, rfl, by rw [← e1]; exact DGet.k (hide_sub _ _ s1), q d ρ2 v H2 (t1.trans t2) I2 rv h2⟩
      · exact h2.elim
    · exact h2.elim
  · exact h2.elim
theorem snd_dget (ha : SndE K U E ta ma) (hb : SndE K U E tb mb) (hc : SndE K U E tc mc) : SndE K U E (tDGet2 ta tb tc) (eDGet ma mb mc) := by
  intro Z σ ρ H k x Q I h q X
  refine ha Z σ ρ H _ x _ I h (fun d1 ρ1 v1 H1 t1 I1 r1 h1 => ?_) X
  split at h1
  · rename_i ks ds
    obtain ⟨hl0, h1⟩ := h1
    have r0 := r1
    simp only [Rep] at r0
    obtain ⟨a, vs, rfl, s1, hl, l1⟩ := r0
    refine ⟨a, rfl, .inl ⟨_, .inl (hide_sub _ _ s1)⟩, hb Z σ ρ1 H1 _ x _ I1 h1 (fun d2 ρ2 v2 H2 t2 I2 r2 h2 => ?_) (X.go t1)⟩
    refine hc Z σ ρ2 H2 _ x _ I2 h2 (fun d3 ρ3 v3 H3 t3 I3 r3 h3 => ?_) (X.go (t1.trans t2))
    have r1' := (r1.mono t2.vis).mono t3.vis
    simp only [Rep] at r1'
    obtain ⟨a', vs', e0, s1', hl', l1'⟩ := r1'
    cases e0
    split at h3
    · rename_i qk ek
      have ev := dKey_rep ek (r2.mono t3.vis)
      subst ev
      refine ⟨_, DGet.k (hide_sub _ _ s1'), ?_⟩
      split at h3
      · rename_i d ed
        obtain ⟨v, e1, rv⟩ := (dctGet_rep l1').1 d ed
        rw [e1]
        exact q d ρ3 v H3 ((t1.trans t2).trans t3) I3 rv h3
      · rename_i ed
        rw [(dctGet_rep l1').2 hl0 ed]
        exact q d3 ρ3 v3 H3 ((t1.trans t2).trans t3) I3 r3 h3
    · exact h3.elim
  · exact h1.elim
end
section
variable {ι : Type} {Xs : ι → Cx} {P : Program} {w : World} {K : PySem.W.Frag} {mg : Str → Option Value} {base : Heap} {U : Vol} {E : XS} {lv : Nat} {pos pos' apos cpos kp : Pos} {a b c v : Expr} {keys : List (Option Expr)} {vals : List Expr} {ma mb mc m : ME} {mv : MA} {ks : List Key} {n0 : Nat}
def DP (Xs : ι → Cx) (K : PySem.W.Frag) (U : Vol) (E : XS) (pos : Pos) (keys : List (Option Expr)) (vals : List Expr) (ks : List Key) (mv : MA) : Prop := ∃ trs, (∀ j, PPs (Xs j) pos keys vals trs) ∧ SndP K U E trs ks mv
theorem dp_nil : DP Xs K U E pos [] [] [] aNil := ⟨_, fun _ => pps_nil, sndP_nil⟩
theorem dp_str {z : Str} (h : DE Xs K U E v m) (hr : DP Xs K U E pos keys vals ks mv) : DP Xs K U E pos (some (.Constant (.str z) n0 kp) :: keys) (v :: vals) (.inr z :: ks) (aCons m mv) := let ⟨_, h, s⟩ := h; let ⟨_, hr, sr⟩ := hr; ⟨_, fun j => pps_cons pe_str (h j) (hr j), sndP_cons (q0 := .inr z) s sr⟩
theorem dp_int {i : Int} (h : DE Xs K U E v m) (hr : DP Xs K U E pos keys vals ks mv) : DP Xs K U E pos (some (.Constant (.int i) n0 kp) :: keys) (v :: vals) (.inl i :: ks) (aCons m mv) := let ⟨_, h, s⟩ := h; let ⟨_, hr, sr⟩ := hr; ⟨_, fun j => pps_cons pe_int (h j) (hr j), sndP_cons (q0 := .inl i) s sr⟩
theorem de_dct (h : DP Xs K U E pos keys vals ks mv) (hn : ks.Nodup) (hl : ks.length ≤ 15) (hall : keys.all (·.isSome) = true := by rfl) (hlen : keys.length = vals.length := by rfl) (h0 : keys ≠ [] := by exact fun z => nomatch z) (h15 : keys.length ≤ 15 := by simp) : DE Xs K U E (.Dict keys vals pos) (eDct ks mv) := let ⟨_, h, s⟩ := h; ⟨_, fun j => pe_disp (h j) hall hlen h0 h15, snd_dct s hn hl⟩
theorem de_dix (F : Fam Xs P w K mg base E lv) (ha : DE Xs K U E a ma) (hb : DE Xs K U E b mb) (hs : NoSl b := by exact fun _ _ => rfl) : DE Xs K U E (.Subscript a b pos) (eDIx ma mb) := let ⟨_, ha, sa⟩ := ha; let ⟨_, hb, sb⟩ := hb; ⟨_, fun j => pe_dget (by have := F.u j; omega) (ha j) (hb j) hs, snd_dix sa sb⟩
theorem de_dget (F : Fam Xs P w K mg base E lv) (ha : DE Xs K U E a ma) (hb : DE Xs K U E b mb) (hc : DE Xs K U E c mc) (hm : ∀ j, M2 (Xs j) a "get" apos b c cpos := by intro _; exact ⟨rfl, rfl, rfl, rfl⟩) : DE Xs K U E (.Call (.Attribute a "get" apos) [b, c] [] cpos) (eDGet ma mb mc) :=
  let ⟨_, ha, sa⟩ := ha; let ⟨_, hb, sb⟩ := hb; let ⟨_, hc, sc⟩ := hc; ⟨_, fun j => pe_dget2 (by have := F.u j; omega) (ha j) (hb j) (hc j) (hm j), snd_dget sa sb sc⟩
end
end DL

set_option maxRecDepth 100000
set_option maxHeartbeats 1000000
/-! DL21: a, b = [..], x where a takes the list as its own. -/
namespace DL
open PySem PySem.Spec PyProof.Rows L2
def sParOwn (i j : Nat) (f : EnvD → (List D → EnvD → Prop) → KX → Prop) (m : ME) : MS := fun k ρ => f ρ (fun ds ρ1 => m ρ1 (fun d ρ2 => i < ρ2.l.length ∧ i ≠ j ∧ k.nx ((ρ2.st i (.own (.lst ds))).st j (.dat d))) k.xn) k.xn
section
variable {K : PySem.W.Frag} {U : Vol} {E : XS} {t1 t2 : TE} {f : EnvD → (List D → EnvD → Prop) → KX → Prop} {m : ME} {i j : Nat}
theorem snd_parOwn (h1 : SndF K U E t1 f) (h2 : SndE K U E t2 m) : SndS K U E (tPar i j (tCons t1 (tCons t2 tNil))) (sParOwn i j f m) := by
  intro Z σ ρ H k Dn I h0 fn
  refine h1 Z σ ρ H _ _ _ I h0 (fun ds ρ1 p vs H1 T1 I1 nS nZ hp nh r1 g1 => ?_) fn.xn.e
  refine h2 (fun a => Z a ∨ a = p) σ ρ1 H1 _ _ _ I1 g1 (fun d ρ2 w H2 T2 I2 r2 g2 => ?_) fun xn cls dd ρ' H' t' I' hx hk => ?_
  · obtain ⟨hi, hij, g2⟩ := g2
    have dz : (fun a => Z a ∨ a = p) p := .inr rfl
    have k2 : H2 p = some (.lst vs) := (T2 p _ nS (fun z => (I1.oz p z).2 dz) hp).1
    have I3 := I2.putOwn (i := i) nS nZ k2 (.lst (r1.mono T2.vis)) hi
    have own3 : ∀ q, Owns (σ.set i (some (.ref p))) (ρ2.st i (.own (.lst ds))) q → q = p ∨ Owns σ ρ2 q := fun q ⟨l, q1, c, q2⟩ => by
      by_cases e : i = l
      · subst e
        rw [List.getElem?_set_self (by rw [I2.len]; exact hi)] at q1
        cases q1
        exact .inl rfl
      · rw [List.getElem?_set_ne e] at q1 q2
        exact .inr ⟨l, q1, c, q2⟩
    have hv : Same (VH U (fun a => Z a ∨ a = p) σ ρ2 H2) (VH U Z (σ.set i (some (.ref p))) (ρ2.st i (.own (.lst ds))) H2) := hide_less fun a => by
      rintro (z | z | z)
      · exact .inl z
      · exact .inr (.inl (.inl z))
      · rcases own3 a z with z | z
        · exact .inr (.inl (.inr z))
        · exact .inr (.inr z)
    obtain ⟨I4, T4⟩ := I3.put (i := j) (r2.mono hv)
    refine ⟨.ref p, w, rfl, fn.nx _ _ H2 (fun a o n1 n2 n3 => ?_) I4 g2⟩
    obtain ⟨q1, q2⟩ := (T1.trans T2) a o n1 n2 n3
    refine (T4 a o n1 (fun z => ?_) q1).2 |> fun n4 => ⟨q1, n4⟩
    rcases own3 a z with z | z
    · subst z; exact nh o n2 n3
    · exact q2 z
  · obtain ⟨I5, hv5⟩ := I'.less
    exact fn.xn xn cls dd σ ρ' H' (T1.trans t') I5 (hx.mono hv5 fun _ _ e => e) hk
end
section
variable {ι : Type} {Xs : ι → Cx} {P : Program} {w : World} {K : PySem.W.Frag} {mg : Str → Option Value} {base : Heap} {U : Vol} {E : XS} {lv : Nat} {pos px py pt pt2 : Pos} {a b : Expr} {kt k2 : Nat} {x y : Str} {f : EnvD → (List D → EnvD → Prop) → KX → Prop} {m : ME}
theorem ds_parOwn (F : Fam Xs P w K mg base E lv) (i j : Nat) (ha : DF Xs K U E a f) (hb : DE Xs K U E b m) (hi : ∀ q, (Xs q).N[i]? = some x := by intro _; rfl) (hj : ∀ q, (Xs q).N[j]? = some y := by intro _; rfl) (hij : i ≠ j := by decide) (hx : ∀ q, (Xs q).env.scope.names.lookup x = some .local := by intro _; rfl) (hy : ∀ q, (Xs q).env.scope.names.lookup y = some .local := by intro _; rfl)
    (hs1 : ∀ q, starEach [a, b] (Xs q).env = (false, eval a (Xs q).env) :: starEach [b] (Xs q).env := by intro _; rfl) (hs2 : ∀ q, starEach [b] (Xs q).env = (false, eval b (Xs q).env) :: starEach [] (Xs q).env := by intro _; rfl)
    (hw : ∀ q, swappedStores [.Tuple [.Name x px, .Name y py] kt pt] (.Tuple [a, b] k2 pt2) (Xs q).env = pure (some [x, y]) := by intro _; rfl) : DS Xs K U E (.Assign [.Tuple [.Name x px, .Name y py] kt pt] (.Tuple [a, b] k2 pt2) pos) (sParOwn i j f m) := by
  obtain ⟨t1, h1, s1⟩ := ha
  obtain ⟨t2, h2, s2⟩ := hb
  exact ⟨_, fun q => ps_par (F.calm q) (F.nd q) (hi q) (hj q) hij (hx q) (hy q) (pa_cons (h1 q) (pa_cons (h2 q) pa_nil (hs2 q)) (hs1 q)) (hw q), snd_parOwn s1 s2⟩
end
end DL

set_option maxRecDepth 100000
set_option maxHeartbeats 1000000
/-! DL22: the meanings of DL18 to DL21, unfolded by simp. -/
namespace DL
open PySem PySem.Spec PyProof.Rows L2
section
variable (ρ : EnvD) (k : KD) (x : KX) (kt : Bool → EnvD → Prop) (ka : List D → EnvD → Prop) (K0 : MK) (i j : Nat) (ds : List D) (ma mb mc m mo me : ME) (mA mv : MA) (fl : EnvD → (List D → EnvD → Prop) → KX → Prop) (tab : List (Str × D)) (ks : List Key) (z : Str) (kp : D → Prop)
@[simp ↓] theorem x_aStar : aStar m mA ρ ka x = m ρ (fun d ρ1 => match d with
  | .tup xs => mA ρ1 (fun ds ρ2 => ka (xs ++ ds) ρ2) x
  | .lst xs => mA ρ1 (fun ds ρ2 => ka (xs ++ ds) ρ2) x
  | _ => False) x := propext Iff.rfl
@[simp ↓] theorem x_eJoin : eJoin mo me ρ k x = mo ρ (fun a ρ1 => match a with
  | .str a => me ρ1 (fun d ρ2 => match d with
    | .lst ds => joinD a ds fun r => k r ρ2
    | .tup ds => joinD a ds fun r => k r ρ2
    | _ => False) x
  | _ => False) x := propext Iff.rfl
@[simp ↓] theorem x_eUpper : eUpper mo ρ k x = mo ρ (fun a ρ1 => match a with
  | .str a => a.length ≤ 5592405 ∧ k (.str (Txt.upper a)) ρ1
  | _ => False) x := propext Iff.rfl
@[simp ↓] theorem x_eSplit : eSplit mo me ρ k x = mo ρ (fun a ρ1 => match a with
  | .str a => me ρ1 (fun b ρ2 => match b with
    | .str b => (b.length == 0) = false ∧ a.length + 2 ≤ sizeLine ∧ k (.lst ((Txt.split a b).map D.str)) ρ2
    | _ => False) x
  | _ => False) x := propext Iff.rfl
@[simp ↓] theorem x_sExt : sExt i m K0 ρ = ((∃ c, ρ.l[i]? = some (.own (.lst c))) ∧ m ρ (fun d ρ1 => match d with
  | .lst es => match ρ1.l[i]? with
    | some (.own (.lst ds)) => ds.length + es.length ≤ sizeLine ∧ K0.nx (ρ1.st i (.own (.lst (ds ++ es))))
    | _ => False
  | _ => False) K0.xn) := propext Iff.rfl
@[simp ↓] theorem x_eKdIx : eKdIx tab m ρ k x = m ρ (fun d ρ1 => match d with
  | .str z => match tab.lookup z with
    | some d => k d ρ1
    | none => False
  | _ => False) x := propext Iff.rfl
@[simp ↓] theorem x_eKdIn : eKdIn tab m ρ k x = m ρ (fun d ρ1 => match d with
  | .str z => k (.bl (tab.lookup z).isSome) ρ1
  | _ => False) x := propext Iff.rfl
@[simp ↓] theorem x_eDct : eDct ks mv ρ k x = mv ρ (fun ds ρ1 => k (.dct ks ds) ρ1) x := propext Iff.rfl
@[simp ↓] theorem x_eDIx : eDIx ma mb ρ k x = ma ρ (fun a ρ1 => mb ρ1 (fun b ρ2 => match a with
  | .dct ks ds => match dKey b with
    | some q => match dctGet ks ds q with
      | some d => k d ρ2
      | none => False
    | none => False
  | _ => False) x) x := propext Iff.rfl
@[simp ↓] theorem x_eDGet : eDGet ma mb mc ρ k x = ma ρ (fun a ρ1 => match a with
  | .dct ks ds => ks.length = ds.length ∧ mb ρ1 (fun b ρ2 => mc ρ2 (fun c ρ3 => match dKey b with
    | some q => match dctGet ks ds q with
      | some d => k d ρ3
      | none => k c ρ3
    | none => False) x) x
  | _ => False) x := propext Iff.rfl
@[simp ↓] theorem x_sParOwn : sParOwn i j fl m K0 ρ = fl ρ (fun ds ρ1 => m ρ1 (fun d ρ2 => i < ρ2.l.length ∧ i ≠ j ∧ K0.nx ((ρ2.st i (.own (.lst ds))).st j (.dat d))) K0.xn) K0.xn := propext Iff.rfl
@[simp] theorem x_dKey_s : dKey (.str z) = some (.inr z) := rfl
@[simp] theorem x_dKey_i (n : Int) : dKey (.int n) = some (.inl n) := rfl
end
section
variable (ρ : EnvD) (k : KD) (x : KX) (ko : Option Int → EnvD → Prop) (m : ME) (ml mh : MO) (as bs : List D) (lo hi : Option Int) (z : Str) (kp : D → Prop)
@[simp ↓] theorem x_oNo' : oNo ρ ko x = ko none ρ := propext Iff.rfl
@[simp ↓] theorem x_oSome : oSome m ρ ko x = m ρ (fun d ρ1 => match d with
  | .int i => ko (some i) ρ1
  | _ => False) x := propext Iff.rfl
@[simp ↓] theorem x_eSl : eSl m ml mh ρ k x = m ρ (fun d ρ1 => ml ρ1 (fun lo ρ2 => mh ρ2 (fun hi ρ3 => slD d lo hi fun e => k e ρ3) x) x) x := propext Iff.rfl
@[simp ↓] theorem x_sl_t : slD (.tup as) lo hi kp = kp (.tup (cutL as lo hi)) := propext Iff.rfl
@[simp ↓] theorem x_sl_l : slD (.lst as) lo hi kp = kp (.lst (cutL as lo hi)) := propext Iff.rfl
@[simp ↓] theorem x_sl_s : slD (.str z) lo hi kp = (z.length ≤ sizeLine ∧ kp (.str (cutS z lo hi))) := propext Iff.rfl
end
end DL

set_option maxRecDepth 100000
set_option maxHeartbeats 1000000
/-! DH5: loops and comprehensions over typed lists; short forms of the shared contracts. -/
namespace DL
open PySem PySem.Spec PyProof.Rows L2
/-- a for over an encoded list, by what holds behind a beginning -/
theorem for_ty {α : Type} {g : MG} {b : MS} {k : MK} (enc : α → D) (xs : List α) (I : List α → EnvD → Prop) {ρ : EnvD} (h0 : I [] ρ)
    (hs : ∀ done a rest, xs = done ++ a :: rest → ∀ ρ, I done ρ → ∀ R : EnvD → Prop, (∀ ρ', I (done ++ [a]) ρ' → R ρ') → g (enc a) ρ fun ρ1 => b { k with nx := R, ct := R, bk := k.nx } ρ1)
    (hn : ∀ ρ, I xs ρ → k.nx ρ) : forM g b k (xs.map enc) ρ := by
  refine forM_ind (fun ds ρ => ∃ done rest, xs = done ++ rest ∧ ds = rest.map enc ∧ I done ρ) (fun ρ h => ?_) (fun R d ds ρ hR h => ?_) _ _ ⟨[], xs, rfl, rfl, h0⟩
  · obtain ⟨done, rest, e, e2, h⟩ := h
    have : rest = [] := by simpa using e2.symm
    subst this
    rw [List.append_nil] at e
    subst e
    exact hn ρ h
  · obtain ⟨done, rest, e, e2, h⟩ := h
    cases rest with
    | nil => simp at e2
    | cons a rest =>
      simp only [List.map_cons, List.cons.injEq] at e2
      obtain ⟨rfl, rfl⟩ := e2
      exact hs done a rest e ρ h R fun ρ' h' => hR ρ' ⟨done ++ [a], rest, by rw [e]; simp, rfl, h'⟩
/-- .. over any list -/
theorem for_d {g : MG} {b : MS} {k : MK} (xs : List D) (I : List D → EnvD → Prop) {ρ : EnvD} (h0 : I [] ρ)
    (hs : ∀ done a rest, xs = done ++ a :: rest → ∀ ρ, I done ρ → ∀ R : EnvD → Prop, (∀ ρ', I (done ++ [a]) ρ' → R ρ') → g a ρ fun ρ1 => b { k with nx := R, ct := R, bk := k.nx } ρ1)
    (hn : ∀ ρ, I xs ρ → k.nx ρ) : forM g b k xs ρ := by
  have := for_ty (g := g) (b := b) (k := k) id xs I h0 hs hn
  simpa using this
/-- a comprehension over an encoded list, by what holds behind a beginning -/
theorem lc_ty {α : Type} {g : MG} {tt : MT} {te : ME} {vs : List Nat} {k : List D → EnvD → Prop} (enc : α → D) (xs : List α) (I : List α → List D → EnvD → Prop) {ρ : EnvD} (h0 : I [] [] ρ)
    (hs : ∀ done a rest, xs = done ++ a :: rest → ∀ acc ρ, I done acc ρ → ∀ R : List D → EnvD → Prop, (∀ acc' ρ', I (done ++ [a]) acc' ρ' → R acc' ρ') → g (enc a) ρ fun ρ1 => tt ρ1 (fun b ρ2 => if b = true then te ρ2 (fun y ρ3 => acc.length < sizeLine ∧ R (acc ++ [y]) (wipeD ρ3 vs)) xF else R acc (wipeD ρ2 vs)) xF)
    (hn : ∀ acc ρ, I xs acc ρ → k acc (wipeD ρ vs)) : lcM g tt te vs k (xs.map enc) [] ρ := by
  refine lcM_ind (fun ds acc ρ => ∃ done rest, xs = done ++ rest ∧ ds = rest.map enc ∧ I done acc ρ) (fun acc ρ h => ?_) (fun R d ds acc ρ hR h => ?_) _ _ _ ⟨[], xs, rfl, rfl, h0⟩
  · obtain ⟨done, rest, e, e2, h⟩ := h
    have : rest = [] := by simpa using e2.symm
    subst this
    rw [List.append_nil] at e
    subst e
    exact hn acc ρ h
  · obtain ⟨done, rest, e, e2, h⟩ := h
    cases rest with
    | nil => simp at e2
    | cons a rest =>
      simp only [List.map_cons, List.cons.injEq] at e2
      obtain ⟨rfl, rfl⟩ := e2
      exact hs done a rest e acc ρ h R fun acc' ρ' h' => hR acc' ρ' ⟨done ++ [a], rest, by rw [e]; simp, rfl, h'⟩
/-- a comprehension that tells a function's values -/
theorem lc_fm {α : Type} {g : MG} {tt : MT} {te : ME} {vs : List Nat} {k : List D → EnvD → Prop} (enc : α → D) (xs : List α) (F : α → Option D) {ρ : EnvD} (hw : wipeD ρ vs = ρ) (hl : xs.length ≤ sizeLine)
    (hs : ∀ a ∈ xs, ∀ (K1 : D → EnvD → Prop) (K2 : EnvD → Prop), (∀ y ρ3, F a = some y → wipeD ρ3 vs = ρ → K1 y ρ3) → (∀ ρ2, F a = none → wipeD ρ2 vs = ρ → K2 ρ2) → g (enc a) ρ fun ρ1 => tt ρ1 (fun b ρ2 => if b = true then te ρ2 K1 xF else K2 ρ2) xF)
    (hk : k (xs.filterMap F) ρ) : lcM g tt te vs k (xs.map enc) [] ρ := by
  refine lc_ty enc xs (fun done acc ρ' => ρ' = ρ ∧ acc = done.filterMap F) ⟨rfl, rfl⟩ (fun done a rest e acc ρ' h R hR => ?_) (fun acc ρ' h => ?_)
  · obtain ⟨rfl, rfl⟩ := h
    have hlen : (done.filterMap F).length < sizeLine := by
      have h1 := List.length_filterMap_le F done
      have h2 := congrArg List.length e
      simp only [List.length_append, List.length_cons] at h2
      omega
    refine hs a (by rw [e]; simp) _ _ (fun y ρ3 hy hw3 => ⟨hlen, hR _ _ ⟨hw3, ?_⟩⟩) (fun ρ2 hy hw2 => hR _ _ ⟨hw2, ?_⟩)
    · simp [List.filterMap_append, hy]
    · simp [List.filterMap_append, hy]
  · obtain ⟨rfl, rfl⟩ := h
    rw [hw]; exact hk
theorem lc_map {α : Type} {g : MG} {te : ME} {vs : List Nat} {k : List D → EnvD → Prop} (enc : α → D) (xs : List α) (F : α → D) {ρ : EnvD} (hw : wipeD ρ vs = ρ) (hl : xs.length ≤ sizeLine)
    (hs : ∀ a ∈ xs, ∀ (K1 : D → EnvD → Prop), (∀ ρ3, wipeD ρ3 vs = ρ → K1 (F a) ρ3) → g (enc a) ρ fun ρ1 => te ρ1 K1 xF)
    (hk : k (xs.map F) ρ) : lcM g tYesM te vs k (xs.map enc) [] ρ := by
  refine lc_fm enc xs (fun a => some (F a)) hw hl (fun a ha K1 K2 h1 h2 => ?_) (by rw [List.filterMap_eq_map']; exact hk)
  have := hs a ha K1 fun ρ3 h => h1 _ _ rfl h
  simpa using this
theorem lc_filt {α : Type} {g : MG} {tt : MT} {te : ME} {vs : List Nat} {k : List D → EnvD → Prop} (enc : α → D) (xs : List α) (p : α → Bool) (F : α → D) {ρ : EnvD} (hw : wipeD ρ vs = ρ) (hl : xs.length ≤ sizeLine)
    (hs : ∀ a ∈ xs, ∀ (K1 : D → EnvD → Prop) (K2 : EnvD → Prop), (∀ ρ3, p a = true → wipeD ρ3 vs = ρ → K1 (F a) ρ3) → (∀ ρ2, p a = false → wipeD ρ2 vs = ρ → K2 ρ2) → g (enc a) ρ fun ρ1 => tt ρ1 (fun b ρ2 => if b = true then te ρ2 K1 xF else K2 ρ2) xF)
    (hk : k ((xs.filter p).map F) ρ) : lcM g tt te vs k (xs.map enc) [] ρ := by
  have e : xs.filterMap (fun a => if p a = true then some (F a) else none) = (xs.filter p).map F := by
    clear hk hs hl
    induction xs with
    | nil => rfl
    | cons a r ih => cases q : p a <;> simp [q, ih]
  refine lc_fm enc xs (fun a => if p a = true then some (F a) else none) hw hl (fun a ha K1 K2 h1 h2 => hs a ha K1 K2 (fun ρ3 hp h => h1 _ _ (by simp [hp]) h) (fun ρ2 hp h => h2 _ (by simp [hp]) h)) (by rw [e]; exact hk)
/-! ### short forms -/
section
variable {U : Vol} {n : Nat} {k : D → Nat → Prop} {x : Xn → Nat → Prop} {st gr ce : Addr} {cs : List Int} {T : List (Addr × Str)}
theorem draw_use {room : Int} (hn : n + 1 ≤ mostN) (h0 : 0 < room) (h1 : room < 2 ^ 60) (h : ∀ (v : Int) (n' : Nat), 0 ≤ v → v < room → n ≤ n' → n' ≤ n + 1 → k (.int v) n') : f_draw (stU st gr ce cs T) n [.hdl st, .int room] k x := by
  refine ⟨st, gr, ce, cs, T, rfl, hn, room, rfl, h0, ?_, h⟩
  have := (Nat.log2_lt (n := room.natAbs) (k := 60) (by omega)).2 (by omega)
  omega
theorem pick_use {ds : List D} (hn : n + 1 ≤ mostN) (h0 : 0 < ds.length) (h1 : ds.length ≤ sizeLine) (h : ∀ (d : D) (n' : Nat), d ∈ ds → n ≤ n' → n' ≤ n + 1 → k d n') : f_pick (stU st gr ce cs T) n [.hdl st, .lst ds] k x :=
  ⟨st, gr, ce, cs, T, rfl, hn, _, ds, rfl, .inl rfl, h0, h1, h⟩
theorem pick_useT {ds : List D} (hn : n + 1 ≤ mostN) (h0 : 0 < ds.length) (h1 : ds.length ≤ sizeLine) (h : ∀ (d : D) (n' : Nat), d ∈ ds → n ≤ n' → n' ≤ n + 1 → k d n') : f_pick (stU st gr ce cs T) n [.hdl st, .tup ds] k x :=
  ⟨st, gr, ce, cs, T, rfl, hn, _, ds, rfl, .inr rfl, h0, h1, h⟩
theorem isq_use {m : Nat} {d1 d2 : D} (e : d1 = d2) (hp : pln m d2 = true) (hm : m ≤ 40) (h : k (.bl true) n) : f_isq m U n [d1, d2] k x := by
  subst e
  exact ⟨_, rfl, hp, hm, h⟩
end
theorem mostN_eq : mostN = 1099511627776 := by decide
end DL

set_option maxRecDepth 100000
set_option maxHeartbeats 1000000
/-! DP1: points: tests. -/
namespace DL
open PySem PySem.Spec PyProof.Rows L2
def m_is_high (K : PySem.W.Frag) (U : Vol) (k_FIRST_HIGH : D) (k_LAST_HIGH : D) : MS :=
  sRet (eChain leD leD (eC k_FIRST_HIGH) (eVar 0) (eC k_LAST_HIGH))
def m_is_low (K : PySem.W.Frag) (U : Vol) (k_FIRST_LOW : D) (k_LAST_LOW : D) : MS :=
  sRet (eChain leD leD (eC k_FIRST_LOW) (eVar 0) (eC k_LAST_LOW))
def m_is_point (K : PySem.W.Frag) (U : Vol) (k_MOST_POINT : D) : MS :=
  sRet (eAndV (eCa (isxD K) (aCons (eVar 0) (aCons (eC (.ty "int")) (aNil)))) (eAndV (eNotV (eCa (isxD K) (aCons (eVar 0) (aCons (eC (.ty "bool")) (aNil))))) (eChain leD leD (eC (.int 0)) (eVar 0) (eC k_MOST_POINT))))
def m_is_points (K : PySem.W.Frag) (U : Vol) (f_is_high : DF0) (f_is_low : DF0) (f_is_point : DF0) : MS :=
  sSeq (sIf (tOrM (tNotM (eTru (eCa (isxD K) (aCons (eVar 0) (aCons (eC (.ty "tuple")) (aNil)))))) (tNotM (eTru (eCa allD (aCons (eF (fLc (iTpl (eVar 0)) (gNm 1) (tYesM) (eCall (f_is_point U) (aCons (eVar 1) (aNil))) [1])) (aNil)))))) (sRet (eC (.bl false))) (sNext)) (sRet (eNotV (eCa anyD (aCons (eF (fLc (iZp (aCons (eVar 0) (aCons (eSl (eVar 0) (oSome (eC (.int 1))) (oNo)) (aNil)))) (gTp (gCs (gNm 2) (gCs (gNm 3) (gNl))) 2) (tYesM) (eAndV (eCall (f_is_high U) (aCons (eVar 2) (aNil))) (eCall (f_is_low U) (aCons (eVar 3) (aNil)))) [2, 3])) (aNil)))))
def m_need_points (K : PySem.W.Frag) (U : Vol) (c_InvalidPoints : Addr) (f_is_points : DF0) : MS :=
  sIf (tNotM (eTru (eCall (f_is_points U) (aCons (eVar 0) (aNil))))) (sRaise c_InvalidPoints) (sNext)
def isPt : D → Bool
  | .int i => decide (0 ≤ i) && decide (i ≤ 1114111)
  | _ => false
/-- a high surrogate, then a low one -/
def surr : List D → Bool
  | .int a :: .int b :: r => (decide (55296 ≤ a) && decide (a ≤ 56319) && (decide (56320 ≤ b) && decide (b ≤ 57343))) || surr (.int b :: r)
  | _ => false
def isPts : D → Bool
  | .tup ds => ds.all isPt && !surr ds
  | _ => false
def f_is_high : DF0 := fun _ n ds k _ => ∃ i : Int, ds = [.int i] ∧ k (.bl (decide (55296 ≤ i) && decide (i ≤ 56319))) n
def f_is_low : DF0 := fun _ n ds k _ => ∃ i : Int, ds = [.int i] ∧ k (.bl (decide (56320 ≤ i) && decide (i ≤ 57343))) n
def f_is_point : DF0 := fun _ n ds k _ => ∃ d, ds = [d] ∧ pln 40 d = true ∧ k (.bl (isPt d)) n
def f_is_points : DF0 := fun _ n ds k _ => ∃ d, ds = [d] ∧ pln 40 d = true ∧ (∀ ds, d = .tup ds → ds.length ≤ 1000000) ∧ k (.bl (isPts d)) n
def f_need_points (c : Addr) : DF0 := fun _ n ds k x => ∃ d, ds = [d] ∧ pln 40 d = true ∧ (∀ ds, d = .tup ds → ds.length ≤ 1000000) ∧ (isPts d = true → k .non n) ∧ (isPts d = false → x (.own c) n)
section
variable {K : PySem.W.Frag} {U : Vol} {n : Nat} {ds : List D} {k : D → Nat → Prop} {x : Xn → Nat → Prop}
theorem high_ok (h : f_is_high U n ds k x) : m_is_high K U (.int 55296) (.int 56319) (MKf k x) (startD ["unit"] ds n) := by
  obtain ⟨i, rfl, h⟩ := h
  simp [m_is_high, startD]
  by_cases e : (55296 : Int) ≤ i
  · simpa [e] using h
  · simpa [e] using h
theorem low_ok (h : f_is_low U n ds k x) : m_is_low K U (.int 56320) (.int 57343) (MKf k x) (startD ["unit"] ds n) := by
  obtain ⟨i, rfl, h⟩ := h
  simp [m_is_low, startD]
  by_cases e : (56320 : Int) ≤ i
  · simpa [e] using h
  · simpa [e] using h
theorem point_ok (h : f_is_point U n ds k x) : m_is_point K U (.int 1114111) (MKf k x) (startD ["value"] ds n) := by
  obtain ⟨d, rfl, hp, h⟩ := h
  cases d with
  | int i =>
    simp [m_is_point, startD, tyN, tys6, kit6]
    by_cases e : (0 : Int) ≤ i
    · simpa [e, isPt] using h
    · simpa [e, isPt] using h
  | non => simp [m_is_point, startD, tyN, tys6, kit6]; simpa [isPt] using h
  | bl b => simp [m_is_point, startD, tyN, tys6, kit6]; simpa [isPt] using h
  | str b => simp [m_is_point, startD, tyN, tys6, kit6]; simpa [isPt] using h
  | tup b => simp [m_is_point, startD, tyN, tys6, kit6]; simpa [isPt] using h
  | lst b => simp [m_is_point, startD, tyN, tys6, kit6]; simpa [isPt] using h
  | _ => simp [pln] at hp
theorem blL_map : ∀ (bs : List Bool), blL (bs.map D.bl) = some bs
  | [] => rfl
  | b :: bs => by simp [blL, blL_map bs]
theorem all_bl (bs : List Bool) (kp : D → Prop) : allD [.lst (bs.map D.bl)] kp = kp (.bl (bs.all id)) := by
  show (match blL (bs.map D.bl) with | some bs => kp (.bl (bs.all id)) | none => False) = _
  rw [blL_map]
theorem any_bl (bs : List Bool) (kp : D → Prop) : anyD [.lst (bs.map D.bl)] kp = kp (.bl (bs.any id)) := by
  show (match blL (bs.map D.bl) with | some bs => kp (.bl (bs.any id)) | none => False) = _
  rw [blL_map]
theorem isPt_int {d : D} (h : isPt d = true) : ∃ i : Int, d = .int i := by
  cases d <;> simp [isPt] at h
  exact ⟨_, rfl⟩
theorem cut_tail {α : Type} (xs : List α) (h : xs.length ≤ 1000000) : cutL xs (some 1) none = xs.drop 1 := by
  unfold cutL
  rw [HT.sIx_none, show HT.sIx xs.length 0 (some 1) = min 1 xs.length from HT.sIx_nat _ _ 1]
  cases xs with
  | nil => rfl
  | cons a xs =>
    rw [show min 1 (a :: xs).length = 1 by simp]
    exact List.take_of_length_le (by simp)
/-- the pairs of neighbours, asked for surrogates -/
def surB : D → Bool
  | .tup [.int a, .int b] => decide (55296 ≤ a) && decide (a ≤ 56319) && (decide (56320 ≤ b) && decide (b ≤ 57343))
  | _ => false
theorem surr_any : ∀ {ds : List D}, (∀ d ∈ ds, isPt d = true) → ((pairs ds (ds.drop 1)).map surB).any id = surr ds
  | [], _ => rfl
  | [a], h => by
    obtain ⟨i, rfl⟩ := isPt_int (h a (by simp))
    rfl
  | a :: b :: r, h => by
    obtain ⟨i, rfl⟩ := isPt_int (h a (by simp))
    obtain ⟨j, rfl⟩ := isPt_int (h b (by simp))
    have ih := surr_any (ds := .int j :: r) fun d hd => h d (by simp at hd ⊢; exact .inr hd)
    simp only [pairs, List.drop_succ_cons, List.drop_zero] at ih ⊢
    simp only [List.zipWith_cons_cons, List.map_cons, List.any_cons, surr, surB, ih, id]
theorem points_ok (h : f_is_points U n ds k x) : m_is_points K U f_is_high f_is_low f_is_point (MKf k x) (startD ["value", "item", "one", "other"] ds n) := by
  obtain ⟨d, rfl, hp, hlen, h⟩ := h
  cases d with
  | tup ds =>
    have hds : ∀ d ∈ ds, pln 40 d = true := fun d hd => pln_up (plnL_iff.1 (by simpa only [pln] using hp : plnL 39 ds = true) d hd)
    have hl := hlen ds rfl
    simp [m_is_points, startD, List.replicate, tyN, tys6, kit6]
    refine lcM_ind (fun rest acc ρ => ∃ done, ds = done ++ rest ∧ acc = (done.map isPt).map D.bl ∧ ∃ s1, ρ = ⟨[.dat (.tup ds), s1, .no, .no], n⟩) (fun acc ρ => ?_) (fun R d rest acc ρ hR hI => ?_) _ _ _ ⟨[], rfl, rfl, _, rfl⟩
    · rintro ⟨done, hdn, rfl, s1, rfl⟩
      rw [List.append_nil] at hdn
      subst hdn
      simp
      rw [← List.map_map, all_bl]
      by_cases e : ∀ d ∈ ds, isPt d = true
      · have ea : (ds.map isPt).all id = true := by simpa using e
        simp [ea]
        rw [cut_tail ds hl]
        have hpr : ∀ p ∈ pairs ds (ds.drop 1), ∃ a b : Int, p = .tup [.int a, .int b] := fun p hp => by
          unfold pairs at hp
          rw [List.mem_iff_getElem] at hp
          obtain ⟨i, hi, rfl⟩ := hp
          rw [List.getElem_zipWith]
          obtain ⟨a, ha⟩ := isPt_int (e _ (List.getElem_mem (by simp at hi; omega : i < ds.length)))
          obtain ⟨b, hb⟩ := isPt_int (e _ (List.mem_of_mem_drop (List.getElem_mem (by simp at hi ⊢; omega : i < (ds.drop 1).length))))
          exact ⟨a, b, by rw [ha, hb]⟩
        have hpl : (pairs ds (ds.drop 1)).length ≤ 1000000 := by unfold pairs; simp; omega
        refine lcM_ind (fun rest acc ρ => ∃ done, pairs ds (ds.drop 1) = done ++ rest ∧ acc = (done.map surB).map D.bl ∧ ∃ s2 s3, ρ = ⟨[.dat (.tup ds), .no, s2, s3], n⟩) (fun acc ρ => ?_) (fun R d rest acc ρ hR hI => ?_) _ _ _ ⟨[], rfl, rfl, _, _, rfl⟩
        · rintro ⟨done, hdn, rfl, s2, s3, rfl⟩
          rw [List.append_nil] at hdn
          subst hdn
          rw [any_bl, surr_any e]
          have : isPts (.tup ds) = !surr ds := by simp [isPts, List.all_eq_true.2 e]
          rw [this] at h
          simpa using h
        · obtain ⟨done, hdn, rfl, s2, s3, rfl⟩ := hI
          obtain ⟨a, b, rfl⟩ := hpr d (by rw [hdn]; simp)
          have hlen2 := congrArg List.length hdn
          simp at hlen2
          simp
          refine ⟨a, rfl, ?_⟩
          by_cases q : (decide (55296 ≤ a) && decide (a ≤ 56319)) = true
          · simp [q]
            refine ⟨b, rfl, by simp at hpl; omega, hR _ _ ⟨done ++ [.tup [.int a, .int b]], by rw [hdn]; simp, by simp [surB, q], _, _, rfl⟩⟩
          · simp [q]
            refine ⟨by simp at hpl; omega, hR _ _ ⟨done ++ [.tup [.int a, .int b]], by rw [hdn]; simp, by simp [surB, q], _, _, rfl⟩⟩
      · have ea : (ds.map isPt).all id = false := by
          cases q : (ds.map isPt).all id with
          | false => rfl
          | true => exact (e (by simpa using q)).elim
        have : isPts (.tup ds) = false := by
          simp only [List.all_map] at ea
          simp only [isPts]
          rw [show ds.all isPt = false from ea]
          rfl
        rw [this] at h
        simpa [ea] using h
    · obtain ⟨done, hdn, rfl, s1, rfl⟩ := hI
      have hlen2 := congrArg List.length hdn
      simp at hlen2
      simp
      refine ⟨d, rfl, hds d (by rw [hdn]; simp), by omega, hR _ _ ⟨done ++ [d], by rw [hdn]; simp, by simp, _, rfl⟩⟩
  | non => simp [m_is_points, startD, List.replicate, tyN, tys6, kit6]; simpa [isPts] using h
  | bl b => simp [m_is_points, startD, List.replicate, tyN, tys6, kit6]; simpa [isPts] using h
  | int b => simp [m_is_points, startD, List.replicate, tyN, tys6, kit6]; simpa [isPts] using h
  | str b => simp [m_is_points, startD, List.replicate, tyN, tys6, kit6]; simpa [isPts] using h
  | lst b => simp [m_is_points, startD, List.replicate, tyN, tys6, kit6]; simpa [isPts] using h
  | _ => simp [pln] at hp
theorem need_points_ok {c : Addr} (h : f_need_points c U n ds k x) : m_need_points K U c f_is_points (MKf k x) (startD ["value"] ds n) := by
  obtain ⟨d, rfl, hp, hl, h1, h2⟩ := h
  simp [m_need_points, startD]
  refine ⟨d, rfl, hp, hl, ?_⟩
  cases e : isPts d with
  | true => simpa using h1 e
  | false => simpa using h2 e
end
end DL

set_option maxRecDepth 100000
set_option maxHeartbeats 1000000
/-! DP2: points joined and taken apart. -/
namespace DL
open PySem PySem.Spec PyProof.Rows L2
def m_points_of (K : PySem.W.Frag) (U : Vol) : MS :=
  sRet (eCa tupD (aCons (eF (fLc (iTxt (eVar 0)) (gNm 1) (tYesM) (eCa ordD (aCons (eVar 1) (aNil))) [1])) (aNil)))
def m_pair_point (K : PySem.W.Frag) (U : Vol) (k_FIRST_HIGH : D) (k_FIRST_LOW : D) (k_MOST_UNIT : D) : MS :=
  sRet (eOp subD (eOp add2D (eOp add2D (eOp add2D (eC k_MOST_UNIT) (eC (.int 1))) (eOp mul2D (eC (.int 1024)) (eOp subD (eVar 0) (eC k_FIRST_HIGH)))) (eVar 1)) (eC k_FIRST_LOW))
def m_joined_points (K : PySem.W.Frag) (U : Vol) (f_is_high : DF0) (f_is_low : DF0) (f_pair_point : DF0) : MS :=
  sSeq (sIf (tAndM (eTest (eOp neD (eVar 0) (eTup (aNil)))) (tAndM (eTru (eCall (f_is_high U) (aCons (eOp ixD (eVar 0) (eUn negD (eC (.int 1)))) (aNil)))) (eTru (eCall (f_is_low U) (aCons (eVar 1) (aNil)))))) (sRet (eTup (aStar (eSl (eVar 0) (oNo) (oSome (eUn negD (eC (.int 1))))) (aCons (eCall (f_pair_point U) (aCons (eOp ixD (eVar 0) (eUn negD (eC (.int 1)))) (aCons (eVar 1) (aNil)))) (aNil))))) (sNext)) (sRet (eTup (aStar (eVar 0) (aCons (eVar 1) (aNil)))))
def m_points_written (K : PySem.W.Frag) (U : Vol) (f_joined_points : DF0) : MS :=
  sSeq (sAsg (eTup (aNil)) (gNm 1)) (sSeq (sFor (iLst (eVar 0)) (gNm 2) (sAsg (eCall (f_joined_points U) (aCons (eVar 1) (aCons (eVar 2) (aNil)))) (gNm 1))) (sRet (eVar 1)))
def m_units_of (K : PySem.W.Frag) (U : Vol) (k_FIRST_HIGH : D) (k_FIRST_LOW : D) (k_MOST_UNIT : D) : MS :=
  sSeq (sOwn 1 (fLst (aNil))) (sSeq (sFor (iTpl (eVar 0)) (gNm 2) (sIf (eTest (eOp gtD (eVar 2) (eC k_MOST_UNIT))) (sSeq (sAsg (eOp subD (eOp subD (eVar 2) (eC k_MOST_UNIT)) (eC (.int 1))) (gNm 3)) (sExt 1 (eF (fLst (aCons (eOp add2D (eC k_FIRST_HIGH) (eOp divD (eVar 3) (eC (.int 1024)))) (aCons (eOp add2D (eC k_FIRST_LOW) (eOp modD (eVar 3) (eC (.int 1024)))) (aNil))))))) (sDrop (eAppM 1 (eVar 2))))) (sFrz 1 (sRet (eVar 1))))
def f_points_of : DF0 := fun _ n ds k _ => ∃ z : Str, ds = [.str z] ∧ z.length ≤ 1000000 ∧ k (.tup (z.cps.toList.map fun c => .int (c : Nat))) n
def f_pair_point : DF0 := fun _ n ds k _ => ∃ a b : Int, ds = [.int a, .int b] ∧ k (.int (65536 + 1024 * (a - 55296) + b - 56320)) n
def hiI (i : Int) : Bool := decide (55296 ≤ i) && decide (i ≤ 56319)
def loI (i : Int) : Bool := decide (56320 ≤ i) && decide (i ≤ 57343)
/-- a unit more -/
def joinI (is : List Int) (u : Int) : List Int := match is.getLast? with
  | some a => if (hiI a && loI u) = true then is.dropLast ++ [65536 + 1024 * (a - 55296) + u - 56320] else is ++ [u]
  | none => [u]
theorem atI_last {α : Type} {xs : List α} (h : xs ≠ []) : atI xs (-1) = xs.getLast? := by
  have hl : 0 < xs.length := List.length_pos_iff.2 h
  unfold atI ixN
  rw [if_neg (by omega), if_pos (by omega), List.getLast?_eq_getElem?]
  show xs[((-1 : Int) + (xs.length : Nat)).toNat]? = _
  congr 1
  omega
theorem cut_init {α : Type} (xs : List α) : cutL xs none (some (-1)) = xs.dropLast := by
  unfold cutL
  rw [HT.sIx_none, List.drop_zero, Nat.sub_zero, List.dropLast_eq_take]
  show xs.take ((-1 : Int) + (xs.length : Nat)).toNat = _
  congr 1
  omega
def f_joined_points : DF0 := fun _ n ds k _ => ∃ (is : List Int) (u : Int), ds = [.tup (is.map D.int), .int u] ∧ is.length ≤ 1000000 ∧ k (.tup ((joinI is u).map D.int)) n
section
variable {K : PySem.W.Frag} {U : Vol} {n : Nat} {ds : List D} {k : D → Nat → Prop} {x : Xn → Nat → Prop}
theorem points_of_ok (h : f_points_of U n ds k x) : m_points_of K U (MKf k x) (startD ["text", "sign"] ds n) := by
  obtain ⟨z, rfl, hl, h⟩ := h
  simp [m_points_of, startD, List.replicate]
  have hz : z.cps.toList.length ≤ 1000000 := by simpa [Str.length] using hl
  refine lcM_ind (fun rest acc ρ => ∃ done cs : List Nat, z.cps.toList = done ++ cs ∧ rest = cs.map (fun c => .str ⟨#[c]⟩) ∧ acc = done.map (fun c => D.int (c : Nat)) ∧ ∃ s1, ρ = ⟨[.dat (.str z), s1], n⟩) (fun acc ρ => ?_) (fun R d rest acc ρ hR hI => ?_) _ _ _ ⟨[], z.cps.toList, rfl, rfl, rfl, _, rfl⟩
  · rintro ⟨done, cs, hd, hc, rfl, s1, rfl⟩
    have : cs = [] := by simpa using hc.symm
    subst this
    rw [List.append_nil] at hd
    simp
    rw [← hd]
    simpa using h
  · obtain ⟨done, cs, hd, hc, rfl, s1, rfl⟩ := hI
    match cs, hc with
    | c :: cs, hc =>
      simp only [List.map_cons, List.cons.injEq] at hc
      obtain ⟨rfl, rfl⟩ := hc
      have hlen := congrArg List.length hd
      simp at hlen hz
      simp [ordD]
      refine ⟨by omega, hR _ _ ⟨done ++ [c], cs, by rw [hd]; simp, rfl, by simp, _, rfl⟩⟩
theorem pair_point_ok (h : f_pair_point U n ds k x) : m_pair_point K U (.int 55296) (.int 56320) (.int 65535) (MKf k x) (startD ["high", "low"] ds n) := by
  obtain ⟨a, b, rfl, h⟩ := h
  simp [m_pair_point, startD]
  exact ⟨mulL (by decide), h⟩
theorem joined_ok (h : f_joined_points U n ds k x) : m_joined_points K U f_is_high f_is_low f_pair_point (MKf k x) (startD ["points", "unit"] ds n) := by
  obtain ⟨is, u, rfl, hl, h⟩ := h
  have hpl : plnL 40 (is.map D.int) = true := plnL_iff.2 fun d hd => by
    obtain ⟨i, _, rfl⟩ := List.mem_map.1 hd
    rfl
  cases he : is.getLast? with
  | none =>
    have : is = [] := by simpa using he
    subst this
    simp [m_joined_points, startD, plnL, eqvL]
    simpa [joinI] using h
  | some a =>
    have hne : is ≠ [] := fun z => by subst z; simp at he
    have hev : eqvL (is.map D.int) [] = false := by
      cases is with
      | nil => exact (hne rfl).elim
      | cons b r => rfl
    have hat : atI (is.map D.int) (-1) = some (.int a) := by
      rw [atI_last (by simpa using hne), List.getLast?_map, he]; rfl
    simp [m_joined_points, startD, hev, hpl, hat, plnL]
    refine ⟨a, rfl, ?_⟩
    unfold joinI at h
    rw [he] at h
    dsimp only at h
    by_cases q : hiI a = true
    · have q' : (decide (55296 ≤ a) && decide (a ≤ 56319)) = true := q
      simp [q']
      refine ⟨u, rfl, ?_⟩
      by_cases r : loI u = true
      · have r' : (decide (56320 ≤ u) && decide (u ≤ 57343)) = true := r
        rw [q, r] at h
        simp [r', hat]
        refine ⟨a, u, rfl, ?_⟩
        simp [cut_init]
        simp at h
        exact ⟨by omega, h⟩
      · have r' : (decide (56320 ≤ u) && decide (u ≤ 57343)) = false := by simpa [loI] using r
        rw [q, Bool.not_eq_true _ |>.mp r] at h
        simp at h
        simp [r']
        exact ⟨by omega, h⟩
    · have q' : (decide (55296 ≤ a) && decide (a ≤ 56319)) = false := by simpa [hiI] using q
      rw [Bool.not_eq_true _ |>.mp q] at h
      simp at h
      simp [q']
      exact ⟨by omega, h⟩
end
end DL

set_option maxRecDepth 100000
set_option maxHeartbeats 1000000
/-! DP3: the points that units denote. -/
namespace DL
open PySem PySem.Spec PyProof.Rows L2
theorem joinI_length (is : List Int) (u : Int) : (joinI is u).length ≤ is.length + 1 := by
  rw [joinI.eq_def]
  cases he : is.getLast? with
  | none => simp
  | some a =>
    dsimp only
    by_cases q : (hiI a && loI u) = true
    · rw [if_pos q]; simp
    · rw [if_neg q]; simp
/-- the points that units denote -/
def pointsI (us : List Int) : List Int := us.foldl joinI []
theorem joinF_length (us is : List Int) : (us.foldl joinI is).length ≤ is.length + us.length := by
  induction us generalizing is with
  | nil => simp
  | cons u r ih =>
    have := ih (joinI is u)
    have := joinI_length is u
    simp only [List.foldl_cons, List.length_cons]
    omega
def f_points_written : DF0 := fun _ n ds k _ => ∃ us : List Int, ds = [.lst (us.map D.int)] ∧ us.length ≤ 1000000 ∧ k (.tup ((pointsI us).map D.int)) n
section
variable {K : PySem.W.Frag} {U : Vol} {n : Nat} {ds : List D} {k : D → Nat → Prop} {x : Xn → Nat → Prop}
theorem points_written_ok (h : f_points_written U n ds k x) : m_points_written K U f_joined_points (MKf k x) (startD ["units", "found", "unit"] ds n) := by
  obtain ⟨us, rfl, hl, h⟩ := h
  simp [m_points_written, startD, List.replicate]
  refine forM_ind (fun rest ρ => ∃ done cs : List Int, us = done ++ cs ∧ rest = cs.map D.int ∧ ∃ s1, ρ = ⟨[.dat (.lst (us.map D.int)), .dat (.tup ((pointsI done).map D.int)), s1], n⟩) (fun ρ => ?_) (fun R d rest ρ hR hI => ?_) _ _ ⟨[], us, rfl, rfl, _, rfl⟩
  · rintro ⟨done, cs, hd, hc, s1, rfl⟩
    have : cs = [] := by simpa using hc.symm
    subst this
    rw [List.append_nil] at hd
    subst hd
    simpa using h
  · obtain ⟨done, cs, hd, hc, s1, rfl⟩ := hI
    match cs, hc with
    | c :: cs, hc =>
      simp only [List.map_cons, List.cons.injEq] at hc
      obtain ⟨rfl, rfl⟩ := hc
      have hlen := congrArg List.length hd
      simp at hlen
      have := joinF_length done []
      simp at this
      simp
      refine ⟨pointsI done, c, rfl, by unfold pointsI; omega, ?_⟩
      simp
      refine hR _ ⟨done ++ [c], cs, by rw [hd]; simp, rfl, .dat (.int c), ?_⟩
      simp [pointsI]
end
end DL

set_option maxRecDepth 100000
set_option maxHeartbeats 1000000
/-! DP4: the units of points. -/
namespace DL
open PySem PySem.Spec PyProof.Rows L2
/-- the units of a point -/
def unitsI (p : Int) : List Int := if 65535 < p then [55296 + (p - 65535 - 1) / 1024, 56320 + (p - 65535 - 1) % 1024] else [p]
def f_units_of : DF0 := fun _ n ds k _ => ∃ ps : List Int, ds = [.tup (ps.map D.int)] ∧ ps.length ≤ 500000 ∧ k (.lst ((ps.flatMap unitsI).map D.int)) n
theorem unitsI_length (p : Int) : (unitsI p).length ≤ 2 := by unfold unitsI; split <;> simp
theorem unitsF_length (ps : List Int) : (ps.flatMap unitsI).length ≤ 2 * ps.length := by
  induction ps with
  | nil => simp
  | cons p r ih =>
    have := unitsI_length p
    simp only [List.flatMap_cons, List.length_append, List.length_cons]
    omega
section
variable {K : PySem.W.Frag} {U : Vol} {n : Nat} {ds : List D} {k : D → Nat → Prop} {x : Xn → Nat → Prop}
theorem units_of_ok (h : f_units_of U n ds k x) : m_units_of K U (.int 55296) (.int 56320) (.int 65535) (MKf k x) (startD ["points", "found", "point", "rest"] ds n) := by
  obtain ⟨ps, rfl, hl, h⟩ := h
  simp [m_units_of, startD, List.replicate]
  refine forM_ind (fun rest ρ => ∃ done cs : List Int, ps = done ++ cs ∧ rest = cs.map D.int ∧ ∃ s1 s2, ρ = ⟨[.dat (.tup (ps.map D.int)), .own (.lst ((done.flatMap unitsI).map D.int)), s1, s2], n⟩) (fun ρ => ?_) (fun R d rest ρ hR hI => ?_) _ _ ⟨[], ps, rfl, rfl, _, _, rfl⟩
  · rintro ⟨done, cs, hd, hc, s1, s2, rfl⟩
    have : cs = [] := by simpa using hc.symm
    subst this
    rw [List.append_nil] at hd
    subst hd
    simpa using h
  · obtain ⟨done, cs, hd, hc, s1, s2, rfl⟩ := hI
    match cs, hc with
    | c :: cs, hc =>
      simp only [List.map_cons, List.cons.injEq] at hc
      obtain ⟨rfl, rfl⟩ := hc
      have hlen := congrArg List.length hd
      simp at hlen
      have hu := unitsF_length done
      rw [List.length_flatMap] at hu
      by_cases q : 65535 < c
      · simp [q]
        refine ⟨divOk (by decide) (by decide), by omega, hR _ ⟨done ++ [c], cs, by rw [hd]; simp, rfl, .dat (.int c), .dat (.int (c - 65535 - 1)), ?_⟩⟩
        simp [unitsI, q]
      · simp [q]
        refine ⟨by omega, hR _ ⟨done ++ [c], cs, by rw [hd]; simp, rfl, .dat (.int c), s2, ?_⟩⟩
        simp [unitsI, q]
end
end DL

set_option maxRecDepth 100000
set_option maxHeartbeats 1000000
/-! DP5: units written. -/
namespace DL
open PySem PySem.Spec PyProof.Rows L2
def m_hex_text (K : PySem.W.Frag) (U : Vol) (k_HEX : D) : MS :=
  sRet (eJoin (eC (.str "")) (eF (fLc (iTpl (eTup (aCons (eC (.int 4096)) (aCons (eC (.int 256)) (aCons (eC (.int 16)) (aCons (eC (.int 1)) (aNil))))))) (gNm 1) (tYesM) (eOp ixD (eC k_HEX) (eOp modD (eOp divD (eVar 0) (eVar 1)) (eC (.int 16)))) [1])))
section
variable {K : PySem.W.Frag} {U : Vol} {n : Nat} {ds : List D} {k : D → Nat → Prop} {x : Xn → Nat → Prop}
def hexL : List Nat := (Str.ofString "0123456789abcdef").cps.toList
def hexC (d : Int) : Nat := (atI hexL (d % 16)).getD 0
theorem hexC_at (d : Int) : atI (Str.ofString "0123456789abcdef").cps.toList (d % 16) = some (hexC d) := by
  have h0 : 0 ≤ d % 16 := by omega
  have h1 : d % 16 < 16 := by omega
  unfold hexC
  show atI hexL (d % 16) = _
  generalize d % 16 = i at h0 h1
  obtain ⟨m, rfl⟩ : ∃ m : Nat, i = m := ⟨i.toNat, by omega⟩
  have : m < 16 := by omega
  have q : ∀ m : _root_.Fin 16, atI hexL ((m : Nat) : Int) = some ((atI hexL ((m : Nat) : Int)).getD 0) := by decide
  exact q ⟨m, this⟩
/-- the four digits of a unit -/
def hexS (u : Int) : Str := ⟨#[hexC (u / 4096), hexC (u / 256), hexC (u / 16), hexC u]⟩
def f_hex_text : DF0 := fun _ n ds k _ => ∃ u : Int, ds = [.int u] ∧ k (.str (hexS u)) n
theorem hex_text_ok (h : f_hex_text U n ds k x) : m_hex_text K U (.str "0123456789abcdef") (MKf k x) (startD ["unit", "place"] ds n) := by
  obtain ⟨u, rfl, h⟩ := h
  simp [m_hex_text, startD, List.replicate, lcM]
  have hl : (Str.ofString "0123456789abcdef").length ≤ 16777216 := by decide
  simp only [hexC_at, hl, true_and]
  refine ⟨divOk (by decide) (by decide), divOk (by decide) (by decide), divOk (by decide) (by decide), divOk (by decide) (by decide), ?_⟩
  simp [joinD, strsL]
  refine ⟨?_, ?_⟩
  · show 1 + (1 + (1 + 1)) + 4 * 0 ≤ 16777216
    decide
  · have e : Txt.join (Str.ofString "") [⟨#[hexC (u / 4096)]⟩, ⟨#[hexC (u / 256)]⟩, ⟨#[hexC (u / 16)]⟩, ⟨#[hexC u]⟩] = hexS u := rfl
    rw [e]
    exact h
end
end DL

set_option maxRecDepth 100000
set_option maxHeartbeats 1000000
/-! DP6: hexadecimal digits read. -/
namespace DL
open PySem PySem.Spec PyProof.Rows L2
def m_hex_number (K : PySem.W.Frag) (U : Vol) (tb_HEX_DIGITS : List (Str × D)) : MS :=
  sSeq (sAsg (eC (.int 0)) (gNm 1)) (sSeq (sFor (iTxt (eVar 0)) (gNm 2) (sAsg (eOp add2D (eOp mul2D (eVar 1) (eC (.int 16))) (eKdIx tb_HEX_DIGITS (eVar 2))) (gNm 1))) (sRet (eVar 1)))
def m_are_hex (K : PySem.W.Frag) (U : Vol) (tb_HEX_DIGITS : List (Str × D)) : MS :=
  sRet (eCa allD (aCons (eF (fLc (iTxt (eVar 0)) (gNm 1) (tYesM) (eKdIn tb_HEX_DIGITS (eVar 1)) [1])) (aNil)))
/-- what a table says of a sign, as a number -/
def tabI (tab : List (Str × D)) (c : Nat) : Option Int := match tab.lookup ⟨#[c]⟩ with
  | some (.int i) => some i
  | _ => none
/-- the number that digits write -/
def hexN (tab : List (Str × D)) (cs : List Nat) : Int := cs.foldl (fun i c => i * 16 + (tabI tab c).getD 0) 0
def f_hex_number (tab : List (Str × D)) : DF0 := fun _ n ds k _ => ∃ z : Str, ds = [.str z] ∧ z.length ≤ 1000000 ∧ (∀ c ∈ z.cps.toList, (tabI tab c).isSome = true) ∧ k (.int (hexN tab z.cps.toList)) n
theorem blL_of {α : Type} (g : α → Bool) (xs : List α) : blL (xs.map fun c => D.bl (g c)) = some (xs.map g) := by
  induction xs with
  | nil => rfl
  | cons a r ih => simp [blL, ih]
def f_are_hex (tab : List (Str × D)) : DF0 := fun _ n ds k _ => ∃ z : Str, ds = [.str z] ∧ z.length ≤ 1000000 ∧ k (.bl (z.cps.toList.all fun c => (tab.lookup ⟨#[c]⟩).isSome)) n
section
variable {K : PySem.W.Frag} {U : Vol} {n : Nat} {ds : List D} {k : D → Nat → Prop} {x : Xn → Nat → Prop} {tab : List (Str × D)}
theorem hex_number_ok (h : f_hex_number tab U n ds k x) : m_hex_number K U tab (MKf k x) (startD ["digits", "found", "digit"] ds n) := by
  obtain ⟨z, rfl, hl, ht, h⟩ := h
  simp [m_hex_number, startD, List.replicate]
  refine forM_ind (fun rest ρ => ∃ done cs : List Nat, z.cps.toList = done ++ cs ∧ rest = cs.map (fun c => .str ⟨#[c]⟩) ∧ ∃ s1, ρ = ⟨[.dat (.str z), .dat (.int (hexN tab done)), s1], n⟩) (fun ρ => ?_) (fun R d rest ρ hR hI => ?_) _ _ ⟨[], z.cps.toList, rfl, rfl, _, rfl⟩
  · rintro ⟨done, cs, hd, hc, s1, rfl⟩
    have : cs = [] := by simpa using hc.symm
    subst this
    rw [List.append_nil] at hd
    rw [hd] at h
    simpa using h
  · obtain ⟨done, cs, hd, hc, s1, rfl⟩ := hI
    match cs, hc with
    | c :: cs, hc =>
      simp only [List.map_cons, List.cons.injEq] at hc
      obtain ⟨rfl, rfl⟩ := hc
      have hs := ht c (by rw [hd]; simp)
      obtain ⟨i, hi⟩ := Option.isSome_iff_exists.1 hs
      have hk : tab.lookup ⟨#[c]⟩ = some (.int i) := by
        unfold tabI at hi
        split at hi
        · rename_i j hj; rw [hj]; cases hi; rfl
        · cases hi
      simp [hk]
      refine ⟨mulR (by decide), hR _ ⟨done ++ [c], cs, by rw [hd]; simp, rfl, .dat (.str ⟨#[c]⟩), ?_⟩⟩
      simp [hexN, hi]
theorem are_hex_ok (h : f_are_hex tab U n ds k x) : m_are_hex K U tab (MKf k x) (startD ["digits", "digit"] ds n) := by
  obtain ⟨z, rfl, hl, h⟩ := h
  simp [m_are_hex, startD, List.replicate]
  have hz : z.cps.toList.length ≤ 1000000 := by simpa [Str.length] using hl
  refine lcM_ind (fun rest acc ρ => ∃ done cs : List Nat, z.cps.toList = done ++ cs ∧ rest = cs.map (fun c => .str ⟨#[c]⟩) ∧ acc = done.map (fun c => D.bl (tab.lookup ⟨#[c]⟩).isSome) ∧ ∃ s1, ρ = ⟨[.dat (.str z), s1], n⟩) (fun acc ρ => ?_) (fun R d rest acc ρ hR hI => ?_) _ _ _ ⟨[], z.cps.toList, rfl, rfl, rfl, _, rfl⟩
  · rintro ⟨done, cs, hd, hc, rfl, s1, rfl⟩
    have : cs = [] := by simpa using hc.symm
    subst this
    rw [List.append_nil] at hd
    simp
    rw [hd] at h
    have hb := blL_of (fun c => (tab.lookup ⟨#[c]⟩).isSome) done
    unfold allD
    simp only [hb]
    rw [List.all_map]
    exact h
  · obtain ⟨done, cs, hd, hc, rfl, s1, rfl⟩ := hI
    match cs, hc with
    | c :: cs, hc =>
      simp only [List.map_cons, List.cons.injEq] at hc
      obtain ⟨rfl, rfl⟩ := hc
      have hlen := congrArg List.length hd
      simp at hlen hz
      simp
      refine ⟨by omega, hR _ _ ⟨done ++ [c], cs, by rw [hd]; simp, rfl, by simp, _, rfl⟩⟩
end
end DL

set_option maxRecDepth 100000
set_option maxHeartbeats 1000000
/-! DP7: a unit written. -/
namespace DL
open PySem PySem.Spec PyProof.Rows L2
def m_unit_text (K : PySem.W.Frag) (U : Vol) (k_BACKSLASH : D) (k_PERCENT : D) (k_PLAIN : D) (k_QUOTE : D) (k_SPACE : D) (k_TILDE : D) (tb_ESCAPES : List (Str × D)) (f_hex_text : DF0) : MS :=
  sSeq (sIf (eTest (eOp inD (eVar 0) (eTup (aCons (eKdIx tb_ESCAPES (eC k_QUOTE)) (aCons (eKdIx tb_ESCAPES (eC k_BACKSLASH)) (aNil)))))) (sRet (eOp add2D (eC k_BACKSLASH) (eIf (eTest (eOp eqD (eVar 0) (eKdIx tb_ESCAPES (eC k_QUOTE)))) (eC k_QUOTE) (eC k_BACKSLASH)))) (sNext)) (sSeq (sIf (tOrM (eTest (eOp ltD (eVar 0) (eC k_SPACE))) (tOrM (eTest (eOp gtD (eVar 0) (eC k_TILDE))) (eTest (eOp eqD (eVar 0) (eC k_PERCENT))))) (sRet (eOp add2D (eOp add2D (eC k_BACKSLASH) (eC (.str "u"))) (eCall (f_hex_text U) (aCons (eVar 0) (aNil))))) (sNext)) (sSeq (sAsg (eF (fLc (iTpl (eTup (aCons (eKdIx tb_ESCAPES (eC k_QUOTE)) (aCons (eC k_PERCENT) (aCons (eKdIx tb_ESCAPES (eC k_BACKSLASH)) (aNil)))))) (gNm 2) (eTest (eOp ltD (eVar 2) (eVar 0))) (eVar 2) [2])) (gNm 1)) (sRet (eOp ixD (eC k_PLAIN) (eOp subD (eOp subD (eVar 0) (eC k_SPACE)) (eCa lenD (aCons (eVar 1) (aNil))))))))
def escT : List (Str × D) := [("\"", .int 34), ("\\", .int 92), ("/", .int 47), ("b", .int 8), ("f", .int 12), ("n", .int 10), ("r", .int 13), ("t", .int 9)]
def plainS : Str := " !#$&'()*+,-./0123456789:;<=>?@ABCDEFGHIJKLMNOPQRSTUVWXYZ[]^_`abcdefghijklmnopqrstuvwxyz{|}~"
def barN (u : Int) : Int := (if 34 < u then 1 else 0) + (if 37 < u then 1 else 0) + (if 92 < u then 1 else 0)
theorem plain_at (u : Int) (h1 : 32 ≤ u) (h2 : u ≤ 126) (h3 : u ≠ 34) (h4 : u ≠ 37) (h5 : u ≠ 92) : atI plainS.cps.toList (u - 32 - barN u) = some u.toNat := by
  obtain ⟨m, rfl⟩ : ∃ m : Nat, u = m := ⟨u.toNat, by omega⟩
  have : m < 127 := by omega
  have q : ∀ m : _root_.Fin 127, (32 : Int) ≤ (m : Nat) → ((m : Nat) : Int) ≠ 34 → ((m : Nat) : Int) ≠ 37 → ((m : Nat) : Int) ≠ 92 → atI plainS.cps.toList (((m : Nat) : Int) - 32 - barN (m : Nat)) = some (m : Nat) := by decide
  exact q ⟨m, this⟩ h1 h3 h4 h5
/-- how a unit is written -/
def unitT (u : Int) : Str := if u = 34 then "\\\"" else if u = 92 then "\\\\" else if u < 32 ∨ 126 < u ∨ u = 37 then ⟨#[92, 117, hexC (u / 4096), hexC (u / 256), hexC (u / 16), hexC u]⟩ else ⟨#[u.toNat]⟩
def f_unit_text : DF0 := fun _ n ds k _ => ∃ u : Int, ds = [.int u] ∧ k (.str (unitT u)) n
section
variable {K : PySem.W.Frag} {U : Vol} {n : Nat} {ds : List D} {k : D → Nat → Prop} {x : Xn → Nat → Prop}
theorem unit_text_ok (h : f_unit_text U n ds k x) : m_unit_text K U (.str "\\") (.int 37) (.str plainS) (.str "\"") (.int 32) (.int 126) escT f_hex_text (MKf k x) (startD ["unit", "barred", "code"] ds n) := by
  obtain ⟨u, rfl, h⟩ := h
  have e1 : escT.lookup (Str.ofString "\"") = some (D.int 34) := rfl
  have e2 : escT.lookup (Str.ofString "\\") = some (D.int 92) := rfl
  simp [m_unit_text, startD, List.replicate, e1, e2]
  have hx : (Str.ofString "\\").length + (Str.ofString "u").length ≤ 16777216 := by decide
  have hq : (Str.ofString "\\").length + (Str.ofString "\"").length ≤ 16777216 := by decide
  have hb : (Str.ofString "\\").length + (Str.ofString "\\").length ≤ 16777216 := by decide
  have hp : plainS.length ≤ 16777216 := by decide
  have hin : ∀ kk : D → Prop, inD (.int u) (.tup [.int 34, .int 92]) kk = kk (.bl (decide (u = 34) || decide (u = 92))) := fun kk => by
    simp [inD, scl, sclL, inV]
    have e : ∀ i : Int, eqV (.int i) (.int u) = decide (u = i) := fun i => by
      have e1 : eqV (.int i) (.int u) = (i == u) := rfl
      rw [e1]
      by_cases q : u = i
      · simp [q]
      · simp [q]
        exact fun w => q w.symm
    rw [e, e]
  rw [hin]
  by_cases a : u = 34
  · subst a
    exact ⟨hq, h⟩
  by_cases b : u = 92
  · subst b
    exact ⟨hb, h⟩
  have hc : (decide (u = 34) || decide (u = 92)) = false := by simp [a, b]
  rw [hc]
  by_cases c : u < 32 ∨ 126 < u ∨ u = 37
  · have hu : unitT u = ⟨#[92, 117, hexC (u / 4096), hexC (u / 256), hexC (u / 16), hexC u]⟩ := by
      unfold unitT; rw [if_neg a, if_neg b, if_pos c]
    rw [hu] at h
    have fin : f_hex_text U n [D.int u] (fun d n => add2D (D.str (Str.ofString "\\" ++ Str.ofString "u")) d fun d => k d n) fun xn n => x xn n := ⟨u, rfl, by
      simp
      refine ⟨?_, h⟩
      show 2 + 4 ≤ 16777216
      decide⟩
    simp [hx, fin]
    intro c1 c2 c3
    exact absurd c (by omega)
  · have hat := plain_at u (by omega) (by omega) a (by omega) b
    have hu : unitT u = ⟨#[u.toNat]⟩ := by
      unfold unitT; rw [if_neg a, if_neg b, if_neg c]
    rw [hu] at h
    have c1 : ¬ u < 32 := by omega
    have c2 : ¬ 126 < u := by omega
    have c3 : ¬ u = 37 := by omega
    unfold barN at hat
    simp [c1, c2, c3, lcM]
    by_cases d1 : 34 < u <;> by_cases d2 : 37 < u <;> by_cases d3 : 92 < u <;> simp [d1, d2, d3] at hat ⊢ <;> exact ⟨hp, by rw [hat]; exact h⟩
end
end DL

set_option maxRecDepth 100000
set_option maxHeartbeats 1000000
/-! DP8: units written. -/
namespace DL
open PySem PySem.Spec PyProof.Rows L2
def m_written_units (K : PySem.W.Frag) (U : Vol) (f_unit_text : DF0) : MS :=
  sRet (eJoin (eC (.str "")) (eF (fLc (iLst (eVar 0)) (gNm 1) (tYesM) (eCall (f_unit_text U) (aCons (eVar 1) (aNil))) [1])))
theorem unitT_length (u : Int) : (unitT u).length ≤ 6 := by
  unfold unitT
  split
  · decide
  · split
    · decide
    · split
      · show 6 ≤ 6
        decide
      · show 1 ≤ 6
        decide
theorem strsL_of {α : Type} (g : α → Str) (xs : List α) : strsL (xs.map fun c => D.str (g c)) = some (xs.map g) := by
  induction xs with
  | nil => rfl
  | cons a r ih => simp [strsL, ih]
/-- how units are written -/
def unitsT (us : List Int) : Str := Txt.join (Str.ofString "") (us.map unitT)
theorem unitT_sum (us : List Int) : ((us.map unitT).map (·.length)).sum ≤ 6 * us.length := by
  induction us with
  | nil => simp
  | cons u r ih =>
    have := unitT_length u
    simp only [List.map_cons, List.sum_cons, List.length_cons]
    omega
def f_written_units : DF0 := fun _ n ds k _ => ∃ us : List Int, ds = [.lst (us.map D.int)] ∧ us.length ≤ 1000000 ∧ k (.str (unitsT us)) n
section
variable {K : PySem.W.Frag} {U : Vol} {n : Nat} {ds : List D} {k : D → Nat → Prop} {x : Xn → Nat → Prop}
theorem written_units_ok (h : f_written_units U n ds k x) : m_written_units K U f_unit_text (MKf k x) (startD ["units", "unit"] ds n) := by
  obtain ⟨us, rfl, hl, h⟩ := h
  simp [m_written_units, startD, List.replicate]
  refine lcM_ind (fun rest acc ρ => ∃ done cs : List Int, us = done ++ cs ∧ rest = cs.map D.int ∧ acc = done.map (fun c => D.str (unitT c)) ∧ ∃ s1, ρ = ⟨[.dat (.lst (us.map D.int)), s1], n⟩) (fun acc ρ => ?_) (fun R d rest acc ρ hR hI => ?_) _ _ _ ⟨[], us, rfl, rfl, rfl, _, rfl⟩
  · rintro ⟨done, cs, hd, hc, rfl, s1, rfl⟩
    have : cs = [] := by simpa using hc.symm
    subst this
    rw [List.append_nil] at hd
    subst hd
    unfold joinD
    have hs := strsL_of unitT us
    simp only [hs]
    have := unitT_sum us
    refine ⟨?_, h⟩
    have e0 : (Str.ofString "").length = 0 := rfl
    rw [e0]
    omega
  · obtain ⟨done, cs, hd, hc, rfl, s1, rfl⟩ := hI
    match cs, hc with
    | c :: cs, hc =>
      simp only [List.map_cons, List.cons.injEq] at hc
      obtain ⟨rfl, rfl⟩ := hc
      have hlen := congrArg List.length hd
      simp at hlen
      simp
      refine ⟨c, rfl, by omega, hR _ _ ⟨done ++ [c], cs, by rw [hd]; simp, rfl, by simp, _, rfl⟩⟩
end
end DL

set_option maxRecDepth 100000
set_option maxHeartbeats 1000000
/-! DP9: texts as lists of numbers. -/
namespace DL
open PySem PySem.Spec PyProof.Rows L2
def S (l : List Nat) : Str := ⟨l.toArray⟩
@[simp] theorem S_cps (l : List Nat) : (S l).cps.toList = l := by simp [S]
@[simp] theorem S_len (l : List Nat) : (S l).length = l.length := by simp [S, Str.length]
@[simp] theorem S_app (a b : List Nat) : S a ++ S b = S (a ++ b) := by
  show (⟨(S a).cps ++ (S b).cps⟩ : Str) = _
  simp [S]
theorem S_eta (z : Str) : S z.cps.toList = z := by cases z; simp [S]
theorem S_ex (z : Str) : ∃ l, z = S l := ⟨_, (S_eta z).symm⟩
@[simp] theorem S_inj {a b : List Nat} : (S a = S b) = (a = b) := by
  apply propext
  constructor
  · intro h
    have := congrArg (fun z : Str => z.cps.toList) h
    simpa using this
  · intro h; rw [h]
theorem S_one (c : Nat) : (⟨#[c]⟩ : Str) = S [c] := rfl
/-- a part of a list by nonnegative places -/
def seg {α : Type} (l : List α) (i j : Nat) : List α := (l.drop i).take (j - i)
theorem cutL_nn {α : Type} (l : List α) (i j : Nat) : cutL l (some (i : Int)) (some (j : Int)) = seg l i j := by
  unfold cutL seg
  rw [HT.sIx_nat, HT.sIx_nat]
  by_cases h1 : l.length ≤ i
  · rw [List.drop_eq_nil_of_le h1, List.drop_eq_nil_of_le (by omega)]; simp
  · by_cases h2 : l.length ≤ j
    · rw [Nat.min_eq_right h2, Nat.min_eq_left (by omega), List.take_of_length_le (by simp), List.take_of_length_le (by simp; omega)]
    · rw [Nat.min_eq_left (by omega), Nat.min_eq_left (by omega)]
theorem cutL_nn' {α : Type} (l : List α) {a b : Int} (ha : 0 ≤ a) (hb : 0 ≤ b) : cutL l (some a) (some b) = seg l a.toNat b.toNat := by
  have := cutL_nn l a.toNat b.toNat
  rw [show ((a.toNat : Nat) : Int) = a by omega, show ((b.toNat : Nat) : Int) = b by omega] at this
  exact this
theorem cutL_from {α : Type} (l : List α) {a : Int} (ha : 0 ≤ a) : cutL l (some a) none = l.drop a.toNat := by
  obtain ⟨i, rfl⟩ : ∃ i : Nat, a = i := ⟨a.toNat, by omega⟩
  unfold cutL
  rw [HT.sIx_none, HT.sIx_nat]
  by_cases h1 : l.length ≤ i
  · rw [Nat.min_eq_right h1, List.drop_length]; simp; omega
  · rw [Nat.min_eq_left (by omega), List.take_of_length_le (by simp)]; simp
theorem cutL_to {α : Type} (l : List α) {b : Int} (hb : 0 ≤ b) : cutL l none (some b) = l.take b.toNat := by
  obtain ⟨i, rfl⟩ : ∃ i : Nat, b = i := ⟨b.toNat, by omega⟩
  unfold cutL
  rw [HT.sIx_none, HT.sIx_nat, List.drop_zero, Nat.sub_zero]
  by_cases h1 : l.length ≤ i
  · rw [Nat.min_eq_right h1, List.take_of_length_le (by simp), List.take_of_length_le (by simpa using h1)]
  · rw [Nat.min_eq_left (by omega)]; simp
theorem cutS_S (l : List Nat) (lo hi : Option Int) : cutS (S l) lo hi = S (cutL l lo hi) := by
  unfold cutS cutL
  rw [S_cps, S_len]
  rfl
theorem atI_lt {α : Type} {l : List α} {i : Nat} (h : i < l.length) : atI l (i : Int) = some l[i] := by
  rw [atI_nat (by omega) (by omega)]
  simp [h]
theorem seg_one {α : Type} (l : List α) (i : Nat) : seg l i (i + 1) = l[i]?.toList := by
  unfold seg
  rw [show i + 1 - i = 1 by omega]
  cases h : l.drop i with
  | nil =>
    rw [List.getElem?_eq_none (by simpa using h)]; rfl
  | cons a r =>
    have : l[i]? = some a := by
      have := congrArg List.head? h
      simpa [List.head?_drop] using this
    rw [this]; rfl
/-! ### tables of signs -/
def hexT : List (Str × D) := [("0", .int 0), ("1", .int 1), ("2", .int 2), ("3", .int 3), ("4", .int 4), ("5", .int 5), ("6", .int 6), ("7", .int 7), ("8", .int 8), ("9", .int 9), ("a", .int 10), ("b", .int 11), ("c", .int 12), ("d", .int 13), ("e", .int 14), ("f", .int 15), ("A", .int 10), ("B", .int 11), ("C", .int 12), ("D", .int 13), ("E", .int 14), ("F", .int 15)]
/-- a hexadecimal digit's number -/
def hexV (c : Nat) : Option Int := if 48 ≤ c ∧ c ≤ 57 then some ((c : Int) - 48) else if 97 ≤ c ∧ c ≤ 102 then some ((c : Int) - 87) else if 65 ≤ c ∧ c ≤ 70 then some ((c : Int) - 55) else none
/-- what a short escape writes -/
def escV (c : Nat) : Option Int := if c = 34 then some 34 else if c = 92 then some 92 else if c = 47 then some 47 else if c = 98 then some 8 else if c = 102 then some 12 else if c = 110 then some 10 else if c = 114 then some 13 else if c = 116 then some 9 else none
/-- a sign that stands for itself in a literal -/
def isPlain (c : Nat) : Bool := decide (32 ≤ c) && decide (c ≤ 126) && decide (c ≠ 34) && decide (c ≠ 37) && decide (c ≠ 92)
theorem mem_plain (c : Nat) : decide (c ∈ plainS.cps.toList) = isPlain c := by
  by_cases h : c < 127
  · have q : ∀ m : _root_.Fin 127, decide ((m : Nat) ∈ plainS.cps.toList) = isPlain (m : Nat) := by decide +kernel
    exact q ⟨c, h⟩
  · have h1 : isPlain c = false := by unfold isPlain; simp; omega
    have h2 : ∀ m ∈ plainS.cps.toList, m < 127 := by decide +kernel
    rw [h1]
    simp
    exact fun m => h (h2 c (by simpa using m))
def lk1 (t : List (Nat × Int)) (c : Nat) : Option Int := t.lookup c
theorem lookup_S1 : ∀ (t : List (Nat × Int)) (c : Nat), (t.map fun p => (S [p.1], D.int p.2)).lookup (S [c]) = (t.lookup c).map D.int
  | [], c => rfl
  | (a, i) :: t, c => by
    simp only [List.map_cons, List.lookup_cons]
    by_cases h : c = a
    · subst h; simp
    · have h1 : (S [c] == S [a]) = false := by
        rw [beq_eq_false_iff_ne]; simp [h]
      have h2 : (c == a) = false := by simp [h]
      rw [h1, h2]
      exact lookup_S1 t c
theorem lookup_no : ∀ (t : List (Nat × Int)) (l : List Nat), (∀ c, l ≠ [c]) → (t.map fun p => (S [p.1], D.int p.2)).lookup (S l) = none
  | [], l, _ => rfl
  | (a, i) :: t, l, h => by
    simp only [List.map_cons, List.lookup_cons]
    have h1 : (S l == S [a]) = false := by
      rw [beq_eq_false_iff_ne]; simp [h a]
    rw [h1]
    exact lookup_no t l h
def hexP : List (Nat × Int) := [(48, 0), (49, 1), (50, 2), (51, 3), (52, 4), (53, 5), (54, 6), (55, 7), (56, 8), (57, 9), (97, 10), (98, 11), (99, 12), (100, 13), (101, 14), (102, 15), (65, 10), (66, 11), (67, 12), (68, 13), (69, 14), (70, 15)]
def escP : List (Nat × Int) := [(34, 34), (92, 92), (47, 47), (98, 8), (102, 12), (110, 10), (114, 13), (116, 9)]
theorem hexT_eq : hexT = hexP.map fun p => (S [p.1], D.int p.2) := rfl
theorem escT_eq : escT = escP.map fun p => (S [p.1], D.int p.2) := rfl
theorem hexP_eq (c : Nat) : hexP.lookup c = hexV c := by
  by_cases h : c < 127
  · have q : ∀ m : _root_.Fin 127, hexP.lookup (m : Nat) = hexV (m : Nat) := by decide +kernel
    exact q ⟨c, h⟩
  · have h1 : hexV c = none := by unfold hexV; rw [if_neg (by omega), if_neg (by omega), if_neg (by omega)]
    rw [h1, List.lookup_eq_none_iff]
    intro p hp
    have : ∀ p ∈ hexP, p.1 < 127 := by decide
    have := this p hp
    simp; omega
theorem escP_eq (c : Nat) : escP.lookup c = escV c := by
  by_cases h : c < 127
  · have q : ∀ m : _root_.Fin 127, escP.lookup (m : Nat) = escV (m : Nat) := by decide +kernel
    exact q ⟨c, h⟩
  · have h1 : escV c = none := by unfold escV; repeat rw [if_neg (by omega)]
    rw [h1, List.lookup_eq_none_iff]
    intro p hp
    have : ∀ p ∈ escP, p.1 < 127 := by decide
    have := this p hp
    simp; omega
theorem hexT_at (c : Nat) : hexT.lookup (S [c]) = (hexV c).map D.int := by rw [hexT_eq, lookup_S1, hexP_eq]
theorem escT_at (c : Nat) : escT.lookup (S [c]) = (escV c).map D.int := by rw [escT_eq, lookup_S1, escP_eq]
theorem escT_no (l : List Nat) (h : ∀ c, l ≠ [c]) : escT.lookup (S l) = none := by rw [escT_eq, lookup_no _ _ h]
theorem tabI_hex (c : Nat) : tabI hexT c = hexV c := by
  unfold tabI
  rw [S_one, hexT_at]
  cases hexV c <;> rfl
theorem isHex_eq (c : Nat) : (hexT.lookup ⟨#[c]⟩).isSome = (hexV c).isSome := by
  rw [S_one, hexT_at]; cases hexV c <;> rfl
/-! ### a literal read -/
/-- the number that four digits write -/
def hexNum (cs : List Nat) : Int := cs.foldl (fun i c => i * 16 + (hexV c).getD 0) 0
theorem hexN_eq (cs : List Nat) : hexN hexT cs = hexNum cs := by
  unfold hexN hexNum
  congr 1
  funext i c
  rw [tabI_hex]
/-- the unit at the head, and how many signs write it -/
def unitAt : List Nat → Option (Int × Nat)
  | [] => none
  | c :: t => if isPlain c = true then some ((c : Nat), 1) else if c ≠ 92 then none else match t with
    | [] => none
    | e :: r => match escV e with
      | some i => some (i, 2)
      | none => if e = 117 ∧ (r.take 4).length = 4 ∧ (r.take 4).all (fun c => (hexV c).isSome) = true then some (hexNum (r.take 4), 6) else none
theorem unitAt_pos {l : List Nat} {u : Int} {n : Nat} (h : unitAt l = some (u, n)) : 0 < n ∧ n ≤ l.length := by
  unfold unitAt at h
  split at h
  · cases h
  · split at h
    · cases h; simp
    · split at h
      · cases h
      · split at h
        · cases h
        · split at h
          · cases h; simp
          · split at h
            · rename_i hh
              cases h
              have := hh.2.1
              simp at this ⊢; omega
            · cases h
/-- an escape that is not whole -/
def halfEsc (l : List Nat) : Bool := decide (l = [92]) || (decide (l.take 2 = [92, 117]) && decide (l.length < 6) && (l.drop 2).all fun c => (hexV c).isSome)
/-- the units that the inside of a literal writes, and what is left of a half escape -/
def readU (l : List Nat) : Option (List Int × List Nat) := match l with
  | [] => some ([], [])
  | c :: t => match h : unitAt (c :: t) with
    | none => if halfEsc (c :: t) = true then some ([], c :: t) else none
    | some (u, n) => (readU ((c :: t).drop n)).map fun p => (u :: p.1, p.2)
termination_by l.length
decreasing_by
  have := unitAt_pos h
  simp only [List.length_drop, List.length_cons] at this ⊢
  omega
theorem readU_nil : readU [] = some ([], []) := by rw [readU]
theorem readU_none {l : List Nat} (h0 : l ≠ []) (h : unitAt l = none) : readU l = if halfEsc l = true then some ([], l) else none := by
  cases l with
  | nil => exact (h0 rfl).elim
  | cons c t =>
    rw [readU]
    split
    · rfl
    · rename_i u n q; rw [h] at q; cases q
theorem readU_some {l : List Nat} {u : Int} {n : Nat} (h : unitAt l = some (u, n)) : readU l = (readU (l.drop n)).map fun p => (u :: p.1, p.2) := by
  cases l with
  | nil => simp [unitAt] at h
  | cons c t =>
    rw [readU]
    split
    · rename_i q; rw [h] at q; cases q
    · rename_i u' n' q; rw [h] at q; cases q; rfl
end DL

set_option maxRecDepth 100000
set_option maxHeartbeats 1000000
/-! DP10: literals written and read. -/
namespace DL
open PySem PySem.Spec PyProof.Rows L2
def m_literal (K : PySem.W.Frag) (U : Vol) (k_QUOTE : D) (f_need_points : DF0) (f_units_of : DF0) (f_written_units : DF0) : MS :=
  sSeq (sDrop (eCall (f_need_points U) (aCons (eVar 0) (aNil)))) (sRet (eOp add2D (eOp add2D (eC k_QUOTE) (eCall (f_written_units U) (aCons (eCall (f_units_of U) (aCons (eVar 0) (aNil))) (aNil)))) (eC k_QUOTE)))
def m_unit_at (K : PySem.W.Frag) (U : Vol) (k_BACKSLASH : D) (k_PLAIN : D) (tb_ESCAPES : List (Str × D)) (f_are_hex : DF0) (f_hex_number : DF0) : MS :=
  sSeq (sPar3 2 3 4 (aCons (eOp ixD (eVar 0) (eVar 1)) (aCons (eSl (eVar 0) (oSome (eOp add2D (eVar 1) (eC (.int 1)))) (oSome (eOp add2D (eVar 1) (eC (.int 2))))) (aCons (eSl (eVar 0) (oSome (eOp add2D (eVar 1) (eC (.int 2)))) (oSome (eOp add2D (eVar 1) (eC (.int 6))))) (aNil))))) (sSeq (sIf (eTest (eOp inD (eVar 2) (eC k_PLAIN))) (sRet (eTup (aCons (eCa ordD (aCons (eVar 2) (aNil))) (aCons (eOp add2D (eVar 1) (eC (.int 1))) (aNil))))) (sNext)) (sSeq (sIf (eTest (eOp neD (eVar 2) (eC k_BACKSLASH))) (sRet (eC .non)) (sNext)) (sSeq (sIf (eTest (eKdIn tb_ESCAPES (eVar 3))) (sRet (eTup (aCons (eKdIx tb_ESCAPES (eVar 3)) (aCons (eOp add2D (eVar 1) (eC (.int 2))) (aNil))))) (sNext)) (sSeq (sIf (tAndM (eTest (eOp eqD (eVar 3) (eC (.str "u")))) (tAndM (eTest (eOp eqD (eCa lenD (aCons (eVar 4) (aNil))) (eC (.int 4)))) (eTru (eCall (f_are_hex U) (aCons (eVar 4) (aNil)))))) (sRet (eTup (aCons (eCall (f_hex_number U) (aCons (eVar 4) (aNil))) (aCons (eOp add2D (eVar 1) (eC (.int 6))) (aNil))))) (sNext)) (sRet (eC .non))))))
def m_is_half_escape (K : PySem.W.Frag) (U : Vol) (k_BACKSLASH : D) (f_are_hex : DF0) : MS :=
  sRet (eOrV (eOp eqD (eVar 0) (eC k_BACKSLASH)) (eAndV (eOp eqD (eSl (eVar 0) (oNo) (oSome (eC (.int 2)))) (eOp add2D (eC k_BACKSLASH) (eC (.str "u")))) (eAndV (eOp ltD (eCa lenD (aCons (eVar 0) (aNil))) (eC (.int 6))) (eCall (f_are_hex U) (aCons (eSl (eVar 0) (oSome (eC (.int 2))) (oNo)) (aNil))))))
def m_read_units (K : PySem.W.Frag) (U : Vol) (f_is_half_escape : DF0) (f_unit_at : DF0) : MS :=
  sSeq (sParOwn 1 2 (fLst (aNil)) (eC (.int 0))) (sSeq (sWhile (eTest (eOp ltD (eVar 2) (eCa lenD (aCons (eVar 0) (aNil))))) (sSeq (sAsg (eCall (f_unit_at U) (aCons (eVar 0) (aCons (eVar 2) (aNil)))) (gNm 3)) (sSeq (sIf (eTest (eOp isD (eVar 3) (eC .non))) (sFrz 1 (sRet (eIf (eTru (eCall (f_is_half_escape U) (aCons (eSl (eVar 0) (oSome (eVar 2)) (oNo)) (aNil)))) (eTup (aCons (eVar 1) (aCons (eSl (eVar 0) (oSome (eVar 2)) (oNo)) (aNil)))) (eC .non)))) (sNext)) (sSeq (sDrop (eAppM 1 (eOp ixD (eVar 3) (eC (.int 0))))) (sAsg (eOp ixD (eVar 3) (eC (.int 1))) (gNm 2)))))) (sFrz 1 (sRet (eTup (aCons (eVar 1) (aCons (eC (.str "")) (aNil)))))))
def m_read_literal (K : PySem.W.Frag) (U : Vol) (c_InvalidToken : Addr) (k_QUOTE : D) (f_points_written : DF0) (f_read_units : DF0) : MS :=
  sSeq (sAsg (eC .non) (gNm 1)) (sSeq (sIf (tAndM (eTru (eCa (isxD K) (aCons (eVar 0) (aCons (eC (.ty "str")) (aNil))))) (tAndM (eTest (eOp gtD (eCa lenD (aCons (eVar 0) (aNil))) (eC (.int 1)))) (tAndM (eTest (eOp eqD (eOp ixD (eVar 0) (eC (.int 0))) (eC k_QUOTE))) (eTest (eOp eqD (eOp ixD (eVar 0) (eUn negD (eC (.int 1)))) (eC k_QUOTE)))))) (sAsg (eCall (f_read_units U) (aCons (eSl (eVar 0) (oSome (eC (.int 1))) (oSome (eUn negD (eC (.int 1))))) (aNil))) (gNm 1)) (sNext)) (sSeq (sIf (tOrM (eTest (eOp isD (eVar 1) (eC .non))) (eTest (eOp neD (eOp ixD (eVar 1) (eC (.int 1))) (eC (.str ""))))) (sRaise c_InvalidToken) (sNext)) (sRet (eCall (f_points_written U) (aCons (eOp ixD (eVar 1) (eC (.int 0))) (aNil))))))
theorem cut_tl {α : Type} {l t : List α} {c : α} {i : Nat} (h : l.drop i = c :: t) (a b : Nat) : cutL l (some ((i : Int) + (a + 1 : Nat))) (some ((i : Int) + (b + 1 : Nat))) = (t.drop a).take (b - a) := by
  rw [cutL_nn' _ (by omega) (by omega)]
  unfold seg
  rw [show ((i : Int) + (a + 1 : Nat)).toNat = i + (1 + a) by omega, show ((i : Int) + (b + 1 : Nat)).toNat - (i + (1 + a)) = b - a by omega]
  rw [← List.drop_drop, h, ← List.drop_drop]
  rfl
theorem drop_at {α : Type} {l t : List α} {c : α} {i : Nat} (h : l.drop i = c :: t) : atI l (i : Int) = some c := by
  have hi : i < l.length := by
    have := congrArg List.length h
    simp at this; omega
  rw [atI_lt hi]
  have := congrArg List.head? h
  simpa [List.head?_drop, hi] using this
def unitD (i : Nat) : Option (Int × Nat) → D
  | none => .non
  | some (u, m) => .tup [.int u, .int ((i : Int) + (m : Nat))]
def f_unit_at : DF0 := fun _ n ds k _ => ∃ (l : List Nat) (i : Nat), ds = [.str (S l), .int (i : Nat)] ∧ i < l.length ∧ l.length ≤ 1000000 ∧ k (unitD i (unitAt (l.drop i))) n
def f_is_half_escape : DF0 := fun _ n ds k _ => ∃ (l : List Nat), ds = [.str (S l)] ∧ l.length ≤ 1000000 ∧ k (.bl (halfEsc l)) n
section
variable {K : PySem.W.Frag} {U : Vol} {n : Nat} {ds : List D} {k : D → Nat → Prop} {x : Xn → Nat → Prop}
theorem unit_at_ok (h : f_unit_at U n ds k x) : m_unit_at K U (.str "\\") (.str plainS) escT (f_are_hex hexT) (f_hex_number hexT) (MKf k x) (startD ["text", "at", "sign", "kind", "digits"] ds n) := by
  obtain ⟨l, i, rfl, hi, hl, h⟩ := h
  obtain ⟨c, t, hd⟩ : ∃ c t, l.drop i = c :: t := by
    cases q : l.drop i with
    | nil => simp at q; omega
    | cons c t => exact ⟨c, t, rfl⟩
  have h1 : cutL l (some ((i : Int) + 1)) (some ((i : Int) + 2)) = t.take 1 := by simpa using cut_tl hd 0 1
  have h2 : cutL l (some ((i : Int) + 2)) (some ((i : Int) + 6)) = (t.drop 1).take 4 := by simpa using cut_tl hd 1 5
  rw [hd] at h
  have hsz : l.length ≤ 16777216 := by omega
  have hp : (c ∈ plainS.cps) = (isPlain c = true) := by
    rw [← mem_plain]; simp
  simp [m_unit_at, startD, List.replicate, drop_at hd, cutS_S, h1, h2, hsz, inD, ordD, S_one]
  cases e1 : isPlain c with
  | true =>
    rw [e1] at hp
    simp [hp]
    simpa [unitAt, e1, unitD] using h
  | false =>
    rw [e1] at hp
    simp [hp]
    have e92 : (Str.ofString "\\") = S [92] := rfl
    by_cases e2 : c = 92
    · subst e2
      simp [e92]
      cases t with
      | nil =>
        rw [show List.take 1 ([] : List Nat) = [] from rfl, escT_no [] (by simp)]
        have eu : (Str.ofString "u") = S [117] := rfl
        simp [eu]
        simpa [unitAt, e1, unitD] using h
      | cons e r =>
        rw [show List.take 1 (e :: r) = [e] from rfl, escT_at]
        cases e3 : escV e with
        | some j => simpa [unitAt, e1, unitD, e3] using h
        | none =>
          have eu : (Str.ofString "u") = S [117] := rfl
          simp [eu]
          by_cases e4 : e = 117
          · subst e4
            simp
            by_cases e5 : 4 ≤ r.length
            · have e6 : (r.take 4).length = 4 := by simp; omega
              refine ⟨by omega, ?_⟩
              rw [if_pos (by omega)]
              refine ⟨_, rfl, by simp; omega, ?_⟩
              simp only [S_cps]
              have e7 : ((r.take 4).all fun c => (hexT.lookup ⟨#[c]⟩).isSome) = (r.take 4).all fun c => (hexV c).isSome := by
                congr 1; funext c; exact isHex_eq c
              rw [e7]
              cases e8 : (r.take 4).all fun c => (hexV c).isSome with
              | true =>
                simp
                refine ⟨_, rfl, by simp; omega, ?_, ?_⟩
                · intro c hc
                  rw [S_cps] at hc
                  rw [tabI_hex]
                  exact List.all_eq_true.1 e8 c hc
                · rw [S_cps, hexN_eq]
                  simpa [unitAt, e1, unitD, e3, e6, e8] using h
              | false =>
                simp
                simpa [unitAt, e1, unitD, e3, e8] using h
            · refine ⟨by omega, ?_⟩
              rw [if_neg (by omega)]
              have e9 : ¬ min 4 r.length = 4 := by omega
              simpa [unitAt, e1, unitD, e3, e9] using h
          · simp [e4]
            simpa [unitAt, e1, unitD, e3, e4] using h
    · simp [e92, e2]
      simpa [unitAt, e1, unitD, e2] using h
theorem half_ok (h : f_is_half_escape U n ds k x) : m_is_half_escape K U (.str "\\") (f_are_hex hexT) (MKf k x) (startD ["text"] ds n) := by
  obtain ⟨l, rfl, hl, h⟩ := h
  have e92 : (Str.ofString "\\") = S [92] := rfl
  have eu : (Str.ofString "u") = S [117] := rfl
  have hsz : l.length ≤ 16777216 := by omega
  simp [m_is_half_escape, startD, List.replicate, e92, eu, hsz, cutS_S]
  rw [cutL_to _ (by decide)]
  by_cases e1 : l = [92]
  · simp [e1]
    simpa [halfEsc, e1] using h
  · simp [e1]
    by_cases e2 : l.take 2 = [92, 117]
    · simp [e2]
      by_cases e3 : l.length < 6
      · have e3' : (l.length : Int) < 6 := by omega
        simp [e3']
        rw [cutL_from _ (by decide)]
        refine ⟨_, rfl, by simp; omega, ?_⟩
        simp only [S_cps]
        have e7 : ((l.drop 2).all fun c => (hexT.lookup ⟨#[c]⟩).isSome) = (l.drop 2).all fun c => (hexV c).isSome := by
          congr 1; funext c; exact isHex_eq c
        show k (.bl ((l.drop 2).all _)) n
        rw [e7]
        simpa [halfEsc, e1, e2, e3] using h
      · have e3' : ¬ (l.length : Int) < 6 := by omega
        simp [e3']
        simpa [halfEsc, e1, e2, e3] using h
    · simp [e2]
      simpa [halfEsc, e1, e2] using h
end
end DL

set_option maxRecDepth 100000
set_option maxHeartbeats 1000000
/-! DP11: literals written and read. -/
namespace DL
open PySem PySem.Spec PyProof.Rows L2
def resD : Option (List Int × List Nat) → D
  | none => .non
  | some (us, r) => .tup [.lst (us.map D.int), .str (S r)]
theorem readU_length : ∀ (m : Nat) (l : List Nat), l.length ≤ m → ∀ us r, readU l = some (us, r) → us.length + r.length ≤ l.length
  | _, [], _, us, r, h => by rw [readU_nil] at h; cases h; simp
  | 0, c :: t, hm, _, _, _ => by simp at hm
  | m + 1, c :: t, hm, us, r, h => by
    cases q : unitAt (c :: t) with
    | none =>
      rw [readU_none (by simp) q] at h
      split at h
      · cases h; simp
      · cases h
    | some p =>
      obtain ⟨u, j⟩ := p
      rw [readU_some q] at h
      have hp := unitAt_pos q
      cases e : readU ((c :: t).drop j) with
      | none => rw [e] at h; cases h
      | some p =>
        obtain ⟨us', r'⟩ := p
        rw [e] at h
        simp only [Option.map_some, Option.some.injEq, Prod.mk.injEq] at h
        obtain ⟨rfl, rfl⟩ := h
        have := readU_length m _ (by simp only [List.length_drop]; omega) us' r' e
        simp only [List.length_drop, List.length_cons] at this ⊢
        simp only [List.length_cons] at hp
        omega
def f_read_units : DF0 := fun _ n ds k _ => ∃ (l : List Nat), ds = [.str (S l)] ∧ l.length ≤ 1000000 ∧ k (resD (readU l)) n
/-- the points of a literal -/
def readLit : D → Option (List Int)
  | .str z => if 1 < z.cps.toList.length ∧ z.cps.toList.head? = some 34 ∧ z.cps.toList.getLast? = some 34 then match readU (z.cps.toList.drop 1).dropLast with
      | some (us, []) => some (pointsI us)
      | _ => none
    else none
  | _ => none
def f_read_literal (c : Addr) : DF0 := fun _ n ds k x => ∃ d, ds = [d] ∧ pln 40 d = true ∧ (∀ z, d = .str z → z.length ≤ 1000000) ∧ (∀ ps, readLit d = some ps → k (.tup (ps.map D.int)) n) ∧ (readLit d = none → x (.own c) n)
def f_literal (c : Addr) : DF0 := fun _ n ds k x => ∃ d, ds = [d] ∧ pln 40 d = true ∧ (∀ ds, d = .tup ds → ds.length ≤ 100000) ∧ (∀ ps : List Int, d = .tup (ps.map D.int) → isPts d = true → k (.str (S [34] ++ unitsT (ps.flatMap unitsI) ++ S [34])) n) ∧ (isPts d = false → x (.own c) n)
theorem cut_inner {α : Type} (l : List α) (h : 1 < l.length) : cutL l (some 1) (some (-1)) = (l.drop 1).dropLast := by
  unfold cutL
  rw [show HT.sIx l.length 0 (some 1) = min 1 l.length from HT.sIx_nat _ _ 1, show HT.sIx l.length l.length (some (-1)) = ((-1 : Int) + (l.length : Nat)).toNat from rfl, List.dropLast_eq_take]
  rw [Nat.min_eq_left (by omega)]
  congr 1
  simp only [List.length_drop]
  omega
theorem isPts_int {d : D} (h : isPts d = true) : ∃ ps : List Int, d = .tup (ps.map D.int) := by
  cases d with
  | tup ds =>
    simp only [isPts, Bool.and_eq_true, List.all_eq_true] at h
    obtain ⟨h, _⟩ := h
    have : ∀ ds : List D, (∀ d ∈ ds, isPt d = true) → ∃ ps : List Int, ds = ps.map D.int := by
      intro ds
      induction ds with
      | nil => intro _; exact ⟨[], rfl⟩
      | cons d r ih =>
        intro h
        obtain ⟨i, rfl⟩ := isPt_int (h d (by simp))
        obtain ⟨ps, rfl⟩ := ih fun d hd => h d (by simp [hd])
        exact ⟨i :: ps, rfl⟩
    obtain ⟨ps, rfl⟩ := this ds h
    exact ⟨ps, rfl⟩
  | _ => simp [isPts] at h
theorem unitsT_S (us : List Int) : unitsT us = S (us.flatMap fun u => (unitT u).cps.toList) := by
  show Builtin.Str.glued (Str.ofString "") (us.map unitT) = _
  rw [StrLaws.glued_eq_join]
  induction us with
  | nil => rfl
  | cons u r ih =>
    cases r with
    | nil =>
      show unitT u = _
      simp [S_eta]
    | cons v r =>
      show unitT u ++ Str.ofString "" ++ Str.join (Str.ofString "") ((v :: r).map unitT) = _
      rw [ih, show Str.ofString "" = S [] from rfl, List.flatMap_cons (x := u)]
      generalize List.flatMap _ (v :: r) = w
      obtain ⟨l, hl⟩ := S_ex (unitT u)
      rw [hl]
      simp
theorem unitsT_length (us : List Int) : (unitsT us).length ≤ 6 * us.length := by
  rw [unitsT_S, S_len]
  induction us with
  | nil => simp
  | cons u r ih =>
    have := unitT_length u
    simp only [Str.length] at this
    simp only [List.flatMap_cons, List.length_append, List.length_cons, Array.length_toList]
    omega
section
variable {K : PySem.W.Frag} {U : Vol} {n : Nat} {ds : List D} {k : D → Nat → Prop} {x : Xn → Nat → Prop}
theorem read_units_ok (h : f_read_units U n ds k x) : m_read_units K U f_is_half_escape f_unit_at (MKf k x) (startD ["text", "units", "at", "found"] ds n) := by
  obtain ⟨l, rfl, hl, h⟩ := h
  have hsz : l.length ≤ 16777216 := by omega
  simp [m_read_units, startD, List.replicate]
  refine ⟨fun m ρ => ∃ (done : List Int) (i : Nat) (s3 : Slot), i ≤ l.length ∧ done.length ≤ i ∧ m = l.length - i ∧ readU l = (readU (l.drop i)).map (fun p => (done ++ p.1, p.2)) ∧ ρ = ⟨[.dat (.str (S l)), .own (.lst (done.map D.int)), .dat (.int (i : Nat)), s3], n⟩, ⟨_, [], 0, _, by omega, by simp, rfl, ?_, rfl⟩, ?_⟩
  · cases q : readU l with
    | none => simp [q]
    | some p => simp [q]
  · rintro m ρ ⟨done, i, s3, hi, hdl, rfl, hr, rfl⟩
    simp [hsz]
    by_cases e : i < l.length
    · simp [e]
      refine ⟨l, i, rfl, e, hl, ?_⟩
      cases q : unitAt (l.drop i) with
      | none =>
        simp [unitD, cutS_S]
        rw [cutL_from _ (by omega)]
        simp
        have hne : l.drop i ≠ [] := by simp; omega
        refine ⟨_, rfl, by simp; omega, ?_⟩
        rw [hr, readU_none hne q] at h
        cases e2 : halfEsc (l.drop i) with
        | true =>
          simp [hsz, cutS_S]
          rw [e2] at h
          simpa [resD] using h
        | false =>
          rw [e2] at h
          simpa [resD] using h
      | some p =>
        obtain ⟨u, j⟩ := p
        have hp := unitAt_pos q
        simp at hp
        simp [unitD]
        refine ⟨by omega, l.length - (i + j), by omega, done ++ [u], i + j, by omega, by simp; omega, rfl, ?_, ?_⟩
        rw [hr, readU_some q, List.drop_drop]
        · cases readU (l.drop (i + j)) <;> simp
        · simp
    · simp [e]
      have : l.drop i = [] := by simp; omega
      rw [this, readU_nil] at hr
      rw [hr] at h
      have e0 : (Str.ofString "") = S [] := rfl
      simpa [resD, e0] using h
theorem read_literal_ok {c : Addr} (h : f_read_literal c U n ds k x) : m_read_literal K U c (.str "\"") f_points_written f_read_units (MKf k x) (startD ["text", "found"] ds n) := by
  obtain ⟨d, rfl, hp, hz, h1, h2⟩ := h
  have nostr : (∀ z, d ≠ .str z) → tyN d ≠ none → m_read_literal K U c (.str "\"") f_points_written f_read_units (MKf k x) (startD ["text", "found"] [d] n) := by
    intro hd _
    cases d <;> simp [pln] at hp <;> simp [m_read_literal, startD, List.replicate, tyN, tys6, kit6] <;> first | exact h2 rfl | exact (hd _ rfl).elim
  cases d with
  | str z =>
    obtain ⟨l, rfl⟩ := S_ex z
    have hl : l.length ≤ 1000000 := by simpa using hz _ rfl
    have hsz : l.length ≤ 16777216 := by omega
    have eq : (Str.ofString "\"") = S [34] := rfl
    simp [m_read_literal, startD, List.replicate, tyN, tys6, kit6, hsz, S_one, eq]
    simp only [readLit, S_cps] at h1 h2
    by_cases e1 : 1 < l.length
    · have e1' : (1 : Int) < (l.length : Nat) := by omega
      simp [e1']
      obtain ⟨a, t, rfl⟩ : ∃ a t, l = a :: t := by
        cases l with
        | nil => simp at e1
        | cons a t => exact ⟨a, t, rfl⟩
      simp
      by_cases e2 : a = 34
      · simp [e2]
        rw [atI_last (by simp)]
        obtain ⟨b, hb⟩ : ∃ b, (34 :: t).getLast? = some b := ⟨_, List.getLast?_eq_getLast (by simp)⟩
        subst e2
        rw [hb] at h1 h2 ⊢
        simp
        by_cases e3 : b = 34
        · subst e3
          simp [cutS_S]
          rw [cut_inner _ e1]
          refine ⟨_, rfl, by simp; simp at hl; omega, ?_⟩
          rw [if_pos ⟨e1, rfl, rfl⟩] at h1 h2
          cases e4 : readU (((34 :: t).drop 1).dropLast) with
          | none =>
            rw [e4] at h2
            simpa [resD] using h2 rfl
          | some p =>
            obtain ⟨us, r⟩ := p
            have hrl := readU_length _ _ (Nat.le_refl _) us r e4
            rw [e4] at h1 h2
            have e0 : (Str.ofString "") = S [] := rfl
            simp [resD, e0]
            cases r with
            | nil =>
              simp
              simp at hrl hl
              exact ⟨us, rfl, by omega, h1 _ rfl⟩
            | cons b r =>
              simp
              exact h2 rfl
        · simp [e3]
          refine h2 ?_
          rw [if_neg]
          rintro ⟨_, _, z⟩
          exact e3 (by simpa using z)
      · simp [e2]
        refine h2 ?_
        rw [if_neg]
        rintro ⟨_, z, _⟩
        exact e2 (by simpa using z)
    · have e1' : ¬ (1 : Int) < (l.length : Nat) := by omega
      simp [e1']
      refine h2 ?_
      rw [if_neg]
      rintro ⟨z, _⟩
      exact e1 z
  | non => exact nostr (by simp) (by simp [tyN])
  | bl b => exact nostr (by simp) (by simp [tyN])
  | int b => exact nostr (by simp) (by simp [tyN])
  | tup b => exact nostr (by simp) (by simp [tyN])
  | lst b => exact nostr (by simp) (by simp [tyN])
  | _ => simp [pln] at hp
theorem literal_ok {c : Addr} (h : f_literal c U n ds k x) : m_literal K U (.str "\"") (f_need_points c) f_units_of f_written_units (MKf k x) (startD ["points"] ds n) := by
  obtain ⟨d, rfl, hp, hlen, h1, h2⟩ := h
  simp [m_literal, startD, List.replicate]
  refine ⟨d, rfl, hp, fun ds e => Nat.le_trans (hlen ds e) (by decide), fun e => ?_, fun e => by simpa using h2 e⟩
  obtain ⟨ps, rfl⟩ := isPts_int e
  have hl := hlen _ rfl
  simp at hl
  refine ⟨ps, rfl, by omega, ?_⟩
  have hu := unitsF_length ps
  simp
  refine ⟨_, rfl, by omega, ?_⟩
  have eq : (Str.ofString "\"") = S [34] := rfl
  simp [eq]
  have hlen2 := unitsT_length (ps.flatMap unitsI)
  rw [Str.length_append]
  simp
  refine ⟨by omega, by omega, h1 ps rfl e⟩
end
end DL

set_option maxRecDepth 100000
set_option maxHeartbeats 1000000
/-! DQ1: the laws' own defs: near values, points drawn. -/
namespace DL
open PySem PySem.Spec PyProof.Rows L2
def m_law_near (K : PySem.W.Frag) (U : Vol) (f_law_draw : DF0) (f_law_near : DF0) (f_law_pick : DF0) : MS :=
  sSeq (sIf (tAndM (eTru (eCa (isxD K) (aCons (eVar 1) (aCons (eC (.ty "tuple")) (aNil))))) (tAndM (eTest (eOp neD (eVar 1) (eTup (aNil)))) (eTest (eOp gtD (eCall (f_law_draw U) (aCons (eVar 0) (aCons (eC (.int 5)) (aNil)))) (eC (.int 0)))))) (sSeq (sAsg (eCall (f_law_draw U) (aCons (eVar 0) (aCons (eCa lenD (aCons (eVar 1) (aNil))) (aNil)))) (gNm 2)) (sRet (eOp add2D (eOp add2D (eSl (eVar 1) (oNo) (oSome (eVar 2))) (eTup (aCons (eCall (f_law_near U) (aCons (eVar 0) (aCons (eOp ixD (eVar 1) (eVar 2)) (aNil)))) (aNil)))) (eSl (eVar 1) (oSome (eOp add2D (eVar 2) (eC (.int 1)))) (oNo))))) (sNext)) (sSeq (sIf (eTru (eCa (isxD K) (aCons (eVar 1) (aCons (eC (.ty "int")) (aNil))))) (sRet (eCall (f_law_pick U) (aCons (eVar 0) (aCons (eF (fLst (aCons (eOp add2D (eVar 1) (eC (.int 1))) (aCons (eOp subD (eVar 1) (eC (.int 1))) (aCons (eOp subD (eC (.int 0)) (eVar 1)) (aCons (eC (.bl true)) (aCons (eC .non) (aCons (eTup (aCons (eVar 1) (aNil))) (aCons (eCa strD (aCons (eVar 1) (aNil))) (aNil)))))))))) (aNil))))) (sNext)) (sSeq (sAsg (eIf (eTru (eCa (isxD K) (aCons (eVar 1) (aCons (eC (.ty "tuple")) (aNil))))) (eCa lstD (aCons (eVar 1) (aNil))) (eF (fLst (aCons (eVar 1) (aNil))))) (gNm 3)) (sRet (eCall (f_law_pick U) (aCons (eVar 0) (aCons (eF (fLst (aCons (eC .non) (aCons (eVar 3) (aCons (eCa tupD (aCons (eOp add2D (eVar 3) (eSl (eVar 3) (oSome (eUn negD (eC (.int 1)))) (oNo))) (aNil))) (aCons (eCa tupD (aCons (eSl (eVar 3) (oNo) (oSome (eUn negD (eC (.int 1))))) (aNil))) (aCons (eCa tupD (aCons (eRev (eVar 3)) (aNil))) (aCons (eCa tupD (aCons (eVar 3) (aNil))) (aCons (eC (.int 0)) (aCons (eTup (aCons (eC (.int 0)) (aCons (eC (.int 1)) (aNil)))) (aNil))))))))))) (aNil)))))))
def m_law_signs (K : PySem.W.Frag) (U : Vol) : MS :=
  sRet (eC (.str "\n !\"#$&'()*+,-./0123456789:;<=>?@ABCDEFGHIJKLMNOP\
    QRSTUVWXYZ[\\]^_`abcdefghijklmnopqrstuvwxyz{|}~"))
def m_law_code (K : PySem.W.Frag) (U : Vol) : MS :=
  sRet (eIf (eTest (eOp eqD (eVar 0) (eC (.str "\n")))) (eC (.int 10)) (eCa ordD (aCons (eVar 0) (aNil))))
def m_law_with_point (K : PySem.W.Frag) (U : Vol) : MS :=
  sSeq (sAsg (eIf (eTest (eOp neD (eVar 0) (eTup (aNil)))) (eOp ixD (eVar 0) (eOp subD (eCa lenD (aCons (eVar 0) (aNil))) (eC (.int 1)))) (eC (.int 0))) (gNm 2)) (sSeq (sIf (tAndM (eTest (eChain leD ltD (eC (.int 55296)) (eVar 2) (eC (.int 56320)))) (eTest (eChain leD ltD (eC (.int 56320)) (eVar 1) (eC (.int 57344))))) (sRet (eOp add2D (eSl (eVar 0) (oNo) (oSome (eOp subD (eCa lenD (aCons (eVar 0) (aNil))) (eC (.int 1))))) (eTup (aCons (eOp subD (eOp add2D (eOp add2D (eC (.int 65536)) (eOp mul2D (eC (.int 1024)) (eOp subD (eVar 2) (eC (.int 55296))))) (eVar 1)) (eC (.int 56320))) (aNil))))) (sNext)) (sRet (eOp add2D (eVar 0) (eTup (aCons (eVar 1) (aNil))))))
def m_law_some_points (K : PySem.W.Frag) (U : Vol) (f_law_draw : DF0) (f_law_pick : DF0) (f_law_with_point : DF0) : MS :=
  sSeq (sAsg (eF (fLst (aCons (eC (.int 97)) (aCons (eC (.int 98)) (aCons (eC (.int 32)) (aCons (eC (.int 34)) (aCons (eC (.int 92)) (aCons (eC (.int 47)) (aCons (eC (.int 10)) (aCons (eC (.int 37)) (aCons (eC (.int 233)) (aCons (eC (.int 65536)) (aCons (eC (.int 1114111)) (aCons (eC (.int 55296)) (aCons (eC (.int 56320)) (aCons (eC (.int 126)) (aCons (eC (.int 127)) (aNil)))))))))))))))))) (gNm 1)) (sSeq (sAsg (eTup (aNil)) (gNm 2)) (sSeq (sFor (iR1 (aCons (eCall (f_law_draw U) (aCons (eVar 0) (aCons (eC (.int 4)) (aNil)))) (aNil))) (gNm 3) (sAsg (eCall (f_law_with_point U) (aCons (eVar 2) (aCons (eCall (f_law_pick U) (aCons (eVar 0) (aCons (eSl (eVar 1) (oNo) (oSome (eCall (f_law_pick U) (aCons (eVar 0) (aCons (eF (fLst (aCons (eC (.int 3)) (aCons (eCa lenD (aCons (eVar 1) (aNil))) (aNil))))) (aNil)))))) (aNil)))) (aNil)))) (gNm 2))) (sRet (eVar 2))))
def m_law_hex (K : PySem.W.Frag) (U : Vol) : MS :=
  sSeq (sAsg (eC (.str "")) (gNm 1)) (sSeq (sFor (iR1 (aCons (eC (.int 4)) (aNil))) (gNm 2) (sSeq (sAsg (eOp add2D (eOp ixD (eC (.str "0123456789abcdef")) (eOp modD (eCa intD (aCons (eVar 0) (aNil))) (eC (.int 16)))) (eVar 1)) (gNm 1)) (sAsg (eOp divD (eVar 0) (eC (.int 16))) (gNm 0)))) (sRet (eVar 1)))
def m_law_escaped (K : PySem.W.Frag) (U : Vol) (f_law_hex : DF0) : MS :=
  sSeq (sIf (eTest (eOp ltD (eVar 0) (eC (.int 65536)))) (sRet (eOp add2D (eC (.str "\\u")) (eCall (f_law_hex U) (aCons (eVar 0) (aNil))))) (sNext)) (sRet (eOp add2D (eOp add2D (eOp add2D (eC (.str "\\u")) (eCall (f_law_hex U) (aCons (eOp add2D (eC (.int 55296)) (eOp divD (eOp subD (eVar 0) (eC (.int 65536))) (eC (.int 1024)))) (aNil)))) (eC (.str "\\u"))) (eCall (f_law_hex U) (aCons (eOp add2D (eC (.int 56320)) (eOp modD (eCa intD (aCons (eOp subD (eVar 0) (eC (.int 65536))) (aNil))) (eC (.int 1024)))) (aNil)))))
mutual
/-- plain data with at most m levels, N items, texts of N signs, whole numbers of B bits -/
def sml (B N : Nat) : Nat → D → Bool
  | _, .non => true
  | _, .bl _ => true
  | _, .int i => decide (i.natAbs.log2 ≤ B)
  | _, .str z => decide (z.length ≤ N)
  | 0, _ => false
  | m + 1, .tup ds => decide (ds.length ≤ N) && smlL B N m ds
  | m + 1, .lst ds => decide (ds.length ≤ N) && smlL B N m ds
  | _, _ => false
def smlL (B N : Nat) : Nat → List D → Bool
  | _, [] => true
  | n, d :: ds => sml B N n d && smlL B N n ds
end
theorem smlL_iff {B N m : Nat} : ∀ {ds : List D}, smlL B N m ds = true ↔ ∀ d ∈ ds, sml B N m d = true
  | [] => by simp [smlL]
  | d :: ds => by simp [smlL, smlL_iff (ds := ds)]
theorem sml_tup {B N m : Nat} {ds : List D} : sml B N (m + 1) (.tup ds) = true ↔ ds.length ≤ N ∧ ∀ d ∈ ds, sml B N m d = true := by
  simp [sml, smlL_iff]
theorem sml_lst {B N m : Nat} {ds : List D} : sml B N (m + 1) (.lst ds) = true ↔ ds.length ≤ N ∧ ∀ d ∈ ds, sml B N m d = true := by
  simp [sml, smlL_iff]
theorem sml_up {B N m B' N' m' : Nat} (h1 : B ≤ B') (h2 : N ≤ N') (h3 : m ≤ m') : ∀ {d : D}, sml B N m d = true → sml B' N' m' d = true := by
  induction m generalizing m' with
  | zero =>
    intro d h
    cases d <;> simp [sml] at h ⊢ <;> omega
  | succ m ih =>
    intro d h
    obtain ⟨m', rfl⟩ : ∃ k, m' = k + 1 := ⟨m' - 1, by omega⟩
    cases d with
    | tup ds =>
      rw [sml_tup] at h ⊢
      exact ⟨by omega, fun d hd => ih (by omega) (h.2 d hd)⟩
    | lst ds =>
      rw [sml_lst] at h ⊢
      exact ⟨by omega, fun d hd => ih (by omega) (h.2 d hd)⟩
    | _ => simp [sml] at h ⊢ <;> omega
theorem sml_pln {B N m : Nat} : ∀ {d : D}, sml B N m d = true → pln m d = true := by
  induction m with
  | zero => intro d h; cases d <;> simp [sml, pln] at h ⊢
  | succ m ih =>
    intro d h
    cases d with
    | tup ds =>
      rw [sml_tup] at h
      simp only [pln]
      exact plnL_iff.2 fun d hd => ih (h.2 d hd)
    | lst ds =>
      rw [sml_lst] at h
      simp only [pln]
      exact plnL_iff.2 fun d hd => ih (h.2 d hd)
    | _ => simp [sml, pln] at h ⊢
theorem pln_le {m m' : Nat} (h : m ≤ m') {d : D} (hp : pln m d = true) : pln m' d = true := by
  induction h with
  | refl => exact hp
  | step _ ih => exact pln_up ih
theorem cutL_mem {α : Type} {l : List α} {lo hi : Option Int} {a : α} (h : a ∈ cutL l lo hi) : a ∈ l := List.mem_of_mem_drop (List.mem_of_mem_take h)
theorem cutL_len {α : Type} (l : List α) (lo hi : Option Int) : (cutL l lo hi).length ≤ l.length := by
  unfold cutL; simp; omega
theorem log2_near {a b : Nat} (h : a ≤ b + 1) : a.log2 ≤ b.log2 + 1 := by
  by_cases h0 : a = 0
  · subst h0; rw [show Nat.log2 0 = 0 from rfl]; omega
  · have h1 : b < 2 ^ (b.log2 + 1) := by
      by_cases q : b = 0
      · subst q; decide
      · exact (Nat.log2_lt q).1 (Nat.lt_succ_self _)
    have h2 : a < 2 ^ (b.log2 + 2) := by
      have : (2 : Nat) ^ (b.log2 + 2) = 2 * 2 ^ (b.log2 + 1) := by rw [Nat.pow_succ]; omega
      have := Nat.one_le_two_pow (n := b.log2 + 1)
      omega
    have := (Nat.log2_lt h0).2 h2
    omega
mutual
/-- no truth in it -/
def nob : D → Bool
  | .bl _ => false
  | .tup ds => nobL ds
  | .lst ds => nobL ds
  | _ => true
def nobL : List D → Bool
  | [] => true
  | d :: ds => nob d && nobL ds
end
theorem nobL_iff : ∀ {ds : List D}, nobL ds = true ↔ ∀ d ∈ ds, nob d = true
  | [] => by simp [nobL]
  | d :: ds => by simp [nobL, nobL_iff (ds := ds)]
/-- a value near a small one -/
def f_near (B N m : Nat) : DF0 := fun U n ds k _ => ∃ st gr ce cs T d, U = stU st gr ce cs T ∧ n + 3 * m + 3 ≤ mostN ∧ ds = [.hdl st, d] ∧ sml B N m d = true ∧ nob d = true ∧ ∀ d' n', sml (B + 1) (N + 1) (m + 1) d' = true → n ≤ n' → n' ≤ n + 3 * m + 3 → k d' n'
def f_nearP (B N : Nat) : Nat → DF0
  | 0 => f_no
  | m + 1 => f_near B N m
section
variable {K : PySem.W.Frag} {U : Vol} {n : Nat} {ds : List D} {k : D → Nat → Prop} {x : Xn → Nat → Prop}
theorem near_ok {B N m : Nat} (hB : B < 1900) (hN : 2000 ≤ N) (hN2 : N ≤ 100000) (hm : m < 39) (h : f_near B N m U n ds k x) : m_law_near K U f_draw (f_nearP B N m) f_pick (MKf k x) (startD ["state", "value", "at", "some"] ds n) := by
  obtain ⟨st, gr, ce, cs, T, d, rfl, hn, rfl, hd, hb, h⟩ := h
  have hp := sml_pln hd
  have last : ∀ (xs : List D), (∀ x ∈ xs, sml (B + 1) (N + 1) m x = true) → xs.length ≤ N → xs.length ≤ 1000000 → ∀ (y : D) n', (y = .non ∨ y = .lst xs ∨ y = .tup (xs ++ cutL xs (some (-1)) none) ∨ y = .tup (cutL xs none (some (-1))) ∨ y = .tup xs.reverse ∨ y = .tup xs ∨ y = .int 0 ∨ y = .tup [.int 0, .int 1]) → n ≤ n' → n' ≤ n + 3 * m + 3 → k y n' := by
    intro xs hx hl hl2 y n' hy h1 h2
    refine h y n' ?_ h1 h2
    rcases hy with rfl | rfl | rfl | rfl | rfl | rfl | rfl | rfl
    · simp [sml]
    · rw [sml_lst]; exact ⟨by omega, hx⟩
    · rw [sml_tup]
      refine ⟨?_, fun d hd => ?_⟩
      · have : (cutL xs (some (-1)) none).length ≤ 1 := by
          unfold cutL
          rw [show HT.sIx xs.length 0 (some (-1)) = ((-1 : Int) + (xs.length : Nat)).toNat from rfl]
          simp only [List.length_take, List.length_drop]
          omega
        simp; omega
      · rcases List.mem_append.1 hd with q | q
        · exact hx d q
        · exact hx d (cutL_mem q)
    · rw [sml_tup]
      exact ⟨by have := cutL_len xs none (some (-1)); omega, fun d hd => hx d (cutL_mem hd)⟩
    · rw [sml_tup]
      exact ⟨by simp; omega, fun d hd => hx d (by simpa using hd)⟩
    · rw [sml_tup]; exact ⟨by omega, hx⟩
    · simp [sml]
    · rw [sml_tup]
      refine ⟨by simp; omega, fun d hd => ?_⟩
      simp at hd
      rcases hd with rfl | rfl
      · simp [sml]
      · simp [sml]; rw [show Nat.log2 1 = 0 from rfl]; omega
  have pk : ∀ (xs : List D) n', (∀ x ∈ xs, sml (B + 1) (N + 1) m x = true) → xs.length ≤ N → n ≤ n' → n' ≤ n + 1 → f_pick (stU st gr ce cs T) n' [.hdl st, .lst [.non, .lst xs, .tup (xs ++ cutL xs (some (-1)) none), .tup (cutL xs none (some (-1))), .tup xs.reverse, .tup xs, .int 0, .tup [.int 0, .int 1]]] k x := by
    intro xs n' hx hl h1 h2
    refine pick_use (by omega) (by simp) (by simp) fun y n2 hy h3 h4 => last xs hx hl (by omega) y n2 (by simpa using hy) (by omega) (by omega)
  have flat : ∀ (e : D), sml B N 0 e = true → (∀ i, e ≠ .int i) → d = e → m_law_near K (stU st gr ce cs T) f_draw (f_nearP B N m) f_pick (MKf k x) (startD ["state", "value", "at", "some"] [.hdl st, d] n) := by
    intro e he hi hde
    subst hde
    have hpk := pk [d] n (fun x hx => by
      simp at hx
      subst hx
      exact sml_up (by omega) (by omega) (by omega) he) (by simp; omega) (by omega) (by omega)
    have c1 := cutL_len [d] (some (-1)) none
    cases d <;> simp [sml] at he <;> simp [m_law_near, startD, List.replicate, tyN, tys6, kit6] <;> first | exact ⟨by simp at c1; omega, by simpa using hpk⟩ | exact (hi _ rfl).elim | simp [nob] at hb
  cases d with
  | non => exact flat _ (by simp [sml]) (by simp) rfl
  | bl b => simp [nob] at hb
  | str z => exact flat _ (by simpa [sml] using hd) (by simp) rfl
  | int i =>
    simp [m_law_near, startD, List.replicate, tyN, tys6, kit6]
    have hl : i.natAbs.log2 ≤ B := by simpa [sml] using hd
    refine ⟨by omega, pick_use (by omega) (by simp) (by simp) fun y n2 hy h3 h4 => h y n2 ?_ (by omega) (by omega)⟩
    have hs := int_text_len_1921 (i := i) (by omega)
    simp at hy
    rcases hy with rfl | rfl | rfl | rfl | rfl | rfl | rfl
    · have := log2_near (a := (i + 1).natAbs) (b := i.natAbs) (by omega)
      simp [sml]; omega
    · have := log2_near (a := (i - 1).natAbs) (b := i.natAbs) (by omega)
      simp [sml]; omega
    · simp [sml]; omega
    · simp [sml]
    · simp [sml]
    · rw [sml_tup]
      refine ⟨by simp, fun d hd => ?_⟩
      simp at hd
      subst hd
      simp [sml]; omega
    · simp [sml]
      unfold sI
      omega
  | tup xs =>
    obtain ⟨m, rfl⟩ : ∃ m', m = m' + 1 := by
      cases m with
      | zero => simp [sml] at hd
      | succ m => exact ⟨m, rfl⟩
    have hp' : plnL 40 xs = true := plnL_iff.2 fun d hd => pln_le (m := m) (by omega) (plnL_iff.1 (by simpa only [pln] using hp) d hd)
    rw [sml_tup] at hd
    have hx1 : ∀ x ∈ xs, sml (B + 1) (N + 1) (m + 1) x = true := fun x hx => sml_up (by omega) (by omega) (by omega) (hd.2 x hx)
    have c1 : (cutL xs (some (-1)) none).length ≤ xs.length := cutL_len _ _ _
    simp [m_law_near, startD, List.replicate, tyN, tys6, kit6]
    refine ⟨hp', rfl, ?_⟩
    cases xs with
    | nil =>
      simp [eqvL]
      exact ⟨by simpa using Nat.le_trans c1 (by simp), pk [] n (by simp) (by simp) (by omega) (by omega)⟩
    | cons a xs =>
      have ev : eqvL (a :: xs) [] = false := rfl
      rw [ev]
      simp only [Bool.false_eq_true, if_false]
      refine draw_use (by omega) (by decide) (by decide) fun v n1 v0 v1 l1 u1 => ?_
      simp
      by_cases e : 0 < v
      · simp only [e, if_true]
        refine draw_use (by omega) (by omega) (by simp at hd; omega) fun w n2 w0 w1 l2 u2 => ?_
        simp
        have w2 : w < ((a :: xs).length : Nat) := by simpa using w1
        rw [atI_nat w0 w2]
        obtain ⟨y, hy⟩ : ∃ y, (a :: xs)[w.toNat]? = some y := ⟨_, List.getElem?_eq_getElem (by omega)⟩
        have hym := List.mem_of_getElem? hy
        rw [hy]
        dsimp only
        refine ⟨st, gr, ce, cs, T, y, rfl, by omega, rfl, hd.2 y hym, nobL_iff.1 (by simpa [nob] using hb) y hym, fun z n3 hz l3 u3 => ?_⟩
        have k1 := cutL_len (a :: xs) none (some w)
        have k2 := cutL_len (a :: xs) (some (w + 1)) none
        simp
        refine ⟨by omega, by omega, h _ n3 ?_ (by omega) (by omega)⟩
        rw [sml_tup]
        refine ⟨?_, fun d hdm => ?_⟩
        · rw [cutL_to _ w0, cutL_from _ (by omega)]
          simp at hd w1 ⊢; omega
        · rcases List.mem_append.1 hdm with q | q
          · exact sml_up (by omega) (by omega) (by omega) (hd.2 d (cutL_mem q))
          · simp at q
            rcases q with rfl | q
            · exact hz
            · exact sml_up (by omega) (by omega) (by omega) (hd.2 d (cutL_mem q))
      · simp only [e, if_false]
        exact ⟨by simp at c1 hd; omega, by simpa using pk _ n1 hx1 hd.1 (by omega) (by omega)⟩
  | lst xs =>
    obtain ⟨m, rfl⟩ : ∃ m', m = m' + 1 := by
      cases m with
      | zero => simp [sml] at hd
      | succ m => exact ⟨m, rfl⟩
    have hx1 : sml (B + 1) (N + 1) (m + 1) (.lst xs) = true := sml_up (by omega) (by omega) (by omega) hd
    simp [m_law_near, startD, List.replicate, tyN, tys6, kit6]
    exact ⟨Nat.le_trans (by have := cutL_len [D.lst xs] (some (-1)) none; simp at this; omega : _ ≤ 2) (by decide), pk [.lst xs] n (by simpa using hx1) (by simp; omega) (by omega) (by omega)⟩
  | _ => cases m <;> simp [sml] at hd
end
end DL

set_option maxRecDepth 100000
set_option maxHeartbeats 1000000
/-! DQ2: the laws' own points and literals. -/
namespace DL
open PySem PySem.Spec PyProof.Rows L2
def m_law_sign_of (K : PySem.W.Frag) (U : Vol) (f_law_code : DF0) (f_law_signs : DF0) : MS :=
  sSeq (sAsg (eF (fLc (iTxt (eCall0 (f_law_signs U) aNil)) (gNm 2) (tAndM (eTest (eOp eqD (eCall (f_law_code U) (aCons (eVar 2) (aNil))) (eVar 0))) (eTest (eOp notInD (eVar 0) (eF (fLst (aCons (eC (.int 10)) (aCons (eC (.int 34)) (aCons (eC (.int 92)) (aNil))))))))) (eVar 2) [2])) (gNm 1)) (sRet (eIf (eTest (eOp neD (eVar 1) (eF (fLst (aNil))))) (eOp ixD (eVar 1) (eC (.int 0))) (eC .non)))
def m_law_literal (K : PySem.W.Frag) (U : Vol) (f_law_escaped : DF0) (f_law_sign_of : DF0) : MS :=
  sSeq (sAsg (eC (.str "")) (gNm 1)) (sSeq (sFor (iTpl (eVar 0)) (gNm 2) (sAsg (eOp add2D (eVar 1) (eIf (eTest (eOp inD (eVar 2) (eF (fLst (aCons (eC (.int 34)) (aCons (eC (.int 92)) (aNil))))))) (eOp add2D (eC (.str "\\")) (eIf (eTest (eOp eqD (eVar 2) (eC (.int 34)))) (eC (.str "\"")) (eC (.str "\\")))) (eOrV (eCall (f_law_sign_of U) (aCons (eVar 2) (aNil))) (eCall (f_law_escaped U) (aCons (eVar 2) (aNil)))))) (gNm 1))) (sRet (eOp add2D (eOp add2D (eC (.str "\"")) (eVar 1)) (eC (.str "\"")))))
def m_law_some_literal (K : PySem.W.Frag) (U : Vol) (f_law_escaped : DF0) (f_law_pick : DF0) (f_law_sign_of : DF0) : MS :=
  sSeq (sAsg (eC (.str "")) (gNm 2)) (sSeq (sFor (iTpl (eVar 1)) (gNm 3) (sSeq (sAsg (eDGet (eDct [.inl 34, .inl 92, .inl 47, .inl 8, .inl 12, .inl 10, .inl 13, .inl 9] (aCons (eC (.str "\\\"")) (aCons (eC (.str "\\\\")) (aCons (eC (.str "\\/")) (aCons (eC (.str "\\b")) (aCons (eC (.str "\\f")) (aCons (eC (.str "\\n")) (aCons (eC (.str "\\r")) (aCons (eC (.str "\\t")) (aNil)))))))))) (eVar 3) (eCall (f_law_escaped U) (aCons (eVar 3) (aNil)))) (gNm 4)) (sSeq (sAsg (eOrV (eCall (f_law_sign_of U) (aCons (eVar 3) (aNil))) (eVar 4)) (gNm 5)) (sSeq (sAsg (eCall (f_law_escaped U) (aCons (eVar 3) (aNil))) (gNm 6)) (sAsg (eOp add2D (eVar 2) (eCall (f_law_pick U) (aCons (eVar 0) (aCons (eF (fLst (aCons (eVar 5) (aCons (eVar 5) (aCons (eVar 4) (aCons (eVar 6) (aCons (eIf (eTest (eOp ltD (eVar 3) (eC (.int 65536)))) (eOp add2D (eC (.str "\\u")) (eUpper (eSl (eVar 6) (oSome (eC (.int 2))) (oNo)))) (eVar 6)) (aNil)))))))) (aNil))))) (gNm 2)))))) (sRet (eOp add2D (eOp add2D (eC (.str "\"")) (eVar 2)) (eC (.str "\"")))))
def m_law_are_points (K : PySem.W.Frag) (U : Vol) : MS :=
  sSeq (sIf (tOrM (tNotM (eTru (eCa (isxD K) (aCons (eVar 0) (aCons (eC (.ty "tuple")) (aNil)))))) (eTest (eOp neD (eF (fLc (iTpl (eVar 0)) (gNm 1) (tOrM (tNotM (eTru (eCa (isxD K) (aCons (eVar 1) (aCons (eC (.ty "int")) (aNil)))))) (tOrM (eTest (eOp isD (eVar 1) (eC (.bl true)))) (tOrM (eTest (eOp isD (eVar 1) (eC (.bl false)))) (tNotM (eTest (eChain leD leD (eC (.int 0)) (eVar 1) (eC (.int 1114111)))))))) (eC (.int 1)) [1])) (eF (fLst (aNil)))))) (sRet (eC (.bl false))) (sNext)) (sRet (eOp eqD (eF (fLc (iZp (aCons (eVar 0) (aCons (eSl (eVar 0) (oSome (eC (.int 1))) (oNo)) (aNil)))) (gTp (gCs (gNm 1) (gCs (gNm 2) (gNl))) 2) (tAndM (eTest (eChain leD ltD (eC (.int 55296)) (eVar 1) (eC (.int 56320)))) (eTest (eChain leD ltD (eC (.int 56320)) (eVar 2) (eC (.int 57344))))) (eC (.int 1)) [1, 2])) (eF (fLst (aNil)))))
@[simp ↓] theorem x_tru_s (z : Str) (kb : Bool → Prop) : truD (.str z) kb = (z.length ≤ sizeLine ∧ kb ((z.length : Int) != 0)) := propext Iff.rfl
@[simp] theorem eqV_ii (i j : Int) : eqV (.int i) (.int j) = decide (j = i) := by
  show (i == j) = _
  by_cases q : j = i
  · simp [q]
  · simp [q]; exact fun w => q w.symm
@[simp] theorem eqV_ss (i j : Str) : eqV (.str i) (.str j) = decide (j = i) := by
  show (i == j) = _
  by_cases q : j = i
  · simp [q]
  · simp [q]; exact fun w => q w.symm
@[simp] theorem eqV_si (i : Str) (j : Int) : eqV (.str i) (.int j) = false := rfl
@[simp] theorem eqV_is (i : Int) (j : Str) : eqV (.int i) (.str j) = false := rfl
@[simp] theorem eqV_ni (i : Int) : eqV (.int i) .non = false := rfl
@[simp] theorem eqV_ns (i : Str) : eqV (.str i) .non = false := rfl
def lawS : Str := "\n !\"#$&'()*+,-./0123456789:;<=>?@ABCDEFGHIJKLMNOP\
    QRSTUVWXYZ[\\]^_`abcdefghijklmnopqrstuvwxyz{|}~"
def f_law_signs : DF0 := fun _ n ds k _ => ds = [] ∧ k (.str lawS) n
def f_law_code : DF0 := fun _ n ds k _ => ∃ c : Nat, ds = [.str (S [c])] ∧ k (.int (c : Nat)) n
def f_law_with_point : DF0 := fun _ n ds k _ => ∃ (is : List Int) (u : Int), ds = [.tup (is.map D.int), .int u] ∧ is.length ≤ 1000000 ∧ k (.tup ((joinI is u).map D.int)) n
def f_law_hex : DF0 := fun _ n ds k _ => ∃ u : Int, ds = [.int u] ∧ k (.str (hexS u)) n
/-- the escapes of a point by numbers -/
def escS (c : Int) : Str := if c < 65536 then Str.ofString "\\u" ++ hexS c else Str.ofString "\\u" ++ hexS (55296 + (c - 65536) / 1024) ++ Str.ofString "\\u" ++ hexS (56320 + (c - 65536) % 1024)
def f_law_escaped : DF0 := fun _ n ds k _ => ∃ u : Int, ds = [.int u] ∧ k (.str (escS u)) n
def plainI (c : Int) : Bool := decide (32 ≤ c) && decide (c ≤ 126) && decide (c ≠ 34) && decide (c ≠ 37) && decide (c ≠ 92)
def f_law_sign_of : DF0 := fun _ n ds k _ => ∃ u : Int, ds = [.int u] ∧ k (if plainI u = true then .str (S [u.toNat]) else .non) n
section
variable {K : PySem.W.Frag} {U : Vol} {n : Nat} {ds : List D} {k : D → Nat → Prop} {x : Xn → Nat → Prop}
theorem law_signs_ok (h : f_law_signs U n ds k x) : m_law_signs K U (MKf k x) (startD [] ds n) := by
  obtain ⟨rfl, h⟩ := h
  simp [m_law_signs, startD]
  exact h
theorem law_code_ok (h : f_law_code U n ds k x) : m_law_code K U (MKf k x) (startD ["sign"] ds n) := by
  obtain ⟨c, rfl, h⟩ := h
  have e : (Str.ofString "\n") = S [10] := rfl
  simp [m_law_code, startD, e, ordD]
  by_cases q : c = 10
  · subst q; simpa using h
  · simpa [q] using h
theorem law_with_point_ok (h : f_law_with_point U n ds k x) : m_law_with_point K U (MKf k x) (startD ["points", "code", "last"] ds n) := by
  obtain ⟨is, u, rfl, hl, h⟩ := h
  have hpl : plnL 40 (is.map D.int) = true := plnL_iff.2 fun d hd => by
    obtain ⟨i, _, rfl⟩ := List.mem_map.1 hd
    rfl
  have hq : ∀ i : Int, (decide (55296 ≤ i) && decide (i < 56320)) = hiI i := fun i => by unfold hiI; congr 2; exact propext (by omega)
  have hr : ∀ i : Int, (decide (56320 ≤ i) && decide (i < 57344)) = loI i := fun i => by unfold loI; congr 2; exact propext (by omega)
  cases he : is.getLast? with
  | none =>
    have : is = [] := by simpa using he
    subst this
    simp [m_law_with_point, startD, List.replicate, plnL, eqvL]
    simpa [joinI] using h
  | some a =>
    have hne : is ≠ [] := fun z => by subst z; simp at he
    have h0 : 0 < is.length := List.length_pos_iff.2 hne
    have hev : eqvL (is.map D.int) [] = false := by
      cases is with
      | nil => exact (hne rfl).elim
      | cons b r => rfl
    have hat : atI (is.map D.int) ((is.length : Nat) - 1) = some (.int a) := by
      rw [List.getLast?_eq_getElem?] at he
      rw [atI_nat (by omega) (by simp; omega), show ((is.length : Int) - 1).toNat = is.length - 1 by omega, List.getElem?_map, he]; rfl
    have hct : cutL (is.map D.int) none (some ((is.length : Nat) - 1)) = is.dropLast.map D.int := by
      rw [cutL_to _ (by omega), show ((is.length : Int) - 1).toNat = is.length - 1 by omega, List.dropLast_eq_take, List.map_take]
    unfold joinI at h
    rw [he] at h
    dsimp only at h
    simp [m_law_with_point, startD, List.replicate, hev, hpl, hat, plnL, hct]
    have last : is.length ≤ 16777215 ∧ (k (.tup ((is ++ [u]).map D.int)) n → k (.tup (is.map D.int ++ [.int u])) n) := ⟨by omega, by simp⟩
    by_cases q : hiI a = true
    · have q1 : 55296 ≤ a ∧ a < 56320 := by unfold hiI at q; simp at q; omega
      simp [q1.1, q1.2]
      by_cases r : loI u = true
      · have r1 : 56320 ≤ u ∧ u < 57344 := by unfold loI at r; simp at r; omega
        simp [q, r] at h
        simp [r1.1, r1.2]
        exact ⟨mulL (by decide), by omega, h⟩
      · have r1 : 56320 ≤ u → ¬ u < 57344 := by unfold loI at r; simp at r; omega
        simp [q, r] at h
        by_cases r2 : 56320 ≤ u
        · simp [r2, r1 r2]
          exact ⟨by omega, h⟩
        · simp [r2]
          exact ⟨by omega, h⟩
    · have q1 : 55296 ≤ a → ¬ a < 56320 := by unfold hiI at q; simp at q; omega
      simp [q] at h
      by_cases q2 : 55296 ≤ a
      · simp [q2, q1 q2]
        exact ⟨by omega, h⟩
      · simp [q2]
        exact ⟨by omega, h⟩
theorem law_hex_ok (h : f_law_hex U n ds k x) : m_law_hex K U (MKf k x) (startD ["code", "found", "lap"] ds n) := by
  obtain ⟨u, rfl, h⟩ := h
  have e0 : (Str.ofString "") = S [] := rfl
  have hsz : (Str.ofString "0123456789abcdef").length ≤ 16777216 := by decide
  simp [m_law_hex, startD, List.replicate, rngL, List.range, List.range.loop, forM, hexC_at, e0, S_one, hsz]
  refine ⟨⟨by decide, by decide⟩, ?_⟩
  have e1 : u / 16 / 16 = u / 256 := by omega
  have e2 : u / 256 / 16 = u / 4096 := by omega
  rw [e1, e2]
  exact ⟨divOk (by decide) (by decide), divOk (by decide) (by decide), divOk (by decide) (by decide), h⟩
theorem hexS_len (u : Int) : (hexS u).length = 4 := rfl
theorem law_escaped_ok (h : f_law_escaped U n ds k x) : m_law_escaped K U f_law_hex (MKf k x) (startD ["code"] ds n) := by
  obtain ⟨u, rfl, h⟩ := h
  have hsz : (Str.ofString "\\u").length = 2 := by decide
  simp [m_law_escaped, startD, List.replicate]
  by_cases q : u < 65536
  · simp [q]
    refine ⟨_, rfl, ?_⟩
    simp [hsz, hexS_len]
    simpa [escS, q] using h
  · simp [q]
    refine ⟨⟨by decide, by decide⟩, _, rfl, ?_⟩
    simp [hsz, hexS_len, Str.length_append]
    refine ⟨_, rfl, ?_⟩
    simp [hsz, hexS_len, Str.length_append]
    simpa [escS, q] using h
theorem sign_filter (u : Int) : lawS.cps.toList.filter (fun a => decide (((a : Nat) : Int) = u) && !(decide (u = 10) || decide (u = 34) || decide (u = 92))) = if plainI u = true then [u.toNat] else [] := by
  by_cases h : 0 ≤ u ∧ u < 127
  · obtain ⟨m, rfl⟩ : ∃ m : Nat, u = m := ⟨u.toNat, by omega⟩
    have q : ∀ m : _root_.Fin 127, lawS.cps.toList.filter (fun a => decide (((a : Nat) : Int) = ((m : Nat) : Int)) && !(decide (((m : Nat) : Int) = 10) || decide (((m : Nat) : Int) = 34) || decide (((m : Nat) : Int) = 92))) = if plainI ((m : Nat) : Int) = true then [((m : Nat) : Int).toNat] else [] := by decide +kernel
    exact q ⟨m, by omega⟩
  · have h1 : plainI u = false := by unfold plainI; simp; omega
    rw [h1]
    simp only [Bool.false_eq_true, if_false]
    rw [List.filter_eq_nil_iff]
    intro a ha
    have h2 : ∀ m ∈ lawS.cps.toList, m < 127 := by decide +kernel
    have := h2 a ha
    simp
    omega
theorem law_sign_of_ok (h : f_law_sign_of U n ds k x) : m_law_sign_of K U f_law_code f_law_signs (MKf k x) (startD ["code", "found", "sign"] ds n) := by
  obtain ⟨u, rfl, h⟩ := h
  simp [m_law_sign_of, startD, List.replicate]
  refine ⟨rfl, ?_⟩
  simp
  refine lc_filt (fun c => .str ⟨#[c]⟩) lawS.cps.toList (fun a => decide (((a : Nat) : Int) = u) && !(decide (u = 10) || decide (u = 34) || decide (u = 92))) (fun c => .str (S [c])) rfl (by rw [x_sz]; decide) (fun a ha K1 K2 h1 h2 => ?_) ?_
  · simp
    refine ⟨a, rfl, ?_⟩
    simp [notInD, inD, scl, sclL, inV]
    by_cases q : (a : Int) = u
    · simp only [q, if_true]
      by_cases r : ¬ u = 10 ∧ ¬ u = 34 ∧ ¬ u = 92
      · rw [if_pos r]
        exact h1 _ (by simp [q, r]) rfl
      · rw [if_neg r]
        exact h2 _ (by simp [q]; omega) rfl
    · simp only [q, if_false]
      exact h2 _ (by simp [q]) rfl
  · rw [sign_filter]
    cases q : plainI u with
    | true =>
      rw [q] at h
      simp [eqvL, plnL, pln]
      simpa using h
    | false =>
      rw [q] at h
      simp [eqvL, plnL, pln]
      simpa using h
/-! ### the law's literal -/
theorem Str_app_assoc (a b c : Str) : a ++ b ++ c = a ++ (b ++ c) := by
  obtain ⟨a, rfl⟩ := S_ex a
  obtain ⟨b, rfl⟩ := S_ex b
  obtain ⟨c, rfl⟩ := S_ex c
  simp
theorem unitsT_cons (us vs : List Int) : unitsT (us ++ vs) = unitsT us ++ unitsT vs := by
  rw [unitsT_S, unitsT_S, unitsT_S, List.flatMap_append, S_app]
/-- how the law writes a point -/
def ptS (c : Int) : Str := if c = 34 then "\\\"" else if c = 92 then "\\\\" else if plainI c = true then S [c.toNat] else escS c
theorem ptS_is {c : Int} (h0 : 0 ≤ c) (h1 : c ≤ 1114111) : ptS c = unitsT (unitsI c) := by
  have one : ∀ u, unitsT [u] = unitT u := fun u => by rw [unitsT_S]; simp [S_eta]
  have two : ∀ u v, unitsT [u, v] = unitT u ++ unitT v := fun u v => by
    rw [show [u, v] = [u] ++ [v] from rfl, unitsT_cons, one, one]
  have esc : ∀ u, 126 < u ∨ u < 32 ∨ u = 37 → unitT u = Str.ofString "\\u" ++ hexS u := fun u hu => by
    unfold unitT
    rw [if_neg (by omega), if_neg (by omega), if_pos (by omega)]
    rfl
  unfold ptS
  by_cases a : c = 34
  · subst a; rfl
  by_cases b : c = 92
  · subst b; rfl
  rw [if_neg a, if_neg b]
  by_cases q : plainI c = true
  · rw [if_pos q]
    unfold plainI at q
    simp at q
    have : unitsI c = [c] := by unfold unitsI; rw [if_neg (by omega)]
    rw [this, one]
    unfold unitT
    rw [if_neg a, if_neg b, if_neg (by omega)]
    rfl
  · rw [if_neg q]
    unfold plainI at q
    simp at q
    by_cases r : c < 65536
    · have : unitsI c = [c] := by unfold unitsI; rw [if_neg (by omega)]
      rw [this, one, esc _ (by omega)]
      unfold escS
      rw [if_pos r]
    · have : unitsI c = [55296 + (c - 65535 - 1) / 1024, 56320 + (c - 65535 - 1) % 1024] := by unfold unitsI; rw [if_pos (by omega)]
      rw [this, two, esc _ (by omega), esc _ (by omega)]
      unfold escS
      rw [if_neg r, show c - 65535 - 1 = c - 65536 by omega, ← Str_app_assoc]
theorem ptS_len (c : Int) : (ptS c).length ≤ 12 := by
  have h2 : (Str.ofString "\\u").length = 2 := rfl
  unfold ptS escS
  split
  · decide
  split
  · decide
  split
  · simp
  · split <;> simp [Str.length_append, hexS_len, h2]
def ptsS (ps : List Int) : List Nat := ps.flatMap fun p => (ptS p).cps.toList
theorem ptsS_len (ps : List Int) : (ptsS ps).length ≤ 12 * ps.length := by
  unfold ptsS
  induction ps with
  | nil => simp
  | cons p r ih =>
    have := ptS_len p
    simp only [Str.length] at this
    simp only [List.flatMap_cons, List.length_append, List.length_cons, Array.length_toList]
    omega
theorem ptsS_is : ∀ {ps : List Int}, (∀ p ∈ ps, 0 ≤ p ∧ p ≤ 1114111) → S (ptsS ps) = unitsT (ps.flatMap unitsI)
  | [], _ => rfl
  | p :: ps, h => by
    have ih := ptsS_is (ps := ps) fun p hp => h p (by simp [hp])
    rw [List.flatMap_cons, unitsT_cons, ← ih, ← ptS_is (h p (by simp)).1 (h p (by simp)).2]
    unfold ptsS
    rw [List.flatMap_cons, ← S_app, S_eta]
def f_law_literal : DF0 := fun _ n ds k _ => ∃ ps : List Int, ds = [.tup (ps.map D.int)] ∧ ps.length ≤ 1000 ∧ k (.str (S ([34] ++ ptsS ps ++ [34]))) n
theorem law_literal_ok (h : f_law_literal U n ds k x) : m_law_literal K U f_law_escaped f_law_sign_of (MKf k x) (startD ["points", "found", "code"] ds n) := by
  obtain ⟨ps, rfl, hl, h⟩ := h
  have e0 : (Str.ofString "") = S [] := rfl
  have e34 : (Str.ofString "\"") = S [34] := rfl
  have e92 : (Str.ofString "\\") = S [92] := rfl
  simp [m_law_literal, startD, List.replicate, e0, e34, e92]
  refine for_ty D.int ps (fun done ρ => ∃ s2, ρ = ⟨[.dat (.tup (ps.map D.int)), .dat (.str (S (ptsS done))), s2], n⟩) ⟨_, rfl⟩ (fun done a rest e ρ hI R hR => ?_) (fun ρ hI => ?_)
  · obtain ⟨s2, rfl⟩ := hI
    have hd := congrArg List.length e
    simp at hd
    have hdl := ptsS_len done
    have nx : ∀ l : List Nat, S l = ptS a → R ⟨[.dat (.tup (ps.map D.int)), .dat (.str (S (ptsS done ++ l))), .dat (.int a)], n⟩ := fun l hla => by
      refine hR _ ⟨.dat (.int a), ?_⟩
      have : ptsS (done ++ [a]) = ptsS done ++ l := by
        unfold ptsS
        simp only [List.flatMap_append, List.flatMap_cons, List.flatMap_nil, List.append_nil]
        rw [← hla, S_cps]
      rw [this]
    simp [inD, scl, sclL, inV]
    by_cases q : a = 34
    · subst q
      simp
      exact ⟨by omega, nx _ rfl⟩
    · by_cases r : a = 92
      · subst r
        simp
        exact ⟨by omega, nx _ rfl⟩
      · simp [q, r]
        refine ⟨a, rfl, ?_⟩
        cases p : plainI a with
        | true =>
          have hp : ptS a = S [a.toNat] := by unfold ptS; rw [if_neg q, if_neg r, if_pos p]
          simp
          exact ⟨by omega, nx _ hp.symm⟩
        | false =>
          have hp : ptS a = escS a := by unfold ptS; rw [if_neg q, if_neg r, p]; rfl
          have hpl := ptS_len a
          obtain ⟨l, hl2⟩ := S_ex (ptS a)
          simp
          refine ⟨a, rfl, ?_⟩
          rw [← hp, hl2]
          rw [hl2] at hpl
          simp at hpl ⊢
          exact ⟨by omega, nx _ hl2.symm⟩
  · obtain ⟨s2, rfl⟩ := hI
    have := ptsS_len ps
    simp
    refine ⟨by omega, by omega, by simpa using h⟩
end
end DL

set_option maxRecDepth 100000
set_option maxHeartbeats 1000000
/-! DQ3: points asked by the law; drawn points. -/
namespace DL
open PySem PySem.Spec PyProof.Rows L2
def f_law_are_points : DF0 := fun _ n ds k _ => ∃ d, ds = [d] ∧ pln 40 d = true ∧ (∀ ds, d = .tup ds → ds.length ≤ 1000000) ∧ k (.bl (isPts d)) n
theorem filter_nil {α : Type} (p : α → Bool) (xs : List α) (F : α → D) : eqvL ((xs.filter p).map F) [] = xs.all fun a => !p a := by
  induction xs with
  | nil => rfl
  | cons a r ih =>
    cases q : p a with
    | true => simp [q, eqvL]
    | false => simpa [q] using ih
theorem lc_filtD {g : MG} {tt : MT} {te : ME} {vs : List Nat} {k : List D → EnvD → Prop} (xs : List D) (p : D → Bool) (F : D → D) {ρ : EnvD} (hw : wipeD ρ vs = ρ) (hl : xs.length ≤ sizeLine)
    (hs : ∀ a ∈ xs, ∀ (K1 : D → EnvD → Prop) (K2 : EnvD → Prop), (∀ ρ3, p a = true → wipeD ρ3 vs = ρ → K1 (F a) ρ3) → (∀ ρ2, p a = false → wipeD ρ2 vs = ρ → K2 ρ2) → g a ρ fun ρ1 => tt ρ1 (fun b ρ2 => if b = true then te ρ2 K1 xF else K2 ρ2) xF)
    (hk : k ((xs.filter p).map F) ρ) : lcM g tt te vs k xs [] ρ := by
  have := lc_filt (g := g) (tt := tt) (te := te) (vs := vs) (k := k) id xs p F hw hl hs hk
  simpa using this
theorem lc_mapD {g : MG} {te : ME} {vs : List Nat} {k : List D → EnvD → Prop} (xs : List D) (F : D → D) {ρ : EnvD} (hw : wipeD ρ vs = ρ) (hl : xs.length ≤ sizeLine)
    (hs : ∀ a ∈ xs, ∀ (K1 : D → EnvD → Prop), (∀ ρ3, wipeD ρ3 vs = ρ → K1 (F a) ρ3) → g a ρ fun ρ1 => te ρ1 K1 xF)
    (hk : k (xs.map F) ρ) : lcM g tYesM te vs k xs [] ρ := by
  have := lc_map (g := g) (te := te) (vs := vs) (k := k) id xs F hw hl hs hk
  simpa using this
/-- the eq with an empty list, of a list of ones -/
theorem ones_eq {α : Type} (p : α → Bool) (xs : List α) : (((xs.filter p).map fun _ => D.int 1) = []) = ((xs.all fun a => !p a) = true) := by
  simp
section
variable {K : PySem.W.Frag} {U : Vol} {n : Nat} {ds : List D} {k : D → Nat → Prop} {x : Xn → Nat → Prop}
theorem plnL_ints {α : Type} (xs : List α) (F : α → D) (h : ∀ a ∈ xs, pln 40 (F a) = true) : plnL 40 (xs.map F) = true := plnL_iff.2 fun d hd => by
  obtain ⟨a, ha, rfl⟩ := List.mem_map.1 hd
  exact h a ha
theorem are_points_ok (h : f_law_are_points U n ds k x) : m_law_are_points K U (MKf k x) (startD ["thing", "one", "other"] ds n) := by
  obtain ⟨d, rfl, hp, hlen, h⟩ := h
  cases d with
  | tup ds =>
    have hds : ∀ d ∈ ds, pln 40 d = true := fun d hd => pln_up (plnL_iff.1 (by simpa only [pln] using hp : plnL 39 ds = true) d hd)
    have hl := hlen ds rfl
    simp [m_law_are_points, startD, List.replicate, tyN, tys6, kit6]
    refine lc_filtD ds (fun d => !isPt d) (fun _ => D.int 1) rfl (by rw [x_sz]; omega) (fun a ha K1 K2 h1 h2 => ?_) ?_
    · have ha := hds a ha
      cases a with
      | int i =>
        simp [tyN, tys6, kit6]
        by_cases e : (0 : Int) ≤ i
        · by_cases e2 : i ≤ 1114111
          · simp [e, e2]
            rw [if_neg (by omega)]
            exact h2 _ (by simp [isPt, e, e2]) rfl
          · simp [e, e2]
            rw [if_pos (by omega)]
            exact h1 _ (by simp [isPt, e, e2]) rfl
        · simp [e]
          exact h1 _ (by simp [isPt, e]) rfl
      | non => simp [tyN, tys6, kit6]; exact h1 _ (by simp [isPt]) rfl
      | bl b => cases b <;> simp [tyN, tys6, kit6] <;> exact h1 _ (by simp [isPt]) rfl
      | str b => simp [tyN, tys6, kit6]; exact h1 _ (by simp [isPt]) rfl
      | tup b => simp [tyN, tys6, kit6]; exact h1 _ (by simp [isPt]) rfl
      | lst b => simp [tyN, tys6, kit6]; exact h1 _ (by simp [isPt]) rfl
      | _ => simp [pln] at ha
    · have h0 : plnL 40 (((ds.filter fun d => !isPt d).map fun _ => D.int 1)) = true := plnL_ints _ _ fun _ _ => rfl
      refine .inr ⟨h0, rfl, ?_⟩
      rw [filter_nil]
      by_cases e : (ds.all fun a => !!isPt a) = true
      · rw [if_pos e]
        simp
        simp at e
        have ei : ∃ ps : List Int, ds = ps.map D.int := by
          clear h hlen hp hl h0 hds
          induction ds with
          | nil => exact ⟨[], rfl⟩
          | cons d r ih =>
            obtain ⟨i, rfl⟩ := isPt_int (e d (by simp))
            obtain ⟨ps, rfl⟩ := ih fun d hd => e d (by simp [hd])
            exact ⟨i :: ps, rfl⟩
        obtain ⟨ps, rfl⟩ := ei
        rw [cut_tail _ hl]
        have hpl : (pairs (ps.map D.int) ((ps.map D.int).drop 1)).length ≤ 1000000 := by unfold pairs; simp at hl ⊢; omega
        refine lc_filtD _ surB (fun _ => D.int 1) rfl (by rw [x_sz]; omega) (fun p hp K1 K2 h1 h2 => ?_) ?_
        · obtain ⟨a, b, rfl⟩ : ∃ a b : Int, p = .tup [.int a, .int b] := by
            unfold pairs at hp
            rw [List.mem_iff_getElem] at hp
            obtain ⟨i, hi, rfl⟩ := hp
            simp at hi ⊢
          simp
          have e1 : ∀ {x y : Int}, x < y + 1 ↔ x ≤ y := by omega
          by_cases q1 : 55296 ≤ a
          · by_cases q2 : a < 56320
            · by_cases q3 : 56320 ≤ b
              · by_cases q4 : b < 57344
                · simp [q1, q2, q3, q4]
                  exact h1 _ (by simp [surB]; omega) rfl
                · simp [q1, q2, q3, q4]
                  exact h2 _ (by simp [surB]; omega) rfl
              · simp [q1, q2, q3]
                exact h2 _ (by simp [surB]; omega) rfl
            · simp [q1, q2]
              exact h2 _ (by simp [surB]; omega) rfl
          · simp [q1]
            exact h2 _ (by simp [surB]; omega) rfl
        · refine .inr ⟨plnL_ints _ _ fun _ _ => rfl, rfl, ?_⟩
          rw [filter_nil]
          have es := surr_any (ds := ps.map D.int) (fun d hd => e d hd)
          have : isPts (.tup (ps.map D.int)) = !surr (ps.map D.int) := by
            simp only [isPts]
            rw [List.all_eq_true.2 e]; rfl
          rw [this, ← es] at h
          simp only [List.any_map] at h
          rw [show (List.all (pairs (ps.map D.int) ((ps.map D.int).drop 1)) fun a => !surB a) = !(List.any (pairs (ps.map D.int) ((ps.map D.int).drop 1)) (id ∘ surB)) by
            rw [List.not_any_eq_all_not]; rfl]
          exact h
      · have e' : (ds.all fun a => !!isPt a) = false := by simpa using e
        rw [e']
        simp at e'
        simp
        have : isPts (.tup ds) = false := by
          simp only [isPts]
          rw [show ds.all isPt = false by simpa using e']
          rfl
        rw [this] at h
        exact h
  | non => simp [m_law_are_points, startD, List.replicate, tyN, tys6, kit6]; simpa [isPts] using h
  | bl b => simp [m_law_are_points, startD, List.replicate, tyN, tys6, kit6]; simpa [isPts] using h
  | int b => simp [m_law_are_points, startD, List.replicate, tyN, tys6, kit6]; simpa [isPts] using h
  | str b => simp [m_law_are_points, startD, List.replicate, tyN, tys6, kit6]; simpa [isPts] using h
  | lst b => simp [m_law_are_points, startD, List.replicate, tyN, tys6, kit6]; simpa [isPts] using h
  | _ => simp [pln] at hp
end
end DL

set_option maxRecDepth 100000
set_option maxHeartbeats 1000000
/-! DQ4: drawn points, drawn literals. -/
namespace DL
open PySem PySem.Spec PyProof.Rows L2
/-- a high surrogate, then a low one -/
def surI : List Int → Bool
  | a :: b :: r => (hiI a && loI b) || surI (b :: r)
  | _ => false
def inR (p : Int) : Bool := decide (0 ≤ p) && decide (p ≤ 1114111)
/-- points -/
def okI (ps : List Int) : Bool := ps.all inR && !surI ps
theorem surr_I : ∀ ps : List Int, surr (ps.map D.int) = surI ps
  | [] => rfl
  | [a] => rfl
  | a :: b :: r => by
    have := surr_I (b :: r)
    simp only [List.map_cons] at this ⊢
    simp only [surr, surI, this]
    rfl
theorem isPts_okI (ps : List Int) : isPts (.tup (ps.map D.int)) = okI ps := by
  unfold okI
  simp only [isPts]
  rw [surr_I, List.all_map]
  rfl
theorem surI_snoc : ∀ (xs : List Int) (u : Int), surI (xs ++ [u]) = (surI xs || match xs.getLast? with
  | some a => hiI a && loI u
  | none => false)
  | [], u => rfl
  | [a], u => by simp [surI]
  | a :: b :: r, u => by
    have := surI_snoc (b :: r) u
    simp only [List.cons_append] at this ⊢
    simp only [surI, this, List.getLast?_cons_cons, Bool.or_assoc]
theorem surI_init {xs : List Int} (h : surI xs = false) : surI xs.dropLast = false := by
  rcases List.eq_nil_or_concat xs with rfl | ⟨ys, u, rfl⟩
  · rfl
  · rw [List.concat_eq_append, surI_snoc] at h
    simp at h
    simpa using h.1
theorem okI_join {is : List Int} {u : Int} (h : okI is = true) (hu : inR u = true) : okI (joinI is u) = true := by
  unfold okI at h ⊢
  simp only [Bool.and_eq_true, Bool.not_eq_true', List.all_eq_true] at h ⊢
  obtain ⟨h1, h2⟩ := h
  unfold joinI
  cases he : is.getLast? with
  | none => simpa [surI] using hu
  | some a =>
    dsimp only
    by_cases q : (hiI a && loI u) = true
    · rw [if_pos q]
      refine ⟨fun x hx => ?_, ?_⟩
      · rcases List.mem_append.1 hx with m | m
        · exact h1 x (by rw [List.dropLast_eq_take] at m; exact List.mem_of_mem_take m)
        · simp at m
          subst m
          unfold hiI loI at q
          unfold inR
          simp at q ⊢
          omega
      · rw [surI_snoc, surI_init h2]
        have : loI (65536 + 1024 * (a - 55296) + u - 56320) = false := by
          unfold hiI loI at *
          simp at q ⊢
          omega
        rw [this]
        cases is.dropLast.getLast? <;> simp
    · rw [if_neg q]
      refine ⟨fun x hx => ?_, ?_⟩
      · rcases List.mem_append.1 hx with m | m
        · exact h1 x m
        · simp at m
          subst m
          exact hu
      · rw [surI_snoc, h2, he]
        simpa using q
def f_some_points : DF0 := fun U n ds k _ => ∃ st gr ce cs T, U = stU st gr ce cs T ∧ n + 7 ≤ mostN ∧ ds = [.hdl st] ∧
  ∀ (ps : List Int) (n' : Nat), okI ps = true → ps.length ≤ 3 → n ≤ n' → n' ≤ n + 7 → k (.tup (ps.map D.int)) n'
section
variable {K : PySem.W.Frag} {U : Vol} {n : Nat} {ds : List D} {k : D → Nat → Prop} {x : Xn → Nat → Prop}
theorem some_points_ok (h : f_some_points U n ds k x) : m_law_some_points K U f_draw f_pick f_law_with_point (MKf k x) (startD ["state", "some", "found", "lap"] ds n) := by
  obtain ⟨st, gr, ce, cs, T, rfl, hn, rfl, h⟩ := h
  simp [m_law_some_points, startD, List.replicate]
  refine draw_use (by omega) (by decide) (by decide) fun v n1 v0 v1 l1 u1 => ?_
  simp
  refine ⟨by omega, by omega, ?_⟩
  refine for_d _ (fun done ρ => ∃ (ps : List Int) (s3 : Slot) (m : Nat), okI ps = true ∧ ps.length ≤ done.length ∧ n ≤ m ∧ m ≤ n1 + 2 * done.length ∧ ρ = ⟨[.dat (.hdl st), .dat (.lst [.int 97, .int 98, .int 32, .int 34, .int 92, .int 47, .int 10, .int 37, .int 233, .int 65536, .int 1114111, .int 55296, .int 56320, .int 126, .int 127]), .dat (.tup (ps.map D.int)), s3], m⟩) ⟨[], _, n1, rfl, by simp, by omega, by simp, rfl⟩ (fun done a rest e ρ hI R hR => ?_) (fun ρ hI => ?_)
  · obtain ⟨ps, s3, m, hok, hlen, hm1, hm2, rfl⟩ := hI
    have he := congrArg List.length e
    rw [rngL_len] at he
    simp at he
    simp
    refine pick_use (by omega) (by simp) (by simp) fun d n2 hd l2 u2 => ?_
    obtain ⟨j, rfl, hj, hj0⟩ : ∃ j : Int, d = .int j ∧ (j = 3 ∨ j = 15) ∧ True := by
      simp at hd
      rcases hd with rfl | rfl
      · exact ⟨_, rfl, .inl rfl, trivial⟩
      · exact ⟨_, rfl, .inr rfl, trivial⟩
    simp
    rw [cutL_to _ (by omega)]
    refine pick_use (by omega) ?_ ?_ fun d n3 hd l3 u3 => ?_
    · rcases hj with rfl | rfl <;> simp
    · rcases hj with rfl | rfl <;> simp
    · have hd := List.mem_of_mem_take hd
      obtain ⟨u, rfl, hu⟩ : ∃ u : Int, d = .int u ∧ inR u = true := by
        simp at hd
        rcases hd with rfl | rfl | rfl | rfl | rfl | rfl | rfl | rfl | rfl | rfl | rfl | rfl | rfl | rfl | rfl <;> exact ⟨_, rfl, rfl⟩
      refine ⟨ps, u, rfl, by omega, ?_⟩
      have := joinI_length ps u
      refine hR _ ⟨joinI ps u, _, n3, okI_join hok hu, by simp; omega, by omega, by simp; omega, rfl⟩
  · obtain ⟨ps, s3, m, hok, hlen, hm1, hm2, rfl⟩ := hI
    rw [rngL_len] at hlen hm2
    simp
    exact h ps m hok (by omega) (by omega) (by omega)
end
/-! ### ways to write a point -/
def Wr (p : Int) (w : List Nat) : Prop := (∀ rest, readU (w ++ rest) = (readU rest).map fun q => (unitsI p ++ q.1, q.2)) ∧ w.length ≤ 12
theorem wr_plain {p : Int} (h : plainI p = true) : Wr p [p.toNat] := by
  refine ⟨fun rest => ?_, by simp⟩
  unfold plainI at h
  simp at h
  have h1 : isPlain p.toNat = true := by unfold isPlain; simp; omega
  have : unitAt ([p.toNat] ++ rest) = some (p, 1) := by
    show unitAt (p.toNat :: rest) = _
    simp [unitAt, h1]
    omega
  rw [readU_some this]
  have : unitsI p = [p] := by unfold unitsI; rw [if_neg (by omega)]
  rw [this]
  rfl
theorem wr_short {p : Int} {e : Nat} (h : escV e = some p) (h0 : p ≤ 65535) : Wr p [92, e] := by
  refine ⟨fun rest => ?_, by simp⟩
  have : unitAt ([92, e] ++ rest) = some (p, 2) := by
    show unitAt (92 :: e :: rest) = _
    simp [unitAt, h, isPlain]
  rw [readU_some this]
  have : unitsI p = [p] := by unfold unitsI; rw [if_neg (by omega)]
  rw [this]
  rfl
theorem read_hex {a b c d : Nat} (ha : (hexV a).isSome = true) (hb : (hexV b).isSome = true) (hc : (hexV c).isSome = true) (hd : (hexV d).isSome = true) (rest : List Nat) : readU ([92, 117, a, b, c, d] ++ rest) = (readU rest).map fun q => (hexNum [a, b, c, d] :: q.1, q.2) := by
  have : unitAt ([92, 117, a, b, c, d] ++ rest) = some (hexNum [a, b, c, d], 6) := by
    show unitAt (92 :: 117 :: a :: b :: c :: d :: rest) = _
    have e : escV 117 = none := by decide
    simp [unitAt, e, isPlain, ha, hb, hc, hd]
  rw [readU_some this]
  rfl
/-- an upper digit -/
def upC (c : Nat) : Nat := if 97 ≤ c ∧ c ≤ 122 then c - 32 else c
theorem hexC_all (u : Int) (P : Nat → Int → Prop) (h : ∀ m : _root_.Fin 16, P (hexC ((m : Nat) : Int)) ((m : Nat) : Int)) : P (hexC u) (u % 16) := by
  have h0 : 0 ≤ u % 16 := by omega
  have h1 : u % 16 < 16 := by omega
  have e : hexC u = hexC (u % 16) := by unfold hexC; rw [Int.emod_emod]
  rw [e]
  generalize u % 16 = i at h0 h1
  obtain ⟨m, rfl⟩ : ∃ m : Nat, i = m := ⟨i.toNat, by omega⟩
  exact h ⟨m, by omega⟩
theorem hexV_C (u : Int) : hexV (hexC u) = some (u % 16) := hexC_all u (fun c i => hexV c = some i) (by decide)
theorem hexV_up (u : Int) : hexV (upC (hexC u)) = some (u % 16) := hexC_all u (fun c i => hexV (upC c) = some i) (by decide)
theorem upper_C (u : Int) : Unicode.upperOf (hexC u) = [upC (hexC u)] := hexC_all u (fun c _ => Unicode.upperOf c = [upC c]) (by decide +kernel)
theorem hexNum4 {u : Int} (h0 : 0 ≤ u) (h1 : u < 65536) {a b c d : Nat} (ha : hexV a = some (u / 4096 % 16)) (hb : hexV b = some (u / 256 % 16)) (hc : hexV c = some (u / 16 % 16)) (hd : hexV d = some (u % 16)) : hexNum [a, b, c, d] = u := by
  unfold hexNum
  simp [ha, hb, hc, hd]
  omega
theorem upper4 (u : Int) : Txt.upper (hexS u) = S [upC (hexC (u / 4096)), upC (hexC (u / 256)), upC (hexC (u / 16)), upC (hexC u)] := by
  have e : Txt.upper (hexS u) = ⟨placed (hexS u) fun _ c => Unicode.upperOf c⟩ := rfl
  rw [e]
  unfold placed hexS S
  simp [upper_C]
theorem read_hexS {u : Int} (h0 : 0 ≤ u) (h1 : u < 65536) (rest : List Nat) : readU ((Str.ofString "\\u" ++ hexS u).cps.toList ++ rest) = (readU rest).map fun q => (u :: q.1, q.2) := by
  have := read_hex (a := hexC (u / 4096)) (b := hexC (u / 256)) (c := hexC (u / 16)) (d := hexC u) (by rw [hexV_C]; rfl) (by rw [hexV_C]; rfl) (by rw [hexV_C]; rfl) (by rw [hexV_C]; rfl) rest
  rw [hexNum4 h0 h1 (hexV_C _) (hexV_C _) (hexV_C _) (hexV_C _)] at this
  exact this
theorem wr_esc {p : Int} (h0 : 0 ≤ p) (h1 : p ≤ 1114111) : Wr p (escS p).cps.toList := by
  refine ⟨fun rest => ?_, ?_⟩
  · unfold escS
    by_cases q : p < 65536
    · rw [if_pos q, read_hexS h0 q]
      have : unitsI p = [p] := by unfold unitsI; rw [if_neg (by omega)]
      rw [this]; rfl
    · rw [if_neg q, Str_app_assoc, str_app, List.append_assoc, read_hexS (by omega) (by omega), read_hexS (by omega) (by omega)]
      have : unitsI p = [55296 + (p - 65535 - 1) / 1024, 56320 + (p - 65535 - 1) % 1024] := by unfold unitsI; rw [if_pos (by omega)]
      rw [this, show p - 65535 - 1 = p - 65536 by omega]
      cases readU rest <;> simp
  · have h2 : (Str.ofString "\\u").length = 2 := rfl
    have : (escS p).cps.toList.length = (escS p).length := by simp [Str.length]
    rw [this]
    unfold escS
    split <;> simp [Str.length_append, hexS_len, h2]
theorem wr_up {p : Int} (h0 : 0 ≤ p) (h1 : p < 65536) : Wr p ([92, 117] ++ (Txt.upper (hexS p)).cps.toList) := by
  rw [upper4, S_cps]
  refine ⟨fun rest => ?_, by simp⟩
  have := read_hex (a := upC (hexC (p / 4096))) (b := upC (hexC (p / 256))) (c := upC (hexC (p / 16))) (d := upC (hexC p)) (by rw [hexV_up]; rfl) (by rw [hexV_up]; rfl) (by rw [hexV_up]; rfl) (by rw [hexV_up]; rfl) rest
  rw [hexNum4 h0 h1 (hexV_up _) (hexV_up _) (hexV_up _) (hexV_up _)] at this
  have e : unitsI p = [p] := by unfold unitsI; rw [if_neg (by omega)]
  rw [e]
  exact this
def f_some_literal : DF0 := fun U n ds k _ => ∃ st gr ce cs T, U = stU st gr ce cs T ∧ ∃ ps : List Int, ps.length ≤ 100 ∧ n + ps.length ≤ mostN ∧ (∀ p ∈ ps, inR p = true) ∧ ds = [.hdl st, .tup (ps.map D.int)] ∧
  ∀ (w : List Nat) (n' : Nat), readU w = some (ps.flatMap unitsI, []) → w.length ≤ 12 * ps.length → n ≤ n' → n' ≤ n + ps.length → k (.str (S ([34] ++ w ++ [34]))) n'
/-- the short escape of a point -/
def shortV (p : Int) : Option Nat := if p = 34 then some 34 else if p = 92 then some 92 else if p = 47 then some 47 else if p = 8 then some 98 else if p = 12 then some 102 else if p = 10 then some 110 else if p = 13 then some 114 else if p = 9 then some 116 else none
theorem dct_short (p : Int) : dctGet [Sum.inl 34, Sum.inl 92, Sum.inl 47, Sum.inl 8, Sum.inl 12, Sum.inl 10, Sum.inl 13, Sum.inl 9] [D.str (Str.ofString "\\\""), D.str (Str.ofString "\\\\"), D.str (Str.ofString "\\/"), D.str (Str.ofString "\\b"), D.str (Str.ofString "\\f"), D.str (Str.ofString "\\n"), D.str (Str.ofString "\\r"), D.str (Str.ofString "\\t")] (Sum.inl p) = (shortV p).map fun e => D.str (S [92, e]) := by
  by_cases h1 : p = 34
  · subst h1; rfl
  by_cases h2 : p = 92
  · subst h2; rfl
  by_cases h3 : p = 47
  · subst h3; rfl
  by_cases h4 : p = 8
  · subst h4; rfl
  by_cases h5 : p = 12
  · subst h5; rfl
  by_cases h6 : p = 10
  · subst h6; rfl
  by_cases h7 : p = 13
  · subst h7; rfl
  by_cases h8 : p = 9
  · subst h8; rfl
  unfold shortV dctGet
  simp [List.find?, Ne.symm h1, Ne.symm h2, Ne.symm h3, Ne.symm h4, Ne.symm h5, Ne.symm h6, Ne.symm h7, Ne.symm h8, h1, h2, h3, h4, h5, h6, h7, h8]
theorem shortV_wr {p : Int} {e : Nat} (h : shortV p = some e) : Wr p [92, e] := by
  refine wr_short ?_ ?_
  · unfold shortV at h
    repeat' split at h
    all_goals first | (cases h; subst_vars; decide) | cases h
  · unfold shortV at h
    repeat' split at h
    all_goals first | omega | cases h
section
variable {K : PySem.W.Frag} {U : Vol} {n : Nat} {ds : List D} {k : D → Nat → Prop} {x : Xn → Nat → Prop}
theorem some_literal_ok (h : f_some_literal U n ds k x) : m_law_some_literal K U f_law_escaped f_pick f_law_sign_of (MKf k x) (startD ["state", "points", "found", "code", "short", "plain", "escaped"] ds n) := by
  obtain ⟨st, gr, ce, cs, T, rfl, ps, hl, hn, hr, rfl, h⟩ := h
  have e0 : (Str.ofString "") = S [] := rfl
  have e34 : (Str.ofString "\"") = S [34] := rfl
  simp [m_law_some_literal, startD, List.replicate, e0, e34]
  refine for_ty D.int ps (fun done ρ => ∃ (w : List Nat) (s3 s4 s5 s6 : Slot) (m : Nat), (∀ rest, readU (w ++ rest) = (readU rest).map fun q => (done.flatMap unitsI ++ q.1, q.2)) ∧ w.length ≤ 12 * done.length ∧ n ≤ m ∧ m ≤ n + done.length ∧ ρ = ⟨[.dat (.hdl st), .dat (.tup (ps.map D.int)), .dat (.str (S w)), s3, s4, s5, s6], m⟩) ⟨[], _, _, _, _, n, fun rest => by cases q : readU rest <;> simp [q], by simp, by omega, by simp, rfl⟩ (fun done a rest e ρ hI R hR => ?_) (fun ρ hI => ?_)
  · obtain ⟨w, s3, s4, s5, s6, m, hw, hwl, hm1, hm2, rfl⟩ := hI
    have he := congrArg List.length e
    simp at he
    have ha := hr a (by rw [e]; simp)
    unfold inR at ha
    simp at ha
    have nx : ∀ (v : List Nat) (t4 t5 t6 : Slot) m', Wr a v → m ≤ m' → m' ≤ m + 1 → R ⟨[.dat (.hdl st), .dat (.tup (ps.map D.int)), .dat (.str (S (w ++ v))), .dat (.int a), t4, t5, t6], m'⟩ := fun v t4 t5 t6 m' hv h1 h2 => by
      refine hR _ ⟨w ++ v, _, _, _, _, m', fun rest => ?_, ?_, by omega, by simp; omega, rfl⟩
      · rw [List.append_assoc, hw, hv.1]
        cases readU rest <;> simp
      · have := hv.2
        simp; omega
    simp
    refine ⟨a, rfl, ?_⟩
    rw [dct_short]
    have hesc := wr_esc ha.1 ha.2
    have tl : ∀ v1 v2 v3 v4 : List Nat, Wr a v1 → Wr a v2 → Wr a v3 → Wr a v4 → f_pick (stU st gr ce cs T) m [D.hdl st, D.lst [.str (S v1), .str (S v1), .str (S v2), .str (S v3), .str (S v4)]]
        (fun d_3 n => add2D (D.str (S w)) d_3 fun d_4 => R ⟨[Slot.dat (D.hdl st), Slot.dat (D.tup (List.map D.int ps)), Slot.dat d_4, Slot.dat (D.int a), Slot.dat (.str (S v2)), Slot.dat (.str (S v1)), Slot.dat (.str (S v3))], n⟩) x := by
      intro v1 v2 v3 v4 w1 w2 w3 w4
      refine pick_use (by omega) (by simp) (by simp) fun d n2 hd l2 u2 => ?_
      obtain ⟨v, rfl, hv⟩ : ∃ v, d = .str (S v) ∧ Wr a v := by
        simp at hd
        rcases hd with rfl | rfl | rfl | rfl
        · exact ⟨_, rfl, w1⟩
        · exact ⟨_, rfl, w2⟩
        · exact ⟨_, rfl, w3⟩
        · exact ⟨_, rfl, w4⟩
      have := hv.2
      simp
      exact ⟨by omega, nx v _ _ _ n2 hv l2 u2⟩
    obtain ⟨ve, he2⟩ := S_ex (escS a)
    rw [he2, S_cps] at hesc
    have fin : a < 65536 → ∃ vu, Wr a vu ∧ Str.ofString "\\u" ++ Txt.upper (cutS (S ve) (some 2) none) = S vu ∧ (cutS (S ve) (some 2) none).length ≤ 12 ∧ (Txt.upper (cutS (S ve) (some 2) none)).length ≤ 12 := by
      intro hlt
      have e1 : S ve = Str.ofString "\\u" ++ hexS a := by rw [← he2]; unfold escS; rw [if_pos hlt]
      have e2 : cutS (S ve) (some 2) none = hexS a := by
        rw [e1]; rfl
      rw [e2, upper4]
      have := wr_up ha.1 hlt
      rw [upper4, S_cps] at this
      exact ⟨_, this, rfl, by rw [hexS_len]; decide, by simp⟩
    have hve := hesc.2
    have hu2 : (Str.ofString "\\u").length = 2 := rfl
    cases hsv : shortV a with
    | some e2 =>
      have hs2 := shortV_wr hsv
      cases hpl : plainI a with
      | true =>
        have hp2 := wr_plain hpl
        simp
        refine ⟨a, rfl, ?_⟩
        rw [hpl]
        simp
        refine ⟨a, rfl, ?_⟩
        rw [he2]
        by_cases q : a < 65536
        · obtain ⟨vu, f1, f2, f3, f4⟩ := fin q
          simp [q]
          exact ⟨by omega, by omega, by omega, by rw [f2]; exact tl _ _ _ _ hp2 hs2 hesc f1⟩
        · simp [q]
          exact tl _ _ _ _ hp2 hs2 hesc hesc
      | false =>
        simp
        refine ⟨a, rfl, ?_⟩
        rw [hpl]
        simp
        refine ⟨a, rfl, ?_⟩
        rw [he2]
        by_cases q : a < 65536
        · obtain ⟨vu, f1, f2, f3, f4⟩ := fin q
          simp [q]
          exact ⟨by omega, by omega, by omega, by rw [f2]; exact tl _ _ _ _ hs2 hs2 hesc f1⟩
        · simp [q]
          exact tl _ _ _ _ hs2 hs2 hesc hesc
    | none =>
      cases hpl : plainI a with
      | true =>
        have hp2 := wr_plain hpl
        simp
        refine ⟨a, rfl, ?_⟩
        rw [hpl]
        simp
        refine ⟨a, rfl, ?_⟩
        rw [he2]
        by_cases q : a < 65536
        · obtain ⟨vu, f1, f2, f3, f4⟩ := fin q
          simp [q]
          exact ⟨by omega, by omega, by omega, by rw [f2]; exact tl _ _ _ _ hp2 hesc hesc f1⟩
        · simp [q]
          exact tl _ _ _ _ hp2 hesc hesc hesc
      | false =>
        simp
        refine ⟨a, rfl, ?_⟩
        rw [hpl]
        simp
        refine ⟨a, rfl, ?_⟩
        rw [he2]
        by_cases q : a < 65536
        · obtain ⟨vu, f1, f2, f3, f4⟩ := fin q
          simp [q]
          exact ⟨by omega, by omega, by omega, by rw [f2]; exact tl _ _ _ _ hesc hesc hesc f1⟩
        · simp [q]
          exact tl _ _ _ _ hesc hesc hesc hesc
  · obtain ⟨w, s3, s4, s5, s6, m, hw, hwl, hm1, hm2, rfl⟩ := hI
    simp
    refine ⟨by omega, by omega, ?_⟩
    have := hw []
    rw [List.append_nil, readU_nil] at this
    simpa using h w m (by simpa using this) hwl hm1 hm2
end
end DL

set_option maxRecDepth 100000
set_option maxHeartbeats 1000000
/-! DQ5: points written and read again. -/
namespace DL
open PySem PySem.Spec PyProof.Rows L2
theorem wr_ptS {p : Int} (h : inR p = true) : Wr p (ptS p).cps.toList := by
  unfold inR at h
  simp at h
  unfold ptS
  by_cases a : p = 34
  · subst a; exact wr_short (e := 34) (by decide) (by decide)
  by_cases b : p = 92
  · subst b; exact wr_short (e := 92) (by decide) (by decide)
  rw [if_neg a, if_neg b]
  by_cases q : plainI p = true
  · rw [if_pos q, S_cps]; exact wr_plain q
  · rw [if_neg q]; exact wr_esc h.1 h.2
theorem readU_pts : ∀ {ps : List Int}, (∀ p ∈ ps, inR p = true) → readU (ptsS ps) = some (ps.flatMap unitsI, [])
  | [], _ => readU_nil
  | p :: ps, h => by
    have ih := readU_pts (ps := ps) fun q hq => h q (by simp [hq])
    have := (wr_ptS (h p (by simp))).1 (ptsS ps)
    unfold ptsS at this ih ⊢
    rw [List.flatMap_cons, this, ih]
    rfl
theorem surI_left : ∀ {xs ys : List Int}, surI (xs ++ ys) = false → surI xs = false
  | [], _, _ => rfl
  | [a], _, _ => rfl
  | a :: b :: r, ys, h => by
    simp only [List.cons_append] at h
    simp only [surI, Bool.or_eq_false_iff] at h ⊢
    exact ⟨h.1, surI_left (xs := b :: r) h.2⟩
theorem joinI_add {acc : List Int} {u : Int} (h : surI (acc ++ [u]) = false) : joinI acc u = acc ++ [u] := by
  rw [surI_snoc] at h
  unfold joinI
  cases he : acc.getLast? with
  | none =>
    have : acc = [] := by simpa using he
    subst this; rfl
  | some a =>
    rw [he] at h
    simp at h
    dsimp only
    rw [if_neg (by simp; exact h.2)]
theorem join_units : ∀ (ps acc : List Int), (∀ p ∈ ps, inR p = true) → surI (acc ++ ps) = false → (ps.flatMap unitsI).foldl joinI acc = acc ++ ps
  | [], acc, _, _ => by simp
  | p :: ps, acc, hr, h => by
    have hp := hr p (by simp)
    unfold inR at hp
    simp at hp
    have hl : surI (acc ++ [p]) = false := by
      have : acc ++ p :: ps = (acc ++ [p]) ++ ps := by simp
      rw [this] at h
      exact surI_left h
    have h0 : surI acc = false := surI_left hl
    have step : (unitsI p).foldl joinI acc = acc ++ [p] := by
      unfold unitsI
      by_cases q : 65535 < p
      · rw [if_pos q]
        simp only [List.foldl_cons, List.foldl_nil]
        have e1 : joinI acc (55296 + (p - 65535 - 1) / 1024) = acc ++ [55296 + (p - 65535 - 1) / 1024] := by
          refine joinI_add ?_
          rw [surI_snoc, h0]
          have : loI (55296 + (p - 65535 - 1) / 1024) = false := by unfold loI; simp; omega
          rw [this]
          cases acc.getLast? <;> simp
        rw [e1]
        unfold joinI
        rw [List.getLast?_concat]
        dsimp only
        have h1 : hiI (55296 + (p - 65535 - 1) / 1024) = true := by unfold hiI; simp; omega
        have h2 : loI (56320 + (p - 65535 - 1) % 1024) = true := by unfold loI; simp; omega
        rw [h1, h2]
        simp
        omega
      · rw [if_neg q]
        simp only [List.foldl_cons, List.foldl_nil]
        exact joinI_add hl
    rw [List.flatMap_cons, List.foldl_append, step, join_units ps (acc ++ [p]) (fun q hq => hr q (by simp [hq])) (by simpa using h)]
    simp
theorem pointsI_units {ps : List Int} (h : okI ps = true) : pointsI (ps.flatMap unitsI) = ps := by
  unfold okI at h
  simp at h
  unfold pointsI
  have := join_units ps [] h.1 (by simpa using h.2)
  simpa using this
theorem okI_R {ps : List Int} (h : okI ps = true) : ∀ p ∈ ps, inR p = true := by
  unfold okI at h
  simp at h
  exact h.1
/-- a literal of points -/
theorem readLit_of {w : List Nat} {ps : List Int} (h : okI ps = true) (hw : readU w = some (ps.flatMap unitsI, [])) : readLit (.str (S ([34] ++ w ++ [34]))) = some ps := by
  have e : (([34] ++ w ++ [34]).drop 1).dropLast = w := by simp
  unfold readLit
  dsimp only
  rw [S_cps, e, hw, if_pos ⟨by simp, rfl, List.getLast?_concat⟩]
  simp [pointsI_units h]
theorem pln_ints (m : Nat) (is : List Int) : pln (m + 1) (.tup (is.map D.int)) = true := by
  simp only [pln]
  exact plnL_iff.2 fun d hd => by
    obtain ⟨i, _, rfl⟩ := List.mem_map.1 hd
    rfl
theorem join_one {α : Type} (c : α → Nat) (xs : List α) : Txt.join (Str.ofString "") (xs.map fun p => S [c p]) = S (xs.map c) := by
  show Builtin.Str.glued (Str.ofString "") _ = _
  rw [StrLaws.glued_eq_join]
  induction xs with
  | nil => rfl
  | cons u r ih =>
    cases r with
    | nil => rfl
    | cons v r =>
      show S [c u] ++ Str.ofString "" ++ Str.join (Str.ofString "") ((v :: r).map fun p => S [c p]) = _
      rw [ih, show Str.ofString "" = S [] from rfl]
      simp
theorem join_use {α : Type} {c : α → Nat} {xs : List α} {k : D → Prop} (hl : xs.length ≤ 1000000) (h : k (.str (S (xs.map c)))) : joinD (Str.ofString "") (xs.map fun p => .str (S [c p])) k := by
  unfold joinD
  rw [strsL_of (fun p => S [c p]) xs]
  dsimp only
  rw [join_one]
  have e0 : (Str.ofString "").length = 0 := rfl
  have e1 : ((xs.map fun p => S [c p]).map (·.length)).sum = xs.length := by
    clear h hl
    induction xs with
    | nil => rfl
    | cons a r ih => simp only [List.map_cons, List.sum_cons, ih, List.length_cons, S_len, List.length_nil]; omega
  rw [e1, e0]
  exact ⟨by omega, h⟩
section
variable {U : Vol} {n : Nat} {k : D → Nat → Prop} {x : Xn → Nat → Prop} {st gr ce : Addr} {cs : List Int} {T : List (Addr × Str)}
theorem read_use {c : Addr} {w : List Nat} {ps : List Int} (h : okI ps = true) (hw : readU w = some (ps.flatMap unitsI, [])) (hl : w.length ≤ 100000) (hk : k (.tup (ps.map D.int)) n) : f_read_literal c U n [.str (S ([34] ++ w ++ [34]))] k x := by
  refine ⟨_, rfl, rfl, fun z hz => ?_, fun qs hq => ?_, fun hq => ?_⟩
  · cases hz; simp; omega
  · rw [readLit_of h hw] at hq
    cases hq
    exact hk
  · rw [readLit_of h hw] at hq; cases hq
theorem some_points_use (hn : n + 7 ≤ mostN) (h : ∀ (ps : List Int) (n' : Nat), okI ps = true → ps.length ≤ 3 → n ≤ n' → n' ≤ n + 7 → k (.tup (ps.map D.int)) n') : f_some_points (stU st gr ce cs T) n [.hdl st] k x := ⟨st, gr, ce, cs, T, rfl, hn, rfl, h⟩
theorem some_literal_use {ps : List Int} (hl : ps.length ≤ 100) (hn : n + ps.length ≤ mostN) (hr : okI ps = true) (h : ∀ (w : List Nat) (n' : Nat), readU w = some (ps.flatMap unitsI, []) → w.length ≤ 12 * ps.length → n ≤ n' → n' ≤ n + ps.length → k (.str (S ([34] ++ w ++ [34]))) n') : f_some_literal (stU st gr ce cs T) n [.hdl st, .tup (ps.map D.int)] k x :=
  ⟨st, gr, ce, cs, T, rfl, ps, hl, hn, okI_R hr, rfl, h⟩
theorem near_use {B N m : Nat} {d : D} (hn : n + 3 * m + 3 ≤ mostN) (hd : sml B N m d = true) (hb : nob d = true) (h : ∀ d' n', sml (B + 1) (N + 1) (m + 1) d' = true → n ≤ n' → n' ≤ n + 3 * m + 3 → k d' n') : f_near B N m (stU st gr ce cs T) n [.hdl st, d] k x := ⟨st, gr, ce, cs, T, d, rfl, hn, rfl, hd, hb, h⟩
end
end DL

set_option maxRecDepth 100000
set_option maxHeartbeats 1000000
/-! DX1: constants and written dicts of the module, from what the top left. -/
namespace DL
open PySem PySem.Spec PyProof.Rows L2
/-- a written constant -/
def vOk : D → Value → Prop
  | .int i, u => ∃ t, u = .int i t
  | .str z, u => ∃ t, u = .str z t
  | .bl b, u => u = .bool b
  | .non, u => u = .none
  | _, _ => False
theorem vOk_rel {d : D} {u : Value} (h : vOk d u) : ∃ v, RelV v u ∧ ∀ (K : PySem.W.Frag) (H : Hp), Rep K H v d := by
  cases d with
  | int i => obtain ⟨t, rfl⟩ := h; exact ⟨.int i, ⟨t, rfl⟩, fun K H => by simp only [Rep]⟩
  | str z => obtain ⟨t, rfl⟩ := h; exact ⟨.str z, ⟨t, rfl⟩, fun K H => by simp only [Rep]⟩
  | bl b => cases h; exact ⟨.bl b, rfl, fun K H => by simp only [Rep]⟩
  | non => cases h; exact ⟨.non, rfl, fun K H => by simp only [Rep]⟩
  | _ => exact False.elim h
def vsOk : List D → List Value → Prop
  | [], us => us = []
  | d :: ds, us => ∃ u r, us = u :: r ∧ vOk d u ∧ vsOk ds r
theorem vsOk_rel : ∀ {ds : List D} {us : List Value}, vsOk ds us → ∃ vs, Vals vs us ∧ ∀ (K : PySem.W.Frag) (H : Hp), RepL K H vs ds
  | [], _, h => by cases h; exact ⟨[], .nil, fun K H => .nil⟩
  | d :: ds, _, h => by
    obtain ⟨u, r, rfl, h1, h2⟩ := h
    obtain ⟨v, r1, p1⟩ := vOk_rel h1
    obtain ⟨vs, r2, p2⟩ := vsOk_rel h2
    exact ⟨v :: vs, .cons r1 r2, fun K H => .cons (p1 K H) (p2 K H)⟩
section
variable {K : PySem.W.Frag} {w : World} {mg : Str → Option Value} {h : Heap} {x : Str}
theorem cst_mk {d : D} {u : Value} (X : K.In h) (G : h.Ns mainGlobals mg) (q : PySem.W.nsIn K mainGlobals x = some (some u)) (k : vOk d u) : Cst K mg x d := by
  obtain ⟨v, r, p⟩ := vOk_rel k
  exact ⟨u, v, PySem.W.mg_of X G q, r, p K⟩
/-- entries of a written dict -/
def enOk : List (Str × D) → List DictEntry → Prop
  | [], es => es = []
  | (z, d) :: tab, es => ∃ e r, es = e :: r ∧ (∃ t, e.key = .str z t) ∧ vOk d e.val ∧ enOk tab r
theorem enOk_ref : ∀ {tab : List (Str × D)} {es : List DictEntry}, enOk tab es → es.any (·.refKey) = false
  | [], _, h => by cases h; rfl
  | (z, d) :: tab, _, h => by
    obtain ⟨e, r, rfl, ⟨t, h1⟩, h2, h3⟩ := h
    rw [List.any_cons, enOk_ref h3]
    obtain ⟨eh, ek, ev⟩ := e
    simp only at h1
    subst h1
    rfl
theorem enOk_find : ∀ {tab : List (Str × D)} {es : List DictEntry} (z : Str), enOk tab es → (tab.lookup z = none → es.find? (·.key.isStr z) = none) ∧ ∀ d, tab.lookup z = some d → ∃ e, es.find? (·.key.isStr z) = some e ∧ vOk d e.val
  | [], _, z, h => by cases h; exact ⟨fun _ => rfl, fun d h => by simp at h⟩
  | (y, c) :: tab, _, z, h => by
    obtain ⟨e, r, rfl, ⟨t, h1⟩, h2, h3⟩ := h
    obtain ⟨i1, i2⟩ := enOk_find z h3
    have ek : e.key.isStr z = (y == z) := by rw [h1]; rfl
    rw [List.lookup_cons, List.find?_cons, ek]
    by_cases q : z = y
    · subst q
      rw [show (z == z) = true by simp]
      exact ⟨fun h => (by cases h), fun d h => (by cases h; exact ⟨e, rfl, h2⟩)⟩
    · have q1 : (z == y) = false := by simpa using q
      have q2 : (y == z) = false := by simpa using fun w : y = z => q w.symm
      rw [q1, q2]
      exact ⟨i1, i2⟩
theorem kdc_mk {tab : List (Str × D)} {a : Addr} {es : Array DictEntry} {n : Nat} (X : K.In h) (G : h.Ns mainGlobals mg) (q : PySem.W.nsIn K mainGlobals x = some (some (.ref a))) (l : K.lookup a = some ⟨.type "dict", none, .dict es n, #[]⟩) (lit : PySem.W.KeysLit w.params es.toList) (low : (a == sysModules) = false) (k : enOk tab es.toList) : KdC K w mg x tab := by
  refine ⟨a, es, n, PySem.W.mg_of X G q, ⟨l, lit, low⟩, fun z => ?_⟩
  obtain ⟨i1, i2⟩ := enOk_find z k
  have hr := enOk_ref k
  unfold PySem.W.nsIn
  rw [l]
  refine ⟨fun e => ?_, fun d e => ?_⟩
  · simp only [i1 e, hr, Bool.false_eq_true, if_false]
  · obtain ⟨en, f1, f2⟩ := i2 d e
    obtain ⟨v, r, p⟩ := vOk_rel f2
    simp only [f1]
    exact ⟨_, v, rfl, r, p K⟩
end
end DL

set_option maxRecDepth 100000
set_option maxHeartbeats 1000000
/-! DL27: x, *xs = t; own dicts with tuples as keys; tuple constants of the module; < and > of tuples. -/
namespace DL
open PySem PySem.Spec PyProof.Rows L2
open PySem.W in
theorem star_tup {prog : Program} {w : World} {A : Around} {E : Value → Shared → Prop} {s : Shared} {env : Env} {elts : List Expr} {k : Nat} {pos : Pos} {l : Addr} {items : Array Value} {n i : Nat} {Q : Unit → Shared → Prop} (hl : IsTup s.heap l items) (hh : A.handled = none)
    (hlen : (assignEach elts env).length = n) (hstar : (assignEach elts env).findIdx? (·.1) = some i) (hi : i < n) (hn : n ≤ items.size + 1) (hz : items.size ≤ sizeLine)
    (h : ∀ (h' : Heap) (tk : Nat), (∀ b o, s.heap.get? b = some o → h'.get? b = some o) → wpAny (model prog w) A (assignInOrder ((assignEach elts env).map (·.2)) (items.toList.take i ++ [.ref h'.objs.size] ++ (items.toList.drop i).drop (items.size + 1 - n))) Q E
      { s with heap := h'.push { cls := .type "list", data := .seq ((items.toList.drop i).take (items.size + 1 - n)).toArray }, toks := tk }) :
    wpAny (model prog w) A (assign (.Tuple elts k pos) env (.ref l)) Q E s := by
  rw [assign_Tuple]
  refine wpAny_bind (wpAny_standAt ?_)
  unfold unpack
  rw [hlen, hstar]
  refine wpAny_bind (wpAny_holding ?_)
  have hlt : l ≠ s.heap.objs.size := by obtain ⟨o, ho, _⟩ := hl; exact Nat.ne_of_lt (Heap.lt_size ho)
  have hll : l < s.heap.objs.size := by obtain ⟨o, ho, _⟩ := hl; exact Heap.lt_size ho
  unfold unpackItems
  refine wpAny_bind ?_
  unfold notIterableAtAll
  refine wpAny_bind (wpAny_specialOf hl.typeIs slot_tuple_iter.lookup ?_)
  refine wpAny_pure ?_
  simp only [Bool.false_eq_true, if_false]
  refine wpAny_bind (wpAny_holding (iter_tuple hl ?_))
  refine wpAny_bind (wpAny_holding (draw_tuple hlt i 0 _ _ ⟨_, Heap.get?_push_size _ rfl, rfl, rfl⟩ (hl.push _) (by omega) fun h₁ hit₁ hs₁ => ?_))
  have hl₁ : IsTup h₁ l items := (hl.push _).extBut hs₁.extBut hlt
  rw [Nat.zero_add] at hit₁
  have hit₁' := hit₁
  obtain ⟨oi, hoi, _⟩ := hit₁'
  have hl₁' := hl₁
  obtain ⟨ol, hol, _⟩ := hl₁'
  rw [List.drop_zero]
  have hfl : (items.toList.take i).length = i := by rw [List.length_take, Array.length_toList]; omega
  rw [if_neg (show ¬ ((items.toList.take i).length < i) by rw [hfl]; omega)]
  refine wpAny_bind (wpAny_holding (kun_collect (s := { s with heap := h₁ }) (T := "tuple_iterator") (.inr (.inr (.inr rfl))) (Walks.tuple (A := A.in1) hh s.heap.objs.size l hlt items) (fun j u st => st.1.typeIs) (k := i) (by omega) ⟨hit₁, hl₁⟩ (Heap.lt_size hoi) (Heap.lt_size hol) (fun h₂ tk hk => ?_) hz))
  have hrl : (items.toList.drop i).length = items.size - i := by rw [List.length_drop, Array.length_toList]
  have hmid : (items.toList.drop i).length - (n - 1 - i) = items.size + 1 - n := by rw [hrl]; omega
  show wpAny _ _ (if (items.toList.drop i).length < n - 1 - i then _ else _) _ _ _
  rw [if_neg (by rw [hrl]; omega)]
  show wpAny _ _ (newList ((items.toList.drop i).take ((items.toList.drop i).length - (n - 1 - i))) >>= fun d => pure (items.toList.take i ++ [d] ++ (items.toList.drop i).drop ((items.toList.drop i).length - (n - 1 - i)))) _ _ _
  rw [hmid]
  have he : ∀ b o, s.heap.get? b = some o → h₂.get? b = some o := fun b o e => hk b o (Nat.ne_of_lt (Heap.lt_size e)) (hs₁.extBut b o (Nat.ne_of_lt (Heap.lt_size e)) (Heap.get?_push_of_some _ e))
  exact wpAny_bind (wpAny_newList (wpAny_pure (h h₂ tk he)) (by rw [List.length_take, hrl]; omega))
/-- x, *xs = a tuple that is not empty -/
def gSt1 (K : PySem.W.Frag) (i j : Nat) : TG := fun v σ H Q => ∃ a x xs, v = .ref a ∧ SqT K H a (x :: xs) ∧ ∀ p, H p = none → Q ((σ.set i (some x)).set j (some (.ref p))) (upd H p (.lst xs))
theorem pg_st1 {X : Cx} {x y : Str} {px py ps pos : Pos} {k i j : Nat} (hc : X.calm = true) (h1 : PG X (.Name x px) (gName i)) (h2 : PG X (.Name y py) (gName j))
    (hn : (assignEach [.Name x px, .Starred (.Name y py) ps] X.env).length = 2) (hst : (assignEach [.Name x px, .Starred (.Name y py) ps] X.env).findIdx? (·.1) = some 1)
    (hm : (assignEach [.Name x px, .Starred (.Name y py) ps] X.env).map (·.2) = [assign (.Name x px) X.env, assign (.Name y py) X.env]) : PG X (.Tuple [.Name x px, .Starred (.Name y py) ps] k pos) (gSt1 X.K i j) := by
  refine ⟨fun pins s σ H v u Q I r hw => ?_⟩
  obtain ⟨a, v0, vs, e1, hq, hw⟩ := hw
  subst e1
  cases r
  obtain ⟨its, rv, ht, hz⟩ := I.tuple hq
  cases rv with
  | @cons _ u0 _ us r0 rr =>
    have hl : us.length = vs.length := rr.length.symm
    refine star_tup (n := 2) (i := 1) ht (I.ok.hd hc) hn hst (by omega) (by simp) (by simpa [hl] using hz) fun h' tk hk => ?_
    rw [hm]
    have I1 : Inv X pins σ H { s with heap := h', toks := tk } := I.kept (t' := tk) hk
    have hf : H h'.objs.size = none := I1.hok.fresh (Nat.le_refl _)
    have I2 : Inv X pins σ (upd H h'.objs.size (.lst vs)) { s with heap := h'.push { cls := .type "list", data := .seq us.toArray }, toks := tk } :=
      I1.laid (t' := tk) (fun b o e => Heap.get?_push_of_some _ e) (Nat.le_refl _) (show ObjOk X.prog X.w _ _ _ (.lst vs) from ⟨Nat.le_of_succ_le (by simpa using hz), us, 0, rr, Heap.get?_push_size _ rfl⟩)
    have e1 : ((u0 :: us).toArray.toList.drop 1).take ((u0 :: us).toArray.size + 1 - 2) = us := by simp
    have e2 : (u0 :: us).toArray.toList.take 1 ++ [Value.ref h'.objs.size] ++ ((u0 :: us).toArray.toList.drop 1).drop ((u0 :: us).toArray.size + 1 - 2) = [u0, Value.ref h'.objs.size] := by simp
    rw [e1, e2]
    refine assignInOrder_cons (thn (h1.run pins _ σ _ v0 u0 (fun σ' H' => Q (σ'.set j (some (.ref h'.objs.size))) H') I2 r0 (hw _ hf)) fun _ s1 ⟨σ1, H1, I3, q1⟩ => ?_)
    exact assignInOrder_cons (thn (h2.run pins s1 σ1 H1 (.ref h'.objs.size) _ Q I3 rfl q1) fun _ s2 ⟨σ2, H2, I4, q2⟩ => assignInOrder_nil ⟨σ2, H2, I4, q2⟩)
def gSt (i j : Nat) : MG := fun d ρ k => match d with
  | .tup (a :: ds) => k ((ρ.st i (.dat a)).st j (.dat (.lst ds)))
  | _ => False
theorem sndG_st1 {K : PySem.W.Frag} {U : Vol} {i j : Nat} : SndG K U (gSt1 K i j) (gSt i j) := by
  intro Z σ ρ H v d k Q I r h q
  unfold gSt at h
  split at h
  · simp only [Rep, RepL] at r
    obtain ⟨p, vs, rfl, s1, v0, vr, rfl, r0, rr⟩ := r
    refine ⟨p, v0, vr, rfl, sameT hide_sub s1.toT, fun q0 hq => ?_⟩
    have I1 := I.same (same_new (o := .lst vr) hq)
    obtain ⟨I2, T2⟩ := I1.put (i := i) (r0.mono (hide_same (same_new hq)))
    have rl : Rep K (VH U Z σ ρ (upd H q0 (.lst vr))) (.ref q0) (.lst _) := rep_lst (fun a ha => I.hidden ha) hq rr
    obtain ⟨I3, T3⟩ := I2.put (i := j) (rl.mono T2.vis)
    exact q _ _ _ ((Tr.of_same (same_new hq)).trans (T2.trans T3)) I3 h
  · exact h.elim
section
variable {ι : Type} {Xs : ι → Cx} {P : Program} {w : World} {K : PySem.W.Frag} {mg : Str → Option Value} {base : Heap} {U : Vol} {E : XS} {lv : Nat} {pos px py ps : Pos} {x y : Str} {k : Nat}
theorem dg_st (F : Fam Xs P w K mg base E lv) (i j : Nat) (hi : ∀ q, (Xs q).N[i]? = some x := by intro _; rfl) (hj : ∀ q, (Xs q).N[j]? = some y := by intro _; rfl)
    (hx : ∀ q, Loc (Xs q).env.scope x := by intro _; first | exact Or.inl rfl | exact Or.inr rfl) (hy : ∀ q, Loc (Xs q).env.scope y := by intro _; first | exact Or.inl rfl | exact Or.inr rfl)
    (fx : ∀ j, (Xs j).fn x = true ∨ (Xs j).env.scope.names.lookup x = some .local := by intro _; first | exact .inl rfl | exact .inr rfl) (fy : ∀ j, (Xs j).fn y = true ∨ (Xs j).env.scope.names.lookup y = some .local := by intro _; first | exact .inl rfl | exact .inr rfl)
    (hn : ∀ q, (assignEach [.Name x px, .Starred (.Name y py) ps] (Xs q).env).length = 2 := by intro _; rfl) (hst : ∀ q, (assignEach [.Name x px, .Starred (.Name y py) ps] (Xs q).env).findIdx? (·.1) = some 1 := by intro _; rfl)
    (hm : ∀ q, (assignEach [.Name x px, .Starred (.Name y py) ps] (Xs q).env).map (·.2) = [assign (.Name x px) (Xs q).env, assign (.Name y py) (Xs q).env] := by intro _; rfl) : DG Xs K U (.Tuple [.Name x px, .Starred (.Name y py) ps] k pos) (gSt i j) := by
  refine ⟨_, fun q => ?_, sndG_st1⟩
  have hp := pg_st1 (k := k) (pos := pos) (F.calm q) (pg_name (pos := px) (F.nd q) (hi q) (hx q) (fx q)) (pg_name (pos := py) (F.nd q) (hj q) (hy q) (fy q)) (hn q) (hst q) (hm q)
  rw [F.k q] at hp
  exact hp
end
end DL

set_option maxRecDepth 100000
set_option maxHeartbeats 1000000
/-! DL28: own dicts with tuples as keys. -/
namespace DL
open PySem PySem.Spec PyProof.Rows L2

/-! ### tables -/
instance keyMem (q : List Key) (ks : List (List Key)) : Decidable (q ∈ ks) := decidable_of_iff (ks.any (fun k => decide (k = q)) = true) (by simp)
def ksPut (ks : List (List Key)) (q : List Key) : List (List Key) := if q ∈ ks then ks else ks ++ [q]
def dsPut {α : Type} : List (List Key) → List α → List Key → α → List α
  | _, [], _, x => [x]
  | [], ys, _, x => ys ++ [x]
  | k :: ks, y :: ys, q, x => if k = q then x :: ys else y :: dsPut ks ys q x
theorem dsPut_len {α : Type} : ∀ {ks : List (List Key)} {ys : List α} {q : List Key} {x : α}, ks.length = ys.length → (ksPut ks q).length = (dsPut ks ys q x).length
  | [], [], q, x, _ => by simp [ksPut, dsPut]
  | [], _ :: _, q, x, h => by simp at h
  | _ :: _, [], q, x, h => by simp at h
  | k :: ks, y :: ys, q, x, h => by
    have ih := dsPut_len (ks := ks) (ys := ys) (q := q) (x := x) (by simpa using h)
    by_cases e : k = q
    · subst e; simp [ksPut, dsPut]; simpa using h
    · have e' : ¬ q = k := fun z => e z.symm
      by_cases m : q ∈ ks
      · simp [ksPut, dsPut, e, e', m] at ih ⊢; omega
      · simp [ksPut, dsPut, e, e', m] at ih ⊢; omega
theorem put_zip : ∀ {ks : List (List Key)} {vs : List V} {q : List Key} {v : V}, ks.length = vs.length → ks.Nodup → putK (ks.zip vs) q v = (ksPut ks q).zip (dsPut ks vs q v)
  | [], [], q, v, _, _ => by simp [ksPut, dsPut, putK]
  | [], _ :: _, q, x, h, _ => by simp at h
  | _ :: _, [], q, x, h, _ => by simp at h
  | k :: ks, y :: ys, q, x, h, hn => by
    have hl : ks.length = ys.length := by simpa using h
    have hn' := (List.nodup_cons.mp hn)
    have ih := put_zip (ks := ks) (vs := ys) (q := q) (v := x) hl hn'.2
    by_cases e : k = q
    · subst e
      have h1 : ∀ kv ∈ ks.zip ys, (if kv.1 = k then (kv.1, x) else kv) = kv := fun kv hk => by
        have : kv.1 ∈ ks := (List.of_mem_zip hk).1
        have ne : ¬ kv.1 = k := fun z => hn'.1 (z ▸ this)
        rw [if_neg ne]
      have h2 : (ks.zip ys).map (fun kv => if kv.1 = k then (kv.1, x) else kv) = ks.zip ys := by
        conv => rhs; rw [← List.map_id (ks.zip ys)]
        exact List.map_congr_left h1
      simp only [putK, List.zip_cons_cons, List.any_cons, decide_true, Bool.true_or, if_true, List.map_cons]
      rw [h2]
      simp [ksPut, dsPut]
    · have e' : ¬ q = k := fun z => e z.symm
      by_cases a : ((ks.zip ys).any fun kv => decide (kv.1 = q)) = true
      · rw [putK, if_pos a] at ih
        rw [List.zip_cons_cons, putK, if_pos (by rw [List.any_cons, a, Bool.or_true]), List.map_cons, if_neg e, ih]
        have m : q ∈ ks := by
          rw [List.any_eq_true] at a
          obtain ⟨kv, h1, h2⟩ := a
          exact of_decide_eq_true h2 ▸ (List.of_mem_zip h1).1
        simp [ksPut, dsPut, e, e', m]
      · rw [putK, if_neg a] at ih
        rw [List.zip_cons_cons, putK, if_neg (by rw [List.any_cons]; simp [e]; simpa using a), List.cons_append, ih]
        have m : ¬ q ∈ ks := fun m => by
          obtain ⟨j, hj⟩ := List.mem_iff_getElem?.mp m
          have hj2 : j < ks.length := (List.getElem?_eq_some_iff.mp hj).1
          refine a (List.any_eq_true.mpr ⟨(q, ys[j]'(by omega)), List.mem_iff_getElem?.mpr ⟨j, ?_⟩, by simp⟩)
          exact List.getElem?_zip_eq_some.mpr ⟨hj, List.getElem?_eq_getElem _⟩
        simp [ksPut, dsPut, e, e', m]
theorem val_zip : ∀ {ks : List (List Key)} {vs : List V} {q : List Key}, ks.length = vs.length → (valV (ks.zip vs) q).isSome = decide (q ∈ ks)
  | [], [], q, _ => rfl
  | [], _ :: _, q, h => by simp at h
  | _ :: _, [], q, h => by simp at h
  | k :: ks, y :: ys, q, h => by
    have ih := val_zip (ks := ks) (vs := ys) (q := q) (by simpa using h)
    by_cases e : k = q
    · subst e; rw [List.zip_cons_cons, valV_pos rfl]; simp
    · have e' : ¬ q = k := fun z => e z.symm
      rw [List.zip_cons_cons, valV_neg e, ih]; simp [e']
theorem RepL.dput {K : PySem.W.Frag} {H : Hp} {v : V} {d : D} (h0 : Rep K H v d) : ∀ {ks : List (List Key)} {vs : List V} {ds : List D} {q : List Key}, RepL K H vs ds → RepL K H (dsPut ks vs q v) (dsPut ks ds q d)
  | ks, _, [], q, r => by
    simp only [RepL] at r; subst r
    cases ks <;> exact .one h0
  | [], _, d1 :: ds, q, r => by
    have r' := r
    simp only [RepL] at r'
    obtain ⟨w, r1, rfl, h1, h2⟩ := r'
    exact r.append (.one h0)
  | k :: ks, _, d1 :: ds, q, r => by
    simp only [RepL] at r
    obtain ⟨w, r1, rfl, h1, h2⟩ := r
    unfold dsPut
    by_cases e : k = q
    · rw [if_pos e, if_pos e]; exact .cons h0 h2
    · rw [if_neg e, if_neg e]; exact .cons h1 (RepL.dput h0 h2)
theorem ksPut_nodup {ks : List (List Key)} {q : List Key} (h : ks.Nodup) : (ksPut ks q).Nodup := by
  unfold ksPut
  split
  · exact h
  · rename_i m
    exact List.nodup_append.mpr ⟨h, by simp, fun a ha b hb => by simp at hb; subst hb; exact fun z => m (z ▸ ha)⟩

/-! ### keys -/
def keysL : List D → Option (List Key)
  | [] => some []
  | d :: ds => match dKey d, keysL ds with
    | some k, some ks => some (k :: ks)
    | _, _ => none
def keyT : D → Option (List Key)
  | .tup ds => keysL ds
  | _ => none
theorem keysL_rep {K : PySem.W.Frag} {H : Hp} : ∀ {ds : List D} {ks : List Key} {vs : List V}, keysL ds = some ks → RepL K H vs ds → vs = ks.map kV
  | [], _, _, e, r => by simp only [keysL] at e; cases e; simpa [RepL] using r
  | d :: ds, _, _, e, r => by
    simp only [keysL] at e
    simp only [RepL] at r
    obtain ⟨v, vr, rfl, r1, r2⟩ := r
    split at e
    · rename_i k ks e1 e2
      cases e
      have h2 := keysL_rep e2 r2
      subst h2
      cases d with
      | int i => cases e1; simp only [Rep] at r1; subst r1; rfl
      | str z => cases e1; simp only [Rep] at r1; subst r1; rfl
      | _ => simp [dKey] at e1
    · cases e
theorem keyT_rep {K : PySem.W.Frag} {H : Hp} {d : D} {q : List Key} {v : V} (e : keyT d = some q) (r : Rep K H v d) : ∃ b, v = .ref b ∧ H b = some (.tup (q.map kV)) := by
  cases d with
  | tup ds =>
    simp only [Rep] at r
    obtain ⟨b, vs, rfl, h1, h2⟩ := r
    have := keysL_rep e h2
    subst this
    exact ⟨b, rfl, h1⟩
  | _ => simp [keyT] at e
theorem keys_rep {K : PySem.W.Frag} {H : Hp} : ∀ (q : List Key), RepL K H (q.map kV) (q.map keyD)
  | [] => .nil
  | k :: q => by
    refine RepL.cons ?_ (keys_rep q)
    cases k <;> simp only [keyD, kV, Rep]
theorem repL_get {K : PySem.W.Frag} {H : Hp} : ∀ {ds : List D} {vs : List V}, vs.length = ds.length → (∀ (j : Nat) v d, vs[j]? = some v → ds[j]? = some d → Rep K H v d) → RepL K H vs ds
  | [], [], _, _ => .nil
  | [], _ :: _, h, _ => by simp at h
  | _ :: _, [], h, _ => by simp at h
  | d :: ds, v :: vs, h, f => .cons (f 0 v d rfl rfl) (repL_get (by simpa using h) fun j v d h1 h2 => f (j + 1) v d (by simpa using h1) (by simpa using h2))

/-! ### meanings -/
/-- x = {} -/
def sDNewT (i : Nat) : MS := fun k ρ => i < ρ.l.length ∧ k.nx (ρ.st i (.own (.dT [] [])))
/-- e in x -/
def eDTIn (i : Nat) (m : ME) : ME := fun ρ k x => m ρ (fun d ρ1 => match keyT d with
  | some q => match ρ1.l[i]? with
    | some (.own (.dT ks ds)) => k (.bl (decide (q ∈ ks))) ρ1
    | _ => False
  | none => False) x
/-- x[e] = v -/
def sDTPut (i : Nat) (mk mv : ME) : MS := fun k ρ => mv ρ (fun d ρ1 => (∃ c, ρ1.l[i]? = some (.own c)) ∧ mk ρ1 (fun kd ρ2 => match keyT kd with
  | some q => match ρ2.l[i]? with
    | some (.own (.dT ks ds)) => ks.length < sizeLine ∧ ks.Nodup ∧ k.nx (ρ2.st i (.own (.dT (ksPut ks q) (dsPut ks ds q d))))
    | _ => False
  | none => False) k.xn) k.xn
def pairD : List (List Key) → List D → List D
  | q :: ks, d :: ds => .tup [.tup (q.map keyD), d] :: pairD ks ds
  | _, _ => []
/-- tuple(x.items()) -/
def eDTItems (i : Nat) : ME := fun ρ k x => match ρ.l[i]? with
  | some (.own (.dT ks ds)) => k (.tup (pairD ks ds)) ρ
  | _ => False
theorem pairD_get : ∀ {ks : List (List Key)} {ds : List D} {j : Nat} {p : D}, (pairD ks ds)[j]? = some p → ∃ q d, ks[j]? = some q ∧ ds[j]? = some d ∧ p = .tup [.tup (q.map keyD), d]
  | [], _, j, p, h => by simp [pairD] at h
  | _ :: _, [], j, p, h => by simp [pairD] at h
  | q :: ks, d :: ds, 0, p, h => by
    simp [pairD] at h
    exact ⟨q, d, rfl, rfl, h.symm⟩
  | q :: ks, d :: ds, j + 1, p, h => by
    simp only [pairD, List.getElem?_cons_succ] at h
    obtain ⟨q', d', h1, h2, h3⟩ := pairD_get h
    exact ⟨q', d', by simpa using h1, by simpa using h2, h3⟩
theorem pairD_len : ∀ {ks : List (List Key)} {ds : List D}, ks.length = ds.length → (pairD ks ds).length = ks.length
  | [], [], _ => rfl
  | [], _ :: _, h => by simp at h
  | _ :: _, [], h => by simp at h
  | q :: ks, d :: ds, h => by simp [pairD, pairD_len (ks := ks) (ds := ds) (by simpa using h)]

section
variable {K : PySem.W.Frag} {U : Vol} {E : XS} {te tv : TE} {m mv : ME} {i : Nat}
theorem snd_dnewT : SndS K U E (tAsg tDNewT (gName i)) (sDNewT i) := by
  intro Z σ ρ H k Dn I h0 f p hp
  obtain ⟨hi, h0⟩ := h0
  obtain ⟨I1, hv⟩ := I.more (o := .dT []) hp
  have nh := I.fresh hp
  have I2 := I1.putOwn (i := i) (c := .dT [] []) (fun z => nh (.inl z)) (fun z => nh (.inr (.inl z))) upd_same (by
    have := RepM.dT (K := K) (Hv := VH U (fun a => Z a ∨ a = p) σ ρ (upd H p (.dT []))) (ks := []) (vs := []) (ds := []) rfl .nil
    exact this) hi
  refine f.nx _ _ _ (fun a o n1 n2 n3 => ⟨same_new hp _ _ n3, ?_⟩) I2 h0
  rintro ⟨j, q1, c, q2⟩
  by_cases e : i = j
  · subst e
    rw [List.getElem?_set_self (by rw [I.len]; exact hi)] at q1
    cases q1
    rw [hp] at n3; cases n3
  · rw [List.getElem?_set_ne e] at q1
    rw [show (ρ.st i (.own (.dT [] []))).l = ρ.l.set i (.own (.dT [] [])) from rfl, List.getElem?_set_ne e] at q2
    exact n2 ⟨j, q1, c, q2⟩
theorem repM_dT {H : Hp} {o : HO} {ks : List (List Key)} {ds : List D} (r : RepM K H o (.dT ks ds)) : ∃ vs, o = .dT (ks.zip vs) ∧ ks.length = vs.length ∧ RepL K H vs ds := by
  cases r with
  | dT e h => exact ⟨_, rfl, e, h⟩
theorem snd_dtIn (h : SndE K U E te m) : SndE K U E (tDIn te (tVar i)) (eDTIn i m) := by
  intro Z σ ρ H k x Q I h0 q X
  refine h Z σ ρ H _ x _ I h0 (fun d ρ1 v H1 t1 I1 r1 h1 => ?_) X
  split at h1
  · rename_i qk ek
    split at h1
    · rename_i ks ds e
      obtain ⟨p, o, e1, e2, e3⟩ := I1.own i _ e
      obtain ⟨vs, rfl, hl, rr⟩ := repM_dT e3
      obtain ⟨b, rfl, hb⟩ := keyT_rep ek r1
      refine ⟨.ref p, e1, p, _, rfl, DGet.t e2 (hide_sub _ _ hb), ?_⟩
      rw [val_zip hl]
      exact q _ ρ1 _ H1 t1 I1 (by simp only [Rep]) h1
    · exact h1.elim
  · exact h1.elim
theorem snd_dtPut (hk : SndE K U E te m) (hv : SndE K U E tv mv) : SndS K U E (sDPut (tVar i) te tv) (sDTPut i m mv) := by
  intro Z σ ρ H k Dn I h0 f
  refine hv Z σ ρ H _ _ _ I h0 (fun d ρ1 v H1 t1 I1 r1 h1 => ?_) f.xn.e
  obtain ⟨⟨c, hc⟩, h1⟩ := h1
  obtain ⟨p, o, e1, _, _⟩ := I1.own i _ hc
  refine ⟨.ref p, e1, hk Z σ ρ1 H1 _ _ _ I1 h1 (fun kd ρ2 kv H2 t2 I2 r2 h2 => ?_) (f.go t1).xn.e⟩
  split at h2
  · rename_i qk ek
    split at h2
    · rename_i ks ds e
      obtain ⟨hz, hn, h2⟩ := h2
      obtain ⟨p', o', g1, g2, g3⟩ := I2.own i _ e
      rw [e1] at g1; cases g1
      obtain ⟨vs, rfl, hl, rr⟩ := repM_dT g3
      obtain ⟨b, rfl, hb⟩ := keyT_rep ek r2
      refine ⟨p, _, rfl, DPut.t g2 (hide_sub _ _ hb) (by rw [List.length_zip]; omega), ?_⟩
      rw [put_zip hl hn]
      obtain ⟨I3, T3⟩ := I2.write (o := .dT ((ksPut ks qk).zip (dsPut ks vs qk v))) e e1 (.dT (dsPut_len hl) (RepL.dput (r1.mono t2.vis) rr))
      exact f.nx _ _ _ ((t1.trans t2).trans T3) I3 h2
    · exact h2.elim
  · exact h2.elim
end
end DL

set_option maxRecDepth 100000
set_option maxHeartbeats 1000000
/-! DL29: tuple(x.items()) of an own dict; the rules by syntax. -/
namespace DL
open PySem PySem.Spec PyProof.Rows L2
section
open PySem.Calls PySem.W
variable {prog : Program} {w : World} {A : Around} {E : Value → Shared → Prop} {s : Shared} {r d : Addr} {es : Array DictEntry} {ep : Nat}
theorem code_tuple_items {Q₁ : Value → Shared → Prop} (hh : A.handled = none) (hv : s.heap.IsItemsView r d) (hm : DT.Raw s.heap d es ep) (hn : es.size ≤ sizeLine)
    (h : ∀ (h' : Heap) (tk : Nat) (as : List Addr), (∀ b o, s.heap.get? b = some o → h'.get? b = some o) → as.length = es.size → DT.Made es s.heap.objs.size h' as →
      Q₁ (.ref h'.objs.size) { s with heap := h'.push { cls := .type "tuple", data := .seq (as.map Value.ref).toArray }, toks := tk }) :
    codeAny (model prog w) A (.call (.builtin "tuple.__new__") ⟨[.type "tuple", .ref r], []⟩) (wants Q₁ E) s := by
  refine codeAny_of_tree ?_
  show wpAny _ A.in1 (do checkBuiltinCall "tuple.__new__" ⟨[.type "tuple", .ref r], []⟩; again (.builtin "tuple.__new__" ⟨[.type "tuple", .ref r], []⟩)) _ _ s
  refine wpAny_bind (wpAny_of_eq (PySem.F.newCall_tuple_1 _) (wpAny_pure ⟨plainId_quiet PySem.F.plain_tuple_new _, codeAny_builtin PySem.F.entry_tuple_new ?_⟩))
  rw [Around.under_plainId PySem.F.plain_tuple_new _]
  have hsub := sub_tuple_self
  have hinit := init_tuple_lookup
  have hmh := madeHere_tuple
  have hTI : s.TypeIs (.ref r) "dict_items" := hv.typeIs
  have hh1 : A.in1.handled = none := hh
  wp_walk using wpAny_typeOf hTI, DT.collectI (A := A.in1) hh1 hv hm hn
  intro h' tk as hk hlt hl hG
  show wpAny _ _ (Builtin.Tuple.tupleExact (as.map Value.ref).toArray >>= fun v => ret v) _ _ _
  unfold Builtin.Tuple.tupleExact
  refine wpAny_bind (wpAny_newObj_type ?_ (by show (as.map Value.ref).toArray.size ≤ sizeLine; rw [List.size_toArray, List.length_map, hl]; exact hn))
  refine wpAny_pure ?_
  exact h h' tk as hk hl hG
theorem call_tuple_items {Q : Value → Shared → Prop} (hh : A.handled = none) (hv : s.heap.IsItemsView r d) (hm : DT.Raw s.heap d es ep) (hn : es.size ≤ sizeLine)
    (hQ : ∀ (h' : Heap) (tk : Nat) (as : List Addr), (∀ b o, s.heap.get? b = some o → h'.get? b = some o) → as.length = es.size → DT.Made es s.heap.objs.size h' as →
      Q (.ref h'.objs.size) { s with heap := h'.push { cls := .type "tuple", data := .seq (as.map Value.ref).toArray }, toks := tk }) :
    wpAny (model prog w) A (call (.type "tuple") [.ref r]) Q E s := by
  refine callType_codes (Q₁ := fun obj s₁ => s₁.TypeIs obj "tuple" ∧ Q obj s₁) PySem.F.called_tuple (PySem.F.typeCall_tuple_1 _) PySem.F.entry_object_init
    (code_tuple_items (A := A.in1) hh hv hm hn fun h' tk as hk hl hG => ⟨⟨_, Heap.get?_push_size _ rfl, rfl⟩, hQ h' tk as hk hl hG⟩) fun obj s₁ h₁ => ?_
  exact ⟨h₁.1, PySem.F.args_object_init_2 obj _, object_init_meets PySem.F.called_tuple.init.lookup PySem.F.called_tuple.made (by decide) prog w A.in1 _ s₁ ⟨h₁.1, rfl, h₁.2⟩⟩
end
open L2.DX
theorem vals_refs : ∀ as : List Addr, Vals (as.map V.ref) (as.map Value.ref)
  | [] => .nil
  | a :: as => .cons rfl (vals_refs as)
/-- tuple(v), v the view of the items of a dict with tuples as keys -/
def rTupItems : List V → Hp → VK → Prop := fun vs H Q => ∃ (p a : Addr) (kvs : List (List Key × V)), vs = [.ref p] ∧ H p = some (itemsO p a) ∧ H a = some (.dT kvs) ∧
  ∀ (H' : Hp) (l : Addr) (as : List Addr), (∀ b o, H b = some o → H' b = some o) → as.length = kvs.length → H' l = some (.tup (as.map V.ref)) →
    (∀ (j : Nat) kv b, kvs[j]? = some kv → as[j]? = some b → ∃ kq, H' b = some (.tup [.ref kq, kv.2]) ∧ H kq = some (.tup (kv.1.map kV))) → Q (.ref l) H'
theorem cr_tupItems {X : Cx} (hc : X.calm = true) : CallR X (.type "tuple") rTupItems := by
  intro pins s σ H xs us Q I r h
  obtain ⟨p, a, kvs, rfl, hp, ha, q⟩ := h
  obtain rfl := Vals.ref1 r
  have view : s.heap.IsItemsView p a := (show ObjOk X.prog X.w H s.heap p (itemsO p a) from I.hok p _ hp).1
  obtain ⟨z, hd, xs', rel, o, es, ep, ho, hx, hdat, hes, his, hn⟩ := dt_of I.hok ha
  have l1 : kvs.length = xs'.length := Paired.length rel
  have l2 : es.size = xs'.length := size_of_entries hes
  have hh : X.A.handled = none := I.ok.hd hc
  refine call_tuple_items (es := es) (ep := ep) hh view ⟨o, ho, hx, hdat⟩ (by rw [l2, ← l1]; exact z) fun h' tk as hk hl hG => ?_
  have lak : as.length = kvs.length := by omega
  have nd : as.Nodup := List.Pairwise.imp (fun h => Nat.ne_of_lt h) hG.rise
  have pr : ∀ (j : Nat) (b : Addr), as[j]? = some b → ∃ (kv : List Key × V) (kq : Addr) (u : Value), kvs[j]? = some kv ∧ H kq = some (.tup (kv.1.map kV)) ∧ RelV kv.2 u ∧ h'.get? b = some { cls := .type "tuple", data := .seq #[Value.ref kq, u] } := by
    intro j b hj
    obtain ⟨en, he, hg⟩ := hG.pairs j b hj
    rw [entry_at hes j] at he
    cases hxj : xs'[j]? with
    | none =>
      rw [hxj] at he
      exact nomatch (show (none : Option DictEntry) = some en from he)
    | some x =>
      rw [hxj] at he
      have een : entryOfKey (tupleKind (mixKind X.prog X.w)) x = en := Option.some.inj he
      obtain ⟨e0, he0, r1, r2, r3⟩ := pget rel hxj
      refine ⟨e0, x.2.1, x.2.2, he0, r2, r3, ?_⟩
      rw [hg, ← een]
      all_goals rfl
  have I0 : Inv X pins σ H { s with heap := h', toks := tk } := I.kept (t' := tk) hk
  obtain ⟨H2, I2, k2, t2⟩ := takeT (P := fun b vs => ∃ (j : Nat) (kv : List Key × V) (kq : Addr), as[j]? = some b ∧ kvs[j]? = some kv ∧ H kq = some (.tup (kv.1.map kV)) ∧ vs = [.ref kq, kv.2]) I as H I0 nd fun b hb => by
    obtain ⟨j, hj⟩ := List.mem_iff_getElem?.mp hb
    obtain ⟨kv, kq, u, h1, h2, h3, h4⟩ := pr j b hj
    have hab : s.heap.objs.size ≤ b := Nat.le_of_lt (hG.above b hb)
    exact ⟨hab, I.hok.fresh hab, [.ref kq, kv.2], ⟨j, kv, kq, hj, h1, h2, rfl⟩, fun H2 => ⟨by show 2 ≤ sizeLine; decide, [.ref kq, u], .cons rfl (.cons h3 .nil), ⟨_, h4, rfl, _, rfl⟩⟩⟩
  have I3 : Inv X pins σ (upd H2 h'.objs.size (.tup (as.map V.ref))) { s with heap := h'.push { cls := .type "tuple", data := .seq (as.map Value.ref).toArray }, toks := tk } :=
    I2.laid (t' := tk) (fun b o e => Heap.get?_push_of_some _ e) (Nat.le_refl _) (show ObjOk X.prog X.w _ _ _ (.tup (as.map V.ref)) from ⟨by rw [List.length_map, lak]; exact z, as.map Value.ref, vals_refs as, IsTup.new _ _⟩)
  have hf : H2 h'.objs.size = none := I2.hok.fresh (Nat.le_refl _)
  have k3 : ∀ b o, H2 b = some o → upd H2 h'.objs.size (.tup (as.map V.ref)) b = some o := fun b o e => by rw [upd_ne (ne_of_none e hf)]; exact e
  refine ⟨.ref h'.objs.size, _, I3, rfl, q _ _ as (fun b o e => k3 b o (k2 b o e)) lak upd_same fun j kv b hj1 hj2 => ?_⟩
  obtain ⟨vs, ⟨j', kv', kq, g1, g2, g3, rfl⟩, e⟩ := t2 b (List.mem_of_getElem? hj2)
  have ej : j' = j := by
    have h1 := (List.getElem?_eq_some_iff.mp g1)
    have h2 := (List.getElem?_eq_some_iff.mp hj2)
    obtain ⟨a1, a2⟩ := h1
    obtain ⟨b1, b2⟩ := h2
    exact (List.getElem_inj nd).mp (a2.trans b2.symm)
  subst ej
  rw [hj1] at g2; cases g2
  exact ⟨kq, k3 _ _ e, g3⟩

section
variable {K : PySem.W.Frag} {U : Vol} {E : XS} {i : Nat}
def tItT (K : PySem.W.Frag) (i : Nat) : TE := fun σ H Q => tBM0 K "dict" rItemsT (tVar i) σ H fun x H1 => rTupItems [x] H1 Q
theorem snd_dtItems : SndE K U E (tItT K i) (eDTItems i) := by
  intro Z σ ρ H k x Q I h0 q X
  unfold eDTItems at h0
  split at h0
  · rename_i ks ds e
    obtain ⟨p, o, e1, e2, e3⟩ := I.own i _ e
    obtain ⟨vs, rfl, hl, rr⟩ := repM_dT e3
    refine ⟨.ref p, e1, .inr (.inr (.inl ⟨rfl, .inr ⟨_, e2⟩⟩)), p, ks.zip vs, rfl, rfl, e2, fun w hw => ?_⟩
    refine ⟨w, p, ks.zip vs, rfl, upd_same, same_new hw _ _ e2, fun H' l as k1 la hl' hp => ?_⟩
    have s1 : Same H H' := fun b o e => k1 b o (same_new hw b o e)
    have I1 := I.same s1
    have hz : (ks.zip vs).length = ks.length := by rw [List.length_zip]; omega
    have hlen : (pairD ks ds).length = ks.length := pairD_len (by rw [hl, rr.len])
    refine q _ ρ _ H' (.of_same s1) I1 ?_ h0
    simp only [Rep]
    refine ⟨l, as.map V.ref, rfl, (hide_no (I1.tupSeen hl')).trans hl', repL_get (by rw [List.length_map, la, hz, hlen]) fun j v d hv hd => ?_⟩
    obtain ⟨qk, dd, h1, h2, rfl⟩ := pairD_get hd
    rw [List.getElem?_map] at hv
    obtain ⟨b, hb, rfl⟩ := Option.map_eq_some_iff.mp hv
    obtain ⟨vv, h3, h4⟩ := rr.get' h2
    obtain ⟨kq, g1, g2⟩ := hp j (qk, vv) b (List.getElem?_zip_eq_some.mpr ⟨h1, h3⟩) hb
    have g2' : H' kq = some (.tup (qk.map kV)) := k1 _ _ g2
    simp only [Rep]
    refine ⟨b, _, rfl, (hide_no (I1.tupSeen g1)).trans g1, .cons ?_ (.one (h4.mono (hide_same s1)))⟩
    simp only [Rep]
    exact ⟨kq, _, rfl, (hide_no (I1.tupSeen g2')).trans g2', keys_rep qk⟩
  · exact h0.elim
end
section
variable {ι : Type} {Xs : ι → Cx} {P : Program} {w : World} {K : PySem.W.Frag} {mg : Str → Option Value} {base : Heap} {U : Vol} {E : XS} {lv : Nat} {pos p p2 p3 pos' apos cpos npos : Pos} {a b c e v o : Expr} {m mv : ME} {x : Str}
theorem room1 (F : Fam Xs P w K mg base E lv) (j : ι) : (Xs j).A.units + 1 < cLine := by have := F.u j; omega
theorem ds_dnewT (F : Fam Xs P w K mg base E lv) (i : Nat) (hi : ∀ j, (Xs j).N[i]? = some x := by intro _; rfl) (hx : ∀ j, Loc (Xs j).env.scope x := by intro _; first | exact Or.inl rfl | exact Or.inr rfl) (hs : ∀ j, swapsWith (.Dict [] [] p) (some (.Name x pos')) pos.line (Xs j).env = pure false := by intro _; rfl)
    (hf : ∀ j, (Xs j).fn x = true ∨ (Xs j).env.scope.names.lookup x = some .local := by intro _; first | exact .inl rfl | exact .inr rfl) : DS Xs K U E (.Assign [.Name x pos'] (.Dict [] [] p) pos) (sDNewT i) :=
  ⟨_, fun j => ps_set (F.nd j) (hi j) (hx j) pe_dnewT (hs j) (hf j), snd_dnewT⟩
theorem de_dtIn (F : Fam Xs P w K mg base E lv) (i : Nat) (h : DE Xs K U E e m) (hN : ∀ j, (Xs j).N[i]? = some x := by intro _; rfl) (hv : ∀ j, Vis (Xs j).env.scope x := by intro _; first | exact Or.inl rfl | exact Or.inr (Or.inl rfl) | exact Or.inr (Or.inr rfl))
    (hd : (x == ("__debug__" : Str)) = false := by decide) (hcd : (x == ("__classdict__" : Str)) = false := by decide) (hb : behindInMarks .In (.Name x npos) = false := by rfl) : DE Xs K U E (.Compare e [.In] [.Name x npos] pos) (eDTIn i m) := by
  obtain ⟨t, h, s⟩ := h
  exact ⟨_, fun j => pe_cmp (pc_din (room1 F j) (h j) (pe_var (hN j) (hv j) hd hcd)) hb, snd_dtIn s⟩
theorem dt_dtIn (F : Fam Xs P w K mg base E lv) (i : Nat) (h : DE Xs K U E e m) (hN : ∀ j, (Xs j).N[i]? = some x := by intro _; rfl) (hv : ∀ j, Vis (Xs j).env.scope x := by intro _; first | exact Or.inl rfl | exact Or.inr (Or.inl rfl) | exact Or.inr (Or.inr rfl))
    (hd : (x == ("__debug__" : Str)) = false := by decide) (hcd : (x == ("__classdict__" : Str)) = false := by decide) (hb : behindInMarks .In (.Name x npos) = false := by rfl) : DT Xs K U E (.Compare e [.In] [.Name x npos] pos) (eTest (eDTIn i m)) := by
  obtain ⟨t, h, s⟩ := h
  exact ⟨_, fun j => pt_cmp (pc_din (room1 F j) (h j) (pe_var (hN j) (hv j) hd hcd)) hb, snd_test (snd_dtIn s)⟩
theorem ds_dtPut (F : Fam Xs P w K mg base E lv) (i : Nat) (h : DE Xs K U E e m) (hv : DE Xs K U E v mv) (hN : ∀ j, (Xs j).N[i]? = some x := by intro _; rfl) (hvi : ∀ j, Vis (Xs j).env.scope x := by intro _; first | exact Or.inl rfl | exact Or.inr (Or.inl rfl) | exact Or.inr (Or.inr rfl))
    (hd : (x == ("__debug__" : Str)) = false := by decide) (hcd : (x == ("__classdict__" : Str)) = false := by decide) (hs : ∀ j, swapsWith v (some (.Subscript (.Name x npos) e pos')) pos.line (Xs j).env = pure false := by intro _; rfl) : DS Xs K U E (.Assign [.Subscript (.Name x npos) e pos'] v pos) (sDTPut i m mv) := by
  obtain ⟨t, h, s⟩ := h
  obtain ⟨u, hv, sv⟩ := hv
  exact ⟨_, fun j => ps_dput (room1 F j) (pe_var (hN j) (hvi j) hd hcd) (h j) (hv j) (hs j), snd_dtPut s sv⟩
theorem pe_tupItems {X : Cx} {o : Expr} {to : TE} (hc : X.calm = true) (hg : Gl X "tuple") (hm : X.mg "tuple" = none) (ho : PE X o to) (hbase : attributeBase o "items" X.env (eval o X.env) = eval o X.env) (hline : (apos.endLine == cpos.line) = true)
    (na : starEach [.Call (.Attribute o "items" apos) [] [] cpos] X.env = (false, eval (.Call (.Attribute o "items" apos) [] [] cpos) X.env) :: starEach [] X.env) :
    PE X (.Call (.Name "tuple" p) [.Call (.Attribute o "items" apos) [] [] cpos] [] pos) (fun σ H Q => tBM0 X.K "dict" rItemsT to σ H fun x H1 => rTupItems [x] H1 Q) := by
  refine ⟨fun pins s σ H Q I h => ?_⟩
  have hi := pe_bm0 (apos := apos) (cpos := cpos) PySem.F.plainAttrs_dict PySem.F.slot_dict_items PySem.F.type_dict_items mt_itemsT ho hbase hline
  exact Call_ (ld_blt I hg hm boot_tuple (PyProof.Rows.callWith_type1 (one_arg hi I h (fun v s2 y H2 I2 r q => cr_tupItems hc pins s2 σ H2 [y] [v] Q I2 (.cons r .nil) q) na) na))
theorem de_dtItems (F : Fam Xs P w K mg base E lv) (i : Nat) (hm : mg "tuple" = none) (hN : ∀ j, (Xs j).N[i]? = some x := by intro _; rfl) (hv : ∀ j, Vis (Xs j).env.scope x := by intro _; first | exact Or.inl rfl | exact Or.inr (Or.inl rfl) | exact Or.inr (Or.inr rfl))
    (hd : (x == ("__debug__" : Str)) = false := by decide) (hcd : (x == ("__classdict__" : Str)) = false := by decide) (hg : ∀ j, Gl (Xs j) "tuple" := by intro _; rfl)
    (hbase : ∀ j, attributeBase (.Name x npos) "items" (Xs j).env (eval (.Name x npos) (Xs j).env) = eval (.Name x npos) (Xs j).env := by intro _; rfl) (hline : (apos.endLine == cpos.line) = true := by rfl)
    (na : ∀ j, starEach [.Call (.Attribute (.Name x npos) "items" apos) [] [] cpos] (Xs j).env = (false, eval (.Call (.Attribute (.Name x npos) "items" apos) [] [] cpos) (Xs j).env) :: starEach [] (Xs j).env := by intro _; rfl) :
    DE Xs K U E (.Call (.Name "tuple" p) [.Call (.Attribute (.Name x npos) "items" apos) [] [] cpos] [] pos) (eDTItems i) := by
  refine ⟨tItT K i, fun j => ?_, snd_dtItems⟩
  have h := pe_tupItems (p := p) (pos := pos) (F.calm j) (hg j) (by rw [F.mg j]; exact hm) (pe_var (pos := npos) (hN j) (hv j) hd hcd) (hbase j) hline (na j)
  rw [F.k j] at h
  exact h
end
/-! ### tuple constants of the module -/
structure KtC (K : PySem.W.Frag) (mg : Str → Option Value) (x : Str) (ds : List D) : Prop where
  at_ : ∃ (a : Addr) (vs : List V), mg x = some (.ref a) ∧ (∀ H, SqT K H a vs) ∧ ∀ H, RepL K H vs ds
def eKtIn (ds : List D) (neg : Bool) (m : ME) : ME := fun ρ k x => m ρ (fun d ρ1 => match scl d, sclL ds with
  | some v, some vs => k (.bl (if neg then !inV v vs else inV v vs)) ρ1
  | _, _ => False) x
section
variable {ι : Type} {Xs : ι → Cx} {P : Program} {w : World} {K : PySem.W.Frag} {mg : Str → Option Value} {base : Heap} {U : Vol} {E : XS} {lv : Nat} {pos p : Pos} {e : Expr} {m : ME} {te : TE} {x : Str} {ds : List D} {neg : Bool}
theorem snd_ktIn {a : Addr} {vs : List V} (h1 : ∀ H, SqT K H a vs) (h2 : ∀ H, RepL K H vs ds) (s : SndE K U E te m) : SndE K U E (tOp (rIn K neg) te (tC (.ref a))) (eKtIn ds neg m) := by
  intro Z σ ρ H k x Q I h0 q X
  refine s Z σ ρ H _ x _ I h0 (fun d ρ1 v H1 t1 I1 r1 h3 => ?_) X
  split at h3
  · rename_i e1 e2
    obtain ⟨rfl, f⟩ := scl_rep e1 r1
    obtain ⟨rfl, fs⟩ := sclL_rep e2 (h2 H1)
    exact ⟨a, _, rfl, .inr (h1 H1), f, fs, q _ ρ1 _ H1 t1 I1 (by simp only [Rep]) h3⟩
  · exact h3.elim
theorem de_ktIn (F : Fam Xs P w K mg base E lv) (g : KtC K mg x ds) (h : DE Xs K U E e m) (hg : ∀ j, Gl (Xs j) x := by intro _; rfl) (hd : (x == ("__debug__" : Str)) = false := by decide) (hb : behindInMarks .In (.Name x p) = false := by rfl) : DE Xs K U E (.Compare e [.In] [.Name x p] pos) (eKtIn ds false m) := by
  obtain ⟨t, h, s⟩ := h
  obtain ⟨a, vs, hm, h1, h2⟩ := g.at_
  refine ⟨_, fun j => ?_, snd_ktIn h1 h2 s⟩
  have := pe_cmpR (pos := pos) (op_in_seq (X := Xs j)) (h j) (pe_glob (pos := p) (hg j) (by rw [F.mg j]; exact hm) (v := .ref a) rfl hd) hb
  rw [F.k j] at this
  exact this
theorem dt_ktIn (F : Fam Xs P w K mg base E lv) (g : KtC K mg x ds) (h : DE Xs K U E e m) (hg : ∀ j, Gl (Xs j) x := by intro _; rfl) (hd : (x == ("__debug__" : Str)) = false := by decide) (hb : behindInMarks .In (.Name x p) = false := by rfl) : DT Xs K U E (.Compare e [.In] [.Name x p] pos) (eTest (eKtIn ds false m)) := by
  obtain ⟨t, h, s⟩ := h
  obtain ⟨a, vs, hm, h1, h2⟩ := g.at_
  refine ⟨_, fun j => ?_, snd_test (snd_ktIn h1 h2 s)⟩
  have := pt_cmpR (pos := pos) (op_in_seq (X := Xs j)) (h j) (pe_glob (pos := p) (hg j) (by rw [F.mg j]; exact hm) (v := .ref a) rfl hd) hb
  rw [F.k j] at this
  exact this
theorem de_ktNotIn (F : Fam Xs P w K mg base E lv) (g : KtC K mg x ds) (h : DE Xs K U E e m) (hg : ∀ j, Gl (Xs j) x := by intro _; rfl) (hd : (x == ("__debug__" : Str)) = false := by decide) (hb : behindInMarks .NotIn (.Name x p) = false := by rfl) : DE Xs K U E (.Compare e [.NotIn] [.Name x p] pos) (eKtIn ds true m) := by
  obtain ⟨t, h, s⟩ := h
  obtain ⟨a, vs, hm, h1, h2⟩ := g.at_
  refine ⟨_, fun j => ?_, snd_ktIn h1 h2 s⟩
  have := pe_cmpR (pos := pos) (op_notIn_seq (X := Xs j)) (h j) (pe_glob (pos := p) (hg j) (by rw [F.mg j]; exact hm) (v := .ref a) rfl hd) hb
  rw [F.k j] at this
  exact this
theorem dt_ktNotIn (F : Fam Xs P w K mg base E lv) (g : KtC K mg x ds) (h : DE Xs K U E e m) (hg : ∀ j, Gl (Xs j) x := by intro _; rfl) (hd : (x == ("__debug__" : Str)) = false := by decide) (hb : behindInMarks .NotIn (.Name x p) = false := by rfl) : DT Xs K U E (.Compare e [.NotIn] [.Name x p] pos) (eTest (eKtIn ds true m)) := by
  obtain ⟨t, h, s⟩ := h
  obtain ⟨a, vs, hm, h1, h2⟩ := g.at_
  refine ⟨_, fun j => ?_, snd_test (snd_ktIn h1 h2 s)⟩
  have := pt_cmpR (pos := pos) (op_notIn_seq (X := Xs j)) (h j) (pe_glob (pos := p) (hg j) (by rw [F.mg j]; exact hm) (v := .ref a) rfl hd) hb
  rw [F.k j] at this
  exact this
end
end DL

set_option maxRecDepth 100000
set_option maxHeartbeats 1000000
/-! DL30: < and > of tuples of ints; simp forms of DL27..DL30. -/
namespace DL
open PySem PySem.Spec PyProof.Rows L2
def gtI (ns ms : List Int) : Bool := Ob.lexAt (fun j => decide (ns.getD j 0 = ms.getD j 0)) (fun j => decide (ms.getD j 0 < ns.getD j 0)) (decide (ns.length > ms.length)) 0 (min ns.length ms.length)
def ltI (ns ms : List Int) : Bool := HT.lexLt ns ms
def rGtT (K : PySem.W.Frag) : R2 := fun x y H Q => ∃ (a b : Addr) (ns ms : List Int), x = .ref a ∧ y = .ref b ∧ SqT K H a (ns.map V.int) ∧ SqT K H b (ms.map V.int) ∧ Q (.bl (gtI ns ms)) H
open PySem.SeqAt in
theorem op_gtT {X : Cx} (hu : X.A.units < cLine) : OpR X (compareOp .Gt) (rGtT X.K) := by
  intro pins s σ H x y v u Q I rx ry h
  obtain ⟨a, b, ns, ms, rfl, rfl, ha, hb, q⟩ := h
  cases rx
  cases ry
  obtain ⟨its, r1, p1, _⟩ := I.tuple ha
  obtain ⟨its2, r2, p2, _⟩ := I.tuple hb
  have i1 : IntsAre its ns := Vals.ints r1
  have i2 : IntsAre its2 ms := Vals.ints r2
  have e1 : its.toArray.size = ns.length := by rw [List.size_toArray]; exact i1.length
  have e2 : its2.toArray.size = ms.length := by rw [List.size_toArray]; exact i2.length
  have at1 : ∀ j (h1 : j < its.toArray.size), ∃ t, its.toArray[j] = .int (ns.getD j 0) t := fun j h1 => PyProof.Rows.IntsAre.int_at i1 _ _ (by simp at h1; simp [h1])
  have at2 : ∀ j (h1 : j < its2.toArray.size), ∃ t, its2.toArray[j] = .int (ms.getD j 0) t := fun j h1 => PyProof.Rows.IntsAre.int_at i2 _ _ (by simp at h1; simp [h1])
  have R := Ob.RcOp.tuples_gt (A := X.A) (s := s) (e := fun j => decide (ns.getD j 0 = ms.getD j 0)) (r := fun j => decide (ms.getD j 0 < ns.getD j 0)) p1 p2 hu (fun j h1 h2 => by
    obtain ⟨t, et⟩ := at1 j h1
    obtain ⟨t', et'⟩ := at2 j h2
    rw [et, et']
    have z : (ns.getD j 0 == ms.getD j 0) = decide (ns.getD j 0 = ms.getD j 0) := by
      by_cases q : ns.getD j 0 = ms.getD j 0
      · rw [decide_eq_true q]; exact beq_iff_eq.mpr q
      · rw [decide_eq_false q]; exact beq_eq_false_iff_ne.mpr q
    rw [← z]
    exact SeqAt.EqAt.int_int _ _ _ _) (fun j h1 h2 _ => by
    obtain ⟨t, et⟩ := at1 j h1
    obtain ⟨t', et'⟩ := at2 j h2
    rw [et, et']
    exact Ob.RcOp.gt_int _ _ _ _)
  rw [e1, e2] at R
  have z : wpAny (model X.prog X.w) X.A (compareOp .Gt (.ref a) (.ref b)) (EP X pins σ Q) X.xe s := R X.prog X.w X.xe (EP X pins σ Q) ⟨.bl _, H, I, rfl, q⟩
  exact z
def intsL : List D → Option (List Int)
  | [] => some []
  | .int i :: ds => match intsL ds with
    | some ns => some (i :: ns)
    | none => none
  | _ => none
theorem intsL_rep {K : PySem.W.Frag} {H : Hp} : ∀ {ds : List D} {ns : List Int} {vs : List V}, intsL ds = some ns → RepL K H vs ds → vs = ns.map V.int
  | [], _, _, e, r => by simp only [intsL] at e; cases e; simpa [RepL] using r
  | d :: ds, ns, _, e, r => by
    simp only [RepL] at r
    obtain ⟨v, vr, rfl, r1, r2⟩ := r
    cases d with
    | int i =>
      simp only [intsL] at e
      split at e
      · rename_i ms e2
        cases e
        rw [intsL_rep e2 r2]
        simp only [Rep] at r1
        subst r1; rfl
      · cases e
    | _ => simp [intsL] at e
def cmpT (f : List Int → List Int → Bool) : D → D → (D → Prop) → Prop
  | .tup a, .tup b, k => match intsL a, intsL b with
    | some ns, some ms => k (.bl (f ns ms))
    | _, _ => False
  | _, _, _ => False
theorem opS_cmpT {K : PySem.W.Frag} {f : List Int → List Int → Bool} : OpS K (fun x y H Q => ∃ (a b : Addr) (ns ms : List Int), x = .ref a ∧ y = .ref b ∧ SqT K H a (ns.map V.int) ∧ SqT K H b (ms.map V.int) ∧ Q (.bl (f ns ms)) H) (cmpT f) := by
  intro G H v w a b k Q g r1 r2 h q
  unfold cmpT at h
  split at h
  · split at h
    · rename_i e1 e2
      simp only [Rep] at r1 r2
      obtain ⟨p1, vs, rfl, s1, l1⟩ := r1
      obtain ⟨p2, ws, rfl, s2, l2⟩ := r2
      have h1 := intsL_rep e1 l1
      have h2 := intsL_rep e2 l2
      subst h1 h2
      exact ⟨p1, p2, _, _, rfl, rfl, sameT hide_sub s1.toT, sameT hide_sub s2.toT, q _ _ H (Same.refl H) (by simp only [Rep]) h⟩
    · exact h.elim
  · exact h.elim
section
variable {ι : Type} {Xs : ι → Cx} {P : Program} {w : World} {K : PySem.W.Frag} {mg : Str → Option Value} {base : Heap} {U : Vol} {E : XS} {lv : Nat}
theorem c_ltT (F : Fam Xs P w K mg base E lv) : CmpOk Xs K .Lt (cmpT ltI) := ⟨rLtT K, fun j => (by have h := op_ltT (X := Xs j) (by have := F.u j; omega); rw [F.k j] at h; exact h), by
  intro G H v w a b k Q g r1 r2 h q
  obtain ⟨p1, p2, ns, ms, h1, h2, h3, h4, h5⟩ := opS_cmpT G H v w a b k Q g r1 r2 h q
  exact ⟨p1, p2, ns, ms, h1, h2, h3, h4, h5⟩⟩
theorem c_gtT (F : Fam Xs P w K mg base E lv) : CmpOk Xs K .Gt (cmpT gtI) := ⟨rGtT K, fun j => (by have h := op_gtT (X := Xs j) (by have := F.u j; omega); rw [F.k j] at h; exact h), by
  intro G H v w a b k Q g r1 r2 h q
  obtain ⟨p1, p2, ns, ms, h1, h2, h3, h4, h5⟩ := opS_cmpT G H v w a b k Q g r1 r2 h q
  exact ⟨p1, p2, ns, ms, h1, h2, h3, h4, h5⟩⟩
end
theorem intsL_map : ∀ ns : List Int, intsL (ns.map D.int) = some ns
  | [] => rfl
  | n :: ns => by rw [List.map_cons, intsL, intsL_map ns]
section
variable (ρ : EnvD) (K0 : MK) (k : KD) (x : KX) (i j : Nat) (m mv : ME) (ds : List D) (neg : Bool) (d : D) (kk : EnvD → Prop) (f : List Int → List Int → Bool) (a b : List D) (kd : D → Prop)
@[simp ↓] theorem x_gSt : gSt i j (.tup (d :: ds)) ρ kk = kk ((ρ.st i (.dat d)).st j (.dat (.lst ds))) := propext Iff.rfl
@[simp ↓] theorem x_sDNewT : sDNewT i K0 ρ = (i < ρ.l.length ∧ K0.nx (ρ.st i (.own (.dT [] [])))) := propext Iff.rfl
@[simp ↓] theorem x_eDTIn : eDTIn i m ρ k x = m ρ (fun d ρ1 => match keyT d with
  | some q => match ρ1.l[i]? with
    | some (.own (.dT ks ds)) => k (.bl (decide (q ∈ ks))) ρ1
    | _ => False
  | none => False) x := propext Iff.rfl
@[simp ↓] theorem x_sDTPut : sDTPut i m mv K0 ρ = mv ρ (fun d ρ1 => (∃ c, ρ1.l[i]? = some (.own c)) ∧ m ρ1 (fun kd ρ2 => match keyT kd with
  | some q => match ρ2.l[i]? with
    | some (.own (.dT ks ds)) => ks.length < sizeLine ∧ ks.Nodup ∧ K0.nx (ρ2.st i (.own (.dT (ksPut ks q) (dsPut ks ds q d))))
    | _ => False
  | none => False) K0.xn) K0.xn := propext Iff.rfl
@[simp ↓] theorem x_eDTItems : eDTItems i ρ k x = (match ρ.l[i]? with
  | some (.own (.dT ks ds)) => k (.tup (pairD ks ds)) ρ
  | _ => False) := propext Iff.rfl
@[simp ↓] theorem x_eKtIn : eKtIn ds neg m ρ k x = m ρ (fun d ρ1 => match scl d, sclL ds with
  | some v, some vs => k (.bl (if neg then !inV v vs else inV v vs)) ρ1
  | _, _ => False) x := propext Iff.rfl
@[simp ↓] theorem x_cmpT : cmpT f (.tup a) (.tup b) kd = (match intsL a, intsL b with
    | some ns, some ms => kd (.bl (f ns ms))
    | _, _ => False) := propext Iff.rfl
end
end DL

set_option maxRecDepth 100000
set_option maxHeartbeats 1000000
/-! DL31: two keywords turned; tuple constants from the top's facts. -/
namespace DL
open PySem PySem.Spec PyProof.Rows L2
def gSwV (us ws : List V) : List V := match us, ws with
  | [], [a, b] => [b, a]
  | _, _ => []
def swD (ds : List D) : List D := match ds with
  | [a, b] => [b, a]
  | _ => []
theorem swD_rep {K : PySem.W.Frag} {H : Hp} {vs : List V} {ds : List D} (r : RepL K H vs ds) : RepL K H (gSwV [] vs) (swD ds) := by
  have hl := r.len
  unfold gSwV swD
  match vs, ds, r, hl with
  | [], [], _, _ => exact .nil
  | [_], [_], _, _ => exact .nil
  | [v, w], [d, e], r, _ =>
    simp only [RepL] at r
    obtain ⟨_, _, h0, r1, _, _, h1, r2, h2⟩ := r
    cases h0; cases h1
    exact .cons r2 (.one r1)
  | _ :: _ :: _ :: _, _ :: _ :: _ :: _, _, _ => exact .nil
section
variable {P : Program} {w : World} {K : PySem.W.Frag} {mg : Str → Option Value} {base : Heap}
theorem atKs_of {x : Str} {st : Stmt} {N ps ks : List Str} {n : Nat} {sf : DF0} (p : PFn K mg x st) (S : FnScope N ps (defScope st)) (len : ∀ U c ds k x, sf U c ds k x → ds.length = ps.length) (h2 : ps.length = 2)
    (hb : ∀ (kV doc pm : Value) (an : Option Addr) (cdv ct a b : Value), bindArgs (PySem.W.fnOf x x (defArgs st) (defBody st) (defScope st) .none kV doc pm an cdv ct) ⟨[], ks.zip [a, b]⟩ = pure (ps.zip [b, a]))
    (body : ∀ (U : Vol) (E : XK) (cdv : Value) (A : Around) (outer : List Env) (s : Shared) (H : Hp) (f : Addr), Fam (fun _ : Unit => cxOf (L2.CX P w) P w K mg base N x (defScope st) f cdv A outer s H E) P w K mg base (fun _ => E) n →
      ∃ ms, DSs (fun _ : Unit => cxOf (L2.CX P w) P w K mg base N x (defScope st) f cdv A outer s H E) K U (fun _ => E) (defBody st) ms ∧ ∀ c ds k x, sf U c ds k x → ms (MKf k x) (startD N ds c)) : FnAtK P w K mg base (n + 1) x ps ks gSwV sf := by
  obtain ⟨a, fd, Fx, hm⟩ := p
  refine ⟨a, fd, n + 1, fun us ws => (match us, ws with
    | [], [a, b] => [b, a]
    | _, _ => []), fn_ok Fx S len fun U E cdv A outer s H F => body U E cdv A outer s H a F, Nat.le_refl _, hm, Fx.kp, fun s us ws _ hl => ?_, fun {vs us zs ws} r1 r2 => ?_⟩
  · obtain ⟨oc, od, kV, doc, pm, an, cdv, ct, osl, rfl, _, _⟩ := Fx.ex
    rw [h2] at hl
    match us, ws, hl with
    | [], [u, v], _ => exact .of_eq (hb kV doc pm an cdv ct u v)
    | _ :: _, _, hl => simp at hl
    | [], [], hl => simp at hl
    | [], [_], hl => simp at hl
    | [], _ :: _ :: _ :: _, hl => simp at hl
  · cases r1 with
    | cons _ _ => exact .nil
    | nil =>
      cases r2 with
      | nil => exact .nil
      | cons h t => cases t with
        | nil => exact .nil
        | cons h' t' => cases t' with
          | nil => exact .cons h' (.cons h .nil)
          | cons _ _ => exact .nil
theorem ktc_mk {h : Heap} {x : Str} {ds : List D} {a : Addr} {o : Obj} {its : Array Value} {n : Nat} (X : K.In h) (G : h.Ns mainGlobals mg) (q : PySem.W.nsIn K mainGlobals x = some (some (.ref a))) (l : K.lookup a = some o) (hc : o.cls = .type "tuple") (hd : o.data = .seq its n) (hz : its.size ≤ sizeLine) (k : vsOk ds its.toList) : KtC K mg x ds := by
  obtain ⟨vs, r, p⟩ := vsOk_rel k
  exact ⟨a, vs, PySem.W.mg_of X G q, fun H => .inr ⟨o, its, n, l, hc, hd, hz, r⟩, p K⟩
end
end DL

set_option maxRecDepth 100000
set_option maxHeartbeats 1000000
/-! DV1: values of the package. -/
namespace DL
open PySem PySem.Spec PyProof.Rows L2
theorem sq_to {s1 s2 : MS} {K : MK} {ρ : EnvD} (ρ1 : EnvD) (h1 : ∀ G : EnvD → Prop, G ρ1 → s1 { K with nx := G } ρ) (h2 : s2 K ρ1) : sSeq s1 s2 K ρ := h1 _ h2
theorem sq_all {s1 s2 : MS} {K : MK} {ρ : EnvD} (I : EnvD → Prop) (h1 : ∀ G : EnvD → Prop, (∀ ρ', I ρ' → G ρ') → s1 { K with nx := G } ρ) (h2 : ∀ ρ', I ρ' → s2 K ρ') : sSeq s1 s2 K ρ := h1 _ h2
def m_are_items (K : PySem.W.Frag) (U : Vol) (f_is_value_within : DF0) : MS :=
  sRet (eAndV (eCa (isxD K) (aCons (eVar 0) (aCons (eC (.ty "tuple")) (aNil)))) (eCa allD (aCons (eF (fLc (iTpl (eVar 0)) (gNm 2) (tYesM) (eCall (f_is_value_within U) (aCons (eVar 2) (aCons (eVar 1) (aNil)))) [2])) (aNil))))
def m_are_members (K : PySem.W.Frag) (U : Vol) (f_is_points : DF0) (f_is_value_within : DF0) : MS :=
  sSeq (sIf (tNotM (eTru (eCa (isxD K) (aCons (eVar 0) (aCons (eC (.ty "tuple")) (aNil)))))) (sRet (eC (.bl false))) (sNext)) (sSeq (sDNewT 2) (sSeq (sFor (iTpl (eVar 0)) (gNm 3) (sSeq (sIf (tOrM (tNotM (eTru (eCa (isxD K) (aCons (eVar 3) (aCons (eC (.ty "tuple")) (aNil)))))) (tOrM (eTest (eOp neD (eCa lenD (aCons (eVar 3) (aNil))) (eC (.int 2)))) (tOrM (tNotM (eTru (eCall (f_is_points U) (aCons (eOp ixD (eVar 3) (eC (.int 0))) (aNil))))) (eTest (eDTIn 2 (eOp ixD (eVar 3) (eC (.int 0)))))))) (sRet (eC (.bl false))) (sNext)) (sSeq (sIf (tNotM (eTru (eCall (f_is_value_within U) (aCons (eOp ixD (eVar 3) (eC (.int 1))) (aCons (eVar 1) (aNil)))))) (sRet (eC (.bl false))) (sNext)) (sDTPut 2 (eOp ixD (eVar 3) (eC (.int 0))) (eC (.bl true)))))) (sRet (eC (.bl true)))))
def m_is_value_within (K : PySem.W.Frag) (U : Vol) (k_WORDS : List D) (f_are_items : DF0) (f_are_members : DF0) (f_is_decimal : DF0) (f_is_points : DF0) : MS :=
  sSeq (sIf (tOrM (tNotM (eTru (eCa (isxD K) (aCons (eVar 0) (aCons (eC (.ty "tuple")) (aNil)))))) (tOrM (eTest (eOp eqD (eCa lenD (aCons (eVar 0) (aNil))) (eC (.int 0)))) (tNotM (eTru (eCa (isxD K) (aCons (eOp ixD (eVar 0) (eC (.int 0))) (aCons (eC (.ty "str")) (aNil)))))))) (sRet (eC (.bl false))) (sNext)) (sSeq (sAsg (eVar 0) (gSt 2 3)) (sSeq (sIf (eTest (eKtIn k_WORDS false (eVar 2))) (sRet (eOp eqD (eVar 3) (eF (fLst (aNil))))) (sNext)) (sSeq (sIf (eTest (eOp eqD (eVar 2) (eC (.str "number")))) (sRet (eAndV (eOp eqD (eCa lenD (aCons (eVar 3) (aNil))) (eC (.int 2))) (eCall (f_is_decimal U) (aCons (eTup (aCons (eOp ixD (eVar 3) (eC (.int 0))) (aCons (eOp ixD (eVar 3) (eC (.int 1))) (aNil)))) (aNil))))) (sNext)) (sSeq (sIf (eTest (eOp neD (eCa lenD (aCons (eVar 3) (aNil))) (eC (.int 1)))) (sRet (eC (.bl false))) (sNext)) (sSeq (sIf (eTest (eOp eqD (eVar 2) (eC (.str "string")))) (sRet (eCall (f_is_points U) (aCons (eOp ixD (eVar 3) (eC (.int 0))) (aNil)))) (sNext)) (sSeq (sIf (eTest (eOp eqD (eVar 2) (eC (.str "array")))) (sRet (eAndV (eOp gtD (eVar 1) (eC (.int 0))) (eCall (f_are_items U) (aCons (eOp ixD (eVar 3) (eC (.int 0))) (aCons (eOp subD (eVar 1) (eC (.int 1))) (aNil)))))) (sNext)) (sRet (eAndV (eOp eqD (eVar 2) (eC (.str "object"))) (eAndV (eOp gtD (eVar 1) (eC (.int 0))) (eCall (f_are_members U) (aCons (eOp ixD (eVar 3) (eC (.int 0))) (aCons (eOp subD (eVar 1) (eC (.int 1))) (aNil)))))))))))))
def m_is_value (K : PySem.W.Frag) (U : Vol) (k_MOST_LEVELS : D) (f_is_value_within : DF0) : MS :=
  sRet (eCall (f_is_value_within U) (aCons (eVar 0) (aCons (eC k_MOST_LEVELS) (aNil))))
def m_need_value (K : PySem.W.Frag) (U : Vol) (c_InvalidValue : Addr) (f_is_value : DF0) : MS :=
  sIf (tNotM (eTru (eCall (f_is_value U) (aCons (eVar 0) (aNil))))) (sRaise c_InvalidValue) (sNext)
/-- members: pairs of points not seen yet and what f tells -/
def memS (f : D → Bool) : List (List Key) → List D → Bool
  | _, [] => true
  | seen, .tup [k, v] :: ds => isPts k && (match keyT k with
    | some q => !decide (q ∈ seen) && (f v && memS f (seen ++ [q]) ds)
    | none => false)
  | _, _ :: _ => false
def memB (f : D → Bool) : D → Bool
  | .tup ds => memS f [] ds
  | _ => false
def itB (f : D → Bool) : D → Bool
  | .tup ds => ds.all f
  | _ => false
def valW (w : Str) (items members : D → Bool) (ps : List D) : Bool :=
  if w = "null" ∨ w = "true" ∨ w = "false" then ps.isEmpty
  else if w = "number" then (match ps with
    | [a, b] => isDec (.tup [a, b])
    | _ => false)
  else match ps with
    | [p] => if w = "string" then isPts p else if w = "array" then items p else if w = "object" then members p else false
    | _ => false
def valS (items members : D → Bool) : D → Bool
  | .tup (.str w :: ps) => valW w items members ps
  | _ => false
/-- a value with at most so many levels -/
def isVal : Nat → D → Bool
  | 0 => valS (fun _ => false) fun _ => false
  | L + 1 => valS (itB (isVal L)) (memB (isVal L))
def smV (d : D) : Prop := sml 1900 3000 30 d = true
theorem smV_tup {ds : List D} (h : smV (.tup ds)) : ds.length ≤ 3000 ∧ ∀ d ∈ ds, smV d := by
  unfold smV at h ⊢
  rw [sml_tup] at h
  exact ⟨h.1, fun d hd => sml_up (Nat.le_refl _) (Nat.le_refl _) (by omega) (h.2 d hd)⟩
theorem smV_pln {d : D} (h : smV d) : pln 40 d = true := pln_le (by omega) (sml_pln h)
def f_valW (L : Nat) : DF0 := fun _ n ds k _ => ∃ d, ds = [d, .int L] ∧ smV d ∧ k (.bl (isVal L d)) n
def f_items (L : Nat) : DF0 := fun _ n ds k _ => ∃ d, ds = [d, .int L] ∧ smV d ∧ k (.bl (itB (isVal L) d)) n
def f_members (L : Nat) : DF0 := fun _ n ds k _ => ∃ d, ds = [d, .int L] ∧ smV d ∧ k (.bl (memB (isVal L) d)) n
def f_itemsP : Nat → DF0
  | 0 => f_no
  | L + 1 => f_items L
def f_membersP : Nat → DF0
  | 0 => f_no
  | L + 1 => f_members L
def f_is_value : DF0 := fun _ n ds k _ => ∃ d, ds = [d] ∧ smV d ∧ k (.bl (isVal 30 d)) n
def f_need_value (c : Addr) : DF0 := fun _ n ds k x => ∃ d, ds = [d] ∧ smV d ∧ (isVal 30 d = true → k .non n) ∧ (isVal 30 d = false → x (.own c) n)
section
variable {K : PySem.W.Frag} {U : Vol} {n : Nat} {ds : List D} {k : D → Nat → Prop} {x : Xn → Nat → Prop}
theorem is_value_ok (h : f_is_value U n ds k x) : m_is_value K U (.int 30) (f_valW 30) (MKf k x) (startD ["thing"] ds n) := by
  obtain ⟨d, rfl, hp, h⟩ := h
  simp [m_is_value, startD]
  exact ⟨d, rfl, hp, h⟩
theorem need_value_ok {c : Addr} (h : f_need_value c U n ds k x) : m_need_value K U c f_is_value (MKf k x) (startD ["thing"] ds n) := by
  obtain ⟨d, rfl, hp, h1, h2⟩ := h
  simp [m_need_value, startD]
  refine ⟨d, rfl, hp, ?_⟩
  cases e : isVal 30 d with
  | true => simpa using h1 e
  | false => simpa using h2 e
theorem items_ok {L : Nat} (h : f_items L U n ds k x) : m_are_items K U (f_valW L) (MKf k x) (startD ["thing", "left", "one"] ds n) := by
  obtain ⟨d, rfl, hp, h⟩ := h
  cases d with
  | tup ds =>
    obtain ⟨hl, hc⟩ := smV_tup hp
    simp [m_are_items, startD, List.replicate, tyN, tys6, kit6]
    refine lc_mapD ds (fun d => .bl (isVal L d)) rfl (by rw [sizeLine_eq]; omega) (fun a ha K1 hK => ?_) ?_
    · simp
      exact ⟨a, rfl, hc a ha, hK _ rfl⟩
    · simp
      rw [← Function.comp_def, ← List.map_map, all_bl]
      simpa [itB] using h
  | non => simp [m_are_items, startD, List.replicate, tyN, tys6, kit6]; simpa [itB] using h
  | bl b => simp [m_are_items, startD, List.replicate, tyN, tys6, kit6]; simpa [itB] using h
  | int b => simp [m_are_items, startD, List.replicate, tyN, tys6, kit6]; simpa [itB] using h
  | str b => simp [m_are_items, startD, List.replicate, tyN, tys6, kit6]; simpa [itB] using h
  | lst b => simp [m_are_items, startD, List.replicate, tyN, tys6, kit6]; simpa [itB] using h
  | _ => simp [smV, sml] at hp
end
end DL

set_option maxRecDepth 100000
set_option maxHeartbeats 1000000
/-! DV2: values of the package, as far as they go down. -/
namespace DL
open PySem PySem.Spec PyProof.Rows L2
theorem keyT_pts : ∀ {ds : List D}, (∀ d ∈ ds, isPt d = true) → ∃ q, keysL ds = some q
  | [], _ => ⟨[], rfl⟩
  | d :: ds, h => by
    obtain ⟨i, rfl⟩ := isPt_int (h d (by simp))
    obtain ⟨q, hq⟩ := keyT_pts (ds := ds) fun d hd => h d (by simp [hd])
    exact ⟨.inl i :: q, by simp [keysL, dKey, hq]⟩
theorem keyT_of {d : D} (h : isPts d = true) : ∃ q, keyT d = some q := by
  cases d with
  | tup ds =>
    simp [isPts] at h
    exact keyT_pts fun d hd => h.1 d hd
  | _ => simp [isPts] at h
section
variable {K : PySem.W.Frag} {U : Vol} {n : Nat} {ds : List D} {k : D → Nat → Prop} {x : Xn → Nat → Prop}
theorem members_ok {L : Nat} (h : f_members L U n ds k x) : m_are_members K U f_is_points (f_valW L) (MKf k x) (startD ["thing", "left", "names", "pair"] ds n) := by
  obtain ⟨d, rfl, hp, h⟩ := h
  cases d with
  | tup ds =>
    obtain ⟨hl, hc⟩ := smV_tup hp
    simp [m_are_members, startD, List.replicate, tyN, tys6, kit6]
    refine forM_ind (fun rest ρ => ∃ (seen : List (List Key)) (vs : List D) (s3 : Slot), ρ = ⟨[.dat (.tup ds), .dat (.int L), .own (.dT seen vs), s3], n⟩ ∧ (∀ d ∈ rest, smV d) ∧ seen.length + rest.length ≤ 3000 ∧ seen.length = vs.length ∧ seen.Nodup ∧ k (.bl (memS (isVal L) seen rest)) n) (fun ρ hI => ?_) (fun R d rest ρ hR hI => ?_) _ _ ⟨[], [], .no, rfl, hc, by simpa using hl, rfl, List.nodup_nil, h⟩
    · obtain ⟨seen, vs, s3, rfl, _, _, _, _, h⟩ := hI
      simpa [memS] using h
    · obtain ⟨seen, vs, s3, rfl, hs, hz, hsl, hn, h⟩ := hI
      have hd := hs d (by simp)
      cases d with
      | tup es =>
        match es, hd with
        | [], _ => simp [tyN, tys6, kit6]; simpa [memS] using h
        | [_], _ => simp [tyN, tys6, kit6]; simpa [memS] using h
        | _ :: _ :: _ :: tl, _ =>
          have e2 : ¬ ((tl.length : Int) + 1 + 1 + 1 = 2) := by omega
          simp [tyN, tys6, kit6, e2]; simpa [memS] using h
        | [a, v], hd =>
          obtain ⟨_, hc2⟩ := smV_tup hd
          have ha := hc2 a (by simp)
          have hv := hc2 v (by simp)
          simp [tyN, tys6, kit6]
          refine ⟨a, rfl, smV_pln ha, fun ds e => (by subst e; exact Nat.le_trans (smV_tup ha).1 (by omega)), ?_⟩
          cases e1 : isPts a with
          | false => simp; simpa [memS, e1] using h
          | true =>
            obtain ⟨q, hq⟩ := keyT_of e1
            simp [hq]
            by_cases m : q ∈ seen
            · simp [m]; simpa [memS, e1, hq, m] using h
            · simp [m]
              refine ⟨v, rfl, hv, ?_⟩
              cases e2 : isVal L v with
              | false => simp; simpa [memS, e1, hq, m, e2] using h
              | true =>
                simp [hq]
                simp at hz
                refine ⟨by omega, hn, hR _ ⟨ksPut seen q, dsPut seen vs q (.bl true), _, rfl, fun d hd => hs d (by simp [hd]), ?_, dsPut_len hsl, ksPut_nodup hn, ?_⟩⟩
                · simp [ksPut, m]; omega
                · simpa [memS, e1, hq, m, e2, ksPut] using h
      | non => simp [tyN, tys6, kit6]; simpa [memS] using h
      | bl b => simp [tyN, tys6, kit6]; simpa [memS] using h
      | int b => simp [tyN, tys6, kit6]; simpa [memS] using h
      | str b => simp [tyN, tys6, kit6]; simpa [memS] using h
      | lst b => simp [tyN, tys6, kit6]; simpa [memS] using h
      | _ => simp [smV, sml] at hd
  | non => simp [m_are_members, startD, List.replicate, tyN, tys6, kit6]; simpa [memB] using h
  | bl b => simp [m_are_members, startD, List.replicate, tyN, tys6, kit6]; simpa [memB] using h
  | int b => simp [m_are_members, startD, List.replicate, tyN, tys6, kit6]; simpa [memB] using h
  | str b => simp [m_are_members, startD, List.replicate, tyN, tys6, kit6]; simpa [memB] using h
  | lst b => simp [m_are_members, startD, List.replicate, tyN, tys6, kit6]; simpa [memB] using h
  | _ => simp [smV, sml] at hp
def itX : Nat → D → Bool
  | 0 => fun _ => false
  | L + 1 => itB (isVal L)
def memX : Nat → D → Bool
  | 0 => fun _ => false
  | L + 1 => memB (isVal L)
theorem isVal_eq (L : Nat) : isVal L = valS (itX L) (memX L) := by cases L <;> rfl
theorem value_ok {L : Nat} (h : f_valW L U n ds k x) : m_is_value_within K U [.str "null", .str "true", .str "false"] (f_itemsP L) (f_membersP L) f_is_decimal f_is_points (MKf k x) (startD ["thing", "left", "word", "parts"] ds n) := by
  obtain ⟨d, rfl, hp, h⟩ := h
  rw [isVal_eq] at h
  cases d with
  | tup es =>
    obtain ⟨hl, hc⟩ := smV_tup hp
    cases es with
    | nil => simp [m_is_value_within, startD, List.replicate, tyN, tys6, kit6]; simpa [valS] using h
    | cons w ps =>
      have hw := hc w (by simp)
      cases w with
      | str w =>
        have h' : k (.bl (valW w (itX L) (memX L) ps)) n := h
        have hlen : ¬ ((ps.length : Int) + 1 = 0) := by omega
        have hi : scl (.str w) = some (.str w) := rfl
        have hv : inV (.str w) [V.str "null", V.str "true", V.str "false"] = decide (w = "null" ∨ w = "true" ∨ w = "false") := by
          simp [inV]
        simp [m_is_value_within, startD, List.replicate, tyN, tys6, kit6, hlen, scl, sclL, hv]
        by_cases hW : w = "null" ∨ w = "true" ∨ w = "false"
        · delta valW at h'
          rw [if_pos hW] at h'
          rw [if_pos hW]
          cases ps with
          | nil => simpa [plnL, eqvL] using h'
          | cons p ps => simp; exact .inl (by simpa using h')
        · delta valW at h'
          rw [if_neg hW] at h'
          rw [if_neg hW]
          by_cases h1 : w = "number"
          · rw [if_pos h1] at h'
            simp [h1]
            match ps, h', hc with
            | [], h', _ => simpa using h'
            | [_], h', _ => simpa using h'
            | _ :: _ :: _ :: tl, h', _ =>
              have e2 : ¬ ((tl.length : Int) + 1 + 1 + 1 = 2) := by omega
              simp [e2]; simpa using h'
            | [a, b], h', hc =>
              simp
              refine ⟨_, rfl, ?_, h'⟩
              have ha := sml_pln (hc a (by simp))
              have hb := sml_pln (hc b (by simp))
              exact pln_le (m := 31) (by omega) (by simp [pln, plnL, ha, hb])
          · rw [if_neg h1] at h'
            simp [h1]
            match ps, h', hc with
            | [], h', _ => simpa using h'
            | _ :: _ :: tl, h', _ =>
              have e2 : ¬ ((tl.length : Int) + 1 + 1 = 1) := by omega
              simp [e2]; simpa using h'
            | [p], h', hc =>
              have hpp := hc p (by simp)
              try simp
              try dsimp only at h'
              by_cases h2 : w = "string"
              · simp only [if_pos h2] at h'
                simp [h2]
                exact ⟨p, rfl, smV_pln hpp, fun ds e => (by subst e; exact Nat.le_trans (smV_tup hpp).1 (by omega)), h'⟩
              · simp only [if_neg h2] at h'
                simp [h2]
                by_cases h3 : w = "array"
                · simp only [if_pos h3] at h'
                  simp [h3]
                  cases L with
                  | zero => simpa [itX] using h'
                  | succ L =>
                    have e : ((0 : Int) < (L : Int) + 1) := by omega
                    simp [e]
                    exact ⟨p, rfl, hpp, h'⟩
                · simp only [if_neg h3] at h'
                  simp [h3]
                  by_cases h4 : w = "object"
                  · simp only [if_pos h4] at h'
                    simp [h4]
                    cases L with
                    | zero => simpa [memX] using h'
                    | succ L =>
                      have e : ((0 : Int) < (L : Int) + 1) := by omega
                      simp [e]
                      exact ⟨p, rfl, hpp, h'⟩
                  · simp only [if_neg h4] at h'
                    simpa [h4] using h'
      | non => simp [m_is_value_within, startD, List.replicate, tyN, tys6, kit6]; simpa [valS] using h
      | bl b => simp [m_is_value_within, startD, List.replicate, tyN, tys6, kit6]; simpa [valS] using h
      | int b => simp [m_is_value_within, startD, List.replicate, tyN, tys6, kit6]; simpa [valS] using h
      | tup b => simp [m_is_value_within, startD, List.replicate, tyN, tys6, kit6]; simpa [valS] using h
      | lst b => simp [m_is_value_within, startD, List.replicate, tyN, tys6, kit6]; simpa [valS] using h
      | _ => simp [smV, sml] at hw
  | non => simp [m_is_value_within, startD, List.replicate, tyN, tys6, kit6]; simpa [valS] using h
  | bl b => simp [m_is_value_within, startD, List.replicate, tyN, tys6, kit6]; simpa [valS] using h
  | int b => simp [m_is_value_within, startD, List.replicate, tyN, tys6, kit6]; simpa [valS] using h
  | str b => simp [m_is_value_within, startD, List.replicate, tyN, tys6, kit6]; simpa [valS] using h
  | lst b => simp [m_is_value_within, startD, List.replicate, tyN, tys6, kit6]; simpa [valS] using h
  | _ => simp [smV, sml] at hp
end
end DL

set_option maxRecDepth 100000
set_option maxHeartbeats 1000000
/-! DV3: tests of the package. -/
namespace DL
open PySem PySem.Spec PyProof.Rows L2
def m_is_test (K : PySem.W.Frag) (U : Vol) (k_NUMBER : D) (k_SIGNS : List D) (k_STRING : D) (f_is_value : DF0) : MS :=
  sSeq (sIf (tOrM (tNotM (eTru (eCa (isxD K) (aCons (eVar 0) (aCons (eC (.ty "tuple")) (aNil)))))) (tOrM (eTest (eOp neD (eCa lenD (aCons (eVar 0) (aNil))) (eC (.int 2)))) (tOrM (tNotM (eTru (eCa (isxD K) (aCons (eOp ixD (eVar 0) (eC (.int 0))) (aCons (eC (.ty "str")) (aNil)))))) (eTest (eKtIn k_SIGNS true (eOp ixD (eVar 0) (eC (.int 0)))))))) (sRet (eC (.bl false))) (sNext)) (sRet (eAndV (eCall (f_is_value U) (aCons (eOp ixD (eVar 0) (eC (.int 1))) (aNil))) (eOp inD (eOp ixD (eOp ixD (eVar 0) (eC (.int 1))) (eC (.int 0))) (eTup (aCons (eC k_NUMBER) (aCons (eC k_STRING) (aNil)))))))
def m_need_test (K : PySem.W.Frag) (U : Vol) (c_InvalidTest : Addr) (f_is_test : DF0) : MS :=
  sIf (tNotM (eTru (eCall (f_is_test U) (aCons (eVar 0) (aNil))))) (sRaise c_InvalidTest) (sNext)
def m_order_of_values (K : PySem.W.Frag) (U : Vol) (k_NUMBER : D) (f_order : DF0) : MS :=
  sSeq (sIf (eTest (eOp eqD (eOp ixD (eVar 0) (eC (.int 0))) (eC k_NUMBER))) (sRet (eCall (f_order U) (aCons (eSl (eVar 0) (oSome (eC (.int 1))) (oNo)) (aCons (eSl (eVar 1) (oSome (eC (.int 1))) (oNo)) (aNil))))) (sNext)) (sRet (eIf (eTest (eOp (cmpT ltI) (eOp ixD (eVar 0) (eC (.int 1))) (eOp ixD (eVar 1) (eC (.int 1))))) (eUn negD (eC (.int 1))) (eIf (eTest (eOp (cmpT gtI) (eOp ixD (eVar 0) (eC (.int 1))) (eOp ixD (eVar 1) (eC (.int 1))))) (eC (.int 1)) (eC (.int 0)))))
def m_holds (K : PySem.W.Frag) (U : Vol) (f_order_of_values : DF0) : MS :=
  sSeq (sAsg (eVar 1) (gTp (gCs (gNm 2) (gCs (gNm 3) (gNl))) 2)) (sSeq (sIf (eTest (eOp neD (eOp ixD (eVar 0) (eC (.int 0))) (eOp ixD (eVar 3) (eC (.int 0))))) (sRet (eC (.bl false))) (sNext)) (sSeq (sAsg (eCall (f_order_of_values U) (aCons (eVar 0) (aCons (eVar 3) (aNil)))) (gNm 4)) (sSeq (sIf (eTest (eOp eqD (eVar 4) (eC (.int 0)))) (sRet (eOp inD (eVar 2) (eTup (aCons (eC (.str "<=")) (aCons (eC (.str "==")) (aCons (eC (.str ">=")) (aNil))))))) (sNext)) (sRet (eIf (eTest (eOp ltD (eVar 4) (eC (.int 0)))) (eOp inD (eVar 2) (eTup (aCons (eC (.str "<")) (aCons (eC (.str "<=")) (aNil))))) (eOp inD (eVar 2) (eTup (aCons (eC (.str ">")) (aCons (eC (.str ">=")) (aNil))))))))))
def m_passes (K : PySem.W.Frag) (U : Vol) (f_holds : DF0) (f_need_test : DF0) (f_need_value : DF0) : MS :=
  sSeq (sDrop (eCall (f_need_value U) (aCons (eVar 0) (aNil)))) (sSeq (sDrop (eCall (f_need_test U) (aCons (eVar 1) (aNil)))) (sRet (eCall (f_holds U) (aCons (eVar 0) (aCons (eVar 1) (aNil))))))
def sgnB (s : Str) : Bool := decide (s = "<" ∨ s = "<=" ∨ s = "==" ∨ s = ">=" ∨ s = ">")
def opB : D → Bool
  | .tup (.str w :: _) => decide (w = "number" ∨ w = "string")
  | _ => false
def isTest : D → Bool
  | .tup [.str s, v] => sgnB s && (isVal 30 v && opB v)
  | _ => false
def numD (i e : Int) : D := .tup [.str "number", .int i, .int e]
def pstD (ns : List Int) : D := .tup [.str "string", .tup (ns.map D.int)]
def ordS (ns ms : List Int) : Int := if ltI ns ms = true then -1 else if gtI ns ms = true then 1 else 0
def resB (s : Str) (o : Int) : Bool :=
  if o = 0 then decide (s = "<=" ∨ s = "==" ∨ s = ">=") else if o < 0 then decide (s = "<" ∨ s = "<=") else decide (s = ">" ∨ s = ">=")
def holdsB : D → Str → D → Bool
  | .tup [.str a, .int i, .int e], s, .tup [.str b, .int j, .int f] => decide (a = b) && resB s (ordI i e j f)
  | .tup [.str a, .tup xs], s, .tup [.str b, .tup ys] => match intsL xs, intsL ys with
    | some ns, some ms => decide (a = b) && resB s (ordS ns ms)
    | _, _ => false
  | _, _, _ => false
def passB (v : D) : D → Bool
  | .tup [.str s, op] => holdsB v s op
  | _ => false
def decI (i e : Int) : Prop := isDec (.tup [.int i, .int e]) = true ∧ i.natAbs.log2 < 1920
def f_is_test : DF0 := fun _ n ds k _ => ∃ d, ds = [d] ∧ smV d ∧ k (.bl (isTest d)) n
def f_need_test (c : Addr) : DF0 := fun _ n ds k x => ∃ d, ds = [d] ∧ smV d ∧ (isTest d = true → k .non n) ∧ (isTest d = false → x (.own c) n)
def f_order_of_values : DF0 := fun _ n ds k _ => (∃ i e j f, ds = [numD i e, numD j f] ∧ decI i e ∧ decI j f ∧ k (.int (ordI i e j f)) n) ∨ ∃ ns ms, ds = [pstD ns, pstD ms] ∧ k (.int (ordS ns ms)) n
def f_holds : DF0 := fun _ n ds k _ => ∃ v s op, ds = [v, .tup [.str s, op]] ∧ smV v ∧ smV op ∧ isVal 30 v = true ∧ isVal 30 op = true ∧ opB op = true ∧ k (.bl (holdsB v s op)) n
def f_passes (cT cV : Addr) : DF0 := fun _ n ds k x => ∃ v t, ds = [v, t] ∧ smV v ∧ smV t ∧ (isVal 30 v = false → x (.own cV) n) ∧ (isVal 30 v = true → isTest t = false → x (.own cT) n) ∧ (isVal 30 v = true → isTest t = true → k (.bl (passB v t)) n)
theorem val_shape {L : Nat} {v : D} (h : isVal L v = true) : ∃ w ps, v = .tup (.str w :: ps) ∧ valW w (itX L) (memX L) ps = true := by
  rw [isVal_eq] at h
  unfold valS at h
  split at h
  · exact ⟨_, _, rfl, h⟩
  · cases h
theorem isDec_ints {a b : D} (h : isDec (.tup [a, b]) = true) : ∃ i e, a = .int i ∧ b = .int e := by
  cases a <;> cases b <;> first | exact ⟨_, _, rfl, rfl⟩ | (simp [isDec] at h)
theorem valW_num {i m : D → Bool} {ps : List D} (h : valW "number" i m ps = true) : ∃ a e, ps = [.int a, .int e] ∧ isDec (.tup [.int a, .int e]) = true := by
  delta valW at h
  rw [if_neg (by decide), if_pos rfl] at h
  split at h
  · obtain ⟨c, d, rfl, rfl⟩ := isDec_ints h
    exact ⟨c, d, rfl, h⟩
  · cases h
theorem pts_ints : ∀ {ds : List D}, (∀ d ∈ ds, isPt d = true) → ∃ ns : List Int, ds = ns.map D.int
  | [], _ => ⟨[], rfl⟩
  | d :: ds, h => by
    obtain ⟨i, rfl⟩ := isPt_int (h d (by simp))
    obtain ⟨ns, rfl⟩ := pts_ints (ds := ds) fun d hd => h d (by simp [hd])
    exact ⟨i :: ns, rfl⟩
theorem isPts_ints {d : D} (h : isPts d = true) : ∃ ns : List Int, d = .tup (ns.map D.int) := by
  cases d with
  | tup ds =>
    simp [isPts] at h
    obtain ⟨ns, rfl⟩ := pts_ints (fun d hd => h.1 d hd)
    exact ⟨ns, rfl⟩
  | _ => simp [isPts] at h
theorem valW_str {i m : D → Bool} {ps : List D} (h : valW "string" i m ps = true) : ∃ ns : List Int, ps = [.tup (ns.map D.int)] := by
  delta valW at h
  rw [if_neg (by decide), if_neg (by decide)] at h
  split at h
  · rw [if_pos rfl] at h
    obtain ⟨ns, rfl⟩ := isPts_ints h
    exact ⟨ns, rfl⟩
  · cases h
theorem op_shape {op : D} (hs : smV op) (h : isVal 30 op = true) (ho : opB op = true) : (∃ j f, op = numD j f ∧ decI j f) ∨ ∃ ms, op = pstD ms := by
  obtain ⟨w, ps, rfl, hv⟩ := val_shape h
  simp [opB] at ho
  rcases ho with rfl | rfl
  · obtain ⟨a, e, rfl, hd⟩ := valW_num hv
    refine .inl ⟨a, e, rfl, hd, ?_⟩
    have := (smV_tup hs).2 (.int a) (by simp)
    simp [smV, sml] at this
    omega
  · obtain ⟨ns, rfl⟩ := valW_str hv
    exact .inr ⟨ns, rfl⟩
section
variable {K : PySem.W.Frag} {U : Vol} {n : Nat} {ds : List D} {k : D → Nat → Prop} {x : Xn → Nat → Prop}
theorem need_test_ok {c : Addr} (h : f_need_test c U n ds k x) : m_need_test K U c f_is_test (MKf k x) (startD ["thing"] ds n) := by
  obtain ⟨d, rfl, hp, h1, h2⟩ := h
  simp [m_need_test, startD]
  refine ⟨d, rfl, hp, ?_⟩
  cases e : isTest d with
  | true => simpa using h1 e
  | false => simpa using h2 e
theorem is_test_ok (h : f_is_test U n ds k x) : m_is_test K U (.str "number") [.str "<", .str "<=", .str "==", .str ">=", .str ">"] (.str "string") f_is_value (MKf k x) (startD ["thing"] ds n) := by
  obtain ⟨d, rfl, hp, h⟩ := h
  cases d with
  | tup es =>
    obtain ⟨hl, hc⟩ := smV_tup hp
    match es, hp, h, hc with
    | [], _, h, _ => simp [m_is_test, startD, List.replicate, tyN, tys6, kit6]; simpa [isTest] using h
    | [_], _, h, _ => simp [m_is_test, startD, List.replicate, tyN, tys6, kit6]; simpa [isTest] using h
    | _ :: _ :: _ :: tl, _, h, _ =>
      have e2 : ¬ ((tl.length : Int) + 1 + 1 + 1 = 2) := by omega
      simp [m_is_test, startD, List.replicate, tyN, tys6, kit6, e2]; simpa [isTest] using h
    | [w, v], hp, h, hc =>
      have hw := hc w (by simp)
      have hv := hc v (by simp)
      cases w with
      | str s =>
        have hi : inV (.str s) [V.str "<", V.str "<=", V.str "==", V.str ">=", V.str ">"] = sgnB s := by simp [inV, sgnB]
        simp [m_is_test, startD, List.replicate, tyN, tys6, kit6, scl, sclL, hi]
        cases e1 : sgnB s with
        | false => simp; simpa [isTest, e1] using h
        | true =>
          simp
          refine ⟨v, rfl, hv, ?_⟩
          cases e2 : isVal 30 v with
          | false => simp; simpa [isTest, e1, e2] using h
          | true =>
            obtain ⟨w, ps, rfl, _⟩ := val_shape e2
            simp [inD, scl, sclL, inV]
            simpa [isTest, e1, e2, opB] using h
      | non => simp [m_is_test, startD, List.replicate, tyN, tys6, kit6]; simpa [isTest] using h
      | bl b => simp [m_is_test, startD, List.replicate, tyN, tys6, kit6]; simpa [isTest] using h
      | int b => simp [m_is_test, startD, List.replicate, tyN, tys6, kit6]; simpa [isTest] using h
      | tup b => simp [m_is_test, startD, List.replicate, tyN, tys6, kit6]; simpa [isTest] using h
      | lst b => simp [m_is_test, startD, List.replicate, tyN, tys6, kit6]; simpa [isTest] using h
      | _ => simp [smV, sml] at hw
  | non => simp [m_is_test, startD, List.replicate, tyN, tys6, kit6]; simpa [isTest] using h
  | bl b => simp [m_is_test, startD, List.replicate, tyN, tys6, kit6]; simpa [isTest] using h
  | int b => simp [m_is_test, startD, List.replicate, tyN, tys6, kit6]; simpa [isTest] using h
  | str b => simp [m_is_test, startD, List.replicate, tyN, tys6, kit6]; simpa [isTest] using h
  | lst b => simp [m_is_test, startD, List.replicate, tyN, tys6, kit6]; simpa [isTest] using h
  | _ => simp [smV, sml] at hp
theorem order_of_values_ok {c : Addr} (h : f_order_of_values U n ds k x) : m_order_of_values K U (.str "number") (f_order c) (MKf k x) (startD ["one", "other"] ds n) := by
  rcases h with ⟨i, e, j, f, rfl, hi, hj, h⟩ | ⟨ns, ms, rfl, h⟩
  · have c3 : ∀ a b : Int, cutL [D.str (Str.ofString "number"), D.int a, D.int b] (some 1) none = [D.int a, D.int b] := fun a b => rfl
    simp [m_order_of_values, startD, numD, c3]
    refine ⟨_, _, rfl, by simp [pln, plnL], by simp [pln, plnL], fun q => ?_, fun _ q => ?_, fun i' e' j' f' q1 q2 _ _ => ?_⟩
    · rw [hi.1] at q; cases q
    · rw [hj.1] at q; cases q
    · cases q1; cases q2
      exact ⟨hi.2, hj.2, h⟩
  · simp [m_order_of_values, startD, pstD, intsL_map]
    unfold ordS at h
    by_cases e1 : ltI ns ms = true
    · simp [e1] at h ⊢; exact h
    · simp [e1] at h ⊢
      by_cases e2 : gtI ns ms = true
      · simp [e2] at h ⊢; exact h
      · simp [e2] at h ⊢; exact h
theorem holds_ok (h : f_holds U n ds k x) : m_holds K U f_order_of_values (MKf k x) (startD ["value", "test", "sign", "operand", "found"] ds n) := by
  obtain ⟨v, s, op, rfl, hv, ho, h1, h2, h3, h⟩ := h
  obtain ⟨w, ps, rfl, hw⟩ := val_shape h1
  have fin : ∀ o : Int, k (.bl (resB s o)) n → ∀ (l : List Slot), l = [.dat (.tup (.str w :: ps)), .dat (.tup [.str s, op]), .dat (.str s), .dat op, .dat (.int o)] → (sSeq (sIf (eTest (eOp eqD (eVar 4) (eC (.int 0)))) (sRet (eOp inD (eVar 2) (eTup (aCons (eC (.str "<=")) (aCons (eC (.str "==")) (aCons (eC (.str ">=")) (aNil))))))) (sNext)) (sRet (eIf (eTest (eOp ltD (eVar 4) (eC (.int 0)))) (eOp inD (eVar 2) (eTup (aCons (eC (.str "<")) (aCons (eC (.str "<=")) (aNil))))) (eOp inD (eVar 2) (eTup (aCons (eC (.str ">")) (aCons (eC (.str ">=")) (aNil)))))))) (MKf k x) ⟨l, n⟩ := by
    rintro o h l rfl
    unfold resB at h
    by_cases q0 : o = 0
    · simp [q0] at h
      simp [q0, inD, scl, sclL, inV]; exact h
    · by_cases q1 : o < 0
      · simp [q0, q1] at h
        simp [q0, q1, inD, scl, sclL, inV]; exact h
      · simp [q0, q1] at h
        simp [q0, q1, inD, scl, sclL, inV]; exact h
  rcases op_shape ho h2 h3 with ⟨j, f, rfl, hd⟩ | ⟨ms, rfl⟩
  · by_cases e : w = "number"
    · subst e
      obtain ⟨a, e, rfl, hd2⟩ := valW_num hw
      have hb : a.natAbs.log2 < 1920 := by
        have := (smV_tup hv).2 (.int a) (by simp)
        simp [smV, sml] at this
        omega
      have hr : holdsB (.tup [.str "number", .int a, .int e]) s (numD j f) = resB s (ordI a e j f) := by simp [holdsB, numD]
      rw [hr] at h
      simp only [m_holds, startD, numD]
      refine sq_to ⟨[.dat (numD a e), .dat (.tup [.str s, numD j f]), .dat (.str s), .dat (numD j f), .no], n⟩ (fun G hG => by simpa [numD] using hG) ?_
      refine sq_to ⟨[.dat (numD a e), .dat (.tup [.str s, numD j f]), .dat (.str s), .dat (numD j f), .no], n⟩ (fun G hG => by simpa [numD] using hG) ?_
      refine sq_to ⟨[.dat (numD a e), .dat (.tup [.str s, numD j f]), .dat (.str s), .dat (numD j f), .dat (.int (ordI a e j f))], n⟩ (fun G hG => ?_) (fin _ h _ rfl)
      simp
      exact .inl ⟨a, e, j, f, rfl, ⟨hd2, hb⟩, hd, by simpa using hG⟩
    · have hr : holdsB (.tup (.str w :: ps)) s (numD j f) = false := by
        unfold holdsB numD
        split <;> simp_all
      rw [hr] at h
      simp [m_holds, startD, numD, e]; exact h
  · by_cases e : w = "string"
    · subst e
      obtain ⟨ns, rfl⟩ := valW_str hw
      have hr : holdsB (.tup [.str "string", .tup (ns.map D.int)]) s (pstD ms) = resB s (ordS ns ms) := by simp [holdsB, pstD, intsL_map]
      rw [hr] at h
      simp only [m_holds, startD, pstD]
      refine sq_to ⟨[.dat (pstD ns), .dat (.tup [.str s, pstD ms]), .dat (.str s), .dat (pstD ms), .no], n⟩ (fun G hG => by simpa [pstD] using hG) ?_
      refine sq_to ⟨[.dat (pstD ns), .dat (.tup [.str s, pstD ms]), .dat (.str s), .dat (pstD ms), .no], n⟩ (fun G hG => by simpa [pstD] using hG) ?_
      refine sq_to ⟨[.dat (pstD ns), .dat (.tup [.str s, pstD ms]), .dat (.str s), .dat (pstD ms), .dat (.int (ordS ns ms))], n⟩ (fun G hG => ?_) (fin _ h _ rfl)
      simp
      exact .inr ⟨ns, ms, rfl, by simpa using hG⟩
    · have hr : holdsB (.tup (.str w :: ps)) s (pstD ms) = false := by
        unfold holdsB pstD
        split <;> simp_all
        split <;> simp_all
      rw [hr] at h
      simp [m_holds, startD, pstD, e]; exact h
theorem passes_ok {cT cV : Addr} (h : f_passes cT cV U n ds k x) : m_passes K U f_holds (f_need_test cT) (f_need_value cV) (MKf k x) (startD ["value", "test"] ds n) := by
  obtain ⟨v, t, rfl, hv, ht, h1, h2, h3⟩ := h
  simp [m_passes, startD]
  refine ⟨v, rfl, hv, fun e1 => ?_, h1⟩
  refine ⟨t, rfl, ht, fun e2 => ?_, h2 e1⟩
  have h := h3 e1 e2
  unfold isTest at e2
  split at e2
  · rename_i s op
    simp at e2
    exact ⟨v, s, op, rfl, hv, (smV_tup ht).2 op (by simp), e1, e2.2.1, e2.2.2, h⟩
  · cases e2
end
end DL

set_option maxRecDepth 100000
set_option maxHeartbeats 1000000
/-! DV4: the law's drawn values. -/
namespace DL
open PySem PySem.Spec PyProof.Rows L2
def m_law_some_value (K : PySem.W.Frag) (U : Vol) (f_law_draw : DF0) (f_law_pick : DF0) (f_law_some_decimal : DF0) (f_law_some_points : DF0) (f_law_some_value : DF0) : MS :=
  sSeq (sAsg (eCall (f_law_draw U) (aCons (eVar 0) (aCons (eIf (eTest (eOp gtD (eVar 1) (eC (.int 0)))) (eC (.int 9)) (eC (.int 5))) (aNil)))) (gNm 2)) (sSeq (sIf (eTest (eOp ltD (eVar 2) (eC (.int 2)))) (sRet (eOp add2D (eTup (aCons (eC (.str "number")) (aNil))) (eCall (f_law_some_decimal U) (aCons (eVar 0) (aNil))))) (sNext)) (sSeq (sIf (eTest (eOp eqD (eVar 2) (eC (.int 2)))) (sRet (eTup (aCons (eC (.str "string")) (aCons (eCall (f_law_some_points U) (aCons (eVar 0) (aNil))) (aNil))))) (sNext)) (sSeq (sIf (eTest (eOp ltD (eVar 2) (eC (.int 5)))) (sRet (eTup (aCons (eCall (f_law_pick U) (aCons (eVar 0) (aCons (eF (fLst (aCons (eC (.str "null")) (aCons (eC (.str "true")) (aCons (eC (.str "false")) (aNil)))))) (aNil)))) (aNil)))) (sNext)) (sSeq (sIf (eTest (eOp ltD (eVar 2) (eC (.int 7)))) (sRet (eTup (aCons (eC (.str "array")) (aCons (eCa tupD (aCons (eF (fLc (iR1 (aCons (eCall (f_law_draw U) (aCons (eVar 0) (aCons (eC (.int 4)) (aNil)))) (aNil))) (gNm 3) (tYesM) (eCall (f_law_some_value U) (aCons (eVar 0) (aCons (eOp subD (eVar 1) (eC (.int 1))) (aNil)))) [3])) (aNil))) (aNil))))) (sNext)) (sSeq (sDNewT 4) (sSeq (sFor (iR1 (aCons (eCall (f_law_draw U) (aCons (eVar 0) (aCons (eC (.int 4)) (aNil)))) (aNil))) (gNm 3) (sDTPut 4 (eCall (f_law_some_points U) (aCons (eVar 0) (aNil))) (eCall (f_law_some_value U) (aCons (eVar 0) (aCons (eOp subD (eVar 1) (eC (.int 1))) (aNil)))))) (sRet (eTup (aCons (eC (.str "object")) (aCons (eDTItems 4) (aNil)))))))))))
def goodV (m : Nat) (v : D) : Prop := (∀ L, m ≤ L → isVal L v = true) ∧ sml 30 20 (3 * m + 2) v = true
def cstV : Nat → Nat
  | 0 => 8
  | m + 1 => 23 + 3 * cstV m
def f_some_value (m : Nat) : DF0 := fun U n ds k _ => ∃ st gr ce cs T, U = stU st gr ce cs T ∧ n + cstV m ≤ mostN ∧ ds = [.hdl st, .int m] ∧
  ∀ (v : D) (n' : Nat), goodV m v → n ≤ n' → n' ≤ n + cstV m → k v n'
def f_some_valueP : Nat → DF0
  | 0 => f_no
  | m + 1 => f_some_value m
theorem good_num {m : Nat} {a e : Int} (h : isDec (.tup [.int a, .int e]) = true) (ha : a.natAbs ≤ 100000) (he : e.natAbs ≤ 100100) : goodV m (numD a e) := by
  refine ⟨fun L _ => ?_, ?_⟩
  · rw [isVal_eq]
    show valW "number" (itX L) (memX L) [.int a, .int e] = true
    delta valW
    rw [if_neg (by decide), if_pos rfl]
    exact h
  · have h1 := (Nat.log2_lt (n := a.natAbs + 1) (k := 20) (by omega)).2 (by omega)
    have h2 := (Nat.log2_lt (n := e.natAbs + 1) (k := 20) (by omega)).2 (by omega)
    have h3 : a.natAbs.log2 ≤ 30 := by
      by_cases q : a.natAbs = 0
      · rw [q]; decide
      · have := (Nat.log2_lt (n := a.natAbs) (k := 20) q).2 (by omega); omega
    have h4 : e.natAbs.log2 ≤ 30 := by
      by_cases q : e.natAbs = 0
      · rw [q]; decide
      · have := (Nat.log2_lt (n := e.natAbs) (k := 20) q).2 (by omega); omega
    rw [numD, sml_tup]
    refine ⟨by simp, fun d hd => ?_⟩
    simp at hd
    rcases hd with rfl | rfl | rfl
    · simp [sml]; decide
    · simpa [sml] using h3
    · simpa [sml] using h4
theorem inR_sml {m : Nat} {u : Int} (h : inR u = true) : sml 30 20 m (.int u) = true := by
  have h3 : u.natAbs.log2 ≤ 30 := by
    simp [inR] at h
    by_cases q : u.natAbs = 0
    · rw [q]; decide
    · have := (Nat.log2_lt (n := u.natAbs) (k := 21) q).2 (by omega); omega
  cases m <;> simpa [sml] using h3
theorem okI_all {ps : List Int} (h : okI ps = true) : ∀ p ∈ ps, inR p = true := by
  unfold okI at h
  simp at h
  exact h.1
theorem pts_sml {m : Nat} {ps : List Int} (h : okI ps = true) (hl : ps.length ≤ 20) : sml 30 20 (m + 1) (.tup (ps.map D.int)) = true := by
  rw [sml_tup]
  refine ⟨by simpa using hl, fun d hd => ?_⟩
  obtain ⟨p, hp, rfl⟩ := List.mem_map.mp hd
  exact inR_sml (okI_all h p hp)
theorem good_str {m : Nat} {ps : List Int} (h : okI ps = true) (hl : ps.length ≤ 20) : goodV m (pstD ps) := by
  refine ⟨fun L _ => ?_, ?_⟩
  · rw [isVal_eq]
    show valW "string" (itX L) (memX L) [.tup (ps.map D.int)] = true
    delta valW
    rw [if_neg (by decide), if_neg (by decide)]
    show (if ("string" : Str) = "string" then _ else _) = true
    rw [if_pos rfl, isPts_okI]
    exact h
  · rw [pstD, sml_tup]
    refine ⟨by simp, fun d hd => ?_⟩
    simp at hd
    rcases hd with rfl | rfl
    · simp [sml]; decide
    · exact pts_sml h hl
theorem good_word {m : Nat} {w : Str} (h : w = "null" ∨ w = "true" ∨ w = "false") : goodV m (.tup [.str w]) := by
  refine ⟨fun L _ => ?_, ?_⟩
  · rw [isVal_eq]
    show valW w (itX L) (memX L) [] = true
    delta valW
    rw [if_pos h]; rfl
  · rw [sml_tup]
    refine ⟨by simp, fun d hd => ?_⟩
    simp at hd
    subst hd
    rcases h with rfl | rfl | rfl <;> (simp [sml]; decide)
theorem good_arr {m : Nat} {vs : List D} (h : ∀ v ∈ vs, goodV m v) (hl : vs.length ≤ 20) : goodV (m + 1) (.tup [.str "array", .tup vs]) := by
  refine ⟨fun L hL => ?_, ?_⟩
  · obtain ⟨L, rfl⟩ : ∃ l, L = l + 1 := ⟨L - 1, by omega⟩
    rw [isVal_eq]
    show valW "array" _ _ [.tup vs] = true
    delta valW
    rw [if_neg (by decide), if_neg (by decide)]
    show (if ("array" : Str) = "string" then _ else if ("array" : Str) = "array" then _ else _) = true
    rw [if_neg (by decide), if_pos rfl]
    show vs.all (isVal L) = true
    exact List.all_eq_true.2 fun v hv => (h v hv).1 L (by omega)
  · rw [show 3 * (m + 1) + 2 = (3 * m + 4) + 1 by omega, sml_tup]
    refine ⟨by simp, fun d hd => ?_⟩
    simp at hd
    rcases hd with rfl | rfl
    · simp [sml]; decide
    · rw [sml_tup]
      exact ⟨hl, fun d hd => sml_up (Nat.le_refl _) (Nat.le_refl _) (by omega) (h d hd).2⟩
def ptK (ps : List Int) : List Key := ps.map Sum.inl
theorem keyT_ptK : ∀ ps : List Int, keyT (.tup (ps.map D.int)) = some (ptK ps) := by
  intro ps
  show keysL _ = _
  induction ps with
  | nil => rfl
  | cons p ps ih => simp only [List.map_cons, keysL, dKey, ih]; rfl
theorem ptK_D (ps : List Int) : (ptK ps).map keyD = ps.map D.int := by simp [ptK, keyD, Function.comp_def]
theorem memS_pair (f : D → Bool) : ∀ (ks : List (List Key)) (vs : List D) (seen : List (List Key)), (∀ q ∈ ks, ∃ ps, q = ptK ps ∧ okI ps = true) → (∀ v ∈ vs, f v = true) → (seen ++ ks).Nodup → memS f seen (pairD ks vs) = true
  | [], _, _, _, _, _ => by simp [pairD, memS]
  | _ :: _, [], _, _, _, _ => by simp [pairD, memS]
  | q :: ks, v :: vs, seen, h1, h2, h3 => by
    obtain ⟨ps, rfl, hp⟩ := h1 q (by simp)
    have m : ¬ ptK ps ∈ seen := fun m => (List.nodup_append.1 h3).2.2 _ m _ (by simp) rfl
    have ih := memS_pair f ks vs (seen ++ [ptK ps]) (fun q hq => h1 q (by simp [hq])) (fun v hv => h2 v (by simp [hv])) (by simpa using h3)
    simp only [pairD, memS, ptK_D, isPts_okI, hp, keyT_ptK, Bool.true_and]
    simp [m, h2 v (by simp), ih]
theorem mem_dsPut {α : Type} {v x : α} : ∀ {ks : List (List Key)} {vs : List α} {q : List Key}, v ∈ dsPut ks vs q x → v = x ∨ v ∈ vs
  | ks, [], q, h => by cases ks <;> simp [dsPut] at h <;> exact .inl h
  | [], y :: ys, q, h => by simp [dsPut] at h ⊢; rcases h with h | h | h <;> simp [h]
  | k :: ks, y :: ys, q, h => by
    unfold dsPut at h
    split at h
    · simp at h ⊢; rcases h with h | h <;> simp [h]
    · simp at h ⊢
      rcases h with h | h
      · simp [h]
      · rcases mem_dsPut h with h | h <;> simp [h]
theorem mem_ksPut {ks : List (List Key)} {q r : List Key} (h : r ∈ ksPut ks q) : r = q ∨ r ∈ ks := by
  unfold ksPut at h
  split at h
  · exact .inr h
  · simp at h; rcases h with h | h
    · exact .inr h
    · exact .inl h
theorem len_ksPut {ks : List (List Key)} {q : List Key} : (ksPut ks q).length ≤ ks.length + 1 := by
  unfold ksPut
  split
  · omega
  · simp
theorem good_obj {m : Nat} {ks : List (List Key)} {vs : List D} (h1 : ∀ q ∈ ks, ∃ ps, q = ptK ps ∧ okI ps = true ∧ ps.length ≤ 3) (h2 : ∀ v ∈ vs, goodV m v) (hn : ks.Nodup) (hl : ks.length = vs.length) (hz : ks.length ≤ 3) : goodV (m + 1) (.tup [.str "object", .tup (pairD ks vs)]) := by
  refine ⟨fun L hL => ?_, ?_⟩
  · obtain ⟨L, rfl⟩ : ∃ l, L = l + 1 := ⟨L - 1, by omega⟩
    rw [isVal_eq]
    show valW "object" _ _ [.tup (pairD ks vs)] = true
    delta valW
    rw [if_neg (by decide), if_neg (by decide)]
    show (if ("object" : Str) = "string" then _ else if ("object" : Str) = "array" then _ else if ("object" : Str) = "object" then _ else _) = true
    rw [if_neg (by decide), if_neg (by decide), if_pos rfl]
    show memS (isVal L) [] (pairD ks vs) = true
    refine memS_pair _ _ _ _ (fun q hq => ?_) (fun v hv => (h2 v hv).1 L (by omega)) (by simpa using hn)
    obtain ⟨ps, h3, h4, _⟩ := h1 q hq
    exact ⟨ps, h3, h4⟩
  · rw [show 3 * (m + 1) + 2 = (3 * m + 4) + 1 by omega, sml_tup]
    refine ⟨by simp, fun d hd => ?_⟩
    simp at hd
    rcases hd with rfl | rfl
    · simp [sml]; decide
    · rw [sml_tup]
      refine ⟨by rw [pairD_len hl]; omega, fun d hd => ?_⟩
      obtain ⟨j, hj⟩ := List.mem_iff_getElem?.mp hd
      obtain ⟨q, v, g1, g2, rfl⟩ := pairD_get hj
      obtain ⟨ps, rfl, h4, h5⟩ := h1 q (List.mem_of_getElem? g1)
      rw [ptK_D, show 3 * m + 3 = (3 * m + 2) + 1 by omega, sml_tup]
      refine ⟨by simp, fun d hd => ?_⟩
      simp at hd
      rcases hd with rfl | rfl
      · exact pts_sml h4 (by omega)
      · exact sml_up (Nat.le_refl _) (Nat.le_refl _) (by omega) (h2 _ (List.mem_of_getElem? g2)).2
section
variable {K : PySem.W.Frag} {U : Vol} {n : Nat} {ds : List D} {k : D → Nat → Prop} {x : Xn → Nat → Prop}
theorem some_value_ok {m : Nat} (h : f_some_value m U n ds k x) : m_law_some_value K U f_draw f_pick f_some_decimal f_some_points (f_some_valueP m) (MKf k x) (startD ["state", "deep", "way", "lap", "members"] ds n) := by
  obtain ⟨st, gr, ce, cs, T, rfl, hn, rfl, h⟩ := h
  have hc : 8 ≤ cstV m := by cases m <;> simp [cstV] <;> omega
  simp only [m_law_some_value, startD]
  refine sq_all (fun ρ => ∃ (w : Int) (n1 : Nat), 0 ≤ w ∧ w < 9 ∧ (m = 0 → w < 5) ∧ n ≤ n1 ∧ n1 ≤ n + 1 ∧ ρ = ⟨[.dat (.hdl st), .dat (.int m), .dat (.int w), .no, .no], n1⟩) (fun G hG => ?_) ?_
  · simp [List.replicate]
    by_cases e : m = 0
    · subst e
      simp
      exact draw_use (by omega) (by decide) (by decide) fun v n1 v0 v1 l1 u1 => hG _ ⟨v, n1, v0, by omega, fun _ => v1, l1, u1, rfl⟩
    · have e0 : 0 < m := by omega
      simp [e0]
      exact draw_use (by omega) (by decide) (by decide) fun v n1 v0 v1 l1 u1 => hG _ ⟨v, n1, v0, v1, fun z => (e z).elim, l1, u1, rfl⟩
  rintro _ ⟨w, n1, w0, w1, w2, l1, u1, rfl⟩
  by_cases a1 : w < 2
  · simp [a1]
    refine ⟨st, gr, ce, cs, T, rfl, by omega, rfl, fun a e n2 hd ha he l2 u2 => ?_⟩
    simp
    exact h (numD a e) n2 (good_num hd ha he) (by omega) (by omega)
  by_cases a2 : w = 2
  · subst a2
    simp
    refine ⟨st, gr, ce, cs, T, rfl, by omega, rfl, fun ps n2 hp hl l2 u2 => ?_⟩
    exact h (pstD ps) n2 (good_str hp (by omega)) (by omega) (by omega)
  by_cases a3 : w < 5
  · simp [a1, a2, a3]
    refine pick_use (by omega) (by simp) (by simp) fun d n2 hd l2 u2 => ?_
    simp at hd
    obtain ⟨z, rfl, hz⟩ : ∃ z : Str, d = .str z ∧ (z = "null" ∨ z = "true" ∨ z = "false") := by
      rcases hd with rfl | rfl | rfl
      · exact ⟨_, rfl, .inl rfl⟩
      · exact ⟨_, rfl, .inr (.inl rfl)⟩
      · exact ⟨_, rfl, .inr (.inr rfl)⟩
    exact h _ n2 (good_word hz) (by omega) (by omega)
  obtain ⟨m, rfl⟩ : ∃ l, m = l + 1 := ⟨m - 1, by
    by_cases e : m = 0
    · exact (a3 (w2 e)).elim
    · omega⟩
  have em : ((((m + 1 : Nat) : Int)) - 1) = (m : Int) := by omega
  have ec : cstV (m + 1) = 23 + 3 * cstV m := rfl
  by_cases a4 : w < 7
  · simp [a1, a2, a3, a4]
    refine draw_use (by omega) (by decide) (by decide) fun v n2 v0 v1 l2 u2 => ?_
    simp
    refine ⟨by omega, by omega, ?_⟩
    refine lcM_ind (fun rest acc ρ => ∃ (s3 : Slot) (n3 : Nat), acc.length + rest.length ≤ 3 ∧ (∀ d ∈ acc, goodV m d) ∧ n ≤ n3 ∧ n3 ≤ n2 + acc.length * cstV m ∧ ρ = ⟨[.dat (.hdl st), .dat (.int ((m : Int) + 1)), .dat (.int w), s3, .no], n3⟩) (fun acc ρ hI => ?_) (fun R d rest acc ρ hR hI => ?_) _ _ _ ⟨_, n2, by simp [rngL_len]; omega, by simp, by omega, by simp, rfl⟩
    · obtain ⟨s3, n3, q1, q2, q3, q4, rfl⟩ := hI
      simp at q1
      have : acc.length * cstV m ≤ 3 * cstV m := Nat.mul_le_mul_right _ q1
      simp
      exact h _ n3 (good_arr q2 (by omega)) q3 (by omega)
    · obtain ⟨s3, n3, q1, q2, q3, q4, rfl⟩ := hI
      simp at q1
      have hm1 : acc.length * cstV m ≤ 2 * cstV m := Nat.mul_le_mul_right _ (by omega)
      simp
      refine ⟨st, gr, ce, cs, T, rfl, by omega, rfl, fun v n4 hv l4 u4 => ?_⟩
      refine ⟨by omega, hR _ _ ⟨_, n4, by simp; omega, ?_, by omega, ?_, rfl⟩⟩
      · intro d hd
        simp at hd
        rcases hd with hd | rfl
        · exact q2 d hd
        · exact hv
      · rw [List.length_append]
        simp
        rw [Nat.add_mul]
        omega
  · simp [a1, a2, a3, a4]
    refine draw_use (by omega) (by decide) (by decide) fun v n2 v0 v1 l2 u2 => ?_
    simp
    refine ⟨by omega, by omega, ?_⟩
    refine forM_ind (fun rest ρ => ∃ (s3 : Slot) (n3 j : Nat) (ks : List (List Key)) (vs : List D), j + rest.length ≤ 3 ∧ ks.length ≤ j ∧ ks.length = vs.length ∧ ks.Nodup ∧ (∀ q ∈ ks, ∃ ps, q = ptK ps ∧ okI ps = true ∧ ps.length ≤ 3) ∧ (∀ d ∈ vs, goodV m d) ∧ n ≤ n3 ∧ n3 ≤ n2 + j * (7 + cstV m) ∧ ρ = ⟨[.dat (.hdl st), .dat (.int ((m : Int) + 1)), .dat (.int w), s3, .own (.dT ks vs)], n3⟩) (fun ρ hI => ?_) (fun R d rest ρ hR hI => ?_) _ _ ⟨_, n2, 0, [], [], by simp [rngL_len]; omega, by simp, rfl, List.nodup_nil, by simp, by simp, by omega, by simp, rfl⟩
    · obtain ⟨s3, n3, j, ks, vs, q1, q2, q3, q4, q5, q6, q7, q8, rfl⟩ := hI
      simp at q1
      have : j * (7 + cstV m) ≤ 3 * (7 + cstV m) := Nat.mul_le_mul_right _ q1
      simp
      exact h _ n3 (good_obj q5 q6 q4 q3 (by omega)) q7 (by omega)
    · obtain ⟨s3, n3, j, ks, vs, q1, q2, q3, q4, q5, q6, q7, q8, rfl⟩ := hI
      simp at q1
      have hm1 : j * (7 + cstV m) ≤ 2 * (7 + cstV m) := Nat.mul_le_mul_right _ (by omega)
      simp
      refine ⟨st, gr, ce, cs, T, rfl, by omega, rfl, fun v n4 hv l4 u4 => ?_⟩
      simp
      refine ⟨st, gr, ce, cs, T, rfl, by omega, rfl, fun ps n5 hp hl l5 u5 => ?_⟩
      simp [keyT_ptK]
      refine ⟨by omega, q4, hR _ ⟨_, n5, j + 1, ksPut ks (ptK ps), dsPut ks vs (ptK ps) v, by omega, Nat.le_trans len_ksPut (by omega), dsPut_len q3, ksPut_nodup q4, fun q hq => ?_, fun d hd => ?_, by omega, by rw [Nat.add_mul]; omega, rfl⟩⟩
      · rcases mem_ksPut hq with rfl | hq
        · exact ⟨ps, rfl, hp, hl⟩
        · exact q5 q hq
      · rcases mem_dsPut hd with rfl | hd
        · exact hv
        · exact q6 d hd
end
end DL

set_option maxRecDepth 100000
set_option maxHeartbeats 1000000
/-! DV5: the law's tests. -/
namespace DL
open PySem PySem.Spec PyProof.Rows L2
def m_law_passes (K : PySem.W.Frag) (U : Vol) (f_law_order : DF0) : MS :=
  sSeq (sAsg (eVar 1) (gTp (gCs (gNm 2) (gCs (gNm 3) (gNl))) 2)) (sSeq (sIf (eTest (eOp neD (eOp ixD (eVar 0) (eC (.int 0))) (eOp ixD (eVar 3) (eC (.int 0))))) (sRet (eC (.bl false))) (sNext)) (sSeq (sAsg (eIf (eTest (eOp eqD (eOp ixD (eVar 0) (eC (.int 0))) (eC (.str "number")))) (eCall (f_law_order U) (aCons (eSl (eVar 0) (oSome (eC (.int 1))) (oNo)) (aCons (eSl (eVar 3) (oSome (eC (.int 1))) (oNo)) (aNil)))) (eIf (eTest (eOp (cmpT ltI) (eOp ixD (eVar 0) (eC (.int 1))) (eOp ixD (eVar 3) (eC (.int 1))))) (eOp subD (eC (.int 0)) (eC (.int 1))) (eIf (eTest (eOp (cmpT gtI) (eOp ixD (eVar 0) (eC (.int 1))) (eOp ixD (eVar 3) (eC (.int 1))))) (eC (.int 1)) (eC (.int 0))))) (gNm 4)) (sRet (eDIx (eDct [.inr "<", .inr "<=", .inr "==", .inr ">=", .inr ">"] (aCons (eOp ltD (eVar 4) (eC (.int 0))) (aCons (eOp leD (eVar 4) (eC (.int 0))) (aCons (eOp eqD (eVar 4) (eC (.int 0))) (aCons (eOp geD (eVar 4) (eC (.int 0))) (aCons (eOp gtD (eVar 4) (eC (.int 0))) (aNil))))))) (eVar 2)))))
def m_law_some_test (K : PySem.W.Frag) (U : Vol) (f_law_draw : DF0) (f_law_pick : DF0) (f_law_some_decimal : DF0) (f_law_some_points : DF0) : MS :=
  sSeq (sAsg (eIf (eTest (eOp gtD (eCall (f_law_draw U) (aCons (eVar 0) (aCons (eC (.int 3)) (aNil)))) (eC (.int 0)))) (eOp add2D (eTup (aCons (eC (.str "number")) (aNil))) (eCall (f_law_pick U) (aCons (eVar 0) (aCons (eF (fLst (aCons (eCall (f_law_some_decimal U) (aCons (eVar 0) (aNil))) (aCons (eTup (aCons (eC (.int 1)) (aCons (eC (.int 0)) (aNil)))) (aCons (eTup (aCons (eC (.int 1)) (aCons (eC (.int 1)) (aNil)))) (aCons (eTup (aCons (eC (.int 0)) (aCons (eC (.int 0)) (aNil)))) (aCons (eTup (aCons (eC (.int 12)) (aCons (eC (.int 0)) (aNil)))) (aCons (eTup (aCons (eUn negD (eC (.int 5))) (aCons (eC (.int 0)) (aNil)))) (aCons (eTup (aCons (eC (.int 15)) (aCons (eUn negD (eC (.int 1))) (aNil)))) (aNil)))))))))) (aNil))))) (eTup (aCons (eC (.str "string")) (aCons (eCall (f_law_some_points U) (aCons (eVar 0) (aNil))) (aNil))))) (gNm 1)) (sRet (eTup (aCons (eCall (f_law_pick U) (aCons (eVar 0) (aCons (eF (fLst (aCons (eC (.str "<")) (aCons (eC (.str "<=")) (aCons (eC (.str "==")) (aCons (eC (.str ">=")) (aCons (eC (.str ">")) (aNil)))))))) (aNil)))) (aCons (eVar 1) (aNil)))))
def m_law_is_test (K : PySem.W.Frag) (U : Vol) (f_is_value : DF0) : MS :=
  sRet (eAndV (eCa (isxD K) (aCons (eVar 0) (aCons (eC (.ty "tuple")) (aNil)))) (eAndV (eOp eqD (eCa lenD (aCons (eVar 0) (aNil))) (eC (.int 2))) (eAndV (eCa (isxD K) (aCons (eOp ixD (eVar 0) (eC (.int 0))) (aCons (eC (.ty "str")) (aNil)))) (eAndV (eOp inD (eOp ixD (eVar 0) (eC (.int 0))) (eF (fLst (aCons (eC (.str "<")) (aCons (eC (.str "<=")) (aCons (eC (.str "==")) (aCons (eC (.str ">=")) (aCons (eC (.str ">")) (aNil))))))))) (eAndV (eCall (f_is_value U) (aCons (eOp ixD (eVar 0) (eC (.int 1))) (aNil))) (eOp inD (eOp ixD (eOp ixD (eVar 0) (eC (.int 1))) (eC (.int 0))) (eF (fLst (aCons (eC (.str "number")) (aCons (eC (.str "string")) (aNil)))))))))))
def smL (d : D) : Prop := sml 30 20 30 d = true
theorem smL_V {d : D} (h : smL d) : smV d := sml_up (by omega) (by omega) (Nat.le_refl _) h
theorem smL_tup {ds : List D} (h : smL (.tup ds)) : ds.length ≤ 20 ∧ ∀ d ∈ ds, smL d := by
  unfold smL at h ⊢
  rw [sml_tup] at h
  exact ⟨h.1, fun d hd => sml_up (Nat.le_refl _) (Nat.le_refl _) (by omega) (h.2 d hd)⟩
theorem good_L {m : Nat} {v : D} (h : goodV m v) (hm : m ≤ 9) : smL v := sml_up (Nat.le_refl _) (Nat.le_refl _) (by omega) h.2
theorem good_val {m : Nat} {v : D} (h : goodV m v) (hm : m ≤ 9) : isVal 30 v = true := h.1 30 (by omega)
def f_law_passes : DF0 := fun _ n ds k _ => ∃ v s op, ds = [v, .tup [.str s, op]] ∧ sgnB s = true ∧ smL v ∧ smL op ∧ isVal 30 v = true ∧ isVal 30 op = true ∧ opB op = true ∧ k (.bl (holdsB v s op)) n
def f_some_test : DF0 := fun U n ds k _ => ∃ st gr ce cs T, U = stU st gr ce cs T ∧ n + 10 ≤ mostN ∧ ds = [.hdl st] ∧
  ∀ (s : Str) (op : D) (n' : Nat), sgnB s = true → ((∃ a e, op = numD a e) ∨ ∃ ps, op = pstD ps ∧ okI ps = true ∧ ps.length ≤ 3) → goodV 0 op → opB op = true → n ≤ n' → n' ≤ n + 10 → k (.tup [.str s, op]) n'
def f_law_is_test : DF0 := fun _ n ds k _ => ∃ d, ds = [d] ∧ smV d ∧ k (.bl (isTest d)) n
section
variable {K : PySem.W.Frag} {U : Vol} {n : Nat} {ds : List D} {k : D → Nat → Prop} {x : Xn → Nat → Prop}
theorem law_is_test_ok (h : f_law_is_test U n ds k x) : m_law_is_test K U f_is_value (MKf k x) (startD ["thing"] ds n) := by
  obtain ⟨d, rfl, hp, h⟩ := h
  cases d with
  | tup es =>
    obtain ⟨hl, hc⟩ := smV_tup hp
    match es, hp, h, hc with
    | [], _, h, _ => simp [m_law_is_test, startD, List.replicate, tyN, tys6, kit6]; simpa [isTest] using h
    | [_], _, h, _ => simp [m_law_is_test, startD, List.replicate, tyN, tys6, kit6]; simpa [isTest] using h
    | _ :: _ :: _ :: tl, _, h, _ =>
      have e2 : ¬ ((tl.length : Int) + 1 + 1 + 1 = 2) := by omega
      simp [m_law_is_test, startD, List.replicate, tyN, tys6, kit6, e2]; simpa [isTest] using h
    | [w, v], hp, h, hc =>
      have hw := hc w (by simp)
      have hv := hc v (by simp)
      cases w with
      | str s =>
        have hi : inV (.str s) [V.str "<", V.str "<=", V.str "==", V.str ">=", V.str ">"] = sgnB s := by simp [inV, sgnB]
        simp [m_law_is_test, startD, List.replicate, tyN, tys6, kit6, inD, scl, sclL, hi]
        cases e1 : sgnB s with
        | false => simp; simpa [isTest, e1] using h
        | true =>
          simp
          refine ⟨v, rfl, hv, ?_⟩
          cases e2 : isVal 30 v with
          | false => simp; simpa [isTest, e1, e2] using h
          | true =>
            obtain ⟨w, ps, rfl, _⟩ := val_shape e2
            simp [inD, scl, sclL, inV]
            simpa [isTest, e1, e2, opB] using h
      | non => simp [m_law_is_test, startD, List.replicate, tyN, tys6, kit6]; simpa [isTest] using h
      | bl b => simp [m_law_is_test, startD, List.replicate, tyN, tys6, kit6]; simpa [isTest] using h
      | int b => simp [m_law_is_test, startD, List.replicate, tyN, tys6, kit6]; simpa [isTest] using h
      | tup b => simp [m_law_is_test, startD, List.replicate, tyN, tys6, kit6]; simpa [isTest] using h
      | lst b => simp [m_law_is_test, startD, List.replicate, tyN, tys6, kit6]; simpa [isTest] using h
      | _ => simp [smV, sml] at hw
  | non => simp [m_law_is_test, startD, List.replicate, tyN, tys6, kit6]; simpa [isTest] using h
  | bl b => simp [m_law_is_test, startD, List.replicate, tyN, tys6, kit6]; simpa [isTest] using h
  | int b => simp [m_law_is_test, startD, List.replicate, tyN, tys6, kit6]; simpa [isTest] using h
  | str b => simp [m_law_is_test, startD, List.replicate, tyN, tys6, kit6]; simpa [isTest] using h
  | lst b => simp [m_law_is_test, startD, List.replicate, tyN, tys6, kit6]; simpa [isTest] using h
  | _ => simp [smV, sml] at hp
theorem some_test_ok (h : f_some_test U n ds k x) : m_law_some_test K U f_draw f_pick f_some_decimal f_some_points (MKf k x) (startD ["state", "operand"] ds n) := by
  obtain ⟨st, gr, ce, cs, T, rfl, hn, rfl, h⟩ := h
  simp only [m_law_some_test, startD]
  refine sq_all (fun ρ => ∃ (op : D) (n1 : Nat), ((∃ a e, op = numD a e) ∨ ∃ ps, op = pstD ps ∧ okI ps = true ∧ ps.length ≤ 3) ∧ goodV 0 op ∧ opB op = true ∧ n ≤ n1 ∧ n1 ≤ n + 8 ∧ ρ = ⟨[.dat (.hdl st), .dat op], n1⟩) (fun G hG => ?_) ?_
  · simp [List.replicate]
    refine draw_use (by omega) (by decide) (by decide) fun v n1 v0 v1 l1 u1 => ?_
    by_cases e : 0 < v
    · simp [e]
      refine ⟨st, gr, ce, cs, T, rfl, by omega, rfl, fun a e n2 hd ha he l2 u2 => ?_⟩
      simp
      refine pick_use (by omega) (by simp) (by simp) fun d n3 hd3 l3 u3 => ?_
      obtain ⟨b, f, rfl, q1, q2, q3⟩ : ∃ b f : Int, d = .tup [.int b, .int f] ∧ isDec (.tup [.int b, .int f]) = true ∧ b.natAbs ≤ 100000 ∧ f.natAbs ≤ 100100 := by
        simp at hd3
        rcases hd3 with rfl | rfl | rfl | rfl | rfl | rfl | rfl
        · exact ⟨a, e, rfl, hd, ha, he⟩
        all_goals exact ⟨_, _, rfl, by decide, by decide, by decide⟩
      simp
      exact hG _ ⟨numD b f, n3, .inl ⟨b, f, rfl⟩, good_num q1 q2 q3, by simp [numD, opB], by omega, by omega, rfl⟩
    · simp [e]
      refine ⟨st, gr, ce, cs, T, rfl, by omega, rfl, fun ps n2 hp hl l2 u2 => ?_⟩
      exact hG _ ⟨pstD ps, n2, .inr ⟨ps, rfl, hp, hl⟩, good_str hp (by omega), by simp [pstD, opB], by omega, by omega, rfl⟩
  rintro _ ⟨op, n1, ho, hg, hb, l1, u1, rfl⟩
  simp
  refine pick_use (by omega) (by simp) (by simp) fun d n2 hd l2 u2 => ?_
  obtain ⟨z, rfl, hz⟩ : ∃ z : Str, d = .str z ∧ sgnB z = true := by
    simp at hd
    rcases hd with rfl | rfl | rfl | rfl | rfl <;> exact ⟨_, rfl, by decide⟩
  exact h z op n2 hz ho hg hb (by omega) (by omega)
theorem law_passes_ok (h : f_law_passes U n ds k x) : m_law_passes K U f_law_order (MKf k x) (startD ["value", "test", "sign", "operand", "side"] ds n) := by
  obtain ⟨v, s, op, rfl, hs, hv, ho, h1, h2, h3, h⟩ := h
  obtain ⟨w, ps, rfl, hw⟩ := val_shape h1
  have w01 : ¬ (Str.ofString "<" = Str.ofString "<=") := by decide
  have w02 : ¬ (Str.ofString "<" = Str.ofString "==") := by decide
  have w03 : ¬ (Str.ofString "<" = Str.ofString ">=") := by decide
  have w04 : ¬ (Str.ofString "<" = Str.ofString ">") := by decide
  have w12 : ¬ (Str.ofString "<=" = Str.ofString "==") := by decide
  have w13 : ¬ (Str.ofString "<=" = Str.ofString ">=") := by decide
  have w14 : ¬ (Str.ofString "<=" = Str.ofString ">") := by decide
  have w23 : ¬ (Str.ofString "==" = Str.ofString ">=") := by decide
  have w24 : ¬ (Str.ofString "==" = Str.ofString ">") := by decide
  have w34 : ¬ (Str.ofString ">=" = Str.ofString ">") := by decide
  have fin : ∀ o : Int, k (.bl (resB s o)) n → ∀ (l : List Slot), l = [.dat (.tup (.str w :: ps)), .dat (.tup [.str s, op]), .dat (.str s), .dat op, .dat (.int o)] → (sRet (eDIx (eDct [.inr "<", .inr "<=", .inr "==", .inr ">=", .inr ">"] (aCons (eOp ltD (eVar 4) (eC (.int 0))) (aCons (eOp leD (eVar 4) (eC (.int 0))) (aCons (eOp eqD (eVar 4) (eC (.int 0))) (aCons (eOp geD (eVar 4) (eC (.int 0))) (aCons (eOp gtD (eVar 4) (eC (.int 0))) (aNil))))))) (eVar 2))) (MKf k x) ⟨l, n⟩ := by
    rintro o h l rfl
    simp [sgnB] at hs
    rcases hs with rfl | rfl | rfl | rfl | rfl
    · have e : resB "<" o = decide (o < 0) := by
        unfold resB
        by_cases q0 : o = 0
        · subst q0; decide
        · by_cases q1 : o < 0
          · simp [q0, q1]
          · simp [q0, q1]; decide
      rw [e] at h
      simp [dKey, dctGet, List.find?_cons, w01, w02, w03, w04, w12, w13, w14, w23, w24, w34]; simpa using h
    · have e : resB "<=" o = decide (o ≤ 0) := by
        unfold resB
        by_cases q0 : o = 0
        · subst q0; decide
        · by_cases q1 : o < 0
          · have : o ≤ 0 := by omega
            simp [q0, q1, this]
          · have : ¬ o ≤ 0 := by omega
            simp [q0, q1, this]; decide
      rw [e] at h
      simp [dKey, dctGet, List.find?_cons, w01, w02, w03, w04, w12, w13, w14, w23, w24, w34]; simpa using h
    · have e : resB "==" o = decide (o = 0) := by
        unfold resB
        by_cases q0 : o = 0
        · subst q0; decide
        · by_cases q1 : o < 0
          · simp [q0, q1]; decide
          · simp [q0, q1]; decide
      rw [e] at h
      simp [dKey, dctGet, List.find?_cons, w01, w02, w03, w04, w12, w13, w14, w23, w24, w34]; simpa using h
    · have e : resB ">=" o = decide (0 ≤ o) := by
        unfold resB
        by_cases q0 : o = 0
        · subst q0; decide
        · by_cases q1 : o < 0
          · have : ¬ 0 ≤ o := by omega
            simp [q0, q1, this]; decide
          · have : 0 ≤ o := by omega
            simp [q0, q1, this]
      rw [e] at h
      simp [dKey, dctGet, List.find?_cons, w01, w02, w03, w04, w12, w13, w14, w23, w24, w34]; simpa using h
    · have e : resB ">" o = decide (0 < o) := by
        unfold resB
        by_cases q0 : o = 0
        · subst q0; decide
        · by_cases q1 : o < 0
          · have : ¬ 0 < o := by omega
            simp [q0, q1, this]; decide
          · have : 0 < o := by omega
            simp [q0, q1, this]
      rw [e] at h
      simp [dKey, dctGet, List.find?_cons, w01, w02, w03, w04, w12, w13, w14, w23, w24, w34]; simpa using h
  have small : ∀ e : Int, smL (.int e) → e.natAbs < 2 ^ 60 := fun e h => by
    simp [smL, sml] at h
    by_cases q : e.natAbs = 0
    · omega
    · have := (Nat.log2_lt (n := e.natAbs) (k := 31) q).1 (by omega); omega
  rcases op_shape (smL_V ho) h2 h3 with ⟨j, f, rfl, hd⟩ | ⟨ms, rfl⟩
  · by_cases e : w = "number"
    · subst e
      obtain ⟨a, e, rfl, hd2⟩ := valW_num hw
      have c3 : ∀ a b : Int, cutL [D.str (Str.ofString "number"), D.int a, D.int b] (some 1) none = [D.int a, D.int b] := fun a b => rfl
      have hr : holdsB (.tup [.str "number", .int a, .int e]) s (numD j f) = resB s (ordI a e j f) := by simp [holdsB, numD]
      rw [hr] at h
      have he := small e ((smL_tup hv).2 _ (by simp))
      have hf := small f ((smL_tup ho).2 _ (by simp))
      simp only [m_law_passes, startD, numD]
      refine sq_to ⟨[.dat (numD a e), .dat (.tup [.str s, numD j f]), .dat (.str s), .dat (numD j f), .no], n⟩ (fun G hG => by simpa [numD] using hG) ?_
      refine sq_to ⟨[.dat (numD a e), .dat (.tup [.str s, numD j f]), .dat (.str s), .dat (numD j f), .no], n⟩ (fun G hG => by simpa [numD] using hG) ?_
      refine sq_to ⟨[.dat (numD a e), .dat (.tup [.str s, numD j f]), .dat (.str s), .dat (numD j f), .dat (.int (ordI a e j f))], n⟩ (fun G hG => ?_) (fin _ h _ rfl)
      simp [numD, c3]
      exact ⟨a, e, j, f, rfl, he, hf, by simpa [numD] using hG⟩
    · have hr : holdsB (.tup (.str w :: ps)) s (numD j f) = false := by
        unfold holdsB numD
        split <;> simp_all
      rw [hr] at h
      simp [m_law_passes, startD, numD, e]; exact h
  · by_cases e : w = "string"
    · subst e
      obtain ⟨ns, rfl⟩ := valW_str hw
      have hr : holdsB (.tup [.str "string", .tup (ns.map D.int)]) s (pstD ms) = resB s (ordS ns ms) := by simp [holdsB, pstD, intsL_map]
      rw [hr] at h
      simp only [m_law_passes, startD, pstD]
      refine sq_to ⟨[.dat (pstD ns), .dat (.tup [.str s, pstD ms]), .dat (.str s), .dat (pstD ms), .no], n⟩ (fun G hG => by simpa [pstD] using hG) ?_
      refine sq_to ⟨[.dat (pstD ns), .dat (.tup [.str s, pstD ms]), .dat (.str s), .dat (pstD ms), .no], n⟩ (fun G hG => by simpa [pstD] using hG) ?_
      refine sq_to ⟨[.dat (pstD ns), .dat (.tup [.str s, pstD ms]), .dat (.str s), .dat (pstD ms), .dat (.int (ordS ns ms))], n⟩ (fun G hG => ?_) (fin _ h _ rfl)
      simp [pstD, intsL_map]
      unfold ordS at hG
      by_cases e1 : ltI ns ms = true
      · simp [e1, pstD] at hG ⊢; exact hG
      · simp [e1] at hG ⊢
        by_cases e2 : gtI ns ms = true
        · simp [e2, pstD] at hG ⊢; exact hG
        · simp [e2, pstD] at hG ⊢; exact hG
    · have hr : holdsB (.tup (.str w :: ps)) s (pstD ms) = false := by
        unfold holdsB pstD
        split <;> simp_all
        split <;> simp_all
      rw [hr] at h
      simp [m_law_passes, startD, pstD, e]; exact h
end
end DL

set_option maxRecDepth 100000
set_option maxHeartbeats 1000000
namespace K12
open PySem PySem.Spec PyProof.Rows L2 DL
abbrev P : Program := PySem.Challenge.pw_earlysettled_k12_tests
def topS (i : Nat) : Stmt := P.main.body.getD i (.Pass ⟨0, 0, 0, 0⟩)
abbrev s_law_begun : Stmt := topS 42
theorem sc_law_begun : FnScope ["script", "great", "cell"] ["script"] (defScope s_law_begun) := ⟨rfl, rfl, rfl, by decide +kernel, rfl, by decide +kernel, by decide +kernel⟩
abbrev s_law_caught : Stmt := topS 48
theorem sc_law_caught : FnScope ["action", "found", "error"] ["action"] (defScope s_law_caught) := ⟨rfl, rfl, rfl, by decide +kernel, rfl, by decide +kernel, by decide +kernel⟩
/-! ### is_whole -/
abbrev s_is_whole : Stmt := topS 6
theorem sc_is_whole : FnScope ["value"] ["value"] (defScope s_is_whole) := ⟨rfl, rfl, rfl, by decide +kernel, rfl, by decide +kernel, by decide +kernel⟩
set_option maxHeartbeats 4000000 in
theorem b_is_whole {w : World} {K : PySem.W.Frag} {mg : Str → Option Value} {base : Heap} {U : Vol} {E : XK} {cdv : Value} {A : Around} {outer : List Env} {s : Shared} {H : Hp} {f : Addr} {n : Nat}
    (F : Fam (fun _ : Unit => cxOf (L2.CX P w) P w K mg base ["value"] "is_whole" (defScope s_is_whole) f cdv A outer s H E) P w K mg base (fun _ => E) n) (B : Blt mg) :
    DSs (fun _ : Unit => cxOf (L2.CX P w) P w K mg base ["value"] "is_whole" (defScope s_is_whole) f cdv A outer s H E) K U (fun _ => E) (defBody s_is_whole) (m_is_whole K U) :=
  dss_one (ds_ret (de_and F (de_callB F (b_isx F) caS_isx B.isi bt_isi (da_cons (de_var 0) (da_cons (de_ty F B.int bt_int) (da_nil)))) (de_one (de_not F (de_callB F (b_isx F) caS_isx B.isi bt_isi (da_cons (de_var 0) (da_cons (de_ty F B.bool bt_bool) (da_nil))))))))
theorem at_is_whole {w : World} {K : PySem.W.Frag} {mg : Str → Option Value} {base : Heap} (B : Blt mg) (p : PFn K mg "is_whole" s_is_whole) : FnAt P w K mg base 1 "is_whole" ["value"] f_is_whole :=
  at_of (n := 0) p sc_is_whole (by rintro _ _ _ _ _ ⟨_, rfl, _⟩ <;> rfl) (fun _ _ _ _ _ _ us hl => match us, hl with | [_], _ => rfl)
    (fun U E cdv A outer s H f F => ⟨_, b_is_whole F B, fun c ds k x h => whole_ok (K := K) h⟩)
/-! ### is_decimal -/
abbrev s_is_decimal : Stmt := topS 7
theorem sc_is_decimal : FnScope ["value"] ["value"] (defScope s_is_decimal) := ⟨rfl, rfl, rfl, by decide +kernel, rfl, by decide +kernel, by decide +kernel⟩
set_option maxHeartbeats 4000000 in
theorem b_is_decimal {w : World} {K : PySem.W.Frag} {mg : Str → Option Value} {base : Heap} {U : Vol} {E : XK} {cdv : Value} {A : Around} {outer : List Env} {s : Shared} {H : Hp} {f : Addr} {n : Nat}
    (F : Fam (fun _ : Unit => cxOf (L2.CX P w) P w K mg base ["value"] "is_decimal" (defScope s_is_decimal) f cdv A outer s H E) P w K mg base (fun _ => E) n) (B : Blt mg) {f_is_whole : DF0} {l_is_whole : Nat} (C_is_whole : FnAt P w K mg base l_is_whole "is_whole" ["value"] f_is_whole) (e_is_whole : l_is_whole ≤ n) :
    DSs (fun _ : Unit => cxOf (L2.CX P w) P w K mg base ["value"] "is_decimal" (defScope s_is_decimal) f cdv A outer s H E) K U (fun _ => E) (defBody s_is_decimal) (m_is_decimal K U f_is_whole) :=
  dss_cons (ds_if ((dw_or (dt_not (dt_tru F (de_callB F (b_isx F) caS_isx B.isi bt_isi (da_cons (de_var 0) (da_cons (de_ty F B.tuple bt_tuple) (da_nil)))))) (dw_or (dt_cmpO (c_ne F) (de_callB F (b_len F) caS_len B.len bt_len (da_cons (de_var 0) (da_nil))) (de_int)) (dw_or (dt_not (dt_tru F (de_call F C_is_whole (da_cons (de_ix F (de_var 0) (de_int)) (da_nil)) (by omega)))) (dw_or1 (dt_not (dt_tru F (de_call F C_is_whole (da_cons (de_ix F (de_var 0) (de_int)) (da_nil)) (by omega)))))))).dt) (dss_one (ds_ret (de_bl))) (dss_nil)) (dss_one (ds_ret (de_or F (de_cmpO (c_ne F) (de_mod (de_ix F (de_var 0) (de_int)) (de_int)) (de_int)) (de_one (de_cmpO (c_eq F) (de_var 0) (de_tup (da_cons (de_int) (da_cons (de_int) (da_nil)))))))))
theorem at_is_decimal {w : World} {K : PySem.W.Frag} {mg : Str → Option Value} {base : Heap} (B : Blt mg) (p : PFn K mg "is_decimal" s_is_decimal) (C_is_whole : FnAt P w K mg base 1 "is_whole" ["value"] f_is_whole) : FnAt P w K mg base 2 "is_decimal" ["value"] f_is_decimal :=
  at_of (n := 1) p sc_is_decimal (by rintro _ _ _ _ _ ⟨_, rfl, _⟩ <;> rfl) (fun _ _ _ _ _ _ us hl => match us, hl with | [_], _ => rfl)
    (fun U E cdv A outer s H f F => ⟨_, b_is_decimal F B C_is_whole (by decide), fun c ds k x h => decimal_ok (K := K) h⟩)
/-! ### need_decimal -/
abbrev s_need_decimal : Stmt := topS 8
theorem sc_need_decimal : FnScope ["value"] ["value"] (defScope s_need_decimal) := ⟨rfl, rfl, rfl, by decide +kernel, rfl, by decide +kernel, by decide +kernel⟩
set_option maxHeartbeats 4000000 in
theorem b_need_decimal {w : World} {K : PySem.W.Frag} {mg : Str → Option Value} {base : Heap} {U : Vol} {E : XK} {cdv : Value} {A : Around} {outer : List Env} {s : Shared} {H : Hp} {f : Addr} {n : Nat}
    (F : Fam (fun _ : Unit => cxOf (L2.CX P w) P w K mg base ["value"] "need_decimal" (defScope s_need_decimal) f cdv A outer s H E) P w K mg base (fun _ => E) n) (B : Blt mg) {c_InvalidNumber : Addr} (h_InvalidNumber : ExA K mg "InvalidNumber" c_InvalidNumber) {f_is_decimal : DF0} {l_is_decimal : Nat} (C_is_decimal : FnAt P w K mg base l_is_decimal "is_decimal" ["value"] f_is_decimal) (e_is_decimal : l_is_decimal ≤ n) :
    DSs (fun _ : Unit => cxOf (L2.CX P w) P w K mg base ["value"] "need_decimal" (defScope s_need_decimal) f cdv A outer s H E) K U (fun _ => E) (defBody s_need_decimal) (m_need_decimal K U c_InvalidNumber f_is_decimal) :=
  dss_one (ds_if (dt_not (dt_tru F (de_call F C_is_decimal (da_cons (de_var 0) (da_nil)) (by omega)))) (dss_one (ds_raise F h_InvalidNumber)) (dss_nil))
theorem at_need_decimal {w : World} {K : PySem.W.Frag} {mg : Str → Option Value} {base : Heap} (B : Blt mg) (p : PFn K mg "need_decimal" s_need_decimal) {c_InvalidNumber : Addr} (h_InvalidNumber : ExA K mg "InvalidNumber" c_InvalidNumber) (C_is_decimal : FnAt P w K mg base 2 "is_decimal" ["value"] f_is_decimal) : FnAt P w K mg base 3 "need_decimal" ["value"] (f_need_decimal c_InvalidNumber) :=
  at_of (n := 2) p sc_need_decimal (by rintro _ _ _ _ _ ⟨_, rfl, _⟩ <;> rfl) (fun _ _ _ _ _ _ us hl => match us, hl with | [_], _ => rfl)
    (fun U E cdv A outer s H f F => ⟨_, b_need_decimal F B h_InvalidNumber C_is_decimal (by decide), fun c ds k x h => need_ok (K := K) h⟩)
/-! ### sign_of -/
abbrev s_sign_of : Stmt := topS 9
theorem sc_sign_of : FnScope ["decimal"] ["decimal"] (defScope s_sign_of) := ⟨rfl, rfl, rfl, by decide +kernel, rfl, by decide +kernel, by decide +kernel⟩
set_option maxHeartbeats 4000000 in
theorem b_sign_of {w : World} {K : PySem.W.Frag} {mg : Str → Option Value} {base : Heap} {U : Vol} {E : XK} {cdv : Value} {A : Around} {outer : List Env} {s : Shared} {H : Hp} {f : Addr} {n : Nat}
    (F : Fam (fun _ : Unit => cxOf (L2.CX P w) P w K mg base ["decimal"] "sign_of" (defScope s_sign_of) f cdv A outer s H E) P w K mg base (fun _ => E) n) (B : Blt mg) :
    DSs (fun _ : Unit => cxOf (L2.CX P w) P w K mg base ["decimal"] "sign_of" (defScope s_sign_of) f cdv A outer s H E) K U (fun _ => E) (defBody s_sign_of) (m_sign_of K U) :=
  dss_one (ds_ret (de_if (dt_cmpO (c_gt) (de_ix F (de_var 0) (de_int)) (de_int)) (de_int) (de_if (dt_cmpO (c_lt) (de_ix F (de_var 0) (de_int)) (de_int)) (de_neg (de_int)) (de_int))))
theorem at_sign_of {w : World} {K : PySem.W.Frag} {mg : Str → Option Value} {base : Heap} (B : Blt mg) (p : PFn K mg "sign_of" s_sign_of) : FnAt P w K mg base 1 "sign_of" ["decimal"] f_sign_of :=
  at_of (n := 0) p sc_sign_of (by rintro _ _ _ _ _ ⟨_, _, rfl, _⟩ <;> rfl) (fun _ _ _ _ _ _ us hl => match us, hl with | [_], _ => rfl)
    (fun U E cdv A outer s H f F => ⟨_, b_sign_of F B, fun c ds k x h => sign_of_ok (K := K) h⟩)
/-! ### size_of -/
abbrev s_size_of : Stmt := topS 10
theorem sc_size_of : FnScope ["decimal"] ["decimal"] (defScope s_size_of) := ⟨rfl, rfl, rfl, by decide +kernel, rfl, by decide +kernel, by decide +kernel⟩
set_option maxHeartbeats 4000000 in
theorem b_size_of {w : World} {K : PySem.W.Frag} {mg : Str → Option Value} {base : Heap} {U : Vol} {E : XK} {cdv : Value} {A : Around} {outer : List Env} {s : Shared} {H : Hp} {f : Addr} {n : Nat}
    (F : Fam (fun _ : Unit => cxOf (L2.CX P w) P w K mg base ["decimal"] "size_of" (defScope s_size_of) f cdv A outer s H E) P w K mg base (fun _ => E) n) (B : Blt mg) :
    DSs (fun _ : Unit => cxOf (L2.CX P w) P w K mg base ["decimal"] "size_of" (defScope s_size_of) f cdv A outer s H E) K U (fun _ => E) (defBody s_size_of) (m_size_of K U) :=
  dss_one (ds_ret (de_add2 F (de_callB F (b_len F) caS_len B.len bt_len (da_cons (de_callT F (fun _ => call_str_int) caS_str B.str bt_str (da_cons (de_callB F (fun _ => call_abs) caS_abs B.abs bt_abs (da_cons (de_ix F (de_var 0) (de_int)) (da_nil))) (da_nil))) (da_nil))) (de_ix F (de_var 0) (de_int))))
theorem at_size_of {w : World} {K : PySem.W.Frag} {mg : Str → Option Value} {base : Heap} (B : Blt mg) (p : PFn K mg "size_of" s_size_of) : FnAt P w K mg base 1 "size_of" ["decimal"] f_size_of :=
  at_of (n := 0) p sc_size_of (by rintro _ _ _ _ _ ⟨_, _, rfl, _⟩ <;> rfl) (fun _ _ _ _ _ _ us hl => match us, hl with | [_], _ => rfl)
    (fun U E cdv A outer s H f F => ⟨_, b_size_of F B, fun c ds k x h => size_of_ok (K := K) h⟩)
/-! ### order_of -/
abbrev s_order_of : Stmt := topS 11
theorem sc_order_of : FnScope ["one", "other"] ["one", "other"] (defScope s_order_of) := ⟨rfl, rfl, rfl, by decide +kernel, rfl, by decide +kernel, by decide +kernel⟩
set_option maxHeartbeats 4000000 in
theorem b_order_of {w : World} {K : PySem.W.Frag} {mg : Str → Option Value} {base : Heap} {U : Vol} {E : XK} {cdv : Value} {A : Around} {outer : List Env} {s : Shared} {H : Hp} {f : Addr} {n : Nat}
    (F : Fam (fun _ : Unit => cxOf (L2.CX P w) P w K mg base ["one", "other"] "order_of" (defScope s_order_of) f cdv A outer s H E) P w K mg base (fun _ => E) n) (B : Blt mg) :
    DSs (fun _ : Unit => cxOf (L2.CX P w) P w K mg base ["one", "other"] "order_of" (defScope s_order_of) f cdv A outer s H E) K U (fun _ => E) (defBody s_order_of) (m_order_of K U) :=
  dss_one (ds_ret (de_if (dt_cmpO (c_lt) (de_var 0) (de_var 1)) (de_neg (de_int)) (de_if (dt_cmpO (c_gt) (de_var 0) (de_var 1)) (de_int) (de_int))))
theorem at_order_of {w : World} {K : PySem.W.Frag} {mg : Str → Option Value} {base : Heap} (B : Blt mg) (p : PFn K mg "order_of" s_order_of) : FnAt P w K mg base 1 "order_of" ["one", "other"] f_order_of :=
  at_of (n := 0) p sc_order_of (by rintro _ _ _ _ _ (⟨_, _, rfl, _⟩ | ⟨_, _, rfl, _⟩) <;> rfl) (fun _ _ _ _ _ _ us hl => match us, hl with | [_, _], _ => rfl)
    (fun U E cdv A outer s H f F => ⟨_, b_order_of F B, fun c ds k x h => order_of_ok (K := K) h⟩)
/-! ### order_of_sizes -/
abbrev s_order_of_sizes : Stmt := topS 12
theorem sc_order_of_sizes : FnScope ["one", "other", "first", "second", "many"] ["one", "other"] (defScope s_order_of_sizes) := ⟨rfl, rfl, rfl, by decide +kernel, rfl, by decide +kernel, by decide +kernel⟩
set_option maxHeartbeats 4000000 in
theorem b_order_of_sizes {w : World} {K : PySem.W.Frag} {mg : Str → Option Value} {base : Heap} {U : Vol} {E : XK} {cdv : Value} {A : Around} {outer : List Env} {s : Shared} {H : Hp} {f : Addr} {n : Nat}
    (F : Fam (fun _ : Unit => cxOf (L2.CX P w) P w K mg base ["one", "other", "first", "second", "many"] "order_of_sizes" (defScope s_order_of_sizes) f cdv A outer s H E) P w K mg base (fun _ => E) n) (B : Blt mg) {f_order_of : DF0} {l_order_of : Nat} (C_order_of : FnAt P w K mg base l_order_of "order_of" ["one", "other"] f_order_of) (e_order_of : l_order_of ≤ n) {f_size_of : DF0} {l_size_of : Nat} (C_size_of : FnAt P w K mg base l_size_of "size_of" ["decimal"] f_size_of) (e_size_of : l_size_of ≤ n) :
    DSs (fun _ : Unit => cxOf (L2.CX P w) P w K mg base ["one", "other", "first", "second", "many"] "order_of_sizes" (defScope s_order_of_sizes) f cdv A outer s H E) K U (fun _ => E) (defBody s_order_of_sizes) (m_order_of_sizes K U f_order_of f_size_of) :=
  dss_cons (ds_if (dt_cmpO (c_ne F) (de_call F C_size_of (da_cons (de_var 0) (da_nil)) (by omega)) (de_call F C_size_of (da_cons (de_var 1) (da_nil)) (by omega))) (dss_one (ds_ret (de_call F C_order_of (da_cons (de_call F C_size_of (da_cons (de_var 0) (da_nil)) (by omega)) (da_cons (de_call F C_size_of (da_cons (de_var 1) (da_nil)) (by omega)) (da_nil))) (by omega)))) (dss_nil)) (dss_cons (ds_par F 2 3 (da_cons (de_callT F (fun _ => call_str_int) caS_str B.str bt_str (da_cons (de_callB F (fun _ => call_abs) caS_abs B.abs bt_abs (da_cons (de_ix F (de_var 0) (de_int)) (da_nil))) (da_nil))) (da_cons (de_callT F (fun _ => call_str_int) caS_str B.str bt_str (da_cons (de_callB F (fun _ => call_abs) caS_abs B.abs bt_abs (da_cons (de_ix F (de_var 1) (de_int)) (da_nil))) (da_nil))) (da_nil)))) (dss_cons (ds_set F 4 (de_callB F (fun j => call_max2 (F.calm j)) caS_max2 B.max DL.boot_max (da_cons (de_callB F (b_len F) caS_len B.len bt_len (da_cons (de_var 2) (da_nil))) (da_cons (de_callB F (b_len F) caS_len B.len bt_len (da_cons (de_var 3) (da_nil))) (da_nil))))) (dss_one (ds_ret (de_call F C_order_of (da_cons (de_add2 F (de_var 2) (de_mul2 (de_str) (de_sub (de_var 4) (de_callB F (b_len F) caS_len B.len bt_len (da_cons (de_var 2) (da_nil)))))) (da_cons (de_add2 F (de_var 3) (de_mul2 (de_str) (de_sub (de_var 4) (de_callB F (b_len F) caS_len B.len bt_len (da_cons (de_var 3) (da_nil)))))) (da_nil))) (by omega))))))
theorem at_order_of_sizes {w : World} {K : PySem.W.Frag} {mg : Str → Option Value} {base : Heap} (B : Blt mg) (p : PFn K mg "order_of_sizes" s_order_of_sizes) (C_order_of : FnAt P w K mg base 1 "order_of" ["one", "other"] f_order_of) (C_size_of : FnAt P w K mg base 1 "size_of" ["decimal"] f_size_of) : FnAt P w K mg base 2 "order_of_sizes" ["one", "other"] f_order_of_sizes :=
  at_of (n := 1) p sc_order_of_sizes (by rintro _ _ _ _ _ ⟨_, _, _, _, rfl, _⟩ <;> rfl) (fun _ _ _ _ _ _ us hl => match us, hl with | [_, _], _ => rfl)
    (fun U E cdv A outer s H f F => ⟨_, b_order_of_sizes F B C_order_of (by decide) C_size_of (by decide), fun c ds k x h => sizes_ok (K := K) h⟩)
/-! ### order -/
abbrev s_order : Stmt := topS 13
theorem sc_order : FnScope ["one", "other"] ["one", "other"] (defScope s_order) := ⟨rfl, rfl, rfl, by decide +kernel, rfl, by decide +kernel, by decide +kernel⟩
set_option maxHeartbeats 4000000 in
theorem b_order {w : World} {K : PySem.W.Frag} {mg : Str → Option Value} {base : Heap} {U : Vol} {E : XK} {cdv : Value} {A : Around} {outer : List Env} {s : Shared} {H : Hp} {f : Addr} {n : Nat}
    (F : Fam (fun _ : Unit => cxOf (L2.CX P w) P w K mg base ["one", "other"] "order" (defScope s_order) f cdv A outer s H E) P w K mg base (fun _ => E) n) (B : Blt mg) {f_need_decimal : DF0} {l_need_decimal : Nat} (C_need_decimal : FnAt P w K mg base l_need_decimal "need_decimal" ["value"] f_need_decimal) (e_need_decimal : l_need_decimal ≤ n) {f_order_of : DF0} {l_order_of : Nat} (C_order_of : FnAt P w K mg base l_order_of "order_of" ["one", "other"] f_order_of) (e_order_of : l_order_of ≤ n) {f_order_of_sizes : DF0} {l_order_of_sizes : Nat} (C_order_of_sizes : FnAt P w K mg base l_order_of_sizes "order_of_sizes" ["one", "other"] f_order_of_sizes) (e_order_of_sizes : l_order_of_sizes ≤ n) {f_sign_of : DF0} {l_sign_of : Nat} (C_sign_of : FnAt P w K mg base l_sign_of "sign_of" ["decimal"] f_sign_of) (e_sign_of : l_sign_of ≤ n) :
    DSs (fun _ : Unit => cxOf (L2.CX P w) P w K mg base ["one", "other"] "order" (defScope s_order) f cdv A outer s H E) K U (fun _ => E) (defBody s_order) (m_order K U f_need_decimal f_order_of f_order_of_sizes f_sign_of) :=
  dss_cons (ds_expr (de_call F C_need_decimal (da_cons (de_var 0) (da_nil)) (by omega))) (dss_cons (ds_expr (de_call F C_need_decimal (da_cons (de_var 1) (da_nil)) (by omega))) (dss_cons (ds_if (dt_cmpO (c_ne F) (de_call F C_sign_of (da_cons (de_var 0) (da_nil)) (by omega)) (de_call F C_sign_of (da_cons (de_var 1) (da_nil)) (by omega))) (dss_one (ds_ret (de_call F C_order_of (da_cons (de_call F C_sign_of (da_cons (de_var 0) (da_nil)) (by omega)) (da_cons (de_call F C_sign_of (da_cons (de_var 1) (da_nil)) (by omega)) (da_nil))) (by omega)))) (dss_nil)) (dss_one (ds_ret (de_if (dt_cmpO (c_eq F) (de_call F C_sign_of (da_cons (de_var 0) (da_nil)) (by omega)) (de_int)) (de_int) (de_mul2 (de_call F C_sign_of (da_cons (de_var 0) (da_nil)) (by omega)) (de_call F C_order_of_sizes (da_cons (de_var 0) (da_cons (de_var 1) (da_nil))) (by omega))))))))
theorem at_order {w : World} {K : PySem.W.Frag} {mg : Str → Option Value} {base : Heap} (B : Blt mg) (p : PFn K mg "order" s_order) {c_InvalidNumber : Addr} (C_need_decimal : FnAt P w K mg base 3 "need_decimal" ["value"] (f_need_decimal c_InvalidNumber)) (C_order_of : FnAt P w K mg base 1 "order_of" ["one", "other"] f_order_of) (C_order_of_sizes : FnAt P w K mg base 2 "order_of_sizes" ["one", "other"] f_order_of_sizes) (C_sign_of : FnAt P w K mg base 1 "sign_of" ["decimal"] f_sign_of) : FnAt P w K mg base 4 "order" ["one", "other"] (f_order c_InvalidNumber) :=
  at_of (n := 3) p sc_order (by rintro _ _ _ _ _ ⟨_, _, rfl, _⟩ <;> rfl) (fun _ _ _ _ _ _ us hl => match us, hl with | [_, _], _ => rfl)
    (fun U E cdv A outer s H f F => ⟨_, b_order F B C_need_decimal (by decide) C_order_of (by decide) C_order_of_sizes (by decide) C_sign_of (by decide), fun c ds k x h => order_ok (K := K) h⟩)
/-! ### is_high -/
abbrev s_is_high : Stmt := topS 20
theorem sc_is_high : FnScope ["unit"] ["unit"] (defScope s_is_high) := ⟨rfl, rfl, rfl, by decide +kernel, rfl, by decide +kernel, by decide +kernel⟩
set_option maxHeartbeats 4000000 in
theorem b_is_high {w : World} {K : PySem.W.Frag} {mg : Str → Option Value} {base : Heap} {U : Vol} {E : XK} {cdv : Value} {A : Around} {outer : List Env} {s : Shared} {H : Hp} {f : Addr} {n : Nat}
    (F : Fam (fun _ : Unit => cxOf (L2.CX P w) P w K mg base ["unit"] "is_high" (defScope s_is_high) f cdv A outer s H E) P w K mg base (fun _ => E) n) (B : Blt mg) {k_FIRST_HIGH : D} (g_FIRST_HIGH : Cst K mg "FIRST_HIGH" k_FIRST_HIGH) {k_LAST_HIGH : D} (g_LAST_HIGH : Cst K mg "LAST_HIGH" k_LAST_HIGH) :
    DSs (fun _ : Unit => cxOf (L2.CX P w) P w K mg base ["unit"] "is_high" (defScope s_is_high) f cdv A outer s H E) K U (fun _ => E) (defBody s_is_high) (m_is_high K U k_FIRST_HIGH k_LAST_HIGH) :=
  dss_one (ds_ret (de_chain rfl (c_le) (c_le) (de_cst F g_FIRST_HIGH) (de_var 0) (de_cst F g_LAST_HIGH)))
theorem at_is_high {w : World} {K : PySem.W.Frag} {mg : Str → Option Value} {base : Heap} (B : Blt mg) (p : PFn K mg "is_high" s_is_high) (g_FIRST_HIGH : Cst K mg "FIRST_HIGH" (.int 55296)) (g_LAST_HIGH : Cst K mg "LAST_HIGH" (.int 56319)) : FnAt P w K mg base 1 "is_high" ["unit"] f_is_high :=
  at_of (n := 0) p sc_is_high (by rintro _ _ _ _ _ ⟨_, rfl, _⟩ <;> rfl) (fun _ _ _ _ _ _ us hl => match us, hl with | [_], _ => rfl)
    (fun U E cdv A outer s H f F => ⟨_, b_is_high F B g_FIRST_HIGH g_LAST_HIGH, fun c ds k x h => high_ok (K := K) h⟩)
/-! ### is_low -/
abbrev s_is_low : Stmt := topS 21
theorem sc_is_low : FnScope ["unit"] ["unit"] (defScope s_is_low) := ⟨rfl, rfl, rfl, by decide +kernel, rfl, by decide +kernel, by decide +kernel⟩
set_option maxHeartbeats 4000000 in
theorem b_is_low {w : World} {K : PySem.W.Frag} {mg : Str → Option Value} {base : Heap} {U : Vol} {E : XK} {cdv : Value} {A : Around} {outer : List Env} {s : Shared} {H : Hp} {f : Addr} {n : Nat}
    (F : Fam (fun _ : Unit => cxOf (L2.CX P w) P w K mg base ["unit"] "is_low" (defScope s_is_low) f cdv A outer s H E) P w K mg base (fun _ => E) n) (B : Blt mg) {k_FIRST_LOW : D} (g_FIRST_LOW : Cst K mg "FIRST_LOW" k_FIRST_LOW) {k_LAST_LOW : D} (g_LAST_LOW : Cst K mg "LAST_LOW" k_LAST_LOW) :
    DSs (fun _ : Unit => cxOf (L2.CX P w) P w K mg base ["unit"] "is_low" (defScope s_is_low) f cdv A outer s H E) K U (fun _ => E) (defBody s_is_low) (m_is_low K U k_FIRST_LOW k_LAST_LOW) :=
  dss_one (ds_ret (de_chain rfl (c_le) (c_le) (de_cst F g_FIRST_LOW) (de_var 0) (de_cst F g_LAST_LOW)))
theorem at_is_low {w : World} {K : PySem.W.Frag} {mg : Str → Option Value} {base : Heap} (B : Blt mg) (p : PFn K mg "is_low" s_is_low) (g_FIRST_LOW : Cst K mg "FIRST_LOW" (.int 56320)) (g_LAST_LOW : Cst K mg "LAST_LOW" (.int 57343)) : FnAt P w K mg base 1 "is_low" ["unit"] f_is_low :=
  at_of (n := 0) p sc_is_low (by rintro _ _ _ _ _ ⟨_, rfl, _⟩ <;> rfl) (fun _ _ _ _ _ _ us hl => match us, hl with | [_], _ => rfl)
    (fun U E cdv A outer s H f F => ⟨_, b_is_low F B g_FIRST_LOW g_LAST_LOW, fun c ds k x h => low_ok (K := K) h⟩)
/-! ### is_point -/
abbrev s_is_point : Stmt := topS 22
theorem sc_is_point : FnScope ["value"] ["value"] (defScope s_is_point) := ⟨rfl, rfl, rfl, by decide +kernel, rfl, by decide +kernel, by decide +kernel⟩
set_option maxHeartbeats 4000000 in
theorem b_is_point {w : World} {K : PySem.W.Frag} {mg : Str → Option Value} {base : Heap} {U : Vol} {E : XK} {cdv : Value} {A : Around} {outer : List Env} {s : Shared} {H : Hp} {f : Addr} {n : Nat}
    (F : Fam (fun _ : Unit => cxOf (L2.CX P w) P w K mg base ["value"] "is_point" (defScope s_is_point) f cdv A outer s H E) P w K mg base (fun _ => E) n) (B : Blt mg) {k_MOST_POINT : D} (g_MOST_POINT : Cst K mg "MOST_POINT" k_MOST_POINT) :
    DSs (fun _ : Unit => cxOf (L2.CX P w) P w K mg base ["value"] "is_point" (defScope s_is_point) f cdv A outer s H E) K U (fun _ => E) (defBody s_is_point) (m_is_point K U k_MOST_POINT) :=
  dss_one (ds_ret (de_and F (de_callB F (b_isx F) caS_isx B.isi bt_isi (da_cons (de_var 0) (da_cons (de_ty F B.int bt_int) (da_nil)))) (de_and F (de_not F (de_callB F (b_isx F) caS_isx B.isi bt_isi (da_cons (de_var 0) (da_cons (de_ty F B.bool bt_bool) (da_nil))))) (de_one (de_chain rfl (c_le) (c_le) (de_int) (de_var 0) (de_cst F g_MOST_POINT))))))
theorem at_is_point {w : World} {K : PySem.W.Frag} {mg : Str → Option Value} {base : Heap} (B : Blt mg) (p : PFn K mg "is_point" s_is_point) (g_MOST_POINT : Cst K mg "MOST_POINT" (.int 1114111)) : FnAt P w K mg base 1 "is_point" ["value"] f_is_point :=
  at_of (n := 0) p sc_is_point (by rintro _ _ _ _ _ ⟨_, rfl, _⟩ <;> rfl) (fun _ _ _ _ _ _ us hl => match us, hl with | [_], _ => rfl)
    (fun U E cdv A outer s H f F => ⟨_, b_is_point F B g_MOST_POINT, fun c ds k x h => point_ok (K := K) h⟩)
/-! ### is_points -/
abbrev s_is_points : Stmt := topS 23
theorem sc_is_points : FnScope ["value", "item", "one", "other"] ["value"] (defScope s_is_points) := ⟨rfl, rfl, rfl, by decide +kernel, rfl, by decide +kernel, by decide +kernel⟩
set_option maxHeartbeats 4000000 in
theorem b_is_points {w : World} {K : PySem.W.Frag} {mg : Str → Option Value} {base : Heap} {U : Vol} {E : XK} {cdv : Value} {A : Around} {outer : List Env} {s : Shared} {H : Hp} {f : Addr} {n : Nat}
    (F : Fam (fun _ : Unit => cxOf (L2.CX P w) P w K mg base ["value", "item", "one", "other"] "is_points" (defScope s_is_points) f cdv A outer s H E) P w K mg base (fun _ => E) n) (B : Blt mg) {f_is_high : DF0} {l_is_high : Nat} (C_is_high : FnAt P w K mg base l_is_high "is_high" ["unit"] f_is_high) (e_is_high : l_is_high ≤ n) {f_is_low : DF0} {l_is_low : Nat} (C_is_low : FnAt P w K mg base l_is_low "is_low" ["unit"] f_is_low) (e_is_low : l_is_low ≤ n) {f_is_point : DF0} {l_is_point : Nat} (C_is_point : FnAt P w K mg base l_is_point "is_point" ["value"] f_is_point) (e_is_point : l_is_point ≤ n) :
    DSs (fun _ : Unit => cxOf (L2.CX P w) P w K mg base ["value", "item", "one", "other"] "is_points" (defScope s_is_points) f cdv A outer s H E) K U (fun _ => E) (defBody s_is_points) (m_is_points K U f_is_high f_is_low f_is_point) :=
  dss_cons (ds_if ((dw_or (dt_not (dt_tru F (de_callB F (b_isx F) caS_isx B.isi bt_isi (da_cons (de_var 0) (da_cons (de_ty F B.tuple bt_tuple) (da_nil)))))) (dw_or1 (dt_not (dt_tru F (de_callB F (b_all F) caS_all B.all DL.boot_all (da_cons ((df_lc F [("item", 1)] (di_tup F (de_var 0)) (by intro _; rfl) (dgc_name (i := 1) (F.blk _) (by decide)) (dts_nil) (de_call (F.blk _) C_is_point (da_cons (de_var 1) (da_nil)) (by omega))).de) (da_nil))))))).dt) (dss_one (ds_ret (de_bl))) (dss_nil)) (dss_one (ds_ret (de_not F (de_callB F (b_any F) caS_any B.any DL.boot_any (da_cons ((df_lc F [("one", 2), ("other", 3)] (di_zip F B.zip (da_cons (de_var 0) (da_cons (de_sl F (de_var 0) (do_some (de_int)) (do_none)) (da_nil)))) (by intro _; rfl) (dgc_tup (n := 2) (F.blk _) (dgcs_cons (dgc_name (i := 2) (F.blk _) (by decide)) (dgcs_cons (dgc_name (i := 3) (F.blk _) (by decide)) (dgcs_nil)))) (dts_nil) (de_and (F.blk _) (de_call (F.blk _) C_is_high (da_cons (de_var 2) (da_nil)) (by omega)) (de_one (de_call (F.blk _) C_is_low (da_cons (de_var 3) (da_nil)) (by omega))))).de) (da_nil))))))
theorem at_is_points {w : World} {K : PySem.W.Frag} {mg : Str → Option Value} {base : Heap} (B : Blt mg) (p : PFn K mg "is_points" s_is_points) (C_is_high : FnAt P w K mg base 1 "is_high" ["unit"] f_is_high) (C_is_low : FnAt P w K mg base 1 "is_low" ["unit"] f_is_low) (C_is_point : FnAt P w K mg base 1 "is_point" ["value"] f_is_point) : FnAt P w K mg base 2 "is_points" ["value"] f_is_points :=
  at_of (n := 1) p sc_is_points (by rintro _ _ _ _ _ ⟨_, rfl, _⟩ <;> rfl) (fun _ _ _ _ _ _ us hl => match us, hl with | [_], _ => rfl)
    (fun U E cdv A outer s H f F => ⟨_, b_is_points F B C_is_high (by decide) C_is_low (by decide) C_is_point (by decide), fun c ds k x h => points_ok (K := K) h⟩)
/-! ### are_items -/
abbrev s_are_items : Stmt := topS 27
theorem sc_are_items : FnScope ["thing", "left", "one"] ["thing", "left"] (defScope s_are_items) := ⟨rfl, rfl, rfl, by decide +kernel, rfl, by decide +kernel, by decide +kernel⟩
set_option maxHeartbeats 4000000 in
theorem b_are_items {w : World} {K : PySem.W.Frag} {mg : Str → Option Value} {base : Heap} {U : Vol} {E : XK} {cdv : Value} {A : Around} {outer : List Env} {s : Shared} {H : Hp} {f : Addr} {n : Nat}
    (F : Fam (fun _ : Unit => cxOf (L2.CX P w) P w K mg base ["thing", "left", "one"] "are_items" (defScope s_are_items) f cdv A outer s H E) P w K mg base (fun _ => E) n) (B : Blt mg) {f_is_value_within : DF0} {l_is_value_within : Nat} (C_is_value_within : FnAt P w K mg base l_is_value_within "is_value_within" ["thing", "left"] f_is_value_within) (e_is_value_within : l_is_value_within ≤ n) :
    DSs (fun _ : Unit => cxOf (L2.CX P w) P w K mg base ["thing", "left", "one"] "are_items" (defScope s_are_items) f cdv A outer s H E) K U (fun _ => E) (defBody s_are_items) (m_are_items K U f_is_value_within) :=
  dss_one (ds_ret (de_and F (de_callB F (b_isx F) caS_isx B.isi bt_isi (da_cons (de_var 0) (da_cons (de_ty F B.tuple bt_tuple) (da_nil)))) (de_one (de_callB F (b_all F) caS_all B.all DL.boot_all (da_cons ((df_lc F [("one", 2)] (di_tup F (de_var 0)) (by intro _; rfl) (dgc_name (i := 2) (F.blk _) (by decide)) (dts_nil) (de_call (F.blk _) C_is_value_within (da_cons (de_var 2) (da_cons (de_var 1) (da_nil))) (by omega))).de) (da_nil))))))
theorem at_are_items {w : World} {K : PySem.W.Frag} {mg : Str → Option Value} {base : Heap} (B : Blt mg) (p : PFn K mg "are_items" s_are_items) : FnAt P w K mg base 0 "are_items" ["thing", "left"] f_no := FnAt.no p (fun _ _ _ _ _ _ us hl => match us, hl with | [_, _], _ => rfl)
/-! ### are_members -/
abbrev s_are_members : Stmt := topS 28
theorem sc_are_members : FnScope ["thing", "left", "names", "pair"] ["thing", "left"] (defScope s_are_members) := ⟨rfl, rfl, rfl, by decide +kernel, rfl, by decide +kernel, by decide +kernel⟩
set_option maxHeartbeats 4000000 in
theorem b_are_members {w : World} {K : PySem.W.Frag} {mg : Str → Option Value} {base : Heap} {U : Vol} {E : XK} {cdv : Value} {A : Around} {outer : List Env} {s : Shared} {H : Hp} {f : Addr} {n : Nat}
    (F : Fam (fun _ : Unit => cxOf (L2.CX P w) P w K mg base ["thing", "left", "names", "pair"] "are_members" (defScope s_are_members) f cdv A outer s H E) P w K mg base (fun _ => E) n) (B : Blt mg) {f_is_points : DF0} {l_is_points : Nat} (C_is_points : FnAt P w K mg base l_is_points "is_points" ["value"] f_is_points) (e_is_points : l_is_points ≤ n) {f_is_value_within : DF0} {l_is_value_within : Nat} (C_is_value_within : FnAt P w K mg base l_is_value_within "is_value_within" ["thing", "left"] f_is_value_within) (e_is_value_within : l_is_value_within ≤ n) :
    DSs (fun _ : Unit => cxOf (L2.CX P w) P w K mg base ["thing", "left", "names", "pair"] "are_members" (defScope s_are_members) f cdv A outer s H E) K U (fun _ => E) (defBody s_are_members) (m_are_members K U f_is_points f_is_value_within) :=
  dss_cons (ds_if (dt_not (dt_tru F (de_callB F (b_isx F) caS_isx B.isi bt_isi (da_cons (de_var 0) (da_cons (de_ty F B.tuple bt_tuple) (da_nil)))))) (dss_one (ds_ret (de_bl))) (dss_nil)) (dss_cons (ds_dnewT F 2) (dss_cons (ds_for F (di_tup F (de_var 0)) (dg_name (i := 3) F) (dss_cons (ds_if ((dw_or (dt_not (dt_tru F (de_callB F (b_isx F) caS_isx B.isi bt_isi (da_cons (de_var 3) (da_cons (de_ty F B.tuple bt_tuple) (da_nil)))))) (dw_or (dt_cmpO (c_ne F) (de_callB F (b_len F) caS_len B.len bt_len (da_cons (de_var 3) (da_nil))) (de_int)) (dw_or (dt_not (dt_tru F (de_call F C_is_points (da_cons (de_ix F (de_var 3) (de_int)) (da_nil)) (by omega)))) (dw_or1 (dt_dtIn F 2 (de_ix F (de_var 3) (de_int))))))).dt) (dss_one (ds_ret (de_bl))) (dss_nil)) (dss_cons (ds_if (dt_not (dt_tru F (de_call F C_is_value_within (da_cons (de_ix F (de_var 3) (de_int)) (da_cons (de_var 1) (da_nil))) (by omega)))) (dss_one (ds_ret (de_bl))) (dss_nil)) (dss_one (ds_dtPut F 2 (de_ix F (de_var 3) (de_int)) (de_bl)))))) (dss_one (ds_ret (de_bl)))))
theorem at_are_members {w : World} {K : PySem.W.Frag} {mg : Str → Option Value} {base : Heap} (B : Blt mg) (p : PFn K mg "are_members" s_are_members) : FnAt P w K mg base 0 "are_members" ["thing", "left"] f_no := FnAt.no p (fun _ _ _ _ _ _ us hl => match us, hl with | [_, _], _ => rfl)
/-! ### is_value_within -/
abbrev s_is_value_within : Stmt := topS 29
theorem sc_is_value_within : FnScope ["thing", "left", "word", "parts"] ["thing", "left"] (defScope s_is_value_within) := ⟨rfl, rfl, rfl, by decide +kernel, rfl, by decide +kernel, by decide +kernel⟩
set_option maxHeartbeats 4000000 in
theorem b_is_value_within {w : World} {K : PySem.W.Frag} {mg : Str → Option Value} {base : Heap} {U : Vol} {E : XK} {cdv : Value} {A : Around} {outer : List Env} {s : Shared} {H : Hp} {f : Addr} {n : Nat}
    (F : Fam (fun _ : Unit => cxOf (L2.CX P w) P w K mg base ["thing", "left", "word", "parts"] "is_value_within" (defScope s_is_value_within) f cdv A outer s H E) P w K mg base (fun _ => E) n) (B : Blt mg) {k_WORDS : List D} (g_WORDS : KtC K mg "WORDS" k_WORDS) {f_are_items : DF0} {l_are_items : Nat} (C_are_items : FnAt P w K mg base l_are_items "are_items" ["thing", "left"] f_are_items) (e_are_items : l_are_items ≤ n) {f_are_members : DF0} {l_are_members : Nat} (C_are_members : FnAt P w K mg base l_are_members "are_members" ["thing", "left"] f_are_members) (e_are_members : l_are_members ≤ n) {f_is_decimal : DF0} {l_is_decimal : Nat} (C_is_decimal : FnAt P w K mg base l_is_decimal "is_decimal" ["value"] f_is_decimal) (e_is_decimal : l_is_decimal ≤ n) {f_is_points : DF0} {l_is_points : Nat} (C_is_points : FnAt P w K mg base l_is_points "is_points" ["value"] f_is_points) (e_is_points : l_is_points ≤ n) :
    DSs (fun _ : Unit => cxOf (L2.CX P w) P w K mg base ["thing", "left", "word", "parts"] "is_value_within" (defScope s_is_value_within) f cdv A outer s H E) K U (fun _ => E) (defBody s_is_value_within) (m_is_value_within K U k_WORDS f_are_items f_are_members f_is_decimal f_is_points) :=
  dss_cons (ds_if ((dw_or (dt_not (dt_tru F (de_callB F (b_isx F) caS_isx B.isi bt_isi (da_cons (de_var 0) (da_cons (de_ty F B.tuple bt_tuple) (da_nil)))))) (dw_or (dt_cmpO (c_eq F) (de_callB F (b_len F) caS_len B.len bt_len (da_cons (de_var 0) (da_nil))) (de_int)) (dw_or1 (dt_not (dt_tru F (de_callB F (b_isx F) caS_isx B.isi bt_isi (da_cons (de_ix F (de_var 0) (de_int)) (da_cons (de_ty F B.str bt_str) (da_nil))))))))).dt) (dss_one (ds_ret (de_bl))) (dss_nil)) (dss_cons (ds_asg (de_var 0) (dg_st F 2 3)) (dss_cons (ds_if (dt_ktIn F g_WORDS (de_var 2)) (dss_one (ds_ret (de_cmpO (c_eq F) (de_var 3) ((df_lst (da_nil)).de)))) (dss_nil)) (dss_cons (ds_if (dt_cmpO (c_eq F) (de_var 2) (de_str)) (dss_one (ds_ret (de_and F (de_cmpO (c_eq F) (de_callB F (b_len F) caS_len B.len bt_len (da_cons (de_var 3) (da_nil))) (de_int)) (de_one (de_call F C_is_decimal (da_cons (de_tup (da_cons (de_ix F (de_var 3) (de_int)) (da_cons (de_ix F (de_var 3) (de_int)) (da_nil)))) (da_nil)) (by omega)))))) (dss_nil)) (dss_cons (ds_if (dt_cmpO (c_ne F) (de_callB F (b_len F) caS_len B.len bt_len (da_cons (de_var 3) (da_nil))) (de_int)) (dss_one (ds_ret (de_bl))) (dss_nil)) (dss_cons (ds_if (dt_cmpO (c_eq F) (de_var 2) (de_str)) (dss_one (ds_ret (de_call F C_is_points (da_cons (de_ix F (de_var 3) (de_int)) (da_nil)) (by omega)))) (dss_nil)) (dss_cons (ds_if (dt_cmpO (c_eq F) (de_var 2) (de_str)) (dss_one (ds_ret (de_and F (de_cmpO (c_gt) (de_var 1) (de_int)) (de_one (de_call F C_are_items (da_cons (de_ix F (de_var 3) (de_int)) (da_cons (de_sub (de_var 1) (de_int)) (da_nil))) (by omega)))))) (dss_nil)) (dss_one (ds_ret (de_and F (de_cmpO (c_eq F) (de_var 2) (de_str)) (de_and F (de_cmpO (c_gt) (de_var 1) (de_int)) (de_one (de_call F C_are_members (da_cons (de_ix F (de_var 3) (de_int)) (da_cons (de_sub (de_var 1) (de_int)) (da_nil))) (by omega)))))))))))))
theorem at_itemsP {w : World} {K : PySem.W.Frag} {mg : Str → Option Value} {base : Heap} (B : Blt mg) (p : PFn K mg "are_items" s_are_items) (L : Nat) (C : FnAt P w K mg base (2 * L + 3) "is_value_within" ["thing", "left"] (f_valW L)) : FnAt P w K mg base (2 * L + 4) "are_items" ["thing", "left"] (f_items L) :=
  at_of (n := 2 * L + 3) p sc_are_items (by rintro _ _ _ _ _ ⟨_, rfl, _⟩ <;> rfl) (fun _ _ _ _ _ _ us hl => match us, hl with | [_, _], _ => rfl)
    (fun U E cdv A outer s H f F => ⟨_, b_are_items F B C (Nat.le_refl _), fun c ds k x h => items_ok (K := K) h⟩)
theorem at_membersP {w : World} {K : PySem.W.Frag} {mg : Str → Option Value} {base : Heap} (B : Blt mg) (p : PFn K mg "are_members" s_are_members) (Cp : FnAt P w K mg base 2 "is_points" ["value"] f_is_points) (L : Nat) (C : FnAt P w K mg base (2 * L + 3) "is_value_within" ["thing", "left"] (f_valW L)) : FnAt P w K mg base (2 * L + 4) "are_members" ["thing", "left"] (f_members L) :=
  at_of (n := 2 * L + 3) p sc_are_members (by rintro _ _ _ _ _ ⟨_, rfl, _⟩ <;> rfl) (fun _ _ _ _ _ _ us hl => match us, hl with | [_, _], _ => rfl)
    (fun U E cdv A outer s H f F => ⟨_, b_are_members F B Cp (by omega) C (Nat.le_refl _), fun c ds k x h => members_ok (K := K) h⟩)
theorem at_valP {w : World} {K : PySem.W.Frag} {mg : Str → Option Value} {base : Heap} (B : Blt mg) (p : PFn K mg "is_value_within" s_is_value_within) (g : KtC K mg "WORDS" [.str "null", .str "true", .str "false"]) (C0 : FnAt P w K mg base 0 "are_items" ["thing", "left"] f_no) (C1 : FnAt P w K mg base 0 "are_members" ["thing", "left"] f_no) (Cd : FnAt P w K mg base 2 "is_decimal" ["value"] f_is_decimal) (Cp : FnAt P w K mg base 2 "is_points" ["value"] f_is_points) (pi : PFn K mg "are_items" s_are_items) (pm : PFn K mg "are_members" s_are_members) : ∀ L, FnAt P w K mg base (2 * L + 3) "is_value_within" ["thing", "left"] (f_valW L)
  | 0 => at_of (n := 2) p sc_is_value_within (by rintro _ _ _ _ _ ⟨_, rfl, _⟩ <;> rfl) (fun _ _ _ _ _ _ us hl => match us, hl with | [_, _], _ => rfl)
    (fun U E cdv A outer s H f F => ⟨_, b_is_value_within F B g C0 (Nat.zero_le _) C1 (Nat.zero_le _) Cd (by decide) Cp (by decide), fun c ds k x h => value_ok (K := K) (L := 0) h⟩)
  | L + 1 => (at_of (n := 2 * L + 4) p sc_is_value_within (by rintro _ _ _ _ _ ⟨_, rfl, _⟩ <;> rfl) (fun _ _ _ _ _ _ us hl => match us, hl with | [_, _], _ => rfl)
    (fun U E cdv A outer s H f F => ⟨_, b_is_value_within F B g (at_itemsP B pi L (at_valP B p g C0 C1 Cd Cp pi pm L)) (Nat.le_refl _) (at_membersP B pm Cp L (at_valP B p g C0 C1 Cd Cp pi pm L)) (Nat.le_refl _) Cd (by omega) Cp (by omega), fun c ds k x h => value_ok (K := K) (L := L + 1) h⟩)).mono (by omega)
theorem at_is_value_within {w : World} {K : PySem.W.Frag} {mg : Str → Option Value} {base : Heap} (B : Blt mg) (p : PFn K mg "is_value_within" s_is_value_within) (g : KtC K mg "WORDS" [.str "null", .str "true", .str "false"]) (C0 : FnAt P w K mg base 0 "are_items" ["thing", "left"] f_no) (C1 : FnAt P w K mg base 0 "are_members" ["thing", "left"] f_no) (Cd : FnAt P w K mg base 2 "is_decimal" ["value"] f_is_decimal) (Cp : FnAt P w K mg base 2 "is_points" ["value"] f_is_points) (pi : PFn K mg "are_items" s_are_items) (pm : PFn K mg "are_members" s_are_members) : FnAt P w K mg base 63 "is_value_within" ["thing", "left"] (f_valW 30) := at_valP B p g C0 C1 Cd Cp pi pm 30
/-! ### is_value -/
abbrev s_is_value : Stmt := topS 30
theorem sc_is_value : FnScope ["thing"] ["thing"] (defScope s_is_value) := ⟨rfl, rfl, rfl, by decide +kernel, rfl, by decide +kernel, by decide +kernel⟩
set_option maxHeartbeats 4000000 in
theorem b_is_value {w : World} {K : PySem.W.Frag} {mg : Str → Option Value} {base : Heap} {U : Vol} {E : XK} {cdv : Value} {A : Around} {outer : List Env} {s : Shared} {H : Hp} {f : Addr} {n : Nat}
    (F : Fam (fun _ : Unit => cxOf (L2.CX P w) P w K mg base ["thing"] "is_value" (defScope s_is_value) f cdv A outer s H E) P w K mg base (fun _ => E) n) (B : Blt mg) {k_MOST_LEVELS : D} (g_MOST_LEVELS : Cst K mg "MOST_LEVELS" k_MOST_LEVELS) {f_is_value_within : DF0} {l_is_value_within : Nat} (C_is_value_within : FnAt P w K mg base l_is_value_within "is_value_within" ["thing", "left"] f_is_value_within) (e_is_value_within : l_is_value_within ≤ n) :
    DSs (fun _ : Unit => cxOf (L2.CX P w) P w K mg base ["thing"] "is_value" (defScope s_is_value) f cdv A outer s H E) K U (fun _ => E) (defBody s_is_value) (m_is_value K U k_MOST_LEVELS f_is_value_within) :=
  dss_one (ds_ret (de_call F C_is_value_within (da_cons (de_var 0) (da_cons (de_cst F g_MOST_LEVELS) (da_nil))) (by omega)))
theorem at_is_value {w : World} {K : PySem.W.Frag} {mg : Str → Option Value} {base : Heap} (B : Blt mg) (p : PFn K mg "is_value" s_is_value) (g_MOST_LEVELS : Cst K mg "MOST_LEVELS" (.int 30)) (C_is_value_within : FnAt P w K mg base 63 "is_value_within" ["thing", "left"] (f_valW 30)) : FnAt P w K mg base 64 "is_value" ["thing"] f_is_value :=
  at_of (n := 63) p sc_is_value (by rintro _ _ _ _ _ ⟨_, rfl, _⟩ <;> rfl) (fun _ _ _ _ _ _ us hl => match us, hl with | [_], _ => rfl)
    (fun U E cdv A outer s H f F => ⟨_, b_is_value F B g_MOST_LEVELS C_is_value_within (by decide), fun c ds k x h => is_value_ok (K := K) h⟩)
/-! ### need_value -/
abbrev s_need_value : Stmt := topS 31
theorem sc_need_value : FnScope ["thing"] ["thing"] (defScope s_need_value) := ⟨rfl, rfl, rfl, by decide +kernel, rfl, by decide +kernel, by decide +kernel⟩
set_option maxHeartbeats 4000000 in
theorem b_need_value {w : World} {K : PySem.W.Frag} {mg : Str → Option Value} {base : Heap} {U : Vol} {E : XK} {cdv : Value} {A : Around} {outer : List Env} {s : Shared} {H : Hp} {f : Addr} {n : Nat}
    (F : Fam (fun _ : Unit => cxOf (L2.CX P w) P w K mg base ["thing"] "need_value" (defScope s_need_value) f cdv A outer s H E) P w K mg base (fun _ => E) n) (B : Blt mg) {c_InvalidValue : Addr} (h_InvalidValue : ExA K mg "InvalidValue" c_InvalidValue) {f_is_value : DF0} {l_is_value : Nat} (C_is_value : FnAt P w K mg base l_is_value "is_value" ["thing"] f_is_value) (e_is_value : l_is_value ≤ n) :
    DSs (fun _ : Unit => cxOf (L2.CX P w) P w K mg base ["thing"] "need_value" (defScope s_need_value) f cdv A outer s H E) K U (fun _ => E) (defBody s_need_value) (m_need_value K U c_InvalidValue f_is_value) :=
  dss_one (ds_if (dt_not (dt_tru F (de_call F C_is_value (da_cons (de_var 0) (da_nil)) (by omega)))) (dss_one (ds_raise F h_InvalidValue)) (dss_nil))
theorem at_need_value {w : World} {K : PySem.W.Frag} {mg : Str → Option Value} {base : Heap} (B : Blt mg) (p : PFn K mg "need_value" s_need_value) {c_InvalidValue : Addr} (h_InvalidValue : ExA K mg "InvalidValue" c_InvalidValue) (C_is_value : FnAt P w K mg base 64 "is_value" ["thing"] f_is_value) : FnAt P w K mg base 65 "need_value" ["thing"] (f_need_value c_InvalidValue) :=
  at_of (n := 64) p sc_need_value (by rintro _ _ _ _ _ ⟨_, rfl, _⟩ <;> rfl) (fun _ _ _ _ _ _ us hl => match us, hl with | [_], _ => rfl)
    (fun U E cdv A outer s H f F => ⟨_, b_need_value F B h_InvalidValue C_is_value (by decide), fun c ds k x h => need_value_ok (K := K) h⟩)
/-! ### is_test -/
abbrev s_is_test : Stmt := topS 36
theorem sc_is_test : FnScope ["thing"] ["thing"] (defScope s_is_test) := ⟨rfl, rfl, rfl, by decide +kernel, rfl, by decide +kernel, by decide +kernel⟩
set_option maxHeartbeats 4000000 in
theorem b_is_test {w : World} {K : PySem.W.Frag} {mg : Str → Option Value} {base : Heap} {U : Vol} {E : XK} {cdv : Value} {A : Around} {outer : List Env} {s : Shared} {H : Hp} {f : Addr} {n : Nat}
    (F : Fam (fun _ : Unit => cxOf (L2.CX P w) P w K mg base ["thing"] "is_test" (defScope s_is_test) f cdv A outer s H E) P w K mg base (fun _ => E) n) (B : Blt mg) {k_NUMBER : D} (g_NUMBER : Cst K mg "NUMBER" k_NUMBER) {k_SIGNS : List D} (g_SIGNS : KtC K mg "SIGNS" k_SIGNS) {k_STRING : D} (g_STRING : Cst K mg "STRING" k_STRING) {f_is_value : DF0} {l_is_value : Nat} (C_is_value : FnAt P w K mg base l_is_value "is_value" ["thing"] f_is_value) (e_is_value : l_is_value ≤ n) :
    DSs (fun _ : Unit => cxOf (L2.CX P w) P w K mg base ["thing"] "is_test" (defScope s_is_test) f cdv A outer s H E) K U (fun _ => E) (defBody s_is_test) (m_is_test K U k_NUMBER k_SIGNS k_STRING f_is_value) :=
  dss_cons (ds_if ((dw_or (dt_not (dt_tru F (de_callB F (b_isx F) caS_isx B.isi bt_isi (da_cons (de_var 0) (da_cons (de_ty F B.tuple bt_tuple) (da_nil)))))) (dw_or (dt_cmpO (c_ne F) (de_callB F (b_len F) caS_len B.len bt_len (da_cons (de_var 0) (da_nil))) (de_int)) (dw_or (dt_not (dt_tru F (de_callB F (b_isx F) caS_isx B.isi bt_isi (da_cons (de_ix F (de_var 0) (de_int)) (da_cons (de_ty F B.str bt_str) (da_nil)))))) (dw_or1 (dt_ktNotIn F g_SIGNS (de_ix F (de_var 0) (de_int))))))).dt) (dss_one (ds_ret (de_bl))) (dss_nil)) (dss_one (ds_ret (de_and F (de_call F C_is_value (da_cons (de_ix F (de_var 0) (de_int)) (da_nil)) (by omega)) (de_one (de_cmpO (c_in F) (de_ix F (de_ix F (de_var 0) (de_int)) (de_int)) (de_tup (da_cons (de_cst F g_NUMBER) (da_cons (de_cst F g_STRING) (da_nil)))))))))
theorem at_is_test {w : World} {K : PySem.W.Frag} {mg : Str → Option Value} {base : Heap} (B : Blt mg) (p : PFn K mg "is_test" s_is_test) (g_NUMBER : Cst K mg "NUMBER" (.str "number")) (g_SIGNS : KtC K mg "SIGNS" ([.str "<", .str "<=", .str "==", .str ">=", .str ">"])) (g_STRING : Cst K mg "STRING" (.str "string")) (C_is_value : FnAt P w K mg base 64 "is_value" ["thing"] f_is_value) : FnAt P w K mg base 65 "is_test" ["thing"] f_is_test :=
  at_of (n := 64) p sc_is_test (by rintro _ _ _ _ _ ⟨_, rfl, _⟩ <;> rfl) (fun _ _ _ _ _ _ us hl => match us, hl with | [_], _ => rfl)
    (fun U E cdv A outer s H f F => ⟨_, b_is_test F B g_NUMBER g_SIGNS g_STRING C_is_value (by decide), fun c ds k x h => is_test_ok (K := K) h⟩)
/-! ### need_test -/
abbrev s_need_test : Stmt := topS 37
theorem sc_need_test : FnScope ["thing"] ["thing"] (defScope s_need_test) := ⟨rfl, rfl, rfl, by decide +kernel, rfl, by decide +kernel, by decide +kernel⟩
set_option maxHeartbeats 4000000 in
theorem b_need_test {w : World} {K : PySem.W.Frag} {mg : Str → Option Value} {base : Heap} {U : Vol} {E : XK} {cdv : Value} {A : Around} {outer : List Env} {s : Shared} {H : Hp} {f : Addr} {n : Nat}
    (F : Fam (fun _ : Unit => cxOf (L2.CX P w) P w K mg base ["thing"] "need_test" (defScope s_need_test) f cdv A outer s H E) P w K mg base (fun _ => E) n) (B : Blt mg) {c_InvalidTest : Addr} (h_InvalidTest : ExA K mg "InvalidTest" c_InvalidTest) {f_is_test : DF0} {l_is_test : Nat} (C_is_test : FnAt P w K mg base l_is_test "is_test" ["thing"] f_is_test) (e_is_test : l_is_test ≤ n) :
    DSs (fun _ : Unit => cxOf (L2.CX P w) P w K mg base ["thing"] "need_test" (defScope s_need_test) f cdv A outer s H E) K U (fun _ => E) (defBody s_need_test) (m_need_test K U c_InvalidTest f_is_test) :=
  dss_one (ds_if (dt_not (dt_tru F (de_call F C_is_test (da_cons (de_var 0) (da_nil)) (by omega)))) (dss_one (ds_raise F h_InvalidTest)) (dss_nil))
theorem at_need_test {w : World} {K : PySem.W.Frag} {mg : Str → Option Value} {base : Heap} (B : Blt mg) (p : PFn K mg "need_test" s_need_test) {c_InvalidTest : Addr} (h_InvalidTest : ExA K mg "InvalidTest" c_InvalidTest) (C_is_test : FnAt P w K mg base 65 "is_test" ["thing"] f_is_test) : FnAt P w K mg base 66 "need_test" ["thing"] (f_need_test c_InvalidTest) :=
  at_of (n := 65) p sc_need_test (by rintro _ _ _ _ _ ⟨_, rfl, _⟩ <;> rfl) (fun _ _ _ _ _ _ us hl => match us, hl with | [_], _ => rfl)
    (fun U E cdv A outer s H f F => ⟨_, b_need_test F B h_InvalidTest C_is_test (by decide), fun c ds k x h => need_test_ok (K := K) h⟩)
/-! ### order_of_values -/
abbrev s_order_of_values : Stmt := topS 38
theorem sc_order_of_values : FnScope ["one", "other"] ["one", "other"] (defScope s_order_of_values) := ⟨rfl, rfl, rfl, by decide +kernel, rfl, by decide +kernel, by decide +kernel⟩
set_option maxHeartbeats 4000000 in
theorem b_order_of_values {w : World} {K : PySem.W.Frag} {mg : Str → Option Value} {base : Heap} {U : Vol} {E : XK} {cdv : Value} {A : Around} {outer : List Env} {s : Shared} {H : Hp} {f : Addr} {n : Nat}
    (F : Fam (fun _ : Unit => cxOf (L2.CX P w) P w K mg base ["one", "other"] "order_of_values" (defScope s_order_of_values) f cdv A outer s H E) P w K mg base (fun _ => E) n) (B : Blt mg) {k_NUMBER : D} (g_NUMBER : Cst K mg "NUMBER" k_NUMBER) {f_order : DF0} {l_order : Nat} (C_order : FnAt P w K mg base l_order "order" ["one", "other"] f_order) (e_order : l_order ≤ n) :
    DSs (fun _ : Unit => cxOf (L2.CX P w) P w K mg base ["one", "other"] "order_of_values" (defScope s_order_of_values) f cdv A outer s H E) K U (fun _ => E) (defBody s_order_of_values) (m_order_of_values K U k_NUMBER f_order) :=
  dss_cons (ds_if (dt_cmpO (c_eq F) (de_ix F (de_var 0) (de_int)) (de_cst F g_NUMBER)) (dss_one (ds_ret (de_call F C_order (da_cons (de_sl F (de_var 0) (do_some (de_int)) (do_none)) (da_cons (de_sl F (de_var 1) (do_some (de_int)) (do_none)) (da_nil))) (by omega)))) (dss_nil)) (dss_one (ds_ret (de_if (dt_cmpO (c_ltT F) (de_ix F (de_var 0) (de_int)) (de_ix F (de_var 1) (de_int))) (de_neg (de_int)) (de_if (dt_cmpO (c_gtT F) (de_ix F (de_var 0) (de_int)) (de_ix F (de_var 1) (de_int))) (de_int) (de_int)))))
theorem at_order_of_values {w : World} {K : PySem.W.Frag} {mg : Str → Option Value} {base : Heap} (B : Blt mg) (p : PFn K mg "order_of_values" s_order_of_values) {c_InvalidNumber : Addr} (g_NUMBER : Cst K mg "NUMBER" (.str "number")) (C_order : FnAt P w K mg base 4 "order" ["one", "other"] (f_order c_InvalidNumber)) : FnAt P w K mg base 5 "order_of_values" ["one", "other"] f_order_of_values :=
  at_of (n := 4) p sc_order_of_values (by rintro _ _ _ _ _ (⟨_, _, _, _, rfl, _⟩ | ⟨_, _, rfl, _⟩) <;> rfl) (fun _ _ _ _ _ _ us hl => match us, hl with | [_, _], _ => rfl)
    (fun U E cdv A outer s H f F => ⟨_, b_order_of_values F B g_NUMBER C_order (by decide), fun c ds k x h => order_of_values_ok (K := K) h⟩)
/-! ### holds -/
abbrev s_holds : Stmt := topS 39
theorem sc_holds : FnScope ["value", "test", "sign", "operand", "found"] ["value", "test"] (defScope s_holds) := ⟨rfl, rfl, rfl, by decide +kernel, rfl, by decide +kernel, by decide +kernel⟩
set_option maxHeartbeats 4000000 in
theorem b_holds {w : World} {K : PySem.W.Frag} {mg : Str → Option Value} {base : Heap} {U : Vol} {E : XK} {cdv : Value} {A : Around} {outer : List Env} {s : Shared} {H : Hp} {f : Addr} {n : Nat}
    (F : Fam (fun _ : Unit => cxOf (L2.CX P w) P w K mg base ["value", "test", "sign", "operand", "found"] "holds" (defScope s_holds) f cdv A outer s H E) P w K mg base (fun _ => E) n) (B : Blt mg) {f_order_of_values : DF0} {l_order_of_values : Nat} (C_order_of_values : FnAt P w K mg base l_order_of_values "order_of_values" ["one", "other"] f_order_of_values) (e_order_of_values : l_order_of_values ≤ n) :
    DSs (fun _ : Unit => cxOf (L2.CX P w) P w K mg base ["value", "test", "sign", "operand", "found"] "holds" (defScope s_holds) f cdv A outer s H E) K U (fun _ => E) (defBody s_holds) (m_holds K U f_order_of_values) :=
  dss_cons (ds_asg (de_var 1) (dg_tup (n := 2) F (dgs_cons (dg_name (i := 2) F) (dgs_cons (dg_name (i := 3) F) (dgs_nil))))) (dss_cons (ds_if (dt_cmpO (c_ne F) (de_ix F (de_var 0) (de_int)) (de_ix F (de_var 3) (de_int))) (dss_one (ds_ret (de_bl))) (dss_nil)) (dss_cons (ds_set F 4 (de_call F C_order_of_values (da_cons (de_var 0) (da_cons (de_var 3) (da_nil))) (by omega))) (dss_cons (ds_if (dt_cmpO (c_eq F) (de_var 4) (de_int)) (dss_one (ds_ret (de_cmpO (c_in F) (de_var 2) (de_tup (da_cons (de_str) (da_cons (de_str) (da_cons (de_str) (da_nil)))))))) (dss_nil)) (dss_one (ds_ret (de_if (dt_cmpO (c_lt) (de_var 4) (de_int)) (de_cmpO (c_in F) (de_var 2) (de_tup (da_cons (de_str) (da_cons (de_str) (da_nil))))) (de_cmpO (c_in F) (de_var 2) (de_tup (da_cons (de_str) (da_cons (de_str) (da_nil)))))))))))
theorem at_holds {w : World} {K : PySem.W.Frag} {mg : Str → Option Value} {base : Heap} (B : Blt mg) (p : PFn K mg "holds" s_holds) (C_order_of_values : FnAt P w K mg base 5 "order_of_values" ["one", "other"] f_order_of_values) : FnAt P w K mg base 6 "holds" ["value", "test"] f_holds :=
  at_of (n := 5) p sc_holds (by rintro _ _ _ _ _ ⟨_, _, _, rfl, _⟩ <;> rfl) (fun _ _ _ _ _ _ us hl => match us, hl with | [_, _], _ => rfl)
    (fun U E cdv A outer s H f F => ⟨_, b_holds F B C_order_of_values (by decide), fun c ds k x h => holds_ok (K := K) h⟩)
/-! ### passes -/
abbrev s_passes : Stmt := topS 40
theorem sc_passes : FnScope ["value", "test"] ["value", "test"] (defScope s_passes) := ⟨rfl, rfl, rfl, by decide +kernel, rfl, by decide +kernel, by decide +kernel⟩
set_option maxHeartbeats 4000000 in
theorem b_passes {w : World} {K : PySem.W.Frag} {mg : Str → Option Value} {base : Heap} {U : Vol} {E : XK} {cdv : Value} {A : Around} {outer : List Env} {s : Shared} {H : Hp} {f : Addr} {n : Nat}
    (F : Fam (fun _ : Unit => cxOf (L2.CX P w) P w K mg base ["value", "test"] "passes" (defScope s_passes) f cdv A outer s H E) P w K mg base (fun _ => E) n) (B : Blt mg) {f_holds : DF0} {l_holds : Nat} (C_holds : FnAt P w K mg base l_holds "holds" ["value", "test"] f_holds) (e_holds : l_holds ≤ n) {f_need_test : DF0} {l_need_test : Nat} (C_need_test : FnAt P w K mg base l_need_test "need_test" ["thing"] f_need_test) (e_need_test : l_need_test ≤ n) {f_need_value : DF0} {l_need_value : Nat} (C_need_value : FnAt P w K mg base l_need_value "need_value" ["thing"] f_need_value) (e_need_value : l_need_value ≤ n) :
    DSs (fun _ : Unit => cxOf (L2.CX P w) P w K mg base ["value", "test"] "passes" (defScope s_passes) f cdv A outer s H E) K U (fun _ => E) (defBody s_passes) (m_passes K U f_holds f_need_test f_need_value) :=
  dss_cons (ds_expr (de_call F C_need_value (da_cons (de_var 0) (da_nil)) (by omega))) (dss_cons (ds_expr (de_call F C_need_test (da_cons (de_var 1) (da_nil)) (by omega))) (dss_one (ds_ret (de_call F C_holds (da_cons (de_var 0) (da_cons (de_var 1) (da_nil))) (by omega)))))
theorem atK2_passes {w : World} {K : PySem.W.Frag} {mg : Str → Option Value} {base : Heap} (B : Blt mg) (p : PFn K mg "passes" s_passes) {c_InvalidTest : Addr} {c_InvalidValue : Addr} (C_holds : FnAt P w K mg base 6 "holds" ["value", "test"] f_holds) (C_need_test : FnAt P w K mg base 66 "need_test" ["thing"] (f_need_test c_InvalidTest)) (C_need_value : FnAt P w K mg base 65 "need_value" ["thing"] (f_need_value c_InvalidValue)) : FnAtK P w K mg base 67 "passes" ["value", "test"] ["test", "value"] gSwV (f_passes c_InvalidTest c_InvalidValue) :=
  atKs_of (n := 66) p sc_passes (by rintro _ _ _ _ _ ⟨_, _, rfl, _⟩ <;> rfl) rfl (fun _ _ _ _ _ _ _ _ => rfl)
    (fun U E cdv A outer s H f F => ⟨_, b_passes F B C_holds (by decide) C_need_test (by decide) C_need_value (by decide), fun c ds k x h => passes_ok (K := K) h⟩)
theorem at_passes {w : World} {K : PySem.W.Frag} {mg : Str → Option Value} {base : Heap} (B : Blt mg) (p : PFn K mg "passes" s_passes) {c_InvalidTest : Addr} {c_InvalidValue : Addr} (C_holds : FnAt P w K mg base 6 "holds" ["value", "test"] f_holds) (C_need_test : FnAt P w K mg base 66 "need_test" ["thing"] (f_need_test c_InvalidTest)) (C_need_value : FnAt P w K mg base 65 "need_value" ["thing"] (f_need_value c_InvalidValue)) : FnAt P w K mg base 67 "passes" ["value", "test"] (f_passes c_InvalidTest c_InvalidValue) :=
  at_of (n := 66) p sc_passes (by rintro _ _ _ _ _ ⟨_, _, rfl, _⟩ <;> rfl) (fun _ _ _ _ _ _ us hl => match us, hl with | [_, _], _ => rfl)
    (fun U E cdv A outer s H f F => ⟨_, b_passes F B C_holds (by decide) C_need_test (by decide) C_need_value (by decide), fun c ds k x h => passes_ok (K := K) h⟩)
/-! ### law_mixed -/
abbrev s_law_mixed : Stmt := topS 43
theorem sc_law_mixed : FnScope ["state", "turn", "found", "prime", "blend", "cell"] ["state"] (defScope s_law_mixed) := ⟨rfl, rfl, rfl, by decide +kernel, rfl, by decide +kernel, by decide +kernel⟩
set_option maxHeartbeats 4000000 in
theorem b_law_mixed {w : World} {K : PySem.W.Frag} {mg : Str → Option Value} {base : Heap} {U : Vol} {E : XK} {cdv : Value} {A : Around} {outer : List Env} {s : Shared} {H : Hp} {f : Addr} {n : Nat}
    (F : Fam (fun _ : Unit => cxOf (L2.CX P w) P w K mg base ["state", "turn", "found", "prime", "blend", "cell"] "_law_mixed" (defScope s_law_mixed) f cdv A outer s H E) P w K mg base (fun _ => E) n) (B : Blt mg) :
    DSs (fun _ : Unit => cxOf (L2.CX P w) P w K mg base ["state", "turn", "found", "prime", "blend", "cell"] "_law_mixed" (defScope s_law_mixed) f cdv A outer s H E) K U (fun _ => E) (defBody s_law_mixed) (m_law_mixed K U) :=
  dss_cons (ds_par F 1 2 (da_cons (de_add2 F (de_stT F 0) (de_int)) (da_cons (de_int) (da_nil)))) (dss_cons (ds_stT F 0 (de_var 1)) (dss_cons (ds_for F (di_lst F ((df_lst (da_cons (de_int) (da_cons (de_int) (da_cons (de_int) (da_cons (de_int) (da_nil)))))).de)) (dg_name (i := 3) F) (dss_cons (ds_set F 4 (de_add2 F (de_mul2 (de_int) (de_var 1)) (de_div (de_var 3) (de_int)))) (dss_cons (ds_for F (di_stC F 0) (dg_name (i := 5) F) (dss_one (ds_set F 4 (de_mod (de_callT F (b_int) caS_int B.int bt_int (da_cons (de_add2 F (de_add2 F (de_mul2 (de_var 4) (de_int)) (de_var 5)) (de_var 1)) (da_nil))) (de_var 3))))) (dss_one (ds_set F 2 (de_add2 F (de_mul2 (de_var 2) (de_int)) (de_mod (de_callT F (b_int) caS_int B.int bt_int (da_cons (de_pow (de_var 4) (de_int)) (da_nil))) (de_var 3)))))))) (dss_one (ds_ret (de_var 2)))))
theorem at_law_mixed {w : World} {K : PySem.W.Frag} {mg : Str → Option Value} {base : Heap} (B : Blt mg) (p : PFn K mg "_law_mixed" s_law_mixed) : FnAt P w K mg base 1 "_law_mixed" ["state"] f_mixed :=
  at_of (n := 0) p sc_law_mixed (by rintro _ _ _ _ _ ⟨_, _, _, _, _, rfl, _, rfl, _⟩ <;> rfl) (fun _ _ _ _ _ _ us hl => match us, hl with | [_], _ => rfl)
    (fun U E cdv A outer s H f F => ⟨_, b_law_mixed F B, fun c ds k x h => mixed_ok (K := K) h⟩)
/-! ### law_draw -/
abbrev s_law_draw : Stmt := topS 44
theorem sc_law_draw : FnScope ["state", "room", "found"] ["state", "room"] (defScope s_law_draw) := ⟨rfl, rfl, rfl, by decide +kernel, rfl, by decide +kernel, by decide +kernel⟩
set_option maxHeartbeats 4000000 in
theorem b_law_draw {w : World} {K : PySem.W.Frag} {mg : Str → Option Value} {base : Heap} {U : Vol} {E : XK} {cdv : Value} {A : Around} {outer : List Env} {s : Shared} {H : Hp} {f : Addr} {n : Nat}
    (F : Fam (fun _ : Unit => cxOf (L2.CX P w) P w K mg base ["state", "room", "found"] "_law_draw" (defScope s_law_draw) f cdv A outer s H E) P w K mg base (fun _ => E) n) (B : Blt mg) {f_law_mixed : DF0} {l_law_mixed : Nat} (C_law_mixed : FnAt P w K mg base l_law_mixed "_law_mixed" ["state"] f_law_mixed) (e_law_mixed : l_law_mixed ≤ n) :
    DSs (fun _ : Unit => cxOf (L2.CX P w) P w K mg base ["state", "room", "found"] "_law_draw" (defScope s_law_draw) f cdv A outer s H E) K U (fun _ => E) (defBody s_law_draw) (m_law_draw K U f_law_mixed) :=
  dss_cons (ds_if (dt_cmpO (c_eq F) (de_stR F 0) (de_int)) (dss_one (ds_stR F 0 (de_stG F 0 (de_call F C_law_mixed (da_cons (de_var 0) (da_nil)) (by omega))))) (dss_nil)) (dss_cons (ds_set F 2 (de_mod (de_callT F (b_int) caS_int B.int bt_int (da_cons (de_stR F 0) (da_nil))) (de_var 1))) (dss_cons (ds_stR F 0 (de_div (de_stR F 0) (de_var 1))) (dss_one (ds_ret (de_var 2)))))
theorem at_law_draw {w : World} {K : PySem.W.Frag} {mg : Str → Option Value} {base : Heap} (B : Blt mg) (p : PFn K mg "_law_draw" s_law_draw) (C_law_mixed : FnAt P w K mg base 1 "_law_mixed" ["state"] f_mixed) : FnAt P w K mg base 2 "_law_draw" ["state", "room"] f_draw :=
  at_of (n := 1) p sc_law_draw (by rintro _ _ _ _ _ ⟨_, _, _, _, _, rfl, _, _, rfl, _⟩ <;> rfl) (fun _ _ _ _ _ _ us hl => match us, hl with | [_, _], _ => rfl)
    (fun U E cdv A outer s H f F => ⟨_, b_law_draw F B C_law_mixed (by decide), fun c ds k x h => draw_ok (K := K) h⟩)
/-! ### law_pick -/
abbrev s_law_pick : Stmt := topS 45
theorem sc_law_pick : FnScope ["state", "some"] ["state", "some"] (defScope s_law_pick) := ⟨rfl, rfl, rfl, by decide +kernel, rfl, by decide +kernel, by decide +kernel⟩
set_option maxHeartbeats 4000000 in
theorem b_law_pick {w : World} {K : PySem.W.Frag} {mg : Str → Option Value} {base : Heap} {U : Vol} {E : XK} {cdv : Value} {A : Around} {outer : List Env} {s : Shared} {H : Hp} {f : Addr} {n : Nat}
    (F : Fam (fun _ : Unit => cxOf (L2.CX P w) P w K mg base ["state", "some"] "_law_pick" (defScope s_law_pick) f cdv A outer s H E) P w K mg base (fun _ => E) n) (B : Blt mg) {f_law_draw : DF0} {l_law_draw : Nat} (C_law_draw : FnAt P w K mg base l_law_draw "_law_draw" ["state", "room"] f_law_draw) (e_law_draw : l_law_draw ≤ n) :
    DSs (fun _ : Unit => cxOf (L2.CX P w) P w K mg base ["state", "some"] "_law_pick" (defScope s_law_pick) f cdv A outer s H E) K U (fun _ => E) (defBody s_law_pick) (m_law_pick K U f_law_draw) :=
  dss_one (ds_ret (de_ix F (de_var 1) (de_call F C_law_draw (da_cons (de_var 0) (da_cons (de_callB F (b_len F) caS_len B.len bt_len (da_cons (de_var 1) (da_nil))) (da_nil))) (by omega))))
theorem at_law_pick {w : World} {K : PySem.W.Frag} {mg : Str → Option Value} {base : Heap} (B : Blt mg) (p : PFn K mg "_law_pick" s_law_pick) (C_law_draw : FnAt P w K mg base 2 "_law_draw" ["state", "room"] f_draw) : FnAt P w K mg base 3 "_law_pick" ["state", "some"] f_pick :=
  at_of (n := 2) p sc_law_pick (by rintro _ _ _ _ _ ⟨_, _, _, _, _, rfl, _, _, _, rfl, _⟩ <;> rfl) (fun _ _ _ _ _ _ us hl => match us, hl with | [_, _], _ => rfl)
    (fun U E cdv A outer s H f F => ⟨_, b_law_pick F B C_law_draw (by decide), fun c ds k x h => pick_ok (K := K) h⟩)
/-! ### law_is -/
abbrev s_law_is : Stmt := topS 46
theorem sc_law_is : FnScope ["found", "due", "one", "other"] ["found", "due"] (defScope s_law_is) := ⟨rfl, rfl, rfl, by decide +kernel, rfl, by decide +kernel, by decide +kernel⟩
set_option maxHeartbeats 4000000 in
theorem b_law_is {w : World} {K : PySem.W.Frag} {mg : Str → Option Value} {base : Heap} {U : Vol} {E : XK} {cdv : Value} {A : Around} {outer : List Env} {s : Shared} {H : Hp} {f : Addr} {n : Nat}
    (F : Fam (fun _ : Unit => cxOf (L2.CX P w) P w K mg base ["found", "due", "one", "other"] "_law_is" (defScope s_law_is) f cdv A outer s H E) P w K mg base (fun _ => E) n) (B : Blt mg) {f_law_is : DF0} {l_law_is : Nat} (C_law_is : FnAt P w K mg base l_law_is "_law_is" ["found", "due"] f_law_is) (e_law_is : l_law_is ≤ n) :
    DSs (fun _ : Unit => cxOf (L2.CX P w) P w K mg base ["found", "due", "one", "other"] "_law_is" (defScope s_law_is) f cdv A outer s H E) K U (fun _ => E) (defBody s_law_is) (m_law_is K U f_law_is) :=
  dss_cons (ds_if (dt_tru F (de_callB F (b_isx F) caS_isx B.isi bt_isi (da_cons (de_var 1) (da_cons (de_tup (da_cons (de_ty F B.tuple bt_tuple) (da_cons (de_ty F B.list bt_list) (da_nil)))) (da_nil))))) (dss_cons (ds_if ((dw_or (dt_cmpO (c_ne F) (de_callB F (b_isx F) caS_isx B.isi bt_isi (da_cons (de_var 1) (da_cons (de_ty F B.tuple bt_tuple) (da_nil)))) (de_callB F (b_isx F) caS_isx B.isi bt_isi (da_cons (de_var 0) (da_cons (de_ty F B.tuple bt_tuple) (da_nil))))) (dw_or (dt_cmpO (c_ne F) (de_callB F (b_isx F) caS_isx B.isi bt_isi (da_cons (de_var 1) (da_cons (de_ty F B.list bt_list) (da_nil)))) (de_callB F (b_isx F) caS_isx B.isi bt_isi (da_cons (de_var 0) (da_cons (de_ty F B.list bt_list) (da_nil))))) (dw_or1 (dt_cmpO (c_ne F) (de_callB F (b_len F) caS_len B.len bt_len (da_cons (de_var 0) (da_nil))) (de_callB F (b_len F) caS_len B.len bt_len (da_cons (de_var 1) (da_nil))))))).dt) (dss_one (ds_ret (de_bl))) (dss_nil)) (dss_one (ds_ret (de_cmpO (c_eq F) ((df_lc F [("one", 2), ("other", 3)] (di_zip F B.zip (da_cons (de_var 0) (da_cons (de_var 1) (da_nil)))) (by intro _; rfl) (dgc_tup (n := 2) (F.blk _) (dgcs_cons (dgc_name (i := 2) (F.blk _) (by decide)) (dgcs_cons (dgc_name (i := 3) (F.blk _) (by decide)) (dgcs_nil)))) (dts_one (dt_not (dt_tru (F.blk _) (de_call (F.blk _) C_law_is (da_cons (de_var 2) (da_cons (de_var 3) (da_nil))) (by omega))))) (de_int)).de) ((df_lst (da_nil)).de))))) (dss_nil)) (dss_cons (ds_if (dt_tru F (de_callB F (b_isx F) caS_isx B.isi bt_isi (da_cons (de_var 1) (da_cons (de_ty F B.dict bt_dict) (da_nil))))) (dss_one (ds_ret (de_and F (de_callB F (b_isx F) caS_isx B.isi bt_isi (da_cons (de_var 0) (da_cons (de_ty F B.dict bt_dict) (da_nil)))) (de_one (de_none))))) (dss_nil)) (dss_cons (ds_if ((dw_or (dt_cmpO (c_is) (de_var 1) (de_non)) (dw_or1 (dt_tru F (de_callB F (b_isx F) caS_isx B.isi bt_isi (da_cons (de_var 1) (da_cons (de_ty F B.str bt_str) (da_nil))))))).dt) (dss_one (ds_ret (de_and F (de_cmpO (c_eq F) (de_callB F (b_isx F) caS_isx B.isi bt_isi (da_cons (de_var 0) (da_cons (de_ty F B.str bt_str) (da_nil)))) (de_callB F (b_isx F) caS_isx B.isi bt_isi (da_cons (de_var 1) (da_cons (de_ty F B.str bt_str) (da_nil))))) (de_one (de_cmpO (c_eq F) (de_var 0) (de_var 1)))))) (dss_nil)) (dss_one (ds_ret (de_and F (de_callB F (b_isx F) caS_isx B.isi bt_isi (da_cons (de_var 0) (da_cons (de_ty F B.int bt_int) (da_nil)))) (de_and F (de_cmpO (c_eq F) (de_var 0) (de_var 1)) (de_and F (de_cmpO (c_eq F) (de_cmpO (c_is) (de_var 0) (de_bl)) (de_cmpO (c_is) (de_var 1) (de_bl))) (de_one (de_cmpO (c_eq F) (de_cmpO (c_is) (de_var 0) (de_bl)) (de_cmpO (c_is) (de_var 1) (de_bl)))))))))))
theorem at_isqP {w : World} {K : PySem.W.Frag} {mg : Str → Option Value} {base : Heap} (B : Blt mg) (p : PFn K mg "_law_is" s_law_is) : ∀ m, FnAt P w K mg base m "_law_is" ["found", "due"] (f_isqP m)
  | 0 => FnAt.no p (fun _ _ _ _ _ _ us hl => match us, hl with | [_, _], _ => rfl)
  | m + 1 => at_of (n := m) p sc_law_is (by rintro _ _ _ _ _ ⟨_, rfl, _⟩ <;> rfl) (fun _ _ _ _ _ _ us hl => match us, hl with | [_, _], _ => rfl)
    (fun U E cdv A outer s H f F => ⟨_, b_law_is F B (at_isqP B p m) (Nat.le_refl _), fun c ds k x h => isq_ok h⟩)
theorem at_law_is {w : World} {K : PySem.W.Frag} {mg : Str → Option Value} {base : Heap} (B : Blt mg) (p : PFn K mg "_law_is" s_law_is) : FnAt P w K mg base 6 "_law_is" ["found", "due"] (f_isq 5) := at_isqP B p 6
/-! ### law_near -/
abbrev s_law_near : Stmt := topS 47
theorem sc_law_near : FnScope ["state", "value", "at", "some"] ["state", "value"] (defScope s_law_near) := ⟨rfl, rfl, rfl, by decide +kernel, rfl, by decide +kernel, by decide +kernel⟩
set_option maxHeartbeats 4000000 in
theorem b_law_near {w : World} {K : PySem.W.Frag} {mg : Str → Option Value} {base : Heap} {U : Vol} {E : XK} {cdv : Value} {A : Around} {outer : List Env} {s : Shared} {H : Hp} {f : Addr} {n : Nat}
    (F : Fam (fun _ : Unit => cxOf (L2.CX P w) P w K mg base ["state", "value", "at", "some"] "_law_near" (defScope s_law_near) f cdv A outer s H E) P w K mg base (fun _ => E) n) (B : Blt mg) {f_law_draw : DF0} {l_law_draw : Nat} (C_law_draw : FnAt P w K mg base l_law_draw "_law_draw" ["state", "room"] f_law_draw) (e_law_draw : l_law_draw ≤ n) {f_law_near : DF0} {l_law_near : Nat} (C_law_near : FnAt P w K mg base l_law_near "_law_near" ["state", "value"] f_law_near) (e_law_near : l_law_near ≤ n) {f_law_pick : DF0} {l_law_pick : Nat} (C_law_pick : FnAt P w K mg base l_law_pick "_law_pick" ["state", "some"] f_law_pick) (e_law_pick : l_law_pick ≤ n) :
    DSs (fun _ : Unit => cxOf (L2.CX P w) P w K mg base ["state", "value", "at", "some"] "_law_near" (defScope s_law_near) f cdv A outer s H E) K U (fun _ => E) (defBody s_law_near) (m_law_near K U f_law_draw f_law_near f_law_pick) :=
  dss_cons (ds_if ((dw_and (dt_tru F (de_callB F (b_isx F) caS_isx B.isi bt_isi (da_cons (de_var 1) (da_cons (de_ty F B.tuple bt_tuple) (da_nil))))) (dw_and (dt_cmpO (c_ne F) (de_var 1) (de_tup (da_nil))) (dw_and1 (dt_cmpO (c_gt) (de_call F C_law_draw (da_cons (de_var 0) (da_cons (de_int) (da_nil))) (by omega)) (de_int))))).dt) (dss_cons (ds_set F 2 (de_call F C_law_draw (da_cons (de_var 0) (da_cons (de_callB F (b_len F) caS_len B.len bt_len (da_cons (de_var 1) (da_nil))) (da_nil))) (by omega))) (dss_one (ds_ret (de_add2 F (de_add2 F (de_sl F (de_var 1) (do_none) (do_some (de_var 2))) (de_tup (da_cons (de_call F C_law_near (da_cons (de_var 0) (da_cons (de_ix F (de_var 1) (de_var 2)) (da_nil))) (by omega)) (da_nil)))) (de_sl F (de_var 1) (do_some (de_add2 F (de_var 2) (de_int))) (do_none)))))) (dss_nil)) (dss_cons (ds_if (dt_tru F (de_callB F (b_isx F) caS_isx B.isi bt_isi (da_cons (de_var 1) (da_cons (de_ty F B.int bt_int) (da_nil))))) (dss_one (ds_ret (de_call F C_law_pick (da_cons (de_var 0) (da_cons ((df_lst (da_cons (de_add2 F (de_var 1) (de_int)) (da_cons (de_sub (de_var 1) (de_int)) (da_cons (de_sub (de_int) (de_var 1)) (da_cons (de_bl) (da_cons (de_non) (da_cons (de_tup (da_cons (de_var 1) (da_nil))) (da_cons (de_callT F (fun _ => call_str_int) caS_str B.str bt_str (da_cons (de_var 1) (da_nil))) (da_nil))))))))).de) (da_nil))) (by omega)))) (dss_nil)) (dss_cons (ds_set F 3 (de_if (dt_tru F (de_callB F (b_isx F) caS_isx B.isi bt_isi (da_cons (de_var 1) (da_cons (de_ty F B.tuple bt_tuple) (da_nil))))) (de_callT F (b_lst F) caS_lst B.list bt_list (da_cons (de_var 1) (da_nil))) ((df_lst (da_cons (de_var 1) (da_nil))).de))) (dss_one (ds_ret (de_call F C_law_pick (da_cons (de_var 0) (da_cons ((df_lst (da_cons (de_non) (da_cons (de_var 3) (da_cons (de_callT F (b_tup F) caS_tup B.tuple bt_tuple (da_cons (de_add2 F (de_var 3) (de_sl F (de_var 3) (do_some (de_neg (de_int))) (do_none))) (da_nil))) (da_cons (de_callT F (b_tup F) caS_tup B.tuple bt_tuple (da_cons (de_sl F (de_var 3) (do_none) (do_some (de_neg (de_int)))) (da_nil))) (da_cons (de_callT F (b_tup F) caS_tup B.tuple bt_tuple (da_cons (de_rev F (de_var 3)) (da_nil))) (da_cons (de_callT F (b_tup F) caS_tup B.tuple bt_tuple (da_cons (de_var 3) (da_nil))) (da_cons (de_int) (da_cons (de_tup (da_cons (de_int) (da_cons (de_int) (da_nil)))) (da_nil)))))))))).de) (da_nil))) (by omega))))))
theorem at_nearP {w : World} {K : PySem.W.Frag} {mg : Str → Option Value} {base : Heap} (B : Blt mg) (p : PFn K mg "_law_near" s_law_near) (Cd : FnAt P w K mg base 2 "_law_draw" ["state", "room"] f_draw) (Cp : FnAt P w K mg base 3 "_law_pick" ["state", "some"] f_pick) : ∀ m, m < 40 → FnAt P w K mg base (m + 3) "_law_near" ["state", "value"] (f_nearP 200 2000 m)
  | 0, _ => (FnAt.no p (fun _ _ _ _ _ _ us hl => match us, hl with | [_, _], _ => rfl)).mono (Nat.zero_le _)
  | m + 1, hm => at_of (n := m + 3) p sc_law_near (by rintro _ _ _ _ _ ⟨_, _, _, _, _, _, rfl, _, rfl, _⟩ <;> rfl) (fun _ _ _ _ _ _ us hl => match us, hl with | [_, _], _ => rfl)
    (fun U E cdv A outer s H f F => ⟨_, b_law_near F B Cd (by omega) (at_nearP B p Cd Cp m (by omega)) (Nat.le_refl _) Cp (by omega), fun c ds k x h => near_ok (by decide) (by decide) (by decide) (by omega) h⟩)
theorem at_law_near {w : World} {K : PySem.W.Frag} {mg : Str → Option Value} {base : Heap} (B : Blt mg) (p : PFn K mg "_law_near" s_law_near) (C_law_draw : FnAt P w K mg base 2 "_law_draw" ["state", "room"] f_draw) (C_law_pick : FnAt P w K mg base 3 "_law_pick" ["state", "some"] f_pick) : FnAt P w K mg base 7 "_law_near" ["state", "value"] (f_near 200 2000 3) := at_nearP B p C_law_draw C_law_pick 4 (by decide)
/-! ### law_with_point -/
abbrev s_law_with_point : Stmt := topS 49
theorem sc_law_with_point : FnScope ["points", "code", "last"] ["points", "code"] (defScope s_law_with_point) := ⟨rfl, rfl, rfl, by decide +kernel, rfl, by decide +kernel, by decide +kernel⟩
set_option maxHeartbeats 4000000 in
theorem b_law_with_point {w : World} {K : PySem.W.Frag} {mg : Str → Option Value} {base : Heap} {U : Vol} {E : XK} {cdv : Value} {A : Around} {outer : List Env} {s : Shared} {H : Hp} {f : Addr} {n : Nat}
    (F : Fam (fun _ : Unit => cxOf (L2.CX P w) P w K mg base ["points", "code", "last"] "_law_with_point" (defScope s_law_with_point) f cdv A outer s H E) P w K mg base (fun _ => E) n) (B : Blt mg) :
    DSs (fun _ : Unit => cxOf (L2.CX P w) P w K mg base ["points", "code", "last"] "_law_with_point" (defScope s_law_with_point) f cdv A outer s H E) K U (fun _ => E) (defBody s_law_with_point) (m_law_with_point K U) :=
  dss_cons (ds_set F 2 (de_if (dt_cmpO (c_ne F) (de_var 0) (de_tup (da_nil))) (de_ix F (de_var 0) (de_sub (de_callB F (b_len F) caS_len B.len bt_len (da_cons (de_var 0) (da_nil))) (de_int))) (de_int))) (dss_cons (ds_if ((dw_and (dt_chain rfl (c_le) (c_lt) (de_int) (de_var 2) (de_int)) (dw_and1 (dt_chain rfl (c_le) (c_lt) (de_int) (de_var 1) (de_int)))).dt) (dss_one (ds_ret (de_add2 F (de_sl F (de_var 0) (do_none) (do_some (de_sub (de_callB F (b_len F) caS_len B.len bt_len (da_cons (de_var 0) (da_nil))) (de_int)))) (de_tup (da_cons (de_sub (de_add2 F (de_add2 F (de_int) (de_mul2 (de_int) (de_sub (de_var 2) (de_int)))) (de_var 1)) (de_int)) (da_nil)))))) (dss_nil)) (dss_one (ds_ret (de_add2 F (de_var 0) (de_tup (da_cons (de_var 1) (da_nil)))))))
theorem at_law_with_point {w : World} {K : PySem.W.Frag} {mg : Str → Option Value} {base : Heap} (B : Blt mg) (p : PFn K mg "_law_with_point" s_law_with_point) : FnAt P w K mg base 1 "_law_with_point" ["points", "code"] f_law_with_point :=
  at_of (n := 0) p sc_law_with_point (by rintro _ _ _ _ _ ⟨_, _, rfl, _⟩ <;> rfl) (fun _ _ _ _ _ _ us hl => match us, hl with | [_, _], _ => rfl)
    (fun U E cdv A outer s H f F => ⟨_, b_law_with_point F B, fun c ds k x h => law_with_point_ok (K := K) h⟩)
/-! ### law_some_points -/
abbrev s_law_some_points : Stmt := topS 50
theorem sc_law_some_points : FnScope ["state", "some", "found", "lap"] ["state"] (defScope s_law_some_points) := ⟨rfl, rfl, rfl, by decide +kernel, rfl, by decide +kernel, by decide +kernel⟩
set_option maxHeartbeats 4000000 in
theorem b_law_some_points {w : World} {K : PySem.W.Frag} {mg : Str → Option Value} {base : Heap} {U : Vol} {E : XK} {cdv : Value} {A : Around} {outer : List Env} {s : Shared} {H : Hp} {f : Addr} {n : Nat}
    (F : Fam (fun _ : Unit => cxOf (L2.CX P w) P w K mg base ["state", "some", "found", "lap"] "_law_some_points" (defScope s_law_some_points) f cdv A outer s H E) P w K mg base (fun _ => E) n) (B : Blt mg) {f_law_draw : DF0} {l_law_draw : Nat} (C_law_draw : FnAt P w K mg base l_law_draw "_law_draw" ["state", "room"] f_law_draw) (e_law_draw : l_law_draw ≤ n) {f_law_pick : DF0} {l_law_pick : Nat} (C_law_pick : FnAt P w K mg base l_law_pick "_law_pick" ["state", "some"] f_law_pick) (e_law_pick : l_law_pick ≤ n) {f_law_with_point : DF0} {l_law_with_point : Nat} (C_law_with_point : FnAt P w K mg base l_law_with_point "_law_with_point" ["points", "code"] f_law_with_point) (e_law_with_point : l_law_with_point ≤ n) :
    DSs (fun _ : Unit => cxOf (L2.CX P w) P w K mg base ["state", "some", "found", "lap"] "_law_some_points" (defScope s_law_some_points) f cdv A outer s H E) K U (fun _ => E) (defBody s_law_some_points) (m_law_some_points K U f_law_draw f_law_pick f_law_with_point) :=
  dss_cons (ds_set F 1 ((df_lst (da_cons (de_int) (da_cons (de_int) (da_cons (de_int) (da_cons (de_int) (da_cons (de_int) (da_cons (de_int) (da_cons (de_int) (da_cons (de_int) (da_cons (de_int) (da_cons (de_int) (da_cons (de_int) (da_cons (de_int) (da_cons (de_int) (da_cons (de_int) (da_cons (de_int) (da_nil))))))))))))))))).de)) (dss_cons (ds_set F 2 (de_tup (da_nil))) (dss_cons (ds_for F (di_r1 F B.range (da_cons (de_call F C_law_draw (da_cons (de_var 0) (da_cons (de_int) (da_nil))) (by omega)) (da_nil))) (dg_name (i := 3) F) (dss_one (ds_set F 2 (de_call F C_law_with_point (da_cons (de_var 2) (da_cons (de_call F C_law_pick (da_cons (de_var 0) (da_cons (de_sl F (de_var 1) (do_none) (do_some (de_call F C_law_pick (da_cons (de_var 0) (da_cons ((df_lst (da_cons (de_int) (da_cons (de_callB F (b_len F) caS_len B.len bt_len (da_cons (de_var 1) (da_nil))) (da_nil)))).de) (da_nil))) (by omega)))) (da_nil))) (by omega)) (da_nil))) (by omega))))) (dss_one (ds_ret (de_var 2)))))
theorem at_law_some_points {w : World} {K : PySem.W.Frag} {mg : Str → Option Value} {base : Heap} (B : Blt mg) (p : PFn K mg "_law_some_points" s_law_some_points) (C_law_draw : FnAt P w K mg base 2 "_law_draw" ["state", "room"] f_draw) (C_law_pick : FnAt P w K mg base 3 "_law_pick" ["state", "some"] f_pick) (C_law_with_point : FnAt P w K mg base 1 "_law_with_point" ["points", "code"] f_law_with_point) : FnAt P w K mg base 4 "_law_some_points" ["state"] f_some_points :=
  at_of (n := 3) p sc_law_some_points (by rintro _ _ _ _ _ ⟨_, _, _, _, _, rfl, _, rfl, _⟩ <;> rfl) (fun _ _ _ _ _ _ us hl => match us, hl with | [_], _ => rfl)
    (fun U E cdv A outer s H f F => ⟨_, b_law_some_points F B C_law_draw (by decide) C_law_pick (by decide) C_law_with_point (by decide), fun c ds k x h => some_points_ok (K := K) h⟩)
/-! ### law_some_decimal -/
abbrev s_law_some_decimal : Stmt := topS 51
theorem sc_law_some_decimal : FnScope ["state", "number", "exponent"] ["state"] (defScope s_law_some_decimal) := ⟨rfl, rfl, rfl, by decide +kernel, rfl, by decide +kernel, by decide +kernel⟩
set_option maxHeartbeats 4000000 in
theorem b_law_some_decimal {w : World} {K : PySem.W.Frag} {mg : Str → Option Value} {base : Heap} {U : Vol} {E : XK} {cdv : Value} {A : Around} {outer : List Env} {s : Shared} {H : Hp} {f : Addr} {n : Nat}
    (F : Fam (fun _ : Unit => cxOf (L2.CX P w) P w K mg base ["state", "number", "exponent"] "_law_some_decimal" (defScope s_law_some_decimal) f cdv A outer s H E) P w K mg base (fun _ => E) n) (B : Blt mg) {f_law_draw : DF0} {l_law_draw : Nat} (C_law_draw : FnAt P w K mg base l_law_draw "_law_draw" ["state", "room"] f_law_draw) (e_law_draw : l_law_draw ≤ n) {f_law_pick : DF0} {l_law_pick : Nat} (C_law_pick : FnAt P w K mg base l_law_pick "_law_pick" ["state", "some"] f_law_pick) (e_law_pick : l_law_pick ≤ n) :
    DSs (fun _ : Unit => cxOf (L2.CX P w) P w K mg base ["state", "number", "exponent"] "_law_some_decimal" (defScope s_law_some_decimal) f cdv A outer s H E) K U (fun _ => E) (defBody s_law_some_decimal) (m_law_some_decimal K U f_law_draw f_law_pick) :=
  dss_cons (ds_set F 1 (de_sub (de_call F C_law_draw (da_cons (de_var 0) (da_cons (de_call F C_law_pick (da_cons (de_var 0) (da_cons ((df_lst (da_cons (de_int) (da_cons (de_int) (da_cons (de_int) (da_nil))))).de) (da_nil))) (by omega)) (da_nil))) (by omega)) (de_call F C_law_pick (da_cons (de_var 0) (da_cons ((df_lst (da_cons (de_int) (da_cons (de_int) (da_cons (de_int) (da_nil))))).de) (da_nil))) (by omega)))) (dss_cons (ds_set F 2 (de_call F C_law_pick (da_cons (de_var 0) (da_cons ((df_lst (da_cons (de_int) (da_cons (de_int) (da_cons (de_int) (da_cons (de_int) (da_cons (de_sub (de_int) (de_int)) (da_cons (de_int) (da_cons (de_sub (de_int) (de_int)) (da_nil))))))))).de) (da_nil))) (by omega))) (dss_cons (ds_while F ((dw_and (dt_cmpO (c_ne F) (de_var 1) (de_int)) (dw_and1 (dt_cmpO (c_eq F) (de_mod (de_callT F (b_int) caS_int B.int bt_int (da_cons (de_var 1) (da_nil))) (de_int)) (de_int)))).dt) (dss_cons (ds_set F 1 (de_div (de_var 1) (de_int))) (dss_one (ds_augAdd F 2 (de_int))))) (dss_one (ds_ret (de_if (dt_cmpO (c_ne F) (de_var 1) (de_int)) (de_tup (da_cons (de_var 1) (da_cons (de_var 2) (da_nil)))) (de_tup (da_cons (de_int) (da_cons (de_int) (da_nil)))))))))
theorem at_law_some_decimal {w : World} {K : PySem.W.Frag} {mg : Str → Option Value} {base : Heap} (B : Blt mg) (p : PFn K mg "_law_some_decimal" s_law_some_decimal) (C_law_draw : FnAt P w K mg base 2 "_law_draw" ["state", "room"] f_draw) (C_law_pick : FnAt P w K mg base 3 "_law_pick" ["state", "some"] f_pick) : FnAt P w K mg base 4 "_law_some_decimal" ["state"] f_some_decimal :=
  at_of (n := 3) p sc_law_some_decimal (by rintro _ _ _ _ _ ⟨_, _, _, _, _, rfl, _, rfl, _⟩ <;> rfl) (fun _ _ _ _ _ _ us hl => match us, hl with | [_], _ => rfl)
    (fun U E cdv A outer s H f F => ⟨_, b_law_some_decimal F B C_law_draw (by decide) C_law_pick (by decide), fun c ds k x h => some_decimal_ok (K := K) h⟩)
/-! ### law_some_value -/
abbrev s_law_some_value : Stmt := topS 52
theorem sc_law_some_value : FnScope ["state", "deep", "way", "lap", "members"] ["state", "deep"] (defScope s_law_some_value) := ⟨rfl, rfl, rfl, by decide +kernel, rfl, by decide +kernel, by decide +kernel⟩
set_option maxHeartbeats 4000000 in
theorem b_law_some_value {w : World} {K : PySem.W.Frag} {mg : Str → Option Value} {base : Heap} {U : Vol} {E : XK} {cdv : Value} {A : Around} {outer : List Env} {s : Shared} {H : Hp} {f : Addr} {n : Nat}
    (F : Fam (fun _ : Unit => cxOf (L2.CX P w) P w K mg base ["state", "deep", "way", "lap", "members"] "_law_some_value" (defScope s_law_some_value) f cdv A outer s H E) P w K mg base (fun _ => E) n) (B : Blt mg) {f_law_draw : DF0} {l_law_draw : Nat} (C_law_draw : FnAt P w K mg base l_law_draw "_law_draw" ["state", "room"] f_law_draw) (e_law_draw : l_law_draw ≤ n) {f_law_pick : DF0} {l_law_pick : Nat} (C_law_pick : FnAt P w K mg base l_law_pick "_law_pick" ["state", "some"] f_law_pick) (e_law_pick : l_law_pick ≤ n) {f_law_some_decimal : DF0} {l_law_some_decimal : Nat} (C_law_some_decimal : FnAt P w K mg base l_law_some_decimal "_law_some_decimal" ["state"] f_law_some_decimal) (e_law_some_decimal : l_law_some_decimal ≤ n) {f_law_some_points : DF0} {l_law_some_points : Nat} (C_law_some_points : FnAt P w K mg base l_law_some_points "_law_some_points" ["state"] f_law_some_points) (e_law_some_points : l_law_some_points ≤ n) {f_law_some_value : DF0} {l_law_some_value : Nat} (C_law_some_value : FnAt P w K mg base l_law_some_value "_law_some_value" ["state", "deep"] f_law_some_value) (e_law_some_value : l_law_some_value ≤ n) :
    DSs (fun _ : Unit => cxOf (L2.CX P w) P w K mg base ["state", "deep", "way", "lap", "members"] "_law_some_value" (defScope s_law_some_value) f cdv A outer s H E) K U (fun _ => E) (defBody s_law_some_value) (m_law_some_value K U f_law_draw f_law_pick f_law_some_decimal f_law_some_points f_law_some_value) :=
  dss_cons (ds_set F 2 (de_call F C_law_draw (da_cons (de_var 0) (da_cons (de_if (dt_cmpO (c_gt) (de_var 1) (de_int)) (de_int) (de_int)) (da_nil))) (by omega))) (dss_cons (ds_if (dt_cmpO (c_lt) (de_var 2) (de_int)) (dss_one (ds_ret (de_add2 F (de_tup (da_cons (de_str) (da_nil))) (de_call F C_law_some_decimal (da_cons (de_var 0) (da_nil)) (by omega))))) (dss_nil)) (dss_cons (ds_if (dt_cmpO (c_eq F) (de_var 2) (de_int)) (dss_one (ds_ret (de_tup (da_cons (de_str) (da_cons (de_call F C_law_some_points (da_cons (de_var 0) (da_nil)) (by omega)) (da_nil)))))) (dss_nil)) (dss_cons (ds_if (dt_cmpO (c_lt) (de_var 2) (de_int)) (dss_one (ds_ret (de_tup (da_cons (de_call F C_law_pick (da_cons (de_var 0) (da_cons ((df_lst (da_cons (de_str) (da_cons (de_str) (da_cons (de_str) (da_nil))))).de) (da_nil))) (by omega)) (da_nil))))) (dss_nil)) (dss_cons (ds_if (dt_cmpO (c_lt) (de_var 2) (de_int)) (dss_one (ds_ret (de_tup (da_cons (de_str) (da_cons (de_callT F (b_tup F) caS_tup B.tuple bt_tuple (da_cons ((df_lc F [("lap", 3)] (di_r1 F B.range (da_cons (de_call F C_law_draw (da_cons (de_var 0) (da_cons (de_int) (da_nil))) (by omega)) (da_nil))) (by intro _; rfl) (dgc_name (i := 3) (F.blk _) (by decide)) (dts_nil) (de_call (F.blk _) C_law_some_value (da_cons (de_var 0) (da_cons (de_sub (de_var 1) (de_int)) (da_nil))) (by omega))).de) (da_nil))) (da_nil)))))) (dss_nil)) (dss_cons (ds_dnewT F 4) (dss_cons (ds_for F (di_r1 F B.range (da_cons (de_call F C_law_draw (da_cons (de_var 0) (da_cons (de_int) (da_nil))) (by omega)) (da_nil))) (dg_name (i := 3) F) (dss_one (ds_dtPut F 4 (de_call F C_law_some_points (da_cons (de_var 0) (da_nil)) (by omega)) (de_call F C_law_some_value (da_cons (de_var 0) (da_cons (de_sub (de_var 1) (de_int)) (da_nil))) (by omega))))) (dss_one (ds_ret (de_tup (da_cons (de_str) (da_cons (de_dtItems F 4 B.tuple) (da_nil))))))))))))
theorem at_some_valueP {w : World} {K : PySem.W.Frag} {mg : Str → Option Value} {base : Heap} (B : Blt mg) (p : PFn K mg "_law_some_value" s_law_some_value) (Cd : FnAt P w K mg base 2 "_law_draw" ["state", "room"] f_draw) (Cp : FnAt P w K mg base 3 "_law_pick" ["state", "some"] f_pick) (Ce : FnAt P w K mg base 4 "_law_some_decimal" ["state"] f_some_decimal) (Cs : FnAt P w K mg base 4 "_law_some_points" ["state"] f_some_points) : ∀ m, FnAt P w K mg base (m + 4) "_law_some_value" ["state", "deep"] (f_some_valueP m)
  | 0 => (FnAt.no p (fun _ _ _ _ _ _ us hl => match us, hl with | [_, _], _ => rfl)).mono (Nat.zero_le _)
  | m + 1 => at_of (n := m + 4) p sc_law_some_value (by rintro _ _ _ _ _ ⟨_, _, _, _, _, rfl, _, rfl, _⟩ <;> rfl) (fun _ _ _ _ _ _ us hl => match us, hl with | [_, _], _ => rfl)
    (fun U E cdv A outer s H f F => ⟨_, b_law_some_value F B Cd (by omega) Cp (by omega) Ce (by omega) Cs (by omega) (at_some_valueP B p Cd Cp Ce Cs m) (Nat.le_refl _), fun c ds k x h => some_value_ok (K := K) h⟩)
theorem at_law_some_value {w : World} {K : PySem.W.Frag} {mg : Str → Option Value} {base : Heap} (B : Blt mg) (p : PFn K mg "_law_some_value" s_law_some_value) (Cd : FnAt P w K mg base 2 "_law_draw" ["state", "room"] f_draw) (Cp : FnAt P w K mg base 3 "_law_pick" ["state", "some"] f_pick) (Ce : FnAt P w K mg base 4 "_law_some_decimal" ["state"] f_some_decimal) (Cs : FnAt P w K mg base 4 "_law_some_points" ["state"] f_some_points) : FnAt P w K mg base 6 "_law_some_value" ["state", "deep"] (f_some_value 1) := at_some_valueP B p Cd Cp Ce Cs 2
/-! ### law_order -/
abbrev s_law_order : Stmt := topS 53
theorem sc_law_order : FnScope ["one", "other", "low", "here", "there", "lap"] ["one", "other"] (defScope s_law_order) := ⟨rfl, rfl, rfl, by decide +kernel, rfl, by decide +kernel, by decide +kernel⟩
set_option maxHeartbeats 4000000 in
theorem b_law_order {w : World} {K : PySem.W.Frag} {mg : Str → Option Value} {base : Heap} {U : Vol} {E : XK} {cdv : Value} {A : Around} {outer : List Env} {s : Shared} {H : Hp} {f : Addr} {n : Nat}
    (F : Fam (fun _ : Unit => cxOf (L2.CX P w) P w K mg base ["one", "other", "low", "here", "there", "lap"] "_law_order" (defScope s_law_order) f cdv A outer s H E) P w K mg base (fun _ => E) n) (B : Blt mg) :
    DSs (fun _ : Unit => cxOf (L2.CX P w) P w K mg base ["one", "other", "low", "here", "there", "lap"] "_law_order" (defScope s_law_order) f cdv A outer s H E) K U (fun _ => E) (defBody s_law_order) (m_law_order K U) :=
  dss_cons (ds_set F 2 (de_callB F (fun j => call_min2 (F.calm j)) caS_min2 B.min DL.boot_min (da_cons (de_ix F (de_var 0) (de_int)) (da_cons (de_ix F (de_var 1) (de_int)) (da_nil))))) (dss_cons (ds_par F 3 4 (da_cons (de_ix F (de_var 0) (de_int)) (da_cons (de_ix F (de_var 1) (de_int)) (da_nil)))) (dss_cons (ds_for F (di_r1 F B.range (da_cons (de_sub (de_ix F (de_var 0) (de_int)) (de_var 2)) (da_nil))) (dg_name (i := 5) F) (dss_one (ds_set F 3 (de_mul2 (de_int) (de_var 3))))) (dss_cons (ds_for F (di_r1 F B.range (da_cons (de_sub (de_ix F (de_var 1) (de_int)) (de_var 2)) (da_nil))) (dg_name (i := 5) F) (dss_one (ds_set F 4 (de_mul2 (de_int) (de_var 4))))) (dss_one (ds_ret (de_if (dt_cmpO (c_lt) (de_var 3) (de_var 4)) (de_sub (de_int) (de_int)) (de_if (dt_cmpO (c_gt) (de_var 3) (de_var 4)) (de_int) (de_int))))))))
theorem at_law_order {w : World} {K : PySem.W.Frag} {mg : Str → Option Value} {base : Heap} (B : Blt mg) (p : PFn K mg "_law_order" s_law_order) : FnAt P w K mg base 1 "_law_order" ["one", "other"] f_law_order :=
  at_of (n := 0) p sc_law_order (by rintro _ _ _ _ _ ⟨_, _, _, _, rfl, _⟩ <;> rfl) (fun _ _ _ _ _ _ us hl => match us, hl with | [_, _], _ => rfl)
    (fun U E cdv A outer s H f F => ⟨_, b_law_order F B, fun c ds k x h => law_order_ok (K := K) h⟩)
/-! ### law_passes -/
abbrev s_law_passes : Stmt := topS 54
theorem sc_law_passes : FnScope ["value", "test", "sign", "operand", "side"] ["value", "test"] (defScope s_law_passes) := ⟨rfl, rfl, rfl, by decide +kernel, rfl, by decide +kernel, by decide +kernel⟩
set_option maxHeartbeats 4000000 in
theorem b_law_passes {w : World} {K : PySem.W.Frag} {mg : Str → Option Value} {base : Heap} {U : Vol} {E : XK} {cdv : Value} {A : Around} {outer : List Env} {s : Shared} {H : Hp} {f : Addr} {n : Nat}
    (F : Fam (fun _ : Unit => cxOf (L2.CX P w) P w K mg base ["value", "test", "sign", "operand", "side"] "_law_passes" (defScope s_law_passes) f cdv A outer s H E) P w K mg base (fun _ => E) n) (B : Blt mg) {f_law_order : DF0} {l_law_order : Nat} (C_law_order : FnAt P w K mg base l_law_order "_law_order" ["one", "other"] f_law_order) (e_law_order : l_law_order ≤ n) :
    DSs (fun _ : Unit => cxOf (L2.CX P w) P w K mg base ["value", "test", "sign", "operand", "side"] "_law_passes" (defScope s_law_passes) f cdv A outer s H E) K U (fun _ => E) (defBody s_law_passes) (m_law_passes K U f_law_order) :=
  dss_cons (ds_asg (de_var 1) (dg_tup (n := 2) F (dgs_cons (dg_name (i := 2) F) (dgs_cons (dg_name (i := 3) F) (dgs_nil))))) (dss_cons (ds_if (dt_cmpO (c_ne F) (de_ix F (de_var 0) (de_int)) (de_ix F (de_var 3) (de_int))) (dss_one (ds_ret (de_bl))) (dss_nil)) (dss_cons (ds_set F 4 (de_if (dt_cmpO (c_eq F) (de_ix F (de_var 0) (de_int)) (de_str)) (de_call F C_law_order (da_cons (de_sl F (de_var 0) (do_some (de_int)) (do_none)) (da_cons (de_sl F (de_var 3) (do_some (de_int)) (do_none)) (da_nil))) (by omega)) (de_if (dt_cmpO (c_ltT F) (de_ix F (de_var 0) (de_int)) (de_ix F (de_var 3) (de_int))) (de_sub (de_int) (de_int)) (de_if (dt_cmpO (c_gtT F) (de_ix F (de_var 0) (de_int)) (de_ix F (de_var 3) (de_int))) (de_int) (de_int))))) (dss_one (ds_ret (de_dix F (de_dct (dp_str (de_cmpO (c_lt) (de_var 4) (de_int)) (dp_str (de_cmpO (c_le) (de_var 4) (de_int)) (dp_str (de_cmpO (c_eq F) (de_var 4) (de_int)) (dp_str (de_cmpO (c_ge) (de_var 4) (de_int)) (dp_str (de_cmpO (c_gt) (de_var 4) (de_int)) (dp_nil)))))) (by decide +kernel) (by decide +kernel)) (de_var 2))))))
theorem at_law_passes {w : World} {K : PySem.W.Frag} {mg : Str → Option Value} {base : Heap} (B : Blt mg) (p : PFn K mg "_law_passes" s_law_passes) (C_law_order : FnAt P w K mg base 1 "_law_order" ["one", "other"] f_law_order) : FnAt P w K mg base 2 "_law_passes" ["value", "test"] f_law_passes :=
  at_of (n := 1) p sc_law_passes (by rintro _ _ _ _ _ ⟨_, _, _, rfl, _⟩ <;> rfl) (fun _ _ _ _ _ _ us hl => match us, hl with | [_, _], _ => rfl)
    (fun U E cdv A outer s H f F => ⟨_, b_law_passes F B C_law_order (by decide), fun c ds k x h => law_passes_ok (K := K) h⟩)
/-! ### law_some_test -/
abbrev s_law_some_test : Stmt := topS 55
theorem sc_law_some_test : FnScope ["state", "operand"] ["state"] (defScope s_law_some_test) := ⟨rfl, rfl, rfl, by decide +kernel, rfl, by decide +kernel, by decide +kernel⟩
set_option maxHeartbeats 4000000 in
theorem b_law_some_test {w : World} {K : PySem.W.Frag} {mg : Str → Option Value} {base : Heap} {U : Vol} {E : XK} {cdv : Value} {A : Around} {outer : List Env} {s : Shared} {H : Hp} {f : Addr} {n : Nat}
    (F : Fam (fun _ : Unit => cxOf (L2.CX P w) P w K mg base ["state", "operand"] "_law_some_test" (defScope s_law_some_test) f cdv A outer s H E) P w K mg base (fun _ => E) n) (B : Blt mg) {f_law_draw : DF0} {l_law_draw : Nat} (C_law_draw : FnAt P w K mg base l_law_draw "_law_draw" ["state", "room"] f_law_draw) (e_law_draw : l_law_draw ≤ n) {f_law_pick : DF0} {l_law_pick : Nat} (C_law_pick : FnAt P w K mg base l_law_pick "_law_pick" ["state", "some"] f_law_pick) (e_law_pick : l_law_pick ≤ n) {f_law_some_decimal : DF0} {l_law_some_decimal : Nat} (C_law_some_decimal : FnAt P w K mg base l_law_some_decimal "_law_some_decimal" ["state"] f_law_some_decimal) (e_law_some_decimal : l_law_some_decimal ≤ n) {f_law_some_points : DF0} {l_law_some_points : Nat} (C_law_some_points : FnAt P w K mg base l_law_some_points "_law_some_points" ["state"] f_law_some_points) (e_law_some_points : l_law_some_points ≤ n) :
    DSs (fun _ : Unit => cxOf (L2.CX P w) P w K mg base ["state", "operand"] "_law_some_test" (defScope s_law_some_test) f cdv A outer s H E) K U (fun _ => E) (defBody s_law_some_test) (m_law_some_test K U f_law_draw f_law_pick f_law_some_decimal f_law_some_points) :=
  dss_cons (ds_set F 1 (de_if (dt_cmpO (c_gt) (de_call F C_law_draw (da_cons (de_var 0) (da_cons (de_int) (da_nil))) (by omega)) (de_int)) (de_add2 F (de_tup (da_cons (de_str) (da_nil))) (de_call F C_law_pick (da_cons (de_var 0) (da_cons ((df_lst (da_cons (de_call F C_law_some_decimal (da_cons (de_var 0) (da_nil)) (by omega)) (da_cons (de_tup (da_cons (de_int) (da_cons (de_int) (da_nil)))) (da_cons (de_tup (da_cons (de_int) (da_cons (de_int) (da_nil)))) (da_cons (de_tup (da_cons (de_int) (da_cons (de_int) (da_nil)))) (da_cons (de_tup (da_cons (de_int) (da_cons (de_int) (da_nil)))) (da_cons (de_tup (da_cons (de_neg (de_int)) (da_cons (de_int) (da_nil)))) (da_cons (de_tup (da_cons (de_int) (da_cons (de_neg (de_int)) (da_nil)))) (da_nil))))))))).de) (da_nil))) (by omega))) (de_tup (da_cons (de_str) (da_cons (de_call F C_law_some_points (da_cons (de_var 0) (da_nil)) (by omega)) (da_nil)))))) (dss_one (ds_ret (de_tup (da_cons (de_call F C_law_pick (da_cons (de_var 0) (da_cons ((df_lst (da_cons (de_str) (da_cons (de_str) (da_cons (de_str) (da_cons (de_str) (da_cons (de_str) (da_nil))))))).de) (da_nil))) (by omega)) (da_cons (de_var 1) (da_nil))))))
theorem at_law_some_test {w : World} {K : PySem.W.Frag} {mg : Str → Option Value} {base : Heap} (B : Blt mg) (p : PFn K mg "_law_some_test" s_law_some_test) (C_law_draw : FnAt P w K mg base 2 "_law_draw" ["state", "room"] f_draw) (C_law_pick : FnAt P w K mg base 3 "_law_pick" ["state", "some"] f_pick) (C_law_some_decimal : FnAt P w K mg base 4 "_law_some_decimal" ["state"] f_some_decimal) (C_law_some_points : FnAt P w K mg base 4 "_law_some_points" ["state"] f_some_points) : FnAt P w K mg base 5 "_law_some_test" ["state"] f_some_test :=
  at_of (n := 4) p sc_law_some_test (by rintro _ _ _ _ _ ⟨_, _, _, _, _, rfl, _, rfl, _⟩ <;> rfl) (fun _ _ _ _ _ _ us hl => match us, hl with | [_], _ => rfl)
    (fun U E cdv A outer s H f F => ⟨_, b_law_some_test F B C_law_draw (by decide) C_law_pick (by decide) C_law_some_decimal (by decide) C_law_some_points (by decide), fun c ds k x h => some_test_ok (K := K) h⟩)
/-! ### law_is_test -/
abbrev s_law_is_test : Stmt := topS 56
theorem sc_law_is_test : FnScope ["thing"] ["thing"] (defScope s_law_is_test) := ⟨rfl, rfl, rfl, by decide +kernel, rfl, by decide +kernel, by decide +kernel⟩
set_option maxHeartbeats 4000000 in
theorem b_law_is_test {w : World} {K : PySem.W.Frag} {mg : Str → Option Value} {base : Heap} {U : Vol} {E : XK} {cdv : Value} {A : Around} {outer : List Env} {s : Shared} {H : Hp} {f : Addr} {n : Nat}
    (F : Fam (fun _ : Unit => cxOf (L2.CX P w) P w K mg base ["thing"] "_law_is_test" (defScope s_law_is_test) f cdv A outer s H E) P w K mg base (fun _ => E) n) (B : Blt mg) {f_is_value : DF0} {l_is_value : Nat} (C_is_value : FnAt P w K mg base l_is_value "is_value" ["thing"] f_is_value) (e_is_value : l_is_value ≤ n) :
    DSs (fun _ : Unit => cxOf (L2.CX P w) P w K mg base ["thing"] "_law_is_test" (defScope s_law_is_test) f cdv A outer s H E) K U (fun _ => E) (defBody s_law_is_test) (m_law_is_test K U f_is_value) :=
  dss_one (ds_ret (de_and F (de_callB F (b_isx F) caS_isx B.isi bt_isi (da_cons (de_var 0) (da_cons (de_ty F B.tuple bt_tuple) (da_nil)))) (de_and F (de_cmpO (c_eq F) (de_callB F (b_len F) caS_len B.len bt_len (da_cons (de_var 0) (da_nil))) (de_int)) (de_and F (de_callB F (b_isx F) caS_isx B.isi bt_isi (da_cons (de_ix F (de_var 0) (de_int)) (da_cons (de_ty F B.str bt_str) (da_nil)))) (de_and F (de_cmpO (c_in F) (de_ix F (de_var 0) (de_int)) ((df_lst (da_cons (de_str) (da_cons (de_str) (da_cons (de_str) (da_cons (de_str) (da_cons (de_str) (da_nil))))))).de)) (de_and F (de_call F C_is_value (da_cons (de_ix F (de_var 0) (de_int)) (da_nil)) (by omega)) (de_one (de_cmpO (c_in F) (de_ix F (de_ix F (de_var 0) (de_int)) (de_int)) ((df_lst (da_cons (de_str) (da_cons (de_str) (da_nil)))).de)))))))))
theorem at_law_is_test {w : World} {K : PySem.W.Frag} {mg : Str → Option Value} {base : Heap} (B : Blt mg) (p : PFn K mg "_law_is_test" s_law_is_test) (C_is_value : FnAt P w K mg base 64 "is_value" ["thing"] f_is_value) : FnAt P w K mg base 65 "_law_is_test" ["thing"] f_law_is_test :=
  at_of (n := 64) p sc_law_is_test (by rintro _ _ _ _ _ ⟨_, rfl, _⟩ <;> rfl) (fun _ _ _ _ _ _ us hl => match us, hl with | [_], _ => rfl)
    (fun U E cdv A outer s H f F => ⟨_, b_law_is_test F B C_is_value (by decide), fun c ds k x h => law_is_test_ok (K := K) h⟩)
/-! ### law -/
abbrev s_law : Stmt := topS 57
theorem sc_law : FnScope ["script", "state", "one", "told", "turn", "test", "value", "thing", "due", "error"] ["script"] (defScope s_law) := ⟨rfl, rfl, rfl, by decide +kernel, rfl, by decide +kernel, by decide +kernel⟩
def m_law (K : PySem.W.Frag) (U : Vol) (c_InvalidTest : Addr) (c_InvalidValue : Addr) (c_ReadError : Addr) (f_law_is : DF0) (f_law_is_test : DF0) (f_law_near : DF0) (f_law_passes : DF0) (f_law_some_decimal : DF0) (f_law_some_points : DF0) (f_law_some_test : DF0) (f_law_some_value : DF0) (f_is_test : DF0) (f_passes : DF0) : MS :=
  sSeq (sAsg (eTup (aCons (eC (.str "number")) (aCons (eC (.int 1)) (aCons (eC (.int 0)) (aNil))))) (gNm 2)) (sSeq (sOwn 3 (fLst (aCons (eC .non) (aCons (eC (.int 5)) (aCons (eTup (aNil)) (aCons (eTup (aCons (eC (.str "<")) (aNil))) (aCons (eTup (aCons (eC (.str "<")) (aCons (eVar 2) (aCons (eC (.int 0)) (aNil))))) (aCons (eF (fLst (aCons (eC (.str "<")) (aCons (eVar 2) (aNil))))) (aCons (eTup (aCons (eC (.str "=")) (aCons (eVar 2) (aNil)))) (aCons (eTup (aCons (eC (.str "!=")) (aCons (eVar 2) (aNil)))) (aCons (eTup (aCons (eC (.str "<")) (aCons (eTup (aCons (eC (.str "null")) (aNil))) (aNil)))) (aCons (eTup (aCons (eC (.str "<")) (aCons (eTup (aCons (eC (.str "array")) (aCons (eTup (aNil)) (aNil)))) (aNil)))) (aCons (eTup (aCons (eC (.str "<")) (aCons (eTup (aCons (eC (.str "number")) (aCons (eC (.int 10)) (aCons (eC (.int 0)) (aNil))))) (aNil)))) (aCons (eTup (aCons (eC (.str "<")) (aCons (eTup (aCons (eC (.str "string")) (aCons (eC (.str "a")) (aNil)))) (aNil)))) (aCons (eTup (aCons (eC (.str "<")) (aCons (eC (.int 1)) (aNil)))) (aCons (eTup (aCons (eC .non) (aCons (eVar 2) (aNil)))) (aCons (eTup (aCons (eC (.str "==")) (aCons (eTup (aCons (eC (.str "string")) (aCons (eTup (aCons (eC (.int 55296)) (aCons (eC (.int 56320)) (aNil)))) (aNil)))) (aNil)))) (aNil)))))))))))))))))) (sSeq (sFor (iR1 (aCons (eOp add2D (eC (.int 25)) (eCa min2D (aCons (eCa lenD (aCons (eVar 0) (aNil))) (aCons (eC (.int 15)) (aNil))))) (aNil))) (gNm 4) (sSeq (sAsg (eCall (f_law_some_test U) (aCons (eVar 1) (aNil))) (gNm 5)) (sSeq (sExt 3 (eF (fLst (aCons (eVar 5) (aCons (eCall (f_law_near U) (aCons (eVar 1) (aCons (eVar 5) (aNil)))) (aCons (eCall (f_law_near U) (aCons (eVar 1) (aCons (eVar 5) (aNil)))) (aNil))))))) (sFor (iLst (eF (fLst (aCons (eCall (f_law_some_value U) (aCons (eVar 1) (aCons (eC (.int 1)) (aNil)))) (aCons (eOp ixD (eVar 5) (eC (.int 1))) (aCons (eOp add2D (eTup (aCons (eC (.str "number")) (aNil))) (eCall (f_law_some_decimal U) (aCons (eVar 1) (aNil)))) (aCons (eTup (aCons (eC (.str "string")) (aCons (eCall (f_law_some_points U) (aCons (eVar 1) (aNil))) (aNil)))) (aCons (eIf (eTest (eOp eqD (eOp ixD (eOp ixD (eVar 5) (eC (.int 1))) (eC (.int 0))) (eC (.str "string")))) (eTup (aCons (eC (.str "string")) (aCons (eOp add2D (eOp ixD (eOp ixD (eVar 5) (eC (.int 1))) (eC (.int 1))) (eTup (aCons (eC (.int 0)) (aNil)))) (aNil)))) (eTup (aCons (eC (.str "number")) (aCons (eC (.int 1)) (aCons (eC (.int 0)) (aNil)))))) (aNil))))))))) (gNm 6) (sIf (tNotM (eTru (eCall (f_law_is U) (aCons (eF (fLst (aCons (eCall (f_passes U) (aCons (eVar 6) (aCons (eVar 5) (aNil)))) (aCons (eCallKw (f_passes U) swD (aCons (eVar 5) (aCons (eVar 6) (aNil)))) (aNil))))) (aCons (eOp mul2D (eF (fLst (aCons (eCall (f_law_passes U) (aCons (eVar 6) (aCons (eVar 5) (aNil)))) (aNil)))) (eC (.int 2))) (aNil)))))) (sRet (eC (.bl false))) (sNext)))))) (sFrz 3 (sSeq (sFor (iLst (eVar 3)) (gNm 7) (sSeq (sAsg (eCall (f_law_is_test U) (aCons (eVar 7) (aNil))) (gNm 8)) (sSeq (sAsg (eCaught K c_ReadError (eCall (f_passes U) (aCons (eVar 2) (aCons (eVar 7) (aNil))))) (gNm 9)) (sSeq (sIf (tOrM (tNotM (eTru (eCall (f_law_is U) (aCons (eCall (f_is_test U) (aCons (eVar 7) (aNil))) (aCons (eVar 8) (aNil)))))) (tOrM (eTest (eOp neD (eOp isD (eVar 9) (eC .non)) (eVar 8))) (tAndM (eTest (eOp isNotD (eVar 9) (eC .non))) (tNotM (eTru (eCa (isxD K) (aCons (eVar 9) (aCons (eC (.hdl c_InvalidTest)) (aNil))))))))) (sRet (eC (.bl false))) (sNext)) (sIf (tNotM (eTru (eCa (isxD K) (aCons (eCaught K c_ReadError (eCall (f_passes U) (aCons (eTup (aCons (eC (.str "number")) (aCons (eC (.int 10)) (aCons (eC (.int 0)) (aNil))))) (aCons (eVar 7) (aNil))))) (aCons (eC (.hdl c_InvalidValue)) (aNil)))))) (sRet (eC (.bl false))) (sNext)))))) (sRet (eC (.bl true)))))))
set_option maxHeartbeats 4000000 in
theorem b_law {w : World} {K : PySem.W.Frag} {mg : Str → Option Value} {base : Heap} {U : Vol} {E : XK} {cdv : Value} {A : Around} {outer : List Env} {s : Shared} {H : Hp} {f : Addr} {n : Nat} {c_ReadError c Pt : Addr} (CG : CgtS K mg base c Pt c_ReadError s_law_caught) (TU : TabU U Pt [(Pt, "law.<locals>.<lambda>")])
    (F : Fam (fun _ : Unit => cxOf (L2.CX P w) P w K mg base ["script", "state", "one", "told", "turn", "test", "value", "thing", "due", "error"] "law" (defScope s_law) f (.ref c) A outer s H E) P w K mg base (fun _ => E) n) (B : Blt mg) {c_InvalidTest : Addr} (h_InvalidTest : ExA K mg "InvalidTest" c_InvalidTest) {c_InvalidValue : Addr} (h_InvalidValue : ExA K mg "InvalidValue" c_InvalidValue) {f_law_is : DF0} {l_law_is : Nat} (C_law_is : FnAt P w K mg base l_law_is "_law_is" ["found", "due"] f_law_is) (e_law_is : l_law_is + 2 ≤ n) {f_law_is_test : DF0} {l_law_is_test : Nat} (C_law_is_test : FnAt P w K mg base l_law_is_test "_law_is_test" ["thing"] f_law_is_test) (e_law_is_test : l_law_is_test + 2 ≤ n) {f_law_near : DF0} {l_law_near : Nat} (C_law_near : FnAt P w K mg base l_law_near "_law_near" ["state", "value"] f_law_near) (e_law_near : l_law_near + 2 ≤ n) {f_law_passes : DF0} {l_law_passes : Nat} (C_law_passes : FnAt P w K mg base l_law_passes "_law_passes" ["value", "test"] f_law_passes) (e_law_passes : l_law_passes + 2 ≤ n) {f_law_some_decimal : DF0} {l_law_some_decimal : Nat} (C_law_some_decimal : FnAt P w K mg base l_law_some_decimal "_law_some_decimal" ["state"] f_law_some_decimal) (e_law_some_decimal : l_law_some_decimal + 2 ≤ n) {f_law_some_points : DF0} {l_law_some_points : Nat} (C_law_some_points : FnAt P w K mg base l_law_some_points "_law_some_points" ["state"] f_law_some_points) (e_law_some_points : l_law_some_points + 2 ≤ n) {f_law_some_test : DF0} {l_law_some_test : Nat} (C_law_some_test : FnAt P w K mg base l_law_some_test "_law_some_test" ["state"] f_law_some_test) (e_law_some_test : l_law_some_test + 2 ≤ n) {f_law_some_value : DF0} {l_law_some_value : Nat} (C_law_some_value : FnAt P w K mg base l_law_some_value "_law_some_value" ["state", "deep"] f_law_some_value) (e_law_some_value : l_law_some_value + 2 ≤ n) {f_is_test : DF0} {l_is_test : Nat} (C_is_test : FnAt P w K mg base l_is_test "is_test" ["thing"] f_is_test) (e_is_test : l_is_test + 2 ≤ n) {f_passes : DF0} {l_passes : Nat} (C_passes : FnAt P w K mg base l_passes "passes" ["value", "test"] f_passes) (e_passes : l_passes + 2 ≤ n) (K2_passes : FnAtK P w K mg base l_passes "passes" ["value", "test"] ["test", "value"] gSwV f_passes) :
    DSs (fun _ : Unit => cxOf (L2.CX P w) P w K mg base ["script", "state", "one", "told", "turn", "test", "value", "thing", "due", "error"] "law" (defScope s_law) f (.ref c) A outer s H E) K U (fun _ => E) (defBody s_law).tail (m_law K U c_InvalidTest c_InvalidValue c_ReadError f_law_is f_law_is_test f_law_near f_law_passes f_law_some_decimal f_law_some_points f_law_some_test f_law_some_value f_is_test f_passes) :=
  dss_cons (ds_set F 2 (de_tup (da_cons (de_str) (da_cons (de_int) (da_cons (de_int) (da_nil)))))) (dss_cons (ds_own F 3 (df_lst (da_cons (de_non) (da_cons (de_int) (da_cons (de_tup (da_nil)) (da_cons (de_tup (da_cons (de_str) (da_nil))) (da_cons (de_tup (da_cons (de_str) (da_cons (de_var 2) (da_cons (de_int) (da_nil))))) (da_cons ((df_lst (da_cons (de_str) (da_cons (de_var 2) (da_nil)))).de) (da_cons (de_tup (da_cons (de_str) (da_cons (de_var 2) (da_nil)))) (da_cons (de_tup (da_cons (de_str) (da_cons (de_var 2) (da_nil)))) (da_cons (de_tup (da_cons (de_str) (da_cons (de_tup (da_cons (de_str) (da_nil))) (da_nil)))) (da_cons (de_tup (da_cons (de_str) (da_cons (de_tup (da_cons (de_str) (da_cons (de_tup (da_nil)) (da_nil)))) (da_nil)))) (da_cons (de_tup (da_cons (de_str) (da_cons (de_tup (da_cons (de_str) (da_cons (de_int) (da_cons (de_int) (da_nil))))) (da_nil)))) (da_cons (de_tup (da_cons (de_str) (da_cons (de_tup (da_cons (de_str) (da_cons (de_str) (da_nil)))) (da_nil)))) (da_cons (de_tup (da_cons (de_str) (da_cons (de_int) (da_nil)))) (da_cons (de_tup (da_cons (de_non) (da_cons (de_var 2) (da_nil)))) (da_cons (de_tup (da_cons (de_str) (da_cons (de_tup (da_cons (de_str) (da_cons (de_tup (da_cons (de_int) (da_cons (de_int) (da_nil)))) (da_nil)))) (da_nil)))) (da_nil)))))))))))))))))) (dss_cons (ds_for F (di_r1 F B.range (da_cons (de_add2 F (de_int) (de_callB F (fun j => call_min2 (F.calm j)) caS_min2 B.min DL.boot_min (da_cons (de_callB F (b_len F) caS_len B.len bt_len (da_cons (de_var 0) (da_nil))) (da_cons (de_int) (da_nil))))) (da_nil))) (dg_name (i := 4) F) (dss_cons (ds_set F 5 (de_call F C_law_some_test (da_cons (de_var 1) (da_nil)) (by omega))) (dss_cons (ds_extAug F 3 ((df_lst (da_cons (de_var 5) (da_cons (de_call F C_law_near (da_cons (de_var 1) (da_cons (de_var 5) (da_nil))) (by omega)) (da_cons (de_call F C_law_near (da_cons (de_var 1) (da_cons (de_var 5) (da_nil))) (by omega)) (da_nil))))).de)) (dss_one (ds_for F (di_lst F ((df_lst (da_cons (de_call F C_law_some_value (da_cons (de_var 1) (da_cons (de_int) (da_nil))) (by omega)) (da_cons (de_ix F (de_var 5) (de_int)) (da_cons (de_add2 F (de_tup (da_cons (de_str) (da_nil))) (de_call F C_law_some_decimal (da_cons (de_var 1) (da_nil)) (by omega))) (da_cons (de_tup (da_cons (de_str) (da_cons (de_call F C_law_some_points (da_cons (de_var 1) (da_nil)) (by omega)) (da_nil)))) (da_cons (de_if (dt_cmpO (c_eq F) (de_ix F (de_ix F (de_var 5) (de_int)) (de_int)) (de_str)) (de_tup (da_cons (de_str) (da_cons (de_add2 F (de_ix F (de_ix F (de_var 5) (de_int)) (de_int)) (de_tup (da_cons (de_int) (da_nil)))) (da_nil)))) (de_tup (da_cons (de_str) (da_cons (de_int) (da_cons (de_int) (da_nil)))))) (da_nil))))))).de)) (dg_name (i := 6) F) (dss_one (ds_if (dt_not (dt_tru F (de_call F C_law_is (da_cons ((df_lst (da_cons (de_call F C_passes (da_cons (de_var 6) (da_cons (de_var 5) (da_nil))) (by omega)) (da_cons (de_callKw F swD (fun _ _ _ h => swD_rep h) K2_passes (dk_cons (de_var 5) (dk_cons (de_var 6) (dk_nil))) (by omega)) (da_nil)))).de) (da_cons (de_mul2 ((df_lst (da_cons (de_call F C_law_passes (da_cons (de_var 6) (da_cons (de_var 5) (da_nil))) (by omega)) (da_nil))).de) (de_int)) (da_nil))) (by omega)))) (dss_one (ds_ret (de_bl))) (dss_nil)))))))) (DSs.frz 3 (dss_cons (ds_for F (di_lst F (de_var 3)) (dg_name (i := 7) F) (dss_cons (ds_set F 8 (de_call F C_law_is_test (da_cons (de_var 7) (da_nil)) (by omega))) (dss_cons (ds_set F 9 (de_caught2 F CG TU (l := n - 2) (by omega) (fun E_ => de_call (F.lam _ E_ (n - 2)) C_passes (da_cons (de_var 2) (da_cons (de_var 7) (da_nil))) (by omega)))) (dss_cons (ds_if ((dw_or (dt_not (dt_tru F (de_call F C_law_is (da_cons (de_call F C_is_test (da_cons (de_var 7) (da_nil)) (by omega)) (da_cons (de_var 8) (da_nil))) (by omega)))) (dw_or (dt_cmpO (c_ne F) (de_cmpO (c_is) (de_var 9) (de_non)) (de_var 8)) (dw_or1 ((dw_and (dt_cmpO (c_isNot) (de_var 9) (de_non)) (dw_and1 (dt_not (dt_tru F (de_callB F (b_isx F) caS_isx B.isi bt_isi (da_cons (de_var 9) (da_cons (de_cls F h_InvalidTest.m) (da_nil)))))))).dt)))).dt) (dss_one (ds_ret (de_bl))) (dss_nil)) (dss_one (ds_if (dt_not (dt_tru F (de_callB F (b_isx F) caS_isx B.isi bt_isi (da_cons (de_caught2 F CG TU (l := n - 2) (by omega) (fun E_ => de_call (F.lam _ E_ (n - 2)) C_passes (da_cons (de_tup (da_cons (de_str) (da_cons (de_int) (da_cons (de_int) (da_nil))))) (da_cons (de_var 7) (da_nil))) (by omega))) (da_cons (de_cls F h_InvalidValue.m) (da_nil)))))) (dss_one (ds_ret (de_bl))) (dss_nil))))))) (dss_one (ds_ret (de_bl)))))))
end K12

set_option maxRecDepth 100000
set_option maxHeartbeats 2000000
namespace K12
open PySem PySem.Spec PyProof.Rows L2 DL
theorem join0 (ps : List Int) : joinI ps 0 = ps ++ [0] := by
  unfold joinI
  cases h : ps.getLast? with
  | none => simp at h; subst h; rfl
  | some a => simp [loI]
theorem okI_snoc {ps : List Int} (h : okI ps = true) : okI (ps ++ [0]) = true := by
  rw [← join0]
  exact okI_join h (by decide)
theorem one_val : isVal 30 (numD 1 0) = true := good_val (m := 0) (good_num (by decide) (by decide) (by decide)) (by decide)
theorem ten_val : isVal 30 (numD 10 0) = false := by
  rw [isVal_eq]
  show valW "number" (itX 30) (memX 30) [.int 10, .int 0] = false
  delta valW
  rw [if_neg (by decide), if_pos rfl]
  decide
theorem ten_sm : smV (numD 10 0) := by
  show sml 1900 3000 30 (numD 10 0) = true
  decide +kernel
theorem num_V (a e : Int) (h : smL (numD a e)) : smV (numD a e) := smL_V h
/-- a test that is drawn -/
structure TestD (s : Str) (op : D) : Prop where
  s : sgnB s = true
  shape : (∃ a e, op = numD a e) ∨ ∃ ps, op = pstD ps ∧ okI ps = true ∧ ps.length ≤ 3
  good : goodV 0 op
  op : opB op = true
theorem TestD.test {s : Str} {op : D} (t : TestD s op) : isTest (.tup [.str s, op]) = true := by
  simp [isTest, t.s, t.op, good_val t.good (by decide)]
theorem sgn_len {s : Str} (h : sgnB s = true) : s.length ≤ 20 := by
  simp [sgnB] at h
  rcases h with rfl | rfl | rfl | rfl | rfl <;> decide
theorem TestD.sml {s : Str} {op : D} (t : TestD s op) : sml 30 20 3 (.tup [.str s, op]) = true := by
  rw [sml_tup]
  refine ⟨by simp, fun d hd => ?_⟩
  simp at hd
  rcases hd with rfl | rfl
  · have := sgn_len t.s
    simpa [DL.sml] using this
  · exact t.good.2
theorem TestD.nob {s : Str} {op : D} (t : TestD s op) : nob (.tup [.str s, op]) = true := by
  rcases t.shape with ⟨a, e, rfl⟩ | ⟨ps, rfl, _⟩
  · simp [DL.nob, nobL, numD]
  · simp only [DL.nob, nobL, pstD, Bool.and_eq_true, Bool.and_true, true_and]
    rw [nobL_iff]
    intro d hd
    obtain ⟨p, _, rfl⟩ := List.mem_map.mp hd
    rfl
theorem near_use {B N m n : Nat} {st gr ce : Addr} {cs : List Int} {T : List (Addr × Str)} {d : D} {k : D → Nat → Prop} {x : Xn → Nat → Prop} (hn : n + 3 * m + 3 ≤ mostN) (h1 : sml B N m d = true) (h2 : nob d = true) (h : ∀ d' n', sml (B + 1) (N + 1) (m + 1) d' = true → n ≤ n' → n' ≤ n + 3 * m + 3 → k d' n') : f_near B N m (stU st gr ce cs T) n [.hdl st, d] k x :=
  ⟨st, gr, ce, cs, T, d, rfl, hn, rfl, h1, h2, h⟩
def gv (v : D) : Prop := smL v ∧ isVal 30 v = true
theorem gv_good {m : Nat} {v : D} (h : goodV m v) (hm : m ≤ 9) : gv v := ⟨good_L h hm, good_val h hm⟩
theorem law_data {K : PySem.W.Frag} {cT cV cR : Addr} {T : List (Addr × Str)} (hT : PySem.W.exmOne K (.ref cT) (.ref cR) = some true) (hV : PySem.W.exmOne K (.ref cV) (.ref cR) = some true) (hET : ExTab K cT cT true) (hEV : ExTab K cV cV true) (st gr ce : Addr) (cs ns : List Int) (hl : ns.length ≤ 63) :
    m_law K (stU st gr ce cs T) cT cV cR (f_isq 5) f_law_is_test (f_near 200 2000 3) f_law_passes f_some_decimal f_some_points f_some_test (f_some_value 1) f_is_test (f_passes cT cV) MKl (lawD 8 ns st) := by
  have hmn := mostN_eq
  unfold m_law lawD
  refine sq_to ⟨[.dat (.scr ns), .dat (.hdl st), .dat (numD 1 0), .no, .no, .no, .no, .no, .no, .no], 0⟩ (fun G hG => by simpa [List.replicate, numD] using hG) ?_
  refine sq_all (fun ρ => ∃ told, (∀ d ∈ told, sml 201 2001 4 d = true) ∧ told.length ≤ 20 ∧ ρ = ⟨[.dat (.scr ns), .dat (.hdl st), .dat (numD 1 0), .own (.lst told), .no, .no, .no, .no, .no, .no], 0⟩) (fun G hG => ?_) ?_
  · simp
    refine hG _ ⟨_, fun d hd => ?_, ?_, rfl⟩
    · simp only [List.mem_cons, List.not_mem_nil, or_false] at hd
      rcases hd with rfl | rfl | rfl | rfl | rfl | rfl | rfl | rfl | rfl | rfl | rfl | rfl | rfl | rfl | rfl <;> decide +kernel
    · simp
  rintro ρ ⟨told, hT0, hTl0, rfl⟩
  refine sq_all (fun ρ => ∃ (told : List D) (s4 s5 s6 : Slot) (n : Nat), (∀ d ∈ told, sml 201 2001 4 d = true) ∧ told.length ≤ 200 ∧ ρ = ⟨[.dat (.scr ns), .dat (.hdl st), .dat (numD 1 0), .own (.lst told), s4, s5, s6, .no, .no, .no], n⟩) (fun G hG => ?_) ?_
  · simp
    refine ⟨by split <;> omega, by split <;> omega, ?_⟩
    refine for_d _ (fun done ρ => ∃ (told : List D) (s4 s5 s6 : Slot) (n : Nat), (∀ d ∈ told, sml 201 2001 4 d = true) ∧ told.length ≤ 20 + 3 * done.length ∧ n ≤ 200 * done.length ∧ ρ = ⟨[.dat (.scr ns), .dat (.hdl st), .dat (numD 1 0), .own (.lst told), s4, s5, s6, .no, .no, .no], n⟩) ⟨told, _, _, _, 0, hT0, by simpa using hTl0, by simp, rfl⟩ (fun done a rest e ρ hI R hR => ?_) (fun ρ hI => ?_)
    · obtain ⟨told, s4, s5, s6, n, hTT, hTl, hn, rfl⟩ := hI
      have he := congrArg List.length e
      rw [rngL_len] at he
      have he2 : done.length < 40 := by
        simp at he
        split at he <;> omega
      simp only [gNm]
      refine sq_all (fun ρ => ∃ (s : Str) (op : D) (n1 : Nat), TestD s op ∧ n ≤ n1 ∧ n1 ≤ n + 10 ∧ ρ = ⟨[.dat (.scr ns), .dat (.hdl st), .dat (numD 1 0), .own (.lst told), .dat a, .dat (.tup [.str s, op]), s6, .no, .no, .no], n1⟩) (fun G hG => ?_) ?_
      · simp
        exact ⟨st, gr, ce, cs, T, rfl, by omega, rfl, fun s op n1 h1 h2 h3 h4 l1 u1 => hG _ ⟨s, op, n1, ⟨h1, h2, h3, h4⟩, l1, u1, rfl⟩⟩
      rintro _ ⟨s, op, n1, t, l1, u1, rfl⟩
      have ts := t.sml
      refine sq_all (fun ρ => ∃ (told' : List D) (n2 : Nat), (∀ d ∈ told', sml 201 2001 4 d = true) ∧ told'.length ≤ told.length + 3 ∧ n1 ≤ n2 ∧ n2 ≤ n1 + 30 ∧ ρ = ⟨[.dat (.scr ns), .dat (.hdl st), .dat (numD 1 0), .own (.lst told'), .dat a, .dat (.tup [.str s, op]), s6, .no, .no, .no], n2⟩) (fun G hG => ?_) ?_
      · simp
        refine near_use (by omega) (sml_up (by decide) (by decide) (by decide) ts) t.nob fun d1 n2 hd1 l2 u2 => ?_
        refine near_use (by omega) (sml_up (by decide) (by decide) (by decide) ts) t.nob fun d2 n3 hd2 l3 u3 => ?_
        try simp
        refine ⟨by omega, hG _ ⟨_, n3, fun d hd => ?_, by simp, by omega, by omega, rfl⟩⟩
        rcases List.mem_append.1 hd with q | q
        · exact hTT d q
        · simp at q
          rcases q with rfl | rfl | rfl
          · exact sml_up (by decide) (by decide) (by decide) ts
          · exact hd1
          · exact hd2
      rintro _ ⟨told', n2, hTT', hTl', l2, u2, rfl⟩
      have tv : smV (.tup [.str s, op]) := sml_up (by decide) (by decide) (by decide) ts
      have step : ∀ (vs : List D) (n3 : Nat), (∀ v ∈ vs, gv v) → n2 ≤ n3 → n3 ≤ n2 + 100 → forM (gNm 6) (sIf (tNotM (eTru (eCall (f_isq 5 (stU st gr ce cs T)) (aCons (eF (fLst (aCons (eCall (f_passes cT cV (stU st gr ce cs T)) (aCons (eVar 6) (aCons (eVar 5) (aNil)))) (aCons (eCallKw (f_passes cT cV (stU st gr ce cs T)) swD (aCons (eVar 5) (aCons (eVar 6) (aNil)))) (aNil))))) (aCons (eOp mul2D (eF (fLst (aCons (eCall (f_law_passes (stU st gr ce cs T)) (aCons (eVar 6) (aCons (eVar 5) (aNil)))) (aNil)))) (eC (.int 2))) (aNil)))))) (sRet (eC (.bl false))) (sNext)) { MKl with nx := R, ct := R, bk := G } vs ⟨[.dat (.scr ns), .dat (.hdl st), .dat (numD 1 0), .own (.lst told'), .dat a, .dat (.tup [.str s, op]), s6, .no, .no, .no], n3⟩ := by
        intro vs n3 hvs l3 u3
        refine for_d vs (fun _ ρ => ∃ s6, ρ = ⟨[.dat (.scr ns), .dat (.hdl st), .dat (numD 1 0), .own (.lst told'), .dat a, .dat (.tup [.str s, op]), s6, .no, .no, .no], n3⟩) ⟨_, rfl⟩ (fun done2 v rest2 e2 ρ hI R2 hR2 => ?_) (fun ρ hI => ?_)
        · obtain ⟨s6, rfl⟩ := hI
          obtain ⟨v1, v2⟩ := hvs v (by rw [e2]; simp)
          simp
          refine ⟨v, _, rfl, smL_V v1, tv, fun q => (by rw [v2] at q; cases q), fun _ q => (by rw [t.test] at q; cases q), fun _ _ => ?_⟩
          simp [swD]
          refine ⟨v, _, rfl, smL_V v1, tv, fun q => (by rw [v2] at q; cases q), fun _ q => (by rw [t.test] at q; cases q), fun _ _ => ?_⟩
          simp
          refine ⟨v, s, op, rfl, t.s, v1, good_L t.good (by decide), v2, good_val t.good (by decide), t.op, ?_⟩
          simp
          refine isq_use rfl rfl (by decide) ?_
          simp
          exact hR2 _ ⟨_, rfl⟩
        · obtain ⟨s6, rfl⟩ := hI
          exact hR _ ⟨told', _, _, _, n3, hTT', by simp; omega, by simp; omega, rfl⟩
      rcases t.shape with ⟨b, f, hop⟩ | ⟨ps, hop, hps, hpl⟩
      · subst hop
        have hg := t.good
        simp only [numD] at hg t step ⊢
        simp
        refine ⟨st, gr, ce, cs, T, rfl, by have : cstV 1 = 47 := rfl; omega, rfl, fun v n3 hv l3 u3 => ?_⟩
        have c47 : cstV 1 = 47 := rfl
        simp
        refine ⟨st, gr, ce, cs, T, rfl, by omega, rfl, fun a1 e1 n4 hd ha he l4 u4 => ?_⟩
        simp
        refine ⟨st, gr, ce, cs, T, rfl, by omega, rfl, fun qs n5 hq hql l5 u5 => ?_⟩
        simp
        refine step _ n5 (fun v hv' => ?_) (by omega) (by omega)
        simp at hv'
        rcases hv' with rfl | rfl | rfl | rfl | rfl
        · exact gv_good hv (by decide)
        · exact gv_good hg (by decide)
        · exact gv_good (good_num (m := 0) hd ha he) (by decide)
        · exact gv_good (good_str (m := 0) hq (by omega)) (by decide)
        · exact gv_good (good_num (m := 0) (a := 1) (e := 0) (by decide) (by decide) (by decide)) (by decide)
      · subst hop
        have hg := t.good
        simp only [pstD] at hg t step ⊢
        simp
        refine ⟨st, gr, ce, cs, T, rfl, by have : cstV 1 = 47 := rfl; omega, rfl, fun v n3 hv l3 u3 => ?_⟩
        have c47 : cstV 1 = 47 := rfl
        simp
        refine ⟨st, gr, ce, cs, T, rfl, by omega, rfl, fun a1 e1 n4 hd ha he l4 u4 => ?_⟩
        simp
        refine ⟨st, gr, ce, cs, T, rfl, by omega, rfl, fun qs n5 hq hql l5 u5 => ?_⟩
        simp
        refine ⟨by omega, step _ n5 (fun v hv' => ?_) (by omega) (by omega)⟩
        simp at hv'
        rcases hv' with rfl | rfl | rfl | rfl | rfl
        · exact gv_good hv (by decide)
        · exact gv_good hg (by decide)
        · exact gv_good (good_num (m := 0) hd ha he) (by decide)
        · exact gv_good (good_str (m := 0) hq (by omega)) (by decide)
        · have h0 := good_str (m := 0) (okI_snoc hps) (by simp; omega)
          simp only [pstD, List.map_append, List.map_cons, List.map_nil] at h0
          exact gv_good h0 (by decide)
    · obtain ⟨told, s4, s5, s6, n, hTT, hTl, hn, rfl⟩ := hI
      rw [rngL_len] at hTl
      exact hG _ ⟨told, s4, s5, s6, n, hTT, by split at hTl <;> omega, rfl⟩
  rintro ρ ⟨told, s4, s5, s6, n, hTT, hTl, rfl⟩
  simp
  refine for_d _ (fun done ρ => ∃ (s7 s8 s9 : Slot), ρ = ⟨[.dat (.scr ns), .dat (.hdl st), .dat (numD 1 0), .dat (.lst told), s4, s5, s6, s7, s8, s9], n⟩) ⟨_, _, _, rfl⟩ (fun done a rest e ρ hI R hR => ?_) (fun ρ hI => ?_)
  · obtain ⟨s7, s8, s9, rfl⟩ := hI
    have ha : smV a := sml_up (by decide) (by decide) (by decide) (hTT a (by rw [e]; simp))
    simp
    refine ⟨a, rfl, ha, ?_⟩
    simp
    refine ⟨numD 1 0, a, rfl, sml_up (by decide) (by decide) (by decide) (good_num (m := 0) (a := 1) (e := 0) (by decide) (by decide) (by decide)).2, ha, fun q => (by rw [one_val] at q; cases q), fun _ q => ?_, fun _ q => ?_⟩
    · dsimp only
      refine ⟨hT, a, rfl, ha, ?_⟩
      dsimp only
      refine isq_use rfl rfl (by decide) ?_
      simp [q]
      refine .inr ⟨hET, numD 10 0, a, rfl, ten_sm, ha, fun _ => ?_, fun q => (by rw [ten_val] at q; cases q), fun q => (by rw [ten_val] at q; cases q)⟩
      dsimp only
      exact ⟨hV, .inr ⟨hEV, hR _ ⟨_, _, _, rfl⟩⟩⟩
    · dsimp only
      refine ⟨a, rfl, ha, ?_⟩
      dsimp only
      refine isq_use rfl rfl (by decide) ?_
      simp [q]
      refine ⟨numD 10 0, a, rfl, ten_sm, ha, fun _ => ?_, fun q => (by rw [ten_val] at q; cases q), fun q => (by rw [ten_val] at q; cases q)⟩
      dsimp only
      exact ⟨hV, .inr ⟨hEV, hR _ ⟨_, _, _, rfl⟩⟩⟩
  · obtain ⟨s7, s8, s9, rfl⟩ := hI
    simp
    exact rfl
end K12

set_option maxRecDepth 100000
set_option maxHeartbeats 4000000
namespace K12
open PySem PySem.Spec PyProof.Rows L2 DL
section
variable {w : World} {K : PySem.W.Frag} {mg : Str → Option Value} {base : Heap}
/-- what the top has left -/
structure Tops (w : World) (K : PySem.W.Frag) (mg : Str → Option Value) (c_InvalidNumber c_InvalidTest c_InvalidValue c_ReadError : Addr) : Prop where
  B : Blt mg
  p_is_whole : PFn K mg "is_whole" s_is_whole
  p_is_decimal : PFn K mg "is_decimal" s_is_decimal
  p_need_decimal : PFn K mg "need_decimal" s_need_decimal
  p_sign_of : PFn K mg "sign_of" s_sign_of
  p_size_of : PFn K mg "size_of" s_size_of
  p_order_of : PFn K mg "order_of" s_order_of
  p_order_of_sizes : PFn K mg "order_of_sizes" s_order_of_sizes
  p_order : PFn K mg "order" s_order
  p_is_high : PFn K mg "is_high" s_is_high
  p_is_low : PFn K mg "is_low" s_is_low
  p_is_point : PFn K mg "is_point" s_is_point
  p_is_points : PFn K mg "is_points" s_is_points
  p_are_items : PFn K mg "are_items" s_are_items
  p_are_members : PFn K mg "are_members" s_are_members
  p_is_value_within : PFn K mg "is_value_within" s_is_value_within
  p_is_value : PFn K mg "is_value" s_is_value
  p_need_value : PFn K mg "need_value" s_need_value
  p_is_test : PFn K mg "is_test" s_is_test
  p_need_test : PFn K mg "need_test" s_need_test
  p_order_of_values : PFn K mg "order_of_values" s_order_of_values
  p_holds : PFn K mg "holds" s_holds
  p_passes : PFn K mg "passes" s_passes
  p_law_begun : PFn K mg "_law_begun" s_law_begun
  p_law_mixed : PFn K mg "_law_mixed" s_law_mixed
  p_law_draw : PFn K mg "_law_draw" s_law_draw
  p_law_pick : PFn K mg "_law_pick" s_law_pick
  p_law_is : PFn K mg "_law_is" s_law_is
  p_law_near : PFn K mg "_law_near" s_law_near
  p_law_caught : PFn K mg "_law_caught" s_law_caught
  p_law_with_point : PFn K mg "_law_with_point" s_law_with_point
  p_law_some_points : PFn K mg "_law_some_points" s_law_some_points
  p_law_some_decimal : PFn K mg "_law_some_decimal" s_law_some_decimal
  p_law_some_value : PFn K mg "_law_some_value" s_law_some_value
  p_law_order : PFn K mg "_law_order" s_law_order
  p_law_passes : PFn K mg "_law_passes" s_law_passes
  p_law_some_test : PFn K mg "_law_some_test" s_law_some_test
  p_law_is_test : PFn K mg "_law_is_test" s_law_is_test
  g_FIRST_HIGH : Cst K mg "FIRST_HIGH" (.int 55296)
  g_FIRST_LOW : Cst K mg "FIRST_LOW" (.int 56320)
  g_LAST_HIGH : Cst K mg "LAST_HIGH" (.int 56319)
  g_LAST_LOW : Cst K mg "LAST_LOW" (.int 57343)
  g_MOST_LEVELS : Cst K mg "MOST_LEVELS" (.int 30)
  g_MOST_POINT : Cst K mg "MOST_POINT" (.int 1114111)
  g_NUMBER : Cst K mg "NUMBER" (.str "number")
  g_SIGNS : KtC K mg "SIGNS" ([.str "<", .str "<=", .str "==", .str ">=", .str ">"])
  g_STRING : Cst K mg "STRING" (.str "string")
  g_WORDS : KtC K mg "WORDS" ([.str "null", .str "true", .str "false"])
  h_InvalidNumber : ExA K mg "InvalidNumber" c_InvalidNumber
  h_InvalidTest : ExA K mg "InvalidTest" c_InvalidTest
  h_InvalidValue : ExA K mg "InvalidValue" c_InvalidValue
  rR : mg "ReadError" = some (.ref c_ReadError)
  m_InvalidTest : PySem.W.exmOne K (.ref c_InvalidTest) (.ref c_ReadError) = some true
  m_InvalidValue : PySem.W.exmOne K (.ref c_InvalidValue) (.ref c_ReadError) = some true
  x_InvalidTest_InvalidTest : ExTab K c_InvalidTest c_InvalidTest true
  x_InvalidValue_InvalidValue : ExTab K c_InvalidValue c_InvalidValue true
theorem law_at {c_InvalidNumber c_InvalidTest c_InvalidValue c_ReadError c Pt fa : Addr} {fd : FuncData} (t : Tops w K mg c_InvalidNumber c_InvalidTest c_InvalidValue c_ReadError) (pl : PLaw K mg s_law c fa fd) (TB : LamX.TabB base mg c Pt) : FnOk P w K mg base (L2.CX P w) 70 fa fd ["script"] (spLaw K [(Pt, "law.<locals>.<lambda>")]) := by
  have B := t.B
  have C_is_whole : FnAt P w K mg base _ _ _ _ := at_is_whole B t.p_is_whole
  have C_is_decimal : FnAt P w K mg base _ _ _ _ := at_is_decimal B t.p_is_decimal C_is_whole
  have C_need_decimal : FnAt P w K mg base _ _ _ _ := at_need_decimal B t.p_need_decimal t.h_InvalidNumber C_is_decimal
  have C_sign_of : FnAt P w K mg base _ _ _ _ := at_sign_of B t.p_sign_of
  have C_size_of : FnAt P w K mg base _ _ _ _ := at_size_of B t.p_size_of
  have C_order_of : FnAt P w K mg base _ _ _ _ := at_order_of B t.p_order_of
  have C_order_of_sizes : FnAt P w K mg base _ _ _ _ := at_order_of_sizes B t.p_order_of_sizes C_order_of C_size_of
  have C_order : FnAt P w K mg base _ _ _ _ := at_order B t.p_order C_need_decimal C_order_of C_order_of_sizes C_sign_of
  have C_is_high : FnAt P w K mg base _ _ _ _ := at_is_high B t.p_is_high t.g_FIRST_HIGH t.g_LAST_HIGH
  have C_is_low : FnAt P w K mg base _ _ _ _ := at_is_low B t.p_is_low t.g_FIRST_LOW t.g_LAST_LOW
  have C_is_point : FnAt P w K mg base _ _ _ _ := at_is_point B t.p_is_point t.g_MOST_POINT
  have C_is_points : FnAt P w K mg base _ _ _ _ := at_is_points B t.p_is_points C_is_high C_is_low C_is_point
  have C_are_items : FnAt P w K mg base _ _ _ _ := at_are_items B t.p_are_items
  have C_are_members : FnAt P w K mg base _ _ _ _ := at_are_members B t.p_are_members
  have C_is_value_within : FnAt P w K mg base _ _ _ _ := at_is_value_within B t.p_is_value_within t.g_WORDS C_are_items C_are_members C_is_decimal C_is_points t.p_are_items t.p_are_members
  have C_is_value : FnAt P w K mg base _ _ _ _ := at_is_value B t.p_is_value t.g_MOST_LEVELS C_is_value_within
  have C_need_value : FnAt P w K mg base _ _ _ _ := at_need_value B t.p_need_value t.h_InvalidValue C_is_value
  have C_is_test : FnAt P w K mg base _ _ _ _ := at_is_test B t.p_is_test t.g_NUMBER t.g_SIGNS t.g_STRING C_is_value
  have C_need_test : FnAt P w K mg base _ _ _ _ := at_need_test B t.p_need_test t.h_InvalidTest C_is_test
  have C_order_of_values : FnAt P w K mg base _ _ _ _ := at_order_of_values B t.p_order_of_values t.g_NUMBER C_order
  have C_holds : FnAt P w K mg base _ _ _ _ := at_holds B t.p_holds C_order_of_values
  have C_passes : FnAt P w K mg base _ _ _ _ := at_passes B t.p_passes C_holds C_need_test C_need_value
  have K2_passes : FnAtK P w K mg base _ _ _ _ _ _ := atK2_passes B t.p_passes C_holds C_need_test C_need_value
  have C_law_mixed : FnAt P w K mg base _ _ _ _ := at_law_mixed B t.p_law_mixed
  have C_law_draw : FnAt P w K mg base _ _ _ _ := at_law_draw B t.p_law_draw C_law_mixed
  have C_law_pick : FnAt P w K mg base _ _ _ _ := at_law_pick B t.p_law_pick C_law_draw
  have C_law_is : FnAt P w K mg base _ _ _ _ := at_law_is B t.p_law_is
  have C_law_near : FnAt P w K mg base _ _ _ _ := at_law_near B t.p_law_near C_law_draw C_law_pick
  have C_law_with_point : FnAt P w K mg base _ _ _ _ := at_law_with_point B t.p_law_with_point
  have C_law_some_points : FnAt P w K mg base _ _ _ _ := at_law_some_points B t.p_law_some_points C_law_draw C_law_pick C_law_with_point
  have C_law_some_decimal : FnAt P w K mg base _ _ _ _ := at_law_some_decimal B t.p_law_some_decimal C_law_draw C_law_pick
  have C_law_some_value : FnAt P w K mg base _ _ _ _ := at_law_some_value B t.p_law_some_value C_law_draw C_law_pick C_law_some_decimal C_law_some_points
  have C_law_order : FnAt P w K mg base _ _ _ _ := at_law_order B t.p_law_order
  have C_law_passes : FnAt P w K mg base _ _ _ _ := at_law_passes B t.p_law_passes C_law_order
  have C_law_some_test : FnAt P w K mg base _ _ _ _ := at_law_some_test B t.p_law_some_test C_law_draw C_law_pick C_law_some_decimal C_law_some_points
  have C_law_is_test : FnAt P w K mg base _ _ _ _ := at_law_is_test B t.p_law_is_test C_is_value
  have CG : CgtS K mg base c Pt c_ReadError s_law_caught := ⟨t.p_law_caught, sc_law_caught, .inl rfl, (fun _ _ _ _ _ _ us hl => match us, hl with | [_], _ => rfl), fun X hr hm g cdg q => caught_gives (rr := 1) hr (by decide +kernel) rfl rfl rfl (by rw [hm]; exact t.rR) rfl, TB⟩
  have hb : ∃ (a : Addr) (fd : FuncData), FnOk P w K mg base (L2.CX P w) 1 a fd ["script"] (spBegun K) ∧ mg "_law_begun" = some (.ref a) ∧ PySem.W.keepIn K (.ref a) = true ∧ Binds K fd ["script"] [] :=
    begun_of t.p_law_begun sc_law_begun rfl rfl (fun _ _ _ _ _ _ us hl => match us, hl with | [_], _ => rfl) (fun cdv A outer s H E f F => ds_lcF F 1 [("cell", 2)] (di_lst F (de_var 0)) (by intro _; rfl) (dgc_name (i := 2) (F.blk _) (by decide)) (dts_one (dt_cmpO (c_ge) (de_callB (F.blk _) (fun _ => call_abs) caS_abs B.abs bt_abs (da_cons (de_var 2) (da_nil))) (de_pow (de_int) (de_int)))) (de_sub (de_callB (F.blk _) (fun _ => call_abs) caS_abs B.abs bt_abs (da_cons (de_var 2) (da_nil))) (de_pow (de_int) (de_int))) (by intro _; rfl))
      (fun cdv A outer s H E f F => df_lc F [("cell", 2)] (di_lst F (de_var 0)) (by intro _; rfl) (dgc_name (i := 2) (F.blk _) (by decide)) dts_nil (de_callB (F.blk _) (fun _ => call_abs) caS_abs B.abs bt_abs (da_cons (de_var 2) (da_nil))))
  exact law_ok (r := 8) (n := 69) (l := 1) (mr := fun U => m_law K U c_InvalidTest c_InvalidValue c_ReadError (f_isq 5) f_law_is_test (f_near 200 2000 3) f_law_passes f_some_decimal f_some_points f_some_test (f_some_value 1) f_is_test (f_passes c_InvalidTest c_InvalidValue)) pl sc_law rfl rfl hb (by decide) rfl rfl (by first | exact .inl rfl | exact .inr rfl) (by first | exact .inl rfl | exact .inr rfl) rfl (fun _ _ _ _ _ => by first | exact .inl rfl | exact .inr rfl)
    (fun A outer s H E st gr ce cs F => b_law (cdv := .none) CG (tabU_st ⟨_, List.mem_cons_self⟩) F B t.h_InvalidTest t.h_InvalidValue C_law_is (by decide) C_law_is_test (by decide) C_law_near (by decide) C_law_passes (by decide) C_law_some_decimal (by decide) C_law_some_points (by decide) C_law_some_test (by decide) C_law_some_value (by decide) C_is_test (by decide) C_passes (by decide) K2_passes)
    (fun st gr ce cs ns hl => law_data t.m_InvalidTest t.m_InvalidValue t.x_InvalidTest_InvalidTest t.x_InvalidValue_InvalidValue st gr ce cs ns hl)
end
end K12

set_option maxRecDepth 100000
set_option maxHeartbeats 4000000
open_top hdK12 for PySem.Challenge.rw_earlysettled_k12_tests
namespace K12
open PySem PySem.Spec PyProof.Rows L2 DL
theorem all_mk {w : World} {K : PySem.W.Frag} {h : Heap} {mg : Str → Option Value} {fa c Pt : Addr} (X : K.In h) (G : h.Ns mainGlobals mg) (hfa : mg "law" = some (.ref fa)) (hT : h.get? Pt = some { cls := .none, data := .fields #[] })
    {f0 : Addr} {od0 an0 : Option Addr} {sl0 : Array (Option Value)} {oc0 kV0 dc0 pm0 cd0 ct0 : Value}
    {f1 : Addr} {od1 an1 : Option Addr} {sl1 : Array (Option Value)} {oc1 kV1 dc1 pm1 cd1 ct1 : Value}
    {f2 : Addr} {od2 an2 : Option Addr} {sl2 : Array (Option Value)} {oc2 kV2 dc2 pm2 cd2 ct2 : Value}
    {f3 : Addr} {od3 an3 : Option Addr} {sl3 : Array (Option Value)} {oc3 kV3 dc3 pm3 cd3 ct3 : Value}
    {f4 : Addr} {od4 an4 : Option Addr} {sl4 : Array (Option Value)} {oc4 kV4 dc4 pm4 cd4 ct4 : Value}
    {f5 : Addr} {od5 an5 : Option Addr} {sl5 : Array (Option Value)} {oc5 kV5 dc5 pm5 cd5 ct5 : Value}
    {f6 : Addr} {od6 an6 : Option Addr} {sl6 : Array (Option Value)} {oc6 kV6 dc6 pm6 cd6 ct6 : Value}
    {f7 : Addr} {od7 an7 : Option Addr} {sl7 : Array (Option Value)} {oc7 kV7 dc7 pm7 cd7 ct7 : Value}
    {f8 : Addr} {od8 an8 : Option Addr} {sl8 : Array (Option Value)} {oc8 kV8 dc8 pm8 cd8 ct8 : Value}
    {f9 : Addr} {od9 an9 : Option Addr} {sl9 : Array (Option Value)} {oc9 kV9 dc9 pm9 cd9 ct9 : Value}
    {f10 : Addr} {od10 an10 : Option Addr} {sl10 : Array (Option Value)} {oc10 kV10 dc10 pm10 cd10 ct10 : Value}
    {f11 : Addr} {od11 an11 : Option Addr} {sl11 : Array (Option Value)} {oc11 kV11 dc11 pm11 cd11 ct11 : Value}
    {f12 : Addr} {od12 an12 : Option Addr} {sl12 : Array (Option Value)} {oc12 kV12 dc12 pm12 cd12 ct12 : Value}
    {f13 : Addr} {od13 an13 : Option Addr} {sl13 : Array (Option Value)} {oc13 kV13 dc13 pm13 cd13 ct13 : Value}
    {f14 : Addr} {od14 an14 : Option Addr} {sl14 : Array (Option Value)} {oc14 kV14 dc14 pm14 cd14 ct14 : Value}
    {f15 : Addr} {od15 an15 : Option Addr} {sl15 : Array (Option Value)} {oc15 kV15 dc15 pm15 cd15 ct15 : Value}
    {f16 : Addr} {od16 an16 : Option Addr} {sl16 : Array (Option Value)} {oc16 kV16 dc16 pm16 cd16 ct16 : Value}
    {f17 : Addr} {od17 an17 : Option Addr} {sl17 : Array (Option Value)} {oc17 kV17 dc17 pm17 cd17 ct17 : Value}
    {f18 : Addr} {od18 an18 : Option Addr} {sl18 : Array (Option Value)} {oc18 kV18 dc18 pm18 cd18 ct18 : Value}
    {f19 : Addr} {od19 an19 : Option Addr} {sl19 : Array (Option Value)} {oc19 kV19 dc19 pm19 cd19 ct19 : Value}
    {f20 : Addr} {od20 an20 : Option Addr} {sl20 : Array (Option Value)} {oc20 kV20 dc20 pm20 cd20 ct20 : Value}
    {f21 : Addr} {od21 an21 : Option Addr} {sl21 : Array (Option Value)} {oc21 kV21 dc21 pm21 cd21 ct21 : Value}
    {f22 : Addr} {od22 an22 : Option Addr} {sl22 : Array (Option Value)} {oc22 kV22 dc22 pm22 cd22 ct22 : Value}
    {f23 : Addr} {od23 an23 : Option Addr} {sl23 : Array (Option Value)} {oc23 kV23 dc23 pm23 cd23 ct23 : Value}
    {f24 : Addr} {od24 an24 : Option Addr} {sl24 : Array (Option Value)} {oc24 kV24 dc24 pm24 cd24 ct24 : Value}
    {f25 : Addr} {od25 an25 : Option Addr} {sl25 : Array (Option Value)} {oc25 kV25 dc25 pm25 cd25 ct25 : Value}
    {f26 : Addr} {od26 an26 : Option Addr} {sl26 : Array (Option Value)} {oc26 kV26 dc26 pm26 cd26 ct26 : Value}
    {f27 : Addr} {od27 an27 : Option Addr} {sl27 : Array (Option Value)} {oc27 kV27 dc27 pm27 cd27 ct27 : Value}
    {f28 : Addr} {od28 an28 : Option Addr} {sl28 : Array (Option Value)} {oc28 kV28 dc28 pm28 cd28 ct28 : Value}
    {f29 : Addr} {od29 an29 : Option Addr} {sl29 : Array (Option Value)} {oc29 kV29 dc29 pm29 cd29 ct29 : Value}
    {f30 : Addr} {od30 an30 : Option Addr} {sl30 : Array (Option Value)} {oc30 kV30 dc30 pm30 cd30 ct30 : Value}
    {f31 : Addr} {od31 an31 : Option Addr} {sl31 : Array (Option Value)} {oc31 kV31 dc31 pm31 cd31 ct31 : Value}
    {f32 : Addr} {od32 an32 : Option Addr} {sl32 : Array (Option Value)} {oc32 kV32 dc32 pm32 cd32 ct32 : Value}
    {f33 : Addr} {od33 an33 : Option Addr} {sl33 : Array (Option Value)} {oc33 kV33 dc33 pm33 cd33 ct33 : Value}
    {f34 : Addr} {od34 an34 : Option Addr} {sl34 : Array (Option Value)} {oc34 kV34 dc34 pm34 cd34 ct34 : Value}
    {f35 : Addr} {od35 an35 : Option Addr} {sl35 : Array (Option Value)} {oc35 kV35 dc35 pm35 cd35 ct35 : Value}
    {f36 : Addr} {od36 an36 : Option Addr} {sl36 : Array (Option Value)} {oc36 kV36 dc36 pm36 cd36 ct36 : Value}
    {f37 : Addr} {od37 an37 : Option Addr} {sl37 : Array (Option Value)} {oc37 kV37 dc37 pm37  ct37 : Value}
    {qv_FIRST_HIGH : Value}
    {qv_FIRST_LOW : Value}
    {qv_LAST_HIGH : Value}
    {qv_LAST_LOW : Value}
    {qv_MOST_LEVELS : Value}
    {qv_MOST_POINT : Value}
    {qv_NUMBER : Value}
    {qa_SIGNS : Addr} {qo_SIGNS : Option Addr} {qi_SIGNS : Array Value} {qn_SIGNS : Nat} {qs_SIGNS : Array (Option Value)}
    {qv_STRING : Value}
    {qa_WORDS : Addr} {qo_WORDS : Option Addr} {qi_WORDS : Array Value} {qn_WORDS : Nat} {qs_WORDS : Array (Option Value)}
    {c_InvalidNumber c_InvalidTest c_InvalidValue c_ReadError : Addr}
    (a0 : PySem.W.nsIn K mainGlobals "is_whole" = some (some (.ref f0)))
    (l0 : K.lookup f0 = some ⟨oc0, od0, .func (PySem.W.fnOf "is_whole" "is_whole" (defArgs s_is_whole) (defBody s_is_whole) (defScope s_is_whole) .none kV0 dc0 pm0 an0 cd0 ct0), sl0⟩)
    (c0 : PySem.W.codeIn K cd0 "is_whole" = true)
    (k0 : PySem.W.keepIn K (.ref f0) = true)
    (a1 : PySem.W.nsIn K mainGlobals "is_decimal" = some (some (.ref f1)))
    (l1 : K.lookup f1 = some ⟨oc1, od1, .func (PySem.W.fnOf "is_decimal" "is_decimal" (defArgs s_is_decimal) (defBody s_is_decimal) (defScope s_is_decimal) .none kV1 dc1 pm1 an1 cd1 ct1), sl1⟩)
    (c1 : PySem.W.codeIn K cd1 "is_decimal" = true)
    (k1 : PySem.W.keepIn K (.ref f1) = true)
    (a2 : PySem.W.nsIn K mainGlobals "need_decimal" = some (some (.ref f2)))
    (l2 : K.lookup f2 = some ⟨oc2, od2, .func (PySem.W.fnOf "need_decimal" "need_decimal" (defArgs s_need_decimal) (defBody s_need_decimal) (defScope s_need_decimal) .none kV2 dc2 pm2 an2 cd2 ct2), sl2⟩)
    (c2 : PySem.W.codeIn K cd2 "need_decimal" = true)
    (k2 : PySem.W.keepIn K (.ref f2) = true)
    (a3 : PySem.W.nsIn K mainGlobals "sign_of" = some (some (.ref f3)))
    (l3 : K.lookup f3 = some ⟨oc3, od3, .func (PySem.W.fnOf "sign_of" "sign_of" (defArgs s_sign_of) (defBody s_sign_of) (defScope s_sign_of) .none kV3 dc3 pm3 an3 cd3 ct3), sl3⟩)
    (c3 : PySem.W.codeIn K cd3 "sign_of" = true)
    (k3 : PySem.W.keepIn K (.ref f3) = true)
    (a4 : PySem.W.nsIn K mainGlobals "size_of" = some (some (.ref f4)))
    (l4 : K.lookup f4 = some ⟨oc4, od4, .func (PySem.W.fnOf "size_of" "size_of" (defArgs s_size_of) (defBody s_size_of) (defScope s_size_of) .none kV4 dc4 pm4 an4 cd4 ct4), sl4⟩)
    (c4 : PySem.W.codeIn K cd4 "size_of" = true)
    (k4 : PySem.W.keepIn K (.ref f4) = true)
    (a5 : PySem.W.nsIn K mainGlobals "order_of" = some (some (.ref f5)))
    (l5 : K.lookup f5 = some ⟨oc5, od5, .func (PySem.W.fnOf "order_of" "order_of" (defArgs s_order_of) (defBody s_order_of) (defScope s_order_of) .none kV5 dc5 pm5 an5 cd5 ct5), sl5⟩)
    (c5 : PySem.W.codeIn K cd5 "order_of" = true)
    (k5 : PySem.W.keepIn K (.ref f5) = true)
    (a6 : PySem.W.nsIn K mainGlobals "order_of_sizes" = some (some (.ref f6)))
    (l6 : K.lookup f6 = some ⟨oc6, od6, .func (PySem.W.fnOf "order_of_sizes" "order_of_sizes" (defArgs s_order_of_sizes) (defBody s_order_of_sizes) (defScope s_order_of_sizes) .none kV6 dc6 pm6 an6 cd6 ct6), sl6⟩)
    (c6 : PySem.W.codeIn K cd6 "order_of_sizes" = true)
    (k6 : PySem.W.keepIn K (.ref f6) = true)
    (a7 : PySem.W.nsIn K mainGlobals "order" = some (some (.ref f7)))
    (l7 : K.lookup f7 = some ⟨oc7, od7, .func (PySem.W.fnOf "order" "order" (defArgs s_order) (defBody s_order) (defScope s_order) .none kV7 dc7 pm7 an7 cd7 ct7), sl7⟩)
    (c7 : PySem.W.codeIn K cd7 "order" = true)
    (k7 : PySem.W.keepIn K (.ref f7) = true)
    (a8 : PySem.W.nsIn K mainGlobals "is_high" = some (some (.ref f8)))
    (l8 : K.lookup f8 = some ⟨oc8, od8, .func (PySem.W.fnOf "is_high" "is_high" (defArgs s_is_high) (defBody s_is_high) (defScope s_is_high) .none kV8 dc8 pm8 an8 cd8 ct8), sl8⟩)
    (c8 : PySem.W.codeIn K cd8 "is_high" = true)
    (k8 : PySem.W.keepIn K (.ref f8) = true)
    (a9 : PySem.W.nsIn K mainGlobals "is_low" = some (some (.ref f9)))
    (l9 : K.lookup f9 = some ⟨oc9, od9, .func (PySem.W.fnOf "is_low" "is_low" (defArgs s_is_low) (defBody s_is_low) (defScope s_is_low) .none kV9 dc9 pm9 an9 cd9 ct9), sl9⟩)
    (c9 : PySem.W.codeIn K cd9 "is_low" = true)
    (k9 : PySem.W.keepIn K (.ref f9) = true)
    (a10 : PySem.W.nsIn K mainGlobals "is_point" = some (some (.ref f10)))
    (l10 : K.lookup f10 = some ⟨oc10, od10, .func (PySem.W.fnOf "is_point" "is_point" (defArgs s_is_point) (defBody s_is_point) (defScope s_is_point) .none kV10 dc10 pm10 an10 cd10 ct10), sl10⟩)
    (c10 : PySem.W.codeIn K cd10 "is_point" = true)
    (k10 : PySem.W.keepIn K (.ref f10) = true)
    (a11 : PySem.W.nsIn K mainGlobals "is_points" = some (some (.ref f11)))
    (l11 : K.lookup f11 = some ⟨oc11, od11, .func (PySem.W.fnOf "is_points" "is_points" (defArgs s_is_points) (defBody s_is_points) (defScope s_is_points) .none kV11 dc11 pm11 an11 cd11 ct11), sl11⟩)
    (c11 : PySem.W.codeIn K cd11 "is_points" = true)
    (k11 : PySem.W.keepIn K (.ref f11) = true)
    (a12 : PySem.W.nsIn K mainGlobals "are_items" = some (some (.ref f12)))
    (l12 : K.lookup f12 = some ⟨oc12, od12, .func (PySem.W.fnOf "are_items" "are_items" (defArgs s_are_items) (defBody s_are_items) (defScope s_are_items) .none kV12 dc12 pm12 an12 cd12 ct12), sl12⟩)
    (c12 : PySem.W.codeIn K cd12 "are_items" = true)
    (k12 : PySem.W.keepIn K (.ref f12) = true)
    (a13 : PySem.W.nsIn K mainGlobals "are_members" = some (some (.ref f13)))
    (l13 : K.lookup f13 = some ⟨oc13, od13, .func (PySem.W.fnOf "are_members" "are_members" (defArgs s_are_members) (defBody s_are_members) (defScope s_are_members) .none kV13 dc13 pm13 an13 cd13 ct13), sl13⟩)
    (c13 : PySem.W.codeIn K cd13 "are_members" = true)
    (k13 : PySem.W.keepIn K (.ref f13) = true)
    (a14 : PySem.W.nsIn K mainGlobals "is_value_within" = some (some (.ref f14)))
    (l14 : K.lookup f14 = some ⟨oc14, od14, .func (PySem.W.fnOf "is_value_within" "is_value_within" (defArgs s_is_value_within) (defBody s_is_value_within) (defScope s_is_value_within) .none kV14 dc14 pm14 an14 cd14 ct14), sl14⟩)
    (c14 : PySem.W.codeIn K cd14 "is_value_within" = true)
    (k14 : PySem.W.keepIn K (.ref f14) = true)
    (a15 : PySem.W.nsIn K mainGlobals "is_value" = some (some (.ref f15)))
    (l15 : K.lookup f15 = some ⟨oc15, od15, .func (PySem.W.fnOf "is_value" "is_value" (defArgs s_is_value) (defBody s_is_value) (defScope s_is_value) .none kV15 dc15 pm15 an15 cd15 ct15), sl15⟩)
    (c15 : PySem.W.codeIn K cd15 "is_value" = true)
    (k15 : PySem.W.keepIn K (.ref f15) = true)
    (a16 : PySem.W.nsIn K mainGlobals "need_value" = some (some (.ref f16)))
    (l16 : K.lookup f16 = some ⟨oc16, od16, .func (PySem.W.fnOf "need_value" "need_value" (defArgs s_need_value) (defBody s_need_value) (defScope s_need_value) .none kV16 dc16 pm16 an16 cd16 ct16), sl16⟩)
    (c16 : PySem.W.codeIn K cd16 "need_value" = true)
    (k16 : PySem.W.keepIn K (.ref f16) = true)
    (a17 : PySem.W.nsIn K mainGlobals "is_test" = some (some (.ref f17)))
    (l17 : K.lookup f17 = some ⟨oc17, od17, .func (PySem.W.fnOf "is_test" "is_test" (defArgs s_is_test) (defBody s_is_test) (defScope s_is_test) .none kV17 dc17 pm17 an17 cd17 ct17), sl17⟩)
    (c17 : PySem.W.codeIn K cd17 "is_test" = true)
    (k17 : PySem.W.keepIn K (.ref f17) = true)
    (a18 : PySem.W.nsIn K mainGlobals "need_test" = some (some (.ref f18)))
    (l18 : K.lookup f18 = some ⟨oc18, od18, .func (PySem.W.fnOf "need_test" "need_test" (defArgs s_need_test) (defBody s_need_test) (defScope s_need_test) .none kV18 dc18 pm18 an18 cd18 ct18), sl18⟩)
    (c18 : PySem.W.codeIn K cd18 "need_test" = true)
    (k18 : PySem.W.keepIn K (.ref f18) = true)
    (a19 : PySem.W.nsIn K mainGlobals "order_of_values" = some (some (.ref f19)))
    (l19 : K.lookup f19 = some ⟨oc19, od19, .func (PySem.W.fnOf "order_of_values" "order_of_values" (defArgs s_order_of_values) (defBody s_order_of_values) (defScope s_order_of_values) .none kV19 dc19 pm19 an19 cd19 ct19), sl19⟩)
    (c19 : PySem.W.codeIn K cd19 "order_of_values" = true)
    (k19 : PySem.W.keepIn K (.ref f19) = true)
    (a20 : PySem.W.nsIn K mainGlobals "holds" = some (some (.ref f20)))
    (l20 : K.lookup f20 = some ⟨oc20, od20, .func (PySem.W.fnOf "holds" "holds" (defArgs s_holds) (defBody s_holds) (defScope s_holds) .none kV20 dc20 pm20 an20 cd20 ct20), sl20⟩)
    (c20 : PySem.W.codeIn K cd20 "holds" = true)
    (k20 : PySem.W.keepIn K (.ref f20) = true)
    (a21 : PySem.W.nsIn K mainGlobals "passes" = some (some (.ref f21)))
    (l21 : K.lookup f21 = some ⟨oc21, od21, .func (PySem.W.fnOf "passes" "passes" (defArgs s_passes) (defBody s_passes) (defScope s_passes) .none kV21 dc21 pm21 an21 cd21 ct21), sl21⟩)
    (c21 : PySem.W.codeIn K cd21 "passes" = true)
    (k21 : PySem.W.keepIn K (.ref f21) = true)
    (a22 : PySem.W.nsIn K mainGlobals "_law_begun" = some (some (.ref f22)))
    (l22 : K.lookup f22 = some ⟨oc22, od22, .func (PySem.W.fnOf "_law_begun" "_law_begun" (defArgs s_law_begun) (defBody s_law_begun) (defScope s_law_begun) .none kV22 dc22 pm22 an22 cd22 ct22), sl22⟩)
    (c22 : PySem.W.codeIn K cd22 "_law_begun" = true)
    (k22 : PySem.W.keepIn K (.ref f22) = true)
    (a23 : PySem.W.nsIn K mainGlobals "_law_mixed" = some (some (.ref f23)))
    (l23 : K.lookup f23 = some ⟨oc23, od23, .func (PySem.W.fnOf "_law_mixed" "_law_mixed" (defArgs s_law_mixed) (defBody s_law_mixed) (defScope s_law_mixed) .none kV23 dc23 pm23 an23 cd23 ct23), sl23⟩)
    (c23 : PySem.W.codeIn K cd23 "_law_mixed" = true)
    (k23 : PySem.W.keepIn K (.ref f23) = true)
    (a24 : PySem.W.nsIn K mainGlobals "_law_draw" = some (some (.ref f24)))
    (l24 : K.lookup f24 = some ⟨oc24, od24, .func (PySem.W.fnOf "_law_draw" "_law_draw" (defArgs s_law_draw) (defBody s_law_draw) (defScope s_law_draw) .none kV24 dc24 pm24 an24 cd24 ct24), sl24⟩)
    (c24 : PySem.W.codeIn K cd24 "_law_draw" = true)
    (k24 : PySem.W.keepIn K (.ref f24) = true)
    (a25 : PySem.W.nsIn K mainGlobals "_law_pick" = some (some (.ref f25)))
    (l25 : K.lookup f25 = some ⟨oc25, od25, .func (PySem.W.fnOf "_law_pick" "_law_pick" (defArgs s_law_pick) (defBody s_law_pick) (defScope s_law_pick) .none kV25 dc25 pm25 an25 cd25 ct25), sl25⟩)
    (c25 : PySem.W.codeIn K cd25 "_law_pick" = true)
    (k25 : PySem.W.keepIn K (.ref f25) = true)
    (a26 : PySem.W.nsIn K mainGlobals "_law_is" = some (some (.ref f26)))
    (l26 : K.lookup f26 = some ⟨oc26, od26, .func (PySem.W.fnOf "_law_is" "_law_is" (defArgs s_law_is) (defBody s_law_is) (defScope s_law_is) .none kV26 dc26 pm26 an26 cd26 ct26), sl26⟩)
    (c26 : PySem.W.codeIn K cd26 "_law_is" = true)
    (k26 : PySem.W.keepIn K (.ref f26) = true)
    (a27 : PySem.W.nsIn K mainGlobals "_law_near" = some (some (.ref f27)))
    (l27 : K.lookup f27 = some ⟨oc27, od27, .func (PySem.W.fnOf "_law_near" "_law_near" (defArgs s_law_near) (defBody s_law_near) (defScope s_law_near) .none kV27 dc27 pm27 an27 cd27 ct27), sl27⟩)
    (c27 : PySem.W.codeIn K cd27 "_law_near" = true)
    (k27 : PySem.W.keepIn K (.ref f27) = true)
    (a28 : PySem.W.nsIn K mainGlobals "_law_caught" = some (some (.ref f28)))
    (l28 : K.lookup f28 = some ⟨oc28, od28, .func (PySem.W.fnOf "_law_caught" "_law_caught" (defArgs s_law_caught) (defBody s_law_caught) (defScope s_law_caught) .none kV28 dc28 pm28 an28 cd28 ct28), sl28⟩)
    (c28 : PySem.W.codeIn K cd28 "_law_caught" = true)
    (k28 : PySem.W.keepIn K (.ref f28) = true)
    (a29 : PySem.W.nsIn K mainGlobals "_law_with_point" = some (some (.ref f29)))
    (l29 : K.lookup f29 = some ⟨oc29, od29, .func (PySem.W.fnOf "_law_with_point" "_law_with_point" (defArgs s_law_with_point) (defBody s_law_with_point) (defScope s_law_with_point) .none kV29 dc29 pm29 an29 cd29 ct29), sl29⟩)
    (c29 : PySem.W.codeIn K cd29 "_law_with_point" = true)
    (k29 : PySem.W.keepIn K (.ref f29) = true)
    (a30 : PySem.W.nsIn K mainGlobals "_law_some_points" = some (some (.ref f30)))
    (l30 : K.lookup f30 = some ⟨oc30, od30, .func (PySem.W.fnOf "_law_some_points" "_law_some_points" (defArgs s_law_some_points) (defBody s_law_some_points) (defScope s_law_some_points) .none kV30 dc30 pm30 an30 cd30 ct30), sl30⟩)
    (c30 : PySem.W.codeIn K cd30 "_law_some_points" = true)
    (k30 : PySem.W.keepIn K (.ref f30) = true)
    (a31 : PySem.W.nsIn K mainGlobals "_law_some_decimal" = some (some (.ref f31)))
    (l31 : K.lookup f31 = some ⟨oc31, od31, .func (PySem.W.fnOf "_law_some_decimal" "_law_some_decimal" (defArgs s_law_some_decimal) (defBody s_law_some_decimal) (defScope s_law_some_decimal) .none kV31 dc31 pm31 an31 cd31 ct31), sl31⟩)
    (c31 : PySem.W.codeIn K cd31 "_law_some_decimal" = true)
    (k31 : PySem.W.keepIn K (.ref f31) = true)
    (a32 : PySem.W.nsIn K mainGlobals "_law_some_value" = some (some (.ref f32)))
    (l32 : K.lookup f32 = some ⟨oc32, od32, .func (PySem.W.fnOf "_law_some_value" "_law_some_value" (defArgs s_law_some_value) (defBody s_law_some_value) (defScope s_law_some_value) .none kV32 dc32 pm32 an32 cd32 ct32), sl32⟩)
    (c32 : PySem.W.codeIn K cd32 "_law_some_value" = true)
    (k32 : PySem.W.keepIn K (.ref f32) = true)
    (a33 : PySem.W.nsIn K mainGlobals "_law_order" = some (some (.ref f33)))
    (l33 : K.lookup f33 = some ⟨oc33, od33, .func (PySem.W.fnOf "_law_order" "_law_order" (defArgs s_law_order) (defBody s_law_order) (defScope s_law_order) .none kV33 dc33 pm33 an33 cd33 ct33), sl33⟩)
    (c33 : PySem.W.codeIn K cd33 "_law_order" = true)
    (k33 : PySem.W.keepIn K (.ref f33) = true)
    (a34 : PySem.W.nsIn K mainGlobals "_law_passes" = some (some (.ref f34)))
    (l34 : K.lookup f34 = some ⟨oc34, od34, .func (PySem.W.fnOf "_law_passes" "_law_passes" (defArgs s_law_passes) (defBody s_law_passes) (defScope s_law_passes) .none kV34 dc34 pm34 an34 cd34 ct34), sl34⟩)
    (c34 : PySem.W.codeIn K cd34 "_law_passes" = true)
    (k34 : PySem.W.keepIn K (.ref f34) = true)
    (a35 : PySem.W.nsIn K mainGlobals "_law_some_test" = some (some (.ref f35)))
    (l35 : K.lookup f35 = some ⟨oc35, od35, .func (PySem.W.fnOf "_law_some_test" "_law_some_test" (defArgs s_law_some_test) (defBody s_law_some_test) (defScope s_law_some_test) .none kV35 dc35 pm35 an35 cd35 ct35), sl35⟩)
    (c35 : PySem.W.codeIn K cd35 "_law_some_test" = true)
    (k35 : PySem.W.keepIn K (.ref f35) = true)
    (a36 : PySem.W.nsIn K mainGlobals "_law_is_test" = some (some (.ref f36)))
    (l36 : K.lookup f36 = some ⟨oc36, od36, .func (PySem.W.fnOf "_law_is_test" "_law_is_test" (defArgs s_law_is_test) (defBody s_law_is_test) (defScope s_law_is_test) .none kV36 dc36 pm36 an36 cd36 ct36), sl36⟩)
    (c36 : PySem.W.codeIn K cd36 "_law_is_test" = true)
    (k36 : PySem.W.keepIn K (.ref f36) = true)
    (a37 : PySem.W.nsIn K mainGlobals "law" = some (some (.ref f37)))
    (l37 : K.lookup f37 = some ⟨oc37, od37, .func (PySem.W.fnOf "law" "law" (defArgs s_law) (defBody s_law) (defScope s_law) .none kV37 dc37 pm37 an37 (.ref c) ct37), sl37⟩)
    (c37 : PySem.W.codeIn K (.ref c) "law" = true)
    (z_len : PySem.W.nsIn K mainGlobals "len" = some none)
    (z_abs : PySem.W.nsIn K mainGlobals "abs" = some none)
    (z_max : PySem.W.nsIn K mainGlobals "max" = some none)
    (z_min : PySem.W.nsIn K mainGlobals "min" = some none)
    (z_ord : PySem.W.nsIn K mainGlobals "ord" = some none)
    (z_int : PySem.W.nsIn K mainGlobals "int" = some none)
    (z_str : PySem.W.nsIn K mainGlobals "str" = some none)
    (z_bool : PySem.W.nsIn K mainGlobals "bool" = some none)
    (z_tuple : PySem.W.nsIn K mainGlobals "tuple" = some none)
    (z_list : PySem.W.nsIn K mainGlobals "list" = some none)
    (z_dict : PySem.W.nsIn K mainGlobals "dict" = some none)
    (z_isi : PySem.W.nsIn K mainGlobals "isinstance" = some none)
    (z_all : PySem.W.nsIn K mainGlobals "all" = some none)
    (z_any : PySem.W.nsIn K mainGlobals "any" = some none)
    (z_range : PySem.W.nsIn K mainGlobals "range" = some none)
    (z_zip : PySem.W.nsIn K mainGlobals "zip" = some none)
    (z_enum : PySem.W.nsIn K mainGlobals "enumerate" = some none)
    (q_FIRST_HIGH : PySem.W.nsIn K mainGlobals "FIRST_HIGH" = some (some qv_FIRST_HIGH))
    (qk_FIRST_HIGH : vOk (.int 55296) qv_FIRST_HIGH)
    (q_FIRST_LOW : PySem.W.nsIn K mainGlobals "FIRST_LOW" = some (some qv_FIRST_LOW))
    (qk_FIRST_LOW : vOk (.int 56320) qv_FIRST_LOW)
    (q_LAST_HIGH : PySem.W.nsIn K mainGlobals "LAST_HIGH" = some (some qv_LAST_HIGH))
    (qk_LAST_HIGH : vOk (.int 56319) qv_LAST_HIGH)
    (q_LAST_LOW : PySem.W.nsIn K mainGlobals "LAST_LOW" = some (some qv_LAST_LOW))
    (qk_LAST_LOW : vOk (.int 57343) qv_LAST_LOW)
    (q_MOST_LEVELS : PySem.W.nsIn K mainGlobals "MOST_LEVELS" = some (some qv_MOST_LEVELS))
    (qk_MOST_LEVELS : vOk (.int 30) qv_MOST_LEVELS)
    (q_MOST_POINT : PySem.W.nsIn K mainGlobals "MOST_POINT" = some (some qv_MOST_POINT))
    (qk_MOST_POINT : vOk (.int 1114111) qv_MOST_POINT)
    (q_NUMBER : PySem.W.nsIn K mainGlobals "NUMBER" = some (some qv_NUMBER))
    (qk_NUMBER : vOk (.str "number") qv_NUMBER)
    (q_SIGNS : PySem.W.nsIn K mainGlobals "SIGNS" = some (some (.ref qa_SIGNS)))
    (ql_SIGNS : K.lookup qa_SIGNS = some ⟨.type "tuple", qo_SIGNS, .seq qi_SIGNS qn_SIGNS, qs_SIGNS⟩)
    (qz_SIGNS : qi_SIGNS.size ≤ sizeLine)
    (qk_SIGNS : vsOk [.str "<", .str "<=", .str "==", .str ">=", .str ">"] qi_SIGNS.toList)
    (q_STRING : PySem.W.nsIn K mainGlobals "STRING" = some (some qv_STRING))
    (qk_STRING : vOk (.str "string") qv_STRING)
    (q_WORDS : PySem.W.nsIn K mainGlobals "WORDS" = some (some (.ref qa_WORDS)))
    (ql_WORDS : K.lookup qa_WORDS = some ⟨.type "tuple", qo_WORDS, .seq qi_WORDS qn_WORDS, qs_WORDS⟩)
    (qz_WORDS : qi_WORDS.size ≤ sizeLine)
    (qk_WORDS : vsOk [.str "null", .str "true", .str "false"] qi_WORDS.toList)
    (eI_InvalidNumber : PySem.W.nsIn K mainGlobals "InvalidNumber" = some (some (.ref c_InvalidNumber)))
    (eq_InvalidNumber : PySem.W.excIn K c_InvalidNumber bmVE "ValueError.__new__" = true)
    (ek_InvalidNumber : PySem.W.keepIn K (.ref c_InvalidNumber) = true)
    (eb_InvalidNumber : PySem.W.subIn K (.ref c_InvalidNumber) (.type "BaseException") = some true)
    (et_InvalidNumber : PySem.W.typeIn K (.ref c_InvalidNumber) = some (.type "type"))
    (eI_InvalidTest : PySem.W.nsIn K mainGlobals "InvalidTest" = some (some (.ref c_InvalidTest)))
    (eq_InvalidTest : PySem.W.excIn K c_InvalidTest bmVE "ValueError.__new__" = true)
    (ek_InvalidTest : PySem.W.keepIn K (.ref c_InvalidTest) = true)
    (eb_InvalidTest : PySem.W.subIn K (.ref c_InvalidTest) (.type "BaseException") = some true)
    (et_InvalidTest : PySem.W.typeIn K (.ref c_InvalidTest) = some (.type "type"))
    (eI_InvalidValue : PySem.W.nsIn K mainGlobals "InvalidValue" = some (some (.ref c_InvalidValue)))
    (eq_InvalidValue : PySem.W.excIn K c_InvalidValue bmVE "ValueError.__new__" = true)
    (ek_InvalidValue : PySem.W.keepIn K (.ref c_InvalidValue) = true)
    (eb_InvalidValue : PySem.W.subIn K (.ref c_InvalidValue) (.type "BaseException") = some true)
    (et_InvalidValue : PySem.W.typeIn K (.ref c_InvalidValue) = some (.type "type"))
    (eR : PySem.W.nsIn K mainGlobals "ReadError" = some (some (.ref c_ReadError)))
    (rb : PySem.W.subIn K (.ref c_ReadError) (.type "BaseException") = some true)
    (rd : PySem.W.hasDictIn K c_ReadError = true)
    (rt : PySem.W.typeIn K (.ref c_ReadError) = some (.type "type"))
    (sR_InvalidTest : PySem.W.subIn K (.ref c_InvalidTest) (.ref c_ReadError) = some true)
    (sR_InvalidValue : PySem.W.subIn K (.ref c_InvalidValue) (.ref c_ReadError) = some true)
    (hg_InvalidTest : PySem.W.findIn K (.ref c_InvalidTest) "__getattribute__" = some (some (.builtin "BaseException.__getattribute__")))
    (hk_InvalidTest : PySem.W.findIn K (.ref c_InvalidTest) "__getattr__" = some none)
    (hd_InvalidTest : PySem.W.hasDictIn K c_InvalidTest = true)
    (ha_InvalidTest : PySem.W.findIn K (.ref c_InvalidTest) "__class__" = some (some (.builtin "object.__class__")))
    (hm_InvalidTest : PySem.W.mroIn K c_InvalidTest (.type "object") = some true)
    (hg_InvalidValue : PySem.W.findIn K (.ref c_InvalidValue) "__getattribute__" = some (some (.builtin "BaseException.__getattribute__")))
    (hk_InvalidValue : PySem.W.findIn K (.ref c_InvalidValue) "__getattr__" = some none)
    (hd_InvalidValue : PySem.W.hasDictIn K c_InvalidValue = true)
    (ha_InvalidValue : PySem.W.findIn K (.ref c_InvalidValue) "__class__" = some (some (.builtin "object.__class__")))
    (hm_InvalidValue : PySem.W.mroIn K c_InvalidValue (.type "object") = some true)
    (hn : PySem.W.specialIn K (.builtin "object.__class__") "__get__" = some (some (.builtin "getset_descriptor.__get__")))
    (ht : PySem.W.takesIn K (.builtin "object.__class__") = some true)
    (nT : K.lookup Pt = none)
    (hC : PySem.W.codeHdIn K c Pt = true) :
    LamX.LawAtS PySem.Challenge.rw_earlysettled_k12_tests w K (L2.CX P w) 70 63 "script" mg fa h := by
  have e := hfa.symm.trans (PySem.W.mg_of X G a37)
  cases e
  have T : Tops w K mg c_InvalidNumber c_InvalidTest c_InvalidValue c_ReadError := ⟨⟨PySem.W.mg_none_of X G z_len, PySem.W.mg_none_of X G z_abs, PySem.W.mg_none_of X G z_max, PySem.W.mg_none_of X G z_min, PySem.W.mg_none_of X G z_ord, PySem.W.mg_none_of X G z_int, PySem.W.mg_none_of X G z_str, PySem.W.mg_none_of X G z_bool, PySem.W.mg_none_of X G z_tuple, PySem.W.mg_none_of X G z_list, PySem.W.mg_none_of X G z_dict, PySem.W.mg_none_of X G z_isi, PySem.W.mg_none_of X G z_all, PySem.W.mg_none_of X G z_any, PySem.W.mg_none_of X G z_range, PySem.W.mg_none_of X G z_zip, PySem.W.mg_none_of X G z_enum⟩, pfn_mk X G a0 l0 c0 k0, pfn_mk X G a1 l1 c1 k1, pfn_mk X G a2 l2 c2 k2, pfn_mk X G a3 l3 c3 k3, pfn_mk X G a4 l4 c4 k4, pfn_mk X G a5 l5 c5 k5, pfn_mk X G a6 l6 c6 k6, pfn_mk X G a7 l7 c7 k7, pfn_mk X G a8 l8 c8 k8, pfn_mk X G a9 l9 c9 k9, pfn_mk X G a10 l10 c10 k10, pfn_mk X G a11 l11 c11 k11, pfn_mk X G a12 l12 c12 k12, pfn_mk X G a13 l13 c13 k13, pfn_mk X G a14 l14 c14 k14, pfn_mk X G a15 l15 c15 k15, pfn_mk X G a16 l16 c16 k16, pfn_mk X G a17 l17 c17 k17, pfn_mk X G a18 l18 c18 k18, pfn_mk X G a19 l19 c19 k19, pfn_mk X G a20 l20 c20 k20, pfn_mk X G a21 l21 c21 k21, pfn_mk X G a22 l22 c22 k22, pfn_mk X G a23 l23 c23 k23, pfn_mk X G a24 l24 c24 k24, pfn_mk X G a25 l25 c25 k25, pfn_mk X G a26 l26 c26 k26, pfn_mk X G a27 l27 c27 k27, pfn_mk X G a28 l28 c28 k28, pfn_mk X G a29 l29 c29 k29, pfn_mk X G a30 l30 c30 k30, pfn_mk X G a31 l31 c31 k31, pfn_mk X G a32 l32 c32 k32, pfn_mk X G a33 l33 c33 k33, pfn_mk X G a34 l34 c34 k34, pfn_mk X G a35 l35 c35 k35, pfn_mk X G a36 l36 c36 k36, cst_mk X G q_FIRST_HIGH qk_FIRST_HIGH, cst_mk X G q_FIRST_LOW qk_FIRST_LOW, cst_mk X G q_LAST_HIGH qk_LAST_HIGH, cst_mk X G q_LAST_LOW qk_LAST_LOW, cst_mk X G q_MOST_LEVELS qk_MOST_LEVELS, cst_mk X G q_MOST_POINT qk_MOST_POINT, cst_mk X G q_NUMBER qk_NUMBER, ktc_mk X G q_SIGNS ql_SIGNS rfl rfl qz_SIGNS qk_SIGNS, cst_mk X G q_STRING qk_STRING, ktc_mk X G q_WORDS ql_WORDS rfl rfl qz_WORDS qk_WORDS, ⟨eq_InvalidNumber, PySem.W.mg_of X G eI_InvalidNumber, ek_InvalidNumber, eb_InvalidNumber, et_InvalidNumber⟩, ⟨eq_InvalidTest, PySem.W.mg_of X G eI_InvalidTest, ek_InvalidTest, eb_InvalidTest, et_InvalidTest⟩, ⟨eq_InvalidValue, PySem.W.mg_of X G eI_InvalidValue, ek_InvalidValue, eb_InvalidValue, et_InvalidValue⟩, PySem.W.mg_of X G eR, PySem.W.exm_ref rb rd rt sR_InvalidTest, PySem.W.exm_ref rb rd rt sR_InvalidValue, ⟨⟨hg_InvalidTest, hk_InvalidTest, eb_InvalidTest, hd_InvalidTest, ha_InvalidTest, hn, ht, hm_InvalidTest⟩, by unfold PySem.W.kitOne; rw [if_pos (by simp)]⟩, ⟨⟨hg_InvalidValue, hk_InvalidValue, eb_InvalidValue, hd_InvalidValue, ha_InvalidValue, hn, ht, hm_InvalidValue⟩, by unfold PySem.W.kitOne; rw [if_pos (by simp)]⟩⟩
  exact lawAt_mk (l := PySem.Challenge.rw_earlysettled_k12_tests) (c := c) (Pt := Pt) (q := "law.<locals>.<lambda>") hT nT (PySem.W.codeHd_of_K X hC) (fun s u => .of_eq rfl) (fun base TB => law_at T ⟨_, _, _, _, _, _, _, _, rfl, l37, c37⟩ TB)
end K12
open PySem PySem.W PyProof.Rows
set_option maxHeartbeats 0 in
theorem PySem.Challenge.cw_earlysettled_k12_tests_holds : PySem.Challenge.rw_earlysettled_k12_tests.Holds := by
  refine hdK12 ?_
  refine LamX.walk_ofTs (l := PySem.Challenge.rw_earlysettled_k12_tests) (n := 63) (k := 70) (x := "script") (CX := fun w => L2.CX K12.P w) rfl (by decide) rfl ⟨rfl, by decide, by decide⟩ (fun w h Y => PySem.W.km_in_of Y) ?F (fun _ _ _ _ _ h => DL.cx_false h)
  case F =>
    intro w mg fa h Y KX G hmg
    refine' K12.all_mk KX G hmg (PySem.W.km_tabs_of Y _ List.mem_cons_self) ?a0 ?l0 ?c0 ?k0 ?a1 ?l1 ?c1 ?k1 ?a2 ?l2 ?c2 ?k2 ?a3 ?l3 ?c3 ?k3 ?a4 ?l4 ?c4 ?k4 ?a5 ?l5 ?c5 ?k5 ?a6 ?l6 ?c6 ?k6 ?a7 ?l7 ?c7 ?k7 ?a8 ?l8 ?c8 ?k8 ?a9 ?l9 ?c9 ?k9 ?a10 ?l10 ?c10 ?k10 ?a11 ?l11 ?c11 ?k11 ?a12 ?l12 ?c12 ?k12 ?a13 ?l13 ?c13 ?k13 ?a14 ?l14 ?c14 ?k14 ?a15 ?l15 ?c15 ?k15 ?a16 ?l16 ?c16 ?k16 ?a17 ?l17 ?c17 ?k17 ?a18 ?l18 ?c18 ?k18 ?a19 ?l19 ?c19 ?k19 ?a20 ?l20 ?c20 ?k20 ?a21 ?l21 ?c21 ?k21 ?a22 ?l22 ?c22 ?k22 ?a23 ?l23 ?c23 ?k23 ?a24 ?l24 ?c24 ?k24 ?a25 ?l25 ?c25 ?k25 ?a26 ?l26 ?c26 ?k26 ?a27 ?l27 ?c27 ?k27 ?a28 ?l28 ?c28 ?k28 ?a29 ?l29 ?c29 ?k29 ?a30 ?l30 ?c30 ?k30 ?a31 ?l31 ?c31 ?k31 ?a32 ?l32 ?c32 ?k32 ?a33 ?l33 ?c33 ?k33 ?a34 ?l34 ?c34 ?k34 ?a35 ?l35 ?c35 ?k35 ?a36 ?l36 ?c36 ?k36 ?a37 ?l37 ?c37 ?z_len ?z_abs ?z_max ?z_min ?z_ord ?z_int ?z_str ?z_bool ?z_tuple ?z_list ?z_dict ?z_isi ?z_all ?z_any ?z_range ?z_zip ?z_enum ?q_FIRST_HIGH ?qk_FIRST_HIGH ?q_FIRST_LOW ?qk_FIRST_LOW ?q_LAST_HIGH ?qk_LAST_HIGH ?q_LAST_LOW ?qk_LAST_LOW ?q_MOST_LEVELS ?qk_MOST_LEVELS ?q_MOST_POINT ?qk_MOST_POINT ?q_NUMBER ?qk_NUMBER ?q_SIGNS ?ql_SIGNS ?qz_SIGNS ?qk_SIGNS ?q_STRING ?qk_STRING ?q_WORDS ?ql_WORDS ?qz_WORDS ?qk_WORDS ?eI_InvalidNumber ?eq_InvalidNumber ?ek_InvalidNumber ?eb_InvalidNumber ?et_InvalidNumber ?eI_InvalidTest ?eq_InvalidTest ?ek_InvalidTest ?eb_InvalidTest ?et_InvalidTest ?eI_InvalidValue ?eq_InvalidValue ?ek_InvalidValue ?eb_InvalidValue ?et_InvalidValue ?eR ?rb ?rd ?rt ?sR_InvalidTest ?sR_InvalidValue ?hg_InvalidTest ?hk_InvalidTest ?hd_InvalidTest ?ha_InvalidTest ?hm_InvalidTest ?hg_InvalidValue ?hk_InvalidValue ?hd_InvalidValue ?ha_InvalidValue ?hm_InvalidValue ?hn ?ht ?nT ?hC
    (case a0 => k_is)
    (case l0 => k_is)
    (case c0 => k_is)
    (case k0 => k_is)
    (case a1 => k_is)
    (case l1 => k_is)
    (case c1 => k_is)
    (case k1 => k_is)
    (case a2 => k_is)
    (case l2 => k_is)
    (case c2 => k_is)
    (case k2 => k_is)
    (case a3 => k_is)
    (case l3 => k_is)
    (case c3 => k_is)
    (case k3 => k_is)
    (case a4 => k_is)
    (case l4 => k_is)
    (case c4 => k_is)
    (case k4 => k_is)
    (case a5 => k_is)
    (case l5 => k_is)
    (case c5 => k_is)
    (case k5 => k_is)
    (case a6 => k_is)
    (case l6 => k_is)
    (case c6 => k_is)
    (case k6 => k_is)
    (case a7 => k_is)
    (case l7 => k_is)
    (case c7 => k_is)
    (case k7 => k_is)
    (case a8 => k_is)
    (case l8 => k_is)
    (case c8 => k_is)
    (case k8 => k_is)
    (case a9 => k_is)
    (case l9 => k_is)
    (case c9 => k_is)
    (case k9 => k_is)
    (case a10 => k_is)
    (case l10 => k_is)
    (case c10 => k_is)
    (case k10 => k_is)
    (case a11 => k_is)
    (case l11 => k_is)
    (case c11 => k_is)
    (case k11 => k_is)
    (case a12 => k_is)
    (case l12 => k_is)
    (case c12 => k_is)
    (case k12 => k_is)
    (case a13 => k_is)
    (case l13 => k_is)
    (case c13 => k_is)
    (case k13 => k_is)
    (case a14 => k_is)
    (case l14 => k_is)
    (case c14 => k_is)
    (case k14 => k_is)
    (case a15 => k_is)
    (case l15 => k_is)
    (case c15 => k_is)
    (case k15 => k_is)
    (case a16 => k_is)
    (case l16 => k_is)
    (case c16 => k_is)
    (case k16 => k_is)
    (case a17 => k_is)
    (case l17 => k_is)
    (case c17 => k_is)
    (case k17 => k_is)
    (case a18 => k_is)
    (case l18 => k_is)
    (case c18 => k_is)
    (case k18 => k_is)
    (case a19 => k_is)
    (case l19 => k_is)
    (case c19 => k_is)
    (case k19 => k_is)
    (case a20 => k_is)
    (case l20 => k_is)
    (case c20 => k_is)
    (case k20 => k_is)
    (case a21 => k_is)
    (case l21 => k_is)
    (case c21 => k_is)
    (case k21 => k_is)
    (case a22 => k_is)
    (case l22 => k_is)
    (case c22 => k_is)
    (case k22 => k_is)
    (case a23 => k_is)
    (case l23 => k_is)
    (case c23 => k_is)
    (case k23 => k_is)
    (case a24 => k_is)
    (case l24 => k_is)
    (case c24 => k_is)
    (case k24 => k_is)
    (case a25 => k_is)
    (case l25 => k_is)
    (case c25 => k_is)
    (case k25 => k_is)
    (case a26 => k_is)
    (case l26 => k_is)
    (case c26 => k_is)
    (case k26 => k_is)
    (case a27 => k_is)
    (case l27 => k_is)
    (case c27 => k_is)
    (case k27 => k_is)
    (case a28 => k_is)
    (case l28 => k_is)
    (case c28 => k_is)
    (case k28 => k_is)
    (case a29 => k_is)
    (case l29 => k_is)
    (case c29 => k_is)
    (case k29 => k_is)
    (case a30 => k_is)
    (case l30 => k_is)
    (case c30 => k_is)
    (case k30 => k_is)
    (case a31 => k_is)
    (case l31 => k_is)
    (case c31 => k_is)
    (case k31 => k_is)
    (case a32 => k_is)
    (case l32 => k_is)
    (case c32 => k_is)
    (case k32 => k_is)
    (case a33 => k_is)
    (case l33 => k_is)
    (case c33 => k_is)
    (case k33 => k_is)
    (case a34 => k_is)
    (case l34 => k_is)
    (case c34 => k_is)
    (case k34 => k_is)
    (case a35 => k_is)
    (case l35 => k_is)
    (case c35 => k_is)
    (case k35 => k_is)
    (case a36 => k_is)
    (case l36 => k_is)
    (case c36 => k_is)
    (case k36 => k_is)
    (case a37 => k_is)
    (case l37 => k_is)
    (case c37 => k_is)
    (case z_len => k_is)
    (case z_abs => k_is)
    (case z_max => k_is)
    (case z_min => k_is)
    (case z_ord => k_is)
    (case z_int => k_is)
    (case z_str => k_is)
    (case z_bool => k_is)
    (case z_tuple => k_is)
    (case z_list => k_is)
    (case z_dict => k_is)
    (case z_isi => k_is)
    (case z_all => k_is)
    (case z_any => k_is)
    (case z_range => k_is)
    (case z_zip => k_is)
    (case z_enum => k_is)
    (case q_FIRST_HIGH => k_is)
    (case qk_FIRST_HIGH => first | exact ⟨_, rfl⟩ | rfl)
    (case q_FIRST_LOW => k_is)
    (case qk_FIRST_LOW => first | exact ⟨_, rfl⟩ | rfl)
    (case q_LAST_HIGH => k_is)
    (case qk_LAST_HIGH => first | exact ⟨_, rfl⟩ | rfl)
    (case q_LAST_LOW => k_is)
    (case qk_LAST_LOW => first | exact ⟨_, rfl⟩ | rfl)
    (case q_MOST_LEVELS => k_is)
    (case qk_MOST_LEVELS => first | exact ⟨_, rfl⟩ | rfl)
    (case q_MOST_POINT => k_is)
    (case qk_MOST_POINT => first | exact ⟨_, rfl⟩ | rfl)
    (case q_NUMBER => k_is)
    (case qk_NUMBER => first | exact ⟨_, rfl⟩ | rfl)
    (case q_SIGNS => k_is)
    (case ql_SIGNS => k_is)
    (case qz_SIGNS => decide)
    (case qk_SIGNS => exact ⟨_, _, rfl, (by first | exact ⟨_, rfl⟩ | rfl), ⟨_, _, rfl, (by first | exact ⟨_, rfl⟩ | rfl), ⟨_, _, rfl, (by first | exact ⟨_, rfl⟩ | rfl), ⟨_, _, rfl, (by first | exact ⟨_, rfl⟩ | rfl), ⟨_, _, rfl, (by first | exact ⟨_, rfl⟩ | rfl), rfl⟩⟩⟩⟩⟩)
    (case q_STRING => k_is)
    (case qk_STRING => first | exact ⟨_, rfl⟩ | rfl)
    (case q_WORDS => k_is)
    (case ql_WORDS => k_is)
    (case qz_WORDS => decide)
    (case qk_WORDS => exact ⟨_, _, rfl, (by first | exact ⟨_, rfl⟩ | rfl), ⟨_, _, rfl, (by first | exact ⟨_, rfl⟩ | rfl), ⟨_, _, rfl, (by first | exact ⟨_, rfl⟩ | rfl), rfl⟩⟩⟩)
    (case eI_InvalidNumber => k_is)
    (case eq_InvalidNumber => first | kernel_rfl | rfl)
    (case ek_InvalidNumber => k_is)
    (case eb_InvalidNumber => k_is)
    (case et_InvalidNumber => k_is)
    (case eI_InvalidTest => k_is)
    (case eq_InvalidTest => first | kernel_rfl | rfl)
    (case ek_InvalidTest => k_is)
    (case eb_InvalidTest => k_is)
    (case et_InvalidTest => k_is)
    (case eI_InvalidValue => k_is)
    (case eq_InvalidValue => first | kernel_rfl | rfl)
    (case ek_InvalidValue => k_is)
    (case eb_InvalidValue => k_is)
    (case et_InvalidValue => k_is)
    (case eR => k_is)
    (case rb => k_is)
    (case rd => k_is)
    (case rt => k_is)
    (case sR_InvalidTest => k_is)
    (case sR_InvalidValue => k_is)
    (case hg_InvalidTest => k_is)
    (case hk_InvalidTest => k_is)
    (case hd_InvalidTest => k_is)
    (case ha_InvalidTest => k_is)
    (case hm_InvalidTest => k_is)
    (case hg_InvalidValue => k_is)
    (case hk_InvalidValue => k_is)
    (case hd_InvalidValue => k_is)
    (case ha_InvalidValue => k_is)
    (case hm_InvalidValue => k_is)
    (case hn => k_is)
    (case ht => k_is)
    (case nT => first | kernel_rfl | rfl)
    (case hC => first | kernel_rfl | rfl)

